import PyProof.Rows.All
import Wide.All
import OpenK.AllK
import Wide.FinOn
import HandS.ForMost
import HandS.Wide
import HandS.Evl
import HandS.Conv
import HandS.Lambda
import HandS.ExcInit
import HandS.ExcField
import HandS.ExcIs
import HandS.ExcValue
import KE.KExcIs
import HandS.IsInst
import HandS.EndTab
import HandS.WordsExc
import HandS.Walk
import PyProof.Rows.NestShow
import HandS.Property
import HandS.DictComp
import HandS.Defaults
import HandS.Strs
import PyProof.TupleOfSeq
import HandS.More
import KE.GoesEnum
import HandS.Iter
import HandS.Zip
import HandS.Text
import HandS.Deep
import HandS.RaiseMore
import PyProof.ListStr
import HandS.SetTxt0
import HandS.SetFor
import HandS.ExcOwn
import HandS.MakeKw
import PyProof.AutoSeq1
import HandS.MakeKwOnly
import KE.KTupSum
import KE.DatumOrd
import HandS.SortKw
import HandS.Star
import HandS.Style
import HandS.TryOnly
import HandS.TupAny
import HandS.Finally
import HandS.TupMul
import HandS.OwnEq
import HandS.DictEq
import KE.DataMinMax
import KE.KRevSl
import HandS.Small
import HandS.ClsMeth
import HandS.CallLocal
import KE.KDictZip
import KE.KDictList
import KE.SortData
import KE.SortKeyHeap
import PyProof.Rows.TupAdd
import HandS.EndBits
import PySem.Challenge.RW_wholeprint_k01_errors_made
set_option Elab.async false
set_option autoImplicit false
set_option linter.all false
set_option maxRecDepth 100000
set_option maxHeartbeats 4000000
namespace WP
open PySem L2
structure Bi (mg : Str → Option Value) : Prop where
  int : mg "int" = none
  str : mg "str" = none
  len : mg "len" = none
  list : mg "list" = none
  range : mg "range" = none
  min : mg "min" = none
  max : mg "max" = none
  sorted : mg "sorted" = none
  set : mg "set" = none
  tuple : mg "tuple" = none
  dict : mg "dict" = none
  isinstance : mg "isinstance" = none
  repr : mg "repr" = none
  zip : mg "zip" = none
  enumerate : mg "enumerate" = none
  all : mg "all" = none
  sum : mg "sum" = none
  bool : mg "bool" = none
structure Dn (P : Program) (w : World) (K : PySem.W.Frag) (mg : Str → Option Value) (base : Heap) (CX : CXT) (k : Nat) (x : Str) (ps : List Str) (sp : Sp) : Prop where
  ex : ∃ f fd, mg x = some (.ref f) ∧ PySem.W.keepIn K (.ref f) = true ∧ FnOk P w K mg base CX k f fd ps sp ∧ Binds K fd ps []
theorem pe_d {X : Cx} {CX : CXT} {k : Nat} {ps : List Str} {sp : Sp} {E : XK} {x : Str} {p pos : Pos} {e : Expr} {es : List Expr} {t : TA} (F : Dn X.prog X.w X.K X.mg X.base CX k x ps sp) (hr : Room k X.A) (hx : Passes CX X E)
    (ha : PA X (e :: es) t) (hg : Gl X x := by rfl) (hdb : (x == ("__debug__" : Str)) = false := by decide) (he : starEach (e :: es) X.env = (false, eval e X.env) :: starEach es X.env := by rfl) (hpl : (backTo pos (starEach es X.env)).any (·.1) = false := by rfl) :
    PE X (.Call (.Name x p) (e :: es) [] pos) (tCall sp [] E t) := by
  obtain ⟨f, fd, hm, hk, F, hb⟩ := F.ex
  exact pe_call F hr hg hm hk hb .nil hx ha hdb he hpl
def hd2 (d w : Addr) (H : Hp) : Hp := fun b => if b = d ∨ b = w then none else H b
theorem hd2_of {d w b : Addr} {H : Hp} {o : HO} (h : hd2 d w H b = some o) : H b = some o ∧ b ≠ d ∧ b ≠ w := by
  unfold hd2 at h
  split at h
  · cases h
  · rename_i n
    exact ⟨h, fun e => n (.inl e), fun e => n (.inr e)⟩
theorem hd2_mk {d w b : Addr} {H : Hp} {o : HO} (h : H b = some o) (h1 : b ≠ d) (h2 : b ≠ w) : hd2 d w H b = some o := by
  unfold hd2
  rw [if_neg (fun e => e.elim h1 h2)]
  exact h
theorem hd2_sub {d w : Addr} {H : Hp} : Same (hd2 d w H) H := fun _ _ h => (hd2_of h).1
theorem hd2_new {d w p : Addr} {H : Hp} {o : HO} (h : H p = none) : Same (hd2 d w H) (hd2 d w (upd H p o)) := fun b u e => by
  obtain ⟨h1, h2, h3⟩ := hd2_of e
  exact hd2_mk (by rw [upd_ne (ne_of_none h1 h)]; exact h1) h2 h3
theorem hd2_d {d w : Addr} {H : Hp} {o : HO} : Same (hd2 d w H) (hd2 d w (upd H d o)) := fun b u e => by
  obtain ⟨h1, h2, h3⟩ := hd2_of e
  exact hd2_mk (by rw [upd_ne h2]; exact h1) h2 h3
theorem hd2_w {d w : Addr} {H : Hp} {o : HO} : Same (hd2 d w H) (hd2 d w (upd H w o)) := fun b u e => by
  obtain ⟨h1, h2, h3⟩ := hd2_of e
  exact hd2_mk (by rw [upd_ne h3]; exact h1) h2 h3
theorem hd2_same {d w : Addr} {H H' : Hp} (s : Same H H') : Same (hd2 d w H) (hd2 d w H') := fun b u e => by
  obtain ⟨h1, h2, h3⟩ := hd2_of e
  exact hd2_mk (s _ _ h1) h2 h3
def drD (w c : Addr) (r t : Int) : HO := .dK [((.inr "wide" : Key), .ref w), (.inr "cells", .ref c), (.inr "rest", .int r), (.inr "turn", .int t)]
structure Dr (d w c : Addr) (B : Int) (H : Hp) : Prop where
  dict : ∃ r t, H d = some (drD w c r t) ∧ 0 ≤ t ∧ t ≤ B
  wide : ∃ ns : List Int, H w = some (.lst (ns.map V.int))
  cells : ∃ ns : List Int, hd2 d w H c = some (.lst (ns.map V.int))
theorem Dr.mono {d w c : Addr} {B B' : Int} {H : Hp} (D : Dr d w c B H) (h : B ≤ B') : Dr d w c B' H := by
  obtain ⟨⟨r, t, h1, h2, h3⟩, q, q'⟩ := D
  exact ⟨⟨r, t, h1, h2, by omega⟩, q, q'⟩
def spBegun (K : PySem.W.Frag) : Sp := fun vs H Q _ => ∃ (a : Addr) (ns : List Int), vs = [.ref a] ∧ SqL K H a (ns.map V.int) ∧ ns.length ≤ 63 ∧
  ∀ d w c H', Dr d w c 0 H' → Same H (hd2 d w H') → Q (.ref d) H'
def spBlend : Sp := fun vs H Q _ => ∃ (d w c : Addr) (B : Int), vs = [.ref d] ∧ Dr d w c B H ∧ B ≤ 2 ^ 40 ∧ ∀ r H', Dr d w c (B + 1) H' → Same (hd2 d w H) (hd2 d w H') → Q (.int r) H'
def spTake : Sp := fun vs H Q _ => ∃ (d w c : Addr) (B n : Int), vs = [.ref d, .int n] ∧ Dr d w c B H ∧ B ≤ 2 ^ 40 ∧ 0 < n ∧ n < 2 ^ 200 ∧ ∀ k H', 0 ≤ k → k < n → Dr d w c (B + 1) H' → Same (hd2 d w H) (hd2 d w H') → Q (.int k) H'
end WP
namespace WP
open PySem L2
section
variable {H : Hp} {d w c : Addr} {r t : Int}
theorem drGet {v : V} (k : Str) (h : H d = some (drD w c r t)) (e : valV ([((.inr "wide" : Key), V.ref w), (.inr "cells", .ref c), (.inr "rest", .int r), (.inr "turn", .int t)] : List (Key × V)) (.inr k) = some v) : DGet H d (.str k) (some v) := by
  rw [← e]
  exact DGet.k (k := Sum.inr k) h
theorem dv1 {x : V} {l : List (Key × V)} {k : Str} : valV (((.inr k : Key), x) :: l) (.inr k) = some x := valV_pos rfl
theorem dv2 {x : V} {l : List (Key × V)} {k j : Str} (h : ¬ k = j) : valV (((.inr k : Key), x) :: l) (.inr j) = valV l (.inr j) := valV_neg (fun e => h (Sum.inr.inj e))
theorem dg_wide (h : H d = some (drD w c r t)) : DGet H d (.str "wide") (some (.ref w)) := drGet _ h dv1
theorem dg_cells (h : H d = some (drD w c r t)) : DGet H d (.str "cells") (some (.ref c)) := drGet _ h (by rw [dv2 (by decide +kernel)]; exact dv1)
theorem dg_rest (h : H d = some (drD w c r t)) : DGet H d (.str "rest") (some (.int r)) := drGet _ h (by rw [dv2 (by decide +kernel), dv2 (by decide +kernel)]; exact dv1)
theorem dg_turn (h : H d = some (drD w c r t)) : DGet H d (.str "turn") (some (.int t)) := drGet _ h (by rw [dv2 (by decide +kernel), dv2 (by decide +kernel), dv2 (by decide +kernel)]; exact dv1)
theorem putK_hit {l : List (Key × V)} {k : Key} {y : V} {p : Key × V} (e : p.1 = k) : putK (p :: l) k y = (p.1, y) :: l.map (fun kv => if kv.1 = k then (kv.1, y) else kv) := by
  unfold putK
  rw [if_pos (by simp [e]), List.map_cons, if_pos e]
theorem putK_skip {l : List (Key × V)} {k : Key} {y : V} {p : Key × V} (e : ¬ p.1 = k) : putK (p :: l) k y = p :: putK l k y := by
  unfold putK
  have h : ((p :: l).any fun kv => decide (kv.1 = k)) = (l.any fun kv => decide (kv.1 = k)) := by simp [e]
  rw [h]
  split
  · rw [List.map_cons, if_neg e]
  · rfl
theorem pr_turn (t' : Int) : putK ([((.inr "wide" : Key), V.ref w), (.inr "cells", .ref c), (.inr "rest", .int r), (.inr "turn", .int t)] : List (Key × V)) (.inr "turn") (.int t') = [((.inr "wide" : Key), V.ref w), (.inr "cells", .ref c), (.inr "rest", .int r), (.inr "turn", .int t')] := by
  rw [putK_skip (fun e => absurd (Sum.inr.inj e) (by decide +kernel)), putK_skip (fun e => absurd (Sum.inr.inj e) (by decide +kernel)), putK_skip (fun e => absurd (Sum.inr.inj e) (by decide +kernel)), putK_hit rfl]
  rfl
theorem pr_rest (r' : Int) : putK ([((.inr "wide" : Key), V.ref w), (.inr "cells", .ref c), (.inr "rest", .int r), (.inr "turn", .int t)] : List (Key × V)) (.inr "rest") (.int r') = [((.inr "wide" : Key), V.ref w), (.inr "cells", .ref c), (.inr "rest", .int r'), (.inr "turn", .int t)] := by
  rw [putK_skip (fun e => absurd (Sum.inr.inj e) (by decide +kernel)), putK_skip (fun e => absurd (Sum.inr.inj e) (by decide +kernel)), putK_hit rfl, List.map_cons, if_neg (fun e => absurd (Sum.inr.inj e) (by decide +kernel))]
  rfl
theorem sml : (4 : Nat) < sizeLine := by rw [sizeLine_eq]; decide
theorem dp_turn (t' : Int) (h : H d = some (drD w c r t)) : DPut H d (.str "turn") (.int t') (upd H d (drD w c r t')) := by
  have := DPut.k (k := Sum.inr "turn") (v := .int t') h sml
  rw [pr_turn] at this
  exact this
theorem dp_rest (r' : Int) (h : H d = some (drD w c r t)) : DPut H d (.str "rest") (.int r') (upd H d (drD w c r' t)) := by
  have := DPut.k (k := Sum.inr "rest") (v := .int r') h sml
  rw [pr_rest] at this
  exact this
theorem Dr.newD {H : Hp} {B B' r' t' : Int} (D : Dr d w c B H) (h0 : 0 ≤ t') (hB : t' ≤ B') : Dr d w c B' (upd H d (drD w c r' t')) := by
  obtain ⟨⟨r, t, h1, _⟩, ⟨ns, h2⟩, ⟨ms, h3⟩⟩ := D
  exact ⟨⟨r', t', upd_same, h0, hB⟩, ⟨ns, by rw [upd_ne (ne_of h2 h1 (by intro z; cases z))]; exact h2⟩, ⟨ms, hd2_d _ _ h3⟩⟩
theorem Dr.new {H : Hp} {B : Int} {p : Addr} {o : HO} (D : Dr d w c B H) (hp : H p = none) : Dr d w c B (upd H p o) := by
  obtain ⟨⟨r, t, h1, h4⟩, ⟨ns, h2⟩, ⟨ms, h3⟩⟩ := D
  exact ⟨⟨r, t, by rw [upd_ne (ne_of_none h1 hp)]; exact h1, h4⟩, ⟨ns, by rw [upd_ne (ne_of_none h2 hp)]; exact h2⟩, ⟨ms, hd2_new hp _ _ h3⟩⟩
theorem Dr.newW {H : Hp} {B : Int} {ns : List Int} (D : Dr d w c B H) : Dr d w c B (upd H w (.lst (ns.map V.int))) := by
  obtain ⟨⟨r, t, h1, h4⟩, ⟨ms, h2⟩, ⟨ks, h3⟩⟩ := D
  exact ⟨⟨r, t, by rw [upd_ne (ne_of h1 h2 (by intro z; cases z))]; exact h1, h4⟩, ⟨ns, upd_same⟩, ⟨ks, hd2_w _ _ h3⟩⟩
end
end WP
namespace WP
open PySem L2
theorem at_map {α : Type} {f : α → V} {l : List α} {i : Nat} {x : V} (h : (l.map f)[i]? = some x) : ∃ a, l[i]? = some a ∧ x = f a := by
  rw [List.getElem?_map] at h
  cases e : l[i]? with
  | none => rw [e] at h; cases h
  | some a => rw [e] at h; exact ⟨a, rfl, (Option.some.inj h).symm⟩
theorem at_mem {α : Type} {l : List α} {i : Nat} {x : α} (h : l[i]? = some x) : x ∈ l := List.mem_of_getElem? h
end WP
namespace WP
open PySem L2
theorem sameT {K : PySem.W.Frag} {H H' : Hp} {a : Addr} {xs : List V} (e : Same H H') (h : SqT K H a xs) : SqT K H' a xs := by
  rcases h with (h | ⟨o, h⟩) | h
  · exact .inl (.inl (e _ _ h))
  · exact .inl (.inr ⟨o, e _ _ h⟩)
  · exact .inr h
mutual
theorem Dp.same {K : PySem.W.Frag} {H H' : Hp} (s : Same H H') : ∀ {d : PyData} {v : V}, Dp K H v d → Dp K H' v d
  | _, _, .non => .non
  | _, _, .bl b => .bl b
  | _, _, .int i => .int i
  | _, _, .str x => .str x
  | _, _, .lst h t => .lst (s.seq h) (DpAll.same s t)
  | _, _, .tup h t => .tup (sameT s h) (DpAll.same s t)
theorem DpAll.same {K : PySem.W.Frag} {H H' : Hp} (s : Same H H') : ∀ {ds : List PyData} {vs : List V}, DpAll K H vs ds → DpAll K H' vs ds
  | _, _, .nil => .nil
  | _, _, .cons a b => .cons (Dp.same s a) (DpAll.same s b)
end
theorem dpI {K : PySem.W.Frag} {H : Hp} : ∀ ns : List Int, DpAll K H (ns.map V.int) (ns.map PyData.int)
  | [] => .nil
  | _ :: r => .cons (.int _) (dpI r)
theorem dpS {K : PySem.W.Frag} {H : Hp} : ∀ ns : List Str, DpAll K H (ns.map V.str) (ns.map PyData.str)
  | [] => .nil
  | _ :: r => .cons (.str _) (dpS r)
theorem canI : ∀ ns : List Int, PyData.canLayAll0 (ns.map PyData.int) = true
  | [] => rfl
  | _ :: r => by simp only [List.map_cons, PyData.canLayAll0, PyData.canLay0, Bool.true_and]; exact canI r
theorem depI : ∀ ns : List Int, PyData.depthAll (ns.map PyData.int) = 0
  | [] => rfl
  | _ :: r => by simp only [List.map_cons, PyData.depthAll, PyData.depth, depI r]; rfl
theorem shI (ns : List Int) : SeqAt.shaped (.list (ns.map PyData.int)) = true := by
  unfold SeqAt.shaped
  simp only [PyData.canLay0, canI, PyData.depth, depI]
  rfl
theorem shN : SeqAt.shaped (.list []) = true := by decide +kernel
theorem eqv_nil (ds : List PyData) : PyData.eqv (.list ds) (.list []) = ds.isEmpty := by
  cases ds with
  | nil => simp [PyData.eqv, PyData.eqvAll]
  | cons a r => simp [PyData.eqv, PyData.eqvAll]
/-- a list of ints against a new [] -/
theorem neNilI {K : PySem.W.Frag} {H : Hp} {a p : Addr} {ns : List Int} {Q : VK} (h : H a = some (.lst (ns.map V.int))) (hp : H p = none) (q : Q (.bl (!ns.isEmpty)) (upd H p (.lst []))) : rNeD K (.ref a) (.ref p) (upd H p (.lst [])) Q := by
  refine ⟨_, _, .lst (SqL.of (by rw [upd_ne (ne_of_none h hp)]; exact h)) (dpI ns), .lst (SqL.of upd_same) .nil, shI ns, shN, ?_⟩
  rw [eqv_nil]
  cases ns <;> exact q
def spPick (K : PySem.W.Frag) : Sp := fun vs H Q _ => ∃ (d w c : Addr) (B : Int), Dr d w c B H ∧ B ≤ 2 ^ 40 ∧
  ((∃ (a : Addr) (xs : List V), vs = [.ref d, .ref a] ∧ SqL K (hd2 d w H) a xs ∧ xs ≠ [] ∧ xs.length < 2 ^ 60 ∧ ∀ (k : Nat) v H', xs[k]? = some v → Dr d w c (B + 1) H' → Same (hd2 d w H) (hd2 d w H') → Q v H') ∨
   (∃ (z : Str), vs = [.ref d, .str z] ∧ 0 < z.length ∧ z.length ≤ sizeLine ∧ ∀ (k : Nat) v H', z.cps.toList[k]? = some v → Dr d w c (B + 1) H' → Same (hd2 d w H) (hd2 d w H') → Q (.str ⟨#[v]⟩) H'))
end WP
namespace WP
open PySem L2
theorem seq0 {n : Nat} : seqIndex? 0 (n + 1) = some 0 := by simp [seqIndex?]
theorem mergeK_new {l kvs : List (Key × V)} {k : Key} {v : V} (h : valV l k = none) : mergeK l ((k, v) :: kvs) = mergeK (l ++ [(k, v)]) kvs := by
  show mergeK (putK l k v) kvs = _
  rw [putK_new v h]
theorem dv0 {k : Key} : valV ([] : List (Key × V)) k = none := rfl
theorem dr_merge {w c : Addr} {r t : Int} : HO.dK (mergeK [] [((.inr "wide" : Key), .ref w), (.inr "cells", .ref c), (.inr "rest", .int r), (.inr "turn", .int t)]) = drD w c r t := by
  rw [mergeK_new dv0, mergeK_new (by rw [List.nil_append, dv2 (by decide +kernel)]; exact dv0), mergeK_new (by rw [List.nil_append, List.singleton_append, dv2 (by decide +kernel), dv2 (by decide +kernel)]; exact dv0),
    mergeK_new (by simp only [List.nil_append, List.cons_append]; rw [dv2 (by decide +kernel), dv2 (by decide +kernel), dv2 (by decide +kernel)]; exact dv0)]
  rfl
end WP
namespace WP
open PySem L2 PySem.Spec PyProof.Rows
/-- the error object of the class cls at a, its own dict at d -/
def XvO (cls : Value) (d : Option Addr) (a : Addr) : HO := .ext fun h => ∃ (oe : Obj) (vs : Array Value), h.get? a = some oe ∧ Zc cls d oe ∧ oe.data = .fields vs
theorem xvO_ok {P : Program} {w : World} {H : Hp} {h : Heap} {a : Addr} {cls : Value} {d : Option Addr} {oe : Obj} {vs : Array Value} (e : h.get? a = some oe) (z : Zc cls d oe) (hd : oe.data = .fields vs) : ObjOk P w H h a (XvO cls d a) :=
  ⟨⟨oe, vs, e, z, hd⟩, ⟨oe, e⟩, fun _ _ ⟨o, v, q, r⟩ k => ⟨o, v, k o q, r⟩⟩
section
variable {X : Cx} {pins : List (Addr × Obj)} {σ : L2.St} {H : Hp} {s : Shared}
/-- an object of ours that is not tracked yet is tracked from now on -/
theorem adopt {a : Addr} {o : HO} (I : Inv X pins σ H s) (na : H a = none) (h0 : X.s_0.heap.get? a = none) (nL : X.env.locals ≠ a) (nc : ∀ y c, X.env.cells.lookup y = some c → c ≠ a) (np : ∀ p ∈ X.pn ++ pins, p.1 ≠ a)
    (new : ObjOk X.prog X.w (upd H a o) s.heap a o) : Inv X pins σ (upd H a o) s := by
  have old : ∀ b ob, X.s_0.heap.get? b = some ob → b ≠ a := fun b ob e z => by
    rw [z, h0] at e
    cases e
  have ub := I.base
  refine ⟨I.ok, I.os, I.bare, ⟨ub.keep, ub.slot, fun b ob e n hx => ?_, ub.there, fun b xs e => ?_, fun b ob u e => ?_, fun b ps e => ?_⟩, I.loc, I.cell, ?_, fun y c e => ?_, fun p hp => ?_, I.hok.laidN (fun _ _ q => q) na new, I.len⟩
  · rw [upd_ne (old b ob e)]
    exact ub.free b ob e n hx
  · have q := ub.tups b xs e
    rw [upd_ne (ne_of_none q na)]
    exact q
  · have q := ub.frzs b ob u e
    rw [upd_ne (ne_of_none q na)]
    exact q
  · obtain ⟨m, q⟩ := ub.tbls b ps e
    exact ⟨m, by rw [upd_ne (ne_of_none q na)]; exact q⟩
  · rw [upd_ne nL]
    exact I.free
  · rw [upd_ne (nc y c e)]
    exact I.freeC y c e
  · obtain ⟨p1, p2, p3⟩ := I.pin p hp
    exact ⟨p1, by rw [upd_ne (np p hp)]; exact p2, p3⟩
end
/-- what «except x as n» wishes of an error of the body that it takes: the error tracked, the suite's reading; slot i is n's -/
def wKeep (K : PySem.W.Frag) (c : Value) (i : Nat) (ts : Addr → TS) (D : Ends) : WX := fun cls d σ H =>
  PySem.W.exmOne K cls c = some true ∧ ∀ a, H a = none → ts a { nx := fun σ' H' => D.nx (σ'.set i none) H', rt := D.rt, bk := fun σ' H' => D.bk (σ'.set i none) H', ct := fun σ' H' => D.ct (σ'.set i none) H' } (σ.set i (some (.ref a))) (upd H a (XvO cls d a))
section
variable {X : Cx} {x n : Str} {c : Value} {i : Nat} {body rest : List Stmt} {b₀ : Stmt} {np pos pos' : Pos} {tb : WX → TS} {ts : Addr → TS}
theorem ps_try_keep (hs : X.stack = X.env :: X.outer) (hf : X.env.frame = some X.env.locals) (hN : X.N.Nodup) (hi : X.N[i]? = some n) (hln : X.env.kindOf n = some .local) (hc : Names X x c) (hex0 : X.ex = [])
    (hb : ∀ (W : WX) (pn : List (Addr × Obj)) (xe : Value → Shared → Prop), Takes (X.tr pn xe) W → PassesOwn (model X.prog X.w) X.A X.env xe → PSs (X.tr pn xe) body (tb W))
    (hsu : ∀ (a : Addr) (pn : List (Addr × Obj)), PSs (X.suite a pn) (b₀ :: rest) (ts a)) :
    PS X (.Try body [.ExceptHandler (some (.Name x np)) (some n) (b₀ :: rest) pos'] [] [] pos) (fun D σ H => tb (wKeep X.K c i ts D) D σ H) := by
  refine ⟨fun pins s σ H D I h => ?_⟩
  have okX := I.ok
  have frX : X.A.frames = some (X.env :: X.outer) := by rw [okX.frames, hs]
  refine wpAny_Try_except ?_
  refine wpAny_mono ((hb (wKeep X.K c i ts D) (X.pn ++ pins)
    (fun e s₁ => wpAny (model X.prog X.w) X.A (noteFrame e X.env) (fun _ s₂ => wpAny (model X.prog X.w) X.A (setFlight e none)
      (fun _ s₃ => wpAny (model X.prog X.w) X.A (handleBy e X.env [.ExceptHandler (some (.Name x np)) (some n) (b₀ :: rest) pos']) (SP X pins D) X.xe s₃) X.xe s₂) X.xe s₁)
    (fun u s' air => ?_) PassesOwn.looking).run [] s σ H D (I.toTry _) h) (fun fl s1 hsp => ?_) (fun e s1 he => he)
  · obtain ⟨a, B, sI, pins1, σ1, H1, cls, d, rfl, Jt, nb, up, sky, na, os, ag, hex, hts⟩ := air
    have J : Inv X pins σ1 H1 sI := Jt.ofTry okX
    have sky1 : Sky B (X.env :: X.outer) a (Zc cls d) X.env.locals s'.heap := by rw [← hs]; exact sky
    show wpAny (model X.prog X.w) X.A (noteFrame (.ref a) X.env) _ _ _
    refine Sky.land Zc.steady frX hf sky1 fun h3 fl3 up3 => ?_
    have J3 : Inv X pins σ1 H1 { s' with heap := h3 } := J.landed nb fl3.1 (up.trans up3) os ag
    obtain ⟨oe3, vs3, he3, hz3, hd3⟩ := fl3.there
    have out : a ∉ frs (X.env :: X.outer) := fun hm => by
      obtain ⟨_, ob, eb, hnf⟩ := fl3.2.2.1.mem hm
      rw [he3] at eb
      cases eb
      exact hnf _ hd3
    have nL : a ≠ X.env.locals := fun z => out (List.mem_filterMap.mpr ⟨X.env, List.mem_cons_self, by rw [hf, z]⟩)
    have nF : a ∉ X.fs := fun hm => by
      obtain ⟨e, he, q⟩ := List.mem_filterMap.mp hm
      exact out (List.mem_filterMap.mpr ⟨e, List.mem_cons_of_mem _ he, q⟩)
    have gone : sI.heap.get? a = none := by
      cases e : sI.heap.get? a with
      | none => rfl
      | some ob =>
        have q := nb a ob e (by rw [hs]; exact out)
        rw [fl3.2.1] at q
        cases q
    have S3 := J3.suite he3 hd3 na nL nF
    refine wpAny_handleBy_cons (codeAny_handlers_test ?_) (by intro q; cases q)
    have LT : PySem.W.Looks (model X.prog X.w) h3 (typeOf (.ref a)) cls := fun A Q E s k q => wpAny_typeOf_ref (k _ _ he3) (by rw [hz3.1]; exact q)
    have LM := PySem.W.exm_one (M := model X.prog X.w) (J3.kIn) LT hex
    have test : ∀ {Q : Value → Shared → Prop} {E : Value → Shared → Prop}, Q c { s' with heap := h3 } → wpAny (model X.prog X.w) (X.A.mark (some (.ref a))) (eval (.Name x np) X.env) Q E { s' with heap := h3 } := fun {Q E} q => by
      obtain ⟨hg, hdbg, hm | ⟨hm, hv, hnn⟩⟩ := hc
      · exact ld_glob (X := X.suite a ((a, oe3) :: (X.pn ++ pins))) S3 hg hm q hdbg
      · exact ld_blt (X := X.suite a ((a, oe3) :: (X.pn ++ pins))) S3 hg hm hv q hnn hdbg
    refine test (LM.here ?_)
    refine codeAny_handlers_suite_as ?_
    refine HandSPX.lands_againZ fl3 fun h4 fl4 up4 => ?_
    have J4 : Inv X pins σ1 H1 { s' with heap := h4 } := J.landed nb fl4.1 ((up.trans up3).trans up4) os ag
    obtain ⟨oe4, vs4, he4, hz4, hd4⟩ := fl4.there
    have z0 : X.s_0.heap.get? a = none := by
      cases e : X.s_0.heap.get? a with
      | none => rfl
      | some ob =>
        obtain ⟨o', q⟩ := J.base.there a ob e (by rw [hex0]; exact fun z => nomatch z)
        rw [gone] at q
        cases q
    have nc : ∀ y cc, X.env.cells.lookup y = some cc → cc ≠ a := fun y cc e z => by
      obtain ⟨v, ob, ho, hd⟩ := J4.cell y cc e
      have ho' : h4.get? cc = some ob := ho
      rw [z, he4] at ho'
      cases ho'
      rw [hd4] at hd
      cases hd
    have npn : ∀ p ∈ X.pn ++ pins, p.1 ≠ a := fun p hp z => by
      have q := (J.pin p hp).1
      rw [z, gone] at q
      cases q
    have A4 : Inv X pins σ1 (upd H1 a (XvO cls d a)) { s' with heap := h4 } := adopt J4 na z0 (Ne.symm nL) nc npn (xvO_ok he4 hz4 hd4)
    have S4 : Inv (X.suite a (X.pn ++ pins)) [] σ1 (upd H1 a (XvO cls d a)) { s' with heap := h4 } :=
      ⟨okX.suite _ _, A4.os, A4.bare, A4.base, A4.loc, A4.cell, A4.free, A4.freeC, fun p hp => A4.pin p (by rw [List.append_nil] at hp; exact hp), A4.hok, A4.len⟩
    refine store_ok (X := X.suite a (X.pn ++ pins)) (v := .ref a) S4 hN hi (.inl hln) rfl (fun s5 S5 => ?_) (.inr hln)
    refine wpAny_mono ((hsu a (X.pn ++ pins)).run [] s5 _ _ _ S5 (hts a na)) (fun f s6 hsp => ?_) (fun _ _ z => False.elim z)
    have fin : ∀ {σ6 : L2.St} {H6 : Hp} {Q : Shared → Prop}, Inv (X.suite a (X.pn ++ pins)) [] σ6 H6 s6 → (∀ s7, Inv X pins (σ6.set i none) H6 s7 → Q s7) →
        wpAny (model X.prog X.w) X.A (do bindName X.env n .none; unbindBehindTheSuite X.env n pos') (fun _ s7 => Q s7) X.xe s6 := fun {σ6 H6 Q} S6 hq =>
      gone_ok (X := X) (pins := pins) ⟨okX, S6.os, S6.bare, S6.base, S6.loc, S6.cell, S6.free, S6.freeC, fun p hp => S6.pin p (List.mem_append_left _ hp), S6.hok, S6.len⟩ hN hi hln hq
    cases f with
    | next =>
      obtain ⟨σ6, H6, S6, q6⟩ := hsp
      exact fin S6 fun s7 J7 => ⟨_, _, J7, q6⟩
    | brk =>
      obtain ⟨σ6, H6, S6, q6⟩ := hsp
      exact fin S6 fun s7 J7 => ⟨_, _, J7, q6⟩
    | cont =>
      obtain ⟨σ6, H6, S6, q6⟩ := hsp
      exact fin S6 fun s7 J7 => ⟨_, _, J7, q6⟩
    | ret u =>
      obtain ⟨v6, σ6, H6, S6, r6, q6⟩ := hsp
      exact fin S6 fun s7 J7 => ⟨_, _, _, J7, r6, q6⟩
  · cases fl with
    | next =>
      obtain ⟨σ2, H2, J2, q⟩ := hsp
      exact wpAny_execs_nil ⟨σ2, H2, J2.ofTry okX, q⟩
    | brk =>
      obtain ⟨σ2, H2, J2, q⟩ := hsp
      exact ⟨σ2, H2, J2.ofTry okX, q⟩
    | cont =>
      obtain ⟨σ2, H2, J2, q⟩ := hsp
      exact ⟨σ2, H2, J2.ofTry okX, q⟩
    | ret u =>
      obtain ⟨v, σ2, H2, J2, r, q⟩ := hsp
      exact ⟨v, σ2, H2, J2.ofTry okX, r, q⟩
end
/-- an error in the air of X has slots for all names of X -/
theorem takes_len {X : Cx} {W : WX} (tk : Takes X W) : Takes X (fun cls d σ H => σ.length = X.N.length → W cls d σ H) := fun u s' ⟨a, B, sI, pins, σ, H, cls, d, e, I, nb, up, sky, na, os, ag, w⟩ =>
  tk u s' ⟨a, B, sI, pins, σ, H, cls, d, e, I, nb, up, sky, na, os, ag, w I.len⟩
/-- a reading may be weakened -/
theorem pe_weak {X : Cx} {e : Expr} {t : TE} (h : PE X e t) : PE X e (fun σ H Q => ∃ Q0 : VK, t σ H Q0 ∧ ∀ v H', Q0 v H' → Q v H') := ⟨fun pins s σ H Q I ⟨Q0, h1, h2⟩ =>
  thn (h.run pins s σ H Q0 I h1) fun _ _ ⟨v, H', I', r, q⟩ => ⟨v, H', I', r, h2 v H' q⟩⟩
/-- what _law_caught makes of the reading of the lambda that it gets -/
def TCaught (K : PySem.W.Frag) (CP : Addr) : (XK → Hp → VK → Prop) → Hp → VK → Prop := fun tl H Q =>
  tl (fun cls d H' => PySem.W.exmOne K cls (.ref CP) = some true ∧ ∀ a, H' a = none → Q (.ref a) (upd H' a (XvO cls d a))) H (fun _ H' => Q .non H')
section
variable {X : Cx}
theorem caught_gives {wk ch er pe x q : Str} {sg : Scope} {g CP : Addr} {cdg : Value} {j : Nat} {p1 p2 p3 p4 p5 p6 p7 p8 p9 p10 p11 p12 p13 p14 : Pos} (hnd : [wk, ch, er].Nodup) (hch : sg.names.lookup ch = some .local) (her : sg.names.lookup er = some .local)
    (hge : sg.names.lookup pe = some .globalImplicit) (hme : X.mg pe = some (.ref CP)) (hde : (pe == ("__debug__" : Str)) = false) (hd1 : (ch == ("__debug__" : Str)) = false) (hd2 : (ch == ("__classdict__" : Str)) = false) (hd3 : (er == ("__debug__" : Str)) = false) (hd4 : (er == ("__classdict__" : Str)) = false) :
    LamX.GivesTo X [wk, ch, er] x sg g cdg [.Assign [.Name ch p1] (.Constant .none j p2) p3, .Try [.Expr (.Call (.Name wk p4) [] [] p5) p6] [.ExceptHandler (some (.Name pe p7)) (some er) [.Assign [.Name ch p8] (.Name er p9) p10] p11] [] [] p12, .Return (some (.Name ch p13)) p14] wk q (TCaught X.K CP) := by
  intro f c' s H Q tl act hc h
  have hgl : Gl (cxOf C8.CX0 X.prog X.w X.K X.mg X.base [wk, ch, er] x sg g cdg X.A X.stack s H C8.E0).nox pe := hge
  refine ⟨_, pss_cons (ps_set (i := 1) hnd rfl (.inl hch) pe_non) (pss_cons (ps_try_keep (X := (cxOf C8.CX0 X.prog X.w X.K X.mg X.base [wk, ch, er] x sg g cdg X.A X.stack s H C8.E0).nox) (i := 2) (c := .ref CP)
      (tb := fun W D σ H => ∃ Ech : XK, (∀ cls d σ' H', σ'.length = 3 → Ech cls d H' → W cls d σ' H') ∧ σ[0]? = some (some (.ref f)) ∧ H c' = some (LamX.CodeO c' q) ∧ tl Ech H (fun _ H' => Q .non H') ∧ ∀ H', Q .non H' → D.nx σ H')
      rfl rfl hnd rfl her ⟨hgl, hde, .inl hme⟩ rfl (fun W pn xe tk _ => ?_) (fun a pn => pss_one (ps_set (i := 1) hnd rfl (.inl hch) (pe_var (i := 2) rfl (.inl her) hd3 hd4)))) (pss_one (ps_ret (pe_var (i := 1) rfl (.inl hch) hd1 hd2)))), ?_⟩
  · refine ⟨fun pins s' σ H' D I h' => ?_⟩
    obtain ⟨Ech, hW, h1, h2, h3, h4⟩ := h'
    have hp := act (fun cls d σ H => σ.length = 3 → W cls d σ H) pn xe Ech p4 p5 (takes_len tk) (fun cls d σ' H' e z => hW cls d σ' H' z e)
    have hq := pss_one (ps_expr (pos := p6) (pe_weak hp))
    exact hq.run pins s' σ H' D I ⟨_, ⟨h1, h2, h3⟩, fun _ H1 q => h4 H1 q⟩
  · refine ⟨fun cls d H' => PySem.W.exmOne X.K cls (.ref CP) = some true ∧ ∀ a, H' a = none → Q (.ref a) (upd H' a (XvO cls d a)), fun cls d σ' H' hl hE => ⟨hE.1, fun a ha => ?_⟩, rfl, hc, h, fun H' q => ⟨_, rfl, q⟩⟩
    · match σ', hl with
      | [s0, s1, s2], _ => exact ⟨_, rfl, _, rfl, hE.2 a ha⟩
end
def spI1 (C : Addr) (fld : Str) : Sp := fun vs H Q _ => ∃ (a : Addr) (v : V), vs = [.ref a, v] ∧ H a = some (exo a C none) ∧ ∀ dx, H dx = none → dx ≠ a → Q .non (upd (upd H dx (exd dx [(fld, v)])) a (exo a C (some dx)))
/-- what is known of an error class x (at C) with the one field fld; CP: the class that is caught -/
structure Err1 (P : Program) (w : World) (K : PySem.W.Frag) (mg : Str → Option Value) (base : Heap) (CP : Addr) (x : Str) (C : Addr) (fld : Str) : Prop where
  T : OexC K C
  xf : XfC K C
  no : PySem.W.findIn K (.ref C) fld = some none
  ec : ExcC K C
  mgC : mg x = some (.ref C)
  init : ∃ fI fd, PySem.W.findIn K (.ref C) "__init__" = some (some (.ref fI)) ∧ PySem.W.typeIn K (.ref fI) = some (.type "function") ∧ FnOk P w K mg base CX0 1 fI fd ["self", fld] (spI1 C fld) ∧ Binds K fd ["self", fld] []
  sub : PySem.W.exmOne K (.ref C) (.ref CP) = some true
theorem made_end {H1 : Hp} {a dx C : Addr} {fs : List (Str × V)} (ha : H1 a = none) (hne : dx ≠ a) : upd (del (upd (upd (upd H1 a (exo a C none)) dx (exd dx fs)) a (exo a C (some dx))) a) dx (.xd fs) = upd H1 dx (.xd fs) := by
  funext b
  by_cases h1 : b = dx
  · rw [h1, upd_same, upd_same]
  · rw [upd_ne h1, upd_ne h1]
    by_cases h2 : b = a
    · rw [h2, del_same, ha]
    · rw [del_ne h2, upd_ne h2, upd_ne h1, upd_ne h2]
section
variable {X : Cx} {CP C : Addr} {x fld : Str} {e : Expr} {te : TE} {p pos pos' : Pos} {W : WX}
/-- raise x(e) -/
theorem raise1 (T : Err1 X.prog X.w X.K X.mg X.base CP x C fld) (hc : X.calm = true) (tk : Takes X W) (hr : Room 2 X.A) (he : PE X e te) (hg : Gl X x := by rfl)
    (hdb : (x == ("__debug__" : Str)) = false := by decide) (hs : starEach [e] X.env = (false, eval e X.env) :: starEach [] X.env := by rfl) (hpl : (backTo pos (starEach [] X.env)).any (·.1) = false := by rfl) :
    PS X (.Raise (some (.Call (.Name x p) [e] [] pos)) none pos') (fun _ σ H => te σ H fun v H1 => ∀ d, H1 d = none → W (.ref C) (some d) σ (upd H1 d (.xd [(fld, v)]))) := by
  obtain ⟨fI, fd, h1, h2, h3, h4⟩ := T.init
  have Z := ps_raise (pos := pos') hc tk (pmk_oex (p := p) (pos := pos) T.T h1 h2 h3 hr h4 .nil (fun _ _ _ _ _ _ _ h => h.elim) hg T.mgC (pa_cons (pe_weak he) pa_nil hs) hdb hs hpl)
  refine ⟨fun pins s σ H D I h => Z.run pins s σ H D I ⟨_, h, fun v H1 q => ⟨(by show 1 ≤ 1000; decide), fun a ha => ?_⟩⟩⟩
  refine ⟨a, v, rfl, upd_same, fun dx hdx hne => ⟨rfl, dx, [(fld, v)], upd_same, ?_, ?_, ?_⟩⟩
  · rw [upd_ne hne, upd_same]
  · rw [upd_ne hne] at hdx
    exact hdx
  · rw [made_end ha hne]
    rw [upd_ne hne] at hdx
    exact q dx hdx
/-- e.f of an error that was caught -/
theorem pe_xfld (hb : attributeBase e fld X.env (eval e X.env) = eval e X.env) (he : PE X e te) :
    PE X (.Attribute e fld pos) (fun σ H Q => te σ H fun y H1 => ∃ (a C d : Addr) (fs : List (Str × V)) (v : V), y = .ref a ∧ H1 a = some (XvO (.ref C) (some d) a) ∧ XfC X.K C ∧ PySem.W.findIn X.K (.ref C) fld = some none ∧ H1 d = some (.xd fs) ∧ fs.lookup fld = some v ∧ Q v H1) := by
  refine ⟨fun pins s σ H Q I h => ?_⟩
  refine attr_of hb (thn (he.run pins s σ H _ I h) fun u s1 hh => ?_)
  obtain ⟨y, H1, I1, ry, a, C, d, fs, v, rfl, ha, T, hno, hd, l, q⟩ := hh
  obtain rfl : u = Value.ref a := ry
  obtain ⟨⟨oe, vs, hget, hz, hdat⟩, _, _⟩ := I1.hok a _ ha
  obtain ⟨mA, hns, hr⟩ := (show ObjOk X.prog X.w H1 s1.heap d (.xd fs) from I1.hok d _ hd)
  obtain ⟨od, ho, hl⟩ := lookIn_ns hns
  obtain ⟨u, hu, ru⟩ := RelO.some_of (v := v) (o := mA fld) (by rw [← l]; exact hr fld)
  have inst : PySem.W.InstAt s1.heap a oe C (some od) := ⟨hget, hz.1, by unfold PySem.W.notCls; rw [hdat] <;> rfl, by rw [hz.2]; exact ho⟩
  exact HandSPX.exc_get I1.kIn inst T.ga T.gg T.exC (PySem.W.findObj_own T.hdC hno rfl (by rw [hl, hu])) (handed_of ru) ⟨v, H1, I1.tok _, ru, q⟩
end
def rIsX (K : PySem.W.Frag) : List V → Hp → VK → Prop := fun xs H Q => ∃ (a C : Addr) (d : Option Addr) (c : V) (cv : Value) (b : Bool), xs = [.ref a, c] ∧ H a = some (XvO (.ref C) d a) ∧ (∀ dd, d = some dd → ∃ fs, H dd = some (.xd fs)) ∧ ExcC K C ∧ ClsV c cv ∧ PySem.W.kitOne K (.ref C) cv = some b ∧ Q (.bl b) H
theorem call_isX {X : Cx} : CallR X (.builtin "isinstance") (rIsX X.K) := by
  intro pins s σ H xs us Q I r h
  obtain ⟨a, C, d, c, cv, b, rfl, ha, hdd, E, hc, hk, q⟩ := h
  obtain ⟨u1, u2, rfl, r1, r2⟩ := vals2 r
  cases (show u1 = Value.ref a from r1)
  have e2 := hc.eq r2
  subst e2
  obtain ⟨⟨oe, vs, hget, hz, hdat⟩, _, _⟩ := I.hok a _ ha
  have inst : ∃ od, PySem.W.InstAt s.heap a oe C od := by
    cases d with
    | none => exact ⟨none, hget, hz.1, by unfold PySem.W.notCls; rw [hdat] <;> rfl, by rw [hz.2]; trivial⟩
    | some dd =>
      obtain ⟨fs, hx⟩ := hdd dd rfl
      obtain ⟨mA, hns, _⟩ := (show ObjOk X.prog X.w H s.heap dd (.xd fs) from I.hok dd _ hx)
      obtain ⟨od, ho, _⟩ := lookIn_ns hns
      exact ⟨some od, hget, hz.1, by unfold PySem.W.notCls; rw [hdat] <;> rfl, by rw [hz.2]; exact ho⟩
  obtain ⟨od, inst⟩ := inst
  have hcl : (PySem.W.clsIn X.K C).isSome = true := by
    obtain ⟨cd, hcd, _⟩ := PySem.W.any_some E.hd
    rw [hcd]
    rfl
  exact PySem.W.kia_one (PySem.W.kitx_exc hcl E.hg E.hk E.hs E.ha E.hn E.ht E.hm) I.kIn inst hk (fun z => nomatch z) fun tk => ⟨.bl b, H, I.tok tk, rfl, q⟩
end WP
namespace WP
open PySem L2 PySem.Spec PyProof.Rows
structure GnOk (P : Program) (w : World) (K : PySem.W.Frag) (mg : Str → Option Value) (base : Heap) (CX : CXT) (k : Nat) (f : Addr) (fd : FuncData) (ps : List Str) (sp : Sp) : Prop where
  len : ∀ vs H Q E, sp vs H Q E → vs.length = ps.length
  run : ∀ (A : Around) (outer : List Env) (s : Shared) (H : Hp) (args : Args) (us : List Value) (vs : List V) (Q : VK) (E : XK), A.guards = some [] → Room k A → Env0 P w K mg base A outer s H → BindsTo s fd args (ps.zip us) → Vals vs us → sp vs H Q E →
    codeAny (model P w) A (.call (.ref f) args) (CR CX outer P w H s Q E) s
section
variable {P : Program} {w : World} {K : PySem.W.Frag} {mg : Str → Option Value} {base : Heap} {CX : CXT}
/-- the rule for such a def -/
theorem okG {x qual : Str} {st : Stmt} {f : Addr} {fd : FuncData} {N ps : List Str} {k : Nat} {sp : Sp} (F : Fun K x qual st f fd) (S : FnScope N ps (defScope st)) (len : ∀ vs H Q E, sp vs H Q E → vs.length = ps.length)
    (hbody : ∀ (cdv : Value) (A : Around) (outer : List Env) (s : Shared) (H : Hp) (vs : List V) (Q : VK) (E : XK), A.guards = some [] → PySem.W.codeIn K cdv qual = true → (∃ oc od sl, K.lookup f = some ⟨oc, od, .func fd, sl⟩ ∧ fd.code = cdv) →
      Room k (A.deeper (envOfC qual (defScope st) s.heap.objs.size f cdv)) → sp vs H Q E →
      ∃ t, PSs (cxOf CX P w K mg base N qual (defScope st) f cdv A outer s H E) (defBody st) t ∧ t { nx := fun _ H' => Q .non H', rt := Q } (L2.start N vs) H) : GnOk P w K mg base CX (k + 1) f fd ps sp := by
  refine ⟨len, fun A outer s H args us vs Q E hg hr e0 hb r hs => ?_⟩
  obtain ⟨oc, od, kV, doc, pm, an, cdv, ct, osl, rfl, lk, hcd⟩ := F.ex
  exact LamX.run_ofS lk hcd S hr e0 hb r (len vs H Q E hs) fun hr' => hbody cdv A outer s H vs Q E hg hcd ⟨oc, od, osl, lk, rfl⟩ hr' hs
end
def rRepr (K : PySem.W.Frag) : List V → Hp → VK → Prop := fun xs H Q => ∃ (v : V) (d : PyData), xs = [v] ∧ Dp K H v d ∧ d.showable = true ∧ d.hasDict = false ∧ d.depth ≤ 40 ∧ d.shown.length ≤ sizeLine ∧ Q (.str d.shown) H
theorem call_reprD {X : Cx} (hg : X.A.guards = some []) (hu : X.A.units + 64 < cLine) : CallR X (.builtin "repr") (rRepr X.K) := by
  intro pins s σ H xs us Q I r h
  obtain ⟨v, d, rfl, hd, sh, nd, dep, hz, q⟩ := h
  obtain ⟨u, rfl, ru⟩ := vals1 r
  obtain ⟨as, rd⟩ := Dp.reads I d v u hd ru
  cases hd with
  | non =>
    cases ru
    exact PySem.P.repr_of_none ⟨.str _, H, I.tok _, ⟨_, rfl⟩, by simpa only [PyData.shown] using q⟩
  | bl b =>
    cases ru
    exact PySem.P.repr_of_bool ⟨.str _, H, I.tok _, ⟨_, rfl⟩, by cases b <;> simpa only [PyData.shown] using q⟩
  | int i =>
    obtain ⟨t, rfl⟩ := ru
    exact PySem.P.repr_of_int (by simpa [PyData.showable] using sh) ⟨.str _, H, I.tok _, ⟨_, rfl⟩, by simpa only [PyData.shown] using q⟩
  | str x =>
    obtain ⟨t, rfl⟩ := ru
    exact PySem.P.repr_of_str ⟨.str _, H, I.tok _, ⟨_, rfl⟩, by simpa only [PyData.shown] using q⟩ (by simpa only [PyData.shown] using hz)
  | lst h1 h2 =>
    cases ru
    exact repr_of_reads' rd sh (PyData.noDict_hsm nd) hg (by omega) (fun _ _ e => e) (fun h' u tk hk => ⟨.str _, H, I.kept (t' := tk) hk, ⟨_, rfl⟩, q⟩) hz
  | tup h1 h2 =>
    cases ru
    exact repr_of_reads' rd sh (PyData.noDict_hsm nd) hg (by omega) (fun _ _ e => e) (fun h' u tk hk => ⟨.str _, H, I.kept (t' := tk) hk, ⟨_, rfl⟩, q⟩) hz
end WP
namespace WP
open PySem L2 PySem.Spec PyProof.Rows LamX
section
variable {P : Program} {w : World} {K : PySem.W.Frag} {mg mb : Str → Option Value} {CX : CXT} {k : Nat} {fa a : Addr} {cs : List (Addr × Addr)} {fd : FuncData} {x : Str} {sp : Sp} {st : Shared} {vs : List Value} {ns : List Int}
def scriptObj (vs : List Value) : Obj := { cls := .type "list", data := .seq vs.toArray }
def tabObj : Obj := { cls := .none, data := .fields #[] }
/-- the abstract heap at the law's entry: the script (if the written part does not know it) and the tables -/
def entryH (K : PySem.W.Frag) (a : Addr) (cs : List (Addr × Addr)) (vs : List Value) (ns : List Int) : Hp := fun b =>
  if b ∈ cs.map (·.2) then some (.tbl #[]) else if b = a ∧ K.lookup a = none then some (.frz (scriptObj vs) (.lst (ns.map V.int))) else none
theorem law_callG (KX : K.In st.heap) (gl : st.heap.Ns mainGlobals mg) (bl : st.heap.Ns builtinsNs mb) (bb : ∀ y : Str, y ≠ "__name__" → mb y = bootBuiltins y) (lim : st.heap.NoLimit) (gens0 : st.gens = #[])
    (tabs : ∀ p ∈ cs, st.heap.get? p.2 = some tabObj) (tabsK : ∀ p ∈ cs, K.lookup p.2 = none) (hds : ∀ p ∈ cs, PySem.W.CodeHd st.heap p.1 p.2)
    (bmod : ∃ (bm : Addr) (ob : Obj), mg "__builtins__" = some (.ref bm) ∧ bm ≠ builtinsNs ∧ st.heap.get? bm = some ob ∧ ob.cls = .type "module" ∧ ob.dict = some builtinsNs ∧ ob.data = .plain)
    (scr : st.heap.get? a = some (scriptObj vs)) (hin : IntsAre vs ns) (len : ns.length ≤ sizeLine) (room : Room k callerA)
    (F : ∀ base : Heap, K.In base → base.Ns mainGlobals mg → (∀ p ∈ cs, TabB base mg p.1 p.2) → GnOk P w K mg base CX k fa fd [x] sp) (bind : ∀ (s : Shared) (u : Value), BindsTo s fd ⟨[u], []⟩ [(x, u)])
    (want : ∀ H : Hp, (∀ p ∈ cs, H p.2 = some (.tbl #[])) → SqL K H a (ns.map V.int) → sp [.ref a] H (fun v _ => v = .bl true) fun _ _ _ => False)
    (noX : ∀ H e s', CX [] H st (fun _ _ _ => False) e s' → False) :
    codeAny (model P w) callerA (.call (.ref fa) ⟨[.ref a], []⟩) (fun r s' => r = .ok (.ret (.bool true)) ∧ OldK st.heap s'.heap ∧ s'.os = st.os ∧ AllBare s'.gens) st := by
  have valsI := vals_ints hin
  have lenI := hin.length
  have tabOf : ∀ b : Addr, b ∈ cs.map (·.2) → st.heap.get? b = some tabObj := fun b m => by
    obtain ⟨p, hp, rfl⟩ := List.mem_map.mp m
    exact tabs p hp
  have memOf : ∀ p ∈ cs, p.2 ∈ cs.map (·.2) := fun p hp => List.mem_map.mpr ⟨p, hp, rfl⟩
  have aNo : a ∉ cs.map (·.2) := fun m => by
    have q := (tabOf a m).symm.trans scr
    have z : Data.fields #[] = Data.seq vs.toArray _ := congrArg Obj.data (Option.some.inj q)
    cases z
  generalize eH : entryH K a cs vs ns = H
  have H1 : ∀ p ∈ cs, H p.2 = some (.tbl #[]) := fun p hp => by
    rw [← eH]
    exact if_pos (memOf p hp)
  have H2 : ∀ b o, H b = some o → (b ∈ cs.map (·.2) ∧ o = .tbl #[]) ∨ (b = a ∧ K.lookup a = none ∧ o = .frz (scriptObj vs) (.lst (ns.map V.int))) := fun b o e => by
    rw [← eH] at e
    unfold entryH at e
    split at e
    · rename_i m
      exact .inl ⟨m, (Option.some.inj e).symm⟩
    · split at e
      · rename_i m
        exact .inr ⟨m.1, m.2, (Option.some.inj e).symm⟩
      · cases e
  have H3 : SqL K H a (ns.map V.int) := by
    cases ek : K.lookup a with
    | some o =>
      have e := (KX a o ek).symm.trans scr
      cases e
      exact .inr ⟨_, vs.toArray, _, ek, rfl, rfl, rfl, by rw [List.size_toArray, lenI]; exact len, by simpa using valsI⟩
    | none =>
      refine .inl (.inr ⟨scriptObj vs, ?_⟩)
      rw [← eH]
      unfold entryH
      rw [if_neg aNo, if_pos ⟨rfl, ek⟩]
  have hokH : HOk P w H st.heap := fun b o e => by
    rcases H2 b o e with ⟨m, rfl⟩ | ⟨rfl, _, rfl⟩
    · exact tabOf b m
    · exact ⟨scr, by rw [List.length_map]; exact len, vs, _, valsI, scr⟩
  -- what is no list and no empty table is not tracked
  have bare : ∀ {b : Addr} {o : Obj}, st.heap.get? b = some o → (∀ us n, o.data ≠ .seq us n) → o.data ≠ .fields #[] → H b = none := fun {b o} e n1 n2 => by
    cases q : H b with
    | none => rfl
    | some u =>
      rcases H2 b u q with ⟨m, _⟩ | ⟨rfl, _⟩
      · have z := (tabOf b m).symm.trans e
        cases z
        exact (n2 rfl).elim
      · have z := scr.symm.trans e
        cases z
        exact (n1 _ _ rfl).elim
  have below : ∀ {b : Addr} {o : Obj}, st.heap.get? b = some o → H b = none → (hidT st.heap H).get? b = some o := fun e n => hidT_get e n
  have nsB : ∀ {b : Addr} {m : Str → Option Value}, st.heap.Ns b m → (hidT st.heap H).Ns b m := fun {b m} ⟨o, es, ep, e, dt, r⟩ =>
    ⟨o, es, ep, below e (bare e (fun us n z => by rw [dt] at z; cases z) (fun z => by rw [dt] at z; cases z)), dt, r⟩
  have kB : K.In (hidT st.heap H) := fun b o e => below (KX b o e) (by
    cases q : H b with
    | none => rfl
    | some u =>
      rcases H2 b u q with ⟨m, _⟩ | ⟨rfl, n, _⟩
      · obtain ⟨p, hp, rfl⟩ := List.mem_map.mp m
        rw [tabsK p hp] at e
        cases e
      · rw [n] at e
        cases e)
  have modB : L2.Mod K mg (hidT st.heap H) := ⟨kB, nsB gl, ⟨mb, nsB bl, bb⟩, let ⟨mc, l1, l2⟩ := lim; ⟨mc, nsB l1, l2⟩⟩
  have tabB : ∀ p ∈ cs, TabB (hidT st.heap H) mg p.1 p.2 := fun p hp => by
    have tp := tabs p hp
    refine ⟨?_, ?_, fun z => ?_⟩
    · obtain ⟨o, us, file, tf, flags, tg, inF, text, tt, e1, r1, r2, r3, r4, r5, r6, r7, r8, hne⟩ := hds p hp
      refine ⟨o, us, file, tf, flags, tg, inF, text, tt, below e1 (bare e1 (fun us n z => by rw [r2] at z; cases z) (fun z => ?_)), r1, r2, r3, r4, r5, r6, r7, r8, hne⟩
      rw [r2] at z
      cases z
      simp at r3
    · obtain ⟨bm, ob, b1, b2, b3, b4, b5, b6⟩ := bmod
      refine ⟨bm, ob, b1, b2, fun q => ?_, fun q => ?_, below b3 (bare b3 (fun us n z => by rw [b6] at z; cases z) (fun z => by rw [b6] at z; cases z)), b4, b5, b6⟩
      · obtain ⟨o, es, ep, e, dt, _⟩ := gl
        rw [q, e] at b3
        cases b3
        rw [dt] at b6
        cases b6
      · rw [q, tp] at b3
        cases b3
        cases b6
    · obtain ⟨o, es, ep, e, dt, _⟩ := gl
      rw [z, tp] at e
      cases e
      cases dt
  have env : Env0 P w K mg (hidT st.heap H) callerA [] st H := ⟨rfl, modB, fun b o e => of_hidT e, Nat.le_of_eq (hidT_size _ _), trivial, fun b m => absurd (show b ∈ ([] : List Addr) from m) (by simp), hokH, .of_eq gens0⟩
  refine codeAny_mono ((F _ kB (nsB gl) tabB).run callerA [] st H ⟨[.ref a], []⟩ [.ref a] [.ref a] _ _ rfl room env (bind st (.ref a)) (.cons rfl .nil) (want H H1 H3)) fun r s' h => ?_
  cases r with
  | error e => exact (noX H e s' h).elim
  | ok fl =>
    cases fl with
    | next => exact False.elim h
    | brk => exact False.elim h
    | cont => exact False.elim h
    | ret u =>
      obtain ⟨v, H', os, gb, un, hok', rv, q⟩ := h
      cases (show v = .bl true from q)
      cases (show u = Value.bool true from rv)
      have stay : ∀ b o, b ∉ cs.map (·.2) → st.heap.get? b = some o → s'.heap.get? b = some o := fun b o nb e => by
        cases q : H b with
        | none => exact un.keep b o e q (by intro z; exact absurd (show b ∈ ([] : List Addr) from z) (by simp)) (by simp)
        | some u =>
          rcases H2 b u q with ⟨m, _⟩ | ⟨_, _, rfl⟩
          · exact absurd m nb
          · obtain ⟨g1, _⟩ := hokH b _ q
            obtain ⟨g2, _⟩ := hok' b _ (un.frzs b _ _ q)
            exact (g1.symm.trans e) ▸ g2
      have grown : ∀ p ∈ cs, ∃ more : Array Value, s'.heap.get? p.2 = some { cls := .none, data := .fields more } := fun p hp => by
        obtain ⟨m, z⟩ := un.tbls p.2 #[] (H1 p hp)
        exact ⟨_, hok' p.2 _ z⟩
      refine ⟨rfl, ⟨fun b o e => ?_, fun b o e => ?_⟩, os, gb⟩
      · by_cases m : b ∈ cs.map (·.2)
        · obtain ⟨p, hp, rfl⟩ := List.mem_map.mp m
          obtain ⟨more, g⟩ := grown p hp
          have z := (tabs p hp).symm.trans e
          cases z
          exact .inr (.inl ⟨((hds p hp).tab (tabs p hp)).isCodeTable, rfl, #[], more, rfl, by rw [Array.empty_append]; exact g⟩)
        · exact .inl (stay b o m e)
      · by_cases m : b ∈ cs.map (·.2)
        · obtain ⟨p, hp, rfl⟩ := List.mem_map.mp m
          obtain ⟨more, g⟩ := grown p hp
          exact ⟨_, g⟩
        · exact ⟨o, stay b o m e⟩
end
/-- what is to be shown of the law's def at the head's heap -/
def LawG (l : PySem.W.OpenLaw) (w : World) (K : PySem.W.Frag) (k n : Nat) (x : Str) (mg : Str → Option Value) (fa : Addr) (h : Heap) : Prop :=
  ∃ (fd : FuncData) (cs : List (Addr × Addr)) (sp : Sp), (∀ p ∈ cs, h.get? p.2 = some tabObj) ∧ (∀ p ∈ cs, K.lookup p.2 = none) ∧ (∀ p ∈ cs, PySem.W.CodeHd h p.1 p.2) ∧ (∀ (s : Shared) (u : Value), BindsTo s fd ⟨[u], []⟩ [(x, u)]) ∧
    (∀ (H : Hp) (a : Addr) (ns : List Int), ns.length ≤ n → (∀ p ∈ cs, H p.2 = some (.tbl #[])) → SqL K H a (ns.map V.int) → sp [.ref a] H (fun v _ => v = .bl true) fun _ _ _ => False) ∧
    ∀ base : Heap, K.In base → base.Ns mainGlobals mg → (∀ p ∈ cs, TabB base mg p.1 p.2) → GnOk l.prog w K mg base CX0 k fa fd [x] sp
theorem walk_G {l : PySem.W.OpenLaw} {n k : Nat} {q : Program} {loose : List Str} {XP : (Str → Option Value) → Heap → Prop} {YP : World → Heap → Prop} {d : DefRec} {K : Params → PySem.W.Frag} {x : Str}
    (hn : l.most = some n) (hn2 : n ≤ sizeLine) (hdf : d.params.defaults = []) (hr : Room k callerA) (hY : ∀ (w : World) (h : Heap), YP w h → (K w.params).In h)
    (F : ∀ (w : World) (mg : Str → Option Value) (fa : Addr) (h : Heap), YP w h → (K w.params).In h → h.Ns mainGlobals mg → mg d.name = some (.ref fa) → LawG l w (K w.params) k n x mg fa h) :
    PySem.W.WalkO q loose XP YP l.row.toRowW d [] (fun f vs => PySem.call f vs) := by
  refine Att.attach_callB hn hdf fun w s0 s1 mg mb fa o pm cd doc a vs ns G Y ho hd hcd hmg hobj hints hlen hbits hg => ?_
  have KX := hY w _ Y
  obtain ⟨fd, cs, sp, tabs, tabsK, C, hb, hsp, hF⟩ := F w mg fa _ Y KX G.T.g hmg
  exact law_callG KX G.T.g G.T.b G.T.builtins G.T.nolimit hg tabs tabsK C G.T.bmain hobj hints (Nat.le_trans hlen hn2) hr hF hb (fun H hH hS => hsp H a ns hlen hH hS) fun H e s' h => h
end WP
namespace WP
open PySem L2 PySem.Spec PyProof.Rows
/-- what isinstance asks of an own class -/
structure InsK (K : PySem.W.Frag) (C : Addr) : Prop where
  cl : Cls K C
  ha : PySem.W.findIn K (.ref C) "__class__" = some (some (.builtin "object.__class__"))
  hn : PySem.W.specialIn K (.builtin "object.__class__") "__get__" = some (some (.builtin "getset_descriptor.__get__"))
  ht : PySem.W.takesIn K (.builtin "object.__class__") = some true
  hm : PySem.W.mroIn K C (.type "object") = some true
  nI : PySem.W.kitOne K (.ref C) (.type "int") = some false
  nB : PySem.W.kitOne K (.ref C) (.type "bool") = some false
  nS : PySem.W.kitOne K (.ref C) (.type "str") = some false
  nL : PySem.W.kitOne K (.ref C) (.type "list") = some false
  nT : PySem.W.kitOne K (.ref C) (.type "tuple") = some false
  nD : PySem.W.kitOne K (.ref C) (.type "dict") = some false
/-- kinds of values -/
inductive Kd where
  | non | bl | int | str | lst | tup | dct | ins (C : Addr)
def Kd.ty : Kd → Value
  | .non => .type "NoneType" | .bl => .type "bool" | .int => .type "int" | .str => .type "str" | .lst => .type "list" | .tup => .type "tuple" | .dct => .type "dict" | .ins C => .ref C
/-- v is of the kind k -/
inductive Any (K : PySem.W.Frag) (H : Hp) : V → Kd → Prop
  | non : Any K H .non .non
  | bl (b : Bool) : Any K H (.bl b) .bl
  | int (i : Int) : Any K H (.int i) .int
  | str (x : Str) : Any K H (.str x) .str
  | lst {a : Addr} {xs : List V} (e : H a = some (.lst xs)) : Any K H (.ref a) .lst
  | tup {a : Addr} {xs : List V} (e : H a = some (.tup xs)) : Any K H (.ref a) .tup
  | kTup {a : Addr} {o : Obj} (e : K.lookup a = some o) (c : o.cls = .type "tuple") : Any K H (.ref a) .tup
  | fTup {a : Addr} {o : Obj} {xs : List V} (e : H a = some (.frz o (.tup xs))) : Any K H (.ref a) .tup
  | dct {a : Addr} {kvs : List (Key × V)} (e : H a = some (.dK kvs)) : Any K H (.ref a) .dct
  | ins {a C dx : Addr} {fs : List (Str × V)} (e : H a = some (.ins C dx fs)) (c : InsK K C) : Any K H (.ref a) (.ins C)
theorem Any.same {K : PySem.W.Frag} {H H' : Hp} {v : V} {k : Kd} (h : Any K H v k) (s : Same H H') : Any K H' v k := by
  cases h with
  | non => exact .non
  | bl b => exact .bl b
  | int i => exact .int i
  | str x => exact .str x
  | lst e => exact .lst (s _ _ e)
  | tup e => exact .tup (s _ _ e)
  | kTup e c => exact .kTup e c
  | fTup e => exact .fTup (s _ _ e)
  | dct e => exact .dct (s _ _ e)
  | ins e c => exact .ins (s _ _ e) c
def Kd.isLst : Kd → Bool | .lst => true | _ => false
def Kd.isTup : Kd → Bool | .tup => true | _ => false
def Kd.isDct : Kd → Bool | .dct => true | _ => false
section
variable {X : Cx} {pos : Pos}
theorem gRef {x : Str} {a : Addr} (h : X.mg x = some (.ref a)) (hg : Gl X x := by rfl) (hd : (x == ("__debug__" : Str)) = false := by decide) : PE X (.Name x pos) (tC (.ref a)) := pe_glob hg h rfl hd
end
end WP
namespace WP
open PySem L2 PySem.Spec PyProof.Rows
end WP
namespace WP
open PySem L2 PySem.Spec PyProof.Rows
end WP
namespace WP
open PySem L2 TL
abbrev alphabet : Str := "abcdefghijklmnopqrstuvwxyz"
def isNameS (z : Str) : Bool := decide ((1 : Int) ≤ z.length) && decide ((z.length : Int) ≤ 8) && z.cps.toList.all (fun c => decide (c ∈ alphabet.cps.toList))
def isNameV : V → Bool
  | .str z => isNameS z
  | _ => false
def isTicksV : V → Bool
  | .non => true
  | .int i => decide (0 ≤ i) && decide (i ≤ 1000)
  | _ => false
def forms : List (Str × List Str) := [("begin", ["number"]), ("step", []), ("clear", ["name", "number"]), ("wait", ["ticks"]), ("lose", ["number", "name", "number"]), ("open", ["name"]), ("fetch", ["number", "name"])]
def formOf (z : Str) : Option (List Str) := (forms.find? (fun p => decide (p.1 = z))).map (·.2)
def isPartV (s : Str) (v : V) : Bool := if s = "name" then isNameV v else match v with
  | .int i => decide ((if s = "ticks" then (1 : Int) else 0) ≤ i) && decide (i ≤ 999999999999999999)
  | _ => false
def isDeedL : List V → Bool
  | .str z :: r => match formOf z with
    | none => false
    | some ss => decide (r.length = ss.length) && (List.zipWith isPartV ss r).all id
  | _ => false
end WP
namespace WP
open PySem L2 TL
def flatD : V → PyData
  | .bl b => .bool b
  | .int i => .int i
  | .str z => .str z
  | _ => .none
def optD : Option (List V) → PyData
  | none => .none
  | some xs => .tuple (xs.map flatD)
def Part (x : V) : Prop := (∃ i : Int, x = .int i ∧ 0 ≤ i ∧ i ≤ 999999999999999999) ∨ (∃ w : Str, x = .str w ∧ w.length ≤ 8 ∧ PyData.strOk w = true)
theorem form_mem {z : Str} {ss : List Str} (h : formOf z = some ss) : (z, ss) ∈ forms := by
  unfold formOf at h
  cases e : forms.find? (fun p => decide (p.1 = z)) with
  | none => rw [e] at h; cases h
  | some p =>
    rw [e] at h
    have h1 := List.mem_of_find?_eq_some e
    have h2 := List.find?_some e
    simp only [decide_eq_true_eq] at h2
    have h3 : p.2 = ss := Option.some.inj h
    rw [← h2, ← h3]
    exact h1
theorem form_word {z : Str} {ss : List Str} (h : formOf z = some ss) : 4 ≤ z.length ∧ z.length ≤ 5 ∧ PyData.strOk z = true ∧ ss.length ≤ 3 := by
  have h := form_mem h
  have : ∀ p ∈ forms, 4 ≤ p.1.length ∧ p.1.length ≤ 5 ∧ PyData.strOk p.1 = true ∧ p.2.length ≤ 3 := by decide +kernel
  exact this _ h
theorem abc_lt {c : Nat} (h : c ∈ alphabet.cps.toList) : c < 128 := by
  have : ∀ c ∈ alphabet.cps.toList, c < 128 := by decide +kernel
  exact this c h
theorem name_ok {z : Str} (h : isNameS z = true) : 1 ≤ z.length ∧ z.length ≤ 8 ∧ PyData.strOk z = true := by
  unfold isNameS at h
  simp only [Bool.and_eq_true, decide_eq_true_eq, List.all_eq_true] at h
  obtain ⟨⟨h1, h2⟩, h3⟩ := h
  refine ⟨by omega, by omega, ?_⟩
  unfold PyData.strOk
  rw [← Array.all_toList, List.all_eq_true]
  intro c hc
  have := abc_lt (h3 c hc)
  simp only [decide_eq_true_eq]
  omega
theorem isPart_part {s : Str} {x : V} (h : isPartV s x = true) : Part x := by
  unfold isPartV at h
  split at h
  · unfold isNameV at h
    split at h
    · rename_i z
      have := name_ok h
      exact .inr ⟨z, rfl, this.2.1, this.2.2⟩
    · cases h
  · split at h
    · rename_i i
      simp only [Bool.and_eq_true, decide_eq_true_eq] at h
      refine .inl ⟨i, rfl, ?_, h.2⟩
      have := h.1
      split at this <;> omega
    · cases h
theorem zip_part : ∀ (ss : List Str) (r : List V), r.length = ss.length → (List.zipWith isPartV ss r).all id = true → ∀ x ∈ r, Part x
  | [], [], _, _ => fun x h => by cases h
  | [], _ :: _, h, _ => by cases h
  | _ :: _, [], h, _ => by cases h
  | s :: ss, y :: r, h, e => by
    rw [List.zipWith_cons_cons, List.all_cons, Bool.and_eq_true] at e
    intro x hx
    rcases List.mem_cons.mp hx with rfl | hx
    · exact isPart_part e.1
    · exact zip_part ss r (by simpa using h) e.2 x hx
theorem deed_parts {xs : List V} (h : isDeedL xs = true) : (∀ x ∈ xs, Part x) ∧ xs.length ≤ 4 ∧ xs ≠ [] := by
  unfold isDeedL at h
  split at h
  · rename_i z r
    cases hf : formOf z with
    | none => rw [hf] at h; cases h
    | some ss =>
      rw [hf] at h
      simp only [Bool.and_eq_true, decide_eq_true_eq] at h
      have hw := form_word hf
      refine ⟨fun x hx => ?_, by rw [List.length_cons]; omega, by simp⟩
      rcases List.mem_cons.mp hx with rfl | hx
      · exact .inr ⟨z, rfl, by omega, hw.2.2.1⟩
      · exact zip_part ss r h.1 h.2 x hx
  · cases h
theorem textFrom_up : ∀ (ts : List Str) (k : Nat) (acc : Str), (textFrom k acc ts).length ≤ acc.length + piled ts
  | [], k, acc => by simp [textFrom, piled]
  | t :: r, k, acc => by
    have ih := textFrom_up r (k + 1) (acc ++ (if k > 0 then ", " else "" : String) ++ t)
    have h8 : (Str.ofString (if k > 0 then ", " else "" : String)).length ≤ 2 := by split <;> decide
    rw [textFrom, piled_cons]
    rw [Str.length_append, Str.length_append] at ih
    omega
theorem listText_up (ts : List Str) : (listText ts).length ≤ piled ts + 2 := by
  unfold listText
  rw [Str.length_append]
  have := textFrom_up ts 0 "["
  have h1 : ("[" : Str).length = 1 := by decide
  have h2 : ("]" : Str).length = 1 := by decide
  omega
abbrev nl : Str := "\n"
abbrev es : Str := ""
end WP
namespace WP
open PySem L2 TL
def hearD : Except Int (List (List V)) → PyData
  | .error n => .int n
  | .ok ds => .list [.list (ds.map fun d => optD (some d))]
end WP
namespace WP
open PySem L2 TL
theorem iteF' {b : Bool} {A B : Prop} (e : b = false) (h : B) : if b = true then A else B := by rw [if_neg (by rw [e]; decide)]; exact h
section
variable {X : Cx}
/-- a def that may raise, called where its error is let out -/
theorem pe_dS {k : Nat} {ps : List Str} {sp : Sp} {W : WX} {x : Str} {p pos : Pos} {e : Expr} {es : List Expr} {t : TA} (F : Dn X.prog X.w X.K X.mg X.base (L2.CX X.prog X.w) k x ps sp) (hr : Room k X.A) (tk : Takes X W)
    (ha : PA X (e :: es) t) (hg : Gl X x := by rfl) (hdb : (x == ("__debug__" : Str)) = false := by decide) (he : starEach (e :: es) X.env = (false, eval e X.env) :: starEach es X.env := by rfl) (hpl : (backTo pos (starEach es X.env)).any (·.1) = false := by rfl) :
    PE X (.Call (.Name x p) (e :: es) [] pos) (tCallS sp (WE W) t) := by
  obtain ⟨f, fd, hm, hk, F, hb⟩ := F.ex
  exact pe_callS F hr hg hm hk hb (fun σ => passAt tk σ) ha hdb he hpl
end
structure FormsK (K : PySem.W.Frag) (w : World) (a : Addr) : Prop where
  kd : ∃ es n, KDict K w a es n
  no : ∀ z, formOf z = none → PySem.W.nsIn K a z = some none
  yes : ∀ z ss, formOf z = some ss → ∃ b, PySem.W.nsIn K a z = some (some (.ref b)) ∧ ∀ H, SqT K H b (ss.map V.str)
theorem FormsK.dct {K : PySem.W.Frag} {w : World} {a : Addr} (F : FormsK K w a) {z : Str} {ss : List Str} (h : formOf z = some ss) : ∃ b, KDct K w a z (.ref b) ∧ PySem.W.nsIn K a z = some (some (.ref b)) ∧ ∀ H, SqT K H b (ss.map V.str) := by
  obtain ⟨es, n, D⟩ := F.kd
  obtain ⟨b, h1, h2⟩ := F.yes z ss h
  exact ⟨b, ⟨es, n, _, D.at_, D.lit, h1, rfl⟩, h1, h2⟩
def Fl (K : PySem.W.Frag) (H : Hp) (v : V) : Option (List V) → Prop
  | none => v = .non
  | some xs => ∃ a, v = .ref a ∧ H a = some (.tup xs) ∧ isDeedL xs = true
inductive FlAll (K : PySem.W.Frag) (H : Hp) : List V → List (Option (List V)) → Prop
  | nil : FlAll K H [] []
  | cons {v : V} {o : Option (List V)} {vs : List V} {os : List (Option (List V))} : Fl K H v o → FlAll K H vs os → FlAll K H (v :: vs) (o :: os)
section
variable {K : PySem.W.Frag} {H H' : Hp} {v : V} {o : Option (List V)} {vs ws : List V} {os ps : List (Option (List V))}
theorem Fl.same (s : Same H H') (h : Fl K H v o) : Fl K H' v o := by
  cases o with
  | none => exact h
  | some xs =>
    obtain ⟨a, e, h1, h2⟩ := h
    exact ⟨a, e, s _ _ h1, h2⟩
theorem FlAll.same (s : Same H H') (h : FlAll K H vs os) : FlAll K H' vs os := by
  induction h with
  | nil => exact .nil
  | cons h _ ih => exact .cons (h.same s) ih
theorem FlAll.app (h : FlAll K H vs os) (h2 : FlAll K H ws ps) : FlAll K H (vs ++ ws) (os ++ ps) := by
  induction h with
  | nil => exact h2
  | cons h _ ih => exact .cons h ih
theorem FlAll.len (h : FlAll K H vs os) : vs.length = os.length := by
  induction h with
  | nil => rfl
  | cons h _ ih => simp [ih]
theorem FlAll.at (h : FlAll K H vs os) : ∀ {i : Nat} {v : V}, vs[i]? = some v → ∃ o, os[i]? = some o ∧ Fl K H v o := by
  induction h with
  | nil => intro i v e; simp at e
  | cons h t ih =>
    intro i v e
    cases i with
    | zero =>
      simp only [List.getElem?_cons_zero, Option.some.injEq] at e
      subst e
      exact ⟨_, rfl, h⟩
    | succ i =>
      simp only [List.getElem?_cons_succ] at e ⊢
      exact ih e
theorem dpFlat : ∀ {xs : List V}, (∀ x ∈ xs, Part x) → DpAll K H xs (xs.map flatD)
  | [], _ => .nil
  | x :: r, h => by
    refine .cons ?_ (dpFlat fun y hy => h y (List.mem_cons_of_mem _ hy))
    rcases h x List.mem_cons_self with ⟨i, rfl, _⟩ | ⟨w, rfl, _⟩
    · exact .int i
    · exact .str w
theorem Fl.dp (h : Fl K H v o) : Dp K H v (optD o) := by
  cases o with
  | none =>
    cases (show v = .non from h)
    exact .non
  | some xs =>
    obtain ⟨a, rfl, h1, h2⟩ := h
    exact .tup (SqT.of h1) (dpFlat (deed_parts h2).1)
theorem FlAll.dp (h : FlAll K H vs os) : DpAll K H vs (os.map optD) := by
  induction h with
  | nil => exact .nil
  | cons h _ ih => exact .cons h.dp ih
end
def Hr (K : PySem.W.Frag) (H : Hp) (v : V) : Except Int (List (List V)) → Prop
  | .error n => v = .int n
  | .ok ds => ∃ (a b : Addr) (us : List V), v = .ref a ∧ H a = some (.lst [.ref b]) ∧ H b = some (.lst us) ∧ FlAll K H us (ds.map some)
section
variable {K : PySem.W.Frag} {H H' : Hp} {v : V} {r : Except Int (List (List V))}
theorem Hr.same (s : Same H H') (h : Hr K H v r) : Hr K H' v r := by
  cases r with
  | error n => exact h
  | ok ds =>
    obtain ⟨a, b, us, e, h1, h2, h3⟩ := h
    exact ⟨a, b, us, e, s _ _ h1, s _ _ h2, h3.same s⟩
theorem Hr.dp (h : Hr K H v r) : Dp K H v (hearD r) := by
  cases r with
  | error n =>
    cases (show v = .int n from h)
    exact .int n
  | ok ds =>
    obtain ⟨a, b, us, rfl, h1, h2, h3⟩ := h
    have := h3.dp
    rw [List.map_map] at this
    exact .lst (SqL.of h1) (.cons (.lst (SqL.of h2) this) .nil)
end
end WP
namespace WP
open PySem L2 TL
theorem ix_listK {X : Cx} {K : PySem.W.Frag} (h : X.K = K) : IxR X (rIxL K) := by subst h; exact ix_list
theorem op_inK {X : Cx} {K : PySem.W.Frag} (h : X.K = K) : OpR X (compareOp .In) (rIn K false) := by subst h; exact op_in_seq
theorem op_notInK {X : Cx} {K : PySem.W.Frag} (h : X.K = K) : OpR X (compareOp .NotIn) (rIn K true) := by subst h; exact op_notIn_seq
theorem strOk_iff (z : Str) : PyData.strOk z = true ↔ ∀ c ∈ tl z, c < 0x110000 := by
  unfold PyData.strOk
  rw [← Array.all_toList, List.all_eq_true]
  exact ⟨fun h c hc => of_decide_eq_true (h c hc), fun h c hc => decide_eq_true (h c hc)⟩
structure Tx (n : Nat) (z : Str) : Prop where
  len : z.length ≤ n
  ok : ∀ c ∈ tl z, c < 0x110000
theorem Tx.mono {n m : Nat} {z : Str} (h : Tx n z) (le : n ≤ m) : Tx m z := ⟨Nat.le_trans h.len le, h.ok⟩
theorem Tx.str {n : Nat} {z : Str} (h : Tx n z) : PyData.strOk z = true := (strOk_iff z).mpr h.ok
theorem Tx.app {n m : Nat} {x y : Str} (h : Tx n x) (k : Tx m y) : Tx (n + m) (x ++ y) := by
  refine ⟨by rw [Str.length_append]; exact Nat.add_le_add h.len k.len, fun c hc => ?_⟩
  rw [tl_append] at hc
  exact (List.mem_append.mp hc).elim (h.ok c) (k.ok c)
theorem Tx.one {n : Nat} {z : Str} (h : Tx n z) {c : Nat} (hc : c ∈ tl z) : Tx 1 ⟨#[c]⟩ := ⟨Nat.le_refl 1, fun d hd => by
  have : d = c := by simpa [tl] using hd
  rw [this]
  exact h.ok c hc⟩
theorem of_join {S : List Nat} {c : Nat} : ∀ {ps : List (List Nat)}, c ∈ joinL S ps → c ∈ S ∨ ∃ p ∈ ps, c ∈ p
  | [], h => by cases h
  | [q], h => .inr ⟨q, List.mem_singleton.mpr rfl, h⟩
  | q :: r :: rs, h => by
    have h : c ∈ q ++ (S ++ joinL S (r :: rs)) := h
    rcases List.mem_append.mp h with h | h
    · exact .inr ⟨q, List.mem_cons_self, h⟩
    · rcases List.mem_append.mp h with h | h
      · exact .inl h
      · rcases of_join h with h | ⟨p, hp, hc⟩
        · exact .inl h
        · exact .inr ⟨p, List.mem_cons_of_mem _ hp, hc⟩
/-- weight of a list of texts -/
def wgt (ls : List Str) : Nat := (ls.map (·.length)).sum + ls.length
structure Txs (n : Nat) (ls : List Str) : Prop where
  len : wgt ls ≤ n
  ok : ∀ l ∈ ls, ∀ c ∈ tl l, c < 0x110000
theorem wgt_mem {l : Str} : ∀ {ls : List Str}, l ∈ ls → l.length + 1 ≤ wgt ls
  | [], h => by cases h
  | a :: r, h => by
    unfold wgt
    rw [List.map_cons, List.sum_cons, List.length_cons]
    rcases List.mem_cons.mp h with rfl | h
    · omega
    · have := wgt_mem h
      unfold wgt at this
      omega
theorem wgt_app (a b : List Str) : wgt (a ++ b) = wgt a + wgt b := by
  unfold wgt
  rw [List.map_append, List.sum_append, List.length_append]
  omega
theorem wgt_take (i : Nat) (a : List Str) : wgt (a.take i) ≤ wgt a := by
  have := wgt_app (a.take i) (a.drop i)
  rw [List.take_append_drop] at this
  omega
theorem wgt_drop (i : Nat) (a : List Str) : wgt (a.drop i) ≤ wgt a := by
  have := wgt_app (a.take i) (a.drop i)
  rw [List.take_append_drop] at this
  omega
theorem Txs.at {n : Nat} {ls : List Str} (h : Txs n ls) {l : Str} (hl : l ∈ ls) : Tx n l := ⟨by have := wgt_mem hl; have := h.len; omega, h.ok l hl⟩
theorem Txs.app {n m : Nat} {a b : List Str} (h : Txs n a) (k : Txs m b) : Txs (n + m) (a ++ b) :=
  ⟨by rw [wgt_app]; exact Nat.add_le_add h.len k.len, fun l hl => (List.mem_append.mp hl).elim (h.ok l) (k.ok l)⟩
theorem Txs.take {n : Nat} {a : List Str} (h : Txs n a) (i : Nat) : Txs n (a.take i) := ⟨Nat.le_trans (wgt_take i a) h.len, fun l hl => h.ok l (List.mem_of_mem_take hl)⟩
theorem Txs.drop {n : Nat} {a : List Str} (h : Txs n a) (i : Nat) : Txs n (a.drop i) := ⟨Nat.le_trans (wgt_drop i a) h.len, fun l hl => h.ok l (List.mem_of_mem_drop hl)⟩
theorem Txs.mono {n m : Nat} {a : List Str} (h : Txs n a) (le : n ≤ m) : Txs m a := ⟨Nat.le_trans h.len le, h.ok⟩
theorem Txs.join {n : Nat} {ls : List Str} (h : Txs n ls) {y : Str} (hy : y.length ≤ 1) (hy2 : ∀ c ∈ tl y, c < 0x110000) : Tx n (Txt.join y ls) := by
  refine ⟨?_, fun c hc => ?_⟩
  · rw [join_eq]
    have h1 := h.len
    unfold wgt at h1
    cases ls with
    | nil => show (Str.empty).length ≤ _; simp [Str.empty, Str.length]
    | cons a l =>
      rw [PyProof.Rows.len_join_cons]
      have h2 : l.length * y.length ≤ l.length * 1 := Nat.mul_le_mul_left _ hy
      rw [List.length_cons] at h1
      omega
  · rw [join_eq, tl_join] at hc
    rcases of_join hc with hc | ⟨p, hp, hc⟩
    · exact hy2 c hc
    · obtain ⟨l, hl, rfl⟩ := List.mem_map.mp hp
      exact h.ok l hl c hc
end WP
namespace WP
open PySem L2 TL
section
variable {d w c p : Addr} {B : Int} {H H0 : Hp} {o : HO}
theorem Dr.off (D : Dr d w c B H) (hp : H p = none) : p ≠ d ∧ p ≠ w ∧ p ≠ c := by
  obtain ⟨⟨r, t, h1, _⟩, ⟨ns, h2⟩, ⟨ms, h3⟩⟩ := D
  refine ⟨fun e => ?_, fun e => ?_, fun e => ?_⟩
  · rw [e, h1] at hp
    cases hp
  · rw [e, h2] at hp
    cases hp
  · rw [e, (hd2_of h3).1] at hp
    cases hp
/-- the draws' state behind what was before (H0), B draws at most; what else is in the heap: by hd2 d w H -/
structure Ds (d w c : Addr) (B : Int) (H0 H : Hp) : Prop where
  dr : Dr d w c B H
  fr : Same (hd2 d w H0) (hd2 d w H)
theorem Ds.draw {H' : Hp} {B' : Int} (s : Ds d w c B H0 H) (D : Dr d w c B' H') (f : Same (hd2 d w H) (hd2 d w H')) : Ds d w c B' H0 H' := ⟨D, s.fr.trans f⟩
theorem Ds.new (s : Ds d w c B H0 H) (hp : H p = none) : Ds d w c B H0 (upd H p o) := ⟨s.dr.new hp, s.fr.trans (hd2_new hp)⟩
theorem Ds.at (s : Ds d w c B H0 H) (hp : H p = none) : hd2 d w (upd H p o) p = some o := by
  obtain ⟨h1, h2, _⟩ := s.dr.off hp
  exact hd2_mk upd_same h1 h2
theorem Ds.mono {B' : Int} (s : Ds d w c B H0 H) (h : B ≤ B') : Ds d w c B' H0 H := ⟨s.dr.mono h, s.fr⟩
theorem Ds.same {H' : Hp} (s : Ds d w c B H0 H) (f : Same H H') : Ds d w c B H0 H' := by
  obtain ⟨⟨⟨r, t, e1, h4⟩, ⟨ns, e2⟩, ⟨ms, e3⟩⟩, s2⟩ := s
  exact ⟨⟨⟨r, t, f _ _ e1, h4⟩, ⟨ns, f _ _ e2⟩, ⟨ms, hd2_same f _ _ e3⟩⟩, s2.trans (hd2_same f)⟩
end
theorem pigeon {α : Type} [DecidableEq α] : ∀ (l m : List α), l.Nodup → (∀ x ∈ l, x ∈ m) → l.length ≤ m.length
  | [], _, _, _ => Nat.zero_le _
  | a :: r, m, h, hs => by
    have ha := hs a List.mem_cons_self
    have h2 := List.nodup_cons.mp h
    have ih := pigeon r (m.erase a) h2.2 fun x hx => (List.mem_erase_of_ne (fun e : x = a => h2.1 (by rw [← e]; exact hx))).mpr (hs x (List.mem_cons_of_mem _ hx))
    rw [List.length_erase_of_mem ha] at ih
    have := List.length_pos_of_mem ha
    rw [List.length_cons]
    omega
theorem noneS {H H' : Hp} {d : Addr} (s : Same H H') (h : H' d = none) : H d = none := by
  cases e : H d with
  | none => rfl
  | some o => rw [s _ _ e] at h; cases h
end WP
namespace WP
open PySem L2 PySem.Spec PyProof.Rows
end WP
namespace WP
open PySem L2 PySem.Spec PyProof.Rows
def DefK (K : PySem.W.Frag) (x : Str) (st : Stmt) : Prop := ∃ (f : Addr) (fd : FuncData), PySem.W.nsIn K mainGlobals x = some (some (.ref f)) ∧ PySem.W.keepIn K (.ref f) = true ∧ Fun K x x st f fd
theorem def_mk {K : PySem.W.Frag} {h : Heap} {x : Str} {st : Stmt} {f : Addr} {od an : Option Addr} {sl : Array (Option Value)} {oc kV dc pm cd ct : Value} (X : K.In h) (a : PySem.W.nsIn K mainGlobals x = some (some (.ref f)))
    (l : K.lookup f = some ⟨oc, od, .func (PySem.W.fnOf x x (defArgs st) (defBody st) (defScope st) .none kV dc pm an cd ct), sl⟩) (c : PySem.W.codeIn K cd x = true) (k : PySem.W.keepIn K (.ref f) = true) : DefK K x st :=
  ⟨f, _, a, k, ⟨⟨oc, od, kV, dc, pm, an, cd, ct, sl, rfl, l, c⟩, k⟩⟩
/-- a method's def -/
def MethK (K : PySem.W.Frag) (x qual : Str) (st : Stmt) (f : Addr) : Prop := ∃ fd : FuncData, Fun K x qual st f fd
theorem meth_mk {K : PySem.W.Frag} {h : Heap} {x qual : Str} {st : Stmt} {f : Addr} {od an : Option Addr} {sl : Array (Option Value)} {oc kV dc pm cd ct : Value} (X : K.In h)
    (l : K.lookup f = some ⟨oc, od, .func (PySem.W.fnOf x qual (defArgs st) (defBody st) (defScope st) .none kV dc pm an cd ct), sl⟩) (c : PySem.W.codeIn K cd qual = true) (k : PySem.W.keepIn K (.ref f) = true) : MethK K x qual st f :=
  ⟨_, ⟨⟨oc, od, kV, dc, pm, an, cd, ct, sl, rfl, l, c⟩, k⟩⟩
def NoG (K : PySem.W.Frag) (x : Str) : Prop := PySem.W.nsIn K mainGlobals x = some none
structure BiK (K : PySem.W.Frag) : Prop where
  int : NoG K "int"
  str : NoG K "str"
  len : NoG K "len"
  list : NoG K "list"
  range : NoG K "range"
  min : NoG K "min"
  max : NoG K "max"
  sorted : NoG K "sorted"
  set : NoG K "set"
  tuple : NoG K "tuple"
  dict : NoG K "dict"
  isinstance : NoG K "isinstance"
  repr : NoG K "repr"
  zip : NoG K "zip"
  enumerate : NoG K "enumerate"
  all : NoG K "all"
  sum : NoG K "sum"
  bool : NoG K "bool"
theorem BiK.bi {K : PySem.W.Frag} {h : Heap} {mg : Str → Option Value} (X : K.In h) (G : h.Ns mainGlobals mg) (B : BiK K) : Bi mg :=
  ⟨PySem.W.mg_none_of X G B.int, PySem.W.mg_none_of X G B.str, PySem.W.mg_none_of X G B.len, PySem.W.mg_none_of X G B.list, PySem.W.mg_none_of X G B.range, PySem.W.mg_none_of X G B.min, PySem.W.mg_none_of X G B.max, PySem.W.mg_none_of X G B.sorted, PySem.W.mg_none_of X G B.set, PySem.W.mg_none_of X G B.tuple, PySem.W.mg_none_of X G B.dict, PySem.W.mg_none_of X G B.isinstance, PySem.W.mg_none_of X G B.repr, PySem.W.mg_none_of X G B.zip, PySem.W.mg_none_of X G B.enumerate, PySem.W.mg_none_of X G B.all, PySem.W.mg_none_of X G B.sum, PySem.W.mg_none_of X G B.bool⟩
theorem bi_mk {K : PySem.W.Frag} {h : Heap} (X : K.In h) (a1 : PySem.W.nsIn K mainGlobals "int" = some none) (a2 : PySem.W.nsIn K mainGlobals "str" = some none) (a3 : PySem.W.nsIn K mainGlobals "len" = some none) (a4 : PySem.W.nsIn K mainGlobals "list" = some none) (a5 : PySem.W.nsIn K mainGlobals "range" = some none) (a6 : PySem.W.nsIn K mainGlobals "min" = some none)
    (a7 : PySem.W.nsIn K mainGlobals "max" = some none) (a8 : PySem.W.nsIn K mainGlobals "sorted" = some none) (a9 : PySem.W.nsIn K mainGlobals "set" = some none) (a10 : PySem.W.nsIn K mainGlobals "tuple" = some none) (a11 : PySem.W.nsIn K mainGlobals "dict" = some none) (a12 : PySem.W.nsIn K mainGlobals "isinstance" = some none) (a13 : PySem.W.nsIn K mainGlobals "repr" = some none)
    (a14 : PySem.W.nsIn K mainGlobals "zip" = some none) (a15 : PySem.W.nsIn K mainGlobals "enumerate" = some none) (a16 : PySem.W.nsIn K mainGlobals "all" = some none) (a17 : PySem.W.nsIn K mainGlobals "sum" = some none) (a18 : PySem.W.nsIn K mainGlobals "bool" = some none) : BiK K := ⟨a1, a2, a3, a4, a5, a6, a7, a8, a9, a10, a11, a12, a13, a14, a15, a16, a17, a18⟩
/-- its __init__ -/
theorem ok_init1 {P : Program} {w : World} {K : PySem.W.Frag} {mg : Str → Option Value} {base : Heap} {f C : Addr} {fd : FuncData} {qual fld : Str} {st : Stmt} {p1 p2 p3 p4 : Pos} (F : Fun K "__init__" qual st f fd) (S : FnScope ["self", fld] ["self", fld] (defScope st)) (hb : defBody st = [.Assign [.Attribute (.Name "self" p1) fld p2] (.Name fld p3) p4])
    (h1 : (defScope st).names.lookup (Str.ofString "self") = some NameKind.local) (h2 : (defScope st).names.lookup fld = some NameKind.local) (hd : (fld == ("__debug__" : Str)) = false) (hd2 : (fld == ("__classdict__" : Str)) = false) (T : OexC K C) (no : PySem.W.findIn K (.ref C) fld = some none) : FnOk P w K mg base CX0 1 f fd ["self", fld] (spI1 C fld) := by
  refine F.ok S (fun vs H Q E h => ?_) (fun cdv A outer s H vs Q E hr h => ?_)
  · obtain ⟨a, v, rfl, _⟩ := h
    rfl
  · obtain ⟨a, v, rfl, ha, q⟩ := h
    rw [hb]
    refine ⟨_, pss_one (ps_ost (pe_var (i := 0) rfl (.inl h1) (by decide) (by decide)) (pe_var (i := 1) rfl (.inl h2) hd hd2)), ?_⟩
    exact ⟨_, rfl, _, rfl, a, C, rfl, T, no, .inl ⟨ha, fun dx h3 h4 => q dx h3 h4⟩⟩
end WP
namespace WP
open PySem L2 PySem.Spec PyProof.Rows
open PySem.Froz (SD sObj TxOk tailTx addTx add_x add_ok is_str get_upd)
end WP
namespace WP
open PySem L2 PySem.Spec PyProof.Rows
/-- the number of different ones is the number if none is twice -/
theorem nodup_iff {l ys : List Str} (y1 : ys.Nodup) (y2 : ∀ x, x ∈ ys ↔ x ∈ l) : ys.length = l.length ↔ l.Nodup := by
  constructor
  · intro e
    -- a list with a repeated item has fewer different ones
    have key : ∀ (l : List Str), ¬ l.Nodup → ∃ m : List Str, m.length < l.length ∧ ∀ x, x ∈ l → x ∈ m := by
      intro l
      induction l with
      | nil => intro h; exact absurd List.nodup_nil h
      | cons a r ih =>
        intro h
        by_cases ha : a ∈ r
        · exact ⟨r, Nat.lt_succ_self _, fun x hx => (List.mem_cons.mp hx).elim (fun e => e ▸ ha) id⟩
        · have hr : ¬ r.Nodup := fun z => h (List.nodup_cons.mpr ⟨ha, z⟩)
          obtain ⟨m, h1, h2⟩ := ih hr
          exact ⟨a :: m, Nat.succ_lt_succ h1, fun x hx => (List.mem_cons.mp hx).elim (fun e => e ▸ List.mem_cons_self) fun z => List.mem_cons_of_mem _ (h2 x z)⟩
    by_cases hn : l.Nodup
    · exact hn
    · obtain ⟨m, h1, h2⟩ := key l hn
      have := pigeon ys m y1 fun x hx => h2 x ((y2 x).mp hx)
      omega
  · intro hn
    have h1 := pigeon ys l y1 fun x hx => (y2 x).mp hx
    have h2 := pigeon l ys hn fun x hx => (y2 x).mpr hx
    omega
end WP
namespace WP
open PySem L2 PySem.Spec PyProof.Rows
section
variable {X : Cx} {tg iter : Expr} {w1 w2 : TI}
theorem SqL.sm {K : PySem.W.Frag} {H H' : Hp} {a : Addr} {xs : List V} (h : SqL K H a xs) (s : Same H H') : SqL K H' a xs := s.seq h
theorem SqT.sm {K : PySem.W.Frag} {H H' : Hp} {a : Addr} {xs : List V} (h : SqT K H a xs) (s : Same H H') : SqT K H' a xs := by
  rcases h with (h | ⟨o, h⟩) | h
  · exact .inl (.inl (s _ _ h))
  · exact .inl (.inr ⟨o, s _ _ h⟩)
  · exact .inr h
end
def areNamesL (xs : List V) : Bool := xs.all isNameV && decide xs.Nodup
theorem nodup_strs (ns : List Str) : (ns.map V.str).Nodup ↔ ns.Nodup := by
  constructor
  · intro h
    exact (List.pairwise_map.mp h).imp fun h e => h (by rw [e])
  · intro h
    exact List.pairwise_map.mpr (h.imp fun h e => h (V.str.inj e))
end WP
namespace WP
open PySem L2 PySem.Spec PyProof.Rows
def spI2 (C : Addr) (f g : Str) : Sp := fun vs H Q _ => ∃ (a : Addr) (v u : V), vs = [.ref a, v, u] ∧ H a = some (exo a C none) ∧ ∀ dx, H dx = none → dx ≠ a → ∀ H', H' a = some (exo a C (some dx)) → H' dx = some (exd dx [(g, u), (f, v)]) → (∀ b, b ≠ a → b ≠ dx → H' b = H b) → Q .non H'
structure Err2 (P : Program) (w : World) (K : PySem.W.Frag) (mg : Str → Option Value) (base : Heap) (CP : Addr) (x : Str) (C : Addr) (f g : Str) : Prop where
  T : OexC K C
  xf : XfC K C
  nf : PySem.W.findIn K (.ref C) f = some none
  ng : PySem.W.findIn K (.ref C) g = some none
  ec : ExcC K C
  mgC : mg x = some (.ref C)
  init : ∃ fI fd, PySem.W.findIn K (.ref C) "__init__" = some (some (.ref fI)) ∧ PySem.W.typeIn K (.ref fI) = some (.type "function") ∧ FnOk P w K mg base CX0 1 fI fd ["self", f, g] (spI2 C f g) ∧ Binds K fd ["self", f, g] []
  sub : PySem.W.exmOne K (.ref C) (.ref CP) = some true
theorem ok_init2 {P : Program} {w : World} {K : PySem.W.Frag} {mg : Str → Option Value} {base : Heap} {fa C : Addr} {fd : FuncData} {qual f g : Str} {st : Stmt} {p1 p2 p3 p4 q1 q2 q3 q4 : Pos} (F : Fun K "__init__" qual st fa fd) (S : FnScope ["self", f, g] ["self", f, g] (defScope st))
    (hb : defBody st = [.Assign [.Attribute (.Name "self" p1) f p2] (.Name f p3) p4, .Assign [.Attribute (.Name "self" q1) g q2] (.Name g q3) q4])
    (h1 : (defScope st).names.lookup (Str.ofString "self") = some NameKind.local) (h2 : (defScope st).names.lookup f = some NameKind.local) (h3 : (defScope st).names.lookup g = some NameKind.local) (hd : (f == ("__debug__" : Str)) = false) (hd2 : (f == ("__classdict__" : Str)) = false) (hd' : (g == ("__debug__" : Str)) = false) (hd2' : (g == ("__classdict__" : Str)) = false) (T : OexC K C)
    (nf : PySem.W.findIn K (.ref C) f = some none) (ng : PySem.W.findIn K (.ref C) g = some none) : FnOk P w K mg base CX0 1 fa fd ["self", f, g] (spI2 C f g) := by
  refine F.ok S (fun vs H Q E h => ?_) (fun cdv A outer s H vs Q E hr h => ?_)
  · obtain ⟨a, v, u, rfl, _⟩ := h
    rfl
  · obtain ⟨a, v, u, rfl, ha, q⟩ := h
    rw [hb]
    refine ⟨_, pss_cons (ps_ost (pe_var (i := 0) rfl (.inl h1) (by decide) (by decide)) (pe_var (i := 1) rfl (.inl h2) hd hd2)) (pss_one (ps_ost (pe_var (i := 0) rfl (.inl h1) (by decide) (by decide)) (pe_var (i := 2) rfl (.inl h3) hd' hd2'))), ?_⟩
    refine ⟨_, rfl, _, rfl, a, C, rfl, T, nf, .inl ⟨ha, fun dx h3 h4 => ?_⟩⟩
    refine ⟨_, rfl, _, rfl, a, C, rfl, T, ng, .inr ⟨dx, _, upd_same, by rw [upd_ne h4, upd_same], (by show 1 ≤ 900; decide), ?_⟩⟩
    refine q dx h3 h4 _ (by rw [upd_ne (Ne.symm h4), upd_same]) upd_same fun b n1 n2 => ?_
    rw [upd_ne n2, upd_ne n1, upd_ne n2]
/-- an error that is made of a message -/
structure Err0 (K : PySem.W.Frag) (mg : Str → Option Value) (CP : Addr) (x : Str) (C : Addr) : Prop where
  ex : PySem.W.excIn K C [.type "ValueError", .type "Exception", .type "BaseException", .type "object"] "ValueError.__new__" = true
  mgC : mg x = some (.ref C)
  kC : PySem.W.keepIn K (.ref C) = true
  eC : PySem.W.subIn K (.ref C) (.type "BaseException") = some true
  tC : PySem.W.typeIn K (.ref C) = some (.type "type")
  ec : ExcC K C
  sub : PySem.W.exmOne K (.ref C) (.ref CP) = some true
structure FileD where
  own : Bool
  refers : List Str
  hold : Option Int
  keeps : List (Option Int)
deriving DecidableEq
def namS (b : Bool) : Str := if b then "own" else "plain"
def optI : Option Int → V
  | none => .non
  | some i => .int i
theorem optI_inj {a b : Option Int} (h : optI a = optI b) : a = b := by
  cases a <;> cases b <;> cases h <;> rfl
/-- v is a File, its data f -/
def FileAt (K : PySem.W.Frag) (CF : Addr) (H : Hp) (v : V) (f : FileD) : Prop := ∃ a dx t1 t2, v = .ref a ∧ H a = some (.ins CF dx [("own_naming", .str (namS f.own)), ("own_refers", .ref t1), ("own_hold", optI f.hold), ("own_keeps", .ref t2)]) ∧ SqT K H t1 (f.refers.map V.str) ∧ SqT K H t2 (f.keeps.map optI)
theorem FileAt.same {K : PySem.W.Frag} {CF : Addr} {H H' : Hp} {v : V} {f : FileD} (h : FileAt K CF H v f) (s : Same H H') : FileAt K CF H' v f := by
  obtain ⟨a, dx, t1, t2, e, h1, h2, h3⟩ := h
  exact ⟨a, dx, t1, t2, e, s _ _ h1, SqT.sm h2 s, SqT.sm h3 s⟩
/-- what is given for the four parts -/
def okNaming (v : V) : Bool := v == .str "own" || v == .str "plain"
def okKeeps (k : Kd) (xs : List V) : Bool := (k.isLst || k.isTup) && decide (xs.length ≤ 4) && xs.all isTicksV
def fileErr (v1 : V) (k2 : Kd) (x2 : List V) (v3 : V) (k4 : Kd) (x4 : List V) : Option Str :=
  if okNaming v1 = false then some "naming" else if ((k2.isLst || k2.isTup) && areNamesL x2) = false then some "refers" else if isTicksV v3 = false then some "hold" else if okKeeps k4 x4 = false then some "keeps" else none
/-- f is what File makes of these parts -/
def FileOf (f : FileD) (v1 : V) (x2 : List V) (v3 : V) (x4 : List V) : Prop := v1 = .str (namS f.own) ∧ (∃ ns : List Str, x2 = ns.map V.str ∧ f.refers.Perm ns) ∧ sortedS f.refers = true ∧ v3 = optI f.hold ∧ x4 = f.keeps.map optI
end WP
namespace WP
open PySem L2 PySem.Spec PyProof.Rows
def SeqV (K : PySem.W.Frag) (H : Hp) (v : V) (k : Kd) (xs : List V) : Prop := Any K H v k ∧ ((k.isLst || k.isTup) = true → ∃ a, v = .ref a ∧ (SqL K H a xs ∨ SqT K H a xs) ∧ xs.length ≤ 1000 ∧ ∀ x ∈ xs, ∃ kx, Any K H x kx ∧ ∀ z, x = .str z → z.length ≤ sizeLine)
theorem SeqV.same {K : PySem.W.Frag} {H H' : Hp} {v : V} {k : Kd} {xs : List V} (h : SeqV K H v k xs) (s : Same H H') : SeqV K H' v k xs := ⟨h.1.same s, fun e => by
  obtain ⟨a, e1, h1, h2, h3⟩ := h.2 e
  exact ⟨a, e1, h1.imp (fun h => SqL.sm h s) (fun h => SqT.sm h s), h2, fun x hx => by
    obtain ⟨kx, h4, h5⟩ := h3 x hx
    exact ⟨kx, h4.same s, h5⟩⟩⟩
/-- what stands elsewhere stands -/
def SameX (x : Addr) (H H' : Hp) : Prop := ∀ b u, b ≠ x → H b = some u → H' b = some u
theorem SameX.of {x : Addr} {H H' : Hp} (s : Same H H') : SameX x H H' := fun b u _ e => s b u e
theorem SameX.trans {x : Addr} {H H' H'' : Hp} (s : SameX x H H') (t : SameX x H' H'') : SameX x H H'' := fun b u n e => t b u n (s b u n e)
end WP
namespace WP
open PySem L2 PySem.Spec PyProof.Rows
end WP
namespace WP
open PySem L2 PySem.Spec PyProof.Rows
def lkF (fs : List (Str × FileD)) (n : Str) : Option FileD := (fs.find? fun p => decide (p.1 = n)).map (·.2)
def rf (fs : List (Str × FileD)) (n : Str) : List Str := match lkF fs n with | some f => f.refers | none => []
inductive Rc (fs : List (Str × FileD)) : Str → Str → Prop
  | one {x y : Str} : y ∈ rf fs x → Rc fs x y
  | more {x y z : Str} : Rc fs x y → z ∈ rf fs y → Rc fs x z
theorem lkF_hit {fs : List (Str × FileD)} {n : Str} {f : FileD} {r : List (Str × FileD)} : lkF ((n, f) :: r) n = some f := by simp [lkF]
theorem lkF_skip {n m : Str} {f : FileD} {r : List (Str × FileD)} (h : m ≠ n) : lkF ((m, f) :: r) n = lkF r n := by simp [lkF, h]
theorem lkF_mem {n : Str} {f : FileD} : ∀ {fs : List (Str × FileD)}, lkF fs n = some f → (n, f) ∈ fs
  | [], h => by cases h
  | (m, g) :: r, h => by
    by_cases e : m = n
    · rw [e, lkF_hit (fs := r)] at h
      rw [e, Option.some.inj h]
      exact List.mem_cons_self
    · rw [lkF_skip e] at h
      exact List.mem_cons_of_mem _ (lkF_mem h)
theorem lkF_key {n : Str} : ∀ {fs : List (Str × FileD)}, n ∈ fs.map (·.1) ↔ ∃ f, lkF fs n = some f
  | [] => ⟨fun h => (by cases h), fun ⟨f, h⟩ => (by cases h)⟩
  | (m, g) :: r => by
    by_cases e : m = n
    · rw [e, lkF_hit (fs := r)]
      exact ⟨fun _ => ⟨g, rfl⟩, fun _ => List.mem_cons_self⟩
    · rw [lkF_skip e, ← lkF_key, List.map_cons, List.mem_cons]
      exact ⟨fun h => h.resolve_left (fun z => e z.symm), .inr⟩
theorem lkF_none {n : Str} {fs : List (Str × FileD)} (h : n ∉ fs.map (·.1)) : lkF fs n = none := by
  cases e : lkF fs n with
  | none => rfl
  | some f => exact absurd (lkF_key.mpr ⟨f, e⟩) h
/-- all files are named, refer to files of the same, some few -/
structure FsOk (fs : List (Str × FileD)) : Prop where
  few : fs.length ≤ 8
  nd : (fs.map (·.1)).Nodup
  nam : ∀ n ∈ fs.map (·.1), isNameS n = true
  cl : ∀ n f, lkF fs n = some f → ∀ m ∈ f.refers, m ∈ fs.map (·.1)
  rnd : ∀ n f, lkF fs n = some f → f.refers.Nodup
section
variable {fs : List (Str × FileD)}
theorem FsOk.rf_mem (h : FsOk fs) {n m : Str} (hm : m ∈ rf fs n) : m ∈ fs.map (·.1) := by
  unfold rf at hm
  cases e : lkF fs n with
  | none => rw [e] at hm; cases hm
  | some f => rw [e] at hm; exact h.cl n f e m hm
theorem FsOk.rf_nd (h : FsOk fs) (n : Str) : (rf fs n).Nodup := by
  unfold rf
  cases e : lkF fs n with
  | none => exact List.nodup_nil
  | some f => exact h.rnd n f e
theorem FsOk.rf_len (h : FsOk fs) (n : Str) : (rf fs n).length ≤ 8 := by
  have := pigeon (rf fs n) (fs.map (·.1)) (h.rf_nd n) fun x hx => h.rf_mem hx
  rw [List.length_map] at this
  exact Nat.le_trans this h.few
theorem FsOk.rc_mem (h : FsOk fs) {n m : Str} (r : Rc fs n m) : m ∈ fs.map (·.1) := by
  cases r with
  | one h1 => exact h.rf_mem h1
  | more _ h1 => exact h.rf_mem h1
theorem rf_of {n : Str} {f : FileD} (e : lkF fs n = some f) : rf fs n = f.refers := by unfold rf; rw [e]
end
structure BelI (fs : List (Str × FileD)) (n : Str) (found line : List Str) : Prop where
  fr : ∀ x ∈ found, Rc fs n x
  lr : ∀ x ∈ line, Rc fs n x
  st : ∀ x ∈ rf fs n, x ∈ found ∨ x ∈ line
  cl : ∀ y ∈ found, ∀ x ∈ rf fs y, x ∈ found ∨ x ∈ line
  nd : found.Nodup
section
variable {fs : List (Str × FileD)} {n : Str} {found line l : List Str} {x : Str}
theorem BelI.start : BelI fs n [] (rf fs n) := ⟨fun x h => (by cases h), fun x h => .one h, fun x h => .inr h, fun y h => (by cases h), List.nodup_nil⟩
theorem BelI.step (I : BelI fs n found (l ++ [x])) (h : x ∉ found) : BelI fs n (found ++ [x]) (l ++ rf fs x) := by
  have rx : Rc fs n x := I.lr x (List.mem_append_right _ (List.mem_singleton.mpr rfl))
  have k : ∀ y, y ∈ found ∨ y ∈ l ++ [x] → y ∈ found ++ [x] ∨ y ∈ l ++ rf fs x := fun y hy => hy.elim (fun z => .inl (List.mem_append_left _ z)) fun z => (List.mem_append.mp z).elim (fun q => .inr (List.mem_append_left _ q)) fun e => .inl (List.mem_append_right _ e)
  refine ⟨fun y hy => (List.mem_append.mp hy).elim (I.fr y) fun e => List.mem_singleton.mp e ▸ rx, fun y hy => (List.mem_append.mp hy).elim (fun q => I.lr y (List.mem_append_left _ q)) fun q => rx.more q, fun y hy => k y (I.st y hy), fun z hz y hy => ?_, ?_⟩
  · rcases List.mem_append.mp hz with hz | hz
    · exact k y (I.cl z hz y hy)
    · rw [List.mem_singleton.mp hz] at hy
      exact .inr (List.mem_append_right _ hy)
  · rw [List.nodup_append]
    exact ⟨I.nd, List.nodup_cons.mpr ⟨by simp, List.nodup_nil⟩, fun a ha b hb e => h (by rw [← List.mem_singleton.mp hb, ← e]; exact ha)⟩
theorem BelI.len (h : FsOk fs) (I : BelI fs n found line) : found.length ≤ 8 := by
  have := pigeon found (fs.map (·.1)) I.nd fun x hx => h.rc_mem (I.fr x hx)
  rw [List.length_map] at this
  exact Nat.le_trans this h.few
end
/-- t tells, for the file e and all below it, what refers to it -/
structure TreeOf (fs : List (Str × FileD)) (e : Str) (t : List (Str × Option Str)) : Prop where
  nd : (t.map (·.1)).Nodup
  root : (e, none) ∈ t
  par : ∀ x p, (x, p) ∈ t → (x = e ∧ p = none) ∨ ∃ q, p = some q ∧ q ∈ t.map (·.1) ∧ x ∈ rf fs q
  chi : ∀ q ∈ t.map (·.1), ∀ x ∈ rf fs q, (x, some q) ∈ t
  rc : ∀ x ∈ t.map (·.1), x = e ∨ Rc fs e x
theorem key_uni {t : List (Str × Option Str)} (h : (t.map (·.1)).Nodup) {x : Str} {p q : Option Str} (h1 : (x, p) ∈ t) (h2 : (x, q) ∈ t) : p = q := by
  induction t with
  | nil => cases h1
  | cons a r ih =>
    rw [List.map_cons, List.nodup_cons] at h
    rcases List.mem_cons.mp h1 with e1 | h1
    · rcases List.mem_cons.mp h2 with e2 | h2
      · exact (Prod.mk.inj (e1.trans e2.symm)).2
      · exact absurd (List.mem_map.mpr ⟨_, h2, by rw [← e1]⟩) h.1
    · rcases List.mem_cons.mp h2 with e2 | h2
      · exact absurd (List.mem_map.mpr ⟨_, h1, by rw [← e2]⟩) h.1
      · exact ih h.2 h1 h2
section
variable {fs : List (Str × FileD)} {e : Str} {t : List (Str × Option Str)}
theorem TreeOf.key (T : TreeOf fs e t) {x : Str} (h : x = e ∨ Rc fs e x) : x ∈ t.map (·.1) := by
  rcases h with rfl | h
  · exact List.mem_map.mpr ⟨_, T.root, rfl⟩
  · induction h with
    | one h => exact List.mem_map.mpr ⟨_, T.chi e (List.mem_map.mpr ⟨_, T.root, rfl⟩) _ h, rfl⟩
    | more _ h ih => exact List.mem_map.mpr ⟨_, T.chi _ ih _ h, rfl⟩
theorem TreeOf.mem (T : TreeOf fs e t) (x : Str) : x ∈ t.map (·.1) ↔ x = e ∨ Rc fs e x := ⟨T.rc x, T.key⟩
end
/-- the search: t found so far, line: those whose references are still to be looked at -/
structure TreI (fs : List (Str × FileD)) (e : Str) (t : List (Str × Option Str)) (line : List Str) : Prop where
  nd : (t.map (·.1)).Nodup
  root : (e, none) ∈ t
  par : ∀ x p, (x, p) ∈ t → (x = e ∧ p = none) ∨ ∃ q, p = some q ∧ q ∈ t.map (·.1) ∧ q ∉ line ∧ x ∈ rf fs q
  chi : ∀ q ∈ t.map (·.1), q ∉ line → ∀ x ∈ rf fs q, (x, some q) ∈ t
  rc : ∀ x ∈ t.map (·.1), x = e ∨ Rc fs e x
  ln : ∀ x ∈ line, x ∈ t.map (·.1)
  lnd : line.Nodup
/-- the search within one file's references: done of them so far -/
structure TreJ (fs : List (Str × FileD)) (e : Str) (t : List (Str × Option Str)) (line : List Str) (h : Str) (done : List Str) : Prop where
  nd : (t.map (·.1)).Nodup
  root : (e, none) ∈ t
  par : ∀ x p, (x, p) ∈ t → (x = e ∧ p = none) ∨ ∃ q, p = some q ∧ q ∈ t.map (·.1) ∧ q ∉ line ∧ (if q = h then x ∈ done else x ∈ rf fs q)
  chi : ∀ q ∈ t.map (·.1), q ∉ line → ∀ x ∈ (if q = h then done else rf fs q), (x, some q) ∈ t
  rc : ∀ x ∈ t.map (·.1), x = e ∨ Rc fs e x
  ln : ∀ x ∈ line, x ∈ t.map (·.1)
  lnd : line.Nodup
  hk : h ∈ t.map (·.1)
  hl : h ∉ line
section
variable {fs : List (Str × FileD)} {e h x : Str} {t : List (Str × Option Str)} {line l done r : List Str}
theorem TreI.start : TreI fs e [(e, none)] [e] := by
  refine ⟨by simp, by simp, fun x p hx => ?_, fun q hq hn => ?_, fun x hx => ?_, fun x hx => ?_, by simp⟩
  · have := List.mem_singleton.mp hx
    exact .inl ⟨(Prod.mk.inj this).1, (Prod.mk.inj this).2⟩
  · exact absurd hq (by simpa using hn)
  · exact .inl (by simpa using hx)
  · simpa using hx
theorem TreJ.add (J : TreJ fs e t line h done) (hx : x ∉ t.map (·.1)) (hr : x ∈ rf fs h) : TreJ fs e (t ++ [(x, some h)]) (line ++ [x]) h (done ++ [x]) := by
  have xh : x ≠ h := fun z => hx (by rw [z]; exact J.hk)
  have km : ∀ y, y ∈ (t ++ [(x, some h)]).map (·.1) ↔ y ∈ t.map (·.1) ∨ y = x := fun y => by rw [List.map_append, List.mem_append, List.map_singleton, List.mem_singleton]
  refine ⟨?_, List.mem_append_left _ J.root, fun y p hy => ?_, fun q hq hn y hy => ?_, fun y hy => ?_, fun y hy => ?_, ?_, (km h).mpr (.inl J.hk), fun z => ?_⟩
  · rw [List.map_append, List.nodup_append]
    refine ⟨J.nd, by simp, fun a ha b hb z => hx ?_⟩
    have : b = x := by simpa using hb
    rw [← this, ← z]
    exact ha
  · rcases List.mem_append.mp hy with hy | hy
    · rcases J.par y p hy with z | ⟨q, e1, h1, h2, h3⟩
      · exact .inl z
      · refine .inr ⟨q, e1, (km q).mpr (.inl h1), fun z => (List.mem_append.mp z).elim h2 fun w => hx (by rw [← List.mem_singleton.mp w]; exact h1), ?_⟩
        by_cases z : q = h
        · rw [if_pos z] at h3 ⊢
          exact List.mem_append_left _ h3
        · rw [if_neg z] at h3 ⊢
          exact h3
    · have hy := Prod.mk.inj (List.mem_singleton.mp hy)
      refine .inr ⟨h, hy.2, (km h).mpr (.inl J.hk), fun z => (List.mem_append.mp z).elim J.hl fun w => xh (List.mem_singleton.mp w).symm, ?_⟩
      rw [if_pos rfl, hy.1]
      exact List.mem_append_right _ (List.mem_singleton.mpr rfl)
  · have hn' : q ∉ line := fun z => hn (List.mem_append_left _ z)
    rcases (km q).mp hq with hq | hq
    · by_cases z : q = h
      · rw [if_pos z] at hy
        rcases List.mem_append.mp hy with hy | hy
        · refine List.mem_append_left _ (J.chi q hq hn' y ?_)
          rw [if_pos z]
          exact hy
        · rw [List.mem_singleton.mp hy, z]
          exact List.mem_append_right _ (List.mem_singleton.mpr rfl)
      · rw [if_neg z] at hy
        refine List.mem_append_left _ (J.chi q hq hn' y ?_)
        rw [if_neg z]
        exact hy
    · exact absurd (List.mem_append_right _ (List.mem_singleton.mpr hq)) hn
  · rcases (km y).mp hy with hy | hy
    · exact J.rc y hy
    · rw [hy]
      rcases J.rc h J.hk with z | z
      · rw [z] at hr
        exact .inr (.one hr)
      · exact .inr (z.more hr)
  · rcases List.mem_append.mp hy with hy | hy
    · exact (km y).mpr (.inl (J.ln y hy))
    · exact (km y).mpr (.inr (List.mem_singleton.mp hy))
  · rw [List.nodup_append]
    exact ⟨J.lnd, by simp, fun a ha b hb z => hx (by rw [← List.mem_singleton.mp hb, ← z]; exact J.ln a ha)⟩
  · exact (List.mem_append.mp z).elim J.hl fun w => xh (List.mem_singleton.mp w).symm
/-- one that is there already: no tree -/
theorem TreJ.two (J : TreJ fs e t line h done) (hx : x ∈ t.map (·.1)) (hr : x ∈ rf fs h) (hn : x ∉ done) : ¬ ∃ t', TreeOf fs e t' := by
  rintro ⟨t', T⟩
  have h1 : (x, some h) ∈ t' := T.chi h (T.key (J.rc h J.hk)) x hr
  obtain ⟨⟨y, p⟩, hy, rfl⟩ := List.mem_map.mp hx
  rcases J.par y p hy with ⟨z1, z2⟩ | ⟨q, rfl, h2, h3, h4⟩
  · have hr' := T.root
    rw [← z1] at hr'
    cases key_uni T.nd h1 hr'
  · by_cases z : q = h
    · rw [if_pos z] at h4
      exact hn h4
    · rw [if_neg z] at h4
      have h5 : (y, some q) ∈ t' := T.chi q (T.key (J.rc q h2)) y h4
      exact z (Option.some.inj (key_uni T.nd h5 h1))
theorem TreJ.len (ok : FsOk fs) (J : TreJ fs e t line h done) (he : e ∈ fs.map (·.1)) : t.length ≤ 8 := by
  have := pigeon (t.map (·.1)) (fs.map (·.1)) J.nd fun x hx => (J.rc x hx).elim (fun z => z ▸ he) fun z => ok.rc_mem z
  rw [List.length_map, List.length_map] at this
  exact Nat.le_trans this ok.few
theorem TreI.len (ok : FsOk fs) (J : TreI fs e t line) (he : e ∈ fs.map (·.1)) : t.length ≤ 8 := by
  have := pigeon (t.map (·.1)) (fs.map (·.1)) J.nd fun x hx => (J.rc x hx).elim (fun z => z ▸ he) fun z => ok.rc_mem z
  rw [List.length_map, List.length_map] at this
  exact Nat.le_trans this ok.few
end
inductive FilesR (K : PySem.W.Frag) (CF : Addr) (H : Hp) : List (Key × V) → List (Str × FileD) → Prop
  | nil : FilesR K CF H [] []
  | cons {n : Str} {v : V} {f : FileD} {kvs : List (Key × V)} {fs : List (Str × FileD)} : FileAt K CF H v f → FilesR K CF H kvs fs → FilesR K CF H ((.inr n, v) :: kvs) ((n, f) :: fs)
section
variable {K : PySem.W.Frag} {CF : Addr} {H H' : Hp} {kvs : List (Key × V)} {fs : List (Str × FileD)}
theorem FilesR.same (h : FilesR K CF H kvs fs) (s : Same H H') : FilesR K CF H' kvs fs := by
  induction h with
  | nil => exact .nil
  | cons h _ ih => exact .cons (h.same s) ih
theorem FilesR.len (h : FilesR K CF H kvs fs) : kvs.length = fs.length := by
  induction h with
  | nil => rfl
  | cons h _ ih => simp [ih]
theorem FilesR.keys (h : FilesR K CF H kvs fs) : kvs.map (·.1) = (fs.map (·.1)).map Sum.inr := by
  induction h with
  | nil => rfl
  | cons h _ ih => simp [ih]
end
/-- the files' dict at d -/
def FilesAt (K : PySem.W.Frag) (CF : Addr) (H : Hp) (d : Addr) (fs : List (Str × FileD)) : Prop := ∃ kvs, H d = some (.dK kvs) ∧ FilesR K CF H kvs fs
theorem FilesAt.same {K : PySem.W.Frag} {CF : Addr} {H H' : Hp} {d : Addr} {fs : List (Str × FileD)} (h : FilesAt K CF H d fs) (s : Same H H') : FilesAt K CF H' d fs := by
  obtain ⟨kvs, h1, h2⟩ := h
  exact ⟨kvs, s _ _ h1, h2.same s⟩
def optS : Option Str → V
  | none => .non
  | some x => .str x
end WP
namespace WP
open PySem L2 PySem.Spec PyProof.Rows
structure FileOk (f : FileD) : Prop where
  nd : f.refers.Nodup
  nam : ∀ x ∈ f.refers, isNameS x = true
  so : sortedS f.refers = true
  kp : f.keeps.length ≤ 4
  fw : f.refers.length < 64
  hd : isTicksV (optI f.hold) = true
  kt : ∀ k ∈ f.keeps, isTicksV (optI k) = true
theorem FileOf.ok {f : FileD} {v1 v3 : V} {k2 k4 : Kd} {x2 x4 : List V} (h : FileOf f v1 x2 v3 x4) (e : fileErr v1 k2 x2 v3 k4 x4 = none) (hl : x2.length < 64) : FileOk f := by
  obtain ⟨h1, ⟨ns, rfl, hp⟩, hs, rfl, rfl⟩ := h
  unfold fileErr at e
  by_cases e1 : okNaming v1 = false
  · rw [if_pos e1] at e; cases e
  rw [if_neg e1] at e
  by_cases e2 : ((k2.isLst || k2.isTup) && areNamesL (ns.map V.str)) = false
  · rw [if_pos e2] at e; cases e
  rw [if_neg e2] at e
  by_cases e3 : isTicksV (optI f.hold) = false
  · rw [if_pos e3] at e; cases e
  rw [if_neg e3] at e
  by_cases e4 : okKeeps k4 (f.keeps.map optI) = false
  · rw [if_pos e4] at e; cases e
  simp only [Bool.not_eq_false] at e2 e3 e4
  unfold okKeeps at e4
  rw [Bool.and_eq_true, Bool.and_eq_true, decide_eq_true_eq, List.length_map, List.all_eq_true] at e4
  rw [Bool.and_eq_true] at e2
  have e5 := e2.2
  unfold areNamesL at e5
  rw [Bool.and_eq_true, decide_eq_true_eq, List.all_eq_true, nodup_strs] at e5
  exact ⟨hp.nodup_iff.mpr e5.2, fun x hx => e5.1 (.str x) (List.mem_map.mpr ⟨x, hp.subset hx, rfl⟩), hs, e4.1.2, (by rw [hp.length_eq]; simpa using hl), e3, fun k hk => e4.2 _ (List.mem_map.mpr ⟨k, hk, rfl⟩)⟩
inductive FVals (K : PySem.W.Frag) (CF : Addr) (H : Hp) : List (Key × V) → List (Key × Option FileD) → Prop
  | nil : FVals K CF H [] []
  | file {k : Key} {v : V} {f : FileD} {kvs : List (Key × V)} {l : List (Key × Option FileD)} : FileAt K CF H v f → FileOk f → FVals K CF H kvs l → FVals K CF H ((k, v) :: kvs) ((k, some f) :: l)
  | other {k : Key} {v : V} {kd : Kd} {kvs : List (Key × V)} {l : List (Key × Option FileD)} : Any K H v kd → PySem.W.kitOne K kd.ty (.ref CF) = some false → FVals K CF H kvs l → FVals K CF H ((k, v) :: kvs) ((k, none) :: l)
def lkO (l : List (Key × Option FileD)) (n : Str) : Option (Option FileD) := (l.find? fun p => decide (p.1 = .inr n)).map (·.2)
def fsOf (l : List (Key × Option FileD)) : List (Str × FileD) := l.filterMap fun p => match p with | (.inr n, some f) => some (n, f) | _ => none
section
variable {K : PySem.W.Frag} {CF : Addr} {H H' : Hp} {kvs : List (Key × V)} {l : List (Key × Option FileD)}
theorem FVals.same (h : FVals K CF H kvs l) (s : Same H H') : FVals K CF H' kvs l := by
  induction h with
  | nil => exact .nil
  | file h o _ ih => exact .file (h.same s) o ih
  | other h o _ ih => exact .other (h.same s) o ih
theorem FVals.keys (h : FVals K CF H kvs l) : kvs.map (·.1) = l.map (·.1) := by
  induction h with
  | nil => rfl
  | file h o _ ih => simp [ih]
  | other h o _ ih => simp [ih]
theorem FVals.len (h : FVals K CF H kvs l) : kvs.length = l.length := by
  have := congrArg List.length h.keys
  simpa using this
/-- all of them files with names: a site's files -/
theorem FVals.files (h : FVals K CF H kvs l) (h1 : ∀ k ∈ l.map (·.1), ∃ n : Str, k = .inr n) (h2 : ∀ n : Str, (Sum.inr n : Key) ∈ l.map (·.1) → lkO l n ≠ some none) (h3 : (l.map (·.1)).Nodup) : FilesR K CF H kvs (fsOf l) ∧ (∀ n f, lkF (fsOf l) n = some f → FileOk f) ∧ l = (fsOf l).map fun p => ((.inr p.1 : Key), some p.2) := by
  induction h with
  | nil => exact ⟨.nil, fun n f e => (by cases e), rfl⟩
  | @file k v f kvs l h o _ ih =>
    obtain ⟨n, rfl⟩ := h1 k List.mem_cons_self
    rw [List.map_cons, List.nodup_cons] at h3
    obtain ⟨i1, i2, i3⟩ := ih (fun k hk => h1 k (List.mem_cons_of_mem _ hk)) (fun m hm => by
      have := h2 m (List.mem_cons_of_mem _ hm)
      have ne : (Sum.inr n : Key) ≠ .inr m := fun z => h3.1 (by rw [z]; exact hm)
      have e : lkO ((.inr n, some f) :: l) m = lkO l m := by
        have : ¬ n = m := fun z => ne (by rw [z])
        simp [lkO, this]
      rw [e] at this
      exact this) h3.2
    have e : fsOf ((.inr n, some f) :: l) = (n, f) :: fsOf l := by simp [fsOf]
    rw [e]
    refine ⟨.cons h i1, fun m g hm => ?_, by rw [List.map_cons, ← i3]⟩
    by_cases z : n = m
    · subst z
      rw [lkF_hit (fs := fsOf l)] at hm
      cases hm
      exact o
    · rw [lkF_skip z] at hm
      exact i2 m g hm
  | @other k v kd kvs l h o _ ih =>
    obtain ⟨n, rfl⟩ := h1 k List.mem_cons_self
    exact absurd (by simp [lkO]) (h2 n List.mem_cons_self)
end
def keepsOf (fs : List (Str × FileD)) (n : Str) : Nat := match lkF fs n with | some f => f.keeps.length | none => 0
def okKeys (l : List (Key × Option FileD)) : Bool := decide (1 ≤ l.length) && decide (l.length ≤ 8) && l.all fun p => isNameV (kV p.1)
noncomputable def noTree (fs : List (Str × FileD)) (z : Str) : Bool := @decide (¬ ∃ t, TreeOf fs z t) (Classical.propDecidable _)
theorem noTree_iff {fs : List (Str × FileD)} {n : Str} : noTree fs n = true ↔ ¬ ∃ t, TreeOf fs n t := by unfold noTree; exact @decide_eq_true_iff _ (Classical.propDecidable _)
/-- a site's files, nothing wrong -/
structure SiteFs (fs : List (Str × FileD)) : Prop where
  ok : FsOk fs
  pos : 1 ≤ fs.length
  fok : ∀ n f, lkF fs n = some f → FileOk f
  kps : ∀ n m, n ∈ fs.map (·.1) → m ∈ fs.map (·.1) → keepsOf fs n = keepsOf fs m
  noR : ∀ n, ¬ Rc fs n n
def plainF (fs : List (Str × FileD)) : V → Bool
  | .str n => match lkF fs n with | some f => !f.own | none => false
  | _ => false
structure SiteD where
  files : List (Str × FileD)
  trees : List (Str × List (Str × Option Str))
  counts : Str
structure SiteOk (s : SiteD) : Prop where
  fs : SiteFs s.files
  so : sortedS (s.files.map (·.1)) = true
  eso : sortedS (s.trees.map (·.1)) = true
  end_ : (s.trees.map (·.1)).Nodup
  epos : s.trees ≠ []
  epl : ∀ e ∈ s.trees.map (·.1), plainF s.files (.str e) = true
  tr : ∀ e t, (e, t) ∈ s.trees → TreeOf s.files e t
  ct : s.counts = "own" ∨ s.counts = "whole"
inductive TreesR (H : Hp) : List (Key × V) → List (Str × List (Str × Option Str)) → Prop
  | nil : TreesR H [] []
  | cons {n : Str} {p : Addr} {t : List (Str × Option Str)} {kvs : List (Key × V)} {ts : List (Str × List (Str × Option Str))} : H p = some (.dK (t.map fun x => ((.inr x.1 : Key), optS x.2))) → TreesR H kvs ts → TreesR H ((.inr n, .ref p) :: kvs) ((n, t) :: ts)
section
variable {H H' : Hp} {kvs kvs' : List (Key × V)} {ts ts' : List (Str × List (Str × Option Str))}
theorem TreesR.same (h : TreesR H kvs ts) (s : Same H H') : TreesR H' kvs ts := by
  induction h with
  | nil => exact .nil
  | cons h _ ih => exact .cons (s _ _ h) ih
theorem TreesR.app (h : TreesR H kvs ts) (h' : TreesR H kvs' ts') : TreesR H (kvs ++ kvs') (ts ++ ts') := by
  induction h with
  | nil => exact h'
  | cons h _ ih => exact .cons h ih
theorem TreesR.len (h : TreesR H kvs ts) : kvs.length = ts.length := by
  induction h with
  | nil => rfl
  | cons h _ ih => simp [ih]
theorem TreesR.keys (h : TreesR H kvs ts) : kvs.map (·.1) = (ts.map (·.1)).map Sum.inr := by
  induction h with
  | nil => rfl
  | cons h _ ih => simp [ih]
end
theorem FilesR.app {K : PySem.W.Frag} {CF : Addr} {H : Hp} {kvs kvs' : List (Key × V)} {fs fs' : List (Str × FileD)} (h : FilesR K CF H kvs fs) (h' : FilesR K CF H kvs' fs') : FilesR K CF H (kvs ++ kvs') (fs ++ fs') := by
  induction h with
  | nil => exact h'
  | cons h _ ih => exact .cons h ih
/-- v is a Site, its data s -/
def SiteAt (K : PySem.W.Frag) (CS CF : Addr) (H : Hp) (v : V) (s : SiteD) : Prop := ∃ a dx d1 d2 kvs, v = .ref a ∧ H a = some (.ins CS dx [("own_files", .ref d1), ("own_trees", .ref d2), ("own_counts", .str s.counts)]) ∧ FilesAt K CF H d1 s.files ∧ H d2 = some (.dK kvs) ∧ TreesR H kvs s.trees
theorem SiteAt.same {K : PySem.W.Frag} {CS CF : Addr} {H H' : Hp} {v : V} {s : SiteD} (h : SiteAt K CS CF H v s) (S : Same H H') : SiteAt K CS CF H' v s := by
  obtain ⟨a, dx, d1, d2, kvs, e, h1, h2, h3, h4⟩ := h
  exact ⟨a, dx, d1, d2, kvs, e, S _ _ h1, h2.same S, S _ _ h3, h4.same S⟩
end WP
namespace WP
open PySem L2 PySem.Spec PyProof.Rows
def FilesV (K : PySem.W.Frag) (CF : Addr) (H : Hp) (v : V) (k : Kd) (l : List (Key × Option FileD)) : Prop := Any K H v k ∧ (k.isDct = true → ∃ d kvs, v = .ref d ∧ H d = some (.dK kvs) ∧ FVals K CF H kvs l ∧ (l.map (·.1)).Nodup ∧ ∀ n : Str, (Sum.inr n : Key) ∈ l.map (·.1) → n.length ≤ sizeLine)
theorem FilesV.same {K : PySem.W.Frag} {CF : Addr} {H H' : Hp} {v : V} {k : Kd} {l : List (Key × Option FileD)} (h : FilesV K CF H v k l) (s : Same H H') : FilesV K CF H' v k l := ⟨h.1.same s, fun e => by
  obtain ⟨d, kvs, e1, h1, h2, h3⟩ := h.2 e
  exact ⟨d, kvs, e1, s _ _ h1, h2.same s, h3⟩⟩
def ErrW (CE : Addr) (H : Hp) (E : XK) (pt : Str) (nm : V) : Prop := ∀ d H', Same H H' → H' d = some (.xd [("name", nm), ("part", .str pt)]) → E (.ref CE) (some d) H'
theorem ErrW.at {CE : Addr} {H H1 : Hp} {E : XK} {pt : Str} {nm : V} (h : ErrW CE H E pt nm) (s : Same H H1) {d : Addr} (hd : H1 d = none) : E (.ref CE) (some d) (upd H1 d (.xd [("name", nm), ("part", .str pt)])) := h d _ (s.trans (Evl.Ex.new hd)) upd_same
end WP
namespace WP
open PySem L2 PySem.Spec PyProof.Rows
theorem del_sub {H : Hp} {D : Addr} : Same (del H D) H := fun b u e => by
  by_cases hb : b = D
  · rw [hb, del_same] at e; cases e
  · rw [del_ne hb] at e; exact e
theorem del_mono {H H' : Hp} {D : Addr} (s : Same H H') : Same (del H D) (del H' D) := fun b u e => by
  by_cases hb : b = D
  · rw [hb, del_same] at e; cases e
  · rw [del_ne hb] at e ⊢
    exact s _ _ e
def isDL : HO → Bool
  | .dK _ | .lst _ | .dT _ => true
  | _ => false
def hid (H H' : Hp) : Hp := fun b => match H b with | some u => if isDL u then none else H' b | none => H' b
theorem hid_sub {H H' : Hp} : Same (hid H H') H' := fun b u e => by
  unfold hid at e
  split at e
  · split at e
    · cases e
    · exact e
  · exact e
theorem hid_new {H H' : Hp} {b : Addr} (h : H b = none) : hid H H' b = H' b := by
  unfold hid
  rw [h]
inductive TreesO (fs : List (Str × FileD)) (H0 H : Hp) : List (Key × V) → List (Str × Option (List (Str × Option Str))) → Prop
  | nil : TreesO fs H0 H [] []
  | non {n : Str} {kvs : List (Key × V)} {rs : List (Str × Option (List (Str × Option Str)))} : (¬ ∃ t, TreeOf fs n t) → TreesO fs H0 H kvs rs → TreesO fs H0 H ((.inr n, .non) :: kvs) ((n, none) :: rs)
  | som {n : Str} {p : Addr} {t : List (Str × Option Str)} {kvs : List (Key × V)} {rs : List (Str × Option (List (Str × Option Str)))} : H0 p = none → H p = some (.dK (t.map fun x => ((.inr x.1 : Key), optS x.2))) → TreeOf fs n t → TreesO fs H0 H kvs rs → TreesO fs H0 H ((.inr n, .ref p) :: kvs) ((n, some t) :: rs)
section
variable {fs : List (Str × FileD)} {H0 H H' : Hp} {kvs kvs' : List (Key × V)} {rs rs' : List (Str × Option (List (Str × Option Str)))}
theorem TreesO.same (h : TreesO fs H0 H kvs rs) (s : Same H H') : TreesO fs H0 H' kvs rs := by
  induction h with
  | nil => exact .nil
  | non h _ ih => exact .non h ih
  | som h0 h1 h2 _ ih => exact .som h0 (s _ _ h1) h2 ih
theorem TreesO.app (h : TreesO fs H0 H kvs rs) (h' : TreesO fs H0 H kvs' rs') : TreesO fs H0 H (kvs ++ kvs') (rs ++ rs') := by
  induction h with
  | nil => exact h'
  | non h _ ih => exact .non h ih
  | som h0 h1 h2 _ ih => exact .som h0 h1 h2 ih
theorem TreesO.len (h : TreesO fs H0 H kvs rs) : kvs.length = rs.length := by
  induction h with
  | nil => rfl
  | non h _ ih => simp [ih]
  | som h0 h1 h2 _ ih => simp [ih]
theorem TreesO.keys (h : TreesO fs H0 H kvs rs) : kvs.map (·.1) = (rs.map (·.1)).map Sum.inr := by
  induction h with
  | nil => rfl
  | non h _ ih => simp [ih]
  | som h0 h1 h2 _ ih => simp [ih]
theorem TreesO.at (h : TreesO fs H0 H kvs rs) : ∀ {i : Nat} {k : Key} {v : V}, kvs[i]? = some (k, v) → ∃ n, k = .inr n ∧ (rs.map (·.1))[i]? = some n ∧ ((v = .non ∧ noTree fs n = true) ∨ ((∃ p, v = .ref p) ∧ noTree fs n = false)) := by
  induction h with
  | nil => intro i k v e; cases e
  | @non n kvs rs h _ ih =>
    intro i k v e
    cases i with
    | zero =>
      cases e
      exact ⟨n, rfl, rfl, .inl ⟨rfl, noTree_iff.mpr h⟩⟩
    | succ i =>
      rw [List.getElem?_cons_succ] at e
      obtain ⟨m, h1, h2, h3⟩ := ih e
      exact ⟨m, h1, by rw [List.map_cons, List.getElem?_cons_succ]; exact h2, h3⟩
  | @som n p t kvs rs h0 h1 h2 _ ih =>
    intro i k v e
    cases i with
    | zero =>
      cases e
      refine ⟨n, rfl, rfl, .inr ⟨⟨p, rfl⟩, ?_⟩⟩
      cases e : noTree fs n with
      | false => rfl
      | true => exact absurd ⟨t, h2⟩ (noTree_iff.mp e)
    | succ i =>
      rw [List.getElem?_cons_succ] at e
      obtain ⟨m, h1, h2, h3⟩ := ih e
      exact ⟨m, h1, by rw [List.map_cons, List.getElem?_cons_succ]; exact h2, h3⟩
/-- if none of them is none -/
theorem TreesO.all (h : TreesO fs H0 H kvs rs) (ha : ∀ n ∈ rs.map (·.1), noTree fs n = false) : ∃ ts : List (Str × List (Str × Option Str)), ts.map (·.1) = rs.map (·.1) ∧ TreesR (hid H0 H) kvs ts ∧ ∀ e t, (e, t) ∈ ts → TreeOf fs e t := by
  induction h with
  | nil => exact ⟨[], rfl, .nil, fun e t h => by cases h⟩
  | @non n kvs rs h _ ih =>
    have := ha n List.mem_cons_self
    rw [noTree_iff.mpr h] at this
    cases this
  | @som n p t kvs rs h0 h1 h2 _ ih =>
    obtain ⟨ts, e1, e2, e3⟩ := ih fun m hm => ha m (List.mem_cons_of_mem _ hm)
    refine ⟨(n, t) :: ts, by rw [List.map_cons, List.map_cons, e1], .cons (by rw [hid_new h0]; exact h1) e2, fun e t' ht => ?_⟩
    rcases List.mem_cons.mp ht with e | ht
    · cases e
      exact h2
    · exact e3 e t' ht
end
theorem lkF_perm {fs gs : List (Str × FileD)} (nd : (fs.map (·.1)).Nodup) (h : gs.Perm fs) (n : Str) : lkF gs n = lkF fs n := by
  have uni : ∀ {l : List (Str × FileD)}, (l.map (·.1)).Nodup → ∀ {f : FileD}, (n, f) ∈ l → lkF l n = some f := by
    intro l hl f hf
    induction l with
    | nil => cases hf
    | cons p r ih =>
      rw [List.map_cons, List.nodup_cons] at hl
      rcases List.mem_cons.mp hf with e | hf2
      · rw [← e]
        exact lkF_hit (fs := r)
      · have : p.1 ≠ n := fun z => hl.1 (List.mem_map.mpr ⟨_, hf2, z.symm⟩)
        obtain ⟨m, g⟩ := p
        rw [lkF_skip this]
        exact ih hl.2 hf2
  have ndg : (gs.map (·.1)).Nodup := ((h.map (·.1)).nodup_iff).mpr nd
  cases e : lkF fs n with
  | some f => exact uni ndg (h.symm.subset (lkF_mem e))
  | none =>
    refine lkF_none fun hm => ?_
    have := (h.map (·.1)).subset hm
    obtain ⟨f, e'⟩ := lkF_key.mp this
    rw [e] at e'
    cases e'
end WP
namespace WP
open PySem L2 PySem.Spec PyProof.Rows
/-- an empty tuple of the module -/
def NilT (K : PySem.W.Frag) (a : Addr) : Prop := (∃ o, K.lookup a = some o ∧ o.cls = .type "tuple") ∧ ∀ H, SqT K H a []
section
variable {P : Program} {w : World} {K : PySem.W.Frag} {mg : Str → Option Value} {base : Heap} {CS CF CE CE' e1 e2 : Addr}
theorem NilT.any {a : Addr} (h : NilT K a) (H : Hp) : SeqV K H (.ref a) .tup [] := by
  obtain ⟨⟨o, h1, h2⟩, h3⟩ := h
  exact ⟨.kTup h1 h2, fun _ => ⟨a, rfl, .inr (h3 H), Nat.zero_le _, fun x hx => by cases hx⟩⟩
end
end WP
namespace WP
open PySem L2 PySem.Spec PyProof.Rows
def ItemV (K : PySem.W.Frag) (H : Hp) (y : V) : Prop := ∃ ky, Any K H y ky ∧ ∀ z, y = .str z → z.length ≤ sizeLine
def OddV (K : PySem.W.Frag) (H : Hp) (v : V) : Prop := ∃ k xs, SeqV K H v k xs ∧ xs.length ≤ 2 ∧ (∀ z, v = .str z → z.length ≤ 9) ∧ ∀ i, v = .int i → i.natAbs < 2 ^ 110
theorem ItemV.same {K : PySem.W.Frag} {H H' : Hp} {y : V} (h : ItemV K H y) (s : Same H H') : ItemV K H' y := by
  obtain ⟨k, h1, h2⟩ := h
  exact ⟨k, h1.same s, h2⟩
theorem OddV.same {K : PySem.W.Frag} {H H' : Hp} {y : V} (h : OddV K H y) (s : Same H H') : OddV K H' y := by
  obtain ⟨k, xs, h1, h2⟩ := h
  exact ⟨k, xs, h1.same s, h2⟩
theorem OddV.item {K : PySem.W.Frag} {H : Hp} {y : V} (h : OddV K H y) : ItemV K H y := by
  obtain ⟨k, xs, h1, h2, h3, _⟩ := h
  exact ⟨k, h1.1, fun z e => Nat.le_trans (h3 z e) (by decide)⟩
structure Od (K : PySem.W.Frag) (d w c : Addr) (B : Int) (H0 H : Hp) (xs : List V) : Prop where
  ds : Ds d w c B H0 H
  al : ∀ x ∈ xs, OddV K (hd2 d w H) x
section
variable {K : PySem.W.Frag} {d w c p : Addr} {B : Int} {H0 H H' : Hp} {xs ys : List V}
theorem Od.start (h : Dr d w c B H) : Od K d w c B H H [] := ⟨⟨h, Same.refl _⟩, fun x hx => by cases hx⟩
theorem Od.add {v : V} (O : Od K d w c B H0 H xs) (h : OddV K (hd2 d w H) v) : Od K d w c B H0 H (xs ++ [v]) := ⟨O.ds, fun x hx => (List.mem_append.mp hx).elim (O.al x) fun e => List.mem_singleton.mp e ▸ h⟩
theorem Od.same (O : Od K d w c B H0 H xs) (s : Same H H') : Od K d w c B H0 H' xs := ⟨O.ds.same s, fun x hx => (O.al x hx).same (hd2_same s)⟩
theorem Od.new {o : HO} (O : Od K d w c B H0 H xs) (hp : H p = none) : Od K d w c B H0 (upd H p o) xs := O.same (Evl.Ex.new hp)
theorem Od.at {o : HO} (O : Od K d w c B H0 H xs) (hp : H p = none) : hd2 d w (upd H p o) p = some o := O.ds.at hp
theorem Od.n (O : Od K d w c B H0 H xs) : Od K d w c B H0 H (xs ++ [.non]) := O.add ⟨.non, [], ⟨.non, fun e => by cases e⟩, by decide, fun z e => (by cases e), fun i e => (by cases e)⟩
theorem Od.b (O : Od K d w c B H0 H xs) (b : Bool) : Od K d w c B H0 H (xs ++ [.bl b]) := O.add ⟨.bl, [], ⟨.bl b, fun e => by cases e⟩, by decide, fun z e => (by cases e), fun i e => (by cases e)⟩
theorem Od.i (O : Od K d w c B H0 H xs) (i : Int) (h : i.natAbs < 2 ^ 110) : Od K d w c B H0 H (xs ++ [.int i]) := O.add ⟨.int, [], ⟨.int i, fun e => by cases e⟩, by decide, fun z e => (by cases e), fun j e => (by cases e; exact h)⟩
theorem Od.s (O : Od K d w c B H0 H xs) (z : Str) (h : z.length ≤ 9) : Od K d w c B H0 H (xs ++ [.str z]) := O.add ⟨.str, [], ⟨.str z, fun e => by cases e⟩, by decide, fun z e => (by cases e; exact h), fun i e => (by cases e)⟩
theorem Od.own (O : Od K d w c B H0 H xs) (hp : H p = none) : Od K d w c B H0 (upd H p (.lst xs)) xs ∧ hd2 d w (upd H p (.lst xs)) p = some (.lst xs) := ⟨O.new hp, O.at hp⟩
/-- an instance that is new -/
theorem Od.o {C dx : Addr} {fs : List (Str × V)} (O : Od K d w c B H0 H xs) (hp : H p = none) (s : Same H H') (e : H' p = some (.ins C dx fs)) (I : InsK K C) : Od K d w c B H0 H' (xs ++ [.ref p]) := by
  refine (O.same s).add ⟨.ins C, [], ⟨.ins (hd2_mk e ?_ ?_) I, fun e => by cases e⟩, by decide, fun z e => (by cases e), fun i e => (by cases e)⟩
  · exact (O.ds.dr.off hp).1
  · exact (O.ds.dr.off hp).2.1
/-- a new dict, displayed -/
theorem upd2 {o o' : HO} : upd (upd H p o) p o' = upd H p o' := by
  funext b
  by_cases hb : b = p
  · rw [hb, upd_same, upd_same]
  · rw [upd_ne hb, upd_ne hb, upd_ne hb]
end
end WP
namespace WP
open PySem L2 PySem.Spec PyProof.Rows LamX
structure Dk (P : Program) (w : World) (K : PySem.W.Frag) (mg : Str → Option Value) (base : Heap) (CX : CXT) (k : Nat) (x : Str) (ps ks : List Str) (gV : List V → List V → List V) (sp : Sp) : Prop where
  ex : ∃ f fd g, mg x = some (.ref f) ∧ PySem.W.keepIn K (.ref f) = true ∧ FnOk P w K mg base CX k f fd ps sp ∧ KBn K fd ps 0 ks g gV
theorem hd2_ext {d w : Addr} {H H' : Hp} (s : ExtN H H') : ExtN (hd2 d w H) (hd2 d w H') := fun b u e n => by
  obtain ⟨h1, h2, h3⟩ := hd2_of e
  exact hd2_mk (s b u h1 n) h2 h3
section
variable {K : PySem.W.Frag} {H H' : Hp} {v : V} {k : Kd} {a : Addr} {xs : List V}
theorem Any.ext (h : Any K H v k) (s : ExtN H H') : Any K H' v k := by
  cases h with
  | non => exact .non
  | bl b => exact .bl b
  | int i => exact .int i
  | str x => exact .str x
  | lst e => exact .lst (s _ _ e fun _ z => by cases z)
  | tup e => exact .tup (s _ _ e fun _ z => by cases z)
  | kTup e c => exact .kTup e c
  | fTup e => exact .fTup (s _ _ e fun _ z => by cases z)
  | dct e => exact .dct (s _ _ e fun _ z => by cases z)
  | ins e c => exact .ins (s _ _ e fun _ z => by cases z) c
theorem SqL.ext (h : SqL K H a xs) (s : ExtN H H') : SqL K H' a xs := by
  rcases h with (h | ⟨o, h⟩) | h
  · exact .inl (.inl (s _ _ h fun _ z => by cases z))
  · exact .inl (.inr ⟨o, s _ _ h fun _ z => by cases z⟩)
  · exact .inr h
theorem SqT.ext (h : SqT K H a xs) (s : ExtN H H') : SqT K H' a xs := by
  rcases h with (h | ⟨o, h⟩) | h
  · exact .inl (.inl (s _ _ h fun _ z => by cases z))
  · exact .inl (.inr ⟨o, s _ _ h fun _ z => by cases z⟩)
  · exact .inr h
theorem SeqV.ext (h : SeqV K H v k xs) (s : ExtN H H') : SeqV K H' v k xs := ⟨h.1.ext s, fun e => by
  obtain ⟨a, e1, h1, h2, h3⟩ := h.2 e
  exact ⟨a, e1, h1.imp (fun h => SqL.ext h s) (fun h => SqT.ext h s), h2, fun x hx => by
    obtain ⟨kx, h4, h5⟩ := h3 x hx
    exact ⟨kx, h4.ext s, h5⟩⟩⟩
theorem OddV.ext (h : OddV K H v) (s : ExtN H H') : OddV K H' v := by
  obtain ⟨k, xs, h1, h2⟩ := h
  exact ⟨k, xs, h1.ext s, h2⟩
theorem ItemV.ext (h : ItemV K H v) (s : ExtN H H') : ItemV K H' v := by
  obtain ⟨k, h1, h2⟩ := h
  exact ⟨k, h1.ext s, h2⟩
end
section
variable {d w c : Addr} {B : Int} {H H' : Hp} {T : List (Addr × Str)}
theorem Dr.ext (D : Dr d w c B H) (s : ExtN H H') : Dr d w c B H' := by
  obtain ⟨⟨r, t, h1, h4⟩, ⟨ns, h2⟩, ⟨ms, h3⟩⟩ := D
  exact ⟨⟨r, t, s _ _ h1 (fun _ z => by cases z), h4⟩, ⟨ns, s _ _ h2 fun _ z => by cases z⟩, ⟨ms, hd2_ext s _ _ h3 fun _ z => by cases z⟩⟩
/-- the tables are apart from the draws -/
theorem Tabs.hd (t : Tabs T H) (D : Dr d w c B H) : Tabs T (hd2 d w H) := by
  obtain ⟨⟨r, t1, h1, _⟩, ⟨ns, h2⟩, _⟩ := D
  have off : ∀ b u, H b = some u → (∀ kvs, u ≠ .dK kvs) → (∀ xs, u ≠ .lst xs) → hd2 d w H b = some u := fun b u e n1 n2 => hd2_mk e (fun z => by rw [z, h1] at e; exact n1 _ (Option.some.inj e).symm) (fun z => by rw [z, h2] at e; exact n2 _ (Option.some.inj e).symm)
  intro p hp
  obtain ⟨ps, e1, e2, e3⟩ := t p hp
  refine ⟨ps, off _ _ e1 (fun _ z => by cases z) (fun _ z => by cases z), e2, fun pos cv hc => ?_⟩
  obtain ⟨cc, e4, e5⟩ := e3 pos cv hc
  exact ⟨cc, e4, off _ _ e5 (fun _ z => by unfold CodeO at z; cases z) (fun _ z => by unfold CodeO at z; cases z)⟩
theorem Tabs.un (t : Tabs T (hd2 d w H)) : Tabs T H := t.ext hd2_sub
end
end WP
namespace WP
open PySem L2 PySem.Spec PyProof.Rows
structure PrintK (K : PySem.W.Frag) (CP : Addr) : Prop where
  ns : PySem.W.nsIn K mainGlobals "PrintError" = some (some (.ref CP))
  eC : PySem.W.subIn K (.ref CP) (.type "BaseException") = some true
  hC : PySem.W.hasDictIn K CP = true
  tC : PySem.W.typeIn K (.ref CP) = some (.type "type")
theorem print_mk {K : PySem.W.Frag} {h : Heap} {CP : Addr} (X : K.In h) (h1 : PySem.W.nsIn K mainGlobals "PrintError" = some (some (.ref CP))) (h2 : PySem.W.subIn K (.ref CP) (.type "BaseException") = some true) (h3 : PySem.W.hasDictIn K CP = true) (h4 : PySem.W.typeIn K (.ref CP) = some (.type "type")) : PrintK K CP := ⟨h1, h2, h3, h4⟩
structure ExcF (K : PySem.W.Frag) (CP : Addr) (x : Str) (C : Addr) : Prop where
  ns : PySem.W.nsIn K mainGlobals x = some (some (.ref C))
  ga : PySem.W.findIn K (.ref C) "__getattribute__" = some (some (.builtin "BaseException.__getattribute__"))
  gg : PySem.W.findIn K (.ref C) "__getattr__" = some none
  ha : PySem.W.findIn K (.ref C) "__class__" = some (some (.builtin "object.__class__"))
  hn : PySem.W.specialIn K (.builtin "object.__class__") "__get__" = some (some (.builtin "getset_descriptor.__get__"))
  ht : PySem.W.takesIn K (.builtin "object.__class__") = some true
  hm : PySem.W.mroIn K C (.type "object") = some true
  kC : PySem.W.keepIn K (.ref C) = true
  eC : PySem.W.subIn K (.ref C) (.type "BaseException") = some true
  tC : PySem.W.typeIn K (.ref C) = some (.type "type")
  hC : PySem.W.hasDictIn K C = true
  sC : PySem.W.subIn K (.ref C) (.ref CP) = some true
theorem excf_mk {K : PySem.W.Frag} {h : Heap} {CP C : Addr} {x : Str} (X : K.In h) (h1 : PySem.W.nsIn K mainGlobals x = some (some (.ref C))) (h2 : PySem.W.findIn K (.ref C) "__getattribute__" = some (some (.builtin "BaseException.__getattribute__"))) (h3 : PySem.W.findIn K (.ref C) "__getattr__" = some none) (h4 : PySem.W.findIn K (.ref C) "__class__" = some (some (.builtin "object.__class__")))
    (h5 : PySem.W.specialIn K (.builtin "object.__class__") "__get__" = some (some (.builtin "getset_descriptor.__get__"))) (h6 : PySem.W.takesIn K (.builtin "object.__class__") = some true) (h7 : PySem.W.mroIn K C (.type "object") = some true) (h8 : PySem.W.keepIn K (.ref C) = true) (h9 : PySem.W.subIn K (.ref C) (.type "BaseException") = some true) (h10 : PySem.W.typeIn K (.ref C) = some (.type "type"))
    (h11 : PySem.W.hasDictIn K C = true) (h12 : PySem.W.subIn K (.ref C) (.ref CP) = some true) : ExcF K CP x C := ⟨h1, h2, h3, h4, h5, h6, h7, h8, h9, h10, h11, h12⟩
theorem ExcF.ec {K : PySem.W.Frag} {CP C : Addr} {x : Str} (F : ExcF K CP x C) : ExcC K C := ⟨F.ga, F.gg, F.eC, F.hC, F.ha, F.hn, F.ht, F.hm⟩
theorem ExcF.xf {K : PySem.W.Frag} {CP C : Addr} {x : Str} (F : ExcF K CP x C) : XfC K C := ⟨F.ga, F.gg, F.eC, F.hC⟩
/-- .. without fields -/
theorem ExcF.err0 {K : PySem.W.Frag} {CP C : Addr} {x : Str} {h : Heap} {mg : Str → Option Value} (X : K.In h) (G : h.Ns mainGlobals mg) (Pk : PrintK K CP) (F : ExcF K CP x C) (ex : PySem.W.excIn K C [.type "ValueError", .type "Exception", .type "BaseException", .type "object"] "ValueError.__new__" = true) : Err0 K mg CP x C :=
  ⟨ex, PySem.W.mg_of X G F.ns, F.kC, F.eC, F.tC, F.ec, PySem.W.exm_ref Pk.eC Pk.hC Pk.tC F.sC⟩
/-- what its __init__ wants -/
structure InitF (K : PySem.W.Frag) (C : Addr) (st : Stmt) (qual : Str) : Prop where
  T : OexC K C
  init : ∃ fI, PySem.W.findIn K (.ref C) "__init__" = some (some (.ref fI)) ∧ PySem.W.typeIn K (.ref fI) = some (.type "function") ∧ MethK K "__init__" qual st fI
theorem initf_mk {K : PySem.W.Frag} {h : Heap} {qual : Str} {st : Stmt} {C fI N : Addr} {nm q : Str} {bs bm : List Value} {sn : List Str} {sub : List Value} {ab : Bool} {col : Option Bool} {dd : Option Addr} {m0 m1 m2 m3 m5 : Option Value}
    {od an : Option Addr} {sl : Array (Option Value)} {oc kV dc pm cd ct : Value} (X : K.In h)
    (xl : K.lookup C = some (excClassObj nm q C N bs bm true sn sub ab col dd m0 m1 m2 m3 m5 "ValueError.__new__")) (rv : PySem.HandSPX.refsVE bm = true) (sa : PySem.W.findIn K (.ref C) "__setattr__" = some (some (.builtin "object.__setattr__")))
    (eC : PySem.W.subIn K (.ref C) (.type "BaseException") = some true) (tC : PySem.W.typeIn K (.ref C) = some (.type "type")) (kC : PySem.W.keepIn K (.ref C) = true)
    (i1 : PySem.W.findIn K (.ref C) "__init__" = some (some (.ref fI))) (ti : PySem.W.typeIn K (.ref fI) = some (.type "function")) (li : K.lookup fI = some ⟨oc, od, .func (PySem.W.fnOf "__init__" qual (defArgs st) (defBody st) (defScope st) .none kV dc pm an cd ct), sl⟩) (ci : PySem.W.codeIn K cd qual = true) (ki : PySem.W.keepIn K (.ref fI) = true) : InitF K C st qual :=
  ⟨⟨⟨_, _, _, _, _, _, _, _, _, _, _, _, _, _, _, xl, rv⟩, sa, eC, tC, kC⟩, ⟨fI, i1, ti, meth_mk X li ci ki⟩⟩
theorem ExcF.err1 {P : Program} {w : World} {K : PySem.W.Frag} {CP C : Addr} {x fld qual : Str} {st : Stmt} {h base : Heap} {mg : Str → Option Value} (X : K.In h) (G : h.Ns mainGlobals mg) (Pk : PrintK K CP) (F : ExcF K CP x C) (I : InitF K C st qual) (no : PySem.W.findIn K (.ref C) fld = some none)
    (hok : ∀ f fd, Fun K "__init__" qual st f fd → FnOk P w K mg base CX0 1 f fd ["self", fld] (spI1 C fld)) (hbi : ∀ f fd, Fun K "__init__" qual st f fd → L2.Binds K fd ["self", fld] []) : Err1 P w K mg base CP x C fld := by
  obtain ⟨fI, i1, i2, fd, Fi⟩ := I.init
  exact ⟨I.T, F.xf, no, F.ec, PySem.W.mg_of X G F.ns, ⟨fI, fd, i1, i2, hok fI fd Fi, hbi fI fd Fi⟩, PySem.W.exm_ref Pk.eC Pk.hC Pk.tC F.sC⟩
theorem ExcF.err2 {P : Program} {w : World} {K : PySem.W.Frag} {CP C : Addr} {x f g qual : Str} {st : Stmt} {h base : Heap} {mg : Str → Option Value} (X : K.In h) (G : h.Ns mainGlobals mg) (Pk : PrintK K CP) (F : ExcF K CP x C) (I : InitF K C st qual) (nf : PySem.W.findIn K (.ref C) f = some none) (ng : PySem.W.findIn K (.ref C) g = some none)
    (hok : ∀ fa fd, Fun K "__init__" qual st fa fd → FnOk P w K mg base CX0 1 fa fd ["self", f, g] (spI2 C f g)) (hbi : ∀ fa fd, Fun K "__init__" qual st fa fd → L2.Binds K fd ["self", f, g] []) : Err2 P w K mg base CP x C f g := by
  obtain ⟨fI, i1, i2, fd, Fi⟩ := I.init
  exact ⟨I.T, F.xf, nf, ng, F.ec, PySem.W.mg_of X G F.ns, ⟨fI, fd, i1, i2, hok fI fd Fi, hbi fI fd Fi⟩, PySem.W.exm_ref Pk.eC Pk.hC Pk.tC F.sC⟩
/-- a property that gives a field -/
structure PropK (K : PySem.W.Frag) (C : Addr) (x : Str) (st : Stmt) (qual : Str) : Prop where
  ex : ∃ p g fd, PropOf K C x p g ∧ Fun K x qual st g fd
/-- a def called by keywords -/
theorem dk_of {P : Program} {w : World} {K : PySem.W.Frag} {mg : Str → Option Value} {base : Heap} {CX : CXT} {k : Nat} {x : Str} {st : Stmt} {f : Addr} {fd : FuncData} {ps ks : List Str} {gV : List V → List V → List V} {g : List Value → List Value → List Value} {sp : Sp} (F : Fun K x x st f fd) (hm : mg x = some (.ref f)) (hk : PySem.W.keepIn K (.ref f) = true) (ok : FnOk P w K mg base CX k f fd ps sp)
    (hto : ∀ (kV doc pm : Value) (an : Option Addr) (cdv ct : Value) (us ws : List Value), us.length = 0 → ws.length = ks.length → bindArgs (PySem.W.fnOf x x (defArgs st) (defBody st) (defScope st) .none kV doc pm an cdv ct) ⟨us, ks.zip ws⟩ = pure (ps.zip (g us ws)))
    (rel : ∀ {vs : List V} {us : List Value} {zs : List V} {ws : List Value}, Vals vs us → Vals zs ws → Vals (gV vs zs) (g us ws)) : Dk P w K mg base CX k x ps ks gV sp := by
  refine ⟨f, fd, g, hm, hk, ok, ⟨fun s us ws _ l1 l2 => ?_, rel⟩⟩
  obtain ⟨oc, od, kV, doc, pm, an, cdv, ct, osl, rfl, lk, hcd⟩ := F.ex
  exact .of_eq (hto kV doc pm an cdv ct us ws l1 l2)
/-- the law's code object and its table -/
structure LamK (K : PySem.W.Frag) (h : Heap) (st : Stmt) (f cl Pt : Addr) : Prop where
  code : ∃ fd, Fun K "law" "law" st f fd ∧ fd.code = .ref cl ∧ PySem.W.nsIn K mainGlobals "law" = some (some (.ref f))
  hd : PySem.W.CodeHd h cl Pt
  no : K.lookup Pt = none
  tb : h.get? Pt = some tabObj
theorem lam_mk {K : PySem.W.Frag} {h : Heap} {st : Stmt} {f cl Pt : Addr} {ts : List Addr} {od an : Option Addr} {sl : Array (Option Value)} {oc kV dc pm ct : Value} (X : K.In h) (a : PySem.W.nsIn K mainGlobals "law" = some (some (.ref f)))
    (l : K.lookup f = some ⟨oc, od, .func (PySem.W.fnOf "law" "law" (defArgs st) (defBody st) (defScope st) .none kV dc pm an (.ref cl) ct), sl⟩) (c : PySem.W.codeIn K (.ref cl) "law" = true) (k : PySem.W.keepIn K (.ref f) = true)
    (hT : ∀ P ∈ ts, h.get? P = some (PySem.W.tabObj #[])) (e : ts = [Pt]) (hc : PySem.W.codeHdIn K cl Pt = true) (no : K.lookup Pt = none) : LamK K h st f cl Pt :=
  ⟨⟨_, ⟨⟨oc, od, kV, dc, pm, an, .ref cl, ct, sl, rfl, l, c⟩, k⟩, rfl, a⟩, PySem.W.codeHd_of_K X hc, no, hT Pt (by rw [e]; exact List.mem_singleton.mpr rfl)⟩
end WP
namespace WP
open PySem L2 PySem.Spec PyProof.Rows
end WP
namespace WP
open PySem L2 PySem.Spec PyProof.Rows
structure FsOk2 (fs : List (Str × FileD)) : Prop where
  few : fs.length ≤ 8
  nd : (fs.map (·.1)).Nodup
  nam : ∀ n ∈ fs.map (·.1), isNameS n = true
  cl : ∀ n f, lkF fs n = some f → ∀ m ∈ f.refers, m ∈ fs.map (·.1)
  rc2 : ∀ n f, lkF fs n = some f → (∀ x, f.refers.count x ≤ 2) ∧ f.refers.length ≤ 16
theorem FsOk.two {fs : List (Str × FileD)} (ok : FsOk fs) : FsOk2 fs := ⟨ok.few, ok.nd, ok.nam, ok.cl, fun n f e => ⟨fun x => by
  have := List.nodup_iff_count.mp (ok.rnd n f e) x
  omega, by
  have := ok.rf_len n
  rw [rf_of e] at this
  omega⟩⟩
section
variable {fs : List (Str × FileD)}
theorem FsOk2.rf_mem (h : FsOk2 fs) {n m : Str} (hm : m ∈ rf fs n) : m ∈ fs.map (·.1) := by
  unfold rf at hm
  cases e : lkF fs n with
  | none => rw [e] at hm; cases hm
  | some f => rw [e] at hm; exact h.cl n f e m hm
theorem FsOk2.rf_two (h : FsOk2 fs) (n : Str) : (∀ x, (rf fs n).count x ≤ 2) ∧ (rf fs n).length ≤ 16 := by
  unfold rf
  cases e : lkF fs n with
  | none => exact ⟨fun x => Nat.zero_le _, Nat.zero_le _⟩
  | some f => exact h.rc2 n f e
theorem FsOk2.rc_mem (h : FsOk2 fs) {n m : Str} (r : Rc fs n m) : m ∈ fs.map (·.1) := by
  cases r with
  | one h1 => exact h.rf_mem h1
  | more _ h1 => exact h.rf_mem h1
end
section
variable {fs : List (Str × FileD)}
open Classical in
noncomputable def reachN (fs : List (Str × FileD)) (x : Str) : Nat := ((fs.map (·.1)).filter fun y => decide (Rc fs x y)).length
theorem reach_lt (ok : FsOk2 fs) (no : ∀ n, ¬ Rc fs n n) {n m : Str} (h : m ∈ rf fs n) : reachN fs m < reachN fs n := by
  classical
  unfold reachN
  have nd : (m :: (fs.map (·.1)).filter fun y => decide (Rc fs m y)).Nodup := by
    rw [List.nodup_cons]
    refine ⟨fun z => ?_, ok.nd.sublist List.filter_sublist⟩
    rw [List.mem_filter] at z
    exact no m (by simpa using z.2)
  have := pigeon _ ((fs.map (·.1)).filter fun y => decide (Rc fs n y)) nd fun x hx => by
    rw [List.mem_filter]
    rcases List.mem_cons.mp hx with rfl | hx
    · exact ⟨ok.rf_mem h, by simpa using Rc.one h⟩
    · rw [List.mem_filter] at hx
      refine ⟨hx.1, ?_⟩
      have r : Rc fs m x := by simpa using hx.2
      have key : ∀ {y}, Rc fs m y → Rc fs n y := fun {y} r => by
        induction r with
        | one h2 => exact (Rc.one h).more h2
        | more _ h2 ih => exact ih.more h2
      simpa using key r
  rw [List.length_cons] at this
  exact this
noncomputable def placeK (fs : List (Str × FileD)) (x : Str) : Nat := reachN fs x * 8 + (fs.map (·.1)).idxOf x
noncomputable def place (fs : List (Str × FileD)) (x : Str) : Nat := ((fs.map (·.1)).filter fun y => decide (placeK fs y < placeK fs x)).length
theorem placeK_lt (ok : FsOk2 fs) (no : ∀ n, ¬ Rc fs n n) {n m : Str} (h : m ∈ rf fs n) : placeK fs m < placeK fs n := by
  have h1 := reach_lt ok no h
  have h2 := List.idxOf_lt_length_of_mem (ok.rf_mem h)
  rw [List.length_map] at h2
  have := ok.few
  unfold placeK
  omega
theorem placeK_inj (ok : FsOk2 fs) {n m : Str} (hn : n ∈ fs.map (·.1)) (hm : m ∈ fs.map (·.1)) (h : placeK fs n = placeK fs m) : n = m := by
  have h1 := List.idxOf_lt_length_of_mem hn
  have h2 := List.idxOf_lt_length_of_mem hm
  have h3 := ok.few
  have e : (fs.map (·.1)).idxOf n = (fs.map (·.1)).idxOf m := by
    unfold placeK at h
    rw [List.length_map] at h1 h2
    omega
  have g1 := List.getElem_idxOf h1
  have g2 := List.getElem_idxOf h2
  rw [← g1, ← g2]
  congr 1
theorem place_mono (ok : FsOk2 fs) {n m : Str} (hm : m ∈ fs.map (·.1)) (h : placeK fs m < placeK fs n) : place fs m < place fs n := by
  unfold place
  have nd : (m :: (fs.map (·.1)).filter fun y => decide (placeK fs y < placeK fs m)).Nodup := by
    rw [List.nodup_cons]
    refine ⟨fun z => ?_, ok.nd.sublist List.filter_sublist⟩
    rw [List.mem_filter] at z
    simp at z
  have := pigeon _ ((fs.map (·.1)).filter fun y => decide (placeK fs y < placeK fs n)) nd fun x hx => by
    rw [List.mem_filter]
    rcases List.mem_cons.mp hx with rfl | hx
    · exact ⟨hm, by simpa using h⟩
    · rw [List.mem_filter] at hx
      refine ⟨hx.1, ?_⟩
      have : placeK fs x < placeK fs m := by simpa using hx.2
      simp only [decide_eq_true_eq]
      omega
  rw [List.length_cons] at this
  exact this
theorem place_inj (ok : FsOk2 fs) {n m : Str} (hn : n ∈ fs.map (·.1)) (hm : m ∈ fs.map (·.1)) (h : place fs n = place fs m) : n = m := by
  rcases Nat.lt_trichotomy (placeK fs n) (placeK fs m) with z | z | z
  · have := place_mono ok hn z
    omega
  · exact placeK_inj ok hn hm z
  · have := place_mono ok hm z
    omega
theorem sum_split (f : Nat → Nat) (n : Nat) : ∀ l : List Nat, (l.map f).sum = l.count n * f n + ((l.filter fun x => decide (x ≠ n)).map f).sum
  | [] => by simp
  | a :: r => by
    have ih := sum_split f n r
    rw [List.map_cons, List.sum_cons, ih]
    by_cases h : a = n
    · subst h
      rw [List.count_cons_self, List.filter_cons_of_neg (by simp), Nat.succ_mul]
      omega
    · rw [List.count_cons_of_ne h, List.filter_cons_of_pos (by simpa using h), List.map_cons, List.sum_cons]
      omega
theorem pow_sum : ∀ (n : Nat) (l : List Nat), (∀ x, l.count x ≤ 2) → (∀ x ∈ l, x < n) → (l.map fun x => 3 ^ x).sum + 1 ≤ 3 ^ n := by
  intro n
  induction n with
  | zero =>
    intro l _ h
    cases l with
    | nil => simp
    | cons a r => exact absurd (h a List.mem_cons_self) (Nat.not_lt_zero _)
  | succ n ih =>
    intro l c2 h
    have e := sum_split (fun x => 3 ^ x) n l
    have := ih (l.filter fun x => decide (x ≠ n)) (fun x => Nat.le_trans (List.Sublist.count_le x List.filter_sublist) (c2 x)) fun x hx => by
      rw [List.mem_filter] at hx
      have h1 := h x hx.1
      have h2 : x ≠ n := by simpa using hx.2
      omega
    have h2 : l.count n * 3 ^ n ≤ 2 * 3 ^ n := Nat.mul_le_mul_right _ (c2 n)
    rw [e, Nat.pow_succ]
    omega
theorem count_map_two {f : Str → Nat} {l : List Str} (inj : ∀ a ∈ l, ∀ b ∈ l, f a = f b → a = b) (c2 : ∀ x, l.count x ≤ 2) (v : Nat) : (l.map f).count v ≤ 2 := by
  by_cases h : ∃ y ∈ l, f y = v
  · obtain ⟨y, hy, rfl⟩ := h
    rw [List.count_eq_countP, List.countP_map]
    have : l.countP ((fun x => x == f y) ∘ f) = l.count y := by
      rw [List.count_eq_countP]
      refine List.countP_congr fun x hx => ?_
      simp only [Function.comp_apply, beq_iff_eq]
      exact ⟨fun e => inj x hx y hy e, fun e => by rw [e]⟩
    rw [this]
    exact c2 y
  · rw [List.count_eq_zero.mpr fun hm => by
      obtain ⟨y, hy, e⟩ := List.mem_map.mp hm
      exact h ⟨y, hy, e⟩]
    exact Nat.zero_le _
noncomputable def wgtP (fs : List (Str × FileD)) (l : List (Str × Option Str)) : Nat := (l.map fun p => 3 ^ place fs p.1).sum
theorem wgtP_app (a b : List (Str × Option Str)) : wgtP fs (a ++ b) = wgtP fs a + wgtP fs b := by
  unfold wgtP
  rw [List.map_append, List.sum_append]
theorem wgtP_len : ∀ l : List (Str × Option Str), l.length ≤ wgtP fs l
  | [] => Nat.zero_le _
  | a :: r => by
    have h1 := wgtP_len r
    have h2 : 1 ≤ 3 ^ place fs a.1 := Nat.one_le_pow _ _ (by decide)
    unfold wgtP at h1 ⊢
    rw [List.map_cons, List.sum_cons, List.length_cons]
    omega
def kids (fs : List (Str × FileD)) (h : Str) : List (Str × Option Str) := (rf fs h).map fun x => (x, some h)
theorem kids_wgt (ok : FsOk2 fs) (no : ∀ n, ¬ Rc fs n n) (h : Str) : wgtP fs (kids fs h) + 1 ≤ 3 ^ place fs h := by
  unfold wgtP kids
  rw [List.map_map]
  have e : ((fun p : Str × Option Str => 3 ^ place fs p.1) ∘ fun x => (x, some h)) = (fun x => 3 ^ x) ∘ place fs := rfl
  rw [e, ← List.map_map]
  refine pow_sum _ _ (fun x => ?_) fun x hx => ?_
  · exact count_map_two (fun a ha b hb e => place_inj ok (ok.rf_mem ha) (ok.rf_mem hb) e) (ok.rf_two h).1 x
  · obtain ⟨y, hy, rfl⟩ := List.mem_map.mp hx
    exact place_mono ok (ok.rf_mem hy) (placeK_lt ok no hy)
end
structure BfsI (fs : List (Str × FileD)) (e : Str) (ps : List (Str × Option Str)) (k : Nat) : Prop where
  h0 : ps[0]? = some (e, none)
  rc : ∀ p ∈ ps, p.1 = e ∨ Rc fs e p.1
  par : ∀ x p, (x, p) ∈ ps → (x = e ∧ p = none) ∨ ∃ q, p = some q ∧ q ∈ ps.map (·.1) ∧ x ∈ rf fs q
  chi : ∀ i q p, i < k → ps[i]? = some (q, p) → ∀ x ∈ rf fs q, (x, some q) ∈ ps
  sl : ∀ i q p, i < k → ps[i]? = some (q, p) → (kids fs q).Sublist ps
  kl : k ≤ ps.length
  wt : k + wgtP fs (ps.drop k) ≤ 3 ^ place fs e
  nds : (∃ t, TreeOf fs e t) → (∀ q, (rf fs q).Nodup) → (∀ n, ¬ Rc fs n n) → (ps.map (·.1)).Nodup ∧ ∀ x q, (x, some q) ∈ ps → ∃ i o, i < k ∧ ps[i]? = some (q, o)
section
variable {fs : List (Str × FileD)} {e h : Str} {ps : List (Str × Option Str)} {k : Nat} {o : Option Str}
theorem BfsI.start : BfsI fs e [(e, none)] 0 := by
  refine ⟨rfl, fun p hp => .inl (by rw [List.mem_singleton.mp hp]), fun x p hp => .inl ?_, fun i q p hi => by omega, fun i q p hi => by omega, Nat.zero_le _, ?_, fun _ _ _ => ⟨by simp, fun x q hx => ?_⟩⟩
  · have := List.mem_singleton.mp hp
    exact ⟨(Prod.mk.inj this).1, (Prod.mk.inj this).2⟩
  · simp [wgtP]
  · have := (Prod.mk.inj (List.mem_singleton.mp hx)).2
    cases this
theorem BfsI.step (ok : FsOk2 fs) (no : ∀ n, ¬ Rc fs n n) (I : BfsI fs e ps k) (hk : ps[k]? = some (h, o)) : BfsI fs e (ps ++ kids fs h) (k + 1) := by
  have kl : k < ps.length := (List.getElem?_eq_some_iff.mp hk).1
  have hm : (h, o) ∈ ps := List.mem_of_getElem? hk
  refine ⟨by rw [List.getElem?_append_left (by omega)]; exact I.h0, fun p hp => ?_, fun x p hp => ?_, fun i q p hi hq x hx => ?_, fun i q p hi hq => ?_, ?_, ?_, fun ht hn _ => ?_⟩
  · rcases List.mem_append.mp hp with hp | hp
    · exact I.rc p hp
    · obtain ⟨y, hy, rfl⟩ := List.mem_map.mp hp
      refine .inr ?_
      rcases I.rc _ hm with z | z
      · have z : h = e := z
        rw [z] at hy
        exact .one hy
      · exact z.more hy
  · rcases List.mem_append.mp hp with hp | hp
    · rcases I.par x p hp with z | ⟨q, e1, e2, e3⟩
      · exact .inl z
      · exact .inr ⟨q, e1, by rw [List.map_append]; exact List.mem_append_left _ e2, e3⟩
    · obtain ⟨y, hy, e1⟩ := List.mem_map.mp hp
      cases e1
      exact .inr ⟨h, rfl, by rw [List.map_append]; exact List.mem_append_left _ (List.mem_map.mpr ⟨_, hm, rfl⟩), hy⟩
  · have hil : i < ps.length := by omega
    rw [List.getElem?_append_left hil] at hq
    by_cases z : i < k
    · exact List.mem_append_left _ (I.chi i q p z hq x hx)
    · have : i = k := by omega
      rw [this, hk] at hq
      cases hq
      exact List.mem_append_right _ (List.mem_map.mpr ⟨x, hx, rfl⟩)
  · have hil : i < ps.length := by omega
    rw [List.getElem?_append_left hil] at hq
    by_cases z : i < k
    · exact (I.sl i q p z hq).trans (List.sublist_append_left _ _)
    · have : i = k := by omega
      rw [this, hk] at hq
      cases hq
      exact List.sublist_append_right _ _
  · rw [List.length_append]
    omega
  · have w := I.wt
    have e1 : ps.drop k = (h, o) :: ps.drop (k + 1) := by
      rw [List.drop_eq_getElem_cons kl]
      congr 1
      have := (List.getElem?_eq_some_iff.mp hk).2
      exact this
    have e2 : wgtP fs (ps.drop k) = 3 ^ place fs h + wgtP fs (ps.drop (k + 1)) := by
      rw [e1]
      unfold wgtP
      rw [List.map_cons, List.sum_cons]
    rw [List.drop_append_of_le_length (by omega), wgtP_app]
    have := kids_wgt ok no h
    omega
  · obtain ⟨n1, n2⟩ := I.nds ht hn no
    obtain ⟨t, T⟩ := ht
    have ek : (kids fs h).map (·.1) = rf fs h := by unfold kids; rw [List.map_map]; exact List.map_id _
    have inT : ∀ q, q ∈ ps.map (·.1) → q ∈ t.map (·.1) := fun q hq => by
      obtain ⟨p, hp, rfl⟩ := List.mem_map.mp hq
      exact T.key (I.rc p hp)
    have hmk : h ∈ ps.map (·.1) := List.mem_map.mpr ⟨_, hm, rfl⟩
    refine ⟨?_, fun x q hx => ?_⟩
    · rw [List.map_append, ek]
      refine List.nodup_append.mpr ⟨n1, hn h, fun a ha b hb hab => ?_⟩
      subst hab
      obtain ⟨⟨a', p⟩, hp, rfl⟩ := List.mem_map.mp ha
      rcases I.par _ _ hp with ⟨z, _⟩ | ⟨q, rfl, hq, hr⟩
      · have hb : e ∈ rf fs h := by rw [← z]; exact hb
        rcases I.rc _ hm with y | y
        · have y : h = e := y
          rw [y] at hb
          exact no e (.one hb)
        · exact no e (y.more hb)
      · obtain ⟨i, o', hi, hio⟩ := n2 _ _ hp
        have e1 := T.chi q (inT q hq) _ hr
        have e2 := T.chi h (inT h hmk) _ hb
        have e3 : q = h := Option.some.inj (key_uni T.nd e1 e2)
        subst e3
        have g1 : (ps.map (·.1))[i]? = some q := by rw [List.getElem?_map, hio]; rfl
        have g2 : (ps.map (·.1))[k]? = some q := by rw [List.getElem?_map, hk]; rfl
        have := (List.getElem?_inj (by rw [List.length_map]; omega) n1).mp (g1.trans g2.symm)
        omega
    · rcases List.mem_append.mp hx with hx | hx
      · obtain ⟨i, o', hi, hio⟩ := n2 _ _ hx
        exact ⟨i, o', by omega, by rw [List.getElem?_append_left (by omega)]; exact hio⟩
      · obtain ⟨y, hy, e1⟩ := List.mem_map.mp hx
        cases e1
        exact ⟨k, o, by omega, by rw [List.getElem?_append_left kl]; exact hk⟩
theorem BfsI.len (I : BfsI fs e ps k) : ps.length ≤ 3 ^ place fs e := by
  have h1 := wgtP_len (fs := fs) (ps.drop k)
  rw [List.length_drop] at h1
  have := I.wt
  have := I.kl
  omega
/-- at the end: the names are those below -/
theorem BfsI.mem (I : BfsI fs e ps ps.length) (x : Str) : x ∈ ps.map (·.1) ↔ x = e ∨ Rc fs e x := by
  have r0 : e ∈ ps.map (·.1) := List.mem_map.mpr ⟨_, List.mem_of_getElem? I.h0, rfl⟩
  have cl : ∀ q ∈ ps.map (·.1), ∀ y ∈ rf fs q, y ∈ ps.map (·.1) := fun q hq y hy => by
    obtain ⟨⟨q', p⟩, hp, rfl⟩ := List.mem_map.mp hq
    obtain ⟨i, hi⟩ := List.mem_iff_getElem?.mp hp
    exact List.mem_map.mpr ⟨_, I.chi i q' p (List.getElem?_eq_some_iff.mp hi).1 hi y hy, rfl⟩
  constructor
  · intro hx
    obtain ⟨p, hp, rfl⟩ := List.mem_map.mp hx
    exact I.rc p hp
  · rintro (rfl | r)
    · exact r0
    · induction r with
      | one h => exact cl _ r0 _ h
      | more _ h ih => exact cl _ ih _ h
end
end WP
namespace WP
open PySem L2 PySem.Spec PyProof.Rows
/-- a page whose second part is the names to which it refers -/
def PgV (K : PySem.W.Frag) (H : Hp) (v : V) (rs : List Str) : Prop := ∃ (a r : Addr) (x0 : V) (rest : List V), v = .ref a ∧ SqT K H a (x0 :: .ref r :: rest) ∧ (SqL K H r (rs.map V.str) ∨ SqT K H r (rs.map V.str))
theorem PgV.same {K : PySem.W.Frag} {H H' : Hp} {v : V} {rs : List Str} (h : PgV K H v rs) (s : Same H H') : PgV K H' v rs := by
  obtain ⟨a, r, x0, rest, e, h1, h2⟩ := h
  exact ⟨a, r, x0, rest, e, SqT.sm h1 s, h2.imp (fun h => SqL.sm h s) (fun h => SqT.sm h s)⟩
inductive PagesR (K : PySem.W.Frag) (H : Hp) : List (Key × V) → List (Str × FileD) → Prop
  | nil : PagesR K H [] []
  | cons {n : Str} {v : V} {f : FileD} {kvs : List (Key × V)} {fs : List (Str × FileD)} : PgV K H v f.refers → PagesR K H kvs fs → PagesR K H ((.inr n, v) :: kvs) ((n, f) :: fs)
section
variable {K : PySem.W.Frag} {H H' : Hp} {kvs : List (Key × V)} {fs : List (Str × FileD)}
theorem PagesR.same (h : PagesR K H kvs fs) (s : Same H H') : PagesR K H' kvs fs := by
  induction h with
  | nil => exact .nil
  | cons h _ ih => exact .cons (h.same s) ih
theorem PagesR.keys (h : PagesR K H kvs fs) : kvs.map (·.1) = (fs.map (·.1)).map Sum.inr := by
  induction h with
  | nil => rfl
  | cons h _ ih => simp [ih]
end
inductive PairsR (H : Hp) : List Addr → List (Str × Option Str) → Prop
  | nil : PairsR H [] []
  | cons {a : Addr} {x : Str} {p : Option Str} {as : List Addr} {ps : List (Str × Option Str)} : H a = some (.tup [.str x, optS p]) → PairsR H as ps → PairsR H (a :: as) ((x, p) :: ps)
section
variable {H H' : Hp} {as bs : List Addr} {ps qs : List (Str × Option Str)}
theorem PairsR.same (h : PairsR H as ps) (s : Same H H') : PairsR H' as ps := by
  induction h with
  | nil => exact .nil
  | cons h _ ih => exact .cons (s _ _ h) ih
theorem PairsR.app (h : PairsR H as ps) (h' : PairsR H bs qs) : PairsR H (as ++ bs) (ps ++ qs) := by
  induction h with
  | nil => exact h'
  | cons h _ ih => exact .cons h ih
theorem PairsR.len (h : PairsR H as ps) : as.length = ps.length := by
  induction h with
  | nil => rfl
  | cons h _ ih => simp [ih]
theorem PairsR.at (h : PairsR H as ps) : ∀ {i : Nat} {a : Addr}, as[i]? = some a → ∃ x p, ps[i]? = some (x, p) ∧ H a = some (.tup [.str x, optS p]) := by
  induction h with
  | nil => intro i a e; cases e
  | @cons b x p as ps h _ ih =>
    intro i a e
    cases i with
    | zero =>
      cases e
      exact ⟨x, p, rfl, h⟩
    | succ i =>
      rw [List.getElem?_cons_succ] at e
      obtain ⟨y, q, h1, h2⟩ := ih e
      exact ⟨y, q, by rw [List.getElem?_cons_succ]; exact h1, h2⟩
end
end WP
namespace WP
open PySem L2 PySem.Spec PyProof.Rows
section
variable {fs : List (Str × FileD)} {a m : Str}
theorem rc_trans {x y z : Str} (h1 : Rc fs x y) (h2 : Rc fs y z) : Rc fs x z := by
  induction h2 with
  | one h => exact h1.more h
  | more _ h ih => exact ih.more h
theorem FsOk2.ok (h : FsOk2 fs) (nd : ∀ n, (rf fs n).Nodup) : FsOk fs := ⟨h.few, h.nd, h.nam, h.cl, fun n f e => by rw [← rf_of e]; exact nd n⟩
/-- what is below a file of a tree is a tree -/
theorem TreeOf.sub {r e : Str} {t : List (Str × Option Str)} (T : TreeOf fs r t) (no : ∀ n, ¬ Rc fs n n) (hr : Rc fs r e) : ∃ t', TreeOf fs e t' := by
  classical
  have hek : e ∈ t.map (·.1) := T.key (.inr hr)
  have mf : ∀ x p, (x, p) ∈ (t.filter fun q => decide (Rc fs e q.1)) ↔ (x, p) ∈ t ∧ Rc fs e x := fun x p => by
    rw [List.mem_filter]
    simp
  have kf : ∀ x, x ∈ (t.filter fun q => decide (Rc fs e q.1)).map (·.1) ↔ x ∈ t.map (·.1) ∧ Rc fs e x := fun x => by
    constructor
    · intro h
      obtain ⟨⟨y, p⟩, h1, rfl⟩ := List.mem_map.mp h
      have := (mf y p).mp h1
      exact ⟨List.mem_map.mpr ⟨_, this.1, rfl⟩, this.2⟩
    · rintro ⟨h1, h2⟩
      obtain ⟨⟨y, p⟩, h3, rfl⟩ := List.mem_map.mp h1
      exact List.mem_map.mpr ⟨_, (mf y p).mpr ⟨h3, h2⟩, rfl⟩
  refine ⟨(e, none) :: t.filter fun q => decide (Rc fs e q.1), ⟨?_, List.mem_cons_self, fun x p hx => ?_, fun q hq x hx => ?_, fun x hx => ?_⟩⟩
  · rw [List.map_cons, List.nodup_cons]
    refine ⟨fun h => no e ((kf e).mp h).2, T.nd.sublist (List.filter_sublist.map _)⟩
  · rcases List.mem_cons.mp hx with h | h
    · exact .inl (Prod.mk.inj h)
    · obtain ⟨h1, h2⟩ := (mf x p).mp h
      refine .inr ?_
      rcases T.par x p h1 with ⟨rfl, _⟩ | ⟨q, rfl, h3, h4⟩
      · exact absurd (rc_trans hr h2) (no _)
      · refine ⟨q, rfl, ?_, h4⟩
        rw [List.map_cons, List.mem_cons]
        have uni : ∀ y, y ∈ t.map (·.1) → x ∈ rf fs y → q = y := fun y hy hxy => Option.some.inj (key_uni T.nd h1 (T.chi y hy x hxy))
        cases h2 with
        | one h5 => exact .inl (uni e hek h5)
        | @more y _ h5 h6 =>
          have hy : y ∈ t.map (·.1) := T.key (.inr (rc_trans hr h5))
          have := uni y hy h6
          rw [this]
          exact .inr ((kf y).mpr ⟨hy, h5⟩)
  · rw [List.map_cons, List.mem_cons] at hq
    refine List.mem_cons_of_mem _ ((mf x _).mpr ?_)
    rcases hq with rfl | hq
    · exact ⟨T.chi _ hek x hx, .one hx⟩
    · obtain ⟨h1, h2⟩ := (kf q).mp hq
      exact ⟨T.chi q h1 x hx, h2.more hx⟩
  · rw [List.map_cons, List.mem_cons] at hx
    exact hx.imp id fun h => ((kf x).mp h).2
end
structure LInv (ns S : List Str) (fs : List (Str × FileD)) (roots : List Str) : Prop where
  keys : fs.map (·.1) = ns
  ok : FsOk fs
  no : ∀ n, ¬ Rc fs n n
  sub : ∀ n m, m ∈ rf fs n → n ∈ S ∧ m ∈ S
  sn : ∀ n ∈ S, n ∈ ns
  ne : roots ≠ []
  rs : ∀ r ∈ roots, r ∈ S
  tr : ∀ r ∈ roots, ∃ t, TreeOf fs r t
  cov : ∀ n ∈ S, ∃ r ∈ roots, n = r ∨ Rc fs r n
section
variable {ns S roots : List Str} {fs : List (Str × FileD)} {a m : Str}
/-- below each file there is a tree -/
theorem LInv.all (I : LInv ns ns fs roots) {e : Str} (he : e ∈ ns) : ∃ t, TreeOf fs e t := by
  obtain ⟨r, h1, h2⟩ := I.cov e he
  obtain ⟨t, T⟩ := I.tr r h1
  rcases h2 with rfl | h2
  · exact ⟨t, T⟩
  · exact T.sub I.no h2
def bareF (ns : List Str) : List (Str × FileD) := ns.map fun n => (n, ⟨false, [], none, []⟩)
theorem bareF_rf (ns : List Str) (n : Str) : rf (bareF ns) n = [] := by
  unfold rf
  cases e : lkF (bareF ns) n with
  | none => rfl
  | some f =>
    obtain ⟨x, _, e2⟩ := List.mem_map.mp (lkF_mem e)
    cases e2
    rfl
theorem LInv.start {n : Str} {r : List Str} (nd : (n :: r).Nodup) (l8 : (n :: r).length ≤ 8) (nam : ∀ x ∈ n :: r, isNameS x = true) : LInv (n :: r) [n] (bareF (n :: r)) [n] := by
  have keys : (bareF (n :: r)).map (·.1) = n :: r := by
    unfold bareF
    rw [List.map_map]
    exact List.map_id _
  have noR : ∀ x y, ¬ Rc (bareF (n :: r)) x y := fun x y h => by
    cases h with
    | one h => rw [bareF_rf] at h; cases h
    | more _ h => rw [bareF_rf] at h; cases h
  refine ⟨keys, ⟨by unfold bareF; rw [List.length_map]; exact l8, by rw [keys]; exact nd, by rw [keys]; exact nam, fun x f e y hy => ?_, fun x f e => ?_⟩, fun x => noR x x, fun x y h => ?_, fun x hx => ?_, by simp, fun x hx => hx, fun x hx => ?_, fun x hx => ⟨x, hx, .inl rfl⟩⟩
  · rw [← rf_of e, bareF_rf] at hy
    cases hy
  · rw [← rf_of e, bareF_rf]
    exact List.nodup_nil
  · rw [bareF_rf] at h
    cases h
  · rw [List.mem_singleton.mp hx]
    exact List.mem_cons_self
  · rw [List.mem_singleton.mp hx]
    refine ⟨[(n, none)], ⟨by simp, by simp, fun x p hx => .inl (Prod.mk.inj (List.mem_singleton.mp hx)), fun q hq x hx => ?_, fun x hx => .inl (by simpa using hx)⟩⟩
    rw [bareF_rf] at hx
    cases hx
end
end WP
namespace WP
open PySem L2 PySem.Spec PyProof.Rows
inductive TupsR (H : Hp) : List Addr → List (Key × V) → Prop
  | nil : TupsR H [] []
  | cons {a : Addr} {k : Key} {v : V} {as : List Addr} {kvs : List (Key × V)} : H a = some (.tup [kV k, v]) → TupsR H as kvs → TupsR H (a :: as) ((k, v) :: kvs)
section
variable {K : PySem.W.Frag} {H H' : Hp} {as bs : List Addr} {kvs kvs' : List (Key × V)} {fs fs' : List (Str × FileD)}
theorem TupsR.same (h : TupsR H as kvs) (s : Same H H') : TupsR H' as kvs := by
  induction h with
  | nil => exact .nil
  | cons h _ ih => exact .cons (s _ _ h) ih
theorem TupsR.app (h : TupsR H as kvs) (h' : TupsR H bs kvs') : TupsR H (as ++ bs) (kvs ++ kvs') := by
  induction h with
  | nil => exact h'
  | cons h _ ih => exact .cons h ih
theorem TupsR.len (h : TupsR H as kvs) : as.length = kvs.length := by
  induction h with
  | nil => rfl
  | cons h _ ih => simp [ih]
inductive RefsR (H : Hp) : List (Key × V) → List (Str × FileD) → Prop
  | nil : RefsR H [] []
  | cons {n : Str} {r : Addr} {f : FileD} {kvs : List (Key × V)} {fs : List (Str × FileD)} : H r = some (.lst (f.refers.map V.str)) → RefsR H kvs fs → RefsR H ((.inr n, .ref r) :: kvs) ((n, f) :: fs)
theorem RefsR.same (h : RefsR H kvs fs) (s : Same H H') : RefsR H' kvs fs := by
  induction h with
  | nil => exact .nil
  | cons h _ ih => exact .cons (s _ _ h) ih
theorem RefsR.app (h : RefsR H kvs fs) (h' : RefsR H kvs' fs') : RefsR H (kvs ++ kvs') (fs ++ fs') := by
  induction h with
  | nil => exact h'
  | cons h _ ih => exact .cons h ih
theorem RefsR.keys (h : RefsR H kvs fs) : kvs.map (·.1) = (fs.map (·.1)).map Sum.inr := by
  induction h with
  | nil => rfl
  | cons h _ ih => simp [ih]
end
def fr (H G : Hp) : Hp := fun b => match H b with | some _ => none | none => G b
theorem fr_of {H G : Hp} {b : Addr} {o : HO} (h : fr H G b = some o) : H b = none ∧ G b = some o := by
  unfold fr at h
  cases e : H b with
  | none => rw [e] at h; exact ⟨rfl, h⟩
  | some u => rw [e] at h; cases h
theorem fr_hd2 {d w c : Addr} {B : Int} {H G : Hp} (D : Dr d w c B H) : Same (fr H G) (hd2 d w G) := fun b o e => by
  obtain ⟨h1, h2⟩ := fr_of e
  obtain ⟨n1, n2, _⟩ := D.off h1
  exact hd2_mk h2 n1 n2
theorem fr_sub {H G : Hp} : Same (fr H G) G := fun b o e => (fr_of e).2
theorem none_back {H G : Hp} {b : Addr} (s : Same H G) (h : G b = none) : H b = none := by
  cases e : H b with
  | none => rfl
  | some u => rw [s _ _ e] at h; cases h
end WP
namespace WP
open PySem L2
section
variable {K : PySem.W.Frag} {H H' : Hp} {kvs kvs' : List (Key × V)} {fs fs' : List (Str × FileD)}
theorem PagesR.app (h : PagesR K H kvs fs) (h' : PagesR K H kvs' fs') : PagesR K H (kvs ++ kvs') (fs ++ fs') := by
  induction h with
  | nil => exact h'
  | cons a _ ih => exact .cons a ih
theorem fs_at {ns : List Str} (e : fs.map (·.1) = ns) (nd : ns.Nodup) {i : Nat} {n : Str} (h : ns[i]? = some n) : ∃ f, fs[i]? = some (n, f) ∧ lkF fs n = some f := by
  rw [← e, List.getElem?_map] at h
  cases e2 : fs[i]? with
  | none => rw [e2] at h; cases h
  | some x =>
    rw [e2] at h
    obtain ⟨m, f⟩ := x
    cases h
    refine ⟨f, rfl, ?_⟩
    have hm : (m, f) ∈ fs := List.mem_of_getElem? e2
    rw [← e] at nd
    clear e e2
    induction fs with
    | nil => cases hm
    | cons y r ih =>
      obtain ⟨k, g⟩ := y
      rw [List.map_cons, List.nodup_cons] at nd
      rcases List.mem_cons.mp hm with h1 | h1
      · cases h1
        exact lkF_hit (fs := r)
      · rw [lkF_skip]
        · exact ih nd.2 h1
        · intro z
          exact nd.1 (List.mem_map.mpr ⟨_, h1, z.symm⟩)
theorem take_at {α : Type} {l : List α} {i : Nat} {x : α} (h : l[i]? = some x) : l.take (i + 1) = l.take i ++ [x] := by
  rw [List.take_succ, h]
  rfl
end
end WP
namespace WP
open PySem L2 PySem.Spec PyProof.Rows
open PySem.Froz (SD sObj TxOk)
end WP
namespace WP
open PySem L2 PySem.Spec PyProof.Rows
structure MdD where
  files : List (Str × FileD)
  entries : List Str
  counts : Str
structure MdOk (m : MdD) : Prop where
  ok : FsOk m.files
  pos : m.files ≠ []
  no : ∀ n, ¬ Rc m.files n n
  fine : ∀ n f, (n, f) ∈ m.files → sortedS f.refers = true ∧ isTicksV (optI f.hold) = true ∧ ∀ k ∈ f.keeps, isTicksV (optI k) = true
  kl : ∃ c, c ≤ 4 ∧ ∀ n f, (n, f) ∈ m.files → f.keeps.length = c
  epos : m.entries ≠ []
  end_ : m.entries.Nodup
  eso : sortedS m.entries = true
  epl : ∀ e ∈ m.entries, plainF m.files (.str e) = true
  tr : ∀ e ∈ m.entries, ∃ t, TreeOf m.files e t
  ct : m.counts = "own" ∨ m.counts = "whole"
/-- the page of a file: (naming, refers, hold, keeps) -/
def PgM (K : PySem.W.Frag) (H : Hp) (v : V) (f : FileD) : Prop := ∃ a r k, v = .ref a ∧ H a = some (.tup [.str (namS f.own), .ref r, optI f.hold, .ref k]) ∧ H r = some (.tup (f.refers.map V.str)) ∧ H k = some (.tup (f.keeps.map optI))
theorem PgM.same {K : PySem.W.Frag} {H H' : Hp} {v : V} {f : FileD} (h : PgM K H v f) (s : Same H H') : PgM K H' v f := by
  obtain ⟨a, r, k, e, h1, h2, h3⟩ := h
  exact ⟨a, r, k, e, s _ _ h1, s _ _ h2, s _ _ h3⟩
inductive PgsM (K : PySem.W.Frag) (H : Hp) : List (Key × V) → List (Str × FileD) → Prop
  | nil : PgsM K H [] []
  | cons {n : Str} {v : V} {f : FileD} {kvs : List (Key × V)} {fs : List (Str × FileD)} : PgM K H v f → PgsM K H kvs fs → PgsM K H ((.inr n, v) :: kvs) ((n, f) :: fs)
section
variable {K : PySem.W.Frag} {H H' : Hp} {kvs kvs' : List (Key × V)} {fs fs' : List (Str × FileD)}
theorem PgsM.same (h : PgsM K H kvs fs) (s : Same H H') : PgsM K H' kvs fs := by
  induction h with
  | nil => exact .nil
  | cons a _ ih => exact .cons (a.same s) ih
theorem PgsM.app (h : PgsM K H kvs fs) (h' : PgsM K H kvs' fs') : PgsM K H (kvs ++ kvs') (fs ++ fs') := by
  induction h with
  | nil => exact h'
  | cons a _ ih => exact .cons a ih
theorem PgsM.keys (h : PgsM K H kvs fs) : kvs.map (·.1) = (fs.map (·.1)).map Sum.inr := by
  induction h with
  | nil => rfl
  | cons a _ ih => rw [List.map_cons, List.map_cons, List.map_cons, ih]
theorem PgsM.at (h : PgsM K H kvs fs) : ∀ {i : Nat} {k : Key} {v : V}, kvs[i]? = some (k, v) → ∃ n f, fs[i]? = some (n, f) ∧ k = .inr n := by
  induction h with
  | nil => intro i k v e; cases e
  | @cons n u f kvs fs a _ ih =>
    intro i k v e
    cases i with
    | zero => cases e; exact ⟨n, f, rfl, rfl⟩
    | succ j => exact ih e
end
def MdAt (K : PySem.W.Frag) (H : Hp) (v : V) (m : MdD) : Prop := ∃ (a dF eT : Addr) (kvs : List (Key × V)), v = .ref a ∧ H a = some (.dK [((.inr "files" : Key), .ref dF), (.inr "entries", .ref eT), (.inr "counts", .str m.counts)]) ∧ H dF = some (.dK kvs) ∧ PgsM K H kvs m.files ∧ H eT = some (.tup (m.entries.map V.str))
theorem MdAt.same {K : PySem.W.Frag} {H H' : Hp} {v : V} {m : MdD} (h : MdAt K H v m) (s : Same H H') : MdAt K H' v m := by
  obtain ⟨a, dF, eT, kvs, e, h1, h2, h3, h4⟩ := h
  exact ⟨a, dF, eT, kvs, e, s _ _ h1, s _ _ h2, h3.same s, s _ _ h4⟩
section
variable {fs gs : List (Str × FileD)}
theorem Rc.to (h : ∀ n x, x ∈ rf fs n → x ∈ rf gs n) {a b : Str} (r : Rc fs a b) : Rc gs a b := by
  induction r with
  | one h1 => exact .one (h _ _ h1)
  | more _ h1 ih => exact .more ih (h _ _ h1)
theorem TreeOf.to (h : ∀ n x, x ∈ rf fs n ↔ x ∈ rf gs n) {e : Str} {t : List (Str × Option Str)} (T : TreeOf fs e t) : TreeOf gs e t :=
  ⟨T.nd, T.root, fun x p hx => (T.par x p hx).imp id fun ⟨q, h1, h2, h3⟩ => ⟨q, h1, h2, (h _ _).mp h3⟩, fun q hq x hx => T.chi q hq x ((h _ _).mpr hx), fun x hx => (T.rc x hx).imp id fun r => r.to fun n x => (h n x).mp⟩
end
/-- what is drawn is a model -/
theorem MdOk.of {ns roots ss es : List Str} {fs0 fs : List (Str × FileD)} {many : Nat} {ct : Str} (I : LInv ns ns fs0 roots) (hnd : ns.Nodup) (ks : fs.map (·.1) = ss) (pm : ss.Perm ns) (hm : many ≤ 4)
    (hf : ∀ n f, (n, f) ∈ fs → f.refers.Perm (rf fs0 n) ∧ sortedS f.refers = true ∧ isTicksV (optI f.hold) = true ∧ (∀ k ∈ f.keeps, isTicksV (optI k) = true) ∧ f.keeps.length = many ∧ (n ∈ es → f.own = false))
    (epos : es ≠ []) (end_ : es.Nodup) (eso : sortedS es = true) (esub : ∀ e ∈ es, e ∈ ns) (hct : ct = "own" ∨ ct = "whole") : MdOk ⟨fs, es, ct⟩ := by
  have fnd : (fs.map (·.1)).Nodup := by rw [ks]; exact pm.nodup_iff.mpr hnd
  have fk : ∀ n, n ∈ fs.map (·.1) ↔ n ∈ fs0.map (·.1) := fun n => by rw [ks, pm.mem_iff, I.keys]
  have rr : ∀ n, (rf fs n).Perm (rf fs0 n) := fun n => by
    cases e : lkF fs n with
    | some f =>
      rw [rf_of e]
      exact (hf n f (lkF_mem e)).1
    | none =>
      have h0 : lkF fs0 n = none := lkF_none fun z => by
        obtain ⟨f, hf⟩ := lkF_key.mp ((fk n).mpr z)
        rw [e] at hf
        cases hf
      unfold rf
      rw [e, h0]
  have rm : ∀ n x, x ∈ rf fs n ↔ x ∈ rf fs0 n := fun n x => (rr n).mem_iff
  refine ⟨⟨?_, fnd, fun n hn => I.ok.nam n ((fk n).mp hn), fun n f e m hm => ?_, fun n f e => ?_⟩, fun z => ?_, fun n r => I.no n (r.to fun n x => (rm n x).mp), fun n f h => ⟨(hf n f h).2.1, (hf n f h).2.2.1, (hf n f h).2.2.2.1⟩, ⟨many, hm, fun n f h => (hf n f h).2.2.2.2.1⟩, epos, end_, eso, fun e he => ?_, fun e he => ?_, hct⟩
  · have h1 := congrArg List.length ks
    have h2 := pm.length_eq
    have h3 := congrArg List.length I.keys
    rw [List.length_map] at h1 h3
    have h4 := I.ok.few
    show fs.length ≤ 8
    omega
  · show m ∈ fs.map (·.1)
    have h1 : m ∈ rf fs n := by rw [rf_of e]; exact hm
    exact (fk m).mpr (I.ok.rf_mem ((rm n m).mp h1))
  · have h1 := (rr n).nodup_iff.mpr (I.ok.rf_nd n)
    rw [rf_of e] at h1
    exact h1
  · have z : fs = [] := z
    obtain ⟨e, he⟩ := List.exists_mem_of_ne_nil es epos
    have := pm.mem_iff.mpr (esub e he)
    rw [← ks, z] at this
    cases this
  · have h1 : e ∈ fs.map (·.1) := by rw [ks, pm.mem_iff]; exact esub e he
    obtain ⟨f, hfe⟩ := lkF_key.mp h1
    have := (hf e f (lkF_mem hfe)).2.2.2.2.2 he
    show (match lkF fs e with | some f => !f.own | none => false) = true
    rw [hfe]
    show (!f.own) = true
    rw [this]
    rfl
  · obtain ⟨t, T⟩ := I.all (esub e he)
    exact ⟨t, T.to fun n x => (rm n x).symm⟩
end WP
namespace WP
open PySem L2 PySem.Spec PyProof.Rows
def leS (x y : Str) : Prop := x.cps.toList ≤ y.cps.toList
theorem leS_of {x y : Str} (h : ltCps y.cps.toList x.cps.toList = false) : leS x y := by
  rw [ltCps_eq] at h
  exact of_decide_eq_false h
theorem leS.trans {x y z : Str} (h : leS x y) (h' : leS y z) : leS x z := List.le_trans h h'
theorem leS.anti {x y : Str} (h : leS x y) (h' : leS y x) : x = y := by
  have e := List.le_antisymm h h'
  obtain ⟨⟨a⟩⟩ := x
  obtain ⟨⟨b⟩⟩ := y
  have : a = b := e
  rw [this]
theorem rising_pw : ∀ (l : List Str) (p : Str), risingS p l = true → (p :: l).Pairwise leS
  | [], p, _ => List.pairwise_singleton _ _
  | x :: r, p, h => by
    have h' : (!ltCps x.cps.toList p.cps.toList && risingS x r) = true := h
    rw [Bool.and_eq_true, Bool.not_eq_true'] at h'
    have ih := rising_pw r x h'.2
    have px := leS_of h'.1
    refine List.pairwise_cons.mpr ⟨fun y hy => ?_, ih⟩
    rcases List.mem_cons.mp hy with rfl | hy
    · exact px
    · exact px.trans ((List.pairwise_cons.mp ih).1 y hy)
theorem sorted_pw : ∀ {l : List Str}, sortedS l = true → l.Pairwise leS
  | [], _ => .nil
  | x :: r, h => rising_pw r x h
theorem sorted_uniq {a b : List Str} (p : a.Perm b) (ha : sortedS a = true) (hb : sortedS b = true) : a = b := by
  have key : ∀ (a b : List Str), a.Perm b → a.Pairwise leS → b.Pairwise leS → a = b := by
    intro a
    induction a with
    | nil => intro b p _ _; exact p.nil_eq
    | cons x r ih =>
      intro b p ha hb
      cases b with
      | nil => exact absurd p.length_eq (by simp)
      | cons y t =>
        have hx := List.pairwise_cons.mp ha
        have hy := List.pairwise_cons.mp hb
        have e : x = y := by
          rcases List.mem_cons.mp (p.mem_iff.mp List.mem_cons_self) with h | h
          · exact h
          rcases List.mem_cons.mp (p.mem_iff.mpr (List.mem_cons_self (a := y) (l := t))) with h' | h'
          · exact h'.symm
          exact (hx.1 y h').anti (hy.1 x h)
        subst e
        rw [ih t (List.Perm.cons_inv p) hx.2 hy.2]
  exact key a b p (sorted_pw ha) (sorted_pw hb)
theorem namS_inj {a b : Bool} (h : namS a = namS b) : a = b := by
  cases a <;> cases b
  · rfl
  · exact absurd h (by decide)
  · exact absurd h (by decide)
  · rfl
theorem MdOk.file {m : MdD} (h : MdOk m) {n : Str} {f : FileD} (e : (n, f) ∈ m.files) : FileOk f := by
  obtain ⟨c, c4, hc⟩ := h.kl
  obtain ⟨h1, h2, h3⟩ := h.fine n f e
  have lk : lkF m.files n = some f := by
    obtain ⟨i, hi⟩ := List.mem_iff_getElem?.mp e
    obtain ⟨f', a1, a2⟩ := fs_at (fs := m.files) rfl h.ok.nd (i := i) (n := n) (by rw [List.getElem?_map, hi]; rfl)
    rw [hi] at a1
    cases a1
    exact a2
  refine ⟨h.ok.rnd n f lk, fun x hx => h.ok.nam x (h.ok.cl n f lk x hx), h1, by rw [hc n f e]; exact c4, ?_, h2, h3⟩
  have := (h.ok.two.rc2 n f lk).2
  omega
def mdL (fs : List (Str × FileD)) : List (Key × Option FileD) := fs.map fun p => (.inr p.1, some p.2)
theorem MdOk.keys {m : MdD} (h : MdOk m) : okKeys (mdL m.files) = true := by
  unfold okKeys mdL
  rw [Bool.and_eq_true, Bool.and_eq_true, decide_eq_true_eq, decide_eq_true_eq, List.length_map, List.all_map]
  refine ⟨⟨?_, h.ok.few⟩, List.all_eq_true.mpr fun x hx => h.ok.nam x.1 (List.mem_map.mpr ⟨x, hx, rfl⟩)⟩
  cases e : m.files with
  | nil => exact absurd e h.pos
  | cons a r => exact Nat.succ_le_succ (Nat.zero_le _)
section
variable {K : PySem.W.Frag} {H : Hp}
theorem FVals.app {CF : Addr} {kvs kvs' : List (Key × V)} {l l' : List (Key × Option FileD)} (h : FVals K CF H kvs l) (h' : FVals K CF H kvs' l') : FVals K CF H (kvs ++ kvs') (l ++ l') := by
  induction h with
  | nil => exact h'
  | file a b _ ih => exact .file a b ih
  | other a b _ ih => exact .other a b ih
end
/-- the site of a model -/
structure SiteM (s : SiteD) (m : MdD) : Prop where
  ok : SiteOk s
  fs : s.files.Perm m.files
  es : s.trees.map (·.1) = m.entries
  ct : s.counts = m.counts
end WP
namespace WP
open PySem L2 PySem.Spec PyProof.Rows
theorem hid_none {H H' : Hp} {b : Addr} {u : HO} (h : H b = some u) (hd : isDL u = true) : hid H H' b = none := by
  unfold hid
  rw [h]
  simp only [hd, if_true]
theorem hid_hd2 {d w c : Addr} {B : Int} {H H' : Hp} (D : Dr d w c B H) : Same (hid H H') (hd2 d w H') := fun b u e => by
  obtain ⟨⟨r, t, e1, _⟩, ⟨ns, e2⟩, _⟩ := D
  refine hd2_mk (hid_sub _ _ e) (fun z => ?_) (fun z => ?_)
  · rw [z, hid_none e1 rfl] at e
    cases e
  · rw [z, hid_none e2 rfl] at e
    cases e
theorem SiteAt.kept {K : PySem.W.Frag} {CS CF : Addr} {d w c : Addr} {B : Int} {H H' : Hp} {v : V} {s : SiteD} (h : SiteAt K CS CF (hid H H') v s) (D : Dr d w c B H) : SiteAt K CS CF (hd2 d w H') v s := h.same (hid_hd2 D)
end WP
namespace WP
open PySem L2 PySem.Spec PyProof.Rows PySem.W Builtin
end WP
namespace WP
open PySem L2 PySem.Spec PyProof.Rows PySem.W Builtin
end WP
namespace WP
open PySem L2 PySem.Spec PyProof.Rows
end WP
namespace WP
open PySem L2 PySem.Spec PyProof.Rows PySem.W
structure Mn (P : Program) (w : World) (K : PySem.W.Frag) (mg : Str → Option Value) (base : Heap) (CX : CXT) (k : Nat) (C : Addr) (m : Str) (ps : List Str) (sp : Sp) : Prop where
  cl : Cls K C
  ex : ∃ f fd, Meth K C m f ∧ fnIn K f = true ∧ FnOk P w K mg base CX k f fd ps sp ∧ Binds K fd ps []
structure MthK (K : PySem.W.Frag) (C : Addr) (m qual : Str) (st : Stmt) : Prop where
  ex : ∃ f fd, Meth K C m f ∧ fnIn K f = true ∧ Fun K m qual st f fd
theorem MthK.mn {P : Program} {w : World} {K : PySem.W.Frag} {mg : Str → Option Value} {base : Heap} {CX : CXT} {k : Nat} {C : Addr} {m qual : Str} {st : Stmt} {ps : List Str} {sp : Sp} (Z : MthK K C m qual st) (cl : Cls K C) (hok : ∀ f fd, Fun K m qual st f fd → FnOk P w K mg base CX k f fd ps sp) (hbi : ∀ f fd, Fun K m qual st f fd → L2.Binds K fd ps []) : Mn P w K mg base CX k C m ps sp := by
  obtain ⟨f, fd, h1, h2, F⟩ := Z.ex
  exact ⟨cl, f, fd, h1, h2, hok f fd F, hbi f fd F⟩
def hasF (s : SiteD) : V → Bool
  | .str z => (lkF s.files z).isSome
  | _ => false
def fileOf (s : SiteD) : V → Option FileD
  | .str z => lkF s.files z
  | _ => none
/-- the error tells the value -/
def NoF (CN : Addr) (H : Hp) (E : XK) (x : V) : Prop := ∀ d H', Same H H' → H d = none → H' d = some (.xd [("name", x)]) → E (.ref CN) (some d) H'
def AnyN (K : PySem.W.Frag) (H : Hp) (x : V) : Prop := ∃ k, Any K H x k ∧ ∀ z, x = .str z → z.length ≤ sizeLine
theorem AnyN.same {K : PySem.W.Frag} {H H' : Hp} {x : V} (h : AnyN K H x) (s : Same H H') : AnyN K H' x := by
  obtain ⟨k, h1, h2⟩ := h
  exact ⟨k, h1.same s, h2⟩
end WP
namespace WP
open PySem L2 PySem.Spec PyProof.Rows
def rReprE : List V → Hp → VK → Prop := fun xs H Q => ∃ a, xs = [.ref a] ∧ H a = some (.dK []) ∧ Q (.str (PyData.shown (.dict []))) H
def rReprX (K : PySem.W.Frag) : List V → Hp → VK → Prop := fun xs H Q => rRepr K xs H Q ∨ rReprE xs H Q
def Shown (K : PySem.W.Frag) (H : Hp) (v : V) (z : Str) : Prop := ∀ Q : VK, Q (.str z) H → rReprX K [v] H Q
theorem shown_d {K : PySem.W.Frag} {H : Hp} {v : V} {d : PyData} (h : Dp K H v d) (h1 : d.showable = true) (h2 : d.hasDict = false) (h3 : d.depth ≤ 40) (h4 : d.shown.length ≤ sizeLine) : Shown K H v d.shown := fun Q q => .inl ⟨v, d, rfl, h, h1, h2, h3, h4, q⟩
theorem shown_e {K : PySem.W.Frag} {H : Hp} {a : Addr} (h : H a = some (.dK [])) : Shown K H (.ref a) (PyData.shown (.dict [])) := fun Q q => .inr ⟨a, rfl, h, q⟩
/-- numbers of ticks, or None -/
def optP : Option Int → PyData
  | none => .none
  | some i => .int i
end WP
namespace WP
open PySem L2 PySem.Spec PyProof.Rows LamX
theorem SiteM.lk {s : SiteD} {m : MdD} (h : SiteM s m) (ok : MdOk m) (n : Str) : lkF s.files n = lkF m.files n := lkF_perm ok.ok.nd h.fs n
def OddK (H : Hp) (v : V) : Prop := v = .non ∨ v = .int 5 ∨ (v = .str "" ∨ v = .str "Page" ∨ v = .str "abcdefghi") ∨ ∃ a, v = .ref a ∧ (H a = some (.tup []) ∨ H a = some (.lst [.str "a"]) ∨ H a = some (.dK []))
section
variable {K : PySem.W.Frag} {H H' : Hp} {v : V}
theorem OddK.ext (h : OddK H v) (s : ExtN H H') : OddK H' v := by
  rcases h with h | h | h | ⟨a, e, h | h | h⟩
  · exact .inl h
  · exact .inr (.inl h)
  · exact .inr (.inr (.inl h))
  · exact .inr (.inr (.inr ⟨a, e, .inl (s _ _ h fun _ z => by cases z)⟩))
  · exact .inr (.inr (.inr ⟨a, e, .inr (.inl (s _ _ h fun _ z => by cases z))⟩))
  · exact .inr (.inr (.inr ⟨a, e, .inr (.inr (s _ _ h fun _ z => by cases z))⟩))
theorem OddK.same (h : OddK H v) (s : Same H H') : OddK H' v := h.ext (.of s)
theorem OddK.any (h : OddK H v) : AnyN K H v := by
  rcases h with rfl | rfl | (rfl | rfl | rfl) | ⟨a, rfl, h | h | h⟩
  · exact ⟨_, .non, fun z e => by cases e⟩
  · exact ⟨_, .int _, fun z e => by cases e⟩
  · exact ⟨_, .str _, fun z e => by cases e; decide⟩
  · exact ⟨_, .str _, fun z e => by cases e; decide⟩
  · exact ⟨_, .str _, fun z e => by cases e; decide⟩
  · exact ⟨_, .tup h, fun z e => by cases e⟩
  · exact ⟨_, .lst h, fun z e => by cases e⟩
  · exact ⟨_, .dct h, fun z e => by cases e⟩
theorem OddK.shown (h : OddK H v) : ∃ z, Shown K H v z := by
  rcases h with rfl | rfl | (rfl | rfl | rfl) | ⟨a, rfl, h | h | h⟩
  · exact ⟨_, shown_d .non (by decide +kernel) (by decide +kernel) (by decide +kernel) (by decide +kernel)⟩
  · exact ⟨_, shown_d (.int 5) (by decide +kernel) (by decide +kernel) (by decide +kernel) (by decide +kernel)⟩
  · exact ⟨_, shown_d (.str _) (by decide +kernel) (by decide +kernel) (by decide +kernel) (by decide +kernel)⟩
  · exact ⟨_, shown_d (.str _) (by decide +kernel) (by decide +kernel) (by decide +kernel) (by decide +kernel)⟩
  · exact ⟨_, shown_d (.str _) (by decide +kernel) (by decide +kernel) (by decide +kernel) (by decide +kernel)⟩
  · exact ⟨_, shown_d (.tup (SqT.of h) .nil) (by decide +kernel) (by decide +kernel) (by decide +kernel) (by decide +kernel)⟩
  · exact ⟨_, shown_d (.lst (SqL.of h) (.cons (.str "a") .nil)) (by decide +kernel) (by decide +kernel) (by decide +kernel) (by decide +kernel)⟩
  · exact ⟨_, shown_e h⟩
theorem OddK.no (h : OddK H v) {s : SiteD} {m : MdD} (sm : SiteM s m) (ok : MdOk m) : fileOf s v = none := by
  have no : ∀ z : Str, isNameS z = false → lkF s.files z = none := fun z hz => by
    rw [sm.lk ok]
    refine lkF_none fun hk => ?_
    rw [ok.ok.nam z hk] at hz
    cases hz
  rcases h with rfl | rfl | (rfl | rfl | rfl) | ⟨a, rfl, _⟩
  · rfl
  · rfl
  · exact no _ (by decide +kernel)
  · exact no _ (by decide +kernel)
  · exact no _ (by decide +kernel)
  · rfl
end
section
variable {K : PySem.W.Frag} {CS CF : Addr} {H H' : Hp}
theorem FileAt.ext {v : V} {f : FileD} (h : FileAt K CF H v f) (s : ExtN H H') : FileAt K CF H' v f := by
  obtain ⟨a, dx, t1, t2, e, h1, h2, h3⟩ := h
  exact ⟨a, dx, t1, t2, e, s _ _ h1 (fun _ z => by cases z), SqT.ext h2 s, SqT.ext h3 s⟩
theorem FilesR.ext {kvs : List (Key × V)} {fs : List (Str × FileD)} (h : FilesR K CF H kvs fs) (s : ExtN H H') : FilesR K CF H' kvs fs := by
  induction h with
  | nil => exact .nil
  | cons a _ ih => exact .cons (a.ext s) ih
theorem TreesR.ext {kvs : List (Key × V)} {ts : List (Str × List (Str × Option Str))} (h : TreesR H kvs ts) (s : ExtN H H') : TreesR H' kvs ts := by
  induction h with
  | nil => exact .nil
  | cons a _ ih => exact .cons (s _ _ a fun _ z => by cases z) ih
theorem SiteAt.ext {v : V} {t : SiteD} (h : SiteAt K CS CF H v t) (s : ExtN H H') : SiteAt K CS CF H' v t := by
  obtain ⟨a, dx, d1, d2, kvs, e, h1, ⟨kf, h2, h3⟩, h4, h5⟩ := h
  exact ⟨a, dx, d1, d2, kvs, e, s _ _ h1 (fun _ z => by cases z), ⟨kf, s _ _ h2 (fun _ z => by cases z), h3.ext s⟩, s _ _ h4 (fun _ z => by cases z), h5.ext s⟩
end
end WP
namespace WP
open PySem L2 PySem.Spec PyProof.Rows
theorem Rc.trans {fs : List (Str × FileD)} {a b c : Str} (h : Rc fs a b) (g : Rc fs b c) : Rc fs a c := by
  induction g with
  | one h1 => exact h.more h1
  | more _ h1 ih => exact ih.more h1
section
variable {fs gs : List (Str × FileD)} {e : Str} {t u : List (Str × Option Str)}
theorem TreeOf.in_ (T : TreeOf fs e t) (U : TreeOf fs e u) (no : ∀ n, ¬ Rc fs n n) {x : Str} {p : Option Str} (h : (x, p) ∈ t) : (x, p) ∈ u := by
  rcases T.par x p h with ⟨rfl, rfl⟩ | ⟨q, rfl, hq, hr⟩
  · exact U.root
  · exact U.chi q (U.key (T.rc q hq)) x hr
theorem TreeOf.iff (T : TreeOf fs e t) (U : TreeOf fs e u) (no : ∀ n, ¬ Rc fs n n) (x : Str) (p : Option Str) : (x, p) ∈ t ↔ (x, p) ∈ u := ⟨T.in_ U no, U.in_ T no⟩
end
inductive WayI (t : List (Str × Option Str)) (x : Str) : List Str → Prop
  | one : WayI t x [x]
  | up {q p : Str} {r : List Str} : WayI t x (q :: r) → (q, some p) ∈ t → WayI t x (p :: q :: r)
def WayE (t : List (Str × Option Str)) (x : Str) (l : List Str) : Prop := WayI t x l ∧ ∃ h r, l = h :: r ∧ (h, none) ∈ t
section
variable {t u : List (Str × Option Str)} {x : Str} {l k : List Str}
theorem WayI.ne (h : WayI t x l) : l ≠ [] := by cases h <;> simp
theorem WayI.to (h : WayI t x l) (s : ∀ y p, (y, p) ∈ t → (y, p) ∈ u) : WayI u x l := by
  induction h with
  | one => exact .one
  | up _ h ih => exact .up ih (s _ _ h)
theorem WayI.suf (nd : (t.map (·.1)).Nodup) (h : WayI t x l) : ∀ {k : List Str}, WayI t x k → k.length ≤ l.length → ∃ j, l = j ++ k := by
  induction h with
  | one =>
    intro k hk hl
    cases hk with
    | one => exact ⟨[], rfl⟩
    | up _ _ => simp at hl
  | @up q p r h hq ih =>
    intro k hk hl
    by_cases e : k.length ≤ (q :: r).length
    · obtain ⟨j, hj⟩ := ih hk e
      exact ⟨p :: j, by rw [hj]; rfl⟩
    · cases hk with
      | one => simp at e
      | @up q' p' r' h' hq' =>
        have l1 : (q' :: r').length = (q :: r).length := by simp at hl e ⊢; omega
        obtain ⟨j, hj⟩ := ih h' (by omega)
        have j0 : j = [] := by
          have := congrArg List.length hj
          rw [List.length_append, l1] at this
          exact List.length_eq_zero_iff.mp (by omega)
        subst j0
        have hj : q :: r = q' :: r' := hj
        cases hj
        have := key_uni nd hq hq'
        cases this
        exact ⟨[], rfl⟩
theorem WayE.uni (nd : (t.map (·.1)).Nodup) (h : WayE t x l) (g : WayE t x k) : l = k := by
  have key : ∀ {l k : List Str}, WayE t x l → WayE t x k → k.length ≤ l.length → l = k := fun {l k} h g hl => by
    obtain ⟨h1, _⟩ := h
    obtain ⟨g1, a, r, rfl, ha⟩ := g
    obtain ⟨j, rfl⟩ := h1.suf nd g1 hl
    cases e : j.reverse with
    | nil =>
      have : j = [] := by simpa using e
      rw [this]
      rfl
    | cons b c =>
      exfalso
      have ej : j = c.reverse ++ [b] := by
        have := congrArg List.reverse e
        rw [List.reverse_reverse] at this
        rw [this]
        simp
      rw [ej, List.append_assoc] at h1
      have : ∀ {i : List Str}, WayI t x (i ++ b :: a :: r) → (a, some b) ∈ t := fun {i} => by
        induction i with
        | nil => intro h; cases h with | up _ h => exact h
        | cons y ys ih =>
          intro h
          cases ys with
          | nil => cases h with | up h _ => exact ih h
          | cons z zs => cases h with | up h _ => exact ih h
      have := key_uni nd ha (this h1)
      cases this
  rcases Nat.le_total k.length l.length with hl | hl
  · exact key h g hl
  · exact (key g h hl).symm
theorem WayE.to (h : WayE t x l) (s : ∀ y p, (y, p) ∈ t → (y, p) ∈ u) : WayE u x l := by
  obtain ⟨h1, a, r, e, ha⟩ := h
  exact ⟨h1.to s, a, r, e, s _ _ ha⟩
end
section
variable {fs : List (Str × FileD)} {e x : Str} {t : List (Str × Option Str)} {l : List Str}
/-- the files of a way are different files of the view -/
theorem WayI.keys (T : TreeOf fs e t) (no : ∀ n, ¬ Rc fs n n) (hx : x ∈ t.map (·.1)) (h : WayI t x l) : l.Nodup ∧ (∀ y ∈ l, y ∈ t.map (·.1)) ∧ ∀ h0 r, l = h0 :: r → ∀ y ∈ r, Rc fs h0 y := by
  induction h with
  | one => exact ⟨by simp, fun y hy => by rw [List.mem_singleton.mp hy]; exact hx, fun h0 r e y hy => by cases e; cases hy⟩
  | @up q p r h hq ih =>
    obtain ⟨i1, i2, i3⟩ := ih
    have hr : p ∈ t.map (·.1) ∧ q ∈ rf fs p := by
      rcases T.par _ _ hq with ⟨_, z⟩ | ⟨q', z, h1, h2⟩
      · cases z
      · cases z
        exact ⟨h1, h2⟩
    have below : ∀ y ∈ q :: r, Rc fs p y := fun y hy => by
      rcases List.mem_cons.mp hy with rfl | hy
      · exact .one hr.2
      · exact Rc.trans (.one hr.2) (i3 q r rfl y hy)
    refine ⟨List.nodup_cons.mpr ⟨fun z => no p (below p z), i1⟩, fun y hy => ?_, fun h0 r' e y hy => ?_⟩
    · rcases List.mem_cons.mp hy with rfl | hy
      · exact hr.1
      · exact i2 y hy
    · cases e
      exact below y hy
end
end WP
namespace WP
open PySem L2 PySem.Spec PyProof.Rows Builtin
end WP
namespace WP
open PySem L2 PySem.Spec PyProof.Rows
structure Pn (P : Program) (w : World) (K : PySem.W.Frag) (mg : Str → Option Value) (base : Heap) (k : Nat) (C : Addr) (x : Str) (sp : Sp) : Prop where
  cl : Cls K C
  ex : ∃ p g fd, PropOf K C x p g ∧ FnOk P w K mg base CX0 k g fd ["self"] sp ∧ Binds K fd ["self"] []
theorem PropK.pn {P : Program} {w : World} {K : PySem.W.Frag} {mg : Str → Option Value} {base : Heap} {C : Addr} {x qual : Str} {st : Stmt} {k : Nat} {sp : Sp} (Z : PropK K C x st qual) (cl : Cls K C) (hok : ∀ g fd, Fun K x qual st g fd → FnOk P w K mg base CX0 k g fd ["self"] sp) (hbi : ∀ g fd, Fun K x qual st g fd → L2.Binds K fd ["self"] []) : Pn P w K mg base k C x sp := by
  obtain ⟨p, g, fd, hp, F⟩ := Z.ex
  exact ⟨cl, p, g, fd, hp, hok g fd F, hbi g fd F⟩
/-- the dict of a tree -/
def trD (t : List (Str × Option Str)) : List (Key × V) := t.map fun x => ((.inr x.1 : Key), optS x.2)
theorem TreesR.at {H : Hp} {kvs : List (Key × V)} {ts : List (Str × List (Str × Option Str))} (h : TreesR H kvs ts) : ∀ {i : Nat} {k : Key} {v : V}, kvs[i]? = some (k, v) → ∃ n t p, ts[i]? = some (n, t) ∧ k = .inr n ∧ v = .ref p ∧ H p = some (.dK (trD t)) := by
  induction h with
  | nil => intro i k v e; cases e
  | @cons n p t kvs ts a _ ih =>
    intro i k v e
    cases i with
    | zero => cases e; exact ⟨n, t, p, rfl, rfl, rfl, a⟩
    | succ j => exact ih e
theorem NoF.same {CN : Addr} {H H' : Hp} {E : XK} {x : V} (h : NoF CN H E x) (s : Same H H') : NoF CN H' E x := fun d H2 s2 hd h2 => h d H2 (s.trans s2) (by
  cases e : H d with
  | none => rfl
  | some u => rw [s _ _ e] at hd; cases hd) h2
end WP
namespace WP
open PySem L2 PySem.Spec PyProof.Rows
theorem MdOk.rnd {m : MdD} (h : MdOk m) (q : Str) : (rf m.files q).Nodup := by
  unfold rf
  cases e : lkF m.files q with
  | none => exact List.nodup_nil
  | some f => exact h.ok.rnd q f e
theorem MdOk.ekey {m : MdD} (h : MdOk m) {e : Str} (he : e ∈ m.entries) : e ∈ m.files.map (·.1) := by
  have h2 : (match lkF m.files e with | some f => !f.own | none => false) = true := h.epl e he
  cases e1 : lkF m.files e with
  | none => rw [e1] at h2; cases h2
  | some f => exact lkF_key.mpr ⟨f, e1⟩
theorem TreeOf.few {m : MdD} (h : MdOk m) {e : Str} (he : e ∈ m.entries) {t : List (Str × Option Str)} (T : TreeOf m.files e t) : t.length ≤ 8 := by
  have := pigeon (t.map (·.1)) (m.files.map (·.1)) T.nd fun y hy => by
    rcases (T.mem y).mp hy with rfl | r
    · exact h.ekey he
    · exact h.ok.two.rc_mem r
  rw [List.length_map, List.length_map] at this
  have := h.ok.few
  omega
/-- whether a file is in a view -/
def inW (fs : List (Str × FileD)) (e x : Str) : Prop := x = e ∨ Rc fs e x
/-- the views of some entries -/
inductive VwR (H : Hp) (fs : List (Str × FileD)) : List Addr → List Str → Prop
  | nil : VwR H fs [] []
  | cons {a : Addr} {e : Str} {ys : List Str} {as : List Addr} {es : List Str} : H a = some (.lst (ys.map V.str)) → (∀ x, x ∈ ys ↔ inW fs e x) → VwR H fs as es → VwR H fs (a :: as) (e :: es)
section
variable {H H' : Hp} {fs : List (Str × FileD)} {as bs : List Addr} {es gs : List Str}
theorem VwR.same (h : VwR H fs as es) (s : Same H H') : VwR H' fs as es := by
  induction h with
  | nil => exact .nil
  | cons a b _ ih => exact .cons (s _ _ a) b ih
theorem VwR.app (h : VwR H fs as es) (h' : VwR H fs bs gs) : VwR H fs (as ++ bs) (es ++ gs) := by
  induction h with
  | nil => exact h'
  | cons a b _ ih => exact .cons a b ih
theorem VwR.len (h : VwR H fs as es) : as.length = es.length := by
  induction h with
  | nil => rfl
  | cons _ _ _ ih => simp [ih]
theorem VwR.at (h : VwR H fs as es) : ∀ {i : Nat} {a : Addr}, as[i]? = some a → ∃ (e : Str) (ys : List Str), es[i]? = some e ∧ H a = some (.lst (ys.map V.str)) ∧ ∀ x, x ∈ ys ↔ inW fs e x := by
  induction h with
  | nil => intro i a e; cases e
  | @cons b e ys as es a1 a2 _ ih =>
    intro i a ha
    cases i with
    | zero => cases ha; exact ⟨e, ys, rfl, a1, a2⟩
    | succ j => exact ih ha
end
section
variable {s : SiteD} {m : MdD}
theorem SiteM.rf (h : SiteM s m) (ok : MdOk m) (n : Str) : WP.rf s.files n = WP.rf m.files n := by
  unfold WP.rf
  rw [h.lk ok]
theorem SiteM.rc (h : SiteM s m) (ok : MdOk m) {a b : Str} : Rc s.files a b ↔ Rc m.files a b := ⟨fun r => r.to fun n x hx => by rw [← h.rf ok]; exact hx, fun r => r.to fun n x hx => by rw [h.rf ok]; exact hx⟩
end
end WP
namespace WP
open PySem L2 PySem.Spec PyProof.Rows
end WP
namespace WP
open PySem L2 PySem.Spec PyProof.Rows
theorem MdOk.wkey {m : MdD} (ok : MdOk m) {e x : Str} (he : e ∈ m.entries) (h : inW m.files e x) : x ∈ m.files.map (·.1) := by
  rcases h with rfl | r
  · exact ok.ekey he
  · exact ok.ok.two.rc_mem r
end WP
namespace WP
open PySem L2 PySem.Spec PyProof.Rows
/-- models that tell the same references and entries -/
structure Alike (m m' : MdD) : Prop where
  rf : ∀ n, rf m'.files n = rf m.files n
  es : m'.entries = m.entries
  ks : m'.files.map (·.1) = m.files.map (·.1)
theorem Alike.rc {m m' : MdD} (h : Alike m m') {a b : Str} : Rc m'.files a b ↔ Rc m.files a b := ⟨fun r => r.to fun n x hx => by rw [← h.rf]; exact hx, fun r => r.to fun n x hx => by rw [h.rf]; exact hx⟩
end WP
namespace WP
open PySem L2 PySem.Spec PyProof.Rows
end WP
namespace WP
open PySem L2 PySem.Spec PyProof.Rows
inductive RdAll (h : Heap) : List Value → List PyData → Prop
  | nil : RdAll h [] []
  | cons {v : Value} {d : PyData} {as : List Addr} {vs : List Value} {ds : List PyData} : Reads h v d as → (d.hasDict = true → sysModules ∉ as) → RdAll h vs ds → RdAll h (v :: vs) (d :: ds)
theorem RdAll.k {prog : Program} {w : World} {h : Heap} : ∀ {vs : List Value} {ds : List PyData}, RdAll h vs ds → PyData.showableAll ds = true → (∀ t ∈ PyData.shownAll ds, t.length ≤ sizeLine) →
    ∃ as bs, ReadsAll h vs ds as ∧ ReadAtMost h (PyData.depthAll ds) bs ∧ ReprAllK prog w bs h (PyData.depthAll ds) vs (PyData.shownAll ds)
  | _, _, .nil, _, _ => ⟨[], [], .nil, (fun _ h => nomatch h), by simp only [PyData.shownAll]; exact .nil⟩
  | _, _, .cons (d := d) (ds := ds) r hsm rs, hs, hz => by
    have hs' : d.showable = true ∧ PyData.showableAll ds = true := by simpa [PyData.showableAll] using hs
    obtain ⟨b1, hb1, k1⟩ := ReprK.of_reads (prog := prog) (w := w) r hs'.1 hsm (hz _ (by simp only [PyData.shownAll]; exact List.mem_cons_self ..))
    obtain ⟨as2, b2, r2, hb2, k2⟩ := RdAll.k (prog := prog) (w := w) rs hs'.2 (fun t ht => hz t (by simp only [PyData.shownAll]; exact List.mem_cons_of_mem _ ht))
    refine ⟨_, b1 ++ b2, .cons r r2, ?_, ?_⟩
    · intro b hm
      simp only [PyData.depthAll]
      rcases List.mem_append.mp hm with hm | hm
      · obtain ⟨d', as', r', hd'⟩ := hb1 b hm
        exact ⟨d', as', r', Nat.le_trans hd' (Nat.le_max_left _ _)⟩
      · obtain ⟨d', as', r', hd'⟩ := hb2 b hm
        exact ⟨d', as', r', Nat.le_trans hd' (Nat.le_max_right _ _)⟩
    · simp only [PyData.depthAll, PyData.shownAll]
      exact .cons ((k1.more fun b hb => List.mem_append_left _ hb).level_le (Nat.le_max_left _ _)) (k2.more_le (fun b hb => List.mem_append_right _ hb) (Nat.le_max_right _ _))
end WP
namespace WP
open PySem L2 PySem.Spec PyProof.Rows LamX
def DlyB (a : Option Int) : Prop := ∀ i, a = some i → -1 ≤ i ∧ i ≤ 100000
theorem WayI.key {t : List (Str × Option Str)} {x : Str} {l : List Str} (h : WayI t x l) : l = [x] ∨ x ∈ t.map (·.1) := by
  induction h with
  | one => exact .inl rfl
  | @up q p r h hq ih =>
    rcases ih with z | z
    · cases z
      exact .inr (List.mem_map.mpr ⟨_, hq, rfl⟩)
    · exact .inr z
theorem WayE.key {t : List (Str × Option Str)} {x : Str} {l : List Str} (h : WayE t x l) : x ∈ t.map (·.1) := by
  obtain ⟨h1, a, r, e, ha⟩ := h
  rcases h1.key with z | z
  · rw [z] at e
    cases e
    exact List.mem_map.mpr ⟨_, ha, rfl⟩
  · exact z
end WP
namespace WP
open PySem L2 PySem.Spec PyProof.Rows
def ownF (fs : List (Str × FileD)) (n : Str) : Bool := match lkF fs n with | some f => f.own | none => false
/-- n takes x along: an own file takes what refers to it -/
inductive UpC (fs : List (Str × FileD)) (n : Str) : Str → Prop
  | refl : UpC fs n n
  | step {h x : Str} : UpC fs n h → ownF fs h = true → h ∈ rf fs x → UpC fs n x
def Clo (fs : List (Str × FileD)) (ns : List Str) (x : Str) : Prop := ∃ n ∈ ns, UpC fs n x
/-- closed: what refers to an own one of them is one of them -/
def Closed (fs : List (Str × FileD)) (found : List Str) : Prop := ∀ h ∈ found, ownF fs h = true → ∀ x, h ∈ rf fs x → x ∈ found
section
variable {fs : List (Str × FileD)} {ns found : List Str}
theorem Closed.up (hc : Closed fs found) {n x : Str} (hn : n ∈ found) (h : UpC fs n x) : x ∈ found := by
  induction h with
  | refl => exact hn
  | step _ h1 h2 ih => exact hc _ ih h1 _ h2
theorem clo_iff (hc : Closed fs found) (h1 : ∀ n ∈ ns, n ∈ found) (h2 : ∀ x ∈ found, Clo fs ns x) (x : Str) : x ∈ found ↔ Clo fs ns x := ⟨h2 x, fun ⟨n, hn, u⟩ => hc.up (h1 n hn) u⟩
theorem Clo.self {n : Str} (h : n ∈ ns) : Clo fs ns n := ⟨n, h, .refl⟩
theorem Clo.step {h x : Str} (c : Clo fs ns h) (h1 : ownF fs h = true) (h2 : h ∈ rf fs x) : Clo fs ns x := by
  obtain ⟨n, hn, u⟩ := c
  exact ⟨n, hn, .step u h1 h2⟩
/-- the program's search: found so far, line: those whose referrers are still to be looked at -/
structure CloI (fs : List (Str × FileD)) (ns found line : List Str) : Prop where
  nd : found.Nodup
  sub : ∀ n ∈ ns, n ∈ found
  cl : ∀ x ∈ found, Clo fs ns x
  ln : ∀ x ∈ line, x ∈ found
  dn : ∀ h ∈ found, h ∉ line → ownF fs h = true → ∀ x, h ∈ rf fs x → x ∈ found
theorem CloI.start (nd : ns.Nodup) : CloI fs ns ns ns := ⟨nd, fun _ h => h, fun _ h => .self h, fun _ h => h, fun h h1 h2 => absurd h1 h2⟩
theorem CloI.done (I : CloI fs ns found []) (x : Str) : x ∈ found ↔ Clo fs ns x := clo_iff (fun h hh ho x hx => I.dn h hh (fun z => by cases z) ho x hx) I.sub I.cl x
end
end WP
namespace WP
open PySem L2 PySem.Spec PyProof.Rows
/-- h is looked at; done: the names that were asked whether they refer to it -/
structure CloJ (fs : List (Str × FileD)) (ns found line : List Str) (h : Str) (done : List Str) : Prop where
  nd : found.Nodup
  lnd : line.Nodup
  sub : ∀ n ∈ ns, n ∈ found
  cl : ∀ x ∈ found, Clo fs ns x
  ln : ∀ x ∈ line, x ∈ found
  hf : h ∈ found
  ho : ownF fs h = true
  dn : ∀ y ∈ found, y ∉ line → y ≠ h → ownF fs y = true → ∀ x, y ∈ rf fs x → x ∈ found
  hd : ∀ x ∈ done, h ∈ rf fs x → x ∈ found
section
variable {fs : List (Str × FileD)} {ns found line done : List Str} {h x : Str}
theorem CloJ.start (I : CloI fs ns found (line ++ [h])) (lnd : (line ++ [h]).Nodup) (ho : ownF fs h = true) : CloJ fs ns found line h [] := by
  have l2 := List.nodup_append.mp lnd
  refine ⟨I.nd, l2.1, I.sub, I.cl, fun x hx => I.ln x (List.mem_append_left _ hx), I.ln h (List.mem_append_right _ (List.mem_singleton.mpr rfl)), ho, fun y hy h1 h2 => I.dn y hy (fun z => ?_), fun x hx => by cases hx⟩
  rcases List.mem_append.mp z with z | z
  · exact h1 z
  · exact h2 (List.mem_singleton.mp z)
theorem CloJ.add (J : CloJ fs ns found line h done) (hr : h ∈ rf fs x) (hx : x ∉ found) : CloJ fs ns (found ++ [x]) (line ++ [x]) h (done ++ [x]) := by
  refine ⟨?_, ?_, fun n hn => List.mem_append_left _ (J.sub n hn), fun y hy => ?_, fun y hy => ?_, List.mem_append_left _ J.hf, J.ho, fun y hy h1 h2 h3 z hz => ?_, fun y hy hr' => ?_⟩
  · rw [List.nodup_append]
    refine ⟨J.nd, by simp, fun a ha b hb e => hx ?_⟩
    rw [List.mem_singleton.mp hb] at e
    exact e ▸ ha
  · rw [List.nodup_append]
    refine ⟨J.lnd, by simp, fun a ha b hb e => hx ?_⟩
    rw [List.mem_singleton.mp hb] at e
    exact e ▸ J.ln a ha
  · rcases List.mem_append.mp hy with hy | hy
    · exact J.cl y hy
    · rw [List.mem_singleton.mp hy]
      exact (J.cl h J.hf).step J.ho hr
  · rcases List.mem_append.mp hy with hy | hy
    · exact List.mem_append_left _ (J.ln y hy)
    · exact List.mem_append_right _ hy
  · rcases List.mem_append.mp hy with hy | hy
    · exact List.mem_append_left _ (J.dn y hy (fun q => h1 (List.mem_append_left _ q)) h2 h3 z hz)
    · exact absurd (List.mem_append_right _ hy) h1
  · rcases List.mem_append.mp hy with hy | hy
    · exact List.mem_append_left _ (J.hd y hy hr')
    · exact List.mem_append_right _ hy
/-- a plain one is done at once -/
theorem CloI.plain (I : CloI fs ns found (line ++ [h])) (ho : ownF fs h = false) : CloI fs ns found line := ⟨I.nd, I.sub, I.cl, fun x hx => I.ln x (List.mem_append_left _ hx), fun y hy h1 h2 x hx => I.dn y hy (fun z => by
  rcases List.mem_append.mp z with z | z
  · exact h1 z
  · rw [List.mem_singleton.mp z, ho] at h2
    cases h2) h2 x hx⟩
theorem Clo.key {ks : List Str} (hk : ∀ x h, h ∈ rf fs x → x ∈ ks) (hs : ∀ n ∈ ns, n ∈ ks) (c : Clo fs ns x) : x ∈ ks := by
  obtain ⟨n, hn, u⟩ := c
  cases u with
  | refl => exact hs _ hn
  | step _ _ h => exact hk _ _ h
end
end WP
namespace WP
open PySem L2 PySem.Spec PyProof.Rows
end WP
namespace WP
open PySem L2 PySem.Spec PyProof.Rows
/-- some lists or tuples of texts -/
def KdsAt (H : Hp) (rs : List Addr) (kss : List (List Str)) : Prop := rs.length = kss.length ∧ ∀ (i : Nat) (r : Addr) (ks : List Str), rs[i]? = some r → kss[i]? = some ks → (H r = some (.lst (ks.map V.str)) ∨ H r = some (.tup (ks.map V.str)))
theorem KdsAt.same {H H' : Hp} {rs : List Addr} {kss : List (List Str)} (h : KdsAt H rs kss) (s : Same H H') : KdsAt H' rs kss :=
  ⟨h.1, fun i r ks h1 h2 => (h.2 i r ks h1 h2).imp (s _ _) (s _ _)⟩
/-- right kinds of a model -/
def KdsOk (m : MdD) (kss : List (List Str)) : Prop := 1 ≤ kss.length ∧ kss.length ≤ 5 ∧ ∀ ks ∈ kss, ks ≠ [] ∧ ks.Nodup ∧ ∀ n ∈ ks, n ∈ m.files.map (·.1)
/-- tuples of ascending texts, one for each -/
def TupsAt (H : Hp) (ts : List Addr) (kss : List (List Str)) : Prop := ts.length = kss.length ∧ ∀ (i : Nat) (r : Addr) (ks : List Str), ts[i]? = some r → kss[i]? = some ks → ∃ ys : List Str, ys.Perm ks ∧ sortedS ys = true ∧ H r = some (.tup (ys.map V.str))
theorem TupsAt.same {H H' : Hp} {ts : List Addr} {kss : List (List Str)} (h : TupsAt H ts kss) (s : Same H H') : TupsAt H' ts kss :=
  ⟨h.1, fun i r ks h1 h2 => (h.2 i r ks h1 h2).imp fun _ q => ⟨q.1, q.2.1, s _ _ q.2.2⟩⟩
theorem TupsAt.snoc {H : Hp} {ts : List Addr} {kss : List (List Str)} {i : Nat} {ks ys : List Str} {r : Addr} (h : TupsAt H ts (kss.take i)) (hk : kss[i]? = some ks) (h1 : ys.Perm ks) (h2 : sortedS ys = true) (h3 : H r = some (.tup (ys.map V.str))) : TupsAt H (ts ++ [r]) (kss.take (i + 1)) := by
  have il : i < kss.length := (List.getElem?_eq_some_iff.mp hk).1
  have e : kss.take (i + 1) = kss.take i ++ [ks] := by
    rw [List.take_add_one, hk]
    rfl
  have tl : ts.length = i := by
    rw [h.1, List.length_take]
    omega
  rw [e]
  refine ⟨by rw [List.length_append, List.length_append, h.1]; rfl, fun j q ls a b => ?_⟩
  by_cases hj : j < i
  · rw [List.getElem?_append_left (by omega)] at a
    rw [List.getElem?_append_left (by rw [List.length_take]; omega)] at b
    exact h.2 j q ls a b
  · have jl : j < (ts ++ [r]).length := (List.getElem?_eq_some_iff.mp a).1
    rw [List.length_append, List.length_singleton] at jl
    have ji : j = ts.length := by omega
    rw [ji, List.getElem?_append_right (Nat.le_refl _), Nat.sub_self] at a
    rw [ji, h.1, List.getElem?_append_right (Nat.le_refl _), Nat.sub_self] at b
    cases a
    cases b
    exact ⟨ys, h1, h2, h3⟩
end WP
namespace WP
open PySem L2 PySem.Spec PyProof.Rows
/-- tuples of texts, one for each list, that stand to it as R says -/
def RowAt (R : List Str → List Str → Prop) (H : Hp) (ts : List Addr) (kss : List (List Str)) : Prop := ts.length = kss.length ∧ ∀ (i : Nat) (r : Addr) (ks : List Str), ts[i]? = some r → kss[i]? = some ks → ∃ ys : List Str, R ks ys ∧ H r = some (.tup (ys.map V.str))
theorem RowAt.same {R : List Str → List Str → Prop} {H H' : Hp} {ts : List Addr} {kss : List (List Str)} (h : RowAt R H ts kss) (s : Same H H') : RowAt R H' ts kss :=
  ⟨h.1, fun i r ks h1 h2 => (h.2 i r ks h1 h2).imp fun _ q => ⟨q.1, s _ _ q.2⟩⟩
theorem RowAt.snoc {R : List Str → List Str → Prop} {H : Hp} {ts : List Addr} {kss : List (List Str)} {i : Nat} {ks ys : List Str} {r : Addr} (h : RowAt R H ts (kss.take i)) (hk : kss[i]? = some ks) (h1 : R ks ys) (h3 : H r = some (.tup (ys.map V.str))) : RowAt R H (ts ++ [r]) (kss.take (i + 1)) := by
  have il : i < kss.length := (List.getElem?_eq_some_iff.mp hk).1
  have e : kss.take (i + 1) = kss.take i ++ [ks] := by
    rw [List.take_add_one, hk]
    rfl
  have tl : ts.length = i := by
    rw [h.1, List.length_take]
    omega
  rw [e]
  refine ⟨by rw [List.length_append, List.length_append, h.1]; rfl, fun j q ls a b => ?_⟩
  by_cases hj : j < i
  · rw [List.getElem?_append_left (by omega)] at a
    rw [List.getElem?_append_left (by rw [List.length_take]; omega)] at b
    exact h.2 j q ls a b
  · have jl : j < (ts ++ [r]).length := (List.getElem?_eq_some_iff.mp a).1
    rw [List.length_append, List.length_singleton] at jl
    have ji : j = ts.length := by omega
    rw [ji, List.getElem?_append_right (Nat.le_refl _), Nat.sub_self] at a
    rw [ji, h.1, List.getElem?_append_right (Nat.le_refl _), Nat.sub_self] at b
    cases a
    cases b
    exact ⟨ys, h1, h3⟩
/-- the closure of some files, ascending -/
def CloR (m : MdD) (ks ys : List Str) : Prop := (∀ x, x ∈ ys ↔ Clo m.files ks x) ∧ ys.Nodup ∧ sortedS ys = true
end WP
namespace WP
open PySem L2 PySem.Spec PyProof.Rows
inductive All2 {α β : Type} (R : α → β → Prop) : List α → List β → Prop
  | nil : All2 R [] []
  | cons {a : α} {b : β} {as : List α} {bs : List β} : R a b → All2 R as bs → All2 R (a :: as) (b :: bs)
section
variable {α β : Type} {R S : α → β → Prop} {as cs : List α} {bs ds : List β}
theorem All2.imp (h : All2 R as bs) (f : ∀ a b, R a b → S a b) : All2 S as bs := by
  induction h with
  | nil => exact .nil
  | cons a _ ih => exact .cons (f _ _ a) ih
theorem All2.len (h : All2 R as bs) : as.length = bs.length := by
  induction h with
  | nil => rfl
  | cons _ _ ih => simp [ih]
theorem All2.app (h : All2 R as bs) (h' : All2 R cs ds) : All2 R (as ++ cs) (bs ++ ds) := by
  induction h with
  | nil => exact h'
  | cons a _ ih => exact .cons a ih
theorem All2.snoc {a : α} {b : β} (h : All2 R as bs) (r : R a b) : All2 R (as ++ [a]) (bs ++ [b]) := h.app (.cons r .nil)
theorem All2.at (h : All2 R as bs) : ∀ {i : Nat} {a : α}, as[i]? = some a → ∃ b, bs[i]? = some b ∧ R a b := by
  induction h with
  | nil => intro i a e; cases e
  | cons r _ ih =>
    intro i a e
    cases i with
    | zero => cases e; exact ⟨_, rfl, r⟩
    | succ j => exact ih e
theorem All2.at' (h : All2 R as bs) : ∀ {i : Nat} {b : β}, bs[i]? = some b → ∃ a, as[i]? = some a ∧ R a b := by
  induction h with
  | nil => intro i a e; cases e
  | cons r _ ih =>
    intro i a e
    cases i with
    | zero => cases e; exact ⟨_, rfl, r⟩
    | succ j => exact ih e
end
end WP
namespace WP
open PySem L2 PySem.Spec PyProof.Rows
structure Rp (d : PyData) (dep len : Nat) : Prop where
  sh : d.showable = true
  hd : d.hasDict = false
  dp : d.depth ≤ dep
  ln : d.shown.length ≤ len
theorem Rp.mono {d : PyData} {a b x y : Nat} (h : Rp d a x) (h1 : a ≤ b) (h2 : x ≤ y) : Rp d b y := ⟨h.sh, h.hd, by have := h.dp; omega, by have := h.ln; omega⟩
theorem rpAll {ds : List PyData} {dep len : Nat} (h : ∀ d ∈ ds, Rp d dep len) : PyData.showableAll ds = true ∧ PyData.hasDictAll ds = false ∧ PyData.depthAll ds ≤ dep ∧ piled (PyData.shownAll ds) ≤ ds.length * (len + 2) := by
  induction ds with
  | nil => exact ⟨rfl, rfl, Nat.zero_le _, by simp [PyData.shownAll, piled]⟩
  | cons d r ih =>
    obtain ⟨a1, a2, a3, a4⟩ := ih fun x hx => h x (List.mem_cons_of_mem _ hx)
    have b := h d List.mem_cons_self
    refine ⟨?_, ?_, ?_, ?_⟩
    · simp only [PyData.showableAll, a1, b.sh]; rfl
    · simp only [PyData.hasDictAll, a2, b.hd]; rfl
    · have := b.dp
      simp only [PyData.depthAll]
      omega
    · have := b.ln
      rw [PyData.shownAll, piled_cons, List.length_cons, Nat.add_mul]
      omega
theorem Rp.list {ds : List PyData} {dep len n : Nat} (h : ∀ d ∈ ds, Rp d dep len) (hn : ds.length ≤ n) : Rp (.list ds) (dep + 1) (n * (len + 2) + 2) := by
  obtain ⟨a1, a2, a3, a4⟩ := rpAll h
  refine ⟨by rw [PyData.showable]; exact a1, by rw [PyData.hasDict]; exact a2, by rw [PyData.depth]; omega, ?_⟩
  rw [PyData.shown]
  refine Nat.le_trans (listText_up _) ?_
  have := Nat.mul_le_mul_right (len + 2) hn
  omega
theorem Rp.tuple {ds : List PyData} {dep len n : Nat} (h : ∀ d ∈ ds, Rp d dep len) (hn : ds.length ≤ n) : Rp (.tuple ds) (dep + 1) (n * (len + 2) + 10) := by
  obtain ⟨a1, a2, a3, a4⟩ := rpAll h
  refine ⟨by rw [PyData.showable]; exact a1, by rw [PyData.hasDict]; exact a2, by rw [PyData.depth]; omega, ?_⟩
  rw [PyData.shown]
  have := Nat.mul_le_mul_right (len + 2) hn
  cases ds with
  | nil => simp only [PyData.shownAll]; exact Nat.le_trans (by decide) (Nat.le_add_left 10 _)
  | cons d r =>
    have h5 : PyData.shownAll (d :: r) ≠ [] := by simp [PyData.shownAll]
    have h6 := join_length_add _ h5
    unfold tupleText
    rw [Str.length_append, Str.length_append]
    have h7 : ("(" : Str).length = 1 := by decide
    have h8 : (Str.ofString (if (PyData.shownAll (d :: r)).length == 1 then ",)" else ")" : String)).length ≤ 2 := by split <;> decide
    rw [h7]
    omega
theorem Rp.d40 {d : PyData} {a b : Nat} (h : Rp d a b) (h1 : a ≤ 40 := by decide) : d.depth ≤ 40 := Nat.le_trans h.dp h1
theorem Rp.lnS {d : PyData} {a b : Nat} (h : Rp d a b) (h1 : b ≤ 100000 := by decide) : d.shown.length ≤ sizeLine := Nat.le_trans h.ln (by rw [sizeLine_eq]; omega)
theorem CloR.uniq {m : MdD} {ks ks' ys ys' : List Str} (h : CloR m ks ys) (h' : CloR m ks' ys') (e : ∀ x, x ∈ ks ↔ x ∈ ks') : ys = ys' := by
  refine sorted_uniq ?_ h.2.2 h'.2.2
  refine (List.perm_ext_iff_of_nodup h.2.1 h'.2.1).mpr fun x => ?_
  rw [h.1, h'.1]
  exact ⟨fun ⟨n, hn, u⟩ => ⟨n, (e n).mp hn, u⟩, fun ⟨n, hn, u⟩ => ⟨n, (e n).mpr hn, u⟩⟩
theorem CloR.key {m : MdD} (ok : MdOk m) {ks ys : List Str} (h : CloR m ks ys) (hk : ∀ n ∈ ks, n ∈ m.files.map (·.1)) : (∀ n ∈ ys, n ∈ m.files.map (·.1)) ∧ ys.length ≤ 8 := by
  have kx : ∀ x h, h ∈ rf m.files x → x ∈ m.files.map (·.1) := fun x h hh => by
    unfold rf at hh
    cases e : lkF m.files x with
    | none => rw [e] at hh; cases hh
    | some f => exact lkF_key.mpr ⟨f, e⟩
  have h1 : ∀ n ∈ ys, n ∈ m.files.map (·.1) := fun n hn => Clo.key kx hk ((h.1 n).mp hn)
  refine ⟨h1, ?_⟩
  have := pigeon ys (m.files.map (·.1)) h.2.1 h1
  rw [List.length_map] at this
  have := ok.ok.few
  omega
end WP
namespace WP
open PySem L2 PySem.Spec PyProof.Rows
theorem KdsAt.of {H : Hp} {rs : List Addr} {kss : List (List Str)} (h : All2 (fun r ks => H r = some (.lst (ks.map V.str)) ∨ H r = some (.tup (ks.map V.str))) rs kss) : KdsAt H rs kss :=
  ⟨h.len, fun i r ks a b => by
    obtain ⟨k, hk, e⟩ := h.at a
    rw [b] at hk
    cases hk
    exact e⟩
end WP
namespace WP
open PySem L2 PySem.Spec PyProof.Rows
def keyP : Key → PyData
  | .inl i => .int i
  | .inr z => .str z
mutual
inductive Dg (K : PySem.W.Frag) (H : Hp) : V → PyData → Prop
  | dp {v : V} {d : PyData} : Dp K H v d → d.hasDict = false → Dg K H v d
  | lst {a : Addr} {vs : List V} {ds : List PyData} : SqL K H a vs → DgAll K H vs ds → Dg K H (.ref a) (.list ds)
  | tup {a : Addr} {vs : List V} {ds : List PyData} : SqT K H a vs → DgAll K H vs ds → Dg K H (.ref a) (.tuple ds)
  | dct {a : Addr} {kvs : List (Key × V)} {ps : List (PyData × PyData)} : H a = some (.dK kvs) → ps.map (·.1) = kvs.map (fun p => keyP p.1) → DgAll K H (kvs.map (·.2)) (ps.map (·.2)) → Dg K H (.ref a) (.dict ps)
inductive DgAll (K : PySem.W.Frag) (H : Hp) : List V → List PyData → Prop
  | nil : DgAll K H [] []
  | cons {v : V} {d : PyData} {vs : List V} {ds : List PyData} : Dg K H v d → DgAll K H vs ds → DgAll K H (v :: vs) (d :: ds)
end
/-- what is known of an object that is shown -/
def ShK (P : Program) (w : World) (h : Heap) (u : Value) (d : PyData) : Prop := ∃ as bs, Reads h u d as ∧ ReadAtMost h d.depth bs ∧ ReprK P w bs h d.depth u d.shown
def ShAll (P : Program) (w : World) (h : Heap) (us : List Value) (ds : List PyData) : Prop := ∃ as bs, ReadsAll h us ds as ∧ ReadAtMost h (PyData.depthAll ds) bs ∧ ReprAllK P w bs h (PyData.depthAll ds) us (PyData.shownAll ds)
theorem ShAll.nil {P : Program} {w : World} {h : Heap} : ShAll P w h [] [] := ⟨[], [], .nil, (fun _ z => by cases z), by rw [PyData.shownAll]; exact .nil⟩
theorem ShAll.cons {P : Program} {w : World} {h : Heap} {u : Value} {d : PyData} {us : List Value} {ds : List PyData} (a : ShK P w h u d) (b : ShAll P w h us ds) : ShAll P w h (u :: us) (d :: ds) := by
  obtain ⟨as, bs, r, m, k⟩ := a
  obtain ⟨as2, bs2, r2, m2, k2⟩ := b
  have e : PyData.depthAll (d :: ds) = max d.depth (PyData.depthAll ds) := by rw [PyData.depthAll]
  refine ⟨as ++ as2, bs ++ bs2, .cons r r2, ?_, ?_⟩
  · rw [e]
    exact (m.mono (Nat.le_max_left _ _)).append (m2.mono (Nat.le_max_right _ _))
  · rw [e, PyData.shownAll]
    exact .cons ((k.more fun x hx => List.mem_append_left _ hx).level_le (Nat.le_max_left _ _)) (k2.more_le (fun x hx => List.mem_append_right _ hx) (Nat.le_max_right _ _))
theorem ShK.list {P : Program} {w : World} {h : Heap} {a : Addr} {o : Obj} {us : List Value} {n : Nat} {ds : List PyData} (h1 : h.get? a = some o) (h2 : o.cls = .type "list") (h3 : o.data = .seq us.toArray n) (b : ShAll P w h us ds) : ShK P w h (.ref a) (.list ds) := by
  obtain ⟨as, bs, r, m, k⟩ := b
  have rd : Reads h (.ref a) (.list ds) (a :: as) := .list h1 h2 h3 (by simpa using r)
  have e : (PyData.list ds).depth = PyData.depthAll ds + 1 := by rw [PyData.depth]
  have na : a ∉ bs := not_mem_of_deeper rd (by omega) m
  refine ⟨_, a :: bs, rd, ReadAtMost.cons rd (by omega) m, ?_⟩
  rw [e, PyData.shown]
  cases us with
  | nil =>
    cases r
    rw [PyData.shownAll, listText_nil]
    exact ReprK.listEmpty h1 h2 h3
  | cons x l => exact ReprK.list h1 h2 h3 na (by simpa using k.length_eq) fun i y q => k.item i y (by simpa using q)
theorem ShK.tuple {P : Program} {w : World} {h : Heap} {a : Addr} {o : Obj} {us : List Value} {n : Nat} {ds : List PyData} (h1 : h.get? a = some o) (h2 : o.cls = .type "tuple") (h3 : o.data = .seq us.toArray n) (b : ShAll P w h us ds) : ShK P w h (.ref a) (.tuple ds) := by
  obtain ⟨as, bs, r, m, k⟩ := b
  have rd : Reads h (.ref a) (.tuple ds) as := .tuple h1 h2 h3 (by simpa using r)
  have e : (PyData.tuple ds).depth = PyData.depthAll ds + 1 := by rw [PyData.depth]
  have na : a ∉ bs := not_mem_of_deeper rd (by omega) m
  refine ⟨_, a :: bs, rd, ReadAtMost.cons rd (by omega) m, ?_⟩
  rw [e, PyData.shown]
  exact ReprK.tuple h1 h2 h3 na (by simpa using k)
/-- a dict's entries, and what is known of its own object -/
theorem ShK.dict {P : Program} {w : World} {h : Heap} {a : Addr} {o : Obj} {es : Array DictEntry} {n : Nat} {ps : List (PyData × PyData)} (h1 : h.get? a = some o) (h2 : o.cls = .type "dict") (h3 : o.data = .dict es n) (hs : (a == sysModules) = false) (b1 : ShAll P w h (es.toList.map (·.key)) (ps.map (·.1))) (b2 : ShAll P w h (es.toList.map (·.val)) (ps.map (·.2))) :
    ShK P w h (.ref a) (.dict ps) ∧ ∃ bs, a ∉ bs ∧ ReprEntriesK P w bs h (PyData.depthKv ps) es.toList (PyData.shownKv ps) := by
  obtain ⟨as, bs, r, m, k⟩ := b1
  obtain ⟨as2, bs2, r2, m2, k2⟩ := b2
  have rd : Reads h (.ref a) (.dict ps) (a :: as ++ as2) := .dict h1 h2 h3 r r2
  have e : (PyData.dict ps).depth = PyData.depthKv ps + 1 := by rw [PyData.depth]
  have mm : ReadAtMost h (PyData.depthKv ps) (bs ++ bs2) := ReadAtMost.append (m.mono (PyData.depthAll_keys_le ps)) (m2.mono (PyData.depthAll_vals_le ps))
  have na : a ∉ bs ++ bs2 := not_mem_of_deeper rd (by omega) mm
  have ek := ReprEntriesK.of_two es.toList _ _ (k.more_le (fun x hx => List.mem_append_left bs2 hx) (PyData.depthAll_keys_le ps)) (k2.more_le (fun x hx => List.mem_append_right bs hx) (PyData.depthAll_vals_le ps))
  rw [← PyData.shownKv_eq] at ek
  refine ⟨⟨_, a :: (bs ++ bs2), rd, ReadAtMost.cons rd (by omega) mm, ?_⟩, _, na, ek⟩
  rw [e, PyData.shown]
  exact ReprK.dict h1 h2 h3 hs na ek
theorem key_sh {P : Program} {w : World} {h : Heap} : ∀ {es : List DictEntry} {vs : List (Key × Value)} {ps : List PyData}, Pairs (mixKind P w) es vs → ps = vs.map (fun p => keyP p.1) → PyData.showableAll ps = true → (∀ t ∈ PyData.shownAll ps, t.length ≤ sizeLine) → ShAll P w h (es.map (·.key)) ps
  | _, _, _, .nil, rfl, _, _ => .nil
  | e :: es, kv :: vs, _, .cons hk hv r, rfl, hs, hz => by
    have s2 : (keyP kv.1).showable = true ∧ PyData.showableAll (vs.map fun p => keyP p.1) = true := by simpa [PyData.showableAll] using hs
    have rk : Reads h e.key (keyP kv.1) [] := by
      have hk : keyIs kv.1 e.key = true := hk
      rcases keyIs_shape hk with ⟨i, t, e1, e2⟩ | ⟨x, t, e1, e2⟩
      · rw [e1, e2]
        exact .int i t
      · rw [e1, e2]
        exact .str x t
    have nd : (keyP kv.1).hasDict = false := by cases kv.1 <;> rfl
    obtain ⟨bs, hb, k⟩ := ReprK.of_reads (prog := P) (w := w) rk s2.1 (fun z => by rw [nd] at z; cases z) (hz _ (by rw [List.map_cons, PyData.shownAll]; exact List.mem_cons_self))
    exact .cons ⟨_, bs, rk, hb, k⟩ (key_sh r rfl s2.2 fun t ht => hz t (by rw [List.map_cons, PyData.shownAll]; exact List.mem_cons_of_mem _ ht))
theorem kv_keys {kvs : List (Key × V)} {vs : List (Key × Value)} (r : KV kvs vs) : kvs.map (fun p => keyP p.1) = vs.map (fun p => keyP p.1) := by
  unfold KV at r
  induction r with
  | nil => rfl
  | cons a _ ih => rw [List.map_cons, List.map_cons, ih, a.1]
theorem kv_vals {kvs : List (Key × V)} {vs : List (Key × Value)} (r : KV kvs vs) : Vals (kvs.map (·.2)) (vs.map (·.2)) := by
  unfold KV at r
  induction r with
  | nil => exact .nil
  | cons a _ ih => exact .cons a.2 ih
theorem pairs_vals {P : Program} {w : World} : ∀ {es : List DictEntry} {vs : List (Key × Value)}, Pairs (mixKind P w) es vs → es.map (·.val) = vs.map (·.2)
  | _, _, .nil => rfl
  | _ :: _, _ :: _, .cons _ hv r => by rw [List.map_cons, List.map_cons, hv, pairs_vals r]
section
variable {X : Cx} {pins : List (Addr × Obj)} {σ : L2.St} {H : Hp} {s : Shared}
mutual
theorem Dg.sh (I : Inv X pins σ H s) : ∀ {v : V} {d : PyData} {u : Value}, Dg X.K H v d → RelV v u → d.showable = true → d.shown.length ≤ sizeLine → ShK X.prog X.w s.heap u d
  | _, _, _, .dp hd nd, r, hs, hz => by
    obtain ⟨as, rd⟩ := Dp.reads I _ _ _ hd r
    obtain ⟨bs, hb, k⟩ := ReprK.of_reads (prog := X.prog) (w := X.w) rd hs (fun z => by rw [nd] at z; cases z) hz
    exact ⟨as, bs, rd, hb, k⟩
  | _, _, _, .lst (a := a) (ds := ds) hl h, r, hs, hz => by
    cases r
    obtain ⟨its, rv, pl, _⟩ := I.list hl
    obtain ⟨o, ho, hc, n, hd⟩ := pl.isList
    rw [PyData.shown] at hz
    exact ShK.list ho hc hd (DgAll.sh I h rv (by rw [PyData.showable] at hs; exact hs) fun t ht => Nat.le_trans (listText_mem_le ht) hz)
  | _, _, _, .tup (a := a) (ds := ds) hl h, r, hs, hz => by
    cases r
    obtain ⟨its, rv, ⟨o, ho, hc, n, hd⟩, _⟩ := I.tuple hl
    rw [PyData.shown] at hz
    exact ShK.tuple ho hc hd (DgAll.sh I h rv (by rw [PyData.showable] at hs; exact hs) fun t ht => Nat.le_trans (tupleText_mem_le ht) hz)
  | _, _, _, .dct (a := a) (kvs := kvs) (ps := ps) ha hk h, r, hs, hz => by
    cases r
    obtain ⟨_, hn, vs, kv, o, es, ep, ho, ed, hd, _, hp, _⟩ := L2.dk_of I.hok ha
    rw [PyData.shown] at hz
    rw [PyData.showable] at hs
    obtain ⟨s1, s2⟩ := PyData.showableKv_split ps hs
    have zk : ∀ t ∈ PyData.shownAll (ps.map (·.1)), t.length ≤ sizeLine := fun t ht => by
      obtain ⟨p, hp, hl⟩ := PyData.shownKv_key_le ps t ht
      exact Nat.le_trans hl (Nat.le_trans (dictText_mem_le hp) hz)
    have zv : ∀ t ∈ PyData.shownAll (ps.map (·.2)), t.length ≤ sizeLine := fun t ht => by
      obtain ⟨p, hp, hl⟩ := PyData.shownKv_val_le ps t ht
      exact Nat.le_trans hl (Nat.le_trans (dictText_mem_le hp) hz)
    refine (ShK.dict ho ed.1 hd hn (key_sh hp (by rw [hk, kv_keys kv]) s1 zk) ?_).1
    rw [pairs_vals hp]
    exact DgAll.sh I h (kv_vals kv) s2 zv
theorem DgAll.sh (I : Inv X pins σ H s) : ∀ {vs : List V} {ds : List PyData} {us : List Value}, DgAll X.K H vs ds → Vals vs us → PyData.showableAll ds = true → (∀ t ∈ PyData.shownAll ds, t.length ≤ sizeLine) → ShAll X.prog X.w s.heap us ds
  | _, _, _, .nil, .nil, _, _ => .nil
  | _, _, _, .cons (d := d) (ds := ds) h t, .cons r rs, hs, hz => by
    have hs' : d.showable = true ∧ PyData.showableAll ds = true := by simpa [PyData.showableAll] using hs
    exact .cons (Dg.sh I h r hs'.1 (hz _ (by rw [PyData.shownAll]; exact List.mem_cons_self))) (DgAll.sh I t rs hs'.2 fun q hq => hz q (by rw [PyData.shownAll]; exact List.mem_cons_of_mem _ hq))
end
end
def rReprG (K : PySem.W.Frag) : List V → Hp → VK → Prop := fun xs H Q => ∃ (v : V) (d : PyData), xs = [v] ∧ Dg K H v d ∧ d.showable = true ∧ d.depth ≤ 40 ∧ d.shown.length ≤ sizeLine ∧ Q (.str d.shown) H
/-- repr of any data of lists, tuples, dicts -/
theorem call_reprG {X : Cx} (hg : X.A.guards = some []) (hu : X.A.units + 64 < cLine) : CallR X (.builtin "repr") (rReprG X.K) := by
  intro pins s σ H xs us Q I r h
  obtain ⟨v, d, rfl, hd, hs, dep, hz, q⟩ := h
  obtain ⟨u, rfl, ru⟩ := vals1 r
  cases hd with
  | dp h1 h2 => exact call_reprD hg hu pins s σ H [v] [u] Q I (.cons ru .nil) ⟨v, d, rfl, h1, hs, h2, dep, hz, q⟩
  | @lst a vs ds hl h =>
    cases ru
    obtain ⟨its, rv, pl, _⟩ := I.list hl
    obtain ⟨o, ho, hc, n, hd⟩ := pl.isList
    rw [PyData.shown] at hz q
    rw [PyData.depth] at dep
    obtain ⟨as, bs, r2, m, k⟩ := DgAll.sh I h rv (by rw [PyData.showable] at hs; exact hs) fun t ht => Nat.le_trans (listText_mem_le ht) hz
    have rd : Reads s.heap (.ref a) (.list ds) (a :: as) := .list ho hc hd (by simpa using r2)
    have na : a ∉ bs := not_mem_of_deeper rd (by rw [PyData.depth]; omega) m
    cases its with
    | nil =>
      cases r2
      rw [PyData.shownAll, listText_nil] at q
      have h0 : Dp X.K H (.ref a) (.list []) := by
        cases rv
        exact .lst hl .nil
      have e0 : (PyData.list []).shown = ("[]" : Str) := by decide +kernel
      refine call_reprD hg hu pins s σ H [.ref a] [.ref a] Q I (.cons rfl .nil) ⟨.ref a, .list [], rfl, h0, by decide +kernel, by decide +kernel, by decide +kernel, by decide +kernel, ?_⟩
      rw [e0]
      exact q
    | cons x l =>
      refine call_repr_slot (by omega) (show s.TypeIs (.ref a) "list" from ⟨o, ho, hc⟩) F.slot_list_repr.toG ?_
      exact call_list_reprK ho hc hd na (by simpa using k.length_eq) (fun i y e => k.item i y (by simpa using e)) (A := X.A.in1) hg (fun b _ => Clear.nil b) (by show X.A.units + 1 + (PyData.depthAll ds + 1) < cLine; omega) (fun _ _ e => e) (fun h' u tk hk => ⟨_, _, rfl, .str _, H, I.kept (t' := tk) hk, ⟨_, rfl⟩, q⟩) hz
  | @tup a vs ds hl h =>
    cases ru
    obtain ⟨its, rv, ⟨o, ho, hc, n, hd⟩, _⟩ := I.tuple hl
    rw [PyData.shown] at hz q
    rw [PyData.depth] at dep
    obtain ⟨as, bs, r2, m, k⟩ := DgAll.sh I h rv (by rw [PyData.showable] at hs; exact hs) fun t ht => Nat.le_trans (tupleText_mem_le ht) hz
    have rd : Reads s.heap (.ref a) (.tuple ds) as := .tuple ho hc hd (by simpa using r2)
    have na : a ∉ bs := not_mem_of_deeper rd (by rw [PyData.depth]; omega) m
    refine call_repr_slot (by omega) (show s.TypeIs (.ref a) "tuple" from ⟨o, ho, hc⟩) F.slot_tuple_repr ?_
    exact call_tuple_reprK ho hc hd na (by simpa using k) (A := X.A.in1) hg (fun b _ => Clear.nil b) (by show X.A.units + 1 + (PyData.depthAll ds + 1) < cLine; omega) (fun _ _ e => e) (fun h' u tk hk => ⟨_, _, rfl, .str _, H, I.kept (t' := tk) hk, ⟨_, rfl⟩, q⟩) hz
  | @dct a kvs ps ha hk h =>
    cases ru
    obtain ⟨_, hn, vs, kv, o, es, ep, ho, ed, hd, _, hp, _⟩ := L2.dk_of I.hok ha
    rw [PyData.shown] at hz q
    rw [PyData.showable] at hs
    rw [PyData.depth] at dep
    obtain ⟨s1, s2⟩ := PyData.showableKv_split ps hs
    have zk : ∀ t ∈ PyData.shownAll (ps.map (·.1)), t.length ≤ sizeLine := fun t ht => by
      obtain ⟨p, hp, hl⟩ := PyData.shownKv_key_le ps t ht
      exact Nat.le_trans hl (Nat.le_trans (dictText_mem_le hp) hz)
    have zv : ∀ t ∈ PyData.shownAll (ps.map (·.2)), t.length ≤ sizeLine := fun t ht => by
      obtain ⟨p, hp, hl⟩ := PyData.shownKv_val_le ps t ht
      exact Nat.le_trans hl (Nat.le_trans (dictText_mem_le hp) hz)
    have b2 := DgAll.sh I h (kv_vals kv) s2 zv
    rw [← pairs_vals hp] at b2
    obtain ⟨_, bs, na, ek⟩ := ShK.dict ho ed.1 hd hn (key_sh hp (by rw [hk, kv_keys kv]) s1 zk) b2
    refine call_repr_slot (by omega) (show s.TypeIs (.ref a) "dict" from ⟨o, ho, ed.1⟩) F.slot_dict_repr ?_
    exact call_dict_reprK ho ed.1 hd hn na ek (A := X.A.in1) hg (fun b _ => Clear.nil b) (by show X.A.units + 1 + (PyData.depthKv ps + 1) < cLine; omega) (fun _ _ e => e) (fun h' u tk hk => ⟨_, _, rfl, .str _, H, I.kept (t' := tk) hk, ⟨_, rfl⟩, q⟩) hz
end WP
namespace WP
open PySem L2 PySem.Spec PyProof.Rows
section
variable {P : Program} {w : World} {A : Around} {R : Result → Shared → Prop} {s : Shared} {kx vx t0 i0 t1 i1 : Expr} {f0 f1 : List Expr} {sc : Scope} {pos : Pos} {it : Value} {D : Addr} {env : Env}
abbrev nb (P : Program) (w : World) (A : Around) (env : Env) (R : Result → Shared → Prop) : Value → Shared → Prop := notedBy (model P w) A env fun e s' => R (.error e) s'
end
end WP
namespace WP
open PySem L2 PySem.Spec PyProof.Rows
end WP
namespace WP
open PySem L2 PySem.Spec PyProof.Rows
/-- the place of the last plain file -/
def RootI (m : MdD) (w : List Str) (i : Nat) : Prop := ∃ x, w[i]? = some x ∧ ownF m.files x = false ∧ ∀ (j : Nat) y, i < j → w[j]? = some y → ownF m.files y = true
theorem RootI.uniq {m : MdD} {w : List Str} {i j : Nat} (h : RootI m w i) (g : RootI m w j) : i = j := by
  obtain ⟨x, h1, h2, h3⟩ := h
  obtain ⟨y, g1, g2, g3⟩ := g
  rcases Nat.lt_trichotomy i j with z | z | z
  · have := h3 j y z g1
    rw [g2] at this
    cases this
  · exact z
  · have := g3 i x z h1
    rw [h2] at this
    cases this
structure Rg (d : PyData) (dep len : Nat) : Prop where
  sh : d.showable = true
  dp : d.depth ≤ dep
  ln : d.shown.length ≤ len
theorem Rg.d40 {d : PyData} {a b : Nat} (h : Rg d a b) (h1 : a ≤ 40 := by decide) : d.depth ≤ 40 := Nat.le_trans h.dp h1
theorem Rg.lnS {d : PyData} {a b : Nat} (h : Rg d a b) (h1 : b ≤ 100000 := by decide) : d.shown.length ≤ sizeLine := Nat.le_trans h.ln (by rw [sizeLine_eq]; omega)
theorem Rp.rg {d : PyData} {a b : Nat} (h : Rp d a b) : Rg d a b := ⟨h.sh, h.dp, h.ln⟩
theorem Rg.mono {d : PyData} {a b x y : Nat} (h : Rg d a x) (h1 : a ≤ b) (h2 : x ≤ y) : Rg d b y := ⟨h.sh, by have := h.dp; omega, by have := h.ln; omega⟩
theorem rgKv {ps : List (PyData × PyData)} {dep len : Nat} (h1 : ∀ p ∈ ps, Rg p.1 dep len) (h2 : ∀ p ∈ ps, Rg p.2 dep len) : PyData.showableKv ps = true ∧ PyData.depthKv ps ≤ dep ∧ piled (PyData.shownKv ps) ≤ ps.length * (2 * len + 4) := by
  induction ps with
  | nil => exact ⟨by simp [PyData.showableKv], by simp [PyData.depthKv], by simp [PyData.shownKv, piled]⟩
  | cons p r ih =>
    obtain ⟨a1, a3, a4⟩ := ih (fun x hx => h1 x (List.mem_cons_of_mem _ hx)) (fun x hx => h2 x (List.mem_cons_of_mem _ hx))
    have b := h1 p List.mem_cons_self
    have c := h2 p List.mem_cons_self
    obtain ⟨k, v⟩ := p
    have b : Rg k dep len := b
    have c : Rg v dep len := c
    refine ⟨?_, ?_, ?_⟩
    · simp only [PyData.showableKv, a1, b.sh, c.sh]; rfl
    · have := b.dp
      have := c.dp
      simp only [PyData.depthKv]
      omega
    · have := b.ln
      have := c.ln
      have e : (": " : Str).length = 2 := by decide
      rw [PyData.shownKv, piled_cons, List.length_cons, Nat.add_mul, Str.length_append, Str.length_append, e]
      omega
theorem Rg.dict {ps : List (PyData × PyData)} {dep len n : Nat} (h1 : ∀ p ∈ ps, Rg p.1 dep len) (h2 : ∀ p ∈ ps, Rg p.2 dep len) (hn : ps.length ≤ n) : Rg (.dict ps) (dep + 1) (n * (2 * len + 4) + 2) := by
  obtain ⟨a1, a3, a4⟩ := rgKv h1 h2
  refine ⟨by rw [PyData.showable]; exact a1, by rw [PyData.depth]; omega, ?_⟩
  rw [PyData.shown]
  have := Nat.mul_le_mul_right (2 * len + 4) hn
  unfold dictText
  rw [Str.length_append, Str.length_append]
  have h7 : ("{" : Str).length = 1 := by decide
  have h8 : ("}" : Str).length = 1 := by decide
  by_cases he : PyData.shownKv ps = []
  · rw [he]
    have : (Str.join ", " []).length = 0 := by decide
    omega
  · have h6 := join_length_add _ he
    omega
def staysK (ss : List (Str × Option Int)) : List (Key × V) := ss.map fun p => (.inr p.1, optI p.2)
end WP
namespace WP
open PySem L2 PySem.Spec PyProof.Rows
end WP
namespace WP
open PySem L2 PySem.Spec PyProof.Rows
def nnB (s : SiteD) : List V → List V → Option V
  | _, [] => none
  | acc, x :: r => if (!hasF s x || decide (x ∈ acc)) = true then some x else nnB s (acc ++ [x]) r
theorem hasF_str {s : SiteD} {x : V} (h : hasF s x = true) : ∃ n, x = .str n := by
  cases x with
  | str n => exact ⟨n, rfl⟩
  | _ => cases h
/-- right so far: texts, all different, all files -/
def PreOk (s : SiteD) (acc : List V) : Prop := ∃ ns : List Str, acc = ns.map V.str ∧ ns.Nodup ∧ ∀ n ∈ ns, hasF s (.str n) = true
theorem PreOk.nil {s : SiteD} : PreOk s [] := ⟨[], rfl, List.nodup_nil, fun n h => by cases h⟩
theorem PreOk.snoc {s : SiteD} {acc : List V} {x : V} (h : PreOk s acc) (hx : (!hasF s x || decide (x ∈ acc)) = false) : PreOk s (acc ++ [x]) := by
  obtain ⟨ns, rfl, h2, h3⟩ := h
  rw [Bool.or_eq_false_iff] at hx
  have hf : hasF s x = true := by simpa using hx.1
  obtain ⟨n, rfl⟩ := hasF_str hf
  have hn : n ∉ ns := fun z => by
    have := of_decide_eq_false hx.2
    exact this (List.mem_map.mpr ⟨n, z, rfl⟩)
  refine ⟨ns ++ [n], by rw [List.map_append]; rfl, List.nodup_append.mpr ⟨h2, by simp, fun a ha b hb => ?_⟩, fun a ha => ?_⟩
  · rw [List.mem_singleton.mp hb]
    exact fun e => hn (e ▸ ha)
  · rcases List.mem_append.mp ha with z | z
    · exact h3 a z
    · rw [List.mem_singleton.mp z]
      exact hf
end WP
namespace WP
open PySem L2 PySem.Spec PyProof.Rows
theorem WayI.par {t : List (Str × Option Str)} {x : Str} {l : List Str} (h : WayI t x l) : ∀ {j : Nat} {p a : Str}, l[j]? = some p → l[j + 1]? = some a → (a, some p) ∈ t := by
  induction h with
  | one => intro j p a h1 h2; cases j <;> cases h2
  | up _ hp ih =>
    intro j p a h1 h2
    cases j with
    | zero =>
      cases h1
      cases h2
      exact hp
    | succ j => exact ih h1 h2
theorem WayI.last {t : List (Str × Option Str)} {x : Str} {l : List Str} (h : WayI t x l) : l[l.length - 1]? = some x := by
  induction h with
  | one => rfl
  | @up a r p hw _ ih =>
    simp only [List.length_cons, Nat.add_sub_cancel] at ih ⊢
    rw [List.getElem?_cons_succ]
    exact ih
def RootOf (m : MdD) (e n x : Str) : Prop := ∃ t l i, TreeOf m.files e t ∧ WayE t n l ∧ RootI m l.dropLast i ∧ l.dropLast[i]? = some x
def Rts (m : MdD) (es : List Str) (n x : Str) : Prop := ∃ e ∈ es, inW m.files e n ∧ RootOf m e n x
theorem RootOf.uniq {m : MdD} (ok : MdOk m) {e n x : Str} {t : List (Str × Option Str)} {l : List Str} {i : Nat} {y : Str} (h : RootOf m e n x) (T : TreeOf m.files e t) (W : WayE t n l) (R : RootI m l.dropLast i) (hy : l.dropLast[i]? = some y) : x = y := by
  obtain ⟨t', l', i', T', W', R', hx⟩ := h
  have el := WayE.uni T.nd (W'.to fun x p => (T'.iff T ok.no x p).mp) W
  subst el
  rw [R'.uniq R, hy] at hx
  exact (Option.some.inj hx).symm
def RtsL (m : MdD) (n : Str) (ys : List Str) : Prop := (∀ y, y ∈ ys ↔ ownF m.files n = true ∧ Rts m m.entries n y) ∧ ys.Nodup ∧ sortedS ys = true
theorem RtsL.uniq {m : MdD} {n : Str} {ys zs : List Str} (h : RtsL m n ys) (g : RtsL m n zs) : ys = zs := by
  refine sorted_uniq ((List.perm_ext_iff_of_nodup h.2.1 g.2.1).mpr fun x => ?_) h.2.2 g.2.2
  rw [h.1, g.1]
theorem Rts.key {m : MdD} (ok : MdOk m) {es : List Str} (hs : ∀ e ∈ es, e ∈ m.entries) {n x : Str} (h : Rts m es n x) : x ∈ m.files.map (·.1) := by
  obtain ⟨e, he, hn, t, l, i, T, W, _, hx⟩ := h
  have : x ∈ l := (List.dropLast_sublist _).subset (List.mem_of_getElem? hx)
  exact ok.wkey (hs e he) ((T.mem x).mp ((W.1.keys T ok.no W.key).2.1 x this))
end WP
namespace WP
open PySem L2 PySem.Spec PyProof.Rows LamX
mutual
inductive Vd (H : Hp) : V → PyData → Prop
  | non : Vd H .non .none
  | bl (b : Bool) : Vd H (.bl b) (.bool b)
  | int (i : Int) : Vd H (.int i) (.int i)
  | str (x : Str) : Vd H (.str x) (.str x)
  | lst {a : Addr} {vs : List V} {ds : List PyData} : H a = some (.lst vs) → VdAll H vs ds → Vd H (.ref a) (.list ds)
  | tup {a : Addr} {vs : List V} {ds : List PyData} : H a = some (.tup vs) → VdAll H vs ds → Vd H (.ref a) (.tuple ds)
  | dct {a : Addr} {kvs : List (Key × V)} {ps : List (PyData × PyData)} : H a = some (.dK kvs) → ps.map (·.1) = kvs.map (fun p => keyP p.1) → VdAll H (kvs.map (·.2)) (ps.map (·.2)) → Vd H (.ref a) (.dict ps)
inductive VdAll (H : Hp) : List V → List PyData → Prop
  | nil : VdAll H [] []
  | cons {v : V} {d : PyData} {vs : List V} {ds : List PyData} : Vd H v d → VdAll H vs ds → VdAll H (v :: vs) (d :: ds)
end
mutual
theorem Vd.ext {H H' : Hp} (s : ExtN H H') : ∀ {v : V} {d : PyData}, Vd H v d → Vd H' v d
  | _, _, .non => .non
  | _, _, .bl b => .bl b
  | _, _, .int i => .int i
  | _, _, .str x => .str x
  | _, _, .lst h t => .lst (s _ _ h fun _ z => by cases z) (VdAll.ext s t)
  | _, _, .tup h t => .tup (s _ _ h fun _ z => by cases z) (VdAll.ext s t)
  | _, _, .dct h k t => .dct (s _ _ h fun _ z => by cases z) k (VdAll.ext s t)
theorem VdAll.ext {H H' : Hp} (s : ExtN H H') : ∀ {vs : List V} {ds : List PyData}, VdAll H vs ds → VdAll H' vs ds
  | _, _, .nil => .nil
  | _, _, .cons h t => .cons (Vd.ext s h) (VdAll.ext s t)
end
theorem Vd.same {H H' : Hp} {v : V} {d : PyData} (h : Vd H v d) (s : Same H H') : Vd H' v d := h.ext (.of s)
theorem VdAll.same {H H' : Hp} {v : List V} {d : List PyData} (h : VdAll H v d) (s : Same H H') : VdAll H' v d := h.ext (.of s)
mutual
theorem Vd.dg {K : PySem.W.Frag} {H : Hp} : ∀ {v : V} {d : PyData}, Vd H v d → Dg K H v d
  | _, _, .non => .dp .non rfl
  | _, _, .bl b => .dp (.bl b) rfl
  | _, _, .int i => .dp (.int i) rfl
  | _, _, .str x => .dp (.str x) rfl
  | _, _, .lst h t => .lst (SqL.of h) (VdAll.dg t)
  | _, _, .tup h t => .tup (SqT.of h) (VdAll.dg t)
  | _, _, .dct h k t => .dct h k (VdAll.dg t)
theorem VdAll.dg {K : PySem.W.Frag} {H : Hp} : ∀ {vs : List V} {ds : List PyData}, VdAll H vs ds → DgAll K H vs ds
  | _, _, .nil => .nil
  | _, _, .cons h t => .cons (Vd.dg h) (VdAll.dg t)
end
def kdD : PyData → Kd
  | .bool _ => .bl | .int _ => .int | .str _ => .str | .list _ => .lst | .tuple _ => .tup | .dict _ => .dct | _ => .non
theorem Vd.any {K : PySem.W.Frag} {H : Hp} {v : V} {d : PyData} (h : Vd H v d) : Any K H v (kdD d) := by
  cases h with
  | non => exact .non
  | bl b => exact .bl b
  | int i => exact .int i
  | str x => exact .str x
  | lst h _ => exact .lst h
  | tup h _ => exact .tup h
  | dct h _ _ => exact .dct h
theorem VdAll.app {H : Hp} : ∀ {vs us : List V} {ds es : List PyData}, VdAll H vs ds → VdAll H us es → VdAll H (vs ++ us) (ds ++ es)
  | [], _, _, _, .nil, h => h
  | _ :: _, _, _, _, .cons a b, h => .cons a (VdAll.app b h)
theorem VdAll.one {H : Hp} {v : V} {d : PyData} (h : Vd H v d) : VdAll H [v] [d] := .cons h .nil
theorem VdAll.snoc {H : Hp} {vs : List V} {ds : List PyData} {v : V} {d : PyData} (h : VdAll H vs ds) (g : Vd H v d) : VdAll H (vs ++ [v]) (ds ++ [d]) := h.app (.one g)
theorem VdAll.at {H : Hp} {vs : List V} {ds : List PyData} (h : VdAll H vs ds) : ∀ {i : Nat} {v : V}, vs[i]? = some v → ∃ d, ds[i]? = some d ∧ Vd H v d := by
  induction vs generalizing ds with
  | nil => intro i v e; cases e
  | cons x r ih =>
    cases h with
    | cons a b =>
      intro i v e
      cases i with
      | zero => cases e; exact ⟨_, rfl, a⟩
      | succ j => exact ih b e
theorem VdAll.len {H : Hp} {vs : List V} {ds : List PyData} (h : VdAll H vs ds) : vs.length = ds.length := by
  induction vs generalizing ds with
  | nil => cases h; rfl
  | cons x r ih =>
    cases h with
    | cons a b => rw [List.length_cons, List.length_cons, ih b]
theorem VdAll.init {H : Hp} : ∀ {vs : List V} {v : V} {ds : List PyData} {d : PyData}, VdAll H (vs ++ [v]) (ds ++ [d]) → VdAll H vs ds ∧ Vd H v d
  | [], v, [], d, h => by cases h with | cons a b => exact ⟨.nil, a⟩
  | [], v, e :: ds, d, h => by
    have := h.len
    simp at this
  | x :: vs, v, [], d, h => by
    have := h.len
    simp at this
  | x :: vs, v, e :: ds, d, h => by
    cases h with
    | cons a b => exact ⟨.cons a b.init.1, b.init.2⟩
/-- values that are being listed, while draws stand -/
structure Vs (d w c : Addr) (B : Int) (H0 H : Hp) (vs : List V) (es : List PyData) : Prop where
  ds : Ds d w c B H0 H
  al : VdAll (hd2 d w H) vs es
section
variable {d w c p : Addr} {B : Int} {H0 H H' : Hp} {vs : List V} {es : List PyData}
theorem Vs.start (h : Dr d w c B H) : Vs d w c B H H [] [] := ⟨⟨h, Same.refl _⟩, .nil⟩
theorem Vs.of (h : Ds d w c B H0 H) : Vs d w c B H0 H [] [] := ⟨h, .nil⟩
theorem Vs.add {v : V} {e : PyData} (O : Vs d w c B H0 H vs es) (h : Vd (hd2 d w H) v e) : Vs d w c B H0 H (vs ++ [v]) (es ++ [e]) := ⟨O.ds, O.al.snoc h⟩
theorem Vs.same (O : Vs d w c B H0 H vs es) (s : Same H H') : Vs d w c B H0 H' vs es := ⟨O.ds.same s, O.al.same (hd2_same s)⟩
theorem Vs.new {o : HO} (O : Vs d w c B H0 H vs es) (hp : H p = none) : Vs d w c B H0 (upd H p o) vs es := O.same (Evl.Ex.new hp)
theorem Vs.at {o : HO} (O : Vs d w c B H0 H vs es) (hp : H p = none) : hd2 d w (upd H p o) p = some o := O.ds.at hp
theorem Vs.n (O : Vs d w c B H0 H vs es) : Vs d w c B H0 H (vs ++ [.non]) (es ++ [.none]) := O.add .non
theorem Vs.b (O : Vs d w c B H0 H vs es) (b : Bool) : Vs d w c B H0 H (vs ++ [.bl b]) (es ++ [.bool b]) := O.add (.bl b)
theorem Vs.i (O : Vs d w c B H0 H vs es) (i : Int) : Vs d w c B H0 H (vs ++ [.int i]) (es ++ [.int i]) := O.add (.int i)
theorem Vs.s (O : Vs d w c B H0 H vs es) (z : Str) : Vs d w c B H0 H (vs ++ [.str z]) (es ++ [.str z]) := O.add (.str z)
theorem Vs.l0 (O : Vs d w c B H0 H vs es) (hp : H p = none) : Vs d w c B H0 (upd H p (.lst [])) (vs ++ [.ref p]) (es ++ [.list []]) := (O.new hp).add (.lst (O.at hp) .nil)
theorem Vs.t0 (O : Vs d w c B H0 H vs es) (hp : H p = none) : Vs d w c B H0 (upd H p (.tup [])) (vs ++ [.ref p]) (es ++ [.tuple []]) := (O.new hp).add (.tup (O.at hp) .nil)
theorem Vs.d0 (O : Vs d w c B H0 H vs es) (hp : H p = none) : Vs d w c B H0 (upd H p (.dK [])) (vs ++ [.ref p]) (es ++ [.dict []]) := (O.new hp).add (.dct (O.at hp) rfl .nil)
theorem Vs.l1 {v : V} {e : PyData} (O : Vs d w c B H0 H (vs ++ [v]) (es ++ [e])) (hp : H p = none) : Vs d w c B H0 (upd H p (.lst [v])) (vs ++ [.ref p]) (es ++ [.list [e]]) := by
  have O' := O.new (o := .lst [v]) hp
  obtain ⟨a, b⟩ := O'.al.init
  exact ⟨O'.ds, a.snoc (.lst (O.at hp) (.one b))⟩
theorem Vs.l2 {v v2 : V} {e e2 : PyData} (O : Vs d w c B H0 H (vs ++ [v] ++ [v2]) (es ++ [e] ++ [e2])) (hp : H p = none) : Vs d w c B H0 (upd H p (.lst [v, v2])) (vs ++ [.ref p]) (es ++ [.list [e, e2]]) := by
  have O' := O.new (o := .lst [v, v2]) hp
  obtain ⟨a, b⟩ := O'.al.init
  obtain ⟨a2, b2⟩ := a.init
  exact ⟨O'.ds, a2.snoc (.lst (O.at hp) (.cons b2 (.one b)))⟩
/-- {k: v}, displayed -/
theorem Vs.d1 {k : Str} {v : V} {e : PyData} (O : Vs d w c B H0 H (vs ++ [v]) (es ++ [e])) (hp : H p = none) : Vs d w c B H0 (upd H p (.dK [(.inr k, v)])) (vs ++ [.ref p]) (es ++ [.dict [(.str k, e)]]) := by
  have O' := O.new (o := .dK [(.inr k, v)]) hp
  obtain ⟨a, b⟩ := O'.al.init
  exact ⟨O'.ds, a.snoc (.dct (O.at hp) rfl (.one b))⟩
theorem Vs.own (O : Vs d w c B H0 H vs es) (hp : H p = none) : Vs d w c B H0 (upd H p (.lst vs)) vs es ∧ hd2 d w (upd H p (.lst vs)) p = some (.lst vs) := ⟨O.new hp, O.at hp⟩
end
/-- one of some drawn values -/
def spOddD (es : List PyData) : Sp := fun vs H Q _ => ∃ (d w c : Addr) (B : Int), vs = [.ref d] ∧ Dr d w c B H ∧ B ≤ 2 ^ 38 ∧ ∀ (v : V) (e : PyData) H', e ∈ es → Vd (hd2 d w H') v e → Ds d w c (B + 1) H H' → Q v H'
def shOk (e : PyData) : Bool := e.showable && decide (e.depth ≤ 4) && decide (e.shown.length ≤ 200)
theorem shOk.rg {e : PyData} (h : shOk e = true) : Rg e 4 200 := by
  unfold shOk at h
  simp only [Bool.and_eq_true, decide_eq_true_eq] at h
  exact ⟨h.1.1, h.1.2, h.2⟩
end WP
namespace WP
open PySem L2 PySem.Spec PyProof.Rows LamX
end WP
namespace WP
open PySem L2 PySem.Spec PyProof.Rows LamX
theorem merge1 {k : Key} {v : V} : mergeK [] [(k, v)] = [(k, v)] := by
  rw [mergeK_new dv0]
  rfl
/-- what is known of a value that is handed over as a list of files -/
structure BentE (e : PyData) : Prop where
  rg : Rg e 10 20000
  st : ∀ z, e = .str z → z.length ≤ 100
  it : ∀ es, (e = .list es ∨ e = .tuple es) → es.length ≤ 20 ∧ ∀ f ∈ es, Rg f 4 200 ∧ ∀ z, f = .str z → z.length ≤ 100
end WP
namespace WP
open PySem L2 PySem.Spec PyProof.Rows
end WP
namespace WP
open PySem L2 PySem.Spec PyProof.Rows LamX
theorem rgAll {ds : List PyData} {dep len : Nat} (h : ∀ d ∈ ds, Rg d dep len) : PyData.showableAll ds = true ∧ PyData.depthAll ds ≤ dep ∧ piled (PyData.shownAll ds) ≤ ds.length * (len + 2) := by
  induction ds with
  | nil => exact ⟨rfl, Nat.zero_le _, by simp [PyData.shownAll, piled]⟩
  | cons d r ih =>
    obtain ⟨a1, a3, a4⟩ := ih fun x hx => h x (List.mem_cons_of_mem _ hx)
    have b := h d List.mem_cons_self
    refine ⟨?_, ?_, ?_⟩
    · simp only [PyData.showableAll, a1, b.sh]; rfl
    · have := b.dp
      simp only [PyData.depthAll]
      omega
    · have := b.ln
      rw [PyData.shownAll, piled_cons, List.length_cons, Nat.add_mul]
      omega
theorem Rg.list {ds : List PyData} {dep len n : Nat} (h : ∀ d ∈ ds, Rg d dep len) (hn : ds.length ≤ n) : Rg (.list ds) (dep + 1) (n * (len + 2) + 2) := by
  obtain ⟨a1, a3, a4⟩ := rgAll h
  refine ⟨by rw [PyData.showable]; exact a1, by rw [PyData.depth]; omega, ?_⟩
  rw [PyData.shown]
  refine Nat.le_trans (listText_up _) ?_
  have := Nat.mul_le_mul_right (len + 2) hn
  omega
theorem Rg.tuple {ds : List PyData} {dep len n : Nat} (h : ∀ d ∈ ds, Rg d dep len) (hn : ds.length ≤ n) : Rg (.tuple ds) (dep + 1) (n * (len + 2) + 10) := by
  obtain ⟨a1, a3, a4⟩ := rgAll h
  refine ⟨by rw [PyData.showable]; exact a1, by rw [PyData.depth]; omega, ?_⟩
  rw [PyData.shown]
  have := Nat.mul_le_mul_right (len + 2) hn
  cases ds with
  | nil => simp only [PyData.shownAll]; exact Nat.le_trans (by decide) (Nat.le_add_left 10 _)
  | cons d r =>
    have h5 : PyData.shownAll (d :: r) ≠ [] := by simp [PyData.shownAll]
    have h6 := join_length_add _ h5
    unfold tupleText
    rw [Str.length_append, Str.length_append]
    have h7 : ("(" : Str).length = 1 := by decide
    have h8 : (Str.ofString (if (PyData.shownAll (d :: r)).length == 1 then ",)" else ")" : String)).length ≤ 2 := by split <;> decide
    rw [h7]
    omega
theorem SiteAt.ins {K : PySem.W.Frag} {CS CF a : Addr} {H : Hp} {s : SiteD} (h : SiteAt K CS CF H (.ref a) s) : ∃ dx d1 d2 ct, H a = some (.ins CS dx [("own_files", d1), ("own_trees", d2), ("own_counts", ct)]) := by
  obtain ⟨a', dx, d1, d2, kvs, e, h1, _⟩ := h
  cases e
  exact ⟨_, _, _, _, h1⟩
section
variable {K : PySem.W.Frag} {CS CF CN : Addr} {H : Hp} {v x : V} {s : SiteD} {m : MdD} {Q : VK} {E : XK}
/-- what is told of a value as a list of files: none, if it is one -/
def TellF (K : PySem.W.Frag) (s : SiteD) (H : Hp) (v : V) (e : PyData) (o : Option V) : Prop := (((kdD e).isLst || (kdD e).isTup) = false ∧ o = some v) ∨ (((kdD e).isLst || (kdD e).isTup) = true ∧ ∃ a xs, v = .ref a ∧ (H a = some (.lst xs) ∨ H a = some (.tup xs)) ∧ xs.length ≤ 1000 ∧ (∀ y ∈ xs, AnyN K H y) ∧ o = nnB s [] xs)
theorem AnyN.ext {H' : Hp} {y : V} (h : AnyN K H y) (e : ExtN H H') : AnyN K H' y := by
  obtain ⟨k, h1, h2⟩ := h
  exact ⟨k, h1.ext e, h2⟩
theorem TellF.ext {H' : Hp} {e : PyData} {o : Option V} (t : TellF K s H v e o) (x : ExtN H H') : TellF K s H' v e o := by
  rcases t with t | ⟨h1, a, xs, h2, h3, h4, h5, h6⟩
  · exact .inl t
  · exact .inr ⟨h1, a, xs, h2, h3.imp (fun z => x _ _ z fun _ z => by cases z) (fun z => x _ _ z fun _ z => by cases z), h4, fun y hy => (h5 y hy).ext x, h6⟩
theorem TellF.same {H' : Hp} {e : PyData} {o : Option V} (t : TellF K s H v e o) (x : Same H H') : TellF K s H' v e o := t.ext (.of x)
end
end WP
namespace WP
open PySem PySem.Spec PyProof.Rows L2 LamX
end WP
namespace WP
open PySem L2 PySem.Spec PyProof.Rows LamX
section
variable {K : PySem.W.Frag} {H H' : Hp}
theorem PgM.ext {v : V} {f : FileD} (h : PgM K H v f) (s : ExtN H H') : PgM K H' v f := by
  obtain ⟨a, r, k, e, h1, h2, h3⟩ := h
  exact ⟨a, r, k, e, s _ _ h1 (fun _ z => by cases z), s _ _ h2 (fun _ z => by cases z), s _ _ h3 (fun _ z => by cases z)⟩
theorem PgsM.ext {kvs : List (Key × V)} {fs : List (Str × FileD)} (h : PgsM K H kvs fs) (s : ExtN H H') : PgsM K H' kvs fs := by
  induction h with
  | nil => exact .nil
  | cons a _ ih => exact .cons (a.ext s) ih
theorem MdAt.ext {v : V} {m : MdD} (h : MdAt K H v m) (s : ExtN H H') : MdAt K H' v m := by
  obtain ⟨a, dF, eT, kvs, e, h1, h2, h3, h4⟩ := h
  exact ⟨a, dF, eT, kvs, e, s _ _ h1 (fun _ z => by cases z), s _ _ h2 (fun _ z => by cases z), h3.ext s, s _ _ h4 (fun _ z => by cases z)⟩
theorem Tabs.put {T : List (Addr × Str)} {H : Hp} {q : Addr} {xs : List V} {o : HO} (t : LamX.Tabs T H) (hp : H q = some (.lst xs)) : LamX.Tabs T (upd H q o) := by
  intro p hpT
  obtain ⟨ps, e1, e2, e3⟩ := t p hpT
  refine ⟨ps, by rw [upd_ne (fun z => by rw [z, hp] at e1; cases e1)]; exact e1, e2, fun pos cv hc => ?_⟩
  obtain ⟨cc, e4, e5⟩ := e3 pos cv hc
  exact ⟨cc, e4, by rw [upd_ne (fun z => by rw [z, hp] at e5; unfold CodeO at e5; cases e5)]; exact e5⟩
/-- free, but for tables -/
def FreeT (H : Hp) (p : Addr) : Prop := ∀ o, H p = some o → ∃ ps, o = .tbl ps
theorem freeT {H0 H : Hp} {p : Addr} (e : ExtN H0 H) (h : H p = none) : FreeT H0 p := fun o ho => by
  by_cases z : ∃ ps, o = .tbl ps
  · exact z
  · have := e p o ho fun ps w => z ⟨ps, w⟩
    rw [h] at this
    cases this
theorem extN_mut {H0 H : Hp} {p : Addr} {o : HO} (e : ExtN H0 H) (h : FreeT H0 p) : ExtN H0 (upd H p o) := fun b u hb hn => by
  rw [upd_ne (fun z => by
    rw [z] at hb
    obtain ⟨ps, w⟩ := h u hb
    exact hn ps w)]
  exact e b u hb hn
end
/-- the list of what was refused so far, at F0, made behind H0 -/
structure Fnd (T : List (Addr × Str)) (H0 H : Hp) (F0 : Addr) (rs : List Addr) (ws : List (Str × V)) : Prop where
  ex : ExtN H0 H
  n0 : FreeT H0 F0
  tb : Tabs T H
  fl : H F0 = some (.lst (rs.map V.ref))
  al : All2 (fun (r : Addr) (w : Str × V) => H r = some (.lst [.str w.1, w.2])) rs ws
section
variable {T : List (Addr × Str)} {H0 H H' H2 : Hp} {F0 p : Addr} {rs : List Addr} {ws : List (Str × V)} {w : Str × V}
theorem ref_ne {rs : List Addr} {z : Str} {x : V} : rs.map V.ref ≠ [.str z, x] := fun e => by
  cases rs with
  | nil => cases e
  | cons a r => cases e
theorem Fnd.ext (f : Fnd T H0 H F0 rs ws) (e : ExtN H H') (t : Tabs T H') : Fnd T H0 H' F0 rs ws := ⟨f.ex.trans e, f.n0, t, e _ _ f.fl (fun _ z => by cases z), f.al.imp fun _ _ h => e _ _ h (fun _ z => by cases z)⟩
theorem Fnd.same (f : Fnd T H0 H F0 rs ws) (s : Same H H') : Fnd T H0 H' F0 rs ws := f.ext (.of s) (f.tb.ext s)
theorem Fnd.add (f : Fnd T H0 H F0 rs ws) (hp : H p = some (.lst [.str w.1, w.2])) : Fnd T H0 (upd H F0 (.lst (rs.map V.ref ++ [.ref p]))) F0 (rs ++ [p]) (ws ++ [w]) := by
  have ne : ∀ {r : Addr} {z : Str} {x : V}, H r = some (.lst [.str z, x]) → r ≠ F0 := fun hr z => by
    rw [z, f.fl] at hr
    exact ref_ne (HO.lst.inj (Option.some.inj hr))
  refine ⟨extN_mut f.ex f.n0, f.n0, Tabs.put f.tb f.fl, by rw [upd_same, List.map_append]; rfl, ?_⟩
  refine All2.snoc (f.al.imp fun r v h => ?_) ?_
  · rw [upd_ne (ne h)]; exact h
  · rw [upd_ne (ne hp)]; exact hp
theorem Fnd.one (e : ExtN H0 H) (t : Tabs T H) (hp : H p = some (.lst [.str w.1, w.2])) (hF : H F0 = none) : Fnd T H0 (upd H F0 (.lst [.ref p])) F0 [p] [w] := by
  have s := Evl.Ex.new (o := .lst [.ref p]) hF
  refine ⟨e.trans (.of s), freeT e hF, t.ext s, upd_same, ?_⟩
  exact All2.snoc (.nil) (s _ _ hp)
end
section
variable {K : PySem.W.Frag} {CS CF CN CE : Addr} {H : Hp} {v x y : V} {s : SiteD} {m : MdD} {Q : VK} {E : XK}
def VwL (m : MdD) (e : Str) (ys : List Str) : Prop := (∀ x, x ∈ ys ↔ inW m.files e x) ∧ ys.Nodup ∧ sortedS ys = true
theorem VwL.uniq {e : Str} {ys zs : List Str} (h : VwL m e ys) (g : VwL m e zs) : ys = zs := by
  refine sorted_uniq ((List.perm_ext_iff_of_nodup h.2.1 g.2.1).mpr fun x => ?_) h.2.2 g.2.2
  rw [h.1, g.1]
theorem VwL.of {e : Str} {t : List (Str × Option Str)} {ys : List Str} (T : TreeOf m.files e t) (pm : ys.Perm (t.map (·.1))) (so : sortedS ys = true) : VwL m e ys := ⟨fun x => pm.mem_iff.trans (T.mem x), pm.nodup_iff.mpr T.nd, so⟩
end
end WP
namespace WP
open PySem L2 PySem.Spec PyProof.Rows LamX
def BadT (CT : Addr) (H : Hp) (E : XK) (x : V) : Prop := ∀ d H', Same H H' → H d = none → H' d = some (.xd [("at", x)]) → E (.ref CT) (some d) H'
theorem BadT.same {CT : Addr} {H H' : Hp} {E : XK} {x : V} (h : BadT CT H E x) (s : Same H H') : BadT CT H' E x := fun d H2 s2 hd h2 => h d H2 (s.trans s2) (none_back s hd) h2
structure Lx (d w c : Addr) (B : Int) (T : List (Addr × Str)) (H0 H : Hp) : Prop where
  dr : Dr d w c B H
  tb : Tabs T (hd2 d w H)
  ex : ExtN (hd2 d w H0) (hd2 d w H)
section
variable {d w c p : Addr} {B B' : Int} {T : List (Addr × Str)} {H0 H H' : Hp}
theorem Lx.start (D : Dr d w c B H) (t : Tabs T (hd2 d w H)) : Lx d w c B T H H := ⟨D, t, ExtN.refl _⟩
theorem Lx.same (x : Lx d w c B T H0 H) (s : Same H H') : Lx d w c B T H0 H' := ⟨x.dr.ext (.of s), x.tb.ext (hd2_same s), x.ex.trans (.of (hd2_same s))⟩
theorem Lx.draw (x : Lx d w c B T H0 H) (D : Dr d w c B' H') (s : Same (hd2 d w H) (hd2 d w H')) : Lx d w c B' T H0 H' := ⟨D, x.tb.ext s, x.ex.trans (.of s)⟩
theorem Lx.lam (x : Lx d w c B T H0 H) (e : ExtN H H') (t : Tabs T H') : Lx d w c B T H0 H' := ⟨x.dr.ext e, Tabs.hd t (x.dr.ext e), x.ex.trans (hd2_ext e)⟩
theorem Lx.mono (x : Lx d w c B T H0 H) (h : B ≤ B') : Lx d w c B' T H0 H := ⟨x.dr.mono h, x.tb, x.ex⟩
theorem Lx.at {o : HO} (x : Lx d w c B T H0 H) (hp : H p = none) : hd2 d w (upd H p o) p = some o := (⟨x.dr, Same.refl _⟩ : Ds d w c B H H).at hp
end
end WP
namespace WP
open PySem PySem.Calls PyProof.Rows PyProof.V PySem.Spec PySem.W
end WP
namespace WP
open PySem L2 PySem.Spec PyProof.Rows LamX
end WP
namespace WP
open PySem L2 PySem.Spec PyProof.Rows LamX
theorem dp_optsE {K : PySem.W.Frag} {H : Hp} : ∀ zs : List (Option Int), DpAll K H (zs.map optI) (zs.map optP)
  | [] => .nil
  | none :: r => .cons .non (dp_optsE r)
  | some i :: r => .cons (.int i) (dp_optsE r)
theorem SqT.any {K : PySem.W.Frag} {H : Hp} {a : Addr} {xs : List V} (h : SqT K H a xs) : Any K H (.ref a) .tup := by
  rcases h with (h | ⟨b, h⟩) | ⟨o, its, n, h1, h2, _⟩
  · exact .tup h
  · exact .fTup h
  · exact .kTup h1 h2
def owF (ns : List Str) (p : Str × FileD) : Str × FileD := (p.1, { p.2 with own := decide (p.1 ∈ ns) })
def ownM (m : MdD) (ns : List Str) : MdD := { m with files := m.files.map (owF ns) }
theorem owF_keys (ns : List Str) (fs : List (Str × FileD)) : (fs.map (owF ns)).map (·.1) = fs.map (·.1) := by
  rw [List.map_map]
  rfl
theorem lkF_ow {ns : List Str} {n : Str} : ∀ {fs : List (Str × FileD)}, lkF (fs.map (owF ns)) n = (lkF fs n).map fun f => { f with own := decide (n ∈ ns) }
  | [] => rfl
  | (k, f) :: r => by
    by_cases e : k = n
    · subst e
      rw [lkF_hit (fs := r)]
      exact lkF_hit (fs := r)
    · rw [lkF_skip e, ← lkF_ow]
      exact lkF_skip e
theorem MdOk.own {m : MdD} (ok : MdOk m) {ns : List Str} {fs : List (Str × FileD)} (pm : fs.Perm m.files) (h : ∀ e ∈ m.entries, e ∉ ns) : MdOk ⟨fs.map (owF ns), m.entries, m.counts⟩ := by
  have lk : ∀ n, lkF (fs.map (owF ns)) n = (lkF m.files n).map fun f => { f with own := decide (n ∈ ns) } := fun n => by rw [lkF_ow, lkF_perm ok.ok.nd pm n]
  have km : ∀ n, n ∈ (fs.map (owF ns)).map (·.1) ↔ n ∈ m.files.map (·.1) := fun n => by rw [owF_keys]; exact (pm.map (·.1)).mem_iff
  have some_ : ∀ n f, lkF (fs.map (owF ns)) n = some f → ∃ g, lkF m.files n = some g ∧ f = { g with own := decide (n ∈ ns) } := fun n f e => by
    rw [lk] at e
    cases z : lkF m.files n with
    | none => rw [z] at e; cases e
    | some g => rw [z] at e; cases e; exact ⟨g, rfl, rfl⟩
  have rr : ∀ n, rf (fs.map (owF ns)) n = rf m.files n := fun n => by
    unfold rf
    rw [lk]
    cases lkF m.files n <;> rfl
  have back : ∀ n f, (n, f) ∈ fs.map (owF ns) → ∃ g, (n, g) ∈ m.files ∧ f = { g with own := decide (n ∈ ns) } := fun n f hm => by
    obtain ⟨⟨k, g⟩, hg, e⟩ := List.mem_map.mp hm
    cases e
    exact ⟨g, pm.mem_iff.mp hg, rfl⟩
  refine ⟨⟨?_, ?_, fun n hn => ok.ok.nam n ((km n).mp hn), fun n f e x hx => ?_, fun n f e => ?_⟩, fun z => ?_, fun n r => ok.no n (r.to fun n x => (by rw [rr n]; exact id)), fun n f hm => ?_, ?_, ok.epos, ok.end_, ok.eso, fun e he => ?_, fun e he => ?_, ok.ct⟩
  · rw [List.length_map, pm.length_eq]
    exact ok.ok.few
  · rw [owF_keys]
    exact (pm.map (·.1)).nodup_iff.mpr ok.ok.nd
  · obtain ⟨g, h1, rfl⟩ := some_ n f e
    exact (km x).mpr (ok.ok.cl n g h1 x hx)
  · obtain ⟨g, h1, rfl⟩ := some_ n f e
    exact ok.ok.rnd n g h1
  · have z := List.map_eq_nil_iff.mp z
    rw [z] at pm
    exact ok.pos pm.nil_eq.symm
  · obtain ⟨g, h1, rfl⟩ := back n f hm
    exact ok.fine n g h1
  · obtain ⟨c, h1, h2⟩ := ok.kl
    refine ⟨c, h1, fun n f hm => ?_⟩
    obtain ⟨g, h3, rfl⟩ := back n f hm
    exact h2 n g h3
  · obtain ⟨g, hg⟩ := lkF_key.mp (ok.ekey he)
    show (match lkF (fs.map (owF ns)) e with | some f => !f.own | none => false) = true
    rw [lk, hg]
    show (!decide (e ∈ ns)) = true
    rw [decide_eq_false (h e he)]
    rfl
  · obtain ⟨t, T⟩ := ok.tr e he
    exact ⟨t, T.to fun n x => by rw [rr n]⟩
theorem MdAt.kept {K : PySem.W.Frag} {d w c : Addr} {B : Int} {H H' : Hp} {v : V} {m : MdD} (h : MdAt K (hid H H') v m) (D : Dr d w c B H) : MdAt K (hd2 d w H') v m := h.same (hid_hd2 D)
end WP
namespace PySem.SeqAt
open AutoSeq1 (wpAny_loadPart')
open MeetsSeq
end PySem.SeqAt
namespace WP
open PySem L2 PySem.Spec PyProof.Rows LamX
end WP
namespace WP
open PySem L2 PySem.Spec PyProof.Rows LamX
end WP
namespace WP
open PySem L2 PySem.Spec PyProof.Rows LamX
mutual
theorem Vd.dp {K : PySem.W.Frag} {H : Hp} : ∀ {v : V} {d : PyData}, Vd H v d → d.hasDict = false → Dp K H v d
  | _, _, .non, _ => .non
  | _, _, .bl b, _ => .bl b
  | _, _, .int i, _ => .int i
  | _, _, .str x, _ => .str x
  | _, _, .lst h hl, e => .lst (SqL.of h) (hl.dp (by rw [PyData.hasDict] at e; exact e))
  | _, _, .tup h hl, e => .tup (SqT.of h) (hl.dp (by rw [PyData.hasDict] at e; exact e))
  | _, _, .dct _ _ _, e => by rw [PyData.hasDict] at e; cases e
theorem VdAll.dp {K : PySem.W.Frag} {H : Hp} : ∀ {vs : List V} {ds : List PyData}, VdAll H vs ds → PyData.hasDictAll ds = false → DpAll K H vs ds
  | _, _, .nil, _ => .nil
  | _, _, .cons a r, e => by
    rw [PyData.hasDictAll, Bool.or_eq_false_iff] at e
    exact .cons (a.dp e.1) (r.dp e.2)
end
end WP
namespace WP
open PySem L2 PySem.Spec PyProof.Rows LamX
/-- the page of a file, as data -/
def pageD (f : FileD) : PyData := .tuple [.str (namS f.own), .tuple (f.refers.map PyData.str), optP f.hold, .tuple (f.keeps.map optP)]
theorem dp_optE {K : PySem.W.Frag} {H : Hp} : ∀ o : Option Int, Dp K H (optI o) (optP o)
  | none => .non
  | some i => .int i
theorem page_dp {K : PySem.W.Frag} {H : Hp} {t r k : Addr} {f : FileD} (h : H t = some (.tup [.str (namS f.own), .ref r, optI f.hold, .ref k])) (h1 : SqT K H r (f.refers.map V.str)) (h2 : SqT K H k (f.keeps.map optI)) : Dp K H (.ref t) (pageD f) :=
  .tup (SqT.of h) (.cons (.str _) (.cons (.tup h1 (dpS _)) (.cons (dp_optE _) (.cons (.tup h2 (dp_optsE _)) .nil))))
end WP
namespace PySem.W
open PySem PySem.Calls PyProof.Rows
end PySem.W
namespace WP
open PySem PySem.Calls PyProof.Rows PyProof.V PySem.Spec PySem.W
end WP
namespace WP
open PySem L2 PySem.Spec PyProof.Rows LamX
end WP
namespace WP
open PySem L2 PySem.Spec PyProof.Rows LamX
def fileEq (f g : FileD) : Bool := decide (f.own = g.own) && decide (f.refers = g.refers) && decide (f.hold = g.hold) && decide (f.keeps = g.keeps)
theorem fileEq_iff {f g : FileD} : fileEq f g = true ↔ f = g := by
  unfold fileEq
  simp only [Bool.and_eq_true, decide_eq_true_eq]
  constructor
  · rintro ⟨⟨⟨h1, h2⟩, h3⟩, h4⟩
    cases f
    cases g
    simp only at h1 h2 h3 h4
    rw [h1, h2, h3, h4]
  · rintro rfl
    exact ⟨⟨⟨rfl, rfl⟩, rfl⟩, rfl⟩
def FOk (f : FileD) : Prop := ∀ x ∈ f.refers, PyData.strOk x = true
def RFb (K : PySem.W.Frag) (CF : Addr) (a : Addr) (y : V) (r : Bool) (H : Hp) : Prop := ∃ f : FileD, FileAt K CF H (.ref a) f ∧ FOk f ∧ ((y ≠ .ref a ∧ ∃ k, Any K H y k ∧ PySem.W.kitOne K k.ty (.ref CF) = some false ∧ r = false) ∨ ∃ g : FileD, FileAt K CF H y g ∧ FOk g ∧ r = fileEq f g)
theorem sqT_two {X : Cx} {pins : List (Addr × Obj)} {σ : L2.St} {s : Shared} {H : Hp} {t : Addr} {xs ys : List V} (I : Inv X pins σ H s) (h : SqT X.K H t xs) (h' : SqT X.K H t ys) : ∃ its, Vals xs its ∧ Vals ys its := by
  obtain ⟨its, r, ht, _⟩ := I.tuple h
  obtain ⟨its2, r2, ht2, _⟩ := I.tuple h'
  obtain ⟨o, ho, _, n, hd⟩ := ht
  obtain ⟨o2, ho2, _, n2, hd2⟩ := ht2
  rw [ho] at ho2
  cases ho2
  rw [hd] at hd2
  injection hd2 with e1 _
  have e : its = its2 := by simpa using e1
  exact ⟨its, r, e ▸ r2⟩
theorem vals_strs2 : ∀ {xs ys : List Str} {its : List Value}, Vals (xs.map V.str) its → Vals (ys.map V.str) its → xs = ys
  | [], [], _, _, _ => rfl
  | [], y :: ys, _, h, h' => by cases h; cases h'
  | x :: xs, [], _, h, h' => by cases h'; cases h
  | x :: xs, y :: ys, _, .cons a r, .cons b r' => by
    obtain ⟨t, e⟩ := (show ∃ t, _ = Value.str x t from a)
    obtain ⟨t2, e2⟩ := (show ∃ t, _ = Value.str y t from b)
    rw [e] at e2
    cases e2
    rw [vals_strs2 r r']
theorem vals_opts2 : ∀ {xs ys : List (Option Int)} {its : List Value}, Vals (xs.map optI) its → Vals (ys.map optI) its → xs = ys
  | [], [], _, _, _ => rfl
  | [], y :: ys, _, h, h' => by cases h; cases h'
  | x :: xs, [], _, h, h' => by cases h'; cases h
  | x :: xs, y :: ys, _, .cons a r, .cons b r' => by
    have e : x = y := by
      cases x with
      | none =>
        cases y with
        | none => rfl
        | some j =>
          have a : _ = Value.none := a
          obtain ⟨t2, e2⟩ := (show ∃ t, _ = Value.int j t from b)
          rw [a] at e2
          cases e2
      | some i =>
        obtain ⟨t, e⟩ := (show ∃ t, _ = Value.int i t from a)
        cases y with
        | none =>
          have b : _ = Value.none := b
          rw [e] at b
          cases b
        | some j =>
          obtain ⟨t2, e2⟩ := (show ∃ t, _ = Value.int j t from b)
          rw [e] at e2
          cases e2
          rfl
    rw [vals_opts2 r r', e]
theorem FileAt.two {X : Cx} {pins : List (Addr × Obj)} {σ : L2.St} {s : Shared} {H : Hp} {CF a : Addr} {f g : FileD} (I : Inv X pins σ H s) (h : FileAt X.K CF H (.ref a) f) (h' : FileAt X.K CF H (.ref a) g) : f = g := by
  obtain ⟨a1, dx, t1, t2, e1, h1, h2, h3⟩ := h
  obtain ⟨a2, dy, u1, u2, e2, g1, g2, g3⟩ := h'
  cases e1
  cases e2
  rw [h1] at g1
  have g1 := Option.some.inj g1
  injection g1 with _ _ z
  simp only [List.cons.injEq, Prod.mk.injEq, true_and, and_true, V.str.injEq, V.ref.injEq] at z
  obtain ⟨z1, rfl, z3, rfl⟩ := z
  obtain ⟨_, r1, r2⟩ := sqT_two I h2 g2
  obtain ⟨_, r3, r4⟩ := sqT_two I h3 g3
  have y1 := namS_inj z1
  have y2 := vals_strs2 r1 r2
  have y3 := optI_inj z3
  have y4 := vals_opts2 r3 r4
  cases f
  cases g
  simp only at y1 y2 y3 y4
  rw [y1, y2, y3, y4]
theorem RFb.same {X : Cx} {CF : Addr} (pins : List (Addr × Obj)) (σ : L2.St) (s : Shared) (H : Hp) (a : Addr) (r : Bool) (I : Inv X pins σ H s) (h : RFb X.K CF a (.ref a) r H) : r = true := by
  obtain ⟨f, h1, _, ⟨n, _⟩ | ⟨g, h2, _, z⟩⟩ := h
  · exact absurd rfl n
  · rw [z, fileEq_iff]
    exact h1.two I h2
def inF (gs : List (Str × FileD)) (p : Str × FileD) : Bool := match lkF gs p.1 with | some g => fileEq p.2 g | none => false
def filesEq (fs gs : List (Str × FileD)) : Bool := fs.length == gs.length && fs.all (inF gs)
def mdEq (m m2 : MdD) : Bool := decide (m.counts = m2.counts) && filesEq m.files m2.files && decide (m.entries = m2.entries)
end WP
namespace WP
open PySem L2 PySem.Spec PyProof.Rows LamX
theorem Rc.last {fs : List (Str × FileD)} {a b : Str} (r : Rc fs a b) : ∃ q, (q = a ∨ Rc fs a q) ∧ b ∈ rf fs q := by
  cases r with
  | one h => exact ⟨a, .inl rfl, h⟩
  | more h1 h2 => exact ⟨_, .inr h1, h2⟩
open Classical in
/-- fewer references: a tree is still one -/
theorem tree_sub {fs gs : List (Str × FileD)} {e : Str} {t : List (Str × Option Str)} (h : ∀ n x, x ∈ rf gs n → x ∈ rf fs n) (T : TreeOf fs e t) : ∃ t', TreeOf gs e t' := by
  refine ⟨t.filter fun p => decide (p.1 = e ∨ Rc gs e p.1), ?_⟩
  have mem : ∀ x p, (x, p) ∈ t.filter (fun p => decide (p.1 = e ∨ Rc gs e p.1)) ↔ (x, p) ∈ t ∧ (x = e ∨ Rc gs e x) := fun x p => by rw [List.mem_filter, decide_eq_true_eq]
  have key : ∀ x, x ∈ (t.filter fun p => decide (p.1 = e ∨ Rc gs e p.1)).map (·.1) ↔ (x = e ∨ Rc gs e x) := fun x => by
    constructor
    · intro hx
      obtain ⟨⟨y, p⟩, hy, rfl⟩ := List.mem_map.mp hx
      exact ((mem y p).mp hy).2
    · intro hx
      have hk : x ∈ t.map (·.1) := T.key (hx.imp id fun r => r.to h)
      obtain ⟨⟨y, p⟩, hy, rfl⟩ := List.mem_map.mp hk
      exact List.mem_map.mpr ⟨(y, p), (mem y p).mpr ⟨hy, hx⟩, rfl⟩
  refine ⟨T.nd.sublist (List.Sublist.map _ List.filter_sublist), (mem e none).mpr ⟨T.root, .inl rfl⟩, fun x p hx => ?_, fun q hq x hx => ?_, fun x hx => (key x).mp hx⟩
  · obtain ⟨h1, h2⟩ := (mem x p).mp hx
    rcases T.par x p h1 with z | ⟨q, rfl, hq, hr⟩
    · exact .inl z
    · rcases h2 with rfl | r
      · cases key_uni T.nd h1 T.root
      · obtain ⟨q', hq', hx'⟩ := r.last
        have := T.chi q' (T.key (hq'.imp id fun r => r.to h)) x (h _ _ hx')
        cases key_uni T.nd h1 this
        exact .inr ⟨q, rfl, (key q).mpr hq', hx'⟩
  · have hq := (key q).mp hq
    refine (mem x (some q)).mpr ⟨T.chi q (T.key (hq.imp id fun r => r.to h)) x (h _ _ hx), .inr ?_⟩
    rcases hq with rfl | r
    · exact .one hx
    · exact .more r hx
/-- another page for one file -/
def setP (fs : List (Str × FileD)) (n : Str) (f : FileD) : List (Str × FileD) := fs.map fun p => if p.1 = n then (p.1, f) else p
theorem setP_keys (fs : List (Str × FileD)) (n : Str) (f : FileD) : (setP fs n f).map (·.1) = fs.map (·.1) := by
  unfold setP
  rw [List.map_map]
  refine List.map_congr_left fun p _ => ?_
  show (if p.1 = n then (p.1, f) else p).1 = p.1
  split <;> rfl
theorem lkF_set {n k : Str} {f : FileD} : ∀ {fs : List (Str × FileD)}, lkF (setP fs n f) k = if k = n then (lkF fs k).map fun _ => f else lkF fs k
  | [] => by split <;> rfl
  | (m, g) :: r => by
    have ih := lkF_set (n := n) (k := k) (f := f) (fs := r)
    show lkF ((if m = n then (m, f) else (m, g)) :: setP r n f) k = _
    by_cases hk : m = k
    · subst hk
      by_cases hn : m = n
      · rw [if_pos hn, if_pos hn, lkF_hit (fs := setP r n f), lkF_hit (fs := r)]
        rfl
      · rw [if_neg hn, if_neg hn, lkF_hit (fs := setP r n f), lkF_hit (fs := r)]
    · have e : lkF ((if m = n then (m, f) else (m, g)) :: setP r n f) k = lkF (setP r n f) k := by
        split
        · exact lkF_skip hk
        · exact lkF_skip hk
      rw [e, ih, lkF_skip hk]
theorem MdOk.set {m : MdD} (ok : MdOk m) {n : Str} {f g : FileD} (hg : lkF m.files n = some g) (hr : f.refers.Sublist g.refers) (so : sortedS f.refers = true) (ho : isTicksV (optI f.hold) = true) (hk : ∀ k ∈ f.keeps, isTicksV (optI k) = true) (kl : f.keeps.length = g.keeps.length) (he : n ∈ m.entries → f.own = false) : MdOk { m with files := setP m.files n f } := by
  have lk : ∀ k, lkF (setP m.files n f) k = if k = n then (lkF m.files k).map (fun _ => f) else lkF m.files k := fun k => lkF_set
  have km : ∀ k, k ∈ (setP m.files n f).map (·.1) ↔ k ∈ m.files.map (·.1) := fun k => by rw [setP_keys]
  have two : ∀ k x, lkF (setP m.files n f) k = some x → ∃ y, lkF m.files k = some y ∧ x.refers.Sublist y.refers := fun k x e => by
    rw [lk] at e
    by_cases z : k = n
    · rw [if_pos z, z, hg] at e
      cases e
      exact ⟨g, by rw [z]; exact hg, hr⟩
    · rw [if_neg z] at e
      exact ⟨x, e, .refl _⟩
  have sub : ∀ k x, x ∈ rf (setP m.files n f) k → x ∈ rf m.files k := fun k x hx => by
    unfold rf at hx
    cases e : lkF (setP m.files n f) k with
    | none => rw [e] at hx; cases hx
    | some y =>
      rw [e] at hx
      obtain ⟨z, h1, h2⟩ := two k y e
      rw [rf_of h1]
      exact h2.subset hx
  have mem : ∀ k x, (k, x) ∈ setP m.files n f → (k = n ∧ x = f) ∨ (k, x) ∈ m.files := fun k x hx => by
    obtain ⟨⟨k', y⟩, hy, e⟩ := List.mem_map.mp hx
    by_cases z : k' = n
    · rw [if_pos z] at e
      cases e
      exact .inl ⟨z, rfl⟩
    · rw [if_neg z] at e
      cases e
      exact .inr hy
  obtain ⟨c, c4, hc⟩ := ok.kl
  refine ⟨⟨?_, ?_, fun k h => ok.ok.nam k ((km k).mp h), fun k x e y hy => ?_, fun k x e => ?_⟩, fun z => ?_, fun k r => ok.no k (r.to sub), fun k x hx => ?_, ⟨c, c4, fun k x hx => ?_⟩, ok.epos, ok.end_, ok.eso, fun e h => ?_, fun e h => ?_, ok.ct⟩
  · show (setP m.files n f).length ≤ 8
    have := congrArg List.length (setP_keys m.files n f)
    rw [List.length_map, List.length_map] at this
    rw [this]
    exact ok.ok.few
  · rw [setP_keys]
    exact ok.ok.nd
  · obtain ⟨z, h1, h2⟩ := two k x e
    exact (km y).mpr (ok.ok.cl k z h1 y (h2.subset hy))
  · obtain ⟨z, h1, h2⟩ := two k x e
    exact (ok.ok.rnd k z h1).sublist h2
  · have := congrArg List.length (setP_keys m.files n f)
    have z : setP m.files n f = [] := z
    rw [z, List.length_map] at this
    exact ok.pos (List.length_eq_zero_iff.mp (by simpa using this.symm))
  · rcases mem k x hx with ⟨_, rfl⟩ | h
    · exact ⟨so, ho, hk⟩
    · exact ok.fine k x h
  · rcases mem k x hx with ⟨_, rfl⟩ | h
    · rw [kl]
      exact hc n g (lkF_mem hg)
    · exact hc k x h
  · show (match lkF (setP m.files n f) e with | some f => !f.own | none => false) = true
    rw [lk]
    by_cases z : e = n
    · rw [if_pos z, z, hg]
      show (!f.own) = true
      rw [he (z ▸ h)]
      rfl
    · rw [if_neg z]
      exact ok.epl e h
  · obtain ⟨t, T⟩ := ok.tr e h
    exact tree_sub sub T
/-- one more file that refers to none -/
theorem MdOk.more {m : MdD} (ok : MdOk m) {n : Str} {f g : FileD} {k : Str} (hn : n ∉ m.files.map (·.1)) (nm : isNameS n = true) (l8 : m.files.length < 8) (hr : f.refers = []) (ho : isTicksV (optI f.hold) = true) (hk : ∀ k ∈ f.keeps, isTicksV (optI k) = true) (hg : lkF m.files k = some g) (kl : f.keeps.length = g.keeps.length) : MdOk { m with files := m.files ++ [(n, f)] } := by
  have lk : ∀ x, lkF (m.files ++ [(n, f)]) x = (lkF m.files x).or (if n = x then some f else none) := fun x => by
    unfold lkF
    rw [List.find?_append]
    cases List.find? (fun p => decide (p.1 = x)) m.files with
    | some p => rfl
    | none =>
      by_cases z : n = x
      · simp [z]
      · simp [z]
  have rr : ∀ x, rf (m.files ++ [(n, f)]) x = rf m.files x := fun x => by
    unfold rf
    rw [lk]
    cases e : lkF m.files x with
    | some y => rfl
    | none =>
      by_cases z : n = x
      · rw [if_pos z]
        exact hr
      · rw [if_neg z]
        rfl
  have km : ∀ x, x ∈ (m.files ++ [(n, f)]).map (·.1) ↔ x ∈ m.files.map (·.1) ∨ x = n := fun x => by rw [List.map_append, List.mem_append]; simp
  obtain ⟨c, c4, hc⟩ := ok.kl
  refine ⟨⟨by rw [List.length_append]; exact l8, ?_, fun x h => ?_, fun x y e z hz => ?_, fun x y e => ?_⟩, by simp, fun x r => ok.no x (r.to fun a b h => by rw [← rr a]; exact h), fun x y hx => ?_, ⟨c, c4, fun x y hx => ?_⟩, ok.epos, ok.end_, ok.eso, fun e h => ?_, fun e h => ?_, ok.ct⟩
  · rw [List.map_append, List.nodup_append]
    exact ⟨ok.ok.nd, by simp, fun a ha b hb e => hn (by simp at hb; rw [← hb, ← e]; exact ha)⟩
  · rcases (km x).mp h with h | rfl
    · exact ok.ok.nam x h
    · exact nm
  · refine (km z).mpr (.inl ?_)
    have h1 : z ∈ rf (m.files ++ [(n, f)]) x := by rw [rf_of e]; exact hz
    rw [rr] at h1
    exact ok.ok.rf_mem h1
  · have h1 := ok.ok.rf_nd x
    rw [← rr, rf_of e] at h1
    exact h1
  · rcases List.mem_append.mp hx with h | h
    · exact ok.fine x y h
    · cases List.mem_singleton.mp h
      rw [hr]
      exact ⟨rfl, ho, hk⟩
  · rcases List.mem_append.mp hx with h | h
    · exact hc x y h
    · cases List.mem_singleton.mp h
      rw [kl]
      exact hc k g (lkF_mem hg)
  · have z : (match lkF m.files e with | some f => !f.own | none => false) = true := ok.epl e h
    show (match lkF (m.files ++ [(n, f)]) e with | some f => !f.own | none => false) = true
    rw [lk]
    cases e2 : lkF m.files e with
    | some y => rw [e2] at z; exact z
    | none => rw [e2] at z; cases z
  · obtain ⟨t, T⟩ := ok.tr e h
    exact ⟨t, T.to fun a b => by rw [rr]⟩
end WP
namespace WP
open PySem L2 PySem.Spec PyProof.Rows LamX
end WP
namespace WP
open PySem L2 PySem.Spec PyProof.Rows LamX
/-- a model unlike another one -/
def Unl (K : PySem.W.Frag) (m : MdD) (H : Hp) (v : V) : Prop := ∃ m', MdAt K H v m' ∧ MdOk m' ∧ mdEq m m' = false ∧ mdEq m' m = false
/-- another page for one file -/
def Oth (K : PySem.W.Frag) (m : MdD) (n : Str) (f : FileD) (H : Hp) (v : V) : Prop := ∃ f', PgM K H v f' ∧ MdOk { m with files := setP m.files n f' } ∧ f' ≠ f
section
variable {K : PySem.W.Frag} {m : MdD} {n : Str} {f : FileD} {H H' : Hp} {v : V}
theorem Unl.same (h : Unl K m H v) (s : Same H H') : Unl K m H' v := by
  obtain ⟨m', h1, h2⟩ := h
  exact ⟨m', h1.same s, h2⟩
theorem Oth.same (h : Oth K m n f H v) (s : Same H H') : Oth K m n f H' v := by
  obtain ⟨f', h1, h2⟩ := h
  exact ⟨f', h1.same s, h2⟩
theorem PgsM.set {kvs : List (Key × V)} {fs : List (Str × FileD)} (h : PgsM K H kvs fs) {f' : FileD} {u : V} (hu : PgM K H u f') : PgsM K H (kvs.map fun p => if p.1 = .inr n then (p.1, u) else p) (setP fs n f') := by
  induction h with
  | nil => exact .nil
  | @cons k v g kvs fs a _ ih =>
    by_cases z : k = n
    · subst z
      have e1 : ((((.inr k : Key), v) :: kvs).map fun p => if p.1 = (.inr k : Key) then (p.1, u) else p) = ((.inr k : Key), u) :: kvs.map fun p => if p.1 = (.inr k : Key) then (p.1, u) else p := by rw [List.map_cons, if_pos rfl]
      have e2 : setP ((k, g) :: fs) k f' = (k, f') :: setP fs k f' := by
        show (if k = k then (k, f') else (k, g)) :: setP fs k f' = _
        rw [if_pos rfl]
      rw [e1, e2]
      exact .cons hu ih
    · have e1 : ((((.inr k : Key), v) :: kvs).map fun p => if p.1 = (.inr n : Key) then (p.1, u) else p) = ((.inr k : Key), v) :: kvs.map fun p => if p.1 = (.inr n : Key) then (p.1, u) else p := by rw [List.map_cons, if_neg fun e => z (Sum.inr.inj e)]
      have e2 : setP ((k, g) :: fs) n f' = (k, g) :: setP fs n f' := by
        show (if k = n then (k, f') else (k, g)) :: setP fs n f' = _
        rw [if_neg z]
      rw [e1, e2]
      exact .cons a ih
end
end WP
namespace WP
open PySem L2 PySem.Spec PyProof.Rows LamX
end WP
namespace WP
open PySem L2 PySem.Spec PyProof.Rows LamX
/-- the items of a list or of a tuple -/
def SqK (K : PySem.W.Frag) (H : Hp) (a : Addr) (k : Kd) (xs : List V) : Prop := (k = .lst ∧ H a = some (.lst xs)) ∨ (k = .tup ∧ Any K H (.ref a) .tup ∧ SqT K H a xs)
section
variable {K : PySem.W.Frag} {H H' : Hp} {a : Addr} {k : Kd} {xs : List V}
theorem SqK.lst (h : H a = some (.lst xs)) : SqK K H a .lst xs := .inl ⟨rfl, h⟩
theorem SqK.tup (h : H a = some (.tup xs)) : SqK K H a .tup xs := .inr ⟨rfl, .tup h, SqT.of h⟩
theorem SqK.same (h : SqK K H a k xs) (s : Same H H') : SqK K H' a k xs := h.imp (fun ⟨e, h⟩ => ⟨e, s _ _ h⟩) fun ⟨e, h1, h2⟩ => ⟨e, h1.same s, SqT.sm h2 s⟩
theorem SqK.two (h : SqK K H a k xs) : (k.isLst || k.isTup) = true := by rcases h with ⟨e, _⟩ | ⟨e, _⟩ <;> (rw [e]; rfl)
end
end WP
namespace WP
open PySem L2 PySem.Spec PyProof.Rows LamX
theorem SqT.hd {K : PySem.W.Frag} {d w c : Addr} {B : Int} {H : Hp} {a : Addr} {xs : List V} (h : SqT K H a xs) (D : Dr d w c B H) : SqT K (hd2 d w H) a xs := by
  obtain ⟨⟨r, t, e1, _⟩, ⟨ns, e2⟩, _⟩ := D
  rcases h with (h | ⟨o, h⟩) | h
  · exact .inl (.inl (hd2_mk h (fun z => by rw [z, e1] at h; cases h) (fun z => by rw [z, e2] at h; cases h)))
  · exact .inl (.inr ⟨o, hd2_mk h (fun z => by rw [z, e1] at h; cases h) (fun z => by rw [z, e2] at h; cases h)⟩)
  · exact .inr h
theorem FileAt.hd {K : PySem.W.Frag} {CF : Addr} {d w c : Addr} {B : Int} {H : Hp} {v : V} {f : FileD} (h : FileAt K CF H v f) (D : Dr d w c B H) : FileAt K CF (hd2 d w H) v f := by
  obtain ⟨a, dx, t1, t2, e, h1, h2, h3⟩ := h
  have D' := D
  obtain ⟨⟨r, t, e1, _⟩, ⟨ns, e2⟩, _⟩ := D
  exact ⟨a, dx, t1, t2, e, hd2_mk h1 (fun z => by rw [z, e1] at h1; cases h1) (fun z => by rw [z, e2] at h1; cases h1), SqT.hd h2 D', SqT.hd h3 D'⟩
end WP
namespace WP
open PySem L2 PySem.Spec PyProof.Rows LamX
def txV (v : V) : Bool := match v with | .str z => decide (z.length ≤ 9) && PyData.strOk z | _ => true
def OddT (K : PySem.W.Frag) (H : Hp) (v : V) : Prop := ∃ k xs, SeqV K H v k xs ∧ xs.length ≤ 2 ∧ (∀ z, v = .str z → z.length ≤ 9) ∧ (∀ i, v = .int i → i.natAbs < 2 ^ 110) ∧ (k.isTup = true → ∃ a, v = .ref a ∧ H a = some (.tup xs)) ∧ txV v = true ∧ xs.all txV = true
theorem OddT.same {K : PySem.W.Frag} {H H' : Hp} {y : V} (h : OddT K H y) (s : Same H H') : OddT K H' y := by
  obtain ⟨k, xs, h1, h2, h3, h4, h5⟩ := h
  exact ⟨k, xs, h1.same s, h2, h3, h4, fun e => by obtain ⟨a, e1, e2⟩ := h5.1 e; exact ⟨a, e1, s _ _ e2⟩, h5.2⟩
theorem OddT.item {K : PySem.W.Frag} {H : Hp} {y : V} (h : OddT K H y) : ItemV K H y := by
  obtain ⟨k, xs, h1, h2, h3, _⟩ := h
  exact ⟨k, h1.1, fun z e => Nat.le_trans (h3 z e) (by decide)⟩
structure Ot (K : PySem.W.Frag) (d w c : Addr) (B : Int) (H0 H : Hp) (xs : List V) : Prop where
  ds : Ds d w c B H0 H
  al : ∀ x ∈ xs, OddT K (hd2 d w H) x
section
variable {K : PySem.W.Frag} {d w c p : Addr} {B : Int} {H0 H H' : Hp} {xs ys : List V}
theorem Ot.start (h : Dr d w c B H) : Ot K d w c B H H [] := ⟨⟨h, Same.refl _⟩, fun x hx => by cases hx⟩
theorem Ot.add {v : V} (O : Ot K d w c B H0 H xs) (h : OddT K (hd2 d w H) v) : Ot K d w c B H0 H (xs ++ [v]) := ⟨O.ds, fun x hx => (List.mem_append.mp hx).elim (O.al x) fun e => List.mem_singleton.mp e ▸ h⟩
theorem Ot.same (O : Ot K d w c B H0 H xs) (s : Same H H') : Ot K d w c B H0 H' xs := ⟨O.ds.same s, fun x hx => (O.al x hx).same (hd2_same s)⟩
theorem Ot.new {o : HO} (O : Ot K d w c B H0 H xs) (hp : H p = none) : Ot K d w c B H0 (upd H p o) xs := O.same (Evl.Ex.new hp)
theorem Ot.at {o : HO} (O : Ot K d w c B H0 H xs) (hp : H p = none) : hd2 d w (upd H p o) p = some o := O.ds.at hp
theorem Ot.n (O : Ot K d w c B H0 H xs) : Ot K d w c B H0 H (xs ++ [.non]) := O.add ⟨.non, [], ⟨.non, fun e => by cases e⟩, by decide, fun z e => (by cases e), fun i e => (by cases e), fun e => (by cases e), rfl, rfl⟩
theorem Ot.b (O : Ot K d w c B H0 H xs) (b : Bool) : Ot K d w c B H0 H (xs ++ [.bl b]) := O.add ⟨.bl, [], ⟨.bl b, fun e => by cases e⟩, by decide, fun z e => (by cases e), fun i e => (by cases e), fun e => (by cases e), rfl, rfl⟩
theorem Ot.i (O : Ot K d w c B H0 H xs) (i : Int) (h : i.natAbs < 2 ^ 110) : Ot K d w c B H0 H (xs ++ [.int i]) := O.add ⟨.int, [], ⟨.int i, fun e => by cases e⟩, by decide, fun z e => (by cases e), fun j e => (by cases e; exact h), fun e => (by cases e), rfl, rfl⟩
theorem tx_len {z : Str} (h : txV (.str z) = true) : z.length ≤ 9 := by
  have h : (decide (z.length ≤ 9) && PyData.strOk z) = true := h
  rw [Bool.and_eq_true, decide_eq_true_eq] at h
  exact h.1
theorem Ot.s (O : Ot K d w c B H0 H xs) (z : Str) (h0 : txV (.str z) = true) : Ot K d w c B H0 H (xs ++ [.str z]) := O.add ⟨.str, [], ⟨.str z, fun e => by cases e⟩, by decide, fun z e => (by cases e; exact tx_len h0), fun i e => (by cases e), fun e => (by cases e), h0, rfl⟩
theorem Ot.own (O : Ot K d w c B H0 H xs) (hp : H p = none) : Ot K d w c B H0 (upd H p (.lst xs)) xs ∧ hd2 d w (upd H p (.lst xs)) p = some (.lst xs) := ⟨O.new hp, O.at hp⟩
/-- an instance that is new -/
theorem Ot.o {C dx : Addr} {fs : List (Str × V)} (O : Ot K d w c B H0 H xs) (hp : H p = none) (s : Same H H') (e : H' p = some (.ins C dx fs)) (I : InsK K C) : Ot K d w c B H0 H' (xs ++ [.ref p]) := by
  refine (O.same s).add ⟨.ins C, [], ⟨.ins (hd2_mk e ?_ ?_) I, fun e => by cases e⟩, by decide, fun z e => (by cases e), fun i e => (by cases e), fun e => (by cases e), rfl, rfl⟩
  · exact (O.ds.dr.off hp).1
  · exact (O.ds.dr.off hp).2.1
end
end WP
namespace WP
open PySem L2 PySem.Spec PyProof.Rows LamX TL
end WP
namespace WP
open PySem L2 PySem.Spec PyProof.Rows LamX TL
end WP
namespace WP
open PySem L2 PySem.Spec PyProof.Rows LamX
inductive RefsP (H : Hp) : List (Key × V) → List (Str × FileD) → List Addr → Prop
  | nil : RefsP H [] [] []
  | cons {n : Str} {o r : Addr} {f : FileD} {kvs : List (Key × V)} {fs : List (Str × FileD)} {rs : List Addr} : H o = some (.lst [.str "", .ref r]) → H r = some (.lst (f.refers.map V.str)) → RefsP H kvs fs rs → RefsP H ((.inr n, .ref o) :: kvs) ((n, f) :: fs) (r :: rs)
section
variable {H H' : Hp} {kvs kvs' : List (Key × V)} {fs fs' : List (Str × FileD)} {rs rs' : List Addr}
theorem RefsP.same (h : RefsP H kvs fs rs) (s : Same H H') : RefsP H' kvs fs rs := by
  induction h with
  | nil => exact .nil
  | cons h1 h2 _ ih => exact .cons (s _ _ h1) (s _ _ h2) ih
theorem RefsP.app (h : RefsP H kvs fs rs) (h' : RefsP H kvs' fs' rs') : RefsP H (kvs ++ kvs') (fs ++ fs') (rs ++ rs') := by
  induction h with
  | nil => exact h'
  | cons h1 h2 _ ih => exact .cons h1 h2 ih
theorem RefsP.keys (h : RefsP H kvs fs rs) : kvs.map (·.1) = (fs.map (·.1)).map Sum.inr := by
  induction h with
  | nil => rfl
  | cons _ _ _ ih => simp [ih]
theorem RefsP.len (h : RefsP H kvs fs rs) : rs.length = fs.length := by
  induction h with
  | nil => rfl
  | cons _ _ _ ih => simp [ih]
theorem RefsP.ex (h : RefsP H kvs fs rs) : ∀ r ∈ rs, ∃ l : List Str, H r = some (.lst (l.map V.str)) := by
  induction h with
  | nil => intro r hr; cases hr
  | @cons n o r f kvs fs rs h1 h2 _ ih =>
    intro x hx
    rcases List.mem_cons.mp hx with rfl | hx
    · exact ⟨_, h2⟩
    · exact ih x hx
theorem RefsP.at (h : RefsP H kvs fs rs) {n : Str} {f : FileD} (e : lkF fs n = some f) : ∃ (i : Nat) (o r : Addr), fs[i]? = some (n, f) ∧ rs[i]? = some r ∧ valV kvs (.inr n) = some (.ref o) ∧ H o = some (.lst [.str "", .ref r]) ∧ H r = some (.lst (f.refers.map V.str)) := by
  induction h with
  | nil => cases e
  | @cons k o r g kvs fs rs h1 h2 _ ih =>
    by_cases z : k = n
    · subst z
      rw [lkF_hit (fs := fs)] at e
      cases e
      exact ⟨0, o, r, rfl, rfl, valV_pos rfl, h1, h2⟩
    · rw [lkF_skip z] at e
      obtain ⟨i, o', r', a1, a2, a3, a4⟩ := ih e
      exact ⟨i + 1, o', r', a1, a2, by rw [valV_neg (fun q => z (Sum.inr.inj q))]; exact a3, a4⟩
theorem RefsP.other {p : Addr} {o' : HO} (h : RefsP H kvs fs rs) (hp : p ∉ rs) (hf : ∀ r : Addr, H p ≠ some (.lst [.str "", .ref r])) : RefsP (upd H p o') kvs fs rs := by
  induction h with
  | nil => exact .nil
  | @cons n o r f kvs fs rs h1 h2 _ ih =>
    exact .cons (by rw [upd_ne (fun z => hf r (by have h4 := h1; rw [z] at h4; exact h4))]; exact h1) (by rw [upd_ne (fun z => hp (by rw [← z]; exact List.mem_cons_self))]; exact h2) (ih fun hm => hp (List.mem_cons_of_mem _ hm))
end
end WP
namespace WP
open PySem PySem.Calls PyProof.Rows PyProof.V PySem.Spec PySem.W
open L2
end WP
namespace WP
open PySem L2 PySem.Spec PyProof.Rows
/-- the last place up to i at which x stands in its row -/
def lastAt (rows : List (List Str)) (x : Str) : Nat → Nat
  | 0 => 0
  | i + 1 => if x ∈ rows.getD (i + 1) [] then i + 1 else lastAt rows x i
def numKv (rows : List (List Str)) (i : Nat) : List (Key × V) := (rows.getD 0 []).map fun x => (.inr x, .int (lastAt rows x i))
def RowsT (H : Hp) (ts : List Addr) (rows : List (List Str)) : Prop := ts.length = rows.length ∧ ∀ (i : Nat) (r : Addr) (ks : List Str), ts[i]? = some r → rows[i]? = some ks → H r = some (.tup (ks.map V.str))
theorem RowsT.same {H H' : Hp} {ts : List Addr} {rows : List (List Str)} (h : RowsT H ts rows) (s : Same H H') : RowsT H' ts rows := ⟨h.1, fun i r ks h1 h2 => s _ _ (h.2 i r ks h1 h2)⟩
def NumsT (H : Hp) (ds : List Addr) (rows : List (List Str)) (n : Nat) : Prop := ds.length = n ∧ ∀ (i : Nat) (d : Addr), ds[i]? = some d → H d = some (.dK (numKv rows i))
theorem NumsT.same {H H' : Hp} {ds : List Addr} {rows : List (List Str)} {n : Nat} (h : NumsT H ds rows n) (s : Same H H') : NumsT H' ds rows n := ⟨h.1, fun i d e => s _ _ (h.2 i d e)⟩
theorem NumsT.snoc {H : Hp} {ds : List Addr} {rows : List (List Str)} {n : Nat} {d : Addr} (h : NumsT H ds rows n) (e : H d = some (.dK (numKv rows n))) : NumsT H (ds ++ [d]) rows (n + 1) := by
  refine ⟨by rw [List.length_append, h.1]; rfl, fun i q hq => ?_⟩
  by_cases hi : i < ds.length
  · rw [List.getElem?_append_left hi] at hq
    exact h.2 i q hq
  · have il : i < (ds ++ [d]).length := (List.getElem?_eq_some_iff.mp hq).1
    rw [List.length_append, List.length_singleton] at il
    have ii : i = ds.length := by omega
    rw [ii, List.getElem?_append_right (Nat.le_refl _), Nat.sub_self] at hq
    cases hq
    rw [ii, h.1]
    exact e
/-- the rows of some changes: all names, and for each change what it reaches -/
structure RowsOk (m : MdD) (s : SiteD) (css rows : List (List Str)) : Prop where
  len : rows.length = css.length + 1
  hd : rows[0]? = some (s.files.map (·.1))
  cl : ∀ (i : Nat) (ks r : List Str), css[i]? = some ks → rows[i + 1]? = some r → CloR m ks r
/-- changes that are right -/
def ChOk (m : MdD) (css : List (List Str)) : Prop := css.length ≤ 30 ∧ ∀ ks ∈ css, ks ≠ [] ∧ ks.Nodup ∧ ∀ n ∈ ks, n ∈ m.files.map (·.1)
theorem RowsT.cons {H : Hp} {t : Addr} {ts : List Addr} {row : List Str} {rows : List (List Str)} (h0 : H t = some (.tup (row.map V.str))) (h : RowsT H ts rows) : RowsT H (t :: ts) (row :: rows) := by
  refine ⟨by rw [List.length_cons, List.length_cons, h.1], fun i r z e1 e2 => ?_⟩
  cases i with
  | zero => cases e1; cases e2; exact h0
  | succ i => exact h.2 i r z e1 e2
end WP
namespace WP
open PySem L2 PySem.Spec PyProof.Rows
def EdAt (K : PySem.W.Frag) (CD : Addr) (H : Hp) (v sv : V) (rows : List (List Str)) : Prop := ∃ (a dx t l : Addr) (ts ds : List Addr), v = .ref a ∧ H a = some (.ins CD dx [("own_site", sv), ("own_changed", .ref t), ("own_numbers", .ref l)]) ∧ H t = some (.tup (ts.map V.ref)) ∧ RowsT H ts rows ∧ H l = some (.lst (ds.map V.ref)) ∧ NumsT H ds rows rows.length
theorem EdAt.same {K : PySem.W.Frag} {CD : Addr} {H H' : Hp} {v sv : V} {rows : List (List Str)} (h : EdAt K CD H v sv rows) (s : Same H H') : EdAt K CD H' v sv rows := by
  obtain ⟨a, dx, t, l, ts, ds, e, h1, h2, h3, h4, h5⟩ := h
  exact ⟨a, dx, t, l, ts, ds, e, s _ _ h1, s _ _ h2, h3.same s, s _ _ h4, h5.same s⟩
def ErrN (CE : Addr) (H : Hp) (E : XK) (n : V) : Prop := ∀ d H', Same H H' → H' d = some (.xd [("number", n)]) → E (.ref CE) (some d) H'
theorem ErrN.at {CE : Addr} {H H1 : Hp} {E : XK} {n : V} (h : ErrN CE H E n) (s : Same H H1) {d : Addr} (hd : H1 d = none) : E (.ref CE) (some d) (upd H1 d (.xd [("number", n)])) := h d _ (s.trans (Evl.Ex.new hd)) upd_same
theorem ErrN.same {CE : Addr} {H H1 : Hp} {E : XK} {n : V} (h : ErrN CE H E n) (s : Same H H1) : ErrN CE H1 E n := fun d H' s' => h d H' (s.trans s')
/-- the next edition that changes a file -/
def nextAt (rows : List (List Str)) (x : Str) (i : Nat) : Option Nat := ((List.range' (i + 1) (rows.length - (i + 1))).filter fun j => decide (x ∈ rows.getD j [])).head?
def endV : Option Nat → V
  | some j => .int ((j : Int) - 1)
  | none => .non
end WP
namespace WP
open PySem L2 PySem.Spec PyProof.Rows
structure LRowsOk (m : MdD) (css rows : List (List Str)) : Prop where
  len : rows.length = css.length + 1
  hd : ∃ ys : List Str, rows[0]? = some ys ∧ ys.Perm (m.files.map (·.1)) ∧ sortedS ys = true
  cl : ∀ (i : Nat) (ks r : List Str), css[i]? = some ks → rows[i + 1]? = some r → CloR m ks r
/-- lists of texts, one for each row -/
def RowsL (H : Hp) (rs : List Addr) (rows : List (List Str)) : Prop := rs.length = rows.length ∧ ∀ (i : Nat) (r : Addr) (ks : List Str), rs[i]? = some r → rows[i]? = some ks → H r = some (.lst (ks.map V.str))
theorem RowsL.same {H H' : Hp} {ts : List Addr} {rows : List (List Str)} (h : RowsL H ts rows) (s : Same H H') : RowsL H' ts rows := ⟨h.1, fun i r ks h1 h2 => s _ _ (h.2 i r ks h1 h2)⟩
theorem RowsL.snoc {H : Hp} {ts : List Addr} {rows : List (List Str)} {t : Addr} {row : List Str} (h : RowsL H ts rows) (e : H t = some (.lst (row.map V.str))) : RowsL H (ts ++ [t]) (rows ++ [row]) := by
  refine ⟨by rw [List.length_append, List.length_append, h.1]; rfl, fun i r ks h1 h2 => ?_⟩
  by_cases hi : i < ts.length
  · rw [List.getElem?_append_left hi] at h1
    rw [List.getElem?_append_left (by rw [← h.1]; exact hi)] at h2
    exact h.2 i r ks h1 h2
  · have il : i < (ts ++ [t]).length := (List.getElem?_eq_some_iff.mp h1).1
    rw [List.length_append, List.length_singleton] at il
    have ii : i = ts.length := by omega
    rw [ii, List.getElem?_append_right (Nat.le_refl _), Nat.sub_self] at h1
    rw [ii, h.1, List.getElem?_append_right (Nat.le_refl _), Nat.sub_self] at h2
    cases h1
    cases h2
    exact e
end WP
namespace WP
open PySem L2 PySem.Spec PyProof.Rows
theorem rows_uniq {s : SiteD} {m : MdD} {css rows rows' : List (List Str)} (sm : SiteM s m) (h : RowsOk m s css rows) (g : LRowsOk m css rows') : rows = rows' := by
  have l1 := h.len
  have l2 := g.len
  refine List.ext_getElem? fun i => ?_
  cases i with
  | zero =>
    obtain ⟨ys, e, pm, so⟩ := g.hd
    rw [h.hd, e]
    exact congrArg some (sorted_uniq ((sm.fs.map _).trans pm.symm) sm.ok.so so)
  | succ i =>
    by_cases hi : i < css.length
    · have a1 : i + 1 < rows.length := by omega
      have a2 : i + 1 < rows'.length := by omega
      rw [List.getElem?_eq_getElem a1, List.getElem?_eq_getElem a2]
      exact congrArg some (CloR.uniq (h.cl i _ _ (List.getElem?_eq_getElem hi) (List.getElem?_eq_getElem a1)) (g.cl i _ _ (List.getElem?_eq_getElem hi) (List.getElem?_eq_getElem a2)) fun _ => Iff.rfl)
    · rw [List.getElem?_eq_none (by omega), List.getElem?_eq_none (by omega)]
theorem EdAt.up {K : PySem.W.Frag} {CD : Addr} {H G : Hp} {v sv : V} {rows : List (List Str)} (h : EdAt K CD (fr H G) v sv rows) : EdAt K CD G v sv rows := h.same fr_sub
theorem EdAt.hd {K : PySem.W.Frag} {CD d w c : Addr} {B : Int} {H G : Hp} {v sv : V} {rows : List (List Str)} (h : EdAt K CD (fr H G) v sv rows) (D : Dr d w c B H) : EdAt K CD (hd2 d w G) v sv rows := h.same (fr_hd2 D)
structure RGood (m : MdD) (rows : List (List Str)) : Prop where
  pos : 0 < rows.length
  few : rows.length ≤ 31
  nd0 : (rows.getD 0 []).Nodup
  hd0 : ∀ x, x ∈ rows.getD 0 [] ↔ x ∈ m.files.map (·.1)
  so0 : sortedS (rows.getD 0 []) = true
  all : ∀ i, (∀ x ∈ rows.getD i [], x ∈ m.files.map (·.1)) ∧ (rows.getD i []).Nodup ∧ (rows.getD i []).length ≤ 8
theorem RGood.at {m : MdD} {rows : List (List Str)} (h : RGood m rows) {i : Nat} {r : List Str} (e : rows[i]? = some r) : rows.getD i [] = r := by rw [List.getD_eq_getElem?_getD, e]; rfl
end WP
namespace WP
open PySem PySem.Spec PyProof.Rows L2 LamX
def LamV (X : Cx) (params : Arguments) (body : Expr) (scope : Scope) (f c' : Addr) : HO := .ext fun h => ∃ pm ctv : Value, h.get? f = some (PySem.W.kla_obj "<lambda>" (X.env.qual ++ "<lambda>") params body scope (cloFrom X.env.cells scope.names []) pm c' ctv)
theorem lamV_ne {X : Cx} {params : Arguments} {body : Expr} {scope : Scope} {f c' : Addr} (ps : Array Value) : LamV X params body scope f c' ≠ .tbl ps := fun z => by
  unfold LamV at z
  cases z
end WP
namespace WP
open PySem PySem.Spec PyProof.Rows L2 LamX
section
variable {K : PySem.W.Frag} {CD : Addr} {H H' : Hp} {v sv : V} {rows : List (List Str)} {ts ds : List Addr} {n : Nat}
theorem RowsT.ext (h : RowsT H ts rows) (e : ExtN H H') : RowsT H' ts rows := ⟨h.1, fun i r ks h1 h2 => e _ _ (h.2 i r ks h1 h2) fun _ z => by cases z⟩
theorem NumsT.ext (h : NumsT H ds rows n) (e : ExtN H H') : NumsT H' ds rows n := ⟨h.1, fun i d h1 => e _ _ (h.2 i d h1) fun _ z => by cases z⟩
theorem RowsL.ext (h : RowsL H ts rows) (e : ExtN H H') : RowsL H' ts rows := ⟨h.1, fun i r ks h1 h2 => e _ _ (h.2 i r ks h1 h2) fun _ z => by cases z⟩
theorem EdAt.ext (h : EdAt K CD H v sv rows) (s : ExtN H H') : EdAt K CD H' v sv rows := by
  obtain ⟨a, dx, t, l, ts, ds, e, h1, h2, h3, h4, h5⟩ := h
  exact ⟨a, dx, t, l, ts, ds, e, s _ _ h1 (fun _ z => by cases z), s _ _ h2 (fun _ z => by cases z), h3.ext s, s _ _ h4 (fun _ z => by cases z), h5.ext s⟩
end
/-- a thing that is no table is written: the frame that was ahead of it stands -/
theorem Lx.mut {d w c L : Addr} {B : Int} {T : List (Addr × Str)} {H0 Hb H : Hp} {xs : List V} {o : HO} (x0 : Lx d w c B T H0 Hb) (e : ExtN Hb H) (t : Tabs T H) (hL : Hb L = none ∨ FreeT Hb L) (hl : H L = some (.lst xs)) : Lx d w c B T H0 (upd H L o) :=
  x0.lam (extN_mut e (hL.elim (fun h => fun o ho => by rw [h] at ho; cases ho) id)) (Tabs.put t hl)
/-- a lambda that is kept in a list -/
structure LmA (H : Hp) (f c : Addr) (o : HO) (q : Str) : Prop where
  fn : H f = some o
  cd : H c = some (CodeO c q)
  nl : ∀ xs, o ≠ .lst xs
  nt : ∀ ps, o ≠ .tbl ps
theorem LmA.ext {H H' : Hp} {f c : Addr} {o : HO} {q : Str} (h : LmA H f c o q) (e : ExtN H H') : LmA H' f c o q := ⟨e _ _ h.fn h.nt, e _ _ h.cd codeO_ne, h.nl, h.nt⟩
theorem LmA.of {X : Cx} {params : Arguments} {body : Expr} {scope : Scope} {f c : Addr} {H : Hp} {q : Str} (hf : H f = none) (hc : H c = some (CodeO c q)) : LmA (upd H f (LamV X params body scope f c)) f c (LamV X params body scope f c) q :=
  ⟨upd_same, by rw [upd_ne (fun z => by rw [z, hf] at hc; cases hc)]; exact hc, (fun xs z => by unfold LamV at z; cases z), lamV_ne⟩
end WP
namespace WP
open PySem PySem.Spec PyProof.Rows L2 LamX
def KeptA (K : PySem.W.Frag) (CD : Addr) (H : Hp) (t : Addr) : Prop := ∃ (v sv : V) (b : Addr) (rs : List Addr) (rows : List (List Str)) (m : MdD), H t = some (.tup [v, .ref b]) ∧ EdAt K CD H v sv rows ∧ H b = some (.lst (rs.map V.ref)) ∧ RowsL H rs rows ∧ MdOk m ∧ RGood m rows
section
variable {K : PySem.W.Frag} {CD : Addr} {H H' : Hp} {t p : Addr} {xs : List V} {o : HO}
theorem KeptA.ext (h : KeptA K CD H t) (e : ExtN H H') : KeptA K CD H' t := by
  obtain ⟨v, sv, b, rs, rows, m, h1, h2, h3, h4, h5, h6⟩ := h
  exact ⟨v, sv, b, rs, rows, m, e _ _ h1 (fun _ z => by cases z), h2.ext e, e _ _ h3 (fun _ z => by cases z), h4.ext e, h5, h6⟩
end
theorem RowsL.hd {d w c : Addr} {B : Int} {H H' : Hp} {rs : List Addr} {rows : List (List Str)} (h : RowsL H' rs rows) (n : ∀ r ∈ rs, H r = none) (D : Dr d w c B H) : RowsL (hd2 d w H') rs rows := ⟨h.1, fun i r ks h1 h2 => by
  obtain ⟨o1, o2, _⟩ := D.off (n r (List.mem_of_getElem? h1))
  exact hd2_mk (h.2 i r ks h1 h2) o1 o2⟩
end WP
namespace WP
open PySem PySem.Spec PyProof.Rows L2
theorem filt1 {α : Type} {p : α → Bool} {x : α} (e : p x = true) : [x].filter p = [x] := by
  rw [List.filter_cons_of_pos e]
  rfl
theorem filt0 {α : Type} {p : α → Bool} {x : α} (e : ¬ p x = true) : [x].filter p = [] := by
  rw [List.filter_cons_of_neg e]
  rfl
def bitKv (bit : List (Str × Nat)) : List (Key × V) := bit.map fun q => (.inr q.1, .int (q.2 : Nat))
def bitAt (bit : List (Str × Nat)) (x : Str) : Nat := match bit with
  | [] => 0
  | q :: r => if q.1 = x then q.2 else bitAt r x
structure BitOk (rows : List (List Str)) (bit : List (Str × Nat)) : Prop where
  nd : (bit.map (·.1)).Nodup
  few : bit.length ≤ 8
  ct : ∀ q ∈ bit, q.1 ∈ rows.getD 0 [] ∧ q.2 < rows.length ∧ q.1 ∈ rows.getD q.2 []
theorem bitAt_of : ∀ {bit : List (Str × Nat)} {q : Str × Nat}, (bit.map (·.1)).Nodup → q ∈ bit → bitAt bit q.1 = q.2
  | p :: r, q, nd, h => by
    obtain ⟨h1, h2⟩ := List.nodup_cons.mp nd
    show (if p.1 = q.1 then p.2 else bitAt r q.1) = q.2
    rcases List.mem_cons.mp h with rfl | h
    · exact if_pos rfl
    · rw [if_neg (fun z => h1 (List.mem_map.mpr ⟨q, h, z.symm⟩))]
      exact bitAt_of h2 h
theorem bit_val : ∀ {bit : List (Str × Nat)} {x : Str}, x ∈ bit.map (·.1) → valV (bitKv bit) (.inr x) = some (.int (bitAt bit x : Nat))
  | p :: r, x, h => by
    show valV ((.inr p.1, .int (p.2 : Nat)) :: bitKv r) (.inr x) = some (.int ((if p.1 = x then p.2 else bitAt r x : Nat) : Int))
    by_cases e : p.1 = x
    · rw [if_pos e, ← e]
      exact dv1
    · rw [if_neg e]
      refine (dv2 e).trans (bit_val ?_)
      rcases List.mem_cons.mp h with z | z
      · exact absurd z.symm e
      · exact z
theorem BitOk.val {rows : List (List Str)} {bit : List (Str × Nat)} (h : BitOk rows bit) {q : Str × Nat} (hq : q ∈ bit) : valV (bitKv bit) (.inr q.1) = some (.int (q.2 : Nat)) := by
  rw [bit_val (List.mem_map.mpr ⟨q, hq, rfl⟩), bitAt_of h.nd hq]
def ltO (k : Nat) : Option Nat → Bool
  | none => true
  | some j => decide (k < j)
/-- is an edition in a stretch? -/
def hasEd (i : Nat) (nx : Option Nat) (k : Nat) : Bool := decide (i ≤ k) && ltO k nx
def hasAll (rows : List (List Str)) (bit : List (Str × Nat)) (k : Nat) : Bool := bit.all fun q => decide (lastAt rows q.1 k = q.2)
/-- the editions that have all of a piece -/
def hasL (rows : List (List Str)) (bit : List (Str × Nat)) : List Nat := (List.range rows.length).filter (hasAll rows bit)
def wholeB (rows : List (List Str)) (bit : List (Str × Nat)) : Bool := !(hasL rows bit).isEmpty
def stV (rows : List (List Str)) (bit : List (Str × Nat)) (x : Str) : List V := [.int (bitAt bit x : Nat), endV (nextAt rows x (bitAt bit x))]
def StrsT (H : Hp) (ts : List Addr) (ys : List Str) (rows : List (List Str)) (bit : List (Str × Nat)) : Prop := ts.length = ys.length ∧ ∀ (i : Nat) (t : Addr) (x : Str), ts[i]? = some t → ys[i]? = some x → H t = some (.tup (stV rows bit x))
section
variable {H H' : Hp} {ts : List Addr} {ys : List Str} {rows : List (List Str)} {bit : List (Str × Nat)} {D : Addr} {o o' : HO}
theorem StrsT.same (h : StrsT H ts ys rows bit) (s : Same H H') : StrsT H' ts ys rows bit := ⟨h.1, fun i t x h1 h2 => s _ _ (h.2 i t x h1 h2)⟩
theorem StrsT.snoc {t : Addr} {x : Str} (h : StrsT H ts ys rows bit) (e : H t = some (.tup (stV rows bit x))) : StrsT H (ts ++ [t]) (ys ++ [x]) rows bit := by
  refine ⟨by rw [List.length_append, List.length_append, h.1]; rfl, fun i r z h1 h2 => ?_⟩
  by_cases hi : i < ts.length
  · rw [List.getElem?_append_left hi] at h1
    rw [List.getElem?_append_left (by rw [← h.1]; exact hi)] at h2
    exact h.2 i r z h1 h2
  · have il : i < (ts ++ [t]).length := (List.getElem?_eq_some_iff.mp h1).1
    rw [List.length_append, List.length_singleton] at il
    have ii : i = ts.length := by omega
    rw [ii, List.getElem?_append_right (Nat.le_refl _), Nat.sub_self] at h1
    rw [ii, h.1, List.getElem?_append_right (Nat.le_refl _), Nat.sub_self] at h2
    cases h1
    cases h2
    exact e
end
def PairsT (H : Hp) (ts : List Addr) (ps : List (Str × Str)) : Prop := ts.length = ps.length ∧ ∀ (i : Nat) (t : Addr) (q : Str × Str), ts[i]? = some t → ps[i]? = some q → H t = some (.tup [.str q.1, .str q.2])
section
variable {H H' : Hp} {ts : List Addr} {ps : List (Str × Str)} {D t : Addr} {o o' : HO} {q : Str × Str}
theorem PairsT.same (h : PairsT H ts ps) (s : Same H H') : PairsT H' ts ps := ⟨h.1, fun i t x h1 h2 => s _ _ (h.2 i t x h1 h2)⟩
theorem PairsT.snoc (h : PairsT H ts ps) (e : H t = some (.tup [.str q.1, .str q.2])) : PairsT H (ts ++ [t]) (ps ++ [q]) := by
  refine ⟨by rw [List.length_append, List.length_append, h.1]; rfl, fun i r z h1 h2 => ?_⟩
  by_cases hi : i < ts.length
  · rw [List.getElem?_append_left hi] at h1
    rw [List.getElem?_append_left (by rw [← h.1]; exact hi)] at h2
    exact h.2 i r z h1 h2
  · have il : i < (ts ++ [t]).length := (List.getElem?_eq_some_iff.mp h1).1
    rw [List.length_append, List.length_singleton] at il
    have ii : i = ts.length := by omega
    rw [ii, List.getElem?_append_right (Nat.le_refl _), Nat.sub_self] at h1
    rw [ii, h.1, List.getElem?_append_right (Nat.le_refl _), Nat.sub_self] at h2
    cases h1
    cases h2
    exact e
end
def pairD (q : Str × Str) : PyData := .tuple [.str q.1, .str q.2]
theorem PairsT.dp {K : PySem.W.Frag} {H : Hp} : ∀ {ts : List Addr} {ps : List (Str × Str)}, PairsT H ts ps → DpAll K H (ts.map V.ref) (ps.map pairD)
  | [], [], _ => .nil
  | [], _ :: _, h => by cases h.1
  | _ :: _, [], h => by cases h.1
  | t :: ts, q :: ps, h => .cons (.tup (SqT.of (h.2 0 t q rfl rfl)) (.cons (.str _) (.cons (.str _) .nil))) (PairsT.dp ⟨Nat.succ.inj h.1, fun i t x h1 h2 => h.2 (i + 1) t x h1 h2⟩)
/-- editions, their site and a piece -/
structure PcAt (K : PySem.W.Frag) (CD CS CF : Addr) (H : Hp) (v : V) (p : Addr) (sv : V) (s : SiteD) (rows : List (List Str)) (bit : List (Str × Nat)) : Prop where
  ed : EdAt K CD (del H p) v sv rows
  st : SiteAt K CS CF (del H p) sv s
  pc : H p = some (.dK (bitKv bit))
  ok : BitOk rows bit
  nm : ∀ x ∈ bit.map (·.1), x ∈ s.files.map (·.1) ∧ x.length ≤ 8
  few : rows.length ≤ 31
  pos : 0 < rows.length
theorem PcAt.same {K : PySem.W.Frag} {CD CS CF p : Addr} {H H' : Hp} {v sv : V} {s : SiteD} {rows : List (List Str)} {bit : List (Str × Nat)} (h : PcAt K CD CS CF H v p sv s rows bit) (z : Same H H') : PcAt K CD CS CF H' v p sv s rows bit :=
  ⟨h.ed.same (del_mono z), h.st.same (del_mono z), z _ _ h.pc, h.ok, h.nm, h.few, h.pos⟩
/-- the law's rows and a piece -/
structure LpAt (H : Hp) (a b : Addr) (rs : List Addr) (rows : List (List Str)) (bit : List (Str × Nat)) : Prop where
  rw : del H b a = some (.lst (rs.map V.ref))
  at' : KdsAt (del H b) rs rows
  pc : H b = some (.dK (bitKv bit))
  ok : BitOk rows bit
  few : rows.length ≤ 31
theorem LpAt.same {H H' : Hp} {a b : Addr} {rs : List Addr} {rows : List (List Str)} {bit : List (Str × Nat)} (h : LpAt H a b rs rows bit) (s : Same H H') : LpAt H' a b rs rows bit := ⟨del_mono s _ _ h.rw, h.at'.same (del_mono s), s _ _ h.pc, h.ok, h.few⟩
end WP
namespace WP
open PySem PySem.Spec PyProof.Rows L2
def pDn (n : Int) (ss : List Str) : PyData := .tuple [.int n, .tuple (ss.map PyData.str)]
theorem toks_pD (n : Int) (ss : List Str) : PySem.W.keyToks (pDn n ss) = .inl 1 :: .inl n :: .inl 1 :: (PySem.W.keyToksAll (ss.map PyData.str) ++ [.inl 0]) := by
  unfold pDn
  rw [PySem.W.keyToks, PySem.W.keyToksAll, PySem.W.keyToksAll, PySem.W.keyToksAll, PySem.W.keyToks, PySem.W.keyToks]
  rfl
theorem str_ext {x y : Str} (h : x.cps.toList = y.cps.toList) : x = y := by
  cases x
  cases y
  exact congrArg _ (Array.toList_inj.mp h)
theorem toks_inj : ∀ {ss tt : List Str} {r q : List (Int ⊕ List Nat)}, PySem.W.keyToksAll (ss.map PyData.str) ++ r = PySem.W.keyToksAll (tt.map PyData.str) ++ q → ss = tt
  | [], [], _, _, _ => rfl
  | [], y :: tt, r, q, h => by
    rw [List.map_nil, List.map_cons, PySem.W.keyToksAll, PySem.W.keyToksAll] at h
    have := (List.cons.inj h).1
    exact absurd (Sum.inl.inj this) (by decide)
  | x :: ss, [], r, q, h => by
    rw [List.map_nil, List.map_cons, PySem.W.keyToksAll, PySem.W.keyToksAll] at h
    have := (List.cons.inj h).1
    exact absurd (Sum.inl.inj this) (by decide)
  | x :: ss, y :: tt, r, q, h => by
    rw [List.map_cons, List.map_cons, PySem.W.keyToksAll, PySem.W.keyToksAll, PySem.W.keyToks, PySem.W.keyToks] at h
    have h := (List.cons.inj h).2
    have h : (Sum.inr x.cps.toList : Int ⊕ List Nat) :: (PySem.W.keyToksAll (ss.map PyData.str) ++ r) = Sum.inr y.cps.toList :: (PySem.W.keyToksAll (tt.map PyData.str) ++ q) := h
    obtain ⟨h1, h2⟩ := List.cons.inj h
    rw [str_ext (Sum.inr.inj h1), toks_inj h2]
theorem pD_total {n m : Int} {ss tt : List Str} (h1 : PySem.W.dataLt (pDn n ss) (pDn m tt) = false) (h2 : PySem.W.dataLt (pDn m tt) (pDn n ss) = false) : n = m ∧ ss = tt := by
  have e := lex_total _ _ h1 h2
  rw [toks_pD, toks_pD] at e
  have e := (List.cons.inj e).2
  obtain ⟨e1, e⟩ := List.cons.inj e
  exact ⟨Sum.inl.inj e1, toks_inj (List.cons.inj e).2⟩
theorem pD_less {n m : Int} {ss tt : List Str} (h : n < m) : PySem.W.dataLt (pDn n ss) (pDn m tt) = true := by
  unfold PySem.W.dataLt
  rw [toks_pD, toks_pD, lex_self, lex_cons]
  have : itemOrd.blt (Sum.inl n) (Sum.inl m) = true := decide_eq_true h
  rw [this]
  rfl
/-- pairs of a number and a tuple of texts -/
def NumsS (H : Hp) (ts : List Addr) (ps : List (Int × List Str)) : Prop := ts.length = ps.length ∧ ∀ (i : Nat) (t : Addr) (q : Int × List Str), ts[i]? = some t → ps[i]? = some q → ∃ u, H t = some (.tup [.int q.1, .ref u]) ∧ H u = some (.tup (q.2.map V.str))
section
variable {H H' : Hp} {ts : List Addr} {ps : List (Int × List Str)} {D t u : Addr} {o o' : HO} {q : Int × List Str}
theorem NumsS.same (h : NumsS H ts ps) (s : Same H H') : NumsS H' ts ps := ⟨h.1, fun i t x h1 h2 => by
  obtain ⟨u, a, b⟩ := h.2 i t x h1 h2
  exact ⟨u, s _ _ a, s _ _ b⟩⟩
theorem NumsS.snoc (h : NumsS H ts ps) (e : H t = some (.tup [.int q.1, .ref u])) (e2 : H u = some (.tup (q.2.map V.str))) : NumsS H (ts ++ [t]) (ps ++ [q]) := by
  refine ⟨by rw [List.length_append, List.length_append, h.1]; rfl, fun i r z h1 h2 => ?_⟩
  by_cases hi : i < ts.length
  · rw [List.getElem?_append_left hi] at h1
    rw [List.getElem?_append_left (by rw [← h.1]; exact hi)] at h2
    exact h.2 i r z h1 h2
  · have il : i < (ts ++ [t]).length := (List.getElem?_eq_some_iff.mp h1).1
    rw [List.length_append, List.length_singleton] at il
    have ii : i = ts.length := by omega
    rw [ii, List.getElem?_append_right (Nat.le_refl _), Nat.sub_self] at h1
    rw [ii, h.1, List.getElem?_append_right (Nat.le_refl _), Nat.sub_self] at h2
    cases h1
    cases h2
    exact ⟨u, e, e2⟩
end
theorem NumsS.dp {K : PySem.W.Frag} {H : Hp} : ∀ {ts : List Addr} {ps : List (Int × List Str)}, NumsS H ts ps → DpAll K H (ts.map V.ref) (ps.map fun p => pDn p.1 p.2)
  | [], [], _ => .nil
  | [], _ :: _, h => by cases h.1
  | _ :: _, [], h => by cases h.1
  | t :: ts, q :: ps, h => by
    obtain ⟨u, a, b⟩ := h.2 0 t q rfl rfl
    exact .cons (.tup (SqT.of a) (.cons (.int _) (.cons (.tup (SqT.of b) (dpS _)) .nil))) (NumsS.dp ⟨Nat.succ.inj h.1, fun i t x h1 h2 => h.2 (i + 1) t x h1 h2⟩)
def lostL (rows : List (List Str)) (bit : List (Str × Nat)) (ys : List Str) (k : Nat) : List Str := ys.filter fun x => !decide (lastAt rows x k = bitAt bit x)
theorem RowsT.app {H : Hp} {ts us : List Addr} {r1 r2 : List (List Str)} (h : RowsT H ts r1) (g : RowsT H us r2) : RowsT H (ts ++ us) (r1 ++ r2) := by
  refine ⟨by rw [List.length_append, List.length_append, h.1, g.1], fun i r ks h1 h2 => ?_⟩
  by_cases hi : i < ts.length
  · rw [List.getElem?_append_left hi] at h1
    rw [List.getElem?_append_left (by rw [← h.1]; exact hi)] at h2
    exact h.2 i r ks h1 h2
  · rw [List.getElem?_append_right (by omega)] at h1
    rw [List.getElem?_append_right (by rw [← h.1]; omega), ← h.1] at h2
    exact g.2 _ r ks h1 h2
theorem RowsT.one {H : Hp} {t : Addr} {row : List Str} (h0 : H t = some (.tup (row.map V.str))) : RowsT H [t] [row] := RowsT.cons h0 ⟨rfl, fun i r z e => by cases e⟩
end WP
namespace WP
open PySem PySem.Spec PyProof.Rows L2
abbrev hasI (I : Nat × Option Nat) (t : Nat) : Bool := hasEd I.1 I.2 t
def Cov (n : Nat) (S : List (Nat × Option Nat)) (T : List Nat) : Prop := (∀ t ∈ T, t < n) ∧ ∀ I ∈ S, ∃ t ∈ T, hasI I t = true
def Asc (T : List Nat) : Prop := T.Pairwise (· < ·)
structure MinC (n : Nat) (S : List (Nat × Option Nat)) (k : Nat) : Prop where
  ex : ∃ T, Asc T ∧ T.length = k ∧ Cov n S T
  le : ∀ T, Cov n S T → k ≤ T.length
def IvOk (n : Nat) (S : List (Nat × Option Nat)) : Prop := ∀ I ∈ S, I.1 < n ∧ ∀ j, I.2 = some j → I.1 < j ∧ j < n
theorem IvOk.sub {n : Nat} {S R : List (Nat × Option Nat)} (h : IvOk n S) (s : ∀ I ∈ R, I ∈ S) : IvOk n R := fun I hI => h I (s I hI)
theorem hasI_iff {I : Nat × Option Nat} {t : Nat} : hasI I t = true ↔ I.1 ≤ t ∧ ∀ j, I.2 = some j → t < j := by
  obtain ⟨i, nx⟩ := I
  show hasEd i nx t = true ↔ _
  unfold hasEd
  rw [Bool.and_eq_true, decide_eq_true_eq]
  refine and_congr_right fun _ => ?_
  cases nx with
  | none => exact ⟨fun _ j e => (by cases e), fun _ => rfl⟩
  | some a =>
    show decide (t < a) = true ↔ _
    rw [decide_eq_true_eq]
    exact ⟨fun h j e => (by cases e; exact h), fun h => h a rfl⟩
theorem MinC.nil {n : Nat} : MinC n [] 0 := ⟨⟨[], .nil, rfl, (fun t h => by cases h), fun I h => by cases h⟩, fun _ _ => Nat.zero_le _⟩
theorem MinC.uniq {n a b : Nat} {S : List (Nat × Option Nat)} (h : MinC n S a) (g : MinC n S b) : a = b := by
  obtain ⟨T, _, l, c⟩ := h.ex
  obtain ⟨U, _, m, d⟩ := g.ex
  have := h.le U d
  have := g.le T c
  omega
theorem Cov.above {n e : Nat} {S : List (Nat × Option Nat)} {T : List Nat} (h : Cov n S T) (hs : ∀ I ∈ S, e < I.1) : Cov n S (T.filter fun t => decide (e < t)) := by
  refine ⟨fun t ht => h.1 t (List.mem_filter.mp ht).1, fun I hI => ?_⟩
  obtain ⟨t, ht, hh⟩ := h.2 I hI
  refine ⟨t, List.mem_filter.mpr ⟨ht, decide_eq_true ?_⟩, hh⟩
  have := (hasI_iff.mp hh).1
  have := hs I hI
  omega
theorem filter_less {α : Type} {p : α → Bool} : ∀ {l : List α} {x : α}, x ∈ l → p x = false → (l.filter p).length < l.length
  | y :: l, x, h, hp => by
    rcases List.mem_cons.mp h with rfl | h
    · rw [List.filter_cons, hp]
      show (l.filter p).length < l.length + 1
      have := List.length_filter_le p l
      omega
    · have ih := filter_less h hp
      rw [List.filter_cons]
      cases p y with
      | true => show (l.filter p).length + 1 < l.length + 1; omega
      | false => show (l.filter p).length < l.length + 1; omega
theorem MinC.useful {n e k : Nat} {S : List (Nat × Option Nat)} {T : List Nat} (h : MinC n S k) (hs : ∀ I ∈ S, e < I.1) (c : Cov n S T) (l : T.length = k) : ∀ t ∈ T, e < t := fun t ht => by
  refine Nat.lt_of_not_le fun z => ?_
  have := h.le _ (c.above hs)
  have := filter_less (p := fun t => decide (e < t)) ht (by rw [decide_eq_false_iff_not]; omega)
  omega
theorem edge_step {n e k : Nat} {S : List (Nat × Option Nat)} (ne : S ≠ []) (en : e < n) (he : ∀ I ∈ S, hasI I e = false → e < I.1) (hk : (∃ J ∈ S, ∀ t, hasI J t = true → t ≤ e) ∨ ∀ I ∈ S, hasI I e = true)
    (h : MinC n (S.filter fun I => !hasI I e) k) : MinC n S (k + 1) := by
  have hr : ∀ I ∈ (S.filter fun I => !hasI I e), e < I.1 := fun I hI => by
    obtain ⟨h1, h2⟩ := List.mem_filter.mp hI
    refine he I h1 ?_
    cases q : hasI I e with
    | false => rfl
    | true => rw [q] at h2; cases h2
  constructor
  · obtain ⟨T, a, l, c⟩ := h.ex
    have up := h.useful hr c l
    refine ⟨e :: T, List.pairwise_cons.mpr ⟨up, a⟩, by rw [List.length_cons, l], fun t ht => ?_, fun I hI => ?_⟩
    · rcases List.mem_cons.mp ht with rfl | ht
      · exact en
      · exact c.1 t ht
    · cases q : hasI I e with
      | true => exact ⟨e, List.mem_cons_self, q⟩
      | false =>
        obtain ⟨t, ht, hh⟩ := c.2 I (List.mem_filter.mpr ⟨hI, by rw [q]; rfl⟩)
        exact ⟨t, List.mem_cons_of_mem _ ht, hh⟩
  · intro T c
    rcases hk with ⟨J, hJ, lJ⟩ | hall
    · obtain ⟨p, hp, hh⟩ := c.2 J hJ
      have pe := lJ p hh
      have c2 : Cov n (S.filter fun I => !hasI I e) T := ⟨c.1, fun I hI => c.2 I (List.mem_filter.mp hI).1⟩
      have := h.le _ (c2.above hr)
      have := filter_less (p := fun t => decide (e < t)) hp (by rw [decide_eq_false_iff_not]; omega)
      omega
    · have e0 : (S.filter fun I => !hasI I e) = [] := List.filter_eq_nil_iff.mpr fun I hI => by rw [hall I hI]; decide
      rw [e0] at h
      have := h.uniq MinC.nil
      cases S with
      | nil => exact absurd rfl ne
      | cons I S =>
        obtain ⟨t, ht, _⟩ := c.2 I List.mem_cons_self
        have := List.length_pos_of_mem ht
        omega
theorem edge_ends {n e : Nat} {S : List (Nat × Option Nat)} (ok : IvOk n S) (hm : ∃ J ∈ S, J.2 = some (e + 1)) (hl : ∀ I ∈ S, ∀ j, I.2 = some j → e + 1 ≤ j) : e < n ∧ (∀ I ∈ S, hasI I e = false → e < I.1) ∧ ((∃ J ∈ S, ∀ t, hasI J t = true → t ≤ e) ∨ ∀ I ∈ S, hasI I e = true) := by
  obtain ⟨J, hJ, ej⟩ := hm
  refine ⟨by have := ((ok J hJ).2 _ ej).2; omega, fun I hI hh => ?_, .inl ⟨J, hJ, fun t ht => ?_⟩⟩
  · refine Nat.lt_of_not_le fun z => ?_
    have : hasI I e = true := hasI_iff.mpr ⟨z, fun j hj => by have := hl I hI j hj; omega⟩
    rw [this] at hh
    cases hh
  · have := (hasI_iff.mp ht).2 _ ej
    omega
theorem edge_open {n e : Nat} {S : List (Nat × Option Nat)} (ok : IvOk n S) (ho : ∀ I ∈ S, I.2 = none) (hm : ∃ J ∈ S, J.1 = e) (hl : ∀ I ∈ S, I.1 ≤ e) : e < n ∧ (∀ I ∈ S, hasI I e = false → e < I.1) ∧ ((∃ J ∈ S, ∀ t, hasI J t = true → t ≤ e) ∨ ∀ I ∈ S, hasI I e = true) := by
  have all : ∀ I ∈ S, hasI I e = true := fun I hI => hasI_iff.mpr ⟨hl I hI, fun j hj => by rw [ho I hI] at hj; cases hj⟩
  obtain ⟨J, hJ, ej⟩ := hm
  refine ⟨by have := (ok J hJ).1; omega, fun I hI hh => ?_, .inr all⟩
  rw [all I hI] at hh
  cases hh
def Beats (F T : List Nat) : Prop := ∃ p a b r q, F = p ++ a :: r ∧ T = p ++ b :: q ∧ a < b
theorem Beats.app {F T R : List Nat} (h : Beats F T) : Beats (F ++ R) T := by
  obtain ⟨p, a, b, r, q, e1, e2, l⟩ := h
  exact ⟨p, a, b, r ++ R, q, by rw [e1, List.append_assoc]; rfl, e2, l⟩
structure FpI (n : Nat) (S : List (Nat × Option Nat)) (k : Nat) (F : List Nat) (left : List (Nat × Option Nat)) (m k' : Nat) : Prop where
  kk : F.length + k' = k
  mn : MinC n left k'
  ex : ∃ T, Asc T ∧ T.length = k' ∧ Cov n left T ∧ ∀ t ∈ T, m ≤ t
  sub : ∀ I ∈ left, I ∈ S
  un : ∀ I ∈ left, ∀ t ∈ F, hasI I t = false
  lf : ∀ I ∈ S, I ∈ left ∨ ∃ t ∈ F, hasI I t = true
  am : ∀ t ∈ F, t < m ∧ t < n
  asc : Asc F
  lx : ∀ T, Asc T → T.length = k → Cov n S T → Beats F T ∨ ∃ U, T = F ++ U ∧ ∀ t ∈ U, m ≤ t
theorem FpI.start {n k : Nat} {S : List (Nat × Option Nat)} (h : MinC n S k) : FpI n S k [] S 0 k := by
  obtain ⟨T, a, l, c⟩ := h.ex
  exact ⟨by rw [List.length_nil, Nat.zero_add], h, ⟨T, a, l, c, fun _ _ => Nat.zero_le _⟩, fun _ h => h, (fun I _ t h => by cases h), fun I h => .inl h, (fun t h => by cases h), .nil, fun T _ _ _ => .inr ⟨T, rfl, fun _ _ => Nat.zero_le _⟩⟩
theorem FpI.take {n k k' kr m : Nat} {S left : List (Nat × Option Nat)} {F : List Nat} (h : FpI n S k F left m k') (mn : m < n) (ne : left ≠ []) (hr : MinC n (left.filter fun I => !hasI I m) kr) (c1 : ∀ I ∈ (left.filter fun I => !hasI I m), m < I.1) (c2 : kr < k') :
    FpI n S k (F ++ [m]) (left.filter fun I => !hasI I m) (m + 1) kr := by
  obtain ⟨T2, a2, l2, v2⟩ := hr.ex
  have up := hr.useful c1 v2 l2
  have k1 : k' ≤ kr + 1 := by
    have := h.mn.le (m :: T2) ⟨fun t ht => by
      rcases List.mem_cons.mp ht with rfl | ht
      · exact mn
      · exact v2.1 t ht, fun I hI => by
      cases q : hasI I m with
      | true => exact ⟨m, List.mem_cons_self, q⟩
      | false =>
        obtain ⟨t, ht, hh⟩ := v2.2 I (List.mem_filter.mpr ⟨hI, by rw [q]; rfl⟩)
        exact ⟨t, List.mem_cons_of_mem _ ht, hh⟩⟩
    rw [List.length_cons, l2] at this
    exact this
  refine ⟨by have := h.kk; rw [List.length_append, List.length_singleton]; omega, hr, ⟨T2, a2, l2, v2, up⟩, fun I hI => h.sub I (List.mem_filter.mp hI).1, fun I hI t ht => ?_, fun I hI => ?_, fun t ht => ?_, ?_, fun T aT lT cT => ?_⟩
  · obtain ⟨h1, h2⟩ := List.mem_filter.mp hI
    rcases List.mem_append.mp ht with ht | ht
    · exact h.un I h1 t ht
    · rw [List.mem_singleton.mp ht]
      cases q : hasI I m with
      | false => rfl
      | true => rw [q] at h2; cases h2
  · rcases h.lf I hI with z | ⟨t, ht, hh⟩
    · cases q : hasI I m with
      | true => exact .inr ⟨m, List.mem_append_right _ List.mem_cons_self, q⟩
      | false => exact .inl (List.mem_filter.mpr ⟨z, by rw [q]; rfl⟩)
    · exact .inr ⟨t, List.mem_append_left _ ht, hh⟩
  · rcases List.mem_append.mp ht with ht | ht
    · have := h.am t ht
      exact ⟨by omega, this.2⟩
    · rw [List.mem_singleton.mp ht]
      exact ⟨by omega, mn⟩
  · refine List.pairwise_append.mpr ⟨h.asc, List.pairwise_singleton _ _, fun a ha b hb => ?_⟩
    rw [List.mem_singleton.mp hb]
    exact (h.am a ha).1
  · rcases h.lx T aT lT cT with b | ⟨U, rfl, ge⟩
    · exact .inl b.app
    · cases U with
      | nil =>
        exfalso
        have l1 := lT
        rw [List.append_nil] at l1
        have := h.kk
        have k0 : k' = 0 := by omega
        omega
      | cons t U =>
        have tm := ge t List.mem_cons_self
        rcases Nat.lt_or_ge m t with z | z
        · exact .inl ⟨F, m, t, [], U, rfl, rfl, z⟩
        · have tm : t = m := by omega
          subst tm
          refine .inr ⟨U, by rw [List.append_assoc]; rfl, fun x hx => ?_⟩
          have := (List.pairwise_cons.mp (List.pairwise_append.mp aT).2.1).1 x hx
          omega
/-- what the first of the fewest is -/
structure FirstC (n : Nat) (S : List (Nat × Option Nat)) (k : Nat) (F : List Nat) : Prop where
  asc : Asc F
  len : F.length = k
  cov : Cov n S F
  lx : ∀ T, Asc T → T.length = k → Cov n S T → Beats F T ∨ T = F
theorem FpI.done {n k k' m : Nat} {S left : List (Nat × Option Nat)} {F : List Nat} (h : FpI n S k F left m k') (e : left = [] ∨ n ≤ m) : FirstC n S k F := by
  have e0 : left = [] := by
    rcases e with e | e
    · exact e
    · obtain ⟨T, _, _, c, ge⟩ := h.ex
      cases left with
      | nil => rfl
      | cons I r =>
        obtain ⟨t, ht, _⟩ := c.2 I List.mem_cons_self
        have := c.1 t ht
        have := ge t ht
        omega
  subst e0
  have k0 := h.mn.uniq MinC.nil
  have l := h.kk
  rw [k0, Nat.add_zero] at l
  refine ⟨h.asc, l, ⟨fun t ht => (h.am t ht).2, fun I hI => ?_⟩, fun T a lT c => ?_⟩
  · rcases h.lf I hI with z | z
    · cases z
    · exact z
  · rcases h.lx T a lT c with b | ⟨U, rfl, _⟩
    · exact .inl b
    · rw [List.length_append] at lT
      have : U = [] := List.length_eq_zero_iff.mp (by omega)
      rw [this, List.append_nil]
      exact .inr rfl
def pI (T : List Nat) : PyData := .tuple (T.map fun t : Nat => .int (t : Int))
end WP
namespace WP
open PySem PySem.Spec PyProof.Rows L2
/-- where the first ends -/
inductive IsEdge (S : List (Nat × Option Nat)) (e : Nat) : Prop
  | ends (hm : ∃ J ∈ S, J.2 = some (e + 1)) (hl : ∀ I ∈ S, ∀ j, I.2 = some j → e + 1 ≤ j)
  | opn (ho : ∀ I ∈ S, I.2 = none) (hm : ∃ J ∈ S, J.1 = e) (hl : ∀ I ∈ S, I.1 ≤ e)
theorem IsEdge.step {n e k : Nat} {S : List (Nat × Option Nat)} (h : IsEdge S e) (ok : IvOk n S) (m : MinC n (S.filter fun I => !hasI I e) k) : MinC n S (k + 1) ∧ (S.filter fun I => !hasI I e).length < S.length := by
  cases h with
  | ends hm hl =>
    obtain ⟨a, b, c⟩ := edge_ends ok hm hl
    obtain ⟨J, hJ, ej⟩ := hm
    refine ⟨edge_step (fun z => by rw [z] at hJ; cases hJ) a b c m, filter_less hJ ?_⟩
    have : hasI J e = true := hasI_iff.mpr ⟨by have := ((ok J hJ).2 _ ej).1; omega, fun j hj => by rw [ej] at hj; cases hj; omega⟩
    rw [this]
    rfl
  | opn ho hm hl =>
    obtain ⟨a, b, c⟩ := edge_open ok ho hm hl
    obtain ⟨J, hJ, ej⟩ := hm
    refine ⟨edge_step (fun z => by rw [z] at hJ; cases hJ) a b c m, filter_less hJ ?_⟩
    have : hasI J e = true := hasI_iff.mpr ⟨by omega, fun j hj => by rw [ho J hJ] at hj; cases hj⟩
    rw [this]
    rfl
structure LineI (n : Nat) (S : List (Nat × Option Nat)) (k s : Nat) (line : List (List Nat)) : Prop where
  el : ∀ t ∈ line, Asc t ∧ t.length = s ∧ ∀ x ∈ t, x < n
  has : ∀ T, Asc T → T.length = k → Cov n S T → T.take s ∈ line
  nd : line.Nodup
  sk : s ≤ k
theorem LineI.start {n k : Nat} {S : List (Nat × Option Nat)} : LineI n S k 0 [[]] :=
  ⟨fun t ht => by rw [List.mem_singleton.mp ht]; exact ⟨.nil, rfl, fun x h => by cases h⟩, fun T _ _ _ => by rw [List.take_zero]; exact List.mem_cons_self, List.nodup_cons.mpr ⟨List.not_mem_nil, List.nodup_nil⟩, Nat.zero_le _⟩
def beginOf (t : List Nat) : Nat := match t.getLast? with
  | some x => x + 1
  | none => 0
theorem beginOf_app (t : List Nat) (x : Nat) : beginOf (t ++ [x]) = x + 1 := by
  unfold beginOf
  rw [List.getLast?_append]
  rfl
def growL (b l : Nat) (t : List Nat) : List (List Nat) := (List.range' b (l + 1 - b)).map fun x => t ++ [x]
theorem asc_snoc {t : List Nat} {x : Nat} (h : Asc t) (hx : beginOf t ≤ x) : Asc (t ++ [x]) := by
  refine List.pairwise_append.mpr ⟨h, List.pairwise_singleton _ _, fun a ha b hb => ?_⟩
  rw [List.mem_singleton.mp hb]
  rcases List.eq_nil_or_concat t with rfl | ⟨u, y, rfl⟩
  · cases ha
  · rw [List.concat_eq_append] at *
    rw [beginOf_app] at hx
    rcases List.mem_append.mp ha with ha | ha
    · have := (List.pairwise_append.mp h).2.2 a ha y List.mem_cons_self
      omega
    · rw [List.mem_singleton.mp ha]
      omega
theorem begin_le {t u : List Nat} {x : Nat} (h : Asc (t ++ x :: u)) : beginOf t ≤ x := by
  rcases List.eq_nil_or_concat t with rfl | ⟨v, y, rfl⟩
  · exact Nat.zero_le _
  · rw [List.concat_eq_append] at *
    rw [beginOf_app]
    exact (List.pairwise_append.mp h).2.2 y (List.mem_append_right _ List.mem_cons_self) x List.mem_cons_self
theorem mem_grow {b l : Nat} {t w : List Nat} : w ∈ growL b l t ↔ ∃ x, b ≤ x ∧ x ≤ l ∧ w = t ++ [x] := by
  unfold growL
  rw [List.mem_map]
  constructor
  · rintro ⟨x, hx, rfl⟩
    rw [List.mem_range'_1] at hx
    exact ⟨x, by omega, by omega, rfl⟩
  · rintro ⟨x, h1, h2, rfl⟩
    exact ⟨x, by rw [List.mem_range'_1]; omega, rfl⟩
/-- some stretch that a tuple does not cover ends at l at the latest -/
def LeastP (n : Nat) (S : List (Nat × Option Nat)) (t : List Nat) (l : Nat) : Prop := l < n ∧ ∃ I ∈ S, (∀ y ∈ t, hasI I y = false) ∧ ∀ x, x < n → hasI I x = true → x ≤ l
theorem grow_nd {f : List Nat → Nat} : ∀ {line : List (List Nat)}, line.Nodup → (line.flatMap fun t => growL (beginOf t) (f t) t).Nodup
  | [], _ => List.nodup_nil
  | t :: line, nd => by
    obtain ⟨h1, h2⟩ := List.nodup_cons.mp nd
    rw [List.flatMap_cons]
    refine List.nodup_append.mpr ⟨?_, grow_nd h2, fun a ha b hb e => ?_⟩
    · unfold growL
      refine List.pairwise_map.mpr ((List.nodup_range' (step := 1) (by decide)).imp fun {a b} h e => h ?_)
      exact (List.cons.inj (List.append_cancel_left e)).1
    · obtain ⟨x, _, _, rfl⟩ := mem_grow.mp ha
      obtain ⟨u, hu, hb⟩ := List.mem_flatMap.mp hb
      obtain ⟨y, _, _, rfl⟩ := mem_grow.mp hb
      have := List.append_inj_left' e rfl
      rw [this] at h1
      exact h1 hu
theorem LineI.step {n k s : Nat} {S : List (Nat × Option Nat)} {line : List (List Nat)} {f : List Nat → Nat} (h : LineI n S k s line) (mc : MinC n S k) (no : ∀ t ∈ line, ¬ Cov n S t) (hf : ∀ t ∈ line, LeastP n S t (f t)) : LineI n S k (s + 1) (line.flatMap fun t => growL (beginOf t) (f t) t) := by
  have sk : s < k := by
    refine Nat.lt_of_le_of_ne h.sk fun e => ?_
    obtain ⟨T, a, l, c⟩ := mc.ex
    have := h.has T a l c
    rw [e, ← l, List.take_length] at this
    exact no T this c
  refine ⟨fun w hw => ?_, fun T a l c => ?_, grow_nd h.nd, sk⟩
  · obtain ⟨t, ht, hw⟩ := List.mem_flatMap.mp hw
    obtain ⟨x, h1, h2, rfl⟩ := mem_grow.mp hw
    obtain ⟨e1, e2, e3⟩ := h.el t ht
    refine ⟨asc_snoc e1 h1, by rw [List.length_append, e2]; rfl, fun y hy => ?_⟩
    rcases List.mem_append.mp hy with hy | hy
    · exact e3 y hy
    · rw [List.mem_singleton.mp hy]
      have := (hf t ht).1
      omega
  · have ht := h.has T a l c
    have sl : s < T.length := by omega
    have e := take_at (List.getElem?_eq_getElem sl)
    rw [e]
    refine List.mem_flatMap.mpr ⟨_, ht, mem_grow.mpr ⟨T[s], ?_, ?_, rfl⟩⟩
    · have a2 := a
      rw [← List.take_append_drop s T, List.drop_eq_getElem_cons sl] at a2
      exact begin_le a2
    · obtain ⟨_, I, hI, un, lst⟩ := hf _ ht
      obtain ⟨x, hx, hh⟩ := c.2 I hI
      have xn := c.1 x hx
      have xl := lst x xn hh
      have : T[s] ≤ x := by
        have hx2 := hx
        rw [← List.take_append_drop s T, List.drop_eq_getElem_cons sl] at hx2
        rcases List.mem_append.mp hx2 with z | z
        · rw [un x z] at hh
          cases hh
        · rcases List.mem_cons.mp z with z | z
          · omega
          · have a2 := a
            rw [← List.take_append_drop s T, List.drop_eq_getElem_cons sl] at a2
            have := (List.pairwise_cons.mp (List.pairwise_append.mp a2).2.1).1 x z
            omega
      omega
end WP
namespace WP
open PySem PySem.Spec PyProof.Rows L2
def StI (H : Hp) (ts : List Addr) (Is : List (Nat × Option Nat)) : Prop := ts.length = Is.length ∧ ∀ (i : Nat) (t : Addr) (I : Nat × Option Nat), ts[i]? = some t → Is[i]? = some I → H t = some (.tup [.int (I.1 : Int), endV I.2])
theorem StI.same {H H' : Hp} {ts : List Addr} {Is : List (Nat × Option Nat)} (h : StI H ts Is) (s : Same H H') : StI H' ts Is := ⟨h.1, fun i t x h1 h2 => s _ _ (h.2 i t x h1 h2)⟩
theorem StI.nil {H : Hp} : StI H [] [] := ⟨rfl, fun i t I h => by cases h⟩
theorem StI.snoc {H : Hp} {ts : List Addr} {Is : List (Nat × Option Nat)} {t : Addr} {I : Nat × Option Nat} (h : StI H ts Is) (e : H t = some (.tup [.int (I.1 : Int), endV I.2])) : StI H (ts ++ [t]) (Is ++ [I]) := by
  refine ⟨by rw [List.length_append, List.length_append, h.1]; rfl, fun i r z h1 h2 => ?_⟩
  by_cases hi : i < ts.length
  · rw [List.getElem?_append_left hi] at h1
    rw [List.getElem?_append_left (by rw [← h.1]; exact hi)] at h2
    exact h.2 i r z h1 h2
  · have il : i < (ts ++ [t]).length := (List.getElem?_eq_some_iff.mp h1).1
    rw [List.length_append, List.length_singleton] at il
    have ii : i = ts.length := by omega
    rw [ii, List.getElem?_append_right (Nat.le_refl _), Nat.sub_self] at h1
    rw [ii, h.1, List.getElem?_append_right (Nat.le_refl _), Nat.sub_self] at h2
    cases h1
    cases h2
    exact e
theorem StI.at {H : Hp} {ts : List Addr} {Is : List (Nat × Option Nat)} (h : StI H ts Is) {i : Nat} {t : Addr} (ht : ts[i]? = some t) : ∃ I, Is[i]? = some I ∧ H t = some (.tup [.int (I.1 : Int), endV I.2]) := by
  have il : i < Is.length := by rw [← h.1]; exact (List.getElem?_eq_some_iff.mp ht).1
  have e := List.getElem?_eq_getElem il
  exact ⟨_, e, h.2 i t _ ht e⟩
/-- one of the largest, the least of them -/
def LargestS (l : List (List Str)) (r : List Str) : Prop := r ∈ l ∧ ∀ t ∈ l, PySem.W.dataLt (pDn (-(t.length : Int)) t) (pDn (-(r.length : Int)) r) = false
theorem LargestS.uniq {l : List (List Str)} {r s : List Str} (h : LargestS l r) (g : LargestS l s) : r = s := (pD_total (g.2 r h.1) (h.2 s g.1)).2
end WP
namespace WP
open PySem PySem.Spec PyProof.Rows L2
abbrev nusV (T : List Nat) : List V := T.map fun t : Nat => V.int (t : Int)
def NatsT (H : Hp) (ts : List Addr) (l : List (List Nat)) : Prop := ts.length = l.length ∧ ∀ (i : Nat) (t : Addr) (T : List Nat), ts[i]? = some t → l[i]? = some T → H t = some (.tup (nusV T))
section
variable {H H' : Hp} {ts us : List Addr} {l m : List (List Nat)} {t : Addr} {T : List Nat}
theorem NatsT.same (h : NatsT H ts l) (s : Same H H') : NatsT H' ts l := ⟨h.1, fun i t x h1 h2 => s _ _ (h.2 i t x h1 h2)⟩
theorem NatsT.nil : NatsT H [] [] := ⟨rfl, fun i t I h => by cases h⟩
theorem NatsT.app (h : NatsT H ts l) (g : NatsT H us m) : NatsT H (ts ++ us) (l ++ m) := by
  refine ⟨by rw [List.length_append, List.length_append, h.1, g.1], fun i r ks h1 h2 => ?_⟩
  by_cases hi : i < ts.length
  · rw [List.getElem?_append_left hi] at h1
    rw [List.getElem?_append_left (by rw [← h.1]; exact hi)] at h2
    exact h.2 i r ks h1 h2
  · rw [List.getElem?_append_right (by omega)] at h1
    rw [List.getElem?_append_right (by rw [← h.1]; omega), ← h.1] at h2
    exact g.2 _ r ks h1 h2
theorem NatsT.one (e : H t = some (.tup (nusV T))) : NatsT H [t] [T] := ⟨rfl, fun i r z h1 h2 => by
  cases i with
  | zero => cases h1; cases h2; exact e
  | succ i => cases h1⟩
theorem NatsT.at (h : NatsT H ts l) {i : Nat} (ht : ts[i]? = some t) : ∃ T, l[i]? = some T ∧ H t = some (.tup (nusV T)) := by
  have il : i < l.length := by rw [← h.1]; exact (List.getElem?_eq_some_iff.mp ht).1
  have e := List.getElem?_eq_getElem il
  exact ⟨_, e, h.2 i t _ ht e⟩
end
theorem nats_dp {K : PySem.W.Frag} {H : Hp} : ∀ T : List Nat, DpAll K H (nusV T) (T.map fun t : Nat => PyData.int (t : Int))
  | [] => .nil
  | t :: T => .cons (.int _) (nats_dp T)
theorem NatsT.dp {K : PySem.W.Frag} {H : Hp} : ∀ {ts : List Addr} {l : List (List Nat)}, NatsT H ts l → DpAll K H (ts.map V.ref) (l.map pI)
  | [], [], _ => .nil
  | [], _ :: _, h => by cases h.1
  | _ :: _, [], h => by cases h.1
  | t :: ts, T :: l, h => .cons (.tup (SqT.of (h.2 0 t T rfl rfl)) (nats_dp T)) (NatsT.dp ⟨Nat.succ.inj h.1, fun i t x h1 h2 => h.2 (i + 1) t x h1 h2⟩)
end WP
namespace WP
open PySem PySem.Spec PyProof.Rows L2
theorem BitOk.take {rows : List (List Str)} {bit : List (Str × Nat)} (h : BitOk rows bit) (n : Nat) : BitOk rows (bit.take n) :=
  ⟨h.nd.sublist ((List.take_sublist n bit).map _), by rw [List.length_take]; exact Nat.le_trans (Nat.min_le_right _ _) h.few, fun q hq => h.ct q (List.mem_of_mem_take hq)⟩
end WP
namespace WP
open PySem PySem.Spec PyProof.Rows L2
theorem UpC.trans {fs : List (Str × FileD)} {a b c : Str} (h : UpC fs a b) (g : UpC fs b c) : UpC fs a c := by
  induction g with
  | refl => exact h
  | step _ h1 h2 ih => exact .step ih h1 h2
theorem CloR.idem {m : MdD} {ks r : List Str} (h : CloR m ks r) : CloR m r r :=
  ⟨fun x => ⟨fun hx => ⟨x, hx, .refl⟩, fun ⟨n, hn, u⟩ => (h.1 x).mpr (by
    obtain ⟨k, hk, u0⟩ := (h.1 n).mp hn
    exact ⟨k, hk, u0.trans u⟩)⟩, h.2.1, h.2.2⟩
end WP
namespace WP
open PySem PySem.Spec PyProof.Rows L2
section
variable {rows : List (List Str)} {bit : List (Str × Nat)} {ys : List Str}
theorem hasAll_iff (ok : BitOk rows bit) (hp : ys.Perm (bit.map (·.1))) {k : Nat} : lostL rows bit ys k = [] ↔ hasAll rows bit k = true := by
  unfold lostL hasAll
  rw [List.filter_eq_nil_iff, List.all_eq_true]
  constructor
  · intro h q hq
    have := h q.1 (hp.mem_iff.mpr (List.mem_map.mpr ⟨q, hq, rfl⟩))
    rw [bitAt_of ok.nd hq, Bool.not_eq_true', decide_eq_false_iff_not, Decidable.not_not] at this
    exact decide_eq_true this
  · intro h x hx
    obtain ⟨q, hq, rfl⟩ := List.mem_map.mp (hp.mem_iff.mp hx)
    rw [bitAt_of ok.nd hq, h q hq]
    decide
theorem whole_any : wholeB rows bit = true ↔ ∃ k, k < rows.length ∧ hasAll rows bit k = true := by
  unfold wholeB hasL
  rw [Bool.not_eq_true', List.isEmpty_eq_false_iff_exists_mem]
  exact exists_congr fun k => by rw [List.mem_filter, List.mem_range]
/-- what is renewed, as the program tells it -/
structure RenR (rows : List (List Str)) (bit : List (Str × Nat)) (ys r : List Str) (k0 : Nat) : Prop where
  lt : k0 < rows.length
  eq : r = lostL rows bit ys k0
  le : ∀ k, k < rows.length → PySem.W.dataLt (pDn (lostL rows bit ys k).length (lostL rows bit ys k)) (pDn r.length r) = false
variable {r : List Str} {k0 : Nat}
theorem RenR.len (h : RenR rows bit ys r k0) {k : Nat} (kl : k < rows.length) : r.length ≤ (lostL rows bit ys k).length := by
  refine Nat.le_of_not_lt fun z => ?_
  have := h.le k kl
  rw [pD_less (by omega)] at this
  cases this
theorem RenR.nil (h : RenR rows bit ys r k0) (ok : BitOk rows bit) (hp : ys.Perm (bit.map (·.1))) : r = [] ↔ wholeB rows bit = true := by
  rw [whole_any]
  constructor
  · intro e
    exact ⟨k0, h.lt, (hasAll_iff ok hp).mp (by rw [← h.eq]; exact e)⟩
  · rintro ⟨k, kl, hk⟩
    have := h.len kl
    rw [(hasAll_iff ok hp).mpr hk] at this
    exact List.length_eq_zero_iff.mp (Nat.le_zero.mp this)
theorem BitOk.filter (h : BitOk rows bit) (p : Str × Nat → Bool) : BitOk rows (bit.filter p) :=
  ⟨h.nd.sublist ((List.filter_sublist (l := bit)).map _), Nat.le_trans (List.length_filter_le _ _) h.few, fun q hq => h.ct q (List.mem_filter.mp hq).1⟩
end
section
variable {rows : List (List Str)} {bit : List (Str × Nat)} {ys r : List Str} {k : Nat}
theorem LargestS.len {l : List (List Str)} {r t : List Str} (h : LargestS l r) (ht : t ∈ l) : t.length ≤ r.length := by
  refine Nat.le_of_not_lt fun z => ?_
  have := h.2 t ht
  rw [pD_less (by omega)] at this
  cases this
end
end WP
namespace WP
open PySem PySem.Spec PyProof.Rows L2
end WP
namespace WP
open PySem PySem.Spec PyProof.Rows L2
end WP
namespace WP
open PySem PySem.Spec PyProof.Rows L2
theorem sh_eqv {d : PyData} (h : SeqAt.shaped d = true) : PyData.eqv d d = true := by
  unfold SeqAt.shaped at h
  rw [Bool.and_eq_true] at h
  exact SeqAt.eqv_refl_plain d (PyData.plain_of_canLay0 d h.1)
end WP
namespace WP
open PySem PySem.Spec PyProof.Rows L2
theorem tup_hd {d w c : Addr} {B : Int} {H : Hp} {a : Addr} {xs : List V} (D : Dr d w c B H) (h : H a = some (.tup xs)) : hd2 d w H a = some (.tup xs) := by
  obtain ⟨⟨r, t, e1, _⟩, ⟨ns, e2⟩, _⟩ := D
  exact hd2_mk h (fun z => by rw [z, e1] at h; cases h) (fun z => by rw [z, e2] at h; cases h)
theorem PairsT.hd {d w c : Addr} {B : Int} {H : Hp} {ts : List Addr} {ps : List (Str × Str)} (h : PairsT H ts ps) (D : Dr d w c B H) : PairsT (hd2 d w H) ts ps := ⟨h.1, fun i t q a b => tup_hd D (h.2 i t q a b)⟩
end WP
namespace WP
open PySem PySem.Spec PyProof.Rows L2
/-- the numbers of the contents of each name in the near editions, list by list -/
def SeenAt (rows : List (List Str)) (N : List Nat) (H : Hp) (ls : List Addr) (bit : List (Str × Nat)) : Prop := ls.length = bit.length ∧ ∀ (i : Nat) (l : Addr) (q : Str × Nat), ls[i]? = some l → bit[i]? = some q → H l = some (.lst ((N.map fun t => ((lastAt rows q.1 t : Nat) : Int)).map V.int))
section
variable {rows : List (List Str)} {N : List Nat} {H H' : Hp} {ls : List Addr} {bit : List (Str × Nat)} {l : Addr} {q : Str × Nat}
theorem SeenAt.same (h : SeenAt rows N H ls bit) (s : Same H H') : SeenAt rows N H' ls bit := ⟨h.1, fun i l q a b => s _ _ (h.2 i l q a b)⟩
theorem SeenAt.nil : SeenAt rows N H [] [] := ⟨rfl, fun i l q a b => by cases a⟩
theorem SeenAt.app (h : SeenAt rows N H ls bit) (hl : H l = some (.lst ((N.map fun t => ((lastAt rows q.1 t : Nat) : Int)).map V.int))) : SeenAt rows N H (ls ++ [l]) (bit ++ [q]) :=
  ⟨by rw [List.length_append, List.length_append, h.1]; rfl, fun i x p h1 h2 => by
    by_cases c : i < ls.length
    · rw [List.getElem?_append_left c] at h1
      rw [List.getElem?_append_left (by rw [← h.1]; exact c)] at h2
      exact h.2 i x p h1 h2
    · rw [List.getElem?_append_right (by omega)] at h1
      rw [List.getElem?_append_right (by rw [← h.1]; omega)] at h2
      rw [h.1] at h1
      cases e : i - bit.length with
      | zero =>
        rw [e] at h1 h2
        cases h1
        cases h2
        exact hl
      | succ j => rw [e] at h1; cases h1⟩
end
end WP
namespace WP
open PySem PySem.Spec PyProof.Rows L2
def atV : Option Nat → V
  | some i => .int (i : Nat)
  | none => .non
def AtF (CE : Addr) (H : Hp) (E : XK) (n : V) : Prop := ∀ d H', Same H H' → H' d = some (.xd [("at", n)]) → E (.ref CE) (some d) H'
theorem AtF.at {CE : Addr} {H H1 : Hp} {E : XK} {n : V} (h : AtF CE H E n) (s : Same H H1) {d : Addr} (hd : H1 d = none) : E (.ref CE) (some d) (upd H1 d (.xd [("at", n)])) := h d _ (s.trans (Evl.Ex.new hd)) upd_same
theorem AtF.same {CE : Addr} {H H1 : Hp} {E : XK} {n : V} (h : AtF CE H E n) (s : Same H H1) : AtF CE H1 E n := fun d H' s' => h d H' (s.trans s')
/-- the changes of editions: what is known of them -/
structure ChgsE (e : PyData) : Prop where
  st : ∀ z, e = .str z → z.length ≤ 100
  it : ∀ es, (e = .list es ∨ e = .tuple es) → es.length ≤ 40 ∧ ∀ f ∈ es, BentE f
end WP
namespace WP
open PySem L2 PySem.Spec PyProof.Rows LamX
/-- editions as they stand: their site, its model, their rows -/
structure EdM (K : PySem.W.Frag) (CD CS CF : Addr) (H : Hp) (v sv : V) (m : MdD) (rows : List (List Str)) : Prop where
  ed : EdAt K CD H v sv rows
  st : ∃ s, SiteAt K CS CF H sv s ∧ SiteM s m
  ok : MdOk m
  g : RGood m rows
theorem EdM.same {K : PySem.W.Frag} {CD CS CF : Addr} {H H' : Hp} {v sv : V} {m : MdD} {rows : List (List Str)} (h : EdM K CD CS CF H v sv m rows) (s : Same H H') : EdM K CD CS CF H' v sv m rows := ⟨h.ed.same s, let ⟨x, a, b⟩ := h.st; ⟨x, a.same s, b⟩, h.ok, h.g⟩
end WP
namespace WP
open PySem L2 PySem.Spec PyProof.Rows LamX
end WP
namespace WP
open PySem L2 PySem.Spec PyProof.Rows LamX
theorem bentE_seq11 {es : List PyData} (hl : es.length ≤ 20) (h : ∀ f ∈ es, Rg f 4 200 ∧ ∀ z, f = .str z → z.length ≤ 100) : BentE (.list es) ∧ BentE (.tuple es) := by
  have h1 : ∀ d ∈ es, Rg d 4 200 := fun d hd => (h d hd).1
  exact ⟨⟨(Rg.list h1 hl).mono (by decide) (by decide), fun z e => (by cases e), fun es' e => by rcases e with e | e <;> cases e; exact ⟨hl, h⟩⟩,
    ⟨(Rg.tuple h1 hl).mono (by decide) (by decide), fun z e => (by cases e), fun es' e => by rcases e with e | e <;> cases e; exact ⟨hl, h⟩⟩⟩
/-- a value for changes: at most n items -/
structure ChgsN (n : Nat) (e : PyData) : Prop where
  rg : Rg e 11 900000
  st : ∀ z, e = .str z → z.length ≤ 100
  it : ∀ es, (e = .list es ∨ e = .tuple es) → es.length ≤ n ∧ ∀ f ∈ es, BentE f
theorem ChgsN.e {n : Nat} {e : PyData} (h : ChgsN n e) (hn : n ≤ 40) : ChgsE e := ⟨h.st, fun es g => ⟨Nat.le_trans (h.it es g).1 hn, (h.it es g).2⟩⟩
theorem ChgsN.mono {n k : Nat} {e : PyData} (h : ChgsN n e) (hn : n ≤ k) : ChgsN k e := ⟨h.rg, h.st, fun es g => ⟨Nat.le_trans (h.it es g).1 hn, (h.it es g).2⟩⟩
theorem ChgsN.seq {n : Nat} {es : List PyData} (hl : es.length ≤ n) (hn : n ≤ 40) (h : ∀ f ∈ es, BentE f) : ChgsN n (.list es) ∧ ChgsN n (.tuple es) := by
  have h1 : ∀ d ∈ es, Rg d 10 20000 := fun d hd => (h d hd).rg
  have l40 : es.length ≤ 40 := Nat.le_trans hl hn
  exact ⟨⟨(Rg.list h1 l40).mono (by omega) (by omega), fun z e => (by cases e), fun es' e => by rcases e with e | e <;> cases e; exact ⟨hl, h⟩⟩,
    ⟨(Rg.tuple h1 l40).mono (by omega) (by omega), fun z e => (by cases e), fun es' e => by rcases e with e | e <;> cases e; exact ⟨hl, h⟩⟩⟩
/-- what a lambda that may be refused has left -/
def ErV (CE : Addr) (du : Option (Option Nat)) (er : V) (H : Hp) : Prop := (du = none ∧ er = .non) ∨ ∃ (r : Option Nat) (a d : Addr), du = some r ∧ (∀ i, r = some i → i < 100) ∧ er = .ref a ∧ H a = some (XvO (.ref CE) (some d) a) ∧ H d = some (.xd [("at", atV r)])
theorem ErV.same {CE : Addr} {du : Option (Option Nat)} {er : V} {H H' : Hp} (h : ErV CE du er H) (s : Same H H') : ErV CE du er H' := h.imp id fun ⟨r, a, d, h1, h2, h3, h4, h5⟩ => ⟨r, a, d, h1, h2, h3, s _ _ h4, s _ _ h5⟩
theorem VdAll.take {H : Hp} : ∀ {vs : List V} {ds : List PyData} (k : Nat), VdAll H vs ds → VdAll H (vs.take k) (ds.take k)
  | _, _, 0, _ => .nil
  | _, _, _ + 1, .nil => .nil
  | _, _, k + 1, .cons a b => .cons a (VdAll.take k b)
theorem VdAll.drop {H : Hp} : ∀ {vs : List V} {ds : List PyData} (k : Nat), VdAll H vs ds → VdAll H (vs.drop k) (ds.drop k)
  | _, _, 0, h => h
  | _, _, _ + 1, .nil => .nil
  | _, _, k + 1, .cons _ b => VdAll.drop k b
end WP
namespace WP
open PySem L2 PySem.Spec PyProof.Rows LamX
section
variable {m : MdD} {s : SiteD} {css rows rows2 : List (List Str)}
theorem RowsOk.law (h : RowsOk m s css rows) (sm : SiteM s m) : LRowsOk m css rows := ⟨h.len, ⟨_, h.hd, sm.fs.map _, sm.ok.so⟩, h.cl⟩
theorem RowsOk.uniq (h : RowsOk m s css rows) (g : RowsOk m s css rows2) (sm : SiteM s m) : rows = rows2 := rows_uniq sm h (g.law sm)
/-- one change more -/
theorem RowsOk.snoc {ns r : List Str} (h : RowsOk m s css rows) (c : CloR m ns r) : RowsOk m s (css ++ [ns]) (rows ++ [r]) := by
  have l := h.len
  refine ⟨by rw [List.length_append, List.length_append, l]; rfl, ?_, fun i ks q e1 e2 => ?_⟩
  · rw [List.getElem?_append_left (by omega)]
    exact h.hd
  · by_cases hi : i < css.length
    · rw [List.getElem?_append_left hi] at e1
      rw [List.getElem?_append_left (by omega)] at e2
      exact h.cl i ks q e1 e2
    · have il : i < (css ++ [ns]).length := (List.getElem?_eq_some_iff.mp e1).1
      rw [List.length_append, List.length_singleton] at il
      obtain rfl : i = css.length := by omega
      rw [List.getElem?_append_right (Nat.le_refl _), Nat.sub_self] at e1
      rw [show css.length + 1 = rows.length by omega, List.getElem?_append_right (Nat.le_refl _), Nat.sub_self] at e2
      cases e1
      cases e2
      exact c
theorem ChOk.snoc {ns : List Str} (h : ChOk m css) (hl : css.length < 30) (ne : ns ≠ []) (nd : ns.Nodup) (hm : ∀ n ∈ ns, n ∈ m.files.map (·.1)) : ChOk m (css ++ [ns]) := by
  refine ⟨by rw [List.length_append]; show css.length + 1 ≤ 30; omega, fun ks hks => ?_⟩
  rcases List.mem_append.mp hks with h1 | h1
  · exact h.2 ks h1
  · rw [List.mem_singleton.mp h1]
    exact ⟨ne, nd, hm⟩
end
theorem KdsAt.snoc {H : Hp} {rs : List Addr} {css : List (List Str)} {a : Addr} {ns : List Str} (h : KdsAt H rs css) (ha : H a = some (.lst (ns.map V.str)) ∨ H a = some (.tup (ns.map V.str))) : KdsAt H (rs ++ [a]) (css ++ [ns]) := by
  refine ⟨by rw [List.length_append, List.length_append, h.1]; rfl, fun i r ks e1 e2 => ?_⟩
  by_cases hi : i < rs.length
  · rw [List.getElem?_append_left hi] at e1
    rw [List.getElem?_append_left (by rw [← h.1]; exact hi)] at e2
    exact h.2 i r ks e1 e2
  · have il : i < (rs ++ [a]).length := (List.getElem?_eq_some_iff.mp e1).1
    rw [List.length_append, List.length_singleton] at il
    obtain rfl : i = rs.length := by omega
    rw [List.getElem?_append_right (Nat.le_refl _), Nat.sub_self] at e1
    rw [h.1, List.getElem?_append_right (Nat.le_refl _), Nat.sub_self] at e2
    cases e1
    cases e2
    exact ha
theorem EdM.ext {K : PySem.W.Frag} {CD CS CF : Addr} {H H' : Hp} {v sv : V} {m : MdD} {rows : List (List Str)} (h : EdM K CD CS CF H v sv m rows) (s : ExtN H H') : EdM K CD CS CF H' v sv m rows := ⟨h.ed.ext s, let ⟨x, a, b⟩ := h.st; ⟨x, a.ext s, b⟩, h.ok, h.g⟩
theorem KdsAt.ext {H H' : Hp} {rs : List Addr} {kss : List (List Str)} (h : KdsAt H rs kss) (s : ExtN H H') : KdsAt H' rs kss :=
  ⟨h.1, fun i r ks h1 h2 => (h.2 i r ks h1 h2).imp (fun e => s _ _ e fun _ z => by cases z) (fun e => s _ _ e fun _ z => by cases z)⟩
end WP
namespace WP
open PySem L2 PySem.Spec PyProof.Rows LamX
section
variable {m : MdD} {s : SiteD} {css rows rows2 : List (List Str)}
/-- the closures themselves as changes -/
theorem RowsOk.self (h : RowsOk m s css rows) : RowsOk m s rows.tail rows := by
  have l := h.len
  refine ⟨by rw [List.length_tail]; omega, h.hd, fun i ks r e1 e2 => ?_⟩
  rw [List.getElem?_tail] at e1
  cases e1.symm.trans e2
  have a3 := List.getElem?_eq_getElem (show i < css.length by have := (List.getElem?_eq_some_iff.mp e2).1; omega)
  exact (h.cl i _ _ a3 e2).idem
theorem ChOk.init (h : ChOk m css) : ChOk m css.dropLast := ⟨by rw [List.length_dropLast]; have := h.1; omega, fun ks hk => h.2 ks (List.dropLast_subset _ hk)⟩
theorem ChOk.nil : ChOk m [] := ⟨Nat.zero_le _, fun k z => by cases z⟩
end
theorem KdsAt.take {H : Hp} {rs : List Addr} {kss : List (List Str)} (h : KdsAt H rs kss) (n : Nat) : KdsAt H (rs.take n) (kss.take n) := by
  refine ⟨by rw [List.length_take, List.length_take, h.1], fun i r ks e1 e2 => ?_⟩
  rw [List.getElem?_take] at e1 e2
  split at e1
  · rename_i hi
    rw [if_pos hi] at e2
    exact h.2 i r ks e1 e2
  · cases e1
theorem KdsAt.drop {H : Hp} {rs : List Addr} {kss : List (List Str)} (h : KdsAt H rs kss) (n : Nat) : KdsAt H (rs.drop n) (kss.drop n) := by
  refine ⟨by rw [List.length_drop, List.length_drop, h.1], fun i r ks e1 e2 => ?_⟩
  rw [List.getElem?_drop] at e1 e2
  exact h.2 _ r ks e1 e2
theorem KdsAt.init {H : Hp} {rs : List Addr} {kss : List (List Str)} (h : KdsAt H rs kss) : KdsAt H rs.dropLast kss.dropLast := by
  rw [List.dropLast_eq_take, List.dropLast_eq_take, h.1]
  exact h.take _
theorem KdsAt.app {H : Hp} {rs us : List Addr} {kss lss : List (List Str)} (h : KdsAt H rs kss) (g : KdsAt H us lss) : KdsAt H (rs ++ us) (kss ++ lss) := by
  refine ⟨by rw [List.length_append, List.length_append, h.1, g.1], fun i r ks e1 e2 => ?_⟩
  by_cases hi : i < rs.length
  · rw [List.getElem?_append_left hi] at e1
    rw [List.getElem?_append_left (by rw [← h.1]; exact hi)] at e2
    exact h.2 i r ks e1 e2
  · rw [List.getElem?_append_right (by omega)] at e1
    rw [List.getElem?_append_right (by rw [← h.1]; omega), ← h.1] at e2
    exact g.2 _ r ks e1 e2
end WP
namespace WP
open PySem L2 PySem.Spec PyProof.Rows LamX
end WP
namespace WP
open PySem PySem.Spec PyProof.Rows L2
abbrev cl (x : Str) : List Nat := x.cps.toList
end WP
namespace WP
open PySem PySem.Spec PyProof.Rows L2
end WP
namespace WP
open PySem PySem.Spec PyProof.Rows L2
end WP
namespace WP
open PySem PySem.Spec PyProof.Rows L2
end WP
namespace WP
open PySem L2 PySem.Spec PyProof.Rows LamX
structure PtOk (f : FileD) : Prop where
  nd : f.refers.Nodup
  nam : ∀ x ∈ f.refers, isNameS x = true
  fw : f.refers.length ≤ 8
  hd : isTicksV (optI f.hold) = true
  kp : f.keeps.length ≤ 4
  kt : ∀ k ∈ f.keeps, isTicksV (optI k) = true
/-- the list of four parts stands at x -/
def PtAt (H : Hp) (x : Addr) (f : FileD) : Prop := ∃ r k : Addr, H x = some (.lst [.str (namS f.own), .ref r, optI f.hold, .ref k]) ∧ H r = some (.lst (f.refers.map V.str)) ∧ H k = some (.lst (f.keeps.map optI))
theorem PtAt.same {H H' : Hp} {x : Addr} {f : FileD} (h : PtAt H x f) (s : Same H H') : PtAt H' x f := by
  obtain ⟨r, k, h1, h2, h3⟩ := h
  exact ⟨r, k, s _ _ h1, s _ _ h2, s _ _ h3⟩
/-- g is f, its names ascending -/
structure Srt (g f : FileD) : Prop where
  own : g.own = f.own
  pm : f.refers.Perm g.refers
  so : sortedS g.refers = true
  hold : g.hold = f.hold
  keeps : g.keeps = f.keeps
theorem Srt.uniq {g g' f : FileD} (h : Srt g f) (h' : Srt g' f) : g = g' := by
  have e := sorted_uniq (h.pm.symm.trans h'.pm) h.so h'.so
  cases g
  cases g'
  simp only [FileD.mk.injEq]
  exact ⟨h.own.trans h'.own.symm, e, h.hold.trans h'.hold.symm, h.keeps.trans h'.keeps.symm⟩
theorem Srt.ok {g f : FileD} (h : Srt g f) (o : PtOk f) : FileOk g := by
  have l := h.pm.length_eq
  have fw := o.fw
  exact ⟨h.pm.nodup_iff.mp o.nd, fun x hx => o.nam x (h.pm.mem_iff.mpr hx), h.so, by rw [h.keeps]; exact o.kp, by omega, by rw [h.hold]; exact o.hd, by rw [h.keeps]; exact o.kt⟩
/-- a value for a part: at most n items -/
structure PartE (n : Nat) (e : PyData) : Prop where
  be : BentE e
  few : ∀ es, (e = .list es ∨ e = .tuple es) → es.length ≤ n
theorem PartE.mono {n k : Nat} {e : PyData} (h : PartE n e) (hn : n ≤ k) : PartE k e := ⟨h.be, fun es g => Nat.le_trans (h.few es g) hn⟩
/-- four values -/
def PtsE (n : Nat) (e : PyData) : Prop := ∃ es, e = .list es ∧ es.length = 4 ∧ ∀ f ∈ es, PartE n f
theorem PartE.seq {n : Nat} {es : List PyData} (hl : es.length ≤ n) (hn : n ≤ 20) (h : ∀ f ∈ es, Rg f 4 200 ∧ ∀ z, f = .str z → z.length ≤ 100) : PartE n (.list es) ∧ PartE n (.tuple es) := by
  obtain ⟨h1, h2⟩ := bentE_seq11 (es := es) (by omega) h
  exact ⟨⟨h1, fun es' e => by rcases e with e | e <;> cases e; exact hl⟩, ⟨h2, fun es' e => by rcases e with e | e <;> cases e; exact hl⟩⟩
theorem PtsE.rg {n : Nat} {e : PyData} (h : PtsE n e) : Rg e 11 90000 := by
  obtain ⟨es, rfl, l, hp⟩ := h
  exact (Rg.list (fun d hd => (hp d hd).be.rg) (Nat.le_of_eq l)).mono (by omega) (by omega)
/-- what a file tells, as a list of four -/
def TlAt (K : PySem.W.Frag) (H : Hp) (p : Addr) (f : FileD) : Prop := ∃ t1 t2 : Addr, H p = some (.lst [.str (namS f.own), .ref t1, optI f.hold, .ref t2]) ∧ SqT K H t1 (f.refers.map V.str) ∧ SqT K H t2 (f.keeps.map optI)
theorem VdAll.set {H : Hp} : ∀ {vs : List V} {ds : List PyData} {i : Nat} {v : V} {d : PyData}, VdAll H vs ds → Vd H v d → VdAll H (vs.set i v) (ds.set i d)
  | _, _, _, _, _, .nil, _ => .nil
  | _, _, 0, _, _, .cons _ t, h => .cons h t
  | _, _, i + 1, _, _, .cons a t, h => .cons a (VdAll.set t h)
end WP
namespace WP
open PySem L2 PySem.Spec PyProof.Rows LamX
def ErF (CE : Addr) (du : Option Str) (er : V) (H : Hp) : Prop := (du = none ∧ er = .non) ∨ ∃ (pt : Str) (a d : Addr), du = some pt ∧ er = .ref a ∧ H a = some (XvO (.ref CE) (some d) a) ∧ H d = some (.xd [("part", .str pt)])
theorem ErF.same {CE : Addr} {du : Option Str} {er : V} {H H' : Hp} (h : ErF CE du er H) (s : Same H H') : ErF CE du er H' := h.imp id fun ⟨r, a, d, h1, h3, h4, h5⟩ => ⟨r, a, d, h1, h3, s _ _ h4, s _ _ h5⟩
theorem ErF.ext {CE : Addr} {du : Option Str} {er : V} {H H' : Hp} (h : ErF CE du er H) (s : ExtN H H') : ErF CE du er H' := h.imp id fun ⟨r, a, d, h1, h3, h4, h5⟩ => ⟨r, a, d, h1, h3, s _ _ h4 (fun ys z => by cases z), s _ _ h5 (fun ys z => by cases z)⟩
end WP
namespace WP
open PySem L2 PySem.Spec PyProof.Rows LamX
theorem TlAt.same {K : PySem.W.Frag} {H H' : Hp} {p : Addr} {f : FileD} (h : TlAt K H p f) (s : Same H H') : TlAt K H' p f := by
  obtain ⟨t1, t2, h1, h2, h3⟩ := h
  exact ⟨t1, t2, s _ _ h1, SqT.sm h2 s, SqT.sm h3 s⟩
end WP
namespace WP
open PySem L2 PySem.Spec PyProof.Rows LamX
def Dly16 (a : Option Int) : Prop := ∀ i, a = some i → -1 ≤ i ∧ i ≤ 16000
theorem Dly16.b {a : Option Int} (h : Dly16 a) : DlyB a := fun i e => by have := h i e; omega
end WP
namespace WP
open PySem L2 PySem.Spec PyProof.Rows LamX
def lenD : PyData → Nat
  | .list es => es.length
  | .tuple es => es.length
  | _ => 0
end WP
namespace WP
open PySem L2 PySem.Spec PyProof.Rows LamX
end WP
namespace WP
open PySem L2 PySem.Spec PyProof.Rows LamX
end WP
namespace WP
open PySem L2 PySem.Spec PyProof.Rows LamX
end WP
namespace WP
open PySem L2 PySem.Spec PyProof.Rows LamX
/-- a value for kinds or steps: at most n items, of at most t items in all -/
structure KnE (n t : Nat) (e : PyData) : Prop where
  ch : ChgsN n e
  sum : ∀ es, (e = .list es ∨ e = .tuple es) → (es.map lenD).sum ≤ t
theorem KnE.mono {n t n' t' : Nat} {e : PyData} (h : KnE n t e) (hn : n ≤ n') (ht : t ≤ t') : KnE n' t' e := ⟨h.ch.mono hn, fun es g => Nat.le_trans (h.sum es g) ht⟩
theorem KnE.seq {n t : Nat} {es : List PyData} (hl : es.length ≤ n) (hn : n ≤ 40) (h : ∀ f ∈ es, BentE f) (ht : (es.map lenD).sum ≤ t) : KnE n t (.list es) ∧ KnE n t (.tuple es) :=
  ⟨⟨(ChgsN.seq hl hn h).1, fun es' e => by rcases e with e | e <;> cases e; exact ht⟩, ⟨(ChgsN.seq hl hn h).2, fun es' e => by rcases e with e | e <;> cases e; exact ht⟩⟩
theorem All2.last {α β : Type} {R : α → β → Prop} : ∀ {bs : List β} {as : List α} {b : β}, All2 R as (bs ++ [b]) → ∃ as' a, as = as' ++ [a] ∧ All2 R as' bs ∧ R a b
  | [], _, _, .cons h .nil => ⟨[], _, rfl, .nil, h⟩
  | _ :: _, _, _, .cons h t => by
    obtain ⟨as', a, rfl, h1, h2⟩ := All2.last t
    exact ⟨_ :: as', a, rfl, .cons h h1, h2⟩
end WP
namespace WP
open PySem L2 PySem.Spec PyProof.Rows LamX
def ErK (CK CB : Addr) (du : Option (Option Nat)) (st : Bool) (er : V) (H : Hp) : Prop := (du = none ∧ st = true ∧ er = .non) ∨ (du = none ∧ st = false ∧ ∃ a, er = .ref a ∧ H a = some (XvO (.ref CB) none a)) ∨
  ∃ (r : Option Nat) (a d : Addr), du = some r ∧ (∀ i, r = some i → i < 100) ∧ er = .ref a ∧ H a = some (XvO (.ref CK) (some d) a) ∧ H d = some (.xd [("at", atV r)])
theorem ErK.ext {CK CB : Addr} {du : Option (Option Nat)} {st : Bool} {er : V} {H H' : Hp} (h : ErK CK CB du st er H) (s : ExtN H H') : ErK CK CB du st er H' := by
  rcases h with h | ⟨h1, h2, a, h3, h4⟩ | ⟨r, a, d, h1, h2, h3, h4, h5⟩
  · exact .inl h
  · exact .inr (.inl ⟨h1, h2, a, h3, s _ _ h4 fun ys z => by cases z⟩)
  · exact .inr (.inr ⟨r, a, d, h1, h2, h3, s _ _ h4 (fun ys z => by cases z), s _ _ h5 (fun ys z => by cases z)⟩)
theorem ErK.same {CK CB : Addr} {du : Option (Option Nat)} {st : Bool} {er : V} {H H' : Hp} (h : ErK CK CB du st er H) (s : Same H H') : ErK CK CB du st er H' := h.ext (.of s)
end WP
namespace WP
open PySem L2 PySem.Spec PyProof.Rows LamX
end WP
namespace WP
open PySem L2 PySem.Spec PyProof.Rows
end WP
namespace WP
open PySem L2 PySem.Spec PyProof.Rows
end WP
namespace WP
open PySem L2 PySem.Spec PyProof.Rows
/-- what a closure gives, as a list -/
structure CloL (m : MdD) (ns ys : List Str) : Prop where
  mem : ∀ x, x ∈ ys ↔ Clo m.files ns x
  nd : ys.Nodup
  so : sortedS ys = true
theorem CloL.uniq {m : MdD} {ns ys zs : List Str} (h : CloL m ns ys) (g : CloL m ns zs) : ys = zs :=
  sorted_uniq ((List.perm_ext_iff_of_nodup h.nd g.nd).mpr fun x => by rw [h.mem, g.mem]) h.so g.so
end WP
namespace WP
open PySem L2 PySem.Spec PyProof.Rows
/-- the tuple at p, which has no dict -/
def TupF (H : Hp) (p : Addr) (xs : List V) : Prop := ∃ o : Obj, o.dict = none ∧ H p = some (.frz o (.tup xs))
theorem TupF.same {H H' : Hp} {p : Addr} {xs : List V} (h : TupF H p xs) (s : Same H H') : TupF H' p xs := by
  obtain ⟨o, h1, h⟩ := h
  exact ⟨o, h1, s _ _ h⟩
/-- a way to n that stands at p -/
def WyAt (m : MdD) (n : Str) (H : Hp) (p : Addr) (l : List Str) : Prop := ∃ e t, e ∈ m.entries ∧ TreeOf m.files e t ∧ WayE t n l ∧ TupF H p (l.map V.str)
theorem WyAt.same {m : MdD} {n : Str} {H H' : Hp} {p : Addr} {l : List Str} (h : WyAt m n H p l) (s : Same H H') : WyAt m n H' p l := by
  obtain ⟨e, t, h1, h2, h3, h4⟩ := h
  exact ⟨e, t, h1, h2, h3, h4.same s⟩
end WP
namespace WP
open PySem L2 PySem.Spec PyProof.Rows
end WP
namespace WP
open PySem L2 PySem.Spec PyProof.Rows LamX
theorem PgM.dp {K : PySem.W.Frag} {H : Hp} {v : V} {f : FileD} (h : PgM K H v f) : Dp K H v (pageD f) := by
  obtain ⟨a, r, k, rfl, h1, h2, h3⟩ := h
  exact page_dp h1 (SqT.of h2) (SqT.of h3)
/-- pages and the files that were made of them -/
def MadeAt (K : PySem.W.Frag) (CF : Addr) (H : Hp) (us : List Addr) (gs : List FileD) : Prop := us.length = gs.length ∧ ∀ (j : Nat) (u : Addr) (g : FileD), us[j]? = some u → gs[j]? = some g → ∃ pg x, H u = some (.tup [.ref pg, .ref x]) ∧ PgM K H (.ref pg) g ∧ FileAt K CF H (.ref x) g
theorem MadeAt.same {K : PySem.W.Frag} {CF : Addr} {H H' : Hp} {us : List Addr} {gs : List FileD} (h : MadeAt K CF H us gs) (s : Same H H') : MadeAt K CF H' us gs := ⟨h.1, fun j u g h1 h2 => by
  obtain ⟨pg, x, a1, a2, a3⟩ := h.2 j u g h1 h2
  exact ⟨pg, x, s _ _ a1, a2.same s, a3.same s⟩⟩
theorem MadeAt.snoc {K : PySem.W.Frag} {CF : Addr} {H : Hp} {us : List Addr} {gs : List FileD} (h : MadeAt K CF H us gs) {u pg x : Addr} {g : FileD} (h1 : H u = some (.tup [.ref pg, .ref x])) (h2 : PgM K H (.ref pg) g) (h3 : FileAt K CF H (.ref x) g) : MadeAt K CF H (us ++ [u]) (gs ++ [g]) := by
  refine ⟨by rw [List.length_append, List.length_append, h.1]; rfl, fun j u' g' e1 e2 => ?_⟩
  by_cases hj : j < us.length
  · rw [List.getElem?_append_left hj] at e1
    rw [List.getElem?_append_left (by rw [← h.1]; exact hj)] at e2
    exact h.2 j u' g' e1 e2
  · rw [List.getElem?_append_right (by omega)] at e1
    rw [List.getElem?_append_right (by rw [← h.1]; omega), ← h.1] at e2
    cases hz : j - us.length with
    | zero =>
      rw [hz] at e1 e2
      cases e1
      cases e2
      exact ⟨pg, x, h1, h2, h3⟩
    | succ k =>
      rw [hz] at e1
      cases e1
end WP
namespace WP
open PySem L2 PySem.Spec PyProof.Rows LamX
def Lay (k : Nat) (d : PyData) : Prop := PyData.canLay0 d = true ∧ PyData.depth d ≤ k
theorem Lay.all {k : Nat} : ∀ {ds : List PyData}, (∀ d ∈ ds, Lay k d) → PyData.canLayAll0 ds = true ∧ PyData.depthAll ds ≤ k
  | [], _ => ⟨rfl, Nat.zero_le _⟩
  | d :: r, h => by
    obtain ⟨h1, h2⟩ := h d (List.mem_cons_self ..)
    obtain ⟨h3, h4⟩ := Lay.all fun x hx => h x (List.mem_cons_of_mem _ hx)
    refine ⟨by rw [PyData.canLayAll0, h1, h3]; rfl, ?_⟩
    rw [PyData.depthAll]
    exact Nat.max_le.mpr ⟨h2, h4⟩
theorem Lay.list {k : Nat} {ds : List PyData} (h : ∀ d ∈ ds, Lay k d) : Lay (k + 1) (.list ds) := by
  obtain ⟨h1, h2⟩ := Lay.all h
  refine ⟨by rw [PyData.canLay0]; exact h1, ?_⟩
  rw [PyData.depth]
  omega
theorem Lay.mono {k j : Nat} {d : PyData} (h : Lay k d) (e : k ≤ j) : Lay j d := ⟨h.1, Nat.le_trans h.2 e⟩
theorem Lay.sh {k : Nat} {d : PyData} (h : Lay k d) (e : k ≤ 64) : SeqAt.shaped d = true := by
  unfold SeqAt.shaped
  rw [h.1, decide_eq_true (Nat.le_trans h.2 e)]
  rfl
end WP
namespace WP
open PySem L2 PySem.Spec PyProof.Rows LamX
end WP
namespace WP
open PySem L2 PySem.Spec PyProof.Rows LamX
section
variable {m : MdD} {ks ls ys zs : List Str}
theorem CloR.has (h : CloR m ks ys) : ∀ x ∈ ks, x ∈ ys := fun x hx => (h.1 x).mpr ⟨x, hx, .refl⟩
end
end WP
namespace WP
open PySem PySem.Spec PyProof.Rows L2 LamX
end WP
namespace WP
open PySem PySem.Spec PyProof.Rows L2 LamX
def PrsAt (H : Hp) (rs : List Addr) (ps : List (Str × Str)) : Prop := All2 (fun r (p : Str × Str) => H r = some (.tup [.str p.1, .str p.2])) rs ps
def OthersL (m : MdD) (os : List Str) : Prop := (∀ x, x ∈ os ↔ x ∈ m.files.map (·.1) ∧ x ∉ m.entries) ∧ os.Nodup ∧ sortedS os = true
theorem OthersL.uniq {m : MdD} {os qs : List Str} (h : OthersL m os) (g : OthersL m qs) : os = qs :=
  sorted_uniq ((List.perm_ext_iff_of_nodup h.2.1 g.2.1).mpr fun x => by rw [h.1, g.1]) h.2.2 g.2.2
def TupsL (H : Hp) (rs : List Addr) (sss : List (List Str)) : Prop := All2 (fun r (ss : List Str) => H r = some (.tup (ss.map V.str))) rs sss
end WP
namespace WP
open PySem PySem.Spec PyProof.Rows L2 LamX
/-- nothing but a table may stand there -/
def NewT (H : Hp) (p : Addr) : Prop := ∀ o, H p = some o → ∃ ps, o = .tbl ps
theorem NewT.of {H H1 H2 : Hp} {p : Addr} (e : ExtN H H1) (s : Same H1 H2) (h : H2 p = none) : NewT H p := fun o ho => Classical.byContradiction fun no => by
  have := s _ _ (e _ _ ho fun ps z => no ⟨ps, z⟩)
  rw [h] at this
  cases this
theorem NewT.none {H : Hp} {p : Addr} (h : H p = none) : NewT H p := fun o ho => by rw [h] at ho; cases ho
theorem NewT.ne {H : Hp} {p q : Addr} {xs : List V} (h : NewT H p) (e : H q = some (.lst xs)) : p ≠ q := fun z => by
  obtain ⟨ps, e2⟩ := h _ (by rw [z]; exact e)
  cases e2
theorem KdsOk.own {m : MdD} {kss : List (List Str)} (h : KdsOk m kss) (ns : List Str) : KdsOk (ownM m ns) kss := ⟨h.1, h.2.1, fun ks hk => ⟨(h.2.2 ks hk).1, (h.2.2 ks hk).2.1, fun n hn => by
  rw [show (ownM m ns).files = m.files.map (owF ns) from rfl, owF_keys]
  exact (h.2.2 ks hk).2.2 n hn⟩⟩
theorem TupsL.same {H H' : Hp} {rs : List Addr} {sss : List (List Str)} (h : TupsL H rs sss) (s : Same H H') : TupsL H' rs sss := h.imp fun _ _ h => s _ _ h
theorem TupsL.ext {H H' : Hp} {rs : List Addr} {sss : List (List Str)} (h : TupsL H rs sss) (s : ExtN H H') : TupsL H' rs sss := h.imp fun _ _ h => s _ _ h fun _ z => by cases z
theorem PrsAt.same {H H' : Hp} {rs : List Addr} {ps : List (Str × Str)} (h : PrsAt H rs ps) (s : Same H H') : PrsAt H' rs ps := h.imp fun _ _ h => s _ _ h
end WP
namespace WP
open PySem PySem.Spec PyProof.Rows L2 LamX
theorem OthersL.len {m : MdD} (ok : MdOk m) {os : List Str} (hO : OthersL m os) : os.length ≤ 8 := by
  have := pigeon os (m.files.map (·.1)) hO.2.1 fun x hx => ((hO.1 x).mp hx).1
  rw [List.length_map] at this
  have := ok.ok.few
  omega
end WP
namespace WP
open PySem PySem.Spec PyProof.Rows L2 LamX
end WP
namespace WP
open PySem PySem.Spec PyProof.Rows L2 LamX
def RankL (H : Hp) (rs : List Addr) (sss : List (List Str)) : Prop := All2 (fun r (ss : List Str) => ∃ t, H r = some (.tup [.int (ss.length : Nat), .ref t]) ∧ H t = some (.tup (ss.map V.str))) rs sss
theorem RankL.same {H H' : Hp} {rs : List Addr} {sss : List (List Str)} (h : RankL H rs sss) (s : Same H H') : RankL H' rs sss := h.imp fun _ _ ⟨t, h1, h2⟩ => ⟨t, s _ _ h1, s _ _ h2⟩
end WP
namespace WP
open PySem PySem.Spec PyProof.Rows L2 LamX
theorem ExtN.mut {H H1 : Hp} {p : Addr} {o : HO} (e : ExtN H H1) (n : NewT H p) : ExtN H (upd H1 p o) := fun b u h t => by
  have : b ≠ p := fun z => by
    obtain ⟨ps, e2⟩ := n u (by rw [← z]; exact h)
    exact t ps e2
  rw [upd_ne this]
  exact e b u h t
end WP
namespace WP
open PySem PySem.Spec PyProof.Rows L2 LamX
end WP
namespace WP
open PySem PySem.Spec PyProof.Rows L2 LamX
end WP
namespace WP
open PySem PySem.Spec PyProof.Rows L2 LamX
def RuleAt (K : PySem.W.Frag) (CR CS CF : Addr) (H : Hp) (v : V) (s : SiteD) (yss sss : List (List Str)) (rows : List (List (Option Int))) (ss : List (Str × Option Int)) : Prop :=
  ∃ (x dx : Addr) (sv : V) (p2 p4 t D : Addr) (ts2 ts4 ls : List Addr), v = .ref x ∧ H x = some (.ins CR dx [("own_site", sv), ("own_kinds", .ref p2), ("own_steps", .ref p4), ("own_waits", .ref t), ("own_stays", .ref D)]) ∧ SiteAt K CS CF H sv s ∧ H p2 = some (.tup (ts2.map V.ref)) ∧ TupsL H ts2 yss ∧
    H p4 = some (.tup (ts4.map V.ref)) ∧ TupsL H ts4 sss ∧ H t = some (.tup (ls.map V.ref)) ∧ All2 (fun l (row : List (Option Int)) => H l = some (.tup (row.map optI))) ls rows ∧ H D = some (.dK (staysK ss))
section
variable {K : PySem.W.Frag} {CR CS CF : Addr} {H H' : Hp} {v : V} {s : SiteD} {yss sss : List (List Str)} {rows : List (List (Option Int))} {ss : List (Str × Option Int)}
theorem RuleAt.same (h : RuleAt K CR CS CF H v s yss sss rows ss) (S : Same H H') : RuleAt K CR CS CF H' v s yss sss rows ss := by
  obtain ⟨x, dx, sv, p2, p4, t, D, ts2, ts4, ls, e, h1, h2, h3, h4, h5, h6, h7, h8, h9⟩ := h
  exact ⟨x, dx, sv, p2, p4, t, D, ts2, ts4, ls, e, S _ _ h1, h2.same S, S _ _ h3, h4.same S, S _ _ h5, h6.same S, S _ _ h7, h8.imp fun _ _ h => S _ _ h, S _ _ h9⟩
end
end WP
namespace WP
open PySem PySem.Spec PyProof.Rows L2 LamX
inductive AtD : V → PyData → Prop
  | str (s : Str) : AtD (.str s) (.str s)
  | int (i : Int) : AtD (.int i) (.int i)
def FlT (H : Hp) (ts : List Addr) (ds : List PyData) : Prop := All2 (fun t d => ∃ (xs : List V) (es : List PyData), d = .tuple es ∧ All2 AtD xs es ∧ H t = some (.tup xs)) ts ds
section
variable {K : PySem.W.Frag} {H H' : Hp} {ts us : List Addr} {ds es : List PyData}
theorem FlT.same (h : FlT H ts ds) (S : Same H H') : FlT H' ts ds := h.imp fun _ _ ⟨xs, es, e, a, g⟩ => ⟨xs, es, e, a, S _ _ g⟩
theorem FlT.keeps (h : FlT H ts ds) (S : ∀ (b : Addr) (xs : List V), H b = some (.tup xs) → H' b = some (.tup xs)) : FlT H' ts ds := h.imp fun _ _ ⟨xs, es, e, a, g⟩ => ⟨xs, es, e, a, S _ _ g⟩
theorem FlT.snoc {t : Addr} {xs : List V} {es : List PyData} (h : FlT H ts ds) (a : All2 AtD xs es) (g : H t = some (.tup xs)) : FlT H (ts ++ [t]) (ds ++ [.tuple es]) := All2.snoc h ⟨xs, es, rfl, a, g⟩
theorem FlT.app (h : FlT H ts ds) (g : FlT H us es) : FlT H (ts ++ us) (ds ++ es) := All2.app h g
theorem AtD.dp {v : V} {d : PyData} (h : AtD v d) : Dp K H v d := by cases h with
  | str => exact .str _
  | int => exact .int _
end
end WP
namespace WP
open PySem PySem.Spec PyProof.Rows L2 LamX
structure StepsR (m : MdD) (sss : List (List Str)) : Prop where
  pm : sss.flatten.Perm (m.files.map (·.1))
  ne : ∀ s ∈ sss, s ≠ []
theorem flat_ge {α : Type} : ∀ {l : List (List α)}, (∀ s ∈ l, s ≠ []) → l.length ≤ l.flatten.length
  | [], _ => Nat.le_refl _
  | s :: r, h => by
    have h1 := flat_ge (l := r) fun x hx => h x (List.mem_cons_of_mem _ hx)
    have h2 : 1 ≤ s.length := List.length_pos_iff.mpr (h s (List.mem_cons_self ..))
    rw [List.length_cons, List.flatten_cons, List.length_append]
    omega
section
variable {m : MdD} {sss : List (List Str)}
theorem StepsR.len (h : StepsR m sss) (ok : MdOk m) : sss.length ≤ 8 := by
  have a := flat_ge h.ne
  have b := h.pm.length_eq
  rw [List.length_map] at b
  have := ok.ok.few
  omega
theorem StepsR.nd (h : StepsR m sss) (ok : MdOk m) : ∀ s ∈ sss, s.Nodup := fun s hs => by
  have := h.pm.nodup_iff.mpr ok.ok.nd
  exact this.sublist (List.sublist_flatten_of_mem hs)
theorem StepsR.mem (h : StepsR m sss) : ∀ s ∈ sss, ∀ n ∈ s, n ∈ m.files.map (·.1) := fun s hs n hn => h.pm.mem_iff.mp (List.mem_flatten.mpr ⟨s, hs, hn⟩)
theorem StepsR.all (h : StepsR m sss) : ∀ n ∈ m.files.map (·.1), n ∈ sss.flatten := fun n hn => h.pm.mem_iff.mpr hn
end
end WP
namespace WP
open PySem PySem.Spec PyProof.Rows L2 LamX
def WtO (o : Option Int) : Prop := ∀ i, o = some i → 0 ≤ i ∧ i ≤ 20000
def LstO (o : Option Int) : Prop := ∀ i, o = some i → 0 ≤ i ∧ i ≤ 16001
theorem LstO.wt {o : Option Int} (h : LstO o) : WtO o := fun i e => ⟨(h i e).1, by have := (h i e).2; omega⟩
end WP
namespace WP
open PySem PySem.Spec PyProof.Rows L2 LamX
end WP
namespace WP
open PySem PySem.Spec PyProof.Rows L2 LamX
def RulePt (CR : Addr) (H : Hp) (v sv : V) (yss sss : List (List Str)) (rows : List (List (Option Int))) (ss : List (Str × Option Int)) : Prop :=
  ∃ (x dx p2 p4 t D : Addr) (ts2 ts4 ls : List Addr), v = .ref x ∧ H x = some (.ins CR dx [("own_site", sv), ("own_kinds", .ref p2), ("own_steps", .ref p4), ("own_waits", .ref t), ("own_stays", .ref D)]) ∧ H p2 = some (.tup (ts2.map V.ref)) ∧ TupsL H ts2 yss ∧
    H p4 = some (.tup (ts4.map V.ref)) ∧ TupsL H ts4 sss ∧ H t = some (.tup (ls.map V.ref)) ∧ All2 (fun l (row : List (Option Int)) => H l = some (.tup (row.map optI))) ls rows ∧ H D = some (.dK (staysK ss))
theorem RulePt.at {K : PySem.W.Frag} {CR CS CF : Addr} {H : Hp} {v sv : V} {s : SiteD} {yss sss : List (List Str)} {rows : List (List (Option Int))} {ss : List (Str × Option Int)} (h : RulePt CR H v sv yss sss rows ss) (hs : SiteAt K CS CF H sv s) : RuleAt K CR CS CF H v s yss sss rows ss := by
  obtain ⟨x, dx, p2, p4, t, D, ts2, ts4, ls, e, h1, h3, h4, h5, h6, h7, h8, h9⟩ := h
  exact ⟨x, dx, sv, p2, p4, t, D, ts2, ts4, ls, e, h1, hs, h3, h4, h5, h6, h7, h8, h9⟩
theorem RulePt.off {CR : Addr} {d w c : Addr} {B : Int} {H : Hp} {v sv : V} {yss sss : List (List Str)} {rows : List (List (Option Int))} {ss : List (Str × Option Int)} (h : RulePt CR H v sv yss sss rows ss) (X : Dr d w c B H) : RulePt CR (hd2 d w H) v sv yss sss rows ss := by
  obtain ⟨x, dx, p2, p4, t, D, ts2, ts4, ls, e, h1, h3, h4, h5, h6, h7, h8, h9⟩ := h
  obtain ⟨⟨r, t', e1, _⟩, ⟨ns, e2⟩, _⟩ := X
  have nT : ∀ {b : Addr} {xs : List V}, H b = some (.tup xs) → hd2 d w H b = some (.tup xs) := fun h => hd2_mk h (fun z => by rw [z, e1] at h; cases h) (fun z => by rw [z, e2] at h; cases h)
  have nI : ∀ {b C dx : Addr} {fs : List (Str × V)}, H b = some (.ins C dx fs) → hd2 d w H b = some (.ins C dx fs) := fun h => hd2_mk h (fun z => by rw [z, e1] at h; cases h) (fun z => by rw [z, e2] at h; cases h)
  refine ⟨x, dx, p2, p4, t, D, ts2, ts4, ls, e, nI h1, nT h3, h4.imp fun _ _ h => nT h, nT h5, h6.imp fun _ _ h => nT h, nT h7, h8.imp fun _ _ h => nT h, hd2_mk h9 (fun z => ?_) (fun z => by rw [z, e2] at h9; cases h9)⟩
  rw [z, e1] at h9
  have h9 := HO.dK.inj (Option.some.inj h9)
  cases ss with
  | nil => cases h9
  | cons y r =>
    obtain ⟨n, o⟩ := y
    cases o <;> cases h9
end WP
namespace WP
open PySem PySem.HandSPX PySem.Builtin PySem.Builtin.ObjectAttr
section
variable {M : Model} {A : Around} {E : Value → Shared → Prop} {h : Heap} {g : Array GenState} {d : Drawn} {t : Nat} {os : OsState}
variable {nm q : Str} {C N : Addr} {bs bm bmB : List Value} {hdct : Bool} {sn : List Str} {sub : List Value} {ab : Bool} {col : Option Bool} {dd : Option Addr} {k0 k1 k2 k3 k5 : Option Value} {B newId initId : String}
theorem check_new_ownK (F : ExcBaseFacts B newId initId bmB) (hT : ∀ X : String, bm.contains (.type X) = bmB.contains (.type X)) {rest : List Value} {kw : List (Str × Value)} {Q : Unit → Shared → Prop}
    (hC : h.get? C = some (excClassObj nm q C N bs bm hdct sn sub ab col dd k0 k1 k2 k3 k5 newId)) (hq : Q () ⟨h, g, d, t, os⟩) : wpAny M A (checkBuiltinCall newId ⟨.ref C :: rest, kw⟩) Q E ⟨h, g, d, t, os⟩ := by
  have hcont : (Value.ref C :: bm).contains (.type B) = true := by rw [List.contains_cons, hT, F.hasB, Bool.or_true]
  have hstar := F.noStar
  simp only [checkBuiltinCall, F.newKind, F.newSplit, F.newRow]
  repeat (first | refine wpAny_loadPart_at hC ?_ | (refine wpAny_isSubtype_exc hC ?_; rw [hcont]) | refine wpAny_staticBase_exc hC ?_ | refine wpAny_madeBy_exc hC ?_ | simp only [bne_self_eq_false, Bool.false_eq_true, if_false] | wp_step)
  exact hq
end
section
variable {prog : Program} {w : World} {A : Around} {E : Value → Shared → Prop} {R : Result → Shared → Prop} {h : Heap} {g : Array GenState} {d : Drawn} {t : Nat} {os : OsState}
variable {nm q : Str} {C N : Addr} {bs bm bmB : List Value} {hdct : Bool} {sn : List Str} {sub : List Value} {ab : Bool} {col : Option Bool} {dd : Option Addr} {k0 k1 k2 k3 k5 : Option Value} {B newId initId : String}
theorem new_ownK (F : ExcBaseFacts B newId initId bmB) (hT : ∀ X : String, bm.contains (.type X) = bmB.contains (.type X)) {rest : List Value} {kw : List (Str × Value)}
    (hC : h.get? C = some (excClassObj nm q C N bs bm hdct sn sub ab col dd k0 k1 k2 k3 k5 newId))
    (hq : R (.ok (.ret (.ref (h.objs.size + 1)))) ⟨(h.push { cls := .type "tuple", data := .seq rest.toArray }).push
      { cls := .ref C, data := .fields #[.ref h.objs.size, .none, .none, .none, .bool false, .none] }, g, d, t, os⟩) (hrest : rest.length ≤ sizeLine) :
    codeAny (model prog w) A (.builtin newId ⟨.ref C :: rest, kw⟩) R ⟨h, g, d, t, os⟩ := by
  have hends := F.ends
  have hcB : (Value.ref C :: bm).contains (.type B) = true := by rw [List.contains_cons, hT, F.hasB, Bool.or_true]
  have hcA : (Value.ref C :: bm).contains (.type "AttributeError") = false := by rw [List.contains_cons, hT, F.noAttr]; rfl
  have hcN : (Value.ref C :: bm).contains (.type "NameError") = false := by rw [List.contains_cons, hT, F.noName]; rfl
  refine codeAny_builtinAt F.entry ?_
  unfold Builtin.«BaseException.__new__»
  refine wpAt_bind ?_
  show wpAt _ _ _ (stack >>= _) _ _ _
  refine wpAt_bind (wpAt_stack fun p below => wpAt_of_wpAny ?_)
  wp_walk
  refine wpAt_of_wpAny ?_
  rw [F.owner]
  repeat (first | with_reducible refine wpAny_madeHere_exc F.canon hC ?_ | with_reducible refine wpAny_loadPart_at hC ?_ | (with_reducible refine wpAny_isSubtype_exc hC ?_; first | rw [hcB] | rw [hcA] | rw [hcN]) | wp_step)
  show R _ _
  rw [Heap.size_push]
  exact hq
theorem type_call_ownK (F : ExcBaseFacts B newId initId bmB) (hT : ∀ X : String, bm.contains (.type X) = bmB.contains (.type X)) {rest : List Value} {kw : List (Str × Value)} {fI : Addr} {Q : Fin → Shared → Prop}
    (hC : h.get? C = some (excClassObj nm q C N bs bm hdct sn sub ab col dd k0 k1 k2 k3 k5 newId))
    (hi : W.Looks (model prog w) h (typeLookup (.ref C) "__init__") (some (.ref fI))) (hb : ∀ self, W.Looks (model prog w) h (bindSpecial (.ref fI) self) (.ref fI, [self])) (hrest : rest.length ≤ sizeLine)
    (hq : codeAny (model prog w) A (.call (.ref fI) ⟨.ref (h.objs.size + 1) :: rest, kw⟩)
      (fun r s' => match r with | .ok (.ret v) => v = .none ∧ Q (.done (.ret (.ref (h.objs.size + 1)))) s' | .ok _ => False | .error e => E e s')
      ⟨(h.push (W.kdv_tup rest)).push (excO C h.objs.size), g, d, t, os⟩) :
    wpAny (model prog w) A (Builtin.«type.__call__» ⟨.ref C :: rest, kw⟩) Q E ⟨h, g, d, t, os⟩ := by
  repeat (first | with_reducible refine wpAny_loadPart_at hC ?_ | with_reducible refine wpAny_madeBy_exc hC ?_ | wp_step)
  refine codeAny_call_builtin_code (Code.quiet_builtin _ F.quiet) (check_new_ownK F hT hC ?_)
  refine new_ownK F hT hC ?_ hrest
  show wpAny _ _ _ _ _ _
  have k : ∀ b o, h.get? b = some o → ((h.push (W.kdv_tup rest)).push (excO C h.objs.size)).get? b = some o := fun b o e => Heap.get?_push_of_some _ (Heap.get?_push_of_some _ e)
  have hC₁ := k _ _ hC
  have hget : ((h.push (W.kdv_tup rest)).push (excO C h.objs.size)).get? (h.objs.size + 1) = some (excO C h.objs.size) := by heap_get
  have hcC : (Value.ref C :: bm).contains (.ref C) = true := by simp
  have i1 := hi.keeps k
  have b1 := (hb (.ref (h.objs.size + 1))).keeps k
  unfold isInstance
  repeat (first | with_reducible refine wpAny_loadPart_at hget ?_ | (with_reducible refine wpAny_isSubtype_exc hC₁ ?_; rw [hcC]) | wp_step)
  show wpAny _ _ (typeLookup (.ref C) _) _ _ _
  refine i1.at ?_
  refine wpAny_holding (wpAny_bind (b1.at ?_))
  refine wpAny_bind (wpAny_call (codeAny_mono hq fun r s' z => ?_))
  rcases r with e | (v | _ | _ | _) <;> first | exact z | exact z.elim | skip
  obtain ⟨rfl, z⟩ := z
  first
    | exact wpAny_pure (wpAny_pure z)
    | (wp_walk; exact z)
theorem call_ownK (F : ExcBaseFacts B newId initId bmB) (hT : ∀ X : String, bm.contains (.type X) = bmB.contains (.type X)) {rest : List Value} {kw : List (Str × Value)} {fI : Addr}
    (hC : h.get? C = some (excClassObj nm q C N bs bm hdct sn sub ab col dd k0 k1 k2 k3 k5 newId))
    (hi : W.Looks (model prog w) h (typeLookup (.ref C) "__init__") (some (.ref fI))) (hb : ∀ self, W.Looks (model prog w) h (bindSpecial (.ref fI) self) (.ref fI, [self])) (hrest : rest.length ≤ sizeLine)
    (hq : codeAny (model prog w) (A.under (.builtin "type.__call__" ⟨.ref C :: rest, kw⟩)) (.call (.ref fI) ⟨.ref (h.objs.size + 1) :: rest, kw⟩) (W.InitBack (h.objs.size + 1) R)
      ⟨(h.push (W.kdv_tup rest)).push (excO C h.objs.size), g, d, t, os⟩) :
    codeAny (model prog w) A (.call (.ref C) ⟨rest, kw⟩) R ⟨h, g, d, t, os⟩ := by
  have f1 := tc_lookup
  have f2 := tc_bind (.ref C)
  have hTy : (⟨h, g, d, t, os⟩ : Shared).TypeIs (.ref C) "type" := ⟨_, hC, rfl⟩
  refine codeAny_of_tree ?_
  show wpAny _ _ (callAny (.ref C) _) _ _ _
  repeat (any_goals (first | assumption | with_reducible refine wpAny_loadPart_at hC ?_ | wp_step))
  refine ⟨rfl, ?_⟩
  refine codeAny_call_builtin_at (Code.quiet_builtin _ (by decide +kernel)) entry_typeCall (wpAny_check_type_call_sub hC (type_call_ownK F hT hC hi hb hrest ?_))
  refine codeAny_mono hq fun r s' z => ?_
  rcases r with e | (v | _ | _ | _) <;> exact z
end
end WP
namespace WP
open PySem L2 PySem.Spec PyProof.Rows
/-- C(e, ..): the error tracked as a caught one is -/
def tXO (C : Addr) (sp : Sp) (ta : TA) : TE := fun σ H Q => ta σ H fun vs H1 => vs.length ≤ 1000 ∧ ∀ a, H1 a = none → sp (.ref a :: vs) (upd H1 a (exo a C none))
  (fun v H2 => v = .non ∧ ∃ (d : Addr) (fs : List (Str × V)), H2 a = some (exo a C (some d)) ∧ H2 d = some (exd d fs) ∧ H1 d = none ∧ (d ≠ a → Q (.ref a) (upd (upd (del H2 a) d (.xd fs)) a (XvO (.ref C) (some d) a)))) (fun _ _ _ => False)
def tXOK (C : Addr) (m : Nat) (sp : Sp) (gV : List V → List V → List V) (tk : TA) : TE := fun σ H Q => tk σ H fun zs H1 => zs.length = m ∧ m ≤ 1000 ∧ ∀ a, H1 a = none → sp (gV [.ref a] zs) (upd H1 a (exo a C none))
  (fun v H2 => v = .non ∧ ∃ (d : Addr) (fs : List (Str × V)), H2 a = some (exo a C (some d)) ∧ H2 d = some (exd d fs) ∧ H1 d = none ∧ (d ≠ a → Q (.ref a) (upd (upd (del H2 a) d (.xd fs)) a (XvO (.ref C) (some d) a)))) (fun _ _ _ => False)
section
variable {X : Cx} {e : Expr} {es : List Expr} {kws : List Keyword} {ta tk : TA} {p pos : Pos}
theorem madeX_end {pins : List (Addr × Obj)} {σ : L2.St} {H1 H2 : Hp} {Q : VK} {hp hp2 h2 : Heap} {g1 g2 : Array GenState} {d1 d2 : Drawn} {t1 t2 : Nat} {os1 os2 : OsState} {a C d : Addr} {fs : List (Str × V)} (I1 : Inv X pins σ H1 ⟨hp, g1, d1, t1, os1⟩)
    (ha : hp.objs.size ≤ a) (k : ∀ b o, hp.get? b = some o → hp2.get? b = some o) (un : Un (frs X.stack) [] (upd H1 a (exo a C none)) H2 hp2 h2) (hok : HOk X.prog X.w H2 h2) (ho : os2 = os1) (hb : AllBare g2)
    (ea : H2 a = some (exo a C (some d))) (ed : H2 d = some (exd d fs)) (hd1 : H1 d = none) (q : d ≠ a → Q (.ref a) (upd (upd (del H2 a) d (.xd fs)) a (XvO (.ref C) (some d) a))) : EP X pins σ Q (.ref a) ⟨h2, g2, d2, t2, os2⟩ := by
  obtain ⟨t0, G, J, kG, ge, hoe, na⟩ := mk_end0 (d2 := d2) (t2 := t2) I1 ha k un hok ho hb ea ed hd1
  have hda : d ≠ a := fun z => by
    rw [z, upd_same] at na
    cases na
  exact ⟨.ref a, _, J.laidN (t' := t2) kG ge na (xvO_ok hoe ⟨rfl, rfl⟩ rfl), rfl, q hda⟩
theorem pe_oex {CX : CXT} {x : Str} {C fI : Addr} {k : Nat} {fd : FuncData} {ps : List Str} {sp : Sp} (T : OexC X.K C) (iC : PySem.W.findIn X.K (.ref C) "__init__" = some (some (.ref fI))) (tI : PySem.W.typeIn X.K (.ref fI) = some (.type "function"))
    (F1 : FnOk X.prog X.w X.K X.mg X.base CX k fI fd ps sp) (hr : Room (k + 1) X.A) (hb : Binds X.K fd ps []) (hx : Passes CX X (fun _ _ _ => False)) (hg : Gl X x) (hm : X.mg x = some (.ref C)) (ha : PA X (e :: es) ta)
    (hdb : (x == ("__debug__" : Str)) = false := by decide) (he : starEach (e :: es) X.env = (false, eval e X.env) :: starEach es X.env := by rfl) (hpl : (backTo pos (starEach es X.env)).any (·.1) = false := by rfl) :
    PE X (.Call (.Name x p) (e :: es) [] pos) (tXO C sp ta) := by
  refine ⟨fun pins s σ H Q I h => ?_⟩
  obtain ⟨nm, q, N, bs, bm, sn, sub, ab, col, dd, k0, k1, k2, k3, k5, hC, hbm⟩ := T.cls
  refine wpAny_Call_Name_kw (ld_glob I hg hm ?_ hdb)
  refine PySem.W.callWith_K (h₀ := X.base) I.ok.mod.kin T.kC (thn (ha.run pos pins s σ H _ I h) fun us s1 ⟨vs, H1, I1, r1, hz, q1⟩ => ⟨I1.kIn, ?_⟩) he hpl
  show wpAny _ _ (call (.ref C) us) _ _ _
  obtain ⟨hp, g, dr, tk, os⟩ := s1
  have hsz : hp.objs.size ≤ hp.objs.size + 1 := Nat.le_succ _
  have hn : H1 (hp.objs.size + 1) = none := I1.hok.fresh hsz
  have hq := q1 (hp.objs.size + 1) hn
  have kk : ∀ b o, hp.get? b = some o → ((hp.push (PySem.W.kdv_tup us)).push (PySem.HandSPX.excO C hp.objs.size)).get? b = some o := fun b o e => Heap.get?_push_of_some _ (Heap.get?_push_of_some _ e)
  have hget : ((hp.push (PySem.W.kdv_tup us)).push (PySem.HandSPX.excO C hp.objs.size)).get? (hp.objs.size + 1) = some (PySem.HandSPX.excO C hp.objs.size) := by heap_get
  have I2 : Inv X pins σ (upd H1 (hp.objs.size + 1) (exo (hp.objs.size + 1) C none)) ⟨(hp.push (PySem.W.kdv_tup us)).push (PySem.HandSPX.excO C hp.objs.size), g, dr, tk, os⟩ :=
    I1.laid (t' := tk) (a := hp.objs.size + 1) (o := exo (hp.objs.size + 1) C none) (h' := (hp.push (PySem.W.kdv_tup us)).push (PySem.HandSPX.excO C hp.objs.size)) kk hsz (exo_ok hget)
  have r2 : Vals (V.ref (hp.objs.size + 1) :: vs) (Value.ref (hp.objs.size + 1) :: us) := .cons rfl r1
  have hl : (Value.ref (hp.objs.size + 1) :: us).length = ps.length := by
    have e := r2.length
    rw [F1.len _ _ _ _ hq] at e
    exact e.symm
  have hus : us.length ≤ sizeLine := by
    rw [← Paired.length r1, sizeLine_eq]
    omega
  have hb2 := hb _ (Value.ref (hp.objs.size + 1) :: us) I2.kIn (by rw [List.append_nil]; exact hl)
  rw [List.append_nil] at hb2
  refine wpAny_call (PySem.HandSPX.call_own F.excBase_ValueError (fun Y => PySem.HandSPX.refsVE_contains Y bm hbm) (I1.kIn _ _ hC) (PySem.W.looks_findIn I1.kIn iC) (fun self => PySem.W.bind_fn I1.kIn self tI) hus
    (codeAny_mono (F1.run _ X.stack _ _ ⟨Value.ref (hp.objs.size + 1) :: us, []⟩ (Value.ref (hp.objs.size + 1) :: us) _ _ (fun _ _ _ => False) (hr.make C us []) (I2.env0.make C us []) hb2 r2 hq) fun r s' hq' => ?_))
  cases r with
  | error er => exact hx pins σ _ _ er s' I2 hq'
  | ok fl =>
    cases fl with
    | ret u =>
      obtain ⟨v, H2, os2, bare2, un2, hok2, rv, ev, d, fs, ea, ed, hd1, q2⟩ := hq'
      subst ev
      obtain ⟨h2, g2, d2, t2, os'⟩ := s'
      exact ⟨rv, madeX_end I1 hsz kk un2 hok2 os2 bare2 ea ed hd1 q2⟩
    | next => exact False.elim hq'
    | brk => exact False.elim hq'
    | cont => exact False.elim hq'
theorem pe_oexK {CX : CXT} {x : Str} {C fI : Addr} {k : Nat} {fd : FuncData} {ps ks : List Str} {sp : Sp} {g : List Value → List Value → List Value} {gV : List V → List V → List V} (T : OexC X.K C) (iC : PySem.W.findIn X.K (.ref C) "__init__" = some (some (.ref fI))) (tI : PySem.W.typeIn X.K (.ref fI) = some (.type "function"))
    (F1 : FnOk X.prog X.w X.K X.mg X.base CX k fI fd ps sp) (hr : Room (k + 1) X.A) (hb : KBn X.K fd ps 1 ks g gV) (hx : Passes CX X (fun _ _ _ => False)) (hg : Gl X x) (hm : X.mg x = some (.ref C)) (hkw : PK X kws tk)
    (hall : (backToKw pos (keywordEach kws X.env)).all (·.1.isSome) = true := by rfl) (hks : (backToKw pos (keywordEach kws X.env)).filterMap (·.1) = ks := by rfl) (hdb : (x == ("__debug__" : Str)) = false := by decide)
    (hpl : ((backTo pos (starEach [] X.env)).any (·.1) || (backToKw pos (keywordEach kws X.env)).any (·.1.isNone)) = false := by rfl) :
    PE X (.Call (.Name x p) [] kws pos) (tXOK C ks.length sp gV tk) := by
  refine ⟨fun pins s σ H Q I h => ?_⟩
  obtain ⟨nm, q, N, bs, bm, sn, sub, ab, col, dd, k0, k1, k2, k3, k5, hC, hbm⟩ := T.cls
  refine wpAny_Call_Name_kw (ld_glob I hg hm ?_ hdb)
  refine PySem.W.callWith_KW0 (h₀ := X.base) I.ok.mod.kin T.kC hall ?_ hpl
  refine thn (hkw.run pos pins s σ H _ I h) fun ws s1 ⟨zs, H1, I1, rz, l2, _, q1⟩ => ⟨I1.kIn, ?_⟩
  rw [hks]
  show wpAny _ _ (call (.ref C) [] (ks.zip ws)) _ _ _
  obtain ⟨hp, g0, dr, tk', os⟩ := s1
  have hsz : hp.objs.size ≤ hp.objs.size + 1 := Nat.le_succ _
  have hn : H1 (hp.objs.size + 1) = none := I1.hok.fresh hsz
  have hq := q1 (hp.objs.size + 1) hn
  have kk : ∀ b o, hp.get? b = some o → ((hp.push (PySem.W.kdv_tup [])).push (PySem.HandSPX.excO C hp.objs.size)).get? b = some o := fun b o e => Heap.get?_push_of_some _ (Heap.get?_push_of_some _ e)
  have hget : ((hp.push (PySem.W.kdv_tup [])).push (PySem.HandSPX.excO C hp.objs.size)).get? (hp.objs.size + 1) = some (PySem.HandSPX.excO C hp.objs.size) := by heap_get
  have I2 : Inv X pins σ (upd H1 (hp.objs.size + 1) (exo (hp.objs.size + 1) C none)) ⟨(hp.push (PySem.W.kdv_tup [])).push (PySem.HandSPX.excO C hp.objs.size), g0, dr, tk', os⟩ :=
    I1.laid (t' := tk') (a := hp.objs.size + 1) (o := exo (hp.objs.size + 1) C none) (h' := (hp.push (PySem.W.kdv_tup [])).push (PySem.HandSPX.excO C hp.objs.size)) kk hsz (exo_ok hget)
  have r1 : Vals [V.ref (hp.objs.size + 1)] [Value.ref (hp.objs.size + 1)] := .cons rfl .nil
  have r2 := hb.rel r1 rz
  refine wpAny_call (call_ownK F.excBase_ValueError (fun Y => PySem.HandSPX.refsVE_contains Y bm hbm) (I1.kIn _ _ hC) (PySem.W.looks_findIn I1.kIn iC) (fun self => PySem.W.bind_fn I1.kIn self tI) (Nat.zero_le _)
    (codeAny_mono (F1.run _ X.stack _ _ ⟨[Value.ref (hp.objs.size + 1)], ks.zip ws⟩ (g [Value.ref (hp.objs.size + 1)] ws) _ _ (fun _ _ _ => False) (hr.make C [] (ks.zip ws)) (I2.env0.make C [] (ks.zip ws)) (hb.to _ [Value.ref (hp.objs.size + 1)] ws I2.kIn rfl (rz.length.symm.trans l2)) r2 hq) fun r s' hq' => ?_))
  cases r with
  | error er => exact hx pins σ _ _ er s' I2 hq'
  | ok fl =>
    cases fl with
    | ret u =>
      obtain ⟨v, H2, os2, bare2, un2, hok2, rv, ev, d, fs, ea, ed, hd1, q2⟩ := hq'
      subst ev
      obtain ⟨h2, g2, d2, t2, os'⟩ := s'
      exact ⟨rv, madeX_end I1 hsz kk un2 hok2 os2 bare2 ea ed hd1 q2⟩
    | next => exact False.elim hq'
    | brk => exact False.elim hq'
    | cont => exact False.elim hq'
end
end WP
namespace WP
open PySem L2 PySem.Spec PyProof.Rows
def tMkX1 (C : Addr) (fld : Str) (te : TE) : TE := fun σ H Q => te σ H fun y H1 => ∀ a d, H1 a = none → H1 d = none → d ≠ a → Q (.ref a) (upd (upd H1 d (.xd [(fld, y)])) a (XvO (.ref C) (some d) a))
def tMkX2 (C : Addr) (f g : Str) (te te' : TE) : TE := fun σ H Q => te σ H fun y H1 => te' σ H1 fun z H2 => ∀ a d, H2 a = none → H2 d = none → d ≠ a → Q (.ref a) (upd (upd H2 d (.xd [(g, z), (f, y)])) a (XvO (.ref C) (some d) a))
def tMkX0 (C : Addr) (te : TE) : TE := fun σ H Q => te σ H fun _ H1 => ∀ a, H1 a = none → Q (.ref a) (upd H1 a (XvO (.ref C) none a))
theorem made2_end {H2 H' : Hp} {a dx C : Addr} {fs : List (Str × V)} (ha : H2 a = none) (h3 : ∀ b, b ≠ a → b ≠ dx → H' b = upd H2 a (exo a C none) b) : upd (del H' a) dx (.xd fs) = upd H2 dx (.xd fs) := by
  funext b
  by_cases hb : b = dx
  · rw [hb, upd_same, upd_same]
  · rw [upd_ne hb, upd_ne hb]
    by_cases hb2 : b = a
    · rw [hb2, del_same, ha]
    · rw [del_ne hb2, h3 b hb2 hb, upd_ne hb2]
section
variable {X : Cx} {CP C : Addr} {x f g fld : Str} {e e' : Expr} {te te' : TE} {p pos : Pos}
theorem pe_mkX1 (T : Err1 X.prog X.w X.K X.mg X.base CP x C fld) (hr : Room 2 X.A) (he : PE X e te) (hg : Gl X x := by rfl)
    (hdb : (x == ("__debug__" : Str)) = false := by decide) (hs : starEach [e] X.env = (false, eval e X.env) :: starEach [] X.env := by rfl) (hpl : (backTo pos (starEach [] X.env)).any (·.1) = false := by rfl) :
    PE X (.Call (.Name x p) [e] [] pos) (tMkX1 C fld te) := by
  obtain ⟨fI, fd, h1, h2, h3, h4⟩ := T.init
  have Z := pe_oex (p := p) (pos := pos) T.T h1 h2 h3 hr h4 (fun _ _ _ _ _ _ _ h => h.elim) hg T.mgC (pa_cons (pe_weak he) pa_nil hs) hdb hs hpl
  refine ⟨fun pins s σ H Q I h => Z.run pins s σ H Q I ⟨_, h, fun v H1 q => ⟨(by show 1 ≤ 1000; decide), fun a ha => ?_⟩⟩⟩
  refine ⟨a, v, rfl, upd_same, fun dx hdx hne => ⟨rfl, dx, [(fld, v)], upd_same, ?_, ?_, fun _ => ?_⟩⟩
  · rw [upd_ne hne, upd_same]
  · rw [upd_ne hne] at hdx
    exact hdx
  · rw [made_end ha hne]
    rw [upd_ne hne] at hdx
    exact q a dx ha hdx hne
theorem pe_mkX2 (T : Err2 X.prog X.w X.K X.mg X.base CP x C f g) (hr : Room 2 X.A) (he : PE X e te) (he' : PE X e' te') (hg : Gl X x := by rfl)
    (hdb : (x == ("__debug__" : Str)) = false := by decide) (hs : starEach [e, e'] X.env = (false, eval e X.env) :: starEach [e'] X.env := by rfl) (hs' : starEach [e'] X.env = (false, eval e' X.env) :: starEach [] X.env := by rfl) (hpl : (backTo pos (starEach [e'] X.env)).any (·.1) = false := by rfl) :
    PE X (.Call (.Name x p) [e, e'] [] pos) (tMkX2 C f g te te') := by
  obtain ⟨fI, fd, h1, h2, h3, h4⟩ := T.init
  have Z := pe_oex (p := p) (pos := pos) T.T h1 h2 h3 hr h4 (fun _ _ _ _ _ _ _ h => h.elim) hg T.mgC (pa_cons (pe_weak he) (pa_cons (pe_weak he') pa_nil hs') hs) hdb hs hpl
  refine ⟨fun pins s σ H Q I h => Z.run pins s σ H Q I ⟨_, h, fun v H1 q => ⟨_, q, fun u H2 q2 => ⟨(by show 2 ≤ 1000; decide), fun a ha => ?_⟩⟩⟩⟩
  refine ⟨a, v, u, rfl, upd_same, fun dx hdx hne H' h1 h2 h3 => ⟨rfl, dx, _, h1, h2, ?_, fun _ => ?_⟩⟩
  · rw [upd_ne hne] at hdx
    exact hdx
  · rw [made2_end ha h3]
    rw [upd_ne hne] at hdx
    exact q2 a dx ha hdx hne
/-- by name -/
structure Err1K (P : Program) (w : World) (K : PySem.W.Frag) (mg : Str → Option Value) (base : Heap) (x : Str) (C : Addr) (fld : Str) : Prop where
  T : OexC K C
  mgC : mg x = some (.ref C)
  init : ∃ fI fd g, PySem.W.findIn K (.ref C) "__init__" = some (some (.ref fI)) ∧ PySem.W.typeIn K (.ref fI) = some (.type "function") ∧ FnOk P w K mg base CX0 1 fI fd ["self", fld] (spI1 C fld) ∧ KBn K fd ["self", fld] 1 [fld] g (fun us zs => us ++ zs)
def tMkX1K (C : Addr) (fld : Str) (tk : TA) : TE := fun σ H Q => tk σ H fun zs H1 => ∃ y, zs = [y] ∧ ∀ a d, H1 a = none → H1 d = none → d ≠ a → Q (.ref a) (upd (upd H1 d (.xd [(fld, y)])) a (XvO (.ref C) (some d) a))
def rev2 (us zs : List V) : List V := us ++ zs.reverse
def tMkX2K (C : Addr) (f g : Str) (flip : List V → List V → List V) (tk : TA) : TE := fun σ H Q => tk σ H fun zs H2 => ∃ y z, (∀ a : Addr, flip [.ref a] zs = [.ref a, y, z]) ∧ zs.length = 2 ∧ ∀ a d, H2 a = none → H2 d = none → d ≠ a → Q (.ref a) (upd (upd H2 d (.xd [(g, z), (f, y)])) a (XvO (.ref C) (some d) a))
structure Err2K (P : Program) (w : World) (K : PySem.W.Frag) (mg : Str → Option Value) (base : Heap) (x : Str) (C : Addr) (f g : Str) (ks : List Str) (flip : List V → List V → List V) : Prop where
  T : OexC K C
  mgC : mg x = some (.ref C)
  len : ks.length = 2
  init : ∃ fI fd gg, PySem.W.findIn K (.ref C) "__init__" = some (some (.ref fI)) ∧ PySem.W.typeIn K (.ref fI) = some (.type "function") ∧ FnOk P w K mg base CX0 1 fI fd ["self", f, g] (spI2 C f g) ∧ KBn K fd ["self", f, g] 1 ks gg flip
theorem pk_weak {kws : List Keyword} {tk : TA} (h : PK X kws tk) : PK X kws (fun σ H Q => ∃ Q0 : List V → Hp → Prop, tk σ H Q0 ∧ ∀ zs H', Q0 zs H' → Q zs H') := ⟨fun pos pins s σ H Q I ⟨Q0, h1, h2⟩ =>
  thn (h.run pos pins s σ H Q0 I h1) fun _ _ ⟨zs, H', I', r, q⟩ => ⟨zs, H', I', r, h2 _ _ q⟩⟩
theorem pe_mkX1K {kws : List Keyword} {tk : TA} (T : Err1K X.prog X.w X.K X.mg X.base x C fld) (hr : Room 2 X.A) (hkw : PK X kws tk) (hg : Gl X x := by rfl)
    (hall : (backToKw pos (keywordEach kws X.env)).all (·.1.isSome) = true := by rfl) (hks : (backToKw pos (keywordEach kws X.env)).filterMap (·.1) = [fld] := by rfl) (hdb : (x == ("__debug__" : Str)) = false := by decide)
    (hpl : ((backTo pos (starEach [] X.env)).any (·.1) || (backToKw pos (keywordEach kws X.env)).any (·.1.isNone)) = false := by rfl) :
    PE X (.Call (.Name x p) [] kws pos) (tMkX1K C fld tk) := by
  obtain ⟨fI, fd, gg, h1, h2, h3, h4⟩ := T.init
  have Z := pe_oexK (p := p) (pos := pos) T.T h1 h2 h3 hr h4 (fun _ _ _ _ _ _ _ h => h.elim) hg T.mgC (pk_weak hkw) hall hks hdb hpl
  refine ⟨fun pins s σ H Q I h => Z.run pins s σ H Q I ⟨_, h, fun zs H1 ⟨v, e, q⟩ => ?_⟩⟩
  subst e
  refine ⟨rfl, (by show 1 ≤ 1000; decide), fun a ha => ?_⟩
  refine ⟨a, v, rfl, upd_same, fun dx hdx hne => ⟨rfl, dx, [(fld, v)], upd_same, ?_, ?_, fun _ => ?_⟩⟩
  · rw [upd_ne hne, upd_same]
  · rw [upd_ne hne] at hdx
    exact hdx
  · rw [made_end ha hne]
    rw [upd_ne hne] at hdx
    exact q a dx ha hdx hne
theorem pe_mkX2K {kws : List Keyword} {tk : TA} {ks : List Str} {flip : List V → List V → List V} (T : Err2K X.prog X.w X.K X.mg X.base x C f g ks flip) (hr : Room 2 X.A) (hkw : PK X kws tk) (hg : Gl X x := by rfl)
    (hall : (backToKw pos (keywordEach kws X.env)).all (·.1.isSome) = true := by rfl) (hks : (backToKw pos (keywordEach kws X.env)).filterMap (·.1) = ks := by rfl) (hdb : (x == ("__debug__" : Str)) = false := by decide)
    (hpl : ((backTo pos (starEach [] X.env)).any (·.1) || (backToKw pos (keywordEach kws X.env)).any (·.1.isNone)) = false := by rfl) :
    PE X (.Call (.Name x p) [] kws pos) (tMkX2K C f g flip tk) := by
  obtain ⟨fI, fd, gg, h1, h2, h3, h4⟩ := T.init
  have Z := pe_oexK (p := p) (pos := pos) T.T h1 h2 h3 hr h4 (fun _ _ _ _ _ _ _ h => h.elim) hg T.mgC (pk_weak hkw) hall hks hdb hpl
  refine ⟨fun pins s σ H Q I h => Z.run pins s σ H Q I ⟨_, h, fun zs H1 ⟨v, u, e, l, q⟩ => ?_⟩⟩
  refine ⟨by rw [l, T.len], (by rw [T.len]; decide), fun a ha => ?_⟩
  refine ⟨a, v, u, e a, upd_same, fun dx hdx hne H' h1 h2 h3 => ⟨rfl, dx, _, h1, h2, ?_, fun _ => ?_⟩⟩
  · rw [upd_ne hne] at hdx
    exact hdx
  · rw [made2_end ha h3]
    rw [upd_ne hne] at hdx
    exact q a dx ha hdx hne
/-- less is known of what is tracked -/
theorem Inv.weakX {pins : List (Addr × Obj)} {σ : L2.St} {H : Hp} {s : Shared} {a : Addr} {φ : Heap → Prop} {o : HO} (I : Inv X pins σ H s) (ha : H a = some (.ext φ)) (new : ObjOk X.prog X.w (upd H a o) s.heap a o)
    (hs : ∀ b ob, H b = some ob → b ≠ a → ObjOk X.prog X.w H s.heap b ob → ObjOk X.prog X.w (upd H a o) s.heap b ob) : Inv X pins σ (upd H a o) s := by
  have ub := I.base
  have nb : ∀ {b : Addr}, H b = none → b ≠ a := fun h z => by rw [z, ha] at h; cases h
  refine ⟨I.ok, I.os, I.bare, ⟨ub.keep, ub.slot, fun b ob e n hx => ?_, ub.there, fun b xs e => ?_, fun b ob u e => ?_, fun b ps e => ?_⟩, I.loc, I.cell, ?_, fun y c e => ?_, fun p hp => ?_, fun b ob e => ?_, I.len⟩
  · have q := ub.free b ob e n hx
    rw [upd_ne (nb q)]
    exact q
  · have q := ub.tups b xs e
    rw [upd_ne (fun z => by rw [z, ha] at q; cases q)]
    exact q
  · have q := ub.frzs b ob u e
    rw [upd_ne (fun z => by rw [z, ha] at q; cases q)]
    exact q
  · obtain ⟨m, q⟩ := ub.tbls b ps e
    exact ⟨m, by rw [upd_ne (fun z => by rw [z, ha] at q; cases q)]; exact q⟩
  · have q := I.free
    rw [upd_ne (nb q)]
    exact q
  · have q := I.freeC y c e
    rw [upd_ne (nb q)]
    exact q
  · obtain ⟨p1, p2, p3⟩ := I.pin p hp
    exact ⟨p1, by rw [upd_ne (nb p2)]; exact p2, p3⟩
  · by_cases hb : b = a
    · subst hb
      rw [upd_same] at e
      cases e
      exact new
    · rw [upd_ne hb] at e
      exact hs b ob e hb (I.hok b ob e)
theorem Inv.asX {pins : List (Addr × Obj)} {σ : L2.St} {H : Hp} {s : Shared} {a : Addr} {cls : Value} (I : Inv X pins σ H s) (ha : H a = some (ExO cls a)) : Inv X pins σ (upd H a (XvO cls none a)) s := by
  obtain ⟨⟨oe, vs, hget, hz, hdat, _⟩, _, _⟩ := I.hok a _ ha
  refine Inv.weakX I ha (xvO_ok hget hz hdat) fun b ob e n x => x.stay (fun _ _ _ z => z) (fun c hc => ?_) (fun c xs hc => ?_)
  · rw [upd_ne (fun z => by rw [z, ha] at hc; cases hc)]
    exact hc
  · rw [upd_ne (fun z => by rw [z, ha] at hc; cases hc)]
    exact hc
theorem pe_mkX0 (T : Err0 X.K X.mg CP x C) (he : PE X e te) (hg : Gl X x := by rfl) (hs : starEach [e] X.env = (false, eval e X.env) :: starEach [] X.env := by rfl) (hdb : (x == ("__debug__" : Str)) = false := by decide) :
    PE X (.Call (.Name x p) [e] [] pos) (tMkX0 C te) := by
  have Z := pe_exc1 (p := p) (pos := pos) PySem.F.excBase_ValueError T.ex T.mgC T.kC hg (pe_weak he) hs hdb
  refine ⟨fun pins s σ H Q I h => ?_⟩
  refine thn (Z.run pins s σ H (fun v H' => ∃ (a : Addr) (H1 : Hp), v = .ref a ∧ H1 a = none ∧ H' = upd H1 a (ExO (.ref C) a) ∧ Q (.ref a) (upd H1 a (XvO (.ref C) none a))) I ⟨_, h, fun v H1 q a ha => ⟨a, H1, rfl, ha, rfl, q a ha⟩⟩) fun u s1 hu => ?_
  obtain ⟨v, H', I', r, a, H1, rfl, ha, rfl, q⟩ := hu
  have J := Inv.asX I' (a := a) (cls := .ref C) upd_same
  rw [show upd (upd H1 a (ExO (.ref C) a)) a (XvO (.ref C) none a) = upd H1 a (XvO (.ref C) none a) from upd_upd] at J
  exact ⟨.ref a, _, J, r, q⟩
end
end WP
namespace WP
open PySem L2 PySem.Spec PyProof.Rows
/-- an error of class C that keeps fs; none: made of a message -/
def ErrIs (H : Hp) (C : Addr) (o : Option (List (Str × V))) (v : V) : Prop := ∃ a, v = .ref a ∧ match o with
  | some fs => ∃ d, H a = some (XvO (.ref C) (some d) a) ∧ H d = some (.xd fs)
  | none => H a = some (XvO (.ref C) none a)
theorem ErrIs.same {H H' : Hp} {C : Addr} {o : Option (List (Str × V))} {v : V} (h : ErrIs H C o v) (s : Same H H') : ErrIs H' C o v := by
  obtain ⟨a, e, h⟩ := h
  cases o with
  | none => exact ⟨a, e, s _ _ h⟩
  | some fs => obtain ⟨d, h1, h2⟩ := h; exact ⟨a, e, d, s _ _ h1, s _ _ h2⟩
abbrev ErS := List (Addr × Option (List (Str × V)))
abbrev ErrsAt (H : Hp) (vs : List V) (spec : ErS) : Prop := All2 (fun v (c : Addr × Option (List (Str × V))) => ErrIs H c.1 c.2 v) vs spec
def Makes (σ : L2.St) (ta : TA) (spec : ErS) : Prop := ∀ (H : Hp) (Q : List V → Hp → Prop), (∀ vs H', Same H H' → ErrsAt H' vs spec → Q vs H') → ta σ H Q
section
variable {σ : L2.St} {t : TA} {spec : ErS} {C : Addr} {f g : Str} {i j : Nat} {y z v : V}
theorem makes_nil : Makes σ tNil [] := fun H Q q => q [] H (Same.refl _) .nil
theorem new2 {H : Hp} {a d : Addr} {o u : HO} (ha : H a = none) (hd : H d = none) : Same H (upd (upd H d o) a u) := fun b x e => by
  rw [upd_ne (fun z => by rw [z, ha] at e; cases e), upd_ne (fun z => by rw [z, hd] at e; cases e)]
  exact e
theorem makes_1 (h : σ[i]? = some (some y)) (r : Makes σ t spec) : Makes σ (tCons (tMkX1 C f (tVar i)) t) ((C, some [(f, y)]) :: spec) := fun H Q q =>
  ⟨y, h, fun a d ha hd hne => r _ _ fun vs H' S al => q _ _ ((new2 ha hd).trans S) (.cons (ErrIs.same ⟨a, rfl, d, upd_same, by rw [upd_ne hne, upd_same]⟩ S) al)⟩
theorem makes_2 (h : σ[i]? = some (some y)) (h' : σ[j]? = some (some z)) (r : Makes σ t spec) : Makes σ (tCons (tMkX2 C f g (tVar i) (tVar j)) t) ((C, some [(g, z), (f, y)]) :: spec) := fun H Q q =>
  ⟨y, h, z, h', fun a d ha hd hne => r _ _ fun vs H' S al => q _ _ ((new2 ha hd).trans S) (.cons (ErrIs.same ⟨a, rfl, d, upd_same, by rw [upd_ne hne, upd_same]⟩ S) al)⟩
theorem makes_0 (r : Makes σ t spec) : Makes σ (tCons (tMkX0 C (tC v)) t) ((C, none) :: spec) := fun H Q q =>
  fun a ha => r _ _ fun vs H' S al => q _ _ ((Evl.Ex.new ha).trans S) (.cons (ErrIs.same ⟨a, rfl, upd_same⟩ S) al)
theorem makes_1K (h : σ[i]? = some (some y)) (r : Makes σ t spec) : Makes σ (tCons (tMkX1K C f (tCons (tVar i) tNil)) t) ((C, some [(f, y)]) :: spec) := fun H Q q =>
  ⟨y, h, y, rfl, fun a d ha hd hne => r _ _ fun vs H' S al => q _ _ ((new2 ha hd).trans S) (.cons (ErrIs.same ⟨a, rfl, d, upd_same, by rw [upd_ne hne, upd_same]⟩ S) al)⟩
theorem makes_2K (h : σ[i]? = some (some z)) (h' : σ[j]? = some (some y)) (r : Makes σ t spec) : Makes σ (tCons (tMkX2K C f g rev2 (tCons (tVar i) (tCons (tVar j) tNil))) t) ((C, some [(g, z), (f, y)]) :: spec) := fun H Q q =>
  ⟨z, h, y, h', y, z, fun _ => rfl, rfl, fun a d ha hd hne => r _ _ fun vs H' S al => q _ _ ((new2 ha hd).trans S) (.cons (ErrIs.same ⟨a, rfl, d, upd_same, by rw [upd_ne hne, upd_same]⟩ S) al)⟩
theorem lst_err {H : Hp} {Q : VK} (m : Makes σ t spec) (hs : spec.length ≤ 100) (q : ∀ p ys H', Same H H' → H p = none → H' p = some (.lst ys) → ErrsAt H' ys spec → Q (.ref p) H') : tLst t σ H Q :=
  m _ _ fun vs H1 S1 al => ⟨by rw [sizeLine_eq, al.len]; omega, fun p hp => q p vs _ (S1.trans (Evl.Ex.new hp)) (noneS S1 hp) upd_same (al.imp fun _ _ h => h.same (Evl.Ex.new hp))⟩
theorem cat_err {H : Hp} {Q : VK} {L : Addr} {xs : List V} {sp0 : ErS} (hi : σ[i]? = some (some (.ref L))) (m : Makes σ t spec) (bL : H L = some (.lst xs)) (al0 : ErrsAt H xs sp0) (hx : sp0.length ≤ 100) (hs : spec.length ≤ 100)
    (q : ∀ p ys H', Same H H' → H p = none → H' p = some (.lst ys) → ErrsAt H' ys (sp0 ++ spec) → Q (.ref p) H') : tOp rCat (tVar i) (tLst t) σ H Q :=
  ⟨_, hi, lst_err m hs fun p ys H1 S1 _ b1 al1 => ⟨L, p, xs, ys, rfl, rfl, S1 _ _ bL, b1, by rw [sizeLine_eq, al0.len, al1.len]; omega, fun p2 hp2 => q p2 (xs ++ ys) _ (S1.trans (Evl.Ex.new hp2)) (noneS S1 hp2) upd_same
    (All2.imp (All2.app (All2.imp al0 fun _ _ h => h.same S1) al1) fun _ _ h => h.same (Evl.Ex.new hp2))⟩⟩
end
/-- the errors of the package, in the law's order; C: their classes -/
def tabE (C : Nat → Addr) (x y : V) : ErS := [(C 0, some [("part", x)]), (C 1, some [("name", y), ("part", x)]), (C 2, some [("name", x)]), (C 3, some [("name", x)]), (C 4, some [("name", x)]), (C 5, some [("name", x)]),
  (C 6, some [("other", y), ("one", x)]), (C 7, some [("at", x)]), (C 8, some [("number", x)]), (C 9, some [("name", x)]), (C 10, some [("at", x)]), (C 11, none), (C 12, some [("deed", x)]), (C 13, some [("at", x)]), (C 14, some [("number", x)]),
  (C 15, some [("number", x)]), (C 16, some [("at", x)]), (C 17, some [("part", x)]), (C 18, some [("fault", x)]), (C 19, some [("name", x)]), (C 20, none), (C 21, some [("name", x)]), (C 22, some [("at", x)]), (C 23, some [("word", x)]), (C 24, none), (C 25, some [("line", x)])]
/-- those that keep something -/
def tabN (C : Nat → Addr) (x y : V) : ErS := (tabE C x y).filter fun p => p.2.isSome
def spErrors (C : Nat → Addr) : Sp := fun vs H Q _ => ∃ x y : V, vs = [x, y] ∧ ∀ p ys H', Same H H' → H p = none → H' p = some (.lst ys) → ErrsAt H' ys (tabE C x y) → Q (.ref p) H'
def spNamedErrors (C : Nat → Addr) : Sp := fun vs H Q _ => ∃ x y : V, vs = [x, y] ∧ ∀ p ys H', Same H H' → H p = none → H' p = some (.lst ys) → ErrsAt H' ys (tabN C x y) → Q (.ref p) H'
end WP
namespace WP
open PySem L2 PySem.Spec PyProof.Rows
/-- an error of the class C k; which of the 26 it is of -/
def spMarks (K : PySem.W.Frag) (C : Nat → Addr) : Sp := fun vs H Q _ => ∃ (a : Addr) (k : Nat) (o : Option (List (Str × V))), vs = [.ref a] ∧ ErrIs H (C k) o (.ref a) ∧ k < 26 ∧ ∀ p H', Same H H' → H p = none → H' p = some (.lst ((List.range 26).map fun j => V.bl (decide (k = j)))) → Q (.ref p) H'
def Tells (σ : L2.St) (ta : TA) (H : Hp) (bs : List Bool) : Prop := ∀ Q : List V → Hp → Prop, Q (bs.map V.bl) H → ta σ H Q
section
variable {K : PySem.W.Frag} {C : Nat → Addr} {σ : L2.St} {t : TA} {H : Hp} {bs cs : List Bool} {a : Addr} {k i j : Nat} {o : Option (List (Str × V))}
theorem tells_nil : Tells σ tNil H [] := fun Q q => q
theorem tells_isX (ecs : ∀ k, k < 26 → ExcC K (C k)) (tab : ∀ k j, k < 26 → j < 26 → PySem.W.kitOne K (.ref (C k)) (.ref (C j)) = some (decide (k = j))) (h : ErrIs H (C k) o (.ref a)) (hk : k < 26) (hσ : σ[i]? = some (some (.ref a))) (hj : j < 26) (r : Tells σ t H bs) :
    Tells σ (tCons (tCB (rIsX K) (tCons (tVar i) (tCons (tC (.ref (C j))) tNil))) t) H (decide (k = j) :: bs) := fun Q q => by
  obtain ⟨a', e, h⟩ := h
  cases e
  cases o with
  | none => exact ⟨_, hσ, a, C k, none, .ref (C j), .ref (C j), decide (k = j), rfl, h, (fun dd e => by cases e), ecs k hk, ClsV.own _, tab k j hk hj, r (fun xs H2 => Q (V.bl (decide (k = j)) :: xs) H2) q⟩
  | some fs =>
    obtain ⟨d, h1, h2⟩ := h
    exact ⟨_, hσ, a, C k, some d, .ref (C j), .ref (C j), decide (k = j), rfl, h1, (fun dd e => by cases e; exact ⟨fs, h2⟩), ecs k hk, ClsV.own _, tab k j hk hj, r (fun xs H2 => Q (V.bl (decide (k = j)) :: xs) H2) q⟩
theorem tlst {Q : VK} (m : Tells σ t H bs) (hs : bs.length ≤ 100) (q : ∀ p H', Same H H' → H p = none → H' p = some (.lst (bs.map V.bl)) → Q (.ref p) H') : tLst t σ H Q :=
  m _ ⟨by rw [sizeLine_eq, List.length_map]; omega, fun p hp => q p _ (Evl.Ex.new hp) hp upd_same⟩
theorem tcat {Q : VK} {L : Addr} (hi : σ[i]? = some (some (.ref L))) (m : Tells σ t H bs) (bL : H L = some (.lst (cs.map V.bl))) (hx : cs.length ≤ 100) (hs : bs.length ≤ 100) (q : ∀ p H', Same H H' → H p = none → H' p = some (.lst ((cs ++ bs).map V.bl)) → Q (.ref p) H') : tOp rCat (tVar i) (tLst t) σ H Q :=
  ⟨_, hi, tlst m hs fun p H1 S1 _ b1 => ⟨L, p, _, _, rfl, rfl, S1 _ _ bL, b1, by rw [sizeLine_eq, List.length_map, List.length_map]; omega, fun p2 hp2 => q p2 _ (S1.trans (Evl.Ex.new hp2)) (noneS S1 hp2) (by rw [upd_same, List.map_append])⟩⟩
end
end WP
namespace WP
open PySem L2 PySem.Spec PyProof.Rows
def ReadsX (σ : L2.St) (H0 : Hp) (ta : TA) (vs : List V) : Prop := ∀ (H : Hp) (Q : List V → Hp → Prop), Same H0 H → Q vs H → ta σ H Q
def RowsX (σ : L2.St) (H0 : Hp) (ta : TA) (rows : List (List V)) : Prop := ∀ (H : Hp) (Q : List V → Hp → Prop), Same H0 H → (∀ (rs : List Addr) H', Same H H' → All2 (fun r row => H' r = some (.lst row)) rs rows → Q (rs.map V.ref) H') → ta σ H Q
section
variable {K : PySem.W.Frag} {σ : L2.St} {H0 : Hp} {t u : TA} {vs : List V} {rows : List (List V)} {L : Addr} {ys : List V} {spec : ErS} {C : Addr} {fs : List (Str × V)} {f : Str} {v : V} {i j : Nat}
theorem rx_nil : ReadsX σ H0 tNil [] := fun H Q _ q => q
theorem rx_fld (hσ : σ[j]? = some (some (.ref L))) (hL : H0 L = some (.lst ys)) (al : ErrsAt H0 ys spec) (hs : spec[i]? = some (C, some fs)) (hf : fs.lookup f = some v) (xf : XfC K C) (no : PySem.W.findIn K (.ref C) f = some none) (r : ReadsX σ H0 t vs) :
    ReadsX σ H0 (tCons (fun σ H Q => tOp (rIxL K) (tVar j) (tC (.int (i : Nat))) σ H fun y H1 => ∃ (a C d : Addr) (fs : List (Str × V)) (v : V), y = .ref a ∧ H1 a = some (XvO (.ref C) (some d) a) ∧ XfC K C ∧ PySem.W.findIn K (.ref C) f = some none ∧ H1 d = some (.xd fs) ∧ fs.lookup f = some v ∧ Q v H1) t) (v :: vs) := fun H Q S q => by
  obtain ⟨e, he, a, rfl, d, h1, h2⟩ := All2.at' al hs
  exact ⟨_, hσ, L, ys, (i : Nat), .ref a, rfl, rfl, SqL.of (S _ _ hL), atI_nat he, a, C, d, fs, v, rfl, S _ _ h1, xf, no, S _ _ h2, hf, r H (fun xs H2 => Q (v :: xs) H2) S q⟩
theorem rows_nil : RowsX σ H0 tNil [] := fun H Q _ q => q [] H (Same.refl _) .nil
theorem rows_cons (hr : vs.length ≤ 100) (m : ReadsX σ H0 t vs) (r : RowsX σ H0 u rows) : RowsX σ H0 (tCons (tLst t) u) (vs :: rows) := fun H Q S q =>
  m H _ S ⟨by rw [sizeLine_eq]; omega, fun p hp => r _ _ (S.trans (Evl.Ex.new hp)) fun rs H' S' al => q (p :: rs) H' ((Evl.Ex.new hp).trans S') (.cons (S' _ _ upd_same) al)⟩
theorem rlst {H : Hp} {Q : VK} (m : RowsX σ H0 t rows) (S : Same H0 H) (hs : rows.length ≤ 100) (q : ∀ p (rs : List Addr) H', Same H H' → H p = none → H' p = some (.lst (rs.map V.ref)) → All2 (fun r row => H' r = some (.lst row)) rs rows → Q (.ref p) H') : tLst t σ H Q :=
  m H _ S fun rs H1 S1 al => ⟨by rw [sizeLine_eq, List.length_map, al.len]; omega, fun p hp => q p rs _ (S1.trans (Evl.Ex.new hp)) (noneS S1 hp) upd_same (al.imp fun _ _ h => (Evl.Ex.new hp) _ _ h)⟩
theorem rcat {H : Hp} {Q : VK} {M : Addr} {rs0 : List Addr} {rows0 : List (List V)} (hi : σ[i]? = some (some (.ref M))) (m : RowsX σ H0 t rows) (S : Same H0 H) (bM : H M = some (.lst (rs0.map V.ref))) (al0 : All2 (fun r row => H r = some (.lst row)) rs0 rows0) (hx : rows0.length ≤ 100) (hs : rows.length ≤ 100)
    (q : ∀ p (rs : List Addr) H', Same H H' → H p = none → H' p = some (.lst (rs.map V.ref)) → All2 (fun r row => H' r = some (.lst row)) rs (rows0 ++ rows) → Q (.ref p) H') : tOp rCat (tVar i) (tLst t) σ H Q :=
  ⟨_, hi, rlst m S hs fun p rs H1 S1 _ b1 al1 => ⟨M, p, _, _, rfl, rfl, S1 _ _ bM, b1, by rw [sizeLine_eq, List.length_map, List.length_map, al0.len, al1.len]; omega, fun p2 hp2 => q p2 (rs0 ++ rs) _ (S1.trans (Evl.Ex.new hp2)) (noneS S1 hp2) (by rw [upd_same, List.map_append])
    (All2.imp (All2.app (All2.imp al0 fun _ _ h => S1 _ _ h) al1) fun _ _ h => (Evl.Ex.new hp2) _ _ h)⟩⟩
end
def keptR (x y : V) : List (List V) := [[x], [x, y], [x], [x], [x], [x], [x, y], [x], [x], [x], [x], [x], [x], [x], [x], [x], [x], [x], [x], [x], [x], [x], [x]]
def spKept (C : Nat → Addr) : Sp := fun vs H Q _ => ∃ (L : Addr) (ys : List V) (x y : V), vs = [.ref L] ∧ H L = some (.lst ys) ∧ ErrsAt H ys (tabN C x y) ∧ ∀ p (rs : List Addr) H', Same H H' → H p = none → H' p = some (.lst (rs.map V.ref)) → All2 (fun r row => H' r = some (.lst row)) rs (keptR x y) → Q (.ref p) H'
end WP
namespace WP
open PySem L2 PySem.Spec PyProof.Rows LamX
theorem vals_rev : ∀ {vs : List V} {us : List Value}, Vals vs us → Vals vs.reverse us.reverse
  | _, _, .nil => .nil
  | _, _, .cons r t => by
    rw [List.reverse_cons, List.reverse_cons]
    exact (vals_rev t).append (.cons r .nil)
theorem InitF.err1K {P : Program} {w : World} {K : PySem.W.Frag} {C : Addr} {x fld qual : Str} {st : Stmt} {base : Heap} {mg : Str → Option Value} (I : InitF K C st qual) (hm : mg x = some (.ref C))
    (hok : ∀ f fd, Fun K "__init__" qual st f fd → FnOk P w K mg base CX0 1 f fd ["self", fld] (spI1 C fld))
    (hto : ∀ (kV doc pm : Value) (an : Option Addr) (cdv ct : Value) (us ws : List Value), us.length = 1 → ws.length = 1 → bindArgs (PySem.W.fnOf "__init__" qual (defArgs st) (defBody st) (defScope st) .none kV doc pm an cdv ct) ⟨us, ([fld] : List Str).zip ws⟩ = pure ((["self", fld] : List Str).zip (us ++ ws))) : Err1K P w K mg base x C fld := by
  obtain ⟨fI, i1, i2, fd, Fi⟩ := I.init
  refine ⟨I.T, hm, fI, fd, fun us ws => us ++ ws, i1, i2, hok fI fd Fi, ⟨fun s us ws _ l1 l2 => ?_, fun r1 r2 => r1.append r2⟩⟩
  obtain ⟨oc, od, kV, doc, pm, an, cdv, ct, osl, rfl, lk, hcd⟩ := Fi.ex
  exact .of_eq (hto kV doc pm an cdv ct us ws l1 l2)
theorem InitF.err2K {P : Program} {w : World} {K : PySem.W.Frag} {C : Addr} {x f g qual : Str} {st : Stmt} {base : Heap} {mg : Str → Option Value} (I : InitF K C st qual) (hm : mg x = some (.ref C))
    (hok : ∀ fa fd, Fun K "__init__" qual st fa fd → FnOk P w K mg base CX0 1 fa fd ["self", f, g] (spI2 C f g))
    (hto : ∀ (kV doc pm : Value) (an : Option Addr) (cdv ct : Value) (us ws : List Value), us.length = 1 → ws.length = 2 → bindArgs (PySem.W.fnOf "__init__" qual (defArgs st) (defBody st) (defScope st) .none kV doc pm an cdv ct) ⟨us, ([g, f] : List Str).zip ws⟩ = pure ((["self", f, g] : List Str).zip (us ++ ws.reverse))) : Err2K P w K mg base x C f g [g, f] rev2 := by
  obtain ⟨fI, i1, i2, fd, Fi⟩ := I.init
  refine ⟨I.T, hm, rfl, fI, fd, fun us ws => us ++ ws.reverse, i1, i2, hok fI fd Fi, ⟨fun s us ws _ l1 l2 => ?_, fun r1 r2 => r1.append (vals_rev r2)⟩⟩
  obtain ⟨oc, od, kV, doc, pm, an, cdv, ct, osl, rfl, lk, hcd⟩ := Fi.ex
  exact .of_eq (hto kV doc pm an cdv ct us ws l1 l2)
/-- the classes of the errors, in a row -/
def clsR (l : List Addr) (k : Nat) : Addr := l.getD k 0
def isB (o : Option Bool) (b : Bool) : Bool := match o with | some c => c == b | none => false
theorem isB_of {o : Option Bool} {b : Bool} (h : isB o b = true) : o = some b := by
  cases o with
  | none => cases h
  | some c =>
    have h : (c == b) = true := h
    rw [eq_of_beq h]
/-- of which classes the errors are: as one fact -/
def kitTab (K : PySem.W.Frag) (l : List Addr) (CP : Addr) : Bool := (List.range 26).all fun k => isB (PySem.W.kitOne K (.ref (clsR l k)) (.type "ValueError")) true && isB (PySem.W.kitOne K (.ref (clsR l k)) (.ref CP)) true && (List.range 26).all fun j => isB (PySem.W.kitOne K (.ref (clsR l k)) (.ref (clsR l j))) (decide (k = j))
structure KitT (K : PySem.W.Frag) (C : Nat → Addr) (CP : Addr) : Prop where
  ve : ∀ k, k < 26 → PySem.W.kitOne K (.ref (C k)) (.type "ValueError") = some true
  pe : ∀ k, k < 26 → PySem.W.kitOne K (.ref (C k)) (.ref CP) = some true
  tab : ∀ k j, k < 26 → j < 26 → PySem.W.kitOne K (.ref (C k)) (.ref (C j)) = some (decide (k = j))
theorem kitT_of {K : PySem.W.Frag} {l : List Addr} {CP : Addr} (h : kitTab K l CP = true) : KitT K (clsR l) CP := by
  have key : ∀ k, k < 26 → isB (PySem.W.kitOne K (.ref (clsR l k)) (.type "ValueError")) true = true ∧ isB (PySem.W.kitOne K (.ref (clsR l k)) (.ref CP)) true = true ∧ ∀ j, j < 26 → isB (PySem.W.kitOne K (.ref (clsR l k)) (.ref (clsR l j))) (decide (k = j)) = true := fun k hk => by
    have := List.all_eq_true.mp h k (List.mem_range.mpr hk)
    rw [Bool.and_eq_true, Bool.and_eq_true] at this
    exact ⟨this.1.1, this.1.2, fun j hj => List.all_eq_true.mp this.2 j (List.mem_range.mpr hj)⟩
  exact ⟨fun k hk => isB_of (key k hk).1, fun k hk => isB_of (key k hk).2.1, fun k j hk hj => isB_of ((key k hk).2.2 j hj)⟩
theorem ecs_of {K : PySem.W.Frag} {l : List Addr} (hl : l.length = 26) (h : ∀ a ∈ l, ExcC K a) : ∀ k, k < 26 → ExcC K (clsR l k) := fun k hk => by
  unfold clsR
  rw [List.getD_eq_getElem?_getD, List.getElem?_eq_getElem (by rw [hl]; exact hk)]
  exact h _ (List.getElem_mem _)
section
variable {K : PySem.W.Frag} {H H' : Hp} {C : Addr} {o : Option (List (Str × V))} {v c : V} {cv : Value} {b : Bool} {Q : VK}
theorem ErrIs.ex (h : ErrIs H C o v) : ∃ (a : Addr) (d : Option Addr), v = .ref a ∧ H a = some (XvO (.ref C) d a) ∧ ∀ dd, d = some dd → ∃ fs, H dd = some (.xd fs) := by
  obtain ⟨a, rfl, h⟩ := h
  cases o with
  | none => exact ⟨a, none, rfl, h, fun dd e => by cases e⟩
  | some fs =>
    obtain ⟨d, h1, h2⟩ := h
    exact ⟨a, some d, rfl, h1, fun dd e => by cases e; exact ⟨fs, h2⟩⟩
theorem ErrIs.ext (h : ErrIs H C o v) (s : ExtN H H') : ErrIs H' C o v := by
  obtain ⟨a, e, h⟩ := h
  cases o with
  | none => exact ⟨a, e, s _ _ h fun ys z => by cases z⟩
  | some fs => obtain ⟨d, h1, h2⟩ := h; exact ⟨a, e, d, s _ _ h1 (fun ys z => by cases z), s _ _ h2 fun ys z => by cases z⟩
end
/-- an error with a name, raised -/
def spThrown (CE : Addr) : Sp := fun vs H Q E => ∃ v : V, vs = [v] ∧ ∀ d H', Same H H' → H' d = some (.xd [("name", v)]) → E (.ref CE) (some d) H'
/-- those made of a message -/
def inP (j : Nat) : Bool := j == 11 || j == 20 || j == 24
theorem tabE_at {C : Nat → Addr} {x y : V} : ∀ j, j < 26 → ∃ o, (tabE C x y)[j]? = some (C j, o) ∧ o.isSome = !inP j := by
  intro j hj
  iterate 26 (rcases j with _ | j; exact ⟨_, rfl, rfl⟩)
  omega
theorem tabE_len {C : Nat → Addr} {x y : V} : (tabE C x y).length = 26 := rfl
theorem inP_V : ∀ j, j < 26 → inV (.int (0 + (j : Nat))) [.int 11, .int 20, .int 24] = inP j := by
  intro j hj
  iterate 26 (rcases j with _ | j; rfl)
  omega
def inD (j : Nat) : Bool := j == 1 || j == 6
theorem inD_V : ∀ j, j < 23 → inV (.int (0 + (j : Nat))) [.int 1, .int 6] = inD j := by
  intro j hj
  iterate 23 (rcases j with _ | j; rfl)
  omega
def rowB (x y : V) (b : Bool) : List V := if b then [x, y] else [x]
def rowE (x y : PyData) (b : Bool) : PyData := .list (if b then [x, y] else [x])
def keptE (x y : PyData) : PyData := .list ((List.range 23).map fun j => rowE x y (inD j))
theorem vd_row {H : Hp} {x y : V} {e1 e2 : PyData} (h1 : Vd H x e1) (h2 : Vd H y e2) {r : Addr} (b : Bool) (h : H r = some (.lst (rowB x y b))) : Vd H (.ref r) (rowE e1 e2 b) := by
  cases b with
  | false => exact .lst (vs := [x]) h (.one h1)
  | true => exact .lst (vs := [x, y]) h (.cons h1 (.one h2))
theorem vd_rows {H : Hp} {x y : V} {e1 e2 : PyData} (h1 : Vd H x e1) (h2 : Vd H y e2) (js : List Nat) : ∀ {rs : List Addr}, All2 (fun r row => H r = some (.lst row)) rs (js.map fun j => rowB x y (inD j)) → VdAll H (rs.map V.ref) (js.map fun j => rowE e1 e2 (inD j)) := by
  induction js with
  | nil => intro rs h; cases h; exact .nil
  | cons j t ih =>
    intro rs h
    cases rs with
    | nil => cases h
    | cons r rs =>
      cases h with
      | cons a b => exact .cons (vd_row h1 h2 _ a) (ih b)
theorem vd_kept {H : Hp} {x y : V} {e1 e2 : PyData} {p : Addr} {rs : List Addr} (h1 : Vd H x e1) (h2 : Vd H y e2) (hp : H p = some (.lst (rs.map V.ref))) (al : All2 (fun r row => H r = some (.lst row)) rs (keptR x y)) : Vd H (.ref p) (keptE e1 e2) := .lst hp (vd_rows h1 h2 (List.range 23) al)
theorem rg_kept {e1 e2 : PyData} (h1 : Rg e1 4 200) (h2 : Rg e2 4 200) : Rg (keptE e1 e2) 6 (23 * 408 + 2) := by
  refine (Rg.list (dep := 5) (len := 406) (n := 23) (fun d hd => ?_) (by rw [List.length_map, List.length_range]; exact Nat.le_refl _)).mono (by omega) (by omega)
  obtain ⟨j, _, rfl⟩ := List.mem_map.mp hd
  refine (Rg.list (dep := 4) (len := 200) (n := 2) (fun d hd => ?_) ?_).mono (by omega) (by omega)
  · cases h : inD j with
    | false => rw [h] at hd; have := List.mem_singleton.mp hd; subst this; exact h1
    | true =>
      rw [h] at hd
      rcases List.mem_cons.mp hd with rfl | hd
      · exact h1
      · have := List.mem_singleton.mp hd; subst this; exact h2
  · cases inD j with
    | false => exact (by omega : 1 ≤ 2)
    | true => exact Nat.le_refl 2
theorem del_keep {Hi Hj : Hp} {D r : Addr} {x l : HO} (S : Same Hi Hj) (h : del Hi D r = some x) : del (upd Hj D l) D r = some x := by
  by_cases e : r = D
  · rw [e, del_same] at h; cases h
  · rw [del_ne e] at h
    rw [del_ne e, upd_ne e]
    exact S _ _ h
theorem del_at {Hj : Hp} {D p : Addr} {l o : HO} (hp : Hj p = some o) (ne : p ≠ D) : del (upd Hj D l) D p = some o := by
  rw [del_ne ne, upd_ne ne]
  exact hp
section
variable {d w c p : Addr} {B : Int} {H0 H H' : Hp} {vs : List V} {es : List PyData}
theorem Vs.t3 {v v2 v3 : V} {e e2 e3 : PyData} (O : Vs d w c B H0 H (vs ++ [v] ++ [v2] ++ [v3]) (es ++ [e] ++ [e2] ++ [e3])) (hp : H p = none) : Vs d w c B H0 (upd H p (.tup [v, v2, v3])) (vs ++ [.ref p]) (es ++ [.tuple [e, e2, e3]]) := by
  have O' := O.new (o := .tup [v, v2, v3]) hp
  obtain ⟨a, b⟩ := O'.al.init
  obtain ⟨a2, b2⟩ := a.init
  obtain ⟨a3, b3⟩ := a2.init
  exact ⟨O'.ds, a3.snoc (.tup (O.at hp) (.cons b3 (.cons b2 (.one b))))⟩
end
theorem depB : ∀ bs : List Bool, PyData.depthAll (bs.map PyData.bool) = 0
  | [] => rfl
  | _ :: r => by simp only [List.map_cons, PyData.depthAll, PyData.depth, depB r]; rfl
theorem canB : ∀ bs : List Bool, PyData.canLayAll0 (bs.map PyData.bool) = true
  | [] => rfl
  | b :: r => by
    simp only [List.map_cons, PyData.canLayAll0, PyData.canLay0, Bool.true_and]
    exact canB r
theorem shB (bs : List Bool) : SeqAt.shaped (.list (bs.map PyData.bool)) = true := by
  unfold SeqAt.shaped
  simp only [PyData.canLay0, canB, PyData.depth, depB]
  rfl
theorem dpB {K : PySem.W.Frag} {H : Hp} : ∀ bs : List Bool, DpAll K H (bs.map V.bl) (bs.map PyData.bool)
  | [] => .nil
  | b :: r => .cons (.bl b) (dpB r)
/-- two lists of True and False that are alike -/
theorem ne_bls {K : PySem.W.Frag} {H : Hp} {p q : Addr} {bs : List Bool} {Q : VK} (hp : H p = some (.lst (bs.map V.bl))) (hq : H q = some (.lst (bs.map V.bl))) (k : Q (.bl false) H) : rNeD K (.ref p) (.ref q) H Q := by
  refine ⟨_, _, .lst (SqL.of hp) (dpB bs), .lst (SqL.of hq) (dpB bs), shB bs, shB bs, ?_⟩
  rw [sh_eqv (shB bs)]
  exact k
theorem n_VE {X : Cx} {pos : Pos} (h : X.mg "ValueError" = none) (hg : Gl X "ValueError" := by rfl) : PE X (.Name "ValueError" pos) (tC (.ty "ValueError")) := pe_bltn hg h (by decide +kernel) rfl
end WP
namespace WP
open PySem L2
def top (i : Nat) : Stmt := PySem.Challenge.pw_wholeprint_k01_errors_made.main.body.getD i (.Pass ⟨0, 0, 0, 0⟩)
abbrev s_BadFile___init__ : Stmt := inClass (top 2) 0
theorem sc_BadFile___init__ : FnScope ["self", "part"] ["self", "part"] (defScope s_BadFile___init__) := ⟨rfl, rfl, rfl, by decide +kernel, rfl, by decide +kernel, by decide +kernel⟩
abbrev s_BadSite___init__ : Stmt := inClass (top 3) 0
theorem sc_BadSite___init__ : FnScope ["self", "part", "name"] ["self", "part", "name"] (defScope s_BadSite___init__) := ⟨rfl, rfl, rfl, by decide +kernel, rfl, by decide +kernel, by decide +kernel⟩
abbrev s_NoFile___init__ : Stmt := inClass (top 4) 0
theorem sc_NoFile___init__ : FnScope ["self", "name"] ["self", "name"] (defScope s_NoFile___init__) := ⟨rfl, rfl, rfl, by decide +kernel, rfl, by decide +kernel, by decide +kernel⟩
abbrev s_NotEntry___init__ : Stmt := inClass (top 5) 0
theorem sc_NotEntry___init__ : FnScope ["self", "name"] ["self", "name"] (defScope s_NotEntry___init__) := ⟨rfl, rfl, rfl, by decide +kernel, rfl, by decide +kernel, by decide +kernel⟩
abbrev s_IsEntry___init__ : Stmt := inClass (top 6) 0
theorem sc_IsEntry___init__ : FnScope ["self", "name"] ["self", "name"] (defScope s_IsEntry___init__) := ⟨rfl, rfl, rfl, by decide +kernel, rfl, by decide +kernel, by decide +kernel⟩
abbrev s_NotPlain___init__ : Stmt := inClass (top 7) 0
theorem sc_NotPlain___init__ : FnScope ["self", "name"] ["self", "name"] (defScope s_NotPlain___init__) := ⟨rfl, rfl, rfl, by decide +kernel, rfl, by decide +kernel, by decide +kernel⟩
abbrev s_NotTogether___init__ : Stmt := inClass (top 8) 0
theorem sc_NotTogether___init__ : FnScope ["self", "one", "other"] ["self", "one", "other"] (defScope s_NotTogether___init__) := ⟨rfl, rfl, rfl, by decide +kernel, rfl, by decide +kernel, by decide +kernel⟩
abbrev s_BadChanges___init__ : Stmt := inClass (top 9) 0
theorem sc_BadChanges___init__ : FnScope ["self", "at"] ["self", "at"] (defScope s_BadChanges___init__) := ⟨rfl, rfl, rfl, by decide +kernel, rfl, by decide +kernel, by decide +kernel⟩
abbrev s_NoContents___init__ : Stmt := inClass (top 10) 0
theorem sc_NoContents___init__ : FnScope ["self", "number"] ["self", "number"] (defScope s_NoContents___init__) := ⟨rfl, rfl, rfl, by decide +kernel, rfl, by decide +kernel, by decide +kernel⟩
abbrev s_BadPiece___init__ : Stmt := inClass (top 11) 0
theorem sc_BadPiece___init__ : FnScope ["self", "name"] ["self", "name"] (defScope s_BadPiece___init__) := ⟨rfl, rfl, rfl, by decide +kernel, rfl, by decide +kernel, by decide +kernel⟩
abbrev s_BadKinds___init__ : Stmt := inClass (top 12) 0
theorem sc_BadKinds___init__ : FnScope ["self", "at"] ["self", "at"] (defScope s_BadKinds___init__) := ⟨rfl, rfl, rfl, by decide +kernel, rfl, by decide +kernel, by decide +kernel⟩
abbrev s_BadDeed___init__ : Stmt := inClass (top 14) 0
theorem sc_BadDeed___init__ : FnScope ["self", "deed"] ["self", "deed"] (defScope s_BadDeed___init__) := ⟨rfl, rfl, rfl, by decide +kernel, rfl, by decide +kernel, by decide +kernel⟩
abbrev s_BadHistory___init__ : Stmt := inClass (top 15) 0
theorem sc_BadHistory___init__ : FnScope ["self", "at"] ["self", "at"] (defScope s_BadHistory___init__) := ⟨rfl, rfl, rfl, by decide +kernel, rfl, by decide +kernel, by decide +kernel⟩
abbrev s_NoCache___init__ : Stmt := inClass (top 16) 0
theorem sc_NoCache___init__ : FnScope ["self", "number"] ["self", "number"] (defScope s_NoCache___init__) := ⟨rfl, rfl, rfl, by decide +kernel, rfl, by decide +kernel, by decide +kernel⟩
abbrev s_NoReader___init__ : Stmt := inClass (top 17) 0
theorem sc_NoReader___init__ : FnScope ["self", "number"] ["self", "number"] (defScope s_NoReader___init__) := ⟨rfl, rfl, rfl, by decide +kernel, rfl, by decide +kernel, by decide +kernel⟩
abbrev s_BadTicks___init__ : Stmt := inClass (top 18) 0
theorem sc_BadTicks___init__ : FnScope ["self", "at"] ["self", "at"] (defScope s_BadTicks___init__) := ⟨rfl, rfl, rfl, by decide +kernel, rfl, by decide +kernel, by decide +kernel⟩
abbrev s_BadRule___init__ : Stmt := inClass (top 19) 0
theorem sc_BadRule___init__ : FnScope ["self", "part"] ["self", "part"] (defScope s_BadRule___init__) := ⟨rfl, rfl, rfl, by decide +kernel, rfl, by decide +kernel, by decide +kernel⟩
abbrev s_NoFault___init__ : Stmt := inClass (top 20) 0
theorem sc_NoFault___init__ : FnScope ["self", "fault"] ["self", "fault"] (defScope s_NoFault___init__) := ⟨rfl, rfl, rfl, by decide +kernel, rfl, by decide +kernel, by decide +kernel⟩
abbrev s_BadOrder___init__ : Stmt := inClass (top 21) 0
theorem sc_BadOrder___init__ : FnScope ["self", "name"] ["self", "name"] (defScope s_BadOrder___init__) := ⟨rfl, rfl, rfl, by decide +kernel, rfl, by decide +kernel, by decide +kernel⟩
abbrev s_BadPrices___init__ : Stmt := inClass (top 23) 0
theorem sc_BadPrices___init__ : FnScope ["self", "name"] ["self", "name"] (defScope s_BadPrices___init__) := ⟨rfl, rfl, rfl, by decide +kernel, rfl, by decide +kernel, by decide +kernel⟩
abbrev s_BadWanted___init__ : Stmt := inClass (top 24) 0
theorem sc_BadWanted___init__ : FnScope ["self", "at"] ["self", "at"] (defScope s_BadWanted___init__) := ⟨rfl, rfl, rfl, by decide +kernel, rfl, by decide +kernel, by decide +kernel⟩
abbrev s_Barred___init__ : Stmt := inClass (top 25) 0
theorem sc_Barred___init__ : FnScope ["self", "word"] ["self", "word"] (defScope s_Barred___init__) := ⟨rfl, rfl, rfl, by decide +kernel, rfl, by decide +kernel, by decide +kernel⟩
abbrev s_BadText___init__ : Stmt := inClass (top 27) 0
theorem sc_BadText___init__ : FnScope ["self", "line"] ["self", "line"] (defScope s_BadText___init__) := ⟨rfl, rfl, rfl, by decide +kernel, rfl, by decide +kernel, by decide +kernel⟩
abbrev s__law_begun : Stmt := top 29
theorem sc__law_begun : FnScope ["_law_script", "_law_wide", "_law_cell"] ["_law_script"] (defScope s__law_begun) := ⟨rfl, rfl, rfl, by decide +kernel, rfl, by decide +kernel, by decide +kernel⟩
abbrev s__law_blend : Stmt := top 30
theorem sc__law_blend : FnScope ["_law_draw", "_law_found", "_law_prime", "_law_blend_here", "_law_cell"] ["_law_draw"] (defScope s__law_blend) := ⟨rfl, rfl, rfl, by decide +kernel, rfl, by decide +kernel, by decide +kernel⟩
abbrev s__law_take : Stmt := top 31
theorem sc__law_take : FnScope ["_law_draw", "_law_size", "_law_found"] ["_law_draw", "_law_size"] (defScope s__law_take) := ⟨rfl, rfl, rfl, by decide +kernel, rfl, by decide +kernel, by decide +kernel⟩
abbrev s__law_pick : Stmt := top 32
theorem sc__law_pick : FnScope ["_law_draw", "_law_some"] ["_law_draw", "_law_some"] (defScope s__law_pick) := ⟨rfl, rfl, rfl, by decide +kernel, rfl, by decide +kernel, by decide +kernel⟩
abbrev s__law_caught : Stmt := top 33
theorem sc__law_caught : FnScope ["_law_work", "_law_caught_here", "_law_error"] ["_law_work"] (defScope s__law_caught) := ⟨rfl, rfl, rfl, by decide +kernel, rfl, by decide +kernel, by decide +kernel⟩
abbrev s__law_odd : Stmt := top 34
theorem sc__law_odd : FnScope ["_law_draw", "_law_some"] ["_law_draw"] (defScope s__law_odd) := ⟨rfl, rfl, rfl, by decide +kernel, rfl, by decide +kernel, by decide +kernel⟩
abbrev s__law_errors : Stmt := top 35
theorem sc__law_errors : FnScope ["_law_this", "_law_that", "_law_found"] ["_law_this", "_law_that"] (defScope s__law_errors) := ⟨rfl, rfl, rfl, by decide +kernel, rfl, by decide +kernel, by decide +kernel⟩
abbrev s__law_named_errors : Stmt := top 36
theorem sc__law_named_errors : FnScope ["_law_this", "_law_that", "_law_found"] ["_law_this", "_law_that"] (defScope s__law_named_errors) := ⟨rfl, rfl, rfl, by decide +kernel, rfl, by decide +kernel, by decide +kernel⟩
abbrev s__law_kept : Stmt := top 37
theorem sc__law_kept : FnScope ["_law_errors_here", "_law_found"] ["_law_errors_here"] (defScope s__law_kept) := ⟨rfl, rfl, rfl, by decide +kernel, rfl, by decide +kernel, by decide +kernel⟩
abbrev s__law_marks : Stmt := top 38
theorem sc__law_marks : FnScope ["_law_error", "_law_found"] ["_law_error"] (defScope s__law_marks) := ⟨rfl, rfl, rfl, by decide +kernel, rfl, by decide +kernel, by decide +kernel⟩
abbrev s__law_thrown : Stmt := top 39
theorem sc__law_thrown : FnScope ["_law_value"] ["_law_value"] (defScope s__law_thrown) := ⟨rfl, rfl, rfl, by decide +kernel, rfl, by decide +kernel, by decide +kernel⟩
abbrev s_law : Stmt := top 40
theorem sc_law : FnScope ["_law_script", "_law_draw", "_law_turn", "_law_this", "_law_that", "_law_errors_here", "_law_spot_at", "_law_error", "_law_k", "_law_caught_here", "_law_plain", "_law_due"] ["_law_script"] (defScope s_law) := ⟨rfl, rfl, rfl, by decide +kernel, rfl, by decide +kernel, by decide +kernel⟩
end WP
namespace WP
open PySem L2
local macro_rules | `(tactic| walk_at "fact") => `(tactic| first | with_reducible rfl | assumption | exact ⟨_, SqL.of (by assumption)⟩ | exact ⟨_, by assumption⟩ | exact Or.inl ⟨rfl, _, SqL.of (by assumption)⟩ | exact dg_rest (by assumption) | exact dg_turn (by assumption) | exact dg_cells (by assumption) | exact dg_wide (by assumption) | decide | omega | exact Or.inl ⟨by decide, by decide⟩ | exact Or.inr ⟨by decide, by decide⟩ | exact ⟨by decide, by decide⟩ | exact ⟨by omega, by omega⟩ | rfl)
local macro_rules | `(tactic| walk_at "rd") => `(tactic| first | refine ⟨_, rfl, ?_⟩ | refine ⟨_, _, rfl, rfl, ?_⟩ | refine ⟨_, _, rfl, by walk_at "fact", ?_⟩ | refine And.intro (by walk_at "fact") ?_ | refine Or.inl ⟨_, rfl, ?_⟩)
local macro_rules | `(tactic| walk_at "rds") => `(tactic| repeat walk_at "rd")
section
variable {P : Program} {w : World} {K : PySem.W.Frag} {mg : Str → Option Value} {base : Heap}
theorem ok_blend {f : Addr} {fd : FuncData} (F : Fun K "_law_blend" "_law_blend" s__law_blend f fd) (T : Bi mg) : FnOk P w K mg base CX0 1 f fd ["_law_draw"] spBlend := by
  refine F.ok sc__law_blend (fun vs H Q E h => ?_) (fun cdv A outer s H vs Q E hr h => ?_)
  · obtain ⟨d, w, c, B, rfl, _⟩ := h
    rfl
  · obtain ⟨d, w, c, B, rfl, D, hB, k⟩ := h
    have hu := hu_of hr
    have nd := sc__law_blend.nd
    refine ⟨_, pss_cons (ps_dput hu (pv 0) pe_str (pe_op op_add (pe_dget hu (pv 0) pe_str (fun _ _ => rfl)) pe_int) rfl)
      (pss_cons (ps_set (i := 1) nd rfl (by first | exact Or.inl rfl | exact Or.inr rfl) pe_int)
      (pss_cons (ps_for PassesOwn.never rfl (pi_list (pe_lst (pa_cons pe_int (pa_cons pe_int (pa_cons pe_int (pa_cons pe_int (pa_cons pe_int (pa_cons pe_int pa_nil)))))))) (pg_name (i := 2) nd rfl (by first | exact Or.inl rfl | exact Or.inr rfl)) (pss_cons (ps_set (i := 3) nd rfl (by first | exact Or.inl rfl | exact Or.inr rfl) (pe_op op_add (pe_op op_mul pe_int (pe_dget hu (pv 0) pe_str (fun _ _ => rfl))) (pe_op op_fdiv (pv 2) pe_int)))
      (pss_cons (ps_for PassesOwn.never rfl (pi_list (pe_dget hu (pv 0) pe_str (fun _ _ => rfl))) (pg_name (i := 4) nd rfl (by first | exact Or.inl rfl | exact Or.inr rfl)) (pss_one (ps_set (i := 3) nd rfl (by first | exact Or.inl rfl | exact Or.inr rfl) (pe_op op_mod (pe_callTy call_int1 (by rfl) T.int (by decide +kernel) (pa_cons (pe_op op_add (pe_op op_mul (pv 3) pe_int) (pv 4)) pa_nil)) (pv 2)))))
      (pss_one (ps_set (i := 1) nd rfl (by first | exact Or.inl rfl | exact Or.inr rfl) (pe_op op_add (pe_op op_mul (pv 1) pe_int) (pe_op op_mod (pe_callTy call_int1 (by rfl) T.int (by decide +kernel) (pa_cons (pe_op op_pow (pv 3) pe_int) pa_nil)) (pv 2))))))))
      (pss_one (ps_ret (pv 1))))), ?_⟩
    obtain ⟨r, t, hd, ht0, ht⟩ := D.dict
    refine ⟨_, rfl, _, _, rfl, dg_turn hd, _, _, rfl, rfl, _, rfl, _, _, rfl, dp_turn _ hd, ?_⟩
    have D1 : Dr d w c (B + 1) (upd H d (drD w c r (t + 1))) := D.newD (by omega) (by omega)
    have S1 : Same (hd2 d w H) (hd2 d w (upd H d (drD w c r (t + 1)))) := hd2_d
    generalize upd H d (drD w c r (t + 1)) = H1 at D1 S1
    refine ⟨(by show 6 ≤ sizeLine; decide), fun L hL => ⟨L, rfl, ⟨_, SqL.of upd_same⟩, ?_⟩⟩
    have D2 := D1.new (o := .lst ([2147483629, 2147483587, 2147483579, 2147483563, 2147483549, 2147483543].map V.int)) hL
    have S2 := S1.trans (hd2_new (o := .lst ([2147483629, 2147483587, 2147483579, 2147483563, 2147483549, 2147483543].map V.int)) hL)
    refine for_list (K := K) (a := L) (xs := [2147483629, 2147483587, 2147483579, 2147483563, 2147483549, 2147483543].map V.int)
      (fun i σ H2 => H2 = upd H1 L (.lst ([2147483629, 2147483587, 2147483579, 2147483563, 2147483549, 2147483543].map V.int)) ∧ ∃ (z : Int) (v1 v2 v3 : Option V), σ = [some (.ref d), some (.int z), v1, v2, v3])
      ⟨rfl, 0, _, _, _, rfl⟩ (fun i σ H2 _ h => by rw [h.1]; exact SqL.of upd_same) ?_ ?_
    · rintro i x σ H2 hi ⟨rfl, z, v1, v2, v3, rfl⟩
      obtain ⟨p, hp, rfl⟩ := at_map hi
      have hb : 0 < p ∧ p < 2 ^ 31 := by
        have := at_mem hp
        simp only [List.mem_cons, List.not_mem_nil, or_false] at this
        omega
      obtain ⟨r2, t2, hd2, ht20, ht2⟩ := D2.dict
      obtain ⟨ms, hc⟩ := D2.cells
      have hc := (hd2_of hc).1
      walk_at "rds"
      refine for_list (K := K) (a := c) (xs := ms.map V.int)
        (fun i σ H2 => H2 = upd H1 L (.lst ([2147483629, 2147483587, 2147483579, 2147483563, 2147483549, 2147483543].map V.int)) ∧ ∃ (y : Int) (v3 : Option V), (0 ≤ y ∧ y < 2 ^ 60) ∧ σ = [some (.ref d), some (.int z), some (.int p), some (.int y), v3])
        ?_ (fun i σ H2 _ h => by rw [h.1]; exact SqL.of hc) ?_ ?_
      · exact ⟨rfl, _, _, ⟨by omega, by omega⟩, rfl⟩
      · rintro j x σ H2 hj ⟨rfl, y, v4, hy, rfl⟩
        obtain ⟨n, hn, rfl⟩ := at_map hj
        walk_at "rds"
        have m0 := Int.emod_nonneg (y * 69623 + n) (show p ≠ 0 by omega)
        have m1 := Int.emod_lt_of_pos (y * 69623 + n) hb.1
        exact ⟨_, _, ⟨m0, by omega⟩, rfl⟩
      · rintro σ H2 ⟨rfl, y, v4, hy, rfl⟩
        walk_at "rds"
        exact ⟨_, _, _, _, rfl⟩
    · rintro σ H2 ⟨rfl, z, v1, v2, v3, rfl⟩
      exact ⟨_, rfl, k _ _ D2 S2⟩
theorem ok_begun {f : Addr} {fd : FuncData} (F : Fun K "_law_begun" "_law_begun" s__law_begun f fd) (T : Bi mg) : FnOk P w K mg base CX0 1 f fd ["_law_script"] (spBegun K) := by
  refine F.ok sc__law_begun (fun vs H Q E h => ?_) (fun cdv A outer s H vs Q E hr h => ?_)
  · obtain ⟨a, ns, rfl, _⟩ := h
    rfl
  · obtain ⟨a, ns, rfl, hS, hl, k⟩ := h
    have hu := hu_of hr
    have nd := sc__law_begun.nd
    refine ⟨_, pss_cons (ps_setLc (i := 1) (own := [("_law_cell", 2)]) (g := gName 2) rfl nd rfl rfl (sw_true rfl rfl rfl (by decide +kernel)) (pi_list (pv 0)) (blkOk_by (own := [("_law_cell", 2)]) (N := ["_law_script", "_law_wide", "_law_cell"]) (sc := defScope s__law_begun) (by decide +kernel)) (fun _ _ _ _ _ => (pg_name (i := 2) nd rfl (by first | exact Or.inl rfl | exact Or.inr rfl))) (fun _ _ _ _ _ => (pts_one (pt_cmpR op_ge (pv 2) (pe_op op_pow pe_int pe_int) (nomark _)))) (fun _ _ _ _ _ => (pe_op op_sub (pv 2) (pe_op op_pow pe_int pe_int))))
      (pss_one (ps_ret (pe_disp (pps_cons pe_str (pv 1) (pps_cons pe_str (pe_callTy call_list_of (by rfl) T.list (by decide +kernel) (pa_cons (pv 0) pa_nil)) (pps_cons pe_str pe_int (pps_cons pe_str pe_int pps_nil)))) (by rfl) (by rfl) (fun z => by cases z) (by decide)))), ?_⟩
    refine ⟨_, rfl, a, rfl, ⟨_, hS⟩, fun w hw => ?_⟩
    refine lc_list (K := K) (a := a) (xs := ns.map V.int) (fun i H1 => Same H H1 ∧ ∃ ms : List Int, H1 w = some (.lst (ms.map V.int)) ∧ ms.length ≤ i) ?_ (fun i H1 _ h => h.1.seq hS) ?_ ?_
    · exact ⟨Evl.Ex.new hw, [], upd_same, Nat.le_refl _⟩
    · rintro i x H1 hi ⟨S1, ms, h1, hm⟩
      obtain ⟨z, hz, rfl⟩ := at_map hi
      have hil : i < ns.length := (List.getElem?_eq_some_iff.mp hz).1
      refine ⟨rfl, _, rfl, _, _, rfl, rfl, ⟨by decide, by decide, by decide⟩, _, _, rfl, rfl, _, rfl, ?_⟩
      refine ite2 (fun _ => ?_) (fun _ => ?_)
      · refine ⟨_, rfl, _, _, rfl, rfl, ⟨by decide, by decide, by decide⟩, _, _, rfl, rfl, _, h1, by rw [List.length_map]; exact small1000 (by omega), ?_⟩
        refine ⟨Evl.Ex.mut S1 hw, ms ++ [z - 10 ^ (Int.toNat 18)], ?_, ?_⟩
        · rw [upd_same, List.map_append]; rfl
        · rw [List.length_append]; show ms.length + 1 ≤ i + 1; omega
      · exact ⟨S1, ms, h1, by omega⟩
    · rintro H1 ⟨S1, ms, h1, hm⟩
      intro d hd
      refine ⟨_, rfl, _, rfl, a, _, rfl, .inl ((S1.trans (Evl.Ex.new hd)).seq hS), fun c hc => ?_⟩
      have ndc : d ≠ c := ne_of_none (show upd H1 d (.dK []) d = some (.dK []) from upd_same) hc
      have nwd : w ≠ d := ne_of_none h1 hd
      have hw1 : upd (upd H1 d (.dK [])) c (.lst (ns.map V.int)) w = some (.lst (ms.map V.int)) := by
        rw [upd_ne (ne_of_none (o := .lst (ms.map V.int)) (by rw [upd_ne nwd]; exact h1) hc), upd_ne nwd]
        exact h1
      have nwc : w ≠ c := ne_of_none (o := .lst (ms.map V.int)) (by rw [upd_ne nwd]; exact h1) hc
      refine ⟨by rw [upd_ne ndc, upd_same], [((.inr "wide" : Key), .ref w), (.inr "cells", .ref c), (.inr "rest", .int 0), (.inr "turn", .int 0)], rfl, (by show 4 ≤ 15; decide), ?_⟩
      rw [dr_merge]
      refine k d w c _ ⟨⟨0, 0, upd_same, by decide, by decide⟩, ⟨ms, by rw [upd_ne nwd]; exact hw1⟩, ⟨ns, ?_⟩⟩ fun b o e => ?_
      · exact hd2_mk (by rw [upd_ne ndc.symm, upd_same]) ndc.symm nwc.symm
      · have e1 := S1 b o e
        have e2 : b ≠ d := ne_of_none e1 hd
        have e3 : b ≠ c := ne_of_none (o := o) (by rw [upd_ne e2]; exact e1) hc
        exact hd2_mk (by rw [upd_ne e2, upd_ne e3, upd_ne e2]; exact e1) e2 (ne_of_none e hw)
theorem ok_take {f : Addr} {fd : FuncData} (F : Fun K "_law_take" "_law_take" s__law_take f fd) (T : Bi mg) (D__law_blend : Dn P w K mg base CX0 1 "_law_blend" ["_law_draw"] spBlend) : FnOk P w K mg base CX0 2 f fd ["_law_draw", "_law_size"] spTake := by
  refine F.ok sc__law_take (fun vs H Q E h => ?_) (fun cdv A outer s H vs Q E hr h => ?_)
  · obtain ⟨d, w, c, B, n, rfl, _⟩ := h
    rfl
  · obtain ⟨d, w, c, B, n, rfl, D, hB, n0, n1, k⟩ := h
    have hu := hu_of hr
    have nd := sc__law_take.nd
    refine ⟨_, Evl.pss_cut (ps_if (pt_cmpR op_eq (pe_dget hu (pv 0) pe_str (fun _ _ => rfl)) pe_int (nomark _)) (pss_one (ps_dput hu (pv 0) pe_str (pe_ifExp (pt_cmpR (op_neD hr.units) (pe_dget hu (pv 0) pe_str (fun _ _ => rfl)) (pe_lst pa_nil) (nomark _)) (pe_bm PySem.F.plainAttrs_list PySem.F.slot_list_pop PySem.F.type_list_pop mt_popAt (pe_dget hu (pv 0) pe_str (fun _ _ => rfl)) (pa_cons pe_int pa_nil)) (pe_d D__law_blend (hr.mono (by decide)) pass0 (pa_cons (pv 0) pa_nil))) rfl)) pss_nil)
      (pss_cons (ps_set (i := 2) nd rfl (by first | exact Or.inl rfl | exact Or.inr rfl) (pe_op op_mod (pe_callTy call_int1 (by rfl) T.int (by decide +kernel) (pa_cons (pe_dget hu (pv 0) pe_str (fun _ _ => rfl)) pa_nil)) (pv 1)))
      (pss_cons (ps_dput hu (pv 0) pe_str (pe_op op_fdivW (pe_dget hu (pv 0) pe_str (fun _ _ => rfl)) (pv 1)) rfl)
      (pss_one (ps_ret (pv 2))))), ?_⟩
    obtain ⟨r, t, hd, ht0, ht⟩ := D.dict
    refine ⟨fun σ H1 => ∃ r t, σ = [some (.ref d), some (.int n), none] ∧ H1 d = some (drD w c r t) ∧ 0 ≤ t ∧ t ≤ B + 1 ∧ Dr d w c (B + 1) H1 ∧ Same (hd2 d w H) (hd2 d w H1), ?_, ?_⟩
    · walk_at "rds"
      refine ite2 (fun h => ?_) (fun h => ?_)
      · obtain ⟨ns, hw⟩ := D.wide
        walk_at "rds"
        refine fun p hp => neNilI hw hp ?_
        have hd' : upd H p (.lst []) d = some (drD w c r t) := by rw [upd_ne (ne_of_none hd hp)]; exact hd
        have hw' : upd H p (.lst []) w = some (.lst (ns.map V.int)) := by rw [upd_ne (ne_of_none hw hp)]; exact hw
        have D' : Dr d w c B (upd H p (.lst [])) := D.new hp
        have S' : Same (hd2 d w H) (hd2 d w (upd H p (.lst []))) := hd2_new hp
        generalize upd H p (.lst []) = H1 at *
        walk_at "rds"
        cases ns with
        | nil =>
          refine iteF ?_
          walk_at "rds"
          refine ⟨d, w, c, B, rfl, D', hB, fun r2 H2 D2 S2 => ?_⟩
          obtain ⟨r3, t3, hd3, ht30, ht3⟩ := D2.dict
          refine ⟨_, rfl, _, _, rfl, dp_rest _ hd3, ?_⟩
          exact ⟨_, _, rfl, upd_same, ht30, ht3, D2.newD ht30 ht3, (S'.trans S2).trans hd2_d⟩
        | cons z ns =>
          refine iteT ?_
          walk_at "rds"
          refine ⟨w, _, _, 0, _, rfl, rfl, hw', by decide, by decide, seq0, rfl, _, rfl, _, _, rfl, dp_rest _ (by rw [upd_ne (ne_of hd' hw' (by intro z; cases z))]; exact hd'), ?_⟩
          have D2 := (D'.newW (ns := ns)).newD (B' := B + 1) (r' := z) ht0 (by omega)
          exact ⟨_, _, rfl, upd_same, ht0, by omega, D2, (S'.trans hd2_w).trans hd2_d⟩
      · exact ⟨r, t, rfl, hd, ht0, by omega, D.mono (by omega), Same.refl _⟩
    · rintro σ H1 ⟨r, t, rfl, hd, ht0, ht, D1, S1⟩
      walk_at "rds"
      refine ⟨⟨n0, ?_⟩, _, rfl, _, _, rfl, dp_rest _ hd, _, rfl, ?_⟩
      · exact Nat.lt_of_lt_of_le (PySem.Flt.log2_lt_of (k := 200) (by decide) (by omega)) (by decide)
      · exact k _ _ (Int.emod_nonneg _ (by omega)) (Int.emod_lt_of_pos _ n0) (D1.newD ht0 ht) (S1.trans hd2_d)
theorem ok_pick {f : Addr} {fd : FuncData} (F : Fun K "_law_pick" "_law_pick" s__law_pick f fd) (T : Bi mg) (D__law_take : Dn P w K mg base CX0 2 "_law_take" ["_law_draw", "_law_size"] spTake) : FnOk P w K mg base CX0 3 f fd ["_law_draw", "_law_some"] (spPick K) := by
  refine F.ok sc__law_pick (fun vs H Q E h => ?_) (fun cdv A outer s H vs Q E hr h => ?_)
  · obtain ⟨d, w, c, B, _, _, ⟨a, xs, rfl, _⟩ | ⟨z, rfl, _⟩⟩ := h
    · rfl
    · rfl
  · obtain ⟨d, w, c, B, D, hB, h⟩ := h
    have hu := hu_of hr
    have nd := sc__law_pick.nd
    refine ⟨_, pss_one (ps_ret (pe_ix ix_seq (pv 1) (pe_d D__law_take (hr.mono (by decide)) pass0 (pa_cons (pv 0) (pa_cons (pe_callB call_len (by rfl) T.len (by decide +kernel) (pa_cons (pv 1) pa_nil)) pa_nil))) (fun _ _ => rfl))), ?_⟩
    rcases h with ⟨a, xs, rfl, hS, hne, hl, k⟩ | ⟨z, rfl, hz, hz2, k⟩
    · have hS' := hd2_sub.seq hS
      refine ⟨_, rfl, _, rfl, _, rfl, _, _, rfl, .inl ⟨_, hS', rfl⟩, ?_⟩
      have h0 : 0 < xs.length := List.length_pos_iff.mpr hne
      refine ⟨d, w, c, B, _, rfl, D, hB, by omega, by omega, fun j H1 j0 j1 D1 S1 => ?_⟩
      have hj : j.toNat < xs.length := by omega
      refine .inl ⟨a, xs, j, xs[j.toNat], rfl, rfl, hd2_sub.seq (S1.seq hS), at_of (j := j.toNat) (by omega) (by simp [hj]), ?_⟩
      exact k j.toNat _ _ (by simp [hj]) D1 S1
    · refine ⟨_, rfl, _, rfl, _, rfl, _, _, rfl, ⟨hz2, rfl⟩, ?_⟩
      have h0 : z.length < 2 ^ 60 := Nat.lt_of_le_of_lt hz2 (by rw [sizeLine_eq]; decide)
      refine ⟨d, w, c, B, _, rfl, D, hB, by omega, by omega, fun j H1 j0 j1 D1 S1 => ?_⟩
      have e : z.cps.toList.length = z.length := by simp [Str.length]
      have hj : j.toNat < z.cps.toList.length := by omega
      refine .inr (.inr ⟨z, j, z.cps.toList[j.toNat], rfl, rfl, hz2, ?_, ?_⟩)
      · have q := atI_nat (xs := z.cps.toList) (j := j.toNat) (v := z.cps.toList[j.toNat]) (List.getElem?_eq_getElem hj)
        have e2 : ((j.toNat : Nat) : Int) = j := by omega
        rw [e2] at q
        exact q
      · exact k j.toNat _ _ (List.getElem?_eq_getElem hj) D1 S1
end
end WP
namespace WP
open PySem L2
def oddL : List PyData := [.none, (.bool true), (.int 0), (.int (-5)), (.int (10 ^ (Int.toNat 40))), (.str ""), (.str "page"), (.str "two words"), (.tuple []), (.tuple [(.str "fetch"), (.int 0), (.str "a")]), (.list []), (.list [(.int 1), (.list [(.int 2)])]), (.dict []), (.dict [(.str "a", .none)])]
theorem oddL_sh : ∀ e ∈ oddL, shOk e = true := by
  have : oddL.all shOk = true := by decide +kernel
  exact List.all_eq_true.mp this
section
variable {P : Program} {w : World} {K : PySem.W.Frag} {mg : Str → Option Value} {base : Heap}
theorem ok__law_oddD {f : Addr} {fd : FuncData} (F : Fun K "_law_odd" "_law_odd" s__law_odd f fd) (T : Bi mg) (D__law_pick : Dn P w K mg base CX0 3 "_law_pick" ["_law_draw", "_law_some"] (spPick K)) : FnOk P w K mg base CX0 4 f fd ["_law_draw"] (spOddD oddL) := by
  refine F.ok sc__law_odd (fun vs H Q E h => ?_) (fun cdv A outer s H vs Q E hr h => ?_)
  · obtain ⟨d, w, c, B, rfl, _⟩ := h
    rfl
  · obtain ⟨d, w, c, B, rfl, D, hB, q⟩ := h
    have hu := hu_of hr
    have nd := sc__law_odd.nd
    refine ⟨_, pss_cons (ps_set (i := 1) nd rfl (by first | exact Or.inl rfl | exact Or.inr rfl) (pe_lst (pa_cons pe_non (pa_cons pe_bl (pa_cons pe_int (pa_cons (pe_un un_neg pe_int) (pa_cons (pe_op op_pow pe_int pe_int) (pa_cons pe_str (pa_cons pe_str (pa_cons pe_str (pa_cons (pe_tup pa_nil) (pa_cons (pe_tup (pa_cons pe_str (pa_cons pe_int (pa_cons pe_str pa_nil)))) (pa_cons (pe_lst pa_nil) (pa_cons (pe_lst (pa_cons pe_int (pa_cons (pe_lst (pa_cons pe_int pa_nil)) pa_nil))) (pa_cons pe_dnewK (pa_cons (pe_disp (pps_cons pe_str pe_non pps_nil) (by rfl) (by rfl) (fun z => by cases z) (by decide)) pa_nil))))))))))))))))
      (pss_one (ps_ret (pe_d D__law_pick (hr.mono (by decide)) pass0 (pa_cons (pv 0) (pa_cons (pv 1) pa_nil))))), ?_⟩
    have O : Vs d w c B H H [] [] := .start D
    have O := O.n
    have O := O.b true
    have O := O.i 0
    refine ⟨_, rfl, ?_⟩
    have O := O.i (-5)
    refine ⟨_, _, rfl, rfl, ⟨by decide, by decide, by decide⟩, ?_⟩
    have O := O.i (10 ^ (Int.toNat 40))
    have O := O.s ""
    have O := O.s "page"
    have O := O.s "two words"
    refine ⟨(by show 0 ≤ sizeLine; decide), fun p1 h1 => ?_⟩
    have O := O.t0 h1
    have O := O.s "fetch"
    have O := O.i 0
    have O := O.s "a"
    refine ⟨(by show 3 ≤ sizeLine; decide), fun p2 h2 => ?_⟩
    have O := O.t3 h2
    refine ⟨(by show 0 ≤ sizeLine; decide), fun p3 h3 => ?_⟩
    have O := O.l0 h3
    have O := O.i 1
    have O := O.i 2
    refine ⟨(by show 1 ≤ sizeLine; decide), fun p4 h4 => ?_⟩
    have O := O.l1 h4
    refine ⟨(by show 2 ≤ sizeLine; decide), fun p5 h5 => ?_⟩
    have O := O.l2 h5
    refine fun p6 h6 => ?_
    have O := O.d0 h6
    have O := O.n
    refine fun p7 h7 => ⟨upd_same, [(.inr "a", .non)], rfl, (by show 1 ≤ 15; decide), ?_⟩
    rw [upd2, merge1]
    have O := O.d1 (k := "a") h7
    refine ⟨(by show 14 ≤ sizeLine; decide), fun pL hL => ?_⟩
    obtain ⟨O, L⟩ := O.own hL
    refine ⟨_, rfl, _, rfl, ?_⟩
    refine ⟨d, w, c, B, O.ds.dr, by omega, .inl ⟨pL, _, rfl, SqL.of L, (by intro e; cases e), ?_, fun k v H' hk D' S' => ?_⟩⟩
    · show 14 < 2 ^ 60
      decide
    · obtain ⟨e, he, hv⟩ := O.al.at hk
      exact q v e H' (List.mem_of_getElem? he) (hv.same S') ⟨D', O.ds.fr.trans S'⟩
theorem ok__law_thrown {f CP CE : Addr} {fd : FuncData} (F : Fun K "_law_thrown" "_law_thrown" s__law_thrown f fd) (T : Bi mg) (E_BadPiece : Err1 P w K mg base CP "BadPiece" CE "name") : FnOk P w K mg base (L2.CX P w) 3 f fd ["_law_value"] (spThrown CE) := by
  refine F.okX sc__law_thrown (fun vs H Q E h => ?_) (fun cdv A outer s H vs Q E hr h => ?_)
  · obtain ⟨v, rfl, _⟩ := h
    rfl
  · obtain ⟨v, rfl, qe⟩ := h
    have hu := hu_of hr
    have nd := sc__law_thrown.nd
    refine ⟨_, pss_one (raise1 E_BadPiece rfl (takes_of rfl rfl rfl rfl) (hr.mono (by decide)) (pv 0)), ?_⟩
    exact ⟨_, rfl, fun d hd => qe d _ (Evl.Ex.new hd) upd_same⟩
end
end WP
namespace WP
open PySem L2
end WP
namespace WP
open PySem L2
section
variable {P : Program} {w : World} {K : PySem.W.Frag} {mg : Str → Option Value} {base : Heap}
theorem ok__law_errors {f CP : Addr} {C : Nat → Addr} {fd : FuncData} (F : Fun K "_law_errors" "_law_errors" s__law_errors f fd) (T : Bi mg) (E_BadFile : Err1 P w K mg base CP "BadFile" (C 0) "part") (E_BadSite : Err2 P w K mg base CP "BadSite" (C 1) "part" "name") (E_NoFile : Err1 P w K mg base CP "NoFile" (C 2) "name") (E_NotEntry : Err1 P w K mg base CP "NotEntry" (C 3) "name") (E_IsEntry : Err1 P w K mg base CP "IsEntry" (C 4) "name") (E_NotPlain : Err1 P w K mg base CP "NotPlain" (C 5) "name") (E_NotTogether : Err2 P w K mg base CP "NotTogether" (C 6) "one" "other") (E_BadChanges : Err1 P w K mg base CP "BadChanges" (C 7) "at") (E_NoContents : Err1 P w K mg base CP "NoContents" (C 8) "number") (E_BadPiece : Err1 P w K mg base CP "BadPiece" (C 9) "name") (E_BadKinds : Err1 P w K mg base CP "BadKinds" (C 10) "at") (E_BadSteps : Err0 K mg CP "BadSteps" (C 11)) (E_BadDeed : Err1 P w K mg base CP "BadDeed" (C 12) "deed") (E_BadHistory : Err1 P w K mg base CP "BadHistory" (C 13) "at") (E_NoCache : Err1 P w K mg base CP "NoCache" (C 14) "number") (E_NoReader : Err1 P w K mg base CP "NoReader" (C 15) "number") (E_BadTicks : Err1 P w K mg base CP "BadTicks" (C 16) "at") (E_BadRule : Err1 P w K mg base CP "BadRule" (C 17) "part") (E_NoFault : Err1 P w K mg base CP "NoFault" (C 18) "fault") (E_BadOrder : Err1 P w K mg base CP "BadOrder" (C 19) "name") (E_BadNumber : Err0 K mg CP "BadNumber" (C 20)) (E_BadPrices : Err1 P w K mg base CP "BadPrices" (C 21) "name") (E_BadWanted : Err1 P w K mg base CP "BadWanted" (C 22) "at") (E_Barred : Err1 P w K mg base CP "Barred" (C 23) "word") (E_NothingLeft : Err0 K mg CP "NothingLeft" (C 24)) (E_BadText : Err1 P w K mg base CP "BadText" (C 25) "line") : FnOk P w K mg base CX0 3 f fd ["_law_this", "_law_that"] (spErrors C) := by
  refine F.ok sc__law_errors (fun vs H Q E h => ?_) (fun cdv A outer s H vs Q E hr h => ?_)
  · obtain ⟨x, y, rfl, _⟩ := h
    rfl
  · obtain ⟨x, y, rfl, q⟩ := h
    have nd := sc__law_errors.nd
    have hu := hu_of hr
    refine ⟨_, pss_cons (ps_set (i := 2) nd rfl (by first | exact Or.inl rfl | exact Or.inr rfl) (pe_lst (pa_cons (pe_mkX1 E_BadFile (hr.mono (by decide)) (pv 0)) (pa_cons (pe_mkX2 E_BadSite (hr.mono (by decide)) (pv 0) (pv 1)) (pa_cons (pe_mkX1 E_NoFile (hr.mono (by decide)) (pv 0)) (pa_cons (pe_mkX1 E_NotEntry (hr.mono (by decide)) (pv 0)) (pa_cons (pe_mkX1 E_IsEntry (hr.mono (by decide)) (pv 0)) (pa_cons (pe_mkX1 E_NotPlain (hr.mono (by decide)) (pv 0)) pa_nil))))))))
      (pss_cons (ps_set (i := 2) nd rfl (by first | exact Or.inl rfl | exact Or.inr rfl) (pe_op op_cat (pv 2) (pe_lst (pa_cons (pe_mkX2 E_NotTogether (hr.mono (by decide)) (pv 0) (pv 1)) (pa_cons (pe_mkX1 E_BadChanges (hr.mono (by decide)) (pv 0)) (pa_cons (pe_mkX1 E_NoContents (hr.mono (by decide)) (pv 0)) (pa_cons (pe_mkX1 E_BadPiece (hr.mono (by decide)) (pv 0)) pa_nil)))))))
      (pss_cons (ps_set (i := 2) nd rfl (by first | exact Or.inl rfl | exact Or.inr rfl) (pe_op op_cat (pv 2) (pe_lst (pa_cons (pe_mkX1 E_BadKinds (hr.mono (by decide)) (pv 0)) (pa_cons (pe_mkX0 E_BadSteps pe_str) (pa_cons (pe_mkX1 E_BadDeed (hr.mono (by decide)) (pv 0)) (pa_cons (pe_mkX1 E_BadHistory (hr.mono (by decide)) (pv 0)) (pa_cons (pe_mkX1 E_NoCache (hr.mono (by decide)) (pv 0)) pa_nil))))))))
      (pss_cons (ps_set (i := 2) nd rfl (by first | exact Or.inl rfl | exact Or.inr rfl) (pe_op op_cat (pv 2) (pe_lst (pa_cons (pe_mkX1 E_NoReader (hr.mono (by decide)) (pv 0)) (pa_cons (pe_mkX1 E_BadTicks (hr.mono (by decide)) (pv 0)) (pa_cons (pe_mkX1 E_BadRule (hr.mono (by decide)) (pv 0)) (pa_cons (pe_mkX1 E_NoFault (hr.mono (by decide)) (pv 0)) (pa_cons (pe_mkX1 E_BadOrder (hr.mono (by decide)) (pv 0)) pa_nil))))))))
      (pss_cons (ps_set (i := 2) nd rfl (by first | exact Or.inl rfl | exact Or.inr rfl) (pe_op op_cat (pv 2) (pe_lst (pa_cons (pe_mkX0 E_BadNumber pe_str) (pa_cons (pe_mkX1 E_BadPrices (hr.mono (by decide)) (pv 0)) (pa_cons (pe_mkX1 E_BadWanted (hr.mono (by decide)) (pv 0)) pa_nil))))))
      (pss_one (ps_ret (pe_op op_cat (pv 2) (pe_lst (pa_cons (pe_mkX1 E_Barred (hr.mono (by decide)) (pv 0)) (pa_cons (pe_mkX0 E_NothingLeft pe_str) (pa_cons (pe_mkX1 E_BadText (hr.mono (by decide)) (pv 0)) pa_nil))))))))))), ?_⟩
    dsimp only [tSeq, tAsg, gName, tRet]
    refine lst_err (spec := [(C 0, some [("part", x)]), (C 1, some [("name", y), ("part", x)]), (C 2, some [("name", x)]), (C 3, some [("name", x)]), (C 4, some [("name", x)]), (C 5, some [("name", x)])]) ?m ?h fun p0 y0 H0 S0 n0 b0 a0 => ?k
    case m => repeat (first | exact makes_nil | refine makes_1 rfl ?_ | refine makes_2 rfl rfl ?_ | refine makes_0 ?_ | refine makes_1K rfl ?_ | refine makes_2K rfl rfl ?_)
    case h => show 6 ≤ 100; decide
    refine cat_err (spec := [(C 6, some [("other", y), ("one", x)]), (C 7, some [("at", x)]), (C 8, some [("number", x)]), (C 9, some [("name", x)])]) rfl ?m1 b0 a0 (by show 6 ≤ 100; decide) ?h1 fun p1 y1 H1 s1 n1 b1 a1 => ?k1
    case m1 => repeat (first | exact makes_nil | refine makes_1 rfl ?_ | refine makes_2 rfl rfl ?_ | refine makes_0 ?_ | refine makes_1K rfl ?_ | refine makes_2K rfl rfl ?_)
    case h1 => show 4 ≤ 100; decide
    have S1 := S0.trans s1
    refine cat_err (spec := [(C 10, some [("at", x)]), (C 11, none), (C 12, some [("deed", x)]), (C 13, some [("at", x)]), (C 14, some [("number", x)])]) rfl ?m2 b1 a1 (by show 10 ≤ 100; decide) ?h2 fun p2 y2 H2 s2 n2 b2 a2 => ?k2
    case m2 => repeat (first | exact makes_nil | refine makes_1 rfl ?_ | refine makes_2 rfl rfl ?_ | refine makes_0 ?_ | refine makes_1K rfl ?_ | refine makes_2K rfl rfl ?_)
    case h2 => show 5 ≤ 100; decide
    have S2 := S1.trans s2
    refine cat_err (spec := [(C 15, some [("number", x)]), (C 16, some [("at", x)]), (C 17, some [("part", x)]), (C 18, some [("fault", x)]), (C 19, some [("name", x)])]) rfl ?m3 b2 a2 (by show 15 ≤ 100; decide) ?h3 fun p3 y3 H3 s3 n3 b3 a3 => ?k3
    case m3 => repeat (first | exact makes_nil | refine makes_1 rfl ?_ | refine makes_2 rfl rfl ?_ | refine makes_0 ?_ | refine makes_1K rfl ?_ | refine makes_2K rfl rfl ?_)
    case h3 => show 5 ≤ 100; decide
    have S3 := S2.trans s3
    refine cat_err (spec := [(C 20, none), (C 21, some [("name", x)]), (C 22, some [("at", x)])]) rfl ?m4 b3 a3 (by show 20 ≤ 100; decide) ?h4 fun p4 y4 H4 s4 n4 b4 a4 => ?k4
    case m4 => repeat (first | exact makes_nil | refine makes_1 rfl ?_ | refine makes_2 rfl rfl ?_ | refine makes_0 ?_ | refine makes_1K rfl ?_ | refine makes_2K rfl rfl ?_)
    case h4 => show 3 ≤ 100; decide
    have S4 := S3.trans s4
    refine cat_err (spec := [(C 23, some [("word", x)]), (C 24, none), (C 25, some [("line", x)])]) rfl ?m5 b4 a4 (by show 23 ≤ 100; decide) ?h5 fun p5 y5 H5 s5 n5 b5 a5 => ?k5
    case m5 => repeat (first | exact makes_nil | refine makes_1 rfl ?_ | refine makes_2 rfl rfl ?_ | refine makes_0 ?_ | refine makes_1K rfl ?_ | refine makes_2K rfl rfl ?_)
    case h5 => show 3 ≤ 100; decide
    have S5 := S4.trans s5
    exact q p5 y5 H5 S5 (noneS S4 n5) b5 a5
theorem ok__law_named_errors {f : Addr} {C : Nat → Addr} {fd : FuncData} (F : Fun K "_law_named_errors" "_law_named_errors" s__law_named_errors f fd) (T : Bi mg) (EK_BadFile : Err1K P w K mg base "BadFile" (C 0) "part") (EK_BadSite : Err2K P w K mg base "BadSite" (C 1) "part" "name" ["name", "part"] rev2) (EK_NoFile : Err1K P w K mg base "NoFile" (C 2) "name") (EK_NotEntry : Err1K P w K mg base "NotEntry" (C 3) "name") (EK_IsEntry : Err1K P w K mg base "IsEntry" (C 4) "name") (EK_NotPlain : Err1K P w K mg base "NotPlain" (C 5) "name") (EK_NotTogether : Err2K P w K mg base "NotTogether" (C 6) "one" "other" ["other", "one"] rev2) (EK_BadChanges : Err1K P w K mg base "BadChanges" (C 7) "at") (EK_NoContents : Err1K P w K mg base "NoContents" (C 8) "number") (EK_BadPiece : Err1K P w K mg base "BadPiece" (C 9) "name") (EK_BadKinds : Err1K P w K mg base "BadKinds" (C 10) "at") (EK_BadDeed : Err1K P w K mg base "BadDeed" (C 12) "deed") (EK_BadHistory : Err1K P w K mg base "BadHistory" (C 13) "at") (EK_NoCache : Err1K P w K mg base "NoCache" (C 14) "number") (EK_NoReader : Err1K P w K mg base "NoReader" (C 15) "number") (EK_BadTicks : Err1K P w K mg base "BadTicks" (C 16) "at") (EK_BadRule : Err1K P w K mg base "BadRule" (C 17) "part") (EK_NoFault : Err1K P w K mg base "NoFault" (C 18) "fault") (EK_BadOrder : Err1K P w K mg base "BadOrder" (C 19) "name") (EK_BadPrices : Err1K P w K mg base "BadPrices" (C 21) "name") (EK_BadWanted : Err1K P w K mg base "BadWanted" (C 22) "at") (EK_Barred : Err1K P w K mg base "Barred" (C 23) "word") (EK_BadText : Err1K P w K mg base "BadText" (C 25) "line") : FnOk P w K mg base CX0 3 f fd ["_law_this", "_law_that"] (spNamedErrors C) := by
  refine F.ok sc__law_named_errors (fun vs H Q E h => ?_) (fun cdv A outer s H vs Q E hr h => ?_)
  · obtain ⟨x, y, rfl, _⟩ := h
    rfl
  · obtain ⟨x, y, rfl, q⟩ := h
    have nd := sc__law_named_errors.nd
    have hu := hu_of hr
    refine ⟨_, pss_cons (ps_set (i := 2) nd rfl (by first | exact Or.inl rfl | exact Or.inr rfl) (pe_lst (pa_cons (pe_mkX1K EK_BadFile (hr.mono (by decide)) (pk_cons (pv 0) pk_nil)) (pa_cons (pe_mkX2K EK_BadSite (hr.mono (by decide)) (pk_cons (pv 1) (pk_cons (pv 0) pk_nil))) (pa_cons (pe_mkX1K EK_NoFile (hr.mono (by decide)) (pk_cons (pv 0) pk_nil)) (pa_cons (pe_mkX1K EK_NotEntry (hr.mono (by decide)) (pk_cons (pv 0) pk_nil)) pa_nil))))))
      (pss_cons (ps_set (i := 2) nd rfl (by first | exact Or.inl rfl | exact Or.inr rfl) (pe_op op_cat (pv 2) (pe_lst (pa_cons (pe_mkX1K EK_IsEntry (hr.mono (by decide)) (pk_cons (pv 0) pk_nil)) (pa_cons (pe_mkX1K EK_NotPlain (hr.mono (by decide)) (pk_cons (pv 0) pk_nil)) (pa_cons (pe_mkX2K EK_NotTogether (hr.mono (by decide)) (pk_cons (pv 1) (pk_cons (pv 0) pk_nil))) pa_nil))))))
      (pss_cons (ps_set (i := 2) nd rfl (by first | exact Or.inl rfl | exact Or.inr rfl) (pe_op op_cat (pv 2) (pe_lst (pa_cons (pe_mkX1K EK_BadChanges (hr.mono (by decide)) (pk_cons (pv 0) pk_nil)) (pa_cons (pe_mkX1K EK_NoContents (hr.mono (by decide)) (pk_cons (pv 0) pk_nil)) (pa_cons (pe_mkX1K EK_BadPiece (hr.mono (by decide)) (pk_cons (pv 0) pk_nil)) (pa_cons (pe_mkX1K EK_BadKinds (hr.mono (by decide)) (pk_cons (pv 0) pk_nil)) pa_nil)))))))
      (pss_cons (ps_set (i := 2) nd rfl (by first | exact Or.inl rfl | exact Or.inr rfl) (pe_op op_cat (pv 2) (pe_lst (pa_cons (pe_mkX1K EK_BadDeed (hr.mono (by decide)) (pk_cons (pv 0) pk_nil)) (pa_cons (pe_mkX1K EK_BadHistory (hr.mono (by decide)) (pk_cons (pv 0) pk_nil)) (pa_cons (pe_mkX1K EK_NoCache (hr.mono (by decide)) (pk_cons (pv 0) pk_nil)) (pa_cons (pe_mkX1K EK_NoReader (hr.mono (by decide)) (pk_cons (pv 0) pk_nil)) pa_nil)))))))
      (pss_cons (ps_set (i := 2) nd rfl (by first | exact Or.inl rfl | exact Or.inr rfl) (pe_op op_cat (pv 2) (pe_lst (pa_cons (pe_mkX1K EK_BadTicks (hr.mono (by decide)) (pk_cons (pv 0) pk_nil)) (pa_cons (pe_mkX1K EK_BadRule (hr.mono (by decide)) (pk_cons (pv 0) pk_nil)) (pa_cons (pe_mkX1K EK_NoFault (hr.mono (by decide)) (pk_cons (pv 0) pk_nil)) (pa_cons (pe_mkX1K EK_BadOrder (hr.mono (by decide)) (pk_cons (pv 0) pk_nil)) pa_nil)))))))
      (pss_one (ps_ret (pe_op op_cat (pv 2) (pe_lst (pa_cons (pe_mkX1K EK_BadPrices (hr.mono (by decide)) (pk_cons (pv 0) pk_nil)) (pa_cons (pe_mkX1K EK_BadWanted (hr.mono (by decide)) (pk_cons (pv 0) pk_nil)) (pa_cons (pe_mkX1K EK_Barred (hr.mono (by decide)) (pk_cons (pv 0) pk_nil)) (pa_cons (pe_mkX1K EK_BadText (hr.mono (by decide)) (pk_cons (pv 0) pk_nil)) pa_nil)))))))))))), ?_⟩
    dsimp only [tSeq, tAsg, gName, tRet]
    refine lst_err (spec := [(C 0, some [("part", x)]), (C 1, some [("name", y), ("part", x)]), (C 2, some [("name", x)]), (C 3, some [("name", x)])]) ?m ?h fun p0 y0 H0 S0 n0 b0 a0 => ?k
    case m => repeat (first | exact makes_nil | refine makes_1 rfl ?_ | refine makes_2 rfl rfl ?_ | refine makes_0 ?_ | refine makes_1K rfl ?_ | refine makes_2K rfl rfl ?_)
    case h => show 4 ≤ 100; decide
    refine cat_err (spec := [(C 4, some [("name", x)]), (C 5, some [("name", x)]), (C 6, some [("other", y), ("one", x)])]) rfl ?m1 b0 a0 (by show 4 ≤ 100; decide) ?h1 fun p1 y1 H1 s1 n1 b1 a1 => ?k1
    case m1 => repeat (first | exact makes_nil | refine makes_1 rfl ?_ | refine makes_2 rfl rfl ?_ | refine makes_0 ?_ | refine makes_1K rfl ?_ | refine makes_2K rfl rfl ?_)
    case h1 => show 3 ≤ 100; decide
    have S1 := S0.trans s1
    refine cat_err (spec := [(C 7, some [("at", x)]), (C 8, some [("number", x)]), (C 9, some [("name", x)]), (C 10, some [("at", x)])]) rfl ?m2 b1 a1 (by show 7 ≤ 100; decide) ?h2 fun p2 y2 H2 s2 n2 b2 a2 => ?k2
    case m2 => repeat (first | exact makes_nil | refine makes_1 rfl ?_ | refine makes_2 rfl rfl ?_ | refine makes_0 ?_ | refine makes_1K rfl ?_ | refine makes_2K rfl rfl ?_)
    case h2 => show 4 ≤ 100; decide
    have S2 := S1.trans s2
    refine cat_err (spec := [(C 12, some [("deed", x)]), (C 13, some [("at", x)]), (C 14, some [("number", x)]), (C 15, some [("number", x)])]) rfl ?m3 b2 a2 (by show 11 ≤ 100; decide) ?h3 fun p3 y3 H3 s3 n3 b3 a3 => ?k3
    case m3 => repeat (first | exact makes_nil | refine makes_1 rfl ?_ | refine makes_2 rfl rfl ?_ | refine makes_0 ?_ | refine makes_1K rfl ?_ | refine makes_2K rfl rfl ?_)
    case h3 => show 4 ≤ 100; decide
    have S3 := S2.trans s3
    refine cat_err (spec := [(C 16, some [("at", x)]), (C 17, some [("part", x)]), (C 18, some [("fault", x)]), (C 19, some [("name", x)])]) rfl ?m4 b3 a3 (by show 15 ≤ 100; decide) ?h4 fun p4 y4 H4 s4 n4 b4 a4 => ?k4
    case m4 => repeat (first | exact makes_nil | refine makes_1 rfl ?_ | refine makes_2 rfl rfl ?_ | refine makes_0 ?_ | refine makes_1K rfl ?_ | refine makes_2K rfl rfl ?_)
    case h4 => show 4 ≤ 100; decide
    have S4 := S3.trans s4
    refine cat_err (spec := [(C 21, some [("name", x)]), (C 22, some [("at", x)]), (C 23, some [("word", x)]), (C 25, some [("line", x)])]) rfl ?m5 b4 a4 (by show 19 ≤ 100; decide) ?h5 fun p5 y5 H5 s5 n5 b5 a5 => ?k5
    case m5 => repeat (first | exact makes_nil | refine makes_1 rfl ?_ | refine makes_2 rfl rfl ?_ | refine makes_0 ?_ | refine makes_1K rfl ?_ | refine makes_2K rfl rfl ?_)
    case h5 => show 4 ≤ 100; decide
    have S5 := S4.trans s5
    exact q p5 y5 H5 S5 (noneS S4 n5) b5 a5
end
end WP
namespace WP
open PySem L2
section
variable {P : Program} {w : World} {K : PySem.W.Frag} {mg : Str → Option Value} {base : Heap}
theorem ok__law_marks {f : Addr} {C : Nat → Addr} {fd : FuncData} (F : Fun K "_law_marks" "_law_marks" s__law_marks f fd) (T : Bi mg) (ecs : ∀ k, k < 26 → ExcC K (C k)) (tab : ∀ k j, k < 26 → j < 26 → PySem.W.kitOne K (.ref (C k)) (.ref (C j)) = some (decide (k = j))) (G_BadFile : mg "BadFile" = some (.ref (C 0))) (G_BadSite : mg "BadSite" = some (.ref (C 1))) (G_NoFile : mg "NoFile" = some (.ref (C 2))) (G_NotEntry : mg "NotEntry" = some (.ref (C 3))) (G_IsEntry : mg "IsEntry" = some (.ref (C 4))) (G_NotPlain : mg "NotPlain" = some (.ref (C 5))) (G_NotTogether : mg "NotTogether" = some (.ref (C 6))) (G_BadChanges : mg "BadChanges" = some (.ref (C 7))) (G_NoContents : mg "NoContents" = some (.ref (C 8))) (G_BadPiece : mg "BadPiece" = some (.ref (C 9))) (G_BadKinds : mg "BadKinds" = some (.ref (C 10))) (G_BadSteps : mg "BadSteps" = some (.ref (C 11))) (G_BadDeed : mg "BadDeed" = some (.ref (C 12))) (G_BadHistory : mg "BadHistory" = some (.ref (C 13))) (G_NoCache : mg "NoCache" = some (.ref (C 14))) (G_NoReader : mg "NoReader" = some (.ref (C 15))) (G_BadTicks : mg "BadTicks" = some (.ref (C 16))) (G_BadRule : mg "BadRule" = some (.ref (C 17))) (G_NoFault : mg "NoFault" = some (.ref (C 18))) (G_BadOrder : mg "BadOrder" = some (.ref (C 19))) (G_BadNumber : mg "BadNumber" = some (.ref (C 20))) (G_BadPrices : mg "BadPrices" = some (.ref (C 21))) (G_BadWanted : mg "BadWanted" = some (.ref (C 22))) (G_Barred : mg "Barred" = some (.ref (C 23))) (G_NothingLeft : mg "NothingLeft" = some (.ref (C 24))) (G_BadText : mg "BadText" = some (.ref (C 25))) : FnOk P w K mg base CX0 1 f fd ["_law_error"] (spMarks K C) := by
  refine F.ok sc__law_marks (fun vs H Q E h => ?_) (fun cdv A outer s H vs Q E hr h => ?_)
  · obtain ⟨a, k, o, rfl, _⟩ := h
    rfl
  · obtain ⟨a, k, o, rfl, h1, h2, q⟩ := h
    have nd := sc__law_marks.nd
    have hu := hu_of hr
    refine ⟨_, pss_cons (ps_set (i := 1) nd rfl (by first | exact Or.inl rfl | exact Or.inr rfl) (pe_lst (pa_cons (pe_callB call_isX (by rfl) T.isinstance (by decide +kernel) (pa_cons (pv 0) (pa_cons (gRef G_BadFile) pa_nil))) (pa_cons (pe_callB call_isX (by rfl) T.isinstance (by decide +kernel) (pa_cons (pv 0) (pa_cons (gRef G_BadSite) pa_nil))) (pa_cons (pe_callB call_isX (by rfl) T.isinstance (by decide +kernel) (pa_cons (pv 0) (pa_cons (gRef G_NoFile) pa_nil))) pa_nil)))))
      (pss_cons (ps_set (i := 1) nd rfl (by first | exact Or.inl rfl | exact Or.inr rfl) (pe_op op_cat (pv 1) (pe_lst (pa_cons (pe_callB call_isX (by rfl) T.isinstance (by decide +kernel) (pa_cons (pv 0) (pa_cons (gRef G_NotEntry) pa_nil))) (pa_cons (pe_callB call_isX (by rfl) T.isinstance (by decide +kernel) (pa_cons (pv 0) (pa_cons (gRef G_IsEntry) pa_nil))) (pa_cons (pe_callB call_isX (by rfl) T.isinstance (by decide +kernel) (pa_cons (pv 0) (pa_cons (gRef G_NotPlain) pa_nil))) pa_nil))))))
      (pss_cons (ps_set (i := 1) nd rfl (by first | exact Or.inl rfl | exact Or.inr rfl) (pe_op op_cat (pv 1) (pe_lst (pa_cons (pe_callB call_isX (by rfl) T.isinstance (by decide +kernel) (pa_cons (pv 0) (pa_cons (gRef G_NotTogether) pa_nil))) (pa_cons (pe_callB call_isX (by rfl) T.isinstance (by decide +kernel) (pa_cons (pv 0) (pa_cons (gRef G_BadChanges) pa_nil))) (pa_cons (pe_callB call_isX (by rfl) T.isinstance (by decide +kernel) (pa_cons (pv 0) (pa_cons (gRef G_NoContents) pa_nil))) pa_nil))))))
      (pss_cons (ps_set (i := 1) nd rfl (by first | exact Or.inl rfl | exact Or.inr rfl) (pe_op op_cat (pv 1) (pe_lst (pa_cons (pe_callB call_isX (by rfl) T.isinstance (by decide +kernel) (pa_cons (pv 0) (pa_cons (gRef G_BadPiece) pa_nil))) (pa_cons (pe_callB call_isX (by rfl) T.isinstance (by decide +kernel) (pa_cons (pv 0) (pa_cons (gRef G_BadKinds) pa_nil))) (pa_cons (pe_callB call_isX (by rfl) T.isinstance (by decide +kernel) (pa_cons (pv 0) (pa_cons (gRef G_BadSteps) pa_nil))) pa_nil))))))
      (pss_cons (ps_set (i := 1) nd rfl (by first | exact Or.inl rfl | exact Or.inr rfl) (pe_op op_cat (pv 1) (pe_lst (pa_cons (pe_callB call_isX (by rfl) T.isinstance (by decide +kernel) (pa_cons (pv 0) (pa_cons (gRef G_BadDeed) pa_nil))) (pa_cons (pe_callB call_isX (by rfl) T.isinstance (by decide +kernel) (pa_cons (pv 0) (pa_cons (gRef G_BadHistory) pa_nil))) (pa_cons (pe_callB call_isX (by rfl) T.isinstance (by decide +kernel) (pa_cons (pv 0) (pa_cons (gRef G_NoCache) pa_nil))) pa_nil))))))
      (pss_cons (ps_set (i := 1) nd rfl (by first | exact Or.inl rfl | exact Or.inr rfl) (pe_op op_cat (pv 1) (pe_lst (pa_cons (pe_callB call_isX (by rfl) T.isinstance (by decide +kernel) (pa_cons (pv 0) (pa_cons (gRef G_NoReader) pa_nil))) (pa_cons (pe_callB call_isX (by rfl) T.isinstance (by decide +kernel) (pa_cons (pv 0) (pa_cons (gRef G_BadTicks) pa_nil))) (pa_cons (pe_callB call_isX (by rfl) T.isinstance (by decide +kernel) (pa_cons (pv 0) (pa_cons (gRef G_BadRule) pa_nil))) pa_nil))))))
      (pss_cons (ps_set (i := 1) nd rfl (by first | exact Or.inl rfl | exact Or.inr rfl) (pe_op op_cat (pv 1) (pe_lst (pa_cons (pe_callB call_isX (by rfl) T.isinstance (by decide +kernel) (pa_cons (pv 0) (pa_cons (gRef G_NoFault) pa_nil))) (pa_cons (pe_callB call_isX (by rfl) T.isinstance (by decide +kernel) (pa_cons (pv 0) (pa_cons (gRef G_BadOrder) pa_nil))) (pa_cons (pe_callB call_isX (by rfl) T.isinstance (by decide +kernel) (pa_cons (pv 0) (pa_cons (gRef G_BadNumber) pa_nil))) pa_nil))))))
      (pss_cons (ps_set (i := 1) nd rfl (by first | exact Or.inl rfl | exact Or.inr rfl) (pe_op op_cat (pv 1) (pe_lst (pa_cons (pe_callB call_isX (by rfl) T.isinstance (by decide +kernel) (pa_cons (pv 0) (pa_cons (gRef G_BadPrices) pa_nil))) (pa_cons (pe_callB call_isX (by rfl) T.isinstance (by decide +kernel) (pa_cons (pv 0) (pa_cons (gRef G_BadWanted) pa_nil))) (pa_cons (pe_callB call_isX (by rfl) T.isinstance (by decide +kernel) (pa_cons (pv 0) (pa_cons (gRef G_Barred) pa_nil))) pa_nil))))))
      (pss_one (ps_ret (pe_op op_cat (pv 1) (pe_lst (pa_cons (pe_callB call_isX (by rfl) T.isinstance (by decide +kernel) (pa_cons (pv 0) (pa_cons (gRef G_NothingLeft) pa_nil))) (pa_cons (pe_callB call_isX (by rfl) T.isinstance (by decide +kernel) (pa_cons (pv 0) (pa_cons (gRef G_BadText) pa_nil))) pa_nil))))))))))))), ?_⟩
    dsimp only [tSeq, tAsg, gName, tRet]
    refine tlst (bs := [decide (k = 0), decide (k = 1), decide (k = 2)]) ?m (by show 3 ≤ 100; decide) fun p0 H0 S0 n0 b0 => ?k
    case m => repeat (first | exact tells_nil | refine tells_isX ecs tab h1 h2 rfl (by decide) ?_)
    refine tcat (bs := [decide (k = 3), decide (k = 4), decide (k = 5)]) rfl ?m1 b0 (by show 3 ≤ 100; decide) (by show 3 ≤ 100; decide) fun p1 H1 s1 n1 b1 => ?k1
    case m1 => repeat (first | exact tells_nil | refine tells_isX ecs tab (h1.same S0) h2 rfl (by decide) ?_)
    have S1 := S0.trans s1
    refine tcat (bs := [decide (k = 6), decide (k = 7), decide (k = 8)]) rfl ?m2 b1 (by show 6 ≤ 100; decide) (by show 3 ≤ 100; decide) fun p2 H2 s2 n2 b2 => ?k2
    case m2 => repeat (first | exact tells_nil | refine tells_isX ecs tab (h1.same S1) h2 rfl (by decide) ?_)
    have S2 := S1.trans s2
    refine tcat (bs := [decide (k = 9), decide (k = 10), decide (k = 11)]) rfl ?m3 b2 (by show 9 ≤ 100; decide) (by show 3 ≤ 100; decide) fun p3 H3 s3 n3 b3 => ?k3
    case m3 => repeat (first | exact tells_nil | refine tells_isX ecs tab (h1.same S2) h2 rfl (by decide) ?_)
    have S3 := S2.trans s3
    refine tcat (bs := [decide (k = 12), decide (k = 13), decide (k = 14)]) rfl ?m4 b3 (by show 12 ≤ 100; decide) (by show 3 ≤ 100; decide) fun p4 H4 s4 n4 b4 => ?k4
    case m4 => repeat (first | exact tells_nil | refine tells_isX ecs tab (h1.same S3) h2 rfl (by decide) ?_)
    have S4 := S3.trans s4
    refine tcat (bs := [decide (k = 15), decide (k = 16), decide (k = 17)]) rfl ?m5 b4 (by show 15 ≤ 100; decide) (by show 3 ≤ 100; decide) fun p5 H5 s5 n5 b5 => ?k5
    case m5 => repeat (first | exact tells_nil | refine tells_isX ecs tab (h1.same S4) h2 rfl (by decide) ?_)
    have S5 := S4.trans s5
    refine tcat (bs := [decide (k = 18), decide (k = 19), decide (k = 20)]) rfl ?m6 b5 (by show 18 ≤ 100; decide) (by show 3 ≤ 100; decide) fun p6 H6 s6 n6 b6 => ?k6
    case m6 => repeat (first | exact tells_nil | refine tells_isX ecs tab (h1.same S5) h2 rfl (by decide) ?_)
    have S6 := S5.trans s6
    refine tcat (bs := [decide (k = 21), decide (k = 22), decide (k = 23)]) rfl ?m7 b6 (by show 21 ≤ 100; decide) (by show 3 ≤ 100; decide) fun p7 H7 s7 n7 b7 => ?k7
    case m7 => repeat (first | exact tells_nil | refine tells_isX ecs tab (h1.same S6) h2 rfl (by decide) ?_)
    have S7 := S6.trans s7
    refine tcat (bs := [decide (k = 24), decide (k = 25)]) rfl ?m8 b7 (by show 24 ≤ 100; decide) (by show 2 ≤ 100; decide) fun p8 H8 s8 n8 b8 => ?k8
    case m8 => repeat (first | exact tells_nil | refine tells_isX ecs tab (h1.same S7) h2 rfl (by decide) ?_)
    have S8 := S7.trans s8
    exact q p8 H8 S8 (noneS S7 n8) b8
end
end WP
namespace WP
open PySem L2
section
variable {P : Program} {w : World} {K : PySem.W.Frag} {mg : Str → Option Value} {base : Heap}
theorem ok__law_kept {f CP : Addr} {C : Nat → Addr} {fd : FuncData} (F : Fun K "_law_kept" "_law_kept" s__law_kept f fd) (T : Bi mg) (E_BadFile : Err1 P w K mg base CP "BadFile" (C 0) "part") (E_BadSite : Err2 P w K mg base CP "BadSite" (C 1) "part" "name") (E_NoFile : Err1 P w K mg base CP "NoFile" (C 2) "name") (E_NotEntry : Err1 P w K mg base CP "NotEntry" (C 3) "name") (E_IsEntry : Err1 P w K mg base CP "IsEntry" (C 4) "name") (E_NotPlain : Err1 P w K mg base CP "NotPlain" (C 5) "name") (E_NotTogether : Err2 P w K mg base CP "NotTogether" (C 6) "one" "other") (E_BadChanges : Err1 P w K mg base CP "BadChanges" (C 7) "at") (E_NoContents : Err1 P w K mg base CP "NoContents" (C 8) "number") (E_BadPiece : Err1 P w K mg base CP "BadPiece" (C 9) "name") (E_BadKinds : Err1 P w K mg base CP "BadKinds" (C 10) "at") (E_BadDeed : Err1 P w K mg base CP "BadDeed" (C 12) "deed") (E_BadHistory : Err1 P w K mg base CP "BadHistory" (C 13) "at") (E_NoCache : Err1 P w K mg base CP "NoCache" (C 14) "number") (E_NoReader : Err1 P w K mg base CP "NoReader" (C 15) "number") (E_BadTicks : Err1 P w K mg base CP "BadTicks" (C 16) "at") (E_BadRule : Err1 P w K mg base CP "BadRule" (C 17) "part") (E_NoFault : Err1 P w K mg base CP "NoFault" (C 18) "fault") (E_BadOrder : Err1 P w K mg base CP "BadOrder" (C 19) "name") (E_BadPrices : Err1 P w K mg base CP "BadPrices" (C 21) "name") (E_BadWanted : Err1 P w K mg base CP "BadWanted" (C 22) "at") (E_Barred : Err1 P w K mg base CP "Barred" (C 23) "word") (E_BadText : Err1 P w K mg base CP "BadText" (C 25) "line") : FnOk P w K mg base CX0 1 f fd ["_law_errors_here"] (spKept C) := by
  refine F.ok sc__law_kept (fun vs H Q E h => ?_) (fun cdv A outer s H vs Q E hr h => ?_)
  · obtain ⟨L, ys, x, y, rfl, _⟩ := h
    rfl
  · obtain ⟨L, ys, x, y, rfl, hL, al, q⟩ := h
    have nd := sc__law_kept.nd
    have hu := hu_of hr
    refine ⟨_, pss_cons (ps_set (i := 1) nd rfl (by first | exact Or.inl rfl | exact Or.inr rfl) (pe_lst (pa_cons (pe_lst (pa_cons (pe_xfld rfl (pe_ix ix_list (pv 0) pe_int (fun _ _ => rfl))) pa_nil)) (pa_cons (pe_lst (pa_cons (pe_xfld rfl (pe_ix ix_list (pv 0) pe_int (fun _ _ => rfl))) (pa_cons (pe_xfld rfl (pe_ix ix_list (pv 0) pe_int (fun _ _ => rfl))) pa_nil))) (pa_cons (pe_lst (pa_cons (pe_xfld rfl (pe_ix ix_list (pv 0) pe_int (fun _ _ => rfl))) pa_nil)) (pa_cons (pe_lst (pa_cons (pe_xfld rfl (pe_ix ix_list (pv 0) pe_int (fun _ _ => rfl))) pa_nil)) (pa_cons (pe_lst (pa_cons (pe_xfld rfl (pe_ix ix_list (pv 0) pe_int (fun _ _ => rfl))) pa_nil)) pa_nil)))))))
      (pss_cons (ps_set (i := 1) nd rfl (by first | exact Or.inl rfl | exact Or.inr rfl) (pe_op op_cat (pv 1) (pe_lst (pa_cons (pe_lst (pa_cons (pe_xfld rfl (pe_ix ix_list (pv 0) pe_int (fun _ _ => rfl))) pa_nil)) (pa_cons (pe_lst (pa_cons (pe_xfld rfl (pe_ix ix_list (pv 0) pe_int (fun _ _ => rfl))) (pa_cons (pe_xfld rfl (pe_ix ix_list (pv 0) pe_int (fun _ _ => rfl))) pa_nil))) (pa_cons (pe_lst (pa_cons (pe_xfld rfl (pe_ix ix_list (pv 0) pe_int (fun _ _ => rfl))) pa_nil)) (pa_cons (pe_lst (pa_cons (pe_xfld rfl (pe_ix ix_list (pv 0) pe_int (fun _ _ => rfl))) pa_nil)) pa_nil)))))))
      (pss_cons (ps_set (i := 1) nd rfl (by first | exact Or.inl rfl | exact Or.inr rfl) (pe_op op_cat (pv 1) (pe_lst (pa_cons (pe_lst (pa_cons (pe_xfld rfl (pe_ix ix_list (pv 0) pe_int (fun _ _ => rfl))) pa_nil)) (pa_cons (pe_lst (pa_cons (pe_xfld rfl (pe_ix ix_list (pv 0) pe_int (fun _ _ => rfl))) pa_nil)) (pa_cons (pe_lst (pa_cons (pe_xfld rfl (pe_ix ix_list (pv 0) pe_int (fun _ _ => rfl))) pa_nil)) (pa_cons (pe_lst (pa_cons (pe_xfld rfl (pe_ix ix_list (pv 0) pe_int (fun _ _ => rfl))) pa_nil)) (pa_cons (pe_lst (pa_cons (pe_xfld rfl (pe_ix ix_list (pv 0) pe_int (fun _ _ => rfl))) pa_nil)) pa_nil))))))))
      (pss_cons (ps_set (i := 1) nd rfl (by first | exact Or.inl rfl | exact Or.inr rfl) (pe_op op_cat (pv 1) (pe_lst (pa_cons (pe_lst (pa_cons (pe_xfld rfl (pe_ix ix_list (pv 0) pe_int (fun _ _ => rfl))) pa_nil)) (pa_cons (pe_lst (pa_cons (pe_xfld rfl (pe_ix ix_list (pv 0) pe_int (fun _ _ => rfl))) pa_nil)) (pa_cons (pe_lst (pa_cons (pe_xfld rfl (pe_ix ix_list (pv 0) pe_int (fun _ _ => rfl))) pa_nil)) (pa_cons (pe_lst (pa_cons (pe_xfld rfl (pe_ix ix_list (pv 0) pe_int (fun _ _ => rfl))) pa_nil)) (pa_cons (pe_lst (pa_cons (pe_xfld rfl (pe_ix ix_list (pv 0) pe_int (fun _ _ => rfl))) pa_nil)) pa_nil))))))))
      (pss_one (ps_ret (pe_op op_cat (pv 1) (pe_lst (pa_cons (pe_lst (pa_cons (pe_xfld rfl (pe_ix ix_list (pv 0) pe_int (fun _ _ => rfl))) pa_nil)) (pa_cons (pe_lst (pa_cons (pe_xfld rfl (pe_ix ix_list (pv 0) pe_int (fun _ _ => rfl))) pa_nil)) (pa_cons (pe_lst (pa_cons (pe_xfld rfl (pe_ix ix_list (pv 0) pe_int (fun _ _ => rfl))) pa_nil)) (pa_cons (pe_lst (pa_cons (pe_xfld rfl (pe_ix ix_list (pv 0) pe_int (fun _ _ => rfl))) pa_nil)) pa_nil))))))))))), ?_⟩
    dsimp only [tSeq, tAsg, gName, tRet]
    refine rlst (H0 := H) (rows := [[x], [x, y], [x], [x], [x]]) ?m (Same.refl _) (by show 5 ≤ 100; decide) fun p0 r0 H0 S0 n0 b0 a0 => ?k
    case m =>
      refine rows_cons (vs := [x]) (by show 1 ≤ 100; decide) (by
        refine rx_fld (i := 0) rfl hL al rfl rfl E_BadFile.xf E_BadFile.no ?_
        exact rx_nil) ?_
      refine rows_cons (vs := [x, y]) (by show 2 ≤ 100; decide) (by
        refine rx_fld (i := 1) rfl hL al rfl rfl E_BadSite.xf E_BadSite.nf ?_
        refine rx_fld (i := 1) rfl hL al rfl rfl E_BadSite.xf E_BadSite.ng ?_
        exact rx_nil) ?_
      refine rows_cons (vs := [x]) (by show 1 ≤ 100; decide) (by
        refine rx_fld (i := 2) rfl hL al rfl rfl E_NoFile.xf E_NoFile.no ?_
        exact rx_nil) ?_
      refine rows_cons (vs := [x]) (by show 1 ≤ 100; decide) (by
        refine rx_fld (i := 3) rfl hL al rfl rfl E_NotEntry.xf E_NotEntry.no ?_
        exact rx_nil) ?_
      refine rows_cons (vs := [x]) (by show 1 ≤ 100; decide) (by
        refine rx_fld (i := 4) rfl hL al rfl rfl E_IsEntry.xf E_IsEntry.no ?_
        exact rx_nil) ?_
      exact rows_nil
    refine rcat (H0 := H) (rows := [[x], [x, y], [x], [x]]) rfl ?m1 S0 b0 a0 (by show 5 ≤ 100; decide) (by show 4 ≤ 100; decide) fun p1 r1 H1 s1 n1 b1 a1 => ?k1
    case m1 =>
      refine rows_cons (vs := [x]) (by show 1 ≤ 100; decide) (by
        refine rx_fld (i := 5) rfl hL al rfl rfl E_NotPlain.xf E_NotPlain.no ?_
        exact rx_nil) ?_
      refine rows_cons (vs := [x, y]) (by show 2 ≤ 100; decide) (by
        refine rx_fld (i := 6) rfl hL al rfl rfl E_NotTogether.xf E_NotTogether.nf ?_
        refine rx_fld (i := 6) rfl hL al rfl rfl E_NotTogether.xf E_NotTogether.ng ?_
        exact rx_nil) ?_
      refine rows_cons (vs := [x]) (by show 1 ≤ 100; decide) (by
        refine rx_fld (i := 7) rfl hL al rfl rfl E_BadChanges.xf E_BadChanges.no ?_
        exact rx_nil) ?_
      refine rows_cons (vs := [x]) (by show 1 ≤ 100; decide) (by
        refine rx_fld (i := 8) rfl hL al rfl rfl E_NoContents.xf E_NoContents.no ?_
        exact rx_nil) ?_
      exact rows_nil
    have S1 := S0.trans s1
    refine rcat (H0 := H) (rows := [[x], [x], [x], [x], [x]]) rfl ?m2 S1 b1 a1 (by show 9 ≤ 100; decide) (by show 5 ≤ 100; decide) fun p2 r2 H2 s2 n2 b2 a2 => ?k2
    case m2 =>
      refine rows_cons (vs := [x]) (by show 1 ≤ 100; decide) (by
        refine rx_fld (i := 9) rfl hL al rfl rfl E_BadPiece.xf E_BadPiece.no ?_
        exact rx_nil) ?_
      refine rows_cons (vs := [x]) (by show 1 ≤ 100; decide) (by
        refine rx_fld (i := 10) rfl hL al rfl rfl E_BadKinds.xf E_BadKinds.no ?_
        exact rx_nil) ?_
      refine rows_cons (vs := [x]) (by show 1 ≤ 100; decide) (by
        refine rx_fld (i := 11) rfl hL al rfl rfl E_BadDeed.xf E_BadDeed.no ?_
        exact rx_nil) ?_
      refine rows_cons (vs := [x]) (by show 1 ≤ 100; decide) (by
        refine rx_fld (i := 12) rfl hL al rfl rfl E_BadHistory.xf E_BadHistory.no ?_
        exact rx_nil) ?_
      refine rows_cons (vs := [x]) (by show 1 ≤ 100; decide) (by
        refine rx_fld (i := 13) rfl hL al rfl rfl E_NoCache.xf E_NoCache.no ?_
        exact rx_nil) ?_
      exact rows_nil
    have S2 := S1.trans s2
    refine rcat (H0 := H) (rows := [[x], [x], [x], [x], [x]]) rfl ?m3 S2 b2 a2 (by show 14 ≤ 100; decide) (by show 5 ≤ 100; decide) fun p3 r3 H3 s3 n3 b3 a3 => ?k3
    case m3 =>
      refine rows_cons (vs := [x]) (by show 1 ≤ 100; decide) (by
        refine rx_fld (i := 14) rfl hL al rfl rfl E_NoReader.xf E_NoReader.no ?_
        exact rx_nil) ?_
      refine rows_cons (vs := [x]) (by show 1 ≤ 100; decide) (by
        refine rx_fld (i := 15) rfl hL al rfl rfl E_BadTicks.xf E_BadTicks.no ?_
        exact rx_nil) ?_
      refine rows_cons (vs := [x]) (by show 1 ≤ 100; decide) (by
        refine rx_fld (i := 16) rfl hL al rfl rfl E_BadRule.xf E_BadRule.no ?_
        exact rx_nil) ?_
      refine rows_cons (vs := [x]) (by show 1 ≤ 100; decide) (by
        refine rx_fld (i := 17) rfl hL al rfl rfl E_NoFault.xf E_NoFault.no ?_
        exact rx_nil) ?_
      refine rows_cons (vs := [x]) (by show 1 ≤ 100; decide) (by
        refine rx_fld (i := 18) rfl hL al rfl rfl E_BadOrder.xf E_BadOrder.no ?_
        exact rx_nil) ?_
      exact rows_nil
    have S3 := S2.trans s3
    refine rcat (H0 := H) (rows := [[x], [x], [x], [x]]) rfl ?m4 S3 b3 a3 (by show 19 ≤ 100; decide) (by show 4 ≤ 100; decide) fun p4 r4 H4 s4 n4 b4 a4 => ?k4
    case m4 =>
      refine rows_cons (vs := [x]) (by show 1 ≤ 100; decide) (by
        refine rx_fld (i := 19) rfl hL al rfl rfl E_BadPrices.xf E_BadPrices.no ?_
        exact rx_nil) ?_
      refine rows_cons (vs := [x]) (by show 1 ≤ 100; decide) (by
        refine rx_fld (i := 20) rfl hL al rfl rfl E_BadWanted.xf E_BadWanted.no ?_
        exact rx_nil) ?_
      refine rows_cons (vs := [x]) (by show 1 ≤ 100; decide) (by
        refine rx_fld (i := 21) rfl hL al rfl rfl E_Barred.xf E_Barred.no ?_
        exact rx_nil) ?_
      refine rows_cons (vs := [x]) (by show 1 ≤ 100; decide) (by
        refine rx_fld (i := 22) rfl hL al rfl rfl E_BadText.xf E_BadText.no ?_
        exact rx_nil) ?_
      exact rows_nil
    have S4 := S3.trans s4
    exact q p4 r4 H4 S4 (noneS S3 n4) b4 a4
end
end WP
namespace WP
open PySem L2
theorem caught_scope : (defScope s__law_caught).names.lookup ("_law_caught_here" : Str) = some .local ∧ (defScope s__law_caught).names.lookup ("_law_error" : Str) = some .local ∧ (defScope s__law_caught).names.lookup ("PrintError" : Str) = some .globalImplicit ∧ (defScope s__law_caught).names.lookup ("_law_work" : Str) = some .local := by decide +kernel
theorem pe_caught {X : Cx} {f CP c Pt : Addr} {fd : FuncData} {T : List (Addr × Str)} {k : Nat} {params : Arguments} {body : Expr} {scope : Scope} {t : XK → TE} {p lpos pos : Pos} (F : Fun X.K "_law_caught" "_law_caught" s__law_caught f fd) (hm : X.mg "_law_caught" = some (.ref f)) (hme : X.mg "PrintError" = some (.ref CP))
    (TB : LamX.TabB X.base X.mg c Pt) (hcode : X.env.code = .ref c) (hmT : (Pt, X.env.qual ++ "<lambda>") ∈ T) (hu : ∀ p ∈ T, p.1 = Pt → p.2 = X.env.qual ++ "<lambda>") (hr : Room (k + 2) X.A) (L : LamX.LamS X.env.scope scope) (hdef : defaultsOf params X.env = ([], []))
    (hbind : ∀ (q : Str) (cl : List (Str × Addr)) (pm cv ctv : Value), bindArgs (PySem.W.kla_fn "<lambda>" q params body scope cl pm cv ctv) ⟨[], []⟩ = pure [])
    (hbody : ∀ (A : Around) (outer : List Env) (s : Shared) (H : Hp) (E : XK) (f c' : Addr), Room k (A.deeper (LamX.lamEnv X scope s.heap.objs.size f c')) → PE (LamX.lamCx X A outer s H E scope f c') body (t E)) (hg : Gl X "_law_caught" := by rfl) :
    PE X (.Call (.Name "_law_caught" p) [.Lambda params body scope lpos] [] pos) (LamX.tLam T (TCaught X.K CP) t) := by
  have hb := F.binds (ps := ["_law_work"]) fun _ _ _ _ _ _ us hl => match us, hl with | [_], _ => rfl
  obtain ⟨oc, od, kV, doc, pm, an, cdv, ct, osl, rfl, lk, hcd⟩ := F.ex
  obtain ⟨s1, s2, s3, s4⟩ := caught_scope
  exact LamX.pe_lamcall hg hm F.kp lk hcd hb sc__law_caught rfl (.inl s4) (caught_gives (wk := "_law_work") (ch := "_law_caught_here") (er := "_law_error") (pe := "PrintError") (by decide) s1 s2 s3 hme (by decide) (by decide) (by decide) (by decide) (by decide)) TB hcode hmT hu hr L hdef hbind hbody
end WP
namespace WP
open PySem L2
abbrev lamQL : Str := (("law" : Str) ++ (".<locals>." : Str)) ++ ("<lambda>" : Str)
def spLaw (K : PySem.W.Frag) (T : List (Addr × Str)) : Sp := fun vs H Q _ => ∃ (a : Addr) (ns : List Int), vs = [.ref a] ∧ SqL K H a (ns.map V.int) ∧ ns.length ≤ 63 ∧ LamX.Tabs T H ∧ ∀ H', Q (.bl true) H'
section
open LamX
variable {P : Program} {w : World} {K : PySem.W.Frag} {mg : Str → Option Value} {base : Heap}
theorem ok_law {f fC CP cl Pt : Addr} {C : Nat → Addr} {fd fdC : FuncData} (F : Fun K "law" "law" s_law f fd) (hfc : fd.code = .ref cl) (T : Bi mg) (TB : TabB base mg cl Pt) (F_caught : Fun K "_law_caught" "_law_caught" s__law_caught fC fdC) (M_caught : mg "_law_caught" = some (.ref fC)) (M_PrintError : mg "PrintError" = some (.ref CP))
    (E_PrintError : Err0 K mg CP "PrintError" CP) (E_BadPiece : Err1 P w K mg base CP "BadPiece" (C 9) "name") (G_BadFile : mg "BadFile" = some (.ref (C 0))) (M_ValueError : mg "ValueError" = none) (KT : KitT K C CP) (ecs : ∀ k, k < 26 → ExcC K (C k)) (kPF : PySem.W.kitOne K (.ref CP) (.ref (C 0)) = some false)
    (D__law_begun : Dn P w K mg base CX0 1 "_law_begun" ["_law_script"] (spBegun K)) (D__law_odd : Dn P w K mg base CX0 4 "_law_odd" ["_law_draw"] (spOddD oddL)) (D__law_errors : Dn P w K mg base CX0 3 "_law_errors" ["_law_this", "_law_that"] (spErrors C)) (D__law_named_errors : Dn P w K mg base CX0 3 "_law_named_errors" ["_law_this", "_law_that"] (spNamedErrors C))
    (D__law_kept : Dn P w K mg base CX0 1 "_law_kept" ["_law_errors_here"] (spKept C)) (D__law_marks : Dn P w K mg base CX0 1 "_law_marks" ["_law_error"] (spMarks K C)) (D__law_thrown : Dn P w K mg base (L2.CX P w) 3 "_law_thrown" ["_law_value"] (spThrown (C 9))) : GnOk P w K mg base CX0 9 f fd ["_law_script"] (spLaw K [(Pt, lamQL)]) := by
  refine okG F sc_law (fun vs H Q E h => ?_) (fun cdv A outer s H vs Q E hg hcd hex hr h => ?_)
  · obtain ⟨a, ns, rfl, _⟩ := h
    rfl
  · obtain ⟨a, ns, rfl, hS, hl, hT, q⟩ := h
    have hu := hu_of hr
    have nd := sc_law.nd
    obtain ⟨_, _, _, _, ecd⟩ := hex
    have hcode : cdv = .ref cl := by rw [← ecd, hfc]
    have hmT : (Pt, lamQL) ∈ [(Pt, lamQL)] := List.mem_singleton.mpr rfl
    have huT : ∀ p ∈ [(Pt, lamQL)], p.1 = Pt → p.2 = lamQL := fun p hp _ => by rw [List.mem_singleton.mp hp]
    have G_PrintError := M_PrintError
    have G_BadPiece := E_BadPiece.mgC
    refine ⟨_, PSs.nox (pss_cons (ps_set (i := 1) nd rfl (by first | exact Or.inl rfl | exact Or.inr rfl) (pe_d D__law_begun (hr.mono (by decide)) pass0 (pa_cons (pv 0) pa_nil)))
      (pss_cons (ps_for PassesOwn.never rfl (pi_range1 (by rfl) T.range (pa_cons (pe_op op_add pe_int (pe_callB (call_min2 rfl) (by rfl) T.min (by decide +kernel) (pa_cons (pe_callB call_len (by rfl) T.len (by decide +kernel) (pa_cons (pv 0) pa_nil)) (pa_cons pe_int pa_nil)))) pa_nil)) (pg_name (i := 2) nd rfl (by first | exact Or.inl rfl | exact Or.inr rfl)) (pss_cons (ps_asg (pe_tup (pa_cons (pe_d D__law_odd (hr.mono (by decide)) pass0 (pa_cons (pv 1) pa_nil)) (pa_cons (pe_d D__law_odd (hr.mono (by decide)) pass0 (pa_cons (pv 1) pa_nil)) pa_nil))) (pg_tup rfl (pgs_cons (pg_name (i := 3) nd rfl (by first | exact Or.inl rfl | exact Or.inr rfl)) (pgs_cons (pg_name (i := 4) nd rfl (by first | exact Or.inl rfl | exact Or.inr rfl)) pgs_nil))))
      (pss_cons (ps_set (i := 5) nd rfl (by first | exact Or.inl rfl | exact Or.inr rfl) (pe_d D__law_errors (hr.mono (by decide)) pass0 (pa_cons (pv 3) (pa_cons (pv 4) pa_nil))))
      (pss_cons (ps_for PassesOwn.never rfl (pi_range1 (by rfl) T.range (pa_cons (pe_callB call_len (by rfl) T.len (by decide +kernel) (pa_cons (pv 5) pa_nil)) pa_nil)) (pg_name (i := 6) nd rfl (by first | exact Or.inl rfl | exact Or.inr rfl)) (pss_cons (ps_set (i := 7) nd rfl (by first | exact Or.inl rfl | exact Or.inr rfl) (pe_ix (ix_listK (K := K) rfl) (pv 5) (pv 6) (fun _ _ => rfl)))
      (pss_cons (ps_if (pt_cmpR (op_neD hr.units) (pe_d D__law_marks (hr.mono (by decide)) pass0 (pa_cons (pv 7) pa_nil)) (pe_lc (own := [("_law_k", 8)]) (g := gName 8) rfl nd (pi_range1 (by rfl) T.range (pa_cons pe_int pa_nil)) (blkOk_by (own := [("_law_k", 8)]) (N := ["_law_script", "_law_draw", "_law_turn", "_law_this", "_law_that", "_law_errors_here", "_law_spot_at", "_law_error", "_law_k", "_law_caught_here", "_law_plain", "_law_due"]) (sc := defScope s_law) (by decide +kernel)) (fun _ _ _ _ _ => (pg_name (i := 8) nd rfl (by first | exact Or.inl rfl | exact Or.inr rfl))) (fun _ _ _ _ _ => pts_nil) (fun _ _ _ _ _ => (pe_cmpR op_eq (pv 8) (pv 6) (nomark _)))) (nomark _)) (pss_one (ps_ret pe_bl)) pss_nil)
      (pss_one (ps_if (PW.pt (pw_or (pt_not (pt_val (pe_callB call_isX (by rfl) T.isinstance (by decide +kernel) (pa_cons (pv 7) (pa_cons (n_VE M_ValueError) pa_nil))))) (pw_or1 (pt_not (pt_val (pe_callB call_isX (by rfl) T.isinstance (by decide +kernel) (pa_cons (pv 7) (pa_cons (gRef G_PrintError) pa_nil)))))))) (pss_one (ps_ret pe_bl)) pss_nil)))))
      (pss_cons (ps_set (i := 9) nd rfl (by first | exact Or.inl rfl | exact Or.inr rfl) (pe_weak (pe_caught (k := 5) F_caught M_caught M_PrintError TB hcode hmT huT (hr.mono (by decide)) (LamX.lamS_by (sc := defScope s_law) (by decide +kernel)) rfl (fun _ _ _ _ _ => rfl) (fun A outer s H E f c' hr => (pe_dS D__law_thrown (hr.mono (by decide)) (takes_of rfl rfl rfl rfl) (pa_cons (pv 3) pa_nil))))))
      (pss_cons (ps_if (PW.pt (pw_or (pt_not (pt_val (pe_callB call_isX (by rfl) T.isinstance (by decide +kernel) (pa_cons (pv 9) (pa_cons (gRef G_BadPiece) pa_nil))))) (pw_or1 (pt_cmpR op_ne (pe_callB (call_reprG hg hr.units) (by rfl) T.repr (by decide +kernel) (pa_cons (pe_xfld rfl (pv 9)) pa_nil)) (pe_callB (call_reprG hg hr.units) (by rfl) T.repr (by decide +kernel) (pa_cons (pv 3) pa_nil)) (nomark _))))) (pss_one (ps_ret pe_bl)) pss_nil)
      (pss_cons (ps_setLc (i := 10) (own := [("_law_spot_at", 6)]) (g := gName 6) rfl nd rfl rfl (sw_true rfl rfl rfl (by decide +kernel)) (pi_range1 (by rfl) T.range (pa_cons pe_int pa_nil)) (blkOk_by (own := [("_law_spot_at", 6)]) (N := ["_law_script", "_law_draw", "_law_turn", "_law_this", "_law_that", "_law_errors_here", "_law_spot_at", "_law_error", "_law_k", "_law_caught_here", "_law_plain", "_law_due"]) (sc := defScope s_law) (by decide +kernel)) (fun _ _ _ _ _ => (pg_name (i := 6) nd rfl (by first | exact Or.inl rfl | exact Or.inr rfl))) (fun _ _ _ _ _ => (pts_one (pt_cmpR (op_notInK (K := K) rfl) (pv 6) (pe_tup (pa_cons pe_int (pa_cons pe_int (pa_cons pe_int pa_nil)))) (by rfl)))) (fun _ _ _ _ _ => (pe_ix (ix_listK (K := K) rfl) (pv 5) (pv 6) (fun _ _ => rfl))))
      (pss_cons (ps_setLc (i := 11) (own := [("_law_spot_at", 6)]) (g := gName 6) rfl nd rfl rfl (sw_true rfl rfl rfl (by decide +kernel)) (pi_range1 (by rfl) T.range (pa_cons pe_int pa_nil)) (blkOk_by (own := [("_law_spot_at", 6)]) (N := ["_law_script", "_law_draw", "_law_turn", "_law_this", "_law_that", "_law_errors_here", "_law_spot_at", "_law_error", "_law_k", "_law_caught_here", "_law_plain", "_law_due"]) (sc := defScope s_law) (by decide +kernel)) (fun _ _ _ _ _ => (pg_name (i := 6) nd rfl (by first | exact Or.inl rfl | exact Or.inr rfl))) (fun _ _ _ _ _ => pts_nil) (fun _ _ _ _ _ => (pe_ifExp (pt_cmpR (op_inK (K := K) rfl) (pv 6) (pe_tup (pa_cons pe_int (pa_cons pe_int pa_nil))) (by rfl)) (pe_lst (pa_cons (pv 3) (pa_cons (pv 4) pa_nil))) (pe_lst (pa_cons (pv 3) pa_nil)))))
      (pss_one (ps_if (PW.pt (pw_or (pt_cmpR op_ne (pe_callB (call_reprG hg hr.units) (by rfl) T.repr (by decide +kernel) (pa_cons (pe_d D__law_kept (hr.mono (by decide)) pass0 (pa_cons (pv 10) pa_nil)) pa_nil)) (pe_callB (call_reprG hg hr.units) (by rfl) T.repr (by decide +kernel) (pa_cons (pv 11) pa_nil)) (nomark _)) (pw_or1 (pt_cmpR op_ne (pe_callB (call_reprG hg hr.units) (by rfl) T.repr (by decide +kernel) (pa_cons (pe_d D__law_kept (hr.mono (by decide)) pass0 (pa_cons (pe_d D__law_named_errors (hr.mono (by decide)) pass0 (pa_cons (pv 3) (pa_cons (pv 4) pa_nil))) pa_nil)) pa_nil)) (pe_callB (call_reprG hg hr.units) (by rfl) T.repr (by decide +kernel) (pa_cons (pv 11) pa_nil)) (nomark _))))) (pss_one (ps_ret pe_bl)) pss_nil))))))))))
      (pss_one (ps_ret (pe_not (pe_callB call_isX (by rfl) T.isinstance (by decide +kernel) (pa_cons (pe_mkX0 E_PrintError pe_str) (pa_cons (gRef G_BadFile) pa_nil)))))))), ?_⟩
    refine ⟨_, rfl, a, ns, rfl, hS, hl, fun d w c H1 D1 S1 => ?_⟩
    have hT1 := hT.ext S1
    have hS1 : SqL K (hd2 d w H1) a (ns.map V.int) := S1.seq hS
    refine ⟨_, rfl, _, _, rfl, .inl ⟨_, hd2_sub.seq hS1, rfl⟩, _, _, rfl, _, _, rfl, rfl, ?_⟩
    refine ⟨_, rfl, by split <;> omega, by split <;> omega, ?_⟩
    refine for_it walk_range (fun i σ Hi => Dr d w c (4000 * i) Hi ∧ LamX.Tabs [(Pt, lamQL)] (hd2 d w Hi) ∧ ∃ v2 v3 v4 v5 v6 v7 v8 v9 v10 v11 : Option V, σ = [some (.ref a), some (.ref d), v2, v3, v4, v5, v6, v7, v8, v9, v10, v11])
      ⟨D1.mono (by omega), hT1, _, _, _, _, _, _, _, _, _, _, rfl⟩ (fun _ _ _ _ _ => trivial) ?_ ?_
    · rintro i y0 σ Hj Hi hi ⟨Di, Ti, v2, v3, v4, v5, v6, v7, v8, v9, v10, v11, rfl⟩ ⟨rfl, rfl⟩
      have hi16 : i < 100 := by split at hi <;> omega
      -- this and that
      refine ⟨_, rfl, d, w, c, _, rfl, Di, by omega, fun x e1 H3 m1 hx X3 => ?_⟩
      refine ⟨_, rfl, d, w, c, _, rfl, X3.dr, by omega, fun y e2 H4 m2 hy X4' => ?_⟩
      have X4 := X3.draw X4'.dr X4'.fr
      have hx := hx.same X4'.fr
      clear X4' X3
      refine ⟨(by show 2 ≤ sizeLine; decide), fun t ht => ?_⟩
      have X5 := X4.new (o := .tup [x, y]) ht
      have bt := X4.at (o := .tup [x, y]) ht
      have s5 := hd2_new (d := d) (w := w) (o := .tup [x, y]) ht
      have hx := hx.same s5
      have hy := hy.same s5
      generalize upd H4 t (.tup [x, y]) = H5 at X5 bt hx hy ⊢
      refine ⟨t, _, rfl, SqT.of (hd2_of bt).1, rfl, _, _, rfl, _, _, rfl, rfl, ?_⟩
      have T5 := Ti.ext X5.fr
      have L0 : Lx d w c (4000 * i + 1000) [(Pt, lamQL)] H5 H5 := ⟨X5.dr.mono (by omega), T5, ExtN.refl _⟩
      clear X4 X5 bt s5 ht Ti
      have r1 := (oddL_sh e1 m1)
      have r2 := (oddL_sh e2 m2)
      -- the errors
      refine ⟨_, rfl, _, rfl, x, y, rfl, fun pe ys H6 S6 _ b6 al6 => ?_⟩
      have yl : ys.length = 26 := al6.len
      -- each of them
      refine ⟨_, rfl, _, _, rfl, .inl ⟨_, SqL.of b6, rfl⟩, ?_⟩
      refine ⟨_, rfl, (by rw [yl]; omega), (by rw [yl]; omega), ?_⟩
      refine for_it walk_range (fun j σ Hk => Same H6 Hk ∧ ∃ v6 v7 v8 : Option V, σ = [some (.ref a), some (.ref d), some (.int (0 + (i : Nat))), some x, some y, some (.ref pe), v6, v7, v8, v9, v10, v11]) ⟨Same.refl _, _, _, _, rfl⟩ (fun _ _ _ _ _ => trivial) ?_ ?_
      · rintro j y1 σ Hl Hk hj ⟨Sk, v6, v7, v8, rfl⟩ ⟨rfl, rfl⟩
        have j26 : j < 26 := by
          have : j < ((ys.length : Nat) : Int).toNat := hj
          omega
        obtain ⟨o, ho, _⟩ := tabE_at (C := C) (x := x) (y := y) j j26
        obtain ⟨er, hej, he⟩ := All2.at' al6 ho
        refine ⟨_, rfl, _, rfl, pe, _, _, er, rfl, rfl, SqL.of (Sk _ _ b6), (by rw [Int.zero_add]; exact atI_nat hej), ?_⟩
        have he := he.same Sk
        obtain ⟨ea, rfl, he'⟩ := id he
        refine ⟨_, rfl, ea, j, o, rfl, he, j26, fun p H7 S7 _ b7 => ?_⟩
        rw [show ((List.range 26).map fun q => V.bl (decide (j = q))) = (((List.range 26).map fun q => decide (j = q)).map V.bl) by rw [List.map_map]; rfl] at b7
        refine ⟨26, rfl, by decide, by decide, fun D hD => ?_⟩
        refine lc_it walk_range (fun q Hm => Same H7 Hm ∧ Hm D = some (.lst (((List.range q).map fun q => decide (j = q)).map V.bl))) ⟨Evl.Ex.new hD, upd_same⟩ (fun _ _ _ _ => trivial) ?_ ?_
        · rintro q y2 Hn Hm hq ⟨Sm, bD⟩ ⟨rfl, rfl⟩
          have q26 : q < 26 := hq
          have dq : decide (V.int (0 + (q : Nat)) = V.int (0 + (j : Nat))) = decide (j = q) := by
            rw [dec_int, Bool.eq_iff_iff, beq_iff_eq, decide_eq_true_eq]
            omega
          refine ⟨rfl, _, rfl, _, rfl, rfl, _, bD, by rw [List.length_map, List.length_map, List.length_range, sizeLine_eq]; omega, Evl.Ex.mut Sm hD, ?_⟩
          rw [upd_same, List.range_succ, List.map_append, List.map_append, dq]
          rfl
        rintro H8 ⟨S8, bD⟩
        refine ne_bls (S8 _ _ b7) bD ⟨_, rfl, iteF' rfl ?_⟩
        have he := (he.same S7).same S8
        obtain ⟨eb, dd, e0, hx, hdd⟩ := he.ex
        cases e0
        refine ⟨_, rfl, ea, C j, dd, .ty "ValueError", .type "ValueError", true, rfl, hx, hdd, ecs j j26, .ty _, KT.ve j j26, _, rfl, ?_⟩
        refine iteF' rfl ⟨_, rfl, ea, C j, dd, .ref CP, .ref CP, true, rfl, hx, hdd, ecs j j26, .own _, KT.pe j j26, _, rfl, ?_⟩
        exact iteF' rfl ⟨(Sk.trans S7).trans S8, _, _, _, rfl⟩
      rintro σ Hk ⟨Sk, v6, v7, v8, rfl⟩
      have S6k := S6.trans Sk
      have Lk : Lx d w c (4000 * i + 1000) [(Pt, lamQL)] H5 Hk := L0.same S6k
      have b6 := Sk _ _ b6
      have al6 := All2.imp al6 fun _ _ h => h.same Sk
      have hx := (hx.same hd2_sub).same S6k
      have hy := (hy.same hd2_sub).same S6k
      have r1 := shOk.rg r1
      have r2 := shOk.rg r2
      clear S6k Sk S6 L0
      -- what is thrown
      refine ⟨fun er H' => Lx d w c (4000 * i + 1000) [(Pt, lamQL)] H5 H' ∧ ExtN Hk H' ∧ ErrIs H' (C 9) (some [("name", x)]) er, ?_, ?_⟩
      · refine ⟨Tabs.un Lk.tb, fun Hm eN Tm => ?_⟩
        have L1 := Lk.lam eN Tm
        refine ⟨_, rfl, x, rfl, fun dd HA SA hxd => ⟨E_BadPiece.sub, fun er her => ?_⟩⟩
        have s := Evl.Ex.new (o := XvO (.ref (C 9)) (some dd) er) her
        exact ⟨(L1.same SA).same s, eN.trans (.of (SA.trans s)), er, rfl, dd, upd_same, s _ _ hxd⟩
      rintro er H9 ⟨L9, e9, he9⟩
      have b6 := e9 _ _ b6 (fun _ z => by cases z)
      have al6 := All2.imp al6 fun _ _ h => h.ext e9
      have hx := hx.ext e9
      have hy := hy.ext e9
      obtain ⟨ea, rfl, dd, h1x, h2x⟩ := he9
      refine ⟨_, rfl, ea, C 9, some dd, .ref (C 9), .ref (C 9), true, rfl, h1x, (fun d' e => by cases e; exact ⟨_, h2x⟩), ecs 9 (by decide), .own _, KT.tab 9 9 (by decide) (by decide), _, rfl, ?_⟩
      refine iteF' rfl ⟨_, rfl, ea, C 9, dd, _, x, rfl, h1x, E_BadPiece.xf, E_BadPiece.no, h2x, rfl, ?_⟩
      refine ⟨x, e1, rfl, hx.dg, r1.sh, r1.d40, r1.lnS, ?_⟩
      refine ⟨_, rfl, _, _, rfl, hx.dg, r1.sh, r1.d40, r1.lnS, rfl, _, rfl, iteF' (by rw [decide_eq_true rfl]; rfl) ?_⟩
      clear e9 h1x h2x Lk
      -- those that keep something
      refine ⟨26, rfl, by decide, by decide, fun D hD => ?_⟩
      refine lc_it walk_range (fun k Hm => Same H9 Hm ∧ ∃ vs : List V, Hm D = some (.lst vs) ∧ ErrsAt H9 vs (((tabE C x y).take k).filter fun p => p.2.isSome)) ⟨Evl.Ex.new hD, [], upd_same, .nil⟩ (fun _ _ _ _ => trivial) ?_ ?_
      · rintro k y2 Hn Hm hk ⟨Sm, vs, bD, alv⟩ ⟨rfl, rfl⟩
        have k26 : k < 26 := hk
        obtain ⟨o, ho, hs⟩ := tabE_at (C := C) (x := x) (y := y) k k26
        obtain ⟨er, hek, he⟩ := All2.at' al6 ho
        have vl : vs.length ≤ 26 := by
          rw [All2.len alv]
          exact Nat.le_trans (List.length_filter_le _ _) (by rw [List.length_take, tabE_len]; omega)
        refine ⟨rfl, _, rfl, (by show 3 ≤ sizeLine; decide), fun t ht => ⟨t, _, rfl, .inr (SqT.of upd_same), rfl, rfl, _, rfl, ?_⟩⟩
        have s := Evl.Ex.new (o := .tup [.int 11, .int 20, .int 24]) ht
        rw [if_pos rfl, inP_V k k26, take_at ho, List.filter_append, ← hs]
        refine ite2 (fun h => ?_) (fun h => ?_)
        · rw [filt1 (p := fun p : Addr × Option (List (Str × V)) => p.2.isSome) (x := (C k, o)) h]
          exact ⟨_, rfl, _, rfl, pe, ys, _, er, rfl, rfl, SqL.of (s _ _ (Sm _ _ b6)), (by rw [Int.zero_add]; exact atI_nat hek), vs, s _ _ bD, by rw [sizeLine_eq]; omega, Evl.Ex.mut (Sm.trans s) hD, vs ++ [er], upd_same, All2.snoc alv he⟩
        · rw [filt0 (p := fun p : Addr × Option (List (Str × V)) => p.2.isSome) (x := (C k, o)) h, List.append_nil]
          exact ⟨Sm.trans s, vs, s _ _ bD, alv⟩
      rintro H10 ⟨S10, vs, bD, alv⟩
      have alv : ErrsAt H10 vs (tabN C x y) := by
        rw [show Int.toNat 26 = 26 from rfl, List.take_of_length_le (Nat.le_of_eq tabE_len)] at alv
        exact All2.imp alv fun _ _ h => h.same S10
      have L10 := L9.same S10
      have hx := hx.same S10
      have hy := hy.same S10
      clear L9 S10 al6 b6 hD
      -- what is due
      refine ⟨23, rfl, by decide, by decide, fun D2 hD2 => ?_⟩
      refine lc_it walk_range (fun k Hm => Same H10 Hm ∧ ∃ rs : List Addr, Hm D2 = some (.lst (rs.map V.ref)) ∧ All2 (fun r row => del Hm D2 r = some (.lst row)) rs ((List.range k).map fun j => rowB x y (inD j))) ⟨Evl.Ex.new hD2, [], upd_same, .nil⟩ (fun _ _ _ _ => trivial) ?_ ?_
      · rintro k y2 Hn Hm hk ⟨Sm, rs, bE, alr⟩ ⟨rfl, rfl⟩
        have k23 : k < 23 := hk
        have rl : rs.length = k := by rw [All2.len alr, List.length_map, List.length_range]
        refine ⟨rfl, _, rfl, (by show 2 ≤ sizeLine; decide), fun t ht => ⟨t, _, rfl, .inr (SqT.of upd_same), rfl, rfl, _, rfl, ?_⟩⟩
        have s := Evl.Ex.new (o := .tup [.int 1, .int 6]) ht
        rw [if_neg (by decide), inD_V k k23]
        have fin : ∀ p, upd Hm t (.tup [.int 1, .int 6]) p = none → ∀ row, row = rowB x y (inD k) → ∃ acc, upd (upd Hm t (.tup [.int 1, .int 6])) p (.lst row) D2 = some (.lst acc) ∧ acc.length < sizeLine ∧ Same H10 (upd (upd (upd Hm t (.tup [.int 1, .int 6])) p (.lst row)) D2 (.lst (acc ++ [.ref p]))) ∧
            ∃ rs : List Addr, upd (upd (upd Hm t (.tup [.int 1, .int 6])) p (.lst row)) D2 (.lst (acc ++ [.ref p])) D2 = some (.lst (rs.map V.ref)) ∧ All2 (fun r row' => del (upd (upd (upd Hm t (.tup [.int 1, .int 6])) p (.lst row)) D2 (.lst (acc ++ [.ref p]))) D2 r = some (.lst row')) rs ((List.range (k + 1)).map fun j => rowB x y (inD j)) := by
          rintro p hp row rfl
          have S' := s.trans (Evl.Ex.new (o := .lst (rowB x y (inD k))) hp)
          have ne : p ≠ D2 := fun z => by
            rw [z, s _ _ bE] at hp
            cases hp
          refine ⟨rs.map V.ref, S' _ _ bE, by rw [List.length_map, sizeLine_eq]; omega, Evl.Ex.mut (Sm.trans S') hD2, rs ++ [p], by rw [upd_same, List.map_append]; rfl, ?_⟩
          rw [List.range_succ, List.map_append]
          exact All2.snoc (All2.imp alr fun _ _ h => del_keep S' h) (del_at upd_same ne)
        refine ite2 (fun h => ?_) (fun h => ?_)
        · exact ⟨_, rfl, _, rfl, (by show 2 ≤ sizeLine; decide), fun p hp => fin p hp _ (by rw [h]; rfl)⟩
        · exact ⟨_, rfl, (by show 1 ≤ sizeLine; decide), fun p hp => fin p hp _ (by rw [rowB, if_neg h])⟩
      rintro H11 ⟨S11, rs, bE, alr⟩
      have alr : All2 (fun r row => H11 r = some (.lst row)) rs (keptR x y) := All2.imp alr fun _ _ h => del_sub _ _ h
      have rk := rg_kept r1 r2
      refine ⟨_, rfl, D, vs, x, y, rfl, S11 _ _ bD, All2.imp alv (fun _ _ h => h.same S11), fun p1 rs1 H12 S12 _ b12 al12 => ?_⟩
      have S12' := S11.trans S12
      refine ⟨_, _, rfl, (vd_kept (hx.same S12') (hy.same S12') b12 al12).dg, rk.sh, rk.d40, rk.lnS, ?_⟩
      refine ⟨_, rfl, _, _, rfl, (vd_kept (hx.same S12') (hy.same S12') (S12 _ _ bE) (All2.imp alr fun _ _ h => S12 _ _ h)).dg, rk.sh, rk.d40, rk.lnS, rfl, _, rfl, iteF' (by rw [decide_eq_true rfl]; rfl) ?_⟩
      refine ⟨_, rfl, _, rfl, x, y, rfl, fun p2 zs H13 S13 _ b13 al13 => ⟨p2, zs, x, y, rfl, b13, al13, fun p3 rs3 H14 S14 _ b14 al14 => ?_⟩⟩
      have S14' := S12'.trans (S13.trans S14)
      have s14 := S12.trans (S13.trans S14)
      refine ⟨_, _, rfl, (vd_kept (hx.same S14') (hy.same S14') b14 al14).dg, rk.sh, rk.d40, rk.lnS, ?_⟩
      refine ⟨_, rfl, _, _, rfl, (vd_kept (hx.same S14') (hy.same S14') (s14 _ _ bE) (All2.imp alr fun _ _ h => s14 _ _ h)).dg, rk.sh, rk.d40, rk.lnS, rfl, _, rfl, iteF' (by rw [decide_eq_true rfl]; rfl) ?_⟩
      exact ⟨(L10.same S14').dr.mono (by omega), (L10.same S14').tb, _, _, _, _, _, _, _, _, _, _, rfl⟩
    · intro σ Hf _
      refine fun ea hea => ?_
      exact ⟨ea, CP, none, .ref (C 0), .ref (C 0), false, rfl, upd_same, (fun dd e => by cases e), E_PrintError.ec, .own _, kPF, _, rfl, q _⟩
end
end WP
namespace WP
open PySem L2
theorem fin {K : PySem.W.Frag} {h : Heap} {w : World} {mg : Str → Option Value} {fa : Addr} {CP : Addr} {C_BadFile : Addr} {C_BadSite : Addr} {C_NoFile : Addr} {C_NotEntry : Addr} {C_IsEntry : Addr} {C_NotPlain : Addr} {C_NotTogether : Addr} {C_BadChanges : Addr} {C_NoContents : Addr} {C_BadPiece : Addr} {C_BadKinds : Addr} {C_BadSteps : Addr} {C_BadDeed : Addr} {C_BadHistory : Addr} {C_NoCache : Addr} {C_NoReader : Addr} {C_BadTicks : Addr} {C_BadRule : Addr} {C_NoFault : Addr} {C_BadOrder : Addr} {C_BadNumber : Addr} {C_BadPrices : Addr} {C_BadWanted : Addr} {C_Barred : Addr} {C_NothingLeft : Addr} {C_BadText : Addr} {fL cl Pt : Addr} (X : K.In h) (G : h.Ns mainGlobals mg) (hfa : mg "law" = some (.ref fa))
    (BB : BiK K) (Pk : PrintK K CP) (x_PrintError : ExcF K CP "PrintError" CP)
    (n_PrintError : PySem.W.excIn K CP [.type "ValueError", .type "Exception", .type "BaseException", .type "object"] "ValueError.__new__" = true) (x_BadFile : ExcF K CP "BadFile" C_BadFile) (i_BadFile : InitF K C_BadFile s_BadFile___init__ "BadFile.__init__")
    (o_BadFile_part : PySem.W.findIn K (.ref C_BadFile) "part" = some none) (x_BadSite : ExcF K CP "BadSite" C_BadSite) (i_BadSite : InitF K C_BadSite s_BadSite___init__ "BadSite.__init__")
    (o_BadSite_part : PySem.W.findIn K (.ref C_BadSite) "part" = some none) (o_BadSite_name : PySem.W.findIn K (.ref C_BadSite) "name" = some none) (x_NoFile : ExcF K CP "NoFile" C_NoFile)
    (i_NoFile : InitF K C_NoFile s_NoFile___init__ "NoFile.__init__") (o_NoFile_name : PySem.W.findIn K (.ref C_NoFile) "name" = some none) (x_NotEntry : ExcF K CP "NotEntry" C_NotEntry)
    (i_NotEntry : InitF K C_NotEntry s_NotEntry___init__ "NotEntry.__init__") (o_NotEntry_name : PySem.W.findIn K (.ref C_NotEntry) "name" = some none) (x_IsEntry : ExcF K CP "IsEntry" C_IsEntry)
    (i_IsEntry : InitF K C_IsEntry s_IsEntry___init__ "IsEntry.__init__") (o_IsEntry_name : PySem.W.findIn K (.ref C_IsEntry) "name" = some none) (x_NotPlain : ExcF K CP "NotPlain" C_NotPlain)
    (i_NotPlain : InitF K C_NotPlain s_NotPlain___init__ "NotPlain.__init__") (o_NotPlain_name : PySem.W.findIn K (.ref C_NotPlain) "name" = some none) (x_NotTogether : ExcF K CP "NotTogether" C_NotTogether)
    (i_NotTogether : InitF K C_NotTogether s_NotTogether___init__ "NotTogether.__init__") (o_NotTogether_one : PySem.W.findIn K (.ref C_NotTogether) "one" = some none) (o_NotTogether_other : PySem.W.findIn K (.ref C_NotTogether) "other" = some none)
    (x_BadChanges : ExcF K CP "BadChanges" C_BadChanges) (i_BadChanges : InitF K C_BadChanges s_BadChanges___init__ "BadChanges.__init__") (o_BadChanges_at : PySem.W.findIn K (.ref C_BadChanges) "at" = some none)
    (x_NoContents : ExcF K CP "NoContents" C_NoContents) (i_NoContents : InitF K C_NoContents s_NoContents___init__ "NoContents.__init__") (o_NoContents_number : PySem.W.findIn K (.ref C_NoContents) "number" = some none)
    (x_BadPiece : ExcF K CP "BadPiece" C_BadPiece) (i_BadPiece : InitF K C_BadPiece s_BadPiece___init__ "BadPiece.__init__") (o_BadPiece_name : PySem.W.findIn K (.ref C_BadPiece) "name" = some none)
    (x_BadKinds : ExcF K CP "BadKinds" C_BadKinds) (i_BadKinds : InitF K C_BadKinds s_BadKinds___init__ "BadKinds.__init__") (o_BadKinds_at : PySem.W.findIn K (.ref C_BadKinds) "at" = some none)
    (x_BadSteps : ExcF K CP "BadSteps" C_BadSteps) (n_BadSteps : PySem.W.excIn K C_BadSteps [.type "ValueError", .type "Exception", .type "BaseException", .type "object"] "ValueError.__new__" = true) (x_BadDeed : ExcF K CP "BadDeed" C_BadDeed)
    (i_BadDeed : InitF K C_BadDeed s_BadDeed___init__ "BadDeed.__init__") (o_BadDeed_deed : PySem.W.findIn K (.ref C_BadDeed) "deed" = some none) (x_BadHistory : ExcF K CP "BadHistory" C_BadHistory)
    (i_BadHistory : InitF K C_BadHistory s_BadHistory___init__ "BadHistory.__init__") (o_BadHistory_at : PySem.W.findIn K (.ref C_BadHistory) "at" = some none) (x_NoCache : ExcF K CP "NoCache" C_NoCache)
    (i_NoCache : InitF K C_NoCache s_NoCache___init__ "NoCache.__init__") (o_NoCache_number : PySem.W.findIn K (.ref C_NoCache) "number" = some none) (x_NoReader : ExcF K CP "NoReader" C_NoReader)
    (i_NoReader : InitF K C_NoReader s_NoReader___init__ "NoReader.__init__") (o_NoReader_number : PySem.W.findIn K (.ref C_NoReader) "number" = some none) (x_BadTicks : ExcF K CP "BadTicks" C_BadTicks)
    (i_BadTicks : InitF K C_BadTicks s_BadTicks___init__ "BadTicks.__init__") (o_BadTicks_at : PySem.W.findIn K (.ref C_BadTicks) "at" = some none) (x_BadRule : ExcF K CP "BadRule" C_BadRule)
    (i_BadRule : InitF K C_BadRule s_BadRule___init__ "BadRule.__init__") (o_BadRule_part : PySem.W.findIn K (.ref C_BadRule) "part" = some none) (x_NoFault : ExcF K CP "NoFault" C_NoFault)
    (i_NoFault : InitF K C_NoFault s_NoFault___init__ "NoFault.__init__") (o_NoFault_fault : PySem.W.findIn K (.ref C_NoFault) "fault" = some none) (x_BadOrder : ExcF K CP "BadOrder" C_BadOrder)
    (i_BadOrder : InitF K C_BadOrder s_BadOrder___init__ "BadOrder.__init__") (o_BadOrder_name : PySem.W.findIn K (.ref C_BadOrder) "name" = some none) (x_BadNumber : ExcF K CP "BadNumber" C_BadNumber)
    (n_BadNumber : PySem.W.excIn K C_BadNumber [.type "ValueError", .type "Exception", .type "BaseException", .type "object"] "ValueError.__new__" = true) (x_BadPrices : ExcF K CP "BadPrices" C_BadPrices) (i_BadPrices : InitF K C_BadPrices s_BadPrices___init__ "BadPrices.__init__")
    (o_BadPrices_name : PySem.W.findIn K (.ref C_BadPrices) "name" = some none) (x_BadWanted : ExcF K CP "BadWanted" C_BadWanted) (i_BadWanted : InitF K C_BadWanted s_BadWanted___init__ "BadWanted.__init__")
    (o_BadWanted_at : PySem.W.findIn K (.ref C_BadWanted) "at" = some none) (x_Barred : ExcF K CP "Barred" C_Barred) (i_Barred : InitF K C_Barred s_Barred___init__ "Barred.__init__")
    (o_Barred_word : PySem.W.findIn K (.ref C_Barred) "word" = some none) (x_NothingLeft : ExcF K CP "NothingLeft" C_NothingLeft) (n_NothingLeft : PySem.W.excIn K C_NothingLeft [.type "ValueError", .type "Exception", .type "BaseException", .type "object"] "ValueError.__new__" = true)
    (x_BadText : ExcF K CP "BadText" C_BadText) (i_BadText : InitF K C_BadText s_BadText___init__ "BadText.__init__") (o_BadText_line : PySem.W.findIn K (.ref C_BadText) "line" = some none)
    (d__law_begun : DefK K "_law_begun" s__law_begun) (d__law_blend : DefK K "_law_blend" s__law_blend) (d__law_take : DefK K "_law_take" s__law_take)
    (d__law_pick : DefK K "_law_pick" s__law_pick) (kt : kitTab K [C_BadFile, C_BadSite, C_NoFile, C_NotEntry, C_IsEntry, C_NotPlain, C_NotTogether, C_BadChanges, C_NoContents, C_BadPiece, C_BadKinds, C_BadSteps, C_BadDeed, C_BadHistory, C_NoCache, C_NoReader, C_BadTicks, C_BadRule, C_NoFault, C_BadOrder, C_BadNumber, C_BadPrices, C_BadWanted, C_Barred, C_NothingLeft, C_BadText] CP = true) (kPF : PySem.W.kitOne K (.ref CP) (.ref C_BadFile) = some false)
    (ng_ValueError : PySem.W.nsIn K mainGlobals "ValueError" = some none) (d__law_caught : DefK K "_law_caught" s__law_caught) (d__law_odd : DefK K "_law_odd" s__law_odd)
    (d__law_errors : DefK K "_law_errors" s__law_errors) (d__law_named_errors : DefK K "_law_named_errors" s__law_named_errors) (d__law_kept : DefK K "_law_kept" s__law_kept)
    (d__law_marks : DefK K "_law_marks" s__law_marks) (d__law_thrown : DefK K "_law_thrown" s__law_thrown) (LK : LamK K h s_law fL cl Pt)
    : LawG PySem.Challenge.rw_wholeprint_k01_errors_made w K 9 63 "_law_script" mg fa h := by
  obtain ⟨f__law_begun, p__law_begun, a__law_begun, k__law_begun, F__law_begun⟩ := d__law_begun
  obtain ⟨f__law_blend, p__law_blend, a__law_blend, k__law_blend, F__law_blend⟩ := d__law_blend
  obtain ⟨f__law_take, p__law_take, a__law_take, k__law_take, F__law_take⟩ := d__law_take
  obtain ⟨f__law_pick, p__law_pick, a__law_pick, k__law_pick, F__law_pick⟩ := d__law_pick
  obtain ⟨f__law_caught, p__law_caught, a__law_caught, k__law_caught, F_caught⟩ := d__law_caught
  obtain ⟨f__law_odd, p__law_odd, a__law_odd, k__law_odd, F__law_odd⟩ := d__law_odd
  obtain ⟨f__law_errors, p__law_errors, a__law_errors, k__law_errors, F__law_errors⟩ := d__law_errors
  obtain ⟨f__law_named_errors, p__law_named_errors, a__law_named_errors, k__law_named_errors, F__law_named_errors⟩ := d__law_named_errors
  obtain ⟨f__law_kept, p__law_kept, a__law_kept, k__law_kept, F__law_kept⟩ := d__law_kept
  obtain ⟨f__law_marks, p__law_marks, a__law_marks, k__law_marks, F__law_marks⟩ := d__law_marks
  obtain ⟨f__law_thrown, p__law_thrown, a__law_thrown, k__law_thrown, F__law_thrown⟩ := d__law_thrown
  obtain ⟨⟨p_law, F_law, hfc, a_law⟩, hHd, hNo, hTb⟩ := LK
  cases hfa.symm.trans (PySem.W.mg_of X G a_law)
  refine ⟨p_law, [(cl, Pt)], spLaw K [(Pt, lamQL)], (fun p hp => by rw [List.mem_singleton.mp hp]; exact hTb), (fun p hp => by rw [List.mem_singleton.mp hp]; exact hNo), (fun p hp => by rw [List.mem_singleton.mp hp]; exact hHd), ?_, fun H a ns hl hT hS => ⟨a, ns, rfl, hS, hl, fun p hp => (by rw [List.mem_singleton.mp hp]; exact .nil (hT _ (List.mem_singleton.mpr rfl))), fun _ => rfl⟩, fun base _ _ hTB => ?_⟩
  · intro s u
    obtain ⟨oc, od, kV, doc, pm, an, cdv, ct, osl, rfl, lk, hcd⟩ := F_law.ex
    exact .of_eq rfl
  have TB := hTB _ (List.mem_singleton.mpr rfl)
  have T := BB.bi X G
  have M_PrintError : mg "PrintError" = some (.ref CP) := PySem.W.mg_of X G Pk.ns
  have E_PrintError : Err0 K mg CP "PrintError" CP := x_PrintError.err0 X G Pk n_PrintError
  have G_BadFile : mg "BadFile" = some (.ref C_BadFile) := PySem.W.mg_of X G x_BadFile.ns
  have E_BadFile : Err1 PySem.Challenge.rw_wholeprint_k01_errors_made.prog w K mg base CP "BadFile" C_BadFile "part" := x_BadFile.err1 X G Pk i_BadFile o_BadFile_part (fun f fd F => ok_init1 F sc_BadFile___init__ rfl rfl rfl (by decide) (by decide) i_BadFile.T o_BadFile_part) fun f fd F => F.binds fun _ _ _ _ _ _ us hl => match us, hl with | [_, _], _ => rfl
  have G_BadSite : mg "BadSite" = some (.ref C_BadSite) := PySem.W.mg_of X G x_BadSite.ns
  have E_BadSite : Err2 PySem.Challenge.rw_wholeprint_k01_errors_made.prog w K mg base CP "BadSite" C_BadSite "part" "name" := x_BadSite.err2 X G Pk i_BadSite o_BadSite_part o_BadSite_name (fun f fd F => ok_init2 F sc_BadSite___init__ rfl rfl rfl rfl (by decide) (by decide) (by decide) (by decide) i_BadSite.T o_BadSite_part o_BadSite_name) fun f fd F => F.binds fun _ _ _ _ _ _ us hl => match us, hl with | [_, _, _], _ => rfl
  have G_NoFile : mg "NoFile" = some (.ref C_NoFile) := PySem.W.mg_of X G x_NoFile.ns
  have E_NoFile : Err1 PySem.Challenge.rw_wholeprint_k01_errors_made.prog w K mg base CP "NoFile" C_NoFile "name" := x_NoFile.err1 X G Pk i_NoFile o_NoFile_name (fun f fd F => ok_init1 F sc_NoFile___init__ rfl rfl rfl (by decide) (by decide) i_NoFile.T o_NoFile_name) fun f fd F => F.binds fun _ _ _ _ _ _ us hl => match us, hl with | [_, _], _ => rfl
  have G_NotEntry : mg "NotEntry" = some (.ref C_NotEntry) := PySem.W.mg_of X G x_NotEntry.ns
  have E_NotEntry : Err1 PySem.Challenge.rw_wholeprint_k01_errors_made.prog w K mg base CP "NotEntry" C_NotEntry "name" := x_NotEntry.err1 X G Pk i_NotEntry o_NotEntry_name (fun f fd F => ok_init1 F sc_NotEntry___init__ rfl rfl rfl (by decide) (by decide) i_NotEntry.T o_NotEntry_name) fun f fd F => F.binds fun _ _ _ _ _ _ us hl => match us, hl with | [_, _], _ => rfl
  have G_IsEntry : mg "IsEntry" = some (.ref C_IsEntry) := PySem.W.mg_of X G x_IsEntry.ns
  have E_IsEntry : Err1 PySem.Challenge.rw_wholeprint_k01_errors_made.prog w K mg base CP "IsEntry" C_IsEntry "name" := x_IsEntry.err1 X G Pk i_IsEntry o_IsEntry_name (fun f fd F => ok_init1 F sc_IsEntry___init__ rfl rfl rfl (by decide) (by decide) i_IsEntry.T o_IsEntry_name) fun f fd F => F.binds fun _ _ _ _ _ _ us hl => match us, hl with | [_, _], _ => rfl
  have G_NotPlain : mg "NotPlain" = some (.ref C_NotPlain) := PySem.W.mg_of X G x_NotPlain.ns
  have E_NotPlain : Err1 PySem.Challenge.rw_wholeprint_k01_errors_made.prog w K mg base CP "NotPlain" C_NotPlain "name" := x_NotPlain.err1 X G Pk i_NotPlain o_NotPlain_name (fun f fd F => ok_init1 F sc_NotPlain___init__ rfl rfl rfl (by decide) (by decide) i_NotPlain.T o_NotPlain_name) fun f fd F => F.binds fun _ _ _ _ _ _ us hl => match us, hl with | [_, _], _ => rfl
  have G_NotTogether : mg "NotTogether" = some (.ref C_NotTogether) := PySem.W.mg_of X G x_NotTogether.ns
  have E_NotTogether : Err2 PySem.Challenge.rw_wholeprint_k01_errors_made.prog w K mg base CP "NotTogether" C_NotTogether "one" "other" := x_NotTogether.err2 X G Pk i_NotTogether o_NotTogether_one o_NotTogether_other (fun f fd F => ok_init2 F sc_NotTogether___init__ rfl rfl rfl rfl (by decide) (by decide) (by decide) (by decide) i_NotTogether.T o_NotTogether_one o_NotTogether_other) fun f fd F => F.binds fun _ _ _ _ _ _ us hl => match us, hl with | [_, _, _], _ => rfl
  have G_BadChanges : mg "BadChanges" = some (.ref C_BadChanges) := PySem.W.mg_of X G x_BadChanges.ns
  have E_BadChanges : Err1 PySem.Challenge.rw_wholeprint_k01_errors_made.prog w K mg base CP "BadChanges" C_BadChanges "at" := x_BadChanges.err1 X G Pk i_BadChanges o_BadChanges_at (fun f fd F => ok_init1 F sc_BadChanges___init__ rfl rfl rfl (by decide) (by decide) i_BadChanges.T o_BadChanges_at) fun f fd F => F.binds fun _ _ _ _ _ _ us hl => match us, hl with | [_, _], _ => rfl
  have G_NoContents : mg "NoContents" = some (.ref C_NoContents) := PySem.W.mg_of X G x_NoContents.ns
  have E_NoContents : Err1 PySem.Challenge.rw_wholeprint_k01_errors_made.prog w K mg base CP "NoContents" C_NoContents "number" := x_NoContents.err1 X G Pk i_NoContents o_NoContents_number (fun f fd F => ok_init1 F sc_NoContents___init__ rfl rfl rfl (by decide) (by decide) i_NoContents.T o_NoContents_number) fun f fd F => F.binds fun _ _ _ _ _ _ us hl => match us, hl with | [_, _], _ => rfl
  have G_BadPiece : mg "BadPiece" = some (.ref C_BadPiece) := PySem.W.mg_of X G x_BadPiece.ns
  have E_BadPiece : Err1 PySem.Challenge.rw_wholeprint_k01_errors_made.prog w K mg base CP "BadPiece" C_BadPiece "name" := x_BadPiece.err1 X G Pk i_BadPiece o_BadPiece_name (fun f fd F => ok_init1 F sc_BadPiece___init__ rfl rfl rfl (by decide) (by decide) i_BadPiece.T o_BadPiece_name) fun f fd F => F.binds fun _ _ _ _ _ _ us hl => match us, hl with | [_, _], _ => rfl
  have G_BadKinds : mg "BadKinds" = some (.ref C_BadKinds) := PySem.W.mg_of X G x_BadKinds.ns
  have E_BadKinds : Err1 PySem.Challenge.rw_wholeprint_k01_errors_made.prog w K mg base CP "BadKinds" C_BadKinds "at" := x_BadKinds.err1 X G Pk i_BadKinds o_BadKinds_at (fun f fd F => ok_init1 F sc_BadKinds___init__ rfl rfl rfl (by decide) (by decide) i_BadKinds.T o_BadKinds_at) fun f fd F => F.binds fun _ _ _ _ _ _ us hl => match us, hl with | [_, _], _ => rfl
  have G_BadSteps : mg "BadSteps" = some (.ref C_BadSteps) := PySem.W.mg_of X G x_BadSteps.ns
  have E_BadSteps : Err0 K mg CP "BadSteps" C_BadSteps := x_BadSteps.err0 X G Pk n_BadSteps
  have G_BadDeed : mg "BadDeed" = some (.ref C_BadDeed) := PySem.W.mg_of X G x_BadDeed.ns
  have E_BadDeed : Err1 PySem.Challenge.rw_wholeprint_k01_errors_made.prog w K mg base CP "BadDeed" C_BadDeed "deed" := x_BadDeed.err1 X G Pk i_BadDeed o_BadDeed_deed (fun f fd F => ok_init1 F sc_BadDeed___init__ rfl rfl rfl (by decide) (by decide) i_BadDeed.T o_BadDeed_deed) fun f fd F => F.binds fun _ _ _ _ _ _ us hl => match us, hl with | [_, _], _ => rfl
  have G_BadHistory : mg "BadHistory" = some (.ref C_BadHistory) := PySem.W.mg_of X G x_BadHistory.ns
  have E_BadHistory : Err1 PySem.Challenge.rw_wholeprint_k01_errors_made.prog w K mg base CP "BadHistory" C_BadHistory "at" := x_BadHistory.err1 X G Pk i_BadHistory o_BadHistory_at (fun f fd F => ok_init1 F sc_BadHistory___init__ rfl rfl rfl (by decide) (by decide) i_BadHistory.T o_BadHistory_at) fun f fd F => F.binds fun _ _ _ _ _ _ us hl => match us, hl with | [_, _], _ => rfl
  have G_NoCache : mg "NoCache" = some (.ref C_NoCache) := PySem.W.mg_of X G x_NoCache.ns
  have E_NoCache : Err1 PySem.Challenge.rw_wholeprint_k01_errors_made.prog w K mg base CP "NoCache" C_NoCache "number" := x_NoCache.err1 X G Pk i_NoCache o_NoCache_number (fun f fd F => ok_init1 F sc_NoCache___init__ rfl rfl rfl (by decide) (by decide) i_NoCache.T o_NoCache_number) fun f fd F => F.binds fun _ _ _ _ _ _ us hl => match us, hl with | [_, _], _ => rfl
  have G_NoReader : mg "NoReader" = some (.ref C_NoReader) := PySem.W.mg_of X G x_NoReader.ns
  have E_NoReader : Err1 PySem.Challenge.rw_wholeprint_k01_errors_made.prog w K mg base CP "NoReader" C_NoReader "number" := x_NoReader.err1 X G Pk i_NoReader o_NoReader_number (fun f fd F => ok_init1 F sc_NoReader___init__ rfl rfl rfl (by decide) (by decide) i_NoReader.T o_NoReader_number) fun f fd F => F.binds fun _ _ _ _ _ _ us hl => match us, hl with | [_, _], _ => rfl
  have G_BadTicks : mg "BadTicks" = some (.ref C_BadTicks) := PySem.W.mg_of X G x_BadTicks.ns
  have E_BadTicks : Err1 PySem.Challenge.rw_wholeprint_k01_errors_made.prog w K mg base CP "BadTicks" C_BadTicks "at" := x_BadTicks.err1 X G Pk i_BadTicks o_BadTicks_at (fun f fd F => ok_init1 F sc_BadTicks___init__ rfl rfl rfl (by decide) (by decide) i_BadTicks.T o_BadTicks_at) fun f fd F => F.binds fun _ _ _ _ _ _ us hl => match us, hl with | [_, _], _ => rfl
  have G_BadRule : mg "BadRule" = some (.ref C_BadRule) := PySem.W.mg_of X G x_BadRule.ns
  have E_BadRule : Err1 PySem.Challenge.rw_wholeprint_k01_errors_made.prog w K mg base CP "BadRule" C_BadRule "part" := x_BadRule.err1 X G Pk i_BadRule o_BadRule_part (fun f fd F => ok_init1 F sc_BadRule___init__ rfl rfl rfl (by decide) (by decide) i_BadRule.T o_BadRule_part) fun f fd F => F.binds fun _ _ _ _ _ _ us hl => match us, hl with | [_, _], _ => rfl
  have G_NoFault : mg "NoFault" = some (.ref C_NoFault) := PySem.W.mg_of X G x_NoFault.ns
  have E_NoFault : Err1 PySem.Challenge.rw_wholeprint_k01_errors_made.prog w K mg base CP "NoFault" C_NoFault "fault" := x_NoFault.err1 X G Pk i_NoFault o_NoFault_fault (fun f fd F => ok_init1 F sc_NoFault___init__ rfl rfl rfl (by decide) (by decide) i_NoFault.T o_NoFault_fault) fun f fd F => F.binds fun _ _ _ _ _ _ us hl => match us, hl with | [_, _], _ => rfl
  have G_BadOrder : mg "BadOrder" = some (.ref C_BadOrder) := PySem.W.mg_of X G x_BadOrder.ns
  have E_BadOrder : Err1 PySem.Challenge.rw_wholeprint_k01_errors_made.prog w K mg base CP "BadOrder" C_BadOrder "name" := x_BadOrder.err1 X G Pk i_BadOrder o_BadOrder_name (fun f fd F => ok_init1 F sc_BadOrder___init__ rfl rfl rfl (by decide) (by decide) i_BadOrder.T o_BadOrder_name) fun f fd F => F.binds fun _ _ _ _ _ _ us hl => match us, hl with | [_, _], _ => rfl
  have G_BadNumber : mg "BadNumber" = some (.ref C_BadNumber) := PySem.W.mg_of X G x_BadNumber.ns
  have E_BadNumber : Err0 K mg CP "BadNumber" C_BadNumber := x_BadNumber.err0 X G Pk n_BadNumber
  have G_BadPrices : mg "BadPrices" = some (.ref C_BadPrices) := PySem.W.mg_of X G x_BadPrices.ns
  have E_BadPrices : Err1 PySem.Challenge.rw_wholeprint_k01_errors_made.prog w K mg base CP "BadPrices" C_BadPrices "name" := x_BadPrices.err1 X G Pk i_BadPrices o_BadPrices_name (fun f fd F => ok_init1 F sc_BadPrices___init__ rfl rfl rfl (by decide) (by decide) i_BadPrices.T o_BadPrices_name) fun f fd F => F.binds fun _ _ _ _ _ _ us hl => match us, hl with | [_, _], _ => rfl
  have G_BadWanted : mg "BadWanted" = some (.ref C_BadWanted) := PySem.W.mg_of X G x_BadWanted.ns
  have E_BadWanted : Err1 PySem.Challenge.rw_wholeprint_k01_errors_made.prog w K mg base CP "BadWanted" C_BadWanted "at" := x_BadWanted.err1 X G Pk i_BadWanted o_BadWanted_at (fun f fd F => ok_init1 F sc_BadWanted___init__ rfl rfl rfl (by decide) (by decide) i_BadWanted.T o_BadWanted_at) fun f fd F => F.binds fun _ _ _ _ _ _ us hl => match us, hl with | [_, _], _ => rfl
  have G_Barred : mg "Barred" = some (.ref C_Barred) := PySem.W.mg_of X G x_Barred.ns
  have E_Barred : Err1 PySem.Challenge.rw_wholeprint_k01_errors_made.prog w K mg base CP "Barred" C_Barred "word" := x_Barred.err1 X G Pk i_Barred o_Barred_word (fun f fd F => ok_init1 F sc_Barred___init__ rfl rfl rfl (by decide) (by decide) i_Barred.T o_Barred_word) fun f fd F => F.binds fun _ _ _ _ _ _ us hl => match us, hl with | [_, _], _ => rfl
  have G_NothingLeft : mg "NothingLeft" = some (.ref C_NothingLeft) := PySem.W.mg_of X G x_NothingLeft.ns
  have E_NothingLeft : Err0 K mg CP "NothingLeft" C_NothingLeft := x_NothingLeft.err0 X G Pk n_NothingLeft
  have G_BadText : mg "BadText" = some (.ref C_BadText) := PySem.W.mg_of X G x_BadText.ns
  have E_BadText : Err1 PySem.Challenge.rw_wholeprint_k01_errors_made.prog w K mg base CP "BadText" C_BadText "line" := x_BadText.err1 X G Pk i_BadText o_BadText_line (fun f fd F => ok_init1 F sc_BadText___init__ rfl rfl rfl (by decide) (by decide) i_BadText.T o_BadText_line) fun f fd F => F.binds fun _ _ _ _ _ _ us hl => match us, hl with | [_, _], _ => rfl
  have EK_BadFile : Err1K PySem.Challenge.rw_wholeprint_k01_errors_made.prog w K mg base "BadFile" C_BadFile "part" := i_BadFile.err1K G_BadFile (fun f fd F => ok_init1 F sc_BadFile___init__ rfl rfl rfl (by decide) (by decide) i_BadFile.T o_BadFile_part) fun _ _ _ _ _ _ us ws h1 h2 => match us, h1, ws, h2 with | [_], _, [_], _ => rfl
  have EK_BadSite : Err2K PySem.Challenge.rw_wholeprint_k01_errors_made.prog w K mg base "BadSite" C_BadSite "part" "name" ["name", "part"] rev2 := i_BadSite.err2K G_BadSite (fun f fd F => ok_init2 F sc_BadSite___init__ rfl rfl rfl rfl (by decide) (by decide) (by decide) (by decide) i_BadSite.T o_BadSite_part o_BadSite_name) fun _ _ _ _ _ _ us ws h1 h2 => match us, h1, ws, h2 with | [_], _, [_, _], _ => rfl
  have EK_NoFile : Err1K PySem.Challenge.rw_wholeprint_k01_errors_made.prog w K mg base "NoFile" C_NoFile "name" := i_NoFile.err1K G_NoFile (fun f fd F => ok_init1 F sc_NoFile___init__ rfl rfl rfl (by decide) (by decide) i_NoFile.T o_NoFile_name) fun _ _ _ _ _ _ us ws h1 h2 => match us, h1, ws, h2 with | [_], _, [_], _ => rfl
  have EK_NotEntry : Err1K PySem.Challenge.rw_wholeprint_k01_errors_made.prog w K mg base "NotEntry" C_NotEntry "name" := i_NotEntry.err1K G_NotEntry (fun f fd F => ok_init1 F sc_NotEntry___init__ rfl rfl rfl (by decide) (by decide) i_NotEntry.T o_NotEntry_name) fun _ _ _ _ _ _ us ws h1 h2 => match us, h1, ws, h2 with | [_], _, [_], _ => rfl
  have EK_IsEntry : Err1K PySem.Challenge.rw_wholeprint_k01_errors_made.prog w K mg base "IsEntry" C_IsEntry "name" := i_IsEntry.err1K G_IsEntry (fun f fd F => ok_init1 F sc_IsEntry___init__ rfl rfl rfl (by decide) (by decide) i_IsEntry.T o_IsEntry_name) fun _ _ _ _ _ _ us ws h1 h2 => match us, h1, ws, h2 with | [_], _, [_], _ => rfl
  have EK_NotPlain : Err1K PySem.Challenge.rw_wholeprint_k01_errors_made.prog w K mg base "NotPlain" C_NotPlain "name" := i_NotPlain.err1K G_NotPlain (fun f fd F => ok_init1 F sc_NotPlain___init__ rfl rfl rfl (by decide) (by decide) i_NotPlain.T o_NotPlain_name) fun _ _ _ _ _ _ us ws h1 h2 => match us, h1, ws, h2 with | [_], _, [_], _ => rfl
  have EK_NotTogether : Err2K PySem.Challenge.rw_wholeprint_k01_errors_made.prog w K mg base "NotTogether" C_NotTogether "one" "other" ["other", "one"] rev2 := i_NotTogether.err2K G_NotTogether (fun f fd F => ok_init2 F sc_NotTogether___init__ rfl rfl rfl rfl (by decide) (by decide) (by decide) (by decide) i_NotTogether.T o_NotTogether_one o_NotTogether_other) fun _ _ _ _ _ _ us ws h1 h2 => match us, h1, ws, h2 with | [_], _, [_, _], _ => rfl
  have EK_BadChanges : Err1K PySem.Challenge.rw_wholeprint_k01_errors_made.prog w K mg base "BadChanges" C_BadChanges "at" := i_BadChanges.err1K G_BadChanges (fun f fd F => ok_init1 F sc_BadChanges___init__ rfl rfl rfl (by decide) (by decide) i_BadChanges.T o_BadChanges_at) fun _ _ _ _ _ _ us ws h1 h2 => match us, h1, ws, h2 with | [_], _, [_], _ => rfl
  have EK_NoContents : Err1K PySem.Challenge.rw_wholeprint_k01_errors_made.prog w K mg base "NoContents" C_NoContents "number" := i_NoContents.err1K G_NoContents (fun f fd F => ok_init1 F sc_NoContents___init__ rfl rfl rfl (by decide) (by decide) i_NoContents.T o_NoContents_number) fun _ _ _ _ _ _ us ws h1 h2 => match us, h1, ws, h2 with | [_], _, [_], _ => rfl
  have EK_BadPiece : Err1K PySem.Challenge.rw_wholeprint_k01_errors_made.prog w K mg base "BadPiece" C_BadPiece "name" := i_BadPiece.err1K G_BadPiece (fun f fd F => ok_init1 F sc_BadPiece___init__ rfl rfl rfl (by decide) (by decide) i_BadPiece.T o_BadPiece_name) fun _ _ _ _ _ _ us ws h1 h2 => match us, h1, ws, h2 with | [_], _, [_], _ => rfl
  have EK_BadKinds : Err1K PySem.Challenge.rw_wholeprint_k01_errors_made.prog w K mg base "BadKinds" C_BadKinds "at" := i_BadKinds.err1K G_BadKinds (fun f fd F => ok_init1 F sc_BadKinds___init__ rfl rfl rfl (by decide) (by decide) i_BadKinds.T o_BadKinds_at) fun _ _ _ _ _ _ us ws h1 h2 => match us, h1, ws, h2 with | [_], _, [_], _ => rfl
  have EK_BadDeed : Err1K PySem.Challenge.rw_wholeprint_k01_errors_made.prog w K mg base "BadDeed" C_BadDeed "deed" := i_BadDeed.err1K G_BadDeed (fun f fd F => ok_init1 F sc_BadDeed___init__ rfl rfl rfl (by decide) (by decide) i_BadDeed.T o_BadDeed_deed) fun _ _ _ _ _ _ us ws h1 h2 => match us, h1, ws, h2 with | [_], _, [_], _ => rfl
  have EK_BadHistory : Err1K PySem.Challenge.rw_wholeprint_k01_errors_made.prog w K mg base "BadHistory" C_BadHistory "at" := i_BadHistory.err1K G_BadHistory (fun f fd F => ok_init1 F sc_BadHistory___init__ rfl rfl rfl (by decide) (by decide) i_BadHistory.T o_BadHistory_at) fun _ _ _ _ _ _ us ws h1 h2 => match us, h1, ws, h2 with | [_], _, [_], _ => rfl
  have EK_NoCache : Err1K PySem.Challenge.rw_wholeprint_k01_errors_made.prog w K mg base "NoCache" C_NoCache "number" := i_NoCache.err1K G_NoCache (fun f fd F => ok_init1 F sc_NoCache___init__ rfl rfl rfl (by decide) (by decide) i_NoCache.T o_NoCache_number) fun _ _ _ _ _ _ us ws h1 h2 => match us, h1, ws, h2 with | [_], _, [_], _ => rfl
  have EK_NoReader : Err1K PySem.Challenge.rw_wholeprint_k01_errors_made.prog w K mg base "NoReader" C_NoReader "number" := i_NoReader.err1K G_NoReader (fun f fd F => ok_init1 F sc_NoReader___init__ rfl rfl rfl (by decide) (by decide) i_NoReader.T o_NoReader_number) fun _ _ _ _ _ _ us ws h1 h2 => match us, h1, ws, h2 with | [_], _, [_], _ => rfl
  have EK_BadTicks : Err1K PySem.Challenge.rw_wholeprint_k01_errors_made.prog w K mg base "BadTicks" C_BadTicks "at" := i_BadTicks.err1K G_BadTicks (fun f fd F => ok_init1 F sc_BadTicks___init__ rfl rfl rfl (by decide) (by decide) i_BadTicks.T o_BadTicks_at) fun _ _ _ _ _ _ us ws h1 h2 => match us, h1, ws, h2 with | [_], _, [_], _ => rfl
  have EK_BadRule : Err1K PySem.Challenge.rw_wholeprint_k01_errors_made.prog w K mg base "BadRule" C_BadRule "part" := i_BadRule.err1K G_BadRule (fun f fd F => ok_init1 F sc_BadRule___init__ rfl rfl rfl (by decide) (by decide) i_BadRule.T o_BadRule_part) fun _ _ _ _ _ _ us ws h1 h2 => match us, h1, ws, h2 with | [_], _, [_], _ => rfl
  have EK_NoFault : Err1K PySem.Challenge.rw_wholeprint_k01_errors_made.prog w K mg base "NoFault" C_NoFault "fault" := i_NoFault.err1K G_NoFault (fun f fd F => ok_init1 F sc_NoFault___init__ rfl rfl rfl (by decide) (by decide) i_NoFault.T o_NoFault_fault) fun _ _ _ _ _ _ us ws h1 h2 => match us, h1, ws, h2 with | [_], _, [_], _ => rfl
  have EK_BadOrder : Err1K PySem.Challenge.rw_wholeprint_k01_errors_made.prog w K mg base "BadOrder" C_BadOrder "name" := i_BadOrder.err1K G_BadOrder (fun f fd F => ok_init1 F sc_BadOrder___init__ rfl rfl rfl (by decide) (by decide) i_BadOrder.T o_BadOrder_name) fun _ _ _ _ _ _ us ws h1 h2 => match us, h1, ws, h2 with | [_], _, [_], _ => rfl
  have EK_BadPrices : Err1K PySem.Challenge.rw_wholeprint_k01_errors_made.prog w K mg base "BadPrices" C_BadPrices "name" := i_BadPrices.err1K G_BadPrices (fun f fd F => ok_init1 F sc_BadPrices___init__ rfl rfl rfl (by decide) (by decide) i_BadPrices.T o_BadPrices_name) fun _ _ _ _ _ _ us ws h1 h2 => match us, h1, ws, h2 with | [_], _, [_], _ => rfl
  have EK_BadWanted : Err1K PySem.Challenge.rw_wholeprint_k01_errors_made.prog w K mg base "BadWanted" C_BadWanted "at" := i_BadWanted.err1K G_BadWanted (fun f fd F => ok_init1 F sc_BadWanted___init__ rfl rfl rfl (by decide) (by decide) i_BadWanted.T o_BadWanted_at) fun _ _ _ _ _ _ us ws h1 h2 => match us, h1, ws, h2 with | [_], _, [_], _ => rfl
  have EK_Barred : Err1K PySem.Challenge.rw_wholeprint_k01_errors_made.prog w K mg base "Barred" C_Barred "word" := i_Barred.err1K G_Barred (fun f fd F => ok_init1 F sc_Barred___init__ rfl rfl rfl (by decide) (by decide) i_Barred.T o_Barred_word) fun _ _ _ _ _ _ us ws h1 h2 => match us, h1, ws, h2 with | [_], _, [_], _ => rfl
  have EK_BadText : Err1K PySem.Challenge.rw_wholeprint_k01_errors_made.prog w K mg base "BadText" C_BadText "line" := i_BadText.err1K G_BadText (fun f fd F => ok_init1 F sc_BadText___init__ rfl rfl rfl (by decide) (by decide) i_BadText.T o_BadText_line) fun _ _ _ _ _ _ us ws h1 h2 => match us, h1, ws, h2 with | [_], _, [_], _ => rfl
  have O__law_begun : FnOk PySem.Challenge.rw_wholeprint_k01_errors_made.prog w K mg base CX0 1 f__law_begun p__law_begun ["_law_script"] (spBegun K) := ok_begun F__law_begun T
  have D__law_begun : Dn PySem.Challenge.rw_wholeprint_k01_errors_made.prog w K mg base CX0 1 "_law_begun" ["_law_script"] (spBegun K) := ⟨f__law_begun, p__law_begun, PySem.W.mg_of X G a__law_begun, k__law_begun, O__law_begun, F__law_begun.binds fun _ _ _ _ _ _ us hl => match us, hl with | [_], _ => rfl⟩
  have O__law_blend : FnOk PySem.Challenge.rw_wholeprint_k01_errors_made.prog w K mg base CX0 1 f__law_blend p__law_blend ["_law_draw"] (spBlend) := ok_blend F__law_blend T
  have D__law_blend : Dn PySem.Challenge.rw_wholeprint_k01_errors_made.prog w K mg base CX0 1 "_law_blend" ["_law_draw"] (spBlend) := ⟨f__law_blend, p__law_blend, PySem.W.mg_of X G a__law_blend, k__law_blend, O__law_blend, F__law_blend.binds fun _ _ _ _ _ _ us hl => match us, hl with | [_], _ => rfl⟩
  have O__law_take : FnOk PySem.Challenge.rw_wholeprint_k01_errors_made.prog w K mg base CX0 2 f__law_take p__law_take ["_law_draw", "_law_size"] (spTake) := ok_take F__law_take T D__law_blend
  have D__law_take : Dn PySem.Challenge.rw_wholeprint_k01_errors_made.prog w K mg base CX0 2 "_law_take" ["_law_draw", "_law_size"] (spTake) := ⟨f__law_take, p__law_take, PySem.W.mg_of X G a__law_take, k__law_take, O__law_take, F__law_take.binds fun _ _ _ _ _ _ us hl => match us, hl with | [_, _], _ => rfl⟩
  have O__law_pick : FnOk PySem.Challenge.rw_wholeprint_k01_errors_made.prog w K mg base CX0 3 f__law_pick p__law_pick ["_law_draw", "_law_some"] (spPick K) := ok_pick F__law_pick T D__law_take
  have D__law_pick : Dn PySem.Challenge.rw_wholeprint_k01_errors_made.prog w K mg base CX0 3 "_law_pick" ["_law_draw", "_law_some"] (spPick K) := ⟨f__law_pick, p__law_pick, PySem.W.mg_of X G a__law_pick, k__law_pick, O__law_pick, F__law_pick.binds fun _ _ _ _ _ _ us hl => match us, hl with | [_, _], _ => rfl⟩
  have KT := kitT_of kt
  have ecs : ∀ k, k < 26 → ExcC K (clsR [C_BadFile, C_BadSite, C_NoFile, C_NotEntry, C_IsEntry, C_NotPlain, C_NotTogether, C_BadChanges, C_NoContents, C_BadPiece, C_BadKinds, C_BadSteps, C_BadDeed, C_BadHistory, C_NoCache, C_NoReader, C_BadTicks, C_BadRule, C_NoFault, C_BadOrder, C_BadNumber, C_BadPrices, C_BadWanted, C_Barred, C_NothingLeft, C_BadText] k) := ecs_of rfl (List.forall_mem_cons.mpr ⟨x_BadFile.ec, List.forall_mem_cons.mpr ⟨x_BadSite.ec, List.forall_mem_cons.mpr ⟨x_NoFile.ec, List.forall_mem_cons.mpr ⟨x_NotEntry.ec, List.forall_mem_cons.mpr ⟨x_IsEntry.ec, List.forall_mem_cons.mpr ⟨x_NotPlain.ec, List.forall_mem_cons.mpr ⟨x_NotTogether.ec, List.forall_mem_cons.mpr ⟨x_BadChanges.ec, List.forall_mem_cons.mpr ⟨x_NoContents.ec, List.forall_mem_cons.mpr ⟨x_BadPiece.ec, List.forall_mem_cons.mpr ⟨x_BadKinds.ec, List.forall_mem_cons.mpr ⟨x_BadSteps.ec, List.forall_mem_cons.mpr ⟨x_BadDeed.ec, List.forall_mem_cons.mpr ⟨x_BadHistory.ec, List.forall_mem_cons.mpr ⟨x_NoCache.ec, List.forall_mem_cons.mpr ⟨x_NoReader.ec, List.forall_mem_cons.mpr ⟨x_BadTicks.ec, List.forall_mem_cons.mpr ⟨x_BadRule.ec, List.forall_mem_cons.mpr ⟨x_NoFault.ec, List.forall_mem_cons.mpr ⟨x_BadOrder.ec, List.forall_mem_cons.mpr ⟨x_BadNumber.ec, List.forall_mem_cons.mpr ⟨x_BadPrices.ec, List.forall_mem_cons.mpr ⟨x_BadWanted.ec, List.forall_mem_cons.mpr ⟨x_Barred.ec, List.forall_mem_cons.mpr ⟨x_NothingLeft.ec, List.forall_mem_cons.mpr ⟨x_BadText.ec, fun _ z => by cases z⟩⟩⟩⟩⟩⟩⟩⟩⟩⟩⟩⟩⟩⟩⟩⟩⟩⟩⟩⟩⟩⟩⟩⟩⟩⟩)
  have M_ValueError : mg "ValueError" = none := PySem.W.mg_none_of X G ng_ValueError
  have M_caught : mg "_law_caught" = some (.ref f__law_caught) := PySem.W.mg_of X G a__law_caught
  have O__law_odd : FnOk PySem.Challenge.rw_wholeprint_k01_errors_made.prog w K mg base CX0 4 f__law_odd p__law_odd ["_law_draw"] (spOddD oddL) := ok__law_oddD F__law_odd T D__law_pick
  have D__law_odd : Dn PySem.Challenge.rw_wholeprint_k01_errors_made.prog w K mg base CX0 4 "_law_odd" ["_law_draw"] (spOddD oddL) := ⟨f__law_odd, p__law_odd, PySem.W.mg_of X G a__law_odd, k__law_odd, O__law_odd, F__law_odd.binds fun _ _ _ _ _ _ us hl => match us, hl with | [_], _ => rfl⟩
  have O__law_errors : FnOk PySem.Challenge.rw_wholeprint_k01_errors_made.prog w K mg base CX0 3 f__law_errors p__law_errors ["_law_this", "_law_that"] (spErrors (clsR [C_BadFile, C_BadSite, C_NoFile, C_NotEntry, C_IsEntry, C_NotPlain, C_NotTogether, C_BadChanges, C_NoContents, C_BadPiece, C_BadKinds, C_BadSteps, C_BadDeed, C_BadHistory, C_NoCache, C_NoReader, C_BadTicks, C_BadRule, C_NoFault, C_BadOrder, C_BadNumber, C_BadPrices, C_BadWanted, C_Barred, C_NothingLeft, C_BadText])) := ok__law_errors (C := (clsR [C_BadFile, C_BadSite, C_NoFile, C_NotEntry, C_IsEntry, C_NotPlain, C_NotTogether, C_BadChanges, C_NoContents, C_BadPiece, C_BadKinds, C_BadSteps, C_BadDeed, C_BadHistory, C_NoCache, C_NoReader, C_BadTicks, C_BadRule, C_NoFault, C_BadOrder, C_BadNumber, C_BadPrices, C_BadWanted, C_Barred, C_NothingLeft, C_BadText])) F__law_errors T E_BadFile E_BadSite E_NoFile E_NotEntry E_IsEntry E_NotPlain E_NotTogether E_BadChanges E_NoContents E_BadPiece E_BadKinds E_BadSteps E_BadDeed E_BadHistory E_NoCache E_NoReader E_BadTicks E_BadRule E_NoFault E_BadOrder E_BadNumber E_BadPrices E_BadWanted E_Barred E_NothingLeft E_BadText
  have D__law_errors : Dn PySem.Challenge.rw_wholeprint_k01_errors_made.prog w K mg base CX0 3 "_law_errors" ["_law_this", "_law_that"] (spErrors (clsR [C_BadFile, C_BadSite, C_NoFile, C_NotEntry, C_IsEntry, C_NotPlain, C_NotTogether, C_BadChanges, C_NoContents, C_BadPiece, C_BadKinds, C_BadSteps, C_BadDeed, C_BadHistory, C_NoCache, C_NoReader, C_BadTicks, C_BadRule, C_NoFault, C_BadOrder, C_BadNumber, C_BadPrices, C_BadWanted, C_Barred, C_NothingLeft, C_BadText])) := ⟨f__law_errors, p__law_errors, PySem.W.mg_of X G a__law_errors, k__law_errors, O__law_errors, F__law_errors.binds fun _ _ _ _ _ _ us hl => match us, hl with | [_, _], _ => rfl⟩
  have O__law_named_errors : FnOk PySem.Challenge.rw_wholeprint_k01_errors_made.prog w K mg base CX0 3 f__law_named_errors p__law_named_errors ["_law_this", "_law_that"] (spNamedErrors (clsR [C_BadFile, C_BadSite, C_NoFile, C_NotEntry, C_IsEntry, C_NotPlain, C_NotTogether, C_BadChanges, C_NoContents, C_BadPiece, C_BadKinds, C_BadSteps, C_BadDeed, C_BadHistory, C_NoCache, C_NoReader, C_BadTicks, C_BadRule, C_NoFault, C_BadOrder, C_BadNumber, C_BadPrices, C_BadWanted, C_Barred, C_NothingLeft, C_BadText])) := ok__law_named_errors (C := (clsR [C_BadFile, C_BadSite, C_NoFile, C_NotEntry, C_IsEntry, C_NotPlain, C_NotTogether, C_BadChanges, C_NoContents, C_BadPiece, C_BadKinds, C_BadSteps, C_BadDeed, C_BadHistory, C_NoCache, C_NoReader, C_BadTicks, C_BadRule, C_NoFault, C_BadOrder, C_BadNumber, C_BadPrices, C_BadWanted, C_Barred, C_NothingLeft, C_BadText])) F__law_named_errors T EK_BadFile EK_BadSite EK_NoFile EK_NotEntry EK_IsEntry EK_NotPlain EK_NotTogether EK_BadChanges EK_NoContents EK_BadPiece EK_BadKinds EK_BadDeed EK_BadHistory EK_NoCache EK_NoReader EK_BadTicks EK_BadRule EK_NoFault EK_BadOrder EK_BadPrices EK_BadWanted EK_Barred EK_BadText
  have D__law_named_errors : Dn PySem.Challenge.rw_wholeprint_k01_errors_made.prog w K mg base CX0 3 "_law_named_errors" ["_law_this", "_law_that"] (spNamedErrors (clsR [C_BadFile, C_BadSite, C_NoFile, C_NotEntry, C_IsEntry, C_NotPlain, C_NotTogether, C_BadChanges, C_NoContents, C_BadPiece, C_BadKinds, C_BadSteps, C_BadDeed, C_BadHistory, C_NoCache, C_NoReader, C_BadTicks, C_BadRule, C_NoFault, C_BadOrder, C_BadNumber, C_BadPrices, C_BadWanted, C_Barred, C_NothingLeft, C_BadText])) := ⟨f__law_named_errors, p__law_named_errors, PySem.W.mg_of X G a__law_named_errors, k__law_named_errors, O__law_named_errors, F__law_named_errors.binds fun _ _ _ _ _ _ us hl => match us, hl with | [_, _], _ => rfl⟩
  have O__law_kept : FnOk PySem.Challenge.rw_wholeprint_k01_errors_made.prog w K mg base CX0 1 f__law_kept p__law_kept ["_law_errors_here"] (spKept (clsR [C_BadFile, C_BadSite, C_NoFile, C_NotEntry, C_IsEntry, C_NotPlain, C_NotTogether, C_BadChanges, C_NoContents, C_BadPiece, C_BadKinds, C_BadSteps, C_BadDeed, C_BadHistory, C_NoCache, C_NoReader, C_BadTicks, C_BadRule, C_NoFault, C_BadOrder, C_BadNumber, C_BadPrices, C_BadWanted, C_Barred, C_NothingLeft, C_BadText])) := ok__law_kept (C := (clsR [C_BadFile, C_BadSite, C_NoFile, C_NotEntry, C_IsEntry, C_NotPlain, C_NotTogether, C_BadChanges, C_NoContents, C_BadPiece, C_BadKinds, C_BadSteps, C_BadDeed, C_BadHistory, C_NoCache, C_NoReader, C_BadTicks, C_BadRule, C_NoFault, C_BadOrder, C_BadNumber, C_BadPrices, C_BadWanted, C_Barred, C_NothingLeft, C_BadText])) F__law_kept T E_BadFile E_BadSite E_NoFile E_NotEntry E_IsEntry E_NotPlain E_NotTogether E_BadChanges E_NoContents E_BadPiece E_BadKinds E_BadDeed E_BadHistory E_NoCache E_NoReader E_BadTicks E_BadRule E_NoFault E_BadOrder E_BadPrices E_BadWanted E_Barred E_BadText
  have D__law_kept : Dn PySem.Challenge.rw_wholeprint_k01_errors_made.prog w K mg base CX0 1 "_law_kept" ["_law_errors_here"] (spKept (clsR [C_BadFile, C_BadSite, C_NoFile, C_NotEntry, C_IsEntry, C_NotPlain, C_NotTogether, C_BadChanges, C_NoContents, C_BadPiece, C_BadKinds, C_BadSteps, C_BadDeed, C_BadHistory, C_NoCache, C_NoReader, C_BadTicks, C_BadRule, C_NoFault, C_BadOrder, C_BadNumber, C_BadPrices, C_BadWanted, C_Barred, C_NothingLeft, C_BadText])) := ⟨f__law_kept, p__law_kept, PySem.W.mg_of X G a__law_kept, k__law_kept, O__law_kept, F__law_kept.binds fun _ _ _ _ _ _ us hl => match us, hl with | [_], _ => rfl⟩
  have O__law_marks : FnOk PySem.Challenge.rw_wholeprint_k01_errors_made.prog w K mg base CX0 1 f__law_marks p__law_marks ["_law_error"] (spMarks K (clsR [C_BadFile, C_BadSite, C_NoFile, C_NotEntry, C_IsEntry, C_NotPlain, C_NotTogether, C_BadChanges, C_NoContents, C_BadPiece, C_BadKinds, C_BadSteps, C_BadDeed, C_BadHistory, C_NoCache, C_NoReader, C_BadTicks, C_BadRule, C_NoFault, C_BadOrder, C_BadNumber, C_BadPrices, C_BadWanted, C_Barred, C_NothingLeft, C_BadText])) := ok__law_marks (C := (clsR [C_BadFile, C_BadSite, C_NoFile, C_NotEntry, C_IsEntry, C_NotPlain, C_NotTogether, C_BadChanges, C_NoContents, C_BadPiece, C_BadKinds, C_BadSteps, C_BadDeed, C_BadHistory, C_NoCache, C_NoReader, C_BadTicks, C_BadRule, C_NoFault, C_BadOrder, C_BadNumber, C_BadPrices, C_BadWanted, C_Barred, C_NothingLeft, C_BadText])) F__law_marks T ecs KT.tab G_BadFile G_BadSite G_NoFile G_NotEntry G_IsEntry G_NotPlain G_NotTogether G_BadChanges G_NoContents G_BadPiece G_BadKinds G_BadSteps G_BadDeed G_BadHistory G_NoCache G_NoReader G_BadTicks G_BadRule G_NoFault G_BadOrder G_BadNumber G_BadPrices G_BadWanted G_Barred G_NothingLeft G_BadText
  have D__law_marks : Dn PySem.Challenge.rw_wholeprint_k01_errors_made.prog w K mg base CX0 1 "_law_marks" ["_law_error"] (spMarks K (clsR [C_BadFile, C_BadSite, C_NoFile, C_NotEntry, C_IsEntry, C_NotPlain, C_NotTogether, C_BadChanges, C_NoContents, C_BadPiece, C_BadKinds, C_BadSteps, C_BadDeed, C_BadHistory, C_NoCache, C_NoReader, C_BadTicks, C_BadRule, C_NoFault, C_BadOrder, C_BadNumber, C_BadPrices, C_BadWanted, C_Barred, C_NothingLeft, C_BadText])) := ⟨f__law_marks, p__law_marks, PySem.W.mg_of X G a__law_marks, k__law_marks, O__law_marks, F__law_marks.binds fun _ _ _ _ _ _ us hl => match us, hl with | [_], _ => rfl⟩
  have O__law_thrown : FnOk PySem.Challenge.rw_wholeprint_k01_errors_made.prog w K mg base (L2.CX PySem.Challenge.rw_wholeprint_k01_errors_made.prog w) 3 f__law_thrown p__law_thrown ["_law_value"] (spThrown C_BadPiece) := ok__law_thrown F__law_thrown T E_BadPiece
  have D__law_thrown : Dn PySem.Challenge.rw_wholeprint_k01_errors_made.prog w K mg base (L2.CX PySem.Challenge.rw_wholeprint_k01_errors_made.prog w) 3 "_law_thrown" ["_law_value"] (spThrown C_BadPiece) := ⟨f__law_thrown, p__law_thrown, PySem.W.mg_of X G a__law_thrown, k__law_thrown, O__law_thrown, F__law_thrown.binds fun _ _ _ _ _ _ us hl => match us, hl with | [_], _ => rfl⟩
  exact ok_law (C := (clsR [C_BadFile, C_BadSite, C_NoFile, C_NotEntry, C_IsEntry, C_NotPlain, C_NotTogether, C_BadChanges, C_NoContents, C_BadPiece, C_BadKinds, C_BadSteps, C_BadDeed, C_BadHistory, C_NoCache, C_NoReader, C_BadTicks, C_BadRule, C_NoFault, C_BadOrder, C_BadNumber, C_BadPrices, C_BadWanted, C_Barred, C_NothingLeft, C_BadText])) F_law hfc T TB F_caught M_caught M_PrintError E_PrintError E_BadPiece G_BadFile M_ValueError KT ecs kPF D__law_begun D__law_odd D__law_errors D__law_named_errors D__law_kept D__law_marks D__law_thrown
end WP
def PySem.W.Fast.tw804092199982636349 : Nat := 0
def PySem.W.Fast.tw6731276024794131016 : Nat := 0
def PySem.W.Fast.tw2294854397974045510 : Nat := 0
def PySem.W.Fast.tw15772355805533515408 : Nat := 0
def PySem.W.Fast.tw6453756176835591036 : Nat := 0
def PySem.W.Fast.tw11171183897270958096 : Nat := 0
def PySem.W.Fast.tw5672683055327667270 : Nat := 0
def PySem.W.Fast.tw5882939126944850896 : Nat := 0
def PySem.W.Fast.tw18418873604840867640 : Nat := 0
def PySem.W.Fast.tw17674225804105314502 : Nat := 0
def PySem.W.Fast.tw9495240634279001996 : Nat := 0
def PySem.W.Fast.tw1947361589491995326 : Nat := 0
def PySem.W.Fast.tw15519299588005465827 : Nat := 0
def PySem.W.Fast.tw5573920156669561723 : Nat := 0
def PySem.W.Fast.tw3383254622194837790 : Nat := 0
def PySem.W.Fast.tw3510925598433632224 : Nat := 0
def PySem.W.Fast.tw11469405352197061182 : Nat := 0
def PySem.W.Fast.tw548943366391343654 : Nat := 0
def PySem.W.Fast.tw14767467671429608371 : Nat := 0
def PySem.W.Fast.tw2285010845146473337 : Nat := 0
def PySem.W.Fast.tw12594291575639544856 : Nat := 0
def PySem.W.Fast.tw11492217018511644072 : Nat := 0
def PySem.W.Fast.tw16020128706296110443 : Nat := 0
def PySem.W.Fast.tw13078828970864912049 : Nat := 0
def PySem.W.Fast.tw128535027125647385 : Nat := 0
def PySem.W.Fast.tw7374193898521122663 : Nat := 0
def PySem.W.Fast.tw8289603468440022304 : Nat := 0
def PySem.W.Fast.tw7194422792647746864 : Nat := 0
def PySem.W.Fast.tw5928759704665997692 : Nat := 0
def PySem.W.Fast.tw13055092471362801858 : Nat := 0
set_option maxHeartbeats 0
open PySem PySem.W PyProof.Rows
open_top head for PySem.Challenge.rw_wholeprint_k01_errors_made
open PySem PySem.W PyProof.Rows WP
theorem PySem.Challenge.cw_wholeprint_k01_errors_made_holds : PySem.Challenge.rw_wholeprint_k01_errors_made.Holds :=
  head (by
  k_fill
  refine WP.walk_G (l := PySem.Challenge.rw_wholeprint_k01_errors_made) (n := 63) (k := 9) (x := "_law_script") rfl (by decide) rfl ⟨rfl, by decide, by decide⟩ (fun w h Y => PySem.W.km_in_of Y) ?F
  intro w mg fa h Y KX G hmg
  refine' fin KX G hmg (bi_mk KX ?q1 ?q2 ?q3 ?q4 ?q5 ?q6 ?q7 ?q8 ?q9 ?q10 ?q11 ?q12 ?q13 ?q14 ?q15 ?q16 ?q17 ?q18)
    (print_mk KX ?q19 ?q20 ?q21 ?q22)
    (excf_mk KX ?q24 ?q25 ?q26 ?q27 ?q28 ?q29 ?q30 ?q31 ?q32 ?q33 ?q34 ?q35)
    ?q23
    (excf_mk KX ?q36 ?q37 ?q38 ?q39 ?q40 ?q41 ?q42 ?q43 ?q44 ?q45 ?q46 ?q47)
    (initf_mk KX ?q48 ?q49 ?q50 ?q51 ?q52 ?q53 ?q54 ?q55 ?q56 ?q57 ?q58)
    ?q59
    (excf_mk KX ?q60 ?q61 ?q62 ?q63 ?q64 ?q65 ?q66 ?q67 ?q68 ?q69 ?q70 ?q71)
    (initf_mk KX ?q72 ?q73 ?q74 ?q75 ?q76 ?q77 ?q78 ?q79 ?q80 ?q81 ?q82)
    ?q83
    ?q84
    (excf_mk KX ?q85 ?q86 ?q87 ?q88 ?q89 ?q90 ?q91 ?q92 ?q93 ?q94 ?q95 ?q96)
    (initf_mk KX ?q97 ?q98 ?q99 ?q100 ?q101 ?q102 ?q103 ?q104 ?q105 ?q106 ?q107)
    ?q108
    (excf_mk KX ?q109 ?q110 ?q111 ?q112 ?q113 ?q114 ?q115 ?q116 ?q117 ?q118 ?q119 ?q120)
    (initf_mk KX ?q121 ?q122 ?q123 ?q124 ?q125 ?q126 ?q127 ?q128 ?q129 ?q130 ?q131)
    ?q132
    (excf_mk KX ?q133 ?q134 ?q135 ?q136 ?q137 ?q138 ?q139 ?q140 ?q141 ?q142 ?q143 ?q144)
    (initf_mk KX ?q145 ?q146 ?q147 ?q148 ?q149 ?q150 ?q151 ?q152 ?q153 ?q154 ?q155)
    ?q156
    (excf_mk KX ?q157 ?q158 ?q159 ?q160 ?q161 ?q162 ?q163 ?q164 ?q165 ?q166 ?q167 ?q168)
    (initf_mk KX ?q169 ?q170 ?q171 ?q172 ?q173 ?q174 ?q175 ?q176 ?q177 ?q178 ?q179)
    ?q180
    (excf_mk KX ?q181 ?q182 ?q183 ?q184 ?q185 ?q186 ?q187 ?q188 ?q189 ?q190 ?q191 ?q192)
    (initf_mk KX ?q193 ?q194 ?q195 ?q196 ?q197 ?q198 ?q199 ?q200 ?q201 ?q202 ?q203)
    ?q204
    ?q205
    (excf_mk KX ?q206 ?q207 ?q208 ?q209 ?q210 ?q211 ?q212 ?q213 ?q214 ?q215 ?q216 ?q217)
    (initf_mk KX ?q218 ?q219 ?q220 ?q221 ?q222 ?q223 ?q224 ?q225 ?q226 ?q227 ?q228)
    ?q229
    (excf_mk KX ?q230 ?q231 ?q232 ?q233 ?q234 ?q235 ?q236 ?q237 ?q238 ?q239 ?q240 ?q241)
    (initf_mk KX ?q242 ?q243 ?q244 ?q245 ?q246 ?q247 ?q248 ?q249 ?q250 ?q251 ?q252)
    ?q253
    (excf_mk KX ?q254 ?q255 ?q256 ?q257 ?q258 ?q259 ?q260 ?q261 ?q262 ?q263 ?q264 ?q265)
    (initf_mk KX ?q266 ?q267 ?q268 ?q269 ?q270 ?q271 ?q272 ?q273 ?q274 ?q275 ?q276)
    ?q277
    (excf_mk KX ?q278 ?q279 ?q280 ?q281 ?q282 ?q283 ?q284 ?q285 ?q286 ?q287 ?q288 ?q289)
    (initf_mk KX ?q290 ?q291 ?q292 ?q293 ?q294 ?q295 ?q296 ?q297 ?q298 ?q299 ?q300)
    ?q301
    (excf_mk KX ?q302 ?q303 ?q304 ?q305 ?q306 ?q307 ?q308 ?q309 ?q310 ?q311 ?q312 ?q313)
    ?q314
    (excf_mk KX ?q315 ?q316 ?q317 ?q318 ?q319 ?q320 ?q321 ?q322 ?q323 ?q324 ?q325 ?q326)
    (initf_mk KX ?q327 ?q328 ?q329 ?q330 ?q331 ?q332 ?q333 ?q334 ?q335 ?q336 ?q337)
    ?q338
    (excf_mk KX ?q339 ?q340 ?q341 ?q342 ?q343 ?q344 ?q345 ?q346 ?q347 ?q348 ?q349 ?q350)
    (initf_mk KX ?q351 ?q352 ?q353 ?q354 ?q355 ?q356 ?q357 ?q358 ?q359 ?q360 ?q361)
    ?q362
    (excf_mk KX ?q363 ?q364 ?q365 ?q366 ?q367 ?q368 ?q369 ?q370 ?q371 ?q372 ?q373 ?q374)
    (initf_mk KX ?q375 ?q376 ?q377 ?q378 ?q379 ?q380 ?q381 ?q382 ?q383 ?q384 ?q385)
    ?q386
    (excf_mk KX ?q387 ?q388 ?q389 ?q390 ?q391 ?q392 ?q393 ?q394 ?q395 ?q396 ?q397 ?q398)
    (initf_mk KX ?q399 ?q400 ?q401 ?q402 ?q403 ?q404 ?q405 ?q406 ?q407 ?q408 ?q409)
    ?q410
    (excf_mk KX ?q411 ?q412 ?q413 ?q414 ?q415 ?q416 ?q417 ?q418 ?q419 ?q420 ?q421 ?q422)
    (initf_mk KX ?q423 ?q424 ?q425 ?q426 ?q427 ?q428 ?q429 ?q430 ?q431 ?q432 ?q433)
    ?q434
    (excf_mk KX ?q435 ?q436 ?q437 ?q438 ?q439 ?q440 ?q441 ?q442 ?q443 ?q444 ?q445 ?q446)
    (initf_mk KX ?q447 ?q448 ?q449 ?q450 ?q451 ?q452 ?q453 ?q454 ?q455 ?q456 ?q457)
    ?q458
    (excf_mk KX ?q459 ?q460 ?q461 ?q462 ?q463 ?q464 ?q465 ?q466 ?q467 ?q468 ?q469 ?q470)
    (initf_mk KX ?q471 ?q472 ?q473 ?q474 ?q475 ?q476 ?q477 ?q478 ?q479 ?q480 ?q481)
    ?q482
    (excf_mk KX ?q483 ?q484 ?q485 ?q486 ?q487 ?q488 ?q489 ?q490 ?q491 ?q492 ?q493 ?q494)
    (initf_mk KX ?q495 ?q496 ?q497 ?q498 ?q499 ?q500 ?q501 ?q502 ?q503 ?q504 ?q505)
    ?q506
    (excf_mk KX ?q507 ?q508 ?q509 ?q510 ?q511 ?q512 ?q513 ?q514 ?q515 ?q516 ?q517 ?q518)
    ?q519
    (excf_mk KX ?q520 ?q521 ?q522 ?q523 ?q524 ?q525 ?q526 ?q527 ?q528 ?q529 ?q530 ?q531)
    (initf_mk KX ?q532 ?q533 ?q534 ?q535 ?q536 ?q537 ?q538 ?q539 ?q540 ?q541 ?q542)
    ?q543
    (excf_mk KX ?q544 ?q545 ?q546 ?q547 ?q548 ?q549 ?q550 ?q551 ?q552 ?q553 ?q554 ?q555)
    (initf_mk KX ?q556 ?q557 ?q558 ?q559 ?q560 ?q561 ?q562 ?q563 ?q564 ?q565 ?q566)
    ?q567
    (excf_mk KX ?q568 ?q569 ?q570 ?q571 ?q572 ?q573 ?q574 ?q575 ?q576 ?q577 ?q578 ?q579)
    (initf_mk KX ?q580 ?q581 ?q582 ?q583 ?q584 ?q585 ?q586 ?q587 ?q588 ?q589 ?q590)
    ?q591
    (excf_mk KX ?q592 ?q593 ?q594 ?q595 ?q596 ?q597 ?q598 ?q599 ?q600 ?q601 ?q602 ?q603)
    ?q604
    (excf_mk KX ?q605 ?q606 ?q607 ?q608 ?q609 ?q610 ?q611 ?q612 ?q613 ?q614 ?q615 ?q616)
    (initf_mk KX ?q617 ?q618 ?q619 ?q620 ?q621 ?q622 ?q623 ?q624 ?q625 ?q626 ?q627)
    ?q628
    (def_mk KX ?q629 ?q630 ?q631 ?q632)
    (def_mk KX ?q633 ?q634 ?q635 ?q636)
    (def_mk KX ?q637 ?q638 ?q639 ?q640)
    (def_mk KX ?q641 ?q642 ?q643 ?q644)
    ?q645
    ?q646
    ?q647
    (def_mk KX ?q648 ?q649 ?q650 ?q651)
    (def_mk KX ?q652 ?q653 ?q654 ?q655)
    (def_mk KX ?q656 ?q657 ?q658 ?q659)
    (def_mk KX ?q660 ?q661 ?q662 ?q663)
    (def_mk KX ?q664 ?q665 ?q666 ?q667)
    (def_mk KX ?q668 ?q669 ?q670 ?q671)
    (def_mk KX ?q672 ?q673 ?q674 ?q675)
    (lam_mk KX ?lm1 ?lm2 ?lm3 ?lm4 (PySem.W.km_tabs_of Y) ?lm5 ?lm6 ?lm7)
  (case q1 => k_is)
  (case q2 => k_is)
  (case q3 => k_is)
  (case q4 => k_is)
  (case q5 => k_is)
  (case q6 => k_is)
  (case q7 => k_is)
  (case q8 => k_is)
  (case q9 => k_is)
  (case q10 => k_is)
  (case q11 => k_is)
  (case q12 => k_is)
  (case q13 => k_is)
  (case q14 => k_is)
  (case q15 => k_is)
  (case q16 => k_is)
  (case q17 => k_is)
  (case q18 => k_is)
  (case q19 => k_is)
  (case q20 => k_is)
  (case q21 => k_is)
  (case q22 => k_is)
  (case q24 => k_is)
  (case q25 => k_is)
  (case q26 => k_is)
  (case q27 => k_is)
  (case q28 => k_is)
  (case q29 => k_is)
  (case q30 => k_is)
  (case q31 => k_is)
  (case q32 => k_is)
  (case q33 => k_is)
  (case q34 => k_is)
  (case q35 => first | rfl | k_is)
  (case q23 => k_exc)
  (case q36 => k_is)
  (case q37 => k_is)
  (case q38 => k_is)
  (case q39 => k_is)
  (case q40 => k_is)
  (case q41 => k_is)
  (case q42 => k_is)
  (case q43 => k_is)
  (case q44 => k_is)
  (case q45 => k_is)
  (case q46 => k_is)
  (case q47 => first | rfl | k_is)
  (case q48 => k_is)
  (case q49 => decide)
  (case q50 => k_is)
  (case q51 => k_is)
  (case q52 => k_is)
  (case q53 => k_is)
  (case q54 => k_is)
  (case q55 => k_is)
  (case q56 => k_is)
  (case q57 => k_is)
  (case q58 => k_is)
  (case q59 => k_is)
  (case q60 => k_is)
  (case q61 => k_is)
  (case q62 => k_is)
  (case q63 => k_is)
  (case q64 => k_is)
  (case q65 => k_is)
  (case q66 => k_is)
  (case q67 => k_is)
  (case q68 => k_is)
  (case q69 => k_is)
  (case q70 => k_is)
  (case q71 => first | rfl | k_is)
  (case q72 => k_is)
  (case q73 => decide)
  (case q74 => k_is)
  (case q75 => k_is)
  (case q76 => k_is)
  (case q77 => k_is)
  (case q78 => k_is)
  (case q79 => k_is)
  (case q80 => k_is)
  (case q81 => k_is)
  (case q82 => k_is)
  (case q83 => k_is)
  (case q84 => k_is)
  (case q85 => k_is)
  (case q86 => k_is)
  (case q87 => k_is)
  (case q88 => k_is)
  (case q89 => k_is)
  (case q90 => k_is)
  (case q91 => k_is)
  (case q92 => k_is)
  (case q93 => k_is)
  (case q94 => k_is)
  (case q95 => k_is)
  (case q96 => first | rfl | k_is)
  (case q97 => k_is)
  (case q98 => decide)
  (case q99 => k_is)
  (case q100 => k_is)
  (case q101 => k_is)
  (case q102 => k_is)
  (case q103 => k_is)
  (case q104 => k_is)
  (case q105 => k_is)
  (case q106 => k_is)
  (case q107 => k_is)
  (case q108 => k_is)
  (case q109 => k_is)
  (case q110 => k_is)
  (case q111 => k_is)
  (case q112 => k_is)
  (case q113 => k_is)
  (case q114 => k_is)
  (case q115 => k_is)
  (case q116 => k_is)
  (case q117 => k_is)
  (case q118 => k_is)
  (case q119 => k_is)
  (case q120 => first | rfl | k_is)
  (case q121 => k_is)
  (case q122 => decide)
  (case q123 => k_is)
  (case q124 => k_is)
  (case q125 => k_is)
  (case q126 => k_is)
  (case q127 => k_is)
  (case q128 => k_is)
  (case q129 => k_is)
  (case q130 => k_is)
  (case q131 => k_is)
  (case q132 => k_is)
  (case q133 => k_is)
  (case q134 => k_is)
  (case q135 => k_is)
  (case q136 => k_is)
  (case q137 => k_is)
  (case q138 => k_is)
  (case q139 => k_is)
  (case q140 => k_is)
  (case q141 => k_is)
  (case q142 => k_is)
  (case q143 => k_is)
  (case q144 => first | rfl | k_is)
  (case q145 => k_is)
  (case q146 => decide)
  (case q147 => k_is)
  (case q148 => k_is)
  (case q149 => k_is)
  (case q150 => k_is)
  (case q151 => k_is)
  (case q152 => k_is)
  (case q153 => k_is)
  (case q154 => k_is)
  (case q155 => k_is)
  (case q156 => k_is)
  (case q157 => k_is)
  (case q158 => k_is)
  (case q159 => k_is)
  (case q160 => k_is)
  (case q161 => k_is)
  (case q162 => k_is)
  (case q163 => k_is)
  (case q164 => k_is)
  (case q165 => k_is)
  (case q166 => k_is)
  (case q167 => k_is)
  (case q168 => first | rfl | k_is)
  (case q169 => k_is)
  (case q170 => decide)
  (case q171 => k_is)
  (case q172 => k_is)
  (case q173 => k_is)
  (case q174 => k_is)
  (case q175 => k_is)
  (case q176 => k_is)
  (case q177 => k_is)
  (case q178 => k_is)
  (case q179 => k_is)
  (case q180 => k_is)
  (case q181 => k_is)
  (case q182 => k_is)
  (case q183 => k_is)
  (case q184 => k_is)
  (case q185 => k_is)
  (case q186 => k_is)
  (case q187 => k_is)
  (case q188 => k_is)
  (case q189 => k_is)
  (case q190 => k_is)
  (case q191 => k_is)
  (case q192 => first | rfl | k_is)
  (case q193 => k_is)
  (case q194 => decide)
  (case q195 => k_is)
  (case q196 => k_is)
  (case q197 => k_is)
  (case q198 => k_is)
  (case q199 => k_is)
  (case q200 => k_is)
  (case q201 => k_is)
  (case q202 => k_is)
  (case q203 => k_is)
  (case q204 => k_is)
  (case q205 => k_is)
  (case q206 => k_is)
  (case q207 => k_is)
  (case q208 => k_is)
  (case q209 => k_is)
  (case q210 => k_is)
  (case q211 => k_is)
  (case q212 => k_is)
  (case q213 => k_is)
  (case q214 => k_is)
  (case q215 => k_is)
  (case q216 => k_is)
  (case q217 => first | rfl | k_is)
  (case q218 => k_is)
  (case q219 => decide)
  (case q220 => k_is)
  (case q221 => k_is)
  (case q222 => k_is)
  (case q223 => k_is)
  (case q224 => k_is)
  (case q225 => k_is)
  (case q226 => k_is)
  (case q227 => k_is)
  (case q228 => k_is)
  (case q229 => k_is)
  (case q230 => k_is)
  (case q231 => k_is)
  (case q232 => k_is)
  (case q233 => k_is)
  (case q234 => k_is)
  (case q235 => k_is)
  (case q236 => k_is)
  (case q237 => k_is)
  (case q238 => k_is)
  (case q239 => k_is)
  (case q240 => k_is)
  (case q241 => first | rfl | k_is)
  (case q242 => k_is)
  (case q243 => decide)
  (case q244 => k_is)
  (case q245 => k_is)
  (case q246 => k_is)
  (case q247 => k_is)
  (case q248 => k_is)
  (case q249 => k_is)
  (case q250 => k_is)
  (case q251 => k_is)
  (case q252 => k_is)
  (case q253 => k_is)
  (case q254 => k_is)
  (case q255 => k_is)
  (case q256 => k_is)
  (case q257 => k_is)
  (case q258 => k_is)
  (case q259 => k_is)
  (case q260 => k_is)
  (case q261 => k_is)
  (case q262 => k_is)
  (case q263 => k_is)
  (case q264 => k_is)
  (case q265 => first | rfl | k_is)
  (case q266 => k_is)
  (case q267 => decide)
  (case q268 => k_is)
  (case q269 => k_is)
  (case q270 => k_is)
  (case q271 => k_is)
  (case q272 => k_is)
  (case q273 => k_is)
  (case q274 => k_is)
  (case q275 => k_is)
  (case q276 => k_is)
  (case q277 => k_is)
  (case q278 => k_is)
  (case q279 => k_is)
  (case q280 => k_is)
  (case q281 => k_is)
  (case q282 => k_is)
  (case q283 => k_is)
  (case q284 => k_is)
  (case q285 => k_is)
  (case q286 => k_is)
  (case q287 => k_is)
  (case q288 => k_is)
  (case q289 => first | rfl | k_is)
  (case q290 => k_is)
  (case q291 => decide)
  (case q292 => k_is)
  (case q293 => k_is)
  (case q294 => k_is)
  (case q295 => k_is)
  (case q296 => k_is)
  (case q297 => k_is)
  (case q298 => k_is)
  (case q299 => k_is)
  (case q300 => k_is)
  (case q301 => k_is)
  (case q302 => k_is)
  (case q303 => k_is)
  (case q304 => k_is)
  (case q305 => k_is)
  (case q306 => k_is)
  (case q307 => k_is)
  (case q308 => k_is)
  (case q309 => k_is)
  (case q310 => k_is)
  (case q311 => k_is)
  (case q312 => k_is)
  (case q313 => first | rfl | k_is)
  (case q314 => k_exc)
  (case q315 => k_is)
  (case q316 => k_is)
  (case q317 => k_is)
  (case q318 => k_is)
  (case q319 => k_is)
  (case q320 => k_is)
  (case q321 => k_is)
  (case q322 => k_is)
  (case q323 => k_is)
  (case q324 => k_is)
  (case q325 => k_is)
  (case q326 => first | rfl | k_is)
  (case q327 => k_is)
  (case q328 => decide)
  (case q329 => k_is)
  (case q330 => k_is)
  (case q331 => k_is)
  (case q332 => k_is)
  (case q333 => k_is)
  (case q334 => k_is)
  (case q335 => k_is)
  (case q336 => k_is)
  (case q337 => k_is)
  (case q338 => k_is)
  (case q339 => k_is)
  (case q340 => k_is)
  (case q341 => k_is)
  (case q342 => k_is)
  (case q343 => k_is)
  (case q344 => k_is)
  (case q345 => k_is)
  (case q346 => k_is)
  (case q347 => k_is)
  (case q348 => k_is)
  (case q349 => k_is)
  (case q350 => first | rfl | k_is)
  (case q351 => k_is)
  (case q352 => decide)
  (case q353 => k_is)
  (case q354 => k_is)
  (case q355 => k_is)
  (case q356 => k_is)
  (case q357 => k_is)
  (case q358 => k_is)
  (case q359 => k_is)
  (case q360 => k_is)
  (case q361 => k_is)
  (case q362 => k_is)
  (case q363 => k_is)
  (case q364 => k_is)
  (case q365 => k_is)
  (case q366 => k_is)
  (case q367 => k_is)
  (case q368 => k_is)
  (case q369 => k_is)
  (case q370 => k_is)
  (case q371 => k_is)
  (case q372 => k_is)
  (case q373 => k_is)
  (case q374 => first | rfl | k_is)
  (case q375 => k_is)
  (case q376 => decide)
  (case q377 => k_is)
  (case q378 => k_is)
  (case q379 => k_is)
  (case q380 => k_is)
  (case q381 => k_is)
  (case q382 => k_is)
  (case q383 => k_is)
  (case q384 => k_is)
  (case q385 => k_is)
  (case q386 => k_is)
  (case q387 => k_is)
  (case q388 => k_is)
  (case q389 => k_is)
  (case q390 => k_is)
  (case q391 => k_is)
  (case q392 => k_is)
  (case q393 => k_is)
  (case q394 => k_is)
  (case q395 => k_is)
  (case q396 => k_is)
  (case q397 => k_is)
  (case q398 => first | rfl | k_is)
  (case q399 => k_is)
  (case q400 => decide)
  (case q401 => k_is)
  (case q402 => k_is)
  (case q403 => k_is)
  (case q404 => k_is)
  (case q405 => k_is)
  (case q406 => k_is)
  (case q407 => k_is)
  (case q408 => k_is)
  (case q409 => k_is)
  (case q410 => k_is)
  (case q411 => k_is)
  (case q412 => k_is)
  (case q413 => k_is)
  (case q414 => k_is)
  (case q415 => k_is)
  (case q416 => k_is)
  (case q417 => k_is)
  (case q418 => k_is)
  (case q419 => k_is)
  (case q420 => k_is)
  (case q421 => k_is)
  (case q422 => first | rfl | k_is)
  (case q423 => k_is)
  (case q424 => decide)
  (case q425 => k_is)
  (case q426 => k_is)
  (case q427 => k_is)
  (case q428 => k_is)
  (case q429 => k_is)
  (case q430 => k_is)
  (case q431 => k_is)
  (case q432 => k_is)
  (case q433 => k_is)
  (case q434 => k_is)
  (case q435 => k_is)
  (case q436 => k_is)
  (case q437 => k_is)
  (case q438 => k_is)
  (case q439 => k_is)
  (case q440 => k_is)
  (case q441 => k_is)
  (case q442 => k_is)
  (case q443 => k_is)
  (case q444 => k_is)
  (case q445 => k_is)
  (case q446 => first | rfl | k_is)
  (case q447 => k_is)
  (case q448 => decide)
  (case q449 => k_is)
  (case q450 => k_is)
  (case q451 => k_is)
  (case q452 => k_is)
  (case q453 => k_is)
  (case q454 => k_is)
  (case q455 => k_is)
  (case q456 => k_is)
  (case q457 => k_is)
  (case q458 => k_is)
  (case q459 => k_is)
  (case q460 => k_is)
  (case q461 => k_is)
  (case q462 => k_is)
  (case q463 => k_is)
  (case q464 => k_is)
  (case q465 => k_is)
  (case q466 => k_is)
  (case q467 => k_is)
  (case q468 => k_is)
  (case q469 => k_is)
  (case q470 => first | rfl | k_is)
  (case q471 => k_is)
  (case q472 => decide)
  (case q473 => k_is)
  (case q474 => k_is)
  (case q475 => k_is)
  (case q476 => k_is)
  (case q477 => k_is)
  (case q478 => k_is)
  (case q479 => k_is)
  (case q480 => k_is)
  (case q481 => k_is)
  (case q482 => k_is)
  (case q483 => k_is)
  (case q484 => k_is)
  (case q485 => k_is)
  (case q486 => k_is)
  (case q487 => k_is)
  (case q488 => k_is)
  (case q489 => k_is)
  (case q490 => k_is)
  (case q491 => k_is)
  (case q492 => k_is)
  (case q493 => k_is)
  (case q494 => first | rfl | k_is)
  (case q495 => k_is)
  (case q496 => decide)
  (case q497 => k_is)
  (case q498 => k_is)
  (case q499 => k_is)
  (case q500 => k_is)
  (case q501 => k_is)
  (case q502 => k_is)
  (case q503 => k_is)
  (case q504 => k_is)
  (case q505 => k_is)
  (case q506 => k_is)
  (case q507 => k_is)
  (case q508 => k_is)
  (case q509 => k_is)
  (case q510 => k_is)
  (case q511 => k_is)
  (case q512 => k_is)
  (case q513 => k_is)
  (case q514 => k_is)
  (case q515 => k_is)
  (case q516 => k_is)
  (case q517 => k_is)
  (case q518 => first | rfl | k_is)
  (case q519 => k_exc)
  (case q520 => k_is)
  (case q521 => k_is)
  (case q522 => k_is)
  (case q523 => k_is)
  (case q524 => k_is)
  (case q525 => k_is)
  (case q526 => k_is)
  (case q527 => k_is)
  (case q528 => k_is)
  (case q529 => k_is)
  (case q530 => k_is)
  (case q531 => first | rfl | k_is)
  (case q532 => k_is)
  (case q533 => decide)
  (case q534 => k_is)
  (case q535 => k_is)
  (case q536 => k_is)
  (case q537 => k_is)
  (case q538 => k_is)
  (case q539 => k_is)
  (case q540 => k_is)
  (case q541 => k_is)
  (case q542 => k_is)
  (case q543 => k_is)
  (case q544 => k_is)
  (case q545 => k_is)
  (case q546 => k_is)
  (case q547 => k_is)
  (case q548 => k_is)
  (case q549 => k_is)
  (case q550 => k_is)
  (case q551 => k_is)
  (case q552 => k_is)
  (case q553 => k_is)
  (case q554 => k_is)
  (case q555 => first | rfl | k_is)
  (case q556 => k_is)
  (case q557 => decide)
  (case q558 => k_is)
  (case q559 => k_is)
  (case q560 => k_is)
  (case q561 => k_is)
  (case q562 => k_is)
  (case q563 => k_is)
  (case q564 => k_is)
  (case q565 => k_is)
  (case q566 => k_is)
  (case q567 => k_is)
  (case q568 => k_is)
  (case q569 => k_is)
  (case q570 => k_is)
  (case q571 => k_is)
  (case q572 => k_is)
  (case q573 => k_is)
  (case q574 => k_is)
  (case q575 => k_is)
  (case q576 => k_is)
  (case q577 => k_is)
  (case q578 => k_is)
  (case q579 => first | rfl | k_is)
  (case q580 => k_is)
  (case q581 => decide)
  (case q582 => k_is)
  (case q583 => k_is)
  (case q584 => k_is)
  (case q585 => k_is)
  (case q586 => k_is)
  (case q587 => k_is)
  (case q588 => k_is)
  (case q589 => k_is)
  (case q590 => k_is)
  (case q591 => k_is)
  (case q592 => k_is)
  (case q593 => k_is)
  (case q594 => k_is)
  (case q595 => k_is)
  (case q596 => k_is)
  (case q597 => k_is)
  (case q598 => k_is)
  (case q599 => k_is)
  (case q600 => k_is)
  (case q601 => k_is)
  (case q602 => k_is)
  (case q603 => first | rfl | k_is)
  (case q604 => k_exc)
  (case q605 => k_is)
  (case q606 => k_is)
  (case q607 => k_is)
  (case q608 => k_is)
  (case q609 => k_is)
  (case q610 => k_is)
  (case q611 => k_is)
  (case q612 => k_is)
  (case q613 => k_is)
  (case q614 => k_is)
  (case q615 => k_is)
  (case q616 => first | rfl | k_is)
  (case q617 => k_is)
  (case q618 => decide)
  (case q619 => k_is)
  (case q620 => k_is)
  (case q621 => k_is)
  (case q622 => k_is)
  (case q623 => k_is)
  (case q624 => k_is)
  (case q625 => k_is)
  (case q626 => k_is)
  (case q627 => k_is)
  (case q628 => k_is)
  (case q629 => k_is)
  (case q630 => k_is)
  (case q631 => k_is)
  (case q632 => k_is)
  (case q633 => k_is)
  (case q634 => k_is)
  (case q635 => k_is)
  (case q636 => k_is)
  (case q637 => k_is)
  (case q638 => k_is)
  (case q639 => k_is)
  (case q640 => k_is)
  (case q641 => k_is)
  (case q642 => k_is)
  (case q643 => k_is)
  (case q644 => k_is)
  (case q645 => kernel_rfl)
  (case q646 => kernel_rfl)
  (case q647 => k_is)
  (case q648 => k_is)
  (case q649 => k_is)
  (case q650 => k_is)
  (case q651 => k_is)
  (case q652 => k_is)
  (case q653 => k_is)
  (case q654 => k_is)
  (case q655 => k_is)
  (case q656 => k_is)
  (case q657 => k_is)
  (case q658 => k_is)
  (case q659 => k_is)
  (case q660 => k_is)
  (case q661 => k_is)
  (case q662 => k_is)
  (case q663 => k_is)
  (case q664 => k_is)
  (case q665 => k_is)
  (case q666 => k_is)
  (case q667 => k_is)
  (case q668 => k_is)
  (case q669 => k_is)
  (case q670 => k_is)
  (case q671 => k_is)
  (case q672 => k_is)
  (case q673 => k_is)
  (case q674 => k_is)
  (case q675 => k_is)
  (case lm1 => k_is)
  (case lm2 => k_is)
  (case lm3 => k_is)
  (case lm4 => k_is)
  (case lm5 => rfl)
  (case lm6 => kernel_rfl)
  (case lm7 => kernel_rfl))
