import PyProof.Rows.All
import Wide.All
import OpenK.AllK
import Wide.FinOn
import HandS.ForMost
import HandS.Wide
import HandS.Evl
import HandS.Conv
import HandS.Lambda
import HandS.ExcInit
import HandS.ExcField
import HandS.ExcIs
import HandS.ExcValue
import KE.KExcIs
import HandS.IsInst
import HandS.EndTab
import HandS.WordsExc
import HandS.Walk
import PyProof.Rows.NestShow
import HandS.Property
import HandS.DictComp
import HandS.Defaults
import HandS.Strs
import PyProof.TupleOfSeq
import HandS.More
import KE.GoesEnum
import HandS.Iter
import HandS.Zip
import HandS.Text
import HandS.Deep
import HandS.RaiseMore
import PyProof.ListStr
import HandS.SetTxt0
import HandS.SetFor
import HandS.ExcOwn
import HandS.MakeKw
import PyProof.AutoSeq1
import HandS.MakeKwOnly
import KE.KTupSum
import KE.DatumOrd
import HandS.SortKw
import HandS.Star
import HandS.Style
import HandS.TryOnly
import HandS.TupAny
import HandS.Finally
import HandS.TupMul
import HandS.OwnEq
import HandS.DictEq
import KE.DataMinMax
import KE.KRevSl
import HandS.Small
import HandS.ClsMeth
import HandS.CallLocal
import KE.KDictZip
import KE.KDictList
import KE.SortData
import KE.SortKeyHeap
import PyProof.Rows.TupAdd
import HandS.EndBits
import PySem.Challenge.RW_wholeprint_k04_sites_refused
set_option Elab.async false
set_option autoImplicit false
set_option linter.all false
set_option maxRecDepth 100000
set_option maxHeartbeats 4000000
namespace WP
open PySem L2
structure Bi (mg : Str → Option Value) : Prop where
  int : mg "int" = none
  str : mg "str" = none
  len : mg "len" = none
  list : mg "list" = none
  range : mg "range" = none
  min : mg "min" = none
  max : mg "max" = none
  sorted : mg "sorted" = none
  set : mg "set" = none
  tuple : mg "tuple" = none
  dict : mg "dict" = none
  isinstance : mg "isinstance" = none
  repr : mg "repr" = none
  zip : mg "zip" = none
  enumerate : mg "enumerate" = none
  all : mg "all" = none
  sum : mg "sum" = none
  bool : mg "bool" = none
structure Dn (P : Program) (w : World) (K : PySem.W.Frag) (mg : Str → Option Value) (base : Heap) (CX : CXT) (k : Nat) (x : Str) (ps : List Str) (sp : Sp) : Prop where
  ex : ∃ f fd, mg x = some (.ref f) ∧ PySem.W.keepIn K (.ref f) = true ∧ FnOk P w K mg base CX k f fd ps sp ∧ Binds K fd ps []
theorem pe_d {X : Cx} {CX : CXT} {k : Nat} {ps : List Str} {sp : Sp} {E : XK} {x : Str} {p pos : Pos} {e : Expr} {es : List Expr} {t : TA} (F : Dn X.prog X.w X.K X.mg X.base CX k x ps sp) (hr : Room k X.A) (hx : Passes CX X E)
    (ha : PA X (e :: es) t) (hg : Gl X x := by rfl) (hdb : (x == ("__debug__" : Str)) = false := by decide) (he : starEach (e :: es) X.env = (false, eval e X.env) :: starEach es X.env := by rfl) (hpl : (backTo pos (starEach es X.env)).any (·.1) = false := by rfl) :
    PE X (.Call (.Name x p) (e :: es) [] pos) (tCall sp [] E t) := by
  obtain ⟨f, fd, hm, hk, F, hb⟩ := F.ex
  exact pe_call F hr hg hm hk hb .nil hx ha hdb he hpl
def hd2 (d w : Addr) (H : Hp) : Hp := fun b => if b = d ∨ b = w then none else H b
theorem hd2_of {d w b : Addr} {H : Hp} {o : HO} (h : hd2 d w H b = some o) : H b = some o ∧ b ≠ d ∧ b ≠ w := by
  unfold hd2 at h
  split at h
  · cases h
  · rename_i n
    exact ⟨h, fun e => n (.inl e), fun e => n (.inr e)⟩
theorem hd2_mk {d w b : Addr} {H : Hp} {o : HO} (h : H b = some o) (h1 : b ≠ d) (h2 : b ≠ w) : hd2 d w H b = some o := by
  unfold hd2
  rw [if_neg (fun e => e.elim h1 h2)]
  exact h
theorem hd2_sub {d w : Addr} {H : Hp} : Same (hd2 d w H) H := fun _ _ h => (hd2_of h).1
theorem hd2_new {d w p : Addr} {H : Hp} {o : HO} (h : H p = none) : Same (hd2 d w H) (hd2 d w (upd H p o)) := fun b u e => by
  obtain ⟨h1, h2, h3⟩ := hd2_of e
  exact hd2_mk (by rw [upd_ne (ne_of_none h1 h)]; exact h1) h2 h3
theorem hd2_d {d w : Addr} {H : Hp} {o : HO} : Same (hd2 d w H) (hd2 d w (upd H d o)) := fun b u e => by
  obtain ⟨h1, h2, h3⟩ := hd2_of e
  exact hd2_mk (by rw [upd_ne h2]; exact h1) h2 h3
theorem hd2_w {d w : Addr} {H : Hp} {o : HO} : Same (hd2 d w H) (hd2 d w (upd H w o)) := fun b u e => by
  obtain ⟨h1, h2, h3⟩ := hd2_of e
  exact hd2_mk (by rw [upd_ne h3]; exact h1) h2 h3
theorem hd2_same {d w : Addr} {H H' : Hp} (s : Same H H') : Same (hd2 d w H) (hd2 d w H') := fun b u e => by
  obtain ⟨h1, h2, h3⟩ := hd2_of e
  exact hd2_mk (s _ _ h1) h2 h3
def drD (w c : Addr) (r t : Int) : HO := .dK [((.inr "wide" : Key), .ref w), (.inr "cells", .ref c), (.inr "rest", .int r), (.inr "turn", .int t)]
structure Dr (d w c : Addr) (B : Int) (H : Hp) : Prop where
  dict : ∃ r t, H d = some (drD w c r t) ∧ 0 ≤ t ∧ t ≤ B
  wide : ∃ ns : List Int, H w = some (.lst (ns.map V.int))
  cells : ∃ ns : List Int, hd2 d w H c = some (.lst (ns.map V.int))
theorem Dr.mono {d w c : Addr} {B B' : Int} {H : Hp} (D : Dr d w c B H) (h : B ≤ B') : Dr d w c B' H := by
  obtain ⟨⟨r, t, h1, h2, h3⟩, q, q'⟩ := D
  exact ⟨⟨r, t, h1, h2, by omega⟩, q, q'⟩
def spBegun (K : PySem.W.Frag) : Sp := fun vs H Q _ => ∃ (a : Addr) (ns : List Int), vs = [.ref a] ∧ SqL K H a (ns.map V.int) ∧ ns.length ≤ 63 ∧
  ∀ d w c H', Dr d w c 0 H' → Same H (hd2 d w H') → Q (.ref d) H'
def spBlend : Sp := fun vs H Q _ => ∃ (d w c : Addr) (B : Int), vs = [.ref d] ∧ Dr d w c B H ∧ B ≤ 2 ^ 40 ∧ ∀ r H', Dr d w c (B + 1) H' → Same (hd2 d w H) (hd2 d w H') → Q (.int r) H'
def spTake : Sp := fun vs H Q _ => ∃ (d w c : Addr) (B n : Int), vs = [.ref d, .int n] ∧ Dr d w c B H ∧ B ≤ 2 ^ 40 ∧ 0 < n ∧ n < 2 ^ 200 ∧ ∀ k H', 0 ≤ k → k < n → Dr d w c (B + 1) H' → Same (hd2 d w H) (hd2 d w H') → Q (.int k) H'
end WP
namespace WP
open PySem L2
section
variable {H : Hp} {d w c : Addr} {r t : Int}
theorem drGet {v : V} (k : Str) (h : H d = some (drD w c r t)) (e : valV ([((.inr "wide" : Key), V.ref w), (.inr "cells", .ref c), (.inr "rest", .int r), (.inr "turn", .int t)] : List (Key × V)) (.inr k) = some v) : DGet H d (.str k) (some v) := by
  rw [← e]
  exact DGet.k (k := Sum.inr k) h
theorem dv1 {x : V} {l : List (Key × V)} {k : Str} : valV (((.inr k : Key), x) :: l) (.inr k) = some x := valV_pos rfl
theorem dv2 {x : V} {l : List (Key × V)} {k j : Str} (h : ¬ k = j) : valV (((.inr k : Key), x) :: l) (.inr j) = valV l (.inr j) := valV_neg (fun e => h (Sum.inr.inj e))
theorem dg_wide (h : H d = some (drD w c r t)) : DGet H d (.str "wide") (some (.ref w)) := drGet _ h dv1
theorem dg_cells (h : H d = some (drD w c r t)) : DGet H d (.str "cells") (some (.ref c)) := drGet _ h (by rw [dv2 (by decide +kernel)]; exact dv1)
theorem dg_rest (h : H d = some (drD w c r t)) : DGet H d (.str "rest") (some (.int r)) := drGet _ h (by rw [dv2 (by decide +kernel), dv2 (by decide +kernel)]; exact dv1)
theorem dg_turn (h : H d = some (drD w c r t)) : DGet H d (.str "turn") (some (.int t)) := drGet _ h (by rw [dv2 (by decide +kernel), dv2 (by decide +kernel), dv2 (by decide +kernel)]; exact dv1)
theorem putK_hit {l : List (Key × V)} {k : Key} {y : V} {p : Key × V} (e : p.1 = k) : putK (p :: l) k y = (p.1, y) :: l.map (fun kv => if kv.1 = k then (kv.1, y) else kv) := by
  unfold putK
  rw [if_pos (by simp [e]), List.map_cons, if_pos e]
theorem putK_skip {l : List (Key × V)} {k : Key} {y : V} {p : Key × V} (e : ¬ p.1 = k) : putK (p :: l) k y = p :: putK l k y := by
  unfold putK
  have h : ((p :: l).any fun kv => decide (kv.1 = k)) = (l.any fun kv => decide (kv.1 = k)) := by simp [e]
  rw [h]
  split
  · rw [List.map_cons, if_neg e]
  · rfl
theorem pr_turn (t' : Int) : putK ([((.inr "wide" : Key), V.ref w), (.inr "cells", .ref c), (.inr "rest", .int r), (.inr "turn", .int t)] : List (Key × V)) (.inr "turn") (.int t') = [((.inr "wide" : Key), V.ref w), (.inr "cells", .ref c), (.inr "rest", .int r), (.inr "turn", .int t')] := by
  rw [putK_skip (fun e => absurd (Sum.inr.inj e) (by decide +kernel)), putK_skip (fun e => absurd (Sum.inr.inj e) (by decide +kernel)), putK_skip (fun e => absurd (Sum.inr.inj e) (by decide +kernel)), putK_hit rfl]
  rfl
theorem pr_rest (r' : Int) : putK ([((.inr "wide" : Key), V.ref w), (.inr "cells", .ref c), (.inr "rest", .int r), (.inr "turn", .int t)] : List (Key × V)) (.inr "rest") (.int r') = [((.inr "wide" : Key), V.ref w), (.inr "cells", .ref c), (.inr "rest", .int r'), (.inr "turn", .int t)] := by
  rw [putK_skip (fun e => absurd (Sum.inr.inj e) (by decide +kernel)), putK_skip (fun e => absurd (Sum.inr.inj e) (by decide +kernel)), putK_hit rfl, List.map_cons, if_neg (fun e => absurd (Sum.inr.inj e) (by decide +kernel))]
  rfl
theorem sml : (4 : Nat) < sizeLine := by rw [sizeLine_eq]; decide
theorem dp_turn (t' : Int) (h : H d = some (drD w c r t)) : DPut H d (.str "turn") (.int t') (upd H d (drD w c r t')) := by
  have := DPut.k (k := Sum.inr "turn") (v := .int t') h sml
  rw [pr_turn] at this
  exact this
theorem dp_rest (r' : Int) (h : H d = some (drD w c r t)) : DPut H d (.str "rest") (.int r') (upd H d (drD w c r' t)) := by
  have := DPut.k (k := Sum.inr "rest") (v := .int r') h sml
  rw [pr_rest] at this
  exact this
theorem Dr.newD {H : Hp} {B B' r' t' : Int} (D : Dr d w c B H) (h0 : 0 ≤ t') (hB : t' ≤ B') : Dr d w c B' (upd H d (drD w c r' t')) := by
  obtain ⟨⟨r, t, h1, _⟩, ⟨ns, h2⟩, ⟨ms, h3⟩⟩ := D
  exact ⟨⟨r', t', upd_same, h0, hB⟩, ⟨ns, by rw [upd_ne (ne_of h2 h1 (by intro z; cases z))]; exact h2⟩, ⟨ms, hd2_d _ _ h3⟩⟩
theorem Dr.new {H : Hp} {B : Int} {p : Addr} {o : HO} (D : Dr d w c B H) (hp : H p = none) : Dr d w c B (upd H p o) := by
  obtain ⟨⟨r, t, h1, h4⟩, ⟨ns, h2⟩, ⟨ms, h3⟩⟩ := D
  exact ⟨⟨r, t, by rw [upd_ne (ne_of_none h1 hp)]; exact h1, h4⟩, ⟨ns, by rw [upd_ne (ne_of_none h2 hp)]; exact h2⟩, ⟨ms, hd2_new hp _ _ h3⟩⟩
theorem Dr.newW {H : Hp} {B : Int} {ns : List Int} (D : Dr d w c B H) : Dr d w c B (upd H w (.lst (ns.map V.int))) := by
  obtain ⟨⟨r, t, h1, h4⟩, ⟨ms, h2⟩, ⟨ks, h3⟩⟩ := D
  exact ⟨⟨r, t, by rw [upd_ne (ne_of h1 h2 (by intro z; cases z))]; exact h1, h4⟩, ⟨ns, upd_same⟩, ⟨ks, hd2_w _ _ h3⟩⟩
end
end WP
namespace WP
open PySem L2
theorem at_map {α : Type} {f : α → V} {l : List α} {i : Nat} {x : V} (h : (l.map f)[i]? = some x) : ∃ a, l[i]? = some a ∧ x = f a := by
  rw [List.getElem?_map] at h
  cases e : l[i]? with
  | none => rw [e] at h; cases h
  | some a => rw [e] at h; exact ⟨a, rfl, (Option.some.inj h).symm⟩
theorem at_mem {α : Type} {l : List α} {i : Nat} {x : α} (h : l[i]? = some x) : x ∈ l := List.mem_of_getElem? h
end WP
namespace WP
open PySem L2
theorem sameT {K : PySem.W.Frag} {H H' : Hp} {a : Addr} {xs : List V} (e : Same H H') (h : SqT K H a xs) : SqT K H' a xs := by
  rcases h with (h | ⟨o, h⟩) | h
  · exact .inl (.inl (e _ _ h))
  · exact .inl (.inr ⟨o, e _ _ h⟩)
  · exact .inr h
mutual
theorem Dp.same {K : PySem.W.Frag} {H H' : Hp} (s : Same H H') : ∀ {d : PyData} {v : V}, Dp K H v d → Dp K H' v d
  | _, _, .non => .non
  | _, _, .bl b => .bl b
  | _, _, .int i => .int i
  | _, _, .str x => .str x
  | _, _, .lst h t => .lst (s.seq h) (DpAll.same s t)
  | _, _, .tup h t => .tup (sameT s h) (DpAll.same s t)
theorem DpAll.same {K : PySem.W.Frag} {H H' : Hp} (s : Same H H') : ∀ {ds : List PyData} {vs : List V}, DpAll K H vs ds → DpAll K H' vs ds
  | _, _, .nil => .nil
  | _, _, .cons a b => .cons (Dp.same s a) (DpAll.same s b)
end
theorem dpI {K : PySem.W.Frag} {H : Hp} : ∀ ns : List Int, DpAll K H (ns.map V.int) (ns.map PyData.int)
  | [] => .nil
  | _ :: r => .cons (.int _) (dpI r)
theorem dpS {K : PySem.W.Frag} {H : Hp} : ∀ ns : List Str, DpAll K H (ns.map V.str) (ns.map PyData.str)
  | [] => .nil
  | _ :: r => .cons (.str _) (dpS r)
theorem canI : ∀ ns : List Int, PyData.canLayAll0 (ns.map PyData.int) = true
  | [] => rfl
  | _ :: r => by simp only [List.map_cons, PyData.canLayAll0, PyData.canLay0, Bool.true_and]; exact canI r
theorem depI : ∀ ns : List Int, PyData.depthAll (ns.map PyData.int) = 0
  | [] => rfl
  | _ :: r => by simp only [List.map_cons, PyData.depthAll, PyData.depth, depI r]; rfl
theorem depS : ∀ ns : List Str, PyData.depthAll (ns.map PyData.str) = 0
  | [] => rfl
  | _ :: r => by simp only [List.map_cons, PyData.depthAll, PyData.depth, depS r]; rfl
theorem canS : ∀ ns : List Str, (∀ x ∈ ns, PyData.strOk x = true) → PyData.canLayAll0 (ns.map PyData.str) = true
  | [], _ => rfl
  | x :: r, h => by
    simp only [List.map_cons, PyData.canLayAll0, PyData.canLay0, h x List.mem_cons_self, Bool.true_and]
    exact canS r fun y hy => h y (List.mem_cons_of_mem _ hy)
theorem shI (ns : List Int) : SeqAt.shaped (.list (ns.map PyData.int)) = true := by
  unfold SeqAt.shaped
  simp only [PyData.canLay0, canI, PyData.depth, depI]
  rfl
theorem shS {ns : List Str} (h : ∀ x ∈ ns, PyData.strOk x = true) : SeqAt.shaped (.list (ns.map PyData.str)) = true := by
  unfold SeqAt.shaped
  simp only [PyData.canLay0, canS ns h, PyData.depth, depS]
  rfl
theorem shN : SeqAt.shaped (.list []) = true := by decide +kernel
theorem eqv_nil (ds : List PyData) : PyData.eqv (.list ds) (.list []) = ds.isEmpty := by
  cases ds with
  | nil => simp [PyData.eqv, PyData.eqvAll]
  | cons a r => simp [PyData.eqv, PyData.eqvAll]
/-- a list of ints against a new [] -/
theorem neNilI {K : PySem.W.Frag} {H : Hp} {a p : Addr} {ns : List Int} {Q : VK} (h : H a = some (.lst (ns.map V.int))) (hp : H p = none) (q : Q (.bl (!ns.isEmpty)) (upd H p (.lst []))) : rNeD K (.ref a) (.ref p) (upd H p (.lst [])) Q := by
  refine ⟨_, _, .lst (SqL.of (by rw [upd_ne (ne_of_none h hp)]; exact h)) (dpI ns), .lst (SqL.of upd_same) .nil, shI ns, shN, ?_⟩
  rw [eqv_nil]
  cases ns <;> exact q
theorem neNilS {K : PySem.W.Frag} {H : Hp} {a p : Addr} {ns : List Str} {Q : VK} (h : H a = some (.lst (ns.map V.str))) (ok : ∀ x ∈ ns, PyData.strOk x = true) (hp : H p = none) (q : Q (.bl (!ns.isEmpty)) (upd H p (.lst []))) : rNeD K (.ref a) (.ref p) (upd H p (.lst [])) Q := by
  refine ⟨_, _, .lst (SqL.of (by rw [upd_ne (ne_of_none h hp)]; exact h)) (dpS ns), .lst (SqL.of upd_same) .nil, shS ok, shN, ?_⟩
  rw [eqv_nil]
  cases ns <;> exact q
def spPick (K : PySem.W.Frag) : Sp := fun vs H Q _ => ∃ (d w c : Addr) (B : Int), Dr d w c B H ∧ B ≤ 2 ^ 40 ∧
  ((∃ (a : Addr) (xs : List V), vs = [.ref d, .ref a] ∧ SqL K (hd2 d w H) a xs ∧ xs ≠ [] ∧ xs.length < 2 ^ 60 ∧ ∀ (k : Nat) v H', xs[k]? = some v → Dr d w c (B + 1) H' → Same (hd2 d w H) (hd2 d w H') → Q v H') ∨
   (∃ (z : Str), vs = [.ref d, .str z] ∧ 0 < z.length ∧ z.length ≤ sizeLine ∧ ∀ (k : Nat) v H', z.cps.toList[k]? = some v → Dr d w c (B + 1) H' → Same (hd2 d w H) (hd2 d w H') → Q (.str ⟨#[v]⟩) H'))
end WP
namespace WP
open PySem L2
theorem seq0 {n : Nat} : seqIndex? 0 (n + 1) = some 0 := by simp [seqIndex?]
theorem mergeK_new {l kvs : List (Key × V)} {k : Key} {v : V} (h : valV l k = none) : mergeK l ((k, v) :: kvs) = mergeK (l ++ [(k, v)]) kvs := by
  show mergeK (putK l k v) kvs = _
  rw [putK_new v h]
theorem dv0 {k : Key} : valV ([] : List (Key × V)) k = none := rfl
theorem dr_merge {w c : Addr} {r t : Int} : HO.dK (mergeK [] [((.inr "wide" : Key), .ref w), (.inr "cells", .ref c), (.inr "rest", .int r), (.inr "turn", .int t)]) = drD w c r t := by
  rw [mergeK_new dv0, mergeK_new (by rw [List.nil_append, dv2 (by decide +kernel)]; exact dv0), mergeK_new (by rw [List.nil_append, List.singleton_append, dv2 (by decide +kernel), dv2 (by decide +kernel)]; exact dv0),
    mergeK_new (by simp only [List.nil_append, List.cons_append]; rw [dv2 (by decide +kernel), dv2 (by decide +kernel), dv2 (by decide +kernel)]; exact dv0)]
  rfl
end WP
namespace WP
open PySem L2 PySem.Spec PyProof.Rows
/-- the error object of the class cls at a, its own dict at d -/
def XvO (cls : Value) (d : Option Addr) (a : Addr) : HO := .ext fun h => ∃ (oe : Obj) (vs : Array Value), h.get? a = some oe ∧ Zc cls d oe ∧ oe.data = .fields vs
theorem xvO_ok {P : Program} {w : World} {H : Hp} {h : Heap} {a : Addr} {cls : Value} {d : Option Addr} {oe : Obj} {vs : Array Value} (e : h.get? a = some oe) (z : Zc cls d oe) (hd : oe.data = .fields vs) : ObjOk P w H h a (XvO cls d a) :=
  ⟨⟨oe, vs, e, z, hd⟩, ⟨oe, e⟩, fun _ _ ⟨o, v, q, r⟩ k => ⟨o, v, k o q, r⟩⟩
section
variable {X : Cx} {pins : List (Addr × Obj)} {σ : L2.St} {H : Hp} {s : Shared}
/-- an object of ours that is not tracked yet is tracked from now on -/
theorem adopt {a : Addr} {o : HO} (I : Inv X pins σ H s) (na : H a = none) (h0 : X.s_0.heap.get? a = none) (nL : X.env.locals ≠ a) (nc : ∀ y c, X.env.cells.lookup y = some c → c ≠ a) (np : ∀ p ∈ X.pn ++ pins, p.1 ≠ a)
    (new : ObjOk X.prog X.w (upd H a o) s.heap a o) : Inv X pins σ (upd H a o) s := by
  have old : ∀ b ob, X.s_0.heap.get? b = some ob → b ≠ a := fun b ob e z => by
    rw [z, h0] at e
    cases e
  have ub := I.base
  refine ⟨I.ok, I.os, I.bare, ⟨ub.keep, ub.slot, fun b ob e n hx => ?_, ub.there, fun b xs e => ?_, fun b ob u e => ?_, fun b ps e => ?_⟩, I.loc, I.cell, ?_, fun y c e => ?_, fun p hp => ?_, I.hok.laidN (fun _ _ q => q) na new, I.len⟩
  · rw [upd_ne (old b ob e)]
    exact ub.free b ob e n hx
  · have q := ub.tups b xs e
    rw [upd_ne (ne_of_none q na)]
    exact q
  · have q := ub.frzs b ob u e
    rw [upd_ne (ne_of_none q na)]
    exact q
  · obtain ⟨m, q⟩ := ub.tbls b ps e
    exact ⟨m, by rw [upd_ne (ne_of_none q na)]; exact q⟩
  · rw [upd_ne nL]
    exact I.free
  · rw [upd_ne (nc y c e)]
    exact I.freeC y c e
  · obtain ⟨p1, p2, p3⟩ := I.pin p hp
    exact ⟨p1, by rw [upd_ne (np p hp)]; exact p2, p3⟩
end
/-- what «except x as n» wishes of an error of the body that it takes: the error tracked, the suite's reading; slot i is n's -/
def wKeep (K : PySem.W.Frag) (c : Value) (i : Nat) (ts : Addr → TS) (D : Ends) : WX := fun cls d σ H =>
  PySem.W.exmOne K cls c = some true ∧ ∀ a, H a = none → ts a { nx := fun σ' H' => D.nx (σ'.set i none) H', rt := D.rt, bk := fun σ' H' => D.bk (σ'.set i none) H', ct := fun σ' H' => D.ct (σ'.set i none) H' } (σ.set i (some (.ref a))) (upd H a (XvO cls d a))
section
variable {X : Cx} {x n : Str} {c : Value} {i : Nat} {body rest : List Stmt} {b₀ : Stmt} {np pos pos' : Pos} {tb : WX → TS} {ts : Addr → TS}
theorem ps_try_keep (hs : X.stack = X.env :: X.outer) (hf : X.env.frame = some X.env.locals) (hN : X.N.Nodup) (hi : X.N[i]? = some n) (hln : X.env.kindOf n = some .local) (hc : Names X x c) (hex0 : X.ex = [])
    (hb : ∀ (W : WX) (pn : List (Addr × Obj)) (xe : Value → Shared → Prop), Takes (X.tr pn xe) W → PassesOwn (model X.prog X.w) X.A X.env xe → PSs (X.tr pn xe) body (tb W))
    (hsu : ∀ (a : Addr) (pn : List (Addr × Obj)), PSs (X.suite a pn) (b₀ :: rest) (ts a)) :
    PS X (.Try body [.ExceptHandler (some (.Name x np)) (some n) (b₀ :: rest) pos'] [] [] pos) (fun D σ H => tb (wKeep X.K c i ts D) D σ H) := by
  refine ⟨fun pins s σ H D I h => ?_⟩
  have okX := I.ok
  have frX : X.A.frames = some (X.env :: X.outer) := by rw [okX.frames, hs]
  refine wpAny_Try_except ?_
  refine wpAny_mono ((hb (wKeep X.K c i ts D) (X.pn ++ pins)
    (fun e s₁ => wpAny (model X.prog X.w) X.A (noteFrame e X.env) (fun _ s₂ => wpAny (model X.prog X.w) X.A (setFlight e none)
      (fun _ s₃ => wpAny (model X.prog X.w) X.A (handleBy e X.env [.ExceptHandler (some (.Name x np)) (some n) (b₀ :: rest) pos']) (SP X pins D) X.xe s₃) X.xe s₂) X.xe s₁)
    (fun u s' air => ?_) PassesOwn.looking).run [] s σ H D (I.toTry _) h) (fun fl s1 hsp => ?_) (fun e s1 he => he)
  · obtain ⟨a, B, sI, pins1, σ1, H1, cls, d, rfl, Jt, nb, up, sky, na, os, ag, hex, hts⟩ := air
    have J : Inv X pins σ1 H1 sI := Jt.ofTry okX
    have sky1 : Sky B (X.env :: X.outer) a (Zc cls d) X.env.locals s'.heap := by rw [← hs]; exact sky
    show wpAny (model X.prog X.w) X.A (noteFrame (.ref a) X.env) _ _ _
    refine Sky.land Zc.steady frX hf sky1 fun h3 fl3 up3 => ?_
    have J3 : Inv X pins σ1 H1 { s' with heap := h3 } := J.landed nb fl3.1 (up.trans up3) os ag
    obtain ⟨oe3, vs3, he3, hz3, hd3⟩ := fl3.there
    have out : a ∉ frs (X.env :: X.outer) := fun hm => by
      obtain ⟨_, ob, eb, hnf⟩ := fl3.2.2.1.mem hm
      rw [he3] at eb
      cases eb
      exact hnf _ hd3
    have nL : a ≠ X.env.locals := fun z => out (List.mem_filterMap.mpr ⟨X.env, List.mem_cons_self, by rw [hf, z]⟩)
    have nF : a ∉ X.fs := fun hm => by
      obtain ⟨e, he, q⟩ := List.mem_filterMap.mp hm
      exact out (List.mem_filterMap.mpr ⟨e, List.mem_cons_of_mem _ he, q⟩)
    have gone : sI.heap.get? a = none := by
      cases e : sI.heap.get? a with
      | none => rfl
      | some ob =>
        have q := nb a ob e (by rw [hs]; exact out)
        rw [fl3.2.1] at q
        cases q
    have S3 := J3.suite he3 hd3 na nL nF
    refine wpAny_handleBy_cons (codeAny_handlers_test ?_) (by intro q; cases q)
    have LT : PySem.W.Looks (model X.prog X.w) h3 (typeOf (.ref a)) cls := fun A Q E s k q => wpAny_typeOf_ref (k _ _ he3) (by rw [hz3.1]; exact q)
    have LM := PySem.W.exm_one (M := model X.prog X.w) (J3.kIn) LT hex
    have test : ∀ {Q : Value → Shared → Prop} {E : Value → Shared → Prop}, Q c { s' with heap := h3 } → wpAny (model X.prog X.w) (X.A.mark (some (.ref a))) (eval (.Name x np) X.env) Q E { s' with heap := h3 } := fun {Q E} q => by
      obtain ⟨hg, hdbg, hm | ⟨hm, hv, hnn⟩⟩ := hc
      · exact ld_glob (X := X.suite a ((a, oe3) :: (X.pn ++ pins))) S3 hg hm q hdbg
      · exact ld_blt (X := X.suite a ((a, oe3) :: (X.pn ++ pins))) S3 hg hm hv q hnn hdbg
    refine test (LM.here ?_)
    refine codeAny_handlers_suite_as ?_
    refine HandSPX.lands_againZ fl3 fun h4 fl4 up4 => ?_
    have J4 : Inv X pins σ1 H1 { s' with heap := h4 } := J.landed nb fl4.1 ((up.trans up3).trans up4) os ag
    obtain ⟨oe4, vs4, he4, hz4, hd4⟩ := fl4.there
    have z0 : X.s_0.heap.get? a = none := by
      cases e : X.s_0.heap.get? a with
      | none => rfl
      | some ob =>
        obtain ⟨o', q⟩ := J.base.there a ob e (by rw [hex0]; exact fun z => nomatch z)
        rw [gone] at q
        cases q
    have nc : ∀ y cc, X.env.cells.lookup y = some cc → cc ≠ a := fun y cc e z => by
      obtain ⟨v, ob, ho, hd⟩ := J4.cell y cc e
      have ho' : h4.get? cc = some ob := ho
      rw [z, he4] at ho'
      cases ho'
      rw [hd4] at hd
      cases hd
    have npn : ∀ p ∈ X.pn ++ pins, p.1 ≠ a := fun p hp z => by
      have q := (J.pin p hp).1
      rw [z, gone] at q
      cases q
    have A4 : Inv X pins σ1 (upd H1 a (XvO cls d a)) { s' with heap := h4 } := adopt J4 na z0 (Ne.symm nL) nc npn (xvO_ok he4 hz4 hd4)
    have S4 : Inv (X.suite a (X.pn ++ pins)) [] σ1 (upd H1 a (XvO cls d a)) { s' with heap := h4 } :=
      ⟨okX.suite _ _, A4.os, A4.bare, A4.base, A4.loc, A4.cell, A4.free, A4.freeC, fun p hp => A4.pin p (by rw [List.append_nil] at hp; exact hp), A4.hok, A4.len⟩
    refine store_ok (X := X.suite a (X.pn ++ pins)) (v := .ref a) S4 hN hi (.inl hln) rfl (fun s5 S5 => ?_) (.inr hln)
    refine wpAny_mono ((hsu a (X.pn ++ pins)).run [] s5 _ _ _ S5 (hts a na)) (fun f s6 hsp => ?_) (fun _ _ z => False.elim z)
    have fin : ∀ {σ6 : L2.St} {H6 : Hp} {Q : Shared → Prop}, Inv (X.suite a (X.pn ++ pins)) [] σ6 H6 s6 → (∀ s7, Inv X pins (σ6.set i none) H6 s7 → Q s7) →
        wpAny (model X.prog X.w) X.A (do bindName X.env n .none; unbindBehindTheSuite X.env n pos') (fun _ s7 => Q s7) X.xe s6 := fun {σ6 H6 Q} S6 hq =>
      gone_ok (X := X) (pins := pins) ⟨okX, S6.os, S6.bare, S6.base, S6.loc, S6.cell, S6.free, S6.freeC, fun p hp => S6.pin p (List.mem_append_left _ hp), S6.hok, S6.len⟩ hN hi hln hq
    cases f with
    | next =>
      obtain ⟨σ6, H6, S6, q6⟩ := hsp
      exact fin S6 fun s7 J7 => ⟨_, _, J7, q6⟩
    | brk =>
      obtain ⟨σ6, H6, S6, q6⟩ := hsp
      exact fin S6 fun s7 J7 => ⟨_, _, J7, q6⟩
    | cont =>
      obtain ⟨σ6, H6, S6, q6⟩ := hsp
      exact fin S6 fun s7 J7 => ⟨_, _, J7, q6⟩
    | ret u =>
      obtain ⟨v6, σ6, H6, S6, r6, q6⟩ := hsp
      exact fin S6 fun s7 J7 => ⟨_, _, _, J7, r6, q6⟩
  · cases fl with
    | next =>
      obtain ⟨σ2, H2, J2, q⟩ := hsp
      exact wpAny_execs_nil ⟨σ2, H2, J2.ofTry okX, q⟩
    | brk =>
      obtain ⟨σ2, H2, J2, q⟩ := hsp
      exact ⟨σ2, H2, J2.ofTry okX, q⟩
    | cont =>
      obtain ⟨σ2, H2, J2, q⟩ := hsp
      exact ⟨σ2, H2, J2.ofTry okX, q⟩
    | ret u =>
      obtain ⟨v, σ2, H2, J2, r, q⟩ := hsp
      exact ⟨v, σ2, H2, J2.ofTry okX, r, q⟩
end
/-- an error in the air of X has slots for all names of X -/
theorem takes_len {X : Cx} {W : WX} (tk : Takes X W) : Takes X (fun cls d σ H => σ.length = X.N.length → W cls d σ H) := fun u s' ⟨a, B, sI, pins, σ, H, cls, d, e, I, nb, up, sky, na, os, ag, w⟩ =>
  tk u s' ⟨a, B, sI, pins, σ, H, cls, d, e, I, nb, up, sky, na, os, ag, w I.len⟩
/-- a reading may be weakened -/
theorem pe_weak {X : Cx} {e : Expr} {t : TE} (h : PE X e t) : PE X e (fun σ H Q => ∃ Q0 : VK, t σ H Q0 ∧ ∀ v H', Q0 v H' → Q v H') := ⟨fun pins s σ H Q I ⟨Q0, h1, h2⟩ =>
  thn (h.run pins s σ H Q0 I h1) fun _ _ ⟨v, H', I', r, q⟩ => ⟨v, H', I', r, h2 v H' q⟩⟩
/-- what _law_caught makes of the reading of the lambda that it gets -/
def TCaught (K : PySem.W.Frag) (CP : Addr) : (XK → Hp → VK → Prop) → Hp → VK → Prop := fun tl H Q =>
  tl (fun cls d H' => PySem.W.exmOne K cls (.ref CP) = some true ∧ ∀ a, H' a = none → Q (.ref a) (upd H' a (XvO cls d a))) H (fun _ H' => Q .non H')
section
variable {X : Cx}
theorem caught_gives {wk ch er pe x q : Str} {sg : Scope} {g CP : Addr} {cdg : Value} {j : Nat} {p1 p2 p3 p4 p5 p6 p7 p8 p9 p10 p11 p12 p13 p14 : Pos} (hnd : [wk, ch, er].Nodup) (hch : sg.names.lookup ch = some .local) (her : sg.names.lookup er = some .local)
    (hge : sg.names.lookup pe = some .globalImplicit) (hme : X.mg pe = some (.ref CP)) (hde : (pe == ("__debug__" : Str)) = false) (hd1 : (ch == ("__debug__" : Str)) = false) (hd2 : (ch == ("__classdict__" : Str)) = false) (hd3 : (er == ("__debug__" : Str)) = false) (hd4 : (er == ("__classdict__" : Str)) = false) :
    LamX.GivesTo X [wk, ch, er] x sg g cdg [.Assign [.Name ch p1] (.Constant .none j p2) p3, .Try [.Expr (.Call (.Name wk p4) [] [] p5) p6] [.ExceptHandler (some (.Name pe p7)) (some er) [.Assign [.Name ch p8] (.Name er p9) p10] p11] [] [] p12, .Return (some (.Name ch p13)) p14] wk q (TCaught X.K CP) := by
  intro f c' s H Q tl act hc h
  have hgl : Gl (cxOf C8.CX0 X.prog X.w X.K X.mg X.base [wk, ch, er] x sg g cdg X.A X.stack s H C8.E0).nox pe := hge
  refine ⟨_, pss_cons (ps_set (i := 1) hnd rfl (.inl hch) pe_non) (pss_cons (ps_try_keep (X := (cxOf C8.CX0 X.prog X.w X.K X.mg X.base [wk, ch, er] x sg g cdg X.A X.stack s H C8.E0).nox) (i := 2) (c := .ref CP)
      (tb := fun W D σ H => ∃ Ech : XK, (∀ cls d σ' H', σ'.length = 3 → Ech cls d H' → W cls d σ' H') ∧ σ[0]? = some (some (.ref f)) ∧ H c' = some (LamX.CodeO c' q) ∧ tl Ech H (fun _ H' => Q .non H') ∧ ∀ H', Q .non H' → D.nx σ H')
      rfl rfl hnd rfl her ⟨hgl, hde, .inl hme⟩ rfl (fun W pn xe tk _ => ?_) (fun a pn => pss_one (ps_set (i := 1) hnd rfl (.inl hch) (pe_var (i := 2) rfl (.inl her) hd3 hd4)))) (pss_one (ps_ret (pe_var (i := 1) rfl (.inl hch) hd1 hd2)))), ?_⟩
  · refine ⟨fun pins s' σ H' D I h' => ?_⟩
    obtain ⟨Ech, hW, h1, h2, h3, h4⟩ := h'
    have hp := act (fun cls d σ H => σ.length = 3 → W cls d σ H) pn xe Ech p4 p5 (takes_len tk) (fun cls d σ' H' e z => hW cls d σ' H' z e)
    have hq := pss_one (ps_expr (pos := p6) (pe_weak hp))
    exact hq.run pins s' σ H' D I ⟨_, ⟨h1, h2, h3⟩, fun _ H1 q => h4 H1 q⟩
  · refine ⟨fun cls d H' => PySem.W.exmOne X.K cls (.ref CP) = some true ∧ ∀ a, H' a = none → Q (.ref a) (upd H' a (XvO cls d a)), fun cls d σ' H' hl hE => ⟨hE.1, fun a ha => ?_⟩, rfl, hc, h, fun H' q => ⟨_, rfl, q⟩⟩
    · match σ', hl with
      | [s0, s1, s2], _ => exact ⟨_, rfl, _, rfl, hE.2 a ha⟩
end
def spI1 (C : Addr) (fld : Str) : Sp := fun vs H Q _ => ∃ (a : Addr) (v : V), vs = [.ref a, v] ∧ H a = some (exo a C none) ∧ ∀ dx, H dx = none → dx ≠ a → Q .non (upd (upd H dx (exd dx [(fld, v)])) a (exo a C (some dx)))
/-- what is known of an error class x (at C) with the one field fld; CP: the class that is caught -/
structure Err1 (P : Program) (w : World) (K : PySem.W.Frag) (mg : Str → Option Value) (base : Heap) (CP : Addr) (x : Str) (C : Addr) (fld : Str) : Prop where
  T : OexC K C
  xf : XfC K C
  no : PySem.W.findIn K (.ref C) fld = some none
  ec : ExcC K C
  mgC : mg x = some (.ref C)
  init : ∃ fI fd, PySem.W.findIn K (.ref C) "__init__" = some (some (.ref fI)) ∧ PySem.W.typeIn K (.ref fI) = some (.type "function") ∧ FnOk P w K mg base CX0 1 fI fd ["self", fld] (spI1 C fld) ∧ Binds K fd ["self", fld] []
  sub : PySem.W.exmOne K (.ref C) (.ref CP) = some true
theorem made_end {H1 : Hp} {a dx C : Addr} {fs : List (Str × V)} (ha : H1 a = none) (hne : dx ≠ a) : upd (del (upd (upd (upd H1 a (exo a C none)) dx (exd dx fs)) a (exo a C (some dx))) a) dx (.xd fs) = upd H1 dx (.xd fs) := by
  funext b
  by_cases h1 : b = dx
  · rw [h1, upd_same, upd_same]
  · rw [upd_ne h1, upd_ne h1]
    by_cases h2 : b = a
    · rw [h2, del_same, ha]
    · rw [del_ne h2, upd_ne h2, upd_ne h1, upd_ne h2]
section
variable {X : Cx} {CP C : Addr} {x fld : Str} {e : Expr} {te : TE} {p pos pos' : Pos} {W : WX}
/-- raise x(e) -/
theorem raise1 (T : Err1 X.prog X.w X.K X.mg X.base CP x C fld) (hc : X.calm = true) (tk : Takes X W) (hr : Room 2 X.A) (he : PE X e te) (hg : Gl X x := by rfl)
    (hdb : (x == ("__debug__" : Str)) = false := by decide) (hs : starEach [e] X.env = (false, eval e X.env) :: starEach [] X.env := by rfl) (hpl : (backTo pos (starEach [] X.env)).any (·.1) = false := by rfl) :
    PS X (.Raise (some (.Call (.Name x p) [e] [] pos)) none pos') (fun _ σ H => te σ H fun v H1 => ∀ d, H1 d = none → W (.ref C) (some d) σ (upd H1 d (.xd [(fld, v)]))) := by
  obtain ⟨fI, fd, h1, h2, h3, h4⟩ := T.init
  have Z := ps_raise (pos := pos') hc tk (pmk_oex (p := p) (pos := pos) T.T h1 h2 h3 hr h4 .nil (fun _ _ _ _ _ _ _ h => h.elim) hg T.mgC (pa_cons (pe_weak he) pa_nil hs) hdb hs hpl)
  refine ⟨fun pins s σ H D I h => Z.run pins s σ H D I ⟨_, h, fun v H1 q => ⟨(by show 1 ≤ 1000; decide), fun a ha => ?_⟩⟩⟩
  refine ⟨a, v, rfl, upd_same, fun dx hdx hne => ⟨rfl, dx, [(fld, v)], upd_same, ?_, ?_, ?_⟩⟩
  · rw [upd_ne hne, upd_same]
  · rw [upd_ne hne] at hdx
    exact hdx
  · rw [made_end ha hne]
    rw [upd_ne hne] at hdx
    exact q dx hdx
/-- e.f of an error that was caught -/
theorem pe_xfld (hb : attributeBase e fld X.env (eval e X.env) = eval e X.env) (he : PE X e te) :
    PE X (.Attribute e fld pos) (fun σ H Q => te σ H fun y H1 => ∃ (a C d : Addr) (fs : List (Str × V)) (v : V), y = .ref a ∧ H1 a = some (XvO (.ref C) (some d) a) ∧ XfC X.K C ∧ PySem.W.findIn X.K (.ref C) fld = some none ∧ H1 d = some (.xd fs) ∧ fs.lookup fld = some v ∧ Q v H1) := by
  refine ⟨fun pins s σ H Q I h => ?_⟩
  refine attr_of hb (thn (he.run pins s σ H _ I h) fun u s1 hh => ?_)
  obtain ⟨y, H1, I1, ry, a, C, d, fs, v, rfl, ha, T, hno, hd, l, q⟩ := hh
  obtain rfl : u = Value.ref a := ry
  obtain ⟨⟨oe, vs, hget, hz, hdat⟩, _, _⟩ := I1.hok a _ ha
  obtain ⟨mA, hns, hr⟩ := (show ObjOk X.prog X.w H1 s1.heap d (.xd fs) from I1.hok d _ hd)
  obtain ⟨od, ho, hl⟩ := lookIn_ns hns
  obtain ⟨u, hu, ru⟩ := RelO.some_of (v := v) (o := mA fld) (by rw [← l]; exact hr fld)
  have inst : PySem.W.InstAt s1.heap a oe C (some od) := ⟨hget, hz.1, by unfold PySem.W.notCls; rw [hdat] <;> rfl, by rw [hz.2]; exact ho⟩
  exact HandSPX.exc_get I1.kIn inst T.ga T.gg T.exC (PySem.W.findObj_own T.hdC hno rfl (by rw [hl, hu])) (handed_of ru) ⟨v, H1, I1.tok _, ru, q⟩
end
def rIsX (K : PySem.W.Frag) : List V → Hp → VK → Prop := fun xs H Q => ∃ (a C : Addr) (d : Option Addr) (c : V) (cv : Value) (b : Bool), xs = [.ref a, c] ∧ H a = some (XvO (.ref C) d a) ∧ (∀ dd, d = some dd → ∃ fs, H dd = some (.xd fs)) ∧ ExcC K C ∧ ClsV c cv ∧ PySem.W.kitOne K (.ref C) cv = some b ∧ Q (.bl b) H
theorem call_isX {X : Cx} : CallR X (.builtin "isinstance") (rIsX X.K) := by
  intro pins s σ H xs us Q I r h
  obtain ⟨a, C, d, c, cv, b, rfl, ha, hdd, E, hc, hk, q⟩ := h
  obtain ⟨u1, u2, rfl, r1, r2⟩ := vals2 r
  cases (show u1 = Value.ref a from r1)
  have e2 := hc.eq r2
  subst e2
  obtain ⟨⟨oe, vs, hget, hz, hdat⟩, _, _⟩ := I.hok a _ ha
  have inst : ∃ od, PySem.W.InstAt s.heap a oe C od := by
    cases d with
    | none => exact ⟨none, hget, hz.1, by unfold PySem.W.notCls; rw [hdat] <;> rfl, by rw [hz.2]; trivial⟩
    | some dd =>
      obtain ⟨fs, hx⟩ := hdd dd rfl
      obtain ⟨mA, hns, _⟩ := (show ObjOk X.prog X.w H s.heap dd (.xd fs) from I.hok dd _ hx)
      obtain ⟨od, ho, _⟩ := lookIn_ns hns
      exact ⟨some od, hget, hz.1, by unfold PySem.W.notCls; rw [hdat] <;> rfl, by rw [hz.2]; exact ho⟩
  obtain ⟨od, inst⟩ := inst
  have hcl : (PySem.W.clsIn X.K C).isSome = true := by
    obtain ⟨cd, hcd, _⟩ := PySem.W.any_some E.hd
    rw [hcd]
    rfl
  exact PySem.W.kia_one (PySem.W.kitx_exc hcl E.hg E.hk E.hs E.ha E.hn E.ht E.hm) I.kIn inst hk (fun z => nomatch z) fun tk => ⟨.bl b, H, I.tok tk, rfl, q⟩
end WP
namespace WP
open PySem L2 PySem.Spec PyProof.Rows
structure GnOk (P : Program) (w : World) (K : PySem.W.Frag) (mg : Str → Option Value) (base : Heap) (CX : CXT) (k : Nat) (f : Addr) (fd : FuncData) (ps : List Str) (sp : Sp) : Prop where
  len : ∀ vs H Q E, sp vs H Q E → vs.length = ps.length
  run : ∀ (A : Around) (outer : List Env) (s : Shared) (H : Hp) (args : Args) (us : List Value) (vs : List V) (Q : VK) (E : XK), A.guards = some [] → Room k A → Env0 P w K mg base A outer s H → BindsTo s fd args (ps.zip us) → Vals vs us → sp vs H Q E →
    codeAny (model P w) A (.call (.ref f) args) (CR CX outer P w H s Q E) s
section
variable {P : Program} {w : World} {K : PySem.W.Frag} {mg : Str → Option Value} {base : Heap} {CX : CXT}
/-- the rule for such a def -/
theorem okG {x qual : Str} {st : Stmt} {f : Addr} {fd : FuncData} {N ps : List Str} {k : Nat} {sp : Sp} (F : Fun K x qual st f fd) (S : FnScope N ps (defScope st)) (len : ∀ vs H Q E, sp vs H Q E → vs.length = ps.length)
    (hbody : ∀ (cdv : Value) (A : Around) (outer : List Env) (s : Shared) (H : Hp) (vs : List V) (Q : VK) (E : XK), A.guards = some [] → PySem.W.codeIn K cdv qual = true → (∃ oc od sl, K.lookup f = some ⟨oc, od, .func fd, sl⟩ ∧ fd.code = cdv) →
      Room k (A.deeper (envOfC qual (defScope st) s.heap.objs.size f cdv)) → sp vs H Q E →
      ∃ t, PSs (cxOf CX P w K mg base N qual (defScope st) f cdv A outer s H E) (defBody st) t ∧ t { nx := fun _ H' => Q .non H', rt := Q } (L2.start N vs) H) : GnOk P w K mg base CX (k + 1) f fd ps sp := by
  refine ⟨len, fun A outer s H args us vs Q E hg hr e0 hb r hs => ?_⟩
  obtain ⟨oc, od, kV, doc, pm, an, cdv, ct, osl, rfl, lk, hcd⟩ := F.ex
  exact LamX.run_ofS lk hcd S hr e0 hb r (len vs H Q E hs) fun hr' => hbody cdv A outer s H vs Q E hg hcd ⟨oc, od, osl, lk, rfl⟩ hr' hs
end
def rRepr (K : PySem.W.Frag) : List V → Hp → VK → Prop := fun xs H Q => ∃ (v : V) (d : PyData), xs = [v] ∧ Dp K H v d ∧ d.showable = true ∧ d.hasDict = false ∧ d.depth ≤ 40 ∧ d.shown.length ≤ sizeLine ∧ Q (.str d.shown) H
theorem call_reprD {X : Cx} (hg : X.A.guards = some []) (hu : X.A.units + 64 < cLine) : CallR X (.builtin "repr") (rRepr X.K) := by
  intro pins s σ H xs us Q I r h
  obtain ⟨v, d, rfl, hd, sh, nd, dep, hz, q⟩ := h
  obtain ⟨u, rfl, ru⟩ := vals1 r
  obtain ⟨as, rd⟩ := Dp.reads I d v u hd ru
  cases hd with
  | non =>
    cases ru
    exact PySem.P.repr_of_none ⟨.str _, H, I.tok _, ⟨_, rfl⟩, by simpa only [PyData.shown] using q⟩
  | bl b =>
    cases ru
    exact PySem.P.repr_of_bool ⟨.str _, H, I.tok _, ⟨_, rfl⟩, by cases b <;> simpa only [PyData.shown] using q⟩
  | int i =>
    obtain ⟨t, rfl⟩ := ru
    exact PySem.P.repr_of_int (by simpa [PyData.showable] using sh) ⟨.str _, H, I.tok _, ⟨_, rfl⟩, by simpa only [PyData.shown] using q⟩
  | str x =>
    obtain ⟨t, rfl⟩ := ru
    exact PySem.P.repr_of_str ⟨.str _, H, I.tok _, ⟨_, rfl⟩, by simpa only [PyData.shown] using q⟩ (by simpa only [PyData.shown] using hz)
  | lst h1 h2 =>
    cases ru
    exact repr_of_reads' rd sh (PyData.noDict_hsm nd) hg (by omega) (fun _ _ e => e) (fun h' u tk hk => ⟨.str _, H, I.kept (t' := tk) hk, ⟨_, rfl⟩, q⟩) hz
  | tup h1 h2 =>
    cases ru
    exact repr_of_reads' rd sh (PyData.noDict_hsm nd) hg (by omega) (fun _ _ e => e) (fun h' u tk hk => ⟨.str _, H, I.kept (t' := tk) hk, ⟨_, rfl⟩, q⟩) hz
end WP
namespace WP
open PySem L2 PySem.Spec PyProof.Rows LamX
section
variable {P : Program} {w : World} {K : PySem.W.Frag} {mg mb : Str → Option Value} {CX : CXT} {k : Nat} {fa a : Addr} {cs : List (Addr × Addr)} {fd : FuncData} {x : Str} {sp : Sp} {st : Shared} {vs : List Value} {ns : List Int}
def scriptObj (vs : List Value) : Obj := { cls := .type "list", data := .seq vs.toArray }
def tabObj : Obj := { cls := .none, data := .fields #[] }
/-- the abstract heap at the law's entry: the script (if the written part does not know it) and the tables -/
def entryH (K : PySem.W.Frag) (a : Addr) (cs : List (Addr × Addr)) (vs : List Value) (ns : List Int) : Hp := fun b =>
  if b ∈ cs.map (·.2) then some (.tbl #[]) else if b = a ∧ K.lookup a = none then some (.frz (scriptObj vs) (.lst (ns.map V.int))) else none
theorem law_callG (KX : K.In st.heap) (gl : st.heap.Ns mainGlobals mg) (bl : st.heap.Ns builtinsNs mb) (bb : ∀ y : Str, y ≠ "__name__" → mb y = bootBuiltins y) (lim : st.heap.NoLimit) (gens0 : st.gens = #[])
    (tabs : ∀ p ∈ cs, st.heap.get? p.2 = some tabObj) (tabsK : ∀ p ∈ cs, K.lookup p.2 = none) (hds : ∀ p ∈ cs, PySem.W.CodeHd st.heap p.1 p.2)
    (bmod : ∃ (bm : Addr) (ob : Obj), mg "__builtins__" = some (.ref bm) ∧ bm ≠ builtinsNs ∧ st.heap.get? bm = some ob ∧ ob.cls = .type "module" ∧ ob.dict = some builtinsNs ∧ ob.data = .plain)
    (scr : st.heap.get? a = some (scriptObj vs)) (hin : IntsAre vs ns) (len : ns.length ≤ sizeLine) (room : Room k callerA)
    (F : ∀ base : Heap, K.In base → base.Ns mainGlobals mg → (∀ p ∈ cs, TabB base mg p.1 p.2) → GnOk P w K mg base CX k fa fd [x] sp) (bind : ∀ (s : Shared) (u : Value), BindsTo s fd ⟨[u], []⟩ [(x, u)])
    (want : ∀ H : Hp, (∀ p ∈ cs, H p.2 = some (.tbl #[])) → SqL K H a (ns.map V.int) → sp [.ref a] H (fun v _ => v = .bl true) fun _ _ _ => False)
    (noX : ∀ H e s', CX [] H st (fun _ _ _ => False) e s' → False) :
    codeAny (model P w) callerA (.call (.ref fa) ⟨[.ref a], []⟩) (fun r s' => r = .ok (.ret (.bool true)) ∧ OldK st.heap s'.heap ∧ s'.os = st.os ∧ AllBare s'.gens) st := by
  have valsI := vals_ints hin
  have lenI := hin.length
  have tabOf : ∀ b : Addr, b ∈ cs.map (·.2) → st.heap.get? b = some tabObj := fun b m => by
    obtain ⟨p, hp, rfl⟩ := List.mem_map.mp m
    exact tabs p hp
  have memOf : ∀ p ∈ cs, p.2 ∈ cs.map (·.2) := fun p hp => List.mem_map.mpr ⟨p, hp, rfl⟩
  have aNo : a ∉ cs.map (·.2) := fun m => by
    have q := (tabOf a m).symm.trans scr
    have z : Data.fields #[] = Data.seq vs.toArray _ := congrArg Obj.data (Option.some.inj q)
    cases z
  generalize eH : entryH K a cs vs ns = H
  have H1 : ∀ p ∈ cs, H p.2 = some (.tbl #[]) := fun p hp => by
    rw [← eH]
    exact if_pos (memOf p hp)
  have H2 : ∀ b o, H b = some o → (b ∈ cs.map (·.2) ∧ o = .tbl #[]) ∨ (b = a ∧ K.lookup a = none ∧ o = .frz (scriptObj vs) (.lst (ns.map V.int))) := fun b o e => by
    rw [← eH] at e
    unfold entryH at e
    split at e
    · rename_i m
      exact .inl ⟨m, (Option.some.inj e).symm⟩
    · split at e
      · rename_i m
        exact .inr ⟨m.1, m.2, (Option.some.inj e).symm⟩
      · cases e
  have H3 : SqL K H a (ns.map V.int) := by
    cases ek : K.lookup a with
    | some o =>
      have e := (KX a o ek).symm.trans scr
      cases e
      exact .inr ⟨_, vs.toArray, _, ek, rfl, rfl, rfl, by rw [List.size_toArray, lenI]; exact len, by simpa using valsI⟩
    | none =>
      refine .inl (.inr ⟨scriptObj vs, ?_⟩)
      rw [← eH]
      unfold entryH
      rw [if_neg aNo, if_pos ⟨rfl, ek⟩]
  have hokH : HOk P w H st.heap := fun b o e => by
    rcases H2 b o e with ⟨m, rfl⟩ | ⟨rfl, _, rfl⟩
    · exact tabOf b m
    · exact ⟨scr, by rw [List.length_map]; exact len, vs, _, valsI, scr⟩
  -- what is no list and no empty table is not tracked
  have bare : ∀ {b : Addr} {o : Obj}, st.heap.get? b = some o → (∀ us n, o.data ≠ .seq us n) → o.data ≠ .fields #[] → H b = none := fun {b o} e n1 n2 => by
    cases q : H b with
    | none => rfl
    | some u =>
      rcases H2 b u q with ⟨m, _⟩ | ⟨rfl, _⟩
      · have z := (tabOf b m).symm.trans e
        cases z
        exact (n2 rfl).elim
      · have z := scr.symm.trans e
        cases z
        exact (n1 _ _ rfl).elim
  have below : ∀ {b : Addr} {o : Obj}, st.heap.get? b = some o → H b = none → (hidT st.heap H).get? b = some o := fun e n => hidT_get e n
  have nsB : ∀ {b : Addr} {m : Str → Option Value}, st.heap.Ns b m → (hidT st.heap H).Ns b m := fun {b m} ⟨o, es, ep, e, dt, r⟩ =>
    ⟨o, es, ep, below e (bare e (fun us n z => by rw [dt] at z; cases z) (fun z => by rw [dt] at z; cases z)), dt, r⟩
  have kB : K.In (hidT st.heap H) := fun b o e => below (KX b o e) (by
    cases q : H b with
    | none => rfl
    | some u =>
      rcases H2 b u q with ⟨m, _⟩ | ⟨rfl, n, _⟩
      · obtain ⟨p, hp, rfl⟩ := List.mem_map.mp m
        rw [tabsK p hp] at e
        cases e
      · rw [n] at e
        cases e)
  have modB : L2.Mod K mg (hidT st.heap H) := ⟨kB, nsB gl, ⟨mb, nsB bl, bb⟩, let ⟨mc, l1, l2⟩ := lim; ⟨mc, nsB l1, l2⟩⟩
  have tabB : ∀ p ∈ cs, TabB (hidT st.heap H) mg p.1 p.2 := fun p hp => by
    have tp := tabs p hp
    refine ⟨?_, ?_, fun z => ?_⟩
    · obtain ⟨o, us, file, tf, flags, tg, inF, text, tt, e1, r1, r2, r3, r4, r5, r6, r7, r8, hne⟩ := hds p hp
      refine ⟨o, us, file, tf, flags, tg, inF, text, tt, below e1 (bare e1 (fun us n z => by rw [r2] at z; cases z) (fun z => ?_)), r1, r2, r3, r4, r5, r6, r7, r8, hne⟩
      rw [r2] at z
      cases z
      simp at r3
    · obtain ⟨bm, ob, b1, b2, b3, b4, b5, b6⟩ := bmod
      refine ⟨bm, ob, b1, b2, fun q => ?_, fun q => ?_, below b3 (bare b3 (fun us n z => by rw [b6] at z; cases z) (fun z => by rw [b6] at z; cases z)), b4, b5, b6⟩
      · obtain ⟨o, es, ep, e, dt, _⟩ := gl
        rw [q, e] at b3
        cases b3
        rw [dt] at b6
        cases b6
      · rw [q, tp] at b3
        cases b3
        cases b6
    · obtain ⟨o, es, ep, e, dt, _⟩ := gl
      rw [z, tp] at e
      cases e
      cases dt
  have env : Env0 P w K mg (hidT st.heap H) callerA [] st H := ⟨rfl, modB, fun b o e => of_hidT e, Nat.le_of_eq (hidT_size _ _), trivial, fun b m => absurd (show b ∈ ([] : List Addr) from m) (by simp), hokH, .of_eq gens0⟩
  refine codeAny_mono ((F _ kB (nsB gl) tabB).run callerA [] st H ⟨[.ref a], []⟩ [.ref a] [.ref a] _ _ rfl room env (bind st (.ref a)) (.cons rfl .nil) (want H H1 H3)) fun r s' h => ?_
  cases r with
  | error e => exact (noX H e s' h).elim
  | ok fl =>
    cases fl with
    | next => exact False.elim h
    | brk => exact False.elim h
    | cont => exact False.elim h
    | ret u =>
      obtain ⟨v, H', os, gb, un, hok', rv, q⟩ := h
      cases (show v = .bl true from q)
      cases (show u = Value.bool true from rv)
      have stay : ∀ b o, b ∉ cs.map (·.2) → st.heap.get? b = some o → s'.heap.get? b = some o := fun b o nb e => by
        cases q : H b with
        | none => exact un.keep b o e q (by intro z; exact absurd (show b ∈ ([] : List Addr) from z) (by simp)) (by simp)
        | some u =>
          rcases H2 b u q with ⟨m, _⟩ | ⟨_, _, rfl⟩
          · exact absurd m nb
          · obtain ⟨g1, _⟩ := hokH b _ q
            obtain ⟨g2, _⟩ := hok' b _ (un.frzs b _ _ q)
            exact (g1.symm.trans e) ▸ g2
      have grown : ∀ p ∈ cs, ∃ more : Array Value, s'.heap.get? p.2 = some { cls := .none, data := .fields more } := fun p hp => by
        obtain ⟨m, z⟩ := un.tbls p.2 #[] (H1 p hp)
        exact ⟨_, hok' p.2 _ z⟩
      refine ⟨rfl, ⟨fun b o e => ?_, fun b o e => ?_⟩, os, gb⟩
      · by_cases m : b ∈ cs.map (·.2)
        · obtain ⟨p, hp, rfl⟩ := List.mem_map.mp m
          obtain ⟨more, g⟩ := grown p hp
          have z := (tabs p hp).symm.trans e
          cases z
          exact .inr (.inl ⟨((hds p hp).tab (tabs p hp)).isCodeTable, rfl, #[], more, rfl, by rw [Array.empty_append]; exact g⟩)
        · exact .inl (stay b o m e)
      · by_cases m : b ∈ cs.map (·.2)
        · obtain ⟨p, hp, rfl⟩ := List.mem_map.mp m
          obtain ⟨more, g⟩ := grown p hp
          exact ⟨_, g⟩
        · exact ⟨o, stay b o m e⟩
end
/-- what is to be shown of the law's def at the head's heap -/
def LawG (l : PySem.W.OpenLaw) (w : World) (K : PySem.W.Frag) (k n : Nat) (x : Str) (mg : Str → Option Value) (fa : Addr) (h : Heap) : Prop :=
  ∃ (fd : FuncData) (cs : List (Addr × Addr)) (sp : Sp), (∀ p ∈ cs, h.get? p.2 = some tabObj) ∧ (∀ p ∈ cs, K.lookup p.2 = none) ∧ (∀ p ∈ cs, PySem.W.CodeHd h p.1 p.2) ∧ (∀ (s : Shared) (u : Value), BindsTo s fd ⟨[u], []⟩ [(x, u)]) ∧
    (∀ (H : Hp) (a : Addr) (ns : List Int), ns.length ≤ n → (∀ p ∈ cs, H p.2 = some (.tbl #[])) → SqL K H a (ns.map V.int) → sp [.ref a] H (fun v _ => v = .bl true) fun _ _ _ => False) ∧
    ∀ base : Heap, K.In base → base.Ns mainGlobals mg → (∀ p ∈ cs, TabB base mg p.1 p.2) → GnOk l.prog w K mg base CX0 k fa fd [x] sp
theorem walk_G {l : PySem.W.OpenLaw} {n k : Nat} {q : Program} {loose : List Str} {XP : (Str → Option Value) → Heap → Prop} {YP : World → Heap → Prop} {d : DefRec} {K : Params → PySem.W.Frag} {x : Str}
    (hn : l.most = some n) (hn2 : n ≤ sizeLine) (hdf : d.params.defaults = []) (hr : Room k callerA) (hY : ∀ (w : World) (h : Heap), YP w h → (K w.params).In h)
    (F : ∀ (w : World) (mg : Str → Option Value) (fa : Addr) (h : Heap), YP w h → (K w.params).In h → h.Ns mainGlobals mg → mg d.name = some (.ref fa) → LawG l w (K w.params) k n x mg fa h) :
    PySem.W.WalkO q loose XP YP l.row.toRowW d [] (fun f vs => PySem.call f vs) := by
  refine Att.attach_callB hn hdf fun w s0 s1 mg mb fa o pm cd doc a vs ns G Y ho hd hcd hmg hobj hints hlen hbits hg => ?_
  have KX := hY w _ Y
  obtain ⟨fd, cs, sp, tabs, tabsK, C, hb, hsp, hF⟩ := F w mg fa _ Y KX G.T.g hmg
  exact law_callG KX G.T.g G.T.b G.T.builtins G.T.nolimit hg tabs tabsK C G.T.bmain hobj hints (Nat.le_trans hlen hn2) hr hF hb (fun H hH hS => hsp H a ns hlen hH hS) fun H e s' h => h
end WP
namespace WP
open PySem L2 PySem.Spec PyProof.Rows
/-- what isinstance asks of an own class -/
structure InsK (K : PySem.W.Frag) (C : Addr) : Prop where
  cl : Cls K C
  ha : PySem.W.findIn K (.ref C) "__class__" = some (some (.builtin "object.__class__"))
  hn : PySem.W.specialIn K (.builtin "object.__class__") "__get__" = some (some (.builtin "getset_descriptor.__get__"))
  ht : PySem.W.takesIn K (.builtin "object.__class__") = some true
  hm : PySem.W.mroIn K C (.type "object") = some true
  nI : PySem.W.kitOne K (.ref C) (.type "int") = some false
  nB : PySem.W.kitOne K (.ref C) (.type "bool") = some false
  nS : PySem.W.kitOne K (.ref C) (.type "str") = some false
  nL : PySem.W.kitOne K (.ref C) (.type "list") = some false
  nT : PySem.W.kitOne K (.ref C) (.type "tuple") = some false
  nD : PySem.W.kitOne K (.ref C) (.type "dict") = some false
/-- kinds of values -/
inductive Kd where
  | non | bl | int | str | lst | tup | dct | ins (C : Addr)
def Kd.ty : Kd → Value
  | .non => .type "NoneType" | .bl => .type "bool" | .int => .type "int" | .str => .type "str" | .lst => .type "list" | .tup => .type "tuple" | .dct => .type "dict" | .ins C => .ref C
/-- v is of the kind k -/
inductive Any (K : PySem.W.Frag) (H : Hp) : V → Kd → Prop
  | non : Any K H .non .non
  | bl (b : Bool) : Any K H (.bl b) .bl
  | int (i : Int) : Any K H (.int i) .int
  | str (x : Str) : Any K H (.str x) .str
  | lst {a : Addr} {xs : List V} (e : H a = some (.lst xs)) : Any K H (.ref a) .lst
  | tup {a : Addr} {xs : List V} (e : H a = some (.tup xs)) : Any K H (.ref a) .tup
  | kTup {a : Addr} {o : Obj} (e : K.lookup a = some o) (c : o.cls = .type "tuple") : Any K H (.ref a) .tup
  | fTup {a : Addr} {o : Obj} {xs : List V} (e : H a = some (.frz o (.tup xs))) : Any K H (.ref a) .tup
  | dct {a : Addr} {kvs : List (Key × V)} (e : H a = some (.dK kvs)) : Any K H (.ref a) .dct
  | ins {a C dx : Addr} {fs : List (Str × V)} (e : H a = some (.ins C dx fs)) (c : InsK K C) : Any K H (.ref a) (.ins C)
theorem Any.tyx {K : PySem.W.Frag} {H : Hp} {v : V} {k : Kd} (h : Any K H v k) : TyX K H v k.ty := by
  cases h with
  | non => exact .base .non
  | bl b => exact .base (.bl b)
  | int i => exact .base (.int i)
  | str x => exact .base (.str x)
  | lst e => exact .base (.lst e)
  | tup e => exact .base (.tup e)
  | kTup e c => exact .kTuple e c
  | fTup e => exact .fTuple e
  | dct e => exact .base (.dK e)
  | ins e c => exact .base (.ins e c.cl c.ha c.hn c.ht c.hm)
theorem Any.same {K : PySem.W.Frag} {H H' : Hp} {v : V} {k : Kd} (h : Any K H v k) (s : Same H H') : Any K H' v k := by
  cases h with
  | non => exact .non
  | bl b => exact .bl b
  | int i => exact .int i
  | str x => exact .str x
  | lst e => exact .lst (s _ _ e)
  | tup e => exact .tup (s _ _ e)
  | kTup e c => exact .kTup e c
  | fTup e => exact .fTup (s _ _ e)
  | dct e => exact .dct (s _ _ e)
  | ins e c => exact .ins (s _ _ e) c
def Kd.isInt : Kd → Bool | .int | .bl => true | _ => false
def Kd.isBl : Kd → Bool | .bl => true | _ => false
def Kd.isStr : Kd → Bool | .str => true | _ => false
def Kd.isLst : Kd → Bool | .lst => true | _ => false
def Kd.isTup : Kd → Bool | .tup => true | _ => false
def Kd.isDct : Kd → Bool | .dct => true | _ => false
section
variable {K : PySem.W.Frag} {H : Hp} {v : V} {k : Kd}
theorem Any.kInt (h : Any K H v k) : PySem.W.kitOne K k.ty (.type "int") = some k.isInt := by
  cases h with
  | ins e c => exact c.nI
  | _ => exact kit_ty (by decide +kernel)
theorem Any.kBl (h : Any K H v k) : PySem.W.kitOne K k.ty (.type "bool") = some k.isBl := by
  cases h with
  | ins e c => exact c.nB
  | _ => exact kit_ty (by decide +kernel)
theorem Any.kStr (h : Any K H v k) : PySem.W.kitOne K k.ty (.type "str") = some k.isStr := by
  cases h with
  | ins e c => exact c.nS
  | _ => exact kit_ty (by decide +kernel)
theorem Any.kLst (h : Any K H v k) : PySem.W.kitOne K k.ty (.type "list") = some k.isLst := by
  cases h with
  | ins e c => exact c.nL
  | _ => exact kit_ty (by decide +kernel)
theorem Any.kTupB (h : Any K H v k) : PySem.W.kitOne K k.ty (.type "tuple") = some k.isTup := by
  cases h with
  | ins e c => exact c.nT
  | _ => exact kit_ty (by decide +kernel)
theorem Any.kDct (h : Any K H v k) : PySem.W.kitOne K k.ty (.type "dict") = some k.isDct := by
  cases h with
  | ins e c => exact c.nD
  | _ => exact kit_ty (by decide +kernel)
theorem Any.kSeq (h : Any K H v k) : PySem.W.kitAny K k.ty [.type "list", .type "tuple"] = some (k.isLst || k.isTup) := by
  refine kitAny_cons h.kLst (fun e => ?_) (fun e => by rw [e]; rfl)
  rw [e, Bool.false_or]
  refine kitAny_cons h.kTupB (fun e2 => ?_) (fun e2 => e2)
  rw [e2]
  exact kitAny_nil
end
section
variable {X : Cx} {pos : Pos}
theorem n_int (T : Bi X.mg) (hg : Gl X "int" := by rfl) : PE X (.Name "int" pos) (tC (.ty "int")) := pe_bltn hg T.int (by decide +kernel) rfl
theorem n_str (T : Bi X.mg) (hg : Gl X "str" := by rfl) : PE X (.Name "str" pos) (tC (.ty "str")) := pe_bltn hg T.str (by decide +kernel) rfl
theorem n_bool (T : Bi X.mg) (hg : Gl X "bool" := by rfl) : PE X (.Name "bool" pos) (tC (.ty "bool")) := pe_bltn hg T.bool (by decide +kernel) rfl
theorem n_list (T : Bi X.mg) (hg : Gl X "list" := by rfl) : PE X (.Name "list" pos) (tC (.ty "list")) := pe_bltn hg T.list (by decide +kernel) rfl
theorem n_tuple (T : Bi X.mg) (hg : Gl X "tuple" := by rfl) : PE X (.Name "tuple" pos) (tC (.ty "tuple")) := pe_bltn hg T.tuple (by decide +kernel) rfl
theorem n_dict (T : Bi X.mg) (hg : Gl X "dict" := by rfl) : PE X (.Name "dict" pos) (tC (.ty "dict")) := pe_bltn hg T.dict (by decide +kernel) rfl
/-- a constant of the module -/
theorem gStr {x z : Str} (h : ∃ t, X.mg x = some (.str z t)) (hg : Gl X x := by rfl) (hd : (x == ("__debug__" : Str)) = false := by decide) : PE X (.Name x pos) (tC (.str z)) := by
  obtain ⟨t, h⟩ := h
  exact pe_glob hg h ⟨t, rfl⟩ hd
theorem gInt {x : Str} {n : Int} (h : ∃ t, X.mg x = some (.int n t)) (hg : Gl X x := by rfl) (hd : (x == ("__debug__" : Str)) = false := by decide) : PE X (.Name x pos) (tC (.int n)) := by
  obtain ⟨t, h⟩ := h
  exact pe_glob hg h ⟨t, rfl⟩ hd
theorem gRef {x : Str} {a : Addr} (h : X.mg x = some (.ref a)) (hg : Gl X x := by rfl) (hd : (x == ("__debug__" : Str)) = false := by decide) : PE X (.Name x pos) (tC (.ref a)) := pe_glob hg h rfl hd
end
def PvL (H1 : Hp) (D : Addr) (f : Nat → Option V) (i : Nat) (H : Hp) : Prop := Same H1 H ∧ H1 D = none ∧ H D = some (.lst ((List.range i).filterMap f))
section
variable {H1 H H4 : Hp} {D : Addr} {f : Nat → Option V} {i : Nat} {y : V}
theorem pv_0 (hD : H1 D = none) : PvL H1 D f 0 (upd H1 D (.lst [])) := ⟨Evl.Ex.new hD, hD, upd_same⟩
theorem pv_in (p : PvL H1 D f i H) (s : Same H H4) (e : f i = some y) (hi : i < 100000) : ∃ acc, H4 D = some (.lst acc) ∧ acc.length < sizeLine ∧ PvL H1 D f (i + 1) (upd H4 D (.lst (acc ++ [y]))) := by
  have fl : ((List.range i).filterMap f).length ≤ i := Nat.le_trans (List.length_filterMap_le _ _) (by simp)
  refine ⟨_, s _ _ p.2.2, Nat.lt_of_le_of_lt fl (by rw [sizeLine_eq]; omega), Evl.Ex.mut (p.1.trans s) p.2.1, p.2.1, ?_⟩
  rw [upd_same, List.range_succ, List.filterMap_append]
  simp [e]
theorem pv_out (p : PvL H1 D f i H) (s : Same H H4) (e : f i = none) : PvL H1 D f (i + 1) H4 := by
  refine ⟨p.1.trans s, p.2.1, ?_⟩
  rw [s _ _ p.2.2, List.range_succ, List.filterMap_append]
  simp [e]
end
theorem fm_range {α : Type} (l : List α) (g : α → V) : (List.range l.length).filterMap (fun i => l[i]?.map g) = l.map g := by
  induction l with
  | nil => rfl
  | cons a r ih =>
    rw [List.length_cons, List.range_succ_eq_map, List.filterMap_cons, List.filterMap_map]
    simp only [List.getElem?_cons_zero, Option.map_some, List.map_cons, List.cons.injEq, true_and]
    rw [← ih]
    congr 1
end WP
namespace WP
open PySem L2 PySem.Spec PyProof.Rows
def rSortedTT (K : PySem.W.Frag) : List V → Hp → VK → Prop := fun vs H Q => ∃ (a : Addr) (xs : List Str), vs = [V.ref a] ∧ SqT K H a (xs.map V.str) ∧ xs.length < 64 ∧
  ∀ (ys : List Str) (p : Addr), ys.Perm xs → sortedS ys = true → H p = none → Q (.ref p) (upd H p (.lst (ys.map V.str)))
theorem cr_sortedTT {X : Cx} : CallR X (.builtin "sorted") (rSortedTT X.K) := by
  intro pins s σ H vs us Q I r h
  obtain ⟨a, xs, rfl, hs, h64, q⟩ := h
  obtain ⟨its, rv, p, hz⟩ := I.tuple hs
  rw [Vals.ref1 r]
  obtain ⟨o, ho, hc, n, hd⟩ := p
  have hS : StrsAre its xs := strsAre_of rv
  have hl : its.length = xs.length := by rw [← rv.length, List.length_map]
  refine Calls.call_function_entry kind_sorted plain_sorted entry_sorted (args_sorted1 _) ?_
  unfold Builtin.«sorted»
  refine wpAny_bind (m := checkCount "sorted" 1 1 _) (wpAny_pure ?_)
  refine wpAny_bind (wpAny_collect_seq a (.inr rfl) ho hc hd (fun h' hk => ?_) (by rw [List.size_toArray, hl, sizeLine_eq]; omega))
  have I1 : Inv X pins σ H { s with heap := h' } := I.kept (t' := s.toks) hk
  refine wpAny_bind (wpAny_newList ?_ (by simp only [List.toList_toArray]; rw [hl, sizeLine_eq]; omega))
  simp only [List.toList_toArray]
  have hoL : (h'.push (seqObj "list" its.toArray 0)).get? h'.objs.size = some (seqObj "list" its.toArray 0) := Heap.get?_push_size _ rfl
  show wpAny _ _ _ _ _ { s with heap := h'.push (seqObj "list" its.toArray 0) }
  refine wpAny_bind (wpAny_holding (wpAny_call_entry slot_list_sort ⟨_, hoL, rfl⟩ entry_list_sort
    (list_sort_treeK strKind_oneLt (s := { s with heap := h'.push (seqObj "list" its.toArray 0) }) hoL hS.keysOf (fun v₁ v₂ rest e => keyKind_strs (by rw [← e]; exact hS)) (by rw [hl]; exact h64) fun st' hp hs' => ⟨_, rfl, ?_⟩) (args_list_sort _)))
  obtain ⟨ys, g1, g2, g3⟩ := sorted_out_str hS hp hs'
  obtain ⟨e', he'⟩ := sortedHeap_at (vs := its) (out := (arrOf st').map (·.2)) hoL
  have hlen : (ys.map V.str).length ≤ sizeLine := by rw [List.length_map, g2.length_eq]; exact small64 h64
  refine wpAny_pure ⟨_, rfl, .ref h'.objs.size, upd H h'.objs.size (.lst (ys.map V.str)), I1.laid (t' := s.toks) (fun b u e => ?_) (Nat.le_refl _) ⟨hlen, _, e', vals_of_strs g1, he'⟩, rfl, q ys _ g2 g3 (I1.hok.fresh (Nat.le_refl _))⟩
  have lt0 : b < h'.objs.size := Heap.lt_size e
  rw [sortedHeap_old (Nat.ne_of_lt lt0) (by rw [size_push']; exact Nat.lt_succ_of_lt lt0)]
  exact Heap.get?_push_of_some _ e
end WP
namespace WP
open PySem L2 PySem.Spec PyProof.Rows
theorem vals_at {xs : List V} {us : List Value} (r : Vals xs us) {i : Nat} {y : Value} (h : us.toArray[i]? = some y) : ∃ x, xs[i]? = some x ∧ RelV x y := by
  have h' : us[i]? = some y := by simpa using h
  cases e : xs[i]? with
  | none =>
    rw [Vals.none_of r e] at h'
    cases h'
  | some x =>
    obtain ⟨u, h1, h2⟩ := r.get e
    rw [h1] at h'
    cases h'
    exact ⟨x, rfl, h2⟩
end WP
namespace WP
open PySem L2 TL
abbrev alphabet : Str := "abcdefghijklmnopqrstuvwxyz"
def isNameS (z : Str) : Bool := decide ((1 : Int) ≤ z.length) && decide ((z.length : Int) ≤ 8) && z.cps.toList.all (fun c => decide (c ∈ alphabet.cps.toList))
def isNameV : V → Bool
  | .str z => isNameS z
  | _ => false
def isNumV : V → Bool
  | .int _ => true
  | _ => false
def isTicksV : V → Bool
  | .non => true
  | .int i => decide (0 ≤ i) && decide (i ≤ 1000)
  | _ => false
def forms : List (Str × List Str) := [("begin", ["number"]), ("step", []), ("clear", ["name", "number"]), ("wait", ["ticks"]), ("lose", ["number", "name", "number"]), ("open", ["name"]), ("fetch", ["number", "name"])]
def formOf (z : Str) : Option (List Str) := (forms.find? (fun p => decide (p.1 = z))).map (·.2)
def isPartV (s : Str) (v : V) : Bool := if s = "name" then isNameV v else match v with
  | .int i => decide ((if s = "ticks" then (1 : Int) else 0) ≤ i) && decide (i ≤ 999999999999999999)
  | _ => false
def isDeedL : List V → Bool
  | .str z :: r => match formOf z with
    | none => false
    | some ss => decide (r.length = ss.length) && (List.zipWith isPartV ss r).all id
  | _ => false
end WP
namespace WP
open PySem L2 TL
def flatD : V → PyData
  | .bl b => .bool b
  | .int i => .int i
  | .str z => .str z
  | _ => .none
def optD : Option (List V) → PyData
  | none => .none
  | some xs => .tuple (xs.map flatD)
def Part (x : V) : Prop := (∃ i : Int, x = .int i ∧ 0 ≤ i ∧ i ≤ 999999999999999999) ∨ (∃ w : Str, x = .str w ∧ w.length ≤ 8 ∧ PyData.strOk w = true)
theorem form_mem {z : Str} {ss : List Str} (h : formOf z = some ss) : (z, ss) ∈ forms := by
  unfold formOf at h
  cases e : forms.find? (fun p => decide (p.1 = z)) with
  | none => rw [e] at h; cases h
  | some p =>
    rw [e] at h
    have h1 := List.mem_of_find?_eq_some e
    have h2 := List.find?_some e
    simp only [decide_eq_true_eq] at h2
    have h3 : p.2 = ss := Option.some.inj h
    rw [← h2, ← h3]
    exact h1
theorem form_word {z : Str} {ss : List Str} (h : formOf z = some ss) : 4 ≤ z.length ∧ z.length ≤ 5 ∧ PyData.strOk z = true ∧ ss.length ≤ 3 := by
  have h := form_mem h
  have : ∀ p ∈ forms, 4 ≤ p.1.length ∧ p.1.length ≤ 5 ∧ PyData.strOk p.1 = true ∧ p.2.length ≤ 3 := by decide +kernel
  exact this _ h
theorem abc_lt {c : Nat} (h : c ∈ alphabet.cps.toList) : c < 128 := by
  have : ∀ c ∈ alphabet.cps.toList, c < 128 := by decide +kernel
  exact this c h
theorem name_ok {z : Str} (h : isNameS z = true) : 1 ≤ z.length ∧ z.length ≤ 8 ∧ PyData.strOk z = true := by
  unfold isNameS at h
  simp only [Bool.and_eq_true, decide_eq_true_eq, List.all_eq_true] at h
  obtain ⟨⟨h1, h2⟩, h3⟩ := h
  refine ⟨by omega, by omega, ?_⟩
  unfold PyData.strOk
  rw [← Array.all_toList, List.all_eq_true]
  intro c hc
  have := abc_lt (h3 c hc)
  simp only [decide_eq_true_eq]
  omega
theorem isPart_part {s : Str} {x : V} (h : isPartV s x = true) : Part x := by
  unfold isPartV at h
  split at h
  · unfold isNameV at h
    split at h
    · rename_i z
      have := name_ok h
      exact .inr ⟨z, rfl, this.2.1, this.2.2⟩
    · cases h
  · split at h
    · rename_i i
      simp only [Bool.and_eq_true, decide_eq_true_eq] at h
      refine .inl ⟨i, rfl, ?_, h.2⟩
      have := h.1
      split at this <;> omega
    · cases h
theorem zip_part : ∀ (ss : List Str) (r : List V), r.length = ss.length → (List.zipWith isPartV ss r).all id = true → ∀ x ∈ r, Part x
  | [], [], _, _ => fun x h => by cases h
  | [], _ :: _, h, _ => by cases h
  | _ :: _, [], h, _ => by cases h
  | s :: ss, y :: r, h, e => by
    rw [List.zipWith_cons_cons, List.all_cons, Bool.and_eq_true] at e
    intro x hx
    rcases List.mem_cons.mp hx with rfl | hx
    · exact isPart_part e.1
    · exact zip_part ss r (by simpa using h) e.2 x hx
theorem deed_parts {xs : List V} (h : isDeedL xs = true) : (∀ x ∈ xs, Part x) ∧ xs.length ≤ 4 ∧ xs ≠ [] := by
  unfold isDeedL at h
  split at h
  · rename_i z r
    cases hf : formOf z with
    | none => rw [hf] at h; cases h
    | some ss =>
      rw [hf] at h
      simp only [Bool.and_eq_true, decide_eq_true_eq] at h
      have hw := form_word hf
      refine ⟨fun x hx => ?_, by rw [List.length_cons]; omega, by simp⟩
      rcases List.mem_cons.mp hx with rfl | hx
      · exact .inr ⟨z, rfl, by omega, hw.2.2.1⟩
      · exact zip_part ss r h.1 h.2 x hx
  · cases h
theorem textFrom_up : ∀ (ts : List Str) (k : Nat) (acc : Str), (textFrom k acc ts).length ≤ acc.length + piled ts
  | [], k, acc => by simp [textFrom, piled]
  | t :: r, k, acc => by
    have ih := textFrom_up r (k + 1) (acc ++ (if k > 0 then ", " else "" : String) ++ t)
    have h8 : (Str.ofString (if k > 0 then ", " else "" : String)).length ≤ 2 := by split <;> decide
    rw [textFrom, piled_cons]
    rw [Str.length_append, Str.length_append] at ih
    omega
theorem listText_up (ts : List Str) : (listText ts).length ≤ piled ts + 2 := by
  unfold listText
  rw [Str.length_append]
  have := textFrom_up ts 0 "["
  have h1 : ("[" : Str).length = 1 := by decide
  have h2 : ("]" : Str).length = 1 := by decide
  omega
abbrev nl : Str := "\n"
abbrev es : Str := ""
end WP
namespace WP
open PySem L2 TL
def hearD : Except Int (List (List V)) → PyData
  | .error n => .int n
  | .ok ds => .list [.list (ds.map fun d => optD (some d))]
end WP
namespace WP
open PySem L2 TL
theorem iteT' {b : Bool} {A B : Prop} (e : b = true) (h : A) : if b = true then A else B := by rw [if_pos e]; exact h
theorem iteF' {b : Bool} {A B : Prop} (e : b = false) (h : B) : if b = true then A else B := by rw [if_neg (by rw [e]; decide)]; exact h
section
variable {X : Cx}
/-- a def that may raise, called where its error is let out -/
theorem pe_dS {k : Nat} {ps : List Str} {sp : Sp} {W : WX} {x : Str} {p pos : Pos} {e : Expr} {es : List Expr} {t : TA} (F : Dn X.prog X.w X.K X.mg X.base (L2.CX X.prog X.w) k x ps sp) (hr : Room k X.A) (tk : Takes X W)
    (ha : PA X (e :: es) t) (hg : Gl X x := by rfl) (hdb : (x == ("__debug__" : Str)) = false := by decide) (he : starEach (e :: es) X.env = (false, eval e X.env) :: starEach es X.env := by rfl) (hpl : (backTo pos (starEach es X.env)).any (·.1) = false := by rfl) :
    PE X (.Call (.Name x p) (e :: es) [] pos) (tCallS sp (WE W) t) := by
  obtain ⟨f, fd, hm, hk, F, hb⟩ := F.ex
  exact pe_callS F hr hg hm hk hb (fun σ => passAt tk σ) ha hdb he hpl
end
structure FormsK (K : PySem.W.Frag) (w : World) (a : Addr) : Prop where
  kd : ∃ es n, KDict K w a es n
  no : ∀ z, formOf z = none → PySem.W.nsIn K a z = some none
  yes : ∀ z ss, formOf z = some ss → ∃ b, PySem.W.nsIn K a z = some (some (.ref b)) ∧ ∀ H, SqT K H b (ss.map V.str)
theorem FormsK.dct {K : PySem.W.Frag} {w : World} {a : Addr} (F : FormsK K w a) {z : Str} {ss : List Str} (h : formOf z = some ss) : ∃ b, KDct K w a z (.ref b) ∧ PySem.W.nsIn K a z = some (some (.ref b)) ∧ ∀ H, SqT K H b (ss.map V.str) := by
  obtain ⟨es, n, D⟩ := F.kd
  obtain ⟨b, h1, h2⟩ := F.yes z ss h
  exact ⟨b, ⟨es, n, _, D.at_, D.lit, h1, rfl⟩, h1, h2⟩
def Fl (K : PySem.W.Frag) (H : Hp) (v : V) : Option (List V) → Prop
  | none => v = .non
  | some xs => ∃ a, v = .ref a ∧ H a = some (.tup xs) ∧ isDeedL xs = true
inductive FlAll (K : PySem.W.Frag) (H : Hp) : List V → List (Option (List V)) → Prop
  | nil : FlAll K H [] []
  | cons {v : V} {o : Option (List V)} {vs : List V} {os : List (Option (List V))} : Fl K H v o → FlAll K H vs os → FlAll K H (v :: vs) (o :: os)
section
variable {K : PySem.W.Frag} {H H' : Hp} {v : V} {o : Option (List V)} {vs ws : List V} {os ps : List (Option (List V))}
theorem Fl.same (s : Same H H') (h : Fl K H v o) : Fl K H' v o := by
  cases o with
  | none => exact h
  | some xs =>
    obtain ⟨a, e, h1, h2⟩ := h
    exact ⟨a, e, s _ _ h1, h2⟩
theorem FlAll.same (s : Same H H') (h : FlAll K H vs os) : FlAll K H' vs os := by
  induction h with
  | nil => exact .nil
  | cons h _ ih => exact .cons (h.same s) ih
theorem FlAll.app (h : FlAll K H vs os) (h2 : FlAll K H ws ps) : FlAll K H (vs ++ ws) (os ++ ps) := by
  induction h with
  | nil => exact h2
  | cons h _ ih => exact .cons h ih
theorem FlAll.len (h : FlAll K H vs os) : vs.length = os.length := by
  induction h with
  | nil => rfl
  | cons h _ ih => simp [ih]
theorem FlAll.at (h : FlAll K H vs os) : ∀ {i : Nat} {v : V}, vs[i]? = some v → ∃ o, os[i]? = some o ∧ Fl K H v o := by
  induction h with
  | nil => intro i v e; simp at e
  | cons h t ih =>
    intro i v e
    cases i with
    | zero =>
      simp only [List.getElem?_cons_zero, Option.some.injEq] at e
      subst e
      exact ⟨_, rfl, h⟩
    | succ i =>
      simp only [List.getElem?_cons_succ] at e ⊢
      exact ih e
theorem dpFlat : ∀ {xs : List V}, (∀ x ∈ xs, Part x) → DpAll K H xs (xs.map flatD)
  | [], _ => .nil
  | x :: r, h => by
    refine .cons ?_ (dpFlat fun y hy => h y (List.mem_cons_of_mem _ hy))
    rcases h x List.mem_cons_self with ⟨i, rfl, _⟩ | ⟨w, rfl, _⟩
    · exact .int i
    · exact .str w
theorem Fl.dp (h : Fl K H v o) : Dp K H v (optD o) := by
  cases o with
  | none =>
    cases (show v = .non from h)
    exact .non
  | some xs =>
    obtain ⟨a, rfl, h1, h2⟩ := h
    exact .tup (SqT.of h1) (dpFlat (deed_parts h2).1)
theorem FlAll.dp (h : FlAll K H vs os) : DpAll K H vs (os.map optD) := by
  induction h with
  | nil => exact .nil
  | cons h _ ih => exact .cons h.dp ih
end
def Hr (K : PySem.W.Frag) (H : Hp) (v : V) : Except Int (List (List V)) → Prop
  | .error n => v = .int n
  | .ok ds => ∃ (a b : Addr) (us : List V), v = .ref a ∧ H a = some (.lst [.ref b]) ∧ H b = some (.lst us) ∧ FlAll K H us (ds.map some)
section
variable {K : PySem.W.Frag} {H H' : Hp} {v : V} {r : Except Int (List (List V))}
theorem Hr.same (s : Same H H') (h : Hr K H v r) : Hr K H' v r := by
  cases r with
  | error n => exact h
  | ok ds =>
    obtain ⟨a, b, us, e, h1, h2, h3⟩ := h
    exact ⟨a, b, us, e, s _ _ h1, s _ _ h2, h3.same s⟩
theorem Hr.dp (h : Hr K H v r) : Dp K H v (hearD r) := by
  cases r with
  | error n =>
    cases (show v = .int n from h)
    exact .int n
  | ok ds =>
    obtain ⟨a, b, us, rfl, h1, h2, h3⟩ := h
    have := h3.dp
    rw [List.map_map] at this
    exact .lst (SqL.of h1) (.cons (.lst (SqL.of h2) this) .nil)
end
end WP
namespace WP
open PySem L2 TL
theorem ix_tupK {X : Cx} {K : PySem.W.Frag} (h : X.K = K) : IxR X (rIxT K) := by subst h; exact ix_tup
theorem op_inK {X : Cx} {K : PySem.W.Frag} (h : X.K = K) : OpR X (compareOp .In) (rIn K false) := by subst h; exact op_in_seq
theorem op_notInK {X : Cx} {K : PySem.W.Frag} (h : X.K = K) : OpR X (compareOp .NotIn) (rIn K true) := by subst h; exact op_notIn_seq
theorem strOk_iff (z : Str) : PyData.strOk z = true ↔ ∀ c ∈ tl z, c < 0x110000 := by
  unfold PyData.strOk
  rw [← Array.all_toList, List.all_eq_true]
  exact ⟨fun h c hc => of_decide_eq_true (h c hc), fun h c hc => decide_eq_true (h c hc)⟩
structure Tx (n : Nat) (z : Str) : Prop where
  len : z.length ≤ n
  ok : ∀ c ∈ tl z, c < 0x110000
theorem Tx.mono {n m : Nat} {z : Str} (h : Tx n z) (le : n ≤ m) : Tx m z := ⟨Nat.le_trans h.len le, h.ok⟩
theorem Tx.str {n : Nat} {z : Str} (h : Tx n z) : PyData.strOk z = true := (strOk_iff z).mpr h.ok
theorem Tx.app {n m : Nat} {x y : Str} (h : Tx n x) (k : Tx m y) : Tx (n + m) (x ++ y) := by
  refine ⟨by rw [Str.length_append]; exact Nat.add_le_add h.len k.len, fun c hc => ?_⟩
  rw [tl_append] at hc
  exact (List.mem_append.mp hc).elim (h.ok c) (k.ok c)
theorem Tx.one {n : Nat} {z : Str} (h : Tx n z) {c : Nat} (hc : c ∈ tl z) : Tx 1 ⟨#[c]⟩ := ⟨Nat.le_refl 1, fun d hd => by
  have : d = c := by simpa [tl] using hd
  rw [this]
  exact h.ok c hc⟩
theorem of_join {S : List Nat} {c : Nat} : ∀ {ps : List (List Nat)}, c ∈ joinL S ps → c ∈ S ∨ ∃ p ∈ ps, c ∈ p
  | [], h => by cases h
  | [q], h => .inr ⟨q, List.mem_singleton.mpr rfl, h⟩
  | q :: r :: rs, h => by
    have h : c ∈ q ++ (S ++ joinL S (r :: rs)) := h
    rcases List.mem_append.mp h with h | h
    · exact .inr ⟨q, List.mem_cons_self, h⟩
    · rcases List.mem_append.mp h with h | h
      · exact .inl h
      · rcases of_join h with h | ⟨p, hp, hc⟩
        · exact .inl h
        · exact .inr ⟨p, List.mem_cons_of_mem _ hp, hc⟩
/-- weight of a list of texts -/
def wgt (ls : List Str) : Nat := (ls.map (·.length)).sum + ls.length
structure Txs (n : Nat) (ls : List Str) : Prop where
  len : wgt ls ≤ n
  ok : ∀ l ∈ ls, ∀ c ∈ tl l, c < 0x110000
theorem wgt_mem {l : Str} : ∀ {ls : List Str}, l ∈ ls → l.length + 1 ≤ wgt ls
  | [], h => by cases h
  | a :: r, h => by
    unfold wgt
    rw [List.map_cons, List.sum_cons, List.length_cons]
    rcases List.mem_cons.mp h with rfl | h
    · omega
    · have := wgt_mem h
      unfold wgt at this
      omega
theorem wgt_app (a b : List Str) : wgt (a ++ b) = wgt a + wgt b := by
  unfold wgt
  rw [List.map_append, List.sum_append, List.length_append]
  omega
theorem wgt_take (i : Nat) (a : List Str) : wgt (a.take i) ≤ wgt a := by
  have := wgt_app (a.take i) (a.drop i)
  rw [List.take_append_drop] at this
  omega
theorem wgt_drop (i : Nat) (a : List Str) : wgt (a.drop i) ≤ wgt a := by
  have := wgt_app (a.take i) (a.drop i)
  rw [List.take_append_drop] at this
  omega
theorem Txs.at {n : Nat} {ls : List Str} (h : Txs n ls) {l : Str} (hl : l ∈ ls) : Tx n l := ⟨by have := wgt_mem hl; have := h.len; omega, h.ok l hl⟩
theorem Txs.app {n m : Nat} {a b : List Str} (h : Txs n a) (k : Txs m b) : Txs (n + m) (a ++ b) :=
  ⟨by rw [wgt_app]; exact Nat.add_le_add h.len k.len, fun l hl => (List.mem_append.mp hl).elim (h.ok l) (k.ok l)⟩
theorem Txs.take {n : Nat} {a : List Str} (h : Txs n a) (i : Nat) : Txs n (a.take i) := ⟨Nat.le_trans (wgt_take i a) h.len, fun l hl => h.ok l (List.mem_of_mem_take hl)⟩
theorem Txs.drop {n : Nat} {a : List Str} (h : Txs n a) (i : Nat) : Txs n (a.drop i) := ⟨Nat.le_trans (wgt_drop i a) h.len, fun l hl => h.ok l (List.mem_of_mem_drop hl)⟩
theorem Txs.mono {n m : Nat} {a : List Str} (h : Txs n a) (le : n ≤ m) : Txs m a := ⟨Nat.le_trans h.len le, h.ok⟩
theorem Txs.join {n : Nat} {ls : List Str} (h : Txs n ls) {y : Str} (hy : y.length ≤ 1) (hy2 : ∀ c ∈ tl y, c < 0x110000) : Tx n (Txt.join y ls) := by
  refine ⟨?_, fun c hc => ?_⟩
  · rw [join_eq]
    have h1 := h.len
    unfold wgt at h1
    cases ls with
    | nil => show (Str.empty).length ≤ _; simp [Str.empty, Str.length]
    | cons a l =>
      rw [PyProof.Rows.len_join_cons]
      have h2 : l.length * y.length ≤ l.length * 1 := Nat.mul_le_mul_left _ hy
      rw [List.length_cons] at h1
      omega
  · rw [join_eq, tl_join] at hc
    rcases of_join hc with hc | ⟨p, hp, hc⟩
    · exact hy2 c hc
    · obtain ⟨l, hl, rfl⟩ := List.mem_map.mp hp
      exact h.ok l hl c hc
theorem val_none {l : List (Key × V)} {k : Key} (h : ∀ kv ∈ l, kv.1 ≠ k) : valV l k = none := by
  unfold valV
  rw [List.find?_eq_none.mpr (fun kv hkv => by simpa using h kv hkv)]
  rfl
end WP
namespace WP
open PySem L2 TL
section
variable {d w c p : Addr} {B : Int} {H H0 : Hp} {o : HO}
theorem Dr.off (D : Dr d w c B H) (hp : H p = none) : p ≠ d ∧ p ≠ w ∧ p ≠ c := by
  obtain ⟨⟨r, t, h1, _⟩, ⟨ns, h2⟩, ⟨ms, h3⟩⟩ := D
  refine ⟨fun e => ?_, fun e => ?_, fun e => ?_⟩
  · rw [e, h1] at hp
    cases hp
  · rw [e, h2] at hp
    cases hp
  · rw [e, (hd2_of h3).1] at hp
    cases hp
theorem hd2_upd (h1 : p ≠ d) (h2 : p ≠ w) : hd2 d w (upd H p o) = upd (hd2 d w H) p o := by
  funext b
  by_cases hb : b = p
  · rw [hb, upd_same]
    exact hd2_mk upd_same h1 h2
  · rw [upd_ne hb]
    unfold hd2
    rw [upd_ne hb]
theorem Dr.put (D : Dr d w c B H) (h1 : p ≠ d) (h2 : p ≠ w) (h3 : p ≠ c) : Dr d w c B (upd H p o) := by
  obtain ⟨⟨r, t, e1, h4⟩, ⟨ns, e2⟩, ⟨ms, e3⟩⟩ := D
  refine ⟨⟨r, t, by rw [upd_ne (Ne.symm h1)]; exact e1, h4⟩, ⟨ns, by rw [upd_ne (Ne.symm h2)]; exact e2⟩, ⟨ms, ?_⟩⟩
  rw [hd2_upd h1 h2, upd_ne (Ne.symm h3)]
  exact e3
theorem hd2_none (hp : H p = none) : hd2 d w H p = none := by
  cases e : hd2 d w H p with
  | none => rfl
  | some o => rw [(hd2_of e).1] at hp; cases hp
/-- the draws' state behind what was before (H0), B draws at most; what else is in the heap: by hd2 d w H -/
structure Ds (d w c : Addr) (B : Int) (H0 H : Hp) : Prop where
  dr : Dr d w c B H
  fr : Same (hd2 d w H0) (hd2 d w H)
theorem Ds.draw {H' : Hp} {B' : Int} (s : Ds d w c B H0 H) (D : Dr d w c B' H') (f : Same (hd2 d w H) (hd2 d w H')) : Ds d w c B' H0 H' := ⟨D, s.fr.trans f⟩
theorem Ds.new (s : Ds d w c B H0 H) (hp : H p = none) : Ds d w c B H0 (upd H p o) := ⟨s.dr.new hp, s.fr.trans (hd2_new hp)⟩
theorem Ds.at (s : Ds d w c B H0 H) (hp : H p = none) : hd2 d w (upd H p o) p = some o := by
  obtain ⟨h1, h2, _⟩ := s.dr.off hp
  exact hd2_mk upd_same h1 h2
theorem Ds.put (s : Ds d w c B H0 H) (h0 : hd2 d w H0 p = none) (h1 : p ≠ d) (h2 : p ≠ w) (h3 : p ≠ c) : Ds d w c B H0 (upd H p o) := by
  refine ⟨s.dr.put h1 h2 h3, ?_⟩
  rw [hd2_upd h1 h2]
  exact Evl.Ex.mut s.fr h0
theorem Ds.mono {B' : Int} (s : Ds d w c B H0 H) (h : B ≤ B') : Ds d w c B' H0 H := ⟨s.dr.mono h, s.fr⟩
theorem Ds.same {H' : Hp} (s : Ds d w c B H0 H) (f : Same H H') : Ds d w c B H0 H' := by
  obtain ⟨⟨⟨r, t, e1, h4⟩, ⟨ns, e2⟩, ⟨ms, e3⟩⟩, s2⟩ := s
  exact ⟨⟨⟨r, t, f _ _ e1, h4⟩, ⟨ns, f _ _ e2⟩, ⟨ms, hd2_same f _ _ e3⟩⟩, s2.trans (hd2_same f)⟩
/-- what stands in the frame stays -/
theorem keepA {a : Addr} {u : HO} (e : hd2 d w H a = some u) (hp : H p = none) : hd2 d w (upd H p o) a = some u := hd2_new hp _ _ e
theorem keepP {a : Addr} {u : HO} (e : hd2 d w H a = some u) (h1 : p ≠ d) (h2 : p ≠ w) (h : a ≠ p) : hd2 d w (upd H p o) a = some u := by
  rw [hd2_upd h1 h2, upd_ne h]
  exact e
end
theorem pigeon {α : Type} [DecidableEq α] : ∀ (l m : List α), l.Nodup → (∀ x ∈ l, x ∈ m) → l.length ≤ m.length
  | [], _, _, _ => Nat.zero_le _
  | a :: r, m, h, hs => by
    have ha := hs a List.mem_cons_self
    have h2 := List.nodup_cons.mp h
    have ih := pigeon r (m.erase a) h2.2 fun x hx => (List.mem_erase_of_ne (fun e : x = a => h2.1 (by rw [← e]; exact hx))).mpr (hs x (List.mem_cons_of_mem _ hx))
    rw [List.length_erase_of_mem ha] at ih
    have := List.length_pos_of_mem ha
    rw [List.length_cons]
    omega
theorem name_iff (z : Str) : isNameS z = true ↔ 1 ≤ z.length ∧ z.length ≤ 8 ∧ ∀ c ∈ tl z, c ∈ tl alphabet := by
  unfold isNameS
  simp only [Bool.and_eq_true, decide_eq_true_eq, List.all_eq_true]
  constructor
  · rintro ⟨⟨h1, h2⟩, h3⟩
    exact ⟨by omega, by omega, h3⟩
  · rintro ⟨h1, h2, h3⟩
    exact ⟨⟨by omega, by omega⟩, h3⟩
theorem name_words : ∀ z ∈ (["a", "b", "plain", "own", "refers", "keeps", "ever", "zzzzzzzz"] : List Str), isNameS z = true := by decide +kernel
/-- the near ones of a word -/
def nears (z : Str) : List Str := z :: (tl alphabet).map fun c => cutS z none (some 7) ++ (⟨#[c]⟩ : Str)
theorem nears_name {z : Str} (h : isNameS z = true) : ∀ x ∈ nears z, isNameS x = true := fun x hx => by
  rcases List.mem_cons.mp hx with rfl | hx
  · exact h
  · obtain ⟨c, hc, rfl⟩ := List.mem_map.mp hx
    rw [name_iff] at h ⊢
    have e1 : (cutS z none (some 7)).length ≤ 7 := by
      show (((z.cps.toList.drop (HT.sIx z.length 0 none)).take (HT.sIx z.length z.length (some 7) - HT.sIx z.length 0 none)).toArray).size ≤ 7
      rw [List.size_toArray, List.length_take]
      have : HT.sIx z.length z.length (some 7) ≤ 7 := by
        show (if (7 : Int) < 0 then ((7 : Int) + (z.length : Int)).toNat else min (7 : Int).toNat z.length) ≤ 7
        rw [if_neg (by decide)]
        exact Nat.min_le_left _ _
      omega
    have e2 : (cutS z none (some 7) ++ (⟨#[c]⟩ : Str)).length = (cutS z none (some 7)).length + 1 := by rw [Str.length_append]; rfl
    refine ⟨by omega, by omega, fun b hb => ?_⟩
    rw [tl_append] at hb
    rcases List.mem_append.mp hb with hb | hb
    · exact h.2.2 b (List.mem_of_mem_drop (List.mem_of_mem_take (show b ∈ ((tl z).drop _).take _ from hb)))
    · have : b = c := by simpa [tl] using hb
      rw [this]
      exact hc
theorem nears_nodup (z : Str) : ((tl alphabet).map fun c => cutS z none (some 7) ++ (⟨#[c]⟩ : Str)).Nodup := by
  have h : (tl alphabet).Nodup := by decide +kernel
  refine List.Pairwise.map _ (fun a b hab e => hab ?_) h
  have := congrArg tl e
  rw [tl_append, tl_append] at this
  have := List.append_cancel_left this
  exact (List.cons.inj this).1
theorem near_free {z : Str} {ns : List Str} (h : ns.length < 26) : ∃ x r, (nears z).filter (fun x => !decide (x ∈ ns)) = x :: r := by
  cases e : (nears z).filter (fun x => !decide (x ∈ ns)) with
  | cons x r => exact ⟨x, r, rfl⟩
  | nil =>
    exfalso
    rw [List.filter_eq_nil_iff] at e
    have := pigeon _ ns (nears_nodup z) fun x hx => by
      have := e x (List.mem_cons_of_mem _ hx)
      simpa using this
    rw [List.length_map] at this
    have e2 : (tl alphabet).length = 26 := by decide +kernel
    omega
theorem noneS {H H' : Hp} {d : Addr} (s : Same H H') (h : H' d = none) : H d = none := by
  cases e : H d with
  | none => rfl
  | some o => rw [s _ _ e] at h; cases h
theorem alpha_tl : tl alphabet = [97, 98, 99, 100, 101, 102, 103, 104, 105, 106, 107, 108, 109, 110, 111, 112, 113, 114, 115, 116, 117, 118, 119, 120, 121, 122] := by decide +kernel
theorem name_join {cs : List Str} (h : ∀ x ∈ cs, ∃ c ∈ tl alphabet, x = ⟨#[c]⟩) (h1 : 1 ≤ cs.length) (h8 : cs.length ≤ 8) : isNameS (Txt.join "" cs) = true ∧ (cs.map (·.length)).sum = cs.length := by
  have es : (cs.map (·.length)).sum = cs.length := by
    clear h1 h8
    induction cs with
    | nil => rfl
    | cons a r ih =>
      obtain ⟨c, hc, e⟩ := h a List.mem_cons_self
      have := ih fun x hx => h x (List.mem_cons_of_mem _ hx)
      rw [List.map_cons, List.sum_cons, this, e, List.length_cons]
      show 1 + _ = _
      omega
  refine ⟨(name_iff _).mpr ?_, es⟩
  have el : (Txt.join "" cs).length = cs.length := by
    rw [join_eq]
    cases cs with
    | nil => simp at h1
    | cons a l =>
      rw [PyProof.Rows.len_join_cons, es]
      have : ("" : Str).length = 0 := by decide
      rw [this]
      omega
  refine ⟨by omega, by omega, fun b hb => ?_⟩
  rw [join_eq, tl_join] at hb
  rcases of_join hb with hb | ⟨p, hp, hb⟩
  · exact absurd (show b ∈ ([] : List Nat) from hb) (by simp)
  · obtain ⟨x, hx, rfl⟩ := List.mem_map.mp hp
    obtain ⟨c, hc, rfl⟩ := h x hx
    have : b = c := by simpa [tl] using hb
    rw [this]
    exact hc
theorem name_swap {z : Str} (h : isNameS z = true) {at_ : Int} (h0 : 0 ≤ at_) (h1 : at_ < z.length) {c : Nat} (hc : c ∈ tl alphabet) : isNameS (cutS z none (some at_) ++ (⟨#[c]⟩ : Str) ++ cutS z (some (at_ + 1)) none) = true := by
  rw [name_iff] at h ⊢
  obtain ⟨g1, g2, g3⟩ := h
  have hl : z.length = (tl z).length := len_tl z
  have e1 : tl (cutS z none (some at_)) = (tl z).take at_.toNat := by
    show ((tl z).drop 0).take ((if at_ < 0 then (at_ + (z.length : Int)).toNat else min at_.toNat z.length) - 0) = _
    rw [if_neg (by omega), List.drop_zero, Nat.sub_zero, Nat.min_eq_left (by omega)]
  have e2 : tl (cutS z (some (at_ + 1)) none) = (tl z).drop (at_.toNat + 1) := by
    show ((tl z).drop (if at_ + 1 < 0 then (at_ + 1 + (z.length : Int)).toNat else min (at_ + 1).toNat z.length)).take (z.length - (if at_ + 1 < 0 then (at_ + 1 + (z.length : Int)).toNat else min (at_ + 1).toNat z.length)) = _
    rw [if_neg (by omega), Nat.min_eq_left (by omega)]
    have : (at_ + 1).toNat = at_.toNat + 1 := by omega
    rw [this, List.take_of_length_le (by rw [List.length_drop]; omega)]
  have e3 : tl (cutS z none (some at_) ++ (⟨#[c]⟩ : Str) ++ cutS z (some (at_ + 1)) none) = (tl z).take at_.toNat ++ [c] ++ (tl z).drop (at_.toNat + 1) := by
    rw [tl_append, tl_append, e1, e2]
  have e4 : (cutS z none (some at_) ++ (⟨#[c]⟩ : Str) ++ cutS z (some (at_ + 1)) none).length = z.length := by
    rw [len_tl, e3, List.length_append, List.length_append, List.length_take, List.length_drop, List.length_singleton]
    omega
  refine ⟨by omega, by omega, fun b hb => ?_⟩
  rw [e3] at hb
  rcases List.mem_append.mp hb with hb | hb
  · rcases List.mem_append.mp hb with hb | hb
    · exact g3 b (List.mem_of_mem_take hb)
    · rw [List.mem_singleton.mp hb]
      exact hc
  · exact g3 b (List.mem_of_mem_drop hb)
end WP
namespace WP
open PySem L2 PySem.Spec PyProof.Rows
theorem fold_cps (l : List (Array Nat)) : ∀ a : Array Nat, (l.foldl (· ++ ·) a).toList = a.toList ++ (l.map Array.toList).flatten := by
  induction l with
  | nil => intro a; simp
  | cons b r ih =>
    intro a
    rw [List.foldl_cons, ih, List.map_cons, List.flatten_cons, Array.toList_append, List.append_assoc]
theorem rep_flat (l : List Nat) : ∀ k : Nat, (List.replicate k l).flatten.length = l.length * k ∧ ∀ c ∈ (List.replicate k l).flatten, c ∈ l
  | 0 => ⟨by simp, fun c h => by simp at h⟩
  | k + 1 => by
    obtain ⟨h1, h2⟩ := rep_flat l k
    rw [List.replicate_succ, List.flatten_cons]
    refine ⟨by rw [List.length_append, h1, Nat.mul_succ]; omega, fun c h => ?_⟩
    rcases List.mem_append.mp h with h | h
    · exact h
    · exact h2 c h
end WP
namespace WP
open PySem L2 PySem.Spec PyProof.Rows
def DefK (K : PySem.W.Frag) (x : Str) (st : Stmt) : Prop := ∃ (f : Addr) (fd : FuncData), PySem.W.nsIn K mainGlobals x = some (some (.ref f)) ∧ PySem.W.keepIn K (.ref f) = true ∧ Fun K x x st f fd
theorem def_mk {K : PySem.W.Frag} {h : Heap} {x : Str} {st : Stmt} {f : Addr} {od an : Option Addr} {sl : Array (Option Value)} {oc kV dc pm cd ct : Value} (X : K.In h) (a : PySem.W.nsIn K mainGlobals x = some (some (.ref f)))
    (l : K.lookup f = some ⟨oc, od, .func (PySem.W.fnOf x x (defArgs st) (defBody st) (defScope st) .none kV dc pm an cd ct), sl⟩) (c : PySem.W.codeIn K cd x = true) (k : PySem.W.keepIn K (.ref f) = true) : DefK K x st :=
  ⟨f, _, a, k, ⟨⟨oc, od, kV, dc, pm, an, cd, ct, sl, rfl, l, c⟩, k⟩⟩
/-- a method's def -/
def MethK (K : PySem.W.Frag) (x qual : Str) (st : Stmt) (f : Addr) : Prop := ∃ fd : FuncData, Fun K x qual st f fd
theorem meth_mk {K : PySem.W.Frag} {h : Heap} {x qual : Str} {st : Stmt} {f : Addr} {od an : Option Addr} {sl : Array (Option Value)} {oc kV dc pm cd ct : Value} (X : K.In h)
    (l : K.lookup f = some ⟨oc, od, .func (PySem.W.fnOf x qual (defArgs st) (defBody st) (defScope st) .none kV dc pm an cd ct), sl⟩) (c : PySem.W.codeIn K cd qual = true) (k : PySem.W.keepIn K (.ref f) = true) : MethK K x qual st f :=
  ⟨_, ⟨⟨oc, od, kV, dc, pm, an, cd, ct, sl, rfl, l, c⟩, k⟩⟩
def NoG (K : PySem.W.Frag) (x : Str) : Prop := PySem.W.nsIn K mainGlobals x = some none
structure BiK (K : PySem.W.Frag) : Prop where
  int : NoG K "int"
  str : NoG K "str"
  len : NoG K "len"
  list : NoG K "list"
  range : NoG K "range"
  min : NoG K "min"
  max : NoG K "max"
  sorted : NoG K "sorted"
  set : NoG K "set"
  tuple : NoG K "tuple"
  dict : NoG K "dict"
  isinstance : NoG K "isinstance"
  repr : NoG K "repr"
  zip : NoG K "zip"
  enumerate : NoG K "enumerate"
  all : NoG K "all"
  sum : NoG K "sum"
  bool : NoG K "bool"
theorem BiK.bi {K : PySem.W.Frag} {h : Heap} {mg : Str → Option Value} (X : K.In h) (G : h.Ns mainGlobals mg) (B : BiK K) : Bi mg :=
  ⟨PySem.W.mg_none_of X G B.int, PySem.W.mg_none_of X G B.str, PySem.W.mg_none_of X G B.len, PySem.W.mg_none_of X G B.list, PySem.W.mg_none_of X G B.range, PySem.W.mg_none_of X G B.min, PySem.W.mg_none_of X G B.max, PySem.W.mg_none_of X G B.sorted, PySem.W.mg_none_of X G B.set, PySem.W.mg_none_of X G B.tuple, PySem.W.mg_none_of X G B.dict, PySem.W.mg_none_of X G B.isinstance, PySem.W.mg_none_of X G B.repr, PySem.W.mg_none_of X G B.zip, PySem.W.mg_none_of X G B.enumerate, PySem.W.mg_none_of X G B.all, PySem.W.mg_none_of X G B.sum, PySem.W.mg_none_of X G B.bool⟩
theorem bi_mk {K : PySem.W.Frag} {h : Heap} (X : K.In h) (a1 : PySem.W.nsIn K mainGlobals "int" = some none) (a2 : PySem.W.nsIn K mainGlobals "str" = some none) (a3 : PySem.W.nsIn K mainGlobals "len" = some none) (a4 : PySem.W.nsIn K mainGlobals "list" = some none) (a5 : PySem.W.nsIn K mainGlobals "range" = some none) (a6 : PySem.W.nsIn K mainGlobals "min" = some none)
    (a7 : PySem.W.nsIn K mainGlobals "max" = some none) (a8 : PySem.W.nsIn K mainGlobals "sorted" = some none) (a9 : PySem.W.nsIn K mainGlobals "set" = some none) (a10 : PySem.W.nsIn K mainGlobals "tuple" = some none) (a11 : PySem.W.nsIn K mainGlobals "dict" = some none) (a12 : PySem.W.nsIn K mainGlobals "isinstance" = some none) (a13 : PySem.W.nsIn K mainGlobals "repr" = some none)
    (a14 : PySem.W.nsIn K mainGlobals "zip" = some none) (a15 : PySem.W.nsIn K mainGlobals "enumerate" = some none) (a16 : PySem.W.nsIn K mainGlobals "all" = some none) (a17 : PySem.W.nsIn K mainGlobals "sum" = some none) (a18 : PySem.W.nsIn K mainGlobals "bool" = some none) : BiK K := ⟨a1, a2, a3, a4, a5, a6, a7, a8, a9, a10, a11, a12, a13, a14, a15, a16, a17, a18⟩
/-- its __init__ -/
theorem ok_init1 {P : Program} {w : World} {K : PySem.W.Frag} {mg : Str → Option Value} {base : Heap} {f C : Addr} {fd : FuncData} {qual fld : Str} {st : Stmt} {p1 p2 p3 p4 : Pos} (F : Fun K "__init__" qual st f fd) (S : FnScope ["self", fld] ["self", fld] (defScope st)) (hb : defBody st = [.Assign [.Attribute (.Name "self" p1) fld p2] (.Name fld p3) p4])
    (h1 : (defScope st).names.lookup (Str.ofString "self") = some NameKind.local) (h2 : (defScope st).names.lookup fld = some NameKind.local) (hd : (fld == ("__debug__" : Str)) = false) (hd2 : (fld == ("__classdict__" : Str)) = false) (T : OexC K C) (no : PySem.W.findIn K (.ref C) fld = some none) : FnOk P w K mg base CX0 1 f fd ["self", fld] (spI1 C fld) := by
  refine F.ok S (fun vs H Q E h => ?_) (fun cdv A outer s H vs Q E hr h => ?_)
  · obtain ⟨a, v, rfl, _⟩ := h
    rfl
  · obtain ⟨a, v, rfl, ha, q⟩ := h
    rw [hb]
    refine ⟨_, pss_one (ps_ost (pe_var (i := 0) rfl (.inl h1) (by decide) (by decide)) (pe_var (i := 1) rfl (.inl h2) hd hd2)), ?_⟩
    exact ⟨_, rfl, _, rfl, a, C, rfl, T, no, .inl ⟨ha, fun dx h3 h4 => q dx h3 h4⟩⟩
end WP
namespace WP
open PySem L2 PySem.Spec PyProof.Rows
open PySem.Froz (SD sObj TxOk tailTx addTx add_x add_ok is_str get_upd)
/-- the set at S: the different ones of l; its table rises and can be walked -/
def HasS (prog : Program) (w : World) (h : Heap) (S : Addr) (l : List Str) : Prop := ∃ (ys : List Str) (D : SD), ys.Nodup ∧ (∀ x, x ∈ ys ↔ x ∈ l) ∧ h.get? S = some (sObj "set" D) ∧ TxOk prog w D ys ∧ Ris D.2.2.place.toList ∧ (w.params.followText "set-order" = true ∨ D.2.2.led = true)
theorem HasS.moved {prog : Program} {w : World} {h h' : Heap} {S : Addr} {l : List Str} (x : HasS prog w h S l) (k : ∀ o, h.get? S = some o → h'.get? S = some o) : HasS prog w h' S l := by
  obtain ⟨ys, D, h1, h2, ho, rest⟩ := x
  exact ⟨ys, D, h1, h2, k _ ho, rest⟩
theorem tail_ris {ep : Nat} {es1 : Array (Int × Value)} {t2 : SetTable} {wd : Bool} (r : Ris t2.place.toList) : Ris (tailTx ep es1 t2 wd).2.2.place.toList ∧ (tailTx ep es1 t2 wd).2.2.led = t2.led := by
  unfold tailTx
  by_cases c : (!wd && t2.tooFull) = true
  · rw [if_pos c]
    exact ⟨relayAll_ris _ _ _, relayAll_led _ _ _⟩
  · rw [if_neg c]
    exact ⟨r, rfl⟩
theorem add_ris {D : SD} {h : Int} {v : Value} (r : Ris D.2.2.place.toList) : Ris (addTx h v D).2.2.place.toList ∧ (addTx h v D).2.2.led = D.2.2.led := by
  have r1 := layNew_ris D.2.2 D.1 h v r
  have l1 := layNew_led D.2.2 D.1 h v
  unfold addTx
  by_cases c : (layNew D.2.2 D.1 h v).2.1.plain = true
  · rw [if_pos c]
    obtain ⟨a1, a2⟩ := tail_ris (ep := D.2.1) (es1 := (layNew D.2.2 D.1 h v).1) (wd := (layNew D.2.2 D.1 h v).2.2.1) (t2 := { (layNew D.2.2 D.1 h v).2.1 with plain := false }) r1
    exact ⟨a1, a2.trans l1⟩
  · rw [if_neg c]
    obtain ⟨a1, a2⟩ := tail_ris (ep := D.2.1) (es1 := (layNew D.2.2 D.1 h v).1) (wd := (layNew D.2.2 D.1 h v).2.2.1) r1
    exact ⟨a1, a2.trans l1⟩
theorem hasS_add {prog : Program} {w : World} {A : Around} {E : Value → Shared → Prop} {s : Shared} {S : Addr} {l : List Str} {k : Str} {u : Tok} {Q : Bool → Shared → Prop} (has : HasS prog w s.heap S l) (few : l.length + 1 < scanBound)
    (h : ∀ h' b, Heap.SameBut S s.heap h' → HasS prog w h' S (l ++ [k]) → Q b { s with heap := h' }) : wpAny (model prog w) A (setAddHashed S (.str k u) (hashStr w k)) Q E s := by
  obtain ⟨ys, D, y1, y2, ho, F, r, led⟩ := has
  have lys : ys.length ≤ l.length := pigeon ys l y1 fun z hz => (y2 z).mp hz
  by_cases hk : k ∈ ys
  · obtain ⟨es, ep, t⟩ := D
    have hd : (sObj "set" (es, ep, t)).data = .set es ep t := rfl
    have hf : t.fits es.size = true := F.fit
    have hel : ElemsOf (strKind prog w) es.toList := F.el
    have hsz : es.size = ys.length := F.sz
    have hb0 : es.size < scanBound := by omega
    have hkey : (strKind prog w).is k (.str k u) = true := is_str k u
    have q := h s.heap false (Heap.SameBut.refl S s.heap) ⟨ys, _, y1, fun x => by
      rw [y2, List.mem_append, List.mem_singleton]
      exact ⟨.inl, fun z => z.elim id fun e => e ▸ (y2 k).mp hk⟩, ho, F, r, led⟩
    unfold setAddHashed setAddHashedIn
    refine wpAny_holding (wpAny_bind (wpAny_setState_of ho hd hf ?_))
    dsimp only
    rw [byScan_of rfl hb0 hel]
    simp only [↓reduceIte]
    unfold setAddByScan
    refine wpAny_bind ?_
    refine wpAny_bind (wpAny_rule ?_)
    refine wpAny_bind (wpAny_setScan_of (knd := strKind prog w) (k := k) hkey ho hd hf hel ?_)
    cases hfi : List.findIdx? (fun e => (strKind prog w).is k e.2) es.toList with
    | some j =>
      dsimp only
      exact wpAny_pure (wpAny_pure q)
    | none =>
      obtain ⟨e, he, z⟩ := (F.mem k).mp hk
      have := List.findIdx?_eq_none_iff.mp hfi e he
      rw [z] at this
      cases this
  · refine add_x ho F hk (by omega) (h _ true (Heap.SameBut.update _ _ _) ⟨k :: ys, _, List.nodup_cons.mpr ⟨hk, y1⟩, fun x => ?_, get_upd _ ho rfl, add_ok u F, (add_ris r).1, led.imp id fun z => by rw [(add_ris r).2]; exact z⟩)
    rw [List.mem_cons, y2, List.mem_append, List.mem_singleton, or_comm]
section
variable {prog : Program} {w : World} {A : Around} {R : Result → Shared → Prop} {I : Addr} {fp wr : List Addr} {G : Array GenState → Array GenState → Prop} {n : Nat} {P : Nat → Value → Prop} {St : Nat → Shared → Prop}
theorem loopT (W : WalksS prog w A.in1 I fp wr G n P St) (S : Addr) (no : S ∉ fp) (xs : List Str) (len : xs.length = n) (few : n + 1 < scanBound) (val : ∀ i v, P i v → ∃ t x, xs[i]? = some x ∧ v = .str x t) :
    ∀ (k i : Nat) (s : Shared), n - i = k → i ≤ n → St i s → HasS prog w s.heap S (xs.take i) → (∀ s', Moved (S :: wr) G s s' → HasS prog w s'.heap S xs → R (.ok (.ret .none)) s') →
      codeAny (model prog w) A (.builtin "set.update.loop" ⟨[.ref S, .ref I], []⟩) R s := by
  have now : S ∉ wr := fun z => no (W.sub _ z)
  have up : ∀ b ∈ wr, b ∈ S :: wr := fun b z => List.mem_cons_of_mem _ z
  intro k
  induction k with
  | zero =>
    intro i s ek le st has fin
    obtain rfl : i = n := by omega
    refine codeAny_builtin PyProof.Rows.F.entry_set_update_loop ?_
    rw [Around.under_plainId PyProof.Rows.F.plain_set_update_loop _]
    show wpAny _ A.in1 (pyNext (.ref I) >>= _) _ _ s
    refine wpAny_bind (W.done s _ _ st fun s2 mv => wpAny_pure (fin s2 (mv.mono up) ?_))
    rw [List.take_of_length_le (by omega)] at has
    exact has.moved fun o e => mv.heap S _ now e
  | succ k ih =>
    intro i s ek le st has fin
    have lt : i < n := by omega
    refine codeAny_builtin PyProof.Rows.F.entry_set_update_loop ?_
    rw [Around.under_plainId PyProof.Rows.F.plain_set_update_loop _]
    show wpAny _ A.in1 (pyNext (.ref I) >>= _) _ _ s
    refine wpAny_bind (W.item i s _ _ lt st fun v s2 hv st2 mv => ?_)
    obtain ⟨t, x, hx, rfl⟩ := val i v hv
    have has2 := has.moved (h' := s2.heap) fun o e => mv.heap S _ now e
    show wpAny _ A.in1 (holding [Value.str x t] (setAdd S (.str x t)) >>= _) _ _ s2
    refine wpAny_bind (wpAny_holding ?_)
    unfold setAdd
    refine wpAny_holding (wpAny_bind ((PySem.strKind prog w).pyHash (k := x) (strKind_is _ _ _ _) ?_))
    refine hasS_add (s := { s2 with toks := s2.toks + 1 }) has2 (by rw [List.length_take]; omega) fun h3 _ but hs3 => ?_
    have has3 : HasS prog w h3 S (xs.take (i + 1)) := by
      rw [List.take_succ, hx]
      exact hs3
    refine wpAny_pure ⟨plainId_quiet PyProof.Rows.F.plain_set_update_loop _, ih (i + 1) _ (by omega) lt (W.frame _ s2 _ _ st2 (Nat.le_succ _) fun b hb o e => ?_) has3 fun s4 mv4 has4 => ?_⟩
    · rw [but.2 b (fun z : b = S => no (by rw [← z]; exact hb))]
      exact e
    · refine fin s4 (Moved.trans W.gtrans ((mv.mono up).then_heap (Nat.le_succ _) fun b o hb e => ?_) mv4) has4
      rw [but.2 b (fun z : b = S => hb (by rw [z]; exact List.mem_cons_self))]
      exact e
end
/-- a new set, as set() leaves it -/
abbrev fso (led : Bool) : Obj := { cls := .type "set", dict := none, data := .set #[] 0 (.fresh 0 0 led) }
section
variable {prog : Program} {w : World} {A : Around} {E : Value → Shared → Prop} {s : Shared}
/-- set(x), x at l of the built-in type T, walked over by W -/
theorem set_by {T : String} {l : Addr} {ol io : Obj} {xs : List Str} {n : Nat} {P : Nat → Value → Prop} {St : Addr → Nat → Shared → Prop} {fp : Addr → List Addr} {Q : Value → Shared → Prop}
    (hol : s.heap.get? l = some ol) (hcl : ol.cls = .type T) (hsls : isSubtype (.type T) (.type "set") = pure false) (hslf : isSubtype (.type T) (.type "frozenset") = pure false) (hne : (Value.type T == Value.type "dict") = false)
    (iter : ∀ (s1 : Shared) (Q' : Value → Shared → Prop) (E' : Value → Shared → Prop), s1.heap.get? l = some ol → Q' (.ref s1.heap.objs.size) { s1 with heap := s1.heap.push io } → wpAny (model prog w) A.in1.in1 (pyIter (.ref l)) Q' E' s1)
    (walk : ∀ I : Addr, l ≠ I → WalksS prog w A.in1.in1.in1 I (fp I) [I] (fun a b => b = a) n P (St I)) (fpx : ∀ I b, b ∈ fp I → b = I ∨ b = l) (st0 : ∀ s1 : Shared, s1.heap.get? l = some ol → s1.heap.objs.size ≠ l → St s1.heap.objs.size 0 { s1 with heap := s1.heap.push io })
    (len : xs.length = n) (few : n + 1 < scanBound) (val : ∀ i v, P i v → ∃ t x, xs[i]? = some x ∧ v = .str x t)
    (h : ∀ (h' : Heap) (tk : Nat), HasS prog w h' s.heap.objs.size xs → (∀ b o, b < s.heap.objs.size → s.heap.get? b = some o → h'.get? b = some o) → Q (.ref s.heap.objs.size) { s with heap := h', toks := tk }) :
    wpAny (model prog w) A (call (.type "set") [.ref l]) Q E s := by
  obtain ⟨c, tl, hmro⟩ := PySem.F.called_set.mro
  have hmade := PySem.F.called_set.made
  have hsub := PySem.F.called_set.sub
  have nT := PySem.F.called_set.notType
  have cC := PySem.F.called_set.canCreate
  have hct := PySem.F.typeCall_set_1 (.ref l)
  refine wpAny_call (codeAny_of_tree ?_)
  show wpAny _ _ (callAny (.type "set") _) _ _ _
  refine wpAny_pure ⟨Code.quiet_builtin _ (by decide +kernel), codeAny_builtin PySem.F.entry_type_call ?_⟩
  rw [Around.under_plain (weight_type_call_type "set" [.ref l] []) rfl]
  repeat (any_goals (first | assumption | wp_step))
  refine codeAny_mono (code_set_led1 (.ref l) (E := E) (Q₁ := fun obj s₁ => ∃ led : Bool, led = (!w.params.followText "set-order") ∧ obj = .ref s.heap.objs.size ∧ s₁ = { s with heap := s.heap.push (fso led) }) ⟨_, rfl, rfl, rfl⟩) fun r1 s1 hr => ?_
  cases r1 with
  | error e => exact hr
  | ok fl =>
    cases fl with
    | ret obj =>
      obtain ⟨led, eled, rfl, rfl⟩ := hr
      have oS : (s.heap.push (fso led)).get? s.heap.objs.size = some (fso led) := Heap.get?_push_size _ rfl
      have tS : Shared.TypeIs { s with heap := s.heap.push (fso led) } (.ref s.heap.objs.size) "set" := ⟨_, oS, rfl⟩
      have li := PySem.F.called_set.init.lookup
      have bi := PySem.F.called_set.init.bind (.ref s.heap.objs.size)
      repeat (any_goals (first | assumption | wp_step))
      refine codeAny_mono (codeAny_call_builtin (R := wants (fun r s₂ => r = .none ∧ ∃ h' tk, s₂ = { s with heap := h', toks := tk } ∧ HasS prog w h' s.heap.objs.size xs ∧ (∀ b o, b < s.heap.objs.size → s.heap.get? b = some o → h'.get? b = some o)) E)
        PySem.F.called_set.init.plain PySem.F.entry_set_init (check_set_init_1 tS ?_)) fun r2 s2 hr2 => ?_
      · have hol1 : (s.heap.push (fso led)).get? l = some ol := Heap.get?_push_of_some _ hol
        have hlS : l < s.heap.objs.size := Heap.lt_size hol
        have szE : (s.heap.push (fso led)).objs.size = s.heap.objs.size + 1 := Heap.size_push _ _
        obtain ⟨ocls, odict, odata, oslots⟩ := ol
        obtain rfl : ocls = .type T := hcl
        unfold Builtin.«set.__init__» noKeywords Builtin.Frozenset.updateFrom
        generalize hPI : pyIter = PI
        wp_walk
        subst hPI
        refine iter _ _ _ hol1 (wpAny_bind (wpAny_runValue ?_))
        have nI : l ≠ (s.heap.push (fso led)).objs.size := by rw [szE]; exact Nat.ne_of_lt (Nat.lt_succ_of_lt hlS)
        have noS : s.heap.objs.size ∉ fp (s.heap.push (fso led)).objs.size := fun z => by
          rcases fpx _ _ z with e | e
          · rw [szE] at e
            exact absurd e (Nat.ne_of_lt (Nat.lt_succ_self _))
          · exact absurd e (Nat.ne_of_gt hlS)
        refine loopT (walk _ nI) s.heap.objs.size noS xs len few val (n - 0) 0 _ (by omega) (Nat.zero_le _) (st0 { s with heap := s.heap.push (fso led) } hol1 (Ne.symm nI)) ?_ ?_
        · have g2 : ((s.heap.push (fso led)).push io).get? s.heap.objs.size = some (fso led) := Heap.get?_push_of_some _ oS
          refine ⟨[], (#[], 0, SetTable.fresh 0 0 led), List.nodup_nil, fun x => by simp, g2, TxOk.nil rfl, List.Pairwise.nil, ?_⟩
          rw [eled]
          show _ ∨ (!w.params.followText "set-order") = true
          cases w.params.followText "set-order"
          · exact .inr rfl
          · exact .inl rfl
        · rintro ⟨h', g', d', tk', os'⟩ mv has
          obtain rfl : g' = s.gens := mv.gens
          obtain rfl : d' = s.drawn := mv.drawn
          obtain rfl : os' = s.os := mv.os
          show wpAny _ _ _ _ _ _
          refine wpAny_pure (wpAny_pure ⟨rfl, h', tk', rfl, has, fun b o hb e => ?_⟩)
          refine mv.heap b o (fun z => ?_) (Heap.get?_push_of_some _ (Heap.get?_push_of_some _ e))
          rcases List.mem_cons.mp z with e1 | z
          · exact absurd e1 (Nat.ne_of_lt hb)
          · rw [List.mem_singleton.mp z, szE] at hb
            exact absurd hb (Nat.not_lt.mpr (Nat.le_succ _))
      · cases r2 with
        | error e => exact hr2
        | ok f2 =>
          cases f2 with
          | ret r =>
            obtain ⟨rfl, h', tk, rfl, has, kp⟩ := hr2
            repeat (any_goals (first | assumption | wp_step))
            exact h _ _ has kp
          | _ => exact hr2.elim
    | _ => exact hr.elim
end
end WP
namespace WP
open PySem L2 PySem.Spec PyProof.Rows
section
variable {prog : Program} {w : World} {A : Around} {E : Value → Shared → Prop} {s : Shared}
theorem strs_at2 {us : List Value} {xs : List Str} (r : Vals (xs.map V.str) us) {i : Nat} {v : Value} (h : us.toArray[i]? = some v) : ∃ t x, xs[i]? = some x ∧ v = .str x t := by
  obtain ⟨y, hy, ry⟩ := vals_at r h
  obtain ⟨x, hx, rfl⟩ := at_map hy
  obtain ⟨t, rfl⟩ := ry
  exact ⟨t, x, hx, rfl⟩
theorem set_list {l : Addr} {us : List Value} {xs : List Str} {Q : Value → Shared → Prop} (hh : A.handled = none) (hl : s.heap.IsList l us.toArray) (r : Vals (xs.map V.str) us) (few : xs.length + 1 < scanBound)
    (h : ∀ (h' : Heap) (tk : Nat), HasS prog w h' s.heap.objs.size xs → (∀ b o, b < s.heap.objs.size → s.heap.get? b = some o → h'.get? b = some o) → Q (.ref s.heap.objs.size) { s with heap := h', toks := tk }) :
    wpAny (model prog w) A (call (.type "set") [.ref l]) Q E s := by
  obtain ⟨ol, hol, hcl, n, hd⟩ := hl
  have len : xs.length = us.toArray.size := by rw [List.size_toArray, ← r.length, List.length_map]
  have hh3 : A.in1.in1.in1.handled = none := by simp [hh]
  refine set_by (fp := fun I => [I, l]) (St := fun I i s => s.heap.IsListIter I l i ∧ s.heap.IsList l us.toArray) (P := fun i v => us.toArray[i]? = some v) (n := us.toArray.size) (io := { cls := .type "list_iterator", data := .fields #[.ref l, .int 0 0] }) hol hcl PySem.F.sub_list_set PySem.F.sub_list_frozenset (by decide) (fun s1 Q' E' e q => wpAny_pyIter_list ⟨ol, e, hcl, n, hd⟩ q)
    (fun I ne => (Walks.list hh3 I l ne us.toArray).toS) (fun I b hb => by simpa using hb) (fun s1 e ne => ⟨⟨_, Heap.get?_push_size _ rfl, rfl, rfl⟩, ?_⟩) len (by rw [← len]; exact few) (fun i v hv => strs_at2 r hv) h
  exact ⟨ol, Heap.get?_push_of_some _ e, hcl, n, hd⟩
theorem set_tuple {l : Addr} {us : List Value} {xs : List Str} {Q : Value → Shared → Prop} (hh : A.handled = none) (hl : s.heap.IsTuple l us.toArray) (r : Vals (xs.map V.str) us) (few : xs.length + 1 < scanBound)
    (h : ∀ (h' : Heap) (tk : Nat), HasS prog w h' s.heap.objs.size xs → (∀ b o, b < s.heap.objs.size → s.heap.get? b = some o → h'.get? b = some o) → Q (.ref s.heap.objs.size) { s with heap := h', toks := tk }) :
    wpAny (model prog w) A (call (.type "set") [.ref l]) Q E s := by
  obtain ⟨ol, hol, hcl, n, hd⟩ := hl
  have len : xs.length = us.toArray.size := by rw [List.size_toArray, ← r.length, List.length_map]
  have hh3 : A.in1.in1.in1.handled = none := by simp [hh]
  refine set_by (fp := fun I => [I, l]) (St := fun I i s => s.heap.IsTupleIter I l i ∧ s.heap.IsTuple l us.toArray) (P := fun i v => us.toArray[i]? = some v) (n := us.toArray.size) (io := { cls := .type "tuple_iterator", data := .fields #[.ref l, .int 0 0] }) hol hcl PySem.F.sub_tuple_set PySem.F.sub_tuple_frozenset (by decide) (fun s1 Q' E' e q => wpAny_pyIter_tuple ⟨ol, e, hcl, n, hd⟩ q)
    (fun I ne => (Walks.tuple hh3 I l ne us.toArray).toS) (fun I b hb => by simpa using hb) (fun s1 e ne => ⟨⟨_, Heap.get?_push_size _ rfl, rfl, rfl⟩, ?_⟩) len (by rw [← len]; exact few) (fun i v hv => strs_at2 r hv) h
  exact ⟨ol, Heap.get?_push_of_some _ e, hcl, n, hd⟩
end
/-- the set of texts at a -/
def SetS (P : Program) (w : World) (a : Addr) (l : List Str) : HO := .ext fun h => HasS P w h a l
theorem setS_ok {P : Program} {w : World} {H : Hp} {h : Heap} {a : Addr} {l : List Str} (x : HasS P w h a l) : ObjOk P w H h a (SetS P w a l) := by
  obtain ⟨ys, D, y1, y2, ho, rest⟩ := x
  exact ⟨⟨ys, D, y1, y2, ho, rest⟩, ⟨_, ho⟩, fun h1 h2 p k => HasS.moved p k⟩
/-- set(v), v a list or a tuple of texts -/
def rSetS (K : PySem.W.Frag) (P : Program) (w : World) : List V → Hp → VK → Prop := fun vs H Q => ∃ (l : Addr) (xs : List Str), vs = [.ref l] ∧ (SqL K H l (xs.map V.str) ∨ SqT K H l (xs.map V.str)) ∧ xs.length ≤ 4000 ∧ ∀ p, H p = none → Q (.ref p) (upd H p (SetS P w p xs))
theorem cr_setS {X : Cx} (hc : X.calm = true) : CallR X (.type "set") (rSetS X.K X.prog X.w) := by
  intro pins s σ H vs us Q I r h
  obtain ⟨l, xs, rfl, hq, hl, q⟩ := h
  rw [Vals.ref1 r]
  have few : xs.length + 1 < scanBound := Nat.lt_of_le_of_lt (Nat.succ_le_succ hl) (by decide)
  have fin : ∀ (h' : Heap) (tk : Nat), HasS X.prog X.w h' s.heap.objs.size xs → (∀ b o, b < s.heap.objs.size → s.heap.get? b = some o → h'.get? b = some o) → EP X pins σ Q (.ref s.heap.objs.size) { s with heap := h', toks := tk } := fun h' tk has kp =>
    ⟨.ref s.heap.objs.size, _, I.laid (t' := tk) (fun b o e => kp b o (Heap.lt_size e) e) (Nat.le_refl _) (setS_ok has), rfl, q _ (I.hok.fresh (Nat.le_refl _))⟩
  rcases hq with hq | hq
  · obtain ⟨its, rv, pl, hz⟩ := I.list hq
    exact set_list (I.ok.hd hc) pl.isList rv few fin
  · obtain ⟨its, rv, pl, hz⟩ := I.tuple hq
    exact set_tuple (I.ok.hd hc) pl rv few fin
/-- len of such a set -/
def rLenS (P : Program) (w : World) : List V → Hp → VK → Prop := fun vs H Q => ∃ (a : Addr) (l : List Str), vs = [.ref a] ∧ H a = some (SetS P w a l) ∧ l.length ≤ 4000 ∧ ∀ ys : List Str, ys.Nodup → (∀ x, x ∈ ys ↔ x ∈ l) → Q (.int ys.length) H
theorem cr_lenS {X : Cx} : CallR X (.builtin "len") (rLenS X.prog X.w) := by
  intro pins s σ H vs us Q I r h
  obtain ⟨a, l, rfl, ha, hl, q⟩ := h
  rw [Vals.ref1 r]
  obtain ⟨⟨ys, D, y1, y2, ho, F, _, _⟩, _, _⟩ := I.hok a _ ha
  have hn : D.1.size = ys.length := F.sz
  have lys : ys.length ≤ l.length := pigeon ys l y1 fun x hx => (y2 x).mp hx
  exact call_len_set ho ⟨rfl, rfl, rfl⟩ rfl F.fit (by rw [hn]; omega) ⟨.int ys.length, H, I.tok _, ⟨_, by rw [hn]⟩, q ys y1 y2⟩
/-- the number of different ones is the number if none is twice -/
theorem nodup_iff {l ys : List Str} (y1 : ys.Nodup) (y2 : ∀ x, x ∈ ys ↔ x ∈ l) : ys.length = l.length ↔ l.Nodup := by
  constructor
  · intro e
    -- a list with a repeated item has fewer different ones
    have key : ∀ (l : List Str), ¬ l.Nodup → ∃ m : List Str, m.length < l.length ∧ ∀ x, x ∈ l → x ∈ m := by
      intro l
      induction l with
      | nil => intro h; exact absurd List.nodup_nil h
      | cons a r ih =>
        intro h
        by_cases ha : a ∈ r
        · exact ⟨r, Nat.lt_succ_self _, fun x hx => (List.mem_cons.mp hx).elim (fun e => e ▸ ha) id⟩
        · have hr : ¬ r.Nodup := fun z => h (List.nodup_cons.mpr ⟨ha, z⟩)
          obtain ⟨m, h1, h2⟩ := ih hr
          exact ⟨a :: m, Nat.succ_lt_succ h1, fun x hx => (List.mem_cons.mp hx).elim (fun e => e ▸ List.mem_cons_self) fun z => List.mem_cons_of_mem _ (h2 x z)⟩
    by_cases hn : l.Nodup
    · exact hn
    · obtain ⟨m, h1, h2⟩ := key l hn
      have := pigeon ys m y1 fun x hx => h2 x ((y2 x).mp hx)
      omega
  · intro hn
    have h1 := pigeon ys l y1 fun x hx => (y2 x).mp hx
    have h2 := pigeon l ys hn fun x hx => (y2 x).mpr hx
    omega
end WP
namespace WP
open PySem L2 PySem.Spec PyProof.Rows
section
variable {X : Cx} {tg iter : Expr} {w1 w2 : TI}
/-- a walk over a list or a tuple -/
def iSeq (K : PySem.W.Frag) (tl : TE) : TI := fun σ H R => tl σ H fun x H1 => ∃ (a : Addr) (xs : List V), x = .ref a ∧ (SqL K H1 a xs ∨ SqT K H1 a xs) ∧ ∀ J G, Walk J xs.length G (YAt xs) → (∀ H', Same H1 H' → G H') → R J H1
theorem SqL.sm {K : PySem.W.Frag} {H H' : Hp} {a : Addr} {xs : List V} (h : SqL K H a xs) (s : Same H H') : SqL K H' a xs := s.seq h
theorem SqT.sm {K : PySem.W.Frag} {H H' : Hp} {a : Addr} {xs : List V} (h : SqT K H a xs) (s : Same H H') : SqT K H' a xs := by
  rcases h with (h | ⟨o, h⟩) | h
  · exact .inl (.inl (s _ _ h))
  · exact .inl (.inr ⟨o, s _ _ h⟩)
  · exact .inr h
theorem pi_seq {l : Expr} {tl : TE} (hl : PE X l tl) : PI X tg l (iSeq X.K tl) := by
  refine ⟨fun pins s σ H R I h0 => ?_⟩
  refine thn (hl.run pins s σ H _ I h0) fun v s1 ⟨x, H1, I1, r1, a, xs, e1, hq, q⟩ => ?_
  cases e1
  cases r1
  rcases hq with hs | hs
  · obtain ⟨its, rv, pl, hz⟩ := I1.list hs
    refine wpAny_pyIter_list pl.isList ⟨s1.heap.objs.size, [s1.heap.objs.size], _, _, H1, rfl, I1.kept (t' := s1.toks) fun b o e => Heap.get?_push_of_some _ e, turn_list a _, ⟨_, Heap.get?_push_size _ rfl, rfl, rfl⟩, fun b hb => ?_, q _ _ walk_list fun H' s' => SqL.sm hs s'⟩
    rw [List.mem_singleton.mp hb]
    exact I1.fpOk (Nat.le_refl _) (I1.hok.fresh (Nat.le_refl _))
  · obtain ⟨its, rv, pt, hz⟩ := I1.tuple hs
    refine wpAny_pyIter_tuple (show s1.heap.IsTuple a its.toArray from pt) ⟨s1.heap.objs.size, [s1.heap.objs.size], _, _, H1, rfl, I1.kept (t' := s1.toks) fun b o e => Heap.get?_push_of_some _ e, turn_tuple a _, ⟨_, Heap.get?_push_size _ rfl, rfl, rfl⟩, fun b hb => ?_, q _ _ walk_tup fun H' s' => SqT.sm hs s'⟩
    rw [List.mem_singleton.mp hb]
    exact I1.fpOk (Nat.le_refl _) (I1.hok.fresh (Nat.le_refl _))
/-- sorted of a list or a tuple of texts -/
def rSortA (K : PySem.W.Frag) : List V → Hp → VK → Prop := fun vs H Q => ∃ (a : Addr) (xs : List Str), vs = [V.ref a] ∧ (SqL K H a (xs.map V.str) ∨ SqT K H a (xs.map V.str)) ∧ xs.length < 64 ∧ ∀ (ys : List Str) (p : Addr), ys.Perm xs → sortedS ys = true → H p = none → Q (.ref p) (upd H p (.lst (ys.map V.str)))
theorem cr_sortA : CallR X (.builtin "sorted") (rSortA X.K) := by
  intro pins s σ H vs us Q I r ⟨a, xs, e, hs, hl, q⟩
  rcases hs with hs | hs
  · exact cr_sortedS pins s σ H vs us Q I r ⟨a, xs, e, hs, hl, q⟩
  · exact cr_sortedTT pins s σ H vs us Q I r ⟨a, xs, e, hs, hl, q⟩
end
def areNamesL (xs : List V) : Bool := xs.all isNameV && decide xs.Nodup
theorem names_str : ∀ {xs : List V}, xs.all isNameV = true → ∃ ns : List Str, xs = ns.map V.str ∧ ∀ x ∈ ns, isNameS x = true
  | [], _ => ⟨[], rfl, fun x h => by cases h⟩
  | v :: r, h => by
    rw [List.all_cons, Bool.and_eq_true] at h
    obtain ⟨ns, e, hn⟩ := names_str h.2
    cases v with
    | str z => exact ⟨z :: ns, by rw [e]; rfl, fun x hx => (List.mem_cons.mp hx).elim (fun e => e ▸ h.1) (hn x)⟩
    | _ => exact absurd h.1 (by simp [isNameV])
theorem nodup_strs (ns : List Str) : (ns.map V.str).Nodup ↔ ns.Nodup := by
  constructor
  · intro h
    exact (List.pairwise_map.mp h).imp fun h e => h (by rw [e])
  · intro h
    exact List.pairwise_map.mpr (h.imp fun h e => h (V.str.inj e))
end WP
namespace WP
open PySem L2 PySem.Spec PyProof.Rows
def spI2 (C : Addr) (f g : Str) : Sp := fun vs H Q _ => ∃ (a : Addr) (v u : V), vs = [.ref a, v, u] ∧ H a = some (exo a C none) ∧ ∀ dx, H dx = none → dx ≠ a → ∀ H', H' a = some (exo a C (some dx)) → H' dx = some (exd dx [(g, u), (f, v)]) → (∀ b, b ≠ a → b ≠ dx → H' b = H b) → Q .non H'
structure Err2 (P : Program) (w : World) (K : PySem.W.Frag) (mg : Str → Option Value) (base : Heap) (CP : Addr) (x : Str) (C : Addr) (f g : Str) : Prop where
  T : OexC K C
  xf : XfC K C
  nf : PySem.W.findIn K (.ref C) f = some none
  ng : PySem.W.findIn K (.ref C) g = some none
  ec : ExcC K C
  mgC : mg x = some (.ref C)
  init : ∃ fI fd, PySem.W.findIn K (.ref C) "__init__" = some (some (.ref fI)) ∧ PySem.W.typeIn K (.ref fI) = some (.type "function") ∧ FnOk P w K mg base CX0 1 fI fd ["self", f, g] (spI2 C f g) ∧ Binds K fd ["self", f, g] []
  sub : PySem.W.exmOne K (.ref C) (.ref CP) = some true
section
variable {X : Cx} {CP C : Addr} {x f g : Str} {e e' : Expr} {te te' : TE} {p pos pos' : Pos} {W : WX}
/-- raise x(e, e') -/
theorem raise2 (T : Err2 X.prog X.w X.K X.mg X.base CP x C f g) (hc : X.calm = true) (tk : Takes X W) (hr : Room 2 X.A) (he : PE X e te) (he' : PE X e' te') (hg : Gl X x := by rfl)
    (hdb : (x == ("__debug__" : Str)) = false := by decide) (hs : starEach [e, e'] X.env = (false, eval e X.env) :: starEach [e'] X.env := by rfl) (hs' : starEach [e'] X.env = (false, eval e' X.env) :: starEach [] X.env := by rfl) (hpl : (backTo pos (starEach [e'] X.env)).any (·.1) = false := by rfl) :
    PS X (.Raise (some (.Call (.Name x p) [e, e'] [] pos)) none pos') (fun _ σ H => ∃ Q1 : VK, te σ H Q1 ∧ ∀ v H1, Q1 v H1 → ∃ Q2 : VK, te' σ H1 Q2 ∧ ∀ u H2, Q2 u H2 → ∀ d, H2 d = none → W (.ref C) (some d) σ (upd H2 d (.xd [(g, u), (f, v)]))) := by
  obtain ⟨fI, fd, h1, h2, h3, h4⟩ := T.init
  have Z := ps_raise (pos := pos') hc tk (pmk_oex (p := p) (pos := pos) T.T h1 h2 h3 hr h4 .nil (fun _ _ _ _ _ _ _ h => h.elim) hg T.mgC (pa_cons (pe_weak he) (pa_cons (pe_weak he') pa_nil hs') hs) hdb hs hpl)
  refine ⟨fun pins s σ H D I ⟨Q1, z1, z2⟩ => Z.run pins s σ H D I ⟨_, z1, fun v H1 q => ?_⟩⟩
  obtain ⟨Q2, y1, y2⟩ := z2 v H1 q
  refine ⟨_, y1, fun u H2 q2 => ⟨(by show 2 ≤ 1000; decide), fun a ha => ?_⟩⟩
  refine ⟨a, v, u, rfl, upd_same, fun dx hdx hne H' h1 h2 h3 => ⟨rfl, dx, _, h1, h2, ?_, ?_⟩⟩
  · rw [upd_ne hne] at hdx
    exact hdx
  · rw [upd_ne hne] at hdx
    have e : upd (del H' a) dx (.xd [(g, u), (f, v)]) = upd H2 dx (.xd [(g, u), (f, v)]) := by
      funext b
      by_cases hb : b = dx
      · rw [hb, upd_same, upd_same]
      · rw [upd_ne hb, upd_ne hb]
        by_cases hb2 : b = a
        · rw [hb2, del_same, ha]
        · rw [del_ne hb2, h3 b hb2 hb, upd_ne hb2]
    rw [e]
    exact y2 u H2 q2 dx hdx
end
theorem ok_init2 {P : Program} {w : World} {K : PySem.W.Frag} {mg : Str → Option Value} {base : Heap} {fa C : Addr} {fd : FuncData} {qual f g : Str} {st : Stmt} {p1 p2 p3 p4 q1 q2 q3 q4 : Pos} (F : Fun K "__init__" qual st fa fd) (S : FnScope ["self", f, g] ["self", f, g] (defScope st))
    (hb : defBody st = [.Assign [.Attribute (.Name "self" p1) f p2] (.Name f p3) p4, .Assign [.Attribute (.Name "self" q1) g q2] (.Name g q3) q4])
    (h1 : (defScope st).names.lookup (Str.ofString "self") = some NameKind.local) (h2 : (defScope st).names.lookup f = some NameKind.local) (h3 : (defScope st).names.lookup g = some NameKind.local) (hd : (f == ("__debug__" : Str)) = false) (hd2 : (f == ("__classdict__" : Str)) = false) (hd' : (g == ("__debug__" : Str)) = false) (hd2' : (g == ("__classdict__" : Str)) = false) (T : OexC K C)
    (nf : PySem.W.findIn K (.ref C) f = some none) (ng : PySem.W.findIn K (.ref C) g = some none) : FnOk P w K mg base CX0 1 fa fd ["self", f, g] (spI2 C f g) := by
  refine F.ok S (fun vs H Q E h => ?_) (fun cdv A outer s H vs Q E hr h => ?_)
  · obtain ⟨a, v, u, rfl, _⟩ := h
    rfl
  · obtain ⟨a, v, u, rfl, ha, q⟩ := h
    rw [hb]
    refine ⟨_, pss_cons (ps_ost (pe_var (i := 0) rfl (.inl h1) (by decide) (by decide)) (pe_var (i := 1) rfl (.inl h2) hd hd2)) (pss_one (ps_ost (pe_var (i := 0) rfl (.inl h1) (by decide) (by decide)) (pe_var (i := 2) rfl (.inl h3) hd' hd2'))), ?_⟩
    refine ⟨_, rfl, _, rfl, a, C, rfl, T, nf, .inl ⟨ha, fun dx h3 h4 => ?_⟩⟩
    refine ⟨_, rfl, _, rfl, a, C, rfl, T, ng, .inr ⟨dx, _, upd_same, by rw [upd_ne h4, upd_same], (by show 1 ≤ 900; decide), ?_⟩⟩
    refine q dx h3 h4 _ (by rw [upd_ne (Ne.symm h4), upd_same]) upd_same fun b n1 n2 => ?_
    rw [upd_ne n2, upd_ne n1, upd_ne n2]
structure FileD where
  own : Bool
  refers : List Str
  hold : Option Int
  keeps : List (Option Int)
deriving DecidableEq
def namS (b : Bool) : Str := if b then "own" else "plain"
def optI : Option Int → V
  | none => .non
  | some i => .int i
theorem optI_inj {a b : Option Int} (h : optI a = optI b) : a = b := by
  cases a <;> cases b <;> cases h <;> rfl
/-- v is a File, its data f -/
def FileAt (K : PySem.W.Frag) (CF : Addr) (H : Hp) (v : V) (f : FileD) : Prop := ∃ a dx t1 t2, v = .ref a ∧ H a = some (.ins CF dx [("own_naming", .str (namS f.own)), ("own_refers", .ref t1), ("own_hold", optI f.hold), ("own_keeps", .ref t2)]) ∧ SqT K H t1 (f.refers.map V.str) ∧ SqT K H t2 (f.keeps.map optI)
theorem FileAt.same {K : PySem.W.Frag} {CF : Addr} {H H' : Hp} {v : V} {f : FileD} (h : FileAt K CF H v f) (s : Same H H') : FileAt K CF H' v f := by
  obtain ⟨a, dx, t1, t2, e, h1, h2, h3⟩ := h
  exact ⟨a, dx, t1, t2, e, s _ _ h1, SqT.sm h2 s, SqT.sm h3 s⟩
/-- what is given for the four parts -/
def okNaming (v : V) : Bool := v == .str "own" || v == .str "plain"
def okKeeps (k : Kd) (xs : List V) : Bool := (k.isLst || k.isTup) && decide (xs.length ≤ 4) && xs.all isTicksV
def fileErr (v1 : V) (k2 : Kd) (x2 : List V) (v3 : V) (k4 : Kd) (x4 : List V) : Option Str :=
  if okNaming v1 = false then some "naming" else if ((k2.isLst || k2.isTup) && areNamesL x2) = false then some "refers" else if isTicksV v3 = false then some "hold" else if okKeeps k4 x4 = false then some "keeps" else none
/-- f is what File makes of these parts -/
def FileOf (f : FileD) (v1 : V) (x2 : List V) (v3 : V) (x4 : List V) : Prop := v1 = .str (namS f.own) ∧ (∃ ns : List Str, x2 = ns.map V.str ∧ f.refers.Perm ns) ∧ sortedS f.refers = true ∧ v3 = optI f.hold ∧ x4 = f.keeps.map optI
end WP
namespace WP
open PySem L2 PySem.Spec PyProof.Rows
theorem dc_it {J : It} {n : Nat} {G0 : Hp → Prop} {Y : Nat → Hp → V → Hp → Prop} (w : Walk J n G0 Y) {g : TG} {tt : TT} {tk tv : TE} {vs : List Nat} {σ : L2.St} {H1 : Hp} {D : Addr} {Qd : Hp → Prop} (Pv : Nat → Hp → Prop) (h0 : Pv 0 (upd H1 D (.dK []))) (hG : ∀ i H, i ≤ n → Pv i H → G0 H)
    (hs : ∀ i x H H', i < n → Pv i H → Y i H x H' → g x (wipe σ vs) H' fun σ2 H2 => wipe σ2 vs = wipe σ vs ∧ tt σ2 H2 fun b H3 =>
      if b = true then tk σ2 H3 fun y H4 => tv σ2 H4 fun z H5 => ∃ kvs k, y = kV k ∧ H5 D = some (.dK kvs) ∧ kvs.length < sizeLine ∧ Pv (i + 1) (upd H5 D (.dK (putK kvs k z))) else Pv (i + 1) H3) (hd : ∀ H, Pv n H → Qd H) :
    ∃ W : Nat → Nat → Hp → Prop, (∃ m, W 0 m (upd H1 D (.dK []))) ∧ ∀ i m H, W i m H →
      (J.stop i H ∧ Qd H) ∨ (J.go i H ∧ ∃ Nx : Hp → Prop, (∀ H', Nx H' → ∃ m', m' < m ∧ W (i + 1) m' H') ∧ ∀ x H', J.yld i H x H' → g x (wipe σ vs) H' fun σ2 H2 => wipe σ2 vs = wipe σ vs ∧ tt σ2 H2 fun b H3 =>
        if b = true then tk σ2 H3 fun y H4 => tv σ2 H4 fun z H5 => ∃ kvs k, y = kV k ∧ H5 D = some (.dK kvs) ∧ kvs.length < sizeLine ∧ Nx (upd H5 D (.dK (putK kvs k z))) else Nx H3) := by
  refine ⟨fun i m H => m = n - i ∧ i ≤ n ∧ Pv i H, ⟨n, by simp, Nat.zero_le _, h0⟩, ?_⟩
  rintro i m H ⟨rfl, hi, p⟩
  have q := hG i H hi p
  by_cases hlt : i < n
  · exact .inr ⟨w.goes i H hlt q, Pv (i + 1), fun H' p' => ⟨n - (i + 1), by omega, rfl, hlt, p'⟩, fun x H' y => hs i x H H' hlt p (w.yields i H x H' hlt q y)⟩
  · have e : i = n := by omega
    subst e
    exact .inl ⟨w.stops H q, hd H p⟩
structure FileC (K : PySem.W.Frag) (CF : Addr) : Prop where
  cl : Cls K CF
  n1 : NoAttr K CF "own_naming"
  n2 : NoAttr K CF "own_refers"
  n3 : NoAttr K CF "own_hold"
  n4 : NoAttr K CF "own_keeps"
def SeqV (K : PySem.W.Frag) (H : Hp) (v : V) (k : Kd) (xs : List V) : Prop := Any K H v k ∧ ((k.isLst || k.isTup) = true → ∃ a, v = .ref a ∧ (SqL K H a xs ∨ SqT K H a xs) ∧ xs.length ≤ 1000 ∧ ∀ x ∈ xs, ∃ kx, Any K H x kx ∧ ∀ z, x = .str z → z.length ≤ sizeLine)
theorem SeqV.same {K : PySem.W.Frag} {H H' : Hp} {v : V} {k : Kd} {xs : List V} (h : SeqV K H v k xs) (s : Same H H') : SeqV K H' v k xs := ⟨h.1.same s, fun e => by
  obtain ⟨a, e1, h1, h2, h3⟩ := h.2 e
  exact ⟨a, e1, h1.imp (fun h => SqL.sm h s) (fun h => SqT.sm h s), h2, fun x hx => by
    obtain ⟨kx, h4, h5⟩ := h3 x hx
    exact ⟨kx, h4.same s, h5⟩⟩⟩
/-- what stands elsewhere stands -/
def SameX (x : Addr) (H H' : Hp) : Prop := ∀ b u, b ≠ x → H b = some u → H' b = some u
theorem SameX.of {x : Addr} {H H' : Hp} (s : Same H H') : SameX x H H' := fun b u _ e => s b u e
theorem SameX.trans {x : Addr} {H H' H'' : Hp} (s : SameX x H H') (t : SameX x H' H'') : SameX x H H'' := fun b u n e => t b u n (s b u n e)
theorem SameX.upd {x : Addr} {H H' : Hp} {o : HO} (s : SameX x H H') : SameX x H (upd H' x o) := fun b u n e => by
  rw [upd_ne n]
  exact s b u n e
theorem SqT.smX {K : PySem.W.Frag} {H H' : Hp} {a x C dx : Addr} {fs : List (Str × V)} {xs : List V} (h : SqT K H a xs) (hx : H x = some (.ins C dx fs)) (s : SameX x H H') : SqT K H' a xs := by
  rcases h with (h | ⟨o, h⟩) | h
  · exact .inl (.inl (s _ _ (ne_of h hx (by intro z; cases z)) h))
  · exact .inl (.inr ⟨o, s _ _ (ne_of h hx (by intro z; cases z)) h⟩)
  · exact .inr h
theorem SqL.smX {K : PySem.W.Frag} {H H' : Hp} {a x C dx : Addr} {fs : List (Str × V)} {xs : List V} (h : SqL K H a xs) (hx : H x = some (.ins C dx fs)) (s : SameX x H H') : SqL K H' a xs := by
  rcases h with (h | ⟨o, h⟩) | h
  · exact .inl (.inl (s _ _ (ne_of h hx (by intro z; cases z)) h))
  · exact .inl (.inr ⟨o, s _ _ (ne_of h hx (by intro z; cases z)) h⟩)
  · exact .inr h
theorem putF_len {f : Str} {v : V} : ∀ fs : List (Str × V), (putF f v fs).length ≤ fs.length + 1
  | [] => Nat.le_refl _
  | (g, x) :: r => by
    unfold putF
    split
    · exact Nat.le_succ _
    · exact Nat.succ_le_succ (putF_len r)
theorem pf {f : Str} {v : V} {fs : List (Str × V)} {n : Nat} (h : fs.length < n) : (putF f v fs).length < n + 1 := Nat.lt_of_le_of_lt (putF_len fs) (Nat.succ_lt_succ h)
/-- any ticks are an optional number -/
theorem ticks_opt {v : V} (h : isTicksV v = true) : ∃ o, v = optI o := by
  cases v with
  | non => exact ⟨none, rfl⟩
  | int i => exact ⟨some i, rfl⟩
  | _ => exact absurd h (by simp [isTicksV])
theorem ticks_opts : ∀ {xs : List V}, xs.all isTicksV = true → ∃ os : List (Option Int), xs = os.map optI
  | [], _ => ⟨[], rfl⟩
  | v :: r, h => by
    rw [List.all_cons, Bool.and_eq_true] at h
    obtain ⟨o, e⟩ := ticks_opt h.1
    obtain ⟨os, e2⟩ := ticks_opts h.2
    exact ⟨o :: os, by rw [e, e2]; rfl⟩
theorem naming_own {v : V} (h : okNaming v = true) : ∃ b, v = .str (namS b) := by
  unfold okNaming at h
  rw [Bool.or_eq_true, beq_iff_eq, beq_iff_eq] at h
  rcases h with h | h
  · exact ⟨true, h⟩
  · exact ⟨false, h⟩
def spFile (K : PySem.W.Frag) (CF CE : Addr) : Sp := fun vs H Q E => ∃ (x dx : Addr) (v1 : V) (k1 : Kd) (v2 : V) (k2 : Kd) (x2 : List V) (v3 : V) (k3 : Kd) (v4 : V) (k4 : Kd) (x4 : List V), vs = [.ref x, v1, v2, v3, v4] ∧ H x = some (.ins CF dx []) ∧ Any K H v1 k1 ∧ SeqV K H v2 k2 x2 ∧ Any K H v3 k3 ∧ SeqV K H v4 k4 x4 ∧ x2.length < 64 ∧
  (∀ pt, fileErr v1 k2 x2 v3 k4 x4 = some pt → ∀ d H', Same H H' → H' d = some (.xd [("part", .str pt)]) → E (.ref CE) (some d) H') ∧
  (fileErr v1 k2 x2 v3 k4 x4 = none → ∀ f H', FileOf f v1 x2 v3 x4 → SameX x H H' → FileAt K CF H' (.ref x) f → Q .non H')
end WP
namespace WP
open PySem L2 PySem.Spec PyProof.Rows
theorem ext_tup (l : Addr) (us : Array Value) (n : Nat) (b : Addr) (ws : Array Value) (m : Nat) (dd : Option Addr) (sl : Array (Option Value)) (c0 : ¬(!us.isEmpty && Builtin.List.listTooLong (us.size + ws.size)) = true) (c1 : us.size ≤ sizeLine) (c2 : us.size + ws.size ≤ sizeLine + 1) :
    Meets (Builtin.«list.extend» ⟨[.ref l, .ref b], []⟩) (fun _ R s => s.heap.get? l = some { cls := .type "list", dict := none, data := .seq us n, slots := #[] } ∧ s.heap.get? b = some ⟨.type "tuple", dd, .seq ws m, sl⟩ ∧ R (.ok (.ret Value.none)) { s with heap := s.heap.update l (Obj.mapSeq fun x => x ++ ws), toks := s.toks }) :=
  .of_wp fun prog w A R s h => by
    obtain ⟨hp, g, d, tk, os⟩ := s
    obtain ⟨hl, hb, h⟩ := h
    have f1 := AutoSeq1.idx_int
    have f2 := AutoSeq1.sub_tuple_tuple; have f3 := AutoSeq1.sub_list_list
    have f4 := AutoSeq1.sub_tuple_list; have f5 := AutoSeq1.sub_list_tuple
    have hz' : (us ++ ws).size ≤ sizeLine + 1 := by rw [Array.size_append]; exact c2
    wp_walk using (wpAny_updateSeq hl rfl (hz := c1) (_hz' := hz')), AutoSeq1.wpAny_loadPart' hl, AutoSeq1.wpAny_loadPart' hb
    exact ⟨_, rfl, h⟩
def rExtT (K : PySem.W.Frag) : V → List V → Hp → VK → Prop := fun x vs H Q => ∃ l b xs zs, x = .ref l ∧ vs = [.ref b] ∧ H l = some (.lst xs) ∧ SqT K H b zs ∧ xs.length + zs.length ≤ sizeLine ∧ Q .non (upd H l (.lst (xs ++ zs)))
theorem mt_extT {X : Cx} : MtM X "list.extend" (rExtT X.K) := by
  intro pins s σ H x vs v us Q I rx rv h
  obtain ⟨l, b, xs, zs, rfl, rfl, hH, hB, hz, q⟩ := h
  cases rx
  obtain ⟨u, rfl, ru⟩ := rv.one
  cases ru
  obtain ⟨z, its, n, r, hl, e⟩ := I.lstM hH
  obtain ⟨its2, r2, ⟨o2, e2, oc, n2, od⟩, z2⟩ := I.tuple hB
  obtain ⟨c2, d2, a2, s2⟩ := o2
  simp only at oc od
  subst oc od
  have hl2 : its2.length = zs.length := r2.length.symm
  have hsz : its.toArray.size + its2.toArray.size ≤ sizeLine := by rw [List.size_toArray, List.size_toArray, hl2]; omega
  have hlong : ¬ (!its.toArray.isEmpty && Builtin.List.listTooLong (its.toArray.size + its2.toArray.size)) = true := by
    rw [notLongL hsz, Bool.and_false]
    exact Bool.false_ne_true
  refine call_meets F.slot_list_extend ⟨_, e, rfl⟩ F.entry_list_extend (F.args_list_extend_2 _ _) (ext_tup l its.toArray n b its2.toArray n2 d2 s2 hlong (by rw [List.size_toArray]; omega) (by omega)) ⟨e, e2, ?_⟩
  refine ⟨.non, _, I.lset (its' := its ++ its2) hH e (by simp) (r.append r2) ?_, rfl, q⟩
  rw [List.length_append]
  omega
def spGet (C : Addr) (fld : Str) : Sp := fun vs H Q _ => ∃ (a dx : Addr) (fs : List (Str × V)) (v : V), vs = [.ref a] ∧ H a = some (.ins C dx fs) ∧ fs.lookup fld = some v ∧ Q v H
structure Getter (P : Program) (w : World) (K : PySem.W.Frag) (mg : Str → Option Value) (base : Heap) (C : Addr) (x fld : Str) : Prop where
  cl : Cls K C
  ex : ∃ p g fd, PropOf K C x p g ∧ FnOk P w K mg base CX0 1 g fd ["self"] (spGet C fld) ∧ Binds K fd ["self"] []
section
variable {X : Cx} {C : Addr} {x fld : Str} {e : Expr} {te : TE} {pos : Pos}
theorem p_get (Z : Getter X.prog X.w X.K X.mg X.base C x fld) (hr : Room 2 X.A) (he : PE X e te) (hab : attributeBase e x X.env (eval e X.env) = eval e X.env := by rfl) :
    PE X (.Attribute e x pos) (fun σ H Q => te σ H fun y H1 => ∃ (a dx : Addr) (fs : List (Str × V)) (v : V), y = .ref a ∧ H1 a = some (.ins C dx fs) ∧ fs.lookup fld = some v ∧ Q v H1) := by
  obtain ⟨p, g, fd, hp, F, hb⟩ := Z.ex
  have Z' := pe_prop (pos := pos) (E := C8.E0) (pe_weak he) Z.cl hp F hr hb .nil (fun _ _ _ _ _ _ _ h => h.elim) hab
  refine ⟨fun pins s σ H Q I h => Z'.run pins s σ H Q I ⟨_, h, fun y H1 ⟨a, dx, fs, v, e1, h1, h2, q⟩ => ⟨a, dx, fs, e1, h1, a, dx, fs, v, rfl, h1, h2, q⟩⟩⟩
end
theorem ok_getter {P : Program} {w : World} {K : PySem.W.Frag} {mg : Str → Option Value} {base : Heap} {f C : Addr} {fd : FuncData} {x qual fld : Str} {st : Stmt} {p1 p2 p3 : Pos} (F : Fun K x qual st f fd) (S : FnScope ["self"] ["self"] (defScope st)) (hb : defBody st = [.Return (some (.Attribute (.Name "self" p1) fld p2)) p3])
    (h1 : (defScope st).names.lookup (Str.ofString "self") = some NameKind.local) (cl : Cls K C) (no : NoAttr K C fld) : FnOk P w K mg base CX0 1 f fd ["self"] (spGet C fld) := by
  refine F.ok S (fun vs H Q E h => ?_) (fun cdv A outer s H vs Q E hr h => ?_)
  · obtain ⟨a, dx, fs, v, rfl, _⟩ := h
    rfl
  · obtain ⟨a, dx, fs, v, rfl, ha, hl, q⟩ := h
    rw [hb]
    refine ⟨_, pss_one (ps_ret (pe_fld (pe_var (i := 0) rfl (.inl h1) (by decide) (by decide)) rfl)), ?_⟩
    exact ⟨_, rfl, a, C, dx, fs, v, rfl, ha, cl, no, hl, q⟩
end WP
namespace WP
open PySem L2 PySem.Spec PyProof.Rows
def lkF (fs : List (Str × FileD)) (n : Str) : Option FileD := (fs.find? fun p => decide (p.1 = n)).map (·.2)
def rf (fs : List (Str × FileD)) (n : Str) : List Str := match lkF fs n with | some f => f.refers | none => []
inductive Rc (fs : List (Str × FileD)) : Str → Str → Prop
  | one {x y : Str} : y ∈ rf fs x → Rc fs x y
  | more {x y z : Str} : Rc fs x y → z ∈ rf fs y → Rc fs x z
theorem lkF_hit {fs : List (Str × FileD)} {n : Str} {f : FileD} {r : List (Str × FileD)} : lkF ((n, f) :: r) n = some f := by simp [lkF]
theorem lkF_skip {n m : Str} {f : FileD} {r : List (Str × FileD)} (h : m ≠ n) : lkF ((m, f) :: r) n = lkF r n := by simp [lkF, h]
theorem lkF_mem {n : Str} {f : FileD} : ∀ {fs : List (Str × FileD)}, lkF fs n = some f → (n, f) ∈ fs
  | [], h => by cases h
  | (m, g) :: r, h => by
    by_cases e : m = n
    · rw [e, lkF_hit (fs := r)] at h
      rw [e, Option.some.inj h]
      exact List.mem_cons_self
    · rw [lkF_skip e] at h
      exact List.mem_cons_of_mem _ (lkF_mem h)
theorem lkF_key {n : Str} : ∀ {fs : List (Str × FileD)}, n ∈ fs.map (·.1) ↔ ∃ f, lkF fs n = some f
  | [] => ⟨fun h => (by cases h), fun ⟨f, h⟩ => (by cases h)⟩
  | (m, g) :: r => by
    by_cases e : m = n
    · rw [e, lkF_hit (fs := r)]
      exact ⟨fun _ => ⟨g, rfl⟩, fun _ => List.mem_cons_self⟩
    · rw [lkF_skip e, ← lkF_key, List.map_cons, List.mem_cons]
      exact ⟨fun h => h.resolve_left (fun z => e z.symm), .inr⟩
theorem lkF_none {n : Str} {fs : List (Str × FileD)} (h : n ∉ fs.map (·.1)) : lkF fs n = none := by
  cases e : lkF fs n with
  | none => rfl
  | some f => exact absurd (lkF_key.mpr ⟨f, e⟩) h
/-- all files are named, refer to files of the same, some few -/
structure FsOk (fs : List (Str × FileD)) : Prop where
  few : fs.length ≤ 8
  nd : (fs.map (·.1)).Nodup
  nam : ∀ n ∈ fs.map (·.1), isNameS n = true
  cl : ∀ n f, lkF fs n = some f → ∀ m ∈ f.refers, m ∈ fs.map (·.1)
  rnd : ∀ n f, lkF fs n = some f → f.refers.Nodup
section
variable {fs : List (Str × FileD)}
theorem FsOk.rf_mem (h : FsOk fs) {n m : Str} (hm : m ∈ rf fs n) : m ∈ fs.map (·.1) := by
  unfold rf at hm
  cases e : lkF fs n with
  | none => rw [e] at hm; cases hm
  | some f => rw [e] at hm; exact h.cl n f e m hm
theorem FsOk.rf_nd (h : FsOk fs) (n : Str) : (rf fs n).Nodup := by
  unfold rf
  cases e : lkF fs n with
  | none => exact List.nodup_nil
  | some f => exact h.rnd n f e
theorem FsOk.rf_len (h : FsOk fs) (n : Str) : (rf fs n).length ≤ 8 := by
  have := pigeon (rf fs n) (fs.map (·.1)) (h.rf_nd n) fun x hx => h.rf_mem hx
  rw [List.length_map] at this
  exact Nat.le_trans this h.few
theorem FsOk.rc_mem (h : FsOk fs) {n m : Str} (r : Rc fs n m) : m ∈ fs.map (·.1) := by
  cases r with
  | one h1 => exact h.rf_mem h1
  | more _ h1 => exact h.rf_mem h1
theorem rf_of {n : Str} {f : FileD} (e : lkF fs n = some f) : rf fs n = f.refers := by unfold rf; rw [e]
end
structure BelI (fs : List (Str × FileD)) (n : Str) (found line : List Str) : Prop where
  fr : ∀ x ∈ found, Rc fs n x
  lr : ∀ x ∈ line, Rc fs n x
  st : ∀ x ∈ rf fs n, x ∈ found ∨ x ∈ line
  cl : ∀ y ∈ found, ∀ x ∈ rf fs y, x ∈ found ∨ x ∈ line
  nd : found.Nodup
section
variable {fs : List (Str × FileD)} {n : Str} {found line l : List Str} {x : Str}
theorem BelI.start : BelI fs n [] (rf fs n) := ⟨fun x h => (by cases h), fun x h => .one h, fun x h => .inr h, fun y h => (by cases h), List.nodup_nil⟩
theorem BelI.seen (I : BelI fs n found (l ++ [x])) (h : x ∈ found) : BelI fs n found l := by
  have k : ∀ y, y ∈ found ∨ y ∈ l ++ [x] → y ∈ found ∨ y ∈ l := fun y hy => hy.elim .inl fun z => (List.mem_append.mp z).elim .inr fun e => .inl (List.mem_singleton.mp e ▸ h)
  exact ⟨I.fr, fun y hy => I.lr y (List.mem_append_left _ hy), fun y hy => k y (I.st y hy), fun z hz y hy => k y (I.cl z hz y hy), I.nd⟩
theorem BelI.step (I : BelI fs n found (l ++ [x])) (h : x ∉ found) : BelI fs n (found ++ [x]) (l ++ rf fs x) := by
  have rx : Rc fs n x := I.lr x (List.mem_append_right _ (List.mem_singleton.mpr rfl))
  have k : ∀ y, y ∈ found ∨ y ∈ l ++ [x] → y ∈ found ++ [x] ∨ y ∈ l ++ rf fs x := fun y hy => hy.elim (fun z => .inl (List.mem_append_left _ z)) fun z => (List.mem_append.mp z).elim (fun q => .inr (List.mem_append_left _ q)) fun e => .inl (List.mem_append_right _ e)
  refine ⟨fun y hy => (List.mem_append.mp hy).elim (I.fr y) fun e => List.mem_singleton.mp e ▸ rx, fun y hy => (List.mem_append.mp hy).elim (fun q => I.lr y (List.mem_append_left _ q)) fun q => rx.more q, fun y hy => k y (I.st y hy), fun z hz y hy => ?_, ?_⟩
  · rcases List.mem_append.mp hz with hz | hz
    · exact k y (I.cl z hz y hy)
    · rw [List.mem_singleton.mp hz] at hy
      exact .inr (List.mem_append_right _ hy)
  · rw [List.nodup_append]
    exact ⟨I.nd, List.nodup_cons.mpr ⟨by simp, List.nodup_nil⟩, fun a ha b hb e => h (by rw [← List.mem_singleton.mp hb, ← e]; exact ha)⟩
theorem BelI.fin (I : BelI fs n found []) (y : Str) : y ∈ found ↔ Rc fs n y := by
  refine ⟨I.fr y, fun r => ?_⟩
  induction r with
  | one h => exact (I.st _ h).resolve_right (by simp)
  | more _ h ih => exact (I.cl _ ih _ h).resolve_right (by simp)
theorem BelI.len (h : FsOk fs) (I : BelI fs n found line) : found.length ≤ 8 := by
  have := pigeon found (fs.map (·.1)) I.nd fun x hx => h.rc_mem (I.fr x hx)
  rw [List.length_map] at this
  exact Nat.le_trans this h.few
end
/-- t tells, for the file e and all below it, what refers to it -/
structure TreeOf (fs : List (Str × FileD)) (e : Str) (t : List (Str × Option Str)) : Prop where
  nd : (t.map (·.1)).Nodup
  root : (e, none) ∈ t
  par : ∀ x p, (x, p) ∈ t → (x = e ∧ p = none) ∨ ∃ q, p = some q ∧ q ∈ t.map (·.1) ∧ x ∈ rf fs q
  chi : ∀ q ∈ t.map (·.1), ∀ x ∈ rf fs q, (x, some q) ∈ t
  rc : ∀ x ∈ t.map (·.1), x = e ∨ Rc fs e x
theorem key_uni {t : List (Str × Option Str)} (h : (t.map (·.1)).Nodup) {x : Str} {p q : Option Str} (h1 : (x, p) ∈ t) (h2 : (x, q) ∈ t) : p = q := by
  induction t with
  | nil => cases h1
  | cons a r ih =>
    rw [List.map_cons, List.nodup_cons] at h
    rcases List.mem_cons.mp h1 with e1 | h1
    · rcases List.mem_cons.mp h2 with e2 | h2
      · exact (Prod.mk.inj (e1.trans e2.symm)).2
      · exact absurd (List.mem_map.mpr ⟨_, h2, by rw [← e1]⟩) h.1
    · rcases List.mem_cons.mp h2 with e2 | h2
      · exact absurd (List.mem_map.mpr ⟨_, h1, by rw [← e2]⟩) h.1
      · exact ih h.2 h1 h2
section
variable {fs : List (Str × FileD)} {e : Str} {t : List (Str × Option Str)}
theorem TreeOf.key (T : TreeOf fs e t) {x : Str} (h : x = e ∨ Rc fs e x) : x ∈ t.map (·.1) := by
  rcases h with rfl | h
  · exact List.mem_map.mpr ⟨_, T.root, rfl⟩
  · induction h with
    | one h => exact List.mem_map.mpr ⟨_, T.chi e (List.mem_map.mpr ⟨_, T.root, rfl⟩) _ h, rfl⟩
    | more _ h ih => exact List.mem_map.mpr ⟨_, T.chi _ ih _ h, rfl⟩
theorem TreeOf.mem (T : TreeOf fs e t) (x : Str) : x ∈ t.map (·.1) ↔ x = e ∨ Rc fs e x := ⟨T.rc x, T.key⟩
end
/-- the search: t found so far, line: those whose references are still to be looked at -/
structure TreI (fs : List (Str × FileD)) (e : Str) (t : List (Str × Option Str)) (line : List Str) : Prop where
  nd : (t.map (·.1)).Nodup
  root : (e, none) ∈ t
  par : ∀ x p, (x, p) ∈ t → (x = e ∧ p = none) ∨ ∃ q, p = some q ∧ q ∈ t.map (·.1) ∧ q ∉ line ∧ x ∈ rf fs q
  chi : ∀ q ∈ t.map (·.1), q ∉ line → ∀ x ∈ rf fs q, (x, some q) ∈ t
  rc : ∀ x ∈ t.map (·.1), x = e ∨ Rc fs e x
  ln : ∀ x ∈ line, x ∈ t.map (·.1)
  lnd : line.Nodup
/-- the search within one file's references: done of them so far -/
structure TreJ (fs : List (Str × FileD)) (e : Str) (t : List (Str × Option Str)) (line : List Str) (h : Str) (done : List Str) : Prop where
  nd : (t.map (·.1)).Nodup
  root : (e, none) ∈ t
  par : ∀ x p, (x, p) ∈ t → (x = e ∧ p = none) ∨ ∃ q, p = some q ∧ q ∈ t.map (·.1) ∧ q ∉ line ∧ (if q = h then x ∈ done else x ∈ rf fs q)
  chi : ∀ q ∈ t.map (·.1), q ∉ line → ∀ x ∈ (if q = h then done else rf fs q), (x, some q) ∈ t
  rc : ∀ x ∈ t.map (·.1), x = e ∨ Rc fs e x
  ln : ∀ x ∈ line, x ∈ t.map (·.1)
  lnd : line.Nodup
  hk : h ∈ t.map (·.1)
  hl : h ∉ line
section
variable {fs : List (Str × FileD)} {e h x : Str} {t : List (Str × Option Str)} {line l done r : List Str}
theorem TreI.start : TreI fs e [(e, none)] [e] := by
  refine ⟨by simp, by simp, fun x p hx => ?_, fun q hq hn => ?_, fun x hx => ?_, fun x hx => ?_, by simp⟩
  · have := List.mem_singleton.mp hx
    exact .inl ⟨(Prod.mk.inj this).1, (Prod.mk.inj this).2⟩
  · exact absurd hq (by simpa using hn)
  · exact .inl (by simpa using hx)
  · simpa using hx
theorem TreI.open (I : TreI fs e t (l ++ [h])) : TreJ fs e t l h [] := by
  have hl : h ∉ l := fun z => by
    have := List.nodup_append.mp I.lnd
    exact this.2.2 h z h (List.mem_singleton.mpr rfl) rfl
  refine ⟨I.nd, I.root, fun x p hx => ?_, fun q hq hn => ?_, I.rc, fun x hx => I.ln x (List.mem_append_left _ hx), (List.nodup_append.mp I.lnd).1, I.ln h (List.mem_append_right _ (List.mem_singleton.mpr rfl)), hl⟩
  · rcases I.par x p hx with z | ⟨q, e1, h1, h2, h3⟩
    · exact .inl z
    · have : q ≠ h := fun z => h2 (by rw [z]; exact List.mem_append_right _ (List.mem_singleton.mpr rfl))
      exact .inr ⟨q, e1, h1, fun z => h2 (List.mem_append_left _ z), by rw [if_neg this]; exact h3⟩
  · by_cases z : q = h
    · intro x hx
      rw [if_pos z] at hx
      cases hx
    · rw [if_neg z]
      exact I.chi q hq fun y => (List.mem_append.mp y).elim hn fun w => z (List.mem_singleton.mp w)
theorem TreJ.close (J : TreJ fs e t line h (rf fs h)) : TreI fs e t line := by
  refine ⟨J.nd, J.root, fun x p hx => ?_, fun q hq hn x hx => ?_, J.rc, J.ln, J.lnd⟩
  · rcases J.par x p hx with z | ⟨q, e1, h1, h2, h3⟩
    · exact .inl z
    · refine .inr ⟨q, e1, h1, h2, ?_⟩
      by_cases z : q = h
      · rw [if_pos z] at h3
        rw [z]
        exact h3
      · rw [if_neg z] at h3
        exact h3
  · refine J.chi q hq hn x ?_
    by_cases z : q = h
    · rw [if_pos z, ← z]
      exact hx
    · rw [if_neg z]
      exact hx
theorem TreJ.add (J : TreJ fs e t line h done) (hx : x ∉ t.map (·.1)) (hr : x ∈ rf fs h) : TreJ fs e (t ++ [(x, some h)]) (line ++ [x]) h (done ++ [x]) := by
  have xh : x ≠ h := fun z => hx (by rw [z]; exact J.hk)
  have km : ∀ y, y ∈ (t ++ [(x, some h)]).map (·.1) ↔ y ∈ t.map (·.1) ∨ y = x := fun y => by rw [List.map_append, List.mem_append, List.map_singleton, List.mem_singleton]
  refine ⟨?_, List.mem_append_left _ J.root, fun y p hy => ?_, fun q hq hn y hy => ?_, fun y hy => ?_, fun y hy => ?_, ?_, (km h).mpr (.inl J.hk), fun z => ?_⟩
  · rw [List.map_append, List.nodup_append]
    refine ⟨J.nd, by simp, fun a ha b hb z => hx ?_⟩
    have : b = x := by simpa using hb
    rw [← this, ← z]
    exact ha
  · rcases List.mem_append.mp hy with hy | hy
    · rcases J.par y p hy with z | ⟨q, e1, h1, h2, h3⟩
      · exact .inl z
      · refine .inr ⟨q, e1, (km q).mpr (.inl h1), fun z => (List.mem_append.mp z).elim h2 fun w => hx (by rw [← List.mem_singleton.mp w]; exact h1), ?_⟩
        by_cases z : q = h
        · rw [if_pos z] at h3 ⊢
          exact List.mem_append_left _ h3
        · rw [if_neg z] at h3 ⊢
          exact h3
    · have hy := Prod.mk.inj (List.mem_singleton.mp hy)
      refine .inr ⟨h, hy.2, (km h).mpr (.inl J.hk), fun z => (List.mem_append.mp z).elim J.hl fun w => xh (List.mem_singleton.mp w).symm, ?_⟩
      rw [if_pos rfl, hy.1]
      exact List.mem_append_right _ (List.mem_singleton.mpr rfl)
  · have hn' : q ∉ line := fun z => hn (List.mem_append_left _ z)
    rcases (km q).mp hq with hq | hq
    · by_cases z : q = h
      · rw [if_pos z] at hy
        rcases List.mem_append.mp hy with hy | hy
        · refine List.mem_append_left _ (J.chi q hq hn' y ?_)
          rw [if_pos z]
          exact hy
        · rw [List.mem_singleton.mp hy, z]
          exact List.mem_append_right _ (List.mem_singleton.mpr rfl)
      · rw [if_neg z] at hy
        refine List.mem_append_left _ (J.chi q hq hn' y ?_)
        rw [if_neg z]
        exact hy
    · exact absurd (List.mem_append_right _ (List.mem_singleton.mpr hq)) hn
  · rcases (km y).mp hy with hy | hy
    · exact J.rc y hy
    · rw [hy]
      rcases J.rc h J.hk with z | z
      · rw [z] at hr
        exact .inr (.one hr)
      · exact .inr (z.more hr)
  · rcases List.mem_append.mp hy with hy | hy
    · exact (km y).mpr (.inl (J.ln y hy))
    · exact (km y).mpr (.inr (List.mem_singleton.mp hy))
  · rw [List.nodup_append]
    exact ⟨J.lnd, by simp, fun a ha b hb z => hx (by rw [← List.mem_singleton.mp hb, ← z]; exact J.ln a ha)⟩
  · exact (List.mem_append.mp z).elim J.hl fun w => xh (List.mem_singleton.mp w).symm
/-- one that is there already: no tree -/
theorem TreJ.two (J : TreJ fs e t line h done) (hx : x ∈ t.map (·.1)) (hr : x ∈ rf fs h) (hn : x ∉ done) : ¬ ∃ t', TreeOf fs e t' := by
  rintro ⟨t', T⟩
  have h1 : (x, some h) ∈ t' := T.chi h (T.key (J.rc h J.hk)) x hr
  obtain ⟨⟨y, p⟩, hy, rfl⟩ := List.mem_map.mp hx
  rcases J.par y p hy with ⟨z1, z2⟩ | ⟨q, rfl, h2, h3, h4⟩
  · have hr' := T.root
    rw [← z1] at hr'
    cases key_uni T.nd h1 hr'
  · by_cases z : q = h
    · rw [if_pos z] at h4
      exact hn h4
    · rw [if_neg z] at h4
      have h5 : (y, some q) ∈ t' := T.chi q (T.key (J.rc q h2)) y h4
      exact z (Option.some.inj (key_uni T.nd h5 h1))
theorem TreI.fin (I : TreI fs e t []) : TreeOf fs e t :=
  ⟨I.nd, I.root, fun x p hx => (I.par x p hx).imp id fun ⟨q, e1, h1, _, h3⟩ => ⟨q, e1, h1, h3⟩, fun q hq => I.chi q hq (by simp), I.rc⟩
theorem TreJ.len (ok : FsOk fs) (J : TreJ fs e t line h done) (he : e ∈ fs.map (·.1)) : t.length ≤ 8 := by
  have := pigeon (t.map (·.1)) (fs.map (·.1)) J.nd fun x hx => (J.rc x hx).elim (fun z => z ▸ he) fun z => ok.rc_mem z
  rw [List.length_map, List.length_map] at this
  exact Nat.le_trans this ok.few
theorem TreI.len (ok : FsOk fs) (J : TreI fs e t line) (he : e ∈ fs.map (·.1)) : t.length ≤ 8 := by
  have := pigeon (t.map (·.1)) (fs.map (·.1)) J.nd fun x hx => (J.rc x hx).elim (fun z => z ▸ he) fun z => ok.rc_mem z
  rw [List.length_map, List.length_map] at this
  exact Nat.le_trans this ok.few
end
inductive FilesR (K : PySem.W.Frag) (CF : Addr) (H : Hp) : List (Key × V) → List (Str × FileD) → Prop
  | nil : FilesR K CF H [] []
  | cons {n : Str} {v : V} {f : FileD} {kvs : List (Key × V)} {fs : List (Str × FileD)} : FileAt K CF H v f → FilesR K CF H kvs fs → FilesR K CF H ((.inr n, v) :: kvs) ((n, f) :: fs)
section
variable {K : PySem.W.Frag} {CF : Addr} {H H' : Hp} {kvs : List (Key × V)} {fs : List (Str × FileD)}
theorem FilesR.same (h : FilesR K CF H kvs fs) (s : Same H H') : FilesR K CF H' kvs fs := by
  induction h with
  | nil => exact .nil
  | cons h _ ih => exact .cons (h.same s) ih
theorem FilesR.get (h : FilesR K CF H kvs fs) (n : Str) : (valV kvs (.inr n) = none ∧ lkF fs n = none) ∨ ∃ v f, valV kvs (.inr n) = some v ∧ lkF fs n = some f ∧ FileAt K CF H v f := by
  induction h with
  | nil => exact .inl ⟨rfl, rfl⟩
  | @cons m v f kvs fs h _ ih =>
    by_cases e : m = n
    · subst e
      exact .inr ⟨v, f, valV_pos rfl, lkF_hit (fs := fs), h⟩
    · rw [valV_neg (fun z => e (Sum.inr.inj z)), lkF_skip e]
      exact ih
theorem FilesR.len (h : FilesR K CF H kvs fs) : kvs.length = fs.length := by
  induction h with
  | nil => rfl
  | cons h _ ih => simp [ih]
theorem FilesR.keys (h : FilesR K CF H kvs fs) : kvs.map (·.1) = (fs.map (·.1)).map Sum.inr := by
  induction h with
  | nil => rfl
  | cons h _ ih => simp [ih]
end
/-- the files' dict at d -/
def FilesAt (K : PySem.W.Frag) (CF : Addr) (H : Hp) (d : Addr) (fs : List (Str × FileD)) : Prop := ∃ kvs, H d = some (.dK kvs) ∧ FilesR K CF H kvs fs
theorem FilesAt.same {K : PySem.W.Frag} {CF : Addr} {H H' : Hp} {d : Addr} {fs : List (Str × FileD)} (h : FilesAt K CF H d fs) (s : Same H H') : FilesAt K CF H' d fs := by
  obtain ⟨kvs, h1, h2⟩ := h
  exact ⟨kvs, s _ _ h1, h2.same s⟩
/-- files[n] -/
theorem FilesAt.get {K : PySem.W.Frag} {CF : Addr} {H : Hp} {d : Addr} {fs : List (Str × FileD)} (h : FilesAt K CF H d fs) {n : Str} {f : FileD} (e : lkF fs n = some f) : ∃ v, DGet H d (.str n) (some v) ∧ FileAt K CF H v f := by
  obtain ⟨kvs, h1, h2⟩ := h
  rcases h2.get n with ⟨_, e2⟩ | ⟨v, g, e1, e2, h3⟩
  · rw [e2] at e
    cases e
  · rw [e2] at e
    cases e
    refine ⟨v, ?_, h3⟩
    have := DGet.k (k := Sum.inr n) h1
    rw [e1] at this
    exact this
def optS : Option Str → V
  | none => .non
  | some x => .str x
theorem SqT.put {K : PySem.W.Frag} {H : Hp} {a p : Addr} {xs : List V} {o o' : HO} (h : SqT K H a xs) (hp : H p = some o) (n1 : ∀ ys, o ≠ .tup ys) (n2 : ∀ b ys, o ≠ .frz b (.tup ys)) : SqT K (upd H p o') a xs := by
  rcases h with (h | ⟨b, h⟩) | h
  · exact .inl (.inl (by rw [upd_ne (fun e => by rw [e, hp] at h; exact n1 _ (Option.some.inj h))]; exact h))
  · exact .inl (.inr ⟨b, by rw [upd_ne (fun e => by rw [e, hp] at h; exact n2 _ _ (Option.some.inj h))]; exact h⟩)
  · exact .inr h
theorem lock_same {H H' : Hp} {d : Addr} {u : HO} {od : Obj} (h : H d = some u) (s : Same (upd H d (.frz od u)) H') : Same H (upd H' d u) := fun b o e => by
  by_cases hb : b = d
  · rw [hb] at e ⊢
    rw [upd_same, ← h]
    exact e
  · rw [upd_ne hb]
    exact s b o (by rw [upd_ne hb]; exact e)
end WP
namespace WP
open PySem L2 PySem.Spec PyProof.Rows
structure FileOk (f : FileD) : Prop where
  nd : f.refers.Nodup
  nam : ∀ x ∈ f.refers, isNameS x = true
  so : sortedS f.refers = true
  kp : f.keeps.length ≤ 4
  fw : f.refers.length < 64
  hd : isTicksV (optI f.hold) = true
  kt : ∀ k ∈ f.keeps, isTicksV (optI k) = true
theorem FileOf.ok {f : FileD} {v1 v3 : V} {k2 k4 : Kd} {x2 x4 : List V} (h : FileOf f v1 x2 v3 x4) (e : fileErr v1 k2 x2 v3 k4 x4 = none) (hl : x2.length < 64) : FileOk f := by
  obtain ⟨h1, ⟨ns, rfl, hp⟩, hs, rfl, rfl⟩ := h
  unfold fileErr at e
  by_cases e1 : okNaming v1 = false
  · rw [if_pos e1] at e; cases e
  rw [if_neg e1] at e
  by_cases e2 : ((k2.isLst || k2.isTup) && areNamesL (ns.map V.str)) = false
  · rw [if_pos e2] at e; cases e
  rw [if_neg e2] at e
  by_cases e3 : isTicksV (optI f.hold) = false
  · rw [if_pos e3] at e; cases e
  rw [if_neg e3] at e
  by_cases e4 : okKeeps k4 (f.keeps.map optI) = false
  · rw [if_pos e4] at e; cases e
  simp only [Bool.not_eq_false] at e2 e3 e4
  unfold okKeeps at e4
  rw [Bool.and_eq_true, Bool.and_eq_true, decide_eq_true_eq, List.length_map, List.all_eq_true] at e4
  rw [Bool.and_eq_true] at e2
  have e5 := e2.2
  unfold areNamesL at e5
  rw [Bool.and_eq_true, decide_eq_true_eq, List.all_eq_true, nodup_strs] at e5
  exact ⟨hp.nodup_iff.mpr e5.2, fun x hx => e5.1 (.str x) (List.mem_map.mpr ⟨x, hp.subset hx, rfl⟩), hs, e4.1.2, (by rw [hp.length_eq]; simpa using hl), e3, fun k hk => e4.2 _ (List.mem_map.mpr ⟨k, hk, rfl⟩)⟩
inductive FVals (K : PySem.W.Frag) (CF : Addr) (H : Hp) : List (Key × V) → List (Key × Option FileD) → Prop
  | nil : FVals K CF H [] []
  | file {k : Key} {v : V} {f : FileD} {kvs : List (Key × V)} {l : List (Key × Option FileD)} : FileAt K CF H v f → FileOk f → FVals K CF H kvs l → FVals K CF H ((k, v) :: kvs) ((k, some f) :: l)
  | other {k : Key} {v : V} {kd : Kd} {kvs : List (Key × V)} {l : List (Key × Option FileD)} : Any K H v kd → PySem.W.kitOne K kd.ty (.ref CF) = some false → FVals K CF H kvs l → FVals K CF H ((k, v) :: kvs) ((k, none) :: l)
def lkO (l : List (Key × Option FileD)) (n : Str) : Option (Option FileD) := (l.find? fun p => decide (p.1 = .inr n)).map (·.2)
def fsOf (l : List (Key × Option FileD)) : List (Str × FileD) := l.filterMap fun p => match p with | (.inr n, some f) => some (n, f) | _ => none
section
variable {K : PySem.W.Frag} {CF : Addr} {H H' : Hp} {kvs : List (Key × V)} {l : List (Key × Option FileD)}
theorem FVals.same (h : FVals K CF H kvs l) (s : Same H H') : FVals K CF H' kvs l := by
  induction h with
  | nil => exact .nil
  | file h o _ ih => exact .file (h.same s) o ih
  | other h o _ ih => exact .other (h.same s) o ih
theorem FVals.keys (h : FVals K CF H kvs l) : kvs.map (·.1) = l.map (·.1) := by
  induction h with
  | nil => rfl
  | file h o _ ih => simp [ih]
  | other h o _ ih => simp [ih]
theorem FVals.len (h : FVals K CF H kvs l) : kvs.length = l.length := by
  have := congrArg List.length h.keys
  simpa using this
theorem FVals.get (h : FVals K CF H kvs l) {n : Str} (hn : (Sum.inr n : Key) ∈ l.map (·.1)) : ∃ v, valV kvs (.inr n) = some v ∧ ((∃ f, lkO l n = some (some f) ∧ FileAt K CF H v f ∧ FileOk f) ∨ (∃ kd, lkO l n = some none ∧ Any K H v kd ∧ PySem.W.kitOne K kd.ty (.ref CF) = some false)) := by
  induction h with
  | nil => cases hn
  | @file k v f kvs l h o _ ih =>
    by_cases e : k = .inr n
    · exact ⟨v, valV_pos e, .inl ⟨f, by simp [lkO, e], h, o⟩⟩
    · obtain ⟨v', h1, h2⟩ := ih ((List.mem_cons.mp hn).resolve_left fun z => e z.symm)
      refine ⟨v', by rw [valV_neg e]; exact h1, ?_⟩
      have : lkO ((k, some f) :: l) n = lkO l n := by simp [lkO, e]
      rw [this]
      exact h2
  | @other k v kd kvs l h o _ ih =>
    by_cases e : k = .inr n
    · exact ⟨v, valV_pos e, .inr ⟨kd, by simp [lkO, e], h, o⟩⟩
    · obtain ⟨v', h1, h2⟩ := ih ((List.mem_cons.mp hn).resolve_left fun z => e z.symm)
      refine ⟨v', by rw [valV_neg e]; exact h1, ?_⟩
      have : lkO ((k, none) :: l) n = lkO l n := by simp [lkO, e]
      rw [this]
      exact h2
/-- all of them files with names: a site's files -/
theorem FVals.files (h : FVals K CF H kvs l) (h1 : ∀ k ∈ l.map (·.1), ∃ n : Str, k = .inr n) (h2 : ∀ n : Str, (Sum.inr n : Key) ∈ l.map (·.1) → lkO l n ≠ some none) (h3 : (l.map (·.1)).Nodup) : FilesR K CF H kvs (fsOf l) ∧ (∀ n f, lkF (fsOf l) n = some f → FileOk f) ∧ l = (fsOf l).map fun p => ((.inr p.1 : Key), some p.2) := by
  induction h with
  | nil => exact ⟨.nil, fun n f e => (by cases e), rfl⟩
  | @file k v f kvs l h o _ ih =>
    obtain ⟨n, rfl⟩ := h1 k List.mem_cons_self
    rw [List.map_cons, List.nodup_cons] at h3
    obtain ⟨i1, i2, i3⟩ := ih (fun k hk => h1 k (List.mem_cons_of_mem _ hk)) (fun m hm => by
      have := h2 m (List.mem_cons_of_mem _ hm)
      have ne : (Sum.inr n : Key) ≠ .inr m := fun z => h3.1 (by rw [z]; exact hm)
      have e : lkO ((.inr n, some f) :: l) m = lkO l m := by
        have : ¬ n = m := fun z => ne (by rw [z])
        simp [lkO, this]
      rw [e] at this
      exact this) h3.2
    have e : fsOf ((.inr n, some f) :: l) = (n, f) :: fsOf l := by simp [fsOf]
    rw [e]
    refine ⟨.cons h i1, fun m g hm => ?_, by rw [List.map_cons, ← i3]⟩
    by_cases z : n = m
    · subst z
      rw [lkF_hit (fs := fsOf l)] at hm
      cases hm
      exact o
    · rw [lkF_skip z] at hm
      exact i2 m g hm
  | @other k v kd kvs l h o _ ih =>
    obtain ⟨n, rfl⟩ := h1 k List.mem_cons_self
    exact absurd (by simp [lkO]) (h2 n List.mem_cons_self)
end
def badRef (fs : List (Str × FileD)) (n : Str) : Bool := decide (n ∈ rf fs n) || (rf fs n).any fun m => (lkF fs m).isNone
def keepsOf (fs : List (Str × FileD)) (n : Str) : Nat := match lkF fs n with | some f => f.keeps.length | none => 0
def okKeys (l : List (Key × Option FileD)) : Bool := decide (1 ≤ l.length) && decide (l.length ≤ 8) && l.all fun p => isNameV (kV p.1)
def badKeep (fs : List (Str × FileD)) (ys : List Str) (n : Str) : Bool := !(keepsOf fs n == keepsOf fs (ys.headD ""))
noncomputable def ringB (fs : List (Str × FileD)) (n : Str) : Bool := @decide (Rc fs n n) (Classical.propDecidable _)
noncomputable def noTree (fs : List (Str × FileD)) (z : Str) : Bool := @decide (¬ ∃ t, TreeOf fs z t) (Classical.propDecidable _)
theorem ringB_iff {fs : List (Str × FileD)} {n : Str} : ringB fs n = true ↔ Rc fs n n := by unfold ringB; exact @decide_eq_true_iff _ (Classical.propDecidable _)
theorem noTree_iff {fs : List (Str × FileD)} {n : Str} : noTree fs n = true ↔ ¬ ∃ t, TreeOf fs n t := by unfold noTree; exact @decide_eq_true_iff _ (Classical.propDecidable _)
noncomputable def needErr (l : List (Key × Option FileD)) (ys : List Str) : Option (Str × V) :=
  match ys.find? (fun n => (lkO l n == some none)) with
  | some n => some ("files", .str n)
  | none => match ys.find? (badRef (fsOf l)) with
    | some n => some ("refers", .str n)
    | none => match ys.find? (badKeep (fsOf l) ys) with
      | some n => some ("keeps", .str n)
      | none => match ys.find? (ringB (fsOf l)) with
        | some n => some ("ring", .str n)
        | none => none
theorem find_at {p : Str → Bool} {ys : List Str} {i : Nat} {n : Str} (h : ys[i]? = some n) (hp : p n = true) (hn : ∀ j m, j < i → ys[j]? = some m → p m = false) : ys.find? p = some n := by
  induction ys generalizing i with
  | nil => cases h
  | cons a r ih =>
    cases i with
    | zero =>
      have : a = n := by simpa using h
      rw [List.find?_cons, this, hp]
    | succ i =>
      have := hn 0 a (Nat.succ_pos _) rfl
      rw [List.find?_cons, this]
      exact ih (by simpa using h) fun j m hj hm => hn (j + 1) m (Nat.succ_lt_succ hj) (by simpa using hm)
theorem find_non {p : Str → Bool} {ys : List Str} (hn : ∀ (j : Nat) m, ys[j]? = some m → p m = false) : ys.find? p = none := by
  rw [List.find?_eq_none]
  intro x hx
  obtain ⟨j, hj⟩ := List.mem_iff_getElem?.mp hx
  rw [hn j x hj]
  exact Bool.false_ne_true
/-- a site's files, nothing wrong -/
structure SiteFs (fs : List (Str × FileD)) : Prop where
  ok : FsOk fs
  pos : 1 ≤ fs.length
  fok : ∀ n f, lkF fs n = some f → FileOk f
  kps : ∀ n m, n ∈ fs.map (·.1) → m ∈ fs.map (·.1) → keepsOf fs n = keepsOf fs m
  noR : ∀ n, ¬ Rc fs n n
theorem need_none {l : List (Key × Option FileD)} {ys : List Str} (h : needErr l ys = none) : (∀ n ∈ ys, lkO l n ≠ some none) ∧ (∀ n ∈ ys, badRef (fsOf l) n = false) ∧ (∀ n ∈ ys, keepsOf (fsOf l) n = keepsOf (fsOf l) (ys.headD "")) ∧ (∀ n ∈ ys, ¬ Rc (fsOf l) n n) := by
  unfold needErr at h
  cases e1 : ys.find? (fun n => (lkO l n == some none)) with
  | some n => rw [e1] at h; cases h
  | none =>
    rw [e1] at h
    simp only at h
    cases e2 : ys.find? (badRef (fsOf l)) with
    | some n => rw [e2] at h; cases h
    | none =>
      rw [e2] at h
      simp only at h
      cases e3 : ys.find? (badKeep (fsOf l) ys) with
      | some n => rw [e3] at h; cases h
      | none =>
        rw [e3] at h
        simp only at h
        cases e4 : ys.find? (ringB (fsOf l)) with
        | some n => rw [e4] at h; cases h
        | none =>
          rw [List.find?_eq_none] at e1 e2 e3 e4
          refine ⟨fun n hn e => e1 n hn (by rw [e]; rfl), fun n hn => by simpa using e2 n hn, fun n hn => ?_, fun n hn e => e4 n hn (ringB_iff.mpr e)⟩
          have := e3 n hn
          unfold badKeep at this
          simpa using this
theorem kV_name {k : Key} (h : isNameV (kV k) = true) : ∃ n : Str, k = .inr n ∧ isNameS n = true := by
  cases k with
  | inl i => exact absurd h (by simp [kV, isNameV])
  | inr n => exact ⟨n, rfl, h⟩
theorem siteFs_of {K : PySem.W.Frag} {CF : Addr} {H : Hp} {kvs : List (Key × V)} {l : List (Key × Option FileD)} {ys : List Str} (F : FVals K CF H kvs l) (nd : (l.map (·.1)).Nodup) (h0 : okKeys l = true) (hp : (ys.map Sum.inr).Perm (l.map (·.1))) (h : needErr l ys = none) : SiteFs (fsOf l) ∧ FilesR K CF H kvs (fsOf l) ∧ l = (fsOf l).map fun p => ((.inr p.1 : Key), some p.2) := by
  obtain ⟨n1, n2, n3, n4⟩ := need_none h
  unfold okKeys at h0
  rw [Bool.and_eq_true, Bool.and_eq_true, decide_eq_true_eq, decide_eq_true_eq, List.all_eq_true] at h0
  have mem : ∀ n, n ∈ ys ↔ (Sum.inr n : Key) ∈ l.map (·.1) := fun n => by
    rw [← hp.mem_iff, List.mem_map]
    exact ⟨fun h => ⟨n, h, rfl⟩, fun ⟨m, h, e⟩ => Sum.inr.inj e ▸ h⟩
  obtain ⟨r1, r2, r3⟩ := F.files (fun k hk => by
    obtain ⟨p, hp, rfl⟩ := List.mem_map.mp hk
    obtain ⟨n, e, _⟩ := kV_name (h0.2 p hp)
    exact ⟨n, e⟩) (fun n hn => n1 n ((mem n).mpr hn)) nd
  have ek : l.map (·.1) = (fsOf l).map (fun p => (.inr p.1 : Key)) := by
    have := congrArg (List.map (·.1)) r3
    rw [List.map_map] at this
    exact this
  have el : l.length = (fsOf l).length := by
    have := congrArg List.length ek
    simpa using this
  have key : ∀ n, n ∈ (fsOf l).map (·.1) ↔ n ∈ ys := fun n => by
    rw [mem, ek, List.mem_map, List.mem_map]
    exact ⟨fun ⟨p, h, e⟩ => ⟨p, h, by rw [e]⟩, fun ⟨p, h, e⟩ => ⟨p, h, Sum.inr.inj e⟩⟩
  refine ⟨⟨⟨by omega, ?_, fun n hn => ?_, fun n f e m hm => ?_, fun n f e => (r2 n f e).nd⟩, by omega, r2, fun n m hn hm => ?_, fun n r => ?_⟩, r1, r3⟩
  · rw [ek] at nd
    exact List.pairwise_map.mpr ((List.pairwise_map.mp nd).imp fun h z => h (by rw [z]))
  · have := (mem n).mp ((key n).mp hn)
    obtain ⟨p, hp, e⟩ := List.mem_map.mp this
    obtain ⟨m, e', hm⟩ := kV_name (h0.2 p hp)
    rw [e] at e'
    cases e'
    exact hm
  · have hb := n2 n ((key n).mp (lkF_key.mpr ⟨f, e⟩))
    unfold badRef at hb
    rw [Bool.or_eq_false_iff] at hb
    have := hb.2
    rw [List.any_eq_false] at this
    have := this m (by rw [rf_of e]; exact hm)
    rw [lkF_key]
    cases e2 : lkF (fsOf l) m with
    | none => rw [e2] at this; exact absurd rfl this
    | some g => exact ⟨g, rfl⟩
  · rw [n3 n ((key n).mp hn), n3 m ((key m).mp hm)]
  · have hn : n ∈ (fsOf l).map (·.1) := by
      cases e : lkF (fsOf l) n with
      | some f => exact lkF_key.mpr ⟨f, e⟩
      | none =>
        exfalso
        have : ∀ m, ¬ Rc (fsOf l) n m := fun m r => by
          induction r with
          | one h => unfold rf at h; rw [e] at h; cases h
          | more _ _ ih => exact ih
        exact this n r
    exact n4 n ((key n).mp hn) r
def plainF (fs : List (Str × FileD)) : V → Bool
  | .str n => match lkF fs n with | some f => !f.own | none => false
  | _ => false
def entOk (fs : List (Str × FileD)) (k : Kd) (xs : List V) : Bool := ((k.isLst || k.isTup) && areNamesL xs) && !xs.isEmpty && xs.all (plainF fs)
structure SiteD where
  files : List (Str × FileD)
  trees : List (Str × List (Str × Option Str))
  counts : Str
structure SiteOk (s : SiteD) : Prop where
  fs : SiteFs s.files
  so : sortedS (s.files.map (·.1)) = true
  eso : sortedS (s.trees.map (·.1)) = true
  end_ : (s.trees.map (·.1)).Nodup
  epos : s.trees ≠ []
  epl : ∀ e ∈ s.trees.map (·.1), plainF s.files (.str e) = true
  tr : ∀ e t, (e, t) ∈ s.trees → TreeOf s.files e t
  ct : s.counts = "own" ∨ s.counts = "whole"
inductive TreesR (H : Hp) : List (Key × V) → List (Str × List (Str × Option Str)) → Prop
  | nil : TreesR H [] []
  | cons {n : Str} {p : Addr} {t : List (Str × Option Str)} {kvs : List (Key × V)} {ts : List (Str × List (Str × Option Str))} : H p = some (.dK (t.map fun x => ((.inr x.1 : Key), optS x.2))) → TreesR H kvs ts → TreesR H ((.inr n, .ref p) :: kvs) ((n, t) :: ts)
section
variable {H H' : Hp} {kvs kvs' : List (Key × V)} {ts ts' : List (Str × List (Str × Option Str))}
theorem TreesR.same (h : TreesR H kvs ts) (s : Same H H') : TreesR H' kvs ts := by
  induction h with
  | nil => exact .nil
  | cons h _ ih => exact .cons (s _ _ h) ih
theorem TreesR.app (h : TreesR H kvs ts) (h' : TreesR H kvs' ts') : TreesR H (kvs ++ kvs') (ts ++ ts') := by
  induction h with
  | nil => exact h'
  | cons h _ ih => exact .cons h ih
theorem TreesR.len (h : TreesR H kvs ts) : kvs.length = ts.length := by
  induction h with
  | nil => rfl
  | cons h _ ih => simp [ih]
theorem TreesR.keys (h : TreesR H kvs ts) : kvs.map (·.1) = (ts.map (·.1)).map Sum.inr := by
  induction h with
  | nil => rfl
  | cons h _ ih => simp [ih]
end
theorem FilesR.app {K : PySem.W.Frag} {CF : Addr} {H : Hp} {kvs kvs' : List (Key × V)} {fs fs' : List (Str × FileD)} (h : FilesR K CF H kvs fs) (h' : FilesR K CF H kvs' fs') : FilesR K CF H (kvs ++ kvs') (fs ++ fs') := by
  induction h with
  | nil => exact h'
  | cons h _ ih => exact .cons h ih
/-- v is a Site, its data s -/
def SiteAt (K : PySem.W.Frag) (CS CF : Addr) (H : Hp) (v : V) (s : SiteD) : Prop := ∃ a dx d1 d2 kvs, v = .ref a ∧ H a = some (.ins CS dx [("own_files", .ref d1), ("own_trees", .ref d2), ("own_counts", .str s.counts)]) ∧ FilesAt K CF H d1 s.files ∧ H d2 = some (.dK kvs) ∧ TreesR H kvs s.trees
theorem SiteAt.same {K : PySem.W.Frag} {CS CF : Addr} {H H' : Hp} {v : V} {s : SiteD} (h : SiteAt K CS CF H v s) (S : Same H H') : SiteAt K CS CF H' v s := by
  obtain ⟨a, dx, d1, d2, kvs, e, h1, h2, h3, h4⟩ := h
  exact ⟨a, dx, d1, d2, kvs, e, S _ _ h1, h2.same S, S _ _ h3, h4.same S⟩
def okCount (v : V) : Bool := v == .str "own" || v == .str "whole"
noncomputable def siteErr (kf : Kd) (l : List (Key × Option FileD)) (ys : List Str) (ke : Kd) (xe : List V) (zs : List Str) (vc : V) : Option (Str × V) :=
  if (kf.isDct && okKeys l) = false then some ("files", .non)
  else match needErr l ys with
    | some e => some e
    | none => if entOk (fsOf l) ke xe = false then some ("entries", .non)
      else match zs.find? (noTree (fsOf l)) with
        | some z => some ("ways", .str z)
        | none => if okCount vc = false then some ("counts", .non) else none
end WP
namespace WP
open PySem L2 PySem.Spec PyProof.Rows
def FilesV (K : PySem.W.Frag) (CF : Addr) (H : Hp) (v : V) (k : Kd) (l : List (Key × Option FileD)) : Prop := Any K H v k ∧ (k.isDct = true → ∃ d kvs, v = .ref d ∧ H d = some (.dK kvs) ∧ FVals K CF H kvs l ∧ (l.map (·.1)).Nodup ∧ ∀ n : Str, (Sum.inr n : Key) ∈ l.map (·.1) → n.length ≤ sizeLine)
theorem FilesV.same {K : PySem.W.Frag} {CF : Addr} {H H' : Hp} {v : V} {k : Kd} {l : List (Key × Option FileD)} (h : FilesV K CF H v k l) (s : Same H H') : FilesV K CF H' v k l := ⟨h.1.same s, fun e => by
  obtain ⟨d, kvs, e1, h1, h2, h3⟩ := h.2 e
  exact ⟨d, kvs, e1, s _ _ h1, h2.same s, h3⟩⟩
def YsOf (l : List (Key × Option FileD)) (ys : List Str) : Prop := (ys.map (Sum.inr : Str → Key)).Perm (l.map (·.1)) ∧ sortedS ys = true
def ErrW (CE : Addr) (H : Hp) (E : XK) (pt : Str) (nm : V) : Prop := ∀ d H', Same H H' → H' d = some (.xd [("name", nm), ("part", .str pt)]) → E (.ref CE) (some d) H'
theorem ErrW.at {CE : Addr} {H H1 : Hp} {E : XK} {pt : Str} {nm : V} (h : ErrW CE H E pt nm) (s : Same H H1) {d : Addr} (hd : H1 d = none) : E (.ref CE) (some d) (upd H1 d (.xd [("name", nm), ("part", .str pt)])) := h d _ (s.trans (Evl.Ex.new hd)) upd_same
def spNeedFiles (K : PySem.W.Frag) (CF CE : Addr) : Sp := fun vs H Q E => ∃ (v : V) (k : Kd) (l : List (Key × Option FileD)), vs = [v] ∧ FilesV K CF H v k l ∧ ((k.isDct && okKeys l) = false → ErrW CE H E "files" .non) ∧
  ∀ ys, YsOf l ys → (k.isDct && okKeys l) = true → (∀ pt nm, needErr l ys = some (pt, nm) → ErrW CE H E pt nm) ∧ (needErr l ys = none → ∀ H', Same H H' → Q .non H')
def spEntries (K : PySem.W.Frag) (CF : Addr) : Sp := fun vs H Q _ => ∃ (d : Addr) (v : V) (k : Kd) (xs : List V) (fs : List (Str × FileD)), vs = [.ref d, v] ∧ FilesAt K CF H d fs ∧ SeqV K H v k xs ∧ ∀ H', Same H H' → Q (.bl (entOk fs k xs)) H'
section
variable {X : Cx} {CP C : Addr} {x f g : Str} {e e' : Expr} {te te' : TE} {p pos pos' : Pos} {W : WX}
theorem raise2n (T : Err2 X.prog X.w X.K X.mg X.base CP x C f g) (hc : X.calm = true) (tk : Takes X W) (hr : Room 2 X.A) (he : PE X e te) (he' : PE X e' te') (hg : Gl X x := by rfl)
    (hdb : (x == ("__debug__" : Str)) = false := by decide) (hs : starEach [e, e'] X.env = (false, eval e X.env) :: starEach [e'] X.env := by rfl) (hs' : starEach [e'] X.env = (false, eval e' X.env) :: starEach [] X.env := by rfl) (hpl : (backTo pos (starEach [e'] X.env)).any (·.1) = false := by rfl) :
    PS X (.Raise (some (.Call (.Name x p) [e, e'] [] pos)) none pos') (fun _ σ H => te σ H fun v H1 => te' σ H1 fun u H2 => ∀ d, H2 d = none → W (.ref C) (some d) σ (upd H2 d (.xd [(g, u), (f, v)]))) :=
  ⟨fun pins s σ H D I h => (raise2 T hc tk hr he he' hg hdb hs hs' hpl).run pins s σ H D I ⟨_, h, fun v H1 q => ⟨_, q, fun u H2 q2 => q2⟩⟩⟩
end
theorem inV_str (x : Str) (xs : List Str) : inV (.str x) (xs.map V.str) = decide (x ∈ xs) := by
  induction xs with
  | nil => rfl
  | cons a r ih =>
    unfold inV at ih ⊢
    rw [List.map_cons, List.any_cons, ih]
    by_cases e : a = x
    · simp [eqV, e]
    · have : ¬ x = a := fun z => e z.symm
      simp [eqV, e, this]
theorem flat_strs (xs : List Str) : (xs.map V.str).all flatV = true := by
  rw [List.all_map]
  exact List.all_eq_true.mpr fun _ _ => rfl
end WP
namespace WP
open PySem L2 PySem.Spec PyProof.Rows
structure SiteC (K : PySem.W.Frag) (CS : Addr) : Prop where
  cl : Cls K CS
  n1 : NoAttr K CS "own_files"
  n2 : NoAttr K CS "own_trees"
  n3 : NoAttr K CS "own_counts"
theorem del_sub {H : Hp} {D : Addr} : Same (del H D) H := fun b u e => by
  by_cases hb : b = D
  · rw [hb, del_same] at e; cases e
  · rw [del_ne hb] at e; exact e
theorem del_mono {H H' : Hp} {D : Addr} (s : Same H H') : Same (del H D) (del H' D) := fun b u e => by
  by_cases hb : b = D
  · rw [hb, del_same] at e; cases e
  · rw [del_ne hb] at e ⊢
    exact s _ _ e
theorem del_upd {H : Hp} {D : Addr} {o : HO} : del (upd H D o) D = del H D := by
  funext b
  by_cases hb : b = D
  · rw [hb, del_same, del_same]
  · rw [del_ne hb, del_ne hb, upd_ne hb]
def isDL : HO → Bool
  | .dK _ | .lst _ | .dT _ => true
  | _ => false
def hid (H H' : Hp) : Hp := fun b => match H b with | some u => if isDL u then none else H' b | none => H' b
theorem hid_sub {H H' : Hp} : Same (hid H H') H' := fun b u e => by
  unfold hid at e
  split at e
  · split at e
    · cases e
    · exact e
  · exact e
theorem hid_new {H H' : Hp} {b : Addr} (h : H b = none) : hid H H' b = H' b := by
  unfold hid
  rw [h]
inductive TreesO (fs : List (Str × FileD)) (H0 H : Hp) : List (Key × V) → List (Str × Option (List (Str × Option Str))) → Prop
  | nil : TreesO fs H0 H [] []
  | non {n : Str} {kvs : List (Key × V)} {rs : List (Str × Option (List (Str × Option Str)))} : (¬ ∃ t, TreeOf fs n t) → TreesO fs H0 H kvs rs → TreesO fs H0 H ((.inr n, .non) :: kvs) ((n, none) :: rs)
  | som {n : Str} {p : Addr} {t : List (Str × Option Str)} {kvs : List (Key × V)} {rs : List (Str × Option (List (Str × Option Str)))} : H0 p = none → H p = some (.dK (t.map fun x => ((.inr x.1 : Key), optS x.2))) → TreeOf fs n t → TreesO fs H0 H kvs rs → TreesO fs H0 H ((.inr n, .ref p) :: kvs) ((n, some t) :: rs)
section
variable {fs : List (Str × FileD)} {H0 H H' : Hp} {kvs kvs' : List (Key × V)} {rs rs' : List (Str × Option (List (Str × Option Str)))}
theorem TreesO.same (h : TreesO fs H0 H kvs rs) (s : Same H H') : TreesO fs H0 H' kvs rs := by
  induction h with
  | nil => exact .nil
  | non h _ ih => exact .non h ih
  | som h0 h1 h2 _ ih => exact .som h0 (s _ _ h1) h2 ih
theorem TreesO.app (h : TreesO fs H0 H kvs rs) (h' : TreesO fs H0 H kvs' rs') : TreesO fs H0 H (kvs ++ kvs') (rs ++ rs') := by
  induction h with
  | nil => exact h'
  | non h _ ih => exact .non h ih
  | som h0 h1 h2 _ ih => exact .som h0 h1 h2 ih
theorem TreesO.len (h : TreesO fs H0 H kvs rs) : kvs.length = rs.length := by
  induction h with
  | nil => rfl
  | non h _ ih => simp [ih]
  | som h0 h1 h2 _ ih => simp [ih]
theorem TreesO.keys (h : TreesO fs H0 H kvs rs) : kvs.map (·.1) = (rs.map (·.1)).map Sum.inr := by
  induction h with
  | nil => rfl
  | non h _ ih => simp [ih]
  | som h0 h1 h2 _ ih => simp [ih]
theorem TreesO.at (h : TreesO fs H0 H kvs rs) : ∀ {i : Nat} {k : Key} {v : V}, kvs[i]? = some (k, v) → ∃ n, k = .inr n ∧ (rs.map (·.1))[i]? = some n ∧ ((v = .non ∧ noTree fs n = true) ∨ ((∃ p, v = .ref p) ∧ noTree fs n = false)) := by
  induction h with
  | nil => intro i k v e; cases e
  | @non n kvs rs h _ ih =>
    intro i k v e
    cases i with
    | zero =>
      cases e
      exact ⟨n, rfl, rfl, .inl ⟨rfl, noTree_iff.mpr h⟩⟩
    | succ i =>
      rw [List.getElem?_cons_succ] at e
      obtain ⟨m, h1, h2, h3⟩ := ih e
      exact ⟨m, h1, by rw [List.map_cons, List.getElem?_cons_succ]; exact h2, h3⟩
  | @som n p t kvs rs h0 h1 h2 _ ih =>
    intro i k v e
    cases i with
    | zero =>
      cases e
      refine ⟨n, rfl, rfl, .inr ⟨⟨p, rfl⟩, ?_⟩⟩
      cases e : noTree fs n with
      | false => rfl
      | true => exact absurd ⟨t, h2⟩ (noTree_iff.mp e)
    | succ i =>
      rw [List.getElem?_cons_succ] at e
      obtain ⟨m, h1, h2, h3⟩ := ih e
      exact ⟨m, h1, by rw [List.map_cons, List.getElem?_cons_succ]; exact h2, h3⟩
/-- if none of them is none -/
theorem TreesO.all (h : TreesO fs H0 H kvs rs) (ha : ∀ n ∈ rs.map (·.1), noTree fs n = false) : ∃ ts : List (Str × List (Str × Option Str)), ts.map (·.1) = rs.map (·.1) ∧ TreesR (hid H0 H) kvs ts ∧ ∀ e t, (e, t) ∈ ts → TreeOf fs e t := by
  induction h with
  | nil => exact ⟨[], rfl, .nil, fun e t h => by cases h⟩
  | @non n kvs rs h _ ih =>
    have := ha n List.mem_cons_self
    rw [noTree_iff.mpr h] at this
    cases this
  | @som n p t kvs rs h0 h1 h2 _ ih =>
    obtain ⟨ts, e1, e2, e3⟩ := ih fun m hm => ha m (List.mem_cons_of_mem _ hm)
    refine ⟨(n, t) :: ts, by rw [List.map_cons, List.map_cons, e1], .cons (by rw [hid_new h0]; exact h1) e2, fun e t' ht => ?_⟩
    rcases List.mem_cons.mp ht with e | ht
    · cases e
      exact h2
    · exact e3 e t' ht
end
def ZsOf (xe : List V) (zs : List Str) : Prop := (zs.map V.str).Perm xe ∧ sortedS zs = true
theorem perm_files {fs : List (Str × FileD)} (nd : (fs.map (·.1)).Nodup) : ∀ {ys : List Str}, ys.Perm (fs.map (·.1)) → ∃ gs : List (Str × FileD), gs.map (·.1) = ys ∧ gs.Perm fs := by
  intro ys h
  have : ∀ (a b : List Str), a.Perm b → ∀ fs : List (Str × FileD), fs.map (·.1) = b → ∃ gs : List (Str × FileD), gs.map (·.1) = a ∧ gs.Perm fs := by
    intro a b h
    induction h with
    | nil => intro fs e; exact ⟨[], rfl, by rw [List.map_eq_nil_iff.mp e]⟩
    | cons x _ ih =>
      intro fs e
      cases fs with
      | nil => cases e
      | cons p r =>
        rw [List.map_cons, List.cons.injEq] at e
        obtain ⟨gs, e1, e2⟩ := ih r e.2
        exact ⟨p :: gs, by rw [List.map_cons, e1, e.1], e2.cons p⟩
    | swap x y l =>
      intro fs e
      cases fs with
      | nil => cases e
      | cons p r =>
        cases r with
        | nil => cases e
        | cons p' r =>
          simp only [List.map_cons, List.cons.injEq] at e
          exact ⟨p' :: p :: r, by simp only [List.map_cons]; rw [e.1, e.2.1, e.2.2], .swap p p' r⟩
    | trans _ _ ih1 ih2 =>
      intro fs e
      obtain ⟨gs, e1, e2⟩ := ih2 fs e
      obtain ⟨hs, e3, e4⟩ := ih1 gs e1
      exact ⟨hs, e3, e4.trans e2⟩
  exact this ys _ h fs rfl
theorem lkF_perm {fs gs : List (Str × FileD)} (nd : (fs.map (·.1)).Nodup) (h : gs.Perm fs) (n : Str) : lkF gs n = lkF fs n := by
  have uni : ∀ {l : List (Str × FileD)}, (l.map (·.1)).Nodup → ∀ {f : FileD}, (n, f) ∈ l → lkF l n = some f := by
    intro l hl f hf
    induction l with
    | nil => cases hf
    | cons p r ih =>
      rw [List.map_cons, List.nodup_cons] at hl
      rcases List.mem_cons.mp hf with e | hf2
      · rw [← e]
        exact lkF_hit (fs := r)
      · have : p.1 ≠ n := fun z => hl.1 (List.mem_map.mpr ⟨_, hf2, z.symm⟩)
        obtain ⟨m, g⟩ := p
        rw [lkF_skip this]
        exact ih hl.2 hf2
  have ndg : (gs.map (·.1)).Nodup := ((h.map (·.1)).nodup_iff).mpr nd
  cases e : lkF fs n with
  | some f => exact uni ndg (h.symm.subset (lkF_mem e))
  | none =>
    refine lkF_none fun hm => ?_
    have := (h.map (·.1)).subset hm
    obtain ⟨f, e'⟩ := lkF_key.mp this
    rw [e] at e'
    cases e'
theorem swD {a b : Expr} {gs : List Comprehension} {sc : Scope} {p q : Pos} {y : Str} {l : Nat} {ev : Env} (hk : ev.scope.kind = .function) (hy : ev.scope.names.lookup y = some .local) (hl : (q.line == p.line) = true)
    (ha : (sc.names.any fun (n, k) => n == y && (k == .local || k == .cell)) = false) : swapsWith (.DictComp a b gs sc p) (some (.Name y q)) l ev = pure true := by
  have h1 : ev.kindOf y = some .local := hy
  have h2 : ev.blockKind = .function := by unfold Env.blockKind; rw [hk]; rfl
  simp only [swapsWith, h2, h1, ha, Expr.pos, hl]
  rfl
theorem ps_setDc {X : Cx} {i : Nat} {y : Str} {py : Pos} {kx vx tg iter : Expr} {ifs : List Expr} {scope : Scope} {own : List (Str × Nat)} {pos spos : Pos} {wi : TI} {g : TG} {tt : TT} {tk tv : TE} (hc : X.calm = true) (hN : X.N.Nodup) (hy : X.N[i]? = some y) (hyl : X.env.scope.names.lookup y = some .local)
    (hsw : swapsWith (.DictComp kx vx [⟨tg, iter, ifs, 0⟩] scope pos) (some (.Name y py)) spos.line X.env = pure true) (hi : PI X tg iter wi) (ok : BlkOk X.N X.env.scope scope own)
    (h1 : ∀ (s : Shared) (H : Hp) (C : Addr) (cl : List (Str × Addr)) (fp : List Addr), PG (X.blk s H scope (compEnvC scope cl C X.env) fp) tg g) (h2 : ∀ (s : Shared) (H : Hp) (C : Addr) (cl : List (Str × Addr)) (fp : List Addr), PTs (X.blk s H scope (compEnvC scope cl C X.env) fp) ifs tt)
    (h3 : ∀ (s : Shared) (H : Hp) (C : Addr) (cl : List (Str × Addr)) (fp : List Addr), PE (X.blk s H scope (compEnvC scope cl C X.env) fp) kx tk) (h4 : ∀ (s : Shared) (H : Hp) (C : Addr) (cl : List (Str × Addr)) (fp : List Addr), PE (X.blk s H scope (compEnvC scope cl C X.env) fp) vx tv) (hs : ∀ x, foldedSetIterable iter X.env x = pure x := by intro _; rfl) :
    PS X (.Assign [.Name y py] (.DictComp kx vx [⟨tg, iter, ifs, 0⟩] scope pos) spos) (tAsg (tDc wi g tt tk tv (own.map (·.2))) (gName i)) := ⟨fun pins s σ H D I h => by
  rw [exec_Assign_Name_used _ _ _ _ hsw]
  refine wpAny_bind (wpAny_standAt (wpAny_bind (?_ : wpAny _ X.A (do let _ ← comprehension (.DictComp kx vx [⟨tg, iter, ifs, 0⟩] scope pos) scope X.env (firstIterPos [⟨tg, iter, ifs, 0⟩] pos) newDict false (eval iter X.env) (some (assign (.Name y py) X.env))) _ _ s)))
  have hh : tDc wi g tt tk tv (own.map (·.2)) σ H (fun x H1 => gName i x σ H1 D.nx) := h
  refine wpAny_bind (thn (dc_core (Qf := fun _ s' => SP X pins D .next s') hc hN I hi ok h1 h2 h3 h4 hs hh fun L C s' m H' I' q hn f => (?_ : wpAny _ _ (assign (.Name y py) X.env (.ref L)) _ _ _)) fun _ s' hq => wpAny_pure (wpAny_pure hq))
  obtain ⟨f0, f1, f2, f3, f4, f5⟩ := f
  refine wpAny_assign_Name (store_ok2 (v := V.ref L) I' hN hy (.inl hyl) rfl (fun s2 I2 ⟨a, sb, ha⟩ => ⟨m, hn.sameBut sb (ha.elim (fun z => by rw [z]; exact f1) fun z e => f4 y a z e.symm), fun h3 sb3 => ?_⟩) (.inr hyl))
  exact ⟨_, H', I2.turned (t' := s2.toks) (fun b o hb e => (sb3.2 b hb).trans e) f0 f1 f3 f4 f5, q⟩⟩
theorem TreesO.sameX {fs : List (Str × FileD)} {H0 H H' : Hp} {kvs : List (Key × V)} {rs : List (Str × Option (List (Str × Option Str)))} {x : Addr} {u : HO} (h : TreesO fs H0 H kvs rs) (hx : H0 x = some u) (s : SameX x H H') : TreesO fs H0 H' kvs rs := by
  induction h with
  | nil => exact .nil
  | non h _ ih => exact .non h ih
  | som h0 h1 h2 _ ih => exact .som h0 (s _ _ (fun e => by rw [e, hx] at h0; cases h0) h1) h2 ih
theorem valV_at {kvs : List (Key × V)} (nd : (kvs.map (·.1)).Nodup) {i : Nat} {k : Key} {v : V} (h : kvs[i]? = some (k, v)) : valV kvs k = some v := by
  induction kvs generalizing i with
  | nil => cases h
  | cons p r ih =>
    rw [List.map_cons, List.nodup_cons] at nd
    cases i with
    | zero =>
      have : p = (k, v) := by simpa using h
      rw [this]
      exact valV_pos rfl
    | succ i =>
      rw [List.getElem?_cons_succ] at h
      rw [valV_neg (fun e => nd.1 (by rw [e]; exact List.mem_map.mpr ⟨_, at_mem h, rfl⟩))]
      exact ih nd.2 h
theorem DGet.fz {H : Hp} {a : Addr} {kvs : List (Key × V)} {k : Key} {od : Obj} (e : H a = some (.frz od (.dK kvs))) : DGet H a (kV k) (valV kvs k) := .inl ⟨kvs, k, .inr ⟨od, e⟩, rfl, rfl⟩
theorem take_not {l : List Str} (nd : l.Nodup) {i : Nat} {x : Str} (h : l[i]? = some x) : x ∉ l.take i := fun hh => by
  obtain ⟨j, hj⟩ := List.mem_iff_getElem?.mp hh
  have jl : j < i := by
    have := (List.getElem?_eq_some_iff.mp hj).1
    rw [List.length_take] at this
    omega
  rw [List.getElem?_take, if_pos jl] at hj
  obtain ⟨hi, h1⟩ := List.getElem?_eq_some_iff.mp h
  obtain ⟨hj', h2⟩ := List.getElem?_eq_some_iff.mp hj
  exact List.pairwise_iff_getElem.mp nd j i hj' hi jl (h2.trans h1.symm)
theorem count_ok {v : V} (h : okCount v = true) : ∃ c : Str, v = .str c ∧ (c = "own" ∨ c = "whole") := by
  unfold okCount at h
  rw [Bool.or_eq_true, beq_iff_eq, beq_iff_eq] at h
  rcases h with h | h
  · exact ⟨_, h, .inl rfl⟩
  · exact ⟨_, h, .inr rfl⟩
theorem fs_uni {l : List (Str × FileD)} (hl : (l.map (·.1)).Nodup) {n : Str} {f g : FileD} (h1 : (n, f) ∈ l) (h2 : (n, g) ∈ l) : f = g := by
  induction l with
  | nil => cases h1
  | cons p r ih =>
    rw [List.map_cons, List.nodup_cons] at hl
    rcases List.mem_cons.mp h1 with e1 | h1'
    · rcases List.mem_cons.mp h2 with e2 | h2'
      · exact (Prod.mk.inj (e1.trans e2.symm)).2
      · exact absurd (List.mem_map.mpr ⟨_, h2', by rw [← e1]⟩) hl.1
    · rcases List.mem_cons.mp h2 with e2 | h2'
      · exact absurd (List.mem_map.mpr ⟨_, h1', by rw [← e2]⟩) hl.1
      · exact ih hl.2 h1' h2'
end WP
namespace WP
open PySem L2 PySem.Spec PyProof.Rows
abbrev psFile : List Str := ["self", "naming", "refers", "hold", "keeps"]
abbrev psSite : List Str := ["self", "files", "entries", "counts"]
/-- an empty tuple of the module -/
def NilT (K : PySem.W.Frag) (a : Addr) : Prop := (∃ o, K.lookup a = some o ∧ o.cls = .type "tuple") ∧ ∀ H, SqT K H a []
structure FileMk (P : Program) (w : World) (K : PySem.W.Frag) (mg : Str → Option Value) (base : Heap) (CF CE e1 e2 : Addr) : Prop where
  mgC : mg "File" = some (.ref CF)
  made : ∃ f fd, Mk K CF f ∧ FnOk P w K mg base (L2.CX P w) 3 f fd psFile (spFile K CF CE) ∧ ∀ j, j ≤ 3 → ∃ ds, Vals ([V.ref e1, .int 0, .ref e2].drop j) ds ∧ Binds K fd psFile ds
  t1 : NilT K e1
  t2 : NilT K e2
  ins : InsK K CF
section
variable {X : Cx} {CS CF CE e1 e2 : Addr} {e : Expr} {es : List Expr} {t : TA} {p pos : Pos} {E : XK}
theorem mk_File (Z : FileMk X.prog X.w X.K X.mg X.base CF CE e1 e2) (j : Nat) (hj : j ≤ 3) (hr : Room 4 X.A) (hx : Passes (L2.CX X.prog X.w) X E) (ha : PA X (e :: es) t) (hg : Gl X "File" := by rfl)
    (he : starEach (e :: es) X.env = (false, eval e X.env) :: starEach es X.env := by rfl) (hpl : (backTo pos (starEach es X.env)).any (·.1) = false := by rfl) :
    PE X (.Call (.Name "File" p) (e :: es) [] pos) (tMake CF (spFile X.K CF CE) ([V.ref e1, .int 0, .ref e2].drop j) E t) := by
  obtain ⟨f, fd, h1, h2, h3⟩ := Z.made
  obtain ⟨ds, h4, h5⟩ := h3 j hj
  exact pe_make h1 h2 hr hg Z.mgC h5 h4 hx ha (by decide) he hpl
end
section
variable {P : Program} {w : World} {K : PySem.W.Frag} {mg : Str → Option Value} {base : Heap} {CS CF CE CE' e1 e2 : Addr}
theorem NilT.any {a : Addr} (h : NilT K a) (H : Hp) : SeqV K H (.ref a) .tup [] := by
  obtain ⟨⟨o, h1, h2⟩, h3⟩ := h
  exact ⟨.kTup h1 h2, fun _ => ⟨a, rfl, .inr (h3 H), Nat.zero_le _, fun x hx => by cases hx⟩⟩
/-- what was new is new: the instance and its dict -/
theorem made_same {H1 H2 : Hp} {x dx C : Addr} {fs : List (Str × V)} (hx : H1 x = none) (hd : H1 dx = none) (s : SameX x (upd (upd H1 dx (.own x)) x (.ins C dx fs)) H2) : Same H1 H2 := fun b u e => by
  have n1 : b ≠ x := fun z => by rw [z, hx] at e; cases e
  have n2 : b ≠ dx := fun z => by rw [z, hd] at e; cases e
  exact s b u n1 (by rw [upd_ne n1, upd_ne n2]; exact e)
end
end WP
namespace WP
open PySem L2 PySem.Spec PyProof.Rows
def ItemV (K : PySem.W.Frag) (H : Hp) (y : V) : Prop := ∃ ky, Any K H y ky ∧ ∀ z, y = .str z → z.length ≤ sizeLine
def OddV (K : PySem.W.Frag) (H : Hp) (v : V) : Prop := ∃ k xs, SeqV K H v k xs ∧ xs.length ≤ 2 ∧ (∀ z, v = .str z → z.length ≤ 9) ∧ ∀ i, v = .int i → i.natAbs < 2 ^ 110
theorem ItemV.same {K : PySem.W.Frag} {H H' : Hp} {y : V} (h : ItemV K H y) (s : Same H H') : ItemV K H' y := by
  obtain ⟨k, h1, h2⟩ := h
  exact ⟨k, h1.same s, h2⟩
theorem OddV.same {K : PySem.W.Frag} {H H' : Hp} {y : V} (h : OddV K H y) (s : Same H H') : OddV K H' y := by
  obtain ⟨k, xs, h1, h2⟩ := h
  exact ⟨k, xs, h1.same s, h2⟩
theorem OddV.item {K : PySem.W.Frag} {H : Hp} {y : V} (h : OddV K H y) : ItemV K H y := by
  obtain ⟨k, xs, h1, h2, h3, _⟩ := h
  exact ⟨k, h1.1, fun z e => Nat.le_trans (h3 z e) (by decide)⟩
structure Od (K : PySem.W.Frag) (d w c : Addr) (B : Int) (H0 H : Hp) (xs : List V) : Prop where
  ds : Ds d w c B H0 H
  al : ∀ x ∈ xs, OddV K (hd2 d w H) x
section
variable {K : PySem.W.Frag} {d w c p : Addr} {B : Int} {H0 H H' : Hp} {xs ys : List V}
theorem Od.start (h : Dr d w c B H) : Od K d w c B H H [] := ⟨⟨h, Same.refl _⟩, fun x hx => by cases hx⟩
theorem Od.add {v : V} (O : Od K d w c B H0 H xs) (h : OddV K (hd2 d w H) v) : Od K d w c B H0 H (xs ++ [v]) := ⟨O.ds, fun x hx => (List.mem_append.mp hx).elim (O.al x) fun e => List.mem_singleton.mp e ▸ h⟩
theorem Od.same (O : Od K d w c B H0 H xs) (s : Same H H') : Od K d w c B H0 H' xs := ⟨O.ds.same s, fun x hx => (O.al x hx).same (hd2_same s)⟩
theorem Od.new {o : HO} (O : Od K d w c B H0 H xs) (hp : H p = none) : Od K d w c B H0 (upd H p o) xs := O.same (Evl.Ex.new hp)
theorem Od.at {o : HO} (O : Od K d w c B H0 H xs) (hp : H p = none) : hd2 d w (upd H p o) p = some o := O.ds.at hp
theorem Od.n (O : Od K d w c B H0 H xs) : Od K d w c B H0 H (xs ++ [.non]) := O.add ⟨.non, [], ⟨.non, fun e => by cases e⟩, by decide, fun z e => (by cases e), fun i e => (by cases e)⟩
theorem Od.b (O : Od K d w c B H0 H xs) (b : Bool) : Od K d w c B H0 H (xs ++ [.bl b]) := O.add ⟨.bl, [], ⟨.bl b, fun e => by cases e⟩, by decide, fun z e => (by cases e), fun i e => (by cases e)⟩
theorem Od.i (O : Od K d w c B H0 H xs) (i : Int) (h : i.natAbs < 2 ^ 110) : Od K d w c B H0 H (xs ++ [.int i]) := O.add ⟨.int, [], ⟨.int i, fun e => by cases e⟩, by decide, fun z e => (by cases e), fun j e => (by cases e; exact h)⟩
theorem Od.s (O : Od K d w c B H0 H xs) (z : Str) (h : z.length ≤ 9) : Od K d w c B H0 H (xs ++ [.str z]) := O.add ⟨.str, [], ⟨.str z, fun e => by cases e⟩, by decide, fun z e => (by cases e; exact h), fun i e => (by cases e)⟩
theorem Od.own (O : Od K d w c B H0 H xs) (hp : H p = none) : Od K d w c B H0 (upd H p (.lst xs)) xs ∧ hd2 d w (upd H p (.lst xs)) p = some (.lst xs) := ⟨O.new hp, O.at hp⟩
/-- an instance that is new -/
theorem Od.o {C dx : Addr} {fs : List (Str × V)} (O : Od K d w c B H0 H xs) (hp : H p = none) (s : Same H H') (e : H' p = some (.ins C dx fs)) (I : InsK K C) : Od K d w c B H0 H' (xs ++ [.ref p]) := by
  refine (O.same s).add ⟨.ins C, [], ⟨.ins (hd2_mk e ?_ ?_) I, fun e => by cases e⟩, by decide, fun z e => (by cases e), fun i e => (by cases e)⟩
  · exact (O.ds.dr.off hp).1
  · exact (O.ds.dr.off hp).2.1
/-- a new dict, displayed -/
theorem upd2 {o o' : HO} : upd (upd H p o) p o' = upd H p o' := by
  funext b
  by_cases hb : b = p
  · rw [hb, upd_same, upd_same]
  · rw [upd_ne hb, upd_ne hb, upd_ne hb]
end
theorem FileAt.put {K : PySem.W.Frag} {CF p : Addr} {H : Hp} {v : V} {f : FileD} {o : HO} {kvs : List (Key × V)} (h : FileAt K CF H v f) (hp : H p = some (.dK kvs)) : FileAt K CF (upd H p o) v f := by
  obtain ⟨a, dx, t1, t2, e, h1, h2, h3⟩ := h
  exact ⟨a, dx, t1, t2, e, by rw [upd_ne (ne_of h1 hp (by intro z; cases z))]; exact h1, SqT.put h2 hp (fun _ z => by cases z) (fun _ _ z => by cases z), SqT.put h3 hp (fun _ z => by cases z) (fun _ _ z => by cases z)⟩
end WP
namespace WP
open PySem L2 PySem.Spec PyProof.Rows LamX
structure Dk (P : Program) (w : World) (K : PySem.W.Frag) (mg : Str → Option Value) (base : Heap) (CX : CXT) (k : Nat) (x : Str) (ps ks : List Str) (gV : List V → List V → List V) (sp : Sp) : Prop where
  ex : ∃ f fd g, mg x = some (.ref f) ∧ PySem.W.keepIn K (.ref f) = true ∧ FnOk P w K mg base CX k f fd ps sp ∧ KBn K fd ps 0 ks g gV
theorem hd2_ext {d w : Addr} {H H' : Hp} (s : ExtN H H') : ExtN (hd2 d w H) (hd2 d w H') := fun b u e n => by
  obtain ⟨h1, h2, h3⟩ := hd2_of e
  exact hd2_mk (s b u h1 n) h2 h3
section
variable {K : PySem.W.Frag} {H H' : Hp} {v : V} {k : Kd} {a : Addr} {xs : List V}
theorem Any.ext (h : Any K H v k) (s : ExtN H H') : Any K H' v k := by
  cases h with
  | non => exact .non
  | bl b => exact .bl b
  | int i => exact .int i
  | str x => exact .str x
  | lst e => exact .lst (s _ _ e fun _ z => by cases z)
  | tup e => exact .tup (s _ _ e fun _ z => by cases z)
  | kTup e c => exact .kTup e c
  | fTup e => exact .fTup (s _ _ e fun _ z => by cases z)
  | dct e => exact .dct (s _ _ e fun _ z => by cases z)
  | ins e c => exact .ins (s _ _ e fun _ z => by cases z) c
theorem SqL.ext (h : SqL K H a xs) (s : ExtN H H') : SqL K H' a xs := by
  rcases h with (h | ⟨o, h⟩) | h
  · exact .inl (.inl (s _ _ h fun _ z => by cases z))
  · exact .inl (.inr ⟨o, s _ _ h fun _ z => by cases z⟩)
  · exact .inr h
theorem SqT.ext (h : SqT K H a xs) (s : ExtN H H') : SqT K H' a xs := by
  rcases h with (h | ⟨o, h⟩) | h
  · exact .inl (.inl (s _ _ h fun _ z => by cases z))
  · exact .inl (.inr ⟨o, s _ _ h fun _ z => by cases z⟩)
  · exact .inr h
theorem SeqV.ext (h : SeqV K H v k xs) (s : ExtN H H') : SeqV K H' v k xs := ⟨h.1.ext s, fun e => by
  obtain ⟨a, e1, h1, h2, h3⟩ := h.2 e
  exact ⟨a, e1, h1.imp (fun h => SqL.ext h s) (fun h => SqT.ext h s), h2, fun x hx => by
    obtain ⟨kx, h4, h5⟩ := h3 x hx
    exact ⟨kx, h4.ext s, h5⟩⟩⟩
theorem OddV.ext (h : OddV K H v) (s : ExtN H H') : OddV K H' v := by
  obtain ⟨k, xs, h1, h2⟩ := h
  exact ⟨k, xs, h1.ext s, h2⟩
theorem ItemV.ext (h : ItemV K H v) (s : ExtN H H') : ItemV K H' v := by
  obtain ⟨k, h1, h2⟩ := h
  exact ⟨k, h1.ext s, h2⟩
end
section
variable {d w c : Addr} {B : Int} {H H' : Hp} {T : List (Addr × Str)}
theorem Dr.ext (D : Dr d w c B H) (s : ExtN H H') : Dr d w c B H' := by
  obtain ⟨⟨r, t, h1, h4⟩, ⟨ns, h2⟩, ⟨ms, h3⟩⟩ := D
  exact ⟨⟨r, t, s _ _ h1 (fun _ z => by cases z), h4⟩, ⟨ns, s _ _ h2 fun _ z => by cases z⟩, ⟨ms, hd2_ext s _ _ h3 fun _ z => by cases z⟩⟩
/-- the tables are apart from the draws -/
theorem Tabs.hd (t : Tabs T H) (D : Dr d w c B H) : Tabs T (hd2 d w H) := by
  obtain ⟨⟨r, t1, h1, _⟩, ⟨ns, h2⟩, _⟩ := D
  have off : ∀ b u, H b = some u → (∀ kvs, u ≠ .dK kvs) → (∀ xs, u ≠ .lst xs) → hd2 d w H b = some u := fun b u e n1 n2 => hd2_mk e (fun z => by rw [z, h1] at e; exact n1 _ (Option.some.inj e).symm) (fun z => by rw [z, h2] at e; exact n2 _ (Option.some.inj e).symm)
  intro p hp
  obtain ⟨ps, e1, e2, e3⟩ := t p hp
  refine ⟨ps, off _ _ e1 (fun _ z => by cases z) (fun _ z => by cases z), e2, fun pos cv hc => ?_⟩
  obtain ⟨cc, e4, e5⟩ := e3 pos cv hc
  exact ⟨cc, e4, off _ _ e5 (fun _ z => by unfold CodeO at z; cases z) (fun _ z => by unfold CodeO at z; cases z)⟩
theorem Tabs.un (t : Tabs T (hd2 d w H)) : Tabs T H := t.ext hd2_sub
end
end WP
namespace WP
open PySem L2 PySem.Spec PyProof.Rows
structure PrintK (K : PySem.W.Frag) (CP : Addr) : Prop where
  ns : PySem.W.nsIn K mainGlobals "PrintError" = some (some (.ref CP))
  eC : PySem.W.subIn K (.ref CP) (.type "BaseException") = some true
  hC : PySem.W.hasDictIn K CP = true
  tC : PySem.W.typeIn K (.ref CP) = some (.type "type")
theorem print_mk {K : PySem.W.Frag} {h : Heap} {CP : Addr} (X : K.In h) (h1 : PySem.W.nsIn K mainGlobals "PrintError" = some (some (.ref CP))) (h2 : PySem.W.subIn K (.ref CP) (.type "BaseException") = some true) (h3 : PySem.W.hasDictIn K CP = true) (h4 : PySem.W.typeIn K (.ref CP) = some (.type "type")) : PrintK K CP := ⟨h1, h2, h3, h4⟩
structure ExcF (K : PySem.W.Frag) (CP : Addr) (x : Str) (C : Addr) : Prop where
  ns : PySem.W.nsIn K mainGlobals x = some (some (.ref C))
  ga : PySem.W.findIn K (.ref C) "__getattribute__" = some (some (.builtin "BaseException.__getattribute__"))
  gg : PySem.W.findIn K (.ref C) "__getattr__" = some none
  ha : PySem.W.findIn K (.ref C) "__class__" = some (some (.builtin "object.__class__"))
  hn : PySem.W.specialIn K (.builtin "object.__class__") "__get__" = some (some (.builtin "getset_descriptor.__get__"))
  ht : PySem.W.takesIn K (.builtin "object.__class__") = some true
  hm : PySem.W.mroIn K C (.type "object") = some true
  kC : PySem.W.keepIn K (.ref C) = true
  eC : PySem.W.subIn K (.ref C) (.type "BaseException") = some true
  tC : PySem.W.typeIn K (.ref C) = some (.type "type")
  hC : PySem.W.hasDictIn K C = true
  sC : PySem.W.subIn K (.ref C) (.ref CP) = some true
theorem excf_mk {K : PySem.W.Frag} {h : Heap} {CP C : Addr} {x : Str} (X : K.In h) (h1 : PySem.W.nsIn K mainGlobals x = some (some (.ref C))) (h2 : PySem.W.findIn K (.ref C) "__getattribute__" = some (some (.builtin "BaseException.__getattribute__"))) (h3 : PySem.W.findIn K (.ref C) "__getattr__" = some none) (h4 : PySem.W.findIn K (.ref C) "__class__" = some (some (.builtin "object.__class__")))
    (h5 : PySem.W.specialIn K (.builtin "object.__class__") "__get__" = some (some (.builtin "getset_descriptor.__get__"))) (h6 : PySem.W.takesIn K (.builtin "object.__class__") = some true) (h7 : PySem.W.mroIn K C (.type "object") = some true) (h8 : PySem.W.keepIn K (.ref C) = true) (h9 : PySem.W.subIn K (.ref C) (.type "BaseException") = some true) (h10 : PySem.W.typeIn K (.ref C) = some (.type "type"))
    (h11 : PySem.W.hasDictIn K C = true) (h12 : PySem.W.subIn K (.ref C) (.ref CP) = some true) : ExcF K CP x C := ⟨h1, h2, h3, h4, h5, h6, h7, h8, h9, h10, h11, h12⟩
theorem ExcF.ec {K : PySem.W.Frag} {CP C : Addr} {x : Str} (F : ExcF K CP x C) : ExcC K C := ⟨F.ga, F.gg, F.eC, F.hC, F.ha, F.hn, F.ht, F.hm⟩
theorem ExcF.xf {K : PySem.W.Frag} {CP C : Addr} {x : Str} (F : ExcF K CP x C) : XfC K C := ⟨F.ga, F.gg, F.eC, F.hC⟩
/-- what its __init__ wants -/
structure InitF (K : PySem.W.Frag) (C : Addr) (st : Stmt) (qual : Str) : Prop where
  T : OexC K C
  init : ∃ fI, PySem.W.findIn K (.ref C) "__init__" = some (some (.ref fI)) ∧ PySem.W.typeIn K (.ref fI) = some (.type "function") ∧ MethK K "__init__" qual st fI
theorem initf_mk {K : PySem.W.Frag} {h : Heap} {qual : Str} {st : Stmt} {C fI N : Addr} {nm q : Str} {bs bm : List Value} {sn : List Str} {sub : List Value} {ab : Bool} {col : Option Bool} {dd : Option Addr} {m0 m1 m2 m3 m5 : Option Value}
    {od an : Option Addr} {sl : Array (Option Value)} {oc kV dc pm cd ct : Value} (X : K.In h)
    (xl : K.lookup C = some (excClassObj nm q C N bs bm true sn sub ab col dd m0 m1 m2 m3 m5 "ValueError.__new__")) (rv : PySem.HandSPX.refsVE bm = true) (sa : PySem.W.findIn K (.ref C) "__setattr__" = some (some (.builtin "object.__setattr__")))
    (eC : PySem.W.subIn K (.ref C) (.type "BaseException") = some true) (tC : PySem.W.typeIn K (.ref C) = some (.type "type")) (kC : PySem.W.keepIn K (.ref C) = true)
    (i1 : PySem.W.findIn K (.ref C) "__init__" = some (some (.ref fI))) (ti : PySem.W.typeIn K (.ref fI) = some (.type "function")) (li : K.lookup fI = some ⟨oc, od, .func (PySem.W.fnOf "__init__" qual (defArgs st) (defBody st) (defScope st) .none kV dc pm an cd ct), sl⟩) (ci : PySem.W.codeIn K cd qual = true) (ki : PySem.W.keepIn K (.ref fI) = true) : InitF K C st qual :=
  ⟨⟨⟨_, _, _, _, _, _, _, _, _, _, _, _, _, _, _, xl, rv⟩, sa, eC, tC, kC⟩, ⟨fI, i1, ti, meth_mk X li ci ki⟩⟩
theorem ExcF.err1 {P : Program} {w : World} {K : PySem.W.Frag} {CP C : Addr} {x fld qual : Str} {st : Stmt} {h base : Heap} {mg : Str → Option Value} (X : K.In h) (G : h.Ns mainGlobals mg) (Pk : PrintK K CP) (F : ExcF K CP x C) (I : InitF K C st qual) (no : PySem.W.findIn K (.ref C) fld = some none)
    (hok : ∀ f fd, Fun K "__init__" qual st f fd → FnOk P w K mg base CX0 1 f fd ["self", fld] (spI1 C fld)) (hbi : ∀ f fd, Fun K "__init__" qual st f fd → L2.Binds K fd ["self", fld] []) : Err1 P w K mg base CP x C fld := by
  obtain ⟨fI, i1, i2, fd, Fi⟩ := I.init
  exact ⟨I.T, F.xf, no, F.ec, PySem.W.mg_of X G F.ns, ⟨fI, fd, i1, i2, hok fI fd Fi, hbi fI fd Fi⟩, PySem.W.exm_ref Pk.eC Pk.hC Pk.tC F.sC⟩
theorem ExcF.err2 {P : Program} {w : World} {K : PySem.W.Frag} {CP C : Addr} {x f g qual : Str} {st : Stmt} {h base : Heap} {mg : Str → Option Value} (X : K.In h) (G : h.Ns mainGlobals mg) (Pk : PrintK K CP) (F : ExcF K CP x C) (I : InitF K C st qual) (nf : PySem.W.findIn K (.ref C) f = some none) (ng : PySem.W.findIn K (.ref C) g = some none)
    (hok : ∀ fa fd, Fun K "__init__" qual st fa fd → FnOk P w K mg base CX0 1 fa fd ["self", f, g] (spI2 C f g)) (hbi : ∀ fa fd, Fun K "__init__" qual st fa fd → L2.Binds K fd ["self", f, g] []) : Err2 P w K mg base CP x C f g := by
  obtain ⟨fI, i1, i2, fd, Fi⟩ := I.init
  exact ⟨I.T, F.xf, nf, ng, F.ec, PySem.W.mg_of X G F.ns, ⟨fI, fd, i1, i2, hok fI fd Fi, hbi fI fd Fi⟩, PySem.W.exm_ref Pk.eC Pk.hC Pk.tC F.sC⟩
theorem insk_mk {K : PySem.W.Frag} {h : Heap} {C : Addr} (X : K.In h) (c : Cls K C) (h1 : PySem.W.findIn K (.ref C) "__class__" = some (some (.builtin "object.__class__"))) (h2 : PySem.W.specialIn K (.builtin "object.__class__") "__get__" = some (some (.builtin "getset_descriptor.__get__"))) (h3 : PySem.W.takesIn K (.builtin "object.__class__") = some true) (h4 : PySem.W.mroIn K C (.type "object") = some true)
    (h5 : PySem.W.kitOne K (.ref C) (.type "int") = some false) (h6 : PySem.W.kitOne K (.ref C) (.type "bool") = some false) (h7 : PySem.W.kitOne K (.ref C) (.type "str") = some false) (h8 : PySem.W.kitOne K (.ref C) (.type "list") = some false) (h9 : PySem.W.kitOne K (.ref C) (.type "tuple") = some false) (h10 : PySem.W.kitOne K (.ref C) (.type "dict") = some false) : InsK K C := ⟨c, h1, h2, h3, h4, h5, h6, h7, h8, h9, h10⟩
theorem cls_mk {K : PySem.W.Frag} {h : Heap} {C : Addr} (X : K.In h) (h1 : PySem.W.plainGet K C Str.empty = true) (h2 : PySem.W.hasDictIn K C = true) (h3 : PySem.W.plainOver K C = true) (h4 : PySem.W.findIn K (.ref C) "__setattr__" = some (some (.builtin "object.__setattr__"))) : Cls K C := ⟨h1, h2, h3, h4⟩
/-- a class with its __init__ (defaults dvs) -/
structure MadeK (K : PySem.W.Frag) (x : Str) (C : Addr) (st : Stmt) (qual : Str) (dvs : List V) : Prop where
  ns : PySem.W.nsIn K mainGlobals x = some (some (.ref C))
  cl : Cls K C
  made : ∃ f fd, Mk K C f ∧ FunD K "__init__" qual (defArgs st) (defBody st) (defScope st) dvs [] f fd
theorem made_mk {K : PySem.W.Frag} {h : Heap} {x qual : Str} {C f T : Addr} {st : Stmt} {od an : Option Addr} {sl : Array (Option Value)} {oc kV dc pm cd ct : Value} {dvs : List V} {o : Obj} {its : List Value} {n : Nat} (X : K.In h) (ns : PySem.W.nsIn K mainGlobals x = some (some (.ref C))) (cl : Cls K C)
    (h1 : PySem.W.makesIn K C = true) (h2 : PySem.W.findIn K (.ref C) "__init__" = some (some (.ref f))) (h3 : PySem.W.isFn K (.ref f) = true) (h4 : PySem.W.keepIn K (.ref C) = true)
    (l : K.lookup f = some ⟨oc, od, .func (PySem.W.fnOf "__init__" qual (defArgs st) (defBody st) (defScope st) (.ref T) kV dc pm an cd ct), sl⟩) (c : PySem.W.codeIn K cd qual = true) (kf : PySem.W.keepIn K (.ref f) = true)
    (lT : K.lookup T = some o) (oT : o.data = .seq its.toArray n) (rT : Vals dvs its) (nd : dvs ≠ []) : MadeK K x C st qual dvs :=
  ⟨ns, cl, ⟨f, _, ⟨h1, h2, h3, h4⟩, ⟨⟨oc, od, .ref T, kV, dc, pm, an, cd, ct, sl, rfl, l, c, .inr ⟨nd, T, o, its, n, rfl, lT, oT, rT⟩, .inl rfl⟩, kf⟩⟩⟩
/-- a property that gives a field -/
structure PropK (K : PySem.W.Frag) (C : Addr) (x : Str) (st : Stmt) (qual : Str) : Prop where
  ex : ∃ p g fd, PropOf K C x p g ∧ Fun K x qual st g fd
theorem prop_mk {K : PySem.W.Frag} {h : Heap} {x qual : Str} {C p g : Addr} {rest : List Value} {st : Stmt} {od an : Option Addr} {sl : Array (Option Value)} {oc kV dc pm cd ct : Value} (X : K.In h) (h1 : PySem.W.findIn K (.ref C) x = some (some (.ref p))) (h2 : PySem.W.specialIn K (.ref p) "__get__" = some (some (.builtin "property.__get__"))) (h3 : PySem.W.takesIn K (.ref p) = some true)
    (h4 : PySem.W.recIn K p "property" = some (.ref g :: rest)) (l : K.lookup g = some ⟨oc, od, .func (PySem.W.fnOf x qual (defArgs st) (defBody st) (defScope st) .none kV dc pm an cd ct), sl⟩) (c : PySem.W.codeIn K cd qual = true) (k : PySem.W.keepIn K (.ref g) = true) : PropK K C x st qual :=
  ⟨p, g, _, ⟨h1, h2, h3, ⟨rest, h4⟩⟩, ⟨⟨oc, od, kV, dc, pm, an, cd, ct, sl, rfl, l, c⟩, k⟩⟩
theorem PropK.getter {P : Program} {w : World} {K : PySem.W.Frag} {mg : Str → Option Value} {base : Heap} {C : Addr} {x qual fld : Str} {st : Stmt} {p1 p2 p3 : Pos} (Z : PropK K C x st qual) (cl : Cls K C) (no : NoAttr K C fld) (S : FnScope ["self"] ["self"] (defScope st)) (hb : defBody st = [.Return (some (.Attribute (.Name "self" p1) fld p2)) p3])
    (h1 : (defScope st).names.lookup (Str.ofString "self") = some NameKind.local) (hbi : ∀ g fd, Fun K x qual st g fd → L2.Binds K fd ["self"] []) : Getter P w K mg base C x fld := by
  obtain ⟨p, g, fd, hp, F⟩ := Z.ex
  exact ⟨cl, p, g, fd, hp, ok_getter F S hb h1 cl no, hbi g fd F⟩
theorem nilT_mk {K : PySem.W.Frag} {h : Heap} {a : Addr} {n : Nat} {dd : Option Addr} {sl : Array (Option Value)} (X : K.In h) (l : K.lookup a = some ⟨.type "tuple", dd, .seq #[] n, sl⟩) : NilT K a := ⟨⟨_, l, rfl⟩, fun H => .inr ⟨_, _, _, l, rfl, rfl, Nat.zero_le _, .nil⟩⟩
theorem tup2_mk {K : PySem.W.Frag} {h : Heap} {a : Addr} {n : Nat} {dd : Option Addr} {sl : Array (Option Value)} {x y : Str} {t u : Tok} (X : K.In h) (l : K.lookup a = some ⟨.type "tuple", dd, .seq #[.str x t, .str y u] n, sl⟩) : ∀ H, SqT K H a [.str x, .str y] := fun H => .inr ⟨_, _, _, l, rfl, rfl, (by show 2 ≤ sizeLine; decide), .cons ⟨_, rfl⟩ (.cons ⟨_, rfl⟩ .nil)⟩
/-- a def called by keywords -/
theorem dk_of {P : Program} {w : World} {K : PySem.W.Frag} {mg : Str → Option Value} {base : Heap} {CX : CXT} {k : Nat} {x : Str} {st : Stmt} {f : Addr} {fd : FuncData} {ps ks : List Str} {gV : List V → List V → List V} {g : List Value → List Value → List Value} {sp : Sp} (F : Fun K x x st f fd) (hm : mg x = some (.ref f)) (hk : PySem.W.keepIn K (.ref f) = true) (ok : FnOk P w K mg base CX k f fd ps sp)
    (hto : ∀ (kV doc pm : Value) (an : Option Addr) (cdv ct : Value) (us ws : List Value), us.length = 0 → ws.length = ks.length → bindArgs (PySem.W.fnOf x x (defArgs st) (defBody st) (defScope st) .none kV doc pm an cdv ct) ⟨us, ks.zip ws⟩ = pure (ps.zip (g us ws)))
    (rel : ∀ {vs : List V} {us : List Value} {zs : List V} {ws : List Value}, Vals vs us → Vals zs ws → Vals (gV vs zs) (g us ws)) : Dk P w K mg base CX k x ps ks gV sp := by
  refine ⟨f, fd, g, hm, hk, ok, ⟨fun s us ws _ l1 l2 => ?_, rel⟩⟩
  obtain ⟨oc, od, kV, doc, pm, an, cdv, ct, osl, rfl, lk, hcd⟩ := F.ex
  exact .of_eq (hto kV doc pm an cdv ct us ws l1 l2)
/-- the law's code object and its table -/
structure LamK (K : PySem.W.Frag) (h : Heap) (st : Stmt) (f cl Pt : Addr) : Prop where
  code : ∃ fd, Fun K "law" "law" st f fd ∧ fd.code = .ref cl ∧ PySem.W.nsIn K mainGlobals "law" = some (some (.ref f))
  hd : PySem.W.CodeHd h cl Pt
  no : K.lookup Pt = none
  tb : h.get? Pt = some tabObj
theorem lam_mk {K : PySem.W.Frag} {h : Heap} {st : Stmt} {f cl Pt : Addr} {ts : List Addr} {od an : Option Addr} {sl : Array (Option Value)} {oc kV dc pm ct : Value} (X : K.In h) (a : PySem.W.nsIn K mainGlobals "law" = some (some (.ref f)))
    (l : K.lookup f = some ⟨oc, od, .func (PySem.W.fnOf "law" "law" (defArgs st) (defBody st) (defScope st) .none kV dc pm an (.ref cl) ct), sl⟩) (c : PySem.W.codeIn K (.ref cl) "law" = true) (k : PySem.W.keepIn K (.ref f) = true)
    (hT : ∀ P ∈ ts, h.get? P = some (PySem.W.tabObj #[])) (e : ts = [Pt]) (hc : PySem.W.codeHdIn K cl Pt = true) (no : K.lookup Pt = none) : LamK K h st f cl Pt :=
  ⟨⟨_, ⟨⟨oc, od, kV, dc, pm, an, .ref cl, ct, sl, rfl, l, c⟩, k⟩, rfl, a⟩, PySem.W.codeHd_of_K X hc, no, hT Pt (by rw [e]; exact List.mem_singleton.mpr rfl)⟩
end WP
namespace WP
open PySem L2 PySem.Spec PyProof.Rows
end WP
namespace WP
open PySem L2 PySem.Spec PyProof.Rows
structure FsOk2 (fs : List (Str × FileD)) : Prop where
  few : fs.length ≤ 8
  nd : (fs.map (·.1)).Nodup
  nam : ∀ n ∈ fs.map (·.1), isNameS n = true
  cl : ∀ n f, lkF fs n = some f → ∀ m ∈ f.refers, m ∈ fs.map (·.1)
  rc2 : ∀ n f, lkF fs n = some f → (∀ x, f.refers.count x ≤ 2) ∧ f.refers.length ≤ 16
theorem FsOk.two {fs : List (Str × FileD)} (ok : FsOk fs) : FsOk2 fs := ⟨ok.few, ok.nd, ok.nam, ok.cl, fun n f e => ⟨fun x => by
  have := List.nodup_iff_count.mp (ok.rnd n f e) x
  omega, by
  have := ok.rf_len n
  rw [rf_of e] at this
  omega⟩⟩
section
variable {fs : List (Str × FileD)}
theorem FsOk2.rf_mem (h : FsOk2 fs) {n m : Str} (hm : m ∈ rf fs n) : m ∈ fs.map (·.1) := by
  unfold rf at hm
  cases e : lkF fs n with
  | none => rw [e] at hm; cases hm
  | some f => rw [e] at hm; exact h.cl n f e m hm
theorem FsOk2.rf_two (h : FsOk2 fs) (n : Str) : (∀ x, (rf fs n).count x ≤ 2) ∧ (rf fs n).length ≤ 16 := by
  unfold rf
  cases e : lkF fs n with
  | none => exact ⟨fun x => Nat.zero_le _, Nat.zero_le _⟩
  | some f => exact h.rc2 n f e
theorem FsOk2.rc_mem (h : FsOk2 fs) {n m : Str} (r : Rc fs n m) : m ∈ fs.map (·.1) := by
  cases r with
  | one h1 => exact h.rf_mem h1
  | more _ h1 => exact h.rf_mem h1
end
section
variable {fs : List (Str × FileD)}
open Classical in
noncomputable def reachN (fs : List (Str × FileD)) (x : Str) : Nat := ((fs.map (·.1)).filter fun y => decide (Rc fs x y)).length
theorem reach_lt (ok : FsOk2 fs) (no : ∀ n, ¬ Rc fs n n) {n m : Str} (h : m ∈ rf fs n) : reachN fs m < reachN fs n := by
  classical
  unfold reachN
  have nd : (m :: (fs.map (·.1)).filter fun y => decide (Rc fs m y)).Nodup := by
    rw [List.nodup_cons]
    refine ⟨fun z => ?_, ok.nd.sublist List.filter_sublist⟩
    rw [List.mem_filter] at z
    exact no m (by simpa using z.2)
  have := pigeon _ ((fs.map (·.1)).filter fun y => decide (Rc fs n y)) nd fun x hx => by
    rw [List.mem_filter]
    rcases List.mem_cons.mp hx with rfl | hx
    · exact ⟨ok.rf_mem h, by simpa using Rc.one h⟩
    · rw [List.mem_filter] at hx
      refine ⟨hx.1, ?_⟩
      have r : Rc fs m x := by simpa using hx.2
      have key : ∀ {y}, Rc fs m y → Rc fs n y := fun {y} r => by
        induction r with
        | one h2 => exact (Rc.one h).more h2
        | more _ h2 ih => exact ih.more h2
      simpa using key r
  rw [List.length_cons] at this
  exact this
noncomputable def placeK (fs : List (Str × FileD)) (x : Str) : Nat := reachN fs x * 8 + (fs.map (·.1)).idxOf x
noncomputable def place (fs : List (Str × FileD)) (x : Str) : Nat := ((fs.map (·.1)).filter fun y => decide (placeK fs y < placeK fs x)).length
theorem placeK_lt (ok : FsOk2 fs) (no : ∀ n, ¬ Rc fs n n) {n m : Str} (h : m ∈ rf fs n) : placeK fs m < placeK fs n := by
  have h1 := reach_lt ok no h
  have h2 := List.idxOf_lt_length_of_mem (ok.rf_mem h)
  rw [List.length_map] at h2
  have := ok.few
  unfold placeK
  omega
theorem placeK_inj (ok : FsOk2 fs) {n m : Str} (hn : n ∈ fs.map (·.1)) (hm : m ∈ fs.map (·.1)) (h : placeK fs n = placeK fs m) : n = m := by
  have h1 := List.idxOf_lt_length_of_mem hn
  have h2 := List.idxOf_lt_length_of_mem hm
  have h3 := ok.few
  have e : (fs.map (·.1)).idxOf n = (fs.map (·.1)).idxOf m := by
    unfold placeK at h
    rw [List.length_map] at h1 h2
    omega
  have g1 := List.getElem_idxOf h1
  have g2 := List.getElem_idxOf h2
  rw [← g1, ← g2]
  congr 1
theorem place_mono (ok : FsOk2 fs) {n m : Str} (hm : m ∈ fs.map (·.1)) (h : placeK fs m < placeK fs n) : place fs m < place fs n := by
  unfold place
  have nd : (m :: (fs.map (·.1)).filter fun y => decide (placeK fs y < placeK fs m)).Nodup := by
    rw [List.nodup_cons]
    refine ⟨fun z => ?_, ok.nd.sublist List.filter_sublist⟩
    rw [List.mem_filter] at z
    simp at z
  have := pigeon _ ((fs.map (·.1)).filter fun y => decide (placeK fs y < placeK fs n)) nd fun x hx => by
    rw [List.mem_filter]
    rcases List.mem_cons.mp hx with rfl | hx
    · exact ⟨hm, by simpa using h⟩
    · rw [List.mem_filter] at hx
      refine ⟨hx.1, ?_⟩
      have : placeK fs x < placeK fs m := by simpa using hx.2
      simp only [decide_eq_true_eq]
      omega
  rw [List.length_cons] at this
  exact this
theorem place_inj (ok : FsOk2 fs) {n m : Str} (hn : n ∈ fs.map (·.1)) (hm : m ∈ fs.map (·.1)) (h : place fs n = place fs m) : n = m := by
  rcases Nat.lt_trichotomy (placeK fs n) (placeK fs m) with z | z | z
  · have := place_mono ok hn z
    omega
  · exact placeK_inj ok hn hm z
  · have := place_mono ok hm z
    omega
theorem place_le (ok : FsOk2 fs) {n : Str} (hn : n ∈ fs.map (·.1)) : place fs n ≤ 7 := by
  have nd : (n :: (fs.map (·.1)).filter fun y => decide (placeK fs y < placeK fs n)).Nodup := by
    rw [List.nodup_cons]
    refine ⟨fun z => ?_, ok.nd.sublist List.filter_sublist⟩
    rw [List.mem_filter] at z
    simp at z
  have := pigeon _ (fs.map (·.1)) nd fun x hx => by
    rcases List.mem_cons.mp hx with rfl | hx
    · exact hn
    · rw [List.mem_filter] at hx
      exact hx.1
  rw [List.length_cons, List.length_map] at this
  have := ok.few
  unfold place
  omega
theorem sum_split (f : Nat → Nat) (n : Nat) : ∀ l : List Nat, (l.map f).sum = l.count n * f n + ((l.filter fun x => decide (x ≠ n)).map f).sum
  | [] => by simp
  | a :: r => by
    have ih := sum_split f n r
    rw [List.map_cons, List.sum_cons, ih]
    by_cases h : a = n
    · subst h
      rw [List.count_cons_self, List.filter_cons_of_neg (by simp), Nat.succ_mul]
      omega
    · rw [List.count_cons_of_ne h, List.filter_cons_of_pos (by simpa using h), List.map_cons, List.sum_cons]
      omega
theorem pow_sum : ∀ (n : Nat) (l : List Nat), (∀ x, l.count x ≤ 2) → (∀ x ∈ l, x < n) → (l.map fun x => 3 ^ x).sum + 1 ≤ 3 ^ n := by
  intro n
  induction n with
  | zero =>
    intro l _ h
    cases l with
    | nil => simp
    | cons a r => exact absurd (h a List.mem_cons_self) (Nat.not_lt_zero _)
  | succ n ih =>
    intro l c2 h
    have e := sum_split (fun x => 3 ^ x) n l
    have := ih (l.filter fun x => decide (x ≠ n)) (fun x => Nat.le_trans (List.Sublist.count_le x List.filter_sublist) (c2 x)) fun x hx => by
      rw [List.mem_filter] at hx
      have h1 := h x hx.1
      have h2 : x ≠ n := by simpa using hx.2
      omega
    have h2 : l.count n * 3 ^ n ≤ 2 * 3 ^ n := Nat.mul_le_mul_right _ (c2 n)
    rw [e, Nat.pow_succ]
    omega
theorem count_map_two {f : Str → Nat} {l : List Str} (inj : ∀ a ∈ l, ∀ b ∈ l, f a = f b → a = b) (c2 : ∀ x, l.count x ≤ 2) (v : Nat) : (l.map f).count v ≤ 2 := by
  by_cases h : ∃ y ∈ l, f y = v
  · obtain ⟨y, hy, rfl⟩ := h
    rw [List.count_eq_countP, List.countP_map]
    have : l.countP ((fun x => x == f y) ∘ f) = l.count y := by
      rw [List.count_eq_countP]
      refine List.countP_congr fun x hx => ?_
      simp only [Function.comp_apply, beq_iff_eq]
      exact ⟨fun e => inj x hx y hy e, fun e => by rw [e]⟩
    rw [this]
    exact c2 y
  · rw [List.count_eq_zero.mpr fun hm => by
      obtain ⟨y, hy, e⟩ := List.mem_map.mp hm
      exact h ⟨y, hy, e⟩]
    exact Nat.zero_le _
noncomputable def wgtP (fs : List (Str × FileD)) (l : List (Str × Option Str)) : Nat := (l.map fun p => 3 ^ place fs p.1).sum
theorem wgtP_app (a b : List (Str × Option Str)) : wgtP fs (a ++ b) = wgtP fs a + wgtP fs b := by
  unfold wgtP
  rw [List.map_append, List.sum_append]
theorem wgtP_len : ∀ l : List (Str × Option Str), l.length ≤ wgtP fs l
  | [] => Nat.zero_le _
  | a :: r => by
    have h1 := wgtP_len r
    have h2 : 1 ≤ 3 ^ place fs a.1 := Nat.one_le_pow _ _ (by decide)
    unfold wgtP at h1 ⊢
    rw [List.map_cons, List.sum_cons, List.length_cons]
    omega
def kids (fs : List (Str × FileD)) (h : Str) : List (Str × Option Str) := (rf fs h).map fun x => (x, some h)
theorem kids_wgt (ok : FsOk2 fs) (no : ∀ n, ¬ Rc fs n n) (h : Str) : wgtP fs (kids fs h) + 1 ≤ 3 ^ place fs h := by
  unfold wgtP kids
  rw [List.map_map]
  have e : ((fun p : Str × Option Str => 3 ^ place fs p.1) ∘ fun x => (x, some h)) = (fun x => 3 ^ x) ∘ place fs := rfl
  rw [e, ← List.map_map]
  refine pow_sum _ _ (fun x => ?_) fun x hx => ?_
  · exact count_map_two (fun a ha b hb e => place_inj ok (ok.rf_mem ha) (ok.rf_mem hb) e) (ok.rf_two h).1 x
  · obtain ⟨y, hy, rfl⟩ := List.mem_map.mp hx
    exact place_mono ok (ok.rf_mem hy) (placeK_lt ok no hy)
end
structure BfsI (fs : List (Str × FileD)) (e : Str) (ps : List (Str × Option Str)) (k : Nat) : Prop where
  h0 : ps[0]? = some (e, none)
  rc : ∀ p ∈ ps, p.1 = e ∨ Rc fs e p.1
  par : ∀ x p, (x, p) ∈ ps → (x = e ∧ p = none) ∨ ∃ q, p = some q ∧ q ∈ ps.map (·.1) ∧ x ∈ rf fs q
  chi : ∀ i q p, i < k → ps[i]? = some (q, p) → ∀ x ∈ rf fs q, (x, some q) ∈ ps
  sl : ∀ i q p, i < k → ps[i]? = some (q, p) → (kids fs q).Sublist ps
  kl : k ≤ ps.length
  wt : k + wgtP fs (ps.drop k) ≤ 3 ^ place fs e
  nds : (∃ t, TreeOf fs e t) → (∀ q, (rf fs q).Nodup) → (∀ n, ¬ Rc fs n n) → (ps.map (·.1)).Nodup ∧ ∀ x q, (x, some q) ∈ ps → ∃ i o, i < k ∧ ps[i]? = some (q, o)
section
variable {fs : List (Str × FileD)} {e h : Str} {ps : List (Str × Option Str)} {k : Nat} {o : Option Str}
theorem BfsI.start : BfsI fs e [(e, none)] 0 := by
  refine ⟨rfl, fun p hp => .inl (by rw [List.mem_singleton.mp hp]), fun x p hp => .inl ?_, fun i q p hi => by omega, fun i q p hi => by omega, Nat.zero_le _, ?_, fun _ _ _ => ⟨by simp, fun x q hx => ?_⟩⟩
  · have := List.mem_singleton.mp hp
    exact ⟨(Prod.mk.inj this).1, (Prod.mk.inj this).2⟩
  · simp [wgtP]
  · have := (Prod.mk.inj (List.mem_singleton.mp hx)).2
    cases this
theorem BfsI.step (ok : FsOk2 fs) (no : ∀ n, ¬ Rc fs n n) (I : BfsI fs e ps k) (hk : ps[k]? = some (h, o)) : BfsI fs e (ps ++ kids fs h) (k + 1) := by
  have kl : k < ps.length := (List.getElem?_eq_some_iff.mp hk).1
  have hm : (h, o) ∈ ps := List.mem_of_getElem? hk
  refine ⟨by rw [List.getElem?_append_left (by omega)]; exact I.h0, fun p hp => ?_, fun x p hp => ?_, fun i q p hi hq x hx => ?_, fun i q p hi hq => ?_, ?_, ?_, fun ht hn _ => ?_⟩
  · rcases List.mem_append.mp hp with hp | hp
    · exact I.rc p hp
    · obtain ⟨y, hy, rfl⟩ := List.mem_map.mp hp
      refine .inr ?_
      rcases I.rc _ hm with z | z
      · have z : h = e := z
        rw [z] at hy
        exact .one hy
      · exact z.more hy
  · rcases List.mem_append.mp hp with hp | hp
    · rcases I.par x p hp with z | ⟨q, e1, e2, e3⟩
      · exact .inl z
      · exact .inr ⟨q, e1, by rw [List.map_append]; exact List.mem_append_left _ e2, e3⟩
    · obtain ⟨y, hy, e1⟩ := List.mem_map.mp hp
      cases e1
      exact .inr ⟨h, rfl, by rw [List.map_append]; exact List.mem_append_left _ (List.mem_map.mpr ⟨_, hm, rfl⟩), hy⟩
  · have hil : i < ps.length := by omega
    rw [List.getElem?_append_left hil] at hq
    by_cases z : i < k
    · exact List.mem_append_left _ (I.chi i q p z hq x hx)
    · have : i = k := by omega
      rw [this, hk] at hq
      cases hq
      exact List.mem_append_right _ (List.mem_map.mpr ⟨x, hx, rfl⟩)
  · have hil : i < ps.length := by omega
    rw [List.getElem?_append_left hil] at hq
    by_cases z : i < k
    · exact (I.sl i q p z hq).trans (List.sublist_append_left _ _)
    · have : i = k := by omega
      rw [this, hk] at hq
      cases hq
      exact List.sublist_append_right _ _
  · rw [List.length_append]
    omega
  · have w := I.wt
    have e1 : ps.drop k = (h, o) :: ps.drop (k + 1) := by
      rw [List.drop_eq_getElem_cons kl]
      congr 1
      have := (List.getElem?_eq_some_iff.mp hk).2
      exact this
    have e2 : wgtP fs (ps.drop k) = 3 ^ place fs h + wgtP fs (ps.drop (k + 1)) := by
      rw [e1]
      unfold wgtP
      rw [List.map_cons, List.sum_cons]
    rw [List.drop_append_of_le_length (by omega), wgtP_app]
    have := kids_wgt ok no h
    omega
  · obtain ⟨n1, n2⟩ := I.nds ht hn no
    obtain ⟨t, T⟩ := ht
    have ek : (kids fs h).map (·.1) = rf fs h := by unfold kids; rw [List.map_map]; exact List.map_id _
    have inT : ∀ q, q ∈ ps.map (·.1) → q ∈ t.map (·.1) := fun q hq => by
      obtain ⟨p, hp, rfl⟩ := List.mem_map.mp hq
      exact T.key (I.rc p hp)
    have hmk : h ∈ ps.map (·.1) := List.mem_map.mpr ⟨_, hm, rfl⟩
    refine ⟨?_, fun x q hx => ?_⟩
    · rw [List.map_append, ek]
      refine List.nodup_append.mpr ⟨n1, hn h, fun a ha b hb hab => ?_⟩
      subst hab
      obtain ⟨⟨a', p⟩, hp, rfl⟩ := List.mem_map.mp ha
      rcases I.par _ _ hp with ⟨z, _⟩ | ⟨q, rfl, hq, hr⟩
      · have hb : e ∈ rf fs h := by rw [← z]; exact hb
        rcases I.rc _ hm with y | y
        · have y : h = e := y
          rw [y] at hb
          exact no e (.one hb)
        · exact no e (y.more hb)
      · obtain ⟨i, o', hi, hio⟩ := n2 _ _ hp
        have e1 := T.chi q (inT q hq) _ hr
        have e2 := T.chi h (inT h hmk) _ hb
        have e3 : q = h := Option.some.inj (key_uni T.nd e1 e2)
        subst e3
        have g1 : (ps.map (·.1))[i]? = some q := by rw [List.getElem?_map, hio]; rfl
        have g2 : (ps.map (·.1))[k]? = some q := by rw [List.getElem?_map, hk]; rfl
        have := (List.getElem?_inj (by rw [List.length_map]; omega) n1).mp (g1.trans g2.symm)
        omega
    · rcases List.mem_append.mp hx with hx | hx
      · obtain ⟨i, o', hi, hio⟩ := n2 _ _ hx
        exact ⟨i, o', by omega, by rw [List.getElem?_append_left (by omega)]; exact hio⟩
      · obtain ⟨y, hy, e1⟩ := List.mem_map.mp hx
        cases e1
        exact ⟨k, o, by omega, by rw [List.getElem?_append_left kl]; exact hk⟩
theorem BfsI.len (I : BfsI fs e ps k) : ps.length ≤ 3 ^ place fs e := by
  have h1 := wgtP_len (fs := fs) (ps.drop k)
  rw [List.length_drop] at h1
  have := I.wt
  have := I.kl
  omega
theorem BfsI.lenB (ok : FsOk2 fs) (he : e ∈ fs.map (·.1)) (I : BfsI fs e ps k) : ps.length ≤ 2187 := by
  have h1 := I.len
  have h2 := place_le ok he
  have : 3 ^ place fs e ≤ 3 ^ 7 := Nat.pow_le_pow_right (by decide) h2
  omega
/-- at the end: the names are those below -/
theorem BfsI.mem (I : BfsI fs e ps ps.length) (x : Str) : x ∈ ps.map (·.1) ↔ x = e ∨ Rc fs e x := by
  have r0 : e ∈ ps.map (·.1) := List.mem_map.mpr ⟨_, List.mem_of_getElem? I.h0, rfl⟩
  have cl : ∀ q ∈ ps.map (·.1), ∀ y ∈ rf fs q, y ∈ ps.map (·.1) := fun q hq y hy => by
    obtain ⟨⟨q', p⟩, hp, rfl⟩ := List.mem_map.mp hq
    obtain ⟨i, hi⟩ := List.mem_iff_getElem?.mp hp
    exact List.mem_map.mpr ⟨_, I.chi i q' p (List.getElem?_eq_some_iff.mp hi).1 hi y hy, rfl⟩
  constructor
  · intro hx
    obtain ⟨p, hp, rfl⟩ := List.mem_map.mp hx
    exact I.rc p hp
  · rintro (rfl | r)
    · exact r0
    · induction r with
      | one h => exact cl _ r0 _ h
      | more _ h ih => exact cl _ ih _ h
/-- none twice: a tree -/
theorem BfsI.tree (I : BfsI fs e ps ps.length) (nd : (ps.map (·.1)).Nodup) : TreeOf fs e ps :=
  ⟨nd, List.mem_of_getElem? I.h0, I.par, fun q hq x hx => by
    obtain ⟨⟨q', p⟩, hp, rfl⟩ := List.mem_map.mp hq
    obtain ⟨i, hi⟩ := List.mem_iff_getElem?.mp hp
    exact I.chi i q' p (List.getElem?_eq_some_iff.mp hi).1 hi x hx, fun x hx => by
    obtain ⟨p, hp, rfl⟩ := List.mem_map.mp hx
    exact I.rc p hp⟩
/-- .. and nobody refers twice to one -/
theorem BfsI.refs (I : BfsI fs e ps ps.length) (nd : (ps.map (·.1)).Nodup) {q : Str} (hq : q = e ∨ Rc fs e q) : (rf fs q).Nodup := by
  obtain ⟨⟨q', p⟩, hp, rfl⟩ := List.mem_map.mp ((I.mem q).mpr hq)
  obtain ⟨i, hi⟩ := List.mem_iff_getElem?.mp hp
  have := (I.sl i q' p (List.getElem?_eq_some_iff.mp hi).1 hi).map (·.1)
  have e2 : (kids fs q').map (·.1) = rf fs q' := by
    unfold kids
    rw [List.map_map]
    exact List.map_id _
  rw [e2] at this
  exact nd.sublist this
end
end WP
namespace WP
open PySem L2 PySem.Spec PyProof.Rows
def iSeqW (K : PySem.W.Frag) (tl : TE) : TI := fun σ H R => tl σ H fun x H1 => ∃ (a : Addr) (xs : List V) (ok : Hp → Prop), x = .ref a ∧ ok H1 ∧ ((∀ H', ok H' → SqL K H' a xs) ∨ (∀ H', ok H' → SqT K H' a xs)) ∧ ∀ J, Walk J xs.length ok (YAt xs) → R J H1
theorem pi_seqW {X : Cx} {tg l : Expr} {tl : TE} (hl : PE X l tl) : PI X tg l (iSeqW X.K tl) := by
  refine ⟨fun pins s σ H R I h0 => thn (hl.run pins s σ H _ I h0) fun v s1 ⟨x, H1, I1, r1, a, xs, ok, e1, ho, hq, q⟩ => ?_⟩
  cases e1
  cases r1
  have fpo : ∀ b ∈ [s1.heap.objs.size], FpOk X pins H1 b := fun b hb => by
    rw [List.mem_singleton.mp hb]
    exact I1.fpOk (Nat.le_refl _) (I1.hok.fresh (Nat.le_refl _))
  rcases hq with hq | hq
  · obtain ⟨its, rv, pl, hz⟩ := I1.list (hq H1 ho)
    exact wpAny_pyIter_list pl.isList ⟨s1.heap.objs.size, [s1.heap.objs.size], _, _, H1, rfl, I1.kept (t' := s1.toks) fun b o e => Heap.get?_push_of_some _ e, turn_list a _, ⟨_, Heap.get?_push_size _ rfl, rfl, rfl⟩, fpo, q _ (walk_list.mono hq fun _ _ _ _ _ _ y => y)⟩
  · obtain ⟨its, rv, pt, hz⟩ := I1.tuple (hq H1 ho)
    exact wpAny_pyIter_tuple (show s1.heap.IsTuple a its.toArray from pt) ⟨s1.heap.objs.size, [s1.heap.objs.size], _, _, H1, rfl, I1.kept (t' := s1.toks) fun b o e => Heap.get?_push_of_some _ e, turn_tuple a _, ⟨_, Heap.get?_push_size _ rfl, rfl, rfl⟩, fpo, q _ (walk_tup.mono hq fun _ _ _ _ _ _ y => y)⟩
/-- a page whose second part is the names to which it refers -/
def PgV (K : PySem.W.Frag) (H : Hp) (v : V) (rs : List Str) : Prop := ∃ (a r : Addr) (x0 : V) (rest : List V), v = .ref a ∧ SqT K H a (x0 :: .ref r :: rest) ∧ (SqL K H r (rs.map V.str) ∨ SqT K H r (rs.map V.str))
theorem PgV.same {K : PySem.W.Frag} {H H' : Hp} {v : V} {rs : List Str} (h : PgV K H v rs) (s : Same H H') : PgV K H' v rs := by
  obtain ⟨a, r, x0, rest, e, h1, h2⟩ := h
  exact ⟨a, r, x0, rest, e, SqT.sm h1 s, h2.imp (fun h => SqL.sm h s) (fun h => SqT.sm h s)⟩
inductive PagesR (K : PySem.W.Frag) (H : Hp) : List (Key × V) → List (Str × FileD) → Prop
  | nil : PagesR K H [] []
  | cons {n : Str} {v : V} {f : FileD} {kvs : List (Key × V)} {fs : List (Str × FileD)} : PgV K H v f.refers → PagesR K H kvs fs → PagesR K H ((.inr n, v) :: kvs) ((n, f) :: fs)
section
variable {K : PySem.W.Frag} {H H' : Hp} {kvs : List (Key × V)} {fs : List (Str × FileD)}
theorem PagesR.same (h : PagesR K H kvs fs) (s : Same H H') : PagesR K H' kvs fs := by
  induction h with
  | nil => exact .nil
  | cons h _ ih => exact .cons (h.same s) ih
theorem PagesR.get (h : PagesR K H kvs fs) {n : Str} {f : FileD} (e : lkF fs n = some f) : ∃ v, valV kvs (.inr n) = some v ∧ PgV K H v f.refers := by
  induction h with
  | nil => cases e
  | @cons m v g kvs fs h _ ih =>
    by_cases z : m = n
    · subst z
      rw [lkF_hit (fs := fs)] at e
      cases e
      exact ⟨v, valV_pos rfl, h⟩
    · rw [lkF_skip z] at e
      obtain ⟨u, h1, h2⟩ := ih e
      exact ⟨u, by rw [valV_neg (fun q => z (Sum.inr.inj q))]; exact h1, h2⟩
theorem PagesR.keys (h : PagesR K H kvs fs) : kvs.map (·.1) = (fs.map (·.1)).map Sum.inr := by
  induction h with
  | nil => rfl
  | cons h _ ih => simp [ih]
end
inductive PairsR (H : Hp) : List Addr → List (Str × Option Str) → Prop
  | nil : PairsR H [] []
  | cons {a : Addr} {x : Str} {p : Option Str} {as : List Addr} {ps : List (Str × Option Str)} : H a = some (.tup [.str x, optS p]) → PairsR H as ps → PairsR H (a :: as) ((x, p) :: ps)
section
variable {H H' : Hp} {as bs : List Addr} {ps qs : List (Str × Option Str)}
theorem PairsR.same (h : PairsR H as ps) (s : Same H H') : PairsR H' as ps := by
  induction h with
  | nil => exact .nil
  | cons h _ ih => exact .cons (s _ _ h) ih
theorem PairsR.app (h : PairsR H as ps) (h' : PairsR H bs qs) : PairsR H (as ++ bs) (ps ++ qs) := by
  induction h with
  | nil => exact h'
  | cons h _ ih => exact .cons h ih
theorem PairsR.len (h : PairsR H as ps) : as.length = ps.length := by
  induction h with
  | nil => rfl
  | cons h _ ih => simp [ih]
theorem PairsR.at (h : PairsR H as ps) : ∀ {i : Nat} {a : Addr}, as[i]? = some a → ∃ x p, ps[i]? = some (x, p) ∧ H a = some (.tup [.str x, optS p]) := by
  induction h with
  | nil => intro i a e; cases e
  | @cons b x p as ps h _ ih =>
    intro i a e
    cases i with
    | zero =>
      cases e
      exact ⟨x, p, rfl, h⟩
    | succ i =>
      rw [List.getElem?_cons_succ] at e
      obtain ⟨y, q, h1, h2⟩ := ih e
      exact ⟨y, q, by rw [List.getElem?_cons_succ]; exact h1, h2⟩
end
def spLawTree (K : PySem.W.Frag) : Sp := fun vs H Q _ => ∃ (d : Addr) (e : Str) (kvs : List (Key × V)) (fs : List (Str × FileD)), vs = [.ref d, .str e] ∧ H d = some (.dK kvs) ∧ PagesR K H kvs fs ∧ FsOk2 fs ∧ (∀ n, ¬ Rc fs n n) ∧ e ∈ fs.map (·.1) ∧
  ∀ (L : Addr) (as : List Addr) (ps : List (Str × Option Str)) H', Same H H' → H L = none → H' L = some (.lst (as.map V.ref)) → PairsR H' as ps → BfsI fs e ps ps.length → ps.length ≤ 2187 → Q (.ref L) H'
def spLawIsTree (K : PySem.W.Frag) : Sp := fun vs H Q _ => ∃ (d : Addr) (e : Str) (kvs : List (Key × V)) (fs : List (Str × FileD)), vs = [.ref d, .str e] ∧ H d = some (.dK kvs) ∧ PagesR K H kvs fs ∧ FsOk2 fs ∧ (∀ n, ¬ Rc fs n n) ∧ e ∈ fs.map (·.1) ∧
  ∀ (b : Bool) H', Same H H' → (b = true → (∃ t, TreeOf fs e t) ∧ ∀ q, (q = e ∨ Rc fs e q) → (rf fs q).Nodup) → Q (.bl b) H'
end WP
namespace WP
open PySem L2 PySem.Spec PyProof.Rows
def addRef (fs : List (Str × FileD)) (a m : Str) : List (Str × FileD) := fs.map fun p => if p.1 = a then (p.1, { p.2 with refers := p.2.refers ++ [m] }) else p
section
variable {fs : List (Str × FileD)} {a m : Str}
theorem addRef_keys : (addRef fs a m).map (·.1) = fs.map (·.1) := by
  unfold addRef
  rw [List.map_map]
  refine List.map_congr_left fun p _ => ?_
  simp only [Function.comp_apply]
  split <;> rfl
theorem addRef_lk (n : Str) : lkF (addRef fs a m) n = (lkF fs n).map fun f => if n = a then { f with refers := f.refers ++ [m] } else f := by
  induction fs with
  | nil => rfl
  | cons p r ih =>
    obtain ⟨k, f⟩ := p
    have e : addRef ((k, f) :: r) a m = (if k = a then (k, { f with refers := f.refers ++ [m] }) else (k, f)) :: addRef r a m := rfl
    rw [e]
    by_cases hk : k = n
    · subst hk
      rw [lkF_hit (fs := r)]
      by_cases ha : k = a
      · rw [if_pos ha, lkF_hit (fs := addRef r a m), Option.map_some, if_pos ha]
      · rw [if_neg ha, lkF_hit (fs := addRef r a m), Option.map_some, if_neg ha]
    · rw [lkF_skip hk, ← ih]
      by_cases ha : k = a
      · rw [if_pos ha, lkF_skip hk]
      · rw [if_neg ha, lkF_skip hk]
theorem addRef_rf (ha : a ∈ fs.map (·.1)) (n : Str) : rf (addRef fs a m) n = if n = a then rf fs a ++ [m] else rf fs n := by
  unfold rf
  rw [addRef_lk]
  by_cases e : n = a
  · rw [if_pos e, e]
    obtain ⟨f, ef⟩ := lkF_key.mp ha
    rw [ef]
    simp
  · rw [if_neg e]
    cases lkF fs n with
    | none => rfl
    | some f => simp [e]
theorem addRef_mono (ha : a ∈ fs.map (·.1)) {x y : Str} (r : Rc fs x y) : Rc (addRef fs a m) x y := by
  have k : ∀ {x y : Str}, y ∈ rf fs x → y ∈ rf (addRef fs a m) x := fun {x y} h => by
    rw [addRef_rf ha]
    by_cases e : x = a
    · rw [if_pos e]
      rw [e] at h
      exact List.mem_append_left _ h
    · rw [if_neg e]
      exact h
  induction r with
  | one h => exact .one (k h)
  | more _ h ih => exact ih.more (k h)
theorem rc_trans {x y z : Str} (h1 : Rc fs x y) (h2 : Rc fs y z) : Rc fs x z := by
  induction h2 with
  | one h => exact h1.more h
  | more _ h ih => exact ih.more h
theorem addRef_rc (ha : a ∈ fs.map (·.1)) {x y : Str} (r : Rc (addRef fs a m) x y) : Rc fs x y ∨ ((x = a ∨ Rc fs x a) ∧ (y = m ∨ Rc fs m y)) := by
  induction r with
  | @one y h =>
    rw [addRef_rf ha] at h
    by_cases e : x = a
    · rw [if_pos e] at h
      rcases List.mem_append.mp h with h | h
      · rw [← e] at h
        exact .inl (.one h)
      · exact .inr ⟨.inl e, .inl (List.mem_singleton.mp h)⟩
    · rw [if_neg e] at h
      exact .inl (.one h)
  | @more y z _ h ih =>
    rw [addRef_rf ha] at h
    have key : ∀ (h' : z ∈ rf fs y), Rc fs x z ∨ ((x = a ∨ Rc fs x a) ∧ (z = m ∨ Rc fs m z)) := fun h' => by
      rcases ih with r | ⟨r1, r2⟩
      · exact .inl (r.more h')
      · refine .inr ⟨r1, .inr ?_⟩
        rcases r2 with rfl | r2
        · exact .one h'
        · exact r2.more h'
    by_cases e : y = a
    · rw [if_pos e] at h
      rcases List.mem_append.mp h with h | h
      · rw [← e] at h
        exact key h
      · have hz := List.mem_singleton.mp h
        refine .inr ⟨?_, .inl hz⟩
        rcases ih with r | ⟨r1, r2⟩
        · rw [e] at r
          exact .inr r
        · exact r1
    · rw [if_neg e] at h
      exact key h
theorem addRef_no (ha : a ∈ fs.map (·.1)) (no : ∀ n, ¬ Rc fs n n) (h : ¬ (a = m ∨ Rc fs m a)) : ∀ n, ¬ Rc (addRef fs a m) n n := fun n r => by
  rcases addRef_rc ha r with r | ⟨r1, r2⟩
  · exact no n r
  · apply h
    rcases r2 with rfl | r2
    · rcases r1 with e | r1
      · exact .inl e.symm
      · exact .inr r1
    · rcases r1 with rfl | r1
      · exact .inr r2
      · exact .inr (rc_trans r2 r1)
theorem addRef_ok2 (ok : FsOk fs) (ha : a ∈ fs.map (·.1)) (hm : m ∈ fs.map (·.1)) : FsOk2 (addRef fs a m) := by
  have hl : (addRef fs a m).length = fs.length := by unfold addRef; rw [List.length_map]
  refine ⟨by rw [hl]; exact ok.few, by rw [addRef_keys]; exact ok.nd, fun n hn => ok.nam n (by rw [addRef_keys] at hn; exact hn), fun n f e x hx => ?_, fun n f e => ?_⟩
  · rw [addRef_keys]
    have hr := rf_of e
    rw [addRef_rf ha] at hr
    rw [← hr] at hx
    by_cases z : n = a
    · rw [if_pos z] at hx
      rcases List.mem_append.mp hx with hx | hx
      · exact ok.rf_mem hx
      · rw [List.mem_singleton.mp hx]
        exact hm
    · rw [if_neg z] at hx
      exact ok.rf_mem hx
  · have hr := rf_of e
    rw [addRef_rf ha] at hr
    rw [← hr]
    have c1 : ∀ n x, (rf fs n).count x ≤ 1 := fun n x => List.nodup_iff_count.mp (ok.rf_nd n) x
    have l1 := fun n => ok.rf_len n
    by_cases z : n = a
    · rw [if_pos z]
      refine ⟨fun x => ?_, ?_⟩
      · rw [List.count_append]
        have h1 := c1 a x
        have h2 : [m].count x ≤ 1 := List.nodup_iff_count.mp (by simp) x
        omega
      · rw [List.length_append, List.length_singleton]
        have := l1 a
        omega
    · rw [if_neg z]
      exact ⟨fun x => by have := c1 n x; omega, by have := l1 n; omega⟩
theorem FsOk2.ok (h : FsOk2 fs) (nd : ∀ n, (rf fs n).Nodup) : FsOk fs := ⟨h.few, h.nd, h.nam, h.cl, fun n f e => by rw [← rf_of e]; exact nd n⟩
/-- what is below a file of a tree is a tree -/
theorem TreeOf.sub {r e : Str} {t : List (Str × Option Str)} (T : TreeOf fs r t) (no : ∀ n, ¬ Rc fs n n) (hr : Rc fs r e) : ∃ t', TreeOf fs e t' := by
  classical
  have hek : e ∈ t.map (·.1) := T.key (.inr hr)
  have mf : ∀ x p, (x, p) ∈ (t.filter fun q => decide (Rc fs e q.1)) ↔ (x, p) ∈ t ∧ Rc fs e x := fun x p => by
    rw [List.mem_filter]
    simp
  have kf : ∀ x, x ∈ (t.filter fun q => decide (Rc fs e q.1)).map (·.1) ↔ x ∈ t.map (·.1) ∧ Rc fs e x := fun x => by
    constructor
    · intro h
      obtain ⟨⟨y, p⟩, h1, rfl⟩ := List.mem_map.mp h
      have := (mf y p).mp h1
      exact ⟨List.mem_map.mpr ⟨_, this.1, rfl⟩, this.2⟩
    · rintro ⟨h1, h2⟩
      obtain ⟨⟨y, p⟩, h3, rfl⟩ := List.mem_map.mp h1
      exact List.mem_map.mpr ⟨_, (mf y p).mpr ⟨h3, h2⟩, rfl⟩
  refine ⟨(e, none) :: t.filter fun q => decide (Rc fs e q.1), ⟨?_, List.mem_cons_self, fun x p hx => ?_, fun q hq x hx => ?_, fun x hx => ?_⟩⟩
  · rw [List.map_cons, List.nodup_cons]
    refine ⟨fun h => no e ((kf e).mp h).2, T.nd.sublist (List.filter_sublist.map _)⟩
  · rcases List.mem_cons.mp hx with h | h
    · exact .inl (Prod.mk.inj h)
    · obtain ⟨h1, h2⟩ := (mf x p).mp h
      refine .inr ?_
      rcases T.par x p h1 with ⟨rfl, _⟩ | ⟨q, rfl, h3, h4⟩
      · exact absurd (rc_trans hr h2) (no _)
      · refine ⟨q, rfl, ?_, h4⟩
        rw [List.map_cons, List.mem_cons]
        have uni : ∀ y, y ∈ t.map (·.1) → x ∈ rf fs y → q = y := fun y hy hxy => Option.some.inj (key_uni T.nd h1 (T.chi y hy x hxy))
        cases h2 with
        | one h5 => exact .inl (uni e hek h5)
        | @more y _ h5 h6 =>
          have hy : y ∈ t.map (·.1) := T.key (.inr (rc_trans hr h5))
          have := uni y hy h6
          rw [this]
          exact .inr ((kf y).mpr ⟨hy, h5⟩)
  · rw [List.map_cons, List.mem_cons] at hq
    refine List.mem_cons_of_mem _ ((mf x _).mpr ?_)
    rcases hq with rfl | hq
    · exact ⟨T.chi _ hek x hx, .one hx⟩
    · obtain ⟨h1, h2⟩ := (kf q).mp hq
      exact ⟨T.chi q h1 x hx, h2.more hx⟩
  · rw [List.map_cons, List.mem_cons] at hx
    exact hx.imp id fun h => ((kf x).mp h).2
end
structure LInv (ns S : List Str) (fs : List (Str × FileD)) (roots : List Str) : Prop where
  keys : fs.map (·.1) = ns
  ok : FsOk fs
  no : ∀ n, ¬ Rc fs n n
  sub : ∀ n m, m ∈ rf fs n → n ∈ S ∧ m ∈ S
  sn : ∀ n ∈ S, n ∈ ns
  ne : roots ≠ []
  rs : ∀ r ∈ roots, r ∈ S
  tr : ∀ r ∈ roots, ∃ t, TreeOf fs r t
  cov : ∀ n ∈ S, ∃ r ∈ roots, n = r ∨ Rc fs r n
section
variable {ns S roots : List Str} {fs : List (Str × FileD)} {a m : Str}
theorem LInv.leaf (I : LInv ns S fs roots) (hm : m ∉ S) : rf fs m = [] := by
  cases e : rf fs m with
  | nil => rfl
  | cons x r => exact absurd (I.sub m x (by rw [e]; exact List.mem_cons_self)).1 hm
theorem LInv.stepA (I : LInv ns S fs roots) (hm : m ∉ S) (hn : m ∈ ns) : LInv ns (S ++ [m]) fs (roots ++ [m]) := by
  refine ⟨I.keys, I.ok, I.no, fun x y h => (I.sub x y h).imp (List.mem_append_left _) (List.mem_append_left _), fun n h => (List.mem_append.mp h).elim (I.sn n) fun e => List.mem_singleton.mp e ▸ hn, by simp, fun r h => (List.mem_append.mp h).elim (fun h => List.mem_append_left _ (I.rs r h)) (List.mem_append_right _), fun r h => ?_, fun n h => ?_⟩
  · rcases List.mem_append.mp h with h | h
    · exact I.tr r h
    · rw [List.mem_singleton.mp h]
      have l := I.leaf hm
      refine ⟨[(m, none)], ⟨by simp, by simp, fun x p hx => .inl (Prod.mk.inj (List.mem_singleton.mp hx)), fun q hq x hx => ?_, fun x hx => .inl (by simpa using hx)⟩⟩
      have : q = m := by simpa using hq
      rw [this, l] at hx
      cases hx
  · rcases List.mem_append.mp h with h | h
    · obtain ⟨r, h1, h2⟩ := I.cov n h
      exact ⟨r, List.mem_append_left _ h1, h2⟩
    · exact ⟨m, List.mem_append_right _ (List.mem_singleton.mpr rfl), .inl (List.mem_singleton.mp h)⟩
theorem LInv.stepB (I : LInv ns S fs roots) (ha : a ∈ S) (hm : m ∉ S) (hn : m ∈ ns) : LInv ns (S ++ [m]) (addRef fs a m) roots := by
  have hak : a ∈ fs.map (·.1) := by rw [I.keys]; exact I.sn a ha
  have hmk : m ∈ fs.map (·.1) := by rw [I.keys]; exact hn
  have l := I.leaf hm
  have mnr : ∀ y, ¬ Rc fs m y := fun y r => by
    have key : ∀ {u v : Str}, Rc fs u v → u = m → False := fun {u v} r e => by
      induction r with
      | one h => rw [e, l] at h; cases h
      | more _ _ ih => exact ih
    exact key r rfl
  have am : a ≠ m := fun e => hm (by rw [← e]; exact ha)
  have l' : rf (addRef fs a m) m = [] := by rw [addRef_rf hak, if_neg (Ne.symm am)]; exact l
  have no' := addRef_no hak I.no (m := m) (fun h => h.elim am (mnr a))
  refine ⟨by rw [addRef_keys]; exact I.keys, (addRef_ok2 I.ok hak hmk).ok fun n => ?_, no', fun x y h => ?_, fun n h => (List.mem_append.mp h).elim (I.sn n) fun e => List.mem_singleton.mp e ▸ hn, I.ne, fun r h => List.mem_append_left _ (I.rs r h), fun r h => ?_, fun n h => ?_⟩
  · rw [addRef_rf hak]
    by_cases e : n = a
    · rw [if_pos e, List.nodup_append]
      exact ⟨I.ok.rf_nd a, by simp, fun x hx y hy z => hm (by rw [← List.mem_singleton.mp hy, ← z]; exact (I.sub a x hx).2)⟩
    · rw [if_neg e]
      exact I.ok.rf_nd n
  · rw [addRef_rf hak] at h
    by_cases e : x = a
    · rw [if_pos e] at h
      refine ⟨by rw [e]; exact List.mem_append_left _ ha, ?_⟩
      rcases List.mem_append.mp h with h | h
      · exact List.mem_append_left _ (I.sub a y h).2
      · exact List.mem_append_right _ h
    · rw [if_neg e] at h
      exact (I.sub x y h).imp (List.mem_append_left _) (List.mem_append_left _)
  · obtain ⟨t, T⟩ := I.tr r h
    have tS : ∀ x ∈ t.map (·.1), x ∈ S := fun x hx => by
      rcases T.rc x hx with e | rr
      · rw [e]; exact I.rs r h
      · cases rr with
        | one h1 => exact (I.sub _ _ h1).2
        | more _ h1 => exact (I.sub _ _ h1).2
    by_cases hat : a ∈ t.map (·.1)
    · refine ⟨t ++ [(m, some a)], ⟨?_, List.mem_append_left _ T.root, fun x p hx => ?_, fun q hq x hx => ?_, fun x hx => ?_⟩⟩
      · rw [List.map_append, List.nodup_append]
        refine ⟨T.nd, by simp, fun x hx y hy z => hm ?_⟩
        have : y = m := by simpa using hy
        rw [← this, ← z]
        exact tS x hx
      · rcases List.mem_append.mp hx with hx | hx
        · rcases T.par x p hx with z | ⟨q, h1, h2, h3⟩
          · exact .inl z
          · refine .inr ⟨q, h1, by rw [List.map_append]; exact List.mem_append_left _ h2, ?_⟩
            rw [addRef_rf hak]
            by_cases e : q = a
            · rw [if_pos e]
              rw [e] at h3
              exact List.mem_append_left _ h3
            · rw [if_neg e]
              exact h3
        · have := Prod.mk.inj (List.mem_singleton.mp hx)
          refine .inr ⟨a, this.2, by rw [List.map_append]; exact List.mem_append_left _ hat, ?_⟩
          rw [addRef_rf hak, if_pos rfl, this.1]
          exact List.mem_append_right _ (List.mem_singleton.mpr rfl)
      · rw [List.map_append, List.mem_append] at hq
        rcases hq with hq | hq
        · rw [addRef_rf hak] at hx
          by_cases e : q = a
          · rw [if_pos e] at hx
            rcases List.mem_append.mp hx with hx | hx
            · rw [← e] at hx
              exact List.mem_append_left _ (T.chi q hq x hx)
            · rw [List.mem_singleton.mp hx, e]
              exact List.mem_append_right _ (List.mem_singleton.mpr rfl)
          · rw [if_neg e] at hx
            exact List.mem_append_left _ (T.chi q hq x hx)
        · have : q = m := by simpa using hq
          rw [this, l'] at hx
          cases hx
      · rw [List.map_append, List.mem_append] at hx
        rcases hx with hx | hx
        · exact (T.rc x hx).imp id (addRef_mono hak)
        · have : x = m := by simpa using hx
          rw [this]
          have hma : m ∈ rf (addRef fs a m) a := by rw [addRef_rf hak, if_pos rfl]; exact List.mem_append_right _ (List.mem_singleton.mpr rfl)
          rcases T.rc a hat with e | rr
          · rw [e] at hma
            have : r ∈ fs.map (·.1) := by rw [← e]; exact hak
            refine .inr (.one ?_)
            rw [e]
            exact hma
          · exact .inr ((addRef_mono hak rr).more hma)
    · refine ⟨t, ⟨T.nd, T.root, fun x p hx => ?_, fun q hq x hx => ?_, fun x hx => (T.rc x hx).imp id (addRef_mono hak)⟩⟩
      · rcases T.par x p hx with z | ⟨q, h1, h2, h3⟩
        · exact .inl z
        · refine .inr ⟨q, h1, h2, ?_⟩
          rw [addRef_rf hak, if_neg (fun e => hat (by rw [← e]; exact h2))]
          exact h3
      · rw [addRef_rf hak, if_neg (fun e => hat (by rw [← e]; exact hq))] at hx
        exact T.chi q hq x hx
  · rcases List.mem_append.mp h with h | h
    · obtain ⟨r, h1, h2⟩ := I.cov n h
      exact ⟨r, h1, h2.imp id (addRef_mono hak)⟩
    · rw [List.mem_singleton.mp h]
      have hma : m ∈ rf (addRef fs a m) a := by rw [addRef_rf hak, if_pos rfl]; exact List.mem_append_right _ (List.mem_singleton.mpr rfl)
      obtain ⟨r, h1, h2⟩ := I.cov a ha
      refine ⟨r, h1, .inr ?_⟩
      rcases h2 with e | rr
      · rw [← e]
        exact .one hma
      · exact (addRef_mono hak rr).more hma
theorem LInv.stepC (I : LInv ns ns fs roots) (ha : a ∈ roots) (hm : m ∈ ns) (hr : ¬ (a = m ∨ Rc fs m a)) (ht : ∀ r ∈ roots, (∃ t, TreeOf (addRef fs a m) r t) ∧ ∀ q, (q = r ∨ Rc (addRef fs a m) r q) → (rf (addRef fs a m) q).Nodup) : LInv ns ns (addRef fs a m) roots := by
  have hak : a ∈ fs.map (·.1) := by rw [I.keys]; exact I.sn a (I.rs a ha)
  have hmk : m ∈ fs.map (·.1) := by rw [I.keys]; exact hm
  refine ⟨by rw [addRef_keys]; exact I.keys, (addRef_ok2 I.ok hak hmk).ok fun n => ?_, addRef_no hak I.no hr, fun x y h => ?_, fun n h => h, I.ne, I.rs, fun r h => (ht r h).1, fun n h => ?_⟩
  · by_cases e : n = a
    · exact (ht a ha).2 n (.inl e)
    · rw [addRef_rf hak, if_neg e]
      exact I.ok.rf_nd n
  · rw [addRef_rf hak] at h
    by_cases e : x = a
    · rw [if_pos e] at h
      refine ⟨by rw [e]; exact I.rs a ha, ?_⟩
      rcases List.mem_append.mp h with h | h
      · exact (I.sub a y h).2
      · rw [List.mem_singleton.mp h]; exact hm
    · rw [if_neg e] at h
      exact I.sub x y h
  · obtain ⟨r, h1, h2⟩ := I.cov n h
    exact ⟨r, h1, h2.imp id (addRef_mono hak)⟩
/-- below each file there is a tree -/
theorem LInv.all (I : LInv ns ns fs roots) {e : Str} (he : e ∈ ns) : ∃ t, TreeOf fs e t := by
  obtain ⟨r, h1, h2⟩ := I.cov e he
  obtain ⟨t, T⟩ := I.tr r h1
  rcases h2 with rfl | h2
  · exact ⟨t, T⟩
  · exact T.sub I.no h2
def bareF (ns : List Str) : List (Str × FileD) := ns.map fun n => (n, ⟨false, [], none, []⟩)
theorem bareF_rf (ns : List Str) (n : Str) : rf (bareF ns) n = [] := by
  unfold rf
  cases e : lkF (bareF ns) n with
  | none => rfl
  | some f =>
    obtain ⟨x, _, e2⟩ := List.mem_map.mp (lkF_mem e)
    cases e2
    rfl
theorem LInv.start {n : Str} {r : List Str} (nd : (n :: r).Nodup) (l8 : (n :: r).length ≤ 8) (nam : ∀ x ∈ n :: r, isNameS x = true) : LInv (n :: r) [n] (bareF (n :: r)) [n] := by
  have keys : (bareF (n :: r)).map (·.1) = n :: r := by
    unfold bareF
    rw [List.map_map]
    exact List.map_id _
  have noR : ∀ x y, ¬ Rc (bareF (n :: r)) x y := fun x y h => by
    cases h with
    | one h => rw [bareF_rf] at h; cases h
    | more _ h => rw [bareF_rf] at h; cases h
  refine ⟨keys, ⟨by unfold bareF; rw [List.length_map]; exact l8, by rw [keys]; exact nd, by rw [keys]; exact nam, fun x f e y hy => ?_, fun x f e => ?_⟩, fun x => noR x x, fun x y h => ?_, fun x hx => ?_, by simp, fun x hx => hx, fun x hx => ?_, fun x hx => ⟨x, hx, .inl rfl⟩⟩
  · rw [← rf_of e, bareF_rf] at hy
    cases hy
  · rw [← rf_of e, bareF_rf]
    exact List.nodup_nil
  · rw [bareF_rf] at h
    cases h
  · rw [List.mem_singleton.mp hx]
    exact List.mem_cons_self
  · rw [List.mem_singleton.mp hx]
    refine ⟨[(n, none)], ⟨by simp, by simp, fun x p hx => .inl (Prod.mk.inj (List.mem_singleton.mp hx)), fun q hq x hx => ?_, fun x hx => .inl (by simpa using hx)⟩⟩
    rw [bareF_rf] at hx
    cases hx
end
end WP
namespace WP
open PySem L2 PySem.Spec PyProof.Rows
theorem call_tuple_ofK {X : Cx} {K : PySem.W.Frag} (h : X.K = K) : CallR X (.type "tuple") (fun xs H Q => ∃ p ys, xs = [.ref p] ∧ ((SqL K H p ys ∧ ∀ l, H l = none → Q (.ref l) (upd H l (.tup ys))) ∨ (SqT K H p ys ∧ Q (.ref p) H))) := by
  subst h
  exact call_tuple_of
inductive TupsR (H : Hp) : List Addr → List (Key × V) → Prop
  | nil : TupsR H [] []
  | cons {a : Addr} {k : Key} {v : V} {as : List Addr} {kvs : List (Key × V)} : H a = some (.tup [kV k, v]) → TupsR H as kvs → TupsR H (a :: as) ((k, v) :: kvs)
section
variable {K : PySem.W.Frag} {H H' : Hp} {as bs : List Addr} {kvs kvs' : List (Key × V)} {fs fs' : List (Str × FileD)}
theorem TupsR.same (h : TupsR H as kvs) (s : Same H H') : TupsR H' as kvs := by
  induction h with
  | nil => exact .nil
  | cons h _ ih => exact .cons (s _ _ h) ih
theorem TupsR.app (h : TupsR H as kvs) (h' : TupsR H bs kvs') : TupsR H (as ++ bs) (kvs ++ kvs') := by
  induction h with
  | nil => exact h'
  | cons h _ ih => exact .cons h ih
theorem TupsR.len (h : TupsR H as kvs) : as.length = kvs.length := by
  induction h with
  | nil => rfl
  | cons h _ ih => simp [ih]
theorem TupsR.paired (h : TupsR H as kvs) : Paired (fun p kv => SqT K H p [kV kv.1, kv.2]) as kvs := by
  induction h with
  | nil => exact .nil
  | cons h _ ih => exact .cons (SqT.of h) ih
theorem merge_app : ∀ (b a : List (Key × V)), ((a ++ b).map (·.1)).Nodup → mergeK a b = a ++ b
  | [], a, _ => (List.append_nil a).symm
  | (k, v) :: r, a, nd => by
    have hk : valV a k = none := val_none fun p hp e => by
      rw [List.map_append, List.nodup_append] at nd
      exact nd.2.2 p.1 (List.mem_map.mpr ⟨p, hp, rfl⟩) k (by simp) e
    rw [mergeK_new hk, merge_app r (a ++ [(k, v)]) (by rw [List.append_assoc]; exact nd), List.append_assoc]
    rfl
theorem merge_nd (h : (kvs.map (·.1)).Nodup) : mergeK [] kvs = kvs := by
  have := merge_app kvs [] h
  exact this
inductive RefsR (H : Hp) : List (Key × V) → List (Str × FileD) → Prop
  | nil : RefsR H [] []
  | cons {n : Str} {r : Addr} {f : FileD} {kvs : List (Key × V)} {fs : List (Str × FileD)} : H r = some (.lst (f.refers.map V.str)) → RefsR H kvs fs → RefsR H ((.inr n, .ref r) :: kvs) ((n, f) :: fs)
theorem RefsR.same (h : RefsR H kvs fs) (s : Same H H') : RefsR H' kvs fs := by
  induction h with
  | nil => exact .nil
  | cons h _ ih => exact .cons (s _ _ h) ih
theorem RefsR.app (h : RefsR H kvs fs) (h' : RefsR H kvs' fs') : RefsR H (kvs ++ kvs') (fs ++ fs') := by
  induction h with
  | nil => exact h'
  | cons h _ ih => exact .cons h ih
theorem RefsR.putd {p : Addr} {kv : List (Key × V)} {o : HO} (h : RefsR H kvs fs) (hp : H p = some (.dK kv)) : RefsR (upd H p o) kvs fs := by
  induction h with
  | nil => exact .nil
  | cons h _ ih => exact .cons (by rw [upd_ne (ne_of h hp (by intro z; cases z))]; exact h) ih
theorem RefsR.keys (h : RefsR H kvs fs) : kvs.map (·.1) = (fs.map (·.1)).map Sum.inr := by
  induction h with
  | nil => rfl
  | cons h _ ih => simp [ih]
theorem RefsR.get (h : RefsR H kvs fs) {n : Str} {f : FileD} (e : lkF fs n = some f) : ∃ r, valV kvs (.inr n) = some (.ref r) ∧ H r = some (.lst (f.refers.map V.str)) := by
  induction h with
  | nil => cases e
  | @cons m r g kvs fs h _ ih =>
    by_cases z : m = n
    · subst z
      rw [lkF_hit (fs := fs)] at e
      cases e
      exact ⟨r, valV_pos rfl, h⟩
    · rw [lkF_skip z] at e
      obtain ⟨u, h1, h2⟩ := ih e
      exact ⟨u, by rw [valV_neg (fun q => z (Sum.inr.inj q))]; exact h1, h2⟩
/-- another list for one file -/
theorem RefsR.put {a m : Str} {q : Addr} {f : FileD} (h : RefsR H kvs fs) (nd : (fs.map (·.1)).Nodup) (e : lkF fs a = some f) (hq : H q = some (.lst ((f.refers ++ [m]).map V.str))) : RefsR H (putK kvs (.inr a) (.ref q)) (addRef fs a m) := by
  have key : ∀ {kvs : List (Key × V)} {fs : List (Str × FileD)}, RefsR H kvs fs → (∀ g, lkF fs a = some g → g = f) → (fs.map (·.1)).Nodup → RefsR H (kvs.map fun kv => if kv.1 = .inr a then (kv.1, .ref q) else kv) (addRef fs a m) := by
    intro kvs fs h
    induction h with
    | nil => intro _ _; exact .nil
    | @cons n r g kvs fs h _ ih =>
      intro hu nd
      rw [List.map_cons, List.nodup_cons] at nd
      have e2 : addRef ((n, g) :: fs) a m = (if n = a then (n, { g with refers := g.refers ++ [m] }) else (n, g)) :: addRef fs a m := rfl
      rw [List.map_cons, e2]
      by_cases z : n = a
      · have hg : g = f := hu g (by rw [z]; exact lkF_hit (fs := fs))
        rw [if_pos (by rw [z]), if_pos z]
        refine .cons (by rw [hg]; exact hq) (ih (fun g' e' => ?_) nd.2)
        exact absurd (by rw [z]; exact lkF_key.mpr ⟨g', e'⟩) nd.1
      · rw [if_neg (fun q => z (Sum.inr.inj q)), if_neg z]
        exact .cons h (ih (fun g' e' => hu g' (by rw [lkF_skip z]; exact e')) nd.2)
  have := key h (fun g e' => by rw [e] at e'; exact (Option.some.inj e').symm) nd
  unfold putK
  rw [if_pos]
  · exact this
  · obtain ⟨r, h1, _⟩ := h.get e
    rw [valV_any, h1]
    rfl
end
theorem RefsR.small {H : Hp} {kvs : List (Key × V)} {fs : List (Str × FileD)} (h : RefsR H kvs fs) (ok : FsOk fs) : kvs.length < sizeLine := by
  have := congrArg List.length h.keys
  rw [List.length_map, List.length_map, List.length_map] at this
  have := ok.few
  rw [sizeLine_eq]
  omega
theorem bareF_keys (ns : List Str) : (bareF ns).map (·.1) = ns := by
  unfold bareF
  rw [List.map_map]
  exact List.map_id _
def fr (H G : Hp) : Hp := fun b => match H b with | some _ => none | none => G b
theorem fr_at {H G : Hp} {b : Addr} (h : H b = none) : fr H G b = G b := by unfold fr; rw [h]
theorem fr_of {H G : Hp} {b : Addr} {o : HO} (h : fr H G b = some o) : H b = none ∧ G b = some o := by
  unfold fr at h
  cases e : H b with
  | none => rw [e] at h; exact ⟨rfl, h⟩
  | some u => rw [e] at h; cases h
theorem fr_mono {H G G' : Hp} (s : Same G G') : Same (fr H G) (fr H G') := fun b o e => by
  obtain ⟨h1, h2⟩ := fr_of e
  rw [fr_at h1]
  exact s _ _ h2
theorem fr_upd {H G : Hp} {p : Addr} {o : HO} (h : H p = none) : fr H (upd G p o) = upd (fr H G) p o := by
  funext b
  by_cases hb : b = p
  · rw [hb, fr_at h, upd_same, upd_same]
  · rw [upd_ne hb]
    unfold fr
    rw [upd_ne hb]
theorem fr_hd2 {d w c : Addr} {B : Int} {H G : Hp} (D : Dr d w c B H) : Same (fr H G) (hd2 d w G) := fun b o e => by
  obtain ⟨h1, h2⟩ := fr_of e
  obtain ⟨n1, n2, _⟩ := D.off h1
  exact hd2_mk h2 n1 n2
theorem fr_sub {H G : Hp} : Same (fr H G) G := fun b o e => (fr_of e).2
theorem none_back {H G : Hp} {b : Addr} (s : Same H G) (h : G b = none) : H b = none := by
  cases e : H b with
  | none => rfl
  | some u => rw [s _ _ e] at h; cases h
theorem cut_to {xs : List V} {n : Nat} (h : n ≤ xs.length) : cutV xs none (some (n : Int)) = xs.take n := by
  unfold cutV
  simp only [HT.sIx]
  rw [if_neg (by omega), List.drop_zero]
  congr 1
  omega
def spLinks (K : PySem.W.Frag) : Sp := fun vs H Q _ => ∃ (d w c a : Addr) (B : Int) (ns : List Str), vs = [.ref d, .ref a] ∧ Dr d w c B H ∧ B ≤ 2 ^ 38 ∧ SqL K (hd2 d w H) a (ns.map V.str) ∧ ns ≠ [] ∧ ns.length ≤ 8 ∧ ns.Nodup ∧ (∀ x ∈ ns, isNameS x = true) ∧
  ∀ (T p r : Addr) (kvs : List (Key × V)) (fs : List (Str × FileD)) (roots : List Str) H', Ds d w c (B + 40) H H' → hd2 d w H' T = some (.tup [.ref p, .ref r]) → hd2 d w H' p = some (.dK kvs) → RefsR (hd2 d w H') kvs fs → hd2 d w H' r = some (.lst (roots.map V.str)) → roots.length ≤ 8 → LInv ns ns fs roots → Q (.ref T) H'
end WP
namespace WP
open PySem L2
section
variable {K : PySem.W.Frag} {H H' : Hp} {kvs kvs' : List (Key × V)} {fs fs' : List (Str × FileD)}
theorem PagesR.app (h : PagesR K H kvs fs) (h' : PagesR K H kvs' fs') : PagesR K H (kvs ++ kvs') (fs ++ fs') := by
  induction h with
  | nil => exact h'
  | cons a _ ih => exact .cons a ih
theorem fs_at {ns : List Str} (e : fs.map (·.1) = ns) (nd : ns.Nodup) {i : Nat} {n : Str} (h : ns[i]? = some n) : ∃ f, fs[i]? = some (n, f) ∧ lkF fs n = some f := by
  rw [← e, List.getElem?_map] at h
  cases e2 : fs[i]? with
  | none => rw [e2] at h; cases h
  | some x =>
    rw [e2] at h
    obtain ⟨m, f⟩ := x
    cases h
    refine ⟨f, rfl, ?_⟩
    have hm : (m, f) ∈ fs := List.mem_of_getElem? e2
    rw [← e] at nd
    clear e e2
    induction fs with
    | nil => cases hm
    | cons y r ih =>
      obtain ⟨k, g⟩ := y
      rw [List.map_cons, List.nodup_cons] at nd
      rcases List.mem_cons.mp hm with h1 | h1
      · cases h1
        exact lkF_hit (fs := r)
      · rw [lkF_skip]
        · exact ih nd.2 h1
        · intro z
          exact nd.1 (List.mem_map.mpr ⟨_, h1, z.symm⟩)
theorem take_at {α : Type} {l : List α} {i : Nat} {x : α} (h : l[i]? = some x) : l.take (i + 1) = l.take i ++ [x] := by
  rw [List.take_succ, h]
  rfl
end
theorem inV_bl (x : Bool) (xs : List Bool) : inV (.bl x) (xs.map V.bl) = decide (x ∈ xs) := by
  induction xs with
  | nil => rfl
  | cons y r ih =>
    rw [List.map_cons]
    unfold inV at ih ⊢
    rw [List.any_cons, ih]
    cases x <;> cases y <;> simp [eqV]
theorem flat_bls (xs : List Bool) : (xs.map V.bl).all flatV = true := by
  rw [List.all_map]
  exact List.all_eq_true.mpr fun _ _ => rfl
end WP
namespace WP
open PySem L2 PySem.Spec PyProof.Rows
open PySem.Froz (SD sObj TxOk)
theorem vals_strs : ∀ {vs : List Value}, (∀ v ∈ vs, ∃ x t, v = Value.str x t) → ∃ ws : List Str, StrsAre vs ws
  | [], _ => ⟨[], .nil⟩
  | v :: r, h => by
    obtain ⟨x, t, rfl⟩ := h v List.mem_cons_self
    obtain ⟨ws, hw⟩ := vals_strs fun u hu => h u (List.mem_cons_of_mem _ hu)
    exact ⟨x :: ws, .cons x t hw⟩
theorem strsAre_mem : ∀ {vs : List Value} {ws : List Str}, StrsAre vs ws → ∀ x, x ∈ ws ↔ ∃ t, Value.str x t ∈ vs
  | _, _, .nil => fun x => ⟨fun h => (by cases h), fun ⟨t, h⟩ => (by cases h)⟩
  | _, _, .cons y u h => fun x => by
    rw [List.mem_cons, strsAre_mem h x]
    constructor
    · rintro (rfl | ⟨t, ht⟩)
      · exact ⟨u, List.mem_cons_self⟩
      · exact ⟨t, List.mem_cons_of_mem _ ht⟩
    · rintro ⟨t, ht⟩
      rcases List.mem_cons.mp ht with e | e
      · cases e
        exact .inl rfl
      · exact .inr ⟨t, e⟩
theorem strsAre_len : ∀ {vs : List Value} {ws : List Str}, StrsAre vs ws → vs.length = ws.length
  | _, _, .nil => rfl
  | _, _, .cons y u h => congrArg (· + 1) (strsAre_len h)
/-- a list that holds the different ones and is no longer than their number has each once -/
theorem nodup_len {ys ws : List Str} (h1 : ys.Nodup) (h2 : ∀ x, x ∈ ws ↔ x ∈ ys) (h3 : ws.length = ys.length) : ws.Nodup :=
  (nodup_iff h1 fun x => (h2 x).symm).mp h3.symm
def rSortSS (P : Program) (w : World) : List V → Hp → VK → Prop := fun vs H Q => ∃ (a : Addr) (l : List Str), vs = [.ref a] ∧ H a = some (SetS P w a l) ∧ l.length < 64 ∧
  ∀ (ys : List Str) (p : Addr), ys.Nodup → (∀ x, x ∈ ys ↔ x ∈ l) → sortedS ys = true → H p = none → Q (.ref p) (upd H p (.lst (ys.map V.str)))
theorem cr_sortSS {X : Cx} (hc : X.calm = true) : CallR X (.builtin "sorted") (rSortSS X.prog X.w) := by
  intro pins s σ H vs us Q I r h
  obtain ⟨a, l, rfl, ha, h64, q⟩ := h
  rw [Vals.ref1 r]
  obtain ⟨⟨ys, ⟨es, ep, t⟩, y1, y2, ho, F, ris, led⟩, _, _⟩ := I.hok a _ ha
  have lys : ys.length ≤ l.length := pigeon ys l y1 fun x hx => (y2 x).mp hx
  have hsz : es.size = ys.length := F.sz
  have hel : ElemsOf (strKind X.prog X.w) es.toList := F.el
  have hmem : ∀ k : Str, k ∈ ys ↔ ∃ e ∈ es.toList, (strKind X.prog X.w).is k e.2 = true := F.mem
  refine Calls.call_function_entry kind_sorted plain_sorted entry_sorted (args_sorted1 _) ?_
  unfold Builtin.«sorted»
  refine wpAny_bind (m := checkCount "sorted" 1 1 _) (wpAny_pure ?_)
  refine wpAny_bind (collect_set (A := X.A.in1) (I.ok.hd hc) ⟨_, ho, rfl, rfl⟩ F.fit (by show es.size < scanBound; unfold scanBound; omega) ris led fun s1 out k1 hz g1 o1 pm => ?_)
  obtain ⟨ws, hS⟩ : ∃ ws, StrsAre out ws := vals_strs fun v hv => by
    obtain ⟨e, he, rfl⟩ := List.mem_map.mp (pm.mem_iff.mp hv)
    obtain ⟨⟨k, z1, _⟩, _⟩ := hel e he
    obtain ⟨tk, e1⟩ := Value.isStrOf_shape (x := k) (v := e.2) z1
    exact ⟨k, tk, e1⟩
  have hol : out.length = ys.length := by rw [pm.length_eq, List.length_map, Array.length_toList, hsz]
  have hwm : ∀ x, x ∈ ws ↔ x ∈ ys := fun x => by
    rw [strsAre_mem hS, hmem]
    constructor
    · rintro ⟨tk, ht⟩
      obtain ⟨e, he, z⟩ := List.mem_map.mp (pm.mem_iff.mp ht)
      refine ⟨e, he, ?_⟩
      rw [z]
      exact strKind_is _ _ _ _
    · rintro ⟨e, he, z⟩
      obtain ⟨tk, e1⟩ := Value.isStrOf_shape (x := x) (v := e.2) z
      exact ⟨tk, pm.mem_iff.mpr (List.mem_map.mpr ⟨e, he, e1⟩)⟩
  have hwl : ws.length = ys.length := by rw [← strsAre_len hS, hol]
  have hwn := nodup_len y1 hwm hwl
  refine wpAny_bind (wpAny_newList ?_ (by rw [hol, sizeLine_eq]; omega))
  have hoL : (s1.heap.push (seqObj "list" out.toArray 0)).get? s1.heap.objs.size = some (seqObj "list" out.toArray 0) := Heap.get?_push_size _ rfl
  refine wpAny_bind (wpAny_holding (wpAny_call_entry slot_list_sort ⟨_, hoL, rfl⟩ entry_list_sort
    (list_sort_treeK strKind_oneLt (s := { s1 with heap := s1.heap.push (seqObj "list" out.toArray 0) }) hoL hS.keysOf (fun v₁ v₂ rest e => keyKind_strs (by rw [← e]; exact hS)) (by rw [hol]; omega) fun st' hp hs => ⟨_, rfl, ?_⟩)
    (args_list_sort _)))
  obtain ⟨zs, z1, z2, z3⟩ := sorted_out_str hS hp hs
  obtain ⟨e', he'⟩ := sortedHeap_at (vs := out) (out := (arrOf st').map (·.2)) hoL
  have hlen : (zs.map V.str).length ≤ sizeLine := by
    rw [List.length_map, z2.length_eq, hwl, sizeLine_eq]
    omega
  have hn : H s1.heap.objs.size = none := I.hok.fresh hz
  have kept : ∀ b o, s.heap.get? b = some o → (sortedHeap (s1.heap.push (seqObj "list" out.toArray 0)) s1.heap.objs.size out ((arrOf st').map (·.2))).get? b = some o := fun b u e => by
    have q := k1 b u e
    have hlt := Heap.lt_size q
    rw [sortedHeap_old (Nat.ne_of_lt hlt) (by rw [size_push']; exact Nat.lt_succ_of_lt hlt)]
    exact Heap.get?_push_of_some _ q
  have J : Inv X pins σ (upd H s1.heap.objs.size (.lst (zs.map V.str))) { s with heap := sortedHeap (s1.heap.push (seqObj "list" out.toArray 0)) s1.heap.objs.size out ((arrOf st').map (·.2)), gens := s1.gens, drawn := s1.drawn, toks := s1.toks } :=
    I.call (ch := []) (Un.laid kept hz hn) (I.hok.laid kept hz ⟨hlen, ((arrOf st').map (·.2)).toList, e', vals_of_strs z1, by rw [Array.toArray_toList]; exact he'⟩) (by rw [g1]; exact I.bare) (fun _ z => nomatch z)
  refine wpAny_pure ⟨_, rfl, .ref s1.heap.objs.size, upd H s1.heap.objs.size (.lst (zs.map V.str)), ?_, rfl, q zs _ (z2.nodup_iff.mpr hwn) (fun x => by rw [z2.mem_iff, hwm, y2]) z3 hn⟩
  cases s1
  cases s
  cases o1
  exact J
end WP
namespace WP
open PySem L2 PySem.Spec PyProof.Rows
structure MdD where
  files : List (Str × FileD)
  entries : List Str
  counts : Str
structure MdOk (m : MdD) : Prop where
  ok : FsOk m.files
  pos : m.files ≠ []
  no : ∀ n, ¬ Rc m.files n n
  fine : ∀ n f, (n, f) ∈ m.files → sortedS f.refers = true ∧ isTicksV (optI f.hold) = true ∧ ∀ k ∈ f.keeps, isTicksV (optI k) = true
  kl : ∃ c, c ≤ 4 ∧ ∀ n f, (n, f) ∈ m.files → f.keeps.length = c
  epos : m.entries ≠ []
  end_ : m.entries.Nodup
  eso : sortedS m.entries = true
  epl : ∀ e ∈ m.entries, plainF m.files (.str e) = true
  tr : ∀ e ∈ m.entries, ∃ t, TreeOf m.files e t
  ct : m.counts = "own" ∨ m.counts = "whole"
/-- the page of a file: (naming, refers, hold, keeps) -/
def PgM (K : PySem.W.Frag) (H : Hp) (v : V) (f : FileD) : Prop := ∃ a r k, v = .ref a ∧ H a = some (.tup [.str (namS f.own), .ref r, optI f.hold, .ref k]) ∧ H r = some (.tup (f.refers.map V.str)) ∧ H k = some (.tup (f.keeps.map optI))
theorem PgM.same {K : PySem.W.Frag} {H H' : Hp} {v : V} {f : FileD} (h : PgM K H v f) (s : Same H H') : PgM K H' v f := by
  obtain ⟨a, r, k, e, h1, h2, h3⟩ := h
  exact ⟨a, r, k, e, s _ _ h1, s _ _ h2, s _ _ h3⟩
theorem PgM.put {K : PySem.W.Frag} {H : Hp} {v : V} {f : FileD} {p : Addr} {kv : List (Key × V)} {o : HO} (h : PgM K H v f) (hp : H p = some (.dK kv)) : PgM K (upd H p o) v f := by
  obtain ⟨a, r, k, e, h1, h2, h3⟩ := h
  have n : ∀ {b : Addr} {xs : List V}, H b = some (.tup xs) → b ≠ p := fun hb z => by rw [z, hp] at hb; cases hb
  exact ⟨a, r, k, e, by rw [upd_ne (n h1)]; exact h1, by rw [upd_ne (n h2)]; exact h2, by rw [upd_ne (n h3)]; exact h3⟩
inductive PgsM (K : PySem.W.Frag) (H : Hp) : List (Key × V) → List (Str × FileD) → Prop
  | nil : PgsM K H [] []
  | cons {n : Str} {v : V} {f : FileD} {kvs : List (Key × V)} {fs : List (Str × FileD)} : PgM K H v f → PgsM K H kvs fs → PgsM K H ((.inr n, v) :: kvs) ((n, f) :: fs)
section
variable {K : PySem.W.Frag} {H H' : Hp} {kvs kvs' : List (Key × V)} {fs fs' : List (Str × FileD)}
theorem PgsM.same (h : PgsM K H kvs fs) (s : Same H H') : PgsM K H' kvs fs := by
  induction h with
  | nil => exact .nil
  | cons a _ ih => exact .cons (a.same s) ih
theorem PgsM.app (h : PgsM K H kvs fs) (h' : PgsM K H kvs' fs') : PgsM K H (kvs ++ kvs') (fs ++ fs') := by
  induction h with
  | nil => exact h'
  | cons a _ ih => exact .cons a ih
theorem PgsM.keys (h : PgsM K H kvs fs) : kvs.map (·.1) = (fs.map (·.1)).map Sum.inr := by
  induction h with
  | nil => rfl
  | cons a _ ih => rw [List.map_cons, List.map_cons, List.map_cons, ih]
theorem PgsM.pages (h : PgsM K H kvs fs) : PagesR K H kvs fs := by
  induction h with
  | nil => exact .nil
  | cons a _ ih =>
    obtain ⟨a, r, k, e, h1, h2, h3⟩ := a
    exact .cons ⟨a, r, _, _, e, SqT.of h1, .inr (SqT.of h2)⟩ ih
theorem PgsM.put {p : Addr} {kv : List (Key × V)} {o : HO} (h : PgsM K H kvs fs) (hp : H p = some (.dK kv)) : PgsM K (upd H p o) kvs fs := by
  induction h with
  | nil => exact .nil
  | cons a _ ih => exact .cons (a.put hp) ih
theorem PgsM.at (h : PgsM K H kvs fs) : ∀ {i : Nat} {k : Key} {v : V}, kvs[i]? = some (k, v) → ∃ n f, fs[i]? = some (n, f) ∧ k = .inr n := by
  induction h with
  | nil => intro i k v e; cases e
  | @cons n u f kvs fs a _ ih =>
    intro i k v e
    cases i with
    | zero => cases e; exact ⟨n, f, rfl, rfl⟩
    | succ j => exact ih e
theorem PgsM.get (h : PgsM K H kvs fs) {n : Str} {f : FileD} (e : lkF fs n = some f) : ∃ v, valV kvs (.inr n) = some v ∧ PgM K H v f := by
  induction h with
  | nil => cases e
  | @cons m v g kvs fs a b ih =>
    by_cases hm : m = n
    · subst hm
      rw [lkF_hit (fs := fs)] at e
      cases e
      exact ⟨v, valV_pos rfl, a⟩
    · rw [lkF_skip hm] at e
      obtain ⟨u, h1, h2⟩ := ih e
      exact ⟨u, by rw [valV_neg (fun z => hm (Sum.inr.inj z))]; exact h1, h2⟩
end
def MdAt (K : PySem.W.Frag) (H : Hp) (v : V) (m : MdD) : Prop := ∃ (a dF eT : Addr) (kvs : List (Key × V)), v = .ref a ∧ H a = some (.dK [((.inr "files" : Key), .ref dF), (.inr "entries", .ref eT), (.inr "counts", .str m.counts)]) ∧ H dF = some (.dK kvs) ∧ PgsM K H kvs m.files ∧ H eT = some (.tup (m.entries.map V.str))
theorem MdAt.same {K : PySem.W.Frag} {H H' : Hp} {v : V} {m : MdD} (h : MdAt K H v m) (s : Same H H') : MdAt K H' v m := by
  obtain ⟨a, dF, eT, kvs, e, h1, h2, h3, h4⟩ := h
  exact ⟨a, dF, eT, kvs, e, s _ _ h1, s _ _ h2, h3.same s, s _ _ h4⟩
section
variable {fs gs : List (Str × FileD)}
theorem Rc.to (h : ∀ n x, x ∈ rf fs n → x ∈ rf gs n) {a b : Str} (r : Rc fs a b) : Rc gs a b := by
  induction r with
  | one h1 => exact .one (h _ _ h1)
  | more _ h1 ih => exact .more ih (h _ _ h1)
theorem TreeOf.to (h : ∀ n x, x ∈ rf fs n ↔ x ∈ rf gs n) {e : Str} {t : List (Str × Option Str)} (T : TreeOf fs e t) : TreeOf gs e t :=
  ⟨T.nd, T.root, fun x p hx => (T.par x p hx).imp id fun ⟨q, h1, h2, h3⟩ => ⟨q, h1, h2, (h _ _).mp h3⟩, fun q hq x hx => T.chi q hq x ((h _ _).mpr hx), fun x hx => (T.rc x hx).imp id fun r => r.to fun n x => (h n x).mp⟩
end
/-- what is drawn is a model -/
theorem MdOk.of {ns roots ss es : List Str} {fs0 fs : List (Str × FileD)} {many : Nat} {ct : Str} (I : LInv ns ns fs0 roots) (hnd : ns.Nodup) (ks : fs.map (·.1) = ss) (pm : ss.Perm ns) (hm : many ≤ 4)
    (hf : ∀ n f, (n, f) ∈ fs → f.refers.Perm (rf fs0 n) ∧ sortedS f.refers = true ∧ isTicksV (optI f.hold) = true ∧ (∀ k ∈ f.keeps, isTicksV (optI k) = true) ∧ f.keeps.length = many ∧ (n ∈ es → f.own = false))
    (epos : es ≠ []) (end_ : es.Nodup) (eso : sortedS es = true) (esub : ∀ e ∈ es, e ∈ ns) (hct : ct = "own" ∨ ct = "whole") : MdOk ⟨fs, es, ct⟩ := by
  have fnd : (fs.map (·.1)).Nodup := by rw [ks]; exact pm.nodup_iff.mpr hnd
  have fk : ∀ n, n ∈ fs.map (·.1) ↔ n ∈ fs0.map (·.1) := fun n => by rw [ks, pm.mem_iff, I.keys]
  have rr : ∀ n, (rf fs n).Perm (rf fs0 n) := fun n => by
    cases e : lkF fs n with
    | some f =>
      rw [rf_of e]
      exact (hf n f (lkF_mem e)).1
    | none =>
      have h0 : lkF fs0 n = none := lkF_none fun z => by
        obtain ⟨f, hf⟩ := lkF_key.mp ((fk n).mpr z)
        rw [e] at hf
        cases hf
      unfold rf
      rw [e, h0]
  have rm : ∀ n x, x ∈ rf fs n ↔ x ∈ rf fs0 n := fun n x => (rr n).mem_iff
  refine ⟨⟨?_, fnd, fun n hn => I.ok.nam n ((fk n).mp hn), fun n f e m hm => ?_, fun n f e => ?_⟩, fun z => ?_, fun n r => I.no n (r.to fun n x => (rm n x).mp), fun n f h => ⟨(hf n f h).2.1, (hf n f h).2.2.1, (hf n f h).2.2.2.1⟩, ⟨many, hm, fun n f h => (hf n f h).2.2.2.2.1⟩, epos, end_, eso, fun e he => ?_, fun e he => ?_, hct⟩
  · have h1 := congrArg List.length ks
    have h2 := pm.length_eq
    have h3 := congrArg List.length I.keys
    rw [List.length_map] at h1 h3
    have h4 := I.ok.few
    show fs.length ≤ 8
    omega
  · show m ∈ fs.map (·.1)
    have h1 : m ∈ rf fs n := by rw [rf_of e]; exact hm
    exact (fk m).mpr (I.ok.rf_mem ((rm n m).mp h1))
  · have h1 := (rr n).nodup_iff.mpr (I.ok.rf_nd n)
    rw [rf_of e] at h1
    exact h1
  · have z : fs = [] := z
    obtain ⟨e, he⟩ := List.exists_mem_of_ne_nil es epos
    have := pm.mem_iff.mpr (esub e he)
    rw [← ks, z] at this
    cases this
  · have h1 : e ∈ fs.map (·.1) := by rw [ks, pm.mem_iff]; exact esub e he
    obtain ⟨f, hfe⟩ := lkF_key.mp h1
    have := (hf e f (lkF_mem hfe)).2.2.2.2.2 he
    show (match lkF fs e with | some f => !f.own | none => false) = true
    rw [hfe]
    show (!f.own) = true
    rw [this]
    rfl
  · obtain ⟨t, T⟩ := I.all (esub e he)
    exact ⟨t, T.to fun n x => (rm n x).symm⟩
theorem putK_fresh {kvs : List (Key × V)} {k : Key} {v : V} (h : k ∉ kvs.map (·.1)) : putK kvs k v = kvs ++ [(k, v)] := by
  unfold putK
  rw [if_neg]
  intro z
  obtain ⟨e, he, z⟩ := List.any_eq_true.mp z
  have z : e.1 = k := by simpa using z
  exact h (List.mem_map.mpr ⟨e, he, z⟩)
theorem te_use {ta : TE} {σ : L2.St} {H : Hp} {k : VK} (P : V → Hp → Prop) (h0 : ∀ k' : VK, (∀ v H', P v H' → k' v H') → ta σ H k') (h : ∀ v H', P v H' → k v H') : ta σ H k := h0 k h
def spModel (K : PySem.W.Frag) : Sp := fun vs H Q _ => ∃ (d w c : Addr) (B : Int) (n : Int), vs = [.ref d, .int n] ∧ Dr d w c B H ∧ B ≤ 2 ^ 37 ∧ 1 ≤ n ∧ n ≤ 8 ∧
  ∀ (v : V) (m : MdD) H', Ds d w c (B + 2000) H H' → MdAt K (hd2 d w H') v m → MdOk m → Q v H'
end WP
namespace WP
open PySem L2 PySem.Spec PyProof.Rows
def leS (x y : Str) : Prop := x.cps.toList ≤ y.cps.toList
theorem leS_of {x y : Str} (h : ltCps y.cps.toList x.cps.toList = false) : leS x y := by
  rw [ltCps_eq] at h
  exact of_decide_eq_false h
theorem leS.trans {x y z : Str} (h : leS x y) (h' : leS y z) : leS x z := List.le_trans h h'
theorem leS.anti {x y : Str} (h : leS x y) (h' : leS y x) : x = y := by
  have e := List.le_antisymm h h'
  obtain ⟨⟨a⟩⟩ := x
  obtain ⟨⟨b⟩⟩ := y
  have : a = b := e
  rw [this]
theorem rising_pw : ∀ (l : List Str) (p : Str), risingS p l = true → (p :: l).Pairwise leS
  | [], p, _ => List.pairwise_singleton _ _
  | x :: r, p, h => by
    have h' : (!ltCps x.cps.toList p.cps.toList && risingS x r) = true := h
    rw [Bool.and_eq_true, Bool.not_eq_true'] at h'
    have ih := rising_pw r x h'.2
    have px := leS_of h'.1
    refine List.pairwise_cons.mpr ⟨fun y hy => ?_, ih⟩
    rcases List.mem_cons.mp hy with rfl | hy
    · exact px
    · exact px.trans ((List.pairwise_cons.mp ih).1 y hy)
theorem sorted_pw : ∀ {l : List Str}, sortedS l = true → l.Pairwise leS
  | [], _ => .nil
  | x :: r, h => rising_pw r x h
theorem sorted_uniq {a b : List Str} (p : a.Perm b) (ha : sortedS a = true) (hb : sortedS b = true) : a = b := by
  have key : ∀ (a b : List Str), a.Perm b → a.Pairwise leS → b.Pairwise leS → a = b := by
    intro a
    induction a with
    | nil => intro b p _ _; exact p.nil_eq
    | cons x r ih =>
      intro b p ha hb
      cases b with
      | nil => exact absurd p.length_eq (by simp)
      | cons y t =>
        have hx := List.pairwise_cons.mp ha
        have hy := List.pairwise_cons.mp hb
        have e : x = y := by
          rcases List.mem_cons.mp (p.mem_iff.mp List.mem_cons_self) with h | h
          · exact h
          rcases List.mem_cons.mp (p.mem_iff.mpr (List.mem_cons_self (a := y) (l := t))) with h' | h'
          · exact h'.symm
          exact (hx.1 y h').anti (hy.1 x h)
        subst e
        rw [ih t (List.Perm.cons_inv p) hx.2 hy.2]
  exact key a b p (sorted_pw ha) (sorted_pw hb)
theorem namS_inj {a b : Bool} (h : namS a = namS b) : a = b := by
  cases a <;> cases b
  · rfl
  · exact absurd h (by decide)
  · exact absurd h (by decide)
  · rfl
theorem map_str_inj {a b : List Str} (h : a.map V.str = b.map V.str) : a = b := by
  induction a generalizing b with
  | nil => cases b with
    | nil => rfl
    | cons y t => cases h
  | cons x r ih => cases b with
    | nil => cases h
    | cons y t =>
      rw [List.map_cons, List.map_cons] at h
      injection h with h1 h2
      rw [V.str.inj h1, ih h2]
theorem map_opt_inj {a b : List (Option Int)} (h : a.map optI = b.map optI) : a = b := by
  induction a generalizing b with
  | nil => cases b with
    | nil => rfl
    | cons y t => cases h
  | cons x r ih => cases b with
    | nil => cases h
    | cons y t =>
      rw [List.map_cons, List.map_cons] at h
      injection h with h1 h2
      rw [optI_inj h1, ih h2]
theorem page_file {f g : FileD} (so : sortedS f.refers = true) (h : FileOf g (.str (namS f.own)) (f.refers.map V.str) (optI f.hold) (f.keeps.map optI)) : g = f := by
  obtain ⟨h1, ⟨ns, h2, h3⟩, h4, h5, h6⟩ := h
  have e1 := namS_inj (V.str.inj h1)
  have e2 : ns = f.refers := (map_str_inj h2).symm
  rw [e2] at h3
  have e3 := sorted_uniq h3 h4 so
  have e5 := optI_inj h5
  have e6 := map_opt_inj h6
  cases f
  cases g
  simp only at e1 e3 e5 e6
  rw [e1, e3, e5, e6]
theorem MdOk.file {m : MdD} (h : MdOk m) {n : Str} {f : FileD} (e : (n, f) ∈ m.files) : FileOk f := by
  obtain ⟨c, c4, hc⟩ := h.kl
  obtain ⟨h1, h2, h3⟩ := h.fine n f e
  have lk : lkF m.files n = some f := by
    obtain ⟨i, hi⟩ := List.mem_iff_getElem?.mp e
    obtain ⟨f', a1, a2⟩ := fs_at (fs := m.files) rfl h.ok.nd (i := i) (n := n) (by rw [List.getElem?_map, hi]; rfl)
    rw [hi] at a1
    cases a1
    exact a2
  refine ⟨h.ok.rnd n f lk, fun x hx => h.ok.nam x (h.ok.cl n f lk x hx), h1, by rw [hc n f e]; exact c4, ?_, h2, h3⟩
  have := (h.ok.two.rc2 n f lk).2
  omega
def mdL (fs : List (Str × FileD)) : List (Key × Option FileD) := fs.map fun p => (.inr p.1, some p.2)
theorem MdOk.keys {m : MdD} (h : MdOk m) : okKeys (mdL m.files) = true := by
  unfold okKeys mdL
  rw [Bool.and_eq_true, Bool.and_eq_true, decide_eq_true_eq, decide_eq_true_eq, List.length_map, List.all_map]
  refine ⟨⟨?_, h.ok.few⟩, List.all_eq_true.mpr fun x hx => h.ok.nam x.1 (List.mem_map.mpr ⟨x, hx, rfl⟩)⟩
  cases e : m.files with
  | nil => exact absurd e h.pos
  | cons a r => exact Nat.succ_le_succ (Nat.zero_le _)
section
variable {K : PySem.W.Frag} {H : Hp}
theorem any_opt (o : Option Int) : ∃ k, Any K H (optI o) k := by
  cases o with
  | none => exact ⟨.non, .non⟩
  | some i => exact ⟨.int, .int i⟩
theorem FVals.app {CF : Addr} {kvs kvs' : List (Key × V)} {l l' : List (Key × Option FileD)} (h : FVals K CF H kvs l) (h' : FVals K CF H kvs' l') : FVals K CF H (kvs ++ kvs') (l ++ l') := by
  induction h with
  | nil => exact h'
  | file a b _ ih => exact .file a b ih
  | other a b _ ih => exact .other a b ih
end
section
variable {K : PySem.W.Frag} {H : Hp} {p : Addr} {od : Obj} {kv : List (Key × V)} {o : HO}
theorem FileAt.unlk {CF : Addr} {v : V} {f : FileD} (h : FileAt K CF H v f) (hp : H p = some (.frz od (.dK kv))) : FileAt K CF (upd H p o) v f := by
  obtain ⟨a, dx, t1, t2, e, h1, h2, h3⟩ := h
  exact ⟨a, dx, t1, t2, e, by rw [upd_ne (fun e => by rw [e, hp] at h1; cases h1)]; exact h1, SqT.put h2 hp (fun _ z => by cases z) (fun _ _ z => by cases z), SqT.put h3 hp (fun _ z => by cases z) (fun _ _ z => by cases z)⟩
end
/-- the site of a model -/
structure SiteM (s : SiteD) (m : MdD) : Prop where
  ok : SiteOk s
  fs : s.files.Perm m.files
  es : s.trees.map (·.1) = m.entries
  ct : s.counts = m.counts
end WP
namespace WP
open PySem L2 PySem.Spec PyProof.Rows
theorem hid_none {H H' : Hp} {b : Addr} {u : HO} (h : H b = some u) (hd : isDL u = true) : hid H H' b = none := by
  unfold hid
  rw [h]
  simp only [hd, if_true]
theorem hid_hd2 {d w c : Addr} {B : Int} {H H' : Hp} (D : Dr d w c B H) : Same (hid H H') (hd2 d w H') := fun b u e => by
  obtain ⟨⟨r, t, e1, _⟩, ⟨ns, e2⟩, _⟩ := D
  refine hd2_mk (hid_sub _ _ e) (fun z => ?_) (fun z => ?_)
  · rw [z, hid_none e1 rfl] at e
    cases e
  · rw [z, hid_none e2 rfl] at e
    cases e
theorem SiteAt.kept {K : PySem.W.Frag} {CS CF : Addr} {d w c : Addr} {B : Int} {H H' : Hp} {v : V} {s : SiteD} (h : SiteAt K CS CF (hid H H') v s) (D : Dr d w c B H) : SiteAt K CS CF (hd2 d w H') v s := h.same (hid_hd2 D)
end WP
namespace WP
open PySem L2 PySem.Spec PyProof.Rows PySem.W Builtin
end WP
namespace WP
open PySem L2 PySem.Spec PyProof.Rows PySem.W Builtin
end WP
namespace WP
open PySem L2 PySem.Spec PyProof.Rows
end WP
namespace WP
open PySem L2 PySem.Spec PyProof.Rows PySem.W
structure Mn (P : Program) (w : World) (K : PySem.W.Frag) (mg : Str → Option Value) (base : Heap) (CX : CXT) (k : Nat) (C : Addr) (m : Str) (ps : List Str) (sp : Sp) : Prop where
  cl : Cls K C
  ex : ∃ f fd, Meth K C m f ∧ fnIn K f = true ∧ FnOk P w K mg base CX k f fd ps sp ∧ Binds K fd ps []
structure MthK (K : PySem.W.Frag) (C : Addr) (m qual : Str) (st : Stmt) : Prop where
  ex : ∃ f fd, Meth K C m f ∧ fnIn K f = true ∧ Fun K m qual st f fd
theorem MthK.mn {P : Program} {w : World} {K : PySem.W.Frag} {mg : Str → Option Value} {base : Heap} {CX : CXT} {k : Nat} {C : Addr} {m qual : Str} {st : Stmt} {ps : List Str} {sp : Sp} (Z : MthK K C m qual st) (cl : Cls K C) (hok : ∀ f fd, Fun K m qual st f fd → FnOk P w K mg base CX k f fd ps sp) (hbi : ∀ f fd, Fun K m qual st f fd → L2.Binds K fd ps []) : Mn P w K mg base CX k C m ps sp := by
  obtain ⟨f, fd, h1, h2, F⟩ := Z.ex
  exact ⟨cl, f, fd, h1, h2, hok f fd F, hbi f fd F⟩
def hasF (s : SiteD) : V → Bool
  | .str z => (lkF s.files z).isSome
  | _ => false
def fileOf (s : SiteD) : V → Option FileD
  | .str z => lkF s.files z
  | _ => none
/-- the error tells the value -/
def NoF (CN : Addr) (H : Hp) (E : XK) (x : V) : Prop := ∀ d H', Same H H' → H d = none → H' d = some (.xd [("name", x)]) → E (.ref CN) (some d) H'
def AnyN (K : PySem.W.Frag) (H : Hp) (x : V) : Prop := ∃ k, Any K H x k ∧ ∀ z, x = .str z → z.length ≤ sizeLine
theorem AnyN.same {K : PySem.W.Frag} {H H' : Hp} {x : V} (h : AnyN K H x) (s : Same H H') : AnyN K H' x := by
  obtain ⟨k, h1, h2⟩ := h
  exact ⟨k, h1.same s, h2⟩
end WP
namespace WP
open PySem L2 PySem.Spec PyProof.Rows
def rReprE : List V → Hp → VK → Prop := fun xs H Q => ∃ a, xs = [.ref a] ∧ H a = some (.dK []) ∧ Q (.str (PyData.shown (.dict []))) H
def rReprX (K : PySem.W.Frag) : List V → Hp → VK → Prop := fun xs H Q => rRepr K xs H Q ∨ rReprE xs H Q
def Shown (K : PySem.W.Frag) (H : Hp) (v : V) (z : Str) : Prop := ∀ Q : VK, Q (.str z) H → rReprX K [v] H Q
theorem shown_d {K : PySem.W.Frag} {H : Hp} {v : V} {d : PyData} (h : Dp K H v d) (h1 : d.showable = true) (h2 : d.hasDict = false) (h3 : d.depth ≤ 40) (h4 : d.shown.length ≤ sizeLine) : Shown K H v d.shown := fun Q q => .inl ⟨v, d, rfl, h, h1, h2, h3, h4, q⟩
theorem shown_e {K : PySem.W.Frag} {H : Hp} {a : Addr} (h : H a = some (.dK [])) : Shown K H (.ref a) (PyData.shown (.dict [])) := fun Q q => .inr ⟨a, rfl, h, q⟩
/-- numbers of ticks, or None -/
def optP : Option Int → PyData
  | none => .none
  | some i => .int i
end WP
namespace WP
open PySem L2 PySem.Spec PyProof.Rows LamX
theorem lkF_of_mem : ∀ {fs : List (Str × FileD)} {n : Str} {f : FileD}, (fs.map (·.1)).Nodup → (n, f) ∈ fs → lkF fs n = some f
  | [], _, _, _, h => by cases h
  | (m, g) :: r, n, f, nd, h => by
    have nd2 := List.nodup_cons.mp (show (m :: r.map (·.1)).Nodup from nd)
    rcases List.mem_cons.mp h with h | h
    · cases h
      exact lkF_hit (fs := r)
    · have hm : m ≠ n := fun e => nd2.1 (by rw [e]; exact List.mem_map.mpr ⟨(n, f), h, rfl⟩)
      rw [lkF_skip hm]
      exact lkF_of_mem nd2.2 h
theorem SiteM.lk {s : SiteD} {m : MdD} (h : SiteM s m) (ok : MdOk m) (n : Str) : lkF s.files n = lkF m.files n := lkF_perm ok.ok.nd h.fs n
def OddK (H : Hp) (v : V) : Prop := v = .non ∨ v = .int 5 ∨ (v = .str "" ∨ v = .str "Page" ∨ v = .str "abcdefghi") ∨ ∃ a, v = .ref a ∧ (H a = some (.tup []) ∨ H a = some (.lst [.str "a"]) ∨ H a = some (.dK []))
section
variable {K : PySem.W.Frag} {H H' : Hp} {v : V}
theorem OddK.ext (h : OddK H v) (s : ExtN H H') : OddK H' v := by
  rcases h with h | h | h | ⟨a, e, h | h | h⟩
  · exact .inl h
  · exact .inr (.inl h)
  · exact .inr (.inr (.inl h))
  · exact .inr (.inr (.inr ⟨a, e, .inl (s _ _ h fun _ z => by cases z)⟩))
  · exact .inr (.inr (.inr ⟨a, e, .inr (.inl (s _ _ h fun _ z => by cases z))⟩))
  · exact .inr (.inr (.inr ⟨a, e, .inr (.inr (s _ _ h fun _ z => by cases z))⟩))
theorem OddK.same (h : OddK H v) (s : Same H H') : OddK H' v := h.ext (.of s)
theorem OddK.any (h : OddK H v) : AnyN K H v := by
  rcases h with rfl | rfl | (rfl | rfl | rfl) | ⟨a, rfl, h | h | h⟩
  · exact ⟨_, .non, fun z e => by cases e⟩
  · exact ⟨_, .int _, fun z e => by cases e⟩
  · exact ⟨_, .str _, fun z e => by cases e; decide⟩
  · exact ⟨_, .str _, fun z e => by cases e; decide⟩
  · exact ⟨_, .str _, fun z e => by cases e; decide⟩
  · exact ⟨_, .tup h, fun z e => by cases e⟩
  · exact ⟨_, .lst h, fun z e => by cases e⟩
  · exact ⟨_, .dct h, fun z e => by cases e⟩
theorem OddK.shown (h : OddK H v) : ∃ z, Shown K H v z := by
  rcases h with rfl | rfl | (rfl | rfl | rfl) | ⟨a, rfl, h | h | h⟩
  · exact ⟨_, shown_d .non (by decide +kernel) (by decide +kernel) (by decide +kernel) (by decide +kernel)⟩
  · exact ⟨_, shown_d (.int 5) (by decide +kernel) (by decide +kernel) (by decide +kernel) (by decide +kernel)⟩
  · exact ⟨_, shown_d (.str _) (by decide +kernel) (by decide +kernel) (by decide +kernel) (by decide +kernel)⟩
  · exact ⟨_, shown_d (.str _) (by decide +kernel) (by decide +kernel) (by decide +kernel) (by decide +kernel)⟩
  · exact ⟨_, shown_d (.str _) (by decide +kernel) (by decide +kernel) (by decide +kernel) (by decide +kernel)⟩
  · exact ⟨_, shown_d (.tup (SqT.of h) .nil) (by decide +kernel) (by decide +kernel) (by decide +kernel) (by decide +kernel)⟩
  · exact ⟨_, shown_d (.lst (SqL.of h) (.cons (.str "a") .nil)) (by decide +kernel) (by decide +kernel) (by decide +kernel) (by decide +kernel)⟩
  · exact ⟨_, shown_e h⟩
theorem OddK.no (h : OddK H v) {s : SiteD} {m : MdD} (sm : SiteM s m) (ok : MdOk m) : fileOf s v = none := by
  have no : ∀ z : Str, isNameS z = false → lkF s.files z = none := fun z hz => by
    rw [sm.lk ok]
    refine lkF_none fun hk => ?_
    rw [ok.ok.nam z hk] at hz
    cases hz
  rcases h with rfl | rfl | (rfl | rfl | rfl) | ⟨a, rfl, _⟩
  · rfl
  · rfl
  · exact no _ (by decide +kernel)
  · exact no _ (by decide +kernel)
  · exact no _ (by decide +kernel)
  · rfl
end
section
variable {K : PySem.W.Frag} {CS CF : Addr} {H H' : Hp}
theorem FileAt.ext {v : V} {f : FileD} (h : FileAt K CF H v f) (s : ExtN H H') : FileAt K CF H' v f := by
  obtain ⟨a, dx, t1, t2, e, h1, h2, h3⟩ := h
  exact ⟨a, dx, t1, t2, e, s _ _ h1 (fun _ z => by cases z), SqT.ext h2 s, SqT.ext h3 s⟩
theorem FilesR.ext {kvs : List (Key × V)} {fs : List (Str × FileD)} (h : FilesR K CF H kvs fs) (s : ExtN H H') : FilesR K CF H' kvs fs := by
  induction h with
  | nil => exact .nil
  | cons a _ ih => exact .cons (a.ext s) ih
theorem TreesR.ext {kvs : List (Key × V)} {ts : List (Str × List (Str × Option Str))} (h : TreesR H kvs ts) (s : ExtN H H') : TreesR H' kvs ts := by
  induction h with
  | nil => exact .nil
  | cons a _ ih => exact .cons (s _ _ a fun _ z => by cases z) ih
theorem SiteAt.ext {v : V} {t : SiteD} (h : SiteAt K CS CF H v t) (s : ExtN H H') : SiteAt K CS CF H' v t := by
  obtain ⟨a, dx, d1, d2, kvs, e, h1, ⟨kf, h2, h3⟩, h4, h5⟩ := h
  exact ⟨a, dx, d1, d2, kvs, e, s _ _ h1 (fun _ z => by cases z), ⟨kf, s _ _ h2 (fun _ z => by cases z), h3.ext s⟩, s _ _ h4 (fun _ z => by cases z), h5.ext s⟩
end
end WP
namespace WP
open PySem L2 PySem.Spec PyProof.Rows
theorem Rc.trans {fs : List (Str × FileD)} {a b c : Str} (h : Rc fs a b) (g : Rc fs b c) : Rc fs a c := by
  induction g with
  | one h1 => exact h.more h1
  | more _ h1 ih => exact ih.more h1
section
variable {fs gs : List (Str × FileD)} {e : Str} {t u : List (Str × Option Str)}
theorem TreeOf.in_ (T : TreeOf fs e t) (U : TreeOf fs e u) (no : ∀ n, ¬ Rc fs n n) {x : Str} {p : Option Str} (h : (x, p) ∈ t) : (x, p) ∈ u := by
  rcases T.par x p h with ⟨rfl, rfl⟩ | ⟨q, rfl, hq, hr⟩
  · exact U.root
  · exact U.chi q (U.key (T.rc q hq)) x hr
theorem TreeOf.iff (T : TreeOf fs e t) (U : TreeOf fs e u) (no : ∀ n, ¬ Rc fs n n) (x : Str) (p : Option Str) : (x, p) ∈ t ↔ (x, p) ∈ u := ⟨T.in_ U no, U.in_ T no⟩
end
inductive WayI (t : List (Str × Option Str)) (x : Str) : List Str → Prop
  | one : WayI t x [x]
  | up {q p : Str} {r : List Str} : WayI t x (q :: r) → (q, some p) ∈ t → WayI t x (p :: q :: r)
def WayE (t : List (Str × Option Str)) (x : Str) (l : List Str) : Prop := WayI t x l ∧ ∃ h r, l = h :: r ∧ (h, none) ∈ t
section
variable {t u : List (Str × Option Str)} {x : Str} {l k : List Str}
theorem WayI.ne (h : WayI t x l) : l ≠ [] := by cases h <;> simp
theorem WayI.to (h : WayI t x l) (s : ∀ y p, (y, p) ∈ t → (y, p) ∈ u) : WayI u x l := by
  induction h with
  | one => exact .one
  | up _ h ih => exact .up ih (s _ _ h)
theorem WayI.suf (nd : (t.map (·.1)).Nodup) (h : WayI t x l) : ∀ {k : List Str}, WayI t x k → k.length ≤ l.length → ∃ j, l = j ++ k := by
  induction h with
  | one =>
    intro k hk hl
    cases hk with
    | one => exact ⟨[], rfl⟩
    | up _ _ => simp at hl
  | @up q p r h hq ih =>
    intro k hk hl
    by_cases e : k.length ≤ (q :: r).length
    · obtain ⟨j, hj⟩ := ih hk e
      exact ⟨p :: j, by rw [hj]; rfl⟩
    · cases hk with
      | one => simp at e
      | @up q' p' r' h' hq' =>
        have l1 : (q' :: r').length = (q :: r).length := by simp at hl e ⊢; omega
        obtain ⟨j, hj⟩ := ih h' (by omega)
        have j0 : j = [] := by
          have := congrArg List.length hj
          rw [List.length_append, l1] at this
          exact List.length_eq_zero_iff.mp (by omega)
        subst j0
        have hj : q :: r = q' :: r' := hj
        cases hj
        have := key_uni nd hq hq'
        cases this
        exact ⟨[], rfl⟩
theorem WayE.uni (nd : (t.map (·.1)).Nodup) (h : WayE t x l) (g : WayE t x k) : l = k := by
  have key : ∀ {l k : List Str}, WayE t x l → WayE t x k → k.length ≤ l.length → l = k := fun {l k} h g hl => by
    obtain ⟨h1, _⟩ := h
    obtain ⟨g1, a, r, rfl, ha⟩ := g
    obtain ⟨j, rfl⟩ := h1.suf nd g1 hl
    cases e : j.reverse with
    | nil =>
      have : j = [] := by simpa using e
      rw [this]
      rfl
    | cons b c =>
      exfalso
      have ej : j = c.reverse ++ [b] := by
        have := congrArg List.reverse e
        rw [List.reverse_reverse] at this
        rw [this]
        simp
      rw [ej, List.append_assoc] at h1
      have : ∀ {i : List Str}, WayI t x (i ++ b :: a :: r) → (a, some b) ∈ t := fun {i} => by
        induction i with
        | nil => intro h; cases h with | up _ h => exact h
        | cons y ys ih =>
          intro h
          cases ys with
          | nil => cases h with | up h _ => exact ih h
          | cons z zs => cases h with | up h _ => exact ih h
      have := key_uni nd ha (this h1)
      cases this
  rcases Nat.le_total k.length l.length with hl | hl
  · exact key h g hl
  · exact (key g h hl).symm
theorem WayE.to (h : WayE t x l) (s : ∀ y p, (y, p) ∈ t → (y, p) ∈ u) : WayE u x l := by
  obtain ⟨h1, a, r, e, ha⟩ := h
  exact ⟨h1.to s, a, r, e, s _ _ ha⟩
end
section
variable {fs : List (Str × FileD)} {e x : Str} {t : List (Str × Option Str)} {l : List Str}
/-- the files of a way are different files of the view -/
theorem WayI.keys (T : TreeOf fs e t) (no : ∀ n, ¬ Rc fs n n) (hx : x ∈ t.map (·.1)) (h : WayI t x l) : l.Nodup ∧ (∀ y ∈ l, y ∈ t.map (·.1)) ∧ ∀ h0 r, l = h0 :: r → ∀ y ∈ r, Rc fs h0 y := by
  induction h with
  | one => exact ⟨by simp, fun y hy => by rw [List.mem_singleton.mp hy]; exact hx, fun h0 r e y hy => by cases e; cases hy⟩
  | @up q p r h hq ih =>
    obtain ⟨i1, i2, i3⟩ := ih
    have hr : p ∈ t.map (·.1) ∧ q ∈ rf fs p := by
      rcases T.par _ _ hq with ⟨_, z⟩ | ⟨q', z, h1, h2⟩
      · cases z
      · cases z
        exact ⟨h1, h2⟩
    have below : ∀ y ∈ q :: r, Rc fs p y := fun y hy => by
      rcases List.mem_cons.mp hy with rfl | hy
      · exact .one hr.2
      · exact Rc.trans (.one hr.2) (i3 q r rfl y hy)
    refine ⟨List.nodup_cons.mpr ⟨fun z => no p (below p z), i1⟩, fun y hy => ?_, fun h0 r' e y hy => ?_⟩
    · rcases List.mem_cons.mp hy with rfl | hy
      · exact hr.1
      · exact i2 y hy
    · cases e
      exact below y hy
end
end WP
namespace WP
open PySem L2 PySem.Spec PyProof.Rows Builtin
end WP
namespace WP
open PySem L2 PySem.Spec PyProof.Rows
structure Pn (P : Program) (w : World) (K : PySem.W.Frag) (mg : Str → Option Value) (base : Heap) (k : Nat) (C : Addr) (x : Str) (sp : Sp) : Prop where
  cl : Cls K C
  ex : ∃ p g fd, PropOf K C x p g ∧ FnOk P w K mg base CX0 k g fd ["self"] sp ∧ Binds K fd ["self"] []
theorem PropK.pn {P : Program} {w : World} {K : PySem.W.Frag} {mg : Str → Option Value} {base : Heap} {C : Addr} {x qual : Str} {st : Stmt} {k : Nat} {sp : Sp} (Z : PropK K C x st qual) (cl : Cls K C) (hok : ∀ g fd, Fun K x qual st g fd → FnOk P w K mg base CX0 k g fd ["self"] sp) (hbi : ∀ g fd, Fun K x qual st g fd → L2.Binds K fd ["self"] []) : Pn P w K mg base k C x sp := by
  obtain ⟨p, g, fd, hp, F⟩ := Z.ex
  exact ⟨cl, p, g, fd, hp, hok g fd F, hbi g fd F⟩
def lkT (ts : List (Str × List (Str × Option Str))) (e : Str) : Option (List (Str × Option Str)) := (ts.find? fun p => decide (p.1 = e)).map (·.2)
theorem lkT_hit {e : Str} {t : List (Str × Option Str)} {ts : List (Str × List (Str × Option Str))} : lkT ((e, t) :: ts) e = some t := by
  unfold lkT
  rw [List.find?_cons_of_pos (by simp)]
  rfl
theorem lkT_skip {e m : Str} {t : List (Str × Option Str)} {ts : List (Str × List (Str × Option Str))} (h : m ≠ e) : lkT ((m, t) :: ts) e = lkT ts e := by
  unfold lkT
  rw [List.find?_cons_of_neg (by simpa using h)]
/-- the dict of a tree -/
def trD (t : List (Str × Option Str)) : List (Key × V) := t.map fun x => ((.inr x.1 : Key), optS x.2)
theorem TreesR.get {H : Hp} {kvs : List (Key × V)} {ts : List (Str × List (Str × Option Str))} (h : TreesR H kvs ts) (e : Str) : (valV kvs (.inr e) = none ∧ lkT ts e = none) ∨ ∃ p t, valV kvs (.inr e) = some (.ref p) ∧ lkT ts e = some t ∧ H p = some (.dK (trD t)) := by
  induction h with
  | nil => exact .inl ⟨rfl, rfl⟩
  | @cons m p t kvs ts h _ ih =>
    by_cases hm : m = e
    · subst hm
      exact .inr ⟨p, t, valV_pos rfl, lkT_hit, h⟩
    · rw [valV_neg (fun z => hm (Sum.inr.inj z)), lkT_skip hm]
      exact ih
theorem TreesR.at {H : Hp} {kvs : List (Key × V)} {ts : List (Str × List (Str × Option Str))} (h : TreesR H kvs ts) : ∀ {i : Nat} {k : Key} {v : V}, kvs[i]? = some (k, v) → ∃ n t p, ts[i]? = some (n, t) ∧ k = .inr n ∧ v = .ref p ∧ H p = some (.dK (trD t)) := by
  induction h with
  | nil => intro i k v e; cases e
  | @cons n p t kvs ts a _ ih =>
    intro i k v e
    cases i with
    | zero => cases e; exact ⟨n, t, p, rfl, rfl, rfl, a⟩
    | succ j => exact ih e
theorem NoF.same {CN : Addr} {H H' : Hp} {E : XK} {x : V} (h : NoF CN H E x) (s : Same H H') : NoF CN H' E x := fun d H2 s2 hd h2 => h d H2 (s.trans s2) (by
  cases e : H d with
  | none => rfl
  | some u => rw [s _ _ e] at hd; cases hd) h2
end WP
namespace WP
open PySem L2 PySem.Spec PyProof.Rows
theorem MdOk.rnd {m : MdD} (h : MdOk m) (q : Str) : (rf m.files q).Nodup := by
  unfold rf
  cases e : lkF m.files q with
  | none => exact List.nodup_nil
  | some f => exact h.ok.rnd q f e
theorem MdOk.ekey {m : MdD} (h : MdOk m) {e : Str} (he : e ∈ m.entries) : e ∈ m.files.map (·.1) := by
  have h2 : (match lkF m.files e with | some f => !f.own | none => false) = true := h.epl e he
  cases e1 : lkF m.files e with
  | none => rw [e1] at h2; cases h2
  | some f => exact lkF_key.mpr ⟨f, e1⟩
theorem TreeOf.few {m : MdD} (h : MdOk m) {e : Str} (he : e ∈ m.entries) {t : List (Str × Option Str)} (T : TreeOf m.files e t) : t.length ≤ 8 := by
  have := pigeon (t.map (·.1)) (m.files.map (·.1)) T.nd fun y hy => by
    rcases (T.mem y).mp hy with rfl | r
    · exact h.ekey he
    · exact h.ok.two.rc_mem r
  rw [List.length_map, List.length_map] at this
  have := h.ok.few
  omega
theorem PairsR.paired {K : PySem.W.Frag} {H : Hp} {as : List Addr} {ps : List (Str × Option Str)} (h : PairsR H as ps) : Paired (fun p kv => SqT K H p [kV kv.1, kv.2]) as (trD ps) := by
  induction h with
  | nil => exact .nil
  | cons a _ ih => exact .cons (SqT.of a) ih
/-- whether a file is in a view -/
def inW (fs : List (Str × FileD)) (e x : Str) : Prop := x = e ∨ Rc fs e x
/-- the views of some entries -/
inductive VwR (H : Hp) (fs : List (Str × FileD)) : List Addr → List Str → Prop
  | nil : VwR H fs [] []
  | cons {a : Addr} {e : Str} {ys : List Str} {as : List Addr} {es : List Str} : H a = some (.lst (ys.map V.str)) → (∀ x, x ∈ ys ↔ inW fs e x) → VwR H fs as es → VwR H fs (a :: as) (e :: es)
section
variable {H H' : Hp} {fs : List (Str × FileD)} {as bs : List Addr} {es gs : List Str}
theorem VwR.same (h : VwR H fs as es) (s : Same H H') : VwR H' fs as es := by
  induction h with
  | nil => exact .nil
  | cons a b _ ih => exact .cons (s _ _ a) b ih
theorem VwR.app (h : VwR H fs as es) (h' : VwR H fs bs gs) : VwR H fs (as ++ bs) (es ++ gs) := by
  induction h with
  | nil => exact h'
  | cons a b _ ih => exact .cons a b ih
theorem VwR.len (h : VwR H fs as es) : as.length = es.length := by
  induction h with
  | nil => rfl
  | cons _ _ _ ih => simp [ih]
theorem VwR.at (h : VwR H fs as es) : ∀ {i : Nat} {a : Addr}, as[i]? = some a → ∃ (e : Str) (ys : List Str), es[i]? = some e ∧ H a = some (.lst (ys.map V.str)) ∧ ∀ x, x ∈ ys ↔ inW fs e x := by
  induction h with
  | nil => intro i a e; cases e
  | @cons b e ys as es a1 a2 _ ih =>
    intro i a ha
    cases i with
    | zero => cases ha; exact ⟨e, ys, rfl, a1, a2⟩
    | succ j => exact ih ha
end
theorem strs_flat (ys : List Str) : (ys.map V.str).all flatV = true := by
  rw [List.all_map, List.all_eq_true]
  intro x _
  rfl
section
variable {s : SiteD} {m : MdD}
theorem SiteM.rf (h : SiteM s m) (ok : MdOk m) (n : Str) : WP.rf s.files n = WP.rf m.files n := by
  unfold WP.rf
  rw [h.lk ok]
theorem SiteM.rc (h : SiteM s m) (ok : MdOk m) {a b : Str} : Rc s.files a b ↔ Rc m.files a b := ⟨fun r => r.to fun n x hx => by rw [← h.rf ok]; exact hx, fun r => r.to fun n x hx => by rw [h.rf ok]; exact hx⟩
theorem SiteM.tree (h : SiteM s m) (ok : MdOk m) {e : Str} {t : List (Str × Option Str)} (T : TreeOf s.files e t) : TreeOf m.files e t := T.to fun n x => by rw [h.rf ok]
end
end WP
namespace WP
open PySem L2 PySem.Spec PyProof.Rows
end WP
namespace WP
open PySem L2 PySem.Spec PyProof.Rows
theorem MdOk.wkey {m : MdD} (ok : MdOk m) {e x : Str} (he : e ∈ m.entries) (h : inW m.files e x) : x ∈ m.files.map (·.1) := by
  rcases h with rfl | r
  · exact ok.ekey he
  · exact ok.ok.two.rc_mem r
theorem MdOk.anyN {K : PySem.W.Frag} {H : Hp} {m : MdD} (ok : MdOk m) {n : Str} (hn : n ∈ m.files.map (·.1)) : AnyN K H (.str n) := ⟨_, .str n, fun z e => by
  cases e
  have := (name_ok (ok.ok.nam n hn)).2.1
  rw [sizeLine_eq]
  omega⟩
end WP
namespace WP
open PySem L2 PySem.Spec PyProof.Rows
/-- models that tell the same references and entries -/
structure Alike (m m' : MdD) : Prop where
  rf : ∀ n, rf m'.files n = rf m.files n
  es : m'.entries = m.entries
  ks : m'.files.map (·.1) = m.files.map (·.1)
theorem Alike.rc {m m' : MdD} (h : Alike m m') {a b : Str} : Rc m'.files a b ↔ Rc m.files a b := ⟨fun r => r.to fun n x hx => by rw [← h.rf]; exact hx, fun r => r.to fun n x hx => by rw [h.rf]; exact hx⟩
end WP
namespace WP
open PySem L2 PySem.Spec PyProof.Rows
end WP
namespace WP
open PySem L2 PySem.Spec PyProof.Rows
inductive RdAll (h : Heap) : List Value → List PyData → Prop
  | nil : RdAll h [] []
  | cons {v : Value} {d : PyData} {as : List Addr} {vs : List Value} {ds : List PyData} : Reads h v d as → (d.hasDict = true → sysModules ∉ as) → RdAll h vs ds → RdAll h (v :: vs) (d :: ds)
theorem RdAll.k {prog : Program} {w : World} {h : Heap} : ∀ {vs : List Value} {ds : List PyData}, RdAll h vs ds → PyData.showableAll ds = true → (∀ t ∈ PyData.shownAll ds, t.length ≤ sizeLine) →
    ∃ as bs, ReadsAll h vs ds as ∧ ReadAtMost h (PyData.depthAll ds) bs ∧ ReprAllK prog w bs h (PyData.depthAll ds) vs (PyData.shownAll ds)
  | _, _, .nil, _, _ => ⟨[], [], .nil, (fun _ h => nomatch h), by simp only [PyData.shownAll]; exact .nil⟩
  | _, _, .cons (d := d) (ds := ds) r hsm rs, hs, hz => by
    have hs' : d.showable = true ∧ PyData.showableAll ds = true := by simpa [PyData.showableAll] using hs
    obtain ⟨b1, hb1, k1⟩ := ReprK.of_reads (prog := prog) (w := w) r hs'.1 hsm (hz _ (by simp only [PyData.shownAll]; exact List.mem_cons_self ..))
    obtain ⟨as2, b2, r2, hb2, k2⟩ := RdAll.k (prog := prog) (w := w) rs hs'.2 (fun t ht => hz t (by simp only [PyData.shownAll]; exact List.mem_cons_of_mem _ ht))
    refine ⟨_, b1 ++ b2, .cons r r2, ?_, ?_⟩
    · intro b hm
      simp only [PyData.depthAll]
      rcases List.mem_append.mp hm with hm | hm
      · obtain ⟨d', as', r', hd'⟩ := hb1 b hm
        exact ⟨d', as', r', Nat.le_trans hd' (Nat.le_max_left _ _)⟩
      · obtain ⟨d', as', r', hd'⟩ := hb2 b hm
        exact ⟨d', as', r', Nat.le_trans hd' (Nat.le_max_right _ _)⟩
    · simp only [PyData.depthAll, PyData.shownAll]
      exact .cons ((k1.more fun b hb => List.mem_append_left _ hb).level_le (Nat.le_max_left _ _)) (k2.more_le (fun b hb => List.mem_append_right _ hb) (Nat.le_max_right _ _))
end WP
namespace WP
open PySem L2 PySem.Spec PyProof.Rows LamX
def DlyB (a : Option Int) : Prop := ∀ i, a = some i → -1 ≤ i ∧ i ≤ 100000
theorem WayI.key {t : List (Str × Option Str)} {x : Str} {l : List Str} (h : WayI t x l) : l = [x] ∨ x ∈ t.map (·.1) := by
  induction h with
  | one => exact .inl rfl
  | @up q p r h hq ih =>
    rcases ih with z | z
    · cases z
      exact .inr (List.mem_map.mpr ⟨_, hq, rfl⟩)
    · exact .inr z
theorem WayE.key {t : List (Str × Option Str)} {x : Str} {l : List Str} (h : WayE t x l) : x ∈ t.map (·.1) := by
  obtain ⟨h1, a, r, e, ha⟩ := h
  rcases h1.key with z | z
  · rw [z] at e
    cases e
    exact List.mem_map.mpr ⟨_, ha, rfl⟩
  · exact z
end WP
namespace WP
open PySem L2 PySem.Spec PyProof.Rows
def ownF (fs : List (Str × FileD)) (n : Str) : Bool := match lkF fs n with | some f => f.own | none => false
/-- n takes x along: an own file takes what refers to it -/
inductive UpC (fs : List (Str × FileD)) (n : Str) : Str → Prop
  | refl : UpC fs n n
  | step {h x : Str} : UpC fs n h → ownF fs h = true → h ∈ rf fs x → UpC fs n x
def Clo (fs : List (Str × FileD)) (ns : List Str) (x : Str) : Prop := ∃ n ∈ ns, UpC fs n x
/-- closed: what refers to an own one of them is one of them -/
def Closed (fs : List (Str × FileD)) (found : List Str) : Prop := ∀ h ∈ found, ownF fs h = true → ∀ x, h ∈ rf fs x → x ∈ found
section
variable {fs : List (Str × FileD)} {ns found : List Str}
theorem Closed.up (hc : Closed fs found) {n x : Str} (hn : n ∈ found) (h : UpC fs n x) : x ∈ found := by
  induction h with
  | refl => exact hn
  | step _ h1 h2 ih => exact hc _ ih h1 _ h2
theorem clo_iff (hc : Closed fs found) (h1 : ∀ n ∈ ns, n ∈ found) (h2 : ∀ x ∈ found, Clo fs ns x) (x : Str) : x ∈ found ↔ Clo fs ns x := ⟨h2 x, fun ⟨n, hn, u⟩ => hc.up (h1 n hn) u⟩
theorem Clo.self {n : Str} (h : n ∈ ns) : Clo fs ns n := ⟨n, h, .refl⟩
theorem Clo.step {h x : Str} (c : Clo fs ns h) (h1 : ownF fs h = true) (h2 : h ∈ rf fs x) : Clo fs ns x := by
  obtain ⟨n, hn, u⟩ := c
  exact ⟨n, hn, .step u h1 h2⟩
/-- the program's search: found so far, line: those whose referrers are still to be looked at -/
structure CloI (fs : List (Str × FileD)) (ns found line : List Str) : Prop where
  nd : found.Nodup
  sub : ∀ n ∈ ns, n ∈ found
  cl : ∀ x ∈ found, Clo fs ns x
  ln : ∀ x ∈ line, x ∈ found
  dn : ∀ h ∈ found, h ∉ line → ownF fs h = true → ∀ x, h ∈ rf fs x → x ∈ found
theorem CloI.start (nd : ns.Nodup) : CloI fs ns ns ns := ⟨nd, fun _ h => h, fun _ h => .self h, fun _ h => h, fun h h1 h2 => absurd h1 h2⟩
theorem CloI.done (I : CloI fs ns found []) (x : Str) : x ∈ found ↔ Clo fs ns x := clo_iff (fun h hh ho x hx => I.dn h hh (fun z => by cases z) ho x hx) I.sub I.cl x
/-- one name looked at -/
def lookC (fs : List (Str × FileD)) (found : List Str) (x : Str) : List Str := if ((rf fs x).any fun h => decide (h ∈ found) && ownF fs h) && !decide (x ∈ found) then found ++ [x] else found
def roundC (fs : List (Str × FileD)) (ks : List Str) (found : List Str) : List Str := ks.foldl (lookC fs) found
structure LowI (fs : List (Str × FileD)) (ns found : List Str) : Prop where
  nd : found.Nodup
  sub : ∀ n ∈ ns, n ∈ found
  cl : ∀ x ∈ found, Clo fs ns x
theorem LowI.look (I : LowI fs ns found) (x : Str) : LowI fs ns (lookC fs found x) := by
  unfold lookC
  split
  · rename_i h
    rw [Bool.and_eq_true, List.any_eq_true] at h
    obtain ⟨⟨b, hb, hb2⟩, hx⟩ := h
    rw [Bool.and_eq_true, decide_eq_true_eq] at hb2
    have hx : x ∉ found := by simpa using hx
    refine ⟨?_, fun n hn => List.mem_append_left _ (I.sub n hn), fun y hy => ?_⟩
    · rw [List.nodup_append]
      refine ⟨I.nd, by simp, fun a ha b hb e => ?_⟩
      rw [List.mem_singleton.mp hb] at e
      exact hx (e ▸ ha)
    · rcases List.mem_append.mp hy with hy | hy
      · exact I.cl y hy
      · rw [List.mem_singleton.mp hy]
        exact (I.cl b hb2.1).step hb2.2 hb
  · exact I
theorem LowI.round : ∀ {ks found : List Str}, LowI fs ns found → LowI fs ns (roundC fs ks found)
  | [], _, I => I
  | k :: r, _, I => LowI.round (ks := r) (I.look k)
end
end WP
namespace WP
open PySem L2 PySem.Spec PyProof.Rows
/-- h is looked at; done: the names that were asked whether they refer to it -/
structure CloJ (fs : List (Str × FileD)) (ns found line : List Str) (h : Str) (done : List Str) : Prop where
  nd : found.Nodup
  lnd : line.Nodup
  sub : ∀ n ∈ ns, n ∈ found
  cl : ∀ x ∈ found, Clo fs ns x
  ln : ∀ x ∈ line, x ∈ found
  hf : h ∈ found
  ho : ownF fs h = true
  dn : ∀ y ∈ found, y ∉ line → y ≠ h → ownF fs y = true → ∀ x, y ∈ rf fs x → x ∈ found
  hd : ∀ x ∈ done, h ∈ rf fs x → x ∈ found
section
variable {fs : List (Str × FileD)} {ns found line done : List Str} {h x : Str}
theorem CloJ.start (I : CloI fs ns found (line ++ [h])) (lnd : (line ++ [h]).Nodup) (ho : ownF fs h = true) : CloJ fs ns found line h [] := by
  have l2 := List.nodup_append.mp lnd
  refine ⟨I.nd, l2.1, I.sub, I.cl, fun x hx => I.ln x (List.mem_append_left _ hx), I.ln h (List.mem_append_right _ (List.mem_singleton.mpr rfl)), ho, fun y hy h1 h2 => I.dn y hy (fun z => ?_), fun x hx => by cases hx⟩
  rcases List.mem_append.mp z with z | z
  · exact h1 z
  · exact h2 (List.mem_singleton.mp z)
theorem CloJ.add (J : CloJ fs ns found line h done) (hr : h ∈ rf fs x) (hx : x ∉ found) : CloJ fs ns (found ++ [x]) (line ++ [x]) h (done ++ [x]) := by
  refine ⟨?_, ?_, fun n hn => List.mem_append_left _ (J.sub n hn), fun y hy => ?_, fun y hy => ?_, List.mem_append_left _ J.hf, J.ho, fun y hy h1 h2 h3 z hz => ?_, fun y hy hr' => ?_⟩
  · rw [List.nodup_append]
    refine ⟨J.nd, by simp, fun a ha b hb e => hx ?_⟩
    rw [List.mem_singleton.mp hb] at e
    exact e ▸ ha
  · rw [List.nodup_append]
    refine ⟨J.lnd, by simp, fun a ha b hb e => hx ?_⟩
    rw [List.mem_singleton.mp hb] at e
    exact e ▸ J.ln a ha
  · rcases List.mem_append.mp hy with hy | hy
    · exact J.cl y hy
    · rw [List.mem_singleton.mp hy]
      exact (J.cl h J.hf).step J.ho hr
  · rcases List.mem_append.mp hy with hy | hy
    · exact List.mem_append_left _ (J.ln y hy)
    · exact List.mem_append_right _ hy
  · rcases List.mem_append.mp hy with hy | hy
    · exact List.mem_append_left _ (J.dn y hy (fun q => h1 (List.mem_append_left _ q)) h2 h3 z hz)
    · exact absurd (List.mem_append_right _ hy) h1
  · rcases List.mem_append.mp hy with hy | hy
    · exact List.mem_append_left _ (J.hd y hy hr')
    · exact List.mem_append_right _ hy
theorem CloJ.fin (J : CloJ fs ns found line h done) (all : ∀ x, h ∈ rf fs x → x ∈ done) : CloI fs ns found line := ⟨J.nd, J.sub, J.cl, J.ln, fun y hy h1 h2 x hx => by
  by_cases e : y = h
  · subst e
    exact J.hd x (all x hx) hx
  · exact J.dn y hy h1 e h2 x hx⟩
/-- a plain one is done at once -/
theorem CloI.plain (I : CloI fs ns found (line ++ [h])) (ho : ownF fs h = false) : CloI fs ns found line := ⟨I.nd, I.sub, I.cl, fun x hx => I.ln x (List.mem_append_left _ hx), fun y hy h1 h2 x hx => I.dn y hy (fun z => by
  rcases List.mem_append.mp z with z | z
  · exact h1 z
  · rw [List.mem_singleton.mp z, ho] at h2
    cases h2) h2 x hx⟩
theorem Clo.key {ks : List Str} (hk : ∀ x h, h ∈ rf fs x → x ∈ ks) (hs : ∀ n ∈ ns, n ∈ ks) (c : Clo fs ns x) : x ∈ ks := by
  obtain ⟨n, hn, u⟩ := c
  cases u with
  | refl => exact hs _ hn
  | step _ _ h => exact hk _ _ h
end
end WP
namespace WP
open PySem L2 PySem.Spec PyProof.Rows
end WP
namespace WP
open PySem L2 PySem.Spec PyProof.Rows
/-- some lists or tuples of texts -/
def KdsAt (H : Hp) (rs : List Addr) (kss : List (List Str)) : Prop := rs.length = kss.length ∧ ∀ (i : Nat) (r : Addr) (ks : List Str), rs[i]? = some r → kss[i]? = some ks → (H r = some (.lst (ks.map V.str)) ∨ H r = some (.tup (ks.map V.str)))
theorem KdsAt.same {H H' : Hp} {rs : List Addr} {kss : List (List Str)} (h : KdsAt H rs kss) (s : Same H H') : KdsAt H' rs kss :=
  ⟨h.1, fun i r ks h1 h2 => (h.2 i r ks h1 h2).imp (s _ _) (s _ _)⟩
/-- right kinds of a model -/
def KdsOk (m : MdD) (kss : List (List Str)) : Prop := 1 ≤ kss.length ∧ kss.length ≤ 5 ∧ ∀ ks ∈ kss, ks ≠ [] ∧ ks.Nodup ∧ ∀ n ∈ ks, n ∈ m.files.map (·.1)
/-- tuples of ascending texts, one for each -/
def TupsAt (H : Hp) (ts : List Addr) (kss : List (List Str)) : Prop := ts.length = kss.length ∧ ∀ (i : Nat) (r : Addr) (ks : List Str), ts[i]? = some r → kss[i]? = some ks → ∃ ys : List Str, ys.Perm ks ∧ sortedS ys = true ∧ H r = some (.tup (ys.map V.str))
theorem TupsAt.same {H H' : Hp} {ts : List Addr} {kss : List (List Str)} (h : TupsAt H ts kss) (s : Same H H') : TupsAt H' ts kss :=
  ⟨h.1, fun i r ks h1 h2 => (h.2 i r ks h1 h2).imp fun _ q => ⟨q.1, q.2.1, s _ _ q.2.2⟩⟩
theorem TupsAt.upd {H : Hp} {ts : List Addr} {kss : List (List Str)} {D : Addr} {acc : List V} {o : HO} (h : TupsAt H ts kss) (hD : H D = some (.lst acc)) : TupsAt (upd H D o) ts kss :=
  ⟨h.1, fun i r ks h1 h2 => (h.2 i r ks h1 h2).imp fun _ q => ⟨q.1, q.2.1, by
    have ne : r ≠ D := fun e => by
      subst e
      rw [hD] at q
      exact absurd q.2.2 (by simp)
    rw [upd_ne ne]
    exact q.2.2⟩⟩
theorem TupsAt.snoc {H : Hp} {ts : List Addr} {kss : List (List Str)} {i : Nat} {ks ys : List Str} {r : Addr} (h : TupsAt H ts (kss.take i)) (hk : kss[i]? = some ks) (h1 : ys.Perm ks) (h2 : sortedS ys = true) (h3 : H r = some (.tup (ys.map V.str))) : TupsAt H (ts ++ [r]) (kss.take (i + 1)) := by
  have il : i < kss.length := (List.getElem?_eq_some_iff.mp hk).1
  have e : kss.take (i + 1) = kss.take i ++ [ks] := by
    rw [List.take_add_one, hk]
    rfl
  have tl : ts.length = i := by
    rw [h.1, List.length_take]
    omega
  rw [e]
  refine ⟨by rw [List.length_append, List.length_append, h.1]; rfl, fun j q ls a b => ?_⟩
  by_cases hj : j < i
  · rw [List.getElem?_append_left (by omega)] at a
    rw [List.getElem?_append_left (by rw [List.length_take]; omega)] at b
    exact h.2 j q ls a b
  · have jl : j < (ts ++ [r]).length := (List.getElem?_eq_some_iff.mp a).1
    rw [List.length_append, List.length_singleton] at jl
    have ji : j = ts.length := by omega
    rw [ji, List.getElem?_append_right (Nat.le_refl _), Nat.sub_self] at a
    rw [ji, h.1, List.getElem?_append_right (Nat.le_refl _), Nat.sub_self] at b
    cases a
    cases b
    exact ⟨ys, h1, h2, h3⟩
end WP
namespace WP
open PySem L2 PySem.Spec PyProof.Rows
/-- tuples of texts, one for each list, that stand to it as R says -/
def RowAt (R : List Str → List Str → Prop) (H : Hp) (ts : List Addr) (kss : List (List Str)) : Prop := ts.length = kss.length ∧ ∀ (i : Nat) (r : Addr) (ks : List Str), ts[i]? = some r → kss[i]? = some ks → ∃ ys : List Str, R ks ys ∧ H r = some (.tup (ys.map V.str))
theorem RowAt.same {R : List Str → List Str → Prop} {H H' : Hp} {ts : List Addr} {kss : List (List Str)} (h : RowAt R H ts kss) (s : Same H H') : RowAt R H' ts kss :=
  ⟨h.1, fun i r ks h1 h2 => (h.2 i r ks h1 h2).imp fun _ q => ⟨q.1, s _ _ q.2⟩⟩
theorem RowAt.upd {R : List Str → List Str → Prop} {H : Hp} {ts : List Addr} {kss : List (List Str)} {D : Addr} {acc : List V} {o : HO} (h : RowAt R H ts kss) (hD : H D = some (.lst acc)) : RowAt R (upd H D o) ts kss :=
  ⟨h.1, fun i r ks h1 h2 => (h.2 i r ks h1 h2).imp fun _ q => ⟨q.1, by
    have ne : r ≠ D := fun e => by
      subst e
      rw [hD] at q
      exact absurd q.2 (by simp)
    rw [upd_ne ne]
    exact q.2⟩⟩
theorem RowAt.snoc {R : List Str → List Str → Prop} {H : Hp} {ts : List Addr} {kss : List (List Str)} {i : Nat} {ks ys : List Str} {r : Addr} (h : RowAt R H ts (kss.take i)) (hk : kss[i]? = some ks) (h1 : R ks ys) (h3 : H r = some (.tup (ys.map V.str))) : RowAt R H (ts ++ [r]) (kss.take (i + 1)) := by
  have il : i < kss.length := (List.getElem?_eq_some_iff.mp hk).1
  have e : kss.take (i + 1) = kss.take i ++ [ks] := by
    rw [List.take_add_one, hk]
    rfl
  have tl : ts.length = i := by
    rw [h.1, List.length_take]
    omega
  rw [e]
  refine ⟨by rw [List.length_append, List.length_append, h.1]; rfl, fun j q ls a b => ?_⟩
  by_cases hj : j < i
  · rw [List.getElem?_append_left (by omega)] at a
    rw [List.getElem?_append_left (by rw [List.length_take]; omega)] at b
    exact h.2 j q ls a b
  · have jl : j < (ts ++ [r]).length := (List.getElem?_eq_some_iff.mp a).1
    rw [List.length_append, List.length_singleton] at jl
    have ji : j = ts.length := by omega
    rw [ji, List.getElem?_append_right (Nat.le_refl _), Nat.sub_self] at a
    rw [ji, h.1, List.getElem?_append_right (Nat.le_refl _), Nat.sub_self] at b
    cases a
    cases b
    exact ⟨ys, h1, h3⟩
/-- the closure of some files, ascending -/
def CloR (m : MdD) (ks ys : List Str) : Prop := (∀ x, x ∈ ys ↔ Clo m.files ks x) ∧ ys.Nodup ∧ sortedS ys = true
end WP
namespace WP
open PySem L2 PySem.Spec PyProof.Rows
inductive All2 {α β : Type} (R : α → β → Prop) : List α → List β → Prop
  | nil : All2 R [] []
  | cons {a : α} {b : β} {as : List α} {bs : List β} : R a b → All2 R as bs → All2 R (a :: as) (b :: bs)
section
variable {α β : Type} {R S : α → β → Prop} {as cs : List α} {bs ds : List β}
theorem All2.imp (h : All2 R as bs) (f : ∀ a b, R a b → S a b) : All2 S as bs := by
  induction h with
  | nil => exact .nil
  | cons a _ ih => exact .cons (f _ _ a) ih
theorem All2.len (h : All2 R as bs) : as.length = bs.length := by
  induction h with
  | nil => rfl
  | cons _ _ ih => simp [ih]
theorem All2.app (h : All2 R as bs) (h' : All2 R cs ds) : All2 R (as ++ cs) (bs ++ ds) := by
  induction h with
  | nil => exact h'
  | cons a _ ih => exact .cons a ih
theorem All2.snoc {a : α} {b : β} (h : All2 R as bs) (r : R a b) : All2 R (as ++ [a]) (bs ++ [b]) := h.app (.cons r .nil)
theorem All2.at (h : All2 R as bs) : ∀ {i : Nat} {a : α}, as[i]? = some a → ∃ b, bs[i]? = some b ∧ R a b := by
  induction h with
  | nil => intro i a e; cases e
  | cons r _ ih =>
    intro i a e
    cases i with
    | zero => cases e; exact ⟨_, rfl, r⟩
    | succ j => exact ih e
theorem All2.at' (h : All2 R as bs) : ∀ {i : Nat} {b : β}, bs[i]? = some b → ∃ a, as[i]? = some a ∧ R a b := by
  induction h with
  | nil => intro i a e; cases e
  | cons r _ ih =>
    intro i a e
    cases i with
    | zero => cases e; exact ⟨_, rfl, r⟩
    | succ j => exact ih e
end
/-- a list is changed: a tuple stays -/
theorem keep_tup {H : Hp} {t D : Addr} {xs ys : List V} {o : HO} (h : H t = some (.tup xs)) (hD : H D = some (.lst ys)) : upd H D o t = some (.tup xs) := by
  have ne : t ≠ D := fun e => by
    rw [e, hD] at h
    cases h
  rw [upd_ne ne]
  exact h
end WP
namespace WP
open PySem L2 PySem.Spec PyProof.Rows
structure Rp (d : PyData) (dep len : Nat) : Prop where
  sh : d.showable = true
  hd : d.hasDict = false
  dp : d.depth ≤ dep
  ln : d.shown.length ≤ len
theorem Rp.mono {d : PyData} {a b x y : Nat} (h : Rp d a x) (h1 : a ≤ b) (h2 : x ≤ y) : Rp d b y := ⟨h.sh, h.hd, by have := h.dp; omega, by have := h.ln; omega⟩
theorem rp_none : Rp .none 0 20 := ⟨by decide +kernel, by decide +kernel, by decide +kernel, by decide +kernel⟩
theorem rp_str {z : Str} {n : Nat} (h : PyData.strOk z = true) (hn : z.length ≤ n) : Rp (.str z) 0 (n * 10 + 2) := by
  refine ⟨?_, rfl, Nat.le_refl _, ?_⟩
  · rw [PyData.showable]
  · rw [PyData.shown]
    refine Nat.le_trans (PySem.StrLaws.reprText_len z fun c hc => ?_) (by omega)
    unfold PyData.strOk at h
    rw [← Array.all_toList, List.all_eq_true] at h
    have := h c hc
    simp only [decide_eq_true_eq] at this
    omega
theorem rpAll {ds : List PyData} {dep len : Nat} (h : ∀ d ∈ ds, Rp d dep len) : PyData.showableAll ds = true ∧ PyData.hasDictAll ds = false ∧ PyData.depthAll ds ≤ dep ∧ piled (PyData.shownAll ds) ≤ ds.length * (len + 2) := by
  induction ds with
  | nil => exact ⟨rfl, rfl, Nat.zero_le _, by simp [PyData.shownAll, piled]⟩
  | cons d r ih =>
    obtain ⟨a1, a2, a3, a4⟩ := ih fun x hx => h x (List.mem_cons_of_mem _ hx)
    have b := h d List.mem_cons_self
    refine ⟨?_, ?_, ?_, ?_⟩
    · simp only [PyData.showableAll, a1, b.sh]; rfl
    · simp only [PyData.hasDictAll, a2, b.hd]; rfl
    · have := b.dp
      simp only [PyData.depthAll]
      omega
    · have := b.ln
      rw [PyData.shownAll, piled_cons, List.length_cons, Nat.add_mul]
      omega
theorem Rp.list {ds : List PyData} {dep len n : Nat} (h : ∀ d ∈ ds, Rp d dep len) (hn : ds.length ≤ n) : Rp (.list ds) (dep + 1) (n * (len + 2) + 2) := by
  obtain ⟨a1, a2, a3, a4⟩ := rpAll h
  refine ⟨by rw [PyData.showable]; exact a1, by rw [PyData.hasDict]; exact a2, by rw [PyData.depth]; omega, ?_⟩
  rw [PyData.shown]
  refine Nat.le_trans (listText_up _) ?_
  have := Nat.mul_le_mul_right (len + 2) hn
  omega
theorem Rp.tuple {ds : List PyData} {dep len n : Nat} (h : ∀ d ∈ ds, Rp d dep len) (hn : ds.length ≤ n) : Rp (.tuple ds) (dep + 1) (n * (len + 2) + 10) := by
  obtain ⟨a1, a2, a3, a4⟩ := rpAll h
  refine ⟨by rw [PyData.showable]; exact a1, by rw [PyData.hasDict]; exact a2, by rw [PyData.depth]; omega, ?_⟩
  rw [PyData.shown]
  have := Nat.mul_le_mul_right (len + 2) hn
  cases ds with
  | nil => simp only [PyData.shownAll]; exact Nat.le_trans (by decide) (Nat.le_add_left 10 _)
  | cons d r =>
    have h5 : PyData.shownAll (d :: r) ≠ [] := by simp [PyData.shownAll]
    have h6 := join_length_add _ h5
    unfold tupleText
    rw [Str.length_append, Str.length_append]
    have h7 : ("(" : Str).length = 1 := by decide
    have h8 : (Str.ofString (if (PyData.shownAll (d :: r)).length == 1 then ",)" else ")" : String)).length ≤ 2 := by split <;> decide
    rw [h7]
    omega
theorem Rp.d40 {d : PyData} {a b : Nat} (h : Rp d a b) (h1 : a ≤ 40 := by decide) : d.depth ≤ 40 := Nat.le_trans h.dp h1
theorem Rp.lnS {d : PyData} {a b : Nat} (h : Rp d a b) (h1 : b ≤ 100000 := by decide) : d.shown.length ≤ sizeLine := Nat.le_trans h.ln (by rw [sizeLine_eq]; omega)
theorem CloR.uniq {m : MdD} {ks ks' ys ys' : List Str} (h : CloR m ks ys) (h' : CloR m ks' ys') (e : ∀ x, x ∈ ks ↔ x ∈ ks') : ys = ys' := by
  refine sorted_uniq ?_ h.2.2 h'.2.2
  refine (List.perm_ext_iff_of_nodup h.2.1 h'.2.1).mpr fun x => ?_
  rw [h.1, h'.1]
  exact ⟨fun ⟨n, hn, u⟩ => ⟨n, (e n).mp hn, u⟩, fun ⟨n, hn, u⟩ => ⟨n, (e n).mpr hn, u⟩⟩
theorem CloR.key {m : MdD} (ok : MdOk m) {ks ys : List Str} (h : CloR m ks ys) (hk : ∀ n ∈ ks, n ∈ m.files.map (·.1)) : (∀ n ∈ ys, n ∈ m.files.map (·.1)) ∧ ys.length ≤ 8 := by
  have kx : ∀ x h, h ∈ rf m.files x → x ∈ m.files.map (·.1) := fun x h hh => by
    unfold rf at hh
    cases e : lkF m.files x with
    | none => rw [e] at hh; cases hh
    | some f => exact lkF_key.mpr ⟨f, e⟩
  have h1 : ∀ n ∈ ys, n ∈ m.files.map (·.1) := fun n hn => Clo.key kx hk ((h.1 n).mp hn)
  refine ⟨h1, ?_⟩
  have := pigeon ys (m.files.map (·.1)) h.2.1 h1
  rw [List.length_map] at this
  have := ok.ok.few
  omega
end WP
namespace WP
open PySem L2 PySem.Spec PyProof.Rows
theorem KdsAt.of {H : Hp} {rs : List Addr} {kss : List (List Str)} (h : All2 (fun r ks => H r = some (.lst (ks.map V.str)) ∨ H r = some (.tup (ks.map V.str))) rs kss) : KdsAt H rs kss :=
  ⟨h.len, fun i r ks a b => by
    obtain ⟨k, hk, e⟩ := h.at a
    rw [b] at hk
    cases hk
    exact e⟩
end WP
namespace WP
open PySem L2 PySem.Spec PyProof.Rows
def keyP : Key → PyData
  | .inl i => .int i
  | .inr z => .str z
mutual
inductive Dg (K : PySem.W.Frag) (H : Hp) : V → PyData → Prop
  | dp {v : V} {d : PyData} : Dp K H v d → d.hasDict = false → Dg K H v d
  | lst {a : Addr} {vs : List V} {ds : List PyData} : SqL K H a vs → DgAll K H vs ds → Dg K H (.ref a) (.list ds)
  | tup {a : Addr} {vs : List V} {ds : List PyData} : SqT K H a vs → DgAll K H vs ds → Dg K H (.ref a) (.tuple ds)
  | dct {a : Addr} {kvs : List (Key × V)} {ps : List (PyData × PyData)} : H a = some (.dK kvs) → ps.map (·.1) = kvs.map (fun p => keyP p.1) → DgAll K H (kvs.map (·.2)) (ps.map (·.2)) → Dg K H (.ref a) (.dict ps)
inductive DgAll (K : PySem.W.Frag) (H : Hp) : List V → List PyData → Prop
  | nil : DgAll K H [] []
  | cons {v : V} {d : PyData} {vs : List V} {ds : List PyData} : Dg K H v d → DgAll K H vs ds → DgAll K H (v :: vs) (d :: ds)
end
/-- what is known of an object that is shown -/
def ShK (P : Program) (w : World) (h : Heap) (u : Value) (d : PyData) : Prop := ∃ as bs, Reads h u d as ∧ ReadAtMost h d.depth bs ∧ ReprK P w bs h d.depth u d.shown
def ShAll (P : Program) (w : World) (h : Heap) (us : List Value) (ds : List PyData) : Prop := ∃ as bs, ReadsAll h us ds as ∧ ReadAtMost h (PyData.depthAll ds) bs ∧ ReprAllK P w bs h (PyData.depthAll ds) us (PyData.shownAll ds)
theorem ShAll.nil {P : Program} {w : World} {h : Heap} : ShAll P w h [] [] := ⟨[], [], .nil, (fun _ z => by cases z), by rw [PyData.shownAll]; exact .nil⟩
theorem ShAll.cons {P : Program} {w : World} {h : Heap} {u : Value} {d : PyData} {us : List Value} {ds : List PyData} (a : ShK P w h u d) (b : ShAll P w h us ds) : ShAll P w h (u :: us) (d :: ds) := by
  obtain ⟨as, bs, r, m, k⟩ := a
  obtain ⟨as2, bs2, r2, m2, k2⟩ := b
  have e : PyData.depthAll (d :: ds) = max d.depth (PyData.depthAll ds) := by rw [PyData.depthAll]
  refine ⟨as ++ as2, bs ++ bs2, .cons r r2, ?_, ?_⟩
  · rw [e]
    exact (m.mono (Nat.le_max_left _ _)).append (m2.mono (Nat.le_max_right _ _))
  · rw [e, PyData.shownAll]
    exact .cons ((k.more fun x hx => List.mem_append_left _ hx).level_le (Nat.le_max_left _ _)) (k2.more_le (fun x hx => List.mem_append_right _ hx) (Nat.le_max_right _ _))
theorem ShK.list {P : Program} {w : World} {h : Heap} {a : Addr} {o : Obj} {us : List Value} {n : Nat} {ds : List PyData} (h1 : h.get? a = some o) (h2 : o.cls = .type "list") (h3 : o.data = .seq us.toArray n) (b : ShAll P w h us ds) : ShK P w h (.ref a) (.list ds) := by
  obtain ⟨as, bs, r, m, k⟩ := b
  have rd : Reads h (.ref a) (.list ds) (a :: as) := .list h1 h2 h3 (by simpa using r)
  have e : (PyData.list ds).depth = PyData.depthAll ds + 1 := by rw [PyData.depth]
  have na : a ∉ bs := not_mem_of_deeper rd (by omega) m
  refine ⟨_, a :: bs, rd, ReadAtMost.cons rd (by omega) m, ?_⟩
  rw [e, PyData.shown]
  cases us with
  | nil =>
    cases r
    rw [PyData.shownAll, listText_nil]
    exact ReprK.listEmpty h1 h2 h3
  | cons x l => exact ReprK.list h1 h2 h3 na (by simpa using k.length_eq) fun i y q => k.item i y (by simpa using q)
theorem ShK.tuple {P : Program} {w : World} {h : Heap} {a : Addr} {o : Obj} {us : List Value} {n : Nat} {ds : List PyData} (h1 : h.get? a = some o) (h2 : o.cls = .type "tuple") (h3 : o.data = .seq us.toArray n) (b : ShAll P w h us ds) : ShK P w h (.ref a) (.tuple ds) := by
  obtain ⟨as, bs, r, m, k⟩ := b
  have rd : Reads h (.ref a) (.tuple ds) as := .tuple h1 h2 h3 (by simpa using r)
  have e : (PyData.tuple ds).depth = PyData.depthAll ds + 1 := by rw [PyData.depth]
  have na : a ∉ bs := not_mem_of_deeper rd (by omega) m
  refine ⟨_, a :: bs, rd, ReadAtMost.cons rd (by omega) m, ?_⟩
  rw [e, PyData.shown]
  exact ReprK.tuple h1 h2 h3 na (by simpa using k)
/-- a dict's entries, and what is known of its own object -/
theorem ShK.dict {P : Program} {w : World} {h : Heap} {a : Addr} {o : Obj} {es : Array DictEntry} {n : Nat} {ps : List (PyData × PyData)} (h1 : h.get? a = some o) (h2 : o.cls = .type "dict") (h3 : o.data = .dict es n) (hs : (a == sysModules) = false) (b1 : ShAll P w h (es.toList.map (·.key)) (ps.map (·.1))) (b2 : ShAll P w h (es.toList.map (·.val)) (ps.map (·.2))) :
    ShK P w h (.ref a) (.dict ps) ∧ ∃ bs, a ∉ bs ∧ ReprEntriesK P w bs h (PyData.depthKv ps) es.toList (PyData.shownKv ps) := by
  obtain ⟨as, bs, r, m, k⟩ := b1
  obtain ⟨as2, bs2, r2, m2, k2⟩ := b2
  have rd : Reads h (.ref a) (.dict ps) (a :: as ++ as2) := .dict h1 h2 h3 r r2
  have e : (PyData.dict ps).depth = PyData.depthKv ps + 1 := by rw [PyData.depth]
  have mm : ReadAtMost h (PyData.depthKv ps) (bs ++ bs2) := ReadAtMost.append (m.mono (PyData.depthAll_keys_le ps)) (m2.mono (PyData.depthAll_vals_le ps))
  have na : a ∉ bs ++ bs2 := not_mem_of_deeper rd (by omega) mm
  have ek := ReprEntriesK.of_two es.toList _ _ (k.more_le (fun x hx => List.mem_append_left bs2 hx) (PyData.depthAll_keys_le ps)) (k2.more_le (fun x hx => List.mem_append_right bs hx) (PyData.depthAll_vals_le ps))
  rw [← PyData.shownKv_eq] at ek
  refine ⟨⟨_, a :: (bs ++ bs2), rd, ReadAtMost.cons rd (by omega) mm, ?_⟩, _, na, ek⟩
  rw [e, PyData.shown]
  exact ReprK.dict h1 h2 h3 hs na ek
theorem key_sh {P : Program} {w : World} {h : Heap} : ∀ {es : List DictEntry} {vs : List (Key × Value)} {ps : List PyData}, Pairs (mixKind P w) es vs → ps = vs.map (fun p => keyP p.1) → PyData.showableAll ps = true → (∀ t ∈ PyData.shownAll ps, t.length ≤ sizeLine) → ShAll P w h (es.map (·.key)) ps
  | _, _, _, .nil, rfl, _, _ => .nil
  | e :: es, kv :: vs, _, .cons hk hv r, rfl, hs, hz => by
    have s2 : (keyP kv.1).showable = true ∧ PyData.showableAll (vs.map fun p => keyP p.1) = true := by simpa [PyData.showableAll] using hs
    have rk : Reads h e.key (keyP kv.1) [] := by
      have hk : keyIs kv.1 e.key = true := hk
      rcases keyIs_shape hk with ⟨i, t, e1, e2⟩ | ⟨x, t, e1, e2⟩
      · rw [e1, e2]
        exact .int i t
      · rw [e1, e2]
        exact .str x t
    have nd : (keyP kv.1).hasDict = false := by cases kv.1 <;> rfl
    obtain ⟨bs, hb, k⟩ := ReprK.of_reads (prog := P) (w := w) rk s2.1 (fun z => by rw [nd] at z; cases z) (hz _ (by rw [List.map_cons, PyData.shownAll]; exact List.mem_cons_self))
    exact .cons ⟨_, bs, rk, hb, k⟩ (key_sh r rfl s2.2 fun t ht => hz t (by rw [List.map_cons, PyData.shownAll]; exact List.mem_cons_of_mem _ ht))
theorem kv_keys {kvs : List (Key × V)} {vs : List (Key × Value)} (r : KV kvs vs) : kvs.map (fun p => keyP p.1) = vs.map (fun p => keyP p.1) := by
  unfold KV at r
  induction r with
  | nil => rfl
  | cons a _ ih => rw [List.map_cons, List.map_cons, ih, a.1]
theorem kv_vals {kvs : List (Key × V)} {vs : List (Key × Value)} (r : KV kvs vs) : Vals (kvs.map (·.2)) (vs.map (·.2)) := by
  unfold KV at r
  induction r with
  | nil => exact .nil
  | cons a _ ih => exact .cons a.2 ih
theorem pairs_vals {P : Program} {w : World} : ∀ {es : List DictEntry} {vs : List (Key × Value)}, Pairs (mixKind P w) es vs → es.map (·.val) = vs.map (·.2)
  | _, _, .nil => rfl
  | _ :: _, _ :: _, .cons _ hv r => by rw [List.map_cons, List.map_cons, hv, pairs_vals r]
section
variable {X : Cx} {pins : List (Addr × Obj)} {σ : L2.St} {H : Hp} {s : Shared}
mutual
theorem Dg.sh (I : Inv X pins σ H s) : ∀ {v : V} {d : PyData} {u : Value}, Dg X.K H v d → RelV v u → d.showable = true → d.shown.length ≤ sizeLine → ShK X.prog X.w s.heap u d
  | _, _, _, .dp hd nd, r, hs, hz => by
    obtain ⟨as, rd⟩ := Dp.reads I _ _ _ hd r
    obtain ⟨bs, hb, k⟩ := ReprK.of_reads (prog := X.prog) (w := X.w) rd hs (fun z => by rw [nd] at z; cases z) hz
    exact ⟨as, bs, rd, hb, k⟩
  | _, _, _, .lst (a := a) (ds := ds) hl h, r, hs, hz => by
    cases r
    obtain ⟨its, rv, pl, _⟩ := I.list hl
    obtain ⟨o, ho, hc, n, hd⟩ := pl.isList
    rw [PyData.shown] at hz
    exact ShK.list ho hc hd (DgAll.sh I h rv (by rw [PyData.showable] at hs; exact hs) fun t ht => Nat.le_trans (listText_mem_le ht) hz)
  | _, _, _, .tup (a := a) (ds := ds) hl h, r, hs, hz => by
    cases r
    obtain ⟨its, rv, ⟨o, ho, hc, n, hd⟩, _⟩ := I.tuple hl
    rw [PyData.shown] at hz
    exact ShK.tuple ho hc hd (DgAll.sh I h rv (by rw [PyData.showable] at hs; exact hs) fun t ht => Nat.le_trans (tupleText_mem_le ht) hz)
  | _, _, _, .dct (a := a) (kvs := kvs) (ps := ps) ha hk h, r, hs, hz => by
    cases r
    obtain ⟨_, hn, vs, kv, o, es, ep, ho, ed, hd, _, hp, _⟩ := L2.dk_of I.hok ha
    rw [PyData.shown] at hz
    rw [PyData.showable] at hs
    obtain ⟨s1, s2⟩ := PyData.showableKv_split ps hs
    have zk : ∀ t ∈ PyData.shownAll (ps.map (·.1)), t.length ≤ sizeLine := fun t ht => by
      obtain ⟨p, hp, hl⟩ := PyData.shownKv_key_le ps t ht
      exact Nat.le_trans hl (Nat.le_trans (dictText_mem_le hp) hz)
    have zv : ∀ t ∈ PyData.shownAll (ps.map (·.2)), t.length ≤ sizeLine := fun t ht => by
      obtain ⟨p, hp, hl⟩ := PyData.shownKv_val_le ps t ht
      exact Nat.le_trans hl (Nat.le_trans (dictText_mem_le hp) hz)
    refine (ShK.dict ho ed.1 hd hn (key_sh hp (by rw [hk, kv_keys kv]) s1 zk) ?_).1
    rw [pairs_vals hp]
    exact DgAll.sh I h (kv_vals kv) s2 zv
theorem DgAll.sh (I : Inv X pins σ H s) : ∀ {vs : List V} {ds : List PyData} {us : List Value}, DgAll X.K H vs ds → Vals vs us → PyData.showableAll ds = true → (∀ t ∈ PyData.shownAll ds, t.length ≤ sizeLine) → ShAll X.prog X.w s.heap us ds
  | _, _, _, .nil, .nil, _, _ => .nil
  | _, _, _, .cons (d := d) (ds := ds) h t, .cons r rs, hs, hz => by
    have hs' : d.showable = true ∧ PyData.showableAll ds = true := by simpa [PyData.showableAll] using hs
    exact .cons (Dg.sh I h r hs'.1 (hz _ (by rw [PyData.shownAll]; exact List.mem_cons_self))) (DgAll.sh I t rs hs'.2 fun q hq => hz q (by rw [PyData.shownAll]; exact List.mem_cons_of_mem _ hq))
end
end
def rReprG (K : PySem.W.Frag) : List V → Hp → VK → Prop := fun xs H Q => ∃ (v : V) (d : PyData), xs = [v] ∧ Dg K H v d ∧ d.showable = true ∧ d.depth ≤ 40 ∧ d.shown.length ≤ sizeLine ∧ Q (.str d.shown) H
/-- repr of any data of lists, tuples, dicts -/
theorem call_reprG {X : Cx} (hg : X.A.guards = some []) (hu : X.A.units + 64 < cLine) : CallR X (.builtin "repr") (rReprG X.K) := by
  intro pins s σ H xs us Q I r h
  obtain ⟨v, d, rfl, hd, hs, dep, hz, q⟩ := h
  obtain ⟨u, rfl, ru⟩ := vals1 r
  cases hd with
  | dp h1 h2 => exact call_reprD hg hu pins s σ H [v] [u] Q I (.cons ru .nil) ⟨v, d, rfl, h1, hs, h2, dep, hz, q⟩
  | @lst a vs ds hl h =>
    cases ru
    obtain ⟨its, rv, pl, _⟩ := I.list hl
    obtain ⟨o, ho, hc, n, hd⟩ := pl.isList
    rw [PyData.shown] at hz q
    rw [PyData.depth] at dep
    obtain ⟨as, bs, r2, m, k⟩ := DgAll.sh I h rv (by rw [PyData.showable] at hs; exact hs) fun t ht => Nat.le_trans (listText_mem_le ht) hz
    have rd : Reads s.heap (.ref a) (.list ds) (a :: as) := .list ho hc hd (by simpa using r2)
    have na : a ∉ bs := not_mem_of_deeper rd (by rw [PyData.depth]; omega) m
    cases its with
    | nil =>
      cases r2
      rw [PyData.shownAll, listText_nil] at q
      have h0 : Dp X.K H (.ref a) (.list []) := by
        cases rv
        exact .lst hl .nil
      have e0 : (PyData.list []).shown = ("[]" : Str) := by decide +kernel
      refine call_reprD hg hu pins s σ H [.ref a] [.ref a] Q I (.cons rfl .nil) ⟨.ref a, .list [], rfl, h0, by decide +kernel, by decide +kernel, by decide +kernel, by decide +kernel, ?_⟩
      rw [e0]
      exact q
    | cons x l =>
      refine call_repr_slot (by omega) (show s.TypeIs (.ref a) "list" from ⟨o, ho, hc⟩) F.slot_list_repr.toG ?_
      exact call_list_reprK ho hc hd na (by simpa using k.length_eq) (fun i y e => k.item i y (by simpa using e)) (A := X.A.in1) hg (fun b _ => Clear.nil b) (by show X.A.units + 1 + (PyData.depthAll ds + 1) < cLine; omega) (fun _ _ e => e) (fun h' u tk hk => ⟨_, _, rfl, .str _, H, I.kept (t' := tk) hk, ⟨_, rfl⟩, q⟩) hz
  | @tup a vs ds hl h =>
    cases ru
    obtain ⟨its, rv, ⟨o, ho, hc, n, hd⟩, _⟩ := I.tuple hl
    rw [PyData.shown] at hz q
    rw [PyData.depth] at dep
    obtain ⟨as, bs, r2, m, k⟩ := DgAll.sh I h rv (by rw [PyData.showable] at hs; exact hs) fun t ht => Nat.le_trans (tupleText_mem_le ht) hz
    have rd : Reads s.heap (.ref a) (.tuple ds) as := .tuple ho hc hd (by simpa using r2)
    have na : a ∉ bs := not_mem_of_deeper rd (by rw [PyData.depth]; omega) m
    refine call_repr_slot (by omega) (show s.TypeIs (.ref a) "tuple" from ⟨o, ho, hc⟩) F.slot_tuple_repr ?_
    exact call_tuple_reprK ho hc hd na (by simpa using k) (A := X.A.in1) hg (fun b _ => Clear.nil b) (by show X.A.units + 1 + (PyData.depthAll ds + 1) < cLine; omega) (fun _ _ e => e) (fun h' u tk hk => ⟨_, _, rfl, .str _, H, I.kept (t' := tk) hk, ⟨_, rfl⟩, q⟩) hz
  | @dct a kvs ps ha hk h =>
    cases ru
    obtain ⟨_, hn, vs, kv, o, es, ep, ho, ed, hd, _, hp, _⟩ := L2.dk_of I.hok ha
    rw [PyData.shown] at hz q
    rw [PyData.showable] at hs
    rw [PyData.depth] at dep
    obtain ⟨s1, s2⟩ := PyData.showableKv_split ps hs
    have zk : ∀ t ∈ PyData.shownAll (ps.map (·.1)), t.length ≤ sizeLine := fun t ht => by
      obtain ⟨p, hp, hl⟩ := PyData.shownKv_key_le ps t ht
      exact Nat.le_trans hl (Nat.le_trans (dictText_mem_le hp) hz)
    have zv : ∀ t ∈ PyData.shownAll (ps.map (·.2)), t.length ≤ sizeLine := fun t ht => by
      obtain ⟨p, hp, hl⟩ := PyData.shownKv_val_le ps t ht
      exact Nat.le_trans hl (Nat.le_trans (dictText_mem_le hp) hz)
    have b2 := DgAll.sh I h (kv_vals kv) s2 zv
    rw [← pairs_vals hp] at b2
    obtain ⟨_, bs, na, ek⟩ := ShK.dict ho ed.1 hd hn (key_sh hp (by rw [hk, kv_keys kv]) s1 zk) b2
    refine call_repr_slot (by omega) (show s.TypeIs (.ref a) "dict" from ⟨o, ho, ed.1⟩) F.slot_dict_repr ?_
    exact call_dict_reprK ho ed.1 hd hn na ek (A := X.A.in1) hg (fun b _ => Clear.nil b) (by show X.A.units + 1 + (PyData.depthKv ps + 1) < cLine; omega) (fun _ _ e => e) (fun h' u tk hk => ⟨_, _, rfl, .str _, H, I.kept (t' := tk) hk, ⟨_, rfl⟩, q⟩) hz
end WP
namespace WP
open PySem L2 PySem.Spec PyProof.Rows
section
variable {P : Program} {w : World} {A : Around} {R : Result → Shared → Prop} {s : Shared} {kx vx t0 i0 t1 i1 : Expr} {f0 f1 : List Expr} {sc : Scope} {pos : Pos} {it : Value} {D : Addr} {env : Env}
abbrev nb (P : Program) (w : World) (A : Around) (env : Env) (R : Result → Shared → Prop) : Value → Shared → Prop := notedBy (model P w) A env fun e s' => R (.error e) s'
end
end WP
namespace WP
open PySem L2 PySem.Spec PyProof.Rows
end WP
namespace WP
open PySem L2 PySem.Spec PyProof.Rows
/-- the place of the last plain file -/
def RootI (m : MdD) (w : List Str) (i : Nat) : Prop := ∃ x, w[i]? = some x ∧ ownF m.files x = false ∧ ∀ (j : Nat) y, i < j → w[j]? = some y → ownF m.files y = true
theorem RootI.uniq {m : MdD} {w : List Str} {i j : Nat} (h : RootI m w i) (g : RootI m w j) : i = j := by
  obtain ⟨x, h1, h2, h3⟩ := h
  obtain ⟨y, g1, g2, g3⟩ := g
  rcases Nat.lt_trichotomy i j with z | z | z
  · have := h3 j y z g1
    rw [g2] at this
    cases this
  · exact z
  · have := g3 i x z h1
    rw [h2] at this
    cases this
structure Rg (d : PyData) (dep len : Nat) : Prop where
  sh : d.showable = true
  dp : d.depth ≤ dep
  ln : d.shown.length ≤ len
theorem Rg.d40 {d : PyData} {a b : Nat} (h : Rg d a b) (h1 : a ≤ 40 := by decide) : d.depth ≤ 40 := Nat.le_trans h.dp h1
theorem Rg.lnS {d : PyData} {a b : Nat} (h : Rg d a b) (h1 : b ≤ 100000 := by decide) : d.shown.length ≤ sizeLine := Nat.le_trans h.ln (by rw [sizeLine_eq]; omega)
theorem Rp.rg {d : PyData} {a b : Nat} (h : Rp d a b) : Rg d a b := ⟨h.sh, h.dp, h.ln⟩
theorem Rg.mono {d : PyData} {a b x y : Nat} (h : Rg d a x) (h1 : a ≤ b) (h2 : x ≤ y) : Rg d b y := ⟨h.sh, by have := h.dp; omega, by have := h.ln; omega⟩
theorem rgKv {ps : List (PyData × PyData)} {dep len : Nat} (h1 : ∀ p ∈ ps, Rg p.1 dep len) (h2 : ∀ p ∈ ps, Rg p.2 dep len) : PyData.showableKv ps = true ∧ PyData.depthKv ps ≤ dep ∧ piled (PyData.shownKv ps) ≤ ps.length * (2 * len + 4) := by
  induction ps with
  | nil => exact ⟨by simp [PyData.showableKv], by simp [PyData.depthKv], by simp [PyData.shownKv, piled]⟩
  | cons p r ih =>
    obtain ⟨a1, a3, a4⟩ := ih (fun x hx => h1 x (List.mem_cons_of_mem _ hx)) (fun x hx => h2 x (List.mem_cons_of_mem _ hx))
    have b := h1 p List.mem_cons_self
    have c := h2 p List.mem_cons_self
    obtain ⟨k, v⟩ := p
    have b : Rg k dep len := b
    have c : Rg v dep len := c
    refine ⟨?_, ?_, ?_⟩
    · simp only [PyData.showableKv, a1, b.sh, c.sh]; rfl
    · have := b.dp
      have := c.dp
      simp only [PyData.depthKv]
      omega
    · have := b.ln
      have := c.ln
      have e : (": " : Str).length = 2 := by decide
      rw [PyData.shownKv, piled_cons, List.length_cons, Nat.add_mul, Str.length_append, Str.length_append, e]
      omega
theorem Rg.dict {ps : List (PyData × PyData)} {dep len n : Nat} (h1 : ∀ p ∈ ps, Rg p.1 dep len) (h2 : ∀ p ∈ ps, Rg p.2 dep len) (hn : ps.length ≤ n) : Rg (.dict ps) (dep + 1) (n * (2 * len + 4) + 2) := by
  obtain ⟨a1, a3, a4⟩ := rgKv h1 h2
  refine ⟨by rw [PyData.showable]; exact a1, by rw [PyData.depth]; omega, ?_⟩
  rw [PyData.shown]
  have := Nat.mul_le_mul_right (2 * len + 4) hn
  unfold dictText
  rw [Str.length_append, Str.length_append]
  have h7 : ("{" : Str).length = 1 := by decide
  have h8 : ("}" : Str).length = 1 := by decide
  by_cases he : PyData.shownKv ps = []
  · rw [he]
    have : (Str.join ", " []).length = 0 := by decide
    omega
  · have h6 := join_length_add _ he
    omega
def staysK (ss : List (Str × Option Int)) : List (Key × V) := ss.map fun p => (.inr p.1, optI p.2)
end WP
namespace WP
open PySem L2 PySem.Spec PyProof.Rows
theorem cut_from (xs : List V) (i : Nat) : cutV xs (some (i : Int)) none = xs.drop i := by
  unfold cutV
  have e1 : HT.sIx xs.length 0 (some (i : Int)) = min i xs.length := by
    show (if ((i : Nat) : Int) < 0 then (((i : Nat) : Int) + (xs.length : Int)).toNat else min ((i : Nat) : Int).toNat xs.length) = _
    rw [if_neg (by omega), Int.toNat_natCast]
  rw [e1, show HT.sIx xs.length xs.length none = xs.length from rfl]
  by_cases h : i ≤ xs.length
  · rw [Nat.min_eq_left h, List.take_of_length_le (by rw [List.length_drop]; omega)]
  · rw [Nat.min_eq_right (by omega), List.drop_of_length_le (Nat.le_refl _), List.drop_of_length_le (by omega), List.take_nil]
end WP
namespace WP
open PySem L2 PySem.Spec PyProof.Rows
def nnB (s : SiteD) : List V → List V → Option V
  | _, [] => none
  | acc, x :: r => if (!hasF s x || decide (x ∈ acc)) = true then some x else nnB s (acc ++ [x]) r
theorem hasF_str {s : SiteD} {x : V} (h : hasF s x = true) : ∃ n, x = .str n := by
  cases x with
  | str n => exact ⟨n, rfl⟩
  | _ => cases h
/-- right so far: texts, all different, all files -/
def PreOk (s : SiteD) (acc : List V) : Prop := ∃ ns : List Str, acc = ns.map V.str ∧ ns.Nodup ∧ ∀ n ∈ ns, hasF s (.str n) = true
theorem PreOk.nil {s : SiteD} : PreOk s [] := ⟨[], rfl, List.nodup_nil, fun n h => by cases h⟩
theorem PreOk.snoc {s : SiteD} {acc : List V} {x : V} (h : PreOk s acc) (hx : (!hasF s x || decide (x ∈ acc)) = false) : PreOk s (acc ++ [x]) := by
  obtain ⟨ns, rfl, h2, h3⟩ := h
  rw [Bool.or_eq_false_iff] at hx
  have hf : hasF s x = true := by simpa using hx.1
  obtain ⟨n, rfl⟩ := hasF_str hf
  have hn : n ∉ ns := fun z => by
    have := of_decide_eq_false hx.2
    exact this (List.mem_map.mpr ⟨n, z, rfl⟩)
  refine ⟨ns ++ [n], by rw [List.map_append]; rfl, List.nodup_append.mpr ⟨h2, by simp, fun a ha b hb => ?_⟩, fun a ha => ?_⟩
  · rw [List.mem_singleton.mp hb]
    exact fun e => hn (e ▸ ha)
  · rcases List.mem_append.mp ha with z | z
    · exact h3 a z
    · rw [List.mem_singleton.mp z]
      exact hf
end WP
namespace WP
open PySem L2 PySem.Spec PyProof.Rows
theorem WayI.par {t : List (Str × Option Str)} {x : Str} {l : List Str} (h : WayI t x l) : ∀ {j : Nat} {p a : Str}, l[j]? = some p → l[j + 1]? = some a → (a, some p) ∈ t := by
  induction h with
  | one => intro j p a h1 h2; cases j <;> cases h2
  | up _ hp ih =>
    intro j p a h1 h2
    cases j with
    | zero =>
      cases h1
      cases h2
      exact hp
    | succ j => exact ih h1 h2
theorem WayI.last {t : List (Str × Option Str)} {x : Str} {l : List Str} (h : WayI t x l) : l[l.length - 1]? = some x := by
  induction h with
  | one => rfl
  | @up a r p hw _ ih =>
    simp only [List.length_cons, Nat.add_sub_cancel] at ih ⊢
    rw [List.getElem?_cons_succ]
    exact ih
def RootOf (m : MdD) (e n x : Str) : Prop := ∃ t l i, TreeOf m.files e t ∧ WayE t n l ∧ RootI m l.dropLast i ∧ l.dropLast[i]? = some x
def Rts (m : MdD) (es : List Str) (n x : Str) : Prop := ∃ e ∈ es, inW m.files e n ∧ RootOf m e n x
theorem RootOf.uniq {m : MdD} (ok : MdOk m) {e n x : Str} {t : List (Str × Option Str)} {l : List Str} {i : Nat} {y : Str} (h : RootOf m e n x) (T : TreeOf m.files e t) (W : WayE t n l) (R : RootI m l.dropLast i) (hy : l.dropLast[i]? = some y) : x = y := by
  obtain ⟨t', l', i', T', W', R', hx⟩ := h
  have el := WayE.uni T.nd (W'.to fun x p => (T'.iff T ok.no x p).mp) W
  subst el
  rw [R'.uniq R, hy] at hx
  exact (Option.some.inj hx).symm
def RtsL (m : MdD) (n : Str) (ys : List Str) : Prop := (∀ y, y ∈ ys ↔ ownF m.files n = true ∧ Rts m m.entries n y) ∧ ys.Nodup ∧ sortedS ys = true
theorem RtsL.uniq {m : MdD} {n : Str} {ys zs : List Str} (h : RtsL m n ys) (g : RtsL m n zs) : ys = zs := by
  refine sorted_uniq ((List.perm_ext_iff_of_nodup h.2.1 g.2.1).mpr fun x => ?_) h.2.2 g.2.2
  rw [h.1, g.1]
theorem Rts.key {m : MdD} (ok : MdOk m) {es : List Str} (hs : ∀ e ∈ es, e ∈ m.entries) {n x : Str} (h : Rts m es n x) : x ∈ m.files.map (·.1) := by
  obtain ⟨e, he, hn, t, l, i, T, W, _, hx⟩ := h
  have : x ∈ l := (List.dropLast_sublist _).subset (List.mem_of_getElem? hx)
  exact ok.wkey (hs e he) ((T.mem x).mp ((W.1.keys T ok.no W.key).2.1 x this))
end WP
namespace WP
open PySem L2 PySem.Spec PyProof.Rows LamX
structure Mk (P : Program) (w : World) (K : PySem.W.Frag) (mg : Str → Option Value) (base : Heap) (CX : CXT) (k : Nat) (C : Addr) (m : Str) (ps ks : List Str) (gV : List V → List V → List V) (sp : Sp) : Prop where
  cl : Cls K C
  ex : ∃ f fd g, Meth K C m f ∧ FnOk P w K mg base CX k f fd ps sp ∧ KBn K fd ps 1 ks g gV
def rEqN (K : PySem.W.Frag) : R2 := fun x y H Q => ∃ a b xs, x = .ref a ∧ y = .ref b ∧ SqL K H a xs ∧ SqL K H b [] ∧ Q (.bl xs.isEmpty) H
def rNeN (K : PySem.W.Frag) : R2 := fun x y H Q => ∃ a b xs, x = .ref a ∧ y = .ref b ∧ SqL K H a xs ∧ SqL K H b [] ∧ Q (.bl (!xs.isEmpty)) H
mutual
inductive Vd (H : Hp) : V → PyData → Prop
  | non : Vd H .non .none
  | bl (b : Bool) : Vd H (.bl b) (.bool b)
  | int (i : Int) : Vd H (.int i) (.int i)
  | str (x : Str) : Vd H (.str x) (.str x)
  | lst {a : Addr} {vs : List V} {ds : List PyData} : H a = some (.lst vs) → VdAll H vs ds → Vd H (.ref a) (.list ds)
  | tup {a : Addr} {vs : List V} {ds : List PyData} : H a = some (.tup vs) → VdAll H vs ds → Vd H (.ref a) (.tuple ds)
  | dct {a : Addr} {kvs : List (Key × V)} {ps : List (PyData × PyData)} : H a = some (.dK kvs) → ps.map (·.1) = kvs.map (fun p => keyP p.1) → VdAll H (kvs.map (·.2)) (ps.map (·.2)) → Vd H (.ref a) (.dict ps)
inductive VdAll (H : Hp) : List V → List PyData → Prop
  | nil : VdAll H [] []
  | cons {v : V} {d : PyData} {vs : List V} {ds : List PyData} : Vd H v d → VdAll H vs ds → VdAll H (v :: vs) (d :: ds)
end
mutual
theorem Vd.ext {H H' : Hp} (s : ExtN H H') : ∀ {v : V} {d : PyData}, Vd H v d → Vd H' v d
  | _, _, .non => .non
  | _, _, .bl b => .bl b
  | _, _, .int i => .int i
  | _, _, .str x => .str x
  | _, _, .lst h t => .lst (s _ _ h fun _ z => by cases z) (VdAll.ext s t)
  | _, _, .tup h t => .tup (s _ _ h fun _ z => by cases z) (VdAll.ext s t)
  | _, _, .dct h k t => .dct (s _ _ h fun _ z => by cases z) k (VdAll.ext s t)
theorem VdAll.ext {H H' : Hp} (s : ExtN H H') : ∀ {vs : List V} {ds : List PyData}, VdAll H vs ds → VdAll H' vs ds
  | _, _, .nil => .nil
  | _, _, .cons h t => .cons (Vd.ext s h) (VdAll.ext s t)
end
theorem Vd.same {H H' : Hp} {v : V} {d : PyData} (h : Vd H v d) (s : Same H H') : Vd H' v d := h.ext (.of s)
theorem VdAll.same {H H' : Hp} {v : List V} {d : List PyData} (h : VdAll H v d) (s : Same H H') : VdAll H' v d := h.ext (.of s)
mutual
theorem Vd.dg {K : PySem.W.Frag} {H : Hp} : ∀ {v : V} {d : PyData}, Vd H v d → Dg K H v d
  | _, _, .non => .dp .non rfl
  | _, _, .bl b => .dp (.bl b) rfl
  | _, _, .int i => .dp (.int i) rfl
  | _, _, .str x => .dp (.str x) rfl
  | _, _, .lst h t => .lst (SqL.of h) (VdAll.dg t)
  | _, _, .tup h t => .tup (SqT.of h) (VdAll.dg t)
  | _, _, .dct h k t => .dct h k (VdAll.dg t)
theorem VdAll.dg {K : PySem.W.Frag} {H : Hp} : ∀ {vs : List V} {ds : List PyData}, VdAll H vs ds → DgAll K H vs ds
  | _, _, .nil => .nil
  | _, _, .cons h t => .cons (Vd.dg h) (VdAll.dg t)
end
def kdD : PyData → Kd
  | .bool _ => .bl | .int _ => .int | .str _ => .str | .list _ => .lst | .tuple _ => .tup | .dict _ => .dct | _ => .non
theorem Vd.any {K : PySem.W.Frag} {H : Hp} {v : V} {d : PyData} (h : Vd H v d) : Any K H v (kdD d) := by
  cases h with
  | non => exact .non
  | bl b => exact .bl b
  | int i => exact .int i
  | str x => exact .str x
  | lst h _ => exact .lst h
  | tup h _ => exact .tup h
  | dct h _ _ => exact .dct h
theorem Vd.anyN {K : PySem.W.Frag} {H : Hp} {v : V} {d : PyData} (h : Vd H v d) (hz : ∀ z, d = .str z → z.length ≤ sizeLine) : AnyN K H v := ⟨_, h.any, fun z e => by
  subst e
  cases h
  exact hz z rfl⟩
theorem VdAll.app {H : Hp} : ∀ {vs us : List V} {ds es : List PyData}, VdAll H vs ds → VdAll H us es → VdAll H (vs ++ us) (ds ++ es)
  | [], _, _, _, .nil, h => h
  | _ :: _, _, _, _, .cons a b, h => .cons a (VdAll.app b h)
theorem VdAll.one {H : Hp} {v : V} {d : PyData} (h : Vd H v d) : VdAll H [v] [d] := .cons h .nil
theorem VdAll.snoc {H : Hp} {vs : List V} {ds : List PyData} {v : V} {d : PyData} (h : VdAll H vs ds) (g : Vd H v d) : VdAll H (vs ++ [v]) (ds ++ [d]) := h.app (.one g)
theorem VdAll.at {H : Hp} {vs : List V} {ds : List PyData} (h : VdAll H vs ds) : ∀ {i : Nat} {v : V}, vs[i]? = some v → ∃ d, ds[i]? = some d ∧ Vd H v d := by
  induction vs generalizing ds with
  | nil => intro i v e; cases e
  | cons x r ih =>
    cases h with
    | cons a b =>
      intro i v e
      cases i with
      | zero => cases e; exact ⟨_, rfl, a⟩
      | succ j => exact ih b e
theorem VdAll.len {H : Hp} {vs : List V} {ds : List PyData} (h : VdAll H vs ds) : vs.length = ds.length := by
  induction vs generalizing ds with
  | nil => cases h; rfl
  | cons x r ih =>
    cases h with
    | cons a b => rw [List.length_cons, List.length_cons, ih b]
theorem VdAll.strs {H : Hp} : ∀ (ns : List Str), VdAll H (ns.map V.str) (ns.map PyData.str)
  | [] => .nil
  | n :: r => .cons (.str n) (VdAll.strs r)
theorem VdAll.init {H : Hp} : ∀ {vs : List V} {v : V} {ds : List PyData} {d : PyData}, VdAll H (vs ++ [v]) (ds ++ [d]) → VdAll H vs ds ∧ Vd H v d
  | [], v, [], d, h => by cases h with | cons a b => exact ⟨.nil, a⟩
  | [], v, e :: ds, d, h => by
    have := h.len
    simp at this
  | x :: vs, v, [], d, h => by
    have := h.len
    simp at this
  | x :: vs, v, e :: ds, d, h => by
    cases h with
    | cons a b => exact ⟨.cons a b.init.1, b.init.2⟩
/-- values that are being listed, while draws stand -/
structure Vs (d w c : Addr) (B : Int) (H0 H : Hp) (vs : List V) (es : List PyData) : Prop where
  ds : Ds d w c B H0 H
  al : VdAll (hd2 d w H) vs es
section
variable {d w c p : Addr} {B : Int} {H0 H H' : Hp} {vs : List V} {es : List PyData}
theorem Vs.start (h : Dr d w c B H) : Vs d w c B H H [] [] := ⟨⟨h, Same.refl _⟩, .nil⟩
theorem Vs.of (h : Ds d w c B H0 H) : Vs d w c B H0 H [] [] := ⟨h, .nil⟩
theorem Vs.add {v : V} {e : PyData} (O : Vs d w c B H0 H vs es) (h : Vd (hd2 d w H) v e) : Vs d w c B H0 H (vs ++ [v]) (es ++ [e]) := ⟨O.ds, O.al.snoc h⟩
theorem Vs.same (O : Vs d w c B H0 H vs es) (s : Same H H') : Vs d w c B H0 H' vs es := ⟨O.ds.same s, O.al.same (hd2_same s)⟩
theorem Vs.new {o : HO} (O : Vs d w c B H0 H vs es) (hp : H p = none) : Vs d w c B H0 (upd H p o) vs es := O.same (Evl.Ex.new hp)
theorem Vs.at {o : HO} (O : Vs d w c B H0 H vs es) (hp : H p = none) : hd2 d w (upd H p o) p = some o := O.ds.at hp
theorem Vs.n (O : Vs d w c B H0 H vs es) : Vs d w c B H0 H (vs ++ [.non]) (es ++ [.none]) := O.add .non
theorem Vs.b (O : Vs d w c B H0 H vs es) (b : Bool) : Vs d w c B H0 H (vs ++ [.bl b]) (es ++ [.bool b]) := O.add (.bl b)
theorem Vs.i (O : Vs d w c B H0 H vs es) (i : Int) : Vs d w c B H0 H (vs ++ [.int i]) (es ++ [.int i]) := O.add (.int i)
theorem Vs.s (O : Vs d w c B H0 H vs es) (z : Str) : Vs d w c B H0 H (vs ++ [.str z]) (es ++ [.str z]) := O.add (.str z)
theorem Vs.l0 (O : Vs d w c B H0 H vs es) (hp : H p = none) : Vs d w c B H0 (upd H p (.lst [])) (vs ++ [.ref p]) (es ++ [.list []]) := (O.new hp).add (.lst (O.at hp) .nil)
theorem Vs.t0 (O : Vs d w c B H0 H vs es) (hp : H p = none) : Vs d w c B H0 (upd H p (.tup [])) (vs ++ [.ref p]) (es ++ [.tuple []]) := (O.new hp).add (.tup (O.at hp) .nil)
theorem Vs.d0 (O : Vs d w c B H0 H vs es) (hp : H p = none) : Vs d w c B H0 (upd H p (.dK [])) (vs ++ [.ref p]) (es ++ [.dict []]) := (O.new hp).add (.dct (O.at hp) rfl .nil)
theorem Vs.l1 {v : V} {e : PyData} (O : Vs d w c B H0 H (vs ++ [v]) (es ++ [e])) (hp : H p = none) : Vs d w c B H0 (upd H p (.lst [v])) (vs ++ [.ref p]) (es ++ [.list [e]]) := by
  have O' := O.new (o := .lst [v]) hp
  obtain ⟨a, b⟩ := O'.al.init
  exact ⟨O'.ds, a.snoc (.lst (O.at hp) (.one b))⟩
theorem Vs.t1 {v : V} {e : PyData} (O : Vs d w c B H0 H (vs ++ [v]) (es ++ [e])) (hp : H p = none) : Vs d w c B H0 (upd H p (.tup [v])) (vs ++ [.ref p]) (es ++ [.tuple [e]]) := by
  have O' := O.new (o := .tup [v]) hp
  obtain ⟨a, b⟩ := O'.al.init
  exact ⟨O'.ds, a.snoc (.tup (O.at hp) (.one b))⟩
/-- {k: v}, displayed -/
theorem Vs.d1 {k : Str} {v : V} {e : PyData} (O : Vs d w c B H0 H (vs ++ [v]) (es ++ [e])) (hp : H p = none) : Vs d w c B H0 (upd H p (.dK [(.inr k, v)])) (vs ++ [.ref p]) (es ++ [.dict [(.str k, e)]]) := by
  have O' := O.new (o := .dK [(.inr k, v)]) hp
  obtain ⟨a, b⟩ := O'.al.init
  exact ⟨O'.ds, a.snoc (.dct (O.at hp) rfl (.one b))⟩
theorem Vs.own (O : Vs d w c B H0 H vs es) (hp : H p = none) : Vs d w c B H0 (upd H p (.lst vs)) vs es ∧ hd2 d w (upd H p (.lst vs)) p = some (.lst vs) := ⟨O.new hp, O.at hp⟩
end
/-- one of some drawn values -/
def spOddD (es : List PyData) : Sp := fun vs H Q _ => ∃ (d w c : Addr) (B : Int), vs = [.ref d] ∧ Dr d w c B H ∧ B ≤ 2 ^ 38 ∧ ∀ (v : V) (e : PyData) H', e ∈ es → Vd (hd2 d w H') v e → Ds d w c (B + 1) H H' → Q v H'
def shOk (e : PyData) : Bool := e.showable && decide (e.depth ≤ 4) && decide (e.shown.length ≤ 200)
theorem shOk.rg {e : PyData} (h : shOk e = true) : Rg e 4 200 := by
  unfold shOk at h
  simp only [Bool.and_eq_true, decide_eq_true_eq] at h
  exact ⟨h.1.1, h.1.2, h.2⟩
end WP
namespace WP
open PySem L2 PySem.Spec PyProof.Rows LamX
theorem op_eqN {X : Cx} (hu : X.A.units + 64 < cLine) : OpR X (compareOp .Eq) (rEqN X.K) := by
  intro pins s σ H x y v u Q I rx ry h
  obtain ⟨a, b, xs, rfl, rfl, ha, hb, q⟩ := h
  cases xs with
  | nil => exact op_eqD hu pins s σ H _ _ v u Q I rx ry ⟨_, _, .lst ha .nil, .lst hb .nil, shN, shN, by rw [eqv_nil]; exact q⟩
  | cons z r =>
    cases rx
    cases ry
    obtain ⟨its, r1, pl, _⟩ := I.list ha
    obtain ⟨its2, r2, pl2, _⟩ := I.list hb
    refine SeqAt.eq_list_lengthsAt pl.isList pl2.isList ?_ (by omega) ⟨.bl _, H, I, rfl, q⟩
    have l1 := r1.length
    have l2 := r2.length
    simp only [List.size_toArray, bne_iff_ne, ne_eq]
    simp only [List.length_cons, List.length_nil] at l1 l2
    omega
end WP
namespace WP
open PySem L2 PySem.Spec PyProof.Rows LamX
theorem ix_seqE {X : Cx} {K : PySem.W.Frag} (hK : X.K = K) : IxR X (fun x y H Q => rIxL K x y H Q ∨ rIxT K x y H Q) := by
  subst hK
  intro value slice pins s σ H x y v u Q I rx ry h hs
  rcases h with h | h
  · exact ix_list value slice pins s σ H x y v u Q I rx ry h hs
  · exact ix_tup value slice pins s σ H x y v u Q I rx ry h hs
theorem merge1 {k : Key} {v : V} : mergeK [] [(k, v)] = [(k, v)] := by
  rw [mergeK_new dv0]
  rfl
/-- what is known of a value that is handed over as a list of files -/
structure BentE (e : PyData) : Prop where
  rg : Rg e 10 20000
  st : ∀ z, e = .str z → z.length ≤ 100
  it : ∀ es, (e = .list es ∨ e = .tuple es) → es.length ≤ 20 ∧ ∀ f ∈ es, Rg f 4 200 ∧ ∀ z, f = .str z → z.length ≤ 100
end WP
namespace WP
open PySem L2 PySem.Spec PyProof.Rows
section
variable {X : Cx} {CX : CXT} {k : Nat} {C : Addr} {m : Str} {ps : List Str} {sp : Sp} {E : XK} {o e : Expr} {es : List Expr} {ta : TE} {t : TA} {apos pos : Pos}
/-- what a method raises is handed on (in a lambda; in a def that may raise) -/
theorem passE {E' : XK} (tk : Takes X (fun cls d _ H => E' cls d H)) : Passes (L2.CX X.prog X.w) X E' := passes_call tk (fun _ _ _ _ h => h)
end
end WP
namespace WP
open PySem L2 PySem.Spec PyProof.Rows LamX
theorem rgAll {ds : List PyData} {dep len : Nat} (h : ∀ d ∈ ds, Rg d dep len) : PyData.showableAll ds = true ∧ PyData.depthAll ds ≤ dep ∧ piled (PyData.shownAll ds) ≤ ds.length * (len + 2) := by
  induction ds with
  | nil => exact ⟨rfl, Nat.zero_le _, by simp [PyData.shownAll, piled]⟩
  | cons d r ih =>
    obtain ⟨a1, a3, a4⟩ := ih fun x hx => h x (List.mem_cons_of_mem _ hx)
    have b := h d List.mem_cons_self
    refine ⟨?_, ?_, ?_⟩
    · simp only [PyData.showableAll, a1, b.sh]; rfl
    · have := b.dp
      simp only [PyData.depthAll]
      omega
    · have := b.ln
      rw [PyData.shownAll, piled_cons, List.length_cons, Nat.add_mul]
      omega
theorem Rg.list {ds : List PyData} {dep len n : Nat} (h : ∀ d ∈ ds, Rg d dep len) (hn : ds.length ≤ n) : Rg (.list ds) (dep + 1) (n * (len + 2) + 2) := by
  obtain ⟨a1, a3, a4⟩ := rgAll h
  refine ⟨by rw [PyData.showable]; exact a1, by rw [PyData.depth]; omega, ?_⟩
  rw [PyData.shown]
  refine Nat.le_trans (listText_up _) ?_
  have := Nat.mul_le_mul_right (len + 2) hn
  omega
theorem Rg.tuple {ds : List PyData} {dep len n : Nat} (h : ∀ d ∈ ds, Rg d dep len) (hn : ds.length ≤ n) : Rg (.tuple ds) (dep + 1) (n * (len + 2) + 10) := by
  obtain ⟨a1, a3, a4⟩ := rgAll h
  refine ⟨by rw [PyData.showable]; exact a1, by rw [PyData.depth]; omega, ?_⟩
  rw [PyData.shown]
  have := Nat.mul_le_mul_right (len + 2) hn
  cases ds with
  | nil => simp only [PyData.shownAll]; exact Nat.le_trans (by decide) (Nat.le_add_left 10 _)
  | cons d r =>
    have h5 : PyData.shownAll (d :: r) ≠ [] := by simp [PyData.shownAll]
    have h6 := join_length_add _ h5
    unfold tupleText
    rw [Str.length_append, Str.length_append]
    have h7 : ("(" : Str).length = 1 := by decide
    have h8 : (Str.ofString (if (PyData.shownAll (d :: r)).length == 1 then ",)" else ")" : String)).length ≤ 2 := by split <;> decide
    rw [h7]
    omega
theorem SiteAt.ins {K : PySem.W.Frag} {CS CF a : Addr} {H : Hp} {s : SiteD} (h : SiteAt K CS CF H (.ref a) s) : ∃ dx d1 d2 ct, H a = some (.ins CS dx [("own_files", d1), ("own_trees", d2), ("own_counts", ct)]) := by
  obtain ⟨a', dx, d1, d2, kvs, e, h1, _⟩ := h
  cases e
  exact ⟨_, _, _, _, h1⟩
section
variable {K : PySem.W.Frag} {CS CF CN : Addr} {H : Hp} {v x : V} {s : SiteD} {m : MdD} {Q : VK} {E : XK}
/-- what is told of a value as a list of files: none, if it is one -/
def TellF (K : PySem.W.Frag) (s : SiteD) (H : Hp) (v : V) (e : PyData) (o : Option V) : Prop := (((kdD e).isLst || (kdD e).isTup) = false ∧ o = some v) ∨ (((kdD e).isLst || (kdD e).isTup) = true ∧ ∃ a xs, v = .ref a ∧ (H a = some (.lst xs) ∨ H a = some (.tup xs)) ∧ xs.length ≤ 1000 ∧ (∀ y ∈ xs, AnyN K H y) ∧ o = nnB s [] xs)
theorem AnyN.ext {H' : Hp} {y : V} (h : AnyN K H y) (e : ExtN H H') : AnyN K H' y := by
  obtain ⟨k, h1, h2⟩ := h
  exact ⟨k, h1.ext e, h2⟩
theorem TellF.ext {H' : Hp} {e : PyData} {o : Option V} (t : TellF K s H v e o) (x : ExtN H H') : TellF K s H' v e o := by
  rcases t with t | ⟨h1, a, xs, h2, h3, h4, h5, h6⟩
  · exact .inl t
  · exact .inr ⟨h1, a, xs, h2, h3.imp (fun z => x _ _ z fun _ z => by cases z) (fun z => x _ _ z fun _ z => by cases z), h4, fun y hy => (h5 y hy).ext x, h6⟩
theorem TellF.same {H' : Hp} {e : PyData} {o : Option V} (t : TellF K s H v e o) (x : Same H H') : TellF K s H' v e o := t.ext (.of x)
end
end WP
namespace WP
open PySem PySem.Spec PyProof.Rows L2 LamX
end WP
namespace WP
open PySem L2 PySem.Spec PyProof.Rows LamX
section
variable {K : PySem.W.Frag} {H H' : Hp}
theorem PgM.ext {v : V} {f : FileD} (h : PgM K H v f) (s : ExtN H H') : PgM K H' v f := by
  obtain ⟨a, r, k, e, h1, h2, h3⟩ := h
  exact ⟨a, r, k, e, s _ _ h1 (fun _ z => by cases z), s _ _ h2 (fun _ z => by cases z), s _ _ h3 (fun _ z => by cases z)⟩
theorem PgsM.ext {kvs : List (Key × V)} {fs : List (Str × FileD)} (h : PgsM K H kvs fs) (s : ExtN H H') : PgsM K H' kvs fs := by
  induction h with
  | nil => exact .nil
  | cons a _ ih => exact .cons (a.ext s) ih
theorem MdAt.ext {v : V} {m : MdD} (h : MdAt K H v m) (s : ExtN H H') : MdAt K H' v m := by
  obtain ⟨a, dF, eT, kvs, e, h1, h2, h3, h4⟩ := h
  exact ⟨a, dF, eT, kvs, e, s _ _ h1 (fun _ z => by cases z), s _ _ h2 (fun _ z => by cases z), h3.ext s, s _ _ h4 (fun _ z => by cases z)⟩
theorem Tabs.put {T : List (Addr × Str)} {H : Hp} {q : Addr} {xs : List V} {o : HO} (t : LamX.Tabs T H) (hp : H q = some (.lst xs)) : LamX.Tabs T (upd H q o) := by
  intro p hpT
  obtain ⟨ps, e1, e2, e3⟩ := t p hpT
  refine ⟨ps, by rw [upd_ne (fun z => by rw [z, hp] at e1; cases e1)]; exact e1, e2, fun pos cv hc => ?_⟩
  obtain ⟨cc, e4, e5⟩ := e3 pos cv hc
  exact ⟨cc, e4, by rw [upd_ne (fun z => by rw [z, hp] at e5; unfold CodeO at e5; cases e5)]; exact e5⟩
/-- free, but for tables -/
def FreeT (H : Hp) (p : Addr) : Prop := ∀ o, H p = some o → ∃ ps, o = .tbl ps
theorem freeT {H0 H : Hp} {p : Addr} (e : ExtN H0 H) (h : H p = none) : FreeT H0 p := fun o ho => by
  by_cases z : ∃ ps, o = .tbl ps
  · exact z
  · have := e p o ho fun ps w => z ⟨ps, w⟩
    rw [h] at this
    cases this
theorem extN_mut {H0 H : Hp} {p : Addr} {o : HO} (e : ExtN H0 H) (h : FreeT H0 p) : ExtN H0 (upd H p o) := fun b u hb hn => by
  rw [upd_ne (fun z => by
    rw [z] at hb
    obtain ⟨ps, w⟩ := h u hb
    exact hn ps w)]
  exact e b u hb hn
end
/-- the list of what was refused so far, at F0, made behind H0 -/
structure Fnd (T : List (Addr × Str)) (H0 H : Hp) (F0 : Addr) (rs : List Addr) (ws : List (Str × V)) : Prop where
  ex : ExtN H0 H
  n0 : FreeT H0 F0
  tb : Tabs T H
  fl : H F0 = some (.lst (rs.map V.ref))
  al : All2 (fun (r : Addr) (w : Str × V) => H r = some (.lst [.str w.1, w.2])) rs ws
section
variable {T : List (Addr × Str)} {H0 H H' H2 : Hp} {F0 p : Addr} {rs : List Addr} {ws : List (Str × V)} {w : Str × V}
theorem ref_ne {rs : List Addr} {z : Str} {x : V} : rs.map V.ref ≠ [.str z, x] := fun e => by
  cases rs with
  | nil => cases e
  | cons a r => cases e
theorem Fnd.ext (f : Fnd T H0 H F0 rs ws) (e : ExtN H H') (t : Tabs T H') : Fnd T H0 H' F0 rs ws := ⟨f.ex.trans e, f.n0, t, e _ _ f.fl (fun _ z => by cases z), f.al.imp fun _ _ h => e _ _ h (fun _ z => by cases z)⟩
theorem Fnd.same (f : Fnd T H0 H F0 rs ws) (s : Same H H') : Fnd T H0 H' F0 rs ws := f.ext (.of s) (f.tb.ext s)
theorem Fnd.add (f : Fnd T H0 H F0 rs ws) (hp : H p = some (.lst [.str w.1, w.2])) : Fnd T H0 (upd H F0 (.lst (rs.map V.ref ++ [.ref p]))) F0 (rs ++ [p]) (ws ++ [w]) := by
  have ne : ∀ {r : Addr} {z : Str} {x : V}, H r = some (.lst [.str z, x]) → r ≠ F0 := fun hr z => by
    rw [z, f.fl] at hr
    exact ref_ne (HO.lst.inj (Option.some.inj hr))
  refine ⟨extN_mut f.ex f.n0, f.n0, Tabs.put f.tb f.fl, by rw [upd_same, List.map_append]; rfl, ?_⟩
  refine All2.snoc (f.al.imp fun r v h => ?_) ?_
  · rw [upd_ne (ne h)]; exact h
  · rw [upd_ne (ne hp)]; exact hp
theorem Fnd.one (e : ExtN H0 H) (t : Tabs T H) (hp : H p = some (.lst [.str w.1, w.2])) (hF : H F0 = none) : Fnd T H0 (upd H F0 (.lst [.ref p])) F0 [p] [w] := by
  have s := Evl.Ex.new (o := .lst [.ref p]) hF
  refine ⟨e.trans (.of s), freeT e hF, t.ext s, upd_same, ?_⟩
  exact All2.snoc (.nil) (s _ _ hp)
end
section
variable {K : PySem.W.Frag} {CS CF CN CE : Addr} {H : Hp} {v x y : V} {s : SiteD} {m : MdD} {Q : VK} {E : XK}
def VwL (m : MdD) (e : Str) (ys : List Str) : Prop := (∀ x, x ∈ ys ↔ inW m.files e x) ∧ ys.Nodup ∧ sortedS ys = true
theorem VwL.uniq {e : Str} {ys zs : List Str} (h : VwL m e ys) (g : VwL m e zs) : ys = zs := by
  refine sorted_uniq ((List.perm_ext_iff_of_nodup h.2.1 g.2.1).mpr fun x => ?_) h.2.2 g.2.2
  rw [h.1, g.1]
theorem VwL.of {e : Str} {t : List (Str × Option Str)} {ys : List Str} (T : TreeOf m.files e t) (pm : ys.Perm (t.map (·.1))) (so : sortedS ys = true) : VwL m e ys := ⟨fun x => pm.mem_iff.trans (T.mem x), pm.nodup_iff.mpr T.nd, so⟩
end
end WP
namespace WP
open PySem L2 PySem.Spec PyProof.Rows LamX
def rIsXT (K : PySem.W.Frag) : List V → Hp → VK → Prop := fun xs H Q => ∃ (a C : Addr) (d : Option Addr) (tp : Addr) (cs : List V) (cvs : List Value) (b : Bool), xs = [.ref a, .ref tp] ∧ H a = some (XvO (.ref C) d a) ∧ (∀ dd, d = some dd → ∃ fs, H dd = some (.xd fs)) ∧ ExcC K C ∧ H tp = some (.tup cs) ∧ Paired ClsV cs cvs ∧ PySem.W.kitAny K (.ref C) cvs = some b ∧ Q (.bl b) H
theorem call_isXT {X : Cx} : CallR X (.builtin "isinstance") (rIsXT X.K) := by
  intro pins s σ H xs us Q I r h
  obtain ⟨a, C, d, tp, cs, cvs, b, rfl, ha, hdd, E, hT, hc, hk, q⟩ := h
  obtain ⟨u1, u2, rfl, r1, r2⟩ := vals2 r
  cases (show u1 = Value.ref a from r1)
  cases (show u2 = Value.ref tp from r2)
  obtain ⟨⟨oe, vs, hget, hz, hdat⟩, _, _⟩ := I.hok a _ ha
  have inst : ∃ od, PySem.W.InstAt s.heap a oe C od := by
    cases d with
    | none => exact ⟨none, hget, hz.1, by unfold PySem.W.notCls; rw [hdat] <;> rfl, by rw [hz.2]; trivial⟩
    | some dd =>
      obtain ⟨fs, hx⟩ := hdd dd rfl
      obtain ⟨mA, hns, _⟩ := (show ObjOk X.prog X.w H s.heap dd (.xd fs) from I.hok dd _ hx)
      obtain ⟨od, ho, _⟩ := lookIn_ns hns
      exact ⟨some od, hget, hz.1, by unfold PySem.W.notCls; rw [hdat] <;> rfl, by rw [hz.2]; exact ho⟩
  obtain ⟨od, inst⟩ := inst
  have hcl : (PySem.W.clsIn X.K C).isSome = true := by
    obtain ⟨cd, hcd, _⟩ := PySem.W.any_some E.hd
    rw [hcd]
    rfl
  obtain ⟨_, its, rv, o, h1, h2, n, h3⟩ := (show ObjOk X.prog X.w H s.heap tp (.tup cs) from I.hok tp _ hT)
  have e4 := ClsV.all hc rv
  subst e4
  obtain ⟨oc, od2, dt, sl⟩ := o
  dsimp only at h2 h3
  subst h2 h3
  exact PySem.W.kia_tup (PySem.W.kitx_exc hcl E.hg E.hk E.hs E.ha E.hn E.ht E.hm) I.kIn inst h1 hk (fun z => nomatch z) fun tk => ⟨.bl b, H, I.tok tk, rfl, q⟩
def BadT (CT : Addr) (H : Hp) (E : XK) (x : V) : Prop := ∀ d H', Same H H' → H d = none → H' d = some (.xd [("at", x)]) → E (.ref CT) (some d) H'
theorem BadT.same {CT : Addr} {H H' : Hp} {E : XK} {x : V} (h : BadT CT H E x) (s : Same H H') : BadT CT H' E x := fun d H2 s2 hd h2 => h d H2 (s.trans s2) (none_back s hd) h2
structure Lx (d w c : Addr) (B : Int) (T : List (Addr × Str)) (H0 H : Hp) : Prop where
  dr : Dr d w c B H
  tb : Tabs T (hd2 d w H)
  ex : ExtN (hd2 d w H0) (hd2 d w H)
section
variable {d w c p : Addr} {B B' : Int} {T : List (Addr × Str)} {H0 H H' : Hp}
theorem Lx.start (D : Dr d w c B H) (t : Tabs T (hd2 d w H)) : Lx d w c B T H H := ⟨D, t, ExtN.refl _⟩
theorem Lx.same (x : Lx d w c B T H0 H) (s : Same H H') : Lx d w c B T H0 H' := ⟨x.dr.ext (.of s), x.tb.ext (hd2_same s), x.ex.trans (.of (hd2_same s))⟩
theorem Lx.draw (x : Lx d w c B T H0 H) (D : Dr d w c B' H') (s : Same (hd2 d w H) (hd2 d w H')) : Lx d w c B' T H0 H' := ⟨D, x.tb.ext s, x.ex.trans (.of s)⟩
theorem Lx.lam (x : Lx d w c B T H0 H) (e : ExtN H H') (t : Tabs T H') : Lx d w c B T H0 H' := ⟨x.dr.ext e, Tabs.hd t (x.dr.ext e), x.ex.trans (hd2_ext e)⟩
theorem Lx.mono (x : Lx d w c B T H0 H) (h : B ≤ B') : Lx d w c B' T H0 H := ⟨x.dr.mono h, x.tb, x.ex⟩
theorem Lx.at {o : HO} (x : Lx d w c B T H0 H) (hp : H p = none) : hd2 d w (upd H p o) p = some o := (⟨x.dr, Same.refl _⟩ : Ds d w c B H H).at hp
end
end WP
namespace WP
open PySem PySem.Calls PyProof.Rows PyProof.V PySem.Spec PySem.W
end WP
namespace WP
open PySem L2 PySem.Spec PyProof.Rows LamX
end WP
namespace WP
open PySem L2 PySem.Spec PyProof.Rows LamX
theorem dp_optsE {K : PySem.W.Frag} {H : Hp} : ∀ zs : List (Option Int), DpAll K H (zs.map optI) (zs.map optP)
  | [] => .nil
  | none :: r => .cons .non (dp_optsE r)
  | some i :: r => .cons (.int i) (dp_optsE r)
theorem SqT.any {K : PySem.W.Frag} {H : Hp} {a : Addr} {xs : List V} (h : SqT K H a xs) : Any K H (.ref a) .tup := by
  rcases h with (h | ⟨b, h⟩) | ⟨o, its, n, h1, h2, _⟩
  · exact .tup h
  · exact .fTup h
  · exact .kTup h1 h2
def owF (ns : List Str) (p : Str × FileD) : Str × FileD := (p.1, { p.2 with own := decide (p.1 ∈ ns) })
def ownM (m : MdD) (ns : List Str) : MdD := { m with files := m.files.map (owF ns) }
theorem owF_keys (ns : List Str) (fs : List (Str × FileD)) : (fs.map (owF ns)).map (·.1) = fs.map (·.1) := by
  rw [List.map_map]
  rfl
theorem lkF_ow {ns : List Str} {n : Str} : ∀ {fs : List (Str × FileD)}, lkF (fs.map (owF ns)) n = (lkF fs n).map fun f => { f with own := decide (n ∈ ns) }
  | [] => rfl
  | (k, f) :: r => by
    by_cases e : k = n
    · subst e
      rw [lkF_hit (fs := r)]
      exact lkF_hit (fs := r)
    · rw [lkF_skip e, ← lkF_ow]
      exact lkF_skip e
theorem MdOk.own {m : MdD} (ok : MdOk m) {ns : List Str} {fs : List (Str × FileD)} (pm : fs.Perm m.files) (h : ∀ e ∈ m.entries, e ∉ ns) : MdOk ⟨fs.map (owF ns), m.entries, m.counts⟩ := by
  have lk : ∀ n, lkF (fs.map (owF ns)) n = (lkF m.files n).map fun f => { f with own := decide (n ∈ ns) } := fun n => by rw [lkF_ow, lkF_perm ok.ok.nd pm n]
  have km : ∀ n, n ∈ (fs.map (owF ns)).map (·.1) ↔ n ∈ m.files.map (·.1) := fun n => by rw [owF_keys]; exact (pm.map (·.1)).mem_iff
  have some_ : ∀ n f, lkF (fs.map (owF ns)) n = some f → ∃ g, lkF m.files n = some g ∧ f = { g with own := decide (n ∈ ns) } := fun n f e => by
    rw [lk] at e
    cases z : lkF m.files n with
    | none => rw [z] at e; cases e
    | some g => rw [z] at e; cases e; exact ⟨g, rfl, rfl⟩
  have rr : ∀ n, rf (fs.map (owF ns)) n = rf m.files n := fun n => by
    unfold rf
    rw [lk]
    cases lkF m.files n <;> rfl
  have back : ∀ n f, (n, f) ∈ fs.map (owF ns) → ∃ g, (n, g) ∈ m.files ∧ f = { g with own := decide (n ∈ ns) } := fun n f hm => by
    obtain ⟨⟨k, g⟩, hg, e⟩ := List.mem_map.mp hm
    cases e
    exact ⟨g, pm.mem_iff.mp hg, rfl⟩
  refine ⟨⟨?_, ?_, fun n hn => ok.ok.nam n ((km n).mp hn), fun n f e x hx => ?_, fun n f e => ?_⟩, fun z => ?_, fun n r => ok.no n (r.to fun n x => (by rw [rr n]; exact id)), fun n f hm => ?_, ?_, ok.epos, ok.end_, ok.eso, fun e he => ?_, fun e he => ?_, ok.ct⟩
  · rw [List.length_map, pm.length_eq]
    exact ok.ok.few
  · rw [owF_keys]
    exact (pm.map (·.1)).nodup_iff.mpr ok.ok.nd
  · obtain ⟨g, h1, rfl⟩ := some_ n f e
    exact (km x).mpr (ok.ok.cl n g h1 x hx)
  · obtain ⟨g, h1, rfl⟩ := some_ n f e
    exact ok.ok.rnd n g h1
  · have z := List.map_eq_nil_iff.mp z
    rw [z] at pm
    exact ok.pos pm.nil_eq.symm
  · obtain ⟨g, h1, rfl⟩ := back n f hm
    exact ok.fine n g h1
  · obtain ⟨c, h1, h2⟩ := ok.kl
    refine ⟨c, h1, fun n f hm => ?_⟩
    obtain ⟨g, h3, rfl⟩ := back n f hm
    exact h2 n g h3
  · obtain ⟨g, hg⟩ := lkF_key.mp (ok.ekey he)
    show (match lkF (fs.map (owF ns)) e with | some f => !f.own | none => false) = true
    rw [lk, hg]
    show (!decide (e ∈ ns)) = true
    rw [decide_eq_false (h e he)]
    rfl
  · obtain ⟨t, T⟩ := ok.tr e he
    exact ⟨t, T.to fun n x => by rw [rr n]⟩
theorem MdAt.kept {K : PySem.W.Frag} {d w c : Addr} {B : Int} {H H' : Hp} {v : V} {m : MdD} (h : MdAt K (hid H H') v m) (D : Dr d w c B H) : MdAt K (hd2 d w H') v m := h.same (hid_hd2 D)
end WP
namespace PySem.SeqAt
open AutoSeq1 (wpAny_loadPart')
open MeetsSeq
end PySem.SeqAt
namespace WP
open PySem L2 PySem.Spec PyProof.Rows LamX
end WP
namespace WP
open PySem L2 PySem.Spec PyProof.Rows LamX
end WP
namespace WP
open PySem L2 PySem.Spec PyProof.Rows LamX
mutual
theorem Vd.dp {K : PySem.W.Frag} {H : Hp} : ∀ {v : V} {d : PyData}, Vd H v d → d.hasDict = false → Dp K H v d
  | _, _, .non, _ => .non
  | _, _, .bl b, _ => .bl b
  | _, _, .int i, _ => .int i
  | _, _, .str x, _ => .str x
  | _, _, .lst h hl, e => .lst (SqL.of h) (hl.dp (by rw [PyData.hasDict] at e; exact e))
  | _, _, .tup h hl, e => .tup (SqT.of h) (hl.dp (by rw [PyData.hasDict] at e; exact e))
  | _, _, .dct _ _ _, e => by rw [PyData.hasDict] at e; cases e
theorem VdAll.dp {K : PySem.W.Frag} {H : Hp} : ∀ {vs : List V} {ds : List PyData}, VdAll H vs ds → PyData.hasDictAll ds = false → DpAll K H vs ds
  | _, _, .nil, _ => .nil
  | _, _, .cons a r, e => by
    rw [PyData.hasDictAll, Bool.or_eq_false_iff] at e
    exact .cons (a.dp e.1) (r.dp e.2)
end
theorem kit2 {K : PySem.W.Frag} {t a b : Value} (h1 : PySem.W.kitOne K t a = some false) (h2 : PySem.W.kitOne K t b = some false) : PySem.W.kitAny K t [a, b] = some false := by
  refine kitAny_cons h1 (fun _ => ?_) (fun e => by cases e)
  refine kitAny_cons h2 (fun _ => kitAny_nil) (fun e => by cases e)
end WP
namespace WP
open PySem L2 PySem.Spec PyProof.Rows LamX
/-- the page of a file, as data -/
def pageD (f : FileD) : PyData := .tuple [.str (namS f.own), .tuple (f.refers.map PyData.str), optP f.hold, .tuple (f.keeps.map optP)]
theorem dp_optE {K : PySem.W.Frag} {H : Hp} : ∀ o : Option Int, Dp K H (optI o) (optP o)
  | none => .non
  | some i => .int i
theorem page_dp {K : PySem.W.Frag} {H : Hp} {t r k : Addr} {f : FileD} (h : H t = some (.tup [.str (namS f.own), .ref r, optI f.hold, .ref k])) (h1 : SqT K H r (f.refers.map V.str)) (h2 : SqT K H k (f.keeps.map optI)) : Dp K H (.ref t) (pageD f) :=
  .tup (SqT.of h) (.cons (.str _) (.cons (.tup h1 (dpS _)) (.cons (dp_optE _) (.cons (.tup h2 (dp_optsE _)) .nil))))
end WP
namespace PySem.W
open PySem PySem.Calls PyProof.Rows
end PySem.W
namespace WP
open PySem PySem.Calls PyProof.Rows PyProof.V PySem.Spec PySem.W
end WP
namespace WP
open PySem L2 PySem.Spec PyProof.Rows LamX
end WP
namespace WP
open PySem L2 PySem.Spec PyProof.Rows LamX
def fileEq (f g : FileD) : Bool := decide (f.own = g.own) && decide (f.refers = g.refers) && decide (f.hold = g.hold) && decide (f.keeps = g.keeps)
theorem fileEq_iff {f g : FileD} : fileEq f g = true ↔ f = g := by
  unfold fileEq
  simp only [Bool.and_eq_true, decide_eq_true_eq]
  constructor
  · rintro ⟨⟨⟨h1, h2⟩, h3⟩, h4⟩
    cases f
    cases g
    simp only at h1 h2 h3 h4
    rw [h1, h2, h3, h4]
  · rintro rfl
    exact ⟨⟨⟨rfl, rfl⟩, rfl⟩, rfl⟩
def FOk (f : FileD) : Prop := ∀ x ∈ f.refers, PyData.strOk x = true
def RFb (K : PySem.W.Frag) (CF : Addr) (a : Addr) (y : V) (r : Bool) (H : Hp) : Prop := ∃ f : FileD, FileAt K CF H (.ref a) f ∧ FOk f ∧ ((y ≠ .ref a ∧ ∃ k, Any K H y k ∧ PySem.W.kitOne K k.ty (.ref CF) = some false ∧ r = false) ∨ ∃ g : FileD, FileAt K CF H y g ∧ FOk g ∧ r = fileEq f g)
theorem sqT_two {X : Cx} {pins : List (Addr × Obj)} {σ : L2.St} {s : Shared} {H : Hp} {t : Addr} {xs ys : List V} (I : Inv X pins σ H s) (h : SqT X.K H t xs) (h' : SqT X.K H t ys) : ∃ its, Vals xs its ∧ Vals ys its := by
  obtain ⟨its, r, ht, _⟩ := I.tuple h
  obtain ⟨its2, r2, ht2, _⟩ := I.tuple h'
  obtain ⟨o, ho, _, n, hd⟩ := ht
  obtain ⟨o2, ho2, _, n2, hd2⟩ := ht2
  rw [ho] at ho2
  cases ho2
  rw [hd] at hd2
  injection hd2 with e1 _
  have e : its = its2 := by simpa using e1
  exact ⟨its, r, e ▸ r2⟩
theorem vals_strs2 : ∀ {xs ys : List Str} {its : List Value}, Vals (xs.map V.str) its → Vals (ys.map V.str) its → xs = ys
  | [], [], _, _, _ => rfl
  | [], y :: ys, _, h, h' => by cases h; cases h'
  | x :: xs, [], _, h, h' => by cases h'; cases h
  | x :: xs, y :: ys, _, .cons a r, .cons b r' => by
    obtain ⟨t, e⟩ := (show ∃ t, _ = Value.str x t from a)
    obtain ⟨t2, e2⟩ := (show ∃ t, _ = Value.str y t from b)
    rw [e] at e2
    cases e2
    rw [vals_strs2 r r']
theorem vals_opts2 : ∀ {xs ys : List (Option Int)} {its : List Value}, Vals (xs.map optI) its → Vals (ys.map optI) its → xs = ys
  | [], [], _, _, _ => rfl
  | [], y :: ys, _, h, h' => by cases h; cases h'
  | x :: xs, [], _, h, h' => by cases h'; cases h
  | x :: xs, y :: ys, _, .cons a r, .cons b r' => by
    have e : x = y := by
      cases x with
      | none =>
        cases y with
        | none => rfl
        | some j =>
          have a : _ = Value.none := a
          obtain ⟨t2, e2⟩ := (show ∃ t, _ = Value.int j t from b)
          rw [a] at e2
          cases e2
      | some i =>
        obtain ⟨t, e⟩ := (show ∃ t, _ = Value.int i t from a)
        cases y with
        | none =>
          have b : _ = Value.none := b
          rw [e] at b
          cases b
        | some j =>
          obtain ⟨t2, e2⟩ := (show ∃ t, _ = Value.int j t from b)
          rw [e] at e2
          cases e2
          rfl
    rw [vals_opts2 r r', e]
theorem FileAt.two {X : Cx} {pins : List (Addr × Obj)} {σ : L2.St} {s : Shared} {H : Hp} {CF a : Addr} {f g : FileD} (I : Inv X pins σ H s) (h : FileAt X.K CF H (.ref a) f) (h' : FileAt X.K CF H (.ref a) g) : f = g := by
  obtain ⟨a1, dx, t1, t2, e1, h1, h2, h3⟩ := h
  obtain ⟨a2, dy, u1, u2, e2, g1, g2, g3⟩ := h'
  cases e1
  cases e2
  rw [h1] at g1
  have g1 := Option.some.inj g1
  injection g1 with _ _ z
  simp only [List.cons.injEq, Prod.mk.injEq, true_and, and_true, V.str.injEq, V.ref.injEq] at z
  obtain ⟨z1, rfl, z3, rfl⟩ := z
  obtain ⟨_, r1, r2⟩ := sqT_two I h2 g2
  obtain ⟨_, r3, r4⟩ := sqT_two I h3 g3
  have y1 := namS_inj z1
  have y2 := vals_strs2 r1 r2
  have y3 := optI_inj z3
  have y4 := vals_opts2 r3 r4
  cases f
  cases g
  simp only at y1 y2 y3 y4
  rw [y1, y2, y3, y4]
theorem RFb.same {X : Cx} {CF : Addr} (pins : List (Addr × Obj)) (σ : L2.St) (s : Shared) (H : Hp) (a : Addr) (r : Bool) (I : Inv X pins σ H s) (h : RFb X.K CF a (.ref a) r H) : r = true := by
  obtain ⟨f, h1, _, ⟨n, _⟩ | ⟨g, h2, _, z⟩⟩ := h
  · exact absurd rfl n
  · rw [z, fileEq_iff]
    exact h1.two I h2
def inF (gs : List (Str × FileD)) (p : Str × FileD) : Bool := match lkF gs p.1 with | some g => fileEq p.2 g | none => false
def filesEq (fs gs : List (Str × FileD)) : Bool := fs.length == gs.length && fs.all (inF gs)
def mdEq (m m2 : MdD) : Bool := decide (m.counts = m2.counts) && filesEq m.files m2.files && decide (m.entries = m2.entries)
end WP
namespace WP
open PySem L2 PySem.Spec PyProof.Rows LamX
theorem Rc.last {fs : List (Str × FileD)} {a b : Str} (r : Rc fs a b) : ∃ q, (q = a ∨ Rc fs a q) ∧ b ∈ rf fs q := by
  cases r with
  | one h => exact ⟨a, .inl rfl, h⟩
  | more h1 h2 => exact ⟨_, .inr h1, h2⟩
open Classical in
/-- fewer references: a tree is still one -/
theorem tree_sub {fs gs : List (Str × FileD)} {e : Str} {t : List (Str × Option Str)} (h : ∀ n x, x ∈ rf gs n → x ∈ rf fs n) (T : TreeOf fs e t) : ∃ t', TreeOf gs e t' := by
  refine ⟨t.filter fun p => decide (p.1 = e ∨ Rc gs e p.1), ?_⟩
  have mem : ∀ x p, (x, p) ∈ t.filter (fun p => decide (p.1 = e ∨ Rc gs e p.1)) ↔ (x, p) ∈ t ∧ (x = e ∨ Rc gs e x) := fun x p => by rw [List.mem_filter, decide_eq_true_eq]
  have key : ∀ x, x ∈ (t.filter fun p => decide (p.1 = e ∨ Rc gs e p.1)).map (·.1) ↔ (x = e ∨ Rc gs e x) := fun x => by
    constructor
    · intro hx
      obtain ⟨⟨y, p⟩, hy, rfl⟩ := List.mem_map.mp hx
      exact ((mem y p).mp hy).2
    · intro hx
      have hk : x ∈ t.map (·.1) := T.key (hx.imp id fun r => r.to h)
      obtain ⟨⟨y, p⟩, hy, rfl⟩ := List.mem_map.mp hk
      exact List.mem_map.mpr ⟨(y, p), (mem y p).mpr ⟨hy, hx⟩, rfl⟩
  refine ⟨T.nd.sublist (List.Sublist.map _ List.filter_sublist), (mem e none).mpr ⟨T.root, .inl rfl⟩, fun x p hx => ?_, fun q hq x hx => ?_, fun x hx => (key x).mp hx⟩
  · obtain ⟨h1, h2⟩ := (mem x p).mp hx
    rcases T.par x p h1 with z | ⟨q, rfl, hq, hr⟩
    · exact .inl z
    · rcases h2 with rfl | r
      · cases key_uni T.nd h1 T.root
      · obtain ⟨q', hq', hx'⟩ := r.last
        have := T.chi q' (T.key (hq'.imp id fun r => r.to h)) x (h _ _ hx')
        cases key_uni T.nd h1 this
        exact .inr ⟨q, rfl, (key q).mpr hq', hx'⟩
  · have hq := (key q).mp hq
    refine (mem x (some q)).mpr ⟨T.chi q (T.key (hq.imp id fun r => r.to h)) x (h _ _ hx), .inr ?_⟩
    rcases hq with rfl | r
    · exact .one hx
    · exact .more r hx
/-- another page for one file -/
def setP (fs : List (Str × FileD)) (n : Str) (f : FileD) : List (Str × FileD) := fs.map fun p => if p.1 = n then (p.1, f) else p
theorem setP_keys (fs : List (Str × FileD)) (n : Str) (f : FileD) : (setP fs n f).map (·.1) = fs.map (·.1) := by
  unfold setP
  rw [List.map_map]
  refine List.map_congr_left fun p _ => ?_
  show (if p.1 = n then (p.1, f) else p).1 = p.1
  split <;> rfl
theorem lkF_set {n k : Str} {f : FileD} : ∀ {fs : List (Str × FileD)}, lkF (setP fs n f) k = if k = n then (lkF fs k).map fun _ => f else lkF fs k
  | [] => by split <;> rfl
  | (m, g) :: r => by
    have ih := lkF_set (n := n) (k := k) (f := f) (fs := r)
    show lkF ((if m = n then (m, f) else (m, g)) :: setP r n f) k = _
    by_cases hk : m = k
    · subst hk
      by_cases hn : m = n
      · rw [if_pos hn, if_pos hn, lkF_hit (fs := setP r n f), lkF_hit (fs := r)]
        rfl
      · rw [if_neg hn, if_neg hn, lkF_hit (fs := setP r n f), lkF_hit (fs := r)]
    · have e : lkF ((if m = n then (m, f) else (m, g)) :: setP r n f) k = lkF (setP r n f) k := by
        split
        · exact lkF_skip hk
        · exact lkF_skip hk
      rw [e, ih, lkF_skip hk]
theorem MdOk.set {m : MdD} (ok : MdOk m) {n : Str} {f g : FileD} (hg : lkF m.files n = some g) (hr : f.refers.Sublist g.refers) (so : sortedS f.refers = true) (ho : isTicksV (optI f.hold) = true) (hk : ∀ k ∈ f.keeps, isTicksV (optI k) = true) (kl : f.keeps.length = g.keeps.length) (he : n ∈ m.entries → f.own = false) : MdOk { m with files := setP m.files n f } := by
  have lk : ∀ k, lkF (setP m.files n f) k = if k = n then (lkF m.files k).map (fun _ => f) else lkF m.files k := fun k => lkF_set
  have km : ∀ k, k ∈ (setP m.files n f).map (·.1) ↔ k ∈ m.files.map (·.1) := fun k => by rw [setP_keys]
  have two : ∀ k x, lkF (setP m.files n f) k = some x → ∃ y, lkF m.files k = some y ∧ x.refers.Sublist y.refers := fun k x e => by
    rw [lk] at e
    by_cases z : k = n
    · rw [if_pos z, z, hg] at e
      cases e
      exact ⟨g, by rw [z]; exact hg, hr⟩
    · rw [if_neg z] at e
      exact ⟨x, e, .refl _⟩
  have sub : ∀ k x, x ∈ rf (setP m.files n f) k → x ∈ rf m.files k := fun k x hx => by
    unfold rf at hx
    cases e : lkF (setP m.files n f) k with
    | none => rw [e] at hx; cases hx
    | some y =>
      rw [e] at hx
      obtain ⟨z, h1, h2⟩ := two k y e
      rw [rf_of h1]
      exact h2.subset hx
  have mem : ∀ k x, (k, x) ∈ setP m.files n f → (k = n ∧ x = f) ∨ (k, x) ∈ m.files := fun k x hx => by
    obtain ⟨⟨k', y⟩, hy, e⟩ := List.mem_map.mp hx
    by_cases z : k' = n
    · rw [if_pos z] at e
      cases e
      exact .inl ⟨z, rfl⟩
    · rw [if_neg z] at e
      cases e
      exact .inr hy
  obtain ⟨c, c4, hc⟩ := ok.kl
  refine ⟨⟨?_, ?_, fun k h => ok.ok.nam k ((km k).mp h), fun k x e y hy => ?_, fun k x e => ?_⟩, fun z => ?_, fun k r => ok.no k (r.to sub), fun k x hx => ?_, ⟨c, c4, fun k x hx => ?_⟩, ok.epos, ok.end_, ok.eso, fun e h => ?_, fun e h => ?_, ok.ct⟩
  · show (setP m.files n f).length ≤ 8
    have := congrArg List.length (setP_keys m.files n f)
    rw [List.length_map, List.length_map] at this
    rw [this]
    exact ok.ok.few
  · rw [setP_keys]
    exact ok.ok.nd
  · obtain ⟨z, h1, h2⟩ := two k x e
    exact (km y).mpr (ok.ok.cl k z h1 y (h2.subset hy))
  · obtain ⟨z, h1, h2⟩ := two k x e
    exact (ok.ok.rnd k z h1).sublist h2
  · have := congrArg List.length (setP_keys m.files n f)
    have z : setP m.files n f = [] := z
    rw [z, List.length_map] at this
    exact ok.pos (List.length_eq_zero_iff.mp (by simpa using this.symm))
  · rcases mem k x hx with ⟨_, rfl⟩ | h
    · exact ⟨so, ho, hk⟩
    · exact ok.fine k x h
  · rcases mem k x hx with ⟨_, rfl⟩ | h
    · rw [kl]
      exact hc n g (lkF_mem hg)
    · exact hc k x h
  · show (match lkF (setP m.files n f) e with | some f => !f.own | none => false) = true
    rw [lk]
    by_cases z : e = n
    · rw [if_pos z, z, hg]
      show (!f.own) = true
      rw [he (z ▸ h)]
      rfl
    · rw [if_neg z]
      exact ok.epl e h
  · obtain ⟨t, T⟩ := ok.tr e h
    exact tree_sub sub T
/-- one more file that refers to none -/
theorem MdOk.more {m : MdD} (ok : MdOk m) {n : Str} {f g : FileD} {k : Str} (hn : n ∉ m.files.map (·.1)) (nm : isNameS n = true) (l8 : m.files.length < 8) (hr : f.refers = []) (ho : isTicksV (optI f.hold) = true) (hk : ∀ k ∈ f.keeps, isTicksV (optI k) = true) (hg : lkF m.files k = some g) (kl : f.keeps.length = g.keeps.length) : MdOk { m with files := m.files ++ [(n, f)] } := by
  have lk : ∀ x, lkF (m.files ++ [(n, f)]) x = (lkF m.files x).or (if n = x then some f else none) := fun x => by
    unfold lkF
    rw [List.find?_append]
    cases List.find? (fun p => decide (p.1 = x)) m.files with
    | some p => rfl
    | none =>
      by_cases z : n = x
      · simp [z]
      · simp [z]
  have rr : ∀ x, rf (m.files ++ [(n, f)]) x = rf m.files x := fun x => by
    unfold rf
    rw [lk]
    cases e : lkF m.files x with
    | some y => rfl
    | none =>
      by_cases z : n = x
      · rw [if_pos z]
        exact hr
      · rw [if_neg z]
        rfl
  have km : ∀ x, x ∈ (m.files ++ [(n, f)]).map (·.1) ↔ x ∈ m.files.map (·.1) ∨ x = n := fun x => by rw [List.map_append, List.mem_append]; simp
  obtain ⟨c, c4, hc⟩ := ok.kl
  refine ⟨⟨by rw [List.length_append]; exact l8, ?_, fun x h => ?_, fun x y e z hz => ?_, fun x y e => ?_⟩, by simp, fun x r => ok.no x (r.to fun a b h => by rw [← rr a]; exact h), fun x y hx => ?_, ⟨c, c4, fun x y hx => ?_⟩, ok.epos, ok.end_, ok.eso, fun e h => ?_, fun e h => ?_, ok.ct⟩
  · rw [List.map_append, List.nodup_append]
    exact ⟨ok.ok.nd, by simp, fun a ha b hb e => hn (by simp at hb; rw [← hb, ← e]; exact ha)⟩
  · rcases (km x).mp h with h | rfl
    · exact ok.ok.nam x h
    · exact nm
  · refine (km z).mpr (.inl ?_)
    have h1 : z ∈ rf (m.files ++ [(n, f)]) x := by rw [rf_of e]; exact hz
    rw [rr] at h1
    exact ok.ok.rf_mem h1
  · have h1 := ok.ok.rf_nd x
    rw [← rr, rf_of e] at h1
    exact h1
  · rcases List.mem_append.mp hx with h | h
    · exact ok.fine x y h
    · cases List.mem_singleton.mp h
      rw [hr]
      exact ⟨rfl, ho, hk⟩
  · rcases List.mem_append.mp hx with h | h
    · exact hc x y h
    · cases List.mem_singleton.mp h
      rw [kl]
      exact hc k g (lkF_mem hg)
  · have z : (match lkF m.files e with | some f => !f.own | none => false) = true := ok.epl e h
    show (match lkF (m.files ++ [(n, f)]) e with | some f => !f.own | none => false) = true
    rw [lk]
    cases e2 : lkF m.files e with
    | some y => rw [e2] at z; exact z
    | none => rw [e2] at z; cases z
  · obtain ⟨t, T⟩ := ok.tr e h
    exact ⟨t, T.to fun a b => by rw [rr]⟩
end WP
namespace WP
open PySem L2 PySem.Spec PyProof.Rows LamX
end WP
namespace WP
open PySem L2 PySem.Spec PyProof.Rows LamX
/-- a model unlike another one -/
def Unl (K : PySem.W.Frag) (m : MdD) (H : Hp) (v : V) : Prop := ∃ m', MdAt K H v m' ∧ MdOk m' ∧ mdEq m m' = false ∧ mdEq m' m = false
/-- another page for one file -/
def Oth (K : PySem.W.Frag) (m : MdD) (n : Str) (f : FileD) (H : Hp) (v : V) : Prop := ∃ f', PgM K H v f' ∧ MdOk { m with files := setP m.files n f' } ∧ f' ≠ f
section
variable {K : PySem.W.Frag} {m : MdD} {n : Str} {f : FileD} {H H' : Hp} {v : V}
theorem Unl.same (h : Unl K m H v) (s : Same H H') : Unl K m H' v := by
  obtain ⟨m', h1, h2⟩ := h
  exact ⟨m', h1.same s, h2⟩
theorem Oth.same (h : Oth K m n f H v) (s : Same H H') : Oth K m n f H' v := by
  obtain ⟨f', h1, h2⟩ := h
  exact ⟨f', h1.same s, h2⟩
theorem PgsM.set {kvs : List (Key × V)} {fs : List (Str × FileD)} (h : PgsM K H kvs fs) {f' : FileD} {u : V} (hu : PgM K H u f') : PgsM K H (kvs.map fun p => if p.1 = .inr n then (p.1, u) else p) (setP fs n f') := by
  induction h with
  | nil => exact .nil
  | @cons k v g kvs fs a _ ih =>
    by_cases z : k = n
    · subst z
      have e1 : ((((.inr k : Key), v) :: kvs).map fun p => if p.1 = (.inr k : Key) then (p.1, u) else p) = ((.inr k : Key), u) :: kvs.map fun p => if p.1 = (.inr k : Key) then (p.1, u) else p := by rw [List.map_cons, if_pos rfl]
      have e2 : setP ((k, g) :: fs) k f' = (k, f') :: setP fs k f' := by
        show (if k = k then (k, f') else (k, g)) :: setP fs k f' = _
        rw [if_pos rfl]
      rw [e1, e2]
      exact .cons hu ih
    · have e1 : ((((.inr k : Key), v) :: kvs).map fun p => if p.1 = (.inr n : Key) then (p.1, u) else p) = ((.inr k : Key), v) :: kvs.map fun p => if p.1 = (.inr n : Key) then (p.1, u) else p := by rw [List.map_cons, if_neg fun e => z (Sum.inr.inj e)]
      have e2 : setP ((k, g) :: fs) n f' = (k, g) :: setP fs n f' := by
        show (if k = n then (k, f') else (k, g)) :: setP fs n f' = _
        rw [if_neg z]
      rw [e1, e2]
      exact .cons a ih
end
end WP
namespace WP
open PySem L2 PySem.Spec PyProof.Rows LamX
/-- a sign k times -/
def repS (z : Str) (k : Int) : Str := ⟨(List.replicate k.toNat z.cps).foldl (· ++ ·) #[]⟩
theorem op_repS {X : Cx} : OpR X (binaryOp .Mult) (fun x y H Q => ∃ (z : Str) (k : Int), x = .str z ∧ y = .int k ∧ 1 ≤ k ∧ k ≤ 1000000 ∧ 1 ≤ z.length ∧ z.length ≤ 10 ∧ Q (.str (repS z k)) H) := by
  intro pins s σ H x y v u Q I rx ry h
  obtain ⟨z, k, rfl, rfl, k2, k6, z1, z10, q⟩ := h
  obtain ⟨t, rfl⟩ := rx
  obtain ⟨t', rfl⟩ := ry
  have hm : z.length * k.toNat ≤ 10 * 1000000 := Nat.mul_le_mul z10 (by omega)
  have eT : (repS z k).cps.toList = (List.replicate k.toNat (TL.tl z)).flatten := by
    show ((List.replicate k.toNat z.cps).foldl (· ++ ·) #[]).toList = _
    rw [fold_cps, List.map_replicate]
    rfl
  have eL : (repS z k).length = z.length * k.toNat := by
    rw [TL.len_tl, TL.len_tl z]
    show (repS z k).cps.toList.length = _
    rw [eT]
    exact (rep_flat _ _).1
  refine PySem.P.mul_str (by rw [decide_eq_false (by omega), decide_eq_false (by omega)]; rfl) (fun _ _ => ?_) (fun _ _ => ?_) ?_
  · have h1 : (z.length : Int) ≤ (2 ^ 63 - 1) / k := by
      rw [Int.le_ediv_iff_mul_le (by omega)]
      have : (z.length : Int) * k ≤ 10 * 1000000 := Int.mul_le_mul (by omega) (by omega) (by omega) (by omega)
      omega
    omega
  · unfold Builtin.Str.tooLong
    have := sizeLine_eq
    simp
    omega
  · rw [if_neg (by omega)]
    by_cases k1 : k = 1
    · subst k1
      have e1 : repS z 1 = z := by
        show (⟨(List.replicate 1 z.cps).foldl (· ++ ·) #[]⟩ : Str) = z
        simp
      rw [e1] at q
      rw [if_pos (by simp)]
      exact ⟨.str _, H, I, ⟨_, rfl⟩, q⟩
    · rw [if_neg (by simp; omega)]
      refine ⟨?_, ⟨.str _, H, I.tok _, ⟨_, rfl⟩, q⟩⟩
      show (repS z k).length ≤ _
      rw [eL, sizeLine_eq]; omega
def qNames : List Str := (List.range 8).map fun j : Nat => repS "q" (1 + (j : Int))
theorem qNames_nm : ∀ z ∈ qNames, isNameS z = true := by
  have : qNames.all isNameS = true := by decide +kernel
  exact fun z hz => List.all_eq_true.mp this z hz
end WP
namespace WP
open PySem L2 PySem.Spec PyProof.Rows LamX
/-- the items of a list or of a tuple -/
def SqK (K : PySem.W.Frag) (H : Hp) (a : Addr) (k : Kd) (xs : List V) : Prop := (k = .lst ∧ H a = some (.lst xs)) ∨ (k = .tup ∧ Any K H (.ref a) .tup ∧ SqT K H a xs)
section
variable {K : PySem.W.Frag} {H H' : Hp} {a : Addr} {k : Kd} {xs : List V}
theorem SqK.lst (h : H a = some (.lst xs)) : SqK K H a .lst xs := .inl ⟨rfl, h⟩
theorem SqK.tup (h : H a = some (.tup xs)) : SqK K H a .tup xs := .inr ⟨rfl, .tup h, SqT.of h⟩
theorem SqK.same (h : SqK K H a k xs) (s : Same H H') : SqK K H' a k xs := h.imp (fun ⟨e, h⟩ => ⟨e, s _ _ h⟩) fun ⟨e, h1, h2⟩ => ⟨e, h1.same s, SqT.sm h2 s⟩
theorem SqK.two (h : SqK K H a k xs) : (k.isLst || k.isTup) = true := by rcases h with ⟨e, _⟩ | ⟨e, _⟩ <;> (rw [e]; rfl)
theorem SqK.seqv (h : SqK K H a k xs) (l : xs.length ≤ 1000) (hx : ∀ x ∈ xs, ∃ kx, Any K H x kx ∧ ∀ z, x = .str z → z.length ≤ sizeLine) : SeqV K H (.ref a) k xs := by
  rcases h with ⟨rfl, h⟩ | ⟨rfl, h1, h2⟩
  · exact ⟨.lst h, fun _ => ⟨a, rfl, .inl (SqL.of h), l, hx⟩⟩
  · exact ⟨h1, fun _ => ⟨a, rfl, .inr h2, l, hx⟩⟩
theorem SqK.strs {ns : List Str} (h : SqK K H a k (ns.map V.str)) (l : ns.length ≤ 1000) (nm : ∀ x ∈ ns, isNameS x = true) : SeqV K H (.ref a) k (ns.map V.str) := h.seqv (by rw [List.length_map]; exact l) fun x hx => by
  obtain ⟨n, hn, rfl⟩ := List.mem_map.mp hx
  exact ⟨.str, .str n, fun z e => by
    cases e
    have := (name_ok (nm n hn)).2.1
    rw [sizeLine_eq]
    omega⟩
theorem SqK.opts {ks : List (Option Int)} (h : SqK K H a k (ks.map optI)) (l : ks.length ≤ 1000) : SeqV K H (.ref a) k (ks.map optI) := h.seqv (by rw [List.length_map]; exact l) fun x hx => by
  obtain ⟨o, ho, rfl⟩ := List.mem_map.mp hx
  obtain ⟨k, hk⟩ := any_opt (K := K) (H := H) o
  exact ⟨k, hk, fun z e => by cases o <;> cases e⟩
end
theorem page_errP {f : FileD} (h : FileOk f) {xs : List Str} (p : xs.Perm f.refers) {k k' : Kd} (hk' : (k'.isLst || k'.isTup) = true) (hk : (k.isLst || k.isTup) = true) : fileErr (.str (namS f.own)) k (xs.map V.str) (optI f.hold) k' (f.keeps.map optI) = none := by
  have e1 : okNaming (.str (namS f.own)) = true := by cases f.own <;> decide +kernel
  have e2 : areNamesL (xs.map V.str) = true := by
    unfold areNamesL
    rw [Bool.and_eq_true, decide_eq_true_eq, List.all_map]
    exact ⟨List.all_eq_true.mpr fun x hx => h.nam x (p.mem_iff.mp hx), List.pairwise_map.mpr ((p.nodup_iff.mpr h.nd).imp fun h e => h (V.str.inj e))⟩
  have e4 : okKeeps k' (f.keeps.map optI) = true := by
    unfold okKeeps
    rw [Bool.and_eq_true, Bool.and_eq_true, decide_eq_true_eq, List.length_map, List.all_map]
    exact ⟨⟨hk', h.kp⟩, List.all_eq_true.mpr fun x hx => h.kt x hx⟩
  unfold fileErr
  rw [if_neg (by rw [e1]; decide), if_neg (by rw [e2, hk]; decide), if_neg (by rw [h.hd]; decide), if_neg (by rw [e4]; decide)]
theorem page_fileP {f g : FileD} (so : sortedS f.refers = true) {xs : List Str} (p : xs.Perm f.refers) (h : FileOf g (.str (namS f.own)) (xs.map V.str) (optI f.hold) (f.keeps.map optI)) : g = f := by
  obtain ⟨h1, ⟨ns, h2, h3⟩, h4, h5, h6⟩ := h
  have e2 : ns = xs := (map_str_inj h2).symm
  subst e2
  exact page_file so ⟨h1, ⟨f.refers, rfl, h3.trans p⟩, h4, h5, h6⟩
theorem spFile_mk {K : PySem.W.Frag} {CF CE : Addr} {f : FileD} (ok : FileOk f) {H : Hp} {r kp x dx : Addr} {k k' : Kd} {xs : List Str} (p : xs.Perm f.refers) (hr : SqK K H r k (xs.map V.str)) (hk : SqK K H kp k' (f.keeps.map optI)) (hx : H x = none) (hd : H dx = none) (hn : dx ≠ x) {Q : VK} {E : XK}
    (q : ∀ H', Same H H' → FileAt K CF H' (.ref x) f → Q .non H') : spFile K CF CE [.ref x, .str (namS f.own), .ref r, optI f.hold, .ref kp] (upd (upd H dx (.own x)) x (.ins CF dx [])) Q E := by
  have sU : Same H (upd (upd H dx (.own x)) x (.ins CF dx [])) := (Evl.Ex.new hd).trans (Evl.Ex.new (by rw [upd_ne (Ne.symm hn)]; exact hx))
  obtain ⟨kh, ah⟩ := any_opt (K := K) (H := upd (upd H dx (.own x)) x (.ins CF dx [])) f.hold
  have l8 := p.length_eq
  have fw := ok.fw
  refine ⟨x, dx, .str (namS f.own), .str, .ref r, k, xs.map V.str, optI f.hold, kh, .ref kp, k', f.keeps.map optI, rfl, upd_same, .str _, (hr.same sU).strs (by omega) (fun n hn => ok.nam n (p.mem_iff.mp hn)), ah, (hk.same sU).opts (by have := ok.kp; omega), by rw [List.length_map]; omega, fun pt e => ?_, fun _ g H5 hg sx hA => ?_⟩
  · rw [page_errP ok p hk.two hr.two] at e
    cases e
  · rw [page_fileP ok.so p hg] at hA
    exact q H5 (made_same hx hd sx) hA
def flipG {α : Type} : List α → List α
  | [a, b, c] => [c, b, a]
  | l => l
theorem flipG_rel {zs : List V} {ws : List Value} (h : Vals zs ws) : Vals (flipG zs) (flipG ws) := by
  cases h with
  | nil => exact .nil
  | cons a r => cases r with
    | nil => exact .cons a .nil
    | cons b r => cases r with
      | nil => exact .cons a (.cons b .nil)
      | cons c r => cases r with
        | nil => exact .cons c (.cons b (.cons a .nil))
        | cons e r => exact .cons a (.cons b (.cons c (.cons e r)))
theorem PgM.putD {K : PySem.W.Frag} {H : Hp} {p : Addr} {kv : List (Key × V)} {o : HO} {v : V} {f : FileD} (h : PgM K H v f) (hp : H p = some (.dK kv)) : PgM K (upd H p o) v f := by
  obtain ⟨a, r, k, e, h1, h2, h3⟩ := h
  have ne : ∀ {b : Addr} {ys : List V}, H b = some (.tup ys) → b ≠ p := fun hb z => by rw [z, hp] at hb; cases hb
  exact ⟨a, r, k, e, by rw [upd_ne (ne h1)]; exact h1, by rw [upd_ne (ne h2)]; exact h2, by rw [upd_ne (ne h3)]; exact h3⟩
theorem fm_filterS (l : List Str) (q : Str → Bool) : (List.range l.length).filterMap (fun i => l[i]?.bind fun x => if q x then some (V.str x) else none) = (l.filter q).map V.str := by
  induction l with
  | nil => rfl
  | cons a r ih =>
    rw [List.length_cons, List.range_succ_eq_map, List.filterMap_cons, List.filterMap_map, List.filter_cons]
    have e : (fun i => (a :: r)[i]?.bind fun x => if q x then some (V.str x) else none) ∘ Nat.succ = fun i => r[i]?.bind fun x => if q x then some (V.str x) else none := by
      funext i
      simp
    rw [e, ih]
    cases h : q a <;> simp [h]
end WP
namespace WP
open PySem L2 PySem.Spec PyProof.Rows LamX
theorem FVals.putD {K : PySem.W.Frag} {CF p : Addr} {H : Hp} {o : HO} {kv : List (Key × V)} : ∀ {kvs : List (Key × V)} {fs : List (Str × FileD)}, FVals K CF H kvs (mdL fs) → H p = some (.dK kv) → FVals K CF (upd H p o) kvs (mdL fs) := by
  intro kvs fs
  induction fs generalizing kvs with
  | nil => intro h _; cases h; exact .nil
  | cons a r ih =>
    intro h hp
    have e : mdL (a :: r) = (.inr a.1, some a.2) :: mdL r := rfl
    rw [e] at h ⊢
    cases h with
    | file h1 h2 h3 => exact .file (h1.put hp) h2 (ih h3 hp)
theorem SqT.hd {K : PySem.W.Frag} {d w c : Addr} {B : Int} {H : Hp} {a : Addr} {xs : List V} (h : SqT K H a xs) (D : Dr d w c B H) : SqT K (hd2 d w H) a xs := by
  obtain ⟨⟨r, t, e1, _⟩, ⟨ns, e2⟩, _⟩ := D
  rcases h with (h | ⟨o, h⟩) | h
  · exact .inl (.inl (hd2_mk h (fun z => by rw [z, e1] at h; cases h) (fun z => by rw [z, e2] at h; cases h)))
  · exact .inl (.inr ⟨o, hd2_mk h (fun z => by rw [z, e1] at h; cases h) (fun z => by rw [z, e2] at h; cases h)⟩)
  · exact .inr h
theorem FileAt.hd {K : PySem.W.Frag} {CF : Addr} {d w c : Addr} {B : Int} {H : Hp} {v : V} {f : FileD} (h : FileAt K CF H v f) (D : Dr d w c B H) : FileAt K CF (hd2 d w H) v f := by
  obtain ⟨a, dx, t1, t2, e, h1, h2, h3⟩ := h
  have D' := D
  obtain ⟨⟨r, t, e1, _⟩, ⟨ns, e2⟩, _⟩ := D
  exact ⟨a, dx, t1, t2, e, hd2_mk h1 (fun z => by rw [z, e1] at h1; cases h1) (fun z => by rw [z, e2] at h1; cases h1), SqT.hd h2 D', SqT.hd h3 D'⟩
end WP
namespace WP
open PySem L2 PySem.Spec PyProof.Rows LamX
def txV (v : V) : Bool := match v with | .str z => decide (z.length ≤ 9) && PyData.strOk z | _ => true
def OddT (K : PySem.W.Frag) (H : Hp) (v : V) : Prop := ∃ k xs, SeqV K H v k xs ∧ xs.length ≤ 2 ∧ (∀ z, v = .str z → z.length ≤ 9) ∧ (∀ i, v = .int i → i.natAbs < 2 ^ 110) ∧ (k.isTup = true → ∃ a, v = .ref a ∧ H a = some (.tup xs)) ∧ txV v = true ∧ xs.all txV = true
theorem OddT.same {K : PySem.W.Frag} {H H' : Hp} {y : V} (h : OddT K H y) (s : Same H H') : OddT K H' y := by
  obtain ⟨k, xs, h1, h2, h3, h4, h5⟩ := h
  exact ⟨k, xs, h1.same s, h2, h3, h4, fun e => by obtain ⟨a, e1, e2⟩ := h5.1 e; exact ⟨a, e1, s _ _ e2⟩, h5.2⟩
theorem OddT.item {K : PySem.W.Frag} {H : Hp} {y : V} (h : OddT K H y) : ItemV K H y := by
  obtain ⟨k, xs, h1, h2, h3, _⟩ := h
  exact ⟨k, h1.1, fun z e => Nat.le_trans (h3 z e) (by decide)⟩
structure Ot (K : PySem.W.Frag) (d w c : Addr) (B : Int) (H0 H : Hp) (xs : List V) : Prop where
  ds : Ds d w c B H0 H
  al : ∀ x ∈ xs, OddT K (hd2 d w H) x
section
variable {K : PySem.W.Frag} {d w c p : Addr} {B : Int} {H0 H H' : Hp} {xs ys : List V}
theorem Ot.start (h : Dr d w c B H) : Ot K d w c B H H [] := ⟨⟨h, Same.refl _⟩, fun x hx => by cases hx⟩
theorem Ot.add {v : V} (O : Ot K d w c B H0 H xs) (h : OddT K (hd2 d w H) v) : Ot K d w c B H0 H (xs ++ [v]) := ⟨O.ds, fun x hx => (List.mem_append.mp hx).elim (O.al x) fun e => List.mem_singleton.mp e ▸ h⟩
theorem Ot.same (O : Ot K d w c B H0 H xs) (s : Same H H') : Ot K d w c B H0 H' xs := ⟨O.ds.same s, fun x hx => (O.al x hx).same (hd2_same s)⟩
theorem Ot.new {o : HO} (O : Ot K d w c B H0 H xs) (hp : H p = none) : Ot K d w c B H0 (upd H p o) xs := O.same (Evl.Ex.new hp)
theorem Ot.at {o : HO} (O : Ot K d w c B H0 H xs) (hp : H p = none) : hd2 d w (upd H p o) p = some o := O.ds.at hp
theorem Ot.n (O : Ot K d w c B H0 H xs) : Ot K d w c B H0 H (xs ++ [.non]) := O.add ⟨.non, [], ⟨.non, fun e => by cases e⟩, by decide, fun z e => (by cases e), fun i e => (by cases e), fun e => (by cases e), rfl, rfl⟩
theorem Ot.b (O : Ot K d w c B H0 H xs) (b : Bool) : Ot K d w c B H0 H (xs ++ [.bl b]) := O.add ⟨.bl, [], ⟨.bl b, fun e => by cases e⟩, by decide, fun z e => (by cases e), fun i e => (by cases e), fun e => (by cases e), rfl, rfl⟩
theorem Ot.i (O : Ot K d w c B H0 H xs) (i : Int) (h : i.natAbs < 2 ^ 110) : Ot K d w c B H0 H (xs ++ [.int i]) := O.add ⟨.int, [], ⟨.int i, fun e => by cases e⟩, by decide, fun z e => (by cases e), fun j e => (by cases e; exact h), fun e => (by cases e), rfl, rfl⟩
theorem tx_len {z : Str} (h : txV (.str z) = true) : z.length ≤ 9 := by
  have h : (decide (z.length ≤ 9) && PyData.strOk z) = true := h
  rw [Bool.and_eq_true, decide_eq_true_eq] at h
  exact h.1
theorem Ot.s (O : Ot K d w c B H0 H xs) (z : Str) (h0 : txV (.str z) = true) : Ot K d w c B H0 H (xs ++ [.str z]) := O.add ⟨.str, [], ⟨.str z, fun e => by cases e⟩, by decide, fun z e => (by cases e; exact tx_len h0), fun i e => (by cases e), fun e => (by cases e), h0, rfl⟩
theorem Ot.own (O : Ot K d w c B H0 H xs) (hp : H p = none) : Ot K d w c B H0 (upd H p (.lst xs)) xs ∧ hd2 d w (upd H p (.lst xs)) p = some (.lst xs) := ⟨O.new hp, O.at hp⟩
/-- an instance that is new -/
theorem Ot.o {C dx : Addr} {fs : List (Str × V)} (O : Ot K d w c B H0 H xs) (hp : H p = none) (s : Same H H') (e : H' p = some (.ins C dx fs)) (I : InsK K C) : Ot K d w c B H0 H' (xs ++ [.ref p]) := by
  refine (O.same s).add ⟨.ins C, [], ⟨.ins (hd2_mk e ?_ ?_) I, fun e => by cases e⟩, by decide, fun z e => (by cases e), fun i e => (by cases e), fun e => (by cases e), rfl, rfl⟩
  · exact (O.ds.dr.off hp).1
  · exact (O.ds.dr.off hp).2.1
end
end WP
namespace WP
open PySem L2 PySem.Spec PyProof.Rows LamX TL
end WP
namespace WP
open PySem L2 PySem.Spec PyProof.Rows LamX TL
end WP
namespace WP
open PySem L2 PySem.Spec PyProof.Rows LamX
inductive RefsP (H : Hp) : List (Key × V) → List (Str × FileD) → List Addr → Prop
  | nil : RefsP H [] [] []
  | cons {n : Str} {o r : Addr} {f : FileD} {kvs : List (Key × V)} {fs : List (Str × FileD)} {rs : List Addr} : H o = some (.lst [.str "", .ref r]) → H r = some (.lst (f.refers.map V.str)) → RefsP H kvs fs rs → RefsP H ((.inr n, .ref o) :: kvs) ((n, f) :: fs) (r :: rs)
theorem two_ne (l : List Str) {r : Addr} : (HO.lst [.str "", .ref r]) ≠ .lst (l.map V.str) := fun e => by
  have e := HO.lst.inj e
  match l, e with
  | [], e => cases e
  | [a], e => cases e
  | a :: b :: t, e => rw [List.map_cons, List.map_cons] at e; cases e
theorem addRef_no_key {fs : List (Str × FileD)} {a m : Str} (h : a ∉ fs.map (·.1)) : addRef fs a m = fs := by
  unfold addRef
  have : ∀ l : List (Str × FileD), (∀ p ∈ l, p.1 ≠ a) → l.map (fun p => if p.1 = a then (p.1, { p.2 with refers := p.2.refers ++ [m] }) else p) = l := by
    intro l
    induction l with
    | nil => intro _; rfl
    | cons p r ih =>
      intro hl
      rw [List.map_cons, if_neg (hl p List.mem_cons_self), ih fun q hq => hl q (List.mem_cons_of_mem _ hq)]
  exact this fs fun p hp e => h (List.mem_map.mpr ⟨p, hp, e⟩)
section
variable {H H' : Hp} {kvs kvs' : List (Key × V)} {fs fs' : List (Str × FileD)} {rs rs' : List Addr}
theorem RefsP.same (h : RefsP H kvs fs rs) (s : Same H H') : RefsP H' kvs fs rs := by
  induction h with
  | nil => exact .nil
  | cons h1 h2 _ ih => exact .cons (s _ _ h1) (s _ _ h2) ih
theorem RefsP.app (h : RefsP H kvs fs rs) (h' : RefsP H kvs' fs' rs') : RefsP H (kvs ++ kvs') (fs ++ fs') (rs ++ rs') := by
  induction h with
  | nil => exact h'
  | cons h1 h2 _ ih => exact .cons h1 h2 ih
theorem RefsP.keys (h : RefsP H kvs fs rs) : kvs.map (·.1) = (fs.map (·.1)).map Sum.inr := by
  induction h with
  | nil => rfl
  | cons _ _ _ ih => simp [ih]
theorem RefsP.len (h : RefsP H kvs fs rs) : rs.length = fs.length := by
  induction h with
  | nil => rfl
  | cons _ _ _ ih => simp [ih]
theorem RefsP.ex (h : RefsP H kvs fs rs) : ∀ r ∈ rs, ∃ l : List Str, H r = some (.lst (l.map V.str)) := by
  induction h with
  | nil => intro r hr; cases hr
  | @cons n o r f kvs fs rs h1 h2 _ ih =>
    intro x hx
    rcases List.mem_cons.mp hx with rfl | hx
    · exact ⟨_, h2⟩
    · exact ih x hx
theorem RefsP.at (h : RefsP H kvs fs rs) {n : Str} {f : FileD} (e : lkF fs n = some f) : ∃ (i : Nat) (o r : Addr), fs[i]? = some (n, f) ∧ rs[i]? = some r ∧ valV kvs (.inr n) = some (.ref o) ∧ H o = some (.lst [.str "", .ref r]) ∧ H r = some (.lst (f.refers.map V.str)) := by
  induction h with
  | nil => cases e
  | @cons k o r g kvs fs rs h1 h2 _ ih =>
    by_cases z : k = n
    · subst z
      rw [lkF_hit (fs := fs)] at e
      cases e
      exact ⟨0, o, r, rfl, rfl, valV_pos rfl, h1, h2⟩
    · rw [lkF_skip z] at e
      obtain ⟨i, o', r', a1, a2, a3, a4⟩ := ih e
      exact ⟨i + 1, o', r', a1, a2, by rw [valV_neg (fun q => z (Sum.inr.inj q))]; exact a3, a4⟩
theorem RefsP.other {p : Addr} {o' : HO} (h : RefsP H kvs fs rs) (hp : p ∉ rs) (hf : ∀ r : Addr, H p ≠ some (.lst [.str "", .ref r])) : RefsP (upd H p o') kvs fs rs := by
  induction h with
  | nil => exact .nil
  | @cons n o r f kvs fs rs h1 h2 _ ih =>
    exact .cons (by rw [upd_ne (fun z => hf r (by have h4 := h1; rw [z] at h4; exact h4))]; exact h1) (by rw [upd_ne (fun z => hp (by rw [← z]; exact List.mem_cons_self))]; exact h2) (ih fun hm => hp (List.mem_cons_of_mem _ hm))
theorem RefsP.put {a m : Str} {f : FileD} {r : Addr} (h : RefsP H kvs fs rs) (nr : rs.Nodup) (nd : (fs.map (·.1)).Nodup) {i : Nat} (hi : fs[i]? = Option.some (a, f)) (hr : rs[i]? = Option.some r) (hc : H r = Option.some (.lst (f.refers.map V.str))) : RefsP (upd H r (.lst ((f.refers ++ [m]).map V.str))) kvs (addRef fs a m) rs := by
  induction h generalizing i with
  | nil => cases hi
  | @cons n o r' g kvs fs rs h1 h2 h3 ih =>
    rw [List.map_cons, List.nodup_cons] at nd
    rw [List.nodup_cons] at nr
    have hf : ∀ q : Addr, H r ≠ Option.some (.lst [.str "", .ref q]) := fun q z => by
      rw [hc] at z
      exact two_ne _ (Option.some.inj z).symm
    have e2 : addRef ((n, g) :: fs) a m = (if n = a then (n, { g with refers := g.refers ++ [m] }) else (n, g)) :: addRef fs a m := rfl
    cases i with
    | zero =>
      cases hi
      cases hr
      rw [e2, if_pos rfl, addRef_no_key nd.1]
      exact .cons (by rw [upd_ne (fun z => hf r (by have h4 := h1; rw [z] at h4; exact h4))]; exact h1) upd_same (h3.other nr.1 hf)
    | succ i =>
      have hi : fs[i]? = Option.some (a, f) := hi
      have hr : rs[i]? = Option.some r := hr
      have na : n ≠ a := fun z => nd.1 (List.mem_map.mpr ⟨_, List.mem_of_getElem? hi, z.symm⟩)
      have nrr : r' ≠ r := fun z => nr.1 (by rw [z]; exact List.mem_of_getElem? hr)
      rw [e2, if_neg na]
      exact .cons (by rw [upd_ne (fun z => hf r' (by have h4 := h1; rw [z] at h4; exact h4))]; exact h1) (by rw [upd_ne nrr]; exact h2) (ih nr.2 nd.2 hi hr)
theorem RefsP.putd {p : Addr} {kv : List (Key × V)} {o' : HO} (h : RefsP H kvs fs rs) (hp : H p = Option.some (.dK kv)) : RefsP (upd H p o') kvs fs rs := by
  refine h.other (fun hm => ?_) (fun r z => by rw [hp] at z; cases z)
  obtain ⟨l, hl⟩ := h.ex p hm
  rw [hp] at hl
  cases hl
end
end WP
namespace WP
open PySem PySem.Calls PyProof.Rows PyProof.V PySem.Spec PySem.W
open L2
end WP
namespace WP
open PySem L2 PySem.Spec PyProof.Rows
/-- the last place up to i at which x stands in its row -/
def lastAt (rows : List (List Str)) (x : Str) : Nat → Nat
  | 0 => 0
  | i + 1 => if x ∈ rows.getD (i + 1) [] then i + 1 else lastAt rows x i
def numKv (rows : List (List Str)) (i : Nat) : List (Key × V) := (rows.getD 0 []).map fun x => (.inr x, .int (lastAt rows x i))
def RowsT (H : Hp) (ts : List Addr) (rows : List (List Str)) : Prop := ts.length = rows.length ∧ ∀ (i : Nat) (r : Addr) (ks : List Str), ts[i]? = some r → rows[i]? = some ks → H r = some (.tup (ks.map V.str))
theorem RowsT.same {H H' : Hp} {ts : List Addr} {rows : List (List Str)} (h : RowsT H ts rows) (s : Same H H') : RowsT H' ts rows := ⟨h.1, fun i r ks h1 h2 => s _ _ (h.2 i r ks h1 h2)⟩
def NumsT (H : Hp) (ds : List Addr) (rows : List (List Str)) (n : Nat) : Prop := ds.length = n ∧ ∀ (i : Nat) (d : Addr), ds[i]? = some d → H d = some (.dK (numKv rows i))
theorem NumsT.same {H H' : Hp} {ds : List Addr} {rows : List (List Str)} {n : Nat} (h : NumsT H ds rows n) (s : Same H H') : NumsT H' ds rows n := ⟨h.1, fun i d e => s _ _ (h.2 i d e)⟩
theorem NumsT.snoc {H : Hp} {ds : List Addr} {rows : List (List Str)} {n : Nat} {d : Addr} (h : NumsT H ds rows n) (e : H d = some (.dK (numKv rows n))) : NumsT H (ds ++ [d]) rows (n + 1) := by
  refine ⟨by rw [List.length_append, h.1]; rfl, fun i q hq => ?_⟩
  by_cases hi : i < ds.length
  · rw [List.getElem?_append_left hi] at hq
    exact h.2 i q hq
  · have il : i < (ds ++ [d]).length := (List.getElem?_eq_some_iff.mp hq).1
    rw [List.length_append, List.length_singleton] at il
    have ii : i = ds.length := by omega
    rw [ii, List.getElem?_append_right (Nat.le_refl _), Nat.sub_self] at hq
    cases hq
    rw [ii, h.1]
    exact e
/-- the rows of some changes: all names, and for each change what it reaches -/
structure RowsOk (m : MdD) (s : SiteD) (css rows : List (List Str)) : Prop where
  len : rows.length = css.length + 1
  hd : rows[0]? = some (s.files.map (·.1))
  cl : ∀ (i : Nat) (ks r : List Str), css[i]? = some ks → rows[i + 1]? = some r → CloR m ks r
/-- changes that are right -/
def ChOk (m : MdD) (css : List (List Str)) : Prop := css.length ≤ 30 ∧ ∀ ks ∈ css, ks ≠ [] ∧ ks.Nodup ∧ ∀ n ∈ ks, n ∈ m.files.map (·.1)
theorem RowsT.cons {H : Hp} {t : Addr} {ts : List Addr} {row : List Str} {rows : List (List Str)} (h0 : H t = some (.tup (row.map V.str))) (h : RowsT H ts rows) : RowsT H (t :: ts) (row :: rows) := by
  refine ⟨by rw [List.length_cons, List.length_cons, h.1], fun i r z e1 e2 => ?_⟩
  cases i with
  | zero => cases e1; cases e2; exact h0
  | succ i => exact h.2 i r z e1 e2
theorem RowsT.upd {H : Hp} {ts : List Addr} {rows : List (List Str)} {D : Addr} {o o' : HO} (h : RowsT H ts rows) (hD : H D = some o') (ho : ∀ xs, o' ≠ .tup xs) : RowsT (upd H D o) ts rows :=
  ⟨h.1, fun i r ks h1 h2 => by
    have := h.2 i r ks h1 h2
    rw [upd_ne (fun z => by rw [z, hD] at this; exact ho _ (Option.some.inj this))]
    exact this⟩
theorem NumsT.upd {H : Hp} {ds : List Addr} {rows : List (List Str)} {n : Nat} {D : Addr} {o o' : HO} (h : NumsT H ds rows n) (hD : H D = some o') (ho : ∀ kv, o' ≠ .dK kv) : NumsT (upd H D o) ds rows n :=
  ⟨h.1, fun i r h1 => by
    have := h.2 i r h1
    rw [upd_ne (fun z => by rw [z, hD] at this; exact ho _ (Option.some.inj this))]
    exact this⟩
end WP
namespace WP
open PySem L2 PySem.Spec PyProof.Rows
def EdAt (K : PySem.W.Frag) (CD : Addr) (H : Hp) (v sv : V) (rows : List (List Str)) : Prop := ∃ (a dx t l : Addr) (ts ds : List Addr), v = .ref a ∧ H a = some (.ins CD dx [("own_site", sv), ("own_changed", .ref t), ("own_numbers", .ref l)]) ∧ H t = some (.tup (ts.map V.ref)) ∧ RowsT H ts rows ∧ H l = some (.lst (ds.map V.ref)) ∧ NumsT H ds rows rows.length
theorem EdAt.same {K : PySem.W.Frag} {CD : Addr} {H H' : Hp} {v sv : V} {rows : List (List Str)} (h : EdAt K CD H v sv rows) (s : Same H H') : EdAt K CD H' v sv rows := by
  obtain ⟨a, dx, t, l, ts, ds, e, h1, h2, h3, h4, h5⟩ := h
  exact ⟨a, dx, t, l, ts, ds, e, s _ _ h1, s _ _ h2, h3.same s, s _ _ h4, h5.same s⟩
def ErrN (CE : Addr) (H : Hp) (E : XK) (n : V) : Prop := ∀ d H', Same H H' → H' d = some (.xd [("number", n)]) → E (.ref CE) (some d) H'
theorem ErrN.at {CE : Addr} {H H1 : Hp} {E : XK} {n : V} (h : ErrN CE H E n) (s : Same H H1) {d : Addr} (hd : H1 d = none) : E (.ref CE) (some d) (upd H1 d (.xd [("number", n)])) := h d _ (s.trans (Evl.Ex.new hd)) upd_same
theorem ErrN.same {CE : Addr} {H H1 : Hp} {E : XK} {n : V} (h : ErrN CE H E n) (s : Same H H1) : ErrN CE H1 E n := fun d H' s' => h d H' (s.trans s')
/-- the next edition that changes a file -/
def nextAt (rows : List (List Str)) (x : Str) (i : Nat) : Option Nat := ((List.range' (i + 1) (rows.length - (i + 1))).filter fun j => decide (x ∈ rows.getD j [])).head?
def endV : Option Nat → V
  | some j => .int ((j : Int) - 1)
  | none => .non
end WP
namespace WP
open PySem L2 PySem.Spec PyProof.Rows
structure LRowsOk (m : MdD) (css rows : List (List Str)) : Prop where
  len : rows.length = css.length + 1
  hd : ∃ ys : List Str, rows[0]? = some ys ∧ ys.Perm (m.files.map (·.1)) ∧ sortedS ys = true
  cl : ∀ (i : Nat) (ks r : List Str), css[i]? = some ks → rows[i + 1]? = some r → CloR m ks r
/-- lists of texts, one for each row -/
def RowsL (H : Hp) (rs : List Addr) (rows : List (List Str)) : Prop := rs.length = rows.length ∧ ∀ (i : Nat) (r : Addr) (ks : List Str), rs[i]? = some r → rows[i]? = some ks → H r = some (.lst (ks.map V.str))
theorem RowsL.same {H H' : Hp} {ts : List Addr} {rows : List (List Str)} (h : RowsL H ts rows) (s : Same H H') : RowsL H' ts rows := ⟨h.1, fun i r ks h1 h2 => s _ _ (h.2 i r ks h1 h2)⟩
theorem RowsL.snoc {H : Hp} {ts : List Addr} {rows : List (List Str)} {t : Addr} {row : List Str} (h : RowsL H ts rows) (e : H t = some (.lst (row.map V.str))) : RowsL H (ts ++ [t]) (rows ++ [row]) := by
  refine ⟨by rw [List.length_append, List.length_append, h.1]; rfl, fun i r ks h1 h2 => ?_⟩
  by_cases hi : i < ts.length
  · rw [List.getElem?_append_left hi] at h1
    rw [List.getElem?_append_left (by rw [← h.1]; exact hi)] at h2
    exact h.2 i r ks h1 h2
  · have il : i < (ts ++ [t]).length := (List.getElem?_eq_some_iff.mp h1).1
    rw [List.length_append, List.length_singleton] at il
    have ii : i = ts.length := by omega
    rw [ii, List.getElem?_append_right (Nat.le_refl _), Nat.sub_self] at h1
    rw [ii, h.1, List.getElem?_append_right (Nat.le_refl _), Nat.sub_self] at h2
    cases h1
    cases h2
    exact e
end WP
namespace WP
open PySem L2 PySem.Spec PyProof.Rows
theorem rows_uniq {s : SiteD} {m : MdD} {css rows rows' : List (List Str)} (sm : SiteM s m) (h : RowsOk m s css rows) (g : LRowsOk m css rows') : rows = rows' := by
  have l1 := h.len
  have l2 := g.len
  refine List.ext_getElem? fun i => ?_
  cases i with
  | zero =>
    obtain ⟨ys, e, pm, so⟩ := g.hd
    rw [h.hd, e]
    exact congrArg some (sorted_uniq ((sm.fs.map _).trans pm.symm) sm.ok.so so)
  | succ i =>
    by_cases hi : i < css.length
    · have a1 : i + 1 < rows.length := by omega
      have a2 : i + 1 < rows'.length := by omega
      rw [List.getElem?_eq_getElem a1, List.getElem?_eq_getElem a2]
      exact congrArg some (CloR.uniq (h.cl i _ _ (List.getElem?_eq_getElem hi) (List.getElem?_eq_getElem a1)) (g.cl i _ _ (List.getElem?_eq_getElem hi) (List.getElem?_eq_getElem a2)) fun _ => Iff.rfl)
    · rw [List.getElem?_eq_none (by omega), List.getElem?_eq_none (by omega)]
theorem EdAt.up {K : PySem.W.Frag} {CD : Addr} {H G : Hp} {v sv : V} {rows : List (List Str)} (h : EdAt K CD (fr H G) v sv rows) : EdAt K CD G v sv rows := h.same fr_sub
theorem EdAt.hd {K : PySem.W.Frag} {CD d w c : Addr} {B : Int} {H G : Hp} {v sv : V} {rows : List (List Str)} (h : EdAt K CD (fr H G) v sv rows) (D : Dr d w c B H) : EdAt K CD (hd2 d w G) v sv rows := h.same (fr_hd2 D)
structure RGood (m : MdD) (rows : List (List Str)) : Prop where
  pos : 0 < rows.length
  few : rows.length ≤ 31
  nd0 : (rows.getD 0 []).Nodup
  hd0 : ∀ x, x ∈ rows.getD 0 [] ↔ x ∈ m.files.map (·.1)
  so0 : sortedS (rows.getD 0 []) = true
  all : ∀ i, (∀ x ∈ rows.getD i [], x ∈ m.files.map (·.1)) ∧ (rows.getD i []).Nodup ∧ (rows.getD i []).length ≤ 8
theorem RGood.at {m : MdD} {rows : List (List Str)} (h : RGood m rows) {i : Nat} {r : List Str} (e : rows[i]? = some r) : rows.getD i [] = r := by rw [List.getD_eq_getElem?_getD, e]; rfl
end WP
namespace WP
open PySem PySem.Spec PyProof.Rows L2 LamX
def LamV (X : Cx) (params : Arguments) (body : Expr) (scope : Scope) (f c' : Addr) : HO := .ext fun h => ∃ pm ctv : Value, h.get? f = some (PySem.W.kla_obj "<lambda>" (X.env.qual ++ "<lambda>") params body scope (cloFrom X.env.cells scope.names []) pm c' ctv)
theorem lamV_ne {X : Cx} {params : Arguments} {body : Expr} {scope : Scope} {f c' : Addr} (ps : Array Value) : LamV X params body scope f c' ≠ .tbl ps := fun z => by
  unfold LamV at z
  cases z
end WP
namespace WP
open PySem PySem.Spec PyProof.Rows L2 LamX
section
variable {K : PySem.W.Frag} {CD : Addr} {H H' : Hp} {v sv : V} {rows : List (List Str)} {ts ds : List Addr} {n : Nat}
theorem RowsT.ext (h : RowsT H ts rows) (e : ExtN H H') : RowsT H' ts rows := ⟨h.1, fun i r ks h1 h2 => e _ _ (h.2 i r ks h1 h2) fun _ z => by cases z⟩
theorem NumsT.ext (h : NumsT H ds rows n) (e : ExtN H H') : NumsT H' ds rows n := ⟨h.1, fun i d h1 => e _ _ (h.2 i d h1) fun _ z => by cases z⟩
theorem RowsL.ext (h : RowsL H ts rows) (e : ExtN H H') : RowsL H' ts rows := ⟨h.1, fun i r ks h1 h2 => e _ _ (h.2 i r ks h1 h2) fun _ z => by cases z⟩
theorem EdAt.ext (h : EdAt K CD H v sv rows) (s : ExtN H H') : EdAt K CD H' v sv rows := by
  obtain ⟨a, dx, t, l, ts, ds, e, h1, h2, h3, h4, h5⟩ := h
  exact ⟨a, dx, t, l, ts, ds, e, s _ _ h1 (fun _ z => by cases z), s _ _ h2 (fun _ z => by cases z), h3.ext s, s _ _ h4 (fun _ z => by cases z), h5.ext s⟩
end
/-- a thing that is no table is written: the frame that was ahead of it stands -/
theorem Lx.mut {d w c L : Addr} {B : Int} {T : List (Addr × Str)} {H0 Hb H : Hp} {xs : List V} {o : HO} (x0 : Lx d w c B T H0 Hb) (e : ExtN Hb H) (t : Tabs T H) (hL : Hb L = none ∨ FreeT Hb L) (hl : H L = some (.lst xs)) : Lx d w c B T H0 (upd H L o) :=
  x0.lam (extN_mut e (hL.elim (fun h => fun o ho => by rw [h] at ho; cases ho) id)) (Tabs.put t hl)
/-- a lambda that is kept in a list -/
structure LmA (H : Hp) (f c : Addr) (o : HO) (q : Str) : Prop where
  fn : H f = some o
  cd : H c = some (CodeO c q)
  nl : ∀ xs, o ≠ .lst xs
  nt : ∀ ps, o ≠ .tbl ps
theorem LmA.ext {H H' : Hp} {f c : Addr} {o : HO} {q : Str} (h : LmA H f c o q) (e : ExtN H H') : LmA H' f c o q := ⟨e _ _ h.fn h.nt, e _ _ h.cd codeO_ne, h.nl, h.nt⟩
theorem LmA.put {H : Hp} {f c p : Addr} {o o' : HO} {q : Str} {xs : List V} (h : LmA H f c o q) (hp : H p = some (.lst xs)) : LmA (upd H p o') f c o q := by
  refine ⟨(upd_ne (fun z => ?_)).trans h.fn, (upd_ne (fun z => ?_)).trans h.cd, h.nl, h.nt⟩
  · have := h.fn
    rw [z, hp] at this
    exact h.nl _ (Option.some.inj this).symm
  · have := h.cd
    rw [z, hp] at this
    unfold CodeO at this
    cases this
theorem LmA.of {X : Cx} {params : Arguments} {body : Expr} {scope : Scope} {f c : Addr} {H : Hp} {q : Str} (hf : H f = none) (hc : H c = some (CodeO c q)) : LmA (upd H f (LamV X params body scope f c)) f c (LamV X params body scope f c) q :=
  ⟨upd_same, by rw [upd_ne (fun z => by rw [z, hf] at hc; cases hc)]; exact hc, (fun xs z => by unfold LamV at z; cases z), lamV_ne⟩
end WP
namespace WP
open PySem PySem.Spec PyProof.Rows L2 LamX
def KeptA (K : PySem.W.Frag) (CD : Addr) (H : Hp) (t : Addr) : Prop := ∃ (v sv : V) (b : Addr) (rs : List Addr) (rows : List (List Str)) (m : MdD), H t = some (.tup [v, .ref b]) ∧ EdAt K CD H v sv rows ∧ H b = some (.lst (rs.map V.ref)) ∧ RowsL H rs rows ∧ MdOk m ∧ RGood m rows
section
variable {K : PySem.W.Frag} {CD : Addr} {H H' : Hp} {t p : Addr} {xs : List V} {o : HO}
theorem KeptA.ext (h : KeptA K CD H t) (e : ExtN H H') : KeptA K CD H' t := by
  obtain ⟨v, sv, b, rs, rows, m, h1, h2, h3, h4, h5, h6⟩ := h
  exact ⟨v, sv, b, rs, rows, m, e _ _ h1 (fun _ z => by cases z), h2.ext e, e _ _ h3 (fun _ z => by cases z), h4.ext e, h5, h6⟩
end
/-- all lists of a row of lists stand, whatever they hold -/
def LstsAt (H : Hp) (us : List Addr) : Prop := ∀ u ∈ us, ∃ xs, H u = some (.lst xs)
theorem LstsAt.put {H : Hp} {us : List Addr} {p : Addr} {xs : List V} (h : LstsAt H us) : LstsAt (upd H p (.lst xs)) us := fun u hu => by
  by_cases e : u = p
  · exact ⟨xs, by rw [e, upd_same]⟩
  · obtain ⟨ys, hy⟩ := h u hu
    exact ⟨ys, by rw [upd_ne e]; exact hy⟩
theorem RowsL.hd {d w c : Addr} {B : Int} {H H' : Hp} {rs : List Addr} {rows : List (List Str)} (h : RowsL H' rs rows) (n : ∀ r ∈ rs, H r = none) (D : Dr d w c B H) : RowsL (hd2 d w H') rs rows := ⟨h.1, fun i r ks h1 h2 => by
  obtain ⟨o1, o2, _⟩ := D.off (n r (List.mem_of_getElem? h1))
  exact hd2_mk (h.2 i r ks h1 h2) o1 o2⟩
end WP
namespace WP
open PySem PySem.Spec PyProof.Rows L2
theorem noPart {σ : L2.St} {H : Hp} {Q : Option Int → Hp → Prop} (h : Q none H) : tNoPart σ H Q := h
theorem cut_toN (xs : List V) (n : Nat) : cutV xs none (some (n : Int)) = xs.take n := by
  unfold cutV
  simp only [HT.sIx]
  rw [if_neg (by omega), List.drop_zero]
  rw [show ((n : Int)).toNat = n by omega]
  rcases Nat.le_total n xs.length with h | h
  · rw [Nat.min_eq_left h]
    rfl
  · rw [Nat.min_eq_right h, List.take_of_length_le h]
    exact List.take_length
def bitKv (bit : List (Str × Nat)) : List (Key × V) := bit.map fun q => (.inr q.1, .int (q.2 : Nat))
def bitAt (bit : List (Str × Nat)) (x : Str) : Nat := match bit with
  | [] => 0
  | q :: r => if q.1 = x then q.2 else bitAt r x
structure BitOk (rows : List (List Str)) (bit : List (Str × Nat)) : Prop where
  nd : (bit.map (·.1)).Nodup
  few : bit.length ≤ 8
  ct : ∀ q ∈ bit, q.1 ∈ rows.getD 0 [] ∧ q.2 < rows.length ∧ q.1 ∈ rows.getD q.2 []
theorem bitAt_of : ∀ {bit : List (Str × Nat)} {q : Str × Nat}, (bit.map (·.1)).Nodup → q ∈ bit → bitAt bit q.1 = q.2
  | p :: r, q, nd, h => by
    obtain ⟨h1, h2⟩ := List.nodup_cons.mp nd
    show (if p.1 = q.1 then p.2 else bitAt r q.1) = q.2
    rcases List.mem_cons.mp h with rfl | h
    · exact if_pos rfl
    · rw [if_neg (fun z => h1 (List.mem_map.mpr ⟨q, h, z.symm⟩))]
      exact bitAt_of h2 h
theorem bit_val : ∀ {bit : List (Str × Nat)} {x : Str}, x ∈ bit.map (·.1) → valV (bitKv bit) (.inr x) = some (.int (bitAt bit x : Nat))
  | p :: r, x, h => by
    show valV ((.inr p.1, .int (p.2 : Nat)) :: bitKv r) (.inr x) = some (.int ((if p.1 = x then p.2 else bitAt r x : Nat) : Int))
    by_cases e : p.1 = x
    · rw [if_pos e, ← e]
      exact dv1
    · rw [if_neg e]
      refine (dv2 e).trans (bit_val ?_)
      rcases List.mem_cons.mp h with z | z
      · exact absurd z.symm e
      · exact z
theorem BitOk.val {rows : List (List Str)} {bit : List (Str × Nat)} (h : BitOk rows bit) {q : Str × Nat} (hq : q ∈ bit) : valV (bitKv bit) (.inr q.1) = some (.int (q.2 : Nat)) := by
  rw [bit_val (List.mem_map.mpr ⟨q, hq, rfl⟩), bitAt_of h.nd hq]
def ltO (k : Nat) : Option Nat → Bool
  | none => true
  | some j => decide (k < j)
/-- is an edition in a stretch? -/
def hasEd (i : Nat) (nx : Option Nat) (k : Nat) : Bool := decide (i ≤ k) && ltO k nx
def hasAll (rows : List (List Str)) (bit : List (Str × Nat)) (k : Nat) : Bool := bit.all fun q => decide (lastAt rows q.1 k = q.2)
/-- the editions that have all of a piece -/
def hasL (rows : List (List Str)) (bit : List (Str × Nat)) : List Nat := (List.range rows.length).filter (hasAll rows bit)
def wholeB (rows : List (List Str)) (bit : List (Str × Nat)) : Bool := !(hasL rows bit).isEmpty
def stV (rows : List (List Str)) (bit : List (Str × Nat)) (x : Str) : List V := [.int (bitAt bit x : Nat), endV (nextAt rows x (bitAt bit x))]
def StrsT (H : Hp) (ts : List Addr) (ys : List Str) (rows : List (List Str)) (bit : List (Str × Nat)) : Prop := ts.length = ys.length ∧ ∀ (i : Nat) (t : Addr) (x : Str), ts[i]? = some t → ys[i]? = some x → H t = some (.tup (stV rows bit x))
section
variable {H H' : Hp} {ts : List Addr} {ys : List Str} {rows : List (List Str)} {bit : List (Str × Nat)} {D : Addr} {o o' : HO}
theorem StrsT.same (h : StrsT H ts ys rows bit) (s : Same H H') : StrsT H' ts ys rows bit := ⟨h.1, fun i t x h1 h2 => s _ _ (h.2 i t x h1 h2)⟩
theorem StrsT.put (h : StrsT H ts ys rows bit) (hD : H D = some o') (ho : ∀ xs, o' ≠ .tup xs) : StrsT (upd H D o) ts ys rows bit := ⟨h.1, fun i t x h1 h2 => by
  have := h.2 i t x h1 h2
  rw [upd_ne (fun z => by rw [z, hD] at this; exact ho _ (Option.some.inj this))]
  exact this⟩
theorem StrsT.snoc {t : Addr} {x : Str} (h : StrsT H ts ys rows bit) (e : H t = some (.tup (stV rows bit x))) : StrsT H (ts ++ [t]) (ys ++ [x]) rows bit := by
  refine ⟨by rw [List.length_append, List.length_append, h.1]; rfl, fun i r z h1 h2 => ?_⟩
  by_cases hi : i < ts.length
  · rw [List.getElem?_append_left hi] at h1
    rw [List.getElem?_append_left (by rw [← h.1]; exact hi)] at h2
    exact h.2 i r z h1 h2
  · have il : i < (ts ++ [t]).length := (List.getElem?_eq_some_iff.mp h1).1
    rw [List.length_append, List.length_singleton] at il
    have ii : i = ts.length := by omega
    rw [ii, List.getElem?_append_right (Nat.le_refl _), Nat.sub_self] at h1
    rw [ii, h.1, List.getElem?_append_right (Nat.le_refl _), Nat.sub_self] at h2
    cases h1
    cases h2
    exact e
end
def PairsT (H : Hp) (ts : List Addr) (ps : List (Str × Str)) : Prop := ts.length = ps.length ∧ ∀ (i : Nat) (t : Addr) (q : Str × Str), ts[i]? = some t → ps[i]? = some q → H t = some (.tup [.str q.1, .str q.2])
section
variable {H H' : Hp} {ts : List Addr} {ps : List (Str × Str)} {D t : Addr} {o o' : HO} {q : Str × Str}
theorem PairsT.same (h : PairsT H ts ps) (s : Same H H') : PairsT H' ts ps := ⟨h.1, fun i t x h1 h2 => s _ _ (h.2 i t x h1 h2)⟩
theorem PairsT.put (h : PairsT H ts ps) (hD : H D = some o') (ho : ∀ xs, o' ≠ .tup xs) : PairsT (upd H D o) ts ps := ⟨h.1, fun i t x h1 h2 => by
  have := h.2 i t x h1 h2
  rw [upd_ne (fun z => by rw [z, hD] at this; exact ho _ (Option.some.inj this))]
  exact this⟩
theorem PairsT.snoc (h : PairsT H ts ps) (e : H t = some (.tup [.str q.1, .str q.2])) : PairsT H (ts ++ [t]) (ps ++ [q]) := by
  refine ⟨by rw [List.length_append, List.length_append, h.1]; rfl, fun i r z h1 h2 => ?_⟩
  by_cases hi : i < ts.length
  · rw [List.getElem?_append_left hi] at h1
    rw [List.getElem?_append_left (by rw [← h.1]; exact hi)] at h2
    exact h.2 i r z h1 h2
  · have il : i < (ts ++ [t]).length := (List.getElem?_eq_some_iff.mp h1).1
    rw [List.length_append, List.length_singleton] at il
    have ii : i = ts.length := by omega
    rw [ii, List.getElem?_append_right (Nat.le_refl _), Nat.sub_self] at h1
    rw [ii, h.1, List.getElem?_append_right (Nat.le_refl _), Nat.sub_self] at h2
    cases h1
    cases h2
    exact e
end
def pairD (q : Str × Str) : PyData := .tuple [.str q.1, .str q.2]
theorem PairsT.dp {K : PySem.W.Frag} {H : Hp} : ∀ {ts : List Addr} {ps : List (Str × Str)}, PairsT H ts ps → DpAll K H (ts.map V.ref) (ps.map pairD)
  | [], [], _ => .nil
  | [], _ :: _, h => by cases h.1
  | _ :: _, [], h => by cases h.1
  | t :: ts, q :: ps, h => .cons (.tup (SqT.of (h.2 0 t q rfl rfl)) (.cons (.str _) (.cons (.str _) .nil))) (PairsT.dp ⟨Nat.succ.inj h.1, fun i t x h1 h2 => h.2 (i + 1) t x h1 h2⟩)
/-- editions, their site and a piece -/
structure PcAt (K : PySem.W.Frag) (CD CS CF : Addr) (H : Hp) (v : V) (p : Addr) (sv : V) (s : SiteD) (rows : List (List Str)) (bit : List (Str × Nat)) : Prop where
  ed : EdAt K CD (del H p) v sv rows
  st : SiteAt K CS CF (del H p) sv s
  pc : H p = some (.dK (bitKv bit))
  ok : BitOk rows bit
  nm : ∀ x ∈ bit.map (·.1), x ∈ s.files.map (·.1) ∧ x.length ≤ 8
  few : rows.length ≤ 31
  pos : 0 < rows.length
theorem PcAt.same {K : PySem.W.Frag} {CD CS CF p : Addr} {H H' : Hp} {v sv : V} {s : SiteD} {rows : List (List Str)} {bit : List (Str × Nat)} (h : PcAt K CD CS CF H v p sv s rows bit) (z : Same H H') : PcAt K CD CS CF H' v p sv s rows bit :=
  ⟨h.ed.same (del_mono z), h.st.same (del_mono z), z _ _ h.pc, h.ok, h.nm, h.few, h.pos⟩
/-- the law's rows and a piece -/
structure LpAt (H : Hp) (a b : Addr) (rs : List Addr) (rows : List (List Str)) (bit : List (Str × Nat)) : Prop where
  rw : del H b a = some (.lst (rs.map V.ref))
  at' : KdsAt (del H b) rs rows
  pc : H b = some (.dK (bitKv bit))
  ok : BitOk rows bit
  few : rows.length ≤ 31
theorem LpAt.same {H H' : Hp} {a b : Addr} {rs : List Addr} {rows : List (List Str)} {bit : List (Str × Nat)} (h : LpAt H a b rs rows bit) (s : Same H H') : LpAt H' a b rs rows bit := ⟨del_mono s _ _ h.rw, h.at'.same (del_mono s), s _ _ h.pc, h.ok, h.few⟩
end WP
namespace WP
open PySem PySem.Spec PyProof.Rows L2
def pDn (n : Int) (ss : List Str) : PyData := .tuple [.int n, .tuple (ss.map PyData.str)]
theorem toks_pD (n : Int) (ss : List Str) : PySem.W.keyToks (pDn n ss) = .inl 1 :: .inl n :: .inl 1 :: (PySem.W.keyToksAll (ss.map PyData.str) ++ [.inl 0]) := by
  unfold pDn
  rw [PySem.W.keyToks, PySem.W.keyToksAll, PySem.W.keyToksAll, PySem.W.keyToksAll, PySem.W.keyToks, PySem.W.keyToks]
  rfl
theorem str_ext {x y : Str} (h : x.cps.toList = y.cps.toList) : x = y := by
  cases x
  cases y
  exact congrArg _ (Array.toList_inj.mp h)
theorem toks_inj : ∀ {ss tt : List Str} {r q : List (Int ⊕ List Nat)}, PySem.W.keyToksAll (ss.map PyData.str) ++ r = PySem.W.keyToksAll (tt.map PyData.str) ++ q → ss = tt
  | [], [], _, _, _ => rfl
  | [], y :: tt, r, q, h => by
    rw [List.map_nil, List.map_cons, PySem.W.keyToksAll, PySem.W.keyToksAll] at h
    have := (List.cons.inj h).1
    exact absurd (Sum.inl.inj this) (by decide)
  | x :: ss, [], r, q, h => by
    rw [List.map_nil, List.map_cons, PySem.W.keyToksAll, PySem.W.keyToksAll] at h
    have := (List.cons.inj h).1
    exact absurd (Sum.inl.inj this) (by decide)
  | x :: ss, y :: tt, r, q, h => by
    rw [List.map_cons, List.map_cons, PySem.W.keyToksAll, PySem.W.keyToksAll, PySem.W.keyToks, PySem.W.keyToks] at h
    have h := (List.cons.inj h).2
    have h : (Sum.inr x.cps.toList : Int ⊕ List Nat) :: (PySem.W.keyToksAll (ss.map PyData.str) ++ r) = Sum.inr y.cps.toList :: (PySem.W.keyToksAll (tt.map PyData.str) ++ q) := h
    obtain ⟨h1, h2⟩ := List.cons.inj h
    rw [str_ext (Sum.inr.inj h1), toks_inj h2]
theorem pD_total {n m : Int} {ss tt : List Str} (h1 : PySem.W.dataLt (pDn n ss) (pDn m tt) = false) (h2 : PySem.W.dataLt (pDn m tt) (pDn n ss) = false) : n = m ∧ ss = tt := by
  have e := lex_total _ _ h1 h2
  rw [toks_pD, toks_pD] at e
  have e := (List.cons.inj e).2
  obtain ⟨e1, e⟩ := List.cons.inj e
  exact ⟨Sum.inl.inj e1, toks_inj (List.cons.inj e).2⟩
theorem pD_less {n m : Int} {ss tt : List Str} (h : n < m) : PySem.W.dataLt (pDn n ss) (pDn m tt) = true := by
  unfold PySem.W.dataLt
  rw [toks_pD, toks_pD, lex_self, lex_cons]
  have : itemOrd.blt (Sum.inl n) (Sum.inl m) = true := decide_eq_true h
  rw [this]
  rfl
/-- pairs of a number and a tuple of texts -/
def NumsS (H : Hp) (ts : List Addr) (ps : List (Int × List Str)) : Prop := ts.length = ps.length ∧ ∀ (i : Nat) (t : Addr) (q : Int × List Str), ts[i]? = some t → ps[i]? = some q → ∃ u, H t = some (.tup [.int q.1, .ref u]) ∧ H u = some (.tup (q.2.map V.str))
section
variable {H H' : Hp} {ts : List Addr} {ps : List (Int × List Str)} {D t u : Addr} {o o' : HO} {q : Int × List Str}
theorem NumsS.same (h : NumsS H ts ps) (s : Same H H') : NumsS H' ts ps := ⟨h.1, fun i t x h1 h2 => by
  obtain ⟨u, a, b⟩ := h.2 i t x h1 h2
  exact ⟨u, s _ _ a, s _ _ b⟩⟩
theorem NumsS.snoc (h : NumsS H ts ps) (e : H t = some (.tup [.int q.1, .ref u])) (e2 : H u = some (.tup (q.2.map V.str))) : NumsS H (ts ++ [t]) (ps ++ [q]) := by
  refine ⟨by rw [List.length_append, List.length_append, h.1]; rfl, fun i r z h1 h2 => ?_⟩
  by_cases hi : i < ts.length
  · rw [List.getElem?_append_left hi] at h1
    rw [List.getElem?_append_left (by rw [← h.1]; exact hi)] at h2
    exact h.2 i r z h1 h2
  · have il : i < (ts ++ [t]).length := (List.getElem?_eq_some_iff.mp h1).1
    rw [List.length_append, List.length_singleton] at il
    have ii : i = ts.length := by omega
    rw [ii, List.getElem?_append_right (Nat.le_refl _), Nat.sub_self] at h1
    rw [ii, h.1, List.getElem?_append_right (Nat.le_refl _), Nat.sub_self] at h2
    cases h1
    cases h2
    exact ⟨u, e, e2⟩
end
theorem NumsS.dp {K : PySem.W.Frag} {H : Hp} : ∀ {ts : List Addr} {ps : List (Int × List Str)}, NumsS H ts ps → DpAll K H (ts.map V.ref) (ps.map fun p => pDn p.1 p.2)
  | [], [], _ => .nil
  | [], _ :: _, h => by cases h.1
  | _ :: _, [], h => by cases h.1
  | t :: ts, q :: ps, h => by
    obtain ⟨u, a, b⟩ := h.2 0 t q rfl rfl
    exact .cons (.tup (SqT.of a) (.cons (.int _) (.cons (.tup (SqT.of b) (dpS _)) .nil))) (NumsS.dp ⟨Nat.succ.inj h.1, fun i t x h1 h2 => h.2 (i + 1) t x h1 h2⟩)
def lostL (rows : List (List Str)) (bit : List (Str × Nat)) (ys : List Str) (k : Nat) : List Str := ys.filter fun x => !decide (lastAt rows x k = bitAt bit x)
theorem RowsT.app {H : Hp} {ts us : List Addr} {r1 r2 : List (List Str)} (h : RowsT H ts r1) (g : RowsT H us r2) : RowsT H (ts ++ us) (r1 ++ r2) := by
  refine ⟨by rw [List.length_append, List.length_append, h.1, g.1], fun i r ks h1 h2 => ?_⟩
  by_cases hi : i < ts.length
  · rw [List.getElem?_append_left hi] at h1
    rw [List.getElem?_append_left (by rw [← h.1]; exact hi)] at h2
    exact h.2 i r ks h1 h2
  · rw [List.getElem?_append_right (by omega)] at h1
    rw [List.getElem?_append_right (by rw [← h.1]; omega), ← h.1] at h2
    exact g.2 _ r ks h1 h2
theorem RowsT.one {H : Hp} {t : Addr} {row : List Str} (h0 : H t = some (.tup (row.map V.str))) : RowsT H [t] [row] := RowsT.cons h0 ⟨rfl, fun i r z e => by cases e⟩
end WP
namespace WP
open PySem PySem.Spec PyProof.Rows L2
abbrev hasI (I : Nat × Option Nat) (t : Nat) : Bool := hasEd I.1 I.2 t
def Cov (n : Nat) (S : List (Nat × Option Nat)) (T : List Nat) : Prop := (∀ t ∈ T, t < n) ∧ ∀ I ∈ S, ∃ t ∈ T, hasI I t = true
def Asc (T : List Nat) : Prop := T.Pairwise (· < ·)
structure MinC (n : Nat) (S : List (Nat × Option Nat)) (k : Nat) : Prop where
  ex : ∃ T, Asc T ∧ T.length = k ∧ Cov n S T
  le : ∀ T, Cov n S T → k ≤ T.length
def IvOk (n : Nat) (S : List (Nat × Option Nat)) : Prop := ∀ I ∈ S, I.1 < n ∧ ∀ j, I.2 = some j → I.1 < j ∧ j < n
theorem IvOk.sub {n : Nat} {S R : List (Nat × Option Nat)} (h : IvOk n S) (s : ∀ I ∈ R, I ∈ S) : IvOk n R := fun I hI => h I (s I hI)
theorem hasI_iff {I : Nat × Option Nat} {t : Nat} : hasI I t = true ↔ I.1 ≤ t ∧ ∀ j, I.2 = some j → t < j := by
  obtain ⟨i, nx⟩ := I
  show hasEd i nx t = true ↔ _
  unfold hasEd
  rw [Bool.and_eq_true, decide_eq_true_eq]
  refine and_congr_right fun _ => ?_
  cases nx with
  | none => exact ⟨fun _ j e => (by cases e), fun _ => rfl⟩
  | some a =>
    show decide (t < a) = true ↔ _
    rw [decide_eq_true_eq]
    exact ⟨fun h j e => (by cases e; exact h), fun h => h a rfl⟩
theorem MinC.nil {n : Nat} : MinC n [] 0 := ⟨⟨[], .nil, rfl, (fun t h => by cases h), fun I h => by cases h⟩, fun _ _ => Nat.zero_le _⟩
theorem MinC.uniq {n a b : Nat} {S : List (Nat × Option Nat)} (h : MinC n S a) (g : MinC n S b) : a = b := by
  obtain ⟨T, _, l, c⟩ := h.ex
  obtain ⟨U, _, m, d⟩ := g.ex
  have := h.le U d
  have := g.le T c
  omega
theorem Cov.above {n e : Nat} {S : List (Nat × Option Nat)} {T : List Nat} (h : Cov n S T) (hs : ∀ I ∈ S, e < I.1) : Cov n S (T.filter fun t => decide (e < t)) := by
  refine ⟨fun t ht => h.1 t (List.mem_filter.mp ht).1, fun I hI => ?_⟩
  obtain ⟨t, ht, hh⟩ := h.2 I hI
  refine ⟨t, List.mem_filter.mpr ⟨ht, decide_eq_true ?_⟩, hh⟩
  have := (hasI_iff.mp hh).1
  have := hs I hI
  omega
theorem filter_less {α : Type} {p : α → Bool} : ∀ {l : List α} {x : α}, x ∈ l → p x = false → (l.filter p).length < l.length
  | y :: l, x, h, hp => by
    rcases List.mem_cons.mp h with rfl | h
    · rw [List.filter_cons, hp]
      show (l.filter p).length < l.length + 1
      have := List.length_filter_le p l
      omega
    · have ih := filter_less h hp
      rw [List.filter_cons]
      cases p y with
      | true => show (l.filter p).length + 1 < l.length + 1; omega
      | false => show (l.filter p).length < l.length + 1; omega
theorem MinC.useful {n e k : Nat} {S : List (Nat × Option Nat)} {T : List Nat} (h : MinC n S k) (hs : ∀ I ∈ S, e < I.1) (c : Cov n S T) (l : T.length = k) : ∀ t ∈ T, e < t := fun t ht => by
  refine Nat.lt_of_not_le fun z => ?_
  have := h.le _ (c.above hs)
  have := filter_less (p := fun t => decide (e < t)) ht (by rw [decide_eq_false_iff_not]; omega)
  omega
theorem edge_step {n e k : Nat} {S : List (Nat × Option Nat)} (ne : S ≠ []) (en : e < n) (he : ∀ I ∈ S, hasI I e = false → e < I.1) (hk : (∃ J ∈ S, ∀ t, hasI J t = true → t ≤ e) ∨ ∀ I ∈ S, hasI I e = true)
    (h : MinC n (S.filter fun I => !hasI I e) k) : MinC n S (k + 1) := by
  have hr : ∀ I ∈ (S.filter fun I => !hasI I e), e < I.1 := fun I hI => by
    obtain ⟨h1, h2⟩ := List.mem_filter.mp hI
    refine he I h1 ?_
    cases q : hasI I e with
    | false => rfl
    | true => rw [q] at h2; cases h2
  constructor
  · obtain ⟨T, a, l, c⟩ := h.ex
    have up := h.useful hr c l
    refine ⟨e :: T, List.pairwise_cons.mpr ⟨up, a⟩, by rw [List.length_cons, l], fun t ht => ?_, fun I hI => ?_⟩
    · rcases List.mem_cons.mp ht with rfl | ht
      · exact en
      · exact c.1 t ht
    · cases q : hasI I e with
      | true => exact ⟨e, List.mem_cons_self, q⟩
      | false =>
        obtain ⟨t, ht, hh⟩ := c.2 I (List.mem_filter.mpr ⟨hI, by rw [q]; rfl⟩)
        exact ⟨t, List.mem_cons_of_mem _ ht, hh⟩
  · intro T c
    rcases hk with ⟨J, hJ, lJ⟩ | hall
    · obtain ⟨p, hp, hh⟩ := c.2 J hJ
      have pe := lJ p hh
      have c2 : Cov n (S.filter fun I => !hasI I e) T := ⟨c.1, fun I hI => c.2 I (List.mem_filter.mp hI).1⟩
      have := h.le _ (c2.above hr)
      have := filter_less (p := fun t => decide (e < t)) hp (by rw [decide_eq_false_iff_not]; omega)
      omega
    · have e0 : (S.filter fun I => !hasI I e) = [] := List.filter_eq_nil_iff.mpr fun I hI => by rw [hall I hI]; decide
      rw [e0] at h
      have := h.uniq MinC.nil
      cases S with
      | nil => exact absurd rfl ne
      | cons I S =>
        obtain ⟨t, ht, _⟩ := c.2 I List.mem_cons_self
        have := List.length_pos_of_mem ht
        omega
theorem edge_ends {n e : Nat} {S : List (Nat × Option Nat)} (ok : IvOk n S) (hm : ∃ J ∈ S, J.2 = some (e + 1)) (hl : ∀ I ∈ S, ∀ j, I.2 = some j → e + 1 ≤ j) : e < n ∧ (∀ I ∈ S, hasI I e = false → e < I.1) ∧ ((∃ J ∈ S, ∀ t, hasI J t = true → t ≤ e) ∨ ∀ I ∈ S, hasI I e = true) := by
  obtain ⟨J, hJ, ej⟩ := hm
  refine ⟨by have := ((ok J hJ).2 _ ej).2; omega, fun I hI hh => ?_, .inl ⟨J, hJ, fun t ht => ?_⟩⟩
  · refine Nat.lt_of_not_le fun z => ?_
    have : hasI I e = true := hasI_iff.mpr ⟨z, fun j hj => by have := hl I hI j hj; omega⟩
    rw [this] at hh
    cases hh
  · have := (hasI_iff.mp ht).2 _ ej
    omega
theorem edge_open {n e : Nat} {S : List (Nat × Option Nat)} (ok : IvOk n S) (ho : ∀ I ∈ S, I.2 = none) (hm : ∃ J ∈ S, J.1 = e) (hl : ∀ I ∈ S, I.1 ≤ e) : e < n ∧ (∀ I ∈ S, hasI I e = false → e < I.1) ∧ ((∃ J ∈ S, ∀ t, hasI J t = true → t ≤ e) ∨ ∀ I ∈ S, hasI I e = true) := by
  have all : ∀ I ∈ S, hasI I e = true := fun I hI => hasI_iff.mpr ⟨hl I hI, fun j hj => by rw [ho I hI] at hj; cases hj⟩
  obtain ⟨J, hJ, ej⟩ := hm
  refine ⟨by have := (ok J hJ).1; omega, fun I hI hh => ?_, .inr all⟩
  rw [all I hI] at hh
  cases hh
def Beats (F T : List Nat) : Prop := ∃ p a b r q, F = p ++ a :: r ∧ T = p ++ b :: q ∧ a < b
theorem Beats.app {F T R : List Nat} (h : Beats F T) : Beats (F ++ R) T := by
  obtain ⟨p, a, b, r, q, e1, e2, l⟩ := h
  exact ⟨p, a, b, r ++ R, q, by rw [e1, List.append_assoc]; rfl, e2, l⟩
structure FpI (n : Nat) (S : List (Nat × Option Nat)) (k : Nat) (F : List Nat) (left : List (Nat × Option Nat)) (m k' : Nat) : Prop where
  kk : F.length + k' = k
  mn : MinC n left k'
  ex : ∃ T, Asc T ∧ T.length = k' ∧ Cov n left T ∧ ∀ t ∈ T, m ≤ t
  sub : ∀ I ∈ left, I ∈ S
  un : ∀ I ∈ left, ∀ t ∈ F, hasI I t = false
  lf : ∀ I ∈ S, I ∈ left ∨ ∃ t ∈ F, hasI I t = true
  am : ∀ t ∈ F, t < m ∧ t < n
  asc : Asc F
  lx : ∀ T, Asc T → T.length = k → Cov n S T → Beats F T ∨ ∃ U, T = F ++ U ∧ ∀ t ∈ U, m ≤ t
theorem FpI.start {n k : Nat} {S : List (Nat × Option Nat)} (h : MinC n S k) : FpI n S k [] S 0 k := by
  obtain ⟨T, a, l, c⟩ := h.ex
  exact ⟨by rw [List.length_nil, Nat.zero_add], h, ⟨T, a, l, c, fun _ _ => Nat.zero_le _⟩, fun _ h => h, (fun I _ t h => by cases h), fun I h => .inl h, (fun t h => by cases h), .nil, fun T _ _ _ => .inr ⟨T, rfl, fun _ _ => Nat.zero_le _⟩⟩
theorem FpI.take {n k k' kr m : Nat} {S left : List (Nat × Option Nat)} {F : List Nat} (h : FpI n S k F left m k') (mn : m < n) (ne : left ≠ []) (hr : MinC n (left.filter fun I => !hasI I m) kr) (c1 : ∀ I ∈ (left.filter fun I => !hasI I m), m < I.1) (c2 : kr < k') :
    FpI n S k (F ++ [m]) (left.filter fun I => !hasI I m) (m + 1) kr := by
  obtain ⟨T2, a2, l2, v2⟩ := hr.ex
  have up := hr.useful c1 v2 l2
  have k1 : k' ≤ kr + 1 := by
    have := h.mn.le (m :: T2) ⟨fun t ht => by
      rcases List.mem_cons.mp ht with rfl | ht
      · exact mn
      · exact v2.1 t ht, fun I hI => by
      cases q : hasI I m with
      | true => exact ⟨m, List.mem_cons_self, q⟩
      | false =>
        obtain ⟨t, ht, hh⟩ := v2.2 I (List.mem_filter.mpr ⟨hI, by rw [q]; rfl⟩)
        exact ⟨t, List.mem_cons_of_mem _ ht, hh⟩⟩
    rw [List.length_cons, l2] at this
    exact this
  refine ⟨by have := h.kk; rw [List.length_append, List.length_singleton]; omega, hr, ⟨T2, a2, l2, v2, up⟩, fun I hI => h.sub I (List.mem_filter.mp hI).1, fun I hI t ht => ?_, fun I hI => ?_, fun t ht => ?_, ?_, fun T aT lT cT => ?_⟩
  · obtain ⟨h1, h2⟩ := List.mem_filter.mp hI
    rcases List.mem_append.mp ht with ht | ht
    · exact h.un I h1 t ht
    · rw [List.mem_singleton.mp ht]
      cases q : hasI I m with
      | false => rfl
      | true => rw [q] at h2; cases h2
  · rcases h.lf I hI with z | ⟨t, ht, hh⟩
    · cases q : hasI I m with
      | true => exact .inr ⟨m, List.mem_append_right _ List.mem_cons_self, q⟩
      | false => exact .inl (List.mem_filter.mpr ⟨z, by rw [q]; rfl⟩)
    · exact .inr ⟨t, List.mem_append_left _ ht, hh⟩
  · rcases List.mem_append.mp ht with ht | ht
    · have := h.am t ht
      exact ⟨by omega, this.2⟩
    · rw [List.mem_singleton.mp ht]
      exact ⟨by omega, mn⟩
  · refine List.pairwise_append.mpr ⟨h.asc, List.pairwise_singleton _ _, fun a ha b hb => ?_⟩
    rw [List.mem_singleton.mp hb]
    exact (h.am a ha).1
  · rcases h.lx T aT lT cT with b | ⟨U, rfl, ge⟩
    · exact .inl b.app
    · cases U with
      | nil =>
        exfalso
        have l1 := lT
        rw [List.append_nil] at l1
        have := h.kk
        have k0 : k' = 0 := by omega
        omega
      | cons t U =>
        have tm := ge t List.mem_cons_self
        rcases Nat.lt_or_ge m t with z | z
        · exact .inl ⟨F, m, t, [], U, rfl, rfl, z⟩
        · have tm : t = m := by omega
          subst tm
          refine .inr ⟨U, by rw [List.append_assoc]; rfl, fun x hx => ?_⟩
          have := (List.pairwise_cons.mp (List.pairwise_append.mp aT).2.1).1 x hx
          omega
/-- what the first of the fewest is -/
structure FirstC (n : Nat) (S : List (Nat × Option Nat)) (k : Nat) (F : List Nat) : Prop where
  asc : Asc F
  len : F.length = k
  cov : Cov n S F
  lx : ∀ T, Asc T → T.length = k → Cov n S T → Beats F T ∨ T = F
theorem FpI.done {n k k' m : Nat} {S left : List (Nat × Option Nat)} {F : List Nat} (h : FpI n S k F left m k') (e : left = [] ∨ n ≤ m) : FirstC n S k F := by
  have e0 : left = [] := by
    rcases e with e | e
    · exact e
    · obtain ⟨T, _, _, c, ge⟩ := h.ex
      cases left with
      | nil => rfl
      | cons I r =>
        obtain ⟨t, ht, _⟩ := c.2 I List.mem_cons_self
        have := c.1 t ht
        have := ge t ht
        omega
  subst e0
  have k0 := h.mn.uniq MinC.nil
  have l := h.kk
  rw [k0, Nat.add_zero] at l
  refine ⟨h.asc, l, ⟨fun t ht => (h.am t ht).2, fun I hI => ?_⟩, fun T a lT c => ?_⟩
  · rcases h.lf I hI with z | z
    · cases z
    · exact z
  · rcases h.lx T a lT c with b | ⟨U, rfl, _⟩
    · exact .inl b
    · rw [List.length_append] at lT
      have : U = [] := List.length_eq_zero_iff.mp (by omega)
      rw [this, List.append_nil]
      exact .inr rfl
def pI (T : List Nat) : PyData := .tuple (T.map fun t : Nat => .int (t : Int))
end WP
namespace WP
open PySem PySem.Spec PyProof.Rows L2
/-- where the first ends -/
inductive IsEdge (S : List (Nat × Option Nat)) (e : Nat) : Prop
  | ends (hm : ∃ J ∈ S, J.2 = some (e + 1)) (hl : ∀ I ∈ S, ∀ j, I.2 = some j → e + 1 ≤ j)
  | opn (ho : ∀ I ∈ S, I.2 = none) (hm : ∃ J ∈ S, J.1 = e) (hl : ∀ I ∈ S, I.1 ≤ e)
theorem IsEdge.step {n e k : Nat} {S : List (Nat × Option Nat)} (h : IsEdge S e) (ok : IvOk n S) (m : MinC n (S.filter fun I => !hasI I e) k) : MinC n S (k + 1) ∧ (S.filter fun I => !hasI I e).length < S.length := by
  cases h with
  | ends hm hl =>
    obtain ⟨a, b, c⟩ := edge_ends ok hm hl
    obtain ⟨J, hJ, ej⟩ := hm
    refine ⟨edge_step (fun z => by rw [z] at hJ; cases hJ) a b c m, filter_less hJ ?_⟩
    have : hasI J e = true := hasI_iff.mpr ⟨by have := ((ok J hJ).2 _ ej).1; omega, fun j hj => by rw [ej] at hj; cases hj; omega⟩
    rw [this]
    rfl
  | opn ho hm hl =>
    obtain ⟨a, b, c⟩ := edge_open ok ho hm hl
    obtain ⟨J, hJ, ej⟩ := hm
    refine ⟨edge_step (fun z => by rw [z] at hJ; cases hJ) a b c m, filter_less hJ ?_⟩
    have : hasI J e = true := hasI_iff.mpr ⟨by omega, fun j hj => by rw [ho J hJ] at hj; cases hj⟩
    rw [this]
    rfl
structure LineI (n : Nat) (S : List (Nat × Option Nat)) (k s : Nat) (line : List (List Nat)) : Prop where
  el : ∀ t ∈ line, Asc t ∧ t.length = s ∧ ∀ x ∈ t, x < n
  has : ∀ T, Asc T → T.length = k → Cov n S T → T.take s ∈ line
  nd : line.Nodup
  sk : s ≤ k
theorem LineI.start {n k : Nat} {S : List (Nat × Option Nat)} : LineI n S k 0 [[]] :=
  ⟨fun t ht => by rw [List.mem_singleton.mp ht]; exact ⟨.nil, rfl, fun x h => by cases h⟩, fun T _ _ _ => by rw [List.take_zero]; exact List.mem_cons_self, List.nodup_cons.mpr ⟨List.not_mem_nil, List.nodup_nil⟩, Nat.zero_le _⟩
def beginOf (t : List Nat) : Nat := match t.getLast? with
  | some x => x + 1
  | none => 0
theorem beginOf_app (t : List Nat) (x : Nat) : beginOf (t ++ [x]) = x + 1 := by
  unfold beginOf
  rw [List.getLast?_append]
  rfl
def growL (b l : Nat) (t : List Nat) : List (List Nat) := (List.range' b (l + 1 - b)).map fun x => t ++ [x]
theorem asc_snoc {t : List Nat} {x : Nat} (h : Asc t) (hx : beginOf t ≤ x) : Asc (t ++ [x]) := by
  refine List.pairwise_append.mpr ⟨h, List.pairwise_singleton _ _, fun a ha b hb => ?_⟩
  rw [List.mem_singleton.mp hb]
  rcases List.eq_nil_or_concat t with rfl | ⟨u, y, rfl⟩
  · cases ha
  · rw [List.concat_eq_append] at *
    rw [beginOf_app] at hx
    rcases List.mem_append.mp ha with ha | ha
    · have := (List.pairwise_append.mp h).2.2 a ha y List.mem_cons_self
      omega
    · rw [List.mem_singleton.mp ha]
      omega
theorem begin_le {t u : List Nat} {x : Nat} (h : Asc (t ++ x :: u)) : beginOf t ≤ x := by
  rcases List.eq_nil_or_concat t with rfl | ⟨v, y, rfl⟩
  · exact Nat.zero_le _
  · rw [List.concat_eq_append] at *
    rw [beginOf_app]
    exact (List.pairwise_append.mp h).2.2 y (List.mem_append_right _ List.mem_cons_self) x List.mem_cons_self
theorem mem_grow {b l : Nat} {t w : List Nat} : w ∈ growL b l t ↔ ∃ x, b ≤ x ∧ x ≤ l ∧ w = t ++ [x] := by
  unfold growL
  rw [List.mem_map]
  constructor
  · rintro ⟨x, hx, rfl⟩
    rw [List.mem_range'_1] at hx
    exact ⟨x, by omega, by omega, rfl⟩
  · rintro ⟨x, h1, h2, rfl⟩
    exact ⟨x, by rw [List.mem_range'_1]; omega, rfl⟩
/-- some stretch that a tuple does not cover ends at l at the latest -/
def LeastP (n : Nat) (S : List (Nat × Option Nat)) (t : List Nat) (l : Nat) : Prop := l < n ∧ ∃ I ∈ S, (∀ y ∈ t, hasI I y = false) ∧ ∀ x, x < n → hasI I x = true → x ≤ l
theorem grow_nd {f : List Nat → Nat} : ∀ {line : List (List Nat)}, line.Nodup → (line.flatMap fun t => growL (beginOf t) (f t) t).Nodup
  | [], _ => List.nodup_nil
  | t :: line, nd => by
    obtain ⟨h1, h2⟩ := List.nodup_cons.mp nd
    rw [List.flatMap_cons]
    refine List.nodup_append.mpr ⟨?_, grow_nd h2, fun a ha b hb e => ?_⟩
    · unfold growL
      refine List.pairwise_map.mpr ((List.nodup_range' (step := 1) (by decide)).imp fun {a b} h e => h ?_)
      exact (List.cons.inj (List.append_cancel_left e)).1
    · obtain ⟨x, _, _, rfl⟩ := mem_grow.mp ha
      obtain ⟨u, hu, hb⟩ := List.mem_flatMap.mp hb
      obtain ⟨y, _, _, rfl⟩ := mem_grow.mp hb
      have := List.append_inj_left' e rfl
      rw [this] at h1
      exact h1 hu
theorem LineI.step {n k s : Nat} {S : List (Nat × Option Nat)} {line : List (List Nat)} {f : List Nat → Nat} (h : LineI n S k s line) (mc : MinC n S k) (no : ∀ t ∈ line, ¬ Cov n S t) (hf : ∀ t ∈ line, LeastP n S t (f t)) : LineI n S k (s + 1) (line.flatMap fun t => growL (beginOf t) (f t) t) := by
  have sk : s < k := by
    refine Nat.lt_of_le_of_ne h.sk fun e => ?_
    obtain ⟨T, a, l, c⟩ := mc.ex
    have := h.has T a l c
    rw [e, ← l, List.take_length] at this
    exact no T this c
  refine ⟨fun w hw => ?_, fun T a l c => ?_, grow_nd h.nd, sk⟩
  · obtain ⟨t, ht, hw⟩ := List.mem_flatMap.mp hw
    obtain ⟨x, h1, h2, rfl⟩ := mem_grow.mp hw
    obtain ⟨e1, e2, e3⟩ := h.el t ht
    refine ⟨asc_snoc e1 h1, by rw [List.length_append, e2]; rfl, fun y hy => ?_⟩
    rcases List.mem_append.mp hy with hy | hy
    · exact e3 y hy
    · rw [List.mem_singleton.mp hy]
      have := (hf t ht).1
      omega
  · have ht := h.has T a l c
    have sl : s < T.length := by omega
    have e := take_at (List.getElem?_eq_getElem sl)
    rw [e]
    refine List.mem_flatMap.mpr ⟨_, ht, mem_grow.mpr ⟨T[s], ?_, ?_, rfl⟩⟩
    · have a2 := a
      rw [← List.take_append_drop s T, List.drop_eq_getElem_cons sl] at a2
      exact begin_le a2
    · obtain ⟨_, I, hI, un, lst⟩ := hf _ ht
      obtain ⟨x, hx, hh⟩ := c.2 I hI
      have xn := c.1 x hx
      have xl := lst x xn hh
      have : T[s] ≤ x := by
        have hx2 := hx
        rw [← List.take_append_drop s T, List.drop_eq_getElem_cons sl] at hx2
        rcases List.mem_append.mp hx2 with z | z
        · rw [un x z] at hh
          cases hh
        · rcases List.mem_cons.mp z with z | z
          · omega
          · have a2 := a
            rw [← List.take_append_drop s T, List.drop_eq_getElem_cons sl] at a2
            have := (List.pairwise_cons.mp (List.pairwise_append.mp a2).2.1).1 x z
            omega
      omega
end WP
namespace WP
open PySem PySem.Spec PyProof.Rows L2
/-- xs != [] whatever it holds -/
theorem op_neN {X : Cx} (hu : X.A.units + 64 < cLine) : OpR X (compareOp .NotEq) (rNeN X.K) := by
  intro pins s σ H x y v u Q I rx ry h
  obtain ⟨a, b, xs, rfl, rfl, ha, hb, q⟩ := h
  cases xs with
  | nil => exact op_neD hu pins s σ H _ _ v u Q I rx ry ⟨_, _, .lst ha .nil, .lst hb .nil, shN, shN, by rw [eqv_nil]; exact q⟩
  | cons z r =>
    cases rx
    cases ry
    obtain ⟨its, r1, pl, _⟩ := I.list ha
    obtain ⟨its2, r2, pl2, _⟩ := I.list hb
    refine SeqAt.RcNeAt.lists_lengths pl.isList pl2.isList ?_ (by omega) _ _ _ _ ⟨.bl _, H, I, rfl, q⟩
    have l1 := r1.length
    have l2 := r2.length
    simp only [List.size_toArray, bne_iff_ne, ne_eq]
    simp only [List.length_cons, List.length_nil] at l1 l2
    omega
def StI (H : Hp) (ts : List Addr) (Is : List (Nat × Option Nat)) : Prop := ts.length = Is.length ∧ ∀ (i : Nat) (t : Addr) (I : Nat × Option Nat), ts[i]? = some t → Is[i]? = some I → H t = some (.tup [.int (I.1 : Int), endV I.2])
theorem StI.same {H H' : Hp} {ts : List Addr} {Is : List (Nat × Option Nat)} (h : StI H ts Is) (s : Same H H') : StI H' ts Is := ⟨h.1, fun i t x h1 h2 => s _ _ (h.2 i t x h1 h2)⟩
theorem StI.nil {H : Hp} : StI H [] [] := ⟨rfl, fun i t I h => by cases h⟩
theorem StI.snoc {H : Hp} {ts : List Addr} {Is : List (Nat × Option Nat)} {t : Addr} {I : Nat × Option Nat} (h : StI H ts Is) (e : H t = some (.tup [.int (I.1 : Int), endV I.2])) : StI H (ts ++ [t]) (Is ++ [I]) := by
  refine ⟨by rw [List.length_append, List.length_append, h.1]; rfl, fun i r z h1 h2 => ?_⟩
  by_cases hi : i < ts.length
  · rw [List.getElem?_append_left hi] at h1
    rw [List.getElem?_append_left (by rw [← h.1]; exact hi)] at h2
    exact h.2 i r z h1 h2
  · have il : i < (ts ++ [t]).length := (List.getElem?_eq_some_iff.mp h1).1
    rw [List.length_append, List.length_singleton] at il
    have ii : i = ts.length := by omega
    rw [ii, List.getElem?_append_right (Nat.le_refl _), Nat.sub_self] at h1
    rw [ii, h.1, List.getElem?_append_right (Nat.le_refl _), Nat.sub_self] at h2
    cases h1
    cases h2
    exact e
theorem StI.at {H : Hp} {ts : List Addr} {Is : List (Nat × Option Nat)} (h : StI H ts Is) {i : Nat} {t : Addr} (ht : ts[i]? = some t) : ∃ I, Is[i]? = some I ∧ H t = some (.tup [.int (I.1 : Int), endV I.2]) := by
  have il : i < Is.length := by rw [← h.1]; exact (List.getElem?_eq_some_iff.mp ht).1
  have e := List.getElem?_eq_getElem il
  exact ⟨_, e, h.2 i t _ ht e⟩
/-- one of the largest, the least of them -/
def LargestS (l : List (List Str)) (r : List Str) : Prop := r ∈ l ∧ ∀ t ∈ l, PySem.W.dataLt (pDn (-(t.length : Int)) t) (pDn (-(r.length : Int)) r) = false
theorem LargestS.uniq {l : List (List Str)} {r s : List Str} (h : LargestS l r) (g : LargestS l s) : r = s := (pD_total (g.2 r h.1) (h.2 s g.1)).2
end WP
namespace WP
open PySem PySem.Spec PyProof.Rows L2
abbrev nusV (T : List Nat) : List V := T.map fun t : Nat => V.int (t : Int)
def NatsT (H : Hp) (ts : List Addr) (l : List (List Nat)) : Prop := ts.length = l.length ∧ ∀ (i : Nat) (t : Addr) (T : List Nat), ts[i]? = some t → l[i]? = some T → H t = some (.tup (nusV T))
section
variable {H H' : Hp} {ts us : List Addr} {l m : List (List Nat)} {t : Addr} {T : List Nat}
theorem NatsT.same (h : NatsT H ts l) (s : Same H H') : NatsT H' ts l := ⟨h.1, fun i t x h1 h2 => s _ _ (h.2 i t x h1 h2)⟩
theorem NatsT.nil : NatsT H [] [] := ⟨rfl, fun i t I h => by cases h⟩
theorem NatsT.app (h : NatsT H ts l) (g : NatsT H us m) : NatsT H (ts ++ us) (l ++ m) := by
  refine ⟨by rw [List.length_append, List.length_append, h.1, g.1], fun i r ks h1 h2 => ?_⟩
  by_cases hi : i < ts.length
  · rw [List.getElem?_append_left hi] at h1
    rw [List.getElem?_append_left (by rw [← h.1]; exact hi)] at h2
    exact h.2 i r ks h1 h2
  · rw [List.getElem?_append_right (by omega)] at h1
    rw [List.getElem?_append_right (by rw [← h.1]; omega), ← h.1] at h2
    exact g.2 _ r ks h1 h2
theorem NatsT.one (e : H t = some (.tup (nusV T))) : NatsT H [t] [T] := ⟨rfl, fun i r z h1 h2 => by
  cases i with
  | zero => cases h1; cases h2; exact e
  | succ i => cases h1⟩
theorem NatsT.at (h : NatsT H ts l) {i : Nat} (ht : ts[i]? = some t) : ∃ T, l[i]? = some T ∧ H t = some (.tup (nusV T)) := by
  have il : i < l.length := by rw [← h.1]; exact (List.getElem?_eq_some_iff.mp ht).1
  have e := List.getElem?_eq_getElem il
  exact ⟨_, e, h.2 i t _ ht e⟩
end
theorem nats_dp {K : PySem.W.Frag} {H : Hp} : ∀ T : List Nat, DpAll K H (nusV T) (T.map fun t : Nat => PyData.int (t : Int))
  | [] => .nil
  | t :: T => .cons (.int _) (nats_dp T)
theorem NatsT.dp {K : PySem.W.Frag} {H : Hp} : ∀ {ts : List Addr} {l : List (List Nat)}, NatsT H ts l → DpAll K H (ts.map V.ref) (l.map pI)
  | [], [], _ => .nil
  | [], _ :: _, h => by cases h.1
  | _ :: _, [], h => by cases h.1
  | t :: ts, T :: l, h => .cons (.tup (SqT.of (h.2 0 t T rfl rfl)) (nats_dp T)) (NatsT.dp ⟨Nat.succ.inj h.1, fun i t x h1 h2 => h.2 (i + 1) t x h1 h2⟩)
end WP
namespace WP
open PySem PySem.Spec PyProof.Rows L2
theorem BitOk.take {rows : List (List Str)} {bit : List (Str × Nat)} (h : BitOk rows bit) (n : Nat) : BitOk rows (bit.take n) :=
  ⟨h.nd.sublist ((List.take_sublist n bit).map _), by rw [List.length_take]; exact Nat.le_trans (Nat.min_le_right _ _) h.few, fun q hq => h.ct q (List.mem_of_mem_take hq)⟩
end WP
namespace WP
open PySem PySem.Spec PyProof.Rows L2
theorem UpC.trans {fs : List (Str × FileD)} {a b c : Str} (h : UpC fs a b) (g : UpC fs b c) : UpC fs a c := by
  induction g with
  | refl => exact h
  | step _ h1 h2 ih => exact .step ih h1 h2
theorem CloR.idem {m : MdD} {ks r : List Str} (h : CloR m ks r) : CloR m r r :=
  ⟨fun x => ⟨fun hx => ⟨x, hx, .refl⟩, fun ⟨n, hn, u⟩ => (h.1 x).mpr (by
    obtain ⟨k, hk, u0⟩ := (h.1 n).mp hn
    exact ⟨k, hk, u0.trans u⟩)⟩, h.2.1, h.2.2⟩
theorem cut_1 (xs : List V) : cutV xs (some 1) none = xs.tail := by
  unfold cutV
  simp only [HT.sIx]
  cases xs with
  | nil => rfl
  | cons x r => simp
end WP
namespace WP
open PySem PySem.Spec PyProof.Rows L2
section
variable {rows : List (List Str)} {bit : List (Str × Nat)} {ys : List Str}
theorem hasAll_iff (ok : BitOk rows bit) (hp : ys.Perm (bit.map (·.1))) {k : Nat} : lostL rows bit ys k = [] ↔ hasAll rows bit k = true := by
  unfold lostL hasAll
  rw [List.filter_eq_nil_iff, List.all_eq_true]
  constructor
  · intro h q hq
    have := h q.1 (hp.mem_iff.mpr (List.mem_map.mpr ⟨q, hq, rfl⟩))
    rw [bitAt_of ok.nd hq, Bool.not_eq_true', decide_eq_false_iff_not, Decidable.not_not] at this
    exact decide_eq_true this
  · intro h x hx
    obtain ⟨q, hq, rfl⟩ := List.mem_map.mp (hp.mem_iff.mp hx)
    rw [bitAt_of ok.nd hq, h q hq]
    decide
theorem whole_any : wholeB rows bit = true ↔ ∃ k, k < rows.length ∧ hasAll rows bit k = true := by
  unfold wholeB hasL
  rw [Bool.not_eq_true', List.isEmpty_eq_false_iff_exists_mem]
  exact exists_congr fun k => by rw [List.mem_filter, List.mem_range]
/-- what is renewed, as the program tells it -/
structure RenR (rows : List (List Str)) (bit : List (Str × Nat)) (ys r : List Str) (k0 : Nat) : Prop where
  lt : k0 < rows.length
  eq : r = lostL rows bit ys k0
  le : ∀ k, k < rows.length → PySem.W.dataLt (pDn (lostL rows bit ys k).length (lostL rows bit ys k)) (pDn r.length r) = false
variable {r : List Str} {k0 : Nat}
theorem RenR.len (h : RenR rows bit ys r k0) {k : Nat} (kl : k < rows.length) : r.length ≤ (lostL rows bit ys k).length := by
  refine Nat.le_of_not_lt fun z => ?_
  have := h.le k kl
  rw [pD_less (by omega)] at this
  cases this
theorem RenR.nil (h : RenR rows bit ys r k0) (ok : BitOk rows bit) (hp : ys.Perm (bit.map (·.1))) : r = [] ↔ wholeB rows bit = true := by
  rw [whole_any]
  constructor
  · intro e
    exact ⟨k0, h.lt, (hasAll_iff ok hp).mp (by rw [← h.eq]; exact e)⟩
  · rintro ⟨k, kl, hk⟩
    have := h.len kl
    rw [(hasAll_iff ok hp).mpr hk] at this
    exact List.length_eq_zero_iff.mp (Nat.le_zero.mp this)
theorem BitOk.filter (h : BitOk rows bit) (p : Str × Nat → Bool) : BitOk rows (bit.filter p) :=
  ⟨h.nd.sublist ((List.filter_sublist (l := bit)).map _), Nat.le_trans (List.length_filter_le _ _) h.few, fun q hq => h.ct q (List.mem_filter.mp hq).1⟩
end
section
variable {rows : List (List Str)} {bit : List (Str × Nat)} {ys r : List Str} {k : Nat}
theorem LargestS.len {l : List (List Str)} {r t : List Str} (h : LargestS l r) (ht : t ∈ l) : t.length ≤ r.length := by
  refine Nat.le_of_not_lt fun z => ?_
  have := h.2 t ht
  rw [pD_less (by omega)] at this
  cases this
end
end WP
namespace WP
open PySem PySem.Spec PyProof.Rows L2
end WP
namespace WP
open PySem PySem.Spec PyProof.Rows L2
theorem TupsR.put {H : Hp} {as : List Addr} {kvs : List (Key × V)} {p : Addr} {o o' : HO} (h : TupsR H as kvs) (hp : H p = some o') (ho : ∀ xs, o' ≠ .tup xs) : TupsR (upd H p o) as kvs := by
  induction h with
  | nil => exact .nil
  | cons h _ ih => exact .cons (by rw [upd_ne (fun z => by rw [z, hp] at h; exact ho _ (Option.some.inj h))]; exact h) ih
end WP
namespace WP
open PySem PySem.Spec PyProof.Rows L2
end WP
namespace WP
open PySem PySem.Spec PyProof.Rows L2
theorem tup_hd {d w c : Addr} {B : Int} {H : Hp} {a : Addr} {xs : List V} (D : Dr d w c B H) (h : H a = some (.tup xs)) : hd2 d w H a = some (.tup xs) := by
  obtain ⟨⟨r, t, e1, _⟩, ⟨ns, e2⟩, _⟩ := D
  exact hd2_mk h (fun z => by rw [z, e1] at h; cases h) (fun z => by rw [z, e2] at h; cases h)
theorem PairsT.hd {d w c : Addr} {B : Int} {H : Hp} {ts : List Addr} {ps : List (Str × Str)} (h : PairsT H ts ps) (D : Dr d w c B H) : PairsT (hd2 d w H) ts ps := ⟨h.1, fun i t q a b => tup_hd D (h.2 i t q a b)⟩
end WP
namespace WP
open PySem PySem.Spec PyProof.Rows L2
/-- the numbers of the contents of each name in the near editions, list by list -/
def SeenAt (rows : List (List Str)) (N : List Nat) (H : Hp) (ls : List Addr) (bit : List (Str × Nat)) : Prop := ls.length = bit.length ∧ ∀ (i : Nat) (l : Addr) (q : Str × Nat), ls[i]? = some l → bit[i]? = some q → H l = some (.lst ((N.map fun t => ((lastAt rows q.1 t : Nat) : Int)).map V.int))
section
variable {rows : List (List Str)} {N : List Nat} {H H' : Hp} {ls : List Addr} {bit : List (Str × Nat)} {l : Addr} {q : Str × Nat}
theorem SeenAt.same (h : SeenAt rows N H ls bit) (s : Same H H') : SeenAt rows N H' ls bit := ⟨h.1, fun i l q a b => s _ _ (h.2 i l q a b)⟩
theorem SeenAt.nil : SeenAt rows N H [] [] := ⟨rfl, fun i l q a b => by cases a⟩
theorem SeenAt.app (h : SeenAt rows N H ls bit) (hl : H l = some (.lst ((N.map fun t => ((lastAt rows q.1 t : Nat) : Int)).map V.int))) : SeenAt rows N H (ls ++ [l]) (bit ++ [q]) :=
  ⟨by rw [List.length_append, List.length_append, h.1]; rfl, fun i x p h1 h2 => by
    by_cases c : i < ls.length
    · rw [List.getElem?_append_left c] at h1
      rw [List.getElem?_append_left (by rw [← h.1]; exact c)] at h2
      exact h.2 i x p h1 h2
    · rw [List.getElem?_append_right (by omega)] at h1
      rw [List.getElem?_append_right (by rw [← h.1]; omega)] at h2
      rw [h.1] at h1
      cases e : i - bit.length with
      | zero =>
        rw [e] at h1 h2
        cases h1
        cases h2
        exact hl
      | succ j => rw [e] at h1; cases h1⟩
end
theorem SeenAt.put {rows : List (List Str)} {N : List Nat} {H : Hp} {ls : List Addr} {bit : List (Str × Nat)} {p : Addr} {o o' : HO} (h : SeenAt rows N H ls bit) (hp : H p = some o') (ho : ∀ xs, o' ≠ .lst xs) : SeenAt rows N (upd H p o) ls bit :=
  ⟨h.1, fun i l q a b => by
    have e := h.2 i l q a b
    rw [upd_ne fun z => by rw [z, hp] at e; exact ho _ (Option.some.inj e)]
    exact e⟩
end WP
namespace WP
open PySem PySem.Spec PyProof.Rows L2
def atV : Option Nat → V
  | some i => .int (i : Nat)
  | none => .non
def AtF (CE : Addr) (H : Hp) (E : XK) (n : V) : Prop := ∀ d H', Same H H' → H' d = some (.xd [("at", n)]) → E (.ref CE) (some d) H'
theorem AtF.at {CE : Addr} {H H1 : Hp} {E : XK} {n : V} (h : AtF CE H E n) (s : Same H H1) {d : Addr} (hd : H1 d = none) : E (.ref CE) (some d) (upd H1 d (.xd [("at", n)])) := h d _ (s.trans (Evl.Ex.new hd)) upd_same
theorem AtF.same {CE : Addr} {H H1 : Hp} {E : XK} {n : V} (h : AtF CE H E n) (s : Same H H1) : AtF CE H1 E n := fun d H' s' => h d H' (s.trans s')
/-- the changes of editions: what is known of them -/
structure ChgsE (e : PyData) : Prop where
  st : ∀ z, e = .str z → z.length ≤ 100
  it : ∀ es, (e = .list es ∨ e = .tuple es) → es.length ≤ 40 ∧ ∀ f ∈ es, BentE f
end WP
namespace WP
open PySem L2 PySem.Spec PyProof.Rows LamX
/-- editions as they stand: their site, its model, their rows -/
structure EdM (K : PySem.W.Frag) (CD CS CF : Addr) (H : Hp) (v sv : V) (m : MdD) (rows : List (List Str)) : Prop where
  ed : EdAt K CD H v sv rows
  st : ∃ s, SiteAt K CS CF H sv s ∧ SiteM s m
  ok : MdOk m
  g : RGood m rows
theorem EdM.same {K : PySem.W.Frag} {CD CS CF : Addr} {H H' : Hp} {v sv : V} {m : MdD} {rows : List (List Str)} (h : EdM K CD CS CF H v sv m rows) (s : Same H H') : EdM K CD CS CF H' v sv m rows := ⟨h.ed.same s, let ⟨x, a, b⟩ := h.st; ⟨x, a.same s, b⟩, h.ok, h.g⟩
end WP
namespace WP
open PySem L2 PySem.Spec PyProof.Rows LamX
end WP
namespace WP
open PySem L2 PySem.Spec PyProof.Rows LamX
theorem bentE_seq11 {es : List PyData} (hl : es.length ≤ 20) (h : ∀ f ∈ es, Rg f 4 200 ∧ ∀ z, f = .str z → z.length ≤ 100) : BentE (.list es) ∧ BentE (.tuple es) := by
  have h1 : ∀ d ∈ es, Rg d 4 200 := fun d hd => (h d hd).1
  exact ⟨⟨(Rg.list h1 hl).mono (by decide) (by decide), fun z e => (by cases e), fun es' e => by rcases e with e | e <;> cases e; exact ⟨hl, h⟩⟩,
    ⟨(Rg.tuple h1 hl).mono (by decide) (by decide), fun z e => (by cases e), fun es' e => by rcases e with e | e <;> cases e; exact ⟨hl, h⟩⟩⟩
/-- a value for changes: at most n items -/
structure ChgsN (n : Nat) (e : PyData) : Prop where
  rg : Rg e 11 900000
  st : ∀ z, e = .str z → z.length ≤ 100
  it : ∀ es, (e = .list es ∨ e = .tuple es) → es.length ≤ n ∧ ∀ f ∈ es, BentE f
theorem ChgsN.e {n : Nat} {e : PyData} (h : ChgsN n e) (hn : n ≤ 40) : ChgsE e := ⟨h.st, fun es g => ⟨Nat.le_trans (h.it es g).1 hn, (h.it es g).2⟩⟩
theorem ChgsN.mono {n k : Nat} {e : PyData} (h : ChgsN n e) (hn : n ≤ k) : ChgsN k e := ⟨h.rg, h.st, fun es g => ⟨Nat.le_trans (h.it es g).1 hn, (h.it es g).2⟩⟩
theorem ChgsN.seq {n : Nat} {es : List PyData} (hl : es.length ≤ n) (hn : n ≤ 40) (h : ∀ f ∈ es, BentE f) : ChgsN n (.list es) ∧ ChgsN n (.tuple es) := by
  have h1 : ∀ d ∈ es, Rg d 10 20000 := fun d hd => (h d hd).rg
  have l40 : es.length ≤ 40 := Nat.le_trans hl hn
  exact ⟨⟨(Rg.list h1 l40).mono (by omega) (by omega), fun z e => (by cases e), fun es' e => by rcases e with e | e <;> cases e; exact ⟨hl, h⟩⟩,
    ⟨(Rg.tuple h1 l40).mono (by omega) (by omega), fun z e => (by cases e), fun es' e => by rcases e with e | e <;> cases e; exact ⟨hl, h⟩⟩⟩
/-- what a lambda that may be refused has left -/
def ErV (CE : Addr) (du : Option (Option Nat)) (er : V) (H : Hp) : Prop := (du = none ∧ er = .non) ∨ ∃ (r : Option Nat) (a d : Addr), du = some r ∧ (∀ i, r = some i → i < 100) ∧ er = .ref a ∧ H a = some (XvO (.ref CE) (some d) a) ∧ H d = some (.xd [("at", atV r)])
theorem ErV.same {CE : Addr} {du : Option (Option Nat)} {er : V} {H H' : Hp} (h : ErV CE du er H) (s : Same H H') : ErV CE du er H' := h.imp id fun ⟨r, a, d, h1, h2, h3, h4, h5⟩ => ⟨r, a, d, h1, h2, h3, s _ _ h4, s _ _ h5⟩
theorem VdAll.take {H : Hp} : ∀ {vs : List V} {ds : List PyData} (k : Nat), VdAll H vs ds → VdAll H (vs.take k) (ds.take k)
  | _, _, 0, _ => .nil
  | _, _, _ + 1, .nil => .nil
  | _, _, k + 1, .cons a b => .cons a (VdAll.take k b)
theorem VdAll.drop {H : Hp} : ∀ {vs : List V} {ds : List PyData} (k : Nat), VdAll H vs ds → VdAll H (vs.drop k) (ds.drop k)
  | _, _, 0, h => h
  | _, _, _ + 1, .nil => .nil
  | _, _, k + 1, .cons _ b => VdAll.drop k b
end WP
namespace WP
open PySem L2 PySem.Spec PyProof.Rows LamX
section
variable {m : MdD} {s : SiteD} {css rows rows2 : List (List Str)}
theorem RowsOk.law (h : RowsOk m s css rows) (sm : SiteM s m) : LRowsOk m css rows := ⟨h.len, ⟨_, h.hd, sm.fs.map _, sm.ok.so⟩, h.cl⟩
theorem RowsOk.uniq (h : RowsOk m s css rows) (g : RowsOk m s css rows2) (sm : SiteM s m) : rows = rows2 := rows_uniq sm h (g.law sm)
/-- one change more -/
theorem RowsOk.snoc {ns r : List Str} (h : RowsOk m s css rows) (c : CloR m ns r) : RowsOk m s (css ++ [ns]) (rows ++ [r]) := by
  have l := h.len
  refine ⟨by rw [List.length_append, List.length_append, l]; rfl, ?_, fun i ks q e1 e2 => ?_⟩
  · rw [List.getElem?_append_left (by omega)]
    exact h.hd
  · by_cases hi : i < css.length
    · rw [List.getElem?_append_left hi] at e1
      rw [List.getElem?_append_left (by omega)] at e2
      exact h.cl i ks q e1 e2
    · have il : i < (css ++ [ns]).length := (List.getElem?_eq_some_iff.mp e1).1
      rw [List.length_append, List.length_singleton] at il
      obtain rfl : i = css.length := by omega
      rw [List.getElem?_append_right (Nat.le_refl _), Nat.sub_self] at e1
      rw [show css.length + 1 = rows.length by omega, List.getElem?_append_right (Nat.le_refl _), Nat.sub_self] at e2
      cases e1
      cases e2
      exact c
theorem ChOk.snoc {ns : List Str} (h : ChOk m css) (hl : css.length < 30) (ne : ns ≠ []) (nd : ns.Nodup) (hm : ∀ n ∈ ns, n ∈ m.files.map (·.1)) : ChOk m (css ++ [ns]) := by
  refine ⟨by rw [List.length_append]; show css.length + 1 ≤ 30; omega, fun ks hks => ?_⟩
  rcases List.mem_append.mp hks with h1 | h1
  · exact h.2 ks h1
  · rw [List.mem_singleton.mp h1]
    exact ⟨ne, nd, hm⟩
end
theorem KdsAt.snoc {H : Hp} {rs : List Addr} {css : List (List Str)} {a : Addr} {ns : List Str} (h : KdsAt H rs css) (ha : H a = some (.lst (ns.map V.str)) ∨ H a = some (.tup (ns.map V.str))) : KdsAt H (rs ++ [a]) (css ++ [ns]) := by
  refine ⟨by rw [List.length_append, List.length_append, h.1]; rfl, fun i r ks e1 e2 => ?_⟩
  by_cases hi : i < rs.length
  · rw [List.getElem?_append_left hi] at e1
    rw [List.getElem?_append_left (by rw [← h.1]; exact hi)] at e2
    exact h.2 i r ks e1 e2
  · have il : i < (rs ++ [a]).length := (List.getElem?_eq_some_iff.mp e1).1
    rw [List.length_append, List.length_singleton] at il
    obtain rfl : i = rs.length := by omega
    rw [List.getElem?_append_right (Nat.le_refl _), Nat.sub_self] at e1
    rw [h.1, List.getElem?_append_right (Nat.le_refl _), Nat.sub_self] at e2
    cases e1
    cases e2
    exact ha
theorem EdM.ext {K : PySem.W.Frag} {CD CS CF : Addr} {H H' : Hp} {v sv : V} {m : MdD} {rows : List (List Str)} (h : EdM K CD CS CF H v sv m rows) (s : ExtN H H') : EdM K CD CS CF H' v sv m rows := ⟨h.ed.ext s, let ⟨x, a, b⟩ := h.st; ⟨x, a.ext s, b⟩, h.ok, h.g⟩
theorem KdsAt.ext {H H' : Hp} {rs : List Addr} {kss : List (List Str)} (h : KdsAt H rs kss) (s : ExtN H H') : KdsAt H' rs kss :=
  ⟨h.1, fun i r ks h1 h2 => (h.2 i r ks h1 h2).imp (fun e => s _ _ e fun _ z => by cases z) (fun e => s _ _ e fun _ z => by cases z)⟩
end WP
namespace WP
open PySem L2 PySem.Spec PyProof.Rows LamX
section
variable {m : MdD} {s : SiteD} {css rows rows2 : List (List Str)}
/-- the closures themselves as changes -/
theorem RowsOk.self (h : RowsOk m s css rows) : RowsOk m s rows.tail rows := by
  have l := h.len
  refine ⟨by rw [List.length_tail]; omega, h.hd, fun i ks r e1 e2 => ?_⟩
  rw [List.getElem?_tail] at e1
  cases e1.symm.trans e2
  have a3 := List.getElem?_eq_getElem (show i < css.length by have := (List.getElem?_eq_some_iff.mp e2).1; omega)
  exact (h.cl i _ _ a3 e2).idem
theorem ChOk.put {ns : List Str} {k : Nat} (h : ChOk m css) (hk : k < css.length) (ne : ns ≠ []) (nd : ns.Nodup) (hm : ∀ n ∈ ns, n ∈ m.files.map (·.1)) : ChOk m (css.take k ++ [ns] ++ css.drop (k + 1)) := by
  refine ⟨?_, fun ks hks => ?_⟩
  · rw [List.length_append, List.length_append, List.length_take, List.length_drop, List.length_singleton]
    have := h.1
    omega
  · rcases List.mem_append.mp hks with h1 | h1
    · rcases List.mem_append.mp h1 with h2 | h2
      · exact h.2 ks (List.mem_of_mem_take h2)
      · rw [List.mem_singleton.mp h2]
        exact ⟨ne, nd, hm⟩
    · exact h.2 ks (List.mem_of_mem_drop h1)
theorem ChOk.init (h : ChOk m css) : ChOk m css.dropLast := ⟨by rw [List.length_dropLast]; have := h.1; omega, fun ks hk => h.2 ks (List.dropLast_subset _ hk)⟩
theorem ChOk.nil : ChOk m [] := ⟨Nat.zero_le _, fun k z => by cases z⟩
end
theorem KdsAt.take {H : Hp} {rs : List Addr} {kss : List (List Str)} (h : KdsAt H rs kss) (n : Nat) : KdsAt H (rs.take n) (kss.take n) := by
  refine ⟨by rw [List.length_take, List.length_take, h.1], fun i r ks e1 e2 => ?_⟩
  rw [List.getElem?_take] at e1 e2
  split at e1
  · rename_i hi
    rw [if_pos hi] at e2
    exact h.2 i r ks e1 e2
  · cases e1
theorem KdsAt.drop {H : Hp} {rs : List Addr} {kss : List (List Str)} (h : KdsAt H rs kss) (n : Nat) : KdsAt H (rs.drop n) (kss.drop n) := by
  refine ⟨by rw [List.length_drop, List.length_drop, h.1], fun i r ks e1 e2 => ?_⟩
  rw [List.getElem?_drop] at e1 e2
  exact h.2 _ r ks e1 e2
theorem KdsAt.tl {H : Hp} {rs : List Addr} {kss : List (List Str)} (h : KdsAt H (rs.drop 1) (kss.drop 1)) : KdsAt H rs.tail kss.tail := by rw [← List.drop_one, ← List.drop_one]; exact h
theorem KdsAt.init {H : Hp} {rs : List Addr} {kss : List (List Str)} (h : KdsAt H rs kss) : KdsAt H rs.dropLast kss.dropLast := by
  rw [List.dropLast_eq_take, List.dropLast_eq_take, h.1]
  exact h.take _
theorem KdsAt.app {H : Hp} {rs us : List Addr} {kss lss : List (List Str)} (h : KdsAt H rs kss) (g : KdsAt H us lss) : KdsAt H (rs ++ us) (kss ++ lss) := by
  refine ⟨by rw [List.length_append, List.length_append, h.1, g.1], fun i r ks e1 e2 => ?_⟩
  by_cases hi : i < rs.length
  · rw [List.getElem?_append_left hi] at e1
    rw [List.getElem?_append_left (by rw [← h.1]; exact hi)] at e2
    exact h.2 i r ks e1 e2
  · rw [List.getElem?_append_right (by omega)] at e1
    rw [List.getElem?_append_right (by rw [← h.1]; omega), ← h.1] at e2
    exact g.2 _ r ks e1 e2
end WP
namespace WP
open PySem L2 PySem.Spec PyProof.Rows LamX
end WP
namespace WP
open PySem PySem.Spec PyProof.Rows L2
abbrev cl (x : Str) : List Nat := x.cps.toList
end WP
namespace WP
open PySem PySem.Spec PyProof.Rows L2
end WP
namespace WP
open PySem PySem.Spec PyProof.Rows L2
end WP
namespace WP
open PySem PySem.Spec PyProof.Rows L2
end WP
namespace WP
open PySem L2 PySem.Spec PyProof.Rows LamX
structure PtOk (f : FileD) : Prop where
  nd : f.refers.Nodup
  nam : ∀ x ∈ f.refers, isNameS x = true
  fw : f.refers.length ≤ 8
  hd : isTicksV (optI f.hold) = true
  kp : f.keeps.length ≤ 4
  kt : ∀ k ∈ f.keeps, isTicksV (optI k) = true
/-- the list of four parts stands at x -/
def PtAt (H : Hp) (x : Addr) (f : FileD) : Prop := ∃ r k : Addr, H x = some (.lst [.str (namS f.own), .ref r, optI f.hold, .ref k]) ∧ H r = some (.lst (f.refers.map V.str)) ∧ H k = some (.lst (f.keeps.map optI))
theorem PtAt.same {H H' : Hp} {x : Addr} {f : FileD} (h : PtAt H x f) (s : Same H H') : PtAt H' x f := by
  obtain ⟨r, k, h1, h2, h3⟩ := h
  exact ⟨r, k, s _ _ h1, s _ _ h2, s _ _ h3⟩
/-- g is f, its names ascending -/
structure Srt (g f : FileD) : Prop where
  own : g.own = f.own
  pm : f.refers.Perm g.refers
  so : sortedS g.refers = true
  hold : g.hold = f.hold
  keeps : g.keeps = f.keeps
theorem Srt.uniq {g g' f : FileD} (h : Srt g f) (h' : Srt g' f) : g = g' := by
  have e := sorted_uniq (h.pm.symm.trans h'.pm) h.so h'.so
  cases g
  cases g'
  simp only [FileD.mk.injEq]
  exact ⟨h.own.trans h'.own.symm, e, h.hold.trans h'.hold.symm, h.keeps.trans h'.keeps.symm⟩
theorem Srt.ok {g f : FileD} (h : Srt g f) (o : PtOk f) : FileOk g := by
  have l := h.pm.length_eq
  have fw := o.fw
  exact ⟨h.pm.nodup_iff.mp o.nd, fun x hx => o.nam x (h.pm.mem_iff.mpr hx), h.so, by rw [h.keeps]; exact o.kp, by omega, by rw [h.hold]; exact o.hd, by rw [h.keeps]; exact o.kt⟩
/-- a value for a part: at most n items -/
structure PartE (n : Nat) (e : PyData) : Prop where
  be : BentE e
  few : ∀ es, (e = .list es ∨ e = .tuple es) → es.length ≤ n
theorem PartE.mono {n k : Nat} {e : PyData} (h : PartE n e) (hn : n ≤ k) : PartE k e := ⟨h.be, fun es g => Nat.le_trans (h.few es g) hn⟩
/-- four values -/
def PtsE (n : Nat) (e : PyData) : Prop := ∃ es, e = .list es ∧ es.length = 4 ∧ ∀ f ∈ es, PartE n f
theorem PartE.seq {n : Nat} {es : List PyData} (hl : es.length ≤ n) (hn : n ≤ 20) (h : ∀ f ∈ es, Rg f 4 200 ∧ ∀ z, f = .str z → z.length ≤ 100) : PartE n (.list es) ∧ PartE n (.tuple es) := by
  obtain ⟨h1, h2⟩ := bentE_seq11 (es := es) (by omega) h
  exact ⟨⟨h1, fun es' e => by rcases e with e | e <;> cases e; exact hl⟩, ⟨h2, fun es' e => by rcases e with e | e <;> cases e; exact hl⟩⟩
theorem PtsE.rg {n : Nat} {e : PyData} (h : PtsE n e) : Rg e 11 90000 := by
  obtain ⟨es, rfl, l, hp⟩ := h
  exact (Rg.list (fun d hd => (hp d hd).be.rg) (Nat.le_of_eq l)).mono (by omega) (by omega)
/-- what a file tells, as a list of four -/
def TlAt (K : PySem.W.Frag) (H : Hp) (p : Addr) (f : FileD) : Prop := ∃ t1 t2 : Addr, H p = some (.lst [.str (namS f.own), .ref t1, optI f.hold, .ref t2]) ∧ SqT K H t1 (f.refers.map V.str) ∧ SqT K H t2 (f.keeps.map optI)
theorem VdAll.set {H : Hp} : ∀ {vs : List V} {ds : List PyData} {i : Nat} {v : V} {d : PyData}, VdAll H vs ds → Vd H v d → VdAll H (vs.set i v) (ds.set i d)
  | _, _, _, _, _, .nil, _ => .nil
  | _, _, 0, _, _, .cons _ t, h => .cons h t
  | _, _, i + 1, _, _, .cons a t, h => .cons a (VdAll.set t h)
end WP
namespace WP
open PySem L2 PySem.Spec PyProof.Rows LamX
theorem PartE.seqv {K : PySem.W.Frag} {H : Hp} {v : V} {e : PyData} {n : Nat} (b : PartE n e) (hn : n ≤ 63) (h : Vd H v e) : ∃ xs, SeqV K H v (kdD e) xs ∧ xs.length < 64 := by
  have key : ∀ {a : Addr} {vs : List V} {ds : List PyData}, (SqL K H a vs ∨ SqT K H a vs) → VdAll H vs ds → (ds.length ≤ n ∧ ∀ f ∈ ds, ∀ z, f = .str z → z.length ≤ 100) → ((∃ a', V.ref a = .ref a' ∧ (SqL K H a' vs ∨ SqT K H a' vs) ∧ vs.length ≤ 1000 ∧ ∀ x ∈ vs, ∃ kx, Any K H x kx ∧ ∀ z, x = .str z → z.length ≤ sizeLine) ∧ vs.length < 64) := fun {a vs ds} ha hl ⟨b1, b2⟩ => by
    have ll := hl.len
    refine ⟨⟨a, rfl, ha, by omega, fun y hy => ?_⟩, by omega⟩
    obtain ⟨j, hj⟩ := List.getElem?_of_mem hy
    obtain ⟨d, h1, h2⟩ := hl.at hj
    exact h2.anyN fun z e => Nat.le_trans (b2 d (List.mem_of_getElem? h1) z e) (by decide)
  have few : ∀ ds, (e = .list ds ∨ e = .tuple ds) → (ds.length ≤ n ∧ ∀ f ∈ ds, ∀ z, f = .str z → z.length ≤ 100) := fun ds he => ⟨b.few ds he, fun f hf => ((b.be.it ds he).2 f hf).2⟩
  cases h with
  | lst ha hl => exact ⟨_, ⟨.lst ha, fun _ => (key (.inl (SqL.of ha)) hl (few _ (.inl rfl))).1⟩, (key (.inl (SqL.of ha)) hl (few _ (.inl rfl))).2⟩
  | tup ha hl => exact ⟨_, ⟨.tup ha, fun _ => (key (.inr (SqT.of ha)) hl (few _ (.inr rfl))).1⟩, (key (.inr (SqT.of (K := K) ha)) hl (few _ (.inr rfl))).2⟩
  | non => exact ⟨[], ⟨.non, fun z => by cases z⟩, by decide⟩
  | bl b' => exact ⟨[], ⟨.bl b', fun z => by cases z⟩, by decide⟩
  | int i => exact ⟨[], ⟨.int i, fun z => by cases z⟩, by decide⟩
  | str x => exact ⟨[], ⟨.str x, fun z => by cases z⟩, by decide⟩
  | dct h _ _ => exact ⟨[], ⟨.dct h, fun z => by cases z⟩, by decide⟩
def ErF (CE : Addr) (du : Option Str) (er : V) (H : Hp) : Prop := (du = none ∧ er = .non) ∨ ∃ (pt : Str) (a d : Addr), du = some pt ∧ er = .ref a ∧ H a = some (XvO (.ref CE) (some d) a) ∧ H d = some (.xd [("part", .str pt)])
theorem ErF.same {CE : Addr} {du : Option Str} {er : V} {H H' : Hp} (h : ErF CE du er H) (s : Same H H') : ErF CE du er H' := h.imp id fun ⟨r, a, d, h1, h3, h4, h5⟩ => ⟨r, a, d, h1, h3, s _ _ h4, s _ _ h5⟩
theorem ErF.ext {CE : Addr} {du : Option Str} {er : V} {H H' : Hp} (h : ErF CE du er H) (s : ExtN H H') : ErF CE du er H' := h.imp id fun ⟨r, a, d, h1, h3, h4, h5⟩ => ⟨r, a, d, h1, h3, s _ _ h4 (fun ys z => by cases z), s _ _ h5 (fun ys z => by cases z)⟩
theorem ErF.put {CE L : Addr} {du : Option Str} {er : V} {H : Hp} {xs : List V} {o : HO} (h : ErF CE du er H) (hL : H L = some (.lst xs)) : ErF CE du er (upd H L o) := h.imp id fun ⟨r, a, d, h1, h3, h4, h5⟩ => ⟨r, a, d, h1, h3, by rw [upd_ne (fun z => by rw [z, hL] at h4; cases h4)]; exact h4, by rw [upd_ne (fun z => by rw [z, hL] at h5; cases h5)]; exact h5⟩
theorem call_isET {X : Cx} : CallR X (.builtin "isinstance") (fun xs H Q => rIsXT X.K xs H Q ∨ rIsiT X.K xs H Q) := by
  intro pins s σ H xs us Q I r h
  rcases h with h | h
  · exact call_isXT pins s σ H xs us Q I r h
  · exact call_isiT pins s σ H xs us Q I r h
end WP
namespace WP
open PySem L2 PySem.Spec PyProof.Rows LamX
theorem FileOk.fok {f : FileD} (h : FileOk f) : FOk f := fun x hx => (name_ok (h.nam x hx)).2.2
theorem TlAt.same {K : PySem.W.Frag} {H H' : Hp} {p : Addr} {f : FileD} (h : TlAt K H p f) (s : Same H H') : TlAt K H' p f := by
  obtain ⟨t1, t2, h1, h2, h3⟩ := h
  exact ⟨t1, t2, s _ _ h1, SqT.sm h2 s, SqT.sm h3 s⟩
end WP
namespace WP
open PySem L2 PySem.Spec PyProof.Rows LamX
def Dly16 (a : Option Int) : Prop := ∀ i, a = some i → -1 ≤ i ∧ i ≤ 16000
theorem Dly16.b {a : Option Int} (h : Dly16 a) : DlyB a := fun i e => by have := h i e; omega
end WP
namespace WP
open PySem L2 PySem.Spec PyProof.Rows LamX
def lenD : PyData → Nat
  | .list es => es.length
  | .tuple es => es.length
  | _ => 0
end WP
namespace WP
open PySem L2 PySem.Spec PyProof.Rows LamX
end WP
namespace WP
open PySem L2 PySem.Spec PyProof.Rows LamX
end WP
namespace WP
open PySem L2 PySem.Spec PyProof.Rows LamX
end WP
namespace WP
open PySem L2 PySem.Spec PyProof.Rows LamX
/-- a value for kinds or steps: at most n items, of at most t items in all -/
structure KnE (n t : Nat) (e : PyData) : Prop where
  ch : ChgsN n e
  sum : ∀ es, (e = .list es ∨ e = .tuple es) → (es.map lenD).sum ≤ t
theorem KnE.mono {n t n' t' : Nat} {e : PyData} (h : KnE n t e) (hn : n ≤ n') (ht : t ≤ t') : KnE n' t' e := ⟨h.ch.mono hn, fun es g => Nat.le_trans (h.sum es g) ht⟩
theorem KnE.seq {n t : Nat} {es : List PyData} (hl : es.length ≤ n) (hn : n ≤ 40) (h : ∀ f ∈ es, BentE f) (ht : (es.map lenD).sum ≤ t) : KnE n t (.list es) ∧ KnE n t (.tuple es) :=
  ⟨⟨(ChgsN.seq hl hn h).1, fun es' e => by rcases e with e | e <;> cases e; exact ht⟩, ⟨(ChgsN.seq hl hn h).2, fun es' e => by rcases e with e | e <;> cases e; exact ht⟩⟩
section
variable {K : PySem.W.Frag} {d w c a b : Addr} {B : Int} {H0 H : Hp} {xs ys : List V} {lo hi : Option Int} {Q : VK} {mk : List V → HO}
theorem Ds.catT (X : Ds d w c B H0 H) (ha : hd2 d w H a = some (.tup xs)) (hb : hd2 d w H b = some (.tup ys)) (hz : xs.length + ys.length ≤ sizeLine) (q : ∀ p H', Ds d w c B H0 H' → Same (hd2 d w H) (hd2 d w H') → hd2 d w H' p = some (.tup (xs ++ ys)) → Q (.ref p) H') : rCatA K (.ref a) (.ref b) H Q := by
  refine ⟨a, b, xs, ys, rfl, rfl, SqT.of (hd2_of ha).1, SqT.of (hd2_of hb).1, hz, fun e => ?_, fun _ e => ?_, fun _ _ p hp => q p _ (X.new hp) (hd2_new hp) (X.at hp)⟩
  · subst e
    exact q b H X (Same.refl _) hb
  · subst e
    refine q a H X (Same.refl _) ?_
    rw [List.append_nil]
    exact ha
end
theorem All2.last {α β : Type} {R : α → β → Prop} : ∀ {bs : List β} {as : List α} {b : β}, All2 R as (bs ++ [b]) → ∃ as' a, as = as' ++ [a] ∧ All2 R as' bs ∧ R a b
  | [], _, _, .cons h .nil => ⟨[], _, rfl, .nil, h⟩
  | _ :: _, _, _, .cons h t => by
    obtain ⟨as', a, rfl, h1, h2⟩ := All2.last t
    exact ⟨_ :: as', a, rfl, .cons h h1, h2⟩
end WP
namespace WP
open PySem L2 PySem.Spec PyProof.Rows LamX
def ErK (CK CB : Addr) (du : Option (Option Nat)) (st : Bool) (er : V) (H : Hp) : Prop := (du = none ∧ st = true ∧ er = .non) ∨ (du = none ∧ st = false ∧ ∃ a, er = .ref a ∧ H a = some (XvO (.ref CB) none a)) ∨
  ∃ (r : Option Nat) (a d : Addr), du = some r ∧ (∀ i, r = some i → i < 100) ∧ er = .ref a ∧ H a = some (XvO (.ref CK) (some d) a) ∧ H d = some (.xd [("at", atV r)])
theorem ErK.ext {CK CB : Addr} {du : Option (Option Nat)} {st : Bool} {er : V} {H H' : Hp} (h : ErK CK CB du st er H) (s : ExtN H H') : ErK CK CB du st er H' := by
  rcases h with h | ⟨h1, h2, a, h3, h4⟩ | ⟨r, a, d, h1, h2, h3, h4, h5⟩
  · exact .inl h
  · exact .inr (.inl ⟨h1, h2, a, h3, s _ _ h4 fun ys z => by cases z⟩)
  · exact .inr (.inr ⟨r, a, d, h1, h2, h3, s _ _ h4 (fun ys z => by cases z), s _ _ h5 (fun ys z => by cases z)⟩)
theorem ErK.same {CK CB : Addr} {du : Option (Option Nat)} {st : Bool} {er : V} {H H' : Hp} (h : ErK CK CB du st er H) (s : Same H H') : ErK CK CB du st er H' := h.ext (.of s)
theorem ErK.put {CK CB L : Addr} {du : Option (Option Nat)} {st : Bool} {er : V} {H : Hp} {xs : List V} {o : HO} (h : ErK CK CB du st er H) (hL : H L = some (.lst xs)) : ErK CK CB du st er (upd H L o) := by
  rcases h with h | ⟨h1, h2, a, h3, h4⟩ | ⟨r, a, d, h1, h2, h3, h4, h5⟩
  · exact .inl h
  · exact .inr (.inl ⟨h1, h2, a, h3, by rw [upd_ne (fun z => by rw [z, hL] at h4; cases h4)]; exact h4⟩)
  · exact .inr (.inr ⟨r, a, d, h1, h2, h3, by rw [upd_ne (fun z => by rw [z, hL] at h4; cases h4)]; exact h4, by rw [upd_ne (fun z => by rw [z, hL] at h5; cases h5)]; exact h5⟩)
/-- isinstance of what was caught, with a tuple: what is told goes on -/
theorem isET_use {K : PySem.W.Frag} {xs : List V} {H : Hp} {Q : VK} (b : Bool) (h : rIsXT K xs H (fun v H' => v = .bl b ∧ H' = H) ∨ rIsiT K xs H (fun v H' => v = .bl b ∧ H' = H)) (q : Q (.bl b) H) : rIsXT K xs H Q ∨ rIsiT K xs H Q := by
  rcases h with ⟨a, C, d, tp, cs, cvs, b', h1, h2, h3, h4, h5, h6, h7, h8, _⟩ | ⟨x, tp, cs, t, us, b', h1, h2, h3, h4, h5, h6, _⟩
  · cases h8
    exact .inl ⟨a, C, d, tp, cs, cvs, b, h1, h2, h3, h4, h5, h6, h7, q⟩
  · cases h6
    exact .inr ⟨x, tp, cs, t, us, b, h1, h2, h3, h4, h5, q⟩
end WP
namespace WP
open PySem L2 PySem.Spec PyProof.Rows LamX
end WP
namespace WP
open PySem L2 PySem.Spec PyProof.Rows
end WP
namespace WP
open PySem L2 PySem.Spec PyProof.Rows
end WP
namespace WP
open PySem L2 PySem.Spec PyProof.Rows
/-- each file of a way refers to the next one -/
theorem WayI.refs {fs : List (Str × FileD)} {t : List (Str × Option Str)} {e x : Str} {l : List Str} (T : TreeOf fs e t) (W : WayI t x l) {j : Nat} {p a : Str} (h1 : l[j]? = some p) (h2 : l[j + 1]? = some a) : a ∈ rf fs p := by
  rcases T.par _ _ (W.par h1 h2) with ⟨_, z⟩ | ⟨q', z, _, h3⟩
  · cases z
  · cases z
    exact h3
/-- what a closure gives, as a list -/
structure CloL (m : MdD) (ns ys : List Str) : Prop where
  mem : ∀ x, x ∈ ys ↔ Clo m.files ns x
  nd : ys.Nodup
  so : sortedS ys = true
theorem CloL.uniq {m : MdD} {ns ys zs : List Str} (h : CloL m ns ys) (g : CloL m ns zs) : ys = zs :=
  sorted_uniq ((List.perm_ext_iff_of_nodup h.nd g.nd).mpr fun x => by rw [h.mem, g.mem]) h.so g.so
end WP
namespace WP
open PySem L2 PySem.Spec PyProof.Rows
/-- the tuple at p, which has no dict -/
def TupF (H : Hp) (p : Addr) (xs : List V) : Prop := ∃ o : Obj, o.dict = none ∧ H p = some (.frz o (.tup xs))
theorem TupF.same {H H' : Hp} {p : Addr} {xs : List V} (h : TupF H p xs) (s : Same H H') : TupF H' p xs := by
  obtain ⟨o, h1, h⟩ := h
  exact ⟨o, h1, s _ _ h⟩
theorem TupF.put {H : Hp} {p D : Addr} {xs : List V} {o : HO} (h : TupF H p xs) (n : p ≠ D) : TupF (upd H D o) p xs := by
  obtain ⟨ob, h1, h⟩ := h
  exact ⟨ob, h1, by rw [upd_ne n]; exact h⟩
/-- a way to n that stands at p -/
def WyAt (m : MdD) (n : Str) (H : Hp) (p : Addr) (l : List Str) : Prop := ∃ e t, e ∈ m.entries ∧ TreeOf m.files e t ∧ WayE t n l ∧ TupF H p (l.map V.str)
theorem WyAt.same {m : MdD} {n : Str} {H H' : Hp} {p : Addr} {l : List Str} (h : WyAt m n H p l) (s : Same H H') : WyAt m n H' p l := by
  obtain ⟨e, t, h1, h2, h3, h4⟩ := h
  exact ⟨e, t, h1, h2, h3, h4.same s⟩
end WP
namespace WP
open PySem L2 PySem.Spec PyProof.Rows
end WP
namespace WP
open PySem L2 PySem.Spec PyProof.Rows LamX
theorem PgM.dp {K : PySem.W.Frag} {H : Hp} {v : V} {f : FileD} (h : PgM K H v f) : Dp K H v (pageD f) := by
  obtain ⟨a, r, k, rfl, h1, h2, h3⟩ := h
  exact page_dp h1 (SqT.of h2) (SqT.of h3)
/-- pages and the files that were made of them -/
def MadeAt (K : PySem.W.Frag) (CF : Addr) (H : Hp) (us : List Addr) (gs : List FileD) : Prop := us.length = gs.length ∧ ∀ (j : Nat) (u : Addr) (g : FileD), us[j]? = some u → gs[j]? = some g → ∃ pg x, H u = some (.tup [.ref pg, .ref x]) ∧ PgM K H (.ref pg) g ∧ FileAt K CF H (.ref x) g
theorem MadeAt.same {K : PySem.W.Frag} {CF : Addr} {H H' : Hp} {us : List Addr} {gs : List FileD} (h : MadeAt K CF H us gs) (s : Same H H') : MadeAt K CF H' us gs := ⟨h.1, fun j u g h1 h2 => by
  obtain ⟨pg, x, a1, a2, a3⟩ := h.2 j u g h1 h2
  exact ⟨pg, x, s _ _ a1, a2.same s, a3.same s⟩⟩
theorem MadeAt.snoc {K : PySem.W.Frag} {CF : Addr} {H : Hp} {us : List Addr} {gs : List FileD} (h : MadeAt K CF H us gs) {u pg x : Addr} {g : FileD} (h1 : H u = some (.tup [.ref pg, .ref x])) (h2 : PgM K H (.ref pg) g) (h3 : FileAt K CF H (.ref x) g) : MadeAt K CF H (us ++ [u]) (gs ++ [g]) := by
  refine ⟨by rw [List.length_append, List.length_append, h.1]; rfl, fun j u' g' e1 e2 => ?_⟩
  by_cases hj : j < us.length
  · rw [List.getElem?_append_left hj] at e1
    rw [List.getElem?_append_left (by rw [← h.1]; exact hj)] at e2
    exact h.2 j u' g' e1 e2
  · rw [List.getElem?_append_right (by omega)] at e1
    rw [List.getElem?_append_right (by rw [← h.1]; omega), ← h.1] at e2
    cases hz : j - us.length with
    | zero =>
      rw [hz] at e1 e2
      cases e1
      cases e2
      exact ⟨pg, x, h1, h2, h3⟩
    | succ k =>
      rw [hz] at e1
      cases e1
end WP
namespace WP
open PySem L2 PySem.Spec PyProof.Rows LamX
def Lay (k : Nat) (d : PyData) : Prop := PyData.canLay0 d = true ∧ PyData.depth d ≤ k
theorem Lay.all {k : Nat} : ∀ {ds : List PyData}, (∀ d ∈ ds, Lay k d) → PyData.canLayAll0 ds = true ∧ PyData.depthAll ds ≤ k
  | [], _ => ⟨rfl, Nat.zero_le _⟩
  | d :: r, h => by
    obtain ⟨h1, h2⟩ := h d (List.mem_cons_self ..)
    obtain ⟨h3, h4⟩ := Lay.all fun x hx => h x (List.mem_cons_of_mem _ hx)
    refine ⟨by rw [PyData.canLayAll0, h1, h3]; rfl, ?_⟩
    rw [PyData.depthAll]
    exact Nat.max_le.mpr ⟨h2, h4⟩
theorem Lay.list {k : Nat} {ds : List PyData} (h : ∀ d ∈ ds, Lay k d) : Lay (k + 1) (.list ds) := by
  obtain ⟨h1, h2⟩ := Lay.all h
  refine ⟨by rw [PyData.canLay0]; exact h1, ?_⟩
  rw [PyData.depth]
  omega
theorem Lay.mono {k j : Nat} {d : PyData} (h : Lay k d) (e : k ≤ j) : Lay j d := ⟨h.1, Nat.le_trans h.2 e⟩
theorem Lay.sh {k : Nat} {d : PyData} (h : Lay k d) (e : k ≤ 64) : SeqAt.shaped d = true := by
  unfold SeqAt.shaped
  rw [h.1, decide_eq_true (Nat.le_trans h.2 e)]
  rfl
end WP
namespace WP
open PySem L2 PySem.Spec PyProof.Rows LamX
end WP
namespace WP
open PySem L2 PySem.Spec PyProof.Rows LamX
section
variable {m : MdD} {ks ls ys zs : List Str}
theorem CloR.has (h : CloR m ks ys) : ∀ x ∈ ks, x ∈ ys := fun x hx => (h.1 x).mpr ⟨x, hx, .refl⟩
end
end WP
namespace WP
open PySem PySem.Spec PyProof.Rows L2 LamX
end WP
namespace WP
open PySem PySem.Spec PyProof.Rows L2 LamX
def PrsAt (H : Hp) (rs : List Addr) (ps : List (Str × Str)) : Prop := All2 (fun r (p : Str × Str) => H r = some (.tup [.str p.1, .str p.2])) rs ps
def OthersL (m : MdD) (os : List Str) : Prop := (∀ x, x ∈ os ↔ x ∈ m.files.map (·.1) ∧ x ∉ m.entries) ∧ os.Nodup ∧ sortedS os = true
theorem OthersL.uniq {m : MdD} {os qs : List Str} (h : OthersL m os) (g : OthersL m qs) : os = qs :=
  sorted_uniq ((List.perm_ext_iff_of_nodup h.2.1 g.2.1).mpr fun x => by rw [h.1, g.1]) h.2.2 g.2.2
def TupsL (H : Hp) (rs : List Addr) (sss : List (List Str)) : Prop := All2 (fun r (ss : List Str) => H r = some (.tup (ss.map V.str))) rs sss
end WP
namespace WP
open PySem PySem.Spec PyProof.Rows L2 LamX
theorem rising_of : ∀ (l : List Str) (p : Str), (p :: l).Pairwise leS → risingS p l = true
  | [], _, _ => rfl
  | x :: r, p, h => by
    obtain ⟨h1, h2⟩ := List.pairwise_cons.mp h
    show (!ltCps x.cps.toList p.cps.toList && risingS x r) = true
    rw [Bool.and_eq_true, Bool.not_eq_true', ltCps_eq]
    exact ⟨decide_eq_false (List.not_lt.mpr (h1 x (List.mem_cons_self ..))), rising_of r x h2⟩
theorem sorted_of : ∀ {l : List Str}, l.Pairwise leS → sortedS l = true
  | [], _ => rfl
  | x :: r, h => rising_of r x h
/-- nothing but a table may stand there -/
def NewT (H : Hp) (p : Addr) : Prop := ∀ o, H p = some o → ∃ ps, o = .tbl ps
theorem NewT.of {H H1 H2 : Hp} {p : Addr} (e : ExtN H H1) (s : Same H1 H2) (h : H2 p = none) : NewT H p := fun o ho => Classical.byContradiction fun no => by
  have := s _ _ (e _ _ ho fun ps z => no ⟨ps, z⟩)
  rw [h] at this
  cases this
theorem NewT.none {H : Hp} {p : Addr} (h : H p = none) : NewT H p := fun o ho => by rw [h] at ho; cases ho
theorem NewT.ne {H : Hp} {p q : Addr} {xs : List V} (h : NewT H p) (e : H q = some (.lst xs)) : p ≠ q := fun z => by
  obtain ⟨ps, e2⟩ := h _ (by rw [z]; exact e)
  cases e2
theorem KdsOk.own {m : MdD} {kss : List (List Str)} (h : KdsOk m kss) (ns : List Str) : KdsOk (ownM m ns) kss := ⟨h.1, h.2.1, fun ks hk => ⟨(h.2.2 ks hk).1, (h.2.2 ks hk).2.1, fun n hn => by
  rw [show (ownM m ns).files = m.files.map (owF ns) from rfl, owF_keys]
  exact (h.2.2 ks hk).2.2 n hn⟩⟩
theorem TupsL.same {H H' : Hp} {rs : List Addr} {sss : List (List Str)} (h : TupsL H rs sss) (s : Same H H') : TupsL H' rs sss := h.imp fun _ _ h => s _ _ h
theorem TupsL.ext {H H' : Hp} {rs : List Addr} {sss : List (List Str)} (h : TupsL H rs sss) (s : ExtN H H') : TupsL H' rs sss := h.imp fun _ _ h => s _ _ h fun _ z => by cases z
theorem PrsAt.same {H H' : Hp} {rs : List Addr} {ps : List (Str × Str)} (h : PrsAt H rs ps) (s : Same H H') : PrsAt H' rs ps := h.imp fun _ _ h => s _ _ h
end WP
namespace WP
open PySem PySem.Spec PyProof.Rows L2 LamX
theorem CloR.swap {m : MdD} {ks ks' ys : List Str} (h : CloR m ks ys) (p : ∀ x, x ∈ ks ↔ x ∈ ks') : CloR m ks' ys := ⟨fun x => by
  rw [h.1]
  exact ⟨fun ⟨n, hn, u⟩ => ⟨n, (p n).mp hn, u⟩, fun ⟨n, hn, u⟩ => ⟨n, (p n).mpr hn, u⟩⟩, h.2⟩
theorem OthersL.len {m : MdD} (ok : MdOk m) {os : List Str} (hO : OthersL m os) : os.length ≤ 8 := by
  have := pigeon os (m.files.map (·.1)) hO.2.1 fun x hx => ((hO.1 x).mp hx).1
  rw [List.length_map] at this
  have := ok.ok.few
  omega
end WP
namespace WP
open PySem PySem.Spec PyProof.Rows L2 LamX
end WP
namespace WP
open PySem PySem.Spec PyProof.Rows L2 LamX
def RankL (H : Hp) (rs : List Addr) (sss : List (List Str)) : Prop := All2 (fun r (ss : List Str) => ∃ t, H r = some (.tup [.int (ss.length : Nat), .ref t]) ∧ H t = some (.tup (ss.map V.str))) rs sss
theorem RankL.same {H H' : Hp} {rs : List Addr} {sss : List (List Str)} (h : RankL H rs sss) (s : Same H H') : RankL H' rs sss := h.imp fun _ _ ⟨t, h1, h2⟩ => ⟨t, s _ _ h1, s _ _ h2⟩
end WP
namespace WP
open PySem PySem.Spec PyProof.Rows L2 LamX
theorem ExtN.mut {H H1 : Hp} {p : Addr} {o : HO} (e : ExtN H H1) (n : NewT H p) : ExtN H (upd H1 p o) := fun b u h t => by
  have : b ≠ p := fun z => by
    obtain ⟨ps, e2⟩ := n u (by rw [← z]; exact h)
    exact t ps e2
  rw [upd_ne this]
  exact e b u h t
end WP
namespace WP
open PySem PySem.Spec PyProof.Rows L2 LamX
end WP
namespace WP
open PySem PySem.Spec PyProof.Rows L2 LamX
end WP
namespace WP
open PySem PySem.Spec PyProof.Rows L2 LamX
def RuleAt (K : PySem.W.Frag) (CR CS CF : Addr) (H : Hp) (v : V) (s : SiteD) (yss sss : List (List Str)) (rows : List (List (Option Int))) (ss : List (Str × Option Int)) : Prop :=
  ∃ (x dx : Addr) (sv : V) (p2 p4 t D : Addr) (ts2 ts4 ls : List Addr), v = .ref x ∧ H x = some (.ins CR dx [("own_site", sv), ("own_kinds", .ref p2), ("own_steps", .ref p4), ("own_waits", .ref t), ("own_stays", .ref D)]) ∧ SiteAt K CS CF H sv s ∧ H p2 = some (.tup (ts2.map V.ref)) ∧ TupsL H ts2 yss ∧
    H p4 = some (.tup (ts4.map V.ref)) ∧ TupsL H ts4 sss ∧ H t = some (.tup (ls.map V.ref)) ∧ All2 (fun l (row : List (Option Int)) => H l = some (.tup (row.map optI))) ls rows ∧ H D = some (.dK (staysK ss))
section
variable {K : PySem.W.Frag} {CR CS CF : Addr} {H H' : Hp} {v : V} {s : SiteD} {yss sss : List (List Str)} {rows : List (List (Option Int))} {ss : List (Str × Option Int)}
theorem RuleAt.same (h : RuleAt K CR CS CF H v s yss sss rows ss) (S : Same H H') : RuleAt K CR CS CF H' v s yss sss rows ss := by
  obtain ⟨x, dx, sv, p2, p4, t, D, ts2, ts4, ls, e, h1, h2, h3, h4, h5, h6, h7, h8, h9⟩ := h
  exact ⟨x, dx, sv, p2, p4, t, D, ts2, ts4, ls, e, S _ _ h1, h2.same S, S _ _ h3, h4.same S, S _ _ h5, h6.same S, S _ _ h7, h8.imp fun _ _ h => S _ _ h, S _ _ h9⟩
end
end WP
namespace WP
open PySem PySem.Spec PyProof.Rows L2 LamX
inductive AtD : V → PyData → Prop
  | str (s : Str) : AtD (.str s) (.str s)
  | int (i : Int) : AtD (.int i) (.int i)
def FlT (H : Hp) (ts : List Addr) (ds : List PyData) : Prop := All2 (fun t d => ∃ (xs : List V) (es : List PyData), d = .tuple es ∧ All2 AtD xs es ∧ H t = some (.tup xs)) ts ds
section
variable {K : PySem.W.Frag} {H H' : Hp} {ts us : List Addr} {ds es : List PyData}
theorem FlT.same (h : FlT H ts ds) (S : Same H H') : FlT H' ts ds := h.imp fun _ _ ⟨xs, es, e, a, g⟩ => ⟨xs, es, e, a, S _ _ g⟩
theorem FlT.upd {p : Addr} {ys : List V} {o : HO} (h : FlT H ts ds) (hp : H p = some (.lst ys)) : FlT (upd H p o) ts ds := h.imp fun _ _ ⟨xs, es, e, a, g⟩ => ⟨xs, es, e, a, keep_tup g hp⟩
theorem FlT.keeps (h : FlT H ts ds) (S : ∀ (b : Addr) (xs : List V), H b = some (.tup xs) → H' b = some (.tup xs)) : FlT H' ts ds := h.imp fun _ _ ⟨xs, es, e, a, g⟩ => ⟨xs, es, e, a, S _ _ g⟩
theorem FlT.snoc {t : Addr} {xs : List V} {es : List PyData} (h : FlT H ts ds) (a : All2 AtD xs es) (g : H t = some (.tup xs)) : FlT H (ts ++ [t]) (ds ++ [.tuple es]) := All2.snoc h ⟨xs, es, rfl, a, g⟩
theorem FlT.app (h : FlT H ts ds) (g : FlT H us es) : FlT H (ts ++ us) (ds ++ es) := All2.app h g
theorem AtD.dp {v : V} {d : PyData} (h : AtD v d) : Dp K H v d := by cases h with
  | str => exact .str _
  | int => exact .int _
end
end WP
namespace WP
open PySem PySem.Spec PyProof.Rows L2 LamX
structure StepsR (m : MdD) (sss : List (List Str)) : Prop where
  pm : sss.flatten.Perm (m.files.map (·.1))
  ne : ∀ s ∈ sss, s ≠ []
theorem flat_ge {α : Type} : ∀ {l : List (List α)}, (∀ s ∈ l, s ≠ []) → l.length ≤ l.flatten.length
  | [], _ => Nat.le_refl _
  | s :: r, h => by
    have h1 := flat_ge (l := r) fun x hx => h x (List.mem_cons_of_mem _ hx)
    have h2 : 1 ≤ s.length := List.length_pos_iff.mpr (h s (List.mem_cons_self ..))
    rw [List.length_cons, List.flatten_cons, List.length_append]
    omega
section
variable {m : MdD} {sss : List (List Str)}
theorem StepsR.len (h : StepsR m sss) (ok : MdOk m) : sss.length ≤ 8 := by
  have a := flat_ge h.ne
  have b := h.pm.length_eq
  rw [List.length_map] at b
  have := ok.ok.few
  omega
theorem StepsR.nd (h : StepsR m sss) (ok : MdOk m) : ∀ s ∈ sss, s.Nodup := fun s hs => by
  have := h.pm.nodup_iff.mpr ok.ok.nd
  exact this.sublist (List.sublist_flatten_of_mem hs)
theorem StepsR.mem (h : StepsR m sss) : ∀ s ∈ sss, ∀ n ∈ s, n ∈ m.files.map (·.1) := fun s hs n hn => h.pm.mem_iff.mp (List.mem_flatten.mpr ⟨s, hs, hn⟩)
theorem StepsR.all (h : StepsR m sss) : ∀ n ∈ m.files.map (·.1), n ∈ sss.flatten := fun n hn => h.pm.mem_iff.mpr hn
end
end WP
namespace WP
open PySem PySem.Spec PyProof.Rows L2 LamX
def WtO (o : Option Int) : Prop := ∀ i, o = some i → 0 ≤ i ∧ i ≤ 20000
def LstO (o : Option Int) : Prop := ∀ i, o = some i → 0 ≤ i ∧ i ≤ 16001
theorem LstO.wt {o : Option Int} (h : LstO o) : WtO o := fun i e => ⟨(h i e).1, by have := (h i e).2; omega⟩
end WP
namespace WP
open PySem PySem.Spec PyProof.Rows L2 LamX
end WP
namespace WP
open PySem PySem.Spec PyProof.Rows L2 LamX
def RulePt (CR : Addr) (H : Hp) (v sv : V) (yss sss : List (List Str)) (rows : List (List (Option Int))) (ss : List (Str × Option Int)) : Prop :=
  ∃ (x dx p2 p4 t D : Addr) (ts2 ts4 ls : List Addr), v = .ref x ∧ H x = some (.ins CR dx [("own_site", sv), ("own_kinds", .ref p2), ("own_steps", .ref p4), ("own_waits", .ref t), ("own_stays", .ref D)]) ∧ H p2 = some (.tup (ts2.map V.ref)) ∧ TupsL H ts2 yss ∧
    H p4 = some (.tup (ts4.map V.ref)) ∧ TupsL H ts4 sss ∧ H t = some (.tup (ls.map V.ref)) ∧ All2 (fun l (row : List (Option Int)) => H l = some (.tup (row.map optI))) ls rows ∧ H D = some (.dK (staysK ss))
theorem RulePt.at {K : PySem.W.Frag} {CR CS CF : Addr} {H : Hp} {v sv : V} {s : SiteD} {yss sss : List (List Str)} {rows : List (List (Option Int))} {ss : List (Str × Option Int)} (h : RulePt CR H v sv yss sss rows ss) (hs : SiteAt K CS CF H sv s) : RuleAt K CR CS CF H v s yss sss rows ss := by
  obtain ⟨x, dx, p2, p4, t, D, ts2, ts4, ls, e, h1, h3, h4, h5, h6, h7, h8, h9⟩ := h
  exact ⟨x, dx, sv, p2, p4, t, D, ts2, ts4, ls, e, h1, hs, h3, h4, h5, h6, h7, h8, h9⟩
theorem RulePt.off {CR : Addr} {d w c : Addr} {B : Int} {H : Hp} {v sv : V} {yss sss : List (List Str)} {rows : List (List (Option Int))} {ss : List (Str × Option Int)} (h : RulePt CR H v sv yss sss rows ss) (X : Dr d w c B H) : RulePt CR (hd2 d w H) v sv yss sss rows ss := by
  obtain ⟨x, dx, p2, p4, t, D, ts2, ts4, ls, e, h1, h3, h4, h5, h6, h7, h8, h9⟩ := h
  obtain ⟨⟨r, t', e1, _⟩, ⟨ns, e2⟩, _⟩ := X
  have nT : ∀ {b : Addr} {xs : List V}, H b = some (.tup xs) → hd2 d w H b = some (.tup xs) := fun h => hd2_mk h (fun z => by rw [z, e1] at h; cases h) (fun z => by rw [z, e2] at h; cases h)
  have nI : ∀ {b C dx : Addr} {fs : List (Str × V)}, H b = some (.ins C dx fs) → hd2 d w H b = some (.ins C dx fs) := fun h => hd2_mk h (fun z => by rw [z, e1] at h; cases h) (fun z => by rw [z, e2] at h; cases h)
  refine ⟨x, dx, p2, p4, t, D, ts2, ts4, ls, e, nI h1, nT h3, h4.imp fun _ _ h => nT h, nT h5, h6.imp fun _ _ h => nT h, nT h7, h8.imp fun _ _ h => nT h, hd2_mk h9 (fun z => ?_) (fun z => by rw [z, e2] at h9; cases h9)⟩
  rw [z, e1] at h9
  have h9 := HO.dK.inj (Option.some.inj h9)
  cases ss with
  | nil => cases h9
  | cons y r =>
    obtain ⟨n, o⟩ := y
    cases o <;> cases h9
end WP
namespace WP
open PySem PySem.HandSPX PySem.Builtin PySem.Builtin.ObjectAttr
end WP
namespace WP
open PySem L2 PySem.Spec PyProof.Rows
end WP
namespace WP
open PySem L2 PySem.Spec PyProof.Rows
end WP
namespace WP
open PySem L2 PySem.Spec PyProof.Rows
/-- an error of class C that keeps fs; none: made of a message -/
def ErrIs (H : Hp) (C : Addr) (o : Option (List (Str × V))) (v : V) : Prop := ∃ a, v = .ref a ∧ match o with
  | some fs => ∃ d, H a = some (XvO (.ref C) (some d) a) ∧ H d = some (.xd fs)
  | none => H a = some (XvO (.ref C) none a)
theorem ErrIs.same {H H' : Hp} {C : Addr} {o : Option (List (Str × V))} {v : V} (h : ErrIs H C o v) (s : Same H H') : ErrIs H' C o v := by
  obtain ⟨a, e, h⟩ := h
  cases o with
  | none => exact ⟨a, e, s _ _ h⟩
  | some fs => obtain ⟨d, h1, h2⟩ := h; exact ⟨a, e, d, s _ _ h1, s _ _ h2⟩
end WP
namespace WP
open PySem L2 PySem.Spec PyProof.Rows
end WP
namespace WP
open PySem L2 PySem.Spec PyProof.Rows
end WP
namespace WP
open PySem L2 PySem.Spec PyProof.Rows LamX
section
variable {K : PySem.W.Frag} {H H' : Hp} {C : Addr} {o : Option (List (Str × V))} {v c : V} {cv : Value} {b : Bool} {Q : VK}
theorem ErrIs.ex (h : ErrIs H C o v) : ∃ (a : Addr) (d : Option Addr), v = .ref a ∧ H a = some (XvO (.ref C) d a) ∧ ∀ dd, d = some dd → ∃ fs, H dd = some (.xd fs) := by
  obtain ⟨a, rfl, h⟩ := h
  cases o with
  | none => exact ⟨a, none, rfl, h, fun dd e => by cases e⟩
  | some fs =>
    obtain ⟨d, h1, h2⟩ := h
    exact ⟨a, some d, rfl, h1, fun dd e => by cases e; exact ⟨fs, h2⟩⟩
theorem ErrIs.ext (h : ErrIs H C o v) (s : ExtN H H') : ErrIs H' C o v := by
  obtain ⟨a, e, h⟩ := h
  cases o with
  | none => exact ⟨a, e, s _ _ h fun ys z => by cases z⟩
  | some fs => obtain ⟨d, h1, h2⟩ := h; exact ⟨a, e, d, s _ _ h1 (fun ys z => by cases z), s _ _ h2 fun ys z => by cases z⟩
end
end WP
namespace WP
open PySem L2 PySem.Spec PyProof.Rows LamX
/-- d == {} -/
def rEqE : R2 := fun x y H Q => ∃ a b ks, x = .ref a ∧ y = .ref b ∧ H a = some (.dK ks) ∧ H b = some (.dK []) ∧ Q (.bl ks.isEmpty) H
theorem op_eqE {X : Cx} (hu : X.A.units < cLine) : OpR X (compareOp .Eq) rEqE := by
  intro pins s σ H x y v u Q I rx ry h
  obtain ⟨a, b, ks, rfl, rfl, ea, eb, q⟩ := h
  obtain rfl : v = Value.ref a := rx
  obtain rfl : u = Value.ref b := ry
  obtain ⟨_, ya, va, ra, da⟩ := (show ObjOk X.prog X.w H s.heap a (.dK ks) from I.hok a _ ea)
  obtain ⟨_, yb, vb, rb, db⟩ := (show ObjOk X.prog X.w H s.heap b (.dK []) from I.hok b _ eb)
  have lb : vb.length = 0 := rb.length.symm
  have la := ra.length
  refine PySem.W.keq_eq (knd := mixKind X.prog X.w) (r := true) ya yb da db hu (fun hl => ?_) (fin_bl I q ?_)
  · have : ks = [] := List.eq_nil_of_length_eq_zero (by omega)
    subst this
    exact hits_all rb ra (fun p hp => by cases hp)
  · rw [lb, ← la]
    cases ks <;> rfl
/-- a page: four parts of a file, or None -/
def PgO (K : PySem.W.Frag) (H : Hp) (v : V) (o : Option FileD) : Prop := match o with | none => v = .non | some f => PgM K H v f
abbrev PgL := List (Key × Option FileD)
abbrev PgsX (K : PySem.W.Frag) (H : Hp) (kvs : List (Key × V)) (l : PgL) : Prop := All2 (fun (p : Key × V) (q : Key × Option FileD) => p.1 = q.1 ∧ PgO K H p.2 q.2) kvs l
def lkX (l : PgL) (k : Key) : Option (Option FileD) := (l.find? fun p => decide (p.1 = k)).map (·.2)
section
variable {K : PySem.W.Frag} {H H' : Hp} {v : V} {o : Option FileD} {kvs : List (Key × V)} {l : PgL} {k : Key}
theorem PgO.same (h : PgO K H v o) (s : Same H H') : PgO K H' v o := by
  cases o with
  | none => exact h
  | some f => exact PgM.same (K := K) h s
theorem PgO.ext (h : PgO K H v o) (s : ExtN H H') : PgO K H' v o := by
  cases o with
  | none => exact h
  | some f =>
    obtain ⟨a, r, k, e, h1, h2, h3⟩ := h
    exact ⟨a, r, k, e, s _ _ h1 (fun _ z => by cases z), s _ _ h2 (fun _ z => by cases z), s _ _ h3 (fun _ z => by cases z)⟩
theorem PgO.putD {p : Addr} {kv : List (Key × V)} {ob : HO} (h : PgO K H v o) (hp : H p = some (.dK kv)) : PgO K (upd H p ob) v o := by
  cases o with
  | none => exact h
  | some f => exact PgM.putD (K := K) h hp
theorem pgs_same (h : PgsX K H kvs l) (s : Same H H') : PgsX K H' kvs l := All2.imp h fun _ _ h => ⟨h.1, h.2.same s⟩
theorem pgs_putD {p : Addr} {kv : List (Key × V)} {ob : HO} (h : PgsX K H kvs l) (hp : H p = some (.dK kv)) : PgsX K (upd H p ob) kvs l := All2.imp h fun _ _ h => ⟨h.1, h.2.putD hp⟩
theorem pgs_keys (h : PgsX K H kvs l) : kvs.map (·.1) = l.map (·.1) := by
  induction h with
  | nil => rfl
  | cons h _ ih => rw [List.map_cons, List.map_cons, ih, h.1]
theorem lkX_hit {k : Key} {o : Option FileD} {l : PgL} : lkX ((k, o) :: l) k = some o := by unfold lkX; rw [List.find?_cons, decide_eq_true rfl]; rfl
theorem lkX_skip {k j : Key} {o : Option FileD} {l : PgL} (h : j ≠ k) : lkX ((j, o) :: l) k = lkX l k := by unfold lkX; rw [List.find?_cons, decide_eq_false h]
theorem pgs_get (h : PgsX K H kvs l) (k : Key) : (valV kvs k = none ∧ lkX l k = none) ∨ ∃ v o, valV kvs k = some v ∧ lkX l k = some o ∧ PgO K H v o := by
  induction h with
  | nil => exact .inl ⟨rfl, rfl⟩
  | @cons p q ps qs h _ ih =>
    obtain ⟨pk, pv⟩ := p
    obtain ⟨qk, qo⟩ := q
    obtain ⟨e, h⟩ := h
    cases (show pk = qk from e)
    by_cases z : pk = k
    · subst z
      exact .inr ⟨pv, qo, valV_pos rfl, lkX_hit, h⟩
    · rw [valV_neg (p := (pk, pv)) z, lkX_skip z]
      exact ih
theorem lkX_mem {l : PgL} {k : Key} : (lkX l k = none ↔ k ∉ l.map (·.1)) := by
  unfold lkX
  rw [Option.map_eq_none_iff, List.find?_eq_none]
  constructor
  · intro h z
    obtain ⟨p, hp, e⟩ := List.mem_map.mp z
    exact h p hp (decide_eq_true e)
  · intro h p hp e
    exact h (List.mem_map.mpr ⟨p, hp, of_decide_eq_true e⟩)
theorem lkX_in {l : PgL} {k : Key} {o : Option FileD} (h : lkX l k = some o) : (k, o) ∈ l := by
  unfold lkX at h
  obtain ⟨p, hp, e⟩ := Option.map_eq_some_iff.mp h
  have h1 := List.mem_of_find?_eq_some hp
  have h2 : p.1 = k := by
    have := List.find?_some hp
    simpa using this
  cases p
  cases h2
  cases e
  exact h1
end
/-- pages as drawn, bent so many times -/
structure LOk (j : Nat) (l : PgL) : Prop where
  nd : (l.map (·.1)).Nodup
  few : l.length ≤ 8 + 9 * j
  fok : ∀ k f, (k, some f) ∈ l → FileOk f ∧ f.refers.length ≤ 8 + j
  kl : ∀ n : Str, (Sum.inr n : Key) ∈ l.map (·.1) → n.length ≤ 9
def PagesV (K : PySem.W.Frag) (H : Hp) (v : V) (k : Kd) (l : PgL) : Prop := Any K H v k ∧ (k.isDct = true → ∃ d kvs, v = .ref d ∧ H d = some (.dK kvs) ∧ PgsX K H kvs l)
theorem PagesV.same {K : PySem.W.Frag} {H H' : Hp} {v : V} {k : Kd} {l : PgL} (h : PagesV K H v k l) (s : Same H H') : PagesV K H' v k l := ⟨h.1.same s, fun e => by
  obtain ⟨d, kvs, e1, h1, h2⟩ := h.2 e
  exact ⟨d, kvs, e1, s _ _ h1, pgs_same h2 s⟩⟩
theorem pagesV_dct {K : PySem.W.Frag} {H : Hp} {d : Addr} {kvs : List (Key × V)} {l : PgL} (h : H d = some (.dK kvs)) (p : PgsX K H kvs l) : PagesV K H (.ref d) .dct l := ⟨.dct h, fun _ => ⟨d, kvs, rfl, h, p⟩⟩
/-- all keys are names -/
def keysN (l : PgL) : Bool := l.all fun p => isNameV (kV p.1)
def canBend (k : Kd) (l : PgL) : Bool := k.isDct && !l.isEmpty && keysN l
def spHanded (K : PySem.W.Frag) (CF : Addr) : Sp := fun vs H Q _ => ∃ (v : V) (k : Kd) (l : PgL) (j : Nat), vs = [v] ∧ PagesV K H v k l ∧ LOk j l ∧ j ≤ 2 ∧ ∀ v' H', Same H H' → FilesV K CF H' v' k l → Q v' H'
def spCanB (K : PySem.W.Frag) : Sp := fun vs H Q _ => ∃ (v : V) (k : Kd) (l : PgL) (j : Nat), vs = [v] ∧ PagesV K H v k l ∧ LOk j l ∧ j ≤ 2 ∧ ∀ H', Same H H' → Q (.bl (canBend k l)) H'
end WP
namespace WP
open PySem L2 PySem.Spec PyProof.Rows LamX
def lookB (fs : List (Str × FileD)) (found : List Str) (n : Str) : List Str := found ++ (rf fs n).filter fun b => decide (n ∈ found) && !decide (b ∈ found)
def roundB (fs : List (Str × FileD)) (ks : List Str) (found : List Str) : List Str := ks.foldl (lookB fs) found
def roundsB (fs : List (Str × FileD)) (ks : List Str) : Nat → List Str → List Str
  | 0, f => f
  | n + 1, f => roundB fs ks (roundsB fs ks n f)
structure LowB (fs : List (Str × FileD)) (a : Str) (found : List Str) : Prop where
  nd : found.Nodup
  cl : ∀ x ∈ found, Rc fs a x
section
variable {fs : List (Str × FileD)} {a : Str} {found : List Str}
theorem LowB.look (rn : ∀ q, (rf fs q).Nodup) (I : LowB fs a found) (n : Str) : LowB fs a (lookB fs found n) := by
  refine ⟨?_, fun x hx => ?_⟩
  · unfold lookB
    rw [List.nodup_append]
    refine ⟨I.nd, (rn n).filter _, fun x hx y hy e => ?_⟩
    have := (List.mem_filter.mp hy).2
    rw [Bool.and_eq_true] at this
    subst e
    rw [decide_eq_true hx] at this
    cases this.2
  · rcases List.mem_append.mp hx with hx | hx
    · exact I.cl x hx
    · obtain ⟨h1, h2⟩ := List.mem_filter.mp hx
      rw [Bool.and_eq_true, decide_eq_true_eq] at h2
      exact .more (I.cl n h2.1) h1
theorem LowB.round (rn : ∀ q, (rf fs q).Nodup) : ∀ {ks found : List Str}, LowB fs a found → LowB fs a (roundB fs ks found)
  | [], _, I => I
  | k :: r, _, I => LowB.round rn (ks := r) (I.look rn k)
theorem lookB_len (x : Str) : found.length ≤ (lookB fs found x).length := by
  unfold lookB
  rw [List.length_append]
  omega
theorem lookB_sub {x y : Str} (h : y ∈ found) : y ∈ lookB fs found x := List.mem_append_left _ h
theorem roundB_len : ∀ {ks found : List Str}, found.length ≤ (roundB fs ks found).length
  | [], _ => Nat.le_refl _
  | k :: r, found => Nat.le_trans (lookB_len (fs := fs) k) (roundB_len (ks := r))
theorem roundB_sub {y : Str} : ∀ {ks found : List Str}, y ∈ found → y ∈ roundB fs ks found
  | [], _, h => h
  | k :: r, _, h => roundB_sub (ks := r) (lookB_sub h)
theorem roundB_closed : ∀ {ks found : List Str}, (roundB fs ks found).length = found.length → roundB fs ks found = found ∧ ∀ x ∈ ks, x ∈ found → ∀ h ∈ rf fs x, h ∈ found
  | [], found, _ => ⟨rfl, fun x h => by cases h⟩
  | k :: r, found, e => by
    have l1 := lookB_len (fs := fs) (found := found) k
    have l2 := roundB_len (fs := fs) (ks := r) (found := lookB fs found k)
    have e' : (roundB fs r (lookB fs found k)).length = found.length := e
    have e0 : (rf fs k).filter (fun b => decide (k ∈ found) && !decide (b ∈ found)) = [] := by
      have : (lookB fs found k).length = found.length := by omega
      unfold lookB at this
      rw [List.length_append] at this
      exact List.eq_nil_of_length_eq_zero (by omega)
    have ek : lookB fs found k = found := by
      unfold lookB
      rw [e0, List.append_nil]
    rw [ek] at e'
    obtain ⟨i1, i2⟩ := roundB_closed (ks := r) e'
    refine ⟨by show roundB fs r (lookB fs found k) = found; rw [ek]; exact i1, fun x hx hxf h hr => ?_⟩
    rcases List.mem_cons.mp hx with rfl | hx
    · apply Classical.byContradiction
      intro hn
      have : h ∈ (rf fs x).filter (fun b => decide (x ∈ found) && !decide (b ∈ found)) := List.mem_filter.mpr ⟨hr, by rw [decide_eq_true hxf, decide_eq_false hn]; rfl⟩
      rw [e0] at this
      cases this
    · exact i2 x hx hxf h hr
theorem roundsB_low (rn : ∀ q, (rf fs q).Nodup) (I : LowB fs a found) (ks : List Str) : ∀ n, LowB fs a (roundsB fs ks n found)
  | 0 => I
  | n + 1 => (roundsB_low rn I ks n).round rn
theorem roundsB_sub {y : Str} (h : y ∈ found) (ks : List Str) : ∀ n, y ∈ roundsB fs ks n found
  | 0 => h
  | n + 1 => roundB_sub (roundsB_sub h ks n)
theorem roundsB_grow (ks : List Str) : ∀ n, (∃ k, k < n ∧ (roundB fs ks (roundsB fs ks k found)).length = (roundsB fs ks k found).length) ∨ found.length + n ≤ (roundsB fs ks n found).length
  | 0 => .inr (Nat.le_refl _)
  | n + 1 => by
    rcases roundsB_grow ks n with ⟨k, hk, e⟩ | h
    · exact .inl ⟨k, by omega, e⟩
    · have := roundB_len (fs := fs) (ks := ks) (found := roundsB fs ks n found)
      rcases Nat.eq_or_lt_of_le this with e | e
      · exact .inl ⟨n, by omega, e.symm⟩
      · right
        show found.length + (n + 1) ≤ (roundB fs ks (roundsB fs ks n found)).length
        omega
theorem roundsB_stay (ks : List Str) {k : Nat} (e : roundB fs ks (roundsB fs ks k found) = roundsB fs ks k found) : ∀ n, k ≤ n → roundsB fs ks n found = roundsB fs ks k found
  | 0, h => by
    have : k = 0 := by omega
    rw [this]
  | n + 1, h => by
    rcases Nat.eq_or_lt_of_le h with z | z
    · rw [z]
    · show roundB fs ks (roundsB fs ks n found) = _
      rw [roundsB_stay ks e n (by omega)]
      exact e
end
theorem below_all {fs : List (Str × FileD)} (ok : FsOk fs) {a : Str} (x : Str) : x ∈ roundsB fs (fs.map (·.1)) (fs.map (·.1)).length (rf fs a) ↔ Rc fs a x := by
  have rn : ∀ q, (rf fs q).Nodup := fun q => by
    unfold rf
    cases e : lkF fs q with
    | none => exact List.nodup_nil
    | some f => exact ok.rnd q f e
  have I0 : LowB fs a (rf fs a) := ⟨rn a, fun x hx => .one hx⟩
  have I := roundsB_low rn I0 (fs.map (·.1)) (fs.map (·.1)).length
  have mem : ∀ {y}, Rc fs a y → y ∈ fs.map (·.1) := fun r => ok.two.rc_mem r
  have cl : ∀ y ∈ roundsB fs (fs.map (·.1)) (fs.map (·.1)).length (rf fs a), ∀ h ∈ rf fs y, h ∈ roundsB fs (fs.map (·.1)) (fs.map (·.1)).length (rf fs a) := by
    rcases roundsB_grow (fs := fs) (found := rf fs a) (fs.map (·.1)) (fs.map (·.1)).length with ⟨k, hk', e⟩ | h
    · obtain ⟨e1, e2⟩ := roundB_closed e
      have es := roundsB_stay (fs.map (·.1)) e1 (fs.map (·.1)).length (by omega)
      have I' := roundsB_low rn I0 (fs.map (·.1)) k
      rw [es]
      exact fun y hy h hh => e2 y (mem (I'.cl y hy)) hy h hh
    · have p := pigeon _ (fs.map (·.1)) I.nd fun y hy => mem (I.cl y hy)
      have n0 : rf fs a = [] := List.length_eq_zero_iff.mp (by omega)
      have none : ∀ y, ¬ Rc fs a y := fun y r => by
        induction r with
        | one h => rw [n0] at h; cases h
        | more _ _ ih => exact ih
      exact fun y hy => absurd (I.cl y hy) (none y)
  refine ⟨I.cl x, fun r => ?_⟩
  induction r with
  | one h => exact roundsB_sub h _ _
  | more _ h ih => exact cl _ ih _ h
theorem lkF_fsOf {l : PgL} (nd : (l.map (·.1)).Nodup) (n : Str) : lkF (fsOf l) n = (lkO l n).join := by
  induction l with
  | nil => rfl
  | cons p r ih =>
    obtain ⟨k, o⟩ := p
    rw [List.map_cons, List.nodup_cons] at nd
    have ih := ih nd.2
    by_cases e : k = .inr n
    · subst e
      have h1 : lkO ((.inr n, o) :: r) n = some o := lkX_hit
      rw [h1]
      cases o with
      | some f =>
        show lkF ((n, f) :: fsOf r) n = _
        rw [lkF_hit (fs := fsOf r)]
        rfl
      | none =>
        show lkF (fsOf r) n = none
        rw [ih, show lkO r n = none from lkX_mem.mpr nd.1]
        rfl
    · have h1 : lkO ((k, o) :: r) n = lkO r n := lkX_skip e
      rw [h1, ← ih]
      cases k with
      | inl i => cases o <;> rfl
      | inr m =>
        cases o with
        | none => rfl
        | some f => exact lkF_skip fun z => e (by rw [z])
theorem nodup_val {α β : Type} {l : List (α × β)} (nd : (l.map (·.1)).Nodup) {k : α} {a b : β} (h1 : (k, a) ∈ l) (h2 : (k, b) ∈ l) : a = b := by
  induction l with
  | nil => cases h1
  | cons p r ih =>
    rw [List.map_cons, List.nodup_cons] at nd
    rcases List.mem_cons.mp h1 with e1 | h1
    · rcases List.mem_cons.mp h2 with e2 | h2
      · rw [← e1] at e2
        exact (congrArg Prod.snd e2).symm
      · exact absurd (List.mem_map.mpr ⟨_, h2, by rw [← e1]⟩) nd.1
    · rcases List.mem_cons.mp h2 with e2 | h2
      · exact absurd (List.mem_map.mpr ⟨_, h1, by rw [← e2]⟩) nd.1
      · exact ih nd.2 h1 h2
def tellL : Option (Str × V) → List V
  | none => []
  | some (pt, nm) => [.str pt, nm]
theorem fsOk_of {j : Nat} {l : PgL} {ys : List Str} (L : LOk j l) (h0 : okKeys l = true) (hp : YsOf l ys) (n1 : ∀ n ∈ ys, lkO l n ≠ some none) (n2 : ∀ n ∈ ys, badRef (fsOf l) n = false) : FsOk (fsOf l) ∧ l = (fsOf l).map fun p => ((.inr p.1 : Key), some p.2) := by
  unfold okKeys at h0
  rw [Bool.and_eq_true, Bool.and_eq_true, decide_eq_true_eq, decide_eq_true_eq, List.all_eq_true] at h0
  have mem : ∀ n, n ∈ ys ↔ (Sum.inr n : Key) ∈ l.map (·.1) := fun n => by
    rw [← hp.1.mem_iff, List.mem_map]
    exact ⟨fun h => ⟨n, h, rfl⟩, fun ⟨m, h, e⟩ => Sum.inr.inj e ▸ h⟩
  have l3 : l = (fsOf l).map fun p => ((.inr p.1 : Key), some p.2) := by
    have key : ∀ (r : PgL), (∀ p ∈ r, isNameV (kV p.1) = true) → (∀ p ∈ r, p.2 ≠ none) → r = (fsOf r).map fun p => ((.inr p.1 : Key), some p.2) := by
      intro r h1 h2
      induction r with
      | nil => rfl
      | cons p r ih =>
        obtain ⟨k, o⟩ := p
        obtain ⟨n, rfl, _⟩ := kV_name (h1 (k, o) List.mem_cons_self)
        cases o with
        | none => exact absurd rfl (h2 _ List.mem_cons_self)
        | some f =>
          have e : fsOf ((.inr n, some f) :: r) = (n, f) :: fsOf r := by simp [fsOf]
          rw [e, List.map_cons, ← ih (fun p hp => h1 p (List.mem_cons_of_mem _ hp)) fun p hp => h2 p (List.mem_cons_of_mem _ hp)]
    refine key l h0.2 fun p hp e => ?_
    obtain ⟨k, o⟩ := p
    obtain ⟨n, rfl, _⟩ := kV_name (h0.2 (k, o) hp)
    have e : o = none := e
    subst e
    have hm : (Sum.inr n : Key) ∈ l.map (·.1) := List.mem_map.mpr ⟨_, hp, rfl⟩
    refine n1 n ((mem n).mpr hm) ?_
    cases h : lkO l n with
    | none => exact absurd hm (lkX_mem.mp h)
    | some o =>
      have h2 := lkX_in (k := .inr n) (l := l) (o := o) h
      have := nodup_val L.nd h2 hp
      rw [this]
  have ek : l.map (·.1) = (fsOf l).map (fun p => (.inr p.1 : Key)) := by
    have := congrArg (List.map (·.1)) l3
    rw [List.map_map] at this
    exact this
  have el : l.length = (fsOf l).length := by
    have := congrArg List.length ek
    simpa using this
  have key : ∀ n, n ∈ (fsOf l).map (·.1) ↔ n ∈ ys := fun n => by
    rw [mem, ek, List.mem_map, List.mem_map]
    exact ⟨fun ⟨p, h, e⟩ => ⟨p, h, by rw [e]⟩, fun ⟨p, h, e⟩ => ⟨p, h, Sum.inr.inj e⟩⟩
  refine ⟨⟨by omega, ?_, fun n hn => ?_, fun n f e m hm => ?_, fun n f e => ?_⟩, l3⟩
  · have nd := L.nd
    rw [ek] at nd
    exact List.pairwise_map.mpr ((List.pairwise_map.mp nd).imp fun h z => h (by rw [z]))
  · obtain ⟨p, hp, e⟩ := List.mem_map.mp ((mem n).mp ((key n).mp hn))
    obtain ⟨m, e', hm⟩ := kV_name (h0.2 p hp)
    rw [e] at e'
    cases e'
    exact hm
  · have hb := n2 n ((key n).mp (lkF_key.mpr ⟨f, e⟩))
    unfold badRef at hb
    rw [Bool.or_eq_false_iff] at hb
    have := hb.2
    rw [List.any_eq_false] at this
    have := this m (by rw [rf_of e]; exact hm)
    rw [lkF_key]
    cases e2 : lkF (fsOf l) m with
    | none => rw [e2] at this; exact absurd rfl this
    | some g => exact ⟨g, rfl⟩
  · have h := lkF_mem e
    have : ((Sum.inr n : Key), some f) ∈ l := by rw [l3]; exact List.mem_map.mpr ⟨_, h, rfl⟩
    exact (L.fok _ _ this).1.nd
theorem needErr_files {l : PgL} {ys : List Str} {n : Str} (h : ys.find? (fun n => (lkO l n == some none)) = some n) : needErr l ys = some (("files" : Str), V.str n) := by
  unfold needErr
  rw [h]
theorem needErr_refers {l : PgL} {ys : List Str} {n : Str} (h : ys.find? (fun n => (lkO l n == some none)) = none) (h2 : ys.find? (badRef (fsOf l)) = some n) : needErr l ys = some (("refers" : Str), V.str n) := by
  unfold needErr
  rw [h]
  simp only
  rw [h2]
theorem needErr_keeps {l : PgL} {ys : List Str} {n : Str} (h : ys.find? (fun n => (lkO l n == some none)) = none) (h2 : ys.find? (badRef (fsOf l)) = none) (h3 : ys.find? (badKeep (fsOf l) ys) = some n) : needErr l ys = some (("keeps" : Str), V.str n) := by
  unfold needErr
  rw [h]
  simp only
  rw [h2]
  simp only
  rw [h3]
theorem needErr_ring {l : PgL} {ys : List Str} {n : Str} (h : ys.find? (fun n => (lkO l n == some none)) = none) (h2 : ys.find? (badRef (fsOf l)) = none) (h3 : ys.find? (badKeep (fsOf l) ys) = none) (h4 : ys.find? (ringB (fsOf l)) = some n) : needErr l ys = some (("ring" : Str), V.str n) := by
  unfold needErr
  rw [h]
  simp only
  rw [h2]
  simp only
  rw [h3]
  simp only
  rw [h4]
theorem needErr_fine {l : PgL} {ys : List Str} (h : ys.find? (fun n => (lkO l n == some none)) = none) (h2 : ys.find? (badRef (fsOf l)) = none) (h3 : ys.find? (badKeep (fsOf l) ys) = none) (h4 : ys.find? (ringB (fsOf l)) = none) : needErr l ys = none := by
  unfold needErr
  rw [h]
  simp only
  rw [h2]
  simp only
  rw [h3]
  simp only
  rw [h4]
theorem keys_str {l : PgL} (h : okKeys l = true) : ∃ ns : List Str, l.map (·.1) = ns.map Sum.inr ∧ l.length ≤ 8 ∧ ns ≠ [] ∧ ∀ n ∈ ns, isNameS n = true := by
  unfold okKeys at h
  rw [Bool.and_eq_true, Bool.and_eq_true, decide_eq_true_eq, decide_eq_true_eq, List.all_eq_true] at h
  have key : ∀ (r : PgL), (∀ p ∈ r, isNameV (kV p.1) = true) → ∃ ns : List Str, r.map (·.1) = ns.map Sum.inr ∧ ∀ n ∈ ns, isNameS n = true := by
    intro r h1
    induction r with
    | nil => exact ⟨[], rfl, fun n h => by cases h⟩
    | cons p r ih =>
      obtain ⟨ns, e, h2⟩ := ih fun p hp => h1 p (List.mem_cons_of_mem _ hp)
      obtain ⟨n, e1, e2⟩ := kV_name (h1 p List.mem_cons_self)
      exact ⟨n :: ns, by rw [List.map_cons, List.map_cons, e, e1], fun m hm => (List.mem_cons.mp hm).elim (fun z => z ▸ e2) (h2 m)⟩
  obtain ⟨ns, e, h2⟩ := key l h.2
  refine ⟨ns, e, h.1.2, fun z => ?_, h2⟩
  rw [z] at e
  have := congrArg List.length e
  rw [List.length_map] at this
  have : l.length = 0 := this
  omega
theorem ys_key {l : PgL} {ys : List Str} (Y : YsOf l ys) (n : Str) : n ∈ ys ↔ (Sum.inr n : Key) ∈ l.map (·.1) := by
  rw [← Y.1.mem_iff, List.mem_map]
  exact ⟨fun h => ⟨n, h, rfl⟩, fun ⟨m, h, e⟩ => Sum.inr.inj e ▸ h⟩
/-- what is wrong with what a file refers to -/
def refP (l : PgL) (n b : Str) : Bool := decide (b = n) || (lkO l b).isNone
theorem refs_bad {j : Nat} {l : PgL} {ys : List Str} (L : LOk j l) (Y : YsOf l ys) (n1 : ∀ m ∈ ys, lkO l m ≠ some none) {n : Str} {f : FileD} (e : lkO l n = some (some f)) : (f.refers.filter (refP l n)).isEmpty = !badRef (fsOf l) n := by
  have el : lkF (fsOf l) n = some f := by rw [lkF_fsOf L.nd, e]; rfl
  have er : rf (fsOf l) n = f.refers := rf_of el
  have iso : ∀ b, (lkF (fsOf l) b).isNone = (lkO l b).isNone := fun b => by
    rw [lkF_fsOf L.nd]
    cases h : lkO l b with
    | none => rfl
    | some o =>
      cases o with
      | some g => rfl
      | none =>
        exact absurd h (n1 b ((ys_key Y b).mpr (Classical.byContradiction fun z => by
          have : lkO l b = none := lkX_mem.mpr z
          rw [this] at h
          cases h)))
  have h1 : badRef (fsOf l) n = f.refers.any (refP l n) := by
    unfold badRef
    rw [er, Bool.eq_iff_iff, Bool.or_eq_true, decide_eq_true_eq, List.any_eq_true, List.any_eq_true]
    unfold refP
    constructor
    · rintro (h | ⟨b, hb, h⟩)
      · exact ⟨n, h, by rw [decide_eq_true rfl]; rfl⟩
      · exact ⟨b, hb, by rw [← iso, h, Bool.or_true]⟩
    · rintro ⟨b, hb, h⟩
      rw [Bool.or_eq_true, decide_eq_true_eq] at h
      rcases h with h | h
      · exact .inl (h ▸ hb)
      · exact .inr ⟨b, hb, by rw [iso]; exact h⟩
  rw [h1]
  cases h : f.refers.any (refP l n) with
  | true =>
    obtain ⟨b, hb, hp⟩ := List.any_eq_true.mp h
    rw [List.isEmpty_eq_false_iff.mpr fun z => by have := List.mem_filter.mpr ⟨hb, hp⟩; rw [z] at this; cases this]
    rfl
  | false =>
    rw [List.any_eq_false] at h
    rw [List.filter_eq_nil_iff.mpr h]
    rfl
theorem keeps_bad {j : Nat} {l : PgL} (L : LOk j l) {n : Str} {f : FileD} (e : lkO l n = some (some f)) : keepsOf (fsOf l) n = f.keeps.length := by
  have el : lkF (fsOf l) n = some f := by rw [lkF_fsOf L.nd, e]; rfl
  unfold keepsOf
  rw [el]
/-- pages that are files -/
theorem pgs_files {K : PySem.W.Frag} {H : Hp} {kvs : List (Key × V)} {l : PgL} (h : PgsX K H kvs l) {fs : List (Str × FileD)} (e : l = fs.map fun p => ((.inr p.1 : Key), some p.2)) : PgsM K H kvs fs := by
  subst e
  induction fs generalizing kvs with
  | nil => cases h; exact .nil
  | cons p r ih =>
    cases h with
    | @cons q _ _ _ a b =>
      obtain ⟨qk, qv⟩ := q
      obtain ⟨e1, a⟩ := a
      cases (show qk = .inr p.1 from e1)
      exact .cons a (ih b)
def spBelow4 (K : PySem.W.Frag) : Sp := fun vs H Q _ => ∃ (d : Addr) (a : Str) (kvs : List (Key × V)) (fs : List (Str × FileD)), vs = [.ref d, .str a] ∧ H d = some (.dK kvs) ∧ PgsM K H kvs fs ∧ FsOk fs ∧ a ∈ fs.map (·.1) ∧ ∀ (p : Addr) (xs : List Str) H', Same H H' → H' p = some (.lst (xs.map V.str)) → (∀ x, x ∈ xs ↔ Rc fs a x) → Q (.ref p) H'
def spWrongFile (K : PySem.W.Frag) : Sp := fun vs H Q _ => ∃ (d : Addr) (kvs : List (Key × V)) (l : PgL) (j : Nat), vs = [.ref d] ∧ H d = some (.dK kvs) ∧ PgsX K H kvs l ∧ LOk j l ∧ j ≤ 2 ∧ okKeys l = true ∧ ∀ (p : Addr) (ys : List Str) H', Same H H' → YsOf l ys → H p = none → H' p = some (.lst (tellL (needErr l ys))) → Q (.ref p) H'
def spLawIsTreeG (K : PySem.W.Frag) : Sp := fun vs H Q _ => ∃ (d : Addr) (e : Str) (kvs : List (Key × V)) (fs : List (Str × FileD)), vs = [.ref d, .str e] ∧ H d = some (.dK kvs) ∧ PagesR K H kvs fs ∧ FsOk fs ∧ (∀ n, ¬ Rc fs n n) ∧ e ∈ fs.map (·.1) ∧ ∀ H', Same H H' → Q (.bl (!noTree fs e)) H'
end WP
namespace WP
open PySem L2 PySem.Spec PyProof.Rows LamX
def spWrong4 (K : PySem.W.Frag) : Sp := fun vs H Q _ => ∃ (pv : V) (k : Kd) (l : PgL) (j : Nat) (dv : V) (ke : Kd) (xe : List V) (cv : V) (kc : Kd), vs = [pv, dv, cv] ∧ PagesV K H pv k l ∧ LOk j l ∧ j ≤ 2 ∧ SeqV K H dv ke xe ∧ (ke.isTup = true → xe = []) ∧ xe.length < 64 ∧ Any K H cv kc ∧
  ∀ (p : Addr) (ys zs : List Str) H', Same H H' → H p = none → ((k.isDct && okKeys l) = true → YsOf l ys) → ((k.isDct && okKeys l) = true → needErr l ys = none → entOk (fsOf l) ke xe = true → ZsOf xe zs) → H' p = some (.lst (tellL (siteErr k l ys ke xe zs cv))) → Q (.ref p) H'
section
variable {k ke : Kd} {l : PgL} {ys zs : List Str} {xe : List V} {cv : V} {pt : Str} {nm : V}
theorem sE_files (h : (k.isDct && okKeys l) = false) : siteErr k l ys ke xe zs cv = some (("files" : Str), .non) := by
  unfold siteErr
  rw [if_pos h]
theorem sE_need (h : (k.isDct && okKeys l) = true) (e : needErr l ys = some (pt, nm)) : siteErr k l ys ke xe zs cv = some (pt, nm) := by
  unfold siteErr
  rw [if_neg (by rw [h]; decide), e]
theorem sE_ent (h : (k.isDct && okKeys l) = true) (e : needErr l ys = none) (e2 : entOk (fsOf l) ke xe = false) : siteErr k l ys ke xe zs cv = some (("entries" : Str), .non) := by
  unfold siteErr
  rw [if_neg (by rw [h]; decide), e]
  simp only
  rw [if_pos e2]
theorem sE_way {z : Str} (h : (k.isDct && okKeys l) = true) (e : needErr l ys = none) (e2 : entOk (fsOf l) ke xe = true) (e3 : zs.find? (noTree (fsOf l)) = some z) : siteErr k l ys ke xe zs cv = some (("ways" : Str), .str z) := by
  unfold siteErr
  rw [if_neg (by rw [h]; decide), e]
  simp only
  rw [if_neg (by rw [e2]; decide), e3]
theorem sE_end (h : (k.isDct && okKeys l) = true) (e : needErr l ys = none) (e2 : entOk (fsOf l) ke xe = true) (e3 : zs.find? (noTree (fsOf l)) = none) : siteErr k l ys ke xe zs cv = if okCount cv = false then some (("counts" : Str), .non) else none := by
  unfold siteErr
  rw [if_neg (by rw [h]; decide), e]
  simp only
  rw [if_neg (by rw [e2]; decide), e3]
end
theorem keysN_bad {k : Kd} {l : PgL} (h : keysN l = false) : (k.isDct && okKeys l) = false := by
  unfold okKeys keysN at *
  rw [h, Bool.and_false, Bool.and_false]
/-- the first of a list of entries that is wrong -/
def entP (fs : List (Str × FileD)) (xs : List V) (i : Nat) (x : V) : Bool := isNameV x && plainF fs x && !inV x (xs.take i)
theorem ent_all {fs : List (Str × FileD)} {k : Kd} {xs : List V} (hk : k.isLst || k.isTup) (hne : xs ≠ []) (h : ∀ i x, xs[i]? = some x → entP fs xs i x = true) : entOk fs k xs = true := by
  have h1 : ∀ x ∈ xs, isNameV x = true ∧ plainF fs x = true := fun x hx => by
    obtain ⟨i, hi⟩ := List.mem_iff_getElem?.mp hx
    have := h i x hi
    unfold entP at this
    rw [Bool.and_eq_true, Bool.and_eq_true] at this
    exact this.1
  obtain ⟨ns, rfl, hn⟩ := names_str (xs := xs) (List.all_eq_true.mpr fun x hx => (h1 x hx).1)
  have nd : ns.Nodup := by
    refine List.pairwise_iff_getElem.mpr fun i j hil hjl hij e => ?_
    have hi := List.getElem?_eq_getElem hjl
    have := h j (.str ns[j]) (by rw [List.getElem?_map, hi]; rfl)
    unfold entP at this
    rw [Bool.and_eq_true, ← List.map_take, inV_str, Bool.not_eq_true', decide_eq_false_iff_not] at this
    refine this.2 (List.mem_iff_getElem?.mpr ⟨i, ?_⟩)
    rw [List.getElem?_take_of_lt hij, List.getElem?_eq_getElem hil, e]
  unfold entOk areNamesL
  rw [hk, Bool.true_and, Bool.and_eq_true, Bool.and_eq_true, Bool.and_eq_true, decide_eq_true_eq]
  refine ⟨⟨⟨List.all_eq_true.mpr fun x hx => (h1 x hx).1, (nodup_strs ns).mpr nd⟩, ?_⟩, List.all_eq_true.mpr fun x hx => (h1 x hx).2⟩
  cases ns with
  | nil => exact absurd rfl hne
  | cons a r => rfl
theorem ent_bad {fs : List (Str × FileD)} {k : Kd} {xs : List V} {i : Nat} {x : V} (hx : xs[i]? = some x) (h : entP fs xs i x = false) : entOk fs k xs = false := by
  rw [Bool.eq_false_iff]
  intro hz
  unfold entOk areNamesL at hz
  rw [Bool.and_eq_true, Bool.and_eq_true, Bool.and_eq_true, Bool.and_eq_true, decide_eq_true_eq] at hz
  obtain ⟨⟨⟨_, h1, h2⟩, _⟩, h3⟩ := hz
  have hm := List.mem_of_getElem? hx
  have n1 := List.all_eq_true.mp h1 x hm
  have p1 := List.all_eq_true.mp h3 x hm
  unfold entP at h
  rw [n1, p1, Bool.true_and, Bool.true_and, Bool.not_eq_false'] at h
  obtain ⟨ns, rfl, hn⟩ := names_str h1
  have nd := (nodup_strs ns).mp h2
  rw [List.getElem?_map] at hx
  obtain ⟨n, hn', rfl⟩ := Option.map_eq_some_iff.mp hx
  rw [← List.map_take, inV_str, decide_eq_true_eq] at h
  obtain ⟨j, hj⟩ := List.mem_iff_getElem?.mp h
  have hji : j < i := by
    have := (List.getElem?_eq_some_iff.mp hj).1
    rw [List.length_take] at this
    omega
  rw [List.getElem?_take_of_lt hji] at hj
  obtain ⟨h5, h6⟩ := List.getElem?_eq_some_iff.mp hj
  obtain ⟨h7, h8⟩ := List.getElem?_eq_some_iff.mp hn'
  exact List.pairwise_iff_getElem.mp nd j i h5 h7 hji (h6.trans h8.symm)
theorem ixE_use {K : PySem.W.Frag} {H : Hp} {a : Addr} {xs : List V} {i : Int} {x : V} {Q : VK} (hq : SqL K H a xs ∨ SqT K H a xs) (h : atI xs i = some x) (q : Q x H) : rIxL K (.ref a) (.int i) H Q ∨ rIxT K (.ref a) (.int i) H Q :=
  hq.imp (fun z => ⟨a, xs, i, x, rfl, rfl, z, h, q⟩) (fun z => ⟨a, xs, i, x, rfl, rfl, z, h, q⟩)
theorem plainF_none {fs : List (Str × FileD)} {z : Str} (h : lkF fs z = none) : plainF fs (.str z) = false := by
  show (match lkF fs z with | some f => !f.own | none => false) = false
  rw [h]
theorem plainF_some {fs : List (Str × FileD)} {z : Str} {g : FileD} (h : lkF fs z = some g) : plainF fs (.str z) = !g.own := by
  show (match lkF fs z with | some f => !f.own | none => false) = !g.own
  rw [h]
theorem ent_flat {fs : List (Str × FileD)} {xs : List V} {i : Nat} (ps : ∀ j x, j < i → xs[j]? = some x → entP fs xs j x = true) : (xs.take i).all flatV = true := by
  refine List.all_eq_true.mpr fun x hx => ?_
  obtain ⟨j, hj⟩ := List.mem_iff_getElem?.mp hx
  have hji : j < i := by
    have := (List.getElem?_eq_some_iff.mp hj).1
    rw [List.length_take] at this
    omega
  rw [List.getElem?_take_of_lt hji] at hj
  have := ps j x hji hj
  unfold entP at this
  rw [Bool.and_eq_true, Bool.and_eq_true] at this
  cases x with
  | str z => rfl
  | _ => cases this.1.1
theorem putK_last {kw : List (Key × V)} {k : Key} {x y : V} (h : k ∉ kw.map (·.1)) : putK (kw ++ [(k, x)]) k y = kw ++ [(k, y)] := by
  unfold putK
  rw [if_pos (by rw [List.any_append, List.any_cons, decide_eq_true rfl, Bool.true_or, Bool.or_true]), List.map_append]
  congr 1
  · have key : ∀ r : List (Key × V), (∀ p ∈ r, p.1 ≠ k) → r.map (fun kv => if kv.1 = k then (kv.1, y) else kv) = r := by
      intro r h
      induction r with
      | nil => rfl
      | cons p r ih => rw [List.map_cons, if_neg (h p List.mem_cons_self), ih fun q hq => h q (List.mem_cons_of_mem _ hq)]
    exact key kw fun p hp e => h (e ▸ List.mem_map.mpr ⟨p, hp, rfl⟩)
  · rw [List.map_cons, if_pos rfl]
    rfl
theorem take_notK {α : Type} {l : List α} (nd : l.Nodup) {i : Nat} {x : α} (h : l[i]? = some x) : x ∉ l.take i := fun z => by
  obtain ⟨j, hj⟩ := List.mem_iff_getElem?.mp z
  have hji : j < i := by
    have := (List.getElem?_eq_some_iff.mp hj).1
    rw [List.length_take] at this
    omega
  rw [List.getElem?_take_of_lt hji] at hj
  obtain ⟨h5, h6⟩ := List.getElem?_eq_some_iff.mp hj
  obtain ⟨h7, h8⟩ := List.getElem?_eq_some_iff.mp h
  exact List.pairwise_iff_getElem.mp nd j i h5 h7 hji (h6.trans h8.symm)
theorem sqT_holeD {K : PySem.W.Frag} {H : Hp} {a p : Addr} {xs : List V} {kv : List (Key × V)} (h : SqT K H a xs) (hp : H p = some (.dK kv)) : SqT K (del H p) a xs := by
  rcases h with (h | ⟨b, h⟩) | h
  · exact .inl (.inl (by rw [del_ne (fun e => by rw [e, hp] at h; cases h)]; exact h))
  · exact .inl (.inr ⟨b, by rw [del_ne (fun e => by rw [e, hp] at h; cases h)]; exact h⟩)
  · exact .inr h
theorem fileAt_holeD {K : PySem.W.Frag} {CF p : Addr} {H : Hp} {v : V} {f : FileD} {kv : List (Key × V)} (h : FileAt K CF H v f) (hp : H p = some (.dK kv)) : FileAt K CF (del H p) v f := by
  obtain ⟨a, dx, t1, t2, e, h1, h2, h3⟩ := h
  exact ⟨a, dx, t1, t2, e, by rw [del_ne (fun e => by rw [e, hp] at h1; cases h1)]; exact h1, sqT_holeD h2 hp, sqT_holeD h3 hp⟩
/-- what is handed on: files, or the text "no file" -/
abbrev HvR (K : PySem.W.Frag) (CF : Addr) (H : Hp) (kw : List (Key × V)) (l : PgL) : Prop := All2 (fun (p : Key × V) (q : Key × Option FileD) => p.1 = q.1 ∧ match q.2 with | some f => FileAt K CF H p.2 f ∧ FileOk f | none => p.2 = .str "no file") kw l
section
variable {K : PySem.W.Frag} {CF : Addr} {H H' : Hp} {kw : List (Key × V)} {l : PgL}
theorem hv_same (h : HvR K CF H kw l) (s : Same H H') : HvR K CF H' kw l := All2.imp h fun p q h => ⟨h.1, by
  obtain ⟨qk, o⟩ := q
  cases o with
  | none => exact h.2
  | some f => exact ⟨h.2.1.same s, h.2.2⟩⟩
theorem hv_keys (h : HvR K CF H kw l) : kw.map (·.1) = l.map (·.1) := by
  induction h with
  | nil => rfl
  | cons h _ ih => rw [List.map_cons, List.map_cons, ih, h.1]
theorem hv_vals (h : HvR K CF H kw l) (kF : PySem.W.kitOne K (.type "str") (.ref CF) = some false) : FVals K CF H kw l := by
  induction h with
  | nil => exact .nil
  | @cons p q ps qs h _ ih =>
    obtain ⟨pk, pw⟩ := p
    obtain ⟨qk, o⟩ := q
    obtain ⟨e, h⟩ := h
    cases (show pk = qk from e)
    cases o with
    | none =>
      cases (show pw = .str "no file" from h)
      exact .other (.str _) kF ih
    | some f => exact .file h.1 h.2 ih
theorem hv_unlk {d : Addr} {od : Obj} {kv : List (Key × V)} {o : HO} (h : HvR K CF H kw l) (hd : H d = some (.frz od (.dK kv))) : HvR K CF (upd H d o) kw l := All2.imp h fun p q h => ⟨h.1, by
  obtain ⟨qk, w⟩ := q
  cases w with
  | none => exact h.2
  | some f => exact ⟨FileAt.unlk h.2.1 hd, h.2.2⟩⟩
end
end WP
namespace WP
open PySem L2 PySem.Spec PyProof.Rows LamX
theorem rep_le : ∀ (n : Nat) (l : List Nat), l.length ≤ n → (∀ c ∈ l, c ≤ 122) → l ≤ List.replicate n 122
  | 0, l, h, _ => by
    have : l = [] := List.eq_nil_of_length_eq_zero (by omega)
    subst this
    exact List.le_refl _
  | n + 1, [], _, _ => List.nil_le _
  | n + 1, a :: r, h, hc => by
    rw [List.replicate_succ, List.cons_le_cons_iff]
    have ha := hc a List.mem_cons_self
    rcases Nat.lt_or_eq_of_le ha with z | z
    · exact .inl z
    · exact .inr ⟨z, rep_le n r (by rw [List.length_cons] at h; omega) fun c hc' => hc c (List.mem_cons_of_mem _ hc')⟩
theorem name_le {x : Str} (h : isNameS x = true) : leS x "zzzzzzzz" := by
  have e : ("zzzzzzzz" : Str).cps.toList = List.replicate 8 122 := by decide +kernel
  have al : ∀ c ∈ alphabet.cps.toList, c ≤ 122 := by decide +kernel
  unfold leS
  rw [e]
  refine rep_le 8 _ ?_ fun c hc => ?_
  · have := (name_ok h).2.1
    exact this
  · unfold isNameS at h
    rw [Bool.and_eq_true, List.all_eq_true] at h
    exact al c (by simpa using h.2 c hc)
theorem fok_refs {f : FileD} (ok : FileOk f) {o : Str} (ho : isNameS o = true) (n : o ∉ f.refers) (l : f.refers.length ≤ 10) {ys : List Str} (p : ys.Perm (f.refers ++ [o])) (so : sortedS ys = true) : FileOk ⟨f.own, ys, f.hold, f.keeps⟩ := by
  refine ⟨p.nodup_iff.mpr (List.nodup_append.mpr ⟨ok.nd, by simp, fun a ha b hb e => n (by rw [← List.mem_singleton.mp hb, ← e]; exact ha)⟩), fun x hx => ?_, so, ok.kp, ?_, ok.hd, ok.kt⟩
  · rcases List.mem_append.mp (p.mem_iff.mp hx) with h | h
    · exact ok.nam x h
    · rw [List.mem_singleton.mp h]; exact ho
  · show ys.length < 64
    rw [p.length_eq, List.length_append]
    show f.refers.length + 1 < 64
    omega
def z8 : Str := "zzzzzzzz"
theorem fok_z {f : FileD} (ok : FileOk f) (l : f.refers.length ≤ 10) : FileOk ⟨f.own, f.refers.filter (fun b => !decide (b = z8)) ++ [z8], f.hold, f.keeps⟩ := by
  have zn : isNameS z8 = true := by decide +kernel
  refine ⟨List.nodup_append.mpr ⟨ok.nd.filter _, by simp, fun a ha b hb e => ?_⟩, fun x hx => ?_, ?_, ok.kp, ?_, ok.hd, ok.kt⟩
  · have := (List.mem_filter.mp ha).2
    rw [List.mem_singleton] at hb
    rw [e, hb, decide_eq_true rfl] at this
    cases this
  · rcases List.mem_append.mp hx with h | h
    · exact ok.nam x (List.mem_filter.mp h).1
    · rw [List.mem_singleton.mp h]; exact zn
  · refine sorted_of (List.pairwise_append.mpr ⟨(sorted_pw ok.so).filter _, by simp, fun a ha b hb => ?_⟩)
    rw [List.mem_singleton.mp hb]
    exact name_le (ok.nam a (List.mem_filter.mp ha).1)
  · show (f.refers.filter _ ++ [z8]).length < 64
    have := List.length_filter_le (fun b => !decide (b = z8)) f.refers
    rw [List.length_append]
    show _ + 1 < 64
    omega
theorem fok_keeps {f : FileD} (ok : FileOk f) {ks : List (Option Int)} (l : ks.length ≤ 4) (h : ∀ k ∈ ks, isTicksV (optI k) = true) : FileOk ⟨f.own, f.refers, f.hold, ks⟩ := ⟨ok.nd, ok.nam, ok.so, l, ok.fw, ok.hd, h⟩
/-- an entry of pages put -/
def putL (l : PgL) (k : Key) (o : Option FileD) : PgL := if (l.any fun p => decide (p.1 = k)) = true then l.map (fun p => if p.1 = k then (p.1, o) else p) else l ++ [(k, o)]
structure LG (m r : Nat) (l : PgL) : Prop where
  nd : (l.map (·.1)).Nodup
  few : l.length ≤ m
  fok : ∀ k f, (k, some f) ∈ l → FileOk f ∧ f.refers.length ≤ r
  kl : ∀ n : Str, (Sum.inr n : Key) ∈ l.map (·.1) → n.length ≤ 9
theorem LOk.lg {j : Nat} {l : PgL} (L : LOk j l) : LG (8 + 9 * j) (8 + j) l := ⟨L.nd, L.few, L.fok, L.kl⟩
theorem LG.ok {j m r : Nat} {l : PgL} (L : LG m r l) (h1 : m ≤ 8 + 9 * j) (h2 : r ≤ 8 + j) : LOk j l := ⟨L.nd, Nat.le_trans L.few h1, fun k f h => ⟨(L.fok k f h).1, Nat.le_trans (L.fok k f h).2 h2⟩, L.kl⟩
theorem LG.mono {m r m' r' : Nat} {l : PgL} (L : LG m r l) (h1 : m ≤ m') (h2 : r ≤ r') : LG m' r' l := ⟨L.nd, Nat.le_trans L.few h1, fun k f h => ⟨(L.fok k f h).1, Nat.le_trans (L.fok k f h).2 h2⟩, L.kl⟩
theorem putL_keys {l : PgL} {k : Key} {o : Option FileD} : (putL l k o).map (·.1) = if (l.any fun p => decide (p.1 = k)) = true then l.map (·.1) else l.map (·.1) ++ [k] := by
  unfold putL
  split
  · rw [List.map_map]
    refine List.map_congr_left fun p hp => ?_
    show (if p.1 = k then (p.1, o) else p).1 = p.1
    split <;> rfl
  · rw [List.map_append]
    rfl
theorem any_key {l : PgL} {k : Key} : (l.any fun p => decide (p.1 = k)) = true ↔ k ∈ l.map (·.1) := by
  rw [List.any_eq_true, List.mem_map]
  exact ⟨fun ⟨p, h1, h2⟩ => ⟨p, h1, of_decide_eq_true h2⟩, fun ⟨p, h1, h2⟩ => ⟨p, h1, decide_eq_true h2⟩⟩
theorem LG.put {m r : Nat} {l : PgL} (L : LG m r l) {k : Key} {o : Option FileD} (hk : ∀ n : Str, k = .inr n → n.length ≤ 9) (ho : ∀ f, o = some f → FileOk f ∧ f.refers.length ≤ r) : LG (m + 1) r (putL l k o) := by
  have len : (putL l k o).length ≤ m + 1 := by
    have := L.few
    unfold putL
    split
    · rw [List.length_map]; omega
    · rw [List.length_append]; show l.length + 1 ≤ _; omega
  refine ⟨?_, len, fun k' f h => ?_, fun n hn => ?_⟩
  · rw [putL_keys]
    split
    · exact L.nd
    · rename_i h
      refine List.nodup_append.mpr ⟨L.nd, by simp, fun a ha b hb e => h (any_key.mpr ?_)⟩
      rw [List.mem_singleton] at hb
      rw [← hb, ← e]
      exact ha
  · unfold putL at h
    split at h
    · obtain ⟨p, hp, e⟩ := List.mem_map.mp h
      split at e
      · cases e
        exact ho f rfl
      · rw [e] at hp
        exact L.fok k' f hp
    · rcases List.mem_append.mp h with h | h
      · exact L.fok k' f h
      · cases List.mem_singleton.mp h
        exact ho f rfl
  · rw [putL_keys] at hn
    split at hn
    · exact L.kl n hn
    · rcases List.mem_append.mp hn with h | h
      · exact L.kl n h
      · exact hk n (List.mem_singleton.mp h).symm
theorem pgs_any {K : PySem.W.Frag} {H : Hp} {kvs : List (Key × V)} {l : PgL} (h : PgsX K H kvs l) (k : Key) : (kvs.any fun p => decide (p.1 = k)) = l.any fun p => decide (p.1 = k) := by
  induction h with
  | nil => rfl
  | cons h _ ih => rw [List.any_cons, List.any_cons, ih, h.1]
theorem pgs_put {K : PySem.W.Frag} {H : Hp} {kvs : List (Key × V)} {l : PgL} (h : PgsX K H kvs l) {k : Key} {v : V} {o : Option FileD} (hv : PgO K H v o) : PgsX K H (putK kvs k v) (putL l k o) := by
  unfold putK putL
  rw [pgs_any h k]
  split
  · have key : ∀ {kvs : List (Key × V)} {l : PgL}, PgsX K H kvs l → PgsX K H (kvs.map fun kv => if kv.1 = k then (kv.1, v) else kv) (l.map fun p => if p.1 = k then (p.1, o) else p) := by
      intro kvs l h
      induction h with
      | nil => exact .nil
      | @cons p q ps qs h _ ih =>
        obtain ⟨pk, pw⟩ := p
        obtain ⟨qk, qo⟩ := q
        obtain ⟨e, h⟩ := h
        cases (show pk = qk from e)
        rw [List.map_cons, List.map_cons]
        refine .cons ?_ ih
        by_cases z : pk = k
        · rw [if_pos z, if_pos z]
          exact ⟨rfl, hv⟩
        · rw [if_neg z, if_neg z]
          exact ⟨rfl, h⟩
    exact key h
  · exact All2.snoc h ⟨rfl, hv⟩
theorem keysN_str {l : PgL} (h : keysN l = true) : ∃ ns : List Str, l.map (·.1) = ns.map Sum.inr ∧ ∀ n ∈ ns, isNameS n = true := by
  unfold keysN at h
  rw [List.all_eq_true] at h
  induction l with
  | nil => exact ⟨[], rfl, fun n h => by cases h⟩
  | cons p r ih =>
    obtain ⟨ns, e, h2⟩ := ih fun p hp => h p (List.mem_cons_of_mem _ hp)
    obtain ⟨n, e1, e2⟩ := kV_name (h p List.mem_cons_self)
    exact ⟨n :: ns, by rw [List.map_cons, List.map_cons, e, e1], fun m hm => (List.mem_cons.mp hm).elim (fun z => z ▸ e2) (h2 m)⟩
theorem pages_put {K : PySem.W.Frag} {d w c M : Addr} {B : Int} {H H' : Hp} {kv : List (Key × V)} {l : PgL} {k : Key} {v : V} {o : Option FileD} (zM : hd2 d w H M = none) (Md : M ≠ d) (Mw : M ≠ w) (Mc : M ≠ c) (X : Ds d w c B H H') (b : hd2 d w H' M = some (.dK kv)) (p : PgsX K (hd2 d w H') kv l) (hv : PgO K (hd2 d w H') v o) :
    Ds d w c B H (upd H' M (.dK (putK kv k v))) ∧ hd2 d w (upd H' M (.dK (putK kv k v))) M = some (.dK (putK kv k v)) ∧ PgsX K (hd2 d w (upd H' M (.dK (putK kv k v)))) (putK kv k v) (putL l k o) := by
  refine ⟨X.put zM Md Mw Mc, hd2_mk upd_same Md Mw, ?_⟩
  rw [hd2_upd Md Mw]
  exact pgs_putD (pgs_put p hv) b
/-- what the law's tests of pages leave -/
def BentP (K : PySem.W.Frag) (d w c M : Addr) (B : Int) (j : Nat) (H : Hp) (H' : Hp) : Prop := Ds d w c B H H' ∧ ∃ kv l, hd2 d w H' M = some (.dK kv) ∧ PgsX K (hd2 d w H') kv l ∧ LOk (j + 1) l
theorem decS (a b : Str) : decide (V.str a = V.str b) = decide (a = b) := by
  rw [Bool.eq_iff_iff, decide_eq_true_eq, decide_eq_true_eq]
  exact ⟨V.str.inj, congrArg V.str⟩
def spBentF (K : PySem.W.Frag) : Sp := fun vs H Q _ => ∃ (d w c pd : Addr) (B : Int) (kvs : List (Key × V)) (l : PgL) (j : Nat), vs = [.ref d, .ref pd] ∧ Dr d w c B H ∧ B ≤ 2 ^ 37 ∧ hd2 d w H pd = some (.dK kvs) ∧ PgsX K (hd2 d w H) kvs l ∧ LOk j l ∧ j ≤ 1 ∧ keysN l = true ∧ l ≠ [] ∧
  ∀ (v : V) (k : Kd) (l' : PgL) H', PagesV K (hd2 d w H') v k l' → LOk (j + 1) l' → Ds d w c (B + 8) H H' → Q v H'
/-- entries with things otherwise -/
structure DoorE (n : Nat) (e : PyData) : Prop where
  rg : Rg e 5 20000
  st : ∀ z, e = .str z → z.length ≤ 100
  it : ∀ fs, e = .list fs → fs.length ≤ n ∧ ∀ f ∈ fs, Rg f 4 200 ∧ ∀ z, f = .str z → z.length ≤ 100
  tp : ∀ fs, e = .tuple fs → fs = []
theorem DoorE.list {n : Nat} {fs : List PyData} (l : fs.length ≤ n) (hn : n ≤ 40) (h : ∀ f ∈ fs, Rg f 4 200 ∧ ∀ z, f = .str z → z.length ≤ 100) : DoorE n (.list fs) :=
  ⟨(Rg.list (fun d hd => (h d hd).1) (Nat.le_trans l hn)).mono (by omega) (by omega), fun z e => (by cases e), fun fs' e => by cases e; exact ⟨l, h⟩, fun fs' e => by cases e⟩
theorem DoorE.seqv {K : PySem.W.Frag} {H : Hp} {v : V} {e : PyData} {n : Nat} (b : DoorE n e) (hn : n ≤ 40) (h : Vd H v e) : ∃ xs, SeqV K H v (kdD e) xs ∧ xs.length < 64 ∧ ((kdD e).isTup = true → xs = []) := by
  cases h with
  | @lst a vs ds ha hl =>
    obtain ⟨b1, b2⟩ := b.it ds rfl
    have ll := hl.len
    refine ⟨vs, ⟨.lst ha, fun _ => ⟨a, rfl, .inl (SqL.of ha), by omega, fun y hy => ?_⟩⟩, by omega, fun z => by cases z⟩
    obtain ⟨j, hj⟩ := List.getElem?_of_mem hy
    obtain ⟨d, h1, h2⟩ := hl.at hj
    exact h2.anyN fun z e => Nat.le_trans ((b2 d (List.mem_of_getElem? h1)).2 z e) (by decide)
  | @tup a vs ds ha hl =>
    have := b.tp ds rfl
    subst this
    cases hl
    exact ⟨[], ⟨.tup ha, fun _ => ⟨a, rfl, .inr (SqT.of ha), by show 0 ≤ 1000; omega, fun y hy => by cases hy⟩⟩, by decide, fun _ => rfl⟩
  | non => exact ⟨[], ⟨.non, fun z => by cases z⟩, by decide, fun z => by cases z⟩
  | bl b' => exact ⟨[], ⟨.bl b', fun z => by cases z⟩, by decide, fun z => by cases z⟩
  | int i => exact ⟨[], ⟨.int i, fun z => by cases z⟩, by decide, fun z => by cases z⟩
  | str x => exact ⟨[], ⟨.str x, fun z => by cases z⟩, by decide, fun z => by cases z⟩
  | dct h _ _ => exact ⟨[], ⟨.dct h, fun z => by cases z⟩, by decide, fun z => by cases z⟩
def spBentD : Sp := fun vs H Q _ => ∃ (d w c pd L : Addr) (B : Int) (kvs : List (Key × V)) (ns : List Str) (es : List PyData) (n : Nat), vs = [.ref d, .ref pd, .ref L] ∧ Dr d w c B H ∧ B ≤ 2 ^ 37 ∧ hd2 d w H pd = some (.dK kvs) ∧ kvs.map (·.1) = ns.map Sum.inr ∧ ns ≠ [] ∧ ns.length ≤ 8 ∧ (∀ n ∈ ns, isNameS n = true) ∧ Vd (hd2 d w H) (.ref L) (.list es) ∧ DoorE n (.list es) ∧ n ≤ 10 ∧
  ∀ (v : V) (e : PyData) H', Vd (hd2 d w H') v e → DoorE (n + 1) e → Ds d w c (B + 8) H H' → Q v H'
def oddE (n : Str) : List PyData := [.none, .int 5, .dict [], .str "entries", .list [], .tuple [], .str n, .dict [(.str n, .int 1)]]
theorem oddE_ok {n : Str} {k : Nat} (hn : isNameS n = true) : ∀ e ∈ oddE n, DoorE k e := by
  have no := name_ok hn
  have small : ∀ e : PyData, shOk e = true → Rg e 5 20000 := fun e h => (shOk.rg h).mono (by omega) (by omega)
  intro e he
  unfold oddE at he
  simp only [List.mem_cons, List.not_mem_nil, or_false] at he
  rcases he with rfl | rfl | rfl | rfl | rfl | rfl | rfl | rfl
  · exact ⟨small _ (by decide +kernel), fun z e => (by cases e), fun fs e => (by cases e), fun fs e => by cases e⟩
  · exact ⟨small _ (by decide +kernel), fun z e => (by cases e), fun fs e => (by cases e), fun fs e => by cases e⟩
  · exact ⟨small _ (by decide +kernel), fun z e => (by cases e), fun fs e => (by cases e), fun fs e => by cases e⟩
  · exact ⟨small _ (by decide +kernel), fun z e => (by cases e; decide), fun fs e => (by cases e), fun fs e => by cases e⟩
  · exact ⟨small _ (by decide +kernel), fun z e => (by cases e), fun fs e => (by cases e; exact ⟨Nat.zero_le _, fun f h => by cases h⟩), fun fs e => by cases e⟩
  · exact ⟨small _ (by decide +kernel), fun z e => (by cases e), fun fs e => (by cases e), fun fs e => by cases e; rfl⟩
  · exact ⟨((rp_str (n := 8) no.2.2 no.2.1).rg).mono (by omega) (by omega), fun z e => (by cases e; exact Nat.le_trans no.2.1 (by decide)), fun fs e => (by cases e), fun fs e => by cases e⟩
  · refine ⟨(Rg.dict (dep := 0) (len := 82) (n := 1) (fun p hp => ?_) (fun p hp => ?_) (Nat.le_refl _)).mono (by omega) (by omega), fun z e => (by cases e), fun fs e => (by cases e), fun fs e => by cases e⟩
    · rw [List.mem_singleton.mp hp]
      exact ((rp_str (n := 8) no.2.2 no.2.1).mono (by omega) (by omega)).rg
    · rw [List.mem_singleton.mp hp]
      exact (⟨by decide +kernel, by decide +kernel, by decide +kernel⟩ : Rg (.int 1) 0 82)
end WP
namespace WP
open PySem L2 PySem.Spec PyProof.Rows LamX
def spSiteT (K : PySem.W.Frag) (CS CF CE : Addr) : Sp := fun vs H Q E => ∃ (x dx : Addr) (vf : V) (kf : Kd) (l : List (Key × Option FileD)) (ve : V) (ke : Kd) (xe : List V) (vc : V) (kc : Kd), vs = [.ref x, vf, ve, vc] ∧ H x = some (.ins CS dx []) ∧ FilesV K CF H vf kf l ∧ SeqV K H ve ke xe ∧ Any K H vc kc ∧ xe.length < 64 ∧
  (∀ ys zs, ((kf.isDct && okKeys l) = true → YsOf l ys) → ((kf.isDct && okKeys l) = true → needErr l ys = none → entOk (fsOf l) ke xe = true → ZsOf xe zs) → ∀ pt nm, siteErr kf l ys ke xe zs vc = some (pt, nm) → ErrW CE H E pt nm) ∧
  (∀ ys zs H', YsOf l ys → ZsOf xe zs → (kf.isDct && okKeys l) = true → siteErr kf l ys ke xe zs vc = none → SameX x H H' → Q .non H')
structure SiteMkT (P : Program) (w : World) (K : PySem.W.Frag) (mg : Str → Option Value) (base : Heap) (CS CF CE : Addr) : Prop where
  mgC : mg "Site" = some (.ref CS)
  made : ∃ f fd, L2.Mk K CS f ∧ FnOk P w K mg base (L2.CX P w) 5 f fd psSite (spSiteT K CS CF CE) ∧ ∀ j, j ≤ 1 → ∃ ds, Vals ([V.str "own"].drop j) ds ∧ L2.Binds K fd psSite ds
structure SiteMkTK (P : Program) (w : World) (K : PySem.W.Frag) (mg : Str → Option Value) (base : Heap) (CS CF CE : Addr) : Prop where
  mgC : mg "Site" = some (.ref CS)
  made : ∃ f fd g, L2.Mk K CS f ∧ FnOk P w K mg base (L2.CX P w) 5 f fd psSite (spSiteT K CS CF CE) ∧ KBn K fd psSite 1 (["counts", "entries", "files"] : List Str) g (fun us zs => us ++ flipG zs)
theorem mk_SiteT {X : Cx} {P : Program} {w : World} {K : PySem.W.Frag} {mg : Str → Option Value} {base : Heap} {CS CF CE : Addr} {e : Expr} {es : List Expr} {t : TA} {p pos : Pos} {E : XK} (Z : SiteMkT P w K mg base CS CF CE) (g1 : X.prog = P) (g2 : X.w = w) (g3 : X.K = K) (g4 : X.mg = mg) (g5 : X.base = base) (j : Nat) (hj : j ≤ 1) (hr : Room 6 X.A) (hx : Passes (L2.CX P w) X E) (ha : PA X (e :: es) t) (hg : Gl X "Site" := by rfl)
    (he : starEach (e :: es) X.env = (false, eval e X.env) :: starEach es X.env := by rfl) (hpl : (backTo pos (starEach es X.env)).any (·.1) = false := by rfl) :
    PE X (.Call (.Name "Site" p) (e :: es) [] pos) (tMake CS (spSiteT K CS CF CE) ([V.str "own"].drop j) E t) := by
  subst g1 g2 g3 g4 g5
  obtain ⟨f, fd, h1, h2, h3⟩ := Z.made
  obtain ⟨ds, h4, h5⟩ := h3 j hj
  exact pe_make h1 h2 hr hg Z.mgC h5 h4 hx ha (by decide) he hpl
theorem mk_SiteTK {X : Cx} {P : Program} {w : World} {K : PySem.W.Frag} {mg : Str → Option Value} {base : Heap} {CS CF CE : Addr} {kws : List Keyword} {tk : TA} {p pos : Pos} {E : XK} (Z : SiteMkTK P w K mg base CS CF CE) (g1 : X.prog = P) (g2 : X.w = w) (g3 : X.K = K) (g4 : X.mg = mg) (g5 : X.base = base) (hr : Room 6 X.A) (hx : Passes (L2.CX P w) X E) (hkw : PK X kws tk) (hg : Gl X "Site" := by rfl)
    (hall : (backToKw pos (keywordEach kws X.env)).all (·.1.isSome) = true := by rfl) (hks : (backToKw pos (keywordEach kws X.env)).filterMap (·.1) = (["counts", "entries", "files"] : List Str) := by rfl)
    (hpl : ((backTo pos (starEach [] X.env)).any (·.1) || (backToKw pos (keywordEach kws X.env)).any (·.1.isNone)) = false := by rfl) :
    PE X (.Call (.Name "Site" p) [] kws pos) (tMakeK CS 0 3 (spSiteT K CS CF CE) (fun us zs => us ++ flipG zs) E tNil tk) := by
  subst g1 g2 g3 g4 g5
  obtain ⟨f, fd, g, h1, h2, h3⟩ := Z.made
  exact pe_makeK0 h1 h2 hr hg Z.mgC h3 hx hkw hall hks (by decide) (hpl := hpl)
/-- an error of a site, or none -/
def ErS4 (CE : Addr) (e : Option (Str × V)) (er : V) (H : Hp) : Prop := (e = none ∧ er = .non) ∨ ∃ pt nm a d, e = some (pt, nm) ∧ er = .ref a ∧ H a = some (XvO (.ref CE) (some d) a) ∧ H d = some (.xd [("name", nm), ("part", .str pt)])
theorem ErS4.ext {CE : Addr} {e : Option (Str × V)} {er : V} {H H' : Hp} (h : ErS4 CE e er H) (s : ExtN H H') : ErS4 CE e er H' := by
  rcases h with h | ⟨pt, nm, a, d, h1, h2, h3, h4⟩
  · exact .inl h
  · exact .inr ⟨pt, nm, a, d, h1, h2, s _ _ h3 (fun ys z => by cases z), s _ _ h4 fun ys z => by cases z⟩
theorem ErS4.same {CE : Addr} {e : Option (Str × V)} {er : V} {H H' : Hp} (h : ErS4 CE e er H) (s : Same H H') : ErS4 CE e er H' := h.ext (.of s)
theorem ErS4.put {CE L : Addr} {e : Option (Str × V)} {er : V} {H : Hp} {xs : List V} {o : HO} (h : ErS4 CE e er H) (hL : H L = some (.lst xs)) : ErS4 CE e er (upd H L o) := by
  rcases h with h | ⟨pt, nm, a, d, h1, h2, h3, h4⟩
  · exact .inl h
  · exact .inr ⟨pt, nm, a, d, h1, h2, by rw [upd_ne (fun z => by rw [z, hL] at h3; cases h3)]; exact h3, by rw [upd_ne (fun z => by rw [z, hL] at h4; cases h4)]; exact h4⟩
theorem perm_inr {a b : List Str} (h : (a.map (Sum.inr : Str → Key)).Perm (b.map Sum.inr)) : a.Perm b := by
  have := h.filterMap (fun k : Key => match k with | .inr n => some n | .inl _ => none)
  simpa [List.filterMap_map, Function.comp_def] using this
theorem perm_strs {a b : List Str} (h : (a.map V.str).Perm (b.map V.str)) : a.Perm b := by
  have := h.filterMap (fun v : V => match v with | .str n => some n | _ => none)
  simpa [List.filterMap_map, Function.comp_def] using this
def SCond (k : Kd) (l : PgL) (ke : Kd) (xe : List V) (ys zs : List Str) : Prop := ((k.isDct && okKeys l) = true → YsOf l ys) ∧ ((k.isDct && okKeys l) = true → needErr l ys = none → entOk (fsOf l) ke xe = true → ZsOf xe zs)
theorem sE_uniq {k ke : Kd} {l : PgL} {xe : List V} {cv : V} {ys zs ys' zs' : List Str} (h : SCond k l ke xe ys zs) (h' : SCond k l ke xe ys' zs') : siteErr k l ys ke xe zs cv = siteErr k l ys' ke xe zs' cv := by
  cases e0 : (k.isDct && okKeys l) with
  | false => rw [sE_files e0, sE_files e0]
  | true =>
    have Y := h.1 e0
    have Y' := h'.1 e0
    have ey : ys = ys' := sorted_uniq (perm_inr (Y.1.trans Y'.1.symm)) Y.2 Y'.2
    subst ey
    cases en : needErr l ys with
    | some r => obtain ⟨pt, nm⟩ := r; rw [sE_need e0 en, sE_need e0 en]
    | none =>
      cases e2 : entOk (fsOf l) ke xe with
      | false => rw [sE_ent e0 en e2, sE_ent e0 en e2]
      | true =>
        have Z := h.2 e0 en e2
        have Z' := h'.2 e0 en e2
        have ez : zs = zs' := sorted_uniq (perm_strs (Z.1.trans Z'.1.symm)) Z.2 Z'.2
        rw [ez]
def ptsL : List Str := ["files", "refers", "keeps", "ring", "entries", "ways", "counts"]
/-- what is told is a part, and None or a name -/
theorem sE_shape {k ke : Kd} {l : PgL} {xe : List V} {cv : V} {ys zs : List Str} {pt : Str} {nm : V} (h : SCond k l ke xe ys zs) (e : siteErr k l ys ke xe zs cv = some (pt, nm)) : pt ∈ ptsL ∧ (nm = .non ∨ ∃ n : Str, nm = .str n ∧ isNameS n = true) := by
  cases e0 : (k.isDct && okKeys l) with
  | false => rw [sE_files e0] at e; cases e; exact ⟨by decide +kernel, .inl rfl⟩
  | true =>
    have Y := h.1 e0
    have ok : okKeys l = true := by rw [Bool.and_eq_true] at e0; exact e0.2
    obtain ⟨ns, ens, _, _, nn⟩ := keys_str ok
    have nam : ∀ n ∈ ys, isNameS n = true := fun n hn => nn n (by
      have := (ys_key Y n).mp hn
      rw [ens] at this
      obtain ⟨m, h1, h2⟩ := List.mem_map.mp this
      cases h2
      exact h1)
    cases en : needErr l ys with
    | some r =>
      rw [sE_need e0 (pt := r.1) (nm := r.2) en] at e
      have e : r = (pt, nm) := Option.some.inj e
      subst e
      unfold needErr at en
      split at en
      · rename_i n hf; cases en; exact ⟨by decide +kernel, .inr ⟨n, rfl, nam n (List.mem_of_find?_eq_some hf)⟩⟩
      · split at en
        · rename_i n hf; cases en; exact ⟨by decide +kernel, .inr ⟨n, rfl, nam n (List.mem_of_find?_eq_some hf)⟩⟩
        · split at en
          · rename_i n hf; cases en; exact ⟨by decide +kernel, .inr ⟨n, rfl, nam n (List.mem_of_find?_eq_some hf)⟩⟩
          · split at en
            · rename_i n hf; cases en; exact ⟨by decide +kernel, .inr ⟨n, rfl, nam n (List.mem_of_find?_eq_some hf)⟩⟩
            · cases en
    | none =>
      cases e2 : entOk (fsOf l) ke xe with
      | false => rw [sE_ent e0 en e2] at e; cases e; exact ⟨by decide +kernel, .inl rfl⟩
      | true =>
        have Z := h.2 e0 en e2
        cases e3 : zs.find? (noTree (fsOf l)) with
        | some z =>
          rw [sE_way e0 en e2 e3] at e
          cases e
          refine ⟨by decide +kernel, .inr ⟨z, rfl, ?_⟩⟩
          have hz := Z.1.mem_iff.mp (List.mem_map.mpr ⟨z, List.mem_of_find?_eq_some e3, rfl⟩)
          unfold entOk areNamesL at e2
          rw [Bool.and_eq_true, Bool.and_eq_true, Bool.and_eq_true, Bool.and_eq_true] at e2
          exact List.all_eq_true.mp e2.1.1.2.1 _ hz
        | none =>
          rw [sE_end e0 en e2 e3] at e
          split at e
          · cases e; exact ⟨by decide +kernel, .inl rfl⟩
          · cases e
/-- what is told, as data -/
def tellP : Option (Str × V) → PyData
  | none => .list []
  | some (pt, .str n) => .list [.str pt, .str n]
  | some (pt, _) => .list [.str pt, .none]
/-- it is well told -/
def TellOk (e : Option (Str × V)) : Prop := ∀ pt nm, e = some (pt, nm) → pt ∈ ptsL ∧ (nm = .non ∨ ∃ n : Str, nm = .str n ∧ isNameS n = true)
theorem pts_ok {pt : Str} (h : pt ∈ ptsL) : PyData.strOk pt = true ∧ pt.length ≤ 8 := by
  have : ptsL.all (fun z => PyData.strOk z && decide (z.length ≤ 8)) = true := by decide +kernel
  have := List.all_eq_true.mp this pt h
  rw [Bool.and_eq_true, decide_eq_true_eq] at this
  exact this
section
variable {K : PySem.W.Frag} {H : Hp} {p : Addr} {e : Option (Str × V)}
theorem tell_vd (t : TellOk e) (h : H p = some (.lst (tellL e))) : Vd H (.ref p) (tellP e) := by
  cases e with
  | none => exact .lst h .nil
  | some r =>
    obtain ⟨pt, nm⟩ := r
    rcases (t pt nm rfl).2 with rfl | ⟨n, rfl, _⟩
    · exact .lst h (.cons (.str _) (.one .non))
    · exact .lst h (.cons (.str _) (.one (.str _)))
theorem tell_rg (t : TellOk e) : Rg (tellP e) 5 20000 := by
  have key : ∀ fs : List PyData, fs.length ≤ 2 → (∀ d ∈ fs, Rg d 0 82) → Rg (.list fs) 5 20000 := fun fs l h => (Rg.list h l).mono (by omega) (by omega)
  cases e with
  | none => exact key [] (by decide) fun d h => by cases h
  | some r =>
    obtain ⟨pt, nm⟩ := r
    obtain ⟨h1, h2⟩ := t pt nm rfl
    have hp := pts_ok h1
    have r1 : Rg (.str pt) 0 82 := (rp_str (n := 8) hp.1 hp.2).rg
    rcases h2 with rfl | ⟨n, rfl, hn⟩
    · exact key [.str pt, .none] (Nat.le_refl 2) fun d hd => by
        rcases List.mem_cons.mp hd with rfl | hd
        · exact r1
        · rw [List.mem_singleton.mp hd]; exact rp_none.rg.mono (Nat.le_refl _) (by decide)
    · exact key [.str pt, .str n] (Nat.le_refl 2) fun d hd => by
        rcases List.mem_cons.mp hd with rfl | hd
        · exact r1
        · rw [List.mem_singleton.mp hd]; exact (rp_str (n := 8) (name_ok hn).2.2 (name_ok hn).2.1).rg
theorem tell_dp (t : TellOk e) (h : H p = some (.lst (tellL e))) : Dp K H (.ref p) (tellP e) := by
  cases e with
  | none => exact .lst (SqL.of h) .nil
  | some r =>
    obtain ⟨pt, nm⟩ := r
    rcases (t pt nm rfl).2 with rfl | ⟨n, rfl, _⟩
    · exact .lst (SqL.of h) (.cons (.str _) (.cons .non .nil))
    · exact .lst (SqL.of h) (.cons (.str _) (.cons (.str _) .nil))
theorem tell_sh (t : TellOk e) : SeqAt.shaped (tellP e) = true := by
  cases e with
  | none => decide +kernel
  | some r =>
    obtain ⟨pt, nm⟩ := r
    obtain ⟨h1, h2⟩ := t pt nm rfl
    have hp := pts_ok h1
    rcases h2 with rfl | ⟨n, rfl, hn⟩
    · unfold SeqAt.shaped tellP
      simp only [PyData.canLay0, PyData.canLayAll0, hp.1, PyData.depth, PyData.depthAll]
      rfl
    · unfold SeqAt.shaped tellP
      simp only [PyData.canLay0, PyData.canLayAll0, hp.1, (name_ok hn).2.2, PyData.depth, PyData.depthAll]
      rfl
theorem tell_eq (t : TellOk e) : PyData.eqv (tellP e) (.list [.str "files", .none]) = decide (e = some (("files" : Str), V.non)) := by
  cases e with
  | none => rw [Bool.eq_iff_iff]; simp [tellP, PyData.eqv, PyData.eqvAll]
  | some r =>
    obtain ⟨pt, nm⟩ := r
    rcases (t pt nm rfl).2 with rfl | ⟨n, rfl, hn⟩
    · rw [Bool.eq_iff_iff, decide_eq_true_eq]
      simp [tellP, PyData.eqv, PyData.eqvAll]
    · rw [Bool.eq_iff_iff, decide_eq_true_eq]
      simp [tellP, PyData.eqv, PyData.eqvAll]
end
theorem pgs_of {K : PySem.W.Frag} {H : Hp} {kvs : List (Key × V)} {fs : List (Str × FileD)} (h : PgsM K H kvs fs) : PgsX K H kvs (mdL fs) := by
  induction h with
  | nil => exact .nil
  | cons a _ ih => exact .cons ⟨rfl, a⟩ ih
theorem lok_md {m : MdD} (ok : MdOk m) : LOk 0 (mdL m.files) := by
  have ek : (mdL m.files).map (·.1) = (m.files.map (·.1)).map Sum.inr := by unfold mdL; rw [List.map_map, List.map_map]; rfl
  refine ⟨?_, ?_, fun k f h => ?_, fun n hn => ?_⟩
  · rw [ek]
    exact List.pairwise_map.mpr (ok.ok.nd.imp fun h e => h (Sum.inr.inj e))
  · have := ok.ok.few
    unfold mdL
    rw [List.length_map]
    omega
  · obtain ⟨p, hp, e⟩ := List.mem_map.mp h
    obtain ⟨n, g⟩ := p
    cases e
    refine ⟨ok.file hp, ?_⟩
    have := ok.ok.rf_len n
    rw [rf_of (lkF_of_mem ok.ok.nd hp)] at this
    omega
  · rw [ek] at hn
    obtain ⟨m', h1, e⟩ := List.mem_map.mp hn
    cases e
    have := (name_ok (ok.ok.nam _ h1)).2.1
    omega
theorem ents8 {m : MdD} (ok : MdOk m) : m.entries.length ≤ 8 ∧ ∀ e ∈ m.entries, isNameS e = true := by
  have key : ∀ e ∈ m.entries, e ∈ m.files.map (·.1) := fun e he => by
    have := ok.epl e he
    rw [lkF_key]
    cases h : lkF m.files e with
    | none => rw [plainF_none h] at this; cases this
    | some g => exact ⟨g, rfl⟩
  have := pigeon m.entries (m.files.map (·.1)) ok.end_ key
  rw [List.length_map] at this
  have few := ok.ok.few
  exact ⟨by omega, fun e he => ok.ok.nam e (key e he)⟩
theorem ent_door {m : MdD} (ok : MdOk m) : DoorE 8 (.list (m.entries.map PyData.str)) := by
  obtain ⟨h1, h2⟩ := ents8 ok
  refine DoorE.list (by rw [List.length_map]; exact h1) (by omega) fun f hf => ?_
  obtain ⟨e, he, rfl⟩ := List.mem_map.mp hf
  have no := name_ok (h2 e he)
  exact ⟨((rp_str (n := 8) no.2.2 no.2.1).mono (by omega) (by omega)).rg, fun z ez => by cases ez; exact Nat.le_trans no.2.1 (by decide)⟩
theorem fv_ext {K : PySem.W.Frag} {CF : Addr} {H H' : Hp} {kvs : List (Key × V)} {l : PgL} (h : FVals K CF H kvs l) (s : ExtN H H') : FVals K CF H' kvs l := by
  induction h with
  | nil => exact .nil
  | file h o _ ih => exact .file (FileAt.ext h s) o ih
  | other h o _ ih => exact .other (h.ext s) o ih
theorem FilesV.ext {K : PySem.W.Frag} {CF : Addr} {H H' : Hp} {v : V} {k : Kd} {l : PgL} (h : FilesV K CF H v k l) (s : ExtN H H') : FilesV K CF H' v k l := by
  refine ⟨h.1.ext s, fun e => ?_⟩
  obtain ⟨d, kvs, e1, h1, h2, h3⟩ := h.2 e
  exact ⟨d, kvs, e1, s _ _ h1 (fun _ z => by cases z), fv_ext h2 s, h3⟩
end WP
namespace WP
open PySem L2
def top (i : Nat) : Stmt := PySem.Challenge.pw_wholeprint_k04_sites_refused.main.body.getD i (.Pass ⟨0, 0, 0, 0⟩)
abbrev s_BadFile___init__ : Stmt := inClass (top 3) 0
theorem sc_BadFile___init__ : FnScope ["self", "part"] ["self", "part"] (defScope s_BadFile___init__) := ⟨rfl, rfl, rfl, by decide +kernel, rfl, by decide +kernel, by decide +kernel⟩
abbrev s_BadSite___init__ : Stmt := inClass (top 4) 0
theorem sc_BadSite___init__ : FnScope ["self", "part", "name"] ["self", "part", "name"] (defScope s_BadSite___init__) := ⟨rfl, rfl, rfl, by decide +kernel, rfl, by decide +kernel, by decide +kernel⟩
abbrev s_is_name : Stmt := top 14
theorem sc_is_name : FnScope ["value", "letter"] ["value"] (defScope s_is_name) := ⟨rfl, rfl, rfl, by decide +kernel, rfl, by decide +kernel, by decide +kernel⟩
abbrev s_is_number : Stmt := top 15
theorem sc_is_number : FnScope ["value"] ["value"] (defScope s_is_number) := ⟨rfl, rfl, rfl, by decide +kernel, rfl, by decide +kernel, by decide +kernel⟩
abbrev s_is_list : Stmt := top 16
theorem sc_is_list : FnScope ["value"] ["value"] (defScope s_is_list) := ⟨rfl, rfl, rfl, by decide +kernel, rfl, by decide +kernel, by decide +kernel⟩
abbrev s_is_ticks : Stmt := top 17
theorem sc_is_ticks : FnScope ["value"] ["value"] (defScope s_is_ticks) := ⟨rfl, rfl, rfl, by decide +kernel, rfl, by decide +kernel, by decide +kernel⟩
abbrev s_are_names : Stmt := top 18
theorem sc_are_names : FnScope ["value", "name"] ["value"] (defScope s_are_names) := ⟨rfl, rfl, rfl, by decide +kernel, rfl, by decide +kernel, by decide +kernel⟩
abbrev s_File___init__ : Stmt := inClass (top 19) 0
theorem sc_File___init__ : FnScope ["self", "naming", "refers", "hold", "keeps", "keep"] ["self", "naming", "refers", "hold", "keeps"] (defScope s_File___init__) := ⟨rfl, rfl, rfl, by decide +kernel, rfl, by decide +kernel, by decide +kernel⟩
abbrev s_File_naming : Stmt := inClass (top 19) 1
theorem sc_File_naming : FnScope ["self"] ["self"] (defScope s_File_naming) := ⟨rfl, rfl, rfl, by decide +kernel, rfl, by decide +kernel, by decide +kernel⟩
abbrev s_File_refers : Stmt := inClass (top 19) 2
theorem sc_File_refers : FnScope ["self"] ["self"] (defScope s_File_refers) := ⟨rfl, rfl, rfl, by decide +kernel, rfl, by decide +kernel, by decide +kernel⟩
abbrev s_File_hold : Stmt := inClass (top 19) 3
theorem sc_File_hold : FnScope ["self"] ["self"] (defScope s_File_hold) := ⟨rfl, rfl, rfl, by decide +kernel, rfl, by decide +kernel, by decide +kernel⟩
abbrev s_File_keeps : Stmt := inClass (top 19) 4
theorem sc_File_keeps : FnScope ["self"] ["self"] (defScope s_File_keeps) := ⟨rfl, rfl, rfl, by decide +kernel, rfl, by decide +kernel, by decide +kernel⟩
abbrev s_all_below : Stmt := top 20
theorem sc_all_below : FnScope ["files", "name", "found", "line", "here"] ["files", "name"] (defScope s_all_below) := ⟨rfl, rfl, rfl, by decide +kernel, rfl, by decide +kernel, by decide +kernel⟩
abbrev s_tree_below : Stmt := top 21
theorem sc_tree_below : FnScope ["files", "entry", "found", "line", "here", "name"] ["files", "entry"] (defScope s_tree_below) := ⟨rfl, rfl, rfl, by decide +kernel, rfl, by decide +kernel, by decide +kernel⟩
abbrev s_need_files : Stmt := top 22
theorem sc_need_files : FnScope ["files", "name", "names", "other"] ["files"] (defScope s_need_files) := ⟨rfl, rfl, rfl, by decide +kernel, rfl, by decide +kernel, by decide +kernel⟩
abbrev s_is_entries : Stmt := top 23
theorem sc_is_entries : FnScope ["files", "value", "name"] ["files", "value"] (defScope s_is_entries) := ⟨rfl, rfl, rfl, by decide +kernel, rfl, by decide +kernel, by decide +kernel⟩
abbrev s_Site___init__ : Stmt := inClass (top 24) 0
theorem sc_Site___init__ : FnScope ["self", "files", "entries", "counts", "trees", "entry", "name"] ["self", "files", "entries", "counts"] (defScope s_Site___init__) := ⟨rfl, rfl, rfl, by decide +kernel, rfl, by decide +kernel, by decide +kernel⟩
abbrev s__law_begun : Stmt := top 26
theorem sc__law_begun : FnScope ["_law_script", "_law_wide", "_law_cell"] ["_law_script"] (defScope s__law_begun) := ⟨rfl, rfl, rfl, by decide +kernel, rfl, by decide +kernel, by decide +kernel⟩
abbrev s__law_blend : Stmt := top 27
theorem sc__law_blend : FnScope ["_law_draw", "_law_found", "_law_prime", "_law_blend_here", "_law_cell"] ["_law_draw"] (defScope s__law_blend) := ⟨rfl, rfl, rfl, by decide +kernel, rfl, by decide +kernel, by decide +kernel⟩
abbrev s__law_take : Stmt := top 28
theorem sc__law_take : FnScope ["_law_draw", "_law_size", "_law_found"] ["_law_draw", "_law_size"] (defScope s__law_take) := ⟨rfl, rfl, rfl, by decide +kernel, rfl, by decide +kernel, by decide +kernel⟩
abbrev s__law_pick : Stmt := top 29
theorem sc__law_pick : FnScope ["_law_draw", "_law_some"] ["_law_draw", "_law_some"] (defScope s__law_pick) := ⟨rfl, rfl, rfl, by decide +kernel, rfl, by decide +kernel, by decide +kernel⟩
abbrev s__law_shuffled : Stmt := top 30
theorem sc__law_shuffled : FnScope ["_law_draw", "_law_some", "_law_left", "_law_found"] ["_law_draw", "_law_some"] (defScope s__law_shuffled) := ⟨rfl, rfl, rfl, by decide +kernel, rfl, by decide +kernel, by decide +kernel⟩
abbrev s__law_caught : Stmt := top 31
theorem sc__law_caught : FnScope ["_law_work", "_law_caught_here", "_law_error"] ["_law_work"] (defScope s__law_caught) := ⟨rfl, rfl, rfl, by decide +kernel, rfl, by decide +kernel, by decide +kernel⟩
abbrev s__law_drawn_names : Stmt := top 32
theorem sc__law_drawn_names : FnScope ["_law_draw", "_law_total", "_law_letters", "_law_found", "_law_some", "_law_k", "_law_way", "_law_word", "_law_size", "_law_j", "_law_at", "_law_near", "_law_letter", "_law_single"] ["_law_draw", "_law_total"] (defScope s__law_drawn_names) := ⟨rfl, rfl, rfl, by decide +kernel, rfl, by decide +kernel, by decide +kernel⟩
abbrev s__law_ticks : Stmt := top 33
theorem sc__law_ticks : FnScope ["_law_draw", "_law_few"] ["_law_draw"] (defScope s__law_ticks) := ⟨rfl, rfl, rfl, by decide +kernel, rfl, by decide +kernel, by decide +kernel⟩
abbrev s__law_tree : Stmt := top 34
theorem sc__law_tree : FnScope ["_law_pages", "_law_entry", "_law_found", "_law_at", "_law_here", "_law_name"] ["_law_pages", "_law_entry"] (defScope s__law_tree) := ⟨rfl, rfl, rfl, by decide +kernel, rfl, by decide +kernel, by decide +kernel⟩
abbrev s__law_is_tree : Stmt := top 35
theorem sc__law_is_tree : FnScope ["_law_pages", "_law_entry", "_law_names", "_law_pair"] ["_law_pages", "_law_entry"] (defScope s__law_is_tree) := ⟨rfl, rfl, rfl, by decide +kernel, rfl, by decide +kernel, by decide +kernel⟩
abbrev s__law_links : Stmt := top 36
theorem sc__law_links : FnScope ["_law_draw", "_law_names", "_law_refers", "_law_roots", "_law_name", "_law_at", "_law_above", "_law_turn", "_law_below_here", "_law_more", "_law_some", "_law_is_ring", "_law_pair", "_law_root"] ["_law_draw", "_law_names"] (defScope s__law_links) := ⟨rfl, rfl, rfl, by decide +kernel, rfl, by decide +kernel, by decide +kernel⟩
abbrev s__law_model : Stmt := top 37
theorem sc__law_model : FnScope ["_law_draw", "_law_most", "_law_names", "_law_refers", "_law_roots", "_law_doors", "_law_root", "_law_many", "_law_odds", "_law_pages", "_law_name", "_law_naming", "_law_keeps", "_law_cache"] ["_law_draw", "_law_most"] (defScope s__law_model) := ⟨rfl, rfl, rfl, by decide +kernel, rfl, by decide +kernel, by decide +kernel⟩
abbrev s__law_is_word : Stmt := top 38
theorem sc__law_is_word : FnScope ["_law_item", "_law_letter"] ["_law_item"] (defScope s__law_is_word) := ⟨rfl, rfl, rfl, by decide +kernel, rfl, by decide +kernel, by decide +kernel⟩
abbrev s__law_odd : Stmt := top 39
theorem sc__law_odd : FnScope ["_law_draw", "_law_some"] ["_law_draw"] (defScope s__law_odd) := ⟨rfl, rfl, rfl, by decide +kernel, rfl, by decide +kernel, by decide +kernel⟩
abbrev s__law_below : Stmt := top 40
theorem sc__law_below : FnScope ["_law_pages", "_law_name", "_law_found", "_law_turn", "_law_one", "_law_below_here"] ["_law_pages", "_law_name"] (defScope s__law_below) := ⟨rfl, rfl, rfl, by decide +kernel, rfl, by decide +kernel, by decide +kernel⟩
abbrev s__law_wrong_file : Stmt := top 41
theorem sc__law_wrong_file : FnScope ["_law_pages", "_law_names", "_law_name", "_law_below_here"] ["_law_pages"] (defScope s__law_wrong_file) := ⟨rfl, rfl, rfl, by decide +kernel, rfl, by decide +kernel, by decide +kernel⟩
abbrev s__law_wrong : Stmt := top 42
theorem sc__law_wrong : FnScope ["_law_pages", "_law_doors", "_law_counting", "_law_name", "_law_found", "_law_at", "_law_one", "_law_entry"] ["_law_pages", "_law_doors", "_law_counting"] (defScope s__law_wrong) := ⟨rfl, rfl, rfl, by decide +kernel, rfl, by decide +kernel, by decide +kernel⟩
abbrev s__law_bent_files : Stmt := top 43
theorem sc__law_bent_files : FnScope ["_law_draw", "_law_pages", "_law_names", "_law_found", "_law_way", "_law_name", "_law_other", "_law_naming", "_law_refers", "_law_hold", "_law_keeps", "_law_more", "_law_below_here", "_law_size"] ["_law_draw", "_law_pages"] (defScope s__law_bent_files) := ⟨rfl, rfl, rfl, by decide +kernel, rfl, by decide +kernel, by decide +kernel⟩
abbrev s__law_bent_entries : Stmt := top 44
theorem sc__law_bent_entries : FnScope ["_law_draw", "_law_pages", "_law_doors", "_law_at", "_law_name", "_law_way"] ["_law_draw", "_law_pages", "_law_doors"] (defScope s__law_bent_entries) := ⟨rfl, rfl, rfl, by decide +kernel, rfl, by decide +kernel, by decide +kernel⟩
abbrev s__law_handed : Stmt := top 45
theorem sc__law_handed : FnScope ["_law_pages", "_law_found", "_law_name", "_law_parts"] ["_law_pages"] (defScope s__law_handed) := ⟨rfl, rfl, rfl, by decide +kernel, rfl, by decide +kernel, by decide +kernel⟩
abbrev s__law_can_bend : Stmt := top 46
theorem sc__law_can_bend : FnScope ["_law_pages", "_law_one"] ["_law_pages"] (defScope s__law_can_bend) := ⟨rfl, rfl, rfl, by decide +kernel, rfl, by decide +kernel, by decide +kernel⟩
abbrev s_law : Stmt := top 47
theorem sc_law : FnScope ["_law_script", "_law_draw", "_law_turn", "_law_model_here", "_law_pages", "_law_doors", "_law_counting", "_law_changes", "_law_k", "_law_change", "_law_due", "_law_given", "_law_is_named", "_law_seen", "_law_size", "_law_errors", "_law_error"] ["_law_script"] (defScope s_law) := ⟨rfl, rfl, rfl, by decide +kernel, rfl, by decide +kernel, by decide +kernel⟩
end WP
namespace WP
open PySem L2
local macro_rules | `(tactic| walk_at "fact") => `(tactic| first | with_reducible rfl | assumption | exact ⟨_, SqL.of (by assumption)⟩ | exact ⟨_, by assumption⟩ | exact Or.inl ⟨rfl, _, SqL.of (by assumption)⟩ | exact dg_rest (by assumption) | exact dg_turn (by assumption) | exact dg_cells (by assumption) | exact dg_wide (by assumption) | decide | omega | exact Or.inl ⟨by decide, by decide⟩ | exact Or.inr ⟨by decide, by decide⟩ | exact ⟨by decide, by decide⟩ | exact ⟨by omega, by omega⟩ | rfl)
local macro_rules | `(tactic| walk_at "rd") => `(tactic| first | refine ⟨_, rfl, ?_⟩ | refine ⟨_, _, rfl, rfl, ?_⟩ | refine ⟨_, _, rfl, by walk_at "fact", ?_⟩ | refine And.intro (by walk_at "fact") ?_ | refine Or.inl ⟨_, rfl, ?_⟩)
local macro_rules | `(tactic| walk_at "rds") => `(tactic| repeat walk_at "rd")
section
variable {P : Program} {w : World} {K : PySem.W.Frag} {mg : Str → Option Value} {base : Heap}
theorem ok_blend {f : Addr} {fd : FuncData} (F : Fun K "_law_blend" "_law_blend" s__law_blend f fd) (T : Bi mg) : FnOk P w K mg base CX0 1 f fd ["_law_draw"] spBlend := by
  refine F.ok sc__law_blend (fun vs H Q E h => ?_) (fun cdv A outer s H vs Q E hr h => ?_)
  · obtain ⟨d, w, c, B, rfl, _⟩ := h
    rfl
  · obtain ⟨d, w, c, B, rfl, D, hB, k⟩ := h
    have hu := hu_of hr
    have nd := sc__law_blend.nd
    refine ⟨_, pss_cons (ps_dput hu (pv 0) pe_str (pe_op op_add (pe_dget hu (pv 0) pe_str (fun _ _ => rfl)) pe_int) rfl)
      (pss_cons (ps_set (i := 1) nd rfl (by first | exact Or.inl rfl | exact Or.inr rfl) pe_int)
      (pss_cons (ps_for PassesOwn.never rfl (pi_list (pe_lst (pa_cons pe_int (pa_cons pe_int (pa_cons pe_int (pa_cons pe_int (pa_cons pe_int (pa_cons pe_int pa_nil)))))))) (pg_name (i := 2) nd rfl (by first | exact Or.inl rfl | exact Or.inr rfl)) (pss_cons (ps_set (i := 3) nd rfl (by first | exact Or.inl rfl | exact Or.inr rfl) (pe_op op_add (pe_op op_mul pe_int (pe_dget hu (pv 0) pe_str (fun _ _ => rfl))) (pe_op op_fdiv (pv 2) pe_int)))
      (pss_cons (ps_for PassesOwn.never rfl (pi_list (pe_dget hu (pv 0) pe_str (fun _ _ => rfl))) (pg_name (i := 4) nd rfl (by first | exact Or.inl rfl | exact Or.inr rfl)) (pss_one (ps_set (i := 3) nd rfl (by first | exact Or.inl rfl | exact Or.inr rfl) (pe_op op_mod (pe_callTy call_int1 (by rfl) T.int (by decide +kernel) (pa_cons (pe_op op_add (pe_op op_mul (pv 3) pe_int) (pv 4)) pa_nil)) (pv 2)))))
      (pss_one (ps_set (i := 1) nd rfl (by first | exact Or.inl rfl | exact Or.inr rfl) (pe_op op_add (pe_op op_mul (pv 1) pe_int) (pe_op op_mod (pe_callTy call_int1 (by rfl) T.int (by decide +kernel) (pa_cons (pe_op op_pow (pv 3) pe_int) pa_nil)) (pv 2))))))))
      (pss_one (ps_ret (pv 1))))), ?_⟩
    obtain ⟨r, t, hd, ht0, ht⟩ := D.dict
    refine ⟨_, rfl, _, _, rfl, dg_turn hd, _, _, rfl, rfl, _, rfl, _, _, rfl, dp_turn _ hd, ?_⟩
    have D1 : Dr d w c (B + 1) (upd H d (drD w c r (t + 1))) := D.newD (by omega) (by omega)
    have S1 : Same (hd2 d w H) (hd2 d w (upd H d (drD w c r (t + 1)))) := hd2_d
    generalize upd H d (drD w c r (t + 1)) = H1 at D1 S1
    refine ⟨(by show 6 ≤ sizeLine; decide), fun L hL => ⟨L, rfl, ⟨_, SqL.of upd_same⟩, ?_⟩⟩
    have D2 := D1.new (o := .lst ([2147483629, 2147483587, 2147483579, 2147483563, 2147483549, 2147483543].map V.int)) hL
    have S2 := S1.trans (hd2_new (o := .lst ([2147483629, 2147483587, 2147483579, 2147483563, 2147483549, 2147483543].map V.int)) hL)
    refine for_list (K := K) (a := L) (xs := [2147483629, 2147483587, 2147483579, 2147483563, 2147483549, 2147483543].map V.int)
      (fun i σ H2 => H2 = upd H1 L (.lst ([2147483629, 2147483587, 2147483579, 2147483563, 2147483549, 2147483543].map V.int)) ∧ ∃ (z : Int) (v1 v2 v3 : Option V), σ = [some (.ref d), some (.int z), v1, v2, v3])
      ⟨rfl, 0, _, _, _, rfl⟩ (fun i σ H2 _ h => by rw [h.1]; exact SqL.of upd_same) ?_ ?_
    · rintro i x σ H2 hi ⟨rfl, z, v1, v2, v3, rfl⟩
      obtain ⟨p, hp, rfl⟩ := at_map hi
      have hb : 0 < p ∧ p < 2 ^ 31 := by
        have := at_mem hp
        simp only [List.mem_cons, List.not_mem_nil, or_false] at this
        omega
      obtain ⟨r2, t2, hd2, ht20, ht2⟩ := D2.dict
      obtain ⟨ms, hc⟩ := D2.cells
      have hc := (hd2_of hc).1
      walk_at "rds"
      refine for_list (K := K) (a := c) (xs := ms.map V.int)
        (fun i σ H2 => H2 = upd H1 L (.lst ([2147483629, 2147483587, 2147483579, 2147483563, 2147483549, 2147483543].map V.int)) ∧ ∃ (y : Int) (v3 : Option V), (0 ≤ y ∧ y < 2 ^ 60) ∧ σ = [some (.ref d), some (.int z), some (.int p), some (.int y), v3])
        ?_ (fun i σ H2 _ h => by rw [h.1]; exact SqL.of hc) ?_ ?_
      · exact ⟨rfl, _, _, ⟨by omega, by omega⟩, rfl⟩
      · rintro j x σ H2 hj ⟨rfl, y, v4, hy, rfl⟩
        obtain ⟨n, hn, rfl⟩ := at_map hj
        walk_at "rds"
        have m0 := Int.emod_nonneg (y * 69623 + n) (show p ≠ 0 by omega)
        have m1 := Int.emod_lt_of_pos (y * 69623 + n) hb.1
        exact ⟨_, _, ⟨m0, by omega⟩, rfl⟩
      · rintro σ H2 ⟨rfl, y, v4, hy, rfl⟩
        walk_at "rds"
        exact ⟨_, _, _, _, rfl⟩
    · rintro σ H2 ⟨rfl, z, v1, v2, v3, rfl⟩
      exact ⟨_, rfl, k _ _ D2 S2⟩
theorem ok_begun {f : Addr} {fd : FuncData} (F : Fun K "_law_begun" "_law_begun" s__law_begun f fd) (T : Bi mg) : FnOk P w K mg base CX0 1 f fd ["_law_script"] (spBegun K) := by
  refine F.ok sc__law_begun (fun vs H Q E h => ?_) (fun cdv A outer s H vs Q E hr h => ?_)
  · obtain ⟨a, ns, rfl, _⟩ := h
    rfl
  · obtain ⟨a, ns, rfl, hS, hl, k⟩ := h
    have hu := hu_of hr
    have nd := sc__law_begun.nd
    refine ⟨_, pss_cons (ps_setLc (i := 1) (own := [("_law_cell", 2)]) (g := gName 2) rfl nd rfl rfl (sw_true rfl rfl rfl (by decide +kernel)) (pi_list (pv 0)) (blkOk_by (own := [("_law_cell", 2)]) (N := ["_law_script", "_law_wide", "_law_cell"]) (sc := defScope s__law_begun) (by decide +kernel)) (fun _ _ _ _ _ => (pg_name (i := 2) nd rfl (by first | exact Or.inl rfl | exact Or.inr rfl))) (fun _ _ _ _ _ => (pts_one (pt_cmpR op_ge (pv 2) (pe_op op_pow pe_int pe_int) (nomark _)))) (fun _ _ _ _ _ => (pe_op op_sub (pv 2) (pe_op op_pow pe_int pe_int))))
      (pss_one (ps_ret (pe_disp (pps_cons pe_str (pv 1) (pps_cons pe_str (pe_callTy call_list_of (by rfl) T.list (by decide +kernel) (pa_cons (pv 0) pa_nil)) (pps_cons pe_str pe_int (pps_cons pe_str pe_int pps_nil)))) (by rfl) (by rfl) (fun z => by cases z) (by decide)))), ?_⟩
    refine ⟨_, rfl, a, rfl, ⟨_, hS⟩, fun w hw => ?_⟩
    refine lc_list (K := K) (a := a) (xs := ns.map V.int) (fun i H1 => Same H H1 ∧ ∃ ms : List Int, H1 w = some (.lst (ms.map V.int)) ∧ ms.length ≤ i) ?_ (fun i H1 _ h => h.1.seq hS) ?_ ?_
    · exact ⟨Evl.Ex.new hw, [], upd_same, Nat.le_refl _⟩
    · rintro i x H1 hi ⟨S1, ms, h1, hm⟩
      obtain ⟨z, hz, rfl⟩ := at_map hi
      have hil : i < ns.length := (List.getElem?_eq_some_iff.mp hz).1
      refine ⟨rfl, _, rfl, _, _, rfl, rfl, ⟨by decide, by decide, by decide⟩, _, _, rfl, rfl, _, rfl, ?_⟩
      refine ite2 (fun _ => ?_) (fun _ => ?_)
      · refine ⟨_, rfl, _, _, rfl, rfl, ⟨by decide, by decide, by decide⟩, _, _, rfl, rfl, _, h1, by rw [List.length_map]; exact small1000 (by omega), ?_⟩
        refine ⟨Evl.Ex.mut S1 hw, ms ++ [z - 10 ^ (Int.toNat 18)], ?_, ?_⟩
        · rw [upd_same, List.map_append]; rfl
        · rw [List.length_append]; show ms.length + 1 ≤ i + 1; omega
      · exact ⟨S1, ms, h1, by omega⟩
    · rintro H1 ⟨S1, ms, h1, hm⟩
      intro d hd
      refine ⟨_, rfl, _, rfl, a, _, rfl, .inl ((S1.trans (Evl.Ex.new hd)).seq hS), fun c hc => ?_⟩
      have ndc : d ≠ c := ne_of_none (show upd H1 d (.dK []) d = some (.dK []) from upd_same) hc
      have nwd : w ≠ d := ne_of_none h1 hd
      have hw1 : upd (upd H1 d (.dK [])) c (.lst (ns.map V.int)) w = some (.lst (ms.map V.int)) := by
        rw [upd_ne (ne_of_none (o := .lst (ms.map V.int)) (by rw [upd_ne nwd]; exact h1) hc), upd_ne nwd]
        exact h1
      have nwc : w ≠ c := ne_of_none (o := .lst (ms.map V.int)) (by rw [upd_ne nwd]; exact h1) hc
      refine ⟨by rw [upd_ne ndc, upd_same], [((.inr "wide" : Key), .ref w), (.inr "cells", .ref c), (.inr "rest", .int 0), (.inr "turn", .int 0)], rfl, (by show 4 ≤ 15; decide), ?_⟩
      rw [dr_merge]
      refine k d w c _ ⟨⟨0, 0, upd_same, by decide, by decide⟩, ⟨ms, by rw [upd_ne nwd]; exact hw1⟩, ⟨ns, ?_⟩⟩ fun b o e => ?_
      · exact hd2_mk (by rw [upd_ne ndc.symm, upd_same]) ndc.symm nwc.symm
      · have e1 := S1 b o e
        have e2 : b ≠ d := ne_of_none e1 hd
        have e3 : b ≠ c := ne_of_none (o := o) (by rw [upd_ne e2]; exact e1) hc
        exact hd2_mk (by rw [upd_ne e2, upd_ne e3, upd_ne e2]; exact e1) e2 (ne_of_none e hw)
theorem ok_take {f : Addr} {fd : FuncData} (F : Fun K "_law_take" "_law_take" s__law_take f fd) (T : Bi mg) (D__law_blend : Dn P w K mg base CX0 1 "_law_blend" ["_law_draw"] spBlend) : FnOk P w K mg base CX0 2 f fd ["_law_draw", "_law_size"] spTake := by
  refine F.ok sc__law_take (fun vs H Q E h => ?_) (fun cdv A outer s H vs Q E hr h => ?_)
  · obtain ⟨d, w, c, B, n, rfl, _⟩ := h
    rfl
  · obtain ⟨d, w, c, B, n, rfl, D, hB, n0, n1, k⟩ := h
    have hu := hu_of hr
    have nd := sc__law_take.nd
    refine ⟨_, Evl.pss_cut (ps_if (pt_cmpR op_eq (pe_dget hu (pv 0) pe_str (fun _ _ => rfl)) pe_int (nomark _)) (pss_one (ps_dput hu (pv 0) pe_str (pe_ifExp (pt_cmpR (op_neD hr.units) (pe_dget hu (pv 0) pe_str (fun _ _ => rfl)) (pe_lst pa_nil) (nomark _)) (pe_bm PySem.F.plainAttrs_list PySem.F.slot_list_pop PySem.F.type_list_pop mt_popAt (pe_dget hu (pv 0) pe_str (fun _ _ => rfl)) (pa_cons pe_int pa_nil)) (pe_d D__law_blend (hr.mono (by decide)) pass0 (pa_cons (pv 0) pa_nil))) rfl)) pss_nil)
      (pss_cons (ps_set (i := 2) nd rfl (by first | exact Or.inl rfl | exact Or.inr rfl) (pe_op op_mod (pe_callTy call_int1 (by rfl) T.int (by decide +kernel) (pa_cons (pe_dget hu (pv 0) pe_str (fun _ _ => rfl)) pa_nil)) (pv 1)))
      (pss_cons (ps_dput hu (pv 0) pe_str (pe_op op_fdivW (pe_dget hu (pv 0) pe_str (fun _ _ => rfl)) (pv 1)) rfl)
      (pss_one (ps_ret (pv 2))))), ?_⟩
    obtain ⟨r, t, hd, ht0, ht⟩ := D.dict
    refine ⟨fun σ H1 => ∃ r t, σ = [some (.ref d), some (.int n), none] ∧ H1 d = some (drD w c r t) ∧ 0 ≤ t ∧ t ≤ B + 1 ∧ Dr d w c (B + 1) H1 ∧ Same (hd2 d w H) (hd2 d w H1), ?_, ?_⟩
    · walk_at "rds"
      refine ite2 (fun h => ?_) (fun h => ?_)
      · obtain ⟨ns, hw⟩ := D.wide
        walk_at "rds"
        refine fun p hp => neNilI hw hp ?_
        have hd' : upd H p (.lst []) d = some (drD w c r t) := by rw [upd_ne (ne_of_none hd hp)]; exact hd
        have hw' : upd H p (.lst []) w = some (.lst (ns.map V.int)) := by rw [upd_ne (ne_of_none hw hp)]; exact hw
        have D' : Dr d w c B (upd H p (.lst [])) := D.new hp
        have S' : Same (hd2 d w H) (hd2 d w (upd H p (.lst []))) := hd2_new hp
        generalize upd H p (.lst []) = H1 at *
        walk_at "rds"
        cases ns with
        | nil =>
          refine iteF ?_
          walk_at "rds"
          refine ⟨d, w, c, B, rfl, D', hB, fun r2 H2 D2 S2 => ?_⟩
          obtain ⟨r3, t3, hd3, ht30, ht3⟩ := D2.dict
          refine ⟨_, rfl, _, _, rfl, dp_rest _ hd3, ?_⟩
          exact ⟨_, _, rfl, upd_same, ht30, ht3, D2.newD ht30 ht3, (S'.trans S2).trans hd2_d⟩
        | cons z ns =>
          refine iteT ?_
          walk_at "rds"
          refine ⟨w, _, _, 0, _, rfl, rfl, hw', by decide, by decide, seq0, rfl, _, rfl, _, _, rfl, dp_rest _ (by rw [upd_ne (ne_of hd' hw' (by intro z; cases z))]; exact hd'), ?_⟩
          have D2 := (D'.newW (ns := ns)).newD (B' := B + 1) (r' := z) ht0 (by omega)
          exact ⟨_, _, rfl, upd_same, ht0, by omega, D2, (S'.trans hd2_w).trans hd2_d⟩
      · exact ⟨r, t, rfl, hd, ht0, by omega, D.mono (by omega), Same.refl _⟩
    · rintro σ H1 ⟨r, t, rfl, hd, ht0, ht, D1, S1⟩
      walk_at "rds"
      refine ⟨⟨n0, ?_⟩, _, rfl, _, _, rfl, dp_rest _ hd, _, rfl, ?_⟩
      · exact Nat.lt_of_lt_of_le (PySem.Flt.log2_lt_of (k := 200) (by decide) (by omega)) (by decide)
      · exact k _ _ (Int.emod_nonneg _ (by omega)) (Int.emod_lt_of_pos _ n0) (D1.newD ht0 ht) (S1.trans hd2_d)
theorem ok_pick {f : Addr} {fd : FuncData} (F : Fun K "_law_pick" "_law_pick" s__law_pick f fd) (T : Bi mg) (D__law_take : Dn P w K mg base CX0 2 "_law_take" ["_law_draw", "_law_size"] spTake) : FnOk P w K mg base CX0 3 f fd ["_law_draw", "_law_some"] (spPick K) := by
  refine F.ok sc__law_pick (fun vs H Q E h => ?_) (fun cdv A outer s H vs Q E hr h => ?_)
  · obtain ⟨d, w, c, B, _, _, ⟨a, xs, rfl, _⟩ | ⟨z, rfl, _⟩⟩ := h
    · rfl
    · rfl
  · obtain ⟨d, w, c, B, D, hB, h⟩ := h
    have hu := hu_of hr
    have nd := sc__law_pick.nd
    refine ⟨_, pss_one (ps_ret (pe_ix ix_seq (pv 1) (pe_d D__law_take (hr.mono (by decide)) pass0 (pa_cons (pv 0) (pa_cons (pe_callB call_len (by rfl) T.len (by decide +kernel) (pa_cons (pv 1) pa_nil)) pa_nil))) (fun _ _ => rfl))), ?_⟩
    rcases h with ⟨a, xs, rfl, hS, hne, hl, k⟩ | ⟨z, rfl, hz, hz2, k⟩
    · have hS' := hd2_sub.seq hS
      refine ⟨_, rfl, _, rfl, _, rfl, _, _, rfl, .inl ⟨_, hS', rfl⟩, ?_⟩
      have h0 : 0 < xs.length := List.length_pos_iff.mpr hne
      refine ⟨d, w, c, B, _, rfl, D, hB, by omega, by omega, fun j H1 j0 j1 D1 S1 => ?_⟩
      have hj : j.toNat < xs.length := by omega
      refine .inl ⟨a, xs, j, xs[j.toNat], rfl, rfl, hd2_sub.seq (S1.seq hS), at_of (j := j.toNat) (by omega) (by simp [hj]), ?_⟩
      exact k j.toNat _ _ (by simp [hj]) D1 S1
    · refine ⟨_, rfl, _, rfl, _, rfl, _, _, rfl, ⟨hz2, rfl⟩, ?_⟩
      have h0 : z.length < 2 ^ 60 := Nat.lt_of_le_of_lt hz2 (by rw [sizeLine_eq]; decide)
      refine ⟨d, w, c, B, _, rfl, D, hB, by omega, by omega, fun j H1 j0 j1 D1 S1 => ?_⟩
      have e : z.cps.toList.length = z.length := by simp [Str.length]
      have hj : j.toNat < z.cps.toList.length := by omega
      refine .inr (.inr ⟨z, j, z.cps.toList[j.toNat], rfl, rfl, hz2, ?_, ?_⟩)
      · have q := atI_nat (xs := z.cps.toList) (j := j.toNat) (v := z.cps.toList[j.toNat]) (List.getElem?_eq_getElem hj)
        have e2 : ((j.toNat : Nat) : Int) = j := by omega
        rw [e2] at q
        exact q
      · exact k j.toNat _ _ (List.getElem?_eq_getElem hj) D1 S1
end
end WP
namespace WP
open PySem L2
def spShuffled (K : PySem.W.Frag) : Sp := fun vs H Q _ => ∃ (d w c a : Addr) (B : Int) (ns : List Str), vs = [.ref d, .ref a] ∧ Dr d w c B H ∧ B ≤ 2 ^ 39 ∧ (SqL K (hd2 d w H) a (ns.map V.str) ∨ SqT K (hd2 d w H) a (ns.map V.str)) ∧ ns.length ≤ 60 ∧ (∀ x ∈ ns, PyData.strOk x = true) ∧
  ∀ (L : Addr) (ys : List Str) H', Ds d w c (B + ns.length) H H' → hd2 d w H L = none → hd2 d w H' L = some (.lst (ys.map V.str)) → ys.Perm ns → Q (.ref L) H'
def spTicks : Sp := fun vs H Q _ => ∃ (d w c : Addr) (B : Int), vs = [.ref d] ∧ Dr d w c B H ∧ B ≤ 2 ^ 39 ∧ ∀ (o : Option Int) H', isTicksV (optI o) = true → Ds d w c (B + 4) H H' → Q (optI o) H'
theorem perm_erase {α : Type} : ∀ {l : List α} {k : Nat} {x : α}, l[k]? = some x → l.Perm (x :: l.eraseIdx k)
  | [], _, _, h => by cases h
  | a :: r, 0, x, h => by
    have : a = x := by simpa using h
    rw [this]
    exact List.Perm.refl _
  | a :: r, k + 1, x, h => by
    rw [List.getElem?_cons_succ] at h
    have := perm_erase h
    rw [List.eraseIdx_cons_succ]
    exact (this.cons a).trans (.swap x a _)
theorem er_map : ∀ (l : List Str) (k : Nat), (l.map V.str).eraseIdx k = (l.eraseIdx k).map V.str
  | [], _ => rfl
  | a :: r, 0 => rfl
  | a :: r, k + 1 => by
    rw [List.map_cons, List.eraseIdx_cons_succ, List.eraseIdx_cons_succ, List.map_cons, er_map r k]
section
variable {P : Program} {w : World} {K : PySem.W.Frag} {mg : Str → Option Value} {base : Heap}
theorem ok__law_ticks {f : Addr} {fd : FuncData} (F : Fun K "_law_ticks" "_law_ticks" s__law_ticks f fd) (T : Bi mg) (D__law_take : Dn P w K mg base CX0 2 "_law_take" ["_law_draw", "_law_size"] spTake) (D__law_pick : Dn P w K mg base CX0 3 "_law_pick" ["_law_draw", "_law_some"] (spPick K)) : FnOk P w K mg base CX0 4 f fd ["_law_draw"] spTicks := by
  refine F.ok sc__law_ticks (fun vs H Q E h => ?_) (fun cdv A outer s H vs Q E hr h => ?_)
  · obtain ⟨d, w, c, B, rfl, _⟩ := h
    rfl
  · obtain ⟨d, w, c, B, rfl, D, hB, q⟩ := h
    have hu := hu_of hr
    have nd := sc__law_ticks.nd
    refine ⟨_, pss_cons (ps_set (i := 1) nd rfl (by first | exact Or.inl rfl | exact Or.inr rfl) (pe_d D__law_pick (hr.mono (by decide)) pass0 (pa_cons (pv 0) (pa_cons (pe_lst (pa_cons pe_int (pa_cons pe_int (pa_cons pe_int (pa_cons pe_int (pa_cons pe_int (pa_cons pe_int (pa_cons (pe_d D__law_take (hr.mono (by decide)) pass0 (pa_cons (pv 0) (pa_cons pe_int pa_nil))) (pa_cons (pe_d D__law_take (hr.mono (by decide)) pass0 (pa_cons (pv 0) (pa_cons pe_int pa_nil))) (pa_cons pe_int pa_nil)))))))))) pa_nil))))
      (pss_one (ps_ret (pe_ifExp (pt_cmpR op_eq (pe_d D__law_take (hr.mono (by decide)) pass0 (pa_cons (pv 0) (pa_cons pe_int pa_nil))) pe_int (nomark _)) pe_non (pv 1)))), ?_⟩
    have X0 : Ds d w c B H H := ⟨D, Same.refl _⟩
    refine ⟨_, rfl, _, rfl, d, w, c, _, 41, rfl, D, by omega, by decide, by decide, fun k1 H1 k10 k11 D1 S1 => ?_⟩
    have X1 := X0.draw D1 S1
    refine ⟨_, rfl, d, w, c, _, 1001, rfl, X1.dr, by omega, by decide, by decide, fun k2 H2 k20 k21 D2 S2 => ?_⟩
    have X2 := X1.draw D2 S2
    refine ⟨(by show 9 ≤ sizeLine; decide), fun p hp => ⟨d, w, c, _, (X2.new hp).dr, by omega, .inl ⟨p, _, rfl, SqL.of (X2.at hp), by simp, (by show 9 < 2 ^ 60; decide), fun k3 v3 H3 hv3 D3 S3 => ?_⟩⟩⟩
    have X3 := (X2.new hp).draw D3 S3
    obtain ⟨n, rfl, n0, n1⟩ : ∃ n : Int, v3 = .int n ∧ 0 ≤ n ∧ n ≤ 1000 := by
      have hm := at_mem hv3
      simp only [List.mem_cons, List.not_mem_nil, or_false] at hm
      rcases hm with rfl | rfl | rfl | rfl | rfl | rfl | rfl | rfl | rfl
      all_goals refine ⟨_, rfl, ?_, ?_⟩
      all_goals first | omega | decide
    refine ⟨_, rfl, d, w, c, _, 12, rfl, X3.dr, by omega, by decide, by decide, fun k4 H4 k40 k41 D4 S4 => ⟨rfl, _, rfl, ?_⟩⟩
    have X4 := (X3.draw D4 S4).mono (B' := B + 4) (by omega)
    refine ite2 (fun _ => ?_) (fun _ => ?_)
    · exact q none H4 rfl X4
    · refine ⟨_, rfl, q (some n) H4 ?_ X4⟩
      simp [isTicksV, optI, n0, n1]
theorem ok__law_shuffled {f : Addr} {fd : FuncData} (F : Fun K "_law_shuffled" "_law_shuffled" s__law_shuffled f fd) (T : Bi mg) (D__law_take : Dn P w K mg base CX0 2 "_law_take" ["_law_draw", "_law_size"] spTake) : FnOk P w K mg base CX0 3 f fd ["_law_draw", "_law_some"] (spShuffled K) := by
  refine F.ok sc__law_shuffled (fun vs H Q E h => ?_) (fun cdv A outer s H vs Q E hr h => ?_)
  · obtain ⟨d, w, c, a, B, ns, rfl, _⟩ := h
    rfl
  · obtain ⟨d, w, c, a, B, ns, rfl, D, hB, hS, hl, hok, q⟩ := h
    have hu := hu_of hr
    have nd := sc__law_shuffled.nd
    refine ⟨_, pss_cons (ps_par (i := 2) (j := 3) (by rfl) nd rfl rfl (by decide) rfl rfl (pa_cons (pe_callTy call_list_of (by rfl) T.list (by decide +kernel) (pa_cons (pv 1) pa_nil)) (pa_cons (pe_lst pa_nil) pa_nil)) (by rfl))
      (pss_cons (ps_while PassesOwn.never (pt_cmpR (op_neD hr.units) (pv 2) (pe_lst pa_nil) (nomark _)) (pss_one (ps_expr (pe_bm PySem.F.plainAttrs_list PySem.F.slot_list_append PySem.F.type_list_append mt_append (pv 3) (pa_cons (pe_bm PySem.F.plainAttrs_list PySem.F.slot_list_pop PySem.F.type_list_pop mt_popAt (pv 2) (pa_cons (pe_d D__law_take (hr.mono (by decide)) pass0 (pa_cons (pv 0) (pa_cons (pe_callB call_len (by rfl) T.len (by decide +kernel) (pa_cons (pv 2) pa_nil)) pa_nil))) pa_nil)) pa_nil)))))
      (pss_one (ps_ret (pv 3)))), ?_⟩
    have X0 : Ds d w c B H H := ⟨D, Same.refl _⟩
    refine ⟨_, rfl, a, _, rfl, hS.imp (fun h => SqL.sm h hd2_sub) (fun h => SqT.sm h hd2_sub), fun p1 hp1 => ?_⟩
    refine ⟨(by decide), fun p2 hp2 => ⟨_, _, rfl, ?_⟩⟩
    have X2 := (X0.new (o := .lst (ns.map V.str)) hp1).new (o := .lst []) hp2
    obtain ⟨a1, a2, a3⟩ := X0.dr.off hp1
    obtain ⟨b1, b2, b3⟩ := (X0.new (o := .lst (ns.map V.str)) hp1).dr.off hp2
    have n12 : p1 ≠ p2 := fun e => by rw [← e, upd_same] at hp2; cases hp2
    have z1 : hd2 d w H p1 = none := hd2_none hp1
    have z2 : hd2 d w H p2 = none := hd2_none (by rw [upd_ne (Ne.symm n12)] at hp2; exact hp2)
    have f1 := keepA (o := .lst []) (X0.at (o := .lst (ns.map V.str)) hp1) hp2
    have f2 := (X0.new (o := .lst (ns.map V.str)) hp1).at (o := .lst []) hp2
    refine ⟨fun m σ H1 => ∃ (left found : List Str), σ = [some (.ref d), some (.ref a), some (.ref p1), some (.ref p2)] ∧ m = left.length ∧ Ds d w c (B + found.length) H H1 ∧ hd2 d w H1 p1 = some (.lst (left.map V.str)) ∧ hd2 d w H1 p2 = some (.lst (found.map V.str)) ∧ (found ++ left).Perm ns,
      ⟨_, ns, [], rfl, rfl, X2.mono (by simp), f1, f2, List.Perm.refl _⟩, ?_⟩
    rintro m σ H1 ⟨left, found, rfl, rfl, X1, g1, g2, hp⟩
    have lok : ∀ x ∈ left, PyData.strOk x = true := fun x hx => hok x (hp.subset (List.mem_append_right _ hx))
    have hlen : found.length + left.length = ns.length := by
      have := hp.length_eq
      rw [List.length_append] at this
      exact this
    refine ⟨_, rfl, (by decide), fun p3 hp3 => neNilS (hd2_of g1).1 lok hp3 ?_⟩
    refine ⟨_, rfl, ?_⟩
    have X3 := X1.new (o := .lst []) hp3
    have g1 := keepA (o := .lst []) g1 hp3
    have g2 := keepA (o := .lst []) g2 hp3
    generalize upd H1 p3 (.lst []) = H3 at X3 g1 g2
    cases left with
    | nil =>
      refine iteF' rfl ⟨_, rfl, ?_⟩
      rw [List.append_nil] at hp
      refine q p2 found H3 (X3.mono ?_) z2 g2 hp
      rw [List.length_nil, Nat.add_zero] at hlen
      omega
    | cons y r =>
      refine iteT' rfl ?_
      refine ⟨fun σ' H' => ∃ m', m' < (y :: r).length ∧ ∃ (left found : List Str), σ' = [some (.ref d), some (.ref a), some (.ref p1), some (.ref p2)] ∧ m' = left.length ∧ Ds d w c (B + found.length) H H' ∧ hd2 d w H' p1 = some (.lst (left.map V.str)) ∧ hd2 d w H' p2 = some (.lst (found.map V.str)) ∧ (found ++ left).Perm ns, fun _ _ h => h, ?_⟩
      refine ⟨_, rfl, .inl ⟨rfl, _, SqL.of (hd2_of g2).1⟩, _, rfl, .inl ⟨rfl, _, SqL.of (hd2_of g1).1⟩, _, rfl, _, rfl, _, _, rfl, .inl ⟨_, SqL.of (hd2_of g1).1, rfl⟩, ?_⟩
      refine ⟨d, w, c, _, _, rfl, X3.dr, ?_, ?_, ?_, fun k H4 k0 k1 D4 S4 => ?_⟩
      · rw [List.length_cons] at hlen
        omega
      · rw [List.length_map, List.length_cons]
        omega
      · rw [List.length_map]
        rw [List.length_cons] at hlen ⊢
        exact Int.lt_trans (b := 1000) (by omega) (by decide)
      have X4 := X3.draw D4 S4
      have g1 := S4 _ _ g1
      have g2 := S4 _ _ g2
      rw [List.length_map] at k1
      have kl : k.toNat < (y :: r).length := by omega
      obtain ⟨x, hx⟩ : ∃ x, (y :: r)[k.toNat]? = some x := ⟨_, List.getElem?_eq_getElem kl⟩
      refine ⟨p1, _, k, k.toNat, .str x, rfl, rfl, (hd2_of g1).1, ?_, ?_, ?_, ?_, ?_⟩
      · omega
      · rw [List.length_cons] at hlen k1
        exact Int.lt_trans (b := 1000) (by omega) (by decide)
      · rw [List.length_map]
        unfold seqIndex?
        simp only [show ¬ k < 0 by omega, if_false]
        rw [if_pos (by rw [Bool.and_eq_true, decide_eq_true_eq, decide_eq_true_eq]; exact ⟨k0, k1⟩)]
      · rw [List.getElem?_map, hx]
        rfl
      · have X5 : Ds d w c (B + found.length + 1) H (upd H4 p1 (.lst (((y :: r).eraseIdx k.toNat).map V.str))) := X4.put z1 a1 a2 a3
        have e1 : ((y :: r).map V.str).eraseIdx k.toNat = ((y :: r).eraseIdx k.toNat).map V.str := er_map (y :: r) k.toNat
        rw [e1]
        have h2 : upd H4 p1 (.lst (((y :: r).eraseIdx k.toNat).map V.str)) p2 = some (.lst (found.map V.str)) := by rw [upd_ne (Ne.symm n12)]; exact (hd2_of g2).1
        refine ⟨p2, _, _, rfl, rfl, h2, ?_, ?_⟩
        · rw [List.length_map]
          rw [List.length_cons] at hlen
          exact Nat.lt_of_lt_of_le (m := 1000) (by omega) (by decide)
        · have X6 : Ds d w c (B + found.length + 1) H (upd (upd H4 p1 (.lst (((y :: r).eraseIdx k.toNat).map V.str))) p2 (.lst (found.map V.str ++ [.str x]))) := X5.put z2 b1 b2 b3
          refine ⟨((y :: r).eraseIdx k.toNat).length, ?_, (y :: r).eraseIdx k.toNat, found ++ [x], rfl, rfl, X6.mono ?_, ?_, ?_, ?_⟩
          · rw [List.length_eraseIdx_of_lt kl]
            rw [List.length_cons]
            omega
          · rw [List.length_append, List.length_singleton]
            omega
          · rw [hd2_upd b1 b2, upd_ne n12, hd2_upd a1 a2, upd_same]
          · rw [hd2_upd b1 b2, upd_same, List.map_append]
            rfl
          · refine List.Perm.trans ?_ hp
            rw [List.append_assoc]
            exact List.Perm.append_left _ (perm_erase hx).symm
end
end WP
namespace WP
open PySem L2
section
variable {P : Program} {w : World} {K : PySem.W.Frag} {mg : Str → Option Value} {base : Heap}
theorem ok__law_tree {f : Addr} {fd : FuncData} (F : Fun K "_law_tree" "_law_tree" s__law_tree f fd) (T : Bi mg) : FnOk P w K mg base CX0 1 f fd ["_law_pages", "_law_entry"] (spLawTree K) := by
  refine F.ok sc__law_tree (fun vs H Q E h => ?_) (fun cdv A outer s H vs Q E hr h => ?_)
  · obtain ⟨d, e, kvs, fs, rfl, _⟩ := h
    rfl
  · obtain ⟨d, e, kvs, fs, rfl, hd, hP, ok, no, he, q⟩ := h
    have hu := hu_of hr
    have nd := sc__law_tree.nd
    refine ⟨_, pss_cons (ps_par (i := 2) (j := 3) (by rfl) nd rfl rfl (by decide) rfl rfl (pa_cons (pe_lst (pa_cons (pe_tup (pa_cons (pv 1) (pa_cons pe_non pa_nil))) pa_nil)) (pa_cons pe_int pa_nil)) (by rfl))
      (pss_cons (ps_while PassesOwn.never (pt_cmpR op_lt (pv 3) (pe_callB call_len (by rfl) T.len (by decide +kernel) (pa_cons (pv 2) pa_nil)) (nomark _)) (pss_cons (ps_set (i := 4) nd rfl (by first | exact Or.inl rfl | exact Or.inr rfl) (pe_ix ix_tup (pe_ix ix_list (pv 2) (pv 3) (fun _ _ => rfl)) pe_int (fun _ _ => rfl)))
      (pss_cons (ps_for PassesOwn.never rfl (pi_seqW (pe_ix ix_tup (pe_dget hu (pv 0) (pv 4) (fun _ _ => rfl)) pe_int (fun _ _ => rfl))) (pg_name (i := 5) nd rfl (by first | exact Or.inl rfl | exact Or.inr rfl)) (pss_one (ps_expr (pe_bm PySem.F.plainAttrs_list PySem.F.slot_list_append PySem.F.type_list_append mt_append (pv 2) (pa_cons (pe_tup (pa_cons (pv 5) (pa_cons (pv 4) pa_nil))) pa_nil)))))
      (pss_one (ps_set (i := 3) nd rfl (by first | exact Or.inl rfl | exact Or.inr rfl) (pe_op op_add (pv 3) pe_int))))))
      (pss_one (ps_ret (pv 2)))), ?_⟩
    refine ⟨_, rfl, (by show 2 ≤ sizeLine; decide), fun t0 ht0 => ⟨(by show 1 ≤ sizeLine; decide), fun L hL => ⟨_, _, rfl, ?_⟩⟩⟩
    have n0 : t0 ≠ L := fun z => by rw [← z, upd_same] at hL; cases hL
    have hL0 : H L = none := by rw [upd_ne (Ne.symm n0)] at hL; exact hL
    refine ⟨fun m σ H1 => ∃ (ps : List (Str × Option Str)) (as : List Addr) (k : Nat) (v4 v5 : Option V), σ = [some (.ref d), some (.str e), some (.ref L), some (.int k), v4, v5] ∧ Same H H1 ∧ H1 L = some (.lst (as.map V.ref)) ∧ PairsR (del H1 L) as ps ∧ BfsI fs e ps k ∧ m = 5000 - k,
      ⟨_, [(e, none)], [t0], 0, none, none, rfl, (Evl.Ex.new ht0).trans (Evl.Ex.new hL), upd_same, .cons (by rw [del_ne n0, upd_ne n0, upd_same]; rfl) .nil, .start, rfl⟩, ?_⟩
    rintro m σ H1 ⟨ps, as, k, v4, v5, rfl, S1, h1, hR, I, rfl⟩
    have pl := I.lenB ok he
    have al := hR.len
    refine ⟨_, rfl, _, rfl, _, _, rfl, .inl ⟨_, SqL.of h1, rfl⟩, _, _, rfl, rfl, _, rfl, ?_⟩
    rw [List.length_map]
    by_cases hk : k < as.length
    · refine iteT' (decide_eq_true (by omega)) ?_
      refine ⟨fun σ' H' => ∃ m', m' < 5000 - k ∧ ∃ (ps : List (Str × Option Str)) (as : List Addr) (k : Nat) (v4 v5 : Option V), σ' = [some (.ref d), some (.str e), some (.ref L), some (.int k), v4, v5] ∧ Same H H' ∧ H' L = some (.lst (as.map V.ref)) ∧ PairsR (del H' L) as ps ∧ BfsI fs e ps k ∧ m' = 5000 - k, fun _ _ h => h, ?_⟩
      obtain ⟨x, p, hx, hax⟩ := hR.at (List.getElem?_eq_getElem hk)
      have hax1 := del_sub _ _ hax
      refine ⟨_, rfl, _, rfl, L, _, k, .ref as[k], rfl, rfl, SqL.of h1, atI_nat (by rw [List.getElem?_map, List.getElem?_eq_getElem hk]; rfl), _, _, 0, .str x, rfl, rfl, SqT.of hax1, atI_nat (j := 0) rfl, ?_⟩
      have hxk : x ∈ fs.map (·.1) := (I.rc _ (List.mem_of_getElem? hx)).elim (fun z => by have z : x = e := z; rw [z]; exact he) ok.rc_mem
      obtain ⟨g, eg⟩ := lkF_key.mp hxk
      obtain ⟨v, hv, a, r, x0, rest, rfl, hT, hS⟩ := hP.get eg
      have dg : DGet H1 d (.str x) (some (.ref a)) := by
        have := DGet.k (k := Sum.inr x) (S1 _ _ hd)
        rw [hv] at this
        exact this
      refine ⟨_, rfl, _, rfl, d, _, rfl, dg, a, _, 1, .ref r, rfl, rfl, SqT.sm hT S1, atI_nat (j := 1) rfl, r, g.refers.map V.str, fun H' => Same H H', rfl, S1, hS.imp (fun h H' s => SqL.sm h s) (fun h H' s => SqT.sm h s), fun J hW => ?_⟩
      have er := rf_of eg
      have rl := (ok.rf_two x).2
      rw [er] at rl
      refine for_it hW (fun j σ' H2 => Same H H2 ∧ ∃ (bs : List Addr) (v5 : Option V), σ' = [some (.ref d), some (.str e), some (.ref L), some (.int k), some (.str x), v5] ∧ H2 L = some (.lst (bs.map V.ref)) ∧ PairsR (del H2 L) bs (ps ++ (g.refers.take j).map fun y => (y, some x)))
        ⟨S1, as, _, rfl, h1, by rw [List.take_zero, List.map_nil, List.append_nil]; exact hR⟩ (fun j σ' H2 _ h => h.1) ?_ ?_
      · rintro j y σ' H2 H3 hj ⟨S2, bs, v5, rfl, h2, hR2⟩ ⟨rfl, hy⟩
        obtain ⟨y, hyj, rfl⟩ := at_map hy
        rw [List.length_map] at hj
        have bl := hR2.len
        rw [List.length_append, List.length_map, List.length_take] at bl
        refine ⟨_, rfl, .inl ⟨rfl, _, SqL.of h2⟩, _, rfl, _, rfl, (by show 2 ≤ sizeLine; decide), fun t ht => ?_⟩
        have nt : t ≠ L := fun z => by rw [z, h2] at ht; cases ht
        have h2' : upd H3 t (.tup [.str y, .str x]) L = some (.lst (bs.map V.ref)) := by rw [upd_ne (Ne.symm nt)]; exact h2
        refine ⟨L, _, _, rfl, rfl, h2', ?_, ?_⟩
        · rw [List.length_map]
          exact Nat.lt_of_lt_of_le (m := 10000) (by omega) (by decide)
        · refine ⟨Evl.Ex.mut (S2.trans (Evl.Ex.new ht)) hL0, bs ++ [t], _, rfl, by rw [upd_same, List.map_append]; rfl, ?_⟩
          rw [del_upd, List.take_succ, hyj, List.map_append, ← List.append_assoc]
          refine PairsR.app (hR2.same (del_mono (Evl.Ex.new ht))) (.cons ?_ .nil)
          rw [del_ne nt, upd_same]
          rfl
      · rintro σ' H2 ⟨S2, bs, v5, rfl, h2, hR2⟩
        rw [List.length_map, List.take_of_length_le (Nat.le_refl _)] at hR2
        have I2 := I.step ok no hx
        have ek : kids fs x = g.refers.map fun y => (y, some x) := by unfold kids; rw [er]
        rw [ek] at I2
        refine ⟨_, rfl, _, _, rfl, rfl, ?_⟩
        exact ⟨5000 - (k + 1), by omega, _, bs, k + 1, _, _, rfl, S2, h2, hR2, I2, rfl⟩
    · refine iteF' (decide_eq_false (by omega)) ?_
      have hkl := I.kl
      have e1 : k = ps.length := by omega
      rw [e1] at I
      exact ⟨_, rfl, q L as ps H1 S1 hL0 h1 (hR.same del_sub) I pl⟩
theorem ok__law_is_tree {f : Addr} {fd : FuncData} (F : Fun K "_law_is_tree" "_law_is_tree" s__law_is_tree f fd) (T : Bi mg) (D__law_tree : Dn P w K mg base CX0 1 "_law_tree" ["_law_pages", "_law_entry"] (spLawTree K)) : FnOk P w K mg base CX0 2 f fd ["_law_pages", "_law_entry"] (spLawIsTree K) := by
  refine F.ok sc__law_is_tree (fun vs H Q E h => ?_) (fun cdv A outer s H vs Q E hr h => ?_)
  · obtain ⟨d, e, kvs, fs, rfl, _⟩ := h
    rfl
  · obtain ⟨d, e, kvs, fs, rfl, hd, hP, ok, no, he, q⟩ := h
    have hu := hu_of hr
    have nd := sc__law_is_tree.nd
    refine ⟨_, pss_cons (ps_setLc (i := 2) (own := [("_law_pair", 3)]) (g := gName 3) rfl nd rfl rfl (sw_true rfl rfl rfl (by decide +kernel)) (pi_list (pe_d D__law_tree (hr.mono (by decide)) pass0 (pa_cons (pv 0) (pa_cons (pv 1) pa_nil)))) (blkOk_by (own := [("_law_pair", 3)]) (N := ["_law_pages", "_law_entry", "_law_names", "_law_pair"]) (sc := defScope s__law_is_tree) (by decide +kernel)) (fun _ _ _ _ _ => (pg_name (i := 3) nd rfl (by first | exact Or.inl rfl | exact Or.inr rfl))) (fun _ _ _ _ _ => pts_nil) (fun _ _ _ _ _ => (pe_ix (ix_tupK (K := K) rfl) (pv 3) pe_int (fun _ _ => rfl))))
      (pss_one (ps_ret (pe_cmpR op_eq (pe_callB cr_lenS (by rfl) T.len (by decide +kernel) (pa_cons (pe_callTy (cr_setS rfl) (by rfl) T.set (by decide +kernel) (pa_cons (pv 2) pa_nil)) pa_nil)) (pe_callB call_len (by rfl) T.len (by decide +kernel) (pa_cons (pv 2) pa_nil)) (nomark _)))), ?_⟩
    refine ⟨_, rfl, _, rfl, d, e, kvs, fs, rfl, hd, hP, ok, no, he, fun L as ps H1 S1 hL0 h1 hR I pl => ?_⟩
    refine ⟨L, rfl, ⟨_, SqL.of h1⟩, fun D hD => ?_⟩
    refine lc_it walk_list (PvL H1 D (fun i => ps[i]?.map fun p => V.str p.1)) (pv_0 hD) (fun i H2 _ p => SqL.of (p.1 _ _ h1)) ?_ ?_
    · rintro i x H2 H3 hi p ⟨rfl, hx⟩
      obtain ⟨a, ha, rfl⟩ := at_map hx
      obtain ⟨y, o, hy, hay⟩ := hR.at ha
      rw [List.length_map, hR.len] at hi
      refine ⟨rfl, _, rfl, a, _, 0, .str y, rfl, rfl, SqT.of (p.1 _ _ hay), atI_nat (j := 0) rfl, ?_⟩
      exact pv_in p (Same.refl _) (by rw [hy]; rfl) (by omega)
    · intro H2 p
      have p3 := p.2.2
      rw [List.length_map, hR.len, fm_range] at p3
      have p4 : H2 D = some (.lst ((ps.map (·.1)).map V.str)) := by rw [p3, List.map_map]; rfl
      refine ⟨_, rfl, D, ps.map (·.1), rfl, .inl (SqL.of p4), (by rw [List.length_map]; omega), fun p2 hp2 => ?_⟩
      refine ⟨p2, _, rfl, upd_same, (by rw [List.length_map]; omega), fun ys y1 y2 => ?_⟩
      have S3 := Evl.Ex.new (o := SetS P w p2 (ps.map (·.1))) hp2
      refine ⟨_, rfl, _, _, rfl, .inl ⟨_, SqL.of (S3 _ _ p4), rfl⟩, rfl, ?_⟩
      refine q _ _ ((S1.trans p.1).trans S3) fun hb => ?_
      rw [decide_eq_true_eq] at hb
      have hb := V.int.inj hb
      rw [List.length_map] at hb
      have hnd := (nodup_iff y1 y2).mp (show ys.length = (ps.map (·.1)).length by omega)
      exact ⟨⟨ps, I.tree hnd⟩, fun q hq => I.refs hnd hq⟩
end
end WP
namespace WP
open PySem L2
section
variable {P : Program} {w : World} {K : PySem.W.Frag} {mg : Str → Option Value} {base : Heap}
theorem ok__law_links {f : Addr} {fd : FuncData} (F : Fun K "_law_links" "_law_links" s__law_links f fd) (T : Bi mg) (D__law_take : Dn P w K mg base CX0 2 "_law_take" ["_law_draw", "_law_size"] spTake) (D__law_pick : Dn P w K mg base CX0 3 "_law_pick" ["_law_draw", "_law_some"] (spPick K)) (D__law_tree : Dn P w K mg base CX0 1 "_law_tree" ["_law_pages", "_law_entry"] (spLawTree K)) (D__law_is_tree : Dn P w K mg base CX0 2 "_law_is_tree" ["_law_pages", "_law_entry"] (spLawIsTree K)) : FnOk P w K mg base CX0 4 f fd ["_law_draw", "_law_names"] (spLinks K) := by
  refine F.ok sc__law_links (fun vs H Q E h => ?_) (fun cdv A outer s H vs Q E hr h => ?_)
  · obtain ⟨d, w, c, a, B, ns, rfl, _⟩ := h
    rfl
  · obtain ⟨d, w, c, a, B, ns, rfl, D, hB, hS, hne, hl8, hnd, hnm, q⟩ := h
    have hu := hu_of hr
    have nd := sc__law_links.nd
    refine ⟨_, pss_cons (ps_asg (pe_tup (pa_cons (pe_callTy (call_dictP rfl) (by rfl) T.dict (by decide +kernel) (pa_cons (pe_lc (own := [("_law_name", 4)]) (g := gName 4) rfl nd (pi_list (pv 1)) (blkOk_by (own := [("_law_name", 4)]) (N := ["_law_draw", "_law_names", "_law_refers", "_law_roots", "_law_name", "_law_at", "_law_above", "_law_turn", "_law_below_here", "_law_more", "_law_some", "_law_is_ring", "_law_pair", "_law_root"]) (sc := defScope s__law_links) (by decide +kernel)) (fun _ _ _ _ _ => (pg_name (i := 4) nd rfl (by first | exact Or.inl rfl | exact Or.inr rfl))) (fun _ _ _ _ _ => pts_nil) (fun _ _ _ _ _ => (pe_tup (pa_cons (pv 4) (pa_cons (pe_lst pa_nil) pa_nil))))) pa_nil)) (pa_cons (pe_slice sl_list (pv 1) po_none (po_some pe_int)) pa_nil))) (pg_tup rfl (pgs_cons (pg_name (i := 2) nd rfl (by first | exact Or.inl rfl | exact Or.inr rfl)) (pgs_cons (pg_name (i := 3) nd rfl (by first | exact Or.inl rfl | exact Or.inr rfl)) pgs_nil))))
      (pss_cons (ps_for PassesOwn.never rfl (pi_range2 (by rfl) T.range (pa_cons pe_int (pa_cons (pe_callB call_len (by rfl) T.len (by decide +kernel) (pa_cons (pv 1) pa_nil)) pa_nil))) (pg_name (i := 5) nd rfl (by first | exact Or.inl rfl | exact Or.inr rfl)) (pss_cons (ps_set (i := 6) nd rfl (by first | exact Or.inl rfl | exact Or.inr rfl) (pe_d D__law_pick (hr.mono (by decide)) pass0 (pa_cons (pv 0) (pa_cons (pe_slice sl_list (pv 1) po_none (po_some (pv 5))) pa_nil))))
      (pss_one (ps_if (pt_cmpR op_eq (pe_d D__law_take (hr.mono (by decide)) pass0 (pa_cons (pv 0) (pa_cons pe_int pa_nil))) pe_int (nomark _)) (pss_one (ps_set (i := 3) nd rfl (by first | exact Or.inl rfl | exact Or.inr rfl) (pe_op op_cat (pv 3) (pe_lst (pa_cons (pe_ix ix_list (pv 1) (pv 5) (fun _ _ => rfl)) pa_nil))))) (pss_one (ps_dput hu (pv 2) (pv 6) (pe_op op_cat (pe_dget hu (pv 2) (pv 6) (fun _ _ => rfl)) (pe_lst (pa_cons (pe_ix ix_list (pv 1) (pv 5) (fun _ _ => rfl)) pa_nil))) rfl))))))
      (pss_cons (ps_for PassesOwn.never rfl (pi_range1 (by rfl) T.range (pa_cons (pe_d D__law_pick (hr.mono (by decide)) pass0 (pa_cons (pv 0) (pa_cons (pe_lst (pa_cons pe_int (pa_cons pe_int (pa_cons pe_int (pa_cons pe_int pa_nil))))) pa_nil))) pa_nil)) (pg_name (i := 7) nd rfl (by first | exact Or.inl rfl | exact Or.inr rfl)) (pss_cons (ps_par (i := 6) (j := 8) (by rfl) nd rfl rfl (by decide) rfl rfl (pa_cons (pe_d D__law_pick (hr.mono (by decide)) pass0 (pa_cons (pv 0) (pa_cons (pv 3) pa_nil))) (pa_cons (pe_d D__law_pick (hr.mono (by decide)) pass0 (pa_cons (pv 0) (pa_cons (pv 1) pa_nil))) pa_nil)) (by rfl))
      (pss_cons (ps_set (i := 9) nd rfl (by first | exact Or.inl rfl | exact Or.inr rfl) (pe_callTy call_dictD (by rfl) T.dict (by decide +kernel) (pa_cons (pv 2) pa_nil)))
      (pss_cons (ps_dput hu (pv 9) (pv 6) (pe_op op_cat (pe_dget hu (pv 2) (pv 6) (fun _ _ => rfl)) (pe_lst (pa_cons (pv 8) pa_nil))) rfl)
      (pss_cons (ps_set (i := 10) nd rfl (by first | exact Or.inl rfl | exact Or.inr rfl) (pe_callTy (call_dictP rfl) (by rfl) T.dict (by decide +kernel) (pa_cons (pe_lc (own := [("_law_name", 4)]) (g := gName 4) rfl nd (pi_list (pv 1)) (blkOk_by (own := [("_law_name", 4)]) (N := ["_law_draw", "_law_names", "_law_refers", "_law_roots", "_law_name", "_law_at", "_law_above", "_law_turn", "_law_below_here", "_law_more", "_law_some", "_law_is_ring", "_law_pair", "_law_root"]) (sc := defScope s__law_links) (by decide +kernel)) (fun _ _ _ _ _ => (pg_name (i := 4) nd rfl (by first | exact Or.inl rfl | exact Or.inr rfl))) (fun _ _ _ _ _ => pts_nil) (fun _ _ _ _ _ => (pe_tup (pa_cons (pv 4) (pa_cons (pe_tup (pa_cons pe_str (pa_cons (pe_callTy (call_tuple_ofK (K := K) rfl) (by rfl) T.tuple (by decide +kernel) (pa_cons (pe_dget hu (pv 9) (pv 4) (fun _ _ => rfl)) pa_nil)) pa_nil))) pa_nil))))) pa_nil)))
      (pss_cons (ps_set (i := 11) nd rfl (by first | exact Or.inl rfl | exact Or.inr rfl) (pe_cmpR op_in_seq (pv 6) (pe_lc (own := [("_law_pair", 12)]) (g := gName 12) rfl nd (pi_list (pe_d D__law_tree (hr.mono (by decide)) pass0 (pa_cons (pe_callTy (call_dictP rfl) (by rfl) T.dict (by decide +kernel) (pa_cons (pe_lc (own := [("_law_name", 4)]) (g := gName 4) rfl nd (pi_list (pv 1)) (blkOk_by (own := [("_law_name", 4)]) (N := ["_law_draw", "_law_names", "_law_refers", "_law_roots", "_law_name", "_law_at", "_law_above", "_law_turn", "_law_below_here", "_law_more", "_law_some", "_law_is_ring", "_law_pair", "_law_root"]) (sc := defScope s__law_links) (by decide +kernel)) (fun _ _ _ _ _ => (pg_name (i := 4) nd rfl (by first | exact Or.inl rfl | exact Or.inr rfl))) (fun _ _ _ _ _ => pts_nil) (fun _ _ _ _ _ => (pe_tup (pa_cons (pv 4) (pa_cons (pe_tup (pa_cons pe_str (pa_cons (pe_dget hu (pv 2) (pv 4) (fun _ _ => rfl)) pa_nil))) pa_nil))))) pa_nil)) (pa_cons (pv 8) pa_nil)))) (blkOk_by (own := [("_law_pair", 12)]) (N := ["_law_draw", "_law_names", "_law_refers", "_law_roots", "_law_name", "_law_at", "_law_above", "_law_turn", "_law_below_here", "_law_more", "_law_some", "_law_is_ring", "_law_pair", "_law_root"]) (sc := defScope s__law_links) (by decide +kernel)) (fun _ _ _ _ _ => (pg_name (i := 12) nd rfl (by first | exact Or.inl rfl | exact Or.inr rfl))) (fun _ _ _ _ _ => pts_nil) (fun _ _ _ _ _ => (pe_ix (ix_tupK (K := K) rfl) (pv 12) pe_int (fun _ _ => rfl)))) (by rfl)))
      (pss_one (ps_if (PW.pt (pw_and (pt_not (pt_val (pv 11))) (pw_and1 (pt_cmpR op_notIn_seq pe_bl (pe_lc (own := [("_law_root", 13)]) (g := gName 13) rfl nd (pi_list (pv 3)) (blkOk_by (own := [("_law_root", 13)]) (N := ["_law_draw", "_law_names", "_law_refers", "_law_roots", "_law_name", "_law_at", "_law_above", "_law_turn", "_law_below_here", "_law_more", "_law_some", "_law_is_ring", "_law_pair", "_law_root"]) (sc := defScope s__law_links) (by decide +kernel)) (fun _ _ _ _ _ => (pg_name (i := 13) nd rfl (by first | exact Or.inl rfl | exact Or.inr rfl))) (fun _ _ _ _ _ => pts_nil) (fun _ _ _ _ _ => (pe_d D__law_is_tree (hr.mono (by decide)) pass0 (pa_cons (pv 10) (pa_cons (pv 13) pa_nil))))) (by rfl))))) (pss_one (ps_set (i := 2) nd rfl (by first | exact Or.inl rfl | exact Or.inr rfl) (pv 9))) pss_nil))))))))
      (pss_one (ps_ret (pe_tup (pa_cons (pv 2) (pa_cons (pv 3) pa_nil))))))), ?_⟩
    have X0 : Ds d w c B H H := ⟨D, Same.refl _⟩
    -- {name: [] ..}
    refine ⟨_, rfl, a, rfl, ⟨_, SqL.sm hS hd2_sub⟩, fun D1 hD1 => ?_⟩
    refine lc_it walk_list (fun i Hi => Same H Hi ∧ ∃ (as : List Addr) (kvs : List (Key × V)), Hi D1 = some (.lst (as.map V.ref)) ∧ TupsR (del Hi D1) as kvs ∧ RefsR (del (fr H Hi) D1) kvs (bareF (ns.take i)))
      ⟨Evl.Ex.new hD1, [], [], upd_same, .nil, .nil⟩ (fun i Hi _ p => SqL.sm (SqL.sm hS hd2_sub) p.1) ?_ ?_
    · rintro i x Hi Hj hi ⟨Si, as, kvs, h1, hT, hR⟩ ⟨rfl, hx⟩
      obtain ⟨n, hn, rfl⟩ := at_map hx
      have al : as.length ≤ 8 := by
        have e1 := hT.len
        have e2 := congrArg List.length hR.keys
        rw [List.length_map, List.length_map, List.length_map] at e2
        unfold bareF at e2
        rw [List.length_map, List.length_take] at e2
        omega
      refine ⟨rfl, _, rfl, (by decide), fun p1 hp1 => ⟨(by show 2 ≤ sizeLine; decide), fun p2 hp2 => ?_⟩⟩
      have n1 : p1 ≠ D1 := fun z => by rw [z, h1] at hp1; cases hp1
      have S2 := (Evl.Ex.new (o := .lst []) hp1).trans (Evl.Ex.new (o := .tup [.str n, .ref p1]) hp2)
      have n2 : p2 ≠ D1 := fun z => by rw [z] at hp2; rw [upd_ne (Ne.symm n1), h1] at hp2; cases hp2
      have n12 : p1 ≠ p2 := fun z => by rw [← z, upd_same] at hp2; cases hp2
      refine ⟨_, S2 _ _ h1, (by rw [List.length_map]; exact Nat.lt_of_le_of_lt al (by decide)), Evl.Ex.mut (Si.trans S2) hD1, as ++ [p2], kvs ++ [(.inr n, .ref p1)], by rw [upd_same, List.map_append]; rfl, ?_, ?_⟩
      · rw [del_upd]
        refine (hT.same (del_mono S2)).app (.cons ?_ .nil)
        rw [del_ne n2, upd_same]
        rfl
      · rw [fr_upd hD1, del_upd, List.take_succ, hn]
        have e3 : bareF (ns.take i ++ (some n).toList) = bareF (ns.take i) ++ [(n, ⟨false, [], none, []⟩)] := by
          unfold bareF
          rw [List.map_append]
          rfl
        rw [e3]
        refine (hR.same (del_mono (fr_mono S2))).app (.cons ?_ .nil)
        rw [del_ne n1, fr_at (none_back Si hp1), upd_ne n12, upd_same]
        rfl
    · rintro H1 ⟨S1, as, kvs, h1, hT, hR⟩
      rw [List.length_map, List.take_of_length_le (Nat.le_refl _)] at hR
      have kk : kvs.map (·.1) = ns.map Sum.inr := by
        rw [hR.keys, bareF_keys]
      refine ⟨D1, as, kvs, rfl, SqL.of h1, (hT.same del_sub).paired, fun p hp => ?_⟩
      rw [merge_nd (by rw [kk]; exact List.pairwise_map.mpr (hnd.imp fun h e => h (Sum.inr.inj e)))]
      have S2 := S1.trans (Evl.Ex.new (o := .dK kvs) hp)
      have hR2 : RefsR (fr H (upd H1 p (.dK kvs))) kvs (bareF ns) := (hR.same del_sub).same (fr_mono (Evl.Ex.new hp))
      have hp2 : upd H1 p (.dK kvs) p = some (.dK kvs) := upd_same
      have hp0 : H p = none := by
        cases e : H p with
        | none => rfl
        | some u => rw [S1 _ _ e] at hp; cases hp
      generalize upd H1 p (.dK kvs) = H2 at S2 hR2 hp2
      obtain ⟨n0, nr, rfl⟩ : ∃ n0 nr, ns = n0 :: nr := by
        cases ns with
        | nil => exact absurd rfl hne
        | cons a b => exact ⟨a, b, rfl⟩
      have hS2 := SqL.sm (SqL.sm hS hd2_sub) S2
      refine ⟨_, rfl, _, rfl, a, _, rfl, hS2, fun r0 hr0 => ⟨(by show 2 ≤ sizeLine; decide), fun t0 ht0 => ?_⟩⟩
      have ec : cutV ((n0 :: nr).map V.str) none (some 1) = [V.str n0] := by
        unfold cutV
        simp [HT.sIx]
      rw [ec] at ht0 ⊢
      refine ⟨t0, _, rfl, SqT.of upd_same, rfl, _, _, rfl, _, _, rfl, rfl, ?_⟩
      have S23 := (Evl.Ex.new (o := .lst [.str n0]) hr0).trans (Evl.Ex.new (o := .tup [.ref p, .ref r0]) ht0)
      have X3 := X0.same (S2.trans S23)
      have hR3 := (hR2.same (fr_mono S23)).same (fr_hd2 D)
      obtain ⟨pd, pw, pc⟩ := D.off hp0
      have hp3 : hd2 d w (upd (upd H2 r0 (.lst [.str n0])) t0 (.tup [.ref p, .ref r0])) p = some (.dK kvs) := hd2_mk (S23 _ _ hp2) pd pw
      have hr00 : H r0 = none := none_back S2 hr0
      obtain ⟨rd, rw_, _⟩ := D.off hr00
      have hr3 : hd2 d w (upd (upd H2 r0 (.lst [.str n0])) t0 (.tup [.ref p, .ref r0])) r0 = some (.lst ([n0].map V.str)) := hd2_mk ((Evl.Ex.new ht0) _ _ upd_same) rd rw_
      generalize upd (upd H2 r0 (.lst [.str n0])) t0 (.tup [.ref p, .ref r0]) = H3 at X3 hR3 hp3 hr3
      have I0 := LInv.start hnd hl8 hnm
      have zp : hd2 d w H p = none := hd2_none hp0
      generalize hns : n0 :: nr = ns at *
      have hnl : 1 ≤ ns.length := by rw [← hns]; exact Nat.succ_le_succ (Nat.zero_le _)
      have ht1 : ns.take 1 = [n0] := by rw [← hns]; rfl
      refine ⟨_, rfl, _, _, rfl, .inl ⟨_, SqL.sm (X3.fr.seq hS) hd2_sub, rfl⟩, 1, _, rfl, ⟨by decide, by decide, by rw [List.length_map]; omega, by rw [List.length_map]; omega⟩, ?_⟩
      refine for_it walk_range (fun i σ Hi => Ds d w c (B + 2 * i) H Hi ∧ ∃ (r : Addr) (kvs : List (Key × V)) (fs : List (Str × FileD)) (roots : List Str) (v4 v5 v6 : Option V), σ = [some (.ref d), some (.ref a), some (.ref p), some (.ref r), v4, v5, v6, none, none, none, none, none, none, none] ∧ hd2 d w Hi p = some (.dK kvs) ∧ RefsR (hd2 d w Hi) kvs fs ∧ hd2 d w Hi r = some (.lst (roots.map V.str)) ∧ LInv ns (ns.take (i + 1)) fs roots ∧ roots.length ≤ i + 1)
        ⟨X3.mono (by omega), r0, kvs, bareF ns, [n0], _, _, _, rfl, hp3, hR3, hr3, by rw [ht1]; exact I0, Nat.le_refl _⟩ (fun _ _ _ _ _ => trivial) ?_ ?_
      · rintro i x σ Hi Hj hi ⟨Xi, r, kvs, fs, roots, v4, v5, v6, rfl, g1, g2, g3, I, rl⟩ ⟨rfl, rfl⟩
        rw [List.length_map] at hi
        have hi1 : i + 1 < ns.length := by omega
        obtain ⟨m, hm⟩ : ∃ m, ns[i + 1]? = some m := ⟨_, List.getElem?_eq_getElem hi1⟩
        have hSi := Xi.fr.seq hS
        refine ⟨_, rfl, _, rfl, _, rfl, _, rfl, a, _, rfl, SqL.sm hSi hd2_sub, fun q1 hq1 => ?_⟩
        have ec : cutV (ns.map V.str) none (some (1 + (i : Nat) : Int)) = (ns.take (i + 1)).map V.str := by
          have := cut_to (xs := ns.map V.str) (n := i + 1) (by rw [List.length_map]; omega)
          rw [← List.map_take] at this
          rw [← this]
          congr 2
          omega
        have ec2 : cutV (ns.map V.str) none (some (1 + (i : Nat) : Int)) ≠ [] := by
          rw [ec]
          intro z
          have := congrArg List.length z
          rw [List.length_map, List.length_take] at this
          simp only [List.length_nil] at this
          omega
        have ec3 : (cutV (ns.map V.str) none (some (1 + (i : Nat) : Int))).length < 2 ^ 60 := by
          rw [ec, List.length_map, List.length_take]
          omega
        refine ⟨d, w, c, _, (Xi.new hq1).dr, (by omega), .inl ⟨q1, _, rfl, SqL.of (Xi.at hq1), ec2, ec3, fun k v H' hk D' S' => ?_⟩⟩
        have hk2 : ((ns.take (i + 1)).map V.str)[k]? = some v := by rw [← ec]; exact hk
        obtain ⟨av, hav, rfl⟩ := at_map hk2
        have haS : av ∈ ns.take (i + 1) := List.mem_of_getElem? hav
        have X4 := (Xi.new (o := .lst (cutV (ns.map V.str) none (some (1 + (i : Nat) : Int)))) hq1).draw D' S'
        have S4 := (hd2_new (d := d) (w := w) (o := .lst (cutV (ns.map V.str) none (some (1 + (i : Nat) : Int)))) hq1).trans S'
        refine ⟨_, rfl, d, w, c, _, 5, rfl, X4.dr, by omega, by decide, by decide, fun t5 H5 h0 h5 D5 S5 => ⟨rfl, _, rfl, ?_⟩⟩
        have X5 := X4.draw D5 S5
        have S45 := S4.trans S5
        have hS5 := X5.fr.seq hS
        have em : atI (ns.map V.str) (1 + (i : Nat) : Int) = some (.str m) := by
          rw [show (1 + (i : Nat) : Int) = ((i + 1 : Nat) : Int) by omega]
          exact atI_nat (by rw [List.getElem?_map, hm]; rfl)
        have hmn : m ∉ ns.take (i + 1) := take_not hnd hm
        have hmm : m ∈ ns := List.mem_of_getElem? hm
        have etk : ns.take (i + 1 + 1) = ns.take (i + 1) ++ [m] := by
          rw [List.take_succ, hm]
          rfl
        refine ite2 (fun _ => ?_) (fun _ => ?_)
        · refine ⟨_, rfl, _, rfl, _, rfl, a, _, _, _, rfl, rfl, SqL.sm hS5 hd2_sub, em, (by show 1 ≤ sizeLine; decide), fun q2 hq2 => ?_⟩
          have X6 := X5.new (o := .lst [.str m]) hq2
          have S6 := S45.trans (hd2_new (d := d) (w := w) (o := .lst [.str m]) hq2)
          refine ⟨r, q2, _, _, rfl, rfl, (hd2_of (S6 _ _ g3)).1, upd_same, (by rw [List.length_map]; show roots.length + 1 ≤ _; rw [sizeLine_eq]; omega), fun q3 hq3 => ?_⟩
          have X7 := X6.new (o := .lst (roots.map V.str ++ [.str m])) hq3
          have S7 := S6.trans (hd2_new (d := d) (w := w) (o := .lst (roots.map V.str ++ [.str m])) hq3)
          refine ⟨X7.mono (by omega), q3, kvs, fs, roots ++ [m], _, _, _, rfl, S7 _ _ g1, g2.same S7, ?_, ?_, ?_⟩
          · rw [List.map_append]
            exact X6.at hq3
          · rw [etk]
            exact I.stepA hmn hmm
          · rw [List.length_append, List.length_singleton]
            omega
        · obtain ⟨fa, hfa⟩ : ∃ fa, lkF fs av = some fa := lkF_key.mp (by rw [I.keys]; exact I.sn av haS)
          obtain ⟨ra, hra, hrb⟩ := (g2.same S45).get hfa
          have dg := DGet.k (k := .inr av) (hd2_of (S45 _ _ g1)).1
          rw [hra] at dg
          refine ⟨_, rfl, _, rfl, p, _, rfl, dg, _, rfl, _, rfl, a, _, _, _, rfl, rfl, SqL.sm hS5 hd2_sub, em, (by show 1 ≤ sizeLine; decide), fun q2 hq2 => ?_⟩
          have X6 := X5.new (o := .lst [.str m]) hq2
          have S26 := hd2_new (d := d) (w := w) (o := .lst [.str m]) hq2
          have S6 := S45.trans S26
          refine ⟨ra, q2, _, _, rfl, rfl, (hd2_of (S26 _ _ hrb)).1, upd_same, ?_, fun q3 hq3 => ?_⟩
          · have := (I.ok.two.rc2 _ _ hfa).2
            rw [List.length_map, sizeLine_eq]
            show fa.refers.length + 1 ≤ _
            omega
          have X7 := X6.new (o := .lst (fa.refers.map V.str ++ [.str m])) hq3
          have S7 := S6.trans (hd2_new (d := d) (w := w) (o := .lst (fa.refers.map V.str ++ [.str m])) hq3)
          have h7 := X6.at (o := .lst (fa.refers.map V.str ++ [.str m])) hq3
          have hp7 := S7 _ _ g1
          have hr7 := S7 _ _ g3
          have g7 := g2.same S7
          generalize upd (upd H5 q2 (.lst [.str m])) q3 (.lst (fa.refers.map V.str ++ [.str m])) = H7 at X7 S7 h7 hp7 hr7 g7
          have n1 : r ≠ p := fun z => by rw [z, hp7] at hr7; cases hr7
          have n3 : q3 ≠ p := fun z => by rw [z, hp7] at h7; cases h7
          refine ⟨_, rfl, _, rfl, p, _, rfl, DPut.k (k := .inr av) (hd2_of hp7).1 ?_, (X7.put zp pd pw pc).mono (by omega), r, putK kvs (.inr av) (.ref q3), addRef fs av m, roots, _, _, _, rfl, ?_, ?_, ?_, ?_, ?_⟩
          · exact g2.small I.ok
          · rw [hd2_upd pd pw, upd_same]
          · rw [hd2_upd pd pw]
            refine (g7.putd hp7).put I.ok.nd hfa ?_
            rw [upd_ne n3, h7, List.map_append]
            rfl
          · rw [hd2_upd pd pw, upd_ne n1]
            exact hr7
          · rw [etk]
            exact I.stepB haS hmn hmm
          · omega
      · rintro σ H4 ⟨X4, r, kvs, fs, roots, v4, v5, v6, rfl, g1, g2, g3, I, rl⟩
        rw [List.length_map] at X4 I rl
        rw [List.take_of_length_le (by omega)] at I
        have X4 := X4.mono (B' := B + 14) (by omega)
        refine ⟨_, rfl, (by show 4 ≤ sizeLine; decide), fun q1 hq1 => ⟨d, w, c, _, (X4.new hq1).dr, by omega, .inl ⟨q1, _, rfl, SqL.of (X4.at hq1), by simp, (by show 4 < 2 ^ 60; decide), fun k v H5 hk D5 S5 => ?_⟩⟩⟩
        have X5 := (X4.new hq1).draw D5 S5
        have S45 := (hd2_new (d := d) (w := w) (o := .lst [.int 0, .int 1, .int 2, .int 3]) hq1).trans S5
        obtain ⟨n, rfl, hn⟩ : ∃ n : Nat, v = .int n ∧ n ≤ 3 := by
          have hm := at_mem hk
          simp only [List.mem_cons, List.not_mem_nil, or_false] at hm
          rcases hm with rfl | rfl | rfl | rfl
          · exact ⟨0, rfl, by decide⟩
          · exact ⟨1, rfl, by decide⟩
          · exact ⟨2, rfl, by decide⟩
          · exact ⟨3, rfl, by decide⟩
        refine ⟨n, rfl, by omega, by omega, ?_⟩
        refine for_it walk_range (fun i σ Hi => Ds d w c (B + 15 + 2 * i) H Hi ∧ ∃ (l : Addr) (kvs : List (Key × V)) (fs : List (Str × FileD)) (v4 v5 v6 v7 v8 v9 v10 v11 v12 v13 : Option V), σ = [some (.ref d), some (.ref a), some (.ref l), some (.ref r), v4, v5, v6, v7, v8, v9, v10, v11, v12, v13] ∧ hd2 d w Hi l = some (.dK kvs) ∧ RefsR (hd2 d w Hi) kvs fs ∧ hd2 d w Hi r = some (.lst (roots.map V.str)) ∧ LInv ns ns fs roots)
          ⟨X5.mono (by omega), p, kvs, fs, _, _, _, _, _, _, _, _, _, _, rfl, S45 _ _ g1, g2.same S45, S45 _ _ g3, I⟩ (fun _ _ _ _ _ => trivial) ?_ ?_
        · clear g1 g2 g3 I X4 X5 S45 D5 S5
          clear v4 v5 v6 kvs fs
          rintro i x σ Hi Hj hi ⟨Xi, l, kvs, fs, v4, v5, v6, v7, v8, v9, v10, v11, v12, v13, rfl, g1, g2, g3, I⟩ ⟨rfl, rfl⟩
          have hi3 : i < 3 := by omega
          refine ⟨_, rfl, _, rfl, d, w, c, _, Xi.dr, by omega, .inl ⟨r, _, rfl, SqL.of g3, ?_, ?_, fun k1 v1 H1 hk1 D1 S1 => ?_⟩⟩
          · intro z
            exact I.ne (List.map_eq_nil_iff.mp z)
          · rw [List.length_map]
            exact Nat.lt_of_le_of_lt (m := 8) (by omega) (by decide)
          obtain ⟨av, hav, rfl⟩ := at_map hk1
          have X1 := Xi.draw D1 S1
          refine ⟨_, rfl, _, rfl, d, w, c, _, X1.dr, by omega, .inl ⟨a, _, rfl, X1.fr.seq hS, ?_, ?_, fun k2 v2 H2 hk2 D2 S2 => ?_⟩⟩
          · intro z
            exact hne (List.map_eq_nil_iff.mp z)
          · rw [List.length_map]
            exact Nat.lt_of_le_of_lt hl8 (by decide)
          obtain ⟨bv, hbv, rfl⟩ := at_map hk2
          have X2 := X1.draw D2 S2
          have S02 := S1.trans S2
          have har : av ∈ roots := List.mem_of_getElem? hav
          have hbn : bv ∈ ns := List.mem_of_getElem? hbv
          have g1 := S02 _ _ g1
          have g2 := g2.same S02
          have g3 := S02 _ _ g3
          clear S1 S2 S02 D1 D2 hk1 hk2 X1 Xi
          obtain ⟨fa, hfa⟩ : ∃ fa, lkF fs av = some fa := lkF_key.mp (by rw [I.keys]; exact I.rs av har)
          refine ⟨_, _, rfl, _, rfl, l, kvs, rfl, .inl (hd2_of g1).1, fun p9 hp9 => ?_⟩
          have X3 := X2.new (o := .dK kvs) hp9
          have S3 := hd2_new (d := d) (w := w) (o := .dK kvs) hp9
          have z9 : hd2 d w H p9 = none := by
            cases e : hd2 d w H p9 with
            | none => rfl
            | some u => have := (hd2_of (X2.fr _ _ e)).1; rw [hp9] at this; cases this
          obtain ⟨ed, ew, ec9⟩ := X2.dr.off hp9
          have n9 : l ≠ p9 := fun z => by have := (hd2_of g1).1; rw [z, hp9] at this; cases this
          have nr9 : r ≠ p9 := fun z => by have := (hd2_of g3).1; rw [z, hp9] at this; cases this
          have h9 := X2.at (o := .dK kvs) hp9
          have g1 := S3 _ _ g1
          have g2 := g2.same S3
          have g3 := S3 _ _ g3
          generalize upd H2 p9 (.dK kvs) = H3 at X3 h9 g1 g2 g3
          clear S3
          obtain ⟨ra, hra, hrb⟩ := g2.get hfa
          have dg := DGet.k (k := .inr av) (hd2_of g1).1
          rw [hra] at dg
          have S26 := fun q2 hq2 => hd2_new (d := d) (w := w) (H := H3) (p := q2) (o := .lst [.str bv]) hq2
          refine ⟨_, rfl, _, rfl, l, _, rfl, dg, _, rfl, (by show 1 ≤ sizeLine; decide), fun q2 hq2 => ⟨ra, q2, _, _, rfl, rfl, (hd2_of (S26 q2 hq2 _ _ hrb)).1, upd_same, ?_, fun q3 hq3 => ?_⟩⟩
          · have := (I.ok.two.rc2 _ _ hfa).2
            rw [List.length_map, sizeLine_eq]
            show fa.refers.length + 1 ≤ _
            omega
          have S26 := S26 q2 hq2
          have X6 := X3.new (o := .lst [.str bv]) hq2
          have X7 := X6.new (o := .lst (fa.refers.map V.str ++ [.str bv])) hq3
          have S7 := S26.trans (hd2_new (d := d) (w := w) (o := .lst (fa.refers.map V.str ++ [.str bv])) hq3)
          have h7 := X6.at (o := .lst (fa.refers.map V.str ++ [.str bv])) hq3
          have hp7 := S7 _ _ h9
          have g1 := S7 _ _ g1
          have g2 := g2.same S7
          have g3 := S7 _ _ g3
          generalize upd (upd H3 q2 (.lst [.str bv])) q3 (.lst (fa.refers.map V.str ++ [.str bv])) = H7 at X7 S7 h7 hp7 g1 g2 g3
          have n3 : q3 ≠ p9 := fun z => by rw [z, hp7] at h7; cases h7
          refine ⟨_, rfl, _, rfl, p9, _, rfl, DPut.k (k := .inr av) (hd2_of hp7).1 (g2.small I.ok), ?_⟩
          have X8 := X7.put (o := .dK (putK kvs (.inr av) (.ref q3))) z9 ed ew ec9
          have f9 : hd2 d w (upd H7 p9 (.dK (putK kvs (.inr av) (.ref q3)))) p9 = some (.dK (putK kvs (.inr av) (.ref q3))) := by rw [hd2_upd ed ew, upd_same]
          have f2 : RefsR (hd2 d w (upd H7 p9 (.dK (putK kvs (.inr av) (.ref q3))))) kvs fs := by
            rw [hd2_upd ed ew]
            exact g2.putd hp7
          have f3 : RefsR (hd2 d w (upd H7 p9 (.dK (putK kvs (.inr av) (.ref q3))))) (putK kvs (.inr av) (.ref q3)) (addRef fs av bv) := by
            rw [hd2_upd ed ew]
            refine (g2.putd hp7).put I.ok.nd hfa ?_
            rw [upd_ne n3, h7, List.map_append]
            rfl
          have f1 : hd2 d w (upd H7 p9 (.dK (putK kvs (.inr av) (.ref q3)))) l = some (.dK kvs) := by
            rw [hd2_upd ed ew, upd_ne n9]
            exact g1
          have fr3 : hd2 d w (upd H7 p9 (.dK (putK kvs (.inr av) (.ref q3)))) r = some (.lst (roots.map V.str)) := by
            rw [hd2_upd ed ew, upd_ne nr9]
            exact g3
          generalize upd H7 p9 (.dK (putK kvs (.inr av) (.ref q3))) = H8 at X8 f9 f1 f2 f3 fr3
          generalize putK kvs (.inr av) (.ref q3) = kv9 at f9 f3
          clear g1 g2 g3 hp7 h7 X7 S7 X6 S26 hq2 hq3 X3 h9 hrb hra dg n3
          have hbk : bv ∈ fs.map (·.1) := by rw [I.keys]; exact hbn
          have hak : av ∈ fs.map (·.1) := by rw [I.keys]; exact I.rs av har
          have ok2 : FsOk2 (addRef fs av bv) := addRef_ok2 I.ok hak hbk
          have keys2 : (addRef fs av bv).map (·.1) = ns := by rw [addRef_keys]; exact I.keys
          have hS8 := SqL.sm (X8.fr.seq hS) hd2_sub
          have F3 := f3.same hd2_sub
          have F2 := f2.same hd2_sub
          refine ⟨_, rfl, a, rfl, ⟨_, hS8⟩, fun D1 hD1 => ?_⟩
          refine lc_it walk_list (fun i Hi => Same H8 Hi ∧ ∃ (as : List Addr) (kvs : List (Key × V)), Hi D1 = some (.lst (as.map V.ref)) ∧ TupsR (del Hi D1) as kvs ∧ PagesR K (del Hi D1) kvs ((addRef fs av bv).take i))
            ⟨Evl.Ex.new hD1, [], [], upd_same, .nil, .nil⟩ (fun i Hi _ p => SqL.sm hS8 p.1) ?_ ?_
          · rintro i x Hi Hj hi ⟨Si, as, kvs, h1, hT, hR⟩ ⟨rfl, hx⟩
            obtain ⟨n, hn, rfl⟩ := at_map hx
            obtain ⟨f, hf, hlf⟩ := fs_at keys2 hnd hn
            obtain ⟨rr, hr1, hr2⟩ := F3.get hlf
            have al : as.length ≤ 8 := by
              have e1 := hT.len
              have e2 := congrArg List.length hR.keys
              rw [List.length_map, List.length_map, List.length_map, List.length_take] at e2
              have := ok2.few
              omega
            have dg := DGet.k (k := .inr n) (Si _ _ (hd2_of f9).1)
            rw [hr1] at dg
            refine ⟨rfl, _, rfl, _, rfl, _, rfl, p9, _, rfl, dg, rr, _, rfl, .inl ⟨SqL.of (Si _ _ hr2), fun t1 ht1 => ⟨(by show 2 ≤ sizeLine; decide), fun t2 ht2 => ⟨(by show 2 ≤ sizeLine; decide), fun t3 ht3 => ?_⟩⟩⟩⟩
            have s1 := Evl.Ex.new (o := .tup (f.refers.map V.str)) ht1
            have s2 := Evl.Ex.new (o := .tup [.str "", .ref t1]) ht2
            have s3 := Evl.Ex.new (o := .tup [.str n, .ref t2]) ht3
            have S2 := (s1.trans s2).trans s3
            have n1 : t1 ≠ D1 := fun z => by rw [z, h1] at ht1; cases ht1
            have n2 : t2 ≠ D1 := fun z => by rw [z, s1 _ _ h1] at ht2; cases ht2
            have n3 : t3 ≠ D1 := fun z => by rw [z, s2 _ _ (s1 _ _ h1)] at ht3; cases ht3
            refine ⟨_, S2 _ _ h1, (by rw [List.length_map]; exact Nat.lt_of_le_of_lt al (by decide)), Evl.Ex.mut (Si.trans S2) hD1, as ++ [t3], kvs ++ [(.inr n, .ref t2)], by rw [upd_same, List.map_append]; rfl, ?_, ?_⟩
            · rw [del_upd]
              refine (hT.same (del_mono S2)).app (.cons ?_ .nil)
              rw [del_ne n3, upd_same]
              rfl
            · rw [del_upd, take_at hf]
              refine (hR.same (del_mono S2)).app (.cons ⟨t2, t1, .str "", [], rfl, SqT.of ?_, .inr (SqT.of ?_)⟩ .nil)
              · rw [del_ne n2]
                exact s3 _ _ upd_same
              · rw [del_ne n1]
                exact s3 _ _ (s2 _ _ upd_same)
          · rintro H9 ⟨S9, as, kvsP, h1, hT, hR⟩
            rw [List.length_map, List.take_of_length_le (by rw [← keys2, List.length_map]; exact Nat.le_refl _)] at hR
            have kk : kvsP.map (·.1) = ns.map Sum.inr := by
              rw [hR.keys, keys2]
            refine ⟨D1, as, kvsP, rfl, SqL.of h1, (hT.same del_sub).paired, fun p10 hp10 => ?_⟩
            rw [merge_nd (by rw [kk]; exact List.pairwise_map.mpr (hnd.imp fun h e => h (Sum.inr.inj e)))]
            have S10 := S9.trans (Evl.Ex.new (o := .dK kvsP) hp10)
            have hR := (hR.same del_sub).same (Evl.Ex.new (o := .dK kvsP) hp10)
            have hp10 : upd H9 p10 (.dK kvsP) p10 = some (.dK kvsP) := upd_same
            generalize upd H9 p10 (.dK kvsP) = H10 at S10 hR hp10
            clear h1 hT kk S9 hD1
            have hS10 := SqL.sm hS8 S10
            have F2 := F2.same S10
            refine ⟨_, rfl, _, rfl, a, rfl, ⟨_, hS10⟩, fun D2 hD2 => ?_⟩
            refine lc_it walk_list (fun i Hi => Same H10 Hi ∧ ∃ (as : List Addr) (kvs : List (Key × V)), Hi D2 = some (.lst (as.map V.ref)) ∧ TupsR (del Hi D2) as kvs ∧ PagesR K (del Hi D2) kvs (fs.take i))
              ⟨Evl.Ex.new hD2, [], [], upd_same, .nil, .nil⟩ (fun i Hi _ p => SqL.sm hS10 p.1) ?_ ?_
            · rintro i x Hi Hj hi ⟨Si, as, kvs, h1, hT, hR⟩ ⟨rfl, hx⟩
              obtain ⟨n, hn, rfl⟩ := at_map hx
              obtain ⟨f, hf, hlf⟩ := fs_at I.keys hnd hn
              obtain ⟨rr, hr1, hr2⟩ := F2.get hlf
              have al : as.length ≤ 8 := by
                have e1 := hT.len
                have e2 := congrArg List.length hR.keys
                rw [List.length_map, List.length_map, List.length_map, List.length_take] at e2
                have := I.ok.few
                omega
              have dg := DGet.k (k := .inr n) (Si _ _ (S10 _ _ (hd2_of f1).1))
              rw [hr1] at dg
              refine ⟨rfl, _, rfl, _, rfl, _, rfl, l, _, rfl, dg, (by show 2 ≤ sizeLine; decide), fun t2 ht2 => ⟨(by show 2 ≤ sizeLine; decide), fun t3 ht3 => ?_⟩⟩
              have s2 := Evl.Ex.new (o := .tup [.str "", .ref rr]) ht2
              have s3 := Evl.Ex.new (o := .tup [.str n, .ref t2]) ht3
              have S2 := s2.trans s3
              have n1 : rr ≠ D2 := fun z => by rw [z, hD2] at hr2; cases hr2
              have n2 : t2 ≠ D2 := fun z => by rw [z, h1] at ht2; cases ht2
              have n3 : t3 ≠ D2 := fun z => by rw [z, s2 _ _ h1] at ht3; cases ht3
              refine ⟨_, S2 _ _ h1, (by rw [List.length_map]; exact Nat.lt_of_le_of_lt al (by decide)), Evl.Ex.mut (Si.trans S2) hD2, as ++ [t3], kvs ++ [(.inr n, .ref t2)], by rw [upd_same, List.map_append]; rfl, ?_, ?_⟩
              · rw [del_upd]
                refine (hT.same (del_mono S2)).app (.cons ?_ .nil)
                rw [del_ne n3, upd_same]
                rfl
              · rw [del_upd, take_at hf]
                refine (hR.same (del_mono S2)).app (.cons ⟨t2, rr, .str "", [], rfl, SqT.of ?_, .inl (SqL.of ?_)⟩ .nil)
                · rw [del_ne n2]
                  exact s3 _ _ upd_same
                · rw [del_ne n1]
                  exact S2 _ _ (Si _ _ hr2)
            · rintro H11 ⟨S11, as, kvsQ, h1, hT, hR2⟩
              rw [List.length_map, List.take_of_length_le (by rw [← I.keys, List.length_map]; exact Nat.le_refl _)] at hR2
              have kk : kvsQ.map (·.1) = ns.map Sum.inr := by
                rw [hR2.keys, I.keys]
              refine ⟨D2, as, kvsQ, rfl, SqL.of h1, (hT.same del_sub).paired, fun p11 hp11 => ?_⟩
              rw [merge_nd (by rw [kk]; exact List.pairwise_map.mpr (hnd.imp fun h e => h (Sum.inr.inj e)))]
              have S12 := S11.trans (Evl.Ex.new (o := .dK kvsQ) hp11)
              have hR2 := (hR2.same del_sub).same (Evl.Ex.new (o := .dK kvsQ) hp11)
              have hp11 : upd H11 p11 (.dK kvsQ) p11 = some (.dK kvsQ) := upd_same
              generalize upd H11 p11 (.dK kvsQ) = H12 at S12 hR2 hp11
              clear h1 hT kk S11 hD2
              refine ⟨_, rfl, p11, bv, kvsQ, fs, rfl, hp11, hR2, I.ok.two, I.no, hbk, fun L as ps H13 S13 hL0 hL hPs BI pl => ?_⟩
              refine ⟨L, rfl, ⟨_, SqL.of hL⟩, fun D3 hD3 => ?_⟩
              refine lc_it walk_list (PvL H13 D3 (fun i => ps[i]?.map fun p => V.str p.1)) (pv_0 hD3) (fun i H2 _ p => SqL.of (p.1 _ _ hL)) ?_ ?_
              · rintro i x H2 H3 hi p ⟨rfl, hx⟩
                obtain ⟨a, ha, rfl⟩ := at_map hx
                obtain ⟨y, o, hy, hay⟩ := hPs.at ha
                rw [List.length_map, hPs.len] at hi
                refine ⟨rfl, _, rfl, a, _, 0, .str y, rfl, rfl, SqT.of (p.1 _ _ hay), atI_nat (j := 0) rfl, ?_⟩
                exact pv_in p (Same.refl _) (by rw [hy]; rfl) (by omega)
              · intro H14 p
                have p3 := p.2.2
                rw [List.length_map, hPs.len, fm_range] at p3
                have p4 : H14 D3 = some (.lst ((ps.map (·.1)).map V.str)) := by rw [p3, List.map_map]; rfl
                have S14 := (S10.trans (S12.trans S13)).trans p.1
                have hR := hR.same ((S12.trans S13).trans p.1)
                have hp10 := p.1 _ _ (S13 _ _ (S12 _ _ hp10))
                refine ⟨D3, _, rfl, .inl (SqL.of p4), rfl, flat_strs _, ?_⟩
                rw [inV_str]
                clear p3 p4 p hL hPs hR2 hp11
                by_cases hring : av ∈ ps.map (·.1)
                · rw [decide_eq_true hring]
                  refine ⟨_, rfl, true, rfl, ?_⟩
                  refine iteF' rfl ?_
                  refine iteF' rfl ?_
                  have hh := hd2_same (d := d) (w := w) S14
                  exact ⟨(X8.same S14).mono (by omega), l, kvs, fs, _, _, _, _, _, _, _, _, _, _, rfl, hh _ _ f1, f2.same hh, hh _ _ fr3, I⟩
                · rw [decide_eq_false hring]
                  have noR : ¬ (av = bv ∨ Rc fs bv av) := fun h => hring ((BI.mem av).mpr h)
                  have no2 := addRef_no hak I.no noR
                  refine ⟨_, rfl, false, rfl, ?_⟩
                  refine iteT' rfl ?_
                  have hr14 := S14 _ _ (hd2_of fr3).1
                  refine ⟨_, rfl, r, rfl, ⟨_, SqL.of hr14⟩, fun D4 hD4 => ?_⟩
                  refine lc_it walk_list (fun i Hi => Same H14 Hi ∧ ∃ bs : List Bool, Hi D4 = some (.lst (bs.map V.bl)) ∧ bs.length = i ∧ (false ∉ bs → ∀ rt ∈ roots.take i, (∃ t, TreeOf (addRef fs av bv) rt t) ∧ ∀ q, (q = rt ∨ Rc (addRef fs av bv) rt q) → (rf (addRef fs av bv) q).Nodup))
                    ⟨Evl.Ex.new hD4, [], upd_same, rfl, fun _ rt h => by cases h⟩ (fun i H2 _ p => SqL.of (p.1 _ _ hr14)) ?_ ?_
                  · rintro i x H2 H3 hi ⟨Si, bs, h1, h2, h3⟩ ⟨rfl, hx⟩
                    obtain ⟨rt, hrt, rfl⟩ := at_map hx
                    refine ⟨rfl, _, rfl, _, rfl, p10, rt, kvsP, addRef fs av bv, rfl, Si _ _ hp10, hR.same Si, ok2, no2, ?_, fun b H5 S5 hb => ?_⟩
                    · rw [keys2]
                      exact I.rs rt (List.mem_of_getElem? hrt)
                    · rw [List.length_map] at hi
                      refine ⟨_, S5 _ _ h1, ?_, Evl.Ex.mut (Si.trans S5) hD4, bs ++ [b], by rw [upd_same, List.map_append]; rfl, by rw [List.length_append, h2]; rfl, fun hf rt' hrt' => ?_⟩
                      · rw [List.length_map, sizeLine_eq]
                        omega
                      · rw [take_at hrt] at hrt'
                        rcases List.mem_append.mp hrt' with h | h
                        · exact h3 (fun z => hf (List.mem_append_left _ z)) _ h
                        · rw [List.mem_singleton.mp h]
                          refine hb ?_
                          cases b with
                          | true => rfl
                          | false => exact absurd (List.mem_append_right _ (List.mem_singleton.mpr rfl)) hf
                  · rintro H15 ⟨S15, bs, h1, h2, h3⟩
                    have hh := hd2_same (d := d) (w := w) (S14.trans S15)
                    rw [List.length_map, List.take_of_length_le (Nat.le_refl _)] at h3
                    refine ⟨D4, _, rfl, .inl (SqL.of h1), rfl, flat_bls _, _, rfl, ?_⟩
                    rw [inV_bl]
                    by_cases hf : false ∈ bs
                    · rw [decide_eq_true hf]
                      refine iteF' rfl ?_
                      exact ⟨(X8.same (S14.trans S15)).mono (by omega), l, kvs, fs, _, _, _, _, _, _, _, _, _, _, rfl, hh _ _ f1, f2.same hh, hh _ _ fr3, I⟩
                    · rw [decide_eq_false hf]
                      refine iteT' rfl ?_
                      exact ⟨_, rfl, (X8.same (S14.trans S15)).mono (by omega), p9, kv9, _, _, _, _, _, _, _, _, _, _, _, rfl, hh _ _ f9, f3.same hh, hh _ _ fr3, I.stepC har hbn noR (h3 hf)⟩
        · rintro σ H6 ⟨X6, l, kvs, fs, v4, v5, v6, v7, v8, v9, v10, v11, v12, v13, rfl, g1, g2, g3, I⟩
          refine ⟨_, rfl, _, rfl, (by show 2 ≤ sizeLine; decide), fun T hT => ?_⟩
          have s := hd2_new (d := d) (w := w) (o := .tup [.ref l, .ref r]) hT
          exact q T l r kvs fs roots _ ((X6.new hT).mono (by omega)) (X6.at hT) (s _ _ g1) (g2.same s) (s _ _ g3) (by omega) I
end
end WP
namespace WP
open PySem L2
open TL (tl)
abbrev nameWords : List Str := ["a", "b", "plain", "own", "refers", "keeps", "ever", "zzzzzzzz"]
def spNames (K : PySem.W.Frag) : Sp := fun vs H Q _ => ∃ (d w c : Addr) (B n : Int), vs = [.ref d, .int n] ∧ Dr d w c B H ∧ B ≤ 2 ^ 39 ∧ 0 ≤ n ∧ n ≤ 20 ∧
  ∀ (L : Addr) (ns : List Str) H', Ds d w c (B + 20 * n) H H' → hd2 d w H L = none → hd2 d w H' L = some (.lst (ns.map V.str)) → (ns.length : Int) = n → ns.Nodup → (∀ x ∈ ns, isNameS x = true) → Q (.ref L) H'
theorem atI_lastS' {ls : List Str} (h : ls ≠ []) : atI (ls.map V.str) (-1) = some (.str (ls.getLast h)) := by
  have e : ls.map V.str = (ls.dropLast.map V.str) ++ [V.str (ls.getLast h)] := by
    conv => lhs; rw [← List.dropLast_concat_getLast h]
    rw [List.map_append]
    rfl
  rw [e]
  exact atI_last _ _
theorem fm_range2' {α : Type} (l : List α) (g : α → Option V) : (List.range l.length).filterMap (fun i => l[i]?.bind g) = l.filterMap g := by
  induction l with
  | nil => rfl
  | cons a r ih =>
    rw [List.length_cons, List.range_succ_eq_map, List.filterMap_cons, List.filterMap_map]
    simp only [List.getElem?_cons_zero, Option.bind_some, List.filterMap_cons]
    have e : (fun i => (a :: r)[i]?.bind g) ∘ Nat.succ = fun i => r[i]?.bind g := by
      funext i
      simp
    rw [e, ih]
theorem fm_if (f : Str → Bool) (l : List Str) : l.filterMap (fun x => if f x = true then some (V.str x) else none) = (l.filter f).map V.str := by
  induction l with
  | nil => rfl
  | cons a r ih =>
    rw [List.filterMap_cons, List.filter_cons]
    by_cases h : f a = true
    · simp only [h, if_true, List.map_cons, ih]
    · simp only [h, ih]
      rfl
section
variable {P : Program} {w : World} {K : PySem.W.Frag} {mg : Str → Option Value} {base : Heap}
theorem ok__law_drawn_names {f : Addr} {fd : FuncData} (F : Fun K "_law_drawn_names" "_law_drawn_names" s__law_drawn_names f fd) (T : Bi mg) (D__law_take : Dn P w K mg base CX0 2 "_law_take" ["_law_draw", "_law_size"] spTake) (D__law_pick : Dn P w K mg base CX0 3 "_law_pick" ["_law_draw", "_law_some"] (spPick K)) : FnOk P w K mg base CX0 4 f fd ["_law_draw", "_law_total"] (spNames K) := by
  refine F.ok sc__law_drawn_names (fun vs H Q E h => ?_) (fun cdv A outer s H vs Q E hr h => ?_)
  · obtain ⟨d, w, c, B, n, rfl, _⟩ := h
    rfl
  · obtain ⟨d, w, c, B, n, rfl, D, hB, n0, n1, q⟩ := h
    have hu := hu_of hr
    have nd := sc__law_drawn_names.nd
    refine ⟨_, pss_cons (ps_asg (pe_tup (pa_cons pe_str (pa_cons (pe_lst pa_nil) pa_nil))) (pg_tup rfl (pgs_cons (pg_name (i := 2) nd rfl (by first | exact Or.inl rfl | exact Or.inr rfl)) (pgs_cons (pg_name (i := 3) nd rfl (by first | exact Or.inl rfl | exact Or.inr rfl)) pgs_nil))))
      (pss_cons (ps_set (i := 4) nd rfl (by first | exact Or.inl rfl | exact Or.inr rfl) (pe_lst (pa_cons pe_str (pa_cons pe_str (pa_cons pe_str (pa_cons pe_str (pa_cons pe_str (pa_cons pe_str (pa_cons pe_str (pa_cons pe_str pa_nil))))))))))
      (pss_cons (ps_for PassesOwn.never rfl (pi_range1 (by rfl) T.range (pa_cons (pv 1) pa_nil)) (pg_name (i := 5) nd rfl (by first | exact Or.inl rfl | exact Or.inr rfl)) (pss_cons (ps_asg (pe_tup (pa_cons (pe_d D__law_take (hr.mono (by decide)) pass0 (pa_cons (pv 0) (pa_cons pe_int pa_nil))) (pa_cons (pe_d D__law_pick (hr.mono (by decide)) pass0 (pa_cons (pv 0) (pa_cons (pv 4) pa_nil))) pa_nil))) (pg_tup rfl (pgs_cons (pg_name (i := 6) nd rfl (by first | exact Or.inl rfl | exact Or.inr rfl)) (pgs_cons (pg_name (i := 7) nd rfl (by first | exact Or.inl rfl | exact Or.inr rfl)) pgs_nil))))
      (pss_cons (ps_set (i := 8) nd rfl (by first | exact Or.inl rfl | exact Or.inr rfl) (pe_d D__law_pick (hr.mono (by decide)) pass0 (pa_cons (pv 0) (pa_cons (pe_lst (pa_cons pe_int (pa_cons pe_int (pa_cons pe_int (pa_cons pe_int (pa_cons pe_int pa_nil)))))) pa_nil))))
      (Evl.pss_cut (ps_if (pt_cmpR op_gt (pv 6) pe_int (nomark _)) (pss_one (ps_set (i := 7) nd rfl (by first | exact Or.inl rfl | exact Or.inr rfl) (pe_join pe_str (pe_lc (own := [("_law_j", 9)]) (g := gName 9) rfl nd (pi_range1 (by rfl) T.range (pa_cons (pv 8) pa_nil)) (blkOk_by (own := [("_law_j", 9)]) (N := ["_law_draw", "_law_total", "_law_letters", "_law_found", "_law_some", "_law_k", "_law_way", "_law_word", "_law_size", "_law_j", "_law_at", "_law_near", "_law_letter", "_law_single"]) (sc := defScope s__law_drawn_names) (by decide +kernel)) (fun _ _ _ _ _ => (pg_name (i := 9) nd rfl (by first | exact Or.inl rfl | exact Or.inr rfl))) (fun _ _ _ _ _ => pts_nil) (fun _ _ _ _ _ => (pe_d D__law_pick (hr.mono (by decide)) pass0 (pa_cons (pv 0) (pa_cons (pv 2) pa_nil)))))))) pss_nil)
      (Evl.pss_cut (ps_if (PW.pt (pw_and (pt_cmpR op_eq (pv 6) pe_int (nomark _)) (pw_and1 (pt_cmpR (op_neD hr.units) (pv 3) (pe_lst pa_nil) (nomark _))))) (pss_cons (ps_set (i := 10) nd rfl (by first | exact Or.inl rfl | exact Or.inr rfl) (pe_d D__law_take (hr.mono (by decide)) pass0 (pa_cons (pv 0) (pa_cons (pe_callB call_len (by rfl) T.len (by decide +kernel) (pa_cons (pe_ix ix_list (pv 3) (pe_un un_neg pe_int) (fun _ _ => rfl)) pa_nil)) pa_nil))))
      (pss_one (ps_set (i := 7) nd rfl (by first | exact Or.inl rfl | exact Or.inr rfl) (pe_op op_add_str (pe_op op_add_str (pe_slice sl_str (pe_ix ix_list (pv 3) (pe_un un_neg pe_int) (fun _ _ => rfl)) po_none (po_some (pv 10))) (pe_d D__law_pick (hr.mono (by decide)) pass0 (pa_cons (pv 0) (pa_cons (pv 2) pa_nil)))) (pe_slice sl_str (pe_ix ix_list (pv 3) (pe_un un_neg pe_int) (fun _ _ => rfl)) (po_some (pe_op op_add (pv 10) pe_int)) po_none))))) pss_nil)
      (pss_cons (ps_set (i := 11) nd rfl (by first | exact Or.inl rfl | exact Or.inr rfl) (pe_op op_cat (pe_lst (pa_cons (pv 7) pa_nil)) (pe_lc (own := [("_law_letter", 12)]) (g := gName 12) rfl nd (pi_str (pv 2)) (blkOk_by (own := [("_law_letter", 12)]) (N := ["_law_draw", "_law_total", "_law_letters", "_law_found", "_law_some", "_law_k", "_law_way", "_law_word", "_law_size", "_law_j", "_law_at", "_law_near", "_law_letter", "_law_single"]) (sc := defScope s__law_drawn_names) (by decide +kernel)) (fun _ _ _ _ _ => (pg_name (i := 12) nd rfl (by first | exact Or.inl rfl | exact Or.inr rfl))) (fun _ _ _ _ _ => pts_nil) (fun _ _ _ _ _ => (pe_op op_add_str (pe_slice sl_str (pv 7) po_none (po_some pe_int)) (pv 12))))))
      (pss_one (ps_expr (pe_bm PySem.F.plainAttrs_list PySem.F.slot_list_append PySem.F.type_list_append mt_append (pv 3) (pa_cons (pe_ix ix_list (pe_lc (own := [("_law_single", 13)]) (g := gName 13) rfl nd (pi_list (pv 11)) (blkOk_by (own := [("_law_single", 13)]) (N := ["_law_draw", "_law_total", "_law_letters", "_law_found", "_law_some", "_law_k", "_law_way", "_law_word", "_law_size", "_law_j", "_law_at", "_law_near", "_law_letter", "_law_single"]) (sc := defScope s__law_drawn_names) (by decide +kernel)) (fun _ _ _ _ _ => (pg_name (i := 13) nd rfl (by first | exact Or.inl rfl | exact Or.inr rfl))) (fun _ _ _ _ _ => (pts_one (pt_cmpR (op_notInK (K := K) rfl) (pv 13) (pv 3) (by rfl)))) (fun _ _ _ _ _ => (pv 13))) pe_int (fun _ _ => rfl)) pa_nil))))))))))
      (pss_one (ps_ret (pv 3))))), ?_⟩
    have X0 : Ds d w c B H H := ⟨D, Same.refl _⟩
    refine ⟨(by show 0 ≤ sizeLine; decide), fun L hL => ⟨(by show 2 ≤ sizeLine; decide), fun t ht => ⟨t, _, rfl, SqT.of upd_same, rfl, _, _, rfl, _, _, rfl, rfl, (by show 8 ≤ sizeLine; decide), fun Sm hSm => ?_⟩⟩⟩
    obtain ⟨Ld, Lw, Lc⟩ := D.off hL
    have hL0 : hd2 d w H L = none := hd2_none hL
    have X1 : Ds d w c B H (upd (upd (upd H L (.lst [])) t (.tup [.str alphabet, .ref L])) Sm (.lst (nameWords.map V.str))) := ((X0.new hL).new ht).new hSm
    have f1 : hd2 d w (upd (upd (upd H L (.lst [])) t (.tup [.str alphabet, .ref L])) Sm (.lst (nameWords.map V.str))) L = some (.lst []) := keepA (keepA (X0.at hL) ht) hSm
    have f2 : hd2 d w (upd (upd (upd H L (.lst [])) t (.tup [.str alphabet, .ref L])) Sm (.lst (nameWords.map V.str))) Sm = some (.lst (nameWords.map V.str)) := ((X0.new hL).new ht).at hSm
    have nSL : Sm ≠ L := fun e => by
      have e1 : upd (upd H L (.lst [])) t (.tup [.str alphabet, .ref L]) L = some (.lst []) := by rw [upd_ne (ne_of_none upd_same ht), upd_same]
      rw [e] at hSm
      exact absurd (e1.symm.trans hSm) (by intro z; cases z)
    refine ⟨_, rfl, n, rfl, by omega, by omega, ?_⟩
    refine for_it walk_range (fun i σ Hi => Ds d w c (B + 20 * i) H Hi ∧ hd2 d w Hi Sm = some (.lst (nameWords.map V.str)) ∧ ∃ (ns : List Str) (v5 v6 v7 v8 v9 v10 v11 v12 v13 : Option V), hd2 d w Hi L = some (.lst (ns.map V.str)) ∧ ns.length = i ∧ ns.Nodup ∧ (∀ x ∈ ns, isNameS x = true) ∧ σ = [some (.ref d), some (.int n), some (.str alphabet), some (.ref L), some (.ref Sm), v5, v6, v7, v8, v9, v10, v11, v12, v13])
      ⟨by rw [show B + 20 * ((0 : Nat) : Int) = B by omega]; exact X1, f2, [], _, _, _, _, _, _, _, _, _, f1, rfl, List.nodup_nil, (fun x hx => by cases hx), rfl⟩ (fun _ _ _ _ _ => trivial) ?_ ?_
    · rintro i x σ Hi Hj hi ⟨Xi, fS, ns, v5, v6, v7, v8, v9, v10, v11, v12, v13, fL, hnl, hnd, hnm, rfl⟩ ⟨rfl, rfl⟩
      refine ⟨_, rfl, d, w, c, _, 4, rfl, Xi.dr, by omega, by decide, by decide, fun k1 H2 k0 k4 D2 S2 => ?_⟩
      have X2 := Xi.draw D2 S2
      refine ⟨_, rfl, _, rfl, d, w, c, _, X2.dr, by omega, .inl ⟨Sm, _, rfl, SqL.of (S2 _ _ fS), by decide, by decide, fun k2 v2 H3 hv2 D3 S3 => ?_⟩⟩
      obtain ⟨w2, hw2, rfl⟩ := at_map hv2
      have hN2 := name_words w2 (at_mem hw2)
      have X3 := X2.draw D3 S3
      have fS3 := S3 _ _ (S2 _ _ fS)
      have fL3 := S3 _ _ (S2 _ _ fL)
      refine ⟨(by show 2 ≤ sizeLine; decide), fun t ht => ⟨t, _, rfl, SqT.of upd_same, rfl, _, _, rfl, _, _, rfl, rfl, ?_⟩⟩
      have X4 : Ds d w c (B + 20 * i + 1 + 1) H (upd H3 t (.tup [.int k1, .str w2])) := X3.new ht
      have fS4 : hd2 d w (upd H3 t (.tup [.int k1, .str w2])) Sm = _ := keepA fS3 ht
      have fL4 : hd2 d w (upd H3 t (.tup [.int k1, .str w2])) L = _ := keepA fL3 ht
      generalize (upd H3 t (.tup [.int k1, .str w2])) = H4 at X4 fS4 fL4 ⊢
      refine ⟨_, rfl, (by show 5 ≤ sizeLine; decide), fun u hu5 => ⟨d, w, c, _, (X4.new hu5).dr, by omega, .inl ⟨u, _, rfl, SqL.of (X4.at hu5), by simp, by decide, fun k3 v3 H5 hv3 D5 S5 => ?_⟩⟩⟩
      have X5 := (X4.new hu5).draw D5 S5
      have fS5 := S5 _ _ (keepA fS4 hu5)
      have fL5 := S5 _ _ (keepA fL4 hu5)
      obtain ⟨sz, rfl, sz1, sz8⟩ : ∃ sz : Int, v3 = .int sz ∧ 1 ≤ sz ∧ sz ≤ 8 := by
        have hm := at_mem hv3
        have : v3 ∈ ([1, 1, 2, 3, 8] : List Int).map V.int := hm
        obtain ⟨y, hy, rfl⟩ := List.mem_map.mp this
        refine ⟨y, rfl, ?_⟩
        simp only [List.mem_cons, List.not_mem_nil, or_false] at hy
        omega
      refine ⟨fun σ H6 => Ds d w c (B + 20 * i + 15) H H6 ∧ hd2 d w H6 Sm = some (.lst (nameWords.map V.str)) ∧ hd2 d w H6 L = some (.lst (ns.map V.str)) ∧ ∃ (w6 : Str) (v9 : Option V), isNameS w6 = true ∧ σ = [some (.ref d), some (.int n), some (.str alphabet), some (.ref L), some (.ref Sm), some (.int (0 + (i : Nat))), some (.int k1), some (.str w6), some (.int sz), v9, v10, v11, v12, v13], ?_, ?_⟩
      · refine ⟨_, rfl, _, _, rfl, rfl, _, rfl, ?_⟩
        refine ite2 (fun h => ?_) (fun h => ?_)
        · refine ⟨⟨_, rfl⟩, _, rfl, sz, rfl, by omega, by omega, fun D hD => ?_⟩
          obtain ⟨Dd', Dw', Dc'⟩ := X5.dr.off hD
          have hD0 : hd2 d w H D = none := noneS X5.fr (hd2_none hD)
          have nSD : Sm ≠ D := fun e => by rw [e, hd2_none hD] at fS5; cases fS5
          have nLD : L ≠ D := fun e => by rw [e, hd2_none hD] at fL5; cases fL5
          refine lc_it walk_range (fun j Hj => Ds d w c (B + 20 * i + 3 + j) H Hj ∧ hd2 d w Hj Sm = some (.lst (nameWords.map V.str)) ∧ hd2 d w Hj L = some (.lst (ns.map V.str)) ∧ ∃ cs : List Str, hd2 d w Hj D = some (.lst (cs.map V.str)) ∧ cs.length = j ∧ ∀ x ∈ cs, ∃ c ∈ tl alphabet, x = ⟨#[c]⟩)
            ⟨(X5.new hD).mono (by omega), keepA fS5 hD, keepA fL5 hD, [], X5.at hD, rfl, fun x hx => by cases hx⟩ (fun _ _ _ _ => trivial) ?_ ?_
          · rintro j x H6 H7 hj ⟨X6, fS6, fL6, cs, fD6, hcl, hcs⟩ ⟨rfl, rfl⟩
            refine ⟨rfl, _, rfl, _, rfl, d, w, c, _, X6.dr, by omega, .inr ⟨alphabet, rfl, by decide, by decide, fun k4 v4 H8 hv4 D8 S8 => ?_⟩⟩
            have X8 := X6.draw D8 S8
            have fD8 := S8 _ _ fD6
            refine ⟨_, (hd2_of fD8).1, by rw [List.length_map, sizeLine_eq]; omega, (X8.put hD0 Dd' Dw' Dc').mono (by omega), keepP (S8 _ _ fS6) Dd' Dw' nSD, keepP (S8 _ _ fL6) Dd' Dw' nLD, cs ++ [⟨#[v4]⟩], ?_, by rw [List.length_append, hcl]; rfl, fun x hx => ?_⟩
            · rw [hd2_upd Dd' Dw', upd_same, List.map_append]
              rfl
            · rcases List.mem_append.mp hx with hx | hx
              · exact hcs x hx
              · exact ⟨v4, at_mem hv4, List.mem_singleton.mp hx⟩
          · rintro H6 ⟨X6, fS6, fL6, cs, fD6, hcl, hcs⟩
            obtain ⟨nj, ns1⟩ := name_join hcs (by omega) (by omega)
            refine ⟨_, D, cs, rfl, rfl, .inl (SqL.of (hd2_of fD6).1), ?_, ?_⟩
            · rw [ns1]
              have : ("" : Str).length = 0 := by decide
              rw [this]
              omega
            · exact ⟨X6.mono (by omega), fS6, fL6, _, _, nj, rfl⟩
        · exact ⟨X5.mono (by omega), fS5, fL5, w2, _, hN2, rfl⟩
      · rintro σ H6 ⟨X6, fS6, fL6, w6, v9', hN6, rfl⟩
        refine ⟨fun σ H7 => Ds d w c (B + 20 * i + 17) H H7 ∧ hd2 d w H7 Sm = some (.lst (nameWords.map V.str)) ∧ hd2 d w H7 L = some (.lst (ns.map V.str)) ∧ ∃ (w7 : Str) (v10 : Option V), isNameS w7 = true ∧ σ = [some (.ref d), some (.int n), some (.str alphabet), some (.ref L), some (.ref Sm), some (.int (0 + (i : Nat))), some (.int k1), some (.str w7), some (.int sz), v9', v10, v11, v12, v13], ?_, ?_⟩
        · refine ⟨_, rfl, rfl, _, rfl, ?_⟩
          refine ite2 (fun h => ?_) (fun h => ?_)
          · refine ⟨_, rfl, (by show 0 ≤ sizeLine; decide), fun p hp => neNilS (hd2_of fL6).1 (fun x hx => (name_ok (hnm x hx)).2.2) hp ?_⟩
            have X7 : Ds d w c (B + 20 * i + 15) H (upd H6 p (.lst [])) := X6.new hp
            have fS7 : hd2 d w (upd H6 p (.lst [])) Sm = _ := keepA fS6 hp
            have fL7 : hd2 d w (upd H6 p (.lst [])) L = _ := keepA fL6 hp
            generalize upd H6 p (.lst []) = H7 at X7 fS7 fL7 ⊢
            refine ⟨_, rfl, ?_⟩
            cases hns : ns with
            | nil =>
              rw [hns] at fL7
              exact iteF ⟨X7.mono (by omega), fS7, fL7, w6, _, hN6, rfl⟩
            | cons n0 nr =>
              rw [← hns]
              have hne : ns ≠ [] := by rw [hns]; simp
              refine iteT' (by rw [hns]; rfl) ?_
              have hlast := hnm _ (List.getLast_mem hne)
              obtain ⟨l1, l8, lok⟩ := name_ok hlast
              have hS7 := SqL.of (K := K) (hd2_of fL7).1
              refine ⟨_, rfl, _, rfl, _, rfl, _, _, _, _, rfl, rfl, hS7, atI_lastS' hne, _, _, rfl, ⟨by rw [sizeLine_eq]; omega, rfl⟩, d, w, c, _, _, rfl, X7.dr, by omega, by omega, by omega, fun k5 H8 k50 k51 D8 S8 => ?_⟩
              have X8 := X7.draw D8 S8
              have fL8 := S8 _ _ fL7
              refine ⟨_, rfl, _, rfl, _, _, _, _, rfl, rfl, SqL.of (hd2_of fL8).1, atI_lastS' hne, _, rfl, _, rfl, _, rfl, by rw [sizeLine_eq]; omega, ?_⟩
              refine ⟨_, rfl, _, rfl, d, w, c, _, X8.dr, by omega, .inr ⟨alphabet, rfl, by decide, by decide, fun k6 v6 H9 hv6 D9 S9 => ?_⟩⟩
              have X9 := X8.draw D9 S9
              have fL9 := S9 _ _ fL8
              have c1 := cutS_length (ns.getLast hne) none (some k5)
              have c2 := cutS_length (ns.getLast hne) (some (k5 + 1)) none
              refine ⟨_, _, rfl, rfl, by rw [sizeLine_eq]; show _ + 1 ≤ _; omega, ?_⟩
              refine ⟨_, rfl, _, rfl, _, _, _, _, rfl, rfl, SqL.of (hd2_of fL9).1, atI_lastS' hne, _, rfl, _, _, rfl, rfl, _, rfl, _, rfl, by rw [sizeLine_eq]; omega, ?_⟩
              refine ⟨_, _, rfl, rfl, by rw [sizeLine_eq, Str.length_append]; show _ + 1 + _ ≤ _; omega, ?_⟩
              exact ⟨X9.mono (by omega), S9 _ _ (S8 _ _ fS7), fL9, _, _, name_swap hlast k50 k51 (at_mem hv6), rfl⟩
          · exact ⟨X6.mono (by omega), fS6, fL6, w6, _, hN6, rfl⟩
        · rintro σ H7 ⟨X7, fS7, fL7, w7, v10', hN7, rfl⟩
          have hw8 := (name_ok hN7).2.1
          refine ⟨_, rfl, (by show 1 ≤ sizeLine; decide), fun p hp => ?_⟩
          have X8 : Ds d w c (B + 20 * i + 17) H (upd H7 p (.lst [.str w7])) := X7.new hp
          have fS8 : hd2 d w (upd H7 p (.lst [.str w7])) Sm = _ := keepA fS7 hp
          have fL8 : hd2 d w (upd H7 p (.lst [.str w7])) L = _ := keepA fL7 hp
          have fp8 : upd H7 p (.lst [.str w7]) p = some (.lst [.str w7]) := upd_same
          generalize upd H7 p (.lst [.str w7]) = H8 at X8 fS8 fL8 fp8 ⊢
          refine ⟨_, rfl, alphabet, rfl, fun D hD => ?_⟩
          refine lc_it walk_str (PvL H8 D (fun j => (tl alphabet)[j]?.map fun c => V.str (cutS w7 none (some 7) ++ (⟨#[c]⟩ : Str)))) (pv_0 hD) (fun _ _ _ _ => trivial) ?_ ?_
          · rintro j x H9 H10 hj p9 ⟨rfl, c9, hc9, rfl⟩
            have hj2 : j < 26 := hj
            have hc9' : (tl alphabet)[j]? = some c9 := by rw [← hc9]; simp [tl]
            have c1 := cutS_length w7 none (some 7)
            refine ⟨rfl, ?_⟩
            refine ⟨_, rfl, _, rfl, _, rfl, by rw [sizeLine_eq]; omega, _, rfl, _, _, rfl, rfl, by rw [sizeLine_eq]; show _ + 1 ≤ _; omega, ?_⟩
            exact pv_in p9 (Same.refl _) (by rw [hc9']; rfl) (by omega)
          · intro H9 p9
            have e9 := p9.2.2
            have el : alphabet.cps.size = (tl alphabet).length := by simp [tl]
            rw [el, fm_range] at e9
            have X9 := X8.same p9.1
            have fS9 := hd2_same (d := d) (w := w) p9.1 _ _ fS8
            have fL9 := hd2_same (d := d) (w := w) p9.1 _ _ fL8
            refine ⟨p, D, _, _, rfl, rfl, p9.1 _ _ fp8, e9, by rw [List.length_map, sizeLine_eq, alpha_tl]; show 1 + 26 ≤ 16777216; decide, fun N hN => ?_⟩
            have eN : [V.str w7] ++ (tl alphabet).map (fun c => V.str (cutS w7 none (some 7) ++ (⟨#[c]⟩ : Str))) = (nears w7).map V.str := by
              unfold nears
              rw [List.map_cons, List.map_map]
              rfl
            rw [eN]
            have X10 : Ds d w c (B + 20 * i + 17) H (upd H9 N (.lst ((nears w7).map V.str))) := X9.new hN
            have fS10 : hd2 d w (upd H9 N (.lst ((nears w7).map V.str))) Sm = _ := keepA fS9 hN
            have fL10 : hd2 d w (upd H9 N (.lst ((nears w7).map V.str))) L = _ := keepA fL9 hN
            have fN10 : upd H9 N (.lst ((nears w7).map V.str)) N = some (.lst ((nears w7).map V.str)) := upd_same
            generalize upd H9 N (.lst ((nears w7).map V.str)) = H10 at X10 fS10 fL10 fN10 ⊢
            refine ⟨_, rfl, .inl ⟨rfl, _, SqL.of (hd2_of fL10).1⟩, _, rfl, N, rfl, ⟨_, SqL.of fN10⟩, fun D2 hD2 => ?_⟩
            have lenN : (nears w7).length = 27 := by
              unfold nears
              rw [List.length_cons, List.length_map, alpha_tl]
              rfl
            refine lc_it (walk_list (xs := (nears w7).map V.str)) (PvL H10 D2 (fun j => (nears w7)[j]?.bind fun x => if (!decide (x ∈ ns)) = true then some (V.str x) else none)) (pv_0 hD2) (fun _ _ _ p11 => SqL.of (p11.1 _ _ fN10)) ?_ ?_
            · rintro j x H11 H12 hj p11 ⟨rfl, hx⟩
              obtain ⟨y, hy, rfl⟩ := at_map hx
              have hj2 : j < 27 := by rw [List.length_map, lenN] at hj; exact hj
              refine ⟨rfl, ?_⟩
              refine ⟨_, rfl, _, rfl, L, _, rfl, .inl (SqL.of (hd2_of (hd2_same (d := d) (w := w) p11.1 _ _ fL10)).1), rfl, by simp [flatV], _, rfl, ?_⟩
              rw [inV_str]
              refine ite2 (fun h => ?_) (fun h => ?_)
              · exact ⟨_, rfl, pv_in p11 (Same.refl _) (by rw [hy, Option.bind_some]; exact if_pos h) (by omega)⟩
              · exact pv_out p11 (Same.refl _) (by rw [hy, Option.bind_some]; exact if_neg h)
            · intro H11 p11
              have e11 := p11.2.2
              rw [List.length_map, fm_range2'] at e11
              obtain ⟨y, yr, hy⟩ := near_free (z := w7) (ns := ns) (by omega)
              have e12 : (nears w7).filterMap (fun x => if (!decide (x ∈ ns)) = true then some (V.str x) else none) = V.str y :: yr.map V.str := by
                rw [fm_if, hy]
                rfl
              rw [e12] at e11
              have hym : y ∈ (nears w7).filter (fun x => !decide (x ∈ ns)) := by rw [hy]; exact List.mem_cons_self
              obtain ⟨hy1, hy2⟩ := List.mem_filter.mp hym
              have hy2 : y ∉ ns := by simpa using hy2
              have X11 := X10.same p11.1
              have fS11 := hd2_same (d := d) (w := w) p11.1 _ _ fS10
              have fL11 := hd2_same (d := d) (w := w) p11.1 _ _ fL10
              refine ⟨D2, _, _, _, rfl, rfl, SqL.of e11, atI_nat (j := 0) rfl, L, _, _, rfl, rfl, (hd2_of fL11).1, by rw [List.length_map, sizeLine_eq]; omega, ?_⟩
              have nSL2 : Sm ≠ L := nSL
              refine ⟨(X11.put hL0 Ld Lw Lc).mono (by omega), keepP fS11 Ld Lw nSL2, ns ++ [y], _, _, _, _, _, _, _, _, _, ?_, by rw [List.length_append, hnl]; rfl, ?_, fun x hx => ?_, rfl⟩
              · rw [hd2_upd Ld Lw, upd_same, List.map_append]
                rfl
              · refine List.nodup_append.mpr ⟨hnd, by simp, fun a ha b hb e => ?_⟩
                rw [List.mem_singleton.mp hb] at e
                rw [e] at ha
                exact hy2 ha
              · rcases List.mem_append.mp hx with hx | hx
                · exact hnm x hx
                · rw [List.mem_singleton.mp hx]
                  exact nears_name hN7 y hy1
    · rintro σ Hi ⟨Xi, fS, ns, v5, v6, v7, v8, v9, v10, v11, v12, v13, fL, hnl, hnd, hnm, rfl⟩
      refine ⟨_, rfl, q L ns Hi (Xi.mono (by omega)) hL0 fL (by omega) hnd hnm⟩
end
end WP
namespace WP
open PySem L2
section
variable {P : Program} {W : World} {K : PySem.W.Frag} {mg : Str → Option Value} {base : Heap}
theorem ok__law_model {f : Addr} {fd : FuncData} (F : Fun K "_law_model" "_law_model" s__law_model f fd) (T : Bi mg) (D__law_take : Dn P W K mg base CX0 2 "_law_take" ["_law_draw", "_law_size"] spTake) (D__law_pick : Dn P W K mg base CX0 3 "_law_pick" ["_law_draw", "_law_some"] (spPick K)) (D__law_drawn_names : Dn P W K mg base CX0 4 "_law_drawn_names" ["_law_draw", "_law_total"] (spNames K)) (D__law_links : Dn P W K mg base CX0 4 "_law_links" ["_law_draw", "_law_names"] (spLinks K)) (D__law_ticks : Dn P W K mg base CX0 4 "_law_ticks" ["_law_draw"] spTicks) (D__law_shuffled : Dn P W K mg base CX0 3 "_law_shuffled" ["_law_draw", "_law_some"] (spShuffled K)) : FnOk P W K mg base CX0 5 f fd ["_law_draw", "_law_most"] (spModel K) := by
  refine F.ok sc__law_model (fun vs H Q E h => ?_) (fun cdv A outer s H vs Q E hr h => ?_)
  · obtain ⟨d, w, c, B, n, rfl, _⟩ := h
    rfl
  · obtain ⟨d, w, c, B, n, rfl, D, hB, hn1, hn8, q⟩ := h
    have hu := hu_of hr
    have nd := sc__law_model.nd
    refine ⟨_, pss_cons (ps_set (i := 2) nd rfl (by first | exact Or.inl rfl | exact Or.inr rfl) (pe_d D__law_drawn_names (hr.mono (by decide)) pass0 (pa_cons (pv 0) (pa_cons (pe_op op_add pe_int (pe_d D__law_take (hr.mono (by decide)) pass0 (pa_cons (pv 0) (pa_cons (pv 1) pa_nil)))) pa_nil))))
      (pss_cons (ps_asg (pe_d D__law_links (hr.mono (by decide)) pass0 (pa_cons (pv 0) (pa_cons (pv 2) pa_nil))) (pg_tup rfl (pgs_cons (pg_name (i := 3) nd rfl (by first | exact Or.inl rfl | exact Or.inr rfl)) (pgs_cons (pg_name (i := 4) nd rfl (by first | exact Or.inl rfl | exact Or.inr rfl)) pgs_nil))))
      (pss_cons (ps_set (i := 5) nd rfl (by first | exact Or.inl rfl | exact Or.inr rfl) (pe_op op_cat (pe_lc (own := [("_law_root", 6)]) (g := gName 6) rfl nd (pi_list (pv 4)) (blkOk_by (own := [("_law_root", 6)]) (N := ["_law_draw", "_law_most", "_law_names", "_law_refers", "_law_roots", "_law_doors", "_law_root", "_law_many", "_law_odds", "_law_pages", "_law_name", "_law_naming", "_law_keeps", "_law_cache"]) (sc := defScope s__law_model) (by decide +kernel)) (fun _ _ _ _ _ => (pg_name (i := 6) nd rfl (by first | exact Or.inl rfl | exact Or.inr rfl))) (fun _ _ _ _ _ => (pts_one (pt_cmpR op_gt (pe_d D__law_take (hr.mono (by decide)) pass0 (pa_cons (pv 0) (pa_cons pe_int pa_nil))) pe_int (nomark _)))) (fun _ _ _ _ _ => (pv 6))) (pe_slice sl_list (pv 4) po_none (po_some pe_int))))
      (Evl.pss_cut (ps_if (pt_cmpR op_eq (pe_d D__law_take (hr.mono (by decide)) pass0 (pa_cons (pv 0) (pa_cons pe_int pa_nil))) pe_int (nomark _)) (pss_one (ps_set (i := 5) nd rfl (by first | exact Or.inl rfl | exact Or.inr rfl) (pe_op op_cat (pv 5) (pe_lst (pa_cons (pe_d D__law_pick (hr.mono (by decide)) pass0 (pa_cons (pv 0) (pa_cons (pv 2) pa_nil))) pa_nil))))) pss_nil)
      (pss_cons (ps_par (i := 5) (j := 7) (by rfl) nd rfl rfl (by decide) rfl rfl (pa_cons (pe_callB (cr_sortSS rfl) (by rfl) T.sorted (by decide +kernel) (pa_cons (pe_callTy (cr_setS rfl) (by rfl) T.set (by decide +kernel) (pa_cons (pv 5) pa_nil)) pa_nil)) (pa_cons (pe_d D__law_pick (hr.mono (by decide)) pass0 (pa_cons (pv 0) (pa_cons (pe_lst (pa_cons pe_int (pa_cons pe_int (pa_cons pe_int (pa_cons pe_int (pa_cons pe_int (pa_cons pe_int (pa_cons pe_int pa_nil)))))))) pa_nil))) pa_nil)) (by rfl))
      (pss_cons (ps_par (i := 8) (j := 9) (by rfl) nd rfl rfl (by decide) rfl rfl (pa_cons (pe_d D__law_pick (hr.mono (by decide)) pass0 (pa_cons (pv 0) (pa_cons (pe_lst (pa_cons pe_int (pa_cons pe_int (pa_cons pe_int (pa_cons pe_int (pa_cons pe_int pa_nil)))))) pa_nil))) (pa_cons pe_dnewK pa_nil)) (by rfl))
      (pss_cons (ps_for PassesOwn.never rfl (pi_list (pe_d D__law_shuffled (hr.mono (by decide)) pass0 (pa_cons (pv 0) (pa_cons (pv 2) pa_nil)))) (pg_name (i := 10) nd rfl (by first | exact Or.inl rfl | exact Or.inr rfl)) (pss_cons (ps_set (i := 11) nd rfl (by first | exact Or.inl rfl | exact Or.inr rfl) (pe_ifExp (PW.pt (pw_or (pt_cmpR op_in_seq (pv 10) (pv 5) (by rfl)) (pw_or1 (pt_cmpR op_eq (pe_d D__law_take (hr.mono (by decide)) pass0 (pa_cons (pv 0) (pa_cons (pv 8) pa_nil))) pe_int (nomark _))))) pe_str pe_str))
      (pss_cons (ps_set (i := 12) nd rfl (by first | exact Or.inl rfl | exact Or.inr rfl) (pe_callTy (call_tuple_ofK (K := K) rfl) (by rfl) T.tuple (by decide +kernel) (pa_cons (pe_lc (own := [("_law_cache", 13)]) (g := gName 13) rfl nd (pi_range1 (by rfl) T.range (pa_cons (pv 7) pa_nil)) (blkOk_by (own := [("_law_cache", 13)]) (N := ["_law_draw", "_law_most", "_law_names", "_law_refers", "_law_roots", "_law_doors", "_law_root", "_law_many", "_law_odds", "_law_pages", "_law_name", "_law_naming", "_law_keeps", "_law_cache"]) (sc := defScope s__law_model) (by decide +kernel)) (fun _ _ _ _ _ => (pg_name (i := 13) nd rfl (by first | exact Or.inl rfl | exact Or.inr rfl))) (fun _ _ _ _ _ => pts_nil) (fun _ _ _ _ _ => (pe_d D__law_ticks (hr.mono (by decide)) pass0 (pa_cons (pv 0) pa_nil)))) pa_nil)))
      (pss_one (ps_dput hu (pv 9) (pv 10) (pe_tup (pa_cons (pv 11) (pa_cons (pe_callTy (call_tuple_ofK (K := K) rfl) (by rfl) T.tuple (by decide +kernel) (pa_cons (pe_callB cr_sortedS (by rfl) T.sorted (by decide +kernel) (pa_cons (pe_dget hu (pv 3) (pv 10) (fun _ _ => rfl)) pa_nil)) pa_nil)) (pa_cons (pe_d D__law_ticks (hr.mono (by decide)) pass0 (pa_cons (pv 0) pa_nil)) (pa_cons (pv 12) pa_nil))))) rfl)))))
      (pss_one (ps_ret (pe_disp (pps_cons pe_str (pv 9) (pps_cons pe_str (pe_callTy (call_tuple_ofK (K := K) rfl) (by rfl) T.tuple (by decide +kernel) (pa_cons (pv 5) pa_nil)) (pps_cons pe_str (pe_d D__law_pick (hr.mono (by decide)) pass0 (pa_cons (pv 0) (pa_cons (pe_lst (pa_cons pe_str (pa_cons pe_str pa_nil))) pa_nil))) pps_nil))) (by rfl) (by rfl) (fun z => by cases z) (by decide)))))))))), ?_⟩
    have X0 : Ds d w c B H H := ⟨D, Same.refl _⟩
    refine ⟨_, rfl, _, rfl, _, rfl, d, w, c, _, n, rfl, D, by omega, by omega, Int.lt_of_le_of_lt hn8 (by decide), fun t1 H1 h10 h11 D1 S1 => ⟨_, _, rfl, rfl, ?_⟩⟩
    have X1 := X0.draw D1 S1
    refine ⟨d, w, c, _, 1 + t1, rfl, X1.dr, by omega, by omega, by omega, fun L ns H2 x2 hL0 hL hlen hnd hnam => ?_⟩
    have X2 := (X1.draw x2.dr x2.fr).mono (B' := B + 1 + 160) (by omega)
    have hl8 : ns.length ≤ 8 := by omega
    have hne : ns ≠ [] := fun z => by rw [z] at hlen; simp at hlen; omega
    refine ⟨_, rfl, _, rfl, d, w, c, L, _, ns, rfl, X2.dr, by omega, SqL.of hL, hne, hl8, hnd, hnam, fun T p r kvs fs roots H3 x3 hT hp hR hr0 rl I => ?_⟩
    have X3 := (X2.draw x3.dr x3.fr).mono (B' := B + 210) (by omega)
    have hL := x3.fr _ _ hL
    clear x2 x3 D1 S1 X1 X2
    refine ⟨T, _, rfl, SqT.of (hd2_of hT).1, rfl, _, _, rfl, _, _, rfl, rfl, ?_⟩
    clear hT
    obtain ⟨r0, rr, rfl⟩ : ∃ r0 rr, roots = r0 :: rr := by
      cases roots with
      | nil => exact absurd rfl I.ne
      | cons a b => exact ⟨a, b, rfl⟩
    refine ⟨_, rfl, r, rfl, ⟨_, SqL.of (hd2_of hr0).1⟩, fun D1 hD1 => ?_⟩
    have zD : hd2 d w H3 D1 = none := hd2_none hD1
    obtain ⟨dD, dW, dC⟩ := X3.dr.off hD1
    have Y3 : Ds d w c (B + 210) H3 H3 := ⟨X3.dr, Same.refl _⟩
    refine lc_it walk_list (fun i Hi => Ds d w c (B + 210 + i) H3 Hi ∧ ∃ ds : List Str, hd2 d w Hi D1 = some (.lst (ds.map V.str)) ∧ (∀ x ∈ ds, x ∈ r0 :: rr) ∧ ds.length ≤ i)
      ⟨(Y3.new hD1).mono (by omega), [], Y3.at hD1, fun x h => (by cases h), Nat.le_refl _⟩ (fun i Hi _ p => SqL.of (hd2_of (p.1.fr _ _ hr0)).1) ?_ ?_
    · rintro i x Hi Hj hi ⟨Yi, ds, h1, h2, h3⟩ ⟨rfl, hx⟩
      obtain ⟨rt, hrt, rfl⟩ := at_map hx
      rw [List.length_map] at hi
      refine ⟨rfl, _, rfl, d, w, c, _, 4, rfl, Yi.dr, by omega, by decide, by decide, fun t H5 h0 h5 D5 S5 => ⟨_, _, rfl, rfl, _, rfl, ?_⟩⟩
      have Y5 := Yi.draw D5 S5
      refine ite2 (fun _ => ?_) (fun _ => ?_)
      · refine ⟨_, rfl, _, (hd2_of (S5 _ _ h1)).1, ?_, (Y5.put zD dD dW dC).mono (by omega), ds ++ [rt], ?_, ?_, ?_⟩
        · rw [List.length_map, sizeLine_eq]
          omega
        · rw [hd2_upd dD dW, upd_same, List.map_append]
          rfl
        · intro y hy
          rcases List.mem_append.mp hy with h | h
          · exact h2 y h
          · rw [List.mem_singleton.mp h]
            exact List.mem_of_getElem? hrt
        · rw [List.length_append, List.length_singleton]
          omega
      · exact ⟨Y5.mono (by omega), ds, S5 _ _ h1, h2, by omega⟩
    · rintro H4 ⟨Y4, ds, h1, h2, h3⟩
      rw [List.length_map] at Y4 h3
      have hr4 := Y4.fr _ _ hr0
      refine ⟨_, rfl, _, rfl, r, _, rfl, SqL.of (hd2_of hr4).1, fun q1 hq1 => ?_⟩
      have ec : cutV ((r0 :: rr).map V.str) none (some 1) = [V.str r0] := by
        unfold cutV
        simp [HT.sIx]
      rw [ec]
      have Y5 := Y4.new (o := .lst [.str r0]) hq1
      have s5 := hd2_new (d := d) (w := w) (o := .lst [.str r0]) hq1
      refine ⟨D1, q1, _, _, rfl, rfl, (hd2_of (s5 _ _ h1)).1, upd_same, (by rw [List.length_map, sizeLine_eq]; show ds.length + 1 ≤ _; omega), fun q2 hq2 => ?_⟩
      have Y6 := (Y5.new (o := .lst (ds.map V.str ++ [.str r0])) hq2).mono (B' := B + 218) (by omega)
      have g6 : hd2 d w (upd (upd H4 q1 (.lst [.str r0])) q2 (.lst (ds.map V.str ++ [.str r0]))) q2 = some (.lst ((ds ++ [r0]).map V.str)) := by
        rw [List.map_append]
        exact Y5.at hq2
      generalize upd (upd H4 q1 (.lst [.str r0])) q2 (.lst (ds.map V.str ++ [.str r0])) = H6 at Y6 g6
      have X6 := X3.draw Y6.dr Y6.fr
      have k6 : ∀ x ∈ ds ++ [r0], x ∈ ns := fun x hx => I.sn x (I.rs x ((List.mem_append.mp hx).elim (h2 x) fun h => by rw [List.mem_singleton.mp h]; exact List.mem_cons_self))
      have l6 : (ds ++ [r0]).length ≤ 9 := by rw [List.length_append, List.length_singleton]; omega
      have e6 : ds ++ [r0] ≠ [] := by simp
      have hL := Y6.fr _ _ hL
      have hp := Y6.fr _ _ hp
      have hR := hR.same Y6.fr
      generalize ds ++ [r0] = ds at g6 k6 l6 e6
      clear Y3 Y4 Y5 s5 h1 h2 h3 hr4 hq1 hq2 ec zD dD dW dC hD1 hr0 X3 Y6
      refine ⟨fun σ' H' => Ds d w c (B + 220) H H' ∧ Same (hd2 d w H6) (hd2 d w H') ∧ ∃ (e5 : Addr) (ds : List Str) (v6 : Option V), σ' = [some (.ref d), some (.int n), some (.ref L), some (.ref p), some (.ref r), some (.ref e5), v6, none, none, none, none, none, none, none] ∧ hd2 d w H' e5 = some (.lst (ds.map V.str)) ∧ (∀ x ∈ ds, x ∈ ns) ∧ ds.length ≤ 10 ∧ ds ≠ [], ?_, ?_⟩
      · refine ⟨_, rfl, d, w, c, _, 6, rfl, X6.dr, by omega, by decide, by decide, fun t7 H7 h70 h71 D7 S7 => ⟨rfl, _, rfl, ?_⟩⟩
        have X7 := X6.draw D7 S7
        refine ite2 (fun _ => ?_) (fun _ => ?_)
        · refine ⟨_, rfl, _, rfl, _, rfl, d, w, c, _, X7.dr, by omega, .inl ⟨L, _, rfl, SqL.of (S7 _ _ hL), ?_, ?_, fun k v H8 hk D8 S8 => ?_⟩⟩
          · intro z
            exact hne (List.map_eq_nil_iff.mp z)
          · rw [List.length_map]
            exact Nat.lt_of_le_of_lt hl8 (by decide)
          obtain ⟨xv, hxv, rfl⟩ := at_map hk
          have X8 := X7.draw D8 S8
          have S78 := S7.trans S8
          refine ⟨(by show 1 ≤ sizeLine; decide), fun q1 hq1 => ?_⟩
          have X9 := X8.new (o := .lst [.str xv]) hq1
          have s9 := S78.trans (hd2_new (d := d) (w := w) (o := .lst [.str xv]) hq1)
          refine ⟨q2, q1, _, _, rfl, rfl, (hd2_of (s9 _ _ g6)).1, upd_same, (by rw [List.length_map, sizeLine_eq]; show ds.length + 1 ≤ _; omega), fun q3 hq3 => ?_⟩
          refine ⟨(X9.new hq3).mono (by omega), s9.trans (hd2_new hq3), q3, ds ++ [xv], _, rfl, ?_, ?_, ?_, by simp⟩
          · rw [List.map_append]
            exact X9.at hq3
          · intro y hy
            rcases List.mem_append.mp hy with h | h
            · exact k6 y h
            · rw [List.mem_singleton.mp h]
              exact List.mem_of_getElem? hxv
          · rw [List.length_append, List.length_singleton]
            omega
        · exact ⟨X7.mono (by omega), S7, q2, ds, _, rfl, S7 _ _ g6, k6, by omega, e6⟩
      · clear X6 g6 k6 l6 e6 ds
        rintro σ H7 ⟨X7, S7, e5, ds, v6, rfl, g7, k7, l7, e7⟩
        have hL := S7 _ _ hL
        have hp := S7 _ _ hp
        have hR := hR.same S7
        clear S7
        refine ⟨_, rfl, e5, ds, rfl, .inl (SqL.of (hd2_of g7).1), by omega, fun p1 hp1 => ⟨p1, ds, rfl, upd_same, by omega, fun es p2 hes hem hso hp2 => ?_⟩⟩
        have X8 := (X7.new (o := SetS P W p1 ds) hp1).new (o := .lst (es.map V.str)) hp2
        have s8 := (hd2_new (d := d) (w := w) (o := SetS P W p1 ds) hp1).trans (hd2_new (d := d) (w := w) (o := .lst (es.map V.str)) hp2)
        have g8 := (X7.new (o := SetS P W p1 ds) hp1).at (o := .lst (es.map V.str)) hp2
        have hL := s8 _ _ hL
        have hp := s8 _ _ hp
        have hR := hR.same s8
        have es1 : ∀ e ∈ es, e ∈ ns := fun e he => k7 e ((hem e).mp he)
        have es2 : es ≠ [] := fun z => by
          obtain ⟨x, hx⟩ := List.exists_mem_of_ne_nil ds e7
          have := (hem x).mpr hx
          rw [z] at this
          cases this
        have es3 : es.length ≤ 10 := by
          have := pigeon es ds hes fun x hx => (hem x).mp hx
          omega
        clear s8 X7 g7 k7 l7 e7 hem hp1 hp2
        refine ⟨_, rfl, (by show 7 ≤ sizeLine; decide), fun q1 hq1 => ⟨d, w, c, _, (X8.new hq1).dr, by omega, .inl ⟨q1, _, rfl, SqL.of (X8.at hq1), by simp, (by show 7 < 2 ^ 60; decide), fun k v H9 hk D9 S9 => ?_⟩⟩⟩
        obtain ⟨many, rfl, hmany⟩ : ∃ n : Nat, v = .int n ∧ n ≤ 4 := by
          have hm := at_mem hk
          simp only [List.mem_cons, List.not_mem_nil, or_false] at hm
          rcases hm with rfl | rfl | rfl | rfl | rfl | rfl | rfl
          · exact ⟨0, rfl, by decide⟩
          · exact ⟨1, rfl, by decide⟩
          · exact ⟨1, rfl, by decide⟩
          · exact ⟨2, rfl, by decide⟩
          · exact ⟨2, rfl, by decide⟩
          · exact ⟨3, rfl, by decide⟩
          · exact ⟨4, rfl, by decide⟩
        have X9 := (X8.new hq1).draw D9 S9
        have s9 := (hd2_new (d := d) (w := w) (H := upd (upd H7 p1 (SetS P W p1 ds)) p2 (.lst (es.map V.str))) hq1).trans S9
        have hL := s9 _ _ hL
        have hp := s9 _ _ hp
        have hR := hR.same s9
        have g9 := s9 _ _ g8
        clear s9 hk D9 S9 hq1 X8 g8
        refine ⟨_, _, rfl, ?_⟩
        refine ⟨_, rfl, (by show 5 ≤ sizeLine; decide), fun q1 hq1 => ⟨d, w, c, _, (X9.new hq1).dr, by omega, .inl ⟨q1, _, rfl, SqL.of (X9.at hq1), by simp, (by show 5 < 2 ^ 60; decide), fun k v H10 hk D10 S10 => ?_⟩⟩⟩
        obtain ⟨odds, rfl, ho1, ho2⟩ : ∃ n : Int, v = .int n ∧ 1 ≤ n ∧ n ≤ 9 := by
          have hm := at_mem hk
          simp only [List.mem_cons, List.not_mem_nil, or_false] at hm
          rcases hm with rfl | rfl | rfl | rfl | rfl
          all_goals exact ⟨_, rfl, by decide, by decide⟩
        have X10 := (X9.new hq1).draw D10 S10
        have s10 := (hd2_new (d := d) (w := w) hq1).trans S10
        have hL := s10 _ _ hL
        have hp := s10 _ _ hp
        have hR := hR.same s10
        have g10 := s10 _ _ g9
        clear s10 hk D10 S10 hq1 X9 g9
        intro dF hdF
        have mp : p ≠ dF := fun z => by have := (hd2_of hp).1; rw [z, hdF] at this; cases this
        refine ⟨_, _, rfl, ?_⟩
        have X11 := X10.new (o := .dK []) hdF
        have s11 := hd2_new (d := d) (w := w) (o := .dK []) hdF
        have gF := X10.at (o := .dK []) hdF
        have zF : hd2 d w H dF = none := by
          cases e : hd2 d w H dF with
          | none => rfl
          | some u => have := (hd2_of (X10.fr _ _ e)).1; rw [hdF] at this; cases this
        obtain ⟨fd1, fw1, fc1⟩ := X10.dr.off hdF
        have hL := s11 _ _ hL
        have hp := s11 _ _ hp
        have hR := hR.same s11
        have g11 := s11 _ _ g10
        generalize upd H10 dF (.dK []) = H11 at X11 gF hL hp hR g11
        refine ⟨_, rfl, _, rfl, d, w, c, L, _, ns, rfl, X11.dr, by omega, .inl (SqL.of hL), by omega, fun x hx => (name_ok (hnam x hx)).2.2, fun L2 ss H12 x12 _ hL2 pm => ?_⟩
        have X12 := (X11.draw x12.dr x12.fr).mono (B' := B + 240) (by omega)
        have hp := x12.fr _ _ hp
        have hR := hR.same x12.fr
        have g12 := x12.fr _ _ g11
        have gF := x12.fr _ _ gF
        have sl : ss.length ≤ 8 := by rw [pm.length_eq]; exact hl8
        clear x12 s11 X11 g11 X10 g10 hdF hL
        refine ⟨L2, rfl, ⟨_, SqL.of (hd2_of hL2).1⟩, ?_⟩
        refine for_it walk_list (fun i σ Hi => Ds d w c (B + 240 + 25 * i) H Hi ∧ ∃ (kvm : List (Key × V)) (gs : List (Str × FileD)) (v10 v11 v12 v13 : Option V), σ = [some (.ref d), some (.int n), some (.ref L), some (.ref p), some (.ref r), some (.ref p2), v6, some (.int many), some (.int odds), some (.ref dF), v10, v11, v12, v13] ∧ hd2 d w Hi L2 = some (.lst (ss.map V.str)) ∧ hd2 d w Hi p = some (.dK kvs) ∧ RefsR (hd2 d w Hi) kvs fs ∧ hd2 d w Hi p2 = some (.lst (es.map V.str)) ∧ hd2 d w Hi dF = some (.dK kvm) ∧ PgsM K (del (hd2 d w Hi) dF) kvm gs ∧ gs.map (·.1) = ss.take i ∧ ∀ n f, (n, f) ∈ gs → f.refers.Perm (rf fs n) ∧ PyProof.Rows.sortedS f.refers = true ∧ isTicksV (optI f.hold) = true ∧ (∀ k ∈ f.keeps, isTicksV (optI k) = true) ∧ f.keeps.length = many ∧ (n ∈ es → f.own = false))
          ⟨X12.mono (by omega), [], [], _, _, _, _, rfl, hL2, hp, hR, g12, gF, .nil, rfl, fun n f h => (by cases h)⟩ (fun i σ Hi _ hh => by obtain ⟨_, kvm, gs, v10, v11, v12, v13, _, h1, _⟩ := hh; exact SqL.of (hd2_of h1).1) ?_ ?_
        · clear X12 hL2 hp hR g12 gF
          rintro i x σ Hi Hj hi ⟨Xi, kvm, gs, v10, v11, v12, v13, rfl, aL, ap, aR, ae, aF, hP, hk, hg⟩ ⟨rfl, hx⟩
          obtain ⟨nm, hnm, rfl⟩ := at_map hx
          rw [List.length_map] at hi
          have hnn : nm ∈ ns := pm.mem_iff.mp (List.mem_of_getElem? hnm)
          show tIf _ _ _ _ _ _
          refine te_use (fun v H' => ∃ own : Bool, v = .str (namS own) ∧ (nm ∈ es → own = false) ∧ Ds d w c (B + 240 + 25 * i + 1) H H' ∧ Same (hd2 d w Hj) (hd2 d w H')) (fun k' hk' => ?_) ?_
          · refine ⟨_, rfl, _, rfl, p2, _, rfl, .inl (SqL.of (hd2_of ae).1), rfl, flat_strs _, _, rfl, ?_⟩
            rw [if_neg (by decide), inV_str]
            by_cases hne' : nm ∈ es
            · rw [decide_eq_true hne']
              refine iteT' rfl ?_
              refine iteT' rfl ?_
              exact hk' _ _ ⟨false, rfl, fun _ => rfl, Xi.mono (by omega), Same.refl _⟩
            · rw [decide_eq_false hne']
              refine iteF' rfl ?_
              refine ⟨_, rfl, _, rfl, d, w, c, _, odds, rfl, Xi.dr, by omega, by omega, Int.lt_of_le_of_lt ho2 (by decide), fun t5 H5 h0 h5 D5 S5 => ⟨rfl, _, rfl, ?_⟩⟩
              have X5 := Xi.draw D5 S5
              refine ite2 (fun _ => ?_) (fun _ => ?_)
              · exact hk' _ _ ⟨false, rfl, fun _ => rfl, X5, S5⟩
              · exact hk' _ _ ⟨true, rfl, fun h => absurd h hne', X5, S5⟩
          · rintro v H1 ⟨own, rfl, hown, X1, S1⟩
            refine ⟨_, rfl, many, rfl, by omega, by omega, fun D1 hD1 => ?_⟩
            have zD : hd2 d w H1 D1 = none := hd2_none hD1
            obtain ⟨dD, dW, dC⟩ := X1.dr.off hD1
            have Y1 : Ds d w c (B + 240 + 25 * i + 1) H1 H1 := ⟨X1.dr, Same.refl _⟩
            refine lc_it walk_range (fun j Hj => Ds d w c (B + 240 + 25 * i + 1 + 4 * j) H1 Hj ∧ ∃ ks : List (Option Int), hd2 d w Hj D1 = some (.lst (ks.map optI)) ∧ (∀ k ∈ ks, isTicksV (optI k) = true) ∧ ks.length = j)
              ⟨(Y1.new hD1).mono (by omega), [], Y1.at hD1, fun x h => (by cases h), rfl⟩ (fun _ _ _ _ => trivial) ?_ ?_
            · rintro j x Hj Hk hj ⟨Yj, ks, h1, h2, h3⟩ ⟨rfl, rfl⟩
              have hj : j < many := by omega
              refine ⟨rfl, _, rfl, d, w, c, _, rfl, Yj.dr, by omega, fun o H2 ho x2 => ?_⟩
              have Y2 := Yj.draw x2.dr x2.fr
              refine ⟨_, (hd2_of (x2.fr _ _ h1)).1, ?_, (Y2.put zD dD dW dC).mono (by omega), ks ++ [o], ?_, ?_, ?_⟩
              · rw [List.length_map, sizeLine_eq]
                omega
              · rw [hd2_upd dD dW, upd_same, List.map_append]
                rfl
              · intro y hy
                rcases List.mem_append.mp hy with h | h
                · exact h2 y h
                · rw [List.mem_singleton.mp h]
                  exact ho
              · rw [List.length_append, List.length_singleton, h3]
            · rintro H2 ⟨Y2, ks, h1, h2, h3⟩
              have X2 := (X1.draw Y2.dr Y2.fr).mono (B' := B + 240 + 25 * i + 17) (by omega)
              have S2 := S1.trans Y2.fr
              clear Y2 Y1 X1 S1 zD dD dW dC hD1 Xi
              refine ⟨D1, _, rfl, .inl ⟨SqL.of (hd2_of h1).1, fun t1 ht1 => ?_⟩⟩
              have X3 := X2.new (o := .tup (ks.map optI)) ht1
              have S3 := S2.trans (hd2_new (d := d) (w := w) (o := .tup (ks.map optI)) ht1)
              have b1 := X2.at (o := .tup (ks.map optI)) ht1
              generalize upd H2 t1 (.tup (ks.map optI)) = H3 at X3 S3 b1
              clear X2 S2 ht1 h1
              obtain ⟨f0, hf0⟩ : ∃ f0, lkF fs nm = some f0 := lkF_key.mp (by rw [I.keys]; exact hnn)
              obtain ⟨rr0, hr1, hr2⟩ := (aR.same S3).get hf0
              have dg := DGet.k (k := .inr nm) (hd2_of (S3 _ _ ap)).1
              rw [hr1] at dg
              refine ⟨_, rfl, _, rfl, _, rfl, p, _, rfl, dg, rr0, f0.refers, rfl, SqL.of (hd2_of hr2).1, (by have := (I.ok.two.rc2 _ _ hf0).2; omega), fun ys t2 hperm hsort ht2 => ⟨t2, _, rfl, .inl ⟨SqL.of upd_same, fun t3 ht3 => ?_⟩⟩⟩
              have X4 := X3.new (o := .lst (ys.map V.str)) ht2
              have X5 := X4.new (o := .tup (ys.map V.str)) ht3
              have s4 := hd2_new (d := d) (w := w) (o := .lst (ys.map V.str)) ht2
              have s5 := hd2_new (d := d) (w := w) (o := .tup (ys.map V.str)) ht3
              have b3 := X4.at (o := .tup (ys.map V.str)) ht3
              have b1 := s5 _ _ (s4 _ _ b1)
              have S5 := S3.trans (s4.trans s5)
              generalize upd (upd H3 t2 (.lst (ys.map V.str))) t3 (.tup (ys.map V.str)) = H5 at X5 b3 b1 S5
              clear X4 X3 s4 s5 S3 ht2 ht3 dg hr2 hr1
              refine ⟨_, rfl, d, w, c, _, rfl, X5.dr, by omega, fun o H6 ho x6 => ⟨_, rfl, (by show 4 ≤ sizeLine; decide), fun t4 ht4 => ?_⟩⟩
              have X6 := (X5.draw x6.dr x6.fr).mono (B' := B + 240 + 25 * i + 21) (by omega)
              have S6 := S5.trans x6.fr
              have b1 := x6.fr _ _ b1
              have b3 := x6.fr _ _ b3
              have X7 := X6.new (o := .tup [.str (namS own), .ref t3, optI o, .ref t1]) ht4
              have s7 := hd2_new (d := d) (w := w) (o := .tup [.str (namS own), .ref t3, optI o, .ref t1]) ht4
              have b4 := X6.at (o := .tup [.str (namS own), .ref t3, optI o, .ref t1]) ht4
              have S7 := S6.trans s7
              have b1 := s7 _ _ b1
              have b3 := s7 _ _ b3
              have aF7 := S7 _ _ aF
              generalize upd H6 t4 (.tup [.str (namS own), .ref t3, optI o, .ref t1]) = H7 at X7 b4 S7 b1 b3 aF7
              clear X6 s7 S6 S5 x6 X5 ht4
              have m1 : t1 ≠ dF := fun z => by rw [z, aF7] at b1; cases b1
              have m3 : t3 ≠ dF := fun z => by rw [z, aF7] at b3; cases b3
              have m4 : t4 ≠ dF := fun z => by rw [z, aF7] at b4; cases b4
              have mL : L2 ≠ dF := fun z => by rw [z, aF] at aL; cases aL
              have mp2 : p2 ≠ dF := fun z => by rw [z, aF] at ae; cases ae
              have gl : kvm.length ≤ 8 := by
                have e1 := congrArg List.length hP.keys
                have e2 := congrArg List.length hk
                simp only [List.length_map, List.length_take] at e1 e2
                omega
              have nk : (Sum.inr nm : Key) ∉ kvm.map (·.1) := fun z => by
                rw [hP.keys, hk] at z
                obtain ⟨y, hy, e⟩ := List.mem_map.mp z
                cases e
                exact take_not (pm.nodup_iff.mpr hnd) hnm hy
              refine ⟨_, rfl, _, rfl, dF, _, rfl, DPut.k (k := .inr nm) (hd2_of aF7).1 (by rw [sizeLine_eq]; omega), (X7.put zF fd1 fw1 fc1).mono (by omega), putK kvm (.inr nm) (.ref t4), gs ++ [(nm, ⟨own, ys, o, ks⟩)], _, _, _, _, rfl, ?_, ?_, ?_, ?_, ?_, ?_, ?_, ?_⟩
              · rw [hd2_upd fd1 fw1, upd_ne mL]
                exact S7 _ _ aL
              · rw [hd2_upd fd1 fw1, upd_ne mp]
                exact S7 _ _ ap
              · rw [hd2_upd fd1 fw1]
                exact (aR.same S7).putd aF7
              · rw [hd2_upd fd1 fw1, upd_ne mp2]
                exact S7 _ _ ae
              · rw [hd2_upd fd1 fw1, upd_same]
              · rw [hd2_upd fd1 fw1, del_upd, putK_fresh nk]
                refine (hP.same (del_mono S7)).app (.cons ⟨t4, t3, t1, rfl, ?_, ?_, ?_⟩ .nil)
                · rw [del_ne m4]
                  exact b4
                · rw [del_ne m3]
                  exact b3
                · rw [del_ne m1]
                  exact b1
              · rw [List.map_append, hk, take_at hnm]
                rfl
              · intro n' f' h
                rcases List.mem_append.mp h with h | h
                · exact hg n' f' h
                · cases List.mem_singleton.mp h
                  exact ⟨by rw [rf_of hf0]; exact hperm, hsort, ho, h2, by simpa using h3, hown⟩
        · rintro σ H13 ⟨X13, kvm, gs, v10, v11, v12, v13, rfl, aL, ap, aR, ae, aF, hP, hk, hg⟩
          rw [List.length_map] at X13 hk
          rw [List.take_of_length_le (Nat.le_refl _)] at hk
          have X13 := X13.mono (B' := B + 440) (by omega)
          intro M hM
          have X14 := X13.new (o := .dK []) hM
          have s14 := hd2_new (d := d) (w := w) (o := .dK []) hM
          have bM := X13.at (o := .dK []) hM
          have zM : hd2 d w H M = none := by
            cases e : hd2 d w H M with
            | none => rfl
            | some u => have := (hd2_of (X13.fr _ _ e)).1; rw [hM] at this; cases this
          obtain ⟨md, mw, mc⟩ := X13.dr.off hM
          have zM3 : hd2 d w H13 M = none := hd2_none hM
          have ae14 := s14 _ _ ae
          generalize upd H13 M (.dK []) = H14 at X14 s14 bM ae14
          refine ⟨_, rfl, _, rfl, p2, _, rfl, .inl ⟨SqL.of (hd2_of ae14).1, fun eT heT => ?_⟩⟩
          have X15 := X14.new (o := .tup (es.map V.str)) heT
          have s15 := hd2_new (d := d) (w := w) (o := .tup (es.map V.str)) heT
          have bE := X14.at (o := .tup (es.map V.str)) heT
          have bM := s15 _ _ bM
          have S15 := s14.trans s15
          generalize upd H14 eT (.tup (es.map V.str)) = H15 at X15 bE bM S15
          clear s14 s15 X14 heT ae14
          refine ⟨_, rfl, (by show 2 ≤ sizeLine; decide), fun q1 hq1 => ⟨d, w, c, _, (X15.new hq1).dr, by omega, .inl ⟨q1, _, rfl, SqL.of (X15.at hq1), by simp, (by show 2 < 2 ^ 60; decide), fun k v H16 hkv D16 S16 => ?_⟩⟩⟩
          obtain ⟨ct, rfl, hct⟩ : ∃ ct : Str, v = .str ct ∧ (ct = "own" ∨ ct = "whole") := by
            have hm := at_mem hkv
            simp only [List.mem_cons, List.not_mem_nil, or_false] at hm
            rcases hm with rfl | rfl
            · exact ⟨_, rfl, .inl rfl⟩
            · exact ⟨_, rfl, .inr rfl⟩
          have X16 := (X15.new hq1).draw D16 S16
          have s16 := (hd2_new (d := d) (w := w) (H := H15) hq1).trans S16
          have bE := s16 _ _ bE
          have bM := s16 _ _ bM
          have S16 := S15.trans s16
          have nE : eT ≠ M := fun z => by rw [z, bM] at bE; cases bE
          refine ⟨(hd2_of bM).1, [((.inr "files" : Key), .ref dF), (.inr "entries", .ref eT), (.inr "counts", .str ct)], rfl, (by show 3 ≤ 15; decide), ?_⟩
          rw [merge_nd (kvs := [((.inr "files" : Key), .ref dF), (.inr "entries", .ref eT), (.inr "counts", .str ct)]) (show List.Nodup ([.inr "files", .inr "entries", .inr "counts"] : List Key) by decide +kernel)]
          have SM := Evl.Ex.mut (o := .dK [((.inr "files" : Key), V.ref dF), (.inr "entries", .ref eT), (.inr "counts", .str ct)]) S16 zM3
          refine q (.ref M) ⟨gs, es, ct⟩ _ ((X16.put zM md mw mc).mono (by omega)) ?_ (MdOk.of I hnd hk pm hmany hg es2 hes hso es1 hct)
          rw [hd2_upd md mw]
          exact ⟨M, dF, eT, kvm, rfl, upd_same, SM _ _ aF, (hP.same del_sub).same SM, by rw [upd_ne nE]; exact bE⟩
end
end WP
namespace WP
open PySem L2
section
variable {P : Program} {w : World} {K : PySem.W.Frag} {mg : Str → Option Value} {base : Heap}
theorem ok__law_is_treeG {f : Addr} {fd : FuncData} (F : Fun K "_law_is_tree" "_law_is_tree" s__law_is_tree f fd) (T : Bi mg) (D__law_tree : Dn P w K mg base CX0 1 "_law_tree" ["_law_pages", "_law_entry"] (spLawTree K)) : FnOk P w K mg base CX0 2 f fd ["_law_pages", "_law_entry"] (spLawIsTreeG K) := by
  refine F.ok sc__law_is_tree (fun vs H Q E h => ?_) (fun cdv A outer s H vs Q E hr h => ?_)
  · obtain ⟨d, e, kvs, fs, rfl, _⟩ := h
    rfl
  · obtain ⟨d, e, kvs, fs, rfl, hd, hP, ok1, no, he, q⟩ := h
    have ok := ok1.two
    have hu := hu_of hr
    have nd := sc__law_is_tree.nd
    refine ⟨_, pss_cons (ps_setLc (i := 2) (own := [("_law_pair", 3)]) (g := gName 3) rfl nd rfl rfl (sw_true rfl rfl rfl (by decide +kernel)) (pi_list (pe_d D__law_tree (hr.mono (by decide)) pass0 (pa_cons (pv 0) (pa_cons (pv 1) pa_nil)))) (blkOk_by (own := [("_law_pair", 3)]) (N := ["_law_pages", "_law_entry", "_law_names", "_law_pair"]) (sc := defScope s__law_is_tree) (by decide +kernel)) (fun _ _ _ _ _ => (pg_name (i := 3) nd rfl (by first | exact Or.inl rfl | exact Or.inr rfl))) (fun _ _ _ _ _ => pts_nil) (fun _ _ _ _ _ => (pe_ix (ix_tupK (K := K) rfl) (pv 3) pe_int (fun _ _ => rfl))))
      (pss_one (ps_ret (pe_cmpR op_eq (pe_callB cr_lenS (by rfl) T.len (by decide +kernel) (pa_cons (pe_callTy (cr_setS rfl) (by rfl) T.set (by decide +kernel) (pa_cons (pv 2) pa_nil)) pa_nil)) (pe_callB call_len (by rfl) T.len (by decide +kernel) (pa_cons (pv 2) pa_nil)) (nomark _)))), ?_⟩
    refine ⟨_, rfl, _, rfl, d, e, kvs, fs, rfl, hd, hP, ok, no, he, fun L as ps H1 S1 hL0 h1 hR I pl => ?_⟩
    refine ⟨L, rfl, ⟨_, SqL.of h1⟩, fun D hD => ?_⟩
    refine lc_it walk_list (PvL H1 D (fun i => ps[i]?.map fun p => V.str p.1)) (pv_0 hD) (fun i H2 _ p => SqL.of (p.1 _ _ h1)) ?_ ?_
    · rintro i x H2 H3 hi p ⟨rfl, hx⟩
      obtain ⟨a, ha, rfl⟩ := at_map hx
      obtain ⟨y, o, hy, hay⟩ := hR.at ha
      rw [List.length_map, hR.len] at hi
      refine ⟨rfl, _, rfl, a, _, 0, .str y, rfl, rfl, SqT.of (p.1 _ _ hay), atI_nat (j := 0) rfl, ?_⟩
      exact pv_in p (Same.refl _) (by rw [hy]; rfl) (by omega)
    · intro H2 p
      have p3 := p.2.2
      rw [List.length_map, hR.len, fm_range] at p3
      have p4 : H2 D = some (.lst ((ps.map (·.1)).map V.str)) := by rw [p3, List.map_map]; rfl
      refine ⟨_, rfl, D, ps.map (·.1), rfl, .inl (SqL.of p4), (by rw [List.length_map]; omega), fun p2 hp2 => ?_⟩
      refine ⟨p2, _, rfl, upd_same, (by rw [List.length_map]; omega), fun ys y1 y2 => ?_⟩
      have S3 := Evl.Ex.new (o := SetS P w p2 (ps.map (·.1))) hp2
      refine ⟨_, rfl, _, _, rfl, .inl ⟨_, SqL.of (S3 _ _ p4), rfl⟩, rfl, ?_⟩
      have rn : ∀ q, (rf fs q).Nodup := fun q => by
        unfold rf
        cases e : lkF fs q with
        | none => exact List.nodup_nil
        | some f => exact ok1.rnd q f e
      have eb : decide (V.int ((ys.length : Nat) : Int) = V.int ((((ps.map (·.1)).map V.str).length : Nat) : Int)) = !noTree fs e := by
        rw [Bool.eq_iff_iff, decide_eq_true_eq, Bool.not_eq_true', List.length_map]
        constructor
        · intro hb
          have hb := V.int.inj hb
          have hnd := (nodup_iff y1 y2).mp (show ys.length = (ps.map (·.1)).length by omega)
          cases ht : noTree fs e with
          | false => rfl
          | true => exact absurd ⟨ps, I.tree hnd⟩ (noTree_iff.mp ht)
        · intro ht
          have ht : ∃ t, TreeOf fs e t := Classical.byContradiction fun z => by rw [noTree_iff.mpr z] at ht; cases ht
          have hnd := (I.nds ht rn no).1
          rw [(nodup_iff y1 y2).mpr hnd]
      rw [eb]
      exact q _ ((S1.trans p.1).trans S3)
theorem ok__law_below4 {f : Addr} {fd : FuncData} (F : Fun K "_law_below" "_law_below" s__law_below f fd) (T : Bi mg) : FnOk P w K mg base CX0 1 f fd ["_law_pages", "_law_name"] (spBelow4 K) := by
  refine F.ok sc__law_below (fun vs H Q E h => ?_) (fun cdv A outer s H vs Q E hr h => ?_)
  · obtain ⟨d, a, kvs, fs, rfl, _⟩ := h
    rfl
  · obtain ⟨d, a, kvs, fs, rfl, hd, hP, ok, ha, q⟩ := h
    have hu := hu_of hr
    have nd := sc__law_below.nd
    refine ⟨_, pss_cons (ps_set (i := 2) nd rfl (by first | exact Or.inl rfl | exact Or.inr rfl) (pe_callTy call_list_of (by rfl) T.list (by decide +kernel) (pa_cons (pe_ix ix_tup (pe_dget hu (pv 0) (pv 1) (fun _ _ => rfl)) pe_int (fun _ _ => rfl)) pa_nil)))
      (pss_cons (ps_lock (ps_for PassesOwn.never rfl (pi_keys (pv 0)) (pg_name (i := 3) nd rfl (by first | exact Or.inl rfl | exact Or.inr rfl)) (pss_one (ps_for PassesOwn.never rfl (pi_keys (pv 0)) (pg_name (i := 4) nd rfl (by first | exact Or.inl rfl | exact Or.inr rfl)) (pss_one (ps_set (i := 2) nd rfl (by first | exact Or.inl rfl | exact Or.inr rfl) (pe_op op_cat (pv 2) (pe_lc (own := [("_law_below_here", 5)]) (g := gName 5) rfl nd (pi_tup (pe_ix ix_tup (pe_dget hu (pv 0) (pv 4) (fun _ _ => rfl)) pe_int (fun _ _ => rfl))) (blkOk_by (own := [("_law_below_here", 5)]) (N := ["_law_pages", "_law_name", "_law_found", "_law_turn", "_law_one", "_law_below_here"]) (sc := defScope s__law_below) (by decide +kernel)) (fun _ _ _ _ _ => (pg_name (i := 5) nd rfl (by first | exact Or.inl rfl | exact Or.inr rfl))) (fun _ _ _ _ _ => (pts_one (PW.pt (pw_and (pt_cmpR (op_inK (K := K) rfl) (pv 4) (pv 2) (by rfl)) (pw_and1 (pt_cmpR (op_notInK (K := K) rfl) (pv 5) (pv 2) (by rfl))))))) (fun _ _ _ _ _ => (pv 5))))))))))
      (pss_one (ps_ret (pv 2)))), ?_⟩
    obtain ⟨fa, efa⟩ := lkF_key.mp ha
    have gt : ∀ {n : Str} {f : FileD}, lkF fs n = some f → ∃ v, valV kvs (.inr n) = some v ∧ PgM K H v f := fun e => by
      obtain ⟨v, h1, h2⟩ := hP.get e
      exact ⟨v, h1, h2⟩
    obtain ⟨va, hva, ta, ra, ka, rfl, t1, t2, t3⟩ := gt efa
    have dg : DGet H d (.str a) (some (.ref ta)) := by
      have := DGet.k (k := Sum.inr a) hd
      rw [hva] at this
      exact this
    refine ⟨_, rfl, _, rfl, d, _, rfl, dg, ta, _, 1, .ref ra, rfl, rfl, SqT.of t1, atI_nat (j := 1) rfl, ra, _, rfl, .inr (SqT.of t2), fun L hL => ?_⟩
    have S1 := Evl.Ex.new (o := .lst (fa.refers.map V.str)) hL
    have b1 : upd H L (.lst (fa.refers.map V.str)) L = some (.lst (fa.refers.map V.str)) := upd_same
    have nLd : L ≠ d := fun z => by rw [z, hd] at hL; cases hL
    generalize upd H L (.lst (fa.refers.map V.str)) = H1 at S1 b1
    refine ⟨d, _, S1 _ _ hd, trivial, fun od => ?_⟩
    have SL : Same (upd H d (.frz od (.dK kvs))) (upd H1 d (.frz od (.dK kvs))) := fun b' u' e' => by
      by_cases hb : b' = d
      · rw [hb, upd_same] at e' ⊢
        exact e'
      · rw [upd_ne hb] at e' ⊢
        exact S1 _ _ e'
    have hlk : upd H d (.frz od (.dK kvs)) d = some (.frz od (.dK kvs)) := upd_same
    have hPL := hP.put (o := .frz od (.dK kvs)) hd
    have hLL : upd H1 d (.frz od (.dK kvs)) L = some (.lst (fa.refers.map V.str)) := by rw [upd_ne nLd]; exact b1
    have kl : kvs.length = fs.length := by
      have := congrArg List.length hP.keys
      simpa using this
    have rn : ∀ q, (rf fs q).Nodup := fun q => by
      unfold rf
      cases e : lkF fs q with
      | none => exact List.nodup_nil
      | some f => exact ok.rnd q f e
    have era : rf fs a = fa.refers := rf_of efa
    have I0 : LowB fs a fa.refers := ⟨era ▸ rn a, fun x hx => .one (era ▸ hx)⟩
    refine ⟨_, rfl, d, od, rfl, .inl ⟨kvs, SL _ _ hlk, ?_⟩⟩
    refine for_it walk_keys (fun i σ Hi => Same (upd H d (.frz od (.dK kvs))) Hi ∧ ∃ (fa' : Addr) (v3 v4 v5 : Option V), σ = [some (.ref d), some (.str a), some (.ref fa'), v3, v4, v5] ∧ Hi fa' = some (.lst ((roundsB fs (fs.map (·.1)) i fa.refers).map V.str)))
      ⟨SL, L, _, _, _, rfl, hLL⟩ (fun i σ Hi _ h => h.1 _ _ hlk) ?_ ?_
    · rintro i x σ Hi Hj hi ⟨Si, fb, v3, v4, v5, rfl, hfb⟩ ⟨rfl, kk, vv, hx, rfl⟩
      refine ⟨_, rfl, d, od, rfl, .inl ⟨kvs, Si _ _ hlk, ?_⟩⟩
      refine for_it walk_keys (fun j σ Hi => Same (upd H d (.frz od (.dK kvs))) Hi ∧ ∃ (fa' : Addr) (v4 v5 : Option V), σ = [some (.ref d), some (.str a), some (.ref fa'), some (kV kk), v4, v5] ∧ Hi fa' = some (.lst ((((fs.map (·.1)).take j).foldl (lookB fs) (roundsB fs (fs.map (·.1)) i fa.refers)).map V.str)))
        ⟨Si, fb, _, _, rfl, hfb⟩ (fun j σ Hi _ h => h.1 _ _ hlk) ?_ ?_
      · clear hfb
        rintro j x σ Hk Hl hj ⟨Sk, fb, v4, v5, rfl, hfb⟩ ⟨rfl, k2, v2, hx2, rfl⟩
        obtain ⟨n, fl, hni, rfl⟩ := hP.at hx2
        obtain ⟨f', hf', lk⟩ := fs_at (fs := fs) rfl ok.nd (i := j) (n := n) (by rw [List.getElem?_map, hni]; rfl)
        rw [hni] at hf'
        cases hf'
        have I1 : LowB fs a (((fs.map (·.1)).take j).foldl (lookB fs) (roundsB fs (fs.map (·.1)) i fa.refers)) := LowB.round rn (roundsB_low rn I0 _ i)
        have F1d : ((fs.map (·.1)).take (j + 1)).foldl (lookB fs) (roundsB fs (fs.map (·.1)) i fa.refers) = lookB fs (((fs.map (·.1)).take j).foldl (lookB fs) (roundsB fs (fs.map (·.1)) i fa.refers)) n := by
          rw [take_at (x := n) (by rw [List.getElem?_map, hni]; rfl), List.foldl_append]
          rfl
        rw [F1d]
        generalize ((fs.map (·.1)).take j).foldl (lookB fs) (roundsB fs (fs.map (·.1)) i fa.refers) = F1 at I1 hfb
        clear F1d
        have fl8 : F1.length ≤ 8 := by
          have := pigeon F1 (fs.map (·.1)) I1.nd fun y hy => ok.two.rc_mem (I1.cl y hy)
          rw [List.length_map] at this
          have := ok.few
          omega
        obtain ⟨u, hu1, a1, r1, k1, rfl, c1, c2, c3⟩ := (hPL.same Sk).get lk
        have dg : DGet Hl d (.str n) (some (.ref a1)) := by
          have := DGet.fz (k := Sum.inr n) (Sk _ _ hlk)
          rw [hu1] at this
          exact this
        have ern : rf fs n = fl.refers := rf_of lk
        have rl : fl.refers.length ≤ 8 := by
          have := ok.rf_len n
          rw [ern] at this
          exact this
        refine ⟨_, rfl, _, rfl, _, rfl, d, _, rfl, dg, a1, _, 1, .ref r1, rfl, rfl, SqT.of c1, atI_nat (j := 1) rfl, r1, rfl, ⟨_, SqT.of c2⟩, fun D hD => ?_⟩
        refine lc_it walk_tup (PvL Hl D (fun i => fl.refers[i]?.bind fun b => if decide (n ∈ F1) && !decide (b ∈ F1) then some (V.str b) else none)) (pv_0 hD) (fun i H3 _ p => SqT.of (p.1 _ _ c2)) ?_ ?_
        · rintro j3 x H3 H4 hj3 p ⟨rfl, hx3⟩
          obtain ⟨b, hb, rfl⟩ := at_map hx3
          rw [List.length_map] at hj3
          have fi : (fl.refers[j3]?.bind fun b => if decide (n ∈ F1) && !decide (b ∈ F1) then some (V.str b) else none) = if decide (n ∈ F1) && !decide (b ∈ F1) then some (V.str b) else none := by rw [hb]; rfl
          refine ⟨rfl, _, rfl, _, rfl, fb, _, rfl, .inl (SqL.of (p.1 _ _ hfb)), rfl, strs_flat F1, _, rfl, ?_⟩
          by_cases hm : n ∈ F1
          · refine iteT' (by show inV (.str n) (F1.map V.str) = true; rw [inV_str]; exact decide_eq_true hm) ⟨_, rfl, _, rfl, fb, _, rfl, .inl (SqL.of (p.1 _ _ hfb)), rfl, strs_flat F1, _, rfl, ?_⟩
            rw [if_pos rfl, inV_str]
            refine ite2 (fun z => ?_) (fun z => ?_)
            · rw [if_pos (by rw [decide_eq_true hm, Bool.true_and]; exact z)] at fi
              exact ⟨_, rfl, pv_in p (Same.refl _) fi (by omega)⟩
            · rw [if_neg (by rw [decide_eq_true hm, Bool.true_and]; exact z)] at fi
              exact pv_out p (Same.refl _) fi
          · refine iteF' (by show inV (.str n) (F1.map V.str) = false; rw [inV_str]; exact decide_eq_false hm) (pv_out p (Same.refl _) ?_)
            rw [fi, decide_eq_false hm]
            rfl
        · intro H3 p
          have p3 := p.2.2
          rw [List.length_map, fm_filterS fl.refers (fun b => decide (n ∈ F1) && !decide (b ∈ F1))] at p3
          have S3 := Sk.trans p.1
          have fl3 := List.length_filter_le (fun b => decide (n ∈ F1) && !decide (b ∈ F1)) fl.refers
          refine ⟨fb, D, _, _, rfl, rfl, p.1 _ _ hfb, p3, by rw [List.length_map, List.length_map, sizeLine_eq]; omega, fun p2 hp2 => ?_⟩
          refine ⟨S3.trans (Evl.Ex.new hp2), p2, _, _, rfl, ?_⟩
          rw [upd_same]
          unfold lookB
          rw [ern, List.map_append]
      · rintro σ Hk ⟨Sk, fb, v4, v5, rfl, hfb⟩
        rw [kl, List.take_of_length_le (by rw [List.length_map]; exact Nat.le_refl _)] at hfb
        exact ⟨Sk, fb, _, _, _, rfl, hfb⟩
    · rintro σ Hk ⟨Sk, fb, v3, v4, v5, rfl, hfb⟩
      refine ⟨Sk _ _ hlk, _, rfl, ?_⟩
      have e : kvs.length = (fs.map (·.1)).length := by rw [kl, List.length_map]
      rw [e] at hfb
      have nb : fb ≠ d := fun z => by rw [z, Sk _ _ hlk] at hfb; cases hfb
      refine q fb _ _ ?_ (by rw [upd_ne nb]; exact hfb) fun x => by rw [← era]; exact below_all ok x
      intro b' u' e'
      by_cases hb : b' = d
      · rw [hb] at e' ⊢
        rw [upd_same]
        rw [hd] at e'
        exact e'
      · rw [upd_ne hb]
        exact Sk _ _ (by rw [upd_ne hb]; exact e')
end
end WP
namespace WP
open PySem L2
section
variable {P : Program} {w : World} {K : PySem.W.Frag} {mg : Str → Option Value} {base : Heap}
theorem ok__law_wrong_file {f : Addr} {fd : FuncData} (F : Fun K "_law_wrong_file" "_law_wrong_file" s__law_wrong_file f fd) (T : Bi mg) (D__law_below : Dn P w K mg base CX0 1 "_law_below" ["_law_pages", "_law_name"] (spBelow4 K)) : FnOk P w K mg base CX0 2 f fd ["_law_pages"] (spWrongFile K) := by
  refine F.ok sc__law_wrong_file (fun vs H Q E h => ?_) (fun cdv A outer s H vs Q E hr h => ?_)
  · obtain ⟨d, kvs, l, j, rfl, _⟩ := h
    rfl
  · obtain ⟨d, kvs, l, j, rfl, hd, hP, L, j2, hk, q⟩ := h
    have hu := hu_of hr
    have nd := sc__law_wrong_file.nd
    refine ⟨_, pss_cons (ps_set (i := 1) nd rfl (by first | exact Or.inl rfl | exact Or.inr rfl) (pe_callB (call_sortedD rfl) (by rfl) T.sorted (by decide +kernel) (pa_cons (pv 0) pa_nil)))
      (pss_cons (ps_for PassesOwn.never rfl (pi_list (pv 1)) (pg_name (i := 2) nd rfl (by first | exact Or.inl rfl | exact Or.inr rfl)) (pss_one (ps_if (pt_cmpR op_isN (pe_dget hu (pv 0) (pv 2) (fun _ _ => rfl)) pe_non (nomark _)) (pss_one (ps_ret (pe_lst (pa_cons pe_str (pa_cons (pv 2) pa_nil))))) pss_nil)))
      (pss_cons (ps_for PassesOwn.never rfl (pi_list (pv 1)) (pg_name (i := 2) nd rfl (by first | exact Or.inl rfl | exact Or.inr rfl)) (pss_one (ps_if (pt_cmpR (op_neN hr.units) (pe_lc (own := [("_law_below_here", 3)]) (g := gName 3) rfl nd (pi_tup (pe_ix ix_tup (pe_dget hu (pv 0) (pv 2) (fun _ _ => rfl)) pe_int (fun _ _ => rfl))) (blkOk_by (own := [("_law_below_here", 3)]) (N := ["_law_pages", "_law_names", "_law_name", "_law_below_here"]) (sc := defScope s__law_wrong_file) (by decide +kernel)) (fun _ _ _ _ _ => (pg_name (i := 3) nd rfl (by first | exact Or.inl rfl | exact Or.inr rfl))) (fun _ _ _ _ _ => (pts_one (PW.pt (pw_or (pt_cmpR op_eq (pv 3) (pv 2) (nomark _)) (pw_or1 (pt_cmp (pc_dnotin hu (pv 3) (pv 0)))))))) (fun _ _ _ _ _ => (pv 3))) (pe_lst pa_nil) (nomark _)) (pss_one (ps_ret (pe_lst (pa_cons pe_str (pa_cons (pv 2) pa_nil))))) pss_nil)))
      (pss_cons (ps_for PassesOwn.never rfl (pi_list (pv 1)) (pg_name (i := 2) nd rfl (by first | exact Or.inl rfl | exact Or.inr rfl)) (pss_one (ps_if (pt_cmpR op_ne (pe_callB call_len (by rfl) T.len (by decide +kernel) (pa_cons (pe_ix ix_tup (pe_dget hu (pv 0) (pv 2) (fun _ _ => rfl)) pe_int (fun _ _ => rfl)) pa_nil)) (pe_callB call_len (by rfl) T.len (by decide +kernel) (pa_cons (pe_ix ix_tup (pe_dget hu (pv 0) (pe_ix ix_list (pv 1) pe_int (fun _ _ => rfl)) (fun _ _ => rfl)) pe_int (fun _ _ => rfl)) pa_nil)) (nomark _)) (pss_one (ps_ret (pe_lst (pa_cons pe_str (pa_cons (pv 2) pa_nil))))) pss_nil)))
      (pss_cons (ps_for PassesOwn.never rfl (pi_list (pv 1)) (pg_name (i := 2) nd rfl (by first | exact Or.inl rfl | exact Or.inr rfl)) (pss_one (ps_if (pt_cmpR op_in_seq (pv 2) (pe_d D__law_below (hr.mono (by decide)) pass0 (pa_cons (pv 0) (pa_cons (pv 2) pa_nil))) (by rfl)) (pss_one (ps_ret (pe_lst (pa_cons pe_str (pa_cons (pv 2) pa_nil))))) pss_nil)))
      (pss_one (ps_ret (pe_lst pa_nil))))))), ?_⟩
    obtain ⟨ns, ens, l8, nne, nnam⟩ := keys_str hk
    have kn : kvs.map (·.1) = ns.map Sum.inr := (pgs_keys hP).trans ens
    have nl : ns.length ≤ 8 := by
      have := congrArg List.length ens
      rw [List.length_map, List.length_map] at this
      omega
    refine ⟨_, rfl, d, kvs, ns, rfl, .inl hd, kn, by omega, fun ys N hp hso hN => ?_⟩
    have Y : YsOf l ys := ⟨by rw [ens]; exact hp.map _, hso⟩
    have S1 := Evl.Ex.new (o := .lst (ys.map V.str)) hN
    have bN : upd H N (.lst (ys.map V.str)) N = some (.lst (ys.map V.str)) := upd_same
    have yl : ys.length ≤ 8 := by rw [hp.length_eq]; exact nl
    generalize upd H N (.lst (ys.map V.str)) = H1 at S1 bN
    have inY : ∀ n ∈ ys, ∃ o, lkO l n = some o := fun n hn => by
      cases e : lkO l n with
      | none => exact absurd ((ys_key Y n).mp hn) (lkX_mem.mp e)
      | some o => exact ⟨o, rfl⟩
    have got : ∀ {n : Str} {o : Option FileD} {H2 : Hp}, Same H H2 → lkO l n = some o → ∃ v, DGet H2 d (.str n) (some v) ∧ PgO K H2 v o := fun {n o H2} S2 e => by
      rcases pgs_get hP (.inr n) with ⟨_, z⟩ | ⟨v, o', h1, h2, h3⟩
      · rw [show lkX l (.inr n) = lkO l n from rfl, e] at z; cases z
      · rw [show lkX l (.inr n) = lkO l n from rfl, e] at h2
        cases h2
        refine ⟨v, ?_, h3.same S2⟩
        have := DGet.k (k := Sum.inr n) (S2 _ _ hd)
        rw [h1] at this
        exact this
    have tell : ∀ (pt n : Str) (H2 : Hp), Same H H2 → needErr l ys = some (pt, .str n) → ∀ p, H2 p = none → Q (.ref p) (upd H2 p (.lst [.str pt, .str n])) := fun pt n H2 S2 e p hp => q p ys _ (S2.trans (Evl.Ex.new hp)) Y (noneS S2 hp) (by rw [upd_same, e]; rfl)
    -- files
    refine ⟨_, rfl, N, rfl, ⟨_, SqL.of bN⟩, ?_⟩
    refine for_it walk_list (fun i σ Hi => Same H1 Hi ∧ (∃ v2 v3 : Option V, σ = [some (.ref d), some (.ref N), v2, v3]) ∧ ∀ j m, j < i → ys[j]? = some m → (lkO l m == some none) = false) ⟨Same.refl _, ⟨_, _, rfl⟩, fun j m hj => by omega⟩ (fun i σ Hi _ h => SqL.of (h.1 _ _ bN)) ?_ ?_
    · rintro i x σ Hi Hj hi ⟨Si, ⟨v2, v3, rfl⟩, ps⟩ ⟨rfl, hx⟩
      obtain ⟨n, hn, rfl⟩ := at_map hx
      obtain ⟨o, ho⟩ := inY n (List.mem_of_getElem? hn)
      obtain ⟨v, dg, pv⟩ := got (S1.trans Si) ho
      refine ⟨_, rfl, _, rfl, d, v, rfl, dg, rfl, _, rfl, ?_⟩
      cases o with
      | none =>
        cases (show v = .non from pv)
        refine iteT' rfl ⟨_, rfl, (by show 2 ≤ sizeLine; decide), fun p hp => ?_⟩
        exact tell "files" n _ (S1.trans Si) (needErr_files (find_at hn (by rw [ho]; rfl) ps)) p hp
      | some f =>
        obtain ⟨t, r, k, rfl, t1, t2, t3⟩ := pv
        refine iteF' rfl ⟨Si, ⟨_, _, rfl⟩, fun j m hj hm => ?_⟩
        by_cases z : j < i
        · exact ps j m z hm
        · have : j = i := by omega
          subst this
          rw [hn] at hm
          cases hm
          rw [ho]
          rfl
    rintro σ H2 ⟨S2, ⟨v2, v3, rfl⟩, ps⟩
    rw [List.length_map] at ps
    have ps : ∀ (j : Nat) m, ys[j]? = some m → (lkO l m == some none) = false := fun j m hm => ps j m (List.getElem?_eq_some_iff.mp hm).1 hm
    have f1 := find_non ps
    have n1 : ∀ m ∈ ys, lkO l m ≠ some none := fun m hm e => by
      obtain ⟨j, hj⟩ := List.mem_iff_getElem?.mp hm
      have := ps j m hj
      rw [e] at this
      cases this
    have inF : ∀ n ∈ ys, ∃ f, lkO l n = some (some f) := fun n hn => by
      obtain ⟨o, ho⟩ := inY n hn
      cases o with
      | none => exact absurd ho (n1 n hn)
      | some f => exact ⟨f, ho⟩
    have bN2 := S2 _ _ bN
    have S2 := S1.trans S2
    -- refers
    refine ⟨_, rfl, N, rfl, ⟨_, SqL.of bN2⟩, ?_⟩
    refine for_it walk_list (fun i σ Hi => Same H2 Hi ∧ (∃ v2 v3 : Option V, σ = [some (.ref d), some (.ref N), v2, v3]) ∧ ∀ j m, j < i → ys[j]? = some m → badRef (fsOf l) m = false) ⟨Same.refl _, ⟨_, _, rfl⟩, fun j m hj => by omega⟩ (fun i σ Hi _ h => SqL.of (h.1 _ _ bN2)) ?_ ?_
    · rintro i x σ Hi Hj hi ⟨Si, ⟨v2, v3, rfl⟩, ps⟩ ⟨rfl, hx⟩
      obtain ⟨n, hn, rfl⟩ := at_map hx
      obtain ⟨f, hf⟩ := inF n (List.mem_of_getElem? hn)
      obtain ⟨v, dg, t, r, k, rfl, t1, t2, t3⟩ := got (S2.trans Si) hf
      have fw : f.refers.length ≤ 10 := by
        have := (L.fok _ _ (lkX_in (k := .inr n) (l := l) hf)).2
        omega
      refine ⟨_, rfl, _, rfl, d, _, rfl, dg, t, _, 1, .ref r, rfl, rfl, SqT.of t1, atI_nat (j := 1) rfl, r, rfl, ⟨_, SqT.of t2⟩, fun D hD => ?_⟩
      refine lc_it walk_tup (PvL Hj D (fun i => f.refers[i]?.bind fun b => if refP l n b then some (V.str b) else none)) (pv_0 hD) (fun i H3 _ p => SqT.of (p.1 _ _ t2)) ?_ ?_
      · rintro j3 x H3 H4 hj3 p ⟨rfl, hx3⟩
        obtain ⟨b, hb, rfl⟩ := at_map hx3
        rw [List.length_map] at hj3
        have fi : (f.refers[j3]?.bind fun b => if refP l n b then some (V.str b) else none) = if refP l n b then some (V.str b) else none := by rw [hb]; rfl
        have dgb : DGet H4 d (.str b) (valV kvs (.inr b)) := DGet.k (k := Sum.inr b) ((S2.trans (Si.trans p.1)) _ _ hd)
        have iso : (valV kvs (.inr b)).isSome = !(lkO l b).isNone := by
          rcases pgs_get hP (.inr b) with ⟨z1, z2⟩ | ⟨v, o', h1, h2, h3⟩
          · rw [z1, show lkO l b = none from z2]; rfl
          · rw [h1, show lkO l b = some o' from h2]; rfl
        refine ⟨rfl, _, rfl, _, rfl, rfl, _, rfl, ?_⟩
        rw [dec_str]
        by_cases hbn : b = n
        · refine iteT' (beq_iff_eq.mpr hbn) ⟨_, rfl, pv_in p (Same.refl _) (by rw [fi, if_pos]; unfold refP; rw [decide_eq_true hbn]; rfl) (by omega)⟩
        · refine iteF' (by rw [beq_eq_false_iff_ne]; exact hbn) ⟨_, rfl, _, rfl, d, _, rfl, dgb, _, rfl, ?_⟩
          rw [iso, Bool.not_not]
          have er : refP l n b = (lkO l b).isNone := by unfold refP; rw [decide_eq_false hbn, Bool.false_or]
          rw [er] at fi
          refine ite2 (fun z => ?_) (fun z => ?_)
          · rw [if_pos z] at fi
            exact ⟨_, rfl, pv_in p (Same.refl _) (by rw [hb]; show (if refP l n b = true then _ else _) = _; rw [er, if_pos z]) (by omega)⟩
          · exact pv_out p (Same.refl _) (by rw [hb]; show (if refP l n b = true then _ else _) = _; rw [er, if_neg z])
      · intro H3 p
        have p3 := p.2.2
        rw [List.length_map, fm_filterS f.refers (refP l n)] at p3
        refine ⟨(by show 0 ≤ sizeLine; decide), fun p2 hp2 => ?_⟩
        have s4 := Evl.Ex.new (o := .lst []) hp2
        refine ⟨D, p2, _, rfl, rfl, SqL.of (s4 _ _ p3), SqL.of upd_same, _, rfl, ?_⟩
        have eb := refs_bad L Y n1 hf
        have ee : (!((f.refers.filter (refP l n)).map V.str).isEmpty) = badRef (fsOf l) n := by
          rw [show ((f.refers.filter (refP l n)).map V.str).isEmpty = (f.refers.filter (refP l n)).isEmpty by cases f.refers.filter (refP l n) <;> rfl, eb, Bool.not_not]
        rw [ee]
        have S4 := Si.trans (p.1.trans s4)
        refine ite2 (fun z => ?_) (fun z => ?_)
        · refine ⟨_, rfl, (by show 2 ≤ sizeLine; decide), fun p hp => ?_⟩
          exact tell "refers" n _ (S2.trans S4) (needErr_refers f1 (find_at hn z ps)) p hp
        · refine ⟨S4, ⟨_, _, rfl⟩, fun j m hj hm => ?_⟩
          by_cases z' : j < i
          · exact ps j m z' hm
          · have : j = i := by omega
            subst this
            rw [hn] at hm
            cases hm
            exact Bool.eq_false_iff.mpr z
    rintro σ H3 ⟨S3, ⟨v2, v3, rfl⟩, ps⟩
    rw [List.length_map] at ps
    have ps : ∀ (j : Nat) m, ys[j]? = some m → badRef (fsOf l) m = false := fun j m hm => ps j m (List.getElem?_eq_some_iff.mp hm).1 hm
    have f2 := find_non ps
    have n2 : ∀ m ∈ ys, badRef (fsOf l) m = false := fun m hm => by
      obtain ⟨j, hj⟩ := List.mem_iff_getElem?.mp hm
      exact ps j m hj
    have bN3 := S3 _ _ bN2
    have S3 := S2.trans S3
    clear ps bN2 S2 S1 bN
    obtain ⟨fok, lfs⟩ := fsOk_of L hk Y n1 n2
    -- keeps
    obtain ⟨y0, hy0⟩ : ∃ y0, ys[0]? = some y0 := by
      cases ys with
      | nil => exact absurd hp.symm.eq_nil nne
      | cons a r => exact ⟨a, rfl⟩
    have eh : ys.headD "" = y0 := by
      cases ys with
      | nil => cases hy0
      | cons a r => cases hy0; rfl
    refine ⟨_, rfl, N, rfl, ⟨_, SqL.of bN3⟩, ?_⟩
    refine for_it walk_list (fun i σ Hi => Same H3 Hi ∧ (∃ v2 v3 : Option V, σ = [some (.ref d), some (.ref N), v2, v3]) ∧ ∀ j m, j < i → ys[j]? = some m → badKeep (fsOf l) ys m = false) ⟨Same.refl _, ⟨_, _, rfl⟩, fun j m hj => by omega⟩ (fun i σ Hi _ h => SqL.of (h.1 _ _ bN3)) ?_ ?_
    · rintro i x σ Hi Hj hi ⟨Si, ⟨v2, v3, rfl⟩, ps⟩ ⟨rfl, hx⟩
      obtain ⟨n, hn, rfl⟩ := at_map hx
      obtain ⟨f, hf⟩ := inF n (List.mem_of_getElem? hn)
      obtain ⟨f0, hf0⟩ := inF y0 (List.mem_of_getElem? hy0)
      obtain ⟨v, dg, t, r, k, rfl, t1, t2, t3⟩ := got (S3.trans Si) hf
      obtain ⟨v', dg', t', r', k', rfl, u1, u2, u3⟩ := got (S3.trans Si) hf0
      refine ⟨_, rfl, _, rfl, d, _, rfl, dg, t, _, 3, .ref k, rfl, rfl, SqT.of t1, atI_nat (j := 3) rfl, _, _, rfl, .inr ⟨_, SqT.of t3, rfl⟩, ?_⟩
      refine ⟨_, rfl, _, rfl, N, _, 0, .str y0, rfl, rfl, SqL.of (Si _ _ bN3), atI_nat (j := 0) (by rw [List.getElem?_map, hy0]; rfl), d, _, rfl, dg', t', _, 3, .ref k', rfl, rfl, SqT.of u1, atI_nat (j := 3) rfl, _, _, rfl, .inr ⟨_, SqT.of u3, rfl⟩, rfl, _, rfl, ?_⟩
      have ek : (!decide (V.int (((f.keeps.map optI).length : Nat) : Int) = V.int (((f0.keeps.map optI).length : Nat) : Int))) = badKeep (fsOf l) ys n := by
        unfold badKeep
        rw [eh, keeps_bad L hf, keeps_bad L hf0, List.length_map, List.length_map, dec_int]
        congr 1
        rw [Bool.eq_iff_iff, beq_iff_eq, beq_iff_eq]
        omega
      rw [ek]
      refine ite2 (fun z => ?_) (fun z => ?_)
      · refine ⟨_, rfl, (by show 2 ≤ sizeLine; decide), fun p hp => ?_⟩
        exact tell "keeps" n _ (S3.trans Si) (needErr_keeps f1 f2 (find_at hn z ps)) p hp
      · refine ⟨Si, ⟨_, _, rfl⟩, fun j m hj hm => ?_⟩
        by_cases z' : j < i
        · exact ps j m z' hm
        · have : j = i := by omega
          subst this
          rw [hn] at hm
          cases hm
          exact Bool.eq_false_iff.mpr z
    rintro σ H4 ⟨S4, ⟨v2, v3, rfl⟩, ps⟩
    rw [List.length_map] at ps
    have ps : ∀ (j : Nat) m, ys[j]? = some m → badKeep (fsOf l) ys m = false := fun j m hm => ps j m (List.getElem?_eq_some_iff.mp hm).1 hm
    have f3 := find_non ps
    have bN4 := S4 _ _ bN3
    have S4 := S3.trans S4
    clear ps bN3 S3
    -- rings
    refine ⟨_, rfl, N, rfl, ⟨_, SqL.of bN4⟩, ?_⟩
    refine for_it walk_list (fun i σ Hi => Same H4 Hi ∧ (∃ v2 v3 : Option V, σ = [some (.ref d), some (.ref N), v2, v3]) ∧ ∀ j m, j < i → ys[j]? = some m → ringB (fsOf l) m = false) ⟨Same.refl _, ⟨_, _, rfl⟩, fun j m hj => by omega⟩ (fun i σ Hi _ h => SqL.of (h.1 _ _ bN4)) ?_ ?_
    · rintro i x σ Hi Hj hi ⟨Si, ⟨v2, v3, rfl⟩, ps⟩ ⟨rfl, hx⟩
      obtain ⟨n, hn, rfl⟩ := at_map hx
      obtain ⟨f, hf⟩ := inF n (List.mem_of_getElem? hn)
      have S4i := S4.trans Si
      have nk : n ∈ (fsOf l).map (·.1) := lkF_key.mpr ⟨f, by rw [lkF_fsOf L.nd, hf]; rfl⟩
      refine ⟨_, rfl, _, rfl, _, rfl, d, n, kvs, fsOf l, rfl, S4i _ _ hd, (pgs_files hP lfs).same S4i, fok, nk, fun p xs H5 S5 b5 hxs => ?_⟩
      refine ⟨p, _, rfl, .inl (SqL.of b5), rfl, strs_flat xs, _, rfl, ?_⟩
      rw [if_neg (by decide), inV_str]
      have er : decide (n ∈ xs) = ringB (fsOf l) n := by
        rw [Bool.eq_iff_iff, decide_eq_true_eq, ringB_iff]
        exact hxs n
      rw [er]
      refine ite2 (fun z => ?_) (fun z => ?_)
      · refine ⟨_, rfl, (by show 2 ≤ sizeLine; decide), fun p hp => ?_⟩
        exact tell "ring" n _ (S4i.trans S5) (needErr_ring f1 f2 f3 (find_at hn z ps)) p hp
      · refine ⟨Si.trans S5, ⟨_, _, rfl⟩, fun j m hj hm => ?_⟩
        by_cases z' : j < i
        · exact ps j m z' hm
        · have : j = i := by omega
          subst this
          rw [hn] at hm
          cases hm
          exact Bool.eq_false_iff.mpr z
    rintro σ H5 ⟨S5, ⟨v2, v3, rfl⟩, ps⟩
    rw [List.length_map] at ps
    have f4 := find_non fun (j : Nat) m hm => ps j m (List.getElem?_eq_some_iff.mp hm).1 hm
    refine ⟨(by show 0 ≤ sizeLine; decide), fun p hp => ?_⟩
    exact q p ys _ ((S4.trans S5).trans (Evl.Ex.new hp)) Y (noneS (S4.trans S5) hp) (by rw [upd_same, needErr_fine f1 f2 f3 f4]; rfl)
end
end WP
namespace WP
open PySem L2
def spIsName (K : PySem.W.Frag) : Sp := fun vs H Q _ => ∃ (v : V) (k : Kd), vs = [v] ∧ Any K H v k ∧ (∀ z, v = .str z → z.length ≤ sizeLine) ∧ ∀ H', Same H H' → Q (.bl (isNameV v)) H'
def spIsNumber (K : PySem.W.Frag) : Sp := fun vs H Q _ => ∃ (v : V) (k : Kd), vs = [v] ∧ Any K H v k ∧ ∀ H', Same H H' → Q (.bl (isNumV v)) H'
def spIsList (K : PySem.W.Frag) : Sp := fun vs H Q _ => ∃ (v : V) (k : Kd), vs = [v] ∧ Any K H v k ∧ ∀ H', Same H H' → Q (.bl (k.isLst || k.isTup)) H'
def spIsTicks (K : PySem.W.Frag) : Sp := fun vs H Q _ => ∃ (v : V) (k : Kd), vs = [v] ∧ Any K H v k ∧ ∀ H', Same H H' → Q (.bl (isTicksV v)) H'
section
variable {P : Program} {w : World} {K : PySem.W.Frag} {mg : Str → Option Value} {base : Heap}
theorem ok_is_number {f : Addr} {fd : FuncData} (F : Fun K "is_number" "is_number" s_is_number f fd) (T : Bi mg) : FnOk P w K mg base CX0 1 f fd ["value"] (spIsNumber K) := by
  refine F.ok sc_is_number (fun vs H Q E h => ?_) (fun cdv A outer s H vs Q E hr h => ?_)
  · obtain ⟨v, k, rfl, _⟩ := h
    rfl
  · obtain ⟨v, k, rfl, h, q⟩ := h
    have nd := sc_is_number.nd
    refine ⟨_, pss_one (ps_ret (pe_and (pe_callB call_isi (by rfl) T.isinstance (by decide +kernel) (pa_cons (pv 0) (pa_cons (n_int T) pa_nil))) (pe_one (pe_not (pe_callB call_isi (by rfl) T.isinstance (by decide +kernel) (pa_cons (pv 0) (pa_cons (n_bool T) pa_nil))))))), ?_⟩
    refine ⟨_, rfl, v, .ty "int", k.ty, _, _, rfl, .ty "int", h.tyx, h.kInt, _, rfl, ?_⟩
    have q := q H (Same.refl H)
    cases h with
    | int i => exact iteT ⟨_, rfl, _, _, _, _, _, rfl, .ty "bool", (Any.int i : Any K H _ _).tyx, (Any.int i : Any K H _ _).kBl, _, rfl, q⟩
    | bl b => exact iteT ⟨_, rfl, _, _, _, _, _, rfl, .ty "bool", (Any.bl b : Any K H _ _).tyx, (Any.bl b : Any K H _ _).kBl, _, rfl, q⟩
    | _ => exact iteF q
theorem ok_is_list {f : Addr} {fd : FuncData} (F : Fun K "is_list" "is_list" s_is_list f fd) (T : Bi mg) : FnOk P w K mg base CX0 1 f fd ["value"] (spIsList K) := by
  refine F.ok sc_is_list (fun vs H Q E h => ?_) (fun cdv A outer s H vs Q E hr h => ?_)
  · obtain ⟨v, k, rfl, _⟩ := h
    rfl
  · obtain ⟨v, k, rfl, h, q⟩ := h
    have nd := sc_is_list.nd
    refine ⟨_, pss_one (ps_ret (pe_callB call_isiT (by rfl) T.isinstance (by decide +kernel) (pa_cons (pv 0) (pa_cons (pe_tup (pa_cons (n_list T) (pa_cons (n_tuple T) pa_nil))) pa_nil)))), ?_⟩
    refine ⟨_, rfl, (by show 2 ≤ sizeLine; decide), fun p hp => ⟨v, p, _, k.ty, _, _, rfl, upd_same, .cons (.ty "list") (.cons (.ty "tuple") .nil), (h.same (Evl.Ex.new hp)).tyx, h.kSeq, ?_⟩⟩
    exact q _ (Evl.Ex.new hp)
theorem ok_is_name {f : Addr} {fd : FuncData} (F : Fun K "is_name" "is_name" s_is_name f fd) (T : Bi mg) (G_LETTERS : ∃ t, mg "LETTERS" = some (.str alphabet t)) (G_LONGEST_NAME : ∃ t, mg "LONGEST_NAME" = some (.int 8 t)) : FnOk P w K mg base CX0 1 f fd ["value"] (spIsName K) := by
  refine F.ok sc_is_name (fun vs H Q E h => ?_) (fun cdv A outer s H vs Q E hr h => ?_)
  · obtain ⟨v, k, rfl, _⟩ := h
    rfl
  · obtain ⟨v, k, rfl, h, hz, q⟩ := h
    have nd := sc_is_name.nd
    refine ⟨_, pss_cons (ps_if (PW.pt (pw_or (pt_not (pt_val (pe_callB call_isi (by rfl) T.isinstance (by decide +kernel) (pa_cons (pv 0) (pa_cons (n_str T) pa_nil))))) (pw_or1 (pt_not (pt_chain op_le op_le pe_int (pe_callB call_len (by rfl) T.len (by decide +kernel) (pa_cons (pv 0) pa_nil)) (gInt G_LONGEST_NAME)))))) (pss_one (ps_ret pe_bl)) pss_nil)
      (pss_one (ps_ret (pe_callB (cr_all rfl) (by rfl) T.all (by decide +kernel) (pa_cons (pe_lc (own := [("letter", 1)]) (g := gName 1) rfl nd (pi_str (pv 0)) (blkOk_by (own := [("letter", 1)]) (N := ["value", "letter"]) (sc := defScope s_is_name) (by decide +kernel)) (fun _ _ _ _ _ => (pg_name (i := 1) nd rfl (by first | exact Or.inl rfl | exact Or.inr rfl))) (fun _ _ _ _ _ => pts_nil) (fun _ _ _ _ _ => (pe_cmpR op_in_sign (pv 1) (gStr G_LETTERS) (by rfl)))) pa_nil)))), ?_⟩
    refine ⟨_, rfl, v, .ty "str", k.ty, _, _, rfl, .ty "str", h.tyx, h.kStr, _, rfl, ?_⟩
    cases h with
    | str z =>
      refine iteF ?_
      refine ⟨_, rfl, _, _, rfl, ⟨hz z rfl, rfl⟩, _, _, rfl, rfl, _, rfl, ?_⟩
      have fin : isNameV (.str z) = false → Q (.bl false) H := fun e => by
        have := q H (Same.refl H)
        rw [e] at this
        exact this
      refine ite2 (fun h1 => ?_) (fun h1 => ?_)
      · refine ⟨_, _, rfl, rfl, _, rfl, ?_⟩
        refine ite2 (fun h2 => ?_) (fun h2 => ?_)
        · refine fin ?_
          simp only [Bool.not_eq_true', decide_eq_false_iff_not] at h2
          simp [isNameV, isNameS, h2]
        · simp only [Bool.not_eq_true', decide_eq_false_iff_not, Decidable.not_not, decide_eq_true_eq] at h1 h2
          have hsz : z.cps.size = z.length := rfl
          refine ⟨_, rfl, z, rfl, fun D hD => ?_⟩
          refine lc_it walk_str (PvL H D (fun i => z.cps.toList[i]?.map fun c => V.bl (decide (c ∈ alphabet.cps.toList)))) (pv_0 hD) (fun _ _ _ _ => trivial) ?_ ?_
          · rintro i x H1 H2 hi p ⟨rfl, c, hc, rfl⟩
            refine ⟨rfl, ?_⟩
            refine ⟨_, rfl, _, _, rfl, rfl, ?_⟩
            exact pv_in p (Same.refl _) (by simp only [Array.getElem?_toList, hc, Option.map_some]) (by omega)
          · intro H1 p
            have p3 := p.2.2
            have e : z.cps.size = z.cps.toList.length := by simp
            rw [e, fm_range] at p3
            refine ⟨D, z.cps.toList.map (fun c => decide (c ∈ alphabet.cps.toList)), rfl, SqL.of (by rw [p3, List.map_map]; rfl), ?_⟩
            have r := q H1 p.1
            have e2 : isNameV (.str z) = (z.cps.toList.map (fun c => decide (c ∈ alphabet.cps.toList))).all id := by
              simp [isNameV, isNameS, h1, h2, List.all_map]
            rw [e2] at r
            exact r
      · refine ⟨_, rfl, ?_⟩
        refine iteT (fin ?_)
        simp only [decide_eq_true_eq] at h1
        simp [isNameV, isNameS, h1]
    | _ => exact iteT (q H (Same.refl H))
theorem ok_is_ticks {f : Addr} {fd : FuncData} (F : Fun K "is_ticks" "is_ticks" s_is_ticks f fd) (T : Bi mg) (D_is_number : Dn P w K mg base CX0 1 "is_number" ["value"] (spIsNumber K)) (G_MOST_TICKS : ∃ t, mg "MOST_TICKS" = some (.int 1000 t)) : FnOk P w K mg base CX0 2 f fd ["value"] (spIsTicks K) := by
  refine F.ok sc_is_ticks (fun vs H Q E h => ?_) (fun cdv A outer s H vs Q E hr h => ?_)
  · obtain ⟨v, k, rfl, _⟩ := h
    rfl
  · obtain ⟨v, k, rfl, h, q⟩ := h
    have nd := sc_is_ticks.nd
    refine ⟨_, pss_one (ps_ret (pe_or (pe_cmpR op_isN (pv 0) pe_non (nomark _)) (pe_one (pe_and (pe_d D_is_number (hr.mono (by decide)) pass0 (pa_cons (pv 0) pa_nil)) (pe_one (pe_chain op_le op_le pe_int (pv 0) (gInt G_MOST_TICKS))))))), ?_⟩
    refine ⟨_, rfl, rfl, _, rfl, ?_⟩
    refine ite2 (fun h1 => ?_) (fun h1 => ?_)
    · simp only [decide_eq_true_eq] at h1
      have r := q H (Same.refl H)
      rw [h1] at r
      exact r
    · refine ⟨_, rfl, v, k, rfl, h, fun H1 S1 => ⟨_, rfl, ?_⟩⟩
      have r := q H1 S1
      cases h with
      | int i =>
        refine iteT ⟨_, rfl, _, _, rfl, rfl, _, rfl, ?_⟩
        refine ite2 (fun h2 => ?_) (fun h2 => ?_)
        · simp only [decide_eq_true_eq] at h2
          refine ⟨_, _, rfl, rfl, ?_⟩
          simp only [isTicksV, h2, decide_true, Bool.true_and] at r
          exact r
        · simp only [decide_eq_true_eq] at h2
          simp only [isTicksV, h2, decide_false, Bool.false_and] at r
          exact r
      | non => simp at h1
      | _ => exact iteF r
end
end WP
namespace WP
open PySem L2
section
variable {P : Program} {w : World} {K : PySem.W.Frag} {mg : Str → Option Value} {base : Heap}
theorem ok__law_is_word {f : Addr} {fd : FuncData} (F : Fun K "_law_is_word" "_law_is_word" s__law_is_word f fd) (T : Bi mg) : FnOk P w K mg base CX0 1 f fd ["_law_item"] (spIsName K) := by
  refine F.ok sc__law_is_word (fun vs H Q E h => ?_) (fun cdv A outer s H vs Q E hr h => ?_)
  · obtain ⟨v, k, rfl, _⟩ := h
    rfl
  · obtain ⟨v, k, rfl, h, hz, q⟩ := h
    have nd := sc__law_is_word.nd
    refine ⟨_, pss_cons (ps_if (PW.pt (pw_or (pt_not (pt_val (pe_callB call_isi (by rfl) T.isinstance (by decide +kernel) (pa_cons (pv 0) (pa_cons (n_str T) pa_nil))))) (pw_or1 (pt_not (pt_chain op_le op_le pe_int (pe_callB call_len (by rfl) T.len (by decide +kernel) (pa_cons (pv 0) pa_nil)) pe_int))))) (pss_one (ps_ret pe_bl)) pss_nil)
      (pss_one (ps_ret (pe_cmpR (op_eqN hr.units) (pe_lc (own := [("_law_letter", 1)]) (g := gName 1) rfl nd (pi_str (pv 0)) (blkOk_by (own := [("_law_letter", 1)]) (N := ["_law_item", "_law_letter"]) (sc := defScope s__law_is_word) (by decide +kernel)) (fun _ _ _ _ _ => (pg_name (i := 1) nd rfl (by first | exact Or.inl rfl | exact Or.inr rfl))) (fun _ _ _ _ _ => (pts_one (pt_cmpR op_notIn_sign (pv 1) pe_str (by rfl)))) (fun _ _ _ _ _ => (pv 1))) (pe_lst pa_nil) (nomark _)))), ?_⟩
    refine ⟨_, rfl, v, .ty "str", k.ty, _, _, rfl, .ty "str", h.tyx, h.kStr, _, rfl, ?_⟩
    cases h with
    | str z =>
      refine iteF ?_
      refine ⟨_, rfl, _, _, rfl, ⟨hz z rfl, rfl⟩, _, _, rfl, rfl, _, rfl, ?_⟩
      have fin : isNameV (.str z) = false → Q (.bl false) H := fun e => by
        have := q H (Same.refl H)
        rw [e] at this
        exact this
      refine ite2 (fun h1 => ?_) (fun h1 => ?_)
      · refine ⟨_, _, rfl, rfl, _, rfl, ?_⟩
        refine ite2 (fun h2 => ?_) (fun h2 => ?_)
        · refine fin ?_
          simp only [Bool.not_eq_true', decide_eq_false_iff_not] at h2
          simp [isNameV, isNameS, h2]
        · simp only [Bool.not_eq_true', decide_eq_false_iff_not, Decidable.not_not, decide_eq_true_eq] at h1 h2
          have hsz : z.cps.size = z.length := rfl
          refine ⟨_, rfl, z, rfl, fun D hD => ?_⟩
          refine lc_it walk_str (fun n Hm => Same H Hm ∧ ∃ ts : List V, Hm D = some (.lst ts) ∧ ts.length ≤ n ∧ ts.isEmpty = (z.cps.toList.take n).all fun c => decide (c ∈ alphabet.cps.toList)) ⟨Evl.Ex.new hD, [], upd_same, Nat.le_refl _, rfl⟩ (fun _ _ _ _ => trivial) ?_ ?_
          · rintro i x H1 H2 hi ⟨Sm, ts, bD, tl', te⟩ ⟨rfl, c, hc, rfl⟩
            have hc' : z.cps.toList[i]? = some c := by rw [Array.getElem?_toList]; exact hc
            refine ⟨rfl, ?_⟩
            refine ⟨_, rfl, _, _, rfl, rfl, _, rfl, ?_⟩
            rw [take_at hc', List.all_append, ← te, List.all_cons, List.all_nil, Bool.and_true]
            cases eb : decide (c ∈ alphabet.cps.toList) with
            | false =>
              refine iteT' rfl ⟨_, rfl, ts, bD, by rw [sizeLine_eq]; omega, Evl.Ex.mut Sm hD, _, upd_same, by rw [List.length_append]; show ts.length + 1 ≤ _; omega, ?_⟩
              rw [Bool.and_false, List.isEmpty_eq_false_iff.mpr (by simp)]
            | true =>
              exact iteF' rfl ⟨Sm, ts, bD, by omega, by rw [Bool.and_true]⟩
          · rintro H1 ⟨S1, ts, bD, tl', te⟩
            rw [show z.cps.size = z.cps.toList.length by simp, List.take_of_length_le (Nat.le_refl _)] at te
            refine ⟨(by decide), fun p9 hp9 => ?_⟩
            have s9 := Evl.Ex.new (o := .lst []) hp9
            refine ⟨D, p9, _, rfl, rfl, SqL.of (s9 _ _ bD), SqL.of upd_same, ?_⟩
            have r := q _ (S1.trans s9)
            have e2 : isNameV (.str z) = ts.isEmpty := by
              rw [te]
              simp [isNameV, isNameS, h1, h2]
            rw [e2] at r
            exact r
      · refine ⟨_, rfl, ?_⟩
        refine iteT (fin ?_)
        simp only [decide_eq_true_eq] at h1
        simp [isNameV, isNameS, h1]
    | _ => exact iteT (iteT (q H (Same.refl H)))
end
end WP
namespace WP
open PySem L2
section
variable {P : Program} {w : World} {K : PySem.W.Frag} {mg : Str → Option Value} {base : Heap}
theorem ok__law_wrong4 {f : Addr} {fd : FuncData} (F : Fun K "_law_wrong" "_law_wrong" s__law_wrong f fd) (T : Bi mg) (D__law_is_word : Dn P w K mg base CX0 1 "_law_is_word" ["_law_item"] (spIsName K)) (D__law_wrong_file : Dn P w K mg base CX0 2 "_law_wrong_file" ["_law_pages"] (spWrongFile K)) (D__law_is_tree : Dn P w K mg base CX0 2 "_law_is_tree" ["_law_pages", "_law_entry"] (spLawIsTreeG K)) : FnOk P w K mg base CX0 3 f fd ["_law_pages", "_law_doors", "_law_counting"] (spWrong4 K) := by
  refine F.ok sc__law_wrong (fun vs H Q E h => ?_) (fun cdv A outer s H vs Q E hr h => ?_)
  · obtain ⟨gv, k, l, j, dv, ke, xe, cv, kc, rfl, _⟩ := h
    rfl
  · obtain ⟨gv, k, l, j, dv, ke, xe, cv, kc, rfl, hv, L, j2, he, hT, hx64, hc, q⟩ := h
    have hu := hu_of hr
    have nd := sc__law_wrong.nd
    refine ⟨_, pss_cons (ps_if (PW.pt (pw_or (pt_not (pt_val (pe_callB call_isi (by rfl) T.isinstance (by decide +kernel) (pa_cons (pv 0) (pa_cons (n_dict T) pa_nil))))) (pw_or1 (pt_not (pt_chain op_le op_le pe_int (pe_callB call_lenD (by rfl) T.len (by decide +kernel) (pa_cons (pv 0) pa_nil)) pe_int))))) (pss_one (ps_ret (pe_lst (pa_cons pe_str (pa_cons pe_non pa_nil))))) pss_nil)
      (pss_cons (ps_if (pt_cmpR (op_neN hr.units) (pe_lock (pe_lc (own := [("_law_name", 3)]) (g := gName 3) rfl nd (pi_keys (pv 0)) (blkOk_by (own := [("_law_name", 3)]) (N := ["_law_pages", "_law_doors", "_law_counting", "_law_name", "_law_found", "_law_at", "_law_one", "_law_entry"]) (sc := defScope s__law_wrong) (by decide +kernel)) (fun _ _ _ _ _ => (pg_name (i := 3) nd rfl (by first | exact Or.inl rfl | exact Or.inr rfl))) (fun _ _ _ _ _ => (pts_one (pt_not (pt_val (pe_d D__law_is_word (hr.mono (by decide)) pass0 (pa_cons (pv 3) pa_nil)))))) (fun _ _ _ _ _ => pe_int))) (pe_lst pa_nil) (nomark _)) (pss_one (ps_ret (pe_lst (pa_cons pe_str (pa_cons pe_non pa_nil))))) pss_nil)
      (pss_cons (ps_set (i := 4) nd rfl (by first | exact Or.inl rfl | exact Or.inr rfl) (pe_d D__law_wrong_file (hr.mono (by decide)) pass0 (pa_cons (pv 0) pa_nil)))
      (pss_cons (ps_if (pt_cmpR (op_neN hr.units) (pv 4) (pe_lst pa_nil) (nomark _)) (pss_one (ps_ret (pv 4))) pss_nil)
      (pss_cons (ps_if (PW.pt (pw_or (pt_not (pt_val (pe_callB call_isiT (by rfl) T.isinstance (by decide +kernel) (pa_cons (pv 1) (pa_cons (pe_tup (pa_cons (n_list T) (pa_cons (n_tuple T) pa_nil))) pa_nil))))) (pw_or1 (pt_cmpR op_eq (pe_callB call_len (by rfl) T.len (by decide +kernel) (pa_cons (pv 1) pa_nil)) pe_int (nomark _))))) (pss_one (ps_ret (pe_lst (pa_cons pe_str (pa_cons pe_non pa_nil))))) pss_nil)
      (pss_cons (ps_for PassesOwn.never rfl (pi_range1 (by rfl) T.range (pa_cons (pe_callB call_len (by rfl) T.len (by decide +kernel) (pa_cons (pv 1) pa_nil)) pa_nil)) (pg_name (i := 5) nd rfl (by first | exact Or.inl rfl | exact Or.inr rfl)) (pss_cons (ps_set (i := 6) nd rfl (by first | exact Or.inl rfl | exact Or.inr rfl) (pe_ix (ix_seqE (K := K) rfl) (pv 1) (pv 5) (fun _ _ => rfl)))
      (pss_cons (ps_if (PW.pt (pw_or (pt_not (pt_val (pe_d D__law_is_word (hr.mono (by decide)) pass0 (pa_cons (pv 6) pa_nil)))) (pw_or1 (pt_cmp (pc_dnotin hu (pv 6) (pv 0)))))) (pss_one (ps_ret (pe_lst (pa_cons pe_str (pa_cons pe_non pa_nil))))) pss_nil)
      (pss_one (ps_if (PW.pt (pw_or (pt_cmpR op_ne (pe_ix ix_tup (pe_dget hu (pv 0) (pv 6) (fun _ _ => rfl)) pe_int (fun _ _ => rfl)) pe_str (nomark _)) (pw_or1 (pt_cmpR op_in_seq (pv 6) (pe_slice sl_list (pe_callTy call_list_of (by rfl) T.list (by decide +kernel) (pa_cons (pv 1) pa_nil)) po_none (po_some (pv 5))) (by rfl))))) (pss_one (ps_ret (pe_lst (pa_cons pe_str (pa_cons pe_non pa_nil))))) pss_nil)))))
      (pss_cons (ps_for PassesOwn.never rfl (pi_list (pe_callB cr_sortA (by rfl) T.sorted (by decide +kernel) (pa_cons (pv 1) pa_nil))) (pg_name (i := 7) nd rfl (by first | exact Or.inl rfl | exact Or.inr rfl)) (pss_one (ps_if (pt_not (pt_val (pe_d D__law_is_tree (hr.mono (by decide)) pass0 (pa_cons (pv 0) (pa_cons (pv 7) pa_nil))))) (pss_one (ps_ret (pe_lst (pa_cons pe_str (pa_cons (pv 7) pa_nil))))) pss_nil)))
      (pss_one (ps_ret (pe_ifExp (PW.pt (pw_and (pt_val (pe_callB call_isi (by rfl) T.isinstance (by decide +kernel) (pa_cons (pv 2) (pa_cons (n_str T) pa_nil)))) (pw_and1 (pt_cmpR op_in_seq (pv 2) (pe_lst (pa_cons pe_str (pa_cons pe_str pa_nil))) (by rfl))))) (pe_lst pa_nil) (pe_lst (pa_cons pe_str (pa_cons pe_non pa_nil)))))))))))), ?_⟩
    have bad0 : (k.isDct && okKeys l) = false → ∀ H1, Same H H1 → ∀ p, H1 p = none → Q (.ref p) (upd H1 p (.lst [.str "files", .non])) := fun e H1 S p hp => q p [] [] _ (S.trans (Evl.Ex.new hp)) (noneS S hp) (fun z => by rw [e] at z; cases z) (fun z => by rw [e] at z; cases z) (by rw [upd_same, sE_files e]; rfl)
    refine ⟨_, rfl, gv, .ty "dict", k.ty, _, _, rfl, .ty "dict", hv.1.tyx, hv.1.kDct, _, rfl, ?_⟩
    cases ek : k.isDct with
    | false => exact iteT' rfl ⟨(by show 2 ≤ sizeLine; decide), fun p hp => bad0 (by rw [ek]; rfl) H (Same.refl H) p hp⟩
    | true =>
      refine iteF' rfl ?_
      obtain ⟨d, kvs, rfl, hd, hP⟩ := hv.2 ek
      rw [ek] at q bad0
      simp only [Bool.true_and] at q bad0
      have hlen := All2.len hP
      refine ⟨_, rfl, d, kvs, rfl, hd, _, _, rfl, rfl, _, rfl, ?_⟩
      refine ite2 (fun h1 => ?_) (fun h1 => ?_)
      · refine ⟨_, _, rfl, rfl, _, rfl, ?_⟩
        refine ite2 (fun h2 => ?_) (fun h2 => ?_)
        · refine ⟨(by show 2 ≤ sizeLine; decide), fun p hp => bad0 ?_ H (Same.refl H) p hp⟩
          simp only [Bool.not_eq_true', decide_eq_false_iff_not] at h2
          unfold okKeys
          rw [decide_eq_false (p := l.length ≤ 8) (by omega), Bool.and_false, Bool.false_and]
        · simp only [Bool.not_eq_true', decide_eq_false_iff_not, Decidable.not_not, decide_eq_true_eq] at h1 h2
          refine ⟨d, _, hd, trivial, fun od => ?_⟩
          refine ⟨_, rfl, d, od, rfl, .inl ⟨kvs, upd_same, fun D hD => ?_⟩⟩
          have nDd : D ≠ d := fun e => by rw [e, upd_same] at hD; cases hD
          refine lc_it walk_keys (PvL (upd H d (.frz od (.dK kvs))) D (fun i => kvs[i]?.bind fun p => if !isNameV (kV p.1) then some (V.int 1) else none)) (pv_0 hD) (fun i H2 _ p => p.1 _ _ upd_same) ?_ ?_
          · rintro i x H2 H3 hi p ⟨rfl, kk, vv, hx, rfl⟩
            have fin : ∀ H4, Same H3 H4 → if (!isNameV (kV kk)) = true then ∃ acc, H4 D = some (.lst acc) ∧ acc.length < sizeLine ∧ PvL (upd H d (.frz od (.dK kvs))) D (fun i => kvs[i]?.bind fun p => if !isNameV (kV p.1) then some (V.int 1) else none) (i + 1) (upd H4 D (.lst (acc ++ [V.int 1]))) else PvL (upd H d (.frz od (.dK kvs))) D (fun i => kvs[i]?.bind fun p => if !isNameV (kV p.1) then some (V.int 1) else none) (i + 1) H4 := fun H4 S4 => by
              have e0 : (kvs[i]?.bind fun p => if !isNameV (kV p.1) then some (V.int 1) else none) = if !isNameV (kV kk) then some (V.int 1) else none := by rw [hx]; rfl
              refine ite2 (fun z => ?_) (fun z => ?_)
              · exact pv_in p S4 (by rw [e0, if_pos z]) (by omega)
              · exact pv_out p S4 (by rw [e0, if_neg z])
            refine ⟨rfl, _, rfl, kV kk, ?_⟩
            cases kk with
            | inl z => exact ⟨.int, rfl, .int z, fun _ e => (by cases e), fun H4 S4 => ⟨_, rfl, fin H4 S4⟩⟩
            | inr z => exact ⟨.str, rfl, .str z, fun y e => (by cases e; exact Nat.le_trans (L.kl z (by rw [← pgs_keys hP]; exact List.mem_map.mpr ⟨_, at_mem hx, rfl⟩)) (by decide)), fun H4 S4 => ⟨_, rfl, fin H4 S4⟩⟩
          · intro H2 p
            have p3 := p.2.2
            have S2 : Same H (upd H2 d (.dK kvs)) := lock_same hd p.1
            have p4 : upd H2 d (.dK kvs) D = _ := (upd_ne nDd).trans p3
            have ee : ((List.range kvs.length).filterMap fun i => kvs[i]?.bind fun p => if !isNameV (kV p.1) then some (V.int 1) else none).isEmpty = keysN l := by
              have e2 : keysN l = (l.map (·.1)).all fun k => isNameV (kV k) := by unfold keysN; simp [List.all_map, Function.comp_def]
              rw [e2, ← pgs_keys hP, Bool.eq_iff_iff, List.isEmpty_iff, List.filterMap_eq_nil_iff, List.all_eq_true]
              constructor
              · intro h k hk
                obtain ⟨p, hp, rfl⟩ := List.mem_map.mp hk
                obtain ⟨i, hi⟩ := List.mem_iff_getElem?.mp hp
                have := h i (List.mem_range.mpr (List.getElem?_eq_some_iff.mp hi).1)
                rw [hi] at this
                cases e : isNameV (kV p.1) with
                | true => rfl
                | false =>
                  have h3 : (if (!isNameV (kV p.1)) = true then some (V.int 1) else none) = none := this
                  rw [e] at h3
                  cases h3
              · intro h i hi
                rw [List.mem_range] at hi
                rw [List.getElem?_eq_getElem hi]
                show (if (!isNameV (kV (kvs[i]).1)) = true then some (V.int 1) else none) = none
                rw [h _ (List.mem_map.mpr ⟨_, List.getElem_mem hi, rfl⟩)]
                rfl
            refine ⟨p.1 _ _ upd_same, (by show 0 ≤ sizeLine; decide), fun p2 hp2 => ?_⟩
            have s4 := Evl.Ex.new (o := .lst []) hp2
            refine ⟨D, p2, _, rfl, rfl, SqL.of (s4 _ _ p4), SqL.of upd_same, _, rfl, ?_⟩
            rw [ee]
            have S3 := S2.trans s4
            generalize upd (upd H2 d (.dK kvs)) p2 (.lst []) = H3 at S3
            clear s4 p4 S2 p3 ee
            cases en : keysN l with
            | false => exact iteT' rfl ⟨(by show 2 ≤ sizeLine; decide), fun p hp => bad0 (by have h : (true && okKeys l) = false := keysN_bad (k := .dct) en; rwa [Bool.true_and] at h) H3 S3 p hp⟩
            | true =>
              refine iteF' rfl ?_
              have hok : okKeys l = true := by
                unfold okKeys
                unfold keysN at en
                rw [en, decide_eq_true (p := 1 ≤ l.length) (by omega), decide_eq_true (p := l.length ≤ 8) (by omega)]
                rfl
              have hk2 : (k.isDct && okKeys l) = true := by rw [ek, hok]; rfl
              refine ⟨_, rfl, d, kvs, l, j, rfl, S3 _ _ hd, pgs_same hP S3, L, j2, hok, fun p ys H4 S4 Y n4 b4 => ?_⟩
              refine ⟨_, rfl, (by show 0 ≤ sizeLine; decide), fun p2 hp2 => ?_⟩
              have s5 := Evl.Ex.new (o := .lst []) hp2
              refine ⟨p, p2, _, rfl, rfl, SqL.of (s5 _ _ b4), SqL.of upd_same, _, rfl, ?_⟩
              have b5 := s5 _ _ b4
              have S5 := (S3.trans S4).trans s5
              have n5 := noneS S3 n4
              generalize upd H4 p2 (.lst []) = H5 at S5 b5
              clear s5 b4 S4 n4
              cases en : needErr l ys with
              | some r =>
                obtain ⟨pt, nm⟩ := r
                rw [en] at b5
                exact iteT' rfl ⟨_, rfl, q p ys [] H5 S5 n5 (fun _ => Y) (fun _ z => by rw [en] at z; cases z) (by rw [b5, sE_need hk2 en])⟩
              | none =>
                refine iteF' rfl ?_
                obtain ⟨n1, n2, _, n4⟩ := need_none en
                obtain ⟨fok, lfs⟩ := fsOk_of L hok Y n1 n2
                have hPM := pgs_files hP lfs
                have badE : entOk (fsOf l) ke xe = false → ∀ H1, Same H H1 → ∀ p, H1 p = none → Q (.ref p) (upd H1 p (.lst [.str "entries", .non])) := fun e H1 S p hp => q p ys [] _ (S.trans (Evl.Ex.new hp)) (noneS S hp) (fun _ => Y) (fun _ _ z => by rw [e] at z; cases z) (by rw [upd_same, sE_ent hk2 en e]; rfl)
                clear b5 n5 S3
                -- the entries
                refine ⟨_, rfl, (by show 2 ≤ sizeLine; decide), fun tp htp => ⟨dv, tp, _, ke.ty, _, _, rfl, upd_same, .cons (.ty "list") (.cons (.ty "tuple") .nil), ((he.1.same S5).same (Evl.Ex.new htp)).tyx, he.1.kSeq, _, rfl, ?_⟩⟩
                have s6 := Evl.Ex.new (o := .tup [.ty "list", .ty "tuple"]) htp
                have S6 := S5.trans s6
                generalize upd H5 tp (.tup [.ty "list", .ty "tuple"]) = H6 at S6
                clear s6 S5
                cases e2 : (ke.isLst || ke.isTup) with
                | false => exact iteT' rfl ⟨(by show 2 ≤ sizeLine; decide), fun p hp => badE (by unfold entOk; rw [e2]; rfl) H6 S6 p hp⟩
                | true =>
                  obtain ⟨a, rfl, hq, hl, hxs⟩ := he.2 e2
                  have hq6 := hq.imp (fun h => SqL.sm h S6) (fun h => SqT.sm h S6)
                  refine iteF' rfl ⟨_, rfl, _, _, rfl, hq6.imp (fun h => ⟨_, h, rfl⟩) (fun h => ⟨_, h, rfl⟩), rfl, _, rfl, ?_⟩
                  refine ite2 (fun z0 => ?_) (fun z0 => ?_)
                  · refine ⟨(by show 2 ≤ sizeLine; decide), fun p hp => badE ?_ H6 S6 p hp⟩
                    have z0 := V.int.inj (of_decide_eq_true z0)
                    have : xe = [] := List.eq_nil_of_length_eq_zero (by omega)
                    unfold entOk
                    rw [this, Bool.and_assoc]
                    exact Bool.and_false _
                  have xne : xe ≠ [] := fun z => z0 (by rw [z]; rfl)
                  clear z0
                  refine ⟨_, rfl, _, _, rfl, hq6.imp (fun h => ⟨_, h, rfl⟩) (fun h => ⟨_, h, rfl⟩), _, rfl, by omega, by omega, ?_⟩
                  refine for_it walk_range (fun i σ Hi => Same H6 Hi ∧ (∃ v3 v5 v6 v7 : Option V, σ = [some (.ref d), some (.ref a), some cv, v3, some (.ref p), v5, v6, v7]) ∧ ∀ j x, j < i → xe[j]? = some x → entP (fsOf l) xe j x = true) ⟨Same.refl _, ⟨_, _, _, _, rfl⟩, fun j x hj => by omega⟩ (fun _ _ _ _ _ => trivial) ?_ ?_
                  · rintro i y0 σ Hi Hj hi ⟨Si, ⟨v3, v5, v6, v7, rfl⟩, ps⟩ ⟨rfl, rfl⟩
                    have il : i < xe.length := by
                      have : i < ((xe.length : Nat) : Int).toNat := hi
                      omega
                    obtain ⟨x, hx⟩ : ∃ x, xe[i]? = some x := ⟨_, List.getElem?_eq_getElem il⟩
                    have Sj := S6.trans Si
                    have hqj := hq6.imp (fun h => SqL.sm h Si) (fun h => SqT.sm h Si)
                    have at0 : atI xe (0 + (i : Nat)) = some x := by rw [Int.zero_add]; exact atI_nat hx
                    refine ⟨_, rfl, _, rfl, ixE_use hqj at0 ?_⟩
                    obtain ⟨kx, hkx, hzx⟩ := hxs x (List.mem_of_getElem? hx)
                    refine ⟨_, rfl, x, kx, rfl, hkx.same Sj, hzx, fun H7 S7 => ⟨_, rfl, ?_⟩⟩
                    have S67 := Si.trans S7
                    have S7 := Sj.trans S7
                    have bad : entP (fsOf l) xe i x = false → ∀ H1, Same H H1 → ∀ p, H1 p = none → Q (.ref p) (upd H1 p (.lst [.str "entries", .non])) := fun e => badE (ent_bad hx e)
                    cases ew : isNameV x with
                    | false => exact iteT' rfl ⟨(by show 2 ≤ sizeLine; decide), fun p hp => bad (by unfold entP; rw [ew]; rfl) H7 S7 p hp⟩
                    | true =>
                      obtain ⟨z, rfl, _⟩ : ∃ z : Str, x = .str z ∧ isNameS z = true := by
                        cases x with
                        | str z => exact ⟨z, rfl, ew⟩
                        | _ => cases ew
                      have dgz : DGet H7 d (.str z) (valV kvs (.inr z)) := DGet.k (k := Sum.inr z) (S7 _ _ hd)
                      refine iteF' rfl ⟨_, rfl, _, rfl, d, _, rfl, dgz, _, rfl, ?_⟩
                      cases elf : lkF (fsOf l) z with
                      | none =>
                        have e0 : valV kvs (.inr z) = none := by
                          rcases pgs_get hP (.inr z) with ⟨z1, _⟩ | ⟨v, o', h1, h2, h3⟩
                          · exact z1
                          · exfalso
                            rw [lkF_fsOf L.nd, show lkO l z = some o' from h2] at elf
                            cases o' with
                            | some g => cases elf
                            | none => exact n1 z ((ys_key Y z).mpr (Classical.byContradiction fun w => by rw [lkX_mem.mpr w] at h2; cases h2)) h2
                        rw [e0]
                        exact iteT' rfl ⟨(by show 2 ≤ sizeLine; decide), fun p hp => bad (by unfold entP; rw [plainF_none elf, Bool.and_false]; rfl) H7 S7 p hp⟩
                      | some g =>
                        obtain ⟨v, hv1, t, r, kk, rfl, t1, t2, t3⟩ := hPM.get elf
                        rw [hv1] at dgz ⊢
                        refine iteF' rfl ⟨_, rfl, _, rfl, d, _, rfl, dgz, t, _, 0, .str (namS g.own), rfl, rfl, SqT.of (S7 _ _ t1), atI_nat (j := 0) rfl, rfl, _, rfl, ?_⟩
                        have ep : plainF (fsOf l) (.str z) = !g.own := plainF_some elf
                        cases eo : g.own with
                        | true => exact iteT' (by decide +kernel) ⟨(by show 2 ≤ sizeLine; decide), fun p hp => bad (by unfold entP; rw [ep, eo]; simp) H7 S7 p hp⟩
                        | false =>
                          refine iteF' (by decide +kernel) ?_
                          have hq7 := hq.imp (fun h => SqL.sm h S7) (fun h => SqT.sm h S7)
                          refine ⟨_, rfl, _, rfl, a, xe, rfl, hq7, fun L1 hL1 => noPart ⟨_, rfl, _, rfl, L1, xe, rfl, SqL.of upd_same, fun p8 hp8 => ?_⟩⟩
                          have s8 := (Evl.Ex.new (o := .lst xe) hL1).trans (Evl.Ex.new (o := .lst (cutV xe none (some (0 + (i : Nat))))) hp8)
                          have b8 : upd (upd H7 L1 (.lst xe)) p8 (.lst (cutV xe none (some (0 + (i : Nat))))) p8 = some (.lst (xe.take i)) := by rw [upd_same, Int.zero_add, cut_toN]
                          generalize upd (upd H7 L1 (.lst xe)) p8 (.lst (cutV xe none (some (0 + (i : Nat))))) = H8 at s8 b8
                          refine ⟨p8, _, rfl, .inl (SqL.of b8), rfl, ent_flat ps, _, rfl, ?_⟩
                          rw [if_neg (by decide)]
                          refine ite2 (fun w => ?_) (fun w => ?_)
                          · exact ⟨(by show 2 ≤ sizeLine; decide), fun p hp => bad (by unfold entP; rw [w, Bool.not_true, Bool.and_false]) H8 (S7.trans s8) p hp⟩
                          · refine ⟨S67.trans s8, ⟨_, _, _, _, rfl⟩, fun j x hj hxj => ?_⟩
                            by_cases z' : j < i
                            · exact ps j x z' hxj
                            · have : j = i := by omega
                              subst this
                              rw [hx] at hxj
                              cases hxj
                              unfold entP
                              rw [ew, ep, eo, Bool.eq_false_iff.mpr w]
                              rfl
                  rintro σ H7 ⟨S7, ⟨v3, v5, v6, v7, rfl⟩, ps⟩
                  have ps : ∀ j x, xe[j]? = some x → entP (fsOf l) xe j x = true := fun j x hx => ps j x (by
                    have := (List.getElem?_eq_some_iff.mp hx).1
                    show j < ((xe.length : Nat) : Int).toNat
                    omega) hx
                  have e3 := ent_all (fs := fsOf l) (k := ke) e2 xne ps
                  have S7 := S6.trans S7
                  clear hq6 bad0 badE S6
                  obtain ⟨ns, rfl, hnn⟩ := names_str (xs := xe) (List.all_eq_true.mpr fun x hx => by
                    obtain ⟨j, hj⟩ := List.mem_iff_getElem?.mp hx
                    have := ps j x hj
                    unfold entP at this
                    rw [Bool.and_eq_true, Bool.and_eq_true] at this
                    exact this.1.1)
                  have hq7 := hq.imp (fun h => SqL.sm h S7) (fun h => SqT.sm h S7)
                  have nl : ns.length < 64 := by rw [List.length_map] at hx64; exact hx64
                  refine ⟨_, rfl, a, ns, rfl, hq7, nl, fun zs pz hpz hso hnp => ?_⟩
                  have Z : ZsOf (ns.map V.str) zs := ⟨hpz.map _, hso⟩
                  have S8 := S7.trans (Evl.Ex.new (o := .lst (zs.map V.str)) hnp)
                  have b8 : upd H7 pz (.lst (zs.map V.str)) pz = some (.lst (zs.map V.str)) := upd_same
                  generalize upd H7 pz (.lst (zs.map V.str)) = H8 at S8 b8
                  have noR : ∀ n, ¬ Rc (fsOf l) n n := fun n r => by
                    obtain ⟨g, eg⟩ := lkF_key.mp (fok.two.rc_mem r)
                    refine n4 n ((ys_key Y n).mpr (Classical.byContradiction fun w => ?_)) r
                    rw [lkF_fsOf L.nd, show lkO l n = none from lkX_mem.mpr w] at eg
                    cases eg
                  have inK : ∀ z ∈ zs, z ∈ (fsOf l).map (·.1) := fun z hz => by
                    obtain ⟨j, hj⟩ := List.mem_iff_getElem?.mp (hpz.subset hz)
                    have := ps j (.str z) (by rw [List.getElem?_map, hj]; rfl)
                    unfold entP at this
                    rw [Bool.and_eq_true, Bool.and_eq_true] at this
                    rw [lkF_key]
                    cases e : lkF (fsOf l) z with
                    | none => rw [plainF_none e] at this; cases this.1.2
                    | some g => exact ⟨g, rfl⟩
                  refine ⟨pz, rfl, ⟨_, SqL.of b8⟩, ?_⟩
                  refine for_it walk_list (fun i σ Hi => Same H8 Hi ∧ (∃ v3 v5 v6 v7 : Option V, σ = [some (.ref d), some (.ref a), some cv, v3, some (.ref p), v5, v6, v7]) ∧ ∀ j m, j < i → zs[j]? = some m → noTree (fsOf l) m = false) ⟨Same.refl _, ⟨_, _, _, _, rfl⟩, fun j x hj => by omega⟩ (fun i σ Hi _ h => SqL.of (h.1 _ _ b8)) ?_ ?_
                  · rintro i x σ Hi Hj hi ⟨Si, ⟨v3, v5, v6, v7, rfl⟩, qs⟩ ⟨rfl, hx⟩
                    obtain ⟨z, hz, rfl⟩ := at_map hx
                    have Sj := S8.trans Si
                    refine ⟨_, rfl, _, rfl, d, z, kvs, fsOf l, rfl, Sj _ _ hd, hPM.pages.same Sj, fok, noR, inK z (List.mem_of_getElem? hz), fun H9 S9 => ⟨_, rfl, ?_⟩⟩
                    cases e4 : noTree (fsOf l) z with
                    | true => exact iteT' rfl ⟨_, rfl, (by show 2 ≤ sizeLine; decide), fun p9 hp9 => q p9 ys zs _ ((Sj.trans S9).trans (Evl.Ex.new hp9)) (noneS (Sj.trans S9) hp9) (fun _ => Y) (fun _ _ _ => Z) (by rw [upd_same, sE_way hk2 en e3 (find_at hz e4 qs)]; rfl)⟩
                    | false =>
                      refine iteF' rfl ⟨Si.trans S9, ⟨_, _, _, _, rfl⟩, fun j m hj hm => ?_⟩
                      by_cases z' : j < i
                      · exact qs j m z' hm
                      · have : j = i := by omega
                        subst this
                        rw [hz] at hm
                        cases hm
                        exact e4
                  rintro σ H9 ⟨S9, ⟨v3, v5, v6, v7, rfl⟩, qs⟩
                  rw [List.length_map] at qs
                  have f1 := find_non fun (j : Nat) m hm => qs j m (List.getElem?_eq_some_iff.mp hm).1 hm
                  have S9 := S8.trans S9
                  have fin : ∀ H1, Same H H1 → ∀ p9, H1 p9 = none → ∀ xs, xs = tellL (if okCount cv = false then some (("counts" : Str), V.non) else none) → Q (.ref p9) (upd H1 p9 (.lst xs)) := fun H1 S p9 hp9 xs exs => q p9 ys zs _ (S.trans (Evl.Ex.new hp9)) (noneS S hp9) (fun _ => Y) (fun _ _ _ => Z) (by rw [upd_same, sE_end hk2 en e3 f1, exs])
                  refine ⟨_, rfl, cv, .ty "str", kc.ty, _, _, rfl, .ty "str", (hc.same S9).tyx, hc.kStr, _, rfl, ?_⟩
                  have badC : okCount cv = false → ∀ H1, Same H H1 → ∀ p9, H1 p9 = none → Q (.ref p9) (upd H1 p9 (.lst [.str "counts", .non])) := fun e H1 S p9 hp9 => fin H1 S p9 hp9 _ (by rw [if_pos e]; rfl)
                  cases hc with
                  | str z =>
                    refine iteT' rfl ⟨_, rfl, (by show 2 ≤ sizeLine; decide), fun p8 hp8 => ⟨p8, _, rfl, .inl (SqL.of upd_same), rfl, rfl, _, rfl, ?_⟩⟩
                    have s10 := Evl.Ex.new (o := .lst [.str "own", .str "whole"]) hp8
                    have iv : inV (.str z) [.str "own", .str "whole"] = okCount (.str z) := by
                      have := inV_str z ["own", "whole"]
                      rw [show ([V.str "own", V.str "whole"] : List V) = (["own", "whole"] : List Str).map V.str from rfl, this, Bool.eq_iff_iff, decide_eq_true_eq]
                      unfold okCount
                      rw [Bool.or_eq_true, beq_iff_eq, beq_iff_eq, List.mem_cons, List.mem_singleton]
                      exact ⟨fun h => h.imp (congrArg V.str) (congrArg V.str), fun h => h.imp V.str.inj V.str.inj⟩
                    rw [if_neg (by decide), iv]
                    refine ite2 (fun w => ?_) (fun w => ?_)
                    · exact ⟨(by show 0 ≤ sizeLine; decide), fun p9 hp9 => fin _ (S9.trans s10) p9 hp9 _ (by rw [if_neg (by rw [w]; decide)]; rfl)⟩
                    · exact ⟨(by show 2 ≤ sizeLine; decide), fun p9 hp9 => badC (Bool.eq_false_iff.mpr w) _ (S9.trans s10) p9 hp9⟩
                  | _ => exact iteF' rfl ⟨(by show 2 ≤ sizeLine; decide), fun p9 hp9 => badC rfl _ S9 p9 hp9⟩
      · refine ⟨_, rfl, iteT' rfl ⟨(by show 2 ≤ sizeLine; decide), fun p hp => bad0 ?_ H (Same.refl H) p hp⟩⟩
        simp only [decide_eq_true_eq] at h1
        unfold okKeys
        rw [decide_eq_false (p := 1 ≤ l.length) (by omega), Bool.false_and, Bool.false_and]
end
end WP
namespace WP
open PySem L2
open TL (tl)
def spAreNames (K : PySem.W.Frag) : Sp := fun vs H Q _ => ∃ (v : V) (k : Kd) (xs : List V), vs = [v] ∧ SeqV K H v k xs ∧ ∀ H', Same H H' → Q (.bl ((k.isLst || k.isTup) && areNamesL xs)) H'
section
variable {P : Program} {w : World} {K : PySem.W.Frag} {mg : Str → Option Value} {base : Heap}
theorem ok_are_names {f : Addr} {fd : FuncData} (F : Fun K "are_names" "are_names" s_are_names f fd) (T : Bi mg) (D_is_list : Dn P w K mg base CX0 1 "is_list" ["value"] (spIsList K)) (D_is_name : Dn P w K mg base CX0 1 "is_name" ["value"] (spIsName K)) : FnOk P w K mg base CX0 2 f fd ["value"] (spAreNames K) := by
  refine F.ok sc_are_names (fun vs H Q E h => ?_) (fun cdv A outer s H vs Q E hr h => ?_)
  · obtain ⟨v, k, xs, rfl, _⟩ := h
    rfl
  · obtain ⟨v, k, xs, rfl, ⟨h, hs⟩, q⟩ := h
    have nd := sc_are_names.nd
    refine ⟨_, pss_cons (ps_if (PW.pt (pw_or (pt_not (pt_val (pe_d D_is_list (hr.mono (by decide)) pass0 (pa_cons (pv 0) pa_nil)))) (pw_or1 (pt_not (pt_val (pe_callB (cr_all rfl) (by rfl) T.all (by decide +kernel) (pa_cons (pe_lc (own := [("name", 1)]) (g := gName 1) rfl nd (pi_seq (pv 0)) (blkOk_by (own := [("name", 1)]) (N := ["value", "name"]) (sc := defScope s_are_names) (by decide +kernel)) (fun _ _ _ _ _ => (pg_name (i := 1) nd rfl (by first | exact Or.inl rfl | exact Or.inr rfl))) (fun _ _ _ _ _ => pts_nil) (fun _ _ _ _ _ => (pe_d D_is_name (hr.mono (by decide)) pass0 (pa_cons (pv 1) pa_nil)))) pa_nil))))))) (pss_one (ps_ret pe_bl)) pss_nil)
      (pss_one (ps_ret (pe_cmpR op_eq (pe_callB cr_lenS (by rfl) T.len (by decide +kernel) (pa_cons (pe_callTy (cr_setS rfl) (by rfl) T.set (by decide +kernel) (pa_cons (pv 0) pa_nil)) pa_nil)) (pe_callB call_len (by rfl) T.len (by decide +kernel) (pa_cons (pv 0) pa_nil)) (nomark _)))), ?_⟩
    refine ⟨_, rfl, v, k, rfl, h, fun H1 S1 => ⟨_, rfl, ?_⟩⟩
    have q1 := q H1 S1
    cases ek : (k.isLst || k.isTup) with
    | false =>
      rw [ek] at q1
      exact iteT' rfl q1
    | true =>
      obtain ⟨a, rfl, hS, hl, hx⟩ := hs ek
      simp only [ek, Bool.true_and] at q q1
      refine iteF' rfl ?_
      refine ⟨_, rfl, a, xs, rfl, hS.imp (fun h => SqL.sm h S1) (fun h => SqT.sm h S1), fun J G hW hG => fun D hD => ?_⟩
      refine lc_it hW (PvL H1 D (fun i => xs[i]?.map fun x => V.bl (isNameV x))) (pv_0 hD) (fun i H2 _ p => hG _ p.1) ?_ ?_
      · rintro i x H2 H3 hi p ⟨rfl, hxi⟩
        obtain ⟨kx, h1, h2⟩ := hx x (at_mem hxi)
        refine ⟨rfl, _, rfl, x, kx, rfl, h1.same (S1.trans p.1), h2, fun H4 S4 => ?_⟩
        exact pv_in p S4 (by rw [hxi]; rfl) (by omega)
      · intro H2 p
        have p3 := p.2.2
        rw [fm_range] at p3
        refine ⟨D, xs.map isNameV, rfl, SqL.of (by rw [p3, List.map_map]; rfl), _, rfl, ?_⟩
        have e1 : (xs.map isNameV).all id = xs.all isNameV := by simp [List.all_map]
        rw [e1]
        have q2 := q H2 (S1.trans p.1)
        cases ea : xs.all isNameV with
        | false =>
          refine iteT' rfl ?_
          simp only [areNamesL, ea, Bool.false_and] at q2
          exact q2
        | true =>
          refine iteF' rfl ?_
          obtain ⟨ns, rfl, hn⟩ := names_str ea
          have hS2 := hS.imp (fun h => SqL.sm h (S1.trans p.1)) (fun h => SqT.sm h (S1.trans p.1))
          refine ⟨_, rfl, a, ns, rfl, hS2, (by have h9 := hl; rw [List.length_map] at h9; omega), fun p2 hp2 => ?_⟩
          refine ⟨p2, ns, rfl, upd_same, (by have h9 := hl; rw [List.length_map] at h9; omega), fun ys y1 y2 => ?_⟩
          have S3 : Same H2 (upd H2 p2 (SetS P w p2 ns)) := Evl.Ex.new hp2
          refine ⟨_, rfl, _, _, rfl, hS2.elim (fun h => .inl ⟨_, SqL.sm h S3, rfl⟩) (fun h => .inr ⟨_, SqT.sm h S3, rfl⟩), rfl, ?_⟩
          have q3 := q _ ((S1.trans p.1).trans S3)
          have e2 : areNamesL (ns.map V.str) = decide ((V.int ys.length) = V.int (ns.map V.str).length) := by
            simp only [areNamesL, ea, Bool.true_and]
            rw [Bool.eq_iff_iff, decide_eq_true_eq, decide_eq_true_eq, nodup_strs, ← nodup_iff y1 y2]
            rw [List.length_map]
            exact ⟨fun h => by rw [h], fun h => by have := V.int.inj h; omega⟩
          rw [e2] at q3
          exact q3
end
end WP
namespace WP
open PySem L2
section
variable {P : Program} {w : World} {K : PySem.W.Frag} {mg : Str → Option Value} {base : Heap}
theorem ok_File_init {f CF CE CP : Addr} {fd : FuncData} {dvs : List V} (F : FunD K "__init__" "File.__init__" (defArgs s_File___init__) (defBody s_File___init__) (defScope s_File___init__) dvs [] f fd) (T : Bi mg) (CT : FileC K CF) (E_BadFile : Err1 P w K mg base CP "BadFile" CE "part")
    (D_are_names : Dn P w K mg base CX0 2 "are_names" ["value"] (spAreNames K)) (D_is_ticks : Dn P w K mg base CX0 2 "is_ticks" ["value"] (spIsTicks K)) (D_is_list : Dn P w K mg base CX0 1 "is_list" ["value"] (spIsList K))
    {aN : Addr} (G_NAMINGS : mg "NAMINGS" = some (.ref aN)) (hN : ∀ H, SqT K H aN [.str "own", .str "plain"]) (G_MOST_CACHES : ∃ t, mg "MOST_CACHES" = some (.int 4 t)) : FnOk P w K mg base (L2.CX P w) 3 f fd ["self", "naming", "refers", "hold", "keeps"] (spFile K CF CE) := by
  refine F.ok sc_File___init__ (fun vs H Q E h => ?_) (fun cdv A outer s H vs Q E hr h => ?_)
  · obtain ⟨x, dx, v1, k1, v2, k2, x2, v3, k3, v4, k4, x4, rfl, _⟩ := h
    rfl
  · obtain ⟨x, dx, v1, k1, v2, k2, x2, v3, k3, v4, k4, x4, rfl, hx, a1, s2, a3, s4, hl2, qE, qN⟩ := h
    have nd := sc_File___init__.nd
    refine ⟨_, pss_cons (ps_if (PW.pt (pw_or (pt_not (pt_val (pe_callB call_isi (by rfl) T.isinstance (by decide +kernel) (pa_cons (pv 1) (pa_cons (n_str T) pa_nil))))) (pw_or1 (pt_cmpR op_notIn_seq (pv 1) (gRef G_NAMINGS) (by rfl))))) (pss_one (raise1 E_BadFile rfl (takes_of rfl rfl rfl rfl) (hr.mono (by decide)) pe_str)) pss_nil)
      (pss_cons (ps_if (pt_not (pt_val (pe_d D_are_names (hr.mono (by decide)) pass0 (pa_cons (pv 2) pa_nil)))) (pss_one (raise1 E_BadFile rfl (takes_of rfl rfl rfl rfl) (hr.mono (by decide)) pe_str)) pss_nil)
      (pss_cons (ps_if (pt_not (pt_val (pe_d D_is_ticks (hr.mono (by decide)) pass0 (pa_cons (pv 3) pa_nil)))) (pss_one (raise1 E_BadFile rfl (takes_of rfl rfl rfl rfl) (hr.mono (by decide)) pe_str)) pss_nil)
      (pss_cons (ps_if (PW.pt (pw_or (pt_not (pt_val (pe_d D_is_list (hr.mono (by decide)) pass0 (pa_cons (pv 4) pa_nil)))) (pw_or (pt_cmpR op_gt (pe_callB call_len (by rfl) T.len (by decide +kernel) (pa_cons (pv 4) pa_nil)) (gInt G_MOST_CACHES) (nomark _)) (pw_or1 (pt_not (pt_val (pe_callB (cr_all rfl) (by rfl) T.all (by decide +kernel) (pa_cons (pe_lc (own := [("keep", 5)]) (g := gName 5) rfl nd (pi_seq (pv 4)) (blkOk_by (own := [("keep", 5)]) (N := ["self", "naming", "refers", "hold", "keeps", "keep"]) (sc := defScope s_File___init__) (by decide +kernel)) (fun _ _ _ _ _ => (pg_name (i := 5) nd rfl (by first | exact Or.inl rfl | exact Or.inr rfl))) (fun _ _ _ _ _ => pts_nil) (fun _ _ _ _ _ => (pe_d D_is_ticks (hr.mono (by decide)) pass0 (pa_cons (pv 5) pa_nil)))) pa_nil)))))))) (pss_one (raise1 E_BadFile rfl (takes_of rfl rfl rfl rfl) (hr.mono (by decide)) pe_str)) pss_nil)
      (pss_cons (ps_fld (pv 0) (pv 1) rfl)
      (pss_cons (ps_fld (pv 0) (pe_callTy call_tuple_of (by rfl) T.tuple (by decide +kernel) (pa_cons (pe_callB cr_sortA (by rfl) T.sorted (by decide +kernel) (pa_cons (pv 2) pa_nil)) pa_nil)) rfl)
      (pss_cons (ps_fld (pv 0) (pv 3) rfl)
      (pss_one (ps_fld (pv 0) (pe_callTy call_tuple_of (by rfl) T.tuple (by decide +kernel) (pa_cons (pv 4) pa_nil)) rfl)))))))), ?_⟩
    have bad : ∀ (pt : Str) (H1 : Hp), Same H H1 → fileErr v1 k2 x2 v3 k4 x4 = some pt → ∀ d, H1 d = none → E (.ref CE) (some d) (upd H1 d (.xd [("part", .str pt)])) := fun pt H1 S1 e d hd => qE pt e d _ (S1.trans (Evl.Ex.new hd)) upd_same
    refine ⟨_, rfl, v1, .ty "str", k1.ty, _, _, rfl, .ty "str", a1.tyx, a1.kStr, _, rfl, ?_⟩
    have nam : ∀ z, v1 = .str z → (z = "own" ∨ z = "plain" ↔ okNaming v1 = true) := fun z e => by
      rw [e]
      unfold okNaming
      rw [Bool.or_eq_true, beq_iff_eq, beq_iff_eq]
      exact ⟨fun h => h.imp (congrArg V.str) (congrArg V.str), fun h => h.imp V.str.inj V.str.inj⟩
    cases a1 with
    | str z =>
      refine iteF ?_
      refine ⟨_, rfl, aN, _, rfl, .inr (hN H), rfl, rfl, _, rfl, ?_⟩
      have iv : inV (.str z) [.str "own", .str "plain"] = okNaming (.str z) := by
        rw [Bool.eq_iff_iff, ← nam z rfl]
        simp only [inV, eqV, List.any_cons, List.any_nil, Bool.or_false, Bool.or_eq_true, decide_eq_true_eq, beq_iff_eq]
        exact ⟨fun h => h.imp Eq.symm Eq.symm, fun h => h.imp Eq.symm Eq.symm⟩
      rw [iv]
      cases e1 : okNaming (.str z) with
      | false => exact iteT' rfl (bad "naming" H (Same.refl H) (by unfold fileErr; rw [if_pos e1]))
      | true =>
        refine iteF' rfl ?_
        refine ⟨_, rfl, v2, k2, x2, rfl, s2, fun H1 S1 => ⟨_, rfl, ?_⟩⟩
        cases e2 : ((k2.isLst || k2.isTup) && areNamesL x2) with
        | false => exact iteT' rfl (bad "refers" H1 S1 (by unfold fileErr; rw [if_neg (by rw [e1]; decide), if_pos e2]))
        | true =>
          refine iteF' rfl ?_
          refine ⟨_, rfl, v3, k3, rfl, a3.same S1, fun H2 S2 => ⟨_, rfl, ?_⟩⟩
          have S12 := S1.trans S2
          cases e3 : isTicksV v3 with
          | false => exact iteT' rfl (bad "hold" H2 S12 (by unfold fileErr; rw [if_neg (by rw [e1]; decide), if_neg (by rw [e2]; decide), if_pos e3]))
          | true =>
            refine iteF' rfl ?_
            have err4 : okKeeps k4 x4 = false → fileErr (.str z) k2 x2 v3 k4 x4 = some ("keeps" : Str) := fun e4 => by
              unfold fileErr
              rw [if_neg (by rw [e1]; decide), if_neg (by rw [e2]; decide), if_neg (by rw [e3]; decide), if_pos e4]
            have none4 : okKeeps k4 x4 = true → fileErr (.str z) k2 x2 v3 k4 x4 = none := fun e4 => by
              unfold fileErr
              rw [if_neg (by rw [e1]; decide), if_neg (by rw [e2]; decide), if_neg (by rw [e3]; decide), if_neg (by rw [e4]; decide)]
            refine ⟨_, rfl, v4, k4, rfl, s4.1.same S12, fun H3 S3 => ⟨_, rfl, ?_⟩⟩
            have S13 := S12.trans S3
            cases e4 : (k4.isLst || k4.isTup) with
            | false => exact iteT' rfl (bad "keeps" H3 S13 (err4 (by unfold okKeeps; rw [e4]; rfl)))
            | true =>
              refine iteF' rfl ?_
              obtain ⟨a4, rfl, q4, l4, m4⟩ := s4.2 e4
              have q43 := q4.imp (fun h => SqL.sm h S13) (fun h => SqT.sm h S13)
              refine ⟨_, rfl, _, _, rfl, q43.elim (fun h => .inl ⟨_, h, rfl⟩) (fun h => .inr ⟨_, h, rfl⟩), _, _, rfl, rfl, _, rfl, ?_⟩
              refine ite2 (fun g1 => ?_) (fun g1 => ?_)
              · simp only [decide_eq_true_eq] at g1
                refine bad "keeps" H3 S13 (err4 ?_)
                unfold okKeeps
                rw [decide_eq_false (by omega), Bool.and_false, Bool.false_and]
              · simp only [decide_eq_true_eq] at g1
                have hl4 : x4.length ≤ 4 := by omega
                refine ⟨_, rfl, a4, x4, rfl, q43, fun J G hW hG => fun D hD => ?_⟩
                refine lc_it hW (PvL H3 D (fun i => x4[i]?.map fun x => V.bl (isTicksV x))) (pv_0 hD) (fun i H4 _ p => hG _ p.1) ?_ ?_
                · rintro i y H4 H5 hi p ⟨rfl, hyi⟩
                  obtain ⟨kx, h1, h2⟩ := m4 y (at_mem hyi)
                  refine ⟨rfl, _, rfl, y, kx, rfl, h1.same (S13.trans p.1), fun H6 S6 => ?_⟩
                  exact pv_in p S6 (by rw [hyi]; rfl) (by omega)
                · intro H4 p
                  have p3 := p.2.2
                  rw [fm_range] at p3
                  refine ⟨D, x4.map isTicksV, rfl, SqL.of (by rw [p3, List.map_map]; rfl), _, rfl, ?_⟩
                  have e5 : (x4.map isTicksV).all id = x4.all isTicksV := by simp [List.all_map]
                  rw [e5]
                  have S14 := S13.trans p.1
                  have oK : okKeeps k4 x4 = x4.all isTicksV := by
                    unfold okKeeps
                    rw [e4, decide_eq_true hl4, Bool.true_and, Bool.true_and]
                  cases ea : x4.all isTicksV with
                  | false => exact iteT' rfl (bad "keeps" H4 S14 (err4 (by rw [oK, ea])))
                  | true =>
                    refine iteF' rfl ?_
                    have qN := qN (none4 (by rw [oK, ea]))
                    rw [Bool.and_eq_true] at e2
                    obtain ⟨a2, rfl, q2, l2, m2⟩ := s2.2 e2.1
                    have e22 := e2.2
                    unfold areNamesL at e22
                    rw [Bool.and_eq_true] at e22
                    obtain ⟨ns, rfl, hn⟩ := names_str e22.1
                    obtain ⟨os, rfl⟩ := ticks_opts ea
                    obtain ⟨o3, rfl⟩ := ticks_opt e3
                    obtain ⟨b1, e1'⟩ := naming_own e1
                    have hx4 := S14 _ _ hx
                    -- the stores
                    refine ⟨_, rfl, _, rfl, x, CF, dx, _, rfl, hx4, CT.cl, CT.n1, (by decide), ?_⟩
                    have X5 : SameX x H (upd H4 x (.ins CF dx (putF "own_naming" (.str z) []))) := (SameX.of S14).upd
                    have q25 := q2.imp (fun h => SqL.smX h hx X5) (fun h => SqT.smX h hx X5)
                    refine ⟨_, rfl, a2, ns, rfl, q25, (by simpa using hl2), fun ys p5 hp5 so np5 => ?_⟩
                    refine ⟨p5, _, rfl, .inl ⟨SqL.of upd_same, fun l hl => ?_⟩⟩
                    have ne1 : p5 ≠ x := fun e => by rw [e, upd_same] at np5; cases np5
                    have ne2 : l ≠ x := fun e => by rw [e, upd_ne (Ne.symm ne1), upd_same] at hl; cases hl
                    have ne3 : l ≠ p5 := fun e => by rw [e, upd_same] at hl; cases hl
                    refine ⟨_, rfl, x, CF, dx, _, rfl, (by rw [upd_ne (Ne.symm ne2), upd_ne (Ne.symm ne1), upd_same]), CT.cl, CT.n2, pf (by decide), ?_⟩
                    refine ⟨_, rfl, _, rfl, x, CF, dx, _, rfl, upd_same, CT.cl, CT.n3, pf (pf (by decide)), ?_⟩
                    refine ⟨_, rfl, a4, os.map optI, rfl, ?_⟩
                    have X6 : SameX x H (upd (upd (upd H4 x (.ins CF dx (putF "own_naming" (.str z) []))) p5 (.lst (ys.map V.str))) l (.tup (ys.map V.str))) := X5.trans (SameX.of ((Evl.Ex.new np5).trans (Evl.Ex.new hl)))
                    have X7 := (X6.upd (o := .ins CF dx (putF "own_refers" (.ref l) (putF "own_naming" (.str z) [])))).upd (o := .ins CF dx (putF "own_hold" (optI o3) (putF "own_refers" (.ref l) (putF "own_naming" (.str z) []))))
                    have fin : ∀ (t4 : Addr) (H5 : Hp), SameX x H H5 → H5 l = some (.tup (ys.map V.str)) → SqT K (upd H5 x (.ins CF dx (putF "own_keeps" (.ref t4) (putF "own_hold" (optI o3) (putF "own_refers" (.ref l) (putF "own_naming" (.str z) [])))))) t4 (os.map optI) → Q .non (upd H5 x (.ins CF dx (putF "own_keeps" (.ref t4) (putF "own_hold" (optI o3) (putF "own_refers" (.ref l) (putF "own_naming" (.str z) [])))))) := fun t4 H5 X h5 ht => by
                      refine qN ⟨b1, ys, o3, os⟩ _ ⟨e1', ⟨ns, rfl, hp5⟩, so, rfl, rfl⟩ X.upd ⟨x, dx, l, t4, rfl, ?_, SqT.of (by rw [upd_ne ne2]; exact h5), ht⟩
                      rw [upd_same, V.str.inj e1']
                      rfl
                    have q47 := q4.imp (fun h => SqL.smX h hx X7) (fun h => SqT.smX h hx X7)
                    rcases q4 with q4 | q4
                    · refine .inl ⟨SqL.smX q4 hx X7, fun t4 ht4 => ?_⟩
                      have hne : t4 ≠ x := fun e => by rw [e, upd_same] at ht4; cases ht4
                      refine ⟨_, rfl, x, CF, dx, _, rfl, (by rw [upd_ne (Ne.symm hne), upd_same]), CT.cl, CT.n4, pf (pf (pf (by decide))), ?_⟩
                      refine fin t4 _ (X7.trans (SameX.of (Evl.Ex.new ht4))) ?_ (SqT.of (by rw [upd_ne hne, upd_same]))
                      rw [upd_ne (fun e => by rw [← e, upd_ne ne2, upd_ne ne2, upd_same] at ht4; cases ht4), upd_ne ne2, upd_ne ne2, upd_same]
                    · refine .inr ⟨SqT.smX q4 hx X7, ?_⟩
                      refine ⟨_, rfl, x, CF, dx, _, rfl, upd_same, CT.cl, CT.n4, pf (pf (pf (by decide))), ?_⟩
                      refine fin a4 _ X7 ?_ (SqT.smX q4 hx X7.upd)
                      rw [upd_ne ne2, upd_ne ne2, upd_same]
    | _ => exact iteT (bad "naming" H (Same.refl H) rfl)
end
end WP
namespace WP
open PySem L2
def foundD (found : List Str) : HO := .dK (found.map fun x => ((.inr x : Key), V.bl true))
theorem found_val (found : List Str) (x : Str) : (valV (found.map fun x => ((.inr x : Key), V.bl true)) (.inr x)).isSome = decide (x ∈ found) := by
  induction found with
  | nil => rfl
  | cons a r ih =>
    by_cases e : a = x
    · rw [List.map_cons, valV_pos (by rw [e])]
      simp [e]
    · rw [List.map_cons, valV_neg (fun z => e (Sum.inr.inj z)), ih]
      have : ¬ x = a := fun z => e z.symm
      simp [this]
theorem found_put {found : List Str} {x : Str} (h : x ∉ found) : putK (found.map fun x => ((.inr x : Key), V.bl true)) (.inr x) (.bl true) = (found ++ [x]).map fun x => ((.inr x : Key), V.bl true) := by
  rw [putK_new, List.map_append]
  · rfl
  · have := found_val found x
    rw [decide_eq_false h] at this
    cases e : valV (found.map fun x => ((.inr x : Key), V.bl true)) (.inr x) with
    | none => rfl
    | some v => rw [e] at this; cases this
def treeD (t : List (Str × Option Str)) : HO := .dK (t.map fun x => ((.inr x.1 : Key), optS x.2))
theorem tree_val (t : List (Str × Option Str)) (x : Str) : (valV (t.map fun x => ((.inr x.1 : Key), optS x.2)) (.inr x)).isSome = decide (x ∈ t.map (·.1)) := by
  induction t with
  | nil => rfl
  | cons a r ih =>
    by_cases e : a.1 = x
    · rw [List.map_cons, valV_pos (by rw [e])]
      simp [e]
    · rw [List.map_cons, valV_neg (fun z => e (Sum.inr.inj z)), ih]
      have : ¬ x = a.1 := fun z => e z.symm
      simp [this]
theorem tree_put {t : List (Str × Option Str)} {x y : Str} (h : x ∉ t.map (·.1)) : putK (t.map fun x => ((.inr x.1 : Key), optS x.2)) (.inr x) (.str y) = (t ++ [(x, some y)]).map fun x => ((.inr x.1 : Key), optS x.2) := by
  rw [putK_new, List.map_append]
  · rfl
  · have := tree_val t x
    rw [decide_eq_false h] at this
    cases e : valV (t.map fun x => ((.inr x.1 : Key), optS x.2)) (.inr x) with
    | none => rfl
    | some v => rw [e] at this; cases this
theorem snoc_of {α : Type} {l : List α} (h : l ≠ []) : ∃ r x, l = r ++ [x] ∧ l.dropLast = r ∧ l[l.length - 1]? = some x := by
  refine ⟨l.dropLast, l.getLast h, (List.dropLast_concat_getLast h).symm, rfl, ?_⟩
  rw [List.getLast_eq_getElem, List.getElem?_eq_getElem]
def spBelow (K : PySem.W.Frag) (CF : Addr) : Sp := fun vs H Q _ => ∃ (d : Addr) (n : Str) (fs : List (Str × FileD)), vs = [.ref d, .str n] ∧ FilesAt K CF H d fs ∧ FsOk fs ∧ n ∈ fs.map (·.1) ∧
  ∀ (p : Addr) (found : List Str) H', Same H H' → H' p = some (foundD found) → (∀ x, x ∈ found ↔ Rc fs n x) → Q (.ref p) H'
def spTree (K : PySem.W.Frag) (CF : Addr) : Sp := fun vs H Q _ => ∃ (d : Addr) (n : Str) (fs : List (Str × FileD)), vs = [.ref d, .str n] ∧ FilesAt K CF H d fs ∧ FsOk fs ∧ n ∈ fs.map (·.1) ∧
  (∀ H', Same H H' → (¬ ∃ t, TreeOf fs n t) → Q .non H') ∧ ∀ (p : Addr) (t : List (Str × Option Str)) H', Same H H' → H p = none → H' p = some (treeD t) → TreeOf fs n t → Q (.ref p) H'
section
variable {P : Program} {w : World} {K : PySem.W.Frag} {mg : Str → Option Value} {base : Heap}
theorem ok_all_below {f CF : Addr} {fd : FuncData} (F : Fun K "all_below" "all_below" s_all_below f fd) (T : Bi mg) (Z_File_refers : Getter P w K mg base CF "refers" "own_refers") : FnOk P w K mg base CX0 3 f fd ["files", "name"] (spBelow K CF) := by
  refine F.ok sc_all_below (fun vs H Q E h => ?_) (fun cdv A outer s H vs Q E hr h => ?_)
  · obtain ⟨d, n, fs, rfl, _⟩ := h
    rfl
  · obtain ⟨d, n, fs, rfl, hd, ok, hn, q⟩ := h
    have hu := hu_of hr
    have nd := sc_all_below.nd
    refine ⟨_, pss_cons (ps_par (i := 2) (j := 3) (by rfl) nd rfl rfl (by decide) rfl rfl (pa_cons pe_dnewK (pa_cons (pe_callTy call_list_of (by rfl) T.list (by decide +kernel) (pa_cons (p_get Z_File_refers (hr.mono (by decide)) (pe_dget hu (pv 0) (pv 1) (fun _ _ => rfl))) pa_nil)) pa_nil)) (by rfl))
      (pss_cons (ps_while PassesOwn.never (pt_cmpR (op_neD hr.units) (pv 3) (pe_lst pa_nil) (nomark _)) (pss_cons (ps_set (i := 4) nd rfl (by first | exact Or.inl rfl | exact Or.inr rfl) (pe_bm0 PySem.F.plainAttrs_list PySem.F.slot_list_pop PySem.F.type_list_pop mt_pop (pv 3)))
      (pss_one (ps_if (pt_cmp (pc_dnotin hu (pv 4) (pv 2))) (pss_cons (ps_dput hu (pv 2) (pv 4) pe_bl rfl)
      (pss_one (ps_expr (pe_bm PySem.F.plainAttrs_list PySem.F.slot_list_extend PySem.F.type_list_extend mt_extT (pv 3) (pa_cons (p_get Z_File_refers (hr.mono (by decide)) (pe_dget hu (pv 0) (pv 4) (fun _ _ => rfl))) pa_nil))))) pss_nil))))
      (pss_one (ps_ret (pv 2)))), ?_⟩
    obtain ⟨f0, e0⟩ := lkF_key.mp hn
    refine fun p hp => ?_
    obtain ⟨v0, g0, a0, dx0, t1, t2, rfl, i1, i2, i3⟩ := (hd.same (Evl.Ex.new (o := .dK []) hp)).get e0
    refine ⟨_, rfl, _, rfl, d, _, rfl, g0, a0, dx0, _, _, rfl, i1, rfl, t1, _, rfl, .inr i2, fun L hL => ?_⟩
    refine ⟨_, _, rfl, ?_⟩
    have npL : p ≠ L := fun e => by rw [← e, upd_same] at hL; cases hL
    have nL : H L = none := by rw [upd_ne (Ne.symm npL)] at hL; exact hL
    have S1 : Same H (upd (upd H p (.dK [])) L (.lst (f0.refers.map V.str))) := (Evl.Ex.new hp).trans (Evl.Ex.new hL)
    refine ⟨fun m σ H1 => ∃ (found line : List Str) (v4 : Option V), σ = [some (.ref d), some (.str n), some (.ref p), some (.ref L), v4] ∧ Same H H1 ∧ H1 p = some (foundD found) ∧ H1 L = some (.lst (line.map V.str)) ∧ BelI fs n found line ∧ m = (8 - found.length) * 100 + line.length ∧ line.length ≤ 8 * (found.length + 1), ⟨_, [], f0.refers, none, rfl, S1, ?_, upd_same, ?_, rfl, ?_⟩, ?_⟩
    · rw [upd_ne npL, upd_same]
      rfl
    · rw [← rf_of e0]
      exact .start
    · have := ok.rf_len n
      rw [rf_of e0] at this
      exact this
    · rintro m σ H1 ⟨found, line, v4, rfl, S, h1, h2, I, rfl, hll⟩
      have lok : ∀ x ∈ line, PyData.strOk x = true := fun x hx => (name_ok (ok.nam x (ok.rc_mem (I.lr x hx)))).2.2
      refine ⟨_, rfl, (by decide), fun p3 hp3 => neNilS h2 lok hp3 ?_⟩
      refine ⟨_, rfl, ?_⟩
      have S3 := Evl.Ex.new (o := .lst []) hp3
      have S' := S.trans S3
      have h1 := S3 _ _ h1
      have h2 := S3 _ _ h2
      generalize upd H1 p3 (.lst []) = H2 at S' h1 h2
      by_cases hl : line = []
      · subst hl
        refine iteF' rfl ?_
        exact ⟨_, rfl, q p found H2 S' h1 I.fin⟩
      · refine iteT' (by cases line with | nil => exact absurd rfl hl | cons _ _ => rfl) ?_
        refine ⟨fun σ' H' => ∃ m', m' < (8 - found.length) * 100 + line.length ∧ ∃ (found line : List Str) (v4 : Option V), σ' = [some (.ref d), some (.str n), some (.ref p), some (.ref L), v4] ∧ Same H H' ∧ H' p = some (foundD found) ∧ H' L = some (.lst (line.map V.str)) ∧ BelI fs n found line ∧ m' = (8 - found.length) * 100 + line.length ∧ line.length ≤ 8 * (found.length + 1), fun σ' H' h => h, ?_⟩
        obtain ⟨r, x, e1, e2, e3⟩ := snoc_of hl
        refine ⟨_, rfl, .inl ⟨rfl, _, SqL.of h2⟩, L, _, .str x, rfl, rfl, h2, (by rw [List.length_map, List.getElem?_map, e3]; rfl), ?_⟩
        rw [show (line.map V.str).dropLast = r.map V.str by rw [← List.map_dropLast, e2]]
        have npL' : p ≠ L := npL
        have h1' : upd H2 L (.lst (r.map V.str)) p = some (foundD found) := by rw [upd_ne npL]; exact h1
        have S'' : Same H (upd H2 L (.lst (r.map V.str))) := Evl.Ex.mut S' nL
        have h2' : upd H2 L (.lst (r.map V.str)) L = some (.lst (r.map V.str)) := upd_same
        generalize upd H2 L (.lst (r.map V.str)) = H3 at h1' S'' h2'
        have I' : BelI fs n found (r ++ [x]) := e1 ▸ I
        have ll : line.length = r.length + 1 := by rw [e1, List.length_append]; rfl
        refine ⟨_, rfl, _, rfl, p, _, rfl, DGet.k (k := Sum.inr x) h1', _, rfl, ?_⟩
        rw [found_val]
        by_cases hx : x ∈ found
        · refine iteF' (by rw [decide_eq_true hx]; rfl) ?_
          exact ⟨_, by omega, found, r, _, rfl, S'', h1', h2', I'.seen hx, rfl, by omega⟩
        · refine iteT' (by rw [decide_eq_false hx]; rfl) ?_
          have hf8 := I.len ok
          have rx : Rc fs n x := I'.lr x (List.mem_append_right _ (List.mem_singleton.mpr rfl))
          obtain ⟨f1, e4⟩ := lkF_key.mp (ok.rc_mem rx)
          refine ⟨_, rfl, _, rfl, p, _, rfl, DPut.k (k := Sum.inr x) h1' (by rw [List.length_map]; exact small64 (by omega)), ?_⟩
          rw [found_put hx]
          have S4 : Same H (upd H3 p (foundD (found ++ [x]))) := Evl.Ex.mut S'' hp
          obtain ⟨v1, g1, a1, dx1, t3, t4, rfl, j1, j2, j3⟩ := (hd.same S4).get e4
          refine ⟨_, rfl, .inl ⟨rfl, _, SqL.of (by rw [upd_ne (Ne.symm npL)]; exact h2')⟩, _, rfl, _, rfl, d, _, rfl, g1, a1, dx1, _, _, rfl, j1, rfl, ?_⟩
          have rl := ok.rf_len x
          rw [rf_of e4] at rl
          refine ⟨L, t3, _, _, rfl, rfl, (by rw [upd_ne (Ne.symm npL)]; exact h2'), j2, ?_, ?_⟩
          · rw [List.length_map, List.length_map]
            exact Nat.le_trans (m := 200) (by omega) (by decide)
          · have I2 := I'.step hx
            rw [rf_of e4] at I2
            have fl : (found ++ [x]).length ≤ 8 := I2.len ok
            rw [List.length_append, List.length_singleton] at fl
            refine ⟨_, ?_, found ++ [x], r ++ f1.refers, _, rfl, Evl.Ex.mut S4 nL, (by rw [upd_ne npL, upd_same]; rfl), (by rw [upd_same, List.map_append]), I2, rfl, ?_⟩
            · rw [List.length_append, List.length_append, List.length_singleton]
              omega
            · rw [List.length_append, List.length_append, List.length_singleton]
              omega
theorem ok_tree_below {f CF : Addr} {fd : FuncData} (F : Fun K "tree_below" "tree_below" s_tree_below f fd) (T : Bi mg) (Z_File_refers : Getter P w K mg base CF "refers" "own_refers") : FnOk P w K mg base CX0 3 f fd ["files", "entry"] (spTree K CF) := by
  refine F.ok sc_tree_below (fun vs H Q E h => ?_) (fun cdv A outer s H vs Q E hr h => ?_)
  · obtain ⟨d, n, fs, rfl, _⟩ := h
    rfl
  · obtain ⟨d, n, fs, rfl, hd, ok, hn, qN, q⟩ := h
    have hu := hu_of hr
    have nd := sc_tree_below.nd
    refine ⟨_, pss_cons (ps_par (i := 2) (j := 3) (by rfl) nd rfl rfl (by decide) rfl rfl (pa_cons (pe_disp (pps_cons (pv 1) pe_non pps_nil) (by rfl) (by rfl) (fun z => by cases z) (by decide)) (pa_cons (pe_lst (pa_cons (pv 1) pa_nil)) pa_nil)) (by rfl))
      (pss_cons (ps_while PassesOwn.never (pt_cmpR (op_neD hr.units) (pv 3) (pe_lst pa_nil) (nomark _)) (pss_cons (ps_set (i := 4) nd rfl (by first | exact Or.inl rfl | exact Or.inr rfl) (pe_bm0 PySem.F.plainAttrs_list PySem.F.slot_list_pop PySem.F.type_list_pop mt_pop (pv 3)))
      (pss_one (ps_for PassesOwn.never rfl (pi_tup (p_get Z_File_refers (hr.mono (by decide)) (pe_dget hu (pv 0) (pv 4) (fun _ _ => rfl)))) (pg_name (i := 5) nd rfl (by first | exact Or.inl rfl | exact Or.inr rfl)) (pss_cons (ps_if (pt_cmp (pc_din hu (pv 5) (pv 2))) (pss_one (ps_ret pe_non)) pss_nil)
      (pss_cons (ps_dput hu (pv 2) (pv 5) (pv 4) rfl)
      (pss_one (ps_expr (pe_bm PySem.F.plainAttrs_list PySem.F.slot_list_append PySem.F.type_list_append mt_append (pv 3) (pa_cons (pv 5) pa_nil))))))))))
      (pss_one (ps_ret (pv 2)))), ?_⟩
    refine fun p hp => ?_
    refine ⟨_, rfl, upd_same, [(.inr n, .non)], rfl, (by show 1 ≤ 15; decide), ?_⟩
    have em : HO.dK (mergeK [] [((.inr n : Key), V.non)]) = treeD [(n, none)] := by
      rw [mergeK_new dv0]
      rfl
    rw [em]
    have uu : upd (upd H p (.dK [])) p (treeD [(n, none)]) = upd H p (treeD [(n, none)]) := by
      funext b
      by_cases hb : b = p
      · rw [hb, upd_same, upd_same]
      · rw [upd_ne hb, upd_ne hb, upd_ne hb]
    rw [uu]
    refine ⟨_, rfl, (by show 1 ≤ sizeLine; decide), fun L hL => ?_⟩
    refine ⟨_, _, rfl, ?_⟩
    have npL : p ≠ L := fun e => by rw [← e, upd_same] at hL; cases hL
    have nL : H L = none := by rw [upd_ne (Ne.symm npL)] at hL; exact hL
    have S1 : Same H (upd (upd H p (treeD [(n, none)])) L (.lst [.str n])) := (Evl.Ex.new hp).trans (Evl.Ex.new hL)
    refine ⟨fun m σ H1 => ∃ (t : List (Str × Option Str)) (line : List Str) (v4 v5 : Option V), σ = [some (.ref d), some (.str n), some (.ref p), some (.ref L), v4, v5] ∧ Same H H1 ∧ H1 p = some (treeD t) ∧ H1 L = some (.lst (line.map V.str)) ∧ TreI fs n t line ∧ m = (8 - t.length) * 100 + line.length, ⟨_, [(n, none)], [n], none, none, rfl, S1, ?_, upd_same, .start, rfl⟩, ?_⟩
    · rw [upd_ne npL, upd_same]
    · rintro m σ H1 ⟨t, line, v4, v5, rfl, S, h1, h2, I, rfl⟩
      have lok : ∀ x ∈ line, PyData.strOk x = true := fun x hx => (name_ok (ok.nam x ((I.rc x (I.ln x hx)).elim (fun z => z ▸ hn) ok.rc_mem))).2.2
      have hll : line.length ≤ 8 := by
        have h8 := I.len ok hn
        have := pigeon line (t.map (·.1)) I.lnd I.ln
        rw [List.length_map] at this
        omega
      refine ⟨_, rfl, (by decide), fun p3 hp3 => neNilS h2 lok hp3 ?_⟩
      refine ⟨_, rfl, ?_⟩
      have S3 := Evl.Ex.new (o := .lst []) hp3
      have S' := S.trans S3
      have h1 := S3 _ _ h1
      have h2 := S3 _ _ h2
      generalize upd H1 p3 (.lst []) = H2 at S' h1 h2
      by_cases hl : line = []
      · subst hl
        refine iteF' rfl ?_
        exact ⟨_, rfl, q p t H2 S' hp h1 I.fin⟩
      · refine iteT' (by cases line with | nil => exact absurd rfl hl | cons _ _ => rfl) ?_
        refine ⟨fun σ' H' => ∃ m', m' < (8 - t.length) * 100 + line.length ∧ ∃ (t : List (Str × Option Str)) (line : List Str) (v4 v5 : Option V), σ' = [some (.ref d), some (.str n), some (.ref p), some (.ref L), v4, v5] ∧ Same H H' ∧ H' p = some (treeD t) ∧ H' L = some (.lst (line.map V.str)) ∧ TreI fs n t line ∧ m' = (8 - t.length) * 100 + line.length, fun σ' H' h => h, ?_⟩
        obtain ⟨r, x, e1, e2, e3⟩ := snoc_of hl
        refine ⟨_, rfl, .inl ⟨rfl, _, SqL.of h2⟩, L, _, .str x, rfl, rfl, h2, (by rw [List.length_map, List.getElem?_map, e3]; rfl), ?_⟩
        rw [show (line.map V.str).dropLast = r.map V.str by rw [← List.map_dropLast, e2]]
        have h1' : upd H2 L (.lst (r.map V.str)) p = some (treeD t) := by rw [upd_ne npL]; exact h1
        have S'' : Same H (upd H2 L (.lst (r.map V.str))) := Evl.Ex.mut S' nL
        have h2' : upd H2 L (.lst (r.map V.str)) L = some (.lst (r.map V.str)) := upd_same
        generalize upd H2 L (.lst (r.map V.str)) = H3 at h1' S'' h2'
        have ll : line.length = r.length + 1 := by rw [e1, List.length_append]; rfl
        have J0 : TreJ fs n t r x [] := (e1 ▸ I : TreI fs n t (r ++ [x])).open
        obtain ⟨f1, e4⟩ := lkF_key.mp ((J0.rc x J0.hk).elim (fun z => z ▸ hn) ok.rc_mem)
        have er := rf_of e4
        have hnd := ok.rf_nd x
        have rl := ok.rf_len x
        rw [er] at hnd rl
        obtain ⟨v1, g1, a1, dx1, t3, t4, rfl, j1, j2, j3⟩ := (hd.same S'').get e4
        refine ⟨_, rfl, _, rfl, d, _, rfl, g1, a1, dx1, _, _, rfl, j1, rfl, t3, rfl, ⟨_, j2⟩, ?_⟩
        refine for_tup (K := K) (a := t3) (xs := f1.refers.map V.str) (fun i σ' H4 => ∃ (t' : List (Str × Option Str)) (line' : List Str) (v5 : Option V), σ' = [some (.ref d), some (.str n), some (.ref p), some (.ref L), some (.str x), v5] ∧ Same H H4 ∧ SqT K H4 t3 (f1.refers.map V.str) ∧ H4 p = some (treeD t') ∧ H4 L = some (.lst (line'.map V.str)) ∧ TreJ fs n t' line' x (f1.refers.take i) ∧ t'.length = t.length + i ∧ line'.length = r.length + i)
          ⟨t, r, _, rfl, S'', j2, h1', h2', J0, rfl, rfl⟩ (fun i σ' H4 _ h => by obtain ⟨_, _, _, _, _, h, _⟩ := h; exact h) ?_ ?_
        · rintro i y σ' H4 hi ⟨t', line', v6, rfl, S4, hT, k1, k2, J, lt', ll'⟩
          obtain ⟨z, hz, rfl⟩ := at_map hi
          have zr : z ∈ f1.refers := at_mem hz
          have hi8 : i < f1.refers.length := (List.getElem?_eq_some_iff.mp hz).1
          refine ⟨_, rfl, _, rfl, p, _, rfl, DGet.k (k := Sum.inr z) k1, _, rfl, ?_⟩
          rw [tree_val]
          by_cases hx : z ∈ t'.map (·.1)
          · refine iteT' (by rw [decide_eq_true hx]) ?_
            refine qN H4 S4 (J.two hx (by rw [er]; exact zr) fun hh => ?_)
            -- none stands twice among the references
            obtain ⟨j, hj⟩ := List.mem_iff_getElem?.mp hh
            have jl : j < i := by
              have := (List.getElem?_eq_some_iff.mp hj).1
              rw [List.length_take] at this
              omega
            rw [List.getElem?_take, if_pos jl] at hj
            have h1 := (List.getElem?_eq_some_iff.mp hz).2
            have h2 := (List.getElem?_eq_some_iff.mp hj).2
            exact List.pairwise_iff_getElem.mp hnd j i (by omega) hi8 jl (h2.trans h1.symm)
          · refine iteF' (by rw [decide_eq_false hx]) ?_
            have t8 := J.len ok hn
            refine ⟨_, rfl, _, rfl, _, rfl, p, _, rfl, DPut.k (k := Sum.inr z) k1 (by rw [List.length_map]; exact small64 (by omega)), ?_⟩
            rw [tree_put hx]
            refine ⟨_, rfl, .inl ⟨rfl, _, SqL.of (by rw [upd_ne (Ne.symm npL)]; exact k2)⟩, _, rfl, L, _, _, rfl, rfl, (by rw [upd_ne (Ne.symm npL)]; exact k2), (by rw [List.length_map]; exact small1000 (by omega)), ?_⟩
            have S5 : Same H (upd (upd H4 p (treeD (t' ++ [(z, some x)]))) L (.lst ((line' ++ [z]).map V.str))) := Evl.Ex.mut (Evl.Ex.mut S4 hp) nL
            have J2 := J.add hx (by rw [er]; exact zr)
            refine ⟨t' ++ [(z, some x)], line' ++ [z], _, rfl, ?_, ?_, ?_, ?_, ?_, ?_, ?_⟩
            · rw [List.map_append] at S5
              exact S5
            · exact SqT.put (SqT.put hT k1 (fun _ z => by cases z) (fun _ _ z => by cases z)) (p := L) (o := .lst (line'.map V.str)) (by rw [upd_ne (Ne.symm npL)]; exact k2) (fun _ z => by cases z) (fun _ _ z => by cases z)
            · rw [upd_ne npL, upd_same]
              rfl
            · rw [upd_same, List.map_append]
              rfl
            · rw [List.take_succ, hz]
              exact J2
            · rw [List.length_append, List.length_singleton]
              omega
            · rw [List.length_append, List.length_singleton]
              omega
        · rintro σ' H4 ⟨t', line', v6, rfl, S4, hT, k1, k2, J, lt', ll'⟩
          rw [List.length_map] at J lt' ll'
          rw [List.take_of_length_le (Nat.le_refl _), ← er] at J
          have t8 := J.len ok hn
          refine ⟨_, ?_, t', line', _, _, rfl, S4, k1, k2, J.close, rfl⟩
          omega
end
end WP
namespace WP
open PySem L2
section
variable {P : Program} {w : World} {K : PySem.W.Frag} {mg : Str → Option Value} {base : Heap}
theorem ok_need_files {f CF CE CP : Addr} {fd : FuncData} (F : Fun K "need_files" "need_files" s_need_files f fd) (T : Bi mg) (E_BadSite : Err2 P w K mg base CP "BadSite" CE "part" "name") (D_is_name : Dn P w K mg base CX0 1 "is_name" ["value"] (spIsName K)) (D_all_below : Dn P w K mg base CX0 3 "all_below" ["files", "name"] (spBelow K CF))
    (Z_File_refers : Getter P w K mg base CF "refers" "own_refers") (Z_File_keeps : Getter P w K mg base CF "keeps" "own_keeps") (G_File : mg "File" = some (.ref CF)) (IF : InsK K CF) (kF : PySem.W.kitOne K (.ref CF) (.ref CF) = some true) (G_MOST_FILES : ∃ t, mg "MOST_FILES" = some (.int 8 t)) : FnOk P w K mg base (L2.CX P w) 4 f fd ["files"] (spNeedFiles K CF CE) := by
  refine F.okX sc_need_files (fun vs H Q E h => ?_) (fun cdv A outer s H vs Q E hr h => ?_)
  · obtain ⟨v, k, l, rfl, _⟩ := h
    rfl
  · obtain ⟨v, k, l, rfl, hv, q0, q⟩ := h
    have hu := hu_of hr
    have nd := sc_need_files.nd
    refine ⟨_, pss_cons (ps_if (PW.pt (pw_or (pt_not (pt_val (pe_callB call_isi (by rfl) T.isinstance (by decide +kernel) (pa_cons (pv 0) (pa_cons (n_dict T) pa_nil))))) (pw_or (pt_not (pt_chain op_le op_le pe_int (pe_callB call_lenD (by rfl) T.len (by decide +kernel) (pa_cons (pv 0) pa_nil)) (gInt G_MOST_FILES))) (pw_or1 (pt_not (pt_val (pe_callB (cr_all rfl) (by rfl) T.all (by decide +kernel) (pa_cons (pe_lock (pe_lc (own := [("name", 1)]) (g := gName 1) rfl nd (pi_keys (pv 0)) (blkOk_by (own := [("name", 1)]) (N := ["files", "name", "names", "other"]) (sc := defScope s_need_files) (by decide +kernel)) (fun _ _ _ _ _ => (pg_name (i := 1) nd rfl (by first | exact Or.inl rfl | exact Or.inr rfl))) (fun _ _ _ _ _ => pts_nil) (fun _ _ _ _ _ => (pe_d D_is_name (hr.mono (by decide)) pass0 (pa_cons (pv 1) pa_nil))))) pa_nil)))))))) (pss_one (raise2n E_BadSite rfl (takes_of rfl rfl rfl rfl) (hr.mono (by decide)) pe_str pe_non)) pss_nil)
      (pss_cons (ps_set (i := 2) nd rfl (by first | exact Or.inl rfl | exact Or.inr rfl) (pe_callB (call_sortedD rfl) (by rfl) T.sorted (by decide +kernel) (pa_cons (pv 0) pa_nil)))
      (pss_cons (ps_for (passes_of rfl) rfl (pi_list (pv 2)) (pg_name (i := 1) nd rfl (by first | exact Or.inl rfl | exact Or.inr rfl)) (pss_one (ps_if (pt_not (pt_val (pe_callB call_isi (by rfl) T.isinstance (by decide +kernel) (pa_cons (pe_dget hu (pv 0) (pv 1) (fun _ _ => rfl)) (pa_cons (gRef G_File) pa_nil))))) (pss_one (raise2n E_BadSite rfl (takes_of rfl rfl rfl rfl) (hr.mono (by decide)) pe_str (pv 1))) pss_nil)))
      (pss_cons (ps_for (passes_of rfl) rfl (pi_list (pv 2)) (pg_name (i := 1) nd rfl (by first | exact Or.inl rfl | exact Or.inr rfl)) (pss_one (ps_if (PW.pt (pw_or (pt_cmpR op_in_seq (pv 1) (p_get Z_File_refers (hr.mono (by decide)) (pe_dget hu (pv 0) (pv 1) (fun _ _ => rfl))) (by rfl)) (pw_or1 (pt_not (pt_val (pe_callB (cr_all rfl) (by rfl) T.all (by decide +kernel) (pa_cons (pe_lc (own := [("other", 3)]) (g := gName 3) rfl nd (pi_tup (p_get Z_File_refers (hr.mono (by decide)) (pe_dget hu (pv 0) (pv 1) (fun _ _ => rfl)))) (blkOk_by (own := [("other", 3)]) (N := ["files", "name", "names", "other"]) (sc := defScope s_need_files) (by decide +kernel)) (fun _ _ _ _ _ => (pg_name (i := 3) nd rfl (by first | exact Or.inl rfl | exact Or.inr rfl))) (fun _ _ _ _ _ => pts_nil) (fun _ _ _ _ _ => (pe_cmp (pc_din hu (pv 3) (pv 0)) rfl))) pa_nil))))))) (pss_one (raise2n E_BadSite rfl (takes_of rfl rfl rfl rfl) (hr.mono (by decide)) pe_str (pv 1))) pss_nil)))
      (pss_cons (ps_for (passes_of rfl) rfl (pi_list (pv 2)) (pg_name (i := 1) nd rfl (by first | exact Or.inl rfl | exact Or.inr rfl)) (pss_one (ps_if (pt_cmpR op_ne (pe_callB call_len (by rfl) T.len (by decide +kernel) (pa_cons (p_get Z_File_keeps (hr.mono (by decide)) (pe_dget hu (pv 0) (pv 1) (fun _ _ => rfl))) pa_nil)) (pe_callB call_len (by rfl) T.len (by decide +kernel) (pa_cons (p_get Z_File_keeps (hr.mono (by decide)) (pe_dget hu (pv 0) (pe_ix ix_list (pv 2) pe_int (fun _ _ => rfl)) (fun _ _ => rfl))) pa_nil)) (nomark _)) (pss_one (raise2n E_BadSite rfl (takes_of rfl rfl rfl rfl) (hr.mono (by decide)) pe_str (pv 1))) pss_nil)))
      (pss_one (ps_for (passes_of rfl) rfl (pi_list (pv 2)) (pg_name (i := 1) nd rfl (by first | exact Or.inl rfl | exact Or.inr rfl)) (pss_one (ps_if (pt_cmp (pc_din hu (pv 1) (pe_d D_all_below (hr.mono (by decide)) pass0 (pa_cons (pv 0) (pa_cons (pv 1) pa_nil))))) (pss_one (raise2n E_BadSite rfl (takes_of rfl rfl rfl rfl) (hr.mono (by decide)) pe_str (pv 1))) pss_nil)))))))), ?_⟩
    refine ⟨_, rfl, v, .ty "dict", k.ty, _, _, rfl, .ty "dict", hv.1.tyx, hv.1.kDct, _, rfl, ?_⟩
    have bad0 : (k.isDct && okKeys l) = false → ∀ H1, Same H H1 → ∀ d, H1 d = none → E (.ref CE) (some d) (upd H1 d (.xd [("name", .non), ("part", .str "files")])) := fun e H1 S d hd => (q0 e).at S hd
    cases ek : k.isDct with
    | false => exact iteT' rfl (bad0 (by rw [ek]; rfl) H (Same.refl H))
    | true =>
      refine iteF' rfl ?_
      obtain ⟨d, kvs, rfl, hd, hF, hnd, hkl⟩ := hv.2 ek
      rw [ek] at q bad0
      simp only [Bool.true_and] at q bad0
      have hlen := hF.len
      refine ⟨_, rfl, d, kvs, rfl, hd, _, _, rfl, rfl, _, rfl, ?_⟩
      refine ite2 (fun h1 => ?_) (fun h1 => ?_)
      · refine ⟨_, _, rfl, rfl, _, rfl, ?_⟩
        refine ite2 (fun h2 => ?_) (fun h2 => ?_)
        · refine bad0 ?_ H (Same.refl H)
          simp only [Bool.not_eq_true', decide_eq_false_iff_not] at h2
          unfold okKeys
          rw [decide_eq_false (p := l.length ≤ 8) (by omega), Bool.and_false, Bool.false_and]
        · simp only [Bool.not_eq_true', decide_eq_false_iff_not, Decidable.not_not, decide_eq_true_eq] at h1 h2
          refine ⟨d, _, hd, trivial, fun od => ?_⟩
          refine ⟨_, rfl, d, od, rfl, .inl ⟨kvs, upd_same, fun D hD => ?_⟩⟩
          have nDd : D ≠ d := fun e => by rw [e, upd_same] at hD; cases hD
          refine lc_it walk_keys (PvL (upd H d (.frz od (.dK kvs))) D (fun i => kvs[i]?.map fun p => V.bl (isNameV (kV p.1)))) (pv_0 hD) (fun i H2 _ p => p.1 _ _ upd_same) ?_ ?_
          · rintro i x H2 H3 hi p ⟨rfl, kk, vv, hx, rfl⟩
            refine ⟨rfl, _, rfl, kV kk, ?_⟩
            have fin : ∀ H4, Same H3 H4 → ∃ acc, H4 D = some (.lst acc) ∧ acc.length < sizeLine ∧ PvL (upd H d (.frz od (.dK kvs))) D (fun i => kvs[i]?.map fun p => V.bl (isNameV (kV p.1))) (i + 1) (upd H4 D (.lst (acc ++ [V.bl (isNameV (kV kk))]))) := fun H4 S4 => pv_in p S4 (by rw [hx]; rfl) (by omega)
            cases kk with
            | inl z => exact ⟨.int, rfl, .int z, fun _ e => (by cases e), fin⟩
            | inr z => exact ⟨.str, rfl, .str z, fun y e => (by cases e; exact hkl z (by rw [← hF.keys]; exact List.mem_map.mpr ⟨_, at_mem hx, rfl⟩)), fin⟩
          · intro H2 p
            have p3 := p.2.2
            rw [fm_range] at p3
            refine ⟨p.1 _ _ upd_same, D, kvs.map fun p => isNameV (kV p.1), rfl, SqL.of (by rw [upd_ne nDd, p3, List.map_map]; rfl), _, rfl, ?_⟩
            have S2 : Same H (upd H2 d (.dK kvs)) := lock_same hd p.1
            generalize upd H2 d (.dK kvs) = H3 at S2
            have ea : (kvs.map fun p => isNameV (kV p.1)).all id = l.all fun p => isNameV (kV p.1) := by
              have e1 : ∀ (m : List (Key × V)), (m.map fun p => isNameV (kV p.1)).all id = (m.map (·.1)).all fun k => isNameV (kV k) := fun m => by simp [List.all_map, Function.comp_def]
              have e2 : (l.all fun p => isNameV (kV p.1)) = (l.map (·.1)).all fun k => isNameV (kV k) := by simp [List.all_map, Function.comp_def]
              rw [e1, e2, hF.keys]
            rw [ea]
            cases en : l.all fun p => isNameV (kV p.1) with
            | false =>
              refine iteT' rfl (bad0 ?_ H3 S2)
              unfold okKeys
              rw [en, Bool.and_false]
            | true =>
              refine iteF' rfl ?_
              have hok : okKeys l = true := by
                unfold okKeys
                rw [en, decide_eq_true (p := 1 ≤ l.length) (by omega), decide_eq_true (p := l.length ≤ 8) (by omega)]
                rfl
              have hks : ∃ ks : List Str, kvs.map (·.1) = ks.map Sum.inr := by
                rw [hF.keys]
                rw [List.all_eq_true] at en
                clear hF ea hlen hkl hnd hok q bad0 q0 hv
                induction l with
                | nil => exact ⟨[], rfl⟩
                | cons a r ih =>
                  obtain ⟨ks, e⟩ := ih (fun x hx => en x (List.mem_cons_of_mem _ hx))
                  obtain ⟨n, e1, _⟩ := kV_name (en a List.mem_cons_self)
                  exact ⟨n :: ks, by rw [List.map_cons, e, e1]; rfl⟩
              obtain ⟨ks, eks⟩ := hks
              have kl : ks.length = l.length := by
                have := congrArg List.length eks
                simp only [List.length_map] at this
                omega
              refine ⟨_, rfl, d, kvs, ks, rfl, .inl (S2 _ _ hd), eks, by omega, fun ys L hp hso hL => ?_⟩
              have Y : YsOf l ys := ⟨by rw [← hF.keys, eks]; exact hp.map _, hso⟩
              have yl : ys.length = l.length := by rw [hp.length_eq, kl]
              obtain ⟨qe, qn⟩ := q ys Y hok
              have mem : ∀ n, n ∈ ys → (Sum.inr n : Key) ∈ l.map (·.1) := fun n hn => by
                rw [← hF.keys, eks]
                exact List.mem_map.mpr ⟨n, hp.subset hn, rfl⟩
              have SL : Same H (upd H3 L (.lst (ys.map V.str))) := S2.trans (Evl.Ex.new hL)
              have hL' : upd H3 L (.lst (ys.map V.str)) L = some (.lst (ys.map V.str)) := upd_same
              generalize upd H3 L (.lst (ys.map V.str)) = H4 at SL hL'
              -- 1: no file
              refine ⟨_, rfl, L, rfl, ⟨_, SqL.of hL'⟩, ?_⟩
              refine for_list (K := K) (a := L) (xs := ys.map V.str) (fun i σ H5 => H5 = H4 ∧ (∃ v1 : Option V, σ = [some (.ref d), v1, some (.ref L), none]) ∧ ∀ j m, j < i → ys[j]? = some m → (lkO l m == some none) = false)
                ⟨rfl, ⟨_, rfl⟩, fun j m hj => by omega⟩ (fun i σ H5 _ h => by rw [h.1]; exact SqL.of hL') ?_ ?_
              · rintro i x σ H5 hi ⟨rfl, ⟨v1, rfl⟩, ps⟩
                obtain ⟨n, hn, rfl⟩ := at_map hi
                obtain ⟨v, hv1, hv2⟩ := (hF.same SL).get (mem n (at_mem hn))
                have dg : DGet H5 d (.str n) (some v) := by
                  have := DGet.k (k := Sum.inr n) (SL _ _ hd)
                  rw [hv1] at this
                  exact this
                rcases hv2 with ⟨g, e1, hg, _⟩ | ⟨kd, e1, hg, hk⟩
                · obtain ⟨a0, dx0, t1, t2, rfl, i1, i2, i3⟩ := hg
                  refine ⟨_, rfl, _, rfl, d, _, rfl, dg, .ref a0, .ref CF, .ref CF, _, _, rfl, .own CF, (Any.ins i1 IF : Any K H5 _ _).tyx, kF, _, rfl, ?_⟩
                  refine iteF' rfl ?_
                  refine ⟨rfl, ⟨_, rfl⟩, fun j m hj hm => ?_⟩
                  by_cases hji : j < i
                  · exact ps j m hji hm
                  · have : j = i := by omega
                    rw [this, hn] at hm
                    cases hm
                    rw [e1]
                    rfl
                · refine ⟨_, rfl, _, rfl, d, _, rfl, dg, v, .ref CF, kd.ty, _, _, rfl, .own CF, hg.tyx, hk, _, rfl, ?_⟩
                  refine iteT' rfl ?_
                  refine ⟨_, rfl, fun d' hd' => (qe "files" (.str n) ?_).at SL hd'⟩
                  unfold needErr
                  rw [find_at hn (by rw [e1]; rfl) ps]
              · rintro σ H5 ⟨rfl, ⟨v1, rfl⟩, ps⟩
                rw [List.length_map] at ps
                have ps : ∀ (j : Nat) m, ys[j]? = some m → (lkO l m == some none) = false := fun j m hm => ps j m (List.getElem?_eq_some_iff.mp hm).1 hm
                have f1 := find_non ps
                have nn : ∀ n : Str, (Sum.inr n : Key) ∈ l.map (·.1) → lkO l n ≠ some none := fun n hn e => by
                  rw [← hF.keys, eks] at hn
                  obtain ⟨m, hm, e2⟩ := List.mem_map.mp hn
                  cases e2
                  obtain ⟨j, hj⟩ := List.mem_iff_getElem?.mp (hp.symm.subset hm)
                  have := ps j n hj
                  rw [e] at this
                  cases this
                obtain ⟨r1, r2, r3⟩ := hF.files (fun k hk => by
                  rw [← hF.keys, eks] at hk
                  obtain ⟨m, _, e2⟩ := List.mem_map.mp hk
                  exact ⟨m, e2.symm⟩) nn hnd
                have FA : FilesAt K CF H d (fsOf l) := ⟨kvs, hd, r1⟩
                have key : ∀ n, n ∈ ys → ∃ f, lkF (fsOf l) n = some f := fun n hn => by
                  rw [← lkF_key]
                  have := mem n hn
                  rw [r3, List.map_map] at this
                  obtain ⟨p, h1, h2⟩ := List.mem_map.mp this
                  exact List.mem_map.mpr ⟨p, h1, Sum.inr.inj h2⟩
                -- 2: references
                refine ⟨_, rfl, L, rfl, ⟨_, SqL.of hL'⟩, ?_⟩
                refine for_list (K := K) (a := L) (xs := ys.map V.str) (fun i σ H6 => Same H5 H6 ∧ (∃ v1 : Option V, σ = [some (.ref d), v1, some (.ref L), none]) ∧ ∀ j m, j < i → ys[j]? = some m → badRef (fsOf l) m = false)
                  ⟨Same.refl _, ⟨_, rfl⟩, fun j m hj => by omega⟩ (fun i σ H6 _ h => SqL.of (h.1 _ _ hL')) ?_ ?_
                · rintro i x σ H6 hi ⟨S6, ⟨v1, rfl⟩, ps2⟩
                  obtain ⟨n, hn, rfl⟩ := at_map hi
                  obtain ⟨g, eg⟩ := key n (at_mem hn)
                  have FA6 := FA.same (SL.trans S6)
                  obtain ⟨v0, g0, a0, dx0, t1, t2, rfl, i1, i2, i3⟩ := FA6.get eg
                  refine ⟨_, rfl, _, rfl, _, rfl, d, _, rfl, g0, a0, dx0, _, _, rfl, i1, rfl, t1, _, rfl, .inr i2, rfl, flat_strs _, _, rfl, ?_⟩
                  rw [if_neg (by decide), inV_str]
                  have er := rf_of eg
                  have bd : badRef (fsOf l) n = true → ∀ H7, Same H6 H7 → ∀ d', H7 d' = none → E (.ref CE) (some d') (upd H7 d' (.xd [("name", .str n), ("part", .str "refers")])) := fun e H7 S7 d' hd' => (qe "refers" (.str n) (by
                    unfold needErr
                    rw [f1]
                    simp only
                    rw [find_at hn e ps2])).at ((SL.trans S6).trans S7) hd'
                  by_cases hin : n ∈ g.refers
                  · refine iteT' (decide_eq_true hin) ?_
                    refine ⟨_, rfl, bd ?_ H6 (Same.refl _)⟩
                    unfold badRef
                    rw [er, decide_eq_true hin, Bool.true_or]
                  · refine iteF' (decide_eq_false hin) ?_
                    obtain ⟨v0', g0', a0', dx0', t1', t2', rfl, i1', i2', i3'⟩ := FA6.get eg
                    refine ⟨_, rfl, _, rfl, d, _, rfl, g0', a0', dx0', _, _, rfl, i1', rfl, t1', rfl, ⟨_, i2'⟩, fun D hD => ?_⟩
                    refine lc_it walk_tup (PvL H6 D (fun i => (g.refers.map V.str)[i]?.map fun x => match x with | .str m => V.bl (lkF (fsOf l) m).isSome | _ => .non)) (pv_0 hD) (fun i H7 _ p => SqT.sm i2' p.1) ?_ ?_
                    · rintro i' x H7 H8 hi' p ⟨rfl, hx⟩
                      obtain ⟨m, hm, rfl⟩ := at_map hx
                      obtain ⟨kvs7, hd7, hr7⟩ := FA6.same p.1
                      refine ⟨rfl, _, rfl, _, rfl, d, _, rfl, DGet.k (k := Sum.inr m) hd7, ?_⟩
                      have e1 : (valV kvs7 (.inr m)).isSome = (lkF (fsOf l) m).isSome := by
                        rcases hr7.get m with ⟨e1, e2⟩ | ⟨_, _, e1, e2, _⟩
                        · rw [e1, e2]
                          rfl
                        · rw [e1, e2]
                          rfl
                      rw [e1]
                      have li : i' < g.refers.length := (List.getElem?_eq_some_iff.mp hm).1
                      have l1000 : g.refers.length < 64 := (r2 n g eg).fw
                      exact pv_in p (Same.refl _) (by simp only [hx, Option.map_some]) (by omega)
                    · intro H7 p
                      have p3 := p.2.2
                      have e2 : (List.range (g.refers.map V.str).length).filterMap (fun i => (g.refers.map V.str)[i]?.map fun x => match x with | .str m => V.bl (lkF (fsOf l) m).isSome | _ => .non) = (g.refers.map fun m => (lkF (fsOf l) m).isSome).map V.bl := by
                        rw [fm_range, List.map_map, List.map_map]
                        rfl
                      rw [e2] at p3
                      refine ⟨D, g.refers.map fun m => (lkF (fsOf l) m).isSome, rfl, SqL.of p3, _, rfl, ?_⟩
                      have e3 : badRef (fsOf l) n = !(g.refers.map fun m => (lkF (fsOf l) m).isSome).all id := by
                        unfold badRef
                        rw [er, decide_eq_false hin, Bool.false_or, List.all_map, List.not_all_eq_any_not]
                        congr 1
                        funext m
                        simp only [Function.comp_apply, id_eq]
                        cases lkF (fsOf l) m <;> rfl
                      cases ea2 : (g.refers.map fun m => (lkF (fsOf l) m).isSome).all id with
                      | false =>
                        refine iteT' rfl ?_
                        exact ⟨_, rfl, bd (by rw [e3, ea2]; rfl) H7 p.1⟩
                      | true =>
                        refine iteF' rfl ?_
                        refine ⟨S6.trans p.1, ⟨_, rfl⟩, fun j m hj hm => ?_⟩
                        by_cases hji : j < i
                        · exact ps2 j m hji hm
                        · have : j = i := by omega
                          rw [this, hn] at hm
                          cases hm
                          rw [e3, ea2]
                          rfl
                · rintro σ H6 ⟨S6, ⟨v1, rfl⟩, ps2⟩
                  rw [List.length_map] at ps2
                  have ps2 : ∀ (j : Nat) m, ys[j]? = some m → badRef (fsOf l) m = false := fun j m hm => ps2 j m (List.getElem?_eq_some_iff.mp hm).1 hm
                  have f2 := find_non ps2
                  have ok : FsOk (fsOf l) := by
                    have ek2 : l.map (·.1) = (fsOf l).map (fun p => (.inr p.1 : Key)) := by
                      have := congrArg (List.map (·.1)) r3
                      rw [List.map_map] at this
                      exact this
                    have el : l.length = (fsOf l).length := by
                      have := congrArg List.length ek2
                      simpa using this
                    have inY : ∀ n, n ∈ (fsOf l).map (·.1) → n ∈ ys := fun n hn => by
                      have : (Sum.inr n : Key) ∈ kvs.map (·.1) := by
                        rw [hF.keys, ek2]
                        obtain ⟨p, h1, h2⟩ := List.mem_map.mp hn
                        exact List.mem_map.mpr ⟨p, h1, by rw [h2]⟩
                      rw [eks] at this
                      obtain ⟨m, h1, h2⟩ := List.mem_map.mp this
                      cases h2
                      exact hp.symm.subset h1
                    refine ⟨by omega, ?_, fun n hn => ?_, fun n f e m hm => ?_, fun n f e => (r2 n f e).nd⟩
                    · rw [ek2] at hnd
                      exact List.pairwise_map.mpr ((List.pairwise_map.mp hnd).imp fun h z => h (by rw [z]))
                    · obtain ⟨p, h1, h2⟩ := List.mem_map.mp (mem n (inY n hn))
                      rw [List.all_eq_true] at en
                      obtain ⟨m, e', hm⟩ := kV_name (en p h1)
                      rw [h2] at e'
                      cases e'
                      exact hm
                    · obtain ⟨j, hj⟩ := List.mem_iff_getElem?.mp (inY n (lkF_key.mpr ⟨f, e⟩))
                      have hb := ps2 j n hj
                      unfold badRef at hb
                      rw [Bool.or_eq_false_iff] at hb
                      have := hb.2
                      rw [List.any_eq_false] at this
                      have := this m (by rw [rf_of e]; exact hm)
                      rw [lkF_key]
                      cases e2 : lkF (fsOf l) m with
                      | none => rw [e2] at this; exact absurd rfl this
                      | some g => exact ⟨g, rfl⟩
                  have S06 := SL.trans S6
                  have hL6 := S6 _ _ hL'
                  -- 3: keeps
                  obtain ⟨y0, yr, ey⟩ : ∃ y0 yr, ys = y0 :: yr := by
                    cases ys with
                    | nil => rw [← hlen] at yl; simp only [List.length_nil] at yl; omega
                    | cons a r => exact ⟨a, r, rfl⟩
                  obtain ⟨g1, eg1⟩ := key y0 (by rw [ey]; exact List.mem_cons_self)
                  refine ⟨_, rfl, L, rfl, ⟨_, SqL.of hL6⟩, ?_⟩
                  refine for_list (K := K) (a := L) (xs := ys.map V.str) (fun i σ H7 => H7 = H6 ∧ (∃ v1 : Option V, σ = [some (.ref d), v1, some (.ref L), none]) ∧ ∀ j m, j < i → ys[j]? = some m → badKeep (fsOf l) ys m = false)
                    ⟨rfl, ⟨_, rfl⟩, fun j m hj => by omega⟩ (fun i σ H7 _ h => by rw [h.1]; exact SqL.of hL6) ?_ ?_
                  · rintro i x σ H7 hi ⟨rfl, ⟨v1, rfl⟩, ps3⟩
                    obtain ⟨n, hn, rfl⟩ := at_map hi
                    obtain ⟨g, eg⟩ := key n (at_mem hn)
                    have FA6 := FA.same S06
                    obtain ⟨v0, g0, a0, dx0, t1, t2, rfl, i1, i2, i3⟩ := FA6.get eg
                    obtain ⟨v0', g0', a0', dx0', t1', t2', rfl, i1', i2', i3'⟩ := FA6.get eg1
                    refine ⟨_, rfl, _, rfl, d, _, rfl, g0, a0, dx0, _, _, rfl, i1, rfl, _, _, rfl, .inr ⟨_, i3, rfl⟩, ?_⟩
                    refine ⟨_, rfl, _, rfl, L, _, 0, .str y0, rfl, rfl, SqL.of hL6, atI_nat (j := 0) (by rw [ey]; rfl), d, _, rfl, g0', a0', dx0', _, _, rfl, i1', rfl, _, _, rfl, .inr ⟨_, i3', rfl⟩, rfl, _, rfl, ?_⟩
                    have e3 : badKeep (fsOf l) ys n = !decide ((V.int (g.keeps.map optI).length) = V.int (g1.keeps.map optI).length) := by
                      unfold badKeep keepsOf
                      rw [ey, List.headD_cons, eg, eg1]
                      simp only [List.length_map]
                      congr 1
                      rw [Bool.eq_iff_iff, beq_iff_eq, decide_eq_true_eq]
                      exact ⟨fun h => by rw [h], fun h => by have := V.int.inj h; omega⟩
                    rw [← e3]
                    cases eb : badKeep (fsOf l) ys n with
                    | true =>
                      refine iteT' rfl ⟨_, rfl, fun d' hd' => (qe "keeps" (.str n) ?_).at S06 hd'⟩
                      unfold needErr
                      rw [f1]
                      simp only
                      rw [f2]
                      simp only
                      rw [find_at hn eb ps3]
                    | false =>
                      refine iteF' rfl ⟨rfl, ⟨_, rfl⟩, fun j m hj hm => ?_⟩
                      by_cases hji : j < i
                      · exact ps3 j m hji hm
                      · have : j = i := by omega
                        rw [this, hn] at hm
                        cases hm
                        exact eb
                  · rintro σ H7 ⟨rfl, ⟨v1, rfl⟩, ps3⟩
                    rw [List.length_map] at ps3
                    have ps3 : ∀ (j : Nat) m, ys[j]? = some m → badKeep (fsOf l) ys m = false := fun j m hm => ps3 j m (List.getElem?_eq_some_iff.mp hm).1 hm
                    have f3 := find_non ps3
                    -- 4: rings
                    refine ⟨_, rfl, L, rfl, ⟨_, SqL.of hL6⟩, ?_⟩
                    refine for_list (K := K) (a := L) (xs := ys.map V.str) (fun i σ H8 => Same H7 H8 ∧ (∃ v1 : Option V, σ = [some (.ref d), v1, some (.ref L), none]) ∧ ∀ j m, j < i → ys[j]? = some m → ringB (fsOf l) m = false)
                      ⟨Same.refl _, ⟨_, rfl⟩, fun j m hj => by omega⟩ (fun i σ H8 _ h => SqL.of (h.1 _ _ hL6)) ?_ ?_
                    · rintro i x σ H8 hi ⟨S8, ⟨v1, rfl⟩, ps4⟩
                      obtain ⟨n, hn, rfl⟩ := at_map hi
                      refine ⟨_, rfl, _, rfl, _, rfl, d, n, fsOf l, rfl, FA.same (S06.trans S8), ok, lkF_key.mpr (key n (at_mem hn)), fun p found H9 S9 hp9 hf9 => ?_⟩
                      refine ⟨p, _, rfl, DGet.k (k := Sum.inr n) hp9, _, rfl, ?_⟩
                      rw [found_val]
                      by_cases hin : n ∈ found
                      · refine iteT' (decide_eq_true hin) ⟨_, rfl, fun d' hd' => (qe "ring" (.str n) ?_).at ((S06.trans S8).trans S9) hd'⟩
                        unfold needErr
                        rw [f1]
                        simp only
                        rw [f2]
                        simp only
                        rw [f3]
                        simp only
                        rw [find_at hn (ringB_iff.mpr ((hf9 n).mp hin)) ps4]
                      · refine iteF' (decide_eq_false hin) ⟨S8.trans S9, ⟨_, rfl⟩, fun j m hj hm => ?_⟩
                        by_cases hji : j < i
                        · exact ps4 j m hji hm
                        · have : j = i := by omega
                          rw [this, hn] at hm
                          cases hm
                          cases er : ringB (fsOf l) n with
                          | false => rfl
                          | true => exact absurd ((hf9 n).mpr (ringB_iff.mp er)) hin
                    · rintro σ H8 ⟨S8, ⟨v1, rfl⟩, ps4⟩
                      rw [List.length_map] at ps4
                      have ps4 : ∀ (j : Nat) m, ys[j]? = some m → ringB (fsOf l) m = false := fun j m hm => ps4 j m (List.getElem?_eq_some_iff.mp hm).1 hm
                      refine qn ?_ H8 (S06.trans S8)
                      unfold needErr
                      rw [f1]
                      simp only
                      rw [f2]
                      simp only
                      rw [f3]
                      simp only
                      rw [find_non ps4]
      · refine ⟨_, rfl, ?_⟩
        refine iteT (bad0 ?_ H (Same.refl H))
        simp only [decide_eq_true_eq] at h1
        unfold okKeys
        rw [decide_eq_false (p := 1 ≤ l.length) (by omega), Bool.false_and, Bool.false_and]
theorem ok_is_entries {f CF : Addr} {fd : FuncData} (F : Fun K "is_entries" "is_entries" s_is_entries f fd) (T : Bi mg) (D_are_names : Dn P w K mg base CX0 2 "are_names" ["value"] (spAreNames K)) (Z_File_naming : Getter P w K mg base CF "naming" "own_naming") : FnOk P w K mg base CX0 3 f fd ["files", "value"] (spEntries K CF) := by
  refine F.ok sc_is_entries (fun vs H Q E h => ?_) (fun cdv A outer s H vs Q E hr h => ?_)
  · obtain ⟨d, v, k, xs, fs, rfl, _⟩ := h
    rfl
  · obtain ⟨d, v, k, xs, fs, rfl, hd, hs, q⟩ := h
    have hu := hu_of hr
    have nd := sc_is_entries.nd
    refine ⟨_, pss_cons (ps_if (PW.pt (pw_or (pt_not (pt_val (pe_d D_are_names (hr.mono (by decide)) pass0 (pa_cons (pv 1) pa_nil)))) (pw_or1 (pt_cmpR op_eq (pe_callB call_len (by rfl) T.len (by decide +kernel) (pa_cons (pv 1) pa_nil)) pe_int (nomark _))))) (pss_one (ps_ret pe_bl)) pss_nil)
      (pss_one (ps_ret (pe_callB (cr_all rfl) (by rfl) T.all (by decide +kernel) (pa_cons (pe_lc (own := [("name", 2)]) (g := gName 2) rfl nd (pi_seq (pv 1)) (blkOk_by (own := [("name", 2)]) (N := ["files", "value", "name"]) (sc := defScope s_is_entries) (by decide +kernel)) (fun _ _ _ _ _ => (pg_name (i := 2) nd rfl (by first | exact Or.inl rfl | exact Or.inr rfl))) (fun _ _ _ _ _ => pts_nil) (fun _ _ _ _ _ => (pe_and (pe_cmp (pc_din hu (pv 2) (pv 0)) rfl) (pe_one (pe_cmpR op_eq (p_get Z_File_naming (hr.mono (by decide)) (pe_dget hu (pv 0) (pv 2) (fun _ _ => rfl))) pe_str (nomark _)))))) pa_nil)))), ?_⟩
    refine ⟨_, rfl, v, k, xs, rfl, hs, fun H1 S1 => ⟨_, rfl, ?_⟩⟩
    have q1 := q H1 S1
    unfold entOk at q1
    cases e1 : ((k.isLst || k.isTup) && areNamesL xs) with
    | false =>
      rw [e1] at q1
      exact iteT' rfl q1
    | true =>
      refine iteF' rfl ?_
      have e1' := e1
      rw [Bool.and_eq_true] at e1
      obtain ⟨a, rfl, hq, hl, hx⟩ := hs.2 e1.1
      have e2 := e1.2
      unfold areNamesL at e2
      rw [Bool.and_eq_true] at e2
      obtain ⟨ns, rfl, hn⟩ := names_str e2.1
      have hq1 := hq.imp (fun h => SqL.sm h S1) (fun h => SqT.sm h S1)
      refine ⟨_, rfl, _, _, rfl, hq1.elim (fun h => .inl ⟨_, h, rfl⟩) (fun h => .inr ⟨_, h, rfl⟩), rfl, _, rfl, ?_⟩
      by_cases hne : ns = []
      · subst hne
        refine iteT' rfl ?_
        rw [e1'] at q1
        exact q1
      · refine iteF' (decide_eq_false fun z => hne (by have := V.int.inj z; rw [List.length_map] at this; exact List.length_eq_zero_iff.mp (by omega))) ?_
        refine ⟨_, rfl, a, ns.map V.str, rfl, hq1, fun J G hW hG => fun D hD => ?_⟩
        refine lc_it hW (PvL H1 D (fun i => (ns.map V.str)[i]?.map fun x => V.bl (plainF fs x))) (pv_0 hD) (fun i H2 _ p => hG _ p.1) ?_ ?_
        · rintro i x H2 H3 hi p ⟨rfl, hxi⟩
          obtain ⟨n, hn', rfl⟩ := at_map hxi
          have li : i < ns.length := (List.getElem?_eq_some_iff.mp hn').1
          rw [List.length_map] at hl
          have FA := hd.same (S1.trans p.1)
          obtain ⟨kvs2, hd2, hr2⟩ := FA
          refine ⟨rfl, _, rfl, _, rfl, d, _, rfl, DGet.k (k := Sum.inr n) hd2, _, rfl, ?_⟩
          rcases hr2.get n with ⟨e3, e4⟩ | ⟨v', g, e3, e4, hg⟩
          · rw [e3]
            refine iteF' rfl ?_
            have pf : plainF fs (.str n) = false := by simp only [plainF, e4]
            have := pv_in (y := .bl (plainF fs (.str n))) p (Same.refl _) (by rw [hxi]; rfl) (by omega)
            rw [pf] at this
            exact this
          · rw [e3]
            refine iteT' rfl ?_
            obtain ⟨a0, dx0, t1, t2, rfl, i1, i2, i3⟩ := hg
            have dg : DGet H3 d (.str n) (some (.ref a0)) := by
              have := DGet.k (k := Sum.inr n) hd2
              rw [e3] at this
              exact this
            refine ⟨_, rfl, _, rfl, d, _, rfl, dg, a0, dx0, _, _, rfl, i1, rfl, rfl, ?_⟩
            have pf : plainF fs (.str n) = decide (V.str (namS g.own) = V.str "plain") := by
              simp only [plainF, e4]
              cases g.own <;> rfl
            have := pv_in (y := .bl (plainF fs (.str n))) p (Same.refl _) (by rw [hxi]; rfl) (by omega)
            rw [pf] at this
            exact this
        · intro H2 p
          have p3 := p.2.2
          rw [fm_range] at p3
          refine ⟨D, (ns.map V.str).map (plainF fs), rfl, SqL.of (by rw [p3, List.map_map, List.map_map, List.map_map]; rfl), ?_⟩
          have q2 := q H2 (S1.trans p.1)
          unfold entOk at q2
          rw [e1'] at q2
          have e5 : ((ns.map V.str).map (plainF fs)).all id = (true && !(ns.map V.str).isEmpty && (ns.map V.str).all (plainF fs)) := by
            cases ns with
            | nil => exact absurd rfl hne
            | cons a r => simp [List.all_map]
          rw [← e5] at q2
          exact q2
end
end WP
namespace WP
open PySem L2
end WP
namespace WP
open PySem L2
section
variable {P : Program} {w : World} {K : PySem.W.Frag} {mg : Str → Option Value} {base h : Heap} {CS CF CE CP e1 e2 : Addr}
theorem file_binds {f : Addr} {fd : FuncData} {dvs : List V} (F : FunD K "__init__" "File.__init__" (defArgs s_File___init__) (defBody s_File___init__) (defScope s_File___init__) dvs [] f fd) (h3 : dvs.length = 3) : ∀ j, j ≤ 3 → ∃ ds, Vals (dvs.drop j) ds ∧ Binds K fd psFile ds := by
  have nd : dvs ≠ [] := by intro e; rw [e] at h3; cases h3
  intro j hj
  rcases (show j = 0 ∨ j = 1 ∨ j = 2 ∨ j = 3 by omega) with rfl | rfl | rfl | rfl
  · refine F.binds1 2 0 nd (by rw [h3]; rfl) fun T kV doc pm an cdv ct us its hl hi => ?_
    rw [h3] at hi
    match us, hl, its, hi with | [_, _], _, [_, _, _], _ => exact ⟨_, rfl, rfl⟩
  · refine F.binds1 3 1 nd (by rw [h3]; rfl) fun T kV doc pm an cdv ct us its hl hi => ?_
    rw [h3] at hi
    match us, hl, its, hi with | [_, _, _], _, [_, _, _], _ => exact ⟨_, rfl, rfl⟩
  · refine F.binds1 4 2 nd (by rw [h3]; rfl) fun T kV doc pm an cdv ct us its hl hi => ?_
    rw [h3] at hi
    match us, hl, its, hi with | [_, _, _, _], _, [_, _, _], _ => exact ⟨_, rfl, rfl⟩
  · refine F.binds1 5 3 nd (by rw [h3]; rfl) fun T kV doc pm an cdv ct us its hl hi => ?_
    rw [h3] at hi
    match us, hl, its, hi with | [_, _, _, _, _], _, [_, _, _], _ => exact ⟨_, rfl, rfl⟩
theorem site_binds {f : Addr} {fd : FuncData} {dvs : List V} (F : FunD K "__init__" "Site.__init__" (defArgs s_Site___init__) (defBody s_Site___init__) (defScope s_Site___init__) dvs [] f fd) (h1 : dvs.length = 1) : ∀ j, j ≤ 1 → ∃ ds, Vals (dvs.drop j) ds ∧ Binds K fd psSite ds := by
  have nd : dvs ≠ [] := by intro e; rw [e] at h1; cases h1
  intro j hj
  rcases (show j = 0 ∨ j = 1 by omega) with rfl | rfl
  · refine F.binds1 3 0 nd (by rw [h1]; rfl) fun T kV doc pm an cdv ct us its hl hi => ?_
    rw [h1] at hi
    match us, hl, its, hi with | [_, _, _], _, [_], _ => exact ⟨_, rfl, rfl⟩
  · refine F.binds1 4 1 nd (by rw [h1]; rfl) fun T kV doc pm an cdv ct us its hl hi => ?_
    rw [h1] at hi
    match us, hl, its, hi with | [_, _, _, _], _, [_], _ => exact ⟨_, rfl, rfl⟩
theorem file_mk (X : K.In h) (G : h.Ns mainGlobals mg) (M : MadeK K "File" CF s_File___init__ "File.__init__" [.ref e1, .int 0, .ref e2]) (I : InsK K CF) (t1 : NilT K e1) (t2 : NilT K e2)
    (ok : ∀ f fd, FunD K "__init__" "File.__init__" (defArgs s_File___init__) (defBody s_File___init__) (defScope s_File___init__) [.ref e1, .int 0, .ref e2] [] f fd → FnOk P w K mg base (L2.CX P w) 3 f fd psFile (spFile K CF CE)) : FileMk P w K mg base CF CE e1 e2 := by
  obtain ⟨f, fd, m, F⟩ := M.made
  exact ⟨PySem.W.mg_of X G M.ns, ⟨f, fd, m, ok f fd F, file_binds F rfl⟩, t1, t2, I⟩
end
end WP
namespace WP
open PySem L2
section
variable {P : Program} {w : World} {K : PySem.W.Frag} {mg : Str → Option Value} {base : Heap}
theorem ok__law_can_bend {f : Addr} {fd : FuncData} (F : Fun K "_law_can_bend" "_law_can_bend" s__law_can_bend f fd) (T : Bi mg) (D__law_is_word : Dn P w K mg base CX0 1 "_law_is_word" ["_law_item"] (spIsName K)) : FnOk P w K mg base CX0 2 f fd ["_law_pages"] (spCanB K) := by
  refine F.ok sc__law_can_bend (fun vs H Q E h => ?_) (fun cdv A outer s H vs Q E hr h => ?_)
  · obtain ⟨gv, k, l, j, rfl, _⟩ := h
    rfl
  · obtain ⟨gv, k, l, j, rfl, hv, L, j2, q⟩ := h
    have hu := hu_of hr
    have nd := sc__law_can_bend.nd
    refine ⟨_, pss_cons (ps_if (PW.pt (pw_or (pt_not (pt_val (pe_callB call_isi (by rfl) T.isinstance (by decide +kernel) (pa_cons (pv 0) (pa_cons (n_dict T) pa_nil))))) (pw_or1 (pt_cmpR (op_eqE hr.units0) (pv 0) pe_dnewK (nomark _))))) (pss_one (ps_ret pe_bl)) pss_nil)
      (pss_one (ps_ret (pe_cmpR (op_eqN hr.units) (pe_lock (pe_lc (own := [("_law_one", 1)]) (g := gName 1) rfl nd (pi_keys (pv 0)) (blkOk_by (own := [("_law_one", 1)]) (N := ["_law_pages", "_law_one"]) (sc := defScope s__law_can_bend) (by decide +kernel)) (fun _ _ _ _ _ => (pg_name (i := 1) nd rfl (by first | exact Or.inl rfl | exact Or.inr rfl))) (fun _ _ _ _ _ => (pts_one (pt_not (pt_val (pe_d D__law_is_word (hr.mono (by decide)) pass0 (pa_cons (pv 1) pa_nil)))))) (fun _ _ _ _ _ => (pv 1)))) (pe_lst pa_nil) (nomark _)))), ?_⟩
    refine ⟨_, rfl, gv, .ty "dict", k.ty, _, _, rfl, .ty "dict", hv.1.tyx, hv.1.kDct, _, rfl, ?_⟩
    cases ek : k.isDct with
    | false =>
      have q := q H (Same.refl H)
      unfold canBend at q
      rw [ek] at q
      exact iteT' rfl q
    | true =>
      refine iteF' rfl ?_
      obtain ⟨d, kvs, rfl, hd, hP⟩ := hv.2 ek
      have hlen := All2.len hP
      have few := L.few
      refine ⟨_, rfl, fun p0 hp0 => ?_⟩
      have s0 := Evl.Ex.new (o := .dK []) hp0
      refine ⟨d, p0, kvs, rfl, rfl, s0 _ _ hd, upd_same, _, rfl, ?_⟩
      have ei : kvs.isEmpty = l.isEmpty := by
        cases kvs with
        | nil => cases hP; rfl
        | cons _ _ => cases hP; rfl
      rw [ei]
      generalize upd H p0 (.dK []) = H0 at s0
      cases el : l.isEmpty with
      | true =>
        have q := q H0 s0
        unfold canBend at q
        rw [ek, el] at q
        exact iteT' rfl q
      | false =>
        refine iteF' rfl ?_
        have hd0 := s0 _ _ hd
        refine ⟨d, _, hd0, trivial, fun od => ?_⟩
        refine ⟨_, rfl, d, od, rfl, .inl ⟨kvs, upd_same, fun D hD => ?_⟩⟩
        have nDd : D ≠ d := fun e => by rw [e, upd_same] at hD; cases hD
        refine lc_it walk_keys (PvL (upd H0 d (.frz od (.dK kvs))) D (fun i => kvs[i]?.bind fun p => if !isNameV (kV p.1) then some (kV p.1) else none)) (pv_0 hD) (fun i H2 _ p => p.1 _ _ upd_same) ?_ ?_
        · rintro i x H2 H3 hi p ⟨rfl, kk, vv, hx, rfl⟩
          have fin : ∀ H4, Same H3 H4 → if (!isNameV (kV kk)) = true then (∃ y, ([none, some (kV kk)] : L2.St)[1]? = some (some y) ∧ ∃ acc, H4 D = some (.lst acc) ∧ acc.length < sizeLine ∧ PvL (upd H0 d (.frz od (.dK kvs))) D (fun i => kvs[i]?.bind fun p => if !isNameV (kV p.1) then some (kV p.1) else none) (i + 1) (upd H4 D (.lst (acc ++ [y])))) else PvL (upd H0 d (.frz od (.dK kvs))) D (fun i => kvs[i]?.bind fun p => if !isNameV (kV p.1) then some (kV p.1) else none) (i + 1) H4 := fun H4 S4 => by
            have e0 : (kvs[i]?.bind fun p => if !isNameV (kV p.1) then some (kV p.1) else none) = if !isNameV (kV kk) then some (kV kk) else none := by rw [hx]; rfl
            refine ite2 (fun z => ?_) (fun z => ?_)
            · exact ⟨_, rfl, pv_in p S4 (by rw [e0, if_pos z]) (by omega)⟩
            · exact pv_out p S4 (by rw [e0, if_neg z])
          refine ⟨rfl, _, rfl, kV kk, ?_⟩
          cases kk with
          | inl z => exact ⟨.int, rfl, .int z, fun _ e => (by cases e), fun H4 S4 => ⟨_, rfl, fin H4 S4⟩⟩
          | inr z => exact ⟨.str, rfl, .str z, fun y e => (by cases e; exact Nat.le_trans (L.kl z (by rw [← pgs_keys hP]; exact List.mem_map.mpr ⟨_, at_mem hx, rfl⟩)) (by decide)), fun H4 S4 => ⟨_, rfl, fin H4 S4⟩⟩
        · intro H2 p
          have p3 := p.2.2
          have S2 : Same H0 (upd H2 d (.dK kvs)) := lock_same hd0 p.1
          have p4 : upd H2 d (.dK kvs) D = _ := (upd_ne nDd).trans p3
          have ee : ((List.range kvs.length).filterMap fun i => kvs[i]?.bind fun p => if !isNameV (kV p.1) then some (kV p.1) else none).isEmpty = keysN l := by
            have e2 : keysN l = (l.map (·.1)).all fun k => isNameV (kV k) := by unfold keysN; simp [List.all_map, Function.comp_def]
            rw [e2, ← pgs_keys hP, Bool.eq_iff_iff, List.isEmpty_iff, List.filterMap_eq_nil_iff, List.all_eq_true]
            constructor
            · intro h k hk
              obtain ⟨p, hp, rfl⟩ := List.mem_map.mp hk
              obtain ⟨i, hi⟩ := List.mem_iff_getElem?.mp hp
              have := h i (List.mem_range.mpr (List.getElem?_eq_some_iff.mp hi).1)
              rw [hi] at this
              cases e : isNameV (kV p.1) with
              | true => rfl
              | false =>
                have h3 : (if (!isNameV (kV p.1)) = true then some (kV p.1) else none) = none := this
                rw [e] at h3
                cases h3
            · intro h i hi
              rw [List.mem_range] at hi
              rw [List.getElem?_eq_getElem hi]
              show (if (!isNameV (kV (kvs[i]).1)) = true then some (kV (kvs[i]).1) else none) = none
              rw [h _ (List.mem_map.mpr ⟨_, List.getElem_mem hi, rfl⟩)]
              rfl
          refine ⟨p.1 _ _ upd_same, (by show 0 ≤ sizeLine; decide), fun p2 hp2 => ?_⟩
          have s4 := Evl.Ex.new (o := .lst []) hp2
          refine ⟨D, p2, _, rfl, rfl, SqL.of (s4 _ _ p4), SqL.of upd_same, ?_⟩
          rw [ee]
          have q := q _ ((s0.trans S2).trans s4)
          unfold canBend at q
          rw [ek, el] at q
          exact q
theorem ok__law_handed {f CF CE e1 e2 : Addr} {fd : FuncData} (F : Fun K "_law_handed" "_law_handed" s__law_handed f fd) (T : Bi mg) (Z_File : FileMk P w K mg base CF CE e1 e2) (kF_str : PySem.W.kitOne K (.type "str") (.ref CF) = some false) : FnOk P w K mg base CX0 5 f fd ["_law_pages"] (spHanded K CF) := by
  refine F.ok sc__law_handed (fun vs H Q E h => ?_) (fun cdv A outer s H vs Q E hr h => ?_)
  · obtain ⟨gv, k, l, j, rfl, _⟩ := h
    rfl
  · obtain ⟨gv, k, l, j, rfl, hv, L, j2, q⟩ := h
    have hu := hu_of hr
    have nd := sc__law_handed.nd
    refine ⟨_, pss_cons (ps_if (pt_not (pt_val (pe_callB call_isi (by rfl) T.isinstance (by decide +kernel) (pa_cons (pv 0) (pa_cons (n_dict T) pa_nil))))) (pss_one (ps_ret (pv 0))) pss_nil)
      (pss_cons (ps_set (i := 1) nd rfl (by first | exact Or.inl rfl | exact Or.inr rfl) pe_dnewK)
      (pss_cons (ps_lock (ps_for PassesOwn.never rfl (pi_keys (pv 0)) (pg_name (i := 2) nd rfl (by first | exact Or.inl rfl | exact Or.inr rfl)) (pss_cons (ps_set (i := 3) nd rfl (by first | exact Or.inl rfl | exact Or.inr rfl) (pe_dget hu (pv 0) (pv 2) (fun _ _ => rfl)))
      (pss_cons (ps_dput hu (pv 1) (pv 2) pe_str rfl)
      (pss_one (ps_if (pt_cmpR op_notN (pv 3) pe_non (nomark _)) (pss_one (ps_dput hu (pv 1) (pv 2) (mk_File Z_File 3 (by decide) (hr.mono (by decide)) passL (pa_cons (pe_ix ix_tup (pv 3) pe_int (fun _ _ => rfl)) (pa_cons (pe_ix ix_tup (pv 3) pe_int (fun _ _ => rfl)) (pa_cons (pe_ix ix_tup (pv 3) pe_int (fun _ _ => rfl)) (pa_cons (pe_ix ix_tup (pv 3) pe_int (fun _ _ => rfl)) pa_nil))))) rfl)) pss_nil))))))
      (pss_one (ps_ret (pv 1))))), ?_⟩
    refine ⟨_, rfl, gv, .ty "dict", k.ty, _, _, rfl, .ty "dict", hv.1.tyx, hv.1.kDct, _, rfl, ?_⟩
    cases ek : k.isDct with
    | false => exact iteT' rfl ⟨_, rfl, q gv H (Same.refl H) ⟨hv.1, fun z => by rw [ek] at z; cases z⟩⟩
    | true =>
      refine iteF' rfl ?_
      obtain rfl : k = .dct := by cases k <;> first | rfl | cases ek
      obtain ⟨d, kvs, rfl, hd, hP⟩ := hv.2 ek
      have hlen := All2.len hP
      have few := L.few
      intro M hM
      have ndM : d ≠ M := fun z => by rw [z, hM] at hd; cases hd
      refine ⟨d, _, Evl.Ex.new hM _ _ hd, trivial, fun od => ?_⟩
      refine ⟨_, rfl, d, od, rfl, .inl ⟨kvs, upd_same, ?_⟩⟩
      have hdF : upd H d (.frz od (.dK kvs)) d = some (.frz od (.dK kvs)) := upd_same
      have hPL := pgs_putD hP (p := d) (ob := .frz od (.dK kvs)) hd
      have SB : Same (upd H d (.frz od (.dK kvs))) (del (upd (upd H M (.dK [])) d (.frz od (.dK kvs))) M) := fun b u e => by
        have nb : b ≠ M := fun z => by rw [z, upd_ne (Ne.symm ndM), hM] at e; cases e
        rw [del_ne nb]
        by_cases hb : b = d
        · rw [hb, upd_same] at e ⊢
          exact e
        · rw [upd_ne hb] at e ⊢
          rw [upd_ne nb]
          exact e
      have bM : upd (upd H M (.dK [])) d (.frz od (.dK kvs)) M = some (.dK []) := by rw [upd_ne (Ne.symm ndM), upd_same]
      have kvn : (kvs.map (·.1)).Nodup := by rw [pgs_keys hP]; exact L.nd
      refine for_it walk_keys (fun i σ Hi => Same (upd H d (.frz od (.dK kvs))) (del Hi M) ∧ ∃ (kw : List (Key × V)) (v2 v3 : Option V), σ = [some (.ref d), some (.ref M), v2, v3] ∧ Hi M = some (.dK kw) ∧ HvR K CF (del Hi M) kw (l.take i))
        ⟨SB, [], _, _, rfl, bM, .nil⟩ (fun i σ Hi _ h => del_sub _ _ (h.1 _ _ hdF)) ?_ ?_
      · rintro i x σ Hi H3 hi ⟨S2, kw, v2, v3, rfl, b1, hV⟩ ⟨rfl, kk, vv, hx, rfl⟩
        obtain ⟨⟨qk, o⟩, hq, eqk, hPo⟩ := All2.at hPL hx
        cases (show kk = qk from eqk)
        have dg : DGet H3 d (kV kk) (some vv) := by
          have := DGet.fz (k := kk) (del_sub _ _ (S2 _ _ hdF))
          rw [valV_at kvn hx] at this
          exact this
        have kwk := hv_keys hV
        have kwl : kw.length ≤ 26 := by
          have e2 := congrArg List.length kwk
          rw [List.length_map, List.length_map, List.length_take] at e2
          omega
        have fr : kk ∉ kw.map (·.1) := by
          rw [kwk, List.map_take]
          exact take_notK L.nd (by rw [List.getElem?_map, hq]; rfl)
        have el : l.take (i + 1) = l.take i ++ [(kk, o)] := take_at hq
        refine ⟨_, rfl, _, rfl, d, _, rfl, dg, ?_⟩
        refine ⟨_, rfl, _, rfl, M, _, rfl, DPut.k (k := kk) b1 (by rw [sizeLine_eq]; omega), ?_⟩
        rw [putK_fresh fr]
        have dM : del (upd H3 M (.dK (kw ++ [(kk, .str "no file")]))) M = del H3 M := del_upd
        have b2 : upd H3 M (.dK (kw ++ [(kk, .str "no file")])) M = some (.dK (kw ++ [(kk, .str "no file")])) := upd_same
        generalize upd H3 M (.dK (kw ++ [(kk, .str "no file")])) = H4 at dM b2
        refine ⟨_, rfl, rfl, _, rfl, ?_⟩
        cases o with
        | none =>
          cases (show vv = .non from hPo)
          refine iteF' rfl ⟨by rw [dM]; exact S2, _, _, _, rfl, b2, ?_⟩
          rw [dM, el]
          exact All2.snoc hV ⟨rfl, rfl⟩
        | some fl =>
          obtain ⟨t, r, kp, rfl, t1, t2, t3⟩ := hPo
          have s4 : ∀ {b : Addr} {u : HO}, upd H d (.frz od (.dK kvs)) b = some u → H4 b = some u := fun e => del_sub _ _ (by rw [dM]; exact S2 _ _ e)
          have c1 := s4 t1
          have c2 := s4 t2
          have c3 := s4 t3
          have fok := (L.fok _ _ (List.mem_of_getElem? hq)).1
          refine iteT' rfl ?_
          refine ⟨_, rfl, t, _, 0, _, rfl, rfl, SqT.of c1, atI_nat (j := 0) rfl, ?_⟩
          refine ⟨_, rfl, t, _, 1, _, rfl, rfl, SqT.of c1, atI_nat (j := 1) rfl, ?_⟩
          refine ⟨_, rfl, t, _, 2, _, rfl, rfl, SqT.of c1, atI_nat (j := 2) rfl, ?_⟩
          refine ⟨_, rfl, t, _, 3, _, rfl, rfl, SqT.of c1, atI_nat (j := 3) rfl, ?_⟩
          intro x dx hx0 hdx hn
          refine spFile_mk fok (List.Perm.refl _) (SqK.tup c2) (SqK.tup c3) hx0 hdx hn fun H5 S5 hA => ⟨rfl, ?_⟩
          have b5 := S5 _ _ b2
          refine ⟨_, rfl, _, rfl, M, _, rfl, DPut.k (k := kk) b5 (by rw [List.length_append, sizeLine_eq]; show kw.length + 1 < _; omega), ?_⟩
          rw [putK_last fr]
          have dM5 : Same (del H3 M) (del H5 M) := by rw [← dM]; exact del_mono S5
          refine ⟨by rw [del_upd]; exact S2.trans dM5, _, _, _, rfl, upd_same, ?_⟩
          rw [del_upd, el]
          exact All2.snoc (hv_same hV dM5) ⟨rfl, fileAt_holeD hA b5, fok⟩
      · rintro σ Hi ⟨S2, kw, v2, v3, rfl, b1, hV⟩
        rw [hlen, List.take_of_length_le (Nat.le_refl _)] at hV
        refine ⟨del_sub _ _ (S2 _ _ hdF), _, rfl, ?_⟩
        have nM : M ≠ d := Ne.symm ndM
        refine q (.ref M) _ ?_ ⟨.dct (kvs := kw) (by rw [upd_ne nM]; exact b1), fun _ => ⟨M, kw, rfl, by rw [upd_ne nM]; exact b1, ?_, L.nd, fun n hn => Nat.le_trans (L.kl n hn) (by decide)⟩⟩
        · intro b u e
          by_cases hb : b = d
          · rw [hb] at e ⊢
            rw [upd_same]
            rw [hd] at e
            exact e
          · rw [upd_ne hb]
            exact del_sub _ _ (S2 _ _ (by rw [upd_ne hb]; exact e))
        · exact hv_vals (hv_unlk (o := .dK kvs) (hv_same hV del_sub) (del_sub _ _ (S2 _ _ hdF))) kF_str
end
end WP
namespace WP
open PySem L2
def oddL : List PyData := [.none, (.bool true), (.int 0), (.str ""), (.str "Page"), (.str "abcdefghi"), (.tuple []), (.list []), (.dict []), (.tuple [(.str "a")]), (.list [(.str "a")]), (.str "own"), (.int (10 ^ (Int.toNat 30)))]
theorem oddL_sh : ∀ e ∈ oddL, shOk e = true := by
  have : oddL.all shOk = true := by decide +kernel
  exact List.all_eq_true.mp this
theorem oddL_nm : ∀ e ∈ oddL, ∀ z, e = .str z → z.length ≤ 100 ∧ PyData.strOk z = true := by
  have : (oddL.all fun e => match e with | .str z => decide (z.length ≤ 100) && PyData.strOk z | _ => true) = true := by decide +kernel
  intro e he z ez
  have := List.all_eq_true.mp this e he
  subst ez
  simpa [and_assoc] using this
section
variable {P : Program} {w : World} {K : PySem.W.Frag} {mg : Str → Option Value} {base : Heap}
theorem ok__law_oddD {f : Addr} {fd : FuncData} (F : Fun K "_law_odd" "_law_odd" s__law_odd f fd) (T : Bi mg) (D__law_pick : Dn P w K mg base CX0 3 "_law_pick" ["_law_draw", "_law_some"] (spPick K)) : FnOk P w K mg base CX0 4 f fd ["_law_draw"] (spOddD oddL) := by
  refine F.ok sc__law_odd (fun vs H Q E h => ?_) (fun cdv A outer s H vs Q E hr h => ?_)
  · obtain ⟨d, w, c, B, rfl, _⟩ := h
    rfl
  · obtain ⟨d, w, c, B, rfl, D, hB, q⟩ := h
    have hu := hu_of hr
    have nd := sc__law_odd.nd
    refine ⟨_, pss_cons (ps_set (i := 1) nd rfl (by first | exact Or.inl rfl | exact Or.inr rfl) (pe_lst (pa_cons pe_non (pa_cons pe_bl (pa_cons pe_int (pa_cons pe_str (pa_cons pe_str (pa_cons pe_str (pa_cons (pe_tup pa_nil) (pa_cons (pe_lst pa_nil) (pa_cons pe_dnewK (pa_cons (pe_tup (pa_cons pe_str pa_nil)) (pa_cons (pe_lst (pa_cons pe_str pa_nil)) (pa_cons pe_str (pa_cons (pe_op op_pow pe_int pe_int) pa_nil)))))))))))))))
      (pss_one (ps_ret (pe_d D__law_pick (hr.mono (by decide)) pass0 (pa_cons (pv 0) (pa_cons (pv 1) pa_nil))))), ?_⟩
    have O : Vs d w c B H H [] [] := .start D
    have O := O.n
    have O := O.b true
    have O := O.i 0
    have O := O.s ""
    have O := O.s "Page"
    have O := O.s "abcdefghi"
    refine ⟨(by show 0 ≤ sizeLine; decide), fun p1 h1 => ?_⟩
    have O := O.t0 h1
    refine ⟨(by show 0 ≤ sizeLine; decide), fun p2 h2 => ?_⟩
    have O := O.l0 h2
    refine fun p3 h3 => ?_
    have O := O.d0 h3
    have O := O.s "a"
    refine ⟨(by show 1 ≤ sizeLine; decide), fun p4 h4 => ?_⟩
    have O := O.t1 h4
    have O := O.s "a"
    refine ⟨(by show 1 ≤ sizeLine; decide), fun p5 h5 => ?_⟩
    have O := O.l1 h5
    have O := O.s "own"
    refine ⟨_, _, rfl, rfl, ⟨by decide, by decide, by decide⟩, ?_⟩
    have O := O.i (10 ^ (Int.toNat 30))
    refine ⟨(by show 13 ≤ sizeLine; decide), fun pL hL => ?_⟩
    obtain ⟨O, L⟩ := O.own hL
    refine ⟨_, rfl, _, rfl, ?_⟩
    refine ⟨d, w, c, B, O.ds.dr, by omega, .inl ⟨pL, _, rfl, SqL.of L, (by intro e; cases e), ?_, fun k v H' hk D' S' => ?_⟩⟩
    · show 13 < 2 ^ 60
      decide
    · obtain ⟨e, he, hv⟩ := O.al.at hk
      exact q v e H' (List.mem_of_getElem? he) (hv.same S') ⟨D', O.ds.fr.trans S'⟩
end
end WP
namespace WP
open PySem L2
section
variable {P : Program} {w : World} {K : PySem.W.Frag} {mg : Str → Option Value} {base : Heap}
theorem ok__law_bent_entries {f : Addr} {fd : FuncData} (F : Fun K "_law_bent_entries" "_law_bent_entries" s__law_bent_entries f fd) (T : Bi mg) (D__law_take : Dn P w K mg base CX0 2 "_law_take" ["_law_draw", "_law_size"] spTake) (D__law_pick : Dn P w K mg base CX0 3 "_law_pick" ["_law_draw", "_law_some"] (spPick K)) (D__law_odd : Dn P w K mg base CX0 4 "_law_odd" ["_law_draw"] (spOddD oddL)) : FnOk P w K mg base CX0 5 f fd ["_law_draw", "_law_pages", "_law_doors"] spBentD := by
  refine F.ok sc__law_bent_entries (fun vs H Q E h => ?_) (fun cdv A outer s H vs Q E hr h => ?_)
  · obtain ⟨d, w, c, pd, L, B, kvs, ns, es, n, rfl, _⟩ := h
    rfl
  · obtain ⟨d, w, c, pd, L, B, kvs, ns, es, nn, rfl, D, hB, hd, kk, nne, n8, nnam, hL, de, n10, q⟩ := h
    have hu := hu_of hr
    have nd := sc__law_bent_entries.nd
    refine ⟨_, pss_cons (ps_par (i := 3) (j := 4) (by rfl) nd rfl rfl (by decide) rfl rfl (pa_cons (pe_d D__law_take (hr.mono (by decide)) pass0 (pa_cons (pv 0) (pa_cons (pe_op op_add (pe_callB call_len (by rfl) T.len (by decide +kernel) (pa_cons (pv 2) pa_nil)) pe_int) pa_nil))) (pa_cons (pe_d D__law_pick (hr.mono (by decide)) pass0 (pa_cons (pv 0) (pa_cons (pe_callB (call_sortedD rfl) (by rfl) T.sorted (by decide +kernel) (pa_cons (pv 1) pa_nil)) pa_nil))) pa_nil)) (by rfl))
      (pss_cons (ps_set (i := 5) nd rfl (by first | exact Or.inl rfl | exact Or.inr rfl) (pe_d D__law_take (hr.mono (by decide)) pass0 (pa_cons (pv 0) (pa_cons pe_int pa_nil))))
      (pss_cons (ps_if (pt_cmpR op_eq (pv 5) pe_int (nomark _)) (pss_one (ps_ret (pe_d D__law_pick (hr.mono (by decide)) pass0 (pa_cons (pv 0) (pa_cons (pe_lst (pa_cons pe_non (pa_cons pe_int (pa_cons pe_dnewK (pa_cons pe_str (pa_cons (pe_lst pa_nil) (pa_cons (pe_tup pa_nil) (pa_cons (pv 4) (pa_cons (pe_disp (pps_cons (pv 4) pe_int pps_nil) (by rfl) (by rfl) (fun z => by cases z) (by decide)) pa_nil))))))))) pa_nil))))) pss_nil)
      (pss_cons (ps_if (pt_cmpR op_eq (pv 5) pe_int (nomark _)) (pss_one (ps_ret (pe_op op_cat (pe_op op_cat (pe_slice sl_list (pv 2) po_none (po_some (pv 3))) (pe_lst (pa_cons (pe_d D__law_odd (hr.mono (by decide)) pass0 (pa_cons (pv 0) pa_nil)) pa_nil))) (pe_slice sl_list (pv 2) (po_some (pv 3)) po_none)))) pss_nil)
      (pss_one (ps_ret (pe_op op_cat (pe_op op_cat (pe_slice sl_list (pv 2) po_none (po_some (pv 3))) (pe_lst (pa_cons (pv 4) pa_nil))) (pe_slice sl_list (pv 2) (po_some (pv 3)) po_none))))))), ?_⟩
    cases hL with
    | @lst _ xs _ hL al =>
    obtain ⟨el, eit⟩ := de.it es rfl
    have xl := al.len
    have X0 : Ds d w c B H H := ⟨D, Same.refl _⟩
    refine ⟨_, rfl, _, rfl, _, _, rfl, .inl ⟨_, SqL.of (hd2_of hL).1, rfl⟩, _, _, rfl, rfl, d, w, c, _, _, rfl, X0.dr, by omega, by omega, by omega, fun at_ H1 a0 a1 D1 S1 => ?_⟩
    have X1 := X0.draw D1 S1
    obtain ⟨i, rfl⟩ : ∃ i : Nat, at_ = (i : Int) := ⟨at_.toNat, by omega⟩
    refine ⟨_, rfl, _, rfl, pd, kvs, ns, rfl, .inl (hd2_of (X1.fr _ _ hd)).1, kk, by omega, fun ys N hp hso hN => ?_⟩
    have X2 := X1.new (o := .lst (ys.map V.str)) hN
    have bN := X1.at (o := .lst (ys.map V.str)) hN
    generalize upd H1 N (.lst (ys.map V.str)) = H2 at X2 bN
    have ysne : ys.map V.str ≠ [] := fun z => by
      have := List.map_eq_nil_iff.mp z
      rw [this] at hp
      exact nne hp.nil_eq.symm
    have yl : ys.length ≤ 8 := by rw [hp.length_eq]; exact n8
    refine ⟨d, w, c, _, X2.dr, by omega, .inl ⟨N, _, rfl, SqL.of bN, ysne, (by rw [List.length_map]; exact Nat.lt_of_le_of_lt yl (by decide)), fun k1 v1 H3 hk1 D3 S3 => ?_⟩⟩
    obtain ⟨n, hn, rfl⟩ := at_map hk1
    have X3 := X2.draw D3 S3
    have nk := nnam n (hp.subset (List.mem_of_getElem? hn))
    refine ⟨_, _, rfl, ?_⟩
    refine ⟨_, rfl, d, w, c, _, 4, rfl, X3.dr, by omega, by decide, by decide, fun way H4 w0 w4 D4 S4 => ?_⟩
    have X4 := X3.draw D4 S4
    clear X0 X1 X2 X3 D1 S1 D3 S3 D4 S4 hN hk1 bN
    refine ⟨_, rfl, rfl, _, rfl, ?_⟩
    refine ite2 (fun _ => ?_) (fun _ => ?_)
    · have O : Vs d w c _ H H4 [] [] := .of X4
      have O := (O.n).i 5
      refine ⟨_, rfl, fun p1 hp1 => ?_⟩
      have O := O.d0 hp1
      have O := O.s "entries"
      refine ⟨(by show 0 ≤ sizeLine; decide), fun p2 hp2 => ?_⟩
      have O := O.l0 hp2
      refine ⟨(by show 0 ≤ sizeLine; decide), fun p3 hp3 => ?_⟩
      have O := O.t0 hp3
      have O := O.s n
      refine ⟨_, rfl, fun p4 hp4 => ⟨_, rfl, upd_same, [(.inr n, .int 1)], rfl, (by show 1 ≤ 15; decide), ?_⟩⟩
      rw [upd2, merge1]
      have O := (O.i 1).d1 (k := n) hp4
      refine ⟨(by show 8 ≤ sizeLine; decide), fun pL hpL => ?_⟩
      obtain ⟨O, bL⟩ := O.own hpL
      refine ⟨d, w, c, _, O.ds.dr, by omega, .inl ⟨pL, _, rfl, SqL.of bL, (by intro e; cases e), (by show 8 < 2 ^ 60; decide), fun kq vq H6 hkq D6 S6 => ?_⟩⟩
      obtain ⟨e', he, hv'⟩ := O.al.at hkq
      exact q vq e' H6 (hv'.same S6) (oddE_ok nk e' (List.mem_of_getElem? he)) ((O.ds.draw D6 S6).mono (by omega))
    have cutd : cutV xs (some ((i : Nat) : Int)) none = xs.drop i := cut_from xs i
    have il : i ≤ es.length := by omega
    have fin : ∀ {B' : Int} {H' : Hp} {p : Addr} {v : V} {e : PyData}, Ds d w c B' H H' → B' ≤ B + 8 → hd2 d w H' p = some (.lst (xs.take i ++ [v] ++ xs.drop i)) → VdAll (hd2 d w H') xs es → Vd (hd2 d w H') v e → (Rg e 4 200 ∧ ∀ z, e = .str z → z.length ≤ 100) → Q (.ref p) H' := fun {B' H' p v e} X hb h al hv he =>
      q _ _ H' (.lst h (((al.take i).app (.one hv)).app (al.drop i))) (DoorE.list (by
        rw [List.length_append, List.length_append, List.length_take, List.length_drop, List.length_singleton]
        omega) (by omega) fun g hg => by
          rcases List.mem_append.mp hg with h | h
          · rcases List.mem_append.mp h with h | h
            · exact eit g (List.mem_of_mem_take h)
            · rw [List.mem_singleton.mp h]
              exact he
          · exact eit g (List.mem_of_mem_drop h)) (X.mono hb)
    refine ⟨_, rfl, rfl, _, rfl, ?_⟩
    refine ite2 (fun _ => ?_) (fun _ => ?_)
    · refine ⟨_, rfl, noPart ⟨_, rfl, _, rfl, L, xs, rfl, SqL.of (hd2_of (X4.fr _ _ hL)).1, fun p5 hp5 => ?_⟩⟩
      rw [cut_toN]
      have X5 := X4.new (o := .lst (xs.take i)) hp5
      have c5 := X4.at (o := .lst (xs.take i)) hp5
      generalize upd H4 p5 (.lst (xs.take i)) = H5 at X5 c5
      refine ⟨_, rfl, d, w, c, _, rfl, X5.dr, by omega, fun v e H6 he hv X6' => ?_⟩
      have X6 := X5.draw X6'.dr X6'.fr
      have c5 := X6'.fr _ _ c5
      have hve : Rg e 4 200 ∧ ∀ z, e = .str z → z.length ≤ 100 := ⟨shOk.rg (oddL_sh e he), fun z ez => (oddL_nm e he z ez).1⟩
      refine ⟨(by show 1 ≤ sizeLine; decide), fun p6 hp6 => ?_⟩
      have X7 := X6.new (o := .lst [v]) hp6
      have c6 := X6.at (o := .lst [v]) hp6
      have s7 := hd2_new (d := d) (w := w) (o := .lst [v]) hp6
      have c5 := s7 _ _ c5
      have hv := hv.same s7
      generalize upd H6 p6 (.lst [v]) = H7 at X7 c6 c5 hv
      refine ⟨p5, p6, _, _, rfl, rfl, (hd2_of c5).1, (hd2_of c6).1, (by rw [List.length_take, sizeLine_eq]; show _ + 1 ≤ _; omega), fun p7 hp7 => ?_⟩
      have X8 := X7.new (o := .lst (xs.take i ++ [v])) hp7
      have c7 := X7.at (o := .lst (xs.take i ++ [v])) hp7
      have hv := hv.same (hd2_new (d := d) (w := w) (o := .lst (xs.take i ++ [v])) hp7)
      generalize upd H7 p7 (.lst (xs.take i ++ [v])) = H8 at X8 c7 hv
      refine ⟨_, rfl, _, rfl, _, rfl, noPart ⟨L, xs, rfl, SqL.of (hd2_of (X8.fr _ _ hL)).1, fun p8 hp8 => ?_⟩⟩
      rw [cutd]
      have X9 := X8.new (o := .lst (xs.drop i)) hp8
      have c8 := X8.at (o := .lst (xs.drop i)) hp8
      have s9 := hd2_new (d := d) (w := w) (o := .lst (xs.drop i)) hp8
      have c7 := s9 _ _ c7
      have hv := hv.same s9
      generalize upd H8 p8 (.lst (xs.drop i)) = H9 at X9 c8 c7 hv
      refine ⟨p7, p8, _, _, rfl, rfl, (hd2_of c7).1, (hd2_of c8).1, (by rw [List.length_append, List.length_take, List.length_drop, sizeLine_eq]; show _ + 1 + _ ≤ _; omega), fun p9 hp9 => ?_⟩
      have Xa := X9.new (o := .lst (xs.take i ++ [v] ++ xs.drop i)) hp9
      exact fin Xa (by omega) (X9.at (o := .lst (xs.take i ++ [v] ++ xs.drop i)) hp9) (al.same Xa.fr) (hv.same (hd2_new (d := d) (w := w) hp9)) hve
    · refine ⟨_, rfl, noPart ⟨_, rfl, _, rfl, L, xs, rfl, SqL.of (hd2_of (X4.fr _ _ hL)).1, fun p5 hp5 => ?_⟩⟩
      rw [cut_toN]
      have X5 := X4.new (o := .lst (xs.take i)) hp5
      have c5 := X4.at (o := .lst (xs.take i)) hp5
      generalize upd H4 p5 (.lst (xs.take i)) = H5 at X5 c5
      have hv : Vd (hd2 d w H5) (.str n) (.str n) := .str n
      have hve : Rg (.str n) 4 200 ∧ ∀ z, PyData.str n = .str z → z.length ≤ 100 := ⟨((rp_str (n := 8) (name_ok nk).2.2 (name_ok nk).2.1).mono (by omega) (by omega)).rg, fun z e => by cases e; exact Nat.le_trans (name_ok nk).2.1 (by decide)⟩
      refine ⟨_, rfl, (by show 1 ≤ sizeLine; decide), fun p6 hp6 => ?_⟩
      have X7 := X5.new (o := .lst [.str n]) hp6
      have c6 := X5.at (o := .lst [.str n]) hp6
      have s7 := hd2_new (d := d) (w := w) (o := .lst [.str n]) hp6
      have c5 := s7 _ _ c5
      have hv := hv.same s7
      generalize upd H5 p6 (.lst [.str n]) = H7 at X7 c6 c5 hv
      refine ⟨p5, p6, _, _, rfl, rfl, (hd2_of c5).1, (hd2_of c6).1, (by rw [List.length_take, sizeLine_eq]; show _ + 1 ≤ _; omega), fun p7 hp7 => ?_⟩
      have X8 := X7.new (o := .lst (xs.take i ++ [.str n])) hp7
      have c7 := X7.at (o := .lst (xs.take i ++ [.str n])) hp7
      have hv := hv.same (hd2_new (d := d) (w := w) (o := .lst (xs.take i ++ [.str n])) hp7)
      generalize upd H7 p7 (.lst (xs.take i ++ [.str n])) = H8 at X8 c7 hv
      refine ⟨_, rfl, _, rfl, _, rfl, noPart ⟨L, xs, rfl, SqL.of (hd2_of (X8.fr _ _ hL)).1, fun p8 hp8 => ?_⟩⟩
      rw [cutd]
      have X9 := X8.new (o := .lst (xs.drop i)) hp8
      have c8 := X8.at (o := .lst (xs.drop i)) hp8
      have s9 := hd2_new (d := d) (w := w) (o := .lst (xs.drop i)) hp8
      have c7 := s9 _ _ c7
      have hv := hv.same s9
      generalize upd H8 p8 (.lst (xs.drop i)) = H9 at X9 c8 c7 hv
      refine ⟨p7, p8, _, _, rfl, rfl, (hd2_of c7).1, (hd2_of c8).1, (by rw [List.length_append, List.length_take, List.length_drop, sizeLine_eq]; show _ + 1 + _ ≤ _; omega), fun p9 hp9 => ?_⟩
      have Xa := X9.new (o := .lst (xs.take i ++ [.str n] ++ xs.drop i)) hp9
      exact fin Xa (by omega) (X9.at (o := .lst (xs.take i ++ [.str n] ++ xs.drop i)) hp9) (al.same Xa.fr) (hv.same (hd2_new (d := d) (w := w) hp9)) hve
end
end WP
namespace WP
open PySem L2
section
variable {P : Program} {w : World} {K : PySem.W.Frag} {mg : Str → Option Value} {base : Heap}
theorem ok__law_bent_files {f : Addr} {fd : FuncData} (F : Fun K "_law_bent_files" "_law_bent_files" s__law_bent_files f fd) (T : Bi mg) (D__law_take : Dn P w K mg base CX0 2 "_law_take" ["_law_draw", "_law_size"] spTake) (D__law_pick : Dn P w K mg base CX0 3 "_law_pick" ["_law_draw", "_law_some"] (spPick K)) : FnOk P w K mg base CX0 4 f fd ["_law_draw", "_law_pages"] (spBentF K) := by
  refine F.ok sc__law_bent_files (fun vs H Q E h => ?_) (fun cdv A outer s H vs Q E hr h => ?_)
  · obtain ⟨d, w, c, pd, B, kvs, l, j, rfl, _⟩ := h
    rfl
  · obtain ⟨d, w, c, pd, B, kvs, l, j, rfl, D, hB, hd, hP, L, j1, kn, lne, q⟩ := h
    have hu := hu_of hr
    have nd := sc__law_bent_files.nd
    refine ⟨_, pss_cons (ps_par3 (i := 2) (j := 3) (l := 4) (by rfl) nd rfl rfl rfl (by decide) (by decide) (by decide) rfl rfl rfl (pa_cons (pe_callB (call_sortedD rfl) (by rfl) T.sorted (by decide +kernel) (pa_cons (pv 1) pa_nil)) (pa_cons (pe_callTy call_dictD (by rfl) T.dict (by decide +kernel) (pa_cons (pv 1) pa_nil)) (pa_cons (pe_d D__law_take (hr.mono (by decide)) pass0 (pa_cons (pv 0) (pa_cons pe_int pa_nil))) pa_nil))) (by rfl))
      (pss_cons (ps_par (i := 5) (j := 6) (by rfl) nd rfl rfl (by decide) rfl rfl (pa_cons (pe_d D__law_pick (hr.mono (by decide)) pass0 (pa_cons (pv 0) (pa_cons (pv 2) pa_nil))) (pa_cons (pe_d D__law_pick (hr.mono (by decide)) pass0 (pa_cons (pv 0) (pa_cons (pv 2) pa_nil))) pa_nil)) (by rfl))
      (pss_cons (ps_if (PW.pt (pw_or (pt_cmpR op_eq (pv 4) pe_int (nomark _)) (pw_or1 (pt_cmpR op_isN (pe_dget hu (pv 1) (pv 5) (fun _ _ => rfl)) pe_non (nomark _))))) (pss_one (ps_ret (pe_d D__law_pick (hr.mono (by decide)) pass0 (pa_cons (pv 0) (pa_cons (pe_lst (pa_cons pe_non (pa_cons pe_int (pa_cons (pe_lst pa_nil) (pa_cons pe_str (pa_cons pe_dnewK (pa_cons (pe_disp (pps_cons pe_str (pe_dget hu (pv 1) (pe_ix ix_list (pv 2) pe_int (fun _ _ => rfl)) (fun _ _ => rfl)) pps_nil) (by rfl) (by rfl) (fun z => by cases z) (by decide)) (pa_cons (pe_disp (pps_cons pe_int (pe_dget hu (pv 1) (pe_ix ix_list (pv 2) pe_int (fun _ _ => rfl)) (fun _ _ => rfl)) pps_nil) (by rfl) (by rfl) (fun z => by cases z) (by decide)) pa_nil)))))))) pa_nil))))) pss_nil)
      (pss_cons (ps_asg (pe_dget hu (pv 1) (pv 5) (fun _ _ => rfl)) (pg_tup rfl (pgs_cons (pg_name (i := 7) nd rfl (by first | exact Or.inl rfl | exact Or.inr rfl)) (pgs_cons (pg_name (i := 8) nd rfl (by first | exact Or.inl rfl | exact Or.inr rfl)) (pgs_cons (pg_name (i := 9) nd rfl (by first | exact Or.inl rfl | exact Or.inr rfl)) (pgs_cons (pg_name (i := 10) nd rfl (by first | exact Or.inl rfl | exact Or.inr rfl)) pgs_nil))))))
      (Evl.pss_cut (ps_if (PW.pt (pw_and (pt_cmpR op_lt (pv 4) pe_int (nomark _)) (pw_and1 (pt_cmpR op_notIn_seq (pv 6) (pv 8) (by rfl))))) (pss_one (ps_dput hu (pv 3) (pv 5) (pe_tup (pa_cons (pv 7) (pa_cons (pe_callTy call_tuple_of (by rfl) T.tuple (by decide +kernel) (pa_cons (pe_callB cr_sortedTT (by rfl) T.sorted (by decide +kernel) (pa_cons (pe_op op_catA (pv 8) (pe_tup (pa_cons (pv 6) pa_nil))) pa_nil)) pa_nil)) (pa_cons (pv 9) (pa_cons (pv 10) pa_nil))))) rfl)) (pss_one (ps_if (pt_cmpR op_eq (pv 4) pe_int (nomark _)) (pss_cons (ps_set (i := 11) nd rfl (by first | exact Or.inl rfl | exact Or.inr rfl) (pe_op op_cat (pe_lc (own := [("_law_below_here", 12)]) (g := gName 12) rfl nd (pi_tup (pv 8)) (blkOk_by (own := [("_law_below_here", 12)]) (N := ["_law_draw", "_law_pages", "_law_names", "_law_found", "_law_way", "_law_name", "_law_other", "_law_naming", "_law_refers", "_law_hold", "_law_keeps", "_law_more", "_law_below_here", "_law_size"]) (sc := defScope s__law_bent_files) (by decide +kernel)) (fun _ _ _ _ _ => (pg_name (i := 12) nd rfl (by first | exact Or.inl rfl | exact Or.inr rfl))) (fun _ _ _ _ _ => (pts_one (pt_cmpR op_ne (pv 12) pe_str (nomark _)))) (fun _ _ _ _ _ => (pv 12))) (pe_lst (pa_cons pe_str pa_nil))))
      (pss_one (ps_dput hu (pv 3) (pv 5) (pe_tup (pa_cons (pv 7) (pa_cons (pe_callTy call_tuple_of (by rfl) T.tuple (by decide +kernel) (pa_cons (pv 11) pa_nil)) (pa_cons (pv 9) (pa_cons (pv 10) pa_nil))))) rfl))) (pss_one (ps_if (pt_cmpR op_eq (pv 4) pe_int (nomark _)) (pss_cons (ps_set (i := 11) nd rfl (by first | exact Or.inl rfl | exact Or.inr rfl) (pe_weak (pe_ifExp (pt_cmpR op_gt (pe_callB call_len (by rfl) T.len (by decide +kernel) (pa_cons (pv 10) pa_nil)) pe_int (nomark _)) (pe_slice sl_tupA (pv 10) (po_some pe_int) po_none) (pe_op op_catA (pv 10) (pe_tup (pa_cons pe_int pa_nil))))))
      (pss_one (ps_dput hu (pv 3) (pv 5) (pe_tup (pa_cons (pv 7) (pa_cons (pv 8) (pa_cons (pv 9) (pa_cons (pv 11) pa_nil))))) rfl))) (pss_one (ps_if (pt_cmpR op_eq (pv 4) pe_int (nomark _)) (pss_one (ps_dput hu (pv 3) (pv 5) pe_non rfl)) (pss_one (ps_if (pt_cmpR op_eq (pv 4) pe_int (nomark _)) (pss_one (ps_for PassesOwn.never rfl (pi_range1 (by rfl) T.range (pa_cons (pe_op op_add pe_int (pe_d D__law_take (hr.mono (by decide)) pass0 (pa_cons (pv 0) (pa_cons pe_int pa_nil)))) pa_nil)) (pg_name (i := 13) nd rfl (by first | exact Or.inl rfl | exact Or.inr rfl)) (pss_one (ps_dput hu (pv 3) (pe_op op_repS pe_str (pe_op op_add (pv 13) pe_int)) (pe_dget2 hu (pv 3) (pe_op op_repS pe_str (pe_op op_add (pv 13) pe_int)) (pe_tup (pa_cons pe_str (pa_cons (pe_tup pa_nil) (pa_cons pe_int (pa_cons (pv 10) pa_nil))))) ⟨rfl, rfl, rfl, rfl⟩) rfl)))) (pss_one (ps_dput hu (pv 3) (pe_d D__law_pick (hr.mono (by decide)) pass0 (pa_cons (pv 0) (pa_cons (pe_lst (pa_cons pe_str (pa_cons pe_str (pa_cons pe_str (pa_cons pe_str pa_nil))))) pa_nil))) (pe_dget hu (pv 1) (pv 5) (fun _ _ => rfl)) rfl)))))))))))
      (pss_one (ps_ret (pv 3))))))), ?_⟩
    obtain ⟨ns, ens, nnam⟩ := keysN_str kn
    have kk : kvs.map (·.1) = ns.map Sum.inr := (pgs_keys hP).trans ens
    have few := L.few
    have nl : ns.length ≤ 17 := by
      have := congrArg List.length ens
      rw [List.length_map, List.length_map] at this
      omega
    have nne : ns ≠ [] := fun z => by
      rw [z] at ens
      exact lne (List.map_eq_nil_iff.mp ens)
    have hlen := All2.len hP
    have X0 : Ds d w c B H H := ⟨D, Same.refl _⟩
    -- names, the copy, the way
    refine ⟨_, rfl, pd, kvs, ns, rfl, .inl (hd2_of hd).1, kk, by omega, fun ys N hp hso hN => ?_⟩
    have X1 := X0.new (o := .lst (ys.map V.str)) hN
    have bN := X0.at (o := .lst (ys.map V.str)) hN
    generalize upd H N (.lst (ys.map V.str)) = H1 at X1 bN
    refine ⟨_, rfl, pd, kvs, rfl, .inl (hd2_of (X1.fr _ _ hd)).1, fun M hM => ?_⟩
    have X2 := X1.new (o := .dK kvs) hM
    have bM := X1.at (o := .dK kvs) hM
    have bN := hd2_new (d := d) (w := w) (o := .dK kvs) hM _ _ bN
    obtain ⟨Md, Mw, Mc⟩ := X1.dr.off hM
    have zM : hd2 d w H M = none := by
      cases e : hd2 d w H M with
      | none => rfl
      | some u => have := (hd2_of (X1.fr _ _ e)).1; rw [hM] at this; cases this
    generalize upd H1 M (.dK kvs) = H2 at X2 bM bN
    refine ⟨_, rfl, d, w, c, _, 9, rfl, X2.dr, by omega, by decide, by decide, fun way H3 w0 w9 D3 S3 => ?_⟩
    have X3 := X2.draw D3 S3
    have bM := S3 _ _ bM
    have bN := S3 _ _ bN
    clear X0 X1 X2 D3 S3 hN hM
    -- two names
    have ysne : ys.map V.str ≠ [] := fun z => by
      have := List.map_eq_nil_iff.mp z
      rw [this] at hp
      exact nne hp.nil_eq.symm
    have yl : ys.length ≤ 17 := by rw [hp.length_eq]; exact nl
    refine ⟨_, _, _, rfl, _, rfl, _, rfl, d, w, c, _, X3.dr, by omega, .inl ⟨N, _, rfl, SqL.of bN, ysne, (by rw [List.length_map]; exact Nat.lt_of_le_of_lt yl (by decide)), fun k1 v1 H4 hk1 D4 S4 => ?_⟩⟩
    obtain ⟨n, hn, rfl⟩ := at_map hk1
    have X4 := X3.draw D4 S4
    have bM := S4 _ _ bM
    have bN := S4 _ _ bN
    refine ⟨_, rfl, _, rfl, d, w, c, _, X4.dr, by omega, .inl ⟨N, _, rfl, SqL.of bN, ysne, (by rw [List.length_map]; exact Nat.lt_of_le_of_lt yl (by decide)), fun k2 v2 H5 hk2 D5 S5 => ?_⟩⟩
    obtain ⟨m, hm, rfl⟩ := at_map hk2
    have X5 := X4.draw D5 S5
    have bM := S5 _ _ bM
    have bN := S5 _ _ bN
    clear X3 X4 D4 S4 D5 S5 hk1 hk2
    have nk : n ∈ ns := hp.subset (List.mem_of_getElem? hn)
    have mk : m ∈ ns := hp.subset (List.mem_of_getElem? hm)
    have got : ∀ {a : Str}, a ∈ ns → ∃ v o, valV kvs (.inr a) = some v ∧ (Sum.inr a, o) ∈ l ∧ PgO K (hd2 d w H) v o := fun {a} ha => by
      rcases pgs_get hP (.inr a) with ⟨z, _⟩ | ⟨v, o, h1, h2, h3⟩
      · exfalso
        have : (Sum.inr a : Key) ∈ kvs.map (·.1) := by rw [kk]; exact List.mem_map.mpr ⟨a, ha, rfl⟩
        obtain ⟨p, hp, e⟩ := List.mem_map.mp this
        have := (valV_any (κ := Key) (.inr a) kvs).symm.trans (List.any_eq_true.mpr ⟨p, hp, decide_eq_true e⟩)
        rw [z] at this
        cases this
      · exact ⟨v, o, h1, lkX_in h2, h3⟩
    have dgp : ∀ {a : Str} {v : V} {B' : Int} {H' : Hp}, Ds d w c B' H H' → valV kvs (.inr a) = some v → DGet H' pd (.str a) (some v) := fun {a v B' H'} X e => by
      have := DGet.k (k := .inr a) (hd2_of (X.fr _ _ hd)).1
      rw [e] at this
      exact this
    obtain ⟨v, o, ev, ol, pv0⟩ := got nk
    refine ⟨_, _, rfl, ?_⟩
    obtain ⟨y0, hy0⟩ : ∃ y0, ys[0]? = some y0 := by
      cases ys with
      | nil => exact absurd rfl ysne
      | cons a r => exact ⟨a, rfl⟩
    obtain ⟨u0, o0, eu0, ol0, pu0⟩ := got (hp.subset (List.mem_of_getElem? hy0))
    refine ⟨_, rfl, rfl, _, rfl, ?_⟩
    by_cases w0' : way = 0
    · subst w0'
      refine iteT' rfl ?_
      refine ⟨_, rfl, (by show 0 ≤ sizeLine; decide), fun p1 hp1 => ?_⟩
      have X6 := X5.new (o := .lst []) hp1
      have c1 := X5.at (o := .lst []) hp1
      have bN := hd2_new (d := d) (w := w) (o := .lst []) hp1 _ _ bN
      generalize upd H5 p1 (.lst []) = H6 at X6 c1 bN
      refine fun p2 hp2 => ?_
      have X7 := X6.new (o := .dK []) hp2
      have c2 := X6.at (o := .dK []) hp2
      have c1 := hd2_new (d := d) (w := w) (o := .dK []) hp2 _ _ c1
      have bN := hd2_new (d := d) (w := w) (o := .dK []) hp2 _ _ bN
      generalize upd H6 p2 (.dK []) = H7 at X7 c2 c1 bN
      refine fun p3 hp3 => ?_
      have Y := X7.new (o := .dK []) hp3
      have bN' := hd2_new (d := d) (w := w) (o := .dK []) hp3 _ _ bN
      refine ⟨_, rfl, _, rfl, N, _, 0, .str y0, rfl, rfl, SqL.of (hd2_of bN').1, atI_nat (j := 0) (by rw [List.getElem?_map, hy0]; rfl), pd, u0, rfl, dgp Y eu0, upd_same, [(.inr "Page", u0)], rfl, (by show 1 ≤ 15; decide), ?_⟩
      rw [upd2, merge1]
      have X8 := X7.new (o := .dK [(.inr "Page", u0)]) hp3
      have c3 := X7.at (o := .dK [(.inr "Page", u0)]) hp3
      have s8 := hd2_new (d := d) (w := w) (o := .dK [(.inr "Page", u0)]) hp3
      have c1 := s8 _ _ c1
      have c2 := s8 _ _ c2
      have bN := s8 _ _ bN
      generalize upd H7 p3 (.dK [(.inr "Page", u0)]) = H8 at X8 c3 c1 c2 bN
      refine fun p4 hp4 => ?_
      have Y := X8.new (o := .dK []) hp4
      have bN' := hd2_new (d := d) (w := w) (o := .dK []) hp4 _ _ bN
      refine ⟨_, rfl, _, rfl, N, _, 0, .str y0, rfl, rfl, SqL.of (hd2_of bN').1, atI_nat (j := 0) (by rw [List.getElem?_map, hy0]; rfl), pd, u0, rfl, dgp Y eu0, upd_same, [(.inl 5, u0)], rfl, (by show 1 ≤ 15; decide), ?_⟩
      rw [upd2, merge1]
      have X9 := X8.new (o := .dK [(.inl 5, u0)]) hp4
      have c4 := X8.at (o := .dK [(.inl 5, u0)]) hp4
      have s9 := hd2_new (d := d) (w := w) (o := .dK [(.inl 5, u0)]) hp4
      have c1 := s9 _ _ c1
      have c2 := s9 _ _ c2
      have c3 := s9 _ _ c3
      generalize upd H8 p4 (.dK [(.inl 5, u0)]) = H9 at X9 c4 c1 c2 c3
      refine ⟨(by show 7 ≤ sizeLine; decide), fun pL hpL => ?_⟩
      have Xa := X9.new (o := .lst [.non, .int 5, .ref p1, .str "files", .ref p2, .ref p3, .ref p4]) hpL
      have cL := X9.at (o := .lst [.non, .int 5, .ref p1, .str "files", .ref p2, .ref p3, .ref p4]) hpL
      have sa := hd2_new (d := d) (w := w) (o := .lst [.non, .int 5, .ref p1, .str "files", .ref p2, .ref p3, .ref p4]) hpL
      have c1 := sa _ _ c1
      have c2 := sa _ _ c2
      have c3 := sa _ _ c3
      have c4 := sa _ _ c4
      generalize upd H9 pL (.lst [.non, .int 5, .ref p1, .str "files", .ref p2, .ref p3, .ref p4]) = Ha at Xa cL c1 c2 c3 c4
      refine ⟨d, w, c, _, Xa.dr, by omega, .inl ⟨pL, _, rfl, SqL.of cL, (by intro e; cases e), (by show 7 < 2 ^ 60; decide), fun kq vq Hb hkq Db Sb => ?_⟩⟩
      have Xb := (Xa.draw Db Sb).mono (B' := B + 8) (by omega)
      have l0 : LOk (j + 1) [] := ⟨List.nodup_nil, Nat.zero_le _, fun k f h => (by cases h), fun n h => (by cases h)⟩
      have l1 : ∀ key : Key, (∀ n : Str, key = .inr n → n.length ≤ 9) → LOk (j + 1) [(key, o0)] := fun key hkey => ⟨by simp, by show 1 ≤ _; omega, fun k f h => by
        cases List.mem_singleton.mp h
        exact ⟨(L.fok _ _ ol0).1, by have := (L.fok _ _ ol0).2; omega⟩, fun n h => hkey n (List.mem_singleton.mp h).symm⟩
      have pu := (pu0.same Xb.fr)
      have hq7 := at_mem hkq
      simp only [List.mem_cons, List.not_mem_nil, or_false] at hq7
      rcases hq7 with rfl | rfl | rfl | rfl | rfl | rfl | rfl
      · exact q .non .non [] Hb ⟨.non, fun z => by cases z⟩ l0 Xb
      · exact q (.int 5) .int [] Hb ⟨.int 5, fun z => by cases z⟩ l0 Xb
      · exact q (.ref p1) .lst [] Hb ⟨.lst (Sb _ _ c1), fun z => by cases z⟩ l0 Xb
      · exact q (.str "files") .str [] Hb ⟨.str _, fun z => by cases z⟩ l0 Xb
      · exact q (.ref p2) .dct [] Hb (pagesV_dct (Sb _ _ c2) .nil) l0 Xb
      · exact q (.ref p3) .dct [(.inr "Page", o0)] Hb (pagesV_dct (Sb _ _ c3) (.cons ⟨rfl, pu⟩ .nil)) (l1 _ fun n e => by cases e; decide) Xb
      · exact q (.ref p4) .dct [(.inl 5, o0)] Hb (pagesV_dct (Sb _ _ c4) (.cons ⟨rfl, pu⟩ .nil)) (l1 _ fun n e => by cases e) Xb
    refine iteF' (decide_eq_false fun z => w0' (V.int.inj z)) ⟨_, rfl, _, rfl, pd, v, rfl, dgp X5 ev, rfl, _, rfl, ?_⟩
    cases o with
    | none =>
      cases (show v = .non from pv0)
      refine iteT' rfl ?_
      refine ⟨_, rfl, (by show 0 ≤ sizeLine; decide), fun p1 hp1 => ?_⟩
      have X6 := X5.new (o := .lst []) hp1
      have c1 := X5.at (o := .lst []) hp1
      have bN := hd2_new (d := d) (w := w) (o := .lst []) hp1 _ _ bN
      generalize upd H5 p1 (.lst []) = H6 at X6 c1 bN
      refine fun p2 hp2 => ?_
      have X7 := X6.new (o := .dK []) hp2
      have c2 := X6.at (o := .dK []) hp2
      have c1 := hd2_new (d := d) (w := w) (o := .dK []) hp2 _ _ c1
      have bN := hd2_new (d := d) (w := w) (o := .dK []) hp2 _ _ bN
      generalize upd H6 p2 (.dK []) = H7 at X7 c2 c1 bN
      refine fun p3 hp3 => ?_
      have Y := X7.new (o := .dK []) hp3
      have bN' := hd2_new (d := d) (w := w) (o := .dK []) hp3 _ _ bN
      refine ⟨_, rfl, _, rfl, N, _, 0, .str y0, rfl, rfl, SqL.of (hd2_of bN').1, atI_nat (j := 0) (by rw [List.getElem?_map, hy0]; rfl), pd, u0, rfl, dgp Y eu0, upd_same, [(.inr "Page", u0)], rfl, (by show 1 ≤ 15; decide), ?_⟩
      rw [upd2, merge1]
      have X8 := X7.new (o := .dK [(.inr "Page", u0)]) hp3
      have c3 := X7.at (o := .dK [(.inr "Page", u0)]) hp3
      have s8 := hd2_new (d := d) (w := w) (o := .dK [(.inr "Page", u0)]) hp3
      have c1 := s8 _ _ c1
      have c2 := s8 _ _ c2
      have bN := s8 _ _ bN
      generalize upd H7 p3 (.dK [(.inr "Page", u0)]) = H8 at X8 c3 c1 c2 bN
      refine fun p4 hp4 => ?_
      have Y := X8.new (o := .dK []) hp4
      have bN' := hd2_new (d := d) (w := w) (o := .dK []) hp4 _ _ bN
      refine ⟨_, rfl, _, rfl, N, _, 0, .str y0, rfl, rfl, SqL.of (hd2_of bN').1, atI_nat (j := 0) (by rw [List.getElem?_map, hy0]; rfl), pd, u0, rfl, dgp Y eu0, upd_same, [(.inl 5, u0)], rfl, (by show 1 ≤ 15; decide), ?_⟩
      rw [upd2, merge1]
      have X9 := X8.new (o := .dK [(.inl 5, u0)]) hp4
      have c4 := X8.at (o := .dK [(.inl 5, u0)]) hp4
      have s9 := hd2_new (d := d) (w := w) (o := .dK [(.inl 5, u0)]) hp4
      have c1 := s9 _ _ c1
      have c2 := s9 _ _ c2
      have c3 := s9 _ _ c3
      generalize upd H8 p4 (.dK [(.inl 5, u0)]) = H9 at X9 c4 c1 c2 c3
      refine ⟨(by show 7 ≤ sizeLine; decide), fun pL hpL => ?_⟩
      have Xa := X9.new (o := .lst [.non, .int 5, .ref p1, .str "files", .ref p2, .ref p3, .ref p4]) hpL
      have cL := X9.at (o := .lst [.non, .int 5, .ref p1, .str "files", .ref p2, .ref p3, .ref p4]) hpL
      have sa := hd2_new (d := d) (w := w) (o := .lst [.non, .int 5, .ref p1, .str "files", .ref p2, .ref p3, .ref p4]) hpL
      have c1 := sa _ _ c1
      have c2 := sa _ _ c2
      have c3 := sa _ _ c3
      have c4 := sa _ _ c4
      generalize upd H9 pL (.lst [.non, .int 5, .ref p1, .str "files", .ref p2, .ref p3, .ref p4]) = Ha at Xa cL c1 c2 c3 c4
      refine ⟨d, w, c, _, Xa.dr, by omega, .inl ⟨pL, _, rfl, SqL.of cL, (by intro e; cases e), (by show 7 < 2 ^ 60; decide), fun kq vq Hb hkq Db Sb => ?_⟩⟩
      have Xb := (Xa.draw Db Sb).mono (B' := B + 8) (by omega)
      have l0 : LOk (j + 1) [] := ⟨List.nodup_nil, Nat.zero_le _, fun k f h => (by cases h), fun n h => (by cases h)⟩
      have l1 : ∀ key : Key, (∀ n : Str, key = .inr n → n.length ≤ 9) → LOk (j + 1) [(key, o0)] := fun key hkey => ⟨by simp, by show 1 ≤ _; omega, fun k f h => by
        cases List.mem_singleton.mp h
        exact ⟨(L.fok _ _ ol0).1, by have := (L.fok _ _ ol0).2; omega⟩, fun n h => hkey n (List.mem_singleton.mp h).symm⟩
      have pu := (pu0.same Xb.fr)
      have hq7 := at_mem hkq
      simp only [List.mem_cons, List.not_mem_nil, or_false] at hq7
      rcases hq7 with rfl | rfl | rfl | rfl | rfl | rfl | rfl
      · exact q .non .non [] Hb ⟨.non, fun z => by cases z⟩ l0 Xb
      · exact q (.int 5) .int [] Hb ⟨.int 5, fun z => by cases z⟩ l0 Xb
      · exact q (.ref p1) .lst [] Hb ⟨.lst (Sb _ _ c1), fun z => by cases z⟩ l0 Xb
      · exact q (.str "files") .str [] Hb ⟨.str _, fun z => by cases z⟩ l0 Xb
      · exact q (.ref p2) .dct [] Hb (pagesV_dct (Sb _ _ c2) .nil) l0 Xb
      · exact q (.ref p3) .dct [(.inr "Page", o0)] Hb (pagesV_dct (Sb _ _ c3) (.cons ⟨rfl, pu⟩ .nil)) (l1 _ fun n e => by cases e; decide) Xb
      · exact q (.ref p4) .dct [(.inl 5, o0)] Hb (pagesV_dct (Sb _ _ c4) (.cons ⟨rfl, pu⟩ .nil)) (l1 _ fun n e => by cases e) Xb
    | some g =>
      obtain ⟨t, r, kp, rfl, t1, t2, t3⟩ := pv0
      refine iteF' rfl ?_
      have gok := (L.fok _ _ ol).1
      have grl := (L.fok _ _ ol).2
      have g1 : g.refers.length ≤ 9 := by omega
      have Lg := L.lg
      have nlen : ∀ a : Str, (Sum.inr n : Key) = .inr a → a.length ≤ 9 := fun a e => by
        cases e
        have := (name_ok (nnam n nk)).2.1
        omega
      have pg5 := pgs_same hP X5.fr
      refine ⟨_, rfl, _, rfl, pd, _, rfl, dgp X5 ev, t, _, rfl, SqT.of (hd2_of (X5.fr _ _ t1)).1, rfl, _, _, rfl, _, _, rfl, _, _, rfl, _, _, rfl, rfl, ?_⟩
      -- one thing otherwise
      refine ⟨fun σ H' => (∃ v11 v12 v13 : Option V, σ = [some (.ref d), some (.ref pd), some (.ref N), some (.ref M), some (.int way), some (.str n), some (.str m), some (.str (namS g.own)), some (.ref r), some (optI g.hold), some (.ref kp), v11, v12, v13]) ∧ BentP K d w c M (B + 8) j H H', ?_, ?_⟩
      · refine ⟨_, rfl, _, _, rfl, rfl, _, rfl, ?_⟩
        refine (fun rest => ite2 (fun z4 => ?_) (fun _ => rest)) ?_
        · refine ⟨_, rfl, _, rfl, r, _, rfl, .inr (SqT.of (hd2_of (X5.fr _ _ t2)).1), rfl, strs_flat _, _, rfl, ?_⟩
          rw [if_pos rfl, inV_str]
          refine ite2 (fun z5 => ?_) (fun z5 => ?_)
          · have z5 : m ∉ g.refers := by simpa using z5
            refine ⟨_, rfl, _, rfl, _, rfl, (by show 1 ≤ sizeLine; decide), fun q1 hq1 => ?_⟩
            have X6 := X5.new (o := .tup [.str m]) hq1
            have c1 := X5.at (o := .tup [.str m]) hq1
            have bM := hd2_new (d := d) (w := w) (o := .tup [.str m]) hq1 _ _ bM
            generalize upd H5 q1 (.tup [.str m]) = H6 at X6 c1 bM
            refine Ds.catT (K := K) X6 (X6.fr _ _ t2) c1 (by rw [List.length_map, sizeLine_eq]; show g.refers.length + 1 ≤ _; omega) fun q2 H7 X7 S7 c2 => ?_
            have bM := S7 _ _ bM
            have c2' : H7 q2 = some (.tup ((g.refers ++ [m]).map V.str)) := by rw [List.map_append]; exact (hd2_of c2).1
            refine ⟨q2, _, rfl, SqT.of c2', (by rw [List.length_append]; show g.refers.length + 1 < 64; omega), fun ys2 q3 hp2 hso2 hq3 => ?_⟩
            have X8 := X7.new (o := .lst (ys2.map V.str)) hq3
            have c3 := X7.at (o := .lst (ys2.map V.str)) hq3
            have bM := hd2_new (d := d) (w := w) (o := .lst (ys2.map V.str)) hq3 _ _ bM
            generalize upd H7 q3 (.lst (ys2.map V.str)) = H8 at X8 c3 bM
            refine ⟨q3, _, rfl, .inl ⟨SqL.of (hd2_of c3).1, fun q4 hq4 => ?_⟩⟩
            have X9 := X8.new (o := .tup (ys2.map V.str)) hq4
            have c4 := X8.at (o := .tup (ys2.map V.str)) hq4
            have bM := hd2_new (d := d) (w := w) (o := .tup (ys2.map V.str)) hq4 _ _ bM
            generalize upd H8 q4 (.tup (ys2.map V.str)) = H9 at X9 c4 bM
            refine ⟨_, rfl, _, rfl, (by show 4 ≤ sizeLine; decide), fun q5 hq5 => ?_⟩
            have X10 := X9.new (o := .tup [.str (namS g.own), .ref q4, optI g.hold, .ref kp]) hq5
            have c5 := X9.at (o := .tup [.str (namS g.own), .ref q4, optI g.hold, .ref kp]) hq5
            have bM := hd2_new (d := d) (w := w) (o := .tup [.str (namS g.own), .ref q4, optI g.hold, .ref kp]) hq5 _ _ bM
            have c4 := hd2_new (d := d) (w := w) (o := .tup [.str (namS g.own), .ref q4, optI g.hold, .ref kp]) hq5 _ _ c4
            generalize upd H9 q5 (.tup [.str (namS g.own), .ref q4, optI g.hold, .ref kp]) = H10 at X10 c5 bM c4
            have pgx := pgs_same hP X10.fr
            refine ⟨_, rfl, _, rfl, M, _, rfl, DPut.k (k := .inr n) (hd2_of bM).1 (by rw [sizeLine_eq]; omega), ?_⟩
            obtain ⟨r1, r2, r3⟩ := pages_put (k := .inr n) (v := .ref q5) (o := some ⟨g.own, ys2, g.hold, g.keeps⟩) zM Md Mw Mc (X10.mono (B' := B + 8) (by omega)) bM pgx ⟨q5, q4, kp, rfl, c5, c4, X10.fr _ _ t3⟩
            refine ⟨⟨_, _, _, rfl⟩, r1, _, _, r2, r3, ?_⟩
            refine (LG.put (Lg.mono (m' := 8 + 9 * j) (r' := 9 + j) (Nat.le_refl _) (by omega)) (fun a e => nlen a e) fun f' e' => ?_).ok (by omega) (by omega)
            cases e'
            exact ⟨fok_refs gok (nnam m mk) z5 (by omega) hp2 hso2, by show ys2.length ≤ _; rw [hp2.length_eq, List.length_append]; show g.refers.length + 1 ≤ _; omega⟩
          -- the other ways
          · exact rest
        · refine ⟨_, rfl, rfl, _, rfl, ?_⟩
          refine ite2 (fun _ => ?_) (fun _ => ?_)
          · refine ⟨_, rfl, r, rfl, ⟨_, SqT.of (hd2_of (X5.fr _ _ t2)).1⟩, fun D hD => ?_⟩
            refine lc_it walk_tup (PvL H5 D (fun i => g.refers[i]?.bind fun b => if !decide (b = z8) then some (V.str b) else none)) (pv_0 hD) (fun i H3 _ p => SqT.of (p.1 _ _ (hd2_of (X5.fr _ _ t2)).1)) ?_ ?_
            · rintro j3 x H3 H4 hj3 p ⟨rfl, hx3⟩
              obtain ⟨b, hb, rfl⟩ := at_map hx3
              rw [List.length_map] at hj3
              have fi : (g.refers[j3]?.bind fun b => if !decide (b = z8) then some (V.str b) else none) = if !decide (b = z8) then some (V.str b) else none := by rw [hb]; rfl
              refine ⟨rfl, _, rfl, rfl, _, rfl, ?_⟩
              rw [decS]
              refine ite2 (fun z => ?_) (fun z => ?_)
              · exact ⟨_, rfl, pv_in p (Same.refl _) (by rw [fi]; exact if_pos z) (by omega)⟩
              · exact pv_out p (Same.refl _) (by rw [fi]; exact if_neg z)
            intro H6 p
            have X6 := X5.same p.1
            have bM := hd2_same (d := d) (w := w) p.1 _ _ bM
            have p3 := p.2.2
            rw [List.length_map, fm_filterS g.refers (fun b => !decide (b = z8))] at p3
            have fl := List.length_filter_le (fun b => !decide (b = z8)) g.refers
            refine ⟨(by show 1 ≤ sizeLine; decide), fun q2 hq2 => ?_⟩
            have s7 := Evl.Ex.new (o := .lst [.str "zzzzzzzz"]) hq2
            refine ⟨D, q2, _, _, rfl, rfl, s7 _ _ p3, upd_same, (by rw [List.length_map, sizeLine_eq]; show _ + 1 ≤ _; omega), fun q3 hq3 => ?_⟩
            have X7 := X6.same s7
            have bM := hd2_same (d := d) (w := w) s7 _ _ bM
            generalize upd H6 q2 (.lst [.str "zzzzzzzz"]) = H7 at X7 bM hq3 ⊢
            have e8 : (g.refers.filter fun b => !decide (b = z8)).map V.str ++ [.str "zzzzzzzz"] = ((g.refers.filter fun b => !decide (b = z8)) ++ [z8]).map V.str := by rw [List.map_append]; rfl
            rw [e8]
            have X8 := X7.new (o := .lst (((g.refers.filter fun b => !decide (b = z8)) ++ [z8]).map V.str)) hq3
            have c3 := X7.at (o := .lst (((g.refers.filter fun b => !decide (b = z8)) ++ [z8]).map V.str)) hq3
            have bM := hd2_new (d := d) (w := w) (o := .lst (((g.refers.filter fun b => !decide (b = z8)) ++ [z8]).map V.str)) hq3 _ _ bM
            generalize upd H7 q3 (.lst (((g.refers.filter fun b => !decide (b = z8)) ++ [z8]).map V.str)) = H8 at X8 c3 bM
            refine ⟨_, rfl, _, rfl, q3, _, rfl, .inl ⟨SqL.of (hd2_of c3).1, fun q4 hq4 => ?_⟩⟩
            have X9 := X8.new (o := .tup (((g.refers.filter fun b => !decide (b = z8)) ++ [z8]).map V.str)) hq4
            have c4 := X8.at (o := .tup (((g.refers.filter fun b => !decide (b = z8)) ++ [z8]).map V.str)) hq4
            have bM := hd2_new (d := d) (w := w) (o := .tup (((g.refers.filter fun b => !decide (b = z8)) ++ [z8]).map V.str)) hq4 _ _ bM
            generalize upd H8 q4 (.tup (((g.refers.filter fun b => !decide (b = z8)) ++ [z8]).map V.str)) = H9 at X9 c4 bM
            refine ⟨_, rfl, _, rfl, (by show 4 ≤ sizeLine; decide), fun q5 hq5 => ?_⟩
            have X10 := X9.new (o := .tup [.str (namS g.own), .ref q4, optI g.hold, .ref kp]) hq5
            have c5 := X9.at (o := .tup [.str (namS g.own), .ref q4, optI g.hold, .ref kp]) hq5
            have bM := hd2_new (d := d) (w := w) (o := .tup [.str (namS g.own), .ref q4, optI g.hold, .ref kp]) hq5 _ _ bM
            have c4 := hd2_new (d := d) (w := w) (o := .tup [.str (namS g.own), .ref q4, optI g.hold, .ref kp]) hq5 _ _ c4
            generalize upd H9 q5 (.tup [.str (namS g.own), .ref q4, optI g.hold, .ref kp]) = H10 at X10 c5 bM c4
            have pgx := pgs_same hP X10.fr
            refine ⟨_, rfl, _, rfl, M, _, rfl, DPut.k (k := .inr n) (hd2_of bM).1 (by rw [sizeLine_eq]; omega), ?_⟩
            obtain ⟨r1, r2, r3⟩ := pages_put (k := .inr n) (v := .ref q5) (o := some ⟨g.own, (g.refers.filter fun b => !decide (b = z8)) ++ [z8], g.hold, g.keeps⟩) zM Md Mw Mc (X10.mono (B' := B + 8) (by omega)) bM pgx ⟨q5, q4, kp, rfl, c5, c4, X10.fr _ _ t3⟩
            refine ⟨⟨_, _, _, rfl⟩, r1, _, _, r2, r3, ?_⟩
            refine (LG.put (Lg.mono (m' := 8 + 9 * j) (r' := 9 + j) (Nat.le_refl _) (by omega)) (fun a e => nlen a e) fun f' e' => ?_).ok (by omega) (by omega)
            cases e'
            exact ⟨fok_z gok (by omega), by show (g.refers.filter (fun b => !decide (b = z8)) ++ [z8]).length ≤ _; rw [List.length_append]; show _ + 1 ≤ _; omega⟩
          · refine ⟨_, rfl, rfl, _, rfl, ?_⟩
            refine ite2 (fun _ => ?_) (fun _ => ?_)
            · refine ⟨fun v H' => ∃ (a : Addr) (ks : List (Option Int)), v = .ref a ∧ Ds d w c (B + 8) H H' ∧ hd2 d w H' M = some (.dK kvs) ∧ hd2 d w H' a = some (.tup (ks.map optI)) ∧ ks.length ≤ 4 ∧ ∀ k ∈ ks, isTicksV (optI k) = true, ?_, ?_⟩
              · have kt5 := (hd2_of (X5.fr _ _ t3)).1
                refine ⟨_, rfl, _, _, rfl, .inr ⟨_, SqT.of kt5, rfl⟩, _, _, rfl, rfl, _, rfl, ?_⟩
                rw [List.length_map]
                refine ite2 (fun z => ?_) (fun z => ?_)
                · have z := of_decide_eq_true z
                  refine ⟨_, rfl, 1, rfl, noPart ⟨kp, _, rfl, SqT.of kt5, (fun z => ?_), fun _ q1 hq1 => ?_⟩⟩
                  · exfalso
                    have z := z.1
                    have : HT.sIx (g.keeps.map optI).length 0 (some 1) = min 1 (g.keeps.map optI).length := by simp [HT.sIx]
                    rw [this, List.length_map] at z
                    omega
                  rw [cut_1]
                  have X6 := X5.new (o := .tup (g.keeps.map optI).tail) hq1
                  refine ⟨q1, g.keeps.tail, rfl, X6.mono (by omega), hd2_new (d := d) (w := w) (o := .tup (g.keeps.map optI).tail) hq1 _ _ bM, ?_, ?_, fun k hk => gok.kt k (List.mem_of_mem_tail hk)⟩
                  · rw [List.map_tail]
                    exact X5.at (o := .tup (g.keeps.map optI).tail) hq1
                  · have := gok.kp
                    rw [List.length_tail]
                    omega
                · have z : ¬ ((3 : Int) < ((g.keeps.length : Nat) : Int)) := fun y => z (decide_eq_true y)
                  refine ⟨_, rfl, (by show 1 ≤ sizeLine; decide), fun q1 hq1 => ?_⟩
                  have X6 := X5.new (o := .tup [.int 1]) hq1
                  have c1 := X5.at (o := .tup [.int 1]) hq1
                  have bM := hd2_new (d := d) (w := w) (o := .tup [.int 1]) hq1 _ _ bM
                  generalize upd H5 q1 (.tup [.int 1]) = H6 at X6 c1 bM
                  refine Ds.catT (K := K) X6 (X6.fr _ _ t3) c1 (by rw [List.length_map, sizeLine_eq]; show g.keeps.length + 1 ≤ _; omega) fun q2 H7 X7 S7 c2 => ?_
                  refine ⟨q2, g.keeps ++ [some 1], rfl, X7.mono (by omega), S7 _ _ bM, by rw [List.map_append]; exact c2, by rw [List.length_append]; show g.keeps.length + 1 ≤ 4; omega, fun k hk => ?_⟩
                  rcases List.mem_append.mp hk with h | h
                  · exact gok.kt k h
                  · rw [List.mem_singleton.mp h]
                    decide +kernel
              rintro _ H7 ⟨a7, ks, rfl, X7, bM, c4, kl4, kt4⟩
              refine ⟨_, rfl, _, rfl, _, rfl, _, rfl, (by show 4 ≤ sizeLine; decide), fun q5 hq5 => ?_⟩
              have X10 := X7.new (o := .tup [.str (namS g.own), .ref r, optI g.hold, .ref a7]) hq5
              have c5 := X7.at (o := .tup [.str (namS g.own), .ref r, optI g.hold, .ref a7]) hq5
              have bM := hd2_new (d := d) (w := w) (o := .tup [.str (namS g.own), .ref r, optI g.hold, .ref a7]) hq5 _ _ bM
              have c4 := hd2_new (d := d) (w := w) (o := .tup [.str (namS g.own), .ref r, optI g.hold, .ref a7]) hq5 _ _ c4
              generalize upd H7 q5 (.tup [.str (namS g.own), .ref r, optI g.hold, .ref a7]) = H10 at X10 c5 bM c4
              have pgx := pgs_same hP X10.fr
              refine ⟨_, rfl, _, rfl, M, _, rfl, DPut.k (k := .inr n) (hd2_of bM).1 (by rw [sizeLine_eq]; omega), ?_⟩
              obtain ⟨r1, r2, r3⟩ := pages_put (k := .inr n) (v := .ref q5) (o := some ⟨g.own, g.refers, g.hold, ks⟩) zM Md Mw Mc (X10.mono (B' := B + 8) (by omega)) bM pgx ⟨q5, r, a7, rfl, c5, X10.fr _ _ t2, c4⟩
              refine ⟨⟨_, _, _, rfl⟩, r1, _, _, r2, r3, ?_⟩
              refine (LG.put (Lg.mono (m' := 8 + 9 * j) (r' := 9 + j) (Nat.le_refl _) (by omega)) (fun a e => nlen a e) fun f' e' => ?_).ok (by omega) (by omega)
              cases e'
              exact ⟨fok_keeps gok kl4 kt4, by show g.refers.length ≤ _; omega⟩
            · refine ⟨_, rfl, rfl, _, rfl, ?_⟩
              refine ite2 (fun _ => ?_) (fun _ => ?_)
              · have pgx := pgs_same hP X5.fr
                refine ⟨_, rfl, _, rfl, M, _, rfl, DPut.k (k := .inr n) (hd2_of bM).1 (by rw [sizeLine_eq]; omega), ?_⟩
                obtain ⟨r1, r2, r3⟩ := pages_put (k := .inr n) (v := .non) (o := none) zM Md Mw Mc (X5.mono (B' := B + 8) (by omega)) bM pgx rfl
                refine ⟨⟨_, _, _, rfl⟩, r1, _, _, r2, r3, ?_⟩
                refine (LG.put (Lg.mono (m' := 8 + 9 * j) (r' := 9 + j) (Nat.le_refl _) (by omega)) (fun a e => nlen a e) fun f' e' => ?_).ok (by omega) (by omega)
                cases e'
              · refine ⟨_, rfl, rfl, _, rfl, ?_⟩
                refine ite2 (fun _ => ?_) (fun _ => ?_)
                · refine ⟨_, rfl, d, w, c, _, 8, rfl, X5.dr, by omega, by decide, by decide, fun kq H6 kq0 kq8 D6 S6 => ⟨_, _, rfl, rfl, ?_⟩⟩
                  have X6 := X5.draw D6 S6
                  have bM := S6 _ _ bM
                  refine ⟨_, rfl, by omega, by omega, ?_⟩
                  refine for_it walk_range (fun i σ Hi => (∃ v11 v12 v13 : Option V, σ = [some (.ref d), some (.ref pd), some (.ref N), some (.ref M), some (.int way), some (.str n), some (.str m), some (.str (namS g.own)), some (.ref r), some (optI g.hold), some (.ref kp), v11, v12, v13]) ∧ Ds d w c (B + 8) H Hi ∧ ∃ kv l', hd2 d w Hi M = some (.dK kv) ∧ PgsX K (hd2 d w Hi) kv l' ∧ LG (8 + 9 * j + i) (8 + j) l') ⟨⟨_, _, _, rfl⟩, X6.mono (by omega), _, _, bM, pgs_same hP X6.fr, Lg⟩ (fun _ _ _ _ _ => trivial) ?_ ?_
                  · rintro i yq σ Hj Hi hi ⟨⟨v11, v12, v13, rfl⟩, Xi, kv, l', bMi, pgi, Li⟩ ⟨rfl, rfl⟩
                    have i8 : i < 8 := by
                      have : i < (1 + kq).toNat := hi
                      omega
                    have lkv : kv.length ≤ 26 := by
                      have := All2.len pgi
                      have := Li.few
                      omega
                    have qm : repS "q" (0 + (i : Nat) + 1) ∈ qNames := List.mem_map.mpr ⟨i, List.mem_range.mpr i8, by rw [show (0 : Int) + (i : Nat) + 1 = 1 + (i : Nat) by omega]⟩
                    have ql := (name_ok (qNames_nm _ qm)).2.1
                    generalize eqn : repS "q" (0 + (i : Nat) + 1) = qn at qm ql
                    refine ⟨_, rfl, M, rfl, .inl ⟨kv, .inl (hd2_of bMi).1⟩, _, rfl, _, _, rfl, rfl, "q", _, rfl, rfl, by omega, by omega, by decide, by decide, ?_⟩
                    rw [eqn]
                    refine ⟨(by show 0 ≤ sizeLine; decide), fun q1 hq1 => ?_⟩
                    have X7 := Xi.new (o := .tup []) hq1
                    have c1 := Xi.at (o := .tup []) hq1
                    have bMi := hd2_new (d := d) (w := w) (o := .tup []) hq1 _ _ bMi
                    have pgi := pgs_same pgi (hd2_new (d := d) (w := w) (o := .tup []) hq1)
                    generalize upd Hi q1 (.tup []) = H7 at X7 c1 bMi pgi
                    refine ⟨_, rfl, (by show 4 ≤ sizeLine; decide), fun q2 hq2 => ?_⟩
                    have X8 := X7.new (o := .tup [.str "plain", .ref q1, .int 0, .ref kp]) hq2
                    have c2 := X7.at (o := .tup [.str "plain", .ref q1, .int 0, .ref kp]) hq2
                    have bMi := hd2_new (d := d) (w := w) (o := .tup [.str "plain", .ref q1, .int 0, .ref kp]) hq2 _ _ bMi
                    have c1 := hd2_new (d := d) (w := w) (o := .tup [.str "plain", .ref q1, .int 0, .ref kp]) hq2 _ _ c1
                    have pgi := pgs_same pgi (hd2_new (d := d) (w := w) (o := .tup [.str "plain", .ref q1, .int 0, .ref kp]) hq2)
                    generalize upd H7 q2 (.tup [.str "plain", .ref q1, .int 0, .ref kp]) = H8 at X8 c2 bMi c1 pgi
                    refine ⟨_, DGet.k (k := .inr qn) (hd2_of bMi).1, ?_⟩
                    have nq : ∀ a : Str, (Sum.inr qn : Key) = .inr a → a.length ≤ 9 := fun a e => by cases e; omega
                    have fok0 : FileOk ⟨false, [], some 0, g.keeps⟩ := ⟨List.nodup_nil, fun x h => (by cases h), rfl, gok.kp, (by show 0 < 64; omega), (by show isTicksV (.int 0) = true; decide +kernel), gok.kt⟩
                    refine ⟨_, rfl, _, rfl, _, _, rfl, rfl, "q", _, rfl, rfl, by omega, by omega, by decide, by decide, ?_⟩
                    rw [eqn]
                    refine ⟨M, _, rfl, DPut.k (k := .inr qn) (hd2_of bMi).1 (by rw [sizeLine_eq]; omega), ?_⟩
                    obtain ⟨o', hv', ho'⟩ : ∃ o', PgO K (hd2 d w H8) ((valV kv (.inr qn)).getD (.ref q2)) o' ∧ ∀ f', o' = some f' → FileOk f' ∧ f'.refers.length ≤ 8 + j := by
                      rcases pgs_get pgi (.inr qn) with ⟨e1, e2⟩ | ⟨v', o', e1, e2, e3⟩
                      · rw [e1]
                        exact ⟨some ⟨false, [], some 0, g.keeps⟩, ⟨q2, q1, kp, rfl, c2, c1, X8.fr _ _ t3⟩, fun f' e => by cases e; exact ⟨fok0, Nat.zero_le _⟩⟩
                      · rw [e1]
                        exact ⟨o', e3, fun f' e => by subst e; exact Li.fok _ _ (lkX_in e2)⟩
                    obtain ⟨r1, r2, r3⟩ := pages_put (k := .inr qn) (v := (valV kv (.inr qn)).getD (.ref q2)) (o := o') zM Md Mw Mc X8 bMi pgi hv'
                    refine ⟨⟨_, _, _, rfl⟩, r1, _, _, r2, r3, ?_⟩
                    exact LG.put Li nq ho'
                  · rintro σ Hi ⟨⟨v11, v12, v13, rfl⟩, Xi, kv, l', bMi, pgi, Li⟩
                    refine ⟨⟨_, _, _, rfl⟩, Xi, kv, l', bMi, pgi, Li.ok ?_ (by omega)⟩
                    have : (1 + kq).toNat ≤ 8 := by omega
                    omega
                · refine ⟨_, rfl, _, rfl, pd, _, rfl, dgp X5 ev, _, rfl, _, rfl, (by show 4 ≤ sizeLine; decide), fun q1 hq1 => ?_⟩
                  have X6 := X5.new (o := .lst [.str "", .str "A", .str "a b", .str "abcdefghi"]) hq1
                  have c1 := X5.at (o := .lst [.str "", .str "A", .str "a b", .str "abcdefghi"]) hq1
                  have bM := hd2_new (d := d) (w := w) (o := .lst [.str "", .str "A", .str "a b", .str "abcdefghi"]) hq1 _ _ bM
                  generalize upd H5 q1 (.lst [.str "", .str "A", .str "a b", .str "abcdefghi"]) = H6 at X6 c1 bM
                  refine ⟨d, w, c, _, X6.dr, by omega, .inl ⟨q1, _, rfl, SqL.of c1, (by intro e; cases e), (by show 4 < 2 ^ 60; decide), fun kq vq H7 hkq D7 S7 => ?_⟩⟩
                  have X7 := X6.draw D7 S7
                  have bM := S7 _ _ bM
                  have pgx := pgs_same hP X7.fr
                  have hq7 := at_mem hkq
                  simp only [List.mem_cons, List.not_mem_nil, or_false] at hq7
                  obtain ⟨z, rfl, z9⟩ : ∃ z : Str, vq = .str z ∧ z.length ≤ 9 := by
                    rcases hq7 with rfl | rfl | rfl | rfl
                    · exact ⟨_, rfl, by decide⟩
                    · exact ⟨_, rfl, by decide⟩
                    · exact ⟨_, rfl, by decide⟩
                    · exact ⟨_, rfl, by decide⟩
                  refine ⟨M, _, rfl, DPut.k (k := .inr z) (hd2_of bM).1 (by rw [sizeLine_eq]; omega), ?_⟩
                  obtain ⟨r1, r2, r3⟩ := pages_put (k := .inr z) (v := .ref t) (o := some g) zM Md Mw Mc (X7.mono (B' := B + 8) (by omega)) bM pgx ⟨t, r, kp, rfl, X7.fr _ _ t1, X7.fr _ _ t2, X7.fr _ _ t3⟩
                  refine ⟨⟨_, _, _, rfl⟩, r1, _, _, r2, r3, ?_⟩
                  refine (LG.put (Lg.mono (m' := 8 + 9 * j) (r' := 9 + j) (Nat.le_refl _) (by omega)) (fun a e => by cases e; exact z9) fun f' e' => ?_).ok (by omega) (by omega)
                  cases e'
                  exact ⟨gok, by omega⟩
      · rintro σ H' ⟨⟨v11, v12, v13, rfl⟩, X', kv, l', b', p', L'⟩
        exact ⟨_, rfl, q (.ref M) .dct l' H' (pagesV_dct b' p') L' X'⟩
end
end WP
namespace WP
open PySem L2
section
variable {P : Program} {w : World} {K : PySem.W.Frag} {mg : Str → Option Value} {base : Heap}
theorem ok_Site_initT {f CS CF CE CP : Addr} {fd : FuncData} {dvs : List V} (F : FunD K "__init__" "Site.__init__" (defArgs s_Site___init__) (defBody s_Site___init__) (defScope s_Site___init__) dvs [] f fd) (T : Bi mg) (CT : SiteC K CS) (hSF : CS ≠ CF) (E_BadSite : Err2 P w K mg base CP "BadSite" CE "part" "name")
    (D_need_files : Dn P w K mg base (L2.CX P w) 4 "need_files" ["files"] (spNeedFiles K CF CE)) (D_is_entries : Dn P w K mg base CX0 3 "is_entries" ["files", "value"] (spEntries K CF)) (D_tree_below : Dn P w K mg base CX0 3 "tree_below" ["files", "entry"] (spTree K CF))
    {aW : Addr} (G_WAYS_TO_COUNT : mg "WAYS_TO_COUNT" = some (.ref aW)) (hW : ∀ H, SqT K H aW [.str "own", .str "whole"]) : FnOk P w K mg base (L2.CX P w) 5 f fd ["self", "files", "entries", "counts"] (spSiteT K CS CF CE) := by
  refine F.ok sc_Site___init__ (fun vs H Q E h => ?_) (fun cdv A outer s H vs Q E hr h => ?_)
  · obtain ⟨x, dx, vf, kf, l, ve, ke, xe, vc, kc, rfl, _⟩ := h
    rfl
  · obtain ⟨x, dx, vf, kf, l, ve, ke, xe, vc, kc, rfl, hx, hv, he, hc, hl64, qE, qN⟩ := h
    have hu := hu_of hr
    have nd := sc_Site___init__.nd
    refine ⟨_, pss_cons (ps_expr (pe_dS D_need_files (hr.mono (by decide)) (takes_of rfl rfl rfl rfl) (pa_cons (pv 1) pa_nil)))
      (pss_cons (ps_if (pt_not (pt_val (pe_d D_is_entries (hr.mono (by decide)) pass0 (pa_cons (pv 1) (pa_cons (pv 2) pa_nil))))) (pss_one (raise2n E_BadSite rfl (takes_of rfl rfl rfl rfl) (hr.mono (by decide)) pe_str pe_non)) pss_nil)
      (pss_cons (ps_setDc (i := 4) (own := [("entry", 5)]) (g := gName 5) rfl nd rfl rfl (swD rfl rfl rfl (by decide +kernel)) (pi_list (pe_callB cr_sortA (by rfl) T.sorted (by decide +kernel) (pa_cons (pv 2) pa_nil))) (blkOk_by (own := [("entry", 5)]) (N := ["self", "files", "entries", "counts", "trees", "entry", "name"]) (sc := defScope s_Site___init__) (by decide +kernel)) (fun _ _ _ _ _ => (pg_name (i := 5) nd rfl (by first | exact Or.inl rfl | exact Or.inr rfl))) (fun _ _ _ _ _ => pts_nil) (fun _ _ _ _ _ => (pv 5)) (fun _ _ _ _ _ => (pe_d D_tree_below (hr.mono (by decide)) pass0 (pa_cons (pv 1) (pa_cons (pv 5) pa_nil)))))
      (pss_cons (ps_lock (ps_for (passes_of rfl) rfl (pi_keys (pv 4)) (pg_name (i := 5) nd rfl (by first | exact Or.inl rfl | exact Or.inr rfl)) (pss_one (ps_if (pt_cmpR op_isN (pe_dget hu (pv 4) (pv 5) (fun _ _ => rfl)) pe_non (nomark _)) (pss_one (raise2n E_BadSite rfl (takes_of rfl rfl rfl rfl) (hr.mono (by decide)) pe_str (pv 5))) pss_nil))))
      (pss_cons (ps_if (PW.pt (pw_or (pt_not (pt_val (pe_callB call_isi (by rfl) T.isinstance (by decide +kernel) (pa_cons (pv 3) (pa_cons (n_str T) pa_nil))))) (pw_or1 (pt_cmpR op_notIn_seq (pv 3) (gRef G_WAYS_TO_COUNT) (by rfl))))) (pss_one (raise2n E_BadSite rfl (takes_of rfl rfl rfl rfl) (hr.mono (by decide)) pe_str pe_non)) pss_nil)
      (pss_cons (ps_fld (pv 0) (pe_dc (own := [("name", 6)]) (g := gName 6) rfl nd (pi_list (pe_callB (call_sortedD rfl) (by rfl) T.sorted (by decide +kernel) (pa_cons (pv 1) pa_nil))) (blkOk_by (own := [("name", 6)]) (N := ["self", "files", "entries", "counts", "trees", "entry", "name"]) (sc := defScope s_Site___init__) (by decide +kernel)) (fun _ _ _ _ _ => (pg_name (i := 6) nd rfl (by first | exact Or.inl rfl | exact Or.inr rfl))) (fun _ _ _ _ _ => pts_nil) (fun _ _ _ _ _ => (pv 6)) (fun _ _ _ _ _ => (pe_dget hu (pv 1) (pv 6) (fun _ _ => rfl)))) rfl)
      (pss_cons (ps_fld (pv 0) (pv 4) rfl)
      (pss_one (ps_fld (pv 0) (pv 3) rfl)))))))), ?_⟩
    refine ⟨_, rfl, vf, kf, l, rfl, hv, fun e0 => ?_, fun ys Y hok => ⟨fun pt nm e1 => ?_, fun e1 H1 S1 => ?_⟩⟩
    · exact qE [] [] (fun z => by rw [e0] at z; cases z) (fun z => by rw [e0] at z; cases z) "files" .non (by unfold siteErr; rw [if_pos e0])
    · refine qE ys [] (fun _ => Y) (fun _ z => by rw [e1] at z; cases z) pt nm ?_
      unfold siteErr
      rw [if_neg (by rw [hok]; decide), e1]
    · obtain ⟨d, kvs, rfl, hd, hF, hnd, hkl⟩ := hv.2 (by rw [Bool.and_eq_true] at hok; exact hok.1)
      obtain ⟨SF, FR, l3⟩ := siteFs_of hF hnd (by rw [Bool.and_eq_true] at hok; exact hok.2) Y.1 e1
      have FA : FilesAt K CF H d (fsOf l) := ⟨kvs, hd, FR⟩
      have SE : ∀ zs, siteErr kf l ys ke xe zs vc = if entOk (fsOf l) ke xe = false then some (("entries" : Str), V.non) else match zs.find? (noTree (fsOf l)) with | some z => some (("ways" : Str), V.str z) | none => if okCount vc = false then some (("counts" : Str), V.non) else none := fun zs => by
        unfold siteErr
        rw [if_neg (by rw [hok]; decide), e1]
        all_goals rfl
      refine ⟨_, rfl, _, rfl, d, ve, ke, xe, fsOf l, rfl, FA.same S1, he.same S1, fun H2 S2 => ⟨_, rfl, ?_⟩⟩
      have S12 := S1.trans S2
      cases e2 : entOk (fsOf l) ke xe with
      | false =>
        refine iteT' rfl fun d' hd' => (qE ys [] (fun _ => Y) (fun _ _ z => by rw [e2] at z; cases z) "entries" .non ?_).at S12 hd'
        rw [SE, if_pos e2]
      | true =>
        refine iteF' rfl ?_
        have e2' := e2
        unfold entOk at e2'
        rw [Bool.and_eq_true, Bool.and_eq_true, Bool.and_eq_true] at e2'
        obtain ⟨⟨⟨k1, k2⟩, k3⟩, k4⟩ := e2'
        obtain ⟨a, rfl, hq, hl, hxs⟩ := he.2 k1
        have k2' := k2
        unfold areNamesL at k2'
        rw [Bool.and_eq_true] at k2'
        obtain ⟨ns, rfl, hn⟩ := names_str k2'.1
        have hnd2 : ns.Nodup := (nodup_strs ns).mp (of_decide_eq_true k2'.2)
        have hq2 := hq.imp (fun h => SqL.sm h S12) (fun h => SqT.sm h S12)
        refine ⟨_, rfl, a, ns, rfl, hq2, (by simpa using hl64), fun zs pz hpz hso hnp => ?_⟩
        have Z : ZsOf (ns.map V.str) zs := ⟨hpz.map _, hso⟩
        have zl : zs.length < 64 := by rw [hpz.length_eq]; simpa using hl64
        have S3 : Same H (upd H2 pz (.lst (zs.map V.str))) := S12.trans (Evl.Ex.new hnp)
        have hz3 : upd H2 pz (.lst (zs.map V.str)) pz = some (.lst (zs.map V.str)) := upd_same
        generalize upd H2 pz (.lst (zs.map V.str)) = H3 at S3 hz3
        have plain : ∀ z ∈ zs, plainF (fsOf l) (.str z) = true := fun z hz => List.all_eq_true.mp k4 _ (List.mem_map.mpr ⟨z, hpz.subset hz, rfl⟩)
        have key : ∀ z ∈ zs, z ∈ (fsOf l).map (·.1) := fun z hz => by
          have := plain z hz
          rw [lkF_key]
          simp only [plainF] at this
          cases e : lkF (fsOf l) z with
          | none => rw [e] at this; cases this
          | some g => exact ⟨g, rfl⟩
        refine ⟨pz, rfl, ⟨_, SqL.of hz3⟩, fun D hD => ?_⟩
        have hD0 : H D = none := by
          cases e : H D with
          | none => rfl
          | some u => rw [S3 _ _ e] at hD; cases hD
        refine dc_it walk_list (fun i H4 => Same H3 H4 ∧ ∃ (kv : List (Key × V)) (rs : List (Str × Option (List (Str × Option Str)))), H4 D = some (.dK kv) ∧ TreesO (fsOf l) H (del H4 D) kv rs ∧ rs.map (·.1) = zs.take i) ⟨Evl.Ex.new hD, [], [], upd_same, .nil, rfl⟩ (fun i H4 _ p => SqL.of (p.1 _ _ hz3)) ?_ ?_
        · rintro i y H4 H5 hi ⟨S4, kv, rs, h4, tO, er⟩ ⟨rfl, hy⟩
          obtain ⟨z, hz, rfl⟩ := at_map hy
          refine ⟨rfl, _, rfl, _, rfl, _, rfl, d, z, fsOf l, rfl, FA.same (S3.trans S4), SF.ok, key z (at_mem hz), fun H6 S6 no => ?_, fun p t H6 S6 hp hpt tr => ?_⟩
          all_goals
            have znot : z ∉ rs.map (·.1) := by rw [er]; exact take_not (hpz.nodup_iff.mpr hnd2) hz
            have vn : valV kv (.inr z) = none := val_none fun p hp e => znot (by
              have : p.1 ∈ kv.map (·.1) := List.mem_map.mpr ⟨p, hp, rfl⟩
              rw [tO.keys, e] at this
              obtain ⟨m, hm, e2⟩ := List.mem_map.mp this
              cases e2
              exact hm)
            have kvl : kv.length.succ < 64 := by
              have := congrArg List.length er
              have hi' : i < zs.length := (List.getElem?_eq_some_iff.mp hz).1
              rw [List.length_map, List.length_take] at this
              rw [tO.len]
              omega
          · refine ⟨kv, .inr z, rfl, S6 _ _ h4, small64 kvl, Evl.Ex.mut (S4.trans S6) hD, kv ++ [(.inr z, .non)], rs ++ [(z, none)], by rw [upd_same, putK_new _ vn], ?_, ?_⟩
            · rw [del_upd]
              exact (tO.same (del_mono S6)).app (.non no .nil)
            · rw [List.map_append, er, List.take_succ, hz]
              rfl
          · have hpD : p ≠ D := fun e => by rw [e, h4] at hp; cases hp
            refine ⟨kv, .inr z, rfl, S6 _ _ h4, small64 kvl, Evl.Ex.mut (S4.trans S6) hD, kv ++ [(.inr z, .ref p)], rs ++ [(z, some t)], by rw [upd_same, putK_new _ vn], ?_, ?_⟩
            · rw [del_upd]
              refine (tO.same (del_mono S6)).app (.som ?_ (by rw [del_ne hpD]; exact hpt) tr .nil)
              cases e : H p with
              | none => rfl
              | some u => rw [S4 _ _ (S3 _ _ e)] at hp; cases hp
            · rw [List.map_append, er, List.take_succ, hz]
              rfl
        · rintro H4 ⟨S4, kv, rs, h4, tO, er⟩
          rw [List.length_map, List.take_of_length_le (Nat.le_refl _)] at er
          have S04 := S3.trans S4
          have kvn : (kv.map (·.1)).Nodup := by
            rw [tO.keys, er]
            exact List.pairwise_map.mpr ((hpz.nodup_iff.mpr hnd2).imp fun h e => h (Sum.inr.inj e))
          refine ⟨D, _, h4, trivial, fun od => ?_⟩
          refine ⟨_, rfl, D, od, rfl, .inl ⟨kv, upd_same, ?_⟩⟩
          have SL : Same H (upd H4 D (.frz od (.dK kv))) := Evl.Ex.mut S04 hD0
          refine for_it walk_keys (fun i σ H5 => H5 = upd H4 D (.frz od (.dK kv)) ∧ (∃ v5 : Option V, σ = [some (.ref x), some (.ref d), some (.ref a), some vc, some (.ref D), v5, none]) ∧ ∀ j m, j < i → zs[j]? = some m → noTree (fsOf l) m = false)
            ⟨rfl, ⟨_, rfl⟩, fun j m hj => by omega⟩ (fun i σ H5 _ h => by rw [h.1]; exact upd_same) ?_ ?_
          · rintro i y σ H5 H6 hi ⟨rfl, ⟨v5, rfl⟩, ps⟩ ⟨rfl, kk, vv, hkv, rfl⟩
            obtain ⟨n, rfl, hn1, hn2⟩ := tO.at hkv
            rw [er] at hn1
            have dg : DGet (upd H4 D (.frz od (.dK kv))) D (.str n) (some vv) := by
              have := DGet.fz (H := upd H4 D (.frz od (.dK kv))) (k := Sum.inr n) upd_same
              rw [valV_at kvn hkv] at this
              exact this
            refine ⟨_, rfl, _, rfl, D, _, rfl, dg, rfl, _, rfl, ?_⟩
            rcases hn2 with ⟨rfl, nt⟩ | ⟨⟨p, rfl⟩, nt⟩
            · refine iteT' rfl ⟨_, rfl, fun d' hd' => (qE ys zs (fun _ => Y) (fun _ _ _ => Z) "ways" (.str n) ?_).at SL hd'⟩
              rw [SE, if_neg (by rw [e2]; decide), find_at hn1 nt ps]
            · refine iteF' rfl ⟨rfl, ⟨_, rfl⟩, fun j m hj hm => ?_⟩
              by_cases hji : j < i
              · exact ps j m hji hm
              · have : j = i := by omega
                rw [this, hn1] at hm
                cases hm
                exact nt
          · rintro σ H5 ⟨rfl, ⟨v5, rfl⟩, ps⟩
            have kzl : kv.length = zs.length := by rw [tO.len, ← er, List.length_map]
            rw [kzl] at ps
            have ps : ∀ (j : Nat) m, zs[j]? = some m → noTree (fsOf l) m = false := fun j m hm => ps j m (List.getElem?_eq_some_iff.mp hm).1 hm
            have f1 := find_non ps
            refine ⟨upd_same, ?_⟩
            have S06 : Same H (upd (upd H4 D (.frz od (.dK kv))) D (.dK kv)) := Evl.Ex.mut SL hD0
            have hD6 : upd (upd H4 D (.frz od (.dK kv))) D (.dK kv) D = some (.dK kv) := upd_same
            have tO6 : TreesO (fsOf l) H (del (upd (upd H4 D (.frz od (.dK kv))) D (.dK kv)) D) kv rs := by rw [del_upd, del_upd]; exact tO
            generalize upd (upd H4 D (.frz od (.dK kv))) D (.dK kv) = H6 at S06 hD6 tO6
            obtain ⟨ts, ts1, ts2, ts3⟩ := tO6.all fun n hn => by
              rw [er] at hn
              obtain ⟨j, hj⟩ := List.mem_iff_getElem?.mp hn
              exact ps j n hj
            have hc6 := hc.same S06
            have badC : okCount vc = false → ∀ d', H6 d' = none → E (.ref CE) (some d') (upd H6 d' (.xd [("name", .non), ("part", .str "counts")])) := fun e d' hd' => (qE ys zs (fun _ => Y) (fun _ _ _ => Z) "counts" .non (by rw [SE, if_neg (by rw [e2]; decide), f1]; simp only; rw [if_pos e])).at S06 hd'
            refine ⟨_, rfl, vc, .ty "str", kc.ty, _, _, rfl, .ty "str", hc6.tyx, hc6.kStr, _, rfl, ?_⟩
            cases hc6 with
            | str z =>
              refine iteF ?_
              refine ⟨_, rfl, aW, _, rfl, .inr (hW H6), rfl, rfl, _, rfl, ?_⟩
              have iv : inV (.str z) [.str "own", .str "whole"] = okCount (.str z) := by
                have := inV_str z ["own", "whole"]
                rw [show ([V.str "own", V.str "whole"] : List V) = (["own", "whole"] : List Str).map V.str from rfl, this, Bool.eq_iff_iff, decide_eq_true_eq]
                unfold okCount
                rw [Bool.or_eq_true, beq_iff_eq, beq_iff_eq, List.mem_cons, List.mem_singleton]
                exact ⟨fun h => h.imp (congrArg V.str) (congrArg V.str), fun h => h.imp V.str.inj V.str.inj⟩
              rw [iv]
              cases ec : okCount (.str z) with
              | false => exact iteT' rfl (badC ec)
              | true =>
                refine iteF' rfl ?_
                obtain ⟨cz, ecz, cz2⟩ := count_ok ec
                cases ecz
                have eks : kvs.map (·.1) = ((fsOf l).map (·.1)).map Sum.inr := FR.keys
                have k8 : (fsOf l).length ≤ 8 := SF.ok.few
                refine ⟨_, rfl, d, kvs, (fsOf l).map (·.1), rfl, .inl (S06 _ _ hd), eks, by rw [List.length_map]; omega, fun ys2 p2 hp2 hso2 hnp2 => ?_⟩
                obtain ⟨gs, gs1, gs2⟩ := perm_files SF.ok.nd hp2
                have S07 : Same H (upd H6 p2 (.lst (ys2.map V.str))) := S06.trans (Evl.Ex.new hnp2)
                have h27 : upd H6 p2 (.lst (ys2.map V.str)) p2 = some (.lst (ys2.map V.str)) := upd_same
                have S67 : Same H6 (upd H6 p2 (.lst (ys2.map V.str))) := Evl.Ex.new hnp2
                generalize upd H6 p2 (.lst (ys2.map V.str)) = H7 at S07 h27 S67
                refine ⟨p2, rfl, ⟨_, SqL.of h27⟩, fun D2 hD2 => ?_⟩
                have hD20 : H D2 = none := by
                  cases e : H D2 with
                  | none => rfl
                  | some u => rw [S07 _ _ e] at hD2; cases hD2
                have hnd2' : ys2.Nodup := hp2.nodup_iff.mpr SF.ok.nd
                refine dc_it walk_list (fun i H8 => Same H7 H8 ∧ ∃ kv2, H8 D2 = some (.dK kv2) ∧ FilesR K CF H kv2 (gs.take i)) ⟨Evl.Ex.new hD2, [], upd_same, .nil⟩ (fun i H8 _ p => SqL.of (p.1 _ _ h27)) ?_ ?_
                · rintro i y H8 H9 hi ⟨S8, kv2, h8, fR⟩ ⟨rfl, hy⟩
                  obtain ⟨n, hn, rfl⟩ := at_map hy
                  have hil : i < ys2.length := (List.getElem?_eq_some_iff.mp hn).1
                  have hgl : i < gs.length := by rw [← gs1, List.length_map] at hil; exact hil
                  have hg : gs[i]? = some (n, (gs[i]).2) := by
                    rw [List.getElem?_eq_getElem hgl]
                    rw [← gs1, List.getElem?_map, List.getElem?_eq_getElem hgl] at hn
                    have : (gs[i]).1 = n := by simpa using hn
                    rw [← this]
                  obtain ⟨g, eg⟩ : ∃ g, lkF (fsOf l) n = some g := lkF_key.mp (hp2.subset (at_mem hn))
                  have eg2 : g = (gs[i]).2 := by
                    have h1 := lkF_mem eg
                    have h2 := gs2.subset (at_mem hg)
                    have e3 := lkF_perm SF.ok.nd (List.Perm.refl (fsOf l)) n
                    exact fs_uni SF.ok.nd h1 h2
                  obtain ⟨v, f', ev, ef, hf'⟩ := (FR.get n).resolve_left fun z => by rw [z.2] at eg; cases eg
                  rw [eg] at ef
                  cases ef
                  have dg : DGet H9 d (.str n) (some v) := by
                    have := DGet.k (k := Sum.inr n) (S8 _ _ (S07 _ _ hd))
                    rw [ev] at this
                    exact this
                  have vn : valV kv2 (.inr n) = none := val_none fun p hp e => take_not hnd2' hn (by
                    have : p.1 ∈ kv2.map (·.1) := List.mem_map.mpr ⟨p, hp, rfl⟩
                    rw [fR.keys, e, List.map_take, gs1] at this
                    obtain ⟨m, hm, e2⟩ := List.mem_map.mp this
                    cases e2
                    exact hm)
                  have kvl : kv2.length.succ < 64 := by
                    rw [fR.len, List.length_take]
                    have := gs2.length_eq
                    omega
                  refine ⟨rfl, _, rfl, _, rfl, _, rfl, d, _, rfl, dg, kv2, .inr n, rfl, h8, small64 kvl, Evl.Ex.mut S8 hD2, kv2 ++ [(.inr n, v)], by rw [upd_same, putK_new _ vn], ?_⟩
                  rw [List.take_succ, hg]
                  rw [← eg2]
                  exact fR.app (.cons hf' .nil)
                · rintro H8 ⟨S8, kv2, h8, fR⟩
                  rw [List.length_map, List.take_of_length_le (by rw [← gs1, List.length_map]; exact Nat.le_refl _)] at fR
                  have S08 := S07.trans S8
                  have hx8 := S08 _ _ hx
                  refine ⟨_, rfl, x, CS, dx, _, rfl, hx8, CT.cl, CT.n1, (by decide), ?_⟩
                  refine ⟨_, rfl, _, rfl, x, CS, dx, _, rfl, upd_same, CT.cl, CT.n2, pf (by decide), ?_⟩
                  refine ⟨_, rfl, _, rfl, x, CS, dx, _, rfl, upd_same, CT.cl, CT.n3, pf (pf (by decide)), ?_⟩
                  have X1 : SameX x H (upd (upd (upd H8 x (.ins CS dx (putF "own_files" (.ref D2) []))) x (.ins CS dx (putF "own_trees" (.ref D) (putF "own_files" (.ref D2) [])))) x (.ins CS dx (putF "own_counts" (.str z) (putF "own_trees" (.ref D) (putF "own_files" (.ref D2) []))))) := (((SameX.of S08).upd).upd).upd
                  have hxx : upd (upd (upd H8 x (.ins CS dx (putF "own_files" (.ref D2) []))) x (.ins CS dx (putF "own_trees" (.ref D) (putF "own_files" (.ref D2) [])))) x (.ins CS dx (putF "own_counts" (.str z) (putF "own_trees" (.ref D) (putF "own_files" (.ref D2) [])))) x = some (.ins CS dx [("own_files", .ref D2), ("own_trees", .ref D), ("own_counts", .str z)]) := by
                    rw [upd_same]
                    rfl
                  have X8 : SameX x H8 (upd (upd (upd H8 x (.ins CS dx (putF "own_files" (.ref D2) []))) x (.ins CS dx (putF "own_trees" (.ref D) (putF "own_files" (.ref D2) [])))) x (.ins CS dx (putF "own_counts" (.str z) (putF "own_trees" (.ref D) (putF "own_files" (.ref D2) []))))) := (((SameX.of (Same.refl _)).upd).upd).upd
                  generalize upd (upd (upd H8 x (.ins CS dx (putF "own_files" (.ref D2) []))) x (.ins CS dx (putF "own_trees" (.ref D) (putF "own_files" (.ref D2) [])))) x (.ins CS dx (putF "own_counts" (.str z) (putF "own_trees" (.ref D) (putF "own_files" (.ref D2) [])))) = H9 at X1 hxx X8
                  have nxD : D ≠ x := fun e => by rw [e, hx] at hD0; cases hD0
                  have nxD2 : D2 ≠ x := fun e => by rw [e, hx] at hD20; cases hD20
                  have X69 : SameX x H6 H9 := (SameX.of (S67.trans S8)).trans X8
                  have tO9 : TreesO (fsOf l) H H9 kv rs := tO6.sameX hx ((SameX.of del_sub).trans X69)
                  obtain ⟨ts, ts1, ts2, ts3⟩ := tO9.all fun n hn => by
                    rw [er] at hn
                    obtain ⟨j, hj⟩ := List.mem_iff_getElem?.mp hn
                    exact ps j n hj
                  have tz : ts.map (·.1) = zs := ts1.trans er
                  exact qN ys zs H9 Y Z hok (by rw [SE, if_neg (by rw [e2]; decide), f1]; simp only; rw [if_neg (by rw [ec]; decide)]) X1
            | _ => exact iteT (badC rfl)
end
section
variable {P : Program} {w : World} {K : PySem.W.Frag} {mg : Str → Option Value} {base h : Heap} {CS CF CE CP e1 e2 : Addr}
theorem site_mkT (X : K.In h) (G : h.Ns mainGlobals mg) (M : MadeK K "Site" CS s_Site___init__ "Site.__init__" [.str "own"])
    (ok : ∀ f fd, FunD K "__init__" "Site.__init__" (defArgs s_Site___init__) (defBody s_Site___init__) (defScope s_Site___init__) [.str "own"] [] f fd → FnOk P w K mg base (L2.CX P w) 5 f fd psSite (spSiteT K CS CF CE)) : SiteMkT P w K mg base CS CF CE := by
  obtain ⟨f, fd, m, F⟩ := M.made
  exact ⟨PySem.W.mg_of X G M.ns, ⟨f, fd, m, ok f fd F, site_binds F rfl⟩⟩
theorem site_mkTK (X : K.In h) (G : h.Ns mainGlobals mg) (M : MadeK K "Site" CS s_Site___init__ "Site.__init__" [.str "own"])
    (ok : ∀ f fd, FunD K "__init__" "Site.__init__" (defArgs s_Site___init__) (defBody s_Site___init__) (defScope s_Site___init__) [.str "own"] [] f fd → FnOk P w K mg base (L2.CX P w) 5 f fd psSite (spSiteT K CS CF CE)) : SiteMkTK P w K mg base CS CF CE := by
  obtain ⟨f, fd, m, F⟩ := M.made
  obtain ⟨its, kb⟩ := F.kbindsD (ps := psSite) 1 ["counts", "entries", "files"] (fun us _ ws => us ++ flipG ws) (by intro e; cases e) (fun r1 _ r3 => r1.append (flipG_rel r3)) fun T kV doc pm an cdv ct us its ws h1 h2 h3 => by
    match us, h1, its, h2, ws, h3 with | [_], _, [_], _, [_, _, _], _ => exact ⟨_, rfl, rfl⟩
  exact ⟨PySem.W.mg_of X G M.ns, f, fd, _, m, ok f fd F, kb⟩
end
end WP
namespace WP
open PySem L2
theorem caught_scope : (defScope s__law_caught).names.lookup ("_law_caught_here" : Str) = some .local ∧ (defScope s__law_caught).names.lookup ("_law_error" : Str) = some .local ∧ (defScope s__law_caught).names.lookup ("PrintError" : Str) = some .globalImplicit ∧ (defScope s__law_caught).names.lookup ("_law_work" : Str) = some .local := by decide +kernel
theorem pe_caught {X : Cx} {f CP c Pt : Addr} {fd : FuncData} {T : List (Addr × Str)} {k : Nat} {params : Arguments} {body : Expr} {scope : Scope} {t : XK → TE} {p lpos pos : Pos} (F : Fun X.K "_law_caught" "_law_caught" s__law_caught f fd) (hm : X.mg "_law_caught" = some (.ref f)) (hme : X.mg "PrintError" = some (.ref CP))
    (TB : LamX.TabB X.base X.mg c Pt) (hcode : X.env.code = .ref c) (hmT : (Pt, X.env.qual ++ "<lambda>") ∈ T) (hu : ∀ p ∈ T, p.1 = Pt → p.2 = X.env.qual ++ "<lambda>") (hr : Room (k + 2) X.A) (L : LamX.LamS X.env.scope scope) (hdef : defaultsOf params X.env = ([], []))
    (hbind : ∀ (q : Str) (cl : List (Str × Addr)) (pm cv ctv : Value), bindArgs (PySem.W.kla_fn "<lambda>" q params body scope cl pm cv ctv) ⟨[], []⟩ = pure [])
    (hbody : ∀ (A : Around) (outer : List Env) (s : Shared) (H : Hp) (E : XK) (f c' : Addr), Room k (A.deeper (LamX.lamEnv X scope s.heap.objs.size f c')) → PE (LamX.lamCx X A outer s H E scope f c') body (t E)) (hg : Gl X "_law_caught" := by rfl) :
    PE X (.Call (.Name "_law_caught" p) [.Lambda params body scope lpos] [] pos) (LamX.tLam T (TCaught X.K CP) t) := by
  have hb := F.binds (ps := ["_law_work"]) fun _ _ _ _ _ _ us hl => match us, hl with | [_], _ => rfl
  obtain ⟨oc, od, kV, doc, pm, an, cdv, ct, osl, rfl, lk, hcd⟩ := F.ex
  obtain ⟨s1, s2, s3, s4⟩ := caught_scope
  exact LamX.pe_lamcall hg hm F.kp lk hcd hb sc__law_caught rfl (.inl s4) (caught_gives (wk := "_law_work") (ch := "_law_caught_here") (er := "_law_error") (pe := "PrintError") (by decide) s1 s2 s3 hme (by decide) (by decide) (by decide) (by decide) (by decide)) TB hcode hmT hu hr L hdef hbind hbody
end WP
namespace WP
open PySem L2
abbrev lamQL : Str := (("law" : Str) ++ (".<locals>." : Str)) ++ ("<lambda>" : Str)
def spLaw (K : PySem.W.Frag) (T : List (Addr × Str)) : Sp := fun vs H Q _ => ∃ (a : Addr) (ns : List Int), vs = [.ref a] ∧ SqL K H a (ns.map V.int) ∧ ns.length ≤ 63 ∧ LamX.Tabs T H ∧ ∀ H', Q (.bl true) H'
section
open LamX
variable {P : Program} {w : World} {K : PySem.W.Frag} {mg : Str → Option Value} {base : Heap}
theorem ok_law {f fC CS CF CE CB CN CP cl Pt : Addr} {fd fdC : FuncData} (F : Fun K "law" "law" s_law f fd) (hfc : fd.code = .ref cl) (T : Bi mg) (TB : TabB base mg cl Pt) (F_caught : Fun K "_law_caught" "_law_caught" s__law_caught fC fdC) (M_caught : mg "_law_caught" = some (.ref fC)) (M_PrintError : mg "PrintError" = some (.ref CP))
    (E_BadSite : Err2 P w K mg base CP "BadSite" CE "part" "name") (G_BadFile : mg "BadFile" = some (.ref CB)) (G_NoFile : mg "NoFile" = some (.ref CN)) (kSS : PySem.W.kitOne K (.ref CE) (.ref CE) = some true) (kSF : PySem.W.kitOne K (.ref CE) (.ref CB) = some false) (kSN : PySem.W.kitOne K (.ref CE) (.ref CN) = some false) (k0F : PySem.W.kitOne K (.type "NoneType") (.ref CB) = some false) (k0N : PySem.W.kitOne K (.type "NoneType") (.ref CN) = some false)
    (D__law_begun : Dn P w K mg base CX0 1 "_law_begun" ["_law_script"] (spBegun K)) (D__law_take : Dn P w K mg base CX0 2 "_law_take" ["_law_draw", "_law_size"] spTake) (D__law_pick : Dn P w K mg base CX0 3 "_law_pick" ["_law_draw", "_law_some"] (spPick K)) (D__law_model : Dn P w K mg base CX0 5 "_law_model" ["_law_draw", "_law_most"] (spModel K))
    (D__law_odd : Dn P w K mg base CX0 4 "_law_odd" ["_law_draw"] (spOddD oddL)) (D__law_can_bend : Dn P w K mg base CX0 2 "_law_can_bend" ["_law_pages"] (spCanB K)) (D__law_bent_files : Dn P w K mg base CX0 4 "_law_bent_files" ["_law_draw", "_law_pages"] (spBentF K)) (D__law_bent_entries : Dn P w K mg base CX0 5 "_law_bent_entries" ["_law_draw", "_law_pages", "_law_doors"] spBentD)
    (D__law_wrong : Dn P w K mg base CX0 3 "_law_wrong" ["_law_pages", "_law_doors", "_law_counting"] (spWrong4 K)) (D__law_handed : Dn P w K mg base CX0 5 "_law_handed" ["_law_pages"] (spHanded K CF)) (Z_SiteT : SiteMkT P w K mg base CS CF CE) (Z_SiteTK : SiteMkTK P w K mg base CS CF CE) : GnOk P w K mg base CX0 10 f fd ["_law_script"] (spLaw K [(Pt, lamQL)]) := by
  refine okG F sc_law (fun vs H Q E h => ?_) (fun cdv A outer s H vs Q E hg hcd hex hr h => ?_)
  · obtain ⟨a, ns, rfl, _⟩ := h
    rfl
  · obtain ⟨a, ns, rfl, hS, hl, hT, q⟩ := h
    have hu := hu_of hr
    have nd := sc_law.nd
    obtain ⟨_, _, _, _, ecd⟩ := hex
    have hcode : cdv = .ref cl := by rw [← ecd, hfc]
    have hmT : (Pt, lamQL) ∈ [(Pt, lamQL)] := List.mem_singleton.mpr rfl
    have huT : ∀ p ∈ [(Pt, lamQL)], p.1 = Pt → p.2 = lamQL := fun p hp _ => by rw [List.mem_singleton.mp hp]
    have G_BadSite := E_BadSite.mgC
    refine ⟨_, PSs.nox (pss_cons (ps_set (i := 1) nd rfl (by first | exact Or.inl rfl | exact Or.inr rfl) (pe_d D__law_begun (hr.mono (by decide)) pass0 (pa_cons (pv 0) pa_nil)))
      (pss_cons (ps_for PassesOwn.never rfl (pi_range1 (by rfl) T.range (pa_cons (pe_op op_add pe_int (pe_callB (call_min2 rfl) (by rfl) T.min (by decide +kernel) (pa_cons (pe_callB call_len (by rfl) T.len (by decide +kernel) (pa_cons (pv 0) pa_nil)) (pa_cons pe_int pa_nil)))) pa_nil)) (pg_name (i := 2) nd rfl (by first | exact Or.inl rfl | exact Or.inr rfl)) (pss_cons (ps_set (i := 3) nd rfl (by first | exact Or.inl rfl | exact Or.inr rfl) (pe_d D__law_model (hr.mono (by decide)) pass0 (pa_cons (pv 1) (pa_cons pe_int pa_nil))))
      (pss_cons (ps_asg (pe_tup (pa_cons (pe_dget hu (pv 3) pe_str (fun _ _ => rfl)) (pa_cons (pe_callTy call_list_of (by rfl) T.list (by decide +kernel) (pa_cons (pe_dget hu (pv 3) pe_str (fun _ _ => rfl)) pa_nil)) pa_nil))) (pg_tup rfl (pgs_cons (pg_name (i := 4) nd rfl (by first | exact Or.inl rfl | exact Or.inr rfl)) (pgs_cons (pg_name (i := 5) nd rfl (by first | exact Or.inl rfl | exact Or.inr rfl)) pgs_nil))))
      (pss_cons (ps_set (i := 6) nd rfl (by first | exact Or.inl rfl | exact Or.inr rfl) (pe_dget hu (pv 3) pe_str (fun _ _ => rfl)))
      (pss_cons (ps_setLc (i := 7) (own := [("_law_k", 8)]) (g := gName 8) rfl nd rfl rfl (sw_true rfl rfl rfl (by decide +kernel)) (pi_range1 (by rfl) T.range (pa_cons (pe_d D__law_pick (hr.mono (by decide)) pass0 (pa_cons (pv 1) (pa_cons (pe_lst (pa_cons pe_int (pa_cons pe_int (pa_cons pe_int (pa_cons pe_int pa_nil))))) pa_nil))) pa_nil)) (blkOk_by (own := [("_law_k", 8)]) (N := ["_law_script", "_law_draw", "_law_turn", "_law_model_here", "_law_pages", "_law_doors", "_law_counting", "_law_changes", "_law_k", "_law_change", "_law_due", "_law_given", "_law_is_named", "_law_seen", "_law_size", "_law_errors", "_law_error"]) (sc := defScope s_law) (by decide +kernel)) (fun _ _ _ _ _ => (pg_name (i := 8) nd rfl (by first | exact Or.inl rfl | exact Or.inr rfl))) (fun _ _ _ _ _ => pts_nil) (fun _ _ _ _ _ => (pe_d D__law_take (hr.mono (by decide)) pass0 (pa_cons (pv 1) (pa_cons pe_int pa_nil)))))
      (pss_cons (ps_for PassesOwn.never rfl (pi_list (pv 7)) (pg_name (i := 9) nd rfl (by first | exact Or.inl rfl | exact Or.inr rfl)) (pss_one (ps_if (PW.pt (pw_and (pt_cmpR op_eq (pv 9) pe_int (nomark _)) (pw_and1 (pt_val (pe_d D__law_can_bend (hr.mono (by decide)) pass0 (pa_cons (pv 4) pa_nil)))))) (pss_one (ps_set (i := 4) nd rfl (by first | exact Or.inl rfl | exact Or.inr rfl) (pe_d D__law_bent_files (hr.mono (by decide)) pass0 (pa_cons (pv 1) (pa_cons (pv 4) pa_nil))))) (pss_one (ps_if (PW.pt (pw_and (pt_cmpR op_eq (pv 9) pe_int (nomark _)) (pw_and1 (pt_val (pe_callB call_isi (by rfl) T.isinstance (by decide +kernel) (pa_cons (pv 5) (pa_cons (n_list T) pa_nil))))))) (pss_one (ps_set (i := 5) nd rfl (by first | exact Or.inl rfl | exact Or.inr rfl) (pe_d D__law_bent_entries (hr.mono (by decide)) pass0 (pa_cons (pv 1) (pa_cons (pe_dget hu (pv 3) pe_str (fun _ _ => rfl)) (pa_cons (pv 5) pa_nil)))))) (pss_one (ps_if (pt_cmpR op_eq (pv 9) pe_int (nomark _)) (pss_one (ps_set (i := 6) nd rfl (by first | exact Or.inl rfl | exact Or.inr rfl) (pe_d D__law_pick (hr.mono (by decide)) pass0 (pa_cons (pv 1) (pa_cons (pe_lst (pa_cons (pe_d D__law_odd (hr.mono (by decide)) pass0 (pa_cons (pv 1) pa_nil)) (pa_cons pe_str (pa_cons pe_str (pa_cons pe_non pa_nil))))) pa_nil))))) pss_nil)))))))
      (pss_cons (ps_asg (pe_tup (pa_cons (pe_d D__law_wrong (hr.mono (by decide)) pass0 (pa_cons (pv 4) (pa_cons (pv 5) (pa_cons (pv 6) pa_nil)))) (pa_cons (pe_d D__law_handed (hr.mono (by decide)) pass0 (pa_cons (pv 4) pa_nil)) pa_nil))) (pg_tup rfl (pgs_cons (pg_name (i := 10) nd rfl (by first | exact Or.inl rfl | exact Or.inr rfl)) (pgs_cons (pg_name (i := 11) nd rfl (by first | exact Or.inl rfl | exact Or.inr rfl)) pgs_nil))))
      (pss_cons (ps_par (i := 12) (j := 13) (by rfl) nd rfl rfl (by decide) rfl rfl (pa_cons (pe_cmpR (op_neD hr.units) (pv 10) (pe_lst (pa_cons pe_str (pa_cons pe_non pa_nil))) (nomark _)) (pa_cons (pe_callB (call_reprG hg hr.units) (by rfl) T.repr (by decide +kernel) (pa_cons (pv 5) pa_nil)) pa_nil)) (by rfl))
      (pss_cons (ps_set (i := 14) nd rfl (by first | exact Or.inl rfl | exact Or.inr rfl) (pe_weak (pe_ifExp (pt_val (pv 12)) (pe_callB (call_reprG hg hr.units) (by rfl) T.repr (by decide +kernel) (pa_cons (pe_callB (call_sortedD rfl) (by rfl) T.sorted (by decide +kernel) (pa_cons (pv 11) pa_nil)) pa_nil)) pe_str)))
      (pss_cons (ps_set (i := 15) nd rfl (by first | exact Or.inl rfl | exact Or.inr rfl) (pe_lst (pa_cons (pe_weak (pe_caught (k := 6) F_caught M_caught M_PrintError TB hcode hmT huT (hr.mono (by decide)) (LamX.lamS_by (sc := defScope s_law) (by decide +kernel)) rfl (fun _ _ _ _ _ => rfl) (fun A outer s H E f c' hr => (mk_SiteT Z_SiteT rfl rfl rfl rfl rfl 1 (by decide) (hr.mono (by decide)) (passE (takes_of rfl rfl rfl rfl)) (pa_cons (pv 11) (pa_cons (pv 5) (pa_cons (pv 6) pa_nil))))))) pa_nil)))
      (pss_cons (ps_expr (pe_bm PySem.F.plainAttrs_list PySem.F.slot_list_append PySem.F.type_list_append mt_append (pv 15) (pa_cons (pe_weak (pe_caught (k := 6) F_caught M_caught M_PrintError TB hcode hmT huT (hr.mono (by decide)) (LamX.lamS_by (sc := defScope s_law) (by decide +kernel)) rfl (fun _ _ _ _ _ => rfl) (fun A outer s H E f c' hr => (mk_SiteTK Z_SiteTK rfl rfl rfl rfl rfl (hr.mono (by decide)) (passE (takes_of rfl rfl rfl rfl)) (pk_cons (pv 6) (pk_cons (pv 5) (pk_cons (pv 11) pk_nil))))))) pa_nil)))
      (pss_cons (ps_for PassesOwn.never rfl (pi_list (pv 15)) (pg_name (i := 16) nd rfl (by first | exact Or.inl rfl | exact Or.inr rfl)) (pss_cons (ps_if (PW.pt (pw_or (pt_cmpR op_ne (pe_cmpR op_isN (pv 16) pe_non (nomark _)) (pe_cmpR (op_eqN hr.units) (pv 10) (pe_lst pa_nil) (nomark _)) (nomark _)) (pw_or1 (pt_cmpR op_ne (pe_callB (call_reprG hg hr.units) (by rfl) T.repr (by decide +kernel) (pa_cons (pv 5) pa_nil)) (pv 13) (nomark _))))) (pss_one (ps_ret pe_bl)) pss_nil)
      (pss_cons (ps_if (PW.pt (pw_and (pt_cmpR op_notN (pv 16) pe_non (nomark _)) (pw_and1 (pt_not (pt_val (pe_callB call_isX (by rfl) T.isinstance (by decide +kernel) (pa_cons (pv 16) (pa_cons (gRef G_BadSite) pa_nil)))))))) (pss_one (ps_ret pe_bl)) pss_nil)
      (pss_cons (ps_if (pt_val (pe_callB call_isET (by rfl) T.isinstance (by decide +kernel) (pa_cons (pv 16) (pa_cons (pe_tup (pa_cons (gRef G_BadFile) (pa_cons (gRef G_NoFile) pa_nil))) pa_nil)))) (pss_one (ps_ret pe_bl)) pss_nil)
      (pss_one (ps_if (PW.pt (pw_and (pt_cmpR op_notN (pv 16) pe_non (nomark _)) (pw_and1 (pt_cmpR op_ne (pe_callB (call_reprG hg hr.units) (by rfl) T.repr (by decide +kernel) (pa_cons (pe_lst (pa_cons (pe_xfld rfl (pv 16)) (pa_cons (pe_xfld rfl (pv 16)) pa_nil))) pa_nil)) (pe_callB (call_reprG hg hr.units) (by rfl) T.repr (by decide +kernel) (pa_cons (pv 10) pa_nil)) (nomark _))))) (pss_one (ps_ret pe_bl)) pss_nil))))))
      (pss_one (ps_if (PW.pt (pw_and (pt_val (pv 12)) (pw_and1 (pt_cmpR op_ne (pe_callB (call_reprG hg hr.units) (by rfl) T.repr (by decide +kernel) (pa_cons (pe_callB (call_sortedD rfl) (by rfl) T.sorted (by decide +kernel) (pa_cons (pv 11) pa_nil)) pa_nil)) (pv 14) (nomark _))))) (pss_one (ps_ret pe_bl)) pss_nil))))))))))))))
      (pss_one (ps_ret pe_bl)))), ?_⟩
    refine ⟨_, rfl, a, ns, rfl, hS, hl, fun d w c H1 D1 S1 => ?_⟩
    have hT1 := hT.ext S1
    have hS1 : SqL K (hd2 d w H1) a (ns.map V.int) := S1.seq hS
    refine ⟨_, rfl, _, _, rfl, .inl ⟨_, hd2_sub.seq hS1, rfl⟩, _, _, rfl, _, _, rfl, rfl, ?_⟩
    refine ⟨_, rfl, by split <;> omega, by split <;> omega, ?_⟩
    refine for_it walk_range (fun i σ Hi => Dr d w c (4000 * i) Hi ∧ LamX.Tabs [(Pt, lamQL)] (hd2 d w Hi) ∧ ∃ v2 v3 v4 v5 v6 v7 v8 v9 v10 v11 v12 v13 v14 v15 v16 : Option V, σ = [some (.ref a), some (.ref d), v2, v3, v4, v5, v6, v7, v8, v9, v10, v11, v12, v13, v14, v15, v16])
      ⟨D1.mono (by omega), hT1, _, _, _, _, _, _, _, _, _, _, _, _, _, _, _, rfl⟩ (fun _ _ _ _ _ => trivial) ?_ ?_
    · rintro i y0 σ Hj Hi hi ⟨Di, Ti, v2, v3, v4, v5, v6, v7, v8, v9, v10, v11, v12, v13, v14, v15, v16, rfl⟩ ⟨rfl, rfl⟩
      have hi16 : i < 100 := by split at hi <;> omega
      refine ⟨_, rfl, d, w, c, _, 8, rfl, Di, by omega, by decide, by decide, fun vm m H3 X3 hm mok => ?_⟩
      obtain ⟨am, dF, eT, kvs, rfl, m1, m2, m3, m4⟩ := id hm
      have X3 := X3.mono (B' := 4000 * i + 2000) (by omega)
      have dgF : ∀ {H' : Hp}, H' am = some (.dK [((.inr "files" : Key), .ref dF), (.inr "entries", .ref eT), (.inr "counts", .str m.counts)]) → DGet H' am (.str "files") (some (.ref dF)) := fun {H'} h => by
        have := DGet.k (k := .inr "files") h
        rw [dv1] at this
        exact this
      have dgE : ∀ {H' : Hp}, H' am = some (.dK [((.inr "files" : Key), .ref dF), (.inr "entries", .ref eT), (.inr "counts", .str m.counts)]) → DGet H' am (.str "entries") (some (.ref eT)) := fun {H'} h => by
        have := DGet.k (k := .inr "entries") h
        rw [dv2 (by decide +kernel), dv1] at this
        exact this
      have dgC : ∀ {H' : Hp}, H' am = some (.dK [((.inr "files" : Key), .ref dF), (.inr "entries", .ref eT), (.inr "counts", .str m.counts)]) → DGet H' am (.str "counts") (some (.str m.counts)) := fun {H'} h => by
        have := DGet.k (k := .inr "counts") h
        rw [dv2 (by decide +kernel), dv2 (by decide +kernel), dv1] at this
        exact this
      obtain ⟨e8, enm⟩ := ents8 mok
      -- pages, entries
      refine ⟨_, rfl, am, _, rfl, dgF (hd2_of m1).1, _, rfl, am, _, rfl, dgE (hd2_of m1).1, eT, _, rfl, .inr (SqT.of (hd2_of m4).1), fun L hL => ?_⟩
      have X4 := X3.new (o := .lst (m.entries.map V.str)) hL
      have bL := X3.at (o := .lst (m.entries.map V.str)) hL
      have s4 := hd2_new (d := d) (w := w) (o := .lst (m.entries.map V.str)) hL
      generalize upd H3 L (.lst (m.entries.map V.str)) = H4 at X4 bL s4
      refine ⟨(by show 2 ≤ sizeLine; decide), fun t ht => ?_⟩
      have X5 := X4.new (o := .tup [.ref dF, .ref L]) ht
      have bt := X4.at (o := .tup [.ref dF, .ref L]) ht
      have s5 := hd2_new (d := d) (w := w) (o := .tup [.ref dF, .ref L]) ht
      have bL := s5 _ _ bL
      have S5 := s4.trans s5
      generalize upd H4 t (.tup [.ref dF, .ref L]) = H5 at X5 bt bL S5
      refine ⟨t, _, rfl, SqT.of (hd2_of bt).1, rfl, _, _, rfl, _, _, rfl, rfl, ?_⟩
      have m1 := S5 _ _ m1
      have m2 := S5 _ _ m2
      have m3 := m3.same S5
      refine ⟨_, rfl, am, _, rfl, dgC (hd2_of m1).1, ?_⟩
      have T5 := Ti.ext X5.fr
      have Z5 : Ds d w c (4000 * i + 2000) H5 H5 := ⟨X5.dr, Same.refl _⟩
      clear X3 X4 X5 s4 s5 S5 hL ht bt m4 hm
      -- the changes
      refine ⟨_, rfl, (by show 4 ≤ sizeLine; decide), fun q1 hq1 => ?_⟩
      have X6 := Z5.new (o := .lst [.int 0, .int 1, .int 1, .int 2]) hq1
      have b6 := Z5.at (o := .lst [.int 0, .int 1, .int 1, .int 2]) hq1
      have s6 := hd2_new (d := d) (w := w) (o := .lst [.int 0, .int 1, .int 1, .int 2]) hq1
      have bL := s6 _ _ bL
      have m1 := s6 _ _ m1
      have m2 := s6 _ _ m2
      have m3 := m3.same s6
      generalize upd H5 q1 (.lst [.int 0, .int 1, .int 1, .int 2]) = H6 at X6 b6 bL m1 m2 m3
      refine ⟨d, w, c, _, X6.dr, by omega, .inl ⟨q1, _, rfl, SqL.of b6, (by intro e; cases e), (by show 4 < 2 ^ 60; decide), fun k2' v2' H7 hk7 D7 S7 => ?_⟩⟩
      obtain ⟨kk, rfl, kk1⟩ : ∃ kk : Nat, v2' = .int (kk : Int) ∧ kk ≤ 2 := by
        have := at_mem hk7
        simp only [List.mem_cons, List.not_mem_nil, or_false] at this
        rcases this with rfl | rfl | rfl | rfl
        · exact ⟨0, rfl, by decide⟩
        · exact ⟨1, rfl, by decide⟩
        · exact ⟨1, rfl, by decide⟩
        · exact ⟨2, rfl, by decide⟩
      have X7 := X6.draw D7 S7
      have bL := S7 _ _ bL
      have m1 := S7 _ _ m1
      have m2 := S7 _ _ m2
      have m3 := m3.same S7
      clear X6 b6 s6 D7 S7 hk7 hq1 k2'
      refine ⟨_, rfl, by omega, by omega, fun D hD => ?_⟩
      have zD : hd2 d w H7 D = none := hd2_none hD
      obtain ⟨dD, dW, dC⟩ := X7.dr.off hD
      have Y7 : Ds d w c (4000 * i + 2100) H7 H7 := ⟨X7.dr.mono (by omega), Same.refl _⟩
      refine lc_it walk_range (fun j Hk => Ds d w c (4000 * i + 2100 + j) H7 Hk ∧ ∃ cs : List Int, hd2 d w Hk D = some (.lst (cs.map V.int)) ∧ cs.length = j)
        ⟨(Y7.new hD).mono (by omega), [], Y7.at hD, rfl⟩ (fun _ _ _ _ => trivial) ?_ ?_
      · rintro j x Hk Hl hj ⟨Yj, cs, h1, h3⟩ ⟨rfl, rfl⟩
        have hj : j < kk := by omega
        refine ⟨rfl, _, rfl, d, w, c, _, 3, rfl, Yj.dr, by omega, by decide, by decide, fun cq H8 c0 c3 D8 S8 => ?_⟩
        have Y2 := Yj.draw D8 S8
        refine ⟨_, (hd2_of (S8 _ _ h1)).1, (by rw [List.length_map, sizeLine_eq]; omega), (Y2.put zD dD dW dC).mono (by omega), cs ++ [cq], ?_, by rw [List.length_append, List.length_singleton, h3]⟩
        rw [hd2_upd dD dW, upd_same, List.map_append]
        rfl
      rintro H8 ⟨Y8, cs, bC, cl⟩
      have cl2 : cs.length ≤ 2 := by
        have : cs.length = ((kk : Nat) : Int).toNat := cl
        omega
      have bL := Y8.fr _ _ bL
      have m1 := Y8.fr _ _ m1
      have m2 := Y8.fr _ _ m2
      have m3 := m3.same Y8.fr
      have X8 := X7.draw Y8.dr Y8.fr
      have T8 := T5.ext X8.fr
      have Z8 : Ds d w c (4000 * i + 2200) H8 H8 := ⟨Y8.dr.mono (by omega), Same.refl _⟩
      clear X7 Y7 Y8 X8 T5 Z5 zD dD dW dC hD Ti kk1 cl
      have vL : Vd (hd2 d w H8) (.ref L) (.list (m.entries.map PyData.str)) := .lst bL (VdAll.strs _)
      refine ⟨_, rfl, D, rfl, ⟨_, SqL.of (hd2_of bC).1⟩, ?_⟩
      refine for_it walk_list (fun j σ Hk => Ds d w c (4000 * i + 2200 + 20 * j) H8 Hk ∧ ∃ (gv : V) (k : Kd) (l : PgL) (dv : V) (e : PyData) (cv : V) (ec : PyData) (v9' : Option V), σ = [some (.ref a), some (.ref d), some (.int (0 + (i : Nat))), some (.ref am), some gv, some dv, some cv, some (.ref D), v8, v9', v10, v11, v12, v13, v14, v15, v16] ∧ PagesV K (hd2 d w Hk) gv k l ∧ LOk j l ∧ Vd (hd2 d w Hk) dv e ∧ DoorE (8 + j) e ∧ Vd (hd2 d w Hk) cv ec)
        ⟨Z8, .ref dF, .dct, mdL m.files, .ref L, _, .str m.counts, .str m.counts, _, rfl, pagesV_dct m2 (pgs_of m3), lok_md mok, vL, ent_door mok, .str _⟩ (fun j σ Hk _ h => SqL.of (hd2_of (h.1.fr _ _ bC)).1) ?_ ?_
      · rintro j x σ Hk Hl hj ⟨Zk, gv, k, l, dv, e, cv, ec, v9', rfl, hgv, L', hdv, de, hcv⟩ ⟨rfl, hx⟩
        obtain ⟨cq, hcq, rfl⟩ := at_map hx
        rw [List.length_map] at hj
        have j1 : j ≤ 1 := by omega
        have Lm : LOk (j + 1) l := ⟨L'.nd, by have := L'.few; omega, fun kx f h => ⟨(L'.fok kx f h).1, by have := (L'.fok kx f h).2; omega⟩, L'.kl⟩
        have dm : DoorE (8 + (j + 1)) e := ⟨de.rg, de.st, fun fs h => ⟨by have := (de.it fs h).1; omega, (de.it fs h).2⟩, de.tp⟩
        have nok := mok.ok.nam
        have few := mok.ok.few
        by_cases c0 : cq = 0
        · subst c0
          refine ⟨_, rfl, rfl, _, rfl, iteT' rfl ?_⟩
          refine ⟨_, rfl, gv, k, l, j, rfl, hgv.same hd2_sub, L', by omega, fun H9 S9 => ⟨_, rfl, ?_⟩⟩
          have Z9 := Zk.same S9
          have s9 := hd2_same (d := d) (w := w) S9
          have hgv := hgv.same s9
          have hdv := hdv.same s9
          have hcv := hcv.same s9
          cases ecb : canBend k l with
          | false =>
            refine iteF' rfl ?_
            refine ⟨_, rfl, rfl, _, rfl, iteF' rfl ?_⟩
            refine ⟨_, rfl, rfl, _, rfl, iteF' rfl ?_⟩
            exact ⟨Z9.mono (by omega), gv, k, l, dv, e, cv, ec, _, rfl, hgv, Lm, hdv, dm, hcv⟩
          | true =>
            refine iteT' rfl ?_
            unfold canBend at ecb
            rw [Bool.and_eq_true, Bool.and_eq_true] at ecb
            obtain ⟨pd, kv, rfl, hpd, hPg⟩ := hgv.2 ecb.1.1
            refine ⟨_, rfl, _, rfl, d, w, c, pd, _, kv, l, j, rfl, Z9.dr, by omega, hpd, hPg, L', j1, ecb.2, (fun z => by have := ecb.1.2; rw [z] at this; cases this), fun v' k' l' H10 hv' L'' X10 => ?_⟩
            exact ⟨(Z9.draw X10.dr X10.fr).mono (by omega), v', k', l', dv, e, cv, ec, _, rfl, hv', L'', hdv.same X10.fr, dm, hcv.same X10.fr⟩
        refine ⟨_, rfl, rfl, _, rfl, iteF' (decide_eq_false fun z => c0 (V.int.inj z)) ?_⟩
        by_cases c1 : cq = 1
        · subst c1
          have an := (hdv.same hd2_sub).any (K := K)
          refine ⟨_, rfl, rfl, _, rfl, iteT' rfl ?_⟩
          refine ⟨_, rfl, dv, .ty "list", (kdD e).ty, _, _, rfl, .ty "list", an.tyx, an.kLst, _, rfl, ?_⟩
          cases hdv with
          | @lst La vs fs hLa hal =>
            refine iteT' rfl ?_
            refine ⟨_, rfl, _, rfl, am, _, rfl, dgF (hd2_of (Zk.fr _ _ m1)).1, _, rfl, d, w, c, dF, La, _, kvs, m.files.map (·.1), fs, 8 + j, rfl, Zk.dr, by omega, Zk.fr _ _ m2, m3.keys, (fun z => mok.pos (List.map_eq_nil_iff.mp z)), (by rw [List.length_map]; exact few), nok, .lst hLa hal, de, by omega, fun v' e' H9 hv' de' X9 => ?_⟩
            exact ⟨(Zk.draw X9.dr X9.fr).mono (by omega), gv, k, l, v', e', cv, ec, _, rfl, hgv.same X9.fr, Lm, hv', de', hcv.same X9.fr⟩
          | _ =>
            refine iteF' rfl ?_
            refine ⟨_, rfl, rfl, _, rfl, iteF' rfl ?_⟩
            refine ⟨Zk.mono (by omega), gv, k, l, _, _, cv, ec, _, rfl, hgv, Lm, ?_, dm, hcv⟩
            constructor <;> assumption
        refine ⟨_, rfl, rfl, _, rfl, iteF' (decide_eq_false fun z => c1 (V.int.inj z)) ?_⟩
        by_cases c2 : cq = 2
        · subst c2
          refine ⟨_, rfl, rfl, _, rfl, iteT' rfl ?_⟩
          refine ⟨_, rfl, _, rfl, d, w, c, _, rfl, Zk.dr, by omega, fun ov oe H9 ho hov X9 => ⟨(by show 4 ≤ sizeLine; decide), fun q4 hq4 => ?_⟩⟩
          have Za := Zk.draw X9.dr X9.fr
          have Zb := Za.new (o := .lst [ov, .str "Own", .str "wholes", .non]) hq4
          have b4 := Za.at (o := .lst [ov, .str "Own", .str "wholes", .non]) hq4
          have s4 := X9.fr.trans (hd2_new (d := d) (w := w) (o := .lst [ov, .str "Own", .str "wholes", .non]) hq4)
          have hov := hov.same (hd2_new (d := d) (w := w) (o := .lst [ov, .str "Own", .str "wholes", .non]) hq4)
          generalize upd H9 q4 (.lst [ov, .str "Own", .str "wholes", .non]) = H10 at Zb b4 s4 hov
          refine ⟨d, w, c, _, Zb.dr, by omega, .inl ⟨q4, _, rfl, SqL.of b4, (by intro e; cases e), (by show 4 < 2 ^ 60; decide), fun kq vq H11 hkq D11 S11 => ?_⟩⟩
          have Zc := Zb.draw D11 S11
          have s11 := s4.trans S11
          obtain ⟨ec', hvq⟩ : ∃ ec', Vd (hd2 d w H11) vq ec' := by
            have := at_mem hkq
            simp only [List.mem_cons, List.not_mem_nil, or_false] at this
            rcases this with rfl | rfl | rfl | rfl
            · exact ⟨oe, hov.same S11⟩
            · exact ⟨_, .str _⟩
            · exact ⟨_, .str _⟩
            · exact ⟨_, .non⟩
          exact ⟨Zc.mono (by omega), gv, k, l, dv, e, vq, ec', _, rfl, hgv.same s11, Lm, hdv.same s11, dm, hvq⟩
        refine ⟨_, rfl, rfl, _, rfl, iteF' (decide_eq_false fun z => c2 (V.int.inj z)) ?_⟩
        exact ⟨Zk.mono (by omega), gv, k, l, dv, e, cv, ec, _, rfl, hgv, Lm, hdv, dm, hcv⟩
      rintro σ H9 ⟨Z9, gv, k, l, dv, e, cv, ec, v9', rfl, hgv, L', hdv, de, hcv⟩
      rw [List.length_map] at Z9 L' de
      obtain ⟨xe, hse, x64, hT0⟩ := DoorE.seqv (K := K) de (by omega) (hdv.same hd2_sub)
      have hca := (hcv.same hd2_sub).any (K := K)
      refine ⟨_, rfl, _, rfl, _, rfl, gv, k, l, cs.length, dv, kdD e, xe, cv, kdD ec, rfl, hgv.same hd2_sub, L', cl2, hse, hT0, x64, hca, fun p ys zs H10 S10 _ hY hZ b10 => ?_⟩
      have hc : SCond k l (kdD e) xe ys zs := ⟨hY, hZ⟩
      generalize eer : siteErr k l ys (kdD e) xe zs cv = er at b10
      have tok : TellOk er := fun pt nm h => sE_shape hc (eer.trans h)
      refine ⟨_, rfl, gv, k, l, cs.length, rfl, (hgv.same hd2_sub).same S10, L', cl2, fun gv' H11 S11 hfv => ?_⟩
      refine ⟨(by show 2 ≤ sizeLine; decide), fun t ht => ?_⟩
      have s12 := Evl.Ex.new (o := .tup [.ref p, gv']) ht
      have bt : upd H11 t (.tup [.ref p, gv']) t = some (.tup [.ref p, gv']) := upd_same
      have S12 := S10.trans (S11.trans s12)
      have hfv := hfv.same s12
      have b10 := s12 _ _ (S11 _ _ b10)
      generalize upd H11 t (.tup [.ref p, gv']) = H12 at bt S12 hfv b10
      refine ⟨t, _, rfl, SqT.of bt, rfl, _, _, rfl, _, _, rfl, rfl, ?_⟩
      have hse := hse.same S12
      have hca := hca.same S12
      have hdv := (hdv.same hd2_sub).same S12
      have Z12 := Z9.same S12
      have rge := de.rg
      clear s12 bt ht S10 S11 S12 hgv Z9
      -- what is named, what is seen
      refine ⟨_, rfl, (by show 2 ≤ sizeLine; decide), fun q1 hq1 => ?_⟩
      have s13 := Evl.Ex.new (o := .lst [.str "files", .non]) hq1
      have bq : upd H12 q1 (.lst [.str "files", .non]) q1 = some (.lst [.str "files", .non]) := upd_same
      have hse := hse.same s13
      have hca := hca.same s13
      have hdv := hdv.same s13
      have hfv := hfv.same s13
      have b10 := s13 _ _ b10
      have Z13 := Z12.same s13
      generalize upd H12 q1 (.lst [.str "files", .non]) = H13 at bq hse hca hdv hfv b10 Z13
      refine ⟨tellP er, .list [.str "files", .none], tell_dp tok b10, .lst (SqL.of bq) (.cons (.str _) (.cons .non .nil)), tell_sh tok, by decide +kernel, ?_⟩
      rw [tell_eq tok]
      refine ⟨_, rfl, dv, e, rfl, hdv.dg, rge.sh, rge.d40, rge.lnS, ?_⟩
      refine ⟨_, _, rfl, ?_⟩
      generalize enm : (!decide (er = some (("files" : Str), V.non))) = nmd
      have nmT : nmd = true → (k.isDct && okKeys l) = true := fun z => by
        cases e0 : (k.isDct && okKeys l) with
        | true => rfl
        | false =>
          rw [sE_files e0] at eer
          rw [← eer, decide_eq_true rfl] at enm
          rw [← enm] at z
          cases z
      have ysr : nmd = true → Rg (.list (ys.map PyData.str)) 2 2000 := fun z => by
        have e0 := nmT z
        have ok : okKeys l = true := by rw [Bool.and_eq_true] at e0; exact e0.2
        obtain ⟨ns', ens, l8, _, nn⟩ := keys_str ok
        have Y := hY e0
        refine (Rg.list (dep := 0) (len := 82) (n := 8) (fun f hf => ?_) ?_).mono (by omega) (by omega)
        · obtain ⟨n, hn, rfl⟩ := List.mem_map.mp hf
          have hn := (ys_key Y n).mp hn
          rw [ens] at hn
          obtain ⟨m', h1, h2⟩ := List.mem_map.mp hn
          cases h2
          exact (rp_str (n := 8) (name_ok (nn _ h1)).2.2 (name_ok (nn _ h1)).2.1).rg
        · rw [List.length_map]
          have := Y.1.length_eq
          rw [List.length_map, List.length_map] at this
          omega
      -- the sorted names
      have srt : ∀ {H' : Hp}, FilesV K CF H' gv' k l → nmd = true → ∃ (gd : Addr) (kw : List (Key × V)), gv' = .ref gd ∧ H' gd = some (.dK kw) ∧ ∃ ns' : List Str, kw.map (·.1) = ns'.map Sum.inr ∧ ns'.length < 64 ∧ ∀ ys2 : List Str, ys2.Perm ns' → PyProof.Rows.sortedS ys2 = true → ys2 = ys := fun {H'} hf z => by
        have e0 := nmT z
        have ok : okKeys l = true := by rw [Bool.and_eq_true] at e0; exact e0.2
        have kd : k.isDct = true := by rw [Bool.and_eq_true] at e0; exact e0.1
        obtain ⟨ns', ens, l8, _, nn⟩ := keys_str ok
        have Y := hY e0
        obtain ⟨gd, kw, h1, h2, h3, _⟩ := hf.2 kd
        have nl : ns'.length = l.length := by
          have := congrArg List.length ens
          rw [List.length_map, List.length_map] at this
          omega
        refine ⟨gd, kw, h1, h2, ns', h3.keys.trans ens, by omega, fun ys2 hp hs => ?_⟩
        refine sorted_uniq (hp.trans (perm_inr (Y.1.trans (by rw [ens])).symm)) hs Y.2
      refine ⟨fun v H' => Same H13 H' ∧ ∃ sz : Str, v = .str sz ∧ (nmd = true → sz = (PyData.list (ys.map PyData.str)).shown), ?_, ?_⟩
      · refine ⟨_, rfl, _, rfl, ?_⟩
        cases nmd with
        | false => exact iteF' rfl ⟨Same.refl _, _, rfl, fun z => by cases z⟩
        | true =>
          obtain ⟨gd, kw, rfl, h2, ns', h3, h4, h5⟩ := srt hfv rfl
          refine iteT' rfl ⟨_, rfl, gd, kw, ns', rfl, .inl h2, h3, h4, fun ys2 N hp hso hN => ?_⟩
          rw [h5 ys2 hp hso]
          have R := ysr rfl
          exact ⟨_, _, rfl, (Vd.lst (H := upd H13 N (.lst (ys.map V.str))) upd_same (VdAll.strs ys)).dg, R.sh, R.d40, R.lnS, Evl.Ex.new hN, _, rfl, fun _ => rfl⟩
      rintro _ H14 ⟨S14, sz, rfl, hsz⟩
      have hse := hse.same S14
      have hca := hca.same S14
      have hdv := hdv.same S14
      have hfv := hfv.same S14
      have b10 := S14 _ _ b10
      have Z14 := Z13.same S14
      clear Z13 Z12 s13 bq S14 hq1
      have L0 : Lx d w c (4000 * i + 2300) [(Pt, lamQL)] H8 H14 := ⟨Z14.dr.mono (by omega), T8.ext Z14.fr, ExtN.of Z14.fr⟩
      have one : ∀ {B1 : Int} {H1 Hb : Hp} (x dx : Addr), Lx d w c B1 [(Pt, lamQL)] H8 H1 → ExtN H14 Hb → ExtN Hb H1 → H1 x = none → H1 dx = none → dx ≠ x → ∀ {Q1 : VK} {E1 : XK},
          (∀ H', Lx d w c B1 [(Pt, lamQL)] H8 H' → ExtN Hb H' → er = none → Q1 .non H') →
          (∀ pt nm d0 HA, Lx d w c B1 [(Pt, lamQL)] H8 HA → ExtN Hb HA → er = some (pt, nm) → HA d0 = some (.xd [("name", nm), ("part", .str pt)]) → E1 (.ref CE) (some d0) HA) →
          spSiteT K CS CF CE [.ref x, gv', dv, cv] (upd (upd H1 dx (.own x)) x (.ins CS dx [])) Q1 E1 := by
        intro B1 H1 Hb x dx LH eB eN hx hdx hn Q1 E1 k1 k2
        have sU : Same H1 (upd (upd H1 dx (.own x)) x (.ins CS dx [])) := (Evl.Ex.new hdx).trans (Evl.Ex.new (by rw [upd_ne (Ne.symm hn)]; exact hx))
        refine ⟨x, dx, gv', k, l, dv, kdD e, xe, cv, kdD ec, rfl, upd_same, (hfv.ext (eB.trans eN)).same sU, (hse.ext (eB.trans eN)).same sU, (hca.ext (eB.trans eN)).same sU, x64, fun ys' zs' hy' hz' pt nm he d0 HA SA hd0 => ?_, fun ys' zs' H' Y' Z' hk' he SX => ?_⟩
        · rw [sE_uniq (show SCond k l (kdD e) xe ys' zs' from ⟨hy', hz'⟩) hc, eer] at he
          exact k2 pt nm d0 HA ((LH.same sU).same SA) (eN.trans (.of (sU.trans SA))) he hd0
        · rw [sE_uniq (show SCond k l (kdD e) xe ys' zs' from ⟨fun _ => Y', fun _ _ _ => Z'⟩) hc, eer] at he
          have S5 := made_same hx hdx SX
          exact k1 H' (LH.same S5) (eN.trans (.of S5)) he
      -- the first lambda
      refine ⟨fun v H' => Lx d w c (4000 * i + 2300) [(Pt, lamQL)] H8 H' ∧ ExtN H14 H' ∧ ErS4 CE er v H', ?_, ?_⟩
      · refine ⟨Tabs.un L0.tb, fun Hm eN Tm => ?_⟩
        have L1 := L0.lam eN Tm
        refine ⟨_, rfl, _, rfl, _, rfl, fun x dx hx hdx hn => ?_⟩
        refine one x dx L1 (ExtN.refl _) eN hx hdx hn (fun H' LH eN' e0 => ⟨rfl, ?_⟩) (fun pt nm d0 HA LH eN' e0 hd0 => ⟨E_BadSite.sub, fun ea hea => ?_⟩)
        · exact ⟨LH, eN', .inl ⟨e0, rfl⟩⟩
        · have s := Evl.Ex.new (o := XvO (.ref CE) (some d0) ea) hea
          exact ⟨LH.same s, eN'.trans (.of s), .inr ⟨pt, nm, ea, d0, e0, rfl, upd_same, s _ _ hd0⟩⟩
      rintro er0 H15 ⟨L15, e15, ev0⟩
      refine ⟨(by show 1 ≤ sizeLine; decide), fun pE hE => ?_⟩
      have sE := Evl.Ex.new (o := .lst [er0]) hE
      have L16 := L15.same sE
      have e16 := ExtN.of sE
      have ev0 := ev0.same sE
      have bE : upd H15 pE (.lst [er0]) pE = some (.lst [er0]) := upd_same
      have fE : FreeT H15 pE := fun o ho => by rw [hE] at ho; cases ho
      generalize upd H15 pE (.lst [er0]) = H16 at L16 e16 ev0 bE
      clear sE
      -- the second
      refine ⟨_, rfl, .inl ⟨rfl, _, SqL.of bE⟩, ?_⟩
      refine ⟨fun v H' => Lx d w c (4000 * i + 2300) [(Pt, lamQL)] H8 H' ∧ ExtN H16 H' ∧ ErS4 CE er v H', ?_, ?_⟩
      · refine ⟨Tabs.un L16.tb, fun Hm eN Tm => ?_⟩
        have L1 := L16.lam eN Tm
        refine ⟨_, rfl, _, rfl, _, rfl, rfl, rfl, fun x dx hx hdx hn => ?_⟩
        refine one x dx L1 (e15.trans e16) eN hx hdx hn (fun H' LH eN' e0 => ⟨rfl, ?_⟩) (fun pt nm d0 HA LH eN' e0 hd0 => ⟨E_BadSite.sub, fun ea hea => ?_⟩)
        · exact ⟨LH, eN', .inl ⟨e0, rfl⟩⟩
        · have s := Evl.Ex.new (o := XvO (.ref CE) (some d0) ea) hea
          exact ⟨LH.same s, eN'.trans (.of s), .inr ⟨pt, nm, ea, d0, e0, rfl, upd_same, s _ _ hd0⟩⟩
      rintro er1 H17 ⟨L17, e17, ev1⟩
      have bE := e17 _ _ bE (fun _ z => by cases z)
      refine ⟨pE, [er0], er1, rfl, rfl, bE, (by show 1 < sizeLine; decide), ?_⟩
      have L18 := L15.mut (o := .lst ([er0] ++ [er1])) (e16.trans e17) (Tabs.un L17.tb) (.inl hE) bE
      have e18 := extN_mut (o := .lst ([er0] ++ [er1])) (e16.trans e17) fE
      have ev0 := (ev0.ext e17).put (o := .lst ([er0] ++ [er1])) bE
      have ev1 := ev1.put (o := .lst ([er0] ++ [er1])) bE
      have bE : upd H17 pE (.lst ([er0] ++ [er1])) pE = some (.lst [er0, er1]) := upd_same
      generalize upd H17 pE (.lst ([er0] ++ [er1])) = H18 at L18 e18 ev0 ev1 bE
      have eA := e15.trans e18
      have hdv := hdv.ext eA
      have hfv := hfv.ext eA
      have b10 := eA _ _ b10 (fun _ z => by cases z)
      clear L16 L17 e16 e17 hE fE L15 e15 e18 eA L0 one hse hca
      -- what each of them tells
      refine ⟨_, rfl, pE, rfl, ⟨_, SqL.of bE⟩, ?_⟩
      refine for_it walk_list (fun j σ Hk => Same H18 Hk ∧ ∃ v16' : Option V, σ = [some (.ref a), some (.ref d), some (.int (0 + (i : Nat))), some (.ref am), some gv, some dv, some cv, some (.ref D), v8, v9', some (.ref p), some gv', some (.bl nmd), some (.str e.shown), some (.str sz), some (.ref pE), v16']) ⟨Same.refl _, _, rfl⟩ (fun j σ Hk _ h => SqL.of (h.1 _ _ bE)) ?_ ?_
      · rintro j x σ Hl Hk hj ⟨Sk, v16', rfl⟩ ⟨rfl, hx⟩
        have ev : ErS4 CE er x Hk := by
          have : x = er0 ∨ x = er1 := by
            have := at_mem hx
            simpa using this
          rcases this with rfl | rfl
          · exact ev0.same Sk
          · exact ev1.same Sk
        have hdk := hdv.same Sk
        have b10k := Sk _ _ b10
        refine ⟨_, rfl, rfl, _, rfl, (by show 0 ≤ sizeLine; decide), fun p9 hp9 => ?_⟩
        have s9 := Evl.Ex.new (o := .lst []) hp9
        have b9 : upd Hk p9 (.lst []) p9 = some (.lst []) := upd_same
        have S9 := Sk.trans s9
        have ev := ev.same s9
        have b10k := s9 _ _ b10k
        have hdk := hdk.same s9
        generalize upd Hk p9 (.lst []) = H9' at b9 S9 ev b10k hdk
        refine ⟨p, p9, _, rfl, rfl, SqL.of b10k, SqL.of b9, ?_⟩
        have eq1 : decide (x = V.non) = (tellL er).isEmpty := by
          rcases ev with ⟨rfl, rfl⟩ | ⟨pt, nm, ea, d0, rfl, rfl, _, _⟩
          · rfl
          · rfl
        refine ⟨rfl, _, rfl, iteF' (by rw [eq1, decide_eq_true rfl]; rfl) ?_⟩
        refine ⟨_, rfl, dv, e, rfl, hdk.dg, rge.sh, rge.d40, rge.lnS, _, rfl, rfl, _, rfl, iteF' (by rw [decide_eq_true rfl]; rfl) ?_⟩
        have et : ∀ (H : Hp) (p5 : Addr), ErS4 CE er x H → H p5 = some (.tup [.ref CB, .ref CN]) → rIsXT K [x, .ref p5] H (fun v H' => v = .bl false ∧ H' = H) ∨ rIsiT K [x, .ref p5] H (fun v H' => v = .bl false ∧ H' = H) := fun H p5 hv h5 => by
          rcases hv with ⟨_, rfl⟩ | ⟨pt, nm, ea, d0, _, rfl, ha, hd0⟩
          · exact .inr ⟨.non, p5, [.ref CB, .ref CN], .type "NoneType", [.ref CB, .ref CN], false, rfl, h5, .cons (.own CB) (.cons (.own CN) .nil), .base .non, kit2 k0F k0N, rfl, rfl⟩
          · exact .inl ⟨ea, CE, some d0, p5, [.ref CB, .ref CN], [.ref CB, .ref CN], false, rfl, ha, (fun d' e => by cases e; exact ⟨_, hd0⟩), E_BadSite.ec, h5, .cons (.own CB) (.cons (.own CN) .nil), kit2 kSF kSN, rfl, rfl⟩
        rcases id ev with ⟨e0, rfl⟩ | ⟨pt, nm, ea, d0, e0, rfl, ha, hd0⟩
        · refine ⟨_, rfl, rfl, _, rfl, iteF' rfl ?_⟩
          refine ⟨_, rfl, (by show 2 ≤ sizeLine; decide), fun p5 h5 => ?_⟩
          have s5 := Evl.Ex.new (o := .tup [.ref CB, .ref CN]) h5
          refine isET_use false (et _ p5 (ev.same s5) upd_same) ⟨_, rfl, iteF' rfl ?_⟩
          refine ⟨_, rfl, rfl, _, rfl, iteF' rfl ?_⟩
          exact ⟨S9.trans s5, _, rfl⟩
        · refine ⟨_, rfl, rfl, _, rfl, iteT' rfl ?_⟩
          refine ⟨_, rfl, ea, CE, some d0, .ref CE, .ref CE, true, rfl, ha, (fun d' e => by cases e; exact ⟨_, hd0⟩), E_BadSite.ec, .own CE, kSS, _, rfl, iteF' rfl ?_⟩
          refine ⟨_, rfl, (by show 2 ≤ sizeLine; decide), fun p5 h5 => ?_⟩
          have s5 := Evl.Ex.new (o := .tup [.ref CB, .ref CN]) h5
          refine isET_use false (et _ p5 (ev.same s5) upd_same) ⟨_, rfl, iteF' rfl ?_⟩
          refine ⟨_, rfl, rfl, _, rfl, iteT' rfl ?_⟩
          have ha := s5 _ _ ha
          have hd0 := s5 _ _ hd0
          have b10k := s5 _ _ b10k
          have S5 := S9.trans s5
          generalize upd H9' p5 (.tup [.ref CB, .ref CN]) = H10' at ha hd0 b10k S5
          refine ⟨_, rfl, ea, CE, d0, _, .str pt, rfl, ha, E_BadSite.xf, E_BadSite.nf, hd0, rfl, _, rfl, ea, CE, d0, _, nm, rfl, ha, E_BadSite.xf, E_BadSite.ng, hd0, rfl, (by show 2 ≤ sizeLine; decide), fun p10 hp10 => ?_⟩
          have s10 := Evl.Ex.new (o := .lst [.str pt, nm]) hp10
          have b11 : upd H10' p10 (.lst [.str pt, nm]) p10 = some (.lst (tellL er)) := by rw [upd_same, e0]; rfl
          have b10k := s10 _ _ b10k
          have S5 := S5.trans s10
          have R := tell_rg tok
          refine ⟨_, _, rfl, (tell_vd tok b11).dg, R.sh, R.d40, R.lnS, ?_⟩
          refine ⟨_, rfl, _, _, rfl, (tell_vd tok b10k).dg, R.sh, R.d40, R.lnS, rfl, _, rfl, iteF' (by rw [decide_eq_true rfl]; rfl) ?_⟩
          exact ⟨S5, _, rfl⟩
      rintro σ Hk ⟨Sk, v16', rfl⟩
      have hfv := hfv.same Sk
      have L19 := L18.same Sk
      refine ⟨_, rfl, _, rfl, ?_⟩
      cases nmd with
      | false => exact iteF' rfl ⟨L19.dr.mono (by omega), L19.tb, _, _, _, _, _, _, _, _, _, _, _, _, _, _, _, rfl⟩
      | true =>
        obtain ⟨gd, kw, rfl, h2, ns', h3, h4, h5⟩ := srt hfv rfl
        refine iteT' rfl ⟨_, rfl, gd, kw, ns', rfl, .inl h2, h3, h4, fun ys2 N hp hso hN => ?_⟩
        rw [h5 ys2 hp hso]
        have R := ysr rfl
        have s20 := Evl.Ex.new (o := .lst (ys.map V.str)) hN
        refine ⟨_, _, rfl, (Vd.lst (H := upd Hk N (.lst (ys.map V.str))) upd_same (VdAll.strs ys)).dg, R.sh, R.d40, R.lnS, _, rfl, rfl, _, rfl, iteF' (by rw [hsz rfl, decide_eq_true rfl]; rfl) ?_⟩
        exact ⟨(L19.same s20).dr.mono (by omega), (L19.same s20).tb, _, _, _, _, _, _, _, _, _, _, _, _, _, _, _, rfl⟩
    · intro σ Hf _
      exact q Hf
end
end WP
namespace WP
open PySem L2
theorem fin {K : PySem.W.Frag} {h : Heap} {w : World} {mg : Str → Option Value} {fa : Addr} {CP : Addr} {tk23 : Tok} {tk25 : Tok} {tk39 : Tok} {tk41 : Tok} {tk43 : Tok} {a_NAMINGS : Addr} {a_WAYS_TO_COUNT : Addr} {C_BadFile : Addr} {C_BadSite : Addr} {C_File e1 e2 : Addr} {C_Site : Addr} {C_NoFile : Addr} {fL cl Pt : Addr} (X : K.In h) (G : h.Ns mainGlobals mg) (hfa : mg "law" = some (.ref fa))
    (BB : BiK K) (Pk : PrintK K CP) (c_LETTERS : PySem.W.nsIn K mainGlobals "LETTERS" = some (some (.str alphabet tk23)))
    (c_LONGEST_NAME : PySem.W.nsIn K mainGlobals "LONGEST_NAME" = some (some (.int 8 tk25))) (d_is_name : DefK K "is_name" s_is_name) (d_is_number : DefK K "is_number" s_is_number)
    (d_is_list : DefK K "is_list" s_is_list) (c_MOST_TICKS : PySem.W.nsIn K mainGlobals "MOST_TICKS" = some (some (.int 1000 tk39))) (c_MOST_CACHES : PySem.W.nsIn K mainGlobals "MOST_CACHES" = some (some (.int 4 tk41)))
    (c_MOST_FILES : PySem.W.nsIn K mainGlobals "MOST_FILES" = some (some (.int 8 tk43))) (c_NAMINGS : PySem.W.nsIn K mainGlobals "NAMINGS" = some (some (.ref a_NAMINGS))) (h_NAMINGS : ∀ H, SqT K H a_NAMINGS [.str "own", .str "plain"])
    (c_WAYS_TO_COUNT : PySem.W.nsIn K mainGlobals "WAYS_TO_COUNT" = some (some (.ref a_WAYS_TO_COUNT))) (h_WAYS_TO_COUNT : ∀ H, SqT K H a_WAYS_TO_COUNT [.str "own", .str "whole"]) (x_BadFile : ExcF K CP "BadFile" C_BadFile)
    (i_BadFile : InitF K C_BadFile s_BadFile___init__ "BadFile.__init__") (o_BadFile_part : PySem.W.findIn K (.ref C_BadFile) "part" = some none) (x_BadSite : ExcF K CP "BadSite" C_BadSite)
    (i_BadSite : InitF K C_BadSite s_BadSite___init__ "BadSite.__init__") (o_BadSite_part : PySem.W.findIn K (.ref C_BadSite) "part" = some none) (o_BadSite_name : PySem.W.findIn K (.ref C_BadSite) "name" = some none)
    (g_File : PySem.W.nsIn K mainGlobals "File" = some (some (.ref C_File))) (cl_File : Cls K C_File) (in_File : InsK K C_File)
    (na_File_own_naming : PySem.W.findIn K (.ref C_File) "own_naming" = some none) (na_File_own_refers : PySem.W.findIn K (.ref C_File) "own_refers" = some none) (na_File_own_hold : PySem.W.findIn K (.ref C_File) "own_hold" = some none)
    (na_File_own_keeps : PySem.W.findIn K (.ref C_File) "own_keeps" = some none) (m_File : MadeK K "File" C_File s_File___init__ "File.__init__" [.ref e1, .int 0, .ref e2]) (t_1 : NilT K e1)
    (t_2 : NilT K e2) (kF : PySem.W.kitOne K (.ref C_File) (.ref C_File) = some true) (pr_File_naming : PropK K C_File "naming" s_File_naming "File.naming")
    (pr_File_refers : PropK K C_File "refers" s_File_refers "File.refers") (pr_File_hold : PropK K C_File "hold" s_File_hold "File.hold") (pr_File_keeps : PropK K C_File "keeps" s_File_keeps "File.keeps")
    (g_Site : PySem.W.nsIn K mainGlobals "Site" = some (some (.ref C_Site))) (cl_Site : Cls K C_Site) (in_Site : InsK K C_Site)
    (na_Site_own_files : PySem.W.findIn K (.ref C_Site) "own_files" = some none) (na_Site_own_trees : PySem.W.findIn K (.ref C_Site) "own_trees" = some none) (na_Site_own_counts : PySem.W.findIn K (.ref C_Site) "own_counts" = some none)
    (m_Site : MadeK K "Site" C_Site s_Site___init__ "Site.__init__" [.str "own"]) (ne_SF : C_Site ≠ C_File) (d_is_ticks : DefK K "is_ticks" s_is_ticks)
    (d_are_names : DefK K "are_names" s_are_names) (d_all_below : DefK K "all_below" s_all_below) (d_tree_below : DefK K "tree_below" s_tree_below)
    (d_need_files : DefK K "need_files" s_need_files) (d_is_entries : DefK K "is_entries" s_is_entries) (x_NoFile : ExcF K CP "NoFile" C_NoFile)
    (d__law_begun : DefK K "_law_begun" s__law_begun) (d__law_blend : DefK K "_law_blend" s__law_blend) (d__law_take : DefK K "_law_take" s__law_take)
    (d__law_pick : DefK K "_law_pick" s__law_pick) (d__law_shuffled : DefK K "_law_shuffled" s__law_shuffled) (d__law_drawn_names : DefK K "_law_drawn_names" s__law_drawn_names)
    (d__law_ticks : DefK K "_law_ticks" s__law_ticks) (d__law_tree : DefK K "_law_tree" s__law_tree) (d__law_is_tree : DefK K "_law_is_tree" s__law_is_tree)
    (d__law_links : DefK K "_law_links" s__law_links) (d__law_model : DefK K "_law_model" s__law_model) (kF_str : PySem.W.kitOne K (.type "str") (.ref C_File) = some false)
    (kSS : PySem.W.kitOne K (.ref C_BadSite) (.ref C_BadSite) = some true) (kSF : PySem.W.kitOne K (.ref C_BadSite) (.ref C_BadFile) = some false) (kSN : PySem.W.kitOne K (.ref C_BadSite) (.ref C_NoFile) = some false)
    (k0F : PySem.W.kitOne K (.type "NoneType") (.ref C_BadFile) = some false) (k0N : PySem.W.kitOne K (.type "NoneType") (.ref C_NoFile) = some false) (d__law_caught : DefK K "_law_caught" s__law_caught)
    (d__law_is_word : DefK K "_law_is_word" s__law_is_word) (d__law_odd : DefK K "_law_odd" s__law_odd) (d__law_below : DefK K "_law_below" s__law_below)
    (d__law_wrong_file : DefK K "_law_wrong_file" s__law_wrong_file) (d__law_wrong : DefK K "_law_wrong" s__law_wrong) (d__law_bent_files : DefK K "_law_bent_files" s__law_bent_files)
    (d__law_bent_entries : DefK K "_law_bent_entries" s__law_bent_entries) (d__law_handed : DefK K "_law_handed" s__law_handed) (d__law_can_bend : DefK K "_law_can_bend" s__law_can_bend)
    (LK : LamK K h s_law fL cl Pt)
    : LawG PySem.Challenge.rw_wholeprint_k04_sites_refused w K 10 63 "_law_script" mg fa h := by
  obtain ⟨f_is_name, p_is_name, a_is_name, k_is_name, F_is_name⟩ := d_is_name
  obtain ⟨f_is_number, p_is_number, a_is_number, k_is_number, F_is_number⟩ := d_is_number
  obtain ⟨f_is_list, p_is_list, a_is_list, k_is_list, F_is_list⟩ := d_is_list
  obtain ⟨f_is_ticks, p_is_ticks, a_is_ticks, k_is_ticks, F_is_ticks⟩ := d_is_ticks
  obtain ⟨f_are_names, p_are_names, a_are_names, k_are_names, F_are_names⟩ := d_are_names
  obtain ⟨f_all_below, p_all_below, a_all_below, k_all_below, F_all_below⟩ := d_all_below
  obtain ⟨f_tree_below, p_tree_below, a_tree_below, k_tree_below, F_tree_below⟩ := d_tree_below
  obtain ⟨f_need_files, p_need_files, a_need_files, k_need_files, F_need_files⟩ := d_need_files
  obtain ⟨f_is_entries, p_is_entries, a_is_entries, k_is_entries, F_is_entries⟩ := d_is_entries
  obtain ⟨f__law_begun, p__law_begun, a__law_begun, k__law_begun, F__law_begun⟩ := d__law_begun
  obtain ⟨f__law_blend, p__law_blend, a__law_blend, k__law_blend, F__law_blend⟩ := d__law_blend
  obtain ⟨f__law_take, p__law_take, a__law_take, k__law_take, F__law_take⟩ := d__law_take
  obtain ⟨f__law_pick, p__law_pick, a__law_pick, k__law_pick, F__law_pick⟩ := d__law_pick
  obtain ⟨f__law_shuffled, p__law_shuffled, a__law_shuffled, k__law_shuffled, F__law_shuffled⟩ := d__law_shuffled
  obtain ⟨f__law_drawn_names, p__law_drawn_names, a__law_drawn_names, k__law_drawn_names, F__law_drawn_names⟩ := d__law_drawn_names
  obtain ⟨f__law_ticks, p__law_ticks, a__law_ticks, k__law_ticks, F__law_ticks⟩ := d__law_ticks
  obtain ⟨f__law_tree, p__law_tree, a__law_tree, k__law_tree, F__law_tree⟩ := d__law_tree
  obtain ⟨f__law_is_tree, p__law_is_tree, a__law_is_tree, k__law_is_tree, F__law_is_tree⟩ := d__law_is_tree
  obtain ⟨f__law_links, p__law_links, a__law_links, k__law_links, F__law_links⟩ := d__law_links
  obtain ⟨f__law_model, p__law_model, a__law_model, k__law_model, F__law_model⟩ := d__law_model
  obtain ⟨f__law_caught, p__law_caught, a__law_caught, k__law_caught, F_caught⟩ := d__law_caught
  obtain ⟨f__law_is_word, p__law_is_word, a__law_is_word, k__law_is_word, F__law_is_word⟩ := d__law_is_word
  obtain ⟨f__law_odd, p__law_odd, a__law_odd, k__law_odd, F__law_odd⟩ := d__law_odd
  obtain ⟨f__law_below, p__law_below, a__law_below, k__law_below, F__law_below⟩ := d__law_below
  obtain ⟨f__law_wrong_file, p__law_wrong_file, a__law_wrong_file, k__law_wrong_file, F__law_wrong_file⟩ := d__law_wrong_file
  obtain ⟨f__law_wrong, p__law_wrong, a__law_wrong, k__law_wrong, F__law_wrong⟩ := d__law_wrong
  obtain ⟨f__law_bent_files, p__law_bent_files, a__law_bent_files, k__law_bent_files, F__law_bent_files⟩ := d__law_bent_files
  obtain ⟨f__law_bent_entries, p__law_bent_entries, a__law_bent_entries, k__law_bent_entries, F__law_bent_entries⟩ := d__law_bent_entries
  obtain ⟨f__law_handed, p__law_handed, a__law_handed, k__law_handed, F__law_handed⟩ := d__law_handed
  obtain ⟨f__law_can_bend, p__law_can_bend, a__law_can_bend, k__law_can_bend, F__law_can_bend⟩ := d__law_can_bend
  obtain ⟨⟨p_law, F_law, hfc, a_law⟩, hHd, hNo, hTb⟩ := LK
  cases hfa.symm.trans (PySem.W.mg_of X G a_law)
  refine ⟨p_law, [(cl, Pt)], spLaw K [(Pt, lamQL)], (fun p hp => by rw [List.mem_singleton.mp hp]; exact hTb), (fun p hp => by rw [List.mem_singleton.mp hp]; exact hNo), (fun p hp => by rw [List.mem_singleton.mp hp]; exact hHd), ?_, fun H a ns hl hT hS => ⟨a, ns, rfl, hS, hl, fun p hp => (by rw [List.mem_singleton.mp hp]; exact .nil (hT _ (List.mem_singleton.mpr rfl))), fun _ => rfl⟩, fun base _ _ hTB => ?_⟩
  · intro s u
    obtain ⟨oc, od, kV, doc, pm, an, cdv, ct, osl, rfl, lk, hcd⟩ := F_law.ex
    exact .of_eq rfl
  have TB := hTB _ (List.mem_singleton.mpr rfl)
  have T := BB.bi X G
  have M_PrintError : mg "PrintError" = some (.ref CP) := PySem.W.mg_of X G Pk.ns
  have G_LETTERS : ∃ t, mg "LETTERS" = some (.str alphabet t) := ⟨_, PySem.W.mg_of X G c_LETTERS⟩
  have G_LONGEST_NAME : ∃ t, mg "LONGEST_NAME" = some (.int 8 t) := ⟨_, PySem.W.mg_of X G c_LONGEST_NAME⟩
  have O_is_name : FnOk PySem.Challenge.rw_wholeprint_k04_sites_refused.prog w K mg base CX0 1 f_is_name p_is_name ["value"] (spIsName K) := ok_is_name F_is_name T G_LETTERS G_LONGEST_NAME
  have D_is_name : Dn PySem.Challenge.rw_wholeprint_k04_sites_refused.prog w K mg base CX0 1 "is_name" ["value"] (spIsName K) := ⟨f_is_name, p_is_name, PySem.W.mg_of X G a_is_name, k_is_name, O_is_name, F_is_name.binds fun _ _ _ _ _ _ us hl => match us, hl with | [_], _ => rfl⟩
  have O_is_number : FnOk PySem.Challenge.rw_wholeprint_k04_sites_refused.prog w K mg base CX0 1 f_is_number p_is_number ["value"] (spIsNumber K) := ok_is_number F_is_number T
  have D_is_number : Dn PySem.Challenge.rw_wholeprint_k04_sites_refused.prog w K mg base CX0 1 "is_number" ["value"] (spIsNumber K) := ⟨f_is_number, p_is_number, PySem.W.mg_of X G a_is_number, k_is_number, O_is_number, F_is_number.binds fun _ _ _ _ _ _ us hl => match us, hl with | [_], _ => rfl⟩
  have O_is_list : FnOk PySem.Challenge.rw_wholeprint_k04_sites_refused.prog w K mg base CX0 1 f_is_list p_is_list ["value"] (spIsList K) := ok_is_list F_is_list T
  have D_is_list : Dn PySem.Challenge.rw_wholeprint_k04_sites_refused.prog w K mg base CX0 1 "is_list" ["value"] (spIsList K) := ⟨f_is_list, p_is_list, PySem.W.mg_of X G a_is_list, k_is_list, O_is_list, F_is_list.binds fun _ _ _ _ _ _ us hl => match us, hl with | [_], _ => rfl⟩
  have G_MOST_TICKS : ∃ t, mg "MOST_TICKS" = some (.int 1000 t) := ⟨_, PySem.W.mg_of X G c_MOST_TICKS⟩
  have G_MOST_CACHES : ∃ t, mg "MOST_CACHES" = some (.int 4 t) := ⟨_, PySem.W.mg_of X G c_MOST_CACHES⟩
  have G_MOST_FILES : ∃ t, mg "MOST_FILES" = some (.int 8 t) := ⟨_, PySem.W.mg_of X G c_MOST_FILES⟩
  have G_NAMINGS : mg "NAMINGS" = some (.ref a_NAMINGS) := PySem.W.mg_of X G c_NAMINGS
  have G_WAYS_TO_COUNT : mg "WAYS_TO_COUNT" = some (.ref a_WAYS_TO_COUNT) := PySem.W.mg_of X G c_WAYS_TO_COUNT
  have G_BadFile : mg "BadFile" = some (.ref C_BadFile) := PySem.W.mg_of X G x_BadFile.ns
  have E_BadFile : Err1 PySem.Challenge.rw_wholeprint_k04_sites_refused.prog w K mg base CP "BadFile" C_BadFile "part" := x_BadFile.err1 X G Pk i_BadFile o_BadFile_part (fun f fd F => ok_init1 F sc_BadFile___init__ rfl rfl rfl (by decide) (by decide) i_BadFile.T o_BadFile_part) fun f fd F => F.binds fun _ _ _ _ _ _ us hl => match us, hl with | [_, _], _ => rfl
  have G_BadSite : mg "BadSite" = some (.ref C_BadSite) := PySem.W.mg_of X G x_BadSite.ns
  have E_BadSite : Err2 PySem.Challenge.rw_wholeprint_k04_sites_refused.prog w K mg base CP "BadSite" C_BadSite "part" "name" := x_BadSite.err2 X G Pk i_BadSite o_BadSite_part o_BadSite_name (fun f fd F => ok_init2 F sc_BadSite___init__ rfl rfl rfl rfl (by decide) (by decide) (by decide) (by decide) i_BadSite.T o_BadSite_part o_BadSite_name) fun f fd F => F.binds fun _ _ _ _ _ _ us hl => match us, hl with | [_, _, _], _ => rfl
  have Z_File_naming : Getter PySem.Challenge.rw_wholeprint_k04_sites_refused.prog w K mg base C_File "naming" "own_naming" := pr_File_naming.getter cl_File na_File_own_naming sc_File_naming rfl rfl fun g fd F => F.binds fun _ _ _ _ _ _ us hl => match us, hl with | [_], _ => rfl
  have Z_File_refers : Getter PySem.Challenge.rw_wholeprint_k04_sites_refused.prog w K mg base C_File "refers" "own_refers" := pr_File_refers.getter cl_File na_File_own_refers sc_File_refers rfl rfl fun g fd F => F.binds fun _ _ _ _ _ _ us hl => match us, hl with | [_], _ => rfl
  have Z_File_hold : Getter PySem.Challenge.rw_wholeprint_k04_sites_refused.prog w K mg base C_File "hold" "own_hold" := pr_File_hold.getter cl_File na_File_own_hold sc_File_hold rfl rfl fun g fd F => F.binds fun _ _ _ _ _ _ us hl => match us, hl with | [_], _ => rfl
  have Z_File_keeps : Getter PySem.Challenge.rw_wholeprint_k04_sites_refused.prog w K mg base C_File "keeps" "own_keeps" := pr_File_keeps.getter cl_File na_File_own_keeps sc_File_keeps rfl rfl fun g fd F => F.binds fun _ _ _ _ _ _ us hl => match us, hl with | [_], _ => rfl
  have G_File : mg "File" = some (.ref C_File) := PySem.W.mg_of X G m_File.ns
  have O_is_ticks : FnOk PySem.Challenge.rw_wholeprint_k04_sites_refused.prog w K mg base CX0 2 f_is_ticks p_is_ticks ["value"] (spIsTicks K) := ok_is_ticks F_is_ticks T D_is_number G_MOST_TICKS
  have D_is_ticks : Dn PySem.Challenge.rw_wholeprint_k04_sites_refused.prog w K mg base CX0 2 "is_ticks" ["value"] (spIsTicks K) := ⟨f_is_ticks, p_is_ticks, PySem.W.mg_of X G a_is_ticks, k_is_ticks, O_is_ticks, F_is_ticks.binds fun _ _ _ _ _ _ us hl => match us, hl with | [_], _ => rfl⟩
  have O_are_names : FnOk PySem.Challenge.rw_wholeprint_k04_sites_refused.prog w K mg base CX0 2 f_are_names p_are_names ["value"] (spAreNames K) := ok_are_names F_are_names T D_is_list D_is_name
  have D_are_names : Dn PySem.Challenge.rw_wholeprint_k04_sites_refused.prog w K mg base CX0 2 "are_names" ["value"] (spAreNames K) := ⟨f_are_names, p_are_names, PySem.W.mg_of X G a_are_names, k_are_names, O_are_names, F_are_names.binds fun _ _ _ _ _ _ us hl => match us, hl with | [_], _ => rfl⟩
  have Z_File : FileMk PySem.Challenge.rw_wholeprint_k04_sites_refused.prog w K mg base C_File C_BadFile e1 e2 := file_mk X G m_File in_File t_1 t_2 fun f fd F => ok_File_init F T ⟨cl_File, na_File_own_naming, na_File_own_refers, na_File_own_hold, na_File_own_keeps⟩ E_BadFile D_are_names D_is_ticks D_is_list G_NAMINGS h_NAMINGS G_MOST_CACHES
  have O_all_below : FnOk PySem.Challenge.rw_wholeprint_k04_sites_refused.prog w K mg base CX0 3 f_all_below p_all_below ["files", "name"] (spBelow K C_File) := ok_all_below F_all_below T Z_File_refers
  have D_all_below : Dn PySem.Challenge.rw_wholeprint_k04_sites_refused.prog w K mg base CX0 3 "all_below" ["files", "name"] (spBelow K C_File) := ⟨f_all_below, p_all_below, PySem.W.mg_of X G a_all_below, k_all_below, O_all_below, F_all_below.binds fun _ _ _ _ _ _ us hl => match us, hl with | [_, _], _ => rfl⟩
  have O_tree_below : FnOk PySem.Challenge.rw_wholeprint_k04_sites_refused.prog w K mg base CX0 3 f_tree_below p_tree_below ["files", "entry"] (spTree K C_File) := ok_tree_below F_tree_below T Z_File_refers
  have D_tree_below : Dn PySem.Challenge.rw_wholeprint_k04_sites_refused.prog w K mg base CX0 3 "tree_below" ["files", "entry"] (spTree K C_File) := ⟨f_tree_below, p_tree_below, PySem.W.mg_of X G a_tree_below, k_tree_below, O_tree_below, F_tree_below.binds fun _ _ _ _ _ _ us hl => match us, hl with | [_, _], _ => rfl⟩
  have O_need_files : FnOk PySem.Challenge.rw_wholeprint_k04_sites_refused.prog w K mg base (L2.CX PySem.Challenge.rw_wholeprint_k04_sites_refused.prog w) 4 f_need_files p_need_files ["files"] (spNeedFiles K C_File C_BadSite) := ok_need_files F_need_files T E_BadSite D_is_name D_all_below Z_File_refers Z_File_keeps G_File in_File kF G_MOST_FILES
  have D_need_files : Dn PySem.Challenge.rw_wholeprint_k04_sites_refused.prog w K mg base (L2.CX PySem.Challenge.rw_wholeprint_k04_sites_refused.prog w) 4 "need_files" ["files"] (spNeedFiles K C_File C_BadSite) := ⟨f_need_files, p_need_files, PySem.W.mg_of X G a_need_files, k_need_files, O_need_files, F_need_files.binds fun _ _ _ _ _ _ us hl => match us, hl with | [_], _ => rfl⟩
  have O_is_entries : FnOk PySem.Challenge.rw_wholeprint_k04_sites_refused.prog w K mg base CX0 3 f_is_entries p_is_entries ["files", "value"] (spEntries K C_File) := ok_is_entries F_is_entries T D_are_names Z_File_naming
  have D_is_entries : Dn PySem.Challenge.rw_wholeprint_k04_sites_refused.prog w K mg base CX0 3 "is_entries" ["files", "value"] (spEntries K C_File) := ⟨f_is_entries, p_is_entries, PySem.W.mg_of X G a_is_entries, k_is_entries, O_is_entries, F_is_entries.binds fun _ _ _ _ _ _ us hl => match us, hl with | [_, _], _ => rfl⟩
  have Z_SiteT : SiteMkT PySem.Challenge.rw_wholeprint_k04_sites_refused.prog w K mg base C_Site C_File C_BadSite := site_mkT X G m_Site fun f fd F => ok_Site_initT F T ⟨cl_Site, na_Site_own_files, na_Site_own_trees, na_Site_own_counts⟩ ne_SF E_BadSite D_need_files D_is_entries D_tree_below G_WAYS_TO_COUNT h_WAYS_TO_COUNT
  have Z_SiteTK : SiteMkTK PySem.Challenge.rw_wholeprint_k04_sites_refused.prog w K mg base C_Site C_File C_BadSite := site_mkTK X G m_Site fun f fd F => ok_Site_initT F T ⟨cl_Site, na_Site_own_files, na_Site_own_trees, na_Site_own_counts⟩ ne_SF E_BadSite D_need_files D_is_entries D_tree_below G_WAYS_TO_COUNT h_WAYS_TO_COUNT
  have G_NoFile : mg "NoFile" = some (.ref C_NoFile) := PySem.W.mg_of X G x_NoFile.ns
  have O__law_begun : FnOk PySem.Challenge.rw_wholeprint_k04_sites_refused.prog w K mg base CX0 1 f__law_begun p__law_begun ["_law_script"] (spBegun K) := ok_begun F__law_begun T
  have D__law_begun : Dn PySem.Challenge.rw_wholeprint_k04_sites_refused.prog w K mg base CX0 1 "_law_begun" ["_law_script"] (spBegun K) := ⟨f__law_begun, p__law_begun, PySem.W.mg_of X G a__law_begun, k__law_begun, O__law_begun, F__law_begun.binds fun _ _ _ _ _ _ us hl => match us, hl with | [_], _ => rfl⟩
  have O__law_blend : FnOk PySem.Challenge.rw_wholeprint_k04_sites_refused.prog w K mg base CX0 1 f__law_blend p__law_blend ["_law_draw"] (spBlend) := ok_blend F__law_blend T
  have D__law_blend : Dn PySem.Challenge.rw_wholeprint_k04_sites_refused.prog w K mg base CX0 1 "_law_blend" ["_law_draw"] (spBlend) := ⟨f__law_blend, p__law_blend, PySem.W.mg_of X G a__law_blend, k__law_blend, O__law_blend, F__law_blend.binds fun _ _ _ _ _ _ us hl => match us, hl with | [_], _ => rfl⟩
  have O__law_take : FnOk PySem.Challenge.rw_wholeprint_k04_sites_refused.prog w K mg base CX0 2 f__law_take p__law_take ["_law_draw", "_law_size"] (spTake) := ok_take F__law_take T D__law_blend
  have D__law_take : Dn PySem.Challenge.rw_wholeprint_k04_sites_refused.prog w K mg base CX0 2 "_law_take" ["_law_draw", "_law_size"] (spTake) := ⟨f__law_take, p__law_take, PySem.W.mg_of X G a__law_take, k__law_take, O__law_take, F__law_take.binds fun _ _ _ _ _ _ us hl => match us, hl with | [_, _], _ => rfl⟩
  have O__law_pick : FnOk PySem.Challenge.rw_wholeprint_k04_sites_refused.prog w K mg base CX0 3 f__law_pick p__law_pick ["_law_draw", "_law_some"] (spPick K) := ok_pick F__law_pick T D__law_take
  have D__law_pick : Dn PySem.Challenge.rw_wholeprint_k04_sites_refused.prog w K mg base CX0 3 "_law_pick" ["_law_draw", "_law_some"] (spPick K) := ⟨f__law_pick, p__law_pick, PySem.W.mg_of X G a__law_pick, k__law_pick, O__law_pick, F__law_pick.binds fun _ _ _ _ _ _ us hl => match us, hl with | [_, _], _ => rfl⟩
  have O__law_shuffled : FnOk PySem.Challenge.rw_wholeprint_k04_sites_refused.prog w K mg base CX0 3 f__law_shuffled p__law_shuffled ["_law_draw", "_law_some"] (spShuffled K) := ok__law_shuffled F__law_shuffled T D__law_take
  have D__law_shuffled : Dn PySem.Challenge.rw_wholeprint_k04_sites_refused.prog w K mg base CX0 3 "_law_shuffled" ["_law_draw", "_law_some"] (spShuffled K) := ⟨f__law_shuffled, p__law_shuffled, PySem.W.mg_of X G a__law_shuffled, k__law_shuffled, O__law_shuffled, F__law_shuffled.binds fun _ _ _ _ _ _ us hl => match us, hl with | [_, _], _ => rfl⟩
  have O__law_drawn_names : FnOk PySem.Challenge.rw_wholeprint_k04_sites_refused.prog w K mg base CX0 4 f__law_drawn_names p__law_drawn_names ["_law_draw", "_law_total"] (spNames K) := ok__law_drawn_names F__law_drawn_names T D__law_take D__law_pick
  have D__law_drawn_names : Dn PySem.Challenge.rw_wholeprint_k04_sites_refused.prog w K mg base CX0 4 "_law_drawn_names" ["_law_draw", "_law_total"] (spNames K) := ⟨f__law_drawn_names, p__law_drawn_names, PySem.W.mg_of X G a__law_drawn_names, k__law_drawn_names, O__law_drawn_names, F__law_drawn_names.binds fun _ _ _ _ _ _ us hl => match us, hl with | [_, _], _ => rfl⟩
  have O__law_ticks : FnOk PySem.Challenge.rw_wholeprint_k04_sites_refused.prog w K mg base CX0 4 f__law_ticks p__law_ticks ["_law_draw"] (spTicks) := ok__law_ticks F__law_ticks T D__law_take D__law_pick
  have D__law_ticks : Dn PySem.Challenge.rw_wholeprint_k04_sites_refused.prog w K mg base CX0 4 "_law_ticks" ["_law_draw"] (spTicks) := ⟨f__law_ticks, p__law_ticks, PySem.W.mg_of X G a__law_ticks, k__law_ticks, O__law_ticks, F__law_ticks.binds fun _ _ _ _ _ _ us hl => match us, hl with | [_], _ => rfl⟩
  have O__law_tree : FnOk PySem.Challenge.rw_wholeprint_k04_sites_refused.prog w K mg base CX0 1 f__law_tree p__law_tree ["_law_pages", "_law_entry"] (spLawTree K) := ok__law_tree F__law_tree T
  have D__law_tree : Dn PySem.Challenge.rw_wholeprint_k04_sites_refused.prog w K mg base CX0 1 "_law_tree" ["_law_pages", "_law_entry"] (spLawTree K) := ⟨f__law_tree, p__law_tree, PySem.W.mg_of X G a__law_tree, k__law_tree, O__law_tree, F__law_tree.binds fun _ _ _ _ _ _ us hl => match us, hl with | [_, _], _ => rfl⟩
  have O__law_is_tree : FnOk PySem.Challenge.rw_wholeprint_k04_sites_refused.prog w K mg base CX0 2 f__law_is_tree p__law_is_tree ["_law_pages", "_law_entry"] (spLawIsTree K) := ok__law_is_tree F__law_is_tree T D__law_tree
  have D__law_is_tree : Dn PySem.Challenge.rw_wholeprint_k04_sites_refused.prog w K mg base CX0 2 "_law_is_tree" ["_law_pages", "_law_entry"] (spLawIsTree K) := ⟨f__law_is_tree, p__law_is_tree, PySem.W.mg_of X G a__law_is_tree, k__law_is_tree, O__law_is_tree, F__law_is_tree.binds fun _ _ _ _ _ _ us hl => match us, hl with | [_, _], _ => rfl⟩
  have O__law_links : FnOk PySem.Challenge.rw_wholeprint_k04_sites_refused.prog w K mg base CX0 4 f__law_links p__law_links ["_law_draw", "_law_names"] (spLinks K) := ok__law_links F__law_links T D__law_take D__law_pick D__law_tree D__law_is_tree
  have D__law_links : Dn PySem.Challenge.rw_wholeprint_k04_sites_refused.prog w K mg base CX0 4 "_law_links" ["_law_draw", "_law_names"] (spLinks K) := ⟨f__law_links, p__law_links, PySem.W.mg_of X G a__law_links, k__law_links, O__law_links, F__law_links.binds fun _ _ _ _ _ _ us hl => match us, hl with | [_, _], _ => rfl⟩
  have O__law_model : FnOk PySem.Challenge.rw_wholeprint_k04_sites_refused.prog w K mg base CX0 5 f__law_model p__law_model ["_law_draw", "_law_most"] (spModel K) := ok__law_model F__law_model T D__law_take D__law_pick D__law_drawn_names D__law_links D__law_ticks D__law_shuffled
  have D__law_model : Dn PySem.Challenge.rw_wholeprint_k04_sites_refused.prog w K mg base CX0 5 "_law_model" ["_law_draw", "_law_most"] (spModel K) := ⟨f__law_model, p__law_model, PySem.W.mg_of X G a__law_model, k__law_model, O__law_model, F__law_model.binds fun _ _ _ _ _ _ us hl => match us, hl with | [_, _], _ => rfl⟩
  have D_is_treeG : Dn PySem.Challenge.rw_wholeprint_k04_sites_refused.prog w K mg base CX0 2 "_law_is_tree" ["_law_pages", "_law_entry"] (spLawIsTreeG K) := ⟨f__law_is_tree, p__law_is_tree, PySem.W.mg_of X G a__law_is_tree, k__law_is_tree, ok__law_is_treeG F__law_is_tree T D__law_tree, F__law_is_tree.binds fun _ _ _ _ _ _ us hl => match us, hl with | [_, _], _ => rfl⟩
  have M_caught : mg "_law_caught" = some (.ref f__law_caught) := PySem.W.mg_of X G a__law_caught
  have O__law_is_word : FnOk PySem.Challenge.rw_wholeprint_k04_sites_refused.prog w K mg base CX0 1 f__law_is_word p__law_is_word ["_law_item"] (spIsName K) := ok__law_is_word F__law_is_word T
  have D__law_is_word : Dn PySem.Challenge.rw_wholeprint_k04_sites_refused.prog w K mg base CX0 1 "_law_is_word" ["_law_item"] (spIsName K) := ⟨f__law_is_word, p__law_is_word, PySem.W.mg_of X G a__law_is_word, k__law_is_word, O__law_is_word, F__law_is_word.binds fun _ _ _ _ _ _ us hl => match us, hl with | [_], _ => rfl⟩
  have O__law_odd : FnOk PySem.Challenge.rw_wholeprint_k04_sites_refused.prog w K mg base CX0 4 f__law_odd p__law_odd ["_law_draw"] (spOddD oddL) := ok__law_oddD F__law_odd T D__law_pick
  have D__law_odd : Dn PySem.Challenge.rw_wholeprint_k04_sites_refused.prog w K mg base CX0 4 "_law_odd" ["_law_draw"] (spOddD oddL) := ⟨f__law_odd, p__law_odd, PySem.W.mg_of X G a__law_odd, k__law_odd, O__law_odd, F__law_odd.binds fun _ _ _ _ _ _ us hl => match us, hl with | [_], _ => rfl⟩
  have O__law_below : FnOk PySem.Challenge.rw_wholeprint_k04_sites_refused.prog w K mg base CX0 1 f__law_below p__law_below ["_law_pages", "_law_name"] (spBelow4 K) := ok__law_below4 F__law_below T
  have D__law_below : Dn PySem.Challenge.rw_wholeprint_k04_sites_refused.prog w K mg base CX0 1 "_law_below" ["_law_pages", "_law_name"] (spBelow4 K) := ⟨f__law_below, p__law_below, PySem.W.mg_of X G a__law_below, k__law_below, O__law_below, F__law_below.binds fun _ _ _ _ _ _ us hl => match us, hl with | [_, _], _ => rfl⟩
  have O__law_wrong_file : FnOk PySem.Challenge.rw_wholeprint_k04_sites_refused.prog w K mg base CX0 2 f__law_wrong_file p__law_wrong_file ["_law_pages"] (spWrongFile K) := ok__law_wrong_file F__law_wrong_file T D__law_below
  have D__law_wrong_file : Dn PySem.Challenge.rw_wholeprint_k04_sites_refused.prog w K mg base CX0 2 "_law_wrong_file" ["_law_pages"] (spWrongFile K) := ⟨f__law_wrong_file, p__law_wrong_file, PySem.W.mg_of X G a__law_wrong_file, k__law_wrong_file, O__law_wrong_file, F__law_wrong_file.binds fun _ _ _ _ _ _ us hl => match us, hl with | [_], _ => rfl⟩
  have O__law_wrong : FnOk PySem.Challenge.rw_wholeprint_k04_sites_refused.prog w K mg base CX0 3 f__law_wrong p__law_wrong ["_law_pages", "_law_doors", "_law_counting"] (spWrong4 K) := ok__law_wrong4 F__law_wrong T D__law_is_word D__law_wrong_file D_is_treeG
  have D__law_wrong : Dn PySem.Challenge.rw_wholeprint_k04_sites_refused.prog w K mg base CX0 3 "_law_wrong" ["_law_pages", "_law_doors", "_law_counting"] (spWrong4 K) := ⟨f__law_wrong, p__law_wrong, PySem.W.mg_of X G a__law_wrong, k__law_wrong, O__law_wrong, F__law_wrong.binds fun _ _ _ _ _ _ us hl => match us, hl with | [_, _, _], _ => rfl⟩
  have O__law_bent_files : FnOk PySem.Challenge.rw_wholeprint_k04_sites_refused.prog w K mg base CX0 4 f__law_bent_files p__law_bent_files ["_law_draw", "_law_pages"] (spBentF K) := ok__law_bent_files F__law_bent_files T D__law_take D__law_pick
  have D__law_bent_files : Dn PySem.Challenge.rw_wholeprint_k04_sites_refused.prog w K mg base CX0 4 "_law_bent_files" ["_law_draw", "_law_pages"] (spBentF K) := ⟨f__law_bent_files, p__law_bent_files, PySem.W.mg_of X G a__law_bent_files, k__law_bent_files, O__law_bent_files, F__law_bent_files.binds fun _ _ _ _ _ _ us hl => match us, hl with | [_, _], _ => rfl⟩
  have O__law_bent_entries : FnOk PySem.Challenge.rw_wholeprint_k04_sites_refused.prog w K mg base CX0 5 f__law_bent_entries p__law_bent_entries ["_law_draw", "_law_pages", "_law_doors"] (spBentD) := ok__law_bent_entries (K := K) F__law_bent_entries T D__law_take D__law_pick D__law_odd
  have D__law_bent_entries : Dn PySem.Challenge.rw_wholeprint_k04_sites_refused.prog w K mg base CX0 5 "_law_bent_entries" ["_law_draw", "_law_pages", "_law_doors"] (spBentD) := ⟨f__law_bent_entries, p__law_bent_entries, PySem.W.mg_of X G a__law_bent_entries, k__law_bent_entries, O__law_bent_entries, F__law_bent_entries.binds fun _ _ _ _ _ _ us hl => match us, hl with | [_, _, _], _ => rfl⟩
  have O__law_handed : FnOk PySem.Challenge.rw_wholeprint_k04_sites_refused.prog w K mg base CX0 5 f__law_handed p__law_handed ["_law_pages"] (spHanded K C_File) := ok__law_handed F__law_handed T Z_File kF_str
  have D__law_handed : Dn PySem.Challenge.rw_wholeprint_k04_sites_refused.prog w K mg base CX0 5 "_law_handed" ["_law_pages"] (spHanded K C_File) := ⟨f__law_handed, p__law_handed, PySem.W.mg_of X G a__law_handed, k__law_handed, O__law_handed, F__law_handed.binds fun _ _ _ _ _ _ us hl => match us, hl with | [_], _ => rfl⟩
  have O__law_can_bend : FnOk PySem.Challenge.rw_wholeprint_k04_sites_refused.prog w K mg base CX0 2 f__law_can_bend p__law_can_bend ["_law_pages"] (spCanB K) := ok__law_can_bend F__law_can_bend T D__law_is_word
  have D__law_can_bend : Dn PySem.Challenge.rw_wholeprint_k04_sites_refused.prog w K mg base CX0 2 "_law_can_bend" ["_law_pages"] (spCanB K) := ⟨f__law_can_bend, p__law_can_bend, PySem.W.mg_of X G a__law_can_bend, k__law_can_bend, O__law_can_bend, F__law_can_bend.binds fun _ _ _ _ _ _ us hl => match us, hl with | [_], _ => rfl⟩
  exact ok_law F_law hfc T TB F_caught M_caught M_PrintError E_BadSite G_BadFile G_NoFile kSS kSF kSN k0F k0N D__law_begun D__law_take D__law_pick D__law_model D__law_odd D__law_can_bend D__law_bent_files D__law_bent_entries D__law_wrong D__law_handed Z_SiteT Z_SiteTK
end WP
def PySem.W.Fast.tw804092199982636349 : Nat := 0
def PySem.W.Fast.tw877418901244307835 : Nat := 0
def PySem.W.Fast.tw10331076936508463125 : Nat := 0
def PySem.W.Fast.tw5322503070348760518 : Nat := 0
def PySem.W.Fast.tw15711008358662736583 : Nat := 0
def PySem.W.Fast.tw18014566747633850264 : Nat := 0
def PySem.W.Fast.tw8278184513297445926 : Nat := 0
def PySem.W.Fast.tw4400218110560558830 : Nat := 0
def PySem.W.Fast.tw8573034625154125844 : Nat := 0
def PySem.W.Fast.tw16333567060226556081 : Nat := 0
def PySem.W.Fast.tw3018857605461269779 : Nat := 0
def PySem.W.Fast.tw6633157815615678533 : Nat := 0
def PySem.W.Fast.tw17039946855547200883 : Nat := 0
def PySem.W.Fast.tw11334126183370598875 : Nat := 0
set_option maxHeartbeats 0
open PySem PySem.W PyProof.Rows
open_top head for PySem.Challenge.rw_wholeprint_k04_sites_refused
open PySem PySem.W PyProof.Rows WP
theorem PySem.Challenge.cw_wholeprint_k04_sites_refused_holds : PySem.Challenge.rw_wholeprint_k04_sites_refused.Holds :=
  head (by
  k_fill
  refine WP.walk_G (l := PySem.Challenge.rw_wholeprint_k04_sites_refused) (n := 63) (k := 10) (x := "_law_script") rfl (by decide) rfl ⟨rfl, by decide, by decide⟩ (fun w h Y => PySem.W.km_in_of Y) ?F
  intro w mg fa h Y KX G hmg
  refine' fin KX G hmg (bi_mk KX ?q1 ?q2 ?q3 ?q4 ?q5 ?q6 ?q7 ?q8 ?q9 ?q10 ?q11 ?q12 ?q13 ?q14 ?q15 ?q16 ?q17 ?q18)
    (print_mk KX ?q19 ?q20 ?q21 ?q22)
    ?q24
    ?q26
    (def_mk KX ?q27 ?q28 ?q29 ?q30)
    (def_mk KX ?q31 ?q32 ?q33 ?q34)
    (def_mk KX ?q35 ?q36 ?q37 ?q38)
    ?q40
    ?q42
    ?q44
    ?q45
    (tup2_mk KX ?q46)
    ?q47
    (tup2_mk KX ?q48)
    (excf_mk KX ?q49 ?q50 ?q51 ?q52 ?q53 ?q54 ?q55 ?q56 ?q57 ?q58 ?q59 ?q60)
    (initf_mk KX ?q61 ?q62 ?q63 ?q64 ?q65 ?q66 ?q67 ?q68 ?q69 ?q70 ?q71)
    ?q72
    (excf_mk KX ?q73 ?q74 ?q75 ?q76 ?q77 ?q78 ?q79 ?q80 ?q81 ?q82 ?q83 ?q84)
    (initf_mk KX ?q85 ?q86 ?q87 ?q88 ?q89 ?q90 ?q91 ?q92 ?q93 ?q94 ?q95)
    ?q96
    ?q97
    ?q98
    (cls_mk KX ?q99 ?q100 ?q101 ?q102)
    (insk_mk KX (cls_mk KX ?q103 ?q104 ?q105 ?q106) ?q107 ?q108 ?q109 ?q110 ?q111 ?q112 ?q113 ?q114 ?q115 ?q116)
    ?q117
    ?q118
    ?q119
    ?q120
    (made_mk (dvs := [.ref _, .int 0, .ref _]) KX ?mF1 (cls_mk KX ?q121 ?q122 ?q123 ?q124) ?mF2 ?mF3 ?mF4 ?mF5 ?mF6 ?mF7 ?mF8 ?mF9 ?mF10 (.cons rfl (.cons ⟨_, rfl⟩ (.cons rfl .nil))) (fun z => by cases z))
    (nilT_mk KX ?q125)
    (nilT_mk KX ?q126)
    ?q127
    (prop_mk KX ?q128 ?q129 ?q130 ?q131 ?q132 ?q133 ?q134)
    (prop_mk KX ?q135 ?q136 ?q137 ?q138 ?q139 ?q140 ?q141)
    (prop_mk KX ?q142 ?q143 ?q144 ?q145 ?q146 ?q147 ?q148)
    (prop_mk KX ?q149 ?q150 ?q151 ?q152 ?q153 ?q154 ?q155)
    ?q156
    (cls_mk KX ?q157 ?q158 ?q159 ?q160)
    (insk_mk KX (cls_mk KX ?q161 ?q162 ?q163 ?q164) ?q165 ?q166 ?q167 ?q168 ?q169 ?q170 ?q171 ?q172 ?q173 ?q174)
    ?q175
    ?q176
    ?q177
    (made_mk (dvs := [.str "own"]) KX ?mS1 (cls_mk KX ?q178 ?q179 ?q180 ?q181) ?mS2 ?mS3 ?mS4 ?mS5 ?mS6 ?mS7 ?mS8 ?mS9 ?mS10 (.cons ⟨_, rfl⟩ .nil) (fun z => by cases z))
    ?q182
    (def_mk KX ?q183 ?q184 ?q185 ?q186)
    (def_mk KX ?q187 ?q188 ?q189 ?q190)
    (def_mk KX ?q191 ?q192 ?q193 ?q194)
    (def_mk KX ?q195 ?q196 ?q197 ?q198)
    (def_mk KX ?q199 ?q200 ?q201 ?q202)
    (def_mk KX ?q203 ?q204 ?q205 ?q206)
    (excf_mk KX ?q207 ?q208 ?q209 ?q210 ?q211 ?q212 ?q213 ?q214 ?q215 ?q216 ?q217 ?q218)
    (def_mk KX ?q219 ?q220 ?q221 ?q222)
    (def_mk KX ?q223 ?q224 ?q225 ?q226)
    (def_mk KX ?q227 ?q228 ?q229 ?q230)
    (def_mk KX ?q231 ?q232 ?q233 ?q234)
    (def_mk KX ?q235 ?q236 ?q237 ?q238)
    (def_mk KX ?q239 ?q240 ?q241 ?q242)
    (def_mk KX ?q243 ?q244 ?q245 ?q246)
    (def_mk KX ?q247 ?q248 ?q249 ?q250)
    (def_mk KX ?q251 ?q252 ?q253 ?q254)
    (def_mk KX ?q255 ?q256 ?q257 ?q258)
    (def_mk KX ?q259 ?q260 ?q261 ?q262)
    ?q263
    ?q264
    ?q265
    ?q266
    ?q267
    ?q268
    (def_mk KX ?q269 ?q270 ?q271 ?q272)
    (def_mk KX ?q273 ?q274 ?q275 ?q276)
    (def_mk KX ?q277 ?q278 ?q279 ?q280)
    (def_mk KX ?q281 ?q282 ?q283 ?q284)
    (def_mk KX ?q285 ?q286 ?q287 ?q288)
    (def_mk KX ?q289 ?q290 ?q291 ?q292)
    (def_mk KX ?q293 ?q294 ?q295 ?q296)
    (def_mk KX ?q297 ?q298 ?q299 ?q300)
    (def_mk KX ?q301 ?q302 ?q303 ?q304)
    (def_mk KX ?q305 ?q306 ?q307 ?q308)
    (lam_mk KX ?lm1 ?lm2 ?lm3 ?lm4 (PySem.W.km_tabs_of Y) ?lm5 ?lm6 ?lm7)
  (case q1 => k_is)
  (case q2 => k_is)
  (case q3 => k_is)
  (case q4 => k_is)
  (case q5 => k_is)
  (case q6 => k_is)
  (case q7 => k_is)
  (case q8 => k_is)
  (case q9 => k_is)
  (case q10 => k_is)
  (case q11 => k_is)
  (case q12 => k_is)
  (case q13 => k_is)
  (case q14 => k_is)
  (case q15 => k_is)
  (case q16 => k_is)
  (case q17 => k_is)
  (case q18 => k_is)
  (case q19 => k_is)
  (case q20 => k_is)
  (case q21 => k_is)
  (case q22 => k_is)
  (case q24 => k_is)
  (case q26 => k_is)
  (case q27 => k_is)
  (case q28 => k_is)
  (case q29 => k_is)
  (case q30 => k_is)
  (case q31 => k_is)
  (case q32 => k_is)
  (case q33 => k_is)
  (case q34 => k_is)
  (case q35 => k_is)
  (case q36 => k_is)
  (case q37 => k_is)
  (case q38 => k_is)
  (case q40 => k_is)
  (case q42 => k_is)
  (case q44 => k_is)
  (case q45 => k_is)
  (case q46 => k_is)
  (case q47 => k_is)
  (case q48 => k_is)
  (case q49 => k_is)
  (case q50 => k_is)
  (case q51 => k_is)
  (case q52 => k_is)
  (case q53 => k_is)
  (case q54 => k_is)
  (case q55 => k_is)
  (case q56 => k_is)
  (case q57 => k_is)
  (case q58 => k_is)
  (case q59 => k_is)
  (case q60 => first | rfl | k_is)
  (case q61 => k_is)
  (case q62 => decide)
  (case q63 => k_is)
  (case q64 => k_is)
  (case q65 => k_is)
  (case q66 => k_is)
  (case q67 => k_is)
  (case q68 => k_is)
  (case q69 => k_is)
  (case q70 => k_is)
  (case q71 => k_is)
  (case q72 => k_is)
  (case q73 => k_is)
  (case q74 => k_is)
  (case q75 => k_is)
  (case q76 => k_is)
  (case q77 => k_is)
  (case q78 => k_is)
  (case q79 => k_is)
  (case q80 => k_is)
  (case q81 => k_is)
  (case q82 => k_is)
  (case q83 => k_is)
  (case q84 => first | rfl | k_is)
  (case q85 => k_is)
  (case q86 => decide)
  (case q87 => k_is)
  (case q88 => k_is)
  (case q89 => k_is)
  (case q90 => k_is)
  (case q91 => k_is)
  (case q92 => k_is)
  (case q93 => k_is)
  (case q94 => k_is)
  (case q95 => k_is)
  (case q96 => k_is)
  (case q97 => k_is)
  (case q98 => k_is)
  (case q99 => k_is)
  (case q100 => k_is)
  (case q101 => k_is)
  (case q102 => k_is)
  (case q103 => k_is)
  (case q104 => k_is)
  (case q105 => k_is)
  (case q106 => k_is)
  (case q107 => k_is)
  (case q108 => k_is)
  (case q109 => k_is)
  (case q110 => k_is)
  (case q111 => kernel_rfl)
  (case q112 => kernel_rfl)
  (case q113 => kernel_rfl)
  (case q114 => kernel_rfl)
  (case q115 => kernel_rfl)
  (case q116 => kernel_rfl)
  (case q117 => k_is)
  (case q118 => k_is)
  (case q119 => k_is)
  (case q120 => k_is)
  (case q121 => k_is)
  (case q122 => k_is)
  (case q123 => k_is)
  (case q124 => k_is)
  (case mF1 => k_is)
  (case mF2 => k_is)
  (case mF3 => k_is)
  (case mF4 => k_is)
  (case mF5 => k_is)
  (case mF6 => k_is)
  (case mF7 => k_is)
  (case mF8 => k_is)
  (case mF9 => k_is)
  (case mF10 => rfl)
  (case q125 => k_is)
  (case q126 => k_is)
  (case q127 => kernel_rfl)
  (case q128 => k_is)
  (case q129 => k_is)
  (case q130 => k_is)
  (case q131 => k_is)
  (case q132 => k_is)
  (case q133 => k_is)
  (case q134 => k_is)
  (case q135 => k_is)
  (case q136 => k_is)
  (case q137 => k_is)
  (case q138 => k_is)
  (case q139 => k_is)
  (case q140 => k_is)
  (case q141 => k_is)
  (case q142 => k_is)
  (case q143 => k_is)
  (case q144 => k_is)
  (case q145 => k_is)
  (case q146 => k_is)
  (case q147 => k_is)
  (case q148 => k_is)
  (case q149 => k_is)
  (case q150 => k_is)
  (case q151 => k_is)
  (case q152 => k_is)
  (case q153 => k_is)
  (case q154 => k_is)
  (case q155 => k_is)
  (case q156 => k_is)
  (case q157 => k_is)
  (case q158 => k_is)
  (case q159 => k_is)
  (case q160 => k_is)
  (case q161 => k_is)
  (case q162 => k_is)
  (case q163 => k_is)
  (case q164 => k_is)
  (case q165 => k_is)
  (case q166 => k_is)
  (case q167 => k_is)
  (case q168 => k_is)
  (case q169 => kernel_rfl)
  (case q170 => kernel_rfl)
  (case q171 => kernel_rfl)
  (case q172 => kernel_rfl)
  (case q173 => kernel_rfl)
  (case q174 => kernel_rfl)
  (case q175 => k_is)
  (case q176 => k_is)
  (case q177 => k_is)
  (case q178 => k_is)
  (case q179 => k_is)
  (case q180 => k_is)
  (case q181 => k_is)
  (case mS1 => k_is)
  (case mS2 => k_is)
  (case mS3 => k_is)
  (case mS4 => k_is)
  (case mS5 => k_is)
  (case mS6 => k_is)
  (case mS7 => k_is)
  (case mS8 => k_is)
  (case mS9 => k_is)
  (case mS10 => rfl)
  (case q182 => decide)
  (case q183 => k_is)
  (case q184 => k_is)
  (case q185 => k_is)
  (case q186 => k_is)
  (case q187 => k_is)
  (case q188 => k_is)
  (case q189 => k_is)
  (case q190 => k_is)
  (case q191 => k_is)
  (case q192 => k_is)
  (case q193 => k_is)
  (case q194 => k_is)
  (case q195 => k_is)
  (case q196 => k_is)
  (case q197 => k_is)
  (case q198 => k_is)
  (case q199 => k_is)
  (case q200 => k_is)
  (case q201 => k_is)
  (case q202 => k_is)
  (case q203 => k_is)
  (case q204 => k_is)
  (case q205 => k_is)
  (case q206 => k_is)
  (case q207 => k_is)
  (case q208 => k_is)
  (case q209 => k_is)
  (case q210 => k_is)
  (case q211 => k_is)
  (case q212 => k_is)
  (case q213 => k_is)
  (case q214 => k_is)
  (case q215 => k_is)
  (case q216 => k_is)
  (case q217 => k_is)
  (case q218 => first | rfl | k_is)
  (case q219 => k_is)
  (case q220 => k_is)
  (case q221 => k_is)
  (case q222 => k_is)
  (case q223 => k_is)
  (case q224 => k_is)
  (case q225 => k_is)
  (case q226 => k_is)
  (case q227 => k_is)
  (case q228 => k_is)
  (case q229 => k_is)
  (case q230 => k_is)
  (case q231 => k_is)
  (case q232 => k_is)
  (case q233 => k_is)
  (case q234 => k_is)
  (case q235 => k_is)
  (case q236 => k_is)
  (case q237 => k_is)
  (case q238 => k_is)
  (case q239 => k_is)
  (case q240 => k_is)
  (case q241 => k_is)
  (case q242 => k_is)
  (case q243 => k_is)
  (case q244 => k_is)
  (case q245 => k_is)
  (case q246 => k_is)
  (case q247 => k_is)
  (case q248 => k_is)
  (case q249 => k_is)
  (case q250 => k_is)
  (case q251 => k_is)
  (case q252 => k_is)
  (case q253 => k_is)
  (case q254 => k_is)
  (case q255 => k_is)
  (case q256 => k_is)
  (case q257 => k_is)
  (case q258 => k_is)
  (case q259 => k_is)
  (case q260 => k_is)
  (case q261 => k_is)
  (case q262 => k_is)
  (case q263 => kernel_rfl)
  (case q264 => kernel_rfl)
  (case q265 => kernel_rfl)
  (case q266 => kernel_rfl)
  (case q267 => kernel_rfl)
  (case q268 => kernel_rfl)
  (case q269 => k_is)
  (case q270 => k_is)
  (case q271 => k_is)
  (case q272 => k_is)
  (case q273 => k_is)
  (case q274 => k_is)
  (case q275 => k_is)
  (case q276 => k_is)
  (case q277 => k_is)
  (case q278 => k_is)
  (case q279 => k_is)
  (case q280 => k_is)
  (case q281 => k_is)
  (case q282 => k_is)
  (case q283 => k_is)
  (case q284 => k_is)
  (case q285 => k_is)
  (case q286 => k_is)
  (case q287 => k_is)
  (case q288 => k_is)
  (case q289 => k_is)
  (case q290 => k_is)
  (case q291 => k_is)
  (case q292 => k_is)
  (case q293 => k_is)
  (case q294 => k_is)
  (case q295 => k_is)
  (case q296 => k_is)
  (case q297 => k_is)
  (case q298 => k_is)
  (case q299 => k_is)
  (case q300 => k_is)
  (case q301 => k_is)
  (case q302 => k_is)
  (case q303 => k_is)
  (case q304 => k_is)
  (case q305 => k_is)
  (case q306 => k_is)
  (case q307 => k_is)
  (case q308 => k_is)
  (case lm1 => k_is)
  (case lm2 => k_is)
  (case lm3 => k_is)
  (case lm4 => k_is)
  (case lm5 => rfl)
  (case lm6 => kernel_rfl)
  (case lm7 => kernel_rfl))
