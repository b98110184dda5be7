import PyProof.Rows.All
import Wide.All
import OpenK.AllK
import Wide.FinOn
import HandS.ForMost
import HandS.Wide
import HandS.Evl
import HandS.Conv
import HandS.Lambda
import HandS.ExcInit
import HandS.ExcField
import HandS.ExcIs
import HandS.ExcValue
import KE.KExcIs
import HandS.IsInst
import HandS.EndTab
import HandS.WordsExc
import HandS.Walk
import PyProof.Rows.NestShow
import HandS.Property
import HandS.DictComp
import HandS.Defaults
import HandS.Strs
import PyProof.TupleOfSeq
import HandS.More
import KE.GoesEnum
import HandS.Iter
import HandS.Zip
import HandS.Text
import HandS.Deep
import HandS.RaiseMore
import PyProof.ListStr
import HandS.EndBits
import PySem.Challenge.RW_wholeprint_k70_texts_of_histories_refuse
set_option Elab.async false
set_option autoImplicit false
set_option linter.all false
set_option maxRecDepth 100000
set_option maxHeartbeats 4000000
namespace WP
open PySem L2
/-! ### the built-in names that the module leaves alone -/
structure Bi (mg : Str → Option Value) : Prop where
  int : mg "int" = none
  str : mg "str" = none
  len : mg "len" = none
  list : mg "list" = none
  range : mg "range" = none
  min : mg "min" = none
  max : mg "max" = none
  sorted : mg "sorted" = none
  set : mg "set" = none
  tuple : mg "tuple" = none
  dict : mg "dict" = none
  isinstance : mg "isinstance" = none
  repr : mg "repr" = none
  zip : mg "zip" = none
  enumerate : mg "enumerate" = none
  all : mg "all" = none
  sum : mg "sum" = none
  bool : mg "bool" = none
/-! ### a def by its name -/
structure Dn (P : Program) (w : World) (K : PySem.W.Frag) (mg : Str → Option Value) (base : Heap) (CX : CXT) (k : Nat) (x : Str) (ps : List Str) (sp : Sp) : Prop where
  ex : ∃ f fd, mg x = some (.ref f) ∧ PySem.W.keepIn K (.ref f) = true ∧ FnOk P w K mg base CX k f fd ps sp ∧ Binds K fd ps []
theorem pe_d {X : Cx} {CX : CXT} {k : Nat} {ps : List Str} {sp : Sp} {E : XK} {x : Str} {p pos : Pos} {e : Expr} {es : List Expr} {t : TA} (F : Dn X.prog X.w X.K X.mg X.base CX k x ps sp) (hr : Room k X.A) (hx : Passes CX X E)
    (ha : PA X (e :: es) t) (hg : Gl X x := by rfl) (hdb : (x == ("__debug__" : Str)) = false := by decide) (he : starEach (e :: es) X.env = (false, eval e X.env) :: starEach es X.env := by rfl) (hpl : (backTo pos (starEach es X.env)).any (·.1) = false := by rfl) :
    PE X (.Call (.Name x p) (e :: es) [] pos) (tCall sp [] E t) := by
  obtain ⟨f, fd, hm, hk, F, hb⟩ := F.ex
  exact pe_call F hr hg hm hk hb .nil hx ha hdb he hpl
/-- the value that a def hands on where dvs is empty -/
theorem app_nil {vs : List V} {sp : Sp} {H : Hp} {Q : VK} {E : XK} (h : sp vs H Q E) : sp (vs ++ []) H Q E := by
  rw [List.append_nil]
  exact h
/-! ### the heap without two addresses (the state of the draws) -/
def hd2 (d w : Addr) (H : Hp) : Hp := fun b => if b = d ∨ b = w then none else H b
theorem hd2_of {d w b : Addr} {H : Hp} {o : HO} (h : hd2 d w H b = some o) : H b = some o ∧ b ≠ d ∧ b ≠ w := by
  unfold hd2 at h
  split at h
  · cases h
  · rename_i n
    exact ⟨h, fun e => n (.inl e), fun e => n (.inr e)⟩
theorem hd2_mk {d w b : Addr} {H : Hp} {o : HO} (h : H b = some o) (h1 : b ≠ d) (h2 : b ≠ w) : hd2 d w H b = some o := by
  unfold hd2
  rw [if_neg (fun e => e.elim h1 h2)]
  exact h
theorem hd2_sub {d w : Addr} {H : Hp} : Same (hd2 d w H) H := fun _ _ h => (hd2_of h).1
theorem hd2_new {d w p : Addr} {H : Hp} {o : HO} (h : H p = none) : Same (hd2 d w H) (hd2 d w (upd H p o)) := fun b u e => by
  obtain ⟨h1, h2, h3⟩ := hd2_of e
  exact hd2_mk (by rw [upd_ne (ne_of_none h1 h)]; exact h1) h2 h3
theorem hd2_d {d w : Addr} {H : Hp} {o : HO} : Same (hd2 d w H) (hd2 d w (upd H d o)) := fun b u e => by
  obtain ⟨h1, h2, h3⟩ := hd2_of e
  exact hd2_mk (by rw [upd_ne h2]; exact h1) h2 h3
theorem hd2_w {d w : Addr} {H : Hp} {o : HO} : Same (hd2 d w H) (hd2 d w (upd H w o)) := fun b u e => by
  obtain ⟨h1, h2, h3⟩ := hd2_of e
  exact hd2_mk (by rw [upd_ne h3]; exact h1) h2 h3
theorem hd2_same {d w : Addr} {H H' : Hp} (s : Same H H') : Same (hd2 d w H) (hd2 d w H') := fun b u e => by
  obtain ⟨h1, h2, h3⟩ := hd2_of e
  exact hd2_mk (s _ _ h1) h2 h3
/-! ### the state of the draws: a dict at d, its list of large cells at w, the script's cells at c -/
def drD (w c : Addr) (r t : Int) : HO := .dK [((.inr "wide" : Key), .ref w), (.inr "cells", .ref c), (.inr "rest", .int r), (.inr "turn", .int t)]
structure Dr (d w c : Addr) (B : Int) (H : Hp) : Prop where
  dict : ∃ r t, H d = some (drD w c r t) ∧ 0 ≤ t ∧ t ≤ B
  wide : ∃ ns : List Int, H w = some (.lst (ns.map V.int))
  cells : ∃ ns : List Int, hd2 d w H c = some (.lst (ns.map V.int))
theorem Dr.mono {d w c : Addr} {B B' : Int} {H : Hp} (D : Dr d w c B H) (h : B ≤ B') : Dr d w c B' H := by
  obtain ⟨⟨r, t, h1, h2, h3⟩, q, q'⟩ := D
  exact ⟨⟨r, t, h1, h2, by omega⟩, q, q'⟩
def spBegun (K : PySem.W.Frag) : Sp := fun vs H Q _ => ∃ (a : Addr) (ns : List Int), vs = [.ref a] ∧ SqL K H a (ns.map V.int) ∧ ns.length ≤ 63 ∧
  ∀ d w c H', Dr d w c 0 H' → Same H (hd2 d w H') → Q (.ref d) H'
def spBlend : Sp := fun vs H Q _ => ∃ (d w c : Addr) (B : Int), vs = [.ref d] ∧ Dr d w c B H ∧ B ≤ 2 ^ 40 ∧ ∀ r H', Dr d w c (B + 1) H' → Same (hd2 d w H) (hd2 d w H') → Q (.int r) H'
def spTake : Sp := fun vs H Q _ => ∃ (d w c : Addr) (B n : Int), vs = [.ref d, .int n] ∧ Dr d w c B H ∧ B ≤ 2 ^ 40 ∧ 0 < n ∧ n < 2 ^ 200 ∧ ∀ k H', 0 ≤ k → k < n → Dr d w c (B + 1) H' → Same (hd2 d w H) (hd2 d w H') → Q (.int k) H'
end WP
namespace WP
open PySem L2
/-! ### reading and storing in the dict of the draws -/
section
variable {H : Hp} {d w c : Addr} {r t : Int}
theorem drGet {v : V} (k : Str) (h : H d = some (drD w c r t)) (e : valV ([((.inr "wide" : Key), V.ref w), (.inr "cells", .ref c), (.inr "rest", .int r), (.inr "turn", .int t)] : List (Key × V)) (.inr k) = some v) : DGet H d (.str k) (some v) := by
  rw [← e]
  exact DGet.k (k := Sum.inr k) h
theorem dv1 {x : V} {l : List (Key × V)} {k : Str} : valV (((.inr k : Key), x) :: l) (.inr k) = some x := valV_pos rfl
theorem dv2 {x : V} {l : List (Key × V)} {k j : Str} (h : ¬ k = j) : valV (((.inr k : Key), x) :: l) (.inr j) = valV l (.inr j) := valV_neg (fun e => h (Sum.inr.inj e))
theorem dg_wide (h : H d = some (drD w c r t)) : DGet H d (.str "wide") (some (.ref w)) := drGet _ h dv1
theorem dg_cells (h : H d = some (drD w c r t)) : DGet H d (.str "cells") (some (.ref c)) := drGet _ h (by rw [dv2 (by decide +kernel)]; exact dv1)
theorem dg_rest (h : H d = some (drD w c r t)) : DGet H d (.str "rest") (some (.int r)) := drGet _ h (by rw [dv2 (by decide +kernel), dv2 (by decide +kernel)]; exact dv1)
theorem dg_turn (h : H d = some (drD w c r t)) : DGet H d (.str "turn") (some (.int t)) := drGet _ h (by rw [dv2 (by decide +kernel), dv2 (by decide +kernel), dv2 (by decide +kernel)]; exact dv1)
theorem putK_hit {l : List (Key × V)} {k : Key} {y : V} {p : Key × V} (e : p.1 = k) : putK (p :: l) k y = (p.1, y) :: l.map (fun kv => if kv.1 = k then (kv.1, y) else kv) := by
  unfold putK
  rw [if_pos (by simp [e]), List.map_cons, if_pos e]
theorem putK_skip {l : List (Key × V)} {k : Key} {y : V} {p : Key × V} (e : ¬ p.1 = k) : putK (p :: l) k y = p :: putK l k y := by
  unfold putK
  have h : ((p :: l).any fun kv => decide (kv.1 = k)) = (l.any fun kv => decide (kv.1 = k)) := by simp [e]
  rw [h]
  split
  · rw [List.map_cons, if_neg e]
  · rfl
theorem pr_turn (t' : Int) : putK ([((.inr "wide" : Key), V.ref w), (.inr "cells", .ref c), (.inr "rest", .int r), (.inr "turn", .int t)] : List (Key × V)) (.inr "turn") (.int t') = [((.inr "wide" : Key), V.ref w), (.inr "cells", .ref c), (.inr "rest", .int r), (.inr "turn", .int t')] := by
  rw [putK_skip (fun e => absurd (Sum.inr.inj e) (by decide +kernel)), putK_skip (fun e => absurd (Sum.inr.inj e) (by decide +kernel)), putK_skip (fun e => absurd (Sum.inr.inj e) (by decide +kernel)), putK_hit rfl]
  rfl
theorem pr_rest (r' : Int) : putK ([((.inr "wide" : Key), V.ref w), (.inr "cells", .ref c), (.inr "rest", .int r), (.inr "turn", .int t)] : List (Key × V)) (.inr "rest") (.int r') = [((.inr "wide" : Key), V.ref w), (.inr "cells", .ref c), (.inr "rest", .int r'), (.inr "turn", .int t)] := by
  rw [putK_skip (fun e => absurd (Sum.inr.inj e) (by decide +kernel)), putK_skip (fun e => absurd (Sum.inr.inj e) (by decide +kernel)), putK_hit rfl, List.map_cons, if_neg (fun e => absurd (Sum.inr.inj e) (by decide +kernel))]
  rfl
theorem sml : (4 : Nat) < sizeLine := by rw [sizeLine_eq]; decide
theorem dp_turn (t' : Int) (h : H d = some (drD w c r t)) : DPut H d (.str "turn") (.int t') (upd H d (drD w c r t')) := by
  have := DPut.k (k := Sum.inr "turn") (v := .int t') h sml
  rw [pr_turn] at this
  exact this
theorem dp_rest (r' : Int) (h : H d = some (drD w c r t)) : DPut H d (.str "rest") (.int r') (upd H d (drD w c r' t)) := by
  have := DPut.k (k := Sum.inr "rest") (v := .int r') h sml
  rw [pr_rest] at this
  exact this
theorem Dr.newD {H : Hp} {B B' r' t' : Int} (D : Dr d w c B H) (h0 : 0 ≤ t') (hB : t' ≤ B') : Dr d w c B' (upd H d (drD w c r' t')) := by
  obtain ⟨⟨r, t, h1, _⟩, ⟨ns, h2⟩, ⟨ms, h3⟩⟩ := D
  exact ⟨⟨r', t', upd_same, h0, hB⟩, ⟨ns, by rw [upd_ne (ne_of h2 h1 (by intro z; cases z))]; exact h2⟩, ⟨ms, hd2_d _ _ h3⟩⟩
theorem Dr.new {H : Hp} {B : Int} {p : Addr} {o : HO} (D : Dr d w c B H) (hp : H p = none) : Dr d w c B (upd H p o) := by
  obtain ⟨⟨r, t, h1, h4⟩, ⟨ns, h2⟩, ⟨ms, h3⟩⟩ := D
  exact ⟨⟨r, t, by rw [upd_ne (ne_of_none h1 hp)]; exact h1, h4⟩, ⟨ns, by rw [upd_ne (ne_of_none h2 hp)]; exact h2⟩, ⟨ms, hd2_new hp _ _ h3⟩⟩
theorem Dr.newW {H : Hp} {B : Int} {ns : List Int} (D : Dr d w c B H) : Dr d w c B (upd H w (.lst (ns.map V.int))) := by
  obtain ⟨⟨r, t, h1, h4⟩, ⟨ms, h2⟩, ⟨ks, h3⟩⟩ := D
  exact ⟨⟨r, t, by rw [upd_ne (ne_of h1 h2 (by intro z; cases z))]; exact h1, h4⟩, ⟨ns, upd_same⟩, ⟨ks, hd2_w _ _ h3⟩⟩
end
end WP
namespace WP
open PySem L2
theorem at_map {α : Type} {f : α → V} {l : List α} {i : Nat} {x : V} (h : (l.map f)[i]? = some x) : ∃ a, l[i]? = some a ∧ x = f a := by
  rw [List.getElem?_map] at h
  cases e : l[i]? with
  | none => rw [e] at h; cases h
  | some a => rw [e] at h; exact ⟨a, rfl, (Option.some.inj h).symm⟩
theorem at_mem {α : Type} {l : List α} {i : Nat} {x : α} (h : l[i]? = some x) : x ∈ l := List.mem_of_getElem? h
end WP
namespace WP
open PySem L2
/-! ### data that stands still -/
theorem sameT {K : PySem.W.Frag} {H H' : Hp} {a : Addr} {xs : List V} (e : Same H H') (h : SqT K H a xs) : SqT K H' a xs := by
  rcases h with (h | ⟨o, h⟩) | h
  · exact .inl (.inl (e _ _ h))
  · exact .inl (.inr ⟨o, e _ _ h⟩)
  · exact .inr h
mutual
theorem Dp.same {K : PySem.W.Frag} {H H' : Hp} (s : Same H H') : ∀ {d : PyData} {v : V}, Dp K H v d → Dp K H' v d
  | _, _, .non => .non
  | _, _, .bl b => .bl b
  | _, _, .int i => .int i
  | _, _, .str x => .str x
  | _, _, .lst h t => .lst (s.seq h) (DpAll.same s t)
  | _, _, .tup h t => .tup (sameT s h) (DpAll.same s t)
theorem DpAll.same {K : PySem.W.Frag} {H H' : Hp} (s : Same H H') : ∀ {ds : List PyData} {vs : List V}, DpAll K H vs ds → DpAll K H' vs ds
  | _, _, .nil => .nil
  | _, _, .cons a b => .cons (Dp.same s a) (DpAll.same s b)
end
theorem dpI {K : PySem.W.Frag} {H : Hp} : ∀ ns : List Int, DpAll K H (ns.map V.int) (ns.map PyData.int)
  | [] => .nil
  | _ :: r => .cons (.int _) (dpI r)
theorem dpS {K : PySem.W.Frag} {H : Hp} : ∀ ns : List Str, DpAll K H (ns.map V.str) (ns.map PyData.str)
  | [] => .nil
  | _ :: r => .cons (.str _) (dpS r)
theorem canI : ∀ ns : List Int, PyData.canLayAll0 (ns.map PyData.int) = true
  | [] => rfl
  | _ :: r => by simp only [List.map_cons, PyData.canLayAll0, PyData.canLay0, Bool.true_and]; exact canI r
theorem depI : ∀ ns : List Int, PyData.depthAll (ns.map PyData.int) = 0
  | [] => rfl
  | _ :: r => by simp only [List.map_cons, PyData.depthAll, PyData.depth, depI r]; rfl
theorem depS : ∀ ns : List Str, PyData.depthAll (ns.map PyData.str) = 0
  | [] => rfl
  | _ :: r => by simp only [List.map_cons, PyData.depthAll, PyData.depth, depS r]; rfl
theorem canS : ∀ ns : List Str, (∀ x ∈ ns, PyData.strOk x = true) → PyData.canLayAll0 (ns.map PyData.str) = true
  | [], _ => rfl
  | x :: r, h => by
    simp only [List.map_cons, PyData.canLayAll0, PyData.canLay0, h x List.mem_cons_self, Bool.true_and]
    exact canS r fun y hy => h y (List.mem_cons_of_mem _ hy)
theorem shI (ns : List Int) : SeqAt.shaped (.list (ns.map PyData.int)) = true := by
  unfold SeqAt.shaped
  simp only [PyData.canLay0, canI, PyData.depth, depI]
  rfl
theorem shS {ns : List Str} (h : ∀ x ∈ ns, PyData.strOk x = true) : SeqAt.shaped (.list (ns.map PyData.str)) = true := by
  unfold SeqAt.shaped
  simp only [PyData.canLay0, canS ns h, PyData.depth, depS]
  rfl
theorem shN : SeqAt.shaped (.list []) = true := by decide +kernel
theorem eqv_nil (ds : List PyData) : PyData.eqv (.list ds) (.list []) = ds.isEmpty := by
  cases ds with
  | nil => simp [PyData.eqv, PyData.eqvAll]
  | cons a r => simp [PyData.eqv, PyData.eqvAll]
/-- a list of ints against a new [] -/
theorem neNilI {K : PySem.W.Frag} {H : Hp} {a p : Addr} {ns : List Int} {Q : VK} (h : H a = some (.lst (ns.map V.int))) (hp : H p = none) (q : Q (.bl (!ns.isEmpty)) (upd H p (.lst []))) : rNeD K (.ref a) (.ref p) (upd H p (.lst [])) Q := by
  refine ⟨_, _, .lst (SqL.of (by rw [upd_ne (ne_of_none h hp)]; exact h)) (dpI ns), .lst (SqL.of upd_same) .nil, shI ns, shN, ?_⟩
  rw [eqv_nil]
  cases ns <;> exact q
theorem neNilS {K : PySem.W.Frag} {H : Hp} {a p : Addr} {ns : List Str} {Q : VK} (h : H a = some (.lst (ns.map V.str))) (ok : ∀ x ∈ ns, PyData.strOk x = true) (hp : H p = none) (q : Q (.bl (!ns.isEmpty)) (upd H p (.lst []))) : rNeD K (.ref a) (.ref p) (upd H p (.lst [])) Q := by
  refine ⟨_, _, .lst (SqL.of (by rw [upd_ne (ne_of_none h hp)]; exact h)) (dpS ns), .lst (SqL.of upd_same) .nil, shS ok, shN, ?_⟩
  rw [eqv_nil]
  cases ns <;> exact q
def spPick (K : PySem.W.Frag) : Sp := fun vs H Q _ => ∃ (d w c : Addr) (B : Int), Dr d w c B H ∧ B ≤ 2 ^ 40 ∧
  ((∃ (a : Addr) (xs : List V), vs = [.ref d, .ref a] ∧ SqL K (hd2 d w H) a xs ∧ xs ≠ [] ∧ xs.length < 2 ^ 60 ∧ ∀ (k : Nat) v H', xs[k]? = some v → Dr d w c (B + 1) H' → Same (hd2 d w H) (hd2 d w H') → Q v H') ∨
   (∃ (z : Str), vs = [.ref d, .str z] ∧ 0 < z.length ∧ z.length ≤ sizeLine ∧ ∀ (k : Nat) v H', z.cps.toList[k]? = some v → Dr d w c (B + 1) H' → Same (hd2 d w H) (hd2 d w H') → Q (.str ⟨#[v]⟩) H'))
end WP
namespace WP
open PySem L2
theorem seq0 {n : Nat} : seqIndex? 0 (n + 1) = some 0 := by simp [seqIndex?]
theorem mergeK_new {l kvs : List (Key × V)} {k : Key} {v : V} (h : valV l k = none) : mergeK l ((k, v) :: kvs) = mergeK (l ++ [(k, v)]) kvs := by
  show mergeK (putK l k v) kvs = _
  rw [putK_new v h]
theorem dv0 {k : Key} : valV ([] : List (Key × V)) k = none := rfl
theorem dr_merge {w c : Addr} {r t : Int} : HO.dK (mergeK [] [((.inr "wide" : Key), .ref w), (.inr "cells", .ref c), (.inr "rest", .int r), (.inr "turn", .int t)]) = drD w c r t := by
  rw [mergeK_new dv0, mergeK_new (by rw [List.nil_append, dv2 (by decide +kernel)]; exact dv0), mergeK_new (by rw [List.nil_append, List.singleton_append, dv2 (by decide +kernel), dv2 (by decide +kernel)]; exact dv0),
    mergeK_new (by simp only [List.nil_append, List.cons_append]; rw [dv2 (by decide +kernel), dv2 (by decide +kernel), dv2 (by decide +kernel)]; exact dv0)]
  rfl
end WP
namespace WP
open PySem L2 PySem.Spec PyProof.Rows
/-! ### a caught error kept as a value -/
/-- the error object of the class cls at a, its own dict at d -/
def XvO (cls : Value) (d : Option Addr) (a : Addr) : HO := .ext fun h => ∃ (oe : Obj) (vs : Array Value), h.get? a = some oe ∧ Zc cls d oe ∧ oe.data = .fields vs
theorem xvO_ok {P : Program} {w : World} {H : Hp} {h : Heap} {a : Addr} {cls : Value} {d : Option Addr} {oe : Obj} {vs : Array Value} (e : h.get? a = some oe) (z : Zc cls d oe) (hd : oe.data = .fields vs) : ObjOk P w H h a (XvO cls d a) :=
  ⟨⟨oe, vs, e, z, hd⟩, ⟨oe, e⟩, fun _ _ ⟨o, v, q, r⟩ k => ⟨o, v, k o q, r⟩⟩
section
variable {X : Cx} {pins : List (Addr × Obj)} {σ : L2.St} {H : Hp} {s : Shared}
/-- an object of ours that is not tracked yet is tracked from now on -/
theorem adopt {a : Addr} {o : HO} (I : Inv X pins σ H s) (na : H a = none) (h0 : X.s_0.heap.get? a = none) (nL : X.env.locals ≠ a) (nc : ∀ y c, X.env.cells.lookup y = some c → c ≠ a) (np : ∀ p ∈ X.pn ++ pins, p.1 ≠ a)
    (new : ObjOk X.prog X.w (upd H a o) s.heap a o) : Inv X pins σ (upd H a o) s := by
  have old : ∀ b ob, X.s_0.heap.get? b = some ob → b ≠ a := fun b ob e z => by
    rw [z, h0] at e
    cases e
  have ub := I.base
  refine ⟨I.ok, I.os, I.bare, ⟨ub.keep, ub.slot, fun b ob e n hx => ?_, ub.there, fun b xs e => ?_, fun b ob u e => ?_, fun b ps e => ?_⟩, I.loc, I.cell, ?_, fun y c e => ?_, fun p hp => ?_, I.hok.laidN (fun _ _ q => q) na new, I.len⟩
  · rw [upd_ne (old b ob e)]
    exact ub.free b ob e n hx
  · have q := ub.tups b xs e
    rw [upd_ne (ne_of_none q na)]
    exact q
  · have q := ub.frzs b ob u e
    rw [upd_ne (ne_of_none q na)]
    exact q
  · obtain ⟨m, q⟩ := ub.tbls b ps e
    exact ⟨m, by rw [upd_ne (ne_of_none q na)]; exact q⟩
  · rw [upd_ne nL]
    exact I.free
  · rw [upd_ne (nc y c e)]
    exact I.freeC y c e
  · obtain ⟨p1, p2, p3⟩ := I.pin p hp
    exact ⟨p1, by rw [upd_ne (np p hp)]; exact p2, p3⟩
end
/-- what «except x as n» wishes of an error of the body that it takes: the error tracked, the suite's reading; slot i is n's -/
def wKeep (K : PySem.W.Frag) (c : Value) (i : Nat) (ts : Addr → TS) (D : Ends) : WX := fun cls d σ H =>
  PySem.W.exmOne K cls c = some true ∧ ∀ a, H a = none → ts a { nx := fun σ' H' => D.nx (σ'.set i none) H', rt := D.rt, bk := fun σ' H' => D.bk (σ'.set i none) H', ct := fun σ' H' => D.ct (σ'.set i none) H' } (σ.set i (some (.ref a))) (upd H a (XvO cls d a))
section
variable {X : Cx} {x n : Str} {c : Value} {i : Nat} {body rest : List Stmt} {b₀ : Stmt} {np pos pos' : Pos} {tb : WX → TS} {ts : Addr → TS}
theorem ps_try_keep (hs : X.stack = X.env :: X.outer) (hf : X.env.frame = some X.env.locals) (hN : X.N.Nodup) (hi : X.N[i]? = some n) (hln : X.env.kindOf n = some .local) (hc : Names X x c) (hex0 : X.ex = [])
    (hb : ∀ (W : WX) (pn : List (Addr × Obj)) (xe : Value → Shared → Prop), Takes (X.tr pn xe) W → PassesOwn (model X.prog X.w) X.A X.env xe → PSs (X.tr pn xe) body (tb W))
    (hsu : ∀ (a : Addr) (pn : List (Addr × Obj)), PSs (X.suite a pn) (b₀ :: rest) (ts a)) :
    PS X (.Try body [.ExceptHandler (some (.Name x np)) (some n) (b₀ :: rest) pos'] [] [] pos) (fun D σ H => tb (wKeep X.K c i ts D) D σ H) := by
  refine ⟨fun pins s σ H D I h => ?_⟩
  have okX := I.ok
  have frX : X.A.frames = some (X.env :: X.outer) := by rw [okX.frames, hs]
  refine wpAny_Try_except ?_
  refine wpAny_mono ((hb (wKeep X.K c i ts D) (X.pn ++ pins)
    (fun e s₁ => wpAny (model X.prog X.w) X.A (noteFrame e X.env) (fun _ s₂ => wpAny (model X.prog X.w) X.A (setFlight e none)
      (fun _ s₃ => wpAny (model X.prog X.w) X.A (handleBy e X.env [.ExceptHandler (some (.Name x np)) (some n) (b₀ :: rest) pos']) (SP X pins D) X.xe s₃) X.xe s₂) X.xe s₁)
    (fun u s' air => ?_) PassesOwn.looking).run [] s σ H D (I.toTry _) h) (fun fl s1 hsp => ?_) (fun e s1 he => he)
  · obtain ⟨a, B, sI, pins1, σ1, H1, cls, d, rfl, Jt, nb, up, sky, na, os, ag, hex, hts⟩ := air
    have J : Inv X pins σ1 H1 sI := Jt.ofTry okX
    have sky1 : Sky B (X.env :: X.outer) a (Zc cls d) X.env.locals s'.heap := by rw [← hs]; exact sky
    show wpAny (model X.prog X.w) X.A (noteFrame (.ref a) X.env) _ _ _
    refine Sky.land Zc.steady frX hf sky1 fun h3 fl3 up3 => ?_
    have J3 : Inv X pins σ1 H1 { s' with heap := h3 } := J.landed nb fl3.1 (up.trans up3) os ag
    obtain ⟨oe3, vs3, he3, hz3, hd3⟩ := fl3.there
    have out : a ∉ frs (X.env :: X.outer) := fun hm => by
      obtain ⟨_, ob, eb, hnf⟩ := fl3.2.2.1.mem hm
      rw [he3] at eb
      cases eb
      exact hnf _ hd3
    have nL : a ≠ X.env.locals := fun z => out (List.mem_filterMap.mpr ⟨X.env, List.mem_cons_self, by rw [hf, z]⟩)
    have nF : a ∉ X.fs := fun hm => by
      obtain ⟨e, he, q⟩ := List.mem_filterMap.mp hm
      exact out (List.mem_filterMap.mpr ⟨e, List.mem_cons_of_mem _ he, q⟩)
    have gone : sI.heap.get? a = none := by
      cases e : sI.heap.get? a with
      | none => rfl
      | some ob =>
        have q := nb a ob e (by rw [hs]; exact out)
        rw [fl3.2.1] at q
        cases q
    have S3 := J3.suite he3 hd3 na nL nF
    refine wpAny_handleBy_cons (codeAny_handlers_test ?_) (by intro q; cases q)
    have LT : PySem.W.Looks (model X.prog X.w) h3 (typeOf (.ref a)) cls := fun A Q E s k q => wpAny_typeOf_ref (k _ _ he3) (by rw [hz3.1]; exact q)
    have LM := PySem.W.exm_one (M := model X.prog X.w) (J3.kIn) LT hex
    have test : ∀ {Q : Value → Shared → Prop} {E : Value → Shared → Prop}, Q c { s' with heap := h3 } → wpAny (model X.prog X.w) (X.A.mark (some (.ref a))) (eval (.Name x np) X.env) Q E { s' with heap := h3 } := fun {Q E} q => by
      obtain ⟨hg, hdbg, hm | ⟨hm, hv, hnn⟩⟩ := hc
      · exact ld_glob (X := X.suite a ((a, oe3) :: (X.pn ++ pins))) S3 hg hm q hdbg
      · exact ld_blt (X := X.suite a ((a, oe3) :: (X.pn ++ pins))) S3 hg hm hv q hnn hdbg
    refine test (LM.here ?_)
    refine codeAny_handlers_suite_as ?_
    refine HandSPX.lands_againZ fl3 fun h4 fl4 up4 => ?_
    have J4 : Inv X pins σ1 H1 { s' with heap := h4 } := J.landed nb fl4.1 ((up.trans up3).trans up4) os ag
    obtain ⟨oe4, vs4, he4, hz4, hd4⟩ := fl4.there
    have z0 : X.s_0.heap.get? a = none := by
      cases e : X.s_0.heap.get? a with
      | none => rfl
      | some ob =>
        obtain ⟨o', q⟩ := J.base.there a ob e (by rw [hex0]; exact fun z => nomatch z)
        rw [gone] at q
        cases q
    have nc : ∀ y cc, X.env.cells.lookup y = some cc → cc ≠ a := fun y cc e z => by
      obtain ⟨v, ob, ho, hd⟩ := J4.cell y cc e
      have ho' : h4.get? cc = some ob := ho
      rw [z, he4] at ho'
      cases ho'
      rw [hd4] at hd
      cases hd
    have npn : ∀ p ∈ X.pn ++ pins, p.1 ≠ a := fun p hp z => by
      have q := (J.pin p hp).1
      rw [z, gone] at q
      cases q
    have A4 : Inv X pins σ1 (upd H1 a (XvO cls d a)) { s' with heap := h4 } := adopt J4 na z0 (Ne.symm nL) nc npn (xvO_ok he4 hz4 hd4)
    have S4 : Inv (X.suite a (X.pn ++ pins)) [] σ1 (upd H1 a (XvO cls d a)) { s' with heap := h4 } :=
      ⟨okX.suite _ _, A4.os, A4.bare, A4.base, A4.loc, A4.cell, A4.free, A4.freeC, fun p hp => A4.pin p (by rw [List.append_nil] at hp; exact hp), A4.hok, A4.len⟩
    refine store_ok (X := X.suite a (X.pn ++ pins)) (v := .ref a) S4 hN hi (.inl hln) rfl (fun s5 S5 => ?_) (.inr hln)
    refine wpAny_mono ((hsu a (X.pn ++ pins)).run [] s5 _ _ _ S5 (hts a na)) (fun f s6 hsp => ?_) (fun _ _ z => False.elim z)
    have fin : ∀ {σ6 : L2.St} {H6 : Hp} {Q : Shared → Prop}, Inv (X.suite a (X.pn ++ pins)) [] σ6 H6 s6 → (∀ s7, Inv X pins (σ6.set i none) H6 s7 → Q s7) →
        wpAny (model X.prog X.w) X.A (do bindName X.env n .none; unbindBehindTheSuite X.env n pos') (fun _ s7 => Q s7) X.xe s6 := fun {σ6 H6 Q} S6 hq =>
      gone_ok (X := X) (pins := pins) ⟨okX, S6.os, S6.bare, S6.base, S6.loc, S6.cell, S6.free, S6.freeC, fun p hp => S6.pin p (List.mem_append_left _ hp), S6.hok, S6.len⟩ hN hi hln hq
    cases f with
    | next =>
      obtain ⟨σ6, H6, S6, q6⟩ := hsp
      exact fin S6 fun s7 J7 => ⟨_, _, J7, q6⟩
    | brk =>
      obtain ⟨σ6, H6, S6, q6⟩ := hsp
      exact fin S6 fun s7 J7 => ⟨_, _, J7, q6⟩
    | cont =>
      obtain ⟨σ6, H6, S6, q6⟩ := hsp
      exact fin S6 fun s7 J7 => ⟨_, _, J7, q6⟩
    | ret u =>
      obtain ⟨v6, σ6, H6, S6, r6, q6⟩ := hsp
      exact fin S6 fun s7 J7 => ⟨_, _, _, J7, r6, q6⟩
  · cases fl with
    | next =>
      obtain ⟨σ2, H2, J2, q⟩ := hsp
      exact wpAny_execs_nil ⟨σ2, H2, J2.ofTry okX, q⟩
    | brk =>
      obtain ⟨σ2, H2, J2, q⟩ := hsp
      exact ⟨σ2, H2, J2.ofTry okX, q⟩
    | cont =>
      obtain ⟨σ2, H2, J2, q⟩ := hsp
      exact ⟨σ2, H2, J2.ofTry okX, q⟩
    | ret u =>
      obtain ⟨v, σ2, H2, J2, r, q⟩ := hsp
      exact ⟨v, σ2, H2, J2.ofTry okX, r, q⟩
end
/-- an error in the air of X has slots for all names of X -/
theorem takes_len {X : Cx} {W : WX} (tk : Takes X W) : Takes X (fun cls d σ H => σ.length = X.N.length → W cls d σ H) := fun u s' ⟨a, B, sI, pins, σ, H, cls, d, e, I, nb, up, sky, na, os, ag, w⟩ =>
  tk u s' ⟨a, B, sI, pins, σ, H, cls, d, e, I, nb, up, sky, na, os, ag, w I.len⟩
/-- a reading may be weakened -/
theorem pe_weak {X : Cx} {e : Expr} {t : TE} (h : PE X e t) : PE X e (fun σ H Q => ∃ Q0 : VK, t σ H Q0 ∧ ∀ v H', Q0 v H' → Q v H') := ⟨fun pins s σ H Q I ⟨Q0, h1, h2⟩ =>
  thn (h.run pins s σ H Q0 I h1) fun _ _ ⟨v, H', I', r, q⟩ => ⟨v, H', I', r, h2 v H' q⟩⟩
/-- what _law_caught makes of the reading of the lambda that it gets -/
def TCaught (K : PySem.W.Frag) (CP : Addr) : (XK → Hp → VK → Prop) → Hp → VK → Prop := fun tl H Q =>
  tl (fun cls d H' => PySem.W.exmOne K cls (.ref CP) = some true ∧ ∀ a, H' a = none → Q (.ref a) (upd H' a (XvO cls d a))) H (fun _ H' => Q .non H')
section
variable {X : Cx}
theorem caught_gives {wk ch er pe x q : Str} {sg : Scope} {g CP : Addr} {cdg : Value} {j : Nat} {p1 p2 p3 p4 p5 p6 p7 p8 p9 p10 p11 p12 p13 p14 : Pos} (hnd : [wk, ch, er].Nodup) (hch : sg.names.lookup ch = some .local) (her : sg.names.lookup er = some .local)
    (hge : sg.names.lookup pe = some .globalImplicit) (hme : X.mg pe = some (.ref CP)) (hde : (pe == ("__debug__" : Str)) = false) (hd1 : (ch == ("__debug__" : Str)) = false) (hd2 : (ch == ("__classdict__" : Str)) = false) (hd3 : (er == ("__debug__" : Str)) = false) (hd4 : (er == ("__classdict__" : Str)) = false) :
    LamX.GivesTo X [wk, ch, er] x sg g cdg [.Assign [.Name ch p1] (.Constant .none j p2) p3, .Try [.Expr (.Call (.Name wk p4) [] [] p5) p6] [.ExceptHandler (some (.Name pe p7)) (some er) [.Assign [.Name ch p8] (.Name er p9) p10] p11] [] [] p12, .Return (some (.Name ch p13)) p14] wk q (TCaught X.K CP) := by
  intro f c' s H Q tl act hc h
  have hgl : Gl (cxOf C8.CX0 X.prog X.w X.K X.mg X.base [wk, ch, er] x sg g cdg X.A X.stack s H C8.E0).nox pe := hge
  refine ⟨_, pss_cons (ps_set (i := 1) hnd rfl (.inl hch) pe_non) (pss_cons (ps_try_keep (X := (cxOf C8.CX0 X.prog X.w X.K X.mg X.base [wk, ch, er] x sg g cdg X.A X.stack s H C8.E0).nox) (i := 2) (c := .ref CP)
      (tb := fun W D σ H => ∃ Ech : XK, (∀ cls d σ' H', σ'.length = 3 → Ech cls d H' → W cls d σ' H') ∧ σ[0]? = some (some (.ref f)) ∧ H c' = some (LamX.CodeO c' q) ∧ tl Ech H (fun _ H' => Q .non H') ∧ ∀ H', Q .non H' → D.nx σ H')
      rfl rfl hnd rfl her ⟨hgl, hde, .inl hme⟩ rfl (fun W pn xe tk _ => ?_) (fun a pn => pss_one (ps_set (i := 1) hnd rfl (.inl hch) (pe_var (i := 2) rfl (.inl her) hd3 hd4)))) (pss_one (ps_ret (pe_var (i := 1) rfl (.inl hch) hd1 hd2)))), ?_⟩
  · refine ⟨fun pins s' σ H' D I h' => ?_⟩
    obtain ⟨Ech, hW, h1, h2, h3, h4⟩ := h'
    have hp := act (fun cls d σ H => σ.length = 3 → W cls d σ H) pn xe Ech p4 p5 (takes_len tk) (fun cls d σ' H' e z => hW cls d σ' H' z e)
    have hq := pss_one (ps_expr (pos := p6) (pe_weak hp))
    exact hq.run pins s' σ H' D I ⟨_, ⟨h1, h2, h3⟩, fun _ H1 q => h4 H1 q⟩
  · refine ⟨fun cls d H' => PySem.W.exmOne X.K cls (.ref CP) = some true ∧ ∀ a, H' a = none → Q (.ref a) (upd H' a (XvO cls d a)), fun cls d σ' H' hl hE => ⟨hE.1, fun a ha => ?_⟩, rfl, hc, h, fun H' q => ⟨_, rfl, q⟩⟩
    · match σ', hl with
      | [s0, s1, s2], _ => exact ⟨_, rfl, _, rfl, hE.2 a ha⟩
end
/-! ### own errors with one field -/
def spI1 (C : Addr) (fld : Str) : Sp := fun vs H Q _ => ∃ (a : Addr) (v : V), vs = [.ref a, v] ∧ H a = some (exo a C none) ∧ ∀ dx, H dx = none → dx ≠ a → Q .non (upd (upd H dx (exd dx [(fld, v)])) a (exo a C (some dx)))
/-- what is known of an error class x (at C) with the one field fld; CP: the class that is caught -/
structure Err1 (P : Program) (w : World) (K : PySem.W.Frag) (mg : Str → Option Value) (base : Heap) (CP : Addr) (x : Str) (C : Addr) (fld : Str) : Prop where
  T : OexC K C
  xf : XfC K C
  no : PySem.W.findIn K (.ref C) fld = some none
  ec : ExcC K C
  mgC : mg x = some (.ref C)
  init : ∃ fI fd, PySem.W.findIn K (.ref C) "__init__" = some (some (.ref fI)) ∧ PySem.W.typeIn K (.ref fI) = some (.type "function") ∧ FnOk P w K mg base CX0 1 fI fd ["self", fld] (spI1 C fld) ∧ Binds K fd ["self", fld] []
  sub : PySem.W.exmOne K (.ref C) (.ref CP) = some true
theorem made_end {H1 : Hp} {a dx C : Addr} {fs : List (Str × V)} (ha : H1 a = none) (hne : dx ≠ a) : upd (del (upd (upd (upd H1 a (exo a C none)) dx (exd dx fs)) a (exo a C (some dx))) a) dx (.xd fs) = upd H1 dx (.xd fs) := by
  funext b
  by_cases h1 : b = dx
  · rw [h1, upd_same, upd_same]
  · rw [upd_ne h1, upd_ne h1]
    by_cases h2 : b = a
    · rw [h2, del_same, ha]
    · rw [del_ne h2, upd_ne h2, upd_ne h1, upd_ne h2]
section
variable {X : Cx} {CP C : Addr} {x fld : Str} {e : Expr} {te : TE} {p pos pos' : Pos} {W : WX}
/-- raise x(e) -/
theorem raise1 (T : Err1 X.prog X.w X.K X.mg X.base CP x C fld) (hc : X.calm = true) (tk : Takes X W) (hr : Room 2 X.A) (he : PE X e te) (hg : Gl X x := by rfl)
    (hdb : (x == ("__debug__" : Str)) = false := by decide) (hs : starEach [e] X.env = (false, eval e X.env) :: starEach [] X.env := by rfl) (hpl : (backTo pos (starEach [] X.env)).any (·.1) = false := by rfl) :
    PS X (.Raise (some (.Call (.Name x p) [e] [] pos)) none pos') (fun _ σ H => te σ H fun v H1 => ∀ d, H1 d = none → W (.ref C) (some d) σ (upd H1 d (.xd [(fld, v)]))) := by
  obtain ⟨fI, fd, h1, h2, h3, h4⟩ := T.init
  have Z := ps_raise (pos := pos') hc tk (pmk_oex (p := p) (pos := pos) T.T h1 h2 h3 hr h4 .nil (fun _ _ _ _ _ _ _ h => h.elim) hg T.mgC (pa_cons (pe_weak he) pa_nil hs) hdb hs hpl)
  refine ⟨fun pins s σ H D I h => Z.run pins s σ H D I ⟨_, h, fun v H1 q => ⟨(by show 1 ≤ 1000; decide), fun a ha => ?_⟩⟩⟩
  refine ⟨a, v, rfl, upd_same, fun dx hdx hne => ⟨rfl, dx, [(fld, v)], upd_same, ?_, ?_, ?_⟩⟩
  · rw [upd_ne hne, upd_same]
  · rw [upd_ne hne] at hdx
    exact hdx
  · rw [made_end ha hne]
    rw [upd_ne hne] at hdx
    exact q dx hdx
/-- e.f of an error that was caught -/
theorem pe_xfld (hb : attributeBase e fld X.env (eval e X.env) = eval e X.env) (he : PE X e te) :
    PE X (.Attribute e fld pos) (fun σ H Q => te σ H fun y H1 => ∃ (a C d : Addr) (fs : List (Str × V)) (v : V), y = .ref a ∧ H1 a = some (XvO (.ref C) (some d) a) ∧ XfC X.K C ∧ PySem.W.findIn X.K (.ref C) fld = some none ∧ H1 d = some (.xd fs) ∧ fs.lookup fld = some v ∧ Q v H1) := by
  refine ⟨fun pins s σ H Q I h => ?_⟩
  refine attr_of hb (thn (he.run pins s σ H _ I h) fun u s1 hh => ?_)
  obtain ⟨y, H1, I1, ry, a, C, d, fs, v, rfl, ha, T, hno, hd, l, q⟩ := hh
  obtain rfl : u = Value.ref a := ry
  obtain ⟨⟨oe, vs, hget, hz, hdat⟩, _, _⟩ := I1.hok a _ ha
  obtain ⟨mA, hns, hr⟩ := (show ObjOk X.prog X.w H1 s1.heap d (.xd fs) from I1.hok d _ hd)
  obtain ⟨od, ho, hl⟩ := lookIn_ns hns
  obtain ⟨u, hu, ru⟩ := RelO.some_of (v := v) (o := mA fld) (by rw [← l]; exact hr fld)
  have inst : PySem.W.InstAt s1.heap a oe C (some od) := ⟨hget, hz.1, by unfold PySem.W.notCls; rw [hdat] <;> rfl, by rw [hz.2]; exact ho⟩
  exact HandSPX.exc_get I1.kIn inst T.ga T.gg T.exC (PySem.W.findObj_own T.hdC hno rfl (by rw [hl, hu])) (handed_of ru) ⟨v, H1, I1.tok _, ru, q⟩
end
/-! ### isinstance of an error that was caught -/
def rIsX (K : PySem.W.Frag) : List V → Hp → VK → Prop := fun xs H Q => ∃ (a C : Addr) (d : Option Addr) (c : V) (cv : Value) (b : Bool), xs = [.ref a, c] ∧ H a = some (XvO (.ref C) d a) ∧ (∀ dd, d = some dd → ∃ fs, H dd = some (.xd fs)) ∧ ExcC K C ∧ ClsV c cv ∧ PySem.W.kitOne K (.ref C) cv = some b ∧ Q (.bl b) H
theorem call_isX {X : Cx} : CallR X (.builtin "isinstance") (rIsX X.K) := by
  intro pins s σ H xs us Q I r h
  obtain ⟨a, C, d, c, cv, b, rfl, ha, hdd, E, hc, hk, q⟩ := h
  obtain ⟨u1, u2, rfl, r1, r2⟩ := vals2 r
  cases (show u1 = Value.ref a from r1)
  have e2 := hc.eq r2
  subst e2
  obtain ⟨⟨oe, vs, hget, hz, hdat⟩, _, _⟩ := I.hok a _ ha
  have inst : ∃ od, PySem.W.InstAt s.heap a oe C od := by
    cases d with
    | none => exact ⟨none, hget, hz.1, by unfold PySem.W.notCls; rw [hdat] <;> rfl, by rw [hz.2]; trivial⟩
    | some dd =>
      obtain ⟨fs, hx⟩ := hdd dd rfl
      obtain ⟨mA, hns, _⟩ := (show ObjOk X.prog X.w H s.heap dd (.xd fs) from I.hok dd _ hx)
      obtain ⟨od, ho, _⟩ := lookIn_ns hns
      exact ⟨some od, hget, hz.1, by unfold PySem.W.notCls; rw [hdat] <;> rfl, by rw [hz.2]; exact ho⟩
  obtain ⟨od, inst⟩ := inst
  have hcl : (PySem.W.clsIn X.K C).isSome = true := by
    obtain ⟨cd, hcd, _⟩ := PySem.W.any_some E.hd
    rw [hcd]
    rfl
  exact PySem.W.kia_one (PySem.W.kitx_exc hcl E.hg E.hk E.hs E.ha E.hn E.ht E.hm) I.kIn inst hk (fun z => nomatch z) fun tk => ⟨.bl b, H, I.tok tk, rfl, q⟩
end WP
namespace WP
open PySem L2 PySem.Spec PyProof.Rows
/-! ### defs that ask for repr: called where no repr runs -/
structure GnOk (P : Program) (w : World) (K : PySem.W.Frag) (mg : Str → Option Value) (base : Heap) (CX : CXT) (k : Nat) (f : Addr) (fd : FuncData) (ps : List Str) (sp : Sp) : Prop where
  len : ∀ vs H Q E, sp vs H Q E → vs.length = ps.length
  run : ∀ (A : Around) (outer : List Env) (s : Shared) (H : Hp) (args : Args) (us : List Value) (vs : List V) (Q : VK) (E : XK), A.guards = some [] → Room k A → Env0 P w K mg base A outer s H → BindsTo s fd args (ps.zip us) → Vals vs us → sp vs H Q E →
    codeAny (model P w) A (.call (.ref f) args) (CR CX outer P w H s Q E) s
section
variable {P : Program} {w : World} {K : PySem.W.Frag} {mg : Str → Option Value} {base : Heap} {CX : CXT}
theorem FnOk.gn {k : Nat} {f : Addr} {fd : FuncData} {ps : List Str} {sp : Sp} (F : FnOk P w K mg base CX k f fd ps sp) : GnOk P w K mg base CX k f fd ps sp := ⟨F.len, fun A o s H a us vs Q E _ => F.run A o s H a us vs Q E⟩
theorem deeper_guards {A : Around} {env : Env} (h : A.guards = some []) : (A.deeper env).guards = some [] := h
/-- the rule for such a def -/
theorem okG {x qual : Str} {st : Stmt} {f : Addr} {fd : FuncData} {N ps : List Str} {k : Nat} {sp : Sp} (F : Fun K x qual st f fd) (S : FnScope N ps (defScope st)) (len : ∀ vs H Q E, sp vs H Q E → vs.length = ps.length)
    (hbody : ∀ (cdv : Value) (A : Around) (outer : List Env) (s : Shared) (H : Hp) (vs : List V) (Q : VK) (E : XK), A.guards = some [] → PySem.W.codeIn K cdv qual = true → (∃ oc od sl, K.lookup f = some ⟨oc, od, .func fd, sl⟩ ∧ fd.code = cdv) →
      Room k (A.deeper (envOfC qual (defScope st) s.heap.objs.size f cdv)) → sp vs H Q E →
      ∃ t, PSs (cxOf CX P w K mg base N qual (defScope st) f cdv A outer s H E) (defBody st) t ∧ t { nx := fun _ H' => Q .non H', rt := Q } (L2.start N vs) H) : GnOk P w K mg base CX (k + 1) f fd ps sp := by
  refine ⟨len, fun A outer s H args us vs Q E hg hr e0 hb r hs => ?_⟩
  obtain ⟨oc, od, kV, doc, pm, an, cdv, ct, osl, rfl, lk, hcd⟩ := F.ex
  exact LamX.run_ofS lk hcd S hr e0 hb r (len vs H Q E hs) fun hr' => hbody cdv A outer s H vs Q E hg hcd ⟨oc, od, osl, lk, rfl⟩ hr' hs
/-- .. of which no error is let out -/
structure Gn (P : Program) (w : World) (K : PySem.W.Frag) (mg : Str → Option Value) (base : Heap) (CX : CXT) (k : Nat) (x : Str) (ps : List Str) (sp : Sp) : Prop where
  ex : ∃ f fd, mg x = some (.ref f) ∧ PySem.W.keepIn K (.ref f) = true ∧ GnOk P w K mg base CX k f fd ps sp ∧ L2.Binds K fd ps []
end
theorem pe_g {X : Cx} {CX : CXT} {k : Nat} {ps : List Str} {sp : Sp} {E : XK} {x : Str} {p pos : Pos} {e : Expr} {es : List Expr} {t : TA} (F : Gn X.prog X.w X.K X.mg X.base CX k x ps sp) (hgd : X.A.guards = some []) (hr : Room k X.A) (hx : Passes CX X E)
    (ha : PA X (e :: es) t) (hg : Gl X x := by rfl) (hdb : (x == ("__debug__" : Str)) = false := by decide) (he : starEach (e :: es) X.env = (false, eval e X.env) :: starEach es X.env := by rfl) (hpl : (backTo pos (starEach es X.env)).any (·.1) = false := by rfl) :
    PE X (.Call (.Name x p) (e :: es) [] pos) (tCall sp [] E t) := by
  obtain ⟨f, fd, hm, hk, F, hb⟩ := F.ex
  refine ⟨fun pins s σ H Q I h => wpAny_Call_Name_kw (ld_glob I hg hm ?_ hdb)⟩
  refine PySem.W.callWith_K (h₀ := X.base) I.ok.mod.kin hk (thn (ha.run pos pins s σ H _ I h) fun us s1 ⟨vs, H1, I1, r, q⟩ => ⟨I1.kIn, ?_⟩) he hpl
  have r2 : Vals (vs ++ []) (us ++ []) := r.append .nil
  have hl : (us ++ []).length = ps.length := by rw [← r2.length]; exact F.len _ _ _ _ q
  refine wpAny_call (codeAny_mono (F.run X.A X.stack s1 H1 ⟨us, []⟩ (us ++ []) (vs ++ []) Q E hgd hr I1.env0 (hb s1 us I1.kIn hl) r2 q) fun res s2 hq => ?_)
  cases res with
  | error er => exact hx pins σ H1 s1 er s2 I1 hq
  | ok fl =>
    cases fl with
    | ret u => exact I1.after hq
    | next => exact False.elim hq
    | brk => exact False.elim hq
    | cont => exact False.elim hq
/-! ### repr -/
def rRepr (K : PySem.W.Frag) : List V → Hp → VK → Prop := fun xs H Q => ∃ (v : V) (d : PyData), xs = [v] ∧ Dp K H v d ∧ d.showable = true ∧ d.hasDict = false ∧ d.depth ≤ 40 ∧ d.shown.length ≤ sizeLine ∧ Q (.str d.shown) H
theorem call_reprD {X : Cx} (hg : X.A.guards = some []) (hu : X.A.units + 64 < cLine) : CallR X (.builtin "repr") (rRepr X.K) := by
  intro pins s σ H xs us Q I r h
  obtain ⟨v, d, rfl, hd, sh, nd, dep, hz, q⟩ := h
  obtain ⟨u, rfl, ru⟩ := vals1 r
  obtain ⟨as, rd⟩ := Dp.reads I d v u hd ru
  cases hd with
  | non =>
    cases ru
    exact PySem.P.repr_of_none ⟨.str _, H, I.tok _, ⟨_, rfl⟩, by simpa only [PyData.shown] using q⟩
  | bl b =>
    cases ru
    exact PySem.P.repr_of_bool ⟨.str _, H, I.tok _, ⟨_, rfl⟩, by cases b <;> simpa only [PyData.shown] using q⟩
  | int i =>
    obtain ⟨t, rfl⟩ := ru
    exact PySem.P.repr_of_int (by simpa [PyData.showable] using sh) ⟨.str _, H, I.tok _, ⟨_, rfl⟩, by simpa only [PyData.shown] using q⟩
  | str x =>
    obtain ⟨t, rfl⟩ := ru
    exact PySem.P.repr_of_str ⟨.str _, H, I.tok _, ⟨_, rfl⟩, by simpa only [PyData.shown] using q⟩ (by simpa only [PyData.shown] using hz)
  | lst h1 h2 =>
    cases ru
    exact repr_of_reads' rd sh (PyData.noDict_hsm nd) hg (by omega) (fun _ _ e => e) (fun h' u tk hk => ⟨.str _, H, I.kept (t' := tk) hk, ⟨_, rfl⟩, q⟩) hz
  | tup h1 h2 =>
    cases ru
    exact repr_of_reads' rd sh (PyData.noDict_hsm nd) hg (by omega) (fun _ _ e => e) (fun h' u tk hk => ⟨.str _, H, I.kept (t' := tk) hk, ⟨_, rfl⟩, q⟩) hz
end WP
namespace WP
open PySem L2 PySem.Spec PyProof.Rows LamX
/-! ### the law's call, for a law that asks for repr (and makes lambdas: cs, code objects with their tables) -/
section
variable {P : Program} {w : World} {K : PySem.W.Frag} {mg mb : Str → Option Value} {CX : CXT} {k : Nat} {fa a : Addr} {cs : List (Addr × Addr)} {fd : FuncData} {x : Str} {sp : Sp} {st : Shared} {vs : List Value} {ns : List Int}
def scriptObj (vs : List Value) : Obj := { cls := .type "list", data := .seq vs.toArray }
def tabObj : Obj := { cls := .none, data := .fields #[] }
/-- the abstract heap at the law's entry: the script (if the written part does not know it) and the tables -/
def entryH (K : PySem.W.Frag) (a : Addr) (cs : List (Addr × Addr)) (vs : List Value) (ns : List Int) : Hp := fun b =>
  if b ∈ cs.map (·.2) then some (.tbl #[]) else if b = a ∧ K.lookup a = none then some (.frz (scriptObj vs) (.lst (ns.map V.int))) else none
theorem law_callG (KX : K.In st.heap) (gl : st.heap.Ns mainGlobals mg) (bl : st.heap.Ns builtinsNs mb) (bb : ∀ y : Str, y ≠ "__name__" → mb y = bootBuiltins y) (lim : st.heap.NoLimit) (gens0 : st.gens = #[])
    (tabs : ∀ p ∈ cs, st.heap.get? p.2 = some tabObj) (tabsK : ∀ p ∈ cs, K.lookup p.2 = none) (hds : ∀ p ∈ cs, PySem.W.CodeHd st.heap p.1 p.2)
    (bmod : ∃ (bm : Addr) (ob : Obj), mg "__builtins__" = some (.ref bm) ∧ bm ≠ builtinsNs ∧ st.heap.get? bm = some ob ∧ ob.cls = .type "module" ∧ ob.dict = some builtinsNs ∧ ob.data = .plain)
    (scr : st.heap.get? a = some (scriptObj vs)) (hin : IntsAre vs ns) (len : ns.length ≤ sizeLine) (room : Room k callerA)
    (F : ∀ base : Heap, K.In base → base.Ns mainGlobals mg → (∀ p ∈ cs, TabB base mg p.1 p.2) → GnOk P w K mg base CX k fa fd [x] sp) (bind : ∀ (s : Shared) (u : Value), BindsTo s fd ⟨[u], []⟩ [(x, u)])
    (want : ∀ H : Hp, (∀ p ∈ cs, H p.2 = some (.tbl #[])) → SqL K H a (ns.map V.int) → sp [.ref a] H (fun v _ => v = .bl true) fun _ _ _ => False)
    (noX : ∀ H e s', CX [] H st (fun _ _ _ => False) e s' → False) :
    codeAny (model P w) callerA (.call (.ref fa) ⟨[.ref a], []⟩) (fun r s' => r = .ok (.ret (.bool true)) ∧ OldK st.heap s'.heap ∧ s'.os = st.os ∧ AllBare s'.gens) st := by
  have valsI := vals_ints hin
  have lenI := hin.length
  have tabOf : ∀ b : Addr, b ∈ cs.map (·.2) → st.heap.get? b = some tabObj := fun b m => by
    obtain ⟨p, hp, rfl⟩ := List.mem_map.mp m
    exact tabs p hp
  have memOf : ∀ p ∈ cs, p.2 ∈ cs.map (·.2) := fun p hp => List.mem_map.mpr ⟨p, hp, rfl⟩
  have aNo : a ∉ cs.map (·.2) := fun m => by
    have q := (tabOf a m).symm.trans scr
    have z : Data.fields #[] = Data.seq vs.toArray _ := congrArg Obj.data (Option.some.inj q)
    cases z
  generalize eH : entryH K a cs vs ns = H
  have H1 : ∀ p ∈ cs, H p.2 = some (.tbl #[]) := fun p hp => by
    rw [← eH]
    exact if_pos (memOf p hp)
  have H2 : ∀ b o, H b = some o → (b ∈ cs.map (·.2) ∧ o = .tbl #[]) ∨ (b = a ∧ K.lookup a = none ∧ o = .frz (scriptObj vs) (.lst (ns.map V.int))) := fun b o e => by
    rw [← eH] at e
    unfold entryH at e
    split at e
    · rename_i m
      exact .inl ⟨m, (Option.some.inj e).symm⟩
    · split at e
      · rename_i m
        exact .inr ⟨m.1, m.2, (Option.some.inj e).symm⟩
      · cases e
  have H3 : SqL K H a (ns.map V.int) := by
    cases ek : K.lookup a with
    | some o =>
      have e := (KX a o ek).symm.trans scr
      cases e
      exact .inr ⟨_, vs.toArray, _, ek, rfl, rfl, rfl, by rw [List.size_toArray, lenI]; exact len, by simpa using valsI⟩
    | none =>
      refine .inl (.inr ⟨scriptObj vs, ?_⟩)
      rw [← eH]
      unfold entryH
      rw [if_neg aNo, if_pos ⟨rfl, ek⟩]
  have hokH : HOk P w H st.heap := fun b o e => by
    rcases H2 b o e with ⟨m, rfl⟩ | ⟨rfl, _, rfl⟩
    · exact tabOf b m
    · exact ⟨scr, by rw [List.length_map]; exact len, vs, _, valsI, scr⟩
  -- what is no list and no empty table is not tracked
  have bare : ∀ {b : Addr} {o : Obj}, st.heap.get? b = some o → (∀ us n, o.data ≠ .seq us n) → o.data ≠ .fields #[] → H b = none := fun {b o} e n1 n2 => by
    cases q : H b with
    | none => rfl
    | some u =>
      rcases H2 b u q with ⟨m, _⟩ | ⟨rfl, _⟩
      · have z := (tabOf b m).symm.trans e
        cases z
        exact (n2 rfl).elim
      · have z := scr.symm.trans e
        cases z
        exact (n1 _ _ rfl).elim
  have below : ∀ {b : Addr} {o : Obj}, st.heap.get? b = some o → H b = none → (hidT st.heap H).get? b = some o := fun e n => hidT_get e n
  have nsB : ∀ {b : Addr} {m : Str → Option Value}, st.heap.Ns b m → (hidT st.heap H).Ns b m := fun {b m} ⟨o, es, ep, e, dt, r⟩ =>
    ⟨o, es, ep, below e (bare e (fun us n z => by rw [dt] at z; cases z) (fun z => by rw [dt] at z; cases z)), dt, r⟩
  have kB : K.In (hidT st.heap H) := fun b o e => below (KX b o e) (by
    cases q : H b with
    | none => rfl
    | some u =>
      rcases H2 b u q with ⟨m, _⟩ | ⟨rfl, n, _⟩
      · obtain ⟨p, hp, rfl⟩ := List.mem_map.mp m
        rw [tabsK p hp] at e
        cases e
      · rw [n] at e
        cases e)
  have modB : L2.Mod K mg (hidT st.heap H) := ⟨kB, nsB gl, ⟨mb, nsB bl, bb⟩, let ⟨mc, l1, l2⟩ := lim; ⟨mc, nsB l1, l2⟩⟩
  have tabB : ∀ p ∈ cs, TabB (hidT st.heap H) mg p.1 p.2 := fun p hp => by
    have tp := tabs p hp
    refine ⟨?_, ?_, fun z => ?_⟩
    · obtain ⟨o, us, file, tf, flags, tg, inF, text, tt, e1, r1, r2, r3, r4, r5, r6, r7, r8, hne⟩ := hds p hp
      refine ⟨o, us, file, tf, flags, tg, inF, text, tt, below e1 (bare e1 (fun us n z => by rw [r2] at z; cases z) (fun z => ?_)), r1, r2, r3, r4, r5, r6, r7, r8, hne⟩
      rw [r2] at z
      cases z
      simp at r3
    · obtain ⟨bm, ob, b1, b2, b3, b4, b5, b6⟩ := bmod
      refine ⟨bm, ob, b1, b2, fun q => ?_, fun q => ?_, below b3 (bare b3 (fun us n z => by rw [b6] at z; cases z) (fun z => by rw [b6] at z; cases z)), b4, b5, b6⟩
      · obtain ⟨o, es, ep, e, dt, _⟩ := gl
        rw [q, e] at b3
        cases b3
        rw [dt] at b6
        cases b6
      · rw [q, tp] at b3
        cases b3
        cases b6
    · obtain ⟨o, es, ep, e, dt, _⟩ := gl
      rw [z, tp] at e
      cases e
      cases dt
  have env : Env0 P w K mg (hidT st.heap H) callerA [] st H := ⟨rfl, modB, fun b o e => of_hidT e, Nat.le_of_eq (hidT_size _ _), trivial, fun b m => absurd (show b ∈ ([] : List Addr) from m) (by simp), hokH, .of_eq gens0⟩
  refine codeAny_mono ((F _ kB (nsB gl) tabB).run callerA [] st H ⟨[.ref a], []⟩ [.ref a] [.ref a] _ _ rfl room env (bind st (.ref a)) (.cons rfl .nil) (want H H1 H3)) fun r s' h => ?_
  cases r with
  | error e => exact (noX H e s' h).elim
  | ok fl =>
    cases fl with
    | next => exact False.elim h
    | brk => exact False.elim h
    | cont => exact False.elim h
    | ret u =>
      obtain ⟨v, H', os, gb, un, hok', rv, q⟩ := h
      cases (show v = .bl true from q)
      cases (show u = Value.bool true from rv)
      have stay : ∀ b o, b ∉ cs.map (·.2) → st.heap.get? b = some o → s'.heap.get? b = some o := fun b o nb e => by
        cases q : H b with
        | none => exact un.keep b o e q (by intro z; exact absurd (show b ∈ ([] : List Addr) from z) (by simp)) (by simp)
        | some u =>
          rcases H2 b u q with ⟨m, _⟩ | ⟨_, _, rfl⟩
          · exact absurd m nb
          · obtain ⟨g1, _⟩ := hokH b _ q
            obtain ⟨g2, _⟩ := hok' b _ (un.frzs b _ _ q)
            exact (g1.symm.trans e) ▸ g2
      have grown : ∀ p ∈ cs, ∃ more : Array Value, s'.heap.get? p.2 = some { cls := .none, data := .fields more } := fun p hp => by
        obtain ⟨m, z⟩ := un.tbls p.2 #[] (H1 p hp)
        exact ⟨_, hok' p.2 _ z⟩
      refine ⟨rfl, ⟨fun b o e => ?_, fun b o e => ?_⟩, os, gb⟩
      · by_cases m : b ∈ cs.map (·.2)
        · obtain ⟨p, hp, rfl⟩ := List.mem_map.mp m
          obtain ⟨more, g⟩ := grown p hp
          have z := (tabs p hp).symm.trans e
          cases z
          exact .inr (.inl ⟨((hds p hp).tab (tabs p hp)).isCodeTable, rfl, #[], more, rfl, by rw [Array.empty_append]; exact g⟩)
        · exact .inl (stay b o m e)
      · by_cases m : b ∈ cs.map (·.2)
        · obtain ⟨p, hp, rfl⟩ := List.mem_map.mp m
          obtain ⟨more, g⟩ := grown p hp
          exact ⟨_, g⟩
        · exact ⟨o, stay b o m e⟩
end
/-- what is to be shown of the law's def at the head's heap -/
def LawG (l : PySem.W.OpenLaw) (w : World) (K : PySem.W.Frag) (k n : Nat) (x : Str) (mg : Str → Option Value) (fa : Addr) (h : Heap) : Prop :=
  ∃ (fd : FuncData) (cs : List (Addr × Addr)) (sp : Sp), (∀ p ∈ cs, h.get? p.2 = some tabObj) ∧ (∀ p ∈ cs, K.lookup p.2 = none) ∧ (∀ p ∈ cs, PySem.W.CodeHd h p.1 p.2) ∧ (∀ (s : Shared) (u : Value), BindsTo s fd ⟨[u], []⟩ [(x, u)]) ∧
    (∀ (H : Hp) (a : Addr) (ns : List Int), ns.length ≤ n → (∀ p ∈ cs, H p.2 = some (.tbl #[])) → SqL K H a (ns.map V.int) → sp [.ref a] H (fun v _ => v = .bl true) fun _ _ _ => False) ∧
    ∀ base : Heap, K.In base → base.Ns mainGlobals mg → (∀ p ∈ cs, TabB base mg p.1 p.2) → GnOk l.prog w K mg base CX0 k fa fd [x] sp
theorem walk_G {l : PySem.W.OpenLaw} {n k : Nat} {q : Program} {loose : List Str} {XP : (Str → Option Value) → Heap → Prop} {YP : World → Heap → Prop} {d : DefRec} {K : Params → PySem.W.Frag} {x : Str}
    (hn : l.most = some n) (hn2 : n ≤ sizeLine) (hdf : d.params.defaults = []) (hr : Room k callerA) (hY : ∀ (w : World) (h : Heap), YP w h → (K w.params).In h)
    (F : ∀ (w : World) (mg : Str → Option Value) (fa : Addr) (h : Heap), YP w h → (K w.params).In h → h.Ns mainGlobals mg → mg d.name = some (.ref fa) → LawG l w (K w.params) k n x mg fa h) :
    PySem.W.WalkO q loose XP YP l.row.toRowW d [] (fun f vs => PySem.call f vs) := by
  refine Att.attach_callB hn hdf fun w s0 s1 mg mb fa o pm cd doc a vs ns G Y ho hd hcd hmg hobj hints hlen hbits hg => ?_
  have KX := hY w _ Y
  obtain ⟨fd, cs, sp, tabs, tabsK, C, hb, hsp, hF⟩ := F w mg fa _ Y KX G.T.g hmg
  exact law_callG KX G.T.g G.T.b G.T.builtins G.T.nolimit hg tabs tabsK C G.T.bmain hobj hints (Nat.le_trans hlen hn2) hr hF hb (fun H hH hS => hsp H a ns hlen hH hS) fun H e s' h => h
end WP
namespace WP
open PySem L2 PySem.Spec PyProof.Rows
/-! ### values of any kind -/
/-- what isinstance asks of an own class -/
structure InsK (K : PySem.W.Frag) (C : Addr) : Prop where
  cl : Cls K C
  ha : PySem.W.findIn K (.ref C) "__class__" = some (some (.builtin "object.__class__"))
  hn : PySem.W.specialIn K (.builtin "object.__class__") "__get__" = some (some (.builtin "getset_descriptor.__get__"))
  ht : PySem.W.takesIn K (.builtin "object.__class__") = some true
  hm : PySem.W.mroIn K C (.type "object") = some true
  nI : PySem.W.kitOne K (.ref C) (.type "int") = some false
  nB : PySem.W.kitOne K (.ref C) (.type "bool") = some false
  nS : PySem.W.kitOne K (.ref C) (.type "str") = some false
  nL : PySem.W.kitOne K (.ref C) (.type "list") = some false
  nT : PySem.W.kitOne K (.ref C) (.type "tuple") = some false
  nD : PySem.W.kitOne K (.ref C) (.type "dict") = some false
/-- kinds of values -/
inductive Kd where
  | non | bl | int | str | lst | tup | dct | ins (C : Addr)
def Kd.ty : Kd → Value
  | .non => .type "NoneType" | .bl => .type "bool" | .int => .type "int" | .str => .type "str" | .lst => .type "list" | .tup => .type "tuple" | .dct => .type "dict" | .ins C => .ref C
/-- v is of the kind k -/
inductive Any (K : PySem.W.Frag) (H : Hp) : V → Kd → Prop
  | non : Any K H .non .non
  | bl (b : Bool) : Any K H (.bl b) .bl
  | int (i : Int) : Any K H (.int i) .int
  | str (x : Str) : Any K H (.str x) .str
  | lst {a : Addr} {xs : List V} (e : H a = some (.lst xs)) : Any K H (.ref a) .lst
  | tup {a : Addr} {xs : List V} (e : H a = some (.tup xs)) : Any K H (.ref a) .tup
  | kTup {a : Addr} {o : Obj} (e : K.lookup a = some o) (c : o.cls = .type "tuple") : Any K H (.ref a) .tup
  | dct {a : Addr} {kvs : List (Key × V)} (e : H a = some (.dK kvs)) : Any K H (.ref a) .dct
  | ins {a C dx : Addr} {fs : List (Str × V)} (e : H a = some (.ins C dx fs)) (c : InsK K C) : Any K H (.ref a) (.ins C)
theorem Any.tyx {K : PySem.W.Frag} {H : Hp} {v : V} {k : Kd} (h : Any K H v k) : TyX K H v k.ty := by
  cases h with
  | non => exact .base .non
  | bl b => exact .base (.bl b)
  | int i => exact .base (.int i)
  | str x => exact .base (.str x)
  | lst e => exact .base (.lst e)
  | tup e => exact .base (.tup e)
  | kTup e c => exact .kTuple e c
  | dct e => exact .base (.dK e)
  | ins e c => exact .base (.ins e c.cl c.ha c.hn c.ht c.hm)
theorem Any.same {K : PySem.W.Frag} {H H' : Hp} {v : V} {k : Kd} (h : Any K H v k) (s : Same H H') : Any K H' v k := by
  cases h with
  | non => exact .non
  | bl b => exact .bl b
  | int i => exact .int i
  | str x => exact .str x
  | lst e => exact .lst (s _ _ e)
  | tup e => exact .tup (s _ _ e)
  | kTup e c => exact .kTup e c
  | dct e => exact .dct (s _ _ e)
  | ins e c => exact .ins (s _ _ e) c
def Kd.isInt : Kd → Bool | .int | .bl => true | _ => false
def Kd.isBl : Kd → Bool | .bl => true | _ => false
def Kd.isStr : Kd → Bool | .str => true | _ => false
def Kd.isLst : Kd → Bool | .lst => true | _ => false
def Kd.isTup : Kd → Bool | .tup => true | _ => false
def Kd.isDct : Kd → Bool | .dct => true | _ => false
section
variable {K : PySem.W.Frag} {H : Hp} {v : V} {k : Kd}
theorem Any.kInt (h : Any K H v k) : PySem.W.kitOne K k.ty (.type "int") = some k.isInt := by
  cases h with
  | ins e c => exact c.nI
  | _ => exact kit_ty (by decide +kernel)
theorem Any.kBl (h : Any K H v k) : PySem.W.kitOne K k.ty (.type "bool") = some k.isBl := by
  cases h with
  | ins e c => exact c.nB
  | _ => exact kit_ty (by decide +kernel)
theorem Any.kStr (h : Any K H v k) : PySem.W.kitOne K k.ty (.type "str") = some k.isStr := by
  cases h with
  | ins e c => exact c.nS
  | _ => exact kit_ty (by decide +kernel)
theorem Any.kLst (h : Any K H v k) : PySem.W.kitOne K k.ty (.type "list") = some k.isLst := by
  cases h with
  | ins e c => exact c.nL
  | _ => exact kit_ty (by decide +kernel)
theorem Any.kTupB (h : Any K H v k) : PySem.W.kitOne K k.ty (.type "tuple") = some k.isTup := by
  cases h with
  | ins e c => exact c.nT
  | _ => exact kit_ty (by decide +kernel)
theorem Any.kDct (h : Any K H v k) : PySem.W.kitOne K k.ty (.type "dict") = some k.isDct := by
  cases h with
  | ins e c => exact c.nD
  | _ => exact kit_ty (by decide +kernel)
theorem Any.kSeq (h : Any K H v k) : PySem.W.kitAny K k.ty [.type "list", .type "tuple"] = some (k.isLst || k.isTup) := by
  refine kitAny_cons h.kLst (fun e => ?_) (fun e => by rw [e]; rfl)
  rw [e, Bool.false_or]
  refine kitAny_cons h.kTupB (fun e2 => ?_) (fun e2 => e2)
  rw [e2]
  exact kitAny_nil
end
/-! ### a built-in class as a value -/
section
variable {X : Cx} {pos : Pos}
theorem n_int (T : Bi X.mg) (hg : Gl X "int" := by rfl) : PE X (.Name "int" pos) (tC (.ty "int")) := pe_bltn hg T.int (by decide +kernel) rfl
theorem n_str (T : Bi X.mg) (hg : Gl X "str" := by rfl) : PE X (.Name "str" pos) (tC (.ty "str")) := pe_bltn hg T.str (by decide +kernel) rfl
theorem n_bool (T : Bi X.mg) (hg : Gl X "bool" := by rfl) : PE X (.Name "bool" pos) (tC (.ty "bool")) := pe_bltn hg T.bool (by decide +kernel) rfl
theorem n_list (T : Bi X.mg) (hg : Gl X "list" := by rfl) : PE X (.Name "list" pos) (tC (.ty "list")) := pe_bltn hg T.list (by decide +kernel) rfl
theorem n_tuple (T : Bi X.mg) (hg : Gl X "tuple" := by rfl) : PE X (.Name "tuple" pos) (tC (.ty "tuple")) := pe_bltn hg T.tuple (by decide +kernel) rfl
theorem n_dict (T : Bi X.mg) (hg : Gl X "dict" := by rfl) : PE X (.Name "dict" pos) (tC (.ty "dict")) := pe_bltn hg T.dict (by decide +kernel) rfl
/-- a constant of the module -/
theorem gStr {x z : Str} (h : ∃ t, X.mg x = some (.str z t)) (hg : Gl X x := by rfl) (hd : (x == ("__debug__" : Str)) = false := by decide) : PE X (.Name x pos) (tC (.str z)) := by
  obtain ⟨t, h⟩ := h
  exact pe_glob hg h ⟨t, rfl⟩ hd
theorem gInt {x : Str} {n : Int} (h : ∃ t, X.mg x = some (.int n t)) (hg : Gl X x := by rfl) (hd : (x == ("__debug__" : Str)) = false := by decide) : PE X (.Name x pos) (tC (.int n)) := by
  obtain ⟨t, h⟩ := h
  exact pe_glob hg h ⟨t, rfl⟩ hd
theorem gRef {x : Str} {a : Addr} (h : X.mg x = some (.ref a)) (hg : Gl X x := by rfl) (hd : (x == ("__debug__" : Str)) = false := by decide) : PE X (.Name x pos) (tC (.ref a)) := pe_glob hg h rfl hd
end
/-! ### a comprehension that leaves what stood: f i: what turn i adds -/
def PvL (H1 : Hp) (D : Addr) (f : Nat → Option V) (i : Nat) (H : Hp) : Prop := Same H1 H ∧ H1 D = none ∧ H D = some (.lst ((List.range i).filterMap f))
section
variable {H1 H H4 : Hp} {D : Addr} {f : Nat → Option V} {i : Nat} {y : V}
theorem pv_0 (hD : H1 D = none) : PvL H1 D f 0 (upd H1 D (.lst [])) := ⟨Evl.Ex.new hD, hD, upd_same⟩
theorem pv_in (p : PvL H1 D f i H) (s : Same H H4) (e : f i = some y) (hi : i < 100000) : ∃ acc, H4 D = some (.lst acc) ∧ acc.length < sizeLine ∧ PvL H1 D f (i + 1) (upd H4 D (.lst (acc ++ [y]))) := by
  have fl : ((List.range i).filterMap f).length ≤ i := Nat.le_trans (List.length_filterMap_le _ _) (by simp)
  refine ⟨_, s _ _ p.2.2, Nat.lt_of_le_of_lt fl (by rw [sizeLine_eq]; omega), Evl.Ex.mut (p.1.trans s) p.2.1, p.2.1, ?_⟩
  rw [upd_same, List.range_succ, List.filterMap_append]
  simp [e]
theorem pv_out (p : PvL H1 D f i H) (s : Same H H4) (e : f i = none) : PvL H1 D f (i + 1) H4 := by
  refine ⟨p.1.trans s, p.2.1, ?_⟩
  rw [s _ _ p.2.2, List.range_succ, List.filterMap_append]
  simp [e]
end
theorem fm_range {α : Type} (l : List α) (g : α → V) : (List.range l.length).filterMap (fun i => l[i]?.map g) = l.map g := by
  induction l with
  | nil => rfl
  | cons a r ih =>
    rw [List.length_cons, List.range_succ_eq_map, List.filterMap_cons, List.filterMap_map]
    simp only [List.getElem?_cons_zero, Option.map_some, List.map_cons, List.cons.injEq, true_and]
    rw [← ih]
    congr 1
end WP
namespace WP
open PySem L2 PySem.Spec PyProof.Rows
/-! ### sorted(t), t a tuple of texts -/
def rSortedTT (K : PySem.W.Frag) : List V → Hp → VK → Prop := fun vs H Q => ∃ (a : Addr) (xs : List Str), vs = [V.ref a] ∧ SqT K H a (xs.map V.str) ∧ xs.length < 64 ∧
  ∀ (ys : List Str) (p : Addr), ys.Perm xs → sortedS ys = true → H p = none → Q (.ref p) (upd H p (.lst (ys.map V.str)))
theorem cr_sortedTT {X : Cx} : CallR X (.builtin "sorted") (rSortedTT X.K) := by
  intro pins s σ H vs us Q I r h
  obtain ⟨a, xs, rfl, hs, h64, q⟩ := h
  obtain ⟨its, rv, p, hz⟩ := I.tuple hs
  rw [Vals.ref1 r]
  obtain ⟨o, ho, hc, n, hd⟩ := p
  have hS : StrsAre its xs := strsAre_of rv
  have hl : its.length = xs.length := by rw [← rv.length, List.length_map]
  refine Calls.call_function_entry kind_sorted plain_sorted entry_sorted (args_sorted1 _) ?_
  unfold Builtin.«sorted»
  refine wpAny_bind (m := checkCount "sorted" 1 1 _) (wpAny_pure ?_)
  refine wpAny_bind (wpAny_collect_seq a (.inr rfl) ho hc hd (fun h' hk => ?_) (by rw [List.size_toArray, hl, sizeLine_eq]; omega))
  have I1 : Inv X pins σ H { s with heap := h' } := I.kept (t' := s.toks) hk
  refine wpAny_bind (wpAny_newList ?_ (by simp only [List.toList_toArray]; rw [hl, sizeLine_eq]; omega))
  simp only [List.toList_toArray]
  have hoL : (h'.push (seqObj "list" its.toArray 0)).get? h'.objs.size = some (seqObj "list" its.toArray 0) := Heap.get?_push_size _ rfl
  show wpAny _ _ _ _ _ { s with heap := h'.push (seqObj "list" its.toArray 0) }
  refine wpAny_bind (wpAny_holding (wpAny_call_entry slot_list_sort ⟨_, hoL, rfl⟩ entry_list_sort
    (list_sort_treeK strKind_oneLt (s := { s with heap := h'.push (seqObj "list" its.toArray 0) }) hoL hS.keysOf (fun v₁ v₂ rest e => keyKind_strs (by rw [← e]; exact hS)) (by rw [hl]; exact h64) fun st' hp hs' => ⟨_, rfl, ?_⟩) (args_list_sort _)))
  obtain ⟨ys, g1, g2, g3⟩ := sorted_out_str hS hp hs'
  obtain ⟨e', he'⟩ := sortedHeap_at (vs := its) (out := (arrOf st').map (·.2)) hoL
  have hlen : (ys.map V.str).length ≤ sizeLine := by rw [List.length_map, g2.length_eq]; exact small64 h64
  refine wpAny_pure ⟨_, rfl, .ref h'.objs.size, upd H h'.objs.size (.lst (ys.map V.str)), I1.laid (t' := s.toks) (fun b u e => ?_) (Nat.le_refl _) ⟨hlen, _, e', vals_of_strs g1, he'⟩, rfl, q ys _ g2 g3 (I1.hok.fresh (Nat.le_refl _))⟩
  have lt0 : b < h'.objs.size := Heap.lt_size e
  rw [sortedHeap_old (Nat.ne_of_lt lt0) (by rw [size_push']; exact Nat.lt_succ_of_lt lt0)]
  exact Heap.get?_push_of_some _ e
end WP
namespace WP
open PySem L2 PySem.Spec PyProof.Rows
/-! ### zip of two things of any kind (list, tuple, text) that stand still -/
structure ZSrc (K : PySem.W.Frag) (v : V) (xs : List V) (ok : Hp → Prop) where
  fpx : List Addr
  o : Value → Obj
  it : Value → Addr → Nat → Heap → Prop
  start : ∀ u i1 h, h.get? i1 = some (o u) → it u i1 0 h
  obj : ∀ u i1 i h, it u i1 i h → ∃ ob, h.get? i1 = some ob ∧ ∀ c, ob.data ≠ .cell c
  keep : ∀ u i1 i h h', it u i1 i h → (∀ ob, h.get? i1 = some ob → h'.get? i1 = some ob) → it u i1 i h'
  begins : ∀ (X : Cx) (pins : List (Addr × Obj)) (σ : L2.St) (H : Hp) (s : Shared) (u : Value), X.K = K → Inv X pins σ H s → RelV v u → ok H → (∃ P, Begins u (o u) P ∧ P s.heap) ∧ ∀ b ∈ fpx, b < s.heap.objs.size
  draws : ∀ (X : Cx) (pins : List (Addr × Obj)) (σ : L2.St) (H : Hp) (s : Shared) (u : Value), X.K = K → Inv X pins σ H s → RelV v u → ok H → X.A.handled = none → ∀ i1, i1 ∉ fpx →
    ∃ (Pv : Nat → Value → Prop) (St : Nat → Heap → Prop), Draws X.prog X.w X.A.in1 i1 (i1 :: fpx) xs.length Pv St ∧ (∀ i, it u i1 i s.heap → St i s.heap) ∧ (∀ i h', St i h' → it u i1 i h') ∧ ∀ i y, Pv i y → ∃ x, xs[i]? = some x ∧ RelV x y
theorem vals_at {xs : List V} {us : List Value} (r : Vals xs us) {i : Nat} {y : Value} (h : us.toArray[i]? = some y) : ∃ x, xs[i]? = some x ∧ RelV x y := by
  have h' : us[i]? = some y := by simpa using h
  cases e : xs[i]? with
  | none =>
    rw [Vals.none_of r e] at h'
    cases h'
  | some x =>
    obtain ⟨u, h1, h2⟩ := r.get e
    rw [h1] at h'
    cases h'
    exact ⟨x, rfl, h2⟩
def zTup (K : PySem.W.Frag) (a : Addr) (xs : List V) : ZSrc K (.ref a) xs (fun H => SqT K H a xs) where
  fpx := [a]
  o := fun _ => { cls := .type "tuple_iterator", data := .fields #[.ref a, .int 0 0] }
  it := fun _ i1 i h => h.IsTupleIter i1 a i
  start := fun _ i1 h e => ⟨_, e, rfl, rfl⟩
  obj := fun _ i1 i h ⟨ob, e, _, d⟩ => ⟨ob, e, fun c z => by rw [d] at z; cases z⟩
  keep := fun _ i1 i h h' x k => x.at fun o e => k o e
  begins := fun X pins σ H s u hK I r ok => by
    subst hK
    cases r
    obtain ⟨its, rv, p, hz⟩ := I.tuple ok
    refine ⟨⟨_, begins_tuple a its.toArray, p⟩, fun b hb => ?_⟩
    rw [List.mem_singleton.mp hb]
    obtain ⟨ob, ho, _⟩ := p
    exact Heap.lt_size ho
  draws := fun X pins σ H s u hK I r ok hh i1 hi => by
    subst hK
    cases r
    obtain ⟨its, rv, p, hz⟩ := I.tuple ok
    have D := Draws.tuple (prog := X.prog) (w := X.w) (A := X.A.in1) hh i1 a (fun z => hi (by rw [z]; exact List.mem_singleton.mpr rfl)) its.toArray
    have el : its.toArray.size = xs.length := by rw [List.size_toArray, ← rv.length]
    rw [el] at D
    exact ⟨_, _, D, fun i h => ⟨h, p⟩, fun i h' st => st.1, fun i y h => vals_at rv h⟩
def zLst (K : PySem.W.Frag) (a : Addr) (xs : List V) : ZSrc K (.ref a) xs (fun H => SqL K H a xs) where
  fpx := [a]
  o := fun _ => { cls := .type "list_iterator", data := .fields #[.ref a, .int 0 0] }
  it := fun _ i1 i h => h.IsListIter i1 a i
  start := fun _ i1 h e => ⟨_, e, rfl, rfl⟩
  obj := fun _ i1 i h ⟨ob, e, _, d⟩ => ⟨ob, e, fun c z => by rw [d] at z; cases z⟩
  keep := fun _ i1 i h h' x k => x.at fun o e => k o e
  begins := fun X pins σ H s u hK I r ok => by
    subst hK
    cases r
    obtain ⟨its, rv, p, hz⟩ := I.list ok
    refine ⟨⟨_, begins_list a its.toArray, p.isList⟩, fun b hb => ?_⟩
    rw [List.mem_singleton.mp hb]
    exact p.lt
  draws := fun X pins σ H s u hK I r ok hh i1 hi => by
    subst hK
    cases r
    obtain ⟨its, rv, p, hz⟩ := I.list ok
    have D := Draws.list (prog := X.prog) (w := X.w) (A := X.A.in1) hh i1 a (fun z => hi (by rw [z]; exact List.mem_singleton.mpr rfl)) its.toArray
    have el : its.toArray.size = xs.length := by rw [List.size_toArray, ← rv.length]
    rw [el] at D
    exact ⟨_, _, D, fun i h => ⟨h, p.isList⟩, fun i h' st => st.1, fun i y h => vals_at rv h⟩
def signs (z : Str) : List V := z.cps.toList.map fun c => V.str ⟨#[c]⟩
def zStr (K : PySem.W.Frag) (z : Str) : ZSrc K (.str z) (signs z) (fun _ => True) where
  fpx := []
  o := fun u => { cls := .type (strIterType z), data := .fields #[u, .int 0 0] }
  it := fun u i1 i h => ∃ t, u = .str z t ∧ h.IsStrIter i1 (strIterType z) z t i ∨ (∃ ob, h.get? i1 = some ob ∧ (∀ c, ob.data ≠ .cell c)) ∧ ∀ t, u ≠ .str z t
  start := fun u i1 h e => by
    by_cases hu : ∃ t, u = .str z t
    · obtain ⟨t, rfl⟩ := hu
      exact ⟨t, .inl ⟨rfl, _, e, rfl, rfl⟩⟩
    · exact ⟨0, .inr ⟨⟨_, e, fun c q => nomatch q⟩, fun t q => hu ⟨t, q⟩⟩⟩
  obj := fun u i1 i h x => by
    obtain ⟨t, ⟨_, ob, e, _, d⟩ | ⟨x, _⟩⟩ := x
    · exact ⟨ob, e, fun c q => by rw [d] at q; cases q⟩
    · exact x
  keep := fun u i1 i h h' x k => by
    obtain ⟨t, ⟨hu, ob, e, r⟩ | ⟨⟨ob, e, r⟩, y⟩⟩ := x
    · exact ⟨t, .inl ⟨hu, ob, k _ e, r⟩⟩
    · exact ⟨t, .inr ⟨⟨ob, k _ e, r⟩, y⟩⟩
  begins := fun X pins σ H s u hK I r ok => by
    obtain ⟨t, rfl⟩ := r
    exact ⟨⟨_, begins_text z t, trivial⟩, fun b hb => nomatch hb⟩
  draws := fun X pins σ H s u hK I r ok hh i1 hi => by
    obtain ⟨t, rfl⟩ := r
    have D := Draws.text (prog := X.prog) (w := X.w) (A := X.A.in1) hh i1 z t
    have el : z.cps.size = (signs z).length := by unfold signs; simp
    rw [el] at D
    refine ⟨_, _, D, fun i x => ?_, fun i h' st => ⟨t, .inl ⟨rfl, st⟩⟩, fun i y h => ?_⟩
    · obtain ⟨t', ⟨hu, x⟩ | ⟨_, y⟩⟩ := x
      · cases hu
        exact x
      · exact absurd rfl (y t)
    · obtain ⟨c, u, hc, rfl⟩ := h
      refine ⟨.str ⟨#[c]⟩, ?_, ⟨u, rfl⟩⟩
      unfold signs
      rw [List.getElem?_map, Array.getElem?_toList, hc]
      rfl
def ItM (ok1 ok2 : Hp → Prop) (xs ys : List V) : It :=
  ⟨fun i H => ok1 H ∧ ok2 H ∧ i < xs.length ∧ i < ys.length,
    fun i H v H' => ∃ T x y, v = .ref T ∧ H T = none ∧ H' = upd H T (.tup [x, y]) ∧ xs[i]? = some x ∧ ys[i]? = some y,
    fun i H => ok1 H ∧ ok2 H ∧ i ≤ xs.length ∧ i ≤ ys.length ∧ (i = xs.length ∨ i = ys.length)⟩
theorem walk_zipM {ok1 ok2 : Hp → Prop} {xs ys : List V} {n : Nat} (hn : n = min xs.length ys.length) : Walk (ItM ok1 ok2 xs ys) n (fun H => ok1 H ∧ ok2 H) (YPair (fun i => xs[i]?) (fun i => ys[i]?)) := by
  subst hn
  exact ⟨fun i _ hi q => ⟨q.1, q.2, by omega, by omega⟩, fun _ q => ⟨q.1, q.2, by omega, by omega, by omega⟩, fun i H v H' _ q y => y⟩
section
variable {K : PySem.W.Frag} {v1 v2 : V} {xs ys : List V} {ok1 ok2 : Hp → Prop}
theorem turn_zipM {P : Program} {w : World} {elts : List Expr} {kk : Nat} {tpos : Pos} {z TI TO i1 i2 : Addr} {u1 u2 : Value} (S1 : ZSrc K v1 xs ok1) (S2 : ZSrc K v2 ys ok2) (S : ZipSep2 z TI TO i1 i2 (i1 :: S1.fpx) (i2 :: S2.fpx)) (n1 : i1 ∉ S1.fpx) (n2 : i2 ∉ S2.fpx) (r1 : RelV v1 u1) (r2 : RelV v2 u2) :
    Turn P w K (.Tuple elts kk tpos) (ItM ok1 ok2 xs ys) [z, TI, TO, i1, i2] z (fun i h => IsZip h z TI TO .none ∧ IsTupOf2 h TI (.ref i1) (.ref i2) ∧ (∃ x y, IsTupOf2 h TO x y) ∧ S1.it u1 i1 i h ∧ S2.it u2 i2 i h) where
  mem := by simp
  obj := fun i h st c hc => by
    obtain ⟨hz, hTI, ⟨x, y, hTO⟩, t1, t2⟩ := st
    have cc : c = z ∨ c = TI ∨ c = TO ∨ c = i1 ∨ c = i2 := by simpa using hc
    rcases cc with rfl | rfl | rfl | rfl | rfl
    · exact ⟨_, hz, fun v q => nomatch q⟩
    · exact ⟨_, hTI, fun v q => nomatch q⟩
    · exact ⟨_, hTO, fun v q => nomatch q⟩
    · exact S1.obj _ _ _ _ t1
    · exact S2.obj _ _ _ _ t2
  keep := fun i h h' st k => by
    obtain ⟨hz, hTI, ⟨x, y, hTO⟩, t1, t2⟩ := st
    exact ⟨k z (by simp) _ hz, k TI (by simp) _ hTI, ⟨x, y, k TO (by simp) _ hTO⟩, S1.keep _ _ _ _ _ t1 fun o q => k i1 (by simp) o q, S2.keep _ _ _ _ _ t2 fun o q => k i2 (by simp) o q⟩
  item := by
    intro X hP hw hK hc i pins s σ H E I hf st hg
    subst hP hw
    obtain ⟨hz, hTI, ⟨x0, y0, hTO⟩, t1, t2⟩ := st
    obtain ⟨o1, o2, l1, l2⟩ := hg
    have hh := I.ok.hd hc
    obtain ⟨P1, T1, D1, a1, b1, c1⟩ := S1.draws X pins σ H s u1 hK I r1 o1 hh i1 n1
    obtain ⟨P2, T2, D2, a2, b2, c2⟩ := S2.draws X pins σ H s u2 hK I r2 o2 hh i2 n2
    have zl : z < s.heap.objs.size := Heap.lt_size hz
    refine wpAny_pyNext_zipD2_item S D1 D2 hz hTI hTO (a1 i t1) (a2 i t2) l1 l2 fun y1 y2 h' tk p1 p2 z' TO' s1 s2 hT hsz hk => ?_
    obtain ⟨x, hx, rx⟩ := c1 i y1 p1
    obtain ⟨y, hy, ry⟩ := c2 i y2 p2
    refine ⟨_, rfl, wpAny_letOwnedTupleGo_zip (s := { s with heap := h', toks := tk }) z' fun h'' z'' sb => ?_⟩
    have hT2 : IsTupOf2 h'' s.heap.objs.size y1 y2 := (sb.2 _ (Nat.ne_of_gt zl)).trans hT
    have new : ObjOk X.prog X.w (upd H s.heap.objs.size (.tup [x, y])) h'' s.heap.objs.size (.tup [x, y]) := ⟨by show 2 ≤ sizeLine; decide, [y1, y2], .cons rx (.cons ry .nil), ⟨_, hT2, rfl, _, rfl⟩⟩
    have I1 : Inv X pins σ (upd H s.heap.objs.size (.tup [x, y])) { s with heap := h'', toks := tk } :=
      I.turnedNew (t' := tk) (ch := [z, TI, TO, i1, i2]) (fun c o nb q => (sb.2 c (fun e => nb (by simp [e]))).trans (hk c o (fun e => nb (by simp [e])) (fun e => nb (by simp [e])) (fun e => nb (by simp [e])) (fun e => nb (by simp [e])) q)) hf (Nat.le_refl _) new
    refine ⟨.ref s.heap.objs.size, _, I1, rfl, ⟨_, x, y, rfl, I.hok.fresh (Nat.le_refl _), rfl, hx, hy⟩, ⟨z'', ?_, ⟨y1, y2, (sb.2 _ S.TOz).trans TO'⟩, ?_, ?_⟩, fun c hcm => ?_⟩
    · exact (sb.2 _ S.TIz).trans (hk _ _ S.TIz S.TITO S.TIi1 S.TIi2 hTI)
    · exact S1.keep _ _ _ _ _ (b1 _ _ s1) fun o q => (sb.2 _ (Ne.symm S.zi1)).trans q
    · exact S2.keep _ _ _ _ _ (b2 _ _ s2) fun o q => (sb.2 _ (Ne.symm S.zi2)).trans q
    · rw [upd_ne (fun e => ?_)]
      · exact (hf c hcm).1
      · have cc : c = z ∨ c = TI ∨ c = TO ∨ c = i1 ∨ c = i2 := by simpa using hcm
        have lt : c < s.heap.objs.size := by
          rcases cc with rfl | rfl | rfl | rfl | rfl
          · exact zl
          · exact Heap.lt_size hTI
          · exact Heap.lt_size hTO
          · obtain ⟨_, e1, _⟩ := S1.obj _ _ _ _ t1
            exact Heap.lt_size e1
          · obtain ⟨_, e1, _⟩ := S2.obj _ _ _ _ t2
            exact Heap.lt_size e1
        rw [e] at lt
        exact Nat.lt_irrefl _ lt
  done := by
    intro X hP hw hK hc i pins s σ H E I hf st hg
    subst hP hw
    obtain ⟨hz, hTI, ⟨x0, y0, hTO⟩, t1, t2⟩ := st
    obtain ⟨o1, o2, l1, l2, le⟩ := hg
    have hh := I.ok.hd hc
    obtain ⟨P1, T1, D1, a1, b1, c1⟩ := S1.draws X pins σ H s u1 hK I r1 o1 hh i1 n1
    obtain ⟨P2, T2, D2, a2, b2, c2⟩ := S2.draws X pins σ H s u2 hK I r2 o2 hh i2 n2
    exact wpAny_pyNext_zipD2_end S D1 D2 hz hTI hTO (a1 i t1) (a2 i t2) l1 l2 le fun h' tk hk => ⟨rfl, I.turnedL (t' := tk) (ch := [z, TI, TO, i1, i2]) (fun c o nb q =>
      hk c o (fun e => nb (by simp [e])) (fun e => nb (by simp [e])) (fun e => nb (by simp [e])) (fun e => nb (by simp [e])) q) hf⟩
  self := fun A i s Q E st h => wpAny_pyIter_zip st.1 h
end
def iZipM (K : PySem.W.Frag) (ta : TA) : TI := fun σ H R => ta σ H fun vs H1 => ∃ (v1 v2 : V) (xs ys : List V) (ok1 ok2 : Hp → Prop) (_ : ZSrc K v1 xs ok1) (_ : ZSrc K v2 ys ok2), vs = [v1, v2] ∧ ok1 H1 ∧ ok2 H1 ∧ R (ItM ok1 ok2 xs ys) H1
theorem pi_zipM {X : Cx} {e e2 : Expr} {ta : TA} {p pos tpos : Pos} {elts : List Expr} {kk : Nat} (hg : Gl X "zip") (hm : X.mg "zip" = none) (ha : PA X [e, e2] ta)
    (hs : starEach [e, e2] X.env = (false, eval e X.env) :: starEach [e2] X.env := by rfl) (hpl : (backTo pos (starEach [e2] X.env)).any (·.1) = false := by rfl) :
    PI X (.Tuple elts kk tpos) (.Call (.Name "zip" p) [e, e2] [] pos) (iZipM X.K ta) := by
  refine ⟨fun pins s σ H R I h => ?_⟩
  refine Call_ (ld_blt I hg hm boot_zip (callWith_type1 (thn (ha.run pos pins s σ H _ I h) fun us s1 ⟨vs, H1, I1, rr, q1⟩ => ?_) hs hpl))
  obtain ⟨v1, v2, xs, ys, ok1, ok2, S1, S2, rfl, o1, o2, q⟩ := q1
  obtain ⟨u1, u2, rfl, r1, r2⟩ := vals2 rr
  obtain ⟨⟨P1, B1, p1⟩, lt1⟩ := S1.begins X pins σ H1 s1 u1 rfl I1 r1 o1
  obtain ⟨⟨P2, B2, p2⟩, lt2⟩ := S2.begins X pins σ H1 s1 u2 rfl I1 r2 o2
  refine zip_begins2 B1 B2 p1 p2 fun h' hz hTI hTO g1 g2 hsz hk => wpAny_pyIter_zip hz ?_
  have I2 : Inv X pins σ H1 { s1 with heap := h' } := I1.kept (t' := s1.toks) hk
  have S := zip_sep2 (N := s1.heap.objs.size) lt1 lt2
  refine ⟨s1.heap.objs.size + 4, [s1.heap.objs.size + 4, s1.heap.objs.size + 2, s1.heap.objs.size + 3, s1.heap.objs.size, s1.heap.objs.size + 1], _, _, H1, rfl, I2,
    turn_zipM S1 S2 S (fun m => Nat.lt_irrefl _ (lt1 _ m)) (fun m => Nat.lt_irrefl _ (Nat.lt_of_succ_lt (lt2 _ m))) r1 r2, ⟨hz, hTI, ⟨_, _, hTO⟩, S1.start _ _ _ g1, S2.start _ _ _ g2⟩, fun c hcm => ?_, q⟩
  have le : s1.heap.objs.size ≤ c := by
    have cc : c = s1.heap.objs.size + 4 ∨ c = s1.heap.objs.size + 2 ∨ c = s1.heap.objs.size + 3 ∨ c = s1.heap.objs.size ∨ c = s1.heap.objs.size + 1 := by simpa using hcm
    rcases cc with rfl | rfl | rfl | rfl | rfl
    · exact Nat.le_add_right _ _
    · exact Nat.le_add_right _ _
    · exact Nat.le_add_right _ _
    · exact Nat.le_refl _
    · exact Nat.le_add_right _ _
  exact I1.fpOk le (I1.hok.fresh le)
end WP
namespace WP
open PySem L2 TL
/-! ### words and numbers, with no program in sight -/
abbrev alphabet : Str := "abcdefghijklmnopqrstuvwxyz"
abbrev digits : Str := "0123456789"
def isNameS (z : Str) : Bool := decide ((1 : Int) ≤ z.length) && decide ((z.length : Int) ≤ 8) && z.cps.toList.all (fun c => decide (c ∈ alphabet.cps.toList))
def isNameV : V → Bool
  | .str z => isNameS z
  | _ => false
def isNumV : V → Bool
  | .int _ => true
  | _ => false
def isTicksV : V → Bool
  | .non => true
  | .int i => decide (0 ≤ i) && decide (i ≤ 1000)
  | _ => false
def head0 (z : Str) : Bool := (tl z).head? == some 48
def isNumS (z : Str) : Bool := decide ((1 : Int) ≤ z.length) && decide ((z.length : Int) ≤ 18) && (tl z).all (fun c => decide (c ∈ tl digits)) && (decide (z = "0") || !head0 z)
def numOf (z : Str) : Int := (intText? z).getD 0
theorem dig_iff {c : Nat} (h : c ∈ tl digits) : 48 ≤ c ∧ c ≤ 57 := by
  have e : tl digits = [48, 49, 50, 51, 52, 53, 54, 55, 56, 57] := by decide +kernel
  rw [e] at h
  simp only [List.mem_cons, List.not_mem_nil, or_false] at h
  omega
theorem val_snoc (l : List Nat) (c : Nat) : NumText.digitsVal (l ++ [c]) = NumText.digitsVal l * 10 + (c - 48) := by
  unfold NumText.digitsVal
  rw [List.foldl_append]
  rfl
theorem val_pos : ∀ (n : Nat) (l : List Nat), l.length = n → (∀ c ∈ l, 48 ≤ c ∧ c ≤ 57) → l ≠ [] → l.head? ≠ some 48 → 0 < NumText.digitsVal l ∧ numL (NumText.digitsVal l) = l := by
  intro n
  induction n with
  | zero => intro l h _ hne _; exact absurd (List.length_eq_zero_iff.mp h) hne
  | succ n ih =>
    intro l hl hd hne h0
    obtain ⟨r, c, rfl⟩ : ∃ r c, l = r ++ [c] := ⟨l.dropLast, l.getLast hne, (List.dropLast_concat_getLast hne).symm⟩
    have hc := hd c (by simp)
    rw [val_snoc]
    by_cases hr : r = []
    · subst hr
      simp only [List.nil_append, List.head?_cons, ne_eq, Option.some.injEq] at h0
      have e0 : NumText.digitsVal [] = 0 := rfl
      rw [e0, Nat.zero_mul, Nat.zero_add, numL_lt (by omega)]
      exact ⟨by omega, by simp; omega⟩
    · have h1 : r.head? ≠ some 48 := by
        cases r with
        | nil => exact absurd rfl hr
        | cons a r => simpa using h0
      obtain ⟨p1, p2⟩ := ih r (by simpa using hl) (fun c hc => hd c (by simp [hc])) hr h1
      refine ⟨by omega, ?_⟩
      rw [numL_step (by omega)]
      have e1 : (NumText.digitsVal r * 10 + (c - 48)) / 10 = NumText.digitsVal r := by omega
      have e2 : 48 + (NumText.digitsVal r * 10 + (c - 48)) % 10 = c := by omega
      rw [e1, e2, p2]
theorem val_lt : ∀ (n : Nat) (l : List Nat), l.length = n → (∀ c ∈ l, 48 ≤ c ∧ c ≤ 57) → NumText.digitsVal l < 10 ^ n := by
  intro n
  induction n with
  | zero => intro l h _; rw [List.length_eq_zero_iff.mp h]; decide
  | succ n ih =>
    intro l hl hd
    have hne : l ≠ [] := fun e => by rw [e] at hl; cases hl
    obtain ⟨r, c, rfl⟩ : ∃ r c, l = r ++ [c] := ⟨l.dropLast, l.getLast hne, (List.dropLast_concat_getLast hne).symm⟩
    have hc := hd c (by simp)
    have := ih r (by simpa using hl) (fun c hc => hd c (by simp [hc]))
    rw [val_snoc, Nat.pow_succ]
    omega
/-- what a numeral is -/
theorem numeral {z : Str} (h : isNumS z = true) : ∃ n : Nat, n < 10 ^ 18 ∧ intText? z = some (n : Int) ∧ Str.ofString (toString ((n : Nat) : Int)) = z := by
  unfold isNumS at h
  simp only [Bool.and_eq_true, decide_eq_true_eq, List.all_eq_true, Bool.or_eq_true, Bool.not_eq_true'] at h
  obtain ⟨⟨⟨h1, h2⟩, h3⟩, h4⟩ := h
  have hd : ∀ c ∈ tl z, 48 ≤ c ∧ c ≤ 57 := fun c hc => dig_iff (h3 c hc)
  have hl : z.length = (tl z).length := len_tl z
  have hne : tl z ≠ [] := fun e => by rw [hl, e] at h1; simp at h1
  have hb : NumText.digitsVal (tl z) < 10 ^ 18 := Nat.lt_of_lt_of_le (val_lt _ _ rfl hd) (Nat.pow_le_pow_right (by decide) (by omega))
  have back : numL (NumText.digitsVal (tl z)) = tl z := by
    rcases h4 with rfl | h4
    · decide +kernel
    · refine (val_pos _ _ rfl hd hne ?_).2
      intro e
      unfold head0 at h4
      rw [e] at h4
      simp at h4
  have ez : Str.ofString (toString ((NumText.digitsVal (tl z) : Nat) : Int)) = z := ext_tl (by rw [tl_num, back])
  refine ⟨_, hb, ?_, ez⟩
  have := int_num (n := NumText.digitsVal (tl z)) (by rw [back]; omega)
  rw [ez] at this
  exact this
theorem numOf_eq {z : Str} (h : isNumS z = true) : intText? z = some (numOf z) ∧ 0 ≤ numOf z ∧ numOf z ≤ 999999999999999999 ∧ Str.ofString (toString (numOf z)) = z := by
  obtain ⟨n, h1, h2, h3⟩ := numeral h
  have e : numOf z = n := by unfold numOf; rw [h2]; rfl
  rw [e]
  exact ⟨h2, by omega, by omega, h3⟩
/-! ### deeds -/
def forms : List (Str × List Str) := [("begin", ["number"]), ("step", []), ("clear", ["name", "number"]), ("wait", ["ticks"]), ("lose", ["number", "name", "number"]), ("open", ["name"]), ("fetch", ["number", "name"])]
def formOf (z : Str) : Option (List Str) := (forms.find? (fun p => decide (p.1 = z))).map (·.2)
def isPartV (s : Str) (v : V) : Bool := if s = "name" then isNameV v else match v with
  | .int i => decide ((if s = "ticks" then (1 : Int) else 0) ≤ i) && decide (i ≤ 999999999999999999)
  | _ => false
def isDeedL : List V → Bool
  | .str z :: r => match formOf z with
    | none => false
    | some ss => decide (r.length = ss.length) && (List.zipWith isPartV ss r).all id
  | _ => false
def seqO (l : List (Option V)) : Option (List V) := if l.all Option.isSome then some (l.filterMap id) else none
theorem seqO_some (xs : List V) : seqO (xs.map some) = some xs := by
  unfold seqO
  rw [if_pos (by simp)]
  simp [List.filterMap_map]
theorem seqO_none {l : List (Option V)} (h : none ∈ l) : seqO l = none := by
  unfold seqO
  rw [if_neg]
  intro e
  have := List.all_eq_true.mp e _ h
  cases this
theorem seqO_cons (o : Option V) (l : List (Option V)) : seqO (o :: l) = o.bind fun x => (seqO l).map (x :: ·) := by
  unfold seqO
  cases o with
  | none => simp
  | some x =>
    simp only [List.all_cons, Option.isSome_some, Bool.true_and, List.filterMap_cons, id, Option.bind_some]
    split <;> rfl
def partP (s w : Str) : Option V := if s = "name" then some (.str w) else if isNumS w then some (.int (numOf w)) else none
def partC (s w : Str) : Option V := (partP s w).bind fun x => if isPartV s x then some x else none
/-- the deed of a line, as the program reads it -/
def deedP (z : Str) : Option (List V) := match Txt.split z " " with
  | [] => none
  | w0 :: r => match formOf w0 with
    | none => none
    | some ss => if r.length = ss.length then (seqO (List.zipWith partP ss r)).bind fun xs => if isDeedL (.str w0 :: xs) then some (.str w0 :: xs) else none else none
def deedC (z : Str) : Option (List V) := match Txt.split z " " with
  | [] => none
  | w0 :: r => match formOf w0 with
    | none => none
    | some ss => if r.length = ss.length then (seqO (List.zipWith partC ss r)).map (.str w0 :: ·) else none
theorem seq_len {f : Str → Str → Option V} : ∀ {ss r : List Str} {xs : List V}, r.length = ss.length → seqO (List.zipWith f ss r) = some xs → xs.length = ss.length
  | [], [], xs, _, h => by
    have : seqO [] = some [] := rfl
    rw [List.zipWith_nil_left, this] at h
    rw [← Option.some.inj h]; rfl
  | [], _ :: _, _, h, _ => by cases h
  | _ :: _, [], _, h, _ => by cases h
  | s :: ss, w :: r, xs, h, e => by
    rw [List.zipWith_cons_cons, seqO_cons] at e
    cases e1 : f s w with
    | none => rw [e1] at e; cases e
    | some x =>
      rw [e1, Option.bind_some] at e
      cases e2 : seqO (List.zipWith f ss r) with
      | none => rw [e2] at e; cases e
      | some ys =>
        rw [e2] at e
        rw [← Option.some.inj e, List.length_cons, List.length_cons, seq_len (by simpa using h) e2]
theorem seq_two : ∀ (ss r : List Str), r.length = ss.length → seqO (List.zipWith partC ss r) = (seqO (List.zipWith partP ss r)).bind fun xs => if (List.zipWith isPartV ss xs).all id then some xs else none
  | [], [], _ => rfl
  | [], _ :: _, h => by cases h
  | _ :: _, [], h => by cases h
  | s :: ss, w :: r, h => by
    have ih := seq_two ss r (by simpa using h)
    rw [List.zipWith_cons_cons, List.zipWith_cons_cons, seqO_cons, seqO_cons, ih]
    unfold partC
    cases e1 : partP s w with
    | none => rfl
    | some x =>
      simp only [Option.bind_some]
      cases e2 : seqO (List.zipWith partP ss r) with
      | none => by_cases hx : isPartV s x = true <;> simp [hx]
      | some ys =>
        by_cases hx : isPartV s x = true
        · simp only [hx, if_true, Option.bind_some, Option.map_some, List.zipWith_cons_cons, List.all_cons, id, Bool.true_and]
          split <;> rfl
        · simp [hx]
theorem deedP_eq (z : Str) : deedP z = deedC z := by
  unfold deedP deedC
  split
  · rfl
  · rename_i w0 r _
    cases hf : formOf w0 with
    | none => rfl
    | some ss =>
      dsimp only
      by_cases hl : r.length = ss.length
      · rw [if_pos hl, if_pos hl, seq_two ss r hl]
        cases e2 : seqO (List.zipWith partP ss r) with
        | none => rfl
        | some ys =>
          have := seq_len hl e2
          simp only [Option.bind_some, isDeedL, hf, this, decide_true, Bool.true_and]
          split <;> rfl
      · rw [if_neg hl, if_neg hl]
end WP
namespace WP
open PySem L2 TL
/-! ### facts of deeds -/
def flatD : V → PyData
  | .bl b => .bool b
  | .int i => .int i
  | .str z => .str z
  | _ => .none
def optD : Option (List V) → PyData
  | none => .none
  | some xs => .tuple (xs.map flatD)
def showV : V → Str
  | .int i => Str.ofString (toString i)
  | .str z => z
  | _ => ""
def deedLine (xs : List V) : Str := Txt.join " " (xs.map showV)
def Part (x : V) : Prop := (∃ i : Int, x = .int i ∧ 0 ≤ i ∧ i ≤ 999999999999999999) ∨ (∃ w : Str, x = .str w ∧ w.length ≤ 8 ∧ PyData.strOk w = true)
theorem form_mem {z : Str} {ss : List Str} (h : formOf z = some ss) : (z, ss) ∈ forms := by
  unfold formOf at h
  cases e : forms.find? (fun p => decide (p.1 = z)) with
  | none => rw [e] at h; cases h
  | some p =>
    rw [e] at h
    have h1 := List.mem_of_find?_eq_some e
    have h2 := List.find?_some e
    simp only [decide_eq_true_eq] at h2
    have h3 : p.2 = ss := Option.some.inj h
    rw [← h2, ← h3]
    exact h1
theorem form_word {z : Str} {ss : List Str} (h : formOf z = some ss) : 4 ≤ z.length ∧ z.length ≤ 5 ∧ PyData.strOk z = true ∧ ss.length ≤ 3 := by
  have h := form_mem h
  have : ∀ p ∈ forms, 4 ≤ p.1.length ∧ p.1.length ≤ 5 ∧ PyData.strOk p.1 = true ∧ p.2.length ≤ 3 := by decide +kernel
  exact this _ h
theorem abc_lt {c : Nat} (h : c ∈ alphabet.cps.toList) : c < 128 := by
  have : ∀ c ∈ alphabet.cps.toList, c < 128 := by decide +kernel
  exact this c h
theorem name_ok {z : Str} (h : isNameS z = true) : 1 ≤ z.length ∧ z.length ≤ 8 ∧ PyData.strOk z = true := by
  unfold isNameS at h
  simp only [Bool.and_eq_true, decide_eq_true_eq, List.all_eq_true] at h
  obtain ⟨⟨h1, h2⟩, h3⟩ := h
  refine ⟨by omega, by omega, ?_⟩
  unfold PyData.strOk
  rw [← Array.all_toList, List.all_eq_true]
  intro c hc
  have := abc_lt (h3 c hc)
  simp only [decide_eq_true_eq]
  omega
theorem isPart_part {s : Str} {x : V} (h : isPartV s x = true) : Part x := by
  unfold isPartV at h
  split at h
  · unfold isNameV at h
    split at h
    · rename_i z
      have := name_ok h
      exact .inr ⟨z, rfl, this.2.1, this.2.2⟩
    · cases h
  · split at h
    · rename_i i
      simp only [Bool.and_eq_true, decide_eq_true_eq] at h
      refine .inl ⟨i, rfl, ?_, h.2⟩
      have := h.1
      split at this <;> omega
    · cases h
theorem zip_part : ∀ (ss : List Str) (r : List V), r.length = ss.length → (List.zipWith isPartV ss r).all id = true → ∀ x ∈ r, Part x
  | [], [], _, _ => fun x h => by cases h
  | [], _ :: _, h, _ => by cases h
  | _ :: _, [], h, _ => by cases h
  | s :: ss, y :: r, h, e => by
    rw [List.zipWith_cons_cons, List.all_cons, Bool.and_eq_true] at e
    intro x hx
    rcases List.mem_cons.mp hx with rfl | hx
    · exact isPart_part e.1
    · exact zip_part ss r (by simpa using h) e.2 x hx
theorem deed_parts {xs : List V} (h : isDeedL xs = true) : (∀ x ∈ xs, Part x) ∧ xs.length ≤ 4 ∧ xs ≠ [] := by
  unfold isDeedL at h
  split at h
  · rename_i z r
    cases hf : formOf z with
    | none => rw [hf] at h; cases h
    | some ss =>
      rw [hf] at h
      simp only [Bool.and_eq_true, decide_eq_true_eq] at h
      have hw := form_word hf
      refine ⟨fun x hx => ?_, by rw [List.length_cons]; omega, by simp⟩
      rcases List.mem_cons.mp hx with rfl | hx
      · exact .inr ⟨z, rfl, by omega, hw.2.2.1⟩
      · exact zip_part ss r h.1 h.2 x hx
  · cases h
theorem partC_show {s w : Str} {x : V} (h : partC s w = some x) : showV x = w := by
  unfold partC partP at h
  split at h
  · simp only [Option.bind_some] at h
    split at h
    · rw [← Option.some.inj h]; rfl
    · cases h
  · split at h
    · rename_i hn
      simp only [Option.bind_some] at h
      split at h
      · rw [← Option.some.inj h]
        exact (numOf_eq hn).2.2.2
      · cases h
    · cases h
theorem seq_show : ∀ (ss r : List Str) (xs : List V), r.length = ss.length → seqO (List.zipWith partC ss r) = some xs → xs.map showV = r
  | [], [], xs, _, h => by
    have : seqO [] = some [] := rfl
    rw [List.zipWith_nil_left, this] at h
    rw [← Option.some.inj h]; rfl
  | [], _ :: _, _, h, _ => by cases h
  | _ :: _, [], _, h, _ => by cases h
  | s :: ss, w :: r, xs, h, e => by
    rw [List.zipWith_cons_cons, seqO_cons] at e
    cases e1 : partC s w with
    | none => rw [e1] at e; cases e
    | some x =>
      rw [e1, Option.bind_some] at e
      cases e2 : seqO (List.zipWith partC ss r) with
      | none => rw [e2] at e; cases e
      | some ys =>
        rw [e2] at e
        rw [← Option.some.inj e, List.map_cons, partC_show e1, seq_show ss r ys (by simpa using h) e2]
theorem deed_back {z : Str} {xs : List V} (h : deedC z = some xs) : deedLine xs = z ∧ isDeedL xs = true ∧ 4 ≤ z.length := by
  have h0 := h
  rw [← deedP_eq] at h0
  unfold deedC at h
  cases hs : Txt.split z " " with
  | nil => rw [hs] at h; cases h
  | cons w0 r =>
    rw [hs] at h
    cases hf : formOf w0 with
    | none => simp only [hf] at h; cases h
    | some ss =>
      simp only [hf] at h
      split at h
      · rename_i hl
        cases e2 : seqO (List.zipWith partC ss r) with
        | none => rw [e2] at h; cases h
        | some ys =>
          rw [e2] at h
          have h : V.str w0 :: ys = xs := Option.some.inj h
          subst h
          have e3 := seq_show ss r ys hl e2
          have e4 : Txt.join " " (w0 :: r) = z := by rw [← hs, join_eq]; exact PySem.StrLaws.join_split z " "
          have e5 := PyProof.Rows.split_weight z " " (by decide)
          rw [hs] at e5
          simp only [List.map_cons, List.sum_cons, List.length_cons] at e5
          have hw := form_word hf
          refine ⟨?_, ?_, by omega⟩
          · unfold deedLine
            rw [List.map_cons, e3]
            exact e4
          · unfold deedP at h0
            rw [hs] at h0
            simp only [hf, hl, if_true] at h0
            cases e6 : seqO (List.zipWith partP ss r) with
            | none => rw [e6] at h0; cases h0
            | some us =>
              rw [e6, Option.bind_some] at h0
              split at h0
              · rename_i hd
                rw [← Option.some.inj h0]
                exact hd
              · cases h0
      · cases h
/-! ### how long a deed is shown -/
theorem part_shown {x : V} (h : Part x) : (flatD x).shown.length ≤ 82 := by
  rcases h with ⟨i, rfl, h0, h1⟩ | ⟨w, rfl, h1, h2⟩
  · show (PyData.shown (.int i)).length ≤ 82
    rw [PyData.shown]
    exact Nat.le_trans (PyProof.Rows.toString_length_le h0 (k := 18) (by decide) (by omega)) (by decide)
  · show (PyData.shown (.str w)).length ≤ 82
    rw [PyData.shown]
    refine Nat.le_trans (PySem.StrLaws.reprText_len w fun c hc => ?_) (by omega)
    unfold PyData.strOk at h2
    rw [← Array.all_toList, List.all_eq_true] at h2
    have := h2 c hc
    simp only [decide_eq_true_eq] at this
    omega
theorem piled_parts : ∀ xs : List V, (∀ x ∈ xs, Part x) → piled (PyData.shownAll (xs.map flatD)) ≤ 84 * xs.length
  | [], _ => by simp [PyData.shownAll, piled]
  | x :: r, h => by
    have h1 := part_shown (h x List.mem_cons_self)
    have h2 := piled_parts r fun y hy => h y (List.mem_cons_of_mem _ hy)
    rw [List.map_cons, PyData.shownAll, piled_cons, List.length_cons]
    omega
theorem deed_shown {xs : List V} (h : isDeedL xs = true) : (optD (some xs)).shown.length ≤ 340 := by
  obtain ⟨h1, h2, h3⟩ := deed_parts h
  have h4 := piled_parts xs h1
  show (PyData.shown (.tuple (xs.map flatD))).length ≤ 340
  rw [PyData.shown]
  have h5 : PyData.shownAll (xs.map flatD) ≠ [] := by
    cases xs with
    | nil => exact absurd rfl h3
    | cons a r => simp [PyData.shownAll]
  have h6 := join_length_add _ h5
  unfold tupleText
  rw [Str.length_append, Str.length_append]
  have h7 : ("(" : Str).length = 1 := by decide
  have h8 : (Str.ofString (if (PyData.shownAll (xs.map flatD)).length == 1 then ",)" else ")" : String)).length ≤ 2 := by split <;> decide
  rw [h7]
  omega
theorem textFrom_up : ∀ (ts : List Str) (k : Nat) (acc : Str), (textFrom k acc ts).length ≤ acc.length + piled ts
  | [], k, acc => by simp [textFrom, piled]
  | t :: r, k, acc => by
    have ih := textFrom_up r (k + 1) (acc ++ (if k > 0 then ", " else "" : String) ++ t)
    have h8 : (Str.ofString (if k > 0 then ", " else "" : String)).length ≤ 2 := by split <;> decide
    rw [textFrom, piled_cons]
    rw [Str.length_append, Str.length_append] at ih
    omega
theorem listText_up (ts : List Str) : (listText ts).length ≤ piled ts + 2 := by
  unfold listText
  rw [Str.length_append]
  have := textFrom_up ts 0 "["
  have h1 : ("[" : Str).length = 1 := by decide
  have h2 : ("]" : Str).length = 1 := by decide
  omega
/-! ### lines -/
abbrev nl : Str := "\n"
abbrev es : Str := ""
def lastNo (l : List Str) : Bool := l.getLast? == some es
def linesP (z : Str) : List Str := if lastNo (Txt.split z nl) then (Txt.split z nl).dropLast else Txt.split z nl
def endOk (z : Str) : Bool := (tl z).getLast? == none || (tl z).getLast? == some 10
theorem spl_end (c : Nat) : ∀ (l acc : List Nat), (spl [c] 0 acc l).getLast? = some [] ↔ (l = [] ∧ acc = []) ∨ l.getLast? = some c
  | [], acc => by simp [spl_nil]
  | x :: r, acc => by
    by_cases hx : x = c
    · subst hx
      have ih := spl_end x r []
      rw [spl_hit (by simp [pre])]
      have hne : spl [x] ([x].length - 1) [] r ≠ [] := by
        show spl [x] 0 [] r ≠ []
        intro e
        cases r with
        | nil => rw [spl_nil] at e; cases e
        | cons y r => 
          by_cases hy : pre [x] (y :: r) = true
          · rw [spl_hit hy] at e; cases e
          · rw [Bool.not_eq_true] at hy
            have := congrArg List.length e
            revert e
            intro e
            exact absurd e (by
              have : ∀ (r acc : List Nat), spl [x] 0 acc r ≠ [] := by
                intro r
                induction r with
                | nil => intro acc; rw [spl_nil]; simp
                | cons y r ih =>
                  intro acc
                  by_cases hy : pre [x] (y :: r) = true
                  · rw [spl_hit hy]; simp
                  · rw [Bool.not_eq_true] at hy
                    rw [spl_miss hy]
                    exact ih _
              exact this _ _)
      rw [List.getLast?_cons]
      show some ((spl [x] 0 [] r).getLast?.getD acc) = some [] ↔ _
      have hne2 : spl [x] 0 [] r ≠ [] := hne
      rw [List.getLast?_eq_some_getLast hne2] at ih ⊢
      simp only [Option.getD_some]
      rw [ih]
      cases r with
      | nil => simp
      | cons y r => simp
    · have ih := spl_end c r (acc ++ [x])
      rw [spl_miss (pre_of_head [] r hx), ih]
      cases r with
      | nil => simp [hx]
      | cons y r => simp
theorem nl_tl : tl nl = [10] := by decide +kernel
theorem split_nl (z : Str) : (Txt.split z nl).map tl = spl [10] 0 [] (tl z) := by
  rw [split_spl z nl (by rw [nl_tl]; simp) (kind_ok (by decide +kernel)), nl_tl]
theorem last_end (z : Str) : lastNo (Txt.split z nl) = endOk z := by
  have h := spl_end 10 (tl z) []
  rw [← split_nl, List.getLast?_map] at h
  have e1 : ((Txt.split z nl).getLast?.map tl = some []) ↔ (Txt.split z nl).getLast? = some es := by
    cases (Txt.split z nl).getLast? with
    | none => simp
    | some p =>
      simp only [Option.map_some, Option.some.injEq]
      exact ⟨fun e => ext_tl (by rw [e]; rfl), fun e => by rw [e]; rfl⟩
  rw [e1] at h
  unfold lastNo endOk
  rw [Bool.eq_iff_iff]
  simp only [beq_iff_eq, Bool.or_eq_true]
  rw [h]
  simp
theorem split_ne (z y : Str) : Txt.split z y ≠ [] ∨ z = "" := by
  by_cases h : Txt.split z y = []
  · right
    have := PySem.StrLaws.join_split z y
    rw [h] at this
    rw [← this]
    rfl
  · exact .inl h
theorem join_end (S : List Nat) : ∀ l : List (List Nat), joinL S (l ++ [[]]) = joinL [] (l.map (· ++ S))
  | [] => rfl
  | [p] => by simp [joinL]
  | p :: q :: r => by
    have ih := join_end S (q :: r)
    show p ++ (S ++ joinL S (q :: (r ++ [[]]))) = (p ++ S) ++ ([] ++ joinL [] ((q :: r).map (· ++ S)))
    rw [← ih]
    simp
def textL (ls : List Str) : Str := Txt.join es (ls.map (· ++ nl))
theorem text_back {z : Str} (h : endOk z = true) : textL (linesP z) = z := by
  rw [← last_end] at h
  unfold linesP
  rw [if_pos h]
  unfold lastNo at h
  rw [beq_iff_eq] at h
  have h1 : Txt.split z nl = (Txt.split z nl).dropLast ++ [es] := by
    have hne : Txt.split z nl ≠ [] := fun e => by rw [e] at h; cases h
    rw [List.getLast?_eq_some_getLast hne] at h
    rw [← Option.some.inj h]
    exact (List.dropLast_concat_getLast hne).symm
  have h2 := PySem.StrLaws.join_split z nl
  rw [h1] at h2
  refine ext_tl ?_
  have h3 : tl z = joinL [10] ((Txt.split z nl).dropLast.map tl ++ [[]]) := by
    conv => lhs; rw [← h2]
    rw [tl_join, List.map_append, nl_tl]
    rfl
  rw [h3, join_end]
  unfold textL
  rw [join_eq, tl_join, List.map_map, List.map_map]
  have e2 : tl es = [] := rfl
  rw [e2]
  congr 1
  refine List.map_congr_left fun p _ => ?_
  show tl (p ++ nl) = tl p ++ [10]
  rw [tl_append, nl_tl]
end WP
namespace WP
open PySem L2 TL
/-! ### what a text is heard as -/
def hearP (z : Str) : Except Int (List (List V)) :=
  if ((linesP z).map deedC).all Option.isSome then if endOk z then .ok (((linesP z).map deedC).filterMap id) else .error ((linesP z).length : Nat)
  else .error (((linesP z).map deedC).findIdx Option.isNone : Nat)
def hearD : Except Int (List (List V)) → PyData
  | .error n => .int n
  | .ok ds => .list [.list (ds.map fun d => optD (some d))]
theorem all_some : ∀ (os : List (Option (List V))), os.all Option.isSome = true → (os.filterMap id).map some = os
  | [], _ => rfl
  | none :: r, h => by simp at h
  | some x :: r, h => by
    rw [List.all_cons] at h
    have ih := all_some r (by simpa using h)
    rw [List.filterMap_cons, id, List.map_cons, ih]
/-- the text of what is heard -/
theorem hear_back {z : Str} {ds : List (List V)} (h : hearP z = .ok ds) : textL (ds.map deedLine) = z ∧ ds.map some = (linesP z).map deedC := by
  unfold hearP at h
  split at h
  · rename_i ha
    split at h
    · rename_i he
      have e : ((linesP z).map deedC).filterMap id = ds := by injection h
      have e2 := all_some _ ha
      rw [e] at e2
      refine ⟨?_, e2⟩
      have e3 : ds.map deedLine = linesP z := by
        apply List.ext_getElem?
        intro i
        rw [List.getElem?_map]
        have e4 := congrArg (·[i]?) e2
        simp only [List.getElem?_map] at e4
        cases hl : (linesP z)[i]? with
        | none =>
          rw [hl] at e4
          cases hd : ds[i]? with
          | none => rfl
          | some d => rw [hd] at e4; cases e4
        | some l =>
          rw [hl] at e4
          cases hd : ds[i]? with
          | none => rw [hd] at e4; cases e4
          | some d =>
            rw [hd] at e4
            simp only [Option.map_some, Option.some.injEq] at e4 ⊢
            exact (deed_back e4.symm).1
      rw [e3]
      exact text_back he
    · cases h
  · cases h
/-! ### the shape of the data -/
theorem flat_can {x : V} (h : Part x) : (flatD x).canLay0 = true ∧ (flatD x).depth = 0 ∧ (flatD x).showable = true := by
  rcases h with ⟨i, rfl, h0, h1⟩ | ⟨w, rfl, h1, h2⟩
  · refine ⟨rfl, rfl, ?_⟩
    show PyData.showable (.int i) = true
    rw [PyData.showable, decide_eq_true_eq]
    exact Nat.lt_of_lt_of_le (PySem.Flt.log2_lt_of (k := 64) (by decide) (by omega)) (by decide)
  · exact ⟨by show PyData.canLay0 (.str w) = true; rw [PyData.canLay0]; exact h2, rfl, rfl⟩
theorem flats_can : ∀ xs : List V, (∀ x ∈ xs, Part x) → PyData.canLayAll0 (xs.map flatD) = true ∧ PyData.depthAll (xs.map flatD) = 0 ∧ PyData.showableAll (xs.map flatD) = true
  | [], _ => ⟨rfl, rfl, rfl⟩
  | x :: r, h => by
    obtain ⟨a1, a2, a3⟩ := flat_can (h x List.mem_cons_self)
    obtain ⟨b1, b2, b3⟩ := flats_can r fun y hy => h y (List.mem_cons_of_mem _ hy)
    simp only [List.map_cons, PyData.canLayAll0, PyData.depthAll, PyData.showableAll, a1, a2, a3, b1, b2, b3]
    exact ⟨rfl, rfl, rfl⟩
/-- deeds, or none -/
def OkO : Option (List V) → Prop
  | none => True
  | some xs => isDeedL xs = true
theorem ok_deed (z : Str) : OkO (deedC z) := by
  cases h : deedC z with
  | none => trivial
  | some xs => exact (deed_back h).2.1
theorem opt_can {o : Option (List V)} (h : OkO o) : (optD o).canLay0 = true ∧ (optD o).depth ≤ 1 ∧ (optD o).showable = true := by
  cases o with
  | none => exact ⟨rfl, by show 0 ≤ 1; decide, rfl⟩
  | some xs =>
    obtain ⟨b1, b2, b3⟩ := flats_can xs (deed_parts h).1
    refine ⟨?_, ?_, ?_⟩
    · show PyData.canLay0 (.tuple (xs.map flatD)) = true
      rw [PyData.canLay0]
      exact b1
    · show PyData.depth (.tuple (xs.map flatD)) ≤ 1
      rw [PyData.depth, b2]
      decide
    · show PyData.showable (.tuple (xs.map flatD)) = true
      rw [PyData.showable]
      exact b3
theorem opts_can : ∀ os : List (Option (List V)), (∀ o ∈ os, OkO o) → PyData.canLayAll0 (os.map optD) = true ∧ PyData.depthAll (os.map optD) ≤ 1 ∧ PyData.showableAll (os.map optD) = true
  | [], _ => ⟨rfl, by show 0 ≤ 1; decide, rfl⟩
  | o :: r, h => by
    obtain ⟨a1, a2, a3⟩ := opt_can (h o List.mem_cons_self)
    obtain ⟨b1, b2, b3⟩ := opts_can r fun y hy => h y (List.mem_cons_of_mem _ hy)
    simp only [List.map_cons, PyData.canLayAll0, PyData.depthAll, PyData.showableAll, a1, a3, b1, b3]
    exact ⟨rfl, Nat.max_le.mpr ⟨a2, b2⟩, rfl⟩
theorem opts_shaped {os : List (Option (List V))} (h : ∀ o ∈ os, OkO o) : SeqAt.shaped (.list (os.map optD)) = true := by
  obtain ⟨b1, b2, b3⟩ := opts_can os h
  unfold SeqAt.shaped
  rw [PyData.canLay0, PyData.depth, b1, Bool.true_and, decide_eq_true_eq]
  omega
theorem opt_eqv (o : Option (List V)) : PyData.eqv (optD o) .none = o.isNone := by
  cases o with
  | none => simp [optD, PyData.eqv]
  | some xs => simp [optD, PyData.eqv]
/-- data that repr may be asked of: [d, d], d alone -/
def ShowOk (d : PyData) (n : Nat) : Prop := d.canLay0 = true ∧ d.showable = true ∧ d.depth ≤ n
theorem hear_ok {z : Str} (hz : z.length < 2 ^ 40) : ShowOk (hearD (hearP z)) 5 := by
  cases h : hearP z with
  | error n =>
    refine ⟨rfl, ?_, by show 0 ≤ 5; decide⟩
    show PyData.showable (.int n) = true
    rw [PyData.showable, decide_eq_true_eq]
    have hl : (linesP z).length ≤ z.length + 1 := by
      have := PyProof.Rows.split_weight z nl (by decide)
      unfold linesP
      split
      · rw [List.length_dropLast]; omega
      · omega
    have hb : 0 ≤ n ∧ n ≤ z.length + 1 := by
      unfold hearP at h
      split at h
      · split at h
        · cases h
        · have e : ((linesP z).length : Int) = n := by injection h
          omega
      · have e : ((((linesP z).map deedC).findIdx Option.isNone : Nat) : Int) = n := by injection h
        have := List.findIdx_le_length (p := Option.isNone) (xs := (linesP z).map deedC)
        rw [List.length_map] at this
        omega
    exact Nat.lt_of_lt_of_le (PySem.Flt.log2_lt_of (k := 64) (by decide) (by omega)) (by decide)
  | ok ds =>
    have e := (hear_back h).2
    obtain ⟨b1, b2, b3⟩ := opts_can (ds.map some) (fun o ho => by
      rw [e] at ho
      obtain ⟨l, _, rfl⟩ := List.mem_map.mp ho
      exact ok_deed l)
    rw [List.map_map] at b1 b2 b3
    have b1 : PyData.canLayAll0 (ds.map fun d => optD (some d)) = true := b1
    have b2 : PyData.depthAll (ds.map fun d => optD (some d)) ≤ 1 := b2
    have b3 : PyData.showableAll (ds.map fun d => optD (some d)) = true := b3
    refine ⟨?_, ?_, ?_⟩
    · simp only [hearD, PyData.canLay0, PyData.canLayAll0, b1]
      rfl
    · simp only [hearD, PyData.showable, PyData.showableAll, b3]
      rfl
    · simp only [hearD, PyData.depth, PyData.depthAll]
      omega
theorem sum_lines (z : Str) : ((linesP z).map (·.length)).sum + (linesP z).length ≤ z.length + 1 := by
  have h := PyProof.Rows.split_weight z nl (by decide)
  unfold linesP
  split
  · rename_i hl
    have hne : Txt.split z nl ≠ [] := fun e => by rw [e] at hl; exact absurd hl (by decide)
    have e := List.dropLast_concat_getLast hne
    rw [← e, List.map_append, List.sum_append, List.length_append] at h
    omega
  · exact h
theorem piled_le : ∀ (ls : List Str), piled (PyData.shownAll ((ls.map deedC).map optD)) ≤ 80 * ((ls.map (·.length)).sum + ls.length)
  | [] => by simp [PyData.shownAll, piled]
  | l :: r => by
    have ih := piled_le r
    have h1 : (optD (deedC l)).shown.length + 2 ≤ 80 * (l.length + 1) := by
      cases h : deedC l with
      | none => 
        have : (optD none).shown.length = 4 := by simp only [optD, PyData.shown]; decide
        rw [this]; omega
      | some xs =>
        have h2 := deed_back h
        have h3 := deed_shown h2.2.1
        omega
    simp only [List.map_cons, PyData.shownAll, piled_cons, List.sum_cons, List.length_cons]
    omega
theorem hear_len {z : Str} (hz : z.length < 2 ^ 40) : (hearD (hearP z)).shown.length ≤ 80 * z.length + 100 := by
  cases h : hearP z with
  | error n =>
    have hs := hear_ok hz
    have hl : (linesP z).length ≤ z.length + 1 := by have := sum_lines z; omega
    have hb : 0 ≤ n ∧ n < 10 ^ 18 := by
      unfold hearP at h
      split at h
      · split at h
        · cases h
        · have e : ((linesP z).length : Int) = n := by injection h
          omega
      · have e : ((((linesP z).map deedC).findIdx Option.isNone : Nat) : Int) = n := by injection h
        have := List.findIdx_le_length (p := Option.isNone) (xs := (linesP z).map deedC)
        rw [List.length_map] at this
        omega
    show (PyData.shown (.int n)).length ≤ _
    rw [PyData.shown]
    have := PyProof.Rows.toString_length_le hb.1 (k := 18) (by decide) (by omega)
    omega
  | ok ds =>
    have e := (hear_back h).2
    have h1 := piled_le (linesP z)
    rw [← e, List.map_map] at h1
    have h1 : piled (PyData.shownAll (ds.map fun d => optD (some d))) ≤ 80 * (((linesP z).map (·.length)).sum + (linesP z).length) := h1
    have h2 := sum_lines z
    simp only [hearD, PyData.shown, PyData.shownAll]
    refine Nat.le_trans (listText_up _) ?_
    rw [piled_cons, piled_nil]
    have h3 := listText_up (PyData.shownAll (ds.map fun d => optD (some d)))
    omega
theorem two_len {d : PyData} {n : Nat} (h : d.shown.length ≤ n) : (PyData.list [d, d]).shown.length ≤ 2 * n + 6 := by
  simp only [PyData.shown, PyData.shownAll]
  refine Nat.le_trans (listText_up _) ?_
  rw [piled_cons, piled_cons, piled_nil]
  omega
theorem two_ok {d : PyData} {n : Nat} (h : ShowOk d n) : ShowOk (.list [d, d]) (n + 1) := by
  obtain ⟨a, b, c⟩ := h
  refine ⟨?_, ?_, ?_⟩
  · simp only [PyData.canLay0, PyData.canLayAll0, a]; rfl
  · simp only [PyData.showable, PyData.showableAll, b]; rfl
  · simp only [PyData.depth, PyData.depthAll]
    omega
/-! ### the law's own signs -/
def sgn (s : Str) : Str := if s = "name" then "f" else if s = "ticks" then "t" else "n"
def numQ (w : Str) : Int := if isNumS w then numOf w else -1
def Sort3 (s : Str) : Prop := s = "name" ∨ s = "number" ∨ s = "ticks"
theorem form_sorts {z : Str} {ss : List Str} (h : formOf z = some ss) : ∀ s ∈ ss, Sort3 s := by
  have h := form_mem h
  have : ∀ p ∈ forms, ∀ s ∈ p.2, Sort3 s := by unfold Sort3; decide +kernel
  exact this _ h
theorem part_f (w : Str) : partC "name" w = if isNameS w then some (.str w) else none := by
  simp [partC, partP, isPartV, isNameV]
theorem isp_n (i : Int) : isPartV "number" (.int i) = (decide (0 ≤ i) && decide (i ≤ 999999999999999999)) := by
  have h1 : ¬ (("number" : Str) = "name") := by decide +kernel
  have h2 : ¬ (("number" : Str) = "ticks") := by decide +kernel
  simp only [isPartV, h1, h2, if_false]
theorem isp_t (i : Int) : isPartV "ticks" (.int i) = (decide (1 ≤ i) && decide (i ≤ 999999999999999999)) := by
  have h1 : ¬ (("ticks" : Str) = "name") := by decide +kernel
  simp only [isPartV, h1, if_false, if_true]
theorem part_n (w : Str) : partC "number" w = if numQ w < 0 then none else some (.int (numQ w)) := by
  unfold partC partP numQ
  rw [if_neg (by decide +kernel)]
  by_cases h : isNumS w = true
  · have := numOf_eq h
    have h1 : ¬ (numOf w < 0) := by omega
    simp only [h, if_true, Option.bind_some, isp_n, this.2.1, this.2.2.1, decide_true, Bool.and_self, h1, if_false]
  · simp [h]
theorem part_t (w : Str) : partC "ticks" w = if numQ w < 1 then none else some (.int (numQ w)) := by
  unfold partC partP numQ
  rw [if_neg (by decide +kernel)]
  by_cases h : isNumS w = true
  · have := numOf_eq h
    simp only [h, if_true, Option.bind_some, isp_t, this.2.2.1, decide_true, Bool.and_true, decide_eq_true_eq]
    by_cases h1 : numOf w < 1
    · rw [if_pos h1, if_neg (by omega)]
    · rw [if_neg h1, if_pos (by omega)]
  · simp [h]
end WP
namespace WP
open PySem L2 TL
theorem iteT' {b : Bool} {A B : Prop} (e : b = true) (h : A) : if b = true then A else B := by rw [if_pos e]; exact h
theorem iteF' {b : Bool} {A B : Prop} (e : b = false) (h : B) : if b = true then A else B := by rw [if_neg (by rw [e]; decide)]; exact h
section
variable {X : Cx}
theorem call_str_any : CallR X (.type "str") (fun xs H Q => (∃ i, xs = [.int i] ∧ i.natAbs.log2 < 1920 ∧ Q (.str (toString i)) H) ∨ ∃ a, xs = [.str a] ∧ Q (.str a) H) := CallR.or call_str_int SkE.call_str_str
/-- a def that may raise, called where its error is let out -/
theorem pe_dS {k : Nat} {ps : List Str} {sp : Sp} {W : WX} {x : Str} {p pos : Pos} {e : Expr} {es : List Expr} {t : TA} (F : Dn X.prog X.w X.K X.mg X.base (L2.CX X.prog X.w) k x ps sp) (hr : Room k X.A) (tk : Takes X W)
    (ha : PA X (e :: es) t) (hg : Gl X x := by rfl) (hdb : (x == ("__debug__" : Str)) = false := by decide) (he : starEach (e :: es) X.env = (false, eval e X.env) :: starEach es X.env := by rfl) (hpl : (backTo pos (starEach es X.env)).any (·.1) = false := by rfl) :
    PE X (.Call (.Name x p) (e :: es) [] pos) (tCallS sp (WE W) t) := by
  obtain ⟨f, fd, hm, hk, F, hb⟩ := F.ex
  exact pe_callS F hr hg hm hk hb (fun σ => passAt tk σ) ha hdb he hpl
end
/-! ### the program's table of deeds -/
structure FormsK (K : PySem.W.Frag) (w : World) (a : Addr) : Prop where
  kd : ∃ es n, KDict K w a es n
  no : ∀ z, formOf z = none → PySem.W.nsIn K a z = some none
  yes : ∀ z ss, formOf z = some ss → ∃ b, PySem.W.nsIn K a z = some (some (.ref b)) ∧ ∀ H, SqT K H b (ss.map V.str)
theorem FormsK.dct {K : PySem.W.Frag} {w : World} {a : Addr} (F : FormsK K w a) {z : Str} {ss : List Str} (h : formOf z = some ss) : ∃ b, KDct K w a z (.ref b) ∧ PySem.W.nsIn K a z = some (some (.ref b)) ∧ ∀ H, SqT K H b (ss.map V.str) := by
  obtain ⟨es, n, D⟩ := F.kd
  obtain ⟨b, h1, h2⟩ := F.yes z ss h
  exact ⟨b, ⟨es, n, _, D.at_, D.lit, h1, rfl⟩, h1, h2⟩
/-! ### a deed in the heap, or None -/
def Fl (K : PySem.W.Frag) (H : Hp) (v : V) : Option (List V) → Prop
  | none => v = .non
  | some xs => ∃ a, v = .ref a ∧ H a = some (.tup xs) ∧ isDeedL xs = true
inductive FlAll (K : PySem.W.Frag) (H : Hp) : List V → List (Option (List V)) → Prop
  | nil : FlAll K H [] []
  | cons {v : V} {o : Option (List V)} {vs : List V} {os : List (Option (List V))} : Fl K H v o → FlAll K H vs os → FlAll K H (v :: vs) (o :: os)
section
variable {K : PySem.W.Frag} {H H' : Hp} {v : V} {o : Option (List V)} {vs ws : List V} {os ps : List (Option (List V))}
theorem Fl.same (s : Same H H') (h : Fl K H v o) : Fl K H' v o := by
  cases o with
  | none => exact h
  | some xs =>
    obtain ⟨a, e, h1, h2⟩ := h
    exact ⟨a, e, s _ _ h1, h2⟩
/-- a list at D grows -/
theorem Fl.grow {D : Addr} {xs ys : List V} (hD : H D = some (.lst xs)) (h : Fl K H v o) : Fl K (upd H D (.lst ys)) v o := by
  cases o with
  | none => exact h
  | some zs =>
    obtain ⟨a, e, h1, h2⟩ := h
    exact ⟨a, e, by rw [upd_ne (ne_of h1 hD (by intro z; cases z))]; exact h1, h2⟩
theorem FlAll.same (s : Same H H') (h : FlAll K H vs os) : FlAll K H' vs os := by
  induction h with
  | nil => exact .nil
  | cons h _ ih => exact .cons (h.same s) ih
theorem FlAll.grow {D : Addr} {xs ys : List V} (hD : H D = some (.lst xs)) (h : FlAll K H vs os) : FlAll K (upd H D (.lst ys)) vs os := by
  induction h with
  | nil => exact .nil
  | cons h _ ih => exact .cons (h.grow hD) ih
theorem FlAll.app (h : FlAll K H vs os) (h2 : FlAll K H ws ps) : FlAll K H (vs ++ ws) (os ++ ps) := by
  induction h with
  | nil => exact h2
  | cons h _ ih => exact .cons h ih
theorem FlAll.len (h : FlAll K H vs os) : vs.length = os.length := by
  induction h with
  | nil => rfl
  | cons h _ ih => simp [ih]
theorem FlAll.at (h : FlAll K H vs os) : ∀ {i : Nat} {v : V}, vs[i]? = some v → ∃ o, os[i]? = some o ∧ Fl K H v o := by
  induction h with
  | nil => intro i v e; simp at e
  | cons h t ih =>
    intro i v e
    cases i with
    | zero =>
      simp only [List.getElem?_cons_zero, Option.some.injEq] at e
      subst e
      exact ⟨_, rfl, h⟩
    | succ i =>
      simp only [List.getElem?_cons_succ] at e ⊢
      exact ih e
theorem dpFlat : ∀ {xs : List V}, (∀ x ∈ xs, Part x) → DpAll K H xs (xs.map flatD)
  | [], _ => .nil
  | x :: r, h => by
    refine .cons ?_ (dpFlat fun y hy => h y (List.mem_cons_of_mem _ hy))
    rcases h x List.mem_cons_self with ⟨i, rfl, _⟩ | ⟨w, rfl, _⟩
    · exact .int i
    · exact .str w
theorem Fl.dp (h : Fl K H v o) : Dp K H v (optD o) := by
  cases o with
  | none =>
    cases (show v = .non from h)
    exact .non
  | some xs =>
    obtain ⟨a, rfl, h1, h2⟩ := h
    exact .tup (SqT.of h1) (dpFlat (deed_parts h2).1)
theorem FlAll.dp (h : FlAll K H vs os) : DpAll K H vs (os.map optD) := by
  induction h with
  | nil => exact .nil
  | cons h _ ih => exact .cons h.dp ih
end
/-! ### what is heard, in the heap -/
def Hr (K : PySem.W.Frag) (H : Hp) (v : V) : Except Int (List (List V)) → Prop
  | .error n => v = .int n
  | .ok ds => ∃ (a b : Addr) (us : List V), v = .ref a ∧ H a = some (.lst [.ref b]) ∧ H b = some (.lst us) ∧ FlAll K H us (ds.map some)
section
variable {K : PySem.W.Frag} {H H' : Hp} {v : V} {r : Except Int (List (List V))}
theorem Hr.same (s : Same H H') (h : Hr K H v r) : Hr K H' v r := by
  cases r with
  | error n => exact h
  | ok ds =>
    obtain ⟨a, b, us, e, h1, h2, h3⟩ := h
    exact ⟨a, b, us, e, s _ _ h1, s _ _ h2, h3.same s⟩
theorem Hr.dp (h : Hr K H v r) : Dp K H v (hearD r) := by
  cases r with
  | error n =>
    cases (show v = .int n from h)
    exact .int n
  | ok ds =>
    obtain ⟨a, b, us, rfl, h1, h2, h3⟩ := h
    have := h3.dp
    rw [List.map_map] at this
    exact .lst (SqL.of h1) (.cons (.lst (SqL.of h2) this) .nil)
end
end WP
namespace WP
open PySem L2 TL
theorem ix_listK {X : Cx} {K : PySem.W.Frag} (h : X.K = K) : IxR X (rIxL K) := by subst h; exact ix_list
theorem ix_tupK {X : Cx} {K : PySem.W.Frag} (h : X.K = K) : IxR X (rIxT K) := by subst h; exact ix_tup
theorem op_inK {X : Cx} {K : PySem.W.Frag} (h : X.K = K) : OpR X (compareOp .In) (rIn K false) := by subst h; exact op_in_seq
theorem op_notInK {X : Cx} {K : PySem.W.Frag} (h : X.K = K) : OpR X (compareOp .NotIn) (rIn K true) := by subst h; exact op_notIn_seq
def tXfld (K : PySem.W.Frag) (fld : Str) (te : TE) : TE := fun σ H Q => te σ H fun y H1 => ∃ (a C d : Addr) (fs : List (Str × V)) (v : V), y = .ref a ∧ H1 a = some (XvO (.ref C) (some d) a) ∧ XfC K C ∧ PySem.W.findIn K (.ref C) fld = some none ∧ H1 d = some (.xd fs) ∧ fs.lookup fld = some v ∧ Q v H1
theorem pe_xfldK {X : Cx} {K : PySem.W.Frag} {e : Expr} {te : TE} {fld : Str} {pos : Pos} (h : X.K = K) (hb : attributeBase e fld X.env (eval e X.env) = eval e X.env) (he : PE X e te) : PE X (.Attribute e fld pos) (tXfld K fld te) := by
  subst h
  exact pe_xfld hb he
/-! ### texts of real signs -/
theorem strOk_iff (z : Str) : PyData.strOk z = true ↔ ∀ c ∈ tl z, c < 0x110000 := by
  unfold PyData.strOk
  rw [← Array.all_toList, List.all_eq_true]
  exact ⟨fun h c hc => of_decide_eq_true (h c hc), fun h c hc => decide_eq_true (h c hc)⟩
structure Tx (n : Nat) (z : Str) : Prop where
  len : z.length ≤ n
  ok : ∀ c ∈ tl z, c < 0x110000
theorem Tx.mono {n m : Nat} {z : Str} (h : Tx n z) (le : n ≤ m) : Tx m z := ⟨Nat.le_trans h.len le, h.ok⟩
theorem Tx.str {n : Nat} {z : Str} (h : Tx n z) : PyData.strOk z = true := (strOk_iff z).mpr h.ok
theorem Tx.app {n m : Nat} {x y : Str} (h : Tx n x) (k : Tx m y) : Tx (n + m) (x ++ y) := by
  refine ⟨by rw [Str.length_append]; exact Nat.add_le_add h.len k.len, fun c hc => ?_⟩
  rw [tl_append] at hc
  exact (List.mem_append.mp hc).elim (h.ok c) (k.ok c)
theorem Tx.cut {n : Nat} {z : Str} (h : Tx n z) (lo hi : Option Int) : Tx n (cutS z lo hi) :=
  ⟨Nat.le_trans (cutS_length z lo hi) h.len, fun c hc => h.ok c (List.mem_of_mem_drop (List.mem_of_mem_take (show c ∈ ((tl z).drop _).take _ from hc)))⟩
theorem Tx.one {n : Nat} {z : Str} (h : Tx n z) {c : Nat} (hc : c ∈ tl z) : Tx 1 ⟨#[c]⟩ := ⟨Nat.le_refl 1, fun d hd => by
  have : d = c := by simpa [tl] using hd
  rw [this]
  exact h.ok c hc⟩
theorem mem_join {S : List Nat} {c : Nat} {p : List Nat} : ∀ {ps : List (List Nat)}, p ∈ ps → c ∈ p → c ∈ joinL S ps
  | [], h, _ => by cases h
  | [q], h, hc => by
    rw [List.mem_singleton.mp h] at hc
    exact hc
  | q :: r :: rs, h, hc => by
    show c ∈ q ++ (S ++ joinL S (r :: rs))
    rcases List.mem_cons.mp h with rfl | h
    · exact List.mem_append_left _ hc
    · exact List.mem_append_right _ (List.mem_append_right _ (mem_join h hc))
theorem of_join {S : List Nat} {c : Nat} : ∀ {ps : List (List Nat)}, c ∈ joinL S ps → c ∈ S ∨ ∃ p ∈ ps, c ∈ p
  | [], h => by cases h
  | [q], h => .inr ⟨q, List.mem_singleton.mpr rfl, h⟩
  | q :: r :: rs, h => by
    have h : c ∈ q ++ (S ++ joinL S (r :: rs)) := h
    rcases List.mem_append.mp h with h | h
    · exact .inr ⟨q, List.mem_cons_self, h⟩
    · rcases List.mem_append.mp h with h | h
      · exact .inl h
      · rcases of_join h with h | ⟨p, hp, hc⟩
        · exact .inl h
        · exact .inr ⟨p, List.mem_cons_of_mem _ hp, hc⟩
/-- weight of a list of texts -/
def wgt (ls : List Str) : Nat := (ls.map (·.length)).sum + ls.length
structure Txs (n : Nat) (ls : List Str) : Prop where
  len : wgt ls ≤ n
  ok : ∀ l ∈ ls, ∀ c ∈ tl l, c < 0x110000
theorem wgt_mem {l : Str} : ∀ {ls : List Str}, l ∈ ls → l.length + 1 ≤ wgt ls
  | [], h => by cases h
  | a :: r, h => by
    unfold wgt
    rw [List.map_cons, List.sum_cons, List.length_cons]
    rcases List.mem_cons.mp h with rfl | h
    · omega
    · have := wgt_mem h
      unfold wgt at this
      omega
theorem wgt_app (a b : List Str) : wgt (a ++ b) = wgt a + wgt b := by
  unfold wgt
  rw [List.map_append, List.sum_append, List.length_append]
  omega
theorem wgt_take (i : Nat) (a : List Str) : wgt (a.take i) ≤ wgt a := by
  have := wgt_app (a.take i) (a.drop i)
  rw [List.take_append_drop] at this
  omega
theorem wgt_drop (i : Nat) (a : List Str) : wgt (a.drop i) ≤ wgt a := by
  have := wgt_app (a.take i) (a.drop i)
  rw [List.take_append_drop] at this
  omega
theorem Txs.at {n : Nat} {ls : List Str} (h : Txs n ls) {l : Str} (hl : l ∈ ls) : Tx n l := ⟨by have := wgt_mem hl; have := h.len; omega, h.ok l hl⟩
theorem Txs.app {n m : Nat} {a b : List Str} (h : Txs n a) (k : Txs m b) : Txs (n + m) (a ++ b) :=
  ⟨by rw [wgt_app]; exact Nat.add_le_add h.len k.len, fun l hl => (List.mem_append.mp hl).elim (h.ok l) (k.ok l)⟩
theorem Txs.take {n : Nat} {a : List Str} (h : Txs n a) (i : Nat) : Txs n (a.take i) := ⟨Nat.le_trans (wgt_take i a) h.len, fun l hl => h.ok l (List.mem_of_mem_take hl)⟩
theorem Txs.drop {n : Nat} {a : List Str} (h : Txs n a) (i : Nat) : Txs n (a.drop i) := ⟨Nat.le_trans (wgt_drop i a) h.len, fun l hl => h.ok l (List.mem_of_mem_drop hl)⟩
theorem Txs.mono {n m : Nat} {a : List Str} (h : Txs n a) (le : n ≤ m) : Txs m a := ⟨Nat.le_trans h.len le, h.ok⟩
theorem Tx.split {n : Nat} {z : Str} (h : Tx n z) {y : Str} (hy : 1 ≤ y.length) : Txs (n + 1) (Txt.split z y) := by
  refine ⟨Nat.le_trans (PyProof.Rows.split_weight z y hy) (Nat.succ_le_succ h.len), fun l hl c hc => h.ok c ?_⟩
  have e := PySem.StrLaws.join_split z y
  rw [← e, tl_join]
  exact mem_join (List.mem_map.mpr ⟨l, hl, rfl⟩) hc
theorem Txs.join {n : Nat} {ls : List Str} (h : Txs n ls) {y : Str} (hy : y.length ≤ 1) (hy2 : ∀ c ∈ tl y, c < 0x110000) : Tx n (Txt.join y ls) := by
  refine ⟨?_, fun c hc => ?_⟩
  · rw [join_eq]
    have h1 := h.len
    unfold wgt at h1
    cases ls with
    | nil => show (Str.empty).length ≤ _; simp [Str.empty, Str.length]
    | cons a l =>
      rw [PyProof.Rows.len_join_cons]
      have h2 : l.length * y.length ≤ l.length * 1 := Nat.mul_le_mul_left _ hy
      rw [List.length_cons] at h1
      omega
  · rw [join_eq, tl_join] at hc
    rcases of_join hc with hc | ⟨p, hp, hc⟩
    · exact hy2 c hc
    · obtain ⟨l, hl, rfl⟩ := List.mem_map.mp hp
      exact h.ok l hl c hc
theorem join_room {n : Nat} {ls : List Str} (h : Txs n ls) {y : Str} (hy : y.length ≤ 1) : (ls.map (·.length)).sum + ls.length * y.length ≤ n := by
  have h1 := h.len
  unfold wgt at h1
  have h2 : ls.length * y.length ≤ ls.length * 1 := Nat.mul_le_mul_left _ hy
  omega
/-! ### a display of a dict with texts -/
theorem val_none {l : List (Key × V)} {k : Key} (h : ∀ kv ∈ l, kv.1 ≠ k) : valV l k = none := by
  unfold valV
  rw [List.find?_eq_none.mpr (fun kv hkv => by simpa using h kv hkv)]
  rfl
theorem merge_id : ∀ (l acc : List (Key × V)), ((acc ++ l).map (·.1)).Nodup → mergeK acc l = acc ++ l
  | [], acc, _ => by rw [List.append_nil]; rfl
  | (k, v) :: r, acc, h => by
    have e : acc ++ (k, v) :: r = (acc ++ [(k, v)]) ++ r := by rw [List.append_assoc]; rfl
    rw [mergeK_new, e]
    · exact merge_id r _ (by rw [← e]; exact h)
    · refine val_none fun kv hkv z => ?_
      rw [List.map_append, List.map_cons] at h
      have := (List.nodup_append.mp h).2.2 kv.1 (List.mem_map.mpr ⟨kv, hkv, rfl⟩) k List.mem_cons_self
      exact this z
theorem merge_nil {l : List (Key × V)} (h : (l.map (·.1)).Nodup) : mergeK [] l = l := merge_id l [] h
def sgnC (s : Str) : Nat := if s = "name" then 102 else if s = "ticks" then 116 else 110
def sgnT (ss : List Str) : Str := ⟨(ss.map sgnC).toArray⟩
def formsQ : List (Key × V) := forms.map fun p => ((.inr p.1 : Key), V.str (sgnT p.2))
theorem val_forms (z : Str) : valV formsQ (.inr z) = (formOf z).map fun ss => V.str (sgnT ss) := by
  unfold formsQ formOf
  generalize forms = l
  induction l with
  | nil => rfl
  | cons p r ih =>
    rw [List.map_cons, List.find?_cons]
    by_cases h : p.1 = z
    · rw [valV_pos (by rw [h]), decide_eq_true h]
      rfl
    · rw [valV_neg (fun e => h (Sum.inr.inj e)), decide_eq_false h]
      exact ih
/-! ### the first wrong one -/
def wrongs (os : List (Option (List V))) : List Nat := (List.range os.length).filter fun i => os[i]?.getD (some []) == none
theorem wrongs_cons (o : Option (List V)) (os : List (Option (List V))) : wrongs (o :: os) = (if o.isNone then [0] else []) ++ (wrongs os).map (· + 1) := by
  unfold wrongs
  rw [List.length_cons, List.range_succ_eq_map, List.filter_cons, List.filter_map]
  cases o with
  | none => rfl
  | some x => rfl
theorem wrongs_head : ∀ os : List (Option (List V)), (wrongs os).head? = if os.all Option.isSome then none else some (os.findIdx Option.isNone)
  | [] => rfl
  | none :: r => by
    rw [wrongs_cons]
    simp [List.findIdx_cons]
  | some x :: r => by
    have ih := wrongs_head r
    rw [wrongs_cons]
    simp only [Option.isNone_some, Bool.false_eq_true, if_false, List.nil_append, List.head?_map, ih, List.all_cons, Option.isSome_some, Bool.true_and, List.findIdx_cons, cond_false]
    split <;> rfl
theorem wrongs_nil (os : List (Option (List V))) : (wrongs os).isEmpty = os.all Option.isSome := by
  have := wrongs_head os
  cases h : wrongs os with
  | nil =>
    rw [h] at this
    split at this
    · rename_i e; rw [e]; rfl
    · cases this
  | cons a r =>
    rw [h] at this
    split at this
    · cases this
    · rename_i e
      simp only [Bool.not_eq_true] at e
      rw [e]; rfl
end WP
namespace WP
open PySem L2 TL
/-! ### the draws' frame -/
section
variable {d w c p : Addr} {B : Int} {H H0 : Hp} {o : HO}
theorem Dr.off (D : Dr d w c B H) (hp : H p = none) : p ≠ d ∧ p ≠ w ∧ p ≠ c := by
  obtain ⟨⟨r, t, h1, _⟩, ⟨ns, h2⟩, ⟨ms, h3⟩⟩ := D
  refine ⟨fun e => ?_, fun e => ?_, fun e => ?_⟩
  · rw [e, h1] at hp
    cases hp
  · rw [e, h2] at hp
    cases hp
  · rw [e, (hd2_of h3).1] at hp
    cases hp
theorem hd2_upd (h1 : p ≠ d) (h2 : p ≠ w) : hd2 d w (upd H p o) = upd (hd2 d w H) p o := by
  funext b
  by_cases hb : b = p
  · rw [hb, upd_same]
    exact hd2_mk upd_same h1 h2
  · rw [upd_ne hb]
    unfold hd2
    rw [upd_ne hb]
theorem Dr.put (D : Dr d w c B H) (h1 : p ≠ d) (h2 : p ≠ w) (h3 : p ≠ c) : Dr d w c B (upd H p o) := by
  obtain ⟨⟨r, t, e1, h4⟩, ⟨ns, e2⟩, ⟨ms, e3⟩⟩ := D
  refine ⟨⟨r, t, by rw [upd_ne (Ne.symm h1)]; exact e1, h4⟩, ⟨ns, by rw [upd_ne (Ne.symm h2)]; exact e2⟩, ⟨ms, ?_⟩⟩
  rw [hd2_upd h1 h2, upd_ne (Ne.symm h3)]
  exact e3
theorem hd2_none (hp : H p = none) : hd2 d w H p = none := by
  cases e : hd2 d w H p with
  | none => rfl
  | some o => rw [(hd2_of e).1] at hp; cases hp
/-- the draws' state behind what was before (H0), B draws at most; what else is in the heap: by hd2 d w H -/
structure Ds (d w c : Addr) (B : Int) (H0 H : Hp) : Prop where
  dr : Dr d w c B H
  fr : Same (hd2 d w H0) (hd2 d w H)
theorem Ds.draw {H' : Hp} {B' : Int} (s : Ds d w c B H0 H) (D : Dr d w c B' H') (f : Same (hd2 d w H) (hd2 d w H')) : Ds d w c B' H0 H' := ⟨D, s.fr.trans f⟩
theorem Ds.new (s : Ds d w c B H0 H) (hp : H p = none) : Ds d w c B H0 (upd H p o) := ⟨s.dr.new hp, s.fr.trans (hd2_new hp)⟩
theorem Ds.at (s : Ds d w c B H0 H) (hp : H p = none) : hd2 d w (upd H p o) p = some o := by
  obtain ⟨h1, h2, _⟩ := s.dr.off hp
  exact hd2_mk upd_same h1 h2
theorem Ds.put (s : Ds d w c B H0 H) (h0 : hd2 d w H0 p = none) (h1 : p ≠ d) (h2 : p ≠ w) (h3 : p ≠ c) : Ds d w c B H0 (upd H p o) := by
  refine ⟨s.dr.put h1 h2 h3, ?_⟩
  rw [hd2_upd h1 h2]
  exact Evl.Ex.mut s.fr h0
theorem Ds.mono {B' : Int} (s : Ds d w c B H0 H) (h : B ≤ B') : Ds d w c B' H0 H := ⟨s.dr.mono h, s.fr⟩
theorem Ds.same {H' : Hp} (s : Ds d w c B H0 H) (f : Same H H') : Ds d w c B H0 H' := by
  obtain ⟨⟨⟨r, t, e1, h4⟩, ⟨ns, e2⟩, ⟨ms, e3⟩⟩, s2⟩ := s
  exact ⟨⟨⟨r, t, f _ _ e1, h4⟩, ⟨ns, f _ _ e2⟩, ⟨ms, hd2_same f _ _ e3⟩⟩, s2.trans (hd2_same f)⟩
/-- what stands in the frame stays -/
theorem keepA {a : Addr} {u : HO} (e : hd2 d w H a = some u) (hp : H p = none) : hd2 d w (upd H p o) a = some u := hd2_new hp _ _ e
theorem keepP {a : Addr} {u : HO} (e : hd2 d w H a = some u) (h1 : p ≠ d) (h2 : p ≠ w) (h : a ≠ p) : hd2 d w (upd H p o) a = some u := by
  rw [hd2_upd h1 h2, upd_ne h]
  exact e
end
/-! ### the pigeons -/
theorem pigeon {α : Type} [DecidableEq α] : ∀ (l m : List α), l.Nodup → (∀ x ∈ l, x ∈ m) → l.length ≤ m.length
  | [], _, _, _ => Nat.zero_le _
  | a :: r, m, h, hs => by
    have ha := hs a List.mem_cons_self
    have h2 := List.nodup_cons.mp h
    have ih := pigeon r (m.erase a) h2.2 fun x hx => (List.mem_erase_of_ne (fun e : x = a => h2.1 (by rw [← e]; exact hx))).mpr (hs x (List.mem_cons_of_mem _ hx))
    rw [List.length_erase_of_mem ha] at ih
    have := List.length_pos_of_mem ha
    rw [List.length_cons]
    omega
/-! ### names -/
theorem name_iff (z : Str) : isNameS z = true ↔ 1 ≤ z.length ∧ z.length ≤ 8 ∧ ∀ c ∈ tl z, c ∈ tl alphabet := by
  unfold isNameS
  simp only [Bool.and_eq_true, decide_eq_true_eq, List.all_eq_true]
  constructor
  · rintro ⟨⟨h1, h2⟩, h3⟩
    exact ⟨by omega, by omega, h3⟩
  · rintro ⟨h1, h2, h3⟩
    exact ⟨⟨by omega, by omega⟩, h3⟩
theorem name_words : ∀ z ∈ (["a", "b", "plain", "own", "refers", "keeps", "ever", "zzzzzzzz"] : List Str), isNameS z = true := by decide +kernel
/-- the near ones of a word -/
def nears (z : Str) : List Str := z :: (tl alphabet).map fun c => cutS z none (some 7) ++ (⟨#[c]⟩ : Str)
theorem nears_name {z : Str} (h : isNameS z = true) : ∀ x ∈ nears z, isNameS x = true := fun x hx => by
  rcases List.mem_cons.mp hx with rfl | hx
  · exact h
  · obtain ⟨c, hc, rfl⟩ := List.mem_map.mp hx
    rw [name_iff] at h ⊢
    have e1 : (cutS z none (some 7)).length ≤ 7 := by
      show (((z.cps.toList.drop (HT.sIx z.length 0 none)).take (HT.sIx z.length z.length (some 7) - HT.sIx z.length 0 none)).toArray).size ≤ 7
      rw [List.size_toArray, List.length_take]
      have : HT.sIx z.length z.length (some 7) ≤ 7 := by
        show (if (7 : Int) < 0 then ((7 : Int) + (z.length : Int)).toNat else min (7 : Int).toNat z.length) ≤ 7
        rw [if_neg (by decide)]
        exact Nat.min_le_left _ _
      omega
    have e2 : (cutS z none (some 7) ++ (⟨#[c]⟩ : Str)).length = (cutS z none (some 7)).length + 1 := by rw [Str.length_append]; rfl
    refine ⟨by omega, by omega, fun b hb => ?_⟩
    rw [tl_append] at hb
    rcases List.mem_append.mp hb with hb | hb
    · exact h.2.2 b (List.mem_of_mem_drop (List.mem_of_mem_take (show b ∈ ((tl z).drop _).take _ from hb)))
    · have : b = c := by simpa [tl] using hb
      rw [this]
      exact hc
theorem nears_nodup (z : Str) : ((tl alphabet).map fun c => cutS z none (some 7) ++ (⟨#[c]⟩ : Str)).Nodup := by
  have h : (tl alphabet).Nodup := by decide +kernel
  refine List.Pairwise.map _ (fun a b hab e => hab ?_) h
  have := congrArg tl e
  rw [tl_append, tl_append] at this
  have := List.append_cancel_left this
  exact (List.cons.inj this).1
theorem near_free {z : Str} {ns : List Str} (h : ns.length < 26) : ∃ x r, (nears z).filter (fun x => !decide (x ∈ ns)) = x :: r := by
  cases e : (nears z).filter (fun x => !decide (x ∈ ns)) with
  | cons x r => exact ⟨x, r, rfl⟩
  | nil =>
    exfalso
    rw [List.filter_eq_nil_iff] at e
    have := pigeon _ ns (nears_nodup z) fun x hx => by
      have := e x (List.mem_cons_of_mem _ hx)
      simpa using this
    rw [List.length_map] at this
    have e2 : (tl alphabet).length = 26 := by decide +kernel
    omega
theorem noneS {H H' : Hp} {d : Addr} (s : Same H H') (h : H' d = none) : H d = none := by
  cases e : H d with
  | none => rfl
  | some o => rw [s _ _ e] at h; cases h
theorem alpha_tl : tl alphabet = [97, 98, 99, 100, 101, 102, 103, 104, 105, 106, 107, 108, 109, 110, 111, 112, 113, 114, 115, 116, 117, 118, 119, 120, 121, 122] := by decide +kernel
theorem name_join {cs : List Str} (h : ∀ x ∈ cs, ∃ c ∈ tl alphabet, x = ⟨#[c]⟩) (h1 : 1 ≤ cs.length) (h8 : cs.length ≤ 8) : isNameS (Txt.join "" cs) = true ∧ (cs.map (·.length)).sum = cs.length := by
  have es : (cs.map (·.length)).sum = cs.length := by
    clear h1 h8
    induction cs with
    | nil => rfl
    | cons a r ih =>
      obtain ⟨c, hc, e⟩ := h a List.mem_cons_self
      have := ih fun x hx => h x (List.mem_cons_of_mem _ hx)
      rw [List.map_cons, List.sum_cons, this, e, List.length_cons]
      show 1 + _ = _
      omega
  refine ⟨(name_iff _).mpr ?_, es⟩
  have el : (Txt.join "" cs).length = cs.length := by
    rw [join_eq]
    cases cs with
    | nil => simp at h1
    | cons a l =>
      rw [PyProof.Rows.len_join_cons, es]
      have : ("" : Str).length = 0 := by decide
      rw [this]
      omega
  refine ⟨by omega, by omega, fun b hb => ?_⟩
  rw [join_eq, tl_join] at hb
  rcases of_join hb with hb | ⟨p, hp, hb⟩
  · exact absurd (show b ∈ ([] : List Nat) from hb) (by simp)
  · obtain ⟨x, hx, rfl⟩ := List.mem_map.mp hp
    obtain ⟨c, hc, rfl⟩ := h x hx
    have : b = c := by simpa [tl] using hb
    rw [this]
    exact hc
theorem name_swap {z : Str} (h : isNameS z = true) {at_ : Int} (h0 : 0 ≤ at_) (h1 : at_ < z.length) {c : Nat} (hc : c ∈ tl alphabet) : isNameS (cutS z none (some at_) ++ (⟨#[c]⟩ : Str) ++ cutS z (some (at_ + 1)) none) = true := by
  rw [name_iff] at h ⊢
  obtain ⟨g1, g2, g3⟩ := h
  have hl : z.length = (tl z).length := len_tl z
  have e1 : tl (cutS z none (some at_)) = (tl z).take at_.toNat := by
    show ((tl z).drop 0).take ((if at_ < 0 then (at_ + (z.length : Int)).toNat else min at_.toNat z.length) - 0) = _
    rw [if_neg (by omega), List.drop_zero, Nat.sub_zero, Nat.min_eq_left (by omega)]
  have e2 : tl (cutS z (some (at_ + 1)) none) = (tl z).drop (at_.toNat + 1) := by
    show ((tl z).drop (if at_ + 1 < 0 then (at_ + 1 + (z.length : Int)).toNat else min (at_ + 1).toNat z.length)).take (z.length - (if at_ + 1 < 0 then (at_ + 1 + (z.length : Int)).toNat else min (at_ + 1).toNat z.length)) = _
    rw [if_neg (by omega), Nat.min_eq_left (by omega)]
    have : (at_ + 1).toNat = at_.toNat + 1 := by omega
    rw [this, List.take_of_length_le (by rw [List.length_drop]; omega)]
  have e3 : tl (cutS z none (some at_) ++ (⟨#[c]⟩ : Str) ++ cutS z (some (at_ + 1)) none) = (tl z).take at_.toNat ++ [c] ++ (tl z).drop (at_.toNat + 1) := by
    rw [tl_append, tl_append, e1, e2]
  have e4 : (cutS z none (some at_) ++ (⟨#[c]⟩ : Str) ++ cutS z (some (at_ + 1)) none).length = z.length := by
    rw [len_tl, e3, List.length_append, List.length_append, List.length_take, List.length_drop, List.length_singleton]
    omega
  refine ⟨by omega, by omega, fun b hb => ?_⟩
  rw [e3] at hb
  rcases List.mem_append.mp hb with hb | hb
  · rcases List.mem_append.mp hb with hb | hb
    · exact g3 b (List.mem_of_mem_take hb)
    · rw [List.mem_singleton.mp hb]
      exact hc
  · exact g3 b (List.mem_of_mem_drop hb)
end WP
namespace WP
open PySem L2 PySem.Spec PyProof.Rows
/-- list(a text) -/
theorem call_list_txt {X : Cx} (hc : X.calm = true) : CallR X (.type "list") (fun xs H Q => ∃ z, xs = [.str z] ∧ z.length ≤ sizeLine ∧ ∀ p, H p = none → Q (.ref p) (upd H p (.lst (signs z)))) := by
  intro pins s σ H xs us Q I r h
  obtain ⟨z, rfl, hz, q⟩ := h
  obtain ⟨u, rfl, t, rfl⟩ := vals1 r
  have hl : (signs z).length = z.cps.size := by unfold signs; simp
  refine PySem.call_list_str (I.ok.hd hc) z t (fun h' tk acc' c' kp e hacc => ?_) hz
  obtain ⟨h1, h2⟩ := hacc
  have rv : Vals (signs z) acc'.toList := vals_of_idx _ _ (by rw [Array.length_toList, h1, hl]) fun j u hu => by
    rw [Array.getElem?_toList] at hu
    obtain ⟨c, u', hc', rfl⟩ := h2 j u hu
    refine ⟨.str ⟨#[c]⟩, ?_, ⟨u', rfl⟩⟩
    unfold signs
    rw [List.getElem?_map, Array.getElem?_toList, hc']
    rfl
  refine ⟨.ref s.heap.objs.size, _, I.laid (t' := tk) kp (Nat.le_refl _) (show ObjOk X.prog X.w _ h' _ (.lst (signs z)) from ⟨by rw [hl]; exact hz, acc'.toList, c', rv, by simpa using e⟩), rfl, q _ (I.hok.fresh (Nat.le_refl _))⟩
theorem fold_cps (l : List (Array Nat)) : ∀ a : Array Nat, (l.foldl (· ++ ·) a).toList = a.toList ++ (l.map Array.toList).flatten := by
  induction l with
  | nil => intro a; simp
  | cons b r ih =>
    intro a
    rw [List.foldl_cons, ih, List.map_cons, List.flatten_cons, Array.toList_append, List.append_assoc]
theorem rep_flat (l : List Nat) : ∀ k : Nat, (List.replicate k l).flatten.length = l.length * k ∧ ∀ c ∈ (List.replicate k l).flatten, c ∈ l
  | 0 => ⟨by simp, fun c h => by simp at h⟩
  | k + 1 => by
    obtain ⟨h1, h2⟩ := rep_flat l k
    rw [List.replicate_succ, List.flatten_cons]
    refine ⟨by rw [List.length_append, h1, Nat.mul_succ]; omega, fun c h => ?_⟩
    rcases List.mem_append.mp h with h | h
    · exact h
    · exact h2 c h
/-- a text times a number -/
theorem op_rep_str {X : Cx} : OpR X (binaryOp .Mult) (fun x y H Q => ∃ (z : Str) (k : Int), x = .str z ∧ y = .int k ∧ 2 ≤ k ∧ k ≤ 1000000 ∧ 1 ≤ z.length ∧ z.length ≤ 10 ∧ ∀ r : Str, r.length = z.length * k.toNat → (∀ c ∈ TL.tl r, c ∈ TL.tl z) → Q (.str r) H) := by
  intro pins s σ H x y v u Q I rx ry h
  obtain ⟨z, k, rfl, rfl, k2, k6, z1, z10, q⟩ := h
  obtain ⟨t, rfl⟩ := rx
  obtain ⟨t', rfl⟩ := ry
  have hm : z.length * k.toNat ≤ 10 * 1000000 := Nat.mul_le_mul z10 (by omega)
  have eT : (⟨(List.replicate k.toNat z.cps).foldl (· ++ ·) #[]⟩ : Str).cps.toList = (List.replicate k.toNat (TL.tl z)).flatten := by
    show ((List.replicate k.toNat z.cps).foldl (· ++ ·) #[]).toList = _
    rw [fold_cps, List.map_replicate]
    rfl
  have eL : (⟨(List.replicate k.toNat z.cps).foldl (· ++ ·) #[]⟩ : Str).length = z.length * k.toNat := by
    rw [TL.len_tl, TL.len_tl z]
    show (⟨(List.replicate k.toNat z.cps).foldl (· ++ ·) #[]⟩ : Str).cps.toList.length = _
    rw [eT]
    exact (rep_flat _ _).1
  refine PySem.P.mul_str (by rw [decide_eq_false (by omega), decide_eq_false (by omega)]; rfl) (fun _ _ => ?_) (fun _ _ => ?_) ?_
  · have h1 : (z.length : Int) ≤ (2 ^ 63 - 1) / k := by
      rw [Int.le_ediv_iff_mul_le (by omega)]
      have : (z.length : Int) * k ≤ 10 * 1000000 := Int.mul_le_mul (by omega) (by omega) (by omega) (by omega)
      omega
    omega
  · unfold Builtin.Str.tooLong
    have := sizeLine_eq
    simp
    omega
  · rw [if_neg (by omega), if_neg (by simp; omega)]
    refine ⟨?_, ⟨.str _, H, I.tok _, ⟨_, rfl⟩, q _ eL fun c hc => ?_⟩⟩
    · rw [eL, sizeLine_eq]; omega
    · rw [show TL.tl (⟨(List.replicate k.toNat z.cps).foldl (· ++ ·) #[]⟩ : Str) = _ from eT] at hc
      exact (rep_flat _ _).2 c hc
end WP
namespace WP
open PySem L2 PySem.Spec PyProof.Rows
/-! ### what the top has left -/
def DefK (K : PySem.W.Frag) (x : Str) (st : Stmt) : Prop := ∃ (f : Addr) (fd : FuncData), PySem.W.nsIn K mainGlobals x = some (some (.ref f)) ∧ PySem.W.keepIn K (.ref f) = true ∧ Fun K x x st f fd
theorem def_mk {K : PySem.W.Frag} {h : Heap} {x : Str} {st : Stmt} {f : Addr} {od an : Option Addr} {sl : Array (Option Value)} {oc kV dc pm cd ct : Value} (X : K.In h) (a : PySem.W.nsIn K mainGlobals x = some (some (.ref f)))
    (l : K.lookup f = some ⟨oc, od, .func (PySem.W.fnOf x x (defArgs st) (defBody st) (defScope st) .none kV dc pm an cd ct), sl⟩) (c : PySem.W.codeIn K cd x = true) (k : PySem.W.keepIn K (.ref f) = true) : DefK K x st :=
  ⟨f, _, a, k, ⟨⟨oc, od, kV, dc, pm, an, cd, ct, sl, rfl, l, c⟩, k⟩⟩
/-- a method's def -/
def MethK (K : PySem.W.Frag) (x qual : Str) (st : Stmt) (f : Addr) : Prop := ∃ fd : FuncData, Fun K x qual st f fd
theorem meth_mk {K : PySem.W.Frag} {h : Heap} {x qual : Str} {st : Stmt} {f : Addr} {od an : Option Addr} {sl : Array (Option Value)} {oc kV dc pm cd ct : Value} (X : K.In h)
    (l : K.lookup f = some ⟨oc, od, .func (PySem.W.fnOf x qual (defArgs st) (defBody st) (defScope st) .none kV dc pm an cd ct), sl⟩) (c : PySem.W.codeIn K cd qual = true) (k : PySem.W.keepIn K (.ref f) = true) : MethK K x qual st f :=
  ⟨_, ⟨⟨oc, od, kV, dc, pm, an, cd, ct, sl, rfl, l, c⟩, k⟩⟩
def NoG (K : PySem.W.Frag) (x : Str) : Prop := PySem.W.nsIn K mainGlobals x = some none
structure BiK (K : PySem.W.Frag) : Prop where
  int : NoG K "int"
  str : NoG K "str"
  len : NoG K "len"
  list : NoG K "list"
  range : NoG K "range"
  min : NoG K "min"
  max : NoG K "max"
  sorted : NoG K "sorted"
  set : NoG K "set"
  tuple : NoG K "tuple"
  dict : NoG K "dict"
  isinstance : NoG K "isinstance"
  repr : NoG K "repr"
  zip : NoG K "zip"
  enumerate : NoG K "enumerate"
  all : NoG K "all"
  sum : NoG K "sum"
  bool : NoG K "bool"
theorem BiK.bi {K : PySem.W.Frag} {h : Heap} {mg : Str → Option Value} (X : K.In h) (G : h.Ns mainGlobals mg) (B : BiK K) : Bi mg :=
  ⟨PySem.W.mg_none_of X G B.int, PySem.W.mg_none_of X G B.str, PySem.W.mg_none_of X G B.len, PySem.W.mg_none_of X G B.list, PySem.W.mg_none_of X G B.range, PySem.W.mg_none_of X G B.min, PySem.W.mg_none_of X G B.max, PySem.W.mg_none_of X G B.sorted, PySem.W.mg_none_of X G B.set, PySem.W.mg_none_of X G B.tuple, PySem.W.mg_none_of X G B.dict, PySem.W.mg_none_of X G B.isinstance, PySem.W.mg_none_of X G B.repr, PySem.W.mg_none_of X G B.zip, PySem.W.mg_none_of X G B.enumerate, PySem.W.mg_none_of X G B.all, PySem.W.mg_none_of X G B.sum, PySem.W.mg_none_of X G B.bool⟩
theorem bi_mk {K : PySem.W.Frag} {h : Heap} (X : K.In h) (a1 : PySem.W.nsIn K mainGlobals "int" = some none) (a2 : PySem.W.nsIn K mainGlobals "str" = some none) (a3 : PySem.W.nsIn K mainGlobals "len" = some none) (a4 : PySem.W.nsIn K mainGlobals "list" = some none) (a5 : PySem.W.nsIn K mainGlobals "range" = some none) (a6 : PySem.W.nsIn K mainGlobals "min" = some none)
    (a7 : PySem.W.nsIn K mainGlobals "max" = some none) (a8 : PySem.W.nsIn K mainGlobals "sorted" = some none) (a9 : PySem.W.nsIn K mainGlobals "set" = some none) (a10 : PySem.W.nsIn K mainGlobals "tuple" = some none) (a11 : PySem.W.nsIn K mainGlobals "dict" = some none) (a12 : PySem.W.nsIn K mainGlobals "isinstance" = some none) (a13 : PySem.W.nsIn K mainGlobals "repr" = some none)
    (a14 : PySem.W.nsIn K mainGlobals "zip" = some none) (a15 : PySem.W.nsIn K mainGlobals "enumerate" = some none) (a16 : PySem.W.nsIn K mainGlobals "all" = some none) (a17 : PySem.W.nsIn K mainGlobals "sum" = some none) (a18 : PySem.W.nsIn K mainGlobals "bool" = some none) : BiK K := ⟨a1, a2, a3, a4, a5, a6, a7, a8, a9, a10, a11, a12, a13, a14, a15, a16, a17, a18⟩
/-- an error class with one field -/
structure ErrK (K : PySem.W.Frag) (CP : Addr) (x fld : Str) (st : Stmt) (qual : Str) (C : Addr) : Prop where
  T : OexC K C
  xf : XfC K C
  no : PySem.W.findIn K (.ref C) fld = some none
  ec : ExcC K C
  ns : PySem.W.nsIn K mainGlobals x = some (some (.ref C))
  init : ∃ fI, PySem.W.findIn K (.ref C) "__init__" = some (some (.ref fI)) ∧ PySem.W.typeIn K (.ref fI) = some (.type "function") ∧ MethK K "__init__" qual st fI
  sub : PySem.W.exmOne K (.ref C) (.ref CP) = some true
/-- its __init__ -/
theorem ok_init1 {P : Program} {w : World} {K : PySem.W.Frag} {mg : Str → Option Value} {base : Heap} {f C : Addr} {fd : FuncData} {qual fld : Str} {st : Stmt} {p1 p2 p3 p4 : Pos} (F : Fun K "__init__" qual st f fd) (S : FnScope ["self", fld] ["self", fld] (defScope st)) (hb : defBody st = [.Assign [.Attribute (.Name "self" p1) fld p2] (.Name fld p3) p4])
    (h1 : (defScope st).names.lookup (Str.ofString "self") = some NameKind.local) (h2 : (defScope st).names.lookup fld = some NameKind.local) (hd : (fld == ("__debug__" : Str)) = false) (hd2 : (fld == ("__classdict__" : Str)) = false) (T : OexC K C) (no : PySem.W.findIn K (.ref C) fld = some none) : FnOk P w K mg base CX0 1 f fd ["self", fld] (spI1 C fld) := by
  refine F.ok S (fun vs H Q E h => ?_) (fun cdv A outer s H vs Q E hr h => ?_)
  · obtain ⟨a, v, rfl, _⟩ := h
    rfl
  · obtain ⟨a, v, rfl, ha, q⟩ := h
    rw [hb]
    refine ⟨_, pss_one (ps_ost (pe_var (i := 0) rfl (.inl h1) (by decide) (by decide)) (pe_var (i := 1) rfl (.inl h2) hd hd2)), ?_⟩
    exact ⟨_, rfl, _, rfl, a, C, rfl, T, no, .inl ⟨ha, fun dx h3 h4 => q dx h3 h4⟩⟩
theorem ErrK.err {P : Program} {w : World} {K : PySem.W.Frag} {h : Heap} {mg : Str → Option Value} {base : Heap} {CP C : Addr} {x fld qual : Str} {st : Stmt} (X : K.In h) (G : h.Ns mainGlobals mg) (E : ErrK K CP x fld st qual C)
    (hok : ∀ f fd, Fun K "__init__" qual st f fd → FnOk P w K mg base CX0 1 f fd ["self", fld] (spI1 C fld)) (hbi : ∀ f fd, Fun K "__init__" qual st f fd → L2.Binds K fd ["self", fld] []) : Err1 P w K mg base CP x C fld := by
  obtain ⟨T, xf, no, ec, ns, ⟨fI, i1, i2, fd, F⟩, sub⟩ := E
  exact ⟨T, xf, no, ec, PySem.W.mg_of X G ns, ⟨fI, fd, i1, i2, hok fI fd F, hbi fI fd F⟩, sub⟩
/-! ### the table of forms -/
theorem find_step {e : DictEntry} {l : List DictEntry} {z k : Str} {t : Tok} (he : e.key = .str k t) : (e :: l).find? (·.key.isStr z) = if k = z then some e else l.find? (·.key.isStr z) := by
  rw [List.find?_cons]
  have : e.key.isStr z = decide (k = z) := by
    rw [he]
    show (k == z) = decide (k = z)
    rw [Bool.eq_iff_iff, beq_iff_eq, decide_eq_true_eq]
  rw [this]
  by_cases h : k = z
  · rw [decide_eq_true h, if_pos h]
  · rw [decide_eq_false h, if_neg h]
theorem find_stepF {p : Str × List Str} {l : List (Str × List Str)} {z : Str} : (p :: l).find? (fun q => decide (q.1 = z)) = if p.1 = z then some p else l.find? (fun q => decide (q.1 = z)) := by
  rw [List.find?_cons]
  by_cases h : p.1 = z
  · rw [decide_eq_true h, if_pos h]
  · rw [decide_eq_false h, if_neg h]
theorem forms_mk {K : PySem.W.Frag} {h : Heap} {w : World} {aF b1 b2 b3 b4 b5 b6 b7 : Addr} {t1 t2 t3 t4 t5 t6 t7 u1 u3 u4 u5 u6 u7 u8 u9 u10 u11 : Tok} {n n1 n2 n3 n4 n5 n6 n7 : Nat} (X : K.In h)
    (l0 : K.lookup aF = some ⟨.type "dict", none, .dict #[⟨PyData.keyHash w.params "begin", .str "begin" t1, .ref b1⟩, ⟨PyData.keyHash w.params "step", .str "step" t2, .ref b2⟩, ⟨PyData.keyHash w.params "clear", .str "clear" t3, .ref b3⟩, ⟨PyData.keyHash w.params "wait", .str "wait" t4, .ref b4⟩, ⟨PyData.keyHash w.params "lose", .str "lose" t5, .ref b5⟩, ⟨PyData.keyHash w.params "open", .str "open" t6, .ref b6⟩, ⟨PyData.keyHash w.params "fetch", .str "fetch" t7, .ref b7⟩] n, #[]⟩)
    (low : (aF == sysModules) = false)
    (l1 : K.lookup b1 = some ⟨.type "tuple", none, .seq #[.str "number" u1] n1, #[]⟩) (l2 : K.lookup b2 = some ⟨.type "tuple", none, .seq #[] n2, #[]⟩) (l3 : K.lookup b3 = some ⟨.type "tuple", none, .seq #[.str "name" u3, .str "number" u4] n3, #[]⟩) (l4 : K.lookup b4 = some ⟨.type "tuple", none, .seq #[.str "ticks" u5] n4, #[]⟩)
    (l5 : K.lookup b5 = some ⟨.type "tuple", none, .seq #[.str "number" u6, .str "name" u7, .str "number" u8] n5, #[]⟩) (l6 : K.lookup b6 = some ⟨.type "tuple", none, .seq #[.str "name" u9] n6, #[]⟩) (l7 : K.lookup b7 = some ⟨.type "tuple", none, .seq #[.str "number" u10, .str "name" u11] n7, #[]⟩) : FormsK K w aF := by
  have ns : ∀ z : Str, PySem.W.nsIn K aF z = some (if ("begin" : Str) = z then some (.ref b1) else if ("step" : Str) = z then some (.ref b2) else if ("clear" : Str) = z then some (.ref b3) else if ("wait" : Str) = z then some (.ref b4) else if ("lose" : Str) = z then some (.ref b5) else if ("open" : Str) = z then some (.ref b6) else if ("fetch" : Str) = z then some (.ref b7) else none) := fun z => by
    unfold PySem.W.nsIn
    rw [l0]
    simp only [List.toList_toArray]
    rw [find_step rfl, find_step rfl, find_step rfl, find_step rfl, find_step rfl, find_step rfl, find_step rfl]
    by_cases h1 : ("begin" : Str) = z
    · rw [if_pos h1, if_pos h1]
    rw [if_neg h1, if_neg h1]
    by_cases h2 : ("step" : Str) = z
    · rw [if_pos h2, if_pos h2]
    rw [if_neg h2, if_neg h2]
    by_cases h3 : ("clear" : Str) = z
    · rw [if_pos h3, if_pos h3]
    rw [if_neg h3, if_neg h3]
    by_cases h4 : ("wait" : Str) = z
    · rw [if_pos h4, if_pos h4]
    rw [if_neg h4, if_neg h4]
    by_cases h5 : ("lose" : Str) = z
    · rw [if_pos h5, if_pos h5]
    rw [if_neg h5, if_neg h5]
    by_cases h6 : ("open" : Str) = z
    · rw [if_pos h6, if_pos h6]
    rw [if_neg h6, if_neg h6]
    by_cases h7 : ("fetch" : Str) = z
    · rw [if_pos h7, if_pos h7]
    rw [if_neg h7, if_neg h7]
    rfl
  have fo : ∀ z : Str, formOf z = (if ("begin" : Str) = z then some ([("number" : Str)] : List Str) else if ("step" : Str) = z then some ([] : List Str) else if ("clear" : Str) = z then some ([("name" : Str), "number"] : List Str) else if ("wait" : Str) = z then some ([("ticks" : Str)] : List Str) else if ("lose" : Str) = z then some ([("number" : Str), "name", "number"] : List Str) else if ("open" : Str) = z then some ([("name" : Str)] : List Str) else if ("fetch" : Str) = z then some ([("number" : Str), "name"] : List Str) else none) := fun z => by
    unfold formOf forms
    rw [find_stepF, find_stepF, find_stepF, find_stepF, find_stepF, find_stepF, find_stepF]
    by_cases h1 : ("begin" : Str) = z
    · rw [if_pos h1, if_pos h1]; rfl
    rw [if_neg h1, if_neg h1]
    by_cases h2 : ("step" : Str) = z
    · rw [if_pos h2, if_pos h2]; rfl
    rw [if_neg h2, if_neg h2]
    by_cases h3 : ("clear" : Str) = z
    · rw [if_pos h3, if_pos h3]; rfl
    rw [if_neg h3, if_neg h3]
    by_cases h4 : ("wait" : Str) = z
    · rw [if_pos h4, if_pos h4]; rfl
    rw [if_neg h4, if_neg h4]
    by_cases h5 : ("lose" : Str) = z
    · rw [if_pos h5, if_pos h5]; rfl
    rw [if_neg h5, if_neg h5]
    by_cases h6 : ("open" : Str) = z
    · rw [if_pos h6, if_pos h6]; rfl
    rw [if_neg h6, if_neg h6]
    by_cases h7 : ("fetch" : Str) = z
    · rw [if_pos h7, if_pos h7]; rfl
    rw [if_neg h7, if_neg h7]
    rfl
  refine ⟨⟨_, n, l0, ⟨⟨_, _, rfl, rfl⟩, ⟨_, _, rfl, rfl⟩, ⟨_, _, rfl, rfl⟩, ⟨_, _, rfl, rfl⟩, ⟨_, _, rfl, rfl⟩, ⟨_, _, rfl, rfl⟩, ⟨_, _, rfl, rfl⟩, trivial⟩, low⟩, fun z h => ?_, fun z ss h => ?_⟩
  · rw [fo] at h
    rw [ns]
    have g : ∀ {c : Prop} [Decidable c] {a : List Str} {o : Option (List Str)}, (if c then some a else o) = none → ¬ c ∧ o = none := fun {c _ a o} e => by
      by_cases hc : c
      · rw [if_pos hc] at e; cases e
      · rw [if_neg hc] at e; exact ⟨hc, e⟩
    obtain ⟨h1, h⟩ := g h
    obtain ⟨h2, h⟩ := g h
    obtain ⟨h3, h⟩ := g h
    obtain ⟨h4, h⟩ := g h
    obtain ⟨h5, h⟩ := g h
    obtain ⟨h6, h⟩ := g h
    obtain ⟨h7, h⟩ := g h
    rw [if_neg h1, if_neg h2, if_neg h3, if_neg h4, if_neg h5, if_neg h6, if_neg h7]
  · rw [fo] at h
    rw [ns]
    have sz : ∀ k : Nat, k ≤ 3 → k ≤ sizeLine := fun k hk => Nat.le_trans hk (by decide)
    by_cases h1 : ("begin" : Str) = z
    · rw [if_pos h1] at h ⊢
      cases h
      exact ⟨b1, rfl, fun H => .inr ⟨_, _, _, l1, rfl, rfl, sz _ (by simp), .cons ⟨_, rfl⟩ .nil⟩⟩
    rw [if_neg h1] at h ⊢
    by_cases h2 : ("step" : Str) = z
    · rw [if_pos h2] at h ⊢
      cases h
      exact ⟨b2, rfl, fun H => .inr ⟨_, _, _, l2, rfl, rfl, sz _ (by simp), .nil⟩⟩
    rw [if_neg h2] at h ⊢
    by_cases h3 : ("clear" : Str) = z
    · rw [if_pos h3] at h ⊢
      cases h
      exact ⟨b3, rfl, fun H => .inr ⟨_, _, _, l3, rfl, rfl, sz _ (by simp), .cons ⟨_, rfl⟩ (.cons ⟨_, rfl⟩ .nil)⟩⟩
    rw [if_neg h3] at h ⊢
    by_cases h4 : ("wait" : Str) = z
    · rw [if_pos h4] at h ⊢
      cases h
      exact ⟨b4, rfl, fun H => .inr ⟨_, _, _, l4, rfl, rfl, sz _ (by simp), .cons ⟨_, rfl⟩ .nil⟩⟩
    rw [if_neg h4] at h ⊢
    by_cases h5 : ("lose" : Str) = z
    · rw [if_pos h5] at h ⊢
      cases h
      exact ⟨b5, rfl, fun H => .inr ⟨_, _, _, l5, rfl, rfl, sz _ (by simp), .cons ⟨_, rfl⟩ (.cons ⟨_, rfl⟩ (.cons ⟨_, rfl⟩ .nil))⟩⟩
    rw [if_neg h5] at h ⊢
    by_cases h6 : ("open" : Str) = z
    · rw [if_pos h6] at h ⊢
      cases h
      exact ⟨b6, rfl, fun H => .inr ⟨_, _, _, l6, rfl, rfl, sz _ (by simp), .cons ⟨_, rfl⟩ .nil⟩⟩
    rw [if_neg h6] at h ⊢
    by_cases h7 : ("fetch" : Str) = z
    · rw [if_pos h7] at h ⊢
      cases h
      exact ⟨b7, rfl, fun H => .inr ⟨_, _, _, l7, rfl, rfl, sz _ (by simp), .cons ⟨_, rfl⟩ (.cons ⟨_, rfl⟩ .nil)⟩⟩
    rw [if_neg h7] at h
    cases h
theorem err_mk {K : PySem.W.Frag} {h : Heap} {x fld qual : Str} {st : Stmt} {C fI N : Addr} {nm q : Str} {bs bm : List Value} {sn : List Str} {sub : List Value} {ab : Bool} {col : Option Bool} {dd : Option Addr} {m0 m1 m2 m3 m5 : Option Value}
    {od an : Option Addr} {sl : Array (Option Value)} {oc kV dc pm cd ct : Value} (X : K.In h) (ns : PySem.W.nsIn K mainGlobals x = some (some (.ref C)))
    (xl : K.lookup C = some (excClassObj nm q C N bs bm true sn sub ab col dd m0 m1 m2 m3 m5 "ValueError.__new__")) (rv : PySem.HandSPX.refsVE bm = true)
    (sa : PySem.W.findIn K (.ref C) "__setattr__" = some (some (.builtin "object.__setattr__"))) (ga : PySem.W.findIn K (.ref C) "__getattribute__" = some (some (.builtin "BaseException.__getattribute__"))) (gg : PySem.W.findIn K (.ref C) "__getattr__" = some none) (no : PySem.W.findIn K (.ref C) fld = some none)
    (ha : PySem.W.findIn K (.ref C) "__class__" = some (some (.builtin "object.__class__"))) (hn : PySem.W.specialIn K (.builtin "object.__class__") "__get__" = some (some (.builtin "getset_descriptor.__get__"))) (ht : PySem.W.takesIn K (.builtin "object.__class__") = some true) (hm : PySem.W.mroIn K C (.type "object") = some true)
    (kC : PySem.W.keepIn K (.ref C) = true) (eC : PySem.W.subIn K (.ref C) (.type "BaseException") = some true) (tC : PySem.W.typeIn K (.ref C) = some (.type "type")) (hC : PySem.W.hasDictIn K C = true) (sC : PySem.W.subIn K (.ref C) (.ref C) = some true)
    (i1 : PySem.W.findIn K (.ref C) "__init__" = some (some (.ref fI))) (ti : PySem.W.typeIn K (.ref fI) = some (.type "function")) (li : K.lookup fI = some ⟨oc, od, .func (PySem.W.fnOf "__init__" qual (defArgs st) (defBody st) (defScope st) .none kV dc pm an cd ct), sl⟩) (ci : PySem.W.codeIn K cd qual = true) (ki : PySem.W.keepIn K (.ref fI) = true) :
    ErrK K C x fld st qual C :=
  ⟨⟨⟨_, _, _, _, _, _, _, _, _, _, _, _, _, _, _, xl, rv⟩, sa, eC, tC, kC⟩, ⟨ga, gg, eC, hC⟩, no, ⟨ga, gg, eC, hC, ha, hn, ht, hm⟩, ns, ⟨fI, i1, ti, meth_mk X li ci ki⟩, PySem.W.exm_ref eC hC tC sC⟩
end WP
namespace WP
open PySem L2
def top (i : Nat) : Stmt := PySem.Challenge.pw_wholeprint_k70_texts_of_histories_refuse.main.body.getD i (.Pass ⟨0, 0, 0, 0⟩)
abbrev s_BadHistory___init__ : Stmt := inClass (top 2) 0
theorem sc_BadHistory___init__ : FnScope ["self", "at"] ["self", "at"] (defScope s_BadHistory___init__) := ⟨rfl, rfl, rfl, by decide +kernel, rfl, by decide +kernel, by decide +kernel⟩
abbrev s_BadText___init__ : Stmt := inClass (top 3) 0
theorem sc_BadText___init__ : FnScope ["self", "line"] ["self", "line"] (defScope s_BadText___init__) := ⟨rfl, rfl, rfl, by decide +kernel, rfl, by decide +kernel, by decide +kernel⟩
abbrev s_is_name : Stmt := top 7
theorem sc_is_name : FnScope ["value", "letter"] ["value"] (defScope s_is_name) := ⟨rfl, rfl, rfl, by decide +kernel, rfl, by decide +kernel, by decide +kernel⟩
abbrev s_is_number : Stmt := top 8
theorem sc_is_number : FnScope ["value"] ["value"] (defScope s_is_number) := ⟨rfl, rfl, rfl, by decide +kernel, rfl, by decide +kernel, by decide +kernel⟩
abbrev s_is_list : Stmt := top 9
theorem sc_is_list : FnScope ["value"] ["value"] (defScope s_is_list) := ⟨rfl, rfl, rfl, by decide +kernel, rfl, by decide +kernel, by decide +kernel⟩
abbrev s_is_numeral : Stmt := top 15
theorem sc_is_numeral : FnScope ["word", "sign"] ["word"] (defScope s_is_numeral) := ⟨rfl, rfl, rfl, by decide +kernel, rfl, by decide +kernel, by decide +kernel⟩
abbrev s_ended : Stmt := top 16
theorem sc_ended : FnScope ["lines", "line"] ["lines"] (defScope s_ended) := ⟨rfl, rfl, rfl, by decide +kernel, rfl, by decide +kernel, by decide +kernel⟩
abbrev s_lines_of : Stmt := top 17
theorem sc_lines_of : FnScope ["text", "lines"] ["text"] (defScope s_lines_of) := ⟨rfl, rfl, rfl, by decide +kernel, rfl, by decide +kernel, by decide +kernel⟩
abbrev s_need_end : Stmt := top 18
theorem sc_need_end : FnScope ["text", "lines"] ["text", "lines"] (defScope s_need_end) := ⟨rfl, rfl, rfl, by decide +kernel, rfl, by decide +kernel, by decide +kernel⟩
abbrev s_is_part : Stmt := top 19
theorem sc_is_part : FnScope ["sort", "value"] ["sort", "value"] (defScope s_is_part) := ⟨rfl, rfl, rfl, by decide +kernel, rfl, by decide +kernel, by decide +kernel⟩
abbrev s_is_deed : Stmt := top 20
theorem sc_is_deed : FnScope ["value", "sorts", "sort", "part"] ["value"] (defScope s_is_deed) := ⟨rfl, rfl, rfl, by decide +kernel, rfl, by decide +kernel, by decide +kernel⟩
abbrev s_deed_line : Stmt := top 21
theorem sc_deed_line : FnScope ["deed", "part"] ["deed"] (defScope s_deed_line) := ⟨rfl, rfl, rfl, by decide +kernel, rfl, by decide +kernel, by decide +kernel⟩
abbrev s_deed_of : Stmt := top 22
theorem sc_deed_of : FnScope ["line", "words", "parts", "sort", "word", "deed"] ["line"] (defScope s_deed_of) := ⟨rfl, rfl, rfl, by decide +kernel, rfl, by decide +kernel, by decide +kernel⟩
abbrev s_history_text : Stmt := top 23
theorem sc_history_text : FnScope ["history", "at", "deed"] ["history"] (defScope s_history_text) := ⟨rfl, rfl, rfl, by decide +kernel, rfl, by decide +kernel, by decide +kernel⟩
abbrev s_read_history : Stmt := top 24
theorem sc_read_history : FnScope ["text", "lines", "found", "line"] ["text"] (defScope s_read_history) := ⟨rfl, rfl, rfl, by decide +kernel, rfl, by decide +kernel, by decide +kernel⟩
abbrev s__law_begun : Stmt := top 26
theorem sc__law_begun : FnScope ["_law_script", "_law_wide", "_law_cell"] ["_law_script"] (defScope s__law_begun) := ⟨rfl, rfl, rfl, by decide +kernel, rfl, by decide +kernel, by decide +kernel⟩
abbrev s__law_blend : Stmt := top 27
theorem sc__law_blend : FnScope ["_law_draw", "_law_found", "_law_prime", "_law_blend_here", "_law_cell"] ["_law_draw"] (defScope s__law_blend) := ⟨rfl, rfl, rfl, by decide +kernel, rfl, by decide +kernel, by decide +kernel⟩
abbrev s__law_take : Stmt := top 28
theorem sc__law_take : FnScope ["_law_draw", "_law_size", "_law_found"] ["_law_draw", "_law_size"] (defScope s__law_take) := ⟨rfl, rfl, rfl, by decide +kernel, rfl, by decide +kernel, by decide +kernel⟩
abbrev s__law_pick : Stmt := top 29
theorem sc__law_pick : FnScope ["_law_draw", "_law_some"] ["_law_draw", "_law_some"] (defScope s__law_pick) := ⟨rfl, rfl, rfl, by decide +kernel, rfl, by decide +kernel, by decide +kernel⟩
abbrev s__law_drawn_names : Stmt := top 30
theorem sc__law_drawn_names : FnScope ["_law_draw", "_law_total", "_law_letters", "_law_found", "_law_some", "_law_k", "_law_way", "_law_word", "_law_size", "_law_j", "_law_at", "_law_near", "_law_letter", "_law_single"] ["_law_draw", "_law_total"] (defScope s__law_drawn_names) := ⟨rfl, rfl, rfl, by decide +kernel, rfl, by decide +kernel, by decide +kernel⟩
abbrev s__law_drawn_deed : Stmt := top 31
theorem sc__law_drawn_deed : FnScope ["_law_draw", "_law_names", "_law_number", "_law_name", "_law_cache", "_law_some"] ["_law_draw", "_law_names"] (defScope s__law_drawn_deed) := ⟨rfl, rfl, rfl, by decide +kernel, rfl, by decide +kernel, by decide +kernel⟩
abbrev s__law_line : Stmt := top 32
theorem sc__law_line : FnScope ["_law_deed", "_law_part"] ["_law_deed"] (defScope s__law_line) := ⟨rfl, rfl, rfl, by decide +kernel, rfl, by decide +kernel, by decide +kernel⟩
abbrev s__law_text_of : Stmt := top 33
theorem sc__law_text_of : FnScope ["_law_history", "_law_deed"] ["_law_history"] (defScope s__law_text_of) := ⟨rfl, rfl, rfl, by decide +kernel, rfl, by decide +kernel, by decide +kernel⟩
abbrev s__law_bent_text : Stmt := top 34
theorem sc__law_bent_text : FnScope ["_law_draw", "_law_text", "_law_some", "_law_way", "_law_at", "_law_sign", "_law_lines", "_law_other", "_law_words", "_law_spot", "_law_word", "_law_middle"] ["_law_draw", "_law_text", "_law_some"] (defScope s__law_bent_text) := ⟨rfl, rfl, rfl, by decide +kernel, rfl, by decide +kernel, by decide +kernel⟩
abbrev s__law_is_name : Stmt := top 35
theorem sc__law_is_name : FnScope ["_law_word", "_law_sign"] ["_law_word"] (defScope s__law_is_name) := ⟨rfl, rfl, rfl, by decide +kernel, rfl, by decide +kernel, by decide +kernel⟩
abbrev s__law_number_of : Stmt := top 36
theorem sc__law_number_of : FnScope ["_law_word", "_law_most", "_law_sign"] ["_law_word", "_law_most"] (defScope s__law_number_of) := ⟨rfl, rfl, rfl, by decide +kernel, rfl, by decide +kernel, by decide +kernel⟩
abbrev s__law_deed_of : Stmt := top 37
theorem sc__law_deed_of : FnScope ["_law_line_here", "_law_words", "_law_forms", "_law_found", "_law_sort", "_law_word", "_law_number"] ["_law_line_here"] (defScope s__law_deed_of) := ⟨rfl, rfl, rfl, by decide +kernel, rfl, by decide +kernel, by decide +kernel⟩
abbrev s__law_due : Stmt := top 38
theorem sc__law_due : FnScope ["_law_text", "_law_lines", "_law_is_ended", "_law_found", "_law_line_here", "_law_wrong", "_law_at"] ["_law_text"] (defScope s__law_due) := ⟨rfl, rfl, rfl, by decide +kernel, rfl, by decide +kernel, by decide +kernel⟩
abbrev s__law_heard : Stmt := top 39
theorem sc__law_heard : FnScope ["_law_text", "_law_found", "error"] ["_law_text"] (defScope s__law_heard) := ⟨rfl, rfl, rfl, by decide +kernel, rfl, by decide +kernel, by decide +kernel⟩
abbrev s_law : Stmt := top 40
theorem sc_law : FnScope ["_law_script", "_law_draw", "_law_some", "_law_turn", "_law_names", "_law_history", "_law_item", "_law_lap", "_law_text", "_law_bend", "_law_heard_here", "_law_odd"] ["_law_script"] (defScope s_law) := ⟨rfl, rfl, rfl, by decide +kernel, rfl, by decide +kernel, by decide +kernel⟩
end WP
namespace WP
open PySem L2
local macro_rules | `(tactic| walk_at "fact") => `(tactic| first | with_reducible rfl | assumption | exact ⟨_, SqL.of (by assumption)⟩ | exact ⟨_, by assumption⟩ | exact Or.inl ⟨rfl, _, SqL.of (by assumption)⟩ | exact dg_rest (by assumption) | exact dg_turn (by assumption) | exact dg_cells (by assumption) | exact dg_wide (by assumption) | decide | omega | exact Or.inl ⟨by decide, by decide⟩ | exact Or.inr ⟨by decide, by decide⟩ | exact ⟨by decide, by decide⟩ | exact ⟨by omega, by omega⟩ | rfl)
local macro_rules | `(tactic| walk_at "rd") => `(tactic| first | refine ⟨_, rfl, ?_⟩ | refine ⟨_, _, rfl, rfl, ?_⟩ | refine ⟨_, _, rfl, by walk_at "fact", ?_⟩ | refine And.intro (by walk_at "fact") ?_ | refine Or.inl ⟨_, rfl, ?_⟩)
local macro_rules | `(tactic| walk_at "rds") => `(tactic| repeat walk_at "rd")
section
variable {P : Program} {w : World} {K : PySem.W.Frag} {mg : Str → Option Value} {base : Heap}
theorem ok_blend {f : Addr} {fd : FuncData} (F : Fun K "_law_blend" "_law_blend" s__law_blend f fd) (T : Bi mg) : FnOk P w K mg base CX0 1 f fd ["_law_draw"] spBlend := by
  refine F.ok sc__law_blend (fun vs H Q E h => ?_) (fun cdv A outer s H vs Q E hr h => ?_)
  · obtain ⟨d, w, c, B, rfl, _⟩ := h
    rfl
  · obtain ⟨d, w, c, B, rfl, D, hB, k⟩ := h
    have hu := hu_of hr
    have nd := sc__law_blend.nd
    refine ⟨_, pss_cons (ps_dput hu (pv 0) pe_str (pe_op op_add (pe_dget hu (pv 0) pe_str (fun _ _ => rfl)) pe_int) rfl)
      (pss_cons (ps_set (i := 1) nd rfl (by first | exact Or.inl rfl | exact Or.inr rfl) pe_int)
      (pss_cons (ps_for PassesOwn.never rfl (pi_list (pe_lst (pa_cons pe_int (pa_cons pe_int (pa_cons pe_int (pa_cons pe_int (pa_cons pe_int (pa_cons pe_int pa_nil)))))))) (pg_name (i := 2) nd rfl (by first | exact Or.inl rfl | exact Or.inr rfl)) (pss_cons (ps_set (i := 3) nd rfl (by first | exact Or.inl rfl | exact Or.inr rfl) (pe_op op_add (pe_op op_mul pe_int (pe_dget hu (pv 0) pe_str (fun _ _ => rfl))) (pe_op op_fdiv (pv 2) pe_int)))
      (pss_cons (ps_for PassesOwn.never rfl (pi_list (pe_dget hu (pv 0) pe_str (fun _ _ => rfl))) (pg_name (i := 4) nd rfl (by first | exact Or.inl rfl | exact Or.inr rfl)) (pss_one (ps_set (i := 3) nd rfl (by first | exact Or.inl rfl | exact Or.inr rfl) (pe_op op_mod (pe_callTy call_int1 (by rfl) T.int (by decide +kernel) (pa_cons (pe_op op_add (pe_op op_mul (pv 3) pe_int) (pv 4)) pa_nil)) (pv 2)))))
      (pss_one (ps_set (i := 1) nd rfl (by first | exact Or.inl rfl | exact Or.inr rfl) (pe_op op_add (pe_op op_mul (pv 1) pe_int) (pe_op op_mod (pe_callTy call_int1 (by rfl) T.int (by decide +kernel) (pa_cons (pe_op op_pow (pv 3) pe_int) pa_nil)) (pv 2))))))))
      (pss_one (ps_ret (pv 1))))), ?_⟩
    obtain ⟨r, t, hd, ht0, ht⟩ := D.dict
    refine ⟨_, rfl, _, _, rfl, dg_turn hd, _, _, rfl, rfl, _, rfl, _, _, rfl, dp_turn _ hd, ?_⟩
    have D1 : Dr d w c (B + 1) (upd H d (drD w c r (t + 1))) := D.newD (by omega) (by omega)
    have S1 : Same (hd2 d w H) (hd2 d w (upd H d (drD w c r (t + 1)))) := hd2_d
    generalize upd H d (drD w c r (t + 1)) = H1 at D1 S1
    refine ⟨(by show 6 ≤ sizeLine; decide), fun L hL => ⟨L, rfl, ⟨_, SqL.of upd_same⟩, ?_⟩⟩
    have D2 := D1.new (o := .lst ([2147483629, 2147483587, 2147483579, 2147483563, 2147483549, 2147483543].map V.int)) hL
    have S2 := S1.trans (hd2_new (o := .lst ([2147483629, 2147483587, 2147483579, 2147483563, 2147483549, 2147483543].map V.int)) hL)
    refine for_list (K := K) (a := L) (xs := [2147483629, 2147483587, 2147483579, 2147483563, 2147483549, 2147483543].map V.int)
      (fun i σ H2 => H2 = upd H1 L (.lst ([2147483629, 2147483587, 2147483579, 2147483563, 2147483549, 2147483543].map V.int)) ∧ ∃ (z : Int) (v1 v2 v3 : Option V), σ = [some (.ref d), some (.int z), v1, v2, v3])
      ⟨rfl, 0, _, _, _, rfl⟩ (fun i σ H2 _ h => by rw [h.1]; exact SqL.of upd_same) ?_ ?_
    · rintro i x σ H2 hi ⟨rfl, z, v1, v2, v3, rfl⟩
      obtain ⟨p, hp, rfl⟩ := at_map hi
      have hb : 0 < p ∧ p < 2 ^ 31 := by
        have := at_mem hp
        simp only [List.mem_cons, List.not_mem_nil, or_false] at this
        omega
      obtain ⟨r2, t2, hd2, ht20, ht2⟩ := D2.dict
      obtain ⟨ms, hc⟩ := D2.cells
      have hc := (hd2_of hc).1
      walk_at "rds"
      refine for_list (K := K) (a := c) (xs := ms.map V.int)
        (fun i σ H2 => H2 = upd H1 L (.lst ([2147483629, 2147483587, 2147483579, 2147483563, 2147483549, 2147483543].map V.int)) ∧ ∃ (y : Int) (v3 : Option V), (0 ≤ y ∧ y < 2 ^ 60) ∧ σ = [some (.ref d), some (.int z), some (.int p), some (.int y), v3])
        ?_ (fun i σ H2 _ h => by rw [h.1]; exact SqL.of hc) ?_ ?_
      · exact ⟨rfl, _, _, ⟨by omega, by omega⟩, rfl⟩
      · rintro j x σ H2 hj ⟨rfl, y, v4, hy, rfl⟩
        obtain ⟨n, hn, rfl⟩ := at_map hj
        walk_at "rds"
        have m0 := Int.emod_nonneg (y * 69623 + n) (show p ≠ 0 by omega)
        have m1 := Int.emod_lt_of_pos (y * 69623 + n) hb.1
        exact ⟨_, _, ⟨m0, by omega⟩, rfl⟩
      · rintro σ H2 ⟨rfl, y, v4, hy, rfl⟩
        walk_at "rds"
        exact ⟨_, _, _, _, rfl⟩
    · rintro σ H2 ⟨rfl, z, v1, v2, v3, rfl⟩
      exact ⟨_, rfl, k _ _ D2 S2⟩
theorem ok_begun {f : Addr} {fd : FuncData} (F : Fun K "_law_begun" "_law_begun" s__law_begun f fd) (T : Bi mg) : FnOk P w K mg base CX0 1 f fd ["_law_script"] (spBegun K) := by
  refine F.ok sc__law_begun (fun vs H Q E h => ?_) (fun cdv A outer s H vs Q E hr h => ?_)
  · obtain ⟨a, ns, rfl, _⟩ := h
    rfl
  · obtain ⟨a, ns, rfl, hS, hl, k⟩ := h
    have hu := hu_of hr
    have nd := sc__law_begun.nd
    refine ⟨_, pss_cons (ps_setLc (i := 1) (own := [("_law_cell", 2)]) (g := gName 2) rfl nd rfl rfl (sw_true rfl rfl rfl (by decide +kernel)) (pi_list (pv 0)) (blkOk_by (own := [("_law_cell", 2)]) (N := ["_law_script", "_law_wide", "_law_cell"]) (sc := defScope s__law_begun) (by decide +kernel)) (fun _ _ _ _ _ => (pg_name (i := 2) nd rfl (by first | exact Or.inl rfl | exact Or.inr rfl))) (fun _ _ _ _ _ => (pts_one (pt_cmpR op_ge (pv 2) (pe_op op_pow pe_int pe_int) (nomark _)))) (fun _ _ _ _ _ => (pe_op op_sub (pv 2) (pe_op op_pow pe_int pe_int))))
      (pss_one (ps_ret (pe_disp (pps_cons pe_str (pv 1) (pps_cons pe_str (pe_callTy call_list_of (by rfl) T.list (by decide +kernel) (pa_cons (pv 0) pa_nil)) (pps_cons pe_str pe_int (pps_cons pe_str pe_int pps_nil)))) (by rfl) (by rfl) (fun z => by cases z) (by decide)))), ?_⟩
    refine ⟨_, rfl, a, rfl, ⟨_, hS⟩, fun w hw => ?_⟩
    refine lc_list (K := K) (a := a) (xs := ns.map V.int) (fun i H1 => Same H H1 ∧ ∃ ms : List Int, H1 w = some (.lst (ms.map V.int)) ∧ ms.length ≤ i) ?_ (fun i H1 _ h => h.1.seq hS) ?_ ?_
    · exact ⟨Evl.Ex.new hw, [], upd_same, Nat.le_refl _⟩
    · rintro i x H1 hi ⟨S1, ms, h1, hm⟩
      obtain ⟨z, hz, rfl⟩ := at_map hi
      have hil : i < ns.length := (List.getElem?_eq_some_iff.mp hz).1
      refine ⟨rfl, _, rfl, _, _, rfl, rfl, ⟨by decide, by decide, by decide⟩, _, _, rfl, rfl, _, rfl, ?_⟩
      refine ite2 (fun _ => ?_) (fun _ => ?_)
      · refine ⟨_, rfl, _, _, rfl, rfl, ⟨by decide, by decide, by decide⟩, _, _, rfl, rfl, _, h1, by rw [List.length_map]; exact small1000 (by omega), ?_⟩
        refine ⟨Evl.Ex.mut S1 hw, ms ++ [z - 10 ^ (Int.toNat 18)], ?_, ?_⟩
        · rw [upd_same, List.map_append]; rfl
        · rw [List.length_append]; show ms.length + 1 ≤ i + 1; omega
      · exact ⟨S1, ms, h1, by omega⟩
    · rintro H1 ⟨S1, ms, h1, hm⟩
      intro d hd
      refine ⟨_, rfl, _, rfl, a, _, rfl, .inl ((S1.trans (Evl.Ex.new hd)).seq hS), fun c hc => ?_⟩
      have ndc : d ≠ c := ne_of_none (show upd H1 d (.dK []) d = some (.dK []) from upd_same) hc
      have nwd : w ≠ d := ne_of_none h1 hd
      have hw1 : upd (upd H1 d (.dK [])) c (.lst (ns.map V.int)) w = some (.lst (ms.map V.int)) := by
        rw [upd_ne (ne_of_none (o := .lst (ms.map V.int)) (by rw [upd_ne nwd]; exact h1) hc), upd_ne nwd]
        exact h1
      have nwc : w ≠ c := ne_of_none (o := .lst (ms.map V.int)) (by rw [upd_ne nwd]; exact h1) hc
      refine ⟨by rw [upd_ne ndc, upd_same], [((.inr "wide" : Key), .ref w), (.inr "cells", .ref c), (.inr "rest", .int 0), (.inr "turn", .int 0)], rfl, (by show 4 ≤ 15; decide), ?_⟩
      rw [dr_merge]
      refine k d w c _ ⟨⟨0, 0, upd_same, by decide, by decide⟩, ⟨ms, by rw [upd_ne nwd]; exact hw1⟩, ⟨ns, ?_⟩⟩ fun b o e => ?_
      · exact hd2_mk (by rw [upd_ne ndc.symm, upd_same]) ndc.symm nwc.symm
      · have e1 := S1 b o e
        have e2 : b ≠ d := ne_of_none e1 hd
        have e3 : b ≠ c := ne_of_none (o := o) (by rw [upd_ne e2]; exact e1) hc
        exact hd2_mk (by rw [upd_ne e2, upd_ne e3, upd_ne e2]; exact e1) e2 (ne_of_none e hw)
theorem ok_take {f : Addr} {fd : FuncData} (F : Fun K "_law_take" "_law_take" s__law_take f fd) (T : Bi mg) (D__law_blend : Dn P w K mg base CX0 1 "_law_blend" ["_law_draw"] spBlend) : FnOk P w K mg base CX0 2 f fd ["_law_draw", "_law_size"] spTake := by
  refine F.ok sc__law_take (fun vs H Q E h => ?_) (fun cdv A outer s H vs Q E hr h => ?_)
  · obtain ⟨d, w, c, B, n, rfl, _⟩ := h
    rfl
  · obtain ⟨d, w, c, B, n, rfl, D, hB, n0, n1, k⟩ := h
    have hu := hu_of hr
    have nd := sc__law_take.nd
    refine ⟨_, Evl.pss_cut (ps_if (pt_cmpR op_eq (pe_dget hu (pv 0) pe_str (fun _ _ => rfl)) pe_int (nomark _)) (pss_one (ps_dput hu (pv 0) pe_str (pe_ifExp (pt_cmpR (op_neD hr.units) (pe_dget hu (pv 0) pe_str (fun _ _ => rfl)) (pe_lst pa_nil) (nomark _)) (pe_bm PySem.F.plainAttrs_list PySem.F.slot_list_pop PySem.F.type_list_pop mt_popAt (pe_dget hu (pv 0) pe_str (fun _ _ => rfl)) (pa_cons pe_int pa_nil)) (pe_d D__law_blend (hr.mono (by decide)) pass0 (pa_cons (pv 0) pa_nil))) rfl)) pss_nil)
      (pss_cons (ps_set (i := 2) nd rfl (by first | exact Or.inl rfl | exact Or.inr rfl) (pe_op op_mod (pe_callTy call_int1 (by rfl) T.int (by decide +kernel) (pa_cons (pe_dget hu (pv 0) pe_str (fun _ _ => rfl)) pa_nil)) (pv 1)))
      (pss_cons (ps_dput hu (pv 0) pe_str (pe_op op_fdivW (pe_dget hu (pv 0) pe_str (fun _ _ => rfl)) (pv 1)) rfl)
      (pss_one (ps_ret (pv 2))))), ?_⟩
    obtain ⟨r, t, hd, ht0, ht⟩ := D.dict
    refine ⟨fun σ H1 => ∃ r t, σ = [some (.ref d), some (.int n), none] ∧ H1 d = some (drD w c r t) ∧ 0 ≤ t ∧ t ≤ B + 1 ∧ Dr d w c (B + 1) H1 ∧ Same (hd2 d w H) (hd2 d w H1), ?_, ?_⟩
    · walk_at "rds"
      refine ite2 (fun h => ?_) (fun h => ?_)
      · obtain ⟨ns, hw⟩ := D.wide
        walk_at "rds"
        refine fun p hp => neNilI hw hp ?_
        have hd' : upd H p (.lst []) d = some (drD w c r t) := by rw [upd_ne (ne_of_none hd hp)]; exact hd
        have hw' : upd H p (.lst []) w = some (.lst (ns.map V.int)) := by rw [upd_ne (ne_of_none hw hp)]; exact hw
        have D' : Dr d w c B (upd H p (.lst [])) := D.new hp
        have S' : Same (hd2 d w H) (hd2 d w (upd H p (.lst []))) := hd2_new hp
        generalize upd H p (.lst []) = H1 at *
        walk_at "rds"
        cases ns with
        | nil =>
          refine iteF ?_
          walk_at "rds"
          refine ⟨d, w, c, B, rfl, D', hB, fun r2 H2 D2 S2 => ?_⟩
          obtain ⟨r3, t3, hd3, ht30, ht3⟩ := D2.dict
          refine ⟨_, rfl, _, _, rfl, dp_rest _ hd3, ?_⟩
          exact ⟨_, _, rfl, upd_same, ht30, ht3, D2.newD ht30 ht3, (S'.trans S2).trans hd2_d⟩
        | cons z ns =>
          refine iteT ?_
          walk_at "rds"
          refine ⟨w, _, _, 0, _, rfl, rfl, hw', by decide, by decide, seq0, rfl, _, rfl, _, _, rfl, dp_rest _ (by rw [upd_ne (ne_of hd' hw' (by intro z; cases z))]; exact hd'), ?_⟩
          have D2 := (D'.newW (ns := ns)).newD (B' := B + 1) (r' := z) ht0 (by omega)
          exact ⟨_, _, rfl, upd_same, ht0, by omega, D2, (S'.trans hd2_w).trans hd2_d⟩
      · exact ⟨r, t, rfl, hd, ht0, by omega, D.mono (by omega), Same.refl _⟩
    · rintro σ H1 ⟨r, t, rfl, hd, ht0, ht, D1, S1⟩
      walk_at "rds"
      refine ⟨⟨n0, ?_⟩, _, rfl, _, _, rfl, dp_rest _ hd, _, rfl, ?_⟩
      · exact Nat.lt_of_lt_of_le (PySem.Flt.log2_lt_of (k := 200) (by decide) (by omega)) (by decide)
      · exact k _ _ (Int.emod_nonneg _ (by omega)) (Int.emod_lt_of_pos _ n0) (D1.newD ht0 ht) (S1.trans hd2_d)
theorem ok_pick {f : Addr} {fd : FuncData} (F : Fun K "_law_pick" "_law_pick" s__law_pick f fd) (T : Bi mg) (D__law_take : Dn P w K mg base CX0 2 "_law_take" ["_law_draw", "_law_size"] spTake) : FnOk P w K mg base CX0 3 f fd ["_law_draw", "_law_some"] (spPick K) := by
  refine F.ok sc__law_pick (fun vs H Q E h => ?_) (fun cdv A outer s H vs Q E hr h => ?_)
  · obtain ⟨d, w, c, B, _, _, ⟨a, xs, rfl, _⟩ | ⟨z, rfl, _⟩⟩ := h
    · rfl
    · rfl
  · obtain ⟨d, w, c, B, D, hB, h⟩ := h
    have hu := hu_of hr
    have nd := sc__law_pick.nd
    refine ⟨_, pss_one (ps_ret (pe_ix ix_seq (pv 1) (pe_d D__law_take (hr.mono (by decide)) pass0 (pa_cons (pv 0) (pa_cons (pe_callB call_len (by rfl) T.len (by decide +kernel) (pa_cons (pv 1) pa_nil)) pa_nil))) (fun _ _ => rfl))), ?_⟩
    rcases h with ⟨a, xs, rfl, hS, hne, hl, k⟩ | ⟨z, rfl, hz, hz2, k⟩
    · have hS' := hd2_sub.seq hS
      refine ⟨_, rfl, _, rfl, _, rfl, _, _, rfl, .inl ⟨_, hS', rfl⟩, ?_⟩
      have h0 : 0 < xs.length := List.length_pos_iff.mpr hne
      refine ⟨d, w, c, B, _, rfl, D, hB, by omega, by omega, fun j H1 j0 j1 D1 S1 => ?_⟩
      have hj : j.toNat < xs.length := by omega
      refine .inl ⟨a, xs, j, xs[j.toNat], rfl, rfl, hd2_sub.seq (S1.seq hS), at_of (j := j.toNat) (by omega) (by simp [hj]), ?_⟩
      exact k j.toNat _ _ (by simp [hj]) D1 S1
    · refine ⟨_, rfl, _, rfl, _, rfl, _, _, rfl, ⟨hz2, rfl⟩, ?_⟩
      have h0 : z.length < 2 ^ 60 := Nat.lt_of_le_of_lt hz2 (by rw [sizeLine_eq]; decide)
      refine ⟨d, w, c, B, _, rfl, D, hB, by omega, by omega, fun j H1 j0 j1 D1 S1 => ?_⟩
      have e : z.cps.toList.length = z.length := by simp [Str.length]
      have hj : j.toNat < z.cps.toList.length := by omega
      refine .inr (.inr ⟨z, j, z.cps.toList[j.toNat], rfl, rfl, hz2, ?_, ?_⟩)
      · have q := atI_nat (xs := z.cps.toList) (j := j.toNat) (v := z.cps.toList[j.toNat]) (List.getElem?_eq_getElem hj)
        have e2 : ((j.toNat : Nat) : Int) = j := by omega
        rw [e2] at q
        exact q
      · exact k j.toNat _ _ (List.getElem?_eq_getElem hj) D1 S1
end
end WP
namespace WP
open PySem L2
def spIsName (K : PySem.W.Frag) : Sp := fun vs H Q _ => ∃ (v : V) (k : Kd), vs = [v] ∧ Any K H v k ∧ (∀ z, v = .str z → z.length ≤ sizeLine) ∧ ∀ H', Same H H' → Q (.bl (isNameV v)) H'
def spIsNumber (K : PySem.W.Frag) : Sp := fun vs H Q _ => ∃ (v : V) (k : Kd), vs = [v] ∧ Any K H v k ∧ ∀ H', Same H H' → Q (.bl (isNumV v)) H'
def spIsList (K : PySem.W.Frag) : Sp := fun vs H Q _ => ∃ (v : V) (k : Kd), vs = [v] ∧ Any K H v k ∧ ∀ H', Same H H' → Q (.bl (k.isLst || k.isTup)) H'
def spIsTicks (K : PySem.W.Frag) : Sp := fun vs H Q _ => ∃ (v : V) (k : Kd), vs = [v] ∧ Any K H v k ∧ ∀ H', Same H H' → Q (.bl (isTicksV v)) H'
section
variable {P : Program} {w : World} {K : PySem.W.Frag} {mg : Str → Option Value} {base : Heap}
theorem ok_is_number {f : Addr} {fd : FuncData} (F : Fun K "is_number" "is_number" s_is_number f fd) (T : Bi mg) : FnOk P w K mg base CX0 1 f fd ["value"] (spIsNumber K) := by
  refine F.ok sc_is_number (fun vs H Q E h => ?_) (fun cdv A outer s H vs Q E hr h => ?_)
  · obtain ⟨v, k, rfl, _⟩ := h
    rfl
  · obtain ⟨v, k, rfl, h, q⟩ := h
    have nd := sc_is_number.nd
    refine ⟨_, pss_one (ps_ret (pe_and (pe_callB call_isi (by rfl) T.isinstance (by decide +kernel) (pa_cons (pv 0) (pa_cons (n_int T) pa_nil))) (pe_one (pe_not (pe_callB call_isi (by rfl) T.isinstance (by decide +kernel) (pa_cons (pv 0) (pa_cons (n_bool T) pa_nil))))))), ?_⟩
    refine ⟨_, rfl, v, .ty "int", k.ty, _, _, rfl, .ty "int", h.tyx, h.kInt, _, rfl, ?_⟩
    have q := q H (Same.refl H)
    cases h with
    | int i => exact iteT ⟨_, rfl, _, _, _, _, _, rfl, .ty "bool", (Any.int i : Any K H _ _).tyx, (Any.int i : Any K H _ _).kBl, _, rfl, q⟩
    | bl b => exact iteT ⟨_, rfl, _, _, _, _, _, rfl, .ty "bool", (Any.bl b : Any K H _ _).tyx, (Any.bl b : Any K H _ _).kBl, _, rfl, q⟩
    | _ => exact iteF q
theorem ok_is_list {f : Addr} {fd : FuncData} (F : Fun K "is_list" "is_list" s_is_list f fd) (T : Bi mg) : FnOk P w K mg base CX0 1 f fd ["value"] (spIsList K) := by
  refine F.ok sc_is_list (fun vs H Q E h => ?_) (fun cdv A outer s H vs Q E hr h => ?_)
  · obtain ⟨v, k, rfl, _⟩ := h
    rfl
  · obtain ⟨v, k, rfl, h, q⟩ := h
    have nd := sc_is_list.nd
    refine ⟨_, pss_one (ps_ret (pe_callB call_isiT (by rfl) T.isinstance (by decide +kernel) (pa_cons (pv 0) (pa_cons (pe_tup (pa_cons (n_list T) (pa_cons (n_tuple T) pa_nil))) pa_nil)))), ?_⟩
    refine ⟨_, rfl, (by show 2 ≤ sizeLine; decide), fun p hp => ⟨v, p, _, k.ty, _, _, rfl, upd_same, .cons (.ty "list") (.cons (.ty "tuple") .nil), (h.same (Evl.Ex.new hp)).tyx, h.kSeq, ?_⟩⟩
    exact q _ (Evl.Ex.new hp)
theorem ok_is_name {f : Addr} {fd : FuncData} (F : Fun K "is_name" "is_name" s_is_name f fd) (T : Bi mg) (G_LETTERS : ∃ t, mg "LETTERS" = some (.str alphabet t)) (G_LONGEST_NAME : ∃ t, mg "LONGEST_NAME" = some (.int 8 t)) : FnOk P w K mg base CX0 1 f fd ["value"] (spIsName K) := by
  refine F.ok sc_is_name (fun vs H Q E h => ?_) (fun cdv A outer s H vs Q E hr h => ?_)
  · obtain ⟨v, k, rfl, _⟩ := h
    rfl
  · obtain ⟨v, k, rfl, h, hz, q⟩ := h
    have nd := sc_is_name.nd
    refine ⟨_, pss_cons (ps_if (PW.pt (pw_or (pt_not (pt_val (pe_callB call_isi (by rfl) T.isinstance (by decide +kernel) (pa_cons (pv 0) (pa_cons (n_str T) pa_nil))))) (pw_or1 (pt_not (pt_chain op_le op_le pe_int (pe_callB call_len (by rfl) T.len (by decide +kernel) (pa_cons (pv 0) pa_nil)) (gInt G_LONGEST_NAME)))))) (pss_one (ps_ret pe_bl)) pss_nil)
      (pss_one (ps_ret (pe_callB (cr_all rfl) (by rfl) T.all (by decide +kernel) (pa_cons (pe_lc (own := [("letter", 1)]) (g := gName 1) rfl nd (pi_str (pv 0)) (blkOk_by (own := [("letter", 1)]) (N := ["value", "letter"]) (sc := defScope s_is_name) (by decide +kernel)) (fun _ _ _ _ _ => (pg_name (i := 1) nd rfl (by first | exact Or.inl rfl | exact Or.inr rfl))) (fun _ _ _ _ _ => pts_nil) (fun _ _ _ _ _ => (pe_cmpR op_in_sign (pv 1) (gStr G_LETTERS) (by rfl)))) pa_nil)))), ?_⟩
    refine ⟨_, rfl, v, .ty "str", k.ty, _, _, rfl, .ty "str", h.tyx, h.kStr, _, rfl, ?_⟩
    cases h with
    | str z =>
      refine iteF ?_
      refine ⟨_, rfl, _, _, rfl, ⟨hz z rfl, rfl⟩, _, _, rfl, rfl, _, rfl, ?_⟩
      have fin : isNameV (.str z) = false → Q (.bl false) H := fun e => by
        have := q H (Same.refl H)
        rw [e] at this
        exact this
      refine ite2 (fun h1 => ?_) (fun h1 => ?_)
      · refine ⟨_, _, rfl, rfl, _, rfl, ?_⟩
        refine ite2 (fun h2 => ?_) (fun h2 => ?_)
        · refine fin ?_
          simp only [Bool.not_eq_true', decide_eq_false_iff_not] at h2
          simp [isNameV, isNameS, h2]
        · simp only [Bool.not_eq_true', decide_eq_false_iff_not, Decidable.not_not, decide_eq_true_eq] at h1 h2
          have hsz : z.cps.size = z.length := rfl
          refine ⟨_, rfl, z, rfl, fun D hD => ?_⟩
          refine lc_it walk_str (PvL H D (fun i => z.cps.toList[i]?.map fun c => V.bl (decide (c ∈ alphabet.cps.toList)))) (pv_0 hD) (fun _ _ _ _ => trivial) ?_ ?_
          · rintro i x H1 H2 hi p ⟨rfl, c, hc, rfl⟩
            refine ⟨rfl, ?_⟩
            refine ⟨_, rfl, _, _, rfl, rfl, ?_⟩
            exact pv_in p (Same.refl _) (by simp only [Array.getElem?_toList, hc, Option.map_some]) (by omega)
          · intro H1 p
            have p3 := p.2.2
            have e : z.cps.size = z.cps.toList.length := by simp
            rw [e, fm_range] at p3
            refine ⟨D, z.cps.toList.map (fun c => decide (c ∈ alphabet.cps.toList)), rfl, SqL.of (by rw [p3, List.map_map]; rfl), ?_⟩
            have r := q H1 p.1
            have e2 : isNameV (.str z) = (z.cps.toList.map (fun c => decide (c ∈ alphabet.cps.toList))).all id := by
              simp [isNameV, isNameS, h1, h2, List.all_map]
            rw [e2] at r
            exact r
      · refine ⟨_, rfl, ?_⟩
        refine iteT (fin ?_)
        simp only [decide_eq_true_eq] at h1
        simp [isNameV, isNameS, h1]
    | _ => exact iteT (q H (Same.refl H))
end
end WP
namespace WP
open PySem L2
open TL (tl)
def spIsNumeral : Sp := fun vs H Q _ => ∃ z : Str, vs = [.str z] ∧ z.length ≤ sizeLine ∧ ∀ H', Same H H' → Q (.bl (isNumS z)) H'
def spIsPart (K : PySem.W.Frag) : Sp := fun vs H Q _ => ∃ (z : Str) (v : V) (k : Kd), vs = [.str z, v] ∧ Any K H v k ∧ (∀ z, v = .str z → z.length ≤ sizeLine) ∧ ∀ H', Same H H' → Q (.bl (isPartV z v)) H'
section
variable {P : Program} {w : World} {K : PySem.W.Frag} {mg : Str → Option Value} {base : Heap}
theorem ok_is_numeral {f : Addr} {fd : FuncData} (F : Fun K "is_numeral" "is_numeral" s_is_numeral f fd) (T : Bi mg) (G_DIGITS : ∃ t, mg "DIGITS" = some (.str digits t)) (G_MOST_DIGITS : ∃ t, mg "MOST_DIGITS" = some (.int 18 t)) : FnOk P w K mg base CX0 1 f fd ["word"] spIsNumeral := by
  refine F.ok sc_is_numeral (fun vs H Q E h => ?_) (fun cdv A outer s H vs Q E hr h => ?_)
  · obtain ⟨z, rfl, _⟩ := h
    rfl
  · obtain ⟨z, rfl, hz, q⟩ := h
    have nd := sc_is_numeral.nd
    have hsz : z.cps.size = z.length := rfl
    have fin : ∀ H', Same H H' → isNumS z = false → Q (.bl false) H' := fun H' s e => by
      have := q H' s
      rw [e] at this
      exact this
    refine ⟨_, pss_cons (ps_if (PW.pt (pw_or (pt_not (pt_chain op_le op_le pe_int (pe_callB call_len (by rfl) T.len (by decide +kernel) (pa_cons (pv 0) pa_nil)) (gInt G_MOST_DIGITS))) (pw_or1 (pt_not (pt_val (pe_callB (cr_all rfl) (by rfl) T.all (by decide +kernel) (pa_cons (pe_lc (own := [("sign", 1)]) (g := gName 1) rfl nd (pi_str (pv 0)) (blkOk_by (own := [("sign", 1)]) (N := ["word", "sign"]) (sc := defScope s_is_numeral) (by decide +kernel)) (fun _ _ _ _ _ => (pg_name (i := 1) nd rfl (by first | exact Or.inl rfl | exact Or.inr rfl))) (fun _ _ _ _ _ => pts_nil) (fun _ _ _ _ _ => (pe_cmpR op_in_sign (pv 1) (gStr G_DIGITS) (by rfl)))) pa_nil))))))) (pss_one (ps_ret pe_bl)) pss_nil)
      (pss_one (ps_ret (pe_or (pe_cmpR op_eq (pv 0) pe_str (nomark _)) (pe_one (pe_cmpR op_ne (pe_ix ix_str (pv 0) pe_int (fun _ _ => rfl)) pe_str (nomark _)))))), ?_⟩
    refine ⟨_, rfl, _, _, rfl, ⟨hz, rfl⟩, _, _, rfl, rfl, _, rfl, ?_⟩
    refine ite2 (fun h1 => ?_) (fun h1 => ?_)
    · refine ⟨_, _, rfl, rfl, _, rfl, ?_⟩
      refine ite2 (fun h2 => ?_) (fun h2 => ?_)
      · refine fin H (Same.refl H) ?_
        simp only [Bool.not_eq_true', decide_eq_false_iff_not] at h2
        simp [isNumS, h2]
      · simp only [Bool.not_eq_true', decide_eq_false_iff_not, Decidable.not_not, decide_eq_true_eq] at h1 h2
        refine ⟨_, rfl, z, rfl, fun D hD => ?_⟩
        refine lc_it walk_str (PvL H D (fun i => z.cps.toList[i]?.map fun c => V.bl (decide (c ∈ tl digits)))) (pv_0 hD) (fun _ _ _ _ => trivial) ?_ ?_
        · rintro i x H1 H2 hi p ⟨rfl, c, hc, rfl⟩
          refine ⟨rfl, ?_⟩
          refine ⟨_, rfl, _, _, rfl, rfl, ?_⟩
          exact pv_in p (Same.refl _) (by simp only [Array.getElem?_toList, hc, Option.map_some]) (by omega)
        · intro H1 p
          have p3 := p.2.2
          have e : z.cps.size = z.cps.toList.length := by simp
          rw [e, fm_range] at p3
          refine ⟨D, z.cps.toList.map (fun c => decide (c ∈ tl digits)), rfl, SqL.of (by rw [p3, List.map_map]; rfl), ?_⟩
          have e2 : (z.cps.toList.map (fun c => decide (c ∈ tl digits))).all id = (tl z).all (fun c => decide (c ∈ tl digits)) := by rw [List.all_map]; rfl
          rw [e2]
          refine ⟨_, rfl, ?_⟩
          cases e3 : (tl z).all (fun c => decide (c ∈ tl digits)) with
          | false =>
            refine iteT (fin H1 p.1 ?_)
            simp only [isNumS, e3, Bool.and_false, Bool.false_and]
          | true =>
            refine iteF ?_
            have r := q H1 p.1
            have e4 : isNumS z = (decide (z = "0") || !head0 z) := by simp only [isNumS, h1, h2, e3, decide_true, Bool.true_and]
            rw [e4] at r
            refine ⟨_, rfl, rfl, _, rfl, ?_⟩
            refine ite2 (fun h3 => ?_) (fun h3 => ?_)
            · simp only [decide_eq_true_eq] at h3
              have h3 : z = "0" := V.str.inj h3
              simp only [h3, decide_true, Bool.true_or] at r ⊢
              exact r
            · simp only [decide_eq_true_eq] at h3
              have h3 : ¬ z = "0" := fun e => h3 (by rw [e])
              have h4 : 0 < (tl z).length := by rw [← TL.len_tl]; omega
              refine ⟨_, rfl, z, 0, (tl z)[0], rfl, rfl, hz, atI_nat (xs := tl z) (j := 0) (by simp [h4]), rfl, ?_⟩
              simp only [h3, decide_false, Bool.false_or, head0] at r
              have e5 : (tl z).head? = some (tl z)[0] := by rw [List.head?_eq_getElem?]; simp [h4]
              rw [e5] at r
              have e6 : decide (V.str ⟨#[(tl z)[0]]⟩ = V.str "0") = ((some (tl z)[0] : Option Nat) == some 48) := by
                rw [Bool.eq_iff_iff]
                simp only [decide_eq_true_eq, beq_iff_eq, Option.some.injEq]
                exact ⟨fun e => by have := congrArg tl (V.str.inj e); rw [show tl "0" = [48] by decide +kernel] at this; exact (List.cons.inj this).1, fun e => by rw [e]; rfl⟩
              rw [← e6] at r
              exact r
    · refine ⟨_, rfl, ?_⟩
      refine iteT (fin H (Same.refl H) ?_)
      simp only [decide_eq_true_eq] at h1
      simp [isNumS, h1]
theorem ok_is_part {f : Addr} {fd : FuncData} (F : Fun K "is_part" "is_part" s_is_part f fd) (T : Bi mg) (D_is_name : Dn P w K mg base CX0 1 "is_name" ["value"] (spIsName K)) (D_is_number : Dn P w K mg base CX0 1 "is_number" ["value"] (spIsNumber K)) (G_MOST_NUMBER : ∃ t, mg "MOST_NUMBER" = some (.int 999999999999999999 t)) : FnOk P w K mg base CX0 2 f fd ["sort", "value"] (spIsPart K) := by
  refine F.ok sc_is_part (fun vs H Q E h => ?_) (fun cdv A outer s H vs Q E hr h => ?_)
  · obtain ⟨z, v, k, rfl, _⟩ := h
    rfl
  · obtain ⟨z, v, k, rfl, h, hz, q⟩ := h
    have nd := sc_is_part.nd
    refine ⟨_, pss_cons (ps_if (pt_cmpR op_eq (pv 0) pe_str (nomark _)) (pss_one (ps_ret (pe_d D_is_name (hr.mono (by decide)) pass0 (pa_cons (pv 1) pa_nil)))) pss_nil)
      (pss_one (ps_ret (pe_and (pe_d D_is_number (hr.mono (by decide)) pass0 (pa_cons (pv 1) pa_nil)) (pe_one (pe_chain op_le op_le (pe_callTy call_int1 (by rfl) T.int (by decide +kernel) (pa_cons (pe_cmpR op_eq (pv 0) pe_str (nomark _)) pa_nil)) (pv 1) (gInt G_MOST_NUMBER)))))), ?_⟩
    refine ⟨_, rfl, rfl, _, rfl, ?_⟩
    refine ite2 (fun h1 => ?_) (fun h1 => ?_)
    · simp only [decide_eq_true_eq] at h1
      have h1 : z = "name" := V.str.inj h1
      subst h1
      refine ⟨_, rfl, v, k, rfl, h, hz, fun H1 S1 => ?_⟩
      have r := q H1 S1
      unfold isPartV at r
      rw [if_pos rfl] at r
      exact r
    · simp only [decide_eq_true_eq] at h1
      have h1 : ¬ (z = "name") := fun e => h1 (by rw [e])
      refine ⟨_, rfl, v, k, rfl, h, fun H1 S1 => ⟨_, rfl, ?_⟩⟩
      have r := q H1 S1
      unfold isPartV at r
      rw [if_neg h1] at r
      cases h with
      | int i => 
        refine iteT ?_
        refine ⟨_, rfl, rfl, .inr ⟨_, rfl, _, rfl, _, _, rfl, rfl, _, rfl, ?_⟩⟩
        have e1 : (if decide (V.str z = V.str "ticks") = true then (1 : Int) else 0) = if z = "ticks" then (1 : Int) else 0 := by
          by_cases h : z = "ticks"
          · simp [h]
          · simp [h]
        rw [e1]
        dsimp only at r
        generalize (if z = "ticks" then (1 : Int) else 0) = n at r
        refine ite2 (fun h2 => ?_) (fun h2 => ?_)
        · simp only [decide_eq_true_eq] at h2
          refine ⟨_, _, rfl, rfl, ?_⟩
          simp only [h2, decide_true, Bool.true_and] at r
          exact r
        · simp only [decide_eq_true_eq] at h2
          simp only [h2, decide_false, Bool.false_and] at r
          exact r
      | _ => exact iteF r
def DdV (K : PySem.W.Frag) (H : Hp) (v : V) (k : Kd) (xs : List V) : Prop := Any K H v k ∧ (k.isTup = true → ∃ a, v = .ref a ∧ SqT K H a xs ∧ xs.length ≤ 1000 ∧ ∀ x ∈ xs, ∃ kx, Any K H x kx ∧ ∀ z, x = .str z → z.length ≤ sizeLine)
def spIsDeed (K : PySem.W.Frag) : Sp := fun vs H Q _ => ∃ (v : V) (k : Kd) (xs : List V), vs = [v] ∧ DdV K H v k xs ∧ ∀ H', Same H H' → Q (.bl (k.isTup && isDeedL xs)) H'
theorem ok_is_deed {f aF : Addr} {fd : FuncData} (F : Fun K "is_deed" "is_deed" s_is_deed f fd) (T : Bi mg) (D_is_part : Dn P w K mg base CX0 2 "is_part" ["sort", "value"] (spIsPart K)) (G_FORMS : mg "FORMS" = some (.ref aF)) (FK : FormsK K w aF) : FnOk P w K mg base CX0 3 f fd ["value"] (spIsDeed K) := by
  refine F.ok sc_is_deed (fun vs H Q E h => ?_) (fun cdv A outer s H vs Q E hr h => ?_)
  · obtain ⟨v, k, xs, rfl, _⟩ := h
    rfl
  · obtain ⟨v, k, xs, rfl, ⟨h, ht⟩, q⟩ := h
    have nd := sc_is_deed.nd
    obtain ⟨es, n, DF⟩ := FK.kd
    refine ⟨_, pss_cons (ps_if (PW.pt (pw_or (pt_not (pt_val (pe_callB call_isi (by rfl) T.isinstance (by decide +kernel) (pa_cons (pv 0) (pa_cons (n_tuple T) pa_nil))))) (pw_or (pt_cmpR op_eq (pe_callB call_len (by rfl) T.len (by decide +kernel) (pa_cons (pv 0) pa_nil)) pe_int (nomark _)) (pw_or (pt_not (pt_val (pe_callB call_isi (by rfl) T.isinstance (by decide +kernel) (pa_cons (pe_ix ix_tup (pv 0) pe_int (fun _ _ => rfl)) (pa_cons (n_str T) pa_nil))))) (pw_or1 (pt_cmpR (op_notIn_kd DF) (pe_ix ix_tup (pv 0) pe_int (fun _ _ => rfl)) (gRef G_FORMS) (by rfl))))))) (pss_one (ps_ret pe_bl)) pss_nil)
      (pss_cons (ps_set (i := 1) nd rfl (by first | exact Or.inl rfl | exact Or.inr rfl) (pe_ix ix_kdict (gRef G_FORMS) (pe_ix ix_tup (pv 0) pe_int (fun _ _ => rfl)) (fun _ _ => rfl)))
      (pss_one (ps_ret (pe_and (pe_cmpR op_eq (pe_callB call_len (by rfl) T.len (by decide +kernel) (pa_cons (pv 0) pa_nil)) (pe_op op_add (pe_callB call_len (by rfl) T.len (by decide +kernel) (pa_cons (pv 1) pa_nil)) pe_int) (nomark _)) (pe_one (pe_callB (cr_all rfl) (by rfl) T.all (by decide +kernel) (pa_cons (pe_lc (own := [("sort", 2), ("part", 3)]) (g := gTup K 2 (gCons (gName 2) (gCons (gName 3) gNil))) rfl nd (pi_zipM (by rfl) T.zip (pa_cons (pv 1) (pa_cons (pe_slice sl_tup (pv 0) (po_some pe_int) po_none) pa_nil))) (blkOk_by (own := [("sort", 2), ("part", 3)]) (N := ["value", "sorts", "sort", "part"]) (sc := defScope s_is_deed) (by decide +kernel)) (fun _ _ _ _ _ => (pg_tup rfl (pgs_cons (pg_name (i := 2) nd rfl (by first | exact Or.inl rfl | exact Or.inr rfl)) (pgs_cons (pg_name (i := 3) nd rfl (by first | exact Or.inl rfl | exact Or.inr rfl)) pgs_nil)))) (fun _ _ _ _ _ => pts_nil) (fun _ _ _ _ _ => (pe_d D_is_part (hr.mono (by decide)) pass0 (pa_cons (pv 2) (pa_cons (pv 3) pa_nil))))) pa_nil))))))), ?_⟩
    refine ⟨_, rfl, v, .ty "tuple", k.ty, _, _, rfl, .ty "tuple", h.tyx, h.kTupB, _, rfl, ?_⟩
    have q0 := q H (Same.refl H)
    cases ek : k.isTup with
    | false =>
      rw [ek, Bool.false_and] at q0
      exact iteT q0
    | true =>
      obtain ⟨a, rfl, hS, hl, hx⟩ := ht ek
      simp only [ek, Bool.true_and] at q q0
      refine iteF ?_
      refine ⟨_, rfl, _, _, rfl, .inr ⟨_, hS, rfl⟩, rfl, _, rfl, ?_⟩
      cases xs with
      | nil => exact iteT q0
      | cons x r =>
        refine iteF ?_
        obtain ⟨kx, h0, h0z⟩ := hx x List.mem_cons_self
        refine ⟨_, rfl, a, _, _, _, rfl, rfl, hS, atI_nat (j := 0) rfl, x, .ty "str", kx.ty, _, _, rfl, .ty "str", h0.tyx, h0.kStr, _, rfl, ?_⟩
        cases h0 with
        | str z =>
          refine iteF ?_
          refine ⟨_, rfl, a, _, _, _, rfl, rfl, hS, atI_nat (j := 0) rfl, ?_⟩
          cases hf : formOf z with
          | none =>
            refine ⟨z, _, rfl, rfl, FK.no z hf, _, rfl, ?_⟩
            simp only [isDeedL, hf] at q0
            exact iteT q0
          | some ss =>
            obtain ⟨b, hb, hn, hB⟩ := FK.dct hf
            refine ⟨z, _, rfl, rfl, hn, _, rfl, ?_⟩
            refine iteF ?_
            refine ⟨_, rfl, a, _, _, _, rfl, rfl, hS, atI_nat (j := 0) rfl, _, _, _, rfl, rfl, hb, ?_⟩
            refine ⟨_, rfl, _, _, rfl, .inr ⟨_, hS, rfl⟩, _, rfl, _, _, rfl, .inr ⟨_, hB H, rfl⟩, _, _, rfl, rfl, rfl, _, rfl, ?_⟩
            have r1 : ∀ H', Same H H' → Q (.bl (decide (r.length = ss.length) && (List.zipWith isPartV ss r).all id)) H' := fun H' s => by
              have := q H' s
              simp only [isDeedL, hf] at this
              exact this
            by_cases hlen : r.length = ss.length
            · refine iteT' (by simp [hlen]) ?_
              refine ⟨_, rfl, _, rfl, 1, rfl, a, _, rfl, hS, ?_, fun p hp => ?_⟩
              · simp [HT.sIx]
              have S1 : Same H (upd H p (.tup (cutV (.str z :: r) (some 1) none))) := Evl.Ex.new hp
              have eC : cutV (V.str z :: r) (some 1) none = r := by simp [cutV, HT.sIx]
              rw [eC] at S1 ⊢
              refine ⟨_, _, _, _, _, _, zTup K b (ss.map V.str), zTup K p r, rfl, hB _, SqT.of upd_same, fun D hD => ?_⟩
              generalize hH1 : upd H p (.tup r) = H1 at S1 hD ⊢
              have hpr : SqT K H1 p r := by rw [← hH1]; exact SqT.of upd_same
              refine lc_it (walk_zipM (n := r.length) (by simp [hlen])) (PvL H1 D (fun i => (List.zipWith isPartV ss r)[i]?.map V.bl)) (pv_0 hD) (fun _ _ _ p => ⟨hB _, sameT p.1 hpr⟩) ?_ ?_
              · rintro i x H2 H3 hi p3 ⟨T3, x3, y3, rfl, hT, rfl, hx3, hy3⟩
                obtain ⟨s3, hs3, rfl⟩ := at_map hx3
                have hy3 : r[i]? = some y3 := hy3
                obtain ⟨ky, h4, h5⟩ := hx y3 (List.mem_cons_of_mem _ (at_mem hy3))
                have S3 : Same H2 (upd H2 T3 (.tup [V.str s3, y3])) := Evl.Ex.new hT
                refine ⟨T3, _, rfl, SqT.of upd_same, rfl, _, _, rfl, _, _, rfl, rfl, ?_⟩
                refine ⟨rfl, ?_⟩
                refine ⟨_, rfl, _, rfl, s3, y3, ky, rfl, h4.same ((S1.trans p3.1).trans S3), h5, fun H4 S4 => ?_⟩
                refine pv_in p3 (S3.trans S4) ?_ (by rw [List.length_cons] at hl; omega)
                simp only [List.getElem?_zipWith, hs3, hy3, Option.map_some]
              · intro H2 p2
                have p3 := p2.2.2
                have e : r.length = (List.zipWith isPartV ss r).length := by simp [hlen]
                rw [e, fm_range] at p3
                refine ⟨D, _, rfl, SqL.of p3, ?_⟩
                have := r1 H2 (S1.trans p2.1)
                simp only [hlen, decide_true, Bool.true_and] at this
                exact this
            · refine iteF' (by simp; omega) ?_
              have := r1 H (Same.refl H)
              simp only [hlen, decide_false, Bool.false_and] at this
              exact this
        | _ =>
          simp only [isDeedL] at q0
          exact iteT q0
end
end WP
namespace WP
open PySem L2
open TL (tl)
def spEnded (K : PySem.W.Frag) : Sp := fun vs H Q _ => ∃ (a : Addr) (ls : List Str), vs = [.ref a] ∧ SqL K H a (ls.map V.str) ∧ (ls.map (·.length)).sum + ls.length ≤ 90000 ∧ ∀ H', Same H H' → Q (.str (textL ls)) H'
def spDeedLine (K : PySem.W.Frag) : Sp := fun vs H Q _ => ∃ (a : Addr) (xs : List V), vs = [.ref a] ∧ SqT K H a xs ∧ xs.length ≤ 4 ∧ (∀ x ∈ xs, Part x) ∧ ∀ H', Same H H' → Q (.str (deedLine xs)) H'
/-- E: BadText with a line -/
def RaT (C : Addr) (fld : Str) (v : V) (H : Hp) (E : XK) : Prop := ∀ d H', Same H H' → H d = none → H' d = some (.xd [(fld, v)]) → E (.ref C) (some d) H'
def spLinesOf (K : PySem.W.Frag) (C : Addr) : Sp := fun vs H Q E => ∃ (v : V) (k : Kd), vs = [v] ∧ Any K H v k ∧ (k.isStr = false → RaT C "line" (.int 0) H E) ∧
  ∀ z, v = .str z → z.length + 2 ≤ sizeLine ∧ ∀ p H', Same H H' → H' p = some (.lst ((linesP z).map V.str)) → Q (.ref p) H'
def spNeedEnd (K : PySem.W.Frag) (C : Addr) : Sp := fun vs H Q E => ∃ (z : Str) (a : Addr) (ls : List Str), vs = [.str z, .ref a] ∧ z.length ≤ sizeLine ∧ SqL K H a (ls.map V.str) ∧
  (endOk z = true → ∀ H', Same H H' → Q .non H') ∧ (endOk z = false → RaT C "line" (.int ls.length) H E)
theorem none_of {H H' : Hp} {d : Addr} (s : Same H H') (h : H' d = none) : H d = none := by
  cases e : H d with
  | none => rfl
  | some o => rw [s _ _ e] at h; cases h
theorem mem_sum {l : Str} : ∀ {ls : List Str}, l ∈ ls → l.length ≤ (ls.map (·.length)).sum
  | [], h => by cases h
  | a :: r, h => by
    rw [List.map_cons, List.sum_cons]
    rcases List.mem_cons.mp h with rfl | h
    · omega
    · have := mem_sum h
      omega
theorem sum_nl : ∀ ls : List Str, ((ls.map (· ++ nl)).map (·.length)).sum = (ls.map (·.length)).sum + ls.length
  | [] => rfl
  | a :: r => by
    have := sum_nl r
    have e1 : nl.length = 1 := by decide
    simp only [List.map_cons, List.sum_cons, List.length_cons, Str.length_append, this, e1]
    omega
theorem atI_lastS {ls : List Str} (h : ls ≠ []) : atI (ls.map V.str) (-1) = some (.str (ls.getLast h)) := by
  have e : ls.map V.str = (ls.dropLast.map V.str) ++ [V.str (ls.getLast h)] := by
    conv => lhs; rw [← List.dropLast_concat_getLast h]
    rw [List.map_append]
    rfl
  rw [e]
  exact atI_last _ _
theorem cut_last (ls : List Str) : cutV (ls.map V.str) none (some (-1)) = ls.dropLast.map V.str := by
  unfold cutV
  simp only [HT.sIx, List.length_map]
  rw [if_pos (by decide), List.drop_zero, List.dropLast_eq_take, List.map_take]
  congr 1
  omega
theorem split_nil_no (z : Str) : Txt.split z nl ≠ [] := by
  intro e
  have := TL.split_spl z nl (by rw [nl_tl]; simp) (TL.kind_ok (by decide +kernel))
  rw [e, nl_tl] at this
  have key : ∀ (r acc : List Nat), TL.spl [10] 0 acc r ≠ [] := by
    intro r
    induction r with
    | nil => intro acc; rw [TL.spl_nil]; simp
    | cons y r ih =>
      intro acc
      by_cases hy : TL.pre [10] (y :: r) = true
      · rw [TL.spl_hit hy]; simp
      · rw [Bool.not_eq_true] at hy
        rw [TL.spl_miss hy]
        exact ih _
  exact key _ _ this.symm
theorem cut_end (z : Str) : cutS z (some (-1)) none = match (tl z).getLast? with
    | none => es
    | some c => ⟨#[c]⟩ := by
  refine TL.ext_tl ?_
  have hl : z.length = (tl z).length := TL.len_tl z
  unfold cutS
  simp only [HT.sIx]
  rw [if_pos (by decide)]
  show ((tl z).drop _).take _ = _
  by_cases h : tl z = []
  · rw [h]
    simp
    rfl
  · rw [List.getLast?_eq_some_getLast h]
    have h0 : 0 < (tl z).length := List.length_pos_iff.mpr h
    have e1 : (-1 + (z.length : Int)).toNat = (tl z).length - 1 := by omega
    have e2 : z.length - ((tl z).length - 1) = 1 := by omega
    have e3 : (tl z).drop ((tl z).length - 1) = [(tl z).getLast h] := by
      conv => lhs; arg 2; rw [← List.dropLast_concat_getLast h]
      rw [List.drop_append_of_le_length (by simp)]
      have : (tl z).dropLast.drop ((tl z).length - 1) = [] := List.drop_eq_nil_of_le (by simp)
      rw [this]
      rfl
    rw [e1, e2, e3]
    rfl
theorem part_show {x : V} (h : Part x) : (showV x).length ≤ 20 := by
  rcases h with ⟨i, rfl, h0, h1⟩ | ⟨w, rfl, h1, h2⟩
  · exact Nat.le_trans (PyProof.Rows.toString_length_le h0 (k := 18) (by decide) (by omega)) (by decide)
  · exact Nat.le_trans h1 (by decide)
theorem sum_parts : ∀ xs : List V, (∀ x ∈ xs, Part x) → ((xs.map showV).map (·.length)).sum ≤ 20 * xs.length
  | [], _ => by simp
  | x :: r, h => by
    have h1 := part_show (h x List.mem_cons_self)
    have h2 := sum_parts r fun y hy => h y (List.mem_cons_of_mem _ hy)
    simp only [List.map_cons, List.sum_cons, List.length_cons]
    omega
section
variable {P : Program} {w : World} {K : PySem.W.Frag} {mg : Str → Option Value} {base : Heap}
theorem ok_ended {f : Addr} {fd : FuncData} (F : Fun K "ended" "ended" s_ended f fd) (T : Bi mg) : FnOk P w K mg base CX0 1 f fd ["lines"] (spEnded K) := by
  refine F.ok sc_ended (fun vs H Q E h => ?_) (fun cdv A outer s H vs Q E hr h => ?_)
  · obtain ⟨a, ls, rfl, _⟩ := h
    rfl
  · obtain ⟨a, ls, rfl, hS, hz, q⟩ := h
    have nd := sc_ended.nd
    refine ⟨_, pss_one (ps_ret (pe_join pe_str (pe_lc (own := [("line", 1)]) (g := gName 1) rfl nd (pi_list (pv 0)) (blkOk_by (own := [("line", 1)]) (N := ["lines", "line"]) (sc := defScope s_ended) (by decide +kernel)) (fun _ _ _ _ _ => (pg_name (i := 1) nd rfl (by first | exact Or.inl rfl | exact Or.inr rfl))) (fun _ _ _ _ _ => pts_nil) (fun _ _ _ _ _ => (pe_op op_add_str (pv 1) pe_str))))), ?_⟩
    refine ⟨⟨_, rfl⟩, _, rfl, a, rfl, ⟨_, hS⟩, fun D hD => ?_⟩
    refine lc_it (walk_list (xs := ls.map V.str)) (PvL H D (fun i => ls[i]?.map fun l => V.str (l ++ nl))) (pv_0 hD) (fun _ _ _ p => p.1.seq hS) ?_ ?_
    · rintro i x H1 H2 hi p ⟨rfl, hx⟩
      obtain ⟨l, hl, rfl⟩ := at_map hx
      rw [List.length_map] at hi
      refine ⟨rfl, ?_⟩
      refine ⟨_, rfl, _, _, rfl, rfl, ?_⟩
      refine ⟨?_, pv_in p (Same.refl _) (by simp only [hl, Option.map_some]) (by omega)⟩
      have := mem_sum (at_mem hl)
      have e1 : ("\n" : Str).length = 1 := by decide
      rw [e1, sizeLine_eq]
      omega
    · intro H1 p
      have p3 := p.2.2
      rw [List.length_map, fm_range] at p3
      refine ⟨_, D, ls.map (· ++ nl), rfl, rfl, .inl (SqL.of (by rw [p3, List.map_map]; rfl)), ?_, ?_⟩
      · rw [sum_nl]
        have e1 : ("" : Str).length = 0 := by decide
        rw [e1]
        omega
      · exact q H1 p.1
theorem ok_deed_line {f : Addr} {fd : FuncData} (F : Fun K "deed_line" "deed_line" s_deed_line f fd) (T : Bi mg) : FnOk P w K mg base CX0 1 f fd ["deed"] (spDeedLine K) := by
  refine F.ok sc_deed_line (fun vs H Q E h => ?_) (fun cdv A outer s H vs Q E hr h => ?_)
  · obtain ⟨a, ls, rfl, _⟩ := h
    rfl
  · obtain ⟨a, xs, rfl, hS, hl, hp, q⟩ := h
    have nd := sc_deed_line.nd
    refine ⟨_, pss_one (ps_ret (pe_join pe_str (pe_lc (own := [("part", 1)]) (g := gName 1) rfl nd (pi_tup (pv 0)) (blkOk_by (own := [("part", 1)]) (N := ["deed", "part"]) (sc := defScope s_deed_line) (by decide +kernel)) (fun _ _ _ _ _ => (pg_name (i := 1) nd rfl (by first | exact Or.inl rfl | exact Or.inr rfl))) (fun _ _ _ _ _ => pts_nil) (fun _ _ _ _ _ => (pe_callTy call_str_any (by rfl) T.str (by decide +kernel) (pa_cons (pv 1) pa_nil)))))), ?_⟩
    refine ⟨⟨_, rfl⟩, _, rfl, a, rfl, ⟨_, hS⟩, fun D hD => ?_⟩
    refine lc_it (walk_tup (xs := xs)) (PvL H D (fun i => xs[i]?.map fun x => V.str (showV x))) (pv_0 hD) (fun _ _ _ p => sameT p.1 hS) ?_ ?_
    · rintro i x H1 H2 hi p ⟨rfl, hx⟩
      refine ⟨rfl, ?_⟩
      have e := pv_in p (Same.refl _) (y := V.str (showV x)) (by simp only [hx, Option.map_some]) (by omega)
      rcases hp x (at_mem hx) with ⟨j, rfl, h0, h1⟩ | ⟨w, rfl, h1, h2⟩
      · exact ⟨_, rfl, .inl ⟨j, rfl, Nat.lt_of_lt_of_le (PySem.Flt.log2_lt_of (k := 64) (by decide) (by omega)) (by decide), e⟩⟩
      · exact ⟨_, rfl, .inr ⟨w, rfl, e⟩⟩
    · intro H1 p
      have p3 := p.2.2
      rw [fm_range] at p3
      refine ⟨_, D, xs.map showV, rfl, rfl, .inl (SqL.of (by rw [p3, List.map_map]; rfl)), ?_, ?_⟩
      · have := sum_parts xs hp
        rw [List.length_map]
        have e1 : (" " : Str).length = 1 := by decide
        rw [e1]
        omega
      · exact q H1 p.1
theorem ok_lines_of {f CT CP : Addr} {fd : FuncData} (F : Fun K "lines_of" "lines_of" s_lines_of f fd) (T : Bi mg) (EB : Err1 P w K mg base CP "BadText" CT "line") : FnOk P w K mg base (L2.CX P w) 3 f fd ["text"] (spLinesOf K CT) := by
  refine F.okX sc_lines_of (fun vs H Q E h => ?_) (fun cdv A outer s H vs Q E hr h => ?_)
  · obtain ⟨v, k, rfl, _⟩ := h
    rfl
  · obtain ⟨v, k, rfl, h, hx, q⟩ := h
    have nd := sc_lines_of.nd
    refine ⟨_, pss_cons (ps_if (pt_not (pt_val (pe_callB call_isi (by rfl) T.isinstance (by decide +kernel) (pa_cons (pv 0) (pa_cons (n_str T) pa_nil))))) (pss_one (raise1 EB rfl (takes_of rfl rfl rfl rfl) (hr.mono (by decide)) pe_int)) pss_nil)
      (pss_cons (ps_set (i := 1) nd rfl (by first | exact Or.inl rfl | exact Or.inr rfl) (pe_split (pv 0) pe_str))
      (pss_one (ps_ret (pe_ifExp (pt_cmpR op_eq (pe_ix ix_list (pv 1) (pe_un un_neg pe_int) (fun _ _ => rfl)) pe_str (nomark _)) (pe_slice sl_list (pv 1) po_none (po_some (pe_un un_neg pe_int))) (pv 1))))), ?_⟩
    refine ⟨_, rfl, v, .ty "str", k.ty, _, _, rfl, .ty "str", h.tyx, h.kStr, _, rfl, ?_⟩
    cases h with
    | str z =>
      refine iteF ?_
      obtain ⟨hz, q⟩ := q z rfl
      have hne := split_nil_no z
      refine ⟨_, rfl, ⟨_, rfl⟩, z, nl, rfl, rfl, by decide, hz, fun p hp => ?_⟩
      have S1 : Same H (upd H p (.lst ((Txt.split z nl).map V.str))) := Evl.Ex.new hp
      have hp1 : upd H p (.lst ((Txt.split z nl).map V.str)) p = some (.lst ((Txt.split z nl).map V.str)) := upd_same
      generalize upd H p (.lst ((Txt.split z nl).map V.str)) = H1 at S1 hp1
      refine ⟨_, rfl, _, rfl, _, _, _, _, rfl, rfl, SqL.of hp1, atI_lastS hne, rfl, _, rfl, ?_⟩
      have e1 : decide (V.str ((Txt.split z nl).getLast hne) = V.str "") = lastNo (Txt.split z nl) := by
        unfold lastNo
        rw [List.getLast?_eq_some_getLast hne, Bool.eq_iff_iff]
        simp only [decide_eq_true_eq, beq_iff_eq, Option.some.injEq]
        exact ⟨fun e => V.str.inj e, fun e => by rw [e]⟩
      rw [e1]
      unfold linesP at q
      cases hl : lastNo (Txt.split z nl) with
      | true =>
        refine iteT ?_
        simp only [hl, if_true] at q
        refine ⟨_, rfl, _, rfl, _, rfl, _, _, rfl, SqL.of hp1, fun p2 hp2 => ?_⟩
        rw [cut_last]
        exact q p2 _ (S1.trans (Evl.Ex.new hp2)) upd_same
      | false =>
        refine iteF ?_
        simp only [hl] at q
        exact ⟨_, rfl, q p _ S1 hp1⟩
    | _ => exact iteT fun d hd => hx rfl d _ (Evl.Ex.new hd) hd upd_same
theorem ok_need_end {f CT CP : Addr} {fd : FuncData} (F : Fun K "need_end" "need_end" s_need_end f fd) (T : Bi mg) (EB : Err1 P w K mg base CP "BadText" CT "line") : FnOk P w K mg base (L2.CX P w) 3 f fd ["text", "lines"] (spNeedEnd K CT) := by
  refine F.okX sc_need_end (fun vs H Q E h => ?_) (fun cdv A outer s H vs Q E hr h => ?_)
  · obtain ⟨z, a, ls, rfl, _⟩ := h
    rfl
  · obtain ⟨z, a, ls, rfl, hz, hS, q1, q2⟩ := h
    have nd := sc_need_end.nd
    refine ⟨_, pss_one (ps_if (pt_cmpR op_notIn_seq (pe_slice sl_str (pv 0) (po_some (pe_un un_neg pe_int)) po_none) (pe_tup (pa_cons pe_str (pa_cons pe_str pa_nil))) (by rfl)) (pss_one (raise1 EB rfl (takes_of rfl rfl rfl rfl) (hr.mono (by decide)) (pe_callB call_len (by rfl) T.len (by decide +kernel) (pa_cons (pv 1) pa_nil)))) pss_nil), ?_⟩
    refine ⟨_, rfl, _, rfl, _, rfl, z, rfl, hz, (by show 2 ≤ sizeLine; decide), fun p hp => ⟨p, _, rfl, .inr (SqT.of upd_same), rfl, rfl, _, rfl, ?_⟩⟩
    have e1 : inV (.str (cutS z (some (-1)) none)) [V.str "", V.str "\n"] = endOk z := by
      rw [cut_end]
      unfold endOk
      have e2 : ∀ c : Nat, ((⟨#[c]⟩ : Str) == (es : Str)) = false := fun c => by
        rw [beq_eq_false_iff_ne]
        intro e
        have := congrArg tl e
        cases this
      have e3 : ∀ c : Nat, ((nl : Str) == (⟨#[c]⟩ : Str)) = (c == 10) := fun c => by
        rw [Bool.eq_iff_iff, beq_iff_eq, beq_iff_eq]
        refine ⟨fun e => ?_, fun e => by rw [e]; rfl⟩
        have := congrArg tl e
        rw [nl_tl] at this
        exact (List.cons.inj this).1.symm
      cases (tl z).getLast? with
      | none => decide +kernel
      | some c =>
        show (([V.str "", V.str "\n"] : List V).any fun y => eqV y (.str ⟨#[c]⟩)) = ((some c : Option Nat) == none || (some c : Option Nat) == some 10)
        have e4 : ((es : Str) == (⟨#[c]⟩ : Str)) = false := by rw [BEq.comm]; exact e2 c
        simp only [List.any_cons, List.any_nil, eqV]
        rw [e4, e3 c]
        simp
    cases he : endOk z with
    | true =>
      rw [he] at e1
      rw [e1]
      exact iteF (q1 he _ (Evl.Ex.new hp))
    | false =>
      rw [he] at e1
      rw [e1]
      have S1 : Same H (upd H p (.tup [V.str "", V.str "\n"])) := Evl.Ex.new hp
      refine iteT ⟨_, rfl, _, _, rfl, .inl ⟨_, S1.seq hS, rfl⟩, fun d hd => ?_⟩
      rw [List.length_map]
      exact q2 he d _ (S1.trans (Evl.Ex.new hd)) (none_of S1 hd) upd_same
end
end WP
namespace WP
open PySem L2
open TL (tl)
theorem units65 {k : Nat} {A : Around} (r : Room k A) : A.units + 65 < cLine := by have := r.un; omega
theorem split_no1 (z : Str) : Txt.split z " " ≠ [] := by
  intro e
  have := TL.split_spl z " " (by decide +kernel) (TL.kind_ok (by decide +kernel))
  rw [e] at this
  have key : ∀ (S r acc : List Nat), TL.spl S 0 acc r ≠ [] := by
    intro S r
    induction r with
    | nil => intro acc; rw [TL.spl_nil]; simp
    | cons y r ih =>
      intro acc
      by_cases hy : TL.pre S (y :: r) = true
      · rw [TL.spl_hit hy]; simp
      · rw [Bool.not_eq_true] at hy
        rw [TL.spl_miss hy]
        exact ih _
  exact key _ _ _ this.symm
theorem piece_len {z y p : Str} (hy : 1 ≤ y.length) (h : p ∈ Txt.split z y) : p.length ≤ z.length ∧ (Txt.split z y).length ≤ z.length + 1 := by
  have h1 := PyProof.Rows.split_weight z y hy
  have h2 := mem_sum h
  have h3 : 0 < (Txt.split z y).length := List.length_pos_of_mem h
  omega
def spDeedOf (K : PySem.W.Frag) : Sp := fun vs H Q _ => ∃ z : Str, vs = [.str z] ∧ z.length ≤ 90000 ∧ ∀ v H', Same H H' → Fl K H' v (deedC z) → Q v H'
theorem take_step {α : Type} {l : List (Option α)} {xs : List α} {i : Nat} {x : α} (h : l.take i = xs.map some) (e : l[i]? = some (some x)) : l.take (i + 1) = (xs ++ [x]).map some := by
  rw [List.take_succ, h, e]
  simp
theorem cut1 (x : V) (r : List V) : cutV (x :: r) (some 1) none = r := by
  simp only [cutV, HT.sIx, List.length_cons]
  have e1 : min (Int.toNat 1) (r.length + 1) = 1 := by
    show min 1 (r.length + 1) = 1
    omega
  rw [if_neg (by decide), e1, List.drop_succ_cons, List.drop_zero, List.take_of_length_le (by omega)]
section
variable {P : Program} {w : World} {K : PySem.W.Frag} {mg : Str → Option Value} {base : Heap}
theorem ok_deed_of {f aF : Addr} {fd : FuncData} (F : Fun K "deed_of" "deed_of" s_deed_of f fd) (T : Bi mg) (D_is_numeral : Dn P w K mg base CX0 1 "is_numeral" ["word"] spIsNumeral) (D_is_deed : Dn P w K mg base CX0 3 "is_deed" ["value"] (spIsDeed K)) (G_FORMS : mg "FORMS" = some (.ref aF)) (FK : FormsK K w aF) : FnOk P w K mg base CX0 4 f fd ["line"] (spDeedOf K) := by
  refine F.ok sc_deed_of (fun vs H Q E h => ?_) (fun cdv A outer s H vs Q E hr h => ?_)
  · obtain ⟨z, rfl, _⟩ := h
    rfl
  · obtain ⟨z, rfl, hz, q⟩ := h
    have nd := sc_deed_of.nd
    obtain ⟨es, n, DF⟩ := FK.kd
    have hq : ∀ H', Same H H' → deedC z = none → Q .non H' := fun H' s e => by
      refine q .non H' s ?_
      rw [e]
      rfl
    rw [← deedP_eq] at q hq
    refine ⟨_, pss_cons (ps_set (i := 1) nd rfl (by first | exact Or.inl rfl | exact Or.inr rfl) (pe_split (pv 0) pe_str))
      (pss_cons (ps_if (PW.pt (pw_or (pt_cmpR (op_notIn_kd DF) (pe_ix ix_list (pv 1) pe_int (fun _ _ => rfl)) (gRef G_FORMS) (by rfl)) (pw_or1 (pt_cmpR op_ne (pe_callB call_len (by rfl) T.len (by decide +kernel) (pa_cons (pv 1) pa_nil)) (pe_op op_add (pe_callB call_len (by rfl) T.len (by decide +kernel) (pa_cons (pe_ix ix_kdict (gRef G_FORMS) (pe_ix ix_list (pv 1) pe_int (fun _ _ => rfl)) (fun _ _ => rfl)) pa_nil)) pe_int) (nomark _))))) (pss_one (ps_ret pe_non)) pss_nil)
      (pss_cons (ps_set (i := 2) nd rfl (by first | exact Or.inl rfl | exact Or.inr rfl) (pe_lst (pa_cons (pe_ix ix_list (pv 1) pe_int (fun _ _ => rfl)) pa_nil)))
      (pss_cons (ps_for PassesOwn.never rfl (pi_zipM (by rfl) T.zip (pa_cons (pe_ix ix_kdict (gRef G_FORMS) (pe_ix ix_list (pv 1) pe_int (fun _ _ => rfl)) (fun _ _ => rfl)) (pa_cons (pe_slice sl_list (pv 1) (po_some pe_int) po_none) pa_nil))) (pg_tup rfl (pgs_cons (pg_name (i := 3) nd rfl (by first | exact Or.inl rfl | exact Or.inr rfl)) (pgs_cons (pg_name (i := 4) nd rfl (by first | exact Or.inl rfl | exact Or.inr rfl)) pgs_nil))) (pss_cons (ps_if (PW.pt (pw_and (pt_cmpR op_ne (pv 3) pe_str (nomark _)) (pw_and1 (pt_not (pt_val (pe_d D_is_numeral (hr.mono (by decide)) pass0 (pa_cons (pv 4) pa_nil))))))) (pss_one (ps_ret pe_non)) pss_nil)
      (pss_one (ps_expr (pe_bm PySem.F.plainAttrs_list PySem.F.slot_list_append PySem.F.type_list_append mt_append (pv 2) (pa_cons (pe_ifExp (pt_cmpR op_eq (pv 3) pe_str (nomark _)) (pv 4) (pe_callTy call_int_str (by rfl) T.int (by decide +kernel) (pa_cons (pv 4) pa_nil))) pa_nil))))))
      (pss_cons (ps_set (i := 5) nd rfl (by first | exact Or.inl rfl | exact Or.inr rfl) (pe_callTy call_tuple_of (by rfl) T.tuple (by decide +kernel) (pa_cons (pv 2) pa_nil)))
      (pss_one (ps_ret (pe_ifExp (pt_val (pe_d D_is_deed (hr.mono (by decide)) pass0 (pa_cons (pv 5) pa_nil))) (pv 5) pe_non))))))), ?_⟩
    refine ⟨_, rfl, ⟨_, rfl⟩, z, " ", rfl, rfl, by decide, by rw [sizeLine_eq]; omega, fun pW hW => ?_⟩
    cases hs : Txt.split z " " with
    | nil => exact absurd hs (split_no1 z)
    | cons w0 r =>
      have hall : ∀ p ∈ w0 :: r, p.length ≤ z.length ∧ (w0 :: r).length ≤ z.length + 1 := fun p hp => by
        rw [← hs] at hp ⊢
        exact piece_len (by decide) hp
      have S1 : Same H (upd H pW (.lst ((w0 :: r).map V.str))) := Evl.Ex.new hW
      have hW1 : upd H pW (.lst ((w0 :: r).map V.str)) pW = some (.lst ((w0 :: r).map V.str)) := upd_same
      generalize upd H pW (.lst ((w0 :: r).map V.str)) = H1 at S1 hW1
      refine ⟨_, rfl, pW, _, _, _, rfl, rfl, SqL.of hW1, atI_nat (j := 0) rfl, ?_⟩
      cases hf : formOf w0 with
      | none =>
        refine ⟨w0, _, rfl, rfl, FK.no w0 hf, _, rfl, ?_⟩
        refine iteT (hq H1 S1 ?_)
        unfold deedP
        simp only [hs, hf]
      | some ss =>
        obtain ⟨b, hb, hn, hB⟩ := FK.dct hf
        refine ⟨w0, _, rfl, rfl, hn, _, rfl, ?_⟩
        refine iteF ?_
        refine ⟨_, rfl, _, _, rfl, .inl ⟨_, SqL.of hW1, rfl⟩, _, rfl, pW, _, _, _, rfl, rfl, SqL.of hW1, atI_nat (j := 0) rfl, _, _, _, rfl, rfl, hb, _, _, rfl, .inr ⟨_, hB H1, rfl⟩, _, _, rfl, rfl, rfl, _, rfl, ?_⟩
        have hq2 : deedP z = if r.length = ss.length then (seqO (List.zipWith partP ss r)).bind fun xs => if isDeedL (.str w0 :: xs) then some (.str w0 :: xs) else none else none := by
          unfold deedP
          simp only [hs, hf]
        by_cases hlen : r.length = ss.length
        · refine iteF' (by simp [hlen]) ?_
          rw [if_pos hlen] at hq2
          refine ⟨_, rfl, pW, _, _, _, rfl, rfl, SqL.of hW1, atI_nat (j := 0) rfl, (by show 1 ≤ sizeLine; decide), fun L hL => ?_⟩
          have S2 : Same H1 (upd H1 L (.lst [V.str w0])) := Evl.Ex.new hL
          have hL2 : upd H1 L (.lst [V.str w0]) L = some (.lst [V.str w0]) := upd_same
          have hW2 := S2 _ _ hW1
          generalize upd H1 L (.lst [V.str w0]) = H2 at S2 hL2 hW2
          refine ⟨_, rfl, pW, _, _, _, rfl, rfl, SqL.of hW2, atI_nat (j := 0) rfl, _, _, _, rfl, rfl, hb, _, rfl, 1, rfl, pW, _, rfl, SqL.of hW2, fun p hp => ?_⟩
          have eC : cutV ((w0 :: r).map V.str) (some 1) none = r.map V.str := cut1 _ _
          rw [eC]
          have S3 : Same H2 (upd H2 p (.lst (r.map V.str))) := Evl.Ex.new hp
          have hp3 : upd H2 p (.lst (r.map V.str)) p = some (.lst (r.map V.str)) := upd_same
          have hL3 := S3 _ _ hL2
          have npL : p ≠ L := fun e => by rw [e, hL2] at hp; cases hp
          generalize upd H2 p (.lst (r.map V.str)) = H3 at S3 hp3 hL3
          refine ⟨_, _, _, _, _, _, zTup K b (ss.map V.str), zLst K p (r.map V.str), rfl, hB _, SqL.of hp3, ?_⟩
          have hr3 : ss.length ≤ 3 := (form_word hf).2.2.2
          refine for_it (walk_zipM (n := r.length) (by simp [hlen])) (fun i σ Hi => Same H1 Hi ∧ Hi p = some (.lst (r.map V.str)) ∧ ∃ (xs : List V) (v3 v4 : Option V), Hi L = some (.lst (V.str w0 :: xs)) ∧ (List.zipWith partP ss r).take i = xs.map some ∧ (∀ x ∈ xs, ∃ kx, Any K H x kx ∧ ∀ y, x = .str y → y.length ≤ sizeLine) ∧ σ = [some (.str z), some (.ref pW), some (.ref L), v3, v4, none])
            ⟨S2.trans S3, hp3, [], _, _, hL3, rfl, (fun x hx => by cases hx), rfl⟩ (fun i σ Hi _ h => ⟨hB _, SqL.of h.2.1⟩) ?_ ?_
          · rintro i x σ Hi Hj hi ⟨Si, hpi, xs, v3, v4, hLi, hti, hka, rfl⟩ ⟨T3, x3, y3, rfl, hT, rfl, hx3, hy3⟩
            obtain ⟨s3, hs3, rfl⟩ := at_map hx3
            obtain ⟨w3, hw3, rfl⟩ := at_map hy3
            have hwl := (hall w3 (List.mem_cons_of_mem _ (at_mem hw3))).1
            have Sj : Same Hi (upd Hi T3 (.tup [V.str s3, V.str w3])) := Evl.Ex.new hT
            have hpj := Sj _ _ hpi
            have hLj := Sj _ _ hLi
            have hTj : upd Hi T3 (.tup [V.str s3, V.str w3]) T3 = some (.tup [V.str s3, V.str w3]) := upd_same
            generalize upd Hi T3 (.tup [V.str s3, V.str w3]) = Hj at Sj hpj hLj hTj ⊢
            have hzi : (List.zipWith partP ss r)[i]? = some (partP s3 w3) := by rw [List.getElem?_zipWith, hs3, hw3]
            have app : ∀ (x : V) (Hk : Hp), partP s3 w3 = some x → (∃ kx, Any K H x kx ∧ ∀ y, x = .str y → y.length ≤ sizeLine) → Same Hj Hk → Hk L = some (.lst (V.str w0 :: xs)) → Hk p = some (.lst (r.map V.str)) →
                Same H1 (upd Hk L (.lst ((V.str w0 :: xs) ++ [x]))) ∧ upd Hk L (.lst ((V.str w0 :: xs) ++ [x])) p = some (.lst (r.map V.str)) ∧ ∃ (ys : List V) (v3 v4 : Option V), upd Hk L (.lst ((V.str w0 :: xs) ++ [x])) L = some (.lst (V.str w0 :: ys)) ∧ (List.zipWith partP ss r).take (i + 1) = ys.map some ∧ (∀ x ∈ ys, ∃ kx, Any K H x kx ∧ ∀ y, x = .str y → y.length ≤ sizeLine) ∧ ([some (.str z), some (.ref pW), some (.ref L), some (.str s3), some (.str w3), none] : St) = [some (.str z), some (.ref pW), some (.ref L), v3, v4, none] := fun x Hk e hk Sk hLk hpk => by
              refine ⟨Evl.Ex.mut ((Si.trans Sj).trans Sk) hL, by rw [upd_ne npL]; exact hpk, xs ++ [x], _, _, upd_same, take_step hti (by rw [hzi, e]), fun y hy => ?_, rfl⟩
              rcases List.mem_append.mp hy with hy | hy
              · exact hka y hy
              · rw [List.mem_singleton.mp hy]
                exact hk
            have hlx : (V.str w0 :: xs).length < sizeLine := by
              have := congrArg List.length hti
              rw [List.length_take, List.length_map] at this
              rw [sizeLine_eq, List.length_cons]
              omega
            refine ⟨T3, _, rfl, SqT.of hTj, rfl, _, _, rfl, _, _, rfl, rfl, ?_⟩
            refine ⟨_, rfl, rfl, _, rfl, ?_⟩
            by_cases h3 : s3 = "name"
            · subst h3
              refine iteF' (by simp) ?_
              refine ⟨_, rfl, .inl ⟨rfl, _, SqL.of hLj⟩, _, rfl, rfl, _, rfl, ?_⟩
              refine iteT' (by simp) ?_
              refine ⟨_, rfl, L, _, _, rfl, rfl, hLj, hlx, ?_⟩
              exact app (.str w3) Hj (by simp [partP]) ⟨_, .str w3, fun y e => by rw [← V.str.inj e, sizeLine_eq]; omega⟩ (Same.refl _) hLj hpj
            · refine iteT' (by simp; exact h3) ?_
              refine ⟨_, rfl, w3, rfl, by rw [sizeLine_eq]; omega, fun Hk Sk => ⟨_, rfl, ?_⟩⟩
              have hLk := Sk _ _ hLj
              have hpk := Sk _ _ hpj
              cases hnum : isNumS w3 with
              | false =>
                refine iteT' rfl ?_
                refine hq Hk (S1.trans ((Si.trans Sj).trans Sk)) ?_
                rw [hq2, seqO_none, Option.bind_none]
                have e : partP s3 w3 = none := by simp [partP, h3, hnum]
                rw [e] at hzi
                exact at_mem hzi
              | true =>
                refine iteF' rfl ?_
                obtain ⟨n1, n2, n3, n4⟩ := numOf_eq hnum
                refine ⟨_, rfl, .inl ⟨rfl, _, SqL.of hLk⟩, _, rfl, rfl, _, rfl, ?_⟩
                refine iteF' (by simp; exact h3) ?_
                have hle : w3.length ≤ 640 := by
                  have hn := hnum
                  unfold isNumS at hn
                  simp only [Bool.and_eq_true, decide_eq_true_eq] at hn
                  omega
                refine ⟨_, rfl, w3, _, rfl, n1, hle, L, _, _, rfl, rfl, hLk, hlx, ?_⟩
                exact app (.int (numOf w3)) Hk (by simp [partP, h3, hnum]) ⟨_, .int _, fun y e => by cases e⟩ Sk hLk hpk
          · rintro σ Hi ⟨Si, hpi, xs, v3, v4, hLi, hti, hka, rfl⟩
            have hfull : List.zipWith partP ss r = xs.map some := by
              rw [← hti, List.take_of_length_le (by rw [List.length_zipWith]; omega)]
            have hq3 : deedP z = if isDeedL (.str w0 :: xs) then some (.str w0 :: xs) else none := by rw [hq2, hfull, seqO_some, Option.bind_some]
            refine ⟨_, rfl, L, _, rfl, .inl ⟨SqL.of hLi, fun t ht => ?_⟩⟩
            have St : Same Hi (upd Hi t (.tup (V.str w0 :: xs))) := Evl.Ex.new ht
            have ht2 : upd Hi t (.tup (V.str w0 :: xs)) t = some (.tup (V.str w0 :: xs)) := upd_same
            generalize upd Hi t (.tup (V.str w0 :: xs)) = Ht at St ht2 ⊢
            have lx : xs.length ≤ 3 := by
              have := congrArg List.length hfull
              rw [List.length_map, List.length_zipWith] at this
              omega
            refine ⟨_, rfl, _, .tup, V.str w0 :: xs, rfl, ⟨.tup ht2, fun _ => ⟨t, rfl, SqT.of ht2, by rw [List.length_cons]; omega, fun x hx => ?_⟩⟩, fun Hu Su => ⟨_, rfl, ?_⟩⟩
            · rcases List.mem_cons.mp hx with rfl | hx
              · exact ⟨_, .str w0, fun y e => by rw [← V.str.inj e, sizeLine_eq]; have := (hall w0 List.mem_cons_self).1; omega⟩
              · obtain ⟨kx, h1, h2⟩ := hka x hx
                exact ⟨kx, h1.same ((S1.trans Si).trans St), h2⟩
            · cases hd : isDeedL (V.str w0 :: xs) with
              | true =>
                refine iteT' rfl ?_
                refine ⟨_, rfl, q _ Hu (((S1.trans Si).trans St).trans Su) ?_⟩
                rw [hq3, if_pos hd]
                exact ⟨t, rfl, Su _ _ ht2, hd⟩
              | false =>
                refine iteF' rfl ?_
                refine hq Hu (((S1.trans Si).trans St).trans Su) ?_
                rw [hq3, if_neg (by rw [hd]; decide)]
        · refine iteT' (by simp; omega) (hq H1 S1 ?_)
          rw [hq2, if_neg hlen]
end
end WP
namespace WP
open PySem L2
open TL (tl)
def okG2 (g : Kd × List V) : Bool := g.1.isTup && isDeedL g.2
def spHist (K : PySem.W.Frag) (C : Addr) : Sp := fun vs H Q E => ∃ (a : Addr) (us : List V) (gs : List (Kd × List V)), vs = [.ref a] ∧ H a = some (.lst us) ∧ us.length ≤ 90000 ∧ us.length = gs.length ∧ (∀ (i : Nat) (u : V) (g : Kd × List V), us[i]? = some u → gs[i]? = some g → DdV K H u g.1 g.2) ∧
  (∀ (i : Nat) g, gs[i]? = some g → okG2 g = false → (∀ j g', j < i → gs[j]? = some g' → okG2 g' = true) → RaT C "at" (.int i) H E) ∧
  ((∀ g ∈ gs, okG2 g = true) → ((gs.map fun g => deedLine g.2).map (·.length)).sum + gs.length ≤ 90000 ∧ ∀ H', Same H H' → Q (.str (textL (gs.map fun g => deedLine g.2))) H')
def spReadHist (K : PySem.W.Frag) (C : Addr) : Sp := fun vs H Q E => ∃ (v : V) (k : Kd), vs = [v] ∧ Any K H v k ∧ (k.isStr = false → RaT C "line" (.int 0) H E) ∧
  ∀ z, v = .str z → z.length ≤ 80000 ∧ (∀ n, hearP z = .error n → RaT C "line" (.int n) H E) ∧ ∀ ds, hearP z = .ok ds → ∀ b us H', Same H H' → H' b = some (.lst us) → FlAll K H' us (ds.map some) → Q (.ref b) H'
theorem RaT.same {C : Addr} {fld : Str} {v : V} {H H' : Hp} {E : XK} (h : RaT C fld v H E) (s : Same H H') : RaT C fld v H' E := fun d H2 s2 hd h2 => h d H2 (s.trans s2) (none_of s hd) h2
section
variable {P : Program} {w : World} {K : PySem.W.Frag} {mg : Str → Option Value} {base : Heap}
theorem ok_history_text {f CH CP : Addr} {fd : FuncData} (F : Fun K "history_text" "history_text" s_history_text f fd) (T : Bi mg) (EH : Err1 P w K mg base CP "BadHistory" CH "at") (D_is_list : Dn P w K mg base CX0 1 "is_list" ["value"] (spIsList K)) (D_is_deed : Dn P w K mg base CX0 3 "is_deed" ["value"] (spIsDeed K)) (D_ended : Dn P w K mg base CX0 1 "ended" ["lines"] (spEnded K)) (D_deed_line : Dn P w K mg base CX0 1 "deed_line" ["deed"] (spDeedLine K)) : FnOk P w K mg base (L2.CX P w) 4 f fd ["history"] (spHist K CH) := by
  refine F.okX sc_history_text (fun vs H Q E h => ?_) (fun cdv A outer s H vs Q E hr h => ?_)
  · obtain ⟨a, us, gs, rfl, _⟩ := h
    rfl
  · obtain ⟨a, us, gs, rfl, hS, hl, hlen, hD, hbad, hgood⟩ := h
    have nd := sc_history_text.nd
    refine ⟨_, pss_cons (ps_if (pt_not (pt_val (pe_d D_is_list (hr.mono (by decide)) pass0 (pa_cons (pv 0) pa_nil)))) (pss_one (raise1 EH rfl (takes_of rfl rfl rfl rfl) (hr.mono (by decide)) pe_non)) pss_nil)
      (pss_cons (ps_for (passes_of rfl) rfl (pi_enum (by rfl) T.enumerate (pa_cons (pv 0) pa_nil)) (pg_tup rfl (pgs_cons (pg_name (i := 1) nd rfl (by first | exact Or.inl rfl | exact Or.inr rfl)) (pgs_cons (pg_name (i := 2) nd rfl (by first | exact Or.inl rfl | exact Or.inr rfl)) pgs_nil))) (pss_one (ps_if (pt_not (pt_val (pe_d D_is_deed (hr.mono (by decide)) pass0 (pa_cons (pv 2) pa_nil)))) (pss_one (raise1 EH rfl (takes_of rfl rfl rfl rfl) (hr.mono (by decide)) (pv 1))) pss_nil)))
      (pss_one (ps_ret (pe_d D_ended (hr.mono (by decide)) pass0 (pa_cons (pe_lc (own := [("deed", 2)]) (g := gName 2) rfl nd (pi_list (pv 0)) (blkOk_by (own := [("deed", 2)]) (N := ["history", "at", "deed"]) (sc := defScope s_history_text) (by decide +kernel)) (fun _ _ _ _ _ => (pg_name (i := 2) nd rfl (by first | exact Or.inl rfl | exact Or.inr rfl))) (fun _ _ _ _ _ => pts_nil) (fun _ _ _ _ _ => (pe_d D_deed_line (hr.mono (by decide)) pass0 (pa_cons (pv 2) pa_nil)))) pa_nil))))), ?_⟩
    refine ⟨_, rfl, _, .lst, rfl, .lst hS, fun H1 S1 => ⟨_, rfl, iteF ?_⟩⟩
    have gat : ∀ {i : Nat} {u : V}, us[i]? = some u → ∃ g, gs[i]? = some g ∧ DdV K H u g.1 g.2 := fun {i u} e => by
      have hi : i < gs.length := by rw [← hlen]; exact (List.getElem?_eq_some_iff.mp e).1
      exact ⟨gs[i], List.getElem?_eq_getElem hi, hD i u _ e (List.getElem?_eq_getElem hi)⟩
    have dds : ∀ {u : V} {g : Kd × List V} {H' : Hp}, Same H H' → DdV K H u g.1 g.2 → DdV K H' u g.1 g.2 := fun {u g H'} s d => ⟨d.1.same s, fun e => by
      obtain ⟨b, h1, h2, h3, h4⟩ := d.2 e
      exact ⟨b, h1, sameT s h2, h3, fun x hx => by obtain ⟨kx, h5, h6⟩ := h4 x hx; exact ⟨kx, h5.same s, h6⟩⟩⟩
    refine ⟨_, rfl, a, us, rfl, SqL.of (S1 _ _ hS), ?_⟩
    refine for_it (walk_enum (xs := us)) (fun i σ Hi => Same H Hi ∧ (∀ j g', j < i → gs[j]? = some g' → okG2 g' = true) ∧ ∃ v1 v2 : Option V, σ = [some (.ref a), v1, v2]) ⟨S1, (fun j g' hj => by omega), _, _, rfl⟩ (fun i σ Hi _ h => SqL.of (h.1 _ _ hS)) ?_ ?_
    · rintro i x σ Hi Hj hi ⟨Si, hok, v1, v2, rfl⟩ ⟨T3, x3, y3, rfl, hT, rfl, hx3, hy3⟩
      have hx3 : V.int (i : Nat) = x3 := Option.some.inj hx3
      subst hx3
      have hy3 : us[i]? = some y3 := hy3
      obtain ⟨g, hg, hd⟩ := gat hy3
      have Sj : Same Hi (upd Hi T3 (.tup [V.int (i : Nat), y3])) := Evl.Ex.new hT
      refine ⟨T3, _, rfl, SqT.of upd_same, rfl, _, _, rfl, _, _, rfl, rfl, ?_⟩
      refine ⟨_, rfl, y3, g.1, g.2, rfl, dds (Si.trans Sj) hd, fun Hk Sk => ⟨_, rfl, ?_⟩⟩
      cases eg : (g.1.isTup && isDeedL g.2) with
      | true =>
        refine iteF' rfl ⟨(Si.trans Sj).trans Sk, fun j g' hj e => ?_, _, _, rfl⟩
        by_cases hji : j = i
        · rw [hji, hg] at e
          rw [← Option.some.inj e]
          exact eg
        · exact hok j g' (by omega) e
      | false =>
        refine iteT' rfl ⟨_, rfl, fun d hd => ?_⟩
        exact ((hbad i g hg eg hok).same ((Si.trans Sj).trans Sk)) d _ (Evl.Ex.new hd) hd upd_same
    · rintro σ Hi ⟨Si, hok, v1, v2, rfl⟩
      have hall : ∀ g ∈ gs, okG2 g = true := fun g hg => by
        obtain ⟨j, hj⟩ := List.getElem?_of_mem hg
        have := (List.getElem?_eq_some_iff.mp hj).1
        exact hok j g (by omega) hj
      obtain ⟨hsz, q⟩ := hgood hall
      refine ⟨_, rfl, a, rfl, ⟨_, SqL.of (Si _ _ hS)⟩, fun D hDn => ?_⟩
      refine lc_it (walk_list (xs := us)) (PvL Hi D (fun i => gs[i]?.map fun g => V.str (deedLine g.2))) (pv_0 hDn) (fun _ _ _ p => SqL.of ((Si.trans p.1) _ _ hS)) ?_ ?_
      · rintro i x H2 H3 hi p ⟨rfl, hx⟩
        obtain ⟨g, hg, hd⟩ := gat hx
        have ho := hall g (at_mem hg)
        unfold okG2 at ho
        rw [Bool.and_eq_true] at ho
        obtain ⟨b, rfl, hb, _⟩ := hd.2 ho.1
        obtain ⟨d1, d2, d3⟩ := deed_parts ho.2
        refine ⟨rfl, ?_⟩
        refine ⟨_, rfl, b, g.2, rfl, sameT (Si.trans p.1) hb, d2, d1, fun H4 S4 => ?_⟩
        exact pv_in p S4 (by simp only [hg, Option.map_some]) (by omega)
      · intro H2 p
        have p3 := p.2.2
        rw [hlen, fm_range] at p3
        refine ⟨D, gs.map fun g => deedLine g.2, rfl, SqL.of (by rw [p3, List.map_map]; rfl), by rw [List.length_map]; exact hsz, fun H3 S3 => ?_⟩
        exact q H3 ((Si.trans p.1).trans S3)
theorem ok_read_history {f CT CP : Addr} {fd : FuncData} (F : Fun K "read_history" "read_history" s_read_history f fd) (T : Bi mg) (EB : Err1 P w K mg base CP "BadText" CT "line") (D_lines_of : Dn P w K mg base (L2.CX P w) 3 "lines_of" ["text"] (spLinesOf K CT)) (D_need_end : Dn P w K mg base (L2.CX P w) 3 "need_end" ["text", "lines"] (spNeedEnd K CT)) (D_deed_of : Dn P w K mg base CX0 4 "deed_of" ["line"] (spDeedOf K)) : FnOk P w K mg base (L2.CX P w) 5 f fd ["text"] (spReadHist K CT) := by
  refine F.okX sc_read_history (fun vs H Q E h => ?_) (fun cdv A outer s H vs Q E hr h => ?_)
  · obtain ⟨v, k, rfl, _⟩ := h
    rfl
  · obtain ⟨v, k, rfl, h, hx, q⟩ := h
    have nd := sc_read_history.nd
    refine ⟨_, pss_cons (ps_set (i := 1) nd rfl (by first | exact Or.inl rfl | exact Or.inr rfl) (pe_dS D_lines_of (hr.mono (by decide)) (takes_of rfl rfl rfl rfl) (pa_cons (pv 0) pa_nil)))
      (pss_cons (ps_setLc (i := 2) (own := [("line", 3)]) (g := gName 3) rfl nd rfl rfl (sw_true rfl rfl rfl (by decide +kernel)) (pi_list (pv 1)) (blkOk_by (own := [("line", 3)]) (N := ["text", "lines", "found", "line"]) (sc := defScope s_read_history) (by decide +kernel)) (fun _ _ _ _ _ => (pg_name (i := 3) nd rfl (by first | exact Or.inl rfl | exact Or.inr rfl))) (fun _ _ _ _ _ => pts_nil) (fun _ _ _ _ _ => (pe_d D_deed_of (hr.mono (by decide)) pass0 (pa_cons (pv 3) pa_nil))))
      (pss_cons (ps_if (pt_cmpR (op_inD (units65 hr)) pe_non (pv 2) (by rfl)) (pss_one (raise1 EB rfl (takes_of rfl rfl rfl rfl) (hr.mono (by decide)) (pe_bm PySem.F.plainAttrs_list PySem.F.slot_list_index PySem.F.type_list_index (mt_indexD (units65 hr)) (pv 2) (pa_cons pe_non pa_nil)))) pss_nil)
      (pss_cons (ps_expr (pe_dS D_need_end (hr.mono (by decide)) (takes_of rfl rfl rfl rfl) (pa_cons (pv 0) (pa_cons (pv 1) pa_nil))))
      (pss_one (ps_ret (pv 2)))))), ?_⟩
    refine ⟨_, rfl, v, k, rfl, h, fun e d H' s hd h2 => hx e d H' s hd h2, fun z e => ?_⟩
    subst e
    obtain ⟨hz, qe, qo⟩ := q z rfl
    refine ⟨by rw [sizeLine_eq]; omega, fun p H1 S1 hp => ?_⟩
    have hsum := sum_lines z
    have hll : (linesP z).length ≤ 90000 := by omega
    refine ⟨_, rfl, p, rfl, ⟨_, SqL.of hp⟩, fun D hD => ?_⟩
    refine lc_it (walk_list (xs := (linesP z).map V.str)) (fun i Hi => Same H1 Hi ∧ ∃ acc, Hi D = some (.lst acc) ∧ acc.length = i ∧ FlAll K Hi acc (((linesP z).take i).map deedC)) ⟨Evl.Ex.new hD, [], upd_same, rfl, .nil⟩ (fun _ _ _ p2 => SqL.of (p2.1 _ _ hp)) ?_ ?_
    · rintro i x H2 H3 hi ⟨S2, acc, hacc, hal, hfl⟩ ⟨rfl, hx⟩
      obtain ⟨l, hl, rfl⟩ := at_map hx
      rw [List.length_map] at hi
      have hlz := mem_sum (at_mem hl)
      refine ⟨rfl, ?_⟩
      refine ⟨_, rfl, l, rfl, by omega, fun v H4 S4 hv => ?_⟩
      have hacc4 := S4 _ _ hacc
      refine ⟨acc, hacc4, by rw [hal, sizeLine_eq]; omega, Evl.Ex.mut (S2.trans S4) hD, acc ++ [v], upd_same, by rw [List.length_append, hal]; rfl, ?_⟩
      rw [List.take_succ, hl, List.map_append]
      exact ((hfl.same S4).grow hacc4).app (.cons (hv.grow hacc4) .nil)
    · rintro H2 ⟨S2, acc, hacc, hal, hfl⟩
      rw [List.length_map, List.take_of_length_le (Nat.le_refl _)] at hfl
      have hos : ∀ o ∈ (linesP z).map deedC, OkO o := fun o ho => by
        obtain ⟨l, _, rfl⟩ := List.mem_map.mp ho
        exact ok_deed l
      have hsh := opts_shaped hos
      refine ⟨_, rfl, _, _, .non, .lst (SqL.of hacc) hfl.dp, by decide +kernel, hsh, _, rfl, ?_⟩
      have e1 : ((((linesP z).map deedC).map optD).any fun d => PyData.eqv d .none) = !((linesP z).map deedC).all Option.isSome := by
        rw [List.any_map]
        have : ((fun d => PyData.eqv d .none) ∘ optD) = fun o : Option (List V) => !o.isSome := by
          funext o
          show PyData.eqv (optD o) .none = !o.isSome
          rw [opt_eqv]
          cases o <;> rfl
        rw [this]
        simp [List.all_eq_not_any_not]
      rw [e1]
      cases ha : ((linesP z).map deedC).all Option.isSome with
      | false =>
        refine iteT' rfl ?_
        have hh : hearP z = .error (((linesP z).map deedC).findIdx Option.isNone : Nat) := by
          unfold hearP
          rw [ha]
          rfl
        have hlt : ((linesP z).map deedC).findIdx Option.isNone < ((linesP z).map deedC).length := by
          rw [List.findIdx_lt_length]
          rw [List.all_eq_false] at ha
          obtain ⟨o, ho, hn⟩ := ha
          exact ⟨o, ho, by cases o with
            | none => rfl
            | some _ => exact absurd rfl hn⟩
        have hat : (((linesP z).map deedC).map optD)[((linesP z).map deedC).findIdx Option.isNone]? = some .none := by
          have h1 := List.findIdx_getElem (p := Option.isNone) (w := hlt)
          rw [List.getElem?_map, List.getElem?_eq_getElem hlt]
          cases e : ((linesP z).map deedC)[((linesP z).map deedC).findIdx Option.isNone] with
          | none => rfl
          | some y => rw [e] at h1; cases h1
        refine ⟨_, rfl, .inl ⟨rfl, _, SqL.of hacc⟩, D, _, _, _, ((linesP z).map deedC).findIdx Option.isNone, _, rfl, rfl, .lst (SqL.of hacc) hfl.dp, .non, hsh, by decide +kernel, hat, by simp [PyData.eqv], fun m z' hm hz' => ?_, fun d hd => ?_⟩
        · rw [List.getElem?_map] at hz'
          cases e : ((linesP z).map deedC)[m]? with
          | none => rw [e] at hz'; cases hz'
          | some o =>
            rw [e] at hz'
            have hz' : optD o = z' := Option.some.inj hz'
            rw [← hz', opt_eqv]
            have hml := (List.getElem?_eq_some_iff.mp e)
            have := List.not_of_lt_findIdx hm
            rw [hml.2] at this
            simpa using this
        · exact ((qe _ hh).same (S1.trans S2)) d _ (Evl.Ex.new hd) hd upd_same
      | true =>
        refine iteF' rfl ?_
        have hh : hearP z = if endOk z then .ok (((linesP z).map deedC).filterMap id) else .error ((linesP z).length : Nat) := by
          unfold hearP
          rw [ha]
          rfl
        refine ⟨_, rfl, _, rfl, z, p, linesP z, rfl, by rw [sizeLine_eq]; omega, SqL.of (S2 _ _ hp), fun he H3 S3 => ?_, fun he => ?_⟩
        · rw [if_pos he] at hh
          refine ⟨_, rfl, qo _ hh D acc H3 ((S1.trans S2).trans S3) (S3 _ _ hacc) ?_⟩
          rw [all_some _ ha]
          exact hfl.same S3
        · rw [if_neg (by rw [he]; decide)] at hh
          exact fun d H' s' hd h2 => ((qe _ hh).same (S1.trans S2)) d H' s' hd h2
end
end WP
namespace WP
open PySem L2
open TL (tl)
def Dd (K : PySem.W.Frag) (H : Hp) (v : V) (xs : List V) : Prop := ∃ a, v = .ref a ∧ SqT K H a xs ∧ xs.length ≤ 4 ∧ ∀ x ∈ xs, Part x
def DdAll (K : PySem.W.Frag) (H : Hp) (us : List V) (ds : List (List V)) : Prop := us.length = ds.length ∧ ∀ (i : Nat) (u : V) (d : List V), us[i]? = some u → ds[i]? = some d → Dd K H u d
theorem Dd.same {K : PySem.W.Frag} {H H' : Hp} {v : V} {xs : List V} (s : Same H H') (h : Dd K H v xs) : Dd K H' v xs := by
  obtain ⟨a, h1, h2, h3⟩ := h
  exact ⟨a, h1, sameT s h2, h3⟩
theorem DdAll.same {K : PySem.W.Frag} {H H' : Hp} {us : List V} {ds : List (List V)} (s : Same H H') (h : DdAll K H us ds) : DdAll K H' us ds := ⟨h.1, fun i u d h1 h2 => (h.2 i u d h1 h2).same s⟩
def spLawText (K : PySem.W.Frag) : Sp := fun vs H Q _ => ∃ (a : Addr) (us : List V) (ds : List (List V)), vs = [.ref a] ∧ SqL K H a us ∧ us.length ≤ 100 ∧ DdAll K H us ds ∧ ∀ H', Same H H' → Q (.str (textL (ds.map deedLine))) H'
def spLawName : Sp := fun vs H Q _ => ∃ (z : Str) (n : Nat), vs = [.str z] ∧ Tx n z ∧ n ≤ 90000 ∧ ∀ H', Same H H' → Q (.bl (isNameS z)) H'
def spLawNum : Sp := fun vs H Q _ => ∃ (z : Str) (n : Nat), vs = [.str z, .int 18] ∧ Tx n z ∧ n ≤ 90000 ∧ ∀ H', Same H H' → Q (.int (numQ z)) H'
def spLawDeed (K : PySem.W.Frag) : Sp := fun vs H Q _ => ∃ (z : Str) (n : Nat), vs = [.str z] ∧ Tx n z ∧ n ≤ 89000 ∧ ∀ v H', Same H H' → Fl K H' v (deedC z) → Q v H'
def spLawDue (K : PySem.W.Frag) : Sp := fun vs H Q _ => ∃ (z : Str) (n : Nat), vs = [.str z] ∧ Tx n z ∧ n ≤ 80000 ∧ ∀ v H', Same H H' → Hr K H' v (hearP z) → Q v H'
def spLawHeard (K : PySem.W.Frag) : Sp := fun vs H Q _ => ∃ (v : V) (k : Kd), vs = [v] ∧ Any K H v k ∧ (k.isStr = false → ∀ H', Same H H' → Q (.int 0) H') ∧
  ∀ z, v = .str z → z.length ≤ 80000 ∧ ∀ v H', Same H H' → Hr K H' v (hearP z) → Q v H'
theorem fm_range2 {α : Type} (l : List α) (g : α → Option V) : (List.range l.length).filterMap (fun i => l[i]?.bind g) = l.filterMap g := by
  induction l with
  | nil => rfl
  | cons a r ih =>
    rw [List.length_cons, List.range_succ_eq_map, List.filterMap_cons, List.filterMap_map]
    simp only [List.getElem?_cons_zero, Option.bind_some, List.filterMap_cons]
    have e : (fun i => (a :: r)[i]?.bind g) ∘ Nat.succ = fun i => r[i]?.bind g := by
      funext i
      simp
    rw [e, ih]
/-- the signs of z that are not in y -/
def offs (z y : Str) : List Str := ((tl z).filter fun c => !decide (c ∈ tl y)).map fun c => (⟨#[c]⟩ : Str)
theorem offs_V (z y : Str) : (List.range z.cps.size).filterMap (fun i => (tl z)[i]?.bind fun c => if !decide (c ∈ tl y) then some (V.str ⟨#[c]⟩) else none) = (offs z y).map V.str := by
  have e : z.cps.size = (tl z).length := by simp [tl]
  rw [e, fm_range2]
  unfold offs
  generalize tl z = l
  induction l with
  | nil => rfl
  | cons a r ih =>
    rw [List.filterMap_cons, List.filter_cons]
    by_cases h : (!decide (a ∈ tl y)) = true
    · simp only [h, if_true, List.map_cons, ih]
    · simp only [h, ih]
      rfl
theorem offs_ok {n : Nat} {z : Str} (h : Tx n z) (y : Str) : ∀ x ∈ offs z y, PyData.strOk x = true := fun x hx => by
  obtain ⟨c, hc, rfl⟩ := List.mem_map.mp hx
  exact (h.one (List.mem_filter.mp hc).1).str
theorem offs_nil (z y : Str) : (offs z y).isEmpty = (tl z).all (fun c => decide (c ∈ tl y)) := by
  unfold offs
  rw [List.isEmpty_map]
  rw [Bool.eq_iff_iff, List.isEmpty_iff, List.filter_eq_nil_iff, List.all_eq_true]
  simp
theorem eqNilS {K : PySem.W.Frag} {H : Hp} {a p : Addr} {ns : List Str} {Q : VK} (h : H a = some (.lst (ns.map V.str))) (ok : ∀ x ∈ ns, PyData.strOk x = true) (hp : H p = none) (q : Q (.bl ns.isEmpty) (upd H p (.lst []))) : rEqD K (.ref a) (.ref p) (upd H p (.lst [])) Q := by
  refine ⟨_, _, .lst (SqL.of (by rw [upd_ne (ne_of_none h hp)]; exact h)) (dpS ns), .lst (SqL.of upd_same) .nil, shS ok, shN, ?_⟩
  rw [eqv_nil]
  cases ns <;> exact q
theorem line_len {xs : List V} (h : ∀ x ∈ xs, Part x) (hl : xs.length ≤ 4) : (deedLine xs).length ≤ 100 := by
  unfold deedLine
  rw [TL.join_eq]
  cases xs with
  | nil => show (Str.empty).length ≤ _; simp [Str.empty, Str.length]
  | cons a l =>
    rw [List.map_cons, PyProof.Rows.len_join_cons]
    have := sum_parts (a :: l) h
    rw [List.map_cons] at this
    have e1 : (" " : Str).length = 1 := by decide
    rw [e1, List.length_map]
    rw [List.length_cons] at hl this
    omega
section
variable {P : Program} {w : World} {K : PySem.W.Frag} {mg : Str → Option Value} {base : Heap}
theorem ok__law_line {f : Addr} {fd : FuncData} (F : Fun K "_law_line" "_law_line" s__law_line f fd) (T : Bi mg) : FnOk P w K mg base CX0 1 f fd ["_law_deed"] (spDeedLine K) := by
  refine F.ok sc__law_line (fun vs H Q E h => ?_) (fun cdv A outer s H vs Q E hr h => ?_)
  · obtain ⟨a, ls, rfl, _⟩ := h
    rfl
  · obtain ⟨a, xs, rfl, hS, hl, hp, q⟩ := h
    have nd := sc__law_line.nd
    refine ⟨_, pss_one (ps_ret (pe_join pe_str (pe_lc (own := [("_law_part", 1)]) (g := gName 1) rfl nd (pi_tup (pv 0)) (blkOk_by (own := [("_law_part", 1)]) (N := ["_law_deed", "_law_part"]) (sc := defScope s__law_line) (by decide +kernel)) (fun _ _ _ _ _ => (pg_name (i := 1) nd rfl (by first | exact Or.inl rfl | exact Or.inr rfl))) (fun _ _ _ _ _ => pts_nil) (fun _ _ _ _ _ => (pe_callTy call_str_any (by rfl) T.str (by decide +kernel) (pa_cons (pv 1) pa_nil)))))), ?_⟩
    refine ⟨⟨_, rfl⟩, _, rfl, a, rfl, ⟨_, hS⟩, fun D hD => ?_⟩
    refine lc_it (walk_tup (xs := xs)) (PvL H D (fun i => xs[i]?.map fun x => V.str (showV x))) (pv_0 hD) (fun _ _ _ p => sameT p.1 hS) ?_ ?_
    · rintro i x H1 H2 hi p ⟨rfl, hx⟩
      refine ⟨rfl, ?_⟩
      have e := pv_in p (Same.refl _) (y := V.str (showV x)) (by simp only [hx, Option.map_some]) (by omega)
      rcases hp x (at_mem hx) with ⟨j, rfl, h0, h1⟩ | ⟨w, rfl, h1, h2⟩
      · exact ⟨_, rfl, .inl ⟨j, rfl, Nat.lt_of_lt_of_le (PySem.Flt.log2_lt_of (k := 64) (by decide) (by omega)) (by decide), e⟩⟩
      · exact ⟨_, rfl, .inr ⟨w, rfl, e⟩⟩
    · intro H1 p
      have p3 := p.2.2
      rw [fm_range] at p3
      refine ⟨_, D, xs.map showV, rfl, rfl, .inl (SqL.of (by rw [p3, List.map_map]; rfl)), ?_, ?_⟩
      · have := sum_parts xs hp
        rw [List.length_map]
        have e1 : (" " : Str).length = 1 := by decide
        rw [e1]
        omega
      · exact q H1 p.1
theorem ok__law_text_of {f : Addr} {fd : FuncData} (F : Fun K "_law_text_of" "_law_text_of" s__law_text_of f fd) (T : Bi mg) (D__law_line : Dn P w K mg base CX0 1 "_law_line" ["_law_deed"] (spDeedLine K)) : FnOk P w K mg base CX0 2 f fd ["_law_history"] (spLawText K) := by
  refine F.ok sc__law_text_of (fun vs H Q E h => ?_) (fun cdv A outer s H vs Q E hr h => ?_)
  · obtain ⟨a, us, ds, rfl, _⟩ := h
    rfl
  · obtain ⟨a, us, ds, rfl, hS, hl, ⟨hlen, hd⟩, q⟩ := h
    have nd := sc__law_text_of.nd
    have gat : ∀ {i : Nat} {u : V}, us[i]? = some u → ∃ d, ds[i]? = some d ∧ Dd K H u d := fun {i u} e => by
      have hi : i < ds.length := by rw [← hlen]; exact (List.getElem?_eq_some_iff.mp e).1
      exact ⟨ds[i], List.getElem?_eq_getElem hi, hd i u _ e (List.getElem?_eq_getElem hi)⟩
    have allP : ∀ d ∈ ds, (deedLine d).length ≤ 100 := fun d hm => by
      obtain ⟨j, hj⟩ := List.getElem?_of_mem hm
      have hjl := (List.getElem?_eq_some_iff.mp hj).1
      obtain ⟨b, _, _, h3, h4⟩ := hd j (us[j]'(by omega)) d (List.getElem?_eq_getElem _) hj
      exact line_len h4 h3
    refine ⟨_, pss_one (ps_ret (pe_join pe_str (pe_lc (own := [("_law_deed", 1)]) (g := gName 1) rfl nd (pi_list (pv 0)) (blkOk_by (own := [("_law_deed", 1)]) (N := ["_law_history", "_law_deed"]) (sc := defScope s__law_text_of) (by decide +kernel)) (fun _ _ _ _ _ => (pg_name (i := 1) nd rfl (by first | exact Or.inl rfl | exact Or.inr rfl))) (fun _ _ _ _ _ => pts_nil) (fun _ _ _ _ _ => (pe_op op_add_str (pe_d D__law_line (hr.mono (by decide)) pass0 (pa_cons (pv 1) pa_nil)) pe_str))))), ?_⟩
    refine ⟨⟨_, rfl⟩, _, rfl, a, rfl, ⟨_, hS⟩, fun D hD => ?_⟩
    refine lc_it (walk_list (xs := us)) (PvL H D (fun i => ds[i]?.map fun d => V.str (deedLine d ++ nl))) (pv_0 hD) (fun _ _ _ p => p.1.seq hS) ?_ ?_
    · rintro i x H1 H2 hi p ⟨rfl, hx⟩
      obtain ⟨d, hdd, b, rfl, h2, h3, h4⟩ := gat hx
      have hll := line_len h4 h3
      refine ⟨rfl, ?_⟩
      refine ⟨_, rfl, b, d, rfl, sameT p.1 h2, h3, h4, fun H3 S3 => ?_⟩
      refine ⟨_, _, rfl, rfl, ?_, pv_in p S3 (by simp only [hdd, Option.map_some]) (by omega)⟩
      have e1 : ("\n" : Str).length = 1 := by decide
      rw [e1, sizeLine_eq]
      omega
    · intro H1 p
      have p3 := p.2.2
      rw [hlen, fm_range] at p3
      refine ⟨_, D, (ds.map deedLine).map (· ++ nl), rfl, rfl, .inl (SqL.of (by rw [p3, List.map_map, List.map_map]; rfl)), ?_, ?_⟩
      · rw [sum_nl]
        have e1 : ("" : Str).length = 0 := by decide
        rw [e1, Nat.mul_zero, Nat.add_zero, List.length_map]
        have : ∀ l : List (List V), (∀ d ∈ l, (deedLine d).length ≤ 100) → ((l.map deedLine).map (·.length)).sum ≤ 100 * l.length := by
          intro l
          induction l with
          | nil => intro _; simp
          | cons a r ih =>
            intro h
            have h1 := h a List.mem_cons_self
            have h2 := ih fun d hd => h d (List.mem_cons_of_mem _ hd)
            simp only [List.map_cons, List.sum_cons, List.length_cons]
            omega
        have := this ds allP
        omega
      · exact q H1 p.1
theorem ok__law_is_name {f : Addr} {fd : FuncData} (F : Fun K "_law_is_name" "_law_is_name" s__law_is_name f fd) (T : Bi mg) : FnOk P w K mg base CX0 1 f fd ["_law_word"] spLawName := by
  refine F.ok sc__law_is_name (fun vs H Q E h => ?_) (fun cdv A outer s H vs Q E hr h => ?_)
  · obtain ⟨z, n, rfl, _⟩ := h
    rfl
  · obtain ⟨z, n, rfl, hx, hn, q⟩ := h
    have nd := sc__law_is_name.nd
    have hz := hx.len
    have hsz : z.cps.size = z.length := rfl
    have fin : isNameS z = false → Q (.bl false) H := fun e => by
      have := q H (Same.refl H)
      rw [e] at this
      exact this
    refine ⟨_, pss_one (ps_ret (pe_and (pe_chain op_le op_le pe_int (pe_callB call_len (by rfl) T.len (by decide +kernel) (pa_cons (pv 0) pa_nil)) pe_int) (pe_one (pe_cmpR (op_eqD hr.units) (pe_lc (own := [("_law_sign", 1)]) (g := gName 1) rfl nd (pi_str (pv 0)) (blkOk_by (own := [("_law_sign", 1)]) (N := ["_law_word", "_law_sign"]) (sc := defScope s__law_is_name) (by decide +kernel)) (fun _ _ _ _ _ => (pg_name (i := 1) nd rfl (by first | exact Or.inl rfl | exact Or.inr rfl))) (fun _ _ _ _ _ => (pts_one (pt_cmpR op_notIn_sign (pv 1) pe_str (by rfl)))) (fun _ _ _ _ _ => (pv 1))) (pe_lst pa_nil) (nomark _))))), ?_⟩
    refine ⟨_, rfl, _, _, rfl, ⟨by rw [sizeLine_eq]; omega, rfl⟩, _, _, rfl, rfl, _, rfl, ?_⟩
    refine ite2 (fun h1 => ?_) (fun h1 => ?_)
    · refine ⟨_, _, rfl, rfl, _, rfl, ?_⟩
      refine ite2 (fun h2 => ?_) (fun h2 => ?_)
      · simp only [decide_eq_true_eq] at h1 h2
        refine ⟨_, rfl, z, rfl, fun D hD => ?_⟩
        refine lc_it walk_str (PvL H D (fun i => (tl z)[i]?.bind fun c => if !decide (c ∈ tl alphabet) then some (V.str ⟨#[c]⟩) else none)) (pv_0 hD) (fun _ _ _ _ => trivial) ?_ ?_
        · rintro i x H1 H2 hi p ⟨rfl, c, hc, rfl⟩
          have hc' : (tl z)[i]? = some c := by rw [← hc]; simp [tl]
          refine ⟨rfl, ?_⟩
          refine ⟨_, rfl, _, _, rfl, rfl, _, rfl, ?_⟩
          refine ite2 (fun h3 => ?_) (fun h3 => ?_)
          · refine ⟨_, rfl, pv_in p (Same.refl _) ?_ (by omega)⟩
            rw [hc', Option.bind_some]
            exact if_pos h3
          · refine pv_out p (Same.refl _) ?_
            rw [hc', Option.bind_some]
            exact if_neg h3
        · intro H1 p
          have p3 := p.2.2
          rw [offs_V] at p3
          refine ⟨(by show 0 ≤ sizeLine; decide), fun p4 hp4 => eqNilS p3 (offs_ok hx _) hp4 ?_⟩
          rw [offs_nil]
          have := q _ (p.1.trans (Evl.Ex.new (o := .lst []) hp4))
          have e : isNameS z = (tl z).all fun c => decide (c ∈ tl alphabet) := by
            unfold isNameS
            rw [decide_eq_true h1, decide_eq_true h2]
            rfl
          rw [e] at this
          exact this
      · simp only [decide_eq_true_eq] at h2
        refine fin ?_
        unfold isNameS
        rw [decide_eq_false h2, Bool.and_false]
        rfl
    · simp only [decide_eq_true_eq] at h1
      refine ⟨_, rfl, iteF ?_⟩
      refine fin ?_
      unfold isNameS
      rw [decide_eq_false h1]
      rfl
theorem ok__law_number_of {f : Addr} {fd : FuncData} (F : Fun K "_law_number_of" "_law_number_of" s__law_number_of f fd) (T : Bi mg) : FnOk P w K mg base CX0 1 f fd ["_law_word", "_law_most"] spLawNum := by
  refine F.ok sc__law_number_of (fun vs H Q E h => ?_) (fun cdv A outer s H vs Q E hr h => ?_)
  · obtain ⟨z, n, rfl, _⟩ := h
    rfl
  · obtain ⟨z, n, rfl, hx, hn, q⟩ := h
    have nd := sc__law_number_of.nd
    have hz := hx.len
    have hsz : z.cps.size = z.length := rfl
    have fin : ∀ H', Same H H' → isNumS z = false → Q (.int (-1)) H' := fun H' s e => by
      have := q H' s
      unfold numQ at this
      rw [e] at this
      exact this
    refine ⟨_, pss_cons (ps_if (PW.pt (pw_or (pt_not (pt_chain op_le op_le pe_int (pe_callB call_len (by rfl) T.len (by decide +kernel) (pa_cons (pv 0) pa_nil)) (pv 1))) (pw_or1 (pt_cmpR (op_neD hr.units) (pe_lc (own := [("_law_sign", 2)]) (g := gName 2) rfl nd (pi_str (pv 0)) (blkOk_by (own := [("_law_sign", 2)]) (N := ["_law_word", "_law_most", "_law_sign"]) (sc := defScope s__law_number_of) (by decide +kernel)) (fun _ _ _ _ _ => (pg_name (i := 2) nd rfl (by first | exact Or.inl rfl | exact Or.inr rfl))) (fun _ _ _ _ _ => (pts_one (pt_cmpR op_notIn_sign (pv 2) pe_str (by rfl)))) (fun _ _ _ _ _ => (pv 2))) (pe_lst pa_nil) (nomark _))))) (pss_one (ps_ret (pe_un un_neg pe_int))) pss_nil)
      (pss_one (ps_ret (pe_ifExp (PW.pt (pw_or (pt_cmpR op_eq (pv 0) pe_str (nomark _)) (pw_or1 (pt_cmpR op_ne (pe_ix ix_str (pv 0) pe_int (fun _ _ => rfl)) pe_str (nomark _))))) (pe_callTy call_int_str (by rfl) T.int (by decide +kernel) (pa_cons (pv 0) pa_nil)) (pe_un un_neg pe_int)))), ?_⟩
    refine ⟨_, rfl, _, _, rfl, ⟨by rw [sizeLine_eq]; omega, rfl⟩, _, _, rfl, rfl, _, rfl, ?_⟩
    refine ite2 (fun h1 => ?_) (fun h1 => ?_)
    · refine ⟨_, rfl, _, _, rfl, rfl, _, rfl, ?_⟩
      refine ite2 (fun h2 => ?_) (fun h2 => ?_)
      · refine ⟨_, rfl, fin H (Same.refl H) ?_⟩
        simp only [Bool.not_eq_true', decide_eq_false_iff_not] at h2
        unfold isNumS
        rw [decide_eq_false h2, Bool.and_false]
        rfl
      · simp only [Bool.not_eq_true', decide_eq_false_iff_not, Decidable.not_not, decide_eq_true_eq] at h1 h2
        refine ⟨_, rfl, z, rfl, fun D hD => ?_⟩
        refine lc_it walk_str (PvL H D (fun i => (tl z)[i]?.bind fun c => if !decide (c ∈ tl digits) then some (V.str ⟨#[c]⟩) else none)) (pv_0 hD) (fun _ _ _ _ => trivial) ?_ ?_
        · rintro i x H1 H2 hi p ⟨rfl, c, hc, rfl⟩
          have hc' : (tl z)[i]? = some c := by rw [← hc]; simp [tl]
          refine ⟨rfl, ?_⟩
          refine ⟨_, rfl, _, _, rfl, rfl, _, rfl, ?_⟩
          refine ite2 (fun h3 => ?_) (fun h3 => ?_)
          · refine ⟨_, rfl, pv_in p (Same.refl _) ?_ (by omega)⟩
            rw [hc', Option.bind_some]
            exact if_pos h3
          · refine pv_out p (Same.refl _) ?_
            rw [hc', Option.bind_some]
            exact if_neg h3
        · intro H1 p
          have p3 := p.2.2
          rw [offs_V] at p3
          refine ⟨(by show 0 ≤ sizeLine; decide), fun p4 hp4 => neNilS p3 (offs_ok hx _) hp4 ?_⟩
          rw [offs_nil]
          have S4 : Same H (upd H1 p4 (.lst [])) := p.1.trans (Evl.Ex.new hp4)
          refine ⟨_, rfl, ?_⟩
          cases e3 : (tl z).all (fun c => decide (c ∈ tl digits)) with
          | false =>
            refine iteT ⟨_, rfl, fin _ S4 ?_⟩
            unfold isNumS
            rw [e3, Bool.and_false]
            rfl
          | true =>
            refine iteF ?_
            have e4 : isNumS z = (decide (z = "0") || !head0 z) := by
              unfold isNumS
              rw [decide_eq_true h1, decide_eq_true h2, e3]
              rfl
            have h4 : 0 < (tl z).length := by rw [← TL.len_tl]; omega
            have e5 : (tl z).head? = some (tl z)[0] := by rw [List.head?_eq_getElem?]; simp [h4]
            have e6 : decide (V.str ⟨#[(tl z)[0]]⟩ = V.str "0") = head0 z := by
              unfold head0
              rw [e5, Bool.eq_iff_iff]
              simp only [decide_eq_true_eq, beq_iff_eq, Option.some.injEq]
              exact ⟨fun e => by have := congrArg tl (V.str.inj e); rw [show tl "0" = [48] by decide +kernel] at this; exact (List.cons.inj this).1, fun e => by rw [e]; rfl⟩
            have yes : isNumS z = true → ∀ Qx : VK, (Qx = Q) → intText? z = some (numOf z) ∧ Qx (.int (numOf z)) (upd H1 p4 (.lst [])) := fun e Qx eQ => by
              refine ⟨(numOf_eq e).1, ?_⟩
              rw [eQ]
              have := q _ S4
              unfold numQ at this
              rw [if_pos e] at this
              exact this
            refine ⟨_, rfl, rfl, _, rfl, ?_⟩
            refine ite2 (fun h3 => ?_) (fun h3 => ?_)
            · simp only [decide_eq_true_eq] at h3
              have h3 : z = "0" := V.str.inj h3
              have e7 : isNumS z = true := by rw [e4, decide_eq_true h3]; rfl
              obtain ⟨y1, y2⟩ := yes e7 Q rfl
              exact ⟨_, rfl, z, _, rfl, y1, by omega, y2⟩
            · simp only [decide_eq_true_eq] at h3
              have h3 : ¬ z = "0" := fun e => h3 (by rw [e])
              refine ⟨_, rfl, z, 0, (tl z)[0], rfl, rfl, by rw [sizeLine_eq]; omega, atI_nat (xs := tl z) (j := 0) (by simp [h4]), rfl, _, rfl, ?_⟩
              rw [e6]
              cases e8 : head0 z with
              | true =>
                refine iteF ⟨_, rfl, fin _ S4 ?_⟩
                rw [e4, decide_eq_false h3, e8]
                rfl
              | false =>
                have e7 : isNumS z = true := by rw [e4, e8, Bool.or_comm]; rfl
                obtain ⟨y1, y2⟩ := yes e7 Q rfl
                exact iteT ⟨_, rfl, z, _, rfl, y1, by omega, y2⟩
    · refine ⟨_, rfl, ?_⟩
      refine iteT ⟨_, rfl, fin H (Same.refl H) ?_⟩
      simp only [decide_eq_true_eq] at h1
      unfold isNumS
      rw [decide_eq_false h1]
      rfl
end
end WP
namespace WP
open PySem L2
open TL (tl)
theorem sgn_at {ss : List Str} {i : Nat} {x : V} (h : (signs (sgnT ss))[i]? = some x) : ∃ s, ss[i]? = some s ∧ x = .str ⟨#[sgnC s]⟩ := by
  unfold signs sgnT at h
  rw [List.getElem?_map] at h
  simp only [List.toList_toArray, List.getElem?_map] at h
  cases e : ss[i]? with
  | none => rw [e] at h; cases h
  | some s =>
    rw [e] at h
    exact ⟨s, rfl, (Option.some.inj h).symm⟩
theorem one_eq (c d : Nat) : (V.str ⟨#[c]⟩ = V.str ⟨#[d]⟩) ↔ c = d := ⟨fun e => by have := congrArg tl (V.str.inj e); exact (List.cons.inj this).1, fun e => by rw [e]⟩
section
variable {P : Program} {w : World} {K : PySem.W.Frag} {mg : Str → Option Value} {base : Heap}
theorem ok__law_deed_of {f : Addr} {fd : FuncData} (F : Fun K "_law_deed_of" "_law_deed_of" s__law_deed_of f fd) (T : Bi mg) (D__law_is_name : Dn P w K mg base CX0 1 "_law_is_name" ["_law_word"] spLawName) (D__law_number_of : Dn P w K mg base CX0 1 "_law_number_of" ["_law_word", "_law_most"] spLawNum) : FnOk P w K mg base CX0 2 f fd ["_law_line_here"] (spLawDeed K) := by
  refine F.ok sc__law_deed_of (fun vs H Q E h => ?_) (fun cdv A outer s H vs Q E hr h => ?_)
  · obtain ⟨z, n, rfl, _⟩ := h
    rfl
  · obtain ⟨z, n, rfl, hx, hn, q⟩ := h
    have hu := hu_of hr
    have nd := sc__law_deed_of.nd
    have hz := hx.len
    have hq : ∀ H', Same H H' → deedC z = none → Q .non H' := fun H' s e => by
      refine q .non H' s ?_
      rw [e]
      rfl
    refine ⟨_, pss_cons (ps_set (i := 1) nd rfl (by first | exact Or.inl rfl | exact Or.inr rfl) (pe_split (pv 0) pe_str))
      (pss_cons (ps_set (i := 2) nd rfl (by first | exact Or.inl rfl | exact Or.inr rfl) (pe_disp (pps_cons pe_str pe_str (pps_cons pe_str pe_str (pps_cons pe_str pe_str (pps_cons pe_str pe_str (pps_cons pe_str pe_str (pps_cons pe_str pe_str (pps_cons pe_str pe_str pps_nil))))))) (by rfl) (by rfl) (fun z => by cases z) (by decide)))
      (pss_cons (ps_if (PW.pt (pw_or (pt_cmp (pc_dnotin hu (pe_ix ix_list (pv 1) pe_int (fun _ _ => rfl)) (pv 2))) (pw_or1 (pt_cmpR op_ne (pe_callB call_len (by rfl) T.len (by decide +kernel) (pa_cons (pv 1) pa_nil)) (pe_op op_add (pe_callB call_len (by rfl) T.len (by decide +kernel) (pa_cons (pe_dget hu (pv 2) (pe_ix ix_list (pv 1) pe_int (fun _ _ => rfl)) (fun _ _ => rfl)) pa_nil)) pe_int) (nomark _))))) (pss_one (ps_ret pe_non)) pss_nil)
      (pss_cons (ps_set (i := 3) nd rfl (by first | exact Or.inl rfl | exact Or.inr rfl) (pe_lst (pa_cons (pe_ix ix_list (pv 1) pe_int (fun _ _ => rfl)) pa_nil)))
      (pss_cons (ps_for PassesOwn.never rfl (pi_zipM (by rfl) T.zip (pa_cons (pe_dget hu (pv 2) (pe_ix ix_list (pv 1) pe_int (fun _ _ => rfl)) (fun _ _ => rfl)) (pa_cons (pe_slice sl_list (pv 1) (po_some pe_int) po_none) pa_nil))) (pg_tup rfl (pgs_cons (pg_name (i := 4) nd rfl (by first | exact Or.inl rfl | exact Or.inr rfl)) (pgs_cons (pg_name (i := 5) nd rfl (by first | exact Or.inl rfl | exact Or.inr rfl)) pgs_nil))) (pss_cons (ps_set (i := 6) nd rfl (by first | exact Or.inl rfl | exact Or.inr rfl) (pe_d D__law_number_of (hr.mono (by decide)) pass0 (pa_cons (pv 5) (pa_cons pe_int pa_nil))))
      (pss_cons (ps_if (PW.pt (pw_or (PW.pt (pw_and (pt_cmpR op_eq (pv 4) pe_str (nomark _)) (pw_and1 (pt_not (pt_val (pe_d D__law_is_name (hr.mono (by decide)) pass0 (pa_cons (pv 5) pa_nil))))))) (pw_or (PW.pt (pw_and (pt_cmpR op_eq (pv 4) pe_str (nomark _)) (pw_and1 (pt_cmpR op_lt (pv 6) pe_int (nomark _))))) (pw_or1 (PW.pt (pw_and (pt_cmpR op_eq (pv 4) pe_str (nomark _)) (pw_and1 (pt_cmpR op_lt (pv 6) pe_int (nomark _))))))))) (pss_one (ps_ret pe_non)) pss_nil)
      (pss_one (ps_expr (pe_bm PySem.F.plainAttrs_list PySem.F.slot_list_append PySem.F.type_list_append mt_append (pv 3) (pa_cons (pe_ifExp (pt_cmpR op_eq (pv 4) pe_str (nomark _)) (pv 5) (pv 6)) pa_nil)))))))
      (pss_one (ps_ret (pe_callTy call_tuple_of (by rfl) T.tuple (by decide +kernel) (pa_cons (pv 3) pa_nil)))))))), ?_⟩
    refine ⟨_, rfl, ⟨_, rfl⟩, z, " ", rfl, rfl, by decide, by rw [sizeLine_eq]; omega, fun pW hW => ?_⟩
    have htx := hx.split (y := " ") (by decide)
    cases hs : Txt.split z " " with
    | nil => exact absurd hs (split_no1 z)
    | cons w0 r =>
      rw [hs] at htx
      have S1 : Same H (upd H pW (.lst ((w0 :: r).map V.str))) := Evl.Ex.new hW
      have hW1 : upd H pW (.lst ((w0 :: r).map V.str)) pW = some (.lst ((w0 :: r).map V.str)) := upd_same
      generalize upd H pW (.lst ((w0 :: r).map V.str)) = H1 at S1 hW1 ⊢
      refine fun d hd => ?_
      refine ⟨upd_same, formsQ, rfl, (by show 7 ≤ 15; decide), ?_⟩
      rw [merge_nil (by decide +kernel)]
      have eD : upd (upd H1 d (.dK [])) d (.dK formsQ) = upd H1 d (.dK formsQ) := by
        funext b
        by_cases hb : b = d
        · rw [hb, upd_same, upd_same]
        · rw [upd_ne hb, upd_ne hb, upd_ne hb]
      rw [eD]
      have S2 : Same H1 (upd H1 d (.dK formsQ)) := Evl.Ex.new hd
      have hd2 : upd H1 d (.dK formsQ) d = some (.dK formsQ) := upd_same
      have hW2 := S2 _ _ hW1
      have S2 := S1.trans S2
      generalize upd H1 d (.dK formsQ) = H2 at S2 hd2 hW2 ⊢
      have dg : ∀ {H' : Hp}, H' d = some (.dK formsQ) → DGet H' d (.str w0) ((formOf w0).map fun ss => V.str (sgnT ss)) := fun {H'} e => by
        rw [← val_forms]
        exact DGet.k (k := Sum.inr w0) e
      refine ⟨_, rfl, pW, _, _, _, rfl, rfl, SqL.of hW2, atI_nat (j := 0) rfl, _, rfl, d, _, rfl, dg hd2, _, rfl, ?_⟩
      cases hf : formOf w0 with
      | none =>
        refine iteT (hq H2 S2 ?_)
        unfold deedC
        simp only [hs, hf]
      | some ss =>
        refine iteF ?_
        rw [hf] at dg
        have dg : ∀ {H' : Hp}, H' d = some (.dK formsQ) → DGet H' d (.str w0) (some (V.str (sgnT ss))) := dg
        have hr3 : ss.length ≤ 3 := (form_word hf).2.2.2
        have els : (sgnT ss).length = ss.length := by unfold sgnT; simp [Str.length]
        refine ⟨_, rfl, _, _, rfl, .inl ⟨_, SqL.of hW2, rfl⟩, _, rfl, _, rfl, pW, _, _, _, rfl, rfl, SqL.of hW2, atI_nat (j := 0) rfl, _, _, rfl, dg hd2, _, _, rfl, ⟨by rw [els, sizeLine_eq]; omega, rfl⟩, _, _, rfl, rfl, rfl, _, rfl, ?_⟩
        have hq2 : deedC z = if r.length = ss.length then (seqO (List.zipWith partC ss r)).map (.str w0 :: ·) else none := by
          unfold deedC
          simp only [hs, hf]
        rw [els]
        by_cases hlen : r.length = ss.length
        · refine iteF' (by simp [hlen]) ?_
          rw [if_pos hlen] at hq2
          refine ⟨_, rfl, pW, _, _, _, rfl, rfl, SqL.of hW2, atI_nat (j := 0) rfl, (by show 1 ≤ sizeLine; decide), fun L hL => ?_⟩
          have S3 : Same H2 (upd H2 L (.lst [V.str w0])) := Evl.Ex.new hL
          have hL3 : upd H2 L (.lst [V.str w0]) L = some (.lst [V.str w0]) := upd_same
          have hW3 := S3 _ _ hW2
          have hd3 := S3 _ _ hd2
          generalize upd H2 L (.lst [V.str w0]) = H3 at S3 hL3 hW3 hd3 ⊢
          refine ⟨_, rfl, _, rfl, pW, _, _, _, rfl, rfl, SqL.of hW3, atI_nat (j := 0) rfl, _, _, rfl, dg hd3, _, rfl, 1, rfl, pW, _, rfl, SqL.of hW3, fun p hp => ?_⟩
          have eC : cutV ((w0 :: r).map V.str) (some 1) none = r.map V.str := cut1 _ _
          rw [eC]
          have S4 : Same H3 (upd H3 p (.lst (r.map V.str))) := Evl.Ex.new hp
          have hp4 : upd H3 p (.lst (r.map V.str)) p = some (.lst (r.map V.str)) := upd_same
          have hL4 := S4 _ _ hL3
          have npL : p ≠ L := fun e => by rw [e, hL3] at hp; cases hp
          generalize upd H3 p (.lst (r.map V.str)) = H4 at S4 hp4 hL4 ⊢
          refine ⟨_, _, _, _, _, _, zStr K (sgnT ss), zLst K p (r.map V.str), rfl, trivial, SqL.of hp4, ?_⟩
          have esl : (signs (sgnT ss)).length = ss.length := by unfold signs sgnT; simp
          refine for_it (walk_zipM (n := r.length) (by simp [hlen, esl])) (fun i σ Hi => Same H2 Hi ∧ Hi p = some (.lst (r.map V.str)) ∧ ∃ (xs : List V) (v4 v5 v6 : Option V), Hi L = some (.lst (V.str w0 :: xs)) ∧ (List.zipWith partC ss r).take i = xs.map some ∧ σ = [some (.str z), some (.ref pW), some (.ref d), some (.ref L), v4, v5, v6])
            ⟨S3.trans S4, hp4, [], _, _, _, hL4, rfl, rfl⟩ (fun i σ Hi _ h => ⟨trivial, SqL.of h.2.1⟩) ?_ ?_
          · rintro i x σ Hi Hj hi ⟨Si, hpi, xs, v4, v5, v6, hLi, hti, rfl⟩ ⟨T3, x3, y3, rfl, hT, rfl, hx3, hy3⟩
            obtain ⟨s3, hs3, rfl⟩ := sgn_at hx3
            obtain ⟨w3, hw3, rfl⟩ := at_map hy3
            have htw := htx.at (List.mem_cons_of_mem _ (at_mem hw3))
            have hsort := form_sorts hf s3 (at_mem hs3)
            have Sj : Same Hi (upd Hi T3 (.tup [V.str ⟨#[sgnC s3]⟩, V.str w3])) := Evl.Ex.new hT
            have hpj := Sj _ _ hpi
            have hLj := Sj _ _ hLi
            have hTj : upd Hi T3 (.tup [V.str ⟨#[sgnC s3]⟩, V.str w3]) T3 = some (.tup [V.str ⟨#[sgnC s3]⟩, V.str w3]) := upd_same
            generalize upd Hi T3 (.tup [V.str ⟨#[sgnC s3]⟩, V.str w3]) = Hj at Sj hpj hLj hTj ⊢
            have hzi : (List.zipWith partC ss r)[i]? = some (partC s3 w3) := by rw [List.getElem?_zipWith, hs3, hw3]
            have hlx : (V.str w0 :: xs).length < sizeLine := by
              have := congrArg List.length hti
              rw [List.length_take, List.length_map] at this
              rw [sizeLine_eq, List.length_cons]
              omega
            have app : ∀ (x : V) (Hk : Hp) (v6 : Option V), partC s3 w3 = some x → Same Hj Hk → Hk L = some (.lst (V.str w0 :: xs)) → Hk p = some (.lst (r.map V.str)) →
                Same H2 (upd Hk L (.lst ((V.str w0 :: xs) ++ [x]))) ∧ upd Hk L (.lst ((V.str w0 :: xs) ++ [x])) p = some (.lst (r.map V.str)) ∧ ∃ (ys : List V) (v4 v5 v6' : Option V), upd Hk L (.lst ((V.str w0 :: xs) ++ [x])) L = some (.lst (V.str w0 :: ys)) ∧ (List.zipWith partC ss r).take (i + 1) = ys.map some ∧ ([some (.str z), some (.ref pW), some (.ref d), some (.ref L), some (.str ⟨#[sgnC s3]⟩), some (.str w3), v6] : St) = [some (.str z), some (.ref pW), some (.ref d), some (.ref L), v4, v5, v6'] := fun x Hk v6 e Sk hLk hpk =>
              ⟨Evl.Ex.mut ((Si.trans Sj).trans Sk) hL, by rw [upd_ne npL]; exact hpk, xs ++ [x], _, _, _, upd_same, take_step hti (by rw [hzi, e]), rfl⟩
            have bad : ∀ Hk, Same Hj Hk → partC s3 w3 = none → Q .non Hk := fun Hk Sk e => by
              refine hq Hk (S2.trans ((Si.trans Sj).trans Sk)) ?_
              rw [hq2, seqO_none]
              · rfl
              · rw [e] at hzi
                exact at_mem hzi
            refine ⟨T3, _, rfl, SqT.of hTj, rfl, _, _, rfl, _, _, rfl, rfl, ?_⟩
            refine ⟨_, rfl, w3, _, rfl, htw, by omega, fun Hk Sk => ?_⟩
            have hLk := Sk _ _ hLj
            have hpk := Sk _ _ hpj
            rcases hsort with rfl | rfl | rfl
            · have hp := part_f w3
              refine ⟨_, rfl, rfl, _, rfl, iteT' (by decide +kernel) ?_⟩
              refine ⟨_, rfl, w3, _, rfl, htw, by omega, fun Hl Sl => ⟨_, rfl, ?_⟩⟩
              have hLl := Sl _ _ hLk
              have hpl := Sl _ _ hpk
              cases en : isNameS w3 with
              | false =>
                rw [en] at hp
                exact iteT' rfl (bad Hl (Sk.trans Sl) hp)
              | true =>
                rw [en] at hp
                refine iteF' rfl ?_
                refine ⟨_, rfl, rfl, _, rfl, iteF' (by decide +kernel) ?_⟩
                refine ⟨_, rfl, rfl, _, rfl, iteF' (by decide +kernel) ?_⟩
                refine ⟨_, rfl, .inl ⟨rfl, _, SqL.of hLl⟩, _, rfl, rfl, _, rfl, iteT' (by decide +kernel) ?_⟩
                refine ⟨_, rfl, L, _, _, rfl, rfl, hLl, hlx, ?_⟩
                exact app _ Hl _ hp (Sk.trans Sl) hLl hpl
            · have hp := part_n w3
              refine ⟨_, rfl, rfl, _, rfl, iteF' (by decide +kernel) ?_⟩
              refine ⟨_, rfl, rfl, _, rfl, iteT' (by decide +kernel) ?_⟩
              refine ⟨_, rfl, _, _, rfl, rfl, _, rfl, ?_⟩
              by_cases en : numQ w3 < 0
              · rw [if_pos en] at hp
                exact iteT' (decide_eq_true en) (bad Hk Sk hp)
              · rw [if_neg en] at hp
                refine iteF' (decide_eq_false en) ?_
                refine ⟨_, rfl, rfl, _, rfl, iteF' (by decide +kernel) ?_⟩
                refine ⟨_, rfl, .inl ⟨rfl, _, SqL.of hLk⟩, _, rfl, rfl, _, rfl, iteF' (by decide +kernel) ?_⟩
                refine ⟨_, rfl, L, _, _, rfl, rfl, hLk, hlx, ?_⟩
                exact app _ Hk _ hp Sk hLk hpk
            · have hp := part_t w3
              refine ⟨_, rfl, rfl, _, rfl, iteF' (by decide +kernel) ?_⟩
              refine ⟨_, rfl, rfl, _, rfl, iteF' (by decide +kernel) ?_⟩
              refine ⟨_, rfl, rfl, _, rfl, iteT' (by decide +kernel) ?_⟩
              refine ⟨_, rfl, _, _, rfl, rfl, _, rfl, ?_⟩
              by_cases en : numQ w3 < 1
              · rw [if_pos en] at hp
                exact iteT' (decide_eq_true en) (bad Hk Sk hp)
              · rw [if_neg en] at hp
                refine iteF' (decide_eq_false en) ?_
                refine ⟨_, rfl, .inl ⟨rfl, _, SqL.of hLk⟩, _, rfl, rfl, _, rfl, iteF' (by decide +kernel) ?_⟩
                refine ⟨_, rfl, L, _, _, rfl, rfl, hLk, hlx, ?_⟩
                exact app _ Hk _ hp Sk hLk hpk
          · rintro σ Hi ⟨Si, hpi, xs, v4, v5, v6, hLi, hti, rfl⟩
            have hfull : List.zipWith partC ss r = xs.map some := by
              rw [← hti, List.take_of_length_le (by rw [List.length_zipWith]; omega)]
            have hq3 : deedC z = some (.str w0 :: xs) := by rw [hq2, hfull, seqO_some]; rfl
            refine ⟨_, rfl, L, _, rfl, .inl ⟨SqL.of hLi, fun t ht => ?_⟩⟩
            refine q _ _ ((S2.trans Si).trans (Evl.Ex.new ht)) ?_
            rw [hq3]
            exact ⟨t, rfl, upd_same, (deed_back hq3).2.1⟩
        · refine iteT' (by simp; omega) (hq H2 S2 ?_)
          rw [hq2, if_neg hlen]
end
end WP
namespace WP
open PySem L2
open TL (tl)
theorem fm_filter (f : Nat → Bool) (n : Nat) : (List.range n).filterMap (fun i => if f i then some (V.int (i : Nat)) else none) = ((List.range n).filter f).map fun i => V.int ((i : Nat) : Int) := by
  generalize List.range n = l
  induction l with
  | nil => rfl
  | cons a r ih =>
    rw [List.filterMap_cons, List.filter_cons]
    by_cases h : f a = true
    · simp only [h, if_true, List.map_cons, ih]
    · simp only [h, ih]
      rfl
section
variable {P : Program} {w : World} {K : PySem.W.Frag} {mg : Str → Option Value} {base : Heap}
theorem ok__law_due {f : Addr} {fd : FuncData} (F : Fun K "_law_due" "_law_due" s__law_due f fd) (T : Bi mg) (D__law_deed_of : Dn P w K mg base CX0 2 "_law_deed_of" ["_law_line_here"] (spLawDeed K)) : FnOk P w K mg base CX0 3 f fd ["_law_text"] (spLawDue K) := by
  refine F.ok sc__law_due (fun vs H Q E h => ?_) (fun cdv A outer s H vs Q E hr h => ?_)
  · obtain ⟨z, n, rfl, _⟩ := h
    rfl
  · obtain ⟨z, n, rfl, hx, hn, q⟩ := h
    have hu := hu_of hr
    have nd := sc__law_due.nd
    have hz := hx.len
    have hne := split_nil_no z
    have htx := hx.split (y := nl) (by decide)
    refine ⟨_, pss_cons (ps_set (i := 1) nd rfl (by first | exact Or.inl rfl | exact Or.inr rfl) (pe_split (pv 0) pe_str))
      (pss_cons (ps_set (i := 2) nd rfl (by first | exact Or.inl rfl | exact Or.inr rfl) (pe_cmpR op_eq (pe_ix ix_list (pv 1) (pe_un un_neg pe_int) (fun _ _ => rfl)) pe_str (nomark _)))
      (pss_cons (ps_set (i := 1) nd rfl (by first | exact Or.inl rfl | exact Or.inr rfl) (pe_weak (pe_ifExp (pt_val (pv 2)) (pe_slice sl_list (pv 1) po_none (po_some (pe_un un_neg pe_int))) (pv 1))))
      (pss_cons (ps_set (i := 3) nd rfl (by first | exact Or.inl rfl | exact Or.inr rfl) (pe_lc (own := [("_law_line_here", 4)]) (g := gName 4) rfl nd (pi_list (pv 1)) (blkOk_by (own := [("_law_line_here", 4)]) (N := ["_law_text", "_law_lines", "_law_is_ended", "_law_found", "_law_line_here", "_law_wrong", "_law_at"]) (sc := defScope s__law_due) (by decide +kernel)) (fun _ _ _ _ _ => (pg_name (i := 4) nd rfl (by first | exact Or.inl rfl | exact Or.inr rfl))) (fun _ _ _ _ _ => pts_nil) (fun _ _ _ _ _ => (pe_d D__law_deed_of (hr.mono (by decide)) pass0 (pa_cons (pv 4) pa_nil)))))
      (pss_cons (ps_setLc (i := 5) (own := [("_law_at", 6)]) (g := gName 6) rfl nd rfl rfl (sw_true rfl rfl rfl (by decide +kernel)) (pi_range1 (by rfl) T.range (pa_cons (pe_callB call_len (by rfl) T.len (by decide +kernel) (pa_cons (pv 3) pa_nil)) pa_nil)) (blkOk_by (own := [("_law_at", 6)]) (N := ["_law_text", "_law_lines", "_law_is_ended", "_law_found", "_law_line_here", "_law_wrong", "_law_at"]) (sc := defScope s__law_due) (by decide +kernel)) (fun _ _ _ _ _ => (pg_name (i := 6) nd rfl (by first | exact Or.inl rfl | exact Or.inr rfl))) (fun _ _ _ _ _ => (pts_one (pt_cmpR op_isN (pe_ix (ix_listK (K := K) rfl) (pv 3) (pv 6) (fun _ _ => rfl)) pe_non (nomark _)))) (fun _ _ _ _ _ => (pv 6)))
      (pss_cons (ps_if (PW.pt (pw_or (pt_cmpR (op_neD hr.units) (pv 5) (pe_lst pa_nil) (nomark _)) (pw_or1 (pt_not (pt_val (pv 2)))))) (pss_one (ps_ret (pe_ix ix_list (pe_op op_cat (pv 5) (pe_lst (pa_cons (pe_callB call_len (by rfl) T.len (by decide +kernel) (pa_cons (pv 1) pa_nil)) pa_nil))) pe_int (fun _ _ => rfl)))) pss_nil)
      (pss_one (ps_ret (pe_lst (pa_cons (pv 3) pa_nil))))))))), ?_⟩
    refine ⟨_, rfl, ⟨_, rfl⟩, z, nl, rfl, rfl, by decide, by rw [sizeLine_eq]; omega, fun p hp => ?_⟩
    have S1 : Same H (upd H p (.lst ((Txt.split z nl).map V.str))) := Evl.Ex.new hp
    have hp1 : upd H p (.lst ((Txt.split z nl).map V.str)) p = some (.lst ((Txt.split z nl).map V.str)) := upd_same
    generalize upd H p (.lst ((Txt.split z nl).map V.str)) = H1 at S1 hp1 ⊢
    refine ⟨_, rfl, _, rfl, _, _, _, _, rfl, rfl, SqL.of hp1, atI_lastS hne, rfl, ?_⟩
    have e1 : decide (V.str ((Txt.split z nl).getLast hne) = V.str "") = endOk z := by
      rw [← last_end]
      unfold lastNo
      rw [List.getLast?_eq_some_getLast hne, Bool.eq_iff_iff]
      simp only [decide_eq_true_eq, beq_iff_eq, Option.some.injEq]
      exact ⟨fun e => V.str.inj e, fun e => by rw [e]⟩
    rw [e1]
    refine ⟨fun v H' => ∃ p', v = .ref p' ∧ Same H1 H' ∧ H' p' = some (.lst ((linesP z).map V.str)), ?_, ?_⟩
    · refine ⟨_, rfl, _, rfl, ?_⟩
      unfold linesP
      rw [last_end]
      cases hl : endOk z with
      | true =>
        refine iteT ?_
        refine ⟨_, rfl, _, rfl, _, rfl, _, _, rfl, SqL.of hp1, fun p2 hp2 => ?_⟩
        rw [cut_last]
        exact ⟨p2, rfl, Evl.Ex.new hp2, upd_same⟩
      | false =>
        refine iteF ?_
        exact ⟨_, rfl, p, rfl, Same.refl _, hp1⟩
    · rintro v H2 ⟨p', rfl, S2, hp2⟩
      have hlines : Txs (n + 1) (linesP z) := by
        unfold linesP
        split
        · rw [List.dropLast_eq_take]
          exact htx.take _
        · exact htx
      have hsum := sum_lines z
      refine ⟨_, rfl, p', rfl, ⟨_, SqL.of hp2⟩, fun D hD => ?_⟩
      refine lc_it (walk_list (xs := (linesP z).map V.str)) (fun i Hi => Same H2 Hi ∧ ∃ acc, Hi D = some (.lst acc) ∧ acc.length = i ∧ FlAll K Hi acc (((linesP z).take i).map deedC)) ⟨Evl.Ex.new hD, [], upd_same, rfl, .nil⟩ (fun _ _ _ p2 => SqL.of (p2.1 _ _ hp2)) ?_ ?_
      · rintro i x H3 H4 hi ⟨S3, acc, hacc, hal, hfl⟩ ⟨rfl, hx⟩
        obtain ⟨l, hl, rfl⟩ := at_map hx
        rw [List.length_map] at hi
        refine ⟨rfl, ?_⟩
        refine ⟨_, rfl, l, _, rfl, hlines.at (at_mem hl), by omega, fun v H4 S4 hv => ?_⟩
        have hacc4 := S4 _ _ hacc
        refine ⟨acc, hacc4, by rw [hal, sizeLine_eq]; omega, Evl.Ex.mut (S3.trans S4) hD, acc ++ [v], upd_same, by rw [List.length_append, hal]; rfl, ?_⟩
        rw [List.take_succ, hl, List.map_append]
        exact ((hfl.same S4).grow hacc4).app (.cons (hv.grow hacc4) .nil)
      · rintro H3 ⟨S3, acc, hacc, hal, hfl⟩
        rw [List.length_map, List.take_of_length_le (Nat.le_refl _)] at hfl
        rw [List.length_map] at hal
        have hol : acc.length = ((linesP z).map deedC).length := hfl.len
        generalize hos : (linesP z).map deedC = os at hfl hol
        refine ⟨_, rfl, _, _, rfl, .inl ⟨_, SqL.of hacc, rfl⟩, acc.length, rfl, by omega, by omega, fun D2 hD2 => ?_⟩
        refine lc_it walk_range (PvL H3 D2 (fun i => if (os[i]?.getD (some []) == none) then some (V.int (i : Nat)) else none)) (pv_0 hD2) (fun _ _ _ _ => trivial) ?_ ?_
        · rintro i x H4 H5 hi p4 ⟨rfl, rfl⟩
          have hi2 : i < acc.length := hi
          have hat : acc[i]? = some acc[i] := List.getElem?_eq_getElem hi2
          obtain ⟨o, ho, hfo⟩ := hfl.at hat
          refine ⟨rfl, ?_⟩
          refine ⟨_, rfl, _, rfl, _, _, _, acc[i], rfl, rfl, SqL.of (p4.1 _ _ hacc), ?_, rfl, _, rfl, ?_⟩
          · have := atI_nat hat
            rw [Int.zero_add]
            exact this
          · have e2 : decide (acc[i] = V.non) = (os[i]?.getD (some []) == none) := by
              rw [ho, Option.getD_some]
              cases o with
              | none =>
                have : acc[i] = V.non := hfo
                rw [this]
                rfl
              | some xs =>
                obtain ⟨a, h1, _⟩ := hfo
                rw [h1]
                rfl
            rw [e2]
            refine ite2 (fun h => ?_) (fun h => ?_)
            · refine ⟨_, rfl, ?_⟩
              have e3 : (0 : Int) + ((i : Nat) : Int) = ((i : Nat) : Int) := Int.zero_add _
              have := pv_in p4 (Same.refl _) (if_pos h) (by omega)
              rw [← e3] at this
              exact this
            · exact pv_out p4 (Same.refl _) (if_neg h)
        · intro H4 p4
          have p5 := p4.2.2
          rw [fm_filter] at p5
          rw [Int.toNat_natCast] at p5
          have ew : (List.range acc.length).filter (fun i => os[i]?.getD (some []) == none) = wrongs os := by rw [hol]; rfl
          rw [ew] at p5
          have p5 : H4 D2 = some (.lst (((wrongs os).map fun i => ((i : Nat) : Int)).map V.int)) := by rw [p5, List.map_map]; rfl
          have hacc4 := p4.1 _ _ hacc
          have hp4 := p4.1 _ _ (S3 _ _ hp2)
          have S4 : Same H H4 := ((S1.trans S2).trans S3).trans p4.1
          have hfl4 := hfl.same p4.1
          have hh : hearP z = if os.all Option.isSome then if endOk z then .ok (os.filterMap id) else .error ((linesP z).length : Nat) else .error (os.findIdx Option.isNone : Nat) := by
            unfold hearP
            rw [hos]
          refine ⟨_, rfl, (by show 0 ≤ sizeLine; decide), fun p6 hp6 => neNilI p5 hp6 ?_⟩
          have S6 : Same H4 (upd H4 p6 (.lst [])) := Evl.Ex.new hp6
          have hacc6 := S6 _ _ hacc4
          have hp6' := S6 _ _ hp4
          have hw6 := S6 _ _ p5
          have hfl6 := hfl4.same S6
          generalize upd H4 p6 (.lst []) = H6 at S6 hacc6 hp6' hw6 hfl6 ⊢
          have S6 := S4.trans S6
          have en : ((wrongs os).map fun i => ((i : Nat) : Int)).isEmpty = os.all Option.isSome := by rw [List.isEmpty_map, wrongs_nil]
          rw [en]
          have hwh := wrongs_head os
          have hlw : ((wrongs os).map fun i => ((i : Nat) : Int)).length ≤ 90000 := by
            rw [List.length_map]
            unfold wrongs
            exact Nat.le_trans (List.length_filter_le _ _) (by rw [List.length_range]; omega)
          generalize hws : ((wrongs os).map fun i => ((i : Nat) : Int)) = ws at *
          have hwh : ws.head? = (if os.all Option.isSome then none else some ((os.findIdx Option.isNone : Nat) : Int)) := by
            rw [← hws, List.head?_map, hwh]
            split <;> rfl
          have ret : ∀ (k : Int), hearP z = .error k → (ws ++ [((linesP z).length : Int)]).head? = some k → ∀ p8, H6 p8 = none → ∀ p9, upd H6 p8 (.lst [V.int ((linesP z).length : Nat)]) p9 = none →
              atI (ws.map V.int ++ [V.int ((linesP z).length : Nat)]) 0 = some (.int k) ∧ Q (.int k) (upd (upd H6 p8 (.lst [V.int ((linesP z).length : Nat)])) p9 (.lst (ws.map V.int ++ [V.int ((linesP z).length : Nat)]))) := fun k hk hh p8 hp8 p9 hp9 => by
            refine ⟨?_, q _ _ ((S6.trans (Evl.Ex.new hp8)).trans (Evl.Ex.new hp9)) ?_⟩
            · refine atI_nat (j := 0) ?_
              have e : ws.map V.int ++ [V.int ((linesP z).length : Nat)] = (ws ++ [((linesP z).length : Int)]).map V.int := by rw [List.map_append]; rfl
              rw [e, List.getElem?_map, ← List.head?_eq_getElem?, hh]
              rfl
            · rw [hk]
              rfl
          have go : ∀ (k : Int), hearP z = .error k → (ws ++ [((linesP z).length : Int)]).head? = some k → True := fun _ _ _ => trivial
          refine ⟨_, rfl, ?_⟩
          cases ha : os.all Option.isSome with
          | false =>
            refine iteT' rfl ?_
            rw [ha] at hh hwh
            have hk : hearP z = .error ((os.findIdx Option.isNone : Nat) : Int) := hh
            have hwh : ws.head? = some ((os.findIdx Option.isNone : Nat) : Int) := hwh
            refine ⟨_, rfl, _, rfl, _, _, rfl, .inl ⟨_, SqL.of hp6', rfl⟩, (by show 1 ≤ sizeLine; decide), fun p8 hp8 => ?_⟩
            rw [List.length_map]
            refine ⟨D2, p8, _, _, rfl, rfl, (Evl.Ex.new hp8) _ _ hw6, upd_same, by rw [List.length_map, sizeLine_eq]; show ws.length + 1 ≤ _; omega, fun p9 hp9 => ?_⟩
            obtain ⟨r1, r2⟩ := ret _ hk (by rw [List.head?_append, hwh]; rfl) p8 hp8 p9 hp9
            exact ⟨p9, _, _, _, rfl, rfl, SqL.of upd_same, r1, r2⟩
          | true =>
            refine iteF' rfl ?_
            rw [ha] at hh hwh
            have hwn : ws = [] := by
              have hwh : ws.head? = none := hwh
              rw [List.head?_eq_none_iff] at hwh
              exact hwh
            refine ⟨_, rfl, _, rfl, ?_⟩
            cases he : endOk z with
            | false =>
              refine iteT' rfl ?_
              rw [he] at hh
              have hk : hearP z = .error (((linesP z).length : Nat) : Int) := hh
              refine ⟨_, rfl, _, rfl, _, _, rfl, .inl ⟨_, SqL.of hp6', rfl⟩, (by show 1 ≤ sizeLine; decide), fun p8 hp8 => ?_⟩
              rw [List.length_map]
              refine ⟨D2, p8, _, _, rfl, rfl, (Evl.Ex.new hp8) _ _ hw6, upd_same, by rw [List.length_map, sizeLine_eq]; show ws.length + 1 ≤ _; omega, fun p9 hp9 => ?_⟩
              obtain ⟨r1, r2⟩ := ret _ hk (by rw [hwn]; rfl) p8 hp8 p9 hp9
              exact ⟨p9, _, _, _, rfl, rfl, SqL.of upd_same, r1, r2⟩
            | true =>
              refine iteF' rfl ?_
              rw [he] at hh
              have hk : hearP z = .ok (os.filterMap id) := hh
              refine ⟨_, rfl, (by show 1 ≤ sizeLine; decide), fun p8 hp8 => ?_⟩
              refine q _ _ (S6.trans (Evl.Ex.new hp8)) ?_
              rw [hk]
              refine ⟨p8, D, acc, rfl, upd_same, (Evl.Ex.new hp8) _ _ hacc6, ?_⟩
              rw [all_some _ ha]
              exact hfl6.same (Evl.Ex.new hp8)
end
end WP
namespace WP
open PySem L2
open TL (tl)
section
variable {P : Program} {w : World} {K : PySem.W.Frag} {mg : Str → Option Value} {base : Heap}
theorem ok__law_heard {f CT : Addr} {fd : FuncData} (F : Fun K "_law_heard" "_law_heard" s__law_heard f fd) (T : Bi mg) (EB : Err1 P w K mg base CT "BadText" CT "line") (D_read_history : Dn P w K mg base (L2.CX P w) 5 "read_history" ["text"] (spReadHist K CT)) : FnOk P w K mg base CX0 6 f fd ["_law_text"] (spLawHeard K) := by
  refine F.ok sc__law_heard (fun vs H Q E h => ?_) (fun cdv A outer s H vs Q E hr h => ?_)
  · obtain ⟨v, k, rfl, _⟩ := h
    rfl
  · obtain ⟨v, k, rfl, h, q0, q⟩ := h
    have nd := sc__law_heard.nd
    refine ⟨_, pss_cons (ps_set (i := 1) nd rfl (.inl rfl) (pe_lst pa_nil))
      (pss_cons (ps_try_keep (i := 2) (c := .ref CT) rfl rfl nd rfl rfl ⟨rfl, by decide, .inl EB.mgC⟩ rfl (fun W pn xe tk _ => pss_one (ps_set (i := 1) nd rfl (.inl rfl) (pe_lst (pa_cons (pe_dS D_read_history (hr.mono (by decide)) tk (pa_cons (pv 0) pa_nil)) pa_nil)))) (fun a pn => pss_one (ps_set (i := 1) nd rfl (.inl rfl) (pe_xfldK (K := K) (te := tVar 2) rfl rfl (pv 2)))))
      (pss_one (ps_ret (pv 1)))), ?_⟩
    refine ⟨(by show 0 ≤ sizeLine; decide), fun p hp => ?_⟩
    have S1 : Same H (upd H p (.lst [])) := Evl.Ex.new hp
    generalize upd H p (.lst []) = H1 at S1 ⊢
    refine ⟨_, rfl, v, k, rfl, h.same S1, fun e d H' s' hd0 hd => ⟨EB.sub, fun a ha => ?_⟩, fun z e => ?_⟩
    · refine ⟨_, rfl, a, CT, d, [("line", V.int 0)], V.int 0, rfl, upd_same, EB.xf, EB.no, ?_, rfl, ?_⟩
      · rw [upd_ne (ne_of_none hd ha)]
        exact hd
      · exact ⟨_, rfl, q0 e _ ((S1.trans s').trans (Evl.Ex.new ha))⟩
    · obtain ⟨hz, q⟩ := q z e
      refine ⟨hz, fun n hn d H' s' hd0 hd => ⟨EB.sub, fun a ha => ?_⟩, fun ds hd b us H' s' hb hf => ?_⟩
      · refine ⟨_, rfl, a, CT, d, [("line", V.int n)], V.int n, rfl, upd_same, EB.xf, EB.no, ?_, rfl, ?_⟩
        · rw [upd_ne (ne_of_none hd ha)]
          exact hd
        · refine ⟨_, rfl, q _ _ ((S1.trans s').trans (Evl.Ex.new ha)) ?_⟩
          rw [hn]
          rfl
      · refine ⟨(by show 1 ≤ sizeLine; decide), fun p8 hp8 => ⟨_, rfl, ?_⟩⟩
        refine q _ _ ((S1.trans s').trans (Evl.Ex.new hp8)) ?_
        rw [hd]
        exact ⟨p8, b, us, rfl, upd_same, (Evl.Ex.new hp8) _ _ hb, hf.same (Evl.Ex.new hp8)⟩
end
end WP
namespace WP
open PySem L2
open TL (tl)
abbrev nameWords : List Str := ["a", "b", "plain", "own", "refers", "keeps", "ever", "zzzzzzzz"]
def spNames (K : PySem.W.Frag) : Sp := fun vs H Q _ => ∃ (d w c : Addr) (B n : Int), vs = [.ref d, .int n] ∧ Dr d w c B H ∧ B ≤ 2 ^ 39 ∧ 0 ≤ n ∧ n ≤ 20 ∧
  ∀ (L : Addr) (ns : List Str) H', Ds d w c (B + 20 * n) H H' → hd2 d w H L = none → hd2 d w H' L = some (.lst (ns.map V.str)) → (ns.length : Int) = n → ns.Nodup → (∀ x ∈ ns, isNameS x = true) → Q (.ref L) H'
theorem inV_str (x : Str) (ns : List Str) : inV (.str x) (ns.map V.str) = decide (x ∈ ns) := by
  unfold inV
  rw [List.any_map, Bool.eq_iff_iff, List.any_eq_true, decide_eq_true_eq]
  constructor
  · rintro ⟨y, hy, e⟩
    have e : (y == x) = true := e
    rw [beq_iff_eq] at e
    rw [← e]
    exact hy
  · intro h
    refine ⟨x, h, ?_⟩
    show (x == x) = true
    rw [beq_iff_eq]
theorem atI_lastS' {ls : List Str} (h : ls ≠ []) : atI (ls.map V.str) (-1) = some (.str (ls.getLast h)) := by
  have e : ls.map V.str = (ls.dropLast.map V.str) ++ [V.str (ls.getLast h)] := by
    conv => lhs; rw [← List.dropLast_concat_getLast h]
    rw [List.map_append]
    rfl
  rw [e]
  exact atI_last _ _
theorem fm_range2' {α : Type} (l : List α) (g : α → Option V) : (List.range l.length).filterMap (fun i => l[i]?.bind g) = l.filterMap g := by
  induction l with
  | nil => rfl
  | cons a r ih =>
    rw [List.length_cons, List.range_succ_eq_map, List.filterMap_cons, List.filterMap_map]
    simp only [List.getElem?_cons_zero, Option.bind_some, List.filterMap_cons]
    have e : (fun i => (a :: r)[i]?.bind g) ∘ Nat.succ = fun i => r[i]?.bind g := by
      funext i
      simp
    rw [e, ih]
theorem fm_if (f : Str → Bool) (l : List Str) : l.filterMap (fun x => if f x = true then some (V.str x) else none) = (l.filter f).map V.str := by
  induction l with
  | nil => rfl
  | cons a r ih =>
    rw [List.filterMap_cons, List.filter_cons]
    by_cases h : f a = true
    · simp only [h, if_true, List.map_cons, ih]
    · simp only [h, ih]
      rfl
section
variable {P : Program} {w : World} {K : PySem.W.Frag} {mg : Str → Option Value} {base : Heap}
theorem ok__law_drawn_names {f : Addr} {fd : FuncData} (F : Fun K "_law_drawn_names" "_law_drawn_names" s__law_drawn_names f fd) (T : Bi mg) (D__law_take : Dn P w K mg base CX0 2 "_law_take" ["_law_draw", "_law_size"] spTake) (D__law_pick : Dn P w K mg base CX0 3 "_law_pick" ["_law_draw", "_law_some"] (spPick K)) : FnOk P w K mg base CX0 4 f fd ["_law_draw", "_law_total"] (spNames K) := by
  refine F.ok sc__law_drawn_names (fun vs H Q E h => ?_) (fun cdv A outer s H vs Q E hr h => ?_)
  · obtain ⟨d, w, c, B, n, rfl, _⟩ := h
    rfl
  · obtain ⟨d, w, c, B, n, rfl, D, hB, n0, n1, q⟩ := h
    have hu := hu_of hr
    have nd := sc__law_drawn_names.nd
    refine ⟨_, pss_cons (ps_asg (pe_tup (pa_cons pe_str (pa_cons (pe_lst pa_nil) pa_nil))) (pg_tup rfl (pgs_cons (pg_name (i := 2) nd rfl (by first | exact Or.inl rfl | exact Or.inr rfl)) (pgs_cons (pg_name (i := 3) nd rfl (by first | exact Or.inl rfl | exact Or.inr rfl)) pgs_nil))))
      (pss_cons (ps_set (i := 4) nd rfl (by first | exact Or.inl rfl | exact Or.inr rfl) (pe_lst (pa_cons pe_str (pa_cons pe_str (pa_cons pe_str (pa_cons pe_str (pa_cons pe_str (pa_cons pe_str (pa_cons pe_str (pa_cons pe_str pa_nil))))))))))
      (pss_cons (ps_for PassesOwn.never rfl (pi_range1 (by rfl) T.range (pa_cons (pv 1) pa_nil)) (pg_name (i := 5) nd rfl (by first | exact Or.inl rfl | exact Or.inr rfl)) (pss_cons (ps_asg (pe_tup (pa_cons (pe_d D__law_take (hr.mono (by decide)) pass0 (pa_cons (pv 0) (pa_cons pe_int pa_nil))) (pa_cons (pe_d D__law_pick (hr.mono (by decide)) pass0 (pa_cons (pv 0) (pa_cons (pv 4) pa_nil))) pa_nil))) (pg_tup rfl (pgs_cons (pg_name (i := 6) nd rfl (by first | exact Or.inl rfl | exact Or.inr rfl)) (pgs_cons (pg_name (i := 7) nd rfl (by first | exact Or.inl rfl | exact Or.inr rfl)) pgs_nil))))
      (pss_cons (ps_set (i := 8) nd rfl (by first | exact Or.inl rfl | exact Or.inr rfl) (pe_d D__law_pick (hr.mono (by decide)) pass0 (pa_cons (pv 0) (pa_cons (pe_lst (pa_cons pe_int (pa_cons pe_int (pa_cons pe_int (pa_cons pe_int (pa_cons pe_int pa_nil)))))) pa_nil))))
      (Evl.pss_cut (ps_if (pt_cmpR op_gt (pv 6) pe_int (nomark _)) (pss_one (ps_set (i := 7) nd rfl (by first | exact Or.inl rfl | exact Or.inr rfl) (pe_join pe_str (pe_lc (own := [("_law_j", 9)]) (g := gName 9) rfl nd (pi_range1 (by rfl) T.range (pa_cons (pv 8) pa_nil)) (blkOk_by (own := [("_law_j", 9)]) (N := ["_law_draw", "_law_total", "_law_letters", "_law_found", "_law_some", "_law_k", "_law_way", "_law_word", "_law_size", "_law_j", "_law_at", "_law_near", "_law_letter", "_law_single"]) (sc := defScope s__law_drawn_names) (by decide +kernel)) (fun _ _ _ _ _ => (pg_name (i := 9) nd rfl (by first | exact Or.inl rfl | exact Or.inr rfl))) (fun _ _ _ _ _ => pts_nil) (fun _ _ _ _ _ => (pe_d D__law_pick (hr.mono (by decide)) pass0 (pa_cons (pv 0) (pa_cons (pv 2) pa_nil)))))))) pss_nil)
      (Evl.pss_cut (ps_if (PW.pt (pw_and (pt_cmpR op_eq (pv 6) pe_int (nomark _)) (pw_and1 (pt_cmpR (op_neD hr.units) (pv 3) (pe_lst pa_nil) (nomark _))))) (pss_cons (ps_set (i := 10) nd rfl (by first | exact Or.inl rfl | exact Or.inr rfl) (pe_d D__law_take (hr.mono (by decide)) pass0 (pa_cons (pv 0) (pa_cons (pe_callB call_len (by rfl) T.len (by decide +kernel) (pa_cons (pe_ix ix_list (pv 3) (pe_un un_neg pe_int) (fun _ _ => rfl)) pa_nil)) pa_nil))))
      (pss_one (ps_set (i := 7) nd rfl (by first | exact Or.inl rfl | exact Or.inr rfl) (pe_op op_add_str (pe_op op_add_str (pe_slice sl_str (pe_ix ix_list (pv 3) (pe_un un_neg pe_int) (fun _ _ => rfl)) po_none (po_some (pv 10))) (pe_d D__law_pick (hr.mono (by decide)) pass0 (pa_cons (pv 0) (pa_cons (pv 2) pa_nil)))) (pe_slice sl_str (pe_ix ix_list (pv 3) (pe_un un_neg pe_int) (fun _ _ => rfl)) (po_some (pe_op op_add (pv 10) pe_int)) po_none))))) pss_nil)
      (pss_cons (ps_set (i := 11) nd rfl (by first | exact Or.inl rfl | exact Or.inr rfl) (pe_op op_cat (pe_lst (pa_cons (pv 7) pa_nil)) (pe_lc (own := [("_law_letter", 12)]) (g := gName 12) rfl nd (pi_str (pv 2)) (blkOk_by (own := [("_law_letter", 12)]) (N := ["_law_draw", "_law_total", "_law_letters", "_law_found", "_law_some", "_law_k", "_law_way", "_law_word", "_law_size", "_law_j", "_law_at", "_law_near", "_law_letter", "_law_single"]) (sc := defScope s__law_drawn_names) (by decide +kernel)) (fun _ _ _ _ _ => (pg_name (i := 12) nd rfl (by first | exact Or.inl rfl | exact Or.inr rfl))) (fun _ _ _ _ _ => pts_nil) (fun _ _ _ _ _ => (pe_op op_add_str (pe_slice sl_str (pv 7) po_none (po_some pe_int)) (pv 12))))))
      (pss_one (ps_expr (pe_bm PySem.F.plainAttrs_list PySem.F.slot_list_append PySem.F.type_list_append mt_append (pv 3) (pa_cons (pe_ix ix_list (pe_lc (own := [("_law_single", 13)]) (g := gName 13) rfl nd (pi_list (pv 11)) (blkOk_by (own := [("_law_single", 13)]) (N := ["_law_draw", "_law_total", "_law_letters", "_law_found", "_law_some", "_law_k", "_law_way", "_law_word", "_law_size", "_law_j", "_law_at", "_law_near", "_law_letter", "_law_single"]) (sc := defScope s__law_drawn_names) (by decide +kernel)) (fun _ _ _ _ _ => (pg_name (i := 13) nd rfl (by first | exact Or.inl rfl | exact Or.inr rfl))) (fun _ _ _ _ _ => (pts_one (pt_cmpR (op_notInK (K := K) rfl) (pv 13) (pv 3) (by rfl)))) (fun _ _ _ _ _ => (pv 13))) pe_int (fun _ _ => rfl)) pa_nil))))))))))
      (pss_one (ps_ret (pv 3))))), ?_⟩
    have X0 : Ds d w c B H H := ⟨D, Same.refl _⟩
    refine ⟨(by show 0 ≤ sizeLine; decide), fun L hL => ⟨(by show 2 ≤ sizeLine; decide), fun t ht => ⟨t, _, rfl, SqT.of upd_same, rfl, _, _, rfl, _, _, rfl, rfl, (by show 8 ≤ sizeLine; decide), fun Sm hSm => ?_⟩⟩⟩
    obtain ⟨Ld, Lw, Lc⟩ := D.off hL
    have hL0 : hd2 d w H L = none := hd2_none hL
    have X1 : Ds d w c B H (upd (upd (upd H L (.lst [])) t (.tup [.str alphabet, .ref L])) Sm (.lst (nameWords.map V.str))) := ((X0.new hL).new ht).new hSm
    have f1 : hd2 d w (upd (upd (upd H L (.lst [])) t (.tup [.str alphabet, .ref L])) Sm (.lst (nameWords.map V.str))) L = some (.lst []) := keepA (keepA (X0.at hL) ht) hSm
    have f2 : hd2 d w (upd (upd (upd H L (.lst [])) t (.tup [.str alphabet, .ref L])) Sm (.lst (nameWords.map V.str))) Sm = some (.lst (nameWords.map V.str)) := ((X0.new hL).new ht).at hSm
    have nSL : Sm ≠ L := fun e => by
      have e1 : upd (upd H L (.lst [])) t (.tup [.str alphabet, .ref L]) L = some (.lst []) := by rw [upd_ne (ne_of_none upd_same ht), upd_same]
      rw [e] at hSm
      exact absurd (e1.symm.trans hSm) (by intro z; cases z)
    refine ⟨_, rfl, n, rfl, by omega, by omega, ?_⟩
    refine for_it walk_range (fun i σ Hi => Ds d w c (B + 20 * i) H Hi ∧ hd2 d w Hi Sm = some (.lst (nameWords.map V.str)) ∧ ∃ (ns : List Str) (v5 v6 v7 v8 v9 v10 v11 v12 v13 : Option V), hd2 d w Hi L = some (.lst (ns.map V.str)) ∧ ns.length = i ∧ ns.Nodup ∧ (∀ x ∈ ns, isNameS x = true) ∧ σ = [some (.ref d), some (.int n), some (.str alphabet), some (.ref L), some (.ref Sm), v5, v6, v7, v8, v9, v10, v11, v12, v13])
      ⟨by rw [show B + 20 * ((0 : Nat) : Int) = B by omega]; exact X1, f2, [], _, _, _, _, _, _, _, _, _, f1, rfl, List.nodup_nil, (fun x hx => by cases hx), rfl⟩ (fun _ _ _ _ _ => trivial) ?_ ?_
    · rintro i x σ Hi Hj hi ⟨Xi, fS, ns, v5, v6, v7, v8, v9, v10, v11, v12, v13, fL, hnl, hnd, hnm, rfl⟩ ⟨rfl, rfl⟩
      refine ⟨_, rfl, d, w, c, _, 4, rfl, Xi.dr, by omega, by decide, by decide, fun k1 H2 k0 k4 D2 S2 => ?_⟩
      have X2 := Xi.draw D2 S2
      refine ⟨_, rfl, _, rfl, d, w, c, _, X2.dr, by omega, .inl ⟨Sm, _, rfl, SqL.of (S2 _ _ fS), by decide, by decide, fun k2 v2 H3 hv2 D3 S3 => ?_⟩⟩
      obtain ⟨w2, hw2, rfl⟩ := at_map hv2
      have hN2 := name_words w2 (at_mem hw2)
      have X3 := X2.draw D3 S3
      have fS3 := S3 _ _ (S2 _ _ fS)
      have fL3 := S3 _ _ (S2 _ _ fL)
      refine ⟨(by show 2 ≤ sizeLine; decide), fun t ht => ⟨t, _, rfl, SqT.of upd_same, rfl, _, _, rfl, _, _, rfl, rfl, ?_⟩⟩
      have X4 : Ds d w c (B + 20 * i + 1 + 1) H (upd H3 t (.tup [.int k1, .str w2])) := X3.new ht
      have fS4 : hd2 d w (upd H3 t (.tup [.int k1, .str w2])) Sm = _ := keepA fS3 ht
      have fL4 : hd2 d w (upd H3 t (.tup [.int k1, .str w2])) L = _ := keepA fL3 ht
      generalize (upd H3 t (.tup [.int k1, .str w2])) = H4 at X4 fS4 fL4 ⊢
      refine ⟨_, rfl, (by show 5 ≤ sizeLine; decide), fun u hu5 => ⟨d, w, c, _, (X4.new hu5).dr, by omega, .inl ⟨u, _, rfl, SqL.of (X4.at hu5), by simp, by decide, fun k3 v3 H5 hv3 D5 S5 => ?_⟩⟩⟩
      have X5 := (X4.new hu5).draw D5 S5
      have fS5 := S5 _ _ (keepA fS4 hu5)
      have fL5 := S5 _ _ (keepA fL4 hu5)
      obtain ⟨sz, rfl, sz1, sz8⟩ : ∃ sz : Int, v3 = .int sz ∧ 1 ≤ sz ∧ sz ≤ 8 := by
        have hm := at_mem hv3
        have : v3 ∈ ([1, 1, 2, 3, 8] : List Int).map V.int := hm
        obtain ⟨y, hy, rfl⟩ := List.mem_map.mp this
        refine ⟨y, rfl, ?_⟩
        simp only [List.mem_cons, List.not_mem_nil, or_false] at hy
        omega
      refine ⟨fun σ H6 => Ds d w c (B + 20 * i + 15) H H6 ∧ hd2 d w H6 Sm = some (.lst (nameWords.map V.str)) ∧ hd2 d w H6 L = some (.lst (ns.map V.str)) ∧ ∃ (w6 : Str) (v9 : Option V), isNameS w6 = true ∧ σ = [some (.ref d), some (.int n), some (.str alphabet), some (.ref L), some (.ref Sm), some (.int (0 + (i : Nat))), some (.int k1), some (.str w6), some (.int sz), v9, v10, v11, v12, v13], ?_, ?_⟩
      · refine ⟨_, rfl, _, _, rfl, rfl, _, rfl, ?_⟩
        refine ite2 (fun h => ?_) (fun h => ?_)
        · refine ⟨⟨_, rfl⟩, _, rfl, sz, rfl, by omega, by omega, fun D hD => ?_⟩
          obtain ⟨Dd', Dw', Dc'⟩ := X5.dr.off hD
          have hD0 : hd2 d w H D = none := noneS X5.fr (hd2_none hD)
          have nSD : Sm ≠ D := fun e => by rw [e, hd2_none hD] at fS5; cases fS5
          have nLD : L ≠ D := fun e => by rw [e, hd2_none hD] at fL5; cases fL5
          refine lc_it walk_range (fun j Hj => Ds d w c (B + 20 * i + 3 + j) H Hj ∧ hd2 d w Hj Sm = some (.lst (nameWords.map V.str)) ∧ hd2 d w Hj L = some (.lst (ns.map V.str)) ∧ ∃ cs : List Str, hd2 d w Hj D = some (.lst (cs.map V.str)) ∧ cs.length = j ∧ ∀ x ∈ cs, ∃ c ∈ tl alphabet, x = ⟨#[c]⟩)
            ⟨(X5.new hD).mono (by omega), keepA fS5 hD, keepA fL5 hD, [], X5.at hD, rfl, fun x hx => by cases hx⟩ (fun _ _ _ _ => trivial) ?_ ?_
          · rintro j x H6 H7 hj ⟨X6, fS6, fL6, cs, fD6, hcl, hcs⟩ ⟨rfl, rfl⟩
            refine ⟨rfl, _, rfl, _, rfl, d, w, c, _, X6.dr, by omega, .inr ⟨alphabet, rfl, by decide, by decide, fun k4 v4 H8 hv4 D8 S8 => ?_⟩⟩
            have X8 := X6.draw D8 S8
            have fD8 := S8 _ _ fD6
            refine ⟨_, (hd2_of fD8).1, by rw [List.length_map, sizeLine_eq]; omega, (X8.put hD0 Dd' Dw' Dc').mono (by omega), keepP (S8 _ _ fS6) Dd' Dw' nSD, keepP (S8 _ _ fL6) Dd' Dw' nLD, cs ++ [⟨#[v4]⟩], ?_, by rw [List.length_append, hcl]; rfl, fun x hx => ?_⟩
            · rw [hd2_upd Dd' Dw', upd_same, List.map_append]
              rfl
            · rcases List.mem_append.mp hx with hx | hx
              · exact hcs x hx
              · exact ⟨v4, at_mem hv4, List.mem_singleton.mp hx⟩
          · rintro H6 ⟨X6, fS6, fL6, cs, fD6, hcl, hcs⟩
            obtain ⟨nj, ns1⟩ := name_join hcs (by omega) (by omega)
            refine ⟨_, D, cs, rfl, rfl, .inl (SqL.of (hd2_of fD6).1), ?_, ?_⟩
            · rw [ns1]
              have : ("" : Str).length = 0 := by decide
              rw [this]
              omega
            · exact ⟨X6.mono (by omega), fS6, fL6, _, _, nj, rfl⟩
        · exact ⟨X5.mono (by omega), fS5, fL5, w2, _, hN2, rfl⟩
      · rintro σ H6 ⟨X6, fS6, fL6, w6, v9', hN6, rfl⟩
        refine ⟨fun σ H7 => Ds d w c (B + 20 * i + 17) H H7 ∧ hd2 d w H7 Sm = some (.lst (nameWords.map V.str)) ∧ hd2 d w H7 L = some (.lst (ns.map V.str)) ∧ ∃ (w7 : Str) (v10 : Option V), isNameS w7 = true ∧ σ = [some (.ref d), some (.int n), some (.str alphabet), some (.ref L), some (.ref Sm), some (.int (0 + (i : Nat))), some (.int k1), some (.str w7), some (.int sz), v9', v10, v11, v12, v13], ?_, ?_⟩
        · refine ⟨_, rfl, rfl, _, rfl, ?_⟩
          refine ite2 (fun h => ?_) (fun h => ?_)
          · refine ⟨_, rfl, (by show 0 ≤ sizeLine; decide), fun p hp => neNilS (hd2_of fL6).1 (fun x hx => (name_ok (hnm x hx)).2.2) hp ?_⟩
            have X7 : Ds d w c (B + 20 * i + 15) H (upd H6 p (.lst [])) := X6.new hp
            have fS7 : hd2 d w (upd H6 p (.lst [])) Sm = _ := keepA fS6 hp
            have fL7 : hd2 d w (upd H6 p (.lst [])) L = _ := keepA fL6 hp
            generalize upd H6 p (.lst []) = H7 at X7 fS7 fL7 ⊢
            refine ⟨_, rfl, ?_⟩
            cases hns : ns with
            | nil =>
              rw [hns] at fL7
              exact iteF ⟨X7.mono (by omega), fS7, fL7, w6, _, hN6, rfl⟩
            | cons n0 nr =>
              rw [← hns]
              have hne : ns ≠ [] := by rw [hns]; simp
              refine iteT' (by rw [hns]; rfl) ?_
              have hlast := hnm _ (List.getLast_mem hne)
              obtain ⟨l1, l8, lok⟩ := name_ok hlast
              have hS7 := SqL.of (K := K) (hd2_of fL7).1
              refine ⟨_, rfl, _, rfl, _, rfl, _, _, _, _, rfl, rfl, hS7, atI_lastS' hne, _, _, rfl, ⟨by rw [sizeLine_eq]; omega, rfl⟩, d, w, c, _, _, rfl, X7.dr, by omega, by omega, by omega, fun k5 H8 k50 k51 D8 S8 => ?_⟩
              have X8 := X7.draw D8 S8
              have fL8 := S8 _ _ fL7
              refine ⟨_, rfl, _, rfl, _, _, _, _, rfl, rfl, SqL.of (hd2_of fL8).1, atI_lastS' hne, _, rfl, _, rfl, _, rfl, by rw [sizeLine_eq]; omega, ?_⟩
              refine ⟨_, rfl, _, rfl, d, w, c, _, X8.dr, by omega, .inr ⟨alphabet, rfl, by decide, by decide, fun k6 v6 H9 hv6 D9 S9 => ?_⟩⟩
              have X9 := X8.draw D9 S9
              have fL9 := S9 _ _ fL8
              have c1 := cutS_length (ns.getLast hne) none (some k5)
              have c2 := cutS_length (ns.getLast hne) (some (k5 + 1)) none
              refine ⟨_, _, rfl, rfl, by rw [sizeLine_eq]; show _ + 1 ≤ _; omega, ?_⟩
              refine ⟨_, rfl, _, rfl, _, _, _, _, rfl, rfl, SqL.of (hd2_of fL9).1, atI_lastS' hne, _, rfl, _, _, rfl, rfl, _, rfl, _, rfl, by rw [sizeLine_eq]; omega, ?_⟩
              refine ⟨_, _, rfl, rfl, by rw [sizeLine_eq, Str.length_append]; show _ + 1 + _ ≤ _; omega, ?_⟩
              exact ⟨X9.mono (by omega), S9 _ _ (S8 _ _ fS7), fL9, _, _, name_swap hlast k50 k51 (at_mem hv6), rfl⟩
          · exact ⟨X6.mono (by omega), fS6, fL6, w6, _, hN6, rfl⟩
        · rintro σ H7 ⟨X7, fS7, fL7, w7, v10', hN7, rfl⟩
          have hw8 := (name_ok hN7).2.1
          refine ⟨_, rfl, (by show 1 ≤ sizeLine; decide), fun p hp => ?_⟩
          have X8 : Ds d w c (B + 20 * i + 17) H (upd H7 p (.lst [.str w7])) := X7.new hp
          have fS8 : hd2 d w (upd H7 p (.lst [.str w7])) Sm = _ := keepA fS7 hp
          have fL8 : hd2 d w (upd H7 p (.lst [.str w7])) L = _ := keepA fL7 hp
          have fp8 : upd H7 p (.lst [.str w7]) p = some (.lst [.str w7]) := upd_same
          generalize upd H7 p (.lst [.str w7]) = H8 at X8 fS8 fL8 fp8 ⊢
          refine ⟨_, rfl, alphabet, rfl, fun D hD => ?_⟩
          refine lc_it walk_str (PvL H8 D (fun j => (tl alphabet)[j]?.map fun c => V.str (cutS w7 none (some 7) ++ (⟨#[c]⟩ : Str)))) (pv_0 hD) (fun _ _ _ _ => trivial) ?_ ?_
          · rintro j x H9 H10 hj p9 ⟨rfl, c9, hc9, rfl⟩
            have hj2 : j < 26 := hj
            have hc9' : (tl alphabet)[j]? = some c9 := by rw [← hc9]; simp [tl]
            have c1 := cutS_length w7 none (some 7)
            refine ⟨rfl, ?_⟩
            refine ⟨_, rfl, _, rfl, _, rfl, by rw [sizeLine_eq]; omega, _, rfl, _, _, rfl, rfl, by rw [sizeLine_eq]; show _ + 1 ≤ _; omega, ?_⟩
            exact pv_in p9 (Same.refl _) (by rw [hc9']; rfl) (by omega)
          · intro H9 p9
            have e9 := p9.2.2
            have el : alphabet.cps.size = (tl alphabet).length := by simp [tl]
            rw [el, fm_range] at e9
            have X9 := X8.same p9.1
            have fS9 := hd2_same (d := d) (w := w) p9.1 _ _ fS8
            have fL9 := hd2_same (d := d) (w := w) p9.1 _ _ fL8
            refine ⟨p, D, _, _, rfl, rfl, p9.1 _ _ fp8, e9, by rw [List.length_map, sizeLine_eq, alpha_tl]; show 1 + 26 ≤ 16777216; decide, fun N hN => ?_⟩
            have eN : [V.str w7] ++ (tl alphabet).map (fun c => V.str (cutS w7 none (some 7) ++ (⟨#[c]⟩ : Str))) = (nears w7).map V.str := by
              unfold nears
              rw [List.map_cons, List.map_map]
              rfl
            rw [eN]
            have X10 : Ds d w c (B + 20 * i + 17) H (upd H9 N (.lst ((nears w7).map V.str))) := X9.new hN
            have fS10 : hd2 d w (upd H9 N (.lst ((nears w7).map V.str))) Sm = _ := keepA fS9 hN
            have fL10 : hd2 d w (upd H9 N (.lst ((nears w7).map V.str))) L = _ := keepA fL9 hN
            have fN10 : upd H9 N (.lst ((nears w7).map V.str)) N = some (.lst ((nears w7).map V.str)) := upd_same
            generalize upd H9 N (.lst ((nears w7).map V.str)) = H10 at X10 fS10 fL10 fN10 ⊢
            refine ⟨_, rfl, .inl ⟨rfl, _, SqL.of (hd2_of fL10).1⟩, _, rfl, N, rfl, ⟨_, SqL.of fN10⟩, fun D2 hD2 => ?_⟩
            have lenN : (nears w7).length = 27 := by
              unfold nears
              rw [List.length_cons, List.length_map, alpha_tl]
              rfl
            refine lc_it (walk_list (xs := (nears w7).map V.str)) (PvL H10 D2 (fun j => (nears w7)[j]?.bind fun x => if (!decide (x ∈ ns)) = true then some (V.str x) else none)) (pv_0 hD2) (fun _ _ _ p11 => SqL.of (p11.1 _ _ fN10)) ?_ ?_
            · rintro j x H11 H12 hj p11 ⟨rfl, hx⟩
              obtain ⟨y, hy, rfl⟩ := at_map hx
              have hj2 : j < 27 := by rw [List.length_map, lenN] at hj; exact hj
              refine ⟨rfl, ?_⟩
              refine ⟨_, rfl, _, rfl, L, _, rfl, .inl (SqL.of (hd2_of (hd2_same (d := d) (w := w) p11.1 _ _ fL10)).1), rfl, by simp [flatV], _, rfl, ?_⟩
              rw [inV_str]
              refine ite2 (fun h => ?_) (fun h => ?_)
              · exact ⟨_, rfl, pv_in p11 (Same.refl _) (by rw [hy, Option.bind_some]; exact if_pos h) (by omega)⟩
              · exact pv_out p11 (Same.refl _) (by rw [hy, Option.bind_some]; exact if_neg h)
            · intro H11 p11
              have e11 := p11.2.2
              rw [List.length_map, fm_range2'] at e11
              obtain ⟨y, yr, hy⟩ := near_free (z := w7) (ns := ns) (by omega)
              have e12 : (nears w7).filterMap (fun x => if (!decide (x ∈ ns)) = true then some (V.str x) else none) = V.str y :: yr.map V.str := by
                rw [fm_if, hy]
                rfl
              rw [e12] at e11
              have hym : y ∈ (nears w7).filter (fun x => !decide (x ∈ ns)) := by rw [hy]; exact List.mem_cons_self
              obtain ⟨hy1, hy2⟩ := List.mem_filter.mp hym
              have hy2 : y ∉ ns := by simpa using hy2
              have X11 := X10.same p11.1
              have fS11 := hd2_same (d := d) (w := w) p11.1 _ _ fS10
              have fL11 := hd2_same (d := d) (w := w) p11.1 _ _ fL10
              refine ⟨D2, _, _, _, rfl, rfl, SqL.of e11, atI_nat (j := 0) rfl, L, _, _, rfl, rfl, (hd2_of fL11).1, by rw [List.length_map, sizeLine_eq]; omega, ?_⟩
              have nSL2 : Sm ≠ L := nSL
              refine ⟨(X11.put hL0 Ld Lw Lc).mono (by omega), keepP fS11 Ld Lw nSL2, ns ++ [y], _, _, _, _, _, _, _, _, _, ?_, by rw [List.length_append, hnl]; rfl, ?_, fun x hx => ?_, rfl⟩
              · rw [hd2_upd Ld Lw, upd_same, List.map_append]
                rfl
              · refine List.nodup_append.mpr ⟨hnd, by simp, fun a ha b hb e => ?_⟩
                rw [List.mem_singleton.mp hb] at e
                rw [e] at ha
                exact hy2 ha
              · rcases List.mem_append.mp hx with hx | hx
                · exact hnm x hx
                · rw [List.mem_singleton.mp hx]
                  exact nears_name hN7 y hy1
    · rintro σ Hi ⟨Xi, fS, ns, v5, v6, v7, v8, v9, v10, v11, v12, v13, fL, hnl, hnd, hnm, rfl⟩
      refine ⟨_, rfl, q L ns Hi (Xi.mono (by omega)) hL0 fL (by omega) hnd hnm⟩
end
end WP
namespace WP
open PySem L2
open TL (tl)
def spDrawnDeed (K : PySem.W.Frag) : Sp := fun vs H Q _ => ∃ (d w c a : Addr) (B : Int) (ns : List Str), vs = [.ref d, .ref a] ∧ Dr d w c B H ∧ B ≤ 2 ^ 39 ∧ SqL K (hd2 d w H) a (ns.map V.str) ∧ ns ≠ [] ∧ ns.length ≤ 1000 ∧ (∀ x ∈ ns, isNameS x = true) ∧
  ∀ v xs H', Ds d w c (B + 5) H H' → (∃ t, v = .ref t ∧ hd2 d w H' t = some (.tup xs) ∧ isDeedL xs = true) → Q v H'
theorem dl_num {i : Int} (h0 : 0 ≤ i) (h1 : i ≤ 999999999999999999) : isPartV "number" (.int i) = true := by
  rw [isp_n]
  simp [h0, h1]
theorem dl_tick {i : Int} (h0 : 1 ≤ i) (h1 : i ≤ 999999999999999999) : isPartV "ticks" (.int i) = true := by
  rw [isp_t]
  simp [h0, h1]
theorem dl_name {x : Str} (h : isNameS x = true) : isPartV "name" (.str x) = true := by
  unfold isPartV
  rw [if_pos rfl]
  exact h
theorem dl_mk {z : Str} {ss : List Str} {r : List V} (h : formOf z = some ss) (hl : r.length = ss.length) (ha : (List.zipWith isPartV ss r).all id = true) : isDeedL (.str z :: r) = true := by
  unfold isDeedL
  simp only [h, hl, decide_true, Bool.true_and]
  exact ha
section
variable {P : Program} {w : World} {K : PySem.W.Frag} {mg : Str → Option Value} {base : Heap}
theorem ok__law_drawn_deed {f : Addr} {fd : FuncData} (F : Fun K "_law_drawn_deed" "_law_drawn_deed" s__law_drawn_deed f fd) (T : Bi mg) (D__law_take : Dn P w K mg base CX0 2 "_law_take" ["_law_draw", "_law_size"] spTake) (D__law_pick : Dn P w K mg base CX0 3 "_law_pick" ["_law_draw", "_law_some"] (spPick K)) : FnOk P w K mg base CX0 4 f fd ["_law_draw", "_law_names"] (spDrawnDeed K) := by
  refine F.ok sc__law_drawn_deed (fun vs H Q E h => ?_) (fun cdv A outer s H vs Q E hr h => ?_)
  · obtain ⟨d, w, c, a, B, ns, rfl, _⟩ := h
    rfl
  · obtain ⟨d, w, c, a, B, ns, rfl, D, hB, hS, hne, hl, hnm, q⟩ := h
    have hu := hu_of hr
    have nd := sc__law_drawn_deed.nd
    refine ⟨_, pss_cons (ps_set (i := 2) nd rfl (by first | exact Or.inl rfl | exact Or.inr rfl) (pe_d D__law_pick (hr.mono (by decide)) pass0 (pa_cons (pv 0) (pa_cons (pe_lst (pa_cons pe_int (pa_cons pe_int (pa_cons pe_int (pa_cons pe_int (pa_cons pe_int (pa_cons pe_int (pa_cons pe_int (pa_cons (pe_d D__law_take (hr.mono (by decide)) pass0 (pa_cons (pv 0) (pa_cons pe_int pa_nil))) (pa_cons (pe_op op_pow pe_int pe_int) (pa_cons (pe_op op_sub (pe_op op_pow pe_int pe_int) pe_int) pa_nil))))))))))) pa_nil))))
      (pss_cons (ps_par (i := 3) (j := 4) (by rfl) nd rfl rfl (by decide) rfl rfl (pa_cons (pe_d D__law_pick (hr.mono (by decide)) pass0 (pa_cons (pv 0) (pa_cons (pv 1) pa_nil))) (pa_cons (pe_d D__law_take (hr.mono (by decide)) pass0 (pa_cons (pv 0) (pa_cons pe_int pa_nil))) pa_nil)) (by rfl))
      (pss_cons (ps_set (i := 5) nd rfl (by first | exact Or.inl rfl | exact Or.inr rfl) (pe_lst (pa_cons (pe_tup (pa_cons pe_str (pa_cons (pv 2) pa_nil))) (pa_cons (pe_tup (pa_cons pe_str pa_nil)) (pa_cons (pe_tup (pa_cons pe_str (pa_cons (pv 3) (pa_cons (pv 2) pa_nil)))) (pa_cons (pe_tup (pa_cons pe_str (pa_cons (pe_callB (call_max2 rfl) (by rfl) T.max (by decide +kernel) (pa_cons pe_int (pa_cons (pv 2) pa_nil))) pa_nil))) (pa_cons (pe_tup (pa_cons pe_str (pa_cons (pv 3) pa_nil))) pa_nil)))))))
      (pss_one (ps_ret (pe_d D__law_pick (hr.mono (by decide)) pass0 (pa_cons (pv 0) (pa_cons (pe_op op_cat (pv 5) (pe_lst (pa_cons (pe_tup (pa_cons pe_str (pa_cons (pv 4) (pa_cons (pv 3) (pa_cons (pv 2) pa_nil))))) (pa_cons (pe_tup (pa_cons pe_str (pa_cons (pv 2) (pa_cons (pv 3) pa_nil)))) pa_nil)))) pa_nil))))))), ?_⟩
    have X0 : Ds d w c B H H := ⟨D, Same.refl _⟩
    refine ⟨_, rfl, _, rfl, d, w, c, _, 20001, rfl, D, by omega, by decide, by decide, fun k1 H1 k10 k11 D1 S1 => ?_⟩
    have X1 := X0.draw D1 S1
    refine ⟨_, _, rfl, rfl, ⟨by decide, by decide, by decide⟩, _, _, rfl, rfl, ⟨by decide, by decide, by decide⟩, _, _, rfl, rfl, (by show 10 ≤ sizeLine; decide), fun p hp => ⟨d, w, c, _, (X1.new hp).dr, by omega, .inl ⟨p, _, rfl, SqL.of (X1.at hp), by simp, (by show 10 < 2 ^ 60; decide), fun k2 v2 H2 hv2 D2 S2 => ?_⟩⟩⟩
    have X2 := (X1.new hp).draw D2 S2
    obtain ⟨n, rfl, n0, n1⟩ : ∃ n : Int, v2 = .int n ∧ 0 ≤ n ∧ n ≤ 999999999999999999 := by
      have hm := at_mem hv2
      simp only [List.mem_cons, List.not_mem_nil, or_false] at hm
      rcases hm with rfl | rfl | rfl | rfl | rfl | rfl | rfl | rfl | rfl | rfl
      all_goals refine ⟨_, rfl, ?_, ?_⟩
      all_goals first | omega | decide
    have hS2 : SqL K (hd2 d w H2) a (ns.map V.str) := X2.fr.seq hS
    refine ⟨_, rfl, _, rfl, d, w, c, _, X2.dr, by omega, .inl ⟨a, _, rfl, hS2, by simpa using hne, by rw [List.length_map]; omega, fun k3 v3 H3 hv3 D3 S3 => ?_⟩⟩
    obtain ⟨nm, hnm3, rfl⟩ := at_map hv3
    have hN := hnm nm (at_mem hnm3)
    have X3 := X2.draw D3 S3
    refine ⟨_, rfl, d, w, c, _, 5, rfl, X3.dr, by omega, by decide, by decide, fun k4 H4 k40 k41 D4 S4 => ⟨_, _, rfl, ?_⟩⟩
    have X4 := X3.draw D4 S4
    clear X3 X2 X1 S1 S2 S3 S4 D1 D2 D3 D4 hp
    -- the tuples
    refine ⟨_, rfl, (by show 2 ≤ sizeLine; decide), fun t1 ht1 => ?_⟩
    have X5 : Ds d w c (B + 1 + 1 + 1 + 1) H (upd H4 t1 (.tup [.str "begin", .int n])) := X4.new ht1
    have f1 : hd2 d w (upd H4 t1 (.tup [.str "begin", .int n])) t1 = _ := X4.at ht1
    generalize upd H4 t1 (.tup [.str "begin", .int n]) = H5 at X5 f1 ⊢
    refine ⟨(by show 1 ≤ sizeLine; decide), fun t2 ht2 => ?_⟩
    have X6 : Ds d w c (B + 1 + 1 + 1 + 1) H (upd H5 t2 (.tup [.str "step"])) := X5.new ht2
    have f1 : hd2 d w (upd H5 t2 (.tup [.str "step"])) t1 = _ := keepA f1 ht2
    have f2 : hd2 d w (upd H5 t2 (.tup [.str "step"])) t2 = _ := X5.at ht2
    generalize upd H5 t2 (.tup [.str "step"]) = H6 at X6 f1 f2 ⊢
    refine ⟨_, rfl, _, rfl, (by show 3 ≤ sizeLine; decide), fun t3 ht3 => ?_⟩
    have X7 : Ds d w c (B + 1 + 1 + 1 + 1) H (upd H6 t3 (.tup [.str "clear", .str nm, .int n])) := X6.new ht3
    have f1 : hd2 d w (upd H6 t3 (.tup [.str "clear", .str nm, .int n])) t1 = _ := keepA f1 ht3
    have f2 : hd2 d w (upd H6 t3 (.tup [.str "clear", .str nm, .int n])) t2 = _ := keepA f2 ht3
    have f3 : hd2 d w (upd H6 t3 (.tup [.str "clear", .str nm, .int n])) t3 = _ := X6.at ht3
    generalize upd H6 t3 (.tup [.str "clear", .str nm, .int n]) = H7 at X7 f1 f2 f3 ⊢
    refine ⟨_, rfl, _, _, rfl, (by show 2 ≤ sizeLine; decide), fun t4 ht4 => ?_⟩
    obtain ⟨m, hm, m0, m1⟩ : ∃ m : Int, (if n > 1 then n else 1) = m ∧ 1 ≤ m ∧ m ≤ 999999999999999999 := ⟨_, rfl, by split <;> omega, by split <;> omega⟩
    rw [hm]
    have X8 : Ds d w c (B + 1 + 1 + 1 + 1) H (upd H7 t4 (.tup [.str "wait", .int m])) := X7.new ht4
    have f1 : hd2 d w (upd H7 t4 (.tup [.str "wait", .int m])) t1 = _ := keepA f1 ht4
    have f2 : hd2 d w (upd H7 t4 (.tup [.str "wait", .int m])) t2 = _ := keepA f2 ht4
    have f3 : hd2 d w (upd H7 t4 (.tup [.str "wait", .int m])) t3 = _ := keepA f3 ht4
    have f4 : hd2 d w (upd H7 t4 (.tup [.str "wait", .int m])) t4 = _ := X7.at ht4
    generalize upd H7 t4 (.tup [.str "wait", .int m]) = H8 at X8 f1 f2 f3 f4 ⊢
    refine ⟨_, rfl, (by show 2 ≤ sizeLine; decide), fun t5 ht5 => ?_⟩
    have X9 : Ds d w c (B + 1 + 1 + 1 + 1) H (upd H8 t5 (.tup [.str "open", .str nm])) := X8.new ht5
    have f1 : hd2 d w (upd H8 t5 (.tup [.str "open", .str nm])) t1 = _ := keepA f1 ht5
    have f2 : hd2 d w (upd H8 t5 (.tup [.str "open", .str nm])) t2 = _ := keepA f2 ht5
    have f3 : hd2 d w (upd H8 t5 (.tup [.str "open", .str nm])) t3 = _ := keepA f3 ht5
    have f4 : hd2 d w (upd H8 t5 (.tup [.str "open", .str nm])) t4 = _ := keepA f4 ht5
    have f5 : hd2 d w (upd H8 t5 (.tup [.str "open", .str nm])) t5 = _ := X8.at ht5
    generalize upd H8 t5 (.tup [.str "open", .str nm]) = H9 at X9 f1 f2 f3 f4 f5 ⊢
    refine ⟨(by show 5 ≤ sizeLine; decide), fun l1 hl1 => ?_⟩
    have X10 : Ds d w c (B + 1 + 1 + 1 + 1) H (upd H9 l1 (.lst [.ref t1, .ref t2, .ref t3, .ref t4, .ref t5])) := X9.new hl1
    have f1 : hd2 d w (upd H9 l1 (.lst [.ref t1, .ref t2, .ref t3, .ref t4, .ref t5])) t1 = _ := keepA f1 hl1
    have f2 : hd2 d w (upd H9 l1 (.lst [.ref t1, .ref t2, .ref t3, .ref t4, .ref t5])) t2 = _ := keepA f2 hl1
    have f3 : hd2 d w (upd H9 l1 (.lst [.ref t1, .ref t2, .ref t3, .ref t4, .ref t5])) t3 = _ := keepA f3 hl1
    have f4 : hd2 d w (upd H9 l1 (.lst [.ref t1, .ref t2, .ref t3, .ref t4, .ref t5])) t4 = _ := keepA f4 hl1
    have f5 : hd2 d w (upd H9 l1 (.lst [.ref t1, .ref t2, .ref t3, .ref t4, .ref t5])) t5 = _ := keepA f5 hl1
    have fl : hd2 d w (upd H9 l1 (.lst [.ref t1, .ref t2, .ref t3, .ref t4, .ref t5])) l1 = _ := X9.at hl1
    generalize upd H9 l1 (.lst [.ref t1, .ref t2, .ref t3, .ref t4, .ref t5]) = H10 at X10 f1 f2 f3 f4 f5 fl ⊢
    refine ⟨_, rfl, _, rfl, _, rfl, _, rfl, _, rfl, (by show 4 ≤ sizeLine; decide), fun t6 ht6 => ?_⟩
    have X11 : Ds d w c (B + 1 + 1 + 1 + 1) H (upd H10 t6 (.tup [.str "lose", .int k4, .str nm, .int n])) := X10.new ht6
    have S6 : Same (hd2 d w H10) (hd2 d w (upd H10 t6 (.tup [.str "lose", .int k4, .str nm, .int n]))) := hd2_new ht6
    have f6 : hd2 d w (upd H10 t6 (.tup [.str "lose", .int k4, .str nm, .int n])) t6 = _ := X10.at ht6
    generalize upd H10 t6 (.tup [.str "lose", .int k4, .str nm, .int n]) = H11 at X11 S6 f6 ⊢
    refine ⟨_, rfl, _, rfl, (by show 3 ≤ sizeLine; decide), fun t7 ht7 => ?_⟩
    have X12 : Ds d w c (B + 1 + 1 + 1 + 1) H (upd H11 t7 (.tup [.str "fetch", .int n, .str nm])) := X11.new ht7
    have S7 : Same (hd2 d w H11) (hd2 d w (upd H11 t7 (.tup [.str "fetch", .int n, .str nm]))) := hd2_new ht7
    have f7 : hd2 d w (upd H11 t7 (.tup [.str "fetch", .int n, .str nm])) t7 = _ := X11.at ht7
    generalize upd H11 t7 (.tup [.str "fetch", .int n, .str nm]) = H12 at X12 S7 f7 ⊢
    refine ⟨(by show 2 ≤ sizeLine; decide), fun l2 hl2 => ?_⟩
    have X13 : Ds d w c (B + 1 + 1 + 1 + 1) H (upd H12 l2 (.lst [.ref t6, .ref t7])) := X12.new hl2
    have S8 : Same (hd2 d w H12) (hd2 d w (upd H12 l2 (.lst [.ref t6, .ref t7]))) := hd2_new hl2
    have fl2 : hd2 d w (upd H12 l2 (.lst [.ref t6, .ref t7])) l2 = _ := X12.at hl2
    generalize upd H12 l2 (.lst [.ref t6, .ref t7]) = H13 at X13 S8 fl2 ⊢
    refine ⟨l1, l2, _, _, rfl, rfl, (hd2_of (S8 _ _ (S7 _ _ (S6 _ _ fl)))).1, (hd2_of fl2).1, (by show 7 ≤ sizeLine; decide), fun l3 hl3 => ?_⟩
    refine ⟨d, w, c, _, (X13.new hl3).dr, by omega, .inl ⟨l3, _, rfl, SqL.of (X13.at hl3), by simp, (by show 7 < 2 ^ 60; decide), fun k5 v5 H14 hv5 D14 S14 => ?_⟩⟩
    have X14 := (X13.new hl3).draw D14 S14
    have up : ∀ {t : Addr} {u : HO}, hd2 d w H13 t = some u → hd2 d w H14 t = some u := fun e => S14 _ _ (keepA e hl3)
    have hm5 := at_mem hv5
    simp only [List.cons_append, List.nil_append, List.mem_cons, List.not_mem_nil, or_false] at hm5
    have fin : ∀ (t : Addr) (xs : List V), hd2 d w H13 t = some (.tup xs) → isDeedL xs = true → Q (.ref t) H14 := fun t xs e hd => q _ xs H14 (X14.mono (by omega)) ⟨t, rfl, up e, hd⟩
    rcases hm5 with rfl | rfl | rfl | rfl | rfl | rfl | rfl
    · exact fin t1 _ (S8 _ _ (S7 _ _ (S6 _ _ f1))) (dl_mk (ss := ["number"]) (by decide +kernel) rfl (by simp [dl_num n0 n1]))
    · exact fin t2 _ (S8 _ _ (S7 _ _ (S6 _ _ f2))) (dl_mk (ss := []) (by decide +kernel) rfl rfl)
    · exact fin t3 _ (S8 _ _ (S7 _ _ (S6 _ _ f3))) (dl_mk (ss := ["name", "number"]) (by decide +kernel) rfl (by simp [dl_num n0 n1, dl_name hN]))
    · exact fin t4 _ (S8 _ _ (S7 _ _ (S6 _ _ f4))) (dl_mk (ss := ["ticks"]) (by decide +kernel) rfl (by simp [dl_tick m0 m1]))
    · exact fin t5 _ (S8 _ _ (S7 _ _ (S6 _ _ f5))) (dl_mk (ss := ["name"]) (by decide +kernel) rfl (by simp [dl_name hN]))
    · exact fin t6 _ (S8 _ _ (S7 _ _ f6)) (dl_mk (ss := ["number", "name", "number"]) (by decide +kernel) rfl (by simp [dl_num n0 n1, dl_name hN, dl_num k40 (by omega : k4 ≤ 999999999999999999)]))
    · exact fin t7 _ (S8 _ _ f7) (dl_mk (ss := ["number", "name"]) (by decide +kernel) rfl (by simp [dl_num n0 n1, dl_name hN]))
end
end WP
namespace WP
open PySem L2
open TL (tl)
def cutL (ls : List Str) (lo hi : Option Int) : List Str := (ls.drop (HT.sIx ls.length 0 lo)).take (HT.sIx ls.length ls.length hi - HT.sIx ls.length 0 lo)
theorem cutV_map (ls : List Str) (lo hi : Option Int) : cutV (ls.map V.str) lo hi = (cutL ls lo hi).map V.str := by
  unfold cutV cutL
  rw [List.length_map, ← List.map_drop, ← List.map_take]
theorem cutL_ok {n : Nat} {ls : List Str} (h : Txs n ls) (lo hi : Option Int) : Txs n (cutL ls lo hi) := (h.drop _).take _
theorem cutL_two (ls : List Str) {i j : Int} (h0 : 0 ≤ i) (hj : i ≤ j) : wgt (cutL ls none (some i)) + wgt (cutL ls (some j) none) ≤ wgt ls := by
  have e1 : cutL ls none (some i) = ls.take (min i.toNat ls.length) := by
    unfold cutL
    show ((ls.drop 0).take ((if i < 0 then (i + (ls.length : Int)).toNat else min i.toNat ls.length) - 0)) = _
    rw [if_neg (by omega), List.drop_zero, Nat.sub_zero]
  have e2 : cutL ls (some j) none = ls.drop (min j.toNat ls.length) := by
    unfold cutL
    show ((ls.drop (if j < 0 then (j + (ls.length : Int)).toNat else min j.toNat ls.length)).take (ls.length - (if j < 0 then (j + (ls.length : Int)).toNat else min j.toNat ls.length))) = _
    rw [if_neg (by omega), List.take_of_length_le (by rw [List.length_drop]; exact Nat.le_refl _)]
  rw [e1, e2]
  have h1 : ls.drop (min j.toNat ls.length) = (ls.drop (min i.toNat ls.length)).drop (min j.toNat ls.length - min i.toNat ls.length) := by
    rw [List.drop_drop]
    congr 1
    omega
  rw [h1]
  have h2 := wgt_drop (min j.toNat ls.length - min i.toNat ls.length) (ls.drop (min i.toNat ls.length))
  have h3 := wgt_app (ls.take (min i.toNat ls.length)) (ls.drop (min i.toNat ls.length))
  rw [List.take_append_drop] at h3
  omega
theorem wgt_cons (a : Str) (r : List Str) : wgt (a :: r) = a.length + 1 + wgt r := by
  unfold wgt
  rw [List.map_cons, List.sum_cons, List.length_cons]
  omega
theorem wgt_set {x : Str} : ∀ {ls : List Str} {i : Nat} {y : Str}, ls[i]? = some y → wgt (ls.set i x) + y.length = wgt ls + x.length
  | [], i, y, h => by simp at h
  | a :: r, 0, y, h => by
    have : a = y := by simpa using h
    rw [List.set_cons_zero, wgt_cons, wgt_cons, this]
    omega
  | a :: r, i + 1, y, h => by
    have := wgt_set (x := x) (show r[i]? = some y by simpa using h)
    rw [List.set_cons_succ, wgt_cons, wgt_cons]
    omega
theorem set_ok {n : Nat} {ls : List Str} (h : Txs n ls) {i : Nat} {x : Str} (hx : ∀ c ∈ tl x, c < 0x110000) : ∀ l ∈ ls.set i x, ∀ c ∈ tl l, c < 0x110000 := fun l hl => by
  rcases List.mem_or_eq_of_mem_set hl with hl | rfl
  · exact h.ok l hl
  · exact hx
theorem map_set (ls : List Str) (i : Nat) (x : Str) : (ls.map V.str).set i (.str x) = (ls.set i x).map V.str := by rw [List.map_set]
theorem ixN_of {n : Nat} {k : Int} (h0 : 0 ≤ k) (h1 : k < n) : ixN n k = some k.toNat := by
  unfold ixN
  rw [if_pos h0, if_pos (by omega)]
abbrev bentSigns : List Str := ["a", "z", "0", " ", "1", "-", "\n", "9", "A", "+", "_", "  ", "00", " a", "\n\n"]
theorem bent_eq : signs "az0 1-\n9A+_" ++ [V.str "  ", V.str "00", V.str " a", V.str "\n\n"] = bentSigns.map V.str := by rfl
theorem bent_tx : ∀ x ∈ bentSigns, Tx 2 x := fun x hx => by
  have h : ∀ x ∈ bentSigns, x.length ≤ 2 ∧ PyData.strOk x = true := by decide +kernel
  obtain ⟨h1, h2⟩ := h x hx
  exact ⟨h1, (strOk_iff x).mp h2⟩
def spBent (K : PySem.W.Frag) : Sp := fun vs H Q _ => ∃ (d w c a : Addr) (B : Int) (z : Str) (n : Nat) (ws : List Str), vs = [.ref d, .str z, .ref a] ∧ Dr d w c B H ∧ B ≤ 2 ^ 39 ∧ Tx n z ∧ n ≤ 20000 ∧ hd2 d w H a = some (.lst (ws.map V.str)) ∧ ws.length ≤ 100 ∧ (∀ x ∈ ws, Tx 5000 x) ∧
  ∀ z' H', Ds d w c (B + 7) H H' → Tx (2 * n + 5010) z' → Q (.str z') H'
section
variable {P : Program} {w : World} {K : PySem.W.Frag} {mg : Str → Option Value} {base : Heap}
theorem ok__law_bent_text {f : Addr} {fd : FuncData} (F : Fun K "_law_bent_text" "_law_bent_text" s__law_bent_text f fd) (T : Bi mg) (D__law_take : Dn P w K mg base CX0 2 "_law_take" ["_law_draw", "_law_size"] spTake) (D__law_pick : Dn P w K mg base CX0 3 "_law_pick" ["_law_draw", "_law_some"] (spPick K)) : FnOk P w K mg base CX0 4 f fd ["_law_draw", "_law_text", "_law_some"] (spBent K) := by
  refine F.ok sc__law_bent_text (fun vs H Q E h => ?_) (fun cdv A outer s H vs Q E hr h => ?_)
  · obtain ⟨d, w, c, a, B, z, n, ws, rfl, _⟩ := h
    rfl
  · obtain ⟨d, w, c, a, B, z, n, ws, rfl, D, hB, hz, hn, hA, hwl, hws, q⟩ := h
    have hu := hu_of hr
    have nd := sc__law_bent_text.nd
    have hzl := hz.len
    refine ⟨_, pss_cons (ps_par (i := 3) (j := 4) (by rfl) nd rfl rfl (by decide) rfl rfl (pa_cons (pe_d D__law_take (hr.mono (by decide)) pass0 (pa_cons (pv 0) (pa_cons pe_int pa_nil))) (pa_cons (pe_d D__law_take (hr.mono (by decide)) pass0 (pa_cons (pv 0) (pa_cons (pe_op op_add (pe_callB call_len (by rfl) T.len (by decide +kernel) (pa_cons (pv 1) pa_nil)) pe_int) pa_nil))) pa_nil)) (by rfl))
      (pss_cons (ps_set (i := 5) nd rfl (by first | exact Or.inl rfl | exact Or.inr rfl) (pe_d D__law_pick (hr.mono (by decide)) pass0 (pa_cons (pv 0) (pa_cons (pe_op op_cat (pe_callTy (call_list_txt rfl) (by rfl) T.list (by decide +kernel) (pa_cons pe_str pa_nil)) (pe_lst (pa_cons pe_str (pa_cons pe_str (pa_cons pe_str (pa_cons pe_str pa_nil)))))) pa_nil))))
      (pss_cons (ps_if (pt_cmpR op_lt (pv 3) pe_int (nomark _)) (pss_one (ps_ret (pe_ix ix_list (pe_lst (pa_cons (pe_op op_add_str (pe_op op_add_str (pe_slice sl_str (pv 1) po_none (po_some (pv 4))) (pv 5)) (pe_slice sl_str (pv 1) (po_some (pv 4)) po_none)) (pa_cons (pe_op op_add_str (pe_op op_add_str (pe_slice sl_str (pv 1) po_none (po_some (pv 4))) (pv 5)) (pe_slice sl_str (pv 1) (po_some (pe_op op_add (pv 4) pe_int)) po_none)) (pa_cons (pe_op op_add_str (pe_slice sl_str (pv 1) po_none (po_some (pv 4))) (pe_slice sl_str (pv 1) (po_some (pe_op op_add (pv 4) pe_int)) po_none)) pa_nil)))) (pv 3) (fun _ _ => rfl)))) pss_nil)
      (pss_cons (ps_set (i := 6) nd rfl (by first | exact Or.inl rfl | exact Or.inr rfl) (pe_split (pv 1) pe_str))
      (pss_cons (ps_par (i := 4) (j := 7) (by rfl) nd rfl rfl (by decide) rfl rfl (pa_cons (pe_d D__law_take (hr.mono (by decide)) pass0 (pa_cons (pv 0) (pa_cons (pe_callB call_len (by rfl) T.len (by decide +kernel) (pa_cons (pv 6) pa_nil)) pa_nil))) (pa_cons (pe_d D__law_take (hr.mono (by decide)) pass0 (pa_cons (pv 0) (pa_cons (pe_callB call_len (by rfl) T.len (by decide +kernel) (pa_cons (pv 6) pa_nil)) pa_nil))) pa_nil)) (by rfl))
      (pss_cons (ps_if (pt_cmpR op_eq (pv 3) pe_int (nomark _)) (pss_one (ps_ret (pe_join pe_str (pe_op op_cat (pe_slice sl_list (pv 6) po_none (po_some (pv 4))) (pe_slice sl_list (pv 6) (po_some (pe_op op_add (pv 4) pe_int)) po_none))))) pss_nil)
      (pss_cons (ps_if (pt_cmpR op_eq (pv 3) pe_int (nomark _)) (pss_one (ps_ret (pe_join pe_str (pe_op op_cat (pe_op op_cat (pe_slice sl_list (pv 6) po_none (po_some (pv 4))) (pe_lst (pa_cons (pe_ix ix_list (pv 6) (pv 7) (fun _ _ => rfl)) pa_nil))) (pe_slice sl_list (pv 6) (po_some (pv 4)) po_none))))) pss_nil)
      (pss_cons (ps_if (pt_cmpR op_eq (pv 3) pe_int (nomark _)) (pss_cons (ps_asg (pe_tup (pa_cons (pe_ix ix_list (pv 6) (pv 7) (fun _ _ => rfl)) (pa_cons (pe_ix ix_list (pv 6) (pv 4) (fun _ _ => rfl)) pa_nil))) (pg_tup rfl (pgs_cons (pg_sub (pv 6) (pv 4) set_list) (pgs_cons (pg_sub (pv 6) (pv 7) set_list) pgs_nil))))
      (pss_one (ps_ret (pe_join pe_str (pv 6))))) pss_nil)
      (pss_cons (ps_set (i := 8) nd rfl (by first | exact Or.inl rfl | exact Or.inr rfl) (pe_split (pe_ix ix_list (pv 6) (pv 4) (fun _ _ => rfl)) pe_str))
      (pss_cons (ps_par (i := 9) (j := 10) (by rfl) nd rfl rfl (by decide) rfl rfl (pa_cons (pe_d D__law_take (hr.mono (by decide)) pass0 (pa_cons (pv 0) (pa_cons (pe_callB call_len (by rfl) T.len (by decide +kernel) (pa_cons (pv 8) pa_nil)) pa_nil))) (pa_cons (pe_d D__law_pick (hr.mono (by decide)) pass0 (pa_cons (pv 0) (pa_cons (pe_op op_cat (pv 2) (pe_split (pe_ix ix_list (pv 6) (pv 7) (fun _ _ => rfl)) pe_str)) pa_nil))) pa_nil)) (by rfl))
      (pss_cons (ps_set (i := 11) nd rfl (by first | exact Or.inl rfl | exact Or.inr rfl) (pe_op op_rep (pe_lst (pa_cons (pv 10) pa_nil)) (pe_callTy call_int1 (by rfl) T.int (by decide +kernel) (pa_cons (pe_cmpR op_lt (pv 3) pe_int (nomark _)) pa_nil))))
      (pss_cons (ps_asg (pe_join pe_str (pe_op op_cat (pe_op op_cat (pe_slice sl_list (pv 8) po_none (po_some (pv 9))) (pv 11)) (pe_slice sl_list (pv 8) (po_some (pe_op op_add (pv 9) (pe_callTy call_int1 (by rfl) T.int (by decide +kernel) (pa_cons (pe_cmpR op_ne (pv 3) pe_int (nomark _)) pa_nil)))) po_none))) (pg_sub (pv 6) (pv 4) set_list))
      (pss_one (ps_ret (pe_join pe_str (pv 6))))))))))))))), ?_⟩
    have X0 : Ds d w c B H H := ⟨D, Same.refl _⟩
    refine ⟨_, rfl, d, w, c, _, 10, rfl, D, by omega, by decide, by decide, fun wy H1 wy0 wy1 D1 S1 => ?_⟩
    have X1 := X0.draw D1 S1
    refine ⟨_, rfl, _, rfl, _, _, rfl, ⟨by rw [sizeLine_eq]; omega, rfl⟩, _, _, rfl, rfl, d, w, c, _, _, rfl, X1.dr, by omega, by omega, by omega, fun k2 H2 k20 k21 D2 S2 => ⟨_, _, rfl, ?_⟩⟩
    have X2 := X1.draw D2 S2
    have hA2 := S2 _ _ (S1 _ _ hA)
    refine ⟨_, rfl, "az0 1-\n9A+_", rfl, by decide, fun p1 hp1 => ?_⟩
    have X3 : Ds d w c (B + 1 + 1) H (upd H2 p1 (.lst (signs "az0 1-\n9A+_"))) := X2.new hp1
    have hA3 : hd2 d w (upd H2 p1 (.lst (signs "az0 1-\n9A+_"))) a = _ := keepA hA2 hp1
    have f1 : upd H2 p1 (.lst (signs "az0 1-\n9A+_")) p1 = some (.lst (signs "az0 1-\n9A+_")) := upd_same
    generalize upd H2 p1 (.lst (signs "az0 1-\n9A+_")) = H3 at X3 hA3 f1 ⊢
    refine ⟨(by show 4 ≤ sizeLine; decide), fun p2 hp2 => ⟨p1, p2, _, _, rfl, rfl, (Evl.Ex.new hp2) _ _ f1, upd_same, (by show 15 ≤ sizeLine; decide), fun p3 hp3 => ?_⟩⟩
    rw [bent_eq]
    have X5 : Ds d w c (B + 1 + 1) H (upd (upd H3 p2 (.lst [V.str "  ", V.str "00", V.str " a", V.str "\n\n"])) p3 (.lst (bentSigns.map V.str))) := (X3.new hp2).new hp3
    have hA5 : hd2 d w (upd (upd H3 p2 (.lst [V.str "  ", V.str "00", V.str " a", V.str "\n\n"])) p3 (.lst (bentSigns.map V.str))) a = _ := keepA (keepA hA3 hp2) hp3
    have f3 : hd2 d w (upd (upd H3 p2 (.lst [V.str "  ", V.str "00", V.str " a", V.str "\n\n"])) p3 (.lst (bentSigns.map V.str))) p3 = _ := (X3.new hp2).at hp3
    refine ⟨d, w, c, _, X5.dr, by omega, .inl ⟨p3, _, rfl, SqL.of f3, by simp, by decide, fun k6 v6 H6 hv6 D6 S6 => ?_⟩⟩
    obtain ⟨sg, hsg, rfl⟩ := at_map hv6
    have hsg := bent_tx sg (at_mem hsg)
    have X6 := X5.draw D6 S6
    have hA6 := S6 _ _ hA5
    clear X5 hA5 f3 f1 X3 hA3 X2 X1 S1 S2 D1 D2 D6 hA2
    have hsl := hsg.len
    have ct : ∀ lo hi, (cutS z lo hi).length ≤ n := fun lo hi => (hz.cut lo hi).len
    refine ⟨_, rfl, _, _, rfl, rfl, _, rfl, ?_⟩
    refine ite2 (fun h3 => ?_) (fun h3 => ?_)
    · simp only [decide_eq_true_eq] at h3
      have c1 := ct none (some k2)
      have c2 := ct (some k2) none
      have c3 := ct (some (k2 + 1)) none
      refine ⟨_, rfl, _, rfl, _, rfl, z, rfl, by rw [sizeLine_eq]; omega, _, rfl, _, _, rfl, rfl, by rw [sizeLine_eq]; omega, _, rfl, _, rfl, _, rfl, z, rfl, by rw [sizeLine_eq]; omega, _, _, rfl, rfl, by rw [sizeLine_eq, Str.length_append]; omega, ?_⟩
      refine ⟨_, rfl, _, rfl, _, rfl, z, rfl, by rw [sizeLine_eq]; omega, _, rfl, _, _, rfl, rfl, by rw [sizeLine_eq]; omega, _, rfl, _, rfl, _, _, rfl, rfl, _, rfl, z, rfl, by rw [sizeLine_eq]; omega, _, _, rfl, rfl, by rw [sizeLine_eq, Str.length_append]; omega, ?_⟩
      refine ⟨_, rfl, _, rfl, _, rfl, z, rfl, by rw [sizeLine_eq]; omega, _, rfl, _, rfl, _, _, rfl, rfl, _, rfl, z, rfl, by rw [sizeLine_eq]; omega, _, _, rfl, rfl, by rw [sizeLine_eq]; omega, ?_⟩
      refine ⟨(by show 3 ≤ sizeLine; decide), fun p4 hp4 => ⟨_, rfl, ?_⟩⟩
      have fin : ∀ x : Str, Tx (2 * n + 5010) x → Q (.str x) (upd H6 p4 (.lst [V.str (cutS z none (some k2) ++ sg ++ cutS z (some k2) none), V.str (cutS z none (some k2) ++ sg ++ cutS z (some (k2 + 1)) none), V.str (cutS z none (some k2) ++ cutS z (some (k2 + 1)) none)])) := fun x hx => q x _ ((X6.new hp4).mono (by omega)) hx
      have t1 := hz.cut none (some k2)
      have t2 := hz.cut (some k2) none
      have t3 := hz.cut (some (k2 + 1)) none
      have hw : wy = 0 ∨ wy = 1 ∨ wy = 2 := by omega
      rcases hw with rfl | rfl | rfl
      · exact ⟨p4, _, _, _, rfl, rfl, SqL.of upd_same, atI_nat (j := 0) rfl, fin _ (((t1.app hsg).app t2).mono (by omega))⟩
      · exact ⟨p4, _, _, _, rfl, rfl, SqL.of upd_same, atI_nat (j := 1) rfl, fin _ (((t1.app hsg).app t3).mono (by omega))⟩
      · exact ⟨p4, _, _, _, rfl, rfl, SqL.of upd_same, atI_nat (j := 2) rfl, fin _ ((t1.app t3).mono (by omega))⟩
    · simp only [decide_eq_true_eq] at h3
      refine ⟨_, rfl, ⟨_, rfl⟩, z, nl, rfl, rfl, by decide, by rw [sizeLine_eq]; omega, fun pL hpL => ?_⟩
      have hls := hz.split (y := nl) (by decide)
      have hlne := split_nil_no z
      generalize Txt.split z nl = ls at hls hlne ⊢
      have hlw := hls.len
      have hll : ls.length ≤ n + 1 := by have := hls.len; unfold wgt at this; omega
      have hl0 : 0 < ls.length := List.length_pos_iff.mpr hlne
      have X7 : Ds d w c (B + 1 + 1 + 1) H (upd H6 pL (.lst (ls.map V.str))) := X6.new hpL
      have hA7 : hd2 d w (upd H6 pL (.lst (ls.map V.str))) a = _ := keepA hA6 hpL
      have fL7 : hd2 d w (upd H6 pL (.lst (ls.map V.str))) pL = _ := X6.at hpL
      have hpL0 : hd2 d w H pL = none := noneS X6.fr (hd2_none hpL)
      obtain ⟨Ld, Lw, Lc⟩ := X6.dr.off hpL
      have nAL : a ≠ pL := fun e => by rw [e, hd2_none hpL] at hA6; cases hA6
      generalize upd H6 pL (.lst (ls.map V.str)) = H7 at X7 hA7 fL7 ⊢
      refine ⟨_, rfl, _, rfl, _, _, rfl, .inl ⟨_, SqL.of (hd2_of fL7).1, rfl⟩, d, w, c, _, _, rfl, X7.dr, by omega, by rw [List.length_map]; omega, by rw [List.length_map]; omega, fun i8 H8 i80 i81 D8 S8 => ?_⟩
      have X8 := X7.draw D8 S8
      have fL8 := S8 _ _ fL7
      refine ⟨_, rfl, _, rfl, _, _, rfl, .inl ⟨_, SqL.of (hd2_of fL8).1, rfl⟩, d, w, c, _, _, rfl, X8.dr, by omega, by rw [List.length_map]; omega, by rw [List.length_map]; omega, fun i9 H9 i90 i91 D9 S9 => ⟨_, _, rfl, ?_⟩⟩
      rw [List.length_map] at i81 i91
      have X9 := X8.draw D9 S9
      have fL9 := S9 _ _ fL8
      have hA9 := S9 _ _ (S8 _ _ hA7)
      have gL9 := (hd2_of fL9).1
      clear X7 X8 D8 D9 S8 S9 fL7 fL8 hA7
      have at1 : ls[i8.toNat]? = some (ls[i8.toNat]'(by omega)) := List.getElem?_eq_getElem _
      have at2 : ls[i9.toNat]? = some (ls[i9.toNat]'(by omega)) := List.getElem?_eq_getElem _
      generalize ls[i8.toNat]'(by omega) = la at at1
      generalize ls[i9.toNat]'(by omega) = lb at at2
      have aV1 : atI (ls.map V.str) i8 = some (.str la) := by
        have := atI_nat (xs := ls.map V.str) (j := i8.toNat) (v := .str la) (by rw [List.getElem?_map, at1]; rfl)
        rw [Int.toNat_of_nonneg i80] at this
        exact this
      have aV2 : atI (ls.map V.str) i9 = some (.str lb) := by
        have := atI_nat (xs := ls.map V.str) (j := i9.toNat) (v := .str lb) (by rw [List.getElem?_map, at2]; rfl)
        rw [Int.toNat_of_nonneg i90] at this
        exact this
      have tla := hls.at (at_mem at1)
      have tlb := hls.at (at_mem at2)
      have wla := wgt_mem (at_mem at1)
      have wlb := wgt_mem (at_mem at2)
      have cl := fun lo hi => cutL_ok hls lo hi
      have len_of : ∀ {m : Nat} {l : List Str}, Txs m l → l.length ≤ m := fun {m l} h => by have := h.len; unfold wgt at this; omega
      have nl1 : nl.length ≤ 1 := by decide
      have nlo : ∀ c ∈ tl nl, c < 0x110000 := by decide +kernel
      have sp1 : (" " : Str).length ≤ 1 := by decide
      have spo : ∀ c ∈ tl " ", c < 0x110000 := by decide +kernel
      refine ⟨_, rfl, rfl, _, rfl, ?_⟩
      refine ite2 (fun h4 => ?_) (fun h4 => ?_)
      · refine ⟨⟨_, rfl⟩, _, rfl, _, rfl, _, rfl, pL, _, rfl, SqL.of gL9, fun p1 hp1 => ?_⟩
        rw [cutV_map]
        refine ⟨_, rfl, _, rfl, _, _, rfl, rfl, _, rfl, pL, _, rfl, SqL.of ((Evl.Ex.new hp1) _ _ gL9), fun p2 hp2 => ?_⟩
        rw [cutV_map]
        have l1 := len_of (cl none (some i8))
        have l2 := len_of (cl (some (i8 + 1)) none)
        refine ⟨p1, p2, _, _, rfl, rfl, (Evl.Ex.new hp2) _ _ upd_same, upd_same, by rw [List.length_map, List.length_map, sizeLine_eq]; omega, fun p3 hp3 => ?_⟩
        rw [← List.map_append]
        have tt := (cl none (some i8)).app (cl (some (i8 + 1)) none)
        refine ⟨nl, p3, _, rfl, rfl, .inl (SqL.of upd_same), Nat.le_trans (join_room tt nl1) (by omega), ?_⟩
        exact q _ _ ((((X9.new hp1).new hp2).new hp3).mono (by omega)) ((tt.join nl1 nlo).mono (by omega))
      · refine ⟨_, rfl, rfl, _, rfl, ?_⟩
        refine ite2 (fun h5 => ?_) (fun h5 => ?_)
        · refine ⟨⟨_, rfl⟩, _, rfl, _, rfl, _, rfl, pL, _, rfl, SqL.of gL9, fun p1 hp1 => ?_⟩
          rw [cutV_map]
          have g1 := (Evl.Ex.new (o := .lst ((cutL ls none (some i8)).map V.str)) hp1) _ _ gL9
          refine ⟨_, rfl, _, rfl, pL, _, _, _, rfl, rfl, SqL.of g1, aV2, (by show 1 ≤ sizeLine; decide), fun p2 hp2 => ?_⟩
          have l1 := len_of (cl none (some i8))
          have l2 := len_of (cl (some i8) none)
          refine ⟨p1, p2, _, _, rfl, rfl, (Evl.Ex.new hp2) _ _ upd_same, upd_same, by rw [List.length_map, sizeLine_eq]; show _ + 1 ≤ _; omega, fun p3 hp3 => ?_⟩
          have g2 := (Evl.Ex.new (o := .lst [V.str lb]) hp2) _ _ g1
          have g3 := (Evl.Ex.new (o := .lst ((cutL ls none (some i8)).map V.str ++ [V.str lb])) hp3) _ _ g2
          refine ⟨_, rfl, _, rfl, _, rfl, pL, _, rfl, SqL.of g3, fun p4 hp4 => ?_⟩
          rw [cutV_map]
          refine ⟨p3, p4, _, _, rfl, rfl, (Evl.Ex.new hp4) _ _ upd_same, upd_same, by rw [List.length_map, List.length_append, List.length_map, sizeLine_eq]; show _ + 1 + _ ≤ _; omega, fun p5 hp5 => ?_⟩
          have eM : (cutL ls none (some i8)).map V.str ++ [V.str lb] ++ (cutL ls (some i8) none).map V.str = (cutL ls none (some i8) ++ [lb] ++ cutL ls (some i8) none).map V.str := by
            rw [List.map_append, List.map_append]
            rfl
          rw [eM]
          have w2 := cutL_two ls i80 (Int.le_refl i8)
          have tt : Txs (2 * n + 5010) (cutL ls none (some i8) ++ [lb] ++ cutL ls (some i8) none) := by
            refine ⟨?_, ?_⟩
            · rw [wgt_app, wgt_app, wgt_cons]
              have : wgt [] = 0 := rfl
              omega
            · intro l hl
              rcases List.mem_append.mp hl with hl | hl
              · rcases List.mem_append.mp hl with hl | hl
                · exact (cl none (some i8)).ok l hl
                · rw [List.mem_singleton.mp hl]
                  exact tlb.ok
              · exact (cl (some i8) none).ok l hl
          refine ⟨nl, p5, _, rfl, rfl, .inl (SqL.of upd_same), Nat.le_trans (join_room tt nl1) (by omega), ?_⟩
          exact q _ _ ((((((X9.new hp1).new hp2).new hp3).new hp4).new hp5).mono (by omega)) (tt.join nl1 nlo)
        · refine ⟨_, rfl, rfl, _, rfl, ?_⟩
          refine ite2 (fun h6 => ?_) (fun h6 => ?_)
          · refine ⟨_, rfl, _, rfl, pL, _, _, _, rfl, rfl, SqL.of gL9, aV2, _, rfl, _, rfl, pL, _, _, _, rfl, rfl, SqL.of gL9, aV1, (by show 2 ≤ sizeLine; decide), fun t ht => ?_⟩
            have g1 := (Evl.Ex.new (o := .tup [V.str lb, V.str la]) ht) _ _ gL9
            have Y1 : Ds d w c (B + 1 + 1 + 1 + 1 + 1) H (upd H9 t (.tup [V.str lb, V.str la])) := X9.new ht
            refine ⟨t, _, rfl, SqT.of upd_same, rfl, _, _, rfl, _, rfl, _, rfl, pL, _, _, _, rfl, rfl, g1, ixN_of i80 (by rw [List.length_map]; omega), ?_⟩
            rw [map_set]
            refine ⟨_, _, rfl, _, rfl, _, rfl, pL, _, _, _, rfl, rfl, upd_same, ixN_of i90 (by rw [List.length_map, List.length_set]; omega), ?_⟩
            rw [map_set]
            refine ⟨rfl, ?_⟩
            have Y2 := (Y1.put (o := .lst ((ls.set i8.toNat lb).map V.str)) hpL0 Ld Lw Lc).put (o := .lst (((ls.set i8.toNat lb).set i9.toNat la).map V.str)) hpL0 Ld Lw Lc
            have tt : Txs (n + 1) ((ls.set i8.toNat lb).set i9.toNat la) := by
              have t1 : Txs (wgt (ls.set i8.toNat lb)) (ls.set i8.toNat lb) := ⟨Nat.le_refl _, set_ok hls tlb.ok⟩
              refine ⟨?_, set_ok t1 tla.ok⟩
              have w1 := wgt_set (x := lb) at1
              have at3 : (ls.set i8.toNat lb)[i9.toNat]? = some lb := by
                rw [List.getElem?_set]
                split
                · rename_i e
                  rw [if_pos (by omega)]
                · exact at2
              have w2 := wgt_set (x := la) at3
              omega
            refine ⟨⟨_, rfl⟩, _, rfl, nl, pL, _, rfl, rfl, .inl (SqL.of upd_same), Nat.le_trans (join_room tt nl1) (by omega), ?_⟩
            exact q _ _ (Y2.mono (by omega)) ((tt.join nl1 nlo).mono (by omega))
          · refine ⟨_, rfl, _, rfl, pL, _, _, _, rfl, rfl, SqL.of gL9, aV1, ⟨_, rfl⟩, la, " ", rfl, rfl, by decide, by have := tla.len; rw [sizeLine_eq]; omega, fun pW hpW => ?_⟩
            have hwd := (tla : Tx (n + 1) la).split (y := " ") (by decide)
            have hwd2 := PyProof.Rows.split_weight la " " (by decide)
            have hwne := split_no1 la
            have hwd2 : wgt (Txt.split la " ") ≤ la.length + 1 := hwd2
            generalize Txt.split la " " = wd at hwd hwne hwd2 ⊢
            have hdl : wd.length ≤ n + 1 + 1 := len_of hwd
            have hd0 : 0 < wd.length := List.length_pos_iff.mpr hwne
            have Y1 : Ds d w c (B + 1 + 1 + 1 + 1 + 1) H (upd H9 pW (.lst (wd.map V.str))) := X9.new hpW
            have hA1 : hd2 d w (upd H9 pW (.lst (wd.map V.str))) a = _ := keepA hA9 hpW
            have fL1 : hd2 d w (upd H9 pW (.lst (wd.map V.str))) pL = _ := keepA fL9 hpW
            have fW1 : hd2 d w (upd H9 pW (.lst (wd.map V.str))) pW = _ := X9.at hpW
            have nLW : pW ≠ pL := fun e => by rw [e, gL9] at hpW; cases hpW
            generalize upd H9 pW (.lst (wd.map V.str)) = G1 at Y1 hA1 fL1 fW1 ⊢
            refine ⟨_, rfl, _, rfl, _, _, rfl, .inl ⟨_, SqL.of (hd2_of fW1).1, rfl⟩, d, w, c, _, _, rfl, Y1.dr, by omega, by rw [List.length_map]; omega, by rw [List.length_map]; omega, fun sp G2 sp0 sp1' D2 S2 => ?_⟩
            rw [List.length_map] at sp1'
            have Y2 := Y1.draw D2 S2
            have hA2 := S2 _ _ hA1
            have fL2 := S2 _ _ fL1
            have fW2 := S2 _ _ fW1
            refine ⟨_, rfl, _, rfl, _, rfl, _, rfl, pL, _, _, _, rfl, rfl, SqL.of (hd2_of fL2).1, aV2, ⟨_, rfl⟩, lb, " ", rfl, rfl, by decide, by have := tlb.len; rw [sizeLine_eq]; omega, fun p3 hp3 => ?_⟩
            have hod := (tlb : Tx (n + 1) lb).split (y := " ") (by decide)
            have hone := split_no1 lb
            generalize Txt.split lb " " = od at hod hone ⊢
            have hol := len_of hod
            have hA3 : hd2 d w (upd G2 p3 (.lst (od.map V.str))) a = _ := keepA hA2 hp3
            refine ⟨a, p3, _, _, rfl, rfl, (hd2_of hA3).1, upd_same, by rw [List.length_map, List.length_map, sizeLine_eq]; omega, fun p4 hp4 => ?_⟩
            rw [← List.map_append]
            have Y4 : Ds d w c (B + 1 + 1 + 1 + 1 + 1 + 1) H (upd (upd G2 p3 (.lst (od.map V.str))) p4 (.lst ((ws ++ od).map V.str))) := (Y2.new hp3).new hp4
            have fL4 : hd2 d w (upd (upd G2 p3 (.lst (od.map V.str))) p4 (.lst ((ws ++ od).map V.str))) pL = _ := keepA (keepA fL2 hp3) hp4
            have fW4 : hd2 d w (upd (upd G2 p3 (.lst (od.map V.str))) p4 (.lst ((ws ++ od).map V.str))) pW = _ := keepA (keepA fW2 hp3) hp4
            have f4 : hd2 d w (upd (upd G2 p3 (.lst (od.map V.str))) p4 (.lst ((ws ++ od).map V.str))) p4 = _ := (Y2.new hp3).at hp4
            refine ⟨d, w, c, _, Y4.dr, by omega, .inl ⟨p4, _, rfl, SqL.of f4, by simp [hone], by rw [List.length_map, List.length_append]; omega, fun k5 v5 G5 hv5 D5 S5 => ⟨_, _, rfl, ?_⟩⟩⟩
            obtain ⟨wo, hwo, rfl⟩ := at_map hv5
            have two : wo.length ≤ n + 5000 ∧ ∀ c ∈ tl wo, c < 0x110000 := by
              rcases List.mem_append.mp (at_mem hwo) with hm | hm
              · exact ⟨by have := (hws wo hm).len; omega, (hws wo hm).ok⟩
              · refine ⟨?_, (hod.at hm).ok⟩
                have h1 := wgt_mem hm
                have h2 := tlb.len
                have h3 := PyProof.Rows.split_weight lb " " (by decide)
                have h4 := hod.len
                have h5 : wlb = wlb := rfl
                omega
            have Y5 := Y4.draw D5 S5
            have fL5 := S5 _ _ fL4
            have fW5 := S5 _ _ fW4
            clear Y1 Y2 Y4 D2 D5 S2 S5 fL1 fL2 fL4 fW1 fW2 fW4 f4 hA1 hA2 hA3
            refine ⟨_, rfl, (by show 1 ≤ sizeLine; decide), fun p6 hp6 => ⟨_, rfl, _, _, rfl, rfl, .inr ⟨_, rfl, p6, _, _, rfl, rfl, upd_same, by split <;> decide, by split <;> decide, ?_, fun p7 hp7 => ?_⟩⟩⟩
            · split
              · show 1 * 1 ≤ sizeLine
                decide
              · show 1 * 0 ≤ sizeLine
                decide
            obtain ⟨mid, emid, wmid, omid⟩ : ∃ mid : List Str, (List.replicate (Int.toNat (if decide (wy < 9) = true then 1 else 0)) [V.str wo]).flatten = mid.map V.str ∧ wgt mid ≤ wo.length + 1 ∧ ∀ l ∈ mid, l = wo := by
              split
              · exact ⟨[wo], rfl, by rw [wgt_cons]; exact Nat.le_refl _, fun l hl => List.mem_singleton.mp hl⟩
              · exact ⟨[], rfl, Nat.zero_le _, fun l hl => by cases hl⟩
            rw [emid]
            have Y7 : Ds d w c (B + 1 + 1 + 1 + 1 + 1 + 1 + 1) H (upd (upd G5 p6 (.lst [V.str wo])) p7 (.lst (mid.map V.str))) := (Y5.new hp6).new hp7
            have fL7 : hd2 d w (upd (upd G5 p6 (.lst [V.str wo])) p7 (.lst (mid.map V.str))) pL = _ := keepA (keepA fL5 hp6) hp7
            have fW7 : hd2 d w (upd (upd G5 p6 (.lst [V.str wo])) p7 (.lst (mid.map V.str))) pW = _ := keepA (keepA fW5 hp6) hp7
            have g7 : upd (upd G5 p6 (.lst [V.str wo])) p7 (.lst (mid.map V.str)) p7 = some (.lst (mid.map V.str)) := upd_same
            generalize upd (upd G5 p6 (.lst [V.str wo])) p7 (.lst (mid.map V.str)) = G7 at Y7 fL7 fW7 g7 ⊢
            have gW7 := (hd2_of fW7).1
            have gL7 := (hd2_of fL7).1
            have hml : mid.length ≤ wo.length + 1 := by unfold wgt at wmid; omega
            refine ⟨⟨_, rfl⟩, _, rfl, _, rfl, _, rfl, pW, _, rfl, SqL.of gW7, fun p8 hp8 => ?_⟩
            rw [cutV_map]
            have cw := fun lo hi => cutL_ok hwd lo hi
            have l1 := len_of (cw none (some sp))
            have g8 := (Evl.Ex.new (o := .lst ((cutL wd none (some sp)).map V.str)) hp8) _ _ g7
            have gW8 := (Evl.Ex.new (o := .lst ((cutL wd none (some sp)).map V.str)) hp8) _ _ gW7
            refine ⟨_, rfl, p8, p7, _, _, rfl, rfl, upd_same, g8, by rw [List.length_map, List.length_map, sizeLine_eq]; omega, fun p9 hp9 => ?_⟩
            rw [← List.map_append]
            have gW9 := (Evl.Ex.new (o := .lst ((cutL wd none (some sp) ++ mid).map V.str)) hp9) _ _ gW8
            obtain ⟨j, ej, hj⟩ : ∃ j : Int, sp + (if (!decide (V.int wy = V.int 6)) = true then 1 else 0) = j ∧ sp ≤ j := ⟨_, rfl, by split <;> omega⟩
            refine ⟨_, rfl, _, rfl, _, rfl, rfl, .inr ⟨_, rfl, _, _, rfl, rfl, _, rfl, pW, _, rfl, SqL.of gW9, fun p10 hp10 => ?_⟩⟩
            rw [cutV_map, ej]
            have l2 := len_of (cw (some j) none)
            refine ⟨p9, p10, _, _, rfl, rfl, (Evl.Ex.new hp10) _ _ upd_same, upd_same, by rw [List.length_map, List.length_map, List.length_append, sizeLine_eq]; omega, fun p11 hp11 => ?_⟩
            rw [← List.map_append]
            have w2 := cutL_two wd sp0 hj
            have tt : Txs (la.length + 1 + (wo.length + 1)) (cutL wd none (some sp) ++ mid ++ cutL wd (some j) none) := by
              refine ⟨?_, ?_⟩
              · rw [wgt_app, wgt_app]
                omega
              · intro l hl
                rcases List.mem_append.mp hl with hl | hl
                · rcases List.mem_append.mp hl with hl | hl
                  · exact (cw none (some sp)).ok l hl
                  · rw [omid l hl]
                    exact two.2
                · exact (cw (some j) none).ok l hl
            have hlan := tla.len
            refine ⟨" ", p11, _, rfl, rfl, .inl (SqL.of upd_same), Nat.le_trans (join_room tt sp1) (by omega), ?_⟩
            have tn := tt.join sp1 spo
            generalize Txt.join " " (cutL wd none (some sp) ++ mid ++ cutL wd (some j) none) = nw at tn ⊢
            have Y11 : Ds d w c (B + 1 + 1 + 1 + 1 + 1 + 1 + 1) H (upd (upd (upd (upd G7 p8 (.lst ((cutL wd none (some sp)).map V.str))) p9 (.lst ((cutL wd none (some sp) ++ mid).map V.str))) p10 (.lst ((cutL wd (some j) none).map V.str))) p11 (.lst ((cutL wd none (some sp) ++ mid ++ cutL wd (some j) none).map V.str))) := (((Y7.new hp8).new hp9).new hp10).new hp11
            have gL11 : (upd (upd (upd (upd G7 p8 (.lst ((cutL wd none (some sp)).map V.str))) p9 (.lst ((cutL wd none (some sp) ++ mid).map V.str))) p10 (.lst ((cutL wd (some j) none).map V.str))) p11 (.lst ((cutL wd none (some sp) ++ mid ++ cutL wd (some j) none).map V.str))) pL = some (.lst (ls.map V.str)) := (Evl.Ex.new hp11) _ _ ((Evl.Ex.new hp10) _ _ ((Evl.Ex.new hp9) _ _ ((Evl.Ex.new hp8) _ _ gL7)))
            refine ⟨_, rfl, _, rfl, pL, _, _, _, rfl, rfl, gL11, ixN_of i80 (by rw [List.length_map]; omega), ?_⟩
            rw [map_set]
            have Y12 := Y11.put (o := .lst ((ls.set i8.toNat nw).map V.str)) hpL0 Ld Lw Lc
            have t3 : Txs (2 * n + 5010) (ls.set i8.toNat nw) := by
              refine ⟨?_, set_ok hls tn.ok⟩
              have w1 := wgt_set (x := nw) at1
              have := tn.len
              omega
            refine ⟨⟨_, rfl⟩, _, rfl, nl, pL, _, rfl, rfl, .inl (SqL.of upd_same), Nat.le_trans (join_room t3 nl1) (by omega), ?_⟩
            exact q _ _ (Y12.mono (by omega)) (t3.join nl1 nlo)
end
end WP
namespace WP
open PySem L2
open TL (tl)
def TpAll (G : Hp) (us : List V) (ds : List (List V)) : Prop := us.length = ds.length ∧ ∀ (i : Nat) (u : V) (d : List V), us[i]? = some u → ds[i]? = some d → ∃ t, u = .ref t ∧ G t = some (.tup d) ∧ isDeedL d = true
theorem TpAll.same {G G' : Hp} {us : List V} {ds : List (List V)} (s : Same G G') (h : TpAll G us ds) : TpAll G' us ds := ⟨h.1, fun i u d h1 h2 => by
  obtain ⟨t, e, h3, h4⟩ := h.2 i u d h1 h2
  exact ⟨t, e, s _ _ h3, h4⟩⟩
theorem TpAll.dd {K : PySem.W.Frag} {G H : Hp} {us : List V} {ds : List (List V)} (s : Same G H) (h : TpAll G us ds) : DdAll K H us ds := ⟨h.1, fun i u d h1 h2 => by
  obtain ⟨t, e, h3, h4⟩ := h.2 i u d h1 h2
  obtain ⟨p1, p2, p3⟩ := deed_parts h4
  exact ⟨t, e, SqT.of (s _ _ h3), p2, p1⟩⟩
theorem TpAll.add {G : Hp} {us : List V} {ds : List (List V)} {D t : Addr} {xs ys : List V} {d : List V} (h : TpAll G us ds) (hD : G D = some (.lst xs)) (ht : G t = some (.tup d)) (hd : isDeedL d = true) : TpAll (upd G D (.lst ys)) (us ++ [.ref t]) (ds ++ [d]) := by
  refine ⟨by rw [List.length_append, List.length_append, h.1]; rfl, fun i u e h1 h2 => ?_⟩
  by_cases hi : i < us.length
  · rw [List.getElem?_append_left hi] at h1
    rw [List.getElem?_append_left (by rw [← h.1]; exact hi)] at h2
    obtain ⟨t', e', h3, h4⟩ := h.2 i u e h1 h2
    exact ⟨t', e', by rw [upd_ne (ne_of h3 hD (by intro z; cases z))]; exact h3, h4⟩
  · rw [List.getElem?_append_right (by omega)] at h1
    rw [List.getElem?_append_right (by rw [← h.1]; omega), ← h.1] at h2
    have hz : i - us.length = 0 := by
      have := (List.getElem?_eq_some_iff.mp h1).1
      rw [List.length_singleton] at this
      omega
    rw [hz] at h1 h2
    have h1 : V.ref t = u := by simpa using h1
    have h2 : d = e := by simpa using h2
    rw [← h1, ← h2]
    exact ⟨t, rfl, by rw [upd_ne (ne_of ht hD (by intro z; cases z))]; exact ht, hd⟩
theorem show_tx {x : V} (h : Part x) : Tx 20 (showV x) := by
  refine ⟨part_show h, ?_⟩
  rcases h with ⟨i, rfl, h0, h1⟩ | ⟨w, rfl, h1, h2⟩
  · intro c hc
    obtain ⟨n, rfl⟩ : ∃ n : Nat, i = n := ⟨i.toNat, by omega⟩
    have hc : c ∈ tl (Str.ofString (toString ((n : Nat) : Int))) := hc
    rw [TL.tl_num] at hc
    have := TL.numL_digits n c hc
    omega
  · exact (strOk_iff w).mp h2
theorem line_tx {xs : List V} (h : ∀ x ∈ xs, Part x) (hl : xs.length ≤ 4) : Tx 84 (deedLine xs) := by
  have t : Txs 84 (xs.map showV) := by
    refine ⟨?_, fun l hl' => ?_⟩
    · have := sum_parts xs h
      unfold wgt
      rw [List.length_map]
      omega
    · obtain ⟨x, hx, rfl⟩ := List.mem_map.mp hl'
      exact (show_tx (h x hx)).ok
  exact t.join (by decide) (by decide +kernel)
theorem textL_len (ls : List Str) : (textL ls).length = (ls.map (·.length)).sum + ls.length := by
  unfold textL
  rw [TL.join_eq, ← sum_nl]
  cases ls with
  | nil => rfl
  | cons a l =>
    rw [List.map_cons, PyProof.Rows.len_join_cons]
    have : es.length = 0 := by decide
    rw [this]
    omega
theorem text_tx {ds : List (List V)} (h : ∀ d ∈ ds, isDeedL d = true) (hl : ds.length ≤ 8) : Tx 810 (textL (ds.map deedLine)) := by
  have key : ∀ l : List (List V), (∀ d ∈ l, isDeedL d = true) → Txs (86 * l.length) ((l.map deedLine).map (· ++ nl)) := by
    intro l
    induction l with
    | nil => intro _; exact ⟨Nat.zero_le _, fun x hx => by cases hx⟩
    | cons a r ih =>
      intro h
      have ih := ih fun d hd => h d (List.mem_cons_of_mem _ hd)
      obtain ⟨p1, p2, p3⟩ := deed_parts (h a List.mem_cons_self)
      have t := (line_tx p1 p2).app (y := nl) (m := 1) ⟨by decide, by decide +kernel⟩
      refine ⟨?_, fun x hx => ?_⟩
      · have := ih.len
        have := t.len
        rw [List.map_cons, List.map_cons]
        unfold wgt at *
        rw [List.map_cons, List.sum_cons, List.length_cons, List.length_cons]
        omega
      · rw [List.map_cons, List.map_cons] at hx
        rcases List.mem_cons.mp hx with rfl | hx
        · exact t.ok
        · exact ih.ok x hx
  have k := key ds h
  exact (k.join (y := es) (by decide) (by decide +kernel)).mono (by omega)
abbrev opst : List Str := ["open", "step"]
def bnd : Nat → Nat
  | 0 => 810
  | j + 1 => 2 * bnd j + 5010
def spLaw (K : PySem.W.Frag) : Sp := fun vs H Q _ => ∃ (a : Addr) (ns : List Int), vs = [.ref a] ∧ SqL K H a (ns.map V.int) ∧ ns.length ≤ 63 ∧ ∀ H', Q (.bl true) H'
section
variable {P : Program} {w : World} {K : PySem.W.Frag} {mg : Str → Option Value} {base : Heap}
theorem ok_law {f CH : Addr} {fd : FuncData} (F : Fun K "law" "law" s_law f fd) (T : Bi mg) (D__law_begun : Dn P w K mg base CX0 1 "_law_begun" ["_law_script"] (spBegun K)) (D__law_take : Dn P w K mg base CX0 2 "_law_take" ["_law_draw", "_law_size"] spTake) (D__law_pick : Dn P w K mg base CX0 3 "_law_pick" ["_law_draw", "_law_some"] (spPick K))
    (D__law_drawn_names : Dn P w K mg base CX0 4 "_law_drawn_names" ["_law_draw", "_law_total"] (spNames K)) (D__law_drawn_deed : Dn P w K mg base CX0 4 "_law_drawn_deed" ["_law_draw", "_law_names"] (spDrawnDeed K)) (D__law_text_of : Dn P w K mg base CX0 2 "_law_text_of" ["_law_history"] (spLawText K)) (D__law_bent_text : Dn P w K mg base CX0 4 "_law_bent_text" ["_law_draw", "_law_text", "_law_some"] (spBent K))
    (D__law_heard : Dn P w K mg base CX0 6 "_law_heard" ["_law_text"] (spLawHeard K)) (D__law_due : Dn P w K mg base CX0 3 "_law_due" ["_law_text"] (spLawDue K)) (D_history_text : Dn P w K mg base (L2.CX P w) 4 "history_text" ["history"] (spHist K CH)) : GnOk P w K mg base CX0 7 f fd ["_law_script"] (spLaw K) := by
  refine okG F sc_law (fun vs H Q E h => ?_) (fun cdv A outer s H vs Q E hg hcd hex hr h => ?_)
  · obtain ⟨a, ns, rfl, _⟩ := h
    rfl
  · obtain ⟨a, ns, rfl, hS, hl, q⟩ := h
    have hu := hu_of hr
    have nd := sc_law.nd
    refine ⟨_, PSs.nox (pss_cons (ps_set (i := 1) nd rfl (by first | exact Or.inl rfl | exact Or.inr rfl) (pe_d D__law_begun (hr.mono (by decide)) pass0 (pa_cons (pv 0) pa_nil)))
      (pss_cons (ps_set (i := 2) nd rfl (by first | exact Or.inl rfl | exact Or.inr rfl) (pe_split pe_str pe_str))
      (pss_cons (ps_set (i := 2) nd rfl (by first | exact Or.inl rfl | exact Or.inr rfl) (pe_op op_cat (pv 2) (pe_lst (pa_cons (pe_op op_rep_str pe_str pe_int) (pa_cons (pe_op op_add_str pe_str (pe_op op_rep_str pe_str pe_int)) (pa_cons (pe_op op_rep_str pe_str pe_int) pa_nil))))))
      (pss_cons (ps_for PassesOwn.never rfl (pi_range1 (by rfl) T.range (pa_cons (pe_op op_add pe_int (pe_callB (call_min2 rfl) (by rfl) T.min (by decide +kernel) (pa_cons (pe_callB call_len (by rfl) T.len (by decide +kernel) (pa_cons (pv 0) pa_nil)) (pa_cons pe_int pa_nil)))) pa_nil)) (pg_name (i := 3) nd rfl (by first | exact Or.inl rfl | exact Or.inr rfl)) (pss_cons (ps_set (i := 4) nd rfl (by first | exact Or.inl rfl | exact Or.inr rfl) (pe_op op_cat (pe_d D__law_drawn_names (hr.mono (by decide)) pass0 (pa_cons (pv 1) (pa_cons pe_int pa_nil))) (pe_lst (pa_cons pe_str (pa_cons pe_str pa_nil)))))
      (pss_cons (ps_setLc (i := 5) (own := [("_law_item", 6)]) (g := gName 6) rfl nd rfl rfl (sw_true rfl rfl rfl (by decide +kernel)) (pi_range1 (by rfl) T.range (pa_cons (pe_d D__law_take (hr.mono (by decide)) pass0 (pa_cons (pv 1) (pa_cons pe_int pa_nil))) pa_nil)) (blkOk_by (own := [("_law_item", 6)]) (N := ["_law_script", "_law_draw", "_law_some", "_law_turn", "_law_names", "_law_history", "_law_item", "_law_lap", "_law_text", "_law_bend", "_law_heard_here", "_law_odd"]) (sc := defScope s_law) (by decide +kernel)) (fun _ _ _ _ _ => (pg_name (i := 6) nd rfl (by first | exact Or.inl rfl | exact Or.inr rfl))) (fun _ _ _ _ _ => pts_nil) (fun _ _ _ _ _ => (pe_d D__law_drawn_deed (hr.mono (by decide)) pass0 (pa_cons (pv 1) (pa_cons (pv 4) pa_nil)))))
      (pss_cons (ps_for PassesOwn.never rfl (pi_range1 (by rfl) T.range (pa_cons pe_int pa_nil)) (pg_name (i := 7) nd rfl (by first | exact Or.inl rfl | exact Or.inr rfl)) (pss_cons (ps_set (i := 8) nd rfl (by first | exact Or.inl rfl | exact Or.inr rfl) (pe_d D__law_text_of (hr.mono (by decide)) pass0 (pa_cons (pv 5) pa_nil)))
      (pss_cons (ps_for PassesOwn.never rfl (pi_range1 (by rfl) T.range (pa_cons (pe_d D__law_pick (hr.mono (by decide)) pass0 (pa_cons (pv 1) (pa_cons (pe_lst (pa_cons pe_int (pa_cons pe_int (pa_cons pe_int (pa_cons pe_int (pa_cons pe_int pa_nil)))))) pa_nil))) pa_nil)) (pg_name (i := 9) nd rfl (by first | exact Or.inl rfl | exact Or.inr rfl)) (pss_one (ps_set (i := 8) nd rfl (by first | exact Or.inl rfl | exact Or.inr rfl) (pe_d D__law_bent_text (hr.mono (by decide)) pass0 (pa_cons (pv 1) (pa_cons (pv 8) (pa_cons (pv 2) pa_nil)))))))
      (pss_cons (ps_if (pt_cmpR op_ne (pe_callB (call_reprD hg hr.units) (by rfl) T.repr (by decide +kernel) (pa_cons (pe_lst (pa_cons (pe_d D__law_heard (hr.mono (by decide)) pass0 (pa_cons (pv 8) pa_nil)) (pa_cons (pe_d D__law_heard (hr.mono (by decide)) pass0 (pa_cons (pv 8) pa_nil)) pa_nil))) pa_nil)) (pe_callB (call_reprD hg hr.units) (by rfl) T.repr (by decide +kernel) (pa_cons (pe_op op_rep (pe_lst (pa_cons (pe_d D__law_due (hr.mono (by decide)) pass0 (pa_cons (pv 8) pa_nil)) pa_nil)) pe_int) pa_nil)) (nomark _)) (pss_one (ps_ret pe_bl)) pss_nil)
      (pss_cons (ps_set (i := 10) nd rfl (by first | exact Or.inl rfl | exact Or.inr rfl) (pe_d D__law_heard (hr.mono (by decide)) pass0 (pa_cons (pv 8) pa_nil)))
      (pss_one (ps_if (PW.pt (pw_and (pt_val (pe_callB call_isi (by rfl) T.isinstance (by decide +kernel) (pa_cons (pv 10) (pa_cons (n_list T) pa_nil)))) (pw_and1 (pt_cmpR op_ne (pe_d D_history_text (hr.mono (by decide)) passL (pa_cons (pe_ix ix_list (pv 10) pe_int (fun _ _ => rfl)) pa_nil)) (pv 8) (nomark _))))) (pss_one (ps_ret pe_bl)) pss_nil)))))))
      (pss_cons (ps_for PassesOwn.never rfl (pi_list (pe_lst (pa_cons pe_non (pa_cons pe_int (pa_cons pe_bl (pa_cons (pe_lst (pa_cons pe_str pa_nil)) (pa_cons (pe_tup (pa_cons pe_str pa_nil)) (pa_cons pe_dnewK (pa_cons (pe_lst (pa_cons (pv 5) pa_nil)) pa_nil))))))))) (pg_name (i := 11) nd rfl (by first | exact Or.inl rfl | exact Or.inr rfl)) (pss_one (ps_if (pt_cmpR op_ne (pe_callB (call_reprD hg hr.units) (by rfl) T.repr (by decide +kernel) (pa_cons (pe_d D__law_heard (hr.mono (by decide)) pass0 (pa_cons (pv 11) pa_nil)) pa_nil)) pe_str (nomark _)) (pss_one (ps_ret pe_bl)) pss_nil)))
      (pss_one (ps_if (pt_cmpR (op_neD hr.units) (pe_d D__law_heard (hr.mono (by decide)) pass0 (pa_cons pe_str pa_nil)) (pe_lst (pa_cons (pe_lst pa_nil) pa_nil)) (nomark _)) (pss_one (ps_ret pe_bl)) pss_nil)))))))
      (pss_one (ps_ret pe_bl)))))), ?_⟩
    refine ⟨_, rfl, a, ns, rfl, hS, hl, fun d w c H1 D1 S1 => ?_⟩
    have X1 : Ds d w c 0 H1 H1 := ⟨D1, Same.refl _⟩
    have hS1 : SqL K (hd2 d w H1) a (ns.map V.int) := S1.seq hS
    refine ⟨⟨_, rfl⟩, "begin step clear wait lose open fetch 0 1 01 20000 a b", " ", rfl, rfl, by decide, by decide, fun p1 hp1 => ?_⟩
    have hlit : Tx 60 "begin step clear wait lose open fetch 0 1 01 20000 a b" := ⟨by decide, by decide +kernel⟩
    have hws := hlit.split (y := " ") (by decide)
    generalize Txt.split "begin step clear wait lose open fetch 0 1 01 20000 a b" " " = ws at hws ⊢
    have hwl : ws.length ≤ 61 := by have := hws.len; unfold wgt at this; omega
    have X2 : Ds d w c 0 H1 (upd H1 p1 (.lst (ws.map V.str))) := X1.new hp1
    have f2 : hd2 d w (upd H1 p1 (.lst (ws.map V.str))) p1 = _ := X1.at hp1
    have hS2 : SqL K (hd2 d w (upd H1 p1 (.lst (ws.map V.str)))) a (ns.map V.int) := (hd2_new hp1).seq hS1
    generalize upd H1 p1 (.lst (ws.map V.str)) = H2 at X2 f2 hS2 ⊢
    refine ⟨_, rfl, "9", 18, rfl, rfl, by decide, by decide, by decide, by decide, fun r9 l9 c9 => ?_⟩
    refine ⟨"0", 18, rfl, rfl, by decide, by decide, by decide, by decide, fun r0 l0 c0 => ?_⟩
    have l0' : r0.length = 18 := l0
    refine ⟨_, _, rfl, rfl, by rw [l0', sizeLine_eq]; decide, ?_⟩
    refine ⟨"7", 5000, rfl, rfl, by decide, by decide, by decide, by decide, fun r7 l7 c7 => ?_⟩
    have dig : ∀ {r z : Str}, (∀ c ∈ tl r, c ∈ tl z) → (∀ c ∈ tl z, c < 0x110000) → ∀ c ∈ tl r, c < 0x110000 := fun h1 h2 c hc => h2 c (h1 c hc)
    have t9 : Tx 5000 r9 := ⟨by rw [l9]; decide, dig c9 (by decide +kernel)⟩
    have t0 : Tx 18 r0 := ⟨by rw [l0]; decide, dig c0 (by decide +kernel)⟩
    have t1 : Tx 5000 ("1" ++ r0) := (Tx.app (x := "1") (n := 1) ⟨by decide, by decide +kernel⟩ t0).mono (by decide)
    have t7 : Tx 5000 r7 := ⟨by rw [l7]; decide, dig c7 (by decide +kernel)⟩
    refine ⟨(by show 3 ≤ sizeLine; decide), fun p3 hp3 => ?_⟩
    refine ⟨p1, p3, _, _, rfl, rfl, (Evl.Ex.new hp3) _ _ (hd2_of f2).1, upd_same, by rw [List.length_map, sizeLine_eq]; show _ + 3 ≤ _; omega, fun Sm hSm => ?_⟩
    have eW : ws.map V.str ++ [V.str r9, V.str ("1" ++ r0), V.str r7] = (ws ++ [r9, "1" ++ r0, r7]).map V.str := by
      rw [List.map_append]
      rfl
    rw [eW]
    have hwsT : ∀ x ∈ ws ++ [r9, "1" ++ r0, r7], Tx 5000 x := fun x hx => by
      rcases List.mem_append.mp hx with hx | hx
      · exact (hws.at hx).mono (by decide)
      · simp only [List.mem_cons, List.not_mem_nil, or_false] at hx
        rcases hx with rfl | rfl | rfl
        · exact t9
        · exact t1
        · exact t7
    have hwsL : (ws ++ [r9, "1" ++ r0, r7]).length ≤ 100 := by rw [List.length_append]; show _ + 3 ≤ _; omega
    generalize ws ++ [r9, "1" ++ r0, r7] = sw at hwsT hwsL ⊢
    have X4 : Ds d w c 0 H1 (upd (upd H2 p3 (.lst [V.str r9, V.str ("1" ++ r0), V.str r7])) Sm (.lst (sw.map V.str))) := (X2.new hp3).new hSm
    have f4 : hd2 d w (upd (upd H2 p3 (.lst [V.str r9, V.str ("1" ++ r0), V.str r7])) Sm (.lst (sw.map V.str))) Sm = _ := (X2.new hp3).at hSm
    have hS4 : SqL K (hd2 d w (upd (upd H2 p3 (.lst [V.str r9, V.str ("1" ++ r0), V.str r7])) Sm (.lst (sw.map V.str)))) a (ns.map V.int) := (hd2_new hSm).seq ((hd2_new hp3).seq hS2)
    generalize upd (upd H2 p3 (.lst [V.str r9, V.str ("1" ++ r0), V.str r7])) Sm (.lst (sw.map V.str)) = H4 at X4 f4 hS4 ⊢
    refine ⟨_, rfl, _, _, rfl, .inl ⟨_, hd2_sub.seq hS4, rfl⟩, _, _, rfl, _, _, rfl, rfl, ?_⟩
    refine ⟨_, rfl, by split <;> omega, by split <;> omega, ?_⟩
    refine for_it walk_range (fun i σ Hi => Ds d w c (1000 * i) H1 Hi ∧ hd2 d w Hi Sm = some (.lst (sw.map V.str)) ∧ ∃ v3 v4 v5 v6 v7 v8 v9 v10 v11 : Option V, σ = [some (.ref a), some (.ref d), some (.ref Sm), v3, v4, v5, v6, v7, v8, v9, v10, v11])
      ⟨X4.mono (by omega), f4, _, _, _, _, _, _, _, _, _, rfl⟩ (fun _ _ _ _ _ => trivial) ?_ ?_
    · rintro i x σ Hi Hj hi ⟨Xi, fS, v3, v4, v5, v6, v7, v8, v9, v10, v11, rfl⟩ ⟨rfl, rfl⟩
      have hi16 : i < 16 := by split at hi <;> omega
      refine ⟨_, rfl, d, w, c, _, 3, rfl, Xi.dr, by omega, by decide, by decide, fun L nms H5 X5 hL0 fL5 hnl hnd hnm => ?_⟩
      have Y5 := Xi.draw X5.dr X5.fr
      have fS5 := X5.fr _ _ fS
      refine ⟨(by show 2 ≤ sizeLine; decide), fun p5 hp5 => ?_⟩
      have hnl3 : nms.length = 3 := by omega
      refine ⟨L, p5, _, _, rfl, rfl, (hd2_of (keepA fL5 hp5)).1, upd_same, by rw [List.length_map, hnl3]; show 3 + 2 ≤ sizeLine; decide, fun Nm hNm => ?_⟩
      have eM : nms.map V.str ++ [V.str "open", V.str "step"] = (nms ++ opst).map V.str := by rw [List.map_append]; rfl
      rw [eM]
      have hnmT : ∀ x ∈ nms ++ opst, isNameS x = true := fun x hx => by
        rcases List.mem_append.mp hx with hx | hx
        · exact hnm x hx
        · have : ∀ x ∈ (["open", "step"] : List Str), isNameS x = true := by decide +kernel
          exact this x hx
      have hnmL : (nms ++ opst).length ≤ 1000 := by rw [List.length_append, hnl3]; show 5 ≤ 1000; decide
      have hnmN : (nms ++ opst) ≠ [] := by simp
      generalize (nms ++ opst) = nm at hnmT hnmL hnmN ⊢
      have X6 : Ds d w c (1000 * i + 20 * 3) H1 (upd (upd H5 p5 (.lst [V.str "open", V.str "step"])) Nm (.lst (nm.map V.str))) := (Y5.new hp5).new hNm
      have fS6 : hd2 d w (upd (upd H5 p5 (.lst [V.str "open", V.str "step"])) Nm (.lst (nm.map V.str))) Sm = _ := keepA (keepA fS5 hp5) hNm
      have fN6 : hd2 d w (upd (upd H5 p5 (.lst [V.str "open", V.str "step"])) Nm (.lst (nm.map V.str))) Nm = _ := (Y5.new hp5).at hNm
      generalize upd (upd H5 p5 (.lst [V.str "open", V.str "step"])) Nm (.lst (nm.map V.str)) = H6 at X6 fS6 fN6 ⊢
      refine ⟨_, rfl, d, w, c, _, 9, rfl, X6.dr, by omega, by decide, by decide, fun k7 H7 k70 k71 D7 S7 => ?_⟩
      have X7 := X6.draw D7 S7
      have fS7 := S7 _ _ fS6
      have fN7 := S7 _ _ fN6
      refine ⟨k7, rfl, by omega, by omega, fun D hD => ?_⟩
      obtain ⟨Dd', Dw', Dc'⟩ := X7.dr.off hD
      have hD0 : hd2 d w H1 D = none := noneS X7.fr (hd2_none hD)
      have nSD : Sm ≠ D := fun e => by rw [e, hd2_none hD] at fS7; cases fS7
      have nND : Nm ≠ D := fun e => by rw [e, hd2_none hD] at fN7; cases fN7
      refine lc_it walk_range (fun j Hj => Ds d w c (1000 * i + 61 + 5 * j) H1 Hj ∧ hd2 d w Hj Sm = some (.lst (sw.map V.str)) ∧ hd2 d w Hj Nm = some (.lst (nm.map V.str)) ∧ ∃ (us : List V) (ds : List (List V)), hd2 d w Hj D = some (.lst us) ∧ us.length = j ∧ TpAll (hd2 d w Hj) us ds)
        ⟨(X7.new hD).mono (by omega), keepA fS7 hD, keepA fN7 hD, [], [], X7.at hD, rfl, rfl, fun k u e h1 => by simp at h1⟩ (fun _ _ _ _ => trivial) ?_ ?_
      · rintro j x H8 H9 hj ⟨X8, fS8, fN8, us, ds, fD8, hul, hT⟩ ⟨rfl, rfl⟩
        refine ⟨rfl, _, rfl, _, rfl, d, w, c, Nm, _, nm, rfl, X8.dr, by omega, SqL.of fN8, hnmN, hnmL, hnmT, fun v xs H9 X9 hv => ?_⟩
        obtain ⟨t, rfl, ht, hdd⟩ := hv
        have Y9 := X8.draw X9.dr X9.fr
        have fD9 := X9.fr _ _ fD8
        refine ⟨us, (hd2_of fD9).1, by rw [hul, sizeLine_eq]; omega, (Y9.put hD0 Dd' Dw' Dc').mono (by omega), keepP (X9.fr _ _ fS8) Dd' Dw' nSD, keepP (X9.fr _ _ fN8) Dd' Dw' nND, us ++ [.ref t], ds ++ [xs], ?_, by rw [List.length_append, hul]; rfl, ?_⟩
        · rw [hd2_upd Dd' Dw', upd_same]
        · rw [hd2_upd Dd' Dw']
          exact (hT.same X9.fr).add fD9 ht hdd
      · rintro H8 ⟨X8, fS8, fN8, us, ds, fD8, hul, hT⟩
        have hu8 : us.length ≤ 8 := by omega
        have X8 : Ds d w c (1000 * i + 110) H1 H8 := X8.mono (by omega)
        refine ⟨4, rfl, by decide, by decide, ?_⟩
        refine for_it walk_range (fun l σ Hl => Ds d w c (1000 * i + 110 + 30 * l) H1 Hl ∧ hd2 d w Hl Sm = some (.lst (sw.map V.str)) ∧ hd2 d w Hl D = some (.lst us) ∧ TpAll (hd2 d w Hl) us ds ∧ ∃ v6 v7 v8 v9 v10 v11 : Option V, σ = [some (.ref a), some (.ref d), some (.ref Sm), some (.int (0 + (i : Nat))), some (.ref Nm), some (.ref D), v6, v7, v8, v9, v10, v11])
          ⟨X8.mono (by omega), fS8, fD8, hT, _, _, _, _, _, _, rfl⟩ (fun _ _ _ _ _ => trivial) ?_ ?_
        · rintro l x σ Hl Hm hl4 ⟨Xl, fSl, fDl, hTl, v6, v7, v8, v9, v10, v11, rfl⟩ ⟨rfl, rfl⟩
          have hl4 : l < 4 := hl4
          have hdl : ds.length ≤ 8 := by rw [← hTl.1]; exact hu8
          have hdd : ∀ dd ∈ ds, isDeedL dd = true := fun dd hm => by
            obtain ⟨j, hj⟩ := List.getElem?_of_mem hm
            have hjl := (List.getElem?_eq_some_iff.mp hj).1
            obtain ⟨t, _, _, h4⟩ := hTl.2 j (us[j]'(by rw [hTl.1]; exact hjl)) dd (List.getElem?_eq_getElem _) hj
            exact h4
          refine ⟨_, rfl, D, us, ds, rfl, SqL.of (hd2_of fDl).1, by omega, hTl.dd hd2_sub, fun H9 S9 => ?_⟩
          have X9 := Xl.same S9
          have fS9 := hd2_same (d := d) (w := w) S9 _ _ fSl
          have fD9 := hd2_same (d := d) (w := w) S9 _ _ fDl
          have hT9 := hTl.same (hd2_same (d := d) (w := w) S9)
          have tz := text_tx hdd hdl
          generalize textL (ds.map deedLine) = z0 at tz ⊢
          refine ⟨_, rfl, (by show 5 ≤ sizeLine; decide), fun p10 hp10 => ?_⟩
          refine ⟨d, w, c, _, (X9.new hp10).dr, by omega, .inl ⟨p10, _, rfl, SqL.of (X9.at hp10), by simp, by decide, fun k11 v11' H11 hv11 D11 S11 => ?_⟩⟩
          have X11 := (X9.new hp10).draw D11 S11
          have fS11 := S11 _ _ (keepA fS9 hp10)
          have fD11 := S11 _ _ (keepA fD9 hp10)
          have hT11 := (hT9.same (hd2_new hp10)).same S11
          obtain ⟨m, rfl, m0, m3⟩ : ∃ m : Int, v11' = .int m ∧ 0 ≤ m ∧ m ≤ 3 := by
            have hm := at_mem hv11
            have : v11' ∈ ([0, 1, 1, 2, 3] : List Int).map V.int := hm
            obtain ⟨y, hy, rfl⟩ := List.mem_map.mp this
            refine ⟨y, rfl, ?_⟩
            simp only [List.mem_cons, List.not_mem_nil, or_false] at hy
            omega
          refine ⟨m, rfl, by omega, by omega, ?_⟩
          refine for_it walk_range (fun j σ Hj => Ds d w c (1000 * i + 110 + 30 * l + 1 + 7 * j) H1 Hj ∧ hd2 d w Hj Sm = some (.lst (sw.map V.str)) ∧ hd2 d w Hj D = some (.lst us) ∧ TpAll (hd2 d w Hj) us ds ∧ ∃ (z : Str) (v9 : Option V), Tx (bnd j) z ∧ σ = [some (.ref a), some (.ref d), some (.ref Sm), some (.int (0 + (i : Nat))), some (.ref Nm), some (.ref D), v6, some (.int (0 + (l : Nat))), some (.str z), v9, v10, v11])
            ⟨X11.mono (by omega), fS11, fD11, hT11, z0, _, tz, rfl⟩ (fun _ _ _ _ _ => trivial) ?_ ?_
          · rintro j x σ Hj Hk hj3 ⟨Xj, fSj, fDj, hTj, z, v9, tzj, rfl⟩ ⟨rfl, rfl⟩
            have hj3 : j < 3 := by omega
            have hbj : bnd j ≤ 20000 := by
              have : j = 0 ∨ j = 1 ∨ j = 2 := by omega
              rcases this with rfl | rfl | rfl <;> decide
            refine ⟨_, rfl, _, rfl, _, rfl, d, w, c, Sm, _, z, bnd j, sw, rfl, Xj.dr, by omega, tzj, hbj, fSj, hwsL, hwsT, fun z' H12 X12 tz' => ?_⟩
            exact ⟨(Xj.draw X12.dr X12.fr).mono (by omega), X12.fr _ _ fSj, X12.fr _ _ fDj, hTj.same X12.fr, z', _, tz', rfl⟩
          · rintro σ Hj ⟨Xj, fSj, fDj, hTj, z, v9, tzj, rfl⟩
            have hbm : bnd m.toNat ≤ 41550 := by
              have : m.toNat = 0 ∨ m.toNat = 1 ∨ m.toNat = 2 ∨ m.toNat = 3 := by omega
              rcases this with e | e | e | e <;> rw [e] <;> decide
            have tz := tzj.mono hbm
            have hzl := tz.len
            have hz40 : z.length < 2 ^ 40 := by omega
            have sok := two_ok (hear_ok hz40)
            have sln := two_len (hear_len hz40)
            have snd := PyData.hasDict_of_canLay _ sok.1
            have Xj : Ds d w c (1000 * i + 110 + 30 * l + 30) H1 Hj := Xj.mono (by omega)
            -- the first comparison
            refine ⟨_, rfl, .str z, .str, rfl, .str z, (fun e => by cases e), fun z' ez => ?_⟩
            obtain rfl : z = z' := V.str.inj ez
            refine ⟨by omega, fun w1 G1 T1 r1 => ?_⟩
            refine ⟨_, rfl, .str z, .str, rfl, .str z, (fun e => by cases e), fun z' ez => ?_⟩
            obtain rfl : z = z' := V.str.inj ez
            refine ⟨by omega, fun w2 G2 T2 r2 => ?_⟩
            refine ⟨(by show 2 ≤ sizeLine; decide), fun p3 hp3 => ?_⟩
            have T3 : Same G2 (upd G2 p3 (.lst [w1, w2])) := Evl.Ex.new hp3
            refine ⟨_, PyData.list [hearD (hearP z), hearD (hearP z)], rfl, .lst (SqL.of upd_same) (.cons (Dp.same (T2.trans T3) r1.dp) (.cons (Dp.same T3 r2.dp) .nil)), sok.2.1, snd, by have := sok.2.2; omega, by rw [sizeLine_eq]; omega, ?_⟩
            generalize upd G2 p3 (.lst [w1, w2]) = G3 at T3 ⊢
            refine ⟨_, rfl, z, _, rfl, tz, by omega, fun w4 G4 T4 r4 => ?_⟩
            refine ⟨(by show 1 ≤ sizeLine; decide), fun p5 hp5 => ?_⟩
            refine ⟨p5, 2, _, rfl, rfl, upd_same, by decide, by decide, (by show 1 * 2 ≤ sizeLine; decide), fun p6 hp6 => ?_⟩
            have T6 : Same G4 (upd (upd G4 p5 (.lst [w4])) p6 (.lst [w4, w4])) := (Evl.Ex.new hp5 : Same G4 (upd G4 p5 (.lst [w4]))).trans (Evl.Ex.new hp6)
            have g6 : upd (upd G4 p5 (.lst [w4])) p6 (.lst [w4, w4]) p6 = some (.lst [w4, w4]) := upd_same
            have eR : (List.replicate (Int.toNat 2) [w4]).flatten = [w4, w4] := rfl
            rw [eR]
            generalize upd (upd G4 p5 (.lst [w4])) p6 (.lst [w4, w4]) = G6 at T6 g6 ⊢
            refine ⟨_, PyData.list [hearD (hearP z), hearD (hearP z)], rfl, .lst (SqL.of g6) (.cons (Dp.same T6 r4.dp) (.cons (Dp.same T6 r4.dp) .nil)), sok.2.1, snd, by have := sok.2.2; omega, by rw [sizeLine_eq]; omega, rfl, _, rfl, ?_⟩
            refine iteF' (by simp) ?_
            have T06 : Same Hj G6 := (((T1.trans T2).trans T3).trans T4).trans T6
            -- heard again
            refine ⟨_, rfl, .str z, .str, rfl, .str z, (fun e => by cases e), fun z' ez => ?_⟩
            obtain rfl : z = z' := V.str.inj ez
            refine ⟨by omega, fun w7 G7 T7 r7 => ?_⟩
            have T07 := T06.trans T7
            have end_ : ∀ G8, Same Hj G8 → Ds d w c (1000 * i + 110 + 30 * (((l + 1 : Nat)) : Int)) H1 G8 ∧ hd2 d w G8 Sm = some (.lst (sw.map V.str)) ∧ hd2 d w G8 D = some (.lst us) ∧ TpAll (hd2 d w G8) us ds := fun G8 T8 =>
              ⟨(Xj.same T8).mono (by omega), hd2_same (d := d) (w := w) T8 _ _ fSj, hd2_same (d := d) (w := w) T8 _ _ fDj, hTj.same (hd2_same (d := d) (w := w) T8)⟩
            cases hh : hearP z with
            | error k =>
              rw [hh] at r7
              have r7 : w7 = .int k := r7
              subst r7
              refine ⟨_, rfl, _, .ty "list", _, _, _, rfl, .ty "list", (Any.int k : Any K G7 _ _).tyx, (Any.int k : Any K G7 _ _).kLst, _, rfl, iteF ?_⟩
              obtain ⟨e1, e2, e3, e4⟩ := end_ G7 T07
              exact ⟨e1, e2, e3, e4, _, _, _, _, _, _, rfl⟩
            | ok hs =>
              rw [hh] at r7
              obtain ⟨b1, b2, us7, rfl, g1, g2, g3⟩ := r7
              obtain ⟨bk1, bk2⟩ := hear_back hh
              refine ⟨_, rfl, _, .ty "list", _, _, _, rfl, .ty "list", (Any.lst g1 : Any K G7 _ _).tyx, (Any.lst g1 : Any K G7 _ _).kLst, _, rfl, iteT ?_⟩
              have hlen7 : us7.length = hs.length := by rw [g3.len, List.length_map]
              have hsz : ((hs.map deedLine).map (·.length)).sum + hs.length ≤ 90000 := by
                have := textL_len (hs.map deedLine)
                rw [bk1, List.length_map] at this
                omega
              refine ⟨_, rfl, b1, _, _, _, rfl, rfl, SqL.of g1, atI_nat (j := 0) rfl, b2, us7, hs.map (fun h => (Kd.tup, h)), rfl, g2, by omega, by rw [List.length_map]; exact hlen7, ?_, ?_, ?_⟩
              · intro i2 u2 gg hu2 hg2
                obtain ⟨o, ho, hfo⟩ := g3.at hu2
                rw [List.getElem?_map] at ho hg2
                cases e : hs[i2]? with
                | none => rw [e] at ho; cases ho
                | some hd7 =>
                  rw [e] at ho hg2
                  have ho : some hd7 = o := Option.some.inj ho
                  have hg2 : (Kd.tup, hd7) = gg := Option.some.inj hg2
                  subst ho hg2
                  obtain ⟨t7, rfl, ht7, hd8⟩ := hfo
                  obtain ⟨q1, q2, q3⟩ := deed_parts hd8
                  refine ⟨.tup ht7, fun _ => ⟨t7, rfl, SqT.of ht7, Nat.le_trans q2 (by decide), fun x hx => ?_⟩⟩
                  rcases q1 x hx with ⟨n9, rfl, _⟩ | ⟨w9, rfl, l9, _⟩
                  · exact ⟨_, .int n9, fun y e => by cases e⟩
                  · exact ⟨_, .str w9, fun y e => by rw [← V.str.inj e, sizeLine_eq]; omega⟩
              · intro i2 gg hg2 hbad _
                exfalso
                rw [List.getElem?_map] at hg2
                cases e : hs[i2]? with
                | none => rw [e] at hg2; cases hg2
                | some hd7 =>
                  rw [e] at hg2
                  have hg2 : (Kd.tup, hd7) = gg := Option.some.inj hg2
                  subst hg2
                  have hm : some hd7 ∈ (linesP z).map deedC := by
                    rw [← bk2]
                    exact List.mem_map.mpr ⟨hd7, at_mem e, rfl⟩
                  obtain ⟨l7, _, e7⟩ := List.mem_map.mp hm
                  have := (deed_back e7).2.1
                  unfold okG2 at hbad
                  rw [this] at hbad
                  cases hbad
              · intro _
                have e9 : (hs.map (fun h => (Kd.tup, h))).map (fun g : Kd × List V => deedLine g.2) = hs.map deedLine := by
                  rw [List.map_map]
                  rfl
                rw [e9, List.length_map]
                refine ⟨hsz, fun G8 T8 => ?_⟩
                refine ⟨_, rfl, rfl, _, rfl, ?_⟩
                rw [bk1]
                refine iteF' (by simp) ?_
                obtain ⟨e1, e2, e3, e4⟩ := end_ G8 (T07.trans T8)
                exact ⟨e1, e2, e3, e4, _, _, _, _, _, _, rfl⟩
        · rintro σ Hl ⟨Xl, fSl, fDl, hTl, v6, v7, v8, v9, v10, v11, rfl⟩
          have Xl : Ds d w c (1000 * i + 300) H1 Hl := Xl.mono (by omega)
          -- the odd ones
          refine ⟨(by show 1 ≤ sizeLine; decide), fun o1 ho1 => ?_⟩
          refine ⟨(by show 1 ≤ sizeLine; decide), fun o2 ho2 => ?_⟩
          refine fun o3 ho3 => ?_
          refine ⟨_, rfl, (by show 1 ≤ sizeLine; decide), fun o4 ho4 => ?_⟩
          refine ⟨(by show 7 ≤ sizeLine; decide), fun o5 ho5 => ?_⟩
          have S1' : Same Hl (upd Hl o1 (.lst [V.str "step"])) := Evl.Ex.new ho1
          have S2' : Same (upd Hl o1 (.lst [V.str "step"])) (upd (upd Hl o1 (.lst [V.str "step"])) o2 (.tup [V.str "step\n"])) := Evl.Ex.new ho2
          have S3' : Same (upd (upd Hl o1 (.lst [V.str "step"])) o2 (.tup [V.str "step\n"])) (upd (upd (upd Hl o1 (.lst [V.str "step"])) o2 (.tup [V.str "step\n"])) o3 (.dK [])) := Evl.Ex.new ho3
          have S4' : Same (upd (upd (upd Hl o1 (.lst [V.str "step"])) o2 (.tup [V.str "step\n"])) o3 (.dK [])) (upd (upd (upd (upd Hl o1 (.lst [V.str "step"])) o2 (.tup [V.str "step\n"])) o3 (.dK [])) o4 (.lst [V.ref D])) := Evl.Ex.new ho4
          have S5' : Same (upd (upd (upd (upd Hl o1 (.lst [V.str "step"])) o2 (.tup [V.str "step\n"])) o3 (.dK [])) o4 (.lst [V.ref D])) (upd (upd (upd (upd (upd Hl o1 (.lst [V.str "step"])) o2 (.tup [V.str "step\n"])) o3 (.dK [])) o4 (.lst [V.ref D])) o5 (.lst [V.non, V.int 5, V.bl true, V.ref o1, V.ref o2, V.ref o3, V.ref o4])) := Evl.Ex.new ho5
          have g1 := S5' _ _ (S4' _ _ (S3' _ _ (S2' _ _ (upd_same : upd Hl o1 (.lst [V.str "step"]) o1 = _))))
          have g2 := S5' _ _ (S4' _ _ (S3' _ _ (upd_same : upd (upd Hl o1 (.lst [V.str "step"])) o2 (.tup [V.str "step\n"]) o2 = _)))
          have g3 := S5' _ _ (S4' _ _ (upd_same : upd (upd (upd Hl o1 (.lst [V.str "step"])) o2 (.tup [V.str "step\n"])) o3 (.dK []) o3 = _))
          have g4 := S5' _ _ (upd_same : upd (upd (upd (upd Hl o1 (.lst [V.str "step"])) o2 (.tup [V.str "step\n"])) o3 (.dK [])) o4 (.lst [V.ref D]) o4 = _)
          have g5 : (upd (upd (upd (upd (upd Hl o1 (.lst [V.str "step"])) o2 (.tup [V.str "step\n"])) o3 (.dK [])) o4 (.lst [V.ref D])) o5 (.lst [V.non, V.int 5, V.bl true, V.ref o1, V.ref o2, V.ref o3, V.ref o4])) o5 = some (.lst [V.non, V.int 5, V.bl true, V.ref o1, V.ref o2, V.ref o3, V.ref o4]) := upd_same
          have S05 := (((S1'.trans S2').trans S3').trans S4').trans S5'
          clear S1' S2' S3' S4' S5'
          generalize (upd (upd (upd (upd (upd Hl o1 (.lst [V.str "step"])) o2 (.tup [V.str "step\n"])) o3 (.dK [])) o4 (.lst [V.ref D])) o5 (.lst [V.non, V.int 5, V.bl true, V.ref o1, V.ref o2, V.ref o3, V.ref o4])) = G at g1 g2 g3 g4 g5 S05 ⊢
          have kinds : ∀ x ∈ ([V.non, V.int 5, V.bl true, V.ref o1, V.ref o2, V.ref o3, V.ref o4] : List V), ∃ kx : Kd, Any K G x kx ∧ kx.isStr = false := fun x hx => by
            simp only [List.mem_cons, List.not_mem_nil, or_false] at hx
            rcases hx with rfl | rfl | rfl | rfl | rfl | rfl | rfl
            · exact ⟨_, .non, rfl⟩
            · exact ⟨_, .int 5, rfl⟩
            · exact ⟨_, .bl true, rfl⟩
            · exact ⟨_, .lst g1, rfl⟩
            · exact ⟨_, .tup g2, rfl⟩
            · exact ⟨_, .dct g3, rfl⟩
            · exact ⟨_, .lst g4, rfl⟩
          refine ⟨o5, rfl, ⟨_, SqL.of g5⟩, ?_⟩
          refine for_it (walk_list (xs := [V.non, V.int 5, V.bl true, V.ref o1, V.ref o2, V.ref o3, V.ref o4])) (fun j σ Gj => Same G Gj ∧ ∃ v11 : Option V, σ = [some (.ref a), some (.ref d), some (.ref Sm), some (.int (0 + (i : Nat))), some (.ref Nm), some (.ref D), v6, v7, v8, v9, v10, v11])
            ⟨Same.refl _, _, rfl⟩ (fun _ _ _ _ h => SqL.of (h.1 _ _ g5)) ?_ ?_
          · rintro j x σ Gj Gk hj ⟨Sj, v11', rfl⟩ ⟨rfl, hx⟩
            obtain ⟨kx, hk, hks⟩ := kinds x (at_mem hx)
            refine ⟨_, rfl, x, kx, rfl, hk.same Sj, fun _ Gl Sl => ?_, fun z e => ?_⟩
            · refine ⟨_, .int 0, rfl, .int 0, by decide +kernel, by decide +kernel, by decide +kernel, by decide +kernel, rfl, _, rfl, ?_⟩
              refine iteF' (by decide +kernel) ⟨Sj.trans Sl, _, rfl⟩
            · subst e
              cases hk
              cases hks
          · rintro σ Gj ⟨Sj, v11', rfl⟩
            -- the empty text
            have h0 : hearP "" = .ok [] := by
              have h1 : linesP "" = [] := by decide +kernel
              have h2 : endOk "" = true := by decide +kernel
              unfold hearP
              rw [h1, h2]
              rfl
            refine ⟨.str "", .str, rfl, .str _, (fun e => by cases e), fun z' ez => ?_⟩
            obtain rfl : ("" : Str) = z' := V.str.inj ez
            refine ⟨by decide, fun w9 G9 T9 r9' => ?_⟩
            rw [h0] at r9'
            refine ⟨(by show 0 ≤ sizeLine; decide), fun q1 hq1 => ⟨(by show 1 ≤ sizeLine; decide), fun q2 hq2 => ?_⟩⟩
            have U1 : Same G9 (upd G9 q1 (.lst [])) := Evl.Ex.new hq1
            have U2 : Same (upd G9 q1 (.lst [])) (upd (upd G9 q1 (.lst [])) q2 (.lst [V.ref q1])) := Evl.Ex.new hq2
            refine ⟨_, PyData.list [.list []], Dp.same (U1.trans U2) r9'.dp, .lst (SqL.of upd_same) (.cons (.lst (SqL.of (U2 _ _ upd_same)) .nil) .nil), by decide +kernel, by decide +kernel, _, rfl, ?_⟩
            refine iteF' (by simp [hearD, PyData.eqv, PyData.eqvAll]) ?_
            have SF := ((S05.trans Sj).trans T9).trans (U1.trans U2)
            exact ⟨(Xl.same SF).mono (by omega), hd2_same (d := d) (w := w) SF _ _ fSl, _, _, _, _, _, _, _, _, _, rfl⟩
    · rintro σ Hi ⟨Xi, fS, v3, v4, v5, v6, v7, v8, v9, v10, v11, rfl⟩
      exact q _
end
end WP
namespace WP
open PySem L2
/-! ### the end -/
theorem fin70 {K : PySem.W.Frag} {h : Heap} {w : World} {mg : Str → Option Value} {fa aF CT CH : Addr} {tL tD : Tok} {t1 t2 t3 : Tok} (X : K.In h) (G : h.Ns mainGlobals mg) (hfa : mg "law" = some (.ref fa)) (B : BiK K)
    (cL : PySem.W.nsIn K mainGlobals "LETTERS" = some (some (.str alphabet tL))) (cN : PySem.W.nsIn K mainGlobals "LONGEST_NAME" = some (some (.int 8 t1))) (cD : PySem.W.nsIn K mainGlobals "DIGITS" = some (some (.str digits tD))) (cM : PySem.W.nsIn K mainGlobals "MOST_DIGITS" = some (some (.int 18 t2))) (cX : PySem.W.nsIn K mainGlobals "MOST_NUMBER" = some (some (.int 999999999999999999 t3)))
    (cF : PySem.W.nsIn K mainGlobals "FORMS" = some (some (.ref aF))) (FK : FormsK K w aF)
    (eT : ErrK K CT "BadText" "line" s_BadText___init__ "BadText.__init__" CT) (eH : ErrK K CH "BadHistory" "at" s_BadHistory___init__ "BadHistory.__init__" CH)
    (d1 : DefK K "is_name" s_is_name) (d2 : DefK K "is_number" s_is_number) (d3 : DefK K "is_list" s_is_list) (d4 : DefK K "is_numeral" s_is_numeral) (d5 : DefK K "ended" s_ended) (d6 : DefK K "lines_of" s_lines_of) (d7 : DefK K "need_end" s_need_end) (d8 : DefK K "is_part" s_is_part) (d9 : DefK K "is_deed" s_is_deed) (d10 : DefK K "deed_line" s_deed_line)
    (d11 : DefK K "deed_of" s_deed_of) (d12 : DefK K "history_text" s_history_text) (d13 : DefK K "read_history" s_read_history) (d14 : DefK K "_law_begun" s__law_begun) (d15 : DefK K "_law_blend" s__law_blend) (d16 : DefK K "_law_take" s__law_take) (d17 : DefK K "_law_pick" s__law_pick) (d18 : DefK K "_law_drawn_names" s__law_drawn_names) (d19 : DefK K "_law_drawn_deed" s__law_drawn_deed)
    (d20 : DefK K "_law_line" s__law_line) (d21 : DefK K "_law_text_of" s__law_text_of) (d22 : DefK K "_law_bent_text" s__law_bent_text) (d23 : DefK K "_law_is_name" s__law_is_name) (d24 : DefK K "_law_number_of" s__law_number_of) (d25 : DefK K "_law_deed_of" s__law_deed_of) (d26 : DefK K "_law_due" s__law_due) (d27 : DefK K "_law_heard" s__law_heard) (d28 : DefK K "law" s_law) :
    LawG PySem.Challenge.rw_wholeprint_k70_texts_of_histories_refuse w K 7 63 "_law_script" mg fa h := by
  have T := B.bi X G
  obtain ⟨f1, p1, a1, k1, F1⟩ := d1
  obtain ⟨f2, p2, a2, k2, F2⟩ := d2
  obtain ⟨f3, p3, a3, k3, F3⟩ := d3
  obtain ⟨f4, p4, a4, k4, F4⟩ := d4
  obtain ⟨f5, p5, a5, k5, F5⟩ := d5
  obtain ⟨f6, p6, a6, k6, F6⟩ := d6
  obtain ⟨f7, p7, a7, k7, F7⟩ := d7
  obtain ⟨f8, p8, a8, k8, F8⟩ := d8
  obtain ⟨f9, p9, a9, k9, F9⟩ := d9
  obtain ⟨f10, p10, a10, k10, F10⟩ := d10
  obtain ⟨f11, p11, a11, k11, F11⟩ := d11
  obtain ⟨f12, p12, a12, k12, F12⟩ := d12
  obtain ⟨f13, p13, a13, k13, F13⟩ := d13
  obtain ⟨f14, p14, a14, k14, F14⟩ := d14
  obtain ⟨f15, p15, a15, k15, F15⟩ := d15
  obtain ⟨f16, p16, a16, k16, F16⟩ := d16
  obtain ⟨f17, p17, a17, k17, F17⟩ := d17
  obtain ⟨f18, p18, a18, k18, F18⟩ := d18
  obtain ⟨f19, p19, a19, k19, F19⟩ := d19
  obtain ⟨f20, p20, a20, k20, F20⟩ := d20
  obtain ⟨f21, p21, a21, k21, F21⟩ := d21
  obtain ⟨f22, p22, a22, k22, F22⟩ := d22
  obtain ⟨f23, p23, a23, k23, F23⟩ := d23
  obtain ⟨f24, p24, a24, k24, F24⟩ := d24
  obtain ⟨f25, p25, a25, k25, F25⟩ := d25
  obtain ⟨f26, p26, a26, k26, F26⟩ := d26
  obtain ⟨f27, p27, a27, k27, F27⟩ := d27
  obtain ⟨f28, p28, a28, k28, F28⟩ := d28
  have e28 := hfa.symm.trans (PySem.W.mg_of X G a28)
  cases e28
  have bL := F28.binds (ps := ["_law_script"]) fun _ _ _ _ _ _ us hl => match us, hl with | [_], _ => rfl
  refine ⟨p28, [], spLaw K, (fun p hp => by cases hp), (fun p hp => by cases hp), (fun p hp => by cases hp), ?_, fun H a ns hl _ hS => ⟨a, ns, rfl, hS, hl, fun _ => rfl⟩, fun base _ _ _ => ?_⟩
  · intro s u
    obtain ⟨oc, od, kV, doc, pm, an, cdv, ct, osl, rfl, lk, hcd⟩ := F28.ex
    exact .of_eq rfl
  have ET : Err1 PySem.Challenge.rw_wholeprint_k70_texts_of_histories_refuse.prog w K mg base CT "BadText" CT "line" := eT.err X G (fun f fd F => ok_init1 F sc_BadText___init__ rfl rfl rfl (by decide) (by decide) eT.T eT.no) fun f fd F => F.binds fun _ _ _ _ _ _ us hl => match us, hl with | [_, _], _ => rfl
  have EH : Err1 PySem.Challenge.rw_wholeprint_k70_texts_of_histories_refuse.prog w K mg base CH "BadHistory" CH "at" := eH.err X G (fun f fd F => ok_init1 F sc_BadHistory___init__ rfl rfl rfl (by decide) (by decide) eH.T eH.no) fun f fd F => F.binds fun _ _ _ _ _ _ us hl => match us, hl with | [_, _], _ => rfl
  have D1 : Dn PySem.Challenge.rw_wholeprint_k70_texts_of_histories_refuse.prog w K mg base CX0 1 "is_name" ["value"] (spIsName K) := ⟨f1, p1, PySem.W.mg_of X G a1, k1, ok_is_name F1 T ⟨_, PySem.W.mg_of X G cL⟩ ⟨_, PySem.W.mg_of X G cN⟩, F1.binds fun _ _ _ _ _ _ us hl => match us, hl with | [_], _ => rfl⟩
  have D2 : Dn PySem.Challenge.rw_wholeprint_k70_texts_of_histories_refuse.prog w K mg base CX0 1 "is_number" ["value"] (spIsNumber K) := ⟨f2, p2, PySem.W.mg_of X G a2, k2, ok_is_number F2 T, F2.binds fun _ _ _ _ _ _ us hl => match us, hl with | [_], _ => rfl⟩
  have D3 : Dn PySem.Challenge.rw_wholeprint_k70_texts_of_histories_refuse.prog w K mg base CX0 1 "is_list" ["value"] (spIsList K) := ⟨f3, p3, PySem.W.mg_of X G a3, k3, ok_is_list F3 T, F3.binds fun _ _ _ _ _ _ us hl => match us, hl with | [_], _ => rfl⟩
  have D4 : Dn PySem.Challenge.rw_wholeprint_k70_texts_of_histories_refuse.prog w K mg base CX0 1 "is_numeral" ["word"] spIsNumeral := ⟨f4, p4, PySem.W.mg_of X G a4, k4, ok_is_numeral F4 T ⟨_, PySem.W.mg_of X G cD⟩ ⟨_, PySem.W.mg_of X G cM⟩, F4.binds fun _ _ _ _ _ _ us hl => match us, hl with | [_], _ => rfl⟩
  have D5 : Dn PySem.Challenge.rw_wholeprint_k70_texts_of_histories_refuse.prog w K mg base CX0 1 "ended" ["lines"] (spEnded K) := ⟨f5, p5, PySem.W.mg_of X G a5, k5, ok_ended F5 T, F5.binds fun _ _ _ _ _ _ us hl => match us, hl with | [_], _ => rfl⟩
  have D6 : Dn PySem.Challenge.rw_wholeprint_k70_texts_of_histories_refuse.prog w K mg base (L2.CX PySem.Challenge.rw_wholeprint_k70_texts_of_histories_refuse.prog w) 3 "lines_of" ["text"] (spLinesOf K CT) := ⟨f6, p6, PySem.W.mg_of X G a6, k6, ok_lines_of F6 T ET, F6.binds fun _ _ _ _ _ _ us hl => match us, hl with | [_], _ => rfl⟩
  have D7 : Dn PySem.Challenge.rw_wholeprint_k70_texts_of_histories_refuse.prog w K mg base (L2.CX PySem.Challenge.rw_wholeprint_k70_texts_of_histories_refuse.prog w) 3 "need_end" ["text", "lines"] (spNeedEnd K CT) := ⟨f7, p7, PySem.W.mg_of X G a7, k7, ok_need_end F7 T ET, F7.binds fun _ _ _ _ _ _ us hl => match us, hl with | [_, _], _ => rfl⟩
  have D8 : Dn PySem.Challenge.rw_wholeprint_k70_texts_of_histories_refuse.prog w K mg base CX0 2 "is_part" ["sort", "value"] (spIsPart K) := ⟨f8, p8, PySem.W.mg_of X G a8, k8, ok_is_part F8 T D1 D2 ⟨_, PySem.W.mg_of X G cX⟩, F8.binds fun _ _ _ _ _ _ us hl => match us, hl with | [_, _], _ => rfl⟩
  have D9 : Dn PySem.Challenge.rw_wholeprint_k70_texts_of_histories_refuse.prog w K mg base CX0 3 "is_deed" ["value"] (spIsDeed K) := ⟨f9, p9, PySem.W.mg_of X G a9, k9, ok_is_deed F9 T D8 (PySem.W.mg_of X G cF) FK, F9.binds fun _ _ _ _ _ _ us hl => match us, hl with | [_], _ => rfl⟩
  have D10 : Dn PySem.Challenge.rw_wholeprint_k70_texts_of_histories_refuse.prog w K mg base CX0 1 "deed_line" ["deed"] (spDeedLine K) := ⟨f10, p10, PySem.W.mg_of X G a10, k10, ok_deed_line F10 T, F10.binds fun _ _ _ _ _ _ us hl => match us, hl with | [_], _ => rfl⟩
  have D11 : Dn PySem.Challenge.rw_wholeprint_k70_texts_of_histories_refuse.prog w K mg base CX0 4 "deed_of" ["line"] (spDeedOf K) := ⟨f11, p11, PySem.W.mg_of X G a11, k11, ok_deed_of F11 T D4 D9 (PySem.W.mg_of X G cF) FK, F11.binds fun _ _ _ _ _ _ us hl => match us, hl with | [_], _ => rfl⟩
  have D12 : Dn PySem.Challenge.rw_wholeprint_k70_texts_of_histories_refuse.prog w K mg base (L2.CX PySem.Challenge.rw_wholeprint_k70_texts_of_histories_refuse.prog w) 4 "history_text" ["history"] (spHist K CH) := ⟨f12, p12, PySem.W.mg_of X G a12, k12, ok_history_text F12 T EH D3 D9 D5 D10, F12.binds fun _ _ _ _ _ _ us hl => match us, hl with | [_], _ => rfl⟩
  have D13 : Dn PySem.Challenge.rw_wholeprint_k70_texts_of_histories_refuse.prog w K mg base (L2.CX PySem.Challenge.rw_wholeprint_k70_texts_of_histories_refuse.prog w) 5 "read_history" ["text"] (spReadHist K CT) := ⟨f13, p13, PySem.W.mg_of X G a13, k13, ok_read_history F13 T ET D6 D7 D11, F13.binds fun _ _ _ _ _ _ us hl => match us, hl with | [_], _ => rfl⟩
  have D14 : Dn PySem.Challenge.rw_wholeprint_k70_texts_of_histories_refuse.prog w K mg base CX0 1 "_law_begun" ["_law_script"] (spBegun K) := ⟨f14, p14, PySem.W.mg_of X G a14, k14, ok_begun F14 T, F14.binds fun _ _ _ _ _ _ us hl => match us, hl with | [_], _ => rfl⟩
  have D15 : Dn PySem.Challenge.rw_wholeprint_k70_texts_of_histories_refuse.prog w K mg base CX0 1 "_law_blend" ["_law_draw"] spBlend := ⟨f15, p15, PySem.W.mg_of X G a15, k15, ok_blend F15 T, F15.binds fun _ _ _ _ _ _ us hl => match us, hl with | [_], _ => rfl⟩
  have D16 : Dn PySem.Challenge.rw_wholeprint_k70_texts_of_histories_refuse.prog w K mg base CX0 2 "_law_take" ["_law_draw", "_law_size"] spTake := ⟨f16, p16, PySem.W.mg_of X G a16, k16, ok_take F16 T D15, F16.binds fun _ _ _ _ _ _ us hl => match us, hl with | [_, _], _ => rfl⟩
  have D17 : Dn PySem.Challenge.rw_wholeprint_k70_texts_of_histories_refuse.prog w K mg base CX0 3 "_law_pick" ["_law_draw", "_law_some"] (spPick K) := ⟨f17, p17, PySem.W.mg_of X G a17, k17, ok_pick F17 T D16, F17.binds fun _ _ _ _ _ _ us hl => match us, hl with | [_, _], _ => rfl⟩
  have D18 : Dn PySem.Challenge.rw_wholeprint_k70_texts_of_histories_refuse.prog w K mg base CX0 4 "_law_drawn_names" ["_law_draw", "_law_total"] (spNames K) := ⟨f18, p18, PySem.W.mg_of X G a18, k18, ok__law_drawn_names F18 T D16 D17, F18.binds fun _ _ _ _ _ _ us hl => match us, hl with | [_, _], _ => rfl⟩
  have D19 : Dn PySem.Challenge.rw_wholeprint_k70_texts_of_histories_refuse.prog w K mg base CX0 4 "_law_drawn_deed" ["_law_draw", "_law_names"] (spDrawnDeed K) := ⟨f19, p19, PySem.W.mg_of X G a19, k19, ok__law_drawn_deed F19 T D16 D17, F19.binds fun _ _ _ _ _ _ us hl => match us, hl with | [_, _], _ => rfl⟩
  have D20 : Dn PySem.Challenge.rw_wholeprint_k70_texts_of_histories_refuse.prog w K mg base CX0 1 "_law_line" ["_law_deed"] (spDeedLine K) := ⟨f20, p20, PySem.W.mg_of X G a20, k20, ok__law_line F20 T, F20.binds fun _ _ _ _ _ _ us hl => match us, hl with | [_], _ => rfl⟩
  have D21 : Dn PySem.Challenge.rw_wholeprint_k70_texts_of_histories_refuse.prog w K mg base CX0 2 "_law_text_of" ["_law_history"] (spLawText K) := ⟨f21, p21, PySem.W.mg_of X G a21, k21, ok__law_text_of F21 T D20, F21.binds fun _ _ _ _ _ _ us hl => match us, hl with | [_], _ => rfl⟩
  have D22 : Dn PySem.Challenge.rw_wholeprint_k70_texts_of_histories_refuse.prog w K mg base CX0 4 "_law_bent_text" ["_law_draw", "_law_text", "_law_some"] (spBent K) := ⟨f22, p22, PySem.W.mg_of X G a22, k22, ok__law_bent_text F22 T D16 D17, F22.binds fun _ _ _ _ _ _ us hl => match us, hl with | [_, _, _], _ => rfl⟩
  have D23 : Dn PySem.Challenge.rw_wholeprint_k70_texts_of_histories_refuse.prog w K mg base CX0 1 "_law_is_name" ["_law_word"] spLawName := ⟨f23, p23, PySem.W.mg_of X G a23, k23, ok__law_is_name F23 T, F23.binds fun _ _ _ _ _ _ us hl => match us, hl with | [_], _ => rfl⟩
  have D24 : Dn PySem.Challenge.rw_wholeprint_k70_texts_of_histories_refuse.prog w K mg base CX0 1 "_law_number_of" ["_law_word", "_law_most"] spLawNum := ⟨f24, p24, PySem.W.mg_of X G a24, k24, ok__law_number_of F24 T, F24.binds fun _ _ _ _ _ _ us hl => match us, hl with | [_, _], _ => rfl⟩
  have D25 : Dn PySem.Challenge.rw_wholeprint_k70_texts_of_histories_refuse.prog w K mg base CX0 2 "_law_deed_of" ["_law_line_here"] (spLawDeed K) := ⟨f25, p25, PySem.W.mg_of X G a25, k25, ok__law_deed_of F25 T D23 D24, F25.binds fun _ _ _ _ _ _ us hl => match us, hl with | [_], _ => rfl⟩
  have D26 : Dn PySem.Challenge.rw_wholeprint_k70_texts_of_histories_refuse.prog w K mg base CX0 3 "_law_due" ["_law_text"] (spLawDue K) := ⟨f26, p26, PySem.W.mg_of X G a26, k26, ok__law_due F26 T D25, F26.binds fun _ _ _ _ _ _ us hl => match us, hl with | [_], _ => rfl⟩
  have D27 : Dn PySem.Challenge.rw_wholeprint_k70_texts_of_histories_refuse.prog w K mg base CX0 6 "_law_heard" ["_law_text"] (spLawHeard K) := ⟨f27, p27, PySem.W.mg_of X G a27, k27, ok__law_heard F27 T ET D13, F27.binds fun _ _ _ _ _ _ us hl => match us, hl with | [_], _ => rfl⟩
  exact ok_law F28 T D14 D16 D17 D18 D19 D21 D22 D27 D26 D12
end WP
set_option maxHeartbeats 0
open PySem PySem.W PyProof.Rows
open_top head for PySem.Challenge.rw_wholeprint_k70_texts_of_histories_refuse
open PySem PySem.W PyProof.Rows WP
theorem PySem.Challenge.cw_wholeprint_k70_texts_of_histories_refuse_holds : PySem.Challenge.rw_wholeprint_k70_texts_of_histories_refuse.Holds :=
  head (by
  k_fill
  refine WP.walk_G (l := PySem.Challenge.rw_wholeprint_k70_texts_of_histories_refuse) (n := 63) (k := 7) (x := "_law_script") rfl (by decide) rfl ⟨rfl, by decide, by decide⟩ (fun w h Y => PySem.W.kIn_of Y) ?F
  intro w mg fa h Y KX G hmg
  refine' fin70 KX G hmg (bi_mk KX ?z1 ?z2 ?z3 ?z4 ?z5 ?z6 ?z7 ?z8 ?z9 ?z10 ?z11 ?z12 ?z13 ?z14 ?z15 ?z16 ?z17 ?z18) ?cL ?cN ?cD ?cM ?cX ?cF (forms_mk KX ?fl0 ?flow ?fl1 ?fl2 ?fl3 ?fl4 ?fl5 ?fl6 ?fl7) (err_mk KX ?Tns ?Txl ?Trv ?Tsa ?Tga ?Tgg ?Tno ?Tha ?Thn ?Tht ?Thm ?TkC ?TeC ?TtC ?ThC ?TsC ?Ti1 ?Tti ?Tli ?Tci ?Tki) (err_mk KX ?Hns ?Hxl ?Hrv ?Hsa ?Hga ?Hgg ?Hno ?Hha ?Hhn ?Hht ?Hhm ?HkC ?HeC ?HtC ?HhC ?HsC ?Hi1 ?Hti ?Hli ?Hci ?Hki) (def_mk KX ?da1 ?dl1 ?dc1 ?dk1) (def_mk KX ?da2 ?dl2 ?dc2 ?dk2) (def_mk KX ?da3 ?dl3 ?dc3 ?dk3) (def_mk KX ?da4 ?dl4 ?dc4 ?dk4) (def_mk KX ?da5 ?dl5 ?dc5 ?dk5) (def_mk KX ?da6 ?dl6 ?dc6 ?dk6) (def_mk KX ?da7 ?dl7 ?dc7 ?dk7) (def_mk KX ?da8 ?dl8 ?dc8 ?dk8) (def_mk KX ?da9 ?dl9 ?dc9 ?dk9) (def_mk KX ?da10 ?dl10 ?dc10 ?dk10) (def_mk KX ?da11 ?dl11 ?dc11 ?dk11) (def_mk KX ?da12 ?dl12 ?dc12 ?dk12) (def_mk KX ?da13 ?dl13 ?dc13 ?dk13) (def_mk KX ?da14 ?dl14 ?dc14 ?dk14) (def_mk KX ?da15 ?dl15 ?dc15 ?dk15) (def_mk KX ?da16 ?dl16 ?dc16 ?dk16) (def_mk KX ?da17 ?dl17 ?dc17 ?dk17) (def_mk KX ?da18 ?dl18 ?dc18 ?dk18) (def_mk KX ?da19 ?dl19 ?dc19 ?dk19) (def_mk KX ?da20 ?dl20 ?dc20 ?dk20) (def_mk KX ?da21 ?dl21 ?dc21 ?dk21) (def_mk KX ?da22 ?dl22 ?dc22 ?dk22) (def_mk KX ?da23 ?dl23 ?dc23 ?dk23) (def_mk KX ?da24 ?dl24 ?dc24 ?dk24) (def_mk KX ?da25 ?dl25 ?dc25 ?dk25) (def_mk KX ?da26 ?dl26 ?dc26 ?dk26) (def_mk KX ?da27 ?dl27 ?dc27 ?dk27) (def_mk KX ?da28 ?dl28 ?dc28 ?dk28)
  (case z1 => k_is)
  (case z2 => k_is)
  (case z3 => k_is)
  (case z4 => k_is)
  (case z5 => k_is)
  (case z6 => k_is)
  (case z7 => k_is)
  (case z8 => k_is)
  (case z9 => k_is)
  (case z10 => k_is)
  (case z11 => k_is)
  (case z12 => k_is)
  (case z13 => k_is)
  (case z14 => k_is)
  (case z15 => k_is)
  (case z16 => k_is)
  (case z17 => k_is)
  (case z18 => k_is)
  (case cL => k_is)
  (case cN => k_is)
  (case cD => k_is)
  (case cM => k_is)
  (case cX => k_is)
  (case cF => k_is)
  (case fl0 => k_is)
  (case flow => decide)
  (case fl1 => k_is)
  (case fl2 => k_is)
  (case fl3 => k_is)
  (case fl4 => k_is)
  (case fl5 => k_is)
  (case fl6 => k_is)
  (case fl7 => k_is)
  (case Tns => k_is)
  (case Txl => k_is)
  (case Trv => decide)
  (case Tsa => k_is)
  (case Tga => k_is)
  (case Tgg => k_is)
  (case Tno => k_is)
  (case Tha => k_is)
  (case Thn => k_is)
  (case Tht => k_is)
  (case Thm => k_is)
  (case TkC => k_is)
  (case TeC => k_is)
  (case TtC => k_is)
  (case ThC => k_is)
  (case TsC => first | rfl | k_is)
  (case Ti1 => k_is)
  (case Tti => k_is)
  (case Tli => k_is)
  (case Tci => k_is)
  (case Tki => k_is)
  (case Hns => k_is)
  (case Hxl => k_is)
  (case Hrv => decide)
  (case Hsa => k_is)
  (case Hga => k_is)
  (case Hgg => k_is)
  (case Hno => k_is)
  (case Hha => k_is)
  (case Hhn => k_is)
  (case Hht => k_is)
  (case Hhm => k_is)
  (case HkC => k_is)
  (case HeC => k_is)
  (case HtC => k_is)
  (case HhC => k_is)
  (case HsC => first | rfl | k_is)
  (case Hi1 => k_is)
  (case Hti => k_is)
  (case Hli => k_is)
  (case Hci => k_is)
  (case Hki => k_is)
  (case da1 => k_is)
  (case dl1 => k_is)
  (case dc1 => k_is)
  (case dk1 => k_is)
  (case da2 => k_is)
  (case dl2 => k_is)
  (case dc2 => k_is)
  (case dk2 => k_is)
  (case da3 => k_is)
  (case dl3 => k_is)
  (case dc3 => k_is)
  (case dk3 => k_is)
  (case da4 => k_is)
  (case dl4 => k_is)
  (case dc4 => k_is)
  (case dk4 => k_is)
  (case da5 => k_is)
  (case dl5 => k_is)
  (case dc5 => k_is)
  (case dk5 => k_is)
  (case da6 => k_is)
  (case dl6 => k_is)
  (case dc6 => k_is)
  (case dk6 => k_is)
  (case da7 => k_is)
  (case dl7 => k_is)
  (case dc7 => k_is)
  (case dk7 => k_is)
  (case da8 => k_is)
  (case dl8 => k_is)
  (case dc8 => k_is)
  (case dk8 => k_is)
  (case da9 => k_is)
  (case dl9 => k_is)
  (case dc9 => k_is)
  (case dk9 => k_is)
  (case da10 => k_is)
  (case dl10 => k_is)
  (case dc10 => k_is)
  (case dk10 => k_is)
  (case da11 => k_is)
  (case dl11 => k_is)
  (case dc11 => k_is)
  (case dk11 => k_is)
  (case da12 => k_is)
  (case dl12 => k_is)
  (case dc12 => k_is)
  (case dk12 => k_is)
  (case da13 => k_is)
  (case dl13 => k_is)
  (case dc13 => k_is)
  (case dk13 => k_is)
  (case da14 => k_is)
  (case dl14 => k_is)
  (case dc14 => k_is)
  (case dk14 => k_is)
  (case da15 => k_is)
  (case dl15 => k_is)
  (case dc15 => k_is)
  (case dk15 => k_is)
  (case da16 => k_is)
  (case dl16 => k_is)
  (case dc16 => k_is)
  (case dk16 => k_is)
  (case da17 => k_is)
  (case dl17 => k_is)
  (case dc17 => k_is)
  (case dk17 => k_is)
  (case da18 => k_is)
  (case dl18 => k_is)
  (case dc18 => k_is)
  (case dk18 => k_is)
  (case da19 => k_is)
  (case dl19 => k_is)
  (case dc19 => k_is)
  (case dk19 => k_is)
  (case da20 => k_is)
  (case dl20 => k_is)
  (case dc20 => k_is)
  (case dk20 => k_is)
  (case da21 => k_is)
  (case dl21 => k_is)
  (case dc21 => k_is)
  (case dk21 => k_is)
  (case da22 => k_is)
  (case dl22 => k_is)
  (case dc22 => k_is)
  (case dk22 => k_is)
  (case da23 => k_is)
  (case dl23 => k_is)
  (case dc23 => k_is)
  (case dk23 => k_is)
  (case da24 => k_is)
  (case dl24 => k_is)
  (case dc24 => k_is)
  (case dk24 => k_is)
  (case da25 => k_is)
  (case dl25 => k_is)
  (case dc25 => k_is)
  (case dk25 => k_is)
  (case da26 => k_is)
  (case dl26 => k_is)
  (case dc26 => k_is)
  (case dk26 => k_is)
  (case da27 => k_is)
  (case dl27 => k_is)
  (case dc27 => k_is)
  (case dk27 => k_is)
  (case da28 => k_is)
  (case dl28 => k_is)
  (case dc28 => k_is)
  (case dk28 => k_is))
