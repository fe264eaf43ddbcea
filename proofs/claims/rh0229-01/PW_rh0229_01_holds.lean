import PyProof.Rows.All
import Wide.All
import OpenK.AllK
import Wide.FinOn
import PyProof.EqAt
import PyProof.EqKinds
import Lean
import PySem.Challenge.RW_rh0229_01
set_option Elab.async false
set_option compiler.extract_closed false
-- part Hd
open PySem PySem.W PyProof.Rows PySem.Spec PySem.Calls
set_option Elab.async false
namespace Mine
section
-- the look at the top lays the constants «top.heap_1» and «top.view_1»; nothing is proved here
local macro_rules | `(tactic| refine $_) => `(tactic| assumption)
set_option maxRecDepth 100000 in
set_option maxHeartbeats 8000000 in
theorem top (h : PySem.Challenge.rw_rh0229_01.row.Holds) : PySem.Challenge.rw_rh0229_01.row.Holds := by
  w_on
  k_head
end
theorem kIn_my {w : PySem.World} {h : Heap} (Y : InK top.heap_1 w h) : (top.heap_1 w.params).In h := Y
theorem walk_of {V : PySem.Program} {n : PySem.Str} {d₀ d : DefRec} {k₀ k : List (PySem.Str × PySem.Expr)} {P : DefRec → List (PySem.Str × PySem.Expr) → Prop}
    (e : defOf V n = some (d₀, k₀)) (h : defOf V n = some (d, k)) (p : P d₀ k₀) : P d k := by
  cases e.symm.trans h
  exact p
theorem rm0 {a n l : Nat} (h : a + n < l) : a < l := Nat.lt_of_le_of_lt (Nat.le_add_right a n) h
theorem rm {a n k l : Nat} (h : a + n < l) (e : k ≤ n) : a + k < l := Nat.lt_of_le_of_lt (Nat.add_le_add_left e a) h
theorem ne_lt {a b : Nat} (h : a < b) : a ≠ b := Nat.ne_of_lt h
theorem ne_gt {a b : Nat} (h : b < a) : a ≠ b := Nat.ne_of_gt h
theorem l0 {x y : Prop} (h : x ∧ y) : x := h.1
theorem l1 {p0 : Prop} {x y : Prop} (h : p0 ∧ x ∧ y) : x := h.2.1
theorem l2 {p0 p1 : Prop} {x y : Prop} (h : p0 ∧ p1 ∧ x ∧ y) : x := h.2.2.1
theorem l3 {p0 p1 p2 : Prop} {x y : Prop} (h : p0 ∧ p1 ∧ p2 ∧ x ∧ y) : x := h.2.2.2.1
theorem l4 {p0 p1 p2 p3 : Prop} {x y : Prop} (h : p0 ∧ p1 ∧ p2 ∧ p3 ∧ x ∧ y) : x := h.2.2.2.2.1
theorem l5 {p0 p1 p2 p3 p4 : Prop} {x y : Prop} (h : p0 ∧ p1 ∧ p2 ∧ p3 ∧ p4 ∧ x ∧ y) : x := h.2.2.2.2.2.1
theorem l6 {p0 p1 p2 p3 p4 p5 : Prop} {x y : Prop} (h : p0 ∧ p1 ∧ p2 ∧ p3 ∧ p4 ∧ p5 ∧ x ∧ y) : x := h.2.2.2.2.2.2.1
theorem l7 {p0 p1 p2 p3 p4 p5 p6 : Prop} {x y : Prop} (h : p0 ∧ p1 ∧ p2 ∧ p3 ∧ p4 ∧ p5 ∧ p6 ∧ x ∧ y) : x := h.2.2.2.2.2.2.2.1
theorem l8 {p0 p1 p2 p3 p4 p5 p6 p7 : Prop} {x y : Prop} (h : p0 ∧ p1 ∧ p2 ∧ p3 ∧ p4 ∧ p5 ∧ p6 ∧ p7 ∧ x ∧ y) : x := h.2.2.2.2.2.2.2.2.1
theorem l9 {p0 p1 p2 p3 p4 p5 p6 p7 p8 : Prop} {x y : Prop} (h : p0 ∧ p1 ∧ p2 ∧ p3 ∧ p4 ∧ p5 ∧ p6 ∧ p7 ∧ p8 ∧ x ∧ y) : x := h.2.2.2.2.2.2.2.2.2.1
theorem l10 {p0 p1 p2 p3 p4 p5 p6 p7 p8 p9 : Prop} {x y : Prop} (h : p0 ∧ p1 ∧ p2 ∧ p3 ∧ p4 ∧ p5 ∧ p6 ∧ p7 ∧ p8 ∧ p9 ∧ x ∧ y) : x := h.2.2.2.2.2.2.2.2.2.2.1
theorem l11 {p0 p1 p2 p3 p4 p5 p6 p7 p8 p9 p10 : Prop} {x y : Prop} (h : p0 ∧ p1 ∧ p2 ∧ p3 ∧ p4 ∧ p5 ∧ p6 ∧ p7 ∧ p8 ∧ p9 ∧ p10 ∧ x ∧ y) : x := h.2.2.2.2.2.2.2.2.2.2.2.1
theorem l12 {p0 p1 p2 p3 p4 p5 p6 p7 p8 p9 p10 p11 : Prop} {x y : Prop} (h : p0 ∧ p1 ∧ p2 ∧ p3 ∧ p4 ∧ p5 ∧ p6 ∧ p7 ∧ p8 ∧ p9 ∧ p10 ∧ p11 ∧ x ∧ y) : x := h.2.2.2.2.2.2.2.2.2.2.2.2.1
theorem l13 {p0 p1 p2 p3 p4 p5 p6 p7 p8 p9 p10 p11 p12 : Prop} {x y : Prop} (h : p0 ∧ p1 ∧ p2 ∧ p3 ∧ p4 ∧ p5 ∧ p6 ∧ p7 ∧ p8 ∧ p9 ∧ p10 ∧ p11 ∧ p12 ∧ x ∧ y) : x := h.2.2.2.2.2.2.2.2.2.2.2.2.2.1
theorem r1 {p0 : Prop} {x : Prop} (h : p0 ∧ x) : x := h.2
theorem r2 {p0 p1 : Prop} {x : Prop} (h : p0 ∧ p1 ∧ x) : x := h.2.2
theorem r3 {p0 p1 p2 : Prop} {x : Prop} (h : p0 ∧ p1 ∧ p2 ∧ x) : x := h.2.2.2
theorem r4 {p0 p1 p2 p3 : Prop} {x : Prop} (h : p0 ∧ p1 ∧ p2 ∧ p3 ∧ x) : x := h.2.2.2.2
theorem r5 {p0 p1 p2 p3 p4 : Prop} {x : Prop} (h : p0 ∧ p1 ∧ p2 ∧ p3 ∧ p4 ∧ x) : x := h.2.2.2.2.2
theorem r6 {p0 p1 p2 p3 p4 p5 : Prop} {x : Prop} (h : p0 ∧ p1 ∧ p2 ∧ p3 ∧ p4 ∧ p5 ∧ x) : x := h.2.2.2.2.2.2
theorem r7 {p0 p1 p2 p3 p4 p5 p6 : Prop} {x : Prop} (h : p0 ∧ p1 ∧ p2 ∧ p3 ∧ p4 ∧ p5 ∧ p6 ∧ x) : x := h.2.2.2.2.2.2.2
theorem r8 {p0 p1 p2 p3 p4 p5 p6 p7 : Prop} {x : Prop} (h : p0 ∧ p1 ∧ p2 ∧ p3 ∧ p4 ∧ p5 ∧ p6 ∧ p7 ∧ x) : x := h.2.2.2.2.2.2.2.2
end Mine
-- part Cm
section
open PySem PySem.W PyProof.Rows PySem.Spec PySem.Calls
set_option Elab.async false
set_option maxRecDepth 100000
namespace Mine
abbrev Led := List (Addr × Obj)
abbrev Ct (w : PySem.World) (mean : ExcName → Option Value) (mg mb : PySem.Str → Option Value) (f : Addr) (vs : List Value) (D U : Nat) (news : Led) (R : Value → Led → Prop) : Prop :=
  ∀ (dp un : Nat) (gd : Option (List PySem.Code)) (cn : PySem.Str) (cs : PySem.Scope) (a : Addr) (ccd : Value) (cl : List (PySem.Str × Addr)) (outer : List Env) (A₀ : Around) (base h₀ : Heap) (L : Addr) (m : PySem.Str → Option Value) (s : Shared) (Q E : Value → Shared → Prop),
    Below A₀ base outer h₀ → Fr h₀ L s.heap m → (top.heap_1 w.params).In h₀ → News h₀ L s.heap news → Top top.view_1 (looseW top.view_1 [PySem.Str.ofString "SnobolError"]) mean mg mb h₀ → cs.kind = .function → dp + D < recursionLimit → un + U < cLine →
    (∀ r news' h' tk', R r news' → Fr h₀ L h' m → News h₀ L h' news' → Q r { s with heap := h', toks := tk' }) →
    wpAny (model PySem.Challenge.rw_rh0229_01.row.prog w) (ktrTop dp un gd cn cs L a ccd cl outer) (call (.ref f) vs) Q E s
theorem Ct.use {w : PySem.World} {mean : ExcName → Option Value} {mg mb : PySem.Str → Option Value} {f : Addr} {vs : List Value} {D U : Nat} {news : Led} {R : Value → Led → Prop}
    {dp un : Nat} {gd : Option (List PySem.Code)} {cn : PySem.Str} {cs : PySem.Scope} {a : Addr} {ccd : Value} {cl : List (PySem.Str × Addr)} {outer : List Env} {A₀ : Around} {base h₀ : Heap} {L : Addr} {m : PySem.Str → Option Value} {s : Shared} {Q E : Value → Shared → Prop}
    (B : Below A₀ base outer h₀) (F : Fr h₀ L s.heap m) (X : (top.heap_1 w.params).In h₀) (N : News h₀ L s.heap news) (T : Top top.view_1 (looseW top.view_1 [PySem.Str.ofString "SnobolError"]) mean mg mb h₀) (hk : cs.kind = .function)
    (C : Ct w mean mg mb f vs D U news R) (hroom : dp + D < recursionLimit) (hu : un + U < cLine)
    (ret : ∀ r news' h' tk', R r news' → Fr h₀ L h' m → News h₀ L h' news' → Q r { s with heap := h', toks := tk' }) :
    wpAny (model PySem.Challenge.rw_rh0229_01.row.prog w) (ktrTop dp un gd cn cs L a ccd cl outer) (call (.ref f) vs) Q E s :=
  C _ _ _ _ _ _ _ _ _ _ _ _ _ _ _ _ _ B F X N T hk hroom hu ret
theorem Ct.go {w : PySem.World} {mean : ExcName → Option Value} {mg mb : PySem.Str → Option Value} {f : Addr} {vs : List Value} {D U : Nat} {news : Led} {R : Value → Led → Prop}
    {dp un : Nat} {gd : Option (List PySem.Code)} {cn : PySem.Str} {cs : PySem.Scope} {a : Addr} {ccd : Value} {cl : List (PySem.Str × Addr)} {outer : List Env} {A₀ : Around} {base h₀ : Heap} {L : Addr} {m : PySem.Str → Option Value} {s : Shared} {Q E : Value → Shared → Prop}
    (B : Below A₀ base outer h₀ := by k_asm) (F : Fr h₀ L s.heap m := by k_asm) (X : (top.heap_1 w.params).In h₀ := by k_asm) (N : News h₀ L s.heap news := by k_asm) (T : Top top.view_1 (looseW top.view_1 [PySem.Str.ofString "SnobolError"]) mean mg mb h₀ := by k_asm) (hk : cs.kind = .function := by first | exact rfl | assumption)
    (C : Ct w mean mg mb f vs D U news R) (hroom : dp + D < recursionLimit := by k_room) (hu : un + U < cLine := by k_room)
    (ret : ∀ r news' h' tk', R r news' → Fr h₀ L h' m → News h₀ L h' news' → Q r { s with heap := h', toks := tk' }) :
    wpAny (model PySem.Challenge.rw_rh0229_01.row.prog w) (ktrTop dp un gd cn cs L a ccd cl outer) (call (.ref f) vs) Q E s :=
  Ct.use B F X N T hk C hroom hu ret
theorem is_ct {n : Addr} {M : Model} {A : Around} {vs : List Value} {Q E : Value → Shared → Prop} {s : Shared} (_h : [331, 311, 345, 212, 357, 386, 393, 414, 421, 428, 297, 290, 435, 375, 407, 449, 456].contains n = true)
    (k : wpAny M A (call (.ref n) vs) Q E s) : wpAny M A (call (.ref n) vs) Q E s := k
end Mine
end
-- part Tc
section
theorem Mine.off_Tc : True := by
  w_top off
  exact trivial
open PySem PySem.W PyProof.Rows PySem.Spec PySem.Calls
open PySem.SeqAt PySem.MeetsSeq PySem.MeetsSeq2 PySem.MeetsSeq3 PySem.SeqRoads2 
open PySem.AutoSeq1 (wpAny_loadPart')
set_option Elab.async false
set_option maxRecDepth 100000
namespace Mine
def CmAt (op : CmpOp) (A : Around) (s : Shared) (x y : Value) (b : Bool) : Prop :=
  ∀ (prog : PySem.Program) (w : PySem.World) (E : Value → Shared → Prop) (Q : Value → Shared → Prop), Q (.bool b) s → wpAny (model prog w) A (richCompare op x y) Q E s
theorem any_eqAt {prog : PySem.Program} {w : PySem.World} {A : Around} {s : Shared} {y x : Value} {b : Bool} {E : Value → Shared → Prop} {Q : Bool → Shared → Prop} (h : EqAt A s y x b) (hq : Q b s) :
    wpAny (model prog w) A (eqBool y x) Q E s := h prog w E Q hq
theorem any_cmAt {op : CmpOp} {prog : PySem.Program} {w : PySem.World} {A : Around} {s : Shared} {y x : Value} {b : Bool} {E : Value → Shared → Prop} {Q : Value → Shared → Prop} (h : CmAt op A s y x b) (hq : Q (.bool b) s) :
    wpAny (model prog w) A (richCompare op y x) Q E s := h prog w E Q hq
theorem tuple_lt3 (l b : Addr) (a0 a1 a2 b0 b1 b2 : Value) (n n2 : Nat) (dd dd2 : Option Addr) (sl sl2 : Array (Option Value)) (e0 e1 e2 r0 r1 r2 : Bool) :
    Meets (Builtin.«tuple.__lt__» ⟨[.ref l, .ref b], []⟩)
      (fun A R s => s.heap.get? l = some { cls := .type "tuple", dict := dd, data := .seq #[a0, a1, a2] n, slots := sl } ∧ s.heap.get? b = some { cls := .type "tuple", dict := dd2, data := .seq #[b0, b1, b2] n2, slots := sl2 } ∧
        EqAt A.in1 s a0 b0 e0 ∧ EqAt A.in1 s a1 b1 e1 ∧ EqAt A.in1 s a2 b2 e2 ∧ (e0 = false → CmAt .Lt A.in1 s a0 b0 r0) ∧ (e1 = false → CmAt .Lt A.in1 s a1 b1 r1) ∧ (e2 = false → CmAt .Lt A.in1 s a2 b2 r2) ∧
        R (.ok (.ret (.bool (if e0 then (if e1 then (if e2 then false else r2) else r1) else r0)))) s) :=
  .of_wp fun prog w A R s h => by
    obtain ⟨hp, g, d, tk, os⟩ := s; obtain ⟨hl, hb, h0, h1, h2, c0, c1, c2, h⟩ := h
    have f2 := AutoSeq1.sub_tuple_tuple
    wp_walk using wpAny_loadPart' hl, wpAny_loadPart' hb, any_eqAt h0
    cases e0 with
    | false =>
      wp_walk using any_cmAt (c0 rfl)
      exact ⟨_, rfl, h⟩
    | true =>
      wp_walk using any_eqAt h1
      cases e1 with
      | false =>
        wp_walk using any_cmAt (c1 rfl)
        exact ⟨_, rfl, h⟩
      | true =>
        wp_walk using any_eqAt h2
        cases e2 with
        | false =>
          wp_walk using any_cmAt (c2 rfl)
          exact ⟨_, rfl, h⟩
        | true =>
          wp_walk
          exact ⟨_, rfl, h⟩
theorem tuple_gt3 (l b : Addr) (a0 a1 a2 b0 b1 b2 : Value) (n n2 : Nat) (dd dd2 : Option Addr) (sl sl2 : Array (Option Value)) (e0 e1 e2 r0 r1 r2 : Bool) :
    Meets (Builtin.«tuple.__gt__» ⟨[.ref l, .ref b], []⟩)
      (fun A R s => s.heap.get? l = some { cls := .type "tuple", dict := dd, data := .seq #[a0, a1, a2] n, slots := sl } ∧ s.heap.get? b = some { cls := .type "tuple", dict := dd2, data := .seq #[b0, b1, b2] n2, slots := sl2 } ∧
        EqAt A.in1 s a0 b0 e0 ∧ EqAt A.in1 s a1 b1 e1 ∧ EqAt A.in1 s a2 b2 e2 ∧ (e0 = false → CmAt .Gt A.in1 s a0 b0 r0) ∧ (e1 = false → CmAt .Gt A.in1 s a1 b1 r1) ∧ (e2 = false → CmAt .Gt A.in1 s a2 b2 r2) ∧
        R (.ok (.ret (.bool (if e0 then (if e1 then (if e2 then false else r2) else r1) else r0)))) s) :=
  .of_wp fun prog w A R s h => by
    obtain ⟨hp, g, d, tk, os⟩ := s; obtain ⟨hl, hb, h0, h1, h2, c0, c1, c2, h⟩ := h
    have f2 := AutoSeq1.sub_tuple_tuple
    wp_walk using wpAny_loadPart' hl, wpAny_loadPart' hb, any_eqAt h0
    cases e0 with
    | false =>
      wp_walk using any_cmAt (c0 rfl)
      exact ⟨_, rfl, h⟩
    | true =>
      wp_walk using any_eqAt h1
      cases e1 with
      | false =>
        wp_walk using any_cmAt (c1 rfl)
        exact ⟨_, rfl, h⟩
      | true =>
        wp_walk using any_eqAt h2
        cases e2 with
        | false =>
          wp_walk using any_cmAt (c2 rfl)
          exact ⟨_, rfl, h⟩
        | true =>
          wp_walk
          exact ⟨_, rfl, h⟩
end Mine
end
-- part Td
section
open PySem PySem.W PyProof.Rows PySem.Spec PySem.Calls
open PySem.SeqAt
set_option Elab.async false
set_option maxRecDepth 100000
namespace Mine
abbrev tup3 (a b c : Value) : Obj := { cls := .type "tuple", data := .seq #[a, b, c] }
def ltv : Value → Value → Bool
  | .int i _, .int j _ => decide (i < j)
  | .int _ _, .str _ _ => true
  | .str a _, .str b _ => decide (a.cps.toList < b.cps.toList)
  | _, _ => false
def markO (u v : Tok) : Value → Obj
  | .int i t => tup3 (.int 0 u) (.int i t) (.str (Str.ofString "") v)
  | x => tup3 (.int 1 u) (.int 0 v) x
section
variable {prog : PySem.Program} {w : PySem.World} {A : Around} {E : Value → Shared → Prop} {s : Shared} {Q : Value → Shared → Prop} {l b : Addr} {h₀ : Heap} {L : Addr} {news : Led}
theorem cm_lt_int (i j : Int) (t u : Tok) : CmAt .Lt A s (.int i t) (.int j u) (decide (i < j)) := fun _ _ E Q h => lt_int (E := E) (Q := Q) h
theorem cm_gt_int (i j : Int) (t u : Tok) : CmAt .Gt A s (.int i t) (.int j u) (decide (j < i)) := fun _ _ E Q h => gt_int (E := E) (Q := Q) h
theorem cm_lt_str (x y : PySem.Str) (t u : Tok) : CmAt .Lt A s (.str x t) (.str y u) (decide (x.cps.toList < y.cps.toList)) := fun _ _ E Q h => lt_str (E := E) (Q := Q) h
theorem cm_gt_str (x y : PySem.Str) (t u : Tok) : CmAt .Gt A s (.str x t) (.str y u) (decide (y.cps.toList < x.cps.toList)) := fun _ _ E Q h => PySem.P.gt_str (E := E) (Q := Q) h
theorem tup_lt {a0 a1 a2 b0 b1 b2 : Value} {e0 e1 e2 r0 r1 r2 : Bool} (N : News h₀ L s.heap news) (hl : (l, tup3 a0 a1 a2) ∈ news) (hb : (b, tup3 b0 b1 b2) ∈ news) (hu : A.units < cLine)
    (h0 : EqAt A.in1 s a0 b0 e0) (h1 : EqAt A.in1 s a1 b1 e1) (h2 : EqAt A.in1 s a2 b2 e2) (c0 : e0 = false → CmAt .Lt A.in1 s a0 b0 r0) (c1 : e1 = false → CmAt .Lt A.in1 s a1 b1 r1) (c2 : e2 = false → CmAt .Lt A.in1 s a2 b2 r2)
    (h : Q (.bool (if e0 then (if e1 then (if e2 then false else r2) else r1) else r0)) s) : wpAny (model prog w) A (compareOp .Lt (.ref l) (.ref b)) Q E s :=
  richCompare_meets_room (op := .Lt) ⟨_, (N _ hl).1, rfl⟩ ⟨_, (N _ hb).1, rfl⟩ F.slot_tuple_lt F.entry_tuple_lt (F.args_tuple_lt_2 _ _) (tuple_lt3 l b a0 a1 a2 b0 b1 b2 0 0 none none #[] #[] e0 e1 e2 r0 r1 r2)
    ⟨(N _ hl).1, (N _ hb).1, h0, h1, h2, c0, c1, c2, show Value.bool _ ≠ Value.notImplemented ∧ Q (.bool _) s from ⟨(fun x => nomatch x), h⟩⟩ hu
theorem tup_gt {a0 a1 a2 b0 b1 b2 : Value} {e0 e1 e2 r0 r1 r2 : Bool} (N : News h₀ L s.heap news) (hl : (l, tup3 a0 a1 a2) ∈ news) (hb : (b, tup3 b0 b1 b2) ∈ news) (hu : A.units < cLine)
    (h0 : EqAt A.in1 s a0 b0 e0) (h1 : EqAt A.in1 s a1 b1 e1) (h2 : EqAt A.in1 s a2 b2 e2) (c0 : e0 = false → CmAt .Gt A.in1 s a0 b0 r0) (c1 : e1 = false → CmAt .Gt A.in1 s a1 b1 r1) (c2 : e2 = false → CmAt .Gt A.in1 s a2 b2 r2)
    (h : Q (.bool (if e0 then (if e1 then (if e2 then false else r2) else r1) else r0)) s) : wpAny (model prog w) A (compareOp .Gt (.ref l) (.ref b)) Q E s :=
  richCompare_meets_room (op := .Gt) ⟨_, (N _ hl).1, rfl⟩ ⟨_, (N _ hb).1, rfl⟩ F.slot_tuple_gt F.entry_tuple_gt (F.args_tuple_gt_2 _ _) (tuple_gt3 l b a0 a1 a2 b0 b1 b2 0 0 none none #[] #[] e0 e1 e2 r0 r1 r2)
    ⟨(N _ hl).1, (N _ hb).1, h0, h1, h2, c0, c1, c2, show Value.bool _ ≠ Value.notImplemented ∧ Q (.bool _) s from ⟨(fun x => nomatch x), h⟩⟩ hu
theorem str_lt_irr (x y : PySem.Str) (h : (x == y) = true) : decide (x.cps.toList < y.cps.toList) = false := by
  rw [eq_of_beq h]; exact decide_eq_false (List.lt_irrefl _)
/-- the marks of two values, behind each other -/
theorem mark_lt {x y : Value} {u v u' v' : Tok} (hx : (∃ i t, x = .int i t) ∨ (∃ a t, x = .str a t)) (hy : (∃ i t, y = .int i t) ∨ (∃ a t, y = .str a t)) (N : News h₀ L s.heap news) (hl : (l, markO u v x) ∈ news) (hb : (b, markO u' v' y) ∈ news) (hu : A.units < cLine)
    (h : Q (.bool (ltv x y)) s) : wpAny (model prog w) A (compareOp .Lt (.ref l) (.ref b)) Q E s := by
  rcases hx with ⟨i, t, rfl⟩ | ⟨i, t, rfl⟩ <;> rcases hy with ⟨j, k, rfl⟩ | ⟨j, k, rfl⟩
  · refine tup_lt N hl hb hu (EqAt.int_int _ _ _ _) (EqAt.int_int _ _ _ _) (EqAt.str_str _ _ _ _) (fun _ => cm_lt_int _ _ _ _) (fun _ => cm_lt_int _ _ _ _) (fun _ => cm_lt_str _ _ _ _) ?_
    refine (congrArg (fun z => Q (Value.bool z) s) ?_).mp h
    by_cases e : i = j <;> simp [ltv, e]
  · exact tup_lt N hl hb hu (EqAt.int_int _ _ _ _) (EqAt.int_int _ _ _ _) (EqAt.str_str _ _ _ _) (fun _ => cm_lt_int _ _ _ _) (fun _ => cm_lt_int _ _ _ _) (fun _ => cm_lt_str _ _ _ _) h
  · exact tup_lt N hl hb hu (EqAt.int_int _ _ _ _) (EqAt.int_int _ _ _ _) (EqAt.str_str _ _ _ _) (fun _ => cm_lt_int _ _ _ _) (fun _ => cm_lt_int _ _ _ _) (fun _ => cm_lt_str _ _ _ _) h
  · refine tup_lt N hl hb hu (EqAt.int_int _ _ _ _) (EqAt.int_int _ _ _ _) (EqAt.str_str _ _ _ _) (fun _ => cm_lt_int _ _ _ _) (fun _ => cm_lt_int _ _ _ _) (fun _ => cm_lt_str _ _ _ _) ?_
    refine (congrArg (fun z => Q (Value.bool z) s) ?_).mp h
    cases e : (i == j)
    · rfl
    · exact str_lt_irr i j e
theorem mark_gt {x y : Value} {u v u' v' : Tok} (hx : (∃ i t, x = .int i t) ∨ (∃ a t, x = .str a t)) (hy : (∃ i t, y = .int i t) ∨ (∃ a t, y = .str a t)) (N : News h₀ L s.heap news) (hl : (l, markO u v x) ∈ news) (hb : (b, markO u' v' y) ∈ news) (hu : A.units < cLine)
    (h : Q (.bool (ltv y x)) s) : wpAny (model prog w) A (compareOp .Gt (.ref l) (.ref b)) Q E s := by
  rcases hx with ⟨i, t, rfl⟩ | ⟨i, t, rfl⟩ <;> rcases hy with ⟨j, k, rfl⟩ | ⟨j, k, rfl⟩
  · refine tup_gt N hl hb hu (EqAt.int_int _ _ _ _) (EqAt.int_int _ _ _ _) (EqAt.str_str _ _ _ _) (fun _ => cm_gt_int _ _ _ _) (fun _ => cm_gt_int _ _ _ _) (fun _ => cm_gt_str _ _ _ _) ?_
    refine (congrArg (fun z => Q (Value.bool z) s) ?_).mp h
    by_cases e : i = j <;> simp [ltv, e]
  · exact tup_gt N hl hb hu (EqAt.int_int _ _ _ _) (EqAt.int_int _ _ _ _) (EqAt.str_str _ _ _ _) (fun _ => cm_gt_int _ _ _ _) (fun _ => cm_gt_int _ _ _ _) (fun _ => cm_gt_str _ _ _ _) h
  · exact tup_gt N hl hb hu (EqAt.int_int _ _ _ _) (EqAt.int_int _ _ _ _) (EqAt.str_str _ _ _ _) (fun _ => cm_gt_int _ _ _ _) (fun _ => cm_gt_int _ _ _ _) (fun _ => cm_gt_str _ _ _ _) h
  · refine tup_gt N hl hb hu (EqAt.int_int _ _ _ _) (EqAt.int_int _ _ _ _) (EqAt.str_str _ _ _ _) (fun _ => cm_gt_int _ _ _ _) (fun _ => cm_gt_int _ _ _ _) (fun _ => cm_gt_str _ _ _ _) ?_
    refine (congrArg (fun z => Q (Value.bool z) s) ?_).mp h
    cases e : (i == j)
    · rfl
    · exact str_lt_irr j i (by rw [eq_of_beq e]; exact beq_self_eq_true _)
end
end Mine
end
-- part B1
section
open PySem PySem.W PyProof.Rows PySem.Spec PySem.Calls
set_option Elab.async false
set_option maxRecDepth 100000
namespace Mine
local macro_rules | `(tactic| k_room) => `(tactic| ((try simp only [depth_under_make, depth_under_kw, depth_in1, depth_deeper, depth_caller]); (try dsimp only [ktrTop]); omega))
abbrev IsIS (x : Value) : Prop := (∃ i t, x = .int i t) ∨ (∃ a t, x = .str a t)
set_option maxHeartbeats 4000000 in
theorem order_ct (w : PySem.World) (mean mg mb) (x : Value) (hx : IsIS x) (news : Led) :
    Ct w mean mg mb 338 [x] 1 8 news (fun r n => ∃ a u v, r = .ref a ∧ n = (a, markO u v x) :: news ∧ ∀ p ∈ news, p.1 < a) := by
  unfold Ct
  k_fill
  intro dp un gd cn cs a ccd cl outer A₀ base h₀ L m s Q E B F X N T hk hroom hu hret
  rcases hx with ⟨i, t, rfl⟩ | ⟨i, t, rfl⟩
  all_goals (
    refine wpAny_call ?_
    k_dflt ktr_enter
    k_steps
    all_goals exact hret _ _ _ _ ⟨_, _, _, rfl, rfl, by assumption⟩ (by assumption) (by assumption))
end Mine
end
-- part B2
section
open PySem PySem.W PyProof.Rows PySem.Spec PySem.Calls
set_option Elab.async false
set_option maxRecDepth 100000
namespace Mine
local macro_rules | `(tactic| k_room) => `(tactic| ((try simp only [depth_under_make, depth_under_kw, depth_in1, depth_deeper, depth_caller, depth_mark, units_in1, units_deeper, Around.mark_units, units_under_make]); (try dsimp only [ktrTop]); first | (with_reducible assumption) | exact Mine.rm0 (by with_reducible assumption) | ((try simp only [Nat.add_assoc]); exact Mine.rm (by with_reducible assumption) (Nat.le_of_ble_eq_true rfl)) | omega))
local macro_rules | `(tactic| walk_at "lf") => `(tactic| with_reducible first | assumption | exact Mine.l0 (by assumption) | exact Mine.l1 (by assumption) | exact Mine.l2 (by assumption) | exact Mine.l3 (by assumption) | exact Mine.l4 (by assumption) | exact Mine.l5 (by assumption) | exact Mine.l6 (by assumption) | exact Mine.l7 (by assumption) | exact Mine.l8 (by assumption) | exact Mine.l9 (by assumption) | exact Mine.l10 (by assumption) | exact Mine.l11 (by assumption) | exact Mine.l12 (by assumption) | exact Mine.l13 (by assumption) | exact Mine.r1 (by assumption) | exact Mine.r2 (by assumption) | exact Mine.r3 (by assumption) | exact Mine.r4 (by assumption) | exact Mine.r5 (by assumption) | exact Mine.r6 (by assumption) | exact Mine.r7 (by assumption) | exact Mine.r8 (by assumption))
local macro_rules | `(tactic| k_ne) => `(tactic| first | exact Mine.ne_lt (by walk_at "lf") | exact Mine.ne_gt (by walk_at "lf") | (with_reducible assumption) | exact Ne.symm (by with_reducible assumption) | exact Mine.ne_lt (Nat.lt_succ_self _) | exact Mine.ne_gt (Nat.lt_succ_self _) | (refine neN ?_; (try dsimp only); omega))
local macro_rules | `(tactic| walk_at "om") => `(tactic| ((try simp only [List.length_map]); first | (with_reducible assumption) | decide | omega))
local macro_rules | `(tactic| walk_at "call ref") => `(tactic| (k_here; k_dflt (refine' Ct.go (C := (order_ct _ _ _ _ _ (by assumption) _)) (ret := ?_); k_whole); intro r9 n9 h9 tk9 hR9 F9 N9; obtain ⟨a9, u9, v9, e9, f9, l9⟩ := hR9; subst e9; subst f9; (try k_lt l9)))
local macro_rules | `(tactic| walk_at "compareOp Lt ref ref") => `(tactic| (k_here; refine' mark_lt ?h1 ?h2 ?N ?m1 ?m2 ?u ?_; (case N => k_asm); (case m1 => k_mem); (case m2 => k_mem); (case h1 => assumption); (case h2 => assumption); (case u => k_room)))
local macro_rules | `(tactic| walk_at "compareOp Gt ref ref") => `(tactic| (k_here; refine' mark_gt ?h1 ?h2 ?N ?m1 ?m2 ?u ?_; (case N => k_asm); (case m1 => k_mem); (case m2 => k_mem); (case h1 => assumption); (case h2 => assumption); (case u => k_room)))
set_option maxHeartbeats 4000000 in
theorem behind_ct (w : PySem.World) (mean mg mb) (x y : Value) (d : Bool) (hx : IsIS x) (hy : IsIS y) (news : Led) :
    Ct w mean mg mb 352 [x, y, .bool d] 2 16 news (fun r n => n = news ∧ r = .bool (if d then ltv x y else ltv y x)) := by
  unfold Ct
  k_fill
  intro dp un gd cn cs a ccd cl outer A₀ base h₀ L m s Q E B F X N T hk hroom hu hret
  cases d
  all_goals (
    refine wpAny_call ?_
    k_dflt ktr_enter
    k_steps
    all_goals exact hret _ news _ _ ⟨rfl, rfl⟩ (by assumption) (cb_drop (by assumption) fun p hp => .tail _ (.tail _ hp)))
end Mine
end
-- part A1
section
open PySem PySem.W PyProof.Rows PySem.Spec PySem.Calls
set_option Elab.async false
set_option maxRecDepth 100000
namespace Mine
set_option maxHeartbeats 4000000 in
theorem ahead_ct (w : PySem.World) (mean mg mb) (x y : Value) (hx : IsIS x) (hy : IsIS y) (news : Led) :
    Ct w mean mg mb 442 [x, y] 1 8 news (fun r n => n = news ∧ r = .bool (ltv x y)) := by
  unfold Ct
  k_fill
  intro dp un gd cn cs a ccd cl outer A₀ base h₀ L m s Q E B F X N T hk hroom hu hret
  rcases hx with ⟨i, t, rfl⟩ | ⟨i, t, rfl⟩ <;> rcases hy with ⟨j, u, rfl⟩ | ⟨j, u, rfl⟩
  all_goals (
    refine wpAny_call ?_
    k_dflt ktr_enter
    k_steps
    all_goals exact hret _ news _ _ ⟨rfl, rfl⟩ (by assumption) (by assumption))
end Mine
end
-- part El
namespace Mine
theorem ex1 {a1 : Sort _} {P : a1 → Prop} {G : Prop} (h : ∃ x1, P x1) (k : ∀ x1, P x1 → G) : G := by
  obtain ⟨x1, h⟩ := h
  exact k x1 h
theorem ex2 {a1 : Sort _} {a2 : Sort _} {P : a1 → a2 → Prop} {G : Prop} (h : ∃ x1 x2, P x1 x2) (k : ∀ x1 x2, P x1 x2 → G) : G := by
  obtain ⟨x1, x2, h⟩ := h
  exact k x1 x2 h
theorem ex3 {a1 : Sort _} {a2 : Sort _} {a3 : Sort _} {P : a1 → a2 → a3 → Prop} {G : Prop} (h : ∃ x1 x2 x3, P x1 x2 x3) (k : ∀ x1 x2 x3, P x1 x2 x3 → G) : G := by
  obtain ⟨x1, x2, x3, h⟩ := h
  exact k x1 x2 x3 h
theorem ex4 {a1 : Sort _} {a2 : Sort _} {a3 : Sort _} {a4 : Sort _} {P : a1 → a2 → a3 → a4 → Prop} {G : Prop} (h : ∃ x1 x2 x3 x4, P x1 x2 x3 x4) (k : ∀ x1 x2 x3 x4, P x1 x2 x3 x4 → G) : G := by
  obtain ⟨x1, x2, x3, x4, h⟩ := h
  exact k x1 x2 x3 x4 h
theorem ex5 {a1 : Sort _} {a2 : Sort _} {a3 : Sort _} {a4 : Sort _} {a5 : Sort _} {P : a1 → a2 → a3 → a4 → a5 → Prop} {G : Prop} (h : ∃ x1 x2 x3 x4 x5, P x1 x2 x3 x4 x5) (k : ∀ x1 x2 x3 x4 x5, P x1 x2 x3 x4 x5 → G) : G := by
  obtain ⟨x1, x2, x3, x4, x5, h⟩ := h
  exact k x1 x2 x3 x4 x5 h
theorem ex6 {a1 : Sort _} {a2 : Sort _} {a3 : Sort _} {a4 : Sort _} {a5 : Sort _} {a6 : Sort _} {P : a1 → a2 → a3 → a4 → a5 → a6 → Prop} {G : Prop} (h : ∃ x1 x2 x3 x4 x5 x6, P x1 x2 x3 x4 x5 x6) (k : ∀ x1 x2 x3 x4 x5 x6, P x1 x2 x3 x4 x5 x6 → G) : G := by
  obtain ⟨x1, x2, x3, x4, x5, x6, h⟩ := h
  exact k x1 x2 x3 x4 x5 x6 h
theorem ex7 {a1 : Sort _} {a2 : Sort _} {a3 : Sort _} {a4 : Sort _} {a5 : Sort _} {a6 : Sort _} {a7 : Sort _} {P : a1 → a2 → a3 → a4 → a5 → a6 → a7 → Prop} {G : Prop} (h : ∃ x1 x2 x3 x4 x5 x6 x7, P x1 x2 x3 x4 x5 x6 x7) (k : ∀ x1 x2 x3 x4 x5 x6 x7, P x1 x2 x3 x4 x5 x6 x7 → G) : G := by
  obtain ⟨x1, x2, x3, x4, x5, x6, x7, h⟩ := h
  exact k x1 x2 x3 x4 x5 x6 x7 h
theorem ex8 {a1 : Sort _} {a2 : Sort _} {a3 : Sort _} {a4 : Sort _} {a5 : Sort _} {a6 : Sort _} {a7 : Sort _} {a8 : Sort _} {P : a1 → a2 → a3 → a4 → a5 → a6 → a7 → a8 → Prop} {G : Prop} (h : ∃ x1 x2 x3 x4 x5 x6 x7 x8, P x1 x2 x3 x4 x5 x6 x7 x8) (k : ∀ x1 x2 x3 x4 x5 x6 x7 x8, P x1 x2 x3 x4 x5 x6 x7 x8 → G) : G := by
  obtain ⟨x1, x2, x3, x4, x5, x6, x7, x8, h⟩ := h
  exact k x1 x2 x3 x4 x5 x6 x7 x8 h
theorem ex11 {a1 : Sort _} {a2 : Sort _} {a3 : Sort _} {a4 : Sort _} {a5 : Sort _} {a6 : Sort _} {a7 : Sort _} {a8 : Sort _} {a9 : Sort _} {a10 : Sort _} {a11 : Sort _} {P : a1 → a2 → a3 → a4 → a5 → a6 → a7 → a8 → a9 → a10 → a11 → Prop} {G : Prop} (h : ∃ x1 x2 x3 x4 x5 x6 x7 x8 x9 x10 x11, P x1 x2 x3 x4 x5 x6 x7 x8 x9 x10 x11) (k : ∀ x1 x2 x3 x4 x5 x6 x7 x8 x9 x10 x11, P x1 x2 x3 x4 x5 x6 x7 x8 x9 x10 x11 → G) : G := by
  obtain ⟨x1, x2, x3, x4, x5, x6, x7, x8, x9, x10, x11, h⟩ := h
  exact k x1 x2 x3 x4 x5 x6 x7 x8 x9 x10 x11 h
theorem ex15 {a1 : Sort _} {a2 : Sort _} {a3 : Sort _} {a4 : Sort _} {a5 : Sort _} {a6 : Sort _} {a7 : Sort _} {a8 : Sort _} {a9 : Sort _} {a10 : Sort _} {a11 : Sort _} {a12 : Sort _} {a13 : Sort _} {a14 : Sort _} {a15 : Sort _} {P : a1 → a2 → a3 → a4 → a5 → a6 → a7 → a8 → a9 → a10 → a11 → a12 → a13 → a14 → a15 → Prop} {G : Prop} (h : ∃ x1 x2 x3 x4 x5 x6 x7 x8 x9 x10 x11 x12 x13 x14 x15, P x1 x2 x3 x4 x5 x6 x7 x8 x9 x10 x11 x12 x13 x14 x15) (k : ∀ x1 x2 x3 x4 x5 x6 x7 x8 x9 x10 x11 x12 x13 x14 x15, P x1 x2 x3 x4 x5 x6 x7 x8 x9 x10 x11 x12 x13 x14 x15 → G) : G := by
  obtain ⟨x1, x2, x3, x4, x5, x6, x7, x8, x9, x10, x11, x12, x13, x14, x15, h⟩ := h
  exact k x1 x2 x3 x4 x5 x6 x7 x8 x9 x10 x11 x12 x13 x14 x15 h
theorem bPP {p0 p1 : Prop} {G : Prop} (h : p0 ∧ p1) (k : p0 → p1 → G) : G := by
  obtain ⟨h0, h1⟩ := h
  exact k h0 h1
theorem bPPP {p0 p1 p2 : Prop} {G : Prop} (h : p0 ∧ p1 ∧ p2) (k : p0 → p1 → p2 → G) : G := by
  obtain ⟨h0, h1, h2⟩ := h
  exact k h0 h1 h2
theorem bPPPP {p0 p1 p2 p3 : Prop} {G : Prop} (h : p0 ∧ p1 ∧ p2 ∧ p3) (k : p0 → p1 → p2 → p3 → G) : G := by
  obtain ⟨h0, h1, h2, h3⟩ := h
  exact k h0 h1 h2 h3
theorem bPPPPP {p0 p1 p2 p3 p4 : Prop} {G : Prop} (h : p0 ∧ p1 ∧ p2 ∧ p3 ∧ p4) (k : p0 → p1 → p2 → p3 → p4 → G) : G := by
  obtain ⟨h0, h1, h2, h3, h4⟩ := h
  exact k h0 h1 h2 h3 h4
theorem bPPPPPP {p0 p1 p2 p3 p4 p5 : Prop} {G : Prop} (h : p0 ∧ p1 ∧ p2 ∧ p3 ∧ p4 ∧ p5) (k : p0 → p1 → p2 → p3 → p4 → p5 → G) : G := by
  obtain ⟨h0, h1, h2, h3, h4, h5⟩ := h
  exact k h0 h1 h2 h3 h4 h5
theorem bPPPPPPP {p0 p1 p2 p3 p4 p5 p6 : Prop} {G : Prop} (h : p0 ∧ p1 ∧ p2 ∧ p3 ∧ p4 ∧ p5 ∧ p6) (k : p0 → p1 → p2 → p3 → p4 → p5 → p6 → G) : G := by
  obtain ⟨h0, h1, h2, h3, h4, h5, h6⟩ := h
  exact k h0 h1 h2 h3 h4 h5 h6
theorem bPPPPPPPP {p0 p1 p2 p3 p4 p5 p6 p7 : Prop} {G : Prop} (h : p0 ∧ p1 ∧ p2 ∧ p3 ∧ p4 ∧ p5 ∧ p6 ∧ p7) (k : p0 → p1 → p2 → p3 → p4 → p5 → p6 → p7 → G) : G := by
  obtain ⟨h0, h1, h2, h3, h4, h5, h6, h7⟩ := h
  exact k h0 h1 h2 h3 h4 h5 h6 h7
theorem bPPPPPPPPP {p0 p1 p2 p3 p4 p5 p6 p7 p8 : Prop} {G : Prop} (h : p0 ∧ p1 ∧ p2 ∧ p3 ∧ p4 ∧ p5 ∧ p6 ∧ p7 ∧ p8) (k : p0 → p1 → p2 → p3 → p4 → p5 → p6 → p7 → p8 → G) : G := by
  obtain ⟨h0, h1, h2, h3, h4, h5, h6, h7, h8⟩ := h
  exact k h0 h1 h2 h3 h4 h5 h6 h7 h8
@[elab_as_elim] theorem bPPPPRP {Y4 : Sort _} {y4 t4 : Y4} {p0 p1 p2 p3 p5 : Prop} {G : Y4 → Prop} (h : p0 ∧ p1 ∧ p2 ∧ p3 ∧ y4 = t4 ∧ p5) (k : p0 → p1 → p2 → p3 → p5 → G t4) : G y4 := by
  obtain ⟨h0, h1, h2, h3, rfl, h5⟩ := h
  exact k h0 h1 h2 h3 h5
@[elab_as_elim] theorem bPPPPRPPPPPP {Y4 : Sort _} {y4 t4 : Y4} {p0 p1 p2 p3 p5 p6 p7 p8 p9 p10 : Prop} {G : Y4 → Prop} (h : p0 ∧ p1 ∧ p2 ∧ p3 ∧ y4 = t4 ∧ p5 ∧ p6 ∧ p7 ∧ p8 ∧ p9 ∧ p10) (k : p0 → p1 → p2 → p3 → p5 → p6 → p7 → p8 → p9 → p10 → G t4) : G y4 := by
  obtain ⟨h0, h1, h2, h3, rfl, h5, h6, h7, h8, h9, h10⟩ := h
  exact k h0 h1 h2 h3 h5 h6 h7 h8 h9 h10
@[elab_as_elim] theorem bPPPPRPPPPPPP {Y4 : Sort _} {y4 t4 : Y4} {p0 p1 p2 p3 p5 p6 p7 p8 p9 p10 p11 : Prop} {G : Y4 → Prop} (h : p0 ∧ p1 ∧ p2 ∧ p3 ∧ y4 = t4 ∧ p5 ∧ p6 ∧ p7 ∧ p8 ∧ p9 ∧ p10 ∧ p11) (k : p0 → p1 → p2 → p3 → p5 → p6 → p7 → p8 → p9 → p10 → p11 → G t4) : G y4 := by
  obtain ⟨h0, h1, h2, h3, rfl, h5, h6, h7, h8, h9, h10, h11⟩ := h
  exact k h0 h1 h2 h3 h5 h6 h7 h8 h9 h10 h11
@[elab_as_elim] theorem bPPRPP {Y2 : Sort _} {y2 t2 : Y2} {p0 p1 p3 p4 : Prop} {G : Y2 → Prop} (h : p0 ∧ p1 ∧ y2 = t2 ∧ p3 ∧ p4) (k : p0 → p1 → p3 → p4 → G t2) : G y2 := by
  obtain ⟨h0, h1, rfl, h3, h4⟩ := h
  exact k h0 h1 h3 h4
@[elab_as_elim] theorem bPPRPPPP {Y2 : Sort _} {y2 t2 : Y2} {p0 p1 p3 p4 p5 p6 : Prop} {G : Y2 → Prop} (h : p0 ∧ p1 ∧ y2 = t2 ∧ p3 ∧ p4 ∧ p5 ∧ p6) (k : p0 → p1 → p3 → p4 → p5 → p6 → G t2) : G y2 := by
  obtain ⟨h0, h1, rfl, h3, h4, h5, h6⟩ := h
  exact k h0 h1 h3 h4 h5 h6
@[elab_as_elim] theorem bR {Y0 : Sort _} {y0 t0 : Y0} {G : Y0 → Prop} (h : y0 = t0) (k : G t0) : G y0 := by
  obtain ⟨rfl⟩ := h
  exact k
@[elab_as_elim] theorem bRP {Y0 : Sort _} {y0 t0 : Y0} {p1 : Prop} {G : Y0 → Prop} (h : y0 = t0 ∧ p1) (k : p1 → G t0) : G y0 := by
  obtain ⟨rfl, h1⟩ := h
  exact k h1
@[elab_as_elim] theorem bRPPPP {Y0 : Sort _} {y0 t0 : Y0} {p1 p2 p3 p4 : Prop} {G : Y0 → Prop} (h : y0 = t0 ∧ p1 ∧ p2 ∧ p3 ∧ p4) (k : p1 → p2 → p3 → p4 → G t0) : G y0 := by
  obtain ⟨rfl, h1, h2, h3, h4⟩ := h
  exact k h1 h2 h3 h4
@[elab_as_elim] theorem bRPPPPPPPPP {Y0 : Sort _} {y0 t0 : Y0} {p1 p2 p3 p4 p5 p6 p7 p8 p9 : Prop} {G : Y0 → Prop} (h : y0 = t0 ∧ p1 ∧ p2 ∧ p3 ∧ p4 ∧ p5 ∧ p6 ∧ p7 ∧ p8 ∧ p9) (k : p1 → p2 → p3 → p4 → p5 → p6 → p7 → p8 → p9 → G t0) : G y0 := by
  obtain ⟨rfl, h1, h2, h3, h4, h5, h6, h7, h8, h9⟩ := h
  exact k h1 h2 h3 h4 h5 h6 h7 h8 h9
@[elab_as_elim] theorem bRPPPPPPPPPPP {Y0 : Sort _} {y0 t0 : Y0} {p1 p2 p3 p4 p5 p6 p7 p8 p9 p10 p11 : Prop} {G : Y0 → Prop} (h : y0 = t0 ∧ p1 ∧ p2 ∧ p3 ∧ p4 ∧ p5 ∧ p6 ∧ p7 ∧ p8 ∧ p9 ∧ p10 ∧ p11) (k : p1 → p2 → p3 → p4 → p5 → p6 → p7 → p8 → p9 → p10 → p11 → G t0) : G y0 := by
  obtain ⟨rfl, h1, h2, h3, h4, h5, h6, h7, h8, h9, h10, h11⟩ := h
  exact k h1 h2 h3 h4 h5 h6 h7 h8 h9 h10 h11
@[elab_as_elim] theorem bRPPR {Y0 : Sort _} {y0 t0 : Y0} {Y3 : Sort _} {y3 t3 : Y3} {p1 p2 : Prop} {G : Y0 → Y3 → Prop} (h : y0 = t0 ∧ p1 ∧ p2 ∧ y3 = t3) (k : p1 → p2 → G t0 t3) : G y0 y3 := by
  obtain ⟨rfl, h1, h2, rfl⟩ := h
  exact k h1 h2
@[elab_as_elim] theorem bRPRPPPP {Y0 : Sort _} {y0 t0 : Y0} {Y2 : Sort _} {y2 t2 : Y2} {p1 p3 p4 p5 p6 : Prop} {G : Y0 → Y2 → Prop} (h : y0 = t0 ∧ p1 ∧ y2 = t2 ∧ p3 ∧ p4 ∧ p5 ∧ p6) (k : p1 → p3 → p4 → p5 → p6 → G t0 t2) : G y0 y2 := by
  obtain ⟨rfl, h1, rfl, h3, h4, h5, h6⟩ := h
  exact k h1 h3 h4 h5 h6
@[elab_as_elim] theorem bRPRPPPPP {Y0 : Sort _} {y0 t0 : Y0} {Y2 : Sort _} {y2 t2 : Y2} {p1 p3 p4 p5 p6 p7 : Prop} {G : Y0 → Y2 → Prop} (h : y0 = t0 ∧ p1 ∧ y2 = t2 ∧ p3 ∧ p4 ∧ p5 ∧ p6 ∧ p7) (k : p1 → p3 → p4 → p5 → p6 → p7 → G t0 t2) : G y0 y2 := by
  obtain ⟨rfl, h1, rfl, h3, h4, h5, h6, h7⟩ := h
  exact k h1 h3 h4 h5 h6 h7
@[elab_as_elim] theorem bRR {Y0 : Sort _} {y0 t0 : Y0} {Y1 : Sort _} {y1 t1 : Y1} {G : Y0 → Y1 → Prop} (h : y0 = t0 ∧ y1 = t1) (k : G t0 t1) : G y0 y1 := by
  obtain ⟨rfl, rfl⟩ := h
  exact k
@[elab_as_elim] theorem bRRP {Y0 : Sort _} {y0 t0 : Y0} {Y1 : Sort _} {y1 t1 : Y1} {p2 : Prop} {G : Y0 → Y1 → Prop} (h : y0 = t0 ∧ y1 = t1 ∧ p2) (k : p2 → G t0 t1) : G y0 y1 := by
  obtain ⟨rfl, rfl, h2⟩ := h
  exact k h2
@[elab_as_elim] theorem bRRPP {Y0 : Sort _} {y0 t0 : Y0} {Y1 : Sort _} {y1 t1 : Y1} {p2 p3 : Prop} {G : Y0 → Y1 → Prop} (h : y0 = t0 ∧ y1 = t1 ∧ p2 ∧ p3) (k : p2 → p3 → G t0 t1) : G y0 y1 := by
  obtain ⟨rfl, rfl, h2, h3⟩ := h
  exact k h2 h3
@[elab_as_elim] theorem bRRPPPP {Y0 : Sort _} {y0 t0 : Y0} {Y1 : Sort _} {y1 t1 : Y1} {p2 p3 p4 p5 : Prop} {G : Y0 → Y1 → Prop} (h : y0 = t0 ∧ y1 = t1 ∧ p2 ∧ p3 ∧ p4 ∧ p5) (k : p2 → p3 → p4 → p5 → G t0 t1) : G y0 y1 := by
  obtain ⟨rfl, rfl, h2, h3, h4, h5⟩ := h
  exact k h2 h3 h4 h5
@[elab_as_elim] theorem bRRPPPPPPP {Y0 : Sort _} {y0 t0 : Y0} {Y1 : Sort _} {y1 t1 : Y1} {p2 p3 p4 p5 p6 p7 p8 : Prop} {G : Y0 → Y1 → Prop} (h : y0 = t0 ∧ y1 = t1 ∧ p2 ∧ p3 ∧ p4 ∧ p5 ∧ p6 ∧ p7 ∧ p8) (k : p2 → p3 → p4 → p5 → p6 → p7 → p8 → G t0 t1) : G y0 y1 := by
  obtain ⟨rfl, rfl, h2, h3, h4, h5, h6, h7, h8⟩ := h
  exact k h2 h3 h4 h5 h6 h7 h8
@[elab_as_elim] theorem bRRPPPPPPPPP {Y0 : Sort _} {y0 t0 : Y0} {Y1 : Sort _} {y1 t1 : Y1} {p2 p3 p4 p5 p6 p7 p8 p9 p10 : Prop} {G : Y0 → Y1 → Prop} (h : y0 = t0 ∧ y1 = t1 ∧ p2 ∧ p3 ∧ p4 ∧ p5 ∧ p6 ∧ p7 ∧ p8 ∧ p9 ∧ p10) (k : p2 → p3 → p4 → p5 → p6 → p7 → p8 → p9 → p10 → G t0 t1) : G y0 y1 := by
  obtain ⟨rfl, rfl, h2, h3, h4, h5, h6, h7, h8, h9, h10⟩ := h
  exact k h2 h3 h4 h5 h6 h7 h8 h9 h10
end Mine
-- part Om
section
namespace Mine
theorem om_five {v : Int} (a : 0 ≤ v) (b : v < 5) : v = 0 ∨ v = 1 ∨ v = 2 ∨ v = 3 ∨ v = 4 := by
  obtain ⟨n, rfl⟩ := Int.eq_ofNat_of_zero_le a
  exact (by decide : ∀ n : Nat, n < 5 → (n : Int) = 0 ∨ (n : Int) = 1 ∨ (n : Int) = 2 ∨ (n : Int) = 3 ∨ (n : Int) = 4) n (Int.ofNat_lt.mp b)
theorem om_k3 {i many j wide : Nat} {k k3 : Int} (a : i < many) (b : many ≤ 4) (c : k ≤ 4 + 3 * (i : Int)) (d : j < wide) (e : wide ≤ 3) (f : k3 ≤ k + (j : Int)) : k3 < 1000 :=
  Int.lt_of_le_of_lt (Int.le_trans f (Int.add_le_add (Int.le_trans c (Int.add_le_add_left (Int.mul_le_mul_of_nonneg_left (Int.ofNat_le.mpr (Nat.le_trans (Nat.le_of_lt a) b)) (by decide)) 4)) (Int.ofNat_le.mpr (Nat.le_trans (Nat.le_of_lt d) e)))) (by decide)
theorem om_k4 {i wide : Nat} {k k3 : Int} (c : k ≤ 4 + 3 * (i : Int)) (e : wide ≤ 3) (f : k3 ≤ k + (wide : Int)) : k3 ≤ 4 + 3 * ((i + 1 : Nat) : Int) :=
  Int.le_trans f (Int.le_trans (Int.add_le_add c (Int.ofNat_le.mpr e)) (Int.le_of_eq (by rw [Int.add_assoc]; rfl)))
theorem om_k5 {j : Nat} {k k3 : Int} (f : k3 ≤ k + (j : Int)) : k3 + 1 ≤ k + ((j + 1 : Nat) : Int) :=
  Int.le_trans (Int.add_le_add_right f 1) (Int.le_of_eq (Int.add_assoc k j 1))
theorem om_len {a b c : Nat} (h : a = b + (c + 1)) (e : a ≤ 4) : b ≤ 4 := Nat.le_trans (h ▸ Nat.le_add_right b (c + 1)) e
theorem om_hs {a b c d : Nat} (h : a + (b + 1) ≤ c + 3) (e : c + 10 * (d + 1) ≤ 100) : a < 1000 :=
  Nat.lt_of_le_of_lt (Nat.le_trans (Nat.le_trans (Nat.le_add_right a _) h) (Nat.add_le_add_right (Nat.le_trans (Nat.le_add_right c _) e) 3)) (by decide)
theorem om_add {a : Int} (h : 1 ≤ a) : 1 ≤ a + 1 := Int.le_trans h (Int.le_add_of_nonneg_right (by decide))
theorem om_1p {v : Int} (h : 0 ≤ v) : 0 ≤ 1 + v := Int.add_nonneg (by decide) h
theorem om_k0 (k : Int) : k ≤ k + ((0 : Nat) : Int) := Int.le_of_eq (Int.add_zero k).symm
theorem om_up {a b : Int} (h : a ≤ b) : a ≤ b + 1 := Int.le_trans h (Int.le_add_of_nonneg_right (by decide))
theorem om_4 {a b : Int} (h : 4 ≤ a) (e : a ≤ b) : 0 ≤ b := Int.le_trans (Int.le_trans (by decide) h) e
theorem om_la {a b : Int} (h : -2 ≤ a) (e : 0 ≤ b) : -2 ≤ a + b := Int.le_trans h (Int.le_add_of_nonneg_right e)
theorem om_lb {a b : Int} {w : Nat} (h : a ≤ 3) (e : b < (w : Int)) (f : w ≤ 3) : a + b ≤ 5 := Int.add_le_add (d := 2) h (Int.lt_add_one_iff.mp (Int.lt_of_lt_of_le e (Int.ofNat_le.mpr f)))
theorem om_push {a b c : Nat} (h : a + (b + 1) ≤ c) : a + 1 + b ≤ c := by rw [Nat.add_assoc, Nat.add_comm 1 b]; exact h
theorem om_sz {a c d : Nat} (h : a + 0 ≤ c + 3) (e : c + 10 * (d + 1) ≤ 100) : a + 10 * d ≤ 100 :=
  Nat.le_trans (Nat.add_le_add_right h (10 * d)) (Nat.le_trans (Nat.le_trans (Nat.le_of_eq (Nat.add_assoc c 3 (10 * d))) (Nat.add_le_add_left (Nat.le_trans (Nat.le_of_eq (Nat.add_comm 3 (10 * d))) (Nat.add_le_add_left (by decide) (10 * d))) c)) e)
theorem om_m0 {v : Int} {n : Nat} (h : 1 + v = (n : Int)) (a : 0 ≤ v) : 1 ≤ n := Int.ofNat_le.mp (h ▸ (Int.le_add_of_nonneg_right a : (1 : Int) ≤ 1 + v))
theorem om_m1 {v : Int} {n k : Nat} (h : 1 + v = (n : Int)) (b : v < (k : Int)) : n ≤ k := Int.ofNat_le.mp (h ▸ (Int.add_comm v 1 ▸ b : 1 + v ≤ (k : Int)))
theorem om_v0 {v : Int} (a : 0 ≤ v) : -2 ≤ v - 2 := Int.sub_le_sub_right a 2
theorem om_v1 {v : Int} (a : v < 6) : v - 2 ≤ 3 := Int.sub_le_sub_right (b := 5) (Int.lt_add_one_iff.mp a) 2
theorem om_eq {a b v : Int} {n : Nat} (h : 1 + v = (n : Int)) : a + (1 + v) - b = a + (n : Int) - b := h ▸ rfl
theorem om_c {z : Int} {c w : Nat} (h : z = (c : Int)) (e : z < (w : Int)) : c < w := Int.ofNat_lt.mp (h ▸ e)
theorem om_ln {a b : Nat} (h : a = b) (e : b ≤ 3) : a < 1000 := h ▸ Nat.lt_of_le_of_lt e (by decide)
theorem om_l4 {a b : Nat} (h : a = b) (e : b ≤ 4) : a < 1000 := h ▸ Nat.lt_of_le_of_lt e (by decide)
theorem om_ne {a b : Nat} (h : a = b) (e : 1 ≤ b) : a ≠ 0 := h ▸ Nat.ne_of_gt e
theorem om_cs {c w : Nat} (h : c < w) (e : w ≤ 3) : c < 100 := Nat.lt_of_lt_of_le h (Nat.le_trans e (by decide))
theorem om_m4 {n : Nat} (a : 1 ≤ n) (b : n ≤ 4) : (n : Int) ∈ [(1 : Int), 2, 3, 4] :=
  (by decide : ∀ k : Nat, k < 5 → 1 ≤ k → (k : Int) ∈ [(1 : Int), 2, 3, 4]) n (Nat.lt_succ_of_le b) a
theorem om_m3 {n : Nat} (a : 1 ≤ n) (b : n ≤ 3) : (n : Int) - 1 ∈ [(0 : Int), 1, 2] :=
  (by decide : ∀ k : Nat, k < 4 → 1 ≤ k → (k : Int) - 1 ∈ [(0 : Int), 1, 2]) n (Nat.lt_succ_of_le b) a
theorem om_two {z : Int} {m : Nat} (a : -2 ≤ z) (b : z + 2 < (m : Int)) : ∃ n : Nat, n < m ∧ z = (n : Int) - 2 := by
  obtain ⟨n, hn⟩ := Int.eq_ofNat_of_zero_le (Int.add_le_add_right a 2 : (-2 + 2 : Int) ≤ z + 2)
  exact ⟨n, Int.ofNat_lt.mp (hn ▸ b), by rw [← hn, Int.add_sub_cancel]⟩
theorem om_m6 {z : Int} (a : -2 ≤ z) (b : z ≤ 3) : z ∈ [(-2 : Int), -1, 0, 1, 2, 3] := by
  obtain ⟨n, hn, rfl⟩ := om_two (m := 6) a (Int.lt_of_le_of_lt (Int.add_le_add_right b 2) (by decide))
  exact (by decide : ∀ k : Nat, k < 6 → (k : Int) - 2 ∈ [(-2 : Int), -1, 0, 1, 2, 3]) n hn
theorem om_8 {z : Int} (a : -2 ≤ z) (b : z ≤ 5) : z = -2 ∨ z = -1 ∨ z = 0 ∨ z = 1 ∨ z = 2 ∨ z = 3 ∨ z = 4 ∨ z = 5 := by
  obtain ⟨n, hn, rfl⟩ := om_two (m := 8) a (Int.lt_of_le_of_lt (Int.add_le_add_right b 2) (by decide))
  exact (by decide : ∀ k : Nat, k < 8 → (k : Int) - 2 = -2 ∨ (k : Int) - 2 = -1 ∨ (k : Int) - 2 = 0 ∨ (k : Int) - 2 = 1 ∨ (k : Int) - 2 = 2 ∨ (k : Int) - 2 = 3 ∨ (k : Int) - 2 = 4 ∨ (k : Int) - 2 = 5) n hn
theorem om_n2 (n : Nat) : (-2 : Int) ≤ n := Int.le_trans (by decide) (Int.natCast_nonneg n)
theorem om_n5 {n : Nat} (h : n ≤ 4) : (n : Int) ≤ 5 := Int.ofNat_le.mpr (Nat.le_trans h (by decide))
theorem om_lw {a : Int} {w : Nat} (h : 1 ≤ w) : a ≤ a + w - 1 := by
  rw [Int.add_sub_assoc]; exact Int.le_add_of_nonneg_right (Int.sub_nonneg_of_le (Int.ofNat_le.mpr h))
theorem om_hi {a : Int} {w : Nat} (h : a ≤ 3) (e : w ≤ 3) : a + (w : Int) - 1 ≤ 5 := Int.sub_le_sub_right (Int.add_le_add h (Int.ofNat_le.mpr e)) 1
theorem om_s1 {n : Nat} (h : n ≤ 4) : (0 : Int) ≤ (n : Int) - 1 + 1 ∧ (n : Int) - 1 + 1 < 100 := by
  rw [Int.sub_add_cancel]; exact ⟨Int.natCast_nonneg n, Int.ofNat_lt.mpr (Nat.lt_of_le_of_lt h (by decide))⟩
theorem om_w (a w : Int) : a + w - 1 - a + 1 = w := by
  rw [Int.add_sub_assoc, Int.add_comm a, Int.add_sub_cancel, Int.sub_add_cancel]
theorem om_s2 {a : Int} {w : Nat} (h : w ≤ 3) : (0 : Int) ≤ a + w - 1 - a + 1 ∧ a + w - 1 - a + 1 < 100 := by
  rw [om_w]; exact ⟨Int.natCast_nonneg w, Int.ofNat_lt.mpr (Nat.lt_of_le_of_lt h (by decide))⟩
theorem om_p1 (n : Int) : 1 * (n - 1 + 1) = n := by rw [Int.one_mul, Int.sub_add_cancel]
theorem om_len3 {a b c k : Nat} (h : a = b + (c + 1)) (e : a < k) : b < k := Nat.lt_of_le_of_lt (h ▸ Nat.le_add_right b (c + 1)) e
theorem om_pred (n : Nat) : (((n + 1 : Nat) : Int) - 1).toNat = n := by
  show ((n : Int) + 1 - 1).toNat = n
  rw [Int.add_sub_cancel]; exact Int.toNat_natCast n
theorem om_pred2 (n : Nat) : (((n + 1 : Nat) : Int) - 1) = n := Int.add_sub_cancel (n : Int) 1
theorem om_62 {n : Nat} (h : n < 1000) : n < 2 ^ 62 := Nat.lt_trans h (by decide)
end Mine
end
-- part Lp
section
open PySem PySem.W PyProof.Rows PySem.Spec PySem.Calls
set_option Elab.async false
set_option maxRecDepth 100000
namespace Mine
section
variable {prog : PySem.Program} {w : PySem.World} {A : Around} {E : Value → Shared → Prop} {s : Shared} {env : Env} {h₀ : Heap} {target : PySem.Expr} {body : List PySem.Stmt} {Q : PySem.Flow → Shared → Prop}
def ForEnd (h₀ : Heap) (L : Addr) (s₁ : Shared) (I : Addr) (oI : Obj) (kp : Addr × Obj) (Jr : (PySem.Str → Option Value) → Led → Prop) (s₂ : Shared) : Prop :=
  ∃ h' tk m' news', s₂ = { s₁ with heap := h', toks := tk } ∧ Fr h₀ L h' m' ∧ News h₀ L h' ((I, oI) :: news') ∧ (∀ p ∈ news', p.1 ≠ I) ∧ kp ∈ news' ∧ Jr m' news'
def ForPost (h₀ : Heap) (L : Addr) (s₁ : Shared) (I : Addr) (oI : Obj) (kp : Addr × Obj) (Jr : (PySem.Str → Option Value) → Led → Prop) (Q : PySem.Flow → Shared → Prop) (f : PySem.Flow) (s₂ : Shared) : Prop :=
  match f with
  | .ret v => Q (.ret v) s₂
  | .brk => Q .next s₂
  | _ => ForEnd h₀ L s₁ I oI kp Jr s₂
theorem ForEnd.intro {L : Addr} {s₁ : Shared} {I : Addr} {oI : Obj} {kp : Addr × Obj} {Jr : (PySem.Str → Option Value) → Led → Prop} {h' : Heap} {tk : Nat} {m' : PySem.Str → Option Value} {all : Led}
    (F : Fr h₀ L h' m') (N : News h₀ L h' all) (news' : Led) (hs : ∀ p ∈ (I, oI) :: news', p ∈ all) (hI : ∀ p ∈ news', p.1 ≠ I) (hk : kp ∈ news') (hj : Jr m' news') :
    ForEnd h₀ L s₁ I oI kp Jr { s₁ with heap := h', toks := tk } := ⟨h', tk, m', news', rfl, F, fun p hp => N p (hs p hp), hI, hk, hj⟩
theorem for_list {ax : Addr} {vs : List Value} {n : Nat} {m : PySem.Str → Option Value} {news : Led} (J : Addr → List Value → (PySem.Str → Option Value) → Led → Prop)
    (hh : A.handled = none) (F : Fr h₀ env.locals s.heap m) (N : News h₀ env.locals s.heap news) (hm : (ax, listOf vs.toArray n) ∈ news)
    (h0 : ∀ I : Addr, (∀ p ∈ news, p.1 < I) → J I vs m news)
    (step : ∀ I oI v r m₁ news₁ h tk (K : PySem.Flow → Shared → Prop), (∀ {h' : Heap} {tk' : Tok} {m' : PySem.Str → Option Value} {all : Led}, Fr h₀ env.locals h' m' → News h₀ env.locals h' all → ∀ news' : Led, (∀ p ∈ (I, oI) :: news', p ∈ all) → (∀ p ∈ news', p.1 ≠ I) → (ax, listOf vs.toArray n) ∈ news' → J I r m' news' → K .next { s with heap := h', toks := tk' }) →
      J I (v :: r) m₁ news₁ → (ax, listOf vs.toArray n) ∈ news₁ → (∀ p ∈ news₁, p.1 ≠ I) → Fr h₀ env.locals h m₁ → News h₀ env.locals h ((I, oI) :: news₁) →
      wpAny (model prog w) A (assign target env v) (fun _ s₂ => wpAny (model prog w) A (execs body env) K E s₂) E { s with heap := h, toks := tk })
    (done : ∀ I m₁ news₁ h tk, J I [] m₁ news₁ → Fr h₀ env.locals h m₁ → News h₀ env.locals h news₁ → Q .next { s with heap := h, toks := tk }) :
    wpAny (model prog w) A (pyIter (.ref ax)) (fun it s₂ => TurnsAt prog w A h₀ env target body Q E it s₂) E s := by
  refine iter_listTurns hh F N hm rfl rfl fun I hI => ?_
  have main : ∀ (r : List Value) (m₁ : PySem.Str → Option Value) (news₁ : Led), J I r m₁ news₁ → (ax, listOf vs.toArray n) ∈ news₁ → (∀ p ∈ news₁, p.1 ≠ I) →
      ItemsRest prog w A E h₀ env target body Q s [(I, "list_iterator")] [(ax, listOf vs.toArray n)] (r.map .val) m₁ news₁ := by
    intro r
    induction r with
    | nil => intro m₁ news₁ hj _ _; exact ItemsRest.zero fun h tk F N => done I m₁ news₁ h tk hj F N
    | cons v r ih =>
      intro m₁ news₁ hj hk hI'
      refine ItemsRest.val fun h tk F₁ => AllObj.cons fun o ho => AllObj.nil fun N₁ => ?_
      refine wpAny_mono (step I o v r m₁ news₁ h tk (ForPost h₀ env.locals { s with heap := h, toks := tk } I o (ax, listOf vs.toArray n) (J I r) Q) (fun F N news' a b c d => ForEnd.intro F N news' a b c d) hj hk hI' F₁ N₁) (fun _ s₂ h₂ => wpAny_mono h₂ (fun f s₃ p => ?_) fun _ _ e => e) fun _ _ e => e
      have fin : ForEnd h₀ env.locals { s with heap := h, toks := tk } I o (ax, listOf vs.toArray n) (J I r) s₃ →
          UnrEndW h₀ env.locals { s with heap := h, toks := tk } [(I, o)] (fun m' n' => SubL [(ax, listOf vs.toArray n)] n' ∧ ItemsRest prog w A E h₀ env target body Q s [(I, "list_iterator")] [(ax, listOf vs.toArray n)] (r.map .val) m' n') s₃ := by
        intro hJz
        refine ex4 hJz ?_
        clear hJz
        intro h' tk' m' news' hJz
        refine bPPPPPP hJz ?_
        clear hJz
        intro e F' N' hI'' hk' hj'
        exact ⟨h', tk', m', news', e, F', N', fun p hp q hq => by rw [List.mem_singleton.mp hq]; exact hI'' p hp, ⟨hk', trivial⟩, ih m' news' hj' hk' hI''⟩
      cases f with
      | ret v => exact p
      | brk => exact p
      | next => exact fin p
      | cont => exact fin p
  exact main vs m news (h0 I hI) hm (fun p hp => Nat.ne_of_lt (hI p hp))
def OutP (h₀ : Heap) (L : Addr) (s : Shared) (P : (PySem.Str → Option Value) → Led → Prop) (s' : Shared) : Prop :=
  ∃ h tk m news, s' = { s with heap := h, toks := tk } ∧ Fr h₀ L h m ∧ News h₀ L h news ∧ P m news
theorem OutP.intro {L : Addr} {P : (PySem.Str → Option Value) → Led → Prop} {h : Heap} {tk : Nat} {m : PySem.Str → Option Value} {news : Led} (F : Fr h₀ L h m) (N : News h₀ L h news) (hp : P m news) : OutP h₀ L s P { s with heap := h, toks := tk } :=
  ⟨h, tk, m, news, rfl, F, N, hp⟩
theorem while_cut {L : Addr} {test : PySem.Expr} {pos : PySem.Pos} {m : PySem.Str → Option Value} {news : Led} (J : Nat → (PySem.Str → Option Value) → Led → Prop) (P : (PySem.Str → Option Value) → Led → Prop) {n₀ : Nat}
    (F : Fr h₀ L s.heap m) (N : News h₀ L s.heap news) (hJ : J n₀ m news)
    (turn : ∀ n m₁ news₁ h₁ tk₁ (K : PySem.Flow → Shared → Prop) (K' : Shared → Prop), (∀ {h : Heap} {tk : Tok} {m : PySem.Str → Option Value} {news : Led}, Fr h₀ L h m → News h₀ L h news → P m news → K .brk { s with heap := h, toks := tk }) →
      (∀ {h : Heap} {tk : Tok} {m : PySem.Str → Option Value} {news : Led}, Fr h₀ L h m → News h₀ L h news → ∀ n', n' < n → J n' m news → K .next { s with heap := h, toks := tk }) →
      (∀ {h : Heap} {tk : Tok} {m : PySem.Str → Option Value} {news : Led}, Fr h₀ L h m → News h₀ L h news → P m news → K' { s with heap := h, toks := tk }) →
      Fr h₀ L h₁ m₁ → News h₀ L h₁ news₁ → J n m₁ news₁ →
      wpAny (model prog w) A (PySem.isTrue test env (eval test env)) (fun b s₂ =>
        if b = true then wpAny (model prog w) A (execs body env) K E s₂ else K' s₂) E { s with heap := h₁, toks := tk₁ })
    (post : ∀ m₁ news₁ h₁ tk₁, P m₁ news₁ → Fr h₀ L h₁ m₁ → News h₀ L h₁ news₁ → Q .next { s with heap := h₁, toks := tk₁ })
    (hE : PassesOwn (model prog w) A env E := by passes_own) :
    wpAny (model prog w) A (exec (.While test body [] pos) env) Q E s := by
  refine wpAny_mono (Q := fun f s' => f = .next ∧ OutP h₀ L s P s') (While_inv2 J F N hJ (fun n m₁ news₁ h₁ tk₁ F₁ N₁ J₁ => wpAny_mono (turn n m₁ news₁ h₁ tk₁ (WhileStep2 h₀ L s J (fun f s' => f = .next ∧ OutP h₀ L s P s') n) (OutP h₀ L s P) (fun F N p => ⟨rfl, OutP.intro F N p⟩) (fun F N n' hn j => ⟨_, _, _, _, n', rfl, F, N, hn, j⟩) (fun F N p => OutP.intro F N p) F₁ N₁ J₁) (fun b s₂ h₂ => ?_) fun _ _ e => e) hE) (fun f s' h => ?_) fun _ _ e => e
  · cases b
    · exact ⟨rfl, h₂⟩
    · exact h₂
  · refine bPP h ?_
    intro hEq1 hJz
    subst hEq1
    refine ex4 hJz ?_
    clear hJz
    intro h' tk m' news' hJz
    refine bPPPP hJz ?_
    clear hJz
    intro hEq2 F' N' hp
    subst hEq2
    (try clear h)
    exact post m' news' h' tk hp F' N'
end
def JRef (g : Heap) (L : Addr) (m : PySem.Str → Option Value) (news : Led) (x : PySem.Str) (v : Addr) (s : Shared) : Flow → Shared → Prop :=
  fun fl s' => fl = .next ∧ ∃ h' tk', s' = { s with heap := h', toks := tk' } ∧ Fr g L h' (fun y => if y = x then some (.ref v) else m y) ∧ News g L h' news
def JVal (g : Heap) (L : Addr) (m : PySem.Str → Option Value) (R : Value → Led → Prop) (s : Shared) : Value → Shared → Prop :=
  fun v s' => ∃ n' h' tk', R v n' ∧ s' = { s with heap := h', toks := tk' } ∧ Fr g L h' m ∧ News g L h' n'
theorem cut_ref {M : Model} {A : Around} {E : Value → Shared → Prop} {s : Shared} {st : PySem.Stmt} {rest : List PySem.Stmt} {env : Env} {Q : Flow → Shared → Prop} {g : Heap} {L : Addr} {m : PySem.Str → Option Value} {news : Led} (x : PySem.Str) (v : Addr)
    (_F : Fr g L s.heap m) (_N : News g L s.heap news)
    (ha : wpAny M A (exec st env) (JRef g L m news x v s) E s)
    (hb : ∀ h' tk', Fr g L h' (fun y => if y = x then some (.ref v) else m y) → News g L h' news → wpAny M A (execs rest env) Q E { s with heap := h', toks := tk' }) :
    wpAny M A (execs (st :: rest) env) Q E s :=
  wpAny_execs_cons (wpAny_mono ha (fun fl s' h => by obtain ⟨rfl, h', tk', rfl, F', N'⟩ := h; exact hb h' tk' F' N') fun _ _ z => z)
theorem cut_val {M : Model} {A : Around} {E : Value → Shared → Prop} {s : Shared} {x : Sem Value} {Q : Value → Shared → Prop} {g : Heap} {L : Addr} {m : PySem.Str → Option Value} {news : Led} (R : Value → Led → Prop)
    (_F : Fr g L s.heap m) (_N : News g L s.heap news)
    (ha : wpAny M A x (JVal g L m R s) E s)
    (hb : ∀ v n' h' tk', R v n' → Fr g L h' m → News g L h' n' → Q v { s with heap := h', toks := tk' }) : wpAny M A x Q E s :=
  wpAny_mono ha (fun v s' h => by obtain ⟨n', h', tk', hR, rfl, F', N'⟩ := h; exact hb v n' h' tk' hR F' N') fun _ _ z => z
def JBoo (g : Heap) (L : Addr) (m : PySem.Str → Option Value) (news : Led) (b : Bool) (s : Shared) : Bool → Shared → Prop :=
  fun v s' => v = b ∧ ∃ h' tk', s' = { s with heap := h', toks := tk' } ∧ Fr g L h' m ∧ News g L h' news
theorem cut_boo {M : Model} {A : Around} {E : Value → Shared → Prop} {s : Shared} {x : Sem Bool} {Q : Bool → Shared → Prop} {g : Heap} {L : Addr} {m : PySem.Str → Option Value} {news : Led} (b : Bool) (_F : Fr g L s.heap m) (_N : News g L s.heap news)
    (ha : wpAny M A x (JBoo g L m news b s) E s)
    (hb : ∀ h' tk', Fr g L h' m → News g L h' news → Q b { s with heap := h', toks := tk' }) : wpAny M A x Q E s :=
  wpAny_mono ha (fun v s' h => by obtain ⟨rfl, h', tk', rfl, F', N'⟩ := h; exact hb h' tk' F' N') fun _ _ z => z
/-- what is to be shown behind a step, under a name -/
theorem opq {α : Type} {M : Model} {A : Around} {E : Value → Shared → Prop} {s : Shared} {x : Sem α} {Q : α → Shared → Prop} (h : ∀ K : α → Shared → Prop, (∀ v s', Q v s' → K v s') → wpAny M A x K E s) : wpAny M A x Q E s :=
  h Q fun _ _ z => z
end Mine
end
-- part Pl
section
local macro_rules | `(tactic| walk_at "no line") => `(tactic| skip)
theorem Mine.off_Pl : True := by
  w_top off
  exact trivial
open PySem PySem.W PyProof.Rows PySem.Spec PySem.Calls
set_option Elab.async false
namespace Mine
/-- where a walk from behind stops: it passes what b holds of -/
noncomputable def cutR {α : Type} (b : α → Bool) (l : List α) : Nat → Nat
  | 0 => 0
  | k + 1 => if (l[k]?).any b then cutR b l k else k + 1
theorem cutR_le {α : Type} (b : α → Bool) (l : List α) : ∀ k, cutR b l k ≤ k
  | 0 => Nat.le_refl _
  | k + 1 => by
    unfold cutR
    split
    · exact Nat.le_succ_of_le (cutR_le b l k)
    · exact Nat.le_refl _
theorem cutR_no {α : Type} {b : α → Bool} {l : List α} {k : Nat} {x : α} (hx : l[k]? = some x) (h : b x = false) : cutR b l (k + 1) = k + 1 := by
  unfold cutR; rw [hx]; simp [h]
theorem cutR_yes {α : Type} {b : α → Bool} {l : List α} {k : Nat} {x : α} (hx : l[k]? = some x) (h : b x = true) : cutR b l (k + 1) = cutR b l k := by
  conv => lhs; unfold cutR
  rw [hx]; simp [h]
def putAt {α : Type} (l : List α) (i : Nat) (x : α) : List α := l.take i ++ x :: l.drop i
noncomputable def insR {α : Type} (b : α → α → Bool) (l : List α) (row : α) : List α := putAt l (cutR (b row) l l.length) row
def insL {α : Type} (b : α → α → Bool) (l : List α) (row : α) : List α := putAt l (l.findIdx (b row)) row
noncomputable def sortR {α : Type} (b : α → α → Bool) (rs : List α) : List α := rs.foldl (insR b) []
def sortL {α : Type} (b : α → α → Bool) (rs : List α) : List α := rs.foldl (insL b) []
theorem putAt_length {α : Type} (l : List α) (i : Nat) (x : α) : (putAt l i x).length = l.length + 1 := by
  unfold putAt; simp; omega
theorem putAt_mem {α : Type} {l : List α} {i : Nat} {x y : α} (h : y ∈ putAt l i x) : y = x ∨ y ∈ l := by
  unfold putAt at h
  rcases List.mem_append.mp h with h | h
  · exact .inr (List.mem_of_mem_take h)
  · rcases List.mem_cons.mp h with h | h
    · exact .inl h
    · exact .inr (List.mem_of_mem_drop h)
theorem putAt_map {α β : Type} (f : α → β) (l : List α) (i : Nat) (x : α) : (putAt l i x).map f = putAt (l.map f) i (f x) := by
  unfold putAt; simp [List.map_take, List.map_drop]
theorem foldl_mem {α : Type} {g : List α → α → List α} (hg : ∀ l x y, y ∈ g l x → y = x ∨ y ∈ l) : ∀ (rs acc : List α) {y : α}, y ∈ rs.foldl g acc → y ∈ rs ∨ y ∈ acc
  | [], _, _, h => .inr h
  | r :: rs, acc, y, h => by
    rcases foldl_mem hg rs (g acc r) h with h | h
    · exact .inl (.tail _ h)
    · rcases hg acc r y h with h | h
      · exact .inl (h ▸ .head _)
      · exact .inr h
theorem foldl_len {α : Type} {g : List α → α → List α} (hg : ∀ l x, (g l x).length = l.length + 1) : ∀ (rs acc : List α), (rs.foldl g acc).length = rs.length + acc.length
  | [], acc => by simp
  | r :: rs, acc => by rw [List.foldl_cons, foldl_len hg rs, hg, List.length_cons]; omega
theorem insR_mem {α : Type} (b : α → α → Bool) (l : List α) (x y : α) (h : y ∈ insR b l x) : y = x ∨ y ∈ l := putAt_mem h
theorem insL_mem {α : Type} (b : α → α → Bool) (l : List α) (x y : α) (h : y ∈ insL b l x) : y = x ∨ y ∈ l := putAt_mem h
theorem insR_len {α : Type} (b : α → α → Bool) (l : List α) (x : α) : (insR b l x).length = l.length + 1 := putAt_length ..
theorem insL_len {α : Type} (b : α → α → Bool) (l : List α) (x : α) : (insL b l x).length = l.length + 1 := putAt_length ..
theorem sortR_snoc {α : Type} (b : α → α → Bool) (l : List α) (x : α) : sortR b (l ++ [x]) = insR b (sortR b l) x := by simp [sortR]
theorem sortL_snoc {α : Type} (b : α → α → Bool) (l : List α) (x : α) : sortL b (l ++ [x]) = insL b (sortL b l) x := by simp [sortL]
abbrev RowL := Addr × List Value
abbrev rref (r : RowL) : Value := .ref r.1
def cellOf (c : Nat) (r : RowL) : Value := r.2.getD c .none
/-- x stands behind row: what the two inner loops ask -/
def bh (d : Bool) (c : Nat) (row x : RowL) : Bool := if d then ltv (cellOf c x) (cellOf c row) else ltv (cellOf c row) (cellOf c x)
abbrev RowOk (news : Led) (c : Nat) (r : RowL) : Prop := r.2[c]? = some (cellOf c r) ∧ IsIS (cellOf c r) ∧ ∃ n, (r.1, listOf r.2.toArray n) ∈ news
section
variable {prog : PySem.Program} {w : PySem.World} {A : Around} {E : Value → Shared → Prop} {s : Shared} {h₀ : Heap} {L : Addr}
theorem my_item {news : Led} {value slice : PySem.Expr} {l : Addr} {vs : List Value} {n : Nat} {k : Int} {u : Tok} {v : Value} {Q : Value → Shared → Prop}
    (N : News h₀ L s.heap news) (hm : (l, listOf vs.toArray n) ∈ news) (h0 : 0 ≤ k) (hhi : k < 2 ^ 63) (hx : vs[k.toNat]? = some v) (h : Q v s)
    (hs : subscripted slice false (.ref l) (.int k u) = operate [.ref l, .int k u] (getItem (.ref l) (.int k u)) := by with_unfolding_all rfl) :
    wpAny (model prog w) A (subscriptTail value slice (.ref l) (.int k u)) Q E s :=
  have hl : s.heap.IsList l vs.toArray := ⟨_, (N _ hm).1, rfl, n, rfl⟩
  tail_any hl.typeIs PySem.F.slot_list_getitem.lookup (wpAny_getItem_list hl h0 hhi (by simpa using hx) h) hs
theorem my_len {news : Led} {l : Addr} {vs : List Value} {n : Nat} {Q : Value → Shared → Prop} (N : News h₀ L s.heap news) (hm : (l, listOf vs.toArray n) ∈ news) (hfit : vs.length < 2 ^ 62)
    (h : ∀ t k, Q (.int (vs.length : Int) t) { s with toks := k }) : wpAny (model prog w) A (call (.builtin "len") [.ref l]) Q E s := by
  have hl : s.heap.IsList l vs.toArray := ⟨_, (N _ hm).1, rfl, n, rfl⟩
  refine len_list hl (by rw [List.size_toArray]; omega) ?_
  rw [List.size_toArray]
  exact h _ _
theorem my_insert {m : PySem.Str → Option Value} {news news' : Led} {D : Addr} {vs : List Value} {n i : Nat} {u : Tok} {y : Value} {Q : Value → Shared → Prop} (F : Fr h₀ L s.heap m) (N : News h₀ L s.heap news)
    (U : Upd D (listOf vs.toArray n) (listOf (putAt vs i y).toArray (n + 1)) news news') (hi : i ≤ vs.length) (hz : vs.length < 1000) (h : ∀ h', Fr h₀ L h' m → News h₀ L h' news' → Q .none { s with heap := h' }) :
    wpAny (model prog w) A (call (.builtin "list.insert") [.ref D, .int i u, y]) Q E s := by
  refine kl_insert F N (l := putAt vs i y) ?_ ?_ U (by rw [sizeLine_eq]; simp; omega) h
  · unfold Builtin.List.listFitsIndex
    simp
    omega
  · unfold kl_ins putAt
    simp only []
    rw [if_neg (by omega)]
    have : min (i : Int).toNat vs.length = i := by omega
    rw [this]
theorem pick_upto (vs : List Value) (i : Nat) : (slicePick vs.toArray none (some (i : Int)) none).toList = vs.take i := by
  have e : sliceBounds none (some (i : Int)) none vs.toArray.size = (((0 : Nat) : Int), ((min i vs.toArray.size : Nat) : Int), 1) := by
    simp only [sliceBounds, Option.getD_none, show (1 : Int) > 0 by decide, if_true, if_neg (show ¬ ((i : Int) < 0) by omega)]
    congr 1
    congr 1
    omega
  rw [kmk_pick_nat _ e]
  show (vs.drop 0).take (min i vs.toArray.size - 0) = _
  rw [List.drop_zero, Nat.sub_zero, List.size_toArray, kmk_take_min]
theorem pick_from (vs : List Value) (i : Nat) : (slicePick vs.toArray (some (i : Int)) none none).toList = vs.drop i := by
  have e : sliceBounds (some (i : Int)) none none vs.toArray.size = (((min i vs.toArray.size : Nat) : Int), ((vs.toArray.size : Nat) : Int), 1) := by
    simp only [sliceBounds, Option.getD_none, show (1 : Int) > 0 by decide, if_true, if_neg (show ¬ ((i : Int) < 0) by omega)]
    congr 1
    omega
  rw [kmk_pick_nat _ e]
  show (vs.drop (min i vs.toArray.size)).take (vs.toArray.size - min i vs.toArray.size) = _
  rw [List.size_toArray, kmk_drop_min, List.take_of_length_le (by rw [List.length_drop]; omega)]
theorem pick_run' (vs : List Value) (i j : Nat) : (slicePick vs.toArray (some (i : Int)) (some (j : Int)) none).toList = (vs.drop i).take (j - i) := by
  have e : sliceBounds (some (i : Int)) (some (j : Int)) none vs.toArray.size = (((min i vs.toArray.size : Nat) : Int), ((min j vs.toArray.size : Nat) : Int), 1) := by
    simp only [sliceBounds, Option.getD_none, show (1 : Int) > 0 by decide, if_true, if_neg (show ¬ ((i : Int) < 0) by omega), if_neg (show ¬ ((j : Int) < 0) by omega)]
    congr 1
    · omega
    · congr 1
      omega
  rw [kmk_pick_nat _ e]
  show (vs.drop (min i vs.toArray.size)).take (min j vs.toArray.size - min i vs.toArray.size) = _
  rw [List.size_toArray, kmk_drop_min]
  by_cases h : i ≤ vs.length
  · rw [Nat.min_eq_left h]
    by_cases h' : j ≤ vs.length
    · rw [Nat.min_eq_left h']
    · rw [Nat.min_eq_right (by omega), List.take_of_length_le (by rw [List.length_drop]; omega), List.take_of_length_le (by rw [List.length_drop]; omega)]
  · rw [List.drop_of_length_le (by omega)]; simp
theorem my_slice {m : PySem.Str → Option Value} {news : Led} {value slice : PySem.Expr} {l : Addr} {vs zs : List Value} {n : Nat} {vl vu : Value} {lo hi : Option Int} {Q : Value → Shared → Prop} (F : Fr h₀ L s.heap m) (N : News h₀ L s.heap news) (hm : (l, listOf vs.toArray n) ∈ news) (pl : IsPart vl lo) (pu : IsPart vu hi) (e : (slicePick vs.toArray lo hi none).toList = zs)
    (h : ∀ D h', Fr h₀ L h' m → News h₀ L h' ((D, listOf zs.toArray 0) :: news) → (∀ p ∈ news, p.1 < D) → Q (.ref D) { s with heap := h' })
    (hs : subscripted slice false (.ref l) (.ref s.heap.objs.size) = operate [.ref s.heap.objs.size, .ref l] (getItem (.ref l) (.ref s.heap.objs.size))) (ht : ∀ r, letTemporaryGo value (.ref l) r = pure ()) (hz : vs.length < 1000) :
    wpAny (model prog w) A (subscriptTail value slice (.ref l) (.ref s.heap.objs.size)) Q E { s with heap := s.heap.push { cls := .type "slice", data := .fields #[vl, vu, .none] } } :=
  kmk_slice_lit F N ⟨_, (N _ hm).1, rfl, n, rfl⟩ pl pu e h hs ht (by rw [List.size_toArray, sizeLine_eq]; omega)
theorem my_add {m : PySem.Str → Option Value} {news : Led} {l b : Addr} {vs ws : List Value} {n k : Nat} {Q : Value → Shared → Prop} (F : Fr h₀ L s.heap m) (N : News h₀ L s.heap news) (ha : (l, listOf vs.toArray n) ∈ news) (hb : (b, listOf ws.toArray k) ∈ news)
    (h : ∀ D h', Fr h₀ L h' m → News h₀ L h' ((D, listOf (vs ++ ws).toArray 0) :: news) → (∀ p ∈ news, p.1 < D) → Q (.ref D) { s with heap := h' })
    (hz : vs.length + ws.length < 2000) : wpAny (model prog w) A (binaryOp .Add (.ref l) (.ref b)) Q E s :=
  kmk_add_lit F N ⟨_, (N _ ha).1, rfl, n, rfl⟩ ⟨_, (N _ hb).1, rfl, k, rfl⟩ (by rfl) h (by rw [sizeLine_eq]; show vs.length + ws.length ≤ _; omega)
theorem my_append {m : PySem.Str → Option Value} {news news' : Led} {D : Addr} {vs : List Value} {n : Nat} {x : Value} {Q : Value → Shared → Prop} (F : Fr h₀ L s.heap m) (N : News h₀ L s.heap news)
    (U : Upd D (listOf vs.toArray n) (listOf (vs ++ [x]).toArray (n + 1)) news news') (hz : vs.length < 1000) (h : ∀ h', Fr h₀ L h' m → News h₀ L h' news' → Q .none { s with heap := h' }) :
    wpAny (model prog w) A (call (.builtin "list.append") [.ref D, x]) Q E s := by
  rw [← List.push_toArray] at U
  exact append_K F N U h (by rw [List.size_toArray, sizeLine_eq]; omega)
end
end Mine
end
-- part Wd
section
open PySem PySem.W PyProof.Rows PySem.Spec PySem.Calls
set_option Elab.async false
namespace Mine
theorem isStr_self (x : PySem.Str) (t : Tok) : (Value.str x t).isStr x = true := beq_self_eq_true x
theorem isStr_ne {x y : PySem.Str} (t : Tok) (h : (y == x) = false) : (Value.str y t).isStr x = false := h
theorem isStr_eq {v : Value} {x : PySem.Str} (h : v.isStr x = true) : ∃ t, v = .str x t := by
  cases v with
  | str s t =>
    have h' : (s == x) = true := h
    exact ⟨t, by rw [eq_of_beq h']⟩
  | _ => cases h
theorem getL_same {x : PySem.Str} {hsh : Int} {t : Tok} {v : Value} : ∀ (es : List DictEntry), getL x (putL x hsh (.str x t) v es) = some (some v)
  | [] => by simp [putL, getL, isStr_self]
  | e :: r => by
    unfold putL
    cases q : e.key.isStr x with
    | true => simp [getL, q]
    | false =>
      have ih := getL_same (x := x) (hsh := hsh) (t := t) (v := v) r
      have h1 : ∀ l : List DictEntry, getL x l = some (some v) → getL x (e :: l) = some (some v) := by
        intro l hl
        unfold getL at hl ⊢
        simp only [List.find?_cons, q]
        cases hf : l.find? (·.key.isStr x) with
        | some e' => rw [hf] at hl; exact hl
        | none => rw [hf] at hl; simp at hl
      simp only [Bool.false_eq_true, if_false]
      exact h1 _ ih
theorem getL_find {x : PySem.Str} {es : List DictEntry} {u : Value} : getL x es = some (some u) ↔ ∃ e, es.find? (·.key.isStr x) = some e ∧ e.val = u := by
  unfold getL
  cases hf : es.find? (·.key.isStr x) with
  | some e => simp
  | none => simp
theorem getL_other {x y : PySem.Str} {hsh : Int} {t : Tok} {u v : Value} (h : (y == x) = false) : ∀ (es : List DictEntry), getL x es = some (some u) → getL x (putL y hsh (.str y t) v es) = some (some u)
  | [], e => by simp [getL] at e
  | d :: r, e => by
    rw [getL_find] at e ⊢
    obtain ⟨d', hd, hu⟩ := e
    unfold putL
    cases q : d.key.isStr y with
    | true =>
      obtain ⟨t', ht⟩ := isStr_eq q
      have hx : d.key.isStr x = false := by rw [ht]; exact h
      simp only [if_true, List.find?_cons, hx] at hd ⊢
      exact ⟨d', hd, hu⟩
    | false =>
      simp only [Bool.false_eq_true, if_false, List.find?_cons] at hd ⊢
      cases hx : d.key.isStr x with
      | true => rw [hx] at hd; exact ⟨d', hd, hu⟩
      | false =>
        rw [hx] at hd
        have := getL_other (hsh := hsh) (t := t) (v := v) h r (getL_find.mpr ⟨d', hd, hu⟩)
        exact getL_find.mp this
theorem putL_len {x : PySem.Str} {hsh : Int} {k v u : Value} : ∀ (es : List DictEntry), getL x es = some (some u) → (putL x hsh k v es).length = es.length
  | [], e => by simp [getL] at e
  | d :: r, e => by
    unfold putL
    cases q : d.key.isStr x with
    | true => simp
    | false =>
      rw [getL_find] at e
      simp only [List.find?_cons, q] at e
      have := putL_len (hsh := hsh) (k := k) (v := v) r (getL_find.mpr e)
      simp only [Bool.false_eq_true, if_false, List.length_cons, this]
theorem putL_le {x : PySem.Str} {hsh : Int} {k v : Value} : ∀ (es : List DictEntry), (putL x hsh k v es).length ≤ es.length + 1
  | [] => by simp [putL]
  | d :: r => by
    unfold putL
    split
    · simp
    · have := putL_le (x := x) (hsh := hsh) (k := k) (v := v) r
      simp only [List.length_cons]; omega
theorem isSome_of {x : PySem.Str} {es : List DictEntry} {u : Value} (h : getL x es = some (some u)) : (getL x es).isSome = true := by rw [h]; rfl
structure WorldOk (es : List DictEntry) (made : Int) (hl : Addr) : Prop where
  width : ∃ t, getL (PySem.Str.ofString "width") es = some (some (.int 32 t))
  most : ∃ t, getL (PySem.Str.ofString "most_items") es = some (some (.int 20000 t))
  made : ∃ t, getL (PySem.Str.ofString "made") es = some (some (.int made t))
  holders : getL (PySem.Str.ofString "holders") es = some (some (.ref hl))
  len : es.length ≤ 500
theorem WorldOk.put {es : List DictEntry} {made made' : Int} {hl : Addr} {hsh : Int} {t t' : Tok} (W : WorldOk es made hl) : WorldOk (putL (PySem.Str.ofString "made") hsh (.str (PySem.Str.ofString "made") t) (.int made' t') es) made' hl := by
  obtain ⟨⟨t1, h1⟩, ⟨t2, h2⟩, ⟨t3, h3⟩, h4, h5⟩ := W
  exact ⟨⟨t1, getL_other (by decide) es h1⟩, ⟨t2, getL_other (by decide) es h2⟩, ⟨t', getL_same es⟩, getL_other (by decide) es h4, by rw [putL_len es h3]; exact h5⟩
end Mine
end
-- part Kn
section
open PySem PySem.W PyProof.Rows PySem.Spec PySem.Calls
set_option Elab.async false
set_option maxRecDepth 100000
namespace Mine
/-- all that a dictionary of strings says: what stands under each name -/
structure Kn (es : List DictEntry) (f : PySem.Str → Option Value) (k : Nat) : Prop where
  keys : es.any (·.refKey) = false
  look : ∀ y, (es.find? (·.key.isStr y)).map (·.val) = f y
  len : es.length ≤ k
theorem Kn.nil : Kn [] (fun _ => none) 0 := ⟨rfl, fun _ => rfl, Nat.le_refl _⟩
theorem Kn.get {es : List DictEntry} {f : PySem.Str → Option Value} {k : Nat} (K : Kn es f k) (y : PySem.Str) : getL y es = some (f y) := by
  have h := K.look y
  unfold getL
  cases q : es.find? (·.key.isStr y) with
  | some e => rw [q] at h; rw [← h]; rfl
  | none => rw [q] at h; simp only [K.keys]; rw [← h]; rfl
theorem put_keys {x : PySem.Str} {hsh : Int} {t : Tok} {v : Value} : ∀ {es : List DictEntry}, es.any (·.refKey) = false → (putL x hsh (.str x t) v es).any (·.refKey) = false
  | [], _ => rfl
  | e :: r, h => by
    simp only [List.any_cons, Bool.or_eq_false_iff] at h
    unfold putL
    cases q : e.key.isStr x with
    | true => simp only [if_true, List.any_cons, Bool.or_eq_false_iff]; exact ⟨h.1, h.2⟩
    | false => simp only [Bool.false_eq_true, if_false, List.any_cons, Bool.or_eq_false_iff]; exact ⟨h.1, put_keys h.2⟩
theorem put_look {x y : PySem.Str} {hsh : Int} {t : Tok} {v : Value} : ∀ (es : List DictEntry), ((putL x hsh (.str x t) v es).find? (·.key.isStr y)).map (·.val) = if y = x then some v else (es.find? (·.key.isStr y)).map (·.val)
  | [] => by
    by_cases h : y = x
    · subst h; simp [putL, isStr_self]
    · have : (Value.str x t).isStr y = false := isStr_ne t (beq_eq_false_iff_ne.mpr fun e => h e.symm)
      simp [putL, this, h]
  | e :: r => by
    have ih := put_look (x := x) (y := y) (hsh := hsh) (t := t) (v := v) r
    unfold putL
    cases q : e.key.isStr x with
    | true =>
      obtain ⟨t', ht⟩ := isStr_eq q
      by_cases h : y = x
      · subst h; simp [q]
      · have : e.key.isStr y = false := by rw [ht]; exact isStr_ne t' (beq_eq_false_iff_ne.mpr fun e => h e.symm)
        simp [this, h]
    | false =>
      simp only [Bool.false_eq_true, if_false, List.find?_cons]
      cases p : e.key.isStr y with
      | true =>
        have h : y ≠ x := fun h => by subst h; rw [q] at p; cases p
        simp [h]
      | false => exact ih
theorem Kn.put {es : List DictEntry} {f : PySem.Str → Option Value} {k : Nat} (K : Kn es f k) {x : PySem.Str} {hsh : Int} {t : Tok} {v : Value} : Kn (putL x hsh (.str x t) v es) (fun y => if y = x then some v else f y) (k + 1) :=
  ⟨put_keys K.keys, fun y => by rw [put_look, K.look], Nat.le_trans (putL_le es) (Nat.succ_le_succ K.len)⟩
theorem updF_to {d : Addr} {o : Obj} : ∀ {l : Led} {g : Obj → Led}, UpdF d o l g → ∀ o', Upd d o o' l (g o')
  | _, _, .head h, _ => .head h
  | _, _, .tail h r, o' => .tail h (updF_to r o')
section
variable {prog : PySem.Program} {w : PySem.World} {A A₀ : Around} {E : Value → Shared → Prop} {s : Shared} {K : Frag} {x C dx L : Addr} {h₀ : Heap} {m : PySem.Str → Option Value} {news : List (Addr × Obj)} {ox : Obj} {es : List DictEntry} {n k : Nat} {name : PySem.Str} {v : Value} {f : PySem.Str → Option Value} {g : Obj → Led}
/-- an attribute stored: of the dictionary only what it says is kept -/
theorem set_kn {Q : Unit → Shared → Prop} (F : Fr h₀ L s.heap m) (X₀ : K.In h₀) (N : News h₀ L s.heap news) (I : InstAt s.heap x ox C (some (dictOf es n))) (hd : ox.dict = some dx)
    (hs : findIn K (.ref C) "__setattr__" = some (some (.builtin "object.__setattr__"))) (hp : plainOver K C = true) (ht : takerIn K C name = some none) (hh : hasDictIn K C = true) (hk : Kn es f k)
    (U : UpdF dx (dictOf es n) news g) (hz : k ≤ 900)
    (h : ∀ es' n' h' tk, Kn es' (fun y => if y = name then some v else f y) (k + 1) → Fr h₀ L h' m → News h₀ L h' (g (dictOf es' n')) → Q () ⟨h', s.gens, s.drawn, tk, s.os⟩) :
    wpAny (model prog w) A (setAttr (.ref x) name v) Q E s := by
  exact set_dict F X₀ N I hd hs hp ht hh (by rw [hk.get]; rfl) rfl (updF_to U _) (Nat.le_trans (putL_le es) (by have := hk.len; omega)) fun h' F' N' => h _ _ h' _ hk.put F' N'
end
end Mine
end
-- part Fc
section
open PySem PySem.W PyProof.Rows PySem.Spec PySem.Calls
set_option Elab.async false
set_option maxRecDepth 100000
namespace Mine
section
variable {prog : PySem.Program} {w : PySem.World} {A : Around} {E : Value → Shared → Prop} {s : Shared} {env : Env} {R : PySem.Result → Shared → Prop}
abbrev flatE (elt t0 i0 t1 i1 : PySem.Expr) (scope : PySem.Scope) (pos : PySem.Pos) : PySem.Expr := .ListComp elt [⟨t0, i0, [], 0⟩, ⟨t1, i1, [], 0⟩] scope pos
theorem flat_turn0 (elt t0 i0 t1 i1 : PySem.Expr) (scope : PySem.Scope) (pos : PySem.Pos) (it acc : Value) (env : Env) :
    compTurn (flatE elt t0 i0 t1 i1 scope pos) 0 it acc env = (standAt i0.pos >>= fun _ => pyNext it >>= fun r => match r with
      | none => pure (.done .next)
      | some v => letOwnedTupleGo t0 it v >>= fun _ => assign t0 env v >>= fun _ =>
        eval i1 env >>= fun x => standAt i1.pos >>= fun _ => foldedSetIterable i1 env x >>= fun x => holding [x] (pyIter x) >>= fun it2 => runOwn (.compStart (flatE elt t0 i0 t1 i1 scope pos) 1 it2 acc env) env >>= fun _ =>
          again (.compLoop (flatE elt t0 i0 t1 i1 scope pos) 0 it acc env)) := by rfl
theorem flat_turn1 (elt t0 i0 t1 i1 : PySem.Expr) (scope : PySem.Scope) (pos : PySem.Pos) (it acc : Value) (env : Env) :
    compTurn (flatE elt t0 i0 t1 i1 scope pos) 1 it acc env = (standAt i1.pos >>= fun _ => pyNext it >>= fun r => match r with
      | none => pure (.done .next)
      | some v => letOwnedTupleGo t1 it v >>= fun _ => assign t1 env v >>= fun _ =>
        (eval elt env >>= fun x => call (.builtin "list.append") [acc, x] >>= fun _ => pure ()) >>= fun _ =>
          again (.compLoop (flatE elt t0 i0 t1 i1 scope pos) 1 it acc env)) := by rfl
theorem flat_start1 {elt t0 i0 t1 i1 : PySem.Expr} {scope : PySem.Scope} {pos : PySem.Pos} {it acc : Value}
    (h0 : codeAny (model prog w) A (.compLoop (flatE elt t0 i0 t1 i1 scope pos) 1 it acc env) R s)
    (h : wpAny (model prog w) A (pyIter it) (fun it' s' => codeAny (model prog w) A (.compLoop (flatE elt t0 i0 t1 i1 scope pos) 1 it' acc env) R s')
      (notedBy (model prog w) A env fun x s' => R (.error x) s') s) :
    codeAny (model prog w) A (.compStart (flatE elt t0 i0 t1 i1 scope pos) 1 it acc env) R s := by
  refine codeAny_of_tree ?_
  show wpAny _ _ ((compStart (flatE elt t0 i0 t1 i1 scope pos) 1 it acc env).onRaise (fun x => do noteFrame x env; standAt theWindowsPlace)) _ _ s
  refine wpAny_notedAt ?_
  unfold compStart
  show wpAny _ _ (ask >>= _) _ _ s
  refine wpAny_bind (wpAny_askSetting (wpAny_ite ?_))
  split
  · first
      | exact wpAny_bind (wpAny_pure (wpAny_pure (And.intro rfl h0)))
      | exact wpAny_pure (And.intro rfl h0)
  · first
      | exact wpAny_bind (wpAny_rule (wpAny_bind (wpAny_standAt (wpAny_bind (wpAny_mono h (fun it' s' h' => wpAny_pure (And.intro rfl h')) fun _ _ x => x)))))
      | (refine wpAny_bind (wpAny_rule ?_); show wpAny _ _ (standAt i1.pos >>= _) _ _ s; exact wpAny_bind (wpAny_standAt (wpAny_bind (wpAny_mono h (fun it' s' h' => wpAny_pure (And.intro rfl h')) fun _ _ x => x))))
abbrev lst9 (ys : List Value) : Obj := { cls := .type "list", data := .seq ys.toArray ys.length }
theorem lst9_snoc (ys : List Value) (y : Value) : ({ cls := .type "list", data := .seq (ys.toArray.push y) (ys.length + 1) } : Obj) = lst9 (ys ++ [y]) := LCg.lst_snoc ys y
/-- the inner loop: a list's items, appended one by one -/
theorem flat_inner {y : PySem.Str} {p0 p1 : PySem.Pos} {t0 i0 i1 : PySem.Expr} {scope : PySem.Scope} {pos : PySem.Pos} {I ra D : Addr} {m : PySem.Str → Option Value} {ys vs : List Value}
    (hh : A.handled = none) (hk : env.scope.kind = .function) (hy : env.kindOf y = some .local) (hd : (y == ("__debug__" : PySem.Str)) = false)
    (hIr : ra ≠ I) (hIC : I ≠ env.locals) (hID : I ≠ D) (hrC : ra ≠ env.locals) (hrD : ra ≠ D) (hCD : env.locals ≠ D)
    (hit : s.heap.IsListIter I ra 0) (hl : s.heap.IsList ra vs.toArray) (hD : s.heap.get? D = some (lst9 ys)) (hn : s.heap.Ns env.locals m) (hsz : ys.length + vs.length < 1000)
    (hR : ∀ h' tk m', (∀ b o, b ≠ I → b ≠ env.locals → b ≠ D → s.heap.get? b = some o → h'.get? b = some o) → h'.get? D = some (lst9 (ys ++ vs)) → h'.Ns env.locals m' → (∀ z, z ≠ y → m' z = m z) → R (.ok .next) { s with heap := h', toks := tk }) :
    codeAny (model prog w) A (.compLoop (flatE (.Name y p0) t0 i0 (.Name y p1) i1 scope pos) 1 (.ref I) (.ref D) env) R s := by
  have W := Walks.list (prog := prog) (w := w) hh I ra hIr vs.toArray
  refine codeAny_loop rfl (fun n s' => ∃ h' tk i m', s' = { s with heap := h', toks := tk } ∧ i ≤ vs.length ∧ n = vs.length + 1 - i ∧ (h'.IsListIter I ra i ∧ h'.IsList ra vs.toArray) ∧ h'.get? D = some (lst9 (ys ++ vs.take i)) ∧ h'.Ns env.locals m' ∧ (∀ z, z ≠ y → m' z = m z) ∧
    (∀ b o, b ≠ I → b ≠ env.locals → b ≠ D → s.heap.get? b = some o → h'.get? b = some o)) ?_ (vs.length + 1) ⟨s.heap, s.toks, 0, m, rfl, Nat.zero_le _, rfl, ⟨hit, hl⟩, by simpa using hD, hn, fun _ _ => rfl, fun _ _ _ _ _ e => e⟩
  intro n s' hJz
  refine ex4 hJz ?_
  clear hJz
  intro h' tk i m' hJz
  refine bRPRPPPPP hJz ?_
  clear hJz
  intro hi st hD' hn' hm' hkp
  (try clear n)
  (try clear s')
  show wpAny _ _ ((compTurn (flatE (.Name y p0) t0 i0 (.Name y p1) i1 scope pos) 1 (.ref I) (.ref D) env).onRaise (fun x => do noteFrame x env; theTreesLotGoes x)) _ _ _
  refine wpAny_noted ?_
  rw [flat_turn1]
  refine wpAny_bind (wpAny_standAt (wpAny_bind ?_))
  by_cases hlt : i < vs.length
  · refine W.item i _ _ _ (by simpa using hlt) st fun v h₂ tk₂ hv st₂ hk₂ => ?_
    have hv' : vs[i]? = some v := by simpa using hv
    refine wpAny_bind (wpAny_of_eq rfl (wpAny_bind ?_))
    have hn₂ : h₂.Ns env.locals m' := hn'.at' fun o e => hk₂ _ o (by simpa using hIC.symm) e
    have hD₂ : h₂.get? D = some (lst9 (ys ++ vs.take i)) := hk₂ _ _ (by simpa using hID.symm) hD'
    refine wpAny_assign_Name (wpAny_storeName_local hy hn₂ (fun h₃ hn₃ hs₃ => ?_) (by simp [hk]))
    refine wpAny_bind (wpAny_bind (wpAny_Name (wpAny_loadName_local hk hy hn₃ (if_pos rfl) ?_) hd))
    have hD₃ : h₃.get? D = some (lst9 (ys ++ vs.take i)) := (hs₃.2 D hCD.symm).trans hD₂
    have htl : (ys ++ vs.take i).length ≤ sizeLine := by rw [sizeLine_eq, List.length_append, List.length_take]; omega
    refine wpAny_bind (append_at (hsz := by rw [List.size_toArray]; exact htl) hD₃ fun h₄ hs₄ hD₄ => ?_)
    refine wpAny_pure ?_
    refine wpAny_pure ?_
    refine ⟨rfl, vs.length + 1 - (i + 1), by omega, h₄, _, i + 1, fun z => if z = y then some v else m' z, rfl, hlt, rfl, ?_, ?_, ?_, ?_, ?_⟩
    · refine W.frame _ _ _ st₂ fun b hb o e => ?_
      have hb' : b = I ∨ b = ra := by simpa using hb
      refine (hs₄.2 b ?_).trans ((hs₃.2 b ?_).trans e)
      · rcases hb' with e' | e' <;> rw [e'] <;> assumption
      · rcases hb' with e' | e' <;> rw [e'] <;> assumption
    · rw [hD₄, lst9_snoc, List.append_assoc]
      congr 3
      rw [List.take_add_one, hv']; rfl
    · exact hn₃.at' fun o e => (hs₄.2 _ hCD).trans e
    · intro z hz; show (if z = y then _ else _) = _; rw [if_neg hz]; exact hm' z hz
    · intro b o h1 h2 h3 e
      exact (hs₄.2 b h3).trans ((hs₃.2 b h2).trans (hk₂ b o (by simpa using h1) (hkp b o h1 h2 h3 e)))
  · obtain rfl : i = vs.length := by omega
    refine W.done _ _ _ (by simpa using st) fun h₂ tk₂ hk₂ => wpAny_pure ?_
    have hn₂ : h₂.Ns env.locals m' := hn'.at' fun o e => hk₂ _ o (by simpa using hIC.symm) e
    have hD₂ := hk₂ _ _ (by simpa using hID.symm) hD'
    rw [List.take_length] at hD₂
    exact hR h₂ tk₂ m' (fun b o h1 h2 h3 e => hk₂ b o (by simpa using h1) (hkp b o h1 h2 h3 e)) hD₂ hn₂ hm'
/-- the outer loop: the rows of a list, each one's items appended -/
theorem flat_outer {x y : PySem.Str} {px p0 p1 p2 : PySem.Pos} {i0 : PySem.Expr} {scope : PySem.Scope} {pos : PySem.Pos} {I ax D : Addr} {m : PySem.Str → Option Value} {rs : List RowL}
    (hh : A.handled = none) (hk : env.scope.kind = .function) (hx : env.kindOf x = some .local) (hy : env.kindOf y = some .local) (hxd : (x == ("__debug__" : PySem.Str)) = false) (hyd : (y == ("__debug__" : PySem.Str)) = false)
    (hIr : ax ≠ I) (hIC : I ≠ env.locals) (hID : I ≠ D) (hrC : ax ≠ env.locals) (hrD : ax ≠ D) (hCD : env.locals ≠ D)
    (hit : s.heap.IsListIter I ax 0) (hl : s.heap.IsList ax (List.map rref rs).toArray) (hD : s.heap.get? D = some (lst9 [])) (hn : s.heap.Ns env.locals m)
    (hrs : ∀ r ∈ rs, s.heap.IsList r.1 r.2.toArray ∧ r.1 ≠ I ∧ r.1 ≠ env.locals ∧ r.1 ≠ D) (hsz : (rs.flatMap (·.2)).length < 1000)
    (hR : ∀ h' tk m', (∀ b o, b ≠ I → b ≠ env.locals → b ≠ D → s.heap.get? b = some o → h'.get? b = some o) → h'.get? D = some (lst9 (rs.flatMap (·.2))) → h'.Ns env.locals m' → R (.ok .next) { s with heap := h', toks := tk }) :
    codeAny (model prog w) A (.compLoop (flatE (.Name y p0) (.Name x px) i0 (.Name y p1) (.Name x p2) scope pos) 0 (.ref I) (.ref D) env) R s := by
  have W := Walks.list (prog := prog) (w := w) hh I ax hIr (List.map rref rs).toArray
  refine codeAny_loop rfl (fun n s' => ∃ h' tk i m', s' = { s with heap := h', toks := tk } ∧ i ≤ rs.length ∧ n = rs.length + 1 - i ∧ (h'.IsListIter I ax i ∧ h'.IsList ax (List.map rref rs).toArray) ∧ h'.get? D = some (lst9 ((rs.take i).flatMap (·.2))) ∧ h'.Ns env.locals m' ∧
    (∀ b o, b ≠ I → b ≠ env.locals → b ≠ D → s.heap.get? b = some o → h'.get? b = some o)) ?_ (rs.length + 1) ⟨s.heap, s.toks, 0, m, rfl, Nat.zero_le _, rfl, ⟨hit, hl⟩, by simpa using hD, hn, fun _ _ _ _ _ e => e⟩
  intro n s' hJz
  refine ex4 hJz ?_
  clear hJz
  intro h' tk i m' hJz
  refine bRPRPPPP hJz ?_
  clear hJz
  intro hi st hD' hn' hkp
  (try clear n)
  (try clear s')
  show wpAny _ _ ((compTurn (flatE (.Name y p0) (.Name x px) i0 (.Name y p1) (.Name x p2) scope pos) 0 (.ref I) (.ref D) env).onRaise (fun x => do noteFrame x env; theTreesLotGoes x)) _ _ _
  refine wpAny_noted ?_
  rw [flat_turn0]
  refine wpAny_bind (wpAny_standAt (wpAny_bind ?_))
  by_cases hlt : i < rs.length
  · refine W.item i _ _ _ (by simpa using hlt) st fun v h₂ tk₂ hv st₂ hk₂ => ?_
    obtain ⟨r, hr, rfl⟩ : ∃ r, rs[i]? = some r ∧ v = rref r := by
      have hv' : (List.map rref rs)[i]? = some v := by simpa using hv
      rw [List.getElem?_map] at hv'
      cases hq : rs[i]? with
      | none => rw [hq] at hv'; cases hv'
      | some r => rw [hq] at hv'; exact ⟨r, rfl, (Option.some.inj hv').symm⟩
    refine bPPPP (hrs r (List.mem_of_getElem? hr)) ?_
    intro hrl hrI hrC' hrD'
    refine wpAny_bind (wpAny_of_eq rfl (wpAny_bind ?_))
    have hn₂ : h₂.Ns env.locals m' := hn'.at' fun o e => hk₂ _ o (by simpa using hIC.symm) e
    have hD₂ : h₂.get? D = some (lst9 ((rs.take i).flatMap (·.2))) := hk₂ _ _ (by simpa using hID.symm) hD'
    refine wpAny_assign_Name (wpAny_storeName_local hx hn₂ (fun h₃ hn₃ hs₃ => ?_) (by simp [hk]))
    have hkp₃ : ∀ b o, b ≠ I → b ≠ env.locals → b ≠ D → s.heap.get? b = some o → h₃.get? b = some o := fun b o h1 h2 h3 e => (hs₃.2 b h2).trans (hk₂ b o (by simpa using h1) (hkp b o h1 h2 h3 e))
    have hD₃ : h₃.get? D = some (lst9 ((rs.take i).flatMap (·.2))) := (hs₃.2 D hCD.symm).trans hD₂
    have st₃ : h₃.IsListIter I ax (i + 1) ∧ h₃.IsList ax (List.map rref rs).toArray := W.frame _ _ _ st₂ fun b hb o e => by
      have hb' : b = I ∨ b = ax := by simpa using hb
      refine (hs₃.2 b ?_).trans e
      rcases hb' with e' | e' <;> rw [e'] <;> assumption
    have hrl₃ : h₃.IsList r.1 r.2.toArray := by
      refine ex1 hrl ?_
      intro o hJz
      refine bPP hJz ?_
      clear hJz
      intro e q
      (try clear hrl)
      exact ⟨o, hkp₃ _ _ hrI hrC' hrD' e, q⟩
    refine wpAny_bind (wpAny_Name (wpAny_loadName_local hk hx hn₃ (if_pos rfl) ?_) hxd)
    refine wpAny_bind (wpAny_standAt (wpAny_bind (wpAny_of_eq rfl ?_)))
    refine wpAny_bind (wpAny_holding (wpAny_pyIter_list hrl₃ ?_))
    dsimp only
    have hIlt : I < h₃.objs.size := by obtain ⟨o, e, _⟩ := st₃.1; exact Heap.lt_size e
    have haxlt : ax < h₃.objs.size := by obtain ⟨o, e, _⟩ := st₃.2; exact Heap.lt_size e
    have hrlt : r.1 < h₃.objs.size := by obtain ⟨o, e, _⟩ := hrl₃; exact Heap.lt_size e
    have hDlt : D < h₃.objs.size := Heap.lt_size hD₃
    have hClt : env.locals < h₃.objs.size := hn₃.lt
    have htl : ((rs.take i).flatMap (·.2)).length + r.2.length < 1000 := by
      have e : rs = rs.take i ++ r :: rs.drop (i + 1) := by
        have hg : rs[i] = r := by simpa [hlt] using hr
        rw [← hg, List.getElem_cons_drop, List.take_append_drop]
      have e2 : (rs.flatMap (·.2)).length = ((rs.take i).flatMap (·.2)).length + (r.2.length + ((rs.drop (i + 1)).flatMap (·.2)).length) := by
        conv => lhs; rw [e]
        rw [List.flatMap_append, List.flatMap_cons, List.length_append, List.length_append]
      omega
    have inner : ∀ R' : PySem.Result → Shared → Prop, (∀ h' tk m', (∀ b o, b < h₃.objs.size → b ≠ env.locals → b ≠ D → h₃.get? b = some o → h'.get? b = some o) → h'.get? D = some (lst9 ((rs.take i).flatMap (·.2) ++ r.2)) → h'.Ns env.locals m' → R' (.ok .next) { s with heap := h', toks := tk }) →
        codeAny (model prog w) (A.mark none) (.compLoop (flatE (.Name y p0) (.Name x px) i0 (.Name y p1) (.Name x p2) scope pos) 1 (.ref h₃.objs.size) (.ref D) env) R' { s with heap := h₃.push { cls := .type "list_iterator", data := .fields #[.ref r.1, .int 0 0] }, toks := tk₂ + 1 } := fun R' hR' =>
      flat_inner (ra := r.1) hh hk hy hyd (Nat.ne_of_lt hrlt) (Nat.ne_of_gt hClt) (Nat.ne_of_gt hDlt) hrC' hrD' hCD ⟨_, Heap.get?_push_size _ rfl, rfl, rfl⟩ (hrl₃.push _) (Heap.get?_push_of_some _ hD₃) (hn₃.push _) htl
        fun h' tk m' hk' hD' hn' _ => hR' h' tk m' (fun b o h1 h2 h3 e => hk' b o (Nat.ne_of_lt h1) h2 h3 (Heap.get?_push_of_some _ e)) hD' hn'
    have fin : ∀ (h' : Heap) (tk : Nat) (m' : PySem.Str → Option Value), (∀ b o, b < h₃.objs.size → b ≠ env.locals → b ≠ D → h₃.get? b = some o → h'.get? b = some o) → h'.get? D = some (lst9 ((rs.take i).flatMap (·.2) ++ r.2)) → h'.Ns env.locals m' →
        ∃ h'' tk' i' m'', ({ s with heap := h', toks := tk } : Shared) = { s with heap := h'', toks := tk' } ∧ i' ≤ rs.length ∧ rs.length + 1 - (i + 1) = rs.length + 1 - i' ∧ (h''.IsListIter I ax i' ∧ h''.IsList ax (List.map rref rs).toArray) ∧ h''.get? D = some (lst9 ((rs.take i').flatMap (·.2))) ∧ h''.Ns env.locals m'' ∧
          (∀ b o, b ≠ I → b ≠ env.locals → b ≠ D → s.heap.get? b = some o → h''.get? b = some o) := fun h' tk m' hk' hD' hn' => by
      refine ⟨h', tk, i + 1, m', rfl, hlt, rfl, W.frame _ _ _ st₃ fun b hb o e => ?_, ?_, hn', fun b o h1 h2 h3 e => ?_⟩
      · have hb' : b = I ∨ b = ax := by simpa using hb
        rcases hb' with rfl | rfl
        · exact hk' _ _ hIlt hIC hID e
        · exact hk' _ _ haxlt hrC hrD e
      · rw [hD', List.take_add_one, hr]
        simp
      · have e3 := hkp₃ b o h1 h2 h3 e
        exact hk' b o (Heap.lt_size e3) h2 h3 e3
    refine wpAny_bind (wpAny_runOwn (flat_start1 (inner _ fun h' tk m' hk' hD' hn' => ?_) (wpAny_pyIter_listiter ⟨_, Heap.get?_push_size _ rfl, rfl, rfl⟩ (inner _ fun h' tk m' hk' hD' hn' => ?_))))
    · exact wpAny_pure ⟨rfl, rs.length + 1 - (i + 1), by omega, fin h' tk m' hk' hD' hn'⟩
    · exact wpAny_pure ⟨rfl, rs.length + 1 - (i + 1), by omega, fin h' tk m' hk' hD' hn'⟩
  · obtain rfl : i = rs.length := by omega
    refine W.done _ _ _ (by simpa using st) fun h₂ tk₂ hk₂ => wpAny_pure ?_
    have hn₂ : h₂.Ns env.locals m' := hn'.at' fun o e => hk₂ _ o (by simpa using hIC.symm) e
    have hD₂ := hk₂ _ _ (by simpa using hID.symm) hD'
    rw [List.take_length] at hD₂
    exact hR h₂ tk₂ m' (fun b o h1 h2 h3 e => hk₂ b o (by simpa using h1) (hkp b o h1 h2 h3 e)) hD₂ hn₂
theorem flat_comp {h₀ : Heap} {L : Addr} {x y : PySem.Str} {px p0 p1 p2 pos : PySem.Pos} {iter : PySem.Expr} {scope : PySem.Scope} {Q : Value → Shared → Prop}
    (hfree : ∀ z ∈ scope.names, z.2 ≠ .free) (hcell : ∀ z ∈ scope.names, z.2 ≠ .cell) (hkind : scope.kind = .function) (hnames : ∀ z ∈ scope.names, z.2 = .local → scope.names.lookup z.1 = some .local)
    (hx : scope.names.lookup x = some .local) (hy : scope.names.lookup y = some .local) (hxd : (x == ("__debug__" : PySem.Str)) = false) (hyd : (y == ("__debug__" : PySem.Str)) = false)
    (h : wpAny (model prog w) A (eval iter env) (fun xv s₁ => ∃ ax rs n news m₁, xv = .ref ax ∧ A.handled = none ∧ Fr h₀ L s₁.heap m₁ ∧ News h₀ L s₁.heap news ∧ (ax, listOf (List.map rref rs).toArray n) ∈ news ∧
      (∀ r ∈ rs, ∃ k, (r.1, listOf r.2.toArray k) ∈ news) ∧ rs.length < 1000 ∧ (rs.flatMap (·.2)).length < 1000 ∧
      ∀ D h tk k, Fr h₀ L h m₁ → News h₀ L h ((D, listOf (rs.flatMap (·.2)).toArray k) :: news) → (∀ p ∈ news, p.1 < D) → Q (.ref D) { s₁ with heap := h, toks := tk }) E s)
    (hs : ∀ x, foldedSetIterable iter env x = pure x := by intro _; rfl) :
    wpAny (model prog w) A (eval (flatE (.Name y p0) (.Name x px) iter (.Name y p1) (.Name x p2) scope pos) env) Q E s := by
  refine wpAny_ListComp hfree hkind hnames (wpAny_mono h (fun xv s₁ h₁ => ?_) fun _ _ e => e) hs
  refine ex5 h₁ ?_
  intro ax rs n news m₁ hJz
  refine bPPPPPPPPP hJz ?_
  clear hJz
  intro hEq1 hh F N hax hrs hl1 hl2 hQ
  subst hEq1
  (try clear h₁)
  have hl : s₁.heap.IsList ax (List.map rref rs).toArray := ⟨_, (N _ hax).1, rfl, n, rfl⟩
  have haxlt : ax < s₁.heap.objs.size := Heap.lt_size (N _ hax).1
  refine wpAny_pyIter_list hl ?_
  refine wpAny_newObj_type (wpAny_newFunctionEnv hcell (by intro y hy; simp at hy) (fun h₁ hns₁ hsb₁ => ?_) hkind)
  dsimp only at hns₁ hsb₁ ⊢
  have hDe : (s₁.heap.push { cls := .type "list_iterator", data := .fields #[.ref ax, .int 0 0] }).objs.size = s₁.heap.objs.size + 1 := Heap.size_push ..
  have hCe : ((s₁.heap.push { cls := .type "list_iterator", data := .fields #[.ref ax, .int 0 0] }).push { cls := .type "list", dict := none, data := .seq ([] : List Value).toArray }).objs.size = s₁.heap.objs.size + 2 := by rw [Heap.size_push, hDe]
  have hit₀ : (s₁.heap.push { cls := .type "list_iterator", data := .fields #[.ref ax, .int 0 0] }).get? s₁.heap.objs.size = some { cls := .type "list_iterator", data := .fields #[.ref ax, .int 0 0] } := Heap.get?_push_size _ rfl
  have hD₀ : ((s₁.heap.push { cls := .type "list_iterator", data := .fields #[.ref ax, .int 0 0] }).push { cls := .type "list", dict := none, data := .seq ([] : List Value).toArray }).get? (s₁.heap.objs.size + 1) = some (lst9 []) := by
    rw [← hDe]; exact Heap.get?_push_size _ rfl
  have hold₀ : ∀ b o, s₁.heap.get? b = some o → ((s₁.heap.push { cls := .type "list_iterator", data := .fields #[.ref ax, .int 0 0] }).push { cls := .type "list", dict := none, data := .seq ([] : List Value).toArray }).get? b = some o := fun b o e => Heap.get?_push_of_some _ (Heap.get?_push_of_some _ e)
  have hit₁ := Heap.get?_push_of_some { cls := .type "list", dict := none, data := .seq ([] : List Value).toArray } hit₀
  rw [hDe]
  have hIne : s₁.heap.objs.size ≠ s₁.heap.objs.size + 1 := Nat.ne_of_lt (Nat.lt_succ_self _)
  have hlow : ∀ b, b < s₁.heap.objs.size → b ≠ s₁.heap.objs.size ∧ b ≠ s₁.heap.objs.size + 2 ∧ b ≠ s₁.heap.objs.size + 1 := fun b hb => ⟨Nat.ne_of_lt hb, Nat.ne_of_lt (by omega), Nat.ne_of_lt (by omega)⟩
  generalize ((s₁.heap.push { cls := .type "list_iterator", data := .fields #[.ref ax, .int 0 0] }).push { cls := .type "list", dict := none, data := .seq ([] : List Value).toArray }) = H2 at *
  rw [hCe] at hns₁ hsb₁ ⊢
  have hb1 : ∀ b o, H2.get? b = some o → h₁.get? b = some o := fun b o e => hsb₁.extBut b o (by
    have := Heap.lt_size e; rw [hCe] at this; exact Nat.ne_of_lt this) (Heap.get?_push_of_some _ e)
  have hold : ∀ b o, s₁.heap.get? b = some o → h₁.get? b = some o := fun b o e => hb1 b o (hold₀ b o e)
  have main : ∀ (cenv : Env) (R : PySem.Result → Shared → Prop) (tk : Nat), cenv.locals = s₁.heap.objs.size + 2 → cenv.scope = scope →
      (∀ h' tk m', (∀ b o, s₁.heap.get? b = some o → h'.get? b = some o) → h'.get? (s₁.heap.objs.size + 1) = some (lst9 (rs.flatMap (·.2))) → h'.Ns (s₁.heap.objs.size + 2) m' → R (.ok .next) { s₁ with heap := h', toks := tk }) →
      codeAny (model prog w) (A.mark none) (.compLoop (flatE (.Name y p0) (.Name x px) iter (.Name y p1) (.Name x p2) scope pos) 0 (.ref s₁.heap.objs.size) (.ref (s₁.heap.objs.size + 1)) cenv) R { s₁ with heap := h₁, toks := tk } := by
    intro cenv R tk hcl hcs hR
    have hkx : ∀ z, scope.names.lookup z = some .local → cenv.kindOf z = some .local := fun z hz => by
      show cenv.scope.names.lookup z = _
      rw [hcs]; exact hz
    refine flat_outer (m := fun x => ([] : List (PySem.Str × Value)).reverse.lookup x) (ax := ax) (rs := rs) hh (by rw [hcs]; exact hkind) (hkx x hx) (hkx y hy) hxd hyd (hlow ax haxlt).1 (by rw [hcl]; exact Nat.ne_of_lt (by omega)) hIne (by rw [hcl]; exact (hlow ax haxlt).2.1) (hlow ax haxlt).2.2 (by rw [hcl]; exact Nat.ne_of_gt (by omega))
      ⟨_, hb1 _ _ hit₁, rfl, rfl⟩ (hl.at fun o e => hold _ _ e) (hb1 _ _ hD₀) (by rw [hcl]; exact hns₁) (fun r hr => ?_) hl2 fun h' tk m' hk' hD' hn' => hR h' tk m' (fun b o e => ?_) hD' (by rw [hcl] at hn'; exact hn')
    · refine ex1 (hrs r hr) ?_
      intro k hJz
      revert hJz
      intro hk
      have z := (N _ hk).1
      have zl := hlow r.1 (Heap.lt_size z)
      exact ⟨⟨_, hold _ _ z, rfl, k, rfl⟩, zl.1, by rw [hcl]; exact zl.2.1, zl.2.2⟩
    · have zl := hlow b (Heap.lt_size e)
      exact hk' b o zl.1 (by rw [hcl]; exact zl.2.1) zl.2.2 (hold b o e)
  have fin : ∀ (h' : Heap) (tk : Nat) (m' : PySem.Str → Option Value), (∀ b o, s₁.heap.get? b = some o → h'.get? b = some o) → h'.get? (s₁.heap.objs.size + 1) = some (lst9 (rs.flatMap (·.2))) → h'.Ns (s₁.heap.objs.size + 2) m' →
      ∃ m, h'.Ns (s₁.heap.objs.size + 2) m ∧ ∀ h'', Heap.SameBut (s₁.heap.objs.size + 2) h' h'' → Q (.ref (s₁.heap.objs.size + 1)) { s₁ with heap := h'', toks := tk } := fun h' tk m' hk' hD' hn' => by
    refine ⟨m', hn', fun h'' hs'' => hQ _ h'' tk (rs.flatMap (·.2)).length ?_ (fun p hp => ?_) fun p hp => Nat.lt_succ_of_lt (Heap.lt_size (N p hp).1)⟩
    · have kk : ∀ b o, s₁.heap.get? b = some o → h''.get? b = some o := fun b o e => (hs''.2 b (hlow b (Heap.lt_size e)).2.1).trans (hk' b o e)
      exact F.keeps kk
    · rcases List.mem_cons.mp hp with rfl | hp
      · refine ⟨(hs''.2 _ (Nat.ne_of_lt (by omega))).trans hD', Nat.ne_of_gt (Nat.lt_succ_of_lt F.ns.lt), ?_⟩
        cases q : h₀.get? (s₁.heap.objs.size + 1) with
        | none => rfl
        | some o' =>
          have hq : s₁.heap.objs.size + 1 < s₁.heap.objs.size := Heap.lt_size (F.keep _ _ q)
          exact absurd hq (Nat.not_lt.mpr (Nat.le_succ _))
      · exact ⟨(hs''.2 _ (hlow _ (Heap.lt_size (N p hp).1)).2.1).trans (hk' _ _ (N p hp).1), (N p hp).2⟩
  exact codeAny_compStart_list (main _ _ _ rfl rfl fin) (wpAny_pyIter_listiter ⟨_, hb1 _ _ hit₁, rfl, rfl⟩ (main _ _ _ rfl rfl fin))
end
end Mine
end
-- part Rs
section
open PySem PySem.W PyProof.Rows PySem.Spec PySem.Calls
set_option Elab.async false
namespace Mine
section
variable {prog : PySem.Program} {w : PySem.World} {A : Around} {E : Value → Shared → Prop} {s : Shared} {h₀ : Heap} {L : Addr} {m : PySem.Str → Option Value} {env : Env}
theorem range_stC {I : Addr} {a c : Int} {n : Nat} : ∀ i (h h' : Heap) (o : Obj) (nw : List (Addr × Obj)), IsRangeIter h I (a + (i : Nat) * c) ((n : Int) - (i : Nat)) c → h.get? I = some o → h'.get? I = some o → (∀ b o, h₀.get? b = some o → h'.get? b = some o) → News h₀ L h' nw → True → IsRangeIter h' I (a + (i : Nat) * c) ((n : Int) - (i : Nat)) c :=
  fun i h h' o nw st e e' _ _ _ => by
    have st' : h.get? I = some _ := st
    show h'.get? I = some _
    rw [e', ← e]; exact st'
def SrcS (prog : PySem.Program) (w : PySem.World) (A : Around) (h₀ : Heap) (L : Addr) (m : PySem.Str → Option Value) (env : Env) (elt : PySem.Expr) (x : PySem.Str) (scope : PySem.Scope) (cl : List (PySem.Str × Addr)) (Q : Value → Shared → Prop) (xv : Value) (s₁ : Shared) : Prop :=
  ∃ r a b c t u v n news, xv = .ref r ∧ A.handled = none ∧ Fr h₀ L s₁.heap m ∧ News h₀ L s₁.heap news ∧ IsRange s₁.heap r a b c t u v ∧ Builtin.Range.small a b c = true ∧ Builtin.Range.rangeSize a b c = ((n : Nat) : Int) ∧ n ≤ sizeLine ∧
    ∀ g, LCg.CompRest prog w A h₀ L m env elt x scope cl { s₁ with heap := g } (fun _ => True) (fun i v => ∃ t, v = .int (a + i * c) t) (LCg.FinE h₀ L m { s₁ with heap := g } Q) n 0 [] news
theorem SrcS.intro {elt : PySem.Expr} {x : PySem.Str} {scope : PySem.Scope} {cl : List (PySem.Str × Addr)} {Q : Value → Shared → Prop} {r : Addr} {a b c : Int} {t u v : Tok} (n : Nat) {news : List (Addr × Obj)} {s₁ : Shared}
    (hh : A.handled = none) (F : Fr h₀ L s₁.heap m) (N : News h₀ L s₁.heap news) (hr : IsRange s₁.heap r a b c t u v) (hsm : Builtin.Range.small a b c = true) (hn : Builtin.Range.rangeSize a b c = ((n : Nat) : Int)) (hsz : n ≤ sizeLine)
    (h : ∀ g, LCg.CompRest prog w A h₀ L m env elt x scope cl { s₁ with heap := g } (fun _ => True) (fun i v => ∃ t, v = .int (a + i * c) t) (LCg.FinE h₀ L m { s₁ with heap := g } Q) n 0 [] news) :
    SrcS prog w A h₀ L m env elt x scope cl Q (.ref r) s₁ := ⟨r, a, b, c, t, u, v, n, news, rfl, hh, F, N, hr, hsm, hn, hsz, h⟩
theorem step_comp {elt iter : PySem.Expr} {x : PySem.Str} {px : PySem.Pos} {scope : PySem.Scope} {cl : List (PySem.Str × Addr)} {pos : PySem.Pos} {Q : Value → Shared → Prop} (F₀ : Fr h₀ L s.heap m)
    (hclos : closureFor scope env = pure cl) (hcell : ∀ y ∈ scope.names, y.2 ≠ .cell) (hkind : scope.kind = .function)
    (hnames : ∀ y ∈ scope.names, y.2 = .local → scope.names.lookup y.1 = some .local) (hx : scope.names.lookup x = some .local)
    (h : wpAny (model prog w) A (eval iter env) (SrcS prog w A h₀ L m env elt x scope cl Q) E s)
    (hs : ∀ x, foldedSetIterable iter env x = pure x := by intro _; rfl) :
    wpAny (model prog w) A (eval (.ListComp elt [⟨.Name x px, iter, [], 0⟩] scope pos) env) Q E s := by
  rw [eval_ListComp]
  refine wpAny_comprehension_free (use := none) rfl hs hclos hkind hnames (wpAny_mono h (fun xv s₁ h₁ => ?_) fun _ _ e => e)
  obtain ⟨r, a, b, c, t, u, v, n, news, rfl, hh, F, N, hr, hsm, hn, hsz, R⟩ := h₁
  refine wpAny_pyIter_range hr hsm ?_
  refine LCg.block_U (Walks.range hh s₁.heap.objs.size a c n) hsz (fun i h st => ⟨_, st⟩) range_stC hcell hkind hx (by show IsRangeIter _ _ _ _ _; rw [hn]; simpa using Heap.get?_push_size _ rfl) (fun b hb => ?_)
    (F.keeps fun _ _ e => Heap.get?_push_of_some _ e) (N.grown fun _ _ e => Heap.get?_push_of_some _ e) (Nat.ne_of_lt F.ns.lt) (next_is_new F) (fun p hp => Nat.ne_of_lt (Heap.lt_size (N p hp).1)) trivial (R _) ?_
  · rw [List.mem_singleton.mp hb]
    show s₁.heap.objs.size < (s₁.heap.push _).objs.size
    rw [Heap.size_push]; exact Nat.lt_succ_self _
  · intro D C h tk m' ys news' F' N' o1 hn hC₀ hD₀ hCL hDL hCD offC fin
    refine ⟨m', hn, fun h'' hs'' => fin D h'' tk (F'.change hs'' hCL hC₀) (fun p hp => ?_) o1⟩
    refine ⟨hs''.extBut _ _ ?_ (N' p hp).1, (N' p hp).2⟩
    rcases List.mem_cons.mp hp with rfl | hp
    · exact Ne.symm hCD
    · exact offC p hp
end
end Mine
namespace Mine
section
variable {prog : PySem.Program} {w : PySem.World} {A : Around} {s : Shared} {h₀ : Heap} {L : Addr} {m : PySem.Str → Option Value} {env : Env}
theorem comp_inv {elt : PySem.Expr} {x : PySem.Str} {scope : PySem.Scope} {cl : List (PySem.Str × Addr)} {S : List (Addr × Obj) → Prop} {P : Nat → Value → Prop} {Fin : List Value → List (Addr × Obj) → Prop} {n : Nat}
    (Inv : Nat → List Value → List (Addr × Obj) → Prop)
    (step : ∀ i ys news, i < n → Inv i ys news → ∀ v I oI C oC D m₂ h tk (E' : Value → Shared → Prop), P i v → LCg.NsObj oC m₂ → m₂ x = some v → Fr h₀ L h m → News h₀ L h ((I, oI) :: (C, oC) :: (D, LCg.lst ys) :: news) → LCg.Off3 I C D news → ((@Ne Nat I C) ∧ (@Ne Nat I D) ∧ (@Ne Nat C D)) →
      wpAny (model prog w) A (eval elt (compEnvC scope cl C env)) (LCg.CompEnd h₀ L m { s with heap := h, toks := tk } I oI C oC D (LCg.lst ys) S (fun y news' => Inv (i + 1) (ys ++ [y]) news')) E' { s with heap := h, toks := tk })
    (fin : ∀ ys news, Inv n ys news → Fin ys news) :
    ∀ j i ys news, i + j = n → Inv i ys news → LCg.CompRest prog w A h₀ L m env elt x scope cl s S P Fin j i ys news
  | 0, i, ys, news, e, hI => LCg.CompRest.zero (fin ys news (by rw [Nat.add_zero] at e; exact e ▸ hI))
  | j + 1, i, ys, news, e, hI => LCg.CompRest.succ (by
      intro v I oI C oC D m₂ h tk E' hP hC hx F N off ne
      refine wpAny_mono (step i ys news (by omega) hI v I oI C oC D m₂ h tk E' hP hC hx F N off ne) (fun y s₄ h₄ => ?_) fun _ _ e => e
      obtain ⟨h₄, tk₄, news₄, rfl, F₄, N₄, off₄, hS₄, R₄⟩ := h₄
      exact ⟨h₄, tk₄, news₄, rfl, F₄, N₄, off₄, hS₄, comp_inv Inv step fin j (i + 1) _ _ (by omega) R₄⟩)
end
theorem rows_size {n c : Nat} (hc : 0 < c) : Builtin.Range.rangeSize 0 ((n * c : Nat) : Int) (c : Int) = ((n : Nat) : Int) := by
  unfold Builtin.Range.rangeSize
  have h1 : ((c : Int) > 0) := by omega
  rw [if_pos h1]
  cases n with
  | zero => simp
  | succ n =>
    have h2 : (0 : Int) < (((n + 1) * c : Nat) : Int) := by
      have : 0 < (n + 1) * c := Nat.mul_pos (Nat.succ_pos _) hc
      omega
    rw [if_pos h2]
    have h3 : ((((n + 1) * c : Nat) : Int) - 0 - 1) / (c : Int) = n := by
      have e : ((((n + 1) * c : Nat) : Int) - 0 - 1) = ((n * c + (c - 1) : Nat) : Int) := by
        rw [Nat.succ_mul]; omega
      rw [e]
      have : (n * c + (c - 1)) / c = n := by
        rw [Nat.mul_comm, Nat.mul_add_div hc, Nat.div_eq_of_lt (by omega)]; rfl
      exact_mod_cast this
    rw [h3]; rfl
theorem take_chunk {rss : List (List Value)} {wide i : Nat} (hr : ∀ r ∈ rss, r.length = wide) (hi : i < rss.length) : (rss.flatten.drop (i * wide)).take wide = rss[i] := by
  induction rss generalizing i with
  | nil => simp at hi
  | cons r t ih =>
    have hrl := hr r (.head _)
    cases i with
    | zero => simp [← hrl]
    | succ i =>
      rw [List.flatten_cons, Nat.succ_mul, Nat.add_comm, ← List.drop_drop, ← hrl, List.drop_left]
      rw [hrl]
      have := ih (i := i) (fun x hx => hr x (.tail _ hx)) (by simpa using hi)
      simpa using this
end Mine
namespace Mine
theorem pick_row (vs : List Value) (i c : Nat) : (slicePick vs.toArray (some ((i * c : Nat) : Int)) (some (((i * c : Nat) : Int) + (c : Int))) none).toList = (vs.drop (i * c)).take c := by
  have := pick_run' vs (i * c) (i * c + c)
  rw [show ((i * c + c : Nat) : Int) = ((i * c : Nat) : Int) + (c : Int) by push_cast; rfl] at this
  rw [this, Nat.add_sub_cancel_left]
def RowEnd (h₀ : Heap) (L : Addr) (m : PySem.Str → Option Value) (s : Shared) (led : Led) (vs : List Value) (y : Value) (s₂ : Shared) : Prop :=
  ∃ A h' tk' k, y = .ref A ∧ s₂ = { s with heap := h', toks := tk' } ∧ Fr h₀ L h' m ∧ News h₀ L h' ((A, listOf vs.toArray k) :: led) ∧ ∀ p ∈ led, p.1 < A
section
variable {prog : PySem.Program} {w : PySem.World} {A : Around} {h₀ : Heap} {L : Addr} {m : PySem.Str → Option Value} {env : Env}
theorem rows_src {elt : PySem.Expr} {x : PySem.Str} {scope : PySem.Scope} {cl : List (PySem.Str × Addr)} {Q : Value → Shared → Prop} {r : Addr} {b : Int} {t u v : Tok} {rss : List (List Value)} {wide : Nat} {base : Led} {s₁ : Shared}
    (hh : A.handled = none) (F : Fr h₀ L s₁.heap m) (N : News h₀ L s₁.heap base) (hr : IsRange s₁.heap r 0 b (wide : Int) t u v) (hb : b = ((rss.length * wide : Nat) : Int)) (hw : 0 < wide) (hw1 : wide < 10) (hn : rss.length < 10)
    (step : ∀ i rs own, (hi : i < rss.length) → rs.map (·.2) = rss.take i → (∀ r ∈ rs, ∃ k, (r.1, listOf r.2.toArray k) ∈ own) → ∀ t I oI C oC D m₂ h tk (E' : Value → Shared → Prop) g, LCg.NsObj oC m₂ → m₂ x = some (.int ((i * wide : Nat) : Int) t) → Fr h₀ L h m → News h₀ L h ((I, oI) :: (C, oC) :: (D, LCg.lst (List.map rref rs)) :: (own ++ base)) →
      LCg.Off3 I C D (own ++ base) → ((@Ne Nat I C) ∧ (@Ne Nat I D) ∧ (@Ne Nat C D)) →
      wpAny (model prog w) A (eval elt (compEnvC scope cl C env)) (RowEnd h₀ L m { { s₁ with heap := g } with heap := h, toks := tk } ((I, oI) :: (C, oC) :: (D, LCg.lst (List.map rref rs)) :: (own ++ base)) rss[i]) E' { { s₁ with heap := g } with heap := h, toks := tk })
    (fin : ∀ rs own D h tk g, rs.map (·.2) = rss → (∀ r ∈ rs, ∃ k, (r.1, listOf r.2.toArray k) ∈ own) → Fr h₀ L h m → News h₀ L h ((D, LCg.lst (List.map rref rs)) :: (own ++ base)) → Q (.ref D) { { s₁ with heap := g } with heap := h, toks := tk }) :
    SrcS prog w A h₀ L m env elt x scope cl Q (.ref r) s₁ := by
  have hm : rss.length * wide < 100 := Nat.lt_of_lt_of_le (Nat.mul_lt_mul'' hn hw1) (by decide)
  refine SrcS.intro rss.length hh F N hr ?_ (by rw [hb]; exact rows_size hw) (by rw [sizeLine_eq]; omega) fun g => ?_
  · unfold Builtin.Range.small
    subst hb
    have e1 : ((rss.length * wide : Nat) : Int) < 100 := by omega
    have e2 : (0 : Int) ≤ ((rss.length * wide : Nat) : Int) := by omega
    have e3 : ∀ z : Int, -100 ≤ z → z ≤ 200 → Builtin.Range.rangeFitsLong z = true := fun z h1 h2 => by
      unfold Builtin.Range.rangeFitsLong
      simp only [Bool.and_eq_true, decide_eq_true_eq]
      omega
    simp only [rows_size hw, show ((wide : Int) > 0) by omega, if_true, Bool.and_eq_true, Bool.or_eq_true]
    refine ⟨⟨⟨⟨e3 _ (by omega) (by omega), e3 _ (by omega) (by omega)⟩, e3 _ (by omega) (by omega)⟩, e3 _ (by omega) (by omega)⟩, .inr (e3 _ (by omega) (by omega))⟩
  refine comp_inv (fun i ys news₁ => ∃ (rs : List RowL) (own : Led), ys = List.map rref rs ∧ rs.map (·.2) = rss.take i ∧ news₁ = own ++ base ∧ ∀ r ∈ rs, ∃ k, (r.1, listOf r.2.toArray k) ∈ own) ?_ ?_ rss.length 0 [] base (Nat.zero_add _) ⟨[], [], rfl, by simp, rfl, fun _ h => nomatch h⟩
  · rintro i ys news hi ⟨rs, own, rfl, hrs, rfl, hro⟩ v I oI C oC D m₂ h tk E' ⟨t, rfl⟩ hC hx F N off ne
    rw [show (0 : Int) + (i : Int) * (wide : Int) = ((i * wide : Nat) : Int) by push_cast; omega] at hx
    refine wpAny_mono (step i rs own hi hrs hro t I oI C oC D m₂ h tk E' g hC hx F N off ne) (fun y s₄ h₄ => ?_) fun _ _ e => e
    obtain ⟨A', h', tk', k, rfl, rfl, F', N', lt⟩ := h₄
    refine ⟨h', tk', (A', listOf (rss[i]'hi).toArray k) :: (own ++ base), rfl, F', fun p hp => N' p ?_, ⟨⟨(Nat.ne_of_lt (lt (I, oI) (.head _))).symm, (Nat.ne_of_lt (lt (C, oC) (.tail _ (.head _)))).symm, (Nat.ne_of_lt (lt (D, _) (.tail _ (.tail _ (.head _))))).symm⟩, off⟩, trivial, rs ++ [(A', rss[i]'hi)], (A', listOf (rss[i]'hi).toArray k) :: own, by simp, ?_, rfl, ?_⟩
    · simp only [List.mem_cons] at hp ⊢
      rcases hp with rfl | rfl | rfl | rfl | hp
      · exact .inr (.inl rfl)
      · exact .inr (.inr (.inl rfl))
      · exact .inr (.inr (.inr (.inl rfl)))
      · exact .inl rfl
      · exact .inr (.inr (.inr (.inr hp)))
    · rw [List.map_append, hrs, List.take_add_one]; simp [hi]
    · intro r hr
      rcases List.mem_append.mp hr with hr | hr
      · obtain ⟨k', hk'⟩ := hro r hr
        exact ⟨k', .tail _ hk'⟩
      · rw [List.mem_singleton.mp hr]
        exact ⟨k, .head _⟩
  · rintro ys news ⟨rs, own, rfl, hrs, rfl, hro⟩
    intro D h tk F' N' _
    exact fin rs own D h tk g (by rw [hrs, List.take_length]) hro F' N'
end
end Mine
end
-- part Pw
section
open PySem PySem.W PyProof.Rows PySem.Spec PySem.Calls
set_option Elab.async false
namespace Mine
section
variable {α : Type} {b : α → α → Bool} {S : α → Prop}
/-- x before y: x does not stand behind y -/
abbrev Srt (b : α → α → Bool) (l : List α) : Prop := l.Pairwise fun x y => b y x = false
theorem cut_eq (neg : ∀ r x y, S r → S x → S y → b r x = true → b r y = false → b y x = true) {row : α} {acc : List α} (hr : S row) (hS : ∀ x ∈ acc, S x) (hs : Srt b acc) :
    cutR (b row) acc acc.length = acc.findIdx (b row) := by
  have up : ∀ i j (hi : i < acc.length) (hj : j < acc.length), i < j → b row acc[i] = true → b row acc[j] = true := by
    intro i j hi hj hij h
    cases q : b row acc[j] with
    | true => rfl
    | false =>
      have h1 := neg row acc[i] acc[j] hr (hS _ (List.getElem_mem hi)) (hS _ (List.getElem_mem hj)) h q
      have h2 := List.pairwise_iff_getElem.mp hs i j hi hj hij
      rw [h1] at h2; cases h2
  have main : ∀ n, acc.findIdx (b row) ≤ n → n ≤ acc.length → cutR (b row) acc n = acc.findIdx (b row) := by
    intro n
    induction n with
    | zero => intro h _; have : acc.findIdx (b row) = 0 := by omega
              rw [this]; rfl
    | succ n ih =>
      intro h hn
      have hlt : n < acc.length := hn
      have hx : acc[n]? = some acc[n] := by simp [hlt]
      by_cases hk : acc.findIdx (b row) = n + 1
      · rw [hk]
        exact cutR_no hx (by
          have := List.not_of_lt_findIdx (p := b row) (xs := acc) (i := n) (by omega)
          simpa using this)
      · have hle : acc.findIdx (b row) ≤ n := by omega
        have hfl : acc.findIdx (b row) < acc.length := by omega
        have hp : b row acc[acc.findIdx (b row)] = true := List.findIdx_getElem (w := hfl)
        have hq : b row acc[n] = true := by
          rcases Nat.lt_or_ge (acc.findIdx (b row)) n with h' | h'
          · exact up _ _ hfl hlt h' hp
          · have : acc.findIdx (b row) = n := by omega
            simp only [this] at hp; exact hp
        rw [cutR_yes hx hq]
        exact ih hle (by omega)
  exact main _ (List.findIdx_le_length ..) (Nat.le_refl _)
theorem ins_srt (asym : ∀ x y, S x → S y → b x y = true → b y x = false) (neg : ∀ r x y, S r → S x → S y → b r x = true → b r y = false → b y x = true) {row : α} {acc : List α} (hr : S row) (hS : ∀ x ∈ acc, S x) (hs : Srt b acc) :
    Srt b (insL b acc row) := by
  have hsp := hs
  rw [← List.take_append_drop (acc.findIdx (b row)) acc] at hsp
  obtain ⟨p1, p2, p3⟩ := List.pairwise_append.mp hsp
  have hpre : ∀ x ∈ acc.take (acc.findIdx (b row)), b row x = false := by
    intro x hx
    obtain ⟨i, hi, rfl⟩ := List.mem_take_iff_getElem.mp hx
    have := List.not_of_lt_findIdx (p := b row) (xs := acc) (i := i) (by omega)
    simpa using this
  have hsuf : ∀ y ∈ acc.drop (acc.findIdx (b row)), b row y = true := by
    intro y hy
    obtain ⟨i, hi, rfl⟩ := List.mem_drop_iff_getElem.mp hy
    have hfl : acc.findIdx (b row) < acc.length := by omega
    have hp : b row acc[acc.findIdx (b row)] = true := List.findIdx_getElem (w := hfl)
    cases i with
    | zero => exact hp
    | succ i =>
      cases q : b row acc[acc.findIdx (b row) + (i + 1)] with
      | true => rfl
      | false =>
        have h1 := neg row acc[acc.findIdx (b row)] acc[acc.findIdx (b row) + (i + 1)] hr (hS _ (List.getElem_mem _)) (hS _ (List.getElem_mem _)) hp q
        have h2 := List.pairwise_iff_getElem.mp hs (acc.findIdx (b row)) (acc.findIdx (b row) + (i + 1)) hfl (by omega) (by omega)
        rw [h1] at h2; cases h2
  unfold insL putAt
  refine List.pairwise_append.mpr ⟨p1, List.pairwise_cons.mpr ⟨fun y hy => asym _ _ hr (hS y (List.mem_of_mem_drop hy)) (hsuf y hy), p2⟩, fun x hx y hy => ?_⟩
  rcases List.mem_cons.mp hy with rfl | hy
  · exact hpre x hx
  · exact p3 x hx y hy
theorem sort_eq (asym : ∀ x y, S x → S y → b x y = true → b y x = false) (neg : ∀ r x y, S r → S x → S y → b r x = true → b r y = false → b y x = true) {rs : List α} (hS : ∀ x ∈ rs, S x) : sortR b rs = sortL b rs := by
  have main : ∀ (l acc : List α), (∀ x ∈ l, S x) → (∀ x ∈ acc, S x) → Srt b acc → l.foldl (insR b) acc = l.foldl (insL b) acc := by
    intro l
    induction l with
    | nil => intro acc _ _ _; rfl
    | cons row l ih =>
      intro acc hl ha hs
      have hr := hl row (.head _)
      have e : insR b acc row = insL b acc row := by unfold insR insL; rw [cut_eq neg hr ha hs]
      rw [List.foldl_cons, List.foldl_cons, e]
      exact ih _ (fun x hx => hl x (.tail _ hx)) (fun x hx => (insL_mem b acc row x hx).elim (fun e => e ▸ hr) (ha x)) (ins_srt asym neg hr ha hs)
  exact main rs [] hS (fun _ h => nomatch h) .nil
theorem insR_map {β : Type} {b' : β → β → Bool} {f : α → β} (hb : ∀ r x, b' (f r) (f x) = b r x) (l : List α) (row : α) : (insR b l row).map f = insR b' (l.map f) (f row) := by
  have h : ∀ k, cutR (b' (f row)) (l.map f) k = cutR (b row) l k := by
    intro k
    induction k with
    | zero => rfl
    | succ k ih =>
      unfold cutR
      rw [ih, List.getElem?_map]
      cases l[k]? <;> simp [hb]
  unfold insR
  rw [putAt_map, List.length_map, h]
theorem sortR_map {β : Type} {b' : β → β → Bool} {f : α → β} (hb : ∀ r x, b' (f r) (f x) = b r x) (rs : List α) : (sortR b rs).map f = sortR b' (rs.map f) := by
  have main : ∀ (l acc : List α), (l.foldl (insR b) acc).map f = (l.map f).foldl (insR b') (acc.map f) := by
    intro l
    induction l with
    | nil => intro acc; rfl
    | cons r l ih => intro acc; rw [List.foldl_cons, List.map_cons, List.foldl_cons, ih, insR_map hb]
  exact main rs []
end
theorem ltv_asym {x y : Value} (hx : IsIS x) (hy : IsIS y) (h : ltv x y = true) : ltv y x = false := by
  rcases hx with ⟨i, t, rfl⟩ | ⟨i, t, rfl⟩ <;> rcases hy with ⟨j, u, rfl⟩ | ⟨j, u, rfl⟩ <;> simp only [ltv, decide_eq_true_eq, decide_eq_false_iff_not] at h ⊢
  · omega
  · cases h
  · exact List.lt_asymm h
theorem ltv_neg {r x y : Value} (hr : IsIS r) (hx : IsIS x) (hy : IsIS y) (h : ltv r x = true) (h' : ltv r y = false) : ltv y x = true := by
  rcases hr with ⟨i, t, rfl⟩ | ⟨i, t, rfl⟩ <;> rcases hx with ⟨j, u, rfl⟩ | ⟨j, u, rfl⟩ <;> rcases hy with ⟨k, v, rfl⟩ | ⟨k, v, rfl⟩ <;> simp only [ltv, decide_eq_true_eq, decide_eq_false_iff_not] at h h' ⊢
  all_goals first | omega | (cases h; done) | (cases h'; done) | exact List.lt_of_le_of_lt (List.not_lt.mp h') h
theorem ltv_neg' {r x y : Value} (hr : IsIS r) (hx : IsIS x) (hy : IsIS y) (h : ltv x r = true) (h' : ltv y r = false) : ltv x y = true := by
  cases q : ltv x y with
  | true => rfl
  | false =>
    have := ltv_neg hx hr hy h q
    rw [this] at h'; cases h'
theorem bh_asym {d : Bool} {c : Nat} {x y : RowL} (hx : IsIS (cellOf c x)) (hy : IsIS (cellOf c y)) (h : bh d c x y = true) : bh d c y x = false := by
  cases d
  · exact ltv_asym hx hy h
  · exact ltv_asym hy hx h
theorem bh_neg {d : Bool} {c : Nat} {r x y : RowL} (hr : IsIS (cellOf c r)) (hx : IsIS (cellOf c x)) (hy : IsIS (cellOf c y)) (h : bh d c r x = true) (h' : bh d c r y = false) : bh d c y x = true := by
  cases d
  · exact ltv_neg hr hx hy h h'
  · exact ltv_neg' hr hx hy h h'
/-- what a sort by the column c makes of the rows' cells -/
def bhc (d : Bool) (c : Nat) (row x : List Value) : Bool := bh d c (0, row) (0, x)
theorem sort_cells {d : Bool} {c : Nat} {rs : List RowL} (h : ∀ r ∈ rs, IsIS (cellOf c r)) : (sortL (bh d c) rs).map (·.2) = sortR (bhc d c) (rs.map (·.2)) := by
  rw [← sort_eq (S := fun r : RowL => IsIS (cellOf c r)) (fun x y hx hy e => bh_asym hx hy e) (fun r x y hr hx hy e e' => bh_neg hr hx hy e e') h]
  exact sortR_map (b := bh d c) (b' := bhc d c) (f := fun x : RowL => x.2) (fun _ _ => rfl) rs
theorem sort_cellsR {d : Bool} {c : Nat} {rs : List RowL} : (sortR (bh d c) rs).map (·.2) = sortR (bhc d c) (rs.map (·.2)) := sortR_map (b := bh d c) (b' := bhc d c) (f := fun x : RowL => x.2) (fun _ _ => rfl) rs
end Mine
end
-- part Dk
section
open PySem PySem.W PyProof.Rows PySem.Spec PySem.Calls
set_option Elab.async false
set_option maxRecDepth 100000
namespace Mine
/-! A program that calls nothing and whose writes change no object's dictionary: what it ends in still has the dictionary of `e`. -/
def ExcOk (e : Addr) (mE : PySem.Str → Option Value) (h : Heap) : Prop := ∃ o dx vs, h.get? e = some o ∧ o.cls = .ref 34 ∧ o.data = .fields vs ∧ o.dict = some dx ∧ dx ≠ e ∧ h.Ns1 dx mE
def KeepsObj (f : Obj → Obj) : Prop := ∀ o : Obj, (f o).cls = o.cls ∧ (f o).dict = o.dict ∧ (f o).isFreed = o.isFreed ∧ (∀ es n, o.data = .dict es n → (f o).data = .dict es n) ∧ ∀ vs, o.data = .fields vs → ∃ vs', (f o).data = .fields vs'
noncomputable def DK {α : Type} : Sem α → Prop
  | .pure _ => True
  | .raise _ => True
  | .unsupported _ => True
  | .finish _ => True
  | .rule _ k => ∀ u, DK (k u)
  | .at _ k => ∀ u, DK (k u)
  | .load _ _ k => ∀ o, DK (k o)
  | .update _ _ f k => KeepsObj f ∧ ∀ u, DK (k u)
  | .loadIfAlive _ k => ∀ o, DK (k o)
  | .point _ k => ∀ u, DK (k u)
  | .alloc _ k => ∀ a, DK (k a)
  | .fresh k => ∀ t, DK (k t)
  | .ask k => ∀ t, DK (k t)
  | .handled _ k => ∀ t, DK (k t)
  | .stack k => ∀ t, DK (k t)
  | .thread k => ∀ t, DK (k t)
  | _ => False
theorem DK.bind {α β : Type} {f : α → Sem β} (hf : ∀ a, DK (f a)) (m : Sem α) (h : DK m) : DK (m.bind f) := by
  induction m with
  | pure a => exact hf a
  | raise _ => trivial
  | unsupported _ => trivial
  | finish _ => trivial
  | rule _ k ih => exact fun u => ih u (h u)
  | «at» _ k ih => exact fun u => ih u (h u)
  | load _ _ k ih => exact fun u => ih u (h u)
  | update _ _ f k ih => exact ⟨h.1, fun u => ih u (h.2 u)⟩
  | loadIfAlive _ k ih => exact fun u => ih u (h u)
  | point _ k ih => exact fun u => ih u (h u)
  | alloc _ k ih => exact fun u => ih u (h u)
  | fresh k ih => exact fun u => ih u (h u)
  | ask k ih => exact fun u => ih u (h u)
  | handled _ k ih => exact fun u => ih u (h u)
  | stack k ih => exact fun u => ih u (h u)
  | thread k ih => exact fun u => ih u (h u)
  | _ => exact False.elim h
theorem get_upd {a b : Addr} {h : Heap} {f : Obj → Obj} (hf : KeepsObj f) {o : Obj} (ho : h.get? b = some o) : ∃ o', (h.update a f).get? b = some o' ∧ o'.cls = o.cls ∧ o'.dict = o.dict ∧ (∀ es n, o.data = .dict es n → o'.data = .dict es n) ∧ ∀ vs, o.data = .fields vs → ∃ vs', o'.data = .fields vs' := by
  by_cases q : a = b
  · subst q
    refine bPPPPP (hf o) ?_
    intro h1 h2 h3 h4 h5
    exact ⟨f o, Heap.get?_update_self _ ho (h3.trans (Heap.get?_some_iff.mp ho).2), h1, h2, h4, h5⟩
  · exact ⟨o, (Heap.get?_update_other _ _ q).trans ho, rfl, rfl, fun _ _ z => z, fun vs z => ⟨vs, z⟩⟩
theorem ExcOk.update {e a : Addr} {mE : PySem.Str → Option Value} {h : Heap} {f : Obj → Obj} (hf : KeepsObj f) (x : ExcOk e mE h) : ExcOk e mE (h.update a f) := by
  obtain ⟨o, dx, vs, ho, hc, hd, hdx, hne, od, es, ep, hod, hdd, r⟩ := x
  refine ex1 (get_upd (a := a) hf ho) ?_
  intro o1 hJz
  refine bPPPPP hJz ?_
  clear hJz
  intro g1 c1 d1 _ f1
  refine ex1 (get_upd (a := a) hf hod) ?_
  intro o2 hJz
  refine bPPPPP hJz ?_
  clear hJz
  intro g2 c2 d2 e2 _
  refine ex1 (f1 _ hd) ?_
  intro vs' hJz
  revert hJz
  intro hv
  exact ⟨o1, dx, vs', g1, c1.trans hc, hv, d1.trans hdx, hne, o2, es, ep, g2, e2 _ _ hdd, r⟩
theorem ExcOk.keeps {e : Addr} {mE : PySem.Str → Option Value} {h h' : Heap} (x : ExcOk e mE h) (k : ∀ b o, h.get? b = some o → h'.get? b = some o) : ExcOk e mE h' := by
  obtain ⟨o, dx, vs, ho, hc, hd, hdx, hne, od, es, ep, hod, hdd, r⟩ := x
  exact ⟨o, dx, vs, k _ _ ho, hc, hd, hdx, hne, od, es, ep, k _ _ hod, hdd, r⟩
theorem DK.wp {M : Model} {Γ : PySem.Ctx} {e : Addr} {mE : PySem.Str → Option Value} {α : Type} {Q : α → Pos → Shared → Prop} {E : Value → Pos → Shared → Prop} (t : Sem α) (p : Pos) (s : Shared) (h : DK t) (w : Sem.wp M Γ t Q E p s) (i : ExcOk e mE s.heap) :
    Sem.wp M Γ t (fun a p' s' => Q a p' s' ∧ ExcOk e mE s'.heap) (fun v p' s' => E v p' s' ∧ ExcOk e mE s'.heap) p s := by
  induction t generalizing p s with
  | pure a => exact ⟨w, i⟩
  | raise _ => exact ⟨w, i⟩
  | unsupported _ => exact False.elim w
  | finish _ => exact False.elim w
  | rule _ k ih => exact ih () p s (h ()) w i
  | «at» p' k ih => exact ih () p' s (h ()) w i
  | load _ _ k ih =>
    refine ex1 w ?_
    intro o hJz
    refine bPP hJz ?_
    clear hJz
    intro ho w
    exact ⟨o, ho, ih o p s (h o) w i⟩
  | update a _ f k ih => exact ⟨w.1, ih () p { s with heap := s.heap.update a f } (h.2 ()) w.2 (i.update h.1)⟩
  | loadIfAlive a k ih => exact ih (s.heap.get? a) p s (h _) w i
  | point _ k ih => exact ih () p s (h ()) w i
  | alloc o k ih =>
    exact ih s.heap.objs.size p { s with heap := s.heap.push o } (h _) w (i.keeps fun b o' ho => Heap.get?_push_of_some _ ho)
  | fresh k ih => exact ih s.toks p { s with toks := s.toks + 1 } (h _) w i
  | ask k ih => exact ih _ p s (h _) w i
  | handled own k ih => exact ih _ p s (h _) w i
  | stack k ih => exact ih _ p s (h _) w i
  | thread k ih => exact ih 0 p s (h _) w i
  | _ => exact False.elim h
theorem DK.any {M : Model} {A : Around} {e : Addr} {mE : PySem.Str → Option Value} {α : Type} {Q : α → Shared → Prop} {E : Value → Shared → Prop} {t : Sem α} {s : Shared} (h : DK t) (w : wpAny M A t Q E s) (i : ExcOk e mE s.heap) :
    wpAny M A t (fun a s' => Q a s' ∧ ExcOk e mE s'.heap) (fun v s' => E v s' ∧ ExcOk e mE s'.heap) s :=
  fun Γ p hΓ => DK.wp t p s h (w Γ p hΓ) i
theorem DK.pure {α : Type} {a : α} : DK (Pure.pure a : Sem α) := trivial
theorem DK.bind' {α β : Type} {m : Sem α} {f : α → Sem β} (h : DK m) (hf : ∀ a, DK (f a)) : DK (m >>= f) := DK.bind hf m h
theorem DK.load (a : Addr) : DK (PySem.load a) := fun _ => trivial
theorem DK.stack : DK PySem.stack := fun _ => trivial
theorem DK.alloc (o : Obj) : DK (PySem.alloc o) := fun _ => trivial
theorem DK.unsupported {α : Type} (w : String) : DK (PySem.unsupported w : Sem α) := trivial
theorem DK.update (a : Addr) (f : Obj → Obj) (h : KeepsObj f) : DK (PySem.update a f) := ⟨h, fun _ => trivial⟩
theorem DK.fieldsOf (v : Value) : DK (PySem.fieldsOf v) := by
  unfold PySem.fieldsOf
  split
  · refine DK.bind' (DK.load _) fun o => ?_
    split
    · exact DK.pure
    · exact DK.unsupported _
  · exact DK.unsupported _
theorem DK.field (v : Value) (i : Nat) : DK (PySem.field v i) := by
  unfold PySem.field
  refine DK.bind' (DK.fieldsOf v) fun a => ?_
  split
  · exact DK.pure
  · exact DK.unsupported _
theorem mapFields_keeps (g : Array Value → Array Value) : KeepsObj (Obj.mapFields g) := fun o => by
  obtain ⟨c, d, dt, sl⟩ := o
  cases dt <;> refine ⟨rfl, rfl, rfl, fun es n z => ?_, fun vs z => ?_⟩ <;> first | exact z | exact ⟨_, rfl⟩ | cases z
theorem DK.setField (v : Value) (i : Nat) (x : Value) : DK (PySem.setField v i x) := by
  unfold PySem.setField
  split
  · unfold updateField
    refine DK.bind' (DK.load _) fun o => ?_
    split
    · split
      · exact DK.update _ _ (mapFields_keeps _)
      · exact DK.unsupported _
    · exact DK.unsupported _
  · exact DK.unsupported _
theorem DK.setFlight (e : Value) (f : Option Addr) : DK (PySem.setFlight e f) := by
  unfold PySem.setFlight
  refine DK.bind' (DK.field _ _) fun a => ?_
  split
  · exact DK.setField _ _ _
  · exact DK.pure
theorem DK.entryPlaceOf (f : Addr) (b : Bool) : DK (PySem.entryPlaceOf f b) := by
  unfold PySem.entryPlaceOf
  refine DK.bind' DK.stack fun acts => ?_
  split
  · exact DK.pure
  · exact DK.pure
theorem DK.newFields (ty : String) (vs : List Value) : DK (PySem.newFields ty vs) := by
  unfold PySem.newFields PySem.newObj PySem.newObjAsIs
  dsimp only
  split
  · exact trivial
  · exact fun _ => trivial
theorem DK.behindIsImport (env : Env) (outer : List Env) : DK (PySem.behindIsImport env outer) := by
  unfold PySem.behindIsImport
  split
  · exact DK.pure
  · split
    · exact DK.pure
    · exact DK.bind' (DK.field _ _) fun _ => DK.pure
theorem DK.keptBack (env : Env) (i : Bool) (outer : List Env) : DK (PySem.keptBack env i outer) := by
  unfold PySem.keptBack
  split
  · split
    · exact DK.pure
    · unfold underTheClaimsCaller
      exact DK.bind' (DK.bind' DK.stack fun _ => DK.pure) fun _ => DK.pure
  · exact DK.pure
theorem DK.readyFrames : ∀ (l : List Env), DK (PySem.readyFrames l)
  | [] => DK.pure
  | env :: outer => by
    have ih := DK.readyFrames outer
    unfold PySem.readyFrames
    split
    · refine DK.bind' (DK.load _) fun o => ?_
      skip
      split
      · exact DK.pure
      · refine DK.bind' (DK.behindIsImport _ _) fun i => DK.bind' (DK.keptBack _ _ _) fun b => DK.bind' (DK.update _ _ fun o => ⟨rfl, rfl, ?_, fun _ _ z => z, fun vs z => ⟨vs, z⟩⟩) fun _ => ih
        cases o with
        | mk c d dt sl => cases dt <;> rfl
    · exact DK.unsupported _
theorem DK.frameObject (l : List Env) : DK (PySem.frameObject l) := by
  unfold PySem.frameObject
  split
  · exact DK.pure
  · exact DK.bind' (DK.readyFrames _) fun _ => DK.pure
theorem DK.frameOf (env : Env) : DK (PySem.frameOf env) := by
  unfold PySem.frameOf PySem.frameEnvs
  refine DK.bind' (DK.bind' DK.stack fun _ => DK.pure) fun l => DK.bind' (DK.frameObject _) fun f => ?_
  split
  · exact DK.pure
  · exact DK.unsupported _
theorem DK.newEntry (a b c d e : Value) (l : List Value) : DK (EntryCells.newEntry a b c d e l) := by
  unfold EntryCells.newEntry
  exact DK.newFields _ _
theorem DK.noteFrame (e : Value) (env : Env) : DK (PySem.noteFrame e env) := by
  unfold PySem.noteFrame
  split
  · refine DK.bind' (DK.field _ _) fun head => ?_
    have hj : ∀ f, DK (do PySem.setField e 1 (← EntryCells.newEntry head (← PySem.frameOf env) .none (rawInt f) .none (← PySem.entryPlaceOf f (head != .none)))) := fun f =>
      DK.bind' (DK.frameOf _) fun _ => DK.bind' (DK.entryPlaceOf _ _) fun _ => DK.bind' (DK.newEntry _ _ _ _ _ _) fun _ => DK.setField _ _ _
    dsimp only
    split
    · refine DK.bind' (DK.field _ _) fun x => ?_
      split
      · exact DK.pure
      · exact DK.bind' (DK.setField _ _ _) fun _ => hj _
    · exact hj _
  · exact DK.unsupported _
theorem DK.leaving (env : Env) (e : Value) : DK (PySem.leaving env e) := by
  unfold PySem.leaving
  exact DK.bind' (DK.noteFrame _ _) fun _ => DK.setFlight _ _
end Mine
end
-- part Uc
section
open PySem PySem.W PyProof.Rows PySem.Spec PySem.Calls
set_option Elab.async false
set_option maxRecDepth 100000
namespace Mine
theorem off1_mem {D : Addr} : ∀ {l : Led}, LCg.Off1 D l → ∀ p ∈ l, p.1 ≠ D
  | [], _, _, h => nomatch h
  | _ :: _, x, p, h => by
    rcases List.mem_cons.mp h with rfl | h
    · exact x.1
    · exact off1_mem x.2 p h
section
variable {prog : PySem.Program} {w : PySem.World} {A : Around} {h₀ : Heap} {L : Addr} {m : PySem.Str → Option Value} {env : Env}
theorem range_src {elt : PySem.Expr} {x : PySem.Str} {scope : PySem.Scope} {cl : List (PySem.Str × Addr)} {Fin : Shared → List Value → Led → Prop} {r : Addr} {b : Int} {t u v : Tok} {n : Nat} {base : Led} {s₁ : Shared}
    (Inv : Nat → List Value → Led → Prop)
    (hh : A.handled = none) (F : Fr h₀ L s₁.heap m) (N : News h₀ L s₁.heap base) (hr : IsRange s₁.heap r 0 b 1 t u v) (hb : b = (n : Int)) (hn : n < 10) (h0 : Inv 0 [] base)
    (step : ∀ i ys news, i < n → Inv i ys news → ∀ v I oI C oC D m₂ h tk (E' : Value → Shared → Prop) g (K : Value → Shared → Prop), (∀ y s', LCg.CompEnd h₀ L m { { s₁ with heap := g } with heap := h, toks := tk } I oI C oC D (LCg.lst ys) (fun _ => True) (fun y news' => Inv (i + 1) (ys ++ [y]) news') y s' → K y s') → (∃ t, v = .int (0 + (i : Int)) t) → LCg.NsObj oC m₂ → m₂ x = some v → Fr h₀ L h m → News h₀ L h ((I, oI) :: (C, oC) :: (D, LCg.lst ys) :: news) → LCg.Off3 I C D news → ((@Ne Nat I C) ∧ (@Ne Nat I D) ∧ (@Ne Nat C D)) →
      wpAny (model prog w) A (eval elt (compEnvC scope cl C env)) K E' { { s₁ with heap := g } with heap := h, toks := tk })
    (fin : ∀ g ys news, Inv n ys news → Fin { s₁ with heap := g } ys news) :
    LCg.CompSrc prog w A h₀ L m env elt x scope cl Fin (.ref r) s₁ := by
  subst hb
  have e5 : Builtin.Range.rangeSize 0 (n : Int) 1 = ((n : Nat) : Int) := by
    have := rows_size (n := n) (c := 1) (by decide)
    simpa using this
  refine LCg.CompSrc.range hh F N hr ?_ e5 (by rw [sizeLine_eq]; omega) fun g => ?_
  · unfold Builtin.Range.small
    have e3 : ∀ z : Int, -100 ≤ z → z ≤ 200 → Builtin.Range.rangeFitsLong z = true := fun z h1 h2 => by
      unfold Builtin.Range.rangeFitsLong
      simp only [Bool.and_eq_true, decide_eq_true_eq]
      omega
    simp only [e5, show ((1 : Int) > 0) by omega, if_true, Bool.and_eq_true, Bool.or_eq_true]
    refine ⟨⟨⟨⟨e3 _ (by omega) (by omega), e3 _ (by omega) (by omega)⟩, e3 _ (by omega) (by omega)⟩, e3 _ (by omega) (by omega)⟩, .inr (e3 _ (by omega) (by omega))⟩
  exact comp_inv Inv (fun i ys news hi hI v I oI C oC D m₂ h tk E' hv hC hx F N off ne => step i ys news hi hI v I oI C oC D m₂ h tk E' g _ (fun _ _ z => z) hv hC hx F N off ne) (fun ys news hI => fin g ys news hI) n 0 [] base (Nat.zero_add _) h0
end
end Mine
end
section
open PySem PySem.W PyProof.Rows PySem.Spec PySem.Calls PySem.SeqAt
set_option Elab.async false
set_option maxRecDepth 100000
namespace Mine
local macro_rules | `(tactic| k_room) => `(tactic| ((try simp only [depth_under_make, depth_under_kw, depth_in1, depth_deeper, depth_caller, depth_mark, units_in1, units_deeper, Around.mark_units, units_under_make]); (try dsimp only [ktrTop]); first | (with_reducible assumption) | exact Mine.rm0 (by with_reducible assumption) | ((try simp only [Nat.add_assoc]); exact Mine.rm (by with_reducible assumption) (Nat.le_of_ble_eq_true rfl)) | omega))
local macro_rules | `(tactic| walk_at "lf") => `(tactic| with_reducible first | assumption | exact Mine.l0 (by assumption) | exact Mine.l1 (by assumption) | exact Mine.l2 (by assumption) | exact Mine.l3 (by assumption) | exact Mine.l4 (by assumption) | exact Mine.l5 (by assumption) | exact Mine.l6 (by assumption) | exact Mine.l7 (by assumption) | exact Mine.l8 (by assumption) | exact Mine.l9 (by assumption) | exact Mine.l10 (by assumption) | exact Mine.l11 (by assumption) | exact Mine.l12 (by assumption) | exact Mine.l13 (by assumption) | exact Mine.r1 (by assumption) | exact Mine.r2 (by assumption) | exact Mine.r3 (by assumption) | exact Mine.r4 (by assumption) | exact Mine.r5 (by assumption) | exact Mine.r6 (by assumption) | exact Mine.r7 (by assumption) | exact Mine.r8 (by assumption))
local macro_rules | `(tactic| k_ne) => `(tactic| first | exact Mine.ne_lt (by walk_at "lf") | exact Mine.ne_gt (by walk_at "lf") | (with_reducible assumption) | exact Ne.symm (by with_reducible assumption) | exact Mine.ne_lt (Nat.lt_succ_self _) | exact Mine.ne_gt (Nat.lt_succ_self _) | (refine neN ?_; (try dsimp only); omega))
local macro_rules | `(tactic| walk_at "om") => `(tactic| ((try simp only [List.length_map]); first | (with_reducible assumption) | decide | omega))
local macro_rules | `(tactic| k_mem) => `(tactic| first | exact List.Mem.head _ | assumption | (refine' List.Mem.tail _ ?_; k_mem))
local macro_rules | `(tactic| walk_at "eval Name") => `(tactic| (k_here; (with_reducible show wpAny _ _ (eval (PySem.Expr.Name _ _) (PyProof.Rows.envOf _ _ _ _ _)) _ _ _); k_dflt (refine' ld (by k_asm) (by first | with_reducible assumption | assumption) ?_; k_whole)))
local macro_rules | `(tactic| walk_at "loadName") => `(tactic| (k_here; k_dflt (refine' ldn (by k_asm) (by first | with_reducible assumption | assumption) ?_; k_whole)))
local macro_rules | `(tactic| walk_at "u0") => `(tactic| first | (k_unfold; (try dsimp only)) | walk1 | (dsimp only; walk1) | (leave1; walk_say "STEP leave1"; (try dsimp only)))
local macro_rules | `(tactic| walk_at "u1") => `(tactic| ((fail_if_success (with_reducible refine Mine.is_ct (by decide) ?_)); walk_at "u0"))
local macro_rules | `(tactic| walk_at "go") => `(tactic| repeat' ((fail_if_success (with_reducible show wpAny _ _ (exec (PySem.Stmt.While _ _ _ _) _) _ _ _)); (fail_if_success (with_reducible show wpAny _ _ (exec (PySem.Stmt.For _ _ _ _ _) _) _ _ _)); (fail_if_success (with_reducible show wpAny _ _ (eval (PySem.Expr.ListComp _ _ _ _) _) _ _ _)); walk_at "u0"))
local macro_rules | `(tactic| walk_at "subscriptTail") => `(tactic| (k_here; (with_reducible show wpAny _ _ (subscriptTail _ _ (Value.ref _) (Value.int _ _)) _ _ _); k_dflt (refine' my_item ?N ?m ?a ?b ?x ?_ ?s; (case N => k_asm); (case m => k_mem); (case x => first | assumption | exact rfl); (case a => first | decide | exact Int.natCast_nonneg _ | exact Int.ofNat_lt.mpr (by with_reducible assumption) | omega | (simp; done)); (case b => first | decide | exact Int.natCast_nonneg _ | exact Int.ofNat_lt.mpr (by with_reducible assumption) | omega | (simp; done)); (case s => with_unfolding_all rfl); k_whole)))
local macro_rules | `(tactic| walk_at "call builtin:len") => `(tactic| (k_here; (with_reducible show wpAny _ _ (call (Value.builtin "len") [Value.ref _]) _ _ _); k_dflt (refine' my_len (by k_asm) (by k_mem) (by walk_at "om") ?_; k_whole); intro t9 k9; (try simp only [List.length_map])))
local macro_rules | `(tactic| k_all) => `(tactic| first | assumption | exact fun p hp => Nat.ne_of_lt (by first | exact ktn_ltOf (by assumption) p hp | assumption | exact (by assumption : ∀ p ∈ _, p.1 < _) p hp))
local macro_rules | `(tactic| walk_at "call builtin:list.insert") => `(tactic| (k_here; k_dflt (refine' my_insert (by k_asm) (by k_asm) (by k_upd) (by walk_at "om") (by walk_at "om") ?_; k_whole); intro h9 F9 N9))
local macro_rules | `(tactic| walk_at "subscriptTail Name Slice ref ref") => `(tactic| (k_here; (with_reducible show wpAny _ _ (subscriptTail _ (PySem.Expr.Slice _ _ none _) (Value.ref _) (Value.ref _)) _ _ _); k_dflt (refine' my_slice (by k_asm) (by k_asm) (by k_mem) (by kmk_part) (by kmk_part) (by first | exact pick_upto _ _ | exact pick_from _ _ | exact pick_run' _ _ _) ?_ (by with_unfolding_all rfl) (by kmk_pure) (by walk_at "om")); intro D' h' F' N' l1; (try k_lt l1)))
local macro_rules | `(tactic| walk_at "binaryOp Add ref ref") => `(tactic| (k_here; (with_reducible show wpAny _ _ (binaryOp _ (Value.ref _) (Value.ref _)) _ _ _); k_dflt (refine' my_add (by k_asm) (by k_asm) (by k_mem) (by k_mem) ?_ (by ((try simp only [List.length_map, List.length_take, List.length_drop, List.length_append, List.length_cons, List.length_nil]); omega))); intro D' h' F' N' l1; (try k_lt l1)))
local macro_rules | `(tactic| walk_at "ite") => `(tactic| (k_closed; k_dflt (first | refine ite_pos (by decide +kernel) ?_ | refine ite_neg (by decide +kernel) ?_)))
local macro_rules | `(tactic| k_get) => `(tactic| first | assumption | exact getL_same _ | exact getL_other (by decide) _ (by assumption) | exact isSome_of (by assumption))
local macro_rules | `(tactic| walk_at "setAttr ref") => `(tactic| (k_here; k_dflt (refine' set_dict (by k_asm) (by k_asm) (by k_asm) (by k_inst) (by exact rfl) (by k_is) (by k_is) (by k_is) (by k_is) (by exact isSome_of (by assumption)) (by exact rfl) (by k_upd) (by first | exact Nat.le_trans (putL_le _) (Nat.le_trans (Nat.succ_le_succ (by with_reducible assumption)) (Nat.le_of_ble_eq_true rfl)) | exact Nat.le_trans (putL_le _) (by omega)) ?_; k_whole; intro h' F' N')))
local macro_rules | `(tactic| walk_at "call builtin:list.append") => `(tactic| (k_here; (with_reducible show wpAny _ _ (call (Value.builtin _) [Value.ref _, _]) _ _ _); k_dflt (refine' my_append (by k_asm) (by k_asm) (by k_upd) (by walk_at "om") ?_; k_whole); intro h' F' N'))
local macro_rules | `(tactic| walk_at "useC") => `(tactic| (k_here; k_dflt (refine' Ct.go (C := by assumption) (ret := ?_); k_whole)))
-- part C2
section
theorem off_C2 : True := by
  w_top off
  exact trivial
local macro_rules | `(tactic| walk_at "subscriptTail") => `(tactic| (k_here; (with_reducible show wpAny _ _ (subscriptTail _ _ (Value.ref _) (Value.int _ _)) _ _ _); k_dflt (refine' my_item ?N ?m ?a ?b ?x ?_ ?s; (case N => k_asm); (case m => k_mem); (case x => assumption); (case a => omega); (case b => omega); (case s => with_unfolding_all rfl); k_whole)))
local macro_rules | `(tactic| walk_at "call ref") => `(tactic| (k_here; k_dflt (refine' Ct.go (C := (ahead_ct _ _ _ _ _ _ (by assumption) (by assumption) _)) (ret := ?_); k_whole); intro r9 n9 h9 tk9 hR9 F9 N9; obtain ⟨e9, f9⟩ := hR9; subst e9; subst f9; (try dsimp only)))
local macro_rules | `(tactic| walk_at "goI") => `(tactic| repeat' ((fail_if_success (with_reducible show wpAny _ _ (PySem.isTrue (PySem.Expr.IfExp _ _ _ _) _ _) _ _ _)); walk_at "u0"))
set_option maxHeartbeats 4000000 in
theorem lawsorted_ct (w : PySem.World) (mean mg mb) (ra : Addr) (rs : List RowL) (n : Nat) (c : Nat) (tc : Tok) (d : Bool) (news : Led)
    (hra : (ra, listOf (rs.map rref).toArray n) ∈ news) (hok : ∀ r ∈ rs, RowOk news c r) (hc : c < 100) (hlen : rs.length < 1000) :
    Ct w mean mg mb 449 [.ref ra, .int c tc, .bool d] 4 32 news
      (fun r n => ∃ a k, r = .ref a ∧ n = (a, listOf ((sortL (bh d c) rs).map rref).toArray k) :: news ∧ ∀ p ∈ news, p.1 < a) := by
  unfold Ct
  k_fill
  intro dp un gd cn cs a ccd cl outer A₀ base h₀ L m s Q E B F X N T hk hroom hu hret
  refine wpAny_call ?_
  k_dflt ktr_enter
  walk_at "go"
  rename Fr _ _ _ _ => lF'
  with_unfolding_all refine' For_turns lF' ?_
  k_whole
  walk_at "go"
  rename News _ _ _ _ => lN'
  refine for_list (fun I r m₁ news₁ => ∃ (dn todo : List RowL) (Fd k : Nat), rs = dn ++ todo ∧ r = todo.map rref ∧ news₁ = (Fd, listOf ((sortL (bh d c) dn).map rref).toArray k) :: news ∧ (∀ p ∈ news, p.1 < Fd) ∧
      m₁ (PySem.Str.ofString "found") = some (.ref Fd) ∧ m₁ (PySem.Str.ofString "at") = some (.int c tc) ∧ m₁ (PySem.Str.ofString "is_down") = some (.bool d)) rfl lF' lN' (.tail _ hra) ?_ ?_ ?_
  · intro I hI
    exact ⟨[], rs, _, _, rfl, rfl, rfl, by assumption, rfl, rfl, rfl⟩
  · intro I oI v r m₁ news₁ h tk K hK hJz
    refine ex4 hJz ?_
    clear hJz
    intro dn todo Fd k hJz
    refine bPPRPPPP hJz ?_
    clear hJz
    intro hrs hr hFd hm1 hm2 hm3
    intro hk1 hI F₁ N₁
    (try clear I)
    (try clear oI)
    (try clear v)
    (try clear r)
    (try clear m₁)
    (try clear news₁)
    (try clear h)
    (try clear tk)
    obtain ⟨row, todo, rfl, rfl, rfl⟩ : ∃ row t', todo = row :: t' ∧ v = rref row ∧ r = t'.map rref := by
      cases todo with
      | nil => simp at hr
      | cons row t' => simp at hr; exact ⟨row, t', rfl, hr.1, hr.2⟩
    clear hr
    have hlk : (sortL (bh d c) dn).length < 1000 := by
      have := foldl_len (insL_len (bh d c)) dn []
      have h2 : rs.length = dn.length + (todo.length + 1) := by rw [hrs]; simp
      show (List.foldl (insL (bh d c)) [] dn).length < 1000
      rw [this]; exact om_len3 h2 hlen
    have hacc : ∀ x ∈ sortL (bh d c) dn, RowOk news c x := fun x hx => hok x (by
      rcases foldl_mem (insL_mem (bh d c)) dn [] hx with h | h
      · rw [hrs]; exact List.mem_append_left _ h
      · cases h)
    have hrow : RowOk news c row := hok row (by rw [hrs]; simp)
    generalize hG : sortL (bh d c) dn = acc at *
    walk_at "go"
    rename Fr _ _ _ _ => lF2
    rename News _ _ _ _ => lN2
    refine while_cut (n₀ := acc.length) (fun n m₂ news₂ => ∃ i, n = acc.length - i ∧ i ≤ acc.length ∧ acc.findIdx (bh d c row) = i + (acc.drop i).findIdx (bh d c row) ∧ news₂ = (I, oI) :: (Fd, listOf (acc.map rref).toArray k) :: news ∧
      m₂ (PySem.Str.ofString "found") = some (.ref Fd) ∧ m₂ (PySem.Str.ofString "at") = some (.int c tc) ∧ m₂ (PySem.Str.ofString "is_down") = some (.bool d) ∧ m₂ (PySem.Str.ofString "row") = some (rref row) ∧ ∃ t, m₂ (PySem.Str.ofString "spot") = some (.int i t))
      (fun m₂ news₂ => news₂ = (I, oI) :: (Fd, listOf (acc.map rref).toArray k) :: news ∧
      m₂ (PySem.Str.ofString "found") = some (.ref Fd) ∧ m₂ (PySem.Str.ofString "at") = some (.int c tc) ∧ m₂ (PySem.Str.ofString "is_down") = some (.bool d) ∧ m₂ (PySem.Str.ofString "row") = some (rref row) ∧ ∃ t, m₂ (PySem.Str.ofString "spot") = some (.int (acc.findIdx (bh d c row) : Nat) t))
      lF2 lN2 ⟨0, rfl, Nat.zero_le _, by simp, rfl, hm1, hm2, hm3, rfl, _, rfl⟩ ?_ ?_
    · clear lF2 lN2
      rintro n m₂ news₂ h₂ tk₂ K2 K3 hB hC hO F₂ N₂ ⟨i, hn, hi, hcut, rfl, hf, hc2, hd2, hr2, t2, ha2⟩
      by_cases hlt : i < acc.length
      · obtain ⟨x, hx⟩ : ∃ x, acc[i]? = some x := ⟨acc[i], by simp [hlt]⟩
        have hxr : (acc.map rref)[((i : Nat) : Int).toNat]? = some (rref x) := by
          rw [Int.toNat_natCast, List.getElem?_map, hx]; rfl
        have hdr : acc.drop i = x :: acc.drop (i + 1) := by
          rw [List.drop_eq_getElem_cons hlt]; congr 1; simpa [hlt] using hx
        refine bPPP (hacc x (List.mem_of_getElem? hx)) ?_
        intro hx1 hx2 hJz
        refine ex1 hJz ?_
        clear hJz
        intro kx hJz
        revert hJz
        intro hx3
        refine bPPP hrow ?_
        intro hw1 hw2 hJz
        refine ex1 hJz ?_
        clear hJz
        intro kw hJz
        revert hJz
        intro hw3
        (try clear hrow)
        dsimp only
        walk_at "goI"
        rename Fr _ _ _ _ => FV
        rename News _ _ _ _ => NV
        k_dflt (refine cut_boo (bh d c row x) FV NV ?va ?vb)
        case va =>
          cases d
          all_goals (
            walk_at "go"
            exact ⟨rfl, _, _, rfl, by assumption, by assumption⟩)
        intro h9 tk9 F9 N9
        clear FV NV
        dsimp only
        walk_at "go"
        · have hb : bh d c row x = true := by assumption
          rename News _ _ _ _ => N3
          rename Fr _ _ _ _ => F3
          rw [hdr, List.findIdx_cons, hb] at hcut
          exact hB F3 (cb_drop N3 fun p hp => .tail _ hp) ⟨rfl, hf, hc2, hd2, hr2, t2, by rw [hcut]; exact ha2⟩
        · have hb : bh d c row x = false := by assumption
          rename News _ _ _ _ => N3
          rename Fr _ _ _ _ => F3
          rw [hdr, List.findIdx_cons, hb] at hcut
          exact hC F3 (cb_drop N3 fun p hp => .tail _ hp) (acc.length - (i + 1)) (hn ▸ Nat.sub_succ_lt_self _ _ hlt) ⟨i + 1, rfl, hlt, by rw [hcut]; exact (Nat.add_assoc i _ 1).symm.trans (Nat.add_right_comm i _ 1), rfl, hf, hc2, hd2, hr2, _, rfl⟩
      · have hie : i = acc.length := Nat.le_antisymm hi (Nat.not_lt.mp hlt)
        subst hie
        dsimp only
        walk_at "go"
        rename News _ _ _ _ => N3
        rename Fr _ _ _ _ => F3
        rw [List.drop_length, List.findIdx_nil] at hcut
        exact hO F3 N3 ⟨rfl, hf, hc2, hd2, hr2, t2, by rw [hcut]; exact ha2⟩
    · clear lF2 lN2
      rintro m₂ news₂ h₂ tk₂ ⟨rfl, hf, hc2, hd2, hr2, t2, ha2⟩ F₂ N₂
      have hne : I ≠ Fd := fun e => hI _ (.head _) e.symm
      dsimp only
      walk_at "go"
      rename News _ _ _ _ => N3
      rename Fr _ _ _ _ => F3
      rename (_ ∧ _ ∧ _ ∧ _ ∧ _ ∧ _ ∧ AllLt _ _) => lt6
      refine bPPPPPPP lt6 ?_
      intro _ _ _ _ hID _ hall
      (try clear lt6)
      have hs : List.take (acc.findIdx (bh d c row)) (acc.map rref) ++ [rref row] ++ List.drop (acc.findIdx (bh d c row)) (acc.map rref) = (sortL (bh d c) (dn ++ [row])).map rref := by
        rw [sortL_snoc, hG]
        unfold insL putAt
        simp [List.map_take, List.map_drop]
      rw [hs] at N3
      exact hK F3 N3 _ (fun p hp => by
          simp only [List.mem_cons] at hp ⊢
          rcases hp with rfl | rfl | hp
          · simp
          · simp
          · simp [hp]) (fun p hp => by
          rcases List.mem_cons.mp hp with rfl | hp
          · exact Nat.ne_of_gt hID
          · exact hI p (.tail _ hp)) (.tail _ hra) ⟨dn ++ [row], todo, _, 0, by rw [hrs]; simp, rfl, rfl, ktn_ltOf hall, rfl, hc2, hd2⟩
  · intro I m₁ news₁ h tk hJz
    refine ex4 hJz ?_
    clear hJz
    intro dn todo Fd k hJz
    refine bPPRPPPP hJz ?_
    clear hJz
    intro hrs hr hFd hm1 hm2 hm3
    intro F₁ N₁
    (try clear I)
    (try clear m₁)
    (try clear news₁)
    (try clear h)
    (try clear tk)
    have : todo = [] := List.map_eq_nil_iff.mp hr.symm
    subst this
    rw [List.append_nil] at hrs
    subst hrs
    dsimp only
    walk_at "go"
    all_goals exact hret _ _ _ _ ⟨_, _, rfl, rfl, hFd⟩ (by assumption) (by assumption)
end
-- part C3
section
theorem off_C3 : True := by
  w_top off
  exact trivial
local macro_rules | `(tactic| walk_at "subscriptTail") => `(tactic| (k_here; (with_reducible show wpAny _ _ (subscriptTail _ _ (Value.ref _) (Value.int _ _)) _ _ _); k_dflt (refine' my_item ?N ?m ?a ?b ?x ?_ ?s; (case N => k_asm); (case m => k_mem); (case x => assumption); (case a => omega); (case b => omega); (case s => with_unfolding_all rfl); k_whole)))
set_option maxHeartbeats 4000000 in
theorem next_ct (w : PySem.World) (mean mg mb) (fA cA : Addr) (n nc : Nat) (vs : List Value) (ns : List Int) (k : Int) (t : Tok) (q : Int) (tq : Tok) (rest : Led)
    (hI : IntsAre vs ns) (hc : (cA, listOf vs.toArray nc) ∈ rest) (hne : ∀ p ∈ rest, p.1 ≠ fA) (hq : 0 < q) (hk0 : 0 ≤ k) (hk : k < 1000) (hl : vs.length < 1000) :
    Ct w mean mg mb 435 [.ref fA, .int q tq] 4 32 ((fA, listOf #[.ref cA, .int k t] n) :: rest)
      (fun r n' => ∃ v tv t', r = .int v tv ∧ 0 ≤ v ∧ v < q ∧ n' = (fA, listOf #[.ref cA, .int (k + 1) t'] n) :: rest) := by
  unfold Ct
  k_fill
  intro dp un gd cn cs a ccd cl outer A₀ base h₀ L m s Q E B F X N T hk hroom hu hret
  refine wpAny_call ?_
  k_dflt ktr_enter
  walk_at "go"
  all_goals exact hret _ _ _ _ ⟨_, _, _, rfl, fmod_lo _ hq, fmod_hi _ hq, rfl⟩ (by assumption) (by assumption)
end
-- part E2
section
theorem off_E2 : True := by
  w_top off
  exact trivial
local macro_rules | `(tactic| walk_at "subscriptTail") => `(tactic| (k_here; (with_reducible show wpAny _ _ (subscriptTail _ _ (Value.ref _) (Value.int _ _)) _ _ _); k_dflt (refine' my_item ?N ?m ?a ?b ?x ?_ ?s; (case N => k_asm); (case m => k_mem); (case x => assumption); (case a => omega); (case b => omega); (case s => with_unfolding_all rfl); k_whole)))
local macro_rules | `(tactic| walk_at "setAttr ref") => `(tactic| (k_here; k_dflt (refine' set_kn (by k_asm) (by k_asm) (by k_asm) (by k_inst) (by exact rfl) (by k_is) (by k_is) (by k_is) (by k_is) (by first | assumption | exact Kn.nil) (by k_updF) (by decide) ?_; k_whole); intro es' n' h' tk' kn' F' N'))
set_option maxHeartbeats 4000000 in
theorem world_ct (w : PySem.World) (mean mg mb) (news : Led) :
    Ct w mean mg mb 375 [] 6 64 news (fun r n' => ∃ x d hl es n, r = .ref x ∧ n' = (x, instObj 375 d) :: (d, dictOf es n) :: (hl, listOf #[] 0) :: news ∧ WorldOk es 0 hl ∧ (∀ p ∈ news, p.1 < d) ∧ (∀ p ∈ news, p.1 < x) ∧ ∀ p ∈ news, p.1 < hl) := by
  unfold Ct
  k_fill
  intro dp un gd cn cs a ccd cl outer A₀ base h₀ L m s Q E B F X N T hk hroom hu hret
  obtain ⟨kind, names, ig, ic, mr⟩ := cs
  dsimp only at hk
  subst hk
  walk_at "go"
  rename News _ _ _ _ => N3
  rename Fr _ _ _ _ => F3
  refine' hret _ _ _ _ ⟨_, _, _, _, _, rfl, rfl, ?W, ?o1, ?o2, ?o3⟩ F3 (cb_drop N3 (List.forall_mem_cons.mpr ⟨?m1, List.forall_mem_cons.mpr ⟨?m2, List.forall_mem_cons.mpr ⟨?m3, ?m4⟩⟩⟩))
  case m1 => k_mem
  case m2 => k_mem
  case W =>
    refine' WorldOk.mk ?w1 ?w2 ?w3 ?w4 ?w5
    case w1 => exact ⟨_, Kn.get (by assumption) _⟩
    case w2 => exact ⟨_, Kn.get (by assumption) _⟩
    case w3 => exact ⟨_, Kn.get (by assumption) _⟩
    case w4 => exact Kn.get (by assumption) _
    case w5 => exact Nat.le_trans (Kn.len (by assumption)) (by decide)
  case m3 => k_mem
  case m4 => intro p hp; k_mem
  case o1 => assumption
  case o2 => exact fun p hp => Nat.lt_trans ((by assumption : ∀ p ∈ news, p.1 < _) p hp) (by assumption)
  case o3 =>
    refine ktn_ltOf ?_
    first | assumption | (simp only [*]; done) | simp_all only
end
-- part E1
section
theorem off_E1 : True := by
  w_top off
  exact trivial
local macro_rules | `(tactic| walk_at "subscriptTail") => `(tactic| (k_here; (with_reducible show wpAny _ _ (subscriptTail _ _ (Value.ref _) (Value.int _ _)) _ _ _); k_dflt (refine' my_item ?N ?m ?a ?b ?x ?_ ?s; (case N => k_asm); (case m => k_mem); (case x => assumption); (case a => omega); (case b => omega); (case s => with_unfolding_all rfl); k_whole)))
set_option maxHeartbeats 4000000 in
theorem number_ct (w : PySem.World) (mean mg mb) (W dW : Addr) (es : List DictEntry) (n : Nat) (made : Int) (hl : Addr) (rest : Led) (hW : WorldOk es made hl)
    (hi : (W, instObj 375 dW) ∈ rest) (hne : ∀ p ∈ rest, p.1 ≠ dW) :
    Ct w mean mg mb 386 [.ref W] 4 32 ((dW, dictOf es n) :: rest) (fun r n' => ∃ t es' n1, r = .int (made + 1) t ∧ n' = (dW, dictOf es' n1) :: rest ∧ WorldOk es' (made + 1) hl) := by
  unfold Ct
  k_fill
  intro dp un gd cn cs a ccd cl outer A₀ base h₀ L m s Q E B F X N T hk hroom hu hret
  obtain ⟨t3, h3⟩ := hW.made
  have h5 := hW.len
  refine wpAny_call ?_
  k_dflt ktr_enter
  walk_at "go"
  all_goals exact hret _ _ _ _ ⟨_, _, _, rfl, rfl, hW.put⟩ (by assumption) (by assumption)
set_option maxHeartbeats 4000000 in
theorem held_ct (w : PySem.World) (mean mg mb) (W dW : Addr) (es : List DictEntry) (n : Nat) (made : Int) (hl : Addr) (hs : Array Value) (nh : Nat) (v : Value) (rest : Led) (hW : WorldOk es made hl)
    (hi : (W, instObj 375 dW) ∈ rest) (hd : (dW, dictOf es n) ∈ rest) (hne : ∀ p ∈ rest, p.1 ≠ hl) (hsz : hs.size < 1000) (hv : handedIn v = true) :
    Ct w mean mg mb 393 [.ref W, v] 4 32 ((hl, listOf hs nh) :: rest) (fun r n' => r = v ∧ n' = (hl, listOf (hs.push v) (nh + 1)) :: rest) := by
  unfold Ct
  k_fill
  intro dp un gd cn cs a ccd cl outer A₀ base h₀ L m s Q E B F X N T hk hroom hu hret
  have h4 := hW.holders
  refine wpAny_call ?_
  k_dflt ktr_enter
  walk_at "go"
  all_goals exact hret _ _ _ _ ⟨rfl, rfl⟩ (by assumption) (by first | assumption | (rename News _ _ _ _ => N9; rw [← List.push_toArray, Array.toArray_toList] at N9; exact N9))
end
-- part Df
section
theorem off_Df : True := by
  w_top off
  exact trivial
local macro_rules | `(tactic| walk_at "subscriptTail") => `(tactic| (k_here; (with_reducible show wpAny _ _ (subscriptTail _ _ (Value.ref _) (Value.int _ _)) _ _ _); k_dflt (refine' my_item ?N ?m ?a ?b ?x ?_ ?s; (case N => k_asm); (case m => k_mem); (case x => assumption); (case a => omega); (case b => omega); (case s => with_unfolding_all rfl); k_whole)))
local macro_rules | `(tactic| walk_at "binaryOp LShift int int") => `(tactic| (k_here; (with_reducible refine lshift_int_small ?a ?b ?c ?_); (case a => decide); (case b => decide); (case c => decide)))
set_option maxHeartbeats 4000000 in
theorem fits_ct (w : PySem.World) (mean mg mb) (n : Int) (tn u : Tok) (news : Led) (h1 : -100 ≤ n) (h2 : n ≤ 100) :
    Ct w mean mg mb 177 [.int n tn, .int 32 u] 1 16 news (fun r n' => r = .bool true ∧ n' = news) := by
  unfold Ct
  k_fill
  intro dp un gd cn cs a ccd cl outer A₀ base h₀ L m s Q E B F X N T hk hroom hu hret
  refine wpAny_call ?_
  k_dflt ktr_enter
  walk_at "go"
  all_goals exact hret _ _ _ _ ⟨by congr 1; simp; omega, rfl⟩ (by assumption) (by assumption)
end
-- part D1
section
local macro_rules | `(tactic| walk_at "no line") => `(tactic| skip)
theorem off_D1 : True := by
  w_top off
  exact trivial
local macro_rules | `(tactic| walk_at "subscriptTail") => `(tactic| (k_here; (with_reducible show wpAny _ _ (subscriptTail _ _ (Value.ref _) (Value.int _ _)) _ _ _); k_dflt (refine' my_item ?N ?m ?a ?b ?x ?_ ?s; (case N => k_asm); (case m => k_mem); (case x => assumption); (case a => omega); (case b => omega); (case s => with_unfolding_all rfl); k_whole)))
local macro_rules | `(tactic| walk_at "call ref") => `(tactic| (k_here; k_dflt (refine' Ct.go (C := fits_ct _ _ _ _ _ _ _ _ (by decide) (by decide)) (ret := ?_); k_whole); intro r9 n9 h9 tk9 hR9 F9 N9; obtain ⟨e9, f9⟩ := hR9; subst e9; subst f9; (try dsimp only)))
set_option maxHeartbeats 4000000 in
theorem wot_m2 (w : PySem.World) (mean mg mb) (t u : Tok) (news : Led) :
    Ct w mean mg mb 184 [.str (PySem.Str.ofString "-2") t, .int 32 u] 4 32 news (fun r n' => n' = news ∧ ∃ t, r = .int (-2) t) := by
  unfold Ct
  k_fill
  intro dp un gd cn cs a ccd cl outer A₀ base h₀ L m s Q E B F X N T hk hroom hu hret
  refine wpAny_call ?_
  k_dflt ktr_enter
  walk_at "go"
  rename Fr _ _ _ _ => lF'
  (with_unfolding_all refine' For_invVF lF' ?k1 ?k2 ?_; (case k1 => exact rfl); (case k2 => exact rfl); k_whole)
  walk_at "go"
  rename News _ _ _ _ => N3
  rename Fr _ _ _ _ => F3
  rename (∀ p ∈ news, p.1 < _) => hl3
  refine ⟨_, _, _, news, rfl, F3, N3, fun p hp => Nat.ne_of_lt (hl3 p hp), ?_⟩
  clear N3 F3
  with_unfolding_all refine StrRest.zero (fun h' tk' F' N' => ?_)
  walk_at "go"
  all_goals exact hret _ _ _ _ ⟨rfl, _, congrArg (fun z => Value.int z _) (by decide +kernel)⟩ (by assumption) (by assumption)
set_option maxHeartbeats 4000000 in
theorem wot_m1 (w : PySem.World) (mean mg mb) (t u : Tok) (news : Led) :
    Ct w mean mg mb 184 [.str (PySem.Str.ofString "-1") t, .int 32 u] 4 32 news (fun r n' => n' = news ∧ ∃ t, r = .int (-1) t) := by
  unfold Ct
  k_fill
  intro dp un gd cn cs a ccd cl outer A₀ base h₀ L m s Q E B F X N T hk hroom hu hret
  refine wpAny_call ?_
  k_dflt ktr_enter
  walk_at "go"
  rename Fr _ _ _ _ => lF'
  (with_unfolding_all refine' For_invVF lF' ?k1 ?k2 ?_; (case k1 => exact rfl); (case k2 => exact rfl); k_whole)
  walk_at "go"
  rename News _ _ _ _ => N3
  rename Fr _ _ _ _ => F3
  rename (∀ p ∈ news, p.1 < _) => hl3
  refine ⟨_, _, _, news, rfl, F3, N3, fun p hp => Nat.ne_of_lt (hl3 p hp), ?_⟩
  clear N3 F3
  with_unfolding_all refine StrRest.zero (fun h' tk' F' N' => ?_)
  walk_at "go"
  all_goals exact hret _ _ _ _ ⟨rfl, _, congrArg (fun z => Value.int z _) (by decide +kernel)⟩ (by assumption) (by assumption)
set_option maxHeartbeats 4000000 in
theorem wot_p0 (w : PySem.World) (mean mg mb) (t u : Tok) (news : Led) :
    Ct w mean mg mb 184 [.str (PySem.Str.ofString "0") t, .int 32 u] 4 32 news (fun r n' => n' = news ∧ ∃ t, r = .int (0) t) := by
  unfold Ct
  k_fill
  intro dp un gd cn cs a ccd cl outer A₀ base h₀ L m s Q E B F X N T hk hroom hu hret
  refine wpAny_call ?_
  k_dflt ktr_enter
  walk_at "go"
  rename Fr _ _ _ _ => lF'
  (with_unfolding_all refine' For_invVF lF' ?k1 ?k2 ?_; (case k1 => exact rfl); (case k2 => exact rfl); k_whole)
  walk_at "go"
  rename News _ _ _ _ => N3
  rename Fr _ _ _ _ => F3
  rename (∀ p ∈ news, p.1 < _) => hl3
  refine ⟨_, _, _, news, rfl, F3, N3, fun p hp => Nat.ne_of_lt (hl3 p hp), ?_⟩
  clear N3 F3
  with_unfolding_all refine StrRest.zero (fun h' tk' F' N' => ?_)
  walk_at "go"
  all_goals exact hret _ _ _ _ ⟨rfl, _, congrArg (fun z => Value.int z _) (by decide +kernel)⟩ (by assumption) (by assumption)
set_option maxHeartbeats 4000000 in
theorem wot_p1 (w : PySem.World) (mean mg mb) (t u : Tok) (news : Led) :
    Ct w mean mg mb 184 [.str (PySem.Str.ofString "1") t, .int 32 u] 4 32 news (fun r n' => n' = news ∧ ∃ t, r = .int (1) t) := by
  unfold Ct
  k_fill
  intro dp un gd cn cs a ccd cl outer A₀ base h₀ L m s Q E B F X N T hk hroom hu hret
  refine wpAny_call ?_
  k_dflt ktr_enter
  walk_at "go"
  rename Fr _ _ _ _ => lF'
  (with_unfolding_all refine' For_invVF lF' ?k1 ?k2 ?_; (case k1 => exact rfl); (case k2 => exact rfl); k_whole)
  walk_at "go"
  rename News _ _ _ _ => N3
  rename Fr _ _ _ _ => F3
  rename (∀ p ∈ news, p.1 < _) => hl3
  refine ⟨_, _, _, news, rfl, F3, N3, fun p hp => Nat.ne_of_lt (hl3 p hp), ?_⟩
  clear N3 F3
  with_unfolding_all refine StrRest.zero (fun h' tk' F' N' => ?_)
  walk_at "go"
  all_goals exact hret _ _ _ _ ⟨rfl, _, congrArg (fun z => Value.int z _) (by decide +kernel)⟩ (by assumption) (by assumption)
end
-- part D2
section
theorem off_D2 : True := by
  w_top off
  exact trivial
local macro_rules | `(tactic| walk_at "subscriptTail") => `(tactic| (k_here; (with_reducible show wpAny _ _ (subscriptTail _ _ (Value.ref _) (Value.int _ _)) _ _ _); k_dflt (refine' my_item ?N ?m ?a ?b ?x ?_ ?s; (case N => k_asm); (case m => k_mem); (case x => assumption); (case a => omega); (case b => omega); (case s => with_unfolding_all rfl); k_whole)))
local macro_rules | `(tactic| walk_at "call ref") => `(tactic| (k_here; k_dflt (refine' Ct.go (C := fits_ct _ _ _ _ _ _ _ _ (by decide) (by decide)) (ret := ?_); k_whole); intro r9 n9 h9 tk9 hR9 F9 N9; obtain ⟨e9, f9⟩ := hR9; subst e9; subst f9; (try dsimp only)))
set_option maxHeartbeats 4000000 in
theorem wot_p2 (w : PySem.World) (mean mg mb) (t u : Tok) (news : Led) :
    Ct w mean mg mb 184 [.str (PySem.Str.ofString "2") t, .int 32 u] 4 32 news (fun r n' => n' = news ∧ ∃ t, r = .int (2) t) := by
  unfold Ct
  k_fill
  intro dp un gd cn cs a ccd cl outer A₀ base h₀ L m s Q E B F X N T hk hroom hu hret
  refine wpAny_call ?_
  k_dflt ktr_enter
  walk_at "go"
  rename Fr _ _ _ _ => lF'
  (with_unfolding_all refine' For_invVF lF' ?k1 ?k2 ?_; (case k1 => exact rfl); (case k2 => exact rfl); k_whole)
  walk_at "go"
  rename News _ _ _ _ => N3
  rename Fr _ _ _ _ => F3
  rename (∀ p ∈ news, p.1 < _) => hl3
  refine ⟨_, _, _, news, rfl, F3, N3, fun p hp => Nat.ne_of_lt (hl3 p hp), ?_⟩
  clear N3 F3
  with_unfolding_all refine StrRest.zero (fun h' tk' F' N' => ?_)
  walk_at "go"
  all_goals exact hret _ _ _ _ ⟨rfl, _, congrArg (fun z => Value.int z _) (by decide +kernel)⟩ (by assumption) (by assumption)
set_option maxHeartbeats 4000000 in
theorem wot_p3 (w : PySem.World) (mean mg mb) (t u : Tok) (news : Led) :
    Ct w mean mg mb 184 [.str (PySem.Str.ofString "3") t, .int 32 u] 4 32 news (fun r n' => n' = news ∧ ∃ t, r = .int (3) t) := by
  unfold Ct
  k_fill
  intro dp un gd cn cs a ccd cl outer A₀ base h₀ L m s Q E B F X N T hk hroom hu hret
  refine wpAny_call ?_
  k_dflt ktr_enter
  walk_at "go"
  rename Fr _ _ _ _ => lF'
  (with_unfolding_all refine' For_invVF lF' ?k1 ?k2 ?_; (case k1 => exact rfl); (case k2 => exact rfl); k_whole)
  walk_at "go"
  rename News _ _ _ _ => N3
  rename Fr _ _ _ _ => F3
  rename (∀ p ∈ news, p.1 < _) => hl3
  refine ⟨_, _, _, news, rfl, F3, N3, fun p hp => Nat.ne_of_lt (hl3 p hp), ?_⟩
  clear N3 F3
  with_unfolding_all refine StrRest.zero (fun h' tk' F' N' => ?_)
  walk_at "go"
  all_goals exact hret _ _ _ _ ⟨rfl, _, congrArg (fun z => Value.int z _) (by decide +kernel)⟩ (by assumption) (by assumption)
set_option maxHeartbeats 4000000 in
theorem wot_p4 (w : PySem.World) (mean mg mb) (t u : Tok) (news : Led) :
    Ct w mean mg mb 184 [.str (PySem.Str.ofString "4") t, .int 32 u] 4 32 news (fun r n' => n' = news ∧ ∃ t, r = .int (4) t) := by
  unfold Ct
  k_fill
  intro dp un gd cn cs a ccd cl outer A₀ base h₀ L m s Q E B F X N T hk hroom hu hret
  refine wpAny_call ?_
  k_dflt ktr_enter
  walk_at "go"
  rename Fr _ _ _ _ => lF'
  (with_unfolding_all refine' For_invVF lF' ?k1 ?k2 ?_; (case k1 => exact rfl); (case k2 => exact rfl); k_whole)
  walk_at "go"
  rename News _ _ _ _ => N3
  rename Fr _ _ _ _ => F3
  rename (∀ p ∈ news, p.1 < _) => hl3
  refine ⟨_, _, _, news, rfl, F3, N3, fun p hp => Nat.ne_of_lt (hl3 p hp), ?_⟩
  clear N3 F3
  with_unfolding_all refine StrRest.zero (fun h' tk' F' N' => ?_)
  walk_at "go"
  all_goals exact hret _ _ _ _ ⟨rfl, _, congrArg (fun z => Value.int z _) (by decide +kernel)⟩ (by assumption) (by assumption)
set_option maxHeartbeats 4000000 in
theorem wot_p5 (w : PySem.World) (mean mg mb) (t u : Tok) (news : Led) :
    Ct w mean mg mb 184 [.str (PySem.Str.ofString "5") t, .int 32 u] 4 32 news (fun r n' => n' = news ∧ ∃ t, r = .int (5) t) := by
  unfold Ct
  k_fill
  intro dp un gd cn cs a ccd cl outer A₀ base h₀ L m s Q E B F X N T hk hroom hu hret
  refine wpAny_call ?_
  k_dflt ktr_enter
  walk_at "go"
  rename Fr _ _ _ _ => lF'
  (with_unfolding_all refine' For_invVF lF' ?k1 ?k2 ?_; (case k1 => exact rfl); (case k2 => exact rfl); k_whole)
  walk_at "go"
  rename News _ _ _ _ => N3
  rename Fr _ _ _ _ => F3
  rename (∀ p ∈ news, p.1 < _) => hl3
  refine ⟨_, _, _, news, rfl, F3, N3, fun p hp => Nat.ne_of_lt (hl3 p hp), ?_⟩
  clear N3 F3
  with_unfolding_all refine StrRest.zero (fun h' tk' F' N' => ?_)
  walk_at "go"
  all_goals exact hret _ _ _ _ ⟨rfl, _, congrArg (fun z => Value.int z _) (by decide +kernel)⟩ (by assumption) (by assumption)
end
-- part E3
section
local macro_rules | `(tactic| walk_at "no line") => `(tactic| skip)
theorem off_E3 : True := by
  w_top off
  exact trivial
local macro_rules | `(tactic| walk_at "subscriptTail") => `(tactic| (k_here; (with_reducible show wpAny _ _ (subscriptTail _ _ (Value.ref _) (Value.int _ _)) _ _ _); k_dflt (refine' my_item ?N ?m ?a ?b ?x ?_ ?s; (case N => k_asm); (case m => k_mem); (case x => assumption); (case a => omega); (case b => omega); (case s => with_unfolding_all rfl); k_whole)))
def Num (x : PySem.Str) (n : Int) : Prop :=
  (x = PySem.Str.ofString "-2" ∧ n = -2) ∨ (x = PySem.Str.ofString "-1" ∧ n = -1) ∨ (x = PySem.Str.ofString "0" ∧ n = 0) ∨ (x = PySem.Str.ofString "1" ∧ n = 1) ∨ (x = PySem.Str.ofString "2" ∧ n = 2) ∨ (x = PySem.Str.ofString "3" ∧ n = 3) ∨ (x = PySem.Str.ofString "4" ∧ n = 4) ∨ (x = PySem.Str.ofString "5" ∧ n = 5)
theorem Num.ne {x : PySem.Str} {n : Int} (h : Num x n) : x ≠ PySem.Str.ofString "" := by
  rcases h with ⟨rfl, _⟩ | ⟨rfl, _⟩ | ⟨rfl, _⟩ | ⟨rfl, _⟩ | ⟨rfl, _⟩ | ⟨rfl, _⟩ | ⟨rfl, _⟩ | ⟨rfl, _⟩ <;> decide +kernel
theorem num_of {n : Int} (h : -2 ≤ n) (h' : n ≤ 5) : Num (PySem.Str.ofString (toString n)) n := by
  have : n = -2 ∨ n = -1 ∨ n = 0 ∨ n = 1 ∨ n = 2 ∨ n = 3 ∨ n = 4 ∨ n = 5 := om_8 h h'
  rcases this with rfl | rfl | rfl | rfl | rfl | rfl | rfl | rfl
  · exact .inl ⟨by decide +kernel, rfl⟩
  · exact .inr (.inl ⟨by decide +kernel, rfl⟩)
  · exact .inr (.inr (.inl ⟨by decide +kernel, rfl⟩))
  · exact .inr (.inr (.inr (.inl ⟨by decide +kernel, rfl⟩)))
  · exact .inr (.inr (.inr (.inr (.inl ⟨by decide +kernel, rfl⟩))))
  · exact .inr (.inr (.inr (.inr (.inr (.inl ⟨by decide +kernel, rfl⟩)))))
  · exact .inr (.inr (.inr (.inr (.inr (.inr (.inl ⟨by decide +kernel, rfl⟩))))))
  · exact .inr (.inr (.inr (.inr (.inr (.inr (.inr ⟨by decide +kernel, rfl⟩))))))
theorem wot_ct (w : PySem.World) (mean mg mb) (x : PySem.Str) (n : Int) (hx : Num x n) (t u : Tok) (news : Led) :
    Ct w mean mg mb 184 [.str x t, .int 32 u] 4 32 news (fun r n' => n' = news ∧ ∃ t, r = .int n t) := by
  rcases hx with ⟨rfl, rfl⟩ | ⟨rfl, rfl⟩ | ⟨rfl, rfl⟩ | ⟨rfl, rfl⟩ | ⟨rfl, rfl⟩ | ⟨rfl, rfl⟩ | ⟨rfl, rfl⟩ | ⟨rfl, rfl⟩
  · exact wot_m2 w mean mg mb t u news
  · exact wot_m1 w mean mg mb t u news
  · exact wot_p0 w mean mg mb t u news
  · exact wot_p1 w mean mg mb t u news
  · exact wot_p2 w mean mg mb t u news
  · exact wot_p3 w mean mg mb t u news
  · exact wot_p4 w mean mg mb t u news
  · exact wot_p5 w mean mg mb t u news
local macro_rules | `(tactic| walk_at "call ref") => `(tactic| (k_here; k_dflt (refine' Ct.go (C := (wot_ct _ _ _ _ _ _ (by assumption) _ _ _)) (ret := ?_); k_whole); intro r9 n9 h9 tk9 hR9 F9 N9; obtain ⟨e9, t9, f9⟩ := hR9; subst e9; subst f9; (try dsimp only)))
set_option maxHeartbeats 4000000 in
theorem wholein_ct (w : PySem.World) (mean mg mb) (x : PySem.Str) (n : Int) (hx : Num x n) (t u : Tok) (news : Led) :
    Ct w mean mg mb 283 [.str x t, .int 32 u] 5 48 news (fun r n' => n' = news ∧ ∃ t, r = .int n t) := by
  unfold Ct
  k_fill
  intro dp un gd cn cs a ccd cl outer A₀ base h₀ L m s Q E B F X N T hk hroom hu hret
  have hxb : (x == PySem.Str.ofString "") = false := by
    cases q : (x == PySem.Str.ofString "") with
    | false => rfl
    | true => exact absurd (eq_of_beq q) hx.ne
  refine wpAny_call ?_
  k_dflt ktr_enter
  walk_at "go"
  all_goals first | exact hret _ _ _ _ ⟨rfl, _, rfl⟩ (by assumption) (by assumption) | exact Bool.noConfusion ((by assumption : (x == PySem.Str.ofString "") = true).symm.trans hxb)
end
-- part E4
section
theorem off_E4 : True := by
  w_top off
  exact trivial
local macro_rules | `(tactic| walk_at "subscriptTail") => `(tactic| (k_here; (with_reducible show wpAny _ _ (subscriptTail _ _ (Value.ref _) (Value.int _ _)) _ _ _); k_dflt (refine' my_item ?N ?m ?a ?b ?x ?_ ?s; (case N => k_asm); (case m => k_mem); (case x => assumption); (case a => omega); (case b => omega); (case s => with_unfolding_all rfl); k_whole)))
abbrev tup2 (a b : Value) : Obj := { cls := .type "tuple", data := .seq #[a, b] }
abbrev BndL := Addr × Int × Int
def bprod (bs : List BndL) : Int := bs.foldl (fun a b => a * (b.2.2 - b.2.1 + 1)) 1
theorem bprod_snoc (dn : List BndL) (b : BndL) : bprod (dn ++ [b]) = bprod dn * (b.2.2 - b.2.1 + 1) := by simp [bprod]
abbrev BndOk (news : Led) (b : BndL) : Prop := 0 ≤ b.2.2 - b.2.1 + 1 ∧ b.2.2 - b.2.1 + 1 < 100 ∧ ∃ t u, (b.1, tup2 (.int b.2.1 t) (.int b.2.2 u)) ∈ news
abbrev bref (b : BndL) : Value := .ref b.1
set_option maxHeartbeats 4000000 in
theorem size_ct (w : PySem.World) (mean mg mb) (bA : Addr) (bs : List BndL) (n : Nat) (news : Led) (hb : (bA, listOf (bs.map bref).toArray n) ∈ news) (hok : ∀ b ∈ bs, BndOk news b) :
    Ct w mean mg mb 297 [.ref bA] 4 48 news (fun r n' => n' = news ∧ ∃ t, r = .int (bprod bs) t) := by
  unfold Ct
  k_fill
  intro dp un gd cn cs a ccd cl outer A₀ base h₀ L m s Q E B F X N T hk hroom hu hret
  refine wpAny_call ?_
  k_dflt ktr_enter
  walk_at "go"
  rename Fr _ _ _ _ => lF'
  with_unfolding_all refine' For_turns lF' ?_
  k_whole
  walk_at "go"
  rename News _ _ _ _ => lN'
  refine for_list (fun I r m₁ news₁ => ∃ (dn todo : List BndL), bs = dn ++ todo ∧ r = todo.map bref ∧ news₁ = news ∧ ∃ t, m₁ (PySem.Str.ofString "found") = some (.int (bprod dn) t)) rfl lF' lN' hb ?_ ?_ ?_
  · intro I hI
    exact ⟨[], bs, rfl, rfl, rfl, _, rfl⟩
  · rintro I oI v r m₁ news₁ h tk K hK ⟨dn, todo, hrs, hr, rfl, t1, hm1⟩ hk1 hI F₁ N₁
    obtain ⟨b, todo, rfl, rfl, rfl⟩ : ∃ b t', todo = b :: t' ∧ v = bref b ∧ r = t'.map bref := by
      cases todo with
      | nil => simp at hr
      | cons row t' => simp at hr; exact ⟨row, t', rfl, hr.1, hr.2⟩
    clear hr
    refine bPPP (hok b (by rw [hrs]; simp)) ?_
    intro hb0 hb1 hJz
    refine ex2 hJz ?_
    clear hJz
    intro t2 u2 hJz
    revert hJz
    intro hb2
    dsimp only
    walk_at "go"
    rename News _ _ _ _ => N3
    rename Fr _ _ _ _ => F3
    exact hK F3 N3 news₁ (fun p hp => hp) hI hb ⟨dn ++ [b], todo, by rw [hrs]; simp, rfl, rfl, _, by rw [bprod_snoc]; rfl⟩
  · rintro I m₁ news₁ h tk ⟨dn, todo, hrs, hr, rfl, t1, hm1⟩ F₁ N₁
    have : todo = [] := List.map_eq_nil_iff.mp hr.symm
    subst this
    rw [List.append_nil] at hrs
    subst hrs
    dsimp only
    walk_at "go"
    all_goals exact hret _ _ _ _ ⟨rfl, _, rfl⟩ (by assumption) (by assumption)
end
-- part E5
section
theorem off_E5 : True := by
  w_top off
  exact trivial
local macro_rules | `(tactic| walk_at "subscriptTail") => `(tactic| (k_here; (with_reducible show wpAny _ _ (subscriptTail _ _ (Value.ref _) (Value.int _ _)) _ _ _); k_dflt (refine' my_item ?N ?m ?a ?b ?x ?_ ?s; (case N => k_asm); (case m => k_mem); (case x => assumption); (case a => omega); (case b => omega); (case s => with_unfolding_all rfl); k_whole)))
theorem my_split {prog : PySem.Program} {w : PySem.World} {A : Around} {E : Value → Shared → Prop} {s : Shared} {h₀ : Heap} {L : Addr} {m : PySem.Str → Option Value} {news : Led} {x y : PySem.Str} {t u : Tok} {Q : Value → Shared → Prop} {parts : List PySem.Str}
    (hF : Fr h₀ L s.heap m) (hN : News h₀ L s.heap news) (hy : (y.length == 0) = false) (e : Txt.split x y = parts) (hsz : x.length ≤ 1000)
    (h : ∀ D l h' k, l.map (·.1) = parts → Fr h₀ L h' m → News h₀ L h' ((D, listOf (strValues l).toArray 0) :: news) → (∀ p ∈ news, p.1 < D) → Q (.ref D) { s with heap := h', toks := k }) :
    wpAny (model prog w) A (call (.builtin "str.split") [.str x t, .str y u]) Q E s :=
  KSpl.split1 hF hN hy (fun D l h' k e' _ F N o => h D l h' k (e'.trans e) F N o) (by rw [sizeLine_eq]; omega)
theorem strs1 {l : List (PySem.Str × Tok)} {a : PySem.Str} (e : l.map (·.1) = [a]) : ∃ t, l = [(a, t)] := by
  match l, e with
  | [(b, t)], e => simp at e; exact ⟨t, by rw [e]⟩
theorem strs2 {l : List (PySem.Str × Tok)} {a b : PySem.Str} (e : l.map (·.1) = [a, b]) : ∃ t u, l = [(a, t), (b, u)] := by
  match l, e with
  | [(a', t), (b', u)], e => simp at e; exact ⟨t, u, by rw [e.1, e.2]⟩
local macro_rules | `(tactic| walk_at "call builtin:str.split") => `(tactic| (k_here; k_dflt (refine' my_split (by k_asm) (by k_asm) (by decide +kernel) (by assumption) (by assumption) ?_); intro D9 l9 h9 k9 e9 F9 N9 o9; (first | (have q9 := strs1 e9; obtain ⟨t9, q9⟩ := q9; subst q9) | (have q9 := strs2 e9; obtain ⟨t9, u9, q9⟩ := q9; subst q9) | skip); (try dsimp only [strValues, List.map_cons, List.map_nil] at N9); (try k_lt o9)))
local macro_rules | `(tactic| walk_at "call ref") => `(tactic| (k_here; k_dflt (refine' Ct.go (C := (wholein_ct _ _ _ _ _ _ (by assumption) _ _ _)) (ret := ?_); k_whole); intro r9 n9 h9 tk9 hR9 F9 N9; obtain ⟨e9, t9, f9⟩ := hR9; subst e9; subst f9; (try dsimp only)))
theorem ex_lt {a d : Addr} (_h : a < d) : ∃ x y : Addr, x = a ∧ y = d := ⟨a, d, rfl, rfl⟩
abbrev PartL := PySem.Str × Int × Int
def PartOk (p : PartL) : Prop := p.1.length ≤ 1000 ∧ p.2.1 ≤ p.2.2 ∧ ((Txt.split p.1 (PySem.Str.ofString ":") = [p.1] ∧ Num p.1 p.2.2 ∧ p.2.1 = 1) ∨ ∃ pl ph, Txt.split p.1 (PySem.Str.ofString ":") = [pl, ph] ∧ Num pl p.2.1 ∧ Num ph p.2.2)
set_option maxHeartbeats 4000000 in
theorem bounds_ct (w : PySem.World) (mean mg mb) (x : PySem.Str) (ps : List PartL) (t u : Tok) (news : Led) (hs : Txt.split x (PySem.Str.ofString ",") = ps.map (·.1)) (hz : x.length ≤ 1000) (hok : ∀ p ∈ ps, PartOk p) (hlen : ps.length < 100) :
    Ct w mean mg mb 290 [.str x t, .int 32 u] 8 96 news (fun r n' => ∃ D k bs own, r = .ref D ∧ n' = (D, listOf (List.map bref bs).toArray k) :: (own ++ news) ∧ bs.map (·.2) = ps.map (·.2) ∧ (∀ b ∈ bs, ∃ t u, (b.1, tup2 (.int b.2.1 t) (.int b.2.2 u)) ∈ own) ∧ (∀ p ∈ news, p.1 < D) ∧ (∀ q ∈ own, D < q.1)) := by
  unfold Ct
  k_fill
  intro dp un gd cn cs a ccd cl outer A₀ base h₀ L m s Q E B F X N T hk hroom hu hret
  refine wpAny_call ?_
  k_dflt ktr_enter
  walk_at "go"
  rename Fr _ _ _ _ => lF'
  with_unfolding_all refine' For_turns lF' ?_
  k_whole
  walk_at "go"
  rename News _ _ _ _ => N9
  rename Fr _ _ _ _ => F9
  rename (List.map _ _ = List.map _ _) => e9
  rename (∀ p ∈ news, p.1 < _) => hFd
  rename (_ ∧ AllLt _ _) => o9
  have hFD := o9.1
  rename List (PySem.Str × Tok) => l9
  refine ex2 (ex_lt hFD) ?_
  intro Fd0 D9 hJz
  refine bPP hJz ?_
  clear hJz
  intro hq1 hq2
  subst hq1; subst hq2
  have N9' := cb_drop (news := (_, listOf (List.map bref []).toArray 0) :: ([] ++ (D9, listOf (strValues l9).toArray 0) :: news)) N9 (fun p hp => by
    simp only [List.nil_append, List.mem_cons] at hp ⊢
    rcases hp with rfl | rfl | hp
    · exact .inr (.inl rfl)
    · exact .inl rfl
    · exact .inr (.inr hp))
  refine for_list (fun I r m₁ news₁ => ∃ (dn todo : List PartL) (l' : List (PySem.Str × Tok)) (bs : List BndL) (own : Led) (Fd k : Nat), ps = dn ++ todo ∧ r = strValues l' ∧ l'.map (·.1) = todo.map (·.1) ∧ bs.map (·.2) = dn.map (·.2) ∧
      news₁ = (Fd, listOf (List.map bref bs).toArray k) :: (own ++ (D9, listOf (strValues l9).toArray 0) :: news) ∧ (∀ p ∈ news, p.1 < Fd) ∧ Fd < D9 ∧ (∀ q ∈ own, D9 < q.1) ∧ (∀ b ∈ bs, ∃ t u, (b.1, tup2 (.int b.2.1 t) (.int b.2.2 u)) ∈ own) ∧
      m₁ (PySem.Str.ofString "found") = some (.ref Fd) ∧ m₁ (PySem.Str.ofString "width") = some (.int 32 u)) rfl F9 N9' (.tail _ (.head _)) ?_ ?_ ?_
  · intro I hI
    exact ⟨[], ps, l9, [], [], _, _, rfl, rfl, e9, rfl, rfl, hFd, hFD, (fun _ h => nomatch h), (fun _ h => nomatch h), rfl, rfl⟩
  · intro I oI v r m₁ news₁ h tk K hK hJz
    refine ex7 hJz ?_
    clear hJz
    intro dn todo l' bs own Fd k hJz
    refine bPPPPRPPPPPP hJz ?_
    clear hJz
    intro hrs hr hl' hbs hFd hFD hown htup hm1 hm2
    intro hk1 hI F₁ N₁
    (try clear I)
    (try clear oI)
    (try clear v)
    (try clear r)
    (try clear m₁)
    (try clear news₁)
    (try clear h)
    (try clear tk)
    obtain ⟨p, todo, tp, l', rfl, rfl, hl2, rfl, rfl⟩ : ∃ p t2 tp l2, todo = p :: t2 ∧ l' = (p.1, tp) :: l2 ∧ l2.map (·.1) = t2.map (·.1) ∧ v = .str p.1 tp ∧ r = strValues l2 := by
      cases l' with
      | nil => simp [strValues] at hr
      | cons q l2 =>
        cases todo with
        | nil => simp at hl'
        | cons p t2 =>
          simp only [List.map_cons, List.cons.injEq] at hl'
          simp only [strValues, List.map_cons, List.cons.injEq] at hr
          exact ⟨p, t2, q.2, l2, rfl, by rw [← hl'.1], hl'.2, by rw [← hl'.1]; exact hr.1, hr.2⟩
    clear hr hl'
    refine bPPP (hok p (by rw [hrs]; simp)) ?_
    intro hz1 hle hcase
    have hne : ∀ q ∈ own ++ (D9, listOf (strValues l9).toArray 0) :: news, q.1 ≠ Fd := fun q hq => by
      rcases List.mem_append.mp hq with hq | hq
      · exact Nat.ne_of_gt (Nat.lt_trans hFD (hown q hq))
      · rcases List.mem_cons.mp hq with rfl | hq
        · exact Nat.ne_of_gt hFD
        · exact Nat.ne_of_lt (hFd q hq)
    have hIF : I ≠ Fd := fun e => hI _ (.head _) e.symm
    have hbl : bs.length < 1000 := by
      have h1 := congrArg List.length hbs
      have h2 := congrArg List.length hrs
      simp only [List.length_map, List.length_append, List.length_cons] at h1 h2
      omega
    obtain ⟨px, lo, hi⟩ := p
    dsimp only at hz1 hle hcase
    have close : ∀ (T : Addr) (t1 t2 : Tok), I < T → D9 < T → (∀ q ∈ (Fd, listOf (List.map bref (bs ++ [(T, lo, hi)])).toArray (k + 1)) :: (((T, tup2 (.int lo t1) (.int hi t2)) :: own) ++ (D9, listOf (strValues l9).toArray 0) :: news), q.1 ≠ I) ∧
        List.map (fun x : BndL => x.2) (bs ++ [(T, lo, hi)]) = List.map (fun x : PartL => x.2) (dn ++ [(px, lo, hi)]) ∧ (∀ q ∈ (T, tup2 (.int lo t1) (.int hi t2)) :: own, D9 < q.1) ∧
        (∀ b ∈ bs ++ [(T, lo, hi)], ∃ t u, (b.1, tup2 (.int b.2.1 t) (.int b.2.2 u)) ∈ (T, tup2 (.int lo t1) (.int hi t2)) :: own) := fun T t1 t2 hIT hDT => by
      refine ⟨fun q hq => ?_, by simp [hbs], fun q hq => ?_, fun b hb => ?_⟩
      · rcases List.mem_cons.mp hq with rfl | hq
        · exact hIF.symm
        · rcases List.mem_cons.mp hq with rfl | hq
          · exact Nat.ne_of_gt hIT
          · exact hI q (.tail _ hq)
      · rcases List.mem_cons.mp hq with rfl | hq
        · exact hDT
        · exact hown q hq
      · rcases List.mem_append.mp hb with hb | hb
        · refine ex2 (htup b hb) ?_
          intro t u hJz
          revert hJz
          intro hm
          exact ⟨t, u, .tail _ hm⟩
        · rw [List.mem_singleton.mp hb]
          exact ⟨t1, t2, .head _⟩
    rcases hcase with ⟨hsp, hn, hl1⟩ | ⟨pl, ph, hsp, hnl, hnh⟩
    · subst hl1
      dsimp only
      walk_at "go"
      rename News _ _ _ _ => N3
      rename Fr _ _ _ _ => F3
      rename (_ ∧ _ ∧ _ ∧ AllLt _ _) => lt4
      refine bPPPP lt4 ?_
      intro _ hIT hFT hall
      (try clear lt4)
      obtain ⟨c1, c2, c3, c4⟩ := close _ _ _ hIT (ktn_ltOf hall _ (List.mem_append_right _ (.head _)))
      refine' hK F3 N3 _ ?h1 c1 (.tail _ (.tail _ (List.mem_append_right _ (.head _)))) ⟨dn ++ [(px, 1, hi)], todo, l', _, _, Fd, k + 1, ?h2, rfl, hl2, c2, rfl, hFd, hFD, c3, c4, hm1, hm2⟩
      case h2 => rw [hrs]; simp
      case h1 =>
        rw [List.map_append]
        exact List.forall_mem_cons.mpr ⟨by k_mem, List.forall_mem_cons.mpr ⟨by k_mem, List.forall_mem_cons.mpr ⟨by k_mem, fun q hq => by k_mem⟩⟩⟩
    · dsimp only
      walk_at "go"
      rename News _ _ _ _ => N3
      rename Fr _ _ _ _ => F3
      rename (_ ∧ _ ∧ _ ∧ AllLt _ _) => lt4
      refine bPPPP lt4 ?_
      intro _ hIT hFT hall
      (try clear lt4)
      obtain ⟨c1, c2, c3, c4⟩ := close _ _ _ hIT (ktn_ltOf hall _ (List.mem_append_right _ (.head _)))
      refine' hK F3 N3 _ ?h1 c1 (.tail _ (.tail _ (List.mem_append_right _ (.head _)))) ⟨dn ++ [(px, lo, hi)], todo, l', _, _, Fd, k + 1, ?h2, rfl, hl2, c2, rfl, hFd, hFD, c3, c4, hm1, hm2⟩
      case h2 => rw [hrs]; simp
      case h1 =>
        rw [List.map_append]
        exact List.forall_mem_cons.mpr ⟨by k_mem, List.forall_mem_cons.mpr ⟨by k_mem, List.forall_mem_cons.mpr ⟨by k_mem, fun q hq => by k_mem⟩⟩⟩
  · intro I m₁ news₁ h tk hJz
    refine ex7 hJz ?_
    clear hJz
    intro dn todo l' bs own Fd k hJz
    refine bPPPPRPPPPPP hJz ?_
    clear hJz
    intro hrs hr hl' hbs hFd hFD hown htup hm1 hm2
    intro F₁ N₁
    (try clear I)
    (try clear m₁)
    (try clear news₁)
    (try clear h)
    (try clear tk)
    have : todo = [] := by
      cases l' with
      | nil => exact List.map_eq_nil_iff.mp hl'.symm
      | cons _ _ => simp [strValues] at hr
    subst this
    rw [List.append_nil] at hrs
    subst hrs
    dsimp only
    walk_at "go"
    rename News _ _ _ _ => N3
    rename Fr _ _ _ _ => F3
    exact hret _ _ _ _ ⟨_, _, bs, own, rfl, rfl, hbs, htup, hFd, fun q hq => Nat.lt_trans hFD (hown q hq)⟩ F3 (cb_drop N3 fun p hp => by
      rcases List.mem_cons.mp hp with rfl | hp
      · exact .head _
      · rcases List.mem_append.mp hp with hp | hp
        · exact .tail _ (List.mem_append_left _ hp)
        · exact .tail _ (List.mem_append_right _ (.tail _ hp)))
end
-- part E6
section
local macro_rules | `(tactic| walk_at "subscriptTail") => `(tactic| (k_here; (with_reducible show wpAny _ _ (subscriptTail _ _ (Value.ref _) (Value.int _ _)) _ _ _); k_dflt (refine' my_item ?N ?m ?a ?b ?x ?_ ?s; (case N => k_asm); (case m => k_mem); (case x => assumption); (case a => omega); (case b => omega); (case s => with_unfolding_all rfl); k_whole)))
theorem obj_ne {h₀ h : Heap} {L a b : Addr} {news : Led} {o o' : Obj} (N : News h₀ L h news) (h1 : (a, o) ∈ news) (h2 : (b, o') ∈ news) (hc : o.cls ≠ o'.cls) : a ≠ b := by
  intro e
  have e1 := (N _ h1).1
  have e2 := (N _ h2).1
  rw [e] at e1
  exact hc (congrArg Obj.cls (Option.some.inj (e1.symm.trans e2)))
theorem upd_mem {d : Addr} {o : Obj} {news pre post : Led} (e : news = pre ++ (d, o) :: post) {p : Addr × Obj} (hp : p ∈ news) (hd : p.1 ≠ d) : p ∈ pre ++ post := by
  rw [e] at hp
  rcases List.mem_append.mp hp with hp | hp
  · exact List.mem_append_left _ hp
  · rcases List.mem_cons.mp hp with rfl | hp
    · exact absurd rfl hd
    · exact List.mem_append_right _ hp
theorem upd_in {d : Addr} {o : Obj} {pre post : Led} : ∀ p ∈ (d, o) :: (pre ++ post), p ∈ pre ++ (d, o) :: post := fun p hp => by
  rcases List.mem_cons.mp hp with rfl | hp
  · exact List.mem_append_right _ (.head _)
  · rcases List.mem_append.mp hp with hp | hp
    · exact List.mem_append_left _ hp
    · exact List.mem_append_right _ (.tail _ hp)
theorem upd_out {d : Addr} {o : Obj} {pre post : Led} : ∀ p ∈ pre ++ (d, o) :: post, p ∈ (d, o) :: (pre ++ post) := fun p hp => by
  rcases List.mem_append.mp hp with hp | hp
  · exact .tail _ (List.mem_append_left _ hp)
  · rcases List.mem_cons.mp hp with rfl | hp
    · exact .head _
    · exact .tail _ (List.mem_append_right _ hp)
theorem upd_off {d : Addr} {pre post : Led} (h1 : ∀ p ∈ pre, p.1 ≠ d) (h2 : ∀ p ∈ post, p.1 ≠ d) : ∀ p ∈ pre ++ post, p.1 ≠ d := fun p hp => (List.mem_append.mp hp).elim (h1 p) (h2 p)
theorem number_use (w : PySem.World) (mean mg mb) (W dW : Addr) (es : List DictEntry) (n : Nat) (made : Int) (hl : Addr) (news : Led) (g : Obj → Led) (U : UpdF dW (dictOf es n) news g) (hW : WorldOk es made hl)
    (hi : (W, instObj 375 dW) ∈ news) :
    Ct w mean mg mb 386 [.ref W] 4 32 news (fun r n' => ∃ t es' n1, r = .int (made + 1) t ∧ n' = g (dictOf es' n1) ∧ WorldOk es' (made + 1) hl) := by
  unfold Ct
  intro dp un gd cn cs a ccd cl outer A₀ base h₀ L m s Q E B F X N T hk hroom hu hret
  obtain ⟨pre, post, e, hg, h1, h2⟩ := U.split
  have hne : W ≠ dW := obj_ne N hi (by rw [e]; exact List.mem_append_right _ (.head _)) (by intro q; cases q)
  refine number_ct w mean mg mb W dW es n made hl (pre ++ post) hW (upd_mem e hi hne) (upd_off h1 h2) dp un gd cn cs a ccd cl outer A₀ base h₀ L m s Q E B F X (cb_drop N (by rw [e]; exact upd_in)) T hk hroom hu ?_
  rintro r n' h' tk' ⟨t, es', n1, rfl, rfl, hW'⟩ F' N'
  exact hret _ _ h' tk' ⟨t, es', n1, rfl, rfl, hW'⟩ F' (by rw [hg]; exact cb_drop N' upd_out)
theorem held_use (w : PySem.World) (mean mg mb) (W dW : Addr) (es : List DictEntry) (n : Nat) (made : Int) (hl : Addr) (hs : Array Value) (nh : Nat) (v : Value) (news : Led) (g : Obj → Led) (U : UpdF hl (listOf hs nh) news g) (hW : WorldOk es made hl)
    (hi : (W, instObj 375 dW) ∈ news) (hd : (dW, dictOf es n) ∈ news) (hsz : hs.size < 1000) (hv : handedIn v = true) :
    Ct w mean mg mb 393 [.ref W, v] 4 32 news (fun r n' => r = v ∧ n' = g (listOf (hs.push v) (nh + 1))) := by
  unfold Ct
  intro dp un gd cn cs a ccd cl outer A₀ base h₀ L m s Q E B F X N T hk hroom hu hret
  obtain ⟨pre, post, e, hg, h1, h2⟩ := U.split
  have hm : (hl, listOf hs nh) ∈ news := by rw [e]; exact List.mem_append_right _ (.head _)
  have hne : W ≠ hl := obj_ne N hi hm (by intro q; cases q)
  have hne2 : dW ≠ hl := obj_ne N hd hm (by show Value.type "dict" ≠ Value.type "list"; decide)
  refine held_ct w mean mg mb W dW es n made hl hs nh v (pre ++ post) hW (upd_mem e hi hne) (upd_mem e hd hne2) (upd_off h1 h2) hsz hv dp un gd cn cs a ccd cl outer A₀ base h₀ L m s Q E B F X (cb_drop N (by rw [e]; exact upd_in)) T hk hroom hu ?_
  rintro r n' h' tk' ⟨rfl, rfl⟩ F' N'
  exact hret _ _ h' tk' ⟨rfl, rfl⟩ F' (by rw [hg]; exact cb_drop N' upd_out)
end
-- part E7
section
theorem bnd_ok {ps : List PartL} {bs : List BndL} {own news : Led} (hb : bs.map (·.2) = ps.map (·.2)) (ht : ∀ b ∈ bs, ∃ t u, (b.1, tup2 (.int b.2.1 t) (.int b.2.2 u)) ∈ own) (hps : ∀ p ∈ ps, 0 ≤ p.2.2 - p.2.1 + 1 ∧ p.2.2 - p.2.1 + 1 < 100) (hsub : ∀ p ∈ own, p ∈ news) : ∀ b ∈ bs, BndOk news b := fun b hb' => by
  have h1 : b.2 ∈ ps.map (·.2) := hb ▸ List.mem_map_of_mem hb'
  obtain ⟨p, hp, e⟩ := List.mem_map.mp h1
  have h2 := hps p hp
  rw [e] at h2
  obtain ⟨t, u, hm⟩ := ht b hb'
  exact ⟨h2.1, h2.2, t, u, hsub _ hm⟩
local macro_rules | `(tactic| walk_at "goC") => `(tactic| repeat' ((fail_if_success (with_reducible show wpAny _ _ (exec (PySem.Stmt.While _ _ _ _) _) _ _ _)); (fail_if_success (with_reducible show wpAny _ _ (exec (PySem.Stmt.For _ _ _ _ _) _) _ _ _)); walk_at "u1"))
local macro_rules | `(tactic| walk_at "useS") => `(tactic| (k_here; k_dflt (refine' Ct.go (C := (size_ct _ _ _ _ _ _ _ _ (by k_mem) (by exact Mine.bnd_ok (by assumption) (by assumption) (by assumption) (fun p hp => by repeat (first | exact List.mem_append_left _ hp | refine List.Mem.tail _ ?_))))) (ret := ?_); k_whole)))
local macro_rules | `(tactic| walk_at "useH") => `(tactic| (k_here; k_dflt (refine' Ct.use ?k1 ?k2 ?k3 ?k4 ?k5 ?kK (held_use _ _ _ _ _ _ _ _ _ _ _ _ _ _ _ ?U ?W ?i ?d ?z ?v) ?kd ?ku ?_; (case k1 => k_asm); (case k2 => k_asm); (case k3 => k_asm); (case k4 => k_asm); (case k5 => k_asm); (case kK => first | exact rfl | assumption); (case W => assumption); (case U => k_updF); (case i => k_mem); (case d => k_mem); (case z => assumption); (case v => exact rfl); (case kd => k_room); (case ku => k_room); k_whole)))
theorem bprod_map (bs : List BndL) : bprod bs = (bs.map (·.2)).foldl (fun (a : Int) (p : Int × Int) => a * (p.2 - p.1 + 1)) 1 := by simp [bprod, List.foldl_map]
structure ArrOk (es : List DictEntry) (made : Int) (x : PySem.Str) (D : Addr) (I : Addr) : Prop where
  number : ∃ t, getL (PySem.Str.ofString "number") es = some (some (.int made t))
  told : ∃ t, getL (PySem.Str.ofString "told") es = some (some (.str x t))
  bounds : getL (PySem.Str.ofString "bounds") es = some (some (.ref D))
  items : getL (PySem.Str.ofString "items") es = some (some (.ref I))
  len : es.length ≤ 500
theorem led_rot {h₀ h : Heap} {L : Addr} {a b c d e : Addr × Obj} {r : Led} (N : News h₀ L h (a :: b :: c :: d :: e :: r)) : News h₀ L h (e :: d :: b :: c :: r) := cb_drop N (fun p hp => by
  simp only [List.mem_cons] at hp ⊢
  rcases hp with rfl | rfl | rfl | rfl | hp
  · exact .inr (.inr (.inr (.inr (.inl rfl))))
  · exact .inr (.inr (.inr (.inl rfl)))
  · exact .inr (.inl rfl)
  · exact .inr (.inr (.inl rfl))
  · exact .inr (.inr (.inr (.inr (.inr hp)))))
theorem led_swp {h₀ h : Heap} {L : Addr} {a b : Addr × Obj} {r : Led} (N : News h₀ L h (a :: b :: r)) : News h₀ L h (b :: a :: r) := cb_drop N (fun p hp => by
  simp only [List.mem_cons] at hp ⊢
  rcases hp with rfl | rfl | hp
  · exact .inr (.inl rfl)
  · exact .inl rfl
  · exact .inr (.inr hp))
end
-- part Ex
section
theorem off_Ex : True := by
  w_top off
  exact trivial
theorem my_mul {prog : PySem.Program} {w : PySem.World} {A : Around} {E : Value → Shared → Prop} {s : Shared} {h₀ : Heap} {L : Addr} {m : PySem.Str → Option Value} {rest : Led} {l : Addr} {items : Array Value} {k : Nat} {x : Int} {u : Tok} {Q : Value → Shared → Prop} (Fm : Fr h₀ L s.heap m) (N : News h₀ L s.heap ((l, listOf items k) :: rest))
    (hlo : -(2 ^ 63 : Int) ≤ x) (hhi : x < 2 ^ 63) (hsz : items.size * x.toNat ≤ 2 ^ 24)
    (h : ∀ D h', Fr h₀ L h' m → News h₀ L h' ((l, listOf items k) :: rest) → Q (.ref D) { s with heap := h' }) :
    wpAny (model prog w) A (binaryOp .Mult (.ref l) (.int x u)) Q E s := mul_list Fm N (N _ (.head _)).1 hlo hhi hsz fun h' F' N' => h _ h' F' (cb_drop N' fun p hp => .tail _ hp)
local macro_rules | `(tactic| walk_at "goC") => `(tactic| repeat' ((fail_if_success (with_reducible show wpAny _ _ (exec (PySem.Stmt.While _ _ _ _) _) _ _ _)); (fail_if_success (with_reducible show wpAny _ _ (exec (PySem.Stmt.For _ _ _ _ _) _) _ _ _)); walk_at "u1"))
local macro_rules | `(tactic| walk_at "useS") => `(tactic| (k_here; k_dflt (refine' Ct.go (C := (size_ct _ _ _ _ _ _ _ _ (by k_mem) (by exact Mine.bnd_ok (by assumption) (by assumption) (by assumption) (fun p hp => by repeat (first | exact List.mem_append_left _ hp | refine List.Mem.tail _ ?_))))) (ret := ?_); k_whole)))
local macro_rules | `(tactic| walk_at "useH") => `(tactic| (k_here; k_dflt (refine' Ct.use ?k1 ?k2 ?k3 ?k4 ?k5 ?kK (held_use _ _ _ _ _ _ _ _ _ _ _ _ _ _ _ ?U ?W ?i ?d ?z ?v) ?kd ?ku ?_; (case k1 => k_asm); (case k2 => k_asm); (case k3 => k_asm); (case k4 => k_asm); (case k5 => k_asm); (case kK => first | exact rfl | assumption); (case W => assumption); (case U => k_updF); (case i => k_mem); (case d => k_mem); (case z => assumption); (case v => exact rfl); (case kd => k_room); (case ku => k_room); k_whole)))
local macro_rules | `(tactic| walk_at "binaryOp Mult ref int") => `(tactic| (k_here; (with_reducible show wpAny _ _ (binaryOp PySem.Operator.Mult (Value.ref _) (Value.int _ _)) _ _ _); k_dflt (refine' my_mul ?F ?N ?lo ?hi ?z ?_; (case N => k_asm); (case F => k_asm); (case lo => omega); (case hi => omega); (case z => (simp; omega)); k_whole); intro D' h' F' N'))
set_option maxHeartbeats 4000000 in
theorem made_ct2 (w : PySem.World) (mean mg mb) (W dW : Addr) (es : List DictEntry) (n : Nat) (made : Int) (hl : Addr) (hs : Array Value) (nh : Nat) (aA : Addr) (na : Nat) (x : PySem.Str) (t u : Tok) (ps : List PartL) (rest : Led) (hW : WorldOk es made hl)
    (hi : (W, instObj 375 dW) ∈ rest) (ha : (aA, listOf #[.str x t, .str (PySem.Str.ofString "") u] na) ∈ rest) (hne : ∀ p ∈ rest, p.1 ≠ dW) (hne2 : ∀ p ∈ rest, p.1 ≠ hl) (hsz : hs.size < 1000)
    (hsp : Txt.split x (PySem.Str.ofString ",") = ps.map (·.1)) (hz : x.length ≤ 1000) (hok : ∀ p ∈ ps, PartOk p) (hlen : ps.length < 100) (hps : ∀ p ∈ ps, 0 ≤ p.2.2 - p.2.1 + 1 ∧ p.2.2 - p.2.1 + 1 < 100) (cnt : Nat) (hcnt : cnt < 100) (hbp : ((ps.map (·.2)).foldl (fun (a : Int) (p : Int × Int) => a * (p.2 - p.1 + 1)) 1) = cnt) :
    Ct w mean mg mb 407 [.ref W, .ref aA] 14 160 ((dW, dictOf es n) :: (hl, listOf hs nh) :: rest) (fun r n' => ∃ A dA aes ka I D k bs own es' n1, r = .ref A ∧ n' = (dW, dictOf es' n1) :: (hl, listOf (hs.push (.ref A)) (nh + 1)) :: (A, instObj 236 dA) :: (dA, dictOf aes ka) :: (D, listOf (List.map bref bs).toArray k) :: (own ++ rest) ∧ WorldOk es' (made + 1) hl ∧ ArrOk aes (made + 1) x D I ∧ bs.map (·.2) = ps.map (·.2) ∧ (∀ b ∈ bs, ∃ t u, (b.1, tup2 (.int b.2.1 t) (.int b.2.2 u)) ∈ own) ∧ (∀ q ∈ own, D < q.1) ∧ (∀ p ∈ rest, p.1 < D) ∧ dW < D ∧ hl < D ∧ dW < dA) := by
  unfold Ct
  k_fill
  intro dp un gd cn cs a ccd cl outer A₀ base h₀ L m s Q E B F X N T hk hroom hu hret
  refine ex1 (hW.width) ?_
  intro t1 hJz
  revert hJz
  intro hw1
  refine ex1 (hW.most) ?_
  intro t2 hJz
  revert hJz
  intro hw2
  have hdh : dW ≠ hl := obj_ne N (.head _) (.tail _ (.head _)) (by show Value.type "dict" ≠ Value.type "list"; decide)
  refine wpAny_call ?_
  k_dflt ktr_enter
  walk_at "goC"
  have CC := number_ct w mean mg mb W dW es n made hl ((hl, listOf hs nh) :: rest) hW (.tail _ hi) (List.forall_mem_cons.mpr ⟨hdh.symm, hne⟩)
  walk_at "useC"
  intro r9 n9 h9 tk9 hJz
  refine ex3 hJz ?_
  clear hJz
  intro t9 es9 n19 hJz
  refine bRRP hJz ?_
  clear hJz
  intro W9
  intro F9 N9
  (try clear r9)
  (try clear n9)
  (try clear h9)
  (try clear tk9)
  dsimp only
  walk_at "goC"
  refine ex1 (W9.width) ?_
  intro tw9 hJz
  revert hJz
  intro hw9
  refine ex1 (W9.most) ?_
  intro tm9 hJz
  revert hJz
  intro hm9
  walk_at "goC"
  have CD := bounds_ct w mean mg mb x ps t tw9 ((dW, dictOf es9 n19) :: (hl, listOf hs nh) :: rest) hsp hz hok hlen
  walk_at "useC"
  intro r8 n8 h8 tk8 hJz
  refine ex4 hJz ?_
  clear hJz
  intro D8 k8 bs own hJz
  refine bRRPPPP hJz ?_
  clear hJz
  intro hbs htup hD8 hown8
  intro F8 N8
  (try clear r8)
  (try clear n8)
  (try clear h8)
  (try clear tk8)
  have hi8 : (W, instObj 375 dW) ∈ own ++ rest := List.mem_append_right _ hi
  have hd8 : ∀ p ∈ own ++ rest, p.1 ≠ dW := fun p hp => (List.mem_append.mp hp).elim (fun hp => Nat.ne_of_gt (Nat.lt_trans (hD8 _ (.head _)) (hown8 p hp))) (hne p)
  have hl8 : ∀ p ∈ own ++ rest, p.1 ≠ hl := fun p hp => (List.mem_append.mp hp).elim (fun hp => Nat.ne_of_gt (Nat.lt_trans (hD8 _ (.tail _ (.head _))) (hown8 p hp))) (hne2 p)
  have hbp8 : bprod bs = cnt := by rw [bprod_map, hbs, hbp]
  replace N8 := cb_drop (news := (dW, dictOf es9 n19) :: (hl, listOf hs nh) :: (D8, listOf (List.map bref bs).toArray k8) :: (own ++ rest)) N8 (fun p hp => by
    simp only [List.mem_cons, List.mem_append] at hp ⊢
    rcases hp with rfl | rfl | rfl | hp | hp
    · exact .inr (.inr (.inl rfl))
    · exact .inr (.inr (.inr (.inl rfl)))
    · exact .inl rfl
    · exact .inr (.inl hp)
    · exact .inr (.inr (.inr (.inr hp))))
  dsimp only
  walk_at "goC"
  rename News _ _ _ _ => N7
  replace N7 := cb_drop (news := (dW, dictOf es9 n19) :: (hl, listOf hs nh) :: (D8, listOf (List.map bref bs).toArray k8) :: (own ++ rest)) N7 (fun p hp => by first | exact hp | exact .tail _ hp)
  have CE := size_ct w mean mg mb D8 bs k8 ((dW, dictOf es9 n19) :: (hl, listOf hs nh) :: (D8, listOf (List.map bref bs).toArray k8) :: (own ++ rest)) (.tail _ (.tail _ (.head _))) (bnd_ok hbs htup hps fun p hp => .tail _ (.tail _ (.tail _ (List.mem_append_left _ hp))))
  walk_at "useC"
  intro r7 n7 h7 tk7 hJz
  refine bRP hJz ?_
  clear hJz
  intro hJz
  refine ex1 hJz ?_
  clear hJz
  intro t7 hJz
  refine bR hJz ?_
  clear hJz
  intro F7 N7
  (try clear r7)
  (try clear n7)
  (try clear h7)
  (try clear tk7)
  rw [hbp8]
  rw [hbp8] at CE
  dsimp only
  walk_at "goC"
  walk_at "useS"
  intro r6 n6 h6 tk6 hJz
  refine bRP hJz ?_
  clear hJz
  intro hJz
  refine ex1 hJz ?_
  clear hJz
  intro t6 hJz
  refine bR hJz ?_
  clear hJz
  intro F6 N6
  (try clear r6)
  (try clear n6)
  (try clear h6)
  (try clear tk6)
  rw [hbp8]
  dsimp only
  walk_at "goC"
  rename News _ _ _ _ => N6a
  have N6r := led_rot N6a
  refine' Ct.use ?zk1 ?zk2 ?zk3 N6r ?zk5 (by first | exact rfl | assumption) (held_ct w mean mg mb W dW es9 n19 (made + 1) hl hs nh _ _ W9 ?zi ?zd ?zne hsz rfl) ?zkd ?zku ?_
  case zk1 => k_asm
  case zk2 => k_asm
  case zk3 => k_asm
  case zk5 => k_asm
  case zi => k_mem
  case zd => exact .head _
  case zne => exact List.forall_mem_cons.mpr ⟨hdh, List.forall_mem_cons.mpr ⟨obj_ne N6r (.tail _ (.tail _ (.head _))) (.head _) (by intro q; cases q), List.forall_mem_cons.mpr ⟨obj_ne N6r (.tail _ (.tail _ (.tail _ (.head _)))) (.head _) (by show Value.type "dict" ≠ Value.type "list"; decide), List.forall_mem_cons.mpr ⟨Nat.ne_of_gt (hD8 _ (.tail _ (.head _))), hl8⟩⟩⟩⟩
  case zkd => k_room
  case zku => k_room
  k_whole
  intro r5 n5 h5 tk5 hJz
  refine bRR hJz ?_
  clear hJz
  intro F5 N5
  (try clear r5)
  (try clear n5)
  (try clear h5)
  (try clear tk5)
  replace N5 := led_swp N5
  dsimp only
  walk_at "goC"
  rename News _ _ _ _ => N4
  rename Fr _ _ _ _ => F4
  refine' hret _ _ _ _ ⟨_, _, _, _, _, D8, k8, bs, own, es9, n19, rfl, rfl, W9, ?zA, hbs, htup, hown8, fun p hp => hD8 _ (.tail _ (.tail _ hp)), hD8 _ (.head _), hD8 _ (.tail _ (.head _)), ?zq⟩ F4 N4
  case zq =>
    rename dW < _ ∧ hl < _ ∧ _ < _ ∧ AllLt _ (own ++ rest) => lz
    exact lz.1
  case zA =>
    refine' ArrOk.mk ?zw1 ?zw2 ?zw3 ?zw4 ?zw5
    case zw1 => exact ⟨_, rfl⟩
    case zw2 => exact ⟨_, rfl⟩
    case zw3 => exact rfl
    case zw4 => exact rfl
    case zw5 => exact Nat.le_of_ble_eq_true rfl
end
-- part C1
section
theorem off_C1 : True := by
  w_top off
  exact trivial
local macro_rules | `(tactic| walk_at "subscriptTail") => `(tactic| (k_here; (with_reducible show wpAny _ _ (subscriptTail _ _ (Value.ref _) (Value.int _ _)) _ _ _); k_dflt (refine' my_item ?N ?m ?a ?b ?x ?_ ?s; (case N => k_asm); (case m => k_mem); (case x => assumption); (case a => omega); (case b => omega); (case s => with_unfolding_all rfl); k_whole)))
local macro_rules | `(tactic| walk_at "call ref") => `(tactic| (k_here; k_dflt (refine' Ct.go (C := (behind_ct _ _ _ _ _ _ _ (by assumption) (by assumption) _)) (ret := ?_); k_whole); intro r9 n9 h9 tk9 hR9 F9 N9; obtain ⟨e9, f9⟩ := hR9; subst e9; subst f9; (try dsimp only)))
set_option maxHeartbeats 4000000 in
theorem sorted_ct (w : PySem.World) (mean mg mb) (ra : Addr) (rs : List RowL) (n : Nat) (c : Nat) (tc : Tok) (d : Bool) (news : Led)
    (hra : (ra, listOf (rs.map rref).toArray n) ∈ news) (hok : ∀ r ∈ rs, RowOk news c r) (hc : c < 100) (hlen : rs.length < 1000) :
    Ct w mean mg mb 345 [.ref ra, .int c tc, .bool d] 4 32 news
      (fun r n => ∃ a k, r = .ref a ∧ n = (a, listOf ((sortR (bh d c) rs).map rref).toArray k) :: news ∧ ∀ p ∈ news, p.1 < a) := by
  unfold Ct
  k_fill
  intro dp un gd cn cs a ccd cl outer A₀ base h₀ L m s Q E B F X N T hk hroom hu hret
  refine wpAny_call ?_
  k_dflt ktr_enter
  walk_at "go"
  rename Fr _ _ _ _ => lF'
  with_unfolding_all refine' For_turns lF' ?_
  k_whole
  walk_at "go"
  rename News _ _ _ _ => lN'
  refine for_list (fun I r m₁ news₁ => ∃ (dn todo : List RowL) (Fd k : Nat), rs = dn ++ todo ∧ r = todo.map rref ∧ news₁ = (Fd, listOf ((sortR (bh d c) dn).map rref).toArray k) :: news ∧ (∀ p ∈ news, p.1 < Fd) ∧
      m₁ (PySem.Str.ofString "found") = some (.ref Fd) ∧ m₁ (PySem.Str.ofString "column") = some (.int c tc) ∧ m₁ (PySem.Str.ofString "is_down") = some (.bool d)) rfl lF' lN' (.tail _ hra) ?_ ?_ ?_
  · intro I hI
    exact ⟨[], rs, _, _, rfl, rfl, rfl, by assumption, rfl, rfl, rfl⟩
  · intro I oI v r m₁ news₁ h tk K hK hJz
    refine ex4 hJz ?_
    clear hJz
    intro dn todo Fd k hJz
    refine bPPRPPPP hJz ?_
    clear hJz
    intro hrs hr hFd hm1 hm2 hm3
    intro hk1 hI F₁ N₁
    (try clear I)
    (try clear oI)
    (try clear v)
    (try clear r)
    (try clear m₁)
    (try clear news₁)
    (try clear h)
    (try clear tk)
    obtain ⟨row, todo, rfl, rfl, rfl⟩ : ∃ row t', todo = row :: t' ∧ v = rref row ∧ r = t'.map rref := by
      cases todo with
      | nil => simp at hr
      | cons row t' => simp at hr; exact ⟨row, t', rfl, hr.1, hr.2⟩
    clear hr
    have hlk : (sortR (bh d c) dn).length < 1000 := by
      have := foldl_len (insR_len (bh d c)) dn []
      have h2 : rs.length = dn.length + (todo.length + 1) := by rw [hrs]; simp
      show (List.foldl (insR (bh d c)) [] dn).length < 1000
      rw [this]; exact om_len3 h2 hlen
    have hacc : ∀ x ∈ sortR (bh d c) dn, RowOk news c x := fun x hx => hok x (by
      rcases foldl_mem (insR_mem (bh d c)) dn [] hx with h | h
      · rw [hrs]; exact List.mem_append_left _ h
      · cases h)
    have hrow : RowOk news c row := hok row (by rw [hrs]; simp)
    generalize hG : sortR (bh d c) dn = acc at *
    walk_at "go"
    rename Fr _ _ _ _ => lF2
    rename News _ _ _ _ => lN2
    refine while_cut (n₀ := acc.length) (fun n m₂ news₂ => n ≤ acc.length ∧ cutR (bh d c row) acc n = cutR (bh d c row) acc acc.length ∧ news₂ = (I, oI) :: (Fd, listOf (acc.map rref).toArray k) :: news ∧
      m₂ (PySem.Str.ofString "found") = some (.ref Fd) ∧ m₂ (PySem.Str.ofString "column") = some (.int c tc) ∧ m₂ (PySem.Str.ofString "is_down") = some (.bool d) ∧ m₂ (PySem.Str.ofString "row") = some (rref row) ∧ ∃ t, m₂ (PySem.Str.ofString "at") = some (.int n t))
      (fun m₂ news₂ => news₂ = (I, oI) :: (Fd, listOf (acc.map rref).toArray k) :: news ∧
      m₂ (PySem.Str.ofString "found") = some (.ref Fd) ∧ m₂ (PySem.Str.ofString "column") = some (.int c tc) ∧ m₂ (PySem.Str.ofString "is_down") = some (.bool d) ∧ m₂ (PySem.Str.ofString "row") = some (rref row) ∧ ∃ t, m₂ (PySem.Str.ofString "at") = some (.int (cutR (bh d c row) acc acc.length : Nat) t))
      lF2 lN2 ⟨Nat.le_refl _, rfl, rfl, hm1, hm2, hm3, rfl, _, rfl⟩ ?_ ?_
    · clear lF2 lN2
      rintro n m₂ news₂ h₂ tk₂ K2 K3 hB hC hO F₂ N₂ ⟨hn, hcut, rfl, hf, hc2, hd2, hr2, t2, ha2⟩
      cases n with
      | zero =>
        dsimp only
        walk_at "go"
        exact hO (by assumption) (by assumption) ⟨rfl, hf, hc2, hd2, hr2, t2, hcut ▸ ha2⟩
      | succ n =>
        obtain ⟨x, hx⟩ : ∃ x, acc[n]? = some x := ⟨acc[n], by simp [hn]⟩
        have hxr : (acc.map rref)[(((n + 1 : Nat) : Int) - 1).toNat]? = some (rref x) := by
          rw [om_pred, List.getElem?_map, hx]; rfl
        refine bPPP (hacc x (List.mem_of_getElem? hx)) ?_
        intro hx1 hx2 hJz
        refine ex1 hJz ?_
        clear hJz
        intro kx hJz
        revert hJz
        intro hx3
        refine bPPP hrow ?_
        intro hw1 hw2 hJz
        refine ex1 hJz ?_
        clear hJz
        intro kw hJz
        revert hJz
        intro hw3
        (try clear hrow)
        dsimp only
        walk_at "go"
        · have hb : bh d c row x = true := by assumption
          rw [cutR_yes hx hb] at hcut
          rename News _ _ _ _ => N3
          rename Fr _ _ _ _ => F3
          exact hC F3 N3 n (Nat.lt_succ_self _) ⟨Nat.le_of_succ_le hn, hcut, rfl, hf, hc2, hd2, hr2, _, congrArg (fun z => some (Value.int z _)) (om_pred2 n)⟩
        · have hb : bh d c row x = false := by assumption
          rw [cutR_no hx hb] at hcut
          exact hO (by assumption) (by assumption) ⟨rfl, hf, hc2, hd2, hr2, t2, hcut ▸ ha2⟩
    · clear lF2 lN2
      rintro m₂ news₂ h₂ tk₂ ⟨rfl, hf, hc2, hd2, hr2, t2, ha2⟩ F₂ N₂
      have hne : I ≠ Fd := fun e => hI _ (.head _) e.symm
      have hle := cutR_le (bh d c row) acc acc.length
      dsimp only
      walk_at "go"
      rename News _ _ _ _ => N3
      rename Fr _ _ _ _ => F3
      have hs : putAt (acc.map rref) (cutR (bh d c row) acc acc.length) (rref row) = (sortR (bh d c) (dn ++ [row])).map rref := by
        rw [← putAt_map, sortR_snoc, hG]; rfl
      rw [hs] at N3
      exact hK F3 N3 _ (fun p hp => hp) (fun p hp => by
          rcases List.mem_cons.mp hp with rfl | hp
          · exact hne.symm
          · exact hI p (.tail _ hp)) (.tail _ hra) ⟨dn ++ [row], todo, Fd, k + 1, by rw [hrs]; simp, rfl, rfl, hFd, hf, hc2, hd2⟩
  · intro I m₁ news₁ h tk hJz
    refine ex4 hJz ?_
    clear hJz
    intro dn todo Fd k hJz
    refine bPPRPPPP hJz ?_
    clear hJz
    intro hrs hr hFd hm1 hm2 hm3
    intro F₁ N₁
    (try clear I)
    (try clear m₁)
    (try clear news₁)
    (try clear h)
    (try clear tk)
    have : todo = [] := List.map_eq_nil_iff.mp hr.symm
    subst this
    rw [List.append_nil] at hrs
    subst hrs
    dsimp only
    walk_at "go"
    all_goals exact hret _ _ _ _ ⟨_, _, rfl, rfl, hFd⟩ (by assumption) (by assumption)
end
-- part E8
section
theorem off_E8 : True := by
  w_top off
  exact trivial
local macro_rules | `(tactic| walk_at "enterC") => `(tactic| (refine' code_defC ?k1 ?k2 ?k3 ?k4 ?k5 ?kA ?kF ?kK ?k6 ?k7 ?k8 ?k9 ?kB ?kD ?_ ?c2 ?c3 ?c4; (case kA => exact rfl); (case kF => exact rfl); (case kK => first | exact rfl | assumption); (case k1 => k_asm); (case k2 => k_asm); (case k3 => k_asm); (case k4 => k_asm); (case k5 => k_asm); (case k6 => k_is); (case k7 => k_is); (case k8 => k_room); (case k9 => first | exact BindsTo.of_eq rfl | exact binds_K (by k_in) rfl (by k_is) rfl rfl rfl | fail "k_enter: no rule for these arguments"); (case kB => exact rfl); (case kD => decide +kernel); (case c2 => exact rfl); (case c3 => exact rfl); (case c4 => exact rfl); k_whole; intro g' L' h' tk' cells' FG' F' N' Y' B' X' T' l1; (try k_lt l1); k_cells Y'; (try simp only [List.cons_append, List.nil_append] at N'); (try dsimp only); (try k_fold)))
theorem ne_cell {news : Led} {L c : Addr} (h : ∀ p ∈ news, p.1 < L) (hc : L < c) : ∀ p ∈ news, p.1 ≠ c := fun p hp => Nat.ne_of_lt (Nat.lt_trans (h p hp) hc)
local macro_rules | `(tactic| k_all) => `(tactic| first | assumption | (refine Mine.ne_cell (by assumption) ?_; first | exact Nat.lt_succ_self _ | exact Nat.lt_succ_of_lt (Nat.lt_succ_self _) | omega))
local macro_rules | `(tactic| walk_at "storeName") => `(tactic| (k_here; k_dflt (refine' storeX_C ?F ?N ?c ?U ?d ?_ ?a ?b; (case a => rfl); (case b => rfl); (case F => k_asm); (case N => k_asm); (case c => rfl); (case U => first | (refine UpdF.tail ?_ (UpdF.head ?_); (first | omega | exact Nat.ne_of_lt (Nat.lt_succ_self _) | k_ne); k_all) | (refine UpdF.head ?_; k_all) | k_updF); (case d => k_asm); k_whole; intro h' o' F' N' d'; (try dsimp only at N'))))
local macro_rules | `(tactic| walk_at "subscriptTail Attribute Slice ref ref") => `(tactic| (k_here; (with_reducible show wpAny _ _ (subscriptTail _ (PySem.Expr.Slice _ _ none _) (Value.ref _) (Value.ref _)) _ _ _); k_dflt (refine' my_slice (by k_asm) (by k_asm) (by k_mem) (by kmk_part) (by kmk_part) (by exact Mine.pick_row _ _ _) ?_ (by with_unfolding_all rfl) (by kmk_pure) (by (first | assumption | omega))); intro D' h' F' N' l1; (try k_lt l1)))
theorem mem_led {h₀ h : Heap} {L : Addr} {a b c d e p : Addr × Obj} {own news : Led} (_N : News h₀ L h (a :: b :: c :: (own ++ d :: e :: news))) (hp : p ∈ news) : p ∈ a :: b :: c :: (own ++ d :: e :: news) := .tail _ (.tail _ (.tail _ (List.mem_append_right _ (.tail _ (.tail _ hp)))))
local macro_rules | `(tactic| walk_at "eval Name") => `(tactic| (k_here; (with_reducible show wpAny _ _ (eval (PySem.Expr.Name _ _) (compEnvC _ _ _ _)) _ _ _); k_dflt (first
  | refine LCgL.ld_own (by k_asm) (by k_mem) (by assumption) (by assumption) ?_
  | (refine' lcf_cell ?N ?c ?m ?d ?_ ?a ?b; (case a => rfl); (case b => rfl); (case N => k_asm); (case c => rfl); (case m => first | (with_reducible exact (List.Mem.tail _ (.tail _ (.tail _ (List.mem_append_right _ (.head _)))))) | (with_reducible exact (List.Mem.tail _ (.tail _ (.tail _ (List.mem_append_right _ (.tail _ (.head _))))))) | exact (List.Mem.tail _ (.tail _ (.tail _ (List.mem_append_right _ (.head _))))) | exact (List.Mem.tail _ (.tail _ (.tail _ (List.mem_append_right _ (.tail _ (.head _))))))); (case d => assumption); k_whole))))
theorem cut_cells (a c d : Addr × Obj) {own news : Led} : ∀ p ∈ a :: (own ++ news), p ∈ a :: (own ++ c :: d :: news) := fun p hp => by
  rcases List.mem_cons.mp hp with rfl | hp
  · exact .head _
  rcases List.mem_append.mp hp with hp | hp
  · exact .tail _ (List.mem_append_left _ hp)
  · exact .tail _ (List.mem_append_right _ (.tail _ (.tail _ hp)))
local macro_rules | `(tactic| walk_at "eval Name") => `(tactic| (k_here; k_dflt (refine' nameX_C ?N ?c ?m ?d ?_ ?a ?b; (case a => rfl); (case b => rfl); (case N => k_asm); (case c => rfl); (case m => k_mem); (case d => assumption); k_whole)))
theorem flat_len {rss : List (List Value)} {wide : Nat} (hr : ∀ r ∈ rss, r.length = wide) : rss.flatten.length = rss.length * wide := by
  induction rss with
  | nil => simp
  | cons r t ih => rw [List.flatten_cons, List.length_append, hr r (.head _), ih fun x hx => hr x (.tail _ hx), List.length_cons, Nat.succ_mul, Nat.add_comm]
abbrev BoundW (bs : List BndL) (wide : Int) : Prop := (∃ b1, bs = [b1] ∧ wide = 1) ∨ ∃ b1 b2, bs = [b1, b2] ∧ b2.2.2 - b2.2.1 + 1 = wide
set_option maxHeartbeats 4000000 in
theorem rows_ct1 (w : PySem.World) (mean mg mb) (aA dA D I : Addr) (aes : List DictEntry) (ka k ki : Nat) (made : Int) (x : PySem.Str) (b1 : BndL) (rss : List (List Value)) (wide : Nat) (news : Led)
    (hi : (aA, instObj 236 dA) ∈ news) (hd : (dA, dictOf aes ka) ∈ news) (hA : ArrOk aes made x D I) (hD : (D, listOf (List.map bref [b1]).toArray k) ∈ news) (hI : (I, listOf rss.flatten.toArray ki) ∈ news)
    (e : (wide : Int) = 1) (hr : ∀ r ∈ rss, r.length = wide) (hw0 : 0 < wide) (hw1 : wide < 10) (hlen : rss.length < 10) :
    Ct w mean mg mb 331 [.ref aA] 6 64 news (fun r n' => ∃ D' k' rs own, r = .ref D' ∧ n' = (D', listOf (List.map rref rs).toArray k') :: (own ++ news) ∧ rs.map (·.2) = rss ∧ ∀ r ∈ rs, ∃ k, (r.1, listOf r.2.toArray k) ∈ own) := by
  unfold Ct
  k_fill
  intro dp un gd cn cs a ccd cl outer A₀ base h₀ L m s Q E B F X N T hk hroom hu hret
  have hfl := flat_len hr
  have hfl2 : rss.length * wide < 100 := Nat.lt_of_lt_of_le (Nat.mul_lt_mul'' hlen hw1) (by decide)
  have hfl3 : rss.flatten.length < 1000 := by omega
  have h1 := hA.bounds
  have h2 := hA.items
  refine wpAny_call ?_
  k_dflt (walk_at "enterC")
  have hDl : (List.map bref [b1]).toArray.size = 1 := rfl
  walk_at "go"
  rename (Obj.data _ = PySem.Data.cell (some (Value.int _ _))) => dw
  rw [← e] at dw
  k_dflt (refine step_comp (F₀ := by k_asm) (by with_unfolding_all rfl) (by decide) (by rfl) (by decide) (by rfl) ?_)
  walk_at "go"
  refine rows_src (rss := rss) (wide := wide) (by rfl) (by k_asm) (by k_asm) (by assumption) (by rw [hfl]) hw0 hw1 hlen ?st ?fi
  case st =>
    intro i rs own hi2 hrs hro t1 I2 oI C oC D2 m₂ h2 tk2 E2 g2 hC hx F2 N2 off ne
    have hI2 : (I, listOf rss.flatten.toArray ki) ∈ own ++ news := List.mem_append_right _ hI
    have hiF := mem_led N2 hi
    have hdF := mem_led N2 hd
    have hIF := mem_led N2 hI
    walk_at "eval Subscript"
    walk_at "eval Attribute Name"
    walk_at "eval Name"
    walk_at "go"
    rename News _ _ _ _ => N3
    rename Fr _ _ _ _ => F3
    rw [Nat.add_sub_cancel_left, take_chunk hr hi2] at N3
    refine ⟨_, _, _, _, rfl, rfl, F3, N3, ?_⟩
    rename I2 < _ ∧ _ => lx
    exact fun p hp => by
      rcases List.mem_cons.mp hp with rfl | hp
      · exact lx.1
      rcases List.mem_cons.mp hp with rfl | hp
      · exact lx.2.1
      rcases List.mem_cons.mp hp with rfl | hp
      · exact lx.2.2.1
      exact ktn_ltOf lx.2.2.2 p hp
  case fi =>
    intro rs own D2 h2 tk2 g2 hrs hro F2 N2
    dsimp only
    walk_at "go"
    rename News _ _ _ _ => N4
    rename Fr _ _ _ _ => F4
    exact hret _ _ _ _ ⟨D2, (List.map rref rs).length, rs, own, rfl, rfl, hrs, hro⟩ F4 (cb_drop (news := (D2, LCg.lst (List.map rref rs)) :: (own ++ news)) N4 (cut_cells _ _ _))
end
-- part E9
section
local macro_rules | `(tactic| walk_at "no line") => `(tactic| skip)
theorem off_E9 : True := by
  w_top off
  exact trivial
theorem cell_int {d : PySem.Data} {a b : Int} {t : Tok} (e : a = b) (h : d = .cell (some (.int a t))) : d = .cell (some (.int b t)) := by subst e; exact h
theorem tok_any {α : Type} {M : Model} {A : Around} {t : Sem α} {Q : α → Shared → Prop} {E : Value → Shared → Prop} {h : Heap} {g : Array GenState} {d : Drawn} {tk : Nat} {os : OsState} (H : ∀ tk, wpAny M A t Q E ⟨h, g, d, tk, os⟩) : wpAny M A t Q E ⟨h, g, d, tk, os⟩ := H tk
local macro_rules | `(tactic| walk_at "enterC") => `(tactic| (refine' code_defC ?k1 ?k2 ?k3 ?k4 ?k5 ?kA ?kF ?kK ?k6 ?k7 ?k8 ?k9 ?kB ?kD ?_ ?c2 ?c3 ?c4; (case kA => exact rfl); (case kF => exact rfl); (case kK => first | exact rfl | assumption); (case k1 => k_asm); (case k2 => k_asm); (case k3 => k_asm); (case k4 => k_asm); (case k5 => k_asm); (case k6 => k_is); (case k7 => k_is); (case k8 => k_room); (case k9 => first | exact BindsTo.of_eq rfl | exact binds_K (by k_in) rfl (by k_is) rfl rfl rfl | fail "k_enter: no rule for these arguments"); (case kB => exact rfl); (case kD => decide +kernel); (case c2 => exact rfl); (case c3 => exact rfl); (case c4 => exact rfl); k_whole; intro g' L' h' tk' cells' FG' F' N' Y' B' X' T' l1; (try k_lt l1); k_cells Y'; (try simp only [List.cons_append, List.nil_append] at N'); (try dsimp only); (try k_fold)))
local macro_rules | `(tactic| k_all) => `(tactic| first | assumption | (refine Mine.ne_cell (by assumption) ?_; first | exact Nat.lt_succ_self _ | exact Nat.lt_succ_of_lt (Nat.lt_succ_self _) | omega))
local macro_rules | `(tactic| walk_at "storeName") => `(tactic| (k_here; k_dflt (refine' storeX_C ?F ?N ?c ?U ?d ?_ ?a ?b; (case a => rfl); (case b => rfl); (case F => k_asm); (case N => k_asm); (case c => rfl); (case U => first | (refine UpdF.tail ?_ (UpdF.head ?_); (first | omega | exact Nat.ne_of_lt (Nat.lt_succ_self _) | k_ne); k_all) | (refine UpdF.head ?_; k_all) | k_updF); (case d => k_asm); k_whole; intro h' o' F' N' d'; (try dsimp only at N'); (try dsimp only); (try (refine Mine.tok_any ?_; intro tk')))))
local macro_rules | `(tactic| walk_at "subscriptTail Attribute Slice ref ref") => `(tactic| (k_here; (with_reducible show wpAny _ _ (subscriptTail _ (PySem.Expr.Slice _ _ none _) (Value.ref _) (Value.ref _)) _ _ _); k_dflt (refine' my_slice (by k_asm) (by k_asm) (by k_mem) (by kmk_part) (by kmk_part) (by exact Mine.pick_row _ _ _) ?_ (by with_unfolding_all rfl) (by kmk_pure) (by (first | assumption | omega))); intro D' h' F' N' l1; (try k_lt l1)))
local macro_rules | `(tactic| walk_at "eval Name") => `(tactic| (k_here; (with_reducible show wpAny _ _ (eval (PySem.Expr.Name _ _) (compEnvC _ _ _ _)) _ _ _); k_dflt (first
  | refine LCgL.ld_own (by k_asm) (by k_mem) (by assumption) (by assumption) ?_
  | (refine' lcf_cell ?N ?c ?m ?d ?_ ?a ?b; (case a => rfl); (case b => rfl); (case N => k_asm); (case c => rfl); (case m => first | (with_reducible exact (List.Mem.tail _ (.tail _ (.tail _ (List.mem_append_right _ (.head _)))))) | (with_reducible exact (List.Mem.tail _ (.tail _ (.tail _ (List.mem_append_right _ (.tail _ (.head _))))))) | exact (List.Mem.tail _ (.tail _ (.tail _ (List.mem_append_right _ (.head _))))) | exact (List.Mem.tail _ (.tail _ (.tail _ (List.mem_append_right _ (.tail _ (.head _))))))); (case d => assumption); k_whole))))
local macro_rules | `(tactic| walk_at "eval Name") => `(tactic| (k_here; k_dflt (refine' nameX_C ?N ?c ?m ?d ?_ ?a ?b; (case a => rfl); (case b => rfl); (case N => k_asm); (case c => rfl); (case m => k_mem); (case d => assumption); k_whole)))
set_option maxHeartbeats 6000000 in
theorem rows_ct2 (w : PySem.World) (mean mg mb) (aA dA D I : Addr) (aes : List DictEntry) (ka k ki : Nat) (made : Int) (x : PySem.Str) (b1 b2 : BndL) (rss : List (List Value)) (wide : Nat) (news : Led)
    (hi : (aA, instObj 236 dA) ∈ news) (hd : (dA, dictOf aes ka) ∈ news) (hA : ArrOk aes made x D I) (hD : (D, listOf (List.map bref [b1, b2]).toArray k) ∈ news) (hI : (I, listOf rss.flatten.toArray ki) ∈ news)
    (hbo : BndOk news b2) (e : b2.2.2 - b2.2.1 + 1 = wide) (hr : ∀ r ∈ rss, r.length = wide) (hw0 : 0 < wide) (hw1 : wide < 10) (hlen : rss.length < 10) :
    Ct w mean mg mb 331 [.ref aA] 6 64 news (fun r n' => ∃ D' k' rs own, r = .ref D' ∧ n' = (D', listOf (List.map rref rs).toArray k') :: (own ++ news) ∧ rs.map (·.2) = rss ∧ ∀ r ∈ rs, ∃ k, (r.1, listOf r.2.toArray k) ∈ own) := by
  unfold Ct
  k_fill
  intro dp un gd cn cs a ccd cl outer A₀ base h₀ L m s Q E B F X N T hk hroom hu hret
  have hfl := flat_len hr
  have hfl2 : rss.length * wide < 100 := Nat.lt_of_lt_of_le (Nat.mul_lt_mul'' hlen hw1) (by decide)
  have hfl3 : rss.flatten.length < 1000 := by omega
  have h1 := hA.bounds
  have h2 := hA.items
  refine wpAny_call ?_
  k_dflt (walk_at "enterC")
  refine bPPP hbo ?_
  intro hb0 hb1 hJz
  refine ex2 hJz ?_
  clear hJz
  intro tb ub hJz
  revert hJz
  intro hbm
  (try clear hbo)
  have hDl : (List.map bref [b1, b2]).toArray.size = 2 := rfl
  walk_at "go"
  rename (Obj.data _ = PySem.Data.cell (some (Value.int _ _))) => dw
  replace dw := Mine.cell_int e dw
  k_dflt (refine step_comp (F₀ := by k_asm) (by with_unfolding_all rfl) (by decide) (by rfl) (by decide) (by rfl) ?_)
  walk_at "go"
  refine rows_src (rss := rss) (wide := wide) (by rfl) (by k_asm) (by k_asm) (by assumption) (by rw [hfl]) hw0 hw1 hlen ?st ?fi
  case st =>
    intro i rs own hi2 hrs hro t1 I2 oI C oC D2 m₂ h2 tk2 E2 g2 hC hx F2 N2 off ne
    have hI2 : (I, listOf rss.flatten.toArray ki) ∈ own ++ news := List.mem_append_right _ hI
    have hiF := mem_led N2 hi
    have hdF := mem_led N2 hd
    have hIF := mem_led N2 hI
    walk_at "eval Subscript"
    walk_at "eval Attribute Name"
    walk_at "eval Name"
    walk_at "go"
    rename News _ _ _ _ => N3
    rename Fr _ _ _ _ => F3
    rw [Nat.add_sub_cancel_left, take_chunk hr hi2] at N3
    refine ⟨_, _, _, _, rfl, rfl, F3, N3, ?_⟩
    rename I2 < _ ∧ _ => lx
    exact fun p hp => by
      rcases List.mem_cons.mp hp with rfl | hp
      · exact lx.1
      rcases List.mem_cons.mp hp with rfl | hp
      · exact lx.2.1
      rcases List.mem_cons.mp hp with rfl | hp
      · exact lx.2.2.1
      exact ktn_ltOf lx.2.2.2 p hp
  case fi =>
    intro rs own D2 h2 tk2 g2 hrs hro F2 N2
    dsimp only
    walk_at "go"
    rename News _ _ _ _ => N4
    rename Fr _ _ _ _ => F4
    exact hret _ _ _ _ ⟨D2, (List.map rref rs).length, rs, own, rfl, rfl, hrs, hro⟩ F4 (cb_drop (news := (D2, LCg.lst (List.map rref rs)) :: (own ++ news)) N4 (cut_cells _ _ _))
end
-- part F1
section
theorem off_F1 : True := by
  w_top off
  exact trivial
theorem bnd_tail {bs : List BndL} {news : Led} {p : Addr × Obj} (h : ∀ b ∈ bs, BndOk news b) : ∀ b ∈ bs, BndOk (p :: news) b := fun b hb => by
  obtain ⟨h0, h1, t, u, hm⟩ := h b hb
  exact ⟨h0, h1, t, u, .tail _ hm⟩
local macro_rules | `(tactic| walk_at "goS") => `(tactic| repeat' (walk_at "u1"))
local macro_rules | `(tactic| walk_at "useZ") => `(tactic| (k_here; k_dflt (refine' Ct.go (C := (size_ct _ _ _ _ _ _ _ _ (by k_mem) (by repeat (first | assumption | refine Mine.bnd_tail ?_)))) (ret := ?_); k_whole)))
section
variable {prog : PySem.Program} {w : PySem.World} {A : Around} {E : Value → Shared → Prop} {s : Shared} {h₀ : Heap} {L : Addr}
theorem my_list {m : PySem.Str → Option Value} {news : Led} {b : Addr} {vs : List Value} {n : Nat} {Q : Value → Shared → Prop} (F : Fr h₀ L s.heap m) (N : News h₀ L s.heap news) (hb : (b, listOf vs.toArray n) ∈ news) (hz : vs.length < 1000)
    (h : ∀ D c h', Fr h₀ L h' m → News h₀ L h' ((D, listOf vs.toArray c) :: news) → (∀ q ∈ news, q.1 < D) → Q (.ref D) { s with heap := h' }) : wpAny (model prog w) A (call (.type "list") [.ref b]) Q E s :=
  kup_listOf F N hb (by simp) h (by rw [sizeLine_eq]; simp; omega)
end
local macro_rules | `(tactic| walk_at "call type:list") => `(tactic| (k_here; (with_reducible show wpAny _ _ (call (Value.type _) [Value.ref _]) _ _ _); k_dflt (refine' my_list (by k_asm) (by k_asm) (by k_mem) (by first | assumption | omega) ?_); intro D' c' h' F' N' l1; (try k_lt l1)))
theorem led_pick {h₀ h : Heap} {L : Addr} {a b c d : Addr × Obj} {r : Led} (N : News h₀ L h (a :: b :: c :: d :: r)) : News h₀ L h (c :: d :: a :: r) := cb_drop N (fun p hp => by
  simp only [List.mem_cons] at hp ⊢
  rcases hp with rfl | rfl | rfl | hp
  · exact .inr (.inr (.inl rfl))
  · exact .inr (.inr (.inr (.inl rfl)))
  · exact .inl rfl
  · exact .inr (.inr (.inr (.inr hp))))
set_option maxHeartbeats 2000000 in
theorem copy_ct (w : PySem.World) (mean mg mb) (aA dA D I : Addr) (aes : List DictEntry) (ka k ki : Nat) (made num : Int) (tn : Tok) (x : PySem.Str) (bs : List BndL) (vs : List Value) (news : Led)
    (hi : (aA, instObj 236 dA) ∈ news) (hd : (dA, dictOf aes ka) ∈ news) (hA : ArrOk aes made x D I) (hD : (D, listOf (List.map bref bs).toArray k) ∈ news) (hI : (I, listOf vs.toArray ki) ∈ news)
    (hok : ∀ b ∈ bs, BndOk news b) (hp : bprod bs = vs.length) (hl : vs.length < 100) :
    Ct w mean mg mb 311 [.ref aA, .int num tn] 10 140 news (fun r n' => ∃ A' dA' aes' ka' I' ki', r = .ref A' ∧ n' = (A', instObj 236 dA') :: (dA', dictOf aes' ka') :: (I', listOf vs.toArray ki') :: news ∧ ArrOk aes' num x D I' ∧ dA' < A' ∧ dA' < I' ∧ ∀ p ∈ news, p.1 < dA') := by
  unfold Ct
  k_fill
  intro dp un gd cn cs a ccd cl outer A₀ base h₀ L m s Q E B F X N T hk hroom hu hret
  obtain ⟨tt, h1⟩ := hA.told
  have h2 := hA.bounds
  have h3 := hA.items
  refine wpAny_call ?_
  k_dflt ktr_enter
  walk_at "goS"
  walk_at "useZ"
  rintro r7 n7 h7 tk7 ⟨rfl, t7, rfl⟩ F7 N7
  rw [hp]
  dsimp only
  walk_at "goS"
  rename News _ _ _ _ => N4
  rename Fr _ _ _ _ => F4
  have N5 := led_pick N4
  rename _ < _ ∧ _ < _ ∧ _ < _ ∧ AllLt _ news => lc
  refine' hret _ _ _ _ ⟨_, _, _, _, _, _, rfl, rfl, ?zA, by assumption, lc.2.2.1, by assumption⟩ F4 N5
  case zA =>
    refine' ArrOk.mk ?zw1 ?zw2 ?zw3 ?zw4 ?zw5
    case zw1 => exact ⟨_, rfl⟩
    case zw2 => exact ⟨_, rfl⟩
    case zw3 => exact rfl
    case zw4 => exact rfl
    case zw5 => exact Nat.le_of_ble_eq_true rfl
end
-- part F2
section
local macro_rules | `(tactic| walk_at "no line") => `(tactic| skip)
theorem off_F2 : True := by
  w_top off
  exact trivial
theorem tok_any' {α : Type} {M : Model} {A : Around} {t : Sem α} {Q : α → Shared → Prop} {E : Value → Shared → Prop} {h : Heap} {g : Array GenState} {d : Drawn} {tk : Nat} {os : OsState} (H : ∀ tk, wpAny M A t Q E ⟨h, g, d, tk, os⟩) : wpAny M A t Q E ⟨h, g, d, tk, os⟩ := H tk
theorem bnd_right {bs : List BndL} {own news : Led} (h : ∀ b ∈ bs, BndOk news b) : ∀ b ∈ bs, BndOk (own ++ news) b := fun b hb => by
  refine bPPP (h b hb) ?_
  intro h0 h1 hJz
  refine ex2 hJz ?_
  clear hJz
  intro t u hJz
  revert hJz
  intro hm
  exact ⟨h0, h1, t, u, List.mem_append_right _ hm⟩
local macro_rules | `(tactic| walk_at "goT") => `(tactic| repeat' ((fail_if_success (with_reducible show wpAny _ _ (eval (PySem.Expr.ListComp _ _ _ _) _) _ _ _)); walk_at "u1"))
section
variable {prog : PySem.Program} {w : PySem.World} {A : Around} {E : Value → Shared → Prop} {s : Shared} {env : Env}
theorem flat_compF {h₀ : Heap} {L : Addr} {x y : PySem.Str} {px p0 p1 p2 pos : PySem.Pos} {iter : PySem.Expr} {scope : PySem.Scope} {Q : Value → Shared → Prop}
    {m₀ : PySem.Str → Option Value} (_F₀ : Fr h₀ L s.heap m₀) (hfree : ∀ z ∈ scope.names, z.2 ≠ .free) (hcell : ∀ z ∈ scope.names, z.2 ≠ .cell) (hkind : scope.kind = .function) (hnames : ∀ z ∈ scope.names, z.2 = .local → scope.names.lookup z.1 = some .local)
    (hx : scope.names.lookup x = some .local) (hy : scope.names.lookup y = some .local) (hxd : (x == ("__debug__" : PySem.Str)) = false) (hyd : (y == ("__debug__" : PySem.Str)) = false)
    (h : wpAny (model prog w) A (eval iter env) (fun xv s₁ => ∃ ax rs n news m₁, xv = .ref ax ∧ A.handled = none ∧ Fr h₀ L s₁.heap m₁ ∧ News h₀ L s₁.heap news ∧ (ax, listOf (List.map rref rs).toArray n) ∈ news ∧
      (∀ r ∈ rs, ∃ k, (r.1, listOf r.2.toArray k) ∈ news) ∧ rs.length < 1000 ∧ (rs.flatMap (·.2)).length < 1000 ∧
      ∀ D h tk k, Fr h₀ L h m₁ → News h₀ L h ((D, listOf (rs.flatMap (·.2)).toArray k) :: news) → (∀ p ∈ news, p.1 < D) → Q (.ref D) { s₁ with heap := h, toks := tk }) E s)
    (hs : ∀ x, foldedSetIterable iter env x = pure x := by intro _; rfl) :
    wpAny (model prog w) A (eval (flatE (.Name y p0) (.Name x px) iter (.Name y p1) (.Name x p2) scope pos) env) Q E s :=
  flat_comp hfree hcell hkind hnames hx hy hxd hyd h hs
end
theorem rows_ct (w : PySem.World) (mean mg mb) (aA dA D I : Addr) (aes : List DictEntry) (ka k ki : Nat) (made : Int) (x : PySem.Str) (bs : List BndL) (rss : List (List Value)) (wide : Nat) (news : Led)
    (hi : (aA, instObj 236 dA) ∈ news) (hd : (dA, dictOf aes ka) ∈ news) (hA : ArrOk aes made x D I) (hD : (D, listOf (List.map bref bs).toArray k) ∈ news) (hI : (I, listOf rss.flatten.toArray ki) ∈ news)
    (hbo : ∀ b ∈ bs, BndOk news b) (hw : BoundW bs wide) (hr : ∀ r ∈ rss, r.length = wide) (hw0 : 0 < wide) (hw1 : wide < 10) (hlen : rss.length < 10) :
    Ct w mean mg mb 331 [.ref aA] 6 64 news (fun r n' => ∃ D' k' rs own, r = .ref D' ∧ n' = (D', listOf (List.map rref rs).toArray k') :: (own ++ news) ∧ rs.map (·.2) = rss ∧ ∀ r ∈ rs, ∃ k, (r.1, listOf r.2.toArray k) ∈ own) := by
  rcases hw with ⟨b1, rfl, e⟩ | ⟨b1, b2, rfl, e⟩
  · exact rows_ct1 w mean mg mb aA dA D I aes ka k ki made x b1 rss wide news hi hd hA hD hI e hr hw0 hw1 hlen
  · exact rows_ct2 w mean mg mb aA dA D I aes ka k ki made x b1 b2 rss wide news hi hd hA hD hI (hbo _ (.tail _ (.head _))) e hr hw0 hw1 hlen
theorem sorted_ctz (w : PySem.World) (mean mg mb) (ra : Addr) (rs : List RowL) (n : Nat) (c : Nat) (z : Int) (tc : Tok) (d : Bool) (news : Led) (hz : z = (c : Int))
    (hra : (ra, listOf (rs.map rref).toArray n) ∈ news) (hok : ∀ r ∈ rs, RowOk news c r) (hc : c < 100) (hlen : rs.length < 1000) :
    Ct w mean mg mb 345 [.ref ra, .int z tc, .bool d] 4 32 news
      (fun r n => ∃ a k, r = .ref a ∧ n = (a, listOf ((sortR (bh d c) rs).map rref).toArray k) :: news ∧ ∀ p ∈ news, p.1 < a) := by
  subst hz
  exact sorted_ct w mean mg mb ra rs n c tc d news hra hok hc hlen
theorem row_ok {rss : List (List Value)} {rs : List RowL} {own news : Led} {wide c : Nat} (hrs : rs.map (·.2) = rss) (hro : ∀ r ∈ rs, ∃ k, (r.1, listOf r.2.toArray k) ∈ own) (hsub : ∀ p ∈ own, p ∈ news) (hr : ∀ r ∈ rss, r.length = wide) (hc : c < wide) (his : ∀ r ∈ rss, ∀ v ∈ r, IsIS v) : ∀ r ∈ rs, RowOk news c r := fun r hm => by
  have h1 : r.2 ∈ rss := by rw [← hrs]; exact List.mem_map_of_mem hm
  have h2 : c < r.2.length := by rw [hr _ h1]; exact hc
  refine ex1 (hro r hm) ?_
  intro k hJz
  revert hJz
  intro hk
  have h3 : r.2[c]? = some (cellOf c r) := by unfold cellOf; rw [List.getD_eq_getElem?_getD, List.getElem?_eq_getElem h2]; rfl
  exact ⟨h3, his _ h1 _ (List.mem_of_getElem? h3), k, hsub _ hk⟩
theorem insR_memB {α : Type} {b : α → α → Bool} {l : List α} {x y : α} (h : y ∈ insR b l x) : y = x ∨ y ∈ l := putAt_mem h
theorem sortR_mem {α : Type} {b : α → α → Bool} {y : α} : ∀ (rs : List α) (acc : List α), y ∈ rs.foldl (insR b) acc → y ∈ rs ∨ y ∈ acc
  | [], _, h => .inr h
  | r :: t, acc, h => by
    rcases sortR_mem t _ h with h | h
    · exact .inl (.tail _ h)
    · rcases insR_memB h with rfl | h
      · exact .inl (.head _)
      · exact .inr h
theorem sortR_perm {α : Type} {b : α → α → Bool} {rs : List α} {y : α} (h : y ∈ sortR b rs) : y ∈ rs := (sortR_mem rs [] h).elim id fun h => nomatch h
theorem sortR_len' {α : Type} {b : α → α → Bool} : ∀ (rs acc : List α), (rs.foldl (insR b) acc).length = rs.length + acc.length
  | [], _ => by simp
  | r :: t, acc => by rw [List.foldl_cons, sortR_len' t]; unfold insR; rw [putAt_length, List.length_cons]; omega
theorem sortR_len {α : Type} {b : α → α → Bool} (rs : List α) : (sortR b rs).length = rs.length := by unfold sortR; rw [sortR_len']; rfl
theorem flen_put {l : List RowL} {i : Nat} {x : RowL} : ((putAt l i x).flatMap (·.2)).length = x.2.length + (l.flatMap (·.2)).length := by
  have e : l = l.take i ++ l.drop i := (List.take_append_drop i l).symm
  conv => rhs; rw [e]
  unfold putAt
  simp only [List.flatMap_append, List.length_append, List.flatMap_cons]
  omega
theorem sortR_flen' {b : RowL → RowL → Bool} : ∀ (rs acc : List RowL), ((rs.foldl (insR b) acc).flatMap (·.2)).length = ((rs.map (·.2)).flatten).length + (acc.flatMap (·.2)).length
  | [], _ => by simp
  | r :: t, acc => by
    rw [List.foldl_cons, sortR_flen' t]
    unfold insR
    rw [flen_put, List.map_cons, List.flatten_cons, List.length_append]
    omega
theorem sortR_flen {b : RowL → RowL → Bool} (rs : List RowL) : ((sortR b rs).flatMap (·.2)).length = ((rs.map (·.2)).flatten).length := by unfold sortR; rw [sortR_flen']; simp
theorem flat_sorted {d : Bool} {c : Nat} {rs : List RowL} {rss : List (List Value)} (hrs : rs.map (·.2) = rss) : (sortR (bh d c) rs).flatMap (·.2) = (sortR (bhc d c) rss).flatten := by
  rw [← hrs, ← sort_cellsR, List.flatMap_def]
theorem ArrOk.putItems {es : List DictEntry} {made : Int} {x : PySem.Str} {D I J : Addr} {hsh : Int} {t : Tok} (H : ArrOk es made x D I) : ArrOk (putL (PySem.Str.ofString "items") hsh (.str (PySem.Str.ofString "items") t) (.ref J) es) made x D J := by
  obtain ⟨⟨t1, h1⟩, ⟨t2, h2⟩, h3, h4, h5⟩ := H
  exact ⟨⟨t1, getL_other (by decide) es h1⟩, ⟨t2, getL_other (by decide) es h2⟩, getL_other (by decide) es h3, getL_same es, by rw [putL_len es h4]; exact h5⟩
theorem led_fin {h₀ h : Heap} {L : Addr} {a b c d e f : Addr × Obj} {own r : Led} (N : News h₀ L h (a :: b :: c :: d :: e :: f :: (own ++ r))) : News h₀ L h (c :: d :: a :: r) := cb_drop N (fun p hp => by
  simp only [List.mem_cons, List.mem_append] at hp ⊢
  rcases hp with rfl | rfl | rfl | hp
  · exact .inr (.inr (.inl rfl))
  · exact .inr (.inr (.inr (.inl rfl)))
  · exact .inl rfl
  · exact .inr (.inr (.inr (.inr (.inr (.inr (.inr hp)))))))
local macro_rules | `(tactic| walk_at "execs cons") => `(tactic| (k_here; (with_reducible show wpAny _ _ _ _ _ (PySem.Shared.mk _ _ _ (@HAdd.hAdd Nat Nat Nat _ _ _) _)); refine Mine.tok_any' ?_; intro tk'; walk_at "execs cons"))
local macro_rules | `(tactic| walk_at "goL") => `(tactic| repeat' ((fail_if_success (with_reducible show wpAny _ _ (execs (PySem.Stmt.Assign _ (PySem.Expr.IfExp _ _ _ _) _ :: _) _) _ _ _)); (fail_if_success (with_reducible show wpAny _ _ (eval (PySem.Expr.ListComp _ _ _ _) _) _ _ _)); walk_at "u1"))
def JInt (g : Heap) (L : Addr) (m : PySem.Str → Option Value) (news : Led) (x : PySem.Str) (v : Int) (s : Shared) : Flow → Shared → Prop :=
  fun fl s' => fl = .next ∧ ∃ h' tk' t, s' = { s with heap := h', toks := tk' } ∧ Fr g L h' (fun y => if y = x then some (.int v t) else m y) ∧ News g L h' news
theorem cut_int {M : Model} {A : Around} {E : Value → Shared → Prop} {s : Shared} {st : PySem.Stmt} {rest : List PySem.Stmt} {env : Env} {Q : Flow → Shared → Prop} {g : Heap} {L : Addr} {m : PySem.Str → Option Value} {news : Led} (x : PySem.Str) (v : Int)
    (F : Fr g L s.heap m) (N : News g L s.heap news) (ha : wpAny M A (exec st env) (JInt g L m news x v s) E s)
    (hb : ∀ h' tk' t, Fr g L h' (fun y => if y = x then some (.int v t) else m y) → News g L h' news → wpAny M A (execs rest env) Q E { s with heap := h', toks := tk' }) :
    wpAny M A (execs (st :: rest) env) Q E s :=
  wpAny_execs_cons (wpAny_mono ha (fun fl s' h => by obtain ⟨rfl, h', tk', t, rfl, F', N'⟩ := h; exact hb h' tk' t F' N') fun _ _ z => z)
def LowB (bs : List BndL) (wide : Nat) (lo : Int) : Prop := (∃ b1, bs = [b1] ∧ (wide : Int) = 1 ∧ lo = 1) ∨ ∃ b1 b2, bs = [b1, b2] ∧ b2.2.2 - b2.2.1 + 1 = wide ∧ lo = b2.2.1
theorem LowB.w {bs : List BndL} {wide : Nat} {lo : Int} (h : LowB bs wide lo) : BoundW bs wide := by
  rcases h with ⟨b1, e, e2, _⟩ | ⟨b1, b2, e, e2, _⟩
  · exact .inl ⟨b1, e, e2⟩
  · exact .inr ⟨b1, b2, e, e2⟩
def ColAt (colV : Value) (lo at_ : Int) : Prop := (colV = .none ∧ at_ = 0) ∨ ∃ z tc, colV = .int z tc ∧ at_ = z - lo
set_option maxHeartbeats 2000000 in
theorem sarr_gen (w : PySem.World) (mean mg mb) (aA dA D I : Addr) (aes : List DictEntry) (ka k ki : Nat) (made num : Int) (tn : Tok) (x : PySem.Str) (bs : List BndL) (rss : List (List Value)) (wide : Nat) (d : Bool) (c : Nat) (lo at_ : Int) (colV : Value) (news : Led)
    (hi : (aA, instObj 236 dA) ∈ news) (hd : (dA, dictOf aes ka) ∈ news) (hA : ArrOk aes made x D I) (hD : (D, listOf (List.map bref bs).toArray k) ∈ news) (hI : (I, listOf rss.flatten.toArray ki) ∈ news)
    (hbo : ∀ b ∈ bs, BndOk news b) (e : LowB bs wide lo) (hcol : ColAt colV lo at_) (hat : at_ = c) (hp : bprod bs = rss.flatten.length) (hr : ∀ r ∈ rss, r.length = wide) (hw0 : 0 < wide) (hw1 : wide < 10) (hlen : rss.length < 10) (hc : c < wide) (hl0 : 0 < rss.length)
    (his : ∀ r ∈ rss, ∀ v ∈ r, IsIS v) :
    Ct w mean mg mb 357 [.ref aA, colV, .bool d, .int num tn] 20 200 news (fun r n' => ∃ A' dA' aes' ka' I' ki', r = .ref A' ∧ n' = (A', instObj 236 dA') :: (dA', dictOf aes' ka') :: (I', listOf (sortR (bhc d c) rss).flatten.toArray ki') :: news ∧ ArrOk aes' num x D I' ∧ dA' < A' ∧ dA' < I' ∧ ∀ p ∈ news, p.1 < dA') := by
  unfold Ct
  k_fill
  intro dp un gd cn cs a ccd cl outer A₀ base h₀ L m s Q E B F X N T hk hroom hu hret
  have h1 := hA.bounds
  have hfl := flat_len hr
  have hfl2 : rss.length * wide < 100 := Nat.lt_of_lt_of_le (Nat.mul_lt_mul'' hlen hw1) (by decide)
  have hfl3 : rss.flatten.length < 100 := by omega
  refine wpAny_call ?_
  k_dflt ktr_enter
  walk_at "goT"
  have CC := rows_ct w mean mg mb aA dA D I aes ka k ki made x bs rss wide news hi hd hA hD hI hbo e.w hr hw0 hw1 hlen
  walk_at "useC"
  intro r9 n9 h9 tk9 hJz
  refine ex4 hJz ?_
  clear hJz
  intro D9 k9 rs own hJz
  refine bRRPP hJz ?_
  clear hJz
  intro hrs hro
  intro F9 N9
  (try clear r9)
  (try clear n9)
  (try clear h9)
  (try clear tk9)
  dsimp only
  obtain ⟨r0, rs', rfl⟩ : ∃ r0 rs', rs = r0 :: rs' := by
    cases rs with
    | nil => rw [← hrs] at hl0; simp at hl0
    | cons r0 rs' => exact ⟨r0, rs', rfl⟩
  have hi9 : (aA, instObj 236 dA) ∈ own ++ news := List.mem_append_right _ hi
  have hd9 : (dA, dictOf aes ka) ∈ own ++ news := List.mem_append_right _ hd
  have hD9 : (D, listOf (List.map bref bs).toArray k) ∈ own ++ news := List.mem_append_right _ hD
  have hI9 : (I, listOf rss.flatten.toArray ki) ∈ own ++ news := List.mem_append_right _ hI
  have hbo9 := bnd_right (own := own) hbo
  refine ex1 (hro r0 (.head _)) ?_
  intro k0 hJz
  revert hJz
  intro hk0
  have hr0 : (r0.1, listOf r0.2.toArray k0) ∈ own ++ news := List.mem_append_left _ hk0
  have hrl : (r0 :: rs').length < 10 := by rw [← List.length_map (·.2) (as := r0 :: rs'), hrs]; exact hlen
  have hl9 : r0.2.length = wide := hr _ (by rw [← hrs]; exact .head _)
  walk_at "goL"
  k_dflt (refine cut_int (PySem.Str.ofString "low") lo (by k_asm) (by k_asm) ?ca ?cb)
  case ca =>
    rcases e with ⟨b1, rfl, e1, rfl⟩ | ⟨b1, b2, rfl, e1, rfl⟩
    · have hDl : (List.map bref [b1]).toArray.size = 1 := rfl
      walk_at "goT"
      exact ⟨rfl, _, _, _, rfl, by assumption, by assumption⟩
    · refine bPPP (hbo b2 (.tail _ (.head _))) ?_
      intro _ _ hJz
      refine ex2 hJz ?_
      clear hJz
      intro tb ub hbm
      have hDl : (List.map bref [b1, b2]).toArray.size = 2 := rfl
      have hbm9 : (b2.1, tup2 (.int b2.2.1 tb) (.int b2.2.2 ub)) ∈ own ++ news := List.mem_append_right _ hbm
      walk_at "goT"
      exact ⟨rfl, _, _, _, rfl, by assumption, by assumption⟩
  intro hZ tkZ tZ FZ NZ
  dsimp only
  walk_at "goL"
  k_dflt (refine cut_int (PySem.Str.ofString "at") at_ (by k_asm) (by k_asm) ?cc ?cd)
  case cc =>
    rcases hcol with ⟨rfl, rfl⟩ | ⟨z, tc, rfl, rfl⟩
    · walk_at "goT"
      exact ⟨rfl, _, _, _, rfl, by assumption, by assumption⟩
    · walk_at "goT"
      exact ⟨rfl, _, _, _, rfl, by assumption, by assumption⟩
  intro hY tkY tY FY NY
  dsimp only
  clear FZ NZ
  walk_at "goT"
  have CD := copy_ct w mean mg mb aA dA D I aes ka k ki made num tn x bs rss.flatten ((D9, listOf (List.map rref (r0 :: rs')).toArray k9) :: (own ++ news)) (.tail _ hi9) (.tail _ hd9) hA (.tail _ hD9) (.tail _ hI9) (bnd_tail hbo9) hp hfl3
  walk_at "useC"
  intro r8 n8 h8 tk8 hJz
  refine ex6 hJz ?_
  clear hJz
  intro A8 dA8 aes8 ka8 I8 ki8 hJz
  refine bRRPPPP hJz ?_
  clear hJz
  intro hA8 q81 q82 q83
  intro F8 N8
  (try clear r8)
  (try clear n8)
  (try clear h8)
  (try clear tk8)
  have hit8 := hA8.items
  have hln8 := hA8.len
  have q84 : A8 ≠ dA8 := Nat.ne_of_gt q81
  have q85 : ∀ p ∈ (I8, listOf rss.flatten.toArray ki8) :: (D9, listOf (List.map rref (r0 :: rs')).toArray k9) :: (own ++ news), p.1 ≠ dA8 := List.forall_mem_cons.mpr ⟨Nat.ne_of_gt q82, fun p hp => Nat.ne_of_lt (q83 p hp)⟩
  dsimp only
  walk_at "goT"
  k_dflt (refine flat_compF (by k_asm) (by decide) (by decide) (by rfl) (by decide) (by rfl) (by rfl) (by decide) (by decide) ?_)
  walk_at "goT"
  refine' Ct.use ?zk1 ?zk2 ?zk3 ?zk4 ?zk5 (by first | exact rfl | assumption) (sorted_ctz w mean mg mb D9 (r0 :: rs') k9 c _ _ d _ ?zz ?zm ?zo ?zc ?zl) ?zkd ?zku ?_
  case zk1 => k_asm
  case zk2 => k_asm
  case zk3 => k_asm
  case zk4 => k_asm
  case zk5 => k_asm
  case zz => omega
  case zm => k_mem
  case zo => exact row_ok hrs hro (fun p hp => by repeat (first | exact List.mem_append_left _ hp | refine List.Mem.tail _ ?_)) hr hc his
  case zc => omega
  case zl => omega
  case zkd => k_room
  case zku => k_room
  k_whole
  intro r7 n7 h7 tk7 hJz
  refine ex2 hJz ?_
  clear hJz
  intro a7 k7 hJz
  refine bRRP hJz ?_
  clear hJz
  intro hlt7
  intro F7 N7
  (try clear r7)
  (try clear n7)
  (try clear h7)
  (try clear tk7)
  refine ⟨a7, _, k7, _, _, rfl, by rfl, F7, N7, .head _, ?zr, ?zl1, ?zl2, ?zq⟩
  case zr =>
    intro r hm
    have hm' := sortR_perm hm
    refine ex1 (hro r hm') ?_
    intro k hJz
    revert hJz
    intro hk
    exact ⟨k, by repeat (first | exact List.mem_append_left _ hk | refine List.Mem.tail _ ?_)⟩
  case zl1 => rw [sortR_len]; omega
  case zl2 => rw [sortR_flen, hrs]; omega
  case zq =>
    intro D6 h6 tk6 k6 F6 N6 hlt6
    dsimp only
    have q71 : a7 ≠ dA8 := Nat.ne_of_gt (hlt7 _ (.tail _ (.head _)))
    have q61 : D6 ≠ dA8 := Nat.ne_of_gt (hlt6 _ (.tail _ (.tail _ (.head _))))
    walk_at "goT"
    rename News _ _ _ _ => N4
    rename Fr _ _ _ _ => F4
    rw [flat_sorted hrs] at N4
    exact hret _ _ _ _ ⟨A8, dA8, _, _, D6, k6, rfl, rfl, hA8.putItems, q81, hlt6 _ (.tail _ (.tail _ (.head _))), fun p hp => q83 p (.tail _ (List.mem_append_right _ hp))⟩ F4 (led_fin N4)
theorem sarr_ct1 (w : PySem.World) (mean mg mb) (aA dA D I : Addr) (aes : List DictEntry) (ka k ki : Nat) (made num : Int) (tn tc : Tok) (x : PySem.Str) (b1 : BndL) (rss : List (List Value)) (wide : Nat) (d : Bool) (c : Nat) (news : Led)
    (hi : (aA, instObj 236 dA) ∈ news) (hd : (dA, dictOf aes ka) ∈ news) (hA : ArrOk aes made x D I) (hD : (D, listOf (List.map bref [b1]).toArray k) ∈ news) (hI : (I, listOf rss.flatten.toArray ki) ∈ news)
    (hbo : ∀ b ∈ [b1], BndOk news b) (e : (wide : Int) = 1) (hp : bprod [b1] = rss.flatten.length) (hr : ∀ r ∈ rss, r.length = wide) (hw0 : 0 < wide) (hw1 : wide < 10) (hlen : rss.length < 10) (hc : c < wide) (hl0 : 0 < rss.length)
    (his : ∀ r ∈ rss, ∀ v ∈ r, IsIS v) :
    Ct w mean mg mb 357 [.ref aA, .int (1 + c) tc, .bool d, .int num tn] 20 200 news (fun r n' => ∃ A' dA' aes' ka' I' ki', r = .ref A' ∧ n' = (A', instObj 236 dA') :: (dA', dictOf aes' ka') :: (I', listOf (sortR (bhc d c) rss).flatten.toArray ki') :: news ∧ ArrOk aes' num x D I' ∧ dA' < A' ∧ dA' < I' ∧ ∀ p ∈ news, p.1 < dA') :=
  sarr_gen w mean mg mb aA dA D I aes ka k ki made num tn x [b1] rss wide d c 1 (1 + c - 1) (.int (1 + c) tc) news hi hd hA hD hI hbo (.inl ⟨b1, rfl, e, rfl⟩) (.inr ⟨_, _, rfl, rfl⟩) (by omega) hp hr hw0 hw1 hlen hc hl0 his
theorem sarr_ct2 (w : PySem.World) (mean mg mb) (aA dA D I : Addr) (aes : List DictEntry) (ka k ki : Nat) (made num : Int) (tn tc : Tok) (x : PySem.Str) (b1 b2 : BndL) (rss : List (List Value)) (wide : Nat) (d : Bool) (c : Nat) (news : Led)
    (hi : (aA, instObj 236 dA) ∈ news) (hd : (dA, dictOf aes ka) ∈ news) (hA : ArrOk aes made x D I) (hD : (D, listOf (List.map bref [b1, b2]).toArray k) ∈ news) (hI : (I, listOf rss.flatten.toArray ki) ∈ news)
    (hbo : ∀ b ∈ [b1, b2], BndOk news b) (e : b2.2.2 - b2.2.1 + 1 = wide) (hp : bprod [b1, b2] = rss.flatten.length) (hr : ∀ r ∈ rss, r.length = wide) (hw0 : 0 < wide) (hw1 : wide < 10) (hlen : rss.length < 10) (hc : c < wide) (hl0 : 0 < rss.length)
    (his : ∀ r ∈ rss, ∀ v ∈ r, IsIS v) :
    Ct w mean mg mb 357 [.ref aA, .int (b2.2.1 + c) tc, .bool d, .int num tn] 20 200 news (fun r n' => ∃ A' dA' aes' ka' I' ki', r = .ref A' ∧ n' = (A', instObj 236 dA') :: (dA', dictOf aes' ka') :: (I', listOf (sortR (bhc d c) rss).flatten.toArray ki') :: news ∧ ArrOk aes' num x D I' ∧ dA' < A' ∧ dA' < I' ∧ ∀ p ∈ news, p.1 < dA') :=
  sarr_gen w mean mg mb aA dA D I aes ka k ki made num tn x [b1, b2] rss wide d c b2.2.1 (b2.2.1 + c - b2.2.1) (.int (b2.2.1 + c) tc) news hi hd hA hD hI hbo (.inr ⟨b1, b2, rfl, e, rfl⟩) (.inr ⟨_, _, rfl, rfl⟩) (by omega) hp hr hw0 hw1 hlen hc hl0 his
theorem sarr_ct3 (w : PySem.World) (mean mg mb) (aA dA D I : Addr) (aes : List DictEntry) (ka k ki : Nat) (made num : Int) (tn : Tok) (x : PySem.Str) (b1 : BndL) (rss : List (List Value)) (wide : Nat) (d : Bool) (c : Nat) (news : Led)
    (hi : (aA, instObj 236 dA) ∈ news) (hd : (dA, dictOf aes ka) ∈ news) (hA : ArrOk aes made x D I) (hD : (D, listOf (List.map bref [b1]).toArray k) ∈ news) (hI : (I, listOf rss.flatten.toArray ki) ∈ news)
    (hbo : ∀ b ∈ [b1], BndOk news b) (e : (wide : Int) = 1) (hp : bprod [b1] = rss.flatten.length) (hr : ∀ r ∈ rss, r.length = wide) (hw0 : 0 < wide) (hw1 : wide < 10) (hlen : rss.length < 10) (hc0 : c = 0) (hc : c < wide) (hl0 : 0 < rss.length)
    (his : ∀ r ∈ rss, ∀ v ∈ r, IsIS v) :
    Ct w mean mg mb 357 [.ref aA, .none, .bool d, .int num tn] 20 200 news (fun r n' => ∃ A' dA' aes' ka' I' ki', r = .ref A' ∧ n' = (A', instObj 236 dA') :: (dA', dictOf aes' ka') :: (I', listOf (sortR (bhc d c) rss).flatten.toArray ki') :: news ∧ ArrOk aes' num x D I' ∧ dA' < A' ∧ dA' < I' ∧ ∀ p ∈ news, p.1 < dA') :=
  sarr_gen w mean mg mb aA dA D I aes ka k ki made num tn x [b1] rss wide d c 1 0 .none news hi hd hA hD hI hbo (.inl ⟨b1, rfl, e, rfl⟩) (.inl ⟨rfl, rfl⟩) (by omega) hp hr hw0 hw1 hlen hc hl0 his
theorem sarr_ct4 (w : PySem.World) (mean mg mb) (aA dA D I : Addr) (aes : List DictEntry) (ka k ki : Nat) (made num : Int) (tn : Tok) (x : PySem.Str) (b1 b2 : BndL) (rss : List (List Value)) (wide : Nat) (d : Bool) (c : Nat) (news : Led)
    (hi : (aA, instObj 236 dA) ∈ news) (hd : (dA, dictOf aes ka) ∈ news) (hA : ArrOk aes made x D I) (hD : (D, listOf (List.map bref [b1, b2]).toArray k) ∈ news) (hI : (I, listOf rss.flatten.toArray ki) ∈ news)
    (hbo : ∀ b ∈ [b1, b2], BndOk news b) (e : b2.2.2 - b2.2.1 + 1 = wide) (hp : bprod [b1, b2] = rss.flatten.length) (hr : ∀ r ∈ rss, r.length = wide) (hw0 : 0 < wide) (hw1 : wide < 10) (hlen : rss.length < 10) (hc0 : c = 0) (hc : c < wide) (hl0 : 0 < rss.length)
    (his : ∀ r ∈ rss, ∀ v ∈ r, IsIS v) :
    Ct w mean mg mb 357 [.ref aA, .none, .bool d, .int num tn] 20 200 news (fun r n' => ∃ A' dA' aes' ka' I' ki', r = .ref A' ∧ n' = (A', instObj 236 dA') :: (dA', dictOf aes' ka') :: (I', listOf (sortR (bhc d c) rss).flatten.toArray ki') :: news ∧ ArrOk aes' num x D I' ∧ dA' < A' ∧ dA' < I' ∧ ∀ p ∈ news, p.1 < dA') :=
  sarr_gen w mean mg mb aA dA D I aes ka k ki made num tn x [b1, b2] rss wide d c b2.2.1 0 .none news hi hd hA hD hI hbo (.inr ⟨b1, b2, rfl, e, rfl⟩) (.inl ⟨rfl, rfl⟩) (by omega) hp hr hw0 hw1 hlen hc hl0 his
end
-- part G1
section
theorem off_G1 : True := by
  w_top off
  exact trivial
local macro_rules | `(tactic| walk_at "call ref") => `(tactic| (k_here; k_dflt (refine' Ct.go (C := (wot_ct _ _ _ _ _ _ (by assumption) _ _ _)) (ret := ?_); k_whole); intro r9 n9 h9 tk9 hR9 F9 N9; obtain ⟨e9, t9, f9⟩ := hR9; subst e9; subst f9; (try dsimp only)))
set_option maxHeartbeats 4000000 in
theorem need_str (w : PySem.World) (mean mg mb) (x : PySem.Str) (n : Int) (hx : Num x n) (t u : Tok) (news : Led) :
    Ct w mean mg mb 212 [.str x t, .int 32 u] 7 64 news (fun r n' => n' = news ∧ ∃ t, r = .int n t) := by
  unfold Ct
  k_fill
  intro dp un gd cn cs a ccd cl outer A₀ base h₀ L m s Q E B F X N T hk hroom hu hret
  refine wpAny_call ?_
  k_dflt ktr_enter
  walk_at "go"
  all_goals exact hret _ _ _ _ ⟨rfl, _, rfl⟩ (by assumption) (by assumption)
set_option maxHeartbeats 4000000 in
theorem need_int (w : PySem.World) (mean mg mb) (n : Int) (t u : Tok) (news : Led) :
    Ct w mean mg mb 212 [.int n t, .int 32 u] 7 64 news (fun r n' => n' = news ∧ ∃ t, r = .int n t) := by
  unfold Ct
  k_fill
  intro dp un gd cn cs a ccd cl outer A₀ base h₀ L m s Q E B F X N T hk hroom hu hret
  refine wpAny_call ?_
  k_dflt ktr_enter
  walk_at "go"
  all_goals exact hret _ _ _ _ ⟨rfl, _, rfl⟩ (by assumption) (by assumption)
end
-- part G2
section
local macro_rules | `(tactic| walk_at "no line") => `(tactic| skip)
theorem off_G2 : True := by
  w_top off
  exact trivial
local macro_rules | `(tactic| walk_at "goW") => `(tactic| repeat' (walk_at "u1"))
/-- what sort_work is asked of an array: its parts, in a ledger -/
structure ArrIn (news : Led) (aA dA D I : Addr) (aes : List DictEntry) (ka k ki : Nat) (made : Int) (x : PySem.Str) (bs : List BndL) (rss : List (List Value)) (wide : Nat) : Prop where
  inst : (aA, instObj 236 dA) ∈ news
  dict : (dA, dictOf aes ka) ∈ news
  ok : ArrOk aes made x D I
  bnds : (D, listOf (List.map bref bs).toArray k) ∈ news
  items : (I, listOf rss.flatten.toArray ki) ∈ news
  bok : ∀ b ∈ bs, BndOk news b
  bw : BoundW bs wide
  prod : bprod bs = rss.flatten.length
  rows : ∀ r ∈ rss, r.length = wide
  w0 : 0 < wide
  w1 : wide < 10
  many : rss.length < 10
  some : 0 < rss.length
  is : ∀ r ∈ rss, ∀ v ∈ r, IsIS v
theorem ArrIn.sub {news news' : Led} {aA dA D I : Addr} {aes : List DictEntry} {ka k ki : Nat} {made : Int} {x : PySem.Str} {bs : List BndL} {rss : List (List Value)} {wide : Nat} (H : ArrIn news aA dA D I aes ka k ki made x bs rss wide) (h : ∀ p ∈ news, p ∈ news') : ArrIn news' aA dA D I aes ka k ki made x bs rss wide :=
  ⟨h _ H.inst, h _ H.dict, H.ok, h _ H.bnds, h _ H.items, fun b hb => let ⟨h0, h1, t, u, hm⟩ := H.bok b hb; ⟨h0, h1, t, u, h _ hm⟩, H.bw, H.prod, H.rows, H.w0, H.w1, H.many, H.some, H.is⟩
/-- the number of the first column -/
def lowOf : List BndL → Int
  | [_, b] => b.2.1
  | _ => 1
abbrev SortedR (news : Led) (num : Int) (x : PySem.Str) (D : Addr) (vs : List Value) (r : Value) (n' : Led) : Prop :=
  ∃ A' dA' aes' ka' I' ki', r = .ref A' ∧ n' = (A', instObj 236 dA') :: (dA', dictOf aes' ka') :: (I', listOf vs.toArray ki') :: news ∧ ArrOk aes' num x D I' ∧ dA' < A' ∧ dA' < I' ∧ ∀ p ∈ news, p.1 < dA'
theorem sarr_int (w : PySem.World) (mean mg mb) {aA dA D I : Addr} {aes : List DictEntry} {ka k ki : Nat} {made : Int} (num z : Int) (tn tc : Tok) {x : PySem.Str} {bs : List BndL} {rss : List (List Value)} {wide : Nat} (d : Bool) (c : Nat) {news : Led}
    (H : ArrIn news aA dA D I aes ka k ki made x bs rss wide) (hc : c < wide) (hz : z = lowOf bs + c) :
    Ct w mean mg mb 357 [.ref aA, .int z tc, .bool d, .int num tn] 20 200 news (SortedR news num x D (sortR (bhc d c) rss).flatten) := by
  subst hz
  obtain ⟨h1, h2, h3, h4, h5, h6, h7, h8, h9, h10, h11, h12, h13, h14⟩ := H
  rcases h7 with ⟨b1, rfl, e⟩ | ⟨b1, b2, rfl, e⟩
  · exact sarr_ct1 w mean mg mb aA dA D I aes ka k ki made num tn tc x b1 rss wide d c news h1 h2 h3 h4 h5 h6 e h8 h9 h10 h11 h12 hc h13 h14
  · exact sarr_ct2 w mean mg mb aA dA D I aes ka k ki made num tn tc x b1 b2 rss wide d c news h1 h2 h3 h4 h5 h6 e h8 h9 h10 h11 h12 hc h13 h14
theorem sarr_none (w : PySem.World) (mean mg mb) {aA dA D I : Addr} {aes : List DictEntry} {ka k ki : Nat} {made : Int} (num : Int) (tn : Tok) {x : PySem.Str} {bs : List BndL} {rss : List (List Value)} {wide : Nat} (d : Bool) {news : Led}
    (H : ArrIn news aA dA D I aes ka k ki made x bs rss wide) :
    Ct w mean mg mb 357 [.ref aA, .none, .bool d, .int num tn] 20 200 news (SortedR news num x D (sortR (bhc d 0) rss).flatten) := by
  obtain ⟨h1, h2, h3, h4, h5, h6, h7, h8, h9, h10, h11, h12, h13, h14⟩ := H
  rcases h7 with ⟨b1, rfl, e⟩ | ⟨b1, b2, rfl, e⟩
  · exact sarr_ct3 w mean mg mb aA dA D I aes ka k ki made num tn x b1 rss wide d 0 news h1 h2 h3 h4 h5 h6 e h8 h9 h10 h11 h12 rfl h10 h13 h14
  · exact sarr_ct4 w mean mg mb aA dA D I aes ka k ki made num tn x b1 b2 rss wide d 0 news h1 h2 h3 h4 h5 h6 e h8 h9 h10 h11 h12 rfl h10 h13 h14
abbrev WorkR (rest : Led) (dW hl : Addr) (hs : Array Value) (nh : Nat) (made : Int) (x : PySem.Str) (D : Addr) (vs : List Value) (r : Value) (n' : Led) : Prop :=
  ∃ A' dA' aes' ka' I' ki' es' n1, r = .ref A' ∧ n' = (dW, dictOf es' n1) :: (hl, listOf (hs.push (.ref A')) (nh + 1)) :: (A', instObj 236 dA') :: (dA', dictOf aes' ka') :: (I', listOf vs.toArray ki') :: rest ∧ WorldOk es' (made + 1) hl ∧ ArrOk aes' (made + 1) x D I' ∧ dA' < A' ∧ dA' < I' ∧ (∀ p ∈ rest, p.1 < dA') ∧ dW < dA' ∧ hl < dA'
theorem led_s1 {h₀ h : Heap} {L : Addr} {a b c d e : Addr × Obj} {r : Led} (N : News h₀ L h (a :: b :: c :: d :: e :: r)) : News h₀ L h (e :: d :: a :: b :: c :: r) := cb_drop N (fun p hp => by
  simp only [List.mem_cons] at hp ⊢
  rcases hp with rfl | rfl | rfl | rfl | rfl | hp
  · exact .inr (.inr (.inr (.inr (.inl rfl))))
  · exact .inr (.inr (.inr (.inl rfl)))
  · exact .inl rfl
  · exact .inr (.inl rfl)
  · exact .inr (.inr (.inl rfl))
  · exact .inr (.inr (.inr (.inr (.inr hp)))))
set_option maxHeartbeats 2000000 in
theorem swork_int (w : PySem.World) (mean mg mb) (W dW : Addr) (es : List DictEntry) (n : Nat) (made : Int) (hl : Addr) (hs : Array Value) (nh : Nat) (aL : Addr) (nl : Nat) (madeA z : Int) (tc : Tok) {aA dA D I : Addr} {aes : List DictEntry} {ka k ki : Nat} {x : PySem.Str} {bs : List BndL} {rss : List (List Value)} {wide : Nat} (d : Bool) (c : Nat) {rest : Led} (hW : WorldOk es made hl)
    (hi : (W, instObj 375 dW) ∈ rest) (ha : (aL, listOf #[.ref aA, .int z tc] nl) ∈ rest) (hne : ∀ p ∈ rest, p.1 ≠ dW) (hne2 : ∀ p ∈ rest, p.1 ≠ hl) (hsz : hs.size < 1000)
    (H : ArrIn rest aA dA D I aes ka k ki madeA x bs rss wide) (hc : c < wide) (hz : z = lowOf bs + c) :
    Ct w mean mg mb 414 [.ref W, .ref aL, .bool d] 24 230 ((dW, dictOf es n) :: (hl, listOf hs nh) :: rest) (WorkR rest dW hl hs nh made x D (sortR (bhc d c) rss).flatten) := by
  unfold Ct
  k_fill
  intro dp un gd cn cs a ccd cl outer A₀ base h₀ L m s Q E B F X N T hk hroom hu hret
  refine ex1 (hW.width) ?_
  intro t1 hJz
  revert hJz
  intro hw1
  have hdh : dW ≠ hl := obj_ne N (.head _) (.tail _ (.head _)) (by show Value.type "dict" ≠ Value.type "list"; decide)
  refine wpAny_call ?_
  k_dflt ktr_enter
  walk_at "goW"
  have CC := need_int w mean mg mb z tc t1 ((dW, dictOf es n) :: (hl, listOf hs nh) :: rest)
  walk_at "useC"
  intro r9 n9 h9 tk9 hJz
  refine bRP hJz ?_
  clear hJz
  intro hJz
  refine ex1 hJz ?_
  clear hJz
  intro t9 hJz
  refine bR hJz ?_
  clear hJz
  intro F9 N9
  (try clear r9)
  (try clear n9)
  (try clear h9)
  (try clear tk9)
  dsimp only
  walk_at "goW"
  have CC := number_ct w mean mg mb W dW es n made hl ((hl, listOf hs nh) :: rest) hW (.tail _ hi) (List.forall_mem_cons.mpr ⟨hdh.symm, hne⟩)
  walk_at "useC"
  intro r8 n8 h8 tk8 hJz
  refine ex3 hJz ?_
  clear hJz
  intro t8 es8 n18 hJz
  refine bRRP hJz ?_
  clear hJz
  intro W8
  intro F8 N8
  (try clear r8)
  (try clear n8)
  (try clear h8)
  (try clear tk8)
  dsimp only
  walk_at "goW"
  have CD := sarr_int w mean mg mb (made + 1) z t8 t9 d c (news := (dW, dictOf es8 n18) :: (hl, listOf hs nh) :: rest) (H.sub fun p hp => .tail _ (.tail _ hp)) hc hz
  walk_at "useC"
  intro r7 n7 h7 tk7 hJz
  refine ex6 hJz ?_
  clear hJz
  intro A7 dA7 aes7 ka7 I7 ki7 hJz
  refine bRRPPPP hJz ?_
  clear hJz
  intro hA7 q1 q2 q3
  intro F7 N7
  (try clear r7)
  (try clear n7)
  (try clear h7)
  (try clear tk7)
  dsimp only
  walk_at "goW"
  rename News _ _ _ _ => N6
  have N6r := led_s1 N6
  have p1 := q3 _ (.head _)
  have p2 := q3 _ (.tail _ (.head _))
  refine' Ct.use ?zk1 ?zk2 ?zk3 N6r ?zk5 (by first | exact rfl | assumption) (held_ct w mean mg mb W dW es8 n18 (made + 1) hl hs nh _ _ W8 ?zi ?zd ?zne hsz rfl) ?zkd ?zku ?_
  case zk1 => k_asm
  case zk2 => k_asm
  case zk3 => k_asm
  case zk5 => k_asm
  case zi => k_mem
  case zd => exact .head _
  case zne => exact List.forall_mem_cons.mpr ⟨hdh, List.forall_mem_cons.mpr ⟨by show A7 ≠ hl; exact Nat.ne_of_gt (Nat.lt_trans p2 q1), List.forall_mem_cons.mpr ⟨Nat.ne_of_gt p2, List.forall_mem_cons.mpr ⟨by show I7 ≠ hl; exact Nat.ne_of_gt (Nat.lt_trans p2 q2), hne2⟩⟩⟩⟩
  case zkd => k_room
  case zku => k_room
  k_whole
  intro r5 n5 h5 tk5 hJz
  refine bRR hJz ?_
  clear hJz
  intro F5 N5
  (try clear r5)
  (try clear n5)
  (try clear h5)
  (try clear tk5)
  replace N5 := led_swp N5
  dsimp only
  walk_at "goW"
  rename News _ _ _ _ => N4
  rename Fr _ _ _ _ => F4
  exact hret _ _ _ _ ⟨_, _, _, _, _, _, es8, n18, rfl, rfl, W8, hA7, q1, q2, fun p hp => q3 p (.tail _ (.tail _ hp)), p1, p2⟩ F4 N4
end
-- part G3
section
theorem off_G3 : True := by
  w_top off
  exact trivial
local macro_rules | `(tactic| walk_at "goW") => `(tactic| repeat' (walk_at "u1"))
set_option maxHeartbeats 2000000 in
theorem swork_str (w : PySem.World) (mean mg mb) (W dW : Addr) (es : List DictEntry) (n : Nat) (made : Int) (hl : Addr) (hs : Array Value) (nh : Nat) (aL : Addr) (nl : Nat) (madeA z : Int) (xc : PySem.Str) (hx : Num xc z) (tc : Tok) {aA dA D I : Addr} {aes : List DictEntry} {ka k ki : Nat} {x : PySem.Str} {bs : List BndL} {rss : List (List Value)} {wide : Nat} (d : Bool) (c : Nat) {rest : Led} (hW : WorldOk es made hl)
    (hi : (W, instObj 375 dW) ∈ rest) (ha : (aL, listOf #[.ref aA, .str xc tc] nl) ∈ rest) (hne : ∀ p ∈ rest, p.1 ≠ dW) (hne2 : ∀ p ∈ rest, p.1 ≠ hl) (hsz : hs.size < 1000)
    (H : ArrIn rest aA dA D I aes ka k ki madeA x bs rss wide) (hc : c < wide) (hz : z = lowOf bs + c) :
    Ct w mean mg mb 414 [.ref W, .ref aL, .bool d] 24 230 ((dW, dictOf es n) :: (hl, listOf hs nh) :: rest) (WorkR rest dW hl hs nh made x D (sortR (bhc d c) rss).flatten) := by
  unfold Ct
  k_fill
  intro dp un gd cn cs a ccd cl outer A₀ base h₀ L m s Q E B F X N T hk hroom hu hret
  refine ex1 (hW.width) ?_
  intro t1 hJz
  revert hJz
  intro hw1
  have hdh : dW ≠ hl := obj_ne N (.head _) (.tail _ (.head _)) (by show Value.type "dict" ≠ Value.type "list"; decide)
  have hxb : (xc == PySem.Str.ofString "") = false := by
    cases q : (xc == PySem.Str.ofString "") with
    | false => rfl
    | true => exact absurd (eq_of_beq q) hx.ne
  refine wpAny_call ?_
  k_dflt ktr_enter
  walk_at "goW"
  any_goals (try exact Bool.noConfusion ((by assumption : (xc == PySem.Str.ofString "") = true).symm.trans hxb))
  have CC := need_str w mean mg mb xc z hx tc t1 ((dW, dictOf es n) :: (hl, listOf hs nh) :: rest)
  walk_at "useC"
  intro r9 n9 h9 tk9 hJz
  refine bRP hJz ?_
  clear hJz
  intro hJz
  refine ex1 hJz ?_
  clear hJz
  intro t9 hJz
  refine bR hJz ?_
  clear hJz
  intro F9 N9
  (try clear r9)
  (try clear n9)
  (try clear h9)
  (try clear tk9)
  dsimp only
  walk_at "goW"
  have CC := number_ct w mean mg mb W dW es n made hl ((hl, listOf hs nh) :: rest) hW (.tail _ hi) (List.forall_mem_cons.mpr ⟨hdh.symm, hne⟩)
  walk_at "useC"
  intro r8 n8 h8 tk8 hJz
  refine ex3 hJz ?_
  clear hJz
  intro t8 es8 n18 hJz
  refine bRRP hJz ?_
  clear hJz
  intro W8
  intro F8 N8
  (try clear r8)
  (try clear n8)
  (try clear h8)
  (try clear tk8)
  dsimp only
  walk_at "goW"
  have CD := sarr_int w mean mg mb (made + 1) z t8 t9 d c (news := (dW, dictOf es8 n18) :: (hl, listOf hs nh) :: rest) (H.sub fun p hp => .tail _ (.tail _ hp)) hc hz
  walk_at "useC"
  intro r7 n7 h7 tk7 hJz
  refine ex6 hJz ?_
  clear hJz
  intro A7 dA7 aes7 ka7 I7 ki7 hJz
  refine bRRPPPP hJz ?_
  clear hJz
  intro hA7 q1 q2 q3
  intro F7 N7
  (try clear r7)
  (try clear n7)
  (try clear h7)
  (try clear tk7)
  dsimp only
  walk_at "goW"
  rename News _ _ _ _ => N6
  have N6r := led_s1 N6
  have p1 := q3 _ (.head _)
  have p2 := q3 _ (.tail _ (.head _))
  refine' Ct.use ?zk1 ?zk2 ?zk3 N6r ?zk5 (by first | exact rfl | assumption) (held_ct w mean mg mb W dW es8 n18 (made + 1) hl hs nh _ _ W8 ?zi ?zd ?zne hsz rfl) ?zkd ?zku ?_
  case zk1 => k_asm
  case zk2 => k_asm
  case zk3 => k_asm
  case zk5 => k_asm
  case zi => k_mem
  case zd => exact .head _
  case zne => exact List.forall_mem_cons.mpr ⟨hdh, List.forall_mem_cons.mpr ⟨by show A7 ≠ hl; exact Nat.ne_of_gt (Nat.lt_trans p2 q1), List.forall_mem_cons.mpr ⟨Nat.ne_of_gt p2, List.forall_mem_cons.mpr ⟨by show I7 ≠ hl; exact Nat.ne_of_gt (Nat.lt_trans p2 q2), hne2⟩⟩⟩⟩
  case zkd => k_room
  case zku => k_room
  k_whole
  intro r5 n5 h5 tk5 hJz
  refine bRR hJz ?_
  clear hJz
  intro F5 N5
  (try clear r5)
  (try clear n5)
  (try clear h5)
  (try clear tk5)
  replace N5 := led_swp N5
  dsimp only
  walk_at "goW"
  rename News _ _ _ _ => N4
  rename Fr _ _ _ _ => F4
  exact hret _ _ _ _ ⟨_, _, _, _, _, _, es8, n18, rfl, rfl, W8, hA7, q1, q2, fun p hp => q3 p (.tail _ (.tail _ hp)), p1, p2⟩ F4 N4
end
-- part G4
section
local macro_rules | `(tactic| walk_at "no line") => `(tactic| skip)
theorem off_G4 : True := by
  w_top off
  exact trivial
local macro_rules | `(tactic| walk_at "goW") => `(tactic| repeat' (walk_at "u1"))
set_option maxHeartbeats 2000000 in
theorem swork_none (w : PySem.World) (mean mg mb) (W dW : Addr) (es : List DictEntry) (n : Nat) (made : Int) (hl : Addr) (hs : Array Value) (nh : Nat) (aL : Addr) (nl : Nat) (madeA : Int) (tc : Tok) {aA dA D I : Addr} {aes : List DictEntry} {ka k ki : Nat} {x : PySem.Str} {bs : List BndL} {rss : List (List Value)} {wide : Nat} (d : Bool) {rest : Led} (hW : WorldOk es made hl)
    (hi : (W, instObj 375 dW) ∈ rest) (ha : (aL, listOf #[.ref aA, .str (PySem.Str.ofString "") tc] nl) ∈ rest) (hne : ∀ p ∈ rest, p.1 ≠ dW) (hne2 : ∀ p ∈ rest, p.1 ≠ hl) (hsz : hs.size < 1000)
    (H : ArrIn rest aA dA D I aes ka k ki madeA x bs rss wide) :
    Ct w mean mg mb 414 [.ref W, .ref aL, .bool d] 24 230 ((dW, dictOf es n) :: (hl, listOf hs nh) :: rest) (WorkR rest dW hl hs nh made x D (sortR (bhc d 0) rss).flatten) := by
  unfold Ct
  k_fill
  intro dp un gd cn cs a ccd cl outer A₀ base h₀ L m s Q E B F X N T hk hroom hu hret
  refine ex1 (hW.width) ?_
  intro t1 hJz
  revert hJz
  intro hw1
  have hdh : dW ≠ hl := obj_ne N (.head _) (.tail _ (.head _)) (by show Value.type "dict" ≠ Value.type "list"; decide)
  refine wpAny_call ?_
  k_dflt ktr_enter
  walk_at "goW"
  have CC := number_ct w mean mg mb W dW es n made hl ((hl, listOf hs nh) :: rest) hW (.tail _ hi) (List.forall_mem_cons.mpr ⟨hdh.symm, hne⟩)
  walk_at "useC"
  intro r8 n8 h8 tk8 hJz
  refine ex3 hJz ?_
  clear hJz
  intro t8 es8 n18 hJz
  refine bRRP hJz ?_
  clear hJz
  intro W8
  intro F8 N8
  (try clear r8)
  (try clear n8)
  (try clear h8)
  (try clear tk8)
  dsimp only
  walk_at "goW"
  have CD := sarr_none w mean mg mb (made + 1) t8 d (news := (dW, dictOf es8 n18) :: (hl, listOf hs nh) :: rest) (H.sub fun p hp => .tail _ (.tail _ hp))
  walk_at "useC"
  intro r7 n7 h7 tk7 hJz
  refine ex6 hJz ?_
  clear hJz
  intro A7 dA7 aes7 ka7 I7 ki7 hJz
  refine bRRPPPP hJz ?_
  clear hJz
  intro hA7 q1 q2 q3
  intro F7 N7
  (try clear r7)
  (try clear n7)
  (try clear h7)
  (try clear tk7)
  dsimp only
  walk_at "goW"
  rename News _ _ _ _ => N6
  have N6r := led_s1 N6
  have p1 := q3 _ (.head _)
  have p2 := q3 _ (.tail _ (.head _))
  refine' Ct.use ?zk1 ?zk2 ?zk3 N6r ?zk5 (by first | exact rfl | assumption) (held_ct w mean mg mb W dW es8 n18 (made + 1) hl hs nh _ _ W8 ?zi ?zd ?zne hsz rfl) ?zkd ?zku ?_
  case zk1 => k_asm
  case zk2 => k_asm
  case zk3 => k_asm
  case zk5 => k_asm
  case zi => k_mem
  case zd => exact .head _
  case zne => exact List.forall_mem_cons.mpr ⟨hdh, List.forall_mem_cons.mpr ⟨by show A7 ≠ hl; exact Nat.ne_of_gt (Nat.lt_trans p2 q1), List.forall_mem_cons.mpr ⟨Nat.ne_of_gt p2, List.forall_mem_cons.mpr ⟨by show I7 ≠ hl; exact Nat.ne_of_gt (Nat.lt_trans p2 q2), hne2⟩⟩⟩⟩
  case zkd => k_room
  case zku => k_room
  k_whole
  intro r5 n5 h5 tk5 hJz
  refine bRR hJz ?_
  clear hJz
  intro F5 N5
  (try clear r5)
  (try clear n5)
  (try clear h5)
  (try clear tk5)
  replace N5 := led_swp N5
  dsimp only
  walk_at "goW"
  rename News _ _ _ _ => N4
  rename Fr _ _ _ _ => F4
  exact hret _ _ _ _ ⟨_, _, _, _, _, _, es8, n18, rfl, rfl, W8, hA7, q1, q2, fun p hp => q3 p (.tail _ (.tail _ hp)), p1, p2⟩ F4 N4
end
-- part G5
section
theorem off_G5 : True := by
  w_top off
  exact trivial
local macro_rules | `(tactic| walk_at "goX") => `(tactic| repeat' (walk_at "u1"))
abbrev ColOk (colV : Value) (low : Int) (c : Nat) : Prop := (∃ t, colV = .str (PySem.Str.ofString "") t ∧ c = 0) ∨ (∃ t, colV = .int (low + c) t) ∨ ∃ x t, colV = .str x t ∧ Num x (low + c)
theorem swork_ct (w : PySem.World) (mean mg mb) (W dW : Addr) (es : List DictEntry) (n : Nat) (made : Int) (hl : Addr) (hs : Array Value) (nh : Nat) (aL : Addr) (nl : Nat) (madeA : Int) (colV : Value) {aA dA D I : Addr} {aes : List DictEntry} {ka k ki : Nat} {x : PySem.Str} {bs : List BndL} {rss : List (List Value)} {wide : Nat} (d : Bool) (c : Nat) {rest : Led} (hW : WorldOk es made hl)
    (hi : (W, instObj 375 dW) ∈ rest) (ha : (aL, listOf #[.ref aA, colV] nl) ∈ rest) (hne : ∀ p ∈ rest, p.1 ≠ dW) (hne2 : ∀ p ∈ rest, p.1 ≠ hl) (hsz : hs.size < 1000)
    (H : ArrIn rest aA dA D I aes ka k ki madeA x bs rss wide) (hc : c < wide) (hcol : ColOk colV (lowOf bs) c) :
    Ct w mean mg mb 414 [.ref W, .ref aL, .bool d] 24 230 ((dW, dictOf es n) :: (hl, listOf hs nh) :: rest) (WorkR rest dW hl hs nh made x D (sortR (bhc d c) rss).flatten) := by
  rcases hcol with ⟨t, rfl, rfl⟩ | ⟨t, rfl⟩ | ⟨x, t, rfl, hx⟩
  · exact swork_none w mean mg mb W dW es n made hl hs nh aL nl madeA t d hW hi ha hne hne2 hsz H
  · exact swork_int w mean mg mb W dW es n made hl hs nh aL nl madeA _ t d c hW hi ha hne hne2 hsz H hc rfl
  · exact swork_str w mean mg mb W dW es n made hl hs nh aL nl madeA _ x hx t d c hW hi ha hne hne2 hsz H hc rfl
set_option maxHeartbeats 2000000 in
theorem sort_ct (w : PySem.World) (mean mg mb) (W dW : Addr) (es : List DictEntry) (n : Nat) (made : Int) (hl : Addr) (hs : Array Value) (nh : Nat) (aL : Addr) (nl : Nat) (madeA : Int) (colV : Value) {aA dA D I : Addr} {aes : List DictEntry} {ka k ki : Nat} {x : PySem.Str} {bs : List BndL} {rss : List (List Value)} {wide : Nat} (c : Nat) {rest : Led} (hW : WorldOk es made hl)
    (hi : (W, instObj 375 dW) ∈ rest) (ha : (aL, listOf #[.ref aA, colV] nl) ∈ rest) (hne : ∀ p ∈ rest, p.1 ≠ dW) (hne2 : ∀ p ∈ rest, p.1 ≠ hl) (hsz : hs.size < 1000)
    (H : ArrIn rest aA dA D I aes ka k ki madeA x bs rss wide) (hc : c < wide) (hcol : ColOk colV (lowOf bs) c) :
    Ct w mean mg mb 421 [.ref W, .ref aL] 26 250 ((dW, dictOf es n) :: (hl, listOf hs nh) :: rest) (WorkR rest dW hl hs nh made x D (sortR (bhc false c) rss).flatten) := by
  unfold Ct
  k_fill
  intro dp un gd cn cs a ccd cl outer A₀ base h₀ L m s Q E B F X N T hk hroom hu hret
  refine wpAny_call ?_
  k_dflt ktr_enter
  walk_at "goX"
  have CC := swork_ct w mean mg mb W dW es n made hl hs nh aL nl madeA colV false c hW hi ha hne hne2 hsz H hc hcol
  walk_at "useC"
  rintro r9 n9 h9 tk9 hR F9 N9
  dsimp only
  walk_at "goX"
  rename News _ _ _ _ => N4
  rename Fr _ _ _ _ => F4
  exact hret _ _ _ _ hR F4 N4
set_option maxHeartbeats 2000000 in
theorem rsort_ct (w : PySem.World) (mean mg mb) (W dW : Addr) (es : List DictEntry) (n : Nat) (made : Int) (hl : Addr) (hs : Array Value) (nh : Nat) (aL : Addr) (nl : Nat) (madeA : Int) (colV : Value) {aA dA D I : Addr} {aes : List DictEntry} {ka k ki : Nat} {x : PySem.Str} {bs : List BndL} {rss : List (List Value)} {wide : Nat} (c : Nat) {rest : Led} (hW : WorldOk es made hl)
    (hi : (W, instObj 375 dW) ∈ rest) (ha : (aL, listOf #[.ref aA, colV] nl) ∈ rest) (hne : ∀ p ∈ rest, p.1 ≠ dW) (hne2 : ∀ p ∈ rest, p.1 ≠ hl) (hsz : hs.size < 1000)
    (H : ArrIn rest aA dA D I aes ka k ki madeA x bs rss wide) (hc : c < wide) (hcol : ColOk colV (lowOf bs) c) :
    Ct w mean mg mb 428 [.ref W, .ref aL] 26 250 ((dW, dictOf es n) :: (hl, listOf hs nh) :: rest) (WorkR rest dW hl hs nh made x D (sortR (bhc true c) rss).flatten) := by
  unfold Ct
  k_fill
  intro dp un gd cn cs a ccd cl outer A₀ base h₀ L m s Q E B F X N T hk hroom hu hret
  refine wpAny_call ?_
  k_dflt ktr_enter
  walk_at "goX"
  have CC := swork_ct w mean mg mb W dW es n made hl hs nh aL nl madeA colV true c hW hi ha hne hne2 hsz H hc hcol
  walk_at "useC"
  rintro r9 n9 h9 tk9 hR F9 N9
  dsimp only
  walk_at "goX"
  rename News _ _ _ _ => N4
  rename Fr _ _ _ _ => F4
  exact hret _ _ _ _ hR F4 N4
end
-- part S1
section
theorem slot_wd_get : Slot "wrapper_descriptor" "__get__" "wrapper_descriptor.__get__" := .of (owner := "wrapper_descriptor") (n := "__get__") (by rw [typeLookup_type, builtinLookup_eq_fast]; kernel_rfl) (by decide +kernel) (by decide +kernel) (by decide +kernel)
  (by first | exact .inl (by decide +kernel) | exact .inr (by decide +kernel)) (by rw [isSubtype_type]; kernel_rfl)
theorem entry_wd_get : entryFor table "wrapper_descriptor.__get__" = some Builtin.«wrapper_descriptor.__get__» := entryFor_of_tree (by kernel_rfl)
theorem args_wd_get (a b c : Value) : argsOk "wrapper_descriptor.__get__" ⟨[a, b, c], []⟩ := by unfold argsOk; kernel_rfl
theorem ei_type : builtinType "Exception.__init__" = pure (.type "wrapper_descriptor") := by kernel_rfl
abbrev initW (x : Addr) : Obj := { cls := .type "method-wrapper", data := .fields #[.builtin "Exception.__init__", .ref x] }
section
variable {prog : PySem.Program} {w : PySem.World} {A : Around} {E : Value → Shared → Prop} {h : Heap} {g : Array GenState} {d : Drawn} {t : Nat} {os : OsState}
theorem wd_get {x C : Addr} {Q : Fin → Shared → Prop} (hi : Looks (model prog w) h (isInstance (.ref x) (.type "Exception")) true) (hq : Q (.done (.ret (.ref h.objs.size))) ⟨h.push (initW x), g, d, t, os⟩) :
    wpAny (model prog w) A (Builtin.«wrapper_descriptor.__get__» ⟨[.builtin "Exception.__init__", .ref x, .ref C], []⟩) Q E ⟨h, g, d, t, os⟩ := by
  unfold Builtin.«wrapper_descriptor.__get__»
  refine wpAny_bind (wpAny_of_eq (a := (.builtin "Exception.__init__", some (.ref x), some (.ref C))) (by rfl) ?_)
  dsimp only
  refine wpAny_bind (m := _) (f := fun _ => _) ?_
  refine wpAny_bind (m := _) (f := fun _ => _) ?_
  refine wpAny_of_eq (a := (PySem.Str.ofString "__init__", .type "Exception")) (by kernel_rfl) ?_
  dsimp only
  refine wpAny_bind (hi.here ?_)
  rw [if_neg (by decide)]
  refine wpAny_pure ?_
  unfold newFields
  refine wpAny_bind (wpAny_newObj_type ?_ ?_)
  · exact wpAny_pure hq
  · show (2 : Nat) ≤ sizeLine + 2; omega
theorem super_ga_init {so D x C : Addr} {l₀ l : List Value} {K : Frag} {tk : Tok} {Q : Fin → Shared → Prop}
    (hso : h.get? so = some { cls := .type "super", dict := none, data := .fields #[.ref D, .ref x, .ref C], slots := #[] }) (hno : Looks (model prog w) h (opaqueClassAbove (.ref C)) none)
    (hC : Looks (model prog w) h (mroOf (.ref C)) l₀) (hl : (l₀.dropWhile (· != .ref D)).drop 1 = l) (X : K.In h)
    (hf : alongIn K "__init__" l = some (some (.builtin "Exception.__init__"))) (hxC : x ≠ C)
    (hi : Looks (model prog w) h (isInstance (.ref x) (.type "Exception")) true)
    (hq : Q (.done (.ret (.ref h.objs.size))) ⟨h.push (initW x), g, d, t, os⟩) :
    wpAny (model prog w) A (Builtin.«super.__getattribute__» ⟨[.ref so, .str "__init__" tk], []⟩) Q E ⟨h, g, d, t, os⟩ := by
  have hlk := slot_wd_get.lookup
  have hne : (Value.ref x == Value.ref C) = false := by simp [hxC]
  have hTf : (⟨h, g, d, t, os⟩ : Shared).TypeIs (.builtin "Exception.__init__") "wrapper_descriptor" := ei_type
  have hdt : ({ cls := .type "super", dict := none, data := .fields #[.ref D, .ref x, .ref C], slots := #[] } : Obj).data = .fields #[.ref D, .ref x, .ref C] := rfl
  have f0 : (#[.ref D, .ref x, .ref C] : Array Value)[0]? = some (.ref D) := rfl
  have f1 : (#[.ref D, .ref x, .ref C] : Array Value)[1]? = some (.ref x) := rfl
  have f2 : (#[.ref D, .ref x, .ref C] : Array Value)[2]? = some (.ref C) := rfl
  have hn : (PySem.Str.ofString "__init__" == PySem.Str.ofString "__class__") = false := by decide
  unfold Builtin.«super.__getattribute__»
  repeat (first
    | (with_reducible refine wpAny_field hso hdt f0 ?_) | (with_reducible refine wpAny_field hso hdt f1 ?_) | (with_reducible refine wpAny_field hso hdt f2 ?_)
    | (with_reducible refine ks_wpAny_notOpaque hno ?_)
    | (with_reducible refine Looks.at hC ?_; rw [hl])
    | (refine ks_forIn_along X (fun _ _ => rfl) rfl ?_ hf)
    | (with_reducible refine PySem.wpAny_typeOf hTf ?_)
    | (with_reducible refine wpAny_call_entry slot_wd_get hTf entry_wd_get ?_ (args_wd_get _ _ _))
    | (refine wd_get hi ?_)
    | (with_reducible refine ⟨_, rfl, ?_⟩)
    | (simp only [hn, hne, Bool.or_false, Bool.false_eq_true, if_false])
    | wp_step
    | dsimp only)
  all_goals exact hq
theorem getm_super_init {so D x C : Addr} {l₀ l : List Value} {K : Frag} {pl : Sem Bool} {Q : Value × List Value → Shared → Prop}
    (hso : h.get? so = some { cls := .type "super", dict := none, data := .fields #[.ref D, .ref x, .ref C], slots := #[] }) (hno : Looks (model prog w) h (opaqueClassAbove (.ref C)) none)
    (hC : Looks (model prog w) h (mroOf (.ref C)) l₀) (hl : (l₀.dropWhile (· != .ref D)).drop 1 = l) (X : K.In h)
    (hf : alongIn K "__init__" l = some (some (.builtin "Exception.__init__"))) (hxC : x ≠ C)
    (hi : Looks (model prog w) h (isInstance (.ref x) (.type "Exception")) true)
    (hq : Q (.ref h.objs.size, []) ⟨h.push (initW x), g, d, t + 1, os⟩) :
    wpAny (model prog w) A (getMethod (.ref so) "__init__" pl) Q E ⟨h, g, d, t, os⟩ := by
  have hlk := F.ks_slot_super_ga.lookup
  have hcan := F.ks_canon_super_ga
  have hT : ∀ t', (⟨h, g, d, t', os⟩ : Shared).TypeIs (.ref so) "super" := fun _ => ⟨_, hso, rfl⟩
  unfold getMethod
  refine wpAny_bind (PySem.wpAny_specialOf (hT _) hlk ?_)
  show wpAny _ _ (if (Manifest.canonical "super.__getattribute__" != "object.__getattribute__") = true then _ else _) _ _ _
  rw [if_pos hcan]
  unfold getAttr getAttrBy
  refine wpAny_bind (wpAny_bind (wpAny_mkText (wpAny_holding (wpAny_bind (PySem.wpAny_typeOf (hT _) (wpAny_bind (wpAny_of_eq hlk ?_)))))))
  show wpAny _ _ (getAttrByItsOwn (.ref so) (.str "__init__" t) (.type "super") (.builtin "super.__getattribute__") true false) _ _ _
  unfold getAttrByItsOwn hookBefore callGetattribute boundAndCalled
  refine wpAny_bind (wpAny_of_eq (show (if onTheHeap (.type "super") then typeLookup (.type "super") "__getattr__" else pure none) = pure none from rfl) ?_)
  refine wpAny_bind (wpAny_attempt (wpAny_holding ?_))
  show wpAny _ _ (bindSpecial (.builtin "super.__getattribute__") (.ref so) >>= _) _ _ _
  refine wpAny_bind (wpAny_of_eq (F.ks_slot_super_ga.bind _) ?_)
  refine wpAny_mono (Q := fun v s' => v = .ref h.objs.size ∧ s' = ⟨h.push (initW x), g, d, t + 1, os⟩) (E := fun _ _ => False)
    (wpAny_call_entry F.ks_slot_super_ga (hT _) F.ks_entry_super_ga (super_ga_init hso hno hC hl X hf hxC hi ⟨_, rfl, rfl, rfl⟩) (F.ks_gaArgs_super _ _)) (fun v s' hv => ?_) fun _ _ z => z.elim
  obtain ⟨rfl, rfl⟩ := hv
  exact wpAny_pure (wpAny_pure hq)
end
section
variable {prog : PySem.Program} {w : PySem.World} {A : Around} {E : Value → Shared → Prop} {s : Shared} {h₀ : Heap} {L : Addr} {m mg mb : PySem.Str → Option Value} {news : Led} {K : Frag} {x C D so : Addr} {ox : Obj} {odx : Option Obj}
theorem k_super_init {pl : Sem Bool} {Q : Value × List Value → Shared → Prop} (F : Fr h₀ L s.heap m) (X₀ : K.In h₀) (N : News h₀ L s.heap news) (hso : (so, ks_superObj D x C) ∈ news) (I : InstAt s.heap x ox C odx) (ho : nsIn K cStatics "thirdparty.any" = some none)
    (hm : ks_superIn K C D "__init__" = some (some (.builtin "Exception.__init__"))) (hb : mroIn K C (.type "Exception") = some true)
    (h : ∀ q h', Fr h₀ L h' m → News h₀ L h' ((q, initW x) :: news) → (∀ p ∈ news, p.1 < q) → Q (.ref q, []) { s with heap := h', toks := s.toks + 1 }) : wpAny (model prog w) A (getMethod (.ref so) "__init__" pl) Q E s := by
  have X : K.In s.heap := X₀.keeps F.keep
  obtain ⟨hh, g, d, t, os⟩ := s
  cases hc : clsIn K C with
  | none => unfold ks_superIn at hm; rw [hc] at hm; cases hm
  | some cd =>
    unfold ks_superIn at hm
    rw [hc] at hm
    refine getm_super_init (N _ hso).1 (looks_opaque X ho) (l₀ := cd.mro) ?_ rfl X hm (ks_ne X I hc) ?_ ?_
    · exact fun A Q E s k q => wpAny_bind ((looks_clsIn X hc) A _ E s k (wpAny_pure q))
    · exact I.type.andThen (looks_mroIn X hb)
    · obtain ⟨F', N', l'⟩ := ks_newsPush (s := ⟨hh, g, d, t, os⟩) (o := initW x) F N rfl (Heap.get?_push_at rfl rfl) (fun b o e => Heap.get?_push_of_some _ e)
      exact h _ _ F' N' l'
end
end
-- part S2
section
abbrev excO (t : Addr) (dx : Option Addr) : Obj := { cls := .ref 34, dict := dx, data := .fields #[.ref t, .none, .none, .none, .bool false, .none] }
theorem ei_entry : entryFor table "Exception.__init__" = some Builtin.«BaseException.__init__» := PySem.F.excCall_Exception.initEntry
theorem ei_quiet (a : Args) : (PySem.Code.builtin "Exception.__init__" a).quiet = true := Code.quiet_builtin _ (by decide +kernel)
theorem ei_check {M : Model} {A : Around} {E : Value → Shared → Prop} {h : Heap} {g : Array GenState} {d : Drawn} {t : Nat} {os : OsState} {nm q : PySem.Str} {C N : Addr} {bs bm : List Value} {hdct : Bool} {sn : List PySem.Str} {sub : List Value} {ab : Bool} {col : Option Bool} {dd : Option Addr} {k0 k1 k2 k3 k5 : Option Value} {newId : String} {e : Addr} {oe : Obj} {rest : List Value} {Q : Unit → Shared → Prop}
    (hC : h.get? C = some (excClassObj nm q C N bs bm hdct sn sub ab col dd k0 k1 k2 k3 k5 newId)) (he : h.get? e = some oe) (hcls : oe.cls = .ref C) (hq : Q () ⟨h, g, d, t, os⟩) :
    wpAny M A (checkBoundCall "Exception.__init__" ⟨.ref e :: rest, []⟩) Q E ⟨h, g, d, t, os⟩ := by
  have F := PySem.F.excCall_Exception
  have hshort := F.noStar
  unfold checkBoundCall
  simp only [F.initRow, F.initKind]
  rw [if_pos (by decide)]
  repeat (first | (with_reducible refine wpAny_loadPart_at he ?_; rw [hcls]) | with_reducible refine wpAny_loadPart_at hC ?_ | wp_step)
  refine wpAny_onRaise ?_
  rw [show ∀ (a b : String) (n : Nat), Bind.check ⟨.positional, "*", "Exception", .self, [⟨"args", .varPos, false⟩]⟩ a b n (List.map (fun x => x.fst) ({ pos := Value.ref e :: rest } : Args).kw) = pure () from
    fun a b n => check_star_args _ _ _ _ _ _]
  exact wpAny_pure hq
section
variable {prog : PySem.Program} {w : PySem.World} {M : Model} {A : Around} {E : Value → Shared → Prop} {s : Shared} {h₀ : Heap} {L : Addr} {m : PySem.Str → Option Value} {news : Led}
theorem callWith_wrapF {pos : Pos} {u x : Addr} {first : List Value} {args : List (Bool × Sem Value)} {Q : Value → Shared → Prop} (hplain : args.any (·.1) = false)
    (h : wpAny M A (evalArgs (.ref u) true args []) (fun z s₁ => s₁.heap.get? u = some (initW x) ∧ wpAny M A (call (.ref u) (first ++ z.pos) z.kw) Q E s₁) E s) : wpAny M A (callWith pos (.ref u) first args []) Q E s := by
  unfold callWith
  refine wpAny_bind (wpAny_holding (wpAny_mono h (fun z s₁ h₁ => wpAny_bind (wpAny_standAt ?_)) fun _ _ x => x))
  refine bPP h₁ ?_
  intro ho hcall
  (try clear h₁)
  simp only [hplain, List.any_nil, Bool.or_false]
  refine wpAny_bind (m := keeperOf (.ref u)) ?_
  unfold keeperOf
  refine wpAny_bind (wpAny_load ho ?_)
  simp only [show (Value.type "method-wrapper" != Value.type "method") = true by decide, show (Value.type "method-wrapper" == Value.type "builtin_function_or_method" || Value.type "method-wrapper" == Value.type "method-wrapper") = true by decide, if_true]
  refine wpAny_pure ?_
  exact wpAny_bind (wpAny_mono hcall (fun r s₂ hr => wpAny_bind (wpAny_holding (wpAny_point (wpAny_pure hr)))) fun _ _ x => x)
theorem callWith_wrap {pos : Pos} {u x : Addr} {first : List Value} {env : Env} {e : PySem.Expr} {rest : List PySem.Expr} {Q : Value → Shared → Prop}
    (h : wpAny M A (spliced (backTo pos (starEach (e :: rest) env))) (fun vs s₁ => s₁.heap.get? u = some (initW x) ∧ wpAny M A (call (.ref u) (first ++ vs)) Q E s₁) E s)
    (he : starEach (e :: rest) env = (false, eval e env) :: starEach rest env := by rfl) (hplain : (backTo pos (starEach rest env)).any (·.1) = false := by rfl) :
    wpAny M A (callWith pos (.ref u) first (backTo pos (starEach (e :: rest) env)) []) Q E s := by
  rw [he] at h ⊢
  refine callWith_wrapF (x := x) (by show (false || (backTo pos (starEach rest env)).any (·.1)) = false; rw [hplain]; rfl) ?_
  exact evalArgs_plain h
theorem base_init {e t0 : Addr} {y : PySem.Str} {t : Tok} {Q : Fin → Shared → Prop} (F : Fr h₀ L s.heap m) (N : News h₀ L s.heap ((e, excO t0 none) :: news)) (hne : ∀ p ∈ news, p.1 ≠ e)
    (hq : ∀ t2 h', Fr h₀ L h' m → News h₀ L h' ((e, excO t2 none) :: news) → Q (.done (.ret .none)) { s with heap := h' }) :
    wpAny M A (Builtin.«BaseException.__init__» ⟨[.ref e, .str y t], []⟩) Q E s := by
  have he := (N _ (.head _)).1
  have F1 := F.push { cls := .type "tuple", data := .seq #[.str y t] }
  have N1 := N.push F { cls := .type "tuple", data := .seq #[.str y t] }
  have hel : s.heap.objs.size ≠ e := Nat.ne_of_gt (Heap.lt_size he)
  have he1 := Heap.get?_push_of_some { cls := .type "tuple", data := .seq #[.str y t] } he
  refine bPP (news_upd (pre := []) (d := e) (o := excO t0 none) (post := news) (f := Obj.mapFields (·.setIfInBounds 0 (.ref s.heap.objs.size))) F1 (cb_drop N1 (fun p hp => .tail _ hp)) (fun _ h => nomatch h) hne (o' := excO s.heap.objs.size none) rfl rfl) ?_
  intro F2 N2
  unfold Builtin.«BaseException.__init__» Builtin.BaseException.bexcPut newTuple
  dsimp only
  rw [if_neg (by decide)]
  refine wpAny_bind (wpAny_newObj_type ?_ ?_)
  · refine wpAny_bind (wpAny_bind (wpAny_field he1 rfl (x := .ref t0) rfl ?_))
    refine wpAny_bind (wpAny_setField he1 rfl (show (0 : Nat) < 6 by decide) ?_)
    dsimp only
    refine wpAny_letGo ?_
    exact wpAny_pure (hq _ _ F2 N2)
  · show (1 : Nat) ≤ sizeLine; rw [sizeLine_eq]; omega
theorem call_wrap {u e t0 N' : Addr} {nm q : PySem.Str} {bs bm : List Value} {hdct : Bool} {sn : List PySem.Str} {sub : List Value} {ab : Bool} {col : Option Bool} {dd : Option Addr} {k0 k1 k2 k3 k5 : Option Value} {newId : String} {y : PySem.Str} {t : Tok} {Q : Value → Shared → Prop} (ho : s.heap.get? u = some (initW e)) (F : Fr h₀ L s.heap m) (N : News h₀ L s.heap ((e, excO t0 none) :: news)) (hne : ∀ p ∈ news, p.1 ≠ e) (hC : s.heap.get? 34 = some (excClassObj nm q 34 N' bs bm hdct sn sub ab col dd k0 k1 k2 k3 k5 newId))
    (hq : ∀ t2 h', Fr h₀ L h' m → News h₀ L h' ((e, excO t2 none) :: news) → Q .none { s with heap := h' }) : wpAny (model prog w) A (call (.ref u) [.str y t]) Q E s := by
  refine wpAny_call (codeAny_of_tree ?_)
  show wpAny _ A.in1 (callAny (.ref u) ⟨[.str y t], []⟩) _ _ s
  simp only [callAny]
  refine wpAny_bind (wpAny_load ho ?_)
  simp only [show (Value.type "method-wrapper" == Value.type "method" || Value.type "method-wrapper" == Value.type "builtin_function_or_method" || Value.type "method-wrapper" == Value.type "method-wrapper") = true by decide, if_true]
  show wpAny _ A.in1 (if (Value.type "method-wrapper" != Value.type "method") = true then _ else _) _ _ _
  rw [if_pos (by decide)]
  obtain ⟨hp, g, d, tk, os⟩ := s
  refine wpAny_bind (ei_check hC (N _ (.head _)).1 rfl ?_)
  refine wpAny_bind (wpAny_pure (wpAny_pure ?_))
  exact ⟨ei_quiet _, codeAny_builtin ei_entry (base_init F N hne fun t2 h' F' N' => hq t2 h' F' N')⟩
end
end
-- part S3
section
open PySem.Builtin PySem.Builtin.ObjectAttr
theorem exc_refuse (e : Addr) : refuseLoop (.ref e) "__setattr__" [.ref 34, .type "Exception", .type "BaseException", .type "object"] = pure () := by
  rw [refuseLoop_ref]
  exact PySem.F.store_Exception.passes _
theorem exc_clsIn (w : PySem.World) : clsIn (top.heap_1 w.params) 34 = some { name := PySem.Str.ofString "SnobolError", bases := [Value.type "Exception"], mro := [Value.ref 34, Value.type "Exception", Value.type "BaseException", Value.type "object"], ns := 33, qualname := PySem.Str.ofString "SnobolError" } := by kernel_rfl
theorem exc_mroO (w : PySem.World) : mroIn (top.heap_1 w.params) 34 (.type "object") = some true := by kernel_rfl
theorem exc_mroE (w : PySem.World) : mroIn (top.heap_1 w.params) 34 (.type "Exception") = some true := by kernel_rfl
theorem exc_sa (w : PySem.World) : findIn (top.heap_1 w.params) (.ref 34) "__setattr__" = some (some (.builtin "object.__setattr__")) := by kernel_rfl
theorem exc_num (w : PySem.World) : findIn (top.heap_1 w.params) (.ref 34) "number" = some none := by kernel_rfl
theorem exc_told (w : PySem.World) : findIn (top.heap_1 w.params) (.ref 34) "told" = some none := by kernel_rfl
section
variable {prog : PySem.Program} {w : PySem.World} {A : Around} {E : Value → Shared → Prop}
/-- a store on an exception of the own class, up to its dictionary -/
theorem exc_open {s : Shared} {e : Addr} {o : Obj} {od : Option Obj} {name : PySem.Str} {v : Value} {Q : Unit → Shared → Prop} (X : (top.heap_1 w.params).In s.heap) (I : InstAt s.heap e o 34 od) (ha : findIn (top.heap_1 w.params) (.ref 34) name = some none)
    (h : ∀ b A', wpAny (model prog w) A' (storeInOwnDict (.ref e) (.ref 34) (.str name s.toks) name v b) (fun fin s' => fin = .done (.ret .none) ∧ Q () s') (fun _ _ => False) { s with toks := s.toks + 1 }) :
    wpAny (model prog w) A (setAttr (.ref e) name v) Q E s := by
  obtain ⟨hp, g, d, tk, os⟩ := s
  dsimp only at X I h ⊢
  have SF := PySem.F.store_object
  have sub : Looks (model prog w) hp (isInstance (.ref e) (.type "object")) true := I.type.andThen (looks_mroIn X (exc_mroO w))
  refine set_plain X I (exc_sa w) ?_
  refine codeAny_call_builtin SF.slot.plain SF.entry (@check_slot (model prog w) _ _ ⟨hp, g, d, tk + 1, os⟩ "object.__setattr__" "object" "__setattr__" (.ref e) [.str name tk, v] [] _ SF.kind SF.split sub (SF.args (.ref e) (.str name tk) v) ?_)
  have hm : Looks (model prog w) hp (mroOf (.ref 34)) _ := (looks_clsIn X (exc_clsIn w)).andThen .now
  rw [osa_eq, refuse_eq]
  refine wpAny_bind (wpAny_bind (I.type.here (wpAny_bind (hm.here ?_))))
  dsimp only
  rw [exc_refuse]
  refine wpAny_pure (wpAny_bind (I.type.here (wpAny_bind ((looks_findIn X ha).here (wpAny_bind (Looks.now.here ?_))))))
  refine wpAny_mono (h _ _) (fun fin s' hf => ?_) fun _ _ z => z.elim
  obtain ⟨rfl, hf⟩ := hf
  exact hf
theorem store_fresh {s : Shared} {e : Addr} {o : Obj} {vs : Array Value} {name : PySem.Str} {v : Value} {Q : Unit → Shared → Prop} (X : (top.heap_1 w.params).In s.heap) (hx : s.heap.get? e = some o) (hc : o.cls = .ref 34) (hdn : o.dict = none) (hdat : o.data = .fields vs) (ha : findIn (top.heap_1 w.params) (.ref 34) name = some none)
    (hq : ∀ h' tk', h'.get? e = some { cls := o.cls, dict := some s.heap.objs.size, data := o.data, slots := o.slots } → h'.Ns1 s.heap.objs.size (fun y => if y = name then some v else none) → (∀ b o, b ≠ e → s.heap.get? b = some o → h'.get? b = some o) → Q () { s with heap := h', toks := tk' }) :
    wpAny (model prog w) A (setAttr (.ref e) name v) Q E s := by
  have I : InstAt s.heap e o 34 none := ⟨hx, hc, by unfold notCls; rw [hdat], by rw [hdn]; trivial⟩
  refine exc_open X I ha fun b A' => ?_
  obtain ⟨h, g, d, t, os⟩ := s
  dsimp only at hx hq X I ⊢
  obtain ⟨oc, od, odt, osl⟩ := o
  dsimp only at hc hdn hdat hq
  subst hc hdn hdat
  unfold storeInOwnDict ownStreamTells ownDictForStores instanceDict
  dsimp only
  refine wpAny_bind (wpAny_pure ?_)
  rw [if_neg (by decide)]
  refine wpAny_bind (wpAny_bind (wpAny_loadPart hx ?_))
  dsimp only
  refine wpAny_bind ((looks_clsIn X (exc_clsIn w)).here ?_)
  rw [if_neg (by decide), if_neg (by decide)]
  have hx₁ : (h.push { cls := .type "dict", data := .dict #[] }).get? e = some _ := Heap.get?_push_of_some _ hx
  have hxs : e ≠ h.objs.size := Nat.ne_of_lt (Heap.lt_size hx)
  refine wpAny_bind (wpAny_alloc' ?_)
  refine wpAny_bind (wpAny_update' hx₁ ?_)
  refine wpAny_pure ?_
  have hgd : ((h.push { cls := .type "dict", data := .dict #[] }).update e fun o => { cls := o.cls, dict := some h.objs.size, data := o.data, slots := o.slots }).get? h.objs.size
      = some { cls := .type "dict", data := .dict #[] } :=
    (Heap.get?_update_ne _ _ _ _ hxs.symm).trans (Heap.get?_push_at rfl rfl)
  have hnd : ((h.push { cls := .type "dict", data := .dict #[] }).update e fun o => { cls := o.cls, dict := some h.objs.size, data := o.data, slots := o.slots }).Ns h.objs.size (fun _ => none) :=
    ⟨_, #[], _, hgd, rfl, fun e he => absurd he (by simp), fun _ => rfl⟩
  show wpAny _ _ (storeInDict h.objs.size (.str name t) name v) _ _ _
  unfold storeInDict newKeyGuard
  refine wpAny_bind (wpAny_pure (wpAny_bind (wpAny_nsSet1 (Heap.Ns1.of_empty hnd) fun h' hn' hs => ?_)))
  obtain ⟨oD, esD, epD, hoD, hdD, hcD⟩ := hn'.count (Within.cons name v Within.nil)
  refine wpAny_bind (wpAny_lookBehind hoD (by rw [hdD]; exact pastItsLine_dict (Nat.le_trans hcD (by rw [List.length_cons, List.length_nil, sizeLine_eq]; omega))) ?_)
  refine wpAny_pure ⟨rfl, hq h' _ ((hs.2 e hxs).trans (Heap.get?_update_self _ hx₁ rfl)) hn' fun b ob hbx hb => ?_⟩
  exact (hs.2 b (Nat.ne_of_lt (Heap.lt_size hb))).trans ((Heap.get?_update_ne _ _ _ _ hbx).trans (Heap.get?_push_of_some _ hb))
theorem store_more {s : Shared} {e dx : Addr} {o : Obj} {vs : Array Value} {name : PySem.Str} {v : Value} {mA : PySem.Str → Option Value} {ns : List PySem.Str} {Q : Unit → Shared → Prop} (X : (top.heap_1 w.params).In s.heap) (hx : s.heap.get? e = some o) (hc : o.cls = .ref 34) (hdn : o.dict = some dx) (hdat : o.data = .fields vs) (ha : findIn (top.heap_1 w.params) (.ref 34) name = some none) (hns : s.heap.Ns1 dx mA) (hne : e ≠ dx) (hw : Within mA ns) (hsz : ns.length ≤ 100)
    (hq : ∀ h' tk', h'.get? e = some o → h'.Ns1 dx (fun y => if y = name then some v else mA y) → (∀ b o, b ≠ dx → s.heap.get? b = some o → h'.get? b = some o) → Q () { s with heap := h', toks := tk' }) :
    wpAny (model prog w) A (setAttr (.ref e) name v) Q E s := by
  obtain ⟨od, hod⟩ : ∃ od, s.heap.get? dx = some od := by
    obtain ⟨o, _, _, h, _⟩ := hns
    exact ⟨o, h⟩
  have I : InstAt s.heap e o 34 (some od) := ⟨hx, hc, by unfold notCls; rw [hdat], by rw [hdn]; exact hod⟩
  refine exc_open X I ha fun b A' => ?_
  obtain ⟨h, g, d, t, os⟩ := s
  dsimp only at hx hq X I hns hod ⊢
  obtain ⟨oc, odi, odt, osl⟩ := o
  dsimp only at hc hdn hdat hq
  subst hc hdn hdat
  unfold storeInOwnDict ownStreamTells ownDictForStores instanceDict
  dsimp only
  refine wpAny_bind (wpAny_pure ?_)
  rw [if_neg (by decide)]
  refine wpAny_bind (wpAny_bind (wpAny_loadPart hx ?_))
  dsimp only
  refine wpAny_bind ((looks_clsIn X (exc_clsIn w)).here ?_)
  rw [if_neg (by decide)]
  refine wpAny_pure ?_
  show wpAny _ _ (storeInDict dx (.str name t) name v) _ _ _
  unfold storeInDict newKeyGuard
  refine wpAny_bind (wpAny_pure (wpAny_bind (wpAny_nsSet1 hns fun h' hn' hs => ?_)))
  obtain ⟨oD, esD, epD, hoD, hdD, hcD⟩ := hn'.count (Within.cons name v hw)
  refine wpAny_bind (wpAny_lookBehind hoD (by rw [hdD]; exact pastItsLine_dict (Nat.le_trans hcD (by rw [List.length_cons, sizeLine_eq]; omega))) ?_)
  exact wpAny_pure ⟨rfl, hq h' _ ((hs.2 e hne).trans hx) hn' fun b ob hbx hb => (hs.2 b hbx).trans hb⟩
end
end
-- part S4
section
theorem off_S4 : True := by
  w_top off
  exact trivial
theorem exc_inst {h₀ h : Heap} {L e t : Addr} {news : Led} (N : News h₀ L h news) (hm : (e, excO t none) ∈ news) : InstAt h e (excO t none) 34 none := ⟨(N _ hm).1, rfl, rfl, trivial⟩
theorem exc_super (w : PySem.World) : ks_superIn (top.heap_1 w.params) 34 34 "__init__" = some (some (.builtin "Exception.__init__")) := by kernel_rfl
local macro_rules | `(tactic| k_inst) => `(tactic| exact Mine.exc_inst (by k_asm) (by k_mem))
local macro_rules | `(tactic| walk_at "getMethod ref") => `(tactic| (k_here; k_dflt (refine' k_super_init (by k_asm) (by k_asm) (by k_asm) (by k_mem) (by k_inst) (by k_is) (by exact Mine.exc_super _) (by exact Mine.exc_mroE _) ?_; intro q' h' F' N' l1)))
local macro_rules | `(tactic| walk_at "goM") => `(tactic| repeat' ((fail_if_success (with_reducible show wpAny _ _ (setAttr _ _ _) _ _ _)); (fail_if_success (with_reducible show wpAny _ _ (callWith _ (Value.ref _) _ _ _) _ _ _)); walk_at "u0"))
theorem tok_at {α : Type} {M : Model} {A : Around} {c : PySem.Code} {t : Sem α} {Q : α → Shared → Prop} {E : Value → Shared → Prop} {h : Heap} {g : Array GenState} {d : Drawn} {tk : Nat} {os : OsState} (H : ∀ tk, PySem.wpAt M A c t Q E ⟨h, g, d, tk, os⟩) : PySem.wpAt M A c t Q E ⟨h, g, d, tk, os⟩ := H tk
theorem fr_but {g h h' : Heap} {L b₀ : Addr} {m : PySem.Str → Option Value} (F : Fr g L h m) (hn : g.get? b₀ = none) (hL : L ≠ b₀) (k : ∀ b o, b ≠ b₀ → h.get? b = some o → h'.get? b = some o) : Fr g L h' m := by
  obtain ⟨oL, es, ep, hLo, r⟩ := F.ns
  exact ⟨⟨oL, es, ep, k _ _ hL hLo, r⟩, fun b o e => k b o (fun q => by rw [q, hn] at e; cases e) (F.keep b o e), F.above⟩
theorem news_but {g h h' : Heap} {L b₀ : Addr} {news : Led} (N : News g L h news) (hne : ∀ p ∈ news, p.1 ≠ b₀) (k : ∀ b o, b ≠ b₀ → h.get? b = some o → h'.get? b = some o) : News g L h' news := fun p hp => ⟨k _ _ (hne p hp) (N p hp).1, (N p hp).2⟩
theorem fr_at {g h : Heap} {L : Addr} {m : PySem.Str → Option Value} (F : Fr g L h m) : ∃ o, h.get? L = some o := by
  obtain ⟨oL, _, _, h, _⟩ := F.ns
  exact ⟨oL, h⟩
theorem fr_fresh {g h : Heap} {L : Addr} {m : PySem.Str → Option Value} (F : Fr g L h m) : g.get? h.objs.size = none := by
  cases q : g.get? h.objs.size with
  | none => rfl
  | some o => exact absurd (Heap.lt_size (F.keep _ _ q)) (Nat.lt_irrefl _)
def excM (t1 : Tok) (tv : Value) : PySem.Str → Option Value := fun y => if y = PySem.Str.ofString "told" then some tv else if y = PySem.Str.ofString "number" then some (.int 10 t1) else none
set_option maxHeartbeats 1000000 in
theorem init_call (w : PySem.World) (mean mg mb) (dp un : Nat) (gd : Option (List PySem.Code)) (cn : PySem.Str) (cs : PySem.Scope) (a : Addr) (ccd : Value) (outer : List Env) (A₀ : Around) (base h₀ : Heap) (L : Addr) (m : PySem.Str → Option Value) (s : Shared) (Q E : Value → Shared → Prop) (vals : List Value) (e t0 : Addr) (t1 t2 : Tok) (y : PySem.Str) (news : Led)
    (B : Below A₀ base outer h₀) (F : Fr h₀ L s.heap m) (X : (top.heap_1 w.params).In h₀) (N : News h₀ L s.heap ((e, excO t0 none) :: news)) (T : Top top.view_1 (looseW top.view_1 [PySem.Str.ofString "SnobolError"]) mean mg mb h₀) (hk : cs.kind = .function) (hroom : dp + 8 < recursionLimit) (hu : un + 100 < cLine) (hne : ∀ p ∈ news, p.1 ≠ e)
    (hq : ∀ h' tk' t3 dx, Fr h₀ L h' m → News h₀ L h' news → h'.get? e = some (excO t3 (some dx)) → dx ≠ e → h'.Ns1 dx (excM t1 (.str y t2)) → Q .none { s with heap := h', toks := tk' }) :
    wpAny (model PySem.Challenge.rw_rh0229_01.row.prog w) ((ktrTop dp un gd cn cs L a ccd [] outer).under (.builtin "type.__call__" ⟨.ref 34 :: vals, []⟩)) (call (.ref 31) [.ref e, .int 10 t1, .str y t2]) Q E s := by
  revert X
  k_fill
  intro X
  refine wpAny_call ?_
  refine' ks_code_super ?k1 ?k2 ?k3 ?k4 ?k5 ?kA ?kF ?kK ?k6 ?k7 ?k8 ?k9 ?kB ?_ ?c1 ?c2 ?c3 ?c4
  case kA => exact rfl
  case kF => exact rfl
  case kK => first | exact rfl | assumption
  case k1 => k_asm
  case k2 => k_asm
  case k3 => k_asm
  case k4 => k_asm
  case k5 => k_asm
  case k6 => k_is
  case k7 => k_is
  case k8 => k_room
  case k9 => first | exact BindsTo.of_eq rfl | exact binds_K (by k_in) rfl (by k_is) rfl rfl rfl
  case kB => exact locs rfl
  case c1 => decide
  case c2 => exact rfl
  case c3 => exact rfl
  case c4 => exact rfl
  intro g' L' h' FG' F' N' B' X' T' l1
  (try dsimp only)
  walk_at "goM"
  refine callWith_wrap (x := e) ?_
  walk_at "goM"
  · rename News _ _ _ _ => N3
    exact (N3 _ (.head _)).1
  · rename News _ _ _ _ => N3
    rename Fr _ _ _ _ => F3
    have X3 : (top.heap_1 w.params).In _ := X'.keeps F3.keep
    refine call_wrap (N3 _ (.head _)).1 F3 (cb_drop N3 (fun p hp => .tail _ (.tail _ hp))) hne (X3 34 _ (by with_unfolding_all rfl)) ?_
    intro t3 h3 F4 N4
    dsimp only
    refine Mine.tok_at ?_
    intro tk3
    walk_at "goM"
    rename News _ _ _ _ => N5
    rename Fr _ _ _ _ => F5
    have X5 : (top.heap_1 w.params).In _ := X'.keeps F5.keep
    refine store_fresh X5 (N5 _ (.head _)).1 rfl rfl rfl (exc_num w) ?_
    intro h6 tk6 e6 s6 k6
    have hLe := (N5 _ (.head _)).2.1
    have hge := (N5 _ (.head _)).2.2
    dsimp only at e6 s6 k6 hLe hge
    have F6 := Mine.fr_but F5 hge (fun q => hLe q.symm) k6
    have N6 := Mine.news_but (cb_drop (news := news) N5 (fun p hp => .tail _ hp)) hne k6
    have X6 : (top.heap_1 w.params).In h6 := X'.keeps F6.keep
    have hex : e < h3.objs.size := Heap.lt_size (N5 _ (.head _)).1
    dsimp only
    walk_at "goM"
    refine store_more X6 e6 rfl rfl rfl (exc_told w) s6 (Nat.ne_of_lt hex) (Within.cons _ _ Within.nil) (by decide) ?_
    intro h7 tk7 e7 s7 k7
    dsimp only at e7 s7 k7
    have F7 := Mine.fr_but F6 (Mine.fr_fresh F5) (fun q => by obtain ⟨o, ho⟩ := Mine.fr_at F5; exact absurd (Heap.lt_size ho) (by rw [q]; exact Nat.lt_irrefl _)) k7
    have N7 := Mine.news_but N6 (fun p hp q => absurd (Heap.lt_size (N5 p (.tail _ hp)).1) (by rw [q]; exact Nat.lt_irrefl _)) k7
    dsimp only
    walk_at "goM"
    rename News _ _ _ _ => N8
    rename Fr _ _ _ _ => F8
    exact hq _ _ t3 _ F8 N8 e7 (Nat.ne_of_gt hex) s7
end
-- part S5
section
theorem exc_nsOk (w : PySem.World) : nsOkIn (top.heap_1 w.params) 33 = true := by kernel_rfl
theorem exc_nsInit (w : PySem.World) : nsIn (top.heap_1 w.params) 33 "__init__" = some (some (.ref 31)) := by kernel_rfl
theorem ns_some_of {K : Frag} {h : Heap} {N : Addr} {mg : PySem.Str → Option Value} {n : PySem.Str} {v : Value} (X : K.In h) (G : h.Ns N mg) (e : nsIn K N n = some (some v)) : mg n = some v := by
  obtain ⟨o, es, ep, ho, hd, _, hf⟩ := G
  unfold nsIn at e
  split at e
  · rename_i c d es' n' sl q
    have := X _ _ q
    rw [ho] at this
    cases this
    cases hd
    split at e
    · rename_i en he
      rw [← hf]
      unfold nsFind findBy
      rw [← Array.find?_toList, he]
      cases e
      rfl
    · rename_i he
      split at e <;> cases e
  · cases e
section
variable {prog : PySem.Program} {w : PySem.World} {A : Around} {E : Value → Shared → Prop} {s : Shared} {env : Env}
theorem raiseStmt_own {x : Sem Value} {Q : Flow → Shared → Prop} (hh : A.handled = none)
    (h : wpAny (model prog w) A x (fun v s₁ => ∃ e t dx, v = .ref e ∧ (top.heap_1 w.params).In s₁.heap ∧ s₁.heap.get? e = some (excO t dx) ∧ E (.ref e) s₁) E s) :
    wpAny (model prog w) A (raiseStmt env (some x) none) Q E s := by
  unfold raiseStmt
  refine wpAny_bind (wpAny_mono h (fun v s₁ h₁ => ?_) fun _ _ x => x)
  obtain ⟨e, t, dx, rfl, hX, he, hE⟩ := h₁
  obtain ⟨hp, g, d, tk, os⟩ := s₁
  dsimp only at hX he
  have hC : hp.get? 34 = some (excClassObj _ _ 34 _ _ [.type "Exception", .type "BaseException", .type "object"] _ _ _ _ _ _ _ _ _ _ _ _) := hX 34 _ (by with_unfolding_all rfl)
  have hcB : (Value.ref 34 :: [Value.type "Exception", .type "BaseException", .type "object"]).contains (.type "BaseException") = true := by decide
  repeat (first | with_reducible refine wpAny_loadPart_at he ?_ | with_reducible refine wpAny_loadPart_at hC ?_ | (with_reducible refine wpAny_isSubtype_exc hC ?_; rw [hcB]) | wp_step)
  exact wpAny_raiseNew_none hh hE
theorem Raise_init {x : PySem.Str} {np cpos pos : Pos} {args : List PySem.Expr} {Q : Flow → Shared → Prop} (hh : A.handled = none) (hplain : (backTo cpos (starEach args env)).any (·.1) = false)
    (h : wpAny (model prog w) A (eval (.Name x np) env) (fun f s₁ => f = .ref 34 ∧ wpAny (model prog w) A (evalArgs (.ref 34) true (backTo cpos (starEach args env)) [])
      (fun a s₂ => a.kw = [] ∧ a.pos.length ≤ 100 ∧ (top.heap_1 w.params).In s₂.heap ∧ ∀ h' e t0, (∀ b o, s₂.heap.get? b = some o → h'.get? b = some o) → s₂.heap.get? e = none → h'.get? e = some (excO t0 none) →
        wpAny (model prog w) (A.under (.builtin "type.__call__" ⟨.ref 34 :: a.pos, []⟩)) (call (.ref 31) (.ref e :: a.pos)) (fun r s' => r = .none ∧ (top.heap_1 w.params).In s'.heap ∧ (∃ t dx, s'.heap.get? e = some (excO t dx)) ∧ E (.ref e) s') E { s₂ with heap := h' }) E s₁) E s) :
    wpAny (model prog w) A (exec (.Raise (some (.Call (.Name x np) args [] cpos)) none pos) env) Q E s := by
  have F := PySem.F.excBase_Exception
  rw [arm_exec_Raise]
  first
    | refine wpAny_bind (wpAny_standAt (raiseStmt_own hh (wpAny_bind (wpAny_mono (wpAny_Call_ofName (wpAny_mono h (fun f s₁ h₁ => ?_) fun _ _ x => x)) (fun v s₃ h₃ => wpAny_bind (wpAny_standAt (wpAny_pure h₃))) fun _ _ x => x))))
    | (simp only [evalOpt, Option.map]; refine wpAny_bind (wpAny_standAt (raiseStmt_own hh (wpAny_bind (wpAny_mono (wpAny_Call_ofName (wpAny_mono h (fun f s₁ h₁ => ?_) fun _ _ x => x)) (fun v s₃ h₃ => wpAny_bind (wpAny_standAt (wpAny_pure h₃))) fun _ _ x => x)))))
  all_goals try rfl
  obtain ⟨rfl, h₁⟩ := h₁
  unfold callWith
  refine wpAny_bind (wpAny_holding (wpAny_mono h₁ (fun a s₂ h₂ => wpAny_bind (wpAny_standAt ?_)) fun _ _ x => x))
  obtain ⟨apos, akw⟩ := a
  obtain ⟨hkw, hlen, hX, h₂⟩ := h₂
  obtain rfl : akw = [] := hkw
  obtain ⟨hp, g, d, tk, os⟩ := s₂
  dsimp only at hlen hX h₂
  simp only [hplain]
  have hC := hX 34 _ (by with_unfolding_all rfl)
  have h31 := hX 31 _ (by with_unfolding_all rfl)
  have hn : Heap.Ns hp 33 (hp.nsMap 33) := .of_isNs (isNs_of_in hX (exc_nsOk w))
  refine wpAny_bind (wpAny_keeperOf_exc hC ?_)
  refine wpAny_bind (wpAny_call_exc_init (hrest := by rw [sizeLine_eq, List.nil_append]; omega) F hC hn (ns_some_of hX hn (exc_nsInit w)) h31 rfl fun h' e hm => ?_)
  obtain ⟨t0, ht0, _, _⟩ := hm.there
  refine wpAny_mono (h₂ h' e t0 hm.keeps hm.new ht0) (fun r s' hr => ?_) fun _ _ z => z
  obtain ⟨rfl, hX', ⟨t, dx, hx⟩, hE⟩ := hr
  refine ⟨rfl, ?_⟩
  refine wpAny_bind (wpAny_holding (wpAny_point (wpAny_pure ?_)))
  exact ⟨e, t, dx, rfl, hX', hx, hE⟩
end
end
-- part S6
section
section
variable {M : Model} {A : Around} {E : Value → Shared → Prop} {s' : Shared} {base g g₂ : Heap} {outer : List Env} {L a e t : Addr} {dx : Option Addr} {m : PySem.Str → Option Value} {name : PySem.Str} {scope : PySem.Scope} {cd : Value} {Q : Unit → Shared → Prop} {news : Led} {mE : PySem.Str → Option Value}
theorem leave_exc0 (K : Below A base outer g) (F : Fr g L s'.heap m) (N : News g L s'.heap news) (he : s'.heap.get? e = some (excO t dx)) (hge : g.get? e = none) (hLe : e ≠ L) (hne : ∀ p ∈ news, p.1 ≠ e)
    (hQ : ∀ h', RaisedSN base g outer e (.ref 34) news h' → g.UpToSlots h' → Q () { s' with heap := h' }) (hk : scope.kind = .function := by rfl) :
    wpAny M (A.deeper (envOf name scope L a cd)) (leaving (envOf name scope L a cd) (.ref e)) Q E s' := by
  have K' := K.push (name := name) (a := a) (cd := cd) F hk
  have hin : ∀ env ∈ (envOf name scope L a cd :: outer), ∀ b, env.frame = some b → b ∈ e :: (envOf name scope L a cd :: outer).filterMap (·.frame) := fun env he b hb => .tail _ (List.mem_filterMap.mpr ⟨env, he, hb⟩)
  have hof : ∀ b ∈ outer.filterMap (·.frame), g.get? b ≠ none := fun b hm q => by
    refine bPP (K.frames.mem hm) ?_
    intro _ hJz
    refine ex1 hJz ?_
    clear hJz
    intro o hJz
    refine bPP hJz ?_
    clear hJz
    intro ho _
    rw [q] at ho; cases ho
  have st : base.StaysIn (hideAll s'.heap (e :: (envOf name scope L a cd :: outer).filterMap (·.frame))) := fun b o q => hideAll_get _ (K'.stays b o q) fun hm => by
    rcases List.mem_cons.mp hm with rfl | hm
    · rw [fresh_of_stays K.stays hge] at q; cases q
    · rw [(K'.frames.mem hm).1] at q; cases q
  have sg : ∀ b o, g.get? b = some o → b ∉ outer.filterMap (·.frame) → (hideAll s'.heap (e :: (envOf name scope L a cd :: outer).filterMap (·.frame))).get? b = some o := fun b o q nm => hideAll_get _ (F.keep b o q) fun hm => by
    rcases List.mem_cons.mp hm with rfl | hm
    · rw [hge] at q; cases q
    · rcases kts_mem hm with z | z
      · rw [z, kts_self F] at q
        cases q
      · exact nm z
  have hl : ∀ q ∈ news, (hideAll s'.heap (e :: (envOf name scope L a cd :: outer).filterMap (·.frame))).get? q.1 = some q.2 ∧ g.get? q.1 = none ∧ base.get? q.1 = none := fun q hq => by
    refine ⟨hideAll_get _ (N q hq).1 fun hm => ?_, (N q hq).2.2, fresh_of_stays K.stays (N q hq).2.2⟩
    rcases List.mem_cons.mp hm with z | hm
    · exact hne q hq z
    refine ex1 (List.mem_filterMap.mp hm) ?_
    intro env hJz
    refine bPP hJz ?_
    clear hJz
    intro he hf
    rcases List.mem_cons.mp he with rfl | he
    · exact (N q hq).2.1 (Option.some.inj hf).symm
    · refine ex1 ((K.frames.mem (List.mem_filterMap.mpr ⟨env, he, hf⟩)).2) ?_
      intro o hJz
      refine bPP hJz ?_
      clear hJz
      intro ho _
      rw [(N q hq).2.2] at ho; cases ho
  have hen : (hideAll s'.heap (e :: (envOf name scope L a cd :: outer).filterMap (·.frame))).get? e = none := hideAll_none _ (.head _)
  refine wpAny_leaving_firstW (a0 := .ref t) K'.stack ((funFrames_hide K'.frames hin).of_keeps fun b o hb _ => ⟨o, hb, rfl⟩) rfl he (fun b o hb => of_hideAll _ hb) hen rfl rfl rfl fun h' hL => ?_
  obtain ⟨k1, ⟨_, _, k2⟩, k3, k4⟩ := hL
  exact hQ h' ⟨_, .ref t, st, sg, hl, k1, hen, k2, k3⟩ ((Heap.UpToSlots.of_keeps F.keep).trans k4)
theorem leave_exc (K : Below A base outer g) (F : Fr g L s'.heap m) (N : News g L s'.heap news) (he : s'.heap.get? e = some (excO t dx)) (hge : g.get? e = none) (hLe : e ≠ L) (hne : ∀ p ∈ news, p.1 ≠ e) (hx : ExcOk e mE s'.heap)
    (hQ : ∀ h', RaisedSN base g outer e (.ref 34) news h' → g.UpToSlots h' → ExcOk e mE h' → Q () { s' with heap := h' }) (hk : scope.kind = .function := by rfl) :
    wpAny M (A.deeper (envOf name scope L a cd)) (leaving (envOf name scope L a cd) (.ref e)) Q E s' :=
  wpAny_mono (DK.any (DK.leaving _ _) (leave_exc0 (Q := fun _ s'' => ∃ h', s'' = { s' with heap := h' } ∧ RaisedSN base g outer e (.ref 34) news h' ∧ g.UpToSlots h') K F N he hge hLe hne (fun h' R u => ⟨h', rfl, R, u⟩) hk) hx)
    (fun _ s'' ⟨⟨h', e1, R, u⟩, x⟩ => by subst e1; exact hQ h' R u x) fun _ _ z => z.1
theorem leave_pass {cls : Value} (K : Below A base outer g) (F : Fr g L g₂ m) (R : RaisedSN base g₂ (envOf name scope L a cd :: outer) e cls news s'.heap) (hsm : g₂.UpToSlots s'.heap) (hx : ExcOk e mE s'.heap)
    (hQ : ∀ h', RaisedSN base g outer e cls news h' → g.UpToSlots h' → ExcOk e mE h' → Q () { s' with heap := h' }) :
    wpAny M (A.deeper (envOf name scope L a cd)) (leaving (envOf name scope L a cd) (.ref e)) Q E s' :=
  wpAny_mono (DK.any (DK.leaving _ _) (leave_onSN (Q := fun _ s'' => ∃ h', s'' = { s' with heap := h' } ∧ RaisedSN base g outer e cls news h' ∧ g.UpToSlots h') K F R hsm (fun h' R _ u => ⟨h', rfl, R, u⟩)) hx)
    (fun _ s'' ⟨⟨h', e1, R, u⟩, x⟩ => by subst e1; exact hQ h' R u x) fun _ _ z => z.1
end
end
-- part S7
section
theorem off_S7 : True := by
  w_top off
  exact trivial
local macro_rules | `(tactic| walk_at "goR") => `(tactic| repeat' ((fail_if_success (with_reducible show wpAny _ _ (exec (PySem.Stmt.Raise _ _ _) _) _ _ _)); (fail_if_success (with_reducible show wpAny _ _ (eval (PySem.Expr.ListComp _ _ _ _) _) _ _ _)); walk_at "u1"))
local macro_rules | `(tactic| walk_at "execs cons") => `(tactic| (k_here; (with_reducible show wpAny _ _ _ _ _ (PySem.Shared.mk _ _ _ (@HAdd.hAdd Nat Nat Nat _ _ _) _)); refine Mine.tok_any' ?_; intro tk'; walk_at "execs cons"))
local macro_rules | `(tactic| walk_at "goA") => `(tactic| repeat' ((fail_if_success (with_reducible show _ ∧ _)); (fail_if_success (with_reducible show wpAny _ _ (exec (PySem.Stmt.Raise _ _ _) _) _ _ _)); (fail_if_success (with_reducible show wpAny _ _ (eval (PySem.Expr.ListComp _ _ _ _) _) _ _ _)); walk_at "u1"))
abbrev CtE (w : PySem.World) (mean : ExcName → Option Value) (mg mb : PySem.Str → Option Value) (f : Addr) (vs : List Value) (D U : Nat) (news : Led) (R : Led → Prop) : Prop :=
  ∀ (dp un : Nat) (gd : Option (List PySem.Code)) (cn : PySem.Str) (cs : PySem.Scope) (a : Addr) (ccd : Value) (outer : List Env) (A₀ : Around) (base h₀ : Heap) (L : Addr) (m : PySem.Str → Option Value) (s : Shared) (Q E : Value → Shared → Prop),
    Below A₀ base outer h₀ → Fr h₀ L s.heap m → (top.heap_1 w.params).In h₀ → News h₀ L s.heap news → Top top.view_1 (looseW top.view_1 [PySem.Str.ofString "SnobolError"]) mean mg mb h₀ → cs.kind = .function → dp + D < recursionLimit → un + U < cLine →
    (∀ e t1 tv news' g₂ h' tk', R news' → Fr h₀ L g₂ m → RaisedSN base g₂ (envX cn cs L a ccd [] :: outer) e (.ref 34) news' h' → g₂.UpToSlots h' → ExcOk e (excM t1 tv) h' → E (.ref e) { s with heap := h', toks := tk' }) →
    wpAny (model PySem.Challenge.rw_rh0229_01.row.prog w) (ktrTop dp un gd cn cs L a ccd [] outer) (call (.ref f) vs) Q E s
theorem args_of {M : Model} {A : Around} {E : Value → Shared → Prop} {s : Shared} {f : Value} {pos : Pos} {env : Env} {e : PySem.Expr} {rest : List PySem.Expr} {Q : Args → Shared → Prop}
    (h : wpAny M A (spliced (backTo pos (starEach (e :: rest) env))) (fun vs s₁ => Q ⟨vs, []⟩ s₁) E s)
    (he : starEach (e :: rest) env = (false, eval e env) :: starEach rest env := by rfl) : wpAny M A (evalArgs f true (backTo pos (starEach (e :: rest) env)) []) Q E s := by
  rw [he] at h ⊢
  exact evalArgs_plain h
theorem fr_none {g h : Heap} {L e : Addr} {m : PySem.Str → Option Value} (F : Fr g L h m) (hn : h.get? e = none) : g.get? e = none := by
  cases q : g.get? e with
  | none => rfl
  | some o => have := F.keep _ _ q; rw [hn] at this; cases this
theorem fr_ne {g h : Heap} {L e : Addr} {m : PySem.Str → Option Value} (F : Fr g L h m) (hn : h.get? e = none) : e ≠ L := by
  rintro rfl
  refine ex1 (Mine.fr_at F) ?_
  intro o hJz
  revert hJz
  intro ho
  rw [hn] at ho; cases ho
theorem news_ne {g h : Heap} {L e : Addr} {news : Led} (N : News g L h news) (hn : h.get? e = none) : ∀ p ∈ news, p.1 ≠ e := fun p hp q => by
  have := (N p hp).1
  rw [q, hn] at this; cases this
theorem news_exc {g h h' : Heap} {L e t : Addr} {news : Led} (N : News g L h news) (k : ∀ b o, h.get? b = some o → h'.get? b = some o) (he : h'.get? e = some (excO t none)) (hL : e ≠ L) (hg : g.get? e = none) : News g L h' ((e, excO t none) :: news) := fun p hp => by
  rcases List.mem_cons.mp hp with rfl | hp
  · exact ⟨he, hL, hg⟩
  · exact ⟨k _ _ (N p hp).1, (N p hp).2⟩
local macro_rules | `(tactic| walk_at "goK") => `(tactic| repeat' ((fail_if_success (with_reducible show wpAny _ _ (execs (PySem.Stmt.Assign _ (PySem.Expr.IfExp _ _ _ _) _ :: _) _) _ _ _)); (fail_if_success (with_reducible show wpAny _ _ (exec (PySem.Stmt.Raise _ _ _) _) _ _ _)); (fail_if_success (with_reducible show wpAny _ _ (eval (PySem.Expr.ListComp _ _ _ _) _) _ _ _)); walk_at "u1"))
local macro_rules | `(tactic| walk_at "goI") => `(tactic| repeat' ((fail_if_success (with_reducible show wpAny _ _ (exec (PySem.Stmt.If _ _ _ _) _) _ _ _)); (fail_if_success (with_reducible show wpAny _ _ (exec (PySem.Stmt.Raise _ _ _) _) _ _ _)); (fail_if_success (with_reducible show wpAny _ _ (eval (PySem.Expr.ListComp _ _ _ _) _) _ _ _)); walk_at "u1"))
def JTrue (g : Heap) (L : Addr) (m : PySem.Str → Option Value) (news : Led) (s : Shared) : Bool → Shared → Prop :=
  fun b s' => b = true ∧ ∃ h' tk', s' = { s with heap := h', toks := tk' } ∧ Fr g L h' m ∧ News g L h' news
theorem cut_true {M : Model} {A : Around} {E : Value → Shared → Prop} {s : Shared} {x : Sem Bool} {Q : Bool → Shared → Prop} {g : Heap} {L : Addr} {m : PySem.Str → Option Value} {news : Led}
    (_F : Fr g L s.heap m) (_N : News g L s.heap news) (ha : wpAny M A x (JTrue g L m news s) E s)
    (hb : ∀ h' tk', Fr g L h' m → News g L h' news → Q true { s with heap := h', toks := tk' }) : wpAny M A x Q E s :=
  wpAny_mono ha (fun b s' h => by obtain ⟨rfl, h', tk', rfl, F', N'⟩ := h; exact hb h' tk' F' N') fun _ _ z => z
set_option maxHeartbeats 2000000 in
theorem serr_gen (w : PySem.World) (mean mg mb) (aA dA D I : Addr) (aes : List DictEntry) (ka k ki : Nat) (made num : Int) (tn tc : Tok) (x : PySem.Str) (bs : List BndL) (rss : List (List Value)) (wide : Nat) (d : Bool) (lo z : Int) (news : Led)
    (hi : (aA, instObj 236 dA) ∈ news) (hd : (dA, dictOf aes ka) ∈ news) (hA : ArrOk aes made x D I) (hD : (D, listOf (List.map bref bs).toArray k) ∈ news) (hI : (I, listOf rss.flatten.toArray ki) ∈ news)
    (hbo : ∀ b ∈ bs, BndOk news b) (e : LowB bs wide lo) (hp : bprod bs = rss.flatten.length) (hr : ∀ r ∈ rss, r.length = wide) (hw0 : 0 < wide) (hw1 : wide < 10) (hlen : rss.length < 10) (hz : z < lo ∨ lo + wide ≤ z) (hl0 : 0 < rss.length)
    (his : ∀ r ∈ rss, ∀ v ∈ r, IsIS v) :
    CtE w mean mg mb 357 [.ref aA, .int z tc, .bool d, .int num tn] 24 260 news (fun n' => n' = news) := by
  unfold CtE
  k_fill
  intro dp un gd cn cs a ccd outer A₀ base h₀ L m s Q E B F X N T hk hroom hu herr
  have h1 := hA.bounds
  have hfl := flat_len hr
  have hfl2 : rss.length * wide < 100 := Nat.lt_of_lt_of_le (Nat.mul_lt_mul'' hlen hw1) (by decide)
  have hfl3 : rss.flatten.length < 100 := by omega
  refine wpAny_call ?_
  k_dflt ktr_enter
  walk_at "goR"
  have CC := rows_ct w mean mg mb aA dA D I aes ka k ki made x bs rss wide news hi hd hA hD hI hbo e.w hr hw0 hw1 hlen
  walk_at "useC"
  intro r9 n9 h9 tk9 hJz
  refine ex4 hJz ?_
  clear hJz
  intro D9 k9 rs own hJz
  refine bRRPP hJz ?_
  clear hJz
  intro hrs hro
  intro F9 N9
  (try clear r9)
  (try clear n9)
  (try clear h9)
  (try clear tk9)
  dsimp only
  obtain ⟨r0, rs', rfl⟩ : ∃ r0 rs', rs = r0 :: rs' := by
    cases rs with
    | nil => rw [← hrs] at hl0; simp at hl0
    | cons r0 rs' => exact ⟨r0, rs', rfl⟩
  have hi9 : (aA, instObj 236 dA) ∈ own ++ news := List.mem_append_right _ hi
  have hd9 : (dA, dictOf aes ka) ∈ own ++ news := List.mem_append_right _ hd
  have hD9 : (D, listOf (List.map bref bs).toArray k) ∈ own ++ news := List.mem_append_right _ hD
  have hI9 : (I, listOf rss.flatten.toArray ki) ∈ own ++ news := List.mem_append_right _ hI
  have hbo9 := bnd_right (own := own) hbo
  refine ex1 (hro r0 (.head _)) ?_
  intro k0 hJz
  revert hJz
  intro hk0
  have hr0 : (r0.1, listOf r0.2.toArray k0) ∈ own ++ news := List.mem_append_left _ hk0
  have hrl : (r0 :: rs').length < 10 := by rw [← List.length_map (·.2) (as := r0 :: rs'), hrs]; exact hlen
  have hl9 : r0.2.length = wide := hr _ (by rw [← hrs]; exact .head _)
  walk_at "goK"
  k_dflt (refine cut_int (PySem.Str.ofString "low") lo (by k_asm) (by k_asm) ?ca ?cb)
  case ca =>
    rcases e with ⟨b1, rfl, e1, rfl⟩ | ⟨b1, b2, rfl, e1, rfl⟩
    · have hDl : (List.map bref [b1]).toArray.size = 1 := rfl
      walk_at "goR"
      exact ⟨rfl, _, _, _, rfl, by assumption, by assumption⟩
    · refine bPPP (hbo b2 (.tail _ (.head _))) ?_
      intro _ _ hJz
      refine ex2 hJz ?_
      clear hJz
      intro tb ub hbm
      have hDl : (List.map bref [b1, b2]).toArray.size = 2 := rfl
      have hbm9 : (b2.1, tup2 (.int b2.2.1 tb) (.int b2.2.2 ub)) ∈ own ++ news := List.mem_append_right _ hbm
      walk_at "goR"
      exact ⟨rfl, _, _, _, rfl, by assumption, by assumption⟩
  intro hZ tkZ tZ FZ NZ
  dsimp only
  walk_at "goI"
  rename Fr _ _ _ _ => FY
  rename News _ _ _ _ => NY
  k_dflt (refine wpAny_If (cut_true FY NY ?cc ?cd))
  case cc =>
    rcases hz with hz | hz
    · walk_at "goR"
      exact ⟨rfl, _, _, rfl, by assumption, by assumption⟩
    · walk_at "goR"
      exact ⟨rfl, _, _, rfl, by assumption, by assumption⟩
  intro hY tkY FX NX
  dsimp only
  clear FY NY
  try clear FZ
  try clear NZ
  walk_at "goR"
  rename Fr _ _ _ _ => F3
  rename News _ _ _ _ => N3
  replace N3 := cb_drop (news := news) N3 (fun p hp => .tail _ (List.mem_append_right _ hp))
  refine Raise_init (by rfl) (by rfl) ?_
  walk1
  refine ⟨rfl, Mine.args_of ?_⟩
  walk_at "goA"
  rename PySem.W.Frag.In _ _ => X3
  refine ⟨by first | exact rfl | trivial, Nat.le_of_ble_eq_true rfl, X3.keeps F3.keep, ?_⟩
  intro h4 e4 t04 k4 n4 he4
  try dsimp only at k4 n4
  have hge4 := fr_none F3 n4
  have hLe4 : e4 ≠ _ := fr_ne F3 n4
  have hne4 := news_ne N3 n4
  have F4 := F3.keeps k4
  have N4 := news_exc N3 k4 he4 hLe4 hge4
  refine init_call w mean mg mb _ _ _ _ _ _ _ _ _ _ _ _ _ _ _ _ _ e4 t04 _ _ _ news (by k_asm) F4 (by k_asm) N4 (by k_asm) (by first | exact rfl | assumption) (by k_room) (by k_room) hne4 ?_
  intro h5 tk5 t5 dx5 F5 N5 e5 ne5 s5
  refine ⟨rfl, X3.keeps F5.keep, ⟨t5, some dx5, e5⟩, ?_⟩
  refine leave_exc (mE := excM _ _) (by k_asm) F5 N5 e5 hge4 hLe4 hne4 ⟨_, dx5, _, e5, rfl, rfl, rfl, ne5, s5⟩ ?_
  intro h6 R6 u6 x6
  exact herr _ _ _ _ _ _ _ rfl (by k_asm) R6 u6 x6
theorem serr_ct1 (w : PySem.World) (mean mg mb) (aA dA D I : Addr) (aes : List DictEntry) (ka k ki : Nat) (made num : Int) (tn tc : Tok) (x : PySem.Str) (b1 : BndL) (rss : List (List Value)) (wide : Nat) (d : Bool) (z : Int) (news : Led)
    (hi : (aA, instObj 236 dA) ∈ news) (hd : (dA, dictOf aes ka) ∈ news) (hA : ArrOk aes made x D I) (hD : (D, listOf (List.map bref [b1]).toArray k) ∈ news) (hI : (I, listOf rss.flatten.toArray ki) ∈ news)
    (hbo : ∀ b ∈ [b1], BndOk news b) (e : (wide : Int) = 1) (hp : bprod [b1] = rss.flatten.length) (hr : ∀ r ∈ rss, r.length = wide) (hw0 : 0 < wide) (hw1 : wide < 10) (hlen : rss.length < 10) (hz : z < 1) (hl0 : 0 < rss.length)
    (his : ∀ r ∈ rss, ∀ v ∈ r, IsIS v) :
    CtE w mean mg mb 357 [.ref aA, .int z tc, .bool d, .int num tn] 24 260 news (fun n' => n' = news) :=
  serr_gen w mean mg mb aA dA D I aes ka k ki made num tn tc x [b1] rss wide d 1 z news hi hd hA hD hI hbo (.inl ⟨b1, rfl, e, rfl⟩) hp hr hw0 hw1 hlen (.inl hz) hl0 his
theorem serr_ct2 (w : PySem.World) (mean mg mb) (aA dA D I : Addr) (aes : List DictEntry) (ka k ki : Nat) (made num : Int) (tn tc : Tok) (x : PySem.Str) (b1 : BndL) (rss : List (List Value)) (wide : Nat) (d : Bool) (z : Int) (news : Led)
    (hi : (aA, instObj 236 dA) ∈ news) (hd : (dA, dictOf aes ka) ∈ news) (hA : ArrOk aes made x D I) (hD : (D, listOf (List.map bref [b1]).toArray k) ∈ news) (hI : (I, listOf rss.flatten.toArray ki) ∈ news)
    (hbo : ∀ b ∈ [b1], BndOk news b) (e : (wide : Int) = 1) (hp : bprod [b1] = rss.flatten.length) (hr : ∀ r ∈ rss, r.length = wide) (hw0 : 0 < wide) (hw1 : wide < 10) (hlen : rss.length < 10) (hz : 1 + wide ≤ z) (hl0 : 0 < rss.length)
    (his : ∀ r ∈ rss, ∀ v ∈ r, IsIS v) :
    CtE w mean mg mb 357 [.ref aA, .int z tc, .bool d, .int num tn] 24 260 news (fun n' => n' = news) :=
  serr_gen w mean mg mb aA dA D I aes ka k ki made num tn tc x [b1] rss wide d 1 z news hi hd hA hD hI hbo (.inl ⟨b1, rfl, e, rfl⟩) hp hr hw0 hw1 hlen (.inr hz) hl0 his
theorem serr_ct3 (w : PySem.World) (mean mg mb) (aA dA D I : Addr) (aes : List DictEntry) (ka k ki : Nat) (made num : Int) (tn tc : Tok) (x : PySem.Str) (b1 b2 : BndL) (rss : List (List Value)) (wide : Nat) (d : Bool) (z : Int) (news : Led)
    (hi : (aA, instObj 236 dA) ∈ news) (hd : (dA, dictOf aes ka) ∈ news) (hA : ArrOk aes made x D I) (hD : (D, listOf (List.map bref [b1, b2]).toArray k) ∈ news) (hI : (I, listOf rss.flatten.toArray ki) ∈ news)
    (hbo : ∀ b ∈ [b1, b2], BndOk news b) (e : b2.2.2 - b2.2.1 + 1 = wide) (hp : bprod [b1, b2] = rss.flatten.length) (hr : ∀ r ∈ rss, r.length = wide) (hw0 : 0 < wide) (hw1 : wide < 10) (hlen : rss.length < 10) (hz : z < b2.2.1) (hl0 : 0 < rss.length)
    (his : ∀ r ∈ rss, ∀ v ∈ r, IsIS v) :
    CtE w mean mg mb 357 [.ref aA, .int z tc, .bool d, .int num tn] 24 260 news (fun n' => n' = news) :=
  serr_gen w mean mg mb aA dA D I aes ka k ki made num tn tc x [b1, b2] rss wide d b2.2.1 z news hi hd hA hD hI hbo (.inr ⟨b1, b2, rfl, e, rfl⟩) hp hr hw0 hw1 hlen (.inl hz) hl0 his
theorem serr_ct4 (w : PySem.World) (mean mg mb) (aA dA D I : Addr) (aes : List DictEntry) (ka k ki : Nat) (made num : Int) (tn tc : Tok) (x : PySem.Str) (b1 b2 : BndL) (rss : List (List Value)) (wide : Nat) (d : Bool) (z : Int) (news : Led)
    (hi : (aA, instObj 236 dA) ∈ news) (hd : (dA, dictOf aes ka) ∈ news) (hA : ArrOk aes made x D I) (hD : (D, listOf (List.map bref [b1, b2]).toArray k) ∈ news) (hI : (I, listOf rss.flatten.toArray ki) ∈ news)
    (hbo : ∀ b ∈ [b1, b2], BndOk news b) (e : b2.2.2 - b2.2.1 + 1 = wide) (hp : bprod [b1, b2] = rss.flatten.length) (hr : ∀ r ∈ rss, r.length = wide) (hw0 : 0 < wide) (hw1 : wide < 10) (hlen : rss.length < 10) (hz : b2.2.1 + wide ≤ z) (hl0 : 0 < rss.length)
    (his : ∀ r ∈ rss, ∀ v ∈ r, IsIS v) :
    CtE w mean mg mb 357 [.ref aA, .int z tc, .bool d, .int num tn] 24 260 news (fun n' => n' = news) :=
  serr_gen w mean mg mb aA dA D I aes ka k ki made num tn tc x [b1, b2] rss wide d b2.2.1 z news hi hd hA hD hI hbo (.inr ⟨b1, b2, rfl, e, rfl⟩) hp hr hw0 hw1 hlen (.inr hz) hl0 his
end
-- part T1
section
theorem off_T1 : True := by
  w_top off
  exact trivial
local macro_rules | `(tactic| walk_at "goW") => `(tactic| repeat' (walk_at "u1"))
theorem CtE.use {w : PySem.World} {mean : ExcName → Option Value} {mg mb : PySem.Str → Option Value} {f : Addr} {vs : List Value} {D U : Nat} {news : Led} {R : Led → Prop}
    {dp un : Nat} {gd : Option (List PySem.Code)} {cn : PySem.Str} {cs : PySem.Scope} {a : Addr} {ccd : Value} {outer : List Env} {A₀ : Around} {base h₀ : Heap} {L : Addr} {m : PySem.Str → Option Value} {s : Shared} {Q E : Value → Shared → Prop}
    (B : Below A₀ base outer h₀) (F : Fr h₀ L s.heap m) (X : (top.heap_1 w.params).In h₀) (N : News h₀ L s.heap news) (T : Top top.view_1 (looseW top.view_1 [PySem.Str.ofString "SnobolError"]) mean mg mb h₀) (hk : cs.kind = .function)
    (C : CtE w mean mg mb f vs D U news R) (hroom : dp + D < recursionLimit) (hu : un + U < cLine)
    (err : ∀ e t1 tv news' g₂ h' tk', R news' → Fr h₀ L g₂ m → RaisedSN base g₂ (envX cn cs L a ccd [] :: outer) e (.ref 34) news' h' → g₂.UpToSlots h' → ExcOk e (excM t1 tv) h' → E (.ref e) { s with heap := h', toks := tk' }) :
    wpAny (model PySem.Challenge.rw_rh0229_01.row.prog w) (ktrTop dp un gd cn cs L a ccd [] outer) (call (.ref f) vs) Q E s :=
  C _ _ _ _ _ _ _ _ _ _ _ _ _ _ _ _ B F X N T hk hroom hu err
local macro_rules | `(tactic| walk_at "useE") => `(tactic| (k_here; k_dflt (refine' CtE.use ?k1 ?k2 ?k3 ?k4 ?k5 ?kK ?CC ?kd ?ku ?_; (case CC => assumption); (case k1 => k_asm); (case k2 => k_asm); (case k3 => k_asm); (case k4 => k_asm); (case k5 => k_asm); (case kK => first | exact rfl | assumption); (case kd => k_room); (case ku => k_room); k_whole)))
abbrev OutCol (bs : List BndL) (wide : Nat) (z : Int) : Prop := z < lowOf bs ∨ lowOf bs + wide ≤ z
theorem serr_ct (w : PySem.World) (mean mg mb) {aA dA D I : Addr} {aes : List DictEntry} {ka k ki : Nat} {made : Int} (num z : Int) (tn tc : Tok) {x : PySem.Str} {bs : List BndL} {rss : List (List Value)} {wide : Nat} (d : Bool) {news : Led}
    (H : ArrIn news aA dA D I aes ka k ki made x bs rss wide) (hz : OutCol bs wide z) :
    CtE w mean mg mb 357 [.ref aA, .int z tc, .bool d, .int num tn] 24 260 news (fun n' => n' = news) := by
  obtain ⟨h1, h2, h3, h4, h5, h6, h7, h8, h9, h10, h11, h12, h13, h14⟩ := H
  rcases h7 with ⟨b1, rfl, e⟩ | ⟨b1, b2, rfl, e⟩
  · rcases hz with hz | hz
    · exact serr_ct1 w mean mg mb aA dA D I aes ka k ki made num tn tc x b1 rss wide d z news h1 h2 h3 h4 h5 h6 e h8 h9 h10 h11 h12 hz h13 h14
    · exact serr_ct2 w mean mg mb aA dA D I aes ka k ki made num tn tc x b1 rss wide d z news h1 h2 h3 h4 h5 h6 e h8 h9 h10 h11 h12 hz h13 h14
  · rcases hz with hz | hz
    · exact serr_ct3 w mean mg mb aA dA D I aes ka k ki made num tn tc x b1 b2 rss wide d z news h1 h2 h3 h4 h5 h6 e h8 h9 h10 h11 h12 hz h13 h14
    · exact serr_ct4 w mean mg mb aA dA D I aes ka k ki made num tn tc x b1 b2 rss wide d z news h1 h2 h3 h4 h5 h6 e h8 h9 h10 h11 h12 hz h13 h14
abbrev ErrR (rest : Led) (dW hl : Addr) (hs : Array Value) (nh : Nat) (made : Int) (n' : Led) : Prop :=
  ∃ es' n1, n' = (dW, dictOf es' n1) :: (hl, listOf hs nh) :: rest ∧ WorldOk es' (made + 1) hl
set_option maxHeartbeats 2000000 in
theorem swerr_ct (w : PySem.World) (mean mg mb) (W dW : Addr) (es : List DictEntry) (n : Nat) (made : Int) (hl : Addr) (hs : Array Value) (nh : Nat) (aL : Addr) (nl : Nat) (madeA z : Int) (tc : Tok) {aA dA D I : Addr} {aes : List DictEntry} {ka k ki : Nat} {x : PySem.Str} {bs : List BndL} {rss : List (List Value)} {wide : Nat} (d : Bool) {rest : Led} (hW : WorldOk es made hl)
    (hi : (W, instObj 375 dW) ∈ rest) (ha : (aL, listOf #[.ref aA, .int z tc] nl) ∈ rest) (hne : ∀ p ∈ rest, p.1 ≠ dW)
    (H : ArrIn rest aA dA D I aes ka k ki madeA x bs rss wide) (hz : OutCol bs wide z) :
    CtE w mean mg mb 414 [.ref W, .ref aL, .bool d] 28 300 ((dW, dictOf es n) :: (hl, listOf hs nh) :: rest) (ErrR rest dW hl hs nh made) := by
  unfold CtE
  k_fill
  intro dp un gd cn cs a ccd outer A₀ base h₀ L m s Q E B F X N T hk hroom hu herr
  refine ex1 (hW.width) ?_
  intro t1 hJz
  revert hJz
  intro hw1
  have hdh : dW ≠ hl := obj_ne N (.head _) (.tail _ (.head _)) (by show Value.type "dict" ≠ Value.type "list"; decide)
  refine wpAny_call ?_
  k_dflt ktr_enter
  walk_at "goW"
  have CC := need_int w mean mg mb z tc t1 ((dW, dictOf es n) :: (hl, listOf hs nh) :: rest)
  walk_at "useC"
  intro r9 n9 h9 tk9 hJz
  refine bRP hJz ?_
  clear hJz
  intro hJz
  refine ex1 hJz ?_
  clear hJz
  intro t9 hJz
  refine bR hJz ?_
  clear hJz
  intro F9 N9
  (try clear r9)
  (try clear n9)
  (try clear h9)
  (try clear tk9)
  dsimp only
  walk_at "goW"
  have CC := number_ct w mean mg mb W dW es n made hl ((hl, listOf hs nh) :: rest) hW (.tail _ hi) (List.forall_mem_cons.mpr ⟨hdh.symm, hne⟩)
  walk_at "useC"
  intro r8 n8 h8 tk8 hJz
  refine ex3 hJz ?_
  clear hJz
  intro t8 es8 n18 hJz
  refine bRRP hJz ?_
  clear hJz
  intro W8
  intro F8 N8
  (try clear r8)
  (try clear n8)
  (try clear h8)
  (try clear tk8)
  dsimp only
  walk_at "goW"
  have CD := serr_ct w mean mg mb (made + 1) z t8 t9 d (news := (dW, dictOf es8 n18) :: (hl, listOf hs nh) :: rest) (H.sub fun p hp => .tail _ (.tail _ hp)) hz
  walk_at "useE"
  intro e7 t7 tv7 n7 g7 h7 tk7 r7 F7 R7 u7 x7
  subst r7
  refine leave_pass (by k_asm) F7 R7 u7 x7 ?_
  intro h6 R6 u6 x6
  exact herr _ _ _ _ _ _ _ ⟨es8, n18, rfl, W8⟩ (by k_asm) R6 u6 x6
set_option maxHeartbeats 2000000 in
theorem sorterr_ct (w : PySem.World) (mean mg mb) (W dW : Addr) (es : List DictEntry) (n : Nat) (made : Int) (hl : Addr) (hs : Array Value) (nh : Nat) (aL : Addr) (nl : Nat) (madeA z : Int) (tc : Tok) {aA dA D I : Addr} {aes : List DictEntry} {ka k ki : Nat} {x : PySem.Str} {bs : List BndL} {rss : List (List Value)} {wide : Nat} {rest : Led} (hW : WorldOk es made hl)
    (hi : (W, instObj 375 dW) ∈ rest) (ha : (aL, listOf #[.ref aA, .int z tc] nl) ∈ rest) (hne : ∀ p ∈ rest, p.1 ≠ dW)
    (H : ArrIn rest aA dA D I aes ka k ki madeA x bs rss wide) (hz : OutCol bs wide z) :
    CtE w mean mg mb 421 [.ref W, .ref aL] 30 320 ((dW, dictOf es n) :: (hl, listOf hs nh) :: rest) (ErrR rest dW hl hs nh made) := by
  unfold CtE
  k_fill
  intro dp un gd cn cs a ccd outer A₀ base h₀ L m s Q E B F X N T hk hroom hu herr
  refine wpAny_call ?_
  k_dflt ktr_enter
  walk_at "goW"
  have CD := swerr_ct w mean mg mb W dW es n made hl hs nh aL nl madeA z tc false hW hi ha hne H hz
  walk_at "useE"
  intro e7 t7 tv7 n7 g7 h7 tk7 r7 F7 R7 u7 x7
  refine leave_pass (by k_asm) F7 R7 u7 x7 ?_
  intro h6 R6 u6 x6
  exact herr _ _ _ _ _ _ _ r7 (by k_asm) R6 u6 x6
set_option maxHeartbeats 2000000 in
theorem rsorterr_ct (w : PySem.World) (mean mg mb) (W dW : Addr) (es : List DictEntry) (n : Nat) (made : Int) (hl : Addr) (hs : Array Value) (nh : Nat) (aL : Addr) (nl : Nat) (madeA z : Int) (tc : Tok) {aA dA D I : Addr} {aes : List DictEntry} {ka k ki : Nat} {x : PySem.Str} {bs : List BndL} {rss : List (List Value)} {wide : Nat} {rest : Led} (hW : WorldOk es made hl)
    (hi : (W, instObj 375 dW) ∈ rest) (ha : (aL, listOf #[.ref aA, .int z tc] nl) ∈ rest) (hne : ∀ p ∈ rest, p.1 ≠ dW)
    (H : ArrIn rest aA dA D I aes ka k ki madeA x bs rss wide) (hz : OutCol bs wide z) :
    CtE w mean mg mb 428 [.ref W, .ref aL] 30 320 ((dW, dictOf es n) :: (hl, listOf hs nh) :: rest) (ErrR rest dW hl hs nh made) := by
  unfold CtE
  k_fill
  intro dp un gd cn cs a ccd outer A₀ base h₀ L m s Q E B F X N T hk hroom hu herr
  refine wpAny_call ?_
  k_dflt ktr_enter
  walk_at "goW"
  have CD := swerr_ct w mean mg mb W dW es n made hl hs nh aL nl madeA z tc true hW hi ha hne H hz
  walk_at "useE"
  intro e7 t7 tv7 n7 g7 h7 tk7 r7 F7 R7 u7 x7
  refine leave_pass (by k_asm) F7 R7 u7 x7 ?_
  intro h6 R6 u6 x6
  exact herr _ _ _ _ _ _ _ r7 (by k_asm) R6 u6 x6
end
-- part T2
section
section
variable {prog : PySem.Program} {w : PySem.World} {A₀ A : Around} {s : Shared} {base h₀ : Heap} {L : Addr} {m : PySem.Str → Option Value} {env : Env} {news : Led} {K : Frag} {p : PySem.Program} {loose : List PySem.Str} {mean : ExcName → Option Value} {mg mb : PySem.Str → Option Value}
    {R : PySem.Result → Shared → Prop} {name qual : PySem.Str} {params : Arguments} {body : List PySem.Stmt} {scope : PySem.Scope} {dV kV doc pm cdv ct oc : Value} {an od : Option Addr} {osl : Array (Option Value)} {f : Addr} {args : Args} {binds : List (PySem.Str × Value)}
/-- a def that catches, called from the outermost frame, whatever cells that frame has -/
theorem code_defL (B : Below A₀ base [] h₀) (F : Fr h₀ L s.heap m) (X₀ : K.In h₀) (N : News h₀ L s.heap news) (T : Top p loose mean mg mb h₀) (hA : A.frames = some [env]) (hfr : env.frame = some L) (hck : env.scope.kind = .function)
    (ho : K.lookup f = some ⟨oc, od, .func (fnOf name qual params body scope dV kV doc pm an cdv ct), osl⟩) (hcd : codeIn K cdv qual = true) (hroom : A.depth < recursionLimit)
    (hbind : BindsTo s (fnOf name qual params body scope dV kV doc pm an cdv ct) args binds) (hloc : ∀ y ∈ binds, scope.names.lookup y.1 = some .local)
    (h : ∀ g L' h₁, Fr h₀ L g m → Fr g L' h₁ (fun y => binds.reverse.lookup y) → News g L' h₁ news → Below A base [env] g → K.In g → Top p loose mean mg mb g → KtsDicts [L] g →
      wpAny (model prog w) (A.deeper (envOf qual scope L' f cdv)) (execs body (envOf qual scope L' f cdv))
        (fun fl s' => LeaveS0 [L] h₀ L m g R (match fl with | .ret v => v | _ => .none) s')
        (fun e s' => wpAny (model prog w) (A.deeper (envOf qual scope L' f cdv)) (leaving (envOf qual scope L' f cdv) e) (fun _ s'' => R (.error e) s'') (fun e' s'' => R (.error e') s'') s')
        { s with heap := h₁, toks := s.toks + binds.length })
    (hco : scope.isCoroutine = false) (hgen : scope.isGenerator = false) (hk : scope.kind = .function)
    (hcell : ∀ x ∈ scope.names, x.2 ≠ .cell) : codeAny (model prog w) A (.call (.ref f) args) R s := by
  have X := X₀.keeps F.keep
  refine codeAny_call_def (fd := fnOf name qual params body scope dV kV doc pm an cdv ct) (body := body) (binds := binds) hroom (X _ _ ho) rfl (T.nolimit.keeps F.keep) (codeRec_of X hcd) rfl hbind hcell hloc (fun h₁ hns hk₁ => ?_) hco hgen hk
  refine bPPPP (groundX (R := R) B F N hA hfr hck) ?_
  intro FG B₂ st _
  refine ex3 (FG.ns) ?_
  intro oL es ep hJz
  refine bPPPP hJz ?_
  clear hJz
  intro hLg hLd hLk hLf
  refine wpAny_mono (h _ s.heap.objs.size h₁ FG ⟨hns, fun b o e => hk₁ b o (of_hideAll _ e), Nat.le_of_eq (hideAll_size _ _)⟩
    (fun p hp => ⟨hk₁ _ _ (N p hp).1, Nat.ne_of_lt (Heap.lt_size (N p hp).1), hideAll_none _ (List.mem_map_of_mem hp)⟩) B₂ (X₀.keeps st) (T.keeps st) (fun b hb => by
      rcases List.mem_singleton.mp hb with rfl
      exact ⟨oL, es, ep, hLg, hLd⟩)) (fun fl s' hl => ?_) fun _ _ y => y
  refine ex4 hl ?_
  intro g' L' m' news' hJz
  refine bPPPP hJz ?_
  clear hJz
  intro T' F' N' k
  (try clear hl)
  have nL₀ : h₀.get? L = none := kts_self F
  refine ex1 (T'.up hLg) ?_
  intro sl hJz
  revert hJz
  intro hs
  refine k ⟨⟨_, es, ep, F'.keep _ _ hs, hLd, hLk, hLf⟩, fun b o e => F'.keep b o (T'.other b o (st b o e) (fun q => by
    rcases List.mem_singleton.mp q with rfl
    rw [nL₀] at e
    cases e)), F.above⟩ fun p hp => ⟨(N' p hp).1, fun q => ?_, ?_⟩
  · have := (N' p hp).2.2; rw [q, hs] at this; cases this
  · cases q : h₀.get? p.1 with
    | none => rfl
    | some o =>
      refine ex1 (T'.up (st _ _ q)) ?_
      intro sl' hJz
      revert hJz
      intro hs'
      have := (N' p hp).2.2
      rw [hs'] at this
      cases this
end
end
-- part T3
section
theorem ExcOk.but {e L : Addr} {mE m : PySem.Str → Option Value} {h h' : Heap} (x : ExcOk e mE h) (hn : h.Ns L m) {y : PySem.Str} {v : Value} (hy : mE y = some v) (hm : m y = none) (hs : Heap.SameBut L h h') : ExcOk e mE h' := by
  obtain ⟨o, dx, vs, ho, hc, hd, hdx, hne, od, es, ep, hod, hdd, hk, hu, hf⟩ := x
  refine ex3 hn ?_
  intro oL esL epL hJz
  refine bPPPP hJz ?_
  clear hJz
  intro hLo hLd hLk hLf
  (try clear hn)
  have h1 : e ≠ L := fun q => by
    rw [q, hLo] at ho
    cases ho
    rw [hLd] at hd
    cases hd
  have h2 : dx ≠ L := fun q => by
    rw [q, hLo] at hod
    cases hod
    rw [hLd] at hdd
    cases hdd
    have := (hf y).symm.trans (hLf y)
    rw [hy, hm] at this
    cases this
  exact ⟨o, dx, vs, (hs.2 e h1).trans ho, hc, hd, hdx, hne, od, es, ep, (hs.2 dx h2).trans hod, hdd, hk, hu, hf⟩
theorem exc_name (w : PySem.World) : nsIn (top.heap_1 w.params) mainGlobals "SnobolError" = some (some (.ref 34)) := by kernel_rfl
section
variable {prog : PySem.Program} {w : PySem.World} {A₀ : Around} {E : Value → Shared → Prop} {s' : Shared} {base g G h₀ : Heap} {outer : List Env} {L a e : Addr} {m : PySem.Str → Option Value} {name : PySem.Str} {scope : PySem.Scope} {cd : Value}
  {n : PySem.Str} {b₀ : PySem.Stmt} {suite : List PySem.Stmt} {pos np : Pos} {rest : List ExceptHandler} {Q : Flow → Shared → Prop} {news : Led}
  {p : PySem.Program} {loose : List PySem.Str} {mean : ExcName → Option Value} {mg mb : PySem.Str → Option Value} {mE : PySem.Str → Option Value}
theorem caught_exc (R : RaisedSN base G (envOf name scope L a cd :: outer) e (.ref 34) news s'.heap) (F : Fr g L G m) (K : Below A₀ base outer g) (hsm : G.UpToSlots s'.heap) (hxE : ExcOk e mE s'.heap)
    (X₀ : (top.heap_1 w.params).In h₀) (T₀ : Top p loose mean mg mb h₀) (st : h₀.StaysIn g) (hf : ∀ b ∈ outer.filterMap (·.frame), h₀.get? b = none)
    {y : PySem.Str} {v : Value} (hy : mE y = some v) (hm : m y = none)
    (k : ∀ h' g' tk, KtsTurn (outer.filterMap (·.frame)) g g' → Fr g' L h' (fun y => if y = n then some (.ref e) else m y) → News g' L h' news → Below A₀ base outer g' → (top.heap_1 w.params).In g' → Top p loose mean mg mb g' → ExcOk e mE h' →
      wpAny (model prog w) ((A₀.deeper (envOf name scope L a cd)).mark (some (.ref e))) (execs (b₀ :: suite) (envOf name scope L a cd))
        (fun f s₄ => wpAny (model prog w) (A₀.deeper (envOf name scope L a cd)) (do bindName (envOf name scope L a cd) n .none; unbindBehindTheSuite (envOf name scope L a cd) n pos) (fun _ s₅ => Q f s₅) E s₄)
        (AsSuiteRaised (model prog w) ((A₀.deeper (envOf name scope L a cd)).mark (some (.ref e))) (envOf name scope L a cd) n pos (notedBy (model prog w) ((A₀.deeper (envOf name scope L a cd)).mark (some (.ref e))) (envOf name scope L a cd) (cameBackBy (model prog w) (A₀.deeper (envOf name scope L a cd)) (envOf name scope L a cd) E)))
        { s' with heap := h', toks := tk })
    (hk : scope.kind = .function := by rfl) (hlo : (envOf name scope L a cd).kindOf n = some .local := by rfl) (hx : (envOf name scope L a cd).kindOf "SnobolError" = some .globalImplicit := by rfl) :
    wpAny (model prog w) (A₀.deeper (envOf name scope L a cd)) (noteFrame (.ref e) (envOf name scope L a cd))
      (fun _ s₂ => wpAny (model prog w) (A₀.deeper (envOf name scope L a cd)) (setFlight (.ref e) none) (fun _ s₃ =>
        wpAny (model prog w) (A₀.deeper (envOf name scope L a cd)) (handleBy (.ref e) (envOf name scope L a cd) (.ExceptHandler (some (.Name "SnobolError" np)) (some n) (b₀ :: suite) pos :: rest)) Q E s₃) E s₂) E s' := by
  refine ex2 R ?_
  intro B a0 hJz
  refine bPPPP hJz ?_
  clear hJz
  intro hB hBG hl hfl
  (try clear R)
  have hL : B.get? L = none := by
    obtain ⟨_, ⟨L', _, hf, hn', _⟩, _⟩ := hfl.2.2.1
    obtain rfl : L = L' := Option.some.inj hf
    exact hn'
  have H1 : wpAny (model prog w) (A₀.deeper (envOf name scope L a cd)) (noteFrame (.ref e) (envOf name scope L a cd)) (fun _ s'' => ∃ h₄, s'' = { s' with heap := h₄ } ∧ Heap.HeldW B (envOf name scope L a cd :: outer) e (.ref 34) a0 L h₄ ∧ s'.heap.UpToSlots h₄) E s' :=
    wpAny_looks_onW (Around.frames_deeper K.stack) rfl hfl fun h₄ z1 z2 => ⟨h₄, rfl, z1, z2⟩
  refine wpAny_mono (DK.any (DK.noteFrame _ _) H1 hxE) (fun _ s₂ hs₂ => ?_) fun _ _ z => z.1
  obtain ⟨⟨h₄, rfl, hheld₄, hsm₄⟩, hx₄⟩ := hs₂
  have H2 : wpAny (model prog w) (A₀.deeper (envOf name scope L a cd)) (setFlight (.ref e) none) (fun _ s'' => ∃ h₅, s'' = { s' with heap := h₅ } ∧ Heap.FlyingW B (envOf name scope L a cd :: outer) e (.ref 34) a0 h₅ ∧ h₄.UpToSlots h₅) E { s' with heap := h₄ } :=
    wpAny_landsW hheld₄ fun h₅ z1 z2 => ⟨h₅, rfl, z1, z2⟩
  refine wpAny_mono (DK.any (DK.setFlight _ _) H2 hx₄) (fun _ s₂ hs₂ => ?_) fun _ _ z => z.1
  obtain ⟨⟨h₅, rfl, hheld, hsm₅'⟩, hx₅⟩ := hs₂
  have hsm₅ := hsm₄.trans hsm₅'
  refine ex1 (kts_ground K F hBG hheld.1 (hsm.trans hsm₅)) ?_
  intro g₅ hJz
  refine bPPP hJz ?_
  clear hJz
  intro T₅ F₅ K₅
  have keep : ∀ {g' : Heap}, KtsTurn (outer.filterMap (·.frame)) g g' → ∀ b o, h₀.get? b = some o → g'.get? b = some o := fun T b o z => T.other b o (st b o z) fun hm => by
    rw [hf b hm] at z; cases z
  have X₅ : (top.heap_1 w.params).In g₅ := X₀.keeps (keep T₅)
  have P₅ : TopRead p loose mg mb g₅ := topRead_of (T₀.keeps (keep T₅))
  refine ex1 (hheld.there) ?_
  intro ob hJz
  refine bPP hJz ?_
  clear hJz
  intro hob hobc
  have hC₅ : h₅.get? 34 = some (excClassObj _ _ 34 _ _ [.type "Exception", .type "BaseException", .type "object"] _ _ _ _ _ _ _ _ _ _ _ _) := F₅.keep _ _ (X₅ 34 _ (by with_unfolding_all rfl))
  refine wpAny_handleBy_cons (codeAny_handlers_test (name_K F₅ X₅ P₅ (exc_name w) ?_ hk hx (by decide))) (by intro q; cases q)
  refine wpAny_excMatches_sub_self hC₅ hob hobc (by decide) (codeAny_handlers_suite_as ?_)
  have H3 : wpAny (model prog w) ((A₀.deeper (envOf name scope L a cd)).mark (some (.ref e))) (setFlight (.ref e) none) (fun _ s'' => ∃ h₆, s'' = { s' with heap := h₆ } ∧ Heap.FlyingW B (envOf name scope L a cd :: outer) e (.ref 34) a0 h₆ ∧ h₅.UpToSlots h₆) (fun _ _ => False) { s' with heap := h₅ } :=
    lands_againW hheld fun h₆ z1 z2 => ⟨h₆, rfl, z1, z2⟩
  refine wpAny_mono (DK.any (DK.setFlight _ _) H3 hx₅) (fun _ s₂ hs₂ => ?_) fun _ _ z => False.elim z.1
  obtain ⟨⟨h₆, rfl, hfl₆, hsm₆⟩, hx₆⟩ := hs₂
  refine ex1 (kts_ground K F hBG hfl₆.1 ((hsm.trans hsm₅).trans hsm₆)) ?_
  intro g₆ hJz
  refine bPPP hJz ?_
  clear hJz
  intro T₆ F₆ K₆
  have Nl : News g₆ L h₆ news := fun q hq => ⟨hfl₆.1 _ _ (hl q hq).1, (fun z => by have := (hl q hq).1; rw [z, hL] at this; cases this), T₆.none_ _ (kts_none F.keep (hl q hq).2.1)⟩
  refine wpAny_storeName_local hlo F₆.ns (fun h' hn hs => ?_) (by show (scope.kind == .class || (scope.kind == .module && L != mainGlobals)) = false; rw [hk]; rfl)
  exact k h' g₆ _ T₆ (F₆.set hn hs) (Nl.set hs) K₆ (X₀.keeps (keep T₆)) (T₀.keeps (keep T₆)) (hx₆.but F₆.ns hy hm hs)
end
end
-- part T4
section
open PySem.Builtin PySem.Builtin.ObjectAttr
theorem exc_ga (w : PySem.World) : findIn (top.heap_1 w.params) (.ref 34) "__getattribute__" = some (some (.builtin "BaseException.__getattribute__")) := by kernel_rfl
theorem exc_noga (w : PySem.World) : findIn (top.heap_1 w.params) (.ref 34) "__getattr__" = some none := by kernel_rfl
theorem exc_mroB (w : PySem.World) : mroIn (top.heap_1 w.params) 34 (.type "BaseException") = some true := by kernel_rfl
theorem exc_dict (w : PySem.World) : hasDictIn (top.heap_1 w.params) 34 = true := by kernel_rfl
theorem lookIn_ns {es : Array DictEntry} {n : PySem.Str} {v : Value} (h : nsFind es n = some v) {od : Obj} {ep : Nat} (hd : od.data = .dict es ep) : lookIn n od = some (some v) := by
  unfold lookIn
  rw [hd]
  dsimp only
  unfold nsFind findBy at h
  rw [← Array.find?_toList] at h
  cases q : es.toList.find? (fun e => e.key.isStr n) with
  | none => rw [q] at h; cases h
  | some en => rw [q] at h; cases h; rfl
section
variable {prog : PySem.Program} {w : PySem.World} {A : Around} {E : Value → Shared → Prop}
theorem exc_get {s : Shared} {e : Addr} {mE : PySem.Str → Option Value} {i : Int} {tk : Tok} {expr : Bool} {Q : Value → Shared → Prop} (X : (top.heap_1 w.params).In s.heap) (x : ExcOk e mE s.heap) (hm : mE (PySem.Str.ofString "number") = some (.int i tk)) (h : Q (.int i tk) { s with toks := s.toks + 1 }) :
    wpAny (model prog w) A (getAttr (.ref e) (PySem.Str.ofString "number") expr) Q E s := by
  obtain ⟨o, dx, vs, ho, hc, hdt, hdx, hne, od, es, ep, hod, hdd, hk, hu, hf⟩ := x
  have I : InstAt s.heap e o 34 (some od) := ⟨ho, hc, by unfold notCls; rw [hdt], by rw [hdx]; exact hod⟩
  have hfo : findObj (top.heap_1 w.params) 34 (some od) (PySem.Str.ofString "number") = some (.value (.int i tk)) := findObj_own (exc_dict w) (exc_num w) rfl (lookIn_ns ((hf _).trans hm) hdd)
  obtain ⟨hp, g, d, t, os⟩ := s
  dsimp only at X I h
  have FB := PySem.F.attrBase_Exception
  have L0 := I.type (M := model prog w)
  have L1 := looks_findIn (M := model prog w) X (exc_ga w)
  have L2 := looks_findIn (M := model prog w) X (exc_noga w)
  have L3 := looks_find (M := model prog w) X I hfo
  have sub : Looks (model prog w) hp (isInstance (.ref e) (.type "BaseException")) true := I.type.andThen (looks_mroIn X (exc_mroB w))
  unfold getAttr getAttrBy
  refine wpAny_bind (wpAny_mkText (wpAny_holding (wpAny_bind (L0.at (wpAny_bind (L1.at ?_))))))
  show wpAny _ _ (getAttrByItsOwn (.ref e) (.str (PySem.Str.ofString "number") t) (.ref 34) (.builtin "BaseException.__getattribute__") true expr) _ _ _
  unfold getAttrByItsOwn hookBefore callGetattribute boundAndCalled
  refine wpAny_bind ?_
  rw [if_pos (by rfl)]
  refine L2.at ?_
  refine wpAny_bind (wpAny_attempt (wpAny_holding ?_))
  rw [if_neg (by cases expr <;> decide)]
  refine wpAny_bind (wpAny_of_eq (FB.ga.bind _) ?_)
  refine wpAny_mono (Q := fun v s' => v = .int i tk ∧ s' = ⟨hp, g, d, t + 1, os⟩) (E := fun _ _ => False) (wpAny_call (codeAny_call_builtin FB.ga.plain PySem.F.entry_bexc_ga (@check_slot (model prog w) _ _ ⟨hp, g, d, t + 1, os⟩ "BaseException.__getattribute__" "BaseException" "__getattribute__" (.ref e) [.str (PySem.Str.ofString "number") t] [] _ (by decide +kernel) (by decide +kernel) sub (PySem.F.args_bexc_ga (.ref e) _) ?_))) (fun v s' hv => ?_) fun _ _ z => z.elim
  · unfold Builtin.«object.__getattribute__»
    refine wpAny_bind (wpAny_of_eq (a := (Value.ref e, [Value.str (PySem.Str.ofString "number") t])) (by rfl) ?_)
    dsimp only
    refine wpAny_bind (wpAny_of_eq (a := PySem.Str.ofString "number") (by rfl) ?_)
    refine wpAny_bind (L0.at (wpAny_bind (L3.at ?_)))
    exact wpAny_pure ⟨rfl, rfl⟩
  · refine bPP hv ?_
    intro hEq1 hEq2
    subst hEq1
    subst hEq2
    (try clear hv)
    show wpAny _ _ (handedOut (.int i tk)) _ _ _
    rw [handedOut_of rfl]
    exact wpAny_pure h
end
end
-- part T5
section
theorem off_T5 : True := by
  w_top off
  exact trivial
local macro_rules | `(tactic| walk_at "goW") => `(tactic| repeat' (walk_at "u1"))
local macro_rules | `(tactic| walk_at "useE") => `(tactic| (k_here; k_dflt (refine' CtE.use ?k1 ?k2 ?k3 ?k4 ?k5 ?kK ?CC ?kd ?ku ?_; (case CC => assumption); (case k1 => k_asm); (case k2 => k_asm); (case k3 => k_asm); (case k4 => k_asm); (case k5 => k_asm); (case kK => first | exact rfl | assumption); (case kd => k_room); (case ku => k_room); k_whole)))
local macro_rules | `(tactic| walk_at "goV") => `(tactic| repeat' (walk_at "u1"))
local macro_rules | `(tactic| walk_at "getAttr ref") => `(tactic| (k_here; k_dflt (refine' exc_get ?X ?x ?m ?_; (case x => assumption); (case X => assumption); (case m => exact rfl); k_whole)))
theorem led_no3 {h₀ h : Heap} {L : Addr} {a b c : Addr × Obj} {r : Led} (N : News h₀ L h (a :: b :: c :: r)) : News h₀ L h (a :: b :: r) := cb_drop N (fun p hp => by
  simp only [List.mem_cons] at hp ⊢
  rcases hp with rfl | rfl | hp
  · exact .inl rfl
  · exact .inr (.inl rfl)
  · exact .inr (.inr (.inr hp)))
theorem led_three {h₀ h : Heap} {L : Addr} {a b c : Addr × Obj} {r : Led} (N : News h₀ L h (a :: b :: c :: r)) : News h₀ L h (b :: c :: a :: r) := cb_drop N (fun p hp => by
  simp only [List.mem_cons] at hp ⊢
  rcases hp with rfl | rfl | rfl | hp
  · exact .inr (.inl rfl)
  · exact .inr (.inr (.inl rfl))
  · exact .inl rfl
  · exact .inr (.inr (.inr hp)))
set_option maxHeartbeats 2000000 in
theorem refused_sort (w : PySem.World) (mean mg mb) (W dW : Addr) (es : List DictEntry) (n : Nat) (made : Int) (hl : Addr) (hs : Array Value) (nh : Nat) (madeA z : Int) (tc : Tok) {aA dA D I : Addr} {aes : List DictEntry} {ka k ki : Nat} {x : PySem.Str} {bs : List BndL} {rss : List (List Value)} {wide : Nat} {rest : Led} (hW : WorldOk es made hl)
    (hi : (W, instObj 375 dW) ∈ rest) (hne : ∀ p ∈ rest, p.1 ≠ dW)
    (H : ArrIn rest aA dA D I aes ka k ki madeA x bs rss wide) (hz : OutCol bs wide z)
    (dp un : Nat) (gd : Option (List PySem.Code)) (cn : PySem.Str) (cs : PySem.Scope) (a : Addr) (ccd : Value) (cl : List (PySem.Str × Addr)) (A₀ : Around) (base h₀ : Heap) (L : Addr) (m : PySem.Str → Option Value) (s : Shared) (Q E : Value → Shared → Prop)
    (B : Below A₀ base [] h₀) (F : Fr h₀ L s.heap m) (X : (top.heap_1 w.params).In h₀) (N : News h₀ L s.heap ((dW, dictOf es n) :: (hl, listOf hs nh) :: rest)) (T : Top top.view_1 (looseW top.view_1 [PySem.Str.ofString "SnobolError"]) mean mg mb h₀) (hk : cs.kind = .function) (hroom : dp + 40 < recursionLimit) (hu : un + 400 < cLine)
    (hret : ∀ t es' n1 h' tk', WorldOk es' (made + 1) hl → Fr h₀ L h' m → News h₀ L h' ((dW, dictOf es' n1) :: (hl, listOf hs nh) :: rest) → Q (.int 10 t) { s with heap := h', toks := tk' }) :
    wpAny (model PySem.Challenge.rw_rh0229_01.row.prog w) (ktrTop dp un gd cn cs L a ccd cl []) (call (.ref 456) [.ref 421, .ref W, .ref aA, .int z tc]) Q E s := by
  revert X
  k_fill
  intro X
  refine wpAny_call ?_
  refine' code_defL ?k1 ?k2 ?k3 ?k4 ?k5 ?kA ?kF ?kK ?k6 ?k7 ?k8 ?k9 ?kB ?_ ?c1 ?c2 ?c3 ?c4
  case kA => exact rfl
  case kF => exact rfl
  case kK => first | exact rfl | assumption
  case k1 => k_asm
  case k2 => k_asm
  case k3 => k_asm
  case k4 => k_asm
  case k5 => k_asm
  case k6 => k_is
  case k7 => k_is
  case k8 => k_room
  case k9 => first | exact BindsTo.of_eq rfl | exact binds_K (by k_in) rfl (by k_is) rfl rfl rfl
  case kB => exact locs rfl
  case c1 => exact rfl
  case c2 => exact rfl
  case c3 => exact rfl
  case c4 => decide
  intro g' L' h' FG' F' N' B' X' T' D'
  (try dsimp only)
  refine Mine.tok_any' ?_
  intro tk0
  walk_at "goV"
  rename News _ _ _ _ => N1
  rename _ < _ ∧ _ < _ ∧ AllLt _ rest => l1
  refine' Mine.CtE.use ?zk1 ?zk2 ?zk3 (led_three N1) ?zk5 (by first | exact rfl | assumption) (sorterr_ct w mean mg mb W dW es n made hl hs nh _ 0 madeA z tc hW (.tail _ hi) (.head _) (List.forall_mem_cons.mpr ⟨Nat.ne_of_gt l1.1, hne⟩) (H.sub fun p hp => .tail _ hp) hz) ?zkd ?zku ?_
  case zk1 => k_asm
  case zk2 => k_asm
  case zk3 => k_asm
  case zk5 => k_asm
  case zkd => k_room
  case zku => k_room
  intro e7 t7 tv7 n7 g7 h7 tk7 hJz
  refine ex2 hJz ?_
  clear hJz
  intro es7 n17 hJz
  refine bRP hJz ?_
  clear hJz
  intro W7
  intro F7 R7 u7 x7
  (try clear e7)
  (try clear t7)
  (try clear tv7)
  (try clear n7)
  (try clear g7)
  (try clear h7)
  (try clear tk7)
  refine caught_exc (h₀ := h₀) R7 F7 B' u7 x7 X T FG'.keep (fun b hb => by rcases List.mem_singleton.mp hb with rfl; exact kts_self FG') (y := PySem.Str.ofString "number") (v := .int 10 t7) rfl rfl ?_
  intro h8 g8 tk8 T8 F8 N8 B8 X8 P8 x8
  dsimp only
  have XX := X8.keeps F8.keep
  walk_at "goV"
  rename News _ _ _ _ => N9
  rename Fr _ _ _ _ => F9
  exact hret _ es7 n17 _ _ W7 F9 (led_no3 N9)
set_option maxHeartbeats 2000000 in
theorem refused_rsort (w : PySem.World) (mean mg mb) (W dW : Addr) (es : List DictEntry) (n : Nat) (made : Int) (hl : Addr) (hs : Array Value) (nh : Nat) (madeA z : Int) (tc : Tok) {aA dA D I : Addr} {aes : List DictEntry} {ka k ki : Nat} {x : PySem.Str} {bs : List BndL} {rss : List (List Value)} {wide : Nat} {rest : Led} (hW : WorldOk es made hl)
    (hi : (W, instObj 375 dW) ∈ rest) (hne : ∀ p ∈ rest, p.1 ≠ dW)
    (H : ArrIn rest aA dA D I aes ka k ki madeA x bs rss wide) (hz : OutCol bs wide z)
    (dp un : Nat) (gd : Option (List PySem.Code)) (cn : PySem.Str) (cs : PySem.Scope) (a : Addr) (ccd : Value) (cl : List (PySem.Str × Addr)) (A₀ : Around) (base h₀ : Heap) (L : Addr) (m : PySem.Str → Option Value) (s : Shared) (Q E : Value → Shared → Prop)
    (B : Below A₀ base [] h₀) (F : Fr h₀ L s.heap m) (X : (top.heap_1 w.params).In h₀) (N : News h₀ L s.heap ((dW, dictOf es n) :: (hl, listOf hs nh) :: rest)) (T : Top top.view_1 (looseW top.view_1 [PySem.Str.ofString "SnobolError"]) mean mg mb h₀) (hk : cs.kind = .function) (hroom : dp + 40 < recursionLimit) (hu : un + 400 < cLine)
    (hret : ∀ t es' n1 h' tk', WorldOk es' (made + 1) hl → Fr h₀ L h' m → News h₀ L h' ((dW, dictOf es' n1) :: (hl, listOf hs nh) :: rest) → Q (.int 10 t) { s with heap := h', toks := tk' }) :
    wpAny (model PySem.Challenge.rw_rh0229_01.row.prog w) (ktrTop dp un gd cn cs L a ccd cl []) (call (.ref 456) [.ref 428, .ref W, .ref aA, .int z tc]) Q E s := by
  revert X
  k_fill
  intro X
  refine wpAny_call ?_
  refine' code_defL ?k1 ?k2 ?k3 ?k4 ?k5 ?kA ?kF ?kK ?k6 ?k7 ?k8 ?k9 ?kB ?_ ?c1 ?c2 ?c3 ?c4
  case kA => exact rfl
  case kF => exact rfl
  case kK => first | exact rfl | assumption
  case k1 => k_asm
  case k2 => k_asm
  case k3 => k_asm
  case k4 => k_asm
  case k5 => k_asm
  case k6 => k_is
  case k7 => k_is
  case k8 => k_room
  case k9 => first | exact BindsTo.of_eq rfl | exact binds_K (by k_in) rfl (by k_is) rfl rfl rfl
  case kB => exact locs rfl
  case c1 => exact rfl
  case c2 => exact rfl
  case c3 => exact rfl
  case c4 => decide
  intro g' L' h' FG' F' N' B' X' T' D'
  (try dsimp only)
  refine Mine.tok_any' ?_
  intro tk0
  walk_at "goV"
  rename News _ _ _ _ => N1
  rename _ < _ ∧ _ < _ ∧ AllLt _ rest => l1
  refine' Mine.CtE.use ?zk1 ?zk2 ?zk3 (led_three N1) ?zk5 (by first | exact rfl | assumption) (rsorterr_ct w mean mg mb W dW es n made hl hs nh _ 0 madeA z tc hW (.tail _ hi) (.head _) (List.forall_mem_cons.mpr ⟨Nat.ne_of_gt l1.1, hne⟩) (H.sub fun p hp => .tail _ hp) hz) ?zkd ?zku ?_
  case zk1 => k_asm
  case zk2 => k_asm
  case zk3 => k_asm
  case zk5 => k_asm
  case zkd => k_room
  case zku => k_room
  intro e7 t7 tv7 n7 g7 h7 tk7 hJz
  refine ex2 hJz ?_
  clear hJz
  intro es7 n17 hJz
  refine bRP hJz ?_
  clear hJz
  intro W7
  intro F7 R7 u7 x7
  (try clear e7)
  (try clear t7)
  (try clear tv7)
  (try clear n7)
  (try clear g7)
  (try clear h7)
  (try clear tk7)
  refine caught_exc (h₀ := h₀) R7 F7 B' u7 x7 X T FG'.keep (fun b hb => by rcases List.mem_singleton.mp hb with rfl; exact kts_self FG') (y := PySem.Str.ofString "number") (v := .int 10 t7) rfl rfl ?_
  intro h8 g8 tk8 T8 F8 N8 B8 X8 P8 x8
  dsimp only
  have XX := X8.keeps F8.keep
  walk_at "goV"
  rename News _ _ _ _ => N9
  rename Fr _ _ _ _ => F9
  exact hret _ es7 n17 _ _ W7 F9 (led_no3 N9)
end
-- part Ua
section
abbrev ofInt (n : Int) : PySem.Str := PySem.Str.ofString (toString n)
abbrev told1 (many : Int) : PySem.Str := ofInt many
abbrev told2 (many low high : Int) : PySem.Str := ofInt many ++ PySem.Str.ofString "," ++ ofInt low ++ PySem.Str.ofString ":" ++ ofInt high
abbrev part2 (low high : Int) : PySem.Str := ofInt low ++ PySem.Str.ofString ":" ++ ofInt high
theorem split2 : ∀ a ∈ [(1 : Int), 2, 3, 4], ∀ b ∈ [(-2 : Int), -1, 0, 1, 2, 3], ∀ c ∈ [(0 : Int), 1, 2], Txt.split (told2 a b (b + c)) (PySem.Str.ofString ",") = [ofInt a, part2 b (b + c)] ∧ (told2 a b (b + c)).length ≤ 1000 := by decide +kernel
theorem split1 : ∀ a ∈ [(1 : Int), 2, 3, 4], Txt.split (ofInt a) (PySem.Str.ofString ",") = [ofInt a] ∧ (ofInt a).length ≤ 1000 ∧ Txt.split (ofInt a) (PySem.Str.ofString ":") = [ofInt a] := by decide +kernel
theorem split3 : ∀ b ∈ [(-2 : Int), -1, 0, 1, 2, 3], ∀ c ∈ [(0 : Int), 1, 2], Txt.split (part2 b (b + c)) (PySem.Str.ofString ":") = [ofInt b, ofInt (b + c)] ∧ (part2 b (b + c)).length ≤ 1000 := by decide +kernel
structure Told (x : PySem.Str) (ps : List PartL) (low : Int) (wide many : Nat) : Prop where
  sp : Txt.split x (PySem.Str.ofString ",") = ps.map (·.1)
  z : x.length ≤ 1000
  ok : ∀ p ∈ ps, PartOk p
  len : ps.length < 100
  szs : ∀ p ∈ ps, 0 ≤ p.2.2 - p.2.1 + 1 ∧ p.2.2 - p.2.1 + 1 < 100
  prod : ((ps.map (·.2)).foldl (fun (a : Int) (p : Int × Int) => a * (p.2 - p.1 + 1)) 1) = ((many * wide : Nat) : Int)
  shape : (ps.map (·.2) = [(1, (many : Int))] ∧ wide = 1 ∧ low = 1) ∨ ps.map (·.2) = [(1, (many : Int)), (low, low + wide - 1)]
  w0 : 1 ≤ wide
  w1 : wide ≤ 3
  m0 : 1 ≤ many
  m1 : many ≤ 4
  l0 : -2 ≤ low
  l1 : low ≤ 3
theorem told_one {many : Nat} (h0 : 1 ≤ many) (h1 : many ≤ 4) : Told (told1 many) [(told1 many, 1, (many : Int))] 1 1 many := by
  have hm := om_m4 h0 h1
  refine bPPP (split1 _ hm) ?_
  intro s1 s2 s3
  refine ⟨s1, s2, ?_, Nat.le_of_ble_eq_true rfl, ?_, ?_, .inl ⟨rfl, rfl, rfl⟩, Nat.le_refl _, by decide, h0, h1, by decide, by decide⟩
  · intro p hp
    rw [List.mem_singleton.mp hp]
    exact ⟨s2, Int.ofNat_le.mpr h0, .inl ⟨s3, num_of (om_n2 _) (om_n5 h1), rfl⟩⟩
  · intro p hp
    rw [List.mem_singleton.mp hp]
    exact om_s1 h1
  · exact (om_p1 many).trans (by rw [Nat.mul_one])
theorem told_two {many wide : Nat} {low high : Int} (h0 : 1 ≤ many) (h1 : many ≤ 4) (w0 : 1 ≤ wide) (w1 : wide ≤ 3) (l0 : -2 ≤ low) (l1 : low ≤ 3) (hh : high = low + wide - 1) : Told (told2 many low high) [(ofInt many, 1, (many : Int)), (part2 low high, low, low + wide - 1)] low wide many := by
  have hm := om_m4 h0 h1
  have hl := om_m6 l0 l1
  have hw := om_m3 w0 w1
  have he : high = low + ((wide : Int) - 1) := hh.trans (Int.add_sub_assoc ..)
  refine bPPP (split1 _ hm) ?_
  intro s1 s2 s3
  refine bPP (split2 _ hm _ hl _ hw) ?_
  intro s4 s5
  refine bPP (split3 _ hl _ hw) ?_
  intro s6 s7
  rw [← he] at s4 s5 s6 s7
  refine ⟨s4, s5, ?_, Nat.le_of_ble_eq_true rfl, ?_, ?_, .inr rfl, w0, w1, h0, h1, l0, l1⟩
  · intro p hp
    rcases List.mem_cons.mp hp with rfl | hp
    · exact ⟨s2, Int.ofNat_le.mpr h0, .inl ⟨s3, num_of (om_n2 _) (om_n5 h1), rfl⟩⟩
    · rw [List.mem_singleton.mp hp]
      refine ⟨s7, om_lw w0, .inr ⟨ofInt low, ofInt high, s6, num_of l0 (Int.le_trans l1 (by decide)), ?_⟩⟩
      show Num (ofInt high) (low + wide - 1)
      rw [← hh]
      exact num_of (hh ▸ Int.le_trans l0 (om_lw w0)) (hh ▸ om_hi l1 w1)
  · intro p hp
    rcases List.mem_cons.mp hp with rfl | hp
    · exact om_s1 h1
    · rw [List.mem_singleton.mp hp]
      exact om_s2 w1
  · show (1 : Int) * (many - 1 + 1) * (low + wide - 1 - low + 1) = _
    rw [om_p1, om_w]
    push_cast
    rfl
theorem map_one {α β : Type} {f : α → β} {l : List α} {a : β} (h : l.map f = [a]) : ∃ x, l = [x] ∧ f x = a := by
  cases l with
  | nil => cases h
  | cons x t =>
    simp only [List.map_cons, List.cons.injEq, List.map_eq_nil_iff] at h
    exact ⟨x, by rw [h.2], h.1⟩
theorem map_two {α β : Type} {f : α → β} {l : List α} {a b : β} (h : l.map f = [a, b]) : ∃ x y, l = [x, y] ∧ f x = a ∧ f y = b := by
  cases l with
  | nil => cases h
  | cons x t =>
    simp only [List.map_cons, List.cons.injEq] at h
    refine ex1 (map_one h.2) ?_
    intro y hJz
    refine bPP hJz ?_
    clear hJz
    intro hy e
    exact ⟨x, y, by rw [hy], h.1, e⟩
theorem Told.bound {x : PySem.Str} {ps : List PartL} {low : Int} {wide many : Nat} {bs : List BndL} (H : Told x ps low wide many) (hb : bs.map (·.2) = ps.map (·.2)) : BoundW bs wide ∧ lowOf bs = low ∧ bprod bs = ((many * wide : Nat) : Int) := by
  have hp : bprod bs = ((many * wide : Nat) : Int) := by rw [bprod_map, hb]; exact H.prod
  rcases H.shape with ⟨e, e1, e2⟩ | e
  · refine ex1 (map_one (hb.trans e)) ?_
    intro b hJz
    refine bPP hJz ?_
    clear hJz
    intro hEq1 _
    subst hEq1
    exact ⟨.inl ⟨b, rfl, by rw [e1]; rfl⟩, e2.symm, hp⟩
  · refine ex2 (map_two (hb.trans e)) ?_
    intro b c hJz
    refine bPPP hJz ?_
    clear hJz
    intro hEq1 _ ec
    subst hEq1
    have h1 : c.2.1 = low := congrArg Prod.fst ec
    have h2 : c.2.2 = low + wide - 1 := congrArg Prod.snd ec
    exact ⟨.inr ⟨b, c, rfl, by rw [h1, h2]; omega⟩, h1, hp⟩
end
-- part Ub
section
/-- behind the law's `if`: what is known, whichever branch ran -/
def JIf (h₀ : Heap) (L W dW hl fA cA cw cf : Addr) (es : List DictEntry) (n : Nat) (ws : List Value) (s₁ : Shared) (fl : Flow) (s' : Shared) : Prop :=
  fl = .next ∧ ∃ (low : Int) (wide many : Nat) (x : PySem.Str) (ps : List PartL) (t1 t2 t3 t4 t5 : Tok) (ow of : Obj) (h' : Heap) (tk : Nat) (m' : PySem.Str → Option Value),
    s' = ⟨h', s₁.gens, s₁.drawn, tk, s₁.os⟩ ∧ Told x ps low wide many ∧ Fr h₀ L h' m' ∧
    News h₀ L h' [(W, instObj 375 dW), (dW, dictOf es n), (hl, listOf #[] 0), (fA, listOf #[.ref cA, .int 4 t5] 0), (cA, listOf ws.toArray 0), (cw, ow), (cf, of)] ∧
    ow.data = .cell (some (.int (wide : Int) t1)) ∧ of.data = .cell (some (.ref fA)) ∧ m' (PySem.Str.ofString "low") = some (.int low t2) ∧ m' (PySem.Str.ofString "many") = some (.int (many : Int) t3) ∧ m' (PySem.Str.ofString "told") = some (.str x t4) ∧ m' (PySem.Str.ofString "world") = some (.ref W)
theorem JIf.intro {h₀ h' : Heap} {L W dW hl fA cA cw cf : Addr} {es : List DictEntry} {n : Nat} {ws : List Value} {s₁ : Shared} {low zl zw zm : Int} {wide many : Nat} {x : PySem.Str} {ps : List PartL} {t1 t2 t3 t4 t5 : Tok} {ow of : Obj} {tk : Nat} {m' : PySem.Str → Option Value} {news : Led}
    (H : Told x ps low wide many) (F : Fr h₀ L h' m') (N : News h₀ L h' news) (hs : ∀ p ∈ [(W, instObj 375 dW), (dW, dictOf es n), (hl, listOf #[] 0), (fA, listOf #[.ref cA, .int 4 t5] 0), (cA, listOf ws.toArray 0), (cw, ow), (cf, of)], p ∈ news)
    (hzl : zl = low) (hzw : zw = wide) (hzm : zm = many)
    (h1 : ow.data = .cell (some (.int zw t1))) (h2 : of.data = .cell (some (.ref fA))) (h3 : m' (PySem.Str.ofString "low") = some (.int zl t2)) (h4 : m' (PySem.Str.ofString "many") = some (.int zm t3)) (h5 : m' (PySem.Str.ofString "told") = some (.str x t4)) (h6 : m' (PySem.Str.ofString "world") = some (.ref W)) :
    JIf h₀ L W dW hl fA cA cw cf es n ws s₁ .next ⟨h', s₁.gens, s₁.drawn, tk, s₁.os⟩ := by
  subst hzl hzw hzm
  exact ⟨rfl, zl, wide, many, x, ps, t1, t2, t3, t4, t5, ow, of, h', tk, m', rfl, H, F, cb_drop N hs, h1, h2, h3, h4, h5, h6⟩
theorem told_one' {z : Int} {many : Nat} (hz : z = many) (h0 : 1 ≤ many) (h1 : many ≤ 4) : Told (ofInt z) [(told1 many, 1, (many : Int))] 1 1 many := by rw [hz]; exact told_one h0 h1
theorem told_two' {zm low high : Int} {many wide : Nat} (hz : zm = many) (h0 : 1 ≤ many) (h1 : many ≤ 4) (w0 : 1 ≤ wide) (w1 : wide ≤ 3) (l0 : -2 ≤ low) (l1 : low ≤ 3) (hh : high = low + wide - 1) : Told (told2 zm low high) [(ofInt many, 1, (many : Int)), (part2 low high, low, low + wide - 1)] low wide many := by rw [hz]; exact told_two h0 h1 w0 w1 l0 l1 hh
end
-- part Ud
section
theorem off3_addr {I C D : Addr} : ∀ {l l' : Led}, l.map (·.1) = l'.map (·.1) → LCg.Off3 I C D l → LCg.Off3 I C D l'
  | [], [], _, _ => trivial
  | [], _ :: _, h, _ => by cases h
  | _ :: _, [], h, _ => by cases h
  | p :: l, p' :: l', h, x => by
    simp only [List.map_cons, List.cons.injEq] at h
    refine ⟨?_, off3_addr h.2 x.2⟩
    rw [← h.1]
    exact x.1
theorem pull {a : Addr × Obj} {front own g1 g2 : Led} : ∀ p ∈ a :: (front ++ (own ++ (g1 ++ g2))), p ∈ front ++ (own ++ (g1 ++ a :: g2)) := fun p hp => by
  simp only [List.mem_cons, List.mem_append] at hp ⊢
  rcases hp with rfl | hp | hp | hp | hp
  · exact .inr (.inr (.inr (.inl rfl)))
  · exact .inl hp
  · exact .inr (.inl hp)
  · exact .inr (.inr (.inl hp))
  · exact .inr (.inr (.inr (.inr hp)))
theorem push {a : Addr × Obj} {front own g1 g2 : Led} : ∀ p ∈ front ++ (own ++ (g1 ++ a :: g2)), p ∈ a :: (front ++ (own ++ (g1 ++ g2))) := fun p hp => by
  simp only [List.mem_cons, List.mem_append] at hp ⊢
  rcases hp with hp | hp | hp | rfl | hp
  · exact .inr (.inl hp)
  · exact .inr (.inr (.inl hp))
  · exact .inr (.inr (.inr (.inl hp)))
  · exact .inl rfl
  · exact .inr (.inr (.inr (.inr hp)))
theorem off_all {a : Addr} {front own g1 g2 : Led} (h1 : ∀ p ∈ front, p.1 ≠ a) (h2 : ∀ p ∈ own, p.1 ≠ a) (h3 : ∀ p ∈ g1, p.1 ≠ a) (h4 : ∀ p ∈ g2, p.1 ≠ a) : ∀ p ∈ front ++ (own ++ (g1 ++ g2)), p.1 ≠ a := fun p hp => by
  simp only [List.mem_append] at hp
  rcases hp with hp | hp | hp | hp
  · exact h1 p hp
  · exact h2 p hp
  · exact h3 p hp
  · exact h4 p hp
theorem lead4 {a b c d : Addr × Obj} {r : Led} : ∀ p ∈ b :: c :: d :: a :: r, p ∈ a :: b :: c :: d :: r := fun p hp => by
  simp only [List.mem_cons] at hp ⊢
  rcases hp with rfl | rfl | rfl | rfl | hp
  · exact .inr (.inl rfl)
  · exact .inr (.inr (.inl rfl))
  · exact .inr (.inr (.inr (.inl rfl)))
  · exact .inl rfl
  · exact .inr (.inr (.inr (.inr hp)))
/-- a cell of the law's rows -/
abbrev IsAB (v : Value) : Prop := (∃ i t, v = .int i t) ∨ ∃ a t, v = .str a t ∧ (a = PySem.Str.ofString "a" ∨ a = PySem.Str.ofString "b")
theorem IsAB.is {v : Value} (h : IsAB v) : IsIS v := by
  rcases h with h | ⟨a, t, h, _⟩
  · exact .inl h
  · exact .inr ⟨a, t, h⟩
/-- the law's own ledger behind `rows = ...` -/
abbrev LedG (W dW hl fA cA cw cf : Addr) (es : List DictEntry) (n : Nat) (ws : List Value) (ow of : Obj) (k : Int) (t : Tok) : Led :=
  [(W, instObj 375 dW), (dW, dictOf es n), (hl, listOf #[] 0)] ++ (fA, listOf #[.ref cA, .int k t] 0) :: [(cA, listOf ws.toArray 0), (cw, ow), (cf, of)]
def JRows (h₀ : Heap) (L W dW hl fA cA cw cf : Addr) (es : List DictEntry) (n : Nat) (ws : List Value) (ow of : Obj) (wide many : Nat) (m6 : PySem.Str → Option Value) (s₁ : Shared) (fl : Flow) (s' : Shared) : Prop :=
  fl = .next ∧ ∃ (D : Addr) (kD : Nat) (rs : List RowL) (own : Led) (k : Int) (t : Tok) (h' : Heap) (tk : Nat), s' = ⟨h', s₁.gens, s₁.drawn, tk, s₁.os⟩ ∧ Fr h₀ L h' (fun z => if z = PySem.Str.ofString "rows" then some (.ref D) else m6 z) ∧
    News h₀ L h' ((D, listOf (List.map rref rs).toArray kD) :: (own ++ LedG W dW hl fA cA cw cf es n ws ow of k t)) ∧ rs.length = many ∧ (∀ r ∈ rs, r.2.length = wide ∧ ∀ v ∈ r.2, IsAB v) ∧ (∀ r ∈ rs, ∃ kk, (r.1, listOf r.2.toArray kk) ∈ own) ∧ 4 ≤ k ∧ k ≤ 4 + 3 * many ∧ (∀ p ∈ own, p.1 ≠ dW ∧ p.1 ≠ hl ∧ p.1 ≠ fA) ∧ D ≠ dW ∧ D ≠ hl ∧ D ≠ fA
end
-- part Ue
section
def objSize (o : Obj) : Nat := match o.data with | .seq xs _ => xs.size | _ => 0
theorem ne_size {h₀ h : Heap} {L a b : Addr} {news : Led} {o o' : Obj} (N : News h₀ L h news) (h1 : (a, o) ∈ news) (h2 : (b, o') ∈ news) (hs : objSize o ≠ objSize o') : a ≠ b := by
  intro e
  have e1 := (N _ h1).1
  have e2 := (N _ h2).1
  rw [e] at e1
  exact hs (congrArg objSize (Option.some.inj (e1.symm.trans e2)))
theorem pull2 {w a b : Addr × Obj} {front own g : Led} : ∀ p ∈ a :: b :: (front ++ (own ++ (w :: g))), p ∈ front ++ (own ++ (w :: a :: b :: g)) := fun p hp => by
  simp only [List.mem_cons, List.mem_append] at hp ⊢
  rcases hp with rfl | rfl | hp | hp | rfl | hp
  · exact .inr (.inr (.inr (.inl rfl)))
  · exact .inr (.inr (.inr (.inr (.inl rfl))))
  · exact .inl hp
  · exact .inr (.inl hp)
  · exact .inr (.inr (.inl rfl))
  · exact .inr (.inr (.inr (.inr (.inr hp))))
theorem off_two {a : Addr} {front own g : Led} (h1 : ∀ p ∈ front, p.1 ≠ a) (h2 : ∀ p ∈ own, p.1 ≠ a) (h3 : ∀ p ∈ g, p.1 ≠ a) : ∀ p ∈ front ++ (own ++ g), p.1 ≠ a := fun p hp => by
  simp only [List.mem_append] at hp
  rcases hp with hp | hp | hp
  · exact h1 p hp
  · exact h2 p hp
  · exact h3 p hp
section
variable {prog : PySem.Program} {w : PySem.World} {A : Around} {E : Value → Shared → Prop} {s : Shared} {h₀ : Heap} {L : Addr}
theorem my_extend {m : PySem.Str → Option Value} {news news' : Led} {D b : Addr} {vs us : List Value} {n nb : Nat} {Q : Value → Shared → Prop} (F : Fr h₀ L s.heap m) (N : News h₀ L s.heap news) (hb : (b, listOf us.toArray nb) ∈ news) (hne : us.length ≠ 0)
    (U : Upd D (listOf vs.toArray n) (listOf (vs ++ us).toArray (n + 1)) news news') (hz : vs.length < 1000) (hz2 : us.length < 1000) (h : ∀ h', Fr h₀ L h' m → News h₀ L h' news' → Q .none { s with heap := h' }) :
    wpAny (model prog w) A (call (.builtin "list.extend") [.ref D, .ref b]) Q E s :=
  kl_extend F N hb (by simp) (by simpa using hne) U (extend_door (by rw [List.size_toArray, List.size_toArray, sizeLine_eq]; omega)) (by rw [List.toList_toArray, sizeLine_eq]; omega) (by rw [List.size_toArray, List.size_toArray, sizeLine_eq]; omega) h
end
/-- the ledger behind the array's making: four places that change, the rest stands -/
structure Base (base : Led) (W dW hl dA fA A D cA cw cf DR : Addr) (wide many : Nat) (low : Int) (bs : List BndL) (rs : List RowL) (ws : List Value) (ow of : Obj) (kb kD : Nat) : Prop where
  inst : (W, instObj 375 dW) ∈ base
  arr : (A, instObj 236 dA) ∈ base
  bnds : (D, listOf (List.map bref bs).toArray kb) ∈ base
  bok : ∀ b ∈ bs, BndOk base b
  rowsL : (DR, listOf (List.map rref rs).toArray kD) ∈ base
  rowL : ∀ r ∈ rs, ∃ kk, (r.1, listOf r.2.toArray kk) ∈ base
  cells : (cA, listOf ws.toArray 0) ∈ base
  cwide : (cw, ow) ∈ base
  cfeed : (cf, of) ∈ base
  off : ∀ p ∈ base, p.1 ≠ dW ∧ p.1 ≠ hl ∧ p.1 ≠ dA ∧ p.1 ≠ fA
  n1 : dW ≠ hl
  n2 : dW ≠ dA
  n3 : dW ≠ fA
  n4 : hl ≠ dA
  n5 : hl ≠ fA
  n6 : dA ≠ fA
end
-- part Uf
section
theorem ne_obj {h₀ h : Heap} {L a b : Addr} {news : Led} {o o' : Obj} (N : News h₀ L h news) (h1 : (a, o) ∈ news) (h2 : (b, o') ∈ news) (hs : o ≠ o') : a ≠ b := by
  intro e
  have e1 := (N _ h1).1
  have e2 := (N _ h2).1
  rw [e] at e1
  exact hs (Option.some.inj (e1.symm.trans e2))
def baseOf (l : Led) (a b c d : Addr) : Led := l.filter fun p => decide (p.1 ≠ a) && decide (p.1 ≠ b) && decide (p.1 ≠ c) && decide (p.1 ≠ d)
theorem mem_base {l : Led} {a b c d : Addr} {p : Addr × Obj} : p ∈ baseOf l a b c d ↔ p ∈ l ∧ p.1 ≠ a ∧ p.1 ≠ b ∧ p.1 ≠ c ∧ p.1 ≠ d := by
  unfold baseOf
  simp only [List.mem_filter, Bool.and_eq_true, decide_eq_true_eq, and_assoc]
theorem to_base {h₀ h : Heap} {L KL W dW hl dA fA A D cA cw cf DR aL : Addr} {wide many : Nat} {low : Int} {bs : List BndL} {rs : List RowL} {ws : List Value} {oL ow of : Obj} {kb kD n12 nh ka : Nat} {es2 aes : List DictEntry} {hs : Array Value} {k : Int} {t : Tok} {ownB own : Led} {oK : Obj}
    (N : News h₀ L h ((KL, oK) :: (dW, dictOf es2 n12) :: (hl, listOf hs nh) :: (A, instObj 236 dA) :: (dA, dictOf aes ka) :: (D, listOf (List.map bref bs).toArray kb) :: (ownB ++ ([(aL, oL), (DR, listOf (List.map rref rs).toArray kD)] ++ (own ++ ((W, instObj 375 dW) :: [(fA, listOf #[.ref cA, .int k t] 0), (cA, listOf ws.toArray 0), (cw, ow), (cf, of)]))))))
    (hbok : ∀ b ∈ bs, BndOk ownB b) (hro : ∀ r ∈ rs, ∃ kk, (r.1, listOf r.2.toArray kk) ∈ own) (hown : ∀ p ∈ own, p.1 ≠ dW ∧ p.1 ≠ hl ∧ p.1 ≠ fA) (hD2 : DR ≠ hl) (hD3 : DR ≠ fA)
    (e1 : D ≠ hl) (e2 : D ≠ fA) (e3 : cA ≠ hl) (e4 : cA ≠ fA) (how : ∃ v, ow.data = .cell v) (hof : ∃ v, of.data = .cell v) (hWA : dW ≠ dA) (e5 : hl ≠ fA) (lK : ∀ p ∈ (dW, dictOf es2 n12) :: (hl, listOf hs nh) :: (A, instObj 236 dA) :: (dA, dictOf aes ka) :: (D, listOf (List.map bref bs).toArray kb) :: (ownB ++ ([(aL, oL), (DR, listOf (List.map rref rs).toArray kD)] ++ (own ++ ((W, instObj 375 dW) :: [(fA, listOf #[.ref cA, .int k t] 0), (cA, listOf ws.toArray 0), (cw, ow), (cf, of)])))), p.1 < KL) :
    ∃ base, Base base W dW hl dA fA A D cA cw cf DR wide many low bs rs ws ow of kb kD ∧ (∀ p ∈ base, p.1 < KL) ∧ dW < KL ∧ hl < KL ∧ dA < KL ∧ fA < KL ∧ News h₀ L h ((KL, oK) :: (dW, dictOf es2 n12) :: (hl, listOf hs nh) :: (dA, dictOf aes ka) :: (fA, listOf #[.ref cA, .int k t] 0) :: base) := by
  generalize hL9 : (dW, dictOf es2 n12) :: (hl, listOf hs nh) :: (A, instObj 236 dA) :: (dA, dictOf aes ka) :: (D, listOf (List.map bref bs).toArray kb) :: (ownB ++ ([(aL, oL), (DR, listOf (List.map rref rs).toArray kD)] ++ (own ++ ((W, instObj 375 dW) :: [(fA, listOf #[.ref cA, .int k t] 0), (cA, listOf ws.toArray 0), (cw, ow), (cf, of)])))) = L9 at N lK
  have N' := cb_drop (news := L9) N (fun p hp => .tail _ hp)
  have mW : (dW, dictOf es2 n12) ∈ L9 := by rw [← hL9]; exact .head _
  have mh : (hl, listOf hs nh) ∈ L9 := by rw [← hL9]; exact .tail _ (.head _)
  have mA : (A, instObj 236 dA) ∈ L9 := by rw [← hL9]; exact .tail _ (.tail _ (.head _))
  have md : (dA, dictOf aes ka) ∈ L9 := by rw [← hL9]; exact .tail _ (.tail _ (.tail _ (.head _)))
  have mD : (D, listOf (List.map bref bs).toArray kb) ∈ L9 := by rw [← hL9]; exact .tail _ (.tail _ (.tail _ (.tail _ (.head _))))
  have mB : ∀ p ∈ ownB, p ∈ L9 := fun p hp => by rw [← hL9]; exact .tail _ (.tail _ (.tail _ (.tail _ (.tail _ (List.mem_append_left _ hp)))))
  have mT : ∀ p ∈ own ++ ((W, instObj 375 dW) :: [(fA, listOf #[.ref cA, .int k t] 0), (cA, listOf ws.toArray 0), (cw, ow), (cf, of)]), p ∈ L9 := fun p hp => by rw [← hL9]; exact .tail _ (.tail _ (.tail _ (.tail _ (.tail _ (List.mem_append_right _ (List.mem_append_right _ hp))))))
  have mR : (DR, listOf (List.map rref rs).toArray kD) ∈ L9 := by rw [← hL9]; exact .tail _ (.tail _ (.tail _ (.tail _ (.tail _ (List.mem_append_right _ (.tail _ (.head _)))))))
  have mWi : (W, instObj 375 dW) ∈ L9 := mT _ (List.mem_append_right _ (.head _))
  have mf : (fA, listOf #[.ref cA, .int k t] 0) ∈ L9 := mT _ (List.mem_append_right _ (.tail _ (.head _)))
  have mc : (cA, listOf ws.toArray 0) ∈ L9 := mT _ (List.mem_append_right _ (.tail _ (.tail _ (.head _))))
  have mcw : (cw, ow) ∈ L9 := mT _ (List.mem_append_right _ (.tail _ (.tail _ (.tail _ (.head _)))))
  have mcf : (cf, of) ∈ L9 := mT _ (List.mem_append_right _ (.tail _ (.tail _ (.tail _ (.tail _ (.head _))))))
  have dl : Value.type "dict" ≠ Value.type "list" := by decide
  have tl : Value.type "tuple" ≠ Value.type "list" := by decide
  have td : Value.type "tuple" ≠ Value.type "dict" := by decide
  have cell_ne : ∀ {c : Addr} {o : Obj}, (c, o) ∈ L9 → (∃ v, o.data = .cell v) → c ≠ dW ∧ c ≠ hl ∧ c ≠ dA ∧ c ≠ fA := fun {c o} hm ⟨v, hv⟩ => by
    refine ⟨ne_obj N' hm mW ?_, ne_obj N' hm mh ?_, ne_obj N' hm md ?_, ne_obj N' hm mf ?_⟩ <;> (intro q; rw [q] at hv; cases hv)
  have lst_ne : ∀ {c : Addr} {xs : Array Value} {j : Nat}, (c, listOf xs j) ∈ L9 → c ≠ hl → c ≠ fA → c ≠ dW ∧ c ≠ hl ∧ c ≠ dA ∧ c ≠ fA := fun hm h1 h2 => ⟨(obj_ne N' mW hm dl).symm, h1, (obj_ne N' md hm dl).symm, h2⟩
  have ins_ne : ∀ {c C dd : Addr}, (c, instObj C dd) ∈ L9 → c ≠ dW ∧ c ≠ hl ∧ c ≠ dA ∧ c ≠ fA := fun hm => ⟨obj_ne N' hm mW (by intro q; cases q), obj_ne N' hm mh (by intro q; cases q), obj_ne N' hm md (by intro q; cases q), obj_ne N' hm mf (by intro q; cases q)⟩
  have tup_ne : ∀ {c : Addr} {x y : Value}, (c, tup2 x y) ∈ L9 → c ≠ dW ∧ c ≠ hl ∧ c ≠ dA ∧ c ≠ fA := fun hm => ⟨obj_ne N' hm mW td, obj_ne N' hm mh tl, obj_ne N' hm md td, obj_ne N' hm mf tl⟩
  refine ⟨baseOf L9 dW hl dA fA, ⟨mem_base.mpr ⟨mWi, ins_ne mWi⟩, mem_base.mpr ⟨mA, ins_ne mA⟩, mem_base.mpr ⟨mD, lst_ne mD e1 e2⟩, fun b hb => ?_, mem_base.mpr ⟨mR, lst_ne mR hD2 hD3⟩, fun r hr => ?_, mem_base.mpr ⟨mc, lst_ne mc e3 e4⟩, mem_base.mpr ⟨mcw, cell_ne mcw how⟩, mem_base.mpr ⟨mcf, cell_ne mcf hof⟩, fun p hp => (mem_base.mp hp).2,
    obj_ne N' mW mh dl, hWA, obj_ne N' mW mf dl, (obj_ne N' md mh dl).symm, e5, obj_ne N' md mf dl⟩, fun p hp => lK p (mem_base.mp hp).1, lK _ mW, lK _ mh, lK _ md, lK _ mf, fun p hp => ?_⟩
  · refine bPPP (hbok b hb) ?_
    intro h0 h1 hJz
    refine ex2 hJz ?_
    clear hJz
    intro t u hJz
    revert hJz
    intro hm
    have hm' := mB _ hm
    exact ⟨h0, h1, t, u, mem_base.mpr ⟨hm', tup_ne hm'⟩⟩
  · refine ex1 (hro r hr) ?_
    intro kk hJz
    revert hJz
    intro hk
    have hm' := mT _ (List.mem_append_left _ hk)
    exact ⟨kk, mem_base.mpr ⟨hm', lst_ne hm' (hown _ hk).2.1 (hown _ hk).2.2⟩⟩
  · rcases List.mem_cons.mp hp with rfl | hp
    · exact N _ (.head _)
    rcases List.mem_cons.mp hp with rfl | hp
    · exact N' _ mW
    rcases List.mem_cons.mp hp with rfl | hp
    · exact N' _ mh
    rcases List.mem_cons.mp hp with rfl | hp
    · exact N' _ md
    rcases List.mem_cons.mp hp with rfl | hp
    · exact N' _ mf
    exact N' _ (mem_base.mp hp).1
theorem flat_lenR {wide : Nat} : ∀ (rs : List RowL), (∀ r ∈ rs, r.2.length = wide) → (rs.flatMap (·.2)).length = rs.length * wide
  | [], _ => by simp
  | r :: t, h => by
    rw [List.flatMap_cons, List.length_append, flat_lenR t fun x hx => h x (.tail _ hx), h r (.head _), List.length_cons, Nat.succ_mul, Nat.add_comm]
end
-- part Ug
section
abbrev tupO (vs : List Value) : Obj := { cls := .type "tuple", data := .seq vs.toArray }
section
variable {prog : PySem.Program} {w : PySem.World} {A : Around} {E : Value → Shared → Prop} {s : Shared} {env : Env} {h₀ : Heap} {target : PySem.Expr} {body : List PySem.Stmt} {Q : PySem.Flow → Shared → Prop}
theorem for_tup {ax : Addr} {vs : List Value} {m : PySem.Str → Option Value} {news : Led} (J : Addr → List Value → (PySem.Str → Option Value) → Led → Prop)
    (hh : A.handled = none) (F : Fr h₀ env.locals s.heap m) (N : News h₀ env.locals s.heap news) (hm : (ax, tupO vs) ∈ news)
    (h0 : ∀ I : Addr, (∀ p ∈ news, p.1 < I) → J I vs m news)
    (step : ∀ I oI v r m₁ news₁ h tk (K : PySem.Flow → Shared → Prop), (∀ {h' : Heap} {tk' : Tok} {m' : PySem.Str → Option Value} {all : Led}, Fr h₀ env.locals h' m' → News h₀ env.locals h' all → ∀ news' : Led, (∀ p ∈ (I, oI) :: news', p ∈ all) → (∀ p ∈ news', p.1 ≠ I) → (ax, tupO vs) ∈ news' → J I r m' news' → K .next { s with heap := h', toks := tk' }) →
      J I (v :: r) m₁ news₁ → (ax, tupO vs) ∈ news₁ → (∀ p ∈ news₁, p.1 ≠ I) → Fr h₀ env.locals h m₁ → News h₀ env.locals h ((I, oI) :: news₁) →
      wpAny (model prog w) A (assign target env v) (fun _ s₂ => wpAny (model prog w) A (execs body env) K E s₂) E { s with heap := h, toks := tk })
    (done : ∀ I m₁ news₁ h tk, J I [] m₁ news₁ → Fr h₀ env.locals h m₁ → News h₀ env.locals h news₁ → Q .next { s with heap := h, toks := tk }) :
    wpAny (model prog w) A (pyIter (.ref ax)) (fun it s₂ => TurnsAt prog w A h₀ env target body Q E it s₂) E s := by
  refine iter_tupTurns hh F N hm rfl rfl fun I hI => ?_
  have main : ∀ (r : List Value) (m₁ : PySem.Str → Option Value) (news₁ : Led), J I r m₁ news₁ → (ax, tupO vs) ∈ news₁ → (∀ p ∈ news₁, p.1 ≠ I) →
      ItemsRest prog w A E h₀ env target body Q s [(I, "tuple_iterator")] [(ax, tupO vs)] (r.map .val) m₁ news₁ := by
    intro r
    induction r with
    | nil => intro m₁ news₁ hj _ _; exact ItemsRest.zero fun h tk F N => done I m₁ news₁ h tk hj F N
    | cons v r ih =>
      intro m₁ news₁ hj hk hI'
      refine ItemsRest.val fun h tk F₁ => AllObj.cons fun o ho => AllObj.nil fun N₁ => ?_
      refine wpAny_mono (step I o v r m₁ news₁ h tk (ForPost h₀ env.locals { s with heap := h, toks := tk } I o (ax, tupO vs) (J I r) Q) (fun F N news' a b c d => ForEnd.intro F N news' a b c d) hj hk hI' F₁ N₁) (fun _ s₂ h₂ => wpAny_mono h₂ (fun f s₃ p => ?_) fun _ _ e => e) fun _ _ e => e
      have fin : ForEnd h₀ env.locals { s with heap := h, toks := tk } I o (ax, tupO vs) (J I r) s₃ →
          UnrEndW h₀ env.locals { s with heap := h, toks := tk } [(I, o)] (fun m' n' => SubL [(ax, tupO vs)] n' ∧ ItemsRest prog w A E h₀ env target body Q s [(I, "tuple_iterator")] [(ax, tupO vs)] (r.map .val) m' n') s₃ := by
        rintro ⟨h', tk', m', news', e, F', N', hI'', hk', hj'⟩
        exact ⟨h', tk', m', news', e, F', N', fun p hp q hq => by rw [List.mem_singleton.mp hq]; exact hI'' p hp, ⟨hk', trivial⟩, ih m' news' hj' hk' hI''⟩
      cases f with
      | ret v => exact p
      | brk => exact p
      | next => exact fin p
      | cont => exact fin p
  exact main vs m news (h0 I hI) hm (fun p hp => Nat.ne_of_lt (hI p hp))
end
end
-- part Uh
section
def datOf : Value → PyData
  | .int i _ => .int i
  | .str a _ => .str a
  | _ => .none
theorem reads_ab {h : Heap} : ∀ {vs : List Value}, (∀ v ∈ vs, IsAB v) → ReadsAll h vs (vs.map datOf) []
  | [], _ => .nil
  | v :: r, hv => by
    have ih := reads_ab (h := h) fun x hx => hv x (.tail _ hx)
    rcases hv v (.head _) with ⟨i, t, rfl⟩ | ⟨a, t, rfl, _⟩
    · have := ReadsAll.cons (Reads.int (h := h) i t) ih
      simpa [datOf] using this
    · have := ReadsAll.cons (Reads.str (h := h) a t) ih
      simpa [datOf] using this
theorem lay_ab : ∀ {vs : List Value}, (∀ v ∈ vs, IsAB v) → PyData.canLayAll0 (vs.map datOf) = true
  | [], _ => by simp [PyData.canLayAll0]
  | v :: r, hv => by
    have ih := lay_ab fun x hx => hv x (.tail _ hx)
    rcases hv v (.head _) with ⟨i, t, rfl⟩ | ⟨a, t, rfl, ha⟩
    · simp [PyData.canLayAll0, PyData.canLay0, datOf, ih]
    · have : PyData.canLay0 (.str a) = true := by
        rcases ha with rfl | rfl <;> decide +kernel
      simp [PyData.canLayAll0, datOf, ih, this]
theorem depth_ab : ∀ {vs : List Value}, (∀ v ∈ vs, IsAB v) → PyData.depthAll (vs.map datOf) ≤ 1
  | [], _ => by simp [PyData.depthAll]
  | v :: r, hv => by
    have ih := depth_ab fun x hx => hv x (.tail _ hx)
    rcases hv v (.head _) with ⟨i, t, rfl⟩ | ⟨a, t, rfl, ha⟩ <;> (simp only [List.map_cons, PyData.depthAll, PyData.depth, datOf]; omega)
theorem shaped_ab {vs : List Value} (hv : ∀ v ∈ vs, IsAB v) : shaped (.list (vs.map datOf)) = true := by
  have h1 := depth_ab hv
  have h2 : PyData.depth (.list (vs.map datOf)) ≤ 64 := by simp only [PyData.depth]; omega
  show (PyData.canLay0 (.list (vs.map datOf)) && decide (PyData.depth (.list (vs.map datOf)) ≤ 64)) = true
  rw [Bool.and_eq_true]
  exact ⟨by simp only [PyData.canLay0]; exact lay_ab hv, decide_eq_true h2⟩
theorem noMix_ab : ∀ {vs : List Value}, (∀ v ∈ vs, IsAB v) → noMixAll (vs.map datOf) (vs.map datOf) = true
  | [], _ => by simp [noMixAll]
  | v :: r, hv => by
    have ih := noMix_ab fun x hx => hv x (.tail _ hx)
    rcases hv v (.head _) with ⟨i, t, rfl⟩ | ⟨a, t, rfl, ha⟩ <;> simp [noMixAll, noMix, datOf, ih]
section
variable {prog : PySem.Program} {w : PySem.World} {A : Around} {E : Value → Shared → Prop} {s : Shared} {h₀ : Heap} {L : Addr}
theorem reads_led {news : Led} {a : Addr} {vs : List Value} {n : Nat} (N : News h₀ L s.heap news) (hm : (a, listOf vs.toArray n) ∈ news) (hv : ∀ v ∈ vs, IsAB v) : Reads s.heap (.ref a) (.list (vs.map datOf)) [a] :=
  Reads.list (N _ hm).1 rfl rfl (by simpa using reads_ab hv)
theorem eq_led {news : Led} {a b : Addr} {vs : List Value} {n k : Nat} {Q : Value → Shared → Prop} (N : News h₀ L s.heap news) (ha : (a, listOf vs.toArray n) ∈ news) (hb : (b, listOf vs.toArray k) ∈ news) (hv : ∀ v ∈ vs, IsAB v) (hu : A.units + 64 < cLine)
    (h : Q (.bool true) s) : wpAny (model prog w) A (compareOp .Eq (.ref a) (.ref b)) Q E s :=
  eq_dataH_same (reads_led N ha hv) (reads_led N hb hv) (shaped_ab hv) (shaped_ab hv) hu (by simp only [noMix]; exact noMix_ab hv) (by rw [PySem.Spec.same_self]; exact h)
theorem ne_led {news : Led} {a b : Addr} {vs : List Value} {n k : Nat} {Q : Value → Shared → Prop} (N : News h₀ L s.heap news) (ha : (a, listOf vs.toArray n) ∈ news) (hb : (b, listOf vs.toArray k) ∈ news) (hv : ∀ v ∈ vs, IsAB v) (hu : A.units + 64 < cLine)
    (h : Q (.bool false) s) : wpAny (model prog w) A (compareOp .NotEq (.ref a) (.ref b)) Q E s :=
  ne_dataH_same (reads_led N ha hv) (reads_led N hb hv) (shaped_ab hv) (shaped_ab hv) hu (by simp only [noMix]; exact noMix_ab hv) (by rw [PySem.Spec.same_self]; exact h)
end
end
-- part Ui
section
/-- the standing part of the ledger in the law's two loops -/
structure MainOk (B2 : Led) (W dW hl A dA D L2 KL DR cw : Addr) (aes2 : List DictEntry) (ka2 kb c2 kk kD : Nat) (x : PySem.Str) (bs : List BndL) (rs : List RowL) (wide : Nat) (low : Int) (ow : Obj) : Prop where
  arr : ArrIn B2 A dA D L2 aes2 ka2 kb c2 1 x bs (rs.map (·.2)) wide
  inst : (W, instObj 375 dW) ∈ B2
  off : ∀ p ∈ B2, p.1 ≠ dW ∧ p.1 ≠ hl
  keptL : (KL, listOf (rs.flatMap (·.2)).toArray kk) ∈ B2
  rowsL : (DR, listOf (List.map rref rs).toArray kD) ∈ B2
  rowL : ∀ r ∈ rs, ∃ k, (r.1, listOf r.2.toArray k) ∈ B2
  cwide : (cw, ow) ∈ B2
  low : lowOf bs = low
  cells : ∀ r ∈ rs, r.2.length = wide ∧ ∀ v ∈ r.2, IsAB v
  ne : dW ≠ hl
def JMain (h₀ : Heap) (L A dA L2 KL : Addr) (aes2 : List DictEntry) (ka2 c2 kk : Nat) (V : List Value) (s₁ : Shared) (fl : Flow) (s' : Shared) : Prop :=
  fl = .next ∧ ∃ (h' : Heap) (tk : Nat) (m' : PySem.Str → Option Value), s' = ⟨h', s₁.gens, s₁.drawn, tk, s₁.os⟩ ∧ Fr h₀ L h' m' ∧ News h₀ L h' [(A, instObj 236 dA), (dA, dictOf aes2 ka2), (L2, listOf V.toArray c2), (KL, listOf V.toArray kk)] ∧
    m' (PySem.Str.ofString "array") = some (.ref A) ∧ m' (PySem.Str.ofString "kept") = some (.ref KL)
theorem to_main {h₀ h : Heap} {L W dW hl dA fA A D cA cw cf DR L2 KL : Addr} {wide many n12 nh ka2 kb kD c2 kk : Nat} {low low' : Int} {bs : List BndL} {rs : List RowL} {ws : List Value} {ow of : Obj} {es2 aes2 : List DictEntry} {hs : Array Value} {k : Int} {t : Tok} {base : Led} {x : PySem.Str} {ps : List PartL}
    (N : News h₀ L h ((L2, listOf (rs.flatMap (·.2)).toArray c2) :: (KL, listOf (rs.flatMap (·.2)).toArray kk) :: (dW, dictOf es2 n12) :: (hl, listOf hs nh) :: (dA, dictOf aes2 ka2) :: (fA, listOf #[.ref cA, .int k t] 0) :: base))
    (HB : Base base W dW hl dA fA A D cA cw cf DR wide many low' bs rs ws ow of kb kD) (HT : Told x ps low wide many) (hbs : bs.map (·.2) = ps.map (·.2)) (hA : ArrOk aes2 1 x D L2) (hrl : rs.length = many) (hrs : ∀ r ∈ rs, r.2.length = wide ∧ ∀ v ∈ r.2, IsAB v)
    (e1 : dW < L2) (e2 : hl < L2) (e3 : dW < KL) (e4 : hl < KL) :
    ∃ B2, MainOk B2 W dW hl A dA D L2 KL DR cw aes2 ka2 kb c2 kk kD x bs rs wide low ow ∧ News h₀ L h ((dW, dictOf es2 n12) :: (hl, listOf hs nh) :: B2) := by
  refine bPPP (HT.bound hbs) ?_
  intro h1 h2 h3
  have ef : (rs.map (·.2)).flatten = rs.flatMap (·.2) := (List.flatMap_def ..).symm
  have hlen : (rs.flatMap (·.2)).length = rs.length * wide := flat_lenR rs fun r hr => (hrs r hr).1
  have tl : ∀ {p : Addr × Obj}, p ∈ base → p ∈ (L2, listOf (rs.flatMap (·.2)).toArray c2) :: (KL, listOf (rs.flatMap (·.2)).toArray kk) :: (dA, dictOf aes2 ka2) :: (fA, listOf #[.ref cA, .int k t] 0) :: base := fun h => .tail _ (.tail _ (.tail _ (.tail _ h)))
  refine ⟨(L2, listOf (rs.flatMap (·.2)).toArray c2) :: (KL, listOf (rs.flatMap (·.2)).toArray kk) :: (dA, dictOf aes2 ka2) :: (fA, listOf #[.ref cA, .int k t] 0) :: base, ⟨⟨tl HB.arr, .tail _ (.tail _ (.head _)), hA, tl HB.bnds, by rw [ef]; exact .head _, fun b hb => ?_, h1, by rw [h3, ef, hlen, hrl], fun r hr => ?_, HT.w0, Nat.lt_of_le_of_lt HT.w1 (by decide), by rw [List.length_map, hrl]; exact Nat.lt_of_le_of_lt HT.m1 (by decide), by rw [List.length_map, hrl]; exact HT.m0, fun r hr v hv => ?_⟩, tl HB.inst, fun p hp => ?_, .tail _ (.head _), tl HB.rowsL, fun r hr => ?_, tl HB.cwide, h2, hrs, HB.n1⟩, cb_drop N fun p hp => ?_⟩
  · refine bPPP (HB.bok b hb) ?_
    intro a b' hJz
    refine ex2 hJz ?_
    clear hJz
    intro t u hJz
    revert hJz
    intro hm
    exact ⟨a, b', t, u, tl hm⟩
  · refine ex1 (List.mem_map.mp hr) ?_
    intro r' hJz
    refine bPP hJz ?_
    clear hJz
    intro hr' hEq1
    subst hEq1
    exact (hrs r' hr').1
  · refine ex1 (List.mem_map.mp hr) ?_
    intro r' hJz
    refine bPP hJz ?_
    clear hJz
    intro hr' hEq1
    subst hEq1
    exact ((hrs r' hr').2 v hv).is
  · rcases List.mem_cons.mp hp with rfl | hp
    · exact ⟨Nat.ne_of_gt e1, Nat.ne_of_gt e2⟩
    rcases List.mem_cons.mp hp with rfl | hp
    · exact ⟨Nat.ne_of_gt e3, Nat.ne_of_gt e4⟩
    rcases List.mem_cons.mp hp with rfl | hp
    · exact ⟨HB.n2.symm, HB.n4.symm⟩
    rcases List.mem_cons.mp hp with rfl | hp
    · exact ⟨HB.n3.symm, HB.n5.symm⟩
    exact ⟨(HB.off p hp).1, (HB.off p hp).2.1⟩
  · refine ex1 (HB.rowL r hr) ?_
    intro k' hJz
    revert hJz
    intro hk
    exact ⟨k', tl hk⟩
  · simp only [List.mem_cons] at hp ⊢
    rcases hp with rfl | rfl | rfl | rfl | rfl | rfl | hp
    · exact .inr (.inr (.inl rfl))
    · exact .inr (.inr (.inr (.inl rfl)))
    · exact .inl rfl
    · exact .inr (.inl rfl)
    · exact .inr (.inr (.inr (.inr (.inl rfl))))
    · exact .inr (.inr (.inr (.inr (.inr (.inl rfl)))))
    · exact .inr (.inr (.inr (.inr (.inr (.inr hp)))))
end
-- part Uj
section
/-- the law's locals that its loops read -/
structure MFacts (m : PySem.Str → Option Value) (KL A DR W work : Addr) (b : Bool) (low at_ : Int) (tb tat td : Tok) (x : PySem.Str) : Prop where
  kept : m (PySem.Str.ofString "kept") = some (.ref KL)
  array : m (PySem.Str.ofString "array") = some (.ref A)
  rows : m (PySem.Str.ofString "rows") = some (.ref DR)
  low : m (PySem.Str.ofString "low") = some (.int low tb)
  told : m (PySem.Str.ofString "told") = some (.str x td)
  world : m (PySem.Str.ofString "world") = some (.ref W)
  at_ : m (PySem.Str.ofString "at") = some (.int at_ tat)
  work : m (PySem.Str.ofString "work") = some (.ref work)
  down : m (PySem.Str.ofString "is_down") = some (.bool b)
theorem bring2 {a b : Addr × Obj} {front tail : Led} : ∀ p ∈ a :: b :: (front ++ tail), p ∈ front ++ a :: b :: tail := fun p hp => by
  simp only [List.mem_cons, List.mem_append] at hp ⊢
  rcases hp with rfl | rfl | hp | hp
  · exact .inr (.inl rfl)
  · exact .inr (.inr (.inl rfl))
  · exact .inl hp
  · exact .inr (.inr (.inr hp))
end
-- part Uk
section
def bdat (b : BndL) : PyData := .tuple [.int b.2.1, .int b.2.2]
theorem reads_bnd {h : Heap} : ∀ {bs : List BndL}, (∀ b ∈ bs, ∃ t u, h.get? b.1 = some (tup2 (.int b.2.1 t) (.int b.2.2 u))) → ReadsAll h (bs.map bref) (bs.map bdat) []
  | [], _ => .nil
  | b :: r, hb => by
    have ih := reads_bnd (h := h) fun x hx => hb x (.tail _ hx)
    obtain ⟨t, u, e⟩ := hb b (.head _)
    have h1 : Reads h (.ref b.1) (bdat b) [] := by
      refine Reads.tuple e rfl rfl ?_
      have := ReadsAll.cons (Reads.int (h := h) b.2.1 t) (ReadsAll.cons (Reads.int (h := h) b.2.2 u) .nil)
      simpa using this
    have := ReadsAll.cons h1 ih
    simpa using this
theorem lay_bnd : ∀ (bs : List BndL), PyData.canLayAll0 (bs.map bdat) = true
  | [] => by simp [PyData.canLayAll0]
  | b :: r => by simp [PyData.canLayAll0, PyData.canLay0, bdat, lay_bnd r]
theorem depth_bnd : ∀ (bs : List BndL), PyData.depthAll (bs.map bdat) ≤ 2
  | [] => by simp [PyData.depthAll]
  | b :: r => by
    have ih := depth_bnd r
    simp only [List.map_cons, PyData.depthAll, PyData.depth, bdat]
    omega
theorem shaped_bnd (bs : List BndL) : shaped (.list (bs.map bdat)) = true := by
  have h1 := depth_bnd bs
  have h2 : PyData.depth (.list (bs.map bdat)) ≤ 64 := by simp only [PyData.depth]; omega
  show (PyData.canLay0 (.list (bs.map bdat)) && decide (PyData.depth (.list (bs.map bdat)) ≤ 64)) = true
  rw [Bool.and_eq_true]
  exact ⟨by simp only [PyData.canLay0]; exact lay_bnd bs, decide_eq_true h2⟩
theorem noMix_bnd : ∀ (bs : List BndL), noMixAll (bs.map bdat) (bs.map bdat) = true
  | [] => by simp [noMixAll]
  | b :: r => by simp [noMixAll, noMix, bdat, noMix_bnd r]
section
variable {prog : PySem.Program} {w : PySem.World} {A : Around} {E : Value → Shared → Prop} {s : Shared} {h₀ : Heap} {L : Addr}
theorem ne_bnds {news : Led} {D : Addr} {bs : List BndL} {k : Nat} {Q : Value → Shared → Prop} (N : News h₀ L s.heap news) (hm : (D, listOf (List.map bref bs).toArray k) ∈ news) (hb : ∀ b ∈ bs, BndOk news b) (hu : A.units + 64 < cLine)
    (h : Q (.bool false) s) : wpAny (model prog w) A (compareOp .NotEq (.ref D) (.ref D)) Q E s :=
  have r : Reads s.heap (.ref D) (.list (bs.map bdat)) [D] := Reads.list (N _ hm).1 rfl rfl (by simpa using reads_bnd fun b hb' => let ⟨_, _, t, u, h'⟩ := hb b hb'; ⟨t, u, (N _ h').1⟩)
  ne_dataH_same r r (shaped_bnd bs) (shaped_bnd bs) hu (by simp only [noMix]; exact noMix_bnd bs) (by rw [PySem.Spec.same_self]; exact h)
theorem ne_str_self {x : PySem.Str} {t u : Tok} {Q : Value → Shared → Prop} (h : Q (.bool false) s) : wpAny (model prog w) A (compareOp .NotEq (.str x t) (.str x u)) Q E s :=
  ne_str (by rw [bne_self_eq_false]; exact h)
theorem eq_int_off {a b : Int} {t u : Tok} {Q : Value → Shared → Prop} (hab : a ≠ b) (h : Q (.bool false) s) : wpAny (model prog w) A (compareOp .Eq (.int a t) (.int b u)) Q E s :=
  eq_int (by rw [beq_eq_false_iff_ne.mpr hab]; exact h)
end
/-- what the law's own sort and the array's sort leave -/
theorem due_eq {rs : List RowL} {d : Bool} {c wide : Nat} (h : ∀ r ∈ rs, r.2.length = wide ∧ ∀ v ∈ r.2, IsAB v) (hc : c < wide) : (sortL (bh d c) rs).flatMap (·.2) = (sortR (bhc d c) (rs.map (·.2))).flatten := by
  rw [List.flatMap_def, sort_cells fun r hr => ?_]
  have h1 := h r hr
  have h2 : c < r.2.length := by rw [h1.1]; exact hc
  have h3 : cellOf c r = r.2[c] := by
    unfold cellOf
    rw [List.getD_eq_getElem?_getD, List.getElem?_eq_getElem h2]
    rfl
  rw [h3]
  exact (h1.2 _ (List.getElem_mem h2)).is
theorem sortL_in {rs : List RowL} {d : Bool} {c : Nat} {r : RowL} (h : r ∈ sortL (bh d c) rs) : r ∈ rs := by
  rcases foldl_mem (insL_mem (bh d c)) rs [] h with h | h
  · exact h
  · cases h
theorem sortL_size {rs : List RowL} {d : Bool} {c : Nat} : (sortL (bh d c) rs).length = rs.length := by
  have := foldl_len (insL_len (bh d c)) rs []
  simpa [sortL] using this
end
-- part Law
section
theorem off_Law : True := by
  w_top off
  exact trivial
local macro_rules | `(tactic| k_all) => `(tactic| first | assumption | (refine Mine.ne_cell (by assumption) ?_; first | exact Nat.lt_succ_self _ | exact Nat.lt_succ_of_lt (Nat.lt_succ_self _) | omega))
local macro_rules | `(tactic| walk_at "storeName") => `(tactic| (k_here; k_dflt (refine' storeX_C ?F ?N ?c ?U ?d ?_ ?a ?b; (case a => rfl); (case b => rfl); (case F => k_asm); (case N => k_asm); (case c => rfl); (case U => first | (refine UpdF.tail ?_ (UpdF.head ?_); (first | omega | exact Nat.ne_of_lt (Nat.lt_succ_self _) | k_ne); k_all) | (refine UpdF.head ?_; k_all) | k_updF); (case d => k_asm); k_whole; intro h' o' F' N' d'; (try dsimp only at N'); (try dsimp only); (try (refine Mine.tok_any ?_; intro tk')))))
local macro_rules | `(tactic| walk_at "eval Name") => `(tactic| (k_here; k_dflt (refine' nameX_C ?N ?c ?m ?d ?_ ?a ?b; (case a => rfl); (case b => rfl); (case N => k_asm); (case c => rfl); (case m => k_mem); (case d => assumption); k_whole)))
local macro_rules | `(tactic| walk_at "goP") => `(tactic| repeat' ((fail_if_success (with_reducible show LCg.CompSrc _ _ _ _ _ _ _ _ _ _ _ _ _ _)); (fail_if_success (with_reducible show wpAny _ _ (execs (PySem.Stmt.If _ _ _ _ :: _) _) _ _ _)); (fail_if_success (with_reducible show wpAny _ _ (exec (PySem.Stmt.For _ _ _ _ _) _) _ _ _)); (fail_if_success (with_reducible show wpAny _ _ (eval (PySem.Expr.ListComp _ _ _ _) _) _ _ _)); (fail_if_success (with_reducible show wpAny _ _ (exec (PySem.Stmt.Assign _ (PySem.Expr.ListComp _ _ _ _) _) _) _ _ _)); walk_at "u1"))
local macro_rules | `(tactic| walk_at "execs cons") => `(tactic| (k_here; (with_reducible show wpAny _ _ _ _ _ (PySem.Shared.mk _ _ _ (@HAdd.hAdd Nat Nat Nat _ _ _) _)); refine Mine.tok_any' ?_; intro tk'; walk_at "execs cons"))
local macro_rules | `(tactic| walk_at "useW") => `(tactic| (k_here; k_dflt (refine' Ct.go (D := 6) (U := 64) (C := (world_ct _ _ _ _ _)) (ret := ?_); k_whole)))
abbrev meanOf {p : PySem.Program} {l : List PySem.Str} {mean : ExcName → Option Value} {mg mb : PySem.Str → Option Value} {h : Heap} (_ : Top p l mean mg mb h) := mean
abbrev mgOf {p : PySem.Program} {l : List PySem.Str} {mean : ExcName → Option Value} {mg mb : PySem.Str → Option Value} {h : Heap} (_ : Top p l mean mg mb h) := mg
abbrev mbOf {p : PySem.Program} {l : List PySem.Str} {mean : ExcName → Option Value} {mg mb : PySem.Str → Option Value} {h : Heap} (_ : Top p l mean mg mb h) := mb
abbrev ledOf {h₀ h : Heap} {L : Addr} {news : Led} (_ : News h₀ L h news) := news
theorem next_use (w : PySem.World) (mean mg mb) (fA cA : Addr) (n nc : Nat) (vs : List Value) (ns : List Int) (k : Int) (t : Tok) (q : Int) (tq : Tok) (news : Led) (g : Obj → Led) (U : UpdF fA (listOf #[.ref cA, .int k t] n) news g)
    (hI : IntsAre vs ns) (hc : (cA, listOf vs.toArray nc) ∈ news) (hcf : cA ≠ fA) (hq : 0 < q) (hk0 : 0 ≤ k) (hk : k < 1000) (hl : vs.length < 1000) :
    Ct w mean mg mb 435 [.ref fA, .int q tq] 4 32 news (fun r n' => ∃ v tv t', r = .int v tv ∧ 0 ≤ v ∧ v < q ∧ n' = g (listOf #[.ref cA, .int (k + 1) t'] n)) := by
  unfold Ct
  intro dp un gd cn cs a ccd cl outer A₀ base h₀ L m s Q E B F X N T hk' hroom hu hret
  refine ex2 (U.split) ?_
  intro pre post hJz
  refine bPPPP hJz ?_
  clear hJz
  intro e hg h1 h2
  refine next_ct w mean mg mb fA cA n nc vs ns k t q tq (pre ++ post) hI (upd_mem e hc hcf) (upd_off h1 h2) hq hk0 hk hl dp un gd cn cs a ccd cl outer A₀ base h₀ L m s Q E B F X (cb_drop N (by rw [e]; exact upd_in)) T hk' hroom hu ?_
  intro r n' h' tk' hJz
  refine ex3 hJz ?_
  clear hJz
  intro v tv t' hJz
  refine bRPPR hJz ?_
  clear hJz
  intro hv0 hv1
  intro F' N'
  (try clear r)
  (try clear n')
  (try clear h')
  (try clear tk')
  exact hret _ _ h' tk' ⟨v, tv, t', rfl, hv0, hv1, rfl⟩ F' (by rw [hg]; exact cb_drop N' upd_out)
local macro_rules | `(tactic| walk_at "useN") => `(tactic| (k_here; k_dflt (refine' Ct.go (D := 4) (U := 32) (C := (next_use _ _ _ _ _ _ _ _ _ _ _ _ _ _ _ _ (by k_updF) (by assumption) (by k_mem) (by k_ne) (by first | decide | omega) (by omega) (by omega) (by first | assumption | omega))) (ret := ?_); k_whole)))
theorem lt1000 {vs : List Value} {ns : List Int} (h : IntsAre vs ns) (hn : ns.length < 1000) : vs.length < 1000 := by rw [IntsAre.length h]; exact hn
local macro_rules | `(tactic| walk_at "eval Name") => `(tactic| (k_here; k_dflt (refine' nameX_L ?F ?v ?_ ?a ?b; (case F => k_asm); (case a => rfl); (case b => rfl); (case v => first | with_reducible assumption | assumption); k_whole)))
theorem nat_of {z : Int} (h : 0 ≤ z) : ∃ k : Nat, z = (k : Int) := ⟨z.toNat, by omega⟩
local macro_rules | `(tactic| walk_at "eval Name") => `(tactic| (k_here; (with_reducible show wpAny _ _ (eval (PySem.Expr.Name _ _) (compEnvC _ _ _ _)) _ _ _); k_dflt (refine' lcf_cell ?N ?c ?m ?d ?_ ?a ?b; (case a => rfl); (case b => rfl); (case N => k_asm); (case c => rfl); (case m => repeat (first | with_reducible assumption | refine List.Mem.tail _ ?_)); (case d => assumption); k_whole)))
local macro_rules | `(tactic| walk_at "call builtin:list.extend") => `(tactic| (k_here; (with_reducible show wpAny _ _ (call (Value.builtin _) [Value.ref _, Value.ref _]) _ _ _); k_dflt (refine' my_extend (by k_asm) (by k_asm) (by k_mem) (by first | assumption | omega) (by k_upd) (by first | assumption | omega) (by first | assumption | omega) ?_); intro h' F' N'))
local macro_rules | `(tactic| walk_at "call type:list") => `(tactic| (k_here; (with_reducible show wpAny _ _ (call (Value.type _) [Value.ref _]) _ _ _); k_dflt (refine' my_list (by k_asm) (by k_asm) (by k_mem) (by first | assumption | omega) ?_); intro D' c' h' F' N' l1; (try k_lt l1)))
local macro_rules | `(tactic| walk_at "compareOp Eq ref ref") => `(tactic| (k_here; k_dflt (refine' eq_led (by k_asm) (by k_mem) (by k_mem) (by with_reducible assumption) (by first | units_room | k_room) ?_; k_whole)))
local macro_rules | `(tactic| walk_at "compareOp NotEq ref ref") => `(tactic| (k_here; k_dflt (refine' ne_led (by k_asm) (by k_mem) (by k_mem) (by with_reducible assumption) (by first | units_room | k_room) ?_; k_whole)))
local macro_rules | `(tactic| walk_at "goQ") => `(tactic| repeat' ((fail_if_success (with_reducible show wpAny _ _ (exec (PySem.Stmt.For _ _ _ _ _) _) _ _ _)); walk_at "u1"))
local macro_rules | `(tactic| walk_at "compareOp NotEq ref ref") => `(tactic| (k_here; k_dflt (refine' ne_bnds (by k_asm) (by k_mem) (by with_reducible assumption) (by first | units_room | k_room) ?_; k_whole)))
local macro_rules | `(tactic| walk_at "compareOp NotEq str str") => `(tactic| (k_here; k_dflt (refine' ne_str_self ?_; k_whole)))
local macro_rules | `(tactic| walk_at "compareOp Eq int int") => `(tactic| (k_here; k_dflt (refine' eq_int_off (by omega) ?_; k_whole)))
local macro_rules | `(tactic| walk_at "goJ") => `(tactic| repeat' ((fail_if_success (with_reducible show wpAny _ _ (execs (PySem.Stmt.Assign _ (PySem.Expr.IfExp _ _ _ _) _ :: _) _) _ _ _)); walk_at "u1"))
local macro_rules | `(tactic| walk_at "goE") => `(tactic| repeat' ((fail_if_success (with_reducible show wpAny _ _ (eval (PySem.Expr.IfExp _ _ _ _) _) _ _ _)); walk_at "u1"))
theorem wk_sub {a b c d e f : Prop} {x : Addr × Obj} {r : Led} {k : Addr} (h : a ∧ b ∧ c ∧ d ∧ (∀ p ∈ x :: r, p.1 < k) ∧ e ∧ f) : a ∧ b ∧ c ∧ d ∧ (∀ p ∈ r, p.1 < k) ∧ e ∧ f :=
  ⟨h.1, h.2.1, h.2.2.1, h.2.2.2.1, fun p hp => h.2.2.2.2.1 p (.tail _ hp), h.2.2.2.2.2⟩
theorem wk_drop {a b c d e x : Addr × Obj} {r : Led} : ∀ p ∈ a :: b :: c :: d :: e :: r, p ∈ a :: b :: c :: d :: e :: x :: r := fun p hp => by
  simp only [List.mem_cons] at hp ⊢
  rcases hp with h | h | h | h | h | h <;> simp [h]
def wk (b : Bool) : Addr := match b with | false => 421 | true => 428
theorem refused_wk (b : Bool) (w : PySem.World) (mean mg mb) (W dW : Addr) (es : List DictEntry) (n : Nat) (made : Int) (hl : Addr) (hs : Array Value) (nh : Nat) (madeA z : Int) (tc : Tok) {aA dA D I : Addr} {aes : List DictEntry} {ka k ki : Nat} {x : PySem.Str} {bs : List BndL} {rss : List (List Value)} {wide : Nat} {rest : Led} (hW : WorldOk es made hl)
    (hi : (W, instObj 375 dW) ∈ rest) (hne : ∀ p ∈ rest, p.1 ≠ dW)
    (H : ArrIn rest aA dA D I aes ka k ki madeA x bs rss wide) (hz : OutCol bs wide z)
    (dp un : Nat) (gd : Option (List PySem.Code)) (cn : PySem.Str) (cs : PySem.Scope) (a : Addr) (ccd : Value) (cl : List (PySem.Str × Addr)) (A₀ : Around) (base h₀ : Heap) (L : Addr) (m : PySem.Str → Option Value) (s : Shared) (Q E : Value → Shared → Prop)
    (B : Below A₀ base [] h₀) (F : Fr h₀ L s.heap m) (X : (top.heap_1 w.params).In h₀) (N : News h₀ L s.heap ((dW, dictOf es n) :: (hl, listOf hs nh) :: rest)) (T : Top top.view_1 (looseW top.view_1 [PySem.Str.ofString "SnobolError"]) mean mg mb h₀) (hk : cs.kind = .function) (hroom : dp + 40 < recursionLimit) (hu : un + 400 < cLine)
    (hret : ∀ t es' n1 h' tk', WorldOk es' (made + 1) hl → Fr h₀ L h' m → News h₀ L h' ((dW, dictOf es' n1) :: (hl, listOf hs nh) :: rest) → Q (.int 10 t) { s with heap := h', toks := tk' }) :
    wpAny (model PySem.Challenge.rw_rh0229_01.row.prog w) (ktrTop dp un gd cn cs L a ccd cl []) (call (.ref 456) [.ref (wk b), .ref W, .ref aA, .int z tc]) Q E s := by
  cases b
  · exact refused_sort w mean mg mb W dW es n made hl hs nh madeA z tc hW hi hne H hz dp un gd cn cs a ccd cl A₀ base h₀ L m s Q E B F X N T hk hroom hu hret
  · exact refused_rsort w mean mg mb W dW es n made hl hs nh madeA z tc hW hi hne H hz dp un gd cn cs a ccd cl A₀ base h₀ L m s Q E B F X N T hk hroom hu hret
local macro_rules | `(tactic| k_qdec) => `(tactic| decide +kernel)
local macro_rules | `(tactic| k_go0) => `(tactic| (k_fill; intro w s₀ s₁ mg mb G Y fa o pm cd doc dV kV ho hd hcd hD hmg hg args vals as hpre hlay hrd hwl hlo; have KX := kIn_my Y; k_behind G ho hd hcd hD hmg hpre hlay hrd hwl hlo cd))
set_option maxHeartbeats 4000000 in
theorem law_walk {d : DefRec} {kwd : List (PySem.Str × PySem.Expr)} (hdef : defOf top.view_1 PySem.Challenge.rw_rh0229_01.row.name = some (d, kwd)) :
    WalkO top.view_1 [PySem.Str.ofString "SnobolError"] (XL top.view_1 []) (InK top.heap_1) PySem.Challenge.rw_rh0229_01.row.toRowW d kwd fun f vs => PySem.call f vs := by
  refine walk_of (P := fun d kwd => WalkO top.view_1 [PySem.Str.ofString "SnobolError"] (XL top.view_1 []) (InK top.heap_1) PySem.Challenge.rw_rh0229_01.row.toRowW d kwd fun f vs => PySem.call f vs) (by rfl) hdef ?_
  clear hdef d kwd
  k_go0
  (all_goals try k_fold)
  walk_at "goP"
  rename PySem.World => w
  rename Top _ _ _ _ _ _ => TT
  rename News _ _ _ _ => N0
  have CC := world_ct w (meanOf TT) (mgOf TT) (mbOf TT) (ledOf N0)
  dsimp only [meanOf, mgOf, mbOf, ledOf] at CC
  walk_at "useC"
  intro r0 n0 h0 tk0 hJz
  refine ex5 hJz ?_
  clear hJz
  intro W dW hl es n hJz
  refine bRRPPPP hJz ?_
  clear hJz
  intro hW q1 q2 q3
  intro F0 N0
  (try clear r0)
  (try clear n0)
  (try clear h0)
  (try clear tk0)
  rename_i y1 y2 y3 cA ws y6 y7 y8 y9 y10 fA y12 y13 y14 y15
  rename Shared => s₁
  k_lt q1
  k_lt q2
  k_lt q3
  dsimp only
  walk_at "goP"
  rename IntsAre _ _ => hIc
  have hl1000 := lt1000 hIc (by rw [List.length_take]; exact Nat.lt_of_le_of_lt (Nat.min_le_left _ _) (by decide))
  walk_at "useN"
  intro r1 n1 h1 tk1 hJz
  refine ex3 hJz ?_
  clear hJz
  intro v1 tv1 t1 hJz
  refine bRPPR hJz ?_
  clear hJz
  intro v1a v1b
  intro F1 N1
  (try clear r1)
  (try clear n1)
  (try clear h1)
  (try clear tk1)
  dsimp only
  walk_at "goP"
  refine Mine.tok_any' ?_
  intro tkA
  walk_at "useN"
  intro r2 n2 h2 tk2 hJz
  refine ex3 hJz ?_
  clear hJz
  intro v2 tv2 t2 hJz
  refine bRPPR hJz ?_
  clear hJz
  intro v2a v2b
  intro F2 N2
  (try clear r2)
  (try clear n2)
  (try clear h2)
  (try clear tk2)
  dsimp only
  walk_at "goP"
  refine Mine.tok_any' ?_
  intro tkB
  walk_at "useN"
  intro r3 n3 h3 tk3 hJz
  refine ex3 hJz ?_
  clear hJz
  intro v3 tv3 t3 hJz
  refine bRPPR hJz ?_
  clear hJz
  intro v3a v3b
  intro F3 N3
  (try clear r3)
  (try clear n3)
  (try clear h3)
  (try clear tk3)
  dsimp only
  refine Mine.tok_any' ?_
  intro tkC
  walk_at "goP"
  refine ex1 (nat_of (z := 1 + v3) (om_1p v3a)) ?_
  intro many hJz
  revert hJz
  intro hmany
  refine ex1 (nat_of (z := 1 + v2) (om_1p v2a)) ?_
  intro wide hJz
  revert hJz
  intro hwide
  refine wpAny_execs_cons (wpAny_mono (Q := JIf s₁.heap s₁.heap.objs.size W dW hl fA cA (s₁.heap.objs.size + 1 + 1) (s₁.heap.objs.size + 1) es n ws s₁) ?if_ ?rest_ fun _ _ z => z)
  case rest_ =>
    intro fl s' hJz
    refine bRP hJz ?_
    clear hJz
    intro hJz
    refine ex15 hJz ?_
    clear hJz
    intro low wide many x ps ta tb tc td te ow of h6 tk6 m6 hJz
    refine bRPPPPPPPPP hJz ?_
    clear hJz
    intro HT F6 N6 how hof hlow hmany6 htold hworld
    (try clear fl)
    (try clear s')
    dsimp only
    refine wpAny_execs_cons (wpAny_mono (Q := JRows s₁.heap s₁.heap.objs.size W dW hl fA cA (s₁.heap.objs.size + 1 + 1) (s₁.heap.objs.size + 1) es n ws ow of wide many m6 s₁) ?rows_ ?rest2_ fun _ _ z => z)
    case rows_ =>
      refine opq fun KR hKR => ?_
      k_dflt (refine LCg.Assign_ListComp_U (F₀ := by k_asm) (by rfl) (by first | rfl | with_unfolding_all rfl | kernel_rfl) (by with_unfolding_all rfl) (by decide) (by rfl) (by decide) (by rfl) (by rfl) (by rfl) ?_)
      walk_at "goP"
      refine range_src (n := many) (fun i ys news => ∃ (rs : List RowL) (own : Led) (k : Int) (t : Tok), ys = List.map rref rs ∧ rs.length = i ∧ (∀ r ∈ rs, r.2.length = wide ∧ ∀ v ∈ r.2, IsAB v) ∧ news = own ++ LedG W dW hl fA cA (s₁.heap.objs.size + 1 + 1) (s₁.heap.objs.size + 1) es n ws ow of k t ∧ (∀ r ∈ rs, ∃ kk, (r.1, listOf r.2.toArray kk) ∈ own) ∧ 4 ≤ k ∧ k ≤ 4 + 3 * i ∧ ∀ p ∈ own, p.1 ≠ dW ∧ p.1 ≠ hl ∧ p.1 ≠ fA) (by rfl) (by k_asm) (base := [] ++ LedG W dW hl fA cA (s₁.heap.objs.size + 1 + 1) (s₁.heap.objs.size + 1) es n ws ow of 4 te) (by k_asm) (by assumption) rfl (Nat.lt_of_le_of_lt HT.m1 (by decide)) ⟨[], [], 4, te, rfl, rfl, by simp, rfl, by simp, Int.le_refl _, by decide, by simp⟩ ?st ?fi
      case fi =>
        intro g ys news hI D9 h9 tk9 F9 N9 off9
        refine ex4 hI ?_
        intro rs own k t hJz
        refine bPPPPPPPP hJz ?_
        clear hJz
        intro hEq1 hrl hrs hEq2 hro hk0 hk1 hown
        subst hEq1
        subst hEq2
        (try clear hI)
        have hD9 := off1_mem off9
        exact hKR _ _ ⟨rfl, D9, _, rs, own, k, t, h9, tk9, rfl, F9, N9, hrl, hrs, hro, hk0, hk1, hown, fun q => hD9 _ (List.mem_append_right _ (.tail _ (.head _))) q.symm, fun q => hD9 _ (List.mem_append_right _ (.tail _ (.tail _ (.head _)))) q.symm, fun q => hD9 _ (List.mem_append_right _ (.tail _ (.tail _ (.tail _ (.head _))))) q.symm⟩
      case st =>
        intro i ys news hi hI v I oI C oC D m₂ h tk E' g K hK hv hC hx F N off ne
        refine ex4 hI ?_
        intro rs own k t hJz
        refine bPPPPPPPP hJz ?_
        clear hJz
        intro hEq1 hrl hrs hEq2 hro hk0 hk1 hown
        subst hEq1
        subst hEq2
        (try clear hI)
        have mcw : (s₁.heap.objs.size + 1 + 1, ow) ∈ own ++ LedG W dW hl fA cA (s₁.heap.objs.size + 1 + 1) (s₁.heap.objs.size + 1) es n ws ow of k t := List.mem_append_right _ (.tail _ (.tail _ (.tail _ (.tail _ (.tail _ (.head _))))))
        k_dflt (refine LCg.ListComp_U (F₀ := F) (by with_unfolding_all rfl) (by decide) (by rfl) (by decide) (by rfl) ?_)
        walk_at "goP"
        rename News _ _ _ _ => N7
        rename Fr _ _ _ _ => F7
        refine range_src (n := wide) (fun j ys2 news2 => ∃ (k' : Int) (t' : Tok), ys2.length = j ∧ (∀ y ∈ ys2, IsAB y) ∧ news2 = (I, oI) :: (C, oC) :: (D, LCg.lst (List.map rref rs)) :: (own ++ LedG W dW hl fA cA (s₁.heap.objs.size + 1 + 1) (s₁.heap.objs.size + 1) es n ws ow of k' t') ∧ k ≤ k' ∧ k' ≤ k + j) (by rfl) F7 N7 (by assumption) rfl (Nat.lt_of_le_of_lt HT.w1 (by decide)) ⟨k, t, rfl, by simp, rfl, Int.le_refl _, om_k0 _⟩ ?st2 ?fi2
        case fi2 =>
          intro g2 ys2 news2 hI2 D3 h3 tk3 F3 N3 off3
          refine ex2 hI2 ?_
          intro k3 t3 hJz
          refine bPPPPP hJz ?_
          clear hJz
          intro hl3 his3 hEq1 hk3 hk3'
          subst hEq1
          (try clear hI2)
          have hD3 := off1_mem off3
          have hn3 : ∀ p ∈ own ++ LedG W dW hl fA cA (s₁.heap.objs.size + 1 + 1) (s₁.heap.objs.size + 1) es n ws ow of k3 t3, p.1 ≠ D3 := fun p hp => hD3 p (.tail _ (.tail _ (.tail _ hp)))
          refine hK _ _ (LCg.CompEnd.intro F3 N3 ((D3, LCg.lst ys2) :: (own ++ LedG W dW hl fA cA (s₁.heap.objs.size + 1 + 1) (s₁.heap.objs.size + 1) es n ws ow of k3 t3)) lead4 ⟨⟨(hD3 _ (.head _)).symm, (hD3 _ (.tail _ (.head _))).symm, (hD3 _ (.tail _ (.tail _ (.head _)))).symm⟩, off3_addr (by simp) off⟩ trivial ⟨rs ++ [(D3, ys2)], (D3, LCg.lst ys2) :: own, k3, t3, by simp, by simp [hrl], ?_, rfl, ?_, Int.le_trans hk0 hk3, om_k4 hk1 HT.w1 hk3', ?_⟩)
          · intro r hr
            rcases List.mem_append.mp hr with hr | hr
            · exact hrs r hr
            · rw [List.mem_singleton.mp hr]; exact ⟨hl3, his3⟩
          · intro r hr
            rcases List.mem_append.mp hr with hr | hr
            · refine ex1 (hro r hr) ?_
              intro kk hJz
              revert hJz
              intro hk
              exact ⟨kk, .tail _ hk⟩
            · rw [List.mem_singleton.mp hr]; exact ⟨_, .head _⟩
          · intro p hp
            rcases List.mem_cons.mp hp with rfl | hp
            · exact ⟨fun q => hn3 _ (List.mem_append_right _ (.tail _ (.head _))) q.symm, fun q => hn3 _ (List.mem_append_right _ (.tail _ (.tail _ (.head _)))) q.symm, fun q => hn3 _ (List.mem_append_right _ (.tail _ (.tail _ (.tail _ (.head _))))) q.symm⟩
            · exact hown p hp
        case st2 =>
          intro j ys2 news2 hj hI2 v2 I2 oI2 C2 oC2 D2 m3 h3 tk3 E3 g3 K3 hK3 hv2 hC2 hx2 F3 N3 off2 ne2
          refine ex2 hI2 ?_
          intro k3 t3 hJz
          refine bPPPPP hJz ?_
          clear hJz
          intro hl3 his3 hEq1 hk3 hk3'
          subst hEq1
          (try clear hI2)
          have mcf : (s₁.heap.objs.size + 1, of) ∈ own ++ LedG W dW hl fA cA (s₁.heap.objs.size + 1 + 1) (s₁.heap.objs.size + 1) es n ws ow of k3 t3 := List.mem_append_right _ (.tail _ (.tail _ (.tail _ (.tail _ (.tail _ (.tail _ (.head _)))))))
          walk_at "goP"
          rename News _ _ _ _ => N8
          rename Fr _ _ _ _ => F8
          rename Addr => l5
          have mf2 := off2.mem (fA, listOf #[.ref cA, .int k3 t3] 0) (.tail _ (.tail _ (.tail _ (List.mem_append_right _ (.tail _ (.tail _ (.tail _ (.head _))))))))
          have mf1 := off.mem (fA, listOf #[.ref cA, .int k t] 0) (List.mem_append_right _ (.tail _ (.tail _ (.tail _ (.head _)))))
          have h5f : l5 ≠ fA := ne_size N8 (.head _) (.tail _ (.tail _ (.tail _ (.tail _ (.tail _ (.tail _ (.tail _ (List.mem_append_right _ (.tail _ (.tail _ (.tail _ (.head _))))))))))))  (show (5 : Nat) ≠ 2 by decide)
          refine' Ct.use (D := 4) (U := 32) ?zk1 F8 ?zk3 (cb_drop (news := (fA, listOf #[.ref cA, .int k3 t3] 0) :: ([(l5, _), (I2, oI2), (C2, oC2), (D2, LCg.lst ys2), (I, oI), (C, oC), (D, LCg.lst (List.map rref rs))] ++ (own ++ ([(W, instObj 375 dW), (dW, dictOf es n), (hl, listOf #[] 0)] ++ [(cA, listOf ws.toArray 0), (s₁.heap.objs.size + 1 + 1, ow), (s₁.heap.objs.size + 1, of)])))) N8 pull) ?zk5 (by first | exact rfl | assumption) (next_ct w _ _ _ fA cA 0 0 ws _ k3 t3 5 _ _ hIc ?zc ?zne (by decide) ?z0 ?z1 hl1000) ?zkd ?zku ?_
          case zk1 => k_asm
          case zk3 => k_asm
          case zk5 => k_asm
          case zc => exact List.mem_append_right _ (List.mem_append_right _ (List.mem_append_right _ (.head _)))
          case zne => exact off_all (List.forall_mem_cons.mpr ⟨h5f, List.forall_mem_cons.mpr ⟨mf2.1.symm, List.forall_mem_cons.mpr ⟨mf2.2.1.symm, List.forall_mem_cons.mpr ⟨mf2.2.2.symm, List.forall_mem_cons.mpr ⟨mf1.1.symm, List.forall_mem_cons.mpr ⟨mf1.2.1.symm, List.forall_mem_cons.mpr ⟨mf1.2.2.symm, fun _ h => nomatch h⟩⟩⟩⟩⟩⟩⟩) (fun p hp => (hown p hp).2.2) (List.forall_mem_cons.mpr ⟨Nat.ne_of_gt q2.1, List.forall_mem_cons.mpr ⟨Nat.ne_of_gt q1.1, List.forall_mem_cons.mpr ⟨Nat.ne_of_gt q3.1, fun _ h => nomatch h⟩⟩⟩) (List.forall_mem_cons.mpr ⟨Nat.ne_of_lt y15.1, List.forall_mem_cons.mpr ⟨Nat.ne_of_lt y15.2.1, List.forall_mem_cons.mpr ⟨Nat.ne_of_lt y15.2.2, fun _ h => nomatch h⟩⟩⟩)
          case z0 => exact om_4 hk0 hk3
          case z1 => exact om_k3 hi HT.m1 hk1 hj HT.w1 hk3'
          case zkd => k_room
          case zku => k_room
          intro r9 n9 h9 tk9 hJz
          refine ex3 hJz ?_
          clear hJz
          intro v9 tv9 t9 hJz
          refine bRPPR hJz ?_
          clear hJz
          intro va vb
          intro F9 N9
          (try clear r9)
          (try clear n9)
          (try clear h9)
          (try clear tk9)
          replace N9 := cb_drop (news := [(l5, _), (I2, oI2), (C2, oC2), (D2, LCg.lst ys2), (I, oI), (C, oC), (D, LCg.lst (List.map rref rs))] ++ (own ++ ([(W, instObj 375 dW), (dW, dictOf es n), (hl, listOf #[] 0)] ++ (fA, listOf #[.ref cA, .int (k3 + 1) t9] 0) :: [(cA, listOf ws.toArray 0), (s₁.heap.objs.size + 1 + 1, ow), (s₁.heap.objs.size + 1, of)]))) N9 push
          dsimp only [List.cons_append, List.nil_append] at N9
          have hv5 : v9 = 0 ∨ v9 = 1 ∨ v9 = 2 ∨ v9 = 3 ∨ v9 = 4 := om_five va vb
          rcases hv5 with rfl | rfl | rfl | rfl | rfl
          all_goals (
            dsimp only
            walk_at "goP"
            rename News _ _ _ _ => NA
            rename Fr _ _ _ _ => FA
            refine hK3 _ _ (LCg.CompEnd.intro FA NA ((I, oI) :: (C, oC) :: (D, LCg.lst (List.map rref rs)) :: (own ++ LedG W dW hl fA cA (s₁.heap.objs.size + 1 + 1) (s₁.heap.objs.size + 1) es n ws ow of (k3 + 1) t9)) (fun p hp => .tail _ hp) (off3_addr (by simp) off2) trivial ⟨k3 + 1, t9, by simp [hl3], ?_, rfl, om_up hk3, om_k5 hk3'⟩)
            intro y hy
            rcases List.mem_append.mp hy with hy | hy
            · exact his3 y hy
            · rw [List.mem_singleton.mp hy]
              first | exact .inl ⟨_, _, rfl⟩ | exact .inr ⟨_, _, rfl, .inl rfl⟩ | exact .inr ⟨_, _, rfl, .inr rfl⟩)
    case rest2_ =>
      intro fl s' hJz
      refine bRP hJz ?_
      clear hJz
      intro hJz
      refine ex8 hJz ?_
      clear hJz
      intro DR kD rs own k t h7 tk7 hJz
      refine bRPPPPPPPPPPP hJz ?_
      clear hJz
      intro F7 N7 hrl hrs hro hk0 hk1 hown hD1 hD2 hD3
      (try clear fl)
      (try clear s')
      dsimp only
      walk_at "goP"
      rename News _ _ _ _ => N8
      rename Fr _ _ _ _ => F8
      rename Addr => aL
      have hcw : dW ≠ aL := obj_ne N8 (List.mem_cons_of_mem _ (List.mem_cons_of_mem _ (List.mem_append_right _ (.tail _ (.head _))))) (.head _) (by show Value.type "dict" ≠ Value.type "list"; decide)
      have hch : aL ≠ hl := ne_size N8 (.head _) (.tail _ (.tail _ (List.mem_append_right _ (.tail _ (.tail _ (.head _)))))) (show (2 : Nat) ≠ 0 by decide)
      have hWd : W ≠ dW := obj_ne N8 (.tail _ (.tail _ (List.mem_append_right _ (.head _)))) (.tail _ (.tail _ (List.mem_append_right _ (.tail _ (.head _))))) (by intro q; cases q)
      have hWh : W ≠ hl := obj_ne N8 (.tail _ (.tail _ (List.mem_append_right _ (.head _)))) (.tail _ (.tail _ (List.mem_append_right _ (.tail _ (.tail _ (.head _)))))) (by intro q; cases q)
      refine' Ct.use (D := 14) (U := 160) ?zk1 F8 ?zk3 (cb_drop (news := (dW, dictOf es n) :: (hl, listOf #[] 0) :: ([(aL, listOf #[.str x td, .str (PySem.Str.ofString "") tk7] 0), (DR, listOf (List.map rref rs).toArray kD)] ++ (own ++ ((W, instObj 375 dW) :: [(fA, listOf #[.ref cA, .int k t] 0), (cA, listOf ws.toArray 0), (s₁.heap.objs.size + 1 + 1, ow), (s₁.heap.objs.size + 1, of)])))) N8 pull2) ?zk5 (by first | exact rfl | assumption)
        (made_ct2 w _ _ _ W dW es n 0 hl #[] 0 aL 0 x td tk7 ps _ hW ?zi ?za ?zne ?zne2 (by decide) HT.sp HT.z HT.ok HT.len HT.szs (many * wide) ?zcnt HT.prod) ?zkd ?zku ?_
      case zk1 => k_asm
      case zk3 => k_asm
      case zk5 => k_asm
      case zi => exact List.mem_append_right _ (List.mem_append_right _ (.head _))
      case za => exact .head _
      case zne => exact off_two (List.forall_mem_cons.mpr ⟨hcw.symm, List.forall_mem_cons.mpr ⟨hD1, fun _ h => nomatch h⟩⟩) (fun p hp => (hown p hp).1) (List.forall_mem_cons.mpr ⟨hWd, List.forall_mem_cons.mpr ⟨Nat.ne_of_lt q1.1, List.forall_mem_cons.mpr ⟨Nat.ne_of_lt q1.2.1, List.forall_mem_cons.mpr ⟨Nat.ne_of_lt q1.2.2.1, List.forall_mem_cons.mpr ⟨Nat.ne_of_lt q1.2.2.2, fun _ h => nomatch h⟩⟩⟩⟩⟩)
      case zne2 => exact off_two (List.forall_mem_cons.mpr ⟨hch, List.forall_mem_cons.mpr ⟨hD2, fun _ h => nomatch h⟩⟩) (fun p hp => (hown p hp).2.1) (List.forall_mem_cons.mpr ⟨hWh, List.forall_mem_cons.mpr ⟨Nat.ne_of_lt q3.1, List.forall_mem_cons.mpr ⟨Nat.ne_of_lt q3.2.1, List.forall_mem_cons.mpr ⟨Nat.ne_of_lt q3.2.2.1, List.forall_mem_cons.mpr ⟨Nat.ne_of_lt q3.2.2.2, fun _ h => nomatch h⟩⟩⟩⟩⟩)
      case zcnt => exact Nat.lt_of_le_of_lt (Nat.mul_le_mul HT.m1 HT.w1) (by decide)
      case zkd => k_room
      case zku => k_room
      intro r9 n9 h9 tk9 hJz
      refine ex11 hJz ?_
      clear hJz
      intro A dA aes ka Ib Db kb bs ownB es2 n12 hJz
      refine bRRPPPPPPPPP hJz ?_
      clear hJz
      intro W2 hA2 hbs htup hB1 hB2 hB3 hB4 hB5
      intro F9 N9
      (try clear r9)
      (try clear n9)
      (try clear h9)
      (try clear tk9)
      dsimp only
      walk_at "goP"
      rename_i KL hz1 lK hz2 F10 N10 tkz
      obtain ⟨base, HB, bK, b1, b2, b3, b4, N11⟩ := to_base (wide := wide) (many := many) (low := low) N10 (bnd_ok hbs htup HT.szs fun p hp => hp) hro hown hD2 hD3 (Nat.ne_of_gt hB4) (Nat.ne_of_gt (hB2 (fA, listOf #[.ref cA, .int k t] 0) (List.mem_append_right _ (List.mem_append_right _ (.tail _ (.head _)))))) (Nat.ne_of_lt q3.2.1) (Nat.ne_of_lt y15.1) ⟨_, how⟩ ⟨_, hof⟩ (Nat.ne_of_lt hB5) (Nat.ne_of_gt q3.1) (ktn_ltOf (show AllLt _ (_ :: _ :: _ :: _ :: _ :: _) from lK))
      obtain ⟨m8, F11, g1, g2, g3, g4, g5, g6, g7⟩ : ∃ m8, Fr s₁.heap s₁.heap.objs.size _ m8 ∧ m8 (PySem.Str.ofString "kept") = some (.ref KL) ∧ m8 (PySem.Str.ofString "array") = some (.ref A) ∧ m8 (PySem.Str.ofString "rows") = some (.ref DR) ∧ m8 (PySem.Str.ofString "low") = some (.int low tb) ∧ m8 (PySem.Str.ofString "many") = some (.int (many : Int) tc) ∧ m8 (PySem.Str.ofString "told") = some (.str x td) ∧ m8 (PySem.Str.ofString "world") = some (.ref W) := ⟨_, F10, rfl, rfl, rfl, hlow, hmany6, htold, hworld⟩
      clear F10 N10
      try clear N9
      try clear F9
      try clear N8
      try clear F8
      try clear N7
      try clear F7
      try clear N6
      try clear F6
      with_unfolding_all refine' For_turns F11 ?_
      k_whole
      walk_at "goP"
      rename News _ _ _ _ => N12
      rename Fr _ _ _ _ => F12
      refine for_list (fun I r m₁ news₁ => ∃ (dn todo : List RowL) (kk : Nat), rs = dn ++ todo ∧ r = List.map rref todo ∧ news₁ = (KL, listOf (dn.flatMap (·.2)).toArray kk) :: (dW, dictOf es2 n12) :: (hl, listOf (#[].push (.ref A)) (0 + 1)) :: (dA, dictOf aes ka) :: (fA, listOf #[.ref cA, .int k t] 0) :: base ∧ m₁ (PySem.Str.ofString "kept") = some (.ref KL) ∧ ∀ z, z ≠ PySem.Str.ofString "row" → m₁ z = m8 z) rfl F12 N12 (.tail _ (.tail _ (.tail _ (.tail _ (.tail _ HB.rowsL))))) ?lz ?ls ?ld
      case lz =>
        intro I hI
        exact ⟨[], rs, 0, rfl, rfl, rfl, g1, fun _ _ => rfl⟩
      case ls =>
        intro I oI v r m₁ news₁ h tk K hK hJz
        refine ex3 hJz ?_
        clear hJz
        intro dn todo kk hJz
        refine bPPRPP hJz ?_
        clear hJz
        intro hrs2 hr hk1 hm1
        intro hk1' hI F₁ N₁
        (try clear I)
        (try clear oI)
        (try clear v)
        (try clear r)
        (try clear m₁)
        (try clear news₁)
        (try clear h)
        (try clear tk)
        obtain ⟨row, todo, rfl, rfl, rfl⟩ : ∃ b t', todo = b :: t' ∧ v = rref b ∧ r = List.map rref t' := by
          cases todo with
          | nil => simp at hr
          | cons row t' => simp at hr; exact ⟨row, t', rfl, hr.1, hr.2⟩
        clear hr
        have hrow : row ∈ rs := by rw [hrs2]; simp
        refine ex1 (HB.rowL row hrow) ?_
        intro kr hJz
        revert hJz
        intro hkr
        have hdn : ∀ r ∈ dn, r.2.length = wide := fun r hr => (hrs r (by rw [hrs2]; exact List.mem_append_left _ hr)).1
        have hlr := (hrs row hrow).1
        have hw0 := HT.w0
        have hw1 := HT.w1
        have hm1' := HT.m1
        have hdl : dn.length ≤ 4 := by
          have hq : rs.length = dn.length + (todo.length + 1) := by rw [hrs2]; simp
          exact om_len hq (by rw [hrl]; exact hm1')
        have hz1 : (dn.flatMap (·.2)).length < 1000 := by
          rw [flat_lenR dn hdn]
          exact Nat.lt_of_le_of_lt (Nat.mul_le_mul hdl hw1) (by decide)
        have hne : row.2.length ≠ 0 := om_ne hlr hw0
        have hz2 : row.2.length < 1000 := om_ln hlr hw1
        have hIK : I ≠ KL := (hI _ (.head _)).symm
        have ez : dn.flatMap (·.2) ++ row.2 = (dn ++ [row]).flatMap (·.2) := by simp
        dsimp only
        walk_at "goP"
        rename News _ _ _ _ => N13
        rename Fr _ _ _ _ => F13
        rw [ez] at N13
        exact hK F13 N13 ((KL, listOf ((dn ++ [row]).flatMap (·.2)).toArray (kk + 1)) :: (dW, dictOf es2 n12) :: (hl, listOf (#[].push (.ref A)) (0 + 1)) :: (dA, dictOf aes ka) :: (fA, listOf #[.ref cA, .int k t] 0) :: base) (fun p hp => hp) (List.forall_mem_cons.mpr ⟨hIK.symm, fun p hp => hI p (.tail _ hp)⟩) (.tail _ (.tail _ (.tail _ (.tail _ (.tail _ HB.rowsL))))) ⟨dn ++ [row], todo, kk + 1, by rw [hrs2]; simp, rfl, rfl, hk1, fun z hz => by show (if z = _ then _ else _) = _; rw [if_neg hz]; exact hm1 z hz⟩
      case ld =>
        intro I m₁ news₁ h tk hJz
        refine ex3 hJz ?_
        clear hJz
        intro dn todo kk hJz
        refine bPPRPP hJz ?_
        clear hJz
        intro hrs2 hr hk1 hm1
        intro F₁ N₁
        (try clear I)
        (try clear m₁)
        (try clear news₁)
        (try clear h)
        (try clear tk)
        have : todo = [] := List.map_eq_nil_iff.mp hr.symm
        subst this
        rw [List.append_nil] at hrs2
        subst hrs2
        have hv : (rs.flatMap (·.2)).length < 100 := by
          rw [flat_lenR rs fun r hr => (hrs r hr).1, hrl]
          exact Nat.lt_of_le_of_lt (Nat.mul_le_mul HT.m1 HT.w1) (by decide)
        have hv1 : (rs.flatMap (·.2)).length < 1000 := Nat.lt_trans hv (by decide)
        have g2' := (hm1 (PySem.Str.ofString "array") (by decide)).trans g2
        have g3' := (hm1 (PySem.Str.ofString "rows") (by decide)).trans g3
        have g4' := (hm1 (PySem.Str.ofString "low") (by decide)).trans g4
        have g5' := (hm1 (PySem.Str.ofString "many") (by decide)).trans g5
        have g6' := (hm1 (PySem.Str.ofString "told") (by decide)).trans g6
        have g7' := (hm1 (PySem.Str.ofString "world") (by decide)).trans g7
        have hAi := HB.arr
        have hoA : ∀ p ∈ base, p.1 ≠ dA := fun p hp => (HB.off p hp).2.2.1
        have hof2 : ∀ p ∈ base, p.1 ≠ fA := fun p hp => (HB.off p hp).2.2.2
        have hit := hA2.items
        have hln := hA2.len
        have n2 : @Ne Nat dW dA := HB.n2
        have n4 : @Ne Nat hl dA := HB.n4
        have n6 : @Ne Nat dA fA := HB.n6
        have n3 : @Ne Nat dW fA := HB.n3
        have n5 : @Ne Nat hl fA := HB.n5
        have mcf := HB.cfeed
        have mcw := HB.cwide
        have mcA := HB.cells
        have F₁' : Fr s₁.heap s₁.heap.objs.size h m₁ := F₁
        have N₁' : News s₁.heap s₁.heap.objs.size h _ := N₁
        clear F₁ N₁
        dsimp only
        walk_at "goP"
        have hw0 := HT.w0
        have hw1 := HT.w1
        have hm1' := HT.m1
        walk_at "useN"
        intro r9 n9 h9 tk9 hJz
        refine ex3 hJz ?_
        clear hJz
        intro at_ tat t9 hJz
        refine bRPPR hJz ?_
        clear hJz
        intro at0 at1
        intro F9 N9
        (try clear r9)
        (try clear n9)
        (try clear h9)
        (try clear tk9)
        dsimp only
        refine Mine.tok_any' ?_
        intro tk10
        walk_at "goP"
        rename_i L2 c2 h12 F12a N12a l12 h8a F8a N8a tk5a h4a F14 N14 tk1a
        clear F12a N12a F8a N8a
        obtain ⟨aes2, ka2, hA3, N15⟩ : ∃ aes2 ka2, ArrOk aes2 1 x Db L2 ∧ News s₁.heap s₁.heap.objs.size h4a ((L2, listOf (rs.flatMap (·.2)).toArray c2) :: (KL, listOf (rs.flatMap (·.2)).toArray kk) :: (dW, dictOf es2 n12) :: (hl, listOf (#[].push (.ref A)) (0 + 1)) :: (dA, dictOf aes2 ka2) :: (fA, listOf #[.ref cA, .int (k + 1) t9] 0) :: base) := ⟨_, _, hA2.putItems, N14⟩
        obtain ⟨m9, F15, j1, j2, j3, j4, j5, j6, j7⟩ : ∃ m9, Fr s₁.heap s₁.heap.objs.size h4a m9 ∧ m9 (PySem.Str.ofString "kept") = some (.ref KL) ∧ m9 (PySem.Str.ofString "array") = some (.ref A) ∧ m9 (PySem.Str.ofString "rows") = some (.ref DR) ∧ m9 (PySem.Str.ofString "low") = some (.int low tb) ∧ m9 (PySem.Str.ofString "told") = some (.str x td) ∧ m9 (PySem.Str.ofString "world") = some (.ref W) ∧ m9 (PySem.Str.ofString "at") = some (.int at_ tat) := ⟨_, F14, hk1, g2', g3', g4', g6', g7', rfl⟩
        clear N14 F14
        refine ex1 (to_main N15 HB HT hbs hA3 hrl hrs l12.2.1 l12.2.2.1 b1 b2) ?_
        intro B2 hJz
        refine bPP hJz ?_
        clear hJz
        intro HM N16
        clear N15
        have hV : ∀ v ∈ rs.flatMap (·.2), IsAB v := fun v hv => by
          refine ex1 (List.mem_flatMap.mp hv) ?_
          intro r hJz
          refine bPP hJz ?_
          clear hJz
          intro hr hv'
          exact (hrs r hr).2 v hv'
        refine wpAny_mono (Q := JMain s₁.heap s₁.heap.objs.size A dA L2 KL aes2 ka2 c2 kk (rs.flatMap (·.2)) s₁) ?loop_ ?last_ fun _ _ z => z
        case last_ =>
          intro fl s' hJz
          refine bRP hJz ?_
          clear hJz
          intro hJz
          refine ex3 hJz ?_
          clear hJz
          intro h17 tk17 m17 hJz
          refine bRPPPP hJz ?_
          clear hJz
          intro F17 N17 ga gk
          (try clear fl)
          (try clear s')
          have hit2 := hA3.items
          clear F15 N16
          dsimp only
          walk_at "goP"
          dsimp only
          k_steps
        case loop_ =>
          refine opq fun KM hKM => ?_
          with_unfolding_all refine' For_turns F15 ?_
          k_whole
          walk_at "goP"
          rename_i TA h18 F17 N17 l17
          have hTA1 : @Ne Nat TA dW := Nat.ne_of_gt l17.1
          have hTA2 : @Ne Nat TA hl := Nat.ne_of_gt l17.2.1
          have hTA3 : ∀ p ∈ B2, p.1 < TA := ktn_ltOf l17.2.2
          refine for_tup (fun I r m₁ news₁ => ∃ (es' : List DictEntry) (n' : Nat) (made : Int) (hs : Array Value) (nh : Nat) (dn : List Value), [Value.bool false, .bool true] = dn ++ r ∧ WorldOk es' made hl ∧ hs.size + 10 * r.length ≤ 100 ∧ 1 ≤ made ∧ news₁ = (TA, tupO [.bool false, .bool true]) :: (dW, dictOf es' n') :: (hl, listOf hs nh) :: B2 ∧ m₁ (PySem.Str.ofString "kept") = some (.ref KL) ∧ m₁ (PySem.Str.ofString "array") = some (.ref A) ∧ m₁ (PySem.Str.ofString "rows") = some (.ref DR) ∧ m₁ (PySem.Str.ofString "low") = some (.int low tb) ∧ m₁ (PySem.Str.ofString "told") = some (.str x td) ∧ m₁ (PySem.Str.ofString "world") = some (.ref W) ∧ m₁ (PySem.Str.ofString "at") = some (.int at_ tat)) rfl F17 N17 (.head _) ?lz ?ls ?ld
          case lz =>
            intro I hI
            exact ⟨es2, n12, 1, #[].push (.ref A), 0 + 1, [], rfl, W2, (show (1 : Nat) + 10 * 2 ≤ 100 by decide), (show (1 : Int) ≤ 1 by decide), rfl, j1, j2, j3, j4, j5, j6, j7⟩
          case ld =>
            intro I m₁ news₁ h tk hJz
            refine ex6 hJz ?_
            clear hJz
            intro es' n' made hs nh dn hJz
            refine bPPPPRPPPPPPP hJz ?_
            clear hJz
            intro hdn W' hsz hmd mk ma mr ml mt mw mat
            intro F₁ N₁
            (try clear I)
            (try clear m₁)
            (try clear news₁)
            (try clear h)
            (try clear tk)
            have hA' : (A, instObj 236 dA) ∈ B2 := HM.arr.inst
            have hd' : (dA, dictOf aes2 ka2) ∈ B2 := HM.arr.dict
            have hI' : (L2, listOf (rs.flatMap (·.2)).toArray c2) ∈ B2 := by
              have := HM.arr.items
              rw [← List.flatMap_def] at this
              exact this
            exact hKM _ _ ⟨rfl, h, tk, m₁, rfl, F₁, fun p hp => by
              simp only [List.mem_cons, List.not_mem_nil, or_false] at hp
              rcases hp with rfl | rfl | rfl | rfl
              · exact N₁ _ (.tail _ (.tail _ (.tail _ hA')))
              · exact N₁ _ (.tail _ (.tail _ (.tail _ hd')))
              · exact N₁ _ (.tail _ (.tail _ (.tail _ hI')))
              · exact N₁ _ (.tail _ (.tail _ (.tail _ HM.keptL))), ma, mk⟩
          case ls =>
            intro I oI v r m₁ news₁ h tk K1 hK1 hJz
            refine ex6 hJz ?_
            clear hJz
            intro es' n' made hs nh dn hJz
            refine bPPPPRPPPPPPP hJz ?_
            clear hJz
            intro hdn W' hsz hmd mk ma mr ml mt mw mat
            intro hk1' hI F₁ N₁
            (try clear I)
            (try clear oI)
            (try clear v)
            (try clear r)
            (try clear m₁)
            (try clear news₁)
            (try clear h)
            (try clear tk)
            obtain ⟨b, rfl⟩ : ∃ b, v = .bool b := by
              have hm : v ∈ [Value.bool false, .bool true] := by rw [hdn]; simp
              simp only [List.mem_cons, List.not_mem_nil, or_false] at hm
              rcases hm with rfl | rfl
              · exact ⟨_, rfl⟩
              · exact ⟨_, rfl⟩
            have mcw := HM.cwide
            have hlo0 := HT.l0
            have hlo1 := HT.l1
            have hIW : @Ne Nat I dW := (hI _ (.tail _ (.head _))).symm
            have hIh : @Ne Nat I hl := (hI _ (.tail _ (.tail _ (.head _)))).symm
            dsimp only
            walk_at "goJ"
            rename Fr _ _ _ _ => FW
            rename News _ _ _ _ => NW
            k_dflt (refine cut_ref (PySem.Str.ofString "work") (wk b) FW NW ?wa ?wb)
            case wa =>
              cases b
              · walk_at "goP"
                exact ⟨rfl, _, _, rfl, by assumption, by assumption⟩
              · walk_at "goP"
                exact ⟨rfl, _, _, rfl, by assumption, by assumption⟩
            intro h18b tk19 F18 N18
            clear FW NW
            dsimp only
            walk_at "goP"
            obtain ⟨m18, F19, n1, n2', n3', n4', n5', n6', n7', n8', n9'⟩ : ∃ m18, Fr s₁.heap s₁.heap.objs.size h18b m18 ∧ m18 (PySem.Str.ofString "work") = some (.ref (wk b)) ∧ m18 (PySem.Str.ofString "is_down") = some (.bool b) ∧ m18 (PySem.Str.ofString "array") = some (.ref A) ∧ m18 (PySem.Str.ofString "rows") = some (.ref DR) ∧ m18 (PySem.Str.ofString "low") = some (.int low tb) ∧ m18 (PySem.Str.ofString "told") = some (.str x td) ∧ m18 (PySem.Str.ofString "world") = some (.ref W) ∧ m18 (PySem.Str.ofString "at") = some (.int at_ tat) ∧ m18 (PySem.Str.ofString "kept") = some (.ref KL) := ⟨_, F18, rfl, rfl, ma, mr, ml, mt, mw, mat, mk⟩
            clear F18
            with_unfolding_all refine' For_turns F19 ?_
            k_whole
            walk_at "goP"
            rename_i T1 hx1 lx1 T2 hx2 lx2 T3 hx3 lx3 TO h20 F20 N20 l20
            have lT : ∀ p ∈ (T3, tup2 (.str (PySem.Str.ofString (toString (low + at_))) (tk19 + 1 + 1 + 1 + 1)) (.int at_ tat)) :: (T2, tup2 (.int low tb) (.int 0 (tk19 + 1 + 1))) :: (T1, tup2 (.str (PySem.Str.ofString "") tk19) (.int 0 (tk19 + 1))) :: (I, oI) :: (TA, tupO [Value.bool false, .bool true]) :: (dW, dictOf es' n') :: (hl, listOf hs nh) :: B2, p.1 < TO := ktn_ltOf l20
            obtain ⟨B3, N21, mTO, mT1, mT2, mT3, mI, mTA, sB, o1, o2⟩ : ∃ B3, News s₁.heap s₁.heap.objs.size h20 ((dW, dictOf es' n') :: (hl, listOf hs nh) :: B3) ∧ (TO, tupO [.ref T1, .ref T2, .ref T3]) ∈ B3 ∧ (T1, tup2 (.str (PySem.Str.ofString "") tk19) (.int 0 (tk19 + 1))) ∈ B3 ∧ (T2, tup2 (.int low tb) (.int 0 (tk19 + 1 + 1))) ∈ B3 ∧ (T3, tup2 (.str (PySem.Str.ofString (toString (low + at_))) (tk19 + 1 + 1 + 1 + 1)) (.int at_ tat)) ∈ B3 ∧ (I, oI) ∈ B3 ∧ (TA, tupO [.bool false, .bool true]) ∈ B3 ∧ (∀ p ∈ B2, p ∈ B3) ∧ (∀ p ∈ B3, p.1 ≠ dW) ∧ ∀ p ∈ B3, p.1 ≠ hl := by
              refine ⟨[(TO, tupO [.ref T1, .ref T2, .ref T3]), (T3, tup2 (.str (PySem.Str.ofString (toString (low + at_))) (tk19 + 1 + 1 + 1 + 1)) (.int at_ tat)), (T2, tup2 (.int low tb) (.int 0 (tk19 + 1 + 1))), (T1, tup2 (.str (PySem.Str.ofString "") tk19) (.int 0 (tk19 + 1))), (I, oI), (TA, tupO [.bool false, .bool true])] ++ B2, cb_drop N20 bring2, .head _, .tail _ (.tail _ (.tail _ (.head _))), .tail _ (.tail _ (.head _)), .tail _ (.head _), .tail _ (.tail _ (.tail _ (.tail _ (.head _)))), .tail _ (.tail _ (.tail _ (.tail _ (.tail _ (.head _))))), fun p hp => List.mem_append_right _ hp, ?_, ?_⟩
              · intro p hp
                rcases List.mem_append.mp hp with hp | hp
                · simp only [List.mem_cons, List.not_mem_nil, or_false] at hp
                  rcases hp with rfl | rfl | rfl | rfl | rfl | rfl
                  · exact Nat.ne_of_gt l20.2.2.2.2.2.1
                  · exact Nat.ne_of_gt lx3.2.2.2.2.1
                  · exact Nat.ne_of_gt lx2.2.2.2.1
                  · exact Nat.ne_of_gt lx1.2.2.1
                  · exact hIW
                  · exact hTA1
                · exact (HM.off p hp).1
              · intro p hp
                rcases List.mem_append.mp hp with hp | hp
                · simp only [List.mem_cons, List.not_mem_nil, or_false] at hp
                  rcases hp with rfl | rfl | rfl | rfl | rfl | rfl
                  · exact Nat.ne_of_gt l20.2.2.2.2.2.2.1
                  · exact Nat.ne_of_gt lx3.2.2.2.2.2.1
                  · exact Nat.ne_of_gt lx2.2.2.2.2.1
                  · exact Nat.ne_of_gt lx1.2.2.2.1
                  · exact hIh
                  · exact hTA2
                · exact (HM.off p hp).2
            clear N20
            have MF : MFacts m18 KL A DR W (wk b) b low at_ tb tat td x := ⟨n9', n3', n4', n5', n6', n7', n8', n1, n2'⟩
            refine for_tup (fun I2 r2 m₁ news₁ => ∃ (es2' : List DictEntry) (n2a : Nat) (made2 : Int) (hs2 : Array Value) (nh2 : Nat) (dn2 : List Value), [Value.ref T1, .ref T2, .ref T3] = dn2 ++ r2 ∧ WorldOk es2' made2 hl ∧ hs2.size + r2.length ≤ hs.size + 3 ∧ 1 ≤ made2 ∧ news₁ = (dW, dictOf es2' n2a) :: (hl, listOf hs2 nh2) :: B3 ∧ MFacts m₁ KL A DR W (wk b) b low at_ tb tat td x) rfl F20 N21 (.tail _ (.tail _ mTO)) ?lz2 ?ls2 ?ld2
            case lz2 =>
              intro I2 hI2
              exact ⟨es', n', made, hs, nh, [], rfl, W', Nat.le_refl _, hmd, rfl, MF⟩
            case ls2 =>
              intro I2 oI2 v2 r2 m₁ news₁ h tk K2 hK2 hJz
              refine ex6 hJz ?_
              clear hJz
              intro es2' n2a made2 hs2 nh2 dn2 hJz
              refine bPPPPRP hJz ?_
              clear hJz
              intro hdn2 W2' hsz2 hmd2 MF2
              intro hkk hI2 F₁ N₁
              (try clear I2)
              (try clear oI2)
              (try clear v2)
              (try clear r2)
              (try clear m₁)
              (try clear news₁)
              (try clear h)
              (try clear tk)
              obtain ⟨T, colV, c, tw, rfl, mT, hcol, hc⟩ : ∃ T colV, ∃ (c : Nat) (tw : Tok), v2 = .ref T ∧ (T, tup2 colV (.int (c : Int) tw)) ∈ B3 ∧ ColOk colV (lowOf bs) c ∧ c < wide := by
                have hm : v2 ∈ [Value.ref T1, .ref T2, .ref T3] := by rw [hdn2]; simp
                simp only [List.mem_cons, List.not_mem_nil, or_false] at hm
                rcases hm with rfl | rfl | rfl
                · exact ⟨T1, _, 0, _, rfl, mT1, .inl ⟨_, rfl, rfl⟩, HT.w0⟩
                · exact ⟨T2, _, 0, _, rfl, mT2, .inr (.inl ⟨tb, by rw [HM.low]; simp⟩), HT.w0⟩
                · refine ex1 (nat_of at0) ?_
                  intro c hJz
                  revert hJz
                  intro hc
                  exact ⟨T3, _, c, tat, rfl, by rw [← hc]; exact mT3, .inr (.inr ⟨_, _, rfl, by rw [HM.low, ← hc]; exact num_of (om_la HT.l0 (hc ▸ at0)) (om_lb HT.l1 (hc ▸ at1) HT.w1)⟩), om_c hc at1⟩
              have hI2W : @Ne Nat I2 dW := (hI2 _ (.head _)).symm
              have hI2h : @Ne Nat I2 hl := (hI2 _ (.tail _ (.head _))).symm
              have F₁' : Fr s₁.heap s₁.heap.objs.size h m₁ := F₁
              have N₁' : News s₁.heap s₁.heap.objs.size h ((I2, oI2) :: (dW, dictOf es2' n2a) :: (hl, listOf hs2 nh2) :: B3) := N₁
              clear F₁ N₁
              obtain ⟨f1, f2, f3, f4, f5, f6, f7, f8, f9⟩ := MF2
              dsimp only
              walk_at "goE"
              rename Fr _ _ _ _ => FV
              rename News _ _ _ _ => NV
              k_dflt (refine cut_val (WorkR ([(I2, oI2)] ++ B3) dW hl hs2 nh2 made2 x Db (sortR (bhc b c) (List.map (fun x => x.2) rs)).flatten) FV NV ?va ?vb)
              case va =>
                refine opq fun KV hKV => ?_
                cases b
                case false =>
                  have f8 : m₁ (PySem.Str.ofString "work") = some (.ref 421) := f8
                  walk_at "goQ"
                  rename_i LA h21 F21 N21a l21
                  have oLA : @Ne Nat LA dW := Nat.ne_of_gt l21.2.1
                  have oLh : @Ne Nat LA hl := Nat.ne_of_gt l21.2.2.1
                  refine' Ct.use (D := 26) (U := 250) ?zc1 F21 ?zc3 (cb_drop (news := (dW, dictOf es2' n2a) :: (hl, listOf hs2 nh2) :: ([(LA, listOf #[.ref A, colV] 0), (I2, oI2)] ++ B3)) N21a bring2) ?zc5 (by first | exact rfl | assumption)
                    (sort_ct w _ _ _ W dW es2' n2a made2 hl hs2 nh2 LA 0 1 colV c W2' (.tail _ (.tail _ (sB _ HM.inst))) (.head _) (List.forall_mem_cons.mpr ⟨oLA, List.forall_mem_cons.mpr ⟨hI2W, o1⟩⟩) (List.forall_mem_cons.mpr ⟨oLh, List.forall_mem_cons.mpr ⟨hI2h, o2⟩⟩) ?zc6 (HM.arr.sub fun p hp => .tail _ (.tail _ (sB p hp))) hc hcol) ?zc7 ?zc8 ?_
                  case zc1 => k_asm
                  case zc3 => k_asm
                  case zc5 => k_asm
                  case zc6 =>
                    exact om_hs (b := r2.length) (d := r.length) hsz2 hsz
                  case zc7 => k_room
                  case zc8 => k_room
                  intro r22 n22 h22 tk22 hR22
                  refine ex8 hR22 ?_
                  clear hR22
                  intro A4 dA4 aes4 ka4 I4 ki4 es4 n4a hJz
                  refine bRRP hJz ?_
                  clear hJz
                  intro hJz F22 N22
                  exact hKV _ _ ⟨_, _, _, ⟨A4, dA4, aes4, ka4, I4, ki4, es4, n4a, rfl, rfl, wk_sub hJz⟩, rfl, F22, cb_drop N22 wk_drop⟩
                case true =>
                  have f8 : m₁ (PySem.Str.ofString "work") = some (.ref 428) := f8
                  walk_at "goQ"
                  rename_i LA h21 F21 N21a l21
                  have oLA : @Ne Nat LA dW := Nat.ne_of_gt l21.2.1
                  have oLh : @Ne Nat LA hl := Nat.ne_of_gt l21.2.2.1
                  refine' Ct.use (D := 26) (U := 250) ?zc1 F21 ?zc3 (cb_drop (news := (dW, dictOf es2' n2a) :: (hl, listOf hs2 nh2) :: ([(LA, listOf #[.ref A, colV] 0), (I2, oI2)] ++ B3)) N21a bring2) ?zc5 (by first | exact rfl | assumption)
                    (rsort_ct w _ _ _ W dW es2' n2a made2 hl hs2 nh2 LA 0 1 colV c W2' (.tail _ (.tail _ (sB _ HM.inst))) (.head _) (List.forall_mem_cons.mpr ⟨oLA, List.forall_mem_cons.mpr ⟨hI2W, o1⟩⟩) (List.forall_mem_cons.mpr ⟨oLh, List.forall_mem_cons.mpr ⟨hI2h, o2⟩⟩) ?zc6 (HM.arr.sub fun p hp => .tail _ (.tail _ (sB p hp))) hc hcol) ?zc7 ?zc8 ?_
                  case zc1 => k_asm
                  case zc3 => k_asm
                  case zc5 => k_asm
                  case zc6 =>
                    exact om_hs (b := r2.length) (d := r.length) hsz2 hsz
                  case zc7 => k_room
                  case zc8 => k_room
                  intro r22 n22 h22 tk22 hR22
                  refine ex8 hR22 ?_
                  clear hR22
                  intro A4 dA4 aes4 ka4 I4 ki4 es4 n4a hJz
                  refine bRRP hJz ?_
                  clear hJz
                  intro hJz F22 N22
                  exact hKV _ _ ⟨_, _, _, ⟨A4, dA4, aes4, ka4, I4, ki4, es4, n4a, rfl, rfl, wk_sub hJz⟩, rfl, F22, cb_drop N22 wk_drop⟩
              intro r22 n22 h22 tk22 hJz
              clear FV NV
              refine ex8 hJz ?_
              clear hJz
              intro A4 dA4 aes4 ka4 I4 ki4 es4 n4a hJz
              refine bRRPPPPPPP hJz ?_
              clear hJz
              intro W4 hA4 p1 p2 p3 p4 p5
              intro F22 N22
              (try clear r22)
              (try clear n22)
              (try clear h22)
              (try clear tk22)
              dsimp only
              walk_at "goQ"
              rename_i Du hd1 lDu TD hd2 lTD hd3 hd4 h23 F23 N23 tk23
              obtain ⟨m23, F24, u1, u2, u3, MF3⟩ : ∃ m23, Fr s₁.heap s₁.heap.objs.size h23 m23 ∧ m23 (PySem.Str.ofString "found") = some (.ref A4) ∧ m23 (PySem.Str.ofString "due") = some (.ref Du) ∧ m23 (PySem.Str.ofString "which") = some (.int (c : Int) tw) ∧ MFacts m23 KL A DR W (wk b) b low at_ tb tat td x := ⟨_, F23, rfl, rfl, rfl, ⟨f1, f2, f3, f4, f5, f6, f7, f8, f9⟩⟩
              obtain ⟨B4, N24, mA4, mdA4, mI4, mW4, mh4, mI2, sB4, oDu⟩ : ∃ B4, News s₁.heap s₁.heap.objs.size h23 ((Du, listOf #[] 0) :: B4) ∧ (A4, instObj 236 dA4) ∈ B4 ∧ (dA4, dictOf aes4 ka4) ∈ B4 ∧ (I4, listOf (sortR (bhc b c) (List.map (fun x => x.2) rs)).flatten.toArray ki4) ∈ B4 ∧ (dW, dictOf es4 n4a) ∈ B4 ∧ (hl, listOf (hs2.push (.ref A4)) (nh2 + 1)) ∈ B4 ∧ (I2, oI2) ∈ B4 ∧ (∀ p ∈ B3, p ∈ B4) ∧ ∀ p ∈ B4, p.1 < Du :=
                ⟨_, cb_drop N23 (fun p hp => .tail _ hp), .tail _ (.tail _ (.head _)), .tail _ (.tail _ (.tail _ (.head _))), .tail _ (.tail _ (.tail _ (.tail _ (.head _)))), .head _, .tail _ (.head _), .tail _ (.tail _ (.tail _ (.tail _ (.tail _ (.head _))))), fun p hp => .tail _ (.tail _ (.tail _ (.tail _ (.tail _ (.tail _ hp))))), ktn_ltOf (show AllLt _ (_ :: _ :: _ :: _ :: _ :: _) from lDu)⟩
              clear F23 N23
              try clear F22
              try clear N22
              have hwm := HT.w1
              have hmm := HT.m1
              have e3 := MF3.rows
              have e9 := MF3.down
              with_unfolding_all refine' For_turns F24 ?_
              k_whole
              walk_at "goQ"
              refine' Ct.use (D := 4) (U := 32) ?zd1 F24 ?zd3 N24 ?zd5 (by first | exact rfl | assumption) (lawsorted_ct w _ _ _ DR rs kD c tw b _ (.tail _ (sB4 _ (sB _ HM.rowsL))) (row_ok (rss := rs.map (·.2)) (own := B3) rfl (fun r hr => let ⟨k, hk⟩ := HM.rowL r hr; ⟨k, sB _ hk⟩) (fun p hp => .tail _ (sB4 p hp)) HM.arr.rows hc HM.arr.is) (om_cs hc hwm) (om_l4 hrl hmm)) ?zd7 ?zd8 ?_
              case zd1 => k_asm
              case zd3 => k_asm
              case zd5 => k_asm
              case zd7 => k_room
              case zd8 => k_room
              intro r30 n30 h30 tk30 hJz
              refine ex2 hJz ?_
              clear hJz
              intro S kS hJz
              refine bRRP hJz ?_
              clear hJz
              intro pS
              intro F30 N30
              (try clear r30)
              (try clear n30)
              (try clear h30)
              (try clear tk30)
              dsimp only
              refine Mine.tok_any' ?_
              intro tk31
              obtain ⟨B5, N31, mS, sB5, oD5⟩ : ∃ B5, News s₁.heap s₁.heap.objs.size h30 ((Du, listOf #[] 0) :: B5) ∧ (S, listOf (List.map rref (sortL (bh b c) rs)).toArray kS) ∈ B5 ∧ (∀ p ∈ B4, p ∈ B5) ∧ ∀ p ∈ B5, p.1 ≠ Du :=
                ⟨(S, listOf (List.map rref (sortL (bh b c) rs)).toArray kS) :: B4, cb_drop N30 (fun p hp => by
                  rcases List.mem_cons.mp hp with rfl | hp
                  · exact .tail _ (.head _)
                  rcases List.mem_cons.mp hp with rfl | hp
                  · exact .head _
                  exact .tail _ (.tail _ hp)), .head _, fun p hp => .tail _ hp, List.forall_mem_cons.mpr ⟨Nat.ne_of_gt (pS _ (.head _)), fun p hp => Nat.ne_of_lt (oDu p hp)⟩⟩
              clear N30 N24
              refine for_list (fun I r m₁ news₁ => ∃ (dn todo : List RowL) (kk3 : Nat), sortL (bh b c) rs = dn ++ todo ∧ r = List.map rref todo ∧ news₁ = (Du, listOf (dn.flatMap (·.2)).toArray kk3) :: B5 ∧ m₁ (PySem.Str.ofString "due") = some (.ref Du) ∧ ∀ z, z ≠ PySem.Str.ofString "row" → m₁ z = m23 z) rfl F30 N31 (.tail _ mS) ?lz3 ?ls3 ?ld3
              case lz3 =>
                intro I hI
                exact ⟨[], sortL (bh b c) rs, 0, rfl, rfl, rfl, u2, fun _ _ => rfl⟩
              case ls3 =>
                intro I oI v r m₁ news₁ h tk K3 hK3 hJz
                refine ex3 hJz ?_
                clear hJz
                intro dn todo kk3 hJz
                refine bPPRPP hJz ?_
                clear hJz
                intro hrs2 hr hk1 hm1
                intro hk1' hI F₁ N₁
                (try clear I)
                (try clear oI)
                (try clear v)
                (try clear r)
                (try clear m₁)
                (try clear news₁)
                (try clear h)
                (try clear tk)
                obtain ⟨row, todo, rfl, rfl, rfl⟩ : ∃ b t', todo = b :: t' ∧ v = rref b ∧ r = List.map rref t' := by
                  cases todo with
                  | nil => simp at hr
                  | cons row t' => simp at hr; exact ⟨row, t', rfl, hr.1, hr.2⟩
                clear hr
                have hrow : row ∈ rs := sortL_in (d := b) (c := c) (by rw [hrs2]; simp)
                refine ex1 (HM.rowL row hrow) ?_
                intro kr hJz
                revert hJz
                intro hkr0
                have hkr := sB5 _ (sB4 _ (sB _ hkr0))
                have hdn : ∀ r ∈ dn, r.2.length = wide := fun r hr => (hrs r (sortL_in (d := b) (c := c) (by rw [hrs2]; exact List.mem_append_left _ hr))).1
                have hlr := (hrs row hrow).1
                have hw0 := HT.w0
                have hdl : dn.length ≤ 4 := by
                  have h1 : (sortL (bh b c) rs).length = dn.length + (todo.length + 1) := by rw [hrs2]; simp
                  rw [sortL_size] at h1
                  exact om_len h1 (by rw [hrl]; exact hmm)
                have hz1 : (dn.flatMap (·.2)).length < 1000 := by
                  rw [flat_lenR dn hdn]
                  exact Nat.lt_of_le_of_lt (Nat.mul_le_mul hdl hwm) (by decide)
                have hne : row.2.length ≠ 0 := om_ne hlr hw0
                have hz2 : row.2.length < 1000 := om_ln hlr hwm
                have hIK : I ≠ Du := (hI _ (.head _)).symm
                have ez : dn.flatMap (·.2) ++ row.2 = (dn ++ [row]).flatMap (·.2) := by simp
                have F₁' : Fr s₁.heap s₁.heap.objs.size h m₁ := F₁
                have N₁' : News s₁.heap s₁.heap.objs.size h ((I, oI) :: (Du, listOf (dn.flatMap (·.2)).toArray kk3) :: B5) := N₁
                clear F₁ N₁
                dsimp only
                walk_at "goQ"
                rename News _ _ _ _ => N13
                rename Fr _ _ _ _ => F13
                rw [ez] at N13
                exact hK3 F13 N13 ((Du, listOf ((dn ++ [row]).flatMap (·.2)).toArray (kk3 + 1)) :: B5) (fun p hp => hp) (List.forall_mem_cons.mpr ⟨hIK.symm, fun p hp => hI p (.tail _ hp)⟩) (.tail _ mS) ⟨dn ++ [row], todo, kk3 + 1, by rw [hrs2]; simp, rfl, rfl, hk1, fun z hz => by show (if z = _ then _ else _) = _; rw [if_neg hz]; exact hm1 z hz⟩
              case ld3 =>
                intro I m₁ news₁ h tk hJz
                refine ex3 hJz ?_
                clear hJz
                intro dn todo kk3 hJz
                refine bPPRPP hJz ?_
                clear hJz
                intro hrs2 hr hk1 hm1
                intro F₁ N₁
                (try clear I)
                (try clear m₁)
                (try clear news₁)
                (try clear h)
                (try clear tk)
                have : todo = [] := List.map_eq_nil_iff.mp hr.symm
                subst this
                rw [List.append_nil] at hrs2
                subst hrs2
                rw [due_eq hrs hc] at N₁
                have F₁' : Fr s₁.heap s₁.heap.objs.size h m₁ := F₁
                have N₁' : News s₁.heap s₁.heap.objs.size h ((Du, listOf (sortR (bhc b c) (List.map (fun x => x.2) rs)).flatten.toArray kk3) :: B5) := N₁
                clear F₁ N₁
                have f1' := (hm1 (PySem.Str.ofString "kept") (by decide)).trans MF3.kept
                have f2' := (hm1 (PySem.Str.ofString "array") (by decide)).trans MF3.array
                have f3' := (hm1 (PySem.Str.ofString "rows") (by decide)).trans MF3.rows
                have f4' := (hm1 (PySem.Str.ofString "low") (by decide)).trans MF3.low
                have f5' := (hm1 (PySem.Str.ofString "told") (by decide)).trans MF3.told
                have f6' := (hm1 (PySem.Str.ofString "world") (by decide)).trans MF3.world
                have f7' := (hm1 (PySem.Str.ofString "at") (by decide)).trans MF3.at_
                have f8' := (hm1 (PySem.Str.ofString "work") (by decide)).trans MF3.work
                have f9' := (hm1 (PySem.Str.ofString "is_down") (by decide)).trans MF3.down
                have u1' := (hm1 (PySem.Str.ofString "found") (by decide)).trans u1
                have xA4 := sB5 _ mA4
                have xdA4 := sB5 _ mdA4
                have xI4 := sB5 _ mI4
                have xA := sB5 _ (sB4 _ (sB _ HM.arr.inst))
                have xdA := sB5 _ (sB4 _ (sB _ HM.arr.dict))
                have xD := sB5 _ (sB4 _ (sB _ HM.arr.bnds))
                refine ex1 (hA4.number) ?_
                intro tn4 hJz
                revert hJz
                intro gn4
                refine ex1 (hA4.told) ?_
                intro tt4 hJz
                revert hJz
                intro gt4
                have gb4 := hA4.bounds
                have gi4 := hA4.items
                have gl4 := hA4.len
                refine ex1 (HM.arr.ok.number) ?_
                intro tn0 hJz
                revert hJz
                intro gn0
                have gb0 := HM.arr.ok.bounds
                have gl0 := HM.arr.ok.len
                have hVs : ∀ v ∈ (sortR (bhc b c) (List.map (fun x => x.2) rs)).flatten, IsAB v := fun v hv => by
                  rw [← due_eq hrs hc] at hv
                  refine ex1 (List.mem_flatMap.mp hv) ?_
                  intro r hJz
                  refine bPP hJz ?_
                  clear hJz
                  intro hr hv'
                  exact (hrs r (sortL_in hr)).2 v hv'
                have hBn : ∀ q ∈ bs, BndOk ((Du, listOf (sortR (bhc b c) (List.map (fun x => x.2) rs)).flatten.toArray kk3) :: B5) q := fun q hq => let ⟨y0, y1, t, u, hm⟩ := HM.arr.bok q hq; ⟨y0, y1, t, u, .tail _ (sB5 _ (sB4 _ (sB _ hm)))⟩
                dsimp only
                walk_at "goQ"
                rename News _ _ _ _ => N33
                rename Fr _ _ _ _ => F33
                exact hK2 F33 N33 ((dW, dictOf es4 n4a) :: (hl, listOf (hs2.push (.ref A4)) (nh2 + 1)) :: B3) (fun p hp => by
                  rcases List.mem_cons.mp hp with rfl | hp
                  · exact .tail _ (sB5 _ mI2)
                  rcases List.mem_cons.mp hp with rfl | hp
                  · exact .tail _ (sB5 _ mW4)
                  rcases List.mem_cons.mp hp with rfl | hp
                  · exact .tail _ (sB5 _ mh4)
                  exact .tail _ (sB5 _ (sB4 _ hp)))
                  (List.forall_mem_cons.mpr ⟨hI2W.symm, List.forall_mem_cons.mpr ⟨hI2h.symm, fun p hp => hI2 p (.tail _ (.tail _ hp))⟩⟩) (.tail _ (.tail _ mTO))
                  ⟨es4, n4a, made2 + 1, hs2.push (.ref A4), nh2 + 1, dn2 ++ [.ref T], by rw [hdn2]; simp, W4, by rw [Array.size_push]; exact om_push (b := r2.length) hsz2, om_add hmd2, rfl, ⟨f1', f2', f3', f4', f5', f6', f7', f8', f9'⟩⟩
            case ld2 =>
              intro I2 m₁ news₁ h tk hJz
              refine ex6 hJz ?_
              clear hJz
              intro es2' n2a made2 hs2 nh2 dn2 hJz
              refine bPPPPRP hJz ?_
              clear hJz
              intro hdn2 W2' hsz2 hmd2 MF2
              intro F₁ N₁
              (try clear I2)
              (try clear m₁)
              (try clear news₁)
              (try clear h)
              (try clear tk)
              have F₁' : Fr s₁.heap s₁.heap.objs.size h m₁ := F₁
              have N₁' : News s₁.heap s₁.heap.objs.size h ((dW, dictOf es2' n2a) :: (hl, listOf hs2 nh2) :: B3) := N₁
              clear F₁ N₁
              obtain ⟨f1, f2, f3, f4, f5, f6, f7, f8, f9⟩ := MF2
              have mcw3 := sB _ mcw
              dsimp only
              walk_at "goQ"
              refine' refused_wk b w _ _ _ W dW es2' n2a made2 hl hs2 nh2 1 (low - 1) _ W2' (sB _ HM.inst) o1 (HM.arr.sub sB) (.inl (by rw [HM.low]; exact Int.sub_lt_self _ (by decide))) _ _ _ _ _ _ _ _ _ _ _ _ _ _ _ _ ?za1 ?za2 ?za3 ?za4 ?za5 (by first | exact rfl | assumption) ?za6 ?za7 ?_
              case za1 => k_asm
              case za2 => k_asm
              case za3 => k_asm
              case za4 => k_asm
              case za5 => k_asm
              case za6 => k_room
              case za7 => k_room
              intro tr es3 n3a h3 tk3 W3 F3 N3
              dsimp only
              walk_at "goQ"
              refine' refused_wk b w _ _ _ W dW es3 n3a (made2 + 1) hl hs2 nh2 1 (low + wide) _ W3 (sB _ HM.inst) o1 (HM.arr.sub sB) (.inr (by rw [HM.low]; exact Int.le_refl _)) _ _ _ _ _ _ _ _ _ _ _ _ _ _ _ _ ?zb1 ?zb2 ?zb3 ?zb4 ?zb5 (by first | exact rfl | assumption) ?zb6 ?zb7 ?_
              case zb1 => k_asm
              case zb2 => k_asm
              case zb3 => k_asm
              case zb4 => k_asm
              case zb5 => k_asm
              case zb6 => k_room
              case zb7 => k_room
              intro tr5 es5 n5a h5 tk5 W5 F5 N5
              dsimp only
              walk_at "goQ"
              rename News _ _ _ _ => N6
              rename Fr _ _ _ _ => F6
              exact hK1 F6 N6 ((TA, tupO [.bool false, .bool true]) :: (dW, dictOf es5 n5a) :: (hl, listOf hs2 nh2) :: B2) (fun p hp => by
                rcases List.mem_cons.mp hp with rfl | hp
                · exact .tail _ (.tail _ mI)
                rcases List.mem_cons.mp hp with rfl | hp
                · exact .tail _ (.tail _ mTA)
                rcases List.mem_cons.mp hp with rfl | hp
                · exact .head _
                rcases List.mem_cons.mp hp with rfl | hp
                · exact .tail _ (.head _)
                exact .tail _ (.tail _ (sB _ hp)))
                (List.forall_mem_cons.mpr ⟨hI _ (.head _), List.forall_mem_cons.mpr ⟨hIW.symm, List.forall_mem_cons.mpr ⟨hIh.symm, fun p hp => hI p (.tail _ (.tail _ (.tail _ hp)))⟩⟩⟩) (.head _)
                ⟨es5, n5a, made2 + 1 + 1, hs2, nh2, dn ++ [.bool b], by rw [hdn]; simp, W5, om_sz (d := r.length) hsz2 hsz, om_add (om_add hmd2), rfl, f1, f2, f3, f4, f5, f6, f7⟩
  case if_ =>
    refine opq fun KI hKI => ?_
    walk_at "goP"
    walk_at "useN"
    intro r5 n5 h5 tk5 hJz
    refine ex3 hJz ?_
    clear hJz
    intro v5 tv5 t5 hJz
    refine bRPPR hJz ?_
    clear hJz
    intro v5a v5b
    intro F5 N5
    (try clear r5)
    (try clear n5)
    (try clear h5)
    (try clear tk5)
    dsimp only
    refine Mine.tok_any' ?_
    intro tkD
    walk_at "goP"
    · rename News _ _ _ _ => N6
      rename Fr _ _ _ _ => F6
      refine hKI _ _ (JIf.intro (t5 := t5) (told_one' hmany (om_m0 hmany v3a) (om_m1 (k := 4) hmany v3b)) F6 N6 ?hs rfl rfl hmany (by assumption) (by assumption) rfl rfl rfl rfl)
      case hs => exact List.forall_mem_cons.mpr ⟨by k_mem, List.forall_mem_cons.mpr ⟨by k_mem, List.forall_mem_cons.mpr ⟨by k_mem, List.forall_mem_cons.mpr ⟨by k_mem, List.forall_mem_cons.mpr ⟨by k_mem, List.forall_mem_cons.mpr ⟨by k_mem, List.forall_mem_cons.mpr ⟨by k_mem, fun _ h => nomatch h⟩⟩⟩⟩⟩⟩⟩
    · rename News _ _ _ _ => N6
      rename Fr _ _ _ _ => F6
      refine hKI _ _ (JIf.intro (t5 := t5) (told_two' (wide := wide) (low := v1 - 2) (high := v1 - 2 + (1 + v2) - 1) hmany (om_m0 hmany v3a) (om_m1 (k := 4) hmany v3b) (om_m0 hwide v2a) (om_m1 (k := 3) hwide v2b) (om_v0 v1a) (om_v1 v1b) (om_eq hwide)) F6 N6 ?hs2 rfl hwide hmany (by assumption) (by assumption) rfl rfl rfl rfl)
      case hs2 => exact List.forall_mem_cons.mpr ⟨by k_mem, List.forall_mem_cons.mpr ⟨by k_mem, List.forall_mem_cons.mpr ⟨by k_mem, List.forall_mem_cons.mpr ⟨by k_mem, List.forall_mem_cons.mpr ⟨by k_mem, List.forall_mem_cons.mpr ⟨by k_mem, List.forall_mem_cons.mpr ⟨by k_mem, fun _ h => nomatch h⟩⟩⟩⟩⟩⟩⟩
end
end Mine
end
open PySem PySem.W PyProof.Rows
namespace Mine
theorem law_holds.tw5389484754426515990 : True := trivial
theorem law_holds.tw12573265327287976037 : True := trivial
theorem law_holds.tw13809215584158714917 : True := trivial
theorem law_holds.tw15759456685926392790 : True := trivial
theorem law_holds.tw7855213554781449114 : True := trivial
theorem law_holds.tw1158230306389884954 : True := trivial
theorem law_holds.tw6389952581707197768 : True := trivial
theorem law_holds.tw8230220208105959099 : True := trivial
theorem law_holds.tw12135361065603115203 : True := trivial
theorem law_holds.tw12240961182476476926 : True := trivial
theorem law_holds.tw3003183132222720875 : True := trivial
theorem law_holds.tw270741913460557850 : True := trivial
theorem law_holds.tw13087128984098923117 : True := trivial
theorem law_holds.tw1031057903888850656 : True := trivial
theorem law_holds.tw11033218002702971771 : True := trivial
theorem law_holds.tw1784627337472249616 : True := trivial
theorem law_holds.tw13778614294919624647 : True := trivial
theorem law_holds.tw4433959717282450730 : True := trivial
theorem law_holds.tw17598101756349436640 : True := trivial
theorem law_holds.tw11946022803392826334 : True := trivial
theorem law_holds.tw981846192996546977 : True := trivial
theorem law_holds.tw6719018230134327050 : True := trivial
theorem law_holds.tw5451054884063135654 : True := trivial
theorem law_holds.tw6410668804425169698 : True := trivial
theorem law_holds.tw11790664574121322394 : True := trivial
theorem law_holds.tw13958071646730322851 : True := trivial
theorem law_holds.tw4198951923066960807 : True := trivial
theorem law_holds.tw7443363072745177481 : True := trivial
theorem law_holds.tw3974387499553966400 : True := trivial
theorem law_holds.tw11126432536435168541 : True := trivial
theorem law_holds.tw3329433664329059716 : True := trivial
theorem law_holds.tw7472407996622490835 : True := trivial
theorem law_holds.tw12977093529070104392 : True := trivial
theorem law_holds.tw2269544990204364226 : True := trivial
theorem law_holds.tw16947615914383616782 : True := trivial
theorem law_holds.tw2907507879108658156 : True := trivial
theorem law_holds.tw3756308257209627903 : True := trivial
theorem law_holds.tw4146061822495498468 : True := trivial
theorem law_holds.tw12835091436910803158 : True := trivial
theorem law_holds.tw17237755526102222789 : True := trivial
theorem law_holds.tw12134408205421670959 : True := trivial
theorem law_holds.tw3494445600050047599 : True := trivial
theorem law_holds.tw12481875629721207810 : True := trivial
theorem law_holds.tw10441050188594101415 : True := trivial
theorem law_holds.tw3329330481660614911 : True := trivial
theorem law_holds.tw10093380194815717143 : True := trivial
theorem law_holds.tw16462895619179043833 : True := trivial
theorem law_holds.tw9889521400790421688 : True := trivial
theorem law_holds.tw3046938939346580660 : True := trivial
theorem law_holds.tw576407869801174206 : True := trivial
theorem law_holds.tw14920527711883184719 : True := trivial
theorem law_holds.tw10027879121665395642 : True := trivial
theorem law_holds.tw7769649832755249146 : True := trivial
theorem law_holds.tw17274716441693411508 : True := trivial
theorem law_holds.tw7311554392007033315 : True := trivial
theorem law_holds.tw18261290160731607033 : True := trivial
theorem law_holds.tw12645607732203181651 : True := trivial
theorem law_holds.tw18430954121086234272 : True := trivial
theorem law_holds.tw8666519363043736892 : True := trivial
theorem law_holds.tw2558664710541493025 : True := trivial
theorem law_holds.tw5037970770195530229 : True := trivial
theorem law_holds.tw14883556706271630602 : True := trivial
theorem law_holds.tw18388893480867403737 : True := trivial
theorem law_holds.tw3366817510852727610 : True := trivial
theorem law_holds.tw1685627985566243432 : True := trivial
theorem law_holds.tw9682718004065560343 : True := trivial
theorem law_holds.tw11426015686315989412 : True := trivial
theorem law_holds.tw8549365171731915398 : True := trivial
theorem law_holds.tw745255978533919091 : True := trivial
theorem law_holds.tw724200737284857819 : True := trivial
theorem law_holds.tw13429453918920967058 : True := trivial
theorem law_holds.tw5364902710198789758 : True := trivial
theorem law_holds.tw14051398506283589457 : True := trivial
theorem law_holds.tw12732824653754844360 : True := trivial
theorem law_holds.tw4515466672771955728 : True := trivial
theorem law_holds.tw8957123355933967898 : True := trivial
theorem law_holds.tw4072507727158212662 : True := trivial
theorem law_holds.tw13028658284911697911 : True := trivial
theorem law_holds.tw8417186165934385351 : True := trivial
theorem law_holds.tw8369274380968253667 : True := trivial
theorem law_holds.tw7152603605065671595 : True := trivial
theorem law_holds.tw1710076424337546998 : True := trivial
theorem law_holds.tw10841264019214440115 : True := trivial
theorem law_holds.tw16805829885119392726 : True := trivial
theorem law_holds.tw15883345262158282383 : True := trivial
theorem law_holds.tw10812634152524527747 : True := trivial
theorem law_holds.tw1819975233463548508 : True := trivial
theorem law_holds.tw1496123403401453975 : True := trivial
theorem law_holds.tw16273140198857503625 : True := trivial
theorem law_holds.tw3742325753681652743 : True := trivial
theorem law_holds.tw11330957891505755796 : True := trivial
theorem law_holds.tw9069877914133315304 : True := trivial
theorem law_holds.tw1832781179975386347 : True := trivial
theorem law_holds.tw7356724547972884604 : True := trivial
theorem law_holds.tw16978406815995349258 : True := trivial
theorem law_holds.tw699380112222796084 : True := trivial
theorem law_holds.tw1670043908289496885 : True := trivial
theorem law_holds.tw9779807473162285230 : True := trivial
theorem law_holds.tw16190678330180157336 : True := trivial
theorem law_holds.tw15694993059591697976 : True := trivial
theorem law_holds.tw16074064945343616743 : True := trivial
theorem law_holds.tw15293083901398250104 : True := trivial
theorem law_holds.tw14335913921861858828 : True := trivial
theorem law_holds.tw16470317323979864763 : True := trivial
theorem law_holds.tw16873799427995575018 : True := trivial
theorem law_holds.tw3756957479349018193 : True := trivial
theorem law_holds.tw18254337876149969668 : True := trivial
theorem law_holds.tw4818577856007422655 : True := trivial
theorem law_holds.tw11413783051545881793 : True := trivial
theorem law_holds.tw12889673554181485818 : True := trivial
theorem law_holds.tw4916342969005030805 : True := trivial
theorem law_holds.tw18203989763732354715 : True := trivial
theorem law_holds.tw15661869461025623997 : True := trivial
theorem law_holds.tw14997073306097389879 : True := trivial
theorem law_holds.tw1099259369241382048 : True := trivial
theorem law_holds.tw2387193687640843687 : True := trivial
theorem law_holds.tw17255088995462705879 : True := trivial
theorem law_holds.tw9875236377963488844 : True := trivial
theorem law_holds.tw1767730674963353768 : True := trivial
theorem law_holds.tw16614716721108272449 : True := trivial
theorem law_holds.tw3882201998751590657 : True := trivial
theorem law_holds.tw14326059299131336239 : True := trivial
theorem law_holds.tw1689763614830377041 : True := trivial
theorem law_holds.tw14828999820898988419 : True := trivial
theorem law_holds.tw5914491427308094424 : True := trivial
theorem law_holds.tw5989267464594152519 : True := trivial
theorem law_holds.tw17345407343664743607 : True := trivial
theorem law_holds.tw7696488724909661519 : True := trivial
theorem law_holds.tw10609929442622069884 : True := trivial
theorem law_holds.tw18269650602155537469 : True := trivial
theorem law_holds.tw7408322871517469003 : True := trivial
theorem law_holds.tw4394118770596489903 : True := trivial
theorem law_holds.tw3307954989432871184 : True := trivial
theorem law_holds.tw10188763426450519768 : True := trivial
theorem law_holds.tw784011647948385275 : True := trivial
theorem law_holds.tw11470271118054631628 : True := trivial
theorem law_holds.tw15154110283740273250 : True := trivial
theorem law_holds.tw6765152471904792315 : True := trivial
theorem law_holds.tw6674817763981286723 : True := trivial
theorem law_holds.tw15448297888555860652 : True := trivial
theorem law_holds.tw17027635718292003107 : True := trivial
theorem law_holds.tw1989176631692091739 : True := trivial
theorem law_holds.tw13827650187945995790 : True := trivial
theorem law_holds.tw3979707639553702691 : True := trivial
theorem law_holds.tw5981114437932730796 : True := trivial
theorem law_holds.tw17470365217354309832 : True := trivial
theorem law_holds.tw9207643191828677137 : True := trivial
theorem law_holds.tw16098122237329998606 : True := trivial
theorem law_holds.tw10817052189556005596 : True := trivial
theorem law_holds.tw5212653520564569363 : True := trivial
theorem law_holds.tw8806649888931605024 : True := trivial
theorem law_holds.tw5907203647135998699 : True := trivial
theorem law_holds.tw3438298445031660282 : True := trivial
theorem law_holds.tw7820799176418779761 : True := trivial
theorem law_holds.tw15150646450996357022 : True := trivial
theorem law_holds.tw455179833554555240 : True := trivial
theorem law_holds.tw17911580528928914924 : True := trivial
theorem law_holds.tw7497986649931050792 : True := trivial
theorem law_holds.tw498061464947678834 : True := trivial
theorem law_holds.tw12687621791434340054 : True := trivial
theorem law_holds.tw9843604407834444796 : True := trivial
theorem law_holds.tw14746732674962391887 : True := trivial
theorem law_holds.tw16381176275627223697 : True := trivial
theorem law_holds.tw15352839923633478061 : True := trivial
theorem law_holds.tw13250372474279835810 : True := trivial
theorem law_holds.tw6319992431348959543 : True := trivial
theorem law_holds.tw3640318304813138149 : True := trivial
theorem law_holds.tw5731563423909890137 : True := trivial
theorem law_holds.tw3808703085821546077 : True := trivial
theorem law_holds.tw4593294709026258786 : True := trivial
theorem law_holds.tw13190408463805328480 : True := trivial
theorem law_holds.tw6881874429007886204 : True := trivial
theorem law_holds.tw6189876280036216102 : True := trivial
theorem law_holds.tw15076190513448903066 : True := trivial
theorem law_holds.tw8715444014776630742 : True := trivial
theorem law_holds.tw3033269912633744064 : True := trivial
theorem law_holds.tw8312341600987523519 : True := trivial
theorem law_holds.tw59864651932915081 : True := trivial
theorem law_holds.tw5920216800500632969 : True := trivial
theorem law_holds.tw15333956030411951890 : True := trivial
theorem law_holds.tw1172607208729018732 : True := trivial
theorem law_holds.tw14892801356780361778 : True := trivial
theorem law_holds.tw8330938851228082562 : True := trivial
theorem law_holds.tw3136910860242942599 : True := trivial
theorem law_holds.tw8386679336120195906 : True := trivial
theorem law_holds.tw13190703287169160282 : True := trivial
theorem law_holds.tw10108825076125807744 : True := trivial
theorem law_holds.tw5455921660152230842 : True := trivial
theorem law_holds.tw8857742495270377987 : True := trivial
theorem law_holds.tw5045712524691215523 : True := trivial
theorem law_holds.tw12476058986133298565 : True := trivial
theorem law_holds.tw4995542688137877417 : True := trivial
theorem law_holds.tw1973129929022764952 : True := trivial
theorem law_holds.tw11097158420108258118 : True := trivial
theorem law_holds.tw6564709946809587534 : True := trivial
theorem law_holds.tw8984152853971343422 : True := trivial
theorem law_holds.tw2295933128562542503 : True := trivial
theorem law_holds.tw16406091861079842607 : True := trivial
theorem law_holds.tw10024239376800412576 : True := trivial
theorem law_holds.tw10968802771074238664 : True := trivial
theorem law_holds.tw10726639523019406850 : True := trivial
theorem law_holds.tw2842810181116790245 : True := trivial
theorem law_holds.tw1909877003179415225 : True := trivial
theorem law_holds.tw6723812968561706957 : True := trivial
theorem law_holds.tw3028213030429885723 : True := trivial
theorem law_holds.tw10264638600885302300 : True := trivial
theorem law_holds.tw7304591109411159013 : True := trivial
theorem law_holds.tw8984712037535005518 : True := trivial
theorem law_holds.tw8266603773606604290 : True := trivial
theorem law_holds.tw18326849912455186884 : True := trivial
theorem law_holds.tw1550374771381668074 : True := trivial
theorem law_holds.tw8249079356659094474 : True := trivial
theorem law_holds.tw2643271747718453845 : True := trivial
theorem law_holds.tw13882729330811710610 : True := trivial
theorem law_holds.tw3955097671198598788 : True := trivial
theorem law_holds.tw8854015012368427407 : True := trivial
theorem law_holds.tw653560878884961445 : True := trivial
theorem law_holds.tw8514742172934523775 : True := trivial
theorem law_holds.tw13336368349410954346 : True := trivial
theorem law_holds.tw9992725586745946429 : True := trivial
theorem law_holds.tw9529696498207198238 : True := trivial
theorem law_holds.tw3049941959672503198 : True := trivial
theorem law_holds.tw14872900085578418628 : True := trivial
theorem law_holds.tw15726739188670627701 : True := trivial
theorem law_holds.tw16883458599210261866 : True := trivial
theorem law_holds.tw445335354869643106 : True := trivial
theorem law_holds.tw2856731137302751260 : True := trivial
theorem law_holds.tw3682559726232862161 : True := trivial
theorem law_holds.tw11223184984439025696 : True := trivial
theorem law_holds.tw15006436103509636135 : True := trivial
theorem law_holds.tw5858263632927829637 : True := trivial
theorem law_holds.tw4503035019201841076 : True := trivial
theorem law_holds.tw3910120701321347557 : True := trivial
theorem law_holds.tw13182730311906835528 : True := trivial
theorem law_holds.tw12296726922439171297 : True := trivial
theorem law_holds.tw10007947361888340627 : True := trivial
theorem law_holds.tw2322801206320994539 : True := trivial
theorem law_holds.tw2152083551845799040 : True := trivial
theorem law_holds.tw11609493526922420660 : True := trivial
theorem law_holds.tw4781243967656130014 : True := trivial
theorem law_holds.tw8835965917227929528 : True := trivial
theorem law_holds.tw5506821171919863439 : True := trivial
theorem law_holds.tw13402424001964919149 : True := trivial
theorem law_holds.tw12456547296908542839 : True := trivial
theorem law_holds.tw2124134355350193313 : True := trivial
theorem law_holds.tw8441880690091102137 : True := trivial
theorem law_holds.tw14991590004735058009 : True := trivial
theorem law_holds.tw11289095316329951393 : True := trivial
theorem law_holds.tw4329158554759489670 : True := trivial
theorem law_holds.tw15802469936163623734 : True := trivial
theorem law_holds.tw7604666192120794032 : True := trivial
theorem law_holds.tw3158129796062787159 : True := trivial
theorem law_holds.tw13154458805202713791 : True := trivial
theorem law_holds.tw15806970514647361693 : True := trivial
theorem law_holds.tw12223724995276690173 : True := trivial
theorem law_holds.tw9184033795430018204 : True := trivial
theorem law_holds.tw2043166853727251185 : True := trivial
theorem law_holds.tw2102315897755806987 : True := trivial
theorem law_holds.tw15607887362523206001 : True := trivial
theorem law_holds.tw13397297893571687751 : True := trivial
theorem law_holds.tw14789792462180790578 : True := trivial
theorem law_holds.tw10296202853966499060 : True := trivial
theorem law_holds.tw8790382262760724670 : True := trivial
theorem law_holds.tw11966672015165255308 : True := trivial
theorem law_holds.tw8652346329174877282 : True := trivial
theorem law_holds.tw11182679623053108816 : True := trivial
theorem law_holds.tw4581845663705801772 : True := trivial
theorem law_holds.tw3186734533307500241 : True := trivial
theorem law_holds.tw15609566024721092083 : True := trivial
theorem law_holds.tw14497384708736915567 : True := trivial
theorem law_holds.tw7019463264422422977 : True := trivial
theorem law_holds.tw6776455111828631412 : True := trivial
theorem law_holds.tw4441770287765753910 : True := trivial
theorem law_holds.tw14646867148444618371 : True := trivial
theorem law_holds.tw1928719863018725356 : True := trivial
theorem law_holds.tw13983371404066579822 : True := trivial
theorem law_holds.tw7408472829698581751 : True := trivial
theorem law_holds.tw11846676642670509255 : True := trivial
theorem law_holds.tw14776728351387530056 : True := trivial
theorem law_holds.tw15544829507116839252 : True := trivial
theorem law_holds.tw4643041051132140158 : True := trivial
theorem law_holds.tw3035144380315620824 : True := trivial
theorem law_holds.tw9255152265573255198 : True := trivial
theorem law_holds.tw14498155544194170393 : True := trivial
theorem law_holds.tw519298541982818421 : True := trivial
theorem law_holds.tw41732636909640268 : True := trivial
theorem law_holds.tw13301187468288870568 : True := trivial
theorem law_holds.tw2644310842459337959 : True := trivial
theorem law_holds.tw11463670642173560981 : True := trivial
theorem law_holds.tw14983226153234331074 : True := trivial
theorem law_holds.tw14925382992726071281 : True := trivial
theorem law_holds.tw302768837105346163 : True := trivial
theorem law_holds.tw16893121556090616931 : True := trivial
theorem law_holds.tw8743907914968981027 : True := trivial
theorem law_holds.tw14390095281932903014 : True := trivial
theorem law_holds.tw14545874151571354728 : True := trivial
theorem law_holds.tw8176227357466254829 : True := trivial
theorem law_holds.tw2602977815382960713 : True := trivial
theorem law_holds.tw11133525997344109421 : True := trivial
theorem law_holds.tw9168033884955339765 : True := trivial
theorem law_holds.tw12889056044993165476 : True := trivial
theorem law_holds.tw3426384778480675251 : True := trivial
theorem law_holds.tw3253568177066640346 : True := trivial
theorem law_holds.tw15272395603832836080 : True := trivial
theorem law_holds.tw447027507633508388 : True := trivial
theorem law_holds.tw5062152199769849712 : True := trivial
theorem law_holds.tw11404014056486942332 : True := trivial
theorem law_holds.tw13650905803964671038 : True := trivial
theorem law_holds.tw18234560199702728603 : True := trivial
theorem law_holds.tw718173064312146323 : True := trivial
theorem law_holds.tw15274831704391544125 : True := trivial
theorem law_holds.tw17253691774821329096 : True := trivial
theorem law_holds.tw9849722394096787677 : True := trivial
theorem law_holds.tw9423440377400516374 : True := trivial
theorem law_holds.tw6667284449218939238 : True := trivial
theorem law_holds.tw14160533322030094474 : True := trivial
theorem law_holds.tw10983241140555628109 : True := trivial
set_option Elab.async true
set_option maxRecDepth 100000 in
set_option maxHeartbeats 8000000 in
theorem law_holds : PySem.Challenge.rw_rh0229_01.Holds := by
  w_on
  o_law
  k_head
  (case hw => w_witness2)
  exact law_walk (by rfl)
set_option Elab.async false
end Mine
theorem PySem.Challenge.cw_rh0229_01_holds : PySem.Challenge.rw_rh0229_01.Holds := by
  exact Mine.law_holds
