import PyProof.Rows.All
import Wide.All
import OpenK.AllK
import Wide.FinOn
import Lean
import PySem.Challenge.RW_pq0646_01
set_option Elab.async false
set_option maxRecDepth 100000
set_option maxHeartbeats 8000000
set_option compiler.extract_closed false
set_option genInjectivity false
set_option genSizeOf false
set_option genSizeOfSpec false
set_option linter.all false
namespace Mine
section
open PySem PySem.W PySem.Calls PyProof.Rows
structure WD where
  x : Addr
  dx : Addr
  mem : Addr
  hn : Addr
noncomputable def Bag : Type := (World) × (Option (List Code)) × (Scope) × (Value) × (List (Str × Addr)) × (List Env) × (Around) × (Shared) × (List Str) × (ExcName → Option Value) × (Flow → Shared → Prop) × (Unit → Shared → Prop) × (Nat → Nat) × (Nat → Str) × (Nat → Heap) × (Nat → Str → Option Value) × (Nat → List (Addr × Obj)) × (Nat → Value → Shared → Prop) × (Nat → Int) × (List Value) × (List Int) × (Nat → Array UInt8) × (Bool) × (Nat → Obj) × (Nat → Array Value) × (Nat → List (Str × Value)) × (Nat → Nat → Array UInt8) × (Nat → Bool) × (Nat → Nat) × (Nat → List Nat) × (List (Nat × UInt8)) × (Nat → Option WD) × (UInt8) × (WD) × (Nat → Option Value)
noncomputable def Bag.w (c : Bag) : World := c.1
noncomputable def Bag.gd (c : Bag) : Option (List Code) := c.2.1
noncomputable def Bag.cs (c : Bag) : Scope := c.2.2.1
noncomputable def Bag.v (c : Bag) : Value := c.2.2.2.1
noncomputable def Bag.cl (c : Bag) : List (Str × Addr) := c.2.2.2.2.1
noncomputable def Bag.outer (c : Bag) : List Env := c.2.2.2.2.2.1
noncomputable def Bag.ar (c : Bag) : Around := c.2.2.2.2.2.2.1
noncomputable def Bag.s (c : Bag) : Shared := c.2.2.2.2.2.2.2.1
noncomputable def Bag.loose (c : Bag) : List Str := c.2.2.2.2.2.2.2.2.1
noncomputable def Bag.mean (c : Bag) : ExcName → Option Value := c.2.2.2.2.2.2.2.2.2.1
noncomputable def Bag.qf (c : Bag) : Flow → Shared → Prop := c.2.2.2.2.2.2.2.2.2.2.1
noncomputable def Bag.qu (c : Bag) : Unit → Shared → Prop := c.2.2.2.2.2.2.2.2.2.2.2.1
noncomputable def Bag.n (c : Bag) : Nat → Nat := c.2.2.2.2.2.2.2.2.2.2.2.2.1
noncomputable def Bag.str (c : Bag) : Nat → Str := c.2.2.2.2.2.2.2.2.2.2.2.2.2.1
noncomputable def Bag.heap (c : Bag) : Nat → Heap := c.2.2.2.2.2.2.2.2.2.2.2.2.2.2.1
noncomputable def Bag.m (c : Bag) : Nat → Str → Option Value := c.2.2.2.2.2.2.2.2.2.2.2.2.2.2.2.1
noncomputable def Bag.news (c : Bag) : Nat → List (Addr × Obj) := c.2.2.2.2.2.2.2.2.2.2.2.2.2.2.2.2.1
noncomputable def Bag.q (c : Bag) : Nat → Value → Shared → Prop := c.2.2.2.2.2.2.2.2.2.2.2.2.2.2.2.2.2.1
noncomputable def Bag.i (c : Bag) : Nat → Int := c.2.2.2.2.2.2.2.2.2.2.2.2.2.2.2.2.2.2.1
noncomputable def Bag.vs (c : Bag) : List Value := c.2.2.2.2.2.2.2.2.2.2.2.2.2.2.2.2.2.2.2.1
noncomputable def Bag.ns (c : Bag) : List Int := c.2.2.2.2.2.2.2.2.2.2.2.2.2.2.2.2.2.2.2.2.1
noncomputable def Bag.b (c : Bag) : Nat → Array UInt8 := c.2.2.2.2.2.2.2.2.2.2.2.2.2.2.2.2.2.2.2.2.2.1
noncomputable def Bag.bool (c : Bag) : Bool := c.2.2.2.2.2.2.2.2.2.2.2.2.2.2.2.2.2.2.2.2.2.2.1
noncomputable def Bag.o (c : Bag) : Nat → Obj := c.2.2.2.2.2.2.2.2.2.2.2.2.2.2.2.2.2.2.2.2.2.2.2.1
noncomputable def Bag.avs (c : Bag) : Nat → Array Value := c.2.2.2.2.2.2.2.2.2.2.2.2.2.2.2.2.2.2.2.2.2.2.2.2.1
noncomputable def Bag.kvs (c : Bag) : Nat → List (Str × Value) := c.2.2.2.2.2.2.2.2.2.2.2.2.2.2.2.2.2.2.2.2.2.2.2.2.2.1
noncomputable def Bag.nb (c : Bag) : Nat → Nat → Array UInt8 := c.2.2.2.2.2.2.2.2.2.2.2.2.2.2.2.2.2.2.2.2.2.2.2.2.2.2.1
noncomputable def Bag.nbool (c : Bag) : Nat → Bool := c.2.2.2.2.2.2.2.2.2.2.2.2.2.2.2.2.2.2.2.2.2.2.2.2.2.2.2.1
noncomputable def Bag.nn (c : Bag) : Nat → Nat := c.2.2.2.2.2.2.2.2.2.2.2.2.2.2.2.2.2.2.2.2.2.2.2.2.2.2.2.2.1
noncomputable def Bag.l (c : Bag) : Nat → List Nat := c.2.2.2.2.2.2.2.2.2.2.2.2.2.2.2.2.2.2.2.2.2.2.2.2.2.2.2.2.2.1
noncomputable def Bag.kc (c : Bag) : List (Nat × UInt8) := c.2.2.2.2.2.2.2.2.2.2.2.2.2.2.2.2.2.2.2.2.2.2.2.2.2.2.2.2.2.2.1
noncomputable def Bag.nd (c : Bag) : Nat → Option WD := c.2.2.2.2.2.2.2.2.2.2.2.2.2.2.2.2.2.2.2.2.2.2.2.2.2.2.2.2.2.2.2.1
noncomputable def Bag.u8 (c : Bag) : UInt8 := c.2.2.2.2.2.2.2.2.2.2.2.2.2.2.2.2.2.2.2.2.2.2.2.2.2.2.2.2.2.2.2.2.1
noncomputable def Bag.d (c : Bag) : WD := c.2.2.2.2.2.2.2.2.2.2.2.2.2.2.2.2.2.2.2.2.2.2.2.2.2.2.2.2.2.2.2.2.2.1
noncomputable def Bag.ov (c : Bag) : Nat → Option Value := c.2.2.2.2.2.2.2.2.2.2.2.2.2.2.2.2.2.2.2.2.2.2.2.2.2.2.2.2.2.2.2.2.2.2
noncomputable def Bag.mk (w : World) (gd : Option (List Code)) (cs : Scope) (v : Value) (cl : List (Str × Addr)) (outer : List Env) (ar : Around) (s : Shared) (loose : List Str) (mean : ExcName → Option Value) (qf : Flow → Shared → Prop) (qu : Unit → Shared → Prop) (n : Nat → Nat) (str : Nat → Str) (heap : Nat → Heap) (m : Nat → Str → Option Value) (news : Nat → List (Addr × Obj)) (q : Nat → Value → Shared → Prop) (i : Nat → Int) (vs : List Value) (ns : List Int) (b : Nat → Array UInt8) (bool : Bool) (o : Nat → Obj) (avs : Nat → Array Value) (kvs : Nat → List (Str × Value)) (nb : Nat → Nat → Array UInt8) (nbool : Nat → Bool) (nn : Nat → Nat) (l : Nat → List Nat) (kc : List (Nat × UInt8)) (nd : Nat → Option WD) (u8 : UInt8) (d : WD) (ov : Nat → Option Value) : Bag := (w, gd, cs, v, cl, outer, ar, s, loose, mean, qf, qu, n, str, heap, m, news, q, i, vs, ns, b, bool, o, avs, kvs, nb, nbool, nn, l, kc, nd, u8, d, ov)
theorem neBag : Nonempty Bag := by
  have w : World := { draws := fun _ _ => 0, params := { strHash := fun _ => 0, shareClass := fun _ => 0, mergeTok := fun t => t, idOf := fun _ => 0, idOfShared := fun _ _ => 0, followText := fun _ => false, idOfImm := fun _ => 0 } }
  exact ⟨w, none, Classical.choice inferInstance, .none, [], [], {}, {}, [], fun _ => none, fun _ _ => True, fun _ _ => True, fun _ => 0, fun _ => Str.ofString "", fun _ => Classical.choice inferInstance, fun _ _ => none, fun _ => [], fun _ _ _ => True, fun _ => 0, [], [], fun _ => #[], true, fun _ => Classical.choice inferInstance, fun _ => #[], fun _ => [], fun _ _ => #[], fun _ => true, fun _ => 0, fun _ => [], [], fun _ => none, 0, ⟨0, 0, 0, 0⟩, fun _ => none⟩
@[irreducible] noncomputable def bag0 : Bag := Classical.choice neBag
noncomputable def lk {α : Type} (l : List α) : α → Nat → α := List.rec (fun x _ => x) (fun y _ ih x n => Nat.rec x (fun k _ => ih y k) n) l
noncomputable def pick (S : Bag → Prop) : Bag := @Classical.epsilon Bag neBag (fun x => ¬ S x)
theorem clo {S : Bag → Prop} {c : Bag} (e : c = pick S) (h : S c) (x : Bag) : S x := by
  subst e
  exact Classical.byContradiction fun hx => (@Classical.epsilon_spec Bag (fun x => ¬ S x) ⟨x, hx⟩ : ¬ S (pick S)) h
theorem r0 {a b R : Nat} (h : a + b < R) : a < R := Nat.lt_of_le_of_lt (Nat.le_add_right a b) h
theorem r1 {a b c R : Nat} (h : a + b < R) (k : Nat.ble c b = true) : a + c < R := Nat.lt_of_le_of_lt (Nat.add_le_add_left (Nat.le_of_ble_eq_true k) a) h
theorem r2 {a b c d R : Nat} (h : a + b < R) (k : Nat.ble (c + d) b = true) : a + c + d < R := Nat.add_assoc a c d ▸ r1 h k
theorem r3 {a b c d e R : Nat} (h : a + b < R) (k : Nat.ble (c + d + e) b = true) : a + c + d + e < R := (Nat.add_assoc a c d).symm ▸ r2 (c := c + d) h k
theorem anR {ze1 ze2 : Prop} (ze3 : ze1 ∧ ze2) : ze2 := ze3.2
theorem neG {ze1 ze2 : Nat} {ze3 : Prop} (ze4 : ze2 < ze1 ∧ ze3) : ze1 ≠ ze2 := Nat.ne_of_gt ze4.1
theorem neL {ze1 ze2 : Nat} {ze3 : Prop} (ze4 : ze1 < ze2 ∧ ze3) : ze1 ≠ ze2 := Nat.ne_of_lt ze4.1
theorem ltL {ze1 ze2 ze5 : Nat} {ze3 : Prop} (ze6 : ze5 < ze1) (ze4 : ze1 < ze2 ∧ ze3) : ze5 < ze2 := Nat.lt_trans ze6 ze4.1
theorem lt3 : ∀ {k : Nat}, k < 3 → k = 0 ∨ k = 1 ∨ k = 2
  | 0, _ => .inl rfl
  | 1, _ => .inr (.inl rfl)
  | 2, _ => .inr (.inr rfl)
  | k + 3, h => absurd h (Nat.not_lt.mpr (Nat.le_add_left 3 k))
theorem nat_of {d : Int} {b : Nat} (h0 : 0 ≤ d) (h1 : d < (b : Int)) : ∃ n : Nat, d = (n : Int) ∧ n < b := by
  obtain ⟨n, rfl⟩ := Int.eq_ofNat_of_zero_le h0
  exact ⟨n, rfl, Int.ofNat_lt.mp h1⟩
theorem sz_le {x : Nat} (h : x ≤ 5) : x ≤ 16777216 := Nat.le_trans h (Nat.le_of_ble_eq_true rfl)
theorem cloA {α : Type} {ne : Nonempty α} {S : α → Prop} {c : α} (e : c = @Classical.epsilon α ne (fun x => ¬ S x)) (h : S c) (x : α) : S x := by
  subst e
  exact Classical.byContradiction fun hx => (@Classical.epsilon_spec α (fun x => ¬ S x) ⟨x, hx⟩ : ¬ S (@Classical.epsilon α ne (fun x => ¬ S x))) h

end
section
open PySem PySem.W PySem.Calls PyProof.Rows
/-- the top's run on the tree heap -/
noncomputable def topRunT (stp : SharedT → Thread → Option (SharedT × Thread)) (n₀ : Nat) (ann : Option Value) : Nat → SharedT → Thread → Option SharedT
  | 0, _, _ => none
  | n + 1, s, t => match through t with
    | true => some s
    | false => match stepOk n₀ ann t with
      | false => none
      | true => match stp s t with
        | some (s', t') => topRunT stp n₀ ann n s' t'
        | none => none

theorem topRunT_spec {tb : String → Option Builtin} {p : Program} {w : World} {n₀ : Nat} {ann : Option Value} : ∀ {n : Nat} {s s' : SharedT} {t : Thread},
    topRunT (stepT (denote tb) p w) n₀ ann n s t = some s' → topRun tb p w n₀ ann n s.abs t = some s'.abs
  | 0, _, _, _, h => by cases h
  | n + 1, s, s', t, h => by
    unfold topRunT at h
    unfold topRun
    cases ht : through t with
    | true => rw [ht] at h; cases h; rfl
    | false =>
      rw [ht] at h
      cases hk : stepOk n₀ ann t with
      | false => rw [hk] at h; cases h
      | true =>
        rw [hk] at h
        cases hs : stepT (denote tb) p w s t with
        | none => rw [hs] at h; cases h
        | some r => obtain ⟨s₂, t₂⟩ := r; rw [hs] at h; rw [stepT_spec hs]; exact topRunT_spec h

noncomputable abbrev pw : Program := PySem.Challenge.pw_pq0646_01
noncomputable def q : Program := view pw [147]
noncomputable def tree₀ (P : Params) : BT :=
  [boot_o_0 P, boot_o_1 P, boot_o_2 P, boot_o_3 P, boot_o_4 P, boot_o_5 P, boot_o_6 P, boot_o_7 P, boot_o_8 P, boot_o_9 P, boot_o_10 P].zipIdx.foldl (fun t x => t.ins x.2 x.1) BT.nil
noncomputable def st₀ (w : World) (os : OsState) : SharedT := ⟨tree₀ w.params, 11, (boot_heap w.params).life, #[], boot_drawn, boot_toks, os⟩
theorem st₀_abs (w : World) (os : OsState) : (st₀ w os).abs = ⟨boot_heap w.params, #[], boot_drawn, boot_toks, os⟩ := by kernel_rfl
theorem open_ : ∀ w : World, (fencedOpening treeTable pw w 7000).map (fun s => (s.heap, s.gens, s.drawn, s.toks)) = some (boot_heap w.params, Array.mk [], boot_drawn, boot_toks) :=
  boot_open (by kernel_rfl) (by decide) (fun s => by kernel_rfl)
theorem size_ : ∀ w : World, ((boot_heap w.params).isNs mainGlobals && (Array.mk [] : Array GenState).size == 0, (boot_heap w.params).objs.size, (boot_heap w.params).nsMap mainGlobals "__annotations__") = (true, 11, some (.ref 6)) := fun w => by kernel_rfl
noncomputable def r : OpenRow := PySem.Challenge.rw_pq0646_01.row
noncomputable def loose : List Str := pw.boundNames.filter fun n => n != "law"
noncomputable def Xt (s : Shared) : Bool := xlAt q [] s && recOk (RowW.records r.toRowW) s
noncomputable def look {α : Type} (Yf : Shared → α) (w : World) (s : Shared) :=
  ((staticsOk (importedModules pw.main.body) (boot_heap w.params) s.heap && namesBound pw s.heap && gensDone s && laidKept (boot_heap w.params) s.heap),
    PySem.W.Fast.tw4187177175401517315 q loose (importedModules pw.main.body) Xt true s, Yf s)
noncomputable def stepQ (w : World) : SharedT → Thread → Option (SharedT × Thread) :=
  PySem.W.Fast.tw10156331382660048174 (PySem.W.Fast.tw11892475500146522536 PySem.W.Fast.tw14364793385576792824) pw w
theorem stepQ_eq (w : World) : stepQ w = stepT (denote treeTable) pw w := by
  unfold stepQ
  rw [← PySem.W.Fast.te10156331382660048174, ← PySem.W.Fast.te11892475500146522536, ← PySem.W.Fast.te14364793385576792824]

end
section
open PySem PySem.W PySem.Calls PyProof.Rows
noncomputable def stAt (i : Nat) : Stmt := (pw.main.body[i]?).getD (.Pass default)
noncomputable def mAt (i j : Nat) : Stmt := match stAt i with
  | .ClassDef _ _ _ b _ _ _ _ _ _ _ => (b[j]?).getD (.Pass default)
  | _ => .Pass default
noncomputable def fnS (st : Stmt) (qual : Str) (globals : Addr) (closure : List (Str × Addr)) (defaults kwdefaults doc pyModule : Value) (annotations : Option Addr) (code closureTuple : Value) (builtins : Addr) : Obj := match st with
  | .FunctionDef name params body _ _ _ scope _ _ _ => ⟨.type "function", none, .func ⟨name, qual, params, .stmts body, scope, globals, closure, defaults, kwdefaults, doc, pyModule, annotations, code, closureTuple, builtins⟩, #[]⟩
  | _ => default
noncomputable def K (P : Params) : Frag :=
  (nat_lit 2, (Obj.mk Value.none none (Data.dict #[(DictEntry.mk (PyData.keyHash P (Str.ofString "type.__subclasses__.Exception.0")) (Value.str (Str.ofString "type.__subclasses__.Exception.0") 232) (Value.int 47 0)), (DictEntry.mk (PyData.keyHash P (Str.ofString "type.__subclasses__.Exception.n")) (Value.str (Str.ofString "type.__subclasses__.Exception.n") 233) (Value.int 1 0))] 2) #[])) ::
  (nat_lit 3, (Obj.mk (Value.type "dict") none (Data.dict (List.toArray ((DictEntry.mk (PyData.keyHash P (Str.ofString "__name__")) (Value.str (Str.ofString "__name__") 165) (Value.str (Str.ofString "law_pq0646_01") 1567)) :: (DictEntry.mk (PyData.keyHash P (Str.ofString "__doc__")) (Value.str (Str.ofString "__doc__") 166) Value.none) :: (DictEntry.mk (PyData.keyHash P (Str.ofString "__package__")) (Value.str (Str.ofString "__package__") 167) Value.none) :: (DictEntry.mk (PyData.keyHash P (Str.ofString "__loader__")) (Value.str (Str.ofString "__loader__") 168) (Value.builtin "__main__.__loader__#opaque")) :: (DictEntry.mk (PyData.keyHash P (Str.ofString "__spec__")) (Value.str (Str.ofString "__spec__") 169) Value.none) :: (DictEntry.mk (PyData.keyHash P (Str.ofString "__annotations__")) (Value.str (Str.ofString "__annotations__") 170) (Value.ref 6)) :: (DictEntry.mk (PyData.keyHash P (Str.ofString "__builtins__")) (Value.str (Str.ofString "__builtins__") 171) (Value.ref 4)) :: (DictEntry.mk (PyData.keyHash P (Str.ofString "__file__")) (Value.str (Str.ofString "__file__") 173) (Value.str (Str.ofString "/claim/cut.py") 172)) :: (DictEntry.mk (PyData.keyHash P (Str.ofString "__cached__")) (Value.str (Str.ofString "__cached__") 174) Value.none) :: (DictEntry.mk (PyData.keyHash P (Str.ofString "_wall")) (Value.str (Str.ofString "_wall") 193) (Value.ref 21)) :: (DictEntry.mk (PyData.keyHash P (Str.ofString "LedgerError")) (Value.str (Str.ofString "LedgerError") 235) (Value.ref 47)) :: (DictEntry.mk (PyData.keyHash P (Str.ofString "DataFault")) (Value.str (Str.ofString "DataFault") 251) (Value.ref 60)) :: (DictEntry.mk (PyData.keyHash P (Str.ofString "CheckFault")) (Value.str (Str.ofString "CheckFault") 267) (Value.ref 72)) :: (DictEntry.mk (PyData.keyHash P (Str.ofString "RunFault")) (Value.str (Str.ofString "RunFault") 283) (Value.ref 84)) :: (DictEntry.mk (PyData.keyHash P (Str.ofString "SizeFault")) (Value.str (Str.ofString "SizeFault") 299) (Value.ref 96)) :: (DictEntry.mk (PyData.keyHash P (Str.ofString "spec_of")) (Value.str (Str.ofString "spec_of") 309) (Value.ref 105)) :: (DictEntry.mk (PyData.keyHash P (Str.ofString "close_status")) (Value.str (Str.ofString "close_status") 318) (Value.ref 112)) :: (DictEntry.mk (PyData.keyHash P (Str.ofString "close_all")) (Value.str (Str.ofString "close_all") 326) (Value.ref 119)) :: (DictEntry.mk (PyData.keyHash P (Str.ofString "MOST_PLACES")) (Value.str (Str.ofString "MOST_PLACES") 330) (Value.int 30 329)) :: (DictEntry.mk (PyData.keyHash P (Str.ofString "MOST_POWER")) (Value.str (Str.ofString "MOST_POWER") 332) (Value.int 99 331)) :: (DictEntry.mk (PyData.keyHash P (Str.ofString "MOST_FIGURES")) (Value.str (Str.ofString "MOST_FIGURES") 334) (Value.int 120 333)) :: (DictEntry.mk (PyData.keyHash P (Str.ofString "cut_quotient")) (Value.str (Str.ofString "cut_quotient") 342) (Value.ref 126)) :: (DictEntry.mk (PyData.keyHash P (Str.ofString "decimal")) (Value.str (Str.ofString "decimal") 351) (Value.ref 134)) :: (DictEntry.mk (PyData.keyHash P (Str.ofString "kept")) (Value.str (Str.ofString "kept") 359) (Value.ref 141)) :: (DictEntry.mk (PyData.keyHash P (Str.ofString "units_beside")) (Value.str (Str.ofString "units_beside") 368) (Value.ref 148)) :: (DictEntry.mk (PyData.keyHash P (Str.ofString "plus")) (Value.str (Str.ofString "plus") 379) (Value.ref 155)) :: (DictEntry.mk (PyData.keyHash P (Str.ofString "minus")) (Value.str (Str.ofString "minus") 390) (Value.ref 162)) :: (DictEntry.mk (PyData.keyHash P (Str.ofString "times")) (Value.str (Str.ofString "times") 398) (Value.ref 169)) :: (DictEntry.mk (PyData.keyHash P (Str.ofString "negated")) (Value.str (Str.ofString "negated") 405) (Value.ref 176)) :: (DictEntry.mk (PyData.keyHash P (Str.ofString "quotient")) (Value.str (Str.ofString "quotient") 414) (Value.ref 184)) :: (DictEntry.mk (PyData.keyHash P (Str.ofString "power")) (Value.str (Str.ofString "power") 424) (Value.ref 191)) :: (DictEntry.mk (PyData.keyHash P (Str.ofString "units_at")) (Value.str (Str.ofString "units_at") 435) (Value.ref 198)) :: (DictEntry.mk (PyData.keyHash P (Str.ofString "is_whole")) (Value.str (Str.ofString "is_whole") 442) (Value.ref 205)) :: (DictEntry.mk (PyData.keyHash P (Str.ofString "whole_of")) (Value.str (Str.ofString "whole_of") 449) (Value.ref 212)) :: (DictEntry.mk (PyData.keyHash P (Str.ofString "fits")) (Value.str (Str.ofString "fits") 457) (Value.ref 219)) :: (DictEntry.mk (PyData.keyHash P (Str.ofString "FILLER")) (Value.str (Str.ofString "FILLER") 461) (Value.str (Str.ofString "FILLER") 460)) :: (DictEntry.mk (PyData.keyHash P (Str.ofString "RENAMING")) (Value.str (Str.ofString "RENAMING") 463) (Value.int 66 462)) :: (DictEntry.mk (PyData.keyHash P (Str.ofString "Item")) (Value.str (Str.ofString "Item") 541) (Value.ref 262)) :: (DictEntry.mk (PyData.keyHash P (Str.ofString "Data")) (Value.str (Str.ofString "Data") 580) (Value.ref 288)) :: (DictEntry.mk (PyData.keyHash P (Str.ofString "records")) (Value.str (Str.ofString "records") 589) (Value.ref 299)) :: (DictEntry.mk (PyData.keyHash P (Str.ofString "items_under")) (Value.str (Str.ofString "items_under") 599) (Value.ref 306)) :: (DictEntry.mk (PyData.keyHash P (Str.ofString "all_items")) (Value.str (Str.ofString "all_items") 608) (Value.ref 313)) :: (DictEntry.mk (PyData.keyHash P (Str.ofString "items_around")) (Value.str (Str.ofString "items_around") 617) (Value.ref 320)) :: (DictEntry.mk (PyData.keyHash P (Str.ofString "root_of")) (Value.str (Str.ofString "root_of") 625) (Value.ref 327)) :: (DictEntry.mk (PyData.keyHash P (Str.ofString "names_around")) (Value.str (Str.ofString "names_around") 631) (Value.ref 332)) :: (DictEntry.mk (PyData.keyHash P (Str.ofString "tables_around")) (Value.str (Str.ofString "tables_around") 637) (Value.ref 337)) :: (DictEntry.mk (PyData.keyHash P (Str.ofString "is_group")) (Value.str (Str.ofString "is_group") 643) (Value.ref 342)) :: (DictEntry.mk (PyData.keyHash P (Str.ofString "plain_kids")) (Value.str (Str.ofString "plain_kids") 649) (Value.ref 347)) :: (DictEntry.mk (PyData.keyHash P (Str.ofString "places")) (Value.str (Str.ofString "places") 661) (Value.ref 354)) :: (DictEntry.mk (PyData.keyHash P (Str.ofString "FIXED")) (Value.str (Str.ofString "FIXED") 665) (Value.str (Str.ofString "$+-") 664)) :: (DictEntry.mk (PyData.keyHash P (Str.ofString "INSERTED")) (Value.str (Str.ofString "INSERTED") 667) (Value.str (Str.ofString "B0/,") 666)) :: (DictEntry.mk (PyData.keyHash P (Str.ofString "BLANK_editing")) (Value.str (Str.ofString "BLANK_editing") 669) (Value.str (Str.ofString " ") 668)) :: (DictEntry.mk (PyData.keyHash P (Str.ofString "floating_sign")) (Value.str (Str.ofString "floating_sign") 677) (Value.ref 361)) :: (DictEntry.mk (PyData.keyHash P (Str.ofString "roles_of")) (Value.str (Str.ofString "roles_of") 688) (Value.ref 368)) :: (DictEntry.mk (PyData.keyHash P (Str.ofString "is_suppressing")) (Value.str (Str.ofString "is_suppressing") 695) (Value.ref 375)) :: (DictEntry.mk (PyData.keyHash P (Str.ofString "figures_laid")) (Value.str (Str.ofString "figures_laid") 705) (Value.ref 382)) :: (DictEntry.mk (PyData.keyHash P (Str.ofString "sign_text")) (Value.str (Str.ofString "sign_text") 713) (Value.ref 389)) :: (DictEntry.mk (PyData.keyHash P (Str.ofString "insert_text")) (Value.str (Str.ofString "insert_text") 720) (Value.ref 396)) :: (DictEntry.mk (PyData.keyHash P (Str.ofString "Layer")) (Value.str (Str.ofString "Layer") 783) (Value.ref 434)) :: (DictEntry.mk (PyData.keyHash P (Str.ofString "vanished")) (Value.str (Str.ofString "vanished") 789) (Value.ref 443)) :: (DictEntry.mk (PyData.keyHash P (Str.ofString "edited_text")) (Value.str (Str.ofString "edited_text") 805) (Value.ref 450)) :: (DictEntry.mk (PyData.keyHash P (Str.ofString "edited")) (Value.str (Str.ofString "edited") 811) (Value.ref 456)) :: (DictEntry.mk (PyData.keyHash P (Str.ofString "data_places")) (Value.str (Str.ofString "data_places") 817) (Value.ref 461)) :: (DictEntry.mk (PyData.keyHash P (Str.ofString "inserted")) (Value.str (Str.ofString "inserted") 831) (Value.ref 468)) :: (DictEntry.mk (PyData.keyHash P (Str.ofString "Shape")) (Value.str (Str.ofString "Shape") 898) (Value.ref 500)) :: (DictEntry.mk (PyData.keyHash P (Str.ofString "is_numeric")) (Value.str (Str.ofString "is_numeric") 905) (Value.ref 511)) :: (DictEntry.mk (PyData.keyHash P (Str.ofString "has_units")) (Value.str (Str.ofString "has_units") 912) (Value.ref 518)) :: (DictEntry.mk (PyData.keyHash P (Str.ofString "unit_bound")) (Value.str (Str.ofString "unit_bound") 919) (Value.ref 525)) :: (DictEntry.mk (PyData.keyHash P (Str.ofString "group_shape")) (Value.str (Str.ofString "group_shape") 926) (Value.ref 532)) :: (DictEntry.mk (PyData.keyHash P (Str.ofString "text_shape")) (Value.str (Str.ofString "text_shape") 933) (Value.ref 539)) :: (DictEntry.mk (PyData.keyHash P (Str.ofString "numbered_shape")) (Value.str (Str.ofString "numbered_shape") 946) (Value.ref 546)) :: (DictEntry.mk (PyData.keyHash P (Str.ofString "figure_count")) (Value.str (Str.ofString "figure_count") 955) (Value.ref 553)) :: (DictEntry.mk (PyData.keyHash P (Str.ofString "number_shape")) (Value.str (Str.ofString "number_shape") 965) (Value.ref 560)) :: (DictEntry.mk (PyData.keyHash P (Str.ofString "NOUGHT")) (Value.str (Str.ofString "NOUGHT") 969) (Value.int 48 968)) :: (DictEntry.mk (PyData.keyHash P (Str.ofString "PLUS")) (Value.str (Str.ofString "PLUS") 971) (Value.int 43 970)) :: (DictEntry.mk (PyData.keyHash P (Str.ofString "MINUS")) (Value.str (Str.ofString "MINUS") 973) (Value.int 45 972)) :: (DictEntry.mk (PyData.keyHash P (Str.ofString "PLUS_FIGURES")) (Value.str (Str.ofString "PLUS_FIGURES") 975) (Value.bytes #[123, 65, 66, 67, 68, 69, 70, 71, 72, 73] 974)) :: (DictEntry.mk (PyData.keyHash P (Str.ofString "MINUS_FIGURES")) (Value.str (Str.ofString "MINUS_FIGURES") 977) (Value.bytes #[125, 74, 75, 76, 77, 78, 79, 80, 81, 82] 976)) :: (DictEntry.mk (PyData.keyHash P (Str.ofString "PACKED_PLUS")) (Value.str (Str.ofString "PACKED_PLUS") 979) (Value.int 12 978)) :: (DictEntry.mk (PyData.keyHash P (Str.ofString "PACKED_MINUS")) (Value.str (Str.ofString "PACKED_MINUS") 981) (Value.int 13 980)) :: (DictEntry.mk (PyData.keyHash P (Str.ofString "PACKED_PLAIN")) (Value.str (Str.ofString "PACKED_PLAIN") 983) (Value.int 15 982)) :: (DictEntry.mk (PyData.keyHash P (Str.ofString "kept_units")) (Value.str (Str.ofString "kept_units") 992) (Value.ref 567)) :: (DictEntry.mk (PyData.keyHash P (Str.ofString "figures_for")) (Value.str (Str.ofString "figures_for") 1003) (Value.ref 574)) :: (DictEntry.mk (PyData.keyHash P (Str.ofString "display_octets")) (Value.str (Str.ofString "display_octets") 1009) (Value.ref 579)) :: (DictEntry.mk (PyData.keyHash P (Str.ofString "packed_octets")) (Value.str (Str.ofString "packed_octets") 1015) (Value.ref 584)) :: (DictEntry.mk (PyData.keyHash P (Str.ofString "binary_octets")) (Value.str (Str.ofString "binary_octets") 1026) (Value.ref 591)) :: (DictEntry.mk (PyData.keyHash P (Str.ofString "octets_for")) (Value.str (Str.ofString "octets_for") 1035) (Value.ref 598)) :: (DictEntry.mk (PyData.keyHash P (Str.ofString "joined_figures")) (Value.str (Str.ofString "joined_figures") 1045) (Value.ref 605)) :: (DictEntry.mk (PyData.keyHash P (Str.ofString "signed_figure")) (Value.str (Str.ofString "signed_figure") 1052) (Value.ref 612)) :: (DictEntry.mk (PyData.keyHash P (Str.ofString "display_units")) (Value.str (Str.ofString "display_units") 1058) (Value.ref 617)) :: (DictEntry.mk (PyData.keyHash P (Str.ofString "packed_units")) (Value.str (Str.ofString "packed_units") 1070) (Value.ref 624)) :: (DictEntry.mk (PyData.keyHash P (Str.ofString "binary_units")) (Value.str (Str.ofString "binary_units") 1080) (Value.ref 631)) :: (DictEntry.mk (PyData.keyHash P (Str.ofString "units_in")) (Value.str (Str.ofString "units_in") 1089) (Value.ref 638)) :: (DictEntry.mk (PyData.keyHash P (Str.ofString "number_in")) (Value.str (Str.ofString "number_in") 1097) (Value.ref 645)) :: (DictEntry.mk (PyData.keyHash P (Str.ofString "cut_octets")) (Value.str (Str.ofString "cut_octets") 1105) (Value.ref 652)) :: (DictEntry.mk (PyData.keyHash P (Str.ofString "BLANK_moving")) (Value.str (Str.ofString "BLANK_moving") 1109) (Value.bytes #[32] 1108)) :: (DictEntry.mk (PyData.keyHash P (Str.ofString "NOUGHT_CODE")) (Value.str (Str.ofString "NOUGHT_CODE") 1111) (Value.int 48 1110)) :: (DictEntry.mk (PyData.keyHash P (Str.ofString "NUMBERS")) (Value.str (Str.ofString "NUMBERS") 1114) (Value.ref 653)) :: (DictEntry.mk (PyData.keyHash P (Str.ofString "aligned")) (Value.str (Str.ofString "aligned") 1123) (Value.ref 661)) :: (DictEntry.mk (PyData.keyHash P (Str.ofString "repeated")) (Value.str (Str.ofString "repeated") 1131) (Value.ref 668)) :: (DictEntry.mk (PyData.keyHash P (Str.ofString "whole_figures_of")) (Value.str (Str.ofString "whole_figures_of") 1141) (Value.ref 675)) :: (DictEntry.mk (PyData.keyHash P (Str.ofString "number_for")) (Value.str (Str.ofString "number_for") 1149) (Value.ref 682)) :: (DictEntry.mk (PyData.keyHash P (Str.ofString "pattern_of")) (Value.str (Str.ofString "pattern_of") 1156) (Value.ref 689)) :: (DictEntry.mk (PyData.keyHash P (Str.ofString "filled_number")) (Value.str (Str.ofString "filled_number") 1164) (Value.ref 696)) :: (DictEntry.mk (PyData.keyHash P (Str.ofString "filled")) (Value.str (Str.ofString "filled") 1173) (Value.ref 703)) :: (DictEntry.mk (PyData.keyHash P (Str.ofString "data_fault")) (Value.str (Str.ofString "data_fault") 1183) (Value.ref 710)) :: (DictEntry.mk (PyData.keyHash P (Str.ofString "valued")) (Value.str (Str.ofString "valued") 1192) (Value.ref 717)) :: (DictEntry.mk (PyData.keyHash P (Str.ofString "unvalued")) (Value.str (Str.ofString "unvalued") 1199) (Value.ref 724)) :: (DictEntry.mk (PyData.keyHash P (Str.ofString "first_octets")) (Value.str (Str.ofString "first_octets") 1205) (Value.ref 729)) :: (DictEntry.mk (PyData.keyHash P (Str.ofString "initial_memory")) (Value.str (Str.ofString "initial_memory") 1215) (Value.ref 736)) :: (DictEntry.mk (PyData.keyHash P (Str.ofString "TWO_SIDED")) (Value.str (Str.ofString "TWO_SIDED") 1223) (Value.ref 737)) :: (DictEntry.mk (PyData.keyHash P (Str.ofString "postfix")) (Value.str (Str.ofString "postfix") 1234) (Value.ref 744)) :: (DictEntry.mk (PyData.keyHash P (Str.ofString "applied")) (Value.str (Str.ofString "applied") 1243) (Value.ref 751)) :: (DictEntry.mk (PyData.keyHash P (Str.ofString "reckoned")) (Value.str (Str.ofString "reckoned") 1255) (Value.ref 758)) :: (DictEntry.mk (PyData.keyHash P (Str.ofString "file_of")) (Value.str (Str.ofString "file_of") 1263) (Value.ref 763)) :: (DictEntry.mk (PyData.keyHash P (Str.ofString "leads_through")) (Value.str (Str.ofString "leads_through") 1273) (Value.ref 770)) :: (DictEntry.mk (PyData.keyHash P (Str.ofString "only_one")) (Value.str (Str.ofString "only_one") 1281) (Value.ref 777)) :: (DictEntry.mk (PyData.keyHash P (Str.ofString "find_item")) (Value.str (Str.ofString "find_item") 1287) (Value.ref 782)) :: (DictEntry.mk (PyData.keyHash P (Str.ofString "stretch")) (Value.str (Str.ofString "stretch") 1302) (Value.ref 789)) :: (DictEntry.mk (PyData.keyHash P (Str.ofString "World")) (Value.str (Str.ofString "World") 1346) (Value.ref 806)) :: (DictEntry.mk (PyData.keyHash P (Str.ofString "is_index")) (Value.str (Str.ofString "is_index") 1354) (Value.ref 817)) :: (DictEntry.mk (PyData.keyHash P (Str.ofString "memory_of")) (Value.str (Str.ofString "memory_of") 1362) (Value.ref 824)) :: (DictEntry.mk (PyData.keyHash P (Str.ofString "place_of_octets")) (Value.str (Str.ofString "place_of_octets") 1375) (Value.ref 831)) :: (DictEntry.mk (PyData.keyHash P (Str.ofString "part_of")) (Value.str (Str.ofString "part_of") 1384) (Value.ref 838)) :: (DictEntry.mk (PyData.keyHash P (Str.ofString "spot_in")) (Value.str (Str.ofString "spot_in") 1390) (Value.ref 843)) :: (DictEntry.mk (PyData.keyHash P (Str.ofString "octets_at")) (Value.str (Str.ofString "octets_at") 1401) (Value.ref 850)) :: (DictEntry.mk (PyData.keyHash P (Str.ofString "put_octets")) (Value.str (Str.ofString "put_octets") 1413) (Value.ref 857)) :: (DictEntry.mk (PyData.keyHash P (Str.ofString "operand_in")) (Value.str (Str.ofString "operand_in") 1424) (Value.ref 864)) :: (DictEntry.mk (PyData.keyHash P (Str.ofString "number_of")) (Value.str (Str.ofString "number_of") 1434) (Value.ref 871)) :: (DictEntry.mk (PyData.keyHash P (Str.ofString "worth_in")) (Value.str (Str.ofString "worth_in") 1443) (Value.ref 878)) :: (DictEntry.mk (PyData.keyHash P (Str.ofString "whole_in")) (Value.str (Str.ofString "whole_in") 1452) (Value.ref 885)) :: (DictEntry.mk (PyData.keyHash P (Str.ofString "MOST_STEPS")) (Value.str (Str.ofString "MOST_STEPS") 1456) (Value.int 100000 1455)) :: (DictEntry.mk (PyData.keyHash P (Str.ofString "Library")) (Value.str (Str.ofString "Library") 1509) (Value.ref 917)) :: (DictEntry.mk (PyData.keyHash P (Str.ofString "world_for")) (Value.str (Str.ofString "world_for") 1520) (Value.ref 928)) :: (DictEntry.mk (PyData.keyHash P (Str.ofString "Program")) (Value.str (Str.ofString "Program") 1566) (Value.ref 953)) :: (DictEntry.mk (PyData.keyHash P (Str.ofString "_law_REF")) (Value.str (Str.ofString "_law_REF") 1571) (Value.ref 960)) :: (DictEntry.mk (PyData.keyHash P (Str.ofString "_law_pen")) (Value.str (Str.ofString "_law_pen") 1580) (Value.ref 967)) :: (DictEntry.mk (PyData.keyHash P (Str.ofString "_law_draw")) (Value.str (Str.ofString "_law_draw") 1589) (Value.ref 974)) :: (DictEntry.mk (PyData.keyHash P (Str.ofString "_law_program")) (Value.str (Str.ofString "_law_program") 1600) (Value.ref 981)) :: (DictEntry.mk (PyData.keyHash P (Str.ofString "_law_right")) (Value.str (Str.ofString "_law_right") 1606) (Value.ref 986)) :: (DictEntry.mk (PyData.keyHash P (Str.ofString "law")) (Value.str (Str.ofString "law") 1612) (Value.ref 991)) :: [])) 141) #[])) ::
  (nat_lit 118, (Obj.mk (Value.type "code") none (Data.fields #[(Value.str (Str.ofString "close_all") 319), (Value.str (Str.ofString "close_all") 320), (Value.str (Str.ofString "/claim/cut.py") 321), (Value.int 34 0), (Value.int 1 0), (Value.int 0 0), (Value.int 0 0), (Value.int 3 0), (Value.ref 113), (Value.bool Bool.true), (Value.int 181 0), (Value.ref 114), Value.none, (Value.ref 115), (Value.ref 116), (Value.ref 117), (Value.int 324 0), (Value.int 34 0), (Value.str (Str.ofString "/claim/cut.py") 325)]) #[])) ::
  (nat_lit 119, (fnS (stAt 10) (Str.ofString "close_all") 3 [] Value.none Value.none Value.none (Value.str (Str.ofString "ledgerspeak.filedeeds") 300) none (Value.ref 118) Value.none 0)) ::
  (nat_lit 232, (Obj.mk (Value.type "code") none (Data.fields #[(Value.str (Str.ofString "__init__") 476), (Value.str (Str.ofString "Item.__init__") 477), (Value.str (Str.ofString "/claim/cut.py") 478), (Value.int 104 0), (Value.int 3 0), (Value.int 0 0), (Value.int 0 0), (Value.int 3 0), (Value.ref 227), (Value.bool Bool.true), (Value.int 181 0), (Value.ref 228), Value.none, (Value.ref 229), (Value.ref 230), (Value.ref 231), (Value.int 482 0), (Value.int 104 0), (Value.str (Str.ofString "/claim/cut.py") 483)]) #[])) ::
  (nat_lit 233, (fnS (mAt 32 0) (Str.ofString "Item.__init__") 3 [] Value.none Value.none Value.none (Value.str (Str.ofString "ledgerspeak.items") 458) none (Value.ref 232) Value.none 0)) ::
  (nat_lit 260, (Obj.mk (Value.type "tuple") none (Data.seq #[(Value.str (Str.ofString "base") 515), (Value.str (Str.ofString "conditions") 516), (Value.str (Str.ofString "is_blank_zero") 517), (Value.str (Str.ofString "is_justified") 518), (Value.str (Str.ofString "is_separate") 519), (Value.str (Str.ofString "kids") 520), (Value.str (Str.ofString "level") 521), (Value.str (Str.ofString "name") 522), (Value.str (Str.ofString "occurs") 523), (Value.str (Str.ofString "offset") 524), (Value.str (Str.ofString "parent") 525), (Value.str (Str.ofString "picture_text") 526), (Value.str (Str.ofString "redefines") 527), (Value.str (Str.ofString "renames") 528), (Value.str (Str.ofString "shape") 529), (Value.str (Str.ofString "sign") 530), (Value.str (Str.ofString "size") 531), (Value.str (Str.ofString "usage") 532), (Value.str (Str.ofString "value") 533)] 0) #[])) ::
  (nat_lit 261, (Obj.mk (Value.type "dict") none (Data.dict #[(DictEntry.mk (PyData.keyHash P (Str.ofString "__module__")) (Value.str (Str.ofString "__module__") 471) (Value.str (Str.ofString "ledgerspeak.items") 458)), (DictEntry.mk (PyData.keyHash P (Str.ofString "__firstlineno__")) (Value.str (Str.ofString "__firstlineno__") 475) (Value.int 102 474)), (DictEntry.mk (PyData.keyHash P (Str.ofString "__init__")) (Value.str (Str.ofString "__init__") 484) (Value.ref 233)), (DictEntry.mk (PyData.keyHash P (Str.ofString "add")) (Value.str (Str.ofString "add") 492) (Value.ref 240)), (DictEntry.mk (PyData.keyHash P (Str.ofString "count")) (Value.str (Str.ofString "count") 499) (Value.ref 247)), (DictEntry.mk (PyData.keyHash P (Str.ofString "clauses")) (Value.str (Str.ofString "clauses") 508) (Value.ref 254)), (DictEntry.mk (PyData.keyHash P (Str.ofString "told")) (Value.str (Str.ofString "told") 514) (Value.ref 259)), (DictEntry.mk (PyData.keyHash P (Str.ofString "__static_attributes__")) (Value.str (Str.ofString "__static_attributes__") 534) (Value.ref 260)), (DictEntry.mk (PyData.keyHash P (Str.ofString "__dict__")) (Value.str (Str.ofString "__dict__") 536) (Value.ref 263)), (DictEntry.mk (PyData.keyHash P (Str.ofString "__weakref__")) (Value.str (Str.ofString "__weakref__") 538) (Value.ref 264)), (DictEntry.mk (PyData.keyHash P (Str.ofString "__doc__")) (Value.str (Str.ofString "__doc__") 539) Value.none)] 4) #[])) ::
  (nat_lit 262, (Obj.mk (Value.type "type") none (Data.cls (ClassData.mk (Str.ofString "Item") [(Value.type "object")] [(Value.ref 262), (Value.type "object")] 261 (Str.ofString "Item") Bool.true [] [] Bool.false none Bool.false)) #[none, none, (some (Value.str (Str.ofString "Item") 464)), (some (Value.str (Str.ofString "Item") 472)), (some (Value.builtin "object.__new__")), (some (Value.bool Bool.true))])) ::
  (nat_lit 263, (Obj.mk (Value.type "getset_descriptor") none (Data.fields #[(Value.str (Str.ofString "__dict__") 535), (Value.ref 262), (Value.builtin "function.__dict__"), (Value.builtin "function.__dict__#set")]) #[])) ::
  (nat_lit 264, (Obj.mk (Value.type "getset_descriptor") none (Data.fields #[(Value.str (Str.ofString "__weakref__") 537), (Value.ref 262), (Value.builtin "ExceptionGroup.__weakref__"), Value.none]) #[])) ::
  (nat_lit 279, (Obj.mk (Value.type "code") none (Data.fields #[(Value.str (Str.ofString "__init__") 554), (Value.str (Str.ofString "Data.__init__") 555), (Value.str (Str.ofString "/claim/cut.py") 556), (Value.int 141 0), (Value.int 1 0), (Value.int 0 0), (Value.int 0 0), (Value.int 3 0), (Value.ref 274), (Value.bool Bool.true), (Value.int 181 0), (Value.ref 275), Value.none, (Value.ref 276), (Value.ref 277), (Value.ref 278), (Value.int 558 0), (Value.int 141 0), (Value.str (Str.ofString "/claim/cut.py") 559)]) #[])) ::
  (nat_lit 280, (fnS (mAt 33 0) (Str.ofString "Data.__init__") 3 [] Value.none Value.none Value.none (Value.str (Str.ofString "ledgerspeak.items") 458) none (Value.ref 279) Value.none 0)) ::
  (nat_lit 286, (Obj.mk (Value.type "tuple") none (Data.seq #[(Value.str (Str.ofString "files") 567), (Value.str (Str.ofString "indexes") 568), (Value.str (Str.ofString "linkage") 569), (Value.str (Str.ofString "size") 570), (Value.str (Str.ofString "sorts") 571), (Value.str (Str.ofString "working") 572)] 0) #[])) ::
  (nat_lit 287, (Obj.mk (Value.type "dict") none (Data.dict #[(DictEntry.mk (PyData.keyHash P (Str.ofString "__module__")) (Value.str (Str.ofString "__module__") 549) (Value.str (Str.ofString "ledgerspeak.items") 458)), (DictEntry.mk (PyData.keyHash P (Str.ofString "__firstlineno__")) (Value.str (Str.ofString "__firstlineno__") 553) (Value.int 139 552)), (DictEntry.mk (PyData.keyHash P (Str.ofString "__init__")) (Value.str (Str.ofString "__init__") 560) (Value.ref 280)), (DictEntry.mk (PyData.keyHash P (Str.ofString "told")) (Value.str (Str.ofString "told") 566) (Value.ref 285)), (DictEntry.mk (PyData.keyHash P (Str.ofString "__static_attributes__")) (Value.str (Str.ofString "__static_attributes__") 573) (Value.ref 286)), (DictEntry.mk (PyData.keyHash P (Str.ofString "__dict__")) (Value.str (Str.ofString "__dict__") 575) (Value.ref 289)), (DictEntry.mk (PyData.keyHash P (Str.ofString "__weakref__")) (Value.str (Str.ofString "__weakref__") 577) (Value.ref 290)), (DictEntry.mk (PyData.keyHash P (Str.ofString "__doc__")) (Value.str (Str.ofString "__doc__") 578) Value.none)] 4) #[])) ::
  (nat_lit 288, (Obj.mk (Value.type "type") none (Data.cls (ClassData.mk (Str.ofString "Data") [(Value.type "object")] [(Value.ref 288), (Value.type "object")] 287 (Str.ofString "Data") Bool.true [] [] Bool.false none Bool.false)) #[none, none, (some (Value.str (Str.ofString "Data") 542)), (some (Value.str (Str.ofString "Data") 550)), (some (Value.builtin "object.__new__")), (some (Value.bool Bool.true))])) ::
  (nat_lit 289, (Obj.mk (Value.type "getset_descriptor") none (Data.fields #[(Value.str (Str.ofString "__dict__") 574), (Value.ref 288), (Value.builtin "function.__dict__"), (Value.builtin "function.__dict__#set")]) #[])) ::
  (nat_lit 290, (Obj.mk (Value.type "getset_descriptor") none (Data.fields #[(Value.str (Str.ofString "__weakref__") 576), (Value.ref 288), (Value.builtin "ExceptionGroup.__weakref__"), Value.none]) #[])) ::
  (nat_lit 298, (Obj.mk (Value.type "code") none (Data.fields #[(Value.str (Str.ofString "records") 581), (Value.str (Str.ofString "records") 582), (Value.str (Str.ofString "/claim/cut.py") 583), (Value.int 152 0), (Value.int 1 0), (Value.int 0 0), (Value.int 0 0), (Value.int 3 0), (Value.ref 293), (Value.bool Bool.true), (Value.int 181 0), (Value.ref 294), Value.none, (Value.ref 295), (Value.ref 296), (Value.ref 297), (Value.int 587 0), (Value.int 152 0), (Value.str (Str.ofString "/claim/cut.py") 588)]) #[])) ::
  (nat_lit 299, (fnS (stAt 34) (Str.ofString "records") 3 [] Value.none Value.none Value.none (Value.str (Str.ofString "ledgerspeak.items") 458) none (Value.ref 298) Value.none 0)) ::
  (nat_lit 305, (Obj.mk (Value.type "code") none (Data.fields #[(Value.str (Str.ofString "items_under") 590), (Value.str (Str.ofString "items_under") 591), (Value.str (Str.ofString "/claim/cut.py") 592), (Value.int 157 0), (Value.int 1 0), (Value.int 0 0), (Value.int 0 0), (Value.int 3 0), (Value.ref 300), (Value.bool Bool.true), (Value.int 181 0), (Value.ref 301), Value.none, (Value.ref 302), (Value.ref 303), (Value.ref 304), (Value.int 597 0), (Value.int 157 0), (Value.str (Str.ofString "/claim/cut.py") 598)]) #[])) ::
  (nat_lit 306, (fnS (stAt 35) (Str.ofString "items_under") 3 [] Value.none Value.none Value.none (Value.str (Str.ofString "ledgerspeak.items") 458) none (Value.ref 305) Value.none 0)) ::
  (nat_lit 312, (Obj.mk (Value.type "code") none (Data.fields #[(Value.str (Str.ofString "all_items") 600), (Value.str (Str.ofString "all_items") 601), (Value.str (Str.ofString "/claim/cut.py") 602), (Value.int 165 0), (Value.int 1 0), (Value.int 0 0), (Value.int 0 0), (Value.int 3 0), (Value.ref 307), (Value.bool Bool.true), (Value.int 181 0), (Value.ref 308), Value.none, (Value.ref 309), (Value.ref 310), (Value.ref 311), (Value.int 606 0), (Value.int 165 0), (Value.str (Str.ofString "/claim/cut.py") 607)]) #[])) ::
  (nat_lit 313, (fnS (stAt 36) (Str.ofString "all_items") 3 [] Value.none Value.none Value.none (Value.str (Str.ofString "ledgerspeak.items") 458) none (Value.ref 312) Value.none 0)) ::
  (nat_lit 319, (Obj.mk (Value.type "code") none (Data.fields #[(Value.str (Str.ofString "items_around") 609), (Value.str (Str.ofString "items_around") 610), (Value.str (Str.ofString "/claim/cut.py") 611), (Value.int 170 0), (Value.int 1 0), (Value.int 0 0), (Value.int 0 0), (Value.int 3 0), (Value.ref 314), (Value.bool Bool.true), (Value.int 181 0), (Value.ref 315), Value.none, (Value.ref 316), (Value.ref 317), (Value.ref 318), (Value.int 615 0), (Value.int 170 0), (Value.str (Str.ofString "/claim/cut.py") 616)]) #[])) ::
  (nat_lit 320, (fnS (stAt 37) (Str.ofString "items_around") 3 [] Value.none Value.none Value.none (Value.str (Str.ofString "ledgerspeak.items") 458) none (Value.ref 319) Value.none 0)) ::
  (nat_lit 326, (Obj.mk (Value.type "code") none (Data.fields #[(Value.str (Str.ofString "root_of") 618), (Value.str (Str.ofString "root_of") 619), (Value.str (Str.ofString "/claim/cut.py") 620), (Value.int 177 0), (Value.int 1 0), (Value.int 0 0), (Value.int 0 0), (Value.int 3 0), (Value.ref 321), (Value.bool Bool.true), (Value.int 181 0), (Value.ref 322), Value.none, (Value.ref 323), (Value.ref 324), (Value.ref 325), (Value.int 623 0), (Value.int 177 0), (Value.str (Str.ofString "/claim/cut.py") 624)]) #[])) ::
  (nat_lit 327, (fnS (stAt 38) (Str.ofString "root_of") 3 [] Value.none Value.none Value.none (Value.str (Str.ofString "ledgerspeak.items") 458) none (Value.ref 326) Value.none 0)) ::
  (nat_lit 331, (Obj.mk (Value.type "code") none (Data.fields #[(Value.str (Str.ofString "names_around") 626), (Value.str (Str.ofString "names_around") 627), (Value.str (Str.ofString "/claim/cut.py") 628), (Value.int 180 0), (Value.int 1 0), (Value.int 0 0), (Value.int 0 0), (Value.int 3 0), (Value.ref 328), (Value.bool Bool.true), (Value.int 181 0), (Value.ref 329), Value.none, Value.none, Value.none, (Value.ref 330), (Value.int 629 0), (Value.int 180 0), (Value.str (Str.ofString "/claim/cut.py") 630)]) #[])) ::
  (nat_lit 332, (fnS (stAt 39) (Str.ofString "names_around") 3 [] Value.none Value.none Value.none (Value.str (Str.ofString "ledgerspeak.items") 458) none (Value.ref 331) Value.none 0)) ::
  (nat_lit 336, (Obj.mk (Value.type "code") none (Data.fields #[(Value.str (Str.ofString "tables_around") 632), (Value.str (Str.ofString "tables_around") 633), (Value.str (Str.ofString "/claim/cut.py") 634), (Value.int 182 0), (Value.int 1 0), (Value.int 0 0), (Value.int 0 0), (Value.int 3 0), (Value.ref 333), (Value.bool Bool.true), (Value.int 181 0), (Value.ref 334), Value.none, Value.none, Value.none, (Value.ref 335), (Value.int 635 0), (Value.int 182 0), (Value.str (Str.ofString "/claim/cut.py") 636)]) #[])) ::
  (nat_lit 337, (fnS (stAt 40) (Str.ofString "tables_around") 3 [] Value.none Value.none Value.none (Value.str (Str.ofString "ledgerspeak.items") 458) none (Value.ref 336) Value.none 0)) ::
  (nat_lit 476, (Obj.mk (Value.type "tuple") none (Data.seq #[Value.none, (Value.str (Str.ofString "display") 846), (Value.str (Str.ofString "trailing") 847), (Value.bool Bool.false), (Value.bool Bool.false), (Value.bool Bool.false)] 0) #[])) ::
  (nat_lit 482, (Obj.mk (Value.type "code") none (Data.fields #[(Value.str (Str.ofString "__init__") 848), (Value.str (Str.ofString "Shape.__init__") 849), (Value.str (Str.ofString "/claim/cut.py") 850), (Value.int 310 0), (Value.int 9 0), (Value.int 0 0), (Value.int 0 0), (Value.int 3 0), (Value.ref 477), (Value.bool Bool.true), (Value.int 181 0), (Value.ref 478), Value.none, (Value.ref 479), (Value.ref 480), (Value.ref 481), (Value.int 860 0), (Value.int 310 0), (Value.str (Str.ofString "/claim/cut.py") 861)]) #[])) ::
  (nat_lit 483, (fnS (mAt 62 0) (Str.ofString "Shape.__init__") 3 [] (Value.ref 476) Value.none Value.none (Value.str (Str.ofString "ledgerspeak.shapes") 832) none (Value.ref 482) Value.none 0)) ::
  (nat_lit 498, (Obj.mk (Value.type "tuple") none (Data.seq #[(Value.str (Str.ofString "category") 880), (Value.str (Str.ofString "digits") 881), (Value.str (Str.ofString "is_blank_zero") 882), (Value.str (Str.ofString "is_justified") 883), (Value.str (Str.ofString "is_separate") 884), (Value.str (Str.ofString "is_signed") 885), (Value.str (Str.ofString "picture") 886), (Value.str (Str.ofString "scale") 887), (Value.str (Str.ofString "sign") 888), (Value.str (Str.ofString "size") 889), (Value.str (Str.ofString "usage") 890)] 0) #[])) ::
  (nat_lit 499, (Obj.mk (Value.type "dict") none (Data.dict #[(DictEntry.mk (PyData.keyHash P (Str.ofString "__module__")) (Value.str (Str.ofString "__module__") 841) (Value.str (Str.ofString "ledgerspeak.shapes") 832)), (DictEntry.mk (PyData.keyHash P (Str.ofString "__firstlineno__")) (Value.str (Str.ofString "__firstlineno__") 845) (Value.int 308 844)), (DictEntry.mk (PyData.keyHash P (Str.ofString "__init__")) (Value.str (Str.ofString "__init__") 862) (Value.ref 483)), (DictEntry.mk (PyData.keyHash P (Str.ofString "told")) (Value.str (Str.ofString "told") 872) (Value.ref 490)), (DictEntry.mk (PyData.keyHash P (Str.ofString "sign_place")) (Value.str (Str.ofString "sign_place") 879) (Value.ref 497)), (DictEntry.mk (PyData.keyHash P (Str.ofString "__static_attributes__")) (Value.str (Str.ofString "__static_attributes__") 891) (Value.ref 498)), (DictEntry.mk (PyData.keyHash P (Str.ofString "__dict__")) (Value.str (Str.ofString "__dict__") 893) (Value.ref 501)), (DictEntry.mk (PyData.keyHash P (Str.ofString "__weakref__")) (Value.str (Str.ofString "__weakref__") 895) (Value.ref 502)), (DictEntry.mk (PyData.keyHash P (Str.ofString "__doc__")) (Value.str (Str.ofString "__doc__") 896) Value.none)] 4) #[])) ::
  (nat_lit 500, (Obj.mk (Value.type "type") none (Data.cls (ClassData.mk (Str.ofString "Shape") [(Value.type "object")] [(Value.ref 500), (Value.type "object")] 499 (Str.ofString "Shape") Bool.true [] [] Bool.false none Bool.false)) #[none, none, (some (Value.str (Str.ofString "Shape") 834)), (some (Value.str (Str.ofString "Shape") 842)), (some (Value.builtin "object.__new__")), (some (Value.bool Bool.true))])) ::
  (nat_lit 501, (Obj.mk (Value.type "getset_descriptor") none (Data.fields #[(Value.str (Str.ofString "__dict__") 892), (Value.ref 500), (Value.builtin "function.__dict__"), (Value.builtin "function.__dict__#set")]) #[])) ::
  (nat_lit 502, (Obj.mk (Value.type "getset_descriptor") none (Data.fields #[(Value.str (Str.ofString "__weakref__") 894), (Value.ref 500), (Value.builtin "ExceptionGroup.__weakref__"), Value.none]) #[])) ::
  (nat_lit 510, (Obj.mk (Value.type "code") none (Data.fields #[(Value.str (Str.ofString "is_numeric") 899), (Value.str (Str.ofString "is_numeric") 900), (Value.str (Str.ofString "/claim/cut.py") 901), (Value.int 337 0), (Value.int 1 0), (Value.int 0 0), (Value.int 0 0), (Value.int 3 0), (Value.ref 505), (Value.bool Bool.true), (Value.int 181 0), (Value.ref 506), Value.none, (Value.ref 507), (Value.ref 508), (Value.ref 509), (Value.int 903 0), (Value.int 337 0), (Value.str (Str.ofString "/claim/cut.py") 904)]) #[])) ::
  (nat_lit 511, (fnS (stAt 63) (Str.ofString "is_numeric") 3 [] Value.none Value.none Value.none (Value.str (Str.ofString "ledgerspeak.shapes") 832) none (Value.ref 510) Value.none 0)) ::
  (nat_lit 538, (Obj.mk (Value.type "code") none (Data.fields #[(Value.str (Str.ofString "text_shape") 927), (Value.str (Str.ofString "text_shape") 928), (Value.str (Str.ofString "/claim/cut.py") 929), (Value.int 345 0), (Value.int 1 0), (Value.int 0 0), (Value.int 0 0), (Value.int 3 0), (Value.ref 533), (Value.bool Bool.true), (Value.int 181 0), (Value.ref 534), Value.none, (Value.ref 535), (Value.ref 536), (Value.ref 537), (Value.int 931 0), (Value.int 345 0), (Value.str (Str.ofString "/claim/cut.py") 932)]) #[])) ::
  (nat_lit 539, (fnS (stAt 67) (Str.ofString "text_shape") 3 [] Value.none Value.none Value.none (Value.str (Str.ofString "ledgerspeak.shapes") 832) none (Value.ref 538) Value.none 0)) ::
  (nat_lit 654, (Obj.mk (Value.type "tuple") none (Data.seq #[(Value.bool Bool.false)] 0) #[])) ::
  (nat_lit 660, (Obj.mk (Value.type "code") none (Data.fields #[(Value.str (Str.ofString "aligned") 1115), (Value.str (Str.ofString "aligned") 1116), (Value.str (Str.ofString "/claim/cut.py") 1117), (Value.int 467 0), (Value.int 3 0), (Value.int 0 0), (Value.int 0 0), (Value.int 3 0), (Value.ref 655), (Value.bool Bool.true), (Value.int 181 0), (Value.ref 656), Value.none, (Value.ref 657), (Value.ref 658), (Value.ref 659), (Value.int 1121 0), (Value.int 467 0), (Value.str (Str.ofString "/claim/cut.py") 1122)]) #[])) ::
  (nat_lit 661, (fnS (stAt 98) (Str.ofString "aligned") 3 [] (Value.ref 654) Value.none Value.none (Value.str (Str.ofString "ledgerspeak.moving") 1106) none (Value.ref 660) Value.none 0)) ::
  (nat_lit 716, (Obj.mk (Value.type "code") none (Data.fields #[(Value.str (Str.ofString "valued") 1184), (Value.str (Str.ofString "valued") 1185), (Value.str (Str.ofString "/claim/cut.py") 1186), (Value.int 506 0), (Value.int 1 0), (Value.int 0 0), (Value.int 0 0), (Value.int 3 0), (Value.ref 711), (Value.bool Bool.true), (Value.int 181 0), (Value.ref 712), Value.none, (Value.ref 713), (Value.ref 714), (Value.ref 715), (Value.int 1190 0), (Value.int 506 0), (Value.str (Str.ofString "/claim/cut.py") 1191)]) #[])) ::
  (nat_lit 717, (fnS (stAt 107) (Str.ofString "valued") 3 [] Value.none Value.none Value.none (Value.str (Str.ofString "ledgerspeak.layout") 1174) none (Value.ref 716) Value.none 0)) ::
  (nat_lit 728, (Obj.mk (Value.type "code") none (Data.fields #[(Value.str (Str.ofString "first_octets") 1200), (Value.str (Str.ofString "first_octets") 1201), (Value.str (Str.ofString "/claim/cut.py") 1202), (Value.int 524 0), (Value.int 1 0), (Value.int 0 0), (Value.int 0 0), (Value.int 3 0), (Value.ref 725), (Value.bool Bool.true), (Value.int 181 0), (Value.ref 726), Value.none, Value.none, Value.none, (Value.ref 727), (Value.int 1203 0), (Value.int 524 0), (Value.str (Str.ofString "/claim/cut.py") 1204)]) #[])) ::
  (nat_lit 729, (fnS (stAt 109) (Str.ofString "first_octets") 3 [] Value.none Value.none Value.none (Value.str (Str.ofString "ledgerspeak.layout") 1174) none (Value.ref 728) Value.none 0)) ::
  (nat_lit 735, (Obj.mk (Value.type "code") none (Data.fields #[(Value.str (Str.ofString "initial_memory") 1206), (Value.str (Str.ofString "initial_memory") 1207), (Value.str (Str.ofString "/claim/cut.py") 1208), (Value.int 531 0), (Value.int 1 0), (Value.int 0 0), (Value.int 0 0), (Value.int 3 0), (Value.ref 730), (Value.bool Bool.true), (Value.int 181 0), (Value.ref 731), Value.none, (Value.ref 732), (Value.ref 733), (Value.ref 734), (Value.int 1213 0), (Value.int 531 0), (Value.str (Str.ofString "/claim/cut.py") 1214)]) #[])) ::
  (nat_lit 736, (fnS (stAt 110) (Str.ofString "initial_memory") 3 [] Value.none Value.none Value.none (Value.str (Str.ofString "ledgerspeak.layout") 1174) none (Value.ref 735) Value.none 0)) ::
  (nat_lit 762, (Obj.mk (Value.type "code") none (Data.fields #[(Value.str (Str.ofString "file_of") 1258), (Value.str (Str.ofString "file_of") 1259), (Value.str (Str.ofString "/claim/cut.py") 1260), (Value.int 576 0), (Value.int 2 0), (Value.int 0 0), (Value.int 0 0), (Value.int 3 0), (Value.ref 759), (Value.bool Bool.true), (Value.int 181 0), (Value.ref 760), Value.none, Value.none, Value.none, (Value.ref 761), (Value.int 1261 0), (Value.int 576 0), (Value.str (Str.ofString "/claim/cut.py") 1262)]) #[])) ::
  (nat_lit 763, (fnS (stAt 117) (Str.ofString "file_of") 3 [] Value.none Value.none Value.none (Value.str (Str.ofString "ledgerspeak.references") 1256) none (Value.ref 762) Value.none 0)) ::
  (nat_lit 769, (Obj.mk (Value.type "code") none (Data.fields #[(Value.str (Str.ofString "leads_through") 1264), (Value.str (Str.ofString "leads_through") 1265), (Value.str (Str.ofString "/claim/cut.py") 1266), (Value.int 582 0), (Value.int 2 0), (Value.int 0 0), (Value.int 0 0), (Value.int 3 0), (Value.ref 764), (Value.bool Bool.true), (Value.int 181 0), (Value.ref 765), Value.none, (Value.ref 766), (Value.ref 767), (Value.ref 768), (Value.int 1271 0), (Value.int 582 0), (Value.str (Str.ofString "/claim/cut.py") 1272)]) #[])) ::
  (nat_lit 770, (fnS (stAt 118) (Str.ofString "leads_through") 3 [] Value.none Value.none Value.none (Value.str (Str.ofString "ledgerspeak.references") 1256) none (Value.ref 769) Value.none 0)) ::
  (nat_lit 776, (Obj.mk (Value.type "code") none (Data.fields #[(Value.str (Str.ofString "only_one") 1274), (Value.str (Str.ofString "only_one") 1275), (Value.str (Str.ofString "/claim/cut.py") 1276), (Value.int 588 0), (Value.int 2 0), (Value.int 0 0), (Value.int 0 0), (Value.int 3 0), (Value.ref 771), (Value.bool Bool.true), (Value.int 181 0), (Value.ref 772), Value.none, (Value.ref 773), (Value.ref 774), (Value.ref 775), (Value.int 1279 0), (Value.int 588 0), (Value.str (Str.ofString "/claim/cut.py") 1280)]) #[])) ::
  (nat_lit 777, (fnS (stAt 119) (Str.ofString "only_one") 3 [] Value.none Value.none Value.none (Value.str (Str.ofString "ledgerspeak.references") 1256) none (Value.ref 776) Value.none 0)) ::
  (nat_lit 781, (Obj.mk (Value.type "code") none (Data.fields #[(Value.str (Str.ofString "find_item") 1282), (Value.str (Str.ofString "find_item") 1283), (Value.str (Str.ofString "/claim/cut.py") 1284), (Value.int 594 0), (Value.int 3 0), (Value.int 0 0), (Value.int 0 0), (Value.int 3 0), (Value.ref 778), (Value.bool Bool.true), (Value.int 181 0), (Value.ref 779), Value.none, Value.none, Value.none, (Value.ref 780), (Value.int 1285 0), (Value.int 594 0), (Value.str (Str.ofString "/claim/cut.py") 1286)]) #[])) ::
  (nat_lit 782, (fnS (stAt 120) (Str.ofString "find_item") 3 [] Value.none Value.none Value.none (Value.str (Str.ofString "ledgerspeak.references") 1256) none (Value.ref 781) Value.none 0)) ::
  (nat_lit 788, (Obj.mk (Value.type "code") none (Data.fields #[(Value.str (Str.ofString "stretch") 1288), (Value.str (Str.ofString "stretch") 1289), (Value.str (Str.ofString "/claim/cut.py") 1290), (Value.int 597 0), (Value.int 3 0), (Value.int 0 0), (Value.int 0 0), (Value.int 3 0), (Value.ref 783), (Value.bool Bool.true), (Value.int 181 0), (Value.ref 784), Value.none, (Value.ref 785), (Value.ref 786), (Value.ref 787), (Value.int 1300 0), (Value.int 597 0), (Value.str (Str.ofString "/claim/cut.py") 1301)]) #[])) ::
  (nat_lit 789, (fnS (stAt 121) (Str.ofString "stretch") 3 [] Value.none Value.none Value.none (Value.str (Str.ofString "ledgerspeak.references") 1256) none (Value.ref 788) Value.none 0)) ::
  (nat_lit 802, (Obj.mk (Value.type "code") none (Data.fields #[(Value.str (Str.ofString "__init__") 1317), (Value.str (Str.ofString "World.__init__") 1318), (Value.str (Str.ofString "/claim/cut.py") 1319), (Value.int 617 0), (Value.int 4 0), (Value.int 0 0), (Value.int 0 0), (Value.int 3 0), (Value.ref 797), (Value.bool Bool.true), (Value.int 181 0), (Value.ref 798), Value.none, (Value.ref 799), (Value.ref 800), (Value.ref 801), (Value.int 1325 0), (Value.int 617 0), (Value.str (Str.ofString "/claim/cut.py") 1326)]) #[])) ::
  (nat_lit 803, (fnS (mAt 123 0) (Str.ofString "World.__init__") 3 [] Value.none Value.none Value.none (Value.str (Str.ofString "ledgerspeak.world") 1303) none (Value.ref 802) Value.none 0)) ::
  (nat_lit 804, (Obj.mk (Value.type "tuple") none (Data.seq #[(Value.str (Str.ofString "handles") 1328), (Value.str (Str.ofString "indexes") 1329), (Value.str (Str.ofString "links") 1330), (Value.str (Str.ofString "memory") 1331), (Value.str (Str.ofString "open_paths") 1332), (Value.str (Str.ofString "open_row") 1333), (Value.str (Str.ofString "program") 1334), (Value.str (Str.ofString "rows") 1335), (Value.str (Str.ofString "shelf") 1336), (Value.str (Str.ofString "sorts") 1337), (Value.str (Str.ofString "told_rows") 1338)] 0) #[])) ::
  (nat_lit 805, (Obj.mk (Value.type "dict") none (Data.dict #[(DictEntry.mk (PyData.keyHash P (Str.ofString "__module__")) (Value.str (Str.ofString "__module__") 1312) (Value.str (Str.ofString "ledgerspeak.world") 1303)), (DictEntry.mk (PyData.keyHash P (Str.ofString "__firstlineno__")) (Value.str (Str.ofString "__firstlineno__") 1316) (Value.int 615 1315)), (DictEntry.mk (PyData.keyHash P (Str.ofString "__init__")) (Value.str (Str.ofString "__init__") 1327) (Value.ref 803)), (DictEntry.mk (PyData.keyHash P (Str.ofString "__static_attributes__")) (Value.str (Str.ofString "__static_attributes__") 1339) (Value.ref 804)), (DictEntry.mk (PyData.keyHash P (Str.ofString "__dict__")) (Value.str (Str.ofString "__dict__") 1341) (Value.ref 807)), (DictEntry.mk (PyData.keyHash P (Str.ofString "__weakref__")) (Value.str (Str.ofString "__weakref__") 1343) (Value.ref 808)), (DictEntry.mk (PyData.keyHash P (Str.ofString "__doc__")) (Value.str (Str.ofString "__doc__") 1344) Value.none)] 4) #[])) ::
  (nat_lit 806, (Obj.mk (Value.type "type") none (Data.cls (ClassData.mk (Str.ofString "World") [(Value.type "object")] [(Value.ref 806), (Value.type "object")] 805 (Str.ofString "World") Bool.true [] [] Bool.false none Bool.false)) #[none, none, (some (Value.str (Str.ofString "World") 1305)), (some (Value.str (Str.ofString "World") 1313)), (some (Value.builtin "object.__new__")), (some (Value.bool Bool.true))])) ::
  (nat_lit 807, (Obj.mk (Value.type "getset_descriptor") none (Data.fields #[(Value.str (Str.ofString "__dict__") 1340), (Value.ref 806), (Value.builtin "function.__dict__"), (Value.builtin "function.__dict__#set")]) #[])) ::
  (nat_lit 808, (Obj.mk (Value.type "getset_descriptor") none (Data.fields #[(Value.str (Str.ofString "__weakref__") 1342), (Value.ref 806), (Value.builtin "ExceptionGroup.__weakref__"), Value.none]) #[])) ::
  (nat_lit 823, (Obj.mk (Value.type "code") none (Data.fields #[(Value.str (Str.ofString "memory_of") 1355), (Value.str (Str.ofString "memory_of") 1356), (Value.str (Str.ofString "/claim/cut.py") 1357), (Value.int 633 0), (Value.int 2 0), (Value.int 0 0), (Value.int 0 0), (Value.int 3 0), (Value.ref 818), (Value.bool Bool.true), (Value.int 181 0), (Value.ref 819), Value.none, (Value.ref 820), (Value.ref 821), (Value.ref 822), (Value.int 1360 0), (Value.int 633 0), (Value.str (Str.ofString "/claim/cut.py") 1361)]) #[])) ::
  (nat_lit 824, (fnS (stAt 125) (Str.ofString "memory_of") 3 [] Value.none Value.none Value.none (Value.str (Str.ofString "ledgerspeak.world") 1303) none (Value.ref 823) Value.none 0)) ::
  (nat_lit 830, (Obj.mk (Value.type "code") none (Data.fields #[(Value.str (Str.ofString "place_of_octets") 1363), (Value.str (Str.ofString "place_of_octets") 1364), (Value.str (Str.ofString "/claim/cut.py") 1365), (Value.int 639 0), (Value.int 4 0), (Value.int 0 0), (Value.int 0 0), (Value.int 3 0), (Value.ref 825), (Value.bool Bool.true), (Value.int 181 0), (Value.ref 826), Value.none, (Value.ref 827), (Value.ref 828), (Value.ref 829), (Value.int 1373 0), (Value.int 639 0), (Value.str (Str.ofString "/claim/cut.py") 1374)]) #[])) ::
  (nat_lit 831, (fnS (stAt 126) (Str.ofString "place_of_octets") 3 [] Value.none Value.none Value.none (Value.str (Str.ofString "ledgerspeak.world") 1303) none (Value.ref 830) Value.none 0)) ::
  (nat_lit 837, (Obj.mk (Value.type "code") none (Data.fields #[(Value.str (Str.ofString "part_of") 1376), (Value.str (Str.ofString "part_of") 1377), (Value.str (Str.ofString "/claim/cut.py") 1378), (Value.int 644 0), (Value.int 2 0), (Value.int 0 0), (Value.int 0 0), (Value.int 3 0), (Value.ref 832), (Value.bool Bool.true), (Value.int 181 0), (Value.ref 833), Value.none, (Value.ref 834), (Value.ref 835), (Value.ref 836), (Value.int 1382 0), (Value.int 644 0), (Value.str (Str.ofString "/claim/cut.py") 1383)]) #[])) ::
  (nat_lit 838, (fnS (stAt 127) (Str.ofString "part_of") 3 [] Value.none Value.none Value.none (Value.str (Str.ofString "ledgerspeak.world") 1303) none (Value.ref 837) Value.none 0)) ::
  (nat_lit 842, (Obj.mk (Value.type "code") none (Data.fields #[(Value.str (Str.ofString "spot_in") 1385), (Value.str (Str.ofString "spot_in") 1386), (Value.str (Str.ofString "/claim/cut.py") 1387), (Value.int 649 0), (Value.int 2 0), (Value.int 0 0), (Value.int 0 0), (Value.int 3 0), (Value.ref 839), (Value.bool Bool.true), (Value.int 181 0), (Value.ref 840), Value.none, Value.none, Value.none, (Value.ref 841), (Value.int 1388 0), (Value.int 649 0), (Value.str (Str.ofString "/claim/cut.py") 1389)]) #[])) ::
  (nat_lit 843, (fnS (stAt 128) (Str.ofString "spot_in") 3 [] Value.none Value.none Value.none (Value.str (Str.ofString "ledgerspeak.world") 1303) none (Value.ref 842) Value.none 0)) ::
  (nat_lit 849, (Obj.mk (Value.type "code") none (Data.fields #[(Value.str (Str.ofString "octets_at") 1391), (Value.str (Str.ofString "octets_at") 1392), (Value.str (Str.ofString "/claim/cut.py") 1393), (Value.int 655 0), (Value.int 2 0), (Value.int 0 0), (Value.int 0 0), (Value.int 3 0), (Value.ref 844), (Value.bool Bool.true), (Value.int 181 0), (Value.ref 845), Value.none, (Value.ref 846), (Value.ref 847), (Value.ref 848), (Value.int 1399 0), (Value.int 655 0), (Value.str (Str.ofString "/claim/cut.py") 1400)]) #[])) ::
  (nat_lit 850, (fnS (stAt 129) (Str.ofString "octets_at") 3 [] Value.none Value.none Value.none (Value.str (Str.ofString "ledgerspeak.world") 1303) none (Value.ref 849) Value.none 0)) ::
  (nat_lit 856, (Obj.mk (Value.type "code") none (Data.fields #[(Value.str (Str.ofString "put_octets") 1402), (Value.str (Str.ofString "put_octets") 1403), (Value.str (Str.ofString "/claim/cut.py") 1404), (Value.int 658 0), (Value.int 3 0), (Value.int 0 0), (Value.int 0 0), (Value.int 3 0), (Value.ref 851), (Value.bool Bool.true), (Value.int 181 0), (Value.ref 852), Value.none, (Value.ref 853), (Value.ref 854), (Value.ref 855), (Value.int 1411 0), (Value.int 658 0), (Value.str (Str.ofString "/claim/cut.py") 1412)]) #[])) ::
  (nat_lit 857, (fnS (stAt 130) (Str.ofString "put_octets") 3 [] Value.none Value.none Value.none (Value.str (Str.ofString "ledgerspeak.world") 1303) none (Value.ref 856) Value.none 0)) ::
  (nat_lit 893, (Obj.mk (Value.type "tuple") none (Data.seq #[(Value.bool Bool.false), (Value.int 100000 1455)] 0) #[])) ::
  (nat_lit 899, (Obj.mk (Value.type "code") none (Data.fields #[(Value.str (Str.ofString "__init__") 1469), (Value.str (Str.ofString "Library.__init__") 1470), (Value.str (Str.ofString "/claim/cut.py") 1471), (Value.int 695 0), (Value.int 4 0), (Value.int 0 0), (Value.int 0 0), (Value.int 3 0), (Value.ref 894), (Value.bool Bool.true), (Value.int 181 0), (Value.ref 895), Value.none, (Value.ref 896), (Value.ref 897), (Value.ref 898), (Value.int 1476 0), (Value.int 695 0), (Value.str (Str.ofString "/claim/cut.py") 1477)]) #[])) ::
  (nat_lit 900, (fnS (mAt 137 0) (Str.ofString "Library.__init__") 3 [] (Value.ref 893) Value.none Value.none (Value.str (Str.ofString "ledgerspeak.calling") 1453) none (Value.ref 899) Value.none 0)) ::
  (nat_lit 906, (Obj.mk (Value.type "code") none (Data.fields #[(Value.str (Str.ofString "begin") 1479), (Value.str (Str.ofString "Library.begin") 1480), (Value.str (Str.ofString "/claim/cut.py") 1481), (Value.int 704 0), (Value.int 1 0), (Value.int 0 0), (Value.int 0 0), (Value.int 3 0), (Value.ref 901), (Value.bool Bool.true), (Value.int 181 0), (Value.ref 902), Value.none, (Value.ref 903), (Value.ref 904), (Value.ref 905), (Value.int 1483 0), (Value.int 704 0), (Value.str (Str.ofString "/claim/cut.py") 1484)]) #[])) ::
  (nat_lit 907, (fnS (mAt 137 1) (Str.ofString "Library.begin") 3 [] Value.none Value.none Value.none (Value.str (Str.ofString "ledgerspeak.calling") 1453) none (Value.ref 906) Value.none 0)) ::
  (nat_lit 915, (Obj.mk (Value.type "tuple") none (Data.seq #[(Value.str (Str.ofString "active") 1495), (Value.str (Str.ofString "codes") 1496), (Value.str (Str.ofString "is_compiled") 1497), (Value.str (Str.ofString "limit") 1498), (Value.str (Str.ofString "programs") 1499), (Value.str (Str.ofString "runs") 1500), (Value.str (Str.ofString "worlds") 1501)] 0) #[])) ::
  (nat_lit 916, (Obj.mk (Value.type "dict") none (Data.dict #[(DictEntry.mk (PyData.keyHash P (Str.ofString "__module__")) (Value.str (Str.ofString "__module__") 1464) (Value.str (Str.ofString "ledgerspeak.calling") 1453)), (DictEntry.mk (PyData.keyHash P (Str.ofString "__firstlineno__")) (Value.str (Str.ofString "__firstlineno__") 1468) (Value.int 693 1467)), (DictEntry.mk (PyData.keyHash P (Str.ofString "__init__")) (Value.str (Str.ofString "__init__") 1478) (Value.ref 900)), (DictEntry.mk (PyData.keyHash P (Str.ofString "begin")) (Value.str (Str.ofString "begin") 1485) (Value.ref 907)), (DictEntry.mk (PyData.keyHash P (Str.ofString "find")) (Value.str (Str.ofString "find") 1494) (Value.ref 914)), (DictEntry.mk (PyData.keyHash P (Str.ofString "__static_attributes__")) (Value.str (Str.ofString "__static_attributes__") 1502) (Value.ref 915)), (DictEntry.mk (PyData.keyHash P (Str.ofString "__dict__")) (Value.str (Str.ofString "__dict__") 1504) (Value.ref 918)), (DictEntry.mk (PyData.keyHash P (Str.ofString "__weakref__")) (Value.str (Str.ofString "__weakref__") 1506) (Value.ref 919)), (DictEntry.mk (PyData.keyHash P (Str.ofString "__doc__")) (Value.str (Str.ofString "__doc__") 1507) Value.none)] 4) #[])) ::
  (nat_lit 917, (Obj.mk (Value.type "type") none (Data.cls (ClassData.mk (Str.ofString "Library") [(Value.type "object")] [(Value.ref 917), (Value.type "object")] 916 (Str.ofString "Library") Bool.true [] [] Bool.false none Bool.false)) #[none, none, (some (Value.str (Str.ofString "Library") 1457)), (some (Value.str (Str.ofString "Library") 1465)), (some (Value.builtin "object.__new__")), (some (Value.bool Bool.true))])) ::
  (nat_lit 918, (Obj.mk (Value.type "getset_descriptor") none (Data.fields #[(Value.str (Str.ofString "__dict__") 1503), (Value.ref 917), (Value.builtin "function.__dict__"), (Value.builtin "function.__dict__#set")]) #[])) ::
  (nat_lit 919, (Obj.mk (Value.type "getset_descriptor") none (Data.fields #[(Value.str (Str.ofString "__weakref__") 1505), (Value.ref 917), (Value.builtin "ExceptionGroup.__weakref__"), Value.none]) #[])) ::
  (nat_lit 927, (Obj.mk (Value.type "code") none (Data.fields #[(Value.str (Str.ofString "world_for") 1510), (Value.str (Str.ofString "world_for") 1511), (Value.str (Str.ofString "/claim/cut.py") 1512), (Value.int 715 0), (Value.int 3 0), (Value.int 0 0), (Value.int 0 0), (Value.int 3 0), (Value.ref 922), (Value.bool Bool.true), (Value.int 181 0), (Value.ref 923), Value.none, (Value.ref 924), (Value.ref 925), (Value.ref 926), (Value.int 1518 0), (Value.int 715 0), (Value.str (Str.ofString "/claim/cut.py") 1519)]) #[])) ::
  (nat_lit 928, (fnS (stAt 138) (Str.ofString "world_for") 3 [] Value.none Value.none Value.none (Value.str (Str.ofString "ledgerspeak.calling") 1453) none (Value.ref 927) Value.none 0)) ::
  (nat_lit 936, (Obj.mk (Value.type "tuple") none (Data.seq #[(Value.bool Bool.false)] 0) #[])) ::
  (nat_lit 942, (Obj.mk (Value.type "code") none (Data.fields #[(Value.str (Str.ofString "__init__") 1535), (Value.str (Str.ofString "Program.__init__") 1536), (Value.str (Str.ofString "/claim/cut.py") 1537), (Value.int 730 0), (Value.int 6 0), (Value.int 0 0), (Value.int 0 0), (Value.int 3 0), (Value.ref 937), (Value.bool Bool.true), (Value.int 181 0), (Value.ref 938), Value.none, (Value.ref 939), (Value.ref 940), (Value.ref 941), (Value.int 1544 0), (Value.int 730 0), (Value.str (Str.ofString "/claim/cut.py") 1545)]) #[])) ::
  (nat_lit 943, (fnS (mAt 140 0) (Str.ofString "Program.__init__") 3 [] (Value.ref 936) Value.none Value.none (Value.str (Str.ofString "ledgerspeak.program") 1521) none (Value.ref 942) Value.none 0)) ::
  (nat_lit 951, (Obj.mk (Value.type "tuple") none (Data.seq #[(Value.str (Str.ofString "data") 1554), (Value.str (Str.ofString "files") 1555), (Value.str (Str.ofString "is_initial") 1556), (Value.str (Str.ofString "name") 1557), (Value.str (Str.ofString "procedures") 1558)] 0) #[])) ::
  (nat_lit 952, (Obj.mk (Value.type "dict") none (Data.dict #[(DictEntry.mk (PyData.keyHash P (Str.ofString "__module__")) (Value.str (Str.ofString "__module__") 1530) (Value.str (Str.ofString "ledgerspeak.program") 1521)), (DictEntry.mk (PyData.keyHash P (Str.ofString "__firstlineno__")) (Value.str (Str.ofString "__firstlineno__") 1534) (Value.int 728 1533)), (DictEntry.mk (PyData.keyHash P (Str.ofString "__init__")) (Value.str (Str.ofString "__init__") 1546) (Value.ref 943)), (DictEntry.mk (PyData.keyHash P (Str.ofString "using")) (Value.str (Str.ofString "using") 1553) (Value.ref 950)), (DictEntry.mk (PyData.keyHash P (Str.ofString "__static_attributes__")) (Value.str (Str.ofString "__static_attributes__") 1559) (Value.ref 951)), (DictEntry.mk (PyData.keyHash P (Str.ofString "__dict__")) (Value.str (Str.ofString "__dict__") 1561) (Value.ref 954)), (DictEntry.mk (PyData.keyHash P (Str.ofString "__weakref__")) (Value.str (Str.ofString "__weakref__") 1563) (Value.ref 955)), (DictEntry.mk (PyData.keyHash P (Str.ofString "__doc__")) (Value.str (Str.ofString "__doc__") 1564) Value.none)] 4) #[])) ::
  (nat_lit 953, (Obj.mk (Value.type "type") none (Data.cls (ClassData.mk (Str.ofString "Program") [(Value.type "object")] [(Value.ref 953), (Value.type "object")] 952 (Str.ofString "Program") Bool.true [] [] Bool.false none Bool.false)) #[none, none, (some (Value.str (Str.ofString "Program") 1523)), (some (Value.str (Str.ofString "Program") 1531)), (some (Value.builtin "object.__new__")), (some (Value.bool Bool.true))])) ::
  (nat_lit 954, (Obj.mk (Value.type "getset_descriptor") none (Data.fields #[(Value.str (Str.ofString "__dict__") 1560), (Value.ref 953), (Value.builtin "function.__dict__"), (Value.builtin "function.__dict__#set")]) #[])) ::
  (nat_lit 955, (Obj.mk (Value.type "getset_descriptor") none (Data.fields #[(Value.str (Str.ofString "__weakref__") 1562), (Value.ref 953), (Value.builtin "ExceptionGroup.__weakref__"), Value.none]) #[])) ::
  (nat_lit 958, (Obj.mk (Value.type "tuple") none (Data.seq #[] 0) #[])) ::
  (nat_lit 959, (Obj.mk (Value.type "tuple") none (Data.seq #[] 0) #[])) ::
  (nat_lit 960, (Obj.mk (Value.type "tuple") none (Data.seq #[(Value.str (Str.ofString "ref") 1569), (Value.str (Str.ofString "R") 1570), (Value.ref 958), (Value.ref 959), Value.none] 0) #[])) ::
  (nat_lit 966, (Obj.mk (Value.type "code") none (Data.fields #[(Value.str (Str.ofString "_law_pen") 1572), (Value.str (Str.ofString "_law_pen") 1573), (Value.str (Str.ofString "/claim/cut.py") 1574), (Value.int 741 0), (Value.int 1 0), (Value.int 0 0), (Value.int 0 0), (Value.int 3 0), (Value.ref 961), (Value.bool Bool.true), (Value.int 181 0), (Value.ref 962), Value.none, (Value.ref 963), (Value.ref 964), (Value.ref 965), (Value.int 1578 0), (Value.int 741 0), (Value.str (Str.ofString "/claim/cut.py") 1579)]) #[])) ::
  (nat_lit 967, (fnS (stAt 143) (Str.ofString "_law_pen") 3 [] Value.none Value.none Value.none (Value.str (Str.ofString "law_pq0646_01") 1567) none (Value.ref 966) Value.none 0)) ::
  (nat_lit 973, (Obj.mk (Value.type "code") none (Data.fields #[(Value.str (Str.ofString "_law_draw") 1581), (Value.str (Str.ofString "_law_draw") 1582), (Value.str (Str.ofString "/claim/cut.py") 1583), (Value.int 746 0), (Value.int 2 0), (Value.int 0 0), (Value.int 0 0), (Value.int 3 0), (Value.ref 968), (Value.bool Bool.true), (Value.int 181 0), (Value.ref 969), Value.none, (Value.ref 970), (Value.ref 971), (Value.ref 972), (Value.int 1587 0), (Value.int 746 0), (Value.str (Str.ofString "/claim/cut.py") 1588)]) #[])) ::
  (nat_lit 974, (fnS (stAt 144) (Str.ofString "_law_draw") 3 [] Value.none Value.none Value.none (Value.str (Str.ofString "law_pq0646_01") 1567) none (Value.ref 973) Value.none 0)) ::
  (nat_lit 980, (Obj.mk (Value.type "code") none (Data.fields #[(Value.str (Str.ofString "_law_program") 1590), (Value.str (Str.ofString "_law_program") 1591), (Value.str (Str.ofString "/claim/cut.py") 1592), (Value.int 753 0), (Value.int 3 0), (Value.int 0 0), (Value.int 0 0), (Value.int 3 0), (Value.ref 975), (Value.bool Bool.true), (Value.int 181 0), (Value.ref 976), Value.none, (Value.ref 977), (Value.ref 978), (Value.ref 979), (Value.int 1598 0), (Value.int 753 0), (Value.str (Str.ofString "/claim/cut.py") 1599)]) #[])) ::
  (nat_lit 981, (fnS (stAt 145) (Str.ofString "_law_program") 3 [] Value.none Value.none Value.none (Value.str (Str.ofString "law_pq0646_01") 1567) none (Value.ref 980) Value.none 0)) ::
  (nat_lit 985, (Obj.mk (Value.type "code") none (Data.fields #[(Value.str (Str.ofString "_law_right") 1601), (Value.str (Str.ofString "_law_right") 1602), (Value.str (Str.ofString "/claim/cut.py") 1603), (Value.int 758 0), (Value.int 2 0), (Value.int 0 0), (Value.int 0 0), (Value.int 3 0), (Value.ref 982), (Value.bool Bool.true), (Value.int 181 0), (Value.ref 983), Value.none, Value.none, Value.none, (Value.ref 984), (Value.int 1604 0), (Value.int 758 0), (Value.str (Str.ofString "/claim/cut.py") 1605)]) #[])) ::
  (nat_lit 986, (fnS (stAt 146) (Str.ofString "_law_right") 3 [] Value.none Value.none Value.none (Value.str (Str.ofString "law_pq0646_01") 1567) none (Value.ref 985) Value.none 0)) ::
  (nat_lit 990, (Obj.mk (Value.type "code") none (Data.fields #[(Value.str (Str.ofString "law") 1607), (Value.str (Str.ofString "law") 1608), (Value.str (Str.ofString "/claim/cut.py") 1609), (Value.int 780 0), (Value.int 1 0), (Value.int 0 0), (Value.int 0 0), (Value.int 3 0), (Value.ref 987), (Value.bool Bool.true), (Value.int 181 0), (Value.ref 988), Value.none, Value.none, Value.none, (Value.ref 989), (Value.int 1610 0), (Value.int 780 0), (Value.str (Str.ofString "/claim/cut.py") 1611)]) #[])) ::
  (nat_lit 991, (fnS (stAt 147) (Str.ofString "law") 3 [] Value.none Value.none Value.none (Value.str (Str.ofString "law_pq0646_01") 1567) none (Value.ref 990) Value.none 0)) :: []
noncomputable def asK : List Addr := [2, 3, 118, 119, 232, 233, 260, 261, 262, 263, 264, 279, 280, 286, 287, 288, 289, 290, 298, 299, 305, 306, 312, 313, 319, 320, 326, 327, 331, 332, 336, 337, 476, 482, 483, 498, 499, 500, 501, 502, 510, 511, 538, 539, 654, 660, 661, 716, 717, 728, 729, 735, 736, 762, 763, 769, 770, 776, 777, 781, 782, 788, 789, 802, 803, 804, 805, 806, 807, 808, 823, 824, 830, 831, 837, 838, 842, 843, 849, 850, 856, 857, 893, 899, 900, 906, 907, 915, 916, 917, 918, 919, 927, 928, 936, 942, 943, 951, 952, 953, 954, 955, 958, 959, 960, 966, 967, 973, 974, 980, 981, 985, 986, 990, 991]
theorem asK_eq : ∀ P, asK = (K P).map (·.1) := fun P => by kernel_rfl
theorem alive_K : ∀ P, (K P).map (fun p => alive p.2) = (K P).map fun p => some p.2 := fun P => by kernel_rfl
theorem asK_lt : (asK.all fun a => Nat.blt a 992) = true := by decide
/-- the top's run, looked at twice (one look over all is dearer in memory) -/
theorem runA : ∀ (w : World) (os : OsState), (topRunT (stepQ w) 11 (some (.ref 6)) 6700 (st₀ w os) (topStub pw)).map (fun st => (staticsOk (importedModules pw.main.body) (boot_heap w.params) st.abs.heap && namesBound pw st.abs.heap && gensDone st.abs && laidKept (boot_heap w.params) st.abs.heap)) = some true := fun w os => by kernel_rfl
theorem runB : ∀ (w : World) (os : OsState), (topRunT (stepQ w) 11 (some (.ref 6)) 6700 (st₀ w os) (topStub pw)).map (fun st => (PySem.W.Fast.tw4187177175401517315 q loose (importedModules pw.main.body) Xt true st.abs, asK.map st.tree.get, Nat.ble 992 st.n)) = some (openGood q loose, (K w.params).map fun p => some p.2, true) := fun w os => by kernel_rfl
theorem run_two {σ α β : Type} {x : Option σ} {f : σ → α} {g : σ → β} {a : α} {b : β} (e1 : x.map f = some a) (e2 : x.map g = some b) : ∃ s, x = some s ∧ f s = a ∧ g s = b := by
  obtain ⟨s, rfl, h1⟩ := Option.map_eq_some_iff.mp e1
  exact ⟨s, rfl, h1, Option.some.inj e2⟩
theorem map_get {t : BT} {n : Nat} {life : Life} (hn : 992 ≤ n) : ∀ {l : List Addr} {r : List (Addr × Obj)}, l.map t.get = r.map (fun p => some p.2) → (l.all fun a => Nat.blt a 992) = true → r.map (fun p => alive p.2) = r.map (fun p => some p.2) → l.map (absHeap t n life).get? = r.map fun p => some p.2
  | [], [], _, _, _ => rfl
  | [], _ :: _, h, _, _ => nomatch h
  | _ :: _, [], h, _, _ => nomatch h
  | a :: l, p :: r, h, ha, hr => by
    obtain ⟨h1, h2⟩ := List.cons.inj h
    obtain ⟨r1, r2⟩ := List.cons.inj hr
    rw [List.all_cons, Bool.and_eq_true] at ha
    have la : a < n := Nat.lt_of_lt_of_le (Nat.le_of_ble_eq_true ha.1) hn
    exact List.cons_eq_cons.mpr ⟨(abs_get la h1).trans r1, map_get hn h2 ha.2 r2⟩
theorem look_three {α β γ : Type} {x : α} {y : β} {z : γ} {a : α} {b : β} {c : γ} (h1 : x = a) (h2 : y = b) (h3 : z = c) : some (x, y, z) = some (a, b, c) := by rw [h1, h2, h3]
theorem runK_ (w : World) (os : OsState) : (topRunT (stepQ w) 11 (some (.ref 6)) 6700 (st₀ w os) (topStub pw)).map (fun st => look (fun s => asK.map s.heap.get?) w st.abs) = some (true, openGood q loose, (K w.params).map fun p => some p.2) := by
  obtain ⟨s, hs, h1, h2⟩ := run_two (runA w os) (runB w os)
  obtain ⟨h2, h3⟩ := Prod.mk.inj h2
  obtain ⟨h3, h4⟩ := Prod.mk.inj h3
  rw [hs]
  exact look_three h1 h2 (map_get (Nat.le_of_ble_eq_true h4) h3 asK_lt (alive_K w.params))

end
section
open PySem PySem.W PySem.Calls PyProof.Rows
theorem openSeen_eq : @openSeen = PySem.W.Fast.tw4187177175401517315 := PySem.W.Fast.te4187177175401517315
theorem left_core {p q : Program} {loose : List Str} {Xt : Shared → Bool} {α : Type} {Yf : Shared → α} {Ya : World → α} {N M m₀ : Nat} {H₀ : Params → Heap} {gs₀ : Array GenState} {d₀ : Drawn} {k₀ : Nat} {ann : Option Value}
    (open_ : ∀ w : World, (fencedOpening treeTable p w N).map (fun s => (s.heap, s.gens, s.drawn, s.toks)) = some (H₀ w.params, gs₀, d₀, k₀))
    (size : ∀ w : World, ((H₀ w.params).isNs mainGlobals && gs₀.size == 0, (H₀ w.params).objs.size, (H₀ w.params).nsMap mainGlobals "__annotations__") = (true, m₀, ann))
    (run : ∀ (w : World) (os : OsState), ∃ s, topRun treeTable p w m₀ ann M ⟨H₀ w.params, gs₀, d₀, k₀, os⟩ (topStub p) = some s ∧
      (staticsOk (importedModules p.main.body) (H₀ w.params) s.heap && namesBound p s.heap && gensDone s && laidKept (H₀ w.params) s.heap) = true ∧
      openSeen q loose (importedModules p.main.body) Xt true s = openGood q loose ∧ Yf s = Ya w) (le : Nat.ble M N = true) : LeftO p q loose Xt Yf Ya N := fun w => by
  obtain ⟨⟨h, gs, d, k, os⟩, e, e'⟩ := Option.map_eq_some_iff.mp (open_ w)
  obtain ⟨rfl, rfl, rfl, rfl⟩ : h = H₀ w.params ∧ gs = gs₀ ∧ d = d₀ ∧ k = k₀ := by simpa using e'
  obtain ⟨z1, z2, z3⟩ : _ ∧ _ ∧ _ := by simpa only [Prod.mk.injEq] using size w
  obtain ⟨s, hr, l1, l2, l3⟩ := run w os
  have r := topRun_mono (N - M) _ _ _ _ hr
  rw [show M + (N - M) = N by have := Nat.le_of_ble_eq_true le; omega] at r
  have t : topFrom treeTable p w N ⟨H₀ w.params, gs, d, k, os⟩ = some s := by
    unfold topFrom
    dsimp only
    rw [z1, z2, z3, r]
    show (match staticsOk (importedModules p.main.body) (H₀ w.params) s.heap && namesBound p s.heap && gensDone s && laidKept (H₀ w.params) s.heap with | true => _ | false => _) = _
    rw [l1]
  unfold openEnds
  rw [e]
  show (topFrom treeTable p w N _).map _ = _
  rw [t]
  exact congrArg some (Prod.ext l2 l3)

theorem run_core {p q : Program} {loose : List Str} {Xt : Shared → Bool} {α : Type} {Yf : Shared → α} {Ya : World → α} {M m₀ : Nat} {H₀ : Params → Heap} {gs₀ : Array GenState} {d₀ : Drawn} {k₀ : Nat} {ann : Option Value} {w : World} {os : OsState} {st : SharedT}
    {sq : SharedT → Thread → Option (SharedT × Thread)} (hs : sq = stepT (denote treeTable) p w) (ha : st.abs = ⟨H₀ w.params, gs₀, d₀, k₀, os⟩)
    {oS : Program → List Str → List Str → (Shared → Bool) → Bool → Shared → _} (ho : @openSeen = oS)
    (h : (topRunT sq m₀ ann M st (topStub p)).map (fun st => ((staticsOk (importedModules p.main.body) (H₀ w.params) st.abs.heap && namesBound p st.abs.heap && gensDone st.abs && laidKept (H₀ w.params) st.abs.heap),
      oS q loose (importedModules p.main.body) Xt true st.abs, Yf st.abs)) = some (true, openGood q loose, Ya w)) :
    ∃ s, topRun treeTable p w m₀ ann M ⟨H₀ w.params, gs₀, d₀, k₀, os⟩ (topStub p) = some s ∧
      (staticsOk (importedModules p.main.body) (H₀ w.params) s.heap && namesBound p s.heap && gensDone s && laidKept (H₀ w.params) s.heap) = true ∧
      openSeen q loose (importedModules p.main.body) Xt true s = openGood q loose ∧ Yf s = Ya w := by
  subst hs ho
  obtain ⟨s, hr, hl⟩ := Option.map_eq_some_iff.mp h
  obtain ⟨l1, l2, l3⟩ : _ ∧ _ ∧ _ := by simpa only [Prod.mk.injEq] using hl
  have hr := topRunT_spec hr
  rw [ha] at hr
  exact ⟨s.abs, hr, l1, l2, l3⟩

theorem left : LeftO pw q loose Xt (fun s => asK.map s.heap.get?) (fun w => (K w.params).map fun (p : Addr × Obj) => some p.2) 7000 :=
  left_core (p := pw) (q := q) (loose := loose) (Xt := Xt) (Yf := fun s => asK.map s.heap.get?) (Ya := fun w => (K w.params).map fun (p : Addr × Obj) => some p.2) (N := 7000) (M := 6700) (m₀ := 11) (H₀ := boot_heap) (gs₀ := Array.mk []) (d₀ := boot_drawn) (k₀ := boot_toks) (ann := some (.ref 6)) open_ size_
    (fun w os => run_core (p := pw) (q := q) (loose := loose) (Xt := Xt) (Yf := fun s => asK.map s.heap.get?) (Ya := fun w => (K w.params).map fun (p : Addr × Obj) => some p.2) (M := 6700) (m₀ := 11) (H₀ := boot_heap) (gs₀ := Array.mk []) (d₀ := boot_drawn) (k₀ := boot_toks) (ann := some (.ref 6)) (w := w) (os := os) (st := st₀ w os) (stepQ_eq w) (st₀_abs w os) openSeen_eq (runK_ w os)) rfl

end
section
open PySem PySem.W PySem.Calls PyProof.Rows
theorem said : PySem.Challenge.rw_pq0646_01.wellSaid = true := by
  rw [PySem.W.Fast.te9446332074065402090]
  delta PySem.W.Fast.tw9446332074065402090
  dsimp only
  with_reducible repeat' (refine look_both ?_ ?_)
  focus
    delta PySem.W.Fast.tw17960256430627541270
    with_reducible repeat' (refine look_both ?_ ?_)
    focus
      delta PySem.W.Fast.tw2436336058641802641
      try dsimp only
      with_reducible repeat' (refine look_both ?_ ?_)
      focus
        delta PySem.W.Fast.tw12908688711261696721
        try dsimp only
        with_reducible repeat' (refine look_both ?_ ?_)
        all_goals decide +kernel
      all_goals decide +kernel
    all_goals decide +kernel
  all_goals decide +kernel

end
section
open PySem PySem.W PySem.Calls PyProof.Rows
theorem allLt_mem {d : Addr} : ∀ {l : List (Addr × Obj)}, AllLt d l → ∀ p ∈ l, p.1 ≠ d
  | [], _, _, h => nomatch h
  | q :: r, x, p, h => by
    rcases List.mem_cons.mp h with rfl | h
    · exact Nat.ne_of_lt x.1
    · exact allLt_mem x.2 p h
theorem allLt_lt {d : Addr} : ∀ {l : List (Addr × Obj)}, AllLt d l → ∀ p ∈ l, p.1 < d
  | [], _, _, h => nomatch h
  | q :: r, x, p, h => by
    rcases List.mem_cons.mp h with rfl | h
    · exact x.1
    · exact allLt_lt x.2 p h

theorem units_make (A : Around) (args : Args) : (A.under (.builtin "type.__call__" args)).units = A.units + 1 := rfl

/-- the end of a turn: the loop's own objects and the invariant's ledger stand -/
noncomputable def TEnd (h₀ : Heap) (L : Addr) (s₁ : Shared) (its : List (Addr × Obj)) (J : (Str → Option Value) → List (Addr × Obj) → Prop) (s₂ : Shared) : Prop :=
  ∃ h' tk m' all nx, s₂ = { s₁ with heap := h', toks := tk } ∧ Fr h₀ L h' m' ∧ News h₀ L h' all ∧ (∀ p ∈ its, p ∈ all) ∧ (∀ p ∈ nx, p ∈ all) ∧ (∀ p ∈ nx, ∀ q ∈ its, p.1 ≠ q.1) ∧ J m' nx
noncomputable def TPost (h₀ : Heap) (L : Addr) (s₁ : Shared) (its : List (Addr × Obj)) (J : (Str → Option Value) → List (Addr × Obj) → Prop) (Q : Flow → Shared → Prop) (f : Flow) (s₂ : Shared) : Prop :=
  match f with
  | .ret v => Q (.ret v) s₂
  | .brk => Q .next s₂
  | _ => TEnd h₀ L s₁ its J s₂

section
variable {prog : Program} {w : World} {A : Around} {E : Value → Shared → Prop} {s : Shared} {env : Env} {h₀ : Heap} {target : Expr} {body : List Stmt} {Q : Flow → Shared → Prop}

omit prog w A E s env h₀ target body Q in
theorem objs_one {a : Addr} {c : String} : ∀ {its : List (Addr × Obj)}, Objs [(a, c)] its → ∃ o, its = [(a, o)] ∧ o.cls = .type c
  | [], h => (show False from h).elim
  | [(a', o)], h => by
    have h1 : a' = a ∧ o.cls = .type c := h.1
    obtain ⟨e, h2⟩ := h1
    subst e
    exact ⟨o, rfl, h2⟩
  | _ :: _ :: _, h => (show False from h.2).elim
omit prog w A E s env h₀ target body Q in
theorem objs_two {a a' : Addr} {c c' : String} : ∀ {its : List (Addr × Obj)}, Objs [(a, c), (a', c')] its → ∃ o o', its = [(a, o), (a', o')] ∧ o.cls = .type c ∧ o'.cls = .type c'
  | [], h => (show False from h).elim
  | (b, o) :: r, h => by
    have h1 : b = a ∧ o.cls = .type c := h.1
    obtain ⟨e, h2⟩ := h1
    subst e
    obtain ⟨o', rfl, h3⟩ := objs_one h.2
    exact ⟨o, o', rfl, h2, h3⟩

theorem turns_core {I : Addr} {fp wr : List Addr} {n : Nat} {P Md : Nat → Value → Heap → Prop} {St : Nat → Heap → Prop} {ws : List (Addr × String)} {keep : List (Addr × Obj)} {m₀ : Str → Option Value} {news : List (Addr × Obj)} {hp : Heap} {tk0 : Nat}
    (W : KTurns prog w A target I fp wr n P Md St)
    (hobj : ∀ i h, St i h → ∃ its, Objs ws its ∧ ∀ p ∈ its, h.get? p.1 = some p.2)
    (hws : ∀ b ∈ ws.map (·.1), b ∈ fp ∧ h₀.get? b = none) (hwr : ∀ b ∈ wr, b ∈ ws.map (·.1)) (hww : ∀ b ∈ ws.map (·.1), b ∈ wr)
    (hfp : ∀ b ∈ fp, b ∈ ws.map (·.1) ∨ ∃ o, (b, o) ∈ keep) (hL : env.locals ∉ fp) (hnw : ∀ p ∈ news, p.1 ∉ wr) (hst : St 0 hp)
    (F : Fr h₀ env.locals hp m₀) (N : News h₀ env.locals hp news) (J : Nat → (Str → Option Value) → List (Addr × Obj) → Prop)
    (hJk : ∀ i m nx, J i m nx → ∀ p ∈ keep, p ∈ nx) (j0 : J 0 m₀ news)
    (turn : ∀ i v m₁ nx h tk its, i < n → P i v h → J i m₁ nx → Objs ws its → (∀ p ∈ nx, ∀ q ∈ its, p.1 ≠ q.1) → Fr h₀ env.locals h m₁ → News h₀ env.locals h (its ++ nx) →
      wpAny (model prog w) A (assign target env v) (fun _ s₂ => wpAny (model prog w) A (execs body env) (TPost h₀ env.locals { s with heap := h, toks := tk } its (J (i + 1)) Q) E s₂) E { s with heap := h, toks := tk })
    (done : ∀ m' nx h tk, J n m' nx → Fr h₀ env.locals h m' → News h₀ env.locals h nx → Q .next { s with heap := h, toks := tk }) :
    TurnsAt prog w A h₀ env target body Q E (.ref I) { s with heap := hp, toks := tk0 } := by
  refine ⟨I, fp, wr, n, P, Md, St, m₀, news, J, rfl, W, hL, fun b hb => (hws b (hwr b hb)).2, hnw, hst, F, N, j0, ?_, ?_⟩
  · intro i v m₁ news₁ h₁ tk₁ own hin hPi hJ hoff hown hget hall hst₁ F₁ N₁
    obtain ⟨its, hits, hval⟩ := hobj (i + 1) h₁ hst₁
    have hmap := hits.map
    have N₂ : News h₀ env.locals h₁ (its ++ news₁) := fun p hp => by
      rcases List.mem_append.mp hp with hp | hp
      · have h1 : p.1 ∈ ws.map (·.1) := by rw [← hmap]; exact List.mem_map.mpr ⟨p, hp, rfl⟩
        exact N₁ _ (List.mem_append_left _ (hall p.1 (hws _ h1).1 (hws _ h1).2 p.2 (hval p hp)))
      · exact N₁ _ (List.mem_append_right _ hp)
    have hoff' : ∀ p ∈ news₁, ∀ q ∈ its, p.1 ≠ q.1 := fun p hp q hq e => hoff p hp (by
      rw [e]; exact hww _ (by rw [← hmap]; exact List.mem_map.mpr ⟨q, hq, rfl⟩))
    have fin : ∀ s₃, TEnd h₀ env.locals { s with heap := h₁, toks := tk₁ } its (J (i + 1)) s₃ →
        LoopStepU h₀ env.locals wr own (J (i + 1)) { s with heap := h₁, toks := tk₁ } .next s₃ := by
      rintro s₃ ⟨h', tk, m', all, nx, e, F', N', hi, hnx, ho, r⟩
      refine ⟨rfl, h', tk, m', nx, e, F', ?_, ?_, r⟩
      · rintro ⟨pa, po⟩ hp
        rcases List.mem_append.mp hp with hp | hp
        · have h2 : h₁.get? pa = some po := hget _ hp
          rcases hfp pa (hown _ hp) with h3 | ⟨o, h3⟩
          · have h4 : pa ∈ its.map (·.1) := by rw [hmap]; exact h3
            obtain ⟨⟨qa, qo⟩, hq, hqe⟩ := List.mem_map.mp h4
            have hqe' : qa = pa := hqe
            subst hqe'
            have h5 : h₁.get? qa = some qo := hval _ hq
            have h6 : qo = po := Option.some.inj (h5.symm.trans h2)
            subst h6
            exact N' _ (hi _ hq)
          · have h4 : h₁.get? pa = some o := (N₁ _ (List.mem_append_right _ (hJk _ _ _ hJ _ h3))).1
            have h6 : o = po := Option.some.inj (h4.symm.trans h2)
            subst h6
            exact N' _ (hnx _ (hJk _ _ _ r _ h3))
        · exact N' _ (hnx _ hp)
      · intro p hp hI
        have h4 : p.1 ∈ its.map (·.1) := by rw [hmap]; exact hwr _ hI
        obtain ⟨q, hq, hqe⟩ := List.mem_map.mp h4
        exact ho p hp q hq hqe.symm
    refine wpAny_mono (turn i v m₁ news₁ h₁ tk₁ its hin hPi hJ hits hoff' F₁ N₂) (fun _ s₂ h₂ => wpAny_mono h₂ (fun f s₃ p => ?_) fun _ _ e => e) fun _ _ e => e
    cases f with
    | ret v => exact .ret p
    | brk => exact .brk p
    | next => exact .next (fin _ p)
    | cont => exact .cont (fin _ p)
  · intro h' tk m' news' F' N' _ hJ
    exact done m' news' h' tk hJ F' N'

/-- a for over a made list, by an invariant over the turn's number, the frame and the ledger -/
theorem iter_listJ {ax : Addr} {lo : Obj} {vs : List Value} {n : Nat} {m₀ : Str → Option Value} {news : List (Addr × Obj)}
    (hh : A.handled = none) (F : Fr h₀ env.locals s.heap m₀) (N : News h₀ env.locals s.heap news) (hm : (ax, lo) ∈ news) (hc : lo.cls = .type "list") (hd : lo.data = .seq vs.toArray n)
    (J : Nat → (Str → Option Value) → List (Addr × Obj) → Prop) (hJk : ∀ i m nx, J i m nx → (ax, lo) ∈ nx) (j0 : J 0 m₀ news)
    (turn : ∀ i v m₁ nx h tk I io, vs[i]? = some v → J i m₁ nx → io.cls = .type "list_iterator" → (∀ p ∈ nx, p.1 ≠ I) → Fr h₀ env.locals h m₁ → News h₀ env.locals h ((I, io) :: nx) →
      wpAny (model prog w) A (assign target env v) (fun _ s₂ => wpAny (model prog w) A (execs body env) (TPost h₀ env.locals { s with heap := h, toks := tk } [(I, io)] (J (i + 1)) Q) E s₂) E { s with heap := h, toks := tk })
    (done : ∀ m' nx h tk, J vs.length m' nx → Fr h₀ env.locals h m' → News h₀ env.locals h nx → Q .next { s with heap := h, toks := tk }) :
    wpAny (model prog w) A (pyIter (.ref ax)) (fun it s₂ => TurnsAt prog w A h₀ env target body Q E it s₂) E s := by
  have hax := N _ hm
  have hl : s.heap.IsList ax vs.toArray := ⟨lo, hax.1, hc, n, hd⟩
  have hlt : ax < s.heap.objs.size := Heap.lt_size hax.1
  have hne : ax ≠ s.heap.objs.size := Nat.ne_of_lt hlt
  refine wpAny_pyIter_list hl ?_
  refine turns_core (tk0 := s.toks) (ws := [(s.heap.objs.size, "list_iterator")]) (keep := [(ax, lo)]) (KTurns.ofWalks (Walks.list hh s.heap.objs.size ax hne vs.toArray) fun i v s Q E st q => letGo_listiter st.1 q) (fun i h st => ?_) (fun b hb => ?_) (fun b hb => by simpa using hb) (fun b hb => by simpa using hb) (fun b hb => ?_) ?_ (fun p hp hI => ?_) ?_ (F.push _) (fun p hp => ⟨Heap.get?_push_of_some _ (N p hp).1, (N p hp).2⟩) J ?_ j0 ?_ ?_
  · obtain ⟨it, hit, hic, _⟩ := st.1
    exact ⟨[(s.heap.objs.size, it)], ⟨⟨rfl, hic⟩, trivial⟩, fun p hp => by rw [List.mem_singleton.mp hp]; exact hit⟩
  · have hb' : b = s.heap.objs.size := by simpa using hb
    rw [hb']
    exact ⟨List.mem_cons_self .., next_is_new F⟩
  · have hb' : b = s.heap.objs.size ∨ b = ax := by simpa using hb
    rcases hb' with e | e
    · exact .inl (by simp [e])
    · exact .inr ⟨lo, by simp [e]⟩
  · intro hI
    rcases List.mem_cons.mp hI with e | hI
    · exact absurd F.ns.lt (e ▸ Nat.lt_irrefl _)
    · exact hax.2.1 (List.mem_singleton.mp hI).symm
  · exact absurd (Heap.lt_size (N p hp).1) ((List.mem_singleton.mp hI) ▸ Nat.lt_irrefl _)
  · exact ⟨⟨_, Heap.get?_push_size _ rfl, rfl, rfl⟩, hl.at fun o e => Heap.get?_push_of_some _ e⟩
  · intro i m nx hJ p hp
    rw [List.mem_singleton.mp hp]
    exact hJk i m nx hJ
  · intro i v m₁ nx h tk its hin hP hJ hits hoff F₁ N₁
    obtain ⟨io, rfl, hio⟩ := objs_one hits
    refine turn i v m₁ nx h tk _ io ?_ hJ hio (fun p hp => hoff p hp _ (List.mem_singleton.mpr rfl)) F₁ N₁
    have hp' : vs.toArray[i]? = some v := hP
    simpa using hp'
  · intro m' nx h tk hJ
    exact done m' nx h tk (by simpa using hJ)

/-- a for over enumerate of a made list -/
theorem iter_enumJ {elts : List Expr} {k : Nat} {pos : Pos} {l : Addr} {lo : Obj} {vs : List Value} {n : Nat} {m₀ : Str → Option Value} {news : List (Addr × Obj)}
    (hh : A.handled = none) (F : Fr h₀ env.locals s.heap m₀) (N : News h₀ env.locals s.heap news) (hm : (l, lo) ∈ news) (hc : lo.cls = .type "list") (hd : lo.data = .seq vs.toArray n)
    (J : Nat → (Str → Option Value) → List (Addr × Obj) → Prop) (hJk : ∀ i m nx, J i m nx → (l, lo) ∈ nx) (j0 : J 0 m₀ news)
    (turn : ∀ (i : Nat) x t T m₁ nx h tk I io I' io', vs[i]? = some x → IsTup h T #[.int (i : Int) t, x] → J i m₁ nx → io.cls = .type "enumerate" → io'.cls = .type "list_iterator" → (∀ p ∈ nx, p.1 ≠ I) → (∀ p ∈ nx, p.1 ≠ I') → Fr h₀ env.locals h m₁ → News h₀ env.locals h ((I, io) :: (I', io') :: nx) →
      wpAny (model prog w) A (assign (.Tuple elts k pos) env (.ref T)) (fun _ s₂ => wpAny (model prog w) A (execs body env) (TPost h₀ env.locals { s with heap := h, toks := tk } [(I, io), (I', io')] (J (i + 1)) Q) E s₂) E { s with heap := h, toks := tk })
    (done : ∀ m' nx h tk, J vs.length m' nx → Fr h₀ env.locals h m' → News h₀ env.locals h nx → Q .next { s with heap := h, toks := tk }) :
    wpAny (model prog w) A (call (.type "enumerate") [.ref l]) (fun xv s₁ => wpAny (model prog w) A (pyIter xv) (fun it s₂ => TurnsAt prog w A h₀ env (.Tuple elts k pos) body Q E it s₂) E s₁) E s := by
  have hax := N _ hm
  have hl : s.heap.IsList l vs.toArray := ⟨lo, hax.1, hc, n, hd⟩
  have hlt : l < s.heap.objs.size := Heap.lt_size hax.1
  have hLs : env.locals < s.heap.objs.size := F.ns.lt
  refine call_enumerate_list hl fun h' hE hI hsz hk => ?_
  refine wpAny_pyIter_enum hE ?_
  refine turns_core (tk0 := s.toks) (ws := [(s.heap.objs.size + 1, "enumerate"), (s.heap.objs.size, "list_iterator")]) (keep := [(l, lo)]) (KTurns.ofWalksU (WalksT.enumerate hh (s.heap.objs.size + 1) s.heap.objs.size l (Nat.succ_ne_self _) (ktu_ne 1 hlt) (Nat.ne_of_lt hlt) vs.toArray).toU) ?_ ?_ ?_ ?_ ?_ ?_ ?_ ?_ (F.keeps hk) (N.grown hk) J ?_ j0 ?_ ?_
  · rintro i h ⟨⟨old, he⟩, ⟨oi, hoi, hic, _⟩, _⟩
    have he' : ∃ oe : Obj, h.get? (s.heap.objs.size + 1) = some oe ∧ oe.cls = .type "enumerate" := ⟨_, he, rfl⟩
    obtain ⟨oe, h1, h2⟩ := he'
    refine ⟨[(s.heap.objs.size + 1, oe), (s.heap.objs.size, oi)], ⟨⟨rfl, h2⟩, ⟨rfl, hic⟩, trivial⟩, fun p hp => ?_⟩
    rcases List.mem_cons.mp hp with rfl | hp
    · exact h1
    · rw [List.mem_singleton.mp hp]; exact hoi
  · intro b hb
    have hb' : b = s.heap.objs.size + 1 ∨ b = s.heap.objs.size := by simpa using hb
    rcases hb' with e | e
    · subst e; exact ⟨by simp, ktu_new F (Nat.le_succ _)⟩
    · subst e; exact ⟨by simp, ktu_new F (Nat.le_refl _)⟩
  · intro b hb; simpa using hb
  · intro b hb; simpa using hb
  · intro b hb
    have hb' : b = s.heap.objs.size + 1 ∨ b = s.heap.objs.size ∨ b = l := by simpa using hb
    rcases hb' with e | e | e
    · exact .inl (by simp [e])
    · exact .inl (by simp [e])
    · exact .inr ⟨lo, by simp [e]⟩
  · intro hI'
    have hb' : env.locals = s.heap.objs.size + 1 ∨ env.locals = s.heap.objs.size ∨ env.locals = l := by simpa using hI'
    rcases hb' with e | e | e
    · exact ktu_ne 1 hLs e
    · exact Nat.ne_of_lt hLs e
    · exact hax.2.1 e.symm
  · intro p hp hI'
    have hb' : p.1 = s.heap.objs.size + 1 ∨ p.1 = s.heap.objs.size := by simpa using hI'
    have hlp := Heap.lt_size (N p hp).1
    rcases hb' with e | e
    · exact ktu_ne 1 hlp e
    · exact Nat.ne_of_lt hlp e
  · exact ⟨⟨_, hE⟩, hI, hl.at fun o e => hk _ _ e⟩
  · intro i m nx hJ p hp
    rw [List.mem_singleton.mp hp]
    exact hJk i m nx hJ
  · intro i v m₁ nx h tk its hin hP hJ hits hoff F₁ N₁
    obtain ⟨T, vals, rfl, ⟨t, x, hx, rfl⟩, hT⟩ := hP
    obtain ⟨io, io', rfl, hio, hio'⟩ := objs_two hits
    exact turn i x t T m₁ nx h tk _ io _ io' (by simpa using hx) hT hJ hio hio' (fun p hp => hoff p hp _ (List.mem_cons_self ..)) (fun p hp => hoff p hp _ (.tail _ (.head _))) F₁ N₁
  · intro m' nx h tk hJ
    exact done m' nx h tk (by simpa using hJ)

/-- a for over a range by ones -/
theorem iter_rangeJ {r : Addr} {a₀ b₀ : Int} {t₀ u₀ v₀ : Tok} {n : Nat} {m₀ : Str → Option Value} {news : List (Addr × Obj)}
    (hh : A.handled = none) (hr : IsRange s.heap r a₀ b₀ 1 t₀ u₀ v₀) (hsmall : Builtin.Range.small a₀ b₀ 1 = true) (hn : Builtin.Range.rangeSize a₀ b₀ 1 = (n : Int)) (F : Fr h₀ env.locals s.heap m₀) (N : News h₀ env.locals s.heap news)
    (J : Nat → (Str → Option Value) → List (Addr × Obj) → Prop) (j0 : J 0 m₀ news)
    (hgo : ∀ i v (s : Shared) (Q : Unit → Shared → Prop) (E : Value → Shared → Prop) I, IsRangeIter s.heap I (a₀ + (i : Nat) * 1) ((n : Int) - (i : Nat)) 1 → Q () s → wpAny (model prog w) A (letOwnedTupleGo target (.ref I) v) Q E s)
    (turn : ∀ (i : Nat) t m₁ nx h tk I io, i < n → J i m₁ nx → io.cls = .type "range_iterator" → (∀ p ∈ nx, p.1 ≠ I) → Fr h₀ env.locals h m₁ → News h₀ env.locals h ((I, io) :: nx) →
      wpAny (model prog w) A (assign target env (.int (a₀ + i * 1) t)) (fun _ s₂ => wpAny (model prog w) A (execs body env) (TPost h₀ env.locals { s with heap := h, toks := tk } [(I, io)] (J (i + 1)) Q) E s₂) E { s with heap := h, toks := tk })
    (done : ∀ m' nx h tk, J n m' nx → Fr h₀ env.locals h m' → News h₀ env.locals h nx → Q .next { s with heap := h, toks := tk }) :
    wpAny (model prog w) A (pyIter (.ref r)) (fun it s₂ => TurnsAt prog w A h₀ env target body Q E it s₂) E s := by
  refine wpAny_pyIter_range hr hsmall ?_
  refine turns_core (tk0 := s.toks) (ws := [(s.heap.objs.size, "range_iterator")]) (keep := []) (KTurns.ofWalks (Walks.range hh s.heap.objs.size a₀ 1 n).bound fun i v s Q E st q => hgo i v s Q E _ st q) (fun i h st => ?_) (fun b hb => ?_) (fun b hb => by simpa using hb) (fun b hb => by simpa using hb) (fun b hb => ?_) ?_ (fun p hp hI => ?_) ?_ (F.push _) (fun p hp => ⟨Heap.get?_push_of_some _ (N p hp).1, (N p hp).2⟩) J ?_ j0 ?_ ?_
  · exact ⟨[(s.heap.objs.size, _)], ⟨⟨rfl, rfl⟩, trivial⟩, fun p hp => by rw [List.mem_singleton.mp hp]; exact st⟩
  · have hb' : b = s.heap.objs.size := by simpa using hb
    rw [hb']
    exact ⟨List.mem_cons_self .., next_is_new F⟩
  · exact .inl (by simpa using hb)
  · intro hI
    exact absurd F.ns.lt ((List.mem_singleton.mp hI) ▸ Nat.lt_irrefl _)
  · exact absurd (Heap.lt_size (N p hp).1) ((List.mem_singleton.mp hI) ▸ Nat.lt_irrefl _)
  · show IsRangeIter _ _ _ _ _; rw [hn]; simpa using Heap.get?_push_size _ rfl
  · intro i m nx hJ p hp; cases hp
  · intro i v m₁ nx h tk its hin hP hJ hits hoff F₁ N₁
    obtain ⟨_, t, rfl⟩ := hP
    obtain ⟨io, rfl, hio⟩ := objs_one hits
    exact turn i t m₁ nx h tk _ io hin hJ hio (fun p hp => hoff p hp _ (List.mem_singleton.mpr rfl)) F₁ N₁
  · intro m' nx h tk hJ
    exact done m' nx h tk hJ

/-- a frame's map with some names told anew -/
noncomputable def updL (m₀ : Str → Option Value) (l : List (Str × Option Value)) (y : Str) : Option Value := match l.lookup y with
  | some v => v
  | none => m₀ y
omit prog w A E s env h₀ target body Q in
theorem updL_eq {m₀ m : Str → Option Value} {xs : List Str} (h : ∀ y, y ∉ xs → m y = m₀ y) : m = updL m₀ (xs.zip (xs.map m)) := by
  have key : ∀ (zs : List Str) (y : Str), (zs.zip (zs.map m)).lookup y = if y ∈ zs then some (m y) else none := by
    intro zs y
    induction zs with
    | nil => simp
    | cons z r ih =>
      show List.lookup y ((z, m z) :: r.zip (r.map m)) = _
      rw [List.lookup_cons, ih]
      by_cases e : y = z
      · subst e; simp
      · have e' : (y == z) = false := by simpa using e
        simp [e', e]
  funext y
  unfold updL
  rw [key]
  by_cases e : y ∈ xs
  · rw [if_pos e]
  · rw [if_neg e]; exact h y e
/-- the names' values and the ledger, all other names as ahead of the loop -/
noncomputable def JM (m₀ : Str → Option Value) (xs : List Str) (J : List (Option Value) → List (Addr × Obj) → Prop) (m : Str → Option Value) (nx : List (Addr × Obj)) : Prop := (∀ y, y ∉ xs → m y = m₀ y) ∧ J (xs.map m) nx

theorem iter_listM {ax : Addr} {lo : Obj} {vs : List Value} {n : Nat} {m₀ : Str → Option Value} {news : List (Addr × Obj)} (xs : List Str)
    (J : List (Addr × Obj) → Nat → List (Option Value) → List (Addr × Obj) → Prop)
    (hh : A.handled = none) (F : Fr h₀ env.locals s.heap m₀) (N : News h₀ env.locals s.heap news) (hm : (ax, lo) ∈ news) (hc : lo.cls = .type "list") (hd : lo.data = .seq vs.toArray n)
    (hJk : ∀ i m nx, J news i m nx → (ax, lo) ∈ nx) (j0 : J news 0 (xs.map m₀) news)
    (turn : ∀ i v us nx h tk I io, vs[i]? = some v → J news i us nx → io.cls = .type "list_iterator" → (∀ p ∈ nx, p.1 ≠ I) → Fr h₀ env.locals h (updL m₀ (xs.zip us)) → News h₀ env.locals h ((I, io) :: nx) →
      wpAny (model prog w) A (assign target env v) (fun _ s₂ => wpAny (model prog w) A (execs body env) (TPost h₀ env.locals { s with heap := h, toks := tk } [(I, io)] (JM m₀ xs (J news (i + 1))) Q) E s₂) E { s with heap := h, toks := tk })
    (done : ∀ us nx h tk, J news vs.length us nx → Fr h₀ env.locals h (updL m₀ (xs.zip us)) → News h₀ env.locals h nx → Q .next { s with heap := h, toks := tk }) :
    wpAny (model prog w) A (pyIter (.ref ax)) (fun it s₂ => TurnsAt prog w A h₀ env target body Q E it s₂) E s :=
  iter_listJ hh F N hm hc hd (fun i => JM m₀ xs (J news i)) (fun i m nx h => hJk _ _ _ h.2) ⟨fun _ _ => rfl, j0⟩
    (fun i v m₁ nx h tk I io hv hJ hio hI F₁ N₁ => turn i v _ nx h tk I io hv hJ.2 hio hI (by rw [← updL_eq hJ.1]; exact F₁) N₁)
    (fun m' nx h tk hJ F₁ N₁ => done _ nx h tk hJ.2 (by rw [← updL_eq hJ.1]; exact F₁) N₁)

theorem iter_enumM {elts : List Expr} {k : Nat} {pos : Pos} {l : Addr} {lo : Obj} {vs : List Value} {n : Nat} {m₀ : Str → Option Value} {news : List (Addr × Obj)} (xs : List Str)
    (J : List (Addr × Obj) → Nat → List (Option Value) → List (Addr × Obj) → Prop)
    (hh : A.handled = none) (F : Fr h₀ env.locals s.heap m₀) (N : News h₀ env.locals s.heap news) (hm : (l, lo) ∈ news) (hc : lo.cls = .type "list") (hd : lo.data = .seq vs.toArray n)
    (hJk : ∀ i m nx, J news i m nx → (l, lo) ∈ nx) (j0 : J news 0 (xs.map m₀) news)
    (turn : ∀ (i : Nat) x t T us nx h tk I io I' io', vs[i]? = some x → IsTup h T #[.int (i : Int) t, x] → J news i us nx → io.cls = .type "enumerate" → io'.cls = .type "list_iterator" → (∀ p ∈ nx, p.1 ≠ I) → (∀ p ∈ nx, p.1 ≠ I') → Fr h₀ env.locals h (updL m₀ (xs.zip us)) → News h₀ env.locals h ((I, io) :: (I', io') :: nx) →
      wpAny (model prog w) A (assign (.Tuple elts k pos) env (.ref T)) (fun _ s₂ => wpAny (model prog w) A (execs body env) (TPost h₀ env.locals { s with heap := h, toks := tk } [(I, io), (I', io')] (JM m₀ xs (J news (i + 1))) Q) E s₂) E { s with heap := h, toks := tk })
    (done : ∀ us nx h tk, J news vs.length us nx → Fr h₀ env.locals h (updL m₀ (xs.zip us)) → News h₀ env.locals h nx → Q .next { s with heap := h, toks := tk }) :
    wpAny (model prog w) A (call (.type "enumerate") [.ref l]) (fun xv s₁ => wpAny (model prog w) A (pyIter xv) (fun it s₂ => TurnsAt prog w A h₀ env (.Tuple elts k pos) body Q E it s₂) E s₁) E s :=
  iter_enumJ hh F N hm hc hd (fun i => JM m₀ xs (J news i)) (fun i m nx h => hJk _ _ _ h.2) ⟨fun _ _ => rfl, j0⟩
    (fun i x t T m₁ nx h tk I io I' io' hv hT hJ hio hio' hI hI' F₁ N₁ => turn i x t T _ nx h tk I io I' io' hv hT hJ.2 hio hio' hI hI' (by rw [← updL_eq hJ.1]; exact F₁) N₁)
    (fun m' nx h tk hJ F₁ N₁ => done _ nx h tk hJ.2 (by rw [← updL_eq hJ.1]; exact F₁) N₁)
end

end
section
open PySem PySem.W PySem.Calls PyProof.Rows
noncomputable abbrev en (w : World) (n : String) (t : Tok) (v : Value) : DictEntry := ⟨PyData.keyHash w.params (Str.ofString n), .str (Str.ofString n) t, v⟩
noncomputable abbrev tupOf (vs : Array Value) : Obj := { cls := .type "tuple", data := .seq vs }
/-- an empty dict of the call's own -/
noncomputable def Emp (w : World) (d : Addr) (o : Obj) : Prop := (d == sysModules) = false ∧ o.IsDictOf (PySem.strKind pw w) [] ∧ PyProof.V.FlatPairs PyData.str [] [] ∧ o.IsDictOf (intKind pw w) [] ∧ PyProof.V.FlatPairs PyData.int [] []
noncomputable def DProg (w : World) (nm : Str) (data files : Addr) (ini : Bool) (o : Obj) : Prop := ∃ (k0 v0 k1 k2 k3 k4 : Tok), o = dictOf [en w "name" k0 (.str nm v0), en w "data" k1 (.ref data), en w "files" k2 (.ref files), en w "procedures" k3 (.none), en w "is_initial" k4 (.bool ini)] 5
noncomputable def DData (w : World) (wl ll df sl ix : Addr) (z : Int) (o : Obj) : Prop := ∃ (k0 k1 k2 k3 k4 v4 k5 : Tok), o = dictOf [en w "working" k0 (.ref wl), en w "linkage" k1 (.ref ll), en w "files" k2 (.ref df), en w "sorts" k3 (.ref sl), en w "size" k4 (.int z v4), en w "indexes" k5 (.ref ix)] 6
noncomputable def DItem (w : World) (vt cl kl sh : Addr) (z : Int) (o : Obj) : Prop := ∃ (k0 v0 k1 v1 k2 k3 v3 k4 v4 k5 k6 k7 v7 k8 k9 k10 k11 k12 k13 k14 k15 v15 k16 v16 k17 v17 k18 : Tok), o = dictOf [en w "level" k0 (.int 1 v0), en w "name" k1 (.str (Str.ofString "R") v1), en w "picture_text" k2 (.none), en w "usage" k3 (.str (Str.ofString "") v3), en w "sign" k4 (.str (Str.ofString "") v4), en w "is_separate" k5 (.bool false), en w "occurs" k6 (.none), en w "redefines" k7 (.str (Str.ofString "") v7), en w "value" k8 (.ref vt), en w "is_justified" k9 (.bool false), en w "is_blank_zero" k10 (.bool false), en w "conditions" k11 (.ref cl), en w "kids" k12 (.ref kl), en w "parent" k13 (.none), en w "renames" k14 (.none), en w "base" k15 (.str (Str.ofString "") v15), en w "offset" k16 (.int 0 v16), en w "size" k17 (.int z v17), en w "shape" k18 (.ref sh)] 19
noncomputable def DShape (w : World) (z : Int) (o : Obj) : Prop := ∃ (k0 v0 k1 v1 k2 k3 v3 k4 v4 k5 k6 k7 k8 v8 k9 v9 k10 : Tok), o = dictOf [en w "category" k0 (.str (Str.ofString "alphanumeric") v0), en w "size" k1 (.int z v1), en w "picture" k2 (.none), en w "usage" k3 (.str (Str.ofString "display") v3), en w "sign" k4 (.str (Str.ofString "trailing") v4), en w "is_separate" k5 (.bool false), en w "is_justified" k6 (.bool false), en w "is_blank_zero" k7 (.bool false), en w "digits" k8 (.int 0 v8), en w "scale" k9 (.int 0 v9), en w "is_signed" k10 (.bool false)] 11
noncomputable def DWorld (w : World) (p : Addr) (shelf : Str) (rows told mem hn op : Addr) (orow : Array UInt8) (o : Obj) : Prop := ∃ (ix lk so : Addr) (k0 k1 v1 k2 k3 k4 k5 k6 k7 k8 k9 v9 k10 : Tok), o = dictOf [en w "program" k0 (.ref p), en w "shelf" k1 (.str shelf v1), en w "rows" k2 (.ref rows), en w "told_rows" k3 (.ref told), en w "memory" k4 (.ref mem), en w "indexes" k5 (.ref ix), en w "links" k6 (.ref lk), en w "handles" k7 (.ref hn), en w "open_paths" k8 (.ref op), en w "open_row" k9 (.bytes orow v9), en w "sorts" k10 (.ref so)] 11

/-- the data of a program: one record R of b's octets, b its first worth -/
structure DataAt (w : World) (nx : List (Addr × Obj)) (D : Addr) (b : Array UInt8) : Prop where
  ex : ∃ (dd wl ll df sl ix it di vt cl kl sh ds : Addr) (od odf oix oit osh : Obj) (t1 t2 : Tok),
    ((D, instObj 288 dd) ∈ nx ∧ (dd, od) ∈ nx ∧ DData w wl ll df sl ix b.size od) ∧
    ((wl, listOf #[.ref it] 0) ∈ nx ∧ (ll, listOf #[] 0) ∈ nx ∧ (sl, listOf #[] 0) ∈ nx ∧ (df, odf) ∈ nx ∧ Emp w df odf ∧ (ix, oix) ∈ nx ∧ Emp w ix oix) ∧
    ((it, instObj 262 di) ∈ nx ∧ (di, oit) ∈ nx ∧ DItem w vt cl kl sh b.size oit) ∧
    ((vt, tupOf #[.str (Str.ofString "text") t1, .bytes b t2]) ∈ nx ∧ (cl, listOf #[] 0) ∈ nx ∧ (kl, listOf #[] 0) ∈ nx) ∧
    ((sh, instObj 500 ds) ∈ nx ∧ (ds, osh) ∈ nx ∧ DShape w b.size osh)
/-- a program -/
structure ProgAt (w : World) (nx : List (Addr × Obj)) (p : Addr) (b : Array UInt8) (ini : Bool) : Prop where
  ex : ∃ (dp D fl : Addr) (op ofl : Obj) (nm : Str), ((p, instObj 953 dp) ∈ nx ∧ (dp, op) ∈ nx ∧ DProg w nm D fl ini op) ∧ ((fl, ofl) ∈ nx ∧ Emp w fl ofl) ∧ DataAt w nx D b
/-- a world: its own dict told with what may change in it -/
noncomputable def WorldAt (w : World) (nx : List (Addr × Obj)) (x dx p : Addr) (shelf : Str) (rows told mem hn op : Addr) (orow : Array UInt8) : Prop :=
  (x, instObj 806 dx) ∈ nx ∧ (∃ od, (dx, od) ∈ nx ∧ DWorld w p shelf rows told mem hn op orow od) ∧ ∃ ohn, (hn, ohn) ∈ nx ∧ Emp w hn ohn
theorem DataAt.sub {w : World} {nx nx' : List (Addr × Obj)} {D : Addr} {b : Array UInt8} (k : ∀ p ∈ nx, p ∈ nx') (x : DataAt w nx D b) : DataAt w nx' D b := by
  obtain ⟨dd, wl, ll, df, sl, ix, it, di, vt, cl, kl, sh, ds, od, odf, oix, oit, osh, t1, t2, ⟨a1, a2, a3⟩, ⟨b1, b2, b3, b4, b5, b6, b7⟩, ⟨c1, c2, c3⟩, ⟨d1, d2, d3⟩, e1, e2, e3⟩ := x
  exact ⟨dd, wl, ll, df, sl, ix, it, di, vt, cl, kl, sh, ds, od, odf, oix, oit, osh, t1, t2, ⟨k _ a1, k _ a2, a3⟩, ⟨k _ b1, k _ b2, k _ b3, k _ b4, b5, k _ b6, b7⟩, ⟨k _ c1, k _ c2, c3⟩, ⟨k _ d1, k _ d2, k _ d3⟩, k _ e1, k _ e2, e3⟩
theorem ProgAt.sub {w : World} {nx nx' : List (Addr × Obj)} {p : Addr} {b : Array UInt8} {ini : Bool} (k : ∀ p ∈ nx, p ∈ nx') (x : ProgAt w nx p b ini) : ProgAt w nx' p b ini := by
  obtain ⟨dp, D, fl, op, ofl, nm, ⟨a1, a2, a3⟩, ⟨b1, b2⟩, c⟩ := x
  exact ⟨dp, D, fl, op, ofl, nm, ⟨k _ a1, k _ a2, a3⟩, ⟨k _ b1, b2⟩, c.sub k⟩

end
section
open PySem PySem.W PySem.Calls PyProof.Rows PyProof.V PySem.Spec
theorem picked_whole (b : Array UInt8) : KBy.picked b none (some (b.size : Int)) = b := by
  rw [KBc.picked_eq]
  show ((b.toList.drop 0).take (clipAt b.size (b.size : Int) - 0)).toArray = b
  rw [clipAt_nat, Nat.min_self, List.drop_zero, Nat.sub_zero, List.take_of_length_le (by simp), Array.toArray_toList]
section
variable {prog : Program} {w : World} {A : Around} {E : Value → Shared → Prop} {s : Shared} {value slice : PySem.Expr} {b : Array UInt8} {t u : Tok} {h₀ : Heap} {L : Addr} {m : PySem.Str → Option Value} {news : List (Addr × Obj)} {n : Int} {Q : Value → Shared → Prop}
theorem slice_whole (hF : Fr h₀ L s.heap m) (hN : News h₀ L s.heap news) (hn : n = b.size) (hz : b.size ≤ 16777216)
    (h : ∀ h' t' k, Fr h₀ L h' m → News h₀ L h' news → Q (.bytes b t') { s with heap := h', toks := k })
    (hs : subscripted slice false (.bytes b t) (.ref s.heap.objs.size) = operate [.ref s.heap.objs.size, .bytes b t] (getItem (.bytes b t) (.ref s.heap.objs.size)) := by with_unfolding_all rfl)
    (ht : ∀ r, letTemporaryGo value (.bytes b t) r = pure () := by intro _; with_unfolding_all rfl) :
    wpAny (model prog w) A (subscriptTail value slice (.bytes b t) (.ref s.heap.objs.size)) Q E { s with heap := s.heap.push { cls := .type "slice", data := .fields #[.none, .int n u, .none] } } := by
  subst hn
  refine KBc.slice_K hF hN (ks := KBw.bInts b) rfl .none (.int _ _) (by rw [KBw.ints_length]; exact hz) (fun h' t' k F' N' _ => ?_) hs ht
  rw [picked_whole]
  exact h h' t' k F' N'
theorem mul_nought {c : UInt8} (hn : n = 0) (h : ∀ t' k, Q (.bytes #[] t') { s with toks := k }) : wpAny (model prog w) A (binaryOp .Mult (.bytes #[c] t) (.int n u)) Q E s := by
  subst hn
  exact bytes_mul_any (b := [c]) (by simp) (by decide) (by decide) (by simp) h
theorem add_nought (hz : b.size ≤ 16777216) (h : ∀ t' k, Q (.bytes b t') { s with toks := k }) : wpAny (model prog w) A (binaryOp .Add (.bytes b t) (.bytes #[] u)) Q E s :=
  KBy.add_bytes (by simpa using hz) fun t' k => by
    have := h t' k
    simpa using this
end

end
section
open PySem PySem.W PySem.Calls PyProof.Rows PyProof.V PySem.Spec
/-! A logic for contexts that hold no bytearray: bytearray's making asks the stack, and wpAny speaks of all stacks. -/
noncomputable def decs : List String := Builtin.Bytes.decodersThatHold ++ ["bytearray.__contains__", "bytearray.__mod__", "bytearray.__rmod__", "_struct.pack_into.held", "bytearray.find.held"]
noncomputable def isDec : Code → Bool
  | .builtin id _ => decs.contains id
  | _ => false
noncomputable def NoDec (l : List (Code × Pos)) : Prop := ∀ x ∈ l, isDec x.1 = false
noncomputable def wpP {α : Type} (M : Model) (A : Around) (t : Sem α) (Q : α → Shared → Prop) (E : Value → Shared → Prop) (s : Shared) : Prop :=
  ∀ Γ p, Γ.In A → isDec Γ.code = false → NoDec Γ.below → Sem.wp M Γ t (fun a _ s' => Q a s') (fun e _ s' => E e s') p s
noncomputable def codeP (M : Model) (A : Around) (c : Code) (R : Result → Shared → Prop) (s : Shared) : Prop :=
  ∀ Γ p, Γ.code = c → Γ.Below A → NoDec Γ.below → wpCode M Γ R p s
theorem NoDec.push {c : Code} {p : Pos} {l : List (Code × Pos)} (h1 : isDec c = false) (h2 : NoDec l) : NoDec ((c, p) :: l) := fun x hx => by
  rcases List.mem_cons.mp hx with rfl | hx
  · exact h1
  · exact h2 x hx
section
variable {α β : Type} {M : Model} {A : Around} {E : Value → Shared → Prop} {s : Shared}
theorem wpP_of {t : Sem α} {Q : α → Shared → Prop} (h : wpAny M A t Q E s) : wpP M A t Q E s := fun Γ p hΓ _ _ => h Γ p hΓ
theorem codeP_of {c : Code} {R : Result → Shared → Prop} (h : codeAny M A c R s) : codeP M A c R s := fun Γ p hc hΓ _ => h Γ p hc hΓ
theorem wpP_mono {t : Sem α} {Q Q' : α → Shared → Prop} {E' : Value → Shared → Prop} (h : wpP M A t Q E s) (hQ : ∀ a s, Q a s → Q' a s) (hE : ∀ e s, E e s → E' e s) : wpP M A t Q' E' s :=
  fun Γ p hΓ h1 h2 => Sem.wp_mono M Γ t (fun a _ s => hQ a s) (fun e _ s => hE e s) p s (h Γ p hΓ h1 h2)
theorem codeP_mono {c : Code} {R R' : Result → Shared → Prop} (h : codeP M A c R s) (hR : ∀ r s, R r s → R' r s) : codeP M A c R' s := fun Γ p hc hΓ hn => wpCode_mono hR (h Γ p hc hΓ hn)
theorem wpP_bind {m : Sem α} {f : α → Sem β} {Q : β → Shared → Prop} (h : wpP M A m (fun a s' => wpP M A (f a) Q E s') E s) : wpP M A (m >>= f) Q E s := fun Γ p hΓ h1 h2 => by
  rw [Sem.wp_bind']
  exact Sem.wp_mono M Γ m (fun a p' s' h' => h' Γ p' hΓ h1 h2) (fun _ _ _ h' => h') p s (h Γ p hΓ h1 h2)
theorem wpP_bindA {m : Sem α} {f : α → Sem β} {Q : β → Shared → Prop} (h : wpAny M A m (fun a s' => wpP M A (f a) Q E s') E s) : wpP M A (m >>= f) Q E s := wpP_bind (wpP_of h)
theorem wpP_onRaise {m : Sem α} {k : Value → Sem Unit} {Q : α → Shared → Prop}
    (h : wpP M A m Q (fun e s' => wpAny M A (k e) (fun _ s'' => E e s'') E s') s) : wpP M A (m.onRaise k) Q E s := fun Γ p hΓ h1 h2 => by
  rw [Sem.wp_onRaise]
  exact Sem.wp_mono M Γ m (fun _ _ _ h' => h') (fun e p' s' h' => h' Γ p' hΓ) p s (h Γ p hΓ h1 h2)
theorem wpP_holding {vs : List Value} {m : Sem α} {Q : α → Shared → Prop} (h : wpP M A m Q E s) : wpP M A (holding vs m) Q E s := fun Γ p hΓ h1 h2 => by rw [Sem.wp_holding]; exact h Γ p hΓ h1 h2
theorem wpP_runValue {c : Code} {Q : Value → Shared → Prop} (hc : codeP M A c (fun r s' => match r with | .ok (.ret v) => Q v s' | .ok _ => False | .error e => E e s') s) : wpP M A (runValue c) Q E s :=
  fun Γ p hΓ h1 h2 => by rw [Sem.wp_runValue]; exact hc _ p rfl (hΓ.enter c none p (by intro x; cases x)) (NoDec.push h1 h2)
theorem wpP_call {f : Value} {pos : List Value} {kw : List (Str × Value)} {Q : Value → Shared → Prop}
    (hc : codeP M A (.call f ⟨pos, kw⟩) (fun r s' => match r with | .ok (.ret v) => Q v s' | .ok _ => False | .error e => E e s') s) : wpP M A (call f pos kw) Q E s := wpP_runValue hc
theorem wpP_run {c : Code} {h : Option Value} {Q : Flow → Shared → Prop}
    (hc : codeP M (A.mark h) c (fun r s' => match r with | .ok f => Q f s' | .error e => E e s') s) (hnb : h ≠ some byPass := by intro x; cases x) : wpP M A (run c h) Q E s :=
  fun Γ p hΓ h1 h2 => by rw [Sem.wp_run]; exact hc _ p rfl (hΓ.enter c h p hnb) (NoDec.push h1 h2)
theorem wpP_runOwn {env : Env} {c : Code} {h : Option Value} {Q : Flow → Shared → Prop}
    (hc : codeP M (A.mark h) c (fun r s' => match r with | .ok f => Q f s' | .error e => cameBackBy M A env E e s') s) (hnb : h ≠ some byPass := by intro x; cases x) : wpP M A (runOwn c env h) Q E s := by
  unfold runOwn
  exact wpP_onRaise (wpP_run hc hnb)
theorem codeP_treeA {c : Code} {R : Result → Shared → Prop}
    (h : wpAny M (A.under c) (M.den c) (fun fin s' => match fin with | .done f => R (.ok f) s' | .again c' => c'.quiet = true ∧ codeP M A c' R s') (fun e s' => R (.error e) s') s) : codeP M A c R s := fun Γ p hc hΓ hn => by
  rw [wpCode_iff_wp, hc]
  refine Sem.wp_mono M Γ _ (fun fin p' s' h' => ?_) (fun _ _ _ h' => h') p s (h Γ p (hc ▸ hΓ.in))
  cases fin with
  | done f => exact h'
  | again c' => exact ⟨h'.1, h'.2 (Γ.goto c') p' rfl (hΓ.goto c') hn⟩
theorem codeP_tree {c : Code} {R : Result → Shared → Prop} (hd : isDec c = false)
    (h : wpP M (A.under c) (M.den c) (fun fin s' => match fin with | .done f => R (.ok f) s' | .again c' => c'.quiet = true ∧ codeP M A c' R s') (fun e s' => R (.error e) s') s) : codeP M A c R s := fun Γ p hc hΓ hn => by
  rw [wpCode_iff_wp, hc]
  refine Sem.wp_mono M Γ _ (fun fin p' s' h' => ?_) (fun _ _ _ h' => h') p s (h Γ p (hc ▸ hΓ.in) (hc ▸ hd) hn)
  cases fin with
  | done f => exact h'
  | again c' => exact ⟨h'.1, h'.2 (Γ.goto c') p' rfl (hΓ.goto c') hn⟩
/-- a loop that goes on with its own code, or with another -/
theorem codeP_loop {c : Code} {R : Result → Shared → Prop} (hq : c.quiet = true) (hd : isDec c = false) (hu : A.under c = A) (I : Nat → Shared → Prop)
    (turn : ∀ n s, I n s → wpP M A (M.den c) (fun fin s' => match fin with
      | .done f => R (.ok f) s'
      | .again c' => (c' = c ∧ ∃ m, m < n ∧ I m s') ∨ (c'.quiet = true ∧ codeP M A c' R s')) (fun e s' => R (.error e) s') s)
    (n : Nat) (h : I n s) : codeP M A c R s := by
  induction n using Nat.strongRecOn generalizing s with
  | ind n ih =>
    refine codeP_tree hd ?_
    rw [hu]
    refine wpP_mono (turn n s h) (fun fin s' hf => ?_) fun _ _ x => x
    cases fin with
    | done f => exact hf
    | again c' =>
      rcases hf with ⟨rfl, m, hm, hI⟩ | hf
      · exact ⟨hq, ih m hm hI⟩
      · exact hf
end
section
variable {M : Model} {A : Around} {E : Value → Shared → Prop} {s : Shared} {env : Env}
theorem wpP_execs_nil {Q : Flow → Shared → Prop} (h : Q .next s) : wpP M A (execs [] env) Q E s := wpP_of (wpAny_execs_nil h)
theorem wpP_execs_cons {st rest} {Q : Flow → Shared → Prop} (h : wpP M A (exec st env) (fun f s' => match f with | .next => wpP M A (execs rest env) Q E s' | f => Q f s') E s) : wpP M A (execs (st :: rest) env) Q E s := by
  rw [execs_cons]
  refine wpP_bind (wpP_mono h (fun f s' h' => ?_) fun _ _ x => x)
  cases f <;> first | exact h' | exact wpP_of (wpAny_pure h')
theorem wpP_execs_leaf {st rest} {Q : Flow → Shared → Prop} (h : wpAny M A (exec st env) (fun f s' => match f with | .next => wpP M A (execs rest env) Q E s' | f => Q f s') E s) : wpP M A (execs (st :: rest) env) Q E s := wpP_execs_cons (wpP_of h)
theorem wpP_Assign_Name {x pos' value pos} {Q : Flow → Shared → Prop} (h : wpP M A (eval value env) (fun v s₁ => wpAny M A (storeName env x v) (fun _ => Q .next) E s₁) E s)
    (hs : swapsWith value (some (.Name x pos')) pos.line env = pure false := by rfl) : wpP M A (exec (.Assign [.Name x pos'] value pos) env) Q E s := by
  rw [exec_Assign_Name env x pos' value pos hs]
  exact wpP_bindA (wpAny_standAt (wpP_bind (wpP_mono h (fun v s₁ h₁ => wpP_of (wpAny_bind (wpAny_standAt (wpAny_bind (wpAny_bindName (wpAny_mono h₁ (fun _ _ x => wpAny_pure x) fun _ _ x => x)))))) fun _ _ x => x)))
theorem wpP_Assign_Attribute {o attr pos' value pos} {Q : Flow → Shared → Prop} (h : wpP M A (eval value env) (fun v s₁ => wpAny M A (eval o env) (fun ov s₂ => wpAny M A (setAttr ov attr v) (fun _ => Q .next) E s₂) E s₁) E s)
    (hs : swapsWith value (some (.Attribute o attr pos')) pos.line env = pure false := by rfl) : wpP M A (exec (.Assign [.Attribute o attr pos'] value pos) env) Q E s := fun Γ p hΓ h1 h2 => by
  simp only [plainObj_exec_Assign_Attribute o attr pos' value pos hs, assign_Attribute, Sem.wp_bind', Sem.wp_holding, Sem.wp_cmd_standAt, Sem.wp_release, Sem.wp_pure']
  exact Sem.wp_mono M Γ _ (fun v p₁ s₁ q₁ => Sem.wp_mono M Γ _ (fun ov _ s₂ q₂ => q₂ Γ _ hΓ) (fun _ _ _ h' => h') _ _ (q₁ Γ p₁ hΓ)) (fun _ _ _ h' => h') _ _ (h Γ _ hΓ h1 h2)
/-- a store under an index: the value may be made by a call of the spine, and so may the store -/
theorem wpP_Assign_Subscript {o i pos' value pos} {Q : Flow → Shared → Prop}
    (h : wpP M A (eval value env) (fun v s₁ => wpAny M A (eval o env) (fun ov s₂ => wpAny M A (eval i env) (fun iv s₃ => wpP M A (setItem ov iv v) (fun _ => Q .next) E s₃) E s₂) E s₁) E s)
    (hs : swapsWith value (some (.Subscript o i pos')) pos.line env = pure false := by rfl) : wpP M A (exec (.Assign [.Subscript o i pos'] value pos) env) Q E s := fun Γ p hΓ h1 h2 => by
  simp only [exec_Assign_Subscript o i pos' value pos hs, assign_Subscript, Sem.wp_bind', Sem.wp_holding, Sem.wp_cmd_standAt, Sem.wp_release, Sem.wp_pure']
  exact Sem.wp_mono M Γ _ (fun v p₁ s₁ q₁ => Sem.wp_mono M Γ _ (fun ov p₂ s₂ q₂ => Sem.wp_mono M Γ _ (fun iv _ s₃ q₃ => q₃ Γ _ hΓ h1 h2) (fun _ _ _ h' => h') _ _ (q₂ Γ p₂ hΓ)) (fun _ _ _ h' => h') _ _ (q₁ Γ p₁ hΓ)) (fun _ _ _ h' => h') _ _ (h Γ _ hΓ h1 h2)
theorem wpP_Expr {e pos} {Q : Flow → Shared → Prop} (h : wpP M A (eval e env) (fun v s' => match v with | .ref _ => False | _ => Q .next s') E s)
    (hi : interactive env = false := by rfl) (hs : swapsWith e none pos.line env = pure false := by rfl) : wpP M A (exec (.Expr e pos) env) Q E s := by
  rw [exec_Expr env e pos hi hs]
  refine wpP_bindA (wpAny_standAt (wpP_bind (wpP_mono h (fun v s' h' => ?_) fun _ _ x => x)))
  have hv : ∀ a, v ≠ .ref a := fun a hva => by subst hva; exact h'
  rw [dropValue_plain hv]
  refine wpP_of (wpAny_pure ?_)
  cases v <;> first | exact h' | exact (hv _ rfl).elim
theorem wpP_If {test body orelse pos} {Q : Flow → Shared → Prop} (h : wpP M A (isTrue test env (eval test env)) (fun b s₂ => if b then wpP M A (execs body env) Q E s₂ else wpP M A (execs orelse env) Q E s₂) E s) :
    wpP M A (exec (.If test body orelse pos) env) Q E s := by
  rw [exec_If]
  refine wpP_bindA (wpAny_standAt (wpP_bind (wpP_mono h (fun b s₂ h₂ => ?_) fun _ _ x => x)))
  cases b <;> exact h₂
theorem wpP_isTrue_not {x pos whole} {Q : Bool → Shared → Prop} (h : wpP M A (isTrue x env (eval x env)) (fun c s' => Q (!c) s') E s) : wpP M A (isTrue (.UnaryOp .Not x pos) env whole) Q E s := by
  show wpP M A (do return !(← isTrue x env (eval x env))) Q E s
  exact wpP_bind (wpP_mono h (fun c s' h' => wpP_of (wpAny_pure h')) fun _ _ x => x)
theorem wpP_isTrue_plain {e : Expr} {whole : Sem Value} {Q : Bool → Shared → Prop} (h : wpP M A whole (fun v s₁ => wpAny M A (truthy v) Q E s₁) E s)
    (he : isTrue e env whole = (do let v ← whole; standAt e.pos; holding [v] (truthy v)) := by rfl) : wpP M A (isTrue e env whole) Q E s := by
  rw [he]
  exact wpP_bind (wpP_mono h (fun v s₁ h₁ => wpP_of (wpAny_bind (wpAny_standAt (wpAny_holding h₁)))) fun _ _ x => x)
theorem wpP_Return_some {e pos} {Q : Flow → Shared → Prop} (h : wpP M A (eval e env) (fun v => Q (.ret v)) E s) : wpP M A (exec (.Return (some e) pos) env) Q E s := by
  rw [exec_Return_some]
  exact wpP_bindA (wpAny_standAt (wpP_bind (wpP_mono h (fun v s' h' => wpP_of (wpAny_pure h')) fun _ _ x => x)))
theorem wpP_Assign_Tuple {elts k tpos value pos} {Q : Flow → Shared → Prop}
    (h : wpP M A (eval value env) (fun v s₁ => wpAny M A (assign (.Tuple elts k tpos) env v) (fun _ => Q .next) E s₁) E s)
    (hs : swapsWithSole [.Tuple elts k tpos] value pos.line env = pure false := by rfl)
    (hw : swappedStores [.Tuple elts k tpos] value env = pure none := by rfl) : wpP M A (exec (.Assign [.Tuple elts k tpos] value pos) env) Q E s := by
  rw [exec_Assign]
  refine wpP_bindA (wpAny_standAt ?_)
  rw [hs]
  refine wpP_bindA (wpAny_pure ?_)
  rw [if_neg (by decide)]
  refine wpP_bind (wpP_mono h (fun v s₁ h₁ => wpP_of ?_) fun _ _ x => x)
  rw [hw]
  refine wpAny_bind (wpAny_pure ?_)
  show wpAny M A (do assignAll v [assign (.Tuple elts k tpos) env]; pure .next) Q E s₁
  exact wpAny_bind (wpAny_mono h₁ (fun _ _ x => wpAny_pure x) fun _ _ x => x)
theorem wpP_Assign_Tuple_swapped {elts k tpos value pos} {names : List Str} {Q : Flow → Shared → Prop}
    (h : wpP M A (eval value env) (fun v s₁ => wpAny M A (unpackItems v names.length none) (fun items s₂ =>
      wpAny M A (assignInOrder (names.reverse.map fun n => bindName env n) items.reverse) (fun _ => Q .next) E s₂) E s₁) E s)
    (hs : swapsWithSole [.Tuple elts k tpos] value pos.line env = pure false := by rfl)
    (hw : swappedStores [.Tuple elts k tpos] value env = pure (some names) := by rfl) : wpP M A (exec (.Assign [.Tuple elts k tpos] value pos) env) Q E s := by
  rw [exec_Assign]
  refine wpP_bindA (wpAny_standAt ?_)
  rw [hs]
  refine wpP_bindA (wpAny_pure ?_)
  rw [if_neg (by decide)]
  refine wpP_bind (wpP_mono h (fun v s₁ h₁ => wpP_of ?_) fun _ _ x => x)
  rw [hw]
  refine wpAny_bind (wpAny_pure ?_)
  show wpAny M A (do rule "assign.swapped-stores"; let items ← unpackItems v names.length none; assignInOrder (names.reverse.map fun n => bindName env n) items.reverse; pure .next) Q E s₁
  exact wpAny_bind (wpAny_rule (wpAny_bind (wpAny_mono h₁ (fun items s₂ h₂ => wpAny_bind (wpAny_mono h₂ (fun _ _ x => wpAny_pure x) fun _ _ x => x)) fun _ _ x => x)))
theorem wpP_spliced_nil {Q : List Value → Shared → Prop} (h : Q [] s) : wpP M A (spliced []) Q E s := wpP_of (spliced_nil h)
theorem wpP_spliced_cons {x : Sem Value} {rest : List (Bool × Sem Value)} {Q : List Value → Shared → Prop}
    (h : wpP M A x (fun v s₁ => wpP M A (spliced rest) (fun vs s₂ => Q (v :: vs) s₂) E s₁) E s) : wpP M A (spliced ((false, x) :: rest)) Q E s := by
  rw [spliced]
  refine wpP_bind (wpP_mono h (fun v s₁ h₁ => ?_) fun _ _ x => x)
  simp only [Bool.false_eq_true, if_false]
  exact wpP_bindA (wpAny_pure (wpP_bind (wpP_holding (wpP_mono h₁ (fun vs s₂ h₂ => wpP_of (wpAny_pure h₂)) fun _ _ x => x))))
theorem wpP_Tuple {elts : List Expr} {k : Nat} {pos : Pos} {Q : Value → Shared → Prop}
    (h : wpP M A (spliced (backTo pos (starEach elts env))) (fun vs s₁ => wpAny M A (newTuple vs) Q E s₁) E s) : wpP M A (eval (.Tuple elts k pos) env) Q E s := by
  show wpP M A (do standAt pos; newTuple (← spliced (backTo pos (starEach elts env)))) Q E s
  exact wpP_bindA (wpAny_standAt (wpP_bind (wpP_mono h (fun _ _ x => wpP_of x) fun _ _ x => x)))
theorem wpP_Call {func : Expr} {args : List Expr} {pos : Pos} {Q : Value → Shared → Prop}
    (h : wpAny M A (eval func env) (fun f s₁ => wpP M A (callWith pos f [] (backTo pos (starEach args env)) []) Q E s₁) E s)
    (he : eval (.Call func args [] pos) env = (do callWith pos (← eval func env) [] (backTo pos (starEach args env)) (backToKw pos (keywordEach [] env))) := by rfl) :
    wpP M A (eval (.Call func args [] pos) env) Q E s := by
  rw [he]; exact wpP_bindA h
theorem wpP_evalArgs {f : Value} {x : Sem Value} {rest : List (Bool × Sem Value)} {Q : Args → Shared → Prop}
    (h : wpP M A (spliced ((false, x) :: rest)) (fun vs s' => Q ⟨vs, []⟩ s') E s) : wpP M A (evalArgs f true ((false, x) :: rest) []) Q E s := by
  unfold evalArgs
  show wpP M A (spliced ((false, x) :: rest) >>= _) Q E s
  refine wpP_bind (wpP_mono h (fun vs s' h' => wpP_of ?_) fun _ _ x => x)
  refine wpAny_holding ?_
  exact wpAny_bind (wpAny_pure (wpAny_bind (wpAny_pure (wpAny_pure h'))))
theorem wpP_callWith {f : Value} {pos : Pos} {first : List Value} {Q : Value → Shared → Prop} {P : Heap → Prop} {args : List (Bool × Sem Value)} (hplain : args.any (·.1) = false)
    (hk : ∀ h, P h → ∃ k, (k = Keeper.frame ∨ k = Keeper.machine) ∧ Looks M h (keeperOf f) k)
    (h : wpP M A (evalArgs f true args []) (fun a s₁ => P s₁.heap ∧ wpP M A (call f (first ++ a.pos) a.kw) Q E s₁) E s) : wpP M A (callWith pos f first args []) Q E s := by
  unfold callWith
  refine wpP_bind (wpP_holding (wpP_mono h (fun a s₁ h₁ => wpP_bindA (wpAny_standAt ?_)) fun _ _ x => x))
  obtain ⟨k, hk', L⟩ := hk _ h₁.1
  simp only [hplain, List.any_nil, Bool.or_false]
  refine wpP_bindA (L.here ?_)
  have tail : ∀ {t : Sem Value}, wpP M A t Q E s₁ → wpP M A (t >>= fun r => holding [r] point >>= fun _ => pure r) Q E s₁ :=
    fun ht => wpP_bind (wpP_mono ht (fun r s₂ hr => wpP_of (wpAny_bind (wpAny_holding (wpAny_point (wpAny_pure hr))))) fun _ _ x => x)
  have marked (mk : Value) : wpP M A (callMarked mk f (first ++ a.pos) a.kw) Q E s₁ := fun Γ p hΓ h1 h2 => by
    unfold callMarked
    rw [Sem.wp_keep]
    exact h₁.2 Γ p hΓ h1 h2
  rcases hk' with rfl | rfl <;> dsimp only <;> first | exact tail h₁.2 | (split <;> first | exact tail h₁.2 | exact tail (marked _))
theorem wpP_callWith_K {K : Frag} {f : Value} {pos : Pos} {first : List Value} {h₀ : Heap} {e : Expr} {rest : List Expr} {Q : Value → Shared → Prop} (_X : K.In h₀) (hk : keepIn K f = true)
    (h : wpP M A (spliced (backTo pos (starEach (e :: rest) env))) (fun vs s₁ => K.In s₁.heap ∧ wpP M A (call f (first ++ vs)) Q E s₁) E s)
    (he : starEach (e :: rest) env = (false, eval e env) :: starEach rest env := by rfl) (hplain : (backTo pos (starEach rest env)).any (·.1) = false := by rfl) :
    wpP M A (callWith pos f first (backTo pos (starEach (e :: rest) env)) []) Q E s := by
  rw [he] at h ⊢
  exact wpP_callWith (P := K.In) (by show (false || (backTo pos (starEach rest env)).any (·.1)) = false; rw [hplain]; rfl) (fun h X => looks_keep hk X) (wpP_evalArgs h)
theorem wpP_callWith_T {T : String} {pos : Pos} {first : List Value} {e : Expr} {rest : List Expr} {Q : Value → Shared → Prop}
    (h : wpP M A (spliced (backTo pos (starEach (e :: rest) env))) (fun vs s₁ => wpP M A (call (.type T) (first ++ vs)) Q E s₁) E s)
    (he : starEach (e :: rest) env = (false, eval e env) :: starEach rest env := by rfl) (hplain : (backTo pos (starEach rest env)).any (·.1) = false := by rfl) :
    wpP M A (callWith pos (.type T) first (backTo pos (starEach (e :: rest) env)) []) Q E s := by
  rw [he] at h ⊢
  exact wpP_callWith (P := fun _ => True) (by show (false || (backTo pos (starEach rest env)).any (·.1)) = false; rw [hplain]; rfl) (fun h _ => ⟨.machine, .inr rfl, Looks.of_pure rfl⟩) (wpP_evalArgs (wpP_mono h (fun _ _ x => And.intro trivial x) fun _ _ x => x))
end
section
variable {prog : Program} {w : World} {A A₀ : Around} {s : Shared} {base h₀ : Heap} {outer : List Env} {L : Addr} {m mg mb : Str → Option Value} {env : Env} {news : List (Addr × Obj)} {K : Frag} {p : Program} {loose : List Str} {mean : ExcName → Option Value}
  {R : Result → Shared → Prop} {name qual : Str} {params : Arguments} {body : List Stmt} {scope : Scope} {dV kV doc pm cdv ct oc : Value} {an od : Option Addr} {osl : Array (Option Value)} {f : Addr} {args : Args} {binds : List (Str × Value)}
theorem codeP_func {body env}
    (h : wpP (model prog w) (A.deeper env) (execs body env) (fun f s' => R (.ok (.ret (match f with | .ret v => v | _ => .none))) s')
      (fun e s' => wpAny (model prog w) (A.deeper env) (leaving env e) (fun _ s'' => R (.error e) s'') (fun e' s'' => R (.error e') s'') s') s) : codeP (model prog w) A (.func body env) R s := by
  refine codeP_tree rfl ?_
  show wpP _ (A.deeper env) (do point; match ← (execs body env).onRaise (leaving env) with | .ret v => ret v | _ => ret .none) _ _ s
  refine wpP_bindA (wpAny_point (wpP_bind (wpP_onRaise (wpP_mono h (fun f s' h' => wpP_of ?_) fun _ _ h' => h'))))
  cases f <;> exact wpAny_pure h'
theorem codeP_call_function {a : Addr} {args : Args} {o : Obj} {fd : FuncData} {body : List Stmt} (hroom : A.depth < recursionLimit) (ho : s.heap.get? a = some o)
    (hd' : o.data = .func fd) (hco : fd.scope.isCoroutine = false) (hgen : fd.scope.isGenerator = false) (hbody : fd.body = .stmts body) (hcd : s.heap.CodeRec fd.code fd.qualname)
    (h : wpAny (model prog w) A.in1 (bindArgs fd args) (fun binds s₁ =>
      wpAny (model prog w) A.in1 (newFunctionEnv fd.scope fd.globals fd.closure binds (fd.qualname ++ ".<locals>.") (some a) fd.code none fd.builtins)
        (fun env s₂ => s₂.heap.NoLimit ∧ codeP (model prog w) A (.func body env) R s₂) (fun e s' => R (.error e) s') s₁) (fun e s' => R (.error e) s') s) : codeP (model prog w) A (.call (.ref a) args) R s := by
  refine codeP_treeA ?_
  show wpAny _ A.in1 (callAny (.ref a) args) _ _ s
  simp only [callAny]
  refine wpAny_bind (wpAny_load ho ?_)
  obtain ⟨c, oc, vs, tq, hc, hoc, hdc, hq⟩ := hcd
  simp only [hd', callFunction, hco, hgen, hbody, hc]
  rw [hc] at h
  refine wpAny_bind (m := field (.ref c) 1) (wpAny_field hoc hdc hq (wpAny_bind (wpAny_pure ?_)))
  exact wpAny_bind (wpAny_mono h (fun binds s₁ h₁ => wpAny_bind (wpAny_mono h₁ (fun env s₂ h₂ => wpAny_bind (wpAny_enterFrame h₂.1 hroom (wpAny_pure (And.intro rfl h₂.2)))) fun _ _ h' => h')) fun _ _ h' => h')
theorem codeP_def (B : Below A₀ base outer h₀) (F : Fr h₀ L s.heap m) (X₀ : K.In h₀) (N : News h₀ L s.heap news) (T : Top p loose mean mg mb h₀) (hA : A.frames = some (env :: outer)) (hf : env.frame = some L) (hke : env.scope.kind = .function)
    (ho : K.lookup f = some ⟨oc, od, .func (fnOf name qual params body scope dV kV doc pm an cdv ct), osl⟩) (hcd : codeIn K cdv qual = true) (hroom : A.depth < recursionLimit)
    (hbind : BindsTo s (fnOf name qual params body scope dV kV doc pm an cdv ct) args binds) (hloc : ∀ y ∈ binds, scope.names.lookup y.1 = some .local)
    (h : ∀ g L' h₁, Fr h₀ L g m → Fr g L' h₁ (fun y => binds.reverse.lookup y) → News g L' h₁ news → Below A base (env :: outer) g → K.In g → Top p loose mean mg mb g → (∀ p ∈ news, p.1 < L') →
      wpP (model prog w) (A.deeper (envOf qual scope L' f cdv)) (execs body (envOf qual scope L' f cdv))
        (fun fl s' => LeaveK h₀ L m g R (match fl with | .ret v => v | _ => .none) s')
        (fun e s' => wpAny (model prog w) (A.deeper (envOf qual scope L' f cdv)) (leaving (envOf qual scope L' f cdv) e) (fun _ s'' => R (.error e) s'') (fun e' s'' => R (.error e') s'') s')
        { s with heap := h₁, toks := s.toks + binds.length })
    (hco : scope.isCoroutine = false) (hgen : scope.isGenerator = false) (hk : scope.kind = .function) (hcell : ∀ x ∈ scope.names, x.2 ≠ .cell) : codeP (model prog w) A (.call (.ref f) args) R s := by
  obtain ⟨FG, BG, st, lv⟩ := groundX (R := R) B F N hA hf hke
  refine codeP_call_function hroom ((X₀.keeps F.keep) _ _ ho) rfl hco hgen rfl (codeRec_of (X₀.keeps F.keep) hcd) (hbind _ _ _ _ ?_)
  refine wpAny_newFunctionEnv hcell hloc (fun h₁ hns hsb => ⟨(T.nolimit.keeps F.keep).fresh _ hsb, codeP_func ?_⟩) hk
  have hk₁ : ∀ b o, s.heap.get? b = some o → h₁.get? b = some o := fun b o e => hsb.extBut b o (Nat.ne_of_lt (Heap.lt_size e)) (Heap.get?_push_of_some _ e)
  exact wpP_mono (h _ s.heap.objs.size h₁ FG ⟨hns, fun b o e => hk₁ b o (of_hideAll _ e), Nat.le_of_eq (hideAll_size _ _)⟩
    (fun p hp => ⟨hk₁ _ _ (N p hp).1, Nat.ne_of_lt (Heap.lt_size (N p hp).1), hideAll_none _ (List.mem_map_of_mem hp)⟩) BG (X₀.keeps st) (T.keeps st) (fun p hp => Heap.lt_size (N p hp).1)) (fun fl s' hl => lv _ _ hl) fun _ _ y => y
theorem codeP_defC (B : Below A₀ base outer h₀) (F : Fr h₀ L s.heap m) (X₀ : K.In h₀) (N : News h₀ L s.heap news) (T : Top p loose mean mg mb h₀) (hA : A.frames = some (env :: outer)) (hf : env.frame = some L) (hke : env.scope.kind = .function)
    (ho : K.lookup f = some ⟨oc, od, .func (fnOf name qual params body scope dV kV doc pm an cdv ct), osl⟩) (hcd : codeIn K cdv qual = true) (hroom : A.depth < recursionLimit)
    (hbind : BindsTo s (fnOf name qual params body scope dV kV doc pm an cdv ct) args binds) (hkind : (binds.all fun y => scope.names.lookup y.1 == some .local || scope.names.lookup y.1 == some .cell) = true)
    (hnd : ((cellsFrom 0 scope.names []).map (·.1)).Nodup)
    (h : ∀ g L' h₁ tk cells, Fr h₀ L g m → Fr g L' h₁ (bindL (envOfC qual scope L' f cdv).kindOf binds fun _ => none) → News g L' h₁ (cells ++ news) →
      CellsAre (bindC (envOfC qual scope L' f cdv).kindOf binds fun _ => none) (cellsFrom (L' + 1) scope.names []) cells → Below A base (env :: outer) g → K.In g → Top p loose mean mg mb g → (∀ p ∈ news, p.1 < L') →
      wpP (model prog w) (A.deeper (envOfC qual scope L' f cdv)) (execs body (envOfC qual scope L' f cdv))
        (fun fl s' => LeaveK h₀ L m g R (match fl with | .ret v => v | _ => .none) s')
        (fun e s' => wpAny (model prog w) (A.deeper (envOfC qual scope L' f cdv)) (leaving (envOfC qual scope L' f cdv) e) (fun _ s'' => R (.error e) s'') (fun e' s'' => R (.error e') s'') s')
        { s with heap := h₁, toks := tk })
    (hco : scope.isCoroutine = false) (hgen : scope.isGenerator = false) (hk : scope.kind = .function) : codeP (model prog w) A (.call (.ref f) args) R s := by
  obtain ⟨FG, BG, st, lv⟩ := groundX (R := R) B F N hA hf hke
  refine codeP_call_function hroom ((X₀.keeps F.keep) _ _ ho) rfl hco hgen rfl (codeRec_of (X₀.keeps F.keep) hcd) (hbind _ _ _ _ ?_)
  refine wpAny_newFunctionEnv_cells hk (kindsX hkind _) fun env' he s' x => ?_
  subst he
  refine ⟨(T.nolimit.keeps F.keep).keeps x.toInCall.keep, codeP_func ?_⟩
  obtain ⟨h₁, tk, rfl, _⟩ := x.done
  have hk₁ := x.toInCall.keep
  obtain ⟨cells, NC, Y⟩ := Cl.news (h₀ := s.heap) (Nat.le_refl _) fun n c hm => ⟨x.cell n c (lookup_of_mem_nodup (cellsFrom_names scope.names 0 (s.heap.objs.size + 1) [] [] rfl ▸ hnd) hm), x.above n c hm⟩
  refine wpP_mono (h _ s.heap.objs.size h₁ tk cells FG ⟨x.toInCall.ns, fun b o e => hk₁ b o (of_hideAll _ e), Nat.le_of_eq (hideAll_size _ _)⟩ (fun p hp => ?_) Y BG (X₀.keeps st) (T.keeps st) (fun p hp => Heap.lt_size (N p hp).1)) (fun fl s' hl => lv _ _ hl) fun _ _ y => y
  rcases List.mem_append.mp hp with hp | hp
  · refine ⟨(NC p hp).1, (NC p hp).2.1, ?_⟩
    cases q : (hideAll s.heap (news.map (·.1))).get? p.1 with
    | none => rfl
    | some o => have := of_hideAll _ q; rw [(NC p hp).2.2] at this; cases this
  · exact ⟨hk₁ _ _ (N p hp).1, Nat.ne_of_lt (Heap.lt_size (N p hp).1), hideAll_none _ (List.mem_map_of_mem hp)⟩
end

end
section
open PySem PySem.W PySem.Calls PyProof.Rows PyProof.V PySem.Spec
section
variable {prog : Program} {w : World} {A : Around} {E : Value → Shared → Prop} {s : Shared} {env : Env} {h₀ : Heap} {target : Expr} {body : List Stmt} {Q : Flow → Shared → Prop} {R : Result → Shared → Prop}
theorem codeP_forLoop {it : Value} {orelse : List Stmt} (I : Nat → Shared → Prop)
    (turn : ∀ n s, I n s → wpAny (model prog w) A (pyNext it) (fun r s₁ => match r with
      | none => wpAny (model prog w) A (execs orelse env) (fun f s₃ => R (.ok f) s₃) (notedBy (model prog w) A env fun e s' => R (.error e) s') s₁
      | some v => wpAny (model prog w) A (letOwnedTupleGo target it v) (fun _ s₁' =>
          wpAny (model prog w) A (assign target env v) (fun _ s₂ => wpP (model prog w) A (execs body env) (fun f s₃ => match f with
            | .next | .cont => ∃ m, m < n ∧ I m s₃
            | .brk => R (.ok .next) s₃
            | .ret v => R (.ok (.ret v)) s₃) (notedBy (model prog w) A env fun e s' => R (.error e) s') s₂) (notedBy (model prog w) A env fun e s' => R (.error e) s') s₁') (notedBy (model prog w) A env fun e s' => R (.error e) s') s₁) (notedBy (model prog w) A env fun e s' => R (.error e) s') s)
    (n : Nat) (h : I n s) : codeP (model prog w) A (.forLoop target it body orelse env) R s := by
  refine codeP_loop rfl rfl (Around.under_of_weight rfl) I (fun n s hI => ?_) n h
  show wpP _ A ((forTurn target it body orelse env).onRaise (fun x => do noteFrame x env; theTreesLotGoes x)) _ _ s
  refine wpP_onRaise (E := fun e s' => R (.error e) s') (wpP_mono (Q := fun fin s' => match fin with
      | .done f => R (.ok f) s'
      | .again c' => (c' = .forLoop target it body orelse env ∧ ∃ m, m < n ∧ I m s') ∨ (c'.quiet = true ∧ codeP (model prog w) A c' R s')) (E := notedBy (model prog w) A env fun e s' => R (.error e) s') ?_ (fun _ _ x => x) fun _ _ hx => wpAny_bind (wpAny_mono hx (fun _ _ e => wpAny_theTreesLotGoes e) fun _ _ e => e))
  simp only [forTurn]
  refine wpP_bindA (wpAny_standAt (wpP_bindA (wpAny_onRaise (wpAny_mono (turn n s hI) (fun r s₁ h₁ => ?_) fun _ _ h' => wpAny_standAt h'))))
  cases r with
  | none => exact wpP_of (wpAny_pure (.inr ⟨rfl, codeP_of (codeAny_block h₁)⟩))
  | some v =>
    refine wpP_bindA (wpAny_mono h₁ (fun _ s₁' h₁' => ?_) fun _ _ h' => h')
    refine wpP_bindA (wpAny_mono h₁' (fun _ s₂ h₂ => wpP_bind (wpP_mono h₂ (fun f s₃ h₃ => ?_) fun _ _ h' => h')) fun _ _ h' => h')
    cases f with
    | next => exact wpP_of (wpAny_pure (.inl ⟨rfl, h₃⟩))
    | cont => exact wpP_of (wpAny_pure (.inl ⟨rfl, h₃⟩))
    | brk => exact wpP_of (wpAny_pure h₃)
    | ret v => exact wpP_of (wpAny_pure h₃)

theorem loopP {I : Addr} {fp wr : List Addr} {n : Nat} {P Md : Nat → Value → Heap → Prop} {St : Nat → Heap → Prop} {m : Str → Option Value} {news : List (Addr × Obj)} (W : KTurns prog w A target I fp wr n P Md St)
    (hLf : env.locals ∉ fp) (hwr : ∀ b ∈ wr, h₀.get? b = none) (hnw : ∀ p ∈ news, p.1 ∉ wr) (hst : St 0 s.heap) (F : Fr h₀ env.locals s.heap m) (N : News h₀ env.locals s.heap news)
    (J : Nat → (Str → Option Value) → List (Addr × Obj) → Prop) (h0 : J 0 m news)
    (step : ∀ i v m₁ news₁ h₁ tk₁ own, i < n → P i v h₁ → J i m₁ news₁ → (∀ p ∈ news₁, p.1 ∉ wr) → (∀ p ∈ own, p.1 ∈ fp) → (∀ p ∈ own, h₁.get? p.1 = some p.2) → (∀ b ∈ fp, h₀.get? b = none → ∀ o, h₁.get? b = some o → (b, o) ∈ own) → St (i + 1) h₁ →
      Fr h₀ env.locals h₁ m₁ → News h₀ env.locals h₁ (own ++ news₁) →
      wpAny (model prog w) A (assign target env v) (fun _ s₂ => wpP (model prog w) A (execs body env)
        (LoopStepV h₀ env.locals wr own (J (i + 1)) { s with heap := h₁, toks := tk₁ } (fun v s' => R (.ok (.ret v)) s') fun s' => R (.ok .next) s') (notedBy (model prog w) A env fun e s' => R (.error e) s') s₂) (notedBy (model prog w) A env fun e s' => R (.error e) s') { s with heap := h₁, toks := tk₁ })
    (hR : ∀ h' tk m' news', Fr h₀ env.locals h' m' → News h₀ env.locals h' news' → (∀ p ∈ news', p.1 ∉ wr) → J n m' news' → R (.ok .next) { s with heap := h', toks := tk }) :
    codeP (model prog w) A (.forLoop target (.ref I) body [] env) R s := by
  have old : ∀ b o, h₀.get? b = some o → b ∉ wr := fun b o e hb => by rw [hwr b hb] at e; cases e
  refine codeP_forLoop
    (fun k s' => ∃ h' tk m' news' i, s' = { s with heap := h', toks := tk } ∧ St i h' ∧ Fr h₀ env.locals h' m' ∧ News h₀ env.locals h' news' ∧ (∀ p ∈ news', p.1 ∉ wr) ∧ J i m' news' ∧ i ≤ n ∧ k = n + 1 - i) ?_ (n + 1)
    ⟨s.heap, s.toks, m, news, 0, rfl, hst, F, N, hnw, h0, Nat.zero_le _, rfl⟩
  rintro k s' ⟨h', tk, m', news', i, rfl, hst', F', N', hnw', hJ, hi, rfl⟩
  have hLw : env.locals ∉ wr := fun h => hLf (W.sub _ h)
  have next : ∀ h₁ : Heap, (∀ b o, b ∉ wr → h'.get? b = some o → h₁.get? b = some o) → Fr h₀ env.locals h₁ m' ∧ News h₀ env.locals h₁ news' := fun h₁ hk₁ =>
    ⟨⟨F'.ns.at' fun o e => hk₁ _ o hLw e, fun b o e => hk₁ b o (old b o e) (F'.keep b o e), F'.above⟩, fun p hp => ⟨hk₁ _ _ (hnw' p hp) (N' p hp).1, (N' p hp).2⟩⟩
  by_cases hlt : i < n
  · refine W.item i _ _ _ hlt hst' fun v h₁ tk₁ hMd hk₁ => ?_
    refine W.go i v _ _ _ hMd fun h₂ hP hst₂ hk₂ => ?_
    obtain ⟨F₂, N₂⟩ := next h₂ fun b o hb x => hk₂ b o hb (hk₁ b o hb x)
    have Nown : News h₀ env.locals h₂ (PyProof.Rows.ownOf h₀ fp h₂) := news_ownOf hLf
    have end_ : ∀ s₃, LoopStepU h₀ env.locals wr (PyProof.Rows.ownOf h₀ fp h₂) (J (i + 1)) { s with heap := h₂, toks := tk₁ } .next s₃ → ∃ m, m < n + 1 - i ∧ ∃ h' tk m' news' i, s₃ = { s with heap := h', toks := tk } ∧ St i h' ∧ Fr h₀ env.locals h' m' ∧ News h₀ env.locals h' news' ∧ (∀ p ∈ news', p.1 ∉ wr) ∧ J i m' news' ∧ i ≤ n ∧ m = n + 1 - i := by
      rintro s₃ ⟨_, h₃', tk₃, m₂, news₂, rfl, F₃, N₃, ha₃, hJ₃⟩
      refine ⟨n + 1 - (i + 1), by omega, h₃', tk₃, m₂, news₂, i + 1, rfl, ?_, F₃, N₃.right, ha₃, hJ₃, hlt, rfl⟩
      refine W.frame _ _ _ hst₂ fun b hb o e => ?_
      cases hn : h₀.get? b with
      | some o₀ =>
        have : o₀ = o := by have q := F₂.keep b o₀ hn; rw [e] at q; exact (Option.some.inj q).symm
        exact this ▸ F₃.keep b o₀ hn
      | none => exact (N₃ _ (List.mem_append_left _ (mem_ownOf hb hn e))).1
    refine wpAny_mono (step i v m' news' h₂ tk₁ (PyProof.Rows.ownOf h₀ fp h₂) hlt hP hJ hnw' ownOf_sub (fun p hp => (Nown p hp).1) (fun b hb hn o e => mem_ownOf hb hn e) hst₂ F₂ (Nown.append N₂)) (fun _ s₂ h₂' => wpP_mono h₂' (fun f s₃ h₃ => ?_) fun _ _ e => e) fun _ _ e => e
    cases f with
    | ret v => exact h₃
    | brk => exact h₃
    | cont => exact end_ s₃ h₃
    | next => exact end_ s₃ h₃
  · have hin : i = n := by omega
    subst hin
    refine W.done _ _ _ hst' fun h₁ tk₁ hk₁ => wpAny_execs_nil ?_
    obtain ⟨F₁, N₁⟩ := next h₁ hk₁
    exact hR h₁ tk₁ m' news' F₁ N₁ hnw' hJ

noncomputable def TurnsP (prog : Program) (w : World) (A : Around) (h₀ : Heap) (env : Env) (target : Expr) (body : List Stmt) (Q : Flow → Shared → Prop) (E : Value → Shared → Prop) (it : Value) (s₂ : Shared) : Prop :=
  ∃ (I : Addr) (fp wr : List Addr) (n : Nat) (P Md : Nat → Value → Heap → Prop) (St : Nat → Heap → Prop) (m : Str → Option Value) (news : List (Addr × Obj)) (J : Nat → (Str → Option Value) → List (Addr × Obj) → Prop),
    it = .ref I ∧ KTurns prog w A target I fp wr n P Md St ∧ env.locals ∉ fp ∧ (∀ b ∈ wr, h₀.get? b = none) ∧ (∀ p ∈ news, p.1 ∉ wr) ∧ St 0 s₂.heap ∧ Fr h₀ env.locals s₂.heap m ∧ News h₀ env.locals s₂.heap news ∧ J 0 m news ∧
    (∀ i v m₁ news₁ h₁ tk₁ own, i < n → P i v h₁ → J i m₁ news₁ → (∀ p ∈ news₁, p.1 ∉ wr) → (∀ p ∈ own, p.1 ∈ fp) → (∀ p ∈ own, h₁.get? p.1 = some p.2) → (∀ b ∈ fp, h₀.get? b = none → ∀ o, h₁.get? b = some o → (b, o) ∈ own) → St (i + 1) h₁ →
      Fr h₀ env.locals h₁ m₁ → News h₀ env.locals h₁ (own ++ news₁) →
      wpAny (model prog w) A (assign target env v) (fun _ s₃ => wpP (model prog w) A (execs body env)
        (LoopStepV h₀ env.locals wr own (J (i + 1)) { s₂ with heap := h₁, toks := tk₁ } (fun v s' => Q (.ret v) s') fun s' => Q .next s') E s₃) E { s₂ with heap := h₁, toks := tk₁ }) ∧
    ∀ h' tk m' news', Fr h₀ env.locals h' m' → News h₀ env.locals h' news' → (∀ p ∈ news', p.1 ∉ wr) → J n m' news' → Q .next { s₂ with heap := h', toks := tk }

theorem For_P {iter : Expr} {pos : Pos} {m : Str → Option Value} (_F : Fr h₀ env.locals s.heap m)
    (h : wpAny (model prog w) A (eval iter env) (fun xv s₁ => wpAny (model prog w) A (pyIter xv) (fun it s₂ => TurnsP prog w A h₀ env target body Q E it s₂) E s₁) E s)
    (hs : ∀ x, foldedSetIterable iter env x = pure x := by intro _; rfl)
    (hE : PassesOwn (model prog w) A env E := by passes_own) : wpP (model prog w) A (exec (.For target iter body [] pos) env) Q E s := by
  rw [exec_For]
  refine wpP_bindA (wpAny_standAt (wpP_bindA (wpAny_mono h (fun x s₁ h₁ => wpP_bindA (wpAny_of_eq (hs x) (wpP_bindA (wpAny_standAt (wpP_bindA (wpAny_holding
    (wpAny_mono h₁ (fun it s₂ h₂ => wpP_runOwn ?_) fun _ _ h' => h'))))))) fun _ _ h' => h')))
  obtain ⟨I, fp, wr, n, P, Md, St, m, news, J, rfl, W, hLf, hwr, hnw, hst, F, N, h0, step, hQ⟩ := h₂
  exact loopP (R := fun r s' => match r with | .ok f => Q f s' | .error e => cameBackBy (model prog w) A env E e s') W hLf hwr hnw hst F N J h0
    (fun i v m₁ news₁ h₁ tk₁ own a b c d e f g st F₁ N₁ => wpAny_mono (step i v m₁ news₁ h₁ tk₁ own a b c d e f g st F₁ N₁) (fun _ _ x => wpP_mono x (fun _ _ y => y) hE) hE) hQ

theorem turns_coreP {I : Addr} {fp wr : List Addr} {n : Nat} {P Md : Nat → Value → Heap → Prop} {St : Nat → Heap → Prop} {ws : List (Addr × String)} {keep : List (Addr × Obj)} {m₀ : Str → Option Value} {news : List (Addr × Obj)} {hp : Heap} {tk0 : Nat}
    (W : KTurns prog w A target I fp wr n P Md St)
    (hobj : ∀ i h, St i h → ∃ its, Objs ws its ∧ ∀ p ∈ its, h.get? p.1 = some p.2)
    (hws : ∀ b ∈ ws.map (·.1), b ∈ fp ∧ h₀.get? b = none) (hwr : ∀ b ∈ wr, b ∈ ws.map (·.1)) (hww : ∀ b ∈ ws.map (·.1), b ∈ wr)
    (hfp : ∀ b ∈ fp, b ∈ ws.map (·.1) ∨ ∃ o, (b, o) ∈ keep) (hL : env.locals ∉ fp) (hnw : ∀ p ∈ news, p.1 ∉ wr) (hst : St 0 hp)
    (F : Fr h₀ env.locals hp m₀) (N : News h₀ env.locals hp news) (J : Nat → (Str → Option Value) → List (Addr × Obj) → Prop)
    (hJk : ∀ i m nx, J i m nx → ∀ p ∈ keep, p ∈ nx) (j0 : J 0 m₀ news)
    (turn : ∀ i v m₁ nx h tk its, i < n → P i v h → J i m₁ nx → Objs ws its → (∀ p ∈ nx, ∀ q ∈ its, p.1 ≠ q.1) → Fr h₀ env.locals h m₁ → News h₀ env.locals h (its ++ nx) →
      wpAny (model prog w) A (assign target env v) (fun _ s₂ => wpP (model prog w) A (execs body env) (TPost h₀ env.locals { s with heap := h, toks := tk } its (J (i + 1)) Q) E s₂) E { s with heap := h, toks := tk })
    (done : ∀ m' nx h tk, J n m' nx → Fr h₀ env.locals h m' → News h₀ env.locals h nx → Q .next { s with heap := h, toks := tk }) :
    TurnsP prog w A h₀ env target body Q E (.ref I) { s with heap := hp, toks := tk0 } := by
  refine ⟨I, fp, wr, n, P, Md, St, m₀, news, J, rfl, W, hL, fun b hb => (hws b (hwr b hb)).2, hnw, hst, F, N, j0, ?_, ?_⟩
  · intro i v m₁ news₁ h₁ tk₁ own hin hPi hJ hoff hown hget hall hst₁ F₁ N₁
    obtain ⟨its, hits, hval⟩ := hobj (i + 1) h₁ hst₁
    have hmap := hits.map
    have N₂ : News h₀ env.locals h₁ (its ++ news₁) := fun p hp => by
      rcases List.mem_append.mp hp with hp | hp
      · have h1 : p.1 ∈ ws.map (·.1) := by rw [← hmap]; exact List.mem_map.mpr ⟨p, hp, rfl⟩
        exact N₁ _ (List.mem_append_left _ (hall p.1 (hws _ h1).1 (hws _ h1).2 p.2 (hval p hp)))
      · exact N₁ _ (List.mem_append_right _ hp)
    have hoff' : ∀ p ∈ news₁, ∀ q ∈ its, p.1 ≠ q.1 := fun p hp q hq e => hoff p hp (by
      rw [e]; exact hww _ (by rw [← hmap]; exact List.mem_map.mpr ⟨q, hq, rfl⟩))
    have fin : ∀ s₃, TEnd h₀ env.locals { s with heap := h₁, toks := tk₁ } its (J (i + 1)) s₃ →
        LoopStepU h₀ env.locals wr own (J (i + 1)) { s with heap := h₁, toks := tk₁ } .next s₃ := by
      rintro s₃ ⟨h', tk, m', all, nx, e, F', N', hi, hnx, ho, r⟩
      refine ⟨rfl, h', tk, m', nx, e, F', ?_, ?_, r⟩
      · rintro ⟨pa, po⟩ hp
        rcases List.mem_append.mp hp with hp | hp
        · have h2 : h₁.get? pa = some po := hget _ hp
          rcases hfp pa (hown _ hp) with h3 | ⟨o, h3⟩
          · have h4 : pa ∈ its.map (·.1) := by rw [hmap]; exact h3
            obtain ⟨⟨qa, qo⟩, hq, hqe⟩ := List.mem_map.mp h4
            have hqe' : qa = pa := hqe
            subst hqe'
            have h5 : h₁.get? qa = some qo := hval _ hq
            have h6 : qo = po := Option.some.inj (h5.symm.trans h2)
            subst h6
            exact N' _ (hi _ hq)
          · have h4 : h₁.get? pa = some o := (N₁ _ (List.mem_append_right _ (hJk _ _ _ hJ _ h3))).1
            have h6 : o = po := Option.some.inj (h4.symm.trans h2)
            subst h6
            exact N' _ (hnx _ (hJk _ _ _ r _ h3))
        · exact N' _ (hnx _ hp)
      · intro p hp hI
        have h4 : p.1 ∈ its.map (·.1) := by rw [hmap]; exact hwr _ hI
        obtain ⟨q, hq, hqe⟩ := List.mem_map.mp h4
        exact ho p hp q hq hqe.symm
    refine wpAny_mono (turn i v m₁ news₁ h₁ tk₁ its hin hPi hJ hits hoff' F₁ N₂) (fun _ s₂ h₂ => wpP_mono h₂ (fun f s₃ p => ?_) fun _ _ e => e) fun _ _ e => e
    cases f with
    | ret v => exact .ret p
    | brk => exact .brk p
    | next => exact .next (fin _ p)
    | cont => exact .cont (fin _ p)
  · intro h' tk m' news' F' N' _ hJ
    exact done m' news' h' tk hJ F' N'


theorem iter_listJP {ax : Addr} {lo : Obj} {vs : List Value} {n : Nat} {m₀ : Str → Option Value} {news : List (Addr × Obj)}
    (hh : A.handled = none) (F : Fr h₀ env.locals s.heap m₀) (N : News h₀ env.locals s.heap news) (hm : (ax, lo) ∈ news) (hc : lo.cls = .type "list") (hd : lo.data = .seq vs.toArray n)
    (J : Nat → (Str → Option Value) → List (Addr × Obj) → Prop) (hJk : ∀ i m nx, J i m nx → (ax, lo) ∈ nx) (j0 : J 0 m₀ news)
    (turn : ∀ i v m₁ nx h tk I io, vs[i]? = some v → J i m₁ nx → io.cls = .type "list_iterator" → (∀ p ∈ nx, p.1 ≠ I) → Fr h₀ env.locals h m₁ → News h₀ env.locals h ((I, io) :: nx) →
      wpAny (model prog w) A (assign target env v) (fun _ s₂ => wpP (model prog w) A (execs body env) (TPost h₀ env.locals { s with heap := h, toks := tk } [(I, io)] (J (i + 1)) Q) E s₂) E { s with heap := h, toks := tk })
    (done : ∀ m' nx h tk, J vs.length m' nx → Fr h₀ env.locals h m' → News h₀ env.locals h nx → Q .next { s with heap := h, toks := tk }) :
    wpAny (model prog w) A (pyIter (.ref ax)) (fun it s₂ => TurnsP prog w A h₀ env target body Q E it s₂) E s := by
  have hax := N _ hm
  have hl : s.heap.IsList ax vs.toArray := ⟨lo, hax.1, hc, n, hd⟩
  have hlt : ax < s.heap.objs.size := Heap.lt_size hax.1
  have hne : ax ≠ s.heap.objs.size := Nat.ne_of_lt hlt
  refine wpAny_pyIter_list hl ?_
  refine turns_coreP (tk0 := s.toks) (ws := [(s.heap.objs.size, "list_iterator")]) (keep := [(ax, lo)]) (KTurns.ofWalks (Walks.list hh s.heap.objs.size ax hne vs.toArray) fun i v s Q E st q => letGo_listiter st.1 q) (fun i h st => ?_) (fun b hb => ?_) (fun b hb => by simpa using hb) (fun b hb => by simpa using hb) (fun b hb => ?_) ?_ (fun p hp hI => ?_) ?_ (F.push _) (fun p hp => ⟨Heap.get?_push_of_some _ (N p hp).1, (N p hp).2⟩) J ?_ j0 ?_ ?_
  · obtain ⟨it, hit, hic, _⟩ := st.1
    exact ⟨[(s.heap.objs.size, it)], ⟨⟨rfl, hic⟩, trivial⟩, fun p hp => by rw [List.mem_singleton.mp hp]; exact hit⟩
  · have hb' : b = s.heap.objs.size := by simpa using hb
    rw [hb']
    exact ⟨List.mem_cons_self .., next_is_new F⟩
  · have hb' : b = s.heap.objs.size ∨ b = ax := by simpa using hb
    rcases hb' with e | e
    · exact .inl (by simp [e])
    · exact .inr ⟨lo, by simp [e]⟩
  · intro hI
    rcases List.mem_cons.mp hI with e | hI
    · exact absurd F.ns.lt (e ▸ Nat.lt_irrefl _)
    · exact hax.2.1 (List.mem_singleton.mp hI).symm
  · exact absurd (Heap.lt_size (N p hp).1) ((List.mem_singleton.mp hI) ▸ Nat.lt_irrefl _)
  · exact ⟨⟨_, Heap.get?_push_size _ rfl, rfl, rfl⟩, hl.at fun o e => Heap.get?_push_of_some _ e⟩
  · intro i m nx hJ p hp
    rw [List.mem_singleton.mp hp]
    exact hJk i m nx hJ
  · intro i v m₁ nx h tk its hin hP hJ hits hoff F₁ N₁
    obtain ⟨io, rfl, hio⟩ := objs_one hits
    refine turn i v m₁ nx h tk _ io ?_ hJ hio (fun p hp => hoff p hp _ (List.mem_singleton.mpr rfl)) F₁ N₁
    have hp' : vs.toArray[i]? = some v := hP
    simpa using hp'
  · intro m' nx h tk hJ
    exact done m' nx h tk (by simpa using hJ)


theorem iter_enumJP {elts : List Expr} {k : Nat} {pos : Pos} {l : Addr} {lo : Obj} {vs : List Value} {n : Nat} {m₀ : Str → Option Value} {news : List (Addr × Obj)}
    (hh : A.handled = none) (F : Fr h₀ env.locals s.heap m₀) (N : News h₀ env.locals s.heap news) (hm : (l, lo) ∈ news) (hc : lo.cls = .type "list") (hd : lo.data = .seq vs.toArray n)
    (J : Nat → (Str → Option Value) → List (Addr × Obj) → Prop) (hJk : ∀ i m nx, J i m nx → (l, lo) ∈ nx) (j0 : J 0 m₀ news)
    (turn : ∀ (i : Nat) x t T m₁ nx h tk I io I' io', vs[i]? = some x → IsTup h T #[.int (i : Int) t, x] → J i m₁ nx → io.cls = .type "enumerate" → io'.cls = .type "list_iterator" → (∀ p ∈ nx, p.1 ≠ I) → (∀ p ∈ nx, p.1 ≠ I') → Fr h₀ env.locals h m₁ → News h₀ env.locals h ((I, io) :: (I', io') :: nx) →
      wpAny (model prog w) A (assign (.Tuple elts k pos) env (.ref T)) (fun _ s₂ => wpP (model prog w) A (execs body env) (TPost h₀ env.locals { s with heap := h, toks := tk } [(I, io), (I', io')] (J (i + 1)) Q) E s₂) E { s with heap := h, toks := tk })
    (done : ∀ m' nx h tk, J vs.length m' nx → Fr h₀ env.locals h m' → News h₀ env.locals h nx → Q .next { s with heap := h, toks := tk }) :
    wpAny (model prog w) A (call (.type "enumerate") [.ref l]) (fun xv s₁ => wpAny (model prog w) A (pyIter xv) (fun it s₂ => TurnsP prog w A h₀ env (.Tuple elts k pos) body Q E it s₂) E s₁) E s := by
  have hax := N _ hm
  have hl : s.heap.IsList l vs.toArray := ⟨lo, hax.1, hc, n, hd⟩
  have hlt : l < s.heap.objs.size := Heap.lt_size hax.1
  have hLs : env.locals < s.heap.objs.size := F.ns.lt
  refine call_enumerate_list hl fun h' hE hI hsz hk => ?_
  refine wpAny_pyIter_enum hE ?_
  refine turns_coreP (tk0 := s.toks) (ws := [(s.heap.objs.size + 1, "enumerate"), (s.heap.objs.size, "list_iterator")]) (keep := [(l, lo)]) (KTurns.ofWalksU (WalksT.enumerate hh (s.heap.objs.size + 1) s.heap.objs.size l (Nat.succ_ne_self _) (ktu_ne 1 hlt) (Nat.ne_of_lt hlt) vs.toArray).toU) ?_ ?_ ?_ ?_ ?_ ?_ ?_ ?_ (F.keeps hk) (N.grown hk) J ?_ j0 ?_ ?_
  · rintro i h ⟨⟨old, he⟩, ⟨oi, hoi, hic, _⟩, _⟩
    have he' : ∃ oe : Obj, h.get? (s.heap.objs.size + 1) = some oe ∧ oe.cls = .type "enumerate" := ⟨_, he, rfl⟩
    obtain ⟨oe, h1, h2⟩ := he'
    refine ⟨[(s.heap.objs.size + 1, oe), (s.heap.objs.size, oi)], ⟨⟨rfl, h2⟩, ⟨rfl, hic⟩, trivial⟩, fun p hp => ?_⟩
    rcases List.mem_cons.mp hp with rfl | hp
    · exact h1
    · rw [List.mem_singleton.mp hp]; exact hoi
  · intro b hb
    have hb' : b = s.heap.objs.size + 1 ∨ b = s.heap.objs.size := by simpa using hb
    rcases hb' with e | e
    · subst e; exact ⟨by simp, ktu_new F (Nat.le_succ _)⟩
    · subst e; exact ⟨by simp, ktu_new F (Nat.le_refl _)⟩
  · intro b hb; simpa using hb
  · intro b hb; simpa using hb
  · intro b hb
    have hb' : b = s.heap.objs.size + 1 ∨ b = s.heap.objs.size ∨ b = l := by simpa using hb
    rcases hb' with e | e | e
    · exact .inl (by simp [e])
    · exact .inl (by simp [e])
    · exact .inr ⟨lo, by simp [e]⟩
  · intro hI'
    have hb' : env.locals = s.heap.objs.size + 1 ∨ env.locals = s.heap.objs.size ∨ env.locals = l := by simpa using hI'
    rcases hb' with e | e | e
    · exact ktu_ne 1 hLs e
    · exact Nat.ne_of_lt hLs e
    · exact hax.2.1 e.symm
  · intro p hp hI'
    have hb' : p.1 = s.heap.objs.size + 1 ∨ p.1 = s.heap.objs.size := by simpa using hI'
    have hlp := Heap.lt_size (N p hp).1
    rcases hb' with e | e
    · exact ktu_ne 1 hlp e
    · exact Nat.ne_of_lt hlp e
  · exact ⟨⟨_, hE⟩, hI, hl.at fun o e => hk _ _ e⟩
  · intro i m nx hJ p hp
    rw [List.mem_singleton.mp hp]
    exact hJk i m nx hJ
  · intro i v m₁ nx h tk its hin hP hJ hits hoff F₁ N₁
    obtain ⟨T, vals, rfl, ⟨t, x, hx, rfl⟩, hT⟩ := hP
    obtain ⟨io, io', rfl, hio, hio'⟩ := objs_two hits
    exact turn i x t T m₁ nx h tk _ io _ io' (by simpa using hx) hT hJ hio hio' (fun p hp => hoff p hp _ (List.mem_cons_self ..)) (fun p hp => hoff p hp _ (.tail _ (.head _))) F₁ N₁
  · intro m' nx h tk hJ
    exact done m' nx h tk (by simpa using hJ)


theorem iter_rangeJP {r : Addr} {a₀ b₀ : Int} {t₀ u₀ v₀ : Tok} {n : Nat} {m₀ : Str → Option Value} {news : List (Addr × Obj)}
    (hh : A.handled = none) (hr : IsRange s.heap r a₀ b₀ 1 t₀ u₀ v₀) (hsmall : Builtin.Range.small a₀ b₀ 1 = true) (hn : Builtin.Range.rangeSize a₀ b₀ 1 = (n : Int)) (F : Fr h₀ env.locals s.heap m₀) (N : News h₀ env.locals s.heap news)
    (J : Nat → (Str → Option Value) → List (Addr × Obj) → Prop) (j0 : J 0 m₀ news)
    (hgo : ∀ i v (s : Shared) (Q : Unit → Shared → Prop) (E : Value → Shared → Prop) I, IsRangeIter s.heap I (a₀ + (i : Nat) * 1) ((n : Int) - (i : Nat)) 1 → Q () s → wpAny (model prog w) A (letOwnedTupleGo target (.ref I) v) Q E s)
    (turn : ∀ (i : Nat) t m₁ nx h tk I io, i < n → J i m₁ nx → io.cls = .type "range_iterator" → (∀ p ∈ nx, p.1 ≠ I) → Fr h₀ env.locals h m₁ → News h₀ env.locals h ((I, io) :: nx) →
      wpAny (model prog w) A (assign target env (.int (a₀ + i * 1) t)) (fun _ s₂ => wpP (model prog w) A (execs body env) (TPost h₀ env.locals { s with heap := h, toks := tk } [(I, io)] (J (i + 1)) Q) E s₂) E { s with heap := h, toks := tk })
    (done : ∀ m' nx h tk, J n m' nx → Fr h₀ env.locals h m' → News h₀ env.locals h nx → Q .next { s with heap := h, toks := tk }) :
    wpAny (model prog w) A (pyIter (.ref r)) (fun it s₂ => TurnsP prog w A h₀ env target body Q E it s₂) E s := by
  refine wpAny_pyIter_range hr hsmall ?_
  refine turns_coreP (tk0 := s.toks) (ws := [(s.heap.objs.size, "range_iterator")]) (keep := []) (KTurns.ofWalks (Walks.range hh s.heap.objs.size a₀ 1 n).bound fun i v s Q E st q => hgo i v s Q E _ st q) (fun i h st => ?_) (fun b hb => ?_) (fun b hb => by simpa using hb) (fun b hb => by simpa using hb) (fun b hb => ?_) ?_ (fun p hp hI => ?_) ?_ (F.push _) (fun p hp => ⟨Heap.get?_push_of_some _ (N p hp).1, (N p hp).2⟩) J ?_ j0 ?_ ?_
  · exact ⟨[(s.heap.objs.size, _)], ⟨⟨rfl, rfl⟩, trivial⟩, fun p hp => by rw [List.mem_singleton.mp hp]; exact st⟩
  · have hb' : b = s.heap.objs.size := by simpa using hb
    rw [hb']
    exact ⟨List.mem_cons_self .., next_is_new F⟩
  · exact .inl (by simpa using hb)
  · intro hI
    exact absurd F.ns.lt ((List.mem_singleton.mp hI) ▸ Nat.lt_irrefl _)
  · exact absurd (Heap.lt_size (N p hp).1) ((List.mem_singleton.mp hI) ▸ Nat.lt_irrefl _)
  · show IsRangeIter _ _ _ _ _; rw [hn]; simpa using Heap.get?_push_size _ rfl
  · intro i m nx hJ p hp; cases hp
  · intro i v m₁ nx h tk its hin hP hJ hits hoff F₁ N₁
    obtain ⟨_, t, rfl⟩ := hP
    obtain ⟨io, rfl, hio⟩ := objs_one hits
    exact turn i t m₁ nx h tk _ io hin hJ hio (fun p hp => hoff p hp _ (List.mem_singleton.mpr rfl)) F₁ N₁
  · intro m' nx h tk hJ
    exact done m' nx h tk hJ


theorem iter_listMP {ax : Addr} {lo : Obj} {vs : List Value} {n : Nat} {m₀ : Str → Option Value} {news : List (Addr × Obj)} (xs : List Str)
    (J : List (Addr × Obj) → Nat → List (Option Value) → List (Addr × Obj) → Prop)
    (hh : A.handled = none) (F : Fr h₀ env.locals s.heap m₀) (N : News h₀ env.locals s.heap news) (hm : (ax, lo) ∈ news) (hc : lo.cls = .type "list") (hd : lo.data = .seq vs.toArray n)
    (hJk : ∀ i m nx, J news i m nx → (ax, lo) ∈ nx) (j0 : J news 0 (xs.map m₀) news)
    (turn : ∀ i v us nx h tk I io, vs[i]? = some v → J news i us nx → io.cls = .type "list_iterator" → (∀ p ∈ nx, p.1 ≠ I) → Fr h₀ env.locals h (updL m₀ (xs.zip us)) → News h₀ env.locals h ((I, io) :: nx) →
      wpAny (model prog w) A (assign target env v) (fun _ s₂ => wpP (model prog w) A (execs body env) (TPost h₀ env.locals { s with heap := h, toks := tk } [(I, io)] (JM m₀ xs (J news (i + 1))) Q) E s₂) E { s with heap := h, toks := tk })
    (done : ∀ us nx h tk, J news vs.length us nx → Fr h₀ env.locals h (updL m₀ (xs.zip us)) → News h₀ env.locals h nx → Q .next { s with heap := h, toks := tk }) :
    wpAny (model prog w) A (pyIter (.ref ax)) (fun it s₂ => TurnsP prog w A h₀ env target body Q E it s₂) E s :=
  iter_listJP hh F N hm hc hd (fun i => JM m₀ xs (J news i)) (fun i m nx h => hJk _ _ _ h.2) ⟨fun _ _ => rfl, j0⟩
    (fun i v m₁ nx h tk I io hv hJ hio hI F₁ N₁ => turn i v _ nx h tk I io hv hJ.2 hio hI (by rw [← updL_eq hJ.1]; exact F₁) N₁)
    (fun m' nx h tk hJ F₁ N₁ => done _ nx h tk hJ.2 (by rw [← updL_eq hJ.1]; exact F₁) N₁)


theorem iter_enumMP {elts : List Expr} {k : Nat} {pos : Pos} {l : Addr} {lo : Obj} {vs : List Value} {n : Nat} {m₀ : Str → Option Value} {news : List (Addr × Obj)} (xs : List Str)
    (J : List (Addr × Obj) → Nat → List (Option Value) → List (Addr × Obj) → Prop)
    (hh : A.handled = none) (F : Fr h₀ env.locals s.heap m₀) (N : News h₀ env.locals s.heap news) (hm : (l, lo) ∈ news) (hc : lo.cls = .type "list") (hd : lo.data = .seq vs.toArray n)
    (hJk : ∀ i m nx, J news i m nx → (l, lo) ∈ nx) (j0 : J news 0 (xs.map m₀) news)
    (turn : ∀ (i : Nat) x t T us nx h tk I io I' io', vs[i]? = some x → IsTup h T #[.int (i : Int) t, x] → J news i us nx → io.cls = .type "enumerate" → io'.cls = .type "list_iterator" → (∀ p ∈ nx, p.1 ≠ I) → (∀ p ∈ nx, p.1 ≠ I') → Fr h₀ env.locals h (updL m₀ (xs.zip us)) → News h₀ env.locals h ((I, io) :: (I', io') :: nx) →
      wpAny (model prog w) A (assign (.Tuple elts k pos) env (.ref T)) (fun _ s₂ => wpP (model prog w) A (execs body env) (TPost h₀ env.locals { s with heap := h, toks := tk } [(I, io), (I', io')] (JM m₀ xs (J news (i + 1))) Q) E s₂) E { s with heap := h, toks := tk })
    (done : ∀ us nx h tk, J news vs.length us nx → Fr h₀ env.locals h (updL m₀ (xs.zip us)) → News h₀ env.locals h nx → Q .next { s with heap := h, toks := tk }) :
    wpAny (model prog w) A (call (.type "enumerate") [.ref l]) (fun xv s₁ => wpAny (model prog w) A (pyIter xv) (fun it s₂ => TurnsP prog w A h₀ env (.Tuple elts k pos) body Q E it s₂) E s₁) E s :=
  iter_enumJP hh F N hm hc hd (fun i => JM m₀ xs (J news i)) (fun i m nx h => hJk _ _ _ h.2) ⟨fun _ _ => rfl, j0⟩
    (fun i x t T m₁ nx h tk I io I' io' hv hT hJ hio hio' hI hI' F₁ N₁ => turn i x t T _ nx h tk I io I' io' hv hT hJ.2 hio hio' hI hI' (by rw [← updL_eq hJ.1]; exact F₁) N₁)
    (fun m' nx h tk hJ F₁ N₁ => done _ nx h tk hJ.2 (by rw [← updL_eq hJ.1]; exact F₁) N₁)

end

end
section
open PySem PySem.W PySem.Calls PyProof.Rows PyProof.V PySem.Spec
section
variable {prog : Program} {w : World} {A : Around} {C : Addr} {R : Result → Shared → Prop} {h : Heap} {g : Array GenState} {d : Drawn} {t : Nat} {os : OsState} {s : Shared}
theorem codeP_call_builtin_at {id : String} {args : Args} {b : Builtin} (hq : (Code.builtin id args).quiet = true) (hb : entryFor table id = some b) (hd : isDec (.builtin id args) = false)
    (h : wpAny (model prog w) A.in1 (checkBuiltinCall id args) (fun _ s₁ => wpP (model prog w) (A.under (.builtin id args)) (b args)
      (fun fin s' => match fin with | .done f => R (.ok f) s' | .again c' => c'.quiet = true ∧ codeP (model prog w) A c' R s') (fun e s' => R (.error e) s') s₁)
      (fun e s' => R (.error e) s') s) : codeP (model prog w) A (.call (.builtin id) args) R s := by
  refine codeP_treeA ?_
  show wpAny _ A.in1 (do checkBuiltinCall id args; again (.builtin id args)) _ _ s
  refine wpAny_bind (wpAny_mono h (fun _ s₁ h₁ => wpAny_pure (And.intro hq (codeP_tree hd ?_))) fun _ _ h' => h')
  show wpP _ _ (match entryFor table id with | some b => b args | none => unsupported ((withoutEnding? id "#data").getD id)) _ _ s₁
  rw [hb]; exact h₁
theorem make_coreP {rest : List Value} {kw : List (Str × Value)} {init : Value} (Y : Makes (model prog w) h C) (hi : Looks (model prog w) h (typeLookup (.ref C) "__init__") (some init))
    (hb : ∀ self, Looks (model prog w) h (bindSpecial init self) (init, [self])) (hne : (some init != some (Value.builtin "object.__init__")) = true)
    (hq : codeP (model prog w) (A.under (.builtin "type.__call__" ⟨.ref C :: rest, kw⟩)) (.call init ⟨.ref (h.objs.size + 1) :: rest, kw⟩) (InitBack (h.objs.size + 1) R) ⟨(h.push emptyDict).push (instObj C h.objs.size), g, d, t, os⟩) :
    codeP (model prog w) A (.call (.ref C) ⟨rest, kw⟩) R ⟨h, g, d, t, os⟩ := by
  have Y' := Y
  obtain ⟨⟨oc, od, cd, sl, hC, e1, e2, e4⟩, made, base, self, top, call, typ⟩ := Y
  refine codeP_treeA ?_
  show wpAny _ _ (callAny (.ref C) _) _ _ _
  refine nd_load hC ?_
  show wpAny _ _ (callAny.viaDunder (.ref C) _) _ _ _
  unfold callAny.viaDunder
  refine wpAny_bind (call.at ?_)
  dsimp only
  rw [tc_bind]
  refine wpAny_bind (wpAny_pure (wpAny_bind (wpAny_pure ?_)))
  refine wpAny_pure (a := Fin.again (.call (.builtin "type.__call__") ⟨.ref C :: rest, kw⟩)) (And.intro rfl ?_)
  refine codeP_call_builtin_at (Code.quiet_builtin _ (by decide +kernel)) entry_typeCall (by show decs.contains "type.__call__" = false; decide +kernel) (check_slot tc_kind tc_split typ (tc_args _ _ _) ?_)
  unfold Builtin.«type.__call__»
  have hm : Looks (model prog w) h (mroOf (.ref C)) cd.mro := ((Looks.ld (part := none) hC).andThen .now).andThen .now
  have k : ∀ b o, h.get? b = some o → ((h.push emptyDict).push (instObj C h.objs.size)).get? b = some o := fun b o e => Heap.get?_push_of_some _ (Heap.get?_push_of_some _ e)
  have hx : ((h.push emptyDict).push (instObj C h.objs.size)).get? (h.objs.size + 1) = some (instObj C h.objs.size) := by heap_get
  have t1 : Looks (model prog w) ((h.push emptyDict).push (instObj C h.objs.size)) (typeOf (.ref (h.objs.size + 1))) (.ref C) := (Looks.ld hx).andThen .now
  have L1 : Looks (model prog w) ((h.push emptyDict).push (instObj C h.objs.size)) (isInstance (.ref (h.objs.size + 1)) (.ref C)) true := t1.andThen (self.keeps k)
  have L2 : Looks (model prog w) ((h.push emptyDict).push (instObj C h.objs.size)) (specialOf (.ref (h.objs.size + 1)) "__init__") (some init) := t1.andThen (hi.keeps k)
  have L3 := (hb (.ref (h.objs.size + 1))).keeps k
  dsimp only
  refine (show wpP _ _ (mroOf (Value.ref C) >>= _) _ _ _ from ?_)
  refine wpP_bindA (hm.here ?_)
  simp only [e4, Bool.false_eq_true, if_false]
  refine wpP_bindA (made.here ?_)
  dsimp only
  refine wpP_bindA (wpAny_pure ?_)
  refine wpP_bindA (wpAny_holding (wpAny_call (new_K Y' hi (.inl hne) ?_)))
  dsimp only
  refine wpP_bindA (L1.here ?_)
  simp only [Bool.not_true, Bool.false_eq_true, if_false]
  refine wpP_bind (wpP_holding ?_)
  unfold callSpecial?
  refine wpP_bindA (L2.here ?_)
  dsimp only
  refine wpP_holding (wpP_bindA (L3.here ?_))
  dsimp only
  refine wpP_bind (wpP_call (codeP_mono hq fun r s' z => ?_))
  rcases r with e | (v | _ | _ | _) <;> first | exact z | exact z.elim | skip
  obtain ⟨rfl, z⟩ := z
  exact wpP_of (wpAny_pure (wpP_of (wpAny_pure z)))
end
section
variable {prog : Program} {w : World} {A : Around} {K : Frag} {C : Addr} {s : Shared} {h₀ : Heap} {L : Addr} {m : Str → Option Value} {news : List (Addr × Obj)} {E : Value → Shared → Prop} {Q : Value → Shared → Prop}
theorem call_clsP {pos : List Value} {kw : List (Str × Value)} {fI : Addr} (F : Fr h₀ L s.heap m) (X₀ : K.In h₀) (N : News h₀ L s.heap news) (hm : makesIn K C = true) (hi : findIn K (.ref C) "__init__" = some (some (.ref fI))) (hf : isFn K (.ref fI) = true)
    (h : ∀ x dx h', Fr h₀ L h' m → News h₀ L h' ((x, instObj C dx) :: (dx, dictOf [] 0) :: news) → (∀ p ∈ news, p.1 < dx) → dx < x →
      codeP (model prog w) (A.under (.builtin "type.__call__" ⟨.ref C :: pos, kw⟩)) (.call (.ref fI) ⟨.ref x :: pos, kw⟩) (InitBack x fun r s' => match r with | .ok (.ret v) => Q v s' | .ok _ => False | .error e => E e s') { s with heap := h' }) :
    wpP (model prog w) A (call (.ref C) pos kw) Q E s := by
  refine wpP_call ?_
  have X := X₀.keeps F.keep
  obtain ⟨hh, g, d, t, os⟩ := s
  refine make_coreP (makes_of X hm) (looks_findIn X hi) (fun self => bind_fn X self (beq_iff_eq.mp hf)) rfl (h _ hh.objs.size _ ((F.push _).push _) ?_ (fun p hp => Heap.lt_size (N p hp).1) (Nat.lt_succ_self _))
  have := (N.push F emptyDict).push (F.push _) (instObj C hh.objs.size)
  rwa [Heap.size_push] at this
end

end
section
open PySem PySem.W PySem.Calls PyProof.Rows PyProof.V PySem.Spec
noncomputable abbrev baOf (b : Array UInt8) : Obj := { cls := .type "bytearray", data := .bytearray b }
theorem ba_mro : mroOf (.type "bytearray") = pure [.type "bytearray", .type "object"] := by rw [mroOf_type]; kernel_rfl
theorem ba_lookup_new : typeLookup (.type "bytearray") "__new__" = pure (some (.builtin "bytearray.__new__")) := by rw [typeLookup_type, builtinLookup_eq_fast]; kernel_rfl
theorem ba_slot_init : Slot "bytearray" "__init__" "bytearray.__init__" :=
  .of (owner := "bytearray") (n := "__init__") (by rw [typeLookup_type, builtinLookup_eq_fast]; kernel_rfl) (by decide +kernel) (by decide +kernel) (by decide +kernel)
    (by first | exact .inl (by decide +kernel) | exact .inr (by decide +kernel)) (by rw [isSubtype_type]; kernel_rfl)
theorem ba_sub : isSubtype (.type "bytearray") (.type "bytearray") = pure true := by rw [isSubtype_type]; kernel_rfl
theorem ba_made : Bind.madeBy (.type "bytearray") = pure (some "bytearray.__new__") := madeBy_type ba_mro ba_lookup_new (by decide +kernel)
theorem ba_typeCall (a : Value) : checkTypeCall "bytearray" ⟨[a], []⟩ = pure () := by kernel_rfl
theorem ba_newCall (a : Value) : checkBuiltinCall "bytearray.__new__" ⟨[.type "bytearray", a], []⟩ = pure () := by kernel_rfl
theorem ba_plain_new : plainId "bytearray.__new__" = true := by decide +kernel
theorem ba_plain_init : plainId "bytearray.__init__" = true := by decide +kernel
theorem ba_entry_new : entryFor table "bytearray.__new__" = some Builtin.«list.__new__» :=
  entryFor_alias (id' := "list.__new__") (by rw [fastTable_eq_tree]; kernel_rfl) (by decide +kernel) (by decide +kernel) (by rw [fastTable_eq_tree]; kernel_rfl)
theorem ba_entry_init : entryFor table "bytearray.__init__" = some Builtin.«bytearray.__init__» := entryFor_of_tree (by kernel_rfl)
theorem ba_owner : ("bytearray.__new__".splitOn ".__new__").headD "" = "bytearray" := by simp +decide [String.splitOn, String.splitOnAux]
theorem ba_args_init (a v : Value) : argsOk "bytearray.__init__" ⟨[a, v], []⟩ := by unfold argsOk; kernel_rfl
theorem ba_release : typeLookup (.type "bytearray") "__release_buffer__" = pure (some (.builtin "bytearray.__release_buffer__")) := by rw [typeLookup_type, builtinLookup_eq_fast]; kernel_rfl
theorem by_release : typeLookup (.type "bytes") "__release_buffer__" = pure none := by rw [typeLookup_type, builtinLookup_eq_fast]; kernel_rfl
theorem by_index : typeLookup (.type "bytes") "__index__" = pure none := by rw [typeLookup_type, builtinLookup_eq_fast]; kernel_rfl
theorem by_buffer : typeLookup (.type "bytes") "__buffer__" = pure (some (.builtin "bytes.__buffer__")) := by rw [typeLookup_type, builtinLookup_eq_fast]; kernel_rfl
theorem by_sub : isSubtype (.type "bytes") (.type "bytes") = pure true := by rw [isSubtype_type]; kernel_rfl
theorem ba_bind (v : Value) : Builtin.Bytes.bindOptional "bytearray.__init__" "bytearray" ["source", "encoding", "errors"] [v] [] = pure [some v, none, none] := by kernel_rfl
theorem ne_of_dec {id x : String} {args} (h : isDec (.builtin id args) = false) (hx : decs.contains x = true) : ¬ id = x := fun e => by
  subst e; exact absurd (h.symm.trans hx) (by decide)
theorem dif5 {a b c d e : Prop} [Decidable a] [Decidable b] [Decidable c] [Decidable d] [Decidable e] {ta : a → Bool} {tb : b → Bool} {tc : c → Bool} {td : d → Bool} {te : e → Bool} {x : Bool} (na : ¬ a) (nb : ¬ b) (nc : ¬ c) (nd : ¬ d) (ne : ¬ e) : (if h : a then ta h else if h : b then tb h else if h : c then tc h else if h : d then td h else if h : e then te h else x) = x := by
  rw [dif_neg na, dif_neg nb, dif_neg nc, dif_neg nd, dif_neg ne]
theorem and_dec {id : String} {args} {b : Bool} (hc : isDec (.builtin id args) = false) : (b && Builtin.Bytes.decodersThatHold.contains id) = false := by
  have hd : (Builtin.Bytes.decodersThatHold ++ _).contains id = false := hc
  rw [List.contains_eq_any_beq, List.any_append, Bool.or_eq_false_iff, ← List.contains_eq_any_beq] at hd
  rw [hd.1, Bool.and_false]

section
variable {prog : Program} {w : World} {A : Around} {E : Value → Shared → Prop} {s : Shared} {h₀ : Heap} {L : Addr} {m : PySem.Str → Option Value} {news : List (Addr × Obj)}
theorem wpP_stackAny {M : Model} {f : Code × Pos → Bool} {Q : Bool → Shared → Prop} (hf : ∀ c p, isDec c = false → f (c, p) = false) (h : Q false s) : wpP M A (do return (← stack).any f) Q E s := fun Γ p hΓ h1 h2 => by
  show Q (((Γ.code, p) :: Γ.below).any f) s
  rw [List.any_eq_false.mpr (fun x hx => by rw [hf x.1 x.2 (NoDec.push h1 h2 x hx)]; exact Bool.false_ne_true)]
  exact h
theorem wpP_exported {M : Model} {self : Value} {Q : Bool → Shared → Prop} (h : Q false s) : wpP M A (Builtin.Bytes.exported self) Q E s := by
  refine wpP_stackAny (fun c p hc => ?_) h
  cases c with
  | builtin id args =>
    delta Builtin.Bytes.exported.match_1 Builtin.Bytes.exported._sparseCasesOn_1
    refine (dif5 (ne_of_dec (x := "bytearray.__contains__") hc (by decide +kernel)) (ne_of_dec (x := "bytearray.__mod__") hc (by decide +kernel)) (ne_of_dec (x := "bytearray.__rmod__") hc (by decide +kernel)) (ne_of_dec (x := "_struct.pack_into.held") hc (by decide +kernel)) (ne_of_dec (x := "bytearray.find.held") hc (by decide +kernel))).trans ?_
    obtain ⟨ps, kw⟩ := args
    cases ps with
    | nil => rfl
    | cons v t => exact and_dec hc
  | _ => rfl
theorem wpAny_payload_ba {M : Model} {S : Addr} {b : Array UInt8} {Q : Array UInt8 → Shared → Prop} (hS : s.heap.get? S = some (baOf b)) (h : Q b s) : wpAny M A (Builtin.Bytes.payload (.ref S)) Q E s := by
  unfold Builtin.Bytes.payload Builtin.Bytes.payload?
  exact wpAny_bind (wpAny_bind (wpAny_load hS (wpAny_pure (wpAny_pure h))))
theorem wpAny_write_ba {M : Model} {S : Addr} {b : Array UInt8} {f : Array UInt8 → Array UInt8} {Q : Unit → Shared → Prop} (hS : s.heap.get? S = some (baOf b)) (hz : (f b).size ≤ sizeLine)
    (h : ∀ h', h'.get? S = some (baOf (f b)) → Heap.SameBut S s.heap h' → Q () { s with heap := h' }) : wpAny M A (Builtin.Bytes.write (.ref S) f) Q E s := by
  show wpAny _ _ (updateBytearray S f) _ _ _
  unfold updateBytearray
  refine wpAny_bind (wpAny_load hS ?_)
  show wpAny _ _ (update S (Obj.mapBytearray f) >>= fun _ => lookBehind S) _ _ _
  refine wpAny_bind (wpAny_update hS ?_)
  have hS₂ : (s.heap.update S (Obj.mapBytearray f)).get? S = some (baOf (f b)) := Heap.get?_update_self (Obj.mapBytearray f) hS rfl
  refine wpAny_lookBehind hS₂ ?_ ?_
  · show (if (f b).size > sizeLine then some "bytearray:memory" else none) = none
    rw [if_neg (Nat.not_lt.mpr hz)]
  · exact h _ hS₂ (Heap.SameBut.update ..)
theorem ba_e1 : ("bytearray.__release_buffer__".endsWith ("." ++ "__release_buffer__")) = true := by decide +kernel
theorem ba_e2 : ("bytearray.__release_buffer__".dropRight ("__release_buffer__".length + 1)) = "bytearray" := by decide +kernel
theorem by_e1 : ("bytes.__buffer__".endsWith ("." ++ "__buffer__")) = true := by decide +kernel
theorem by_e2 : ("bytes.__buffer__".dropRight ("__buffer__".length + 1)) = "bytes" := by decide +kernel
theorem ba_ownRelease {M : Model} {S : Addr} {Q : Bool → Shared → Prop} (hT : s.TypeIs (.ref S) "bytearray") (h : Q false s) : wpAny M A (Builtin.Bytes.ownRelease (.ref S)) Q E s := by
  unfold Builtin.Bytes.ownRelease Builtin.Bytes.slotIsOwn
  refine wpAny_bind (wpAny_bind (wpAny_specialOf hT ba_release ?_))
  dsimp only
  rw [ba_e1, ba_e2]
  simp only [Bool.not_true, Bool.false_eq_true, if_false]
  refine wpAny_isInstance hT ba_sub ?_
  exact wpAny_pure h
theorem by_ownRelease {M : Model} {b : Array UInt8} {t : Tok} {Q : Bool → Shared → Prop} (h : Q false s) : wpAny M A (Builtin.Bytes.ownRelease (.bytes b t)) Q E s := by
  unfold Builtin.Bytes.ownRelease Builtin.Bytes.slotIsOwn
  refine wpAny_bind (wpAny_bind (wpAny_specialOf (typeIs_bytes s b t) by_release ?_))
  exact wpAny_pure (wpAny_pure h)
theorem by_bufferOwn {M : Model} {b : Array UInt8} {t : Tok} {Q : Bool → Shared → Prop} (h : Q true s) : wpAny M A (Builtin.Bytes.slotIsOwn (.bytes b t) "__buffer__") Q E s := by
  unfold Builtin.Bytes.slotIsOwn
  refine wpAny_bind (wpAny_specialOf (typeIs_bytes s b t) by_buffer ?_)
  dsimp only
  rw [by_e1, by_e2]
  simp only [Bool.not_true, Bool.false_eq_true, if_false]
  exact wpAny_isInstance (typeIs_bytes s b t) by_sub h
theorem by_buffer? {M : Model} {id : String} {full : Bool} {b : Array UInt8} {t : Tok} {Q : Option (Array UInt8) → Shared → Prop} (h : Q (some b) s) : wpAny M A (Builtin.Bytes.buffer? id (.bytes b t) full) Q E s := by
  unfold Builtin.Bytes.buffer?
  refine wpAny_bind (wpAny_specialOf (typeIs_bytes s b t) by_buffer ?_)
  try dsimp only
  refine wpAny_bind (by_bufferOwn ?_)
  simp only [Bool.not_true, Bool.false_eq_true, if_false]
  refine wpAny_bind (wpAny_specialOf (typeIs_bytes s b t) by_buffer ?_)
  try dsimp only
  refine wpAny_bind (by_ownRelease ?_)
  simp only [Bool.false_eq_true, if_false]
  exact wpAny_bind (wpAny_of_eq (a := b) rfl (wpAny_pure h))
/-- bytearray.__init__ of bytes -/
theorem ba_init {S : Addr} {b : Array UInt8} {t : Tok} {Q : Fin → Shared → Prop} (hS : s.heap.get? S = some (baOf #[])) (hz : b.size ≤ sizeLine)
    (h : ∀ h', h'.get? S = some (baOf b) → Heap.SameBut S s.heap h' → Q (.done (.ret .none)) { s with heap := h' }) : wpP (model prog w) A (Builtin.«bytearray.__init__» ⟨[.ref S, .bytes b t], []⟩) Q E s := by
  have hT : s.TypeIs (.ref S) "bytearray" := ⟨_, hS, rfl⟩
  unfold Builtin.«bytearray.__init__»
  try dsimp only
  refine wpP_bindA (ba_ownRelease hT ?_)
  simp only [Bool.false_eq_true, if_false]
  refine wpP_bindA (wpAny_of_eq (ba_bind _) ?_)
  try dsimp only
  refine wpP_bindA (wpAny_of_eq (a := ()) rfl ?_)
  refine wpP_bindA (wpAny_of_eq (a := ()) rfl ?_)
  refine wpP_bind ?_
  refine (show wpP _ _ (Builtin.Bytes.exported _ >>= _) _ _ _ from ?_)
  refine wpP_bind (wpP_exported ?_)
  try dsimp only
  refine wpP_of ?_
  refine wpAny_bind ?_
  unfold Builtin.Bytes.exportsOf
  refine wpAny_bind (wpAny_load hS ?_)
  refine wpAny_pure (a := 0) (wpAny_pure ?_)
  simp only [gt_iff_lt, Nat.lt_irrefl, decide_false, Bool.false_eq_true, if_false]
  refine wpP_bindA (wpAny_write_ba hS (Nat.zero_le _) fun h1 hS1 hs1 => ?_)
  refine wpP_bindA (wpAny_of_eq (a := none) rfl ?_)
  simp only [Option.isSome_none, Bool.false_eq_true, if_false]
  refine wpP_bindA (wpAny_pure ?_)
  refine wpP_bindA (wpAny_specialOf (typeIs_bytes _ b t) by_index ?_)
  simp only [Option.isSome_none, Bool.false_eq_true, if_false]
  refine wpP_bindA (by_buffer? ?_)
  dsimp only
  refine wpP_bindA (wpAny_rule ?_)
  refine wpP_bindA (wpAny_write_ba hS1 hz fun h2 hS2 hs2 => ?_)
  exact wpP_of (wpAny_pure (h h2 hS2 (hs1.trans hs2)))
/-- the making itself -/
theorem ba_new {a : Value} {R : Result → Shared → Prop} (h : R (.ok (.ret (.ref s.heap.objs.size))) { s with heap := s.heap.push (baOf #[]) }) :
    codeAny (model prog w) A (.call (.builtin "bytearray.__new__") ⟨[.type "bytearray", a], []⟩) R s := by
  refine codeAny_of_tree ?_
  show wpAny _ A.in1 (do checkBuiltinCall "bytearray.__new__" ⟨[.type "bytearray", a], []⟩; again (.builtin "bytearray.__new__" ⟨[.type "bytearray", a], []⟩)) _ _ s
  refine wpAny_bind (wpAny_of_eq (ba_newCall a) (wpAny_pure ⟨plainId_quiet ba_plain_new _, codeAny_builtin_stack ba_entry_new rfl fun p st => ?_⟩))
  rw [Around.under_plainId ba_plain_new _]
  have hsub := ba_sub
  have hown := ba_owner
  obtain ⟨hp, g, d, tk, os⟩ := s
  simp only [hown]
  wp_walk
  exact h
end

end
section
open PySem PySem.W PySem.Calls PyProof.Rows PyProof.V PySem.Spec
section
variable {prog : Program} {w : World} {A : Around} {E : Value → Shared → Prop} {s : Shared} {h₀ : Heap} {L : Addr} {m : PySem.Str → Option Value} {news : List (Addr × Obj)}
theorem codeP_call_builtin {id : String} {args : Args} {b : Builtin} {R : Result → Shared → Prop} (hq : plainId id = true) (hb : entryFor table id = some b) (hd : isDec (.builtin id args) = false)
    (h : wpAny (model prog w) A.in1 (checkBuiltinCall id args) (fun _ s₁ => wpP (model prog w) A.in1 (b args)
      (fun fin s' => match fin with | .done f => R (.ok f) s' | .again c' => c'.quiet = true ∧ codeP (model prog w) A c' R s') (fun e s' => R (.error e) s') s₁)
      (fun e s' => R (.error e) s') s) : codeP (model prog w) A (.call (.builtin id) args) R s :=
  codeP_call_builtin_at (plainId_quiet hq args) hb hd (by rw [Around.under_plainId hq args]; exact h)
theorem codeP_builtin {id : String} {args : Args} {b : Builtin} {R : Result → Shared → Prop} (hb : entryFor table id = some b) (hd : isDec (.builtin id args) = false)
    (h : wpP (model prog w) (A.under (.builtin id args)) (b args)
      (fun fin s' => match fin with | .done f => R (.ok f) s' | .again c' => c'.quiet = true ∧ codeP (model prog w) A c' R s') (fun e s' => R (.error e) s') s) : codeP (model prog w) A (.builtin id args) R s := by
  refine codeP_tree hd ?_
  show wpP _ _ (match entryFor table id with | some b => b args | none => unsupported ((withoutEnding? id "#data").getD id)) _ _ s
  rw [hb]; exact h
theorem ba_lookup_init : typeLookup (.type "bytearray") "__init__" = pure (some (.builtin "bytearray.__init__")) := ba_slot_init.lookup
theorem ba_canCreate : ((Manifest.find? "bytearray").bind (·.mro.findSome? fun t => (Manifest.find? t).bind fun b => if b.noNew then some true else if b.attrs.any (·.1 == "__new__") then some false else none)).getD false = false := by decide +kernel
/-- bytearray(b): a new bytearray of the octets -/
theorem call_ba {b : Array UInt8} {t : Tok} {Q : Value → Shared → Prop} (F : Fr h₀ L s.heap m) (N : News h₀ L s.heap news) (hz : b.size ≤ sizeLine)
    (h : ∀ x h', Fr h₀ L h' m → News h₀ L h' ((x, baOf b) :: news) → (∀ p ∈ news, p.1 < x) → Q (.ref x) { s with heap := h' }) : wpP (model prog w) A (call (.type "bytearray") [.bytes b t]) Q E s := by
  refine wpP_call (codeP_treeA ?_)
  show wpAny _ _ (callAny (.type "bytearray") _) _ _ _
  refine wpAny_pure ⟨Code.quiet_builtin _ (by decide +kernel), ?_⟩
  refine codeP_builtin PySem.F.entry_type_call (by show decs.contains "type.__call__" = false; decide +kernel) ?_
  rw [Around.under_plain (weight_type_call_type "bytearray" [.bytes b t] []) rfl]
  unfold Builtin.«type.__call__»
  dsimp only
  have hne : (Value.type "bytearray" == Value.type "type") = false := by decide
  simp only [hne, ba_canCreate, Bool.false_eq_true, if_false]
  refine wpP_bindA (wpAny_of_eq (ba_typeCall _) ?_)
  refine wpP_bindA (wpAny_of_eq ba_mro ?_)
  simp only [List.isEmpty_cons, Bool.false_eq_true, if_false]
  refine wpP_bindA (wpAny_of_eq ba_made ?_)
  dsimp only
  refine wpP_bindA (wpAny_pure ?_)
  refine wpP_bindA (wpAny_holding (wpAny_call (ba_new ?_)))
  dsimp only
  have hS : (s.heap.push (baOf #[])).get? s.heap.objs.size = some (baOf #[]) := Heap.get?_push_size _ rfl
  have hT : ({ s with heap := s.heap.push (baOf #[]) } : Shared).TypeIs (.ref s.heap.objs.size) "bytearray" := ⟨_, hS, rfl⟩
  refine wpP_bindA (wpAny_isInstance hT ba_sub ?_)
  simp only [Bool.not_true, Bool.false_eq_true, if_false]
  refine wpP_bind (wpP_holding ?_)
  unfold callSpecial?
  refine wpP_bindA (wpAny_specialOf hT ba_lookup_init ?_)
  dsimp only
  refine wpP_holding (wpP_bindA (wpAny_of_eq (ba_slot_init.bind _) ?_))
  dsimp only
  refine wpP_bind (wpP_call (codeP_call_builtin ba_slot_init.plain ba_entry_init (by show decs.contains "bytearray.__init__" = false; decide +kernel) (ba_slot_init.check _ _ _ _ _ _ _ _ hT (ba_args_init _ _) ?_)))
  refine ba_init hS hz fun h2 hS2 hs2 => ?_
  dsimp only
  refine wpP_of (wpAny_pure (wpP_of (wpAny_pure ?_)))
  have hL : L ≠ s.heap.objs.size := Nat.ne_of_lt F.ns.lt
  refine h _ h2 ((F.push (baOf #[])).change hs2 (Ne.symm hL) (next_is_new F)) ?_ fun p hp => Heap.lt_size (N p hp).1
  intro p hp
  rcases List.mem_cons.mp hp with rfl | hp
  · exact ⟨hS2, Ne.symm hL, next_is_new F⟩
  · exact ⟨(hs2.2 _ (Nat.ne_of_lt (Heap.lt_size (N p hp).1))).trans (Heap.get?_push_of_some _ (N p hp).1), (N p hp).2⟩
end

end
section
open PySem PySem.W PySem.Calls PyProof.Rows PyProof.V PySem.Spec
open Builtin
theorem ba_slot_len : Slot "bytearray" "__len__" "bytearray.__len__" :=
  .of (owner := "bytearray") (n := "__len__") (by rw [typeLookup_type, builtinLookup_eq_fast]; kernel_rfl) (by decide +kernel) (by decide +kernel) (by decide +kernel)
    (by first | exact .inl (by decide +kernel) | exact .inr (by decide +kernel)) (by rw [isSubtype_type]; kernel_rfl)
theorem ba_slot_get : Slot "bytearray" "__getitem__" "bytearray.__getitem__" :=
  .of (owner := "bytearray") (n := "__getitem__") (by rw [typeLookup_type, builtinLookup_eq_fast]; kernel_rfl) (by decide +kernel) (by decide +kernel) (by decide +kernel)
    (by first | exact .inl (by decide +kernel) | exact .inr (by decide +kernel)) (by rw [isSubtype_type]; kernel_rfl)
theorem ba_slot_set : Slot "bytearray" "__setitem__" "bytearray.__setitem__" :=
  .of (owner := "bytearray") (n := "__setitem__") (by rw [typeLookup_type, builtinLookup_eq_fast]; kernel_rfl) (by decide +kernel) (by decide +kernel) (by decide +kernel)
    (by first | exact .inl (by decide +kernel) | exact .inr (by decide +kernel)) (by rw [isSubtype_type]; kernel_rfl)
theorem ba_entry_len : entryFor table "bytearray.__len__" = some Builtin.«bytearray.__len__» := entryFor_of_tree (by kernel_rfl)
theorem ba_entry_get : entryFor table "bytearray.__getitem__" = some Builtin.«bytearray.__getitem__» := entryFor_of_tree (by kernel_rfl)
theorem ba_entry_set : entryFor table "bytearray.__setitem__" = some Builtin.«bytearray.__setitem__» := entryFor_of_tree (by kernel_rfl)
theorem ba_args_len (a : Value) : argsOk "bytearray.__len__" ⟨[a], []⟩ := by unfold argsOk; kernel_rfl
theorem ba_args_get (a i : Value) : argsOk "bytearray.__getitem__" ⟨[a, i], []⟩ := by unfold argsOk; kernel_rfl
theorem ba_args_set (a i v : Value) : argsOk "bytearray.__setitem__" ⟨[a, i, v], []⟩ := by unfold argsOk; kernel_rfl
theorem ba_no_bytes : typeLookup (.type "bytearray") "__bytes__" = pure none := by rw [typeLookup_type, builtinLookup_eq_fast]; kernel_rfl
theorem ba_no_index : typeLookup (.type "bytearray") "__index__" = pure none := by rw [typeLookup_type, builtinLookup_eq_fast]; kernel_rfl
theorem ba_buffer : typeLookup (.type "bytearray") "__buffer__" = pure (some (.builtin "bytearray.__buffer__")) := by rw [typeLookup_type, builtinLookup_eq_fast]; kernel_rfl
theorem by_int : typeLookup (.type "bytes") "__int__" = pure none := by rw [typeLookup_type, builtinLookup_eq_fast]; kernel_rfl
theorem by_float : typeLookup (.type "bytes") "__float__" = pure none := by rw [typeLookup_type, builtinLookup_eq_fast]; kernel_rfl
theorem by_sub_complex : isSubtype (.type "bytes") (.type "complex") = pure false := by rw [isSubtype_type]; kernel_rfl
theorem by_sub_ba : isSubtype (.type "bytes") (.type "bytearray") = pure false := by rw [isSubtype_type]; kernel_rfl
theorem ba_e3 : ("bytearray.__buffer__".endsWith ("." ++ "__buffer__")) = true := by decide +kernel
theorem ba_e4 : ("bytearray.__buffer__".dropRight ("__buffer__".length + 1)) = "bytearray" := by decide +kernel
section
variable {prog : Program} {w : World} {A : Around} {E : Value → Shared → Prop} {s : Shared} {h₀ : Heap} {L S : Addr} {m : PySem.Str → Option Value} {news : List (Addr × Obj)} {b : Array UInt8}
theorem len_ba {Q : Value → Shared → Prop} (N : News h₀ L s.heap news) (hm : (S, baOf b) ∈ news) (hz : b.size ≤ sizeLine) (h : Q (.int b.size (s.toks + 1)) { s with toks := s.toks + 1 + 1 }) : wpAny (model prog w) A (call (.builtin "len") [.ref S]) Q E s := by
  have hS := N.get hm
  have hT : s.TypeIs (.ref S) "bytearray" := ⟨_, hS, rfl⟩
  rw [sizeLine_eq] at hz
  refine call_function_entry kind_len plain_len entry_len (args_len1 _) ?_
  unfold Builtin.«len»
  refine wpAny_bind (m := oneArg "len" _) (wpAny_pure ?_)
  refine wpAny_bind (m := callSpecial? (.ref S) (Str.ofString "__len__")) (wpAny_callSpecial?_slot (name := Str.ofString "__len__") hT ba_slot_len (wpAny_call_entry ba_slot_len hT ba_entry_len ?_ (ba_args_len _)))
  show wpAny _ _ (do retInt (← Bytes.payload (.ref S)).size) _ _ s
  refine wpAny_bind (wpAny_payload_ba hS ?_)
  refine wpAny_bind (wpAny_mkInt (wpAny_pure ⟨_, rfl, ?_⟩))
  refine wpAny_bind (wpAny_holding (wpAny_pure ?_))
  refine wpAny_bind (wpAny_letGo ?_)
  show wpAny _ _ (if ((b.size : Nat) : Int) < 0 then _ else _) _ _ _
  rw [if_neg (by omega)]
  show wpAny _ _ (if ((b.size : Nat) : Int) ≥ 2 ^ 63 then _ else _) _ _ _
  rw [if_neg (by omega)]
  exact wpAny_bind (wpAny_mkInt (wpAny_pure ⟨_, rfl, h⟩))
theorem sliceParts_ii {M : Model} {a : Addr} {lo hi : Int} {t1 t2 : Tok} {Q : Value × Value × Value → Shared → Prop} (hS : s.heap.IsSliceOf a (.int lo t1) (.int hi t2) .none) (h : Q (rawPart (some lo), rawPart (some hi), rawPart none) s) :
    wpAny M A (Bytes.sliceParts (.ref a)) Q E s := by
  obtain ⟨o, ho, hc, hd⟩ := hS
  unfold Bytes.sliceParts
  refine wpAny_bind (wpAny_field (x := .none) ho hd rfl ?_)
  kby_none
  refine wpAny_ite (KBy.ite_no (show ¬ ((Value.none == rawInt 0) = true) from Bool.false_ne_true) ?_)
  refine wpAny_bind (wpAny_field (x := .int lo t1) ho hd rfl ?_)
  kby_int
  refine wpAny_bind (wpAny_field (x := .int hi t2) ho hd rfl ?_)
  kby_int
  exact wpAny_pure h
theorem bounds_none (n : Nat) : sliceBounds none (some (n : Int)) none n = (0, (n : Int), 1) := by
  unfold sliceBounds
  simp
  rw [if_neg (Int.not_lt.mpr (Int.natCast_nonneg n)), Int.min_self]
  exact Int.max_eq_right (Int.natCast_nonneg n)
theorem sliced_whole (b : Array UInt8) : Bytes.sliced b (0 : Int) (b.size : Int) 1 = b := by
  have := picked_whole b
  unfold KBy.picked at this
  have e : sliceBounds none (some (b.size : Int)) none b.size = (0, (b.size : Int), 1) := bounds_none b.size
  rw [e] at this
  exact this
theorem bounds_whole (n : Nat) : sliceBounds (some 0) (some (n : Int)) none n = (0, (n : Int), 1) := by
  unfold sliceBounds
  simp
  rw [if_neg (Int.not_lt.mpr (Int.natCast_nonneg n)), Int.min_self, Int.min_eq_left (Int.natCast_nonneg n), Int.max_self]
  exact ⟨rfl, Int.max_eq_right (Int.natCast_nonneg n)⟩
theorem get_ba {a : Addr} {lo hi : Int} {t1 t2 : Tok} {Q : Value → Shared → Prop} (hS : s.heap.get? S = some (baOf b)) (hz : b.size ≤ sizeLine) (hsl : s.heap.IsSliceOf a (.int lo t1) (.int hi t2) .none) (hlo : lo = 0) (hhi : hi = b.size)
    (h : Q (.ref s.heap.objs.size) { s with heap := s.heap.push (baOf b) }) : wpAny (model prog w) A (getItem (.ref S) (.ref a)) Q E s := by
  subst hlo hhi
  have hT : s.TypeIs (.ref S) "bytearray" := ⟨_, hS, rfl⟩
  have hTs : s.TypeIs (.ref a) "slice" := by obtain ⟨o, ho, hc, _⟩ := hsl; exact ⟨o, ho, hc⟩
  refine wpAny_getItem_slot hT (by decide) ba_slot_get (wpAny_call_entry ba_slot_get hT ba_entry_get ?_ (ba_args_get _ _))
  show wpAny _ _ (Bytes.subscript? (.ref a) >>= fun r => _) _ _ s
  refine wpAny_bind ?_
  unfold Bytes.subscript?
  refine wpAny_bind (wpAny_specialOf hTs slice_no_index (wpAny_pure ?_))
  refine wpAny_bind (wpAny_typeOf hTs ?_)
  show wpAny _ _ (Bytes.sliceParts (.ref a) >>= fun r => _) _ _ s
  refine wpAny_bind (sliceParts_ii hsl ?_)
  refine wpAny_bind (wpAny_payload_ba hS ?_)
  refine wpAny_bind (wpAny_of_eq (sliceIndices_raw (some 0) (some (b.size : Int)) none b.size (fun e => nomatch e)) ?_)
  rw [bounds_whole]
  dsimp only
  rw [sliced_whole]
  refine wpAny_bind ?_
  unfold Bytes.newBytearray
  exact wpAny_newObj_type (wpAny_pure ⟨_, rfl, h⟩) hz
end

end
section
open PySem PySem.W PySem.Calls PyProof.Rows PyProof.V PySem.Spec
open Builtin
section
variable {prog : Program} {w : World} {A : Around} {E : Value → Shared → Prop} {s : Shared} {h₀ : Heap} {L S : Addr} {m : PySem.Str → Option Value} {news : List (Addr × Obj)} {b : Array UInt8}
theorem bm_if_falseP {α : Type} {M : Model} {c : Bool} {x y : Sem α} {Q : α → Shared → Prop} (hc : c = false) (h : wpP M A y Q E s) : wpP M A (if c = true then x else y) Q E s := by
  subst hc
  exact h
theorem bm_if_trueP {α : Type} {M : Model} {c : Bool} {x y : Sem α} {Q : α → Shared → Prop} (hc : c = true) (h : wpP M A x Q E s) : wpP M A (if c = true then x else y) Q E s := by
  subst hc
  exact h
theorem slice_ba {value slice : PySem.Expr} {lo hi : Int} {t1 t2 : Tok} {Q : Value → Shared → Prop} (hF : Fr h₀ L s.heap m) (hN : News h₀ L s.heap news) (hm : (S, baOf b) ∈ news) (hz : b.size ≤ sizeLine) (hlo : lo = 0) (hhi : hi = b.size)
    (h : ∀ x h', Fr h₀ L h' m → News h₀ L h' ((x, baOf b) :: news) → (∀ p ∈ news, p.1 < x) → Q (.ref x) { s with heap := h' })
    (hs : subscripted slice false (.ref S) (.ref s.heap.objs.size) = operate [.ref s.heap.objs.size, .ref S] (getItem (.ref S) (.ref s.heap.objs.size)) := by with_unfolding_all rfl) :
    wpAny (model prog w) A (subscriptTail value slice (.ref S) (.ref s.heap.objs.size)) Q E { s with heap := s.heap.push { cls := .type "slice", data := .fields #[.int lo t1, .int hi t2, .none] } } := by
  have hS := Heap.get?_push_of_some { cls := .type "slice", data := .fields #[.int lo t1, .int hi t2, .none] } (hN.get hm)
  have N' := News.pushKeep hN { cls := .type "slice", data := .fields #[.int lo t1, .int hi t2, .none] }
  have F' := hF.push { cls := .type "slice", data := .fields #[.int lo t1, .int hi t2, .none] }
  refine tail_any ⟨_, hS, rfl⟩ ba_slot_get.lookup (get_ba hS hz (Heap.IsSliceOf.new _ _ _ _) hlo hhi ?_) hs
  exact h _ _ (F'.push _) (N'.push F' _) fun p hp => Heap.lt_size (N' p hp).1
theorem ba_bufferOwn {M : Model} {Q : Bool → Shared → Prop} (hT : s.TypeIs (.ref S) "bytearray") (h : Q true s) : wpAny M A (Builtin.Bytes.slotIsOwn (.ref S) "__buffer__") Q E s := by
  unfold Builtin.Bytes.slotIsOwn
  refine wpAny_bind (wpAny_specialOf hT ba_buffer ?_)
  dsimp only
  rw [ba_e3, ba_e4]
  simp only [Bool.not_true, Bool.false_eq_true, if_false]
  exact wpAny_isInstance hT ba_sub h
theorem ba_buffer? {M : Model} {id : String} {full : Bool} {Q : Option (Array UInt8) → Shared → Prop} (hS : s.heap.get? S = some (baOf b)) (h : Q (some b) s) : wpAny M A (Builtin.Bytes.buffer? id (.ref S) full) Q E s := by
  have hT : s.TypeIs (.ref S) "bytearray" := ⟨_, hS, rfl⟩
  unfold Builtin.Bytes.buffer?
  refine wpAny_bind (wpAny_specialOf hT ba_buffer ?_)
  try dsimp only
  refine wpAny_bind (ba_bufferOwn hT ?_)
  simp only [Bool.not_true, Bool.false_eq_true, if_false]
  refine wpAny_bind (wpAny_specialOf hT ba_buffer ?_)
  try dsimp only
  refine wpAny_bind (ba_ownRelease hT ?_)
  simp only [Bool.false_eq_true, if_false]
  exact wpAny_bind (wpAny_payload_ba hS (wpAny_pure h))
theorem by_new {Q : Value → Shared → Prop} (hS : s.heap.get? S = some (baOf b)) (hz : b.size ≤ sizeLine) (hQ : ∀ t k, Q (.bytes b t) { s with toks := k }) :
    codeAny (model prog w) A (.call (.builtin "bytes.__new__") ⟨[.type "bytes", .ref S], []⟩) (wants Q E) s := by
  refine codeAny_of_tree ?_
  show wpAny _ A.in1 (do checkBuiltinCall "bytes.__new__" ⟨[.type "bytes", .ref S], []⟩; again (.builtin "bytes.__new__" ⟨[.type "bytes", .ref S], []⟩)) _ _ s
  refine wpAny_bind (wpAny_of_eq (PySem.F.bm_newCall _) (wpAny_pure ⟨plainId_quiet PySem.F.bm_plain _, codeAny_builtin PySem.F.bm_entry ?_⟩))
  rw [Around.under_plainId PySem.F.bm_plain _]
  have hT : s.TypeIs (.ref S) "bytearray" := ⟨_, hS, rfl⟩
  unfold Builtin.«bytes.__new__»
  refine wpAny_bind (wpAny_of_eq (a := true) rfl ?_)
  refine bm_if_false rfl ?_
  refine wpAny_bind (wpAny_of_eq PySem.F.bm_sub ?_)
  refine bm_if_false rfl ?_
  refine wpAny_bind (wpAny_of_eq (PySem.F.bm_bind _) ?_)
  refine wpAny_bind (wpAny_of_eq (a := ()) rfl ?_)
  refine wpAny_bind (wpAny_of_eq (a := ()) rfl ?_)
  refine bm_if_false rfl ?_
  refine wpAny_bind (wpAny_specialOf hT ba_no_bytes ?_)
  refine wpAny_bind (wpAny_bind ?_)
  show wpAny _ _ (load S >>= _) _ _ _
  refine wpAny_bind (wpAny_load hS ?_)
  refine wpAny_pure (wpAny_pure ?_)
  refine bm_if_false rfl ?_
  refine wpAny_bind (wpAny_specialOf hT ba_no_index ?_)
  refine bm_if_true rfl ?_
  first
    | show wpAny _ _ (Builtin.Bytes.buffer? "bytes.__new__" (.ref S) true >>= _) _ _ _
    | (refine wpAny_bind ?_; show wpAny _ _ (Builtin.Bytes.buffer? "bytes.__new__" (.ref S) true >>= _) _ _ _)
  refine wpAny_bind (ba_buffer? hS ?_)
  dsimp only
  refine wpAny_bind (wpAny_rule (wpAny_bind (wpAny_mkBytes ?_ hz)))
  show wpAny _ _ (if (Value.type "bytes" == Value.type "bytes") = true then _ else _) _ _ _
  refine bm_if_true (by decide) ?_
  first
    | exact wpAny_pure (hQ _ _)
    | exact wpAny_bind (wpAny_pure (wpAny_pure (hQ _ _)))
/-- bytes(x) of a bytearray -/
theorem call_bytes_ba {Q : Value → Shared → Prop} (N : News h₀ L s.heap news) (hm : (S, baOf b) ∈ news) (hz : b.size ≤ sizeLine) (hQ : ∀ t k, Q (.bytes b t) { s with toks := k }) : wpAny (model prog w) A (call (.type "bytes") [.ref S]) Q E s := by
  refine callType_codes (Q₁ := fun obj s₁ => s₁.TypeIs obj "bytes" ∧ Q obj s₁) PySem.F.bm_called (PySem.F.bm_typeCall _) PySem.F.entry_object_init
    (by_new (N.get hm) hz fun t k => ⟨PySem.W.typeIs_bytes _ _ _, hQ t k⟩) fun obj s₁ h₁ => ?_
  exact ⟨h₁.1, PySem.F.args_object_init_2 obj _, object_init_meets PySem.F.bm_called.init.lookup PySem.F.bm_called.made (by decide) prog w A.in1 _ s₁ ⟨h₁.1, rfl, h₁.2⟩⟩
theorem extract_whole (b v : Array UInt8) : b.extract 0 (0 : Int).toNat ++ v ++ b.extract (max (0 : Int) (b.size : Int)).toNat b.size = v := by
  have e : (max (0 : Int) (b.size : Int)).toNat = b.size := by rw [Int.max_eq_right (Int.natCast_nonneg _)]; rfl
  rw [e]
  simp
/-- x[0:n] = v of a bytearray of n octets -/
theorem setItem_ba {lo hi : Int} {t1 t2 t : Tok} {v : Array UInt8} {news' : List (Addr × Obj)} {Q : Unit → Shared → Prop} (hF : Fr h₀ L s.heap m) (hN : News h₀ L s.heap news) (U : Upd S (baOf b) (baOf v) news news') (hz : b.size ≤ sizeLine) (hv : v.size = b.size) (hlo : lo = 0) (hhi : hi = b.size)
    (h : ∀ h', Fr h₀ L h' m → News h₀ L h' news' → Q () { s with heap := h' }) :
    wpP (model prog w) A (setItem (.ref S) (.ref s.heap.objs.size) (.bytes v t)) Q E { s with heap := s.heap.push { cls := .type "slice", data := .fields #[.int lo t1, .int hi t2, .none] } } := by
  subst hlo hhi
  obtain ⟨pre, post, rfl, rfl, a, c⟩ := U.split
  have N₁ := hN.push hF { cls := .type "slice", data := .fields #[.int 0 t1, .int b.size t2, .none] }
  have F₁ := hF.push { cls := .type "slice", data := .fields #[.int 0 t1, .int b.size t2, .none] }
  have hS := N₁.get (a := S) (o := baOf b) (by simp)
  have hT : ({ s with heap := s.heap.push { cls := .type "slice", data := .fields #[.int 0 t1, .int b.size t2, .none] } } : Shared).TypeIs (.ref S) "bytearray" := ⟨_, hS, rfl⟩
  have hTs : ({ s with heap := s.heap.push { cls := .type "slice", data := .fields #[.int 0 t1, .int b.size t2, .none] } } : Shared).TypeIs (.ref s.heap.objs.size) "slice" := ⟨_, Heap.get?_push_size _ rfl, rfl⟩
  unfold setItem
  refine wpP_holding (wpP_bindA (wpAny_sequenceKey hT (by decide) ?_))
  refine wpP_bind ?_
  unfold callSpecial?
  refine wpP_bindA (wpAny_specialOf hT ba_slot_set.lookup ?_)
  dsimp only
  refine wpP_holding (wpP_bindA (wpAny_of_eq (ba_slot_set.bind _) ?_))
  dsimp only
  refine wpP_bind (wpP_call (codeP_call_builtin ba_slot_set.plain ba_entry_set (by show decs.contains "bytearray.__setitem__" = false; decide +kernel) (ba_slot_set.check _ _ _ _ _ _ _ _ hT (ba_args_set _ _ _) ?_)))
  unfold Builtin.«bytearray.__setitem__»
  dsimp only
  refine bm_if_falseP rfl ?_
  refine wpP_bindA ?_
  unfold Bytes.subscript?
  refine wpAny_bind (wpAny_specialOf hTs slice_no_index (wpAny_pure ?_))
  dsimp only
  refine wpP_bindA (wpAny_typeOf hTs ?_)
  refine bm_if_falseP rfl ?_
  refine wpP_bindA (sliceParts_ii (Heap.IsSliceOf.new _ _ _ _) ?_)
  refine bm_if_falseP rfl ?_
  refine wpP_bindA (wpAny_isInstance (typeIs_bytes _ v t) by_sub_ba ?_)
  refine bm_if_trueP rfl ?_
  refine wpP_bindA ?_
  refine (show wpAny _ _ ((do let x ← specialOf (Value.bytes v t) (Str.ofString "__index__"); pure x.isSome) >>= _) _ _ _ from ?_)
  refine wpAny_bind (wpAny_bind (wpAny_specialOf (typeIs_bytes _ v t) by_index (wpAny_pure ?_)))
  refine (show wpAny _ _ ((do let x ← specialOf (Value.bytes v t) (Str.ofString "__int__"); pure x.isSome) >>= _) _ _ _ from ?_)
  refine wpAny_bind (wpAny_bind (wpAny_specialOf (typeIs_bytes _ v t) by_int (wpAny_pure ?_)))
  refine (show wpAny _ _ ((do let x ← specialOf (Value.bytes v t) (Str.ofString "__float__"); pure x.isSome) >>= _) _ _ _ from ?_)
  refine wpAny_bind (wpAny_bind (wpAny_specialOf (typeIs_bytes _ v t) by_float (wpAny_pure ?_)))
  refine (show wpAny _ _ (isInstance (Value.bytes v t) (Value.type "complex")) _ _ _ from ?_)
  refine wpAny_isInstance (typeIs_bytes _ v t) by_sub_complex ?_
  refine wpP_bindA (wpAny_of_eq (a := none) rfl ?_)
  refine bm_if_falseP rfl ?_
  refine wpP_bindA (wpAny_rule ?_)
  refine wpP_bind (call_ba F₁ N₁ (by rw [hv]; exact hz) fun x h' F₂ N₂ lt => ?_)
  have hx := N₂.get (a := x) (o := baOf v) (List.mem_cons_self ..)
  have hS₂ := N₂.get (a := S) (o := baOf b) (by simp)
  have hsl₂ := N₂.get (a := s.heap.objs.size) (List.mem_cons_of_mem _ (List.mem_cons_self ..))
  dsimp only at hx hS₂ hsl₂ ⊢
  refine wpP_bindA (wpAny_holding (sliceParts_ii ⟨_, hsl₂, rfl, rfl⟩ ?_))
  refine wpP_bindA (wpAny_payload_ba hx ?_)
  refine wpP_bindA (wpAny_payload_ba hS₂ ?_)
  refine wpP_bindA (wpAny_of_eq (sliceIndices_raw (some 0) (some (b.size : Int)) none b.size (fun e => nomatch e)) ?_)
  rw [bounds_whole]
  refine bm_if_trueP rfl ?_
  refine wpP_bindA (wpAny_rule ?_)
  refine bm_if_falseP (by show ((v.size : Int) != max (0 : Int) (b.size : Int) - 0) = false; rw [hv]; simp) ?_
  refine wpP_bindA (wpAny_write_ba hS₂ (by rw [extract_whole, hv]; exact hz) fun h3 hS3 hs3 => ?_)
  rw [extract_whole] at hS3
  refine wpP_of (wpAny_pure (wpP_of (wpAny_pure (wpP_of (wpAny_pure ?_)))))
  have hne : S ≠ L := (N₁ (S, baOf b) (by simp)).2.1
  have hfr : h₀.get? S = none := (N₁ (S, baOf b) (by simp)).2.2
  refine h h3 (F₂.change hs3 hne hfr) fun p hp => ?_
  rcases List.mem_append.mp hp with hp | hp
  · have z := N₂ p (by simp [hp])
    exact ⟨(hs3.2 _ (a p hp)).trans z.1, z.2⟩
  · rcases List.mem_cons.mp hp with rfl | hp
    · exact ⟨hS3, hne, hfr⟩
    · have z := N₂ p (by simp [hp])
      exact ⟨(hs3.2 _ (c p hp)).trans z.1, z.2⟩
end
section
variable {w : World} {A : Around} {E : Value → Shared → Prop} {s : Shared} {env : Env} {h₀ : Heap} {target : PySem.Expr} {body : List Stmt} {Q : Flow → Shared → Prop}
/-- a for over an empty dict -/
theorem iter_emp {d : Addr} {od : Obj} {m₀ : PySem.Str → Option Value} {news : List (Addr × Obj)} (hh : A.handled = none) (F : Fr h₀ env.locals s.heap m₀) (N : News h₀ env.locals s.heap news) (hm : (d, od) ∈ news) (he : Emp w d od)
    (h : ∀ h' tk, Fr h₀ env.locals h' m₀ → News h₀ env.locals h' news → Q .next { s with heap := h', toks := tk }) :
    wpAny (model pw w) A (pyIter (.ref d)) (fun it s₂ => TurnsAt pw w A h₀ env target body Q E it s₂) E s :=
  kti_keys (knd := PySem.strKind pw w) (enc := PyData.str) (D := []) hh F N (TabAt.ofNews N hm he.1 he.2.1 he.2.2.1) hm (fun k v h => Value.isStrOf_shape h) rfl fun I lI => ItemsRest.zero h
theorem list_made {l : Addr} {items : Array Value} {n : Nat} {L : Addr} {m : PySem.Str → Option Value} {news : List (Addr × Obj)} {Q : Value → Shared → Prop} (F : Fr h₀ L s.heap m) (N : News h₀ L s.heap news) (hm : (l, listOf items n) ∈ news) (hz : items.size ≤ sizeLine)
    (h : ∀ D c h', Fr h₀ L h' m → News h₀ L h' ((D, listOf items c) :: news) → (∀ q ∈ news, q.1 < D) → Q (.ref D) { s with heap := h' }) :
    wpAny (model pw w) A (call (.type "list") [.ref l]) Q E s := list_copyK F N ⟨_, N.get hm, rfl, n, rfl⟩ h hz
theorem mapSeq_nil (n : Nat) : ∃ c, Obj.mapSeq (fun _ => (#[] : Array Value)) (listOf #[] n) = listOf #[] c := ⟨_, rfl⟩
/-- sorted of an empty dict -/
theorem sorted_emp {d : Addr} {od : Obj} {L : Addr} {m : PySem.Str → Option Value} {news : List (Addr × Obj)} {Q : Value → Shared → Prop} (hh : A.handled = none) (F : Fr h₀ L s.heap m) (N : News h₀ L s.heap news) (hm : (d, od) ∈ news) (he : Emp w d od)
    (h : ∀ B c h' tk, Fr h₀ L h' m → News h₀ L h' ((B, listOf #[] c) :: news) → (∀ q ∈ news, q.1 < B) → Q (.ref B) { s with heap := h', toks := tk }) :
    wpAny (model pw w) A (call (.builtin "sorted") [.ref d]) Q E s := by
  refine kdu_sortedD (knd := PySem.strKind pw w) (enc := PyData.str) (D := []) (fun _ _ => kdl_flat_str) hh F N (TabAt.ofNews N hm he.1 he.2.1 he.2.2.1) (by decide) ?_
  intro B h' tk F' N' l1
  have z := N' (B, listOf [].toArray 0) (List.mem_cons_self ..)
  refine wpAny_call_entry PyProof.Rows.slot_list_sort ⟨_, z.1, rfl⟩ PyProof.Rows.entry_list_sort (list_sort_tree (n := 0) (vs := []) (ns := []) z.1 .nil (by decide) fun out ns' hI hp hP => ⟨.none, rfl, ?_⟩) (PyProof.Rows.args_list_sort _)
  have e : out = #[] := by
    have h1 := hp.length_eq
    have h2 := hI.length
    have h4 : out.toList.length = out.size := Array.length_toList
    exact Array.eq_empty_of_size_eq_zero (by rw [← h4, h2, h1]; rfl)
  subst e
  obtain ⟨c1, e1⟩ := mapSeq_nil 0
  obtain ⟨c2, e2⟩ := mapSeq_nil c1
  have F1 : Fr h₀ L (h'.update B (Obj.mapSeq fun _ => (#[] : Array Value))) m := F'.change (Heap.SameBut.update ..) z.2.1 z.2.2
  have g1 := Heap.get?_update_self (Obj.mapSeq fun _ => (#[] : Array Value)) z.1 rfl
  have g3 := Heap.get?_push_of_some (seqObj "list" #[] 0) (Heap.get?_push_of_some (seqObj "tuple" ([] : List Value).toArray 0) g1)
  have F3 := (F1.push (seqObj "tuple" ([] : List Value).toArray 0)).push (seqObj "list" #[] 0)
  have F4 := F3.change (Heap.SameBut.update (f := Obj.mapSeq fun _ => (#[] : Array Value)) (a := B) ..) z.2.1 z.2.2
  refine h B c2 _ tk F4 (fun p hp => ?_) l1
  rcases List.mem_cons.mp hp with rfl | hp
  · refine ⟨?_, z.2⟩
    have g4 := Heap.get?_update_self (Obj.mapSeq fun _ => (#[] : Array Value)) g3 rfl
    exact g4.trans (congrArg some (by rw [← e2, ← e1]))
  · have y := N' p (List.mem_cons_of_mem _ hp)
    have ne : B ≠ p.1 := Nat.ne_of_gt (l1 p hp)
    exact ⟨(Heap.get?_update_other _ _ ne).trans (Heap.get?_push_of_some _ (Heap.get?_push_of_some _ ((Heap.get?_update_other _ _ ne).trans y.1))), y.2⟩
/-- a for over a made list without items -/
theorem iter_nil {ax : Addr} {n : Nat} {m₀ : PySem.Str → Option Value} {news : List (Addr × Obj)} (hh : A.handled = none) (F : Fr h₀ env.locals s.heap m₀) (N : News h₀ env.locals s.heap news) (hm : (ax, listOf #[] n) ∈ news)
    (h : ∀ h' tk, Fr h₀ env.locals h' m₀ → News h₀ env.locals h' news → Q .next { s with heap := h', toks := tk }) :
    wpAny (model pw w) A (pyIter (.ref ax)) (fun it s₂ => TurnsAt pw w A h₀ env target body Q E it s₂) E s :=
  iter_listJ (vs := []) hh F N hm rfl rfl (fun _ m nx => m = m₀ ∧ nx = news) (fun _ _ _ h => h.2 ▸ hm) ⟨rfl, rfl⟩ (fun i v m₁ nx h tk I io hv => by simp at hv) fun m' nx h' tk hJ F' N' => h h' tk (hJ.1 ▸ F') (hJ.2 ▸ N')
end

end
section
open PySem PySem.W PySem.Calls PyProof.Rows PyProof.V PySem.Spec
section
variable {prog : Program} {w : World} {A : Around} {E : Value → Shared → Prop} {s : Shared} {h₀ : Heap} {L : Addr} {m : PySem.Str → Option Value} {news : List (Addr × Obj)}
theorem made_list {l : Addr} {items : Array Value} {n : Nat} (N : News h₀ L s.heap news) (hm : (l, listOf items n) ∈ news) : s.heap.IsList l items := ⟨_, (N _ hm).1, rfl, n, rfl⟩
theorem ne_len {a b : Addr} {x y : Array Value} {n k : Nat} {Q : Value → Shared → Prop} (N : News h₀ L s.heap news) (m1 : (a, listOf x n) ∈ news) (m2 : (b, listOf y k) ∈ news) (hsz : (x.size != y.size) = true) (hu : A.units < cLine) (h : Q (.bool true) s) :
    wpAny (model prog w) A (compareOp .NotEq (.ref a) (.ref b)) Q E s := SeqAt.RcNeAt.lists_lengths (made_list N m1) (made_list N m2) hsz hu prog w E Q h
theorem ne_nil {a b : Addr} {n k : Nat} {Q : Value → Shared → Prop} (N : News h₀ L s.heap news) (m1 : (a, listOf #[] n) ∈ news) (m2 : (b, listOf #[] k) ∈ news) (hu : A.units + 64 < cLine) (h : Q (.bool false) s) :
    wpAny (model prog w) A (compareOp .NotEq (.ref a) (.ref b)) Q E s := ne_intsK (ns := []) (ms := []) (vs := []) (us := []) (made_list N m1) .nil (made_list N m2) .nil hu h

theorem news_one {h : Heap} {all nw : List (Addr × Obj)} {x : Addr × Obj} (N : News h₀ L h all) (hx : x ∈ all) (sub : ∀ p ∈ nw, p ∈ all) : News h₀ L h (x :: nw) := fun p hp => by
  rcases List.mem_cons.mp hp with rfl | hp
  · exact N _ hx
  · exact N _ (sub p hp)
theorem tend1 {s₁ : Shared} {I : Addr} {io : Obj} {m₀ m' : PySem.Str → Option Value} {xs : List PySem.Str} {J : List (Option Value) → List (Addr × Obj) → Prop} {Q : Flow → Shared → Prop} {h' : Heap} {tk : Nat} {all nx ld : List (Addr × Obj)}
    (F : Fr h₀ L h' m') (N : News h₀ L h' all) (hm : (I, io) ∈ all) (sub : ∀ p ∈ nx, p ∈ all) (hmap : nx.map (·.1) = ld.map (·.1)) (hI : ∀ p ∈ ld, p.1 ≠ I) (same : ∀ y, y ∉ xs → m' y = m₀ y) (j : J (xs.map m') nx) :
    TPost h₀ L s₁ [(I, io)] (JM m₀ xs J) Q .next { s₁ with heap := h', toks := tk } :=
  ⟨h', tk, m', all, nx, rfl, F, N, fun p hp => by rw [List.mem_singleton.mp hp]; exact hm, sub, fun p hp q hq => by
    rw [List.mem_singleton.mp hq]
    have : p.1 ∈ ld.map (·.1) := hmap ▸ List.mem_map_of_mem hp
    obtain ⟨r, hr, e⟩ := List.mem_map.mp this
    exact e ▸ hI r hr, same, j⟩
theorem tend2 {s₁ : Shared} {I I' : Addr} {io io' : Obj} {m₀ m' : PySem.Str → Option Value} {xs : List PySem.Str} {J : List (Option Value) → List (Addr × Obj) → Prop} {Q : Flow → Shared → Prop} {h' : Heap} {tk : Nat} {all nx ld : List (Addr × Obj)}
    (F : Fr h₀ L h' m') (N : News h₀ L h' all) (hm : (I, io) ∈ all) (hm' : (I', io') ∈ all) (sub : ∀ p ∈ nx, p ∈ all) (hmap : ∀ a ∈ nx.map (·.1), a ≠ I ∧ a ≠ I') (same : ∀ y, y ∉ xs → m' y = m₀ y) (j : J (xs.map m') nx) :
    TPost h₀ L s₁ [(I, io), (I', io')] (JM m₀ xs J) Q .next { s₁ with heap := h', toks := tk } :=
  ⟨h', tk, m', all, nx, rfl, F, N, fun p hp => by
    rcases List.mem_cons.mp hp with rfl | hp
    · exact hm
    · rw [List.mem_singleton.mp hp]; exact hm', sub, fun p hp q hq => by
    have := hmap _ (List.mem_map_of_mem hp)
    rcases List.mem_cons.mp hq with rfl | hq
    · exact this.1
    · rw [List.mem_singleton.mp hq]; exact this.2, same, j⟩
omit prog w A E s h₀ L m news in
theorem off3_I {I C D : Addr} {l : List (Addr × Obj)} (x : LCg.Off3 I C D l) : ∀ p ∈ l, p.1 ≠ I := fun p hp => (x.mem p hp).1
omit prog w A E s h₀ L m news in
theorem off3_C {I C D : Addr} {l : List (Addr × Obj)} (x : LCg.Off3 I C D l) : ∀ p ∈ l, p.1 ≠ C := fun p hp => (x.mem p hp).2.1
omit prog w A E s h₀ L m news in
theorem off3_D {I C D : Addr} {l : List (Addr × Obj)} (x : LCg.Off3 I C D l) : ∀ p ∈ l, p.1 ≠ D := fun p hp => (x.mem p hp).2.2
omit prog w A E s h₀ L m news in
theorem off1_D {D : Addr} : ∀ {l : List (Addr × Obj)}, LCg.Off1 D l → ∀ p ∈ l, p.1 ≠ D
  | [], _, _, h => nomatch h
  | _ :: _, x, p, h => by
    rcases List.mem_cons.mp h with rfl | h
    · exact x.1
    · exact off1_D x.2 p h
omit prog w A E s h₀ L m news in
theorem allLt_s1 {d : Addr} {l : List (Addr × Obj)} (x : AllLt d l) : ∀ p ∈ l, p.1 ≠ d + 1 := fun p hp => Nat.ne_of_lt (Nat.lt_succ_of_lt (allLt_lt x p hp))
omit prog w A E s h₀ L m news in
theorem allLt_s2 {d : Addr} {l : List (Addr × Obj)} (x : AllLt d l) : ∀ p ∈ l, p.1 ≠ d + 1 + 1 := fun p hp => Nat.ne_of_lt (Nat.lt_succ_of_lt (Nat.lt_succ_of_lt (allLt_lt x p hp)))
omit prog w A E s h₀ L m news in
theorem allLt_s3 {d : Addr} {l : List (Addr × Obj)} (x : AllLt d l) : ∀ p ∈ l, p.1 ≠ d + 1 + 1 + 1 := fun p hp => Nat.ne_of_lt (Nat.lt_succ_of_lt (Nat.lt_succ_of_lt (Nat.lt_succ_of_lt (allLt_lt x p hp))))
omit prog w A E s h₀ L m news in
theorem allLt_s4 {d : Addr} {l : List (Addr × Obj)} (x : AllLt d l) : ∀ p ∈ l, p.1 ≠ d + 1 + 1 + 1 + 1 := fun p hp => Nat.ne_of_lt (Nat.lt_succ_of_lt (Nat.lt_succ_of_lt (Nat.lt_succ_of_lt (Nat.lt_succ_of_lt (allLt_lt x p hp)))))
omit prog w A E s h₀ L m news in
theorem off3_cons {I C D a : Addr} {o : Obj} {l : List (Addr × Obj)} (h1 : @Ne Nat a I) (h2 : @Ne Nat a C) (h3 : @Ne Nat a D) (r : LCg.Off3 I C D l) : LCg.Off3 I C D ((a, o) :: l) := ⟨⟨h1, h2, h3⟩, r⟩
noncomputable def EmpSrc (h₀ : Heap) (L : Addr) (m : PySem.Str → Option Value) (Q : Value → Shared → Prop) (xv : Value) (s₁ : Shared) : Prop :=
  ∃ ax news, xv = .ref ax ∧ Fr h₀ L s₁.heap m ∧ News h₀ L s₁.heap news ∧ h₀.IsTuple ax #[] ∧ ∀ D h tk, Fr h₀ L h m → News h₀ L h ((D, LCg.lst []) :: news) → LCg.Off1 D news → Q (.ref D) { s₁ with heap := h, toks := tk }
theorem ListComp_E {env : Env} {elt iter : PySem.Expr} {x : PySem.Str} {px : Pos} {scope : Scope} {cl : List (PySem.Str × Addr)} {pos : Pos} {Q : Value → Shared → Prop} (_F₀ : Fr h₀ L s.heap m) (hh : A.handled = none)
    (hclos : closureFor scope env = pure cl) (hcell : ∀ y ∈ scope.names, y.2 ≠ .cell) (hkind : scope.kind = .function)
    (hnames : ∀ y ∈ scope.names, y.2 = .local → scope.names.lookup y.1 = some .local) (hx : scope.names.lookup x = some .local)
    (hs : ∀ x, foldedSetIterable iter env x = pure x)
    (h : wpAny (model prog w) A (eval iter env) (EmpSrc h₀ L m Q) E s) :
    wpAny (model prog w) A (eval (.ListComp elt [⟨.Name x px, iter, [], 0⟩] scope pos) env) Q E s := by
  rw [eval_ListComp]
  refine wpAny_comprehension_free (use := none) rfl hs hclos hkind hnames (wpAny_mono h (fun xv s₁ h₁ => ?_) fun _ _ e => e)
  obtain ⟨ax, news, rfl, F, N, ht, R⟩ := h₁
  have hl : s₁.heap.IsTuple ax #[] := let ⟨o, e, r⟩ := ht; ⟨o, F.keep _ _ e, r⟩
  have hlt : ax < s₁.heap.objs.size := by obtain ⟨_, e, _⟩ := hl; exact Heap.lt_size e
  refine wpAny_pyIter_tuple hl ?_
  have up : ∀ b o, s₁.heap.get? b = some o → (s₁.heap.push { cls := .type "tuple_iterator", data := .fields #[.ref ax, .int 0 0] }).get? b = some o := fun b o e => Heap.get?_push_of_some _ e
  refine LCg.block_U (S := fun _ => True) (Fin := fun ys nw => ys = [] ∧ nw = news) (news := news) (Walks.tuple hh s₁.heap.objs.size ax (Nat.ne_of_lt hlt) #[]) (Nat.zero_le _) (fun i h st => by obtain ⟨o, e, _⟩ := st.1; exact ⟨o, e⟩) ?_ hcell hkind hx ⟨⟨_, Heap.get?_push_size _ rfl, rfl, rfl⟩, ?_⟩ (fun b hb => ?_)
      (F.keeps up) (N.grown up) (Nat.ne_of_lt F.ns.lt) (next_is_new F) (fun p hp => Nat.ne_of_lt (Heap.lt_size (N p hp).1)) trivial ⟨rfl, rfl⟩ ?_
  · intro i h h' o nw st e e' k _ _
    refine ⟨?_, ?_⟩
    · obtain ⟨o', q, r⟩ := st.1
      rw [e] at q; cases q
      exact ⟨o, e', r⟩
    · obtain ⟨o', q, r⟩ := ht
      exact ⟨o', k _ _ q, r⟩
  · obtain ⟨o', q, r⟩ := hl
    exact ⟨o', up _ _ q, r⟩
  · show b < (s₁.heap.push _).objs.size
    rw [Heap.size_push]
    rcases List.mem_cons.mp hb with rfl | hb
    · exact Nat.lt_succ_self _
    · rw [List.mem_singleton.mp hb]; exact Nat.lt_succ_of_lt hlt
  · rintro D C h tk m' ys news' F' N' o1 hn hC₀ hD₀ hCL hDL hCD offC ⟨rfl, rfl⟩
    refine ⟨m', hn, fun h'' hs'' => R D h'' tk (F'.change hs'' hCL hC₀) (fun p hp => ?_) o1⟩
    refine ⟨hs''.extBut _ _ ?_ (N' p hp).1, (N' p hp).2⟩
    rcases List.mem_cons.mp hp with rfl | hp
    · exact Ne.symm hCD
    · exact offC p hp
omit prog w A E s h₀ L m news in
theorem isTup_K {K : Frag} {h : Heap} {a : Addr} {its : Array Value} {n : Nat} {od : Option Addr} {sl : Array (Option Value)} (X : K.In h) (e : K.lookup a = some ⟨.type "tuple", od, .seq its n, sl⟩) : h.IsTuple a its := ⟨_, X _ _ e, rfl, n, rfl⟩
theorem zip_nil {env : Env} {elts : List PySem.Expr} {k : Nat} {pos : Pos} {body : List Stmt} {Q : Flow → Shared → Prop} {m₀ : PySem.Str → Option Value} {l1 l2 : Addr} {n1 n2 : Nat} (hh : A.handled = none) (F : Fr h₀ env.locals s.heap m₀) (N : News h₀ env.locals s.heap news) (m1 : (l1, listOf #[] n1) ∈ news) (m2 : (l2, listOf #[] n2) ∈ news)
    (done : ∀ h tk, Fr h₀ env.locals h m₀ → News h₀ env.locals h news → Q .next { s with heap := h, toks := tk }) :
    wpAny (model prog w) A (call (.type "zip") [.ref l1, .ref l2]) (fun xv s₁ => wpAny (model prog w) A (pyIter xv) (fun it s₂ => TurnsAt prog w A h₀ env (.Tuple elts k pos) body Q E it s₂) E s₁) E s :=
  ktu_zip (xs := []) (ys := []) hh F N m1 rfl rfl m2 rfl rfl fun I l => ItemsRest.zero done
omit prog w A E s h₀ L m news in
theorem off3_same {I C D : Addr} {l l' : List (Addr × Obj)} (x : LCg.Off3 I C D l) (e : l'.map (·.1) = l.map (·.1)) : LCg.Off3 I C D l' := LCg.Off3.of fun p hp => by
  have : p.1 ∈ l.map (·.1) := e ▸ List.mem_map_of_mem hp
  obtain ⟨r, hr, e⟩ := List.mem_map.mp this
  exact e ▸ x.mem r hr
theorem item_made {value slice : PySem.Expr} {l : Addr} {items : Array Value} {n : Nat} {k : Int} {u : Tok} {v : Value} {Q : Value → Shared → Prop} (N : News h₀ L s.heap news) (hm : (l, listOf items n) ∈ news) (h0 : 0 ≤ k) (hfit : k < 2 ^ 63) (hx : items.toList[k.toNat]? = some v) (h : Q v s)
    (hs : subscripted slice false (.ref l) (.int k u) = operate [.ref l, .int k u] (getItem (.ref l) (.int k u)) := by with_unfolding_all rfl) :
    wpAny (model prog w) A (subscriptTail value slice (.ref l) (.int k u)) Q E s :=
  have hL := made_list N hm
  tail_any hL.typeIs F.slot_list_getitem.lookup (wpAny_getItem_list hL h0 hfit (by simpa using hx) h) hs
theorem item_tup {value slice : PySem.Expr} {l : Addr} {items : Array Value} {k : Int} {u : Tok} {j : Nat} {v : Value} {Q : Value → Shared → Prop} (N : News h₀ L s.heap news) (hm : (l, tupOf items) ∈ news) (hlo : -(2 ^ 63) ≤ k) (hfit : k < 2 ^ 63) (hj : seqIndex? k items.size = some j) (hx : items.toList[j]? = some v) (h : Q v s)
    (hs : subscripted slice false (.ref l) (.int k u) = operate [.ref l, .int k u] (getItem (.ref l) (.int k u)) := by with_unfolding_all rfl) :
    wpAny (model prog w) A (subscriptTail value slice (.ref l) (.int k u)) Q E s :=
  have ht : IsTup s.heap l items := ⟨_, (N _ hm).1, rfl, 0, rfl⟩
  tail_any ht.typeIs F.slot_tuple_getitem.lookup (getItem_tuple ht hlo hfit hj (by simpa using hx) h) hs
theorem item_tupK {K : Frag} {value slice : PySem.Expr} {l : Addr} {items : Array Value} {n : Nat} {dd : Option Addr} {sl : Array (Option Value)} {k : Int} {u : Tok} {j : Nat} {v : Value} {Q : Value → Shared → Prop} (F₀ : Fr h₀ L s.heap m) (X : K.In h₀) (e : K.lookup l = some ⟨.type "tuple", dd, .seq items n, sl⟩) (hlo : -(2 ^ 63) ≤ k) (hfit : k < 2 ^ 63) (hj : seqIndex? k items.size = some j) (hx : items.toList[j]? = some v) (h : Q v s)
    (hs : subscripted slice false (.ref l) (.int k u) = operate [.ref l, .int k u] (getItem (.ref l) (.int k u)) := by with_unfolding_all rfl) :
    wpAny (model prog w) A (subscriptTail value slice (.ref l) (.int k u)) Q E s :=
  have ht : IsTup s.heap l items := ⟨_, F₀.keep _ _ (X _ _ e), rfl, n, rfl⟩
  tail_any ht.typeIs F.slot_tuple_getitem.lookup (getItem_tuple ht hlo hfit hj (by simpa using hx) h) hs
end

end
section
open PySem PySem.W PySem.Calls PyProof.Rows PyProof.V PySem.Spec
section
variable {prog : Program} {w : World} {A : Around} {E : Value → Shared → Prop} {s : Shared} {h₀ : Heap} {L : Addr} {m : PySem.Str → Option Value} {env : Env} {elt ct : PySem.Expr} {x x₂ : PySem.Str} {scope : Scope} {cl : List (PySem.Str × Addr)}
  {S : List (Addr × Obj) → Prop} {P : Nat → Value → Prop} {Fin : List Value → List (Addr × Obj) → Prop} {news : List (Addr × Obj)} {n : Nat}
theorem rest_J (J : Nat → List Value → List (Addr × Obj) → Prop) (j0 : J 0 [] news)
    (turn : ∀ i ys nx v I oI C oC D m₂ h tk (E' : Value → Shared → Prop), i < n → J i ys nx → P i v → LCg.NsObj oC m₂ → m₂ x = some v → Fr h₀ L h m → News h₀ L h ((I, oI) :: (C, oC) :: (D, LCg.lst ys) :: nx) → LCg.Off3 I C D nx → ((@Ne Nat I C) ∧ (@Ne Nat I D) ∧ (@Ne Nat C D)) →
      wpAny (model prog w) A (eval elt (compEnvC scope cl C env)) (LCg.CompEnd h₀ L m { s with heap := h, toks := tk } I oI C oC D (LCg.lst ys) S (fun y nx' => J (i + 1) (ys ++ [y]) nx')) E' { s with heap := h, toks := tk })
    (fin : ∀ ys nx, J n ys nx → Fin ys nx) : LCg.CompRest prog w A h₀ L m env elt x scope cl s S P Fin n 0 [] news := by
  have key : ∀ (k i : Nat) (ys : List Value) (nx : List (Addr × Obj)), i + k = n → J i ys nx → LCg.CompRest prog w A h₀ L m env elt x scope cl s S P Fin k i ys nx := by
    intro k
    induction k with
    | zero => intro i ys nx hi hJ; obtain rfl : i = n := by omega
              exact LCg.CompRest.zero (fin _ _ hJ)
    | succ k ih =>
      intro i ys nx hi hJ
      refine LCg.CompRest.succ fun v I oI C oC D m₂ h tk E' hv hC hx F N off ne => ?_
      refine wpAny_mono (turn i ys nx v I oI C oC D m₂ h tk E' (by omega) hJ hv hC hx F N off ne) (fun y s₂ h₂ => ?_) fun _ _ e => e
      obtain ⟨h', tk', nx', e, F', N', off', hS, hJ'⟩ := h₂
      exact ⟨h', tk', nx', e, F', N', off', hS, ih (i + 1) _ _ (by omega) hJ'⟩
  exact key n 0 [] news (by omega) j0
theorem restT_J (J : Nat → List Value → List (Addr × Obj) → Prop) (j0 : J 0 [] news)
    (turn : ∀ i ys nx v I oI C oC D m₂ h tk (E' : Value → Shared → Prop), i < n → J i ys nx → P i v → LCg.NsObj oC m₂ → m₂ x = some v → Fr h₀ L h m → News h₀ L h ((I, oI) :: (C, oC) :: (D, LCg.lst ys) :: nx) → LCg.Off3 I C D nx → ((@Ne Nat I C) ∧ (@Ne Nat I D) ∧ (@Ne Nat C D)) →
      wpAny (model prog w) A (isTrue ct (compEnvC scope cl C env) (eval ct (compEnvC scope cl C env))) (fun ok s' => if ok = true then
        wpAny (model prog w) A (eval elt (compEnvC scope cl C env)) (LCg.CompEnd h₀ L m { s with heap := h, toks := tk } I oI C oC D (LCg.lst ys) S (fun y nx' => J (i + 1) (ys ++ [y]) nx')) E' s'
        else LCg.CompEnd h₀ L m { s with heap := h, toks := tk } I oI C oC D (LCg.lst ys) S (fun _ nx' => J (i + 1) ys nx') Value.none s') E' { s with heap := h, toks := tk })
    (fin : ∀ ys nx, J n ys nx → Fin ys nx) : LCt.CompRestT prog w A h₀ L m env ct elt x scope cl s S P Fin n 0 [] news := by
  have key : ∀ (k i : Nat) (ys : List Value) (nx : List (Addr × Obj)), i + k = n → J i ys nx → LCt.CompRestT prog w A h₀ L m env ct elt x scope cl s S P Fin k i ys nx := by
    intro k
    induction k with
    | zero => intro i ys nx hi hJ; obtain rfl : i = n := by omega
              exact LCt.CompRestT.zero (fin _ _ hJ)
    | succ k ih =>
      intro i ys nx hi hJ
      refine LCt.CompRestT.succ fun v I oI C oC D m₂ h tk E' hv hC hx F N off ne => ?_
      refine wpAny_mono (turn i ys nx v I oI C oC D m₂ h tk E' (by omega) hJ hv hC hx F N off ne) (fun ok s₂ h₂ => ?_) fun _ _ e => e
      cases ok with
      | true =>
        simp only [if_true] at h₂ ⊢
        refine wpAny_mono h₂ (fun y s₃ h₃ => ?_) fun _ _ e => e
        obtain ⟨h', tk', nx', e, F', N', off', hS, hJ'⟩ := h₃
        exact ⟨h', tk', nx', e, F', N', off', hS, ih (i + 1) _ _ (by omega) hJ'⟩
      | false =>
        simp only [Bool.false_eq_true, if_false] at h₂ ⊢
        obtain ⟨h', tk', nx', e, F', N', off', hS, hJ'⟩ := h₂
        exact ⟨h', tk', nx', e, F', N', off', hS, ih (i + 1) _ _ (by omega) hJ'⟩
  exact key n 0 [] news (by omega) j0
theorem restP_J (J : Nat → List Value → List (Addr × Obj) → Prop) (j0 : J 0 [] news)
    (turn : ∀ i ys nx v, i < n → J i ys nx → P i v → ∃ (t : Addr) (ot : Obj) (v₁ v₂ : Value) (nt : Nat), v = .ref t ∧ (t, ot) ∈ nx ∧ ot.cls = .type "tuple" ∧ ot.data = .seq #[v₁, v₂] nt ∧
      ∀ I oI C oC D m₂ h tk (E' : Value → Shared → Prop), LCg.NsObj oC m₂ → m₂ x = some v₁ → m₂ x₂ = some v₂ → Fr h₀ L h m → News h₀ L h ((I, oI) :: (C, oC) :: (D, LCg.lst ys) :: nx) → LCg.Off3 I C D nx → ((@Ne Nat I C) ∧ (@Ne Nat I D) ∧ (@Ne Nat C D)) →
      wpAny (model prog w) A (eval elt (compEnvC scope cl C env)) (LCg.CompEnd h₀ L m { s with heap := h, toks := tk } I oI C oC D (LCg.lst ys) S (fun y nx' => J (i + 1) (ys ++ [y]) nx')) E' { s with heap := h, toks := tk })
    (fin : ∀ ys nx, J n ys nx → Fin ys nx) : LCp.CompRestP prog w A h₀ L m env elt x x₂ scope cl s S P Fin n 0 [] news := by
  have key : ∀ (k i : Nat) (ys : List Value) (nx : List (Addr × Obj)), i + k = n → J i ys nx → LCp.CompRestP prog w A h₀ L m env elt x x₂ scope cl s S P Fin k i ys nx := by
    intro k
    induction k with
    | zero => intro i ys nx hi hJ; obtain rfl : i = n := by omega
              exact LCp.CompRestP.zero (fin _ _ hJ)
    | succ k ih =>
      intro i ys nx hi hJ
      refine LCp.CompRestP.succ fun v hv => ?_
      obtain ⟨t, ot, v₁, v₂, nt, e1, e2, e3, e4, tr⟩ := turn i ys nx v (by omega) hJ hv
      refine ⟨t, ot, v₁, v₂, nt, e1, e2, e3, e4, fun I oI C oC D m₂ h tk E' hC hx hx2 F N off ne => ?_⟩
      refine wpAny_mono (tr I oI C oC D m₂ h tk E' hC hx hx2 F N off ne) (fun y s₂ h₂ => ?_) fun _ _ e => e
      obtain ⟨h', tk', nx', e, F', N', off', hS, hJ'⟩ := h₂
      exact ⟨h', tk', nx', e, F', N', off', hS, ih (i + 1) _ _ (by omega) hJ'⟩
  exact key n 0 [] news (by omega) j0
end

end
section
open PySem PySem.W PySem.Calls PyProof.Rows PyProof.V PySem.Spec
section
variable {prog : Program} {w : World} {A : Around} {E : Value → Shared → Prop} {s : Shared} {h₀ : Heap} {L : Addr} {m : PySem.Str → Option Value} {env : Env} {elt ct iter : PySem.Expr} {x x₂ : PySem.Str} {scope : Scope} {cl : List (PySem.Str × Addr)} {pos px px₂ tp : Pos} {tk₀ : Nat}
/-- one clause, a pair for its target, one test -/
theorem loop_pt {target : PySem.Expr} {it acc : Value} {R : Result → Shared → Prop} (I : Nat → Shared → Prop)
    (turn : ∀ n s, I n s → wpAny (model prog w) A (pyNext it) (fun r s₁ => match r with
      | none => R (.ok .next) s₁
      | some v => wpAny (model prog w) A (letOwnedTupleGo target it v) (fun _ s₂ => wpAny (model prog w) A (assign target env v) (fun _ s₃ =>
          wpAny (model prog w) A (isTrue ct env (eval ct env)) (fun ok s₄ => if ok = true then wpAny (model prog w) A (eval elt env) (fun y s₅ =>
              wpAny (model prog w) A (call (.builtin "list.append") [acc, y]) (fun _ s₆ => ∃ k, k < n ∧ I k s₆) (notedBy (model prog w) A env fun e s' => R (.error e) s') s₅) (notedBy (model prog w) A env fun e s' => R (.error e) s') s₄
            else ∃ k, k < n ∧ I k s₄) (notedBy (model prog w) A env fun e s' => R (.error e) s') s₃) (notedBy (model prog w) A env fun e s' => R (.error e) s') s₂) (notedBy (model prog w) A env fun e s' => R (.error e) s') s₁)
      (notedBy (model prog w) A env fun e s' => R (.error e) s') s)
    (n : Nat) (h : I n s) : codeAny (model prog w) A (.compLoop (.ListComp elt [⟨target, iter, [ct], 0⟩] scope pos) 0 it acc env) R s := by
  refine codeAny_loop rfl I (fun n s hI => ?_) n h
  show wpAny _ A ((compTurn (.ListComp elt [⟨target, iter, [ct], 0⟩] scope pos) 0 it acc env).onRaise (fun x => do noteFrame x env; theTreesLotGoes x)) _ _ s
  refine wpAny_noted ?_
  rw [compTurn_list]
  refine wpAny_bind (wpAny_standAt (wpAny_bind (wpAny_mono (turn n s hI) (fun r s₁ h₁ => ?_) fun _ _ e => e)))
  cases r with
  | none => exact wpAny_pure h₁
  | some v =>
    refine wpAny_bind (wpAny_mono h₁ (fun _ s₂ h₂ => wpAny_bind (wpAny_mono h₂ (fun _ s₃ h₃ => wpAny_bind (wpAny_mono (wpAny_tests_one h₃) (fun ok s₄ h₄ => ?_) fun _ _ e => e)) fun _ _ e => e)) fun _ _ e => e)
    cases ok with
    | false => exact wpAny_pure ⟨rfl, h₄⟩
    | true => exact wpAny_bind (wpAny_bind (wpAny_mono h₄ (fun y s₅ h₅ => wpAny_bind (wpAny_mono h₅ (fun _ s₆ h₆ => wpAny_pure (wpAny_pure ⟨rfl, h₆⟩)) fun _ _ e => e)) fun _ _ e => e))
/-- the source of such a comprehension, what its test and its element tell, and the end -/
noncomputable def PTSrc (prog : Program) (w : World) (A : Around) (h₀ : Heap) (L : Addr) (m : PySem.Str → Option Value) (env : Env) (ct elt : PySem.Expr) (x x₂ : PySem.Str) (scope : Scope) (cl : List (PySem.Str × Addr)) (Q : Value → Shared → Prop) (xv : Value) (s₁ : Shared) : Prop :=
  ∃ (ax n : Nat) (vs : List Value) (news : List (Addr × Obj)) (J : Nat → List Value → Prop), xv = .ref ax ∧ A.handled = none ∧ Fr h₀ L s₁.heap m ∧ News h₀ L s₁.heap news ∧ (ax, listOf vs.toArray n) ∈ news ∧ vs.length ≤ sizeLine ∧ J 0 [] ∧
    (∀ i, i < vs.length → ∃ t v₁ v₂, vs[i]? = some (.ref t) ∧ (t, tupOf #[v₁, v₂]) ∈ news ∧
      ∀ ys C oC D m₂ h tk (E' : Value → Shared → Prop), J i ys → LCg.NsObj oC m₂ → m₂ x = some v₁ → m₂ x₂ = some v₂ → Fr h₀ L h m → News h₀ L h ((C, oC) :: (D, LCg.lst ys) :: news) →
        wpAny (model prog w) A (isTrue ct (compEnvC scope cl C env) (eval ct (compEnvC scope cl C env))) (fun ok s' => (∃ tk', s' = { s₁ with heap := h, toks := tk' }) ∧
          if ok = true then wpAny (model prog w) A (eval elt (compEnvC scope cl C env)) (fun y s'' => (∃ tk', s'' = { s₁ with heap := h, toks := tk' }) ∧ J (i + 1) (ys ++ [y])) E' s' else J (i + 1) ys) E' { s₁ with heap := h, toks := tk }) ∧
    ∀ D h tk ys, J vs.length ys → Fr h₀ L h m → News h₀ L h ((D, LCg.lst ys) :: news) → LCg.Off1 D news → Q (.ref D) { s₁ with heap := h, toks := tk }
theorem off1_of {D : Addr} : ∀ {l : List (Addr × Obj)}, (∀ p ∈ l, p.1 ≠ D) → LCg.Off1 D l
  | [], _ => trivial
  | _ :: _, h => ⟨h _ (.head _), off1_of fun p hp => h p (.tail _ hp)⟩
theorem pt_core {R : Result → Shared → Prop} {I C D ax : Addr} {n : Nat} {vs : List Value} {news : List (Addr × Obj)} {J : Nat → List Value → Prop} {s₁ : Shared} {h₁ : Heap} {tk₁ : Nat} {m' : PySem.Str → Option Value}
    (hh : A.handled = none) (hkind : scope.kind = .function) (hx : scope.names.lookup x = some .local) (hx₂ : scope.names.lookup x₂ = some .local) (hxx : x ≠ x₂)
    (hit : h₁.IsListIter I ax 0) (hl : h₁.IsList ax vs.toArray) (F : Fr h₀ L h₁ m) (hC : h₁.Ns C m') (N : News h₀ L h₁ ((D, LCg.lst []) :: news)) (hax : (ax, listOf vs.toArray n) ∈ news) (hsz : vs.length ≤ sizeLine) (j0 : J 0 [])
    (nIC : I ≠ C) (nID : I ≠ D) (nCD : C ≠ D) (nCL : C ≠ L) (nIL : I ≠ L) (hI₀ : h₀.get? I = none) (hC₀ : h₀.get? C = none) (off : ∀ p ∈ news, p.1 ≠ I ∧ p.1 ≠ C ∧ p.1 ≠ D)
    (tr : ∀ i, i < vs.length → ∃ t v₁ v₂, vs[i]? = some (.ref t) ∧ (t, tupOf #[v₁, v₂]) ∈ news ∧
      ∀ ys C oC D m₂ h tk (E' : Value → Shared → Prop), J i ys → LCg.NsObj oC m₂ → m₂ x = some v₁ → m₂ x₂ = some v₂ → Fr h₀ L h m → News h₀ L h ((C, oC) :: (D, LCg.lst ys) :: news) →
        wpAny (model prog w) A (isTrue ct (compEnvC scope cl C env) (eval ct (compEnvC scope cl C env))) (fun ok s' => (∃ tk', s' = { s₁ with heap := h, toks := tk' }) ∧
          if ok = true then wpAny (model prog w) A (eval elt (compEnvC scope cl C env)) (fun y s'' => (∃ tk', s'' = { s₁ with heap := h, toks := tk' }) ∧ J (i + 1) (ys ++ [y])) E' s' else J (i + 1) ys) E' { s₁ with heap := h, toks := tk })
    (fin : ∀ h tk ys m', J vs.length ys → Fr h₀ L h m → h.Ns C m' → News h₀ L h ((D, LCg.lst ys) :: news) → R (.ok .next) { s₁ with heap := h, toks := tk }) :
    codeAny (model prog w) A (.compLoop (.ListComp elt [⟨.Tuple [.Name x px, .Name x₂ px₂] tk₀ tp, iter, [ct], 0⟩] scope pos) 0 (.ref I) (.ref D) (compEnvC scope cl C env)) R { s₁ with heap := h₁, toks := tk₁ } := by
  have W : Walks prog w A I [I, ax] [I] vs.toArray.size (fun i v => vs.toArray[i]? = some v) (fun i h => h.IsListIter I ax i ∧ h.IsList ax vs.toArray) := Walks.list hh I ax (off _ hax).1 vs.toArray
  have nD₀ : h₀.get? D = none := (N (D, LCg.lst []) (.head _)).2.2
  have nDL : D ≠ L := (N (D, LCg.lst []) (.head _)).2.1
  have nAC : ax ≠ C := (off _ hax).2.1
  have nAD : ax ≠ D := (off _ hax).2.2
  refine loop_pt (fun k s' => ∃ h' tk i ys m', s' = { s₁ with heap := h', toks := tk } ∧ i ≤ vs.length ∧ k = vs.length + 1 - i ∧ ys.length ≤ i ∧ J i ys ∧ (h'.IsListIter I ax i ∧ h'.IsList ax vs.toArray) ∧ Fr h₀ L h' m ∧ h'.Ns C m' ∧ News h₀ L h' ((D, LCg.lst ys) :: news))
    ?_ (vs.length + 1) ⟨h₁, tk₁, 0, [], m', rfl, Nat.zero_le _, rfl, Nat.le_refl _, j0, ⟨hit, hl⟩, F, hC, N⟩
  rintro k s' ⟨h', tk, i, ys, m₁, rfl, hi, rfl, hy, hJ, st, F', hn', N'⟩
  by_cases hlt : i < vs.length
  · obtain ⟨t, v₁, v₂, hv, hmt, T⟩ := tr i hlt
    refine W.item i _ _ _ (by simpa using hlt) st fun v h₂ tk₂ hPv st₂ hk₂ => ?_
    obtain rfl : v = .ref t := by
      have : vs[i]? = some v := by simpa using hPv
      rw [hv] at this
      exact (Option.some.inj this).symm
    have nI : ∀ p ∈ (D, LCg.lst ys) :: news, p.1 ≠ I := fun p hp => by
      rcases List.mem_cons.mp hp with rfl | hp
      · exact Ne.symm nID
      · exact (off p hp).1
    have nC : ∀ p ∈ (D, LCg.lst ys) :: news, p.1 ≠ C := fun p hp => by
      rcases List.mem_cons.mp hp with rfl | hp
      · exact Ne.symm nCD
      · exact (off p hp).2.1
    have N₂ := LCg.news_but N' hk₂ nI
    have F₂ := LCg.fr_but F' hk₂ (Ne.symm nIL) hI₀
    have hn₂ := hn'.at' fun o e => hk₂ _ o (by simpa using Ne.symm nIC) e
    have ht : IsTup h₂ t #[v₁, v₂] := ⟨_, (N₂ _ (.tail _ hmt)).1, rfl, 0, rfl⟩
    refine wpAny_letOwnedTupleGo_listiter st₂.1 (assign_Tuple_tuple hh ht rfl rfl fun h₃ ext => ?_)
    have up : ∀ b o, h₂.get? b = some o → h₃.get? b = some o := fun b o e => ext b o (Nat.ne_of_lt (Heap.lt_size e)) e
    refine assignInOrder_cons (wpAny_assign_Name (wpAny_storeName_local (lookup_relabel_local hx) (hn₂.at' fun o e => up _ o e) (fun h₄ hn₄ hs₄ => ?_) (by simp [compEnvC, relabel, hkind])))
    refine assignInOrder_cons (wpAny_assign_Name (wpAny_storeName_local (lookup_relabel_local hx₂) hn₄ (fun h₅ hn₅ hs₅ => ?_) (by simp [compEnvC, relabel, hkind])))
    refine assignInOrder_nil ?_
    have but : ∀ b o, b ≠ C → h₂.get? b = some o → h₅.get? b = some o := fun b o hb e => hs₅.extBut b o hb (hs₄.extBut b o hb (up b o e))
    have F₅ : Fr h₀ L h₅ m := ((F₂.keeps up).change hs₄ nCL hC₀).change hs₅ nCL hC₀
    obtain ⟨oC, heC, hoC⟩ := LCg.ns_obj hn₅
    have N₅ : News h₀ L h₅ ((C, oC) :: (D, LCg.lst ys) :: news) := fun p hp => by
      rcases List.mem_cons.mp hp with rfl | hp
      · exact ⟨heC, nCL, hC₀⟩
      · exact ⟨but _ _ (nC p hp) (N₂ p hp).1, (N₂ p hp).2⟩
    have st₅ : h₅.IsListIter I ax (i + 1) ∧ h₅.IsList ax vs.toArray := ⟨st₂.1.at fun o e => but _ o nIC e, st₂.2.at fun o e => but _ o nAC e⟩
    refine wpAny_mono (T ys C oC D _ h₅ _ _ hJ hoC (by simp [hxx]) (by simp) F₅ N₅) (fun ok s₄ q => ?_) fun _ _ e => e
    obtain ⟨⟨tk₄, rfl⟩, q⟩ := q
    cases ok with
    | false =>
      simp only [Bool.false_eq_true, if_false] at q ⊢
      exact ⟨vs.length + 1 - (i + 1), by omega, h₅, tk₄, i + 1, ys, _, rfl, hlt, rfl, Nat.le_succ_of_le hy, q, st₅, F₅, hn₅, fun p hp => N₅ p (.tail _ hp)⟩
    | true =>
      simp only [if_true] at q ⊢
      refine wpAny_mono q (fun y s₅ q => ?_) fun _ _ e => e
      obtain ⟨⟨tk₅, rfl⟩, q⟩ := q
      refine append_at (hsz := by show ys.toArray.size ≤ sizeLine; rw [List.size_toArray]; exact Nat.le_trans (Nat.le_trans hy hi) hsz) (N₅ _ (.tail _ (.head _))).1 fun h₆ hs₆ hD₆ => ?_
      refine ⟨vs.length + 1 - (i + 1), by omega, h₆, tk₅, i + 1, ys ++ [y], _, rfl, hlt, rfl, by rw [List.length_append, List.length_singleton]; exact Nat.succ_le_succ hy, q, ⟨st₅.1.at fun o e => hs₆.extBut _ o nID e, st₅.2.at fun o e => hs₆.extBut _ o nAD e⟩, F₅.change hs₆ nDL nD₀, hn₅.sameBut hs₆ nCD, fun p hp => ?_⟩
      rcases List.mem_cons.mp hp with rfl | hp
      · exact ⟨hD₆.trans (congrArg some (LCg.lst_snoc ys y)), nDL, nD₀⟩
      · exact ⟨hs₆.extBut _ _ (off p hp).2.2 (N₅ p (.tail _ (.tail _ hp))).1, (N₅ p (.tail _ (.tail _ hp))).2⟩
  · obtain rfl : i = vs.length := Nat.le_antisymm hi (Nat.not_lt.mp hlt)
    refine W.done _ _ _ (by simpa using st) fun h₂ tk₂ hk₂ => ?_
    refine fin h₂ tk₂ ys _ hJ (LCg.fr_but F' hk₂ (Ne.symm nIL) hI₀) (hn'.at' fun o e => hk₂ _ o (by simpa using Ne.symm nIC) e) (LCg.news_but N' hk₂ fun p hp => ?_)
    rcases List.mem_cons.mp hp with rfl | hp
    · exact Ne.symm nID
    · exact (off p hp).1
theorem ListComp_PT {Q : Value → Shared → Prop} (_F₀ : Fr h₀ L s.heap m)
    (hclos : closureFor scope env = pure cl) (hcell : ∀ y ∈ scope.names, y.2 ≠ .cell) (hkind : scope.kind = .function)
    (hnames : ∀ y ∈ scope.names, y.2 = .local → scope.names.lookup y.1 = some .local) (hx : scope.names.lookup x = some .local) (hx₂ : scope.names.lookup x₂ = some .local) (hxx : x ≠ x₂)
    (hs : ∀ x, foldedSetIterable iter env x = pure x)
    (h : wpAny (model prog w) A (eval iter env) (PTSrc prog w A h₀ L m env ct elt x x₂ scope cl Q) E s) :
    wpAny (model prog w) A (eval (.ListComp elt [⟨.Tuple [.Name x px, .Name x₂ px₂] tk₀ tp, iter, [ct], 0⟩] scope pos) env) Q E s := by
  rw [eval_ListComp]
  refine wpAny_comprehension_free (use := none) rfl hs hclos hkind hnames (wpAny_mono h (fun xv s₁ h₁ => ?_) fun _ _ e => e)
  obtain ⟨ax, n, vs, news, J, rfl, hh, F, N, hax, hsz, j0, tr, fin⟩ := h₁
  have hl : s₁.heap.IsList ax vs.toArray := made_list N hax
  have hlt : ax < s₁.heap.objs.size := by obtain ⟨_, e, _⟩ := hl; exact Heap.lt_size e
  refine wpAny_pyIter_list hl ?_
  have up : ∀ b o, s₁.heap.get? b = some o → (s₁.heap.push { cls := .type "list_iterator", data := .fields #[.ref ax, .int 0 0] }).get? b = some o := fun b o e => Heap.get?_push_of_some _ e
  have hit0 : (s₁.heap.push { cls := .type "list_iterator", data := .fields #[.ref ax, .int 0 0] }).IsListIter s₁.heap.objs.size ax 0 := ⟨_, Heap.get?_push_size _ rfl, rfl, rfl⟩
  have hD : (s₁.heap.push { cls := .type "list_iterator", data := .fields #[.ref ax, .int 0 0] }).objs.size = s₁.heap.objs.size + 1 := Heap.size_push ..
  generalize (s₁.heap.push { cls := .type "list_iterator", data := .fields #[.ref ax, .int 0 0] }) = H1 at *
  have sz : ∀ b o, s₁.heap.get? b = some o → @LT.lt Nat _ b s₁.heap.objs.size := fun b o e => Heap.lt_size e
  have hIn := next_is_new F
  have hLlt : @LT.lt Nat _ L s₁.heap.objs.size := F.ns.lt
  have f₀ : ∀ b o, h₀.get? b = some o → @LT.lt Nat _ b s₁.heap.objs.size := fun b o e => sz b o (F.keep b o e)
  generalize s₁.heap.objs.size = I at *
  refine wpAny_newObj_type (wpAny_newFunctionEnv hcell (by intro y hy; simp at hy) (fun h₁ hns₁ hsb₁ => ?_) hkind)
  dsimp only at hns₁ hsb₁ ⊢
  have up2 : ∀ b o, H1.get? b = some o → (H1.push { cls := .type "list", dict := none, data := .seq ([] : List Value).toArray }).get? b = some o := fun b o e => Heap.get?_push_of_some _ e
  have hacc : (H1.push { cls := .type "list", dict := none, data := .seq ([] : List Value).toArray }).get? H1.objs.size = some (LCg.lst []) := Heap.get?_push_size _ rfl
  have hC : (H1.push { cls := .type "list", dict := none, data := .seq ([] : List Value).toArray }).objs.size = H1.objs.size + 1 := Heap.size_push ..
  generalize (H1.push { cls := .type "list", dict := none, data := .seq ([] : List Value).toArray }) = H2 at *
  generalize H1.objs.size = D at *
  generalize H2.objs.size = C at *
  have eD : (D : Nat) = I + 1 := hD
  have eC : (C : Nat) = D + 1 := hC
  have nIC : I ≠ C := fun e => by have e' : (I : Nat) = C := e; omega
  have nID : I ≠ D := fun e => by have e' : (I : Nat) = D := e; omega
  have nCD : C ≠ D := fun e => by have e' : (C : Nat) = D := e; omega
  have nCL : C ≠ L := fun e => by have e' : (C : Nat) = L := e; omega
  have nDL : D ≠ L := fun e => by have e' : (D : Nat) = L := e; omega
  have nIL : I ≠ L := fun e => by have e' : (I : Nat) = L := e; omega
  have hC₀ : h₀.get? C = none := by
    cases e : h₀.get? C with
    | none => rfl
    | some o => have e' : @LT.lt Nat _ C I := f₀ C o e; omega
  have hD₀ : h₀.get? D = none := by
    cases e : h₀.get? D with
    | none => rfl
    | some o => have e' : @LT.lt Nat _ D I := f₀ D o e; omega
  have keep : ∀ b o, b ≠ C → H2.get? b = some o → h₁.get? b = some o := fun b o hb e => hsb₁.extBut b o hb (Heap.get?_push_of_some _ e)
  have old : ∀ b o, s₁.heap.get? b = some o → h₁.get? b = some o := fun b o e => keep b o (fun e' => by have e1 : @LT.lt Nat _ b I := sz b o e; have e2 : (b : Nat) = C := e'; omega) (up2 _ _ (up _ _ e))
  have offN : ∀ p ∈ news, p.1 ≠ I ∧ p.1 ≠ C ∧ p.1 ≠ D := fun p hp => by
    have e1 : @LT.lt Nat _ p.1 I := sz _ _ (N p hp).1
    have e2 : @LT.lt Nat _ I C := by omega
    have e3 : @LT.lt Nat _ I D := by omega
    exact ⟨Nat.ne_of_lt e1, Nat.ne_of_lt (Nat.lt_trans e1 e2), Nat.ne_of_lt (Nat.lt_trans e1 e3)⟩
  have hit : h₁.IsListIter I ax 0 := hit0.at fun o e => keep I o nIC (up2 _ _ e)
  have F1 : Fr h₀ L h₁ m := F.keeps old
  have N1 : News h₀ L h₁ ((D, LCg.lst []) :: news) := fun p hp => by
    rcases List.mem_cons.mp hp with rfl | hp
    · exact ⟨keep _ _ (Ne.symm nCD) hacc, nDL, hD₀⟩
    · exact ⟨old _ _ (N p hp).1, (N p hp).2⟩
  have loop : ∀ s₃ : Shared, s₃ = { s₁ with heap := h₁, toks := s₁.toks + ([] : List (PySem.Str × Value)).length } →
      codeAny (model prog w) A (.compLoop (.ListComp elt [⟨.Tuple [.Name x px, .Name x₂ px₂] tk₀ tp, iter, [ct], 0⟩] scope pos) 0 (.ref I) (.ref D) (compEnvC scope cl C env))
        (compPost (model prog w) A E none Q (.ref D) C) s₃ := by
    rintro s₃ rfl
    refine pt_core hh hkind hx hx₂ hxx hit (hl.at fun o e => old _ o e) F1 hns₁ N1 hax hsz j0 nIC nID nCD nCL nIL hIn hC₀ offN tr ?_
    intro h tk ys m' hJ F' hn N'
    refine ⟨m', hn, fun h'' hs'' => fin D h'' tk ys hJ (F'.change hs'' nCL hC₀) (fun p hp => ?_) (off1_of fun p hp => (offN p hp).2.2)⟩
    refine ⟨hs''.extBut _ _ ?_ (N' p hp).1, (N' p hp).2⟩
    rcases List.mem_cons.mp hp with rfl | hp
    · exact Ne.symm nCD
    · exact (offN p hp).2.1
  exact codeAny_compStart_list (loop _ rfl) ((Walks.list hh I ax (offN _ hax).1 vs.toArray).self 0 _ _ _ ⟨hit, hl.at fun o e => old _ o e⟩ (loop _ rfl))
end

end
section
open PySem PySem.W PySem.Calls PyProof.Rows PyProof.V PySem.Spec
theorem no_keys : typeLookup (.type "list") "keys" = pure none := by rw [typeLookup_type, builtinLookup_eq_fast]; kernel_rfl
theorem plain_dloop : plainId "dict.update.loop" = true := by decide +kernel
theorem entry_dloop : entryFor table "dict.update.loop" = some Builtin.«dict.update.loop» := entryFor_of_tree (by kernel_rfl)
section
variable {prog : Program} {w : World} {A : Around} {E : Value → Shared → Prop} {s : Shared}
theorem keys_miss {a : Addr} {xs : Array Value} {k : Nat} {Q : Option Value → Shared → Prop} (hx : s.heap.get? a = some (listOf xs k)) (hA : A.handled = none)
    (h : ∀ h' tk, (∀ b o, s.heap.get? b = some o → h'.get? b = some o) → Q none { s with heap := h', toks := tk }) : wpAny (model prog w) A (getAttr? (.ref a) "keys") Q E s := by
  obtain ⟨hp, g, d, tk, os⟩ := s
  have hT : ∀ tk', (⟨hp, g, d, tk', os⟩ : Shared).TypeIs (.ref a) "list" := fun _ => ⟨_, hx, rfl⟩
  have f1 := sub_AttributeError
  have f3 := PySem.F.slot_list_getattribute.lookup
  have f4 := PySem.F.slot_list_getattribute.bind (.ref a)
  have f5 := am_list_getattr_none
  unfold getAttr? getAttrBy? getAttrBy
  repeat (any_goals (first | assumption | exact hT _ | ((with_reducible show wpAny _ _ (call (Value.builtin "list.__getattribute__") _ _) _ _ _); refine call_meets PySem.F.slot_list_getattribute (hT _) am_entry_list_getattribute (PySem.F.args_list_getattribute_2 _ _) (meets_getattribute_miss_list a xs k #[] "keys" _ no_keys (by decide +kernel) (by size_fits)) ⟨hx, hA, fun h' tk' e hx' => ?_⟩) | wp_step))
  obtain ⟨t', u', he⟩ := hx'.there
  show wpAny _ _ (getattributeRaised _ _ _ _ _ _ _) _ _ _
  unfold getattributeRaised
  repeat (any_goals (first | assumption | wp_step))
  exact h _ _ hx'.keeps
noncomputable def accD (ps : List (PySem.Str × Value)) (i : Nat) : List (PySem.Str × Value) := (ps.take i).foldl (fun l p => stored l p.1 p.2) []
theorem accD_succ {ps : List (PySem.Str × Value)} {i : Nat} {p : PySem.Str × Value} (h : ps[i]? = some p) : accD ps (i + 1) = stored (accD ps i) p.1 p.2 := by
  unfold accD
  rw [List.take_add_one, h]
  simp only [Option.toList_some, List.foldl_append, List.foldl_cons, List.foldl_nil]
theorem dloop {d I l : Addr} {items : Array Value} {ps : List (PySem.Str × Value)} {ts : Nat → Addr} {tk : Nat → Tok} {R : Result → Shared → Prop}
    (hA : A.handled = none) (hn : items.size = ps.length) (hz : ps.length ≤ 1000) (ndI : d ≠ I) (ndl : d ≠ l) (nIl : I ≠ l) (nt : ∀ j, j < ps.length → ts j ≠ d ∧ ts j ≠ I)
    (hit : ∀ j, j < ps.length → items[j]? = some (.ref (ts j))) :
    ∀ (k i : Nat) (s : Shared) (t0 : Tok), i + k = ps.length → s.heap.IsListIter I l i → s.heap.IsList l items → (∀ j p, ps[j]? = some p → IsTup s.heap (ts j) #[.str p.1 (tk j), p.2]) → s.heap.DictOf (PySem.strKind prog w) d (accD ps i) → (accD ps i).length ≤ i →
      (∀ h' tk', h'.DictOf (PySem.strKind prog w) d (accD ps ps.length) → (∀ b o, b ≠ d → b ≠ I → s.heap.get? b = some o → h'.get? b = some o) → R (.ok (.ret .none)) { s with heap := h', toks := tk' }) →
      codeAny (model prog w) A (.builtin "dict.update.loop" ⟨[.ref d, .ref I, .int (i : Int) t0, .none], []⟩) R s := by
  intro k
  induction k with
  | zero =>
    intro i s t0 hi st hl hT hD _ hR
    obtain rfl : i = ps.length := by omega
    refine codeAny_builtin entry_dloop ?_
    rw [Around.under_plainId plain_dloop _]
    unfold Builtin.«dict.update.loop»
    refine wpAny_bind (wpAny_pyNext_list_end hA st hl (by simp [hn]) fun h' he => ?_)
    dsimp only
    show wpAny _ _ (Builtin.Dict.addKeywords d [] >>= _) _ _ _
    refine wpAny_bind (wpAny_pure (wpAny_pure ?_))
    refine hR h' s.toks ?_ fun b o _ hb e => he b o hb e
    obtain ⟨o, e, r⟩ := Heap.dictOf_iff.mp hD
    exact Heap.dictOf_iff.mpr ⟨o, he _ _ ndI e, r⟩
  | succ k ih =>
    intro i s t0 hi st hl hT hD hle hR
    have hlt : i < ps.length := by omega
    refine codeAny_builtin entry_dloop ?_
    rw [Around.under_plainId plain_dloop _]
    unfold Builtin.«dict.update.loop»
    refine wpAny_bind (wpAny_pyNext_list_item st hl (hit i hlt) fun h' st' hs => ?_)
    dsimp only
    obtain ⟨p, hp⟩ : ∃ p, ps[i]? = some p := ⟨_, List.getElem?_eq_getElem hlt⟩
    have hti : IsTup h' (ts i) #[.str p.1 (tk i), p.2] := let ⟨o, e, r⟩ := hT i p hp; ⟨o, hs.extBut _ _ (nt i hlt).2 e, r⟩
    refine wpAny_bind (wpAny_holding ?_)
    have hTT : (⟨h', s.gens, s.drawn, s.toks, s.os⟩ : Shared).TypeIs (.ref (ts i)) "tuple" := hti.typeIs
    obtain ⟨ot, eo, co, nn, dd⟩ := id hti
    have hD' : h'.DictOf (PySem.strKind prog w) d (accD ps i) := by
      obtain ⟨o, e, r⟩ := Heap.dictOf_iff.mp hD
      exact Heap.dictOf_iff.mpr ⟨o, hs.extBut _ _ ndI e, r⟩
    refine wpAny_bind (wpAny_tryCatch ?_)
    unfold Builtin.Dict.pairItems
    refine wpAny_bind (wpAny_typeOf hTT ?_)
    rw [if_pos (by decide)]
    refine wpAny_bind (wpAny_seqItems eo dd (wpAny_pure ?_))
    show wpAny _ _ (holding [Value.str p.1 (tk i), p.2] (dictSet d (Value.str p.1 (tk i)) p.2)) _ _ _
    refine wpAny_holding (wpAny_dictSet_pairs (strKind_is _ _ _ _) hD' (fun h2 hd2 hs2 => ?_) (by rw [sizeLine_eq]; omega))
    refine wpAny_pure ⟨Code.quiet_builtin _ (by decide +kernel), ?_⟩
    have e1 : (i : Int) + 1 = ((i + 1 : Nat) : Int) := by omega
    show codeAny _ _ (.builtin "dict.update.loop" ⟨[.ref d, .ref I, .int ((i : Int) + 1) 0, .none], []⟩) _ _
    rw [e1]
    have hle' : (accD ps (i + 1)).length ≤ i + 1 := by
      rw [accD_succ hp]
      exact Nat.le_trans (stored_length_le _ _ _) (Nat.succ_le_succ hle)
    refine ih (i + 1) _ 0 (by omega) (st'.at fun o e => hs2.extBut _ o (Ne.symm ndI) e) ?_ ?_ (by rw [accD_succ hp]; exact hd2) hle' ?_
    · obtain ⟨o, e, r⟩ := hl
      exact ⟨o, hs2.extBut _ _ (Ne.symm ndl) (hs.extBut _ _ (Ne.symm nIl) e), r⟩
    · intro j q hq
      obtain ⟨o, e, r⟩ := hT j q hq
      have hj : j < ps.length := (List.getElem?_eq_some_iff.mp hq).1
      exact ⟨o, hs2.extBut _ _ (nt j hj).1 (hs.extBut _ _ (nt j hj).2 e), r⟩
    · intro h3 tk3 hd3 hk3
      exact hR h3 tk3 hd3 fun b o hb hb' e => hk3 b o hb hb' (hs2.extBut b o hb (hs.extBut b o hb' e))
variable {h₀ : Heap} {L : Addr} {m : PySem.Str → Option Value} {news : List (Addr × Obj)}
theorem madeL {h : Heap} {l : Addr} {items : Array Value} {n : Nat} (N : News h₀ L h news) (hm : (l, listOf items n) ∈ news) : h.IsList l items := ⟨_, (N _ hm).1, rfl, n, rfl⟩
theorem dict_pairs {l : Addr} {items : Array Value} {n : Nat} {ps : List (PySem.Str × Value)} {ts : Nat → Addr} {tk : Nat → Tok} {Q : Value → Shared → Prop} (F : Fr h₀ L s.heap m) (N : News h₀ L s.heap news) (hbig : sysModules < h₀.objs.size) (hA : A.handled = none) (hm : (l, listOf items n) ∈ news)
    (hn : items.size = ps.length) (hz : ps.length ≤ 1000) (hit : ∀ j, j < ps.length → items[j]? = some (.ref (ts j))) (hT : ∀ j p, ps[j]? = some p → (ts j, tupOf #[.str p.1 (tk j), p.2]) ∈ news)
    (k : ∀ d o h' tk', Fr h₀ L h' m → News h₀ L h' ((d, o) :: news) → (d == sysModules) = false → o.IsDictOf (PySem.strKind prog w) (accD ps ps.length) → (∀ p ∈ news, p.1 < d) → Q (.ref d) { s with heap := h', toks := tk' }) :
    wpAny (model prog w) A (call (.type "dict") [.ref l]) Q E s := by
  have hl := made_list N hm
  have hnew : (s.heap.push { cls := .type "dict", data := .dict #[] }).DictOf (PySem.strKind prog w) s.heap.objs.size [] := Heap.DictOf.new s.heap
  refine callType_codes (Q₁ := fun obj s₁ => obj = .ref s.heap.objs.size ∧ s₁ = { s with heap := s.heap.push { cls := .type "dict", data := .dict #[] } }) PySem.F.kt_called_dict (PySem.F.kt_typeCall_dict_1 _) PySem.F.entry_dict_init (kt_code_dict_new _ ⟨rfl, rfl⟩) ?_
  rintro obj s₁ ⟨rfl, rfl⟩
  refine ⟨hnew.typeIs, PySem.F.args_dict_init_2 _ _, ?_⟩
  unfold Builtin.«dict.__init__»
  refine wpAny_bind ?_
  unfold Builtin.Dict.selfAndRest
  refine wpAny_bind (wpAny_notOrdered_dict hnew.typeIs ?_)
  show wpAny _ _ (pure (s.heap.objs.size, [Value.ref l])) _ _ _
  refine wpAny_pure ?_
  show wpAny _ _ (Builtin.Dict.updateFrom "dict.__init__" s.heap.objs.size (.ref l) [] .none) _ _ _
  unfold Builtin.Dict.updateFrom
  have up : ∀ b o, s.heap.get? b = some o → (s.heap.push { cls := .type "dict", data := .dict #[] }).get? b = some o := fun b o e => Heap.get?_push_of_some _ e
  have hdn := F.notModules hbig
  have hd₀ := next_is_new F
  have hLd : @Ne Nat s.heap.objs.size L := Nat.ne_of_gt F.ns.lt
  have lt : ∀ p ∈ news, @LT.lt Nat _ p.1 s.heap.objs.size := fun p hp => Heap.lt_size (N p hp).1
  have low₀ : ∀ b o, h₀.get? b = some o → @LT.lt Nat _ b s.heap.objs.size := fun b o e => Heap.lt_size (F.keep b o e)
  have F1 := F.keeps up
  have N1 : News h₀ L (s.heap.push { cls := .type "dict", data := .dict #[] }) news := fun p hp => ⟨up _ _ (N p hp).1, (N p hp).2⟩
  have hd1 : @LT.lt Nat _ s.heap.objs.size (s.heap.push { cls := .type "dict", data := .dict #[] }).objs.size := by
    show @LT.lt Nat _ _ _
    rw [Heap.size_push]; exact Nat.lt_succ_self _
  generalize (s.heap.push { cls := .type "dict", data := .dict #[] }) = H at *
  generalize s.heap.objs.size = d at *
  have hl1 : H.IsList l items := madeL N1 hm
  refine wpAny_bind (wpAny_typeOf (T := "list") hl1.typeIs ?_)
  rw [if_pos (by decide)]
  refine wpAny_bind (keys_miss (N1 _ hm).1 hA fun h2 tk2 k2 => ?_)
  rw [if_pos (by rfl)]
  refine wpAny_bind (wpAny_rule ?_)
  have N2 : News h₀ L h2 news := fun p hp => ⟨k2 _ _ (N1 p hp).1, (N1 p hp).2⟩
  have hl2 : h2.IsList l items := madeL N2 hm
  have hD2 : h2.DictOf (PySem.strKind prog w) d [] := by
    obtain ⟨o, e, r⟩ := Heap.dictOf_iff.mp hnew
    exact Heap.dictOf_iff.mpr ⟨o, k2 _ _ e, r⟩
  have hdh2 : @LT.lt Nat _ d h2.objs.size := by
    obtain ⟨o, e, _⟩ := Heap.dictOf_iff.mp hD2
    exact Heap.lt_size e
  have F2 := F1.keeps k2
  refine wpAny_bind (wpAny_pyIter_list hl2 ?_)
  have up3 : ∀ b o, h2.get? b = some o → (h2.push { cls := .type "list_iterator", data := .fields #[.ref l, .int 0 0] }).get? b = some o := fun b o e => Heap.get?_push_of_some _ e
  have hit3 : (h2.push { cls := .type "list_iterator", data := .fields #[.ref l, .int 0 0] }).IsListIter h2.objs.size l 0 := ⟨_, Heap.get?_push_size _ rfl, rfl, rfl⟩
  have N3 : News h₀ L (h2.push { cls := .type "list_iterator", data := .fields #[.ref l, .int 0 0] }) news := fun p hp => ⟨up3 _ _ (N2 p hp).1, (N2 p hp).2⟩
  have F3 := F2.keeps up3
  have lt2 : ∀ p ∈ news, @LT.lt Nat _ p.1 h2.objs.size := fun p hp => Heap.lt_size (N2 p hp).1
  have lL2 : @LT.lt Nat _ L h2.objs.size := F2.ns.lt
  have low2 : ∀ b o, h₀.get? b = some o → @LT.lt Nat _ b h2.objs.size := fun b o e => Heap.lt_size (F2.keep b o e)
  have hD3 : (h2.push { cls := .type "list_iterator", data := .fields #[.ref l, .int 0 0] }).DictOf (PySem.strKind prog w) d [] := hD2.push _
  generalize (h2.push { cls := .type "list_iterator", data := .fields #[.ref l, .int 0 0] }) = H3 at *
  generalize h2.objs.size = I at *
  refine wpAny_pure ⟨Code.quiet_builtin _ (by decide +kernel), ?_⟩
  show codeAny _ _ (.builtin "dict.update.loop" ⟨[.ref d, .ref I, .int ((0 : Nat) : Int) 0, .none], []⟩) _ ⟨H3, s.gens, s.drawn, tk2, s.os⟩
  refine dloop (A := A.in1) (items := items) (ts := ts) (tk := tk) (ps := ps) (show A.in1.handled = none from hA) hn hz (Nat.ne_of_lt hdh2) (Nat.ne_of_gt (lt _ hm)) (Nat.ne_of_gt (lt2 _ hm)) (fun j hj => ?_) hit ps.length 0 ⟨H3, s.gens, s.drawn, tk2, s.os⟩ 0 (Nat.zero_add _) hit3 (madeL N3 hm) (fun j p hp => ⟨_, (N3 _ (hT j p hp)).1, rfl, 0, rfl⟩) (show H3.DictOf _ d (accD ps 0) from hD3) (Nat.le_refl _) ?_
  · have hq := hT j _ (List.getElem?_eq_getElem hj)
    exact ⟨Nat.ne_of_lt (lt _ hq), Nat.ne_of_lt (lt2 _ hq)⟩
  · intro h' tk' hd' hk
    obtain ⟨o, e, r⟩ := Heap.dictOf_iff.mp hd'
    have k5 : ∀ b o, @LT.lt Nat _ b d → H3.get? b = some o → h'.get? b = some o := fun b o hb e => hk b o (Nat.ne_of_lt hb) (Nat.ne_of_lt (Nat.lt_trans hb hdh2)) e
    refine ⟨rfl, k d o h' tk' ⟨F3.ns.at' fun o e => hk L o (Ne.symm hLd) (Nat.ne_of_lt lL2) e, fun b o e => k5 b o (low₀ b o e) (F3.keep b o e), F3.above⟩ (fun p hp => ?_) hdn r lt⟩
    rcases List.mem_cons.mp hp with rfl | hp
    · exact ⟨e, hLd, hd₀⟩
    · exact ⟨k5 _ _ (lt p hp) (N3 p hp).1, (N3 p hp).2⟩
end
theorem all_s0 {d : Addr} {l : List (Addr × Obj)} (x : ∀ p ∈ l, p.1 < d) : ∀ p ∈ l, p.1 ≠ d := fun p hp => Nat.ne_of_lt (x p hp)
theorem all_s1 {d : Addr} {l : List (Addr × Obj)} (x : ∀ p ∈ l, p.1 < d) : ∀ p ∈ l, p.1 ≠ d + 1 := fun p hp => Nat.ne_of_lt (Nat.lt_succ_of_lt (x p hp))
theorem all_s2 {d : Addr} {l : List (Addr × Obj)} (x : ∀ p ∈ l, p.1 < d) : ∀ p ∈ l, p.1 ≠ d + 1 + 1 := fun p hp => Nat.ne_of_lt (Nat.lt_succ_of_lt (Nat.lt_succ_of_lt (x p hp)))
theorem all_s3 {d : Addr} {l : List (Addr × Obj)} (x : ∀ p ∈ l, p.1 < d) : ∀ p ∈ l, p.1 ≠ d + 1 + 1 + 1 := fun p hp => Nat.ne_of_lt (Nat.lt_succ_of_lt (Nat.lt_succ_of_lt (Nat.lt_succ_of_lt (x p hp))))
theorem all_s4 {d : Addr} {l : List (Addr × Obj)} (x : ∀ p ∈ l, p.1 < d) : ∀ p ∈ l, p.1 ≠ d + 1 + 1 + 1 + 1 := fun p hp => Nat.ne_of_lt (Nat.lt_succ_of_lt (Nat.lt_succ_of_lt (Nat.lt_succ_of_lt (Nat.lt_succ_of_lt (x p hp)))))
noncomputable def Hold (p : Prop) : Prop := p
theorem hold_of {p : Prop} (h : Hold p) : p := h
theorem focusL {h₀ h : Heap} {L : Addr} {all : List (Addr × Obj)} (N : News h₀ L h all) (front : List (Addr × Obj)) (hf : ∀ p ∈ front, p ∈ all) : News h₀ L h (front ++ all.filter fun p => decide (∀ q ∈ front, p.1 ≠ q.1)) := fun p hp => by
  rcases List.mem_append.mp hp with hp | hp
  · exact N _ (hf p hp)
  · exact N p (List.mem_filter.mp hp).1
theorem in_rest {front : List (Addr × Obj)} {p : Addr × Obj} {all : List (Addr × Obj)} (hp : p ∈ all) (ne : ∀ q ∈ front, p.1 ≠ q.1) : p ∈ all.filter fun p => decide (∀ q ∈ front, p.1 ≠ q.1) := List.mem_filter.mpr ⟨hp, by simpa using ne⟩
theorem of_rest {front : List (Addr × Obj)} {p : Addr × Obj} {all : List (Addr × Obj)} (hp : p ∈ all.filter fun p => decide (∀ q ∈ front, p.1 ≠ q.1)) : p ∈ all ∧ ∀ q ∈ front, p.1 ≠ q.1 := by
  have := List.mem_filter.mp hp
  exact ⟨this.1, by simpa using this.2⟩
theorem News.same {h₀ h : Heap} {L : Addr} {all : List (Addr × Obj)} {a : Addr} {o o' : Obj} (N : News h₀ L h all) (x : (a, o) ∈ all) (y : (a, o') ∈ all) : o = o' := Option.some.inj ((N _ x).1.symm.trans (N _ y).1)
section
variable {prog : Program} {w : World} {A : Around} {s : Shared} {h₀ : Heap} {L : Addr} {m : PySem.Str → Option Value} {env : Env} {elt ct : PySem.Expr} {x x₂ : PySem.Str} {scope : Scope} {cl : List (PySem.Str × Addr)}
  {S : List (Addr × Obj) → Prop} {P : Nat → Value → Prop} {Fin : List Value → List (Addr × Obj) → Prop} {news : List (Addr × Obj)} {n : Nat}
theorem rest_JN (J : List (Addr × Obj) → Nat → List Value → List (Addr × Obj) → Prop) (j0 : J news 0 [] news)
    (turn : ∀ i ys nx v I oI C oC D m₂ h tk (E' : Value → Shared → Prop), i < n → J news i ys nx → P i v → LCg.NsObj oC m₂ → m₂ x = some v → Fr h₀ L h m → News h₀ L h ((I, oI) :: (C, oC) :: (D, LCg.lst ys) :: nx) → LCg.Off3 I C D nx → ((@Ne Nat I C) ∧ (@Ne Nat I D) ∧ (@Ne Nat C D)) →
      wpAny (model prog w) A (eval elt (compEnvC scope cl C env)) (LCg.CompEnd h₀ L m { s with heap := h, toks := tk } I oI C oC D (LCg.lst ys) S (fun y nx' => J news (i + 1) (ys ++ [y]) nx')) E' { s with heap := h, toks := tk })
    (fin : ∀ ys nx, J news n ys nx → Fin ys nx) : LCg.CompRest prog w A h₀ L m env elt x scope cl s S P Fin n 0 [] news := rest_J (J news) j0 turn fin
end
/-- a ledger that has grown by newer objects -/
structure Grow (L0 nx : List (Addr × Obj)) : Prop where
  sub : ∀ p ∈ L0, p ∈ nx
  new : ∀ p ∈ nx, p ∈ L0 ∨ ∀ q ∈ L0, @LT.lt Nat _ q.1 p.1
theorem Grow.refl (l : List (Addr × Obj)) : Grow l l := ⟨fun _ h => h, fun _ h => .inl h⟩
theorem Grow.step {L0 nx more : List (Addr × Obj)} (g : Grow L0 nx) (h : ∀ p ∈ more, ∀ q ∈ nx, @LT.lt Nat _ q.1 p.1) : Grow L0 (more ++ nx) := ⟨fun p hp => List.mem_append_right _ (g.sub p hp), fun p hp => by
  rcases List.mem_append.mp hp with hp | hp
  · exact .inr fun q hq => h p hp q (g.sub q hq)
  · exact g.new p hp⟩
noncomputable def nmL : List String := ["ONE", "Two", "THREE"]

end
section
open PySem PySem.W PySem.Calls PyProof.Rows
/-- the caller's own frame: no decoder holds anything there -/
theorem caller_P {prog : Program} {w : World} {t : Sem Fin} {Q : Fin → Shared → Prop} {E : Value → Shared → Prop} {s : Shared} (h : wpP (model prog w) callerA t Q E s) :
    Sem.wp (model prog w) ⟨.builtin "claim.caller" {}, none, none, [], none⟩ t (fun a _ s' => Q a s') (fun e _ s' => E e s') default s :=
  h _ default caller_in (by decide +kernel) (fun x hx => nomatch hx)
theorem thread_P {prog : Program} {w : World} {t : Sem Fin} {s : Shared} {R : Result → Shared → Prop} (hz : s.asleep)
    (h : wpP (model prog w) callerA t (fun fin s' => ∃ f, fin = .done f ∧ (R (.ok f) s' ∧ AllBare s'.gens)) (fun e s' => R (.error e) s' ∧ AllBare s'.gens) s) :
    ∃ n r s' s'', runN (denote table) prog w n s ⟨t, .builtin "claim.caller" {}, default, []⟩ = .halted (outcomeOf r) s' ∧
      schedN (denote table) prog w n (.single s ⟨t, .builtin "claim.caller" {}, default, []⟩) = .halted (outcomeOf r) s' ∧ s'.forget = s''.forget ∧ R r s'' := by
  obtain ⟨n, r, u, v, a, b, c, d⟩ := wp_halts_full (M := model prog w) (R := R) hz (Sem.wp_mono (model prog w) _ t (fun fin p' s' x => by
    obtain ⟨f, rfl, y, z⟩ := x
    exact (⟨y, leftWithCleanup_false_of_bare z⟩ : R (.ok f) s' ∧ _)) (fun e p' s' x => ⟨x.1, leftWithCleanup_false_of_bare x.2⟩) default s (caller_P h))
  exact ⟨n, r, v, u, b, a, c, d⟩
/-- the law's own line: a tree's run ahead of which no decoder stands -/
theorem callFrom_P {c : ClaimW} {tree : List Value → Sem Fin} {w : World} {s : Shared} {free : Addr → Prop} {gens : Prop} {kept : Heap → Prop} (hz : s.asleep) (hgens : s.gens = #[])
    (spec : ∀ args, c.pre args = true → WData.layableAll args = true → ∀ ord : List DictEntry → List DictEntry, (∀ l, (ord l).Perm l) →
      ∃ vs s₁, layAllW c.records (classAt s.heap) w.params ord args s = some (vs, s₁) ∧
        wpP (model c.prog w) callerA (tree vs) (fun fin s' => ∃ f, fin = .done f ∧ ((c.Ends s args vs s₁ (.ok f) s' ∧ s'.os = s.os ∧ kept s'.heap) ∧ AllBare s'.gens))
          (fun e s' => (c.Ends s args vs s₁ (.error e) s' ∧ s'.os = s.os ∧ kept s'.heap) ∧ AllBare s'.gens) s₁) :
    c.CallFrom (fun vs => ⟨tree vs, .builtin "claim.caller" {}, default, []⟩) w free gens kept s := by
  intro args p1 p2 ord p3
  obtain ⟨vs, s₁, laid, walk⟩ := spec args p1 p2 ord p3
  have al := layAllW_rest _ _ _ laid
  obtain ⟨n, r, s', s'', ran, sched, forgot, ends, os, kp⟩ := thread_P (R := fun r s' => c.Ends s args vs s₁ r s' ∧ s'.os = s.os ∧ kept s'.heap) (Shared.asleep_of_life al.2.2.2 hz) walk
  obtain ⟨same, _, _, sos, _⟩ := Shared.forget_eq forgot
  have ends' := ends.congr same
  have kp' : kept s'.heap := by rw [same]; exact kp
  have life : s'.heap.life = s.heap.life := (runN_life _ _ _ ran).trans al.2.2.2
  refine ⟨vs, s₁, laid, n, _, s', sched, ?_, fun _ i x hx => by rw [hgens] at hx; simp at hx, kp', by rw [life], Shared.rest_eq (sos.trans os)⟩
  rcases ends' with ⟨v, rfl, e1, e2, e3, e4, e5⟩ | ⟨e, ob, cls, rfl, e1, e2, e3, e4, e5⟩
  · exact .inl ⟨v, rfl, e1, e2, e3, fun b o y _ => e4 b o y, e5⟩
  · exact .inr ⟨e, ob, cls, rfl, e1, e2, e3, e4, fun b o y _ => e5 b o y⟩

end
section
open PySem PySem.W PySem.Calls PyProof.Rows
theorem fill_once : PySem.Challenge.rw_pq0646_01 = PySem.Challenge.rw_pq0646_01 ∧ K = K := by
  k_fill
  exact ⟨rfl, rfl⟩
section
local macro_rules | `(tactic| kwk_ne) => `(tactic| (iterate 14 (first | done | assumption | apply anR)))
local macro_rules | `(tactic| k_ne) => `(tactic| first | (apply neG; kwk_ne; done) | (apply neL; kwk_ne; done) | (apply Nat.ne_of_gt; kwk_ne; done) | (apply Nat.ne_of_lt; kwk_ne; done))
local macro_rules | `(tactic| k_room) => `(tactic| ktr_room)
section
local macro_rules | `(tactic| k_units) => `(tactic| ktr_units)
local macro_rules | `(tactic| k_all) => `(tactic| first | assumption | exact allLt_mem (by assumption))
theorem flush_C1 : True := by first | walk1 | exact trivial
section
open PySem PySem.W PySem.Calls PyProof.Rows
theorem pow_le {a b : Int} (h0 : 0 ≤ a) (h : a ≤ b) : ∀ n : Nat, a ^ n ≤ b ^ n
  | 0 => by simp
  | n + 1 => by
    rw [Int.pow_succ, Int.pow_succ]
    exact Int.mul_le_mul (pow_le h0 h n) h h0 (Int.pow_nonneg (Int.le_trans h0 h))
/-- the pen's figure stays under this -/
@[irreducible] def big : Int := 2 ^ 1000
theorem big_eq : big = 2 ^ 1000 := by unfold big; rfl
theorem pow_fact {z : Int} (h0 : 0 ≤ z) (h1 : z < 1000) : 0 ≤ (1861 * (z + 1) + 4241) ^ 11 ∧ (1861 * (z + 1) + 4241) ^ 11 < big := by
  rw [big_eq]
  have a0 : (0 : Int) ≤ 1861 * (z + 1) + 4241 := by omega
  refine ⟨Int.pow_nonneg a0, ?_⟩
  have a1 : 1861 * (z + 1) + 4241 ≤ 1870000 := by omega
  exact Int.lt_of_le_of_lt (pow_le a0 a1 11) (by decide +kernel)
theorem div_fact {x k : Int} (h0 : 0 ≤ x) (h1 : x < big) (hk : 0 < k) : 0 ≤ x.fdiv k ∧ x.fdiv k < big ∧ 0 ≤ x.fmod k ∧ x.fmod k < k := by
  rw [Int.fdiv_eq_ediv_of_nonneg _ (Int.le_of_lt hk), Int.fmod_eq_emod_of_nonneg _ (Int.le_of_lt hk)]
  exact ⟨Int.ediv_nonneg h0 (Int.le_of_lt hk), Int.lt_of_le_of_lt (Int.ediv_le_self _ h0) h1, Int.emod_nonneg _ (by omega), Int.emod_lt_of_pos _ hk⟩
theorem pow_step {w : World} {A : Around} {E : Value → Shared → Prop} {s : Shared} {Q : Value → Shared → Prop} {y : Int} {t u : Tok} (h0 : 0 ≤ y) (h1 : y < 1000) (h : Q (.int ((1861 * (y + 1) + 4241) ^ 11) s.toks) { s with toks := s.toks + 1 }) :
    wpAny (model pw w) A (binaryOp .Pow (.int (1861 * (y + 1) + 4241) t) (.int 11 u)) Q E s :=
  pow_int_small (by decide) (by decide) (by omega) h
noncomputable def draw_ok_P (w : World) (dp : Nat) (un : Nat) (gd : Option (List Code)) (cn : Str) (cs : Scope) (L : Addr) (a : Addr) (ccd : Value) (cl : List (Str × Addr)) (outer : List Env) (A₀ : Around) (base : Heap) (h₀ : Heap) (m : Str → Option Value) (news : List (Addr × Obj)) (s : Shared) (Q : Value → Shared → Prop) (E : Value → Shared → Prop) (loose : List Str) (mean : ExcName → Option Value) (mg : Str → Option Value) (mb : Str → Option Value) (pn : Addr) (x : Int) (y : Int) (k : Int) (tx : Tok) (ty : Tok) (tk : Tok) (n : Nat) : Prop := ∀ (B : Below A₀ base outer h₀) (F : Fr h₀ L s.heap m) (X : (K w.params).In h₀) (N : News h₀ L s.heap ((pn, listOf #[.int x tx, .int y ty] n) :: news)) (T : Top q loose mean mg mb h₀) (hk : cs.kind = .function) (hd : dp + 8 < recursionLimit) (hu : un + 64 < cLine) (off : ∀ p ∈ news, p.1 ≠ pn) (hx0 : 0 ≤ x) (hx : x < big) (hy0 : 0 ≤ y) (hy : y < 1000) (hk0 : 0 < k) (hk1 : k < 100) (ret : ∀ x' y' d : Int, ∀ t1 t2 t3 n' h' tk', Fr h₀ L h' m → News h₀ L h' ((pn, listOf #[.int x' t1, .int y' t2] n') :: news) → 0 ≤ x' → x' < big → 0 ≤ y' → y' ≤ y + 1 → 0 ≤ d → d < k → Q (.int d t3) {s with heap := h', toks := tk'}), wpAny (model pw w) (ktrTop dp un gd cn cs L a ccd cl outer) (call (.ref 974) [.ref pn, .int k tk]) Q E s
noncomputable def draw_ok_S (c : Bag) : Prop := draw_ok_P c.w (c.n 0) (c.n 1) c.gd (c.str 0) c.cs (c.n 2) (c.n 3) c.v c.cl c.outer c.ar (c.heap 0) (c.heap 1) (c.m 0) (c.news 0) c.s (c.q 0) (c.q 1) c.loose c.mean (c.m 1) (c.m 2) (c.n 4) (c.i 0) (c.i 1) (c.i 2) (c.n 5) (c.n 6) (c.n 7) (c.n 8)
@[irreducible] noncomputable def draw_ok_c : Bag := pick draw_ok_S
theorem draw_ok_m : draw_ok_S draw_ok_c := by
  refine (?zz9 : ∀ (w : World) (dp : Nat) (un : Nat) (gd : Option (List Code)) (cn : Str) (cs : Scope) (L : Addr) (a : Addr) (ccd : Value) (cl : List (Str × Addr)) (outer : List Env) (A₀ : Around) (base : Heap) (h₀ : Heap) (m : Str → Option Value) (news : List (Addr × Obj)) (s : Shared) (Q : Value → Shared → Prop) (E : Value → Shared → Prop) (loose : List Str) (mean : ExcName → Option Value) (mg : Str → Option Value) (mb : Str → Option Value) (pn : Addr) (x : Int) (y : Int) (k : Int) (tx : Tok) (ty : Tok) (tk : Tok) (n : Nat), draw_ok_P w dp un gd cn cs L a ccd cl outer A₀ base h₀ m news s Q E loose mean mg mb pn x y k tx ty tk n) draw_ok_c.w (draw_ok_c.n 0) (draw_ok_c.n 1) draw_ok_c.gd (draw_ok_c.str 0) draw_ok_c.cs (draw_ok_c.n 2) (draw_ok_c.n 3) draw_ok_c.v draw_ok_c.cl draw_ok_c.outer draw_ok_c.ar (draw_ok_c.heap 0) (draw_ok_c.heap 1) (draw_ok_c.m 0) (draw_ok_c.news 0) draw_ok_c.s (draw_ok_c.q 0) (draw_ok_c.q 1) draw_ok_c.loose draw_ok_c.mean (draw_ok_c.m 1) (draw_ok_c.m 2) (draw_ok_c.n 4) (draw_ok_c.i 0) (draw_ok_c.i 1) (draw_ok_c.i 2) (draw_ok_c.n 5) (draw_ok_c.n 6) (draw_ok_c.n 7) (draw_ok_c.n 8)
  intro w dp un gd cn cs L a ccd cl outer A₀ base h₀ m news s Q E loose mean mg mb pn x y k tx ty tk n B F X N T hk hd hu off hx0 hx hy0 hy hk0 hk1 ret
  refine wpAny_call ?_
  k_dflt ktr_enter
  (repeat' (first | (k_unfold; (try dsimp only)) | (k_end; wrow_close) | ((with_reducible show wpAny _ _ (binaryOp Operator.Pow (Value.int _ _) (Value.int _ _)) _ _ _); k_dflt (refine' pow_step ?aq1 ?bq1 ?_; (case aq1 => assumption); (case bq1 => assumption))) | walk1 | (dsimp only; walk1) | (leave1; walk_say "STEP leave1"; (try dsimp only)) | fail "no step"))
  · have P := pow_fact hy0 hy
    have D := div_fact P.1 P.2 hk0
    rename Fr _ _ _ _ => kF
    rename News _ _ _ _ => kN
    exact ret _ _ _ _ _ _ _ _ _ kF kN D.1 D.2.1 (by show 0 ≤ y + 1; omega) (Int.le_refl _) D.2.2.1 D.2.2.2
  · have D := div_fact hx0 hx hk0
    rename Fr _ _ _ _ => kF
    rename News _ _ _ _ => kN
    exact ret _ _ _ _ _ _ _ _ _ kF kN D.1 D.2.1 hy0 (by show y ≤ y + 1; omega) D.2.2.1 D.2.2.2
theorem draw_ok {w : World} {dp un : Nat} {gd : Option (List Code)} {cn : Str} {cs : Scope} {L a : Addr} {ccd : Value} {cl : List (Str × Addr)} {outer : List Env} {A₀ : Around} {base h₀ : Heap} {m : Str → Option Value} {news : List (Addr × Obj)} {s : Shared} {Q E : Value → Shared → Prop}
   {loose : List Str} {mean : ExcName → Option Value} {mg mb : Str → Option Value} {pn : Addr} {x y k : Int} {tx ty tk : Tok} {n : Nat}
   (B : Below A₀ base outer h₀) (F : Fr h₀ L s.heap m) (X : (K w.params).In h₀) (N : News h₀ L s.heap ((pn, listOf #[.int x tx, .int y ty] n) :: news)) (T : Top q loose mean mg mb h₀) (hk : cs.kind = .function) (hd : dp + 8 < recursionLimit) (hu : un + 64 < cLine)
   (off : ∀ p ∈ news, p.1 ≠ pn) (hx0 : 0 ≤ x) (hx : x < big) (hy0 : 0 ≤ y) (hy : y < 1000) (hk0 : 0 < k) (hk1 : k < 100)
   (ret : ∀ x' y' d : Int, ∀ t1 t2 t3 n' h' tk', Fr h₀ L h' m → News h₀ L h' ((pn, listOf #[.int x' t1, .int y' t2] n') :: news) → 0 ≤ x' → x' < big → 0 ≤ y' → y' ≤ y + 1 → 0 ≤ d → d < k → Q (.int d t3) {s with heap := h', toks := tk'}) :
   wpAny (model pw w) (ktrTop dp un gd cn cs L a ccd cl outer) (call (.ref 974) [.ref pn, .int k tk]) Q E s := by
  exact clo (by with_unfolding_all rfl) draw_ok_m (Bag.mk w gd cs ccd cl outer A₀ s loose mean bag0.qf bag0.qu (lk [un, L, a, pn, tx, ty, tk, n] dp) (lk [] cn) (lk [h₀] base) (lk [mg, mb] m) (lk [] news) (lk [E] Q) (lk [y, k] x) bag0.vs bag0.ns bag0.b bag0.bool bag0.o bag0.avs bag0.kvs bag0.nb bag0.nbool bag0.nn bag0.l bag0.kc bag0.nd bag0.u8 bag0.d bag0.ov) B F X N T hk hd hu off hx0 hx hy0 hy hk0 hk1 ret

end
theorem flush_C2 : True := by first | walk1 | exact trivial
section
open PySem PySem.W PySem.Calls PyProof.Rows
theorem pen_step {x c : Int} {i : Nat} (h0 : 0 ≤ x) (h1 : x < 2 ^ 140 * 2 ^ (11 * i)) :
    0 ≤ x * 1033 + (if c < 0 then -c else c).fmod (10 ^ Int.toNat 40) + 7 * 10 ^ Int.toNat 41 * (if decide (c < 0) = true then 1 else 0) ∧
    x * 1033 + (if c < 0 then -c else c).fmod (10 ^ Int.toNat 40) + 7 * 10 ^ Int.toNat 41 * (if decide (c < 0) = true then 1 else 0) < 2 ^ 140 * 2 ^ (11 * (i + 1)) := by
  have e : (2 : Int) ^ 140 * 2 ^ (11 * (i + 1)) = (2 ^ 140 * 2 ^ (11 * i)) * 2048 := by
    rw [show 11 * (i + 1) = 11 * i + 11 from by omega, Int.pow_add]
    rw [show (2 : Int) ^ 11 = 2048 from by decide, Int.mul_assoc]
  have p : (1 : Int) ≤ 2 ^ (11 * i) := Int.pow_pos (by decide)
  have m : (2 : Int) ^ 140 ≤ 2 ^ 140 * 2 ^ (11 * i) := by
    have := Int.mul_le_mul_of_nonneg_left p (show (0 : Int) ≤ 2 ^ 140 by decide)
    rwa [Int.mul_one] at this
  have t1 : (10 : Int) ^ Int.toNat 40 = 10000000000000000000000000000000000000000 := by decide
  have t2 : (10 : Int) ^ Int.toNat 41 = 100000000000000000000000000000000000000000 := by decide
  rw [e, t1, t2]
  generalize (2 : Int) ^ 140 * 2 ^ (11 * i) = M at *
  have a0 : 0 ≤ (if c < 0 then -c else c).fmod 10000000000000000000000000000000000000000 := by
    rw [Int.fmod_eq_emod_of_nonneg _ (by decide)]; exact Int.emod_nonneg _ (by decide)
  have a1 : (if c < 0 then -c else c).fmod 10000000000000000000000000000000000000000 < 10000000000000000000000000000000000000000 := by
    rw [Int.fmod_eq_emod_of_nonneg _ (by decide)]; exact Int.emod_lt_of_pos _ (by decide)
  generalize (if c < 0 then -c else c).fmod 10000000000000000000000000000000000000000 = a at *
  by_cases hc : c < 0 <;> simp only [hc, decide_true, decide_false, if_true, if_false, Bool.false_eq_true] <;> omega
theorem pen_end {x : Int} {n : Nat} (h1 : x < 2 ^ 140 * 2 ^ (11 * n)) (hn : n ≤ 30) : x < big := by
  rw [big_eq]
  have e : (2 : Int) ^ 140 * 2 ^ (11 * n) = ((2 ^ (140 + 11 * n) : Nat) : Int) := by rw [← Int.pow_add]; norm_cast
  have : (2 ^ (140 + 11 * n) : Nat) ≤ 2 ^ 1000 := Nat.pow_le_pow_right (by decide) (by omega)
  have : ((2 ^ (140 + 11 * n) : Nat) : Int) ≤ ((2 ^ 1000 : Nat) : Int) := by exact_mod_cast this
  rw [e] at h1
  exact Int.lt_of_lt_of_le h1 (by exact_mod_cast this)

noncomputable def pen_ok_P (w : World) (dp : Nat) (un : Nat) (gd : Option (List Code)) (cn : Str) (cs : Scope) (L : Addr) (a : Addr) (ccd : Value) (cl : List (Str × Addr)) (outer : List Env) (A₀ : Around) (base : Heap) (h₀ : Heap) (m : Str → Option Value) (s : Shared) (Q : Value → Shared → Prop) (E : Value → Shared → Prop) (loose : List Str) (mean : ExcName → Option Value) (mg : Str → Option Value) (mb : Str → Option Value) (news : List (Addr × Obj)) (sc : Addr) (vs : List Value) (ns : List Int) : Prop := ∀ (B : Below A₀ base outer h₀) (F : Fr h₀ L s.heap m) (X : (K w.params).In h₀) (T : Top q loose mean mg mb h₀) (hk : cs.kind = .function) (N : News h₀ L s.heap news) (hd : dp + 8 < recursionLimit) (hu : un + 64 < cLine) (hl : base.IsList sc vs.toArray) (hi : IntsAre vs ns) (hlen : ns.length ≤ 63) (ret : ∀ p, ∀ x y : Int, ∀ t1 t2 n h' tk', Fr h₀ L h' m → News h₀ L h' ((p, listOf #[.int x t1, .int y t2] n) :: news) → (∀ q ∈ news, q.1 < p) → 0 ≤ x → x < big → 0 ≤ y → y ≤ 30 → Q (.ref p) {s with heap := h', toks := tk'}), wpAny (model pw w) (ktrTop dp un gd cn cs L a ccd cl outer) (call (.ref 967) [.ref sc]) Q E s
noncomputable def pen_ok_S (c : Bag) : Prop := pen_ok_P c.w (c.n 0) (c.n 1) c.gd (c.str 0) c.cs (c.n 2) (c.n 3) c.v c.cl c.outer c.ar (c.heap 0) (c.heap 1) (c.m 0) c.s (c.q 0) (c.q 1) c.loose c.mean (c.m 1) (c.m 2) (c.news 0) (c.n 4) c.vs c.ns
@[irreducible] noncomputable def pen_ok_c : Bag := pick pen_ok_S
theorem pen_ok_m : pen_ok_S pen_ok_c := by
  refine (?zz9 : ∀ (w : World) (dp : Nat) (un : Nat) (gd : Option (List Code)) (cn : Str) (cs : Scope) (L : Addr) (a : Addr) (ccd : Value) (cl : List (Str × Addr)) (outer : List Env) (A₀ : Around) (base : Heap) (h₀ : Heap) (m : Str → Option Value) (s : Shared) (Q : Value → Shared → Prop) (E : Value → Shared → Prop) (loose : List Str) (mean : ExcName → Option Value) (mg : Str → Option Value) (mb : Str → Option Value) (news : List (Addr × Obj)) (sc : Addr) (vs : List Value) (ns : List Int), pen_ok_P w dp un gd cn cs L a ccd cl outer A₀ base h₀ m s Q E loose mean mg mb news sc vs ns) pen_ok_c.w (pen_ok_c.n 0) (pen_ok_c.n 1) pen_ok_c.gd (pen_ok_c.str 0) pen_ok_c.cs (pen_ok_c.n 2) (pen_ok_c.n 3) pen_ok_c.v pen_ok_c.cl pen_ok_c.outer pen_ok_c.ar (pen_ok_c.heap 0) (pen_ok_c.heap 1) (pen_ok_c.m 0) pen_ok_c.s (pen_ok_c.q 0) (pen_ok_c.q 1) pen_ok_c.loose pen_ok_c.mean (pen_ok_c.m 1) (pen_ok_c.m 2) (pen_ok_c.news 0) (pen_ok_c.n 4) pen_ok_c.vs pen_ok_c.ns
  intro w dp un gd cn cs L a ccd cl outer A₀ base h₀ m s Q E loose mean mg mb news sc vs ns B F X T hk N hd hu hl hi hlen ret
  refine wpAny_call ?_
  k_dflt ktr_enter
  rename Below _ _ _ _ => kB
  k_lift kB
  (repeat' (first | (k_unfold; (try dsimp only)) | (k_end; wrow_close) | ((with_reducible show wpAny _ _ (exec (Stmt.For (Expr.Name ..) (Expr.Subscript ..) ..) _) _ _ _); (rename Fr _ _ _ _ => lFz9); (with_unfolding_all refine' For_turns lFz9 ?_; k_whole)) | walk1 | (dsimp only; walk1) | (leave1; walk_say "STEP leave1"; (try dsimp only)) | fail "no step"))
  rename Fr _ _ _ _ => lF
  rename News _ _ _ _ => lN
  rename IntsAre _ (List.take 30 ns) => lI
  rename (List.take 30 ns).length = _ => lC
  rename List Value => ws
  with_unfolding_all refine' iter_listM (Q := _) [Str.ofString "number", Str.ofString "cell"] (fun ld i us nx => (∃ x t u, us = [some (.int x t), u] ∧ 0 ≤ x ∧ x < 2 ^ 140 * 2 ^ (11 * i)) ∧ nx = ld) (by rfl) lF lN (.head _) rfl rfl ?_ ?_ ?_ ?_
  · rintro i us nx ⟨_, rfl⟩
    exact .head _
  · exact ⟨⟨0, _, _, rfl, by decide, by decide⟩, rfl⟩
  · rintro i v us nx h tk I io hv ⟨⟨x, t, u, rfl, hx0, hx1⟩, rfl⟩ hio hI F' N'
    clear lF lN
    have hlt : i < ws.length := (List.getElem?_eq_some_iff.mp hv).1
    rw [lI.length] at hlt
    obtain ⟨tt, hv'⟩ := lI.get i _ (List.getElem?_eq_getElem hlt)
    obtain rfl : v = .int _ tt := Option.some.inj (hv.symm.trans hv')
    generalize (List.take 30 ns)[i] = c
    k_steps
    rename Fr _ _ _ _ => lF
    rename News _ _ _ _ => lN
    have P := pen_step (c := c) hx0 hx1
    refine ⟨_, _, _, _, _, rfl, lF, lN, fun p hp => ?_, fun p hp => .tail _ hp, fun p hp q hq => ?_, fun y hy => ?_, ⟨_, _, _, rfl, P.1, P.2⟩, rfl⟩
    · rw [List.mem_singleton.mp hp]; exact .head _
    · rw [List.mem_singleton.mp hq]; exact hI p hp
    · have h1 : y ≠ Str.ofString "number" := fun e => hy (e ▸ .head _)
      have h2 : y ≠ Str.ofString "cell" := fun e => hy (e ▸ .tail _ (.head _))
      simp only [h1, h2, if_false, updL, List.zip, List.zipWith, List.lookup_cons, beq_eq_false_iff_ne.mpr h1, beq_eq_false_iff_ne.mpr h2, List.lookup_nil]
  · rintro us nx h tk ⟨⟨x, t, u, rfl, hx0, hx1⟩, rfl⟩ F' N'
    clear lF lN
    have hn : ws.length ≤ 30 := by rw [lI.length, lC]; exact Nat.min_le_left _ _
    have hx2 := pen_end hx1 hn
    k_steps
    rename Fr _ _ _ _ => lF
    rename News _ _ _ _ => lN
    have hy : ((List.take 30 ns).length : Int) ≤ 30 := by rw [lC]; omega
    exact ret _ _ _ _ _ _ _ _ lF (fun p hp => lN p (by rcases List.mem_cons.mp hp with rfl | hp; exact .head _; exact .tail _ (.tail _ (.tail _ hp)))) (by rename _ ∧ _ ∧ AllLt _ news => l9; exact allLt_lt l9.2.2) hx0 hx2 (Int.natCast_nonneg _) hy
theorem pen_ok {w : World} {dp un : Nat} {gd : Option (List Code)} {cn : Str} {cs : Scope} {L a : Addr} {ccd : Value} {cl : List (Str × Addr)} {outer : List Env} {A₀ : Around} {base h₀ : Heap} {m : Str → Option Value} {s : Shared} {Q E : Value → Shared → Prop}
   {loose : List Str} {mean : ExcName → Option Value} {mg mb : Str → Option Value} {news : List (Addr × Obj)} {sc : Addr} {vs : List Value} {ns : List Int}
   (B : Below A₀ base outer h₀) (F : Fr h₀ L s.heap m) (X : (K w.params).In h₀) (T : Top q loose mean mg mb h₀) (hk : cs.kind = .function) (N : News h₀ L s.heap news) (hd : dp + 8 < recursionLimit) (hu : un + 64 < cLine)
   (hl : base.IsList sc vs.toArray) (hi : IntsAre vs ns) (hlen : ns.length ≤ 63)
   (ret : ∀ p, ∀ x y : Int, ∀ t1 t2 n h' tk', Fr h₀ L h' m → News h₀ L h' ((p, listOf #[.int x t1, .int y t2] n) :: news) → (∀ q ∈ news, q.1 < p) → 0 ≤ x → x < big → 0 ≤ y → y ≤ 30 → Q (.ref p) {s with heap := h', toks := tk'}) :
   wpAny (model pw w) (ktrTop dp un gd cn cs L a ccd cl outer) (call (.ref 967) [.ref sc]) Q E s := by
  exact clo (by with_unfolding_all rfl) pen_ok_m (Bag.mk w gd cs ccd cl outer A₀ s loose mean bag0.qf bag0.qu (lk [un, L, a, sc] dp) (lk [] cn) (lk [h₀] base) (lk [mg, mb] m) (lk [] news) (lk [E] Q) bag0.i vs ns bag0.b bag0.bool bag0.o bag0.avs bag0.kvs bag0.nb bag0.nbool bag0.nn bag0.l bag0.kc bag0.nd bag0.u8 bag0.d bag0.ov) B F X T hk N hd hu hl hi hlen ret

end
theorem flush_C3 : True := by first | walk1 | exact trivial
section
open PySem PySem.W PySem.Calls PyProof.Rows
theorem cInt {M : Model} {A : Around} {E : Value → Shared → Prop} {s : Shared} {env : Env} {i k pos} {Q : Value → Shared → Prop} (h : ∀ t t', Q (.int i t) { s with toks := t' }) : wpAny M A (eval (.Constant (.int i) k pos) env) Q E s := wpAny_Constant_int (h _ _)
theorem cStr {M : Model} {A : Around} {E : Value → Shared → Prop} {s : Shared} {env : Env} {x k pos} {Q : Value → Shared → Prop} (h : ∀ t t', Q (.str x t) { s with toks := t' }) : wpAny M A (eval (.Constant (.str x) k pos) env) Q E s := PySem.Calls.Constant_str (h _ _)
section
variable {w : World} {A : Around} {K : Frag} {s : Shared} {h₀ : Heap} {L : Addr} {m : Str → Option Value} {news : List (Addr × Obj)} {E : Value → Shared → Prop}
noncomputable def SetG (w : World) (h₀ : Heap) (L : Addr) (m : Str → Option Value) (s : Shared) (news : List (Addr × Obj)) (dx : Addr) (es : List DictEntry) (n : Nat) (name : Str) (v : Value) (Q : Unit → Shared → Prop) (k : Tok) : Prop :=
  ∃ es' n' news', (putL name (PyData.keyHash w.params name) (.str name k) v es, putN name es n) = (es', n') ∧ Upd dx (dictOf es n) (dictOf es' n') news news' ∧ es'.length ≤ 1000 ∧
      ∀ h' t', Fr h₀ L h' m → News h₀ L h' news' → Q () { s with heap := h', toks := t' }
theorem SetG.intro {w : World} {h₀ : Heap} {L : Addr} {m : Str → Option Value} {s : Shared} {news news' : List (Addr × Obj)} {dx : Addr} {es es' : List DictEntry} {n n' : Nat} {name : Str} {v : Value} {Q : Unit → Shared → Prop} {k : Tok}
  (e : (putL name (PyData.keyHash w.params name) (.str name k) v es, putN name es n) = (es', n')) (U : Upd dx (dictOf es n) (dictOf es' n') news news') (hz : es'.length ≤ 1000)
  (h : ∀ h' t', Fr h₀ L h' m → News h₀ L h' news' → Q () { s with heap := h', toks := t' }) : SetG w h₀ L m s news dx es n name v Q k := ⟨es', n', news', e, U, hz, h⟩
theorem set_dictG {Q : Unit → Shared → Prop} {x dx C : Addr} {ox : Obj} {es : List DictEntry} {n : Nat} {name : Str} {v : Value} (F : Fr h₀ L s.heap m) (X₀ : K.In h₀) (N : News h₀ L s.heap news) (I : InstAt s.heap x ox C (some (dictOf es n))) (hd : ox.dict = some dx)
    (hs : findIn K (.ref C) "__setattr__" = some (some (.builtin "object.__setattr__"))) (hp : plainOver K C = true) (ht : takerIn K C name = some none) (hh : hasDictIn K C = true) (hl : (getL name es).isSome = true)
    (h : ∀ k : Tok, SetG w h₀ L m s news dx es n name v Q k) :
    wpAny (model pw w) A (setAttr (.ref x) name v) Q E s := by
  obtain ⟨es', n', news', e, U, hz, h⟩ := h (s.toks + 1)
  exact set_dict F X₀ N I hd hs hp ht hh hl e U hz fun h' F' N' => h h' _ F' N'
end
theorem AllLt.tail {y : Addr} : ∀ {A news : List (Addr × Obj)}, AllLt y (A ++ news) → ∀ q ∈ news, @LT.lt Nat _ q.1 y
  | [], _, h => fun q hq => allLt_lt h q hq
  | _ :: _, _, h => AllLt.tail h.2
theorem lt_nil {news : List (Addr × Obj)} : ∀ r ∈ ([] : List (Addr × Obj)), ∀ q ∈ news, @LT.lt Nat _ q.1 r.1 := fun _ h => nomatch h
theorem lt_cons {x : Addr × Obj} {l news : List (Addr × Obj)} (h : ∀ q ∈ news, @LT.lt Nat _ q.1 x.1) (t : ∀ r ∈ l, ∀ q ∈ news, @LT.lt Nat _ q.1 r.1) : ∀ r ∈ x :: l, ∀ q ∈ news, @LT.lt Nat _ q.1 r.1 := fun r hr => by
  cases hr with
  | head => exact h
  | tail _ h' => exact t r h'
noncomputable def DItem0 (w : World) (cl kl : Addr) (o : Obj) : Prop := ∃ (k0 v0 k1 v1 k2 k3 v3 k4 v4 k5 k6 k7 v7 k8 k9 k10 k11 k12 k13 k14 k15 v15 k16 v16 k17 v17 k18 : Tok), o = dictOf [en w "level" k0 (.int 1 v0), en w "name" k1 (.str (Str.ofString "R") v1), en w "picture_text" k2 (.none), en w "usage" k3 (.str (Str.ofString "") v3), en w "sign" k4 (.str (Str.ofString "") v4), en w "is_separate" k5 (.bool false), en w "occurs" k6 (.none), en w "redefines" k7 (.str (Str.ofString "") v7), en w "value" k8 (.none), en w "is_justified" k9 (.bool false), en w "is_blank_zero" k10 (.bool false), en w "conditions" k11 (.ref cl), en w "kids" k12 (.ref kl), en w "parent" k13 (.none), en w "renames" k14 (.none), en w "base" k15 (.str (Str.ofString "") v15), en w "offset" k16 (.int 0 v16), en w "size" k17 (.int 0 v17), en w "shape" k18 (.none)] 19

noncomputable def item0_ok_P (w : World) (dp : Nat) (un : Nat) (gd : Option (List Code)) (cn : Str) (cs : Scope) (L : Addr) (a : Addr) (ccd : Value) (cl : List (Str × Addr)) (outer : List Env) (A₀ : Around) (base : Heap) (h₀ : Heap) (m : Str → Option Value) (s : Shared) (Q : Value → Shared → Prop) (E : Value → Shared → Prop) (loose : List Str) (mean : ExcName → Option Value) (mg : Str → Option Value) (mb : Str → Option Value) (news : List (Addr × Obj)) (t1 : Tok) (t2 : Tok) : Prop := ∀ (B : Below A₀ base outer h₀) (F : Fr h₀ L s.heap m) (X : (K w.params).In h₀) (T : Top q loose mean mg mb h₀) (hk : cs.kind = .function) (N : News h₀ L s.heap news) (hd : dp + 6 < recursionLimit) (ret : ∀ x d c1 c2 od h' t', Fr h₀ L h' m → News h₀ L h' ((c2, listOf #[] 0) :: (c1, listOf #[] 0) :: (x, instObj 262 d) :: (d, od) :: news) → DItem0 w c1 c2 od → AllLt d news → @LT.lt Nat _ d x → (@LT.lt Nat _ x c1 ∧ @LT.lt Nat _ d c1 ∧ AllLt c1 news) → (@LT.lt Nat _ c1 c2 ∧ @LT.lt Nat _ x c2 ∧ @LT.lt Nat _ d c2 ∧ AllLt c2 news) → Q (.ref x) { s with heap := h', toks := t' }), wpAny (model pw w) (ktrTop dp un gd cn cs L a ccd cl outer) (call (.ref 262) [.int 1 t1, .str (Str.ofString "R") t2]) Q E s
noncomputable def item0_ok_S (c : Bag) : Prop := item0_ok_P c.w (c.n 0) (c.n 1) c.gd (c.str 0) c.cs (c.n 2) (c.n 3) c.v c.cl c.outer c.ar (c.heap 0) (c.heap 1) (c.m 0) c.s (c.q 0) (c.q 1) c.loose c.mean (c.m 1) (c.m 2) (c.news 0) (c.n 4) (c.n 5)
@[irreducible] noncomputable def item0_ok_c : Bag := pick item0_ok_S
theorem item0_ok_m : item0_ok_S item0_ok_c := by
  refine (?zz9 : ∀ (w : World) (dp : Nat) (un : Nat) (gd : Option (List Code)) (cn : Str) (cs : Scope) (L : Addr) (a : Addr) (ccd : Value) (cl : List (Str × Addr)) (outer : List Env) (A₀ : Around) (base : Heap) (h₀ : Heap) (m : Str → Option Value) (s : Shared) (Q : Value → Shared → Prop) (E : Value → Shared → Prop) (loose : List Str) (mean : ExcName → Option Value) (mg : Str → Option Value) (mb : Str → Option Value) (news : List (Addr × Obj)) (t1 : Tok) (t2 : Tok), item0_ok_P w dp un gd cn cs L a ccd cl outer A₀ base h₀ m s Q E loose mean mg mb news t1 t2) item0_ok_c.w (item0_ok_c.n 0) (item0_ok_c.n 1) item0_ok_c.gd (item0_ok_c.str 0) item0_ok_c.cs (item0_ok_c.n 2) (item0_ok_c.n 3) item0_ok_c.v item0_ok_c.cl item0_ok_c.outer item0_ok_c.ar (item0_ok_c.heap 0) (item0_ok_c.heap 1) (item0_ok_c.m 0) item0_ok_c.s (item0_ok_c.q 0) (item0_ok_c.q 1) item0_ok_c.loose item0_ok_c.mean (item0_ok_c.m 1) (item0_ok_c.m 2) (item0_ok_c.news 0) (item0_ok_c.n 4) (item0_ok_c.n 5)
  intro w dp un gd cn cs L a ccd cl outer A₀ base h₀ m s Q E loose mean mg mb news t1 t2 B F X T hk N hd ret
  k_dflt (refine' call_cls ?k1 ?k2 ?k3 ?k4 ?k5 ?k6 ?_; (case k1 => k_asm); (case k2 => k_asm); (case k3 => k_asm); (case k4 => k_is); (case k5 => k_is); (case k6 => k_is); k_whole; intro x' d' h' F' N' l1 l2; have a1 := allLt_of l1; (try k_lt2 l2); (try k_sweep); first | ktr_enter | k_enter)
  (repeat' (first | (k_unfold; (try dsimp only)) | (k_end; wrow_close) | ((with_reducible show wpAny _ _ (eval (Expr.Constant (Const.int _) _ _) _) _ _ _); refine cInt ?_; intro tz9 kz9) | ((with_reducible show wpAny _ _ (eval (Expr.Constant (Const.str _) _ _) _) _ _ _); refine cStr ?_; intro tz9 kz9) | ((with_reducible show wpAny _ _ (setAttr (Value.ref _) _ _) _ _ _); k_dflt (refine' set_dictG ?k1q ?k2q ?k3q ?k4q ?k5q ?k6q ?k7q ?k8q ?k9q ?k10q ?_; (case k1q => k_asm); (case k2q => k_asm); (case k3q => k_asm); (case k4q => k_inst); (case k5q => exact rfl); (case k6q => k_is); (case k7q => k_is); (case k8q => k_is); (case k9q => k_is); (case k10q => k_get); intro qz9; refine' SetG.intro ?k11q ?k12q ?k13q ?_; (case k11q => k_put); (case k12q => k_upd); (case k13q => exact Nat.le_of_ble_eq_true rfl); k_whole; intro hz9 kz9 Fz9 Nz9; (try k_sweep))) | walk1 | (dsimp only; walk1) | (leave1; walk_say "STEP leave1"; (try dsimp only)) | fail "no step"))
  refine' ret _ _ _ _ _ _ _ ?F ?N ?D a1 l2 ?c ?d
  case F => assumption
  case N => assumption
  case D => exact ⟨_, _, _, _, _, _, _, _, _, _, _, _, _, _, _, _, _, _, _, _, _, _, _, _, _, _, _, rfl⟩
  all_goals assumption

theorem item0_ok {w : World} {dp un : Nat} {gd : Option (List Code)} {cn : Str} {cs : Scope} {L a : Addr} {ccd : Value} {cl : List (Str × Addr)} {outer : List Env} {A₀ : Around} {base h₀ : Heap} {m : Str → Option Value} {s : Shared} {Q E : Value → Shared → Prop}
   {loose : List Str} {mean : ExcName → Option Value} {mg mb : Str → Option Value} {news : List (Addr × Obj)} {t1 t2 : Tok}
   (B : Below A₀ base outer h₀) (F : Fr h₀ L s.heap m) (X : (K w.params).In h₀) (T : Top q loose mean mg mb h₀) (hk : cs.kind = .function) (N : News h₀ L s.heap news) (hd : dp + 6 < recursionLimit) 
   (ret : ∀ x d c1 c2 od h' t', Fr h₀ L h' m → News h₀ L h' ((c2, listOf #[] 0) :: (c1, listOf #[] 0) :: (x, instObj 262 d) :: (d, od) :: news) → DItem0 w c1 c2 od → AllLt d news → @LT.lt Nat _ d x → (@LT.lt Nat _ x c1 ∧ @LT.lt Nat _ d c1 ∧ AllLt c1 news) → (@LT.lt Nat _ c1 c2 ∧ @LT.lt Nat _ x c2 ∧ @LT.lt Nat _ d c2 ∧ AllLt c2 news) → Q (.ref x) { s with heap := h', toks := t' }) :
   wpAny (model pw w) (ktrTop dp un gd cn cs L a ccd cl outer) (call (.ref 262) [.int 1 t1, .str (Str.ofString "R") t2]) Q E s := by
  exact clo (by with_unfolding_all rfl) item0_ok_m (Bag.mk w gd cs ccd cl outer A₀ s loose mean bag0.qf bag0.qu (lk [un, L, a, t1, t2] dp) (lk [] cn) (lk [h₀] base) (lk [mg, mb] m) (lk [] news) (lk [E] Q) bag0.i bag0.vs bag0.ns bag0.b bag0.bool bag0.o bag0.avs bag0.kvs bag0.nb bag0.nbool bag0.nn bag0.l bag0.kc bag0.nd bag0.u8 bag0.d bag0.ov) B F X T hk N hd ret
noncomputable def data0_ok_P (w : World) (dp : Nat) (un : Nat) (gd : Option (List Code)) (cn : Str) (cs : Scope) (L : Addr) (a : Addr) (ccd : Value) (cl : List (Str × Addr)) (outer : List Env) (A₀ : Around) (base : Heap) (h₀ : Heap) (m : Str → Option Value) (s : Shared) (Q : Value → Shared → Prop) (E : Value → Shared → Prop) (loose : List Str) (mean : ExcName → Option Value) (mg : Str → Option Value) (mb : Str → Option Value) (news : List (Addr × Obj)) : Prop := ∀ (B : Below A₀ base outer h₀) (F : Fr h₀ L s.heap m) (X : (K w.params).In h₀) (T : Top q loose mean mg mb h₀) (hk : cs.kind = .function) (N : News h₀ L s.heap news) (hd : dp + 6 < recursionLimit) (ret : ∀ x d wl ll df sl ix odf oix k0 k1 k2 k3 k4 v4 k5 h' t', Fr h₀ L h' m → News h₀ L h' ((ix, oix) :: (sl, listOf #[] 0) :: (df, odf) :: (ll, listOf #[] 0) :: (wl, listOf #[] 0) :: (x, instObj 288 d) :: (d, dictOf [en w "working" k0 (.ref wl), en w "linkage" k1 (.ref ll), en w "files" k2 (.ref df), en w "sorts" k3 (.ref sl), en w "size" k4 (.int 0 v4), en w "indexes" k5 (.ref ix)] 6) :: news) → Emp w df odf → Emp w ix oix → AllLt d news → @LT.lt Nat _ d x → (@LT.lt Nat _ x wl ∧ @LT.lt Nat _ d wl ∧ AllLt wl news) → (@LT.lt Nat _ wl ll ∧ @LT.lt Nat _ x ll ∧ @LT.lt Nat _ d ll ∧ AllLt ll news) → (@LT.lt Nat _ ll df ∧ @LT.lt Nat _ wl df ∧ @LT.lt Nat _ x df ∧ @LT.lt Nat _ d df ∧ AllLt df news) → (@LT.lt Nat _ df sl ∧ @LT.lt Nat _ ll sl ∧ @LT.lt Nat _ wl sl ∧ @LT.lt Nat _ x sl ∧ @LT.lt Nat _ d sl ∧ AllLt sl news) → (@LT.lt Nat _ sl ix ∧ @LT.lt Nat _ df ix ∧ @LT.lt Nat _ ll ix ∧ @LT.lt Nat _ wl ix ∧ @LT.lt Nat _ x ix ∧ @LT.lt Nat _ d ix ∧ AllLt ix news) → Q (.ref x) { s with heap := h', toks := t' }), wpAny (model pw w) (ktrTop dp un gd cn cs L a ccd cl outer) (call (.ref 288) []) Q E s
noncomputable def data0_ok_S (c : Bag) : Prop := data0_ok_P c.w (c.n 0) (c.n 1) c.gd (c.str 0) c.cs (c.n 2) (c.n 3) c.v c.cl c.outer c.ar (c.heap 0) (c.heap 1) (c.m 0) c.s (c.q 0) (c.q 1) c.loose c.mean (c.m 1) (c.m 2) (c.news 0)
@[irreducible] noncomputable def data0_ok_c : Bag := pick data0_ok_S
theorem data0_ok_m : data0_ok_S data0_ok_c := by
  refine (?zz9 : ∀ (w : World) (dp : Nat) (un : Nat) (gd : Option (List Code)) (cn : Str) (cs : Scope) (L : Addr) (a : Addr) (ccd : Value) (cl : List (Str × Addr)) (outer : List Env) (A₀ : Around) (base : Heap) (h₀ : Heap) (m : Str → Option Value) (s : Shared) (Q : Value → Shared → Prop) (E : Value → Shared → Prop) (loose : List Str) (mean : ExcName → Option Value) (mg : Str → Option Value) (mb : Str → Option Value) (news : List (Addr × Obj)), data0_ok_P w dp un gd cn cs L a ccd cl outer A₀ base h₀ m s Q E loose mean mg mb news) data0_ok_c.w (data0_ok_c.n 0) (data0_ok_c.n 1) data0_ok_c.gd (data0_ok_c.str 0) data0_ok_c.cs (data0_ok_c.n 2) (data0_ok_c.n 3) data0_ok_c.v data0_ok_c.cl data0_ok_c.outer data0_ok_c.ar (data0_ok_c.heap 0) (data0_ok_c.heap 1) (data0_ok_c.m 0) data0_ok_c.s (data0_ok_c.q 0) (data0_ok_c.q 1) data0_ok_c.loose data0_ok_c.mean (data0_ok_c.m 1) (data0_ok_c.m 2) (data0_ok_c.news 0)
  intro w dp un gd cn cs L a ccd cl outer A₀ base h₀ m s Q E loose mean mg mb news B F X T hk N hd ret
  k_dflt (refine' call_cls ?k1 ?k2 ?k3 ?k4 ?k5 ?k6 ?_; (case k1 => k_asm); (case k2 => k_asm); (case k3 => k_asm); (case k4 => k_is); (case k5 => k_is); (case k6 => k_is); k_whole; intro x' d' h' F' N' l1 l2; have a1 := allLt_of l1; (try k_lt2 l2); (try k_sweep); first | ktr_enter | k_enter)
  (repeat' (first | (k_unfold; (try dsimp only)) | (k_end; wrow_close) | ((with_reducible show wpAny _ _ (eval (Expr.Constant (Const.int _) _ _) _) _ _ _); refine cInt ?_; intro tz9 kz9) | ((with_reducible show wpAny _ _ (eval (Expr.Constant (Const.str _) _ _) _) _ _ _); refine cStr ?_; intro tz9 kz9) | ((with_reducible show wpAny _ _ (setAttr (Value.ref _) _ _) _ _ _); k_dflt (refine' set_dictG ?k1q ?k2q ?k3q ?k4q ?k5q ?k6q ?k7q ?k8q ?k9q ?k10q ?_; (case k1q => k_asm); (case k2q => k_asm); (case k3q => k_asm); (case k4q => k_inst); (case k5q => exact rfl); (case k6q => k_is); (case k7q => k_is); (case k8q => k_is); (case k9q => k_is); (case k10q => k_get); intro qz9; refine' SetG.intro ?k11q ?k12q ?k13q ?_; (case k11q => k_put); (case k12q => k_upd); (case k13q => exact Nat.le_of_ble_eq_true rfl); k_whole; intro hz9 kz9 Fz9 Nz9; (try k_sweep))) | walk1 | (dsimp only; walk1) | (leave1; walk_say "STEP leave1"; (try dsimp only)) | fail "no step"))
  refine' ret _ _ _ _ _ _ _ _ _ _ _ _ _ _ _ _ _ _ ?F ?N ?D ?D2 a1 l2 ?c ?d ?e ?f ?g
  case F => assumption
  case N => assumption
  case D => exact ⟨by assumption, by assumption, by assumption, by assumption, by assumption⟩
  case D2 => exact ⟨by assumption, by assumption, by assumption, by assumption, by assumption⟩
  all_goals assumption

theorem data0_ok {w : World} {dp un : Nat} {gd : Option (List Code)} {cn : Str} {cs : Scope} {L a : Addr} {ccd : Value} {cl : List (Str × Addr)} {outer : List Env} {A₀ : Around} {base h₀ : Heap} {m : Str → Option Value} {s : Shared} {Q E : Value → Shared → Prop}
   {loose : List Str} {mean : ExcName → Option Value} {mg mb : Str → Option Value} {news : List (Addr × Obj)} 
   (B : Below A₀ base outer h₀) (F : Fr h₀ L s.heap m) (X : (K w.params).In h₀) (T : Top q loose mean mg mb h₀) (hk : cs.kind = .function) (N : News h₀ L s.heap news) (hd : dp + 6 < recursionLimit) 
   (ret : ∀ x d wl ll df sl ix odf oix k0 k1 k2 k3 k4 v4 k5 h' t', Fr h₀ L h' m → News h₀ L h' ((ix, oix) :: (sl, listOf #[] 0) :: (df, odf) :: (ll, listOf #[] 0) :: (wl, listOf #[] 0) :: (x, instObj 288 d) :: (d, dictOf [en w "working" k0 (.ref wl), en w "linkage" k1 (.ref ll), en w "files" k2 (.ref df), en w "sorts" k3 (.ref sl), en w "size" k4 (.int 0 v4), en w "indexes" k5 (.ref ix)] 6) :: news) → Emp w df odf → Emp w ix oix → AllLt d news → @LT.lt Nat _ d x → (@LT.lt Nat _ x wl ∧ @LT.lt Nat _ d wl ∧ AllLt wl news) → (@LT.lt Nat _ wl ll ∧ @LT.lt Nat _ x ll ∧ @LT.lt Nat _ d ll ∧ AllLt ll news) → (@LT.lt Nat _ ll df ∧ @LT.lt Nat _ wl df ∧ @LT.lt Nat _ x df ∧ @LT.lt Nat _ d df ∧ AllLt df news) → (@LT.lt Nat _ df sl ∧ @LT.lt Nat _ ll sl ∧ @LT.lt Nat _ wl sl ∧ @LT.lt Nat _ x sl ∧ @LT.lt Nat _ d sl ∧ AllLt sl news) → (@LT.lt Nat _ sl ix ∧ @LT.lt Nat _ df ix ∧ @LT.lt Nat _ ll ix ∧ @LT.lt Nat _ wl ix ∧ @LT.lt Nat _ x ix ∧ @LT.lt Nat _ d ix ∧ AllLt ix news) → Q (.ref x) { s with heap := h', toks := t' }) :
   wpAny (model pw w) (ktrTop dp un gd cn cs L a ccd cl outer) (call (.ref 288) []) Q E s := by
  exact clo (by with_unfolding_all rfl) data0_ok_m (Bag.mk w gd cs ccd cl outer A₀ s loose mean bag0.qf bag0.qu (lk [un, L, a] dp) (lk [] cn) (lk [h₀] base) (lk [mg, mb] m) (lk [] news) (lk [E] Q) bag0.i bag0.vs bag0.ns bag0.b bag0.bool bag0.o bag0.avs bag0.kvs bag0.nb bag0.nbool bag0.nn bag0.l bag0.kc bag0.nd bag0.u8 bag0.d bag0.ov) B F X T hk N hd ret
noncomputable def shape_ok_P (w : World) (dp : Nat) (un : Nat) (gd : Option (List Code)) (cn : Str) (cs : Scope) (L : Addr) (a : Addr) (ccd : Value) (cl : List (Str × Addr)) (outer : List Env) (A₀ : Around) (base : Heap) (h₀ : Heap) (m : Str → Option Value) (s : Shared) (Q : Value → Shared → Prop) (E : Value → Shared → Prop) (loose : List Str) (mean : ExcName → Option Value) (mg : Str → Option Value) (mb : Str → Option Value) (news : List (Addr × Obj)) (b : Array UInt8) (t1 : Tok) : Prop := ∀ (B : Below A₀ base outer h₀) (F : Fr h₀ L s.heap m) (X : (K w.params).In h₀) (T : Top q loose mean mg mb h₀) (hk : cs.kind = .function) (N : News h₀ L s.heap news) (hd : dp + 6 < recursionLimit) (hb : b.size ≤ 5) (ret : ∀ x d od h' t', Fr h₀ L h' m → News h₀ L h' ((x, instObj 500 d) :: (d, od) :: news) → DShape w b.size od → AllLt d news → @LT.lt Nat _ d x → Q (.ref x) { s with heap := h', toks := t' }), wpAny (model pw w) (ktrTop dp un gd cn cs L a ccd cl outer) (call (.ref 539) [.bytes b t1]) Q E s
noncomputable def shape_ok_S (c : Bag) : Prop := shape_ok_P c.w (c.n 0) (c.n 1) c.gd (c.str 0) c.cs (c.n 2) (c.n 3) c.v c.cl c.outer c.ar (c.heap 0) (c.heap 1) (c.m 0) c.s (c.q 0) (c.q 1) c.loose c.mean (c.m 1) (c.m 2) (c.news 0) (c.b 0) (c.n 4)
@[irreducible] noncomputable def shape_ok_c : Bag := pick shape_ok_S
theorem shape_ok_m : shape_ok_S shape_ok_c := by
  refine (?zz9 : ∀ (w : World) (dp : Nat) (un : Nat) (gd : Option (List Code)) (cn : Str) (cs : Scope) (L : Addr) (a : Addr) (ccd : Value) (cl : List (Str × Addr)) (outer : List Env) (A₀ : Around) (base : Heap) (h₀ : Heap) (m : Str → Option Value) (s : Shared) (Q : Value → Shared → Prop) (E : Value → Shared → Prop) (loose : List Str) (mean : ExcName → Option Value) (mg : Str → Option Value) (mb : Str → Option Value) (news : List (Addr × Obj)) (b : Array UInt8) (t1 : Tok), shape_ok_P w dp un gd cn cs L a ccd cl outer A₀ base h₀ m s Q E loose mean mg mb news b t1) shape_ok_c.w (shape_ok_c.n 0) (shape_ok_c.n 1) shape_ok_c.gd (shape_ok_c.str 0) shape_ok_c.cs (shape_ok_c.n 2) (shape_ok_c.n 3) shape_ok_c.v shape_ok_c.cl shape_ok_c.outer shape_ok_c.ar (shape_ok_c.heap 0) (shape_ok_c.heap 1) (shape_ok_c.m 0) shape_ok_c.s (shape_ok_c.q 0) (shape_ok_c.q 1) shape_ok_c.loose shape_ok_c.mean (shape_ok_c.m 1) (shape_ok_c.m 2) (shape_ok_c.news 0) (shape_ok_c.b 0) (shape_ok_c.n 4)
  intro w dp un gd cn cs L a ccd cl outer A₀ base h₀ m s Q E loose mean mg mb news b t1 B F X T hk N hd hb ret
  refine wpAny_call ?_
  k_dflt ktr_enter
  (repeat' (first | (k_unfold; (try dsimp only)) | (k_end; wrow_close) | ((with_reducible show wpAny _ _ (eval (Expr.Constant (Const.int _) _ _) _) _ _ _); refine cInt ?_; intro tz9 kz9) | ((with_reducible show wpAny _ _ (eval (Expr.Constant (Const.str _) _ _) _) _ _ _); refine cStr ?_; intro tz9 kz9) | ((with_reducible show wpAny _ _ (setAttr (Value.ref _) _ _) _ _ _); k_dflt (refine' set_dictG ?k1q ?k2q ?k3q ?k4q ?k5q ?k6q ?k7q ?k8q ?k9q ?k10q ?_; (case k1q => k_asm); (case k2q => k_asm); (case k3q => k_asm); (case k4q => k_inst); (case k5q => exact rfl); (case k6q => k_is); (case k7q => k_is); (case k8q => k_is); (case k9q => k_is); (case k10q => k_get); intro qz9; refine' SetG.intro ?k11q ?k12q ?k13q ?_; (case k11q => k_put); (case k12q => k_upd); (case k13q => exact Nat.le_of_ble_eq_true rfl); k_whole; intro hz9 kz9 Fz9 Nz9; (try k_sweep))) | walk1 | (dsimp only; walk1) | (leave1; walk_say "STEP leave1"; (try dsimp only)) | fail "no step"))
  rename ∀ p ∈ news, p.1 < _ => l1
  refine' ret _ _ _ _ _ ?F ?N ?D (allLt_of l1) ?c
  case F => assumption
  case N => assumption
  case D => exact ⟨_, _, _, _, _, _, _, _, _, _, _, _, _, _, _, _, _, rfl⟩
  assumption

theorem shape_ok {w : World} {dp un : Nat} {gd : Option (List Code)} {cn : Str} {cs : Scope} {L a : Addr} {ccd : Value} {cl : List (Str × Addr)} {outer : List Env} {A₀ : Around} {base h₀ : Heap} {m : Str → Option Value} {s : Shared} {Q E : Value → Shared → Prop}
   {loose : List Str} {mean : ExcName → Option Value} {mg mb : Str → Option Value} {news : List (Addr × Obj)} {b : Array UInt8} {t1 : Tok}
   (B : Below A₀ base outer h₀) (F : Fr h₀ L s.heap m) (X : (K w.params).In h₀) (T : Top q loose mean mg mb h₀) (hk : cs.kind = .function) (N : News h₀ L s.heap news) (hd : dp + 6 < recursionLimit) (hb : b.size ≤ 5)
   (ret : ∀ x d od h' t', Fr h₀ L h' m → News h₀ L h' ((x, instObj 500 d) :: (d, od) :: news) → DShape w b.size od → AllLt d news → @LT.lt Nat _ d x → Q (.ref x) { s with heap := h', toks := t' }) :
   wpAny (model pw w) (ktrTop dp un gd cn cs L a ccd cl outer) (call (.ref 539) [.bytes b t1]) Q E s := by
  exact clo (by with_unfolding_all rfl) shape_ok_m (Bag.mk w gd cs ccd cl outer A₀ s loose mean bag0.qf bag0.qu (lk [un, L, a, t1] dp) (lk [] cn) (lk [h₀] base) (lk [mg, mb] m) (lk [] news) (lk [E] Q) bag0.i bag0.vs bag0.ns (lk [] b) bag0.bool bag0.o bag0.avs bag0.kvs bag0.nb bag0.nbool bag0.nn bag0.l bag0.kc bag0.nd bag0.u8 bag0.d bag0.ov) B F X T hk N hd hb ret
noncomputable def prog0_ok_P (w : World) (dp : Nat) (un : Nat) (gd : Option (List Code)) (cn : Str) (cs : Scope) (L : Addr) (a : Addr) (ccd : Value) (cl : List (Str × Addr)) (outer : List Env) (A₀ : Around) (base : Heap) (h₀ : Heap) (m : Str → Option Value) (s : Shared) (Q : Value → Shared → Prop) (E : Value → Shared → Prop) (loose : List Str) (mean : ExcName → Option Value) (mg : Str → Option Value) (mb : Str → Option Value) (news : List (Addr × Obj)) (nm : Str) (D : Addr) (fl : Addr) (ini : Bool) (t1 : Tok) : Prop := ∀ (B : Below A₀ base outer h₀) (F : Fr h₀ L s.heap m) (X : (K w.params).In h₀) (T : Top q loose mean mg mb h₀) (hk : cs.kind = .function) (N : News h₀ L s.heap news) (hd : dp + 6 < recursionLimit) (ret : ∀ x d od h' t', Fr h₀ L h' m → News h₀ L h' ((x, instObj 953 d) :: (d, od) :: news) → DProg w nm D fl ini od → AllLt d news → @LT.lt Nat _ d x → Q (.ref x) { s with heap := h', toks := t' }), wpAny (model pw w) (ktrTop dp un gd cn cs L a ccd cl outer) (call (.ref 953) [.str nm t1, .ref D, .ref fl, .none, .bool ini]) Q E s
noncomputable def prog0_ok_S (c : Bag) : Prop := prog0_ok_P c.w (c.n 0) (c.n 1) c.gd (c.str 0) c.cs (c.n 2) (c.n 3) c.v c.cl c.outer c.ar (c.heap 0) (c.heap 1) (c.m 0) c.s (c.q 0) (c.q 1) c.loose c.mean (c.m 1) (c.m 2) (c.news 0) (c.str 1) (c.n 4) (c.n 5) c.bool (c.n 6)
@[irreducible] noncomputable def prog0_ok_c : Bag := pick prog0_ok_S
theorem prog0_ok_m : prog0_ok_S prog0_ok_c := by
  refine (?zz9 : ∀ (w : World) (dp : Nat) (un : Nat) (gd : Option (List Code)) (cn : Str) (cs : Scope) (L : Addr) (a : Addr) (ccd : Value) (cl : List (Str × Addr)) (outer : List Env) (A₀ : Around) (base : Heap) (h₀ : Heap) (m : Str → Option Value) (s : Shared) (Q : Value → Shared → Prop) (E : Value → Shared → Prop) (loose : List Str) (mean : ExcName → Option Value) (mg : Str → Option Value) (mb : Str → Option Value) (news : List (Addr × Obj)) (nm : Str) (D : Addr) (fl : Addr) (ini : Bool) (t1 : Tok), prog0_ok_P w dp un gd cn cs L a ccd cl outer A₀ base h₀ m s Q E loose mean mg mb news nm D fl ini t1) prog0_ok_c.w (prog0_ok_c.n 0) (prog0_ok_c.n 1) prog0_ok_c.gd (prog0_ok_c.str 0) prog0_ok_c.cs (prog0_ok_c.n 2) (prog0_ok_c.n 3) prog0_ok_c.v prog0_ok_c.cl prog0_ok_c.outer prog0_ok_c.ar (prog0_ok_c.heap 0) (prog0_ok_c.heap 1) (prog0_ok_c.m 0) prog0_ok_c.s (prog0_ok_c.q 0) (prog0_ok_c.q 1) prog0_ok_c.loose prog0_ok_c.mean (prog0_ok_c.m 1) (prog0_ok_c.m 2) (prog0_ok_c.news 0) (prog0_ok_c.str 1) (prog0_ok_c.n 4) (prog0_ok_c.n 5) prog0_ok_c.bool (prog0_ok_c.n 6)
  intro w dp un gd cn cs L a ccd cl outer A₀ base h₀ m s Q E loose mean mg mb news nm D fl ini t1 B F X T hk N hd ret
  k_dflt (refine' call_cls ?k1 ?k2 ?k3 ?k4 ?k5 ?k6 ?_; (case k1 => k_asm); (case k2 => k_asm); (case k3 => k_asm); (case k4 => k_is); (case k5 => k_is); (case k6 => k_is); k_whole; intro x' d' h' F' N' l1 l2; have a1 := allLt_of l1; (try k_lt2 l2); (try k_sweep); (refine' code_def ?k1 ?k2 ?k3 ?k4 ?k5 ?kA ?kF ?kK ?k6 ?k7 ?k8 ?k9 ?kB ?_ ?c2 ?c3 ?c4 ?c5; (case kA => exact rfl); (case kF => exact rfl); (case kK => first | exact rfl | assumption); (case k1 => k_asm); (case k2 => k_asm); (case k3 => k_asm); (case k4 => k_asm); (case k5 => k_asm); (case k6 => k_is); (case k7 => k_is); (case k8 => first | exact r1 (by assumption) rfl | exact r2 (by assumption) rfl | exact r3 (by assumption) rfl | exact r0 (by assumption) | k_room); (case k9 => first | exact BindsTo.of_eq rfl | exact binds_K (by k_in) rfl (by k_is) rfl rfl rfl); (case kB => exact locs rfl); (case c5 => decide); (case c2 => exact rfl); (case c3 => exact rfl); (case c4 => exact rfl); k_whole; intro g' L' h' FG' F' N' B' X' T'; (try dsimp only); (try k_lift B'); (try k_fold)))
  (repeat' (first | (k_unfold; (try dsimp only)) | (k_end; wrow_close) | ((with_reducible show wpAny _ _ (eval (Expr.Constant (Const.int _) _ _) _) _ _ _); refine cInt ?_; intro tz9 kz9) | ((with_reducible show wpAny _ _ (eval (Expr.Constant (Const.str _) _ _) _) _ _ _); refine cStr ?_; intro tz9 kz9) | ((with_reducible show wpAny _ _ (setAttr (Value.ref _) _ _) _ _ _); k_dflt (refine' set_dictG ?k1q ?k2q ?k3q ?k4q ?k5q ?k6q ?k7q ?k8q ?k9q ?k10q ?_; (case k1q => k_asm); (case k2q => k_asm); (case k3q => k_asm); (case k4q => k_inst); (case k5q => exact rfl); (case k6q => k_is); (case k7q => k_is); (case k8q => k_is); (case k9q => k_is); (case k10q => k_get); intro qz9; refine' SetG.intro ?k11q ?k12q ?k13q ?_; (case k11q => k_put); (case k12q => k_upd); (case k13q => exact Nat.le_of_ble_eq_true rfl); k_whole; intro hz9 kz9 Fz9 Nz9; (try k_sweep))) | walk1 | (dsimp only; walk1) | (leave1; walk_say "STEP leave1"; (try dsimp only)) | fail "no step"))
  refine' ret _ _ _ _ _ ?F ?N ?D a1 l2
  case F => assumption
  case N => assumption
  case D => exact ⟨_, _, _, _, _, _, rfl⟩

theorem prog0_ok {w : World} {dp un : Nat} {gd : Option (List Code)} {cn : Str} {cs : Scope} {L a : Addr} {ccd : Value} {cl : List (Str × Addr)} {outer : List Env} {A₀ : Around} {base h₀ : Heap} {m : Str → Option Value} {s : Shared} {Q E : Value → Shared → Prop}
   {loose : List Str} {mean : ExcName → Option Value} {mg mb : Str → Option Value} {news : List (Addr × Obj)} {nm : Str} {D fl : Addr} {ini : Bool} {t1 : Tok}
   (B : Below A₀ base outer h₀) (F : Fr h₀ L s.heap m) (X : (K w.params).In h₀) (T : Top q loose mean mg mb h₀) (hk : cs.kind = .function) (N : News h₀ L s.heap news) (hd : dp + 6 < recursionLimit) 
   (ret : ∀ x d od h' t', Fr h₀ L h' m → News h₀ L h' ((x, instObj 953 d) :: (d, od) :: news) → DProg w nm D fl ini od → AllLt d news → @LT.lt Nat _ d x → Q (.ref x) { s with heap := h', toks := t' }) :
   wpAny (model pw w) (ktrTop dp un gd cn cs L a ccd cl outer) (call (.ref 953) [.str nm t1, .ref D, .ref fl, .none, .bool ini]) Q E s := by
  exact clo (by with_unfolding_all rfl) prog0_ok_m (Bag.mk w gd cs ccd cl outer A₀ s loose mean bag0.qf bag0.qu (lk [un, L, a, D, fl, t1] dp) (lk [nm] cn) (lk [h₀] base) (lk [mg, mb] m) (lk [] news) (lk [E] Q) bag0.i bag0.vs bag0.ns bag0.b ini bag0.o bag0.avs bag0.kvs bag0.nb bag0.nbool bag0.nn bag0.l bag0.kc bag0.nd bag0.u8 bag0.d bag0.ov) B F X T hk N hd ret
local macro_rules | `(tactic| walk_at "call ref") => `(tactic| refine hold_of ?_)

noncomputable def program_ok_P (w : World) (dp : Nat) (un : Nat) (gd : Option (List Code)) (cn : Str) (cs : Scope) (L : Addr) (a : Addr) (ccd : Value) (cl : List (Str × Addr)) (outer : List Env) (A₀ : Around) (base : Heap) (h₀ : Heap) (m : Str → Option Value) (s : Shared) (Q : Value → Shared → Prop) (E : Value → Shared → Prop) (loose : List Str) (mean : ExcName → Option Value) (mg : Str → Option Value) (mb : Str → Option Value) (news : List (Addr × Obj)) (nm : Str) (b : Array UInt8) (ini : Bool) (t1 : Tok) (t2 : Tok) : Prop := ∀ (B : Below A₀ base outer h₀) (F : Fr h₀ L s.heap m) (X : (K w.params).In h₀) (T : Top q loose mean mg mb h₀) (hk : cs.kind = .function) (N : News h₀ L s.heap news) (hd : dp + 8 < recursionLimit) (hu : un + 64 < cLine) (hb : b.size ≤ 5) (ret : ∀ p add h' tk', Fr h₀ L h' m → News h₀ L h' (add ++ news) → ProgAt w add p b ini → (∀ r ∈ add, ∀ q ∈ news, @LT.lt Nat _ q.1 r.1) → Q (.ref p) {s with heap := h', toks := tk'}), wpAny (model pw w) (ktrTop dp un gd cn cs L a ccd cl outer) (call (.ref 981) [.str nm t1, .bytes b t2, .bool ini]) Q E s
noncomputable def program_ok_S (c : Bag) : Prop := program_ok_P c.w (c.n 0) (c.n 1) c.gd (c.str 0) c.cs (c.n 2) (c.n 3) c.v c.cl c.outer c.ar (c.heap 0) (c.heap 1) (c.m 0) c.s (c.q 0) (c.q 1) c.loose c.mean (c.m 1) (c.m 2) (c.news 0) (c.str 1) (c.b 0) c.bool (c.n 4) (c.n 5)
@[irreducible] noncomputable def program_ok_c : Bag := pick program_ok_S
theorem program_ok_m : program_ok_S program_ok_c := by
  refine (?zz9 : ∀ (w : World) (dp : Nat) (un : Nat) (gd : Option (List Code)) (cn : Str) (cs : Scope) (L : Addr) (a : Addr) (ccd : Value) (cl : List (Str × Addr)) (outer : List Env) (A₀ : Around) (base : Heap) (h₀ : Heap) (m : Str → Option Value) (s : Shared) (Q : Value → Shared → Prop) (E : Value → Shared → Prop) (loose : List Str) (mean : ExcName → Option Value) (mg : Str → Option Value) (mb : Str → Option Value) (news : List (Addr × Obj)) (nm : Str) (b : Array UInt8) (ini : Bool) (t1 : Tok) (t2 : Tok), program_ok_P w dp un gd cn cs L a ccd cl outer A₀ base h₀ m s Q E loose mean mg mb news nm b ini t1 t2) program_ok_c.w (program_ok_c.n 0) (program_ok_c.n 1) program_ok_c.gd (program_ok_c.str 0) program_ok_c.cs (program_ok_c.n 2) (program_ok_c.n 3) program_ok_c.v program_ok_c.cl program_ok_c.outer program_ok_c.ar (program_ok_c.heap 0) (program_ok_c.heap 1) (program_ok_c.m 0) program_ok_c.s (program_ok_c.q 0) (program_ok_c.q 1) program_ok_c.loose program_ok_c.mean (program_ok_c.m 1) (program_ok_c.m 2) (program_ok_c.news 0) (program_ok_c.str 1) (program_ok_c.b 0) program_ok_c.bool (program_ok_c.n 4) (program_ok_c.n 5)
  intro w dp un gd cn cs L a ccd cl outer A₀ base h₀ m s Q E loose mean mg mb news nm b ini t1 t2 B F X T hk N hd hu hb ret
  refine wpAny_call ?_
  k_dflt ktr_enter
  (repeat' (first | (k_unfold; (try dsimp only)) | (k_end; wrow_close) | ((with_reducible show wpAny _ _ (eval (Expr.Constant (Const.int _) _ _) _) _ _ _); refine cInt ?_; intro tz9 kz9) | ((with_reducible show wpAny _ _ (eval (Expr.Constant (Const.str _) _ _) _) _ _ _); refine cStr ?_; intro tz9 kz9) | ((with_reducible show wpAny _ _ (setAttr (Value.ref _) _ _) _ _ _); k_dflt (refine' set_dictG ?k1q ?k2q ?k3q ?k4q ?k5q ?k6q ?k7q ?k8q ?k9q ?k10q ?_; (case k1q => k_asm); (case k2q => k_asm); (case k3q => k_asm); (case k4q => k_inst); (case k5q => exact rfl); (case k6q => k_is); (case k7q => k_is); (case k8q => k_is); (case k9q => k_is); (case k10q => k_get); intro qz9; refine' SetG.intro ?k11q ?k12q ?k13q ?_; (case k11q => k_put); (case k12q => k_upd); (case k13q => exact Nat.le_of_ble_eq_true rfl); k_whole; intro hz9 kz9 Fz9 Nz9; (try k_sweep))) | walk1 | (dsimp only; walk1) | (leave1; walk_say "STEP leave1"; (try dsimp only)) | fail "no step"))
  unfold Hold
  k_dflt (refine' data0_ok ?B ?F ?X ?T ?hk ?N ?hd ?_; (case B => k_asm); (case F => k_asm); (case X => k_asm); (case T => k_asm); (case hk => first | rfl | assumption); (case N => k_asm); (case hd => first | exact r1 (by assumption) rfl | exact r2 (by assumption) rfl | exact r3 (by assumption) rfl | exact r0 (by assumption) | ktr_room); k_whole)
  intro D dd wl0 ll df sl ix odf oix q0 q1 q2 q3 q4 u4 q5 h1 tk1 F1 N1 eD eX aD lD l1 l2 l3 l4 l5
  have z1 := allLt_lt aD
  have z2 : ∀ q ∈ news, @LT.lt Nat _ q.1 D := fun q hq => Nat.lt_trans (z1 q hq) lD
  have z3 := allLt_lt l1.2.2
  have z4 := allLt_lt l2.2.2.2
  have z5 := allLt_lt l3.2.2.2.2
  have z6 := allLt_lt l4.2.2.2.2.2
  have z7 := allLt_lt l5.2.2.2.2.2.2
  (try k_sweep)
  (repeat' (first | (k_unfold; (try dsimp only)) | (k_end; wrow_close) | ((with_reducible show wpAny _ _ (eval (Expr.Constant (Const.int _) _ _) _) _ _ _); refine cInt ?_; intro tz9 kz9) | ((with_reducible show wpAny _ _ (eval (Expr.Constant (Const.str _) _ _) _) _ _ _); refine cStr ?_; intro tz9 kz9) | ((with_reducible show wpAny _ _ (setAttr (Value.ref _) _ _) _ _ _); k_dflt (refine' set_dictG ?k1q ?k2q ?k3q ?k4q ?k5q ?k6q ?k7q ?k8q ?k9q ?k10q ?_; (case k1q => k_asm); (case k2q => k_asm); (case k3q => k_asm); (case k4q => k_inst); (case k5q => exact rfl); (case k6q => k_is); (case k7q => k_is); (case k8q => k_is); (case k9q => k_is); (case k10q => k_get); intro qz9; refine' SetG.intro ?k11q ?k12q ?k13q ?_; (case k11q => k_put); (case k12q => k_upd); (case k13q => exact Nat.le_of_ble_eq_true rfl); k_whole; intro hz9 kz9 Fz9 Nz9; (try k_sweep))) | walk1 | (dsimp only; walk1) | (leave1; walk_say "STEP leave1"; (try dsimp only)) | fail "no step"))
  unfold Hold
  k_dflt (refine' item0_ok ?B ?F ?X ?T ?hk ?N ?hd ?_; (case B => k_asm); (case F => k_asm); (case X => k_asm); (case T => k_asm); (case hk => first | rfl | assumption); (case N => k_asm); (case hd => first | exact r1 (by assumption) rfl | exact r2 (by assumption) rfl | exact r3 (by assumption) rfl | exact r0 (by assumption) | ktr_room); k_whole)
  intro it di cl kl od h2 tk2 F2 N2 hI aI lI l6 l7
  have z8 := AllLt.tail (A := [_, _, _, _, _, _, _]) aI
  have z9 : ∀ q ∈ news, @LT.lt Nat _ q.1 it := fun q hq => Nat.lt_trans (z8 q hq) lI
  have z10 := AllLt.tail (A := [_, _, _, _, _, _, _]) l6.2.2
  have z11 := AllLt.tail (A := [_, _, _, _, _, _, _]) l7.2.2.2
  simp only [AllLt, and_true] at aI l6 l7
  (try k_sweep)
  (repeat' (first | (k_unfold; (try dsimp only)) | (k_end; wrow_close) | ((with_reducible show wpAny _ _ (eval (Expr.Constant (Const.int _) _ _) _) _ _ _); refine cInt ?_; intro tz9 kz9) | ((with_reducible show wpAny _ _ (eval (Expr.Constant (Const.str _) _ _) _) _ _ _); refine cStr ?_; intro tz9 kz9) | ((with_reducible show wpAny _ _ (setAttr (Value.ref _) _ _) _ _ _); k_dflt (refine' set_dictG ?k1q ?k2q ?k3q ?k4q ?k5q ?k6q ?k7q ?k8q ?k9q ?k10q ?_; (case k1q => k_asm); (case k2q => k_asm); (case k3q => k_asm); (case k4q => k_inst); (case k5q => exact rfl); (case k6q => k_is); (case k7q => k_is); (case k8q => k_is); (case k9q => k_is); (case k10q => k_get); intro qz9; refine' SetG.intro ?k11q ?k12q ?k13q ?_; (case k11q => k_put); (case k12q => k_upd); (case k13q => exact Nat.le_of_ble_eq_true rfl); k_whole; intro hz9 kz9 Fz9 Nz9; (try k_sweep))) | walk1 | (dsimp only; walk1) | (leave1; walk_say "STEP leave1"; (try dsimp only)) | fail "no step"))
  unfold Hold
  k_dflt (refine' shape_ok ?B ?F ?X ?T ?hk ?N ?hd ?hb ?_; (case B => k_asm); (case F => k_asm); (case X => k_asm); (case T => k_asm); (case hk => first | rfl | assumption); (case N => k_asm); (case hd => first | exact r1 (by assumption) rfl | exact r2 (by assumption) rfl | exact r3 (by assumption) rfl | exact r0 (by assumption) | ktr_room); (case hb => assumption); k_whole)
  intro sh ds osh h3 tk3 F3 N3 hS aS lS
  have z12 := AllLt.tail (A := [_, _, _, _, _, _, _, _, _, _, _, _]) aS
  have z13 : ∀ q ∈ news, @LT.lt Nat _ q.1 sh := fun q hq => Nat.lt_trans (z12 q hq) lS
  simp only [AllLt] at aS
  obtain ⟨_, _, _, _, _, _, _, _, _, _, _, _, _, _, _, _, _, _, _, _, _, _, _, _, _, _, _, rfl⟩ := hI
  (try k_sweep)
  (repeat' (first | (k_unfold; (try dsimp only)) | (k_end; wrow_close) | ((with_reducible show wpAny _ _ (eval (Expr.Constant (Const.int _) _ _) _) _ _ _); refine cInt ?_; intro tz9 kz9) | ((with_reducible show wpAny _ _ (eval (Expr.Constant (Const.str _) _ _) _) _ _ _); refine cStr ?_; intro tz9 kz9) | ((with_reducible show wpAny _ _ (setAttr (Value.ref _) _ _) _ _ _); k_dflt (refine' set_dictG ?k1q ?k2q ?k3q ?k4q ?k5q ?k6q ?k7q ?k8q ?k9q ?k10q ?_; (case k1q => k_asm); (case k2q => k_asm); (case k3q => k_asm); (case k4q => k_inst); (case k5q => exact rfl); (case k6q => k_is); (case k7q => k_is); (case k8q => k_is); (case k9q => k_is); (case k10q => k_get); intro qz9; refine' SetG.intro ?k11q ?k12q ?k13q ?_; (case k11q => k_put); (case k12q => k_upd); (case k13q => exact Nat.le_of_ble_eq_true rfl); k_whole; intro hz9 kz9 Fz9 Nz9; (try k_sweep))) | walk1 | (dsimp only; walk1) | (leave1; walk_say "STEP leave1"; (try dsimp only)) | fail "no step"))
  unfold Hold
  k_dflt (refine' prog0_ok ?B ?F ?X ?T ?hk ?N ?hd ?_; (case B => k_asm); (case F => k_asm); (case X => k_asm); (case T => k_asm); (case hk => first | rfl | assumption); (case N => k_asm); (case hd => first | exact r1 (by assumption) rfl | exact r2 (by assumption) rfl | exact r3 (by assumption) rfl | exact r0 (by assumption) | ktr_room); k_whole)
  intro p dp' op h4 tk4 F4 N4 hP aP lP
  (try k_sweep)
  have z14 := AllLt.tail (A := [_, _, _, _, _, _, _, _, _, _, _, _, _, _, _, _, _, _, _]) aP
  have z15 : ∀ q ∈ news, @LT.lt Nat _ q.1 p := fun q hq => Nat.lt_trans (z14 q hq) lP
  clear aP
  (repeat' (first | (k_unfold; (try dsimp only)) | (k_end; wrow_close) | ((with_reducible show wpAny _ _ (eval (Expr.Constant (Const.int _) _ _) _) _ _ _); refine cInt ?_; intro tz9 kz9) | ((with_reducible show wpAny _ _ (eval (Expr.Constant (Const.str _) _ _) _) _ _ _); refine cStr ?_; intro tz9 kz9) | ((with_reducible show wpAny _ _ (setAttr (Value.ref _) _ _) _ _ _); k_dflt (refine' set_dictG ?k1q ?k2q ?k3q ?k4q ?k5q ?k6q ?k7q ?k8q ?k9q ?k10q ?_; (case k1q => k_asm); (case k2q => k_asm); (case k3q => k_asm); (case k4q => k_inst); (case k5q => exact rfl); (case k6q => k_is); (case k7q => k_is); (case k8q => k_is); (case k9q => k_is); (case k10q => k_get); intro qz9; refine' SetG.intro ?k11q ?k12q ?k13q ?_; (case k11q => k_put); (case k12q => k_upd); (case k13q => exact Nat.le_of_ble_eq_true rfl); k_whole; intro hz9 kz9 Fz9 Nz9; (try k_sweep))) | walk1 | (dsimp only; walk1) | (leave1; walk_say "STEP leave1"; (try dsimp only)) | fail "no step"))
  rename Fr _ _ _ _ => lF
  rename News _ _ _ _ => lN
  refine ret _ [_, _, _, _, _, _, _, _, _, _, _, _, _, _, _, _, _, _, _, _, _] _ _ lF lN ⟨_, _, _, _, _, _, ⟨by k_mem, by k_mem, hP⟩, ⟨by k_mem, ⟨by assumption, by assumption, by assumption, by assumption, by assumption⟩⟩,
    ⟨_, _, _, _, _, _, _, _, _, _, _, _, _, _, _, _, _, _, _, _, ⟨by k_mem, by k_mem, _, _, _, _, _, _, _, rfl⟩, ⟨by k_mem, by k_mem, by k_mem, by k_mem, eD, by k_mem, eX⟩,
      ⟨by k_mem, by k_mem, _, _, _, _, _, _, _, _, _, _, _, _, _, _, _, _, _, _, _, _, _, _, _, _, _, _, _, rfl⟩, ⟨by k_mem, by k_mem, by k_mem⟩, ⟨by k_mem, by k_mem, hS⟩⟩⟩ ?_
  refine lt_cons ?_ (lt_cons ?_ (lt_cons ?_ (lt_cons ?_ (lt_cons ?_ (lt_cons ?_ (lt_cons ?_ (lt_cons ?_ (lt_cons ?_ (lt_cons ?_ (lt_cons ?_ (lt_cons ?_ (lt_cons ?_ (lt_cons ?_ (lt_cons ?_ (lt_cons ?_ (lt_cons ?_ (lt_cons ?_ (lt_cons ?_ (lt_cons ?_ (lt_cons ?_ lt_nil))))))))))))))))))))
  all_goals first
    | assumption
    | exact allLt_lt (And.right (And.right (And.right (And.right (And.right (And.right (And.right (And.right (And.right (And.right (And.right ((by assumption)))))))))))))
    | exact allLt_lt (And.right (And.right (And.right (And.right (And.right (And.right (And.right (And.right (And.right (And.right (And.right (And.right ((by assumption))))))))))))))
    | exact allLt_lt (And.right (And.right (And.right (And.right (And.right (And.right (And.right (And.right (And.right (And.right (And.right (And.right (And.right ((by assumption)))))))))))))))
    | exact allLt_lt (And.right (And.right (And.right (And.right (And.right (And.right (And.right (And.right (And.right (And.right (And.right (And.right (And.right (And.right ((by assumption))))))))))))))))
    | exact allLt_lt (And.right (And.right (And.right (And.right (And.right (And.right (And.right (And.right (And.right (And.right (And.right (And.right (And.right (And.right (And.right ((by assumption)))))))))))))))))
    | exact allLt_lt (And.right (And.right (And.right (And.right (And.right (And.right (And.right (And.right (And.right (And.right (And.right (And.right (And.right (And.right (And.right (And.right ((by assumption))))))))))))))))))
    | exact allLt_lt (And.right (And.right (And.right (And.right (And.right (And.right (And.right (And.right (And.right (And.right (And.right (And.right (And.right (And.right (And.right (And.right (And.right ((by assumption)))))))))))))))))))
    | exact allLt_lt (And.right (And.right (And.right (And.right (And.right (And.right (And.right (And.right (And.right (And.right (And.right (And.right (And.right (And.right (And.right (And.right (And.right (And.right ((by assumption))))))))))))))))))))
theorem program_ok {w : World} {dp un : Nat} {gd : Option (List Code)} {cn : Str} {cs : Scope} {L a : Addr} {ccd : Value} {cl : List (Str × Addr)} {outer : List Env} {A₀ : Around} {base h₀ : Heap} {m : Str → Option Value} {s : Shared} {Q E : Value → Shared → Prop}
   {loose : List Str} {mean : ExcName → Option Value} {mg mb : Str → Option Value} {news : List (Addr × Obj)} {nm : Str} {b : Array UInt8} {ini : Bool} {t1 t2 : Tok}
   (B : Below A₀ base outer h₀) (F : Fr h₀ L s.heap m) (X : (K w.params).In h₀) (T : Top q loose mean mg mb h₀) (hk : cs.kind = .function) (N : News h₀ L s.heap news) (hd : dp + 8 < recursionLimit) (hu : un + 64 < cLine) (hb : b.size ≤ 5)
   (ret : ∀ p add h' tk', Fr h₀ L h' m → News h₀ L h' (add ++ news) → ProgAt w add p b ini → (∀ r ∈ add, ∀ q ∈ news, @LT.lt Nat _ q.1 r.1) → Q (.ref p) {s with heap := h', toks := tk'}) :
   wpAny (model pw w) (ktrTop dp un gd cn cs L a ccd cl outer) (call (.ref 981) [.str nm t1, .bytes b t2, .bool ini]) Q E s := by
  exact clo (by with_unfolding_all rfl) program_ok_m (Bag.mk w gd cs ccd cl outer A₀ s loose mean bag0.qf bag0.qu (lk [un, L, a, t1, t2] dp) (lk [nm] cn) (lk [h₀] base) (lk [mg, mb] m) (lk [] news) (lk [E] Q) bag0.i bag0.vs bag0.ns (lk [] b) ini bag0.o bag0.avs bag0.kvs bag0.nb bag0.nbool bag0.nn bag0.l bag0.kc bag0.nd bag0.u8 bag0.d bag0.ov) B F X T hk N hd hu hb ret

end
theorem flush_C4 : True := by first | walk1 | exact trivial
section
open PySem PySem.W PySem.Calls PyProof.Rows
noncomputable def valued_ok_P (w : World) (dp : Nat) (un : Nat) (gd : Option (List Code)) (cn : Str) (cs : Scope) (L : Addr) (a : Addr) (ccd : Value) (cl : List (Str × Addr)) (outer : List Env) (A₀ : Around) (base : Heap) (h₀ : Heap) (m : Str → Option Value) (s : Shared) (Q : Value → Shared → Prop) (E : Value → Shared → Prop) (loose : List Str) (mean : ExcName → Option Value) (mg : Str → Option Value) (mb : Str → Option Value) (news : List (Addr × Obj)) (b : Array UInt8) (it : Addr) (di : Addr) (vt : Addr) (cl9 : Addr) (kl : Addr) (sh : Addr) (ds : Addr) (oit : Obj) (osh : Obj) (t1 : Tok) (t2 : Tok) : Prop := ∀ (B : Below A₀ base outer h₀) (F : Fr h₀ L s.heap m) (X : (K w.params).In h₀) (T : Top q loose mean mg mb h₀) (hk : cs.kind = .function) (N : News h₀ L s.heap news) (hd : dp + 16 < recursionLimit) (hu : un + 128 < cLine) (hb0 : 0 < b.size) (hb : b.size ≤ 5) (c1 : (it, instObj 262 di) ∈ news) (c2 : (di, oit) ∈ news) (c3 : DItem w vt cl9 kl sh b.size oit) (d1 : (vt, tupOf #[.str (Str.ofString "text") t1, .bytes b t2]) ∈ news) (e1 : (sh, instObj 500 ds) ∈ news) (e2 : (ds, osh) ∈ news) (e3 : DShape w b.size osh) (ret : ∀ t h' tk', Fr h₀ L h' m → News h₀ L h' news → Q (.bytes b t) {s with heap := h', toks := tk'}), wpAny (model pw w) (ktrTop dp un gd cn cs L a ccd cl outer) (call (.ref 729) [.ref it]) Q E s
noncomputable def valued_ok_S (c : Bag) : Prop := valued_ok_P c.w (c.n 0) (c.n 1) c.gd (c.str 0) c.cs (c.n 2) (c.n 3) c.v c.cl c.outer c.ar (c.heap 0) (c.heap 1) (c.m 0) c.s (c.q 0) (c.q 1) c.loose c.mean (c.m 1) (c.m 2) (c.news 0) (c.b 0) (c.n 4) (c.n 5) (c.n 6) (c.n 7) (c.n 8) (c.n 9) (c.n 10) (c.o 0) (c.o 1) (c.n 11) (c.n 12)
@[irreducible] noncomputable def valued_ok_c : Bag := pick valued_ok_S
theorem valued_ok_m : valued_ok_S valued_ok_c := by
  refine (?zz9 : ∀ (w : World) (dp : Nat) (un : Nat) (gd : Option (List Code)) (cn : Str) (cs : Scope) (L : Addr) (a : Addr) (ccd : Value) (cl : List (Str × Addr)) (outer : List Env) (A₀ : Around) (base : Heap) (h₀ : Heap) (m : Str → Option Value) (s : Shared) (Q : Value → Shared → Prop) (E : Value → Shared → Prop) (loose : List Str) (mean : ExcName → Option Value) (mg : Str → Option Value) (mb : Str → Option Value) (news : List (Addr × Obj)) (b : Array UInt8) (it : Addr) (di : Addr) (vt : Addr) (cl9 : Addr) (kl : Addr) (sh : Addr) (ds : Addr) (oit : Obj) (osh : Obj) (t1 : Tok) (t2 : Tok), valued_ok_P w dp un gd cn cs L a ccd cl outer A₀ base h₀ m s Q E loose mean mg mb news b it di vt cl9 kl sh ds oit osh t1 t2) valued_ok_c.w (valued_ok_c.n 0) (valued_ok_c.n 1) valued_ok_c.gd (valued_ok_c.str 0) valued_ok_c.cs (valued_ok_c.n 2) (valued_ok_c.n 3) valued_ok_c.v valued_ok_c.cl valued_ok_c.outer valued_ok_c.ar (valued_ok_c.heap 0) (valued_ok_c.heap 1) (valued_ok_c.m 0) valued_ok_c.s (valued_ok_c.q 0) (valued_ok_c.q 1) valued_ok_c.loose valued_ok_c.mean (valued_ok_c.m 1) (valued_ok_c.m 2) (valued_ok_c.news 0) (valued_ok_c.b 0) (valued_ok_c.n 4) (valued_ok_c.n 5) (valued_ok_c.n 6) (valued_ok_c.n 7) (valued_ok_c.n 8) (valued_ok_c.n 9) (valued_ok_c.n 10) (valued_ok_c.o 0) (valued_ok_c.o 1) (valued_ok_c.n 11) (valued_ok_c.n 12)
  intro w dp un gd cn cs L a ccd cl outer A₀ base h₀ m s Q E loose mean mg mb news b it di vt cl9 kl sh ds oit osh t1 t2 B F X T hk N hd hu hb0 hb c1 c2 c3 d1 e1 e2 e3 ret
  obtain ⟨_, _, _, _, _, _, _, _, _, _, _, _, _, _, _, _, _, _, _, _, _, _, _, _, _, _, _, rfl⟩ := c3
  obtain ⟨_, _, _, _, _, _, _, _, _, _, _, _, _, _, _, _, _, rfl⟩ := e3
  refine wpAny_call ?_
  k_dflt ktr_enter
  (repeat' (first | (k_unfold; (try dsimp only)) | (k_end; wrow_close) | ((with_reducible show wpAny _ _ (binaryOp Operator.Add (Value.bytes _ _) (Value.bytes _ _)) _ _ _); (refine add_nought (by omega) ?_); intro tz9 kz9) | ((with_reducible show wpAny _ _ (binaryOp Operator.Mult (Value.bytes _ _) (Value.int _ _)) _ _ _); (refine mul_nought (by omega) ?_); intro tz9 kz9) | ((with_reducible show wpAny _ _ (subscriptTail _ (Expr.Slice none _ none _) (Value.bytes _ _) (Value.ref _)) _ _ _); (with_reducible rename Fr _ _ _ _ => Fz9); (with_reducible rename News _ _ _ _ => Nz9); (refine slice_whole (s := ⟨_, _, _, _, _⟩) Fz9 Nz9 (by first | rfl | omega) (by omega) ?_); intro hz9 tz9 kz9 Fz9 Nz9) | walk1 | (dsimp only; walk1) | (leave1; walk_say "STEP leave1"; (try dsimp only)) | fail "no step"))
  rename Fr _ _ _ _ => lF
  rename News _ _ _ _ => lN
  exact ret _ _ _ lF lN
theorem valued_ok {w : World} {dp un : Nat} {gd : Option (List Code)} {cn : Str} {cs : Scope} {L a : Addr} {ccd : Value} {cl : List (Str × Addr)} {outer : List Env} {A₀ : Around} {base h₀ : Heap} {m : Str → Option Value} {s : Shared} {Q E : Value → Shared → Prop}
   {loose : List Str} {mean : ExcName → Option Value} {mg mb : Str → Option Value} {news : List (Addr × Obj)} {b : Array UInt8} {it di vt cl9 kl sh ds : Addr} {oit osh : Obj} {t1 t2 : Tok}
   (B : Below A₀ base outer h₀) (F : Fr h₀ L s.heap m) (X : (K w.params).In h₀) (T : Top q loose mean mg mb h₀) (hk : cs.kind = .function) (N : News h₀ L s.heap news) (hd : dp + 16 < recursionLimit) (hu : un + 128 < cLine) (hb0 : 0 < b.size) (hb : b.size ≤ 5)
   (c1 : (it, instObj 262 di) ∈ news) (c2 : (di, oit) ∈ news) (c3 : DItem w vt cl9 kl sh b.size oit) (d1 : (vt, tupOf #[.str (Str.ofString "text") t1, .bytes b t2]) ∈ news) (e1 : (sh, instObj 500 ds) ∈ news) (e2 : (ds, osh) ∈ news) (e3 : DShape w b.size osh)
   (ret : ∀ t h' tk', Fr h₀ L h' m → News h₀ L h' news → Q (.bytes b t) {s with heap := h', toks := tk'}) :
   wpAny (model pw w) (ktrTop dp un gd cn cs L a ccd cl outer) (call (.ref 729) [.ref it]) Q E s := by
  exact clo (by with_unfolding_all rfl) valued_ok_m (Bag.mk w gd cs ccd cl outer A₀ s loose mean bag0.qf bag0.qu (lk [un, L, a, it, di, vt, cl9, kl, sh, ds, t1, t2] dp) (lk [] cn) (lk [h₀] base) (lk [mg, mb] m) (lk [] news) (lk [E] Q) bag0.i bag0.vs bag0.ns (lk [] b) bag0.bool (lk [osh] oit) bag0.avs bag0.kvs bag0.nb bag0.nbool bag0.nn bag0.l bag0.kc bag0.nd bag0.u8 bag0.d bag0.ov) B F X T hk N hd hu hb0 hb c1 c2 c3 d1 e1 e2 e3 ret

end
section
local macro_rules | `(tactic| k_mem) => `(tactic| (change (_ : Addr × Obj) ∈ (_ : List (Addr × Obj)); ktr_member))
theorem flush_C5 : True := by first | walk1 | exact trivial
section
open PySem PySem.W PySem.Calls PyProof.Rows
theorem rep_size (n : Nat) : ((List.replicate ((n : Int)).toNat [(32 : UInt8)]).flatten.toArray).size = n := by simp
noncomputable def memory_ok_P (w : World) (dp : Nat) (un : Nat) (gd : Option (List Code)) (cn : Str) (cs : Scope) (L : Addr) (a : Addr) (ccd : Value) (cl : List (Str × Addr)) (outer : List Env) (A₀ : Around) (base : Heap) (h₀ : Heap) (m : Str → Option Value) (s : Shared) (Q : Value → Shared → Prop) (E : Value → Shared → Prop) (loose : List Str) (mean : ExcName → Option Value) (mg : Str → Option Value) (mb : Str → Option Value) (news : List (Addr × Obj)) (b : Array UInt8) (D : Addr) : Prop := ∀ (B : Below A₀ base outer h₀) (F : Fr h₀ L s.heap m) (X : (K w.params).In h₀) (T : Top q loose mean mg mb h₀) (hk : cs.kind = .function) (N : News h₀ L s.heap news) (hd : dp + 32 < recursionLimit) (hu : un + 256 < cLine) (hb0 : 0 < b.size) (hb : b.size ≤ 5) (hD : DataAt w news D b) (ret : ∀ t h' tk', Fr h₀ L h' m → News h₀ L h' news → Q (.bytes b t) {s with heap := h', toks := tk'}), wpP (model pw w) (ktrTop dp un gd cn cs L a ccd cl outer) (call (.ref 736) [.ref D]) Q E s
noncomputable def memory_ok_S (c : Bag) : Prop := memory_ok_P c.w (c.n 0) (c.n 1) c.gd (c.str 0) c.cs (c.n 2) (c.n 3) c.v c.cl c.outer c.ar (c.heap 0) (c.heap 1) (c.m 0) c.s (c.q 0) (c.q 1) c.loose c.mean (c.m 1) (c.m 2) (c.news 0) (c.b 0) (c.n 4)
@[irreducible] noncomputable def memory_ok_c : Bag := pick memory_ok_S
theorem memory_ok_m : memory_ok_S memory_ok_c := by
  refine (?zz9 : ∀ (w : World) (dp : Nat) (un : Nat) (gd : Option (List Code)) (cn : Str) (cs : Scope) (L : Addr) (a : Addr) (ccd : Value) (cl : List (Str × Addr)) (outer : List Env) (A₀ : Around) (base : Heap) (h₀ : Heap) (m : Str → Option Value) (s : Shared) (Q : Value → Shared → Prop) (E : Value → Shared → Prop) (loose : List Str) (mean : ExcName → Option Value) (mg : Str → Option Value) (mb : Str → Option Value) (news : List (Addr × Obj)) (b : Array UInt8) (D : Addr), memory_ok_P w dp un gd cn cs L a ccd cl outer A₀ base h₀ m s Q E loose mean mg mb news b D) memory_ok_c.w (memory_ok_c.n 0) (memory_ok_c.n 1) memory_ok_c.gd (memory_ok_c.str 0) memory_ok_c.cs (memory_ok_c.n 2) (memory_ok_c.n 3) memory_ok_c.v memory_ok_c.cl memory_ok_c.outer memory_ok_c.ar (memory_ok_c.heap 0) (memory_ok_c.heap 1) (memory_ok_c.m 0) memory_ok_c.s (memory_ok_c.q 0) (memory_ok_c.q 1) memory_ok_c.loose memory_ok_c.mean (memory_ok_c.m 1) (memory_ok_c.m 2) (memory_ok_c.news 0) (memory_ok_c.b 0) (memory_ok_c.n 4)
  intro w dp un gd cn cs L a ccd cl outer A₀ base h₀ m s Q E loose mean mg mb news b D B F X T hk N hd hu hb0 hb hD ret
  obtain ⟨dd, wl, ll, df, sl, ix, it, di, vt, cl9, kl, sh, ds, od, odf, oix, oit, osh, t1, t2, ⟨a1, a2, ⟨_, _, _, _, _, _, _, rfl⟩⟩, ⟨b1, b2, b3, b4, ⟨b5a, b5b, b5c, b5d, b5e⟩, b6, b7⟩, ⟨c1, c2, c3⟩, ⟨d1, d2, d3⟩, e1, e2, e3⟩ := hD
  have c3' := c3
  obtain ⟨_, _, _, _, _, _, _, _, _, _, _, _, _, _, _, _, _, _, _, _, _, _, _, _, _, _, _, rfl⟩ := c3'
  refine wpP_call ?_
  (k_dflt (refine' codeP_def ?k1 ?k2 ?k3 ?k4 ?k5 ?kA ?kF ?kK ?k6 ?k7 ?k8 ?k9 ?kB ?_ ?c2 ?c3 ?c4 ?c5; (case kA => exact rfl); (case kF => exact rfl); (case kK => first | exact rfl | assumption); (case k1 => k_asm); (case k2 => k_asm); (case k3 => k_asm); (case k4 => k_asm); (case k5 => k_asm); (case k6 => k_is); (case k7 => k_is); (case k8 => first | exact r1 (by assumption) rfl | exact r2 (by assumption) rfl | exact r3 (by assumption) rfl | exact r0 (by assumption) | k_room); (case k9 => first | exact BindsTo.of_eq rfl | exact binds_K (by k_in) rfl (by k_is) rfl rfl rfl); (case c5 => decide); (case kB => exact locs rfl); (case c2 => exact rfl); (case c3 => exact rfl); (case c4 => exact rfl); k_whole; intro g1 L1 h1 FG1 F1 N1 B1 X1 T1 l1; (try dsimp only)))
  refine wpP_execs_cons (wpP_Assign_Name (wpP_Call ?_))
  k_steps
  refine wpP_callWith_T (wpP_of ?_)
  k_steps
  rename Fr _ _ _ _ => lF
  rename News _ _ _ _ => lN
  refine call_ba lF lN (by rw [rep_size, sizeLine_eq]; omega) ?_
  clear lF lN
  intro S hp F2 N2 l2
  have hz := rep_size b.size
  generalize (List.replicate ((b.size : Int)).toNat [(32 : UInt8)]).flatten.toArray = bb at *
  k_steps
  refine wpP_execs_leaf ?_
  k_fold
  (repeat' (first | (k_unfold; (try dsimp only)) | (k_end; wrow_close) | ((with_reducible show wpAny _ _ (pyIter (Value.ref _)) (fun it s₂ => TurnsAt _ _ _ _ _ _ _ _ _ it s₂) _ _); k_dflt (refine' iter_emp ?hq12 ?Fq12 ?Nq12 ?mq12 ?eq12 ?_; (case hq12 => rfl); (case Fq12 => k_asm); (case Nq12 => k_asm); (case mq12 => k_mem); (case eq12 => first | assumption | exact ⟨by assumption, by assumption, by assumption, by assumption, by assumption⟩); k_whole); intro hz9 tkz9 Fz9 Nz9) | ((with_reducible show wpAny _ _ (exec (Stmt.For (Expr.Name ..) (Expr.Attribute ..) ..) _) _ _ _); (rename Fr _ _ _ _ => lFz9); (with_unfolding_all refine' For_turns lFz9 ?_; k_whole)) | walk1 | (dsimp only; walk1) | (leave1; walk_say "STEP leave1"; (try dsimp only)) | fail "no step"))
  refine wpP_execs_cons ?_
  rename Fr _ _ _ _ => lF
  refine For_P lF ?_
  k_fold
  k_steps
  rename Fr _ _ _ _ => lF
  rename News _ _ _ _ => lN
  with_unfolding_all refine' iter_listMP (Q := _) [Str.ofString "root"] (fun ld i us nx => (∃ u, us = [u]) ∧ nx = (S, baOf (if i = 0 then bb else b)) :: news) (vs := [.ref it]) (by rfl) lF lN (.tail _ b1) rfl rfl ?_ ?_ ?_ ?_
  · rintro i us nx ⟨_, rfl⟩
    exact .tail _ b1
  · exact ⟨⟨_, rfl⟩, rfl⟩
  · rintro i v us nx h tk I io hv ⟨⟨u, rfl⟩, rfl⟩ hio hI F' N'
    clear lF lN
    have hi0 : i = 0 := by
      have := (List.getElem?_eq_some_iff.mp hv).1
      simp only [List.length_cons, List.length_nil] at this
      omega
    subst hi0
    obtain rfl : Value.ref it = v := Option.some.inj hv
    rw [if_pos rfl] at N'
    have hI1 := neN (hI (S, _) (.head _))
    have hS2 : ∀ p ∈ news, p.1 ≠ S := fun p hp => Nat.ne_of_lt (l2 p hp)
    have hI2 : ∀ p ∈ news, p.1 ≠ I := fun p hp => hI p (.tail _ hp)
    clear hI
    k_steps
    refine wpP_execs_cons (wpP_If (wpP_of ?_))
    k_fold
    k_steps
    refine wpP_execs_cons (wpP_Assign_Subscript (wpP_of ?_))
    k_fold
    (repeat' (first | (k_unfold; (try dsimp only)) | (k_end; wrow_close) | ((with_reducible show wpAny _ _ (call (Value.ref 729) [Value.ref _]) _ _ _); k_dflt (refine' valued_ok ?Bq13 ?Fq13 ?Xq13 ?Tq13 ?hkq13 ?Nq13 ?hdq13 ?huq13 ?hb0q13 ?hbq13 ?c1q13 ?c2q13 ?c3q13 ?d1q13 ?e1q13 ?e2q13 ?e3q13 ?_; (case Bq13 => k_asm); (case Fq13 => k_asm); (case Xq13 => k_asm); (case Tq13 => k_asm); (case hkq13 => first | rfl | assumption); (case Nq13 => k_asm); (case hdq13 => first | exact r1 (by assumption) rfl | exact r2 (by assumption) rfl | exact r3 (by assumption) rfl | exact r0 (by assumption) | ktr_room); (case huq13 => first | exact r1 (by assumption) rfl | exact r2 (by assumption) rfl | exact r3 (by assumption) rfl | exact r0 (by assumption) | ktr_units); (case hb0q13 => assumption); (case hbq13 => assumption); (case c1q13 => k_mem); (case c2q13 => k_mem); (case c3q13 => assumption); (case d1q13 => k_mem); (case e1q13 => k_mem); (case e2q13 => k_mem); (case e3q13 => assumption); k_whole); intro tz9 hz9 tkz9 Fz9 Nz9) | walk1 | (dsimp only; walk1) | (leave1; walk_say "STEP leave1"; (try dsimp only)) | fail "no step"))
    rename Fr _ _ _ _ => lF
    rename News _ _ _ _ => lN
    refine setItem_ba (s := ⟨_, _, _, _, _⟩) lF lN (by k_upd) (by first | exact Nat.le_trans (by assumption) (Nat.le_of_ble_eq_true rfl) | (simp only [sizeLine_eq]; omega)) (by omega) (by first | rfl | omega) (by first | rfl | omega) ?_
    clear lF lN
    intro h9 F9 N9
    k_steps
    refine wpP_execs_nil ?_
    k_steps
    refine wpP_execs_nil ?_
    dsimp only [TPost]
    refine ⟨_, _, _, _, _, rfl, F9, N9, fun p hp => ?_, fun p hp => .tail _ hp, fun p hp q hq => ?_, fun y hy => ?_, ⟨_, rfl⟩, rfl⟩
    · rw [List.mem_singleton.mp hp]; exact .head _
    · rw [List.mem_singleton.mp hq]
      rcases List.mem_cons.mp hp with rfl | hp
      · exact hI1
      · exact hI2 p hp
    · have h1 : y ≠ Str.ofString "root" := fun e => hy (e ▸ .head _)
      simp only [h1, if_false, updL, List.zip, List.zipWith, List.lookup_cons, beq_eq_false_iff_ne.mpr h1, List.lookup_nil]
  · rintro us nx h tk ⟨⟨u, rfl⟩, rfl⟩ F' N'
    clear lF lN
    simp only [List.length_cons, List.length_nil, Nat.zero_add, Nat.one_ne_zero, if_false] at N'
    dsimp only
    refine wpP_of ?_
    k_fold
    (repeat' (first | (k_unfold; (try dsimp only)) | (k_end; wrow_close) | ((with_reducible show wpAny _ _ (call (Value.type "bytes") [Value.ref _]) _ _ _); (k_dflt (refine' call_bytes_ba ?Nq9 ?mq9 ?zq9 ?_; (case Nq9 => k_asm); (case mq9 => k_mem); (case zq9 => first | exact Nat.le_trans (by assumption) (Nat.le_of_ble_eq_true rfl) | (simp only [sizeLine_eq]; omega)); k_whole)); intro tz9 kz9) | walk1 | (dsimp only; walk1) | (leave1; walk_say "STEP leave1"; (try dsimp only)) | fail "no step"))
    rename Fr _ _ _ _ => lF
    rename News _ _ _ _ => lN
    exact ret _ _ _ lF fun p hp => lN p (.tail _ hp)
theorem memory_ok {w : World} {dp un : Nat} {gd : Option (List Code)} {cn : Str} {cs : Scope} {L a : Addr} {ccd : Value} {cl : List (Str × Addr)} {outer : List Env} {A₀ : Around} {base h₀ : Heap} {m : Str → Option Value} {s : Shared} {Q E : Value → Shared → Prop}
   {loose : List Str} {mean : ExcName → Option Value} {mg mb : Str → Option Value} {news : List (Addr × Obj)} {b : Array UInt8} {D : Addr}
   (B : Below A₀ base outer h₀) (F : Fr h₀ L s.heap m) (X : (K w.params).In h₀) (T : Top q loose mean mg mb h₀) (hk : cs.kind = .function) (N : News h₀ L s.heap news) (hd : dp + 32 < recursionLimit) (hu : un + 256 < cLine) (hb0 : 0 < b.size) (hb : b.size ≤ 5) (hD : DataAt w news D b)
   (ret : ∀ t h' tk', Fr h₀ L h' m → News h₀ L h' news → Q (.bytes b t) {s with heap := h', toks := tk'}) :
   wpP (model pw w) (ktrTop dp un gd cn cs L a ccd cl outer) (call (.ref 736) [.ref D]) Q E s := by
  exact clo (by with_unfolding_all rfl) memory_ok_m (Bag.mk w gd cs ccd cl outer A₀ s loose mean bag0.qf bag0.qu (lk [un, L, a, D] dp) (lk [] cn) (lk [h₀] base) (lk [mg, mb] m) (lk [] news) (lk [E] Q) bag0.i bag0.vs bag0.ns (lk [] b) bag0.bool bag0.o bag0.avs bag0.kvs bag0.nb bag0.nbool bag0.nn bag0.l bag0.kc bag0.nd bag0.u8 bag0.d bag0.ov) B F X T hk N hd hu hb0 hb hD ret

end
end
end
section
local macro_rules | `(tactic| k_units) => `(tactic| (have hcL9 := cLine_is; (try simp only [units_make, units_in1, units_deeper, Around.mark_units] at *); (try dsimp only [ktrTop] at *); omega))
local macro_rules | `(tactic| k_mem) => `(tactic| (change (_ : Addr × Obj) ∈ (_ : List (Addr × Obj)); ktr_member))
section
local macro_rules | `(tactic| k_all) => `(tactic| first | assumption | exact allLt_mem (by assumption))
theorem flush_C6 : True := by first | walk1 | exact trivial
section
open PySem PySem.W PySem.Calls PyProof.Rows
noncomputable def world_ok_P (w : World) (dp : Nat) (un : Nat) (gd : Option (List Code)) (cn : Str) (cs : Scope) (L : Addr) (a : Addr) (ccd : Value) (cl : List (Str × Addr)) (outer : List Env) (A₀ : Around) (base : Heap) (h₀ : Heap) (m : Str → Option Value) (s : Shared) (Q : Value → Shared → Prop) (E : Value → Shared → Prop) (loose : List Str) (mean : ExcName → Option Value) (mg : Str → Option Value) (mb : Str → Option Value) (news : List (Addr × Obj)) (b : Array UInt8) (p : Addr) (rl : Addr) (ini : Bool) (shelf : Str) (ts : Tok) (its : Array Value) (n : Nat) : Prop := ∀ (B : Below A₀ base outer h₀) (F : Fr h₀ L s.heap m) (X : (K w.params).In h₀) (T : Top q loose mean mg mb h₀) (hk : cs.kind = .function) (N : News h₀ L s.heap news) (hd : dp + 48 < recursionLimit) (hu : un + 400 < cLine) (hb0 : 0 < b.size) (hb : b.size ≤ 5) (hP : ProgAt w news p b ini) (hr : (rl, listOf its n) ∈ news) (hz : its.size ≤ 5) (ret : ∀ x dx rows told mem hn op add n1 n2 n3 h' tk', Fr h₀ L h' m → News h₀ L h' (add ++ news) → WorldAt w add x dx p shelf rows told mem hn op #[] → (rows, listOf its n1) ∈ add → (told, listOf #[] n2) ∈ add → (mem, baOf b) ∈ add → (op, listOf #[] n3) ∈ add →
     (∀ r ∈ add, ∀ q ∈ news, @LT.lt Nat _ q.1 r.1) → (@LT.lt Nat _ dx x ∧ @LT.lt Nat _ x rows ∧ @LT.lt Nat _ rows told ∧ @LT.lt Nat _ told mem ∧ @LT.lt Nat _ mem hn ∧ @LT.lt Nat _ hn op) → Q (.ref x) {s with heap := h', toks := tk'}), wpP (model pw w) (ktrTop dp un gd cn cs L a ccd cl outer) (call (.ref 806) [.ref p, .str shelf ts, .ref rl]) Q E s
noncomputable def world_ok_S (c : Bag) : Prop := world_ok_P c.w (c.n 0) (c.n 1) c.gd (c.str 0) c.cs (c.n 2) (c.n 3) c.v c.cl c.outer c.ar (c.heap 0) (c.heap 1) (c.m 0) c.s (c.q 0) (c.q 1) c.loose c.mean (c.m 1) (c.m 2) (c.news 0) (c.b 0) (c.n 4) (c.n 5) c.bool (c.str 1) (c.n 6) (c.avs 0) (c.n 7)
@[irreducible] noncomputable def world_ok_c : Bag := pick world_ok_S
theorem world_ok_m : world_ok_S world_ok_c := by
  refine (?zz9 : ∀ (w : World) (dp : Nat) (un : Nat) (gd : Option (List Code)) (cn : Str) (cs : Scope) (L : Addr) (a : Addr) (ccd : Value) (cl : List (Str × Addr)) (outer : List Env) (A₀ : Around) (base : Heap) (h₀ : Heap) (m : Str → Option Value) (s : Shared) (Q : Value → Shared → Prop) (E : Value → Shared → Prop) (loose : List Str) (mean : ExcName → Option Value) (mg : Str → Option Value) (mb : Str → Option Value) (news : List (Addr × Obj)) (b : Array UInt8) (p : Addr) (rl : Addr) (ini : Bool) (shelf : Str) (ts : Tok) (its : Array Value) (n : Nat), world_ok_P w dp un gd cn cs L a ccd cl outer A₀ base h₀ m s Q E loose mean mg mb news b p rl ini shelf ts its n) world_ok_c.w (world_ok_c.n 0) (world_ok_c.n 1) world_ok_c.gd (world_ok_c.str 0) world_ok_c.cs (world_ok_c.n 2) (world_ok_c.n 3) world_ok_c.v world_ok_c.cl world_ok_c.outer world_ok_c.ar (world_ok_c.heap 0) (world_ok_c.heap 1) (world_ok_c.m 0) world_ok_c.s (world_ok_c.q 0) (world_ok_c.q 1) world_ok_c.loose world_ok_c.mean (world_ok_c.m 1) (world_ok_c.m 2) (world_ok_c.news 0) (world_ok_c.b 0) (world_ok_c.n 4) (world_ok_c.n 5) world_ok_c.bool (world_ok_c.str 1) (world_ok_c.n 6) (world_ok_c.avs 0) (world_ok_c.n 7)
  intro w dp un gd cn cs L a ccd cl outer A₀ base h₀ m s Q E loose mean mg mb news b p rl ini shelf ts its n B F X T hk N hd hu hb0 hb hP hr hz ret
  obtain ⟨pd, D, fl, op, ofl, nm, ⟨a1, a2, a3⟩, ⟨b1, b2⟩, hD⟩ := hP
  have hD' := hD
  obtain ⟨_, _, _, _, _, _, rfl⟩ := a3
  obtain ⟨dd, wl, ll, df, sl, ix, it, di, vt, cl9, kl, sh, ds, od, odf, oix, oit, osh, t1, t2, ⟨d1, d2, ⟨_, _, _, _, _, _, _, rfl⟩⟩, ⟨e1, e2, e3, e4, e5, e6, e7a, e7b, e7c, e7d, e7e⟩, _⟩ := hD'
  k_dflt (refine' call_clsP ?k1 ?k2 ?k3 ?k4 ?k5 ?k6 ?_; (case k1 => k_asm); (case k2 => k_asm); (case k3 => k_asm); (case k4 => k_is); (case k5 => k_is); (case k6 => k_is); k_whole)
  intro x dx h0 F0 N0 l0 l00
  replace l00 := ltN l00
  (k_dflt (refine' codeP_def ?k1 ?k2 ?k3 ?k4 ?k5 ?kA ?kF ?kK ?k6 ?k7 ?k8 ?k9 ?kB ?_ ?c2 ?c3 ?c4 ?c5; (case kA => exact rfl); (case kF => exact rfl); (case kK => first | exact rfl | assumption); (case k1 => k_asm); (case k2 => k_asm); (case k3 => k_asm); (case k4 => k_asm); (case k5 => k_asm); (case k6 => k_is); (case k7 => k_is); (case k8 => first | exact r1 (by assumption) rfl | exact r2 (by assumption) rfl | exact r3 (by assumption) rfl | exact r0 (by assumption) | k_room); (case k9 => first | exact BindsTo.of_eq rfl | exact binds_K (by k_in) rfl (by k_is) rfl rfl rfl); (case c5 => decide); (case kB => exact locs rfl); (case c2 => exact rfl); (case c3 => exact rfl); (case c4 => exact rfl); k_whole; intro g1 L1 h1 FG1 F1 N1 B1 X1 T1 l1; (try dsimp only)))
  refine wpP_execs_leaf ?_
  k_fold
  k_steps
  refine wpP_execs_leaf ?_
  k_fold
  k_steps
  refine wpP_execs_leaf ?_
  k_fold
  (repeat' (first | (k_unfold; (try dsimp only)) | (k_end; wrow_close) | ((with_reducible show wpAny _ _ (call (Value.type "list") [Value.ref _]) _ _ _); (k_dflt (refine' list_made ?Fq15 ?Nq15 ?mq15 ?zq15 ?_; (case Fq15 => k_asm); (case Nq15 => k_asm); (case mq15 => k_mem); (case zq15 => first | exact Nat.le_trans (by assumption) (Nat.le_of_ble_eq_true rfl) | (simp only [sizeLine_eq]; omega)); k_whole)); intro Dz9 cz9 hz9 Fz9 Nz9 l1; (try k_lt l1)) | walk1 | (dsimp only; walk1) | (leave1; walk_say "STEP leave1"; (try dsimp only)) | fail "no step"))
  refine wpP_execs_leaf ?_
  k_fold
  k_steps
  refine wpP_execs_cons (wpP_Assign_Attribute (wpP_Call ?_))
  k_steps
  refine wpP_callWith_T (wpP_spliced_cons (show wpP _ _ (eval _ _) _ _ _ from wpP_Call ?_))
  k_steps
  refine wpP_callWith_K X1 (by k_is) (wpP_of ?_)
  k_steps
  k_dflt (refine' memory_ok ?B ?F ?X ?T ?hk ?N ?hd ?hu ?hb0 ?hb ?hD ?_; (case B => k_asm); (case F => k_asm); (case X => k_asm); (case T => k_asm); (case hk => first | rfl | assumption); (case N => k_asm); (case hd => first | exact r1 (by assumption) rfl | exact r2 (by assumption) rfl | exact r3 (by assumption) rfl | exact r0 (by assumption) | ktr_room); (case hu => first | exact r1 (by assumption) rfl | exact r2 (by assumption) rfl | exact r3 (by assumption) rfl | exact r0 (by assumption) | k_units); (case hb0 => assumption); (case hb => assumption); (case hD => exact hD.sub (by intro p hp; repeat (first | exact hp | refine List.mem_cons_of_mem _ ?_))); k_whole)
  intro t9 h9 tk9 F9 N9
  refine wpP_spliced_nil ?_
  dsimp only [List.nil_append]
  refine call_ba F9 N9 (by first | exact Nat.le_trans (by assumption) (Nat.le_of_ble_eq_true rfl) | (simp only [sizeLine_eq]; omega)) ?_
  clear F9 N9
  intro mem h8 F8 N8 l8
  (try k_lt l8)
  k_steps
  refine wpP_of ?_
  k_fold
  (repeat' (first | (k_unfold; (try dsimp only)) | (k_end; wrow_close) | ((with_reducible show wpAny _ _ (pyIter (Value.ref _)) (fun it s₂ => TurnsAt _ _ _ _ _ _ _ _ _ it s₂) _ _); k_dflt (refine' iter_nil ?hq18 ?Fq18 ?Nq18 ?mq18 ?_; (case hq18 => rfl); (case Fq18 => k_asm); (case Nq18 => k_asm); (case mq18 => k_mem); k_whole); intro hz9 tkz9 Fz9 Nz9) | ((with_reducible show wpAny _ _ (exec (Stmt.For (Expr.Name ..) (Expr.Call ..) ..) _) _ _ _); (rename Fr _ _ _ _ => lFz9); (with_unfolding_all refine' For_turns lFz9 ?_; k_whole)) | ((with_reducible show wpAny _ _ (call (Value.builtin "sorted") [Value.ref _]) _ _ _); (k_dflt (refine' sorted_emp ?hq16 ?Fq16 ?Nq16 ?mq16 ?eq16 ?_; (case hq16 => rfl); (case Fq16 => k_asm); (case Nq16 => k_asm); (case mq16 => k_mem); (case eq16 => first | assumption | exact ⟨by assumption, by assumption, by assumption, by assumption, by assumption⟩); k_whole)); intro Bz9 cz9 hz9 tkz9 Fz9 Nz9 l1; (try k_lt l1)) | walk1 | (dsimp only; walk1) | (leave1; walk_say "STEP leave1"; (try dsimp only)) | fail "no step"))
  rename Fr _ _ _ _ => lF
  rename News _ _ _ _ => lN
  refine ret x dx _ _ mem _ _ [_, _, _, _, _, _, _, _, _, _, _] _ _ _ _ _ lF lN ⟨by k_mem, ⟨_, by k_mem, _, _, _, _, _, _, _, _, _, _, _, _, _, _, _, _, rfl⟩, ⟨_, by k_mem, ⟨by assumption, by assumption, by assumption, by assumption, by assumption⟩⟩⟩ (by k_mem) (by k_mem) (by k_mem) (by k_mem) ?_ ⟨l00, by omega, by omega, by omega, by omega, by omega⟩
  intro r hr q hq
  have l9 := ltN (l0 q hq)
  simp only [List.mem_cons, List.not_mem_nil, or_false] at hr
  rcases hr with rfl | rfl | rfl | rfl | rfl | rfl | rfl | rfl | rfl | rfl | rfl
  all_goals first | (refine ltL l9 ?_; kwk_ne; done) | (refine Nat.lt_trans l9 ?_; kwk_ne; done) | exact l9 | (dsimp only; omega)
theorem world_ok {w : World} {dp un : Nat} {gd : Option (List Code)} {cn : Str} {cs : Scope} {L a : Addr} {ccd : Value} {cl : List (Str × Addr)} {outer : List Env} {A₀ : Around} {base h₀ : Heap} {m : Str → Option Value} {s : Shared} {Q E : Value → Shared → Prop}
   {loose : List Str} {mean : ExcName → Option Value} {mg mb : Str → Option Value} {news : List (Addr × Obj)} {b : Array UInt8} {p rl : Addr} {ini : Bool} {shelf : Str} {ts : Tok} {its : Array Value} {n : Nat}
   (B : Below A₀ base outer h₀) (F : Fr h₀ L s.heap m) (X : (K w.params).In h₀) (T : Top q loose mean mg mb h₀) (hk : cs.kind = .function) (N : News h₀ L s.heap news) (hd : dp + 48 < recursionLimit) (hu : un + 400 < cLine) (hb0 : 0 < b.size) (hb : b.size ≤ 5) (hP : ProgAt w news p b ini) (hr : (rl, listOf its n) ∈ news) (hz : its.size ≤ 5)
   (ret : ∀ x dx rows told mem hn op add n1 n2 n3 h' tk', Fr h₀ L h' m → News h₀ L h' (add ++ news) → WorldAt w add x dx p shelf rows told mem hn op #[] → (rows, listOf its n1) ∈ add → (told, listOf #[] n2) ∈ add → (mem, baOf b) ∈ add → (op, listOf #[] n3) ∈ add →
     (∀ r ∈ add, ∀ q ∈ news, @LT.lt Nat _ q.1 r.1) → (@LT.lt Nat _ dx x ∧ @LT.lt Nat _ x rows ∧ @LT.lt Nat _ rows told ∧ @LT.lt Nat _ told mem ∧ @LT.lt Nat _ mem hn ∧ @LT.lt Nat _ hn op) → Q (.ref x) {s with heap := h', toks := tk'}) :
   wpP (model pw w) (ktrTop dp un gd cn cs L a ccd cl outer) (call (.ref 806) [.ref p, .str shelf ts, .ref rl]) Q E s := by
  exact clo (by with_unfolding_all rfl) world_ok_m (Bag.mk w gd cs ccd cl outer A₀ s loose mean bag0.qf bag0.qu (lk [un, L, a, p, rl, ts, n] dp) (lk [shelf] cn) (lk [h₀] base) (lk [mg, mb] m) (lk [] news) (lk [E] Q) bag0.i bag0.vs bag0.ns (lk [] b) ini bag0.o (lk [] its) bag0.kvs bag0.nb bag0.nbool bag0.nn bag0.l bag0.kc bag0.nd bag0.u8 bag0.d bag0.ov) B F X T hk N hd hu hb0 hb hP hr hz ret

end
theorem flush_D1 : True := by first | walk1 | exact trivial
section
open PySem PySem.W PySem.Calls PyProof.Rows
/-- an item alone -/
structure ItemAt (w : World) (nx : List (Addr × Obj)) (it kl sh : Addr) (z : Int) : Prop where
  ex : ∃ (di vt cl : Addr) (oit : Obj), (it, instObj 262 di) ∈ nx ∧ (di, oit) ∈ nx ∧ DItem w vt cl kl sh z oit ∧ (kl, listOf #[] 0) ∈ nx
theorem ItemAt.sub {w : World} {nx nx' : List (Addr × Obj)} {it kl sh : Addr} {z : Int} (x : ItemAt w nx it kl sh z) (k : ∀ p ∈ nx, p ∈ nx') : ItemAt w nx' it kl sh z := by
  obtain ⟨di, vt, cl9, oit, c1, c2, c3, c4⟩ := x
  exact ⟨di, vt, cl9, oit, k _ c1, k _ c2, c3, k _ c4⟩
noncomputable def under_ok_P (w : World) (dp : Nat) (un : Nat) (gd : Option (List Code)) (cn : Str) (cs : Scope) (L : Addr) (a : Addr) (ccd : Value) (cl : List (Str × Addr)) (outer : List Env) (A₀ : Around) (base : Heap) (h₀ : Heap) (m : Str → Option Value) (s : Shared) (Q : Value → Shared → Prop) (E : Value → Shared → Prop) (loose : List Str) (mean : ExcName → Option Value) (mg : Str → Option Value) (mb : Str → Option Value) (news : List (Addr × Obj)) (it : Addr) (kl : Addr) (sh : Addr) (z : Int) : Prop := ∀ (B : Below A₀ base outer h₀) (F : Fr h₀ L s.heap m) (X : (K w.params).In h₀) (T : Top q loose mean mg mb h₀) (hk : cs.kind = .function) (N : News h₀ L s.heap news) (hd : dp + 8 < recursionLimit) (hu : un + 100 < cLine) (hI : ItemAt w news it kl sh z) (ret : ∀ l n h' tk', Fr h₀ L h' m → News h₀ L h' ((l, listOf #[.ref it] n) :: news) → (∀ q ∈ news, @LT.lt Nat _ q.1 l) → Q (.ref l) {s with heap := h', toks := tk'}), wpAny (model pw w) (ktrTop dp un gd cn cs L a ccd cl outer) (call (.ref 306) [.ref it]) Q E s
noncomputable def under_ok_S (c : Bag) : Prop := under_ok_P c.w (c.n 0) (c.n 1) c.gd (c.str 0) c.cs (c.n 2) (c.n 3) c.v c.cl c.outer c.ar (c.heap 0) (c.heap 1) (c.m 0) c.s (c.q 0) (c.q 1) c.loose c.mean (c.m 1) (c.m 2) (c.news 0) (c.n 4) (c.n 5) (c.n 6) (c.i 0)
@[irreducible] noncomputable def under_ok_c : Bag := pick under_ok_S
theorem under_ok_m : under_ok_S under_ok_c := by
  refine (?zz9 : ∀ (w : World) (dp : Nat) (un : Nat) (gd : Option (List Code)) (cn : Str) (cs : Scope) (L : Addr) (a : Addr) (ccd : Value) (cl : List (Str × Addr)) (outer : List Env) (A₀ : Around) (base : Heap) (h₀ : Heap) (m : Str → Option Value) (s : Shared) (Q : Value → Shared → Prop) (E : Value → Shared → Prop) (loose : List Str) (mean : ExcName → Option Value) (mg : Str → Option Value) (mb : Str → Option Value) (news : List (Addr × Obj)) (it : Addr) (kl : Addr) (sh : Addr) (z : Int), under_ok_P w dp un gd cn cs L a ccd cl outer A₀ base h₀ m s Q E loose mean mg mb news it kl sh z) under_ok_c.w (under_ok_c.n 0) (under_ok_c.n 1) under_ok_c.gd (under_ok_c.str 0) under_ok_c.cs (under_ok_c.n 2) (under_ok_c.n 3) under_ok_c.v under_ok_c.cl under_ok_c.outer under_ok_c.ar (under_ok_c.heap 0) (under_ok_c.heap 1) (under_ok_c.m 0) under_ok_c.s (under_ok_c.q 0) (under_ok_c.q 1) under_ok_c.loose under_ok_c.mean (under_ok_c.m 1) (under_ok_c.m 2) (under_ok_c.news 0) (under_ok_c.n 4) (under_ok_c.n 5) (under_ok_c.n 6) (under_ok_c.i 0)
  intro w dp un gd cn cs L a ccd cl outer A₀ base h₀ m s Q E loose mean mg mb news it kl sh z B F X T hk N hd hu hI ret
  obtain ⟨di, vt, cl9, oit, c1, c2, ⟨_, _, _, _, _, _, _, _, _, _, _, _, _, _, _, _, _, _, _, _, _, _, _, _, _, _, _, rfl⟩, c4⟩ := hI
  refine wpAny_call ?_
  k_dflt ktr_enter
  (repeat' (first | (k_unfold; (try dsimp only)) | (k_end; wrow_close) | ((with_reducible show wpAny _ _ (compareOp CmpOp.NotEq (Value.ref _) (Value.ref _)) _ _ _); k_dflt (first | (refine' ne_nil ?Nq21 ?aq21 ?bq21 ?uq21 ?_; (case Nq21 => k_asm); (case aq21 => k_mem); (case bq21 => k_mem); (case uq21 => first | exact r1 (by assumption) rfl | exact r2 (by assumption) rfl | exact r3 (by assumption) rfl | exact r0 (by assumption) | k_units); k_whole) | (refine' ne_len ?Nq21 ?aq21 ?bq21 ?cq21 ?uq21 ?_; (case Nq21 => k_asm); (case aq21 => k_mem); (case bq21 => k_mem); (case cq21 => rfl); (case uq21 => first | exact r1 (by assumption) rfl | exact r2 (by assumption) rfl | exact r3 (by assumption) rfl | exact r0 (by assumption) | k_units); k_whole))) | walk1 | (dsimp only; walk1) | (leave1; walk_say "STEP leave1"; (try dsimp only)) | fail "no step"))
  rename Fr _ _ _ _ => lF
  rename News _ _ _ _ => lN
  exact ret _ _ _ _ lF (news_one lN (by k_mem) (by intro p hp; repeat (first | exact hp | refine List.mem_cons_of_mem _ ?_))) (by assumption)
theorem under_ok {w : World} {dp un : Nat} {gd : Option (List Code)} {cn : Str} {cs : Scope} {L a : Addr} {ccd : Value} {cl : List (Str × Addr)} {outer : List Env} {A₀ : Around} {base h₀ : Heap} {m : Str → Option Value} {s : Shared} {Q E : Value → Shared → Prop}
   {loose : List Str} {mean : ExcName → Option Value} {mg mb : Str → Option Value} {news : List (Addr × Obj)} {it kl sh : Addr} {z : Int}
   (B : Below A₀ base outer h₀) (F : Fr h₀ L s.heap m) (X : (K w.params).In h₀) (T : Top q loose mean mg mb h₀) (hk : cs.kind = .function) (N : News h₀ L s.heap news) (hd : dp + 8 < recursionLimit) (hu : un + 100 < cLine) (hI : ItemAt w news it kl sh z)
   (ret : ∀ l n h' tk', Fr h₀ L h' m → News h₀ L h' ((l, listOf #[.ref it] n) :: news) → (∀ q ∈ news, @LT.lt Nat _ q.1 l) → Q (.ref l) {s with heap := h', toks := tk'}) :
   wpAny (model pw w) (ktrTop dp un gd cn cs L a ccd cl outer) (call (.ref 306) [.ref it]) Q E s := by
  exact clo (by with_unfolding_all rfl) under_ok_m (Bag.mk w gd cs ccd cl outer A₀ s loose mean bag0.qf bag0.qu (lk [un, L, a, it, kl, sh] dp) (lk [] cn) (lk [h₀] base) (lk [mg, mb] m) (lk [] news) (lk [E] Q) (lk [] z) bag0.vs bag0.ns bag0.b bag0.bool bag0.o bag0.avs bag0.kvs bag0.nb bag0.nbool bag0.nn bag0.l bag0.kc bag0.nd bag0.u8 bag0.d bag0.ov) B F X T hk N hd hu hI ret

end
theorem flush_D2 : True := by first | walk1 | exact trivial
section
open PySem PySem.W PySem.Calls PyProof.Rows
structure DataS (w : World) (nx : List (Addr × Obj)) (D it : Addr) : Prop where
  ex : ∃ (dd wl ll df sl ix : Addr) (z : Int) (od odf : Obj), (D, instObj 288 dd) ∈ nx ∧ (dd, od) ∈ nx ∧ DData w wl ll df sl ix z od ∧ (wl, listOf #[.ref it] 0) ∈ nx ∧ (ll, listOf #[] 0) ∈ nx ∧ (df, odf) ∈ nx ∧ Emp w df odf
theorem DataS.sub {w : World} {nx nx' : List (Addr × Obj)} {D it : Addr} (x : DataS w nx D it) (k : ∀ p ∈ nx, p ∈ nx') : DataS w nx' D it := by
  obtain ⟨dd, wl, ll, df, sl, ix, z, od, odf, a1, a2, a3, a4, a5, a6, a7⟩ := x
  exact ⟨dd, wl, ll, df, sl, ix, z, od, odf, k _ a1, k _ a2, a3, k _ a4, k _ a5, k _ a6, a7⟩
noncomputable def all_items_ok_P (w : World) (dp : Nat) (un : Nat) (gd : Option (List Code)) (cn : Str) (cs : Scope) (L : Addr) (a : Addr) (ccd : Value) (cl : List (Str × Addr)) (outer : List Env) (A₀ : Around) (base : Heap) (h₀ : Heap) (m : Str → Option Value) (s : Shared) (Q : Value → Shared → Prop) (E : Value → Shared → Prop) (loose : List Str) (mean : ExcName → Option Value) (mg : Str → Option Value) (mb : Str → Option Value) (news : List (Addr × Obj)) (D : Addr) (it : Addr) (kl : Addr) (sh : Addr) (z : Int) : Prop := ∀ (B : Below A₀ base outer h₀) (F : Fr h₀ L s.heap m) (X : (K w.params).In h₀) (T : Top q loose mean mg mb h₀) (hk : cs.kind = .function) (N : News h₀ L s.heap news) (hd : dp + 10 < recursionLimit) (hu : un + 140 < cLine) (hI : ItemAt w news it kl sh z) (hD : DataS w news D it) (ret : ∀ l n h' tk', Fr h₀ L h' m → News h₀ L h' ((l, listOf #[.ref it] n) :: news) → (∀ q ∈ news, @LT.lt Nat _ q.1 l) → Q (.ref l) {s with heap := h', toks := tk'}), wpAny (model pw w) (ktrTop dp un gd cn cs L a ccd cl outer) (call (.ref 313) [.ref D]) Q E s
noncomputable def all_items_ok_S (c : Bag) : Prop := all_items_ok_P c.w (c.n 0) (c.n 1) c.gd (c.str 0) c.cs (c.n 2) (c.n 3) c.v c.cl c.outer c.ar (c.heap 0) (c.heap 1) (c.m 0) c.s (c.q 0) (c.q 1) c.loose c.mean (c.m 1) (c.m 2) (c.news 0) (c.n 4) (c.n 5) (c.n 6) (c.n 7) (c.i 0)
@[irreducible] noncomputable def all_items_ok_c : Bag := pick all_items_ok_S
theorem all_items_ok_m : all_items_ok_S all_items_ok_c := by
  refine (?zz9 : ∀ (w : World) (dp : Nat) (un : Nat) (gd : Option (List Code)) (cn : Str) (cs : Scope) (L : Addr) (a : Addr) (ccd : Value) (cl : List (Str × Addr)) (outer : List Env) (A₀ : Around) (base : Heap) (h₀ : Heap) (m : Str → Option Value) (s : Shared) (Q : Value → Shared → Prop) (E : Value → Shared → Prop) (loose : List Str) (mean : ExcName → Option Value) (mg : Str → Option Value) (mb : Str → Option Value) (news : List (Addr × Obj)) (D : Addr) (it : Addr) (kl : Addr) (sh : Addr) (z : Int), all_items_ok_P w dp un gd cn cs L a ccd cl outer A₀ base h₀ m s Q E loose mean mg mb news D it kl sh z) all_items_ok_c.w (all_items_ok_c.n 0) (all_items_ok_c.n 1) all_items_ok_c.gd (all_items_ok_c.str 0) all_items_ok_c.cs (all_items_ok_c.n 2) (all_items_ok_c.n 3) all_items_ok_c.v all_items_ok_c.cl all_items_ok_c.outer all_items_ok_c.ar (all_items_ok_c.heap 0) (all_items_ok_c.heap 1) (all_items_ok_c.m 0) all_items_ok_c.s (all_items_ok_c.q 0) (all_items_ok_c.q 1) all_items_ok_c.loose all_items_ok_c.mean (all_items_ok_c.m 1) (all_items_ok_c.m 2) (all_items_ok_c.news 0) (all_items_ok_c.n 4) (all_items_ok_c.n 5) (all_items_ok_c.n 6) (all_items_ok_c.n 7) (all_items_ok_c.i 0)
  intro w dp un gd cn cs L a ccd cl outer A₀ base h₀ m s Q E loose mean mg mb news D it kl sh z B F X T hk N hd hu hI hD ret
  obtain ⟨dd, wl, ll, df, sl, ix, z1, od, odf, d1, d2, ⟨_, _, _, _, _, _, _, rfl⟩, e1, e2, e4, ⟨e5a, e5b, e5c, e5d, e5e⟩⟩ := hD
  refine wpAny_call ?_
  k_dflt ktr_enter
  (repeat' (first | (k_unfold; (try dsimp only)) | (k_end; wrow_close) | ((with_reducible show wpAny _ _ (exec (Stmt.For (Expr.Name ..) (Expr.Call ..) ..) _) _ _ _); (rename Fr _ _ _ _ => lFz9); (with_unfolding_all refine' For_turns lFz9 ?_; k_whole)) | ((with_reducible show wpAny _ _ (pyIter (Value.ref _)) (fun it s₂ => TurnsAt _ _ _ _ _ _ _ _ _ it s₂) _ _); k_dflt (refine' iter_emp ?hq12 ?Fq12 ?Nq12 ?mq12 ?eq12 ?_; (case hq12 => rfl); (case Fq12 => k_asm); (case Nq12 => k_asm); (case mq12 => k_mem); (case eq12 => first | assumption | exact ⟨by assumption, by assumption, by assumption, by assumption, by assumption⟩); k_whole); intro hz9 tkz9 Fz9 Nz9) | ((with_reducible show wpAny _ _ (exec (Stmt.For (Expr.Name ..) (Expr.Attribute ..) ..) _) _ _ _); (rename Fr _ _ _ _ => lFz9); (with_unfolding_all refine' For_turns lFz9 ?_; k_whole)) | walk1 | (dsimp only; walk1) | (leave1; walk_say "STEP leave1"; (try dsimp only)) | fail "no step"))
  rename Fr _ _ _ _ => lF
  rename News _ _ _ _ => lN
  with_unfolding_all refine' iter_listM (Q := _) [Str.ofString "root"] (fun ld i us nx => (∃ u, us = [u]) ∧ match ld with | a :: b :: c :: (f, _) :: r => (∃ n, nx = a :: b :: c :: (f, listOf (if i = 0 then #[] else #[.ref it]) n) :: r) | _ => False) (vs := [.ref it]) (by rfl) lF lN (by k_mem) rfl rfl ?_ ?_ ?_ ?_
  · rintro i us nx ⟨_, _, rfl⟩
    exact .head _
  · exact ⟨⟨_, rfl⟩, _, rfl⟩
  · rintro i v us nx h tk I io hv ⟨⟨u, rfl⟩, nf, rfl⟩ hio hI F' N'
    clear lF lN
    have hi0 : i = 0 := by
      have := (List.getElem?_eq_some_iff.mp hv).1
      simp only [List.length_cons, List.length_nil] at this
      omega
    subst hi0
    obtain rfl : Value.ref it = v := Option.some.inj hv
    rw [if_pos rfl] at N' hI
    have hI1 := neN (hI _ (.tail _ (.tail _ (.tail _ (.head _)))))
    (repeat' (first | (k_unfold; (try dsimp only)) | (k_end; wrow_close) | ((with_reducible show wpAny _ _ (call (Value.ref 306) [Value.ref _]) _ _ _); k_dflt (refine' under_ok ?Bq22 ?Fq22 ?Xq22 ?Tq22 ?hkq22 ?Nq22 ?hdq22 ?huq22 ?hIq22 ?_; (case Bq22 => k_asm); (case Fq22 => k_asm); (case Xq22 => k_asm); (case Tq22 => k_asm); (case hkq22 => first | rfl | assumption); (case Nq22 => k_asm); (case hdq22 => first | exact r1 (by assumption) rfl | exact r2 (by assumption) rfl | exact r3 (by assumption) rfl | exact r0 (by assumption) | ktr_room); (case huq22 => first | exact r1 (by assumption) rfl | exact r2 (by assumption) rfl | exact r3 (by assumption) rfl | exact r0 (by assumption) | k_units); (case hIq22 => exact ItemAt.sub (by assumption) (by intro p hp; repeat (first | exact hp | refine List.mem_cons_of_mem _ ?_))); k_whole); intro lz9 nz9 hz9 tkz9 Fz9 Nz9 l1; (try k_lt l1)) | walk1 | (dsimp only; walk1) | (leave1; walk_say "STEP leave1"; (try dsimp only)) | fail "no step"))
    rename Fr _ _ _ _ => lF
    rename News _ _ _ _ => lN
    exact tend1 lF lN (by k_mem) (by (repeat refine List.forall_mem_cons.mpr ⟨by k_mem, ?_⟩); intro p hp; repeat (first | exact hp | refine List.mem_cons_of_mem _ ?_)) (by rfl) hI (by intro y hy; have e0 : y ≠ Str.ofString "root" := fun e => hy (e ▸ .head _); simp only [e0, beq_eq_false_iff_ne.mpr e0, if_false, updL, List.zip, List.zipWith, List.lookup_cons, List.lookup_nil]) ⟨⟨_, rfl⟩, _, rfl⟩
  · rintro us nx h tk ⟨⟨u, rfl⟩, nf, rfl⟩ F' N'
    clear lF lN
    k_steps
    rename Fr _ _ _ _ => lF
    rename News _ _ _ _ => lN
    exact ret _ _ _ _ lF (news_one lN (by k_mem) (by intro p hp; repeat (first | exact hp | refine List.mem_cons_of_mem _ ?_))) (by assumption)
theorem all_items_ok {w : World} {dp un : Nat} {gd : Option (List Code)} {cn : Str} {cs : Scope} {L a : Addr} {ccd : Value} {cl : List (Str × Addr)} {outer : List Env} {A₀ : Around} {base h₀ : Heap} {m : Str → Option Value} {s : Shared} {Q E : Value → Shared → Prop}
   {loose : List Str} {mean : ExcName → Option Value} {mg mb : Str → Option Value} {news : List (Addr × Obj)} {D it kl sh : Addr} {z : Int}
   (B : Below A₀ base outer h₀) (F : Fr h₀ L s.heap m) (X : (K w.params).In h₀) (T : Top q loose mean mg mb h₀) (hk : cs.kind = .function) (N : News h₀ L s.heap news) (hd : dp + 10 < recursionLimit) (hu : un + 140 < cLine) (hI : ItemAt w news it kl sh z) (hD : DataS w news D it)
   (ret : ∀ l n h' tk', Fr h₀ L h' m → News h₀ L h' ((l, listOf #[.ref it] n) :: news) → (∀ q ∈ news, @LT.lt Nat _ q.1 l) → Q (.ref l) {s with heap := h', toks := tk'}) :
   wpAny (model pw w) (ktrTop dp un gd cn cs L a ccd cl outer) (call (.ref 313) [.ref D]) Q E s := by
  exact clo (by with_unfolding_all rfl) all_items_ok_m (Bag.mk w gd cs ccd cl outer A₀ s loose mean bag0.qf bag0.qu (lk [un, L, a, D, it, kl, sh] dp) (lk [] cn) (lk [h₀] base) (lk [mg, mb] m) (lk [] news) (lk [E] Q) (lk [] z) bag0.vs bag0.ns bag0.b bag0.bool bag0.o bag0.avs bag0.kvs bag0.nb bag0.nbool bag0.nn bag0.l bag0.kc bag0.nd bag0.u8 bag0.d bag0.ov) B F X T hk N hd hu hI hD ret

end
end
section
local macro_rules | `(tactic| k_all) => `(tactic| first | assumption | exact allLt_mem (by assumption) | exact allLt_s1 (by assumption) | exact allLt_s2 (by assumption) | exact allLt_s3 (by assumption) | exact allLt_s4 (by assumption))
theorem flush_D3 : True := by first | walk1 | exact trivial
section
open PySem PySem.W PySem.Calls PyProof.Rows
noncomputable def find_ok_P (w : World) (dp : Nat) (un : Nat) (gd : Option (List Code)) (cn : Str) (cs : Scope) (L : Addr) (a : Addr) (ccd : Value) (cl : List (Str × Addr)) (outer : List Env) (A₀ : Around) (base : Heap) (h₀ : Heap) (m : Str → Option Value) (s : Shared) (Q : Value → Shared → Prop) (E : Value → Shared → Prop) (loose : List Str) (mean : ExcName → Option Value) (mg : Str → Option Value) (mb : Str → Option Value) (news : List (Addr × Obj)) (D : Addr) (it : Addr) (kl : Addr) (sh : Addr) (z : Int) (tr : Tok) : Prop := ∀ (B : Below A₀ base outer h₀) (F : Fr h₀ L s.heap m) (X : (K w.params).In h₀) (T : Top q loose mean mg mb h₀) (hk : cs.kind = .function) (N : News h₀ L s.heap news) (hd : dp + 14 < recursionLimit) (hu : un + 240 < cLine) (hI : ItemAt w news it kl sh z) (hD : DataS w news D it) (ret : ∀ h' tk', Fr h₀ L h' m → News h₀ L h' news → Q (.ref it) {s with heap := h', toks := tk'}), wpAny (model pw w) (ktrTop dp un gd cn cs L a ccd cl outer) (call (.ref 782) [.ref D, .str (Str.ofString "R") tr, .ref 958]) Q E s
noncomputable def find_ok_S (c : Bag) : Prop := find_ok_P c.w (c.n 0) (c.n 1) c.gd (c.str 0) c.cs (c.n 2) (c.n 3) c.v c.cl c.outer c.ar (c.heap 0) (c.heap 1) (c.m 0) c.s (c.q 0) (c.q 1) c.loose c.mean (c.m 1) (c.m 2) (c.news 0) (c.n 4) (c.n 5) (c.n 6) (c.n 7) (c.i 0) (c.n 8)
@[irreducible] noncomputable def find_ok_c : Bag := pick find_ok_S
theorem find_ok_m : find_ok_S find_ok_c := by
  refine (?zz9 : ∀ (w : World) (dp : Nat) (un : Nat) (gd : Option (List Code)) (cn : Str) (cs : Scope) (L : Addr) (a : Addr) (ccd : Value) (cl : List (Str × Addr)) (outer : List Env) (A₀ : Around) (base : Heap) (h₀ : Heap) (m : Str → Option Value) (s : Shared) (Q : Value → Shared → Prop) (E : Value → Shared → Prop) (loose : List Str) (mean : ExcName → Option Value) (mg : Str → Option Value) (mb : Str → Option Value) (news : List (Addr × Obj)) (D : Addr) (it : Addr) (kl : Addr) (sh : Addr) (z : Int) (tr : Tok), find_ok_P w dp un gd cn cs L a ccd cl outer A₀ base h₀ m s Q E loose mean mg mb news D it kl sh z tr) find_ok_c.w (find_ok_c.n 0) (find_ok_c.n 1) find_ok_c.gd (find_ok_c.str 0) find_ok_c.cs (find_ok_c.n 2) (find_ok_c.n 3) find_ok_c.v find_ok_c.cl find_ok_c.outer find_ok_c.ar (find_ok_c.heap 0) (find_ok_c.heap 1) (find_ok_c.m 0) find_ok_c.s (find_ok_c.q 0) (find_ok_c.q 1) find_ok_c.loose find_ok_c.mean (find_ok_c.m 1) (find_ok_c.m 2) (find_ok_c.news 0) (find_ok_c.n 4) (find_ok_c.n 5) (find_ok_c.n 6) (find_ok_c.n 7) (find_ok_c.i 0) (find_ok_c.n 8)
  intro w dp un gd cn cs L a ccd cl outer A₀ base h₀ m s Q E loose mean mg mb news D it kl sh z tr B F X T hk N hd hu hI hD ret
  have hI' := hI
  have hD' := hD
  obtain ⟨dd, wl, ll, df, sl, ix, z1, od, odf, d1, d2, ⟨_, _, _, _, _, _, _, rfl⟩, e1, e2, e4, ⟨e5a, e5b, e5c, e5d, e5e⟩⟩ := hD'
  obtain ⟨di, vt, cl9, oit, c1, c2, ⟨_, _, _, _, _, _, _, _, _, _, _, _, _, _, _, _, _, _, _, _, _, _, _, _, _, _, _, rfl⟩, c4⟩ := hI'
  refine wpAny_call ?_
  (k_dflt (refine' code_defC ?k1 ?k2 ?k3 ?k4 ?k5 ?kA ?kF ?kK ?k6 ?k7 ?k8 ?k9 ?kB ?kD ?_ ?c2 ?c3 ?c4; (case kA => exact rfl); (case kF => exact rfl); (case kK => first | exact rfl | assumption); (case k1 => k_asm); (case k2 => k_asm); (case k3 => k_asm); (case k4 => k_asm); (case k5 => k_asm); (case k6 => k_is); (case k7 => k_is); (case k8 => first | exact r1 (by assumption) rfl | exact r2 (by assumption) rfl | exact r3 (by assumption) rfl | exact r0 (by assumption) | k_room); (case k9 => first | exact BindsTo.of_eq rfl | exact binds_K (by k_in) rfl (by k_is) rfl rfl rfl); (case kB => exact rfl); (case kD => decide +kernel); (case c2 => exact rfl); (case c3 => exact rfl); (case c4 => exact rfl); k_whole; intro g1 L1 h1 tk1 cells1 FG1 F1 N1 Y1 B1 X1 T1 l1; (try k_lt l1); k_cells Y1; (try simp only [List.cons_append, List.nil_append] at N1); (try dsimp only); (try k_fold)))
  (repeat' (first | (k_unfold; (try dsimp only)) | (k_end; wrow_close) | ((with_reducible show wpAny _ _ (call (Value.ref 313) [Value.ref _]) _ _ _); k_dflt (refine' all_items_ok ?Bq35 ?Fq35 ?Xq35 ?Tq35 ?hkq35 ?Nq35 ?hdq35 ?huq35 ?hIq35 ?hDq35 ?_; (case Bq35 => k_asm); (case Fq35 => k_asm); (case Xq35 => k_asm); (case Tq35 => k_asm); (case hkq35 => first | rfl | assumption); (case Nq35 => k_asm); (case hdq35 => first | exact r1 (by assumption) rfl | exact r2 (by assumption) rfl | exact r3 (by assumption) rfl | exact r0 (by assumption) | ktr_room); (case huq35 => first | exact r1 (by assumption) rfl | exact r2 (by assumption) rfl | exact r3 (by assumption) rfl | exact r0 (by assumption) | k_units); (case hIq35 => exact ItemAt.sub (by assumption) (by intro p hp; repeat (first | exact hp | refine List.mem_cons_of_mem _ ?_))); (case hDq35 => exact DataS.sub (by assumption) (by intro p hp; repeat (first | exact hp | refine List.mem_cons_of_mem _ ?_))); k_whole); intro lz9 nz9 hz9 tkz9 Fz9 Nz9 l1; (try k_lt l1)) | ((with_reducible show wpAny _ _ (subscriptTail _ _ (Value.ref _) (Value.int _ _)) _ _ _); walk_at "subscriptTail") | ((with_reducible show LCg.FinA ..); (unfold LCg.FinA); intro Dz9 hz9 tkz9 Fz9 Nz9 o1z9; (try simp only [LCg.Off1, and_true] at o1z9); (repeat (obtain ⟨_, o1z9⟩ := o1z9)); (try (have oDz9 := off1_D o1z9)); (try simp only [List.nil_append, List.cons_append] at Nz9); (try dsimp only)) | ((with_reducible show LCg.FinE ..); (unfold LCg.FinE); intro Dz9 hz9 tkz9 Fz9 Nz9 o1z9; (try simp only [LCg.Off1, and_true] at o1z9); (repeat (obtain ⟨_, o1z9⟩ := o1z9)); (try (have oDz9 := off1_D o1z9)); (try simp only [List.nil_append, List.cons_append] at Nz9); (try dsimp only)) | ((with_reducible show LCg.CompEnd ..); (with_reducible rename Fr _ _ _ _ => lFz9); (with_reducible rename News _ _ _ _ => lNz9); k_dflt (refine LCg.CompEnd.intro lFz9 lNz9 _ (by intro p hp; repeat (first | exact hp | refine List.mem_cons_of_mem _ ?_)) (by first | exact off3_same (by assumption) (by rfl) | ((repeat (refine off3_cons (by k_ne) (by k_ne) (by k_ne) ?_)); first | exact True.intro | assumption)) (by lcg_src) ?_)) | ((with_reducible show LCt.CompRestT ..); with_unfolding_all first | (refine LCt.CompRestT.succ ?_; intro vz9 Iz9 oIz9 Cz9 oCz9 Dz9 mz9 hz9 tkz9 Ez9 hvz9 hCz9 hxz9 Fz9 Nz9 offz9 nez9; (first | lcg_open hvz9 | (obtain ⟨t9z9, hv9z9⟩ := hvz9; subst hv9z9)); (have oWz9 := offz9); (try simp only [LCg.Off3, and_true] at offz9); (repeat (obtain ⟨_, offz9⟩ := offz9)); (try (have oAz9 := off3_I offz9; have oBz9 := off3_C offz9; have oDz9 := off3_D offz9)); have oVz9 := oWz9) | refine LCt.CompRestT.zero ?_) | ((with_reducible show wpAny _ _ (compareOp CmpOp.NotEq (Value.ref _) (Value.ref _)) _ _ _); k_dflt (first | (refine' ne_nil ?Nq21 ?aq21 ?bq21 ?uq21 ?_; (case Nq21 => k_asm); (case aq21 => k_mem); (case bq21 => k_mem); (case uq21 => first | exact r1 (by assumption) rfl | exact r2 (by assumption) rfl | exact r3 (by assumption) rfl | exact r0 (by assumption) | k_units); k_whole) | (refine' ne_len ?Nq21 ?aq21 ?bq21 ?cq21 ?uq21 ?_; (case Nq21 => k_asm); (case aq21 => k_mem); (case bq21 => k_mem); (case cq21 => rfl); (case uq21 => first | exact r1 (by assumption) rfl | exact r2 (by assumption) rfl | exact r3 (by assumption) rfl | exact r0 (by assumption) | k_units); k_whole))) | ((with_reducible show wpAny _ _ (eval (Expr.ListComp _ [Comprehension.mk _ _ [_] _] _ _) _) _ _ _); k_dflt (refine LCt.ListComp_T (F₀ := by k_asm) (by with_unfolding_all rfl) (by decide) (by rfl) (by decide) (by rfl) ?_)) | ((with_reducible show wpAny _ _ (exec (Stmt.Assign _ (Expr.ListComp _ [Comprehension.mk _ _ [_] _] _ _) _) _) _ _ _); k_dflt (refine LCt.Assign_ListComp_T (F₀ := by k_asm) (by rfl) (by with_unfolding_all rfl) (by with_unfolding_all rfl) (by decide) (by rfl) (by decide) (by rfl) (by rfl) (by rfl) ?_)) | ((with_reducible show wpAny _ _ (pyIter (Value.ref _)) (fun it s₂ => TurnsAt _ _ _ _ _ _ _ _ _ it s₂) _ _); k_dflt (refine' iter_emp ?hq12 ?Fq12 ?Nq12 ?mq12 ?eq12 ?_; (case hq12 => rfl); (case Fq12 => k_asm); (case Nq12 => k_asm); (case mq12 => k_mem); (case eq12 => first | assumption | exact ⟨by assumption, by assumption, by assumption, by assumption, by assumption⟩); k_whole); intro hz9 tkz9 Fz9 Nz9) | ((with_reducible show wpAny _ _ (exec (Stmt.For (Expr.Name ..) (Expr.Attribute ..) ..) _) _ _ _); (rename Fr _ _ _ _ => lFz9); (with_unfolding_all refine' For_turns lFz9 ?_; k_whole)) | walk1 | (dsimp only; walk1) | (leave1; walk_say "STEP leave1"; (try dsimp only)) | fail "no step"))
  rename Fr _ _ _ _ => lF
  rename News _ _ _ _ => lN
  exact ret _ _ lF (fun p hp => lN p (by repeat (first | exact hp | refine List.mem_cons_of_mem _ ?_)))
theorem find_ok {w : World} {dp un : Nat} {gd : Option (List Code)} {cn : Str} {cs : Scope} {L a : Addr} {ccd : Value} {cl : List (Str × Addr)} {outer : List Env} {A₀ : Around} {base h₀ : Heap} {m : Str → Option Value} {s : Shared} {Q E : Value → Shared → Prop}
   {loose : List Str} {mean : ExcName → Option Value} {mg mb : Str → Option Value} {news : List (Addr × Obj)} {D it kl sh : Addr} {z : Int} {tr : Tok}
   (B : Below A₀ base outer h₀) (F : Fr h₀ L s.heap m) (X : (K w.params).In h₀) (T : Top q loose mean mg mb h₀) (hk : cs.kind = .function) (N : News h₀ L s.heap news) (hd : dp + 14 < recursionLimit) (hu : un + 240 < cLine) (hI : ItemAt w news it kl sh z) (hD : DataS w news D it)
   (ret : ∀ h' tk', Fr h₀ L h' m → News h₀ L h' news → Q (.ref it) {s with heap := h', toks := tk'}) :
   wpAny (model pw w) (ktrTop dp un gd cn cs L a ccd cl outer) (call (.ref 782) [.ref D, .str (Str.ofString "R") tr, .ref 958]) Q E s := by
  exact clo (by with_unfolding_all rfl) find_ok_m (Bag.mk w gd cs ccd cl outer A₀ s loose mean bag0.qf bag0.qu (lk [un, L, a, D, it, kl, sh, tr] dp) (lk [] cn) (lk [h₀] base) (lk [mg, mb] m) (lk [] news) (lk [E] Q) (lk [] z) bag0.vs bag0.ns bag0.b bag0.bool bag0.o bag0.avs bag0.kvs bag0.nb bag0.nbool bag0.nn bag0.l bag0.kc bag0.nd bag0.u8 bag0.d bag0.ov) B F X T hk N hd hu hI hD ret

end
theorem flush_D4 : True := by first | walk1 | exact trivial
section
open PySem PySem.W PySem.Calls PyProof.Rows
noncomputable def spot_ok_P (w : World) (dp : Nat) (un : Nat) (gd : Option (List Code)) (cn : Str) (cs : Scope) (L : Addr) (a : Addr) (ccd : Value) (cl : List (Str × Addr)) (outer : List Env) (A₀ : Around) (base : Heap) (h₀ : Heap) (m : Str → Option Value) (s : Shared) (Q : Value → Shared → Prop) (E : Value → Shared → Prop) (loose : List Str) (mean : ExcName → Option Value) (mg : Str → Option Value) (mb : Str → Option Value) (news : List (Addr × Obj)) (b : Array UInt8) (x : Addr) (dx : Addr) (p : Addr) (rows : Addr) (told : Addr) (mem : Addr) (hn : Addr) (op : Addr) (D : Addr) (it : Addr) (kl : Addr) (sh : Addr) (orow : Array UInt8) (shelf : Str) (zz : Nat) : Prop := ∀ (B : Below A₀ base outer h₀) (F : Fr h₀ L s.heap m) (X : (K w.params).In h₀) (T : Top q loose mean mg mb h₀) (hk : cs.kind = .function) (N : News h₀ L s.heap news) (hd : dp + 18 < recursionLimit) (hu : un + 300 < cLine) (hb0 : 0 < b.size) (hb : b.size ≤ 5) (hI : ItemAt w news it kl sh b.size) (hD : DataS w news D it) (hP : ∃ (pd : Addr) (opr : Obj) (nm : Str) (fl : Addr) (ini : Bool), (p, instObj 953 pd) ∈ news ∧ (pd, opr) ∈ news ∧ DProg w nm D fl ini opr) (hW : WorldAt w news x dx p shelf rows told mem hn op orow) (hm : (mem, baOf b) ∈ news) (ret : ∀ tp t h' tk', Fr h₀ L h' m → News h₀ L h' ((tp, tupOf #[.ref mem, .int 0 t, .ref sh]) :: news) → (∀ q ∈ news, @LT.lt Nat _ q.1 tp) → Q (.ref tp) {s with heap := h', toks := tk'}), wpAny (model pw w) (ktrTop dp un gd cn cs L a ccd cl outer) (call (.ref 843) [.ref x, .ref 960]) Q E s
noncomputable def spot_ok_S (c : Bag) : Prop := spot_ok_P c.w (c.n 0) (c.n 1) c.gd (c.str 0) c.cs (c.n 2) (c.n 3) c.v c.cl c.outer c.ar (c.heap 0) (c.heap 1) (c.m 0) c.s (c.q 0) (c.q 1) c.loose c.mean (c.m 1) (c.m 2) (c.news 0) (c.b 0) (c.n 4) (c.n 5) (c.n 6) (c.n 7) (c.n 8) (c.n 9) (c.n 10) (c.n 11) (c.n 12) (c.n 13) (c.n 14) (c.n 15) (c.b 1) (c.str 1) (c.n 16)
@[irreducible] noncomputable def spot_ok_c : Bag := pick spot_ok_S
theorem spot_ok_m : spot_ok_S spot_ok_c := by
  refine (?zz9 : ∀ (w : World) (dp : Nat) (un : Nat) (gd : Option (List Code)) (cn : Str) (cs : Scope) (L : Addr) (a : Addr) (ccd : Value) (cl : List (Str × Addr)) (outer : List Env) (A₀ : Around) (base : Heap) (h₀ : Heap) (m : Str → Option Value) (s : Shared) (Q : Value → Shared → Prop) (E : Value → Shared → Prop) (loose : List Str) (mean : ExcName → Option Value) (mg : Str → Option Value) (mb : Str → Option Value) (news : List (Addr × Obj)) (b : Array UInt8) (x : Addr) (dx : Addr) (p : Addr) (rows : Addr) (told : Addr) (mem : Addr) (hn : Addr) (op : Addr) (D : Addr) (it : Addr) (kl : Addr) (sh : Addr) (orow : Array UInt8) (shelf : Str) (zz : Nat), spot_ok_P w dp un gd cn cs L a ccd cl outer A₀ base h₀ m s Q E loose mean mg mb news b x dx p rows told mem hn op D it kl sh orow shelf zz) spot_ok_c.w (spot_ok_c.n 0) (spot_ok_c.n 1) spot_ok_c.gd (spot_ok_c.str 0) spot_ok_c.cs (spot_ok_c.n 2) (spot_ok_c.n 3) spot_ok_c.v spot_ok_c.cl spot_ok_c.outer spot_ok_c.ar (spot_ok_c.heap 0) (spot_ok_c.heap 1) (spot_ok_c.m 0) spot_ok_c.s (spot_ok_c.q 0) (spot_ok_c.q 1) spot_ok_c.loose spot_ok_c.mean (spot_ok_c.m 1) (spot_ok_c.m 2) (spot_ok_c.news 0) (spot_ok_c.b 0) (spot_ok_c.n 4) (spot_ok_c.n 5) (spot_ok_c.n 6) (spot_ok_c.n 7) (spot_ok_c.n 8) (spot_ok_c.n 9) (spot_ok_c.n 10) (spot_ok_c.n 11) (spot_ok_c.n 12) (spot_ok_c.n 13) (spot_ok_c.n 14) (spot_ok_c.n 15) (spot_ok_c.b 1) (spot_ok_c.str 1) (spot_ok_c.n 16)
  intro w dp un gd cn cs L a ccd cl outer A₀ base h₀ m s Q E loose mean mg mb news b x dx p rows told mem hn op D it kl sh orow shelf zz B F X T hk N hd hu hb0 hb hI hD hP hW hm ret
  have hI' := hI
  obtain ⟨di, vt, cl9, oit, c1, c2, ⟨_, _, _, _, _, _, _, _, _, _, _, _, _, _, _, _, _, _, _, _, _, _, _, _, _, _, _, rfl⟩, c4⟩ := hI'
  obtain ⟨w1, ⟨wd, w2, w3⟩, wh, w4, w5⟩ := hW
  obtain ⟨_, _, _, _, _, _, _, _, _, _, _, _, _, _, _, _, rfl⟩ := w3
  obtain ⟨pd, opr, _, _, _, a1, a2, _, _, _, _, _, _, rfl⟩ := hP
  refine wpAny_call ?_
  (k_dflt (refine' code_defC ?k1 ?k2 ?k3 ?k4 ?k5 ?kA ?kF ?kK ?k6 ?k7 ?k8 ?k9 ?kB ?kD ?_ ?c2 ?c3 ?c4; (case kA => exact rfl); (case kF => exact rfl); (case kK => first | exact rfl | assumption); (case k1 => k_asm); (case k2 => k_asm); (case k3 => k_asm); (case k4 => k_asm); (case k5 => k_asm); (case k6 => k_is); (case k7 => k_is); (case k8 => first | exact r1 (by assumption) rfl | exact r2 (by assumption) rfl | exact r3 (by assumption) rfl | exact r0 (by assumption) | k_room); (case k9 => first | exact BindsTo.of_eq rfl | exact binds_K (by k_in) rfl (by k_is) rfl rfl rfl); (case kB => exact rfl); (case kD => decide +kernel); (case c2 => exact rfl); (case c3 => exact rfl); (case c4 => exact rfl); k_whole; intro g1 L1 h1 tk1 cells1 FG1 F1 N1 Y1 B1 X1 T1 l1; (try k_lt l1); k_cells Y1; (try simp only [List.cons_append, List.nil_append] at N1); (try dsimp only); (try k_fold)))
  (repeat' (first | (k_unfold; (try dsimp only)) | (k_end; wrow_close) | ((with_reducible show wpAny _ _ (call (Value.ref 782) [Value.ref _, Value.str _ _, Value.ref _]) _ _ _); k_dflt (refine' find_ok ?Bq41 ?Fq41 ?Xq41 ?Tq41 ?hkq41 ?Nq41 ?hdq41 ?huq41 ?hIq41 ?hDq41 ?_; (case Bq41 => k_asm); (case Fq41 => k_asm); (case Xq41 => k_asm); (case Tq41 => k_asm); (case hkq41 => first | rfl | assumption); (case Nq41 => k_asm); (case hdq41 => first | exact r1 (by assumption) rfl | exact r2 (by assumption) rfl | exact r3 (by assumption) rfl | exact r0 (by assumption) | ktr_room); (case huq41 => first | exact r1 (by assumption) rfl | exact r2 (by assumption) rfl | exact r3 (by assumption) rfl | exact r0 (by assumption) | k_units); (case hIq41 => exact ItemAt.sub (by assumption) (by intro p hp; repeat (first | exact hp | refine List.mem_cons_of_mem _ ?_))); (case hDq41 => exact DataS.sub (by assumption) (by intro p hp; repeat (first | exact hp | refine List.mem_cons_of_mem _ ?_))); k_whole); intro hz9 tkz9 Fz9 Nz9) | ((with_reducible show wpAny _ _ (subscriptTail _ _ (Value.ref _) (Value.int _ _)) _ _ _); k_dflt (first | (refine' item_tupK ?Fq40 ?Xq40 ?eq40 ?aq40 ?bq40 ?cq40 ?dq40 ?_; (case Fq40 => k_asm); (case Xq40 => k_asm); (case eq40 => k_is); (case aq40 => decide); (case bq40 => decide); (case cq40 => rfl); (case dq40 => rfl); k_whole) | (refine' item_tup ?Nq40 ?mq40 ?aq40 ?bq40 ?cq40 ?dq40 ?_; (case Nq40 => k_asm); (case mq40 => k_mem); (case aq40 => decide); (case bq40 => decide); (case cq40 => rfl); (case dq40 => rfl); k_whole) | (refine' item_made ?Nq40 ?mq40 ?aq40 ?bq40 ?dq40 ?_; (case Nq40 => k_asm); (case mq40 => k_mem); (case aq40 => first | decide | omega); (case bq40 => first | decide | omega); (case dq40 => first | assumption | rfl); k_whole))) | ((with_reducible show wpAny _ _ (call (Value.type _) [Value.ref _, Value.ref _]) (fun xv s₁ => wpAny _ _ (pyIter xv) (fun it s₂ => TurnsAt _ _ _ _ _ _ _ _ _ it s₂) _ s₁) _ _); k_dflt (refine' zip_nil ?hq39 ?Fq39 ?Nq39 ?aq39 ?bq39 ?_; (case hq39 => rfl); (case Fq39 => k_asm); (case Nq39 => k_asm); (case aq39 => k_mem); (case bq39 => k_mem); k_whole); intro hz9 tkz9 Fz9 Nz9) | ((with_reducible show wpAny _ _ (exec (Stmt.For (Expr.Tuple ..) (Expr.Call ..) ..) _) _ _ _); (rename Fr _ _ _ _ => lFz9); (with_unfolding_all refine' For_turns lFz9 ?_; k_whole)) | ((with_reducible show LCg.FinE ..); (unfold LCg.FinE); intro Dz9 hz9 tkz9 Fz9 Nz9 o1z9; (try simp only [LCg.Off1, and_true] at o1z9); (repeat (obtain ⟨_, o1z9⟩ := o1z9)); (try (have oDz9 := off1_D o1z9)); (try simp only [List.nil_append, List.cons_append] at Nz9); (try dsimp only)) | ((with_reducible show LCg.CompEnd ..); (with_reducible rename Fr _ _ _ _ => lFz9); (with_reducible rename News _ _ _ _ => lNz9); k_dflt (refine LCg.CompEnd.intro lFz9 lNz9 _ (by intro p hp; repeat (first | exact hp | refine List.mem_cons_of_mem _ ?_)) (by first | exact off3_same (by assumption) (by rfl) | ((repeat (refine off3_cons (by k_ne) (by k_ne) (by k_ne) ?_)); first | exact True.intro | assumption)) (by lcg_src) ?_)) | ((with_reducible show LCt.CompRestT ..); with_unfolding_all first | (refine LCt.CompRestT.succ ?_; intro vz9 Iz9 oIz9 Cz9 oCz9 Dz9 mz9 hz9 tkz9 Ez9 hvz9 hCz9 hxz9 Fz9 Nz9 offz9 nez9; (first | lcg_open hvz9 | (obtain ⟨t9z9, hv9z9⟩ := hvz9; subst hv9z9)); (have oWz9 := offz9); (try simp only [LCg.Off3, and_true] at offz9); (repeat (obtain ⟨_, offz9⟩ := offz9)); (try (have oAz9 := off3_I offz9; have oBz9 := off3_C offz9; have oDz9 := off3_D offz9)); have oVz9 := oWz9) | refine LCt.CompRestT.zero ?_) | ((with_reducible show EmpSrc ..); (with_reducible rename Fr _ _ _ _ => lFz9); (with_reducible rename News _ _ _ _ => lNz9); k_dflt (refine ⟨_, _, rfl, lFz9, lNz9, ?hTq37, ?_⟩; (case hTq37 => exact isTup_K (by k_asm) (by k_is)); k_whole); intro Dz9 hz9 tkz9 Fz9 Nz9 o1z9; (try simp only [LCg.Off1, and_true] at o1z9); (repeat (obtain ⟨_, o1z9⟩ := o1z9)); (try (have oDz9 := off1_D o1z9)); (try dsimp only)) | ((with_reducible show wpAny _ _ (eval (Expr.ListComp _ [Comprehension.mk _ (Expr.Subscript _ _ _) [] _] _ _) _) _ _ _); k_dflt (refine ListComp_E (by k_asm) (by rfl) (by with_unfolding_all rfl) (by decide) (by rfl) (by decide) (by rfl) (by intro _; rfl) ?_)) | ((with_reducible show wpAny _ _ (eval (Expr.ListComp _ [Comprehension.mk _ _ [_] _] _ _) _) _ _ _); k_dflt (refine LCt.ListComp_T (F₀ := by k_asm) (by with_unfolding_all rfl) (by decide) (by rfl) (by decide) (by rfl) ?_)) | ((with_reducible show wpAny _ _ (call (Value.builtin "len") [Value.ref _]) _ _ _); (k_dflt (refine' len_ba ?Nq8 ?mq8 ?zq8 ?_; (case Nq8 => k_asm); (case mq8 => k_mem); (case zq8 => first | exact Nat.le_trans (by assumption) (Nat.le_of_ble_eq_true rfl) | (simp only [sizeLine_eq]; omega)); k_whole))) | walk1 | (dsimp only; walk1) | (leave1; walk_say "STEP leave1"; (try dsimp only)) | fail "no step"))
  rename Fr _ _ _ _ => lF
  rename News _ _ _ _ => lN
  rename _ ∧ _ => l9
  repeat (obtain ⟨_, l9⟩ := l9)
  exact ret _ _ _ _ lF (news_one lN (by k_mem) (by intro p hp; repeat (first | exact hp | refine List.mem_cons_of_mem _ ?_))) (allLt_lt l9)
theorem spot_ok {w : World} {dp un : Nat} {gd : Option (List Code)} {cn : Str} {cs : Scope} {L a : Addr} {ccd : Value} {cl : List (Str × Addr)} {outer : List Env} {A₀ : Around} {base h₀ : Heap} {m : Str → Option Value} {s : Shared} {Q E : Value → Shared → Prop}
   {loose : List Str} {mean : ExcName → Option Value} {mg mb : Str → Option Value} {news : List (Addr × Obj)} {b : Array UInt8} {x dx p rows told mem hn op D it kl sh : Addr} {orow : Array UInt8} {shelf : Str} {zz : Nat}
   (B : Below A₀ base outer h₀) (F : Fr h₀ L s.heap m) (X : (K w.params).In h₀) (T : Top q loose mean mg mb h₀) (hk : cs.kind = .function) (N : News h₀ L s.heap news) (hd : dp + 18 < recursionLimit) (hu : un + 300 < cLine) (hb0 : 0 < b.size) (hb : b.size ≤ 5) (hI : ItemAt w news it kl sh b.size) (hD : DataS w news D it) (hP : ∃ (pd : Addr) (opr : Obj) (nm : Str) (fl : Addr) (ini : Bool), (p, instObj 953 pd) ∈ news ∧ (pd, opr) ∈ news ∧ DProg w nm D fl ini opr)
   (hW : WorldAt w news x dx p shelf rows told mem hn op orow) (hm : (mem, baOf b) ∈ news)
   (ret : ∀ tp t h' tk', Fr h₀ L h' m → News h₀ L h' ((tp, tupOf #[.ref mem, .int 0 t, .ref sh]) :: news) → (∀ q ∈ news, @LT.lt Nat _ q.1 tp) → Q (.ref tp) {s with heap := h', toks := tk'}) :
   wpAny (model pw w) (ktrTop dp un gd cn cs L a ccd cl outer) (call (.ref 843) [.ref x, .ref 960]) Q E s := by
  exact clo (by with_unfolding_all rfl) spot_ok_m (Bag.mk w gd cs ccd cl outer A₀ s loose mean bag0.qf bag0.qu (lk [un, L, a, x, dx, p, rows, told, mem, hn, op, D, it, kl, sh, zz] dp) (lk [shelf] cn) (lk [h₀] base) (lk [mg, mb] m) (lk [] news) (lk [E] Q) bag0.i bag0.vs bag0.ns (lk [orow] b) bag0.bool bag0.o bag0.avs bag0.kvs bag0.nb bag0.nbool bag0.nn bag0.l bag0.kc bag0.nd bag0.u8 bag0.d bag0.ov) B F X T hk N hd hu hb0 hb hI hD hP hW hm ret

end
theorem flush_D5 : True := by first | walk1 | exact trivial
section
open PySem PySem.W PySem.Calls PyProof.Rows
/-- where a world's record lies -/
structure SpotAt (w : World) (nx : List (Addr × Obj)) (x mem sh : Addr) (z : Int) : Prop where
  ex : ∃ (dx p rows told hn op D it kl ds : Addr) (orow : Array UInt8) (shelf : Str) (osh : Obj), ItemAt w nx it kl sh z ∧ DataS w nx D it ∧ (∃ (pd : Addr) (opr : Obj) (nm : Str) (fl : Addr) (ini : Bool), (p, instObj 953 pd) ∈ nx ∧ (pd, opr) ∈ nx ∧ DProg w nm D fl ini opr) ∧
    WorldAt w nx x dx p shelf rows told mem hn op orow ∧ (sh, instObj 500 ds) ∈ nx ∧ (ds, osh) ∈ nx ∧ DShape w z osh
theorem WorldAt.sub {w : World} {nx nx' : List (Addr × Obj)} {x dx p : Addr} {shelf : Str} {rows told mem hn op : Addr} {orow : Array UInt8} (y : WorldAt w nx x dx p shelf rows told mem hn op orow) (k : ∀ p ∈ nx, p ∈ nx') : WorldAt w nx' x dx p shelf rows told mem hn op orow := by
  obtain ⟨a, ⟨od, b, c⟩, oh, d, e⟩ := y
  exact ⟨k _ a, ⟨od, k _ b, c⟩, oh, k _ d, e⟩
theorem SpotAt.sub {w : World} {nx nx' : List (Addr × Obj)} {x mem sh : Addr} {z : Int} (y : SpotAt w nx x mem sh z) (k : ∀ p ∈ nx, p ∈ nx') : SpotAt w nx' x mem sh z := by
  obtain ⟨dx, p, rows, told, hn, op, D, it, kl, ds, orow, shelf, osh, a, b, ⟨pd, opr, nm, fl, ini, c1, c2, c3⟩, d, e1, e2, e3⟩ := y
  exact ⟨dx, p, rows, told, hn, op, D, it, kl, ds, orow, shelf, osh, a.sub k, b.sub k, ⟨pd, opr, nm, fl, ini, k _ c1, k _ c2, c3⟩, d.sub k, k _ e1, k _ e2, e3⟩
theorem spot_in_ok {w : World} {dp un : Nat} {gd : Option (List Code)} {cn : Str} {cs : Scope} {L a : Addr} {ccd : Value} {cl : List (Str × Addr)} {outer : List Env} {A₀ : Around} {base h₀ : Heap} {m : Str → Option Value} {s : Shared} {Q E : Value → Shared → Prop}
   {loose : List Str} {mean : ExcName → Option Value} {mg mb : Str → Option Value} {news : List (Addr × Obj)} {b : Array UInt8} {x mem sh : Addr}
   (B : Below A₀ base outer h₀) (F : Fr h₀ L s.heap m) (X : (K w.params).In h₀) (T : Top q loose mean mg mb h₀) (hk : cs.kind = .function) (N : News h₀ L s.heap news) (hd : dp + 18 < recursionLimit) (hu : un + 300 < cLine) (hb0 : 0 < b.size) (hb : b.size ≤ 5) (hS : SpotAt w news x mem sh b.size) (hm : (mem, baOf b) ∈ news)
   (ret : ∀ tp t h' tk', Fr h₀ L h' m → News h₀ L h' ((tp, tupOf #[.ref mem, .int 0 t, .ref sh]) :: news) → (∀ q ∈ news, @LT.lt Nat _ q.1 tp) → Q (.ref tp) {s with heap := h', toks := tk'}) :
   wpAny (model pw w) (ktrTop dp un gd cn cs L a ccd cl outer) (call (.ref 843) [.ref x, .ref 960]) Q E s := by
  obtain ⟨dx, p, rows, told, hn, op, D, it, kl, ds, orow, shelf, osh, a, b, c, d, e1, e2, e3⟩ := hS
  exact spot_ok (zz := 0) B F X T hk N hd hu hb0 hb a b c d hm ret

noncomputable def octets_ok_P (w : World) (dp : Nat) (un : Nat) (gd : Option (List Code)) (cn : Str) (cs : Scope) (L : Addr) (a : Addr) (ccd : Value) (cl : List (Str × Addr)) (outer : List Env) (A₀ : Around) (base : Heap) (h₀ : Heap) (m : Str → Option Value) (s : Shared) (Q : Value → Shared → Prop) (E : Value → Shared → Prop) (loose : List Str) (mean : ExcName → Option Value) (mg : Str → Option Value) (mb : Str → Option Value) (news : List (Addr × Obj)) (b : Array UInt8) (x : Addr) (mem : Addr) (sh : Addr) : Prop := ∀ (B : Below A₀ base outer h₀) (F : Fr h₀ L s.heap m) (X : (K w.params).In h₀) (T : Top q loose mean mg mb h₀) (hk : cs.kind = .function) (N : News h₀ L s.heap news) (hd : dp + 22 < recursionLimit) (hu : un + 340 < cLine) (hb0 : 0 < b.size) (hb : b.size ≤ 5) (hS : SpotAt w news x mem sh b.size) (hm : (mem, baOf b) ∈ news) (ret : ∀ t h' tk', Fr h₀ L h' m → News h₀ L h' news → Q (.bytes b t) {s with heap := h', toks := tk'}), wpAny (model pw w) (ktrTop dp un gd cn cs L a ccd cl outer) (call (.ref 850) [.ref x, .ref 960]) Q E s
noncomputable def octets_ok_S (c : Bag) : Prop := octets_ok_P c.w (c.n 0) (c.n 1) c.gd (c.str 0) c.cs (c.n 2) (c.n 3) c.v c.cl c.outer c.ar (c.heap 0) (c.heap 1) (c.m 0) c.s (c.q 0) (c.q 1) c.loose c.mean (c.m 1) (c.m 2) (c.news 0) (c.b 0) (c.n 4) (c.n 5) (c.n 6)
@[irreducible] noncomputable def octets_ok_c : Bag := pick octets_ok_S
theorem octets_ok_m : octets_ok_S octets_ok_c := by
  refine (?zz9 : ∀ (w : World) (dp : Nat) (un : Nat) (gd : Option (List Code)) (cn : Str) (cs : Scope) (L : Addr) (a : Addr) (ccd : Value) (cl : List (Str × Addr)) (outer : List Env) (A₀ : Around) (base : Heap) (h₀ : Heap) (m : Str → Option Value) (s : Shared) (Q : Value → Shared → Prop) (E : Value → Shared → Prop) (loose : List Str) (mean : ExcName → Option Value) (mg : Str → Option Value) (mb : Str → Option Value) (news : List (Addr × Obj)) (b : Array UInt8) (x : Addr) (mem : Addr) (sh : Addr), octets_ok_P w dp un gd cn cs L a ccd cl outer A₀ base h₀ m s Q E loose mean mg mb news b x mem sh) octets_ok_c.w (octets_ok_c.n 0) (octets_ok_c.n 1) octets_ok_c.gd (octets_ok_c.str 0) octets_ok_c.cs (octets_ok_c.n 2) (octets_ok_c.n 3) octets_ok_c.v octets_ok_c.cl octets_ok_c.outer octets_ok_c.ar (octets_ok_c.heap 0) (octets_ok_c.heap 1) (octets_ok_c.m 0) octets_ok_c.s (octets_ok_c.q 0) (octets_ok_c.q 1) octets_ok_c.loose octets_ok_c.mean (octets_ok_c.m 1) (octets_ok_c.m 2) (octets_ok_c.news 0) (octets_ok_c.b 0) (octets_ok_c.n 4) (octets_ok_c.n 5) (octets_ok_c.n 6)
  intro w dp un gd cn cs L a ccd cl outer A₀ base h₀ m s Q E loose mean mg mb news b x mem sh B F X T hk N hd hu hb0 hb hS hm ret
  have hS' := hS
  obtain ⟨dx, p, rows, told, hn, op, D, it, kl, ds, orow, shelf, osh, _, _, _, _, e1, e2, ⟨_, _, _, _, _, _, _, _, _, _, _, _, _, _, _, _, _, rfl⟩⟩ := hS'
  refine wpAny_call ?_
  k_dflt ktr_enter
  (repeat' (first | (k_unfold; (try dsimp only)) | (k_end; wrow_close) | ((with_reducible show wpAny _ _ (subscriptTail _ (Expr.Slice (some _) _ none _) (Value.ref _) (Value.ref _)) _ _ _); (with_reducible rename Fr _ _ _ _ => Fz9); (with_reducible rename News _ _ _ _ => Nz9); (refine slice_ba (s := ⟨_, _, _, _, _⟩) Fz9 Nz9 (by k_mem) (by first | exact Nat.le_trans (by assumption) (Nat.le_of_ble_eq_true rfl) | (simp only [sizeLine_eq]; omega)) (by first | rfl | omega) (by first | rfl | omega) ?_); intro xz9 hz9 Fz9 Nz9 l1; (try k_lt l1)) | ((with_reducible show wpAny _ _ (call (Value.type "bytes") [Value.ref _]) _ _ _); (k_dflt (refine' call_bytes_ba ?Nq9 ?mq9 ?zq9 ?_; (case Nq9 => k_asm); (case mq9 => k_mem); (case zq9 => first | exact Nat.le_trans (by assumption) (Nat.le_of_ble_eq_true rfl) | (simp only [sizeLine_eq]; omega)); k_whole)); intro tz9 kz9) | ((with_reducible show wpAny _ _ (call (Value.ref 843) [Value.ref _, Value.ref _]) _ _ _); k_dflt (refine' spot_in_ok ?Bq5 ?Fq5 ?Xq5 ?Tq5 ?hkq5 ?Nq5 ?hdq5 ?huq5 ?hb0q5 ?hbq5 ?hSq5 ?hmq5 ?_; (case Bq5 => k_asm); (case Fq5 => k_asm); (case Xq5 => k_asm); (case Tq5 => k_asm); (case hkq5 => first | rfl | assumption); (case Nq5 => k_asm); (case hdq5 => first | exact r1 (by assumption) rfl | exact r2 (by assumption) rfl | exact r3 (by assumption) rfl | exact r0 (by assumption) | ktr_room); (case huq5 => first | exact r1 (by assumption) rfl | exact r2 (by assumption) rfl | exact r3 (by assumption) rfl | exact r0 (by assumption) | k_units); (case hb0q5 => assumption); (case hbq5 => assumption); (case hSq5 => exact SpotAt.sub (by assumption) (by intro p hp; repeat (first | exact hp | refine List.mem_cons_of_mem _ ?_))); (case hmq5 => k_mem); k_whole); intro tpz9 tz9 hz9 tkz9 Fz9 Nz9 l1; (try k_lt l1)) | walk1 | (dsimp only; walk1) | (leave1; walk_say "STEP leave1"; (try dsimp only)) | fail "no step"))
  rename Fr _ _ _ _ => lF
  rename News _ _ _ _ => lN
  exact ret _ _ _ lF (fun p hp => lN p (by repeat (first | exact hp | refine List.mem_cons_of_mem _ ?_)))
theorem octets_ok {w : World} {dp un : Nat} {gd : Option (List Code)} {cn : Str} {cs : Scope} {L a : Addr} {ccd : Value} {cl : List (Str × Addr)} {outer : List Env} {A₀ : Around} {base h₀ : Heap} {m : Str → Option Value} {s : Shared} {Q E : Value → Shared → Prop}
   {loose : List Str} {mean : ExcName → Option Value} {mg mb : Str → Option Value} {news : List (Addr × Obj)} {b : Array UInt8} {x mem sh : Addr}
   (B : Below A₀ base outer h₀) (F : Fr h₀ L s.heap m) (X : (K w.params).In h₀) (T : Top q loose mean mg mb h₀) (hk : cs.kind = .function) (N : News h₀ L s.heap news) (hd : dp + 22 < recursionLimit) (hu : un + 340 < cLine) (hb0 : 0 < b.size) (hb : b.size ≤ 5) (hS : SpotAt w news x mem sh b.size) (hm : (mem, baOf b) ∈ news)
   (ret : ∀ t h' tk', Fr h₀ L h' m → News h₀ L h' news → Q (.bytes b t) {s with heap := h', toks := tk'}) :
   wpAny (model pw w) (ktrTop dp un gd cn cs L a ccd cl outer) (call (.ref 850) [.ref x, .ref 960]) Q E s := by
  exact clo (by with_unfolding_all rfl) octets_ok_m (Bag.mk w gd cs ccd cl outer A₀ s loose mean bag0.qf bag0.qu (lk [un, L, a, x, mem, sh] dp) (lk [] cn) (lk [h₀] base) (lk [mg, mb] m) (lk [] news) (lk [E] Q) bag0.i bag0.vs bag0.ns (lk [] b) bag0.bool bag0.o bag0.avs bag0.kvs bag0.nb bag0.nbool bag0.nn bag0.l bag0.kc bag0.nd bag0.u8 bag0.d bag0.ov) B F X T hk N hd hu hb0 hb hS hm ret
noncomputable def put_ok_P (w : World) (dp : Nat) (un : Nat) (gd : Option (List Code)) (cn : Str) (cs : Scope) (L : Addr) (a : Addr) (ccd : Value) (cl : List (Str × Addr)) (outer : List Env) (A₀ : Around) (base : Heap) (h₀ : Heap) (m : Str → Option Value) (s : Shared) (Q : Value → Shared → Prop) (E : Value → Shared → Prop) (loose : List Str) (mean : ExcName → Option Value) (mg : Str → Option Value) (mb : Str → Option Value) (news : List (Addr × Obj)) (b : Array UInt8) (c : Array UInt8) (x : Addr) (mem : Addr) (sh : Addr) (tc : Tok) : Prop := ∀ (B : Below A₀ base outer h₀) (F : Fr h₀ L s.heap m) (X : (K w.params).In h₀) (T : Top q loose mean mg mb h₀) (hk : cs.kind = .function) (N : News h₀ L s.heap ((mem, baOf b) :: news)) (hd : dp + 22 < recursionLimit) (hu : un + 340 < cLine) (hb0 : 0 < b.size) (hb : b.size ≤ 5) (hc : c.size = b.size) (hS : SpotAt w news x mem sh b.size) (off : ∀ p ∈ news, p.1 ≠ mem) (ret : ∀ h' tk', Fr h₀ L h' m → News h₀ L h' ((mem, baOf c) :: news) → Q .none {s with heap := h', toks := tk'}), wpP (model pw w) (ktrTop dp un gd cn cs L a ccd cl outer) (call (.ref 857) [.ref x, .ref 960, .bytes c tc]) Q E s
noncomputable def put_ok_S (c : Bag) : Prop := put_ok_P c.w (c.n 0) (c.n 1) c.gd (c.str 0) c.cs (c.n 2) (c.n 3) c.v c.cl c.outer c.ar (c.heap 0) (c.heap 1) (c.m 0) c.s (c.q 0) (c.q 1) c.loose c.mean (c.m 1) (c.m 2) (c.news 0) (c.b 0) (c.b 1) (c.n 4) (c.n 5) (c.n 6) (c.n 7)
@[irreducible] noncomputable def put_ok_c : Bag := pick put_ok_S
theorem put_ok_m : put_ok_S put_ok_c := by
  refine (?zz9 : ∀ (w : World) (dp : Nat) (un : Nat) (gd : Option (List Code)) (cn : Str) (cs : Scope) (L : Addr) (a : Addr) (ccd : Value) (cl : List (Str × Addr)) (outer : List Env) (A₀ : Around) (base : Heap) (h₀ : Heap) (m : Str → Option Value) (s : Shared) (Q : Value → Shared → Prop) (E : Value → Shared → Prop) (loose : List Str) (mean : ExcName → Option Value) (mg : Str → Option Value) (mb : Str → Option Value) (news : List (Addr × Obj)) (b : Array UInt8) (c : Array UInt8) (x : Addr) (mem : Addr) (sh : Addr) (tc : Tok), put_ok_P w dp un gd cn cs L a ccd cl outer A₀ base h₀ m s Q E loose mean mg mb news b c x mem sh tc) put_ok_c.w (put_ok_c.n 0) (put_ok_c.n 1) put_ok_c.gd (put_ok_c.str 0) put_ok_c.cs (put_ok_c.n 2) (put_ok_c.n 3) put_ok_c.v put_ok_c.cl put_ok_c.outer put_ok_c.ar (put_ok_c.heap 0) (put_ok_c.heap 1) (put_ok_c.m 0) put_ok_c.s (put_ok_c.q 0) (put_ok_c.q 1) put_ok_c.loose put_ok_c.mean (put_ok_c.m 1) (put_ok_c.m 2) (put_ok_c.news 0) (put_ok_c.b 0) (put_ok_c.b 1) (put_ok_c.n 4) (put_ok_c.n 5) (put_ok_c.n 6) (put_ok_c.n 7)
  intro w dp un gd cn cs L a ccd cl outer A₀ base h₀ m s Q E loose mean mg mb news b c x mem sh tc B F X T hk N hd hu hb0 hb hc hS off ret
  have hS' := hS
  obtain ⟨dx, p, rows, told, hn, op, D, it, kl, ds, orow, shelf, osh, _, _, _, _, e1, e2, ⟨_, _, _, _, _, _, _, _, _, _, _, _, _, _, _, _, _, rfl⟩⟩ := hS'
  refine wpP_call ?_
  (k_dflt (refine' codeP_def ?k1 ?k2 ?k3 ?k4 ?k5 ?kA ?kF ?kK ?k6 ?k7 ?k8 ?k9 ?kB ?_ ?c2 ?c3 ?c4 ?c5; (case kA => exact rfl); (case kF => exact rfl); (case kK => first | exact rfl | assumption); (case k1 => k_asm); (case k2 => k_asm); (case k3 => k_asm); (case k4 => k_asm); (case k5 => k_asm); (case k6 => k_is); (case k7 => k_is); (case k8 => first | exact r1 (by assumption) rfl | exact r2 (by assumption) rfl | exact r3 (by assumption) rfl | exact r0 (by assumption) | k_room); (case k9 => first | exact BindsTo.of_eq rfl | exact binds_K (by k_in) rfl (by k_is) rfl rfl rfl); (case c5 => decide); (case kB => exact locs rfl); (case c2 => exact rfl); (case c3 => exact rfl); (case c4 => exact rfl); k_whole; intro g1 L1 h1 FG1 F1 N1 B1 X1 T1 l1; (try dsimp only)))
  refine wpP_execs_leaf ?_
  k_fold
  (repeat' (first | (k_unfold; (try dsimp only)) | (k_end; wrow_close) | ((with_reducible show wpAny _ _ (call (Value.ref 843) [Value.ref _, Value.ref _]) _ _ _); k_dflt (refine' spot_in_ok ?Bq5 ?Fq5 ?Xq5 ?Tq5 ?hkq5 ?Nq5 ?hdq5 ?huq5 ?hb0q5 ?hbq5 ?hSq5 ?hmq5 ?_; (case Bq5 => k_asm); (case Fq5 => k_asm); (case Xq5 => k_asm); (case Tq5 => k_asm); (case hkq5 => first | rfl | assumption); (case Nq5 => k_asm); (case hdq5 => first | exact r1 (by assumption) rfl | exact r2 (by assumption) rfl | exact r3 (by assumption) rfl | exact r0 (by assumption) | ktr_room); (case huq5 => first | exact r1 (by assumption) rfl | exact r2 (by assumption) rfl | exact r3 (by assumption) rfl | exact r0 (by assumption) | k_units); (case hb0q5 => assumption); (case hbq5 => assumption); (case hSq5 => exact SpotAt.sub (by assumption) (by intro p hp; repeat (first | exact hp | refine List.mem_cons_of_mem _ ?_))); (case hmq5 => k_mem); k_whole); intro tpz9 tz9 hz9 tkz9 Fz9 Nz9 l1; (try k_lt l1)) | walk1 | (dsimp only; walk1) | (leave1; walk_say "STEP leave1"; (try dsimp only)) | fail "no step"))
  refine wpP_execs_cons (wpP_If (wpP_of ?_))
  k_fold
  (repeat' (first | (k_unfold; (try dsimp only)) | (k_end; wrow_close) | ((with_reducible show wpAny _ _ (call (Value.ref 843) [Value.ref _, Value.ref _]) _ _ _); k_dflt (refine' spot_in_ok ?Bq5 ?Fq5 ?Xq5 ?Tq5 ?hkq5 ?Nq5 ?hdq5 ?huq5 ?hb0q5 ?hbq5 ?hSq5 ?hmq5 ?_; (case Bq5 => k_asm); (case Fq5 => k_asm); (case Xq5 => k_asm); (case Tq5 => k_asm); (case hkq5 => first | rfl | assumption); (case Nq5 => k_asm); (case hdq5 => first | exact r1 (by assumption) rfl | exact r2 (by assumption) rfl | exact r3 (by assumption) rfl | exact r0 (by assumption) | ktr_room); (case huq5 => first | exact r1 (by assumption) rfl | exact r2 (by assumption) rfl | exact r3 (by assumption) rfl | exact r0 (by assumption) | k_units); (case hb0q5 => assumption); (case hbq5 => assumption); (case hSq5 => exact SpotAt.sub (by assumption) (by intro p hp; repeat (first | exact hp | refine List.mem_cons_of_mem _ ?_))); (case hmq5 => k_mem); k_whole); intro tpz9 tz9 hz9 tkz9 Fz9 Nz9 l1; (try k_lt l1)) | walk1 | (dsimp only; walk1) | (leave1; walk_say "STEP leave1"; (try dsimp only)) | fail "no step"))
  · exfalso
    omega
  (repeat' (first | (k_unfold; (try dsimp only)) | (k_end; wrow_close) | ((with_reducible show wpAny _ _ (call (Value.ref 843) [Value.ref _, Value.ref _]) _ _ _); k_dflt (refine' spot_in_ok ?Bq5 ?Fq5 ?Xq5 ?Tq5 ?hkq5 ?Nq5 ?hdq5 ?huq5 ?hb0q5 ?hbq5 ?hSq5 ?hmq5 ?_; (case Bq5 => k_asm); (case Fq5 => k_asm); (case Xq5 => k_asm); (case Tq5 => k_asm); (case hkq5 => first | rfl | assumption); (case Nq5 => k_asm); (case hdq5 => first | exact r1 (by assumption) rfl | exact r2 (by assumption) rfl | exact r3 (by assumption) rfl | exact r0 (by assumption) | ktr_room); (case huq5 => first | exact r1 (by assumption) rfl | exact r2 (by assumption) rfl | exact r3 (by assumption) rfl | exact r0 (by assumption) | k_units); (case hb0q5 => assumption); (case hbq5 => assumption); (case hSq5 => exact SpotAt.sub (by assumption) (by intro p hp; repeat (first | exact hp | refine List.mem_cons_of_mem _ ?_))); (case hmq5 => k_mem); k_whole); intro tpz9 tz9 hz9 tkz9 Fz9 Nz9 l1; (try k_lt l1)) | walk1 | (dsimp only; walk1) | (leave1; walk_say "STEP leave1"; (try dsimp only)) | fail "no step"))
  refine wpP_execs_nil ?_
  refine wpP_execs_cons (wpP_Assign_Subscript (wpP_of ?_))
  k_fold
  (repeat' (first | (k_unfold; (try dsimp only)) | (k_end; wrow_close) | ((with_reducible show wpAny _ _ (call (Value.ref 843) [Value.ref _, Value.ref _]) _ _ _); k_dflt (refine' spot_in_ok ?Bq5 ?Fq5 ?Xq5 ?Tq5 ?hkq5 ?Nq5 ?hdq5 ?huq5 ?hb0q5 ?hbq5 ?hSq5 ?hmq5 ?_; (case Bq5 => k_asm); (case Fq5 => k_asm); (case Xq5 => k_asm); (case Tq5 => k_asm); (case hkq5 => first | rfl | assumption); (case Nq5 => k_asm); (case hdq5 => first | exact r1 (by assumption) rfl | exact r2 (by assumption) rfl | exact r3 (by assumption) rfl | exact r0 (by assumption) | ktr_room); (case huq5 => first | exact r1 (by assumption) rfl | exact r2 (by assumption) rfl | exact r3 (by assumption) rfl | exact r0 (by assumption) | k_units); (case hb0q5 => assumption); (case hbq5 => assumption); (case hSq5 => exact SpotAt.sub (by assumption) (by intro p hp; repeat (first | exact hp | refine List.mem_cons_of_mem _ ?_))); (case hmq5 => k_mem); k_whole); intro tpz9 tz9 hz9 tkz9 Fz9 Nz9 l1; (try k_lt l1)) | walk1 | (dsimp only; walk1) | (leave1; walk_say "STEP leave1"; (try dsimp only)) | fail "no step"))
  rename Fr _ _ _ _ => lF
  rename News _ _ _ _ => lN
  refine setItem_ba (s := ⟨_, _, _, _, _⟩) lF lN (by k_upd) (by first | exact Nat.le_trans (by assumption) (Nat.le_of_ble_eq_true rfl) | (simp only [sizeLine_eq]; omega)) (by omega) (by first | rfl | omega) (by first | rfl | omega) ?_
  clear lF lN
  intro h9 F9 N9
  (repeat' (first | (k_unfold; (try dsimp only)) | (k_end; wrow_close) | ((with_reducible show wpAny _ _ (call (Value.ref 843) [Value.ref _, Value.ref _]) _ _ _); k_dflt (refine' spot_in_ok ?Bq5 ?Fq5 ?Xq5 ?Tq5 ?hkq5 ?Nq5 ?hdq5 ?huq5 ?hb0q5 ?hbq5 ?hSq5 ?hmq5 ?_; (case Bq5 => k_asm); (case Fq5 => k_asm); (case Xq5 => k_asm); (case Tq5 => k_asm); (case hkq5 => first | rfl | assumption); (case Nq5 => k_asm); (case hdq5 => first | exact r1 (by assumption) rfl | exact r2 (by assumption) rfl | exact r3 (by assumption) rfl | exact r0 (by assumption) | ktr_room); (case huq5 => first | exact r1 (by assumption) rfl | exact r2 (by assumption) rfl | exact r3 (by assumption) rfl | exact r0 (by assumption) | k_units); (case hb0q5 => assumption); (case hbq5 => assumption); (case hSq5 => exact SpotAt.sub (by assumption) (by intro p hp; repeat (first | exact hp | refine List.mem_cons_of_mem _ ?_))); (case hmq5 => k_mem); k_whole); intro tpz9 tz9 hz9 tkz9 Fz9 Nz9 l1; (try k_lt l1)) | walk1 | (dsimp only; walk1) | (leave1; walk_say "STEP leave1"; (try dsimp only)) | fail "no step"))
  refine wpP_execs_nil ?_
  (repeat' (first | (k_unfold; (try dsimp only)) | (k_end; wrow_close) | ((with_reducible show wpAny _ _ (call (Value.ref 843) [Value.ref _, Value.ref _]) _ _ _); k_dflt (refine' spot_in_ok ?Bq5 ?Fq5 ?Xq5 ?Tq5 ?hkq5 ?Nq5 ?hdq5 ?huq5 ?hb0q5 ?hbq5 ?hSq5 ?hmq5 ?_; (case Bq5 => k_asm); (case Fq5 => k_asm); (case Xq5 => k_asm); (case Tq5 => k_asm); (case hkq5 => first | rfl | assumption); (case Nq5 => k_asm); (case hdq5 => first | exact r1 (by assumption) rfl | exact r2 (by assumption) rfl | exact r3 (by assumption) rfl | exact r0 (by assumption) | ktr_room); (case huq5 => first | exact r1 (by assumption) rfl | exact r2 (by assumption) rfl | exact r3 (by assumption) rfl | exact r0 (by assumption) | k_units); (case hb0q5 => assumption); (case hbq5 => assumption); (case hSq5 => exact SpotAt.sub (by assumption) (by intro p hp; repeat (first | exact hp | refine List.mem_cons_of_mem _ ?_))); (case hmq5 => k_mem); k_whole); intro tpz9 tz9 hz9 tkz9 Fz9 Nz9 l1; (try k_lt l1)) | walk1 | (dsimp only; walk1) | (leave1; walk_say "STEP leave1"; (try dsimp only)) | fail "no step"))
  rename Fr _ _ _ _ => lF
  rename News _ _ _ _ => lN
  exact ret _ _ lF (fun p hp => lN p (by repeat (first | exact hp | refine List.mem_cons_of_mem _ ?_)))
theorem put_ok {w : World} {dp un : Nat} {gd : Option (List Code)} {cn : Str} {cs : Scope} {L a : Addr} {ccd : Value} {cl : List (Str × Addr)} {outer : List Env} {A₀ : Around} {base h₀ : Heap} {m : Str → Option Value} {s : Shared} {Q E : Value → Shared → Prop}
   {loose : List Str} {mean : ExcName → Option Value} {mg mb : Str → Option Value} {news : List (Addr × Obj)} {b c : Array UInt8} {x mem sh : Addr} {tc : Tok}
   (B : Below A₀ base outer h₀) (F : Fr h₀ L s.heap m) (X : (K w.params).In h₀) (T : Top q loose mean mg mb h₀) (hk : cs.kind = .function) (N : News h₀ L s.heap ((mem, baOf b) :: news)) (hd : dp + 22 < recursionLimit) (hu : un + 340 < cLine) (hb0 : 0 < b.size) (hb : b.size ≤ 5) (hc : c.size = b.size) (hS : SpotAt w news x mem sh b.size) (off : ∀ p ∈ news, p.1 ≠ mem)
   (ret : ∀ h' tk', Fr h₀ L h' m → News h₀ L h' ((mem, baOf c) :: news) → Q .none {s with heap := h', toks := tk'}) :
   wpP (model pw w) (ktrTop dp un gd cn cs L a ccd cl outer) (call (.ref 857) [.ref x, .ref 960, .bytes c tc]) Q E s := by
  exact clo (by with_unfolding_all rfl) put_ok_m (Bag.mk w gd cs ccd cl outer A₀ s loose mean bag0.qf bag0.qu (lk [un, L, a, x, mem, sh, tc] dp) (lk [] cn) (lk [h₀] base) (lk [mg, mb] m) (lk [] news) (lk [E] Q) bag0.i bag0.vs bag0.ns (lk [c] b) bag0.bool bag0.o bag0.avs bag0.kvs bag0.nb bag0.nbool bag0.nn bag0.l bag0.kc bag0.nd bag0.u8 bag0.d bag0.ov) B F X T hk N hd hu hb0 hb hc hS off ret

end
theorem flush_D6 : True := by first | walk1 | exact trivial
section
open PySem PySem.W PySem.Calls PyProof.Rows
noncomputable def DLib (w : World) (pd wd : Addr) (o : Obj) : Prop := ∃ (cd al rl : Addr) (k0 k1 k2 v2 k3 k4 k5 k6 : Tok), o = dictOf [en w "programs" k0 (.ref pd), en w "is_compiled" k1 (.bool false), en w "limit" k2 (.int 100000 v2), en w "worlds" k3 (.ref wd), en w "codes" k4 (.ref cd), en w "active" k5 (.ref al), en w "runs" k6 (.ref rl)] 7
structure LibAt (w : World) (nx : List (Addr × Obj)) (lb pd wd : Addr) (pk : List (Str × Value)) : Prop where
  ex : ∃ (ld : Addr) (old opd : Obj), (lb, instObj 917 ld) ∈ nx ∧ (ld, old) ∈ nx ∧ DLib w pd wd old ∧ (pd, opd) ∈ nx ∧ opd.IsDictOf (PySem.strKind pw w) pk
theorem LibAt.sub {w : World} {nx nx' : List (Addr × Obj)} {lb pd wd : Addr} {pk : List (Str × Value)} (x : LibAt w nx lb pd wd pk) (k : ∀ p ∈ nx, p ∈ nx') : LibAt w nx' lb pd wd pk := by
  obtain ⟨ld, old, opd, a1, a2, a3, a4, a5⟩ := x
  exact ⟨ld, old, opd, k _ a1, k _ a2, a3, k _ a4, a5⟩

noncomputable def wf_old_P (w : World) (dp : Nat) (un : Nat) (gd : Option (List Code)) (cn : Str) (cs : Scope) (L : Addr) (a : Addr) (ccd : Value) (cl : List (Str × Addr)) (outer : List Env) (A₀ : Around) (base : Heap) (h₀ : Heap) (m : Str → Option Value) (s : Shared) (Q : Value → Shared → Prop) (E : Value → Shared → Prop) (loose : List Str) (mean : ExcName → Option Value) (mg : Str → Option Value) (mb : Str → Option Value) (news : List (Addr × Obj)) (b : Array UInt8) (lb : Addr) (pd : Addr) (wd : Addr) (p : Addr) (ca : Addr) (cdx : Addr) (pc : Addr) (crows : Addr) (ctold : Addr) (cmem : Addr) (chn : Addr) (cop : Addr) (x : Addr) (dx : Addr) (mem : Addr) (hn : Addr) (r0 : Addr) (t0 : Addr) (o0 : Addr) (od : Obj) (odx : Obj) (pk : List (Str × Value)) (kvs : List (Str × Value)) (nm : Str) (tn : Tok) (corow : Array UInt8) (orow : Array UInt8) : Prop := ∀ (B : Below A₀ base outer h₀) (F : Fr h₀ L s.heap m) (X : (K w.params).In h₀) (T : Top q loose mean mg mb h₀) (hk : cs.kind = .function) (N : News h₀ L s.heap ((wd, od) :: (dx, odx) :: news)) (hd : dp + 30 < recursionLimit) (hu : un + 400 < cLine) (hL : LibAt w news lb pd wd pk) (hp : valueAt pk nm = some (.ref p)) (hP : ProgAt w news p b false) (hod : od.IsDictOf (PySem.strKind pw w) kvs) (lo : (wd == sysModules) = false) (hv : valueAt kvs nm = some (.ref x)) (hC : WorldAt w news ca cdx pc (Str.ofString "shelf") crows ctold cmem chn cop corow) (hx : (x, instObj 806 dx) ∈ news) (hdx : DWorld w p (Str.ofString "shelf") r0 t0 mem hn o0 orow odx) (ne : @Ne Nat dx wd) (off : ∀ q ∈ news, q.1 ≠ wd) (off' : ∀ q ∈ news, q.1 ≠ dx) (ret : ∀ odx' h' tk', Fr h₀ L h' m → News h₀ L h' ((wd, od) :: (dx, odx') :: news) → DWorld w p (Str.ofString "shelf") crows ctold mem hn cop corow odx' → Q (.ref x) {s with heap := h', toks := tk'}), wpAny (model pw w) (ktrTop dp un gd cn cs L a ccd cl outer) (call (.ref 928) [.ref lb, .str nm tn, .ref ca]) Q E s
noncomputable def wf_old_S (c : Bag) : Prop := wf_old_P c.w (c.n 0) (c.n 1) c.gd (c.str 0) c.cs (c.n 2) (c.n 3) c.v c.cl c.outer c.ar (c.heap 0) (c.heap 1) (c.m 0) c.s (c.q 0) (c.q 1) c.loose c.mean (c.m 1) (c.m 2) (c.news 0) (c.b 0) (c.n 4) (c.n 5) (c.n 6) (c.n 7) (c.n 8) (c.n 9) (c.n 10) (c.n 11) (c.n 12) (c.n 13) (c.n 14) (c.n 15) (c.n 16) (c.n 17) (c.n 18) (c.n 19) (c.n 20) (c.n 21) (c.n 22) (c.o 0) (c.o 1) (c.kvs 0) (c.kvs 1) (c.str 1) (c.n 23) (c.b 1) (c.b 2)
@[irreducible] noncomputable def wf_old_c : Bag := pick wf_old_S
theorem wf_old_m : wf_old_S wf_old_c := by
  refine (?zz9 : ∀ (w : World) (dp : Nat) (un : Nat) (gd : Option (List Code)) (cn : Str) (cs : Scope) (L : Addr) (a : Addr) (ccd : Value) (cl : List (Str × Addr)) (outer : List Env) (A₀ : Around) (base : Heap) (h₀ : Heap) (m : Str → Option Value) (s : Shared) (Q : Value → Shared → Prop) (E : Value → Shared → Prop) (loose : List Str) (mean : ExcName → Option Value) (mg : Str → Option Value) (mb : Str → Option Value) (news : List (Addr × Obj)) (b : Array UInt8) (lb : Addr) (pd : Addr) (wd : Addr) (p : Addr) (ca : Addr) (cdx : Addr) (pc : Addr) (crows : Addr) (ctold : Addr) (cmem : Addr) (chn : Addr) (cop : Addr) (x : Addr) (dx : Addr) (mem : Addr) (hn : Addr) (r0 : Addr) (t0 : Addr) (o0 : Addr) (od : Obj) (odx : Obj) (pk : List (Str × Value)) (kvs : List (Str × Value)) (nm : Str) (tn : Tok) (corow : Array UInt8) (orow : Array UInt8), wf_old_P w dp un gd cn cs L a ccd cl outer A₀ base h₀ m s Q E loose mean mg mb news b lb pd wd p ca cdx pc crows ctold cmem chn cop x dx mem hn r0 t0 o0 od odx pk kvs nm tn corow orow) wf_old_c.w (wf_old_c.n 0) (wf_old_c.n 1) wf_old_c.gd (wf_old_c.str 0) wf_old_c.cs (wf_old_c.n 2) (wf_old_c.n 3) wf_old_c.v wf_old_c.cl wf_old_c.outer wf_old_c.ar (wf_old_c.heap 0) (wf_old_c.heap 1) (wf_old_c.m 0) wf_old_c.s (wf_old_c.q 0) (wf_old_c.q 1) wf_old_c.loose wf_old_c.mean (wf_old_c.m 1) (wf_old_c.m 2) (wf_old_c.news 0) (wf_old_c.b 0) (wf_old_c.n 4) (wf_old_c.n 5) (wf_old_c.n 6) (wf_old_c.n 7) (wf_old_c.n 8) (wf_old_c.n 9) (wf_old_c.n 10) (wf_old_c.n 11) (wf_old_c.n 12) (wf_old_c.n 13) (wf_old_c.n 14) (wf_old_c.n 15) (wf_old_c.n 16) (wf_old_c.n 17) (wf_old_c.n 18) (wf_old_c.n 19) (wf_old_c.n 20) (wf_old_c.n 21) (wf_old_c.n 22) (wf_old_c.o 0) (wf_old_c.o 1) (wf_old_c.kvs 0) (wf_old_c.kvs 1) (wf_old_c.str 1) (wf_old_c.n 23) (wf_old_c.b 1) (wf_old_c.b 2)
  intro w dp un gd cn cs L a ccd cl outer A₀ base h₀ m s Q E loose mean mg mb news b lb pd wd p ca cdx pc crows ctold cmem chn cop x dx mem hn r0 t0 o0 od odx pk kvs nm tn corow orow B F X T hk N hd hu hL hp hP hod lo hv hC hx hdx ne off off' ret
  obtain ⟨ld, old, opd, l1, l2, ⟨_, _, _, _, _, _, _, _, _, _, _, rfl⟩, l4, l5⟩ := hL
  obtain ⟨pD, D, fl, opr, ofl, pnm, ⟨a1, a2, _, _, _, _, _, _, rfl⟩, ⟨b1, b2⟩, hD⟩ := hP
  obtain ⟨w1, ⟨wo, w2, _, _, _, _, _, _, _, _, _, _, _, _, _, _, _, _, rfl⟩, wh, w4, w5⟩ := hC
  obtain ⟨_, _, _, _, _, _, _, _, _, _, _, _, _, _, _, _, rfl⟩ := hdx
  have hv2 : (valueAt kvs nm).isSome = true := by rw [hv]; rfl
  refine wpAny_call ?_
  k_dflt ktr_enter
  (repeat' (first | (k_unfold; (try dsimp only)) | (k_end; wrow_close) | ((with_reducible show wpAny _ _ (compareOp CmpOp.NotIn (Value.str _ _) (Value.ref _)) _ _ _); k_dflt (refine' kdg_notin (knd := PySem.strKind _ _) ?Nq45 ?mq45 ?dq45 ?lq45 (strKind_is _ _ _ _) _ ?vq45 ?_; (case Nq45 => k_asm); (case mq45 => k_mem); (case dq45 => assumption); (case lq45 => assumption); (case vq45 => assumption); k_whole)) | ((with_reducible show wpAny _ _ (subscriptTail _ _ (Value.ref _) (Value.str _ _)) _ _ _); k_dflt (refine' kda_item (knd := PySem.strKind _ _) ?Nq43 ?mq43 ?dq43 (strKind_is _ _ _ _) ?vq43 ?_; (case Nq43 => k_asm); (case mq43 => k_mem); (case dq43 => assumption); (case vq43 => assumption); k_whole)) | ((with_reducible show wpAny _ _ (getItem (Value.ref _) (Value.str _ _)) _ _ _); k_dflt (refine' kdt_getItem (knd := PySem.strKind _ _) ?Nq42 ?mq42 ?dq42 (strKind_is _ _ _ _) ?vq42 ?_; (case Nq42 => k_asm); (case mq42 => k_mem); (case dq42 => assumption); (case vq42 => assumption); k_whole)) | walk1 | (dsimp only; walk1) | (leave1; walk_say "STEP leave1"; (try dsimp only)) | fail "no step"))
  rename Fr _ _ _ _ => lF
  rename News _ _ _ _ => lN
  trace_state
  exact ret _ _ _ lF lN ⟨_, _, _, _, _, _, _, _, _, _, _, _, _, _, _, _, rfl⟩
theorem wf_old {w : World} {dp un : Nat} {gd : Option (List Code)} {cn : Str} {cs : Scope} {L a : Addr} {ccd : Value} {cl : List (Str × Addr)} {outer : List Env} {A₀ : Around} {base h₀ : Heap} {m : Str → Option Value} {s : Shared} {Q E : Value → Shared → Prop}
   {loose : List Str} {mean : ExcName → Option Value} {mg mb : Str → Option Value} {news : List (Addr × Obj)} {b : Array UInt8} {lb pd wd p ca cdx pc crows ctold cmem chn cop x dx mem hn r0 t0 o0 : Addr} {od odx : Obj} {pk kvs : List (Str × Value)} {nm : Str} {tn : Tok} {corow orow : Array UInt8}
   (B : Below A₀ base outer h₀) (F : Fr h₀ L s.heap m) (X : (K w.params).In h₀) (T : Top q loose mean mg mb h₀) (hk : cs.kind = .function) (N : News h₀ L s.heap ((wd, od) :: (dx, odx) :: news)) (hd : dp + 30 < recursionLimit) (hu : un + 400 < cLine)
   (hL : LibAt w news lb pd wd pk) (hp : valueAt pk nm = some (.ref p)) (hP : ProgAt w news p b false) (hod : od.IsDictOf (PySem.strKind pw w) kvs) (lo : (wd == sysModules) = false) (hv : valueAt kvs nm = some (.ref x))
   (hC : WorldAt w news ca cdx pc (Str.ofString "shelf") crows ctold cmem chn cop corow) (hx : (x, instObj 806 dx) ∈ news) (hdx : DWorld w p (Str.ofString "shelf") r0 t0 mem hn o0 orow odx) (ne : @Ne Nat dx wd) (off : ∀ q ∈ news, q.1 ≠ wd) (off' : ∀ q ∈ news, q.1 ≠ dx)
   (ret : ∀ odx' h' tk', Fr h₀ L h' m → News h₀ L h' ((wd, od) :: (dx, odx') :: news) → DWorld w p (Str.ofString "shelf") crows ctold mem hn cop corow odx' → Q (.ref x) {s with heap := h', toks := tk'}) :
   wpAny (model pw w) (ktrTop dp un gd cn cs L a ccd cl outer) (call (.ref 928) [.ref lb, .str nm tn, .ref ca]) Q E s := by
  exact clo (by with_unfolding_all rfl) wf_old_m (Bag.mk w gd cs ccd cl outer A₀ s loose mean bag0.qf bag0.qu (lk [un, L, a, lb, pd, wd, p, ca, cdx, pc, crows, ctold, cmem, chn, cop, x, dx, mem, hn, r0, t0, o0, tn] dp) (lk [nm] cn) (lk [h₀] base) (lk [mg, mb] m) (lk [] news) (lk [E] Q) bag0.i bag0.vs bag0.ns (lk [corow, orow] b) bag0.bool (lk [odx] od) bag0.avs (lk [kvs] pk) bag0.nb bag0.nbool bag0.nn bag0.l bag0.kc bag0.nd bag0.u8 bag0.d bag0.ov) B F X T hk N hd hu hL hp hP hod lo hv hC hx hdx ne off off' ret

end
theorem flush_D7 : True := by first | walk1 | exact trivial
section
open PySem PySem.W PySem.Calls PyProof.Rows
theorem focus2 {h₀ h : Heap} {L a d : Addr} {o o' : Obj} {all : List (Addr × Obj)} (N : News h₀ L h all) (hm : (a, o) ∈ all) (hm' : (d, o') ∈ all) : News h₀ L h ((a, o) :: (d, o') :: all.filter fun p => decide (p.1 ≠ a ∧ p.1 ≠ d)) := fun p hp => by
  rcases List.mem_cons.mp hp with rfl | hp
  · exact N _ hm
  · rcases List.mem_cons.mp hp with rfl | hp
    · exact N _ hm'
    · exact N p (List.mem_filter.mp hp).1
theorem in_but2 {a d : Addr} {p : Addr × Obj} {all : List (Addr × Obj)} (hp : p ∈ all) (ne : p.1 ≠ a) (ne' : p.1 ≠ d) : p ∈ all.filter fun p => decide (p.1 ≠ a ∧ p.1 ≠ d) := List.mem_filter.mpr ⟨hp, by simpa using ⟨ne, ne'⟩⟩
theorem of_but2 {a d : Addr} {p : Addr × Obj} {all : List (Addr × Obj)} (hp : p ∈ all.filter fun p => decide (p.1 ≠ a ∧ p.1 ≠ d)) : p ∈ all ∧ p.1 ≠ a ∧ p.1 ≠ d := by
  have := List.mem_filter.mp hp
  exact ⟨this.1, by simpa using this.2⟩
/-- a world that is new -/
structure Fresh (w : World) (news R : List (Addr × Obj)) (wd x dx mem hn : Addr) (b : Array UInt8) : Prop where
  fx : (x, instObj 806 dx) ∈ R
  fh : ∃ ohn, (hn, ohn) ∈ R ∧ Emp w hn ohn
  fm : (mem, baOf b) ∈ R
  sub : ∀ p ∈ news, p ∈ R
  off : ∀ p ∈ R, p.1 ≠ wd
  offd : ∀ p ∈ R, p.1 ≠ dx
  new : ∀ q ∈ news, @LT.lt Nat _ q.1 dx
  neW : @LT.lt Nat _ wd dx
  ord : @LT.lt Nat _ dx x ∧ @LT.lt Nat _ x mem ∧ @LT.lt Nat _ mem hn
theorem fresh_of {w : World} {h₀ h : Heap} {L wd x dx mem hn rows told op p : Addr} {shelf : Str} {od : Obj} {b : Array UInt8} {add mid news : List (Addr × Obj)} (N : News h₀ L h (add ++ (mid ++ (wd, od) :: news))) (W : WorldAt w add x dx p shelf rows told mem hn op #[]) (hm : (mem, baOf b) ∈ add)
    (fr : ∀ r ∈ add, ∀ q ∈ mid ++ (wd, od) :: news, @LT.lt Nat _ q.1 r.1) (ord : @LT.lt Nat _ dx x ∧ @LT.lt Nat _ x rows ∧ @LT.lt Nat _ rows told ∧ @LT.lt Nat _ told mem ∧ @LT.lt Nat _ mem hn ∧ @LT.lt Nat _ hn op) (off : ∀ q ∈ news, q.1 ≠ wd) :
    ∃ R odx, News h₀ L h ((wd, od) :: (dx, odx) :: R) ∧ DWorld w p shelf rows told mem hn op #[] odx ∧ Fresh w news R wd x dx mem hn b := by
  obtain ⟨hx, ⟨odx, hdx, hD⟩, ohn, hhn, hE⟩ := W
  have hw : (wd, od) ∈ mid ++ (wd, od) :: news := List.mem_append_right _ (.head _)
  have l1 : @LT.lt Nat _ wd dx := fr _ hdx _ hw
  have ma : ∀ {q}, q ∈ add → q ∈ add ++ (mid ++ (wd, od) :: news) := fun hq => List.mem_append_left _ hq
  have key : ∀ {q : Addr × Obj}, q ∈ add → @LT.lt Nat _ dx q.1 → q ∈ (add ++ (mid ++ (wd, od) :: news)).filter fun p => decide (p.1 ≠ wd ∧ p.1 ≠ dx) := fun hq hl =>
    in_but2 (ma hq) (Nat.ne_of_gt (Nat.lt_trans l1 hl)) (Nat.ne_of_gt hl)
  obtain ⟨o1, o2, o3, o4, o5, o6⟩ := ord
  refine ⟨_, odx, focus2 N (List.mem_append_right _ hw) (ma hdx), hD, ⟨key hx o1, ⟨ohn, key hhn ?_, hE⟩, key hm ?_, fun p hp => ?_, fun p hp => (of_but2 hp).2.1, fun p hp => (of_but2 hp).2.2, fun q hq => ?_, l1, o1, ?_, o5⟩⟩
  · show @LT.lt Nat _ dx hn; omega
  · show @LT.lt Nat _ dx mem; omega
  · have hp' : p ∈ mid ++ (wd, od) :: news := List.mem_append_right _ (.tail _ hp)
    exact in_but2 (List.mem_append_right _ hp') (off p hp) (Nat.ne_of_lt (fr _ hdx _ hp'))
  · exact fr _ hdx _ (List.mem_append_right _ (.tail _ hq))
  · show @LT.lt Nat _ x mem; omega
noncomputable def wf_new_P (w : World) (dp : Nat) (un : Nat) (gd : Option (List Code)) (cn : Str) (cs : Scope) (L : Addr) (a : Addr) (ccd : Value) (cl : List (Str × Addr)) (outer : List Env) (A₀ : Around) (base : Heap) (h₀ : Heap) (m : Str → Option Value) (s : Shared) (Q : Value → Shared → Prop) (E : Value → Shared → Prop) (loose : List Str) (mean : ExcName → Option Value) (mg : Str → Option Value) (mb : Str → Option Value) (news : List (Addr × Obj)) (b : Array UInt8) (lb : Addr) (pd : Addr) (wd : Addr) (p : Addr) (ca : Addr) (cdx : Addr) (pc : Addr) (crows : Addr) (ctold : Addr) (cmem : Addr) (chn : Addr) (cop : Addr) (od : Obj) (pk : List (Str × Value)) (kvs : List (Str × Value)) (nm : Str) (tn : Tok) (corow : Array UInt8) (ini : Bool) : Prop := ∀ (B : Below A₀ base outer h₀) (F : Fr h₀ L s.heap m) (X : (K w.params).In h₀) (T : Top q loose mean mg mb h₀) (hk : cs.kind = .function) (N : News h₀ L s.heap ((wd, od) :: news)) (hd : dp + 60 < recursionLimit) (hu : un + 450 < cLine) (hb0 : 0 < b.size) (hb : b.size ≤ 5) (hL : LibAt w news lb pd wd pk) (hp : valueAt pk nm = some (.ref p)) (hP : ProgAt w news p b ini) (hod : od.IsDictOf (PySem.strKind pw w) kvs) (lo : (wd == sysModules) = false) (hkz : kvs.length ≤ sizeLine) (hv : valueAt kvs nm = none ∨ (ini = true ∧ ∃ y dy py ry ty my hy oy oo, valueAt kvs nm = some (.ref y) ∧ WorldAt w news y dy py (Str.ofString "shelf") ry ty my hy oy oo)) (hst : ∀ v, valueAt (stored kvs nm v) nm = some v) (hC : WorldAt w news ca cdx pc (Str.ofString "shelf") crows ctold cmem chn cop corow) (off : ∀ q ∈ news, q.1 ≠ wd) (ret : ∀ x dx mem hn R od' odx' h' tk', Fr h₀ L h' m → News h₀ L h' ((wd, od') :: (dx, odx') :: R) → od'.IsDictOf (PySem.strKind pw w) (stored kvs nm (.ref x)) → DWorld w p (Str.ofString "shelf") crows ctold mem hn cop corow odx' → Fresh w news R wd x dx mem hn b → Q (.ref x) {s with heap := h', toks := tk'}), wpP (model pw w) (ktrTop dp un gd cn cs L a ccd cl outer) (call (.ref 928) [.ref lb, .str nm tn, .ref ca]) Q E s
noncomputable def wf_new_S (c : Bag) : Prop := wf_new_P c.w (c.n 0) (c.n 1) c.gd (c.str 0) c.cs (c.n 2) (c.n 3) c.v c.cl c.outer c.ar (c.heap 0) (c.heap 1) (c.m 0) c.s (c.q 0) (c.q 1) c.loose c.mean (c.m 1) (c.m 2) (c.news 0) (c.b 0) (c.n 4) (c.n 5) (c.n 6) (c.n 7) (c.n 8) (c.n 9) (c.n 10) (c.n 11) (c.n 12) (c.n 13) (c.n 14) (c.n 15) (c.o 0) (c.kvs 0) (c.kvs 1) (c.str 1) (c.n 16) (c.b 1) c.bool
@[irreducible] noncomputable def wf_new_c : Bag := pick wf_new_S
theorem wf_new_m : wf_new_S wf_new_c := by
  refine (?zz9 : ∀ (w : World) (dp : Nat) (un : Nat) (gd : Option (List Code)) (cn : Str) (cs : Scope) (L : Addr) (a : Addr) (ccd : Value) (cl : List (Str × Addr)) (outer : List Env) (A₀ : Around) (base : Heap) (h₀ : Heap) (m : Str → Option Value) (s : Shared) (Q : Value → Shared → Prop) (E : Value → Shared → Prop) (loose : List Str) (mean : ExcName → Option Value) (mg : Str → Option Value) (mb : Str → Option Value) (news : List (Addr × Obj)) (b : Array UInt8) (lb : Addr) (pd : Addr) (wd : Addr) (p : Addr) (ca : Addr) (cdx : Addr) (pc : Addr) (crows : Addr) (ctold : Addr) (cmem : Addr) (chn : Addr) (cop : Addr) (od : Obj) (pk : List (Str × Value)) (kvs : List (Str × Value)) (nm : Str) (tn : Tok) (corow : Array UInt8) (ini : Bool), wf_new_P w dp un gd cn cs L a ccd cl outer A₀ base h₀ m s Q E loose mean mg mb news b lb pd wd p ca cdx pc crows ctold cmem chn cop od pk kvs nm tn corow ini) wf_new_c.w (wf_new_c.n 0) (wf_new_c.n 1) wf_new_c.gd (wf_new_c.str 0) wf_new_c.cs (wf_new_c.n 2) (wf_new_c.n 3) wf_new_c.v wf_new_c.cl wf_new_c.outer wf_new_c.ar (wf_new_c.heap 0) (wf_new_c.heap 1) (wf_new_c.m 0) wf_new_c.s (wf_new_c.q 0) (wf_new_c.q 1) wf_new_c.loose wf_new_c.mean (wf_new_c.m 1) (wf_new_c.m 2) (wf_new_c.news 0) (wf_new_c.b 0) (wf_new_c.n 4) (wf_new_c.n 5) (wf_new_c.n 6) (wf_new_c.n 7) (wf_new_c.n 8) (wf_new_c.n 9) (wf_new_c.n 10) (wf_new_c.n 11) (wf_new_c.n 12) (wf_new_c.n 13) (wf_new_c.n 14) (wf_new_c.n 15) (wf_new_c.o 0) (wf_new_c.kvs 0) (wf_new_c.kvs 1) (wf_new_c.str 1) (wf_new_c.n 16) (wf_new_c.b 1) wf_new_c.bool
  intro w dp un gd cn cs L a ccd cl outer A₀ base h₀ m s Q E loose mean mg mb news b lb pd wd p ca cdx pc crows ctold cmem chn cop od pk kvs nm tn corow ini B F X T hk N hd hu hb0 hb hL hp hP hod lo hkz hv hst hC off ret
  have hP0 := hP
  obtain ⟨ld, old, opd, k1, k2, ⟨_, _, _, _, _, _, _, _, _, _, _, rfl⟩, k4, k5⟩ := hL
  obtain ⟨pD, D, fl, opr, ofl, pnm, ⟨a1, a2, _, _, _, _, _, _, rfl⟩, ⟨b1, b2⟩, hD⟩ := hP
  obtain ⟨w1, ⟨wo, w2, _, _, _, _, _, _, _, _, _, _, _, _, _, _, _, _, rfl⟩, wh, w4, w5⟩ := hC
  rcases hv with hv | ⟨rfl, y, dy, py, ry, ty, my, hy, oy, oo, hv, hY⟩
  · have hv2 : (valueAt kvs nm).isSome = false := by rw [hv]; rfl
    cases ini
    · refine wpP_call ?_
      (k_dflt (refine' codeP_def ?k1 ?k2 ?k3 ?k4 ?k5 ?kA ?kF ?kK ?k6 ?k7 ?k8 ?k9 ?kB ?_ ?c2 ?c3 ?c4 ?c5; (case kA => exact rfl); (case kF => exact rfl); (case kK => first | exact rfl | assumption); (case k1 => k_asm); (case k2 => k_asm); (case k3 => k_asm); (case k4 => k_asm); (case k5 => k_asm); (case k6 => k_is); (case k7 => k_is); (case k8 => first | exact r1 (by assumption) rfl | exact r2 (by assumption) rfl | exact r3 (by assumption) rfl | exact r0 (by assumption) | k_room); (case k9 => first | exact BindsTo.of_eq rfl | exact binds_K (by k_in) rfl (by k_is) rfl rfl rfl); (case c5 => decide); (case kB => exact locs rfl); (case c2 => exact rfl); (case c3 => exact rfl); (case c4 => exact rfl); k_whole; intro g1 L1 h1 FG1 F1 N1 B1 X1 T1 l1; (try dsimp only)))
      refine wpP_execs_leaf ?_
      k_fold
      (repeat' (first | (k_unfold; (try dsimp only)) | (k_end; wrow_close) | ((with_reducible show wpAny _ _ (subscriptTail _ _ (Value.ref _) (Value.str _ _)) _ _ _); k_dflt (refine' kda_item (knd := PySem.strKind _ _) ?Nq43 ?mq43 ?dq43 (strKind_is _ _ _ _) ?vq43 ?_; (case Nq43 => k_asm); (case mq43 => k_mem); (case dq43 => assumption); (case vq43 => assumption); k_whole)) | walk1 | (dsimp only; walk1) | (leave1; walk_say "STEP leave1"; (try dsimp only)) | fail "no step"))
      refine wpP_execs_leaf ?_
      k_fold
      k_steps
      refine wpP_execs_cons (wpP_If (wpP_of ?_))
      k_fold
      (repeat' (first | (k_unfold; (try dsimp only)) | (k_end; wrow_close) | ((with_reducible show wpAny _ _ (compareOp CmpOp.NotIn (Value.str _ _) (Value.ref _)) _ _ _); k_dflt (refine' kdg_notin (knd := PySem.strKind _ _) ?Nq45 ?mq45 ?dq45 ?lq45 (strKind_is _ _ _ _) _ ?vq45 ?_; (case Nq45 => k_asm); (case mq45 => k_mem); (case dq45 => assumption); (case lq45 => assumption); (case vq45 => assumption); k_whole)) | walk1 | (dsimp only; walk1) | (leave1; walk_say "STEP leave1"; (try dsimp only)) | fail "no step"))
      refine wpP_execs_cons (wpP_Assign_Subscript (wpP_Call ?_))
      k_steps
      refine wpP_callWith_K X1 (by k_is) (wpP_of ?_)
      k_steps
      k_dflt (refine' world_ok ?B ?F ?X ?T ?hk ?N ?hd ?hu ?hb0 ?hb ?hP ?hr ?hz ?_; (case B => k_asm); (case F => k_asm); (case X => k_asm); (case T => k_asm); (case hk => first | rfl | assumption); (case N => k_asm); (case hd => first | exact r1 (by assumption) rfl | exact r2 (by assumption) rfl | exact r3 (by assumption) rfl | exact r0 (by assumption) | ktr_room); (case hu => first | exact r1 (by assumption) rfl | exact r2 (by assumption) rfl | exact r3 (by assumption) rfl | exact r0 (by assumption) | k_units); (case hb0 => assumption); (case hb => assumption); (case hP => exact hP0.sub (by intro p hp; repeat (first | exact hp | refine List.mem_cons_of_mem _ ?_))); (case hr => k_mem); (case hz => simp); k_whole)
      intro x dx rows told mem hn op add n1 n2 n3 h9 tk9 F9 N9 W9 r1 r2 r3 r4 fr9 ord9
      first
        | obtain ⟨R, odx, N8, hD8, fr8⟩ := fresh_of (wd := wd) (mid := [_]) N9 W9 r3 fr9 ord9 off
        | obtain ⟨R, odx, N8, hD8, fr8⟩ := fresh_of (wd := wd) (mid := [_, _]) N9 W9 r3 fr9 ord9 off
        | obtain ⟨R, odx, N8, hD8, fr8⟩ := fresh_of (wd := wd) (mid := [_, _, _]) N9 W9 r3 fr9 ord9 off
      clear N9 W9 fr9 r1 r2 r3 r4
      obtain ⟨_, _, _, _, _, _, _, _, _, _, _, _, _, _, _, _, rfl⟩ := hD8
      have o1 := fr8.off
      have o2 := fr8.offd
      have o3 := fr8.neW
      have k1' := fr8.sub _ k1
      have k2' := fr8.sub _ k2
      have k4' := fr8.sub _ k4
      have w1' := fr8.sub _ w1
      have w2' := fr8.sub _ w2
      have x1' := fr8.fx
      have hst' := hst (.ref x)
      clear k1 k2 k4 w1 w2
      k_steps
      refine wpP_of ?_
      k_fold
      (repeat' (first | (k_unfold; (try dsimp only)) | (k_end; wrow_close) | ((with_reducible show wpAny _ _ (setItem (Value.ref _) (Value.str _ _) _) _ _ _); k_dflt (refine' kda_set (knd := PySem.strKind _ _) ?Fq46 ?Nq46 ?Uq46 ?dq46 (strKind_is _ _ _ _) ?zq46 ?_; (case Fq46 => k_asm); (case Nq46 => k_asm); (case Uq46 => k_updF); (case dq46 => assumption); (case zq46 => assumption); k_whole); intro hz9 oz9 Fz9 Nz9 hdz9; (try dsimp only at Nz9)) | walk1 | (dsimp only; walk1) | (leave1; walk_say "STEP leave1"; (try dsimp only)) | fail "no step"))
      refine wpP_execs_nil ?_
      dsimp only
      refine wpP_of ?_
      k_fold
      (repeat' (first | (k_unfold; (try dsimp only)) | (k_end; wrow_close) | ((with_reducible show wpAny _ _ (getItem (Value.ref _) (Value.str _ _)) _ _ _); k_dflt (refine' kdt_getItem (knd := PySem.strKind _ _) ?Nq42 ?mq42 ?dq42 (strKind_is _ _ _ _) ?vq42 ?_; (case Nq42 => k_asm); (case mq42 => k_mem); (case dq42 => assumption); (case vq42 => assumption); k_whole)) | walk1 | (dsimp only; walk1) | (leave1; walk_say "STEP leave1"; (try dsimp only)) | fail "no step"))
      rename Fr _ _ _ _ => lF
      rename News _ _ _ _ => lN
      rename Obj.IsDictOf _ _ (stored _ _ _) => lD
      exact ret _ _ _ _ _ _ _ _ _ lF lN lD ⟨_, _, _, _, _, _, _, _, _, _, _, _, _, _, _, _, rfl⟩ fr8
    · refine wpP_call ?_
      (k_dflt (refine' codeP_def ?k1 ?k2 ?k3 ?k4 ?k5 ?kA ?kF ?kK ?k6 ?k7 ?k8 ?k9 ?kB ?_ ?c2 ?c3 ?c4 ?c5; (case kA => exact rfl); (case kF => exact rfl); (case kK => first | exact rfl | assumption); (case k1 => k_asm); (case k2 => k_asm); (case k3 => k_asm); (case k4 => k_asm); (case k5 => k_asm); (case k6 => k_is); (case k7 => k_is); (case k8 => first | exact r1 (by assumption) rfl | exact r2 (by assumption) rfl | exact r3 (by assumption) rfl | exact r0 (by assumption) | k_room); (case k9 => first | exact BindsTo.of_eq rfl | exact binds_K (by k_in) rfl (by k_is) rfl rfl rfl); (case c5 => decide); (case kB => exact locs rfl); (case c2 => exact rfl); (case c3 => exact rfl); (case c4 => exact rfl); k_whole; intro g1 L1 h1 FG1 F1 N1 B1 X1 T1 l1; (try dsimp only)))
      refine wpP_execs_leaf ?_
      k_fold
      (repeat' (first | (k_unfold; (try dsimp only)) | (k_end; wrow_close) | ((with_reducible show wpAny _ _ (subscriptTail _ _ (Value.ref _) (Value.str _ _)) _ _ _); k_dflt (refine' kda_item (knd := PySem.strKind _ _) ?Nq43 ?mq43 ?dq43 (strKind_is _ _ _ _) ?vq43 ?_; (case Nq43 => k_asm); (case mq43 => k_mem); (case dq43 => assumption); (case vq43 => assumption); k_whole)) | walk1 | (dsimp only; walk1) | (leave1; walk_say "STEP leave1"; (try dsimp only)) | fail "no step"))
      refine wpP_execs_leaf ?_
      k_fold
      (repeat' (first | (k_unfold; (try dsimp only)) | (k_end; wrow_close) | ((with_reducible show wpAny _ _ (compareOp CmpOp.In (Value.str _ _) (Value.ref _)) _ _ _); k_dflt (refine' kda_in (knd := PySem.strKind _ _) ?Nq44 ?mq44 ?dq44 ?lq44 (strKind_is _ _ _ _) _ ?vq44 ?_; (case Nq44 => k_asm); (case mq44 => k_mem); (case dq44 => assumption); (case lq44 => assumption); (case vq44 => assumption); k_whole)) | walk1 | (dsimp only; walk1) | (leave1; walk_say "STEP leave1"; (try dsimp only)) | fail "no step"))
      refine wpP_execs_cons (wpP_If (wpP_of ?_))
      k_fold
      k_steps
      refine wpP_execs_cons (wpP_Assign_Subscript (wpP_Call ?_))
      k_steps
      refine wpP_callWith_K X1 (by k_is) (wpP_of ?_)
      k_steps
      k_dflt (refine' world_ok ?B ?F ?X ?T ?hk ?N ?hd ?hu ?hb0 ?hb ?hP ?hr ?hz ?_; (case B => k_asm); (case F => k_asm); (case X => k_asm); (case T => k_asm); (case hk => first | rfl | assumption); (case N => k_asm); (case hd => first | exact r1 (by assumption) rfl | exact r2 (by assumption) rfl | exact r3 (by assumption) rfl | exact r0 (by assumption) | ktr_room); (case hu => first | exact r1 (by assumption) rfl | exact r2 (by assumption) rfl | exact r3 (by assumption) rfl | exact r0 (by assumption) | k_units); (case hb0 => assumption); (case hb => assumption); (case hP => exact hP0.sub (by intro p hp; repeat (first | exact hp | refine List.mem_cons_of_mem _ ?_))); (case hr => k_mem); (case hz => simp); k_whole)
      intro x dx rows told mem hn op add n1 n2 n3 h9 tk9 F9 N9 W9 r1 r2 r3 r4 fr9 ord9
      first
        | obtain ⟨R, odx, N8, hD8, fr8⟩ := fresh_of (wd := wd) (mid := [_]) N9 W9 r3 fr9 ord9 off
        | obtain ⟨R, odx, N8, hD8, fr8⟩ := fresh_of (wd := wd) (mid := [_, _]) N9 W9 r3 fr9 ord9 off
        | obtain ⟨R, odx, N8, hD8, fr8⟩ := fresh_of (wd := wd) (mid := [_, _, _]) N9 W9 r3 fr9 ord9 off
      clear N9 W9 fr9 r1 r2 r3 r4
      obtain ⟨_, _, _, _, _, _, _, _, _, _, _, _, _, _, _, _, rfl⟩ := hD8
      have o1 := fr8.off
      have o2 := fr8.offd
      have o3 := fr8.neW
      have k1' := fr8.sub _ k1
      have k2' := fr8.sub _ k2
      have k4' := fr8.sub _ k4
      have w1' := fr8.sub _ w1
      have w2' := fr8.sub _ w2
      have x1' := fr8.fx
      have hst' := hst (.ref x)
      clear k1 k2 k4 w1 w2
      k_steps
      refine wpP_of ?_
      k_fold
      (repeat' (first | (k_unfold; (try dsimp only)) | (k_end; wrow_close) | ((with_reducible show wpAny _ _ (setItem (Value.ref _) (Value.str _ _) _) _ _ _); k_dflt (refine' kda_set (knd := PySem.strKind _ _) ?Fq46 ?Nq46 ?Uq46 ?dq46 (strKind_is _ _ _ _) ?zq46 ?_; (case Fq46 => k_asm); (case Nq46 => k_asm); (case Uq46 => k_updF); (case dq46 => assumption); (case zq46 => assumption); k_whole); intro hz9 oz9 Fz9 Nz9 hdz9; (try dsimp only at Nz9)) | walk1 | (dsimp only; walk1) | (leave1; walk_say "STEP leave1"; (try dsimp only)) | fail "no step"))
      refine wpP_execs_nil ?_
      dsimp only
      refine wpP_of ?_
      k_fold
      (repeat' (first | (k_unfold; (try dsimp only)) | (k_end; wrow_close) | ((with_reducible show wpAny _ _ (getItem (Value.ref _) (Value.str _ _)) _ _ _); k_dflt (refine' kdt_getItem (knd := PySem.strKind _ _) ?Nq42 ?mq42 ?dq42 (strKind_is _ _ _ _) ?vq42 ?_; (case Nq42 => k_asm); (case mq42 => k_mem); (case dq42 => assumption); (case vq42 => assumption); k_whole)) | walk1 | (dsimp only; walk1) | (leave1; walk_say "STEP leave1"; (try dsimp only)) | fail "no step"))
      rename Fr _ _ _ _ => lF
      rename News _ _ _ _ => lN
      rename Obj.IsDictOf _ _ (stored _ _ _) => lD
      exact ret _ _ _ _ _ _ _ _ _ lF lN lD ⟨_, _, _, _, _, _, _, _, _, _, _, _, _, _, _, _, rfl⟩ fr8
  · have hv2 : (valueAt kvs nm).isSome = true := by rw [hv]; rfl
    obtain ⟨y1, ⟨yo, y2, _, _, _, _, _, _, _, _, _, _, _, _, _, _, _, _, rfl⟩, yh, y4, ⟨y5a, y5b, y5c, y5d, y5e⟩⟩ := hY
    · refine wpP_call ?_
      (k_dflt (refine' codeP_def ?k1 ?k2 ?k3 ?k4 ?k5 ?kA ?kF ?kK ?k6 ?k7 ?k8 ?k9 ?kB ?_ ?c2 ?c3 ?c4 ?c5; (case kA => exact rfl); (case kF => exact rfl); (case kK => first | exact rfl | assumption); (case k1 => k_asm); (case k2 => k_asm); (case k3 => k_asm); (case k4 => k_asm); (case k5 => k_asm); (case k6 => k_is); (case k7 => k_is); (case k8 => first | exact r1 (by assumption) rfl | exact r2 (by assumption) rfl | exact r3 (by assumption) rfl | exact r0 (by assumption) | k_room); (case k9 => first | exact BindsTo.of_eq rfl | exact binds_K (by k_in) rfl (by k_is) rfl rfl rfl); (case c5 => decide); (case kB => exact locs rfl); (case c2 => exact rfl); (case c3 => exact rfl); (case c4 => exact rfl); k_whole; intro g1 L1 h1 FG1 F1 N1 B1 X1 T1 l1; (try dsimp only)))
      refine wpP_execs_leaf ?_
      k_fold
      (repeat' (first | (k_unfold; (try dsimp only)) | (k_end; wrow_close) | ((with_reducible show wpAny _ _ (subscriptTail _ _ (Value.ref _) (Value.str _ _)) _ _ _); k_dflt (refine' kda_item (knd := PySem.strKind _ _) ?Nq43 ?mq43 ?dq43 (strKind_is _ _ _ _) ?vq43 ?_; (case Nq43 => k_asm); (case mq43 => k_mem); (case dq43 => assumption); (case vq43 => assumption); k_whole)) | walk1 | (dsimp only; walk1) | (leave1; walk_say "STEP leave1"; (try dsimp only)) | fail "no step"))
      refine wpP_execs_leaf ?_
      k_fold
      (repeat' (first | (k_unfold; (try dsimp only)) | (k_end; wrow_close) | ((with_reducible show wpAny _ _ (compareOp CmpOp.In (Value.str _ _) (Value.ref _)) _ _ _); k_dflt (refine' kda_in (knd := PySem.strKind _ _) ?Nq44 ?mq44 ?dq44 ?lq44 (strKind_is _ _ _ _) _ ?vq44 ?_; (case Nq44 => k_asm); (case mq44 => k_mem); (case dq44 => assumption); (case lq44 => assumption); (case vq44 => assumption); k_whole)) | ((with_reducible show wpAny _ _ (getItem (Value.ref _) (Value.str _ _)) _ _ _); k_dflt (refine' kdt_getItem (knd := PySem.strKind _ _) ?Nq42 ?mq42 ?dq42 (strKind_is _ _ _ _) ?vq42 ?_; (case Nq42 => k_asm); (case mq42 => k_mem); (case dq42 => assumption); (case vq42 => assumption); k_whole)) | ((with_reducible show wpAny _ _ (pyIter (Value.ref _)) (fun it s₂ => TurnsAt _ _ _ _ _ _ _ _ _ it s₂) _ _); k_dflt (refine' iter_nil ?hq18 ?Fq18 ?Nq18 ?mq18 ?_; (case hq18 => rfl); (case Fq18 => k_asm); (case Nq18 => k_asm); (case mq18 => k_mem); k_whole); intro hz9 tkz9 Fz9 Nz9) | ((with_reducible show wpAny _ _ (exec (Stmt.For (Expr.Name ..) (Expr.Call ..) ..) _) _ _ _); (rename Fr _ _ _ _ => lFz9); (with_unfolding_all refine' For_turns lFz9 ?_; k_whole)) | ((with_reducible show wpAny _ _ (call (Value.builtin "sorted") [Value.ref _]) _ _ _); (k_dflt (refine' sorted_emp ?hq16 ?Fq16 ?Nq16 ?mq16 ?eq16 ?_; (case hq16 => rfl); (case Fq16 => k_asm); (case Nq16 => k_asm); (case mq16 => k_mem); (case eq16 => first | assumption | exact ⟨by assumption, by assumption, by assumption, by assumption, by assumption⟩); k_whole)); intro Bz9 cz9 hz9 tkz9 Fz9 Nz9 l1; (try k_lt l1)) | walk1 | (dsimp only; walk1) | (leave1; walk_say "STEP leave1"; (try dsimp only)) | fail "no step"))
      refine wpP_execs_cons (wpP_If (wpP_of ?_))
      k_fold
      k_steps
      refine wpP_execs_cons (wpP_Assign_Subscript (wpP_Call ?_))
      k_steps
      refine wpP_callWith_K X1 (by k_is) (wpP_of ?_)
      k_steps
      k_dflt (refine' world_ok ?B ?F ?X ?T ?hk ?N ?hd ?hu ?hb0 ?hb ?hP ?hr ?hz ?_; (case B => k_asm); (case F => k_asm); (case X => k_asm); (case T => k_asm); (case hk => first | rfl | assumption); (case N => k_asm); (case hd => first | exact r1 (by assumption) rfl | exact r2 (by assumption) rfl | exact r3 (by assumption) rfl | exact r0 (by assumption) | ktr_room); (case hu => first | exact r1 (by assumption) rfl | exact r2 (by assumption) rfl | exact r3 (by assumption) rfl | exact r0 (by assumption) | k_units); (case hb0 => assumption); (case hb => assumption); (case hP => exact hP0.sub (by intro p hp; repeat (first | exact hp | refine List.mem_cons_of_mem _ ?_))); (case hr => k_mem); (case hz => simp); k_whole)
      intro x dx rows told mem hn op add n1 n2 n3 h9 tk9 F9 N9 W9 r1 r2 r3 r4 fr9 ord9
      first
        | obtain ⟨R, odx, N8, hD8, fr8⟩ := fresh_of (wd := wd) (mid := [_]) N9 W9 r3 fr9 ord9 off
        | obtain ⟨R, odx, N8, hD8, fr8⟩ := fresh_of (wd := wd) (mid := [_, _]) N9 W9 r3 fr9 ord9 off
        | obtain ⟨R, odx, N8, hD8, fr8⟩ := fresh_of (wd := wd) (mid := [_, _, _]) N9 W9 r3 fr9 ord9 off
      clear N9 W9 fr9 r1 r2 r3 r4
      obtain ⟨_, _, _, _, _, _, _, _, _, _, _, _, _, _, _, _, rfl⟩ := hD8
      have o1 := fr8.off
      have o2 := fr8.offd
      have o3 := fr8.neW
      have k1' := fr8.sub _ k1
      have k2' := fr8.sub _ k2
      have k4' := fr8.sub _ k4
      have w1' := fr8.sub _ w1
      have w2' := fr8.sub _ w2
      have x1' := fr8.fx
      have hst' := hst (.ref x)
      clear k1 k2 k4 w1 w2
      k_steps
      refine wpP_of ?_
      k_fold
      (repeat' (first | (k_unfold; (try dsimp only)) | (k_end; wrow_close) | ((with_reducible show wpAny _ _ (setItem (Value.ref _) (Value.str _ _) _) _ _ _); k_dflt (refine' kda_set (knd := PySem.strKind _ _) ?Fq46 ?Nq46 ?Uq46 ?dq46 (strKind_is _ _ _ _) ?zq46 ?_; (case Fq46 => k_asm); (case Nq46 => k_asm); (case Uq46 => k_updF); (case dq46 => assumption); (case zq46 => assumption); k_whole); intro hz9 oz9 Fz9 Nz9 hdz9; (try dsimp only at Nz9)) | walk1 | (dsimp only; walk1) | (leave1; walk_say "STEP leave1"; (try dsimp only)) | fail "no step"))
      refine wpP_execs_nil ?_
      dsimp only
      refine wpP_of ?_
      k_fold
      (repeat' (first | (k_unfold; (try dsimp only)) | (k_end; wrow_close) | ((with_reducible show wpAny _ _ (getItem (Value.ref _) (Value.str _ _)) _ _ _); k_dflt (refine' kdt_getItem (knd := PySem.strKind _ _) ?Nq42 ?mq42 ?dq42 (strKind_is _ _ _ _) ?vq42 ?_; (case Nq42 => k_asm); (case mq42 => k_mem); (case dq42 => assumption); (case vq42 => assumption); k_whole)) | walk1 | (dsimp only; walk1) | (leave1; walk_say "STEP leave1"; (try dsimp only)) | fail "no step"))
      rename Fr _ _ _ _ => lF
      rename News _ _ _ _ => lN
      rename Obj.IsDictOf _ _ (stored _ _ _) => lD
      exact ret _ _ _ _ _ _ _ _ _ lF lN lD ⟨_, _, _, _, _, _, _, _, _, _, _, _, _, _, _, _, rfl⟩ fr8
theorem wf_new {w : World} {dp un : Nat} {gd : Option (List Code)} {cn : Str} {cs : Scope} {L a : Addr} {ccd : Value} {cl : List (Str × Addr)} {outer : List Env} {A₀ : Around} {base h₀ : Heap} {m : Str → Option Value} {s : Shared} {Q E : Value → Shared → Prop}
   {loose : List Str} {mean : ExcName → Option Value} {mg mb : Str → Option Value} {news : List (Addr × Obj)} {b : Array UInt8} {lb pd wd p ca cdx pc crows ctold cmem chn cop : Addr} {od : Obj} {pk kvs : List (Str × Value)} {nm : Str} {tn : Tok} {corow : Array UInt8} {ini : Bool}
   (B : Below A₀ base outer h₀) (F : Fr h₀ L s.heap m) (X : (K w.params).In h₀) (T : Top q loose mean mg mb h₀) (hk : cs.kind = .function) (N : News h₀ L s.heap ((wd, od) :: news)) (hd : dp + 60 < recursionLimit) (hu : un + 450 < cLine) (hb0 : 0 < b.size) (hb : b.size ≤ 5)
   (hL : LibAt w news lb pd wd pk) (hp : valueAt pk nm = some (.ref p)) (hP : ProgAt w news p b ini) (hod : od.IsDictOf (PySem.strKind pw w) kvs) (lo : (wd == sysModules) = false) (hkz : kvs.length ≤ sizeLine)
   (hv : valueAt kvs nm = none ∨ (ini = true ∧ ∃ y dy py ry ty my hy oy oo, valueAt kvs nm = some (.ref y) ∧ WorldAt w news y dy py (Str.ofString "shelf") ry ty my hy oy oo))
   (hst : ∀ v, valueAt (stored kvs nm v) nm = some v)
   (hC : WorldAt w news ca cdx pc (Str.ofString "shelf") crows ctold cmem chn cop corow) (off : ∀ q ∈ news, q.1 ≠ wd)
   (ret : ∀ x dx mem hn R od' odx' h' tk', Fr h₀ L h' m → News h₀ L h' ((wd, od') :: (dx, odx') :: R) → od'.IsDictOf (PySem.strKind pw w) (stored kvs nm (.ref x)) → DWorld w p (Str.ofString "shelf") crows ctold mem hn cop corow odx' → Fresh w news R wd x dx mem hn b → Q (.ref x) {s with heap := h', toks := tk'}) :
   wpP (model pw w) (ktrTop dp un gd cn cs L a ccd cl outer) (call (.ref 928) [.ref lb, .str nm tn, .ref ca]) Q E s := by
  exact clo (by with_unfolding_all rfl) wf_new_m (Bag.mk w gd cs ccd cl outer A₀ s loose mean bag0.qf bag0.qu (lk [un, L, a, lb, pd, wd, p, ca, cdx, pc, crows, ctold, cmem, chn, cop, tn] dp) (lk [nm] cn) (lk [h₀] base) (lk [mg, mb] m) (lk [] news) (lk [E] Q) bag0.i bag0.vs bag0.ns (lk [corow] b) ini (lk [] od) bag0.avs (lk [kvs] pk) bag0.nb bag0.nbool bag0.nn bag0.l bag0.kc bag0.nd bag0.u8 bag0.d bag0.ov) B F X T hk N hd hu hb0 hb hL hp hP hod lo hkz hv hst hC off ret

end
theorem flush_EX : True := by first | walk1 | exact trivial
section
open PySem PySem.W PySem.Calls PyProof.Rows PyProof.V PySem.Spec
/-- the tuples of the programs so far, in a ledger that has grown by newer objects -/
noncomputable def JA (w : World) (b : Nat → Array UInt8) (ini : Nat → Bool) (L0 : List (Addr × Obj)) (i : Nat) (ys : List Value) (nx : List (Addr × Obj)) : Prop :=
  ∃ AD : List (Addr × Obj), nx = AD ++ L0 ∧ (∀ p ∈ AD, ∀ q ∈ L0, @LT.lt Nat _ q.1 p.1) ∧ ys.length = i ∧ ∀ j, j < i → ∃ t p tk, ys[j]? = some (.ref t) ∧ (t, tupOf #[.str (Str.ofString (nmL.getD j "")) tk, .ref p]) ∈ AD ∧ ProgAt w AD p (b j) (ini j)
theorem prog_turn {w : World} {h₀ h' : Heap} {L : Addr} {m : Str → Option Value} {s₁ : Shared} {I C D t p : Addr} {oI oC : Obj} {ys : List Value} {AD add L0 : List (Addr × Obj)} {b : Nat → Array UInt8} {ini : Nat → Bool} {i : Nat} {nmv : Str} {tn : Tok} {tk : Nat}
    (F : Fr h₀ L h' m) (N : News h₀ L h' ((t, tupOf #[.str nmv tn, .ref p]) :: (add ++ ((I, oI) :: (C, oC) :: (D, LCg.lst ys) :: (AD ++ L0))))) (P : ProgAt w add p (b i) (ini i)) (fr : ∀ r ∈ add, ∀ q ∈ (I, oI) :: (C, oC) :: (D, LCg.lst ys) :: (AD ++ L0), @LT.lt Nat _ q.1 r.1)
    (ft : ∀ q ∈ add ++ ((I, oI) :: (C, oC) :: (D, LCg.lst ys) :: (AD ++ L0)), @LT.lt Nat _ q.1 t) (off : LCg.Off3 I C D (AD ++ L0)) (hn0 : ∀ p ∈ AD, ∀ q ∈ L0, @LT.lt Nat _ q.1 p.1) (hl : ys.length = i) (hK : ∀ j, j < i → ∃ t p tk, ys[j]? = some (.ref t) ∧ (t, tupOf #[.str (Str.ofString (nmL.getD j "")) tk, .ref p]) ∈ AD ∧ ProgAt w AD p (b j) (ini j)) (hn : nmv = Str.ofString (nmL.getD i "")) :
    LCg.CompEnd h₀ L m s₁ I oI C oC D (LCg.lst ys) (fun _ => True) (fun y nx' => JA w b ini L0 (i + 1) (ys ++ [y]) nx') (.ref t) { s₁ with heap := h', toks := tk } := by
  subst hn
  have e : ∀ q, q ∈ (I, oI) :: (C, oC) :: (D, LCg.lst ys) :: (AD ++ L0) → q ∈ add ++ ((I, oI) :: (C, oC) :: (D, LCg.lst ys) :: (AD ++ L0)) := fun q hq => List.mem_append_right _ hq
  have sub : ∀ q ∈ add ++ (AD ++ L0), q ∈ add ++ ((I, oI) :: (C, oC) :: (D, LCg.lst ys) :: (AD ++ L0)) := fun q hq => by
    rcases List.mem_append.mp hq with hq | hq
    · exact List.mem_append_left _ hq
    · exact e q (.tail _ (.tail _ (.tail _ hq)))
  refine LCg.CompEnd.intro F N ((t, tupOf #[.str (Str.ofString (nmL.getD i "")) tn, .ref p]) :: (add ++ (AD ++ L0))) (fun q hq => ?_) (LCg.Off3.of fun q hq => ?_) trivial ⟨(t, tupOf #[.str (Str.ofString (nmL.getD i "")) tn, .ref p]) :: (add ++ AD), by simp only [List.cons_append, List.append_assoc], fun q hq r hr => ?_, by rw [List.length_append, List.length_singleton, hl], fun j hj => ?_⟩
  · rcases List.mem_cons.mp hq with rfl | hq
    · exact .tail _ (e _ (.head _))
    rcases List.mem_cons.mp hq with rfl | hq
    · exact .tail _ (e _ (.tail _ (.head _)))
    rcases List.mem_cons.mp hq with rfl | hq
    · exact .tail _ (e _ (.tail _ (.tail _ (.head _))))
    rcases List.mem_cons.mp hq with rfl | hq
    · exact .head _
    · exact .tail _ (sub q hq)
  · rcases List.mem_cons.mp hq with rfl | hq
    · exact ⟨Nat.ne_of_gt (ft _ (e _ (.head _))), Nat.ne_of_gt (ft _ (e _ (.tail _ (.head _)))), Nat.ne_of_gt (ft _ (e _ (.tail _ (.tail _ (.head _)))))⟩
    rcases List.mem_append.mp hq with hq | hq
    · exact ⟨Nat.ne_of_gt (fr q hq _ (.head _)), Nat.ne_of_gt (fr q hq _ (.tail _ (.head _))), Nat.ne_of_gt (fr q hq _ (.tail _ (.tail _ (.head _))))⟩
    · exact off.mem q hq
  · rcases List.mem_cons.mp hq with rfl | hq
    · exact ft r (e _ (.tail _ (.tail _ (.tail _ (List.mem_append_right _ hr)))))
    rcases List.mem_append.mp hq with hq | hq
    · exact fr q hq r (.tail _ (.tail _ (.tail _ (List.mem_append_right _ hr))))
    · exact hn0 q hq r hr
  · by_cases hji : j < i
    · obtain ⟨t', p', tk', e1, e2, e3⟩ := hK j hji
      refine ⟨t', p', tk', ?_, .tail _ (List.mem_append_right _ e2), e3.sub fun q hq => .tail _ (List.mem_append_right _ hq)⟩
      rw [List.getElem?_append_left (by rw [hl]; exact hji)]
      exact e1
    · obtain rfl : j = i := by omega
      refine ⟨t, p, tn, ?_, .head _, P.sub fun q hq => .tail _ (List.mem_append_left _ hq)⟩
      rw [List.getElem?_append_right (by rw [hl]; exact Nat.le_refl _), hl, Nat.sub_self]
      rfl
theorem va_nm (v0 v1 v2 : Value) : (valueAt (accD [(Str.ofString "ONE", v0), (Str.ofString "Two", v1), (Str.ofString "THREE", v2)] 3) (Str.ofString (nmL.getD 0 "")) = some v0 ∧ valueAt (accD [(Str.ofString "ONE", v0), (Str.ofString "Two", v1), (Str.ofString "THREE", v2)] 3) (Str.ofString (nmL.getD 1 "")) = some v1) ∧ valueAt (accD [(Str.ofString "ONE", v0), (Str.ofString "Two", v1), (Str.ofString "THREE", v2)] 3) (Str.ofString (nmL.getD 2 "")) = some v2 := by
  refine ⟨⟨?_, ?_⟩, ?_⟩ <;> kernel_rfl
theorem list3 {l : List Value} {x y z : Value} (hl : l.length = 3) (h0 : l[0]? = some x) (h1 : l[1]? = some y) (h2 : l[2]? = some z) : l = [x, y, z] :=
  List.ext_getElem? fun i => match i with
    | 0 => h0
    | 1 => h1
    | 2 => h2
    | i + 3 => (List.getElem?_eq_none (hl ▸ Nat.le_add_left 3 i)).trans (List.getElem?_eq_none (Nat.le_add_left 3 i)).symm
/-- the dict of the three programs -/
theorem progs_dict {prog : Program} {w : World} {A : Around} {E : Value → Shared → Prop} {s : Shared} {h₀ : Heap} {L D : Addr} {m : Str → Option Value} {ys : List Value} {nx L0 : List (Addr × Obj)} {b : Nat → Array UInt8} {ini : Nat → Bool} {Q : Value → Shared → Prop}
    (F : Fr h₀ L s.heap m) (N : News h₀ L s.heap ((D, LCg.lst ys) :: nx)) (hbig : sysModules < h₀.objs.size) (hA : A.handled = none) (hJ : JA w b ini L0 3 ys nx)
    (k : ∀ d o pk AD h' tk', nx = AD ++ L0 → (∀ p ∈ AD, ∀ q ∈ L0, @LT.lt Nat _ q.1 p.1) → Fr h₀ L h' m → News h₀ L h' ((d, o) :: (D, LCg.lst ys) :: (AD ++ L0)) → o.IsDictOf (PySem.strKind prog w) pk → (∀ q ∈ (D, LCg.lst ys) :: (AD ++ L0), @LT.lt Nat _ q.1 d) → (∀ j, j < 3 → ∃ p, valueAt pk (Str.ofString (nmL.getD j "")) = some (.ref p) ∧ ProgAt w AD p (b j) (ini j)) → Q (.ref d) { s with heap := h', toks := tk' }) :
    wpAny (model prog w) A (call (.type "dict") [.ref D]) Q E s := by
  obtain ⟨AD, rfl, G, hl, hK⟩ := hJ
  obtain ⟨t0, p0, k0, a0, b0, c0⟩ := hK 0 (by omega)
  obtain ⟨t1, p1, k1, a1, b1, c1⟩ := hK 1 (by omega)
  obtain ⟨t2, p2, k2, a2, b2, c2⟩ := hK 2 (by omega)
  have hys : ys = [.ref t0, .ref t1, .ref t2] := list3 hl a0 a1 a2
  subst hys
  refine dict_pairs (ps := [(Str.ofString "ONE", .ref p0), (Str.ofString "Two", .ref p1), (Str.ofString "THREE", .ref p2)]) (ts := fun j => if j = 0 then t0 else if j = 1 then t1 else t2) (tk := fun j => if j = 0 then k0 else if j = 1 then k1 else k2) F N hbig hA (.head _) rfl (by simp only [List.length_cons, List.length_nil]; omega) (fun j hj => ?_) (fun j p hp => ?_) fun d o h' tk' F' N' _ hd lt => k d o _ AD h' tk' rfl G F' N' hd lt fun j hj => ?_
  · rcases (by simp only [List.length_cons, List.length_nil] at hj; omega : j = 0 ∨ j = 1 ∨ j = 2) with rfl | rfl | rfl <;> rfl
  · have hj := (List.getElem?_eq_some_iff.mp hp).1
    rcases (by simp only [List.length_cons, List.length_nil] at hj; omega : j = 0 ∨ j = 1 ∨ j = 2) with rfl | rfl | rfl
    · obtain rfl := Option.some.inj hp; exact .tail _ (List.mem_append_left _ b0)
    · obtain rfl := Option.some.inj hp; exact .tail _ (List.mem_append_left _ b1)
    · obtain rfl := Option.some.inj hp; exact .tail _ (List.mem_append_left _ b2)
  · rcases (by first | exact lt3 (by assumption) | omega : j = 0 ∨ j = 1 ∨ j = 2) with rfl | rfl | rfl
    · exact ⟨p0, (va_nm _ _ _).1.1, c0⟩
    · exact ⟨p1, (va_nm _ _ _).1.2, c1⟩
    · exact ⟨p2, (va_nm _ _ _).2, c2⟩
theorem jsub {AD L0 : List (Addr × Obj)} (_h : ∀ p ∈ AD, ∀ q ∈ L0, @LT.lt Nat _ q.1 p.1) : ∀ q ∈ L0, q ∈ AD ++ L0 := fun q hq => List.mem_append_right _ hq
noncomputable def restOf (front all : List (Addr × Obj)) : List (Addr × Obj) := all.filter fun p => decide (∀ q ∈ front, p.1 ≠ q.1)
theorem focusR {h₀ h : Heap} {L : Addr} {all : List (Addr × Obj)} (N : News h₀ L h all) (front : List (Addr × Obj)) (hf : ∀ p ∈ front, p ∈ all) : News h₀ L h (front ++ restOf front all) := focusL N front hf
theorem in_restR {front : List (Addr × Obj)} {p : Addr × Obj} {all : List (Addr × Obj)} (hp : p ∈ all) (ne : ∀ q ∈ front, p.1 ≠ q.1) : p ∈ restOf front all := in_rest hp ne
theorem of_restR {front : List (Addr × Obj)} {p : Addr × Obj} {all : List (Addr × Obj)} (hp : p ∈ restOf front all) : p ∈ all ∧ ∀ q ∈ front, p.1 ≠ q.1 := of_rest hp

end
theorem flush_EY : True := by first | walk1 | exact trivial
section
open PySem PySem.W PySem.Calls PyProof.Rows PyProof.V PySem.Spec
noncomputable abbrev nmS (k : Nat) : Str := Str.ofString (nmL.getD k "")
theorem nmS_inj : ∀ {j k : Nat}, j < 3 → k < 3 → nmS j = nmS k → j = k := by
  have key : ∀ j : Fin 3, ∀ k : Fin 3, nmS j = nmS k → j = k := by decide +kernel
  intro j k hj hk e
  exact congrArg Fin.val (key ⟨j, hj⟩ ⟨k, hk⟩ e)
theorem valueAt_stored_self {K : Type} [DecidableEq K] (kvs : List (K × Value)) (k : K) (v : Value) : valueAt (stored kvs k v) k = some v := by
  unfold stored
  split
  next h =>
    unfold valueAt
    induction kvs with
    | nil => simp at h
    | cons q r ih =>
      by_cases e : q.1 = k
      · simp [e]
      · have h' : (r.any fun kv => decide (kv.1 = k)) = true := by
          simpa [e] using h
        simpa [e] using ih h'
  next h =>
    unfold valueAt
    rw [List.find?_append]
    have : List.find? (fun kv => decide (kv.1 = k)) kvs = none := by
      rw [List.find?_eq_none]
      intro q hq e
      exact h (List.any_eq_true.mpr ⟨q, hq, e⟩)
    simp [this]
theorem valueAt_stored_ne {K : Type} [DecidableEq K] (kvs : List (K × Value)) {k k' : K} (v : Value) (ne : k' ≠ k) : valueAt (stored kvs k v) k' = valueAt kvs k' := by
  unfold stored
  split
  next h =>
    clear h
    unfold valueAt
    induction kvs with
    | nil => rfl
    | cons q r ih =>
      by_cases e : q.1 = k
      · have e' : ¬ q.1 = k' := fun x => ne (x.symm.trans e)
        simpa [e, e', Ne.symm ne] using ih
      · by_cases e' : q.1 = k'
        · simp [e', ne]
        · simpa [e, e'] using ih
  next h =>
    unfold valueAt
    rw [List.find?_append]
    cases hf : List.find? (fun kv => decide (kv.1 = k')) kvs with
    | some q => simp
    | none => simp [Ne.symm ne]
theorem ne_cls {h₀ h : Heap} {L : Addr} {all : List (Addr × Obj)} (N : News h₀ L h all) {a d : Addr} {o o' : Obj} (x : (a, o) ∈ all) (y : (d, o') ∈ all) (hc : o.cls ≠ o'.cls) : a ≠ d := by
  rintro rfl
  exact hc (by rw [News.same N x y])
theorem ne_data {h₀ h : Heap} {L : Addr} {all : List (Addr × Obj)} (N : News h₀ L h all) {a d : Addr} {o o' : Obj} (x : (a, o) ∈ all) (y : (d, o') ∈ all) (hc : o.data ≠ o'.data) : a ≠ d := by
  rintro rfl
  exact hc (by rw [News.same N x y])
/-- what law hands in -/
structure ArgsAt (nx : List (Addr × Obj)) (rl kl : Addr) (b : Nat → Array UInt8) (ini : Nat → Bool) (r : Nat → Addr) (ks : List Addr) (kc : List (Nat × UInt8)) : Prop where
  rs : ∃ n rws, (rl, listOf rws n) ∈ nx ∧ rws.size = 3 ∧ ∀ k, k < 3 → rws.toList[k]? = some (.ref (r k))
  rk : ∀ k, k < 3 → ∃ tb, (r k, tupOf #[.bytes (b k) tb, .bool (ini k)]) ∈ nx
  kl : ∃ n, (kl, listOf (ks.map Value.ref).toArray n) ∈ nx
  kt : ∀ (i k : Nat) (c : UInt8), kc[i]? = some (k, c) → k < 3 ∧ ∃ a t t', ks[i]? = some a ∧ (a, tupOf #[.int ((k : Nat) : Int) t, .int ((UInt8.toNat c : Nat) : Int) t']) ∈ nx
  kn : ks.length = kc.length
  kz : kc.length ≤ 9
theorem ArgsAt.sub {nx nx' : List (Addr × Obj)} {rl kl : Addr} {b : Nat → Array UInt8} {ini : Nat → Bool} {r : Nat → Addr} {ks : List Addr} {kc : List (Nat × UInt8)} (x : ArgsAt nx rl kl b ini r ks kc) (h : ∀ p ∈ nx, p ∈ nx') : ArgsAt nx' rl kl b ini r ks kc := by
  obtain ⟨⟨n, rws, a1, a2, a3⟩, b1, ⟨n2, c1⟩, d1, e1, f1⟩ := x
  refine ⟨⟨n, rws, h _ a1, a2, a3⟩, fun k hk => ?_, ⟨n2, h _ c1⟩, fun i k c hi => ?_, e1, f1⟩
  · obtain ⟨tb, x⟩ := b1 k hk; exact ⟨tb, h _ x⟩
  · obtain ⟨x, a, t, t', y, z⟩ := d1 i k c hi; exact ⟨x, a, t, t', y, h _ z⟩
/-- what stands as it is all run long -/
structure StatR (w : World) (R : List (Addr × Obj)) (Lc pd nl rl kl : Addr) (b : Nat → Array UInt8) (ini : Nat → Bool) (r : Nat → Addr) (ks : List Addr) (kc : List (Nat × UInt8)) (pk : List (Str × Value)) : Prop where
  pdm : ∃ opd, (pd, opd) ∈ R ∧ opd.IsDictOf (PySem.strKind pw w) pk
  pv : ∀ k, k < 3 → ∃ p, valueAt pk (nmS k) = some (.ref p) ∧ ProgAt w R p (b k) (ini k)
  nm : ∃ n nms, (nl, listOf nms n) ∈ R ∧ ∀ k, k < 3 → ∃ t, nms.toList[k]? = some (.str (nmS k) t)
  cn : ∃ o, (Lc + 1 + 1, o) ∈ R ∧ o.data = .cell (some (.ref nl))
  cr : ∃ o, (Lc + 1, o) ∈ R ∧ o.data = .cell (some (.ref rl))
  ar : ArgsAt R rl kl b ini r ks kc
theorem StatR.sub {w : World} {R R' : List (Addr × Obj)} {Lc pd nl rl kl : Addr} {b : Nat → Array UInt8} {ini : Nat → Bool} {r : Nat → Addr} {ks : List Addr} {kc : List (Nat × UInt8)} {pk : List (Str × Value)} (x : StatR w R Lc pd nl rl kl b ini r ks kc pk) (h : ∀ p ∈ R, p ∈ R') : StatR w R' Lc pd nl rl kl b ini r ks kc pk := by
  obtain ⟨⟨o1, a1, a2⟩, b1, ⟨n, nms, c1, c2⟩, ⟨o2, d1, d2⟩, ⟨o3, e1, e2⟩, f⟩ := x
  refine ⟨⟨o1, h _ a1, a2⟩, fun k hk => ?_, ⟨n, nms, h _ c1, c2⟩, ⟨o2, h _ d1, d2⟩, ⟨o3, h _ e1, e2⟩, f.sub h⟩
  obtain ⟨p, x, y⟩ := b1 k hk
  exact ⟨p, x, y.sub h⟩
/-- the lap's own part that stands as it is -/
structure LapR (w : World) (R : List (Addr × Obj)) (Lc pd nl rl kl : Addr) (b : Nat → Array UInt8) (ini : Nat → Bool) (r : Nat → Addr) (ks : List Addr) (kc : List (Nat × UInt8)) (pk : List (Str × Value))
    (lb wd ca cdx pc crows tl cmem chn cop sl wl : Addr) : Prop where
  st : StatR w R Lc pd nl rl kl b ini r ks kc pk
  lib : ∃ ld oL, (lb, instObj 917 ld) ∈ R ∧ (ld, oL) ∈ R ∧ DLib w pd wd oL
  ca : (ca, instObj 806 cdx) ∈ R
  chn : ∃ o, (chn, o) ∈ R ∧ Emp w chn o
  rows : ∃ n t, (crows, listOf #[.bytes #[105, 110] t] n) ∈ R
  nmod : (wd == sysModules) = false
  off : ∀ p ∈ R, p.1 ≠ wd ∧ p.1 ≠ cdx ∧ p.1 ≠ sl ∧ p.1 ≠ tl ∧ p.1 ≠ wl ∧ p.1 ≠ Lc + 1 + 1 + 1 ∧ p.1 ≠ Lc + 1 + 1 + 1 + 1
  ap : wd ≠ cdx ∧ sl ≠ tl ∧ sl ≠ wl ∧ tl ≠ wl
/-- a world that is known -/
structure WAt (w : World) (nx R : List (Addr × Obj)) (Lc wd cdx sl tl wl p crows cop : Addr) (d : WD) : Prop where
  fx : (d.x, instObj 806 d.dx) ∈ nx
  fd : ∃ odx o, (d.dx, odx) ∈ nx ∧ DWorld w p (Str.ofString "shelf") crows tl d.mem d.hn cop o odx
  fh : ∃ ohn, (d.hn, ohn) ∈ nx ∧ Emp w d.hn ohn
  fm : ∃ om, (d.mem, baOf om) ∈ nx
  o1 : @LT.lt Nat _ d.dx d.x
  o2 : @LT.lt Nat _ d.x d.mem
  o3 : @LT.lt Nat _ d.mem d.hn
  lo : ∀ p ∈ R, @LT.lt Nat _ p.1 d.dx
  lf : @LT.lt Nat _ wd d.dx ∧ @LT.lt Nat _ cdx d.dx ∧ @LT.lt Nat _ sl d.dx ∧ @LT.lt Nat _ tl d.dx ∧ @LT.lt Nat _ wl d.dx ∧ @LT.lt Nat _ (Lc + 1 + 1 + 1 + 1) d.dx
/-- what holds ahead of the i-th call -/
structure TurnI (w : World) (R nx : List (Addr × Obj)) (Lc : Addr) (b : Nat → Array UInt8) (ini : Nat → Bool) (kc : List (Nat × UInt8)) (pk : List (Str × Value)) (wd cdx pc crows tl cmem chn cop sl wl : Addr)
    (i : Nat) (kvs : List (Str × Value)) (st : Nat → Array UInt8) (X : Nat → Option WD) (xs ts : List Addr) (orow : Array UInt8) : Prop where
  sub : ∀ p ∈ R, p ∈ nx
  kv : ∃ od, (wd, od) ∈ nx ∧ od.IsDictOf (PySem.strKind pw w) kvs
  cd : ∃ oc, (cdx, oc) ∈ nx ∧ DWorld w pc (Str.ofString "shelf") crows tl cmem chn cop orow oc
  ss : ∃ n sts, (sl, listOf sts n) ∈ nx ∧ sts.size = 3 ∧ ∀ k, k < 3 → ∃ t, sts.toList[k]? = some (.bytes (st k) t)
  sz : ∀ k, k < 3 → (st k).size = (b k).size
  tt : ∃ n vs, (tl, listOf vs n) ∈ nx ∧ vs.size = i ∧ ∀ (j k : Nat) (c : UInt8), j < i → kc[j]? = some (k, c) → ∃ t, vs.toList[j]? = some (.bytes (Array.replicate (b k).size c) t)
  ww : ∃ n, (wl, listOf (ts.map Value.ref).toArray n) ∈ nx
  tn : ts.length = i
  xn : xs.length = i
  wt : ∀ (j k : Nat) (c : UInt8), j < i → kc[j]? = some (k, c) → ∃ t a x dx, ts[j]? = some a ∧ xs[j]? = some x ∧ (a, tupOf #[.int ((k : Nat) : Int) t, .ref x]) ∈ nx ∧ (x, instObj 806 dx) ∈ nx
  ac : ∃ o v, (Lc + 1 + 1 + 1, o) ∈ nx ∧ o.data = .cell v
  wc : ∃ o v, (Lc + 1 + 1 + 1 + 1, o) ∈ nx ∧ o.data = .cell v
  wk : ∀ k, k < 3 → (X k = none → valueAt kvs (nmS k) = none ∧ (ini k = false → st k = b k)) ∧ ∀ d, X k = some d → valueAt kvs (nmS k) = some (.ref d.x) ∧ (∃ p, valueAt pk (nmS k) = some (.ref p) ∧ WAt w nx R Lc wd cdx sl tl wl p crows cop d) ∧ (ini k = false → (d.mem, baOf (st k)) ∈ nx)
  sep : ∀ k k' d d', k < 3 → k' < 3 → k ≠ k' → X k = some d → X k' = some d' → @LT.lt Nat _ d.hn d'.dx ∨ @LT.lt Nat _ d'.hn d.dx
  hi : ∀ (j k : Nat) (c : UInt8) (x : Addr), j < i → kc[j]? = some (k, c) → xs[j]? = some x → ∀ k', k' < 3 → ini k' = false → (k = k' ↔ ∃ d, X k' = some d ∧ d.x = x)

end
theorem flush_EZ : True := by first | walk1 | exact trivial
section
open PySem PySem.W PySem.Calls PyProof.Rows PyProof.V PySem.Spec
theorem WAt.keep {w : World} {nx nx' R : List (Addr × Obj)} {Lc wd cdx sl tl wl p crows cop : Addr} {d : WD} (y : WAt w nx R Lc wd cdx sl tl wl p crows cop d) (k : ∀ q ∈ nx, q.1 = d.x ∨ q.1 = d.dx ∨ q.1 = d.mem ∨ q.1 = d.hn → q ∈ nx') : WAt w nx' R Lc wd cdx sl tl wl p crows cop d := by
  obtain ⟨a, ⟨odx, o, b, b'⟩, ⟨oh, c, c'⟩, ⟨om, e⟩, o1, o2, o3, lo, lf⟩ := y
  exact ⟨k _ a (.inl rfl), ⟨odx, o, k _ b (.inr (.inl rfl)), b'⟩, ⟨oh, k _ c (.inr (.inr (.inr rfl))), c'⟩, ⟨om, k _ e (.inr (.inr (.inl rfl)))⟩, o1, o2, o3, lo, lf⟩
/-- what holds when the called program's world has been found -/
structure AfterW (w : World) (R nx nx' : List (Addr × Obj)) (Lc : Addr) (b : Nat → Array UInt8) (ini : Nat → Bool) (kc : List (Nat × UInt8)) (pk : List (Str × Value)) (wd cdx pc crows tl cmem chn cop sl wl : Addr)
    (i : Nat) (kvs kvs' : List (Str × Value)) (st : Nat → Array UInt8) (X X' : Nat → Option WD) (xs ts : List Addr) (orow : Array UInt8) (k : Nat) (d : WD) (p : Addr) : Prop where
  turn : TurnI w R nx' Lc b ini kc pk wd cdx pc crows tl cmem chn cop sl wl i kvs' st X' xs ts orow
  kl : kvs'.length ≤ kvs.length + 1
  hX : X' k = some d
  hp : valueAt pk (nmS k) = some (.ref p)
  wat : WAt w nx' R Lc wd cdx sl tl wl p crows cop d
  fd : ∃ odx, (d.dx, odx) ∈ nx' ∧ DWorld w p (Str.ofString "shelf") crows tl d.mem d.hn cop orow odx
  fm : (d.mem, baOf (if ini k = true then b k else st k)) ∈ nx'
  wx : ∀ (j kj : Nat) (c : UInt8) (x : Addr), j < i → kc[j]? = some (kj, c) → xs[j]? = some x → (x = d.x ↔ ini k = false ∧ kj = k)
  keep : ∀ q ∈ nx, q.1 ≠ wd → (∀ d0, X k = some d0 → q.1 ≠ d0.dx) → q ∈ nx'
  new : ∀ q ∈ nx', (∃ o, (q.1, o) ∈ nx) ∨ ∀ r ∈ nx, @LT.lt Nat _ r.1 q.1
noncomputable def wf_turn_P (w : World) (dp : Nat) (un : Nat) (gd : Option (List Code)) (cn : Str) (cs : Scope) (L : Addr) (a : Addr) (ccd : Value) (cl : List (Str × Addr)) (outer : List Env) (A₀ : Around) (base : Heap) (h₀ : Heap) (m : Str → Option Value) (s : Shared) (Q : Value → Shared → Prop) (E : Value → Shared → Prop) (loose : List Str) (mean : ExcName → Option Value) (mg : Str → Option Value) (mb : Str → Option Value) (R : List (Addr × Obj)) (nx : List (Addr × Obj)) (Lc : Addr) (pd : Addr) (nl : Addr) (rl : Addr) (kl : Addr) (b : Nat → Array UInt8) (ini : Nat → Bool) (r : Nat → Addr) (ks : List Addr) (kc : List (Nat × UInt8)) (pk : List (Str × Value)) (lb : Addr) (wd : Addr) (ca : Addr) (cdx : Addr) (pc : Addr) (crows : Addr) (tl : Addr) (cmem : Addr) (chn : Addr) (cop : Addr) (sl : Addr) (wl : Addr) (i : Nat) (kvs : List (Str × Value)) (st : Nat → Array UInt8) (X : Nat → Option WD) (xs : List Addr) (ts : List Addr) (orow : Array UInt8) (k : Nat) (tn : Tok) : Prop := ∀ (B : Below A₀ base outer h₀) (F : Fr h₀ L s.heap m) (XK : (K w.params).In h₀) (T : Top q loose mean mg mb h₀) (hk : cs.kind = .function) (N : News h₀ L s.heap nx) (hd : dp + 60 < recursionLimit) (hu : un + 450 < cLine) (LR : LapR w R Lc pd nl rl kl b ini r ks kc pk lb wd ca cdx pc crows tl cmem chn cop sl wl) (TI : TurnI w R nx Lc b ini kc pk wd cdx pc crows tl cmem chn cop sl wl i kvs st X xs ts orow) (hz : kvs.length ≤ 100) (h3 : k < 3) (hb : ∀ k, k < 3 → 0 < (b k).size ∧ (b k).size ≤ 5) (ret : ∀ nx' kvs' X' d p h' tk', Fr h₀ L h' m → News h₀ L h' nx' → AfterW w R nx nx' Lc b ini kc pk wd cdx pc crows tl cmem chn cop sl wl i kvs kvs' st X X' xs ts orow k d p → Q (.ref d.x) {s with heap := h', toks := tk'}), wpP (model pw w) (ktrTop dp un gd cn cs L a ccd cl outer) (call (.ref 928) [.ref lb, .str (nmS k) tn, .ref ca]) Q E s
noncomputable def wf_turn_S (c : Bag) : Prop := wf_turn_P c.w (c.n 0) (c.n 1) c.gd (c.str 0) c.cs (c.n 2) (c.n 3) c.v c.cl c.outer c.ar (c.heap 0) (c.heap 1) (c.m 0) c.s (c.q 0) (c.q 1) c.loose c.mean (c.m 1) (c.m 2) (c.news 0) (c.news 1) (c.n 4) (c.n 5) (c.n 6) (c.n 7) (c.n 8) (c.nb 0) c.nbool c.nn (c.l 0) c.kc (c.kvs 0) (c.n 9) (c.n 10) (c.n 11) (c.n 12) (c.n 13) (c.n 14) (c.n 15) (c.n 16) (c.n 17) (c.n 18) (c.n 19) (c.n 20) (c.n 21) (c.kvs 1) (c.nb 1) c.nd (c.l 1) (c.l 2) (c.b 0) (c.n 22) (c.n 23)
@[irreducible] noncomputable def wf_turn_c : Bag := pick wf_turn_S
theorem wf_turn_m : wf_turn_S wf_turn_c := by
  refine (?zz9 : ∀ (w : World) (dp : Nat) (un : Nat) (gd : Option (List Code)) (cn : Str) (cs : Scope) (L : Addr) (a : Addr) (ccd : Value) (cl : List (Str × Addr)) (outer : List Env) (A₀ : Around) (base : Heap) (h₀ : Heap) (m : Str → Option Value) (s : Shared) (Q : Value → Shared → Prop) (E : Value → Shared → Prop) (loose : List Str) (mean : ExcName → Option Value) (mg : Str → Option Value) (mb : Str → Option Value) (R : List (Addr × Obj)) (nx : List (Addr × Obj)) (Lc : Addr) (pd : Addr) (nl : Addr) (rl : Addr) (kl : Addr) (b : Nat → Array UInt8) (ini : Nat → Bool) (r : Nat → Addr) (ks : List Addr) (kc : List (Nat × UInt8)) (pk : List (Str × Value)) (lb : Addr) (wd : Addr) (ca : Addr) (cdx : Addr) (pc : Addr) (crows : Addr) (tl : Addr) (cmem : Addr) (chn : Addr) (cop : Addr) (sl : Addr) (wl : Addr) (i : Nat) (kvs : List (Str × Value)) (st : Nat → Array UInt8) (X : Nat → Option WD) (xs : List Addr) (ts : List Addr) (orow : Array UInt8) (k : Nat) (tn : Tok), wf_turn_P w dp un gd cn cs L a ccd cl outer A₀ base h₀ m s Q E loose mean mg mb R nx Lc pd nl rl kl b ini r ks kc pk lb wd ca cdx pc crows tl cmem chn cop sl wl i kvs st X xs ts orow k tn) wf_turn_c.w (wf_turn_c.n 0) (wf_turn_c.n 1) wf_turn_c.gd (wf_turn_c.str 0) wf_turn_c.cs (wf_turn_c.n 2) (wf_turn_c.n 3) wf_turn_c.v wf_turn_c.cl wf_turn_c.outer wf_turn_c.ar (wf_turn_c.heap 0) (wf_turn_c.heap 1) (wf_turn_c.m 0) wf_turn_c.s (wf_turn_c.q 0) (wf_turn_c.q 1) wf_turn_c.loose wf_turn_c.mean (wf_turn_c.m 1) (wf_turn_c.m 2) (wf_turn_c.news 0) (wf_turn_c.news 1) (wf_turn_c.n 4) (wf_turn_c.n 5) (wf_turn_c.n 6) (wf_turn_c.n 7) (wf_turn_c.n 8) (wf_turn_c.nb 0) wf_turn_c.nbool wf_turn_c.nn (wf_turn_c.l 0) wf_turn_c.kc (wf_turn_c.kvs 0) (wf_turn_c.n 9) (wf_turn_c.n 10) (wf_turn_c.n 11) (wf_turn_c.n 12) (wf_turn_c.n 13) (wf_turn_c.n 14) (wf_turn_c.n 15) (wf_turn_c.n 16) (wf_turn_c.n 17) (wf_turn_c.n 18) (wf_turn_c.n 19) (wf_turn_c.n 20) (wf_turn_c.n 21) (wf_turn_c.kvs 1) (wf_turn_c.nb 1) wf_turn_c.nd (wf_turn_c.l 1) (wf_turn_c.l 2) (wf_turn_c.b 0) (wf_turn_c.n 22) (wf_turn_c.n 23)
  intro w dp un gd cn cs L a ccd cl outer A₀ base h₀ m s Q E loose mean mg mb R nx Lc pd nl rl kl b ini r ks kc pk lb wd ca cdx pc crows tl cmem chn cop sl wl i kvs st X xs ts orow k tn B F XK T hk N hd hu LR TI hz h3 hb ret
  obtain ⟨ld, oL, l1, l2, l3⟩ := LR.lib
  obtain ⟨opd, m1, m2⟩ := LR.st.pdm
  obtain ⟨p, hp, hP⟩ := LR.st.pv k h3
  obtain ⟨oh, n1, n2⟩ := LR.chn
  obtain ⟨od, v1, v2⟩ := TI.kv
  obtain ⟨oc, c1, c2⟩ := TI.cd
  obtain ⟨q1, q2⟩ := TI.wk k h3
  by_cases hcase : ini k = false ∧ (X k).isSome = true
  · obtain ⟨hini, hs⟩ := hcase
    obtain ⟨d, hX⟩ := Option.isSome_iff_exists.mp hs
    obtain ⟨hv, ⟨p', hp', W⟩, hmm⟩ := q2 d hX
    obtain rfl : p' = p := by
      have := hp'.symm.trans hp
      exact Value.ref.inj (Option.some.inj this)
    obtain ⟨odx, o, e1, e2⟩ := W.fd
    have hmm := hmm hini
    have lx : @LT.lt Nat _ d.dx d.mem := Nat.lt_trans W.o1 W.o2
    have lh : @LT.lt Nat _ d.dx d.hn := Nat.lt_trans lx W.o3
    have inR : ∀ q ∈ nx, q.1 ≠ wd → q.1 ≠ d.dx → q ∈ restOf [(wd, od), (d.dx, odx)] nx := fun q hq a b => in_restR hq fun r hr => by
      rcases List.mem_cons.mp hr with rfl | hr
      · exact a
      · rw [List.mem_singleton.mp hr]; exact b
    have RR : ∀ q ∈ R, q ∈ restOf [(wd, od), (d.dx, odx)] nx := fun q hq => inR q (TI.sub q hq) (LR.off q hq).1 (Nat.ne_of_lt (W.lo q hq))
    have dw : d.dx ≠ wd := Nat.ne_of_gt W.lf.1
    have N' := focusR N [(wd, od), (d.dx, odx)] (by
      intro q hq
      rcases List.mem_cons.mp hq with rfl | hq
      · exact v1
      · rw [List.mem_singleton.mp hq]; exact e1)
    have ofR : ∀ q ∈ restOf [(wd, od), (d.dx, odx)] nx, q ∈ nx ∧ q.1 ≠ wd ∧ q.1 ≠ d.dx := fun q hq => ⟨(of_restR hq).1, (of_restR hq).2 _ (.head _), (of_restR hq).2 _ (.tail _ (.head _))⟩
    generalize restOf [(wd, od), (d.dx, odx)] nx = R2 at *
    refine wpP_of (wf_old (p := p') (x := d.x) (dx := d.dx) (mem := d.mem) (hn := d.hn) (b := b k) B F XK T hk N' (by omega) (by omega) ⟨ld, oL, opd, RR _ l1, RR _ l2, l3, RR _ m1, m2⟩ hp (by rw [hini] at hP; exact hP.sub RR) v2 LR.nmod hv ⟨RR _ LR.ca, ⟨oc, inR _ c1 (Ne.symm LR.ap.1) (Nat.ne_of_lt W.lf.2.1), c2⟩, oh, RR _ n1, n2⟩ (inR _ W.fx (Nat.ne_of_gt (Nat.lt_trans W.lf.1 W.o1)) (Nat.ne_of_gt W.o1)) e2 dw (fun q hq => (ofR q hq).2.1) (fun q hq => (ofR q hq).2.2) fun odx' h' tk' F' N2 hdx' => ?_)
    have sub : ∀ q ∈ nx, q.1 ≠ d.dx → q ∈ (wd, od) :: (d.dx, odx') :: R2 := fun q hq a => by
      by_cases hw : q.1 = wd
      · have : q = (wd, od) := by
          obtain ⟨qa, qo⟩ := q
          obtain rfl : qa = wd := hw
          rw [News.same N hq v1]
        rw [this]; exact .head _
      · exact .tail _ (.tail _ (inR q hq hw a))
    have W' : WAt w ((wd, od) :: (d.dx, odx') :: R2) R Lc wd cdx sl tl wl p' crows cop d := by
      obtain ⟨ohn, g1, g2⟩ := W.fh
      exact ⟨sub _ W.fx (Nat.ne_of_gt W.o1), ⟨odx', orow, .tail _ (.head _), hdx'⟩, ⟨ohn, sub _ g1 (Nat.ne_of_gt lh), g2⟩, ⟨_, sub _ hmm (Nat.ne_of_gt lx)⟩, W.o1, W.o2, W.o3, W.lo, W.lf⟩
    refine ret _ kvs X d p' h' tk' F' N2 ⟨?_, Nat.le_succ _, hX, hp, W', ⟨odx', .tail _ (.head _), hdx'⟩, ?_, ?_, ?_, ?_⟩
    · obtain ⟨n3, sts, s1, s2, s3⟩ := TI.ss
      obtain ⟨n4, vs, t1, t2, t3⟩ := TI.tt
      obtain ⟨n5, u1⟩ := TI.ww
      obtain ⟨oa, va, a1, a2⟩ := TI.ac
      obtain ⟨ow, vw, w1, w2⟩ := TI.wc
      have hwin : ∀ (z : Addr) (dz : Addr), (z, instObj 806 dz) ∈ nx → z ≠ d.dx := fun z dz hz e => by
        subst e
        have := News.same N hz e1
        obtain ⟨_, _, _, _, _, _, _, _, _, _, _, _, _, _, _, _, rfl⟩ := e2
        exact absurd (congrArg Obj.cls this) (by simp [instObj, dictOf])
      have htup : ∀ (z : Addr) (vs : Array Value), (z, tupOf vs) ∈ nx → z ≠ d.dx := fun z vs hz e => by
        subst e
        have := News.same N hz e1
        obtain ⟨_, _, _, _, _, _, _, _, _, _, _, _, _, _, _, _, rfl⟩ := e2
        exact absurd (congrArg Obj.cls this) (by simp [dictOf])
      refine ⟨fun q hq => .tail _ (.tail _ (RR q hq)), ⟨od, .head _, v2⟩, ⟨oc, sub _ c1 (Nat.ne_of_lt W.lf.2.1), c2⟩, ⟨n3, sts, sub _ s1 (Nat.ne_of_lt W.lf.2.2.1), s2, s3⟩, TI.sz, ⟨n4, vs, sub _ t1 (Nat.ne_of_lt W.lf.2.2.2.1), t2, t3⟩, ⟨n5, sub _ u1 (Nat.ne_of_lt W.lf.2.2.2.2.1)⟩, TI.tn, TI.xn, ?_, ⟨oa, va, sub _ a1 (Nat.ne_of_lt (Nat.lt_trans (Nat.lt_succ_self _) W.lf.2.2.2.2.2)), a2⟩, ⟨ow, vw, sub _ w1 (Nat.ne_of_lt W.lf.2.2.2.2.2), w2⟩, ?_, TI.sep, TI.hi⟩
      · intro j kj c hj hkc
        obtain ⟨t, a, x, dx, z1, z2, z3, z4⟩ := TI.wt j kj c hj hkc
        exact ⟨t, a, x, dx, z1, z2, sub _ z3 (htup _ _ z3), sub _ z4 (hwin _ _ z4)⟩
      · intro k' hk'
        refine ⟨fun hn => (TI.wk k' hk').1 hn, fun d' hd' => ?_⟩
        by_cases hkk : k' = k
        · subst hkk
          obtain rfl : d' = d := Option.some.inj (hd'.symm.trans hX)
          exact ⟨hv, ⟨p', hp, W'⟩, fun _ => sub _ hmm (Nat.ne_of_gt lx)⟩
        · obtain ⟨y1, ⟨p2, y2, y3⟩, y4⟩ := (TI.wk k' hk').2 d' hd'
          have lx' : @LT.lt Nat _ d'.dx d'.mem := Nat.lt_trans y3.o1 y3.o2
          have lh' : @LT.lt Nat _ d'.dx d'.hn := Nat.lt_trans lx' y3.o3
          have far : ∀ z, @LE.le Nat _ d'.dx z → @LE.le Nat _ z d'.hn → z ≠ d.dx := fun z h1 h2 e => by
            subst e
            rcases TI.sep k' k d' d hk' h3 hkk hd' hX with h | h
            · exact absurd (Nat.lt_of_le_of_lt h2 h) (Nat.lt_irrefl _)
            · exact absurd (Nat.lt_trans h (Nat.lt_of_le_of_lt h1 lh)) (Nat.lt_irrefl _)
          have o1 := y3.o1; have o2 := y3.o2; have o3 := y3.o3
          refine ⟨y1, ⟨p2, y2, y3.keep fun q hq hh => sub q hq ?_⟩, fun hi => sub _ (y4 hi) (far _ (Nat.le_of_lt lx') (Nat.le_of_lt o3))⟩
          rcases hh with hh | hh | hh | hh <;> rw [hh]
          · exact far _ (Nat.le_of_lt o1) (Nat.le_of_lt (Nat.lt_trans o2 o3))
          · exact far _ (Nat.le_refl _) (Nat.le_of_lt lh')
          · exact far _ (Nat.le_of_lt lx') (Nat.le_of_lt o3)
          · exact far _ (Nat.le_of_lt lh') (Nat.le_refl _)
    · rw [if_neg (by rw [hini]; decide)]
      exact sub _ hmm (Nat.ne_of_gt lx)
    · intro j kj c x hj hkc hx
      rw [show (ini k = false ∧ kj = k) ↔ kj = k from ⟨fun h => h.2, fun h => ⟨hini, h⟩⟩, TI.hi j kj c x hj hkc hx k h3 hini]
      exact ⟨fun e => ⟨d, hX, e.symm⟩, fun ⟨d', e1, e2⟩ => by rw [← e2, Option.some.inj (e1.symm.trans hX)]⟩
    · intro q hq _ h2
      exact sub q hq (h2 d hX)
    · intro q hq
      refine .inl ?_
      rcases List.mem_cons.mp hq with rfl | hq
      · exact ⟨_, v1⟩
      rcases List.mem_cons.mp hq with rfl | hq
      · exact ⟨_, e1⟩
      · exact ⟨_, (ofR q hq).1⟩
  · have inR : ∀ q ∈ nx, q.1 ≠ wd → q ∈ restOf [(wd, od)] nx := fun q hq a => in_restR hq fun r hr => by
      rw [List.mem_singleton.mp hr]; exact a
    have RR : ∀ q ∈ R, q ∈ restOf [(wd, od)] nx := fun q hq => inR q (TI.sub q hq) (LR.off q hq).1
    have N' := focusR N [(wd, od)] (by
      intro q hq
      rw [List.mem_singleton.mp hq]; exact v1)
    have ofR : ∀ q ∈ restOf [(wd, od)] nx, q ∈ nx ∧ q.1 ≠ wd := fun q hq => ⟨(of_restR hq).1, (of_restR hq).2 _ (.head _)⟩
    generalize restOf [(wd, od)] nx = R2 at *
    have hv : valueAt kvs (nmS k) = none ∨ (ini k = true ∧ ∃ y dy py ry ty my hy oy oo, valueAt kvs (nmS k) = some (.ref y) ∧ WorldAt w R2 y dy py (Str.ofString "shelf") ry ty my hy oy oo) := by
      cases hX : X k with
      | none => exact .inl (q1 hX).1
      | some d =>
        have hi : ini k = true := by
          cases hik : ini k with
          | true => rfl
          | false => exact absurd ⟨hik, by rw [hX]; rfl⟩ hcase
        obtain ⟨y1, ⟨p2, y2, y3⟩, y4⟩ := q2 d hX
        obtain ⟨odx, o, e1, e2⟩ := y3.fd
        obtain ⟨ohn, g1, g2⟩ := y3.fh
        have lw : ∀ z, @LE.le Nat _ d.dx z → z ≠ wd := fun z hz => Nat.ne_of_gt (Nat.lt_of_lt_of_le y3.lf.1 hz)
        exact .inr ⟨hi, d.x, d.dx, p2, crows, tl, d.mem, d.hn, cop, o, y1, inR _ y3.fx (lw _ (Nat.le_of_lt y3.o1)), ⟨odx, inR _ e1 (lw _ (Nat.le_refl _)), e2⟩, ohn, inR _ g1 (lw _ (Nat.le_of_lt (Nat.lt_trans (Nat.lt_trans y3.o1 y3.o2) y3.o3))), g2⟩
    refine wf_new (p := p) (b := b k) (ini := ini k) B F XK T hk N' hd hu (hb k h3).1 (hb k h3).2 ⟨ld, oL, opd, RR _ l1, RR _ l2, l3, RR _ m1, m2⟩ hp (hP.sub RR) v2 LR.nmod (by rw [sizeLine_eq]; omega) hv (fun v => valueAt_stored_self _ _ v) ⟨RR _ LR.ca, ⟨oc, inR _ c1 (Ne.symm LR.ap.1), c2⟩, oh, RR _ n1, n2⟩ (fun q hq => (ofR q hq).2) fun x dx mem hn R3 od' odx' h' tk' F' N2 hod' hdx' fr => ?_
    obtain ⟨ohn, g1, g2⟩ := fr.fh
    have low : ∀ q ∈ nx, @LT.lt Nat _ q.1 dx := fun q hq => by
      by_cases hw : q.1 = wd
      · rw [hw]; exact fr.neW
      · exact fr.new q (inR q hq hw)
    have N3 : News h₀ L h' ((wd, od') :: (dx, odx') :: (x, instObj 806 dx) :: (mem, baOf (b k)) :: (hn, ohn) :: R2) := by
      intro q hq
      apply N2 q
      rcases List.mem_cons.mp hq with rfl | hq
      · exact .head _
      rcases List.mem_cons.mp hq with rfl | hq
      · exact .tail _ (.head _)
      rcases List.mem_cons.mp hq with rfl | hq
      · exact .tail _ (.tail _ fr.fx)
      rcases List.mem_cons.mp hq with rfl | hq
      · exact .tail _ (.tail _ fr.fm)
      rcases List.mem_cons.mp hq with rfl | hq
      · exact .tail _ (.tail _ g1)
      · exact .tail _ (.tail _ (fr.sub q hq))
    have sub : ∀ q ∈ nx, q.1 ≠ wd → q ∈ (wd, od') :: (dx, odx') :: (x, instObj 806 dx) :: (mem, baOf (b k)) :: (hn, ohn) :: R2 := fun q hq hw => .tail _ (.tail _ (.tail _ (.tail _ (.tail _ (inR q hq hw)))))
    obtain ⟨n3, sts, s1, s2, s3⟩ := TI.ss
    obtain ⟨n4, vs, t1, t2, t3⟩ := TI.tt
    obtain ⟨n5, u1⟩ := TI.ww
    obtain ⟨oa, va, a1, a2⟩ := TI.ac
    obtain ⟨ow, vw, w1, w2⟩ := TI.wc
    have W' : WAt w ((wd, od') :: (dx, odx') :: (x, instObj 806 dx) :: (mem, baOf (b k)) :: (hn, ohn) :: R2) R Lc wd cdx sl tl wl p crows cop ⟨x, dx, mem, hn⟩ :=
      ⟨.tail _ (.tail _ (.head _)), ⟨odx', orow, .tail _ (.head _), hdx'⟩, ⟨ohn, .tail _ (.tail _ (.tail _ (.tail _ (.head _)))), g2⟩, ⟨_, .tail _ (.tail _ (.tail _ (.head _)))⟩, fr.ord.1, fr.ord.2.1, fr.ord.2.2, fun q hq => low q (TI.sub q hq), fr.neW, low _ c1, low _ s1, low _ t1, low _ u1, low _ w1⟩
    have hcls : od.cls = .type "dict" ∧ ∃ es ep, od.data = .dict es ep := by
      obtain ⟨es, ep, x1, x2, _⟩ := v2
      exact ⟨x1.1, es, ep, x2⟩
    have nl : ∀ (z : Addr) (o : Obj), (z, o) ∈ nx → o.cls ≠ .type "dict" → z ≠ wd := fun z o hz hc => ne_cls N hz v1 (by rw [hcls.1]; exact hc)
    have nc : ∀ (z : Addr) (o : Obj) (v : Option Value), (z, o) ∈ nx → o.data = .cell v → z ≠ wd := fun z o v hz hc => ne_data N hz v1 (by obtain ⟨es, ep, e⟩ := hcls.2; rw [hc, e]; exact fun h => nomatch h)
    refine ret _ (stored kvs (nmS k) (.ref x)) (fun j => if j = k then some ⟨x, dx, mem, hn⟩ else X j) ⟨x, dx, mem, hn⟩ p h' tk' F' N3 ⟨?_, stored_length_le _ _ _, if_pos rfl, hp, W', ⟨odx', .tail _ (.head _), hdx'⟩, ?_, ?_, ?_, ?_⟩
    · refine ⟨fun q hq => sub q (TI.sub q hq) (LR.off q hq).1, ⟨od', .head _, hod'⟩, ⟨oc, sub _ c1 (Ne.symm LR.ap.1), c2⟩, ⟨n3, sts, sub _ s1 (nl _ _ s1 (by simp)), s2, s3⟩, TI.sz, ⟨n4, vs, sub _ t1 (nl _ _ t1 (by simp)), t2, t3⟩, ⟨n5, sub _ u1 (nl _ _ u1 (by simp))⟩, TI.tn, TI.xn, ?_, ⟨oa, va, sub _ a1 (nc _ _ _ a1 a2), a2⟩, ⟨ow, vw, sub _ w1 (nc _ _ _ w1 w2), w2⟩, ?_, ?_, ?_⟩
      · intro j kj c hj hkc
        obtain ⟨t, a, x, dx, z1, z2, z3, z4⟩ := TI.wt j kj c hj hkc
        exact ⟨t, a, x, dx, z1, z2, sub _ z3 (nl _ _ z3 (by simp)), sub _ z4 (nl _ _ z4 (by simp [instObj]))⟩
      · intro k' hk'
        by_cases hkk : k' = k
        · subst hkk
          refine ⟨fun hn => absurd hn (by simp), fun d' hd' => ?_⟩
          obtain rfl : (⟨x, dx, mem, hn⟩ : WD) = d' := by simpa using hd'
          refine ⟨valueAt_stored_self _ _ _, ⟨p, hp, W'⟩, fun hi => ?_⟩
          have hXn : X k' = none := by
            cases hX : X k' with
            | none => rfl
            | some d => exact absurd ⟨hi, by rw [hX]; rfl⟩ hcase
          rw [(q1 hXn).2 hi]
          exact .tail _ (.tail _ (.tail _ (.head _)))
        · have hne : nmS k' ≠ nmS k := fun e => hkk (nmS_inj hk' h3 e)
          rw [valueAt_stored_ne _ _ hne, if_neg hkk]
          refine ⟨(TI.wk k' hk').1, fun d' hd' => ?_⟩
          obtain ⟨y1, ⟨p2, y2, y3⟩, y4⟩ := (TI.wk k' hk').2 d' hd'
          have lw : ∀ z, @LE.le Nat _ d'.dx z → z ≠ wd := fun z hz => Nat.ne_of_gt (Nat.lt_of_lt_of_le y3.lf.1 hz)
          have o1 := y3.o1; have o2 := y3.o2; have o3 := y3.o3
          have lx' := Nat.lt_trans o1 o2
          refine ⟨y1, ⟨p2, y2, y3.keep fun q hq hh => sub q hq ?_⟩, fun hi => sub _ (y4 hi) (lw _ (Nat.le_of_lt lx'))⟩
          rcases hh with hh | hh | hh | hh <;> rw [hh]
          · exact lw _ (Nat.le_of_lt o1)
          · exact lw _ (Nat.le_refl _)
          · exact lw _ (Nat.le_of_lt lx')
          · exact lw _ (Nat.le_of_lt (Nat.lt_trans lx' o3))
      · intro k1 k2 d1 d2 h1 h2 hne e1 e2
        by_cases hk1 : k1 = k
        · rw [if_pos hk1] at e1
          rw [if_neg (fun e => hne (hk1.trans e.symm))] at e2
          obtain rfl := Option.some.inj e1
          obtain ⟨y1, ⟨p2, y2, y3⟩, y4⟩ := (TI.wk k2 h2).2 d2 e2
          obtain ⟨ohn2, g3, g4⟩ := y3.fh
          exact .inr (low _ g3)
        · rw [if_neg hk1] at e1
          by_cases hk2 : k2 = k
          · rw [if_pos hk2] at e2
            obtain rfl := Option.some.inj e2
            obtain ⟨y1, ⟨p2, y2, y3⟩, y4⟩ := (TI.wk k1 h1).2 d1 e1
            obtain ⟨ohn2, g3, g4⟩ := y3.fh
            exact .inl (low _ g3)
          · rw [if_neg hk2] at e2
            exact TI.sep k1 k2 d1 d2 h1 h2 hne e1 e2
      · intro j kj c x' hj hkc hx' k' hk' hi
        by_cases hkk : k' = k
        · subst hkk
          have hXn : X k' = none := by
            cases hX : X k' with
            | none => rfl
            | some d => exact absurd ⟨hi, by rw [hX]; rfl⟩ hcase
          rw [if_pos rfl, TI.hi j kj c x' hj hkc hx' k' hk' hi, hXn]
          refine ⟨fun hx => (nomatch hx.choose_spec.1), fun ⟨d, e, e2⟩ => ?_⟩
          obtain rfl := Option.some.inj e
          obtain ⟨t, a, x2, dx2, z1, z2, z3, z4⟩ := TI.wt j kj c hj hkc
          obtain rfl : x2 = x' := Option.some.inj (z2.symm.trans hx')
          have : x = x2 := e2
          exact absurd (low _ z4) (by rw [← this]; exact Nat.not_lt.mpr (Nat.le_of_lt fr.ord.1))
        · rw [if_neg hkk]
          exact TI.hi j kj c x' hj hkc hx' k' hk' hi
    · have : (if ini k = true then b k else st k) = b k := by
        cases hi : ini k with
        | true => rfl
        | false =>
          have hXn : X k = none := by
            cases hX : X k with
            | none => rfl
            | some d => exact absurd ⟨hi, by rw [hX]; rfl⟩ hcase
          rw [if_neg (by decide), (q1 hXn).2 hi]
      rw [this]
      exact .tail _ (.tail _ (.tail _ (.head _)))
    · intro j kj c x' hj hkc hx'
      obtain ⟨t, a, x2, dx2, z1, z2, z3, z4⟩ := TI.wt j kj c hj hkc
      obtain rfl : x2 = x' := Option.some.inj (z2.symm.trans hx')
      refine ⟨fun e => ?_, fun ⟨hi, e⟩ => ?_⟩
      · have : x2 = x := e
        exact absurd (low _ z4) (by rw [this]; exact Nat.not_lt.mpr (Nat.le_of_lt fr.ord.1))
      · obtain ⟨d, e1, _⟩ := (TI.hi j kj c x2 hj hkc hx' k h3 hi).mp e
        exact absurd ⟨hi, by rw [e1]; rfl⟩ hcase
    · intro q hq h1 _
      exact sub q hq h1
    · intro q hq
      rcases List.mem_cons.mp hq with rfl | hq
      · exact .inl ⟨_, v1⟩
      rcases List.mem_cons.mp hq with rfl | hq
      · exact .inr low
      rcases List.mem_cons.mp hq with rfl | hq
      · exact .inr fun r hr => Nat.lt_trans (low r hr) fr.ord.1
      rcases List.mem_cons.mp hq with rfl | hq
      · exact .inr fun r hr => Nat.lt_trans (low r hr) (Nat.lt_trans fr.ord.1 fr.ord.2.1)
      rcases List.mem_cons.mp hq with rfl | hq
      · exact .inr fun r hr => Nat.lt_trans (low r hr) (Nat.lt_trans (Nat.lt_trans fr.ord.1 fr.ord.2.1) fr.ord.2.2)
      · exact .inl ⟨_, (ofR q hq).1⟩
theorem wf_turn {w : World} {dp un : Nat} {gd : Option (List Code)} {cn : Str} {cs : Scope} {L a : Addr} {ccd : Value} {cl : List (Str × Addr)} {outer : List Env} {A₀ : Around} {base h₀ : Heap} {m : Str → Option Value} {s : Shared} {Q E : Value → Shared → Prop}
   {loose : List Str} {mean : ExcName → Option Value} {mg mb : Str → Option Value} {R nx : List (Addr × Obj)} {Lc pd nl rl kl : Addr} {b : Nat → Array UInt8} {ini : Nat → Bool} {r : Nat → Addr} {ks : List Addr} {kc : List (Nat × UInt8)} {pk : List (Str × Value)}
   {lb wd ca cdx pc crows tl cmem chn cop sl wl : Addr} {i : Nat} {kvs : List (Str × Value)} {st : Nat → Array UInt8} {X : Nat → Option WD} {xs ts : List Addr} {orow : Array UInt8} {k : Nat} {tn : Tok}
   (B : Below A₀ base outer h₀) (F : Fr h₀ L s.heap m) (XK : (K w.params).In h₀) (T : Top q loose mean mg mb h₀) (hk : cs.kind = .function) (N : News h₀ L s.heap nx) (hd : dp + 60 < recursionLimit) (hu : un + 450 < cLine)
   (LR : LapR w R Lc pd nl rl kl b ini r ks kc pk lb wd ca cdx pc crows tl cmem chn cop sl wl) (TI : TurnI w R nx Lc b ini kc pk wd cdx pc crows tl cmem chn cop sl wl i kvs st X xs ts orow) (hz : kvs.length ≤ 100) (h3 : k < 3) (hb : ∀ k, k < 3 → 0 < (b k).size ∧ (b k).size ≤ 5)
   (ret : ∀ nx' kvs' X' d p h' tk', Fr h₀ L h' m → News h₀ L h' nx' → AfterW w R nx nx' Lc b ini kc pk wd cdx pc crows tl cmem chn cop sl wl i kvs kvs' st X X' xs ts orow k d p → Q (.ref d.x) {s with heap := h', toks := tk'}) :
   wpP (model pw w) (ktrTop dp un gd cn cs L a ccd cl outer) (call (.ref 928) [.ref lb, .str (nmS k) tn, .ref ca]) Q E s := by
  exact clo (by with_unfolding_all rfl) wf_turn_m (Bag.mk w gd cs ccd cl outer A₀ s loose mean bag0.qf bag0.qu (lk [un, L, a, Lc, pd, nl, rl, kl, lb, wd, ca, cdx, pc, crows, tl, cmem, chn, cop, sl, wl, i, k, tn] dp) (lk [] cn) (lk [h₀] base) (lk [mg, mb] m) (lk [nx] R) (lk [E] Q) bag0.i bag0.vs bag0.ns (lk [] orow) bag0.bool bag0.o bag0.avs (lk [kvs] pk) (lk [st] b) ini r (lk [xs, ts] ks) kc X bag0.u8 bag0.d bag0.ov) B F XK T hk N hd hu LR TI hz h3 hb ret

end
theorem flush_F1 : True := by first | walk1 | exact trivial
section
open PySem PySem.W PySem.Calls PyProof.Rows PyProof.V PySem.Spec
theorem spot_of {w : World} {nx : List (Addr × Obj)} {x dx p rows told mem hn op : Addr} {shelf : Str} {orow : Array UInt8} {b : Array UInt8} {ini : Bool} (P : ProgAt w nx p b ini) (W : WorldAt w nx x dx p shelf rows told mem hn op orow) : ∃ sh, SpotAt w nx x mem sh b.size := by
  obtain ⟨pD, D, fl, opr, ofl, pnm, ⟨a1, a2, a3⟩, ⟨b1, b2⟩, dd, wl, ll, df, sl, ix, it, di, vt, cl, kl, sh, ds, od, odf, oix, oit, osh, t1, t2, ⟨c1, c2, c3⟩, ⟨d1, d2, d3, d4, d5, d6, d7⟩, ⟨e1, e2, e3⟩, ⟨f1, f2, f3⟩, g1, g2, g3⟩ := P
  exact ⟨sh, dx, p, rows, told, hn, op, D, it, kl, ds, orow, shelf, osh, ⟨di, vt, cl, oit, e1, e2, e3, f3⟩, ⟨dd, wl, ll, df, sl, ix, _, od, odf, c1, c2, c3, d1, d2, d4, d5⟩, ⟨pD, opr, pnm, fl, ini, a1, a2, a3⟩, W, g1, g2, g3⟩
noncomputable def TurnI.put_P (w : World) (R : List (Addr × Obj)) (nx : List (Addr × Obj)) (nx' : List (Addr × Obj)) (Lc : Addr) (b : Nat → Array UInt8) (ini : Nat → Bool) (kc : List (Nat × UInt8)) (pk : List (Str × Value)) (wd : Addr) (cdx : Addr) (pc : Addr) (crows : Addr) (tl : Addr) (cmem : Addr) (chn : Addr) (cop : Addr) (sl : Addr) (wl : Addr) (i : Nat) (kvs : List (Str × Value)) (st : Nat → Array UInt8) (X : Nat → Option WD) (xs : List Addr) (ts : List Addr) (orow : Array UInt8) : Prop := ∀ (TI : TurnI w R nx Lc b ini kc pk wd cdx pc crows tl cmem chn cop sl wl i kvs st X xs ts orow) (c : Addr) (keep : ∀ q ∈ nx, q.1 ≠ c → q ∈ nx') (hR : ∀ q ∈ R, q.1 ≠ c) (cell : ∃ oc vc, (c, oc) ∈ nx ∧ oc.data = .cell vc) (h₀ h : Heap) (L : Addr) (N : News h₀ L h nx) (ac : ∃ o v, (Lc + 1 + 1 + 1, o) ∈ nx' ∧ o.data = .cell v) (wc : ∃ o v, (Lc + 1 + 1 + 1 + 1, o) ∈ nx' ∧ o.data = .cell v), TurnI w R nx' Lc b ini kc pk wd cdx pc crows tl cmem chn cop sl wl i kvs st X xs ts orow
noncomputable def TurnI.put_S (c : Bag) : Prop := TurnI.put_P c.w (c.news 0) (c.news 1) (c.news 2) (c.n 0) (c.nb 0) c.nbool c.kc (c.kvs 0) (c.n 1) (c.n 2) (c.n 3) (c.n 4) (c.n 5) (c.n 6) (c.n 7) (c.n 8) (c.n 9) (c.n 10) (c.n 11) (c.kvs 1) (c.nb 1) c.nd (c.l 0) (c.l 1) (c.b 0)
@[irreducible] noncomputable def TurnI.put_c : Bag := pick TurnI.put_S
theorem TurnI.put_m : TurnI.put_S TurnI.put_c := by
  refine (?zz9 : ∀ (w : World) (R : List (Addr × Obj)) (nx : List (Addr × Obj)) (nx' : List (Addr × Obj)) (Lc : Addr) (b : Nat → Array UInt8) (ini : Nat → Bool) (kc : List (Nat × UInt8)) (pk : List (Str × Value)) (wd : Addr) (cdx : Addr) (pc : Addr) (crows : Addr) (tl : Addr) (cmem : Addr) (chn : Addr) (cop : Addr) (sl : Addr) (wl : Addr) (i : Nat) (kvs : List (Str × Value)) (st : Nat → Array UInt8) (X : Nat → Option WD) (xs : List Addr) (ts : List Addr) (orow : Array UInt8), TurnI.put_P w R nx nx' Lc b ini kc pk wd cdx pc crows tl cmem chn cop sl wl i kvs st X xs ts orow) TurnI.put_c.w (TurnI.put_c.news 0) (TurnI.put_c.news 1) (TurnI.put_c.news 2) (TurnI.put_c.n 0) (TurnI.put_c.nb 0) TurnI.put_c.nbool TurnI.put_c.kc (TurnI.put_c.kvs 0) (TurnI.put_c.n 1) (TurnI.put_c.n 2) (TurnI.put_c.n 3) (TurnI.put_c.n 4) (TurnI.put_c.n 5) (TurnI.put_c.n 6) (TurnI.put_c.n 7) (TurnI.put_c.n 8) (TurnI.put_c.n 9) (TurnI.put_c.n 10) (TurnI.put_c.n 11) (TurnI.put_c.kvs 1) (TurnI.put_c.nb 1) TurnI.put_c.nd (TurnI.put_c.l 0) (TurnI.put_c.l 1) (TurnI.put_c.b 0)
  intro w R nx nx' Lc b ini kc pk wd cdx pc crows tl cmem chn cop sl wl i kvs st X xs ts orow TI c keep hR cell h₀ h L N ac wc
  obtain ⟨oc, vc, hc, hcd⟩ := cell
  have nd : ∀ (z : Addr) (o : Obj), (z, o) ∈ nx → (∀ v, o.data ≠ .cell v) → (z, o) ∈ nx' := fun z o hz hn => keep _ hz (ne_data N hz hc (by rw [hcd]; exact hn _))
  obtain ⟨od, v1, v2⟩ := TI.kv
  obtain ⟨od2, c1, c2⟩ := TI.cd
  obtain ⟨n3, sts, s1, s2, s3⟩ := TI.ss
  obtain ⟨n4, vs, t1, t2, t3⟩ := TI.tt
  obtain ⟨n5, u1⟩ := TI.ww
  refine ⟨fun q hq => keep q (TI.sub q hq) (hR q hq), ⟨od, nd _ _ v1 ?_, v2⟩, ⟨od2, nd _ _ c1 ?_, c2⟩, ⟨n3, sts, nd _ _ s1 (fun v e => nomatch e), s2, s3⟩, TI.sz, ⟨n4, vs, nd _ _ t1 (fun v e => nomatch e), t2, t3⟩, ⟨n5, nd _ _ u1 (fun v e => nomatch e)⟩, TI.tn, TI.xn, ?_, ac, wc, ?_, TI.sep, TI.hi⟩
  · obtain ⟨es, ep, x1, x2, _⟩ := v2
    rw [x2]; exact fun v e => nomatch e
  · obtain ⟨_, _, _, _, _, _, _, _, _, _, _, _, _, _, _, _, rfl⟩ := c2
    exact fun v e => nomatch e
  · intro j kj c hj hkc
    obtain ⟨t, a, x, dx, z1, z2, z3, z4⟩ := TI.wt j kj c hj hkc
    exact ⟨t, a, x, dx, z1, z2, nd _ _ z3 (fun v e => nomatch e), nd _ _ z4 (fun v e => nomatch e)⟩
  · intro k' hk'
    refine ⟨(TI.wk k' hk').1, fun d' hd' => ?_⟩
    obtain ⟨y1, ⟨p2, y2, f1, ⟨odx, o, f2, f3⟩, ⟨ohn, f4, f5⟩, ⟨om, f6⟩, f7, f8, f9, f10, f11⟩, y4⟩ := (TI.wk k' hk').2 d' hd'
    refine ⟨y1, ⟨p2, y2, nd _ _ f1 (fun v e => nomatch e), ⟨odx, o, nd _ _ f2 ?_, f3⟩, ⟨ohn, nd _ _ f4 ?_, f5⟩, ⟨om, nd _ _ f6 (fun v e => nomatch e)⟩, f7, f8, f9, f10, f11⟩, fun hi => nd _ _ (y4 hi) (fun v e => nomatch e)⟩
    · obtain ⟨_, _, _, _, _, _, _, _, _, _, _, _, _, _, _, _, rfl⟩ := f3
      exact fun v e => nomatch e
    · obtain ⟨_, ⟨es, ep, x1, x2, _⟩, _⟩ := f5
      rw [x2]; exact fun v e => nomatch e
theorem TurnI.put {w : World} {R nx nx' : List (Addr × Obj)} {Lc : Addr} {b : Nat → Array UInt8} {ini : Nat → Bool} {kc : List (Nat × UInt8)} {pk : List (Str × Value)} {wd cdx pc crows tl cmem chn cop sl wl : Addr} {i : Nat} {kvs : List (Str × Value)} {st : Nat → Array UInt8} {X : Nat → Option WD} {xs ts : List Addr} {orow : Array UInt8}
    (TI : TurnI w R nx Lc b ini kc pk wd cdx pc crows tl cmem chn cop sl wl i kvs st X xs ts orow) (c : Addr) (keep : ∀ q ∈ nx, q.1 ≠ c → q ∈ nx') (hR : ∀ q ∈ R, q.1 ≠ c)
    (cell : ∃ oc vc, (c, oc) ∈ nx ∧ oc.data = .cell vc) {h₀ h : Heap} {L : Addr} (N : News h₀ L h nx) (ac : ∃ o v, (Lc + 1 + 1 + 1, o) ∈ nx' ∧ o.data = .cell v) (wc : ∃ o v, (Lc + 1 + 1 + 1 + 1, o) ∈ nx' ∧ o.data = .cell v) :
    TurnI w R nx' Lc b ini kc pk wd cdx pc crows tl cmem chn cop sl wl i kvs st X xs ts orow := by
  exact clo (by with_unfolding_all rfl) TurnI.put_m (Bag.mk w bag0.gd bag0.cs bag0.v bag0.cl bag0.outer bag0.ar bag0.s bag0.loose bag0.mean bag0.qf bag0.qu (lk [wd, cdx, pc, crows, tl, cmem, chn, cop, sl, wl, i] Lc) bag0.str bag0.heap bag0.m (lk [nx, nx'] R) bag0.q bag0.i bag0.vs bag0.ns (lk [] orow) bag0.bool bag0.o bag0.avs (lk [kvs] pk) (lk [st] b) ini bag0.nn (lk [ts] xs) kc X bag0.u8 bag0.d bag0.ov) TI c keep hR cell h₀ h L N ac wc
noncomputable def turn_end_P (w : World) (R : List (Addr × Obj)) (nx : List (Addr × Obj)) (nx' : List (Addr × Obj)) (Lc : Addr) (pd : Addr) (nl : Addr) (rl : Addr) (kl : Addr) (b : Nat → Array UInt8) (ini : Nat → Bool) (r : Nat → Addr) (ks : List Addr) (kc : List (Nat × UInt8)) (pk : List (Str × Value)) (lb : Addr) (wd : Addr) (ca : Addr) (cdx : Addr) (pc : Addr) (crows : Addr) (tl : Addr) (cmem : Addr) (chn : Addr) (cop : Addr) (sl : Addr) (wl : Addr) (i : Nat) (kvs : List (Str × Value)) (st : Nat → Array UInt8) (X : Nat → Option WD) (xs : List Addr) (ts : List Addr) (orow : Array UInt8) (orow' : Array UInt8) (k : Nat) (c : UInt8) (d : WD) (h₀ : Heap) (h : Heap) (L : Addr) (a : Addr) (oc' : Obj) (sts' : Array Value) (vs' : Array Value) (n3' : Nat) (n4' : Nat) (n5' : Nat) (t : Tok) : Prop := ∀ (LR : LapR w R Lc pd nl rl kl b ini r ks kc pk lb wd ca cdx pc crows tl cmem chn cop sl wl) (TI : TurnI w R nx Lc b ini kc pk wd cdx pc crows tl cmem chn cop sl wl i kvs st X xs ts orow) (N : News h₀ L h nx) (hX : X k = some d) (h3 : k < 3) (hkc : kc[i]? = some (k, c)) (keep : ∀ q ∈ nx, q.1 ≠ d.mem → q.1 ≠ cdx → q.1 ≠ sl → q.1 ≠ tl → q.1 ≠ wl → q.1 ≠ Lc + 1 + 1 + 1 + 1 → q ∈ nx') (m1 : (d.mem, baOf (Array.replicate (b k).size c)) ∈ nx') (m2 : (cdx, oc') ∈ nx') (m2' : DWorld w pc (Str.ofString "shelf") crows tl cmem chn cop orow' oc') (m3 : (sl, listOf sts' n3') ∈ nx') (hs : sts'.size = 3) (hst : ∀ j, j < 3 → ∃ t, sts'.toList[j]? = some (.bytes (if j = k then Array.replicate (b k).size c else st j) t)) (m4 : (tl, listOf vs' n4') ∈ nx') (hv : vs'.size = i + 1) (hvs : ∀ (j kj : Nat) (cj : UInt8), j < i + 1 → kc[j]? = some (kj, cj) → ∃ t, vs'.toList[j]? = some (.bytes (Array.replicate (b kj).size cj) t)) (m5 : (wl, listOf ((ts ++ [a]).map Value.ref).toArray n5') ∈ nx') (m6 : (a, tupOf #[.int ((k : Nat) : Int) t, .ref d.x]) ∈ nx') (m7 : ∃ o v, (Lc + 1 + 1 + 1 + 1, o) ∈ nx' ∧ o.data = .cell v), TurnI w R nx' Lc b ini kc pk wd cdx pc crows tl cmem chn cop sl wl (i + 1) kvs (fun j => if j = k then Array.replicate (b k).size c else st j) X (xs ++ [d.x]) (ts ++ [a]) orow'
noncomputable def turn_end_S (c : Bag) : Prop := turn_end_P c.w (c.news 0) (c.news 1) (c.news 2) (c.n 0) (c.n 1) (c.n 2) (c.n 3) (c.n 4) (c.nb 0) c.nbool c.nn (c.l 0) c.kc (c.kvs 0) (c.n 5) (c.n 6) (c.n 7) (c.n 8) (c.n 9) (c.n 10) (c.n 11) (c.n 12) (c.n 13) (c.n 14) (c.n 15) (c.n 16) (c.n 17) (c.kvs 1) (c.nb 1) c.nd (c.l 1) (c.l 2) (c.b 0) (c.b 1) (c.n 18) c.u8 c.d (c.heap 0) (c.heap 1) (c.n 19) (c.n 20) (c.o 0) (c.avs 0) (c.avs 1) (c.n 21) (c.n 22) (c.n 23) (c.n 24)
@[irreducible] noncomputable def turn_end_c : Bag := pick turn_end_S
theorem turn_end_m : turn_end_S turn_end_c := by
  refine (?zz9 : ∀ (w : World) (R : List (Addr × Obj)) (nx : List (Addr × Obj)) (nx' : List (Addr × Obj)) (Lc : Addr) (pd : Addr) (nl : Addr) (rl : Addr) (kl : Addr) (b : Nat → Array UInt8) (ini : Nat → Bool) (r : Nat → Addr) (ks : List Addr) (kc : List (Nat × UInt8)) (pk : List (Str × Value)) (lb : Addr) (wd : Addr) (ca : Addr) (cdx : Addr) (pc : Addr) (crows : Addr) (tl : Addr) (cmem : Addr) (chn : Addr) (cop : Addr) (sl : Addr) (wl : Addr) (i : Nat) (kvs : List (Str × Value)) (st : Nat → Array UInt8) (X : Nat → Option WD) (xs : List Addr) (ts : List Addr) (orow : Array UInt8) (orow' : Array UInt8) (k : Nat) (c : UInt8) (d : WD) (h₀ : Heap) (h : Heap) (L : Addr) (a : Addr) (oc' : Obj) (sts' : Array Value) (vs' : Array Value) (n3' : Nat) (n4' : Nat) (n5' : Nat) (t : Tok), turn_end_P w R nx nx' Lc pd nl rl kl b ini r ks kc pk lb wd ca cdx pc crows tl cmem chn cop sl wl i kvs st X xs ts orow orow' k c d h₀ h L a oc' sts' vs' n3' n4' n5' t) turn_end_c.w (turn_end_c.news 0) (turn_end_c.news 1) (turn_end_c.news 2) (turn_end_c.n 0) (turn_end_c.n 1) (turn_end_c.n 2) (turn_end_c.n 3) (turn_end_c.n 4) (turn_end_c.nb 0) turn_end_c.nbool turn_end_c.nn (turn_end_c.l 0) turn_end_c.kc (turn_end_c.kvs 0) (turn_end_c.n 5) (turn_end_c.n 6) (turn_end_c.n 7) (turn_end_c.n 8) (turn_end_c.n 9) (turn_end_c.n 10) (turn_end_c.n 11) (turn_end_c.n 12) (turn_end_c.n 13) (turn_end_c.n 14) (turn_end_c.n 15) (turn_end_c.n 16) (turn_end_c.n 17) (turn_end_c.kvs 1) (turn_end_c.nb 1) turn_end_c.nd (turn_end_c.l 1) (turn_end_c.l 2) (turn_end_c.b 0) (turn_end_c.b 1) (turn_end_c.n 18) turn_end_c.u8 turn_end_c.d (turn_end_c.heap 0) (turn_end_c.heap 1) (turn_end_c.n 19) (turn_end_c.n 20) (turn_end_c.o 0) (turn_end_c.avs 0) (turn_end_c.avs 1) (turn_end_c.n 21) (turn_end_c.n 22) (turn_end_c.n 23) (turn_end_c.n 24)
  intro w R nx nx' Lc pd nl rl kl b ini r ks kc pk lb wd ca cdx pc crows tl cmem chn cop sl wl i kvs st X xs ts orow orow' k c d h₀ h L a oc' sts' vs' n3' n4' n5' t LR TI N hX h3 hkc keep m1 m2 m2' m3 hs hst m4 hv hvs m5 m6 m7
  obtain ⟨od, v1, v2⟩ := TI.kv
  obtain ⟨oc, c1, c2⟩ := TI.cd
  obtain ⟨n3, sts, s1, s2, s3⟩ := TI.ss
  obtain ⟨n4, vs, t1, t2, t3⟩ := TI.tt
  obtain ⟨n5, u1⟩ := TI.ww
  obtain ⟨oa, va, a1, a2⟩ := TI.ac
  obtain ⟨ow, vw, w1, w2⟩ := TI.wc
  obtain ⟨hv0, ⟨p, hp, W⟩, hmm⟩ := (TI.wk k h3).2 d hX
  have W0 := W
  obtain ⟨f1, ⟨odx, o, f2, f3⟩, ⟨ohn, f4, f5⟩, ⟨om, f6⟩, o1, o2, o3, lo, g1, g2, g3, g4, g5, g6⟩ := W
  have hcc : oc.cls = .type "dict" ∧ ∃ e n, oc.data = .dict e n := by
    obtain ⟨_, _, _, _, _, _, _, _, _, _, _, _, _, _, _, _, rfl⟩ := c2
    exact ⟨rfl, _, _, rfl⟩
  have hwc : od.cls = .type "dict" ∧ ∃ e n, od.data = .dict e n := by
    obtain ⟨es, ep, x1, x2, _⟩ := v2
    exact ⟨x1.1, _, _, x2⟩
  have lx : @LT.lt Nat _ d.dx d.mem := Nat.lt_trans o1 o2
  have lh : @LT.lt Nat _ d.dx d.hn := Nat.lt_trans lx o3
  -- every thing of another class
  have oth : ∀ (z : Addr) (y : Obj), (z, y) ∈ nx → y.cls ≠ .type "dict" → y.cls ≠ .type "list" → y.cls ≠ .type "bytearray" → (∀ v, y.data ≠ .cell v) → (z, y) ∈ nx' := fun z y hz q1 q2 q3 q4 =>
    keep _ hz (ne_cls N hz f6 q3) (ne_cls N hz c1 (by rw [hcc.1]; exact q1)) (ne_cls N hz s1 q2) (ne_cls N hz t1 q2) (ne_cls N hz u1 q2) (ne_data N hz w1 (by rw [w2]; exact q4 _))
  have far : ∀ q ∈ nx, @LE.le Nat _ d.dx q.1 → q.1 ≠ d.mem → q ∈ nx' := fun q hq hl hm =>
    keep q hq hm (Nat.ne_of_gt (Nat.lt_of_lt_of_le g2 hl)) (Nat.ne_of_gt (Nat.lt_of_lt_of_le g3 hl)) (Nat.ne_of_gt (Nat.lt_of_lt_of_le g4 hl)) (Nat.ne_of_gt (Nat.lt_of_lt_of_le g5 hl)) (Nat.ne_of_gt (Nat.lt_of_lt_of_le g6 hl))
  have W' : WAt w nx' R Lc wd cdx sl tl wl p crows cop d :=
    ⟨far _ f1 (Nat.le_of_lt o1) (Nat.ne_of_lt o2), ⟨odx, o, far _ f2 (Nat.le_refl _) (Nat.ne_of_lt lx), f3⟩, ⟨ohn, far _ f4 (Nat.le_of_lt lh) (Nat.ne_of_gt o3), f5⟩, ⟨_, m1⟩, o1, o2, o3, lo, g1, g2, g3, g4, g5, g6⟩
  refine ⟨fun q hq => ?_, ⟨od, keep _ v1 ?_ LR.ap.1 (ne_cls N v1 s1 (by rw [hwc.1]; simp)) (ne_cls N v1 t1 (by rw [hwc.1]; simp)) (ne_cls N v1 u1 (by rw [hwc.1]; simp)) (ne_data N v1 w1 ?_), v2⟩, ⟨oc', m2, m2'⟩, ⟨n3', sts', m3, hs, hst⟩, fun j hj => ?_, ⟨n4', vs', m4, hv, hvs⟩, ⟨n5', m5⟩, by rw [List.length_append, TI.tn]; rfl, by rw [List.length_append, TI.xn]; rfl, ?_, ⟨oa, va, keep _ a1 ?_ ?_ ?_ ?_ ?_ ?_, a2⟩, m7, ?_, TI.sep, ?_⟩
  · obtain ⟨x1, x2, x3, x4, x5, x6, x7⟩ := LR.off q hq
    exact keep q (TI.sub q hq) (Nat.ne_of_lt (Nat.lt_trans (lo q hq) lx)) x2 x3 x4 x5 x7
  · exact Nat.ne_of_lt (Nat.lt_trans g1 lx)
  · obtain ⟨e, n, x⟩ := hwc.2
    rw [x, w2]; exact fun h => nomatch h
  · split
    next e => rw [Array.size_replicate, e]
    · exact TI.sz j hj
  · intro j kj cj hj hkj
    by_cases hji : j < i
    · obtain ⟨t, a', x, dx, z1, z2, z3, z4⟩ := TI.wt j kj cj hji hkj
      refine ⟨t, a', x, dx, ?_, ?_, oth _ _ z3 (by simp) (by simp) (by simp) (fun v e => nomatch e), oth _ _ z4 (by simp [instObj]) (by simp [instObj]) (by simp [instObj]) (fun v e => nomatch e)⟩
      · rw [List.getElem?_append_left (by rw [TI.tn]; exact hji)]; exact z1
      · rw [List.getElem?_append_left (by rw [TI.xn]; exact hji)]; exact z2
    · obtain rfl : j = i := by omega
      obtain ⟨rfl, rfl⟩ : k = kj ∧ c = cj := by
        have := Option.some.inj (hkc.symm.trans hkj)
        exact ⟨congrArg Prod.fst this, congrArg Prod.snd this⟩
      refine ⟨t, a, d.x, d.dx, ?_, ?_, m6, W'.fx⟩
      · rw [List.getElem?_append_right (by rw [TI.tn]; exact Nat.le_refl _), TI.tn, Nat.sub_self]; rfl
      · rw [List.getElem?_append_right (by rw [TI.xn]; exact Nat.le_refl _), TI.xn, Nat.sub_self]; rfl
  · exact Nat.ne_of_lt (Nat.lt_trans (Nat.lt_trans (Nat.lt_succ_self _) g6) lx)
  · obtain ⟨e, n, x⟩ := hcc.2
    exact ne_data N a1 c1 (by rw [a2, x]; exact fun h => nomatch h)
  · exact ne_data N a1 s1 (by rw [a2]; exact fun h => nomatch h)
  · exact ne_data N a1 t1 (by rw [a2]; exact fun h => nomatch h)
  · exact ne_data N a1 u1 (by rw [a2]; exact fun h => nomatch h)
  · exact Nat.ne_of_lt (Nat.lt_succ_self _)
  · intro k' hk'
    by_cases hkk : k' = k
    · subst hkk
      refine ⟨fun hn => absurd (hn.symm.trans hX) (fun h => nomatch h), fun d' hd' => ?_⟩
      obtain rfl := Option.some.inj (hd'.symm.trans hX)
      refine ⟨hv0, ⟨p, hp, W'⟩, fun _ => ?_⟩
      rw [if_pos rfl]; exact m1
    · rw [if_neg hkk]
      refine ⟨(TI.wk k' hk').1, fun d' hd' => ?_⟩
      obtain ⟨y1, ⟨p2, y2, y3⟩, y4⟩ := (TI.wk k' hk').2 d' hd'
      have e1 := y3.o1; have e2 := y3.o2; have e3 := y3.o3
      obtain ⟨j1, j2, j3, j4, j5, j6⟩ := y3.lf
      have lx' : @LT.lt Nat _ d'.dx d'.mem := Nat.lt_trans e1 e2
      have lh' : @LT.lt Nat _ d'.dx d'.hn := Nat.lt_trans lx' e3
      have far' : ∀ q ∈ nx, @LE.le Nat _ d'.dx q.1 → @LE.le Nat _ q.1 d'.hn → q ∈ nx' := fun q hq hl hl2 => by
        refine keep q hq ?_ (Nat.ne_of_gt (Nat.lt_of_lt_of_le j2 hl)) (Nat.ne_of_gt (Nat.lt_of_lt_of_le j3 hl)) (Nat.ne_of_gt (Nat.lt_of_lt_of_le j4 hl)) (Nat.ne_of_gt (Nat.lt_of_lt_of_le j5 hl)) (Nat.ne_of_gt (Nat.lt_of_lt_of_le j6 hl))
        intro e
        rw [e] at hl hl2
        rcases TI.sep k' k d' d hk' h3 hkk hd' hX with h | h
        · exact absurd (Nat.lt_of_le_of_lt hl2 h) (Nat.not_lt.mpr (Nat.le_of_lt lx))
        · exact absurd (Nat.lt_trans (Nat.lt_of_lt_of_le h hl) o3) (Nat.lt_irrefl _)
      refine ⟨y1, ⟨p2, y2, y3.keep fun q hq hh => far' q hq ?_ ?_⟩, fun hi => far' _ (y4 hi) (Nat.le_of_lt lx') (Nat.le_of_lt e3)⟩
      · rcases hh with hh | hh | hh | hh <;> rw [hh]
        · exact Nat.le_of_lt e1
        · exact Nat.le_refl _
        · exact Nat.le_of_lt lx'
        · exact Nat.le_of_lt lh'
      · rcases hh with hh | hh | hh | hh <;> rw [hh]
        · exact Nat.le_of_lt (Nat.lt_trans e2 e3)
        · exact Nat.le_of_lt lh'
        · exact Nat.le_of_lt e3
        · exact Nat.le_refl _
  · intro j kj cj x hj hkj hx k' hk' hi
    by_cases hji : j < i
    · rw [List.getElem?_append_left (by rw [TI.xn]; exact hji)] at hx
      exact TI.hi j kj cj x hji hkj hx k' hk' hi
    · obtain rfl : j = i := by omega
      obtain ⟨rfl, rfl⟩ : k = kj ∧ c = cj := by
        have := Option.some.inj (hkc.symm.trans hkj)
        exact ⟨congrArg Prod.fst this, congrArg Prod.snd this⟩
      rw [List.getElem?_append_right (by rw [TI.xn]; exact Nat.le_refl _), TI.xn, Nat.sub_self] at hx
      obtain rfl : d.x = x := Option.some.inj hx
      refine ⟨fun e => ⟨d, e ▸ hX, rfl⟩, fun ⟨d', e1, e2⟩ => ?_⟩
      by_cases hkk : k = k'
      · exact hkk
      · obtain ⟨y1, ⟨p2, y2, y3⟩, y4⟩ := (TI.wk k' hk').2 d' e1
        have q1 := y3.o1; have q2 := y3.o2; have q3 := y3.o3
        rw [e2] at q1 q2
        rcases TI.sep k k' d d' h3 hk' hkk hX e1 with h | h
        · exact absurd (Nat.lt_trans (Nat.lt_trans (Nat.lt_trans o2 o3) h) q1) (Nat.lt_irrefl _)
        · exact absurd (Nat.lt_trans (Nat.lt_trans (Nat.lt_trans q2 q3) h) o1) (Nat.lt_irrefl _)
theorem turn_end {w : World} {R nx nx' : List (Addr × Obj)} {Lc pd nl rl kl : Addr} {b : Nat → Array UInt8} {ini : Nat → Bool} {r : Nat → Addr} {ks : List Addr} {kc : List (Nat × UInt8)} {pk : List (Str × Value)} {lb wd ca cdx pc crows tl cmem chn cop sl wl : Addr} {i : Nat} {kvs : List (Str × Value)} {st : Nat → Array UInt8} {X : Nat → Option WD} {xs ts : List Addr} {orow orow' : Array UInt8} {k : Nat} {c : UInt8} {d : WD} {h₀ h : Heap} {L a : Addr} {oc' : Obj} {sts' vs' : Array Value} {n3' n4' n5' : Nat} {t : Tok}
    (LR : LapR w R Lc pd nl rl kl b ini r ks kc pk lb wd ca cdx pc crows tl cmem chn cop sl wl) (TI : TurnI w R nx Lc b ini kc pk wd cdx pc crows tl cmem chn cop sl wl i kvs st X xs ts orow) (N : News h₀ L h nx) (hX : X k = some d) (h3 : k < 3) (hkc : kc[i]? = some (k, c))
    (keep : ∀ q ∈ nx, q.1 ≠ d.mem → q.1 ≠ cdx → q.1 ≠ sl → q.1 ≠ tl → q.1 ≠ wl → q.1 ≠ Lc + 1 + 1 + 1 + 1 → q ∈ nx')
    (m1 : (d.mem, baOf (Array.replicate (b k).size c)) ∈ nx') (m2 : (cdx, oc') ∈ nx') (m2' : DWorld w pc (Str.ofString "shelf") crows tl cmem chn cop orow' oc')
    (m3 : (sl, listOf sts' n3') ∈ nx') (hs : sts'.size = 3) (hst : ∀ j, j < 3 → ∃ t, sts'.toList[j]? = some (.bytes (if j = k then Array.replicate (b k).size c else st j) t))
    (m4 : (tl, listOf vs' n4') ∈ nx') (hv : vs'.size = i + 1) (hvs : ∀ (j kj : Nat) (cj : UInt8), j < i + 1 → kc[j]? = some (kj, cj) → ∃ t, vs'.toList[j]? = some (.bytes (Array.replicate (b kj).size cj) t))
    (m5 : (wl, listOf ((ts ++ [a]).map Value.ref).toArray n5') ∈ nx') (m6 : (a, tupOf #[.int ((k : Nat) : Int) t, .ref d.x]) ∈ nx') (m7 : ∃ o v, (Lc + 1 + 1 + 1 + 1, o) ∈ nx' ∧ o.data = .cell v) :
    TurnI w R nx' Lc b ini kc pk wd cdx pc crows tl cmem chn cop sl wl (i + 1) kvs (fun j => if j = k then Array.replicate (b k).size c else st j) X (xs ++ [d.x]) (ts ++ [a]) orow' := by
  exact clo (by with_unfolding_all rfl) turn_end_m (Bag.mk w bag0.gd bag0.cs bag0.v bag0.cl bag0.outer bag0.ar bag0.s bag0.loose bag0.mean bag0.qf bag0.qu (lk [pd, nl, rl, kl, lb, wd, ca, cdx, pc, crows, tl, cmem, chn, cop, sl, wl, i, k, L, a, n3', n4', n5', t] Lc) bag0.str (lk [h] h₀) bag0.m (lk [nx, nx'] R) bag0.q bag0.i bag0.vs bag0.ns (lk [orow'] orow) bag0.bool (lk [] oc') (lk [vs'] sts') (lk [kvs] pk) (lk [st] b) ini r (lk [xs, ts] ks) kc X c d bag0.ov) LR TI N hX h3 hkc keep m1 m2 m2' m3 hs hst m4 hv hvs m5 m6 m7

end
theorem flush_F2 : True := by first | walk1 | exact trivial
section
open PySem PySem.W PySem.Calls PyProof.Rows PyProof.V PySem.Spec
noncomputable def scR : Scope := match stAt 146 with
  | .FunctionDef _ _ _ _ _ _ scope _ _ _ => scope
  | _ => default
noncomputable def rightBody : List Stmt := match stAt 146 with
  | .FunctionDef _ _ body _ _ _ _ _ _ _ => body
  | _ => []
noncomputable def forBody : Stmt → List Stmt
  | .For _ _ b _ _ => b
  | _ => []
noncomputable def forTarget : Stmt → PySem.Expr
  | .For t _ _ _ _ => t
  | _ => .Constant .none 0 default
noncomputable def lapBody : List Stmt := forBody (rightBody.getD 2 (.Pass default))
noncomputable def turnFor : Stmt := lapBody.getD 2 (.Pass default)
noncomputable def turnBody : List Stmt := forBody turnFor
noncomputable def turnTgt : PySem.Expr := forTarget turnFor
/-- the frame's names ahead of the calls -/
noncomputable def mT (lb ca sl wl kl : Addr) (m9 : Str → Option Value) : Str → Option Value := fun y =>
  if y = Str.ofString "worlds" then some (.ref wl) else if y = Str.ofString "stands" then some (.ref sl) else if y = Str.ofString "caller" then some (.ref ca) else if y = Str.ofString "library" then some (.ref lb) else if y = Str.ofString "calls" then some (.ref kl) else m9 y
theorem mT_eq {m : Str → Option Value} {lb ca sl wl kl : Addr} (h1 : m (Str.ofString "worlds") = some (.ref wl)) (h2 : m (Str.ofString "stands") = some (.ref sl)) (h3 : m (Str.ofString "caller") = some (.ref ca)) (h4 : m (Str.ofString "library") = some (.ref lb)) (h5 : m (Str.ofString "calls") = some (.ref kl)) : m = mT lb ca sl wl kl m := by
  funext y
  unfold mT
  by_cases e1 : y = Str.ofString "worlds"
  · rw [if_pos e1, e1, h1]
  rw [if_neg e1]
  by_cases e2 : y = Str.ofString "stands"
  · rw [if_pos e2, e2, h2]
  rw [if_neg e2]
  by_cases e3 : y = Str.ofString "caller"
  · rw [if_pos e3, e3, h3]
  rw [if_neg e3]
  by_cases e4 : y = Str.ofString "library"
  · rw [if_pos e4, e4, h4]
  rw [if_neg e4]
  by_cases e5 : y = Str.ofString "calls"
  · rw [if_pos e5, e5, h5]
  rw [if_neg e5]
noncomputable abbrev xsT : List Str := [Str.ofString "turn", Str.ofString "octet", Str.ofString "worth"]
/-- the loop's invariant -/
noncomputable def JTurn (w : World) (R : List (Addr × Obj)) (Lc : Addr) (b : Nat → Array UInt8) (ini : Nat → Bool) (kc : List (Nat × UInt8)) (pk : List (Str × Value)) (wd cdx pc crows tl cmem chn cop sl wl : Addr) (_ld : List (Addr × Obj)) (i : Nat) (us : List (Option Value)) (nx : List (Addr × Obj)) : Prop :=
  ∃ u0 u1 u2, us = [u0, u1, u2] ∧ ∃ kvs st X xs ts orow, kvs.length ≤ i ∧ TurnI w R nx Lc b ini kc pk wd cdx pc crows tl cmem chn cop sl wl i kvs st X xs ts orow
theorem ne_bytes_same {prog : Program} {w : World} {A : Around} {b : Array UInt8} {t u : Tok} {Q : Value → Shared → Prop} {E : Value → Shared → Prop} {s : Shared} (h : Q (.bool false) s) : wpAny (model prog w) A (compareOp .NotEq (.bytes b t) (.bytes b u)) Q E s :=
  ne_bytes (by rw [bne_self_eq_false]; exact h)
/-- the frame's names in a turn -/
noncomputable def mU (lb ca sl wl kl : Addr) (i : Nat) (c : UInt8) (b : Array UInt8) (ti to tw : Tok) (m9 : Str → Option Value) : Str → Option Value := fun y =>
  if y = Str.ofString "worth" then some (.bytes b tw) else if y = Str.ofString "octet" then some (.int ((UInt8.toNat c : Nat) : Int) to) else if y = Str.ofString "turn" then some (.int ((i : Nat) : Int) ti) else mT lb ca sl wl kl m9 y
theorem mU_eq {m : Str → Option Value} {lb ca sl wl kl : Addr} {i : Nat} {c : UInt8} {b : Array UInt8} {ti to tw : Tok} (g1 : m (Str.ofString "worth") = some (.bytes b tw)) (g2 : m (Str.ofString "octet") = some (.int ((UInt8.toNat c : Nat) : Int) to)) (g3 : m (Str.ofString "turn") = some (.int ((i : Nat) : Int) ti))
    (h1 : m (Str.ofString "worlds") = some (.ref wl)) (h2 : m (Str.ofString "stands") = some (.ref sl)) (h3 : m (Str.ofString "caller") = some (.ref ca)) (h4 : m (Str.ofString "library") = some (.ref lb)) (h5 : m (Str.ofString "calls") = some (.ref kl)) : m = mU lb ca sl wl kl i c b ti to tw m := by
  funext y
  unfold mU
  by_cases e1 : y = Str.ofString "worth"
  · rw [if_pos e1, e1, g1]
  rw [if_neg e1]
  by_cases e2 : y = Str.ofString "octet"
  · rw [if_pos e2, e2, g2]
  rw [if_neg e2]
  by_cases e3 : y = Str.ofString "turn"
  · rw [if_pos e3, e3, g3]
  rw [if_neg e3]
  exact congrFun (mT_eq h1 h2 h3 h4 h5) y
noncomputable def swap (a : Addr) (o' : Obj) (nx : List (Addr × Obj)) : List (Addr × Obj) := (a, o') :: nx.filter fun p => decide (p.1 ≠ a)
theorem swap_keep {a : Addr} {o' : Obj} {nx : List (Addr × Obj)} {p : Addr × Obj} (h : p ∈ nx) (ne : p.1 ≠ a) : p ∈ swap a o' nx := .tail _ (List.mem_filter.mpr ⟨h, by simpa using ne⟩)
theorem swap_new {a : Addr} {o' : Obj} {nx : List (Addr × Obj)} : (a, o') ∈ swap a o' nx := .head _
theorem swap_of {a : Addr} {o' : Obj} {nx : List (Addr × Obj)} {p : Addr × Obj} (h : p ∈ swap a o' nx) : p = (a, o') ∨ (p ∈ nx ∧ p.1 ≠ a) := by
  rcases List.mem_cons.mp h with rfl | h
  · exact .inl rfl
  · have := List.mem_filter.mp h
    exact .inr ⟨this.1, by simpa using this.2⟩
theorem News.front {h₀ h : Heap} {L a : Addr} {o : Obj} {nx : List (Addr × Obj)} (N : News h₀ L h nx) (hm : (a, o) ∈ nx) : News h₀ L h ((a, o) :: nx.filter fun p => decide (p.1 ≠ a)) := fun p hp => by
  rcases List.mem_cons.mp hp with rfl | hp
  · exact N _ hm
  · exact N p (List.mem_filter.mp hp).1
theorem in_but {a : Addr} {nx : List (Addr × Obj)} {p : Addr × Obj} (h : p ∈ nx) (ne : p.1 ≠ a) : p ∈ nx.filter fun p => decide (p.1 ≠ a) := List.mem_filter.mpr ⟨h, by simpa using ne⟩
theorem of_but {a : Addr} {nx : List (Addr × Obj)} {p : Addr × Obj} (h : p ∈ nx.filter fun p => decide (p.1 ≠ a)) : p ∈ nx ∧ p.1 ≠ a := by
  have := List.mem_filter.mp h
  exact ⟨this.1, by simpa using this.2⟩

end
theorem flush_FB : True := by first | walk1 | exact trivial
section
open PySem PySem.W PySem.Calls PyProof.Rows PyProof.V PySem.Spec
section
variable {prog : Program} {w : World} {A : Around} {E : Value → Shared → Prop} {s : Shared} {h₀ : Heap} {L : Addr} {m : Str → Option Value} {news : List (Addr × Obj)}
theorem u8_back (c : UInt8) : (((UInt8.toNat c : Nat) : Int)).toNat.toUInt8 = c := by
  show (UInt8.toNat c).toUInt8 = c
  exact UInt8.ofNat_toNat
theorem bytes_one {l : Addr} {c : UInt8} {t : Tok} {n : Nat} {Q : Value → Shared → Prop} (F : Fr h₀ L s.heap m) (N : News h₀ L s.heap news) (hm : (l, listOf #[.int ((UInt8.toNat c : Nat) : Int) t] n) ∈ news) (hh : A.handled = none)
    (h : ∀ h' t k, Fr h₀ L h' m → News h₀ L h' news → Q (.bytes #[c] t) { s with heap := h', toks := k }) : wpAny (model prog w) A (call (.type "bytes") [.ref l]) Q E s := by
  refine bytes_K (vs := [.int ((UInt8.toNat c : Nat) : Int) t]) (ns := [((UInt8.toNat c : Nat) : Int)]) F N (made_list N hm) (by l_ints) (fun n hn => ?_) (by rw [sizeLine_eq]; simp only [List.length_cons, List.length_nil]; omega) hh fun h' t k F' N' _ => ?_
  · rw [List.mem_singleton.mp hn]
    have := UInt8.toNat_lt c
    omega
  · have := h h' t k F' N'
    rw [← u8_back c] at this
    exact this
theorem mul_rep {c : UInt8} {n : Nat} {t u : Tok} {Q : Value → Shared → Prop} (hn : n ≤ 1048576) (h : ∀ t' k, Q (.bytes (Array.replicate n c) t') { s with toks := k }) : wpAny (model prog w) A (binaryOp .Mult (.bytes #[c] t) (.int ((n : Nat) : Int) u)) Q E s := by
  refine bytes_mul_any (b := [c]) (by simp) (by omega) (by omega) (by simp) fun t' k => ?_
  have e : ((List.replicate ((n : Nat) : Int).toNat [c]).flatten).toArray = Array.replicate n c := by
    apply Array.toList_inj.mp
    simp
  rw [e]
  exact h t' k
theorem mul_repI {c : List UInt8} {n : Int} {t u : Tok} {Q : Value → Shared → Prop} (hc : c ≠ []) (hcl : c.length ≤ 16) (h0 : -1048576 ≤ n) (hn : n ≤ 1048576) (h : ∀ x t' k, Q (.bytes x t') { s with toks := k }) : wpAny (model prog w) A (binaryOp .Mult (.bytes c.toArray t) (.int n u)) Q E s :=
  bytes_mul_any (b := c) hc h0 hn hcl fun t' k => h _ t' k
theorem fmod3 {i : Nat} (h : i ≤ 9) : -1048576 ≤ Int.fmod ((i : Nat) : Int) 3 ∧ Int.fmod ((i : Nat) : Int) 3 ≤ 1048576 := by
  rw [Int.fmod_eq_emod_of_nonneg _ (by decide)]
  omega
theorem setL_k : ∀ {l : List Value} {k : Nat} {v : Value}, k < l.length → ki_setL l k v = some (l.set k v)
  | x :: r, 0, v, h => rfl
  | x :: r, k + 1, v, h => by
    unfold ki_setL
    rw [setL_k (Nat.lt_of_succ_lt_succ h)]
    rfl
end
section
variable {prog : Program} {w : World} {A : Around} {s : Shared} {h₀ : Heap} {L : Addr} {m : PySem.Str → Option Value} {env : Env} {elt ct : PySem.Expr} {x : PySem.Str} {scope : Scope} {cl : List (PySem.Str × Addr)}
  {S : List (Addr × Obj) → Prop} {P : Nat → Value → Prop} {Fin : List Value → List (Addr × Obj) → Prop} {news : List (Addr × Obj)} {n : Nat}
theorem restT_JN (J : List (Addr × Obj) → Nat → List Value → List (Addr × Obj) → Prop) (j0 : J news 0 [] news)
    (turn : ∀ i ys nx v I oI C oC D m₂ h tk (E' : Value → Shared → Prop), i < n → J news i ys nx → P i v → LCg.NsObj oC m₂ → m₂ x = some v → Fr h₀ L h m → News h₀ L h ((I, oI) :: (C, oC) :: (D, LCg.lst ys) :: nx) → LCg.Off3 I C D nx → ((@Ne Nat I C) ∧ (@Ne Nat I D) ∧ (@Ne Nat C D)) →
      wpAny (model prog w) A (isTrue ct (compEnvC scope cl C env) (eval ct (compEnvC scope cl C env))) (fun ok s' => if ok = true then
        wpAny (model prog w) A (eval elt (compEnvC scope cl C env)) (LCg.CompEnd h₀ L m { s with heap := h, toks := tk } I oI C oC D (LCg.lst ys) S (fun y nx' => J news (i + 1) (ys ++ [y]) nx')) E' s'
        else LCg.CompEnd h₀ L m { s with heap := h, toks := tk } I oI C oC D (LCg.lst ys) S (fun _ nx' => J news (i + 1) ys nx') Value.none s') E' { s with heap := h, toks := tk })
    (fin : ∀ ys nx, J news n ys nx → Fin ys nx) : LCt.CompRestT prog w A h₀ L m env ct elt x scope cl s S P Fin n 0 [] news := restT_J (J news) j0 turn fin
end
theorem pick_take {l : List Value} {i : Nat} (h : i ≤ l.length) : kms_pick l none (some ((i : Nat) : Int)) = l.take i := by
  have e1 : kms_lo none l.length = 0 := rfl
  have e2 : kms_hi (some ((i : Nat) : Int)) l.length = i := by
    unfold kms_hi
    dsimp only
    rw [if_neg (Int.not_lt.mpr (Int.natCast_nonneg i))]
    exact Nat.min_eq_left h
  unfold kms_pick
  rw [e1, e2]
  simp
theorem slice_item {ks : List Addr} {i j : Nat} {v : Value} {a : Addr} (h : ((ks.map Value.ref).take i).toArray[j]? = some v) (hj : j < i) (ha : ks[j]? = some a) : v = .ref a := by
  rw [List.getElem?_toArray, List.getElem?_take_of_lt hj, List.getElem?_map, ha] at h
  exact (Option.some.inj h).symm
/-- how often k was called ahead of the j-th call -/
noncomputable def cnt (kc : List (Nat × UInt8)) (k j : Nat) : Nat := ((kc.take j).filter fun q => decide (q.1 = k)).length
theorem cnt_zero (kc : List (Nat × UInt8)) (k : Nat) : cnt kc k 0 = 0 := rfl
theorem cnt_succ {kc : List (Nat × UInt8)} {k j kj : Nat} {c : UInt8} (h : kc[j]? = some (kj, c)) : cnt kc k (j + 1) = cnt kc k j + if kj = k then 1 else 0 := by
  unfold cnt
  rw [List.take_add_one, h]
  simp only [Option.toList_some, List.filter_append, List.length_append]
  by_cases e : kj = k
  · simp [e]
  · simp [e]
theorem cnt_le (kc : List (Nat × UInt8)) (k j : Nat) : cnt kc k j ≤ j := by
  unfold cnt
  refine Nat.le_trans (List.length_filter_le _ _) ?_
  rw [List.length_take]
  exact Nat.min_le_left _ _
theorem ints_snoc {vs : List Value} {ns : List Int} (h : IntsAre vs ns) (n : Int) (t : Tok) : IntsAre (vs ++ [.int n t]) (ns ++ [n]) := by
  induction h with
  | nil => exact .cons n t .nil
  | cons a b _ ih => exact .cons a b ih
theorem ints_rep (n : Int) (t : Tok) : ∀ k : Nat, IntsAre (List.replicate k (.int n t)) (List.replicate k n)
  | 0 => .nil
  | k + 1 => .cons n t (ints_rep n t k)
section
variable {prog : Program} {w : World} {A : Around} {E : Value → Shared → Prop} {s : Shared} {h₀ : Heap} {L : Addr} {m : Str → Option Value} {news : List (Addr × Obj)}
theorem len_lst {l : Addr} {ys : List Value} {n : Nat} {Q : Value → Shared → Prop} (N : News h₀ L s.heap news) (hm : (l, LCg.lst ys) ∈ news) (hl : ys.length = n) (hz : n ≤ 1000) (h : Q (.int ((n : Nat) : Int) (s.toks + 1)) { s with toks := s.toks + 1 + 1 }) : wpAny (model prog w) A (call (.builtin "len") [.ref l]) Q E s := by
  refine PySem.Calls.call_len_list (items := ys.toArray) ⟨_, (N _ hm).1, rfl, _, rfl⟩ (by rw [List.size_toArray, hl]; omega) ?_
  rw [List.size_toArray, hl]
  exact h
theorem mul_cnt {l : Addr} {x : Int} {t u : Tok} {n n0 : Nat} {Q : Value → Shared → Prop} (F : Fr h₀ L s.heap m) (N : News h₀ L s.heap news) (hm : (l, listOf #[.int x t] n0) ∈ news) (hz : n ≤ 256)
    (h : ∀ D h', Fr h₀ L h' m → News h₀ L h' ((D, listOf (List.replicate n (.int x t)).toArray 0) :: news) → (∀ p ∈ news, p.1 < D) → Q (.ref D) { s with heap := h' }) : wpAny (model prog w) A (binaryOp .Mult (.ref l) (.int ((n : Nat) : Int) u)) Q E s :=
  KMa.mul (vs := [.int x t]) F N (made_list N hm) (by omega) (by omega) (by simp; omega) (by simp) h
theorem ne_cnt {a b : Addr} {ys : List Value} {n : Nat} {x : Int} {t : Tok} {Q : Value → Shared → Prop} (N : News h₀ L s.heap news) (m1 : (a, LCg.lst ys) ∈ news) (hi : IntsAre ys (List.replicate n x)) (m2 : (b, listOf (List.replicate n (.int x t)).toArray 0) ∈ news) (hu : A.units + 64 < cLine) (h : Q (.bool false) s) :
    wpAny (model prog w) A (compareOp .NotEq (.ref a) (.ref b)) Q E s :=
  ne_intsK (vs := ys) (us := List.replicate n (.int x t)) ⟨_, (N _ m1).1, rfl, _, rfl⟩ hi (made_list N m2) (ints_rep x t n) hu (by simpa using h)
end
theorem if3_yes {ys : List Value} {ini : Bool} {kc : List (Nat × UInt8)} {k j kj : Nat} {cj : UInt8} {t : Tok} (h : IntsAre ys (List.replicate (if ini = true then 0 else cnt kc k j) ((k : Nat) : Int))) (hkj : kc[j]? = some (kj, cj)) (hi : ini = false ∧ kj = k) :
    IntsAre (ys ++ [.int ((kj : Nat) : Int) t]) (List.replicate (if ini = true then 0 else cnt kc k (j + 1)) ((k : Nat) : Int)) := by
  obtain ⟨rfl, rfl⟩ := hi
  rw [if_neg (by decide)] at h ⊢
  rw [cnt_succ hkj, if_pos rfl, List.replicate_succ']
  exact ints_snoc h _ _
theorem if3_no {ys : List Value} {ini : Bool} {kc : List (Nat × UInt8)} {k j kj : Nat} {cj : UInt8} (h : IntsAre ys (List.replicate (if ini = true then 0 else cnt kc k j) ((k : Nat) : Int))) (hkj : kc[j]? = some (kj, cj)) (hi : ¬ (ini = false ∧ kj = k)) :
    IntsAre ys (List.replicate (if ini = true then 0 else cnt kc k (j + 1)) ((k : Nat) : Int)) := by
  cases ini with
  | true => exact h
  | false =>
    rw [if_neg (by decide)] at h ⊢
    rw [cnt_succ hkj, if_neg (fun e => hi ⟨rfl, e⟩)]
    exact h

end
theorem flush_FE : True := by first | walk1 | exact trivial
section
open PySem PySem.W PySem.Calls PyProof.Rows PyProof.V PySem.Spec
noncomputable def TurnI.gen_P (w : World) (R : List (Addr × Obj)) (nx : List (Addr × Obj)) (nx' : List (Addr × Obj)) (Lc : Addr) (b : Nat → Array UInt8) (ini : Nat → Bool) (kc : List (Nat × UInt8)) (pk : List (Str × Value)) (wd : Addr) (cdx : Addr) (pc : Addr) (crows : Addr) (tl : Addr) (cmem : Addr) (chn : Addr) (cop : Addr) (sl : Addr) (wl : Addr) (i : Nat) (kvs : List (Str × Value)) (st : Nat → Array UInt8) (X : Nat → Option WD) (xs : List Addr) (ts : List Addr) (orow : Array UInt8) : Prop := ∀ (TI : TurnI w R nx Lc b ini kc pk wd cdx pc crows tl cmem chn cop sl wl i kvs st X xs ts orow) (hR : ∀ q ∈ R, q ∈ nx') (nd : ∀ (z : Addr) (o : Obj), (z, o) ∈ nx → o.cls ≠ .type "enumerate" → o.cls ≠ .type "list_iterator" → (∀ v, o.data ≠ .cell v) → (z, o) ∈ nx') (ac : ∃ o v, (Lc + 1 + 1 + 1, o) ∈ nx' ∧ o.data = .cell v) (wc : ∃ o v, (Lc + 1 + 1 + 1 + 1, o) ∈ nx' ∧ o.data = .cell v), TurnI w R nx' Lc b ini kc pk wd cdx pc crows tl cmem chn cop sl wl i kvs st X xs ts orow
noncomputable def TurnI.gen_S (c : Bag) : Prop := TurnI.gen_P c.w (c.news 0) (c.news 1) (c.news 2) (c.n 0) (c.nb 0) c.nbool c.kc (c.kvs 0) (c.n 1) (c.n 2) (c.n 3) (c.n 4) (c.n 5) (c.n 6) (c.n 7) (c.n 8) (c.n 9) (c.n 10) (c.n 11) (c.kvs 1) (c.nb 1) c.nd (c.l 0) (c.l 1) (c.b 0)
@[irreducible] noncomputable def TurnI.gen_c : Bag := pick TurnI.gen_S
theorem TurnI.gen_m : TurnI.gen_S TurnI.gen_c := by
  refine (?zz9 : ∀ (w : World) (R : List (Addr × Obj)) (nx : List (Addr × Obj)) (nx' : List (Addr × Obj)) (Lc : Addr) (b : Nat → Array UInt8) (ini : Nat → Bool) (kc : List (Nat × UInt8)) (pk : List (Str × Value)) (wd : Addr) (cdx : Addr) (pc : Addr) (crows : Addr) (tl : Addr) (cmem : Addr) (chn : Addr) (cop : Addr) (sl : Addr) (wl : Addr) (i : Nat) (kvs : List (Str × Value)) (st : Nat → Array UInt8) (X : Nat → Option WD) (xs : List Addr) (ts : List Addr) (orow : Array UInt8), TurnI.gen_P w R nx nx' Lc b ini kc pk wd cdx pc crows tl cmem chn cop sl wl i kvs st X xs ts orow) TurnI.gen_c.w (TurnI.gen_c.news 0) (TurnI.gen_c.news 1) (TurnI.gen_c.news 2) (TurnI.gen_c.n 0) (TurnI.gen_c.nb 0) TurnI.gen_c.nbool TurnI.gen_c.kc (TurnI.gen_c.kvs 0) (TurnI.gen_c.n 1) (TurnI.gen_c.n 2) (TurnI.gen_c.n 3) (TurnI.gen_c.n 4) (TurnI.gen_c.n 5) (TurnI.gen_c.n 6) (TurnI.gen_c.n 7) (TurnI.gen_c.n 8) (TurnI.gen_c.n 9) (TurnI.gen_c.n 10) (TurnI.gen_c.n 11) (TurnI.gen_c.kvs 1) (TurnI.gen_c.nb 1) TurnI.gen_c.nd (TurnI.gen_c.l 0) (TurnI.gen_c.l 1) (TurnI.gen_c.b 0)
  intro w R nx nx' Lc b ini kc pk wd cdx pc crows tl cmem chn cop sl wl i kvs st X xs ts orow TI hR nd ac wc
  obtain ⟨od, v1, v2⟩ := TI.kv
  obtain ⟨od2, c1, c2⟩ := TI.cd
  obtain ⟨n3, sts, s1, s2, s3⟩ := TI.ss
  obtain ⟨n4, vs, t1, t2, t3⟩ := TI.tt
  obtain ⟨n5, u1⟩ := TI.ww
  refine ⟨hR, ⟨od, nd _ _ v1 ?_ ?_ ?_, v2⟩, ⟨od2, nd _ _ c1 ?_ ?_ ?_, c2⟩, ⟨n3, sts, nd _ _ s1 (by simp [instObj]) (by simp [instObj]) (fun v e => nomatch e), s2, s3⟩, TI.sz, ⟨n4, vs, nd _ _ t1 (by simp [instObj]) (by simp [instObj]) (fun v e => nomatch e), t2, t3⟩, ⟨n5, nd _ _ u1 (by simp [instObj]) (by simp [instObj]) (fun v e => nomatch e)⟩, TI.tn, TI.xn, ?_, ac, wc, ?_, TI.sep, TI.hi⟩
  · obtain ⟨es, ep, x1, x2, _⟩ := v2
    rw [x1.1]; simp
  · obtain ⟨es, ep, x1, x2, _⟩ := v2
    rw [x1.1]; simp
  · obtain ⟨es, ep, x1, x2, _⟩ := v2
    rw [x2]; exact fun v e => nomatch e
  · obtain ⟨_, _, _, _, _, _, _, _, _, _, _, _, _, _, _, _, rfl⟩ := c2
    simp [dictOf]
  · obtain ⟨_, _, _, _, _, _, _, _, _, _, _, _, _, _, _, _, rfl⟩ := c2
    simp [dictOf]
  · obtain ⟨_, _, _, _, _, _, _, _, _, _, _, _, _, _, _, _, rfl⟩ := c2
    exact fun v e => nomatch e
  · intro j kj c hj hkc
    obtain ⟨t, a, x, dx, z1, z2, z3, z4⟩ := TI.wt j kj c hj hkc
    exact ⟨t, a, x, dx, z1, z2, nd _ _ z3 (by simp [instObj]) (by simp [instObj]) (fun v e => nomatch e), nd _ _ z4 (by simp [instObj]) (by simp [instObj]) (fun v e => nomatch e)⟩
  · intro k' hk'
    refine ⟨(TI.wk k' hk').1, fun d' hd' => ?_⟩
    obtain ⟨y1, ⟨p2, y2, f1, ⟨odx, o, f2, f3⟩, ⟨ohn, f4, f5⟩, ⟨om, f6⟩, f7, f8, f9, f10, f11⟩, y4⟩ := (TI.wk k' hk').2 d' hd'
    refine ⟨y1, ⟨p2, y2, nd _ _ f1 (by simp [instObj]) (by simp [instObj]) (fun v e => nomatch e), ⟨odx, o, nd _ _ f2 ?_ ?_ ?_, f3⟩, ⟨ohn, nd _ _ f4 ?_ ?_ ?_, f5⟩, ⟨om, nd _ _ f6 (by simp [instObj]) (by simp [instObj]) (fun v e => nomatch e)⟩, f7, f8, f9, f10, f11⟩, fun hi => nd _ _ (y4 hi) (by simp [instObj]) (by simp [instObj]) (fun v e => nomatch e)⟩
    · obtain ⟨_, _, _, _, _, _, _, _, _, _, _, _, _, _, _, _, rfl⟩ := f3
      simp [dictOf]
    · obtain ⟨_, _, _, _, _, _, _, _, _, _, _, _, _, _, _, _, rfl⟩ := f3
      simp [dictOf]
    · obtain ⟨_, _, _, _, _, _, _, _, _, _, _, _, _, _, _, _, rfl⟩ := f3
      exact fun v e => nomatch e
    · obtain ⟨_, ⟨es, ep, x1, x2, _⟩, _⟩ := f5
      rw [x1.1]; simp
    · obtain ⟨_, ⟨es, ep, x1, x2, _⟩, _⟩ := f5
      rw [x1.1]; simp
    · obtain ⟨_, ⟨es, ep, x1, x2, _⟩, _⟩ := f5
      rw [x2]; exact fun v e => nomatch e
theorem TurnI.gen {w : World} {R nx nx' : List (Addr × Obj)} {Lc : Addr} {b : Nat → Array UInt8} {ini : Nat → Bool} {kc : List (Nat × UInt8)} {pk : List (Str × Value)} {wd cdx pc crows tl cmem chn cop sl wl : Addr} {i : Nat} {kvs : List (Str × Value)} {st : Nat → Array UInt8} {X : Nat → Option WD} {xs ts : List Addr} {orow : Array UInt8}
    (TI : TurnI w R nx Lc b ini kc pk wd cdx pc crows tl cmem chn cop sl wl i kvs st X xs ts orow) (hR : ∀ q ∈ R, q ∈ nx') (nd : ∀ (z : Addr) (o : Obj), (z, o) ∈ nx → o.cls ≠ .type "enumerate" → o.cls ≠ .type "list_iterator" → (∀ v, o.data ≠ .cell v) → (z, o) ∈ nx') (ac : ∃ o v, (Lc + 1 + 1 + 1, o) ∈ nx' ∧ o.data = .cell v) (wc : ∃ o v, (Lc + 1 + 1 + 1 + 1, o) ∈ nx' ∧ o.data = .cell v) :
    TurnI w R nx' Lc b ini kc pk wd cdx pc crows tl cmem chn cop sl wl i kvs st X xs ts orow := by
  exact clo (by with_unfolding_all rfl) TurnI.gen_m (Bag.mk w bag0.gd bag0.cs bag0.v bag0.cl bag0.outer bag0.ar bag0.s bag0.loose bag0.mean bag0.qf bag0.qu (lk [wd, cdx, pc, crows, tl, cmem, chn, cop, sl, wl, i] Lc) bag0.str bag0.heap bag0.m (lk [nx, nx'] R) bag0.q bag0.i bag0.vs bag0.ns (lk [] orow) bag0.bool bag0.o bag0.avs (lk [kvs] pk) (lk [st] b) ini bag0.nn (lk [ts] xs) kc X bag0.u8 bag0.d bag0.ov) TI hR nd ac wc
/-- what holds when the turn's world is named -/
structure AfterT (w : World) (R nx : List (Addr × Obj)) (L : Addr) (b : Nat → Array UInt8) (ini : Nat → Bool) (kc : List (Nat × UInt8)) (pk : List (Str × Value)) (wd cdx pc crows tl cmem chn cop sl wl : Addr)
    (i : Nat) (kvs : List (Str × Value)) (st : Nat → Array UInt8) (X : Nat → Option WD) (xs ts : List Addr) (orow : Array UInt8) (k : Nat) (d : WD) (p I I' : Addr) (io io' : Obj) : Prop where
  turn : TurnI w R nx L b ini kc pk wd cdx pc crows tl cmem chn cop sl wl i kvs st X xs ts orow
  kl : kvs.length ≤ i + 1
  hX : X k = some d
  hp : valueAt pk (nmS k) = some (.ref p)
  fd : ∃ odx, (d.dx, odx) ∈ nx ∧ DWorld w p (Str.ofString "shelf") crows tl d.mem d.hn cop orow odx
  fm : (d.mem, baOf (if ini k = true then b k else st k)) ∈ nx
  wx : ∀ (j kj : Nat) (c : UInt8) (x : Addr), j < i → kc[j]? = some (kj, c) → xs[j]? = some x → (x = d.x ↔ ini k = false ∧ kj = k)
  ac : ∃ oa t, (L + 1 + 1 + 1, oa) ∈ nx ∧ oa.data = .cell (some (.int ((k : Nat) : Int) t))
  wc : ∃ ow, (L + 1 + 1 + 1 + 1, ow) ∈ nx ∧ ow.data = .cell (some (.ref d.x))
  hI : (I, io) ∈ nx
  hI' : (I', io') ∈ nx

end
end
section
local macro_rules | `(tactic| k_all) => `(tactic| first | assumption | exact allLt_mem (by assumption) | exact all_s0 (by assumption) | exact all_s1 (by assumption) | exact all_s2 (by assumption) | exact all_s3 (by assumption) | exact all_s4 (by assumption) | exact allLt_s1 (by assumption) | exact allLt_s2 (by assumption) | exact allLt_s3 (by assumption) | exact allLt_s4 (by assumption))
local macro_rules | `(tactic| walk_at "eval ListComp") => `(tactic| refine hold_of ?_)
local macro_rules | `(tactic| walk_at "exec Assign cons ListComp") => `(tactic| refine hold_of ?_)
local macro_rules | `(tactic| walk_at "CompSrc") => `(tactic| refine hold_of ?_)
local macro_rules | `(tactic| walk_at "CompSrcT") => `(tactic| refine hold_of ?_)
local macro_rules | `(tactic| walk_at "SrcLP") => `(tactic| refine hold_of ?_)
local macro_rules | `(tactic| walk_at "PTSrc") => `(tactic| refine hold_of ?_)
theorem flush_F3 : True := by first | walk1 | exact trivial
section
open PySem PySem.W PySem.Calls PyProof.Rows PyProof.V PySem.Spec
noncomputable def st0_ok_P (w : World) (dp : Nat) (un : Nat) (gd : Option (List Code)) (cn : Str) (cs : Scope) (L0 : Addr) (L : Addr) (a : Addr) (ccd : Value) (cl : List (Str × Addr)) (outer : List Env) (base : Heap) (h₀ : Heap) (s : Shared) (Q : Flow → Shared → Prop) (E : Value → Shared → Prop) (loose : List Str) (mean : ExcName → Option Value) (mg : Str → Option Value) (mb : Str → Option Value) (m9 : Str → Option Value) (u0 : Option Value) (u1 : Option Value) (u2 : Option Value) (R : List (Addr × Obj)) (nx : List (Addr × Obj)) (ld : List (Addr × Obj)) (pd : Addr) (nl : Addr) (rl : Addr) (kl : Addr) (b : Nat → Array UInt8) (ini : Nat → Bool) (r : Nat → Addr) (ks : List Addr) (kc : List (Nat × UInt8)) (pk : List (Str × Value)) (lb : Addr) (wd : Addr) (ca : Addr) (cdx : Addr) (pc : Addr) (crows : Addr) (tl : Addr) (cmem : Addr) (chn : Addr) (cop : Addr) (sl : Addr) (wl : Addr) (i : Nat) (kvs : List (Str × Value)) (st : Nat → Array UInt8) (X : Nat → Option WD) (xs : List Addr) (ts : List Addr) (orow : Array UInt8) (k : Nat) (c : UInt8) (I : Addr) (I' : Addr) (TT : Addr) (aa : Addr) (io : Obj) (io' : Obj) (ti : Tok) : Prop := ∀ (B : Below (ktrTop dp un gd cn cs L0 a ccd cl outer) base (envX cn cs L0 a ccd cl :: outer) h₀) (F : Fr h₀ L s.heap (updL (mT lb ca sl wl kl m9) (xsT.zip [u0, u1, u2]))) (XK : (K w.params).In h₀) (T : Top q loose mean mg mb h₀) (N : News h₀ L s.heap ((I, io) :: (I', io') :: nx)) (hio : io.cls = .type "enumerate") (hio' : io'.cls = .type "list_iterator") (hI : ∀ p ∈ nx, p.1 ≠ I) (hI' : ∀ p ∈ nx, p.1 ≠ I') (hd : dp + 70 < recursionLimit) (hu : un + 700 < cLine) (LR : LapR w R L pd nl rl kl b ini r ks kc pk lb wd ca cdx pc crows tl cmem chn cop sl wl) (TI : TurnI w R nx L b ini kc pk wd cdx pc crows tl cmem chn cop sl wl i kvs st X xs ts orow) (hz : kvs.length ≤ i) (hkc : kc[i]? = some (k, c)) (hb : ∀ k, k < 3 → 0 < (b k).size ∧ (b k).size ≤ 5) (hT : IsTup s.heap TT #[.int (i : Int) ti, .ref aa]) (haa : ks[i]? = some aa) (ret : ∀ nx2 kvs2 X2 d p to2 tw h' tk' m9', Fr h₀ L h' (mU lb ca sl wl kl i c (b k) ti to2 tw m9') → News h₀ L h' nx2 → AfterT w R nx2 L b ini kc pk wd cdx pc crows tl cmem chn cop sl wl i kvs2 st X2 xs ts orow k d p I I' io io' → (∀ y, y ∉ xsT → mU lb ca sl wl kl i c (b k) ti to2 tw m9' y = mT lb ca sl wl kl m9 y) → Q .next {s with heap := h', toks := tk'}), wpAny (model pw w) ((ktrTop dp un gd cn cs L0 a ccd cl outer).deeper (envOfC (Str.ofString "_law_right") scR L 986 (Value.ref 985))) (assign turnTgt (envOfC (Str.ofString "_law_right") scR L 986 (Value.ref 985)) (.ref TT)) (fun _ s₂ => wpP (model pw w) ((ktrTop dp un gd cn cs L0 a ccd cl outer).deeper (envOfC (Str.ofString "_law_right") scR L 986 (Value.ref 985))) (exec (turnBody.getD 0 (.Pass default)) (envOfC (Str.ofString "_law_right") scR L 986 (Value.ref 985))) Q E s₂) E s
noncomputable def st0_ok_S (c : Bag) : Prop := st0_ok_P c.w (c.n 0) (c.n 1) c.gd (c.str 0) c.cs (c.n 2) (c.n 3) (c.n 4) c.v c.cl c.outer (c.heap 0) (c.heap 1) c.s c.qf (c.q 0) c.loose c.mean (c.m 0) (c.m 1) (c.m 2) (c.ov 0) (c.ov 1) (c.ov 2) (c.news 0) (c.news 1) (c.news 2) (c.n 5) (c.n 6) (c.n 7) (c.n 8) (c.nb 0) c.nbool c.nn (c.l 0) c.kc (c.kvs 0) (c.n 9) (c.n 10) (c.n 11) (c.n 12) (c.n 13) (c.n 14) (c.n 15) (c.n 16) (c.n 17) (c.n 18) (c.n 19) (c.n 20) (c.n 21) (c.kvs 1) (c.nb 1) c.nd (c.l 1) (c.l 2) (c.b 0) (c.n 22) c.u8 (c.n 23) (c.n 24) (c.n 25) (c.n 26) (c.o 0) (c.o 1) (c.n 27)
@[irreducible] noncomputable def st0_ok_c : Bag := pick st0_ok_S
theorem st0_ok_m : st0_ok_S st0_ok_c := by
  refine (?zz9 : ∀ (w : World) (dp : Nat) (un : Nat) (gd : Option (List Code)) (cn : Str) (cs : Scope) (L0 : Addr) (L : Addr) (a : Addr) (ccd : Value) (cl : List (Str × Addr)) (outer : List Env) (base : Heap) (h₀ : Heap) (s : Shared) (Q : Flow → Shared → Prop) (E : Value → Shared → Prop) (loose : List Str) (mean : ExcName → Option Value) (mg : Str → Option Value) (mb : Str → Option Value) (m9 : Str → Option Value) (u0 : Option Value) (u1 : Option Value) (u2 : Option Value) (R : List (Addr × Obj)) (nx : List (Addr × Obj)) (ld : List (Addr × Obj)) (pd : Addr) (nl : Addr) (rl : Addr) (kl : Addr) (b : Nat → Array UInt8) (ini : Nat → Bool) (r : Nat → Addr) (ks : List Addr) (kc : List (Nat × UInt8)) (pk : List (Str × Value)) (lb : Addr) (wd : Addr) (ca : Addr) (cdx : Addr) (pc : Addr) (crows : Addr) (tl : Addr) (cmem : Addr) (chn : Addr) (cop : Addr) (sl : Addr) (wl : Addr) (i : Nat) (kvs : List (Str × Value)) (st : Nat → Array UInt8) (X : Nat → Option WD) (xs : List Addr) (ts : List Addr) (orow : Array UInt8) (k : Nat) (c : UInt8) (I : Addr) (I' : Addr) (TT : Addr) (aa : Addr) (io : Obj) (io' : Obj) (ti : Tok), st0_ok_P w dp un gd cn cs L0 L a ccd cl outer base h₀ s Q E loose mean mg mb m9 u0 u1 u2 R nx ld pd nl rl kl b ini r ks kc pk lb wd ca cdx pc crows tl cmem chn cop sl wl i kvs st X xs ts orow k c I I' TT aa io io' ti) st0_ok_c.w (st0_ok_c.n 0) (st0_ok_c.n 1) st0_ok_c.gd (st0_ok_c.str 0) st0_ok_c.cs (st0_ok_c.n 2) (st0_ok_c.n 3) (st0_ok_c.n 4) st0_ok_c.v st0_ok_c.cl st0_ok_c.outer (st0_ok_c.heap 0) (st0_ok_c.heap 1) st0_ok_c.s st0_ok_c.qf (st0_ok_c.q 0) st0_ok_c.loose st0_ok_c.mean (st0_ok_c.m 0) (st0_ok_c.m 1) (st0_ok_c.m 2) (st0_ok_c.ov 0) (st0_ok_c.ov 1) (st0_ok_c.ov 2) (st0_ok_c.news 0) (st0_ok_c.news 1) (st0_ok_c.news 2) (st0_ok_c.n 5) (st0_ok_c.n 6) (st0_ok_c.n 7) (st0_ok_c.n 8) (st0_ok_c.nb 0) st0_ok_c.nbool st0_ok_c.nn (st0_ok_c.l 0) st0_ok_c.kc (st0_ok_c.kvs 0) (st0_ok_c.n 9) (st0_ok_c.n 10) (st0_ok_c.n 11) (st0_ok_c.n 12) (st0_ok_c.n 13) (st0_ok_c.n 14) (st0_ok_c.n 15) (st0_ok_c.n 16) (st0_ok_c.n 17) (st0_ok_c.n 18) (st0_ok_c.n 19) (st0_ok_c.n 20) (st0_ok_c.n 21) (st0_ok_c.kvs 1) (st0_ok_c.nb 1) st0_ok_c.nd (st0_ok_c.l 1) (st0_ok_c.l 2) (st0_ok_c.b 0) (st0_ok_c.n 22) st0_ok_c.u8 (st0_ok_c.n 23) (st0_ok_c.n 24) (st0_ok_c.n 25) (st0_ok_c.n 26) (st0_ok_c.o 0) (st0_ok_c.o 1) (st0_ok_c.n 27)
  intro w dp un gd cn cs L0 L a ccd cl outer base h₀ s Q E loose mean mg mb m9 u0 u1 u2 R nx ld pd nl rl kl b ini r ks kc pk lb wd ca cdx pc crows tl cmem chn cop sl wl i kvs st X xs ts orow k c I I' TT aa io io' ti B F XK T N hio hio' hI hI' hd hu LR TI hz hkc hb hT haa ret
  have h3 : k < 3 := (LR.st.ar.kt i k c hkc).1
  obtain ⟨_, aa', t1, t2, haa', hma⟩ := LR.st.ar.kt i k c hkc
  obtain rfl : aa' = aa := Option.some.inj (haa'.symm.trans haa)
  have hlt : i < kc.length := (List.getElem?_eq_some_iff.mp hkc).1
  have hkz := LR.st.ar.kz
  obtain ⟨oa, va, a1, a2⟩ := TI.ac
  have nII : I ≠ I' := ne_cls N (.head _) (.tail _ (.head _)) (by rw [hio, hio']; decide)
  have N1 := focusR N [(I, io), (I', io'), (L + 1 + 1 + 1, oa)] (by
    refine List.forall_mem_cons.mpr ⟨.head _, List.forall_mem_cons.mpr ⟨.tail _ (.head _), List.forall_mem_cons.mpr ⟨.tail _ (.tail _ a1), fun q hq => nomatch hq⟩⟩⟩)
  have sub1 : ∀ p ∈ nx, p.1 ≠ L + 1 + 1 + 1 → p ∈ restOf [(I, io), (I', io'), (L + 1 + 1 + 1, oa)] ((I, io) :: (I', io') :: nx) := fun p hp hne => in_restR (.tail _ (.tail _ hp)) (List.forall_mem_cons.mpr ⟨hI p hp, List.forall_mem_cons.mpr ⟨hI' p hp, List.forall_mem_cons.mpr ⟨hne, fun q hq => nomatch hq⟩⟩⟩)
  have of1 : ∀ p ∈ restOf [(I, io), (I', io'), (L + 1 + 1 + 1, oa)] ((I, io) :: (I', io') :: nx), p.1 ≠ I ∧ p.1 ≠ I' ∧ p.1 ≠ L + 1 + 1 + 1 ∧ p ∈ nx := fun p hp => by
    obtain ⟨h1, h2⟩ := of_restR hp
    refine ⟨h2 _ (.head _), h2 _ (.tail _ (.head _)), h2 _ (.tail _ (.tail _ (.head _))), ?_⟩
    rcases List.mem_cons.mp h1 with rfl | h1
    · exact absurd rfl (h2 _ (.head _))
    rcases List.mem_cons.mp h1 with rfl | h1
    · exact absurd rfl (h2 _ (.tail _ (.head _)))
    · exact h1
  have nIa : I ≠ L + 1 + 1 + 1 := Ne.symm (hI _ a1)
  have nIa' : I' ≠ L + 1 + 1 + 1 := Ne.symm (hI' _ a1)
  have R1 : ∀ p ∈ R, p ∈ restOf [(I, io), (I', io'), (L + 1 + 1 + 1, oa)] ((I, io) :: (I', io') :: nx) := fun p hp => sub1 p (TI.sub p hp) (LR.off p hp).2.2.2.2.2.1
  generalize hR1 : restOf [(I, io), (I', io'), (L + 1 + 1 + 1, oa)] ((I, io) :: (I', io') :: nx) = R1l at *
  simp only [List.cons_append, List.nil_append] at N1
  have hma1 := R1 _ hma
  have TIp := fun (nx' : List (Addr × Obj)) keep ac wc => TI.put (L + 1 + 1 + 1) (nx' := nx') keep (fun p hp => (LR.off p hp).2.2.2.2.2.1) ⟨oa, va, a1, a2⟩ (fun p hp => N p (.tail _ (.tail _ hp))) ac wc
  obtain ⟨od0, v1, v2⟩ := TI.kv
  have naw : L + 1 + 1 + 1 ≠ wd := ne_data (fun p hp => N p (.tail _ (.tail _ hp))) a1 v1 (by obtain ⟨es, ep, x1, x2, _⟩ := v2; rw [a2, x2]; exact fun h => nomatch h)
  clear hR1
  have off1a : ∀ p ∈ R1l, p.1 ≠ L + 1 + 1 + 1 := fun p hp => (of1 p hp).2.2.1
  have off1b : ∀ p ∈ R1l, p.1 ≠ I := fun p hp => (of1 p hp).1
  have off1c : ∀ p ∈ R1l, p.1 ≠ I' := fun p hp => (of1 p hp).2.1
  conv => pattern (occs := *) scR <;> whnf
  conv => pattern (occs := *) turnTgt <;> whnf
  show wpAny _ _ _ _ _ _
  k_fold
  k_steps
  rename Fr _ _ _ _ => lF
  rename News _ _ _ _ => lN
  rename _ = Data.cell (some (Value.int _ _)) => dat
  have S1 := LR.st.sub R1
  obtain ⟨on, cn1, cn2⟩ := S1.cn
  obtain ⟨or', cr1, cr2⟩ := S1.cr
  obtain ⟨nn, nms, nm1, nm2⟩ := S1.nm
  obtain ⟨tnm, nm3⟩ := nm2 k h3
  have nm4 : nms.toList[((k : Nat) : Int).toNat]? = some (.str (nmS k) tnm) := nm3
  obtain ⟨ow0, vw0, wc0, wc1⟩ := TI.wc
  have TI0 := TIp ((I, io) :: (I', io') :: (L + 1 + 1 + 1, _) :: R1l) (fun p hp hne => .tail _ (.tail _ (.tail _ (sub1 p hp hne)))) ⟨_, _, .tail _ (.tail _ (.head _)), dat⟩ ⟨ow0, vw0, .tail _ (.tail _ (.tail _ (sub1 _ wc0 (Nat.ne_of_gt (Nat.lt_succ_self _))))), wc1⟩
  conv => pattern (occs := *) (List.getD turnBody _ _) <;> whnf
  refine wpP_Assign_Tuple (wpP_Tuple (wpP_spliced_cons (show wpP _ _ (eval _ _) _ _ _ from wpP_Call ?_)))
  k_steps
  refine wpP_callWith_K XK (by k_is) (wpP_of ?_)
  (repeat' (first | (k_unfold; (try dsimp only)) | (k_end; wrow_close) | ((with_reducible show wpAny _ _ (subscriptTail _ _ (Value.ref _) (Value.int _ _)) _ _ _); k_dflt (first | (refine' item_tupK ?Fq33 ?Xq33 ?eq33 ?aq33 ?bq33 ?cq33 ?dq33 ?_; (case Fq33 => k_asm); (case Xq33 => k_asm); (case eq33 => k_is); (case aq33 => decide); (case bq33 => decide); (case cq33 => rfl); (case dq33 => rfl); k_whole) | (refine' item_tup ?Nq33 ?mq33 ?aq33 ?bq33 ?cq33 ?dq33 ?_; (case Nq33 => k_asm); (case mq33 => k_mem); (case aq33 => decide); (case bq33 => decide); (case cq33 => rfl); (case dq33 => rfl); k_whole) | (refine' item_made ?Nq33 ?mq33 ?aq33 ?bq33 ?dq33 ?_; (case Nq33 => k_asm); (case mq33 => k_mem); (case aq33 => first | decide | omega); (case bq33 => first | decide | omega); (case dq33 => first | rfl | with_reducible assumption); k_whole))) | walk1 | (dsimp only; walk1) | (leave1; walk_say "STEP leave1"; (try dsimp only)) | fail "no step"))
  k_dflt (refine' wf_turn ?B ?F ?X ?T ?hk ?N ?hd ?hu ?LR ?TI ?hz ?h3 ?hb ?_; (case B => k_asm); (case F => k_asm); (case X => k_asm); (case T => k_asm); (case hk => first | rfl | assumption); (case N => k_asm); (case hd => first | exact r1 (by assumption) rfl | exact r2 (by assumption) rfl | exact r3 (by assumption) rfl | exact r0 (by assumption) | ktr_room); (case hu => first | exact r1 (by assumption) rfl | exact r2 (by assumption) rfl | exact r3 (by assumption) rfl | exact r0 (by assumption) | k_units); (case LR => exact LR); (case TI => exact TI0); (case hz => omega); (case h3 => exact h3); (case hb => exact hb); k_whole)
  clear TI0
  intro nx' kvs' X' d p h9 tk9 F9 N9 AW
  clear lF lN
  have TI' := AW.turn
  have dxm : ∀ d0, X k = some d0 → ∃ o, (d0.dx, o) ∈ nx := fun d0 h0 => by
    obtain ⟨_, ⟨_, _, W⟩, _⟩ := (TI.wk k h3).2 d0 h0
    obtain ⟨o, _, ho, _⟩ := W.fd
    exact ⟨o, ho⟩
  have mI : (I, io) ∈ nx' := AW.keep _ (.head _) (Ne.symm (hI _ v1)) (fun d0 h0 => Ne.symm (hI _ (dxm d0 h0).choose_spec))
  have mI' : (I', io') ∈ nx' := AW.keep _ (.tail _ (.head _)) (Ne.symm (hI' _ v1)) (fun d0 h0 => Ne.symm (hI' _ (dxm d0 h0).choose_spec))
  have ma := AW.keep _ (.tail _ (.tail _ (.head _))) naw (fun d0 h0 => by
    obtain ⟨_, ⟨_, _, W⟩, _⟩ := (TI.wk k h3).2 d0 h0
    exact Nat.ne_of_lt (Nat.lt_trans (Nat.lt_succ_self _) W.lf.2.2.2.2.2))
  obtain ⟨ow1, vw1, w1, w2⟩ := TI'.wc
  have nIw : I ≠ L + 1 + 1 + 1 + 1 := Ne.symm (hI _ wc0)
  have nIw' : I' ≠ L + 1 + 1 + 1 + 1 := Ne.symm (hI' _ wc0)
  have N2 := News.front N9 w1
  have in2 : ∀ {p : Addr × Obj}, p ∈ nx' → p.1 ≠ L + 1 + 1 + 1 + 1 → p ∈ nx'.filter fun p => decide (p.1 ≠ L + 1 + 1 + 1 + 1) := fun h ne => in_but h ne
  have off2 : ∀ p ∈ nx'.filter fun p => decide (p.1 ≠ L + 1 + 1 + 1 + 1), p.1 ≠ L + 1 + 1 + 1 + 1 := fun p hp => (of_but hp).2
  have ma2 := in2 ma (Nat.ne_of_lt (Nat.lt_succ_self _))
  have S2 := LR.st.sub (fun q hq => in2 (TI'.sub q hq) (LR.off q hq).2.2.2.2.2.2)
  obtain ⟨or2, cr3, cr4⟩ := S2.cr
  obtain ⟨nr, rws, ar1, _, ar3⟩ := S2.ar.rs
  have ar4 : rws.toList[((k : Nat) : Int).toNat]? = some (.ref (r k)) := ar3 k h3
  obtain ⟨tb, rk⟩ := S2.ar.rk k h3
  have fin2 : ∀ (o : Obj) (h' : Heap) (tk' : Nat) (m' : Str → Option Value), News h₀ L h' ((L + 1 + 1 + 1 + 1, o) :: nx'.filter fun p => decide (p.1 ≠ L + 1 + 1 + 1 + 1)) → o.data = .cell (some (.ref d.x)) → Fr h₀ L h' m' →
      m' (Str.ofString "worth") = some (.bytes (b k) tb) → m' (Str.ofString "octet") = some (.int ((UInt8.toNat c : Nat) : Int) t2) → m' (Str.ofString "turn") = some (.int ((i : Nat) : Int) ti) → m' (Str.ofString "worlds") = some (.ref wl) → m' (Str.ofString "stands") = some (.ref sl) → m' (Str.ofString "caller") = some (.ref ca) → m' (Str.ofString "library") = some (.ref lb) → m' (Str.ofString "calls") = some (.ref kl) →
      (∀ y, y ∉ xsT → m' y = mT lb ca sl wl kl m9 y) → Q .next {s with heap := h', toks := tk'} := by
    intro o h' tk' m' N' ho F' g1 g2 g3 g4 g5 g6 g7 g8 same
    have em := mU_eq g1 g2 g3 g4 g5 g6 g7 g8
    have kp : ∀ q ∈ nx', q.1 ≠ L + 1 + 1 + 1 + 1 → q ∈ swap (L + 1 + 1 + 1 + 1) o nx' := fun q h1 h2 => swap_keep h1 h2
    have TI2 := TI'.put (L + 1 + 1 + 1 + 1) (nx' := swap (L + 1 + 1 + 1 + 1) o nx') kp (fun p hp => (LR.off p hp).2.2.2.2.2.2) ⟨ow1, vw1, w1, w2⟩ N9 ⟨_, _, kp _ ma (Nat.ne_of_lt (Nat.lt_succ_self _)), dat⟩ ⟨o, _, swap_new, ho⟩
    obtain ⟨odx, fd1, fd2⟩ := AW.fd
    have ldx := AW.wat.lf.2.2.2.2.2
    refine ret (swap (L + 1 + 1 + 1 + 1) o nx') kvs' X' d p t2 tb h' tk' m' (em ▸ F') N' ⟨TI2, Nat.le_trans AW.kl (Nat.succ_le_succ hz), AW.hX, AW.hp, ⟨odx, kp _ fd1 (Nat.ne_of_gt ldx), fd2⟩, kp _ AW.fm (Nat.ne_of_gt (Nat.lt_trans ldx (Nat.lt_trans AW.wat.o1 AW.wat.o2))), AW.wx, ⟨_, _, kp _ ma (Nat.ne_of_lt (Nat.lt_succ_self _)), dat⟩, ⟨o, swap_new, ho⟩, kp _ mI nIw, kp _ mI' nIw'⟩ ?_
    intro y hy
    rw [← em]
    exact same y hy
  clear ret
  generalize (nx'.filter fun p => decide (p.1 ≠ L + 1 + 1 + 1 + 1)) = nf at *
  clear N9
  refine wpP_of ?_
  (try k_fold)
  (repeat' (first | (k_unfold; (try dsimp only)) | (k_end; wrow_close) | ((with_reducible show wpAny _ _ (subscriptTail _ _ (Value.ref _) (Value.int _ _)) _ _ _); k_dflt (first | (refine' item_tupK ?Fq33 ?Xq33 ?eq33 ?aq33 ?bq33 ?cq33 ?dq33 ?_; (case Fq33 => k_asm); (case Xq33 => k_asm); (case eq33 => k_is); (case aq33 => decide); (case bq33 => decide); (case cq33 => rfl); (case dq33 => rfl); k_whole) | (refine' item_tup ?Nq33 ?mq33 ?aq33 ?bq33 ?cq33 ?dq33 ?_; (case Nq33 => k_asm); (case mq33 => k_mem); (case aq33 => decide); (case bq33 => decide); (case cq33 => rfl); (case dq33 => rfl); k_whole) | (refine' item_made ?Nq33 ?mq33 ?aq33 ?bq33 ?dq33 ?_; (case Nq33 => k_asm); (case mq33 => k_mem); (case aq33 => first | decide | omega); (case bq33 => first | decide | omega); (case dq33 => first | rfl | with_reducible assumption); k_whole))) | walk1 | (dsimp only; walk1) | (leave1; walk_say "STEP leave1"; (try dsimp only)) | fail "no step"))
  rename Fr _ _ _ _ => lF
  rename News _ _ _ _ => lN
  exact fin2 _ _ _ _ (fun p hp => lN p (.tail _ hp)) (by assumption) lF rfl rfl rfl rfl rfl rfl rfl rfl (by intro y hy; have e0 : y ≠ Str.ofString "turn" := fun e => hy (e ▸ .head _); have e1 : y ≠ Str.ofString "octet" := fun e => hy (e ▸ .tail _ (.head _)); have e2 : y ≠ Str.ofString "worth" := fun e => hy (e ▸ .tail _ (.tail _ (.head _))); simp only [e0, beq_eq_false_iff_ne.mpr e0, e1, beq_eq_false_iff_ne.mpr e1, e2, beq_eq_false_iff_ne.mpr e2, if_false, updL, List.zip, List.zipWith, List.lookup_cons, List.lookup_nil])
theorem st0_ok {w : World} {dp un : Nat} {gd : Option (List Code)} {cn : Str} {cs : Scope} {L0 L a : Addr} {ccd : Value} {cl : List (Str × Addr)} {outer : List Env} {base h₀ : Heap} {s : Shared} {Q : Flow → Shared → Prop} {E : Value → Shared → Prop}
   {loose : List Str} {mean : ExcName → Option Value} {mg mb m9 : Str → Option Value} {u0 u1 u2 : Option Value} {R nx ld : List (Addr × Obj)} {pd nl rl kl : Addr} {b : Nat → Array UInt8} {ini : Nat → Bool} {r : Nat → Addr} {ks : List Addr} {kc : List (Nat × UInt8)} {pk : List (Str × Value)}
   {lb wd ca cdx pc crows tl cmem chn cop sl wl : Addr} {i : Nat} {kvs : List (Str × Value)} {st : Nat → Array UInt8} {X : Nat → Option WD} {xs ts : List Addr} {orow : Array UInt8} {k : Nat} {c : UInt8} {I I' TT aa : Addr} {io io' : Obj} {ti : Tok}
   (B : Below (ktrTop dp un gd cn cs L0 a ccd cl outer) base (envX cn cs L0 a ccd cl :: outer) h₀) (F : Fr h₀ L s.heap (updL (mT lb ca sl wl kl m9) (xsT.zip [u0, u1, u2]))) (XK : (K w.params).In h₀) (T : Top q loose mean mg mb h₀)
   (N : News h₀ L s.heap ((I, io) :: (I', io') :: nx)) (hio : io.cls = .type "enumerate") (hio' : io'.cls = .type "list_iterator") (hI : ∀ p ∈ nx, p.1 ≠ I) (hI' : ∀ p ∈ nx, p.1 ≠ I') (hd : dp + 70 < recursionLimit) (hu : un + 700 < cLine)
   (LR : LapR w R L pd nl rl kl b ini r ks kc pk lb wd ca cdx pc crows tl cmem chn cop sl wl) (TI : TurnI w R nx L b ini kc pk wd cdx pc crows tl cmem chn cop sl wl i kvs st X xs ts orow) (hz : kvs.length ≤ i) (hkc : kc[i]? = some (k, c)) (hb : ∀ k, k < 3 → 0 < (b k).size ∧ (b k).size ≤ 5)
   (hT : IsTup s.heap TT #[.int (i : Int) ti, .ref aa]) (haa : ks[i]? = some aa)
   (ret : ∀ nx2 kvs2 X2 d p to2 tw h' tk' m9', Fr h₀ L h' (mU lb ca sl wl kl i c (b k) ti to2 tw m9') → News h₀ L h' nx2 → AfterT w R nx2 L b ini kc pk wd cdx pc crows tl cmem chn cop sl wl i kvs2 st X2 xs ts orow k d p I I' io io' → (∀ y, y ∉ xsT → mU lb ca sl wl kl i c (b k) ti to2 tw m9' y = mT lb ca sl wl kl m9 y) → Q .next {s with heap := h', toks := tk'}) :
   wpAny (model pw w) ((ktrTop dp un gd cn cs L0 a ccd cl outer).deeper (envOfC (Str.ofString "_law_right") scR L 986 (Value.ref 985))) (assign turnTgt (envOfC (Str.ofString "_law_right") scR L 986 (Value.ref 985)) (.ref TT)) (fun _ s₂ => wpP (model pw w) ((ktrTop dp un gd cn cs L0 a ccd cl outer).deeper (envOfC (Str.ofString "_law_right") scR L 986 (Value.ref 985))) (exec (turnBody.getD 0 (.Pass default)) (envOfC (Str.ofString "_law_right") scR L 986 (Value.ref 985))) Q E s₂) E s := by
  exact clo (by with_unfolding_all rfl) st0_ok_m (Bag.mk w gd cs ccd cl outer bag0.ar s loose mean Q bag0.qu (lk [un, L0, L, a, pd, nl, rl, kl, lb, wd, ca, cdx, pc, crows, tl, cmem, chn, cop, sl, wl, i, k, I, I', TT, aa, ti] dp) (lk [] cn) (lk [h₀] base) (lk [mb, m9] mg) (lk [nx, ld] R) (lk [] E) bag0.i bag0.vs bag0.ns (lk [] orow) bag0.bool (lk [io'] io) bag0.avs (lk [kvs] pk) (lk [st] b) ini r (lk [xs, ts] ks) kc X c bag0.d (lk [u1, u2] u0)) B F XK T N hio hio' hI hI' hd hu LR TI hz hkc hb hT haa ret

end
theorem flush_F4 : True := by first | walk1 | exact trivial
section
open PySem PySem.W PySem.Calls PyProof.Rows PyProof.V PySem.Spec
noncomputable def if1_ok_P (w : World) (dp : Nat) (un : Nat) (gd : Option (List Code)) (cn : Str) (cs : Scope) (L0 : Addr) (L : Addr) (a : Addr) (ccd : Value) (cl : List (Str × Addr)) (outer : List Env) (base : Heap) (h₀ : Heap) (s : Shared) (Q : Flow → Shared → Prop) (E : Value → Shared → Prop) (loose : List Str) (mean : ExcName → Option Value) (mg : Str → Option Value) (mb : Str → Option Value) (m9 : Str → Option Value) (nx : List (Addr × Obj)) (pd : Addr) (nl : Addr) (rl : Addr) (kl : Addr) (b : Nat → Array UInt8) (ini : Nat → Bool) (r : Nat → Addr) (ks : List Addr) (kc : List (Nat × UInt8)) (pk : List (Str × Value)) (lb : Addr) (ca : Addr) (sl : Addr) (wl : Addr) (i : Nat) (k : Nat) (c : UInt8) (d : WD) (tw : Tok) (to : Tok) (ti : Tok) (tk0 : Tok) (oa : Obj) (ow : Obj) (st : Nat → Array UInt8) (cur : Array UInt8) (sh : Addr) (p : Addr) (crows : Addr) (tl : Addr) (cop : Addr) (orow : Array UInt8) (odx : Obj) (sts : Array Value) (ns : Nat) (tst : Tok) : Prop := ∀ (B : Below (ktrTop dp un gd cn cs L0 a ccd cl outer) base (envX cn cs L0 a ccd cl :: outer) h₀) (F : Fr h₀ L s.heap (mU lb ca sl wl kl i c (b k) ti to tw m9)) (XK : (K w.params).In h₀) (T : Top q loose mean mg mb h₀) (N : News h₀ L s.heap nx) (hd : dp + 70 < recursionLimit) (hu : un + 700 < cLine) (S1 : StatR w nx L pd nl rl kl b ini r ks kc pk) (h3 : k < 3) (hbb : 0 < (b k).size ∧ (b k).size ≤ 5) (ha : (L + 1 + 1 + 1, oa) ∈ nx) (hoa : oa.data = .cell (some (.int ((k : Nat) : Int) tk0))) (hw : (L + 1 + 1 + 1 + 1, ow) ∈ nx) (how : ow.data = .cell (some (.ref d.x))) (hS : SpotAt w nx d.x d.mem sh (b k).size) (hm : (d.mem, baOf cur) ∈ nx) (hcur : cur = if ini k = true then b k else st k) (hsz : (st k).size = (b k).size) (hss : (sl, listOf sts ns) ∈ nx) (hst : sts.toList[((k : Nat) : Int).toNat]? = some (.bytes (st k) tst)) (hx : (d.x, instObj 806 d.dx) ∈ nx) (hdx : (d.dx, odx) ∈ nx) (hD : DWorld w p (Str.ofString "shelf") crows tl d.mem d.hn cop orow odx) (cdx : Addr) (hca : d.x ≠ ca) (hca2 : (ca, instObj 806 cdx) ∈ nx) (ret : ∀ h' tk', Fr h₀ L h' (mU lb ca sl wl kl i c (b k) ti to tw m9) → News h₀ L h' nx → Q .next {s with heap := h', toks := tk'}), wpAny (model pw w) ((ktrTop dp un gd cn cs L0 a ccd cl outer).deeper (envOfC (Str.ofString "_law_right") scR L 986 (Value.ref 985))) (exec (turnBody.getD 1 (.Pass default)) (envOfC (Str.ofString "_law_right") scR L 986 (Value.ref 985))) Q E s
noncomputable def if1_ok_S (c : Bag) : Prop := if1_ok_P c.w (c.n 0) (c.n 1) c.gd (c.str 0) c.cs (c.n 2) (c.n 3) (c.n 4) c.v c.cl c.outer (c.heap 0) (c.heap 1) c.s c.qf (c.q 0) c.loose c.mean (c.m 0) (c.m 1) (c.m 2) (c.news 0) (c.n 5) (c.n 6) (c.n 7) (c.n 8) (c.nb 0) c.nbool c.nn (c.l 0) c.kc (c.kvs 0) (c.n 9) (c.n 10) (c.n 11) (c.n 12) (c.n 13) (c.n 14) c.u8 c.d (c.n 15) (c.n 16) (c.n 17) (c.n 18) (c.o 0) (c.o 1) (c.nb 1) (c.b 0) (c.n 19) (c.n 20) (c.n 21) (c.n 22) (c.n 23) (c.b 1) (c.o 2) (c.avs 0) (c.n 24) (c.n 25)
@[irreducible] noncomputable def if1_ok_c : Bag := pick if1_ok_S
theorem if1_ok_m : if1_ok_S if1_ok_c := by
  refine (?zz9 : ∀ (w : World) (dp : Nat) (un : Nat) (gd : Option (List Code)) (cn : Str) (cs : Scope) (L0 : Addr) (L : Addr) (a : Addr) (ccd : Value) (cl : List (Str × Addr)) (outer : List Env) (base : Heap) (h₀ : Heap) (s : Shared) (Q : Flow → Shared → Prop) (E : Value → Shared → Prop) (loose : List Str) (mean : ExcName → Option Value) (mg : Str → Option Value) (mb : Str → Option Value) (m9 : Str → Option Value) (nx : List (Addr × Obj)) (pd : Addr) (nl : Addr) (rl : Addr) (kl : Addr) (b : Nat → Array UInt8) (ini : Nat → Bool) (r : Nat → Addr) (ks : List Addr) (kc : List (Nat × UInt8)) (pk : List (Str × Value)) (lb : Addr) (ca : Addr) (sl : Addr) (wl : Addr) (i : Nat) (k : Nat) (c : UInt8) (d : WD) (tw : Tok) (to : Tok) (ti : Tok) (tk0 : Tok) (oa : Obj) (ow : Obj) (st : Nat → Array UInt8) (cur : Array UInt8) (sh : Addr) (p : Addr) (crows : Addr) (tl : Addr) (cop : Addr) (orow : Array UInt8) (odx : Obj) (sts : Array Value) (ns : Nat) (tst : Tok), if1_ok_P w dp un gd cn cs L0 L a ccd cl outer base h₀ s Q E loose mean mg mb m9 nx pd nl rl kl b ini r ks kc pk lb ca sl wl i k c d tw to ti tk0 oa ow st cur sh p crows tl cop orow odx sts ns tst) if1_ok_c.w (if1_ok_c.n 0) (if1_ok_c.n 1) if1_ok_c.gd (if1_ok_c.str 0) if1_ok_c.cs (if1_ok_c.n 2) (if1_ok_c.n 3) (if1_ok_c.n 4) if1_ok_c.v if1_ok_c.cl if1_ok_c.outer (if1_ok_c.heap 0) (if1_ok_c.heap 1) if1_ok_c.s if1_ok_c.qf (if1_ok_c.q 0) if1_ok_c.loose if1_ok_c.mean (if1_ok_c.m 0) (if1_ok_c.m 1) (if1_ok_c.m 2) (if1_ok_c.news 0) (if1_ok_c.n 5) (if1_ok_c.n 6) (if1_ok_c.n 7) (if1_ok_c.n 8) (if1_ok_c.nb 0) if1_ok_c.nbool if1_ok_c.nn (if1_ok_c.l 0) if1_ok_c.kc (if1_ok_c.kvs 0) (if1_ok_c.n 9) (if1_ok_c.n 10) (if1_ok_c.n 11) (if1_ok_c.n 12) (if1_ok_c.n 13) (if1_ok_c.n 14) if1_ok_c.u8 if1_ok_c.d (if1_ok_c.n 15) (if1_ok_c.n 16) (if1_ok_c.n 17) (if1_ok_c.n 18) (if1_ok_c.o 0) (if1_ok_c.o 1) (if1_ok_c.nb 1) (if1_ok_c.b 0) (if1_ok_c.n 19) (if1_ok_c.n 20) (if1_ok_c.n 21) (if1_ok_c.n 22) (if1_ok_c.n 23) (if1_ok_c.b 1) (if1_ok_c.o 2) (if1_ok_c.avs 0) (if1_ok_c.n 24) (if1_ok_c.n 25)
  intro w dp un gd cn cs L0 L a ccd cl outer base h₀ s Q E loose mean mg mb m9 nx pd nl rl kl b ini r ks kc pk lb ca sl wl i k c d tw to ti tk0 oa ow st cur sh p crows tl cop orow odx sts ns tst B F XK T N hd hu S1 h3 hbb ha hoa hw how hS hm hcur hsz hss hst hx hdx hD cdx hca hca2 ret
  obtain ⟨or', cr1, cr2⟩ := S1.cr
  obtain ⟨nr, rws, ar1, _, ar3⟩ := S1.ar.rs
  have ar4 : rws.toList[((k : Nat) : Int).toNat]? = some (.ref (r k)) := ar3 k h3
  obtain ⟨tb, rk⟩ := S1.ar.rk k h3
  obtain ⟨_, _, _, _, _, _, _, _, _, _, _, _, _, _, _, _, rfl⟩ := hD
  have hb0 := hbb.1
  have hb5 := hbb.2
  have hc0 : 0 < cur.size := by rw [hcur]; split <;> omega
  have hc5 : cur.size ≤ 5 := by rw [hcur]; split <;> omega
  have hS' : SpotAt w nx d.x d.mem sh cur.size := by
    have : cur.size = (b k).size := by rw [hcur]; split <;> omega
    rw [this]; exact hS
  clear hS
  conv => pattern (occs := *) scR <;> whnf
  conv => pattern (occs := *) (List.getD turnBody _ _) <;> whnf
  show wpAny _ _ _ _ _ _
  cases hini : ini k with
  | true =>
    rw [hini] at rk hcur
    rw [if_pos rfl] at hcur
    subst hcur
    (try k_fold)
    (repeat' (first | (k_unfold; (try dsimp only)) | (k_end; wrow_close) | ((with_reducible show wpAny _ _ (compareOp CmpOp.Is (Value.ref _) (Value.ref _)) _ _ _); k_dflt (refine' kto_is ?aq56 ?bq56 ?nq56 ?cq56 ?_; (case aq56 => kto_obj); (case bq56 => kto_obj); (case nq56 => first | with_reducible assumption | exact Ne.symm (by with_reducible assumption)); (case cq56 => kto_not); k_whole)) | ((with_reducible show wpAny _ _ (compareOp CmpOp.NotEq (Value.bytes _ _) (Value.bytes _ _)) _ _ _); refine ne_bytes_same ?_) | ((with_reducible show wpAny _ _ (call (Value.ref 850) [Value.ref _, Value.ref 960]) _ _ _); k_dflt (refine' octets_ok ?Bq54 ?Fq54 ?Xq54 ?Tq54 ?hkq54 ?Nq54 ?hdq54 ?huq54 ?hb0q54 ?hbq54 ?hSq54 ?hmq54 ?_; (case Bq54 => k_asm); (case Fq54 => k_asm); (case Xq54 => k_asm); (case Tq54 => k_asm); (case hkq54 => first | rfl | assumption); (case Nq54 => k_asm); (case hdq54 => first | exact r1 (by assumption) rfl | exact r2 (by assumption) rfl | exact r3 (by assumption) rfl | exact r0 (by assumption) | ktr_room); (case huq54 => first | exact r1 (by assumption) rfl | exact r2 (by assumption) rfl | exact r3 (by assumption) rfl | exact r0 (by assumption) | k_units); (case hb0q54 => assumption); (case hbq54 => assumption); (case hSq54 => assumption); (case hmq54 => k_mem); k_whole); intro tz9 hz9 tkz9 Fz9 Nz9) | ((with_reducible show wpAny _ _ (subscriptTail _ _ (Value.ref _) (Value.int _ _)) _ _ _); k_dflt (first | (refine' item_tupK ?Fq33 ?Xq33 ?eq33 ?aq33 ?bq33 ?cq33 ?dq33 ?_; (case Fq33 => k_asm); (case Xq33 => k_asm); (case eq33 => k_is); (case aq33 => decide); (case bq33 => decide); (case cq33 => rfl); (case dq33 => rfl); k_whole) | (refine' item_tup ?Nq33 ?mq33 ?aq33 ?bq33 ?cq33 ?dq33 ?_; (case Nq33 => k_asm); (case mq33 => k_mem); (case aq33 => decide); (case bq33 => decide); (case cq33 => rfl); (case dq33 => rfl); k_whole) | (refine' item_made ?Nq33 ?mq33 ?aq33 ?bq33 ?dq33 ?_; (case Nq33 => k_asm); (case mq33 => k_mem); (case aq33 => first | decide | omega); (case bq33 => first | decide | omega); (case dq33 => first | rfl | with_reducible assumption); k_whole))) | walk1 | (dsimp only; walk1) | (leave1; walk_say "STEP leave1"; (try dsimp only)) | fail "no step"))
    rename Fr _ _ _ _ => lF
    rename News _ _ _ _ => lN
    exact ret _ _ lF lN
  | false =>
    rw [hini] at rk hcur
    rw [if_neg (by decide)] at hcur
    subst hcur
    (try k_fold)
    (repeat' (first | (k_unfold; (try dsimp only)) | (k_end; wrow_close) | ((with_reducible show wpAny _ _ (compareOp CmpOp.Is (Value.ref _) (Value.ref _)) _ _ _); k_dflt (refine' kto_is ?aq56 ?bq56 ?nq56 ?cq56 ?_; (case aq56 => kto_obj); (case bq56 => kto_obj); (case nq56 => first | with_reducible assumption | exact Ne.symm (by with_reducible assumption)); (case cq56 => kto_not); k_whole)) | ((with_reducible show wpAny _ _ (compareOp CmpOp.NotEq (Value.bytes _ _) (Value.bytes _ _)) _ _ _); refine ne_bytes_same ?_) | ((with_reducible show wpAny _ _ (call (Value.ref 850) [Value.ref _, Value.ref 960]) _ _ _); k_dflt (refine' octets_ok ?Bq54 ?Fq54 ?Xq54 ?Tq54 ?hkq54 ?Nq54 ?hdq54 ?huq54 ?hb0q54 ?hbq54 ?hSq54 ?hmq54 ?_; (case Bq54 => k_asm); (case Fq54 => k_asm); (case Xq54 => k_asm); (case Tq54 => k_asm); (case hkq54 => first | rfl | assumption); (case Nq54 => k_asm); (case hdq54 => first | exact r1 (by assumption) rfl | exact r2 (by assumption) rfl | exact r3 (by assumption) rfl | exact r0 (by assumption) | ktr_room); (case huq54 => first | exact r1 (by assumption) rfl | exact r2 (by assumption) rfl | exact r3 (by assumption) rfl | exact r0 (by assumption) | k_units); (case hb0q54 => assumption); (case hbq54 => assumption); (case hSq54 => assumption); (case hmq54 => k_mem); k_whole); intro tz9 hz9 tkz9 Fz9 Nz9) | ((with_reducible show wpAny _ _ (subscriptTail _ _ (Value.ref _) (Value.int _ _)) _ _ _); k_dflt (first | (refine' item_tupK ?Fq33 ?Xq33 ?eq33 ?aq33 ?bq33 ?cq33 ?dq33 ?_; (case Fq33 => k_asm); (case Xq33 => k_asm); (case eq33 => k_is); (case aq33 => decide); (case bq33 => decide); (case cq33 => rfl); (case dq33 => rfl); k_whole) | (refine' item_tup ?Nq33 ?mq33 ?aq33 ?bq33 ?cq33 ?dq33 ?_; (case Nq33 => k_asm); (case mq33 => k_mem); (case aq33 => decide); (case bq33 => decide); (case cq33 => rfl); (case dq33 => rfl); k_whole) | (refine' item_made ?Nq33 ?mq33 ?aq33 ?bq33 ?dq33 ?_; (case Nq33 => k_asm); (case mq33 => k_mem); (case aq33 => first | decide | omega); (case bq33 => first | decide | omega); (case dq33 => first | rfl | with_reducible assumption); k_whole))) | walk1 | (dsimp only; walk1) | (leave1; walk_say "STEP leave1"; (try dsimp only)) | fail "no step"))
    rename Fr _ _ _ _ => lF
    rename News _ _ _ _ => lN
    exact ret _ _ lF lN
theorem if1_ok {w : World} {dp un : Nat} {gd : Option (List Code)} {cn : Str} {cs : Scope} {L0 L a : Addr} {ccd : Value} {cl : List (Str × Addr)} {outer : List Env} {base h₀ : Heap} {s : Shared} {Q : Flow → Shared → Prop} {E : Value → Shared → Prop}
   {loose : List Str} {mean : ExcName → Option Value} {mg mb m9 : Str → Option Value} {nx : List (Addr × Obj)} {pd nl rl kl : Addr} {b : Nat → Array UInt8} {ini : Nat → Bool} {r : Nat → Addr} {ks : List Addr} {kc : List (Nat × UInt8)} {pk : List (Str × Value)}
   {lb ca sl wl : Addr} {i k : Nat} {c : UInt8} {d : WD} {tw to ti tk0 : Tok} {oa ow : Obj} {st : Nat → Array UInt8} {cur : Array UInt8} {sh p crows tl cop : Addr} {orow : Array UInt8} {odx : Obj} {sts : Array Value} {ns : Nat} {tst : Tok}
   (B : Below (ktrTop dp un gd cn cs L0 a ccd cl outer) base (envX cn cs L0 a ccd cl :: outer) h₀) (F : Fr h₀ L s.heap (mU lb ca sl wl kl i c (b k) ti to tw m9)) (XK : (K w.params).In h₀) (T : Top q loose mean mg mb h₀)
   (N : News h₀ L s.heap nx) (hd : dp + 70 < recursionLimit) (hu : un + 700 < cLine) (S1 : StatR w nx L pd nl rl kl b ini r ks kc pk) (h3 : k < 3) (hbb : 0 < (b k).size ∧ (b k).size ≤ 5)
   (ha : (L + 1 + 1 + 1, oa) ∈ nx) (hoa : oa.data = .cell (some (.int ((k : Nat) : Int) tk0))) (hw : (L + 1 + 1 + 1 + 1, ow) ∈ nx) (how : ow.data = .cell (some (.ref d.x)))
   (hS : SpotAt w nx d.x d.mem sh (b k).size) (hm : (d.mem, baOf cur) ∈ nx) (hcur : cur = if ini k = true then b k else st k) (hsz : (st k).size = (b k).size) (hss : (sl, listOf sts ns) ∈ nx) (hst : sts.toList[((k : Nat) : Int).toNat]? = some (.bytes (st k) tst))
   (hx : (d.x, instObj 806 d.dx) ∈ nx) (hdx : (d.dx, odx) ∈ nx) (hD : DWorld w p (Str.ofString "shelf") crows tl d.mem d.hn cop orow odx) {cdx : Addr} (hca : d.x ≠ ca) (hca2 : (ca, instObj 806 cdx) ∈ nx)
   (ret : ∀ h' tk', Fr h₀ L h' (mU lb ca sl wl kl i c (b k) ti to tw m9) → News h₀ L h' nx → Q .next {s with heap := h', toks := tk'}) :
   wpAny (model pw w) ((ktrTop dp un gd cn cs L0 a ccd cl outer).deeper (envOfC (Str.ofString "_law_right") scR L 986 (Value.ref 985))) (exec (turnBody.getD 1 (.Pass default)) (envOfC (Str.ofString "_law_right") scR L 986 (Value.ref 985))) Q E s := by
  exact clo (by with_unfolding_all rfl) if1_ok_m (Bag.mk w gd cs ccd cl outer bag0.ar s loose mean Q bag0.qu (lk [un, L0, L, a, pd, nl, rl, kl, lb, ca, sl, wl, i, k, tw, to, ti, tk0, sh, p, crows, tl, cop, ns, tst] dp) (lk [] cn) (lk [h₀] base) (lk [mb, m9] mg) (lk [] nx) (lk [] E) bag0.i bag0.vs bag0.ns (lk [orow] cur) bag0.bool (lk [ow, odx] oa) (lk [] sts) (lk [] pk) (lk [st] b) ini r (lk [] ks) kc bag0.nd c d bag0.ov) B F XK T N hd hu S1 h3 hbb ha hoa hw how hS hm hcur hsz hss hst hx hdx hD cdx hca hca2 ret

end
theorem flush_F5 : True := by first | walk1 | exact trivial
section
open PySem PySem.W PySem.Calls PyProof.Rows PyProof.V PySem.Spec
noncomputable def if2_ok_P (w : World) (dp : Nat) (un : Nat) (gd : Option (List Code)) (cn : Str) (cs : Scope) (L0 : Addr) (L : Addr) (a : Addr) (ccd : Value) (cl : List (Str × Addr)) (outer : List Env) (base : Heap) (h₀ : Heap) (s : Shared) (Q : Flow → Shared → Prop) (E : Value → Shared → Prop) (loose : List Str) (mean : ExcName → Option Value) (mg : Str → Option Value) (mb : Str → Option Value) (m9 : Str → Option Value) (nx : List (Addr × Obj)) (pd : Addr) (nl : Addr) (rl : Addr) (kl : Addr) (b : Nat → Array UInt8) (ini : Nat → Bool) (r : Nat → Addr) (ks : List Addr) (kc : List (Nat × UInt8)) (pk : List (Str × Value)) (lb : Addr) (ca : Addr) (sl : Addr) (wl : Addr) (i : Nat) (k : Nat) (c : UInt8) (d : WD) (tw : Tok) (to : Tok) (ti : Tok) (tk0 : Tok) (oa : Obj) (ow : Obj) (p : Addr) (pc : Addr) (crows : Addr) (tl : Addr) (cmem : Addr) (chn : Addr) (cop : Addr) (cdx : Addr) (orow : Array UInt8) (odx : Obj) (oc : Obj) : Prop := ∀ (B : Below (ktrTop dp un gd cn cs L0 a ccd cl outer) base (envX cn cs L0 a ccd cl :: outer) h₀) (F : Fr h₀ L s.heap (mU lb ca sl wl kl i c (b k) ti to tw m9)) (XK : (K w.params).In h₀) (T : Top q loose mean mg mb h₀) (N : News h₀ L s.heap nx) (hd : dp + 70 < recursionLimit) (hu : un + 700 < cLine) (S1 : StatR w nx L pd nl rl kl b ini r ks kc pk) (h3 : k < 3) (hbb : 0 < (b k).size ∧ (b k).size ≤ 5) (ha : (L + 1 + 1 + 1, oa) ∈ nx) (hoa : oa.data = .cell (some (.int ((k : Nat) : Int) tk0))) (hw : (L + 1 + 1 + 1 + 1, ow) ∈ nx) (how : ow.data = .cell (some (.ref d.x))) (hx : (d.x, instObj 806 d.dx) ∈ nx) (hdx : (d.dx, odx) ∈ nx) (hD : DWorld w p (Str.ofString "shelf") crows tl d.mem d.hn cop orow odx) (hca2 : (ca, instObj 806 cdx) ∈ nx) (hcd : (cdx, oc) ∈ nx) (hDc : DWorld w pc (Str.ofString "shelf") crows tl cmem chn cop orow oc) (ret : ∀ h' tk', Fr h₀ L h' (mU lb ca sl wl kl i c (b k) ti to tw m9) → News h₀ L h' nx → Q .next {s with heap := h', toks := tk'}), wpAny (model pw w) ((ktrTop dp un gd cn cs L0 a ccd cl outer).deeper (envOfC (Str.ofString "_law_right") scR L 986 (Value.ref 985))) (exec (turnBody.getD 2 (.Pass default)) (envOfC (Str.ofString "_law_right") scR L 986 (Value.ref 985))) Q E s
noncomputable def if2_ok_S (c : Bag) : Prop := if2_ok_P c.w (c.n 0) (c.n 1) c.gd (c.str 0) c.cs (c.n 2) (c.n 3) (c.n 4) c.v c.cl c.outer (c.heap 0) (c.heap 1) c.s c.qf (c.q 0) c.loose c.mean (c.m 0) (c.m 1) (c.m 2) (c.news 0) (c.n 5) (c.n 6) (c.n 7) (c.n 8) (c.nb 0) c.nbool c.nn (c.l 0) c.kc (c.kvs 0) (c.n 9) (c.n 10) (c.n 11) (c.n 12) (c.n 13) (c.n 14) c.u8 c.d (c.n 15) (c.n 16) (c.n 17) (c.n 18) (c.o 0) (c.o 1) (c.n 19) (c.n 20) (c.n 21) (c.n 22) (c.n 23) (c.n 24) (c.n 25) (c.n 26) (c.b 0) (c.o 2) (c.o 3)
@[irreducible] noncomputable def if2_ok_c : Bag := pick if2_ok_S
theorem if2_ok_m : if2_ok_S if2_ok_c := by
  refine (?zz9 : ∀ (w : World) (dp : Nat) (un : Nat) (gd : Option (List Code)) (cn : Str) (cs : Scope) (L0 : Addr) (L : Addr) (a : Addr) (ccd : Value) (cl : List (Str × Addr)) (outer : List Env) (base : Heap) (h₀ : Heap) (s : Shared) (Q : Flow → Shared → Prop) (E : Value → Shared → Prop) (loose : List Str) (mean : ExcName → Option Value) (mg : Str → Option Value) (mb : Str → Option Value) (m9 : Str → Option Value) (nx : List (Addr × Obj)) (pd : Addr) (nl : Addr) (rl : Addr) (kl : Addr) (b : Nat → Array UInt8) (ini : Nat → Bool) (r : Nat → Addr) (ks : List Addr) (kc : List (Nat × UInt8)) (pk : List (Str × Value)) (lb : Addr) (ca : Addr) (sl : Addr) (wl : Addr) (i : Nat) (k : Nat) (c : UInt8) (d : WD) (tw : Tok) (to : Tok) (ti : Tok) (tk0 : Tok) (oa : Obj) (ow : Obj) (p : Addr) (pc : Addr) (crows : Addr) (tl : Addr) (cmem : Addr) (chn : Addr) (cop : Addr) (cdx : Addr) (orow : Array UInt8) (odx : Obj) (oc : Obj), if2_ok_P w dp un gd cn cs L0 L a ccd cl outer base h₀ s Q E loose mean mg mb m9 nx pd nl rl kl b ini r ks kc pk lb ca sl wl i k c d tw to ti tk0 oa ow p pc crows tl cmem chn cop cdx orow odx oc) if2_ok_c.w (if2_ok_c.n 0) (if2_ok_c.n 1) if2_ok_c.gd (if2_ok_c.str 0) if2_ok_c.cs (if2_ok_c.n 2) (if2_ok_c.n 3) (if2_ok_c.n 4) if2_ok_c.v if2_ok_c.cl if2_ok_c.outer (if2_ok_c.heap 0) (if2_ok_c.heap 1) if2_ok_c.s if2_ok_c.qf (if2_ok_c.q 0) if2_ok_c.loose if2_ok_c.mean (if2_ok_c.m 0) (if2_ok_c.m 1) (if2_ok_c.m 2) (if2_ok_c.news 0) (if2_ok_c.n 5) (if2_ok_c.n 6) (if2_ok_c.n 7) (if2_ok_c.n 8) (if2_ok_c.nb 0) if2_ok_c.nbool if2_ok_c.nn (if2_ok_c.l 0) if2_ok_c.kc (if2_ok_c.kvs 0) (if2_ok_c.n 9) (if2_ok_c.n 10) (if2_ok_c.n 11) (if2_ok_c.n 12) (if2_ok_c.n 13) (if2_ok_c.n 14) if2_ok_c.u8 if2_ok_c.d (if2_ok_c.n 15) (if2_ok_c.n 16) (if2_ok_c.n 17) (if2_ok_c.n 18) (if2_ok_c.o 0) (if2_ok_c.o 1) (if2_ok_c.n 19) (if2_ok_c.n 20) (if2_ok_c.n 21) (if2_ok_c.n 22) (if2_ok_c.n 23) (if2_ok_c.n 24) (if2_ok_c.n 25) (if2_ok_c.n 26) (if2_ok_c.b 0) (if2_ok_c.o 2) (if2_ok_c.o 3)
  intro w dp un gd cn cs L0 L a ccd cl outer base h₀ s Q E loose mean mg mb m9 nx pd nl rl kl b ini r ks kc pk lb ca sl wl i k c d tw to ti tk0 oa ow p pc crows tl cmem chn cop cdx orow odx oc B F XK T N hd hu S1 h3 hbb ha hoa hw how hx hdx hD hca2 hcd hDc ret
  obtain ⟨_, _, _, _, _, _, _, _, _, _, _, _, _, _, _, _, rfl⟩ := hD
  obtain ⟨_, _, _, _, _, _, _, _, _, _, _, _, _, _, _, _, rfl⟩ := hDc
  conv => pattern (occs := *) scR <;> whnf
  conv => pattern (occs := *) (List.getD turnBody _ _) <;> whnf
  show wpAny _ _ _ _ _ _
  (try k_fold)
  (repeat' (first | (k_unfold; (try dsimp only)) | (k_end; wrow_close) | ((with_reducible show wpAny _ _ (compareOp CmpOp.IsNot (Value.ref _) (Value.ref _)) _ _ _); refine wpAny_isNot_ref_self ?_) | ((with_reducible show wpAny _ _ (compareOp CmpOp.NotEq (Value.bytes _ _) (Value.bytes _ _)) _ _ _); refine ne_bytes_same ?_) | walk1 | (dsimp only; walk1) | (leave1; walk_say "STEP leave1"; (try dsimp only)) | fail "no step"))
  rename Fr _ _ _ _ => lF
  rename News _ _ _ _ => lN
  exact ret _ _ lF lN
theorem if2_ok {w : World} {dp un : Nat} {gd : Option (List Code)} {cn : Str} {cs : Scope} {L0 L a : Addr} {ccd : Value} {cl : List (Str × Addr)} {outer : List Env} {base h₀ : Heap} {s : Shared} {Q : Flow → Shared → Prop} {E : Value → Shared → Prop}
   {loose : List Str} {mean : ExcName → Option Value} {mg mb m9 : Str → Option Value} {nx : List (Addr × Obj)} {pd nl rl kl : Addr} {b : Nat → Array UInt8} {ini : Nat → Bool} {r : Nat → Addr} {ks : List Addr} {kc : List (Nat × UInt8)} {pk : List (Str × Value)}
   {lb ca sl wl : Addr} {i k : Nat} {c : UInt8} {d : WD} {tw to ti tk0 : Tok} {oa ow : Obj} {p pc crows tl cmem chn cop cdx : Addr} {orow : Array UInt8} {odx oc : Obj}
   (B : Below (ktrTop dp un gd cn cs L0 a ccd cl outer) base (envX cn cs L0 a ccd cl :: outer) h₀) (F : Fr h₀ L s.heap (mU lb ca sl wl kl i c (b k) ti to tw m9)) (XK : (K w.params).In h₀) (T : Top q loose mean mg mb h₀)
   (N : News h₀ L s.heap nx) (hd : dp + 70 < recursionLimit) (hu : un + 700 < cLine) (S1 : StatR w nx L pd nl rl kl b ini r ks kc pk) (h3 : k < 3) (hbb : 0 < (b k).size ∧ (b k).size ≤ 5)
   (ha : (L + 1 + 1 + 1, oa) ∈ nx) (hoa : oa.data = .cell (some (.int ((k : Nat) : Int) tk0))) (hw : (L + 1 + 1 + 1 + 1, ow) ∈ nx) (how : ow.data = .cell (some (.ref d.x)))
   (hx : (d.x, instObj 806 d.dx) ∈ nx) (hdx : (d.dx, odx) ∈ nx) (hD : DWorld w p (Str.ofString "shelf") crows tl d.mem d.hn cop orow odx) (hca2 : (ca, instObj 806 cdx) ∈ nx) (hcd : (cdx, oc) ∈ nx) (hDc : DWorld w pc (Str.ofString "shelf") crows tl cmem chn cop orow oc)
   (ret : ∀ h' tk', Fr h₀ L h' (mU lb ca sl wl kl i c (b k) ti to tw m9) → News h₀ L h' nx → Q .next {s with heap := h', toks := tk'}) :
   wpAny (model pw w) ((ktrTop dp un gd cn cs L0 a ccd cl outer).deeper (envOfC (Str.ofString "_law_right") scR L 986 (Value.ref 985))) (exec (turnBody.getD 2 (.Pass default)) (envOfC (Str.ofString "_law_right") scR L 986 (Value.ref 985))) Q E s := by
  exact clo (by with_unfolding_all rfl) if2_ok_m (Bag.mk w gd cs ccd cl outer bag0.ar s loose mean Q bag0.qu (lk [un, L0, L, a, pd, nl, rl, kl, lb, ca, sl, wl, i, k, tw, to, ti, tk0, p, pc, crows, tl, cmem, chn, cop, cdx] dp) (lk [] cn) (lk [h₀] base) (lk [mb, m9] mg) (lk [] nx) (lk [] E) bag0.i bag0.vs bag0.ns (lk [] orow) bag0.bool (lk [ow, odx, oc] oa) bag0.avs (lk [] pk) (lk [] b) ini r (lk [] ks) kc bag0.nd c d bag0.ov) B F XK T N hd hu S1 h3 hbb ha hoa hw how hx hdx hD hca2 hcd hDc ret

end
theorem flush_F6 : True := by first | walk1 | exact trivial
section
open PySem PySem.W PySem.Calls PyProof.Rows PyProof.V PySem.Spec
noncomputable def st4_ok_P (w : World) (dp : Nat) (un : Nat) (gd : Option (List Code)) (cn : Str) (cs : Scope) (L0 : Addr) (L : Addr) (a : Addr) (ccd : Value) (cl : List (Str × Addr)) (outer : List Env) (base : Heap) (h₀ : Heap) (s : Shared) (Q : Flow → Shared → Prop) (E : Value → Shared → Prop) (loose : List Str) (mean : ExcName → Option Value) (mg : Str → Option Value) (mb : Str → Option Value) (m9 : Str → Option Value) (nx : List (Addr × Obj)) (pd : Addr) (nl : Addr) (rl : Addr) (kl : Addr) (b : Nat → Array UInt8) (ini : Nat → Bool) (r : Nat → Addr) (ks : List Addr) (kc : List (Nat × UInt8)) (pk : List (Str × Value)) (lb : Addr) (ca : Addr) (sl : Addr) (wl : Addr) (i : Nat) (k : Nat) (c : UInt8) (d : WD) (tw : Tok) (to : Tok) (ti : Tok) (tk0 : Tok) (oa : Obj) (ow : Obj) (sts : Array Value) (ns : Nat) : Prop := ∀ (B : Below (ktrTop dp un gd cn cs L0 a ccd cl outer) base (envX cn cs L0 a ccd cl :: outer) h₀) (F : Fr h₀ L s.heap (mU lb ca sl wl kl i c (b k) ti to tw m9)) (XK : (K w.params).In h₀) (T : Top q loose mean mg mb h₀) (N : News h₀ L s.heap nx) (hd : dp + 70 < recursionLimit) (hu : un + 700 < cLine) (S1 : StatR w nx L pd nl rl kl b ini r ks kc pk) (h3 : k < 3) (hbb : 0 < (b k).size ∧ (b k).size ≤ 5) (ha : (L + 1 + 1 + 1, oa) ∈ nx) (hoa : oa.data = .cell (some (.int ((k : Nat) : Int) tk0))) (hw : (L + 1 + 1 + 1 + 1, ow) ∈ nx) (how : ow.data = .cell (some (.ref d.x))) (hss : (sl, listOf sts ns) ∈ nx) (hsn : sts.size = 3) (nsa : L + 1 + 1 + 1 ≠ sl) (ret : ∀ h' tk' sts' ns' tv, Fr h₀ L h' (mU lb ca sl wl kl i c (b k) ti to tw m9) → News h₀ L h' (swap sl (listOf sts' ns') nx) → sts'.size = 3 → sts'.toList[k]? = some (.bytes (Array.replicate (b k).size c) tv) → (∀ j, j ≠ k → sts'.toList[j]? = sts.toList[j]?) → Q .next {s with heap := h', toks := tk'}), wpAny (model pw w) ((ktrTop dp un gd cn cs L0 a ccd cl outer).deeper (envOfC (Str.ofString "_law_right") scR L 986 (Value.ref 985))) (exec (turnBody.getD 4 (.Pass default)) (envOfC (Str.ofString "_law_right") scR L 986 (Value.ref 985))) Q E s
noncomputable def st4_ok_S (c : Bag) : Prop := st4_ok_P c.w (c.n 0) (c.n 1) c.gd (c.str 0) c.cs (c.n 2) (c.n 3) (c.n 4) c.v c.cl c.outer (c.heap 0) (c.heap 1) c.s c.qf (c.q 0) c.loose c.mean (c.m 0) (c.m 1) (c.m 2) (c.news 0) (c.n 5) (c.n 6) (c.n 7) (c.n 8) (c.nb 0) c.nbool c.nn (c.l 0) c.kc (c.kvs 0) (c.n 9) (c.n 10) (c.n 11) (c.n 12) (c.n 13) (c.n 14) c.u8 c.d (c.n 15) (c.n 16) (c.n 17) (c.n 18) (c.o 0) (c.o 1) (c.avs 0) (c.n 19)
@[irreducible] noncomputable def st4_ok_c : Bag := pick st4_ok_S
theorem st4_ok_m : st4_ok_S st4_ok_c := by
  refine (?zz9 : ∀ (w : World) (dp : Nat) (un : Nat) (gd : Option (List Code)) (cn : Str) (cs : Scope) (L0 : Addr) (L : Addr) (a : Addr) (ccd : Value) (cl : List (Str × Addr)) (outer : List Env) (base : Heap) (h₀ : Heap) (s : Shared) (Q : Flow → Shared → Prop) (E : Value → Shared → Prop) (loose : List Str) (mean : ExcName → Option Value) (mg : Str → Option Value) (mb : Str → Option Value) (m9 : Str → Option Value) (nx : List (Addr × Obj)) (pd : Addr) (nl : Addr) (rl : Addr) (kl : Addr) (b : Nat → Array UInt8) (ini : Nat → Bool) (r : Nat → Addr) (ks : List Addr) (kc : List (Nat × UInt8)) (pk : List (Str × Value)) (lb : Addr) (ca : Addr) (sl : Addr) (wl : Addr) (i : Nat) (k : Nat) (c : UInt8) (d : WD) (tw : Tok) (to : Tok) (ti : Tok) (tk0 : Tok) (oa : Obj) (ow : Obj) (sts : Array Value) (ns : Nat), st4_ok_P w dp un gd cn cs L0 L a ccd cl outer base h₀ s Q E loose mean mg mb m9 nx pd nl rl kl b ini r ks kc pk lb ca sl wl i k c d tw to ti tk0 oa ow sts ns) st4_ok_c.w (st4_ok_c.n 0) (st4_ok_c.n 1) st4_ok_c.gd (st4_ok_c.str 0) st4_ok_c.cs (st4_ok_c.n 2) (st4_ok_c.n 3) (st4_ok_c.n 4) st4_ok_c.v st4_ok_c.cl st4_ok_c.outer (st4_ok_c.heap 0) (st4_ok_c.heap 1) st4_ok_c.s st4_ok_c.qf (st4_ok_c.q 0) st4_ok_c.loose st4_ok_c.mean (st4_ok_c.m 0) (st4_ok_c.m 1) (st4_ok_c.m 2) (st4_ok_c.news 0) (st4_ok_c.n 5) (st4_ok_c.n 6) (st4_ok_c.n 7) (st4_ok_c.n 8) (st4_ok_c.nb 0) st4_ok_c.nbool st4_ok_c.nn (st4_ok_c.l 0) st4_ok_c.kc (st4_ok_c.kvs 0) (st4_ok_c.n 9) (st4_ok_c.n 10) (st4_ok_c.n 11) (st4_ok_c.n 12) (st4_ok_c.n 13) (st4_ok_c.n 14) st4_ok_c.u8 st4_ok_c.d (st4_ok_c.n 15) (st4_ok_c.n 16) (st4_ok_c.n 17) (st4_ok_c.n 18) (st4_ok_c.o 0) (st4_ok_c.o 1) (st4_ok_c.avs 0) (st4_ok_c.n 19)
  intro w dp un gd cn cs L0 L a ccd cl outer base h₀ s Q E loose mean mg mb m9 nx pd nl rl kl b ini r ks kc pk lb ca sl wl i k c d tw to ti tk0 oa ow sts ns B F XK T N hd hu S1 h3 hbb ha hoa hw how hss hsn nsa ret
  have N1 := News.front N hss
  have in1 : ∀ {p : Addr × Obj}, p ∈ nx → p.1 ≠ sl → p ∈ nx.filter fun p => decide (p.1 ≠ sl) := fun h ne => in_but h ne
  have off1 : ∀ p ∈ nx.filter fun p => decide (p.1 ≠ sl), p.1 ≠ sl := fun p hp => (of_but hp).2
  have ha1 := in1 ha nsa
  have hk3 : ((k : Nat) : Int).toNat < sts.toList.length := by rw [Array.length_toList, hsn]; exact h3
  have swp : ∀ o : Obj, swap sl o nx = (sl, o) :: nx.filter fun p => decide (p.1 ≠ sl) := fun _ => rfl
  generalize (nx.filter fun p => decide (p.1 ≠ sl)) = nf at *
  have hb5 := hbb.2
  clear N
  conv => pattern (occs := *) scR <;> whnf
  conv => pattern (occs := *) (List.getD turnBody _ _) <;> whnf
  show wpAny _ _ _ _ _ _
  (try k_fold)
  (repeat' (first | (k_unfold; (try dsimp only)) | (k_end; wrow_close) | ((with_reducible show wpAny _ _ (setItem (Value.ref _) (Value.int _ _) _) _ _ _); k_dflt (refine' ki_set ?Fq60 ?Nq60 ?aq60 ?bq60 ?eq60 ?Uq60 ?_; (case Fq60 => k_asm); (case Nq60 => k_asm); (case Uq60 => k_upd); (case aq60 => omega); (case bq60 => omega); (case eq60 => exact setL_k (by assumption)); k_whole); intro hz9 Fz9 Nz9) | ((with_reducible show wpAny _ _ (binaryOp Operator.Mult (Value.bytes _ _) (Value.int _ _)) _ _ _); (refine mul_rep (by omega) ?_); intro tz9 kz9) | ((with_reducible show wpAny _ _ (call (Value.type "bytes") [Value.ref _]) _ _ _); (k_dflt (refine' bytes_one ?Fq58 ?Nq58 ?mq58 ?hq58 ?_; (case Fq58 => k_asm); (case Nq58 => k_asm); (case mq58 => k_mem); (case hq58 => rfl); k_whole)); intro hz9 tz9 kz9 Fz9 Nz9) | walk1 | (dsimp only; walk1) | (leave1; walk_say "STEP leave1"; (try dsimp only)) | fail "no step"))
  rename Fr _ _ _ _ => lF
  rename News _ _ _ _ => lN
  refine' ret _ _ _ _ ?tv lF (show News _ _ _ (swap _ _ _) from by rw [swp]; exact fun p hp => lN p (.tail _ hp)) ?a ?b ?c
  case b =>
    show (List.set _ k _)[k]? = _
    exact List.getElem?_set_self hk3
  case a => rw [List.size_toArray, List.length_set, Array.length_toList, hsn]
  case c =>
    intro j hj
    show (List.set _ k _)[j]? = _
    rw [List.getElem?_set_ne (Ne.symm hj)]
theorem st4_ok {w : World} {dp un : Nat} {gd : Option (List Code)} {cn : Str} {cs : Scope} {L0 L a : Addr} {ccd : Value} {cl : List (Str × Addr)} {outer : List Env} {base h₀ : Heap} {s : Shared} {Q : Flow → Shared → Prop} {E : Value → Shared → Prop}
   {loose : List Str} {mean : ExcName → Option Value} {mg mb m9 : Str → Option Value} {nx : List (Addr × Obj)} {pd nl rl kl : Addr} {b : Nat → Array UInt8} {ini : Nat → Bool} {r : Nat → Addr} {ks : List Addr} {kc : List (Nat × UInt8)} {pk : List (Str × Value)}
   {lb ca sl wl : Addr} {i k : Nat} {c : UInt8} {d : WD} {tw to ti tk0 : Tok} {oa ow : Obj} {sts : Array Value} {ns : Nat}
   (B : Below (ktrTop dp un gd cn cs L0 a ccd cl outer) base (envX cn cs L0 a ccd cl :: outer) h₀) (F : Fr h₀ L s.heap (mU lb ca sl wl kl i c (b k) ti to tw m9)) (XK : (K w.params).In h₀) (T : Top q loose mean mg mb h₀)
   (N : News h₀ L s.heap nx) (hd : dp + 70 < recursionLimit) (hu : un + 700 < cLine) (S1 : StatR w nx L pd nl rl kl b ini r ks kc pk) (h3 : k < 3) (hbb : 0 < (b k).size ∧ (b k).size ≤ 5)
   (ha : (L + 1 + 1 + 1, oa) ∈ nx) (hoa : oa.data = .cell (some (.int ((k : Nat) : Int) tk0))) (hw : (L + 1 + 1 + 1 + 1, ow) ∈ nx) (how : ow.data = .cell (some (.ref d.x)))
   (hss : (sl, listOf sts ns) ∈ nx) (hsn : sts.size = 3) (nsa : L + 1 + 1 + 1 ≠ sl)
   (ret : ∀ h' tk' sts' ns' tv, Fr h₀ L h' (mU lb ca sl wl kl i c (b k) ti to tw m9) → News h₀ L h' (swap sl (listOf sts' ns') nx) → sts'.size = 3 → sts'.toList[k]? = some (.bytes (Array.replicate (b k).size c) tv) → (∀ j, j ≠ k → sts'.toList[j]? = sts.toList[j]?) → Q .next {s with heap := h', toks := tk'}) :
   wpAny (model pw w) ((ktrTop dp un gd cn cs L0 a ccd cl outer).deeper (envOfC (Str.ofString "_law_right") scR L 986 (Value.ref 985))) (exec (turnBody.getD 4 (.Pass default)) (envOfC (Str.ofString "_law_right") scR L 986 (Value.ref 985))) Q E s := by
  exact clo (by with_unfolding_all rfl) st4_ok_m (Bag.mk w gd cs ccd cl outer bag0.ar s loose mean Q bag0.qu (lk [un, L0, L, a, pd, nl, rl, kl, lb, ca, sl, wl, i, k, tw, to, ti, tk0, ns] dp) (lk [] cn) (lk [h₀] base) (lk [mb, m9] mg) (lk [] nx) (lk [] E) bag0.i bag0.vs bag0.ns bag0.b bag0.bool (lk [ow] oa) (lk [] sts) (lk [] pk) (lk [] b) ini r (lk [] ks) kc bag0.nd c d bag0.ov) B F XK T N hd hu S1 h3 hbb ha hoa hw how hss hsn nsa ret

end
theorem flush_F7 : True := by first | walk1 | exact trivial
section
open PySem PySem.W PySem.Calls PyProof.Rows PyProof.V PySem.Spec
noncomputable def st5_ok_P (w : World) (dp : Nat) (un : Nat) (gd : Option (List Code)) (cn : Str) (cs : Scope) (L0 : Addr) (L : Addr) (a : Addr) (ccd : Value) (cl : List (Str × Addr)) (outer : List Env) (base : Heap) (h₀ : Heap) (s : Shared) (Q : Flow → Shared → Prop) (E : Value → Shared → Prop) (loose : List Str) (mean : ExcName → Option Value) (mg : Str → Option Value) (mb : Str → Option Value) (m9 : Str → Option Value) (nx : List (Addr × Obj)) (pd : Addr) (nl : Addr) (rl : Addr) (kl : Addr) (b : Nat → Array UInt8) (ini : Nat → Bool) (r : Nat → Addr) (ks : List Addr) (kc : List (Nat × UInt8)) (pk : List (Str × Value)) (lb : Addr) (ca : Addr) (sl : Addr) (wl : Addr) (i : Nat) (k : Nat) (c : UInt8) (d : WD) (tw : Tok) (to : Tok) (ti : Tok) (tk0 : Tok) (oa : Obj) (ow : Obj) (sts : Array Value) (ns : Nat) (cv : Array UInt8) (cur : Array UInt8) (tv : Tok) (sh : Addr) : Prop := ∀ (B : Below (ktrTop dp un gd cn cs L0 a ccd cl outer) base (envX cn cs L0 a ccd cl :: outer) h₀) (F : Fr h₀ L s.heap (mU lb ca sl wl kl i c (b k) ti to tw m9)) (XK : (K w.params).In h₀) (T : Top q loose mean mg mb h₀) (N : News h₀ L s.heap nx) (hd : dp + 70 < recursionLimit) (hu : un + 700 < cLine) (S1 : StatR w nx L pd nl rl kl b ini r ks kc pk) (h3 : k < 3) (hbb : 0 < (b k).size ∧ (b k).size ≤ 5) (ha : (L + 1 + 1 + 1, oa) ∈ nx) (hoa : oa.data = .cell (some (.int ((k : Nat) : Int) tk0))) (hw : (L + 1 + 1 + 1 + 1, ow) ∈ nx) (how : ow.data = .cell (some (.ref d.x))) (hss : (sl, listOf sts ns) ∈ nx) (hst : sts.toList[((k : Nat) : Int).toNat]? = some (.bytes cv tv)) (hcv : cv.size = (b k).size) (hm : (d.mem, baOf cur) ∈ nx) (hcur : cur.size = (b k).size) (hS : SpotAt w (nx.filter fun p => decide (p.1 ≠ d.mem)) d.x d.mem sh (b k).size) (n1 : sl ≠ d.mem) (n2 : L + 1 + 1 + 1 ≠ d.mem) (n3 : L + 1 + 1 + 1 + 1 ≠ d.mem) (ret : ∀ h' tk', Fr h₀ L h' (mU lb ca sl wl kl i c (b k) ti to tw m9) → News h₀ L h' (swap d.mem (baOf cv) nx) → Q .next {s with heap := h', toks := tk'}), wpP (model pw w) ((ktrTop dp un gd cn cs L0 a ccd cl outer).deeper (envOfC (Str.ofString "_law_right") scR L 986 (Value.ref 985))) (exec (turnBody.getD 5 (.Pass default)) (envOfC (Str.ofString "_law_right") scR L 986 (Value.ref 985))) Q E s
noncomputable def st5_ok_S (c : Bag) : Prop := st5_ok_P c.w (c.n 0) (c.n 1) c.gd (c.str 0) c.cs (c.n 2) (c.n 3) (c.n 4) c.v c.cl c.outer (c.heap 0) (c.heap 1) c.s c.qf (c.q 0) c.loose c.mean (c.m 0) (c.m 1) (c.m 2) (c.news 0) (c.n 5) (c.n 6) (c.n 7) (c.n 8) (c.nb 0) c.nbool c.nn (c.l 0) c.kc (c.kvs 0) (c.n 9) (c.n 10) (c.n 11) (c.n 12) (c.n 13) (c.n 14) c.u8 c.d (c.n 15) (c.n 16) (c.n 17) (c.n 18) (c.o 0) (c.o 1) (c.avs 0) (c.n 19) (c.b 0) (c.b 1) (c.n 20) (c.n 21)
@[irreducible] noncomputable def st5_ok_c : Bag := pick st5_ok_S
theorem st5_ok_m : st5_ok_S st5_ok_c := by
  refine (?zz9 : ∀ (w : World) (dp : Nat) (un : Nat) (gd : Option (List Code)) (cn : Str) (cs : Scope) (L0 : Addr) (L : Addr) (a : Addr) (ccd : Value) (cl : List (Str × Addr)) (outer : List Env) (base : Heap) (h₀ : Heap) (s : Shared) (Q : Flow → Shared → Prop) (E : Value → Shared → Prop) (loose : List Str) (mean : ExcName → Option Value) (mg : Str → Option Value) (mb : Str → Option Value) (m9 : Str → Option Value) (nx : List (Addr × Obj)) (pd : Addr) (nl : Addr) (rl : Addr) (kl : Addr) (b : Nat → Array UInt8) (ini : Nat → Bool) (r : Nat → Addr) (ks : List Addr) (kc : List (Nat × UInt8)) (pk : List (Str × Value)) (lb : Addr) (ca : Addr) (sl : Addr) (wl : Addr) (i : Nat) (k : Nat) (c : UInt8) (d : WD) (tw : Tok) (to : Tok) (ti : Tok) (tk0 : Tok) (oa : Obj) (ow : Obj) (sts : Array Value) (ns : Nat) (cv : Array UInt8) (cur : Array UInt8) (tv : Tok) (sh : Addr), st5_ok_P w dp un gd cn cs L0 L a ccd cl outer base h₀ s Q E loose mean mg mb m9 nx pd nl rl kl b ini r ks kc pk lb ca sl wl i k c d tw to ti tk0 oa ow sts ns cv cur tv sh) st5_ok_c.w (st5_ok_c.n 0) (st5_ok_c.n 1) st5_ok_c.gd (st5_ok_c.str 0) st5_ok_c.cs (st5_ok_c.n 2) (st5_ok_c.n 3) (st5_ok_c.n 4) st5_ok_c.v st5_ok_c.cl st5_ok_c.outer (st5_ok_c.heap 0) (st5_ok_c.heap 1) st5_ok_c.s st5_ok_c.qf (st5_ok_c.q 0) st5_ok_c.loose st5_ok_c.mean (st5_ok_c.m 0) (st5_ok_c.m 1) (st5_ok_c.m 2) (st5_ok_c.news 0) (st5_ok_c.n 5) (st5_ok_c.n 6) (st5_ok_c.n 7) (st5_ok_c.n 8) (st5_ok_c.nb 0) st5_ok_c.nbool st5_ok_c.nn (st5_ok_c.l 0) st5_ok_c.kc (st5_ok_c.kvs 0) (st5_ok_c.n 9) (st5_ok_c.n 10) (st5_ok_c.n 11) (st5_ok_c.n 12) (st5_ok_c.n 13) (st5_ok_c.n 14) st5_ok_c.u8 st5_ok_c.d (st5_ok_c.n 15) (st5_ok_c.n 16) (st5_ok_c.n 17) (st5_ok_c.n 18) (st5_ok_c.o 0) (st5_ok_c.o 1) (st5_ok_c.avs 0) (st5_ok_c.n 19) (st5_ok_c.b 0) (st5_ok_c.b 1) (st5_ok_c.n 20) (st5_ok_c.n 21)
  intro w dp un gd cn cs L0 L a ccd cl outer base h₀ s Q E loose mean mg mb m9 nx pd nl rl kl b ini r ks kc pk lb ca sl wl i k c d tw to ti tk0 oa ow sts ns cv cur tv sh B F XK T N hd hu S1 h3 hbb ha hoa hw how hss hst hcv hm hcur hS n1 n2 n3 ret
  have N1 := News.front N hm
  have in1 : ∀ {p : Addr × Obj}, p ∈ nx → p.1 ≠ d.mem → p ∈ nx.filter fun p => decide (p.1 ≠ d.mem) := fun h ne => in_but h ne
  have off1 : ∀ p ∈ nx.filter fun p => decide (p.1 ≠ d.mem), p.1 ≠ d.mem := fun p hp => (of_but hp).2
  have q1 := in1 ha n2
  have q2 := in1 hw n3
  have q3 := in1 hss n1
  have swp : ∀ o : Obj, swap d.mem o nx = (d.mem, o) :: nx.filter fun p => decide (p.1 ≠ d.mem) := fun _ => rfl
  generalize (nx.filter fun p => decide (p.1 ≠ d.mem)) = nf at *
  have hb5 := hbb.2
  have hb0 := hbb.1
  clear N
  conv => pattern (occs := *) scR <;> whnf
  conv => pattern (occs := *) (List.getD turnBody _ _) <;> whnf
  refine wpP_Expr (wpP_Call ?_)
  k_steps
  refine wpP_callWith_K XK (by k_is) (wpP_of ?_)
  (repeat' (first | (k_unfold; (try dsimp only)) | (k_end; wrow_close) | ((with_reducible show wpAny _ _ (subscriptTail _ _ (Value.ref _) (Value.int _ _)) _ _ _); k_dflt (first | (refine' item_tupK ?Fq33 ?Xq33 ?eq33 ?aq33 ?bq33 ?cq33 ?dq33 ?_; (case Fq33 => k_asm); (case Xq33 => k_asm); (case eq33 => k_is); (case aq33 => decide); (case bq33 => decide); (case cq33 => rfl); (case dq33 => rfl); k_whole) | (refine' item_tup ?Nq33 ?mq33 ?aq33 ?bq33 ?cq33 ?dq33 ?_; (case Nq33 => k_asm); (case mq33 => k_mem); (case aq33 => decide); (case bq33 => decide); (case cq33 => rfl); (case dq33 => rfl); k_whole) | (refine' item_made ?Nq33 ?mq33 ?aq33 ?bq33 ?dq33 ?_; (case Nq33 => k_asm); (case mq33 => k_mem); (case aq33 => first | decide | omega); (case bq33 => first | decide | omega); (case dq33 => first | rfl | with_reducible assumption); k_whole))) | walk1 | (dsimp only; walk1) | (leave1; walk_say "STEP leave1"; (try dsimp only)) | fail "no step"))
  rename Fr _ _ _ _ => lF
  rename News _ _ _ _ => lN
  k_dflt (refine' put_ok ?B ?F ?X ?T ?hk ?N ?hd ?hu ?hb0 ?hb ?hc ?hS ?off ?_; (case B => k_asm); (case F => k_asm); (case X => k_asm); (case T => k_asm); (case hk => first | rfl | assumption); (case N => exact lN); (case hd => first | exact r1 (by assumption) rfl | exact r2 (by assumption) rfl | exact r3 (by assumption) rfl | exact r0 (by assumption) | ktr_room); (case hu => first | exact r1 (by assumption) rfl | exact r2 (by assumption) rfl | exact r3 (by assumption) rfl | exact r0 (by assumption) | k_units); (case hb0 => rw [hcur]; exact hb0); (case hb => rw [hcur]; exact hb5); (case hc => rw [hcv, hcur]); (case hS => rw [hcur]; exact hS); (case off => exact off1); k_whole)
  intro h9 tk9 F9 N9
  exact ret _ _ F9 (by rw [swp]; exact N9)
theorem st5_ok {w : World} {dp un : Nat} {gd : Option (List Code)} {cn : Str} {cs : Scope} {L0 L a : Addr} {ccd : Value} {cl : List (Str × Addr)} {outer : List Env} {base h₀ : Heap} {s : Shared} {Q : Flow → Shared → Prop} {E : Value → Shared → Prop}
   {loose : List Str} {mean : ExcName → Option Value} {mg mb m9 : Str → Option Value} {nx : List (Addr × Obj)} {pd nl rl kl : Addr} {b : Nat → Array UInt8} {ini : Nat → Bool} {r : Nat → Addr} {ks : List Addr} {kc : List (Nat × UInt8)} {pk : List (Str × Value)}
   {lb ca sl wl : Addr} {i k : Nat} {c : UInt8} {d : WD} {tw to ti tk0 : Tok} {oa ow : Obj} {sts : Array Value} {ns : Nat} {cv cur : Array UInt8} {tv : Tok} {sh : Addr}
   (B : Below (ktrTop dp un gd cn cs L0 a ccd cl outer) base (envX cn cs L0 a ccd cl :: outer) h₀) (F : Fr h₀ L s.heap (mU lb ca sl wl kl i c (b k) ti to tw m9)) (XK : (K w.params).In h₀) (T : Top q loose mean mg mb h₀)
   (N : News h₀ L s.heap nx) (hd : dp + 70 < recursionLimit) (hu : un + 700 < cLine) (S1 : StatR w nx L pd nl rl kl b ini r ks kc pk) (h3 : k < 3) (hbb : 0 < (b k).size ∧ (b k).size ≤ 5)
   (ha : (L + 1 + 1 + 1, oa) ∈ nx) (hoa : oa.data = .cell (some (.int ((k : Nat) : Int) tk0))) (hw : (L + 1 + 1 + 1 + 1, ow) ∈ nx) (how : ow.data = .cell (some (.ref d.x)))
   (hss : (sl, listOf sts ns) ∈ nx) (hst : sts.toList[((k : Nat) : Int).toNat]? = some (.bytes cv tv)) (hcv : cv.size = (b k).size) (hm : (d.mem, baOf cur) ∈ nx) (hcur : cur.size = (b k).size) (hS : SpotAt w (nx.filter fun p => decide (p.1 ≠ d.mem)) d.x d.mem sh (b k).size) (n1 : sl ≠ d.mem) (n2 : L + 1 + 1 + 1 ≠ d.mem) (n3 : L + 1 + 1 + 1 + 1 ≠ d.mem)
   (ret : ∀ h' tk', Fr h₀ L h' (mU lb ca sl wl kl i c (b k) ti to tw m9) → News h₀ L h' (swap d.mem (baOf cv) nx) → Q .next {s with heap := h', toks := tk'}) :
   wpP (model pw w) ((ktrTop dp un gd cn cs L0 a ccd cl outer).deeper (envOfC (Str.ofString "_law_right") scR L 986 (Value.ref 985))) (exec (turnBody.getD 5 (.Pass default)) (envOfC (Str.ofString "_law_right") scR L 986 (Value.ref 985))) Q E s := by
  exact clo (by with_unfolding_all rfl) st5_ok_m (Bag.mk w gd cs ccd cl outer bag0.ar s loose mean Q bag0.qu (lk [un, L0, L, a, pd, nl, rl, kl, lb, ca, sl, wl, i, k, tw, to, ti, tk0, ns, tv, sh] dp) (lk [] cn) (lk [h₀] base) (lk [mb, m9] mg) (lk [] nx) (lk [] E) bag0.i bag0.vs bag0.ns (lk [cur] cv) bag0.bool (lk [ow] oa) (lk [] sts) (lk [] pk) (lk [] b) ini r (lk [] ks) kc bag0.nd c d bag0.ov) B F XK T N hd hu S1 h3 hbb ha hoa hw how hss hst hcv hm hcur hS n1 n2 n3 ret

end
theorem flush_F8 : True := by first | walk1 | exact trivial
section
open PySem PySem.W PySem.Calls PyProof.Rows PyProof.V PySem.Spec
noncomputable def st6_ok_P (w : World) (dp : Nat) (un : Nat) (gd : Option (List Code)) (cn : Str) (cs : Scope) (L0 : Addr) (L : Addr) (a : Addr) (ccd : Value) (cl : List (Str × Addr)) (outer : List Env) (base : Heap) (h₀ : Heap) (s : Shared) (Q : Flow → Shared → Prop) (E : Value → Shared → Prop) (loose : List Str) (mean : ExcName → Option Value) (mg : Str → Option Value) (mb : Str → Option Value) (m9 : Str → Option Value) (nx : List (Addr × Obj)) (pd : Addr) (nl : Addr) (rl : Addr) (kl : Addr) (b : Nat → Array UInt8) (ini : Nat → Bool) (r : Nat → Addr) (ks : List Addr) (kc : List (Nat × UInt8)) (pk : List (Str × Value)) (lb : Addr) (ca : Addr) (sl : Addr) (wl : Addr) (i : Nat) (k : Nat) (c : UInt8) (d : WD) (tw : Tok) (to : Tok) (ti : Tok) (tk0 : Tok) (oa : Obj) (ow : Obj) (sts : Array Value) (vs : Array Value) (ns : Nat) (nv : Nat) (cv : Array UInt8) (tv : Tok) (p : Addr) (crows : Addr) (tl : Addr) (cop : Addr) (orow : Array UInt8) (odx : Obj) : Prop := ∀ (B : Below (ktrTop dp un gd cn cs L0 a ccd cl outer) base (envX cn cs L0 a ccd cl :: outer) h₀) (F : Fr h₀ L s.heap (mU lb ca sl wl kl i c (b k) ti to tw m9)) (XK : (K w.params).In h₀) (T : Top q loose mean mg mb h₀) (N : News h₀ L s.heap nx) (hd : dp + 70 < recursionLimit) (hu : un + 700 < cLine) (S1 : StatR w nx L pd nl rl kl b ini r ks kc pk) (h3 : k < 3) (hbb : 0 < (b k).size ∧ (b k).size ≤ 5) (ha : (L + 1 + 1 + 1, oa) ∈ nx) (hoa : oa.data = .cell (some (.int ((k : Nat) : Int) tk0))) (hw : (L + 1 + 1 + 1 + 1, ow) ∈ nx) (how : ow.data = .cell (some (.ref d.x))) (hss : (sl, listOf sts ns) ∈ nx) (hst : sts.toList[((k : Nat) : Int).toNat]? = some (.bytes cv tv)) (hx : (d.x, instObj 806 d.dx) ∈ nx) (hdx : (d.dx, odx) ∈ nx) (hD : DWorld w p (Str.ofString "shelf") crows tl d.mem d.hn cop orow odx) (htl : (tl, listOf vs nv) ∈ nx) (hvz : vs.size ≤ 100) (n1 : sl ≠ tl) (n2 : L + 1 + 1 + 1 ≠ tl) (n3 : L + 1 + 1 + 1 + 1 ≠ tl) (n4 : d.x ≠ tl) (n5 : d.dx ≠ tl) (ret : ∀ h' tk' vs' nv', Fr h₀ L h' (mU lb ca sl wl kl i c (b k) ti to tw m9) → News h₀ L h' (swap tl (listOf vs' nv') nx) → vs'.toList = vs.toList ++ [.bytes cv tv] → Q .next {s with heap := h', toks := tk'}), wpAny (model pw w) ((ktrTop dp un gd cn cs L0 a ccd cl outer).deeper (envOfC (Str.ofString "_law_right") scR L 986 (Value.ref 985))) (exec (turnBody.getD 6 (.Pass default)) (envOfC (Str.ofString "_law_right") scR L 986 (Value.ref 985))) Q E s
noncomputable def st6_ok_S (c : Bag) : Prop := st6_ok_P c.w (c.n 0) (c.n 1) c.gd (c.str 0) c.cs (c.n 2) (c.n 3) (c.n 4) c.v c.cl c.outer (c.heap 0) (c.heap 1) c.s c.qf (c.q 0) c.loose c.mean (c.m 0) (c.m 1) (c.m 2) (c.news 0) (c.n 5) (c.n 6) (c.n 7) (c.n 8) (c.nb 0) c.nbool c.nn (c.l 0) c.kc (c.kvs 0) (c.n 9) (c.n 10) (c.n 11) (c.n 12) (c.n 13) (c.n 14) c.u8 c.d (c.n 15) (c.n 16) (c.n 17) (c.n 18) (c.o 0) (c.o 1) (c.avs 0) (c.avs 1) (c.n 19) (c.n 20) (c.b 0) (c.n 21) (c.n 22) (c.n 23) (c.n 24) (c.n 25) (c.b 1) (c.o 2)
@[irreducible] noncomputable def st6_ok_c : Bag := pick st6_ok_S
theorem st6_ok_m : st6_ok_S st6_ok_c := by
  refine (?zz9 : ∀ (w : World) (dp : Nat) (un : Nat) (gd : Option (List Code)) (cn : Str) (cs : Scope) (L0 : Addr) (L : Addr) (a : Addr) (ccd : Value) (cl : List (Str × Addr)) (outer : List Env) (base : Heap) (h₀ : Heap) (s : Shared) (Q : Flow → Shared → Prop) (E : Value → Shared → Prop) (loose : List Str) (mean : ExcName → Option Value) (mg : Str → Option Value) (mb : Str → Option Value) (m9 : Str → Option Value) (nx : List (Addr × Obj)) (pd : Addr) (nl : Addr) (rl : Addr) (kl : Addr) (b : Nat → Array UInt8) (ini : Nat → Bool) (r : Nat → Addr) (ks : List Addr) (kc : List (Nat × UInt8)) (pk : List (Str × Value)) (lb : Addr) (ca : Addr) (sl : Addr) (wl : Addr) (i : Nat) (k : Nat) (c : UInt8) (d : WD) (tw : Tok) (to : Tok) (ti : Tok) (tk0 : Tok) (oa : Obj) (ow : Obj) (sts : Array Value) (vs : Array Value) (ns : Nat) (nv : Nat) (cv : Array UInt8) (tv : Tok) (p : Addr) (crows : Addr) (tl : Addr) (cop : Addr) (orow : Array UInt8) (odx : Obj), st6_ok_P w dp un gd cn cs L0 L a ccd cl outer base h₀ s Q E loose mean mg mb m9 nx pd nl rl kl b ini r ks kc pk lb ca sl wl i k c d tw to ti tk0 oa ow sts vs ns nv cv tv p crows tl cop orow odx) st6_ok_c.w (st6_ok_c.n 0) (st6_ok_c.n 1) st6_ok_c.gd (st6_ok_c.str 0) st6_ok_c.cs (st6_ok_c.n 2) (st6_ok_c.n 3) (st6_ok_c.n 4) st6_ok_c.v st6_ok_c.cl st6_ok_c.outer (st6_ok_c.heap 0) (st6_ok_c.heap 1) st6_ok_c.s st6_ok_c.qf (st6_ok_c.q 0) st6_ok_c.loose st6_ok_c.mean (st6_ok_c.m 0) (st6_ok_c.m 1) (st6_ok_c.m 2) (st6_ok_c.news 0) (st6_ok_c.n 5) (st6_ok_c.n 6) (st6_ok_c.n 7) (st6_ok_c.n 8) (st6_ok_c.nb 0) st6_ok_c.nbool st6_ok_c.nn (st6_ok_c.l 0) st6_ok_c.kc (st6_ok_c.kvs 0) (st6_ok_c.n 9) (st6_ok_c.n 10) (st6_ok_c.n 11) (st6_ok_c.n 12) (st6_ok_c.n 13) (st6_ok_c.n 14) st6_ok_c.u8 st6_ok_c.d (st6_ok_c.n 15) (st6_ok_c.n 16) (st6_ok_c.n 17) (st6_ok_c.n 18) (st6_ok_c.o 0) (st6_ok_c.o 1) (st6_ok_c.avs 0) (st6_ok_c.avs 1) (st6_ok_c.n 19) (st6_ok_c.n 20) (st6_ok_c.b 0) (st6_ok_c.n 21) (st6_ok_c.n 22) (st6_ok_c.n 23) (st6_ok_c.n 24) (st6_ok_c.n 25) (st6_ok_c.b 1) (st6_ok_c.o 2)
  intro w dp un gd cn cs L0 L a ccd cl outer base h₀ s Q E loose mean mg mb m9 nx pd nl rl kl b ini r ks kc pk lb ca sl wl i k c d tw to ti tk0 oa ow sts vs ns nv cv tv p crows tl cop orow odx B F XK T N hd hu S1 h3 hbb ha hoa hw how hss hst hx hdx hD htl hvz n1 n2 n3 n4 n5 ret
  have N1 := News.front N htl
  have in1 : ∀ {p : Addr × Obj}, p ∈ nx → p.1 ≠ tl → p ∈ nx.filter fun p => decide (p.1 ≠ tl) := fun h ne => in_but h ne
  have off1 : ∀ p ∈ nx.filter fun p => decide (p.1 ≠ tl), p.1 ≠ tl := fun p hp => (of_but hp).2
  have q1 := in1 ha n2
  have q2 := in1 hw n3
  have q3 := in1 hss n1
  have q4 := in1 hx n4
  have q5 := in1 hdx n5
  obtain ⟨_, _, _, _, _, _, _, _, _, _, _, _, _, _, _, _, rfl⟩ := hD
  have swp : ∀ o : Obj, swap tl o nx = (tl, o) :: nx.filter fun p => decide (p.1 ≠ tl) := fun _ => rfl
  generalize (nx.filter fun p => decide (p.1 ≠ tl)) = nf at *
  have hb5 := hbb.2
  have hb0 := hbb.1
  clear N
  conv => pattern (occs := *) scR <;> whnf
  conv => pattern (occs := *) (List.getD turnBody _ _) <;> whnf
  show wpAny _ _ _ _ _ _
  (try k_fold)
  (repeat' (first | (k_unfold; (try dsimp only)) | (k_end; wrow_close) | ((with_reducible show wpAny _ _ (subscriptTail _ _ (Value.ref _) (Value.int _ _)) _ _ _); k_dflt (first | (refine' item_tupK ?Fq33 ?Xq33 ?eq33 ?aq33 ?bq33 ?cq33 ?dq33 ?_; (case Fq33 => k_asm); (case Xq33 => k_asm); (case eq33 => k_is); (case aq33 => decide); (case bq33 => decide); (case cq33 => rfl); (case dq33 => rfl); k_whole) | (refine' item_tup ?Nq33 ?mq33 ?aq33 ?bq33 ?cq33 ?dq33 ?_; (case Nq33 => k_asm); (case mq33 => k_mem); (case aq33 => decide); (case bq33 => decide); (case cq33 => rfl); (case dq33 => rfl); k_whole) | (refine' item_made ?Nq33 ?mq33 ?aq33 ?bq33 ?dq33 ?_; (case Nq33 => k_asm); (case mq33 => k_mem); (case aq33 => first | decide | omega); (case bq33 => first | decide | omega); (case dq33 => first | rfl | with_reducible assumption); k_whole))) | walk1 | (dsimp only; walk1) | (leave1; walk_say "STEP leave1"; (try dsimp only)) | fail "no step"))
  rename Fr _ _ _ _ => lF
  rename News _ _ _ _ => lN
  exact ret _ _ _ _ lF (show News _ _ _ (swap _ _ _) from by rw [swp]; exact lN) (by rw [Array.toList_push])
theorem st6_ok {w : World} {dp un : Nat} {gd : Option (List Code)} {cn : Str} {cs : Scope} {L0 L a : Addr} {ccd : Value} {cl : List (Str × Addr)} {outer : List Env} {base h₀ : Heap} {s : Shared} {Q : Flow → Shared → Prop} {E : Value → Shared → Prop}
   {loose : List Str} {mean : ExcName → Option Value} {mg mb m9 : Str → Option Value} {nx : List (Addr × Obj)} {pd nl rl kl : Addr} {b : Nat → Array UInt8} {ini : Nat → Bool} {r : Nat → Addr} {ks : List Addr} {kc : List (Nat × UInt8)} {pk : List (Str × Value)}
   {lb ca sl wl : Addr} {i k : Nat} {c : UInt8} {d : WD} {tw to ti tk0 : Tok} {oa ow : Obj} {sts vs : Array Value} {ns nv : Nat} {cv : Array UInt8} {tv : Tok} {p crows tl cop : Addr} {orow : Array UInt8} {odx : Obj}
   (B : Below (ktrTop dp un gd cn cs L0 a ccd cl outer) base (envX cn cs L0 a ccd cl :: outer) h₀) (F : Fr h₀ L s.heap (mU lb ca sl wl kl i c (b k) ti to tw m9)) (XK : (K w.params).In h₀) (T : Top q loose mean mg mb h₀)
   (N : News h₀ L s.heap nx) (hd : dp + 70 < recursionLimit) (hu : un + 700 < cLine) (S1 : StatR w nx L pd nl rl kl b ini r ks kc pk) (h3 : k < 3) (hbb : 0 < (b k).size ∧ (b k).size ≤ 5)
   (ha : (L + 1 + 1 + 1, oa) ∈ nx) (hoa : oa.data = .cell (some (.int ((k : Nat) : Int) tk0))) (hw : (L + 1 + 1 + 1 + 1, ow) ∈ nx) (how : ow.data = .cell (some (.ref d.x)))
   (hss : (sl, listOf sts ns) ∈ nx) (hst : sts.toList[((k : Nat) : Int).toNat]? = some (.bytes cv tv)) (hx : (d.x, instObj 806 d.dx) ∈ nx) (hdx : (d.dx, odx) ∈ nx) (hD : DWorld w p (Str.ofString "shelf") crows tl d.mem d.hn cop orow odx) (htl : (tl, listOf vs nv) ∈ nx) (hvz : vs.size ≤ 100)
   (n1 : sl ≠ tl) (n2 : L + 1 + 1 + 1 ≠ tl) (n3 : L + 1 + 1 + 1 + 1 ≠ tl) (n4 : d.x ≠ tl) (n5 : d.dx ≠ tl)
   (ret : ∀ h' tk' vs' nv', Fr h₀ L h' (mU lb ca sl wl kl i c (b k) ti to tw m9) → News h₀ L h' (swap tl (listOf vs' nv') nx) → vs'.toList = vs.toList ++ [.bytes cv tv] → Q .next {s with heap := h', toks := tk'}) :
   wpAny (model pw w) ((ktrTop dp un gd cn cs L0 a ccd cl outer).deeper (envOfC (Str.ofString "_law_right") scR L 986 (Value.ref 985))) (exec (turnBody.getD 6 (.Pass default)) (envOfC (Str.ofString "_law_right") scR L 986 (Value.ref 985))) Q E s := by
  exact clo (by with_unfolding_all rfl) st6_ok_m (Bag.mk w gd cs ccd cl outer bag0.ar s loose mean Q bag0.qu (lk [un, L0, L, a, pd, nl, rl, kl, lb, ca, sl, wl, i, k, tw, to, ti, tk0, ns, nv, tv, p, crows, tl, cop] dp) (lk [] cn) (lk [h₀] base) (lk [mb, m9] mg) (lk [] nx) (lk [] E) bag0.i bag0.vs bag0.ns (lk [orow] cv) bag0.bool (lk [ow, odx] oa) (lk [vs] sts) (lk [] pk) (lk [] b) ini r (lk [] ks) kc bag0.nd c d bag0.ov) B F XK T N hd hu S1 h3 hbb ha hoa hw how hss hst hx hdx hD htl hvz n1 n2 n3 n4 n5 ret

end
theorem flush_FA : True := by first | walk1 | exact trivial
section
open PySem PySem.W PySem.Calls PyProof.Rows PyProof.V PySem.Spec
noncomputable def st8_ok_P (w : World) (dp : Nat) (un : Nat) (gd : Option (List Code)) (cn : Str) (cs : Scope) (L0 : Addr) (L : Addr) (a : Addr) (ccd : Value) (cl : List (Str × Addr)) (outer : List Env) (base : Heap) (h₀ : Heap) (s : Shared) (Q : Flow → Shared → Prop) (E : Value → Shared → Prop) (loose : List Str) (mean : ExcName → Option Value) (mg : Str → Option Value) (mb : Str → Option Value) (m9 : Str → Option Value) (nx : List (Addr × Obj)) (pd : Addr) (nl : Addr) (rl : Addr) (kl : Addr) (b : Nat → Array UInt8) (ini : Nat → Bool) (r : Nat → Addr) (ks : List Addr) (kc : List (Nat × UInt8)) (pk : List (Str × Value)) (lb : Addr) (ca : Addr) (sl : Addr) (wl : Addr) (i : Nat) (k : Nat) (c : UInt8) (d : WD) (tw : Tok) (to : Tok) (ti : Tok) (tk0 : Tok) (oa : Obj) (ow : Obj) (vs : Array Value) (nv : Nat) : Prop := ∀ (B : Below (ktrTop dp un gd cn cs L0 a ccd cl outer) base (envX cn cs L0 a ccd cl :: outer) h₀) (F : Fr h₀ L s.heap (mU lb ca sl wl kl i c (b k) ti to tw m9)) (XK : (K w.params).In h₀) (T : Top q loose mean mg mb h₀) (N : News h₀ L s.heap nx) (hd : dp + 70 < recursionLimit) (hu : un + 700 < cLine) (S1 : StatR w nx L pd nl rl kl b ini r ks kc pk) (h3 : k < 3) (hbb : 0 < (b k).size ∧ (b k).size ≤ 5) (ha : (L + 1 + 1 + 1, oa) ∈ nx) (hoa : oa.data = .cell (some (.int ((k : Nat) : Int) tk0))) (hw : (L + 1 + 1 + 1 + 1, ow) ∈ nx) (how : ow.data = .cell (some (.ref d.x))) (hwl : (wl, listOf vs nv) ∈ nx) (hvz : vs.size ≤ 100) (n2 : L + 1 + 1 + 1 ≠ wl) (n3 : L + 1 + 1 + 1 + 1 ≠ wl) (ret : ∀ h' tk' t tt nv', Fr h₀ L h' (mU lb ca sl wl kl i c (b k) ti to tw m9) → News h₀ L h' ((t, tupOf #[.int ((k : Nat) : Int) tt, .ref d.x]) :: swap wl (listOf (vs.push (.ref t)) nv') nx) → (∀ p ∈ nx, @LT.lt Nat _ p.1 t) → Q .next {s with heap := h', toks := tk'}), wpAny (model pw w) ((ktrTop dp un gd cn cs L0 a ccd cl outer).deeper (envOfC (Str.ofString "_law_right") scR L 986 (Value.ref 985))) (exec (turnBody.getD 8 (.Pass default)) (envOfC (Str.ofString "_law_right") scR L 986 (Value.ref 985))) Q E s
noncomputable def st8_ok_S (c : Bag) : Prop := st8_ok_P c.w (c.n 0) (c.n 1) c.gd (c.str 0) c.cs (c.n 2) (c.n 3) (c.n 4) c.v c.cl c.outer (c.heap 0) (c.heap 1) c.s c.qf (c.q 0) c.loose c.mean (c.m 0) (c.m 1) (c.m 2) (c.news 0) (c.n 5) (c.n 6) (c.n 7) (c.n 8) (c.nb 0) c.nbool c.nn (c.l 0) c.kc (c.kvs 0) (c.n 9) (c.n 10) (c.n 11) (c.n 12) (c.n 13) (c.n 14) c.u8 c.d (c.n 15) (c.n 16) (c.n 17) (c.n 18) (c.o 0) (c.o 1) (c.avs 0) (c.n 19)
@[irreducible] noncomputable def st8_ok_c : Bag := pick st8_ok_S
theorem st8_ok_m : st8_ok_S st8_ok_c := by
  refine (?zz9 : ∀ (w : World) (dp : Nat) (un : Nat) (gd : Option (List Code)) (cn : Str) (cs : Scope) (L0 : Addr) (L : Addr) (a : Addr) (ccd : Value) (cl : List (Str × Addr)) (outer : List Env) (base : Heap) (h₀ : Heap) (s : Shared) (Q : Flow → Shared → Prop) (E : Value → Shared → Prop) (loose : List Str) (mean : ExcName → Option Value) (mg : Str → Option Value) (mb : Str → Option Value) (m9 : Str → Option Value) (nx : List (Addr × Obj)) (pd : Addr) (nl : Addr) (rl : Addr) (kl : Addr) (b : Nat → Array UInt8) (ini : Nat → Bool) (r : Nat → Addr) (ks : List Addr) (kc : List (Nat × UInt8)) (pk : List (Str × Value)) (lb : Addr) (ca : Addr) (sl : Addr) (wl : Addr) (i : Nat) (k : Nat) (c : UInt8) (d : WD) (tw : Tok) (to : Tok) (ti : Tok) (tk0 : Tok) (oa : Obj) (ow : Obj) (vs : Array Value) (nv : Nat), st8_ok_P w dp un gd cn cs L0 L a ccd cl outer base h₀ s Q E loose mean mg mb m9 nx pd nl rl kl b ini r ks kc pk lb ca sl wl i k c d tw to ti tk0 oa ow vs nv) st8_ok_c.w (st8_ok_c.n 0) (st8_ok_c.n 1) st8_ok_c.gd (st8_ok_c.str 0) st8_ok_c.cs (st8_ok_c.n 2) (st8_ok_c.n 3) (st8_ok_c.n 4) st8_ok_c.v st8_ok_c.cl st8_ok_c.outer (st8_ok_c.heap 0) (st8_ok_c.heap 1) st8_ok_c.s st8_ok_c.qf (st8_ok_c.q 0) st8_ok_c.loose st8_ok_c.mean (st8_ok_c.m 0) (st8_ok_c.m 1) (st8_ok_c.m 2) (st8_ok_c.news 0) (st8_ok_c.n 5) (st8_ok_c.n 6) (st8_ok_c.n 7) (st8_ok_c.n 8) (st8_ok_c.nb 0) st8_ok_c.nbool st8_ok_c.nn (st8_ok_c.l 0) st8_ok_c.kc (st8_ok_c.kvs 0) (st8_ok_c.n 9) (st8_ok_c.n 10) (st8_ok_c.n 11) (st8_ok_c.n 12) (st8_ok_c.n 13) (st8_ok_c.n 14) st8_ok_c.u8 st8_ok_c.d (st8_ok_c.n 15) (st8_ok_c.n 16) (st8_ok_c.n 17) (st8_ok_c.n 18) (st8_ok_c.o 0) (st8_ok_c.o 1) (st8_ok_c.avs 0) (st8_ok_c.n 19)
  intro w dp un gd cn cs L0 L a ccd cl outer base h₀ s Q E loose mean mg mb m9 nx pd nl rl kl b ini r ks kc pk lb ca sl wl i k c d tw to ti tk0 oa ow vs nv B F XK T N hd hu S1 h3 hbb ha hoa hw how hwl hvz n2 n3 ret
  have N1 := News.front N hwl
  have in1 : ∀ {p : Addr × Obj}, p ∈ nx → p.1 ≠ wl → p ∈ nx.filter fun p => decide (p.1 ≠ wl) := fun h ne => in_but h ne
  have off1 : ∀ p ∈ nx.filter fun p => decide (p.1 ≠ wl), p.1 ≠ wl := fun p hp => (of_but hp).2
  have q1 := in1 ha n2
  have q2 := in1 hw n3
  have ofn : ∀ p ∈ nx, p.1 = wl ∨ p ∈ nx.filter fun p => decide (p.1 ≠ wl) := fun p hp => by
    by_cases e : p.1 = wl
    · exact .inl e
    · exact .inr (in_but hp e)
  have swp : ∀ o : Obj, swap wl o nx = (wl, o) :: nx.filter fun p => decide (p.1 ≠ wl) := fun _ => rfl
  generalize (nx.filter fun p => decide (p.1 ≠ wl)) = nf at *
  have hb5 := hbb.2
  have hb0 := hbb.1
  clear N
  conv => pattern (occs := *) scR <;> whnf
  conv => pattern (occs := *) (List.getD turnBody _ _) <;> whnf
  show wpAny _ _ _ _ _ _
  (try k_fold)
  k_steps
  rename _ ∧ AllLt _ _ => lA
  rename Fr _ _ _ _ => lF
  rename News _ _ _ _ => lN
  exact ret _ _ _ _ _ lF (show News _ _ _ (_ :: swap _ _ _) from by rw [swp]; exact lN) (fun p hp => (ofn p hp).elim (fun e => by rw [e]; exact lA.1) (fun e => allLt_lt lA.2 p e))
theorem st8_ok {w : World} {dp un : Nat} {gd : Option (List Code)} {cn : Str} {cs : Scope} {L0 L a : Addr} {ccd : Value} {cl : List (Str × Addr)} {outer : List Env} {base h₀ : Heap} {s : Shared} {Q : Flow → Shared → Prop} {E : Value → Shared → Prop}
   {loose : List Str} {mean : ExcName → Option Value} {mg mb m9 : Str → Option Value} {nx : List (Addr × Obj)} {pd nl rl kl : Addr} {b : Nat → Array UInt8} {ini : Nat → Bool} {r : Nat → Addr} {ks : List Addr} {kc : List (Nat × UInt8)} {pk : List (Str × Value)}
   {lb ca sl wl : Addr} {i k : Nat} {c : UInt8} {d : WD} {tw to ti tk0 : Tok} {oa ow : Obj} {vs : Array Value} {nv : Nat}
   (B : Below (ktrTop dp un gd cn cs L0 a ccd cl outer) base (envX cn cs L0 a ccd cl :: outer) h₀) (F : Fr h₀ L s.heap (mU lb ca sl wl kl i c (b k) ti to tw m9)) (XK : (K w.params).In h₀) (T : Top q loose mean mg mb h₀)
   (N : News h₀ L s.heap nx) (hd : dp + 70 < recursionLimit) (hu : un + 700 < cLine) (S1 : StatR w nx L pd nl rl kl b ini r ks kc pk) (h3 : k < 3) (hbb : 0 < (b k).size ∧ (b k).size ≤ 5)
   (ha : (L + 1 + 1 + 1, oa) ∈ nx) (hoa : oa.data = .cell (some (.int ((k : Nat) : Int) tk0))) (hw : (L + 1 + 1 + 1 + 1, ow) ∈ nx) (how : ow.data = .cell (some (.ref d.x)))
   (hwl : (wl, listOf vs nv) ∈ nx) (hvz : vs.size ≤ 100) (n2 : L + 1 + 1 + 1 ≠ wl) (n3 : L + 1 + 1 + 1 + 1 ≠ wl)
   (ret : ∀ h' tk' t tt nv', Fr h₀ L h' (mU lb ca sl wl kl i c (b k) ti to tw m9) → News h₀ L h' ((t, tupOf #[.int ((k : Nat) : Int) tt, .ref d.x]) :: swap wl (listOf (vs.push (.ref t)) nv') nx) → (∀ p ∈ nx, @LT.lt Nat _ p.1 t) → Q .next {s with heap := h', toks := tk'}) :
   wpAny (model pw w) ((ktrTop dp un gd cn cs L0 a ccd cl outer).deeper (envOfC (Str.ofString "_law_right") scR L 986 (Value.ref 985))) (exec (turnBody.getD 8 (.Pass default)) (envOfC (Str.ofString "_law_right") scR L 986 (Value.ref 985))) Q E s := by
  exact clo (by with_unfolding_all rfl) st8_ok_m (Bag.mk w gd cs ccd cl outer bag0.ar s loose mean Q bag0.qu (lk [un, L0, L, a, pd, nl, rl, kl, lb, ca, sl, wl, i, k, tw, to, ti, tk0, nv] dp) (lk [] cn) (lk [h₀] base) (lk [mb, m9] mg) (lk [] nx) (lk [] E) bag0.i bag0.vs bag0.ns bag0.b bag0.bool (lk [ow] oa) (lk [] vs) (lk [] pk) (lk [] b) ini r (lk [] ks) kc bag0.nd c d bag0.ov) B F XK T N hd hu S1 h3 hbb ha hoa hw how hwl hvz n2 n3 ret

end
theorem flush_FC : True := by first | walk1 | exact trivial
section
open PySem PySem.W PySem.Calls PyProof.Rows PyProof.V PySem.Spec
noncomputable def if3_ok_P (w : World) (dp : Nat) (un : Nat) (gd : Option (List Code)) (cn : Str) (cs : Scope) (L0 : Addr) (L : Addr) (a : Addr) (ccd : Value) (cl : List (Str × Addr)) (outer : List Env) (base : Heap) (h₀ : Heap) (s : Shared) (Q : Flow → Shared → Prop) (E : Value → Shared → Prop) (loose : List Str) (mean : ExcName → Option Value) (mg : Str → Option Value) (mb : Str → Option Value) (m9 : Str → Option Value) (nx : List (Addr × Obj)) (pd : Addr) (nl : Addr) (rl : Addr) (kl : Addr) (b : Nat → Array UInt8) (ini : Nat → Bool) (r : Nat → Addr) (ks : List Addr) (kc : List (Nat × UInt8)) (pk : List (Str × Value)) (lb : Addr) (ca : Addr) (sl : Addr) (wl : Addr) (i : Nat) (k : Nat) (c : UInt8) (d : WD) (tw : Tok) (to : Tok) (ti : Tok) (tk0 : Tok) (oa : Obj) (ow : Obj) (ts : List Addr) (xs : List Addr) (nv : Nat) : Prop := ∀ (B : Below (ktrTop dp un gd cn cs L0 a ccd cl outer) base (envX cn cs L0 a ccd cl :: outer) h₀) (F : Fr h₀ L s.heap (mU lb ca sl wl kl i c (b k) ti to tw m9)) (XK : (K w.params).In h₀) (T : Top q loose mean mg mb h₀) (N : News h₀ L s.heap nx) (hd : dp + 70 < recursionLimit) (hu : un + 700 < cLine) (S1 : StatR w nx L pd nl rl kl b ini r ks kc pk) (h3 : k < 3) (hbb : 0 < (b k).size ∧ (b k).size ≤ 5) (ha : (L + 1 + 1 + 1, oa) ∈ nx) (hoa : oa.data = .cell (some (.int ((k : Nat) : Int) tk0))) (hw : (L + 1 + 1 + 1 + 1, ow) ∈ nx) (how : ow.data = .cell (some (.ref d.x))) (hik : i ≤ kc.length) (hwl : (wl, listOf (ts.map Value.ref).toArray nv) ∈ nx) (htn : ts.length = i) (hwt : ∀ (j kj : Nat) (cj : UInt8), j < i → kc[j]? = some (kj, cj) → ∃ t aj x dx, ts[j]? = some aj ∧ xs[j]? = some x ∧ (aj, tupOf #[.int ((kj : Nat) : Int) t, .ref x]) ∈ nx ∧ (x, instObj 806 dx) ∈ nx) (hxd : (d.x, instObj 806 d.dx) ∈ nx) (hwx : ∀ (j kj : Nat) (cj : UInt8) (x : Addr), j < i → kc[j]? = some (kj, cj) → xs[j]? = some x → (x = d.x ↔ ini k = false ∧ kj = k)) (ret : ∀ h' tk', Fr h₀ L h' (mU lb ca sl wl kl i c (b k) ti to tw m9) → News h₀ L h' nx → Q .next {s with heap := h', toks := tk'}), wpAny (model pw w) ((ktrTop dp un gd cn cs L0 a ccd cl outer).deeper (envOfC (Str.ofString "_law_right") scR L 986 (Value.ref 985))) (exec (turnBody.getD 3 (.Pass default)) (envOfC (Str.ofString "_law_right") scR L 986 (Value.ref 985))) Q E s
noncomputable def if3_ok_S (c : Bag) : Prop := if3_ok_P c.w (c.n 0) (c.n 1) c.gd (c.str 0) c.cs (c.n 2) (c.n 3) (c.n 4) c.v c.cl c.outer (c.heap 0) (c.heap 1) c.s c.qf (c.q 0) c.loose c.mean (c.m 0) (c.m 1) (c.m 2) (c.news 0) (c.n 5) (c.n 6) (c.n 7) (c.n 8) (c.nb 0) c.nbool c.nn (c.l 0) c.kc (c.kvs 0) (c.n 9) (c.n 10) (c.n 11) (c.n 12) (c.n 13) (c.n 14) c.u8 c.d (c.n 15) (c.n 16) (c.n 17) (c.n 18) (c.o 0) (c.o 1) (c.l 1) (c.l 2) (c.n 19)
@[irreducible] noncomputable def if3_ok_c : Bag := pick if3_ok_S
theorem if3_ok_m : if3_ok_S if3_ok_c := by
  refine (?zz9 : ∀ (w : World) (dp : Nat) (un : Nat) (gd : Option (List Code)) (cn : Str) (cs : Scope) (L0 : Addr) (L : Addr) (a : Addr) (ccd : Value) (cl : List (Str × Addr)) (outer : List Env) (base : Heap) (h₀ : Heap) (s : Shared) (Q : Flow → Shared → Prop) (E : Value → Shared → Prop) (loose : List Str) (mean : ExcName → Option Value) (mg : Str → Option Value) (mb : Str → Option Value) (m9 : Str → Option Value) (nx : List (Addr × Obj)) (pd : Addr) (nl : Addr) (rl : Addr) (kl : Addr) (b : Nat → Array UInt8) (ini : Nat → Bool) (r : Nat → Addr) (ks : List Addr) (kc : List (Nat × UInt8)) (pk : List (Str × Value)) (lb : Addr) (ca : Addr) (sl : Addr) (wl : Addr) (i : Nat) (k : Nat) (c : UInt8) (d : WD) (tw : Tok) (to : Tok) (ti : Tok) (tk0 : Tok) (oa : Obj) (ow : Obj) (ts : List Addr) (xs : List Addr) (nv : Nat), if3_ok_P w dp un gd cn cs L0 L a ccd cl outer base h₀ s Q E loose mean mg mb m9 nx pd nl rl kl b ini r ks kc pk lb ca sl wl i k c d tw to ti tk0 oa ow ts xs nv) if3_ok_c.w (if3_ok_c.n 0) (if3_ok_c.n 1) if3_ok_c.gd (if3_ok_c.str 0) if3_ok_c.cs (if3_ok_c.n 2) (if3_ok_c.n 3) (if3_ok_c.n 4) if3_ok_c.v if3_ok_c.cl if3_ok_c.outer (if3_ok_c.heap 0) (if3_ok_c.heap 1) if3_ok_c.s if3_ok_c.qf (if3_ok_c.q 0) if3_ok_c.loose if3_ok_c.mean (if3_ok_c.m 0) (if3_ok_c.m 1) (if3_ok_c.m 2) (if3_ok_c.news 0) (if3_ok_c.n 5) (if3_ok_c.n 6) (if3_ok_c.n 7) (if3_ok_c.n 8) (if3_ok_c.nb 0) if3_ok_c.nbool if3_ok_c.nn (if3_ok_c.l 0) if3_ok_c.kc (if3_ok_c.kvs 0) (if3_ok_c.n 9) (if3_ok_c.n 10) (if3_ok_c.n 11) (if3_ok_c.n 12) (if3_ok_c.n 13) (if3_ok_c.n 14) if3_ok_c.u8 if3_ok_c.d (if3_ok_c.n 15) (if3_ok_c.n 16) (if3_ok_c.n 17) (if3_ok_c.n 18) (if3_ok_c.o 0) (if3_ok_c.o 1) (if3_ok_c.l 1) (if3_ok_c.l 2) (if3_ok_c.n 19)
  intro w dp un gd cn cs L0 L a ccd cl outer base h₀ s Q E loose mean mg mb m9 nx pd nl rl kl b ini r ks kc pk lb ca sl wl i k c d tw to ti tk0 oa ow ts xs nv B F XK T N hd hu S1 h3 hbb ha hoa hw how hik hwl htn hwt hxd hwx ret
  obtain ⟨or', cr1, cr2⟩ := S1.cr
  obtain ⟨nr, rws, ar1, _, ar3⟩ := S1.ar.rs
  have ar4 : rws.toList[((k : Nat) : Int).toNat]? = some (.ref (r k)) := ar3 k h3
  obtain ⟨tb, rk⟩ := S1.ar.rk k h3
  have hkz := S1.ar.kz
  obtain ⟨nk, kl1⟩ := S1.ar.kl
  have hkn := S1.ar.kn
  have hcnt := cnt_le kc k i
  have hpick : i ≤ (ks.map Value.ref).toArray.toList.length := by rw [List.length_map, hkn]; exact hik
  conv => pattern (occs := *) scR <;> whnf
  conv => pattern (occs := *) (List.getD turnBody _ _) <;> whnf
  show wpAny _ _ _ _ _ _
  (try k_fold)
  k_steps
  unfold Hold
  k_dflt (refine ListComp_PT (by k_asm) (by with_unfolding_all rfl) (by decide) (by rfl) (by decide) (by rfl) (by rfl) (by decide) (by intro _; rfl) ?_)
  k_steps
  unfold Hold
  refine ⟨wl, nv, ts.map Value.ref, nx, fun j ys => IntsAre ys (List.replicate (if ini k = true then 0 else cnt kc k j) ((k : Nat) : Int)), rfl, rfl, by assumption, by assumption, hwl, by rw [sizeLine_eq, List.length_map]; omega, ?j0, ?turn, ?fin⟩
  case j0 =>
    show IntsAre [] (List.replicate (if ini k = true then 0 else cnt kc k 0) ((k : Nat) : Int))
    have : (if ini k = true then 0 else cnt kc k 0) = 0 := by split <;> rfl
    rw [this]
    exact .nil
  case turn =>
    intro j hj
    rw [List.length_map, htn] at hj
    obtain ⟨⟨kj, cj⟩, hkj⟩ : ∃ q, kc[j]? = some q := ⟨_, List.getElem?_eq_getElem (by omega)⟩
    obtain ⟨t, aj, x, dx, z1, z2, z3, z4⟩ := hwt j kj cj hj hkj
    refine ⟨aj, _, _, by rw [List.getElem?_map, z1]; rfl, z3, ?_⟩
    intro ys C oC D m₂ h tk E' hJ hC hp hx F' N'
    clear N
    by_cases hxx : x = d.x
    · subst hxx
      k_steps
      exact if3_yes hJ hkj ((hwx j kj cj d.x hj hkj z2).mp rfl)
    · k_steps
      exact if3_no hJ hkj (fun e => hxx ((hwx j kj cj x hj hkj z2).mpr e))
  case fin =>
    intro D h tk ys hJ F' N' o1
    have hJ' : IntsAre ys (List.replicate (if ini k = true then 0 else cnt kc k (ts.map Value.ref).length) ((k : Nat) : Int)) := hJ
    clear hJ N
    rw [List.length_map, htn] at hJ'
    cases hini : ini k with
    | true =>
      rw [hini] at rk hJ'
      rw [if_pos rfl] at hJ'
      cases hJ'
      (repeat' (first | (k_unfold; (try dsimp only)) | (k_end; wrow_close) | ((with_reducible show wpAny _ _ (compareOp CmpOp.NotEq (Value.ref _) (Value.ref _)) _ _ _); k_dflt (first | (refine' ne_nil ?Nq64 ?aq64 ?bq64 ?uq64 ?_; (case Nq64 => k_asm); (case aq64 => k_mem); (case bq64 => k_mem); (case uq64 => first | exact r1 (by assumption) rfl | exact r2 (by assumption) rfl | exact r3 (by assumption) rfl | exact r0 (by assumption) | k_units); k_whole) | (refine' ne_cnt ?Nq64 ?aq64 ?hiq64 ?bq64 ?uq64 ?_; (case Nq64 => k_asm); (case aq64 => k_mem); (case hiq64 => assumption); (case bq64 => k_mem); (case uq64 => first | exact r1 (by assumption) rfl | exact r2 (by assumption) rfl | exact r3 (by assumption) rfl | exact r0 (by assumption) | k_units); k_whole))) | ((with_reducible show wpAny _ _ (subscriptTail _ _ (Value.ref _) (Value.int _ _)) _ _ _); k_dflt (first | (refine' item_tupK ?Fq33 ?Xq33 ?eq33 ?aq33 ?bq33 ?cq33 ?dq33 ?_; (case Fq33 => k_asm); (case Xq33 => k_asm); (case eq33 => k_is); (case aq33 => decide); (case bq33 => decide); (case cq33 => rfl); (case dq33 => rfl); k_whole) | (refine' item_tup ?Nq33 ?mq33 ?aq33 ?bq33 ?cq33 ?dq33 ?_; (case Nq33 => k_asm); (case mq33 => k_mem); (case aq33 => decide); (case bq33 => decide); (case cq33 => rfl); (case dq33 => rfl); k_whole) | (refine' item_made ?Nq33 ?mq33 ?aq33 ?bq33 ?dq33 ?_; (case Nq33 => k_asm); (case mq33 => k_mem); (case aq33 => first | decide | omega); (case bq33 => first | decide | omega); (case dq33 => first | rfl | with_reducible assumption); k_whole))) | walk1 | (dsimp only; walk1) | (leave1; walk_say "STEP leave1"; (try dsimp only)) | fail "no step"))
      rename Fr _ _ _ _ => lF
      rename News _ _ _ _ => lN
      exact ret _ _ lF (fun p hp => lN p (by repeat (first | exact hp | refine List.mem_cons_of_mem _ ?_)))
    | false =>
      rw [hini] at rk hJ'
      rw [if_neg (by decide)] at hJ'
      (repeat' (first | (k_unfold; (try dsimp only)) | (k_end; wrow_close) | ((with_reducible show wpAny _ _ (subscriptTail _ _ (Value.ref _) (Value.int _ _)) _ _ _); k_dflt (first | (refine' item_tupK ?Fq33 ?Xq33 ?eq33 ?aq33 ?bq33 ?cq33 ?dq33 ?_; (case Fq33 => k_asm); (case Xq33 => k_asm); (case eq33 => k_is); (case aq33 => decide); (case bq33 => decide); (case cq33 => rfl); (case dq33 => rfl); k_whole) | (refine' item_tup ?Nq33 ?mq33 ?aq33 ?bq33 ?cq33 ?dq33 ?_; (case Nq33 => k_asm); (case mq33 => k_mem); (case aq33 => decide); (case bq33 => decide); (case cq33 => rfl); (case dq33 => rfl); k_whole) | (refine' item_made ?Nq33 ?mq33 ?aq33 ?bq33 ?dq33 ?_; (case Nq33 => k_asm); (case mq33 => k_mem); (case aq33 => first | decide | omega); (case bq33 => first | decide | omega); (case dq33 => first | rfl | with_reducible assumption); k_whole))) | walk1 | (dsimp only; walk1) | (leave1; walk_say "STEP leave1"; (try dsimp only)) | fail "no step"))
      unfold Hold
      k_dflt (refine LCt.ListComp_T (F₀ := by k_asm) (by with_unfolding_all rfl) (by decide) (by rfl) (by decide) (by rfl) ?_)
      (repeat' (first | (k_unfold; (try dsimp only)) | (k_end; wrow_close) | ((with_reducible show wpAny _ _ (subscriptTail _ (PySem.Expr.Slice _ _ none _) (Value.ref _) (Value.ref _)) _ _ _); k_dflt (refine' kms_slice_lit ?Fq65 ?Nq65 ?lq65 ?pq65 ?qq65 ?eq65 ?_ ?sq65 ?tq65 ?zq65; (case Fq65 => k_asm); (case Nq65 => k_asm); (case lq65 => exact made_list (by assumption) (by k_mem)); (case pq65 => exact .none); (case qq65 => exact .int _ _); (case eq65 => exact pick_take (by assumption)); (case sq65 => with_unfolding_all rfl); (case tq65 => intro _; with_unfolding_all rfl); (case zq65 => (rw [sizeLine_eq, List.size_toArray, List.length_map]; omega))); intro Dz9 hz9 Fz9 Nz9 l1) | walk1 | (dsimp only; walk1) | (leave1; walk_say "STEP leave1"; (try dsimp only)) | fail "no step"))
      unfold Hold
      k_dflt (refine LCt.CompSrcT.ledger (k := 0) (by rfl) (by k_asm) (by k_asm) (.head _) (by rw [sizeLine_eq, List.size_toArray, List.length_take]; omega) ?_)
      intro g'
      with_unfolding_all refine' restT_JN (fun ld j ys nx' => nx' = ld ∧ ys.length = cnt kc k j) ⟨rfl, rfl⟩ ?_ ?_
      · rintro j ys nx' v I oI C oC D m₂ h tk E' hj ⟨rfl, hl⟩ hv hC hx F N off ne
        have hji : j < i := by
          rw [List.size_toArray, List.length_take] at hj
          omega
        obtain ⟨⟨kj, cj⟩, hkj⟩ : ∃ q, kc[j]? = some q := ⟨_, List.getElem?_eq_getElem (by omega)⟩
        obtain ⟨_, aj, t1, t2, y1, y2⟩ := S1.ar.kt j kj cj hkj
        obtain rfl : v = .ref aj := slice_item hv hji y1
        (repeat' (first | (k_unfold; (try dsimp only)) | (k_end; wrow_close) | ((with_reducible show wpAny _ _ (subscriptTail _ _ (Value.ref _) (Value.int _ _)) _ _ _); k_dflt (first | (refine' item_tupK ?Fq33 ?Xq33 ?eq33 ?aq33 ?bq33 ?cq33 ?dq33 ?_; (case Fq33 => k_asm); (case Xq33 => k_asm); (case eq33 => k_is); (case aq33 => decide); (case bq33 => decide); (case cq33 => rfl); (case dq33 => rfl); k_whole) | (refine' item_tup ?Nq33 ?mq33 ?aq33 ?bq33 ?cq33 ?dq33 ?_; (case Nq33 => k_asm); (case mq33 => k_mem); (case aq33 => decide); (case bq33 => decide); (case cq33 => rfl); (case dq33 => rfl); k_whole) | (refine' item_made ?Nq33 ?mq33 ?aq33 ?bq33 ?dq33 ?_; (case Nq33 => k_asm); (case mq33 => k_mem); (case aq33 => first | decide | omega); (case bq33 => first | decide | omega); (case dq33 => first | rfl | with_reducible assumption); k_whole))) | walk1 | (dsimp only; walk1) | (leave1; walk_say "STEP leave1"; (try dsimp only)) | fail "no step"))
        all_goals (rename Fr _ _ _ _ => lF; rename News _ _ _ _ => lN)
        · rename ((kj : Nat) : Int) = _ => ekj
          refine LCg.CompEnd.intro lF lN _ (fun p hp => hp) off (by lcg_src) ⟨rfl, ?_⟩
          rw [List.length_append, hl, cnt_succ hkj, if_pos (by omega)]
          rfl
        · rename ((kj : Nat) : Int) ≠ _ => ekj
          refine LCg.CompEnd.intro lF lN _ (fun p hp => hp) off (by lcg_src) ⟨rfl, ?_⟩
          rw [hl, cnt_succ hkj, if_neg (by omega)]
          rfl
      · rintro ys' nx' ⟨rfl, hl⟩
        have hl' : ys'.length = cnt kc k i := by
          rw [hl, List.size_toArray, List.length_take, List.length_map, hkn, Nat.min_eq_left hik]
        clear hl
        unfold LCg.FinE
        intro D2 h9 tk9 F9 N9 o9
        dsimp only
        (repeat' (first | (k_unfold; (try dsimp only)) | (k_end; wrow_close) | ((with_reducible show wpAny _ _ (compareOp CmpOp.NotEq (Value.ref _) (Value.ref _)) _ _ _); k_dflt (first | (refine' ne_nil ?Nq64 ?aq64 ?bq64 ?uq64 ?_; (case Nq64 => k_asm); (case aq64 => k_mem); (case bq64 => k_mem); (case uq64 => first | exact r1 (by assumption) rfl | exact r2 (by assumption) rfl | exact r3 (by assumption) rfl | exact r0 (by assumption) | k_units); k_whole) | (refine' ne_cnt ?Nq64 ?aq64 ?hiq64 ?bq64 ?uq64 ?_; (case Nq64 => k_asm); (case aq64 => k_mem); (case hiq64 => assumption); (case bq64 => k_mem); (case uq64 => first | exact r1 (by assumption) rfl | exact r2 (by assumption) rfl | exact r3 (by assumption) rfl | exact r0 (by assumption) | k_units); k_whole))) | ((with_reducible show wpAny _ _ (binaryOp Operator.Mult (Value.ref _) (Value.int _ _)) _ _ _); k_dflt (refine' mul_cnt ?Fq63 ?Nq63 ?mq63 ?zq63 ?_; (case Fq63 => k_asm); (case Nq63 => k_asm); (case mq63 => k_mem); (case zq63 => omega); k_whole); intro Dz9 hz9 Fz9 Nz9 l1) | ((with_reducible show wpAny _ _ (call (Value.builtin "len") [Value.ref _]) _ _ _); k_dflt (refine' len_lst ?Nq62 ?mq62 ?eq62 ?zq62 ?_; (case Nq62 => k_asm); (case mq62 => k_mem); (case eq62 => assumption); (case zq62 => omega); k_whole)) | walk1 | (dsimp only; walk1) | (leave1; walk_say "STEP leave1"; (try dsimp only)) | fail "no step"))
        rename Fr _ _ _ _ => lF
        rename News _ _ _ _ => lN
        exact ret _ _ lF (fun p hp => lN p (by repeat (first | exact hp | refine List.mem_cons_of_mem _ ?_)))
theorem if3_ok {w : World} {dp un : Nat} {gd : Option (List Code)} {cn : Str} {cs : Scope} {L0 L a : Addr} {ccd : Value} {cl : List (Str × Addr)} {outer : List Env} {base h₀ : Heap} {s : Shared} {Q : Flow → Shared → Prop} {E : Value → Shared → Prop}
   {loose : List Str} {mean : ExcName → Option Value} {mg mb m9 : Str → Option Value} {nx : List (Addr × Obj)} {pd nl rl kl : Addr} {b : Nat → Array UInt8} {ini : Nat → Bool} {r : Nat → Addr} {ks : List Addr} {kc : List (Nat × UInt8)} {pk : List (Str × Value)}
   {lb ca sl wl : Addr} {i k : Nat} {c : UInt8} {d : WD} {tw to ti tk0 : Tok} {oa ow : Obj} {ts xs : List Addr} {nv : Nat}
   (B : Below (ktrTop dp un gd cn cs L0 a ccd cl outer) base (envX cn cs L0 a ccd cl :: outer) h₀) (F : Fr h₀ L s.heap (mU lb ca sl wl kl i c (b k) ti to tw m9)) (XK : (K w.params).In h₀) (T : Top q loose mean mg mb h₀)
   (N : News h₀ L s.heap nx) (hd : dp + 70 < recursionLimit) (hu : un + 700 < cLine) (S1 : StatR w nx L pd nl rl kl b ini r ks kc pk) (h3 : k < 3) (hbb : 0 < (b k).size ∧ (b k).size ≤ 5)
   (ha : (L + 1 + 1 + 1, oa) ∈ nx) (hoa : oa.data = .cell (some (.int ((k : Nat) : Int) tk0))) (hw : (L + 1 + 1 + 1 + 1, ow) ∈ nx) (how : ow.data = .cell (some (.ref d.x)))
   (hik : i ≤ kc.length) (hwl : (wl, listOf (ts.map Value.ref).toArray nv) ∈ nx) (htn : ts.length = i)
   (hwt : ∀ (j kj : Nat) (cj : UInt8), j < i → kc[j]? = some (kj, cj) → ∃ t aj x dx, ts[j]? = some aj ∧ xs[j]? = some x ∧ (aj, tupOf #[.int ((kj : Nat) : Int) t, .ref x]) ∈ nx ∧ (x, instObj 806 dx) ∈ nx)
   (hxd : (d.x, instObj 806 d.dx) ∈ nx) (hwx : ∀ (j kj : Nat) (cj : UInt8) (x : Addr), j < i → kc[j]? = some (kj, cj) → xs[j]? = some x → (x = d.x ↔ ini k = false ∧ kj = k))
   (ret : ∀ h' tk', Fr h₀ L h' (mU lb ca sl wl kl i c (b k) ti to tw m9) → News h₀ L h' nx → Q .next {s with heap := h', toks := tk'}) :
   wpAny (model pw w) ((ktrTop dp un gd cn cs L0 a ccd cl outer).deeper (envOfC (Str.ofString "_law_right") scR L 986 (Value.ref 985))) (exec (turnBody.getD 3 (.Pass default)) (envOfC (Str.ofString "_law_right") scR L 986 (Value.ref 985))) Q E s := by
  exact clo (by with_unfolding_all rfl) if3_ok_m (Bag.mk w gd cs ccd cl outer bag0.ar s loose mean Q bag0.qu (lk [un, L0, L, a, pd, nl, rl, kl, lb, ca, sl, wl, i, k, tw, to, ti, tk0, nv] dp) (lk [] cn) (lk [h₀] base) (lk [mb, m9] mg) (lk [] nx) (lk [] E) bag0.i bag0.vs bag0.ns bag0.b bag0.bool (lk [ow] oa) bag0.avs (lk [] pk) (lk [] b) ini r (lk [ts, xs] ks) kc bag0.nd c d bag0.ov) B F XK T N hd hu S1 h3 hbb ha hoa hw how hik hwl htn hwt hxd hwx ret

end
theorem flush_GB : True := by first | walk1 | exact trivial
section
open PySem PySem.W PySem.Calls PyProof.Rows PyProof.V PySem.Spec
/-- the frame's names that stay in a lap -/
noncomputable def mL (lb kl : Addr) (m9 : Str → Option Value) : Str → Option Value := fun y =>
  if y = Str.ofString "library" then some (.ref lb) else if y = Str.ofString "calls" then some (.ref kl) else m9 y
theorem mL_eq {m : Str → Option Value} {lb kl : Addr} (h1 : m (Str.ofString "library") = some (.ref lb)) (h2 : m (Str.ofString "calls") = some (.ref kl)) : m = mL lb kl m := by
  funext y
  unfold mL
  by_cases e1 : y = Str.ofString "library"
  · rw [if_pos e1, e1, h1]
  rw [if_neg e1]
  by_cases e2 : y = Str.ofString "calls"
  · rw [if_pos e2, e2, h2]
  rw [if_neg e2]
theorem fr_mT {h₀ h : Heap} {L : Addr} {m : Str → Option Value} {lb ca sl wl kl : Addr} (F : Fr h₀ L h m) (h1 : m (Str.ofString "worlds") = some (.ref wl)) (h2 : m (Str.ofString "stands") = some (.ref sl)) (h3 : m (Str.ofString "caller") = some (.ref ca)) (h4 : m (Str.ofString "library") = some (.ref lb)) (h5 : m (Str.ofString "calls") = some (.ref kl)) :
    Fr h₀ L h (mT lb ca sl wl kl m) ∧ ∀ y, mT lb ca sl wl kl m y = m y := by
  have e := mT_eq h1 h2 h3 h4 h5
  exact ⟨by rw [← e]; exact F, fun y => (congrFun e y).symm⟩
theorem fr_mL {h₀ h : Heap} {L : Addr} {m : Str → Option Value} {lb kl : Addr} (F : Fr h₀ L h m) (h4 : m (Str.ofString "library") = some (.ref lb)) (h5 : m (Str.ofString "calls") = some (.ref kl)) :
    Fr h₀ L h (mL lb kl m) ∧ ∀ y, mL lb kl m y = m y := by
  have e := mL_eq h4 h5
  exact ⟨by rw [← e]; exact F, fun y => (congrFun e y).symm⟩
theorem pack3 {h₀ h : Heap} {L : Addr} {add add' nx : List (Addr × Obj)} {y : Addr × Obj} (N : News h₀ L h (add ++ (y :: (add' ++ nx)))) (lt : ∀ r ∈ add, ∀ q ∈ y :: (add' ++ nx), @LT.lt Nat _ q.1 r.1) :
    ∃ ny, News h₀ L h ny ∧ (∀ q ∈ nx, q ∈ ny) ∧ (∀ q ∈ add, q ∈ ny) ∧ ∀ r ∈ add, ∀ q ∈ nx, @LT.lt Nat _ q.1 r.1 :=
  ⟨_, N, fun q hq => List.mem_append_right _ (.tail _ (List.mem_append_right _ hq)), fun q hq => List.mem_append_left _ hq, fun r hr q hq => lt r hr q (.tail _ (List.mem_append_right _ hq))⟩

end
theorem flush_GF : True := by first | walk1 | exact trivial
section
open PySem PySem.W PySem.Calls PyProof.Rows PyProof.V PySem.Spec PySem.SeqAt
theorem eqAt_bytes {A : Around} {s : Shared} (b : Array UInt8) (t u : Tok) : EqAt A s (.bytes b t) (.bytes b u) true := fun prog w E Q hq => by
  unfold eqBool
  refine wpAny_holding ?_
  refine wpAny_ite_split (fun hab => ?_) (fun hab => ?_)
  · exact wpAny_bind (wpAny_rule (wpAny_pure hq))
  · refine wpAny_bind (richCompare_gives (typeIs_bytes s b t) (typeIs_bytes s b u) FB.slot_bytes_eq FB.entry_bytes_eq (FB.args_bytes_eq_2 _ _) (gives_bytes_eq b b t u) (by simp [Made.takes]) (wpAny_truthy_bool ?_))
    simpa using hq
section
variable {prog : Program} {w : World} {A : Around} {E : Value → Shared → Prop} {s : Shared} {h₀ : Heap} {L : Addr} {m : Str → Option Value} {news : List (Addr × Obj)}
theorem ne_bslists {a b : Addr} {vs us : Array Value} {n k : Nat} {X : Nat → Array UInt8} {Q : Value → Shared → Prop} (N : News h₀ L s.heap news) (m1 : (a, listOf vs n) ∈ news) (m2 : (b, listOf us k) ∈ news) (hsz : vs.size = us.size)
    (h1 : ∀ j, j < vs.size → ∃ t, vs.toList[j]? = some (.bytes (X j) t)) (h2 : ∀ j, j < vs.size → ∃ t, us.toList[j]? = some (.bytes (X j) t)) (hu : A.units < cLine) (h : Q (.bool false) s) :
    wpAny (model prog w) A (compareOp .NotEq (.ref a) (.ref b)) Q E s := by
  have key : RcNeAt A s (.ref a) (.ref b) (!(List.range vs.size).all fun _ => true) := RcNeAt.lists (e := fun _ => true) (made_list N m1) (made_list N m2) hsz hu fun j g1 g2 => by
    obtain ⟨t, e1⟩ := h1 j g1
    obtain ⟨u, e2⟩ := h2 j g1
    rw [Array.getElem?_toList, Array.getElem?_eq_getElem g1] at e1
    rw [Array.getElem?_toList, Array.getElem?_eq_getElem g2] at e2
    rw [Option.some.inj e1, Option.some.inj e2]
    exact eqAt_bytes _ t u
  have e : (!(List.range vs.size).all fun _ => true) = false := by simp
  rw [e] at key
  exact key prog w E Q h
theorem ne_bsone {a b : Addr} {x : Array UInt8} {t u : Tok} {n k : Nat} {Q : Value → Shared → Prop} (N : News h₀ L s.heap news) (m1 : (a, listOf #[.bytes x t] n) ∈ news) (m2 : (b, listOf #[.bytes x u] k) ∈ news) (hu : A.units < cLine) (h : Q (.bool false) s) :
    wpAny (model prog w) A (compareOp .NotEq (.ref a) (.ref b)) Q E s :=
  ne_bslists (X := fun _ => x) N m1 m2 rfl (fun j hj => by obtain rfl : j = 0 := by simpa using hj
                                                           exact ⟨t, rfl⟩) (fun j hj => by obtain rfl : j = 0 := by simpa using hj
                                                                                           exact ⟨u, rfl⟩) hu h
end
/-- the row that the j-th call shows -/
noncomputable def shown (b : Nat → Array UInt8) (kc : List (Nat × UInt8)) (j : Nat) : Array UInt8 := match kc[j]? with
  | some (k, c) => Array.replicate (b k).size c
  | none => #[]
theorem shown_eq {b : Nat → Array UInt8} {kc : List (Nat × UInt8)} {j k : Nat} {c : UInt8} (h : kc[j]? = some (k, c)) : shown b kc j = Array.replicate (b k).size c := by
  unfold shown
  rw [h]
section
variable {prog : Program} {w : World} {A : Around} {s : Shared} {h₀ : Heap} {L : Addr} {m : PySem.Str → Option Value} {env : Env} {elt ct : PySem.Expr} {x x₂ : PySem.Str} {scope : Scope} {cl : List (PySem.Str × Addr)}
  {S : List (Addr × Obj) → Prop} {P : Nat → Value → Prop} {Fin : List Value → List (Addr × Obj) → Prop} {news : List (Addr × Obj)} {n : Nat}
theorem restP_JN (J : List (Addr × Obj) → Nat → List Value → List (Addr × Obj) → Prop) (j0 : J news 0 [] news)
    (turn : ∀ i ys nx v, i < n → J news i ys nx → P i v → ∃ (t : Addr) (ot : Obj) (v₁ v₂ : Value) (nt : Nat), v = .ref t ∧ (t, ot) ∈ nx ∧ ot.cls = .type "tuple" ∧ ot.data = .seq #[v₁, v₂] nt ∧
      ∀ I oI C oC D m₂ h tk (E' : Value → Shared → Prop), LCg.NsObj oC m₂ → m₂ x = some v₁ → m₂ x₂ = some v₂ → Fr h₀ L h m → News h₀ L h ((I, oI) :: (C, oC) :: (D, LCg.lst ys) :: nx) → LCg.Off3 I C D nx → ((@Ne Nat I C) ∧ (@Ne Nat I D) ∧ (@Ne Nat C D)) →
      wpAny (model prog w) A (eval elt (compEnvC scope cl C env)) (LCg.CompEnd h₀ L m { s with heap := h, toks := tk } I oI C oC D (LCg.lst ys) S (fun y nx' => J news (i + 1) (ys ++ [y]) nx')) E' { s with heap := h, toks := tk })
    (fin : ∀ ys nx, J news n ys nx → Fin ys nx) : LCp.CompRestP prog w A h₀ L m env elt x x₂ scope cl s S P Fin n 0 [] news := restP_J (J news) j0 turn fin
end

end
theorem flush_GE : True := by first | walk1 | exact trivial
section
open PySem PySem.W PySem.Calls PyProof.Rows PyProof.V PySem.Spec
noncomputable def lst3_ok_P (w : World) (dp : Nat) (un : Nat) (gd : Option (List Code)) (cn : Str) (cs : Scope) (L0 : Addr) (L : Addr) (a : Addr) (ccd : Value) (cl : List (Str × Addr)) (outer : List Env) (base : Heap) (h₀ : Heap) (s : Shared) (Q : Flow → Shared → Prop) (E : Value → Shared → Prop) (loose : List Str) (mean : ExcName → Option Value) (mg : Str → Option Value) (mb : Str → Option Value) (m9 : Str → Option Value) (nx : List (Addr × Obj)) (lb : Addr) (kl : Addr) (pd : Addr) (nl : Addr) (rl : Addr) (ca : Addr) (cdx : Addr) (pc : Addr) (crows : Addr) (tl : Addr) (cmem : Addr) (chn : Addr) (cop : Addr) (sl : Addr) (wl : Addr) (b : Nat → Array UInt8) (ini : Nat → Bool) (r : Nat → Addr) (ks : List Addr) (kc : List (Nat × UInt8)) (pk : List (Str × Value)) (orow : Array UInt8) (oc : Obj) (vs : Array Value) (nv : Nat) (nr0 : Nat) (tin : Tok) : Prop := ∀ (B : Below (ktrTop dp un gd cn cs L0 a ccd cl outer) base (envX cn cs L0 a ccd cl :: outer) h₀) (F : Fr h₀ L s.heap (mT lb ca sl wl kl m9)) (XK : (K w.params).In h₀) (T : Top q loose mean mg mb h₀) (N : News h₀ L s.heap nx) (hd : dp + 72 < recursionLimit) (hu : un + 700 < cLine) (S1 : StatR w nx L pd nl rl kl b ini r ks kc pk) (hb : ∀ k, k < 3 → 0 < (b k).size ∧ (b k).size ≤ 5) (hca2 : (ca, instObj 806 cdx) ∈ nx) (hcd : (cdx, oc) ∈ nx) (hDc : DWorld w pc (Str.ofString "shelf") crows tl cmem chn cop orow oc) (htl : (tl, listOf vs nv) ∈ nx) (hvs : vs.size = kc.length) (hvv : ∀ (j kj : Nat) (cj : UInt8), j < kc.length → kc[j]? = some (kj, cj) → ∃ t, vs.toList[j]? = some (.bytes (Array.replicate (b kj).size cj) t)) (hcr : (crows, listOf #[.bytes #[105, 110] tin] nr0) ∈ nx) (ret : ∀ h' tk', Fr h₀ L h' (mT lb ca sl wl kl m9) → News h₀ L h' nx → Q .next {s with heap := h', toks := tk'}), wpAny (model pw w) ((ktrTop dp un gd cn cs L0 a ccd cl outer).deeper (envOfC (Str.ofString "_law_right") scR L 986 (Value.ref 985))) (exec (lapBody.getD 3 (.Pass default)) (envOfC (Str.ofString "_law_right") scR L 986 (Value.ref 985))) Q E s
noncomputable def lst3_ok_S (c : Bag) : Prop := lst3_ok_P c.w (c.n 0) (c.n 1) c.gd (c.str 0) c.cs (c.n 2) (c.n 3) (c.n 4) c.v c.cl c.outer (c.heap 0) (c.heap 1) c.s c.qf (c.q 0) c.loose c.mean (c.m 0) (c.m 1) (c.m 2) (c.news 0) (c.n 5) (c.n 6) (c.n 7) (c.n 8) (c.n 9) (c.n 10) (c.n 11) (c.n 12) (c.n 13) (c.n 14) (c.n 15) (c.n 16) (c.n 17) (c.n 18) (c.n 19) (c.nb 0) c.nbool c.nn (c.l 0) c.kc (c.kvs 0) (c.b 0) (c.o 0) (c.avs 0) (c.n 20) (c.n 21) (c.n 22)
@[irreducible] noncomputable def lst3_ok_c : Bag := pick lst3_ok_S
theorem lst3_ok_m : lst3_ok_S lst3_ok_c := by
  refine (?zz9 : ∀ (w : World) (dp : Nat) (un : Nat) (gd : Option (List Code)) (cn : Str) (cs : Scope) (L0 : Addr) (L : Addr) (a : Addr) (ccd : Value) (cl : List (Str × Addr)) (outer : List Env) (base : Heap) (h₀ : Heap) (s : Shared) (Q : Flow → Shared → Prop) (E : Value → Shared → Prop) (loose : List Str) (mean : ExcName → Option Value) (mg : Str → Option Value) (mb : Str → Option Value) (m9 : Str → Option Value) (nx : List (Addr × Obj)) (lb : Addr) (kl : Addr) (pd : Addr) (nl : Addr) (rl : Addr) (ca : Addr) (cdx : Addr) (pc : Addr) (crows : Addr) (tl : Addr) (cmem : Addr) (chn : Addr) (cop : Addr) (sl : Addr) (wl : Addr) (b : Nat → Array UInt8) (ini : Nat → Bool) (r : Nat → Addr) (ks : List Addr) (kc : List (Nat × UInt8)) (pk : List (Str × Value)) (orow : Array UInt8) (oc : Obj) (vs : Array Value) (nv : Nat) (nr0 : Nat) (tin : Tok), lst3_ok_P w dp un gd cn cs L0 L a ccd cl outer base h₀ s Q E loose mean mg mb m9 nx lb kl pd nl rl ca cdx pc crows tl cmem chn cop sl wl b ini r ks kc pk orow oc vs nv nr0 tin) lst3_ok_c.w (lst3_ok_c.n 0) (lst3_ok_c.n 1) lst3_ok_c.gd (lst3_ok_c.str 0) lst3_ok_c.cs (lst3_ok_c.n 2) (lst3_ok_c.n 3) (lst3_ok_c.n 4) lst3_ok_c.v lst3_ok_c.cl lst3_ok_c.outer (lst3_ok_c.heap 0) (lst3_ok_c.heap 1) lst3_ok_c.s lst3_ok_c.qf (lst3_ok_c.q 0) lst3_ok_c.loose lst3_ok_c.mean (lst3_ok_c.m 0) (lst3_ok_c.m 1) (lst3_ok_c.m 2) (lst3_ok_c.news 0) (lst3_ok_c.n 5) (lst3_ok_c.n 6) (lst3_ok_c.n 7) (lst3_ok_c.n 8) (lst3_ok_c.n 9) (lst3_ok_c.n 10) (lst3_ok_c.n 11) (lst3_ok_c.n 12) (lst3_ok_c.n 13) (lst3_ok_c.n 14) (lst3_ok_c.n 15) (lst3_ok_c.n 16) (lst3_ok_c.n 17) (lst3_ok_c.n 18) (lst3_ok_c.n 19) (lst3_ok_c.nb 0) lst3_ok_c.nbool lst3_ok_c.nn (lst3_ok_c.l 0) lst3_ok_c.kc (lst3_ok_c.kvs 0) (lst3_ok_c.b 0) (lst3_ok_c.o 0) (lst3_ok_c.avs 0) (lst3_ok_c.n 20) (lst3_ok_c.n 21) (lst3_ok_c.n 22)
  intro w dp un gd cn cs L0 L a ccd cl outer base h₀ s Q E loose mean mg mb m9 nx lb kl pd nl rl ca cdx pc crows tl cmem chn cop sl wl b ini r ks kc pk orow oc vs nv nr0 tin B F XK T N hd hu S1 hb hca2 hcd hDc htl hvs hvv hcr ret
  obtain ⟨or', cr1, cr2⟩ := S1.cr
  obtain ⟨nr, rws, ar1, _, ar3⟩ := S1.ar.rs
  have ark := S1.ar.rk
  have hkz := S1.ar.kz
  obtain ⟨nk, kl1⟩ := S1.ar.kl
  have hkn := S1.ar.kn
  have hvv2 : ∀ j, j < vs.size → ∃ t, vs.toList[j]? = some (.bytes (shown b kc j) t) := fun j hj => by
    obtain ⟨⟨kj, cj⟩, hkj⟩ : ∃ q, kc[j]? = some q := ⟨_, List.getElem?_eq_getElem (by omega)⟩
    rw [shown_eq hkj]
    exact hvv j kj cj (by omega) hkj
  obtain ⟨_, _, _, _, _, _, _, _, _, _, _, _, _, _, _, _, rfl⟩ := hDc
  conv => pattern (occs := *) scR <;> whnf
  conv => pattern (occs := *) (List.getD lapBody _ _) <;> whnf
  show wpAny _ _ _ _ _ _
  (try k_fold)
  k_steps
  unfold Hold
  k_dflt (refine LCp.ListComp_P (F₀ := by k_asm) (by with_unfolding_all rfl) (by decide) (by rfl) (by decide) (by rfl) (by rfl) (by decide) ?_)
  k_steps
  unfold Hold
  k_dflt (refine LCp.SrcLP.ledger (k := nk) (by rfl) (by k_asm) (by k_asm) kl1 (by rw [sizeLine_eq, List.size_toArray, List.length_map]; omega) ?_)
  intro g'
  with_unfolding_all refine' restP_JN (fun ld j ys nx' => nx' = ld ∧ ys.length = j ∧ ∀ q, q < j → ∃ t, ys[q]? = some (.bytes (shown b kc q) t)) ?_ ?_ ?_
  · exact ⟨rfl, rfl, fun q hq => absurd hq (Nat.not_lt_zero _)⟩
  · rintro j ys nx' v hj ⟨rfl, hl, hK⟩ hv
    have hj9 : j < kc.length := by
      rw [List.size_toArray, List.length_map, hkn] at hj
      exact hj
    obtain ⟨⟨kj, cj⟩, hkj⟩ : ∃ q, kc[j]? = some q := ⟨_, List.getElem?_eq_getElem hj9⟩
    obtain ⟨hk3, aj, t1, t2, y1, y2⟩ := S1.ar.kt j kj cj hkj
    obtain ⟨tb, rk⟩ := ark kj hk3
    have ar4 : rws.toList[((kj : Nat) : Int).toNat]? = some (.ref (r kj)) := ar3 kj hk3
    have hb5 := (hb kj hk3).2
    refine ⟨aj, _, .int ((kj : Nat) : Int) t1, .int ((UInt8.toNat cj : Nat) : Int) t2, 0, ?_, y2, rfl, rfl, ?_⟩
    · rw [List.getElem?_toArray, List.getElem?_map, y1] at hv
      exact (Option.some.inj hv).symm
    intro I oI C oC D m₂ h tk E' hC hx hx2 F N off ne
    (repeat' (first | (k_unfold; (try dsimp only)) | (k_end; wrow_close) | ((with_reducible show wpAny _ _ (binaryOp Operator.Mult (Value.bytes _ _) (Value.int _ _)) _ _ _); (refine mul_rep (by omega) ?_); intro tz9 kz9) | ((with_reducible show wpAny _ _ (call (Value.type "bytes") [Value.ref _]) _ _ _); (k_dflt (refine' bytes_one ?Fq58 ?Nq58 ?mq58 ?hq58 ?_; (case Fq58 => k_asm); (case Nq58 => k_asm); (case mq58 => k_mem); (case hq58 => rfl); k_whole)); intro hz9 tz9 kz9 Fz9 Nz9) | ((with_reducible show wpAny _ _ (subscriptTail _ _ (Value.ref _) (Value.int _ _)) _ _ _); k_dflt (first | (refine' item_tupK ?Fq33 ?Xq33 ?eq33 ?aq33 ?bq33 ?cq33 ?dq33 ?_; (case Fq33 => k_asm); (case Xq33 => k_asm); (case eq33 => k_is); (case aq33 => decide); (case bq33 => decide); (case cq33 => rfl); (case dq33 => rfl); k_whole) | (refine' item_tup ?Nq33 ?mq33 ?aq33 ?bq33 ?cq33 ?dq33 ?_; (case Nq33 => k_asm); (case mq33 => k_mem); (case aq33 => decide); (case bq33 => decide); (case cq33 => rfl); (case dq33 => rfl); k_whole) | (refine' item_made ?Nq33 ?mq33 ?aq33 ?bq33 ?dq33 ?_; (case Nq33 => k_asm); (case mq33 => k_mem); (case aq33 => first | decide | omega); (case bq33 => first | decide | omega); (case dq33 => first | rfl | with_reducible assumption); k_whole))) | walk1 | (dsimp only; walk1) | (leave1; walk_say "STEP leave1"; (try dsimp only)) | fail "no step"))
    rename Fr _ _ _ _ => lF
    rename News _ _ _ _ => lN
    refine LCg.CompEnd.intro lF lN _ (by intro p hp; repeat (first | exact hp | refine List.mem_cons_of_mem _ ?_)) off (by lcg_src) ⟨rfl, by rw [List.length_append, hl]; rfl, fun q hq => ?_⟩
    by_cases hqj : q < j
    · rw [List.getElem?_append_left (by omega)]
      exact hK q hqj
    · obtain rfl : q = j := by omega
      rw [List.getElem?_append_right (by omega), hl, Nat.sub_self, shown_eq hkj]
      exact ⟨_, rfl⟩
  · rintro ys nx' ⟨rfl, hl, hK⟩
    rw [List.size_toArray, List.length_map, hkn] at hl hK
    have hsz : vs.size = ys.toArray.size := (hvs.trans hl.symm).trans (by simp)
    have hKK : ∀ j, j < vs.size → ∃ t, ys.toArray.toList[j]? = some (.bytes (shown b kc j) t) := fun j hj => hK j (by rw [← hvs]; exact hj)
    unfold LCg.FinE
    intro D h8 tk8 F8 N8 o8
    dsimp only
    (repeat' (first | (k_unfold; (try dsimp only)) | (k_end; wrow_close) | ((with_reducible show wpAny _ _ (compareOp CmpOp.NotEq (Value.ref _) (Value.ref _)) _ _ _); k_dflt (first | (refine' ne_bsone ?Nq67 ?aq67 ?bq67 ?uq67 ?_; (case Nq67 => k_asm); (case aq67 => k_mem); (case bq67 => k_mem); (case uq67 => first | exact r1 (by assumption) rfl | exact r2 (by assumption) rfl | exact r3 (by assumption) rfl | exact r0 (by assumption) | k_units); k_whole) | (refine' ne_bslists ?Nq67 ?aq67 ?bq67 ?zq67 ?cq67 ?dq67 ?uq67 ?_; (case Nq67 => k_asm); (case aq67 => k_mem); (case bq67 => k_mem); (case cq67 => assumption); (case zq67 => assumption); (case dq67 => assumption); (case uq67 => first | exact r1 (by assumption) rfl | exact r2 (by assumption) rfl | exact r3 (by assumption) rfl | exact r0 (by assumption) | k_units); k_whole))) | walk1 | (dsimp only; walk1) | (leave1; walk_say "STEP leave1"; (try dsimp only)) | fail "no step"))
    rename Fr _ _ _ _ => lF
    rename News _ _ _ _ => lN
    exact ret _ _ lF (fun p hp => lN p (by repeat (first | exact hp | refine List.mem_cons_of_mem _ ?_)))
theorem lst3_ok {w : World} {dp un : Nat} {gd : Option (List Code)} {cn : Str} {cs : Scope} {L0 L a : Addr} {ccd : Value} {cl : List (Str × Addr)} {outer : List Env} {base h₀ : Heap} {s : Shared} {Q : Flow → Shared → Prop} {E : Value → Shared → Prop}
   {loose : List Str} {mean : ExcName → Option Value} {mg mb m9 : Str → Option Value} {nx : List (Addr × Obj)} {lb kl : Addr} {pd nl rl ca cdx pc crows tl cmem chn cop sl wl : Addr} {b : Nat → Array UInt8} {ini : Nat → Bool} {r : Nat → Addr} {ks : List Addr} {kc : List (Nat × UInt8)} {pk : List (Str × Value)} {orow : Array UInt8} {oc : Obj} {vs : Array Value} {nv nr0 : Nat} {tin : Tok}
   (B : Below (ktrTop dp un gd cn cs L0 a ccd cl outer) base (envX cn cs L0 a ccd cl :: outer) h₀) (F : Fr h₀ L s.heap (mT lb ca sl wl kl m9)) (XK : (K w.params).In h₀) (T : Top q loose mean mg mb h₀)
   (N : News h₀ L s.heap nx) (hd : dp + 72 < recursionLimit) (hu : un + 700 < cLine) (S1 : StatR w nx L pd nl rl kl b ini r ks kc pk) (hb : ∀ k, k < 3 → 0 < (b k).size ∧ (b k).size ≤ 5)
   (hca2 : (ca, instObj 806 cdx) ∈ nx) (hcd : (cdx, oc) ∈ nx) (hDc : DWorld w pc (Str.ofString "shelf") crows tl cmem chn cop orow oc) (htl : (tl, listOf vs nv) ∈ nx) (hvs : vs.size = kc.length) (hvv : ∀ (j kj : Nat) (cj : UInt8), j < kc.length → kc[j]? = some (kj, cj) → ∃ t, vs.toList[j]? = some (.bytes (Array.replicate (b kj).size cj) t))
   (hcr : (crows, listOf #[.bytes #[105, 110] tin] nr0) ∈ nx)
   (ret : ∀ h' tk', Fr h₀ L h' (mT lb ca sl wl kl m9) → News h₀ L h' nx → Q .next {s with heap := h', toks := tk'}) :
   wpAny (model pw w) ((ktrTop dp un gd cn cs L0 a ccd cl outer).deeper (envOfC (Str.ofString "_law_right") scR L 986 (Value.ref 985))) (exec (lapBody.getD 3 (.Pass default)) (envOfC (Str.ofString "_law_right") scR L 986 (Value.ref 985))) Q E s := by
  exact clo (by with_unfolding_all rfl) lst3_ok_m (Bag.mk w gd cs ccd cl outer bag0.ar s loose mean Q bag0.qu (lk [un, L0, L, a, lb, kl, pd, nl, rl, ca, cdx, pc, crows, tl, cmem, chn, cop, sl, wl, nv, nr0, tin] dp) (lk [] cn) (lk [h₀] base) (lk [mb, m9] mg) (lk [] nx) (lk [] E) bag0.i bag0.vs bag0.ns (lk [] orow) bag0.bool (lk [] oc) (lk [] vs) (lk [] pk) (lk [] b) ini r (lk [] ks) kc bag0.nd bag0.u8 bag0.d bag0.ov) B F XK T N hd hu S1 hb hca2 hcd hDc htl hvs hvv hcr ret

end
theorem flush_F9 : True := by first | walk1 | exact trivial
section
open PySem PySem.W PySem.Calls PyProof.Rows PyProof.V PySem.Spec
noncomputable def st7_ok_P (w : World) (dp : Nat) (un : Nat) (gd : Option (List Code)) (cn : Str) (cs : Scope) (L0 : Addr) (L : Addr) (a : Addr) (ccd : Value) (cl : List (Str × Addr)) (outer : List Env) (base : Heap) (h₀ : Heap) (s : Shared) (Q : Flow → Shared → Prop) (E : Value → Shared → Prop) (loose : List Str) (mean : ExcName → Option Value) (mg : Str → Option Value) (mb : Str → Option Value) (m9 : Str → Option Value) (nx : List (Addr × Obj)) (pd : Addr) (nl : Addr) (rl : Addr) (kl : Addr) (b : Nat → Array UInt8) (ini : Nat → Bool) (r : Nat → Addr) (ks : List Addr) (kc : List (Nat × UInt8)) (pk : List (Str × Value)) (lb : Addr) (ca : Addr) (sl : Addr) (wl : Addr) (i : Nat) (k : Nat) (c : UInt8) (d : WD) (tw : Tok) (to : Tok) (ti : Tok) (tk0 : Tok) (oa : Obj) (ow : Obj) (pc : Addr) (crows : Addr) (tl : Addr) (cmem : Addr) (chn : Addr) (cop : Addr) (cdx : Addr) (orow : Array UInt8) (oc : Obj) : Prop := ∀ (B : Below (ktrTop dp un gd cn cs L0 a ccd cl outer) base (envX cn cs L0 a ccd cl :: outer) h₀) (F : Fr h₀ L s.heap (mU lb ca sl wl kl i c (b k) ti to tw m9)) (XK : (K w.params).In h₀) (T : Top q loose mean mg mb h₀) (N : News h₀ L s.heap nx) (hd : dp + 70 < recursionLimit) (hu : un + 700 < cLine) (S1 : StatR w nx L pd nl rl kl b ini r ks kc pk) (h3 : k < 3) (hbb : 0 < (b k).size ∧ (b k).size ≤ 5) (ha : (L + 1 + 1 + 1, oa) ∈ nx) (hoa : oa.data = .cell (some (.int ((k : Nat) : Int) tk0))) (hw : (L + 1 + 1 + 1 + 1, ow) ∈ nx) (how : ow.data = .cell (some (.ref d.x))) (hi9 : i ≤ 9) (hca2 : (ca, instObj 806 cdx) ∈ nx) (hcd : (cdx, oc) ∈ nx) (hDc : DWorld w pc (Str.ofString "shelf") crows tl cmem chn cop orow oc) (n1 : ca ≠ cdx) (ret : ∀ h' tk' oc' orow', Fr h₀ L h' (mU lb ca sl wl kl i c (b k) ti to tw m9) → News h₀ L h' (swap cdx oc' nx) → DWorld w pc (Str.ofString "shelf") crows tl cmem chn cop orow' oc' → Q .next {s with heap := h', toks := tk'}), wpAny (model pw w) ((ktrTop dp un gd cn cs L0 a ccd cl outer).deeper (envOfC (Str.ofString "_law_right") scR L 986 (Value.ref 985))) (exec (turnBody.getD 7 (.Pass default)) (envOfC (Str.ofString "_law_right") scR L 986 (Value.ref 985))) Q E s
noncomputable def st7_ok_S (c : Bag) : Prop := st7_ok_P c.w (c.n 0) (c.n 1) c.gd (c.str 0) c.cs (c.n 2) (c.n 3) (c.n 4) c.v c.cl c.outer (c.heap 0) (c.heap 1) c.s c.qf (c.q 0) c.loose c.mean (c.m 0) (c.m 1) (c.m 2) (c.news 0) (c.n 5) (c.n 6) (c.n 7) (c.n 8) (c.nb 0) c.nbool c.nn (c.l 0) c.kc (c.kvs 0) (c.n 9) (c.n 10) (c.n 11) (c.n 12) (c.n 13) (c.n 14) c.u8 c.d (c.n 15) (c.n 16) (c.n 17) (c.n 18) (c.o 0) (c.o 1) (c.n 19) (c.n 20) (c.n 21) (c.n 22) (c.n 23) (c.n 24) (c.n 25) (c.b 0) (c.o 2)
@[irreducible] noncomputable def st7_ok_c : Bag := pick st7_ok_S
theorem st7_ok_m : st7_ok_S st7_ok_c := by
  refine (?zz9 : ∀ (w : World) (dp : Nat) (un : Nat) (gd : Option (List Code)) (cn : Str) (cs : Scope) (L0 : Addr) (L : Addr) (a : Addr) (ccd : Value) (cl : List (Str × Addr)) (outer : List Env) (base : Heap) (h₀ : Heap) (s : Shared) (Q : Flow → Shared → Prop) (E : Value → Shared → Prop) (loose : List Str) (mean : ExcName → Option Value) (mg : Str → Option Value) (mb : Str → Option Value) (m9 : Str → Option Value) (nx : List (Addr × Obj)) (pd : Addr) (nl : Addr) (rl : Addr) (kl : Addr) (b : Nat → Array UInt8) (ini : Nat → Bool) (r : Nat → Addr) (ks : List Addr) (kc : List (Nat × UInt8)) (pk : List (Str × Value)) (lb : Addr) (ca : Addr) (sl : Addr) (wl : Addr) (i : Nat) (k : Nat) (c : UInt8) (d : WD) (tw : Tok) (to : Tok) (ti : Tok) (tk0 : Tok) (oa : Obj) (ow : Obj) (pc : Addr) (crows : Addr) (tl : Addr) (cmem : Addr) (chn : Addr) (cop : Addr) (cdx : Addr) (orow : Array UInt8) (oc : Obj), st7_ok_P w dp un gd cn cs L0 L a ccd cl outer base h₀ s Q E loose mean mg mb m9 nx pd nl rl kl b ini r ks kc pk lb ca sl wl i k c d tw to ti tk0 oa ow pc crows tl cmem chn cop cdx orow oc) st7_ok_c.w (st7_ok_c.n 0) (st7_ok_c.n 1) st7_ok_c.gd (st7_ok_c.str 0) st7_ok_c.cs (st7_ok_c.n 2) (st7_ok_c.n 3) (st7_ok_c.n 4) st7_ok_c.v st7_ok_c.cl st7_ok_c.outer (st7_ok_c.heap 0) (st7_ok_c.heap 1) st7_ok_c.s st7_ok_c.qf (st7_ok_c.q 0) st7_ok_c.loose st7_ok_c.mean (st7_ok_c.m 0) (st7_ok_c.m 1) (st7_ok_c.m 2) (st7_ok_c.news 0) (st7_ok_c.n 5) (st7_ok_c.n 6) (st7_ok_c.n 7) (st7_ok_c.n 8) (st7_ok_c.nb 0) st7_ok_c.nbool st7_ok_c.nn (st7_ok_c.l 0) st7_ok_c.kc (st7_ok_c.kvs 0) (st7_ok_c.n 9) (st7_ok_c.n 10) (st7_ok_c.n 11) (st7_ok_c.n 12) (st7_ok_c.n 13) (st7_ok_c.n 14) st7_ok_c.u8 st7_ok_c.d (st7_ok_c.n 15) (st7_ok_c.n 16) (st7_ok_c.n 17) (st7_ok_c.n 18) (st7_ok_c.o 0) (st7_ok_c.o 1) (st7_ok_c.n 19) (st7_ok_c.n 20) (st7_ok_c.n 21) (st7_ok_c.n 22) (st7_ok_c.n 23) (st7_ok_c.n 24) (st7_ok_c.n 25) (st7_ok_c.b 0) (st7_ok_c.o 2)
  intro w dp un gd cn cs L0 L a ccd cl outer base h₀ s Q E loose mean mg mb m9 nx pd nl rl kl b ini r ks kc pk lb ca sl wl i k c d tw to ti tk0 oa ow pc crows tl cmem chn cop cdx orow oc B F XK T N hd hu S1 h3 hbb ha hoa hw how hi9 hca2 hcd hDc n1 ret
  obtain ⟨_, _, _, _, _, _, _, _, _, _, _, _, _, _, _, _, rfl⟩ := hDc
  have N1 := News.front N hcd
  have in1 : ∀ {p : Addr × Obj}, p ∈ nx → p.1 ≠ cdx → p ∈ nx.filter fun p => decide (p.1 ≠ cdx) := fun h ne => in_but h ne
  have off1 : ∀ p ∈ nx.filter fun p => decide (p.1 ≠ cdx), p.1 ≠ cdx := fun p hp => (of_but hp).2
  have q1 := in1 hca2 n1
  have swp : ∀ o : Obj, swap cdx o nx = (cdx, o) :: nx.filter fun p => decide (p.1 ≠ cdx) := fun _ => rfl
  generalize (nx.filter fun p => decide (p.1 ≠ cdx)) = nf at *
  have hb5 := hbb.2
  have hb0 := hbb.1
  clear N
  conv => pattern (occs := *) scR <;> whnf
  conv => pattern (occs := *) (List.getD turnBody _ _) <;> whnf
  show wpAny _ _ _ _ _ _
  (try k_fold)
  (repeat' (first | (k_unfold; (try dsimp only)) | (k_end; wrow_close) | ((with_reducible show wpAny _ _ (binaryOp Operator.Mult (Value.bytes (List.toArray _) _) (Value.int _ _)) _ _ _); (refine mul_repI (by simp) (by simp) (fmod3 (by assumption)).1 (fmod3 (by assumption)).2 ?_); intro xz9 tz9 kz9) | walk1 | (dsimp only; walk1) | (leave1; walk_say "STEP leave1"; (try dsimp only)) | fail "no step"))
  rename Fr _ _ _ _ => lF
  rename News _ _ _ _ => lN
  exact ret _ _ _ _ lF (show News _ _ _ (swap _ _ _) from by rw [swp]; exact lN) ⟨_, _, _, _, _, _, _, _, _, _, _, _, _, _, _, _, rfl⟩
theorem st7_ok {w : World} {dp un : Nat} {gd : Option (List Code)} {cn : Str} {cs : Scope} {L0 L a : Addr} {ccd : Value} {cl : List (Str × Addr)} {outer : List Env} {base h₀ : Heap} {s : Shared} {Q : Flow → Shared → Prop} {E : Value → Shared → Prop}
   {loose : List Str} {mean : ExcName → Option Value} {mg mb m9 : Str → Option Value} {nx : List (Addr × Obj)} {pd nl rl kl : Addr} {b : Nat → Array UInt8} {ini : Nat → Bool} {r : Nat → Addr} {ks : List Addr} {kc : List (Nat × UInt8)} {pk : List (Str × Value)}
   {lb ca sl wl : Addr} {i k : Nat} {c : UInt8} {d : WD} {tw to ti tk0 : Tok} {oa ow : Obj} {pc crows tl cmem chn cop cdx : Addr} {orow : Array UInt8} {oc : Obj}
   (B : Below (ktrTop dp un gd cn cs L0 a ccd cl outer) base (envX cn cs L0 a ccd cl :: outer) h₀) (F : Fr h₀ L s.heap (mU lb ca sl wl kl i c (b k) ti to tw m9)) (XK : (K w.params).In h₀) (T : Top q loose mean mg mb h₀)
   (N : News h₀ L s.heap nx) (hd : dp + 70 < recursionLimit) (hu : un + 700 < cLine) (S1 : StatR w nx L pd nl rl kl b ini r ks kc pk) (h3 : k < 3) (hbb : 0 < (b k).size ∧ (b k).size ≤ 5)
   (ha : (L + 1 + 1 + 1, oa) ∈ nx) (hoa : oa.data = .cell (some (.int ((k : Nat) : Int) tk0))) (hw : (L + 1 + 1 + 1 + 1, ow) ∈ nx) (how : ow.data = .cell (some (.ref d.x)))
   (hi9 : i ≤ 9) (hca2 : (ca, instObj 806 cdx) ∈ nx) (hcd : (cdx, oc) ∈ nx) (hDc : DWorld w pc (Str.ofString "shelf") crows tl cmem chn cop orow oc) (n1 : ca ≠ cdx)
   (ret : ∀ h' tk' oc' orow', Fr h₀ L h' (mU lb ca sl wl kl i c (b k) ti to tw m9) → News h₀ L h' (swap cdx oc' nx) → DWorld w pc (Str.ofString "shelf") crows tl cmem chn cop orow' oc' → Q .next {s with heap := h', toks := tk'}) :
   wpAny (model pw w) ((ktrTop dp un gd cn cs L0 a ccd cl outer).deeper (envOfC (Str.ofString "_law_right") scR L 986 (Value.ref 985))) (exec (turnBody.getD 7 (.Pass default)) (envOfC (Str.ofString "_law_right") scR L 986 (Value.ref 985))) Q E s := by
  exact clo (by with_unfolding_all rfl) st7_ok_m (Bag.mk w gd cs ccd cl outer bag0.ar s loose mean Q bag0.qu (lk [un, L0, L, a, pd, nl, rl, kl, lb, ca, sl, wl, i, k, tw, to, ti, tk0, pc, crows, tl, cmem, chn, cop, cdx] dp) (lk [] cn) (lk [h₀] base) (lk [mb, m9] mg) (lk [] nx) (lk [] E) bag0.i bag0.vs bag0.ns (lk [] orow) bag0.bool (lk [ow, oc] oa) bag0.avs (lk [] pk) (lk [] b) ini r (lk [] ks) kc bag0.nd c d bag0.ov) B F XK T N hd hu S1 h3 hbb ha hoa hw how hi9 hca2 hcd hDc n1 ret

end
theorem flush_FD : True := by first | walk1 | exact trivial
section
open PySem PySem.W PySem.Calls PyProof.Rows PyProof.V PySem.Spec
theorem turnBody_eq : turnBody = [turnBody.getD 0 (.Pass default), turnBody.getD 1 (.Pass default), turnBody.getD 2 (.Pass default), turnBody.getD 3 (.Pass default), turnBody.getD 4 (.Pass default), turnBody.getD 5 (.Pass default), turnBody.getD 6 (.Pass default), turnBody.getD 7 (.Pass default), turnBody.getD 8 (.Pass default)] := by kernel_rfl

noncomputable def turn_ok_P (w : World) (dp : Nat) (un : Nat) (gd : Option (List Code)) (cn : Str) (cs : Scope) (L0 : Addr) (L : Addr) (a : Addr) (ccd : Value) (cl : List (Str × Addr)) (outer : List Env) (base : Heap) (h₀ : Heap) (s : Shared) (Q : Flow → Shared → Prop) (E : Value → Shared → Prop) (loose : List Str) (mean : ExcName → Option Value) (mg : Str → Option Value) (mb : Str → Option Value) (m9 : Str → Option Value) (u0 : Option Value) (u1 : Option Value) (u2 : Option Value) (R : List (Addr × Obj)) (nx : List (Addr × Obj)) (ld : List (Addr × Obj)) (pd : Addr) (nl : Addr) (rl : Addr) (kl : Addr) (b : Nat → Array UInt8) (ini : Nat → Bool) (r : Nat → Addr) (ks : List Addr) (kc : List (Nat × UInt8)) (pk : List (Str × Value)) (lb : Addr) (wd : Addr) (ca : Addr) (cdx : Addr) (pc : Addr) (crows : Addr) (tl : Addr) (cmem : Addr) (chn : Addr) (cop : Addr) (sl : Addr) (wl : Addr) (i : Nat) (kvs : List (Str × Value)) (st : Nat → Array UInt8) (X : Nat → Option WD) (xs : List Addr) (ts : List Addr) (orow : Array UInt8) (k : Nat) (c : UInt8) (I : Addr) (I' : Addr) (TT : Addr) (aa : Addr) (io : Obj) (io' : Obj) (ti : Tok) : Prop := ∀ (B : Below (ktrTop dp un gd cn cs L0 a ccd cl outer) base (envX cn cs L0 a ccd cl :: outer) h₀) (F : Fr h₀ L s.heap (updL (mT lb ca sl wl kl m9) (xsT.zip [u0, u1, u2]))) (XK : (K w.params).In h₀) (T : Top q loose mean mg mb h₀) (N : News h₀ L s.heap ((I, io) :: (I', io') :: nx)) (hio : io.cls = .type "enumerate") (hio' : io'.cls = .type "list_iterator") (hI : ∀ p ∈ nx, p.1 ≠ I) (hI' : ∀ p ∈ nx, p.1 ≠ I') (hd : dp + 70 < recursionLimit) (hu : un + 700 < cLine) (LR : LapR w R L pd nl rl kl b ini r ks kc pk lb wd ca cdx pc crows tl cmem chn cop sl wl) (TI : TurnI w R nx L b ini kc pk wd cdx pc crows tl cmem chn cop sl wl i kvs st X xs ts orow) (hz : kvs.length ≤ i) (hkc : kc[i]? = some (k, c)) (hb : ∀ k, k < 3 → 0 < (b k).size ∧ (b k).size ≤ 5) (hT : IsTup s.heap TT #[.int (i : Int) ti, .ref aa]) (haa : ks[i]? = some aa), wpAny (model pw w) ((ktrTop dp un gd cn cs L0 a ccd cl outer).deeper (envOfC (Str.ofString "_law_right") scR L 986 (Value.ref 985))) (assign turnTgt (envOfC (Str.ofString "_law_right") scR L 986 (Value.ref 985)) (.ref TT)) (fun _ s₂ => wpP (model pw w) ((ktrTop dp un gd cn cs L0 a ccd cl outer).deeper (envOfC (Str.ofString "_law_right") scR L 986 (Value.ref 985))) (execs turnBody (envOfC (Str.ofString "_law_right") scR L 986 (Value.ref 985)))
     (TPost h₀ L s [(I, io), (I', io')] (JM (mT lb ca sl wl kl m9) xsT (JTurn w R L b ini kc pk wd cdx pc crows tl cmem chn cop sl wl ld (i + 1))) Q) E s₂) E s
noncomputable def turn_ok_S (c : Bag) : Prop := turn_ok_P c.w (c.n 0) (c.n 1) c.gd (c.str 0) c.cs (c.n 2) (c.n 3) (c.n 4) c.v c.cl c.outer (c.heap 0) (c.heap 1) c.s c.qf (c.q 0) c.loose c.mean (c.m 0) (c.m 1) (c.m 2) (c.ov 0) (c.ov 1) (c.ov 2) (c.news 0) (c.news 1) (c.news 2) (c.n 5) (c.n 6) (c.n 7) (c.n 8) (c.nb 0) c.nbool c.nn (c.l 0) c.kc (c.kvs 0) (c.n 9) (c.n 10) (c.n 11) (c.n 12) (c.n 13) (c.n 14) (c.n 15) (c.n 16) (c.n 17) (c.n 18) (c.n 19) (c.n 20) (c.n 21) (c.kvs 1) (c.nb 1) c.nd (c.l 1) (c.l 2) (c.b 0) (c.n 22) c.u8 (c.n 23) (c.n 24) (c.n 25) (c.n 26) (c.o 0) (c.o 1) (c.n 27)
@[irreducible] noncomputable def turn_ok_c : Bag := pick turn_ok_S
theorem turn_ok_m : turn_ok_S turn_ok_c := by
  refine (?zz9 : ∀ (w : World) (dp : Nat) (un : Nat) (gd : Option (List Code)) (cn : Str) (cs : Scope) (L0 : Addr) (L : Addr) (a : Addr) (ccd : Value) (cl : List (Str × Addr)) (outer : List Env) (base : Heap) (h₀ : Heap) (s : Shared) (Q : Flow → Shared → Prop) (E : Value → Shared → Prop) (loose : List Str) (mean : ExcName → Option Value) (mg : Str → Option Value) (mb : Str → Option Value) (m9 : Str → Option Value) (u0 : Option Value) (u1 : Option Value) (u2 : Option Value) (R : List (Addr × Obj)) (nx : List (Addr × Obj)) (ld : List (Addr × Obj)) (pd : Addr) (nl : Addr) (rl : Addr) (kl : Addr) (b : Nat → Array UInt8) (ini : Nat → Bool) (r : Nat → Addr) (ks : List Addr) (kc : List (Nat × UInt8)) (pk : List (Str × Value)) (lb : Addr) (wd : Addr) (ca : Addr) (cdx : Addr) (pc : Addr) (crows : Addr) (tl : Addr) (cmem : Addr) (chn : Addr) (cop : Addr) (sl : Addr) (wl : Addr) (i : Nat) (kvs : List (Str × Value)) (st : Nat → Array UInt8) (X : Nat → Option WD) (xs : List Addr) (ts : List Addr) (orow : Array UInt8) (k : Nat) (c : UInt8) (I : Addr) (I' : Addr) (TT : Addr) (aa : Addr) (io : Obj) (io' : Obj) (ti : Tok), turn_ok_P w dp un gd cn cs L0 L a ccd cl outer base h₀ s Q E loose mean mg mb m9 u0 u1 u2 R nx ld pd nl rl kl b ini r ks kc pk lb wd ca cdx pc crows tl cmem chn cop sl wl i kvs st X xs ts orow k c I I' TT aa io io' ti) turn_ok_c.w (turn_ok_c.n 0) (turn_ok_c.n 1) turn_ok_c.gd (turn_ok_c.str 0) turn_ok_c.cs (turn_ok_c.n 2) (turn_ok_c.n 3) (turn_ok_c.n 4) turn_ok_c.v turn_ok_c.cl turn_ok_c.outer (turn_ok_c.heap 0) (turn_ok_c.heap 1) turn_ok_c.s turn_ok_c.qf (turn_ok_c.q 0) turn_ok_c.loose turn_ok_c.mean (turn_ok_c.m 0) (turn_ok_c.m 1) (turn_ok_c.m 2) (turn_ok_c.ov 0) (turn_ok_c.ov 1) (turn_ok_c.ov 2) (turn_ok_c.news 0) (turn_ok_c.news 1) (turn_ok_c.news 2) (turn_ok_c.n 5) (turn_ok_c.n 6) (turn_ok_c.n 7) (turn_ok_c.n 8) (turn_ok_c.nb 0) turn_ok_c.nbool turn_ok_c.nn (turn_ok_c.l 0) turn_ok_c.kc (turn_ok_c.kvs 0) (turn_ok_c.n 9) (turn_ok_c.n 10) (turn_ok_c.n 11) (turn_ok_c.n 12) (turn_ok_c.n 13) (turn_ok_c.n 14) (turn_ok_c.n 15) (turn_ok_c.n 16) (turn_ok_c.n 17) (turn_ok_c.n 18) (turn_ok_c.n 19) (turn_ok_c.n 20) (turn_ok_c.n 21) (turn_ok_c.kvs 1) (turn_ok_c.nb 1) turn_ok_c.nd (turn_ok_c.l 1) (turn_ok_c.l 2) (turn_ok_c.b 0) (turn_ok_c.n 22) turn_ok_c.u8 (turn_ok_c.n 23) (turn_ok_c.n 24) (turn_ok_c.n 25) (turn_ok_c.n 26) (turn_ok_c.o 0) (turn_ok_c.o 1) (turn_ok_c.n 27)
  intro w dp un gd cn cs L0 L a ccd cl outer base h₀ s Q E loose mean mg mb m9 u0 u1 u2 R nx ld pd nl rl kl b ini r ks kc pk lb wd ca cdx pc crows tl cmem chn cop sl wl i kvs st X xs ts orow k c I I' TT aa io io' ti B F XK T N hio hio' hI hI' hd hu LR TI hz hkc hb hT haa
  have h3 : k < 3 := (LR.st.ar.kt i k c hkc).1
  have hlt : i < kc.length := (List.getElem?_eq_some_iff.mp hkc).1
  have hkz := LR.st.ar.kz
  obtain ⟨oa0, va0, a1, a2⟩ := TI.ac
  obtain ⟨ow0, vw0, b1, b2⟩ := TI.wc
  have nII : I ≠ I' := ne_cls N (.head _) (.tail _ (.head _)) (by rw [hio, hio']; decide)
  have nIa : L + 1 + 1 + 1 ≠ I := hI _ a1
  have nIa' : L + 1 + 1 + 1 ≠ I' := hI' _ a1
  have nIw : L + 1 + 1 + 1 + 1 ≠ I := hI _ b1
  have nIw' : L + 1 + 1 + 1 + 1 ≠ I' := hI' _ b1
  have RI : ∀ q ∈ R, q.1 ≠ I := fun q hq => hI _ (TI.sub q hq)
  have RI' : ∀ q ∈ R, q.1 ≠ I' := fun q hq => hI' _ (TI.sub q hq)
  rw [turnBody_eq]
  refine wpAny_mono (st0_ok (ld := ld) (Q := fun f s' => match f with
    | .next => wpP (model pw w) ((ktrTop dp un gd cn cs L0 a ccd cl outer).deeper (envOfC (Str.ofString "_law_right") scR L 986 (Value.ref 985))) (execs [turnBody.getD 1 (.Pass default), turnBody.getD 2 (.Pass default), turnBody.getD 3 (.Pass default), turnBody.getD 4 (.Pass default), turnBody.getD 5 (.Pass default), turnBody.getD 6 (.Pass default), turnBody.getD 7 (.Pass default), turnBody.getD 8 (.Pass default)] (envOfC (Str.ofString "_law_right") scR L 986 (Value.ref 985))) (TPost h₀ L s [(I, io), (I', io')] (JM (mT lb ca sl wl kl m9) xsT (JTurn w R L b ini kc pk wd cdx pc crows tl cmem chn cop sl wl ld (i + 1))) Q) E s'
    | f => TPost h₀ L s [(I, io), (I', io')] (JM (mT lb ca sl wl kl m9) xsT (JTurn w R L b ini kc pk wd cdx pc crows tl cmem chn cop sl wl ld (i + 1))) Q f s') B F XK T N hio hio' hI hI' hd hu LR TI hz hkc hb hT haa ?_) (fun _ s₂ h => wpP_execs_cons h) (fun _ _ e => e)
  intro nx2 kvs2 X2 d p to2 tw h2 tk2 m9' F2 N2 AT2 same
  show wpP _ _ (execs _ _) _ _ _
  have TI2 := AT2.turn
  have hkl := AT2.kl
  obtain ⟨oa, ta, ha, hoa⟩ := AT2.ac
  obtain ⟨ow, hw, how⟩ := AT2.wc
  have S2 := LR.st.sub TI2.sub
  obtain ⟨odx, hdx, hD⟩ := AT2.fd
  have hX := AT2.hX
  obtain ⟨_, ⟨p', hp', W⟩, _⟩ := (TI2.wk k h3).2 d hX
  obtain ⟨p2, hp2, hP⟩ := LR.st.pv k h3
  obtain rfl : p2 = p := Value.ref.inj (Option.some.inj (hp2.symm.trans AT2.hp))
  obtain ⟨oc, hcd, hDc⟩ := TI2.cd
  obtain ⟨ns, sts, hss, hsn, hst⟩ := TI2.ss
  obtain ⟨tst, hstk⟩ := hst k h3
  obtain ⟨nv, vs, htl, hvs, hvv⟩ := TI2.tt
  obtain ⟨nw, hwl⟩ := TI2.ww
  have o1 := W.o1; have o2 := W.o2; have o3 := W.o3; have lo := W.lo
  obtain ⟨g1, g2, g3, g4, g5, g6⟩ := W.lf
  have lx : @LT.lt Nat _ d.dx d.mem := Nat.lt_trans o1 o2
  have lh : @LT.lt Nat _ d.dx d.hn := Nat.lt_trans lx o3
  obtain ⟨ohn, hhn, hEm⟩ := W.fh
  have hca : d.x ≠ ca := Nat.ne_of_gt (Nat.lt_trans (lo _ LR.ca) o1)
  have hca2 := TI2.sub _ LR.ca
  obtain ⟨p1, p3, p4, p5⟩ := LR.ap
  have hcc : oc.cls = .type "dict" ∧ ∃ e n, oc.data = .dict e n := by
    obtain ⟨_, _, _, _, _, _, _, _, _, _, _, _, _, _, _, _, rfl⟩ := hDc
    exact ⟨rfl, _, _, rfl⟩
  -- apartness
  have na_sl : L + 1 + 1 + 1 ≠ sl := ne_data N2 ha hss (by rw [hoa]; exact fun h => nomatch h)
  have na_tl : L + 1 + 1 + 1 ≠ tl := ne_data N2 ha htl (by rw [hoa]; exact fun h => nomatch h)
  have na_wl : L + 1 + 1 + 1 ≠ wl := ne_data N2 ha hwl (by rw [hoa]; exact fun h => nomatch h)
  have na_cd : L + 1 + 1 + 1 ≠ cdx := ne_data N2 ha hcd (by obtain ⟨e, n, x⟩ := hcc.2; rw [hoa, x]; exact fun h => nomatch h)
  have na_me : L + 1 + 1 + 1 ≠ d.mem := Nat.ne_of_lt (Nat.lt_trans (Nat.lt_trans (Nat.lt_succ_self _) g6) lx)
  have nw_sl : L + 1 + 1 + 1 + 1 ≠ sl := ne_data N2 hw hss (by rw [how]; exact fun h => nomatch h)
  have nw_tl : L + 1 + 1 + 1 + 1 ≠ tl := ne_data N2 hw htl (by rw [how]; exact fun h => nomatch h)
  have nw_wl : L + 1 + 1 + 1 + 1 ≠ wl := ne_data N2 hw hwl (by rw [how]; exact fun h => nomatch h)
  have nw_cd : L + 1 + 1 + 1 + 1 ≠ cdx := ne_data N2 hw hcd (by obtain ⟨e, n, x⟩ := hcc.2; rw [how, x]; exact fun h => nomatch h)
  have nw_me : L + 1 + 1 + 1 + 1 ≠ d.mem := Nat.ne_of_lt (Nat.lt_trans g6 lx)
  have sl_me : sl ≠ d.mem := Nat.ne_of_lt (Nat.lt_trans g3 lx)
  have tl_me : tl ≠ d.mem := Nat.ne_of_lt (Nat.lt_trans g4 lx)
  have wl_me : wl ≠ d.mem := Nat.ne_of_lt (Nat.lt_trans g5 lx)
  have cd_me : cdx ≠ d.mem := Nat.ne_of_lt (Nat.lt_trans g2 lx)
  have cd_sl : cdx ≠ sl := ne_cls N2 hcd hss (by rw [hcc.1]; simp)
  have cd_tl : cdx ≠ tl := ne_cls N2 hcd htl (by rw [hcc.1]; simp)
  have cd_wl : cdx ≠ wl := ne_cls N2 hcd hwl (by rw [hcc.1]; simp)
  have hIn := AT2.hI
  have hIn' := AT2.hI'
  have I_sl : I ≠ sl := ne_cls N2 hIn hss (by rw [hio]; simp)
  have I_tl : I ≠ tl := ne_cls N2 hIn htl (by rw [hio]; simp)
  have I_wl : I ≠ wl := ne_cls N2 hIn hwl (by rw [hio]; simp)
  have I_cd : I ≠ cdx := ne_cls N2 hIn hcd (by rw [hio, hcc.1]; simp)
  have I_me : I ≠ d.mem := ne_cls N2 hIn AT2.fm (by rw [hio]; simp)
  have I_sl' : I' ≠ sl := ne_cls N2 hIn' hss (by rw [hio']; simp)
  have I_tl' : I' ≠ tl := ne_cls N2 hIn' htl (by rw [hio']; simp)
  have I_wl' : I' ≠ wl := ne_cls N2 hIn' hwl (by rw [hio']; simp)
  have I_cd' : I' ≠ cdx := ne_cls N2 hIn' hcd (by rw [hio', hcc.1]; simp)
  have I_me' : I' ≠ d.mem := ne_cls N2 hIn' AT2.fm (by rw [hio']; simp)
  have hfm := AT2.fm
  have hcs : (if ini k = true then b k else st k).size = (b k).size := by
    have := TI2.sz k h3
    split <;> omega
  obtain ⟨sh, hS⟩ := spot_of (hP.sub TI2.sub) ⟨W.fx, ⟨odx, hdx, hD⟩, ohn, hhn, hEm⟩
  refine wpP_execs_leaf (if1_ok B F2 XK T N2 hd hu S2 h3 (hb k h3) ha hoa hw how hS hfm rfl (TI2.sz k h3) hss hstk W.fx hdx hD hca hca2 ?_)
  intro h5 tk5 F5 N5
  show wpP _ _ (execs _ _) _ _ _
  refine wpP_execs_leaf (if2_ok B F5 XK T N5 hd hu S2 h3 (hb k h3) ha hoa hw how W.fx hdx hD hca2 hcd hDc ?_)
  clear F5 N5
  intro h5 tk5 F5 N5
  show wpP _ _ (execs _ _) _ _ _
  refine wpP_execs_leaf (if3_ok B F5 XK T N5 hd hu S2 h3 (hb k h3) ha hoa hw how (Nat.le_of_lt hlt) hwl TI2.tn TI2.wt W.fx AT2.wx ?_)
  clear F5 N5
  intro h5 tk5 F5 N5
  show wpP _ _ (execs _ _) _ _ _
  refine wpP_execs_leaf (st4_ok B F5 XK T N5 hd hu S2 h3 (hb k h3) ha hoa hw how hss hsn na_sl ?_)
  clear F5 N5
  intro h5 tk5 sts' ns' tv F5 N5 e1 e2 e3
  show wpP _ _ (execs _ _) _ _ _
  have k3 : ∀ {q : Addr × Obj}, q ∈ nx2 → q.1 ≠ sl → q ∈ swap sl (listOf sts' ns') nx2 := fun h1 h2 => swap_keep h1 h2
  have n3 : (sl, listOf sts' ns') ∈ swap sl (listOf sts' ns') nx2 := swap_new
  generalize swap sl (listOf sts' ns') nx2 = nx3 at *
  have S3 := LR.st.sub (fun q hq => k3 (TI2.sub q hq) (LR.off q hq).2.2.1)
  have f3 : ∀ {q : Addr × Obj}, q ∈ nx2 → q.1 ≠ sl → q.1 ≠ d.mem → q ∈ nx3.filter fun p => decide (p.1 ≠ d.mem) := fun h1 h2 h3 => in_but (k3 h1 h2) h3
  obtain ⟨sh2, hS2⟩ := spot_of (hP.sub (fun q hq => f3 (TI2.sub q hq) (LR.off q hq).2.2.1 (Nat.ne_of_lt (Nat.lt_trans (lo q hq) lx)))) ⟨f3 W.fx (Nat.ne_of_gt (Nat.lt_trans g3 o1)) (Nat.ne_of_lt o2), ⟨odx, f3 hdx (Nat.ne_of_gt g3) (Nat.ne_of_lt lx), hD⟩, ohn, f3 hhn (Nat.ne_of_gt (Nat.lt_trans g3 lh)) (Nat.ne_of_gt o3), hEm⟩
  refine wpP_execs_cons (st5_ok B F5 XK T N5 hd hu S3 h3 (hb k h3) (k3 ha na_sl) hoa (k3 hw nw_sl) how n3 e2 Array.size_replicate (k3 hfm (Ne.symm sl_me)) hcs hS2 sl_me na_me nw_me ?_)
  clear F5 N5
  intro h5 tk5 F5 N5
  show wpP _ _ (execs _ _) _ _ _
  have k4 : ∀ {q : Addr × Obj}, q ∈ nx2 → q.1 ≠ sl → q.1 ≠ d.mem → q ∈ swap d.mem (baOf (Array.replicate (b k).size c)) nx3 := fun h1 h2 h3 => swap_keep (k3 h1 h2) h3
  have n4 : (sl, listOf sts' ns') ∈ swap d.mem (baOf (Array.replicate (b k).size c)) nx3 := swap_keep n3 sl_me
  have n4a : (d.mem, baOf (Array.replicate (b k).size c)) ∈ swap d.mem (baOf (Array.replicate (b k).size c)) nx3 := swap_new
  generalize swap d.mem (baOf (Array.replicate (b k).size c)) nx3 = nx4 at *
  have S4 := LR.st.sub (fun q hq => k4 (TI2.sub q hq) (LR.off q hq).2.2.1 (Nat.ne_of_lt (Nat.lt_trans (lo q hq) lx)))
  refine wpP_execs_leaf (st6_ok B F5 XK T N5 hd hu S4 h3 (hb k h3) (k4 ha na_sl na_me) hoa (k4 hw nw_sl nw_me) how n4 e2 (k4 W.fx (Nat.ne_of_gt (Nat.lt_trans g3 o1)) (Nat.ne_of_lt o2)) (k4 hdx (Nat.ne_of_gt g3) (Nat.ne_of_lt lx)) hD (k4 htl (Ne.symm p3) tl_me) (by omega) p3 na_tl nw_tl (Nat.ne_of_gt (Nat.lt_trans g4 o1)) (Nat.ne_of_gt g4) ?_)
  clear F5 N5
  intro h5 tk5 vs' nv' F5 N5 e4
  show wpP _ _ (execs _ _) _ _ _
  have k5 : ∀ {q : Addr × Obj}, q ∈ nx2 → q.1 ≠ sl → q.1 ≠ d.mem → q.1 ≠ tl → q ∈ swap tl (listOf vs' nv') nx4 := fun h1 h2 h3 h4 => swap_keep (k4 h1 h2 h3) h4
  have n5 : (sl, listOf sts' ns') ∈ swap tl (listOf vs' nv') nx4 := swap_keep n4 p3
  have n5a : (d.mem, baOf (Array.replicate (b k).size c)) ∈ swap tl (listOf vs' nv') nx4 := swap_keep n4a (Ne.symm tl_me)
  have n5b : (tl, listOf vs' nv') ∈ swap tl (listOf vs' nv') nx4 := swap_new
  generalize swap tl (listOf vs' nv') nx4 = nx5 at *
  have S5 := LR.st.sub (fun q hq => k5 (TI2.sub q hq) (LR.off q hq).2.2.1 (Nat.ne_of_lt (Nat.lt_trans (lo q hq) lx)) (LR.off q hq).2.2.2.1)
  refine wpP_execs_leaf (st7_ok B F5 XK T N5 hd hu S5 h3 (hb k h3) (k5 ha na_sl na_me na_tl) hoa (k5 hw nw_sl nw_me nw_tl) how (by omega) (k5 hca2 (LR.off _ LR.ca).2.2.1 (Nat.ne_of_lt (Nat.lt_trans (lo _ LR.ca) lx)) (LR.off _ LR.ca).2.2.2.1) (k5 hcd cd_sl cd_me cd_tl) hDc (LR.off _ LR.ca).2.1 ?_)
  clear F5 N5
  intro h5 tk5 oc' orow' F5 N5 hDc'
  show wpP _ _ (execs _ _) _ _ _
  have k6 : ∀ {q : Addr × Obj}, q ∈ nx2 → q.1 ≠ sl → q.1 ≠ d.mem → q.1 ≠ tl → q.1 ≠ cdx → q ∈ swap cdx oc' nx5 := fun h1 h2 h3 h4 h5 => swap_keep (k5 h1 h2 h3 h4) h5
  have n6 : (sl, listOf sts' ns') ∈ swap cdx oc' nx5 := swap_keep n5 (Ne.symm cd_sl)
  have n6a : (d.mem, baOf (Array.replicate (b k).size c)) ∈ swap cdx oc' nx5 := swap_keep n5a (Ne.symm cd_me)
  have n6b : (tl, listOf vs' nv') ∈ swap cdx oc' nx5 := swap_keep n5b (Ne.symm cd_tl)
  have n6c : (cdx, oc') ∈ swap cdx oc' nx5 := swap_new
  generalize swap cdx oc' nx5 = nx6 at *
  have S6 := LR.st.sub (fun q hq => k6 (TI2.sub q hq) (LR.off q hq).2.2.1 (Nat.ne_of_lt (Nat.lt_trans (lo q hq) lx)) (LR.off q hq).2.2.2.1 (LR.off q hq).2.1)
  refine wpP_execs_leaf (st8_ok B F5 XK T N5 hd hu S6 h3 (hb k h3) (k6 ha na_sl na_me na_tl na_cd) hoa (k6 hw nw_sl nw_me nw_tl nw_cd) how (k6 hwl (Ne.symm p4) wl_me (Ne.symm p5) (Ne.symm cd_wl)) (by rw [List.size_toArray, List.length_map, TI2.tn]; omega) na_wl nw_wl ?_)
  clear F5 N5
  intro h5 tk5 t tt nw' F5 N5 e5
  refine wpP_execs_nil ?_
  have k7 : ∀ {q : Addr × Obj}, q ∈ nx2 → q.1 ≠ sl → q.1 ≠ d.mem → q.1 ≠ tl → q.1 ≠ cdx → q.1 ≠ wl → q ∈ (t, tupOf #[.int ((k : Nat) : Int) tt, .ref d.x]) :: swap wl (listOf ((ts.map Value.ref).toArray.push (.ref t)) nw') nx6 := fun h1 h2 h3 h4 h5 h6 => .tail _ (swap_keep (k6 h1 h2 h3 h4 h5) h6)
  have n7 : (sl, listOf sts' ns') ∈ (t, tupOf #[.int ((k : Nat) : Int) tt, .ref d.x]) :: swap wl (listOf ((ts.map Value.ref).toArray.push (.ref t)) nw') nx6 := .tail _ (swap_keep n6 p4)
  have n7a : (d.mem, baOf (Array.replicate (b k).size c)) ∈ (t, tupOf #[.int ((k : Nat) : Int) tt, .ref d.x]) :: swap wl (listOf ((ts.map Value.ref).toArray.push (.ref t)) nw') nx6 := .tail _ (swap_keep n6a (Ne.symm wl_me))
  have n7b : (tl, listOf vs' nv') ∈ (t, tupOf #[.int ((k : Nat) : Int) tt, .ref d.x]) :: swap wl (listOf ((ts.map Value.ref).toArray.push (.ref t)) nw') nx6 := .tail _ (swap_keep n6b p5)
  have n7c : (cdx, oc') ∈ (t, tupOf #[.int ((k : Nat) : Int) tt, .ref d.x]) :: swap wl (listOf ((ts.map Value.ref).toArray.push (.ref t)) nw') nx6 := .tail _ (swap_keep n6c cd_wl)
  have n7d : (wl, listOf ((ts ++ [t]).map Value.ref).toArray nw') ∈ (t, tupOf #[.int ((k : Nat) : Int) tt, .ref d.x]) :: swap wl (listOf ((ts.map Value.ref).toArray.push (.ref t)) nw') nx6 := by
    have e : ((ts ++ [t]).map Value.ref).toArray = (ts.map Value.ref).toArray.push (.ref t) := by simp
    rw [e]
    exact .tail _ swap_new
  have n7e : (t, tupOf #[.int ((k : Nat) : Int) tt, .ref d.x]) ∈ (t, tupOf #[.int ((k : Nat) : Int) tt, .ref d.x]) :: swap wl (listOf ((ts.map Value.ref).toArray.push (.ref t)) nw') nx6 := .head _
  generalize (t, tupOf #[.int ((k : Nat) : Int) tt, .ref d.x]) :: swap wl (listOf ((ts.map Value.ref).toArray.push (.ref t)) nw') nx6 = nx7 at *
  have TE := turn_end LR TI2 N2 hX h3 hkc (nx' := nx7) (fun q q1 q2 q3 q4 q5 q6 _ => k7 q1 q4 q2 q5 q3 q6) n7a n7c hDc' n7 e1 (fun j hj => by
    by_cases hjk : j = k
    · subst hjk
      rw [if_pos rfl]
      exact ⟨tv, e2⟩
    · rw [if_neg hjk, e3 j hjk]
      exact hst j hj) n7b (by rw [← Array.length_toList, e4, List.length_append, Array.length_toList, hvs]; rfl) (fun j kj cj hj hkj => by
    rw [e4]
    by_cases hji : j < i
    · rw [List.getElem?_append_left (by rw [Array.length_toList, hvs]; exact hji)]
      exact hvv j kj cj hji hkj
    · obtain rfl : j = i := by omega
      obtain ⟨rfl, rfl⟩ : k = kj ∧ c = cj := by
        have := Option.some.inj (hkc.symm.trans hkj)
        exact ⟨congrArg Prod.fst this, congrArg Prod.snd this⟩
      refine ⟨tv, ?_⟩
      rw [List.getElem?_append_right (by rw [Array.length_toList, hvs]; exact Nat.le_refl _), Array.length_toList, hvs, Nat.sub_self]
      rfl) n7d n7e ⟨ow, _, k7 hw nw_sl nw_me nw_tl nw_cd nw_wl, how⟩
  have mI7 := k7 hIn I_sl I_me I_tl I_cd I_wl
  have mI7' := k7 hIn' I_sl' I_me' I_tl' I_cd' I_wl'
  have kr : ∀ q ∈ nx7, q.1 ≠ I → q.1 ≠ I' → q ∈ restOf [(I, io), (I', io')] nx7 := fun q hq x y => in_restR hq (List.forall_mem_cons.mpr ⟨x, List.forall_mem_cons.mpr ⟨y, fun q hq => nomatch hq⟩⟩)
  have TF := TE.gen (nx' := restOf [(I, io), (I', io')] nx7) (fun q hq => kr q (TE.sub q hq) (RI q hq) (RI' q hq)) (fun z o hz c1 c2 _ => kr _ hz (ne_cls N5 hz mI7 (by rw [hio]; exact c1)) (ne_cls N5 hz mI7' (by rw [hio']; exact c2))) ⟨oa, _, kr _ (k7 ha na_sl na_me na_tl na_cd na_wl) nIa nIa', hoa⟩ ⟨ow, _, kr _ (k7 hw nw_sl nw_me nw_tl nw_cd nw_wl) nIw nIw', how⟩
  exact ⟨h5, tk5, _, nx7, restOf [(I, io), (I', io')] nx7, rfl, F5, N5, List.forall_mem_cons.mpr ⟨mI7, List.forall_mem_cons.mpr ⟨mI7', fun q hq => nomatch hq⟩⟩, fun q hq => (of_restR hq).1, fun q hq => List.forall_mem_cons.mpr ⟨(of_restR hq).2 _ (.head _), List.forall_mem_cons.mpr ⟨(of_restR hq).2 _ (.tail _ (.head _)), fun q hq => nomatch hq⟩⟩, same, _, _, _, rfl, kvs2, _, X2, _, _, orow', hkl, TF⟩
theorem turn_ok {w : World} {dp un : Nat} {gd : Option (List Code)} {cn : Str} {cs : Scope} {L0 L a : Addr} {ccd : Value} {cl : List (Str × Addr)} {outer : List Env} {base h₀ : Heap} {s : Shared} {Q : Flow → Shared → Prop} {E : Value → Shared → Prop}
   {loose : List Str} {mean : ExcName → Option Value} {mg mb m9 : Str → Option Value} {u0 u1 u2 : Option Value} {R nx ld : List (Addr × Obj)} {pd nl rl kl : Addr} {b : Nat → Array UInt8} {ini : Nat → Bool} {r : Nat → Addr} {ks : List Addr} {kc : List (Nat × UInt8)} {pk : List (Str × Value)}
   {lb wd ca cdx pc crows tl cmem chn cop sl wl : Addr} {i : Nat} {kvs : List (Str × Value)} {st : Nat → Array UInt8} {X : Nat → Option WD} {xs ts : List Addr} {orow : Array UInt8} {k : Nat} {c : UInt8} {I I' TT aa : Addr} {io io' : Obj} {ti : Tok}
   (B : Below (ktrTop dp un gd cn cs L0 a ccd cl outer) base (envX cn cs L0 a ccd cl :: outer) h₀) (F : Fr h₀ L s.heap (updL (mT lb ca sl wl kl m9) (xsT.zip [u0, u1, u2]))) (XK : (K w.params).In h₀) (T : Top q loose mean mg mb h₀)
   (N : News h₀ L s.heap ((I, io) :: (I', io') :: nx)) (hio : io.cls = .type "enumerate") (hio' : io'.cls = .type "list_iterator") (hI : ∀ p ∈ nx, p.1 ≠ I) (hI' : ∀ p ∈ nx, p.1 ≠ I') (hd : dp + 70 < recursionLimit) (hu : un + 700 < cLine)
   (LR : LapR w R L pd nl rl kl b ini r ks kc pk lb wd ca cdx pc crows tl cmem chn cop sl wl) (TI : TurnI w R nx L b ini kc pk wd cdx pc crows tl cmem chn cop sl wl i kvs st X xs ts orow) (hz : kvs.length ≤ i) (hkc : kc[i]? = some (k, c)) (hb : ∀ k, k < 3 → 0 < (b k).size ∧ (b k).size ≤ 5)
   (hT : IsTup s.heap TT #[.int (i : Int) ti, .ref aa]) (haa : ks[i]? = some aa) :
   wpAny (model pw w) ((ktrTop dp un gd cn cs L0 a ccd cl outer).deeper (envOfC (Str.ofString "_law_right") scR L 986 (Value.ref 985))) (assign turnTgt (envOfC (Str.ofString "_law_right") scR L 986 (Value.ref 985)) (.ref TT)) (fun _ s₂ => wpP (model pw w) ((ktrTop dp un gd cn cs L0 a ccd cl outer).deeper (envOfC (Str.ofString "_law_right") scR L 986 (Value.ref 985))) (execs turnBody (envOfC (Str.ofString "_law_right") scR L 986 (Value.ref 985)))
     (TPost h₀ L s [(I, io), (I', io')] (JM (mT lb ca sl wl kl m9) xsT (JTurn w R L b ini kc pk wd cdx pc crows tl cmem chn cop sl wl ld (i + 1))) Q) E s₂) E s := by
  exact clo (by with_unfolding_all rfl) turn_ok_m (Bag.mk w gd cs ccd cl outer bag0.ar s loose mean Q bag0.qu (lk [un, L0, L, a, pd, nl, rl, kl, lb, wd, ca, cdx, pc, crows, tl, cmem, chn, cop, sl, wl, i, k, I, I', TT, aa, ti] dp) (lk [] cn) (lk [h₀] base) (lk [mb, m9] mg) (lk [nx, ld] R) (lk [] E) bag0.i bag0.vs bag0.ns (lk [] orow) bag0.bool (lk [io'] io) bag0.avs (lk [kvs] pk) (lk [st] b) ini r (lk [xs, ts] ks) kc X c bag0.d (lk [u1, u2] u0)) B F XK T N hio hio' hI hI' hd hu LR TI hz hkc hb hT haa

end
theorem flush_GC : True := by first | walk1 | exact trivial
section
open PySem PySem.W PySem.Calls PyProof.Rows PyProof.V PySem.Spec
noncomputable def lst0_ok_P (w : World) (dp : Nat) (un : Nat) (gd : Option (List Code)) (cn : Str) (cs : Scope) (L0 : Addr) (L : Addr) (a : Addr) (ccd : Value) (cl : List (Str × Addr)) (outer : List Env) (base : Heap) (h₀ : Heap) (s : Shared) (Q : Flow → Shared → Prop) (E : Value → Shared → Prop) (loose : List Str) (mean : ExcName → Option Value) (mg : Str → Option Value) (mb : Str → Option Value) (m9 : Str → Option Value) (nx : List (Addr × Obj)) (lb : Addr) (kl : Addr) (pd : Addr) (wd0 : Addr) (ld : Addr) (oL : Obj) : Prop := ∀ (B : Below (ktrTop dp un gd cn cs L0 a ccd cl outer) base (envX cn cs L0 a ccd cl :: outer) h₀) (F : Fr h₀ L s.heap (mL lb kl m9)) (XK : (K w.params).In h₀) (T : Top q loose mean mg mb h₀) (N : News h₀ L s.heap nx) (hd : dp + 72 < recursionLimit) (hu : un + 700 < cLine) (hl : (lb, instObj 917 ld) ∈ nx) (hld : (ld, oL) ∈ nx) (hD : DLib w pd wd0 oL) (hne : lb ≠ ld) (ret : ∀ wd owd oL' h' tk', Fr h₀ L h' (mL lb kl m9) → News h₀ L h' ((wd, owd) :: swap ld oL' nx) → DLib w pd wd oL' → Emp w wd owd → (∀ p ∈ nx, @LT.lt Nat _ p.1 wd) → Q .next {s with heap := h', toks := tk'}), wpAny (model pw w) ((ktrTop dp un gd cn cs L0 a ccd cl outer).deeper (envOfC (Str.ofString "_law_right") scR L 986 (Value.ref 985))) (exec (lapBody.getD 0 (.Pass default)) (envOfC (Str.ofString "_law_right") scR L 986 (Value.ref 985))) Q E s
noncomputable def lst0_ok_S (c : Bag) : Prop := lst0_ok_P c.w (c.n 0) (c.n 1) c.gd (c.str 0) c.cs (c.n 2) (c.n 3) (c.n 4) c.v c.cl c.outer (c.heap 0) (c.heap 1) c.s c.qf (c.q 0) c.loose c.mean (c.m 0) (c.m 1) (c.m 2) (c.news 0) (c.n 5) (c.n 6) (c.n 7) (c.n 8) (c.n 9) (c.o 0)
@[irreducible] noncomputable def lst0_ok_c : Bag := pick lst0_ok_S
theorem lst0_ok_m : lst0_ok_S lst0_ok_c := by
  refine (?zz9 : ∀ (w : World) (dp : Nat) (un : Nat) (gd : Option (List Code)) (cn : Str) (cs : Scope) (L0 : Addr) (L : Addr) (a : Addr) (ccd : Value) (cl : List (Str × Addr)) (outer : List Env) (base : Heap) (h₀ : Heap) (s : Shared) (Q : Flow → Shared → Prop) (E : Value → Shared → Prop) (loose : List Str) (mean : ExcName → Option Value) (mg : Str → Option Value) (mb : Str → Option Value) (m9 : Str → Option Value) (nx : List (Addr × Obj)) (lb : Addr) (kl : Addr) (pd : Addr) (wd0 : Addr) (ld : Addr) (oL : Obj), lst0_ok_P w dp un gd cn cs L0 L a ccd cl outer base h₀ s Q E loose mean mg mb m9 nx lb kl pd wd0 ld oL) lst0_ok_c.w (lst0_ok_c.n 0) (lst0_ok_c.n 1) lst0_ok_c.gd (lst0_ok_c.str 0) lst0_ok_c.cs (lst0_ok_c.n 2) (lst0_ok_c.n 3) (lst0_ok_c.n 4) lst0_ok_c.v lst0_ok_c.cl lst0_ok_c.outer (lst0_ok_c.heap 0) (lst0_ok_c.heap 1) lst0_ok_c.s lst0_ok_c.qf (lst0_ok_c.q 0) lst0_ok_c.loose lst0_ok_c.mean (lst0_ok_c.m 0) (lst0_ok_c.m 1) (lst0_ok_c.m 2) (lst0_ok_c.news 0) (lst0_ok_c.n 5) (lst0_ok_c.n 6) (lst0_ok_c.n 7) (lst0_ok_c.n 8) (lst0_ok_c.n 9) (lst0_ok_c.o 0)
  intro w dp un gd cn cs L0 L a ccd cl outer base h₀ s Q E loose mean mg mb m9 nx lb kl pd wd0 ld oL B F XK T N hd hu hl hld hD hne ret
  obtain ⟨cd, al, rl, _, _, _, _, _, _, _, _, rfl⟩ := hD
  have N1 := News.front N hld
  have in1 : ∀ {p : Addr × Obj}, p ∈ nx → p.1 ≠ ld → p ∈ nx.filter fun p => decide (p.1 ≠ ld) := fun h ne => in_but h ne
  have off1 : ∀ p ∈ nx.filter fun p => decide (p.1 ≠ ld), p.1 ≠ ld := fun p hp => (of_but hp).2
  have ofn : ∀ p ∈ nx, p.1 = ld ∨ p ∈ nx.filter fun p => decide (p.1 ≠ ld) := fun p hp => by
    by_cases e : p.1 = ld
    · exact .inl e
    · exact .inr (in_but hp e)
  have q1 := in1 hl hne
  have swp : ∀ o : Obj, swap ld o nx = (ld, o) :: nx.filter fun p => decide (p.1 ≠ ld) := fun _ => rfl
  generalize (nx.filter fun p => decide (p.1 ≠ ld)) = nf at *
  clear N
  conv => pattern (occs := *) scR <;> whnf
  conv => pattern (occs := *) (List.getD lapBody _ _) <;> whnf
  show wpAny _ _ _ _ _ _
  (try k_fold)
  k_steps
  rename _ ∧ AllLt _ _ => lA
  rename Fr _ _ _ _ => lF
  rename News _ _ _ _ => lN
  refine ret _ _ _ _ _ lF (show News _ _ _ (_ :: swap _ _ _) from by rw [swp]; exact fun p hp => lN p (.tail _ (.tail _ (.tail _ hp)))) ⟨_, _, _, _, _, _, _, _, _, _, _, rfl⟩ ⟨by assumption, by assumption, by assumption, by assumption, by assumption⟩ (fun p hp => (ofn p hp).elim (fun e => by rw [e]; exact lA.1) (fun e => allLt_lt lA.2 p e))
theorem lst0_ok {w : World} {dp un : Nat} {gd : Option (List Code)} {cn : Str} {cs : Scope} {L0 L a : Addr} {ccd : Value} {cl : List (Str × Addr)} {outer : List Env} {base h₀ : Heap} {s : Shared} {Q : Flow → Shared → Prop} {E : Value → Shared → Prop}
   {loose : List Str} {mean : ExcName → Option Value} {mg mb m9 : Str → Option Value} {nx : List (Addr × Obj)} {lb kl : Addr} {pd wd0 ld : Addr} {oL : Obj}
   (B : Below (ktrTop dp un gd cn cs L0 a ccd cl outer) base (envX cn cs L0 a ccd cl :: outer) h₀) (F : Fr h₀ L s.heap (mL lb kl m9)) (XK : (K w.params).In h₀) (T : Top q loose mean mg mb h₀)
   (N : News h₀ L s.heap nx) (hd : dp + 72 < recursionLimit) (hu : un + 700 < cLine) (hl : (lb, instObj 917 ld) ∈ nx) (hld : (ld, oL) ∈ nx) (hD : DLib w pd wd0 oL) (hne : lb ≠ ld)
   (ret : ∀ wd owd oL' h' tk', Fr h₀ L h' (mL lb kl m9) → News h₀ L h' ((wd, owd) :: swap ld oL' nx) → DLib w pd wd oL' → Emp w wd owd → (∀ p ∈ nx, @LT.lt Nat _ p.1 wd) → Q .next {s with heap := h', toks := tk'}) :
   wpAny (model pw w) ((ktrTop dp un gd cn cs L0 a ccd cl outer).deeper (envOfC (Str.ofString "_law_right") scR L 986 (Value.ref 985))) (exec (lapBody.getD 0 (.Pass default)) (envOfC (Str.ofString "_law_right") scR L 986 (Value.ref 985))) Q E s := by
  exact clo (by with_unfolding_all rfl) lst0_ok_m (Bag.mk w gd cs ccd cl outer bag0.ar s loose mean Q bag0.qu (lk [un, L0, L, a, lb, kl, pd, wd0, ld] dp) (lk [] cn) (lk [h₀] base) (lk [mb, m9] mg) (lk [] nx) (lk [] E) bag0.i bag0.vs bag0.ns bag0.b bag0.bool (lk [] oL) bag0.avs bag0.kvs bag0.nb bag0.nbool bag0.nn bag0.l bag0.kc bag0.nd bag0.u8 bag0.d bag0.ov) B F XK T N hd hu hl hld hD hne ret

end
theorem flush_GD : True := by first | walk1 | exact trivial
section
open PySem PySem.W PySem.Calls PyProof.Rows PyProof.V PySem.Spec
noncomputable def lst1_ok_P (w : World) (dp : Nat) (un : Nat) (gd : Option (List Code)) (cn : Str) (cs : Scope) (L0 : Addr) (L : Addr) (a : Addr) (ccd : Value) (cl : List (Str × Addr)) (outer : List Env) (base : Heap) (h₀ : Heap) (s : Shared) (Q : Flow → Shared → Prop) (E : Value → Shared → Prop) (loose : List Str) (mean : ExcName → Option Value) (mg : Str → Option Value) (mb : Str → Option Value) (m9 : Str → Option Value) (nx : List (Addr × Obj)) (lb : Addr) (kl : Addr) (pd : Addr) (nl : Addr) (rl : Addr) (b : Nat → Array UInt8) (ini : Nat → Bool) (r : Nat → Addr) (ks : List Addr) (kc : List (Nat × UInt8)) (pk : List (Str × Value)) : Prop := ∀ (B : Below (ktrTop dp un gd cn cs L0 a ccd cl outer) base (envX cn cs L0 a ccd cl :: outer) h₀) (F : Fr h₀ L s.heap (mL lb kl m9)) (XK : (K w.params).In h₀) (T : Top q loose mean mg mb h₀) (N : News h₀ L s.heap nx) (hd : dp + 72 < recursionLimit) (hu : un + 700 < cLine) (S1 : StatR w nx L pd nl rl kl b ini r ks kc pk) (ret : ∀ ny ca cdx pc crows tl cmem chn cop sl wl oc ohn sts n1 n2 n3 n4 tin h' tk' m9', Fr h₀ L h' (mT lb ca sl wl kl m9') → News h₀ L h' ny → (∀ p ∈ nx, p ∈ ny) →
     ((ca, instObj 806 cdx) ∈ ny ∧ (cdx, oc) ∈ ny ∧ DWorld w pc (Str.ofString "shelf") crows tl cmem chn cop #[] oc ∧ (chn, ohn) ∈ ny ∧ Emp w chn ohn ∧ (crows, listOf #[.bytes #[105, 110] tin] n1) ∈ ny ∧ (tl, listOf #[] n2) ∈ ny ∧ (sl, listOf sts n3) ∈ ny ∧ (wl, listOf #[] n4) ∈ ny) →
     (sts.size = 3 ∧ ∀ k, k < 3 → ∃ t, sts.toList[k]? = some (.bytes (b k) t)) →
     ((∀ p ∈ nx, @LT.lt Nat _ p.1 cdx) ∧ @LT.lt Nat _ cdx ca ∧ @LT.lt Nat _ ca crows ∧ @LT.lt Nat _ crows tl ∧ @LT.lt Nat _ tl cmem ∧ @LT.lt Nat _ cmem chn ∧ (∀ z, (z = ca ∨ z = cdx ∨ z = crows ∨ z = tl ∨ z = chn ∨ ∃ o, (z, o) ∈ nx) → z ≠ sl ∧ @LT.lt Nat _ z wl) ∧ @LT.lt Nat _ sl wl) →
     (∀ y, y ≠ Str.ofString "caller" → y ≠ Str.ofString "stands" → y ≠ Str.ofString "worlds" → mT lb ca sl wl kl m9' y = mL lb kl m9 y) → Q .next {s with heap := h', toks := tk'}), wpP (model pw w) ((ktrTop dp un gd cn cs L0 a ccd cl outer).deeper (envOfC (Str.ofString "_law_right") scR L 986 (Value.ref 985))) (exec (lapBody.getD 1 (.Pass default)) (envOfC (Str.ofString "_law_right") scR L 986 (Value.ref 985))) Q E s
noncomputable def lst1_ok_S (c : Bag) : Prop := lst1_ok_P c.w (c.n 0) (c.n 1) c.gd (c.str 0) c.cs (c.n 2) (c.n 3) (c.n 4) c.v c.cl c.outer (c.heap 0) (c.heap 1) c.s c.qf (c.q 0) c.loose c.mean (c.m 0) (c.m 1) (c.m 2) (c.news 0) (c.n 5) (c.n 6) (c.n 7) (c.n 8) (c.n 9) (c.nb 0) c.nbool c.nn (c.l 0) c.kc (c.kvs 0)
@[irreducible] noncomputable def lst1_ok_c : Bag := pick lst1_ok_S
theorem lst1_ok_m : lst1_ok_S lst1_ok_c := by
  refine (?zz9 : ∀ (w : World) (dp : Nat) (un : Nat) (gd : Option (List Code)) (cn : Str) (cs : Scope) (L0 : Addr) (L : Addr) (a : Addr) (ccd : Value) (cl : List (Str × Addr)) (outer : List Env) (base : Heap) (h₀ : Heap) (s : Shared) (Q : Flow → Shared → Prop) (E : Value → Shared → Prop) (loose : List Str) (mean : ExcName → Option Value) (mg : Str → Option Value) (mb : Str → Option Value) (m9 : Str → Option Value) (nx : List (Addr × Obj)) (lb : Addr) (kl : Addr) (pd : Addr) (nl : Addr) (rl : Addr) (b : Nat → Array UInt8) (ini : Nat → Bool) (r : Nat → Addr) (ks : List Addr) (kc : List (Nat × UInt8)) (pk : List (Str × Value)), lst1_ok_P w dp un gd cn cs L0 L a ccd cl outer base h₀ s Q E loose mean mg mb m9 nx lb kl pd nl rl b ini r ks kc pk) lst1_ok_c.w (lst1_ok_c.n 0) (lst1_ok_c.n 1) lst1_ok_c.gd (lst1_ok_c.str 0) lst1_ok_c.cs (lst1_ok_c.n 2) (lst1_ok_c.n 3) (lst1_ok_c.n 4) lst1_ok_c.v lst1_ok_c.cl lst1_ok_c.outer (lst1_ok_c.heap 0) (lst1_ok_c.heap 1) lst1_ok_c.s lst1_ok_c.qf (lst1_ok_c.q 0) lst1_ok_c.loose lst1_ok_c.mean (lst1_ok_c.m 0) (lst1_ok_c.m 1) (lst1_ok_c.m 2) (lst1_ok_c.news 0) (lst1_ok_c.n 5) (lst1_ok_c.n 6) (lst1_ok_c.n 7) (lst1_ok_c.n 8) (lst1_ok_c.n 9) (lst1_ok_c.nb 0) lst1_ok_c.nbool lst1_ok_c.nn (lst1_ok_c.l 0) lst1_ok_c.kc (lst1_ok_c.kvs 0)
  intro w dp un gd cn cs L0 L a ccd cl outer base h₀ s Q E loose mean mg mb m9 nx lb kl pd nl rl b ini r ks kc pk B F XK T N hd hu S1 ret
  have h109 : (List.toArray [(109 : UInt8)]).size ≤ 5 := by decide
  conv => pattern (occs := *) scR <;> whnf
  conv => pattern (occs := *) (List.getD lapBody _ _) <;> whnf
  refine wpP_Assign_Tuple_swapped (wpP_Tuple (wpP_spliced_cons (show wpP _ _ (eval _ _) _ _ _ from wpP_Call ?_)))
  (try k_fold)
  k_steps
  refine wpP_callWith_K XK (by k_is) (wpP_of ?_)
  (repeat' (first | (k_unfold; (try dsimp only)) | (k_end; wrow_close) | ((with_reducible show wpAny _ _ (call (Value.ref 981) [Value.str _ _, Value.bytes _ _, Value.bool _]) _ _ _); k_dflt (refine' program_ok ?Bq66 ?Fq66 ?Xq66 ?Tq66 ?hkq66 ?Nq66 ?hdq66 ?huq66 ?hbq66 ?_; (case Bq66 => k_asm); (case Fq66 => k_asm); (case Xq66 => k_asm); (case Tq66 => k_asm); (case hkq66 => first | rfl | assumption); (case Nq66 => k_asm); (case hdq66 => first | exact r1 (by assumption) rfl | exact r2 (by assumption) rfl | exact r3 (by assumption) rfl | exact r0 (by assumption) | ktr_room); (case huq66 => first | exact r1 (by assumption) rfl | exact r2 (by assumption) rfl | exact r3 (by assumption) rfl | exact r0 (by assumption) | k_units); (case hbq66 => assumption); k_whole); intro pz9 addz9 hz9 tkz9 Fz9 Nz9 Pz9 l1) | walk1 | (dsimp only; walk1) | (leave1; walk_say "STEP leave1"; (try dsimp only)) | fail "no step"))
  rename ProgAt _ _ _ _ _ => lP
  k_dflt (refine' world_ok (b := #[109]) ?B ?F ?X ?T ?hk ?N ?hd ?hu ?hb0 ?hb ?hP ?hr ?hz ?_; (case B => k_asm); (case F => k_asm); (case X => k_asm); (case T => k_asm); (case hk => first | rfl | assumption); (case N => k_asm); (case hd => first | exact r1 (by assumption) rfl | exact r2 (by assumption) rfl | exact r3 (by assumption) rfl | exact r0 (by assumption) | ktr_room); (case hu => first | exact r1 (by assumption) rfl | exact r2 (by assumption) rfl | exact r3 (by assumption) rfl | exact r0 (by assumption) | k_units); (case hb0 => decide); (case hb => decide); (case hP => exact lP.sub (fun q hq => .tail _ (List.mem_append_left _ hq))); (case hr => k_mem); (case hz => exact (by decide : 1 ≤ 5)); k_whole)
  intro x dx rows told mem hn op add n1 n2 n3 h9 tk9 F9 N9 WA m1 m2 m3 m4 lt9 ord
  obtain ⟨ny0, N9', hsub, hadd, lt9'⟩ := pack3 N9 lt9
  obtain ⟨wx, ⟨odx, wd1, wd2⟩, ohn, wh1, wh2⟩ := WA
  have lnx : ∀ q ∈ nx, @LT.lt Nat _ q.1 dx := fun q hq => lt9' _ wd1 q hq
  have wx' := hadd _ wx
  have wd1' := hadd _ wd1
  have wh1' := hadd _ wh1
  have m1' := hadd _ m1
  have m2' := hadd _ m2
  clear lt9 lt9' hadd lP wx wd1 wh1 m1 m2 m3 m4 N9
  have S2 := S1.sub hsub
  obtain ⟨or2, cr3, cr4⟩ := S2.cr
  obtain ⟨nr, rws, ar1, ar2, ar3⟩ := S2.ar.rs
  have ark := S2.ar.rk
  refine wpP_of ?_
  (try k_fold)
  k_steps
  unfold Hold
  k_dflt (refine LCg.ListComp_U (F₀ := by k_asm) (by with_unfolding_all rfl) (by decide) (by rfl) (by decide) (by rfl) ?_)
  k_steps
  unfold Hold
  k_dflt (refine LCg.CompSrc.ledger (k := nr) (by rfl) (by k_asm) (by k_asm) ar1 (by rw [sizeLine_eq, ar2]; decide) ?_)
  intro g'
  with_unfolding_all refine' rest_JN (fun ld j ys nx' => nx' = ld ∧ ys.length = j ∧ ∀ q, q < j → ∃ t, ys[q]? = some (.bytes (b q) t)) ?_ ?_ ?_
  · exact ⟨rfl, rfl, fun q hq => absurd hq (Nat.not_lt_zero _)⟩
  · rintro j ys nx' v I oI C oC D m₂ h tk E' hj ⟨rfl, hl, hK⟩ hv hC hx F N off ne
    have hj3 : j < 3 := by rw [ar2] at hj; exact hj
    obtain ⟨tb, rk⟩ := ark j hj3
    obtain rfl : v = .ref (r j) := by
      have := ar3 j hj3
      rw [Array.getElem?_toList] at this
      exact Option.some.inj (hv.symm.trans this)
    (repeat' (first | (k_unfold; (try dsimp only)) | (k_end; wrow_close) | ((with_reducible show wpAny _ _ (subscriptTail _ _ (Value.ref _) (Value.int _ _)) _ _ _); k_dflt (first | (refine' item_tupK ?Fq33 ?Xq33 ?eq33 ?aq33 ?bq33 ?cq33 ?dq33 ?_; (case Fq33 => k_asm); (case Xq33 => k_asm); (case eq33 => k_is); (case aq33 => decide); (case bq33 => decide); (case cq33 => rfl); (case dq33 => rfl); k_whole) | (refine' item_tup ?Nq33 ?mq33 ?aq33 ?bq33 ?cq33 ?dq33 ?_; (case Nq33 => k_asm); (case mq33 => k_mem); (case aq33 => decide); (case bq33 => decide); (case cq33 => rfl); (case dq33 => rfl); k_whole) | (refine' item_made ?Nq33 ?mq33 ?aq33 ?bq33 ?dq33 ?_; (case Nq33 => k_asm); (case mq33 => k_mem); (case aq33 => first | decide | omega); (case bq33 => first | decide | omega); (case dq33 => first | rfl | with_reducible assumption); k_whole))) | walk1 | (dsimp only; walk1) | (leave1; walk_say "STEP leave1"; (try dsimp only)) | fail "no step"))
    rename Fr _ _ _ _ => lF
    rename News _ _ _ _ => lN
    refine LCg.CompEnd.intro lF lN _ (fun p hp => hp) off (by lcg_src) ⟨rfl, by rw [List.length_append, hl]; rfl, fun q hq => ?_⟩
    by_cases hqj : q < j
    · rw [List.getElem?_append_left (by omega)]
      exact hK q hqj
    · obtain rfl : q = j := by omega
      rw [List.getElem?_append_right (by omega), hl, Nat.sub_self]
      exact ⟨_, rfl⟩
  · rintro ys nx' ⟨rfl, hl, hK⟩
    unfold LCg.FinE
    intro D h8 tk8 F8 N8 o8
    dsimp only
    rw [ar2] at hl hK
    k_steps
    rename D < _ ∧ AllLt _ _ => lA
    rename Fr _ _ _ _ => lF
    rename News _ _ _ _ => lN
    obtain ⟨u1, u2, u3, u4, u5, u6⟩ := ord
    have key : ∀ q ∈ nx', q.1 ≠ D ∧ @LT.lt Nat _ q.1 _ := fun q hq => ⟨off1_D o8 q hq, allLt_lt lA.2 q hq⟩
    obtain ⟨lF', em⟩ := fr_mT (ca := x) (sl := D) (lb := lb) (kl := kl) lF rfl rfl rfl rfl rfl
    refine ret _ x dx _ rows told mem hn op D _ odx ohn ys.toArray n1 n2 _ _ _ _ _ _ lF' (fun p hp => lN p (.tail _ hp)) (fun p hp => .tail _ (.tail _ (hsub p hp))) ⟨.tail _ (.tail _ wx'), .tail _ (.tail _ wd1'), wd2, .tail _ (.tail _ wh1'), wh2, .tail _ (.tail _ m1'), .tail _ (.tail _ m2'), .tail _ (.head _), .head _⟩ ⟨by rw [List.size_toArray, hl], fun q hq => hK q hq⟩ ⟨lnx, u1, u2, u3, u4, u5, fun z hz => ?_, lA.1⟩ fun y y1 y2 y3 => ?_
    · rcases hz with rfl | rfl | rfl | rfl | rfl | ⟨o, ho⟩
      · exact key _ wx'
      · exact key _ wd1'
      · exact key _ m1'
      · exact key _ m2'
      · exact key _ wh1'
      · exact key _ (hsub _ ho)
    · rw [em]
      simp only [y1, y2, y3, if_false]
theorem lst1_ok {w : World} {dp un : Nat} {gd : Option (List Code)} {cn : Str} {cs : Scope} {L0 L a : Addr} {ccd : Value} {cl : List (Str × Addr)} {outer : List Env} {base h₀ : Heap} {s : Shared} {Q : Flow → Shared → Prop} {E : Value → Shared → Prop}
   {loose : List Str} {mean : ExcName → Option Value} {mg mb m9 : Str → Option Value} {nx : List (Addr × Obj)} {lb kl : Addr} {pd nl rl : Addr} {b : Nat → Array UInt8} {ini : Nat → Bool} {r : Nat → Addr} {ks : List Addr} {kc : List (Nat × UInt8)} {pk : List (Str × Value)}
   (B : Below (ktrTop dp un gd cn cs L0 a ccd cl outer) base (envX cn cs L0 a ccd cl :: outer) h₀) (F : Fr h₀ L s.heap (mL lb kl m9)) (XK : (K w.params).In h₀) (T : Top q loose mean mg mb h₀)
   (N : News h₀ L s.heap nx) (hd : dp + 72 < recursionLimit) (hu : un + 700 < cLine) (S1 : StatR w nx L pd nl rl kl b ini r ks kc pk)
   (ret : ∀ ny ca cdx pc crows tl cmem chn cop sl wl oc ohn sts n1 n2 n3 n4 tin h' tk' m9', Fr h₀ L h' (mT lb ca sl wl kl m9') → News h₀ L h' ny → (∀ p ∈ nx, p ∈ ny) →
     ((ca, instObj 806 cdx) ∈ ny ∧ (cdx, oc) ∈ ny ∧ DWorld w pc (Str.ofString "shelf") crows tl cmem chn cop #[] oc ∧ (chn, ohn) ∈ ny ∧ Emp w chn ohn ∧ (crows, listOf #[.bytes #[105, 110] tin] n1) ∈ ny ∧ (tl, listOf #[] n2) ∈ ny ∧ (sl, listOf sts n3) ∈ ny ∧ (wl, listOf #[] n4) ∈ ny) →
     (sts.size = 3 ∧ ∀ k, k < 3 → ∃ t, sts.toList[k]? = some (.bytes (b k) t)) →
     ((∀ p ∈ nx, @LT.lt Nat _ p.1 cdx) ∧ @LT.lt Nat _ cdx ca ∧ @LT.lt Nat _ ca crows ∧ @LT.lt Nat _ crows tl ∧ @LT.lt Nat _ tl cmem ∧ @LT.lt Nat _ cmem chn ∧ (∀ z, (z = ca ∨ z = cdx ∨ z = crows ∨ z = tl ∨ z = chn ∨ ∃ o, (z, o) ∈ nx) → z ≠ sl ∧ @LT.lt Nat _ z wl) ∧ @LT.lt Nat _ sl wl) →
     (∀ y, y ≠ Str.ofString "caller" → y ≠ Str.ofString "stands" → y ≠ Str.ofString "worlds" → mT lb ca sl wl kl m9' y = mL lb kl m9 y) → Q .next {s with heap := h', toks := tk'}) :
   wpP (model pw w) ((ktrTop dp un gd cn cs L0 a ccd cl outer).deeper (envOfC (Str.ofString "_law_right") scR L 986 (Value.ref 985))) (exec (lapBody.getD 1 (.Pass default)) (envOfC (Str.ofString "_law_right") scR L 986 (Value.ref 985))) Q E s := by
  exact clo (by with_unfolding_all rfl) lst1_ok_m (Bag.mk w gd cs ccd cl outer bag0.ar s loose mean Q bag0.qu (lk [un, L0, L, a, lb, kl, pd, nl, rl] dp) (lk [] cn) (lk [h₀] base) (lk [mb, m9] mg) (lk [] nx) (lk [] E) bag0.i bag0.vs bag0.ns bag0.b bag0.bool bag0.o bag0.avs (lk [] pk) (lk [] b) ini r (lk [] ks) kc bag0.nd bag0.u8 bag0.d bag0.ov) B F XK T N hd hu S1 ret

end
theorem flush_GG : True := by first | walk1 | exact trivial
section
open PySem PySem.W PySem.Calls PyProof.Rows PyProof.V PySem.Spec
noncomputable def forIter : Stmt → PySem.Expr
  | .For _ i _ _ _ => i
  | _ => .Constant .none 0 default
noncomputable def forPos : Stmt → Pos
  | .For _ _ _ _ p => p
  | _ => default
noncomputable def turnElts : List PySem.Expr := match turnTgt with
  | .Tuple es _ _ => es
  | _ => []
noncomputable def turnK : Nat := match turnTgt with
  | .Tuple _ k _ => k
  | _ => 0
noncomputable def turnP : Pos := match turnTgt with
  | .Tuple _ _ p => p
  | _ => default
theorem turnTgt_eq : turnTgt = .Tuple turnElts turnK turnP := by kernel_rfl
theorem turnFor_eq : lapBody.getD 2 (.Pass default) = .For turnTgt (forIter turnFor) turnBody [] (forPos turnFor) := by kernel_rfl
theorem lapBody_eq : lapBody = [lapBody.getD 0 (.Pass default), lapBody.getD 1 (.Pass default), lapBody.getD 2 (.Pass default), lapBody.getD 3 (.Pass default)] := by kernel_rfl
noncomputable def lapFor : Stmt := rightBody.getD 2 (.Pass default)
noncomputable def lapTgt : PySem.Expr := forTarget lapFor

end
theorem flush_GH : True := by first | walk1 | exact trivial
section
open PySem PySem.W PySem.Calls PyProof.Rows PyProof.V PySem.Spec
noncomputable def evi_ok_P (w : World) (dp : Nat) (un : Nat) (gd : Option (List Code)) (cn : Str) (cs : Scope) (L0 : Addr) (L : Addr) (a : Addr) (ccd : Value) (cl : List (Str × Addr)) (outer : List Env) (base : Heap) (h₀ : Heap) (s : Shared) (Q : Value → Shared → Prop) (E : Value → Shared → Prop) (loose : List Str) (mean : ExcName → Option Value) (mg : Str → Option Value) (mb : Str → Option Value) (m9 : Str → Option Value) (nx : List (Addr × Obj)) (lb : Addr) (kl : Addr) (ca : Addr) (sl : Addr) (wl : Addr) : Prop := ∀ (B : Below (ktrTop dp un gd cn cs L0 a ccd cl outer) base (envX cn cs L0 a ccd cl :: outer) h₀) (F : Fr h₀ L s.heap (mT lb ca sl wl kl m9)) (XK : (K w.params).In h₀) (T : Top q loose mean mg mb h₀) (N : News h₀ L s.heap nx) (hd : dp + 72 < recursionLimit) (hu : un + 700 < cLine) (ret : ∀ tk', wpAny (model pw w) ((ktrTop dp un gd cn cs L0 a ccd cl outer).deeper (envOfC (Str.ofString "_law_right") scR L 986 (Value.ref 985))) (call (.type "enumerate") [.ref kl]) Q E {s with toks := tk'}), wpAny (model pw w) ((ktrTop dp un gd cn cs L0 a ccd cl outer).deeper (envOfC (Str.ofString "_law_right") scR L 986 (Value.ref 985))) (eval (forIter turnFor) (envOfC (Str.ofString "_law_right") scR L 986 (Value.ref 985))) Q E s
noncomputable def evi_ok_S (c : Bag) : Prop := evi_ok_P c.w (c.n 0) (c.n 1) c.gd (c.str 0) c.cs (c.n 2) (c.n 3) (c.n 4) c.v c.cl c.outer (c.heap 0) (c.heap 1) c.s (c.q 0) (c.q 1) c.loose c.mean (c.m 0) (c.m 1) (c.m 2) (c.news 0) (c.n 5) (c.n 6) (c.n 7) (c.n 8) (c.n 9)
@[irreducible] noncomputable def evi_ok_c : Bag := pick evi_ok_S
theorem evi_ok_m : evi_ok_S evi_ok_c := by
  refine (?zz9 : ∀ (w : World) (dp : Nat) (un : Nat) (gd : Option (List Code)) (cn : Str) (cs : Scope) (L0 : Addr) (L : Addr) (a : Addr) (ccd : Value) (cl : List (Str × Addr)) (outer : List Env) (base : Heap) (h₀ : Heap) (s : Shared) (Q : Value → Shared → Prop) (E : Value → Shared → Prop) (loose : List Str) (mean : ExcName → Option Value) (mg : Str → Option Value) (mb : Str → Option Value) (m9 : Str → Option Value) (nx : List (Addr × Obj)) (lb : Addr) (kl : Addr) (ca : Addr) (sl : Addr) (wl : Addr), evi_ok_P w dp un gd cn cs L0 L a ccd cl outer base h₀ s Q E loose mean mg mb m9 nx lb kl ca sl wl) evi_ok_c.w (evi_ok_c.n 0) (evi_ok_c.n 1) evi_ok_c.gd (evi_ok_c.str 0) evi_ok_c.cs (evi_ok_c.n 2) (evi_ok_c.n 3) (evi_ok_c.n 4) evi_ok_c.v evi_ok_c.cl evi_ok_c.outer (evi_ok_c.heap 0) (evi_ok_c.heap 1) evi_ok_c.s (evi_ok_c.q 0) (evi_ok_c.q 1) evi_ok_c.loose evi_ok_c.mean (evi_ok_c.m 0) (evi_ok_c.m 1) (evi_ok_c.m 2) (evi_ok_c.news 0) (evi_ok_c.n 5) (evi_ok_c.n 6) (evi_ok_c.n 7) (evi_ok_c.n 8) (evi_ok_c.n 9)
  intro w dp un gd cn cs L0 L a ccd cl outer base h₀ s Q E loose mean mg mb m9 nx lb kl ca sl wl B F XK T N hd hu ret
  conv => pattern (occs := *) scR <;> whnf
  conv => pattern (occs := *) (forIter turnFor) <;> whnf
  show wpAny _ _ _ _ _ _
  k_steps
  trace_state
  exact ret _
theorem evi_ok {w : World} {dp un : Nat} {gd : Option (List Code)} {cn : Str} {cs : Scope} {L0 L a : Addr} {ccd : Value} {cl : List (Str × Addr)} {outer : List Env} {base h₀ : Heap} {s : Shared} {Q : Value → Shared → Prop} {E : Value → Shared → Prop}
   {loose : List Str} {mean : ExcName → Option Value} {mg mb m9 : Str → Option Value} {nx : List (Addr × Obj)} {lb kl : Addr} {ca sl wl : Addr}
   (B : Below (ktrTop dp un gd cn cs L0 a ccd cl outer) base (envX cn cs L0 a ccd cl :: outer) h₀) (F : Fr h₀ L s.heap (mT lb ca sl wl kl m9)) (XK : (K w.params).In h₀) (T : Top q loose mean mg mb h₀)
   (N : News h₀ L s.heap nx) (hd : dp + 72 < recursionLimit) (hu : un + 700 < cLine) (ret : ∀ tk', wpAny (model pw w) ((ktrTop dp un gd cn cs L0 a ccd cl outer).deeper (envOfC (Str.ofString "_law_right") scR L 986 (Value.ref 985))) (call (.type "enumerate") [.ref kl]) Q E {s with toks := tk'}) :
   wpAny (model pw w) ((ktrTop dp un gd cn cs L0 a ccd cl outer).deeper (envOfC (Str.ofString "_law_right") scR L 986 (Value.ref 985))) (eval (forIter turnFor) (envOfC (Str.ofString "_law_right") scR L 986 (Value.ref 985))) Q E s := by
  exact clo (by with_unfolding_all rfl) evi_ok_m (Bag.mk w gd cs ccd cl outer bag0.ar s loose mean bag0.qf bag0.qu (lk [un, L0, L, a, lb, kl, ca, sl, wl] dp) (lk [] cn) (lk [h₀] base) (lk [mb, m9] mg) (lk [] nx) (lk [E] Q) bag0.i bag0.vs bag0.ns bag0.b bag0.bool bag0.o bag0.avs bag0.kvs bag0.nb bag0.nbool bag0.nn bag0.l bag0.kc bag0.nd bag0.u8 bag0.d bag0.ov) B F XK T N hd hu ret

end
theorem flush_GI : True := by first | walk1 | exact trivial
section
open PySem PySem.W PySem.Calls PyProof.Rows PyProof.V PySem.Spec
noncomputable def lst2_ok_P (w : World) (dp : Nat) (un : Nat) (gd : Option (List Code)) (cn : Str) (cs : Scope) (L0 : Addr) (L : Addr) (a : Addr) (ccd : Value) (cl : List (Str × Addr)) (outer : List Env) (base : Heap) (h₀ : Heap) (s : Shared) (Q : Flow → Shared → Prop) (E : Value → Shared → Prop) (loose : List Str) (mean : ExcName → Option Value) (mg : Str → Option Value) (mb : Str → Option Value) (m9 : Str → Option Value) (nx : List (Addr × Obj)) (R : List (Addr × Obj)) (lb : Addr) (kl : Addr) (pd : Addr) (nl : Addr) (rl : Addr) (ca : Addr) (cdx : Addr) (pc : Addr) (crows : Addr) (tl : Addr) (cmem : Addr) (chn : Addr) (cop : Addr) (sl : Addr) (wl : Addr) (wd : Addr) (b : Nat → Array UInt8) (ini : Nat → Bool) (r : Nat → Addr) (ks : List Addr) (kc : List (Nat × UInt8)) (pk : List (Str × Value)) : Prop := ∀ (B : Below (ktrTop dp un gd cn cs L0 a ccd cl outer) base (envX cn cs L0 a ccd cl :: outer) h₀) (F : Fr h₀ L s.heap (mT lb ca sl wl kl m9)) (XK : (K w.params).In h₀) (T : Top q loose mean mg mb h₀) (N : News h₀ L s.heap nx) (hd : dp + 72 < recursionLimit) (hu : un + 700 < cLine) (hE : PassesOwn (model pw w) ((ktrTop dp un gd cn cs L0 a ccd cl outer).deeper (envOfC (Str.ofString "_law_right") scR L 986 (Value.ref 985))) (envOfC (Str.ofString "_law_right") scR L 986 (Value.ref 985)) E) (hb : ∀ k, k < 3 → 0 < (b k).size ∧ (b k).size ≤ 5) (LR : LapR w R L pd nl rl kl b ini r ks kc pk lb wd ca cdx pc crows tl cmem chn cop sl wl) (TI : TurnI w R nx L b ini kc pk wd cdx pc crows tl cmem chn cop sl wl 0 [] b (fun _ => none) [] [] #[]) (ret : ∀ nx' kvs st X xs ts orow h' tk' m9', Fr h₀ L h' (mT lb ca sl wl kl m9') → News h₀ L h' nx' → TurnI w R nx' L b ini kc pk wd cdx pc crows tl cmem chn cop sl wl kc.length kvs st X xs ts orow → (∀ y, y ∉ xsT → mT lb ca sl wl kl m9' y = mT lb ca sl wl kl m9 y) → Q .next {s with heap := h', toks := tk'}), wpP (model pw w) ((ktrTop dp un gd cn cs L0 a ccd cl outer).deeper (envOfC (Str.ofString "_law_right") scR L 986 (Value.ref 985))) (exec (lapBody.getD 2 (.Pass default)) (envOfC (Str.ofString "_law_right") scR L 986 (Value.ref 985))) Q E s
noncomputable def lst2_ok_S (c : Bag) : Prop := lst2_ok_P c.w (c.n 0) (c.n 1) c.gd (c.str 0) c.cs (c.n 2) (c.n 3) (c.n 4) c.v c.cl c.outer (c.heap 0) (c.heap 1) c.s c.qf (c.q 0) c.loose c.mean (c.m 0) (c.m 1) (c.m 2) (c.news 0) (c.news 1) (c.n 5) (c.n 6) (c.n 7) (c.n 8) (c.n 9) (c.n 10) (c.n 11) (c.n 12) (c.n 13) (c.n 14) (c.n 15) (c.n 16) (c.n 17) (c.n 18) (c.n 19) (c.n 20) (c.nb 0) c.nbool c.nn (c.l 0) c.kc (c.kvs 0)
@[irreducible] noncomputable def lst2_ok_c : Bag := pick lst2_ok_S
theorem lst2_ok_m : lst2_ok_S lst2_ok_c := by
  refine (?zz9 : ∀ (w : World) (dp : Nat) (un : Nat) (gd : Option (List Code)) (cn : Str) (cs : Scope) (L0 : Addr) (L : Addr) (a : Addr) (ccd : Value) (cl : List (Str × Addr)) (outer : List Env) (base : Heap) (h₀ : Heap) (s : Shared) (Q : Flow → Shared → Prop) (E : Value → Shared → Prop) (loose : List Str) (mean : ExcName → Option Value) (mg : Str → Option Value) (mb : Str → Option Value) (m9 : Str → Option Value) (nx : List (Addr × Obj)) (R : List (Addr × Obj)) (lb : Addr) (kl : Addr) (pd : Addr) (nl : Addr) (rl : Addr) (ca : Addr) (cdx : Addr) (pc : Addr) (crows : Addr) (tl : Addr) (cmem : Addr) (chn : Addr) (cop : Addr) (sl : Addr) (wl : Addr) (wd : Addr) (b : Nat → Array UInt8) (ini : Nat → Bool) (r : Nat → Addr) (ks : List Addr) (kc : List (Nat × UInt8)) (pk : List (Str × Value)), lst2_ok_P w dp un gd cn cs L0 L a ccd cl outer base h₀ s Q E loose mean mg mb m9 nx R lb kl pd nl rl ca cdx pc crows tl cmem chn cop sl wl wd b ini r ks kc pk) lst2_ok_c.w (lst2_ok_c.n 0) (lst2_ok_c.n 1) lst2_ok_c.gd (lst2_ok_c.str 0) lst2_ok_c.cs (lst2_ok_c.n 2) (lst2_ok_c.n 3) (lst2_ok_c.n 4) lst2_ok_c.v lst2_ok_c.cl lst2_ok_c.outer (lst2_ok_c.heap 0) (lst2_ok_c.heap 1) lst2_ok_c.s lst2_ok_c.qf (lst2_ok_c.q 0) lst2_ok_c.loose lst2_ok_c.mean (lst2_ok_c.m 0) (lst2_ok_c.m 1) (lst2_ok_c.m 2) (lst2_ok_c.news 0) (lst2_ok_c.news 1) (lst2_ok_c.n 5) (lst2_ok_c.n 6) (lst2_ok_c.n 7) (lst2_ok_c.n 8) (lst2_ok_c.n 9) (lst2_ok_c.n 10) (lst2_ok_c.n 11) (lst2_ok_c.n 12) (lst2_ok_c.n 13) (lst2_ok_c.n 14) (lst2_ok_c.n 15) (lst2_ok_c.n 16) (lst2_ok_c.n 17) (lst2_ok_c.n 18) (lst2_ok_c.n 19) (lst2_ok_c.n 20) (lst2_ok_c.nb 0) lst2_ok_c.nbool lst2_ok_c.nn (lst2_ok_c.l 0) lst2_ok_c.kc (lst2_ok_c.kvs 0)
  intro w dp un gd cn cs L0 L a ccd cl outer base h₀ s Q E loose mean mg mb m9 nx R lb kl pd nl rl ca cdx pc crows tl cmem chn cop sl wl wd b ini r ks kc pk B F XK T N hd hu hE hb LR TI ret
  have hkn := LR.st.ar.kn
  rw [turnFor_eq]
  refine For_P (env := (envOfC (Str.ofString "_law_right") scR L 986 (Value.ref 985))) F ?_ (by intro _; kernel_rfl) hE
  refine evi_ok B F XK T N hd hu fun tk' => ?_
  obtain ⟨nk, kl1⟩ := LR.st.ar.kl
  rw [turnTgt_eq]
  refine iter_enumMP (s := {s with toks := tk'}) (env := (envOfC (Str.ofString "_law_right") scR L 986 (Value.ref 985))) (m₀ := mT lb ca sl wl kl m9) (vs := ks.map Value.ref) (n := nk) (lo := listOf (ks.map Value.ref).toArray nk) xsT (JTurn w R L b ini kc pk wd cdx pc crows tl cmem chn cop sl wl) rfl F N (TI.sub _ kl1) rfl rfl ?_ ?_ ?_ ?_
  · rintro i us nx' ⟨_, _, _, _, kvs, st, X, xs, ts, orow, _, TI'⟩
    exact TI'.sub _ kl1
  · exact ⟨_, _, _, rfl, [], b, fun _ => none, [], [], #[], Nat.le_refl _, TI⟩
  · rintro i x t TT us nx' h tk I io I' io' hx hT ⟨u0, u1, u2, rfl, kvs, st, X, xs, ts, orow, hz, TI'⟩ hio hio' hI hI' F' N'
    rw [List.getElem?_map] at hx
    obtain ⟨aa, haa, rfl⟩ := Option.map_eq_some_iff.mp hx
    have hi : i < kc.length := by rw [← hkn]; exact (List.getElem?_eq_some_iff.mp haa).1
    obtain ⟨⟨k, c⟩, hkc⟩ : ∃ q, kc[i]? = some q := ⟨_, List.getElem?_eq_getElem hi⟩
    rw [← turnTgt_eq]
    exact turn_ok (s := ⟨h, s.gens, s.drawn, tk, s.os⟩) B F' XK T N' hio hio' hI hI' (by omega) hu LR TI' hz hkc hb hT haa
  · rintro us nx' h tk ⟨u0, u1, u2, rfl, kvs, st, X, xs, ts, orow, hz, TI'⟩ F' N'
    rw [List.length_map, hkn] at TI'
    obtain ⟨F2, em⟩ := fr_mT (lb := lb) (ca := ca) (sl := sl) (wl := wl) (kl := kl) F' rfl rfl rfl rfl rfl
    refine ret nx' kvs st X xs ts orow h tk _ F2 N' TI' fun y hy => ?_
    rw [em]
    revert y
    exact (by intro y hy; have e0 : y ≠ Str.ofString "turn" := fun e => hy (e ▸ .head _); have e1 : y ≠ Str.ofString "octet" := fun e => hy (e ▸ .tail _ (.head _)); have e2 : y ≠ Str.ofString "worth" := fun e => hy (e ▸ .tail _ (.tail _ (.head _))); simp only [e0, beq_eq_false_iff_ne.mpr e0, e1, beq_eq_false_iff_ne.mpr e1, e2, beq_eq_false_iff_ne.mpr e2, if_false, updL, List.zip, List.zipWith, List.lookup_cons, List.lookup_nil])
theorem lst2_ok {w : World} {dp un : Nat} {gd : Option (List Code)} {cn : Str} {cs : Scope} {L0 L a : Addr} {ccd : Value} {cl : List (Str × Addr)} {outer : List Env} {base h₀ : Heap} {s : Shared} {Q : Flow → Shared → Prop} {E : Value → Shared → Prop}
   {loose : List Str} {mean : ExcName → Option Value} {mg mb m9 : Str → Option Value} {nx R : List (Addr × Obj)} {lb kl : Addr} {pd nl rl ca cdx pc crows tl cmem chn cop sl wl wd : Addr} {b : Nat → Array UInt8} {ini : Nat → Bool} {r : Nat → Addr} {ks : List Addr} {kc : List (Nat × UInt8)} {pk : List (Str × Value)}
   (B : Below (ktrTop dp un gd cn cs L0 a ccd cl outer) base (envX cn cs L0 a ccd cl :: outer) h₀) (F : Fr h₀ L s.heap (mT lb ca sl wl kl m9)) (XK : (K w.params).In h₀) (T : Top q loose mean mg mb h₀)
   (N : News h₀ L s.heap nx) (hd : dp + 72 < recursionLimit) (hu : un + 700 < cLine) (hE : PassesOwn (model pw w) ((ktrTop dp un gd cn cs L0 a ccd cl outer).deeper (envOfC (Str.ofString "_law_right") scR L 986 (Value.ref 985))) (envOfC (Str.ofString "_law_right") scR L 986 (Value.ref 985)) E) (hb : ∀ k, k < 3 → 0 < (b k).size ∧ (b k).size ≤ 5)
   (LR : LapR w R L pd nl rl kl b ini r ks kc pk lb wd ca cdx pc crows tl cmem chn cop sl wl) (TI : TurnI w R nx L b ini kc pk wd cdx pc crows tl cmem chn cop sl wl 0 [] b (fun _ => none) [] [] #[])
   (ret : ∀ nx' kvs st X xs ts orow h' tk' m9', Fr h₀ L h' (mT lb ca sl wl kl m9') → News h₀ L h' nx' → TurnI w R nx' L b ini kc pk wd cdx pc crows tl cmem chn cop sl wl kc.length kvs st X xs ts orow → (∀ y, y ∉ xsT → mT lb ca sl wl kl m9' y = mT lb ca sl wl kl m9 y) → Q .next {s with heap := h', toks := tk'}) :
   wpP (model pw w) ((ktrTop dp un gd cn cs L0 a ccd cl outer).deeper (envOfC (Str.ofString "_law_right") scR L 986 (Value.ref 985))) (exec (lapBody.getD 2 (.Pass default)) (envOfC (Str.ofString "_law_right") scR L 986 (Value.ref 985))) Q E s := by
  exact clo (by with_unfolding_all rfl) lst2_ok_m (Bag.mk w gd cs ccd cl outer bag0.ar s loose mean Q bag0.qu (lk [un, L0, L, a, lb, kl, pd, nl, rl, ca, cdx, pc, crows, tl, cmem, chn, cop, sl, wl, wd] dp) (lk [] cn) (lk [h₀] base) (lk [mb, m9] mg) (lk [R] nx) (lk [] E) bag0.i bag0.vs bag0.ns bag0.b bag0.bool bag0.o bag0.avs (lk [] pk) (lk [] b) ini r (lk [] ks) kc bag0.nd bag0.u8 bag0.d bag0.ov) B F XK T N hd hu hE hb LR TI ret

end
theorem flush_GJ : True := by first | walk1 | exact trivial
section
open PySem PySem.W PySem.Calls PyProof.Rows PyProof.V PySem.Spec
noncomputable def asl_ok_P (w : World) (dp : Nat) (un : Nat) (gd : Option (List Code)) (cn : Str) (cs : Scope) (L0 : Addr) (L : Addr) (a : Addr) (ccd : Value) (cl : List (Str × Addr)) (outer : List Env) (base : Heap) (h₀ : Heap) (s : Shared) (Q : Unit → Shared → Prop) (E : Value → Shared → Prop) (loose : List Str) (mean : ExcName → Option Value) (mg : Str → Option Value) (mb : Str → Option Value) (m9 : Str → Option Value) (nx : List (Addr × Obj)) (m : Str → Option Value) (v : Int) (tv : Tok) : Prop := ∀ (B : Below (ktrTop dp un gd cn cs L0 a ccd cl outer) base (envX cn cs L0 a ccd cl :: outer) h₀) (F : Fr h₀ L s.heap m) (XK : (K w.params).In h₀) (T : Top q loose mean mg mb h₀) (N : News h₀ L s.heap nx) (hd : dp + 72 < recursionLimit) (hu : un + 700 < cLine) (ret : ∀ h' tk', Fr h₀ L h' (fun y => if y = Str.ofString "lap" then some (.int v tv) else m y) → News h₀ L h' nx → Q () {s with heap := h', toks := tk'}), wpAny (model pw w) ((ktrTop dp un gd cn cs L0 a ccd cl outer).deeper (envOfC (Str.ofString "_law_right") scR L 986 (Value.ref 985))) (assign lapTgt (envOfC (Str.ofString "_law_right") scR L 986 (Value.ref 985)) (.int v tv)) Q E s
noncomputable def asl_ok_S (c : Bag) : Prop := asl_ok_P c.w (c.n 0) (c.n 1) c.gd (c.str 0) c.cs (c.n 2) (c.n 3) (c.n 4) c.v c.cl c.outer (c.heap 0) (c.heap 1) c.s c.qu (c.q 0) c.loose c.mean (c.m 0) (c.m 1) (c.m 2) (c.news 0) (c.m 3) (c.i 0) (c.n 5)
@[irreducible] noncomputable def asl_ok_c : Bag := pick asl_ok_S
theorem asl_ok_m : asl_ok_S asl_ok_c := by
  refine (?zz9 : ∀ (w : World) (dp : Nat) (un : Nat) (gd : Option (List Code)) (cn : Str) (cs : Scope) (L0 : Addr) (L : Addr) (a : Addr) (ccd : Value) (cl : List (Str × Addr)) (outer : List Env) (base : Heap) (h₀ : Heap) (s : Shared) (Q : Unit → Shared → Prop) (E : Value → Shared → Prop) (loose : List Str) (mean : ExcName → Option Value) (mg : Str → Option Value) (mb : Str → Option Value) (m9 : Str → Option Value) (nx : List (Addr × Obj)) (m : Str → Option Value) (v : Int) (tv : Tok), asl_ok_P w dp un gd cn cs L0 L a ccd cl outer base h₀ s Q E loose mean mg mb m9 nx m v tv) asl_ok_c.w (asl_ok_c.n 0) (asl_ok_c.n 1) asl_ok_c.gd (asl_ok_c.str 0) asl_ok_c.cs (asl_ok_c.n 2) (asl_ok_c.n 3) (asl_ok_c.n 4) asl_ok_c.v asl_ok_c.cl asl_ok_c.outer (asl_ok_c.heap 0) (asl_ok_c.heap 1) asl_ok_c.s asl_ok_c.qu (asl_ok_c.q 0) asl_ok_c.loose asl_ok_c.mean (asl_ok_c.m 0) (asl_ok_c.m 1) (asl_ok_c.m 2) (asl_ok_c.news 0) (asl_ok_c.m 3) (asl_ok_c.i 0) (asl_ok_c.n 5)
  intro w dp un gd cn cs L0 L a ccd cl outer base h₀ s Q E loose mean mg mb m9 nx m v tv B F XK T N hd hu ret
  conv => pattern (occs := *) scR <;> whnf
  conv => pattern (occs := *) lapTgt <;> whnf
  show wpAny _ _ _ _ _ _
  k_steps
  rename Fr _ _ _ _ => lF
  rename News _ _ _ _ => lN
  exact ret _ _ lF lN
theorem asl_ok {w : World} {dp un : Nat} {gd : Option (List Code)} {cn : Str} {cs : Scope} {L0 L a : Addr} {ccd : Value} {cl : List (Str × Addr)} {outer : List Env} {base h₀ : Heap} {s : Shared} {Q : Unit → Shared → Prop} {E : Value → Shared → Prop}
   {loose : List Str} {mean : ExcName → Option Value} {mg mb m9 : Str → Option Value} {nx : List (Addr × Obj)} {m : Str → Option Value} {v : Int} {tv : Tok}
   (B : Below (ktrTop dp un gd cn cs L0 a ccd cl outer) base (envX cn cs L0 a ccd cl :: outer) h₀) (F : Fr h₀ L s.heap m) (XK : (K w.params).In h₀) (T : Top q loose mean mg mb h₀)
   (N : News h₀ L s.heap nx) (hd : dp + 72 < recursionLimit) (hu : un + 700 < cLine) (ret : ∀ h' tk', Fr h₀ L h' (fun y => if y = Str.ofString "lap" then some (.int v tv) else m y) → News h₀ L h' nx → Q () {s with heap := h', toks := tk'}) :
   wpAny (model pw w) ((ktrTop dp un gd cn cs L0 a ccd cl outer).deeper (envOfC (Str.ofString "_law_right") scR L 986 (Value.ref 985))) (assign lapTgt (envOfC (Str.ofString "_law_right") scR L 986 (Value.ref 985)) (.int v tv)) Q E s := by
  exact clo (by with_unfolding_all rfl) asl_ok_m (Bag.mk w gd cs ccd cl outer bag0.ar s loose mean bag0.qf Q (lk [un, L0, L, a, tv] dp) (lk [] cn) (lk [h₀] base) (lk [mb, m9, m] mg) (lk [] nx) (lk [] E) (lk [] v) bag0.vs bag0.ns bag0.b bag0.bool bag0.o bag0.avs bag0.kvs bag0.nb bag0.nbool bag0.nn bag0.l bag0.kc bag0.nd bag0.u8 bag0.d bag0.ov) B F XK T N hd hu ret

end
theorem flush_GL : True := by first | walk1 | exact trivial
section
open PySem PySem.W PySem.Calls PyProof.Rows PyProof.V PySem.Spec
theorem iter_rangeMP {prog : Program} {w : World} {A : Around} {E : Value → Shared → Prop} {s : Shared} {env : Env} {h₀ : Heap} {target : PySem.Expr} {body : List Stmt} {Q : Flow → Shared → Prop} {r : Addr} {a₀ b₀ : Int} {t₀ u₀ v₀ : Tok} {n : Nat} {m₀ : Str → Option Value} {news : List (Addr × Obj)} (xs : List Str)
    (J : List (Addr × Obj) → Nat → List (Option Value) → List (Addr × Obj) → Prop)
    (hh : A.handled = none) (hr : IsRange s.heap r a₀ b₀ 1 t₀ u₀ v₀) (hsmall : Builtin.Range.small a₀ b₀ 1 = true) (hn : Builtin.Range.rangeSize a₀ b₀ 1 = (n : Int)) (F : Fr h₀ env.locals s.heap m₀) (N : News h₀ env.locals s.heap news)
    (j0 : J news 0 (xs.map m₀) news)
    (hgo : ∀ i v (s : Shared) (Q : Unit → Shared → Prop) (E : Value → Shared → Prop) I, IsRangeIter s.heap I (a₀ + (i : Nat) * 1) ((n : Int) - (i : Nat)) 1 → Q () s → wpAny (model prog w) A (letOwnedTupleGo target (.ref I) v) Q E s)
    (turn : ∀ (i : Nat) t us nx h tk I io, i < n → J news i us nx → io.cls = .type "range_iterator" → (∀ p ∈ nx, p.1 ≠ I) → Fr h₀ env.locals h (updL m₀ (xs.zip us)) → News h₀ env.locals h ((I, io) :: nx) →
      wpAny (model prog w) A (assign target env (.int (a₀ + i * 1) t)) (fun _ s₂ => wpP (model prog w) A (execs body env) (TPost h₀ env.locals { s with heap := h, toks := tk } [(I, io)] (JM m₀ xs (J news (i + 1))) Q) E s₂) E { s with heap := h, toks := tk })
    (done : ∀ us nx h tk, J news n us nx → Fr h₀ env.locals h (updL m₀ (xs.zip us)) → News h₀ env.locals h nx → Q .next { s with heap := h, toks := tk }) :
    wpAny (model prog w) A (pyIter (.ref r)) (fun it s₂ => TurnsP prog w A h₀ env target body Q E it s₂) E s :=
  iter_rangeJP hh hr hsmall hn F N (fun i => JM m₀ xs (J news i)) ⟨fun _ _ => rfl, j0⟩ hgo
    (fun i t m₁ nx h tk I io hi hJ hio hI F₁ N₁ => turn i t _ nx h tk I io hi hJ.2 hio hI (by rw [← updL_eq hJ.1]; exact F₁) N₁)
    (fun m' nx h tk hJ F₁ N₁ => done _ nx h tk hJ.2 (by rw [← updL_eq hJ.1]; exact F₁) N₁)
noncomputable def evr_ok_P (w : World) (dp : Nat) (un : Nat) (gd : Option (List Code)) (cn : Str) (cs : Scope) (L0 : Addr) (L : Addr) (a : Addr) (ccd : Value) (cl : List (Str × Addr)) (outer : List Env) (base : Heap) (h₀ : Heap) (s : Shared) (Q : Value → Shared → Prop) (E : Value → Shared → Prop) (loose : List Str) (mean : ExcName → Option Value) (mg : Str → Option Value) (mb : Str → Option Value) (m9 : Str → Option Value) (nx : List (Addr × Obj)) (lb : Addr) (kl : Addr) : Prop := ∀ (B : Below (ktrTop dp un gd cn cs L0 a ccd cl outer) base (envX cn cs L0 a ccd cl :: outer) h₀) (F : Fr h₀ L s.heap (mL lb kl m9)) (XK : (K w.params).In h₀) (T : Top q loose mean mg mb h₀) (N : News h₀ L s.heap nx) (hd : dp + 72 < recursionLimit) (hu : un + 700 < cLine) (ret : ∀ r t0 u0 v0 h' tk', IsRange h' r 0 2 1 t0 u0 v0 → Fr h₀ L h' (mL lb kl m9) → News h₀ L h' nx → Q (.ref r) {s with heap := h', toks := tk'}), wpAny (model pw w) ((ktrTop dp un gd cn cs L0 a ccd cl outer).deeper (envOfC (Str.ofString "_law_right") scR L 986 (Value.ref 985))) (eval (forIter lapFor) (envOfC (Str.ofString "_law_right") scR L 986 (Value.ref 985))) Q E s
noncomputable def evr_ok_S (c : Bag) : Prop := evr_ok_P c.w (c.n 0) (c.n 1) c.gd (c.str 0) c.cs (c.n 2) (c.n 3) (c.n 4) c.v c.cl c.outer (c.heap 0) (c.heap 1) c.s (c.q 0) (c.q 1) c.loose c.mean (c.m 0) (c.m 1) (c.m 2) (c.news 0) (c.n 5) (c.n 6)
@[irreducible] noncomputable def evr_ok_c : Bag := pick evr_ok_S
theorem evr_ok_m : evr_ok_S evr_ok_c := by
  refine (?zz9 : ∀ (w : World) (dp : Nat) (un : Nat) (gd : Option (List Code)) (cn : Str) (cs : Scope) (L0 : Addr) (L : Addr) (a : Addr) (ccd : Value) (cl : List (Str × Addr)) (outer : List Env) (base : Heap) (h₀ : Heap) (s : Shared) (Q : Value → Shared → Prop) (E : Value → Shared → Prop) (loose : List Str) (mean : ExcName → Option Value) (mg : Str → Option Value) (mb : Str → Option Value) (m9 : Str → Option Value) (nx : List (Addr × Obj)) (lb : Addr) (kl : Addr), evr_ok_P w dp un gd cn cs L0 L a ccd cl outer base h₀ s Q E loose mean mg mb m9 nx lb kl) evr_ok_c.w (evr_ok_c.n 0) (evr_ok_c.n 1) evr_ok_c.gd (evr_ok_c.str 0) evr_ok_c.cs (evr_ok_c.n 2) (evr_ok_c.n 3) (evr_ok_c.n 4) evr_ok_c.v evr_ok_c.cl evr_ok_c.outer (evr_ok_c.heap 0) (evr_ok_c.heap 1) evr_ok_c.s (evr_ok_c.q 0) (evr_ok_c.q 1) evr_ok_c.loose evr_ok_c.mean (evr_ok_c.m 0) (evr_ok_c.m 1) (evr_ok_c.m 2) (evr_ok_c.news 0) (evr_ok_c.n 5) (evr_ok_c.n 6)
  intro w dp un gd cn cs L0 L a ccd cl outer base h₀ s Q E loose mean mg mb m9 nx lb kl B F XK T N hd hu ret
  conv => pattern (occs := *) scR <;> whnf
  conv => pattern (occs := *) (forIter lapFor) <;> whnf
  show wpAny _ _ _ _ _ _
  k_steps
  rename Fr _ _ _ _ => lF
  rename News _ _ _ _ => lN
  exact ret _ _ _ _ _ _ (by assumption) lF lN
theorem evr_ok {w : World} {dp un : Nat} {gd : Option (List Code)} {cn : Str} {cs : Scope} {L0 L a : Addr} {ccd : Value} {cl : List (Str × Addr)} {outer : List Env} {base h₀ : Heap} {s : Shared} {Q : Value → Shared → Prop} {E : Value → Shared → Prop}
   {loose : List Str} {mean : ExcName → Option Value} {mg mb m9 : Str → Option Value} {nx : List (Addr × Obj)} {lb kl : Addr}
   (B : Below (ktrTop dp un gd cn cs L0 a ccd cl outer) base (envX cn cs L0 a ccd cl :: outer) h₀) (F : Fr h₀ L s.heap (mL lb kl m9)) (XK : (K w.params).In h₀) (T : Top q loose mean mg mb h₀)
   (N : News h₀ L s.heap nx) (hd : dp + 72 < recursionLimit) (hu : un + 700 < cLine) (ret : ∀ r t0 u0 v0 h' tk', IsRange h' r 0 2 1 t0 u0 v0 → Fr h₀ L h' (mL lb kl m9) → News h₀ L h' nx → Q (.ref r) {s with heap := h', toks := tk'}) :
   wpAny (model pw w) ((ktrTop dp un gd cn cs L0 a ccd cl outer).deeper (envOfC (Str.ofString "_law_right") scR L 986 (Value.ref 985))) (eval (forIter lapFor) (envOfC (Str.ofString "_law_right") scR L 986 (Value.ref 985))) Q E s := by
  exact clo (by with_unfolding_all rfl) evr_ok_m (Bag.mk w gd cs ccd cl outer bag0.ar s loose mean bag0.qf bag0.qu (lk [un, L0, L, a, lb, kl] dp) (lk [] cn) (lk [h₀] base) (lk [mb, m9] mg) (lk [] nx) (lk [E] Q) bag0.i bag0.vs bag0.ns bag0.b bag0.bool bag0.o bag0.avs bag0.kvs bag0.nb bag0.nbool bag0.nn bag0.l bag0.kc bag0.nd bag0.u8 bag0.d bag0.ov) B F XK T N hd hu ret
theorem lapFor_eq : rightBody.getD 2 (.Pass default) = .For lapTgt (forIter lapFor) lapBody [] (forPos lapFor) := by kernel_rfl

end
theorem flush_GK : True := by first | walk1 | exact trivial
section
open PySem PySem.W PySem.Calls PyProof.Rows PyProof.V PySem.Spec
noncomputable abbrev xsL : List Str := [Str.ofString "lap", Str.ofString "caller", Str.ofString "stands", Str.ofString "worlds", Str.ofString "turn", Str.ofString "octet", Str.ofString "worth"]
/-- what holds ahead of a lap -/
structure LapJ (w : World) (R0 : List (Addr × Obj)) (L ld pd : Addr) (nx : List (Addr × Obj)) : Prop where
  sub : ∀ p ∈ R0, p ∈ nx
  lib : ∃ oL wd, (ld, oL) ∈ nx ∧ DLib w pd wd oL
  ac : ∃ o v, (L + 1 + 1 + 1, o) ∈ nx ∧ o.data = .cell v
  wc : ∃ o v, (L + 1 + 1 + 1 + 1, o) ∈ nx ∧ o.data = .cell v
noncomputable def JLap (w : World) (R0 : List (Addr × Obj)) (L ld pd : Addr) (_lst : List (Addr × Obj)) (_i : Nat) (us : List (Option Value)) (nx : List (Addr × Obj)) : Prop :=
  (∃ u0 u1 u2 u3 u4 u5 u6, us = [u0, u1, u2, u3, u4, u5, u6]) ∧ LapJ w R0 L ld pd nx
noncomputable def lap_ok_P (w : World) (dp : Nat) (un : Nat) (gd : Option (List Code)) (cn : Str) (cs : Scope) (L0 : Addr) (L : Addr) (a : Addr) (ccd : Value) (cl : List (Str × Addr)) (outer : List Env) (base : Heap) (h₀ : Heap) (s : Shared) (Q : Flow → Shared → Prop) (E : Value → Shared → Prop) (loose : List Str) (mean : ExcName → Option Value) (mg : Str → Option Value) (mb : Str → Option Value) (m9 : Str → Option Value) (nx : List (Addr × Obj)) (R0 : List (Addr × Obj)) (lst : List (Addr × Obj)) (lb : Addr) (kl : Addr) (pd : Addr) (nl : Addr) (rl : Addr) (ld : Addr) (b : Nat → Array UInt8) (ini : Nat → Bool) (r : Nat → Addr) (ks : List Addr) (kc : List (Nat × UInt8)) (pk : List (Str × Value)) (I : Addr) (io : Obj) (i : Nat) (v : Int) (tv : Tok) (u0 : Option Value) (u1 : Option Value) (u2 : Option Value) (u3 : Option Value) (u4 : Option Value) (u5 : Option Value) (u6 : Option Value) : Prop := ∀ (B : Below (ktrTop dp un gd cn cs L0 a ccd cl outer) base (envX cn cs L0 a ccd cl :: outer) h₀) (F : Fr h₀ L s.heap (updL (mL lb kl m9) (xsL.zip [u0, u1, u2, u3, u4, u5, u6]))) (XK : (K w.params).In h₀) (T : Top q loose mean mg mb h₀) (N : News h₀ L s.heap ((I, io) :: nx)) (hd : dp + 72 < recursionLimit) (hu : un + 700 < cLine) (hI : ∀ p ∈ nx, p.1 ≠ I) (hE : PassesOwn (model pw w) ((ktrTop dp un gd cn cs L0 a ccd cl outer).deeper (envOfC (Str.ofString "_law_right") scR L 986 (Value.ref 985))) (envOfC (Str.ofString "_law_right") scR L 986 (Value.ref 985)) E) (hb : ∀ k, k < 3 → 0 < (b k).size ∧ (b k).size ≤ 5) (S0 : StatR w R0 L pd nl rl kl b ini r ks kc pk) (hlb : (lb, instObj 917 ld) ∈ R0) (off0 : ∀ p ∈ R0, p.1 ≠ ld ∧ p.1 ≠ L + 1 + 1 + 1 ∧ p.1 ≠ L + 1 + 1 + 1 + 1) (nl3 : ld ≠ L + 1 + 1 + 1 ∧ ld ≠ L + 1 + 1 + 1 + 1) (LJ : LapJ w R0 L ld pd nx), wpAny (model pw w) ((ktrTop dp un gd cn cs L0 a ccd cl outer).deeper (envOfC (Str.ofString "_law_right") scR L 986 (Value.ref 985))) (assign lapTgt (envOfC (Str.ofString "_law_right") scR L 986 (Value.ref 985)) (.int v tv)) (fun _ s₂ => wpP (model pw w) ((ktrTop dp un gd cn cs L0 a ccd cl outer).deeper (envOfC (Str.ofString "_law_right") scR L 986 (Value.ref 985))) (execs lapBody (envOfC (Str.ofString "_law_right") scR L 986 (Value.ref 985)))
     (TPost h₀ L s [(I, io)] (JM (mL lb kl m9) xsL (JLap w R0 L ld pd lst (i + 1))) Q) E s₂) E s
noncomputable def lap_ok_S (c : Bag) : Prop := lap_ok_P c.w (c.n 0) (c.n 1) c.gd (c.str 0) c.cs (c.n 2) (c.n 3) (c.n 4) c.v c.cl c.outer (c.heap 0) (c.heap 1) c.s c.qf (c.q 0) c.loose c.mean (c.m 0) (c.m 1) (c.m 2) (c.news 0) (c.news 1) (c.news 2) (c.n 5) (c.n 6) (c.n 7) (c.n 8) (c.n 9) (c.n 10) (c.nb 0) c.nbool c.nn (c.l 0) c.kc (c.kvs 0) (c.n 11) (c.o 0) (c.n 12) (c.i 0) (c.n 13) (c.ov 0) (c.ov 1) (c.ov 2) (c.ov 3) (c.ov 4) (c.ov 5) (c.ov 6)
@[irreducible] noncomputable def lap_ok_c : Bag := pick lap_ok_S
theorem lap_ok_m : lap_ok_S lap_ok_c := by
  refine (?zz9 : ∀ (w : World) (dp : Nat) (un : Nat) (gd : Option (List Code)) (cn : Str) (cs : Scope) (L0 : Addr) (L : Addr) (a : Addr) (ccd : Value) (cl : List (Str × Addr)) (outer : List Env) (base : Heap) (h₀ : Heap) (s : Shared) (Q : Flow → Shared → Prop) (E : Value → Shared → Prop) (loose : List Str) (mean : ExcName → Option Value) (mg : Str → Option Value) (mb : Str → Option Value) (m9 : Str → Option Value) (nx : List (Addr × Obj)) (R0 : List (Addr × Obj)) (lst : List (Addr × Obj)) (lb : Addr) (kl : Addr) (pd : Addr) (nl : Addr) (rl : Addr) (ld : Addr) (b : Nat → Array UInt8) (ini : Nat → Bool) (r : Nat → Addr) (ks : List Addr) (kc : List (Nat × UInt8)) (pk : List (Str × Value)) (I : Addr) (io : Obj) (i : Nat) (v : Int) (tv : Tok) (u0 : Option Value) (u1 : Option Value) (u2 : Option Value) (u3 : Option Value) (u4 : Option Value) (u5 : Option Value) (u6 : Option Value), lap_ok_P w dp un gd cn cs L0 L a ccd cl outer base h₀ s Q E loose mean mg mb m9 nx R0 lst lb kl pd nl rl ld b ini r ks kc pk I io i v tv u0 u1 u2 u3 u4 u5 u6) lap_ok_c.w (lap_ok_c.n 0) (lap_ok_c.n 1) lap_ok_c.gd (lap_ok_c.str 0) lap_ok_c.cs (lap_ok_c.n 2) (lap_ok_c.n 3) (lap_ok_c.n 4) lap_ok_c.v lap_ok_c.cl lap_ok_c.outer (lap_ok_c.heap 0) (lap_ok_c.heap 1) lap_ok_c.s lap_ok_c.qf (lap_ok_c.q 0) lap_ok_c.loose lap_ok_c.mean (lap_ok_c.m 0) (lap_ok_c.m 1) (lap_ok_c.m 2) (lap_ok_c.news 0) (lap_ok_c.news 1) (lap_ok_c.news 2) (lap_ok_c.n 5) (lap_ok_c.n 6) (lap_ok_c.n 7) (lap_ok_c.n 8) (lap_ok_c.n 9) (lap_ok_c.n 10) (lap_ok_c.nb 0) lap_ok_c.nbool lap_ok_c.nn (lap_ok_c.l 0) lap_ok_c.kc (lap_ok_c.kvs 0) (lap_ok_c.n 11) (lap_ok_c.o 0) (lap_ok_c.n 12) (lap_ok_c.i 0) (lap_ok_c.n 13) (lap_ok_c.ov 0) (lap_ok_c.ov 1) (lap_ok_c.ov 2) (lap_ok_c.ov 3) (lap_ok_c.ov 4) (lap_ok_c.ov 5) (lap_ok_c.ov 6)
  intro w dp un gd cn cs L0 L a ccd cl outer base h₀ s Q E loose mean mg mb m9 nx R0 lst lb kl pd nl rl ld b ini r ks kc pk I io i v tv u0 u1 u2 u3 u4 u5 u6 B F XK T N hd hu hI hE hb S0 hlb off0 nl3 LJ
  obtain ⟨oL, wd0, l1, l2⟩ := LJ.lib
  obtain ⟨oa, va, a1, a2⟩ := LJ.ac
  obtain ⟨ow, vw, w1, w2⟩ := LJ.wc
  refine asl_ok (m9 := m9) B F XK T N hd hu fun h1 tk1 F1 N1 => ?_
  obtain ⟨F2, em1⟩ := fr_mL (lb := lb) (kl := kl) F1 rfl rfl
  clear F1
  rw [lapBody_eq]
  refine wpP_execs_leaf (lst0_ok B F2 XK T N1 hd hu (.tail _ (LJ.sub _ hlb)) (.tail _ l1) l2 (off0 _ hlb).1 ?_)
  clear F2 N1
  intro wd owd oL' h2 tk2 F2 N2 hD' hE' lt2
  show wpP _ _ (execs _ _) _ _ _
  have k0 : ∀ {p : Addr × Obj}, p ∈ (I, io) :: nx → p.1 ≠ ld → p ∈ (wd, owd) :: swap ld oL' ((I, io) :: nx) := fun h1 h2 => .tail _ (swap_keep h1 h2)
  have nIld : I ≠ ld := Ne.symm (hI _ l1)
  have mld : (ld, oL') ∈ (wd, owd) :: swap ld oL' ((I, io) :: nx) := .tail _ swap_new
  have mwd : (wd, owd) ∈ (wd, owd) :: swap ld oL' ((I, io) :: nx) := .head _
  have mI : (I, io) ∈ (wd, owd) :: swap ld oL' ((I, io) :: nx) := k0 (.head _) nIld
  have ma := k0 (.tail _ a1) (Ne.symm nl3.1)
  have mw := k0 (.tail _ w1) (Ne.symm nl3.2)
  have mR : ∀ p ∈ R0, p ∈ (wd, owd) :: swap ld oL' ((I, io) :: nx) := fun p hp => k0 (.tail _ (LJ.sub p hp)) (off0 p hp).1
  have lR : ∀ p ∈ R0, @LT.lt Nat _ p.1 wd := fun p hp => lt2 _ (.tail _ (LJ.sub p hp))
  have lld : @LT.lt Nat _ ld wd := lt2 _ (.tail _ l1)
  have lI : @LT.lt Nat _ I wd := lt2 _ (.head _)
  generalize (wd, owd) :: swap ld oL' ((I, io) :: nx) = ny0 at *
  refine wpP_execs_cons (lst1_ok B F2 XK T N2 hd hu (S0.sub mR) ?_)
  clear F2 N2
  intro ny ca cdx pc crows tl cmem chn cop sl wl oc ohn sts n1 n2 n3 n4 tin h3 tk3 m9' F3 N3 hsub ⟨q1, q2, q3, q4, q5, q6, q7, q8, q9⟩ ⟨hs3, hst⟩ ⟨ltc, o1, o2, o3, o4, o5, hz, hsl⟩ same3
  show wpP _ _ (execs _ _) _ _ _
  have lwd := ltc _ mwd
  have la := ltc _ ma
  have lw := ltc _ mw
  have low : ∀ (z : Addr) (o : Obj), (z, o) ∈ ny0 → @LT.lt Nat _ z wd → z ≠ L + 1 + 1 + 1 → z ≠ L + 1 + 1 + 1 + 1 → z ≠ wd ∧ z ≠ cdx ∧ z ≠ sl ∧ z ≠ tl ∧ z ≠ wl ∧ z ≠ L + 1 + 1 + 1 ∧ z ≠ L + 1 + 1 + 1 + 1 := fun z o hm hl x y => by
    obtain ⟨e1, e2⟩ := hz z (.inr (.inr (.inr (.inr (.inr ⟨o, hm⟩)))))
    have e3 := ltc _ hm
    dsimp only at lwd la lw e3
    refine ⟨Nat.ne_of_lt hl, Nat.ne_of_lt e3, e1, ?_, Nat.ne_of_lt e2, x, y⟩
    exact Nat.ne_of_lt (Nat.lt_trans e3 (Nat.lt_trans o1 (Nat.lt_trans o2 o3)))
  have high : ∀ (z : Addr), (z = ca ∨ z = crows ∨ z = chn) → z ≠ wd ∧ z ≠ cdx ∧ z ≠ sl ∧ z ≠ tl ∧ z ≠ wl ∧ z ≠ L + 1 + 1 + 1 ∧ z ≠ L + 1 + 1 + 1 + 1 := fun z hzz => by
    obtain ⟨e1, e2⟩ := hz z (by rcases hzz with h | h | h <;> simp [h])
    have hc : @LT.lt Nat _ cdx z := by
      rcases hzz with rfl | rfl | rfl
      · exact o1
      · exact Nat.lt_trans o1 o2
      · exact Nat.lt_trans o1 (Nat.lt_trans o2 (Nat.lt_trans o3 (Nat.lt_trans o4 o5)))
    have ht : z ≠ tl := by
      rcases hzz with rfl | rfl | rfl
      · exact Nat.ne_of_lt (Nat.lt_trans o2 o3)
      · exact Nat.ne_of_lt o3
      · exact Nat.ne_of_gt (Nat.lt_trans o4 o5)
    exact ⟨Nat.ne_of_gt (Nat.lt_trans lwd hc), Nat.ne_of_gt hc, e1, ht, Nat.ne_of_lt e2, Nat.ne_of_gt (Nat.lt_trans la hc), Nat.ne_of_gt (Nat.lt_trans lw hc)⟩
  have htl := hz tl (by simp)
  have LR : LapR w ((I, io) :: (crows, listOf #[.bytes #[105, 110] tin] n1) :: (chn, ohn) :: (ca, instObj 806 cdx) :: (ld, oL') :: R0) L pd nl rl kl b ini r ks kc pk lb wd ca cdx pc crows tl cmem chn cop sl wl :=
    ⟨S0.sub fun p hp => .tail _ (.tail _ (.tail _ (.tail _ (.tail _ hp)))), ⟨ld, oL', .tail _ (.tail _ (.tail _ (.tail _ (.tail _ hlb)))), .tail _ (.tail _ (.tail _ (.tail _ (.head _)))), hD'⟩, .tail _ (.tail _ (.tail _ (.head _))), ⟨ohn, .tail _ (.tail _ (.head _)), q5⟩, ⟨n1, tin, .tail _ (.head _)⟩, hE'.1, fun p hp => by
      rcases List.mem_cons.mp hp with rfl | hp
      · exact low _ _ mI lI (Ne.symm (hI _ a1)) (Ne.symm (hI _ w1))
      rcases List.mem_cons.mp hp with rfl | hp
      · exact high _ (.inr (.inl rfl))
      rcases List.mem_cons.mp hp with rfl | hp
      · exact high _ (.inr (.inr rfl))
      rcases List.mem_cons.mp hp with rfl | hp
      · exact high _ (.inl rfl)
      rcases List.mem_cons.mp hp with rfl | hp
      · exact low _ _ mld lld nl3.1 nl3.2
      · exact low p.1 p.2 (mR p hp) (lR p hp) (off0 p hp).2.1 (off0 p hp).2.2, ⟨Nat.ne_of_lt lwd, Ne.symm htl.1, Nat.ne_of_lt hsl, Nat.ne_of_lt htl.2⟩⟩
  have TI : TurnI w ((I, io) :: (crows, listOf #[.bytes #[105, 110] tin] n1) :: (chn, ohn) :: (ca, instObj 806 cdx) :: (ld, oL') :: R0) ny L b ini kc pk wd cdx pc crows tl cmem chn cop sl wl 0 [] b (fun _ => none) [] [] #[] :=
    ⟨fun p hp => by
      rcases List.mem_cons.mp hp with rfl | hp
      · exact hsub _ mI
      rcases List.mem_cons.mp hp with rfl | hp
      · exact q6
      rcases List.mem_cons.mp hp with rfl | hp
      · exact q4
      rcases List.mem_cons.mp hp with rfl | hp
      · exact q1
      rcases List.mem_cons.mp hp with rfl | hp
      · exact hsub _ mld
      · exact hsub _ (mR p hp), ⟨owd, hsub _ mwd, hE'.2.1⟩, ⟨oc, q2, q3⟩, ⟨n3, sts, q8, hs3, hst⟩, fun _ _ => rfl, ⟨n2, #[], q7, rfl, fun j _ _ hj => absurd hj (Nat.not_lt_zero _)⟩, ⟨n4, q9⟩, rfl, rfl, fun j _ _ hj => absurd hj (Nat.not_lt_zero _), ⟨oa, va, hsub _ ma, a2⟩, ⟨ow, vw, hsub _ mw, w2⟩, fun k _ => ⟨fun _ => ⟨rfl, fun _ => rfl⟩, fun d hd => (nomatch hd)⟩, fun _ _ _ _ _ _ _ h => (nomatch h), fun j _ _ _ hj => absurd hj (Nat.not_lt_zero _)⟩
  refine wpP_execs_cons (lst2_ok B F3 XK T N3 hd hu hE hb LR TI ?_)
  clear F3 N3
  intro nx' kvs st X xs ts orow h4 tk4 m9'' F4 N4 TF same4
  show wpP _ _ (execs _ _) _ _ _
  obtain ⟨oc2, c1, c2⟩ := TF.cd
  obtain ⟨nv, vs, t1, t2, t3⟩ := TF.tt
  have mI2 := TF.sub _ (.head _)
  refine wpP_execs_leaf (lst3_ok B F4 XK T N4 hd hu (LR.st.sub TF.sub) hb (TF.sub _ (.tail _ (.tail _ (.tail _ (.head _))))) c1 c2 t1 t2 t3 (TF.sub _ (.tail _ (.head _))) ?_)
  clear F4 N4
  intro h5 tk5 F5 N5
  refine wpP_execs_nil ?_
  have kr : ∀ q ∈ nx', q.1 ≠ I → q ∈ restOf [(I, io)] nx' := fun q hq x => in_restR hq (List.forall_mem_cons.mpr ⟨x, fun q hq => nomatch hq⟩)
  obtain ⟨oa2, va2, a3, a4⟩ := TF.ac
  have nI1 : ld ≠ I := hI _ l1
  have nI2 : L + 1 + 1 + 1 ≠ I := hI _ a1
  have nI3 : L + 1 + 1 + 1 + 1 ≠ I := hI _ w1
  obtain ⟨ow2, vw2, w3, w4⟩ := TF.wc
  refine ⟨h5, tk5, _, nx', restOf [(I, io)] nx', rfl, F5, N5, List.forall_mem_cons.mpr ⟨mI2, fun q hq => nomatch hq⟩, fun q hq => (of_restR hq).1, fun q hq => List.forall_mem_cons.mpr ⟨(of_restR hq).2 _ (.head _), fun q hq => nomatch hq⟩, fun y hy => ?_, ⟨_, _, _, _, _, _, _, rfl⟩, ⟨fun p hp => kr _ (TF.sub _ (.tail _ (.tail _ (.tail _ (.tail _ (.tail _ hp)))))) (hI _ (LJ.sub p hp)), ⟨oL', wd, kr _ (TF.sub _ (.tail _ (.tail _ (.tail _ (.tail _ (.head _)))))) nI1, hD'⟩, ⟨oa2, va2, kr _ a3 nI2, a4⟩, ⟨ow2, vw2, kr _ w3 nI3, w4⟩⟩⟩
  have y0 : y ≠ Str.ofString "lap" := fun e => hy (e ▸ .head _)
  have y1 : y ≠ Str.ofString "caller" := fun e => hy (e ▸ .tail _ (.head _))
  have y2 : y ≠ Str.ofString "stands" := fun e => hy (e ▸ .tail _ (.tail _ (.head _)))
  have y3 : y ≠ Str.ofString "worlds" := fun e => hy (e ▸ .tail _ (.tail _ (.tail _ (.head _))))
  have y4 : y ∉ xsT := fun e => hy (.tail _ (.tail _ (.tail _ (.tail _ e))))
  rw [same4 y y4, same3 y y1 y2 y3, em1 y, if_neg y0]
  clear y0 y1 y2 y3 y4
  revert y
  exact (by intro y hy; have e0 : y ≠ Str.ofString "lap" := fun e => hy (e ▸ .head _); have e1 : y ≠ Str.ofString "caller" := fun e => hy (e ▸ .tail _ (.head _)); have e2 : y ≠ Str.ofString "stands" := fun e => hy (e ▸ .tail _ (.tail _ (.head _))); have e3 : y ≠ Str.ofString "worlds" := fun e => hy (e ▸ .tail _ (.tail _ (.tail _ (.head _)))); have e4 : y ≠ Str.ofString "turn" := fun e => hy (e ▸ .tail _ (.tail _ (.tail _ (.tail _ (.head _))))); have e5 : y ≠ Str.ofString "octet" := fun e => hy (e ▸ .tail _ (.tail _ (.tail _ (.tail _ (.tail _ (.head _)))))); have e6 : y ≠ Str.ofString "worth" := fun e => hy (e ▸ .tail _ (.tail _ (.tail _ (.tail _ (.tail _ (.tail _ (.head _))))))); simp only [e0, beq_eq_false_iff_ne.mpr e0, e1, beq_eq_false_iff_ne.mpr e1, e2, beq_eq_false_iff_ne.mpr e2, e3, beq_eq_false_iff_ne.mpr e3, e4, beq_eq_false_iff_ne.mpr e4, e5, beq_eq_false_iff_ne.mpr e5, e6, beq_eq_false_iff_ne.mpr e6, if_false, updL, List.zip, List.zipWith, List.lookup_cons, List.lookup_nil])
theorem lap_ok {w : World} {dp un : Nat} {gd : Option (List Code)} {cn : Str} {cs : Scope} {L0 L a : Addr} {ccd : Value} {cl : List (Str × Addr)} {outer : List Env} {base h₀ : Heap} {s : Shared} {Q : Flow → Shared → Prop} {E : Value → Shared → Prop}
   {loose : List Str} {mean : ExcName → Option Value} {mg mb m9 : Str → Option Value} {nx R0 lst : List (Addr × Obj)} {lb kl : Addr} {pd nl rl ld : Addr} {b : Nat → Array UInt8} {ini : Nat → Bool} {r : Nat → Addr} {ks : List Addr} {kc : List (Nat × UInt8)} {pk : List (Str × Value)} {I : Addr} {io : Obj} {i : Nat} {v : Int} {tv : Tok} {u0 u1 u2 u3 u4 u5 u6 : Option Value}
   (B : Below (ktrTop dp un gd cn cs L0 a ccd cl outer) base (envX cn cs L0 a ccd cl :: outer) h₀) (F : Fr h₀ L s.heap (updL (mL lb kl m9) (xsL.zip [u0, u1, u2, u3, u4, u5, u6]))) (XK : (K w.params).In h₀) (T : Top q loose mean mg mb h₀)
   (N : News h₀ L s.heap ((I, io) :: nx)) (hd : dp + 72 < recursionLimit) (hu : un + 700 < cLine) (hI : ∀ p ∈ nx, p.1 ≠ I) (hE : PassesOwn (model pw w) ((ktrTop dp un gd cn cs L0 a ccd cl outer).deeper (envOfC (Str.ofString "_law_right") scR L 986 (Value.ref 985))) (envOfC (Str.ofString "_law_right") scR L 986 (Value.ref 985)) E) (hb : ∀ k, k < 3 → 0 < (b k).size ∧ (b k).size ≤ 5)
   (S0 : StatR w R0 L pd nl rl kl b ini r ks kc pk) (hlb : (lb, instObj 917 ld) ∈ R0) (off0 : ∀ p ∈ R0, p.1 ≠ ld ∧ p.1 ≠ L + 1 + 1 + 1 ∧ p.1 ≠ L + 1 + 1 + 1 + 1) (nl3 : ld ≠ L + 1 + 1 + 1 ∧ ld ≠ L + 1 + 1 + 1 + 1) (LJ : LapJ w R0 L ld pd nx) :
   wpAny (model pw w) ((ktrTop dp un gd cn cs L0 a ccd cl outer).deeper (envOfC (Str.ofString "_law_right") scR L 986 (Value.ref 985))) (assign lapTgt (envOfC (Str.ofString "_law_right") scR L 986 (Value.ref 985)) (.int v tv)) (fun _ s₂ => wpP (model pw w) ((ktrTop dp un gd cn cs L0 a ccd cl outer).deeper (envOfC (Str.ofString "_law_right") scR L 986 (Value.ref 985))) (execs lapBody (envOfC (Str.ofString "_law_right") scR L 986 (Value.ref 985)))
     (TPost h₀ L s [(I, io)] (JM (mL lb kl m9) xsL (JLap w R0 L ld pd lst (i + 1))) Q) E s₂) E s := by
  exact clo (by with_unfolding_all rfl) lap_ok_m (Bag.mk w gd cs ccd cl outer bag0.ar s loose mean Q bag0.qu (lk [un, L0, L, a, lb, kl, pd, nl, rl, ld, I, i, tv] dp) (lk [] cn) (lk [h₀] base) (lk [mb, m9] mg) (lk [R0, lst] nx) (lk [] E) (lk [] v) bag0.vs bag0.ns bag0.b bag0.bool (lk [] io) bag0.avs (lk [] pk) (lk [] b) ini r (lk [] ks) kc bag0.nd bag0.u8 bag0.d (lk [u1, u2, u3, u4, u5, u6] u0)) B F XK T N hd hu hI hE hb S0 hlb off0 nl3 LJ

end
theorem flush_GM : True := by first | walk1 | exact trivial
section
open PySem PySem.W PySem.Calls PyProof.Rows PyProof.V PySem.Spec
theorem rest_ok {w : World} {dp un : Nat} {gd : Option (List Code)} {cn : Str} {cs : Scope} {L0 L a : Addr} {ccd : Value} {cl : List (Str × Addr)} {outer : List Env} {base h₀ : Heap} {s : Shared} {Q : Flow → Shared → Prop} {E : Value → Shared → Prop}
   {loose : List Str} {mean : ExcName → Option Value} {mg mb m9 : Str → Option Value} {nx R0 : List (Addr × Obj)} {lb kl : Addr} {pd nl rl ld : Addr} {b : Nat → Array UInt8} {ini : Nat → Bool} {r : Nat → Addr} {ks : List Addr} {kc : List (Nat × UInt8)} {pk : List (Str × Value)}
   (B : Below (ktrTop dp un gd cn cs L0 a ccd cl outer) base (envX cn cs L0 a ccd cl :: outer) h₀) (F : Fr h₀ L s.heap (mL lb kl m9)) (XK : (K w.params).In h₀) (T : Top q loose mean mg mb h₀)
   (N : News h₀ L s.heap nx) (hd : dp + 72 < recursionLimit) (hu : un + 700 < cLine) (hE : PassesOwn (model pw w) ((ktrTop dp un gd cn cs L0 a ccd cl outer).deeper (envOfC (Str.ofString "_law_right") scR L 986 (Value.ref 985))) (envOfC (Str.ofString "_law_right") scR L 986 (Value.ref 985)) E) (hb : ∀ k, k < 3 → 0 < (b k).size ∧ (b k).size ≤ 5)
   (S0 : StatR w R0 L pd nl rl kl b ini r ks kc pk) (hlb : (lb, instObj 917 ld) ∈ R0) (off0 : ∀ p ∈ R0, p.1 ≠ ld ∧ p.1 ≠ L + 1 + 1 + 1 ∧ p.1 ≠ L + 1 + 1 + 1 + 1) (nl3 : ld ≠ L + 1 + 1 + 1 ∧ ld ≠ L + 1 + 1 + 1 + 1) (LJ : LapJ w R0 L ld pd nx)
   (ret : ∀ h' tk' m' nx', Fr h₀ L h' m' → News h₀ L h' nx' → (∀ p ∈ R0, p ∈ nx') → Q .next {s with heap := h', toks := tk'}) :
   wpP (model pw w) ((ktrTop dp un gd cn cs L0 a ccd cl outer).deeper (envOfC (Str.ofString "_law_right") scR L 986 (Value.ref 985))) (exec (rightBody.getD 2 (.Pass default)) (envOfC (Str.ofString "_law_right") scR L 986 (Value.ref 985))) Q E s := by
  rw [lapFor_eq]
  refine For_P (env := (envOfC (Str.ofString "_law_right") scR L 986 (Value.ref 985))) F ?_ (by intro _; kernel_rfl) hE
  refine evr_ok B F XK T N hd hu fun rr t0 v0 w0 h1 tk1 hr F1 N1 => ?_
  refine iter_rangeMP (s := {s with heap := h1, toks := tk1}) (env := (envOfC (Str.ofString "_law_right") scR L 986 (Value.ref 985))) (n := 2) (m₀ := mL lb kl m9) xsL (JLap w R0 L ld pd) rfl hr (by decide) (by decide) F1 N1 ⟨⟨_, _, _, _, _, _, _, rfl⟩, LJ⟩ ?_ ?_ ?_
  · intro i v s Q E I _ h
    exact wpAny_of_eq (a := ()) (by kernel_rfl) h
  · rintro i t us nx' h tk I io hi ⟨⟨u0, u1, u2, u3, u4, u5, u6, rfl⟩, LJ'⟩ hio hI F2 N2
    exact lap_ok (s := ⟨h, s.gens, s.drawn, tk, s.os⟩) B F2 XK T N2 hd hu hI hE hb S0 hlb off0 nl3 LJ'
  · rintro us nx' h tk ⟨_, LJ'⟩ F2 N2
    exact ret h tk _ nx' F2 N2 LJ'.sub

end
theorem flush_GN : True := by first | walk1 | exact trivial
section
open PySem PySem.W PySem.Calls PyProof.Rows PyProof.V PySem.Spec
theorem arr3 {a : Array Value} {f : Nat → Value} (hs : a.size = 3) (h : ∀ k, k < 3 → a.toList[k]? = some (f k)) : a = #[f 0, f 1, f 2] := by
  obtain ⟨l⟩ := a
  exact congrArg Array.mk (list3 hs (h 0 (by decide)) (h 1 (by decide)) (h 2 (by decide)))
theorem lap0 {w : World} {g h : Heap} {Lc : Addr} {x1 x2 x3 x4 : Addr × Obj} {lb ld d D nl rl kl : Addr} {oL od Dl o4 o3 on or' : Obj} {t0 t1 t2 : Tok} {AD news : List (Addr × Obj)} {b : Nat → Array UInt8} {ini : Nat → Bool} {r : Nat → Addr} {ks : List Addr} {kc : List (Nat × UInt8)} {pk : List (Str × Value)} {wd0 : Addr} {v3 v4 : Option Value}
    (N : News g Lc h (x1 :: x2 :: x3 :: x4 :: (lb, instObj 917 ld) :: (ld, oL) :: (d, od) :: (D, Dl) :: (AD ++ (nl, listOf #[.str (nmS 0) t0, .str (nmS 1) t1, .str (nmS 2) t2] 0) :: (Lc + 1 + 1 + 1 + 1, o4) :: (Lc + 1 + 1 + 1, o3) :: (Lc + 1 + 1, on) :: (Lc + 1, or') :: news)))
    (hn0 : ∀ p ∈ AD, ∀ q ∈ (nl, listOf #[.str (nmS 0) t0, .str (nmS 1) t1, .str (nmS 2) t2] 0) :: (Lc + 1 + 1 + 1 + 1, o4) :: (Lc + 1 + 1 + 1, o3) :: (Lc + 1 + 1, on) :: (Lc + 1, or') :: news, @LT.lt Nat _ q.1 p.1)
    (hlt : ∀ q ∈ (D, Dl) :: (AD ++ (nl, listOf #[.str (nmS 0) t0, .str (nmS 1) t1, .str (nmS 2) t2] 0) :: (Lc + 1 + 1 + 1 + 1, o4) :: (Lc + 1 + 1 + 1, o3) :: (Lc + 1 + 1, on) :: (Lc + 1, or') :: news), @LT.lt Nat _ q.1 d)
    (hnl : @LT.lt Nat _ (Lc + 1 + 1 + 1 + 1) nl) (hld : @LT.lt Nat _ d ld) (hlb : @LT.lt Nat _ ld lb) (hnews : ∀ p ∈ news, @LT.lt Nat _ p.1 Lc)
    (hod : od.IsDictOf (PySem.strKind pw w) pk) (hpv : ∀ j, j < 3 → ∃ p, valueAt pk (nmS j) = some (.ref p) ∧ ProgAt w AD p (b j) (ini j)) (hDL : DLib w d wd0 oL)
    (hn : on.data = .cell (some (.ref nl))) (hr : or'.data = .cell (some (.ref rl))) (h3 : o3.data = .cell v3) (h4 : o4.data = .cell v4) (hA : ArgsAt news rl kl b ini r ks kc) :
    ∃ R0 nx, News g Lc h nx ∧ StatR w R0 Lc d nl rl kl b ini r ks kc pk ∧ (lb, instObj 917 ld) ∈ R0 ∧ (∀ p ∈ R0, p.1 ≠ ld ∧ p.1 ≠ Lc + 1 + 1 + 1 ∧ p.1 ≠ Lc + 1 + 1 + 1 + 1) ∧ (ld ≠ Lc + 1 + 1 + 1 ∧ ld ≠ Lc + 1 + 1 + 1 + 1) ∧ LapJ w R0 Lc ld d nx ∧ ∀ p ∈ news, p ∈ R0 := by
  have l4 : @LT.lt Nat _ (Lc + 1 + 1 + 1 + 1) d := hlt _ (.tail _ (List.mem_append_right _ (.tail _ (.head _))))
  have l3 : @LT.lt Nat _ (Lc + 1 + 1 + 1) d := hlt _ (.tail _ (List.mem_append_right _ (.tail _ (.tail _ (.head _)))))
  have lnl : @LT.lt Nat _ nl d := hlt _ (.tail _ (List.mem_append_right _ (.head _)))
  have l2 : @LT.lt Nat _ (Lc + 1 + 1) d := hlt _ (.tail _ (List.mem_append_right _ (.tail _ (.tail _ (.tail _ (.head _))))))
  have l1 : @LT.lt Nat _ (Lc + 1) d := hlt _ (.tail _ (List.mem_append_right _ (.tail _ (.tail _ (.tail _ (.tail _ (.head _)))))))
  have s1 : ∀ p ∈ AD ++ ((nl, listOf #[.str (nmS 0) t0, .str (nmS 1) t1, .str (nmS 2) t2] 0) :: (Lc + 1 + 1, on) :: (Lc + 1, or') :: news), p ∈ (lb, instObj 917 ld) :: (d, od) :: (AD ++ ((nl, listOf #[.str (nmS 0) t0, .str (nmS 1) t1, .str (nmS 2) t2] 0) :: (Lc + 1 + 1, on) :: (Lc + 1, or') :: news)) := fun p hp => .tail _ (.tail _ hp)
  have sn : ∀ p ∈ news, p ∈ (lb, instObj 917 ld) :: (d, od) :: (AD ++ ((nl, listOf #[.str (nmS 0) t0, .str (nmS 1) t1, .str (nmS 2) t2] 0) :: (Lc + 1 + 1, on) :: (Lc + 1, or') :: news)) := fun p hp => s1 p (List.mem_append_right _ (.tail _ (.tail _ (.tail _ hp))))
  refine ⟨(lb, instObj 917 ld) :: (d, od) :: (AD ++ ((nl, listOf #[.str (nmS 0) t0, .str (nmS 1) t1, .str (nmS 2) t2] 0) :: (Lc + 1 + 1, on) :: (Lc + 1, or') :: news)), _, N, ⟨⟨od, .tail _ (.head _), hod⟩, fun k hk => ?_, ⟨0, _, s1 _ (List.mem_append_right _ (.head _)), fun k hk => ?_⟩, ⟨on, s1 _ (List.mem_append_right _ (.tail _ (.head _))), hn⟩, ⟨or', s1 _ (List.mem_append_right _ (.tail _ (.tail _ (.head _)))), hr⟩, hA.sub sn⟩, .head _, fun p hp => ?_, ⟨Nat.ne_of_gt (Nat.lt_trans l3 hld), Nat.ne_of_gt (Nat.lt_trans l4 hld)⟩, ⟨fun p hp => ?_, ⟨oL, wd0, .tail _ (.tail _ (.tail _ (.tail _ (.tail _ (.head _))))), hDL⟩, ⟨o3, v3, ?_, h3⟩, ⟨o4, v4, ?_, h4⟩⟩, sn⟩
  · obtain ⟨p, e1, e2⟩ := hpv k hk
    exact ⟨p, e1, e2.sub fun q hq => s1 q (List.mem_append_left _ hq)⟩
  · rcases (by first | exact lt3 (by assumption) | omega : k = 0 ∨ k = 1 ∨ k = 2) with rfl | rfl | rfl
    · exact ⟨t0, rfl⟩
    · exact ⟨t1, rfl⟩
    · exact ⟨t2, rfl⟩
  · rcases List.mem_cons.mp hp with rfl | hp
    · exact ⟨Nat.ne_of_gt hlb, Nat.ne_of_gt (Nat.lt_trans l3 (Nat.lt_trans hld hlb)), Nat.ne_of_gt (Nat.lt_trans l4 (Nat.lt_trans hld hlb))⟩
    rcases List.mem_cons.mp hp with rfl | hp
    · exact ⟨Nat.ne_of_lt hld, Nat.ne_of_gt l3, Nat.ne_of_gt l4⟩
    rcases List.mem_append.mp hp with hp | hp
    · have a4 : @LT.lt Nat _ (Lc + 1 + 1 + 1 + 1) p.1 := hn0 p hp _ (.tail _ (.head _))
      have a3 : @LT.lt Nat _ (Lc + 1 + 1 + 1) p.1 := hn0 p hp _ (.tail _ (.tail _ (.head _)))
      exact ⟨Nat.ne_of_lt (Nat.lt_trans (hlt p (.tail _ (List.mem_append_left _ hp))) hld), Nat.ne_of_gt a3, Nat.ne_of_gt a4⟩
    rcases List.mem_cons.mp hp with rfl | hp
    · exact ⟨Nat.ne_of_lt (Nat.lt_trans lnl hld), Nat.ne_of_gt (Nat.lt_trans (Nat.lt_succ_self _) hnl), Nat.ne_of_gt hnl⟩
    rcases List.mem_cons.mp hp with rfl | hp
    · exact ⟨Nat.ne_of_lt (Nat.lt_trans l2 hld), Nat.ne_of_lt (Nat.lt_succ_self _), Nat.ne_of_lt (Nat.lt_trans (Nat.lt_succ_self _) (Nat.lt_succ_self _))⟩
    rcases List.mem_cons.mp hp with rfl | hp
    · exact ⟨Nat.ne_of_lt (Nat.lt_trans l1 hld), Nat.ne_of_lt (Nat.lt_trans (Nat.lt_succ_self _) (Nat.lt_succ_self _)), Nat.ne_of_lt (Nat.lt_trans (Nat.lt_succ_self _) (Nat.lt_trans (Nat.lt_succ_self _) (Nat.lt_succ_self _)))⟩
    · have := hnews p hp
      have e : @LT.lt Nat _ Lc (Lc + 1 + 1 + 1) := Nat.lt_trans (Nat.lt_succ_self _) (Nat.lt_trans (Nat.lt_succ_self _) (Nat.lt_succ_self _))
      exact ⟨Nat.ne_of_lt (Nat.lt_trans this (Nat.lt_trans e (Nat.lt_trans l3 hld))), Nat.ne_of_lt (Nat.lt_trans this e), Nat.ne_of_lt (Nat.lt_trans this (Nat.lt_trans e (Nat.lt_succ_self _)))⟩
  · rcases List.mem_cons.mp hp with rfl | hp
    · exact .tail _ (.tail _ (.tail _ (.tail _ (.head _))))
    rcases List.mem_cons.mp hp with rfl | hp
    · exact .tail _ (.tail _ (.tail _ (.tail _ (.tail _ (.tail _ (.head _))))))
    refine .tail _ (.tail _ (.tail _ (.tail _ (.tail _ (.tail _ (.tail _ (.tail _ ?_)))))))
    rcases List.mem_append.mp hp with hp | hp
    · exact List.mem_append_left _ hp
    refine List.mem_append_right _ ?_
    rcases List.mem_cons.mp hp with rfl | hp
    · exact .head _
    · exact .tail _ (.tail _ (.tail _ hp))
  · exact .tail _ (.tail _ (.tail _ (.tail _ (.tail _ (.tail _ (.tail _ (.tail _ (List.mem_append_right _ (.tail _ (.tail _ (.head _)))))))))))
  · exact .tail _ (.tail _ (.tail _ (.tail _ (.tail _ (.tail _ (.tail _ (.tail _ (List.mem_append_right _ (.tail _ (.head _))))))))))

end
theorem flush_E1 : True := by first | walk1 | exact trivial
section
open PySem PySem.W PySem.Calls PyProof.Rows PyProof.V PySem.Spec
noncomputable def right_ok_P (w : World) (dp : Nat) (un : Nat) (gd : Option (List Code)) (cn : Str) (cs : Scope) (L : Addr) (a : Addr) (ccd : Value) (cl : List (Str × Addr)) (outer : List Env) (A₀ : Around) (base : Heap) (h₀ : Heap) (m : Str → Option Value) (s : Shared) (Q : Value → Shared → Prop) (E : Value → Shared → Prop) (loose : List Str) (mean : ExcName → Option Value) (mg : Str → Option Value) (mb : Str → Option Value) (news : List (Addr × Obj)) (rl : Addr) (kl : Addr) (r : Nat → Addr) (b : Nat → Array UInt8) (ini : Nat → Bool) (ks : List Addr) (kc : List (Nat × UInt8)) : Prop := ∀ (B : Below A₀ base outer h₀) (F : Fr h₀ L s.heap m) (X : (K w.params).In h₀) (T : Top q loose mean mg mb h₀) (hk : cs.kind = .function) (N : News h₀ L s.heap news) (hd : dp + 80 < recursionLimit) (hu : un + 800 < cLine) (hA : ArgsAt news rl kl b ini r ks kc) (hbz : ∀ k, k < 3 → 0 < (b k).size ∧ (b k).size ≤ 5) (ret : ∀ h' tk', Fr h₀ L h' m → News h₀ L h' news → Q (.bool true) {s with heap := h', toks := tk'}), wpP (model pw w) (ktrTop dp un gd cn cs L a ccd cl outer) (call (.ref 986) [.ref rl, .ref kl]) Q E s
noncomputable def right_ok_S (c : Bag) : Prop := right_ok_P c.w (c.n 0) (c.n 1) c.gd (c.str 0) c.cs (c.n 2) (c.n 3) c.v c.cl c.outer c.ar (c.heap 0) (c.heap 1) (c.m 0) c.s (c.q 0) (c.q 1) c.loose c.mean (c.m 1) (c.m 2) (c.news 0) (c.n 4) (c.n 5) c.nn (c.nb 0) c.nbool (c.l 0) c.kc
@[irreducible] noncomputable def right_ok_c : Bag := pick right_ok_S
theorem right_ok_m : right_ok_S right_ok_c := by
  refine (?zz9 : ∀ (w : World) (dp : Nat) (un : Nat) (gd : Option (List Code)) (cn : Str) (cs : Scope) (L : Addr) (a : Addr) (ccd : Value) (cl : List (Str × Addr)) (outer : List Env) (A₀ : Around) (base : Heap) (h₀ : Heap) (m : Str → Option Value) (s : Shared) (Q : Value → Shared → Prop) (E : Value → Shared → Prop) (loose : List Str) (mean : ExcName → Option Value) (mg : Str → Option Value) (mb : Str → Option Value) (news : List (Addr × Obj)) (rl : Addr) (kl : Addr) (r : Nat → Addr) (b : Nat → Array UInt8) (ini : Nat → Bool) (ks : List Addr) (kc : List (Nat × UInt8)), right_ok_P w dp un gd cn cs L a ccd cl outer A₀ base h₀ m s Q E loose mean mg mb news rl kl r b ini ks kc) right_ok_c.w (right_ok_c.n 0) (right_ok_c.n 1) right_ok_c.gd (right_ok_c.str 0) right_ok_c.cs (right_ok_c.n 2) (right_ok_c.n 3) right_ok_c.v right_ok_c.cl right_ok_c.outer right_ok_c.ar (right_ok_c.heap 0) (right_ok_c.heap 1) (right_ok_c.m 0) right_ok_c.s (right_ok_c.q 0) (right_ok_c.q 1) right_ok_c.loose right_ok_c.mean (right_ok_c.m 1) (right_ok_c.m 2) (right_ok_c.news 0) (right_ok_c.n 4) (right_ok_c.n 5) right_ok_c.nn (right_ok_c.nb 0) right_ok_c.nbool (right_ok_c.l 0) right_ok_c.kc
  intro w dp un gd cn cs L a ccd cl outer A₀ base h₀ m s Q E loose mean mg mb news rl kl r b ini ks kc B F X T hk N hd hu hA hbz ret
  obtain ⟨nr, rws, ra1, ra2, ra3⟩ := hA.rs
  have hr : (rl, listOf #[.ref (r 0), .ref (r 1), .ref (r 2)] nr) ∈ news := by
    rw [arr3 (f := fun k => .ref (r k)) ra2 ra3] at ra1
    exact ra1
  refine wpP_call ?_
  (k_dflt (refine' codeP_defC ?k1 ?k2 ?k3 ?k4 ?k5 ?kA ?kF ?kK ?k6 ?k7 ?k8 ?k9 ?kB ?kD ?_ ?c2 ?c3 ?c4; (case kA => exact rfl); (case kF => exact rfl); (case kK => first | exact rfl | assumption); (case k1 => k_asm); (case k2 => k_asm); (case k3 => k_asm); (case k4 => k_asm); (case k5 => k_asm); (case k6 => k_is); (case k7 => k_is); (case k8 => first | exact r1 (by assumption) rfl | exact r2 (by assumption) rfl | exact r3 (by assumption) rfl | exact r0 (by assumption) | k_room); (case k9 => first | exact BindsTo.of_eq rfl | exact binds_K (by k_in) rfl (by k_is) rfl rfl rfl); (case kB => exact rfl); (case kD => decide +kernel); (case c2 => exact rfl); (case c3 => exact rfl); (case c4 => exact rfl); k_whole; intro g1 L1 h1 tk1 cells1 FG1 F1 N1 Y1 B1 X1 T1 l1; (try k_lt l1); k_cells Y1; (try simp only [List.cons_append, List.nil_append] at N1); (try dsimp only); (try k_fold)))
  refine wpP_execs_leaf ?_
  k_fold
  k_steps
  rename L1 + 1 + 1 + 1 + 1 < _ ∧ _ => lnl
  refine wpP_execs_leaf ?_
  k_fold
  k_steps
  unfold Hold
  k_dflt (refine LCg.ListComp_U (F₀ := by k_asm) (by with_unfolding_all rfl) (by decide) (by rfl) (by decide) (by rfl) ?_)
  k_steps
  unfold Hold
  k_dflt (refine LCg.CompSrc.range (n := 3) (by rfl) (by k_asm) (by k_asm) (by assumption) (by first | decide | rfl) (by first | rfl | decide) (by rw [sizeLine_eq]; omega) ?_)
  intro g'
  with_unfolding_all refine' rest_JN (JA w b ini) ?_ ?_ ?_
  · exact ⟨[], rfl, fun p hp => absurd hp (List.not_mem_nil), rfl, fun j hj => absurd hj (Nat.not_lt_zero _)⟩
  · rintro i ys nx v I oI C oC D m₂ h tk E' hi ⟨AD, rfl, hn0, hl, hK⟩ ⟨tv, rfl⟩ hC hx F N off ne
    have G := jsub hn0
    have c1 := G _ (.tail _ (.tail _ (.tail _ (.head _))))
    have c2 := G _ (.tail _ (.tail _ (.tail _ (.tail _ (.head _)))))
    have c3 := G _ (.head _)
    obtain ⟨tbi, rki⟩ := hA.rk i hi
    have c4 := G _ (.tail _ (.tail _ (.tail _ (.tail _ (.tail _ hr)))))
    have c5 := G _ (.tail _ (.tail _ (.tail _ (.tail _ (.tail _ rki)))))
    have hb5 := (hbz i hi).2
    rcases (by first | exact lt3 (by assumption) | omega : i = 0 ∨ i = 1 ∨ i = 2) with rfl | rfl | rfl
    all_goals ((repeat' (first | (k_unfold; (try dsimp only)) | (k_end; wrow_close) | ((with_reducible show wpAny _ _ (call (Value.ref 981) [Value.str _ _, Value.bytes _ _, Value.bool _]) _ _ _); k_dflt (refine' program_ok ?Bq66 ?Fq66 ?Xq66 ?Tq66 ?hkq66 ?Nq66 ?hdq66 ?huq66 ?hbq66 ?_; (case Bq66 => k_asm); (case Fq66 => k_asm); (case Xq66 => k_asm); (case Tq66 => k_asm); (case hkq66 => first | rfl | assumption); (case Nq66 => k_asm); (case hdq66 => first | exact r1 (by assumption) rfl | exact r2 (by assumption) rfl | exact r3 (by assumption) rfl | exact r0 (by assumption) | ktr_room); (case huq66 => first | exact r1 (by assumption) rfl | exact r2 (by assumption) rfl | exact r3 (by assumption) rfl | exact r0 (by assumption) | k_units); (case hbq66 => assumption); k_whole); intro pz9 addz9 hz9 tkz9 Fz9 Nz9 Pz9 l1) | ((with_reducible show wpAny _ _ (subscriptTail _ _ (Value.ref _) (Value.int _ _)) _ _ _); k_dflt (first | (refine' item_tupK ?Fq33 ?Xq33 ?eq33 ?aq33 ?bq33 ?cq33 ?dq33 ?_; (case Fq33 => k_asm); (case Xq33 => k_asm); (case eq33 => k_is); (case aq33 => decide); (case bq33 => decide); (case cq33 => rfl); (case dq33 => rfl); k_whole) | (refine' item_tup ?Nq33 ?mq33 ?aq33 ?bq33 ?cq33 ?dq33 ?_; (case Nq33 => k_asm); (case mq33 => k_mem); (case aq33 => decide); (case bq33 => decide); (case cq33 => rfl); (case dq33 => rfl); k_whole) | (refine' item_made ?Nq33 ?mq33 ?aq33 ?bq33 ?dq33 ?_; (case Nq33 => k_asm); (case mq33 => k_mem); (case aq33 => first | decide | omega); (case bq33 => first | decide | omega); (case dq33 => first | rfl | with_reducible assumption); k_whole))) | walk1 | (dsimp only; walk1) | (leave1; walk_say "STEP leave1"; (try dsimp only)) | fail "no step")); rename Fr _ _ _ _ => lF; rename News _ _ _ _ => lN; exact prog_turn lF lN (by assumption) (by assumption) (by assumption) off hn0 hl hK rfl)
  · rintro ys nx hJ
    unfold LCg.FinE
    intro D h9 tk9 F9 N9 o9
    dsimp only
    k_steps
    k_dflt (refine' progs_dict F9 N9 (Nat.lt_of_le_of_lt (by decide : sysModules ≤ 986) (Heap.lt_size (X1 986 _ (by k_is)))) rfl hJ ?_; k_whole)
    clear o9 hJ F9 N9
    intro d od pk AD h8 tk8 hnx hn0 F8 N8 hod hlt8 hpv
    subst hnx
    k_steps
    rename d < _ ∧ D < _ ∧ AllLt _ _ => lld
    rename Fr _ _ _ _ => lF
    rename News _ _ _ _ => lN
    obtain ⟨R0, nx, N5, S0, hlb, off0, nl3, LJ, sn⟩ := lap0 (r := r) (ks := ks) (kc := kc) lN hn0 hlt8 lnl.1 lld.1 (by assumption) l1 hod hpv ⟨_, _, _, _, _, _, _, _, _, _, _, rfl⟩ (by assumption) (by assumption) (by assumption) (by assumption) hA
    obtain ⟨F6, em⟩ := fr_mL (kl := kl) lF rfl rfl
    clear lF lN
    refine wpP_execs_cons (rest_ok B1 F6 X1 T1 N5 (by omega) (by omega) (by passes_own) hbz S0 hlb off0 nl3 LJ ?_)
    clear F6 N5
    intro h7 tk7 m7 nx7 F7 N7 hR7
    show wpP _ _ (execs _ _) _ _ _
    refine wpP_execs_leaf ?_
    k_fold
    k_steps
    rename Fr _ _ _ _ => lF
    rename News _ _ _ _ => lN
    trace_state
    exact ret _ _ lF (fun p hp => lN p (hR7 p (sn p hp)))
theorem right_ok {w : World} {dp un : Nat} {gd : Option (List Code)} {cn : Str} {cs : Scope} {L a : Addr} {ccd : Value} {cl : List (Str × Addr)} {outer : List Env} {A₀ : Around} {base h₀ : Heap} {m : Str → Option Value} {s : Shared} {Q E : Value → Shared → Prop}
   {loose : List Str} {mean : ExcName → Option Value} {mg mb : Str → Option Value} {news : List (Addr × Obj)} {rl kl : Addr} {r : Nat → Addr} {b : Nat → Array UInt8} {ini : Nat → Bool} {ks : List Addr} {kc : List (Nat × UInt8)}
   (B : Below A₀ base outer h₀) (F : Fr h₀ L s.heap m) (X : (K w.params).In h₀) (T : Top q loose mean mg mb h₀) (hk : cs.kind = .function) (N : News h₀ L s.heap news) (hd : dp + 80 < recursionLimit) (hu : un + 800 < cLine) (hA : ArgsAt news rl kl b ini r ks kc) (hbz : ∀ k, k < 3 → 0 < (b k).size ∧ (b k).size ≤ 5)
   (ret : ∀ h' tk', Fr h₀ L h' m → News h₀ L h' news → Q (.bool true) {s with heap := h', toks := tk'}) :
   wpP (model pw w) (ktrTop dp un gd cn cs L a ccd cl outer) (call (.ref 986) [.ref rl, .ref kl]) Q E s := by
  exact clo (by with_unfolding_all rfl) right_ok_m (Bag.mk w gd cs ccd cl outer A₀ s loose mean bag0.qf bag0.qu (lk [un, L, a, rl, kl] dp) (lk [] cn) (lk [h₀] base) (lk [mg, mb] m) (lk [] news) (lk [E] Q) bag0.i bag0.vs bag0.ns bag0.b bag0.bool bag0.o bag0.avs bag0.kvs (lk [] b) ini r (lk [] ks) kc bag0.nd bag0.u8 bag0.d bag0.ov) B F X T hk N hd hu hA hbz ret

end
theorem flush_T2 : True := by first | walk1 | exact trivial
section
open PySem PySem.W PySem.Calls PyProof.Rows PyProof.V PySem.Spec
section
variable {prog : Program} {w : World} {A : Around} {s : Shared} {K : Frag} {R : Result → Shared → Prop} {name qual : Str} {params : Arguments} {body : List Stmt} {scope : Scope} {dV kV doc pm cdv ct oc : Value} {an od : Option Addr} {osl : Array (Option Value)} {f : Addr} {args : Args} {binds : List (Str × Value)}
/-- a def with cells, entered from the caller's own frame -/
theorem codeP_top (X₀ : K.In s.heap) (hnl : s.heap.NoLimit)
    (ho : K.lookup f = some ⟨oc, od, .func (fnOf name qual params body scope dV kV doc pm an cdv ct), osl⟩) (hcd : codeIn K cdv qual = true) (hroom : A.depth < recursionLimit)
    (hbind : BindsTo s (fnOf name qual params body scope dV kV doc pm an cdv ct) args binds) (hkind : (binds.all fun y => scope.names.lookup y.1 == some .local || scope.names.lookup y.1 == some .cell) = true)
    (hnd : ((cellsFrom 0 scope.names []).map (·.1)).Nodup)
    (h : ∀ L' h₁ tk cells, Fr s.heap L' h₁ (bindL (envOfC qual scope L' f cdv).kindOf binds fun _ => none) → News s.heap L' h₁ cells →
      CellsAre (bindC (envOfC qual scope L' f cdv).kindOf binds fun _ => none) (cellsFrom (L' + 1) scope.names []) cells →
      wpP (model prog w) (A.deeper (envOfC qual scope L' f cdv)) (execs body (envOfC qual scope L' f cdv))
        (fun fl s' => R (.ok (.ret (match fl with | .ret v => v | _ => .none))) s')
        (fun e s' => wpAny (model prog w) (A.deeper (envOfC qual scope L' f cdv)) (leaving (envOfC qual scope L' f cdv) e) (fun _ s'' => R (.error e) s'') (fun e' s'' => R (.error e') s'') s')
        { s with heap := h₁, toks := tk })
    (hco : scope.isCoroutine = false) (hgen : scope.isGenerator = false) (hk : scope.kind = .function) : codeP (model prog w) A (.call (.ref f) args) R s := by
  refine codeP_call_function hroom (X₀ _ _ ho) rfl hco hgen rfl (codeRec_of X₀ hcd) (hbind _ _ _ _ ?_)
  refine wpAny_newFunctionEnv_cells hk (kindsX hkind _) fun env' he s' x => ?_
  subst he
  refine ⟨hnl.keeps x.toInCall.keep, codeP_func ?_⟩
  obtain ⟨h₁, tk, rfl, _⟩ := x.done
  obtain ⟨cells, NC, Y⟩ := Cl.news (h₀ := s.heap) (Nat.le_refl _) fun n c hm => ⟨x.cell n c (lookup_of_mem_nodup (cellsFrom_names scope.names 0 (s.heap.objs.size + 1) [] [] rfl ▸ hnd) hm), x.above n c hm⟩
  exact h s.heap.objs.size h₁ tk cells ⟨x.toInCall.ns, x.toInCall.keep, Nat.le_refl _⟩ (fun p hp => ⟨(NC p hp).1, (NC p hp).2.1, (NC p hp).2.2⟩) Y
end
theorem star_list {elts : List PySem.Expr} {pos : Pos} {rest : List PySem.Expr} {env : Env} : starEach (.List elts pos :: rest) env = (false, eval (.List elts pos) env) :: starEach rest env := rfl
theorem star_name {x : Str} {pos : Pos} {rest : List PySem.Expr} {env : Env} : starEach (.Name x pos :: rest) env = (false, eval (.Name x pos) env) :: starEach rest env := rfl
theorem plain_list {elts : List PySem.Expr} {pos p : Pos} {env : Env} : (backTo p (starEach [.List elts pos] env)).any (·.1) = false := rfl
theorem plain_lc {elt : PySem.Expr} {gs : List Comprehension} {sc : Scope} {pos p : Pos} {env : Env} : (backTo p (starEach [.ListComp elt gs sc pos] env)).any (·.1) = false := rfl
theorem draw_ab {w : World} {dp un : Nat} {gd : Option (List Code)} {cn : Str} {cs : Scope} {L a : Addr} {ccd : Value} {cl : List (Str × Addr)} {outer : List Env} {A₀ : Around} {base h₀ : Heap} {m : Str → Option Value} {nx : List (Addr × Obj)} {s : Shared} {Q E : Value → Shared → Prop}
   {loose : List Str} {mean : ExcName → Option Value} {mg mb : Str → Option Value} {pn cc : Addr} {x y k : Int} {tx ty tk : Tok} {n : Nat} {oc : Obj}
   (B : Below A₀ base outer h₀) (F : Fr h₀ L s.heap m) (X : (K w.params).In h₀) (T : Top q loose mean mg mb h₀) (hk : cs.kind = .function) (N : News h₀ L s.heap nx) (hd : dp + 8 < recursionLimit) (hu : un + 64 < cLine)
   (hm : (pn, listOf #[.int x tx, .int y ty] n) ∈ nx) (hc : (cc, oc) ∈ nx) (hcp : oc.data = .cell (some (.ref pn))) (hx : 0 ≤ x ∧ x < big) (hy : 0 ≤ y ∧ y < 1000) (hk0 : 0 < k) (hk1 : k < 100)
   (ret : ∀ nx' x' y' d t1 t2 t3 n' h' tk', Fr h₀ L h' m → News h₀ L h' nx' → (pn, listOf #[.int x' t1, .int y' t2] n') ∈ nx' → (cc, oc) ∈ nx' → (∀ q ∈ nx, q.1 ≠ pn → q ∈ nx') → (∀ q ∈ nx', q.1 = pn ∨ q ∈ nx) → (0 ≤ x' ∧ x' < big) → 0 ≤ y' → y' ≤ y + 1 → 0 ≤ d → d < k → Q (.int d t3) {s with heap := h', toks := tk'}) :
   wpAny (model pw w) (ktrTop dp un gd cn cs L a ccd cl outer) (call (.ref 974) [.ref pn, .int k tk]) Q E s := by
  have ncc : cc ≠ pn := ne_data N hc hm (by rw [hcp]; exact fun h => nomatch h)
  refine draw_ok B F X (News.front N hm) T hk hd hu (fun p hp => (of_but hp).2) hx.1 hx.2 hy.1 hy.2 hk0 hk1 fun x' y' d t1 t2 t3 n' h' tk' F' N' a1 a2 a3 a4 a5 a6 => ?_
  refine ret (swap pn _ nx) x' y' d t1 t2 t3 n' h' tk' F' N' swap_new (swap_keep hc ncc) (fun q h1 h2 => swap_keep h1 h2) (fun q hq => ?_) ⟨a1, a2⟩ a3 a4 a5 a6
  rcases swap_of hq with rfl | ⟨h1, _⟩
  · exact .inl rfl
  · exact .inr h1

end
theorem flush_T4 : True := by first | walk1 | exact trivial
section
open PySem PySem.W PySem.Calls PyProof.Rows PyProof.V PySem.Spec
/-- the drawn calls of a ledger -/
inductive CallsAt (nx : List (Addr × Obj)) : List Addr → List (Nat × UInt8) → Prop
  | nil : CallsAt nx [] []
  | cons {a k c t t'} {as : List Addr} {ks : List (Nat × UInt8)} : k < 3 → (a, tupOf #[.int ((k : Nat) : Int) t, .int ((UInt8.toNat c : Nat) : Int) t']) ∈ nx → CallsAt nx as ks → CallsAt nx (a :: as) ((k, c) :: ks)
theorem CallsAt.len {nx : List (Addr × Obj)} {as : List Addr} {ks : List (Nat × UInt8)} (h : CallsAt nx as ks) : as.length = ks.length := by
  induction h with
  | nil => rfl
  | cons _ _ _ ih => rw [List.length_cons, List.length_cons, ih]
theorem CallsAt.get {nx : List (Addr × Obj)} {as : List Addr} {ks : List (Nat × UInt8)} (h : CallsAt nx as ks) : ∀ (i k : Nat) (c : UInt8), ks[i]? = some (k, c) → k < 3 ∧ ∃ a t t', as[i]? = some a ∧ (a, tupOf #[.int ((k : Nat) : Int) t, .int ((UInt8.toNat c : Nat) : Int) t']) ∈ nx := by
  induction h with
  | nil => intro i k c e; exact nomatch e
  | cons h1 h2 _ ih =>
    intro i k c e
    cases i with
    | zero =>
      obtain ⟨rfl, rfl⟩ : _ = k ∧ _ = c := by
        have := Option.some.inj e
        exact ⟨congrArg Prod.fst this, congrArg Prod.snd this⟩
      exact ⟨h1, _, _, _, rfl, h2⟩
    | succ i => exact ih i k c e
theorem CallsAt.sub {nx nx' : List (Addr × Obj)} {as : List Addr} {ks : List (Nat × UInt8)} (h : CallsAt nx as ks) (k : ∀ p ∈ nx, p.1 ∈ as → p ∈ nx') : CallsAt nx' as ks := by
  induction h with
  | nil => exact .nil
  | cons h1 h2 _ ih => exact .cons h1 (k _ h2 (.head _)) (ih fun p hp hm => k p hp (.tail _ hm))
theorem fixedArgs {h₀ h : Heap} {L : Addr} {rest : List (Addr × Obj)} {rl kl a0 a1 a2 c0 c1 c2 c3 c4 c5 c6 : Addr} {n1 n2 : Nat} {t0 t1 t2 u0 u1 u2 u3 u4 u5 u6 v0 v1 v2 v3 v4 v5 v6 : Tok}
    (_N : News h₀ L h ((kl, listOf #[.ref c0, .ref c1, .ref c2, .ref c3, .ref c4, .ref c5, .ref c6] n1) :: (c6, tupOf #[.int 2 u6, .int 71 v6]) :: (c5, tupOf #[.int 0 u5, .int 70 v5]) :: (c4, tupOf #[.int 2 u4, .int 69 v4]) :: (c3, tupOf #[.int 1 u3, .int 68 v3]) :: (c2, tupOf #[.int 0 u2, .int 67 v2]) :: (c1, tupOf #[.int 1 u1, .int 66 v1]) :: (c0, tupOf #[.int 0 u0, .int 65 v0]) ::
      (rl, listOf #[.ref a0, .ref a1, .ref a2] n2) :: (a2, tupOf #[.bytes #[102] t2, .bool true]) :: (a1, tupOf #[.bytes #[99, 100, 101] t1, .bool false]) :: (a0, tupOf #[.bytes #[97, 98] t0, .bool true]) :: rest)) :
    ∃ r b ini ks kc, ArgsAt ((kl, listOf #[.ref c0, .ref c1, .ref c2, .ref c3, .ref c4, .ref c5, .ref c6] n1) :: (c6, tupOf #[.int 2 u6, .int 71 v6]) :: (c5, tupOf #[.int 0 u5, .int 70 v5]) :: (c4, tupOf #[.int 2 u4, .int 69 v4]) :: (c3, tupOf #[.int 1 u3, .int 68 v3]) :: (c2, tupOf #[.int 0 u2, .int 67 v2]) :: (c1, tupOf #[.int 1 u1, .int 66 v1]) :: (c0, tupOf #[.int 0 u0, .int 65 v0]) ::
      (rl, listOf #[.ref a0, .ref a1, .ref a2] n2) :: (a2, tupOf #[.bytes #[102] t2, .bool true]) :: (a1, tupOf #[.bytes #[99, 100, 101] t1, .bool false]) :: (a0, tupOf #[.bytes #[97, 98] t0, .bool true]) :: rest) rl kl b ini r ks kc ∧ ∀ k, k < 3 → 0 < (b k).size ∧ (b k).size ≤ 5 := by
  have key : CallsAt ((kl, listOf #[.ref c0, .ref c1, .ref c2, .ref c3, .ref c4, .ref c5, .ref c6] n1) :: (c6, tupOf #[.int 2 u6, .int 71 v6]) :: (c5, tupOf #[.int 0 u5, .int 70 v5]) :: (c4, tupOf #[.int 2 u4, .int 69 v4]) :: (c3, tupOf #[.int 1 u3, .int 68 v3]) :: (c2, tupOf #[.int 0 u2, .int 67 v2]) :: (c1, tupOf #[.int 1 u1, .int 66 v1]) :: (c0, tupOf #[.int 0 u0, .int 65 v0]) ::
      (rl, listOf #[.ref a0, .ref a1, .ref a2] n2) :: (a2, tupOf #[.bytes #[102] t2, .bool true]) :: (a1, tupOf #[.bytes #[99, 100, 101] t1, .bool false]) :: (a0, tupOf #[.bytes #[97, 98] t0, .bool true]) :: rest) [c0, c1, c2, c3, c4, c5, c6] [(0, 65), (1, 66), (0, 67), (1, 68), (2, 69), (0, 70), (2, 71)] := by
    refine .cons (t := u0) (t' := v0) (by decide) ?_ (.cons (t := u1) (t' := v1) (by decide) ?_ (.cons (t := u2) (t' := v2) (by decide) ?_ (.cons (t := u3) (t' := v3) (by decide) ?_ (.cons (t := u4) (t' := v4) (by decide) ?_ (.cons (t := u5) (t' := v5) (by decide) ?_ (.cons (t := u6) (t' := v6) (by decide) ?_ .nil))))))
    · exact .tail _ (.tail _ (.tail _ (.tail _ (.tail _ (.tail _ (.tail _ (.head _)))))))
    · exact .tail _ (.tail _ (.tail _ (.tail _ (.tail _ (.tail _ (.head _))))))
    · exact .tail _ (.tail _ (.tail _ (.tail _ (.tail _ (.head _)))))
    · exact .tail _ (.tail _ (.tail _ (.tail _ (.head _))))
    · exact .tail _ (.tail _ (.tail _ (.head _)))
    · exact .tail _ (.tail _ (.head _))
    · exact .tail _ (.head _)
  refine ⟨fun k => if k = 0 then a0 else if k = 1 then a1 else a2, fun k => if k = 0 then #[97, 98] else if k = 1 then #[99, 100, 101] else #[102], fun k => decide (k ≠ 1), [c0, c1, c2, c3, c4, c5, c6], [(0, 65), (1, 66), (0, 67), (1, 68), (2, 69), (0, 70), (2, 71)], ⟨⟨n2, _, .tail _ (.tail _ (.tail _ (.tail _ (.tail _ (.tail _ (.tail _ (.tail _ (.head _)))))))), rfl, fun k hk => ?_⟩, fun k hk => ?_, ⟨n1, .head _⟩, key.get, key.len, by decide⟩, fun k hk => ?_⟩
  · rcases (by first | exact lt3 (by assumption) | omega : k = 0 ∨ k = 1 ∨ k = 2) with rfl | rfl | rfl <;> rfl
  · rcases (by first | exact lt3 (by assumption) | omega : k = 0 ∨ k = 1 ∨ k = 2) with rfl | rfl | rfl
    · exact ⟨t0, .tail _ (.tail _ (.tail _ (.tail _ (.tail _ (.tail _ (.tail _ (.tail _ (.tail _ (.tail _ (.tail _ (.head _)))))))))))⟩
    · exact ⟨t1, .tail _ (.tail _ (.tail _ (.tail _ (.tail _ (.tail _ (.tail _ (.tail _ (.tail _ (.tail _ (.head _))))))))))⟩
    · exact ⟨t2, .tail _ (.tail _ (.tail _ (.tail _ (.tail _ (.tail _ (.tail _ (.tail _ (.tail _ (.head _)))))))))⟩
  · rcases (by first | exact lt3 (by assumption) | omega : k = 0 ∨ k = 1 ∨ k = 2) with rfl | rfl | rfl <;> decide
noncomputable def scL : Scope := match stAt 147 with
  | .FunctionDef _ _ _ _ _ _ scope _ _ _ => scope
  | _ => default
noncomputable def lawBody : List Stmt := match stAt 147 with
  | .FunctionDef _ _ body _ _ _ _ _ _ _ => body
  | _ => []
theorem bnd1 {i j n : Nat} (hi : i < 3) (hj : j < n) (hn : n ≤ 5) : (30 : Int) + 7 * (i : Nat) + 1 + (j : Nat) < 1000 := by omega
theorem bnd2 {i n : Nat} (hi : i < 3) (hn : n ≤ 5) : (30 : Int) + 7 * (i : Nat) + 1 + (n : Nat) < 1000 := by omega
theorem bnd3 {i n : Nat} (hn : n ≤ 5) : (30 : Int) + 7 * (i : Nat) + 1 + (n : Nat) + 1 ≤ 30 + 7 * ((i + 1 : Nat)) := by omega
theorem bnd4 {i j : Nat} : (30 : Int) + 7 * (i : Nat) + 1 + (j : Nat) + 1 ≤ 30 + 7 * (i : Nat) + 1 + ((j + 1 : Nat) : Int) := by omega
theorem bnd5 {d : Int} (h0 : 0 ≤ d) (h1 : d < 26) : 0 ≤ 97 + d ∧ 97 + d < 256 := by omega
/-- the pen in a ledger -/
noncomputable def PenS (pn cc : Addr) (oc : Obj) (Y : Int) (nx : List (Addr × Obj)) : Prop :=
  (∃ x y tx ty n, (pn, listOf #[.int x tx, .int y ty] n) ∈ nx ∧ (0 ≤ x ∧ x < big) ∧ 0 ≤ y ∧ y ≤ Y) ∧ (cc, oc) ∈ nx
/-- the rows that are drawn, whole -/
structure RowsAt (nx : List (Addr × Obj)) (rl : Addr) (r : Nat → Addr) (b : Nat → Array UInt8) (ini : Nat → Bool) : Prop where
  rs : ∃ n rws, (rl, listOf rws n) ∈ nx ∧ rws.size = 3 ∧ ∀ k, k < 3 → rws.toList[k]? = some (.ref (r k))
  rk : ∀ k, k < 3 → ∃ tb, (r k, tupOf #[.bytes (b k) tb, .bool (ini k)]) ∈ nx
  bz : ∀ k, k < 3 → 0 < (b k).size ∧ (b k).size ≤ 5
theorem PenS.up {pn cc : Addr} {oc : Obj} {Y : Int} {nx nx' : List (Addr × Obj)} (P : PenS pn cc oc Y nx) (k : ∀ q ∈ nx, q ∈ nx') : PenS pn cc oc Y nx' := by
  obtain ⟨⟨x, y, tx, ty, n, a, b, c, d⟩, e⟩ := P
  exact ⟨⟨x, y, tx, ty, n, k _ a, b, c, d⟩, k _ e⟩
theorem PenS.le {pn cc : Addr} {oc : Obj} {Y Y' : Int} {nx : List (Addr × Obj)} (P : PenS pn cc oc Y nx) (k : Y ≤ Y') : PenS pn cc oc Y' nx := by
  obtain ⟨⟨x, y, tx, ty, n, a, b, c, d⟩, e⟩ := P
  exact ⟨⟨x, y, tx, ty, n, a, b, c, Int.le_trans d k⟩, e⟩
/-- a ledger behind a draw -/
structure Drawn (pn cc : Addr) (oc : Obj) (Y k : Int) (nx nx' : List (Addr × Obj)) (d : Int) : Prop where
  pen : PenS pn cc oc (Y + 1) nx'
  keep : ∀ q ∈ nx, q.1 ≠ pn → q ∈ nx'
  of : ∀ q ∈ nx', q.1 = pn ∨ q ∈ nx
  d0 : 0 ≤ d
  d1 : d < k
theorem Drawn.cm {pn cc : Addr} {oc : Obj} {Y k : Int} {nx nx' : List (Addr × Obj)} {d : Int} (x : Drawn pn cc oc Y k nx nx' d) : (cc, oc) ∈ nx' := x.pen.2
theorem draw_ps {w : World} {dp un : Nat} {gd : Option (List Code)} {cn : Str} {cs : Scope} {L a : Addr} {ccd : Value} {cl : List (Str × Addr)} {outer : List Env} {A₀ : Around} {base h₀ : Heap} {m : Str → Option Value} {nx : List (Addr × Obj)} {s : Shared} {Q E : Value → Shared → Prop}
   {loose : List Str} {mean : ExcName → Option Value} {mg mb : Str → Option Value} {pn cc : Addr} {Y k : Int} {tk : Tok} {oc : Obj}
   (B : Below A₀ base outer h₀) (F : Fr h₀ L s.heap m) (X : (K w.params).In h₀) (T : Top q loose mean mg mb h₀) (hk : cs.kind = .function) (N : News h₀ L s.heap nx) (hd : dp + 8 < recursionLimit) (hu : un + 64 < cLine)
   (hp : PenS pn cc oc Y nx) (hcp : oc.data = .cell (some (.ref pn))) (hY : Y < 1000) (hk0 : 0 < k) (hk1 : k < 100)
   (ret : ∀ nx' d t3 h' tk', Fr h₀ L h' m → News h₀ L h' nx' → Drawn pn cc oc Y k nx nx' d → Q (.int d t3) {s with heap := h', toks := tk'}) :
   wpAny (model pw w) (ktrTop dp un gd cn cs L a ccd cl outer) (call (.ref 974) [.ref pn, .int k tk]) Q E s := by
  obtain ⟨⟨x, y, tx, ty, n, e1, e2, e3, e4⟩, e5⟩ := hp
  refine draw_ab B F X T hk N hd hu e1 e5 hcp e2 ⟨e3, by omega⟩ hk0 hk1 fun nx' x' y' d t1 t2 t3 n' h' tk' F' N' a1 a2 a3 a4 a5 a6 a7 a8 a9 => ?_
  exact ret nx' d t3 h' tk' F' N' ⟨⟨⟨x', y', t1, t2, n', a1, a5, a6, by omega⟩, a2⟩, a3, a4, a8, a9⟩
theorem pack2 {h₀ h : Heap} {L cc pn : Addr} {oc : Obj} {x y : Int} {tx ty : Tok} {n : Nat} {all : List (Addr × Obj)} (_hcp : oc.data = .cell (some (.ref pn))) (N : News h₀ L h all) (m1 : (cc, oc) ∈ all) (m2 : (pn, listOf #[.int x tx, .int y ty] n) ∈ all) (h1 : 0 ≤ x) (h2 : x < big) (h3 : 0 ≤ y) (h4 : y ≤ 30) :
    ∃ pn oc nx, oc.data = .cell (some (.ref pn)) ∧ News h₀ L h nx ∧ PenS pn cc oc 30 nx := ⟨pn, oc, all, _hcp, N, ⟨x, y, tx, ty, n, m2, ⟨h1, h2⟩, h3, h4⟩, m1⟩
/-- the rows that are drawn -/
noncomputable def JR (pn cc : Addr) (oc : Obj) (_ld : List (Addr × Obj)) (i : Nat) (ys : List Value) (nx : List (Addr × Obj)) : Prop :=
  PenS pn cc oc (30 + 7 * i) nx ∧ ys.length = i ∧ ∀ j, j < i → ∃ t b tb ini, ys[j]? = some (.ref t) ∧ (t, tupOf #[.bytes b tb, .bool ini]) ∈ nx ∧ 0 < b.size ∧ b.size ≤ 5
/-- the octets that are drawn -/
noncomputable def JI (pn cc : Addr) (oc : Obj) (Y : Int) (ld : List (Addr × Obj)) (i : Nat) (ys : List Value) (nx : List (Addr × Obj)) : Prop :=
  PenS pn cc oc (Y + i) nx ∧ (∀ q ∈ ld, q.1 ≠ pn → q ∈ nx) ∧ ∃ ns, IntsAre ys ns ∧ ys.length = i ∧ ∀ n ∈ ns, 0 ≤ n ∧ n < 256
theorem JI.zero {pn cc : Addr} {oc : Obj} {Y : Int} {ld : List (Addr × Obj)} (P : PenS pn cc oc Y ld) : JI pn cc oc Y ld 0 [] ld :=
  ⟨P.le (by omega), fun _ h _ => h, [], .nil, rfl, fun n hn => nomatch hn⟩
theorem penEnd {I C D pn cc : Addr} {oI oC oD oc : Obj} {Y Y' : Int} {nx nf : List (Addr × Obj)} (P : PenS pn cc oc Y nx) (off : LCg.Off3 I C D nx) (keep : ∀ q ∈ (I, oI) :: (C, oC) :: (D, oD) :: nx, q.1 ≠ pn → q ∈ nf) (P' : PenS pn cc oc Y' nf) :
    ∃ nz, (∀ p ∈ (I, oI) :: (C, oC) :: (D, oD) :: nz, p ∈ nf) ∧ LCg.Off3 I C D nz ∧ PenS pn cc oc Y' nz ∧ (∀ q ∈ nx, q.1 ≠ pn → q ∈ nz) ∧ ∀ q ∈ nf, q.1 ≠ I → q.1 ≠ C → q.1 ≠ D → q ∈ nz := by
  have out : ∀ q ∈ nf, q.1 ≠ I → q.1 ≠ C → q.1 ≠ D → q ∈ restOf [(I, oI), (C, oC), (D, oD)] nf := fun q hq a b c => in_restR hq (List.forall_mem_cons.mpr ⟨a, List.forall_mem_cons.mpr ⟨b, List.forall_mem_cons.mpr ⟨c, fun q hq => nomatch hq⟩⟩⟩)
  obtain ⟨⟨x0, y0, tx0, ty0, n0, p0, _⟩, c0⟩ := P
  obtain ⟨⟨x, y, tx, ty, n, e1, e2, e3, e4⟩, e5⟩ := P'
  obtain ⟨a1, a2, a3⟩ := off.mem _ p0
  obtain ⟨b1, b2, b3⟩ := off.mem _ c0
  refine ⟨restOf [(I, oI), (C, oC), (D, oD)] nf, fun p hp => ?_, LCg.Off3.of fun q hq => ⟨(of_restR hq).2 _ (.head _), (of_restR hq).2 _ (.tail _ (.head _)), (of_restR hq).2 _ (.tail _ (.tail _ (.head _)))⟩, ⟨⟨x, y, tx, ty, n, out _ e1 a1 a2 a3, e2, e3, e4⟩, out _ e5 b1 b2 b3⟩, fun q hq hne => out _ (keep q (.tail _ (.tail _ (.tail _ hq))) hne) (off.mem q hq).1 (off.mem q hq).2.1 (off.mem q hq).2.2, out⟩
  rcases List.mem_cons.mp hp with rfl | hp
  · exact keep _ (.head _) (Ne.symm a1)
  rcases List.mem_cons.mp hp with rfl | hp
  · exact keep _ (.tail _ (.head _)) (Ne.symm a2)
  rcases List.mem_cons.mp hp with rfl | hp
  · exact keep _ (.tail _ (.tail _ (.head _))) (Ne.symm a3)
  · exact (of_restR hp).1
theorem pen_ne {h₀ h : Heap} {L pn cc : Addr} {oc : Obj} {Y : Int} {a b c : Addr × Obj} {nx : List (Addr × Obj)} (N : News h₀ L h (a :: b :: c :: nx)) (P : PenS pn cc oc Y nx) : ∀ (t : Addr) (vs : Array Value), (t, tupOf vs) ∈ nx → t ≠ pn := fun t vs ht => by
  obtain ⟨⟨x, y, tx, ty, n, pm, _⟩, _⟩ := P
  exact ne_cls (fun p hp => N p (.tail _ (.tail _ (.tail _ hp)))) ht pm (by simp)
theorem row_end {h₀ h' : Heap} {L : Addr} {m : Str → Option Value} {s₁ : Shared} {I C D t pn cc : Addr} {oI oC oc : Obj} {ys : List Value} {nx nf ld : List (Addr × Obj)} {i tk : Nat} {Y' : Int} {b : Array UInt8} {tb : Tok} {v : Bool}
    (F : Fr h₀ L h' m) (N : News h₀ L h' ((t, tupOf #[.bytes b tb, .bool v]) :: nf)) (lt : ∀ p ∈ nf, @LT.lt Nat _ p.1 t) (P : PenS pn cc oc (30 + 7 * (i : Nat)) nx) (off : LCg.Off3 I C D nx) (keep : ∀ q ∈ (I, oI) :: (C, oC) :: (D, LCg.lst ys) :: nx, q.1 ≠ pn → q ∈ nf) (P' : PenS pn cc oc Y' nf) (hY : Y' ≤ 30 + 7 * ((i + 1 : Nat) : Int))
    (hl : ys.length = i) (hK : ∀ j, j < i → ∃ t b tb ini, ys[j]? = some (.ref t) ∧ (t, tupOf #[.bytes b tb, .bool ini]) ∈ nx ∧ 0 < b.size ∧ b.size ≤ 5) (ne : ∀ (t : Addr) (vs : Array Value), (t, tupOf vs) ∈ nx → t ≠ pn) (hb : 0 < b.size ∧ b.size ≤ 5) :
    LCg.CompEnd h₀ L m s₁ I oI C oC D (LCg.lst ys) (fun _ => True) (fun y nx' => JR pn cc oc ld (i + 1) (ys ++ [y]) nx') (.ref t) { s₁ with heap := h', toks := tk } := by
  have P0 := P
  obtain ⟨⟨x0, y0, tx0, ty0, n0, p0, _⟩, c0⟩ := P0
  obtain ⟨a1, a2, a3⟩ := off.mem _ p0
  have lI : @LT.lt Nat _ I t := lt _ (keep _ (.head _) (Ne.symm a1))
  have lC : @LT.lt Nat _ C t := lt _ (keep _ (.tail _ (.head _)) (Ne.symm a2))
  have lD : @LT.lt Nat _ D t := lt _ (keep _ (.tail _ (.tail _ (.head _))) (Ne.symm a3))
  obtain ⟨nz, z1, z2, z3, z4, z5⟩ := penEnd (nf := (t, tupOf #[.bytes b tb, .bool v]) :: nf) P off (fun q hq hne => .tail _ (keep q hq hne)) (P'.up fun q hq => .tail _ hq)
  refine LCg.CompEnd.intro F N nz z1 z2 trivial ⟨z3.le hY, by rw [List.length_append, hl]; rfl, fun j hj => ?_⟩
  by_cases hji : j < i
  · obtain ⟨t', b', tb', ini', e1, e2, e3⟩ := hK j hji
    refine ⟨t', b', tb', ini', ?_, z4 _ e2 (ne _ _ e2), e3⟩
    rw [List.getElem?_append_left (by rw [hl]; exact hji)]
    exact e1
  · obtain rfl : j = i := by omega
    refine ⟨t, b, tb, v, ?_, z5 _ (.head _) (Nat.ne_of_gt lI) (Nat.ne_of_gt lC) (Nat.ne_of_gt lD), hb⟩
    rw [List.getElem?_append_right (by rw [hl]; exact Nat.le_refl _), hl, Nat.sub_self]
    rfl
theorem rows_of {pn cc : Addr} {oc : Obj} {ld nx : List (Addr × Obj)} {D : Addr} {ys : List Value} (h : JR pn cc oc ld 3 ys nx) : ∃ r b ini, RowsAt ((D, LCg.lst ys) :: nx) D r b ini := by
  obtain ⟨_, hl, hK⟩ := h
  obtain ⟨t0, b0, u0, i0, x0, y0, z0⟩ := hK 0 (by decide)
  obtain ⟨t1, b1, u1, i1, x1, y1, z1⟩ := hK 1 (by decide)
  obtain ⟨t2, b2, u2, i2, x2, y2, z2⟩ := hK 2 (by decide)
  refine ⟨fun k => if k = 0 then t0 else if k = 1 then t1 else t2, fun k => if k = 0 then b0 else if k = 1 then b1 else b2, fun k => if k = 0 then i0 else if k = 1 then i1 else i2, ⟨ys.length, ys.toArray, .head _, by rw [List.size_toArray, hl], fun k hk => ?_⟩, fun k hk => ?_, fun k hk => ?_⟩
  · rcases (by first | exact lt3 (by assumption) | omega : k = 0 ∨ k = 1 ∨ k = 2) with rfl | rfl | rfl
    · exact x0
    · exact x1
    · exact x2
  · rcases (by first | exact lt3 (by assumption) | omega : k = 0 ∨ k = 1 ∨ k = 2) with rfl | rfl | rfl
    · exact ⟨u0, .tail _ y0⟩
    · exact ⟨u1, .tail _ y1⟩
    · exact ⟨u2, .tail _ y2⟩
  · rcases (by first | exact lt3 (by assumption) | omega : k = 0 ∨ k = 1 ∨ k = 2) with rfl | rfl | rfl
    · exact z0
    · exact z1
    · exact z2
theorem num_small : ∀ n : Nat, n < 10 → Builtin.Range.small 0 (n : Int) 1 = true ∧ Builtin.Range.rangeSize 0 (n : Int) 1 = (n : Int) := by decide
theorem Drawn.num {pn cc : Addr} {oc : Obj} {Y : Int} {nx nx' : List (Addr × Obj)} {d : Int} (x : Drawn pn cc oc Y 5 nx nx' d) : ∃ n : Nat, 1 + d = (n : Int) ∧ 1 ≤ n ∧ n ≤ 5 ∧ Builtin.Range.small 0 (n : Int) 1 = true ∧ Builtin.Range.rangeSize 0 (n : Int) 1 = (n : Int) := by
  obtain ⟨n, rfl, hn⟩ := nat_of (b := 5) x.d0 x.d1
  exact ⟨n + 1, Int.add_comm 1 _, Nat.succ_le_succ (Nat.zero_le n), hn, num_small _ (Nat.lt_of_le_of_lt hn (by decide))⟩
theorem Drawn.num10 {pn cc : Addr} {oc : Obj} {Y : Int} {nx nx' : List (Addr × Obj)} {d : Int} (x : Drawn pn cc oc Y 10 nx nx' d) : ∃ n : Nat, d = (n : Int) ∧ n ≤ 9 ∧ Builtin.Range.small 0 (n : Int) 1 = true ∧ Builtin.Range.rangeSize 0 (n : Int) 1 = (n : Int) := by
  obtain ⟨n, rfl, hn⟩ := nat_of (b := 10) x.d0 x.d1
  exact ⟨n, rfl, Nat.le_of_lt_succ hn, num_small _ hn⟩
theorem bnd6 {j n : Nat} (hj : j < n) (hn : n ≤ 9) : (60 : Int) + 1 + 2 * (j : Nat) < 1000 ∧ (60 : Int) + 1 + 2 * (j : Nat) + 1 < 1000 := by omega
theorem bnd7 {j : Nat} : (60 : Int) + 1 + 2 * (j : Nat) + 1 + 1 ≤ 60 + 1 + 2 * ((j + 1 : Nat) : Int) := by omega
/-- the calls that are drawn -/
noncomputable def JC (pn cc : Addr) (oc : Obj) (ld : List (Addr × Obj)) (i : Nat) (ys : List Value) (nx : List (Addr × Obj)) : Prop :=
  PenS pn cc oc (60 + 1 + 2 * (i : Nat)) nx ∧ (∀ q ∈ ld, q.1 ≠ pn → q ∈ nx) ∧ ∃ as kc, ys = as.map Value.ref ∧ as.length = i ∧ CallsAt nx as kc
theorem CallsAt.mem {nx : List (Addr × Obj)} {as : List Addr} {ks : List (Nat × UInt8)} (h : CallsAt nx as ks) : ∀ a ∈ as, ∃ vs, (a, tupOf vs) ∈ nx := by
  induction h with
  | nil => exact fun a ha => nomatch ha
  | cons h1 h2 _ ih =>
    intro a ha
    rcases List.mem_cons.mp ha with rfl | ha
    · exact ⟨_, h2⟩
    · exact ih a ha
theorem CallsAt.snoc {nx : List (Addr × Obj)} {as : List Addr} {ks : List (Nat × UInt8)} (h : CallsAt nx as ks) {a : Addr} {k : Nat} {c : UInt8} {t t' : Tok} (hk : k < 3) (hm : (a, tupOf #[.int ((k : Nat) : Int) t, .int ((UInt8.toNat c : Nat) : Int) t']) ∈ nx) : CallsAt nx (as ++ [a]) (ks ++ [(k, c)]) := by
  induction h with
  | nil => exact .cons hk hm .nil
  | cons h1 h2 _ ih => exact .cons h1 h2 ih
theorem call_end {h₀ h' : Heap} {L : Addr} {m : Str → Option Value} {s₁ : Shared} {I C D t pn cc : Addr} {oI oC oc : Obj} {ys : List Value} {nx nf ld : List (Addr × Obj)} {i tk : Nat} {Y' d e : Int} {td te : Tok}
    (F : Fr h₀ L h' m) (N : News h₀ L h' ((t, tupOf #[.int d td, .int (65 + e) te]) :: nf)) (lt : ∀ p ∈ nf, @LT.lt Nat _ p.1 t) (hJ : JC pn cc oc ld i ys nx) (off : LCg.Off3 I C D nx) (keep : ∀ q ∈ (I, oI) :: (C, oC) :: (D, LCg.lst ys) :: nx, q.1 ≠ pn → q ∈ nf) (P' : PenS pn cc oc Y' nf) (hY : Y' ≤ 60 + 1 + 2 * ((i + 1 : Nat) : Int))
    (ne : ∀ (t : Addr) (vs : Array Value), (t, tupOf vs) ∈ nx → t ≠ pn) (d0 : 0 ≤ d) (d1 : d < 3) (e0 : 0 ≤ e) (e1 : e < 26) :
    LCg.CompEnd h₀ L m s₁ I oI C oC D (LCg.lst ys) (fun _ => True) (fun y nx' => JC pn cc oc ld (i + 1) (ys ++ [y]) nx') (.ref t) { s₁ with heap := h', toks := tk } := by
  obtain ⟨P, kp, as, kc, rfl, hl, hC⟩ := hJ
  have P0 := P
  obtain ⟨⟨x0, y0, tx0, ty0, n0, p0, _⟩, c0⟩ := P0
  obtain ⟨a1, a2, a3⟩ := off.mem _ p0
  have lI : @LT.lt Nat _ I t := lt _ (keep _ (.head _) (Ne.symm a1))
  have lC : @LT.lt Nat _ C t := lt _ (keep _ (.tail _ (.head _)) (Ne.symm a2))
  have lD : @LT.lt Nat _ D t := lt _ (keep _ (.tail _ (.tail _ (.head _))) (Ne.symm a3))
  obtain ⟨nz, z1, z2, z3, z4, z5⟩ := penEnd (nf := (t, tupOf #[.int d td, .int (65 + e) te]) :: nf) P off (fun q hq hne => .tail _ (keep q hq hne)) (P'.up fun q hq => .tail _ hq)
  have hd : d = ((d.toNat : Nat) : Int) := by omega
  have he : (65 + e) = ((UInt8.toNat ((65 + e).toNat.toUInt8) : Nat) : Int) := (byte_back (by omega) (by omega)).symm
  refine LCg.CompEnd.intro F N nz z1 z2 trivial ⟨z3.le hY, fun q hq hne => z4 q (kp q hq hne) hne, as ++ [t], kc ++ [(d.toNat, (65 + e).toNat.toUInt8)], by simp, by rw [List.length_append, hl]; rfl, (hC.sub fun q hq hm => z4 q hq ?_).snoc (t := td) (t' := te) (by omega) ?_⟩
  · obtain ⟨vs, hv⟩ := hC.mem _ hm
    exact ne _ _ hv
  · rw [← hd, ← he]
    exact z5 _ (.head _) (Nat.ne_of_gt lI) (Nat.ne_of_gt lC) (Nat.ne_of_gt lD)
theorem RowsAt.keep {h₀ h : Heap} {L pn cc : Addr} {oc : Obj} {Y : Int} {nx nx' : List (Addr × Obj)} {rl : Addr} {r : Nat → Addr} {b : Nat → Array UInt8} {ini : Nat → Bool} (R : RowsAt nx rl r b ini) (N : News h₀ L h nx) (P : PenS pn cc oc Y nx) (k : ∀ q ∈ nx, q.1 ≠ pn → q ∈ nx') : RowsAt nx' rl r b ini := by
  obtain ⟨⟨n, rws, a1, a2, a3⟩, b1, b2⟩ := R
  obtain ⟨⟨x, y, tx, ty, n0, pm, _⟩, _⟩ := P
  refine ⟨⟨n, rws, k _ a1 (ne_data N a1 pm fun e => ?_), a2, a3⟩, fun j hj => ?_, b2⟩
  · have e' : rws = #[.int x tx, .int y ty] := by injection e
    rw [e'] at a2
    exact absurd a2 (by simp)
  · obtain ⟨tb, hb⟩ := b1 j hj
    exact ⟨tb, k _ hb (ne_cls N hb pm (by simp))⟩
theorem args_of {nx : List (Addr × Obj)} {rl D : Addr} {r : Nat → Addr} {b : Nat → Array UInt8} {ini : Nat → Bool} {as : List Addr} {kc : List (Nat × UInt8)} (R : RowsAt nx rl r b ini) (hC : CallsAt nx as kc) (h9 : as.length ≤ 9) : ArgsAt ((D, LCg.lst (as.map Value.ref)) :: nx) rl D b ini r as kc := by
  obtain ⟨⟨n, rws, a1, a2, a3⟩, b1, b2⟩ := R
  have hC' := hC.sub (nx' := (D, LCg.lst (as.map Value.ref)) :: nx) fun p hp _ => .tail _ hp
  exact ⟨⟨n, rws, .tail _ a1, a2, a3⟩, fun k hk => (b1 k hk).imp fun _ h => .tail _ h, ⟨_, .head _⟩, hC'.get, hC'.len, by rw [← hC'.len]; exact h9⟩
section
variable {prog : Program} {w : World} {A : Around} {E : Value → Shared → Prop} {s : Shared} {h₀ : Heap} {L : Addr} {m : Str → Option Value} {news : List (Addr × Obj)}
theorem bytes_lst {l : Addr} {ys : List Value} {ns : List Int} {Q : Value → Shared → Prop} (F : Fr h₀ L s.heap m) (N : News h₀ L s.heap news) (hm : (l, LCg.lst ys) ∈ news) (hi : IntsAre ys ns) (hb : ∀ n ∈ ns, 0 ≤ n ∧ n < 256) (hz : ys.length ≤ 100) (hh : A.handled = none)
    (h : ∀ (b : Array UInt8) h' t k, b.size = ys.length → Fr h₀ L h' m → News h₀ L h' news → Q (.bytes b t) { s with heap := h', toks := k }) : wpAny (model prog w) A (call (.type "bytes") [.ref l]) Q E s :=
  bytes_K (vs := ys) F N ⟨_, (N _ hm).1, rfl, _, rfl⟩ hi hb (by rw [sizeLine_eq]; omega) hh fun h' t k F' N' _ => h _ h' t k (by simp [hi.length]) F' N'
end

end
section
local macro_rules | `(tactic| walk_at "call ref") => `(tactic| (k_here; (with_reducible show wpAny _ _ (call (Value.ref 974) [Value.ref _, Value.int _ _]) _ _ _); refine hold_of ?_))
theorem flush_T5 : True := by first | walk1 | exact trivial
section
open PySem PySem.W PySem.Calls PyProof.Rows PyProof.V PySem.Spec
noncomputable def rows_ok_P (w : World) (h₀ : Heap) (L : Addr) (s : Shared) (m : Str → Option Value) (Q : Flow → Shared → Prop) (E : Value → Shared → Prop) (loose : List Str) (mean : ExcName → Option Value) (mg : Str → Option Value) (mb : Str → Option Value) (nx : List (Addr × Obj)) (pn : Addr) (oc : Obj) : Prop := ∀ (K0 : Below callerA h₀ [] h₀) (F : Fr h₀ L s.heap m) (X : (K w.params).In h₀) (T : Top q loose mean mg mb h₀) (N : News h₀ L s.heap nx) (hcp : oc.data = .cell (some (.ref pn))) (P0 : PenS pn (L + 1) oc 30 nx) (ret : ∀ rl r b ini nx' h' tk', Fr h₀ L h' (fun y => if y = Str.ofString "rows" then some (.ref rl) else m y) → News h₀ L h' nx' → RowsAt nx' rl r b ini → PenS pn (L + 1) oc 60 nx' → Q .next {s with heap := h', toks := tk'}), wpAny (model pw w) (callerA.deeper (envOfC (Str.ofString "law") scL L 991 (Value.ref 990))) (exec (lawBody.getD 2 (.Pass default)) (envOfC (Str.ofString "law") scL L 991 (Value.ref 990))) Q E s
noncomputable def rows_ok_S (c : Bag) : Prop := rows_ok_P c.w (c.heap 0) (c.n 0) c.s (c.m 0) c.qf (c.q 0) c.loose c.mean (c.m 1) (c.m 2) (c.news 0) (c.n 1) (c.o 0)
@[irreducible] noncomputable def rows_ok_c : Bag := pick rows_ok_S
theorem rows_ok_m : rows_ok_S rows_ok_c := by
  refine (?zz9 : ∀ (w : World) (h₀ : Heap) (L : Addr) (s : Shared) (m : Str → Option Value) (Q : Flow → Shared → Prop) (E : Value → Shared → Prop) (loose : List Str) (mean : ExcName → Option Value) (mg : Str → Option Value) (mb : Str → Option Value) (nx : List (Addr × Obj)) (pn : Addr) (oc : Obj), rows_ok_P w h₀ L s m Q E loose mean mg mb nx pn oc) rows_ok_c.w (rows_ok_c.heap 0) (rows_ok_c.n 0) rows_ok_c.s (rows_ok_c.m 0) rows_ok_c.qf (rows_ok_c.q 0) rows_ok_c.loose rows_ok_c.mean (rows_ok_c.m 1) (rows_ok_c.m 2) (rows_ok_c.news 0) (rows_ok_c.n 1) (rows_ok_c.o 0)
  intro w h₀ L s m Q E loose mean mg mb nx pn oc K0 F X T N hcp P0 ret
  conv => pattern (occs := *) scL <;> whnf
  conv => pattern (occs := *) (List.getD lawBody _ _) <;> whnf
  show wpAny _ _ _ _ _ _
  (try k_fold)
  k_steps
  unfold Hold
  k_dflt (refine LCg.Assign_ListComp_U (F₀ := by k_asm) (by rfl) (by with_unfolding_all rfl) (by with_unfolding_all rfl) (by decide) (by rfl) (by decide) (by rfl) (by rfl) (by rfl) ?_)
  k_steps
  unfold Hold
  k_dflt (refine LCg.CompSrc.range (n := 3) (by rfl) (by k_asm) (by k_asm) (by assumption) (by first | decide | rfl) (by first | rfl | decide) (by rw [sizeLine_eq]; omega) ?_)
  intro g'
  with_unfolding_all refine' rest_JN (JR pn (L + 1) oc) ?_ ?_ ?_
  · exact ⟨P0, rfl, fun j hj => absurd hj (Nat.not_lt_zero _)⟩
  · rintro i ys nx v I oI C oC D m₂ h tk E' hi ⟨P1, hl, hK⟩ ⟨tv, rfl⟩ hC hx F N off ne
    have P2 := P1.up (nx' := (I, oI) :: (C, oC) :: (D, LCg.lst ys) :: nx) (fun q hq => .tail _ (.tail _ (.tail _ hq)))
    have cm := P1.2
    have hpne := pen_ne N P1
    k_steps
    unfold Hold
    k_dflt (refine LCg.ListComp_U (F₀ := by k_asm) (by with_unfolding_all rfl) (by decide) (by rfl) (by decide) (by rfl) ?_)
    (repeat' (first | (k_unfold; (try dsimp only)) | (k_end; wrow_close) | ((with_reducible show wpAny _ _ (call (Value.ref 974) [Value.ref _, Value.int _ _]) _ _ _); k_dflt (refine' draw_ps ?Bq69 ?Fq69 ?Xq69 ?Tq69 ?hkq69 ?Nq69 ?hdq69 ?huq69 ?hpq69 ?hcpq69 ?hYq69 ?hk0q69 ?hk1q69 ?_; (case Bq69 => k_asm); (case Fq69 => k_asm); (case Xq69 => k_asm); (case Tq69 => k_asm); (case hkq69 => first | rfl | assumption); (case Nq69 => k_asm); (case hdq69 => first | exact r1 (by assumption) rfl | exact r2 (by assumption) rfl | exact r3 (by assumption) rfl | exact r0 (by assumption) | ktr_room); (case huq69 => first | exact r1 (by assumption) rfl | exact r2 (by assumption) rfl | exact r3 (by assumption) rfl | exact r0 (by assumption) | k_units); (case hpq69 => with_reducible assumption); (case hcpq69 => with_reducible assumption); (case hYq69 => first | with_reducible assumption | omega); (case hk0q69 => decide); (case hk1q69 => decide); k_whole); intro nxz9 dz9 t3z9 hz9 tkz9 Fz9 Nz9 Dz9; have pXz9 := Drawn.pen Dz9; have cXz9 := Drawn.cm Dz9; have e0z9 := Drawn.d0 Dz9; have e1z9 := Drawn.d1 Dz9) | walk1 | (dsimp only; walk1) | (leave1; walk_say "STEP leave1"; (try dsimp only)) | fail "no step"))
    rename Drawn _ _ _ _ _ _ _ _ => D1
    rename IsRange _ _ 0 (1 + _) 1 _ _ _ => rg
    obtain ⟨n, en, n1, n5, hsm, hrs⟩ := D1.num
    rw [en] at rg
    unfold Hold
    k_dflt (refine LCg.CompSrc.range (n := n) (by rfl) (by k_asm) (by k_asm) rg hsm hrs (by rw [sizeLine_eq]; omega) ?_)
    intro g2
    with_unfolding_all refine' rest_JN (JI pn (L + 1) oc (30 + 7 * i + 1)) ?_ ?_ ?_
    · exact JI.zero D1.pen
    · rintro j ys' nx' v I2 oI2 C2 oC2 D2 m₃ h₃ tk₃ E'' hj ⟨P3, kp3, ns, hI3, hl3, hb3⟩ ⟨tv2, rfl⟩ hC2 hx2 F3 N3 off3 ne3
      have P4 := P3.up (nx' := (I2, oI2) :: (C2, oC2) :: (D2, LCg.lst ys') :: nx') (fun q hq => .tail _ (.tail _ (.tail _ hq)))
      have cm3 := P3.2
      have hY9 := bnd1 hi hj n5
      (repeat' (first | (k_unfold; (try dsimp only)) | (k_end; wrow_close) | ((with_reducible show wpAny _ _ (call (Value.ref 974) [Value.ref _, Value.int _ _]) _ _ _); k_dflt (refine' draw_ps ?Bq69 ?Fq69 ?Xq69 ?Tq69 ?hkq69 ?Nq69 ?hdq69 ?huq69 ?hpq69 ?hcpq69 ?hYq69 ?hk0q69 ?hk1q69 ?_; (case Bq69 => k_asm); (case Fq69 => k_asm); (case Xq69 => k_asm); (case Tq69 => k_asm); (case hkq69 => first | rfl | assumption); (case Nq69 => k_asm); (case hdq69 => first | exact r1 (by assumption) rfl | exact r2 (by assumption) rfl | exact r3 (by assumption) rfl | exact r0 (by assumption) | ktr_room); (case huq69 => first | exact r1 (by assumption) rfl | exact r2 (by assumption) rfl | exact r3 (by assumption) rfl | exact r0 (by assumption) | k_units); (case hpq69 => with_reducible assumption); (case hcpq69 => with_reducible assumption); (case hYq69 => first | with_reducible assumption | omega); (case hk0q69 => decide); (case hk1q69 => decide); k_whole); intro nxz9 dz9 t3z9 hz9 tkz9 Fz9 Nz9 Dz9; have pXz9 := Drawn.pen Dz9; have cXz9 := Drawn.cm Dz9; have e0z9 := Drawn.d0 Dz9; have e1z9 := Drawn.d1 Dz9) | walk1 | (dsimp only; walk1) | (leave1; walk_say "STEP leave1"; (try dsimp only)) | fail "no step"))
      rename Drawn _ _ _ _ _ _ _ _ => D3
      rename Fr _ _ _ _ => lF
      rename News _ _ _ _ => lN
      obtain ⟨nz, z1, z2, z3, z4, z5⟩ := penEnd P3 off3 D3.keep D3.pen
      refine LCg.CompEnd.intro lF lN nz z1 z2 trivial ⟨z3.le bnd4, fun q hq hne => z4 q (kp3 q hq hne) hne, ns ++ [97 + _], ints_snoc hI3 _ _, by rw [List.length_append, hl3]; rfl, fun n hn => ?_⟩
      rcases List.mem_append.mp hn with hn | hn
      · exact hb3 n hn
      · rw [List.mem_singleton.mp hn]
        exact bnd5 D3.d0 D3.d1
    · rintro ys' nx' ⟨P3, kp3, ns, hI3, hl3, hb3⟩
      unfold LCg.FinE
      intro D2 h4 tk4 F4 N4 o4
      dsimp only
      have P5 := P3.up (nx' := (D2, LCg.lst ys') :: nx') (fun q hq => .tail _ hq)
      have cm5 := P3.2
      have hY8 := bnd2 hi n5
      (repeat' (first | (k_unfold; (try dsimp only)) | (k_end; wrow_close) | ((with_reducible show wpAny _ _ (call (Value.type "bytes") [Value.ref _]) _ _ _); (k_dflt (refine' bytes_lst ?Fq70 ?Nq70 ?mq70 ?iq70 ?bq70 ?zq70 ?hq70 ?_; (case Fq70 => k_asm); (case Nq70 => k_asm); (case mq70 => k_mem); (case iq70 => assumption); (case bq70 => assumption); (case zq70 => omega); (case hq70 => rfl); k_whole)); intro bz9 hz9 tz9 kz9 ezz9 Fz9 Nz9) | ((with_reducible show wpAny _ _ (call (Value.ref 974) [Value.ref _, Value.int _ _]) _ _ _); k_dflt (refine' draw_ps ?Bq69 ?Fq69 ?Xq69 ?Tq69 ?hkq69 ?Nq69 ?hdq69 ?huq69 ?hpq69 ?hcpq69 ?hYq69 ?hk0q69 ?hk1q69 ?_; (case Bq69 => k_asm); (case Fq69 => k_asm); (case Xq69 => k_asm); (case Tq69 => k_asm); (case hkq69 => first | rfl | assumption); (case Nq69 => k_asm); (case hdq69 => first | exact r1 (by assumption) rfl | exact r2 (by assumption) rfl | exact r3 (by assumption) rfl | exact r0 (by assumption) | ktr_room); (case huq69 => first | exact r1 (by assumption) rfl | exact r2 (by assumption) rfl | exact r3 (by assumption) rfl | exact r0 (by assumption) | k_units); (case hpq69 => with_reducible assumption); (case hcpq69 => with_reducible assumption); (case hYq69 => first | with_reducible assumption | omega); (case hk0q69 => decide); (case hk1q69 => decide); k_whole); intro nxz9 dz9 t3z9 hz9 tkz9 Fz9 Nz9 Dz9; have pXz9 := Drawn.pen Dz9; have cXz9 := Drawn.cm Dz9; have e0z9 := Drawn.d0 Dz9; have e1z9 := Drawn.d1 Dz9) | walk1 | (dsimp only; walk1) | (leave1; walk_say "STEP leave1"; (try dsimp only)) | fail "no step"))
      rename Drawn _ _ _ _ _ _ _ _ => D3
      rename Fr _ _ _ _ => lF
      rename News _ _ _ _ => lN
      rename Array.size _ = _ => hz
      exact row_end lF lN (by assumption) P1 off (fun q hq hne => D3.keep q (.tail _ (kp3 q (D1.keep q hq hne) hne)) hne) D3.pen (bnd3 n5) hl hK hpne (by rw [hz, hl3]; exact ⟨n1, n5⟩)
  · rintro ys nx' hJ
    unfold LCg.FinA
    intro D h4 tk4 F4 N4 o4
    obtain ⟨r, b, ini, hR⟩ := rows_of (D := D) hJ
    exact ret D r b ini _ h4 tk4 F4 N4 hR ((hJ.1.le (by decide)).up fun q hq => .tail _ hq)
theorem rows_ok {w : World} {h₀ : Heap} {L : Addr} {s : Shared} {m : Str → Option Value} {Q : Flow → Shared → Prop} {E : Value → Shared → Prop} {loose : List Str} {mean : ExcName → Option Value} {mg mb : Str → Option Value} {nx : List (Addr × Obj)} {pn : Addr} {oc : Obj}
   (K0 : Below callerA h₀ [] h₀) (F : Fr h₀ L s.heap m) (X : (K w.params).In h₀) (T : Top q loose mean mg mb h₀) (N : News h₀ L s.heap nx) (hcp : oc.data = .cell (some (.ref pn))) (P0 : PenS pn (L + 1) oc 30 nx)
   (ret : ∀ rl r b ini nx' h' tk', Fr h₀ L h' (fun y => if y = Str.ofString "rows" then some (.ref rl) else m y) → News h₀ L h' nx' → RowsAt nx' rl r b ini → PenS pn (L + 1) oc 60 nx' → Q .next {s with heap := h', toks := tk'}) :
   wpAny (model pw w) (callerA.deeper (envOfC (Str.ofString "law") scL L 991 (Value.ref 990))) (exec (lawBody.getD 2 (.Pass default)) (envOfC (Str.ofString "law") scL L 991 (Value.ref 990))) Q E s := by
  exact clo (by with_unfolding_all rfl) rows_ok_m (Bag.mk w bag0.gd bag0.cs bag0.v bag0.cl bag0.outer bag0.ar s loose mean Q bag0.qu (lk [pn] L) bag0.str (lk [] h₀) (lk [mg, mb] m) (lk [] nx) (lk [] E) bag0.i bag0.vs bag0.ns bag0.b bag0.bool (lk [] oc) bag0.avs bag0.kvs bag0.nb bag0.nbool bag0.nn bag0.l bag0.kc bag0.nd bag0.u8 bag0.d bag0.ov) K0 F X T N hcp P0 ret

end
theorem flush_T6 : True := by first | walk1 | exact trivial
section
open PySem PySem.W PySem.Calls PyProof.Rows PyProof.V PySem.Spec
noncomputable def ret_ok_P (w : World) (h₀ : Heap) (L : Addr) (s : Shared) (m : Str → Option Value) (Q : Flow → Shared → Prop) (E : Value → Shared → Prop) (loose : List Str) (mean : ExcName → Option Value) (mg : Str → Option Value) (mb : Str → Option Value) (nx : List (Addr × Obj)) (pn : Addr) (oc : Obj) (rl : Addr) (r : Nat → Addr) (b : Nat → Array UInt8) (ini : Nat → Bool) : Prop := ∀ (K0 : Below callerA h₀ [] h₀) (F : Fr h₀ L s.heap (fun y => if y = Str.ofString "rows" then some (.ref rl) else m y)) (X : (K w.params).In h₀) (T : Top q loose mean mg mb h₀) (N : News h₀ L s.heap nx) (hcp : oc.data = .cell (some (.ref pn))) (P0 : PenS pn (L + 1) oc 60 nx) (hR : RowsAt nx rl r b ini) (ret : ∀ h' tk' m', Fr h₀ L h' m' → Q (.ret (.bool true)) {s with heap := h', toks := tk'}), wpP (model pw w) (callerA.deeper (envOfC (Str.ofString "law") scL L 991 (Value.ref 990))) (exec (lawBody.getD 3 (.Pass default)) (envOfC (Str.ofString "law") scL L 991 (Value.ref 990))) Q E s
noncomputable def ret_ok_S (c : Bag) : Prop := ret_ok_P c.w (c.heap 0) (c.n 0) c.s (c.m 0) c.qf (c.q 0) c.loose c.mean (c.m 1) (c.m 2) (c.news 0) (c.n 1) (c.o 0) (c.n 2) c.nn (c.nb 0) c.nbool
@[irreducible] noncomputable def ret_ok_c : Bag := pick ret_ok_S
theorem ret_ok_m : ret_ok_S ret_ok_c := by
  refine (?zz9 : ∀ (w : World) (h₀ : Heap) (L : Addr) (s : Shared) (m : Str → Option Value) (Q : Flow → Shared → Prop) (E : Value → Shared → Prop) (loose : List Str) (mean : ExcName → Option Value) (mg : Str → Option Value) (mb : Str → Option Value) (nx : List (Addr × Obj)) (pn : Addr) (oc : Obj) (rl : Addr) (r : Nat → Addr) (b : Nat → Array UInt8) (ini : Nat → Bool), ret_ok_P w h₀ L s m Q E loose mean mg mb nx pn oc rl r b ini) ret_ok_c.w (ret_ok_c.heap 0) (ret_ok_c.n 0) ret_ok_c.s (ret_ok_c.m 0) ret_ok_c.qf (ret_ok_c.q 0) ret_ok_c.loose ret_ok_c.mean (ret_ok_c.m 1) (ret_ok_c.m 2) (ret_ok_c.news 0) (ret_ok_c.n 1) (ret_ok_c.o 0) (ret_ok_c.n 2) ret_ok_c.nn (ret_ok_c.nb 0) ret_ok_c.nbool
  intro w h₀ L s m Q E loose mean mg mb nx pn oc rl r b ini K0 F X T N hcp P0 hR ret
  have hpn0 : ∀ q ∈ nx, q ∈ nx := fun q hq => hq
  have cm0 := P0.2
  have hRk := fun (nx' : List (Addr × Obj)) k => hR.keep (nx' := nx') N P0 k
  conv => pattern (occs := *) scL <;> whnf
  conv => pattern (occs := *) (List.getD lawBody _ _) <;> whnf
  refine wpP_Return_some (wpP_Call ?_)
  (try k_fold)
  k_steps
  with_reducible refine' wpP_callWith_K (K := K w.params) (h₀ := h₀) X ?hk ?h star_name plain_lc
  case hk => k_is
  refine wpP_of ?_
  k_steps
  unfold Hold
  k_dflt (refine LCg.ListComp_U (F₀ := by k_asm) (by with_unfolding_all rfl) (by decide) (by rfl) (by decide) (by rfl) ?_)
  (repeat' (first | (k_unfold; (try dsimp only)) | (k_end; wrow_close) | ((with_reducible show wpAny _ _ (call (Value.ref 974) [Value.ref _, Value.int _ _]) _ _ _); k_dflt (refine' draw_ps ?Bq69 ?Fq69 ?Xq69 ?Tq69 ?hkq69 ?Nq69 ?hdq69 ?huq69 ?hpq69 ?hcpq69 ?hYq69 ?hk0q69 ?hk1q69 ?_; (case Bq69 => k_asm); (case Fq69 => k_asm); (case Xq69 => k_asm); (case Tq69 => k_asm); (case hkq69 => first | rfl | assumption); (case Nq69 => k_asm); (case hdq69 => first | exact r1 (by assumption) rfl | exact r2 (by assumption) rfl | exact r3 (by assumption) rfl | exact r0 (by assumption) | ktr_room); (case huq69 => first | exact r1 (by assumption) rfl | exact r2 (by assumption) rfl | exact r3 (by assumption) rfl | exact r0 (by assumption) | k_units); (case hpq69 => with_reducible assumption); (case hcpq69 => with_reducible assumption); (case hYq69 => first | with_reducible assumption | omega); (case hk0q69 => decide); (case hk1q69 => decide); k_whole); intro nxz9 dz9 t3z9 hz9 tkz9 Fz9 Nz9 Dz9; have pXz9 := Drawn.pen Dz9; have cXz9 := Drawn.cm Dz9; have e0z9 := Drawn.d0 Dz9; have e1z9 := Drawn.d1 Dz9) | walk1 | (dsimp only; walk1) | (leave1; walk_say "STEP leave1"; (try dsimp only)) | fail "no step"))
  rename Drawn _ _ _ _ _ _ _ _ => D0
  rename IsRange _ _ 0 _ 1 _ _ _ => rg
  obtain ⟨n, en, n9, hsm, hrs⟩ := D0.num10
  rw [en] at rg
  unfold Hold
  k_dflt (refine LCg.CompSrc.range (n := n) (by rfl) (by k_asm) (by k_asm) rg hsm hrs (by rw [sizeLine_eq]; omega) ?_)
  intro g2
  with_unfolding_all refine' rest_JN (JC pn (L + 1) oc) ?_ ?_ ?_
  · exact ⟨D0.pen.le (by decide), fun _ h _ => h, [], [], rfl, rfl, .nil⟩
  · rintro j ys nx' v I oI C oC D m₂ h tk E' hj hJ ⟨tv, rfl⟩ hC hx F N off ne
    have P2 := hJ.1.up (nx' := (I, oI) :: (C, oC) :: (D, LCg.lst ys) :: nx') (fun q hq => .tail _ (.tail _ (.tail _ hq)))
    have cm := hJ.1.2
    have hpne := pen_ne N hJ.1
    have hYa := (bnd6 hj n9).1
    have hYb := (bnd6 hj n9).2
    (repeat' (first | (k_unfold; (try dsimp only)) | (k_end; wrow_close) | ((with_reducible show wpAny _ _ (call (Value.ref 974) [Value.ref _, Value.int _ _]) _ _ _); k_dflt (refine' draw_ps ?Bq69 ?Fq69 ?Xq69 ?Tq69 ?hkq69 ?Nq69 ?hdq69 ?huq69 ?hpq69 ?hcpq69 ?hYq69 ?hk0q69 ?hk1q69 ?_; (case Bq69 => k_asm); (case Fq69 => k_asm); (case Xq69 => k_asm); (case Tq69 => k_asm); (case hkq69 => first | rfl | assumption); (case Nq69 => k_asm); (case hdq69 => first | exact r1 (by assumption) rfl | exact r2 (by assumption) rfl | exact r3 (by assumption) rfl | exact r0 (by assumption) | ktr_room); (case huq69 => first | exact r1 (by assumption) rfl | exact r2 (by assumption) rfl | exact r3 (by assumption) rfl | exact r0 (by assumption) | k_units); (case hpq69 => with_reducible assumption); (case hcpq69 => with_reducible assumption); (case hYq69 => first | with_reducible assumption | omega); (case hk0q69 => decide); (case hk1q69 => decide); k_whole); intro nxz9 dz9 t3z9 hz9 tkz9 Fz9 Nz9 Dz9; have pXz9 := Drawn.pen Dz9; have cXz9 := Drawn.cm Dz9; have e0z9 := Drawn.d0 Dz9; have e1z9 := Drawn.d1 Dz9) | walk1 | (dsimp only; walk1) | (leave1; walk_say "STEP leave1"; (try dsimp only)) | fail "no step"))
    rename Drawn _ _ _ _ 3 _ _ _ => D1
    rename Drawn _ _ _ _ 26 _ _ _ => D2
    rename Fr _ _ _ _ => lF
    rename News _ _ _ _ => lN
    exact call_end lF lN (by assumption) hJ off (fun q hq hne => D2.keep q (D1.keep q hq hne) hne) D2.pen bnd7 hpne D1.d0 D1.d1 D2.d0 D2.d1
  · rintro ys nx' ⟨P3, kp3, as, kc, rfl, hl, hC⟩
    unfold LCg.FinE
    intro D h4 tk4 F4 N4 o4
    dsimp only
    k_steps
    have hR' := hRk nx' (fun q hq hne => kp3 q (D0.keep q hq hne) hne)
    k_dflt (refine' right_ok ?B ?F ?X ?T ?hk ?N ?hd ?hu ?hA ?hbz ?_; (case B => k_asm); (case F => k_asm); (case X => k_asm); (case T => k_asm); (case hk => first | rfl | assumption); (case N => exact N4); (case hd => decide +kernel); (case hu => first | exact r1 (by assumption) rfl | exact r2 (by assumption) rfl | exact r3 (by assumption) rfl | exact r0 (by assumption) | k_units); (case hA => exact args_of hR' hC (by rw [hl]; exact n9)); (case hbz => exact hR'.bz); k_whole)
    intro h9 tk9 F9 N9
    exact ret _ _ _ F9
theorem ret_ok {w : World} {h₀ : Heap} {L : Addr} {s : Shared} {m : Str → Option Value} {Q : Flow → Shared → Prop} {E : Value → Shared → Prop} {loose : List Str} {mean : ExcName → Option Value} {mg mb : Str → Option Value} {nx : List (Addr × Obj)} {pn : Addr} {oc : Obj} {rl : Addr} {r : Nat → Addr} {b : Nat → Array UInt8} {ini : Nat → Bool}
   (K0 : Below callerA h₀ [] h₀) (F : Fr h₀ L s.heap (fun y => if y = Str.ofString "rows" then some (.ref rl) else m y)) (X : (K w.params).In h₀) (T : Top q loose mean mg mb h₀) (N : News h₀ L s.heap nx) (hcp : oc.data = .cell (some (.ref pn))) (P0 : PenS pn (L + 1) oc 60 nx) (hR : RowsAt nx rl r b ini)
   (ret : ∀ h' tk' m', Fr h₀ L h' m' → Q (.ret (.bool true)) {s with heap := h', toks := tk'}) :
   wpP (model pw w) (callerA.deeper (envOfC (Str.ofString "law") scL L 991 (Value.ref 990))) (exec (lawBody.getD 3 (.Pass default)) (envOfC (Str.ofString "law") scL L 991 (Value.ref 990))) Q E s := by
  exact clo (by with_unfolding_all rfl) ret_ok_m (Bag.mk w bag0.gd bag0.cs bag0.v bag0.cl bag0.outer bag0.ar s loose mean Q bag0.qu (lk [pn, rl] L) bag0.str (lk [] h₀) (lk [mg, mb] m) (lk [] nx) (lk [] E) bag0.i bag0.vs bag0.ns bag0.b bag0.bool (lk [] oc) bag0.avs bag0.kvs (lk [] b) ini r bag0.l bag0.kc bag0.nd bag0.u8 bag0.d bag0.ov) K0 F X T N hcp P0 hR ret

end
theorem flush_T3 : True := by first | walk1 | exact trivial
section
open PySem PySem.W PySem.Calls PyProof.Rows PyProof.V PySem.Spec
noncomputable def law_ok_P (w : World) (s : Shared) (Q : Value → Shared → Prop) (E : Value → Shared → Prop) (loose : List Str) (mean : ExcName → Option Value) (mg : Str → Option Value) (mb : Str → Option Value) (sc : Addr) (vs : List Value) (ns : List Int) : Prop := ∀ (X : (K w.params).In s.heap) (T : Top q loose mean mg mb s.heap) (hl : s.heap.IsList sc vs.toArray) (hi : IntsAre vs ns) (hlen : ns.length ≤ 63) (ret : ∀ h' tk', (∀ b o, s.heap.get? b = some o → h'.get? b = some o) → Q (.bool true) {s with heap := h', toks := tk'}), wpP (model pw w) callerA (call (.ref 991) [.ref sc]) Q E s
noncomputable def law_ok_S (c : Bag) : Prop := law_ok_P c.w c.s (c.q 0) (c.q 1) c.loose c.mean (c.m 0) (c.m 1) (c.n 0) c.vs c.ns
@[irreducible] noncomputable def law_ok_c : Bag := pick law_ok_S
theorem law_ok_m : law_ok_S law_ok_c := by
  refine (?zz9 : ∀ (w : World) (s : Shared) (Q : Value → Shared → Prop) (E : Value → Shared → Prop) (loose : List Str) (mean : ExcName → Option Value) (mg : Str → Option Value) (mb : Str → Option Value) (sc : Addr) (vs : List Value) (ns : List Int), law_ok_P w s Q E loose mean mg mb sc vs ns) law_ok_c.w law_ok_c.s (law_ok_c.q 0) (law_ok_c.q 1) law_ok_c.loose law_ok_c.mean (law_ok_c.m 0) (law_ok_c.m 1) (law_ok_c.n 0) law_ok_c.vs law_ok_c.ns
  intro w s Q E loose mean mg mb sc vs ns X T hl hi hlen ret
  have K0 := below_caller s.heap
  refine wpP_call ?_
  (k_dflt (refine' codeP_top ?k1 ?k2 ?k6 ?k7 ?k8 ?k9 ?kB ?kD ?_ ?c2 ?c3 ?c4; (case k1 => exact X); (case k2 => exact T.nolimit); (case k6 => k_is); (case k7 => k_is); (case k8 => decide +kernel); (case k9 => first | exact BindsTo.of_eq rfl | exact binds_K (by k_in) rfl (by k_is) rfl rfl rfl); (case kB => exact rfl); (case kD => decide +kernel); (case c2 => exact rfl); (case c3 => exact rfl); (case c4 => exact rfl); k_whole; intro L1 h1 tk1 cells1 F1 N1 Y1; k_cells Y1; (try simp only [List.cons_append, List.nil_append] at N1); (try dsimp only); (try k_fold)))
  refine wpP_execs_leaf ?_
  (try k_fold)
  (repeat' (first | (k_unfold; (try dsimp only)) | (k_end; wrow_close) | ((with_reducible show wpAny _ _ (call (Value.ref 967) [Value.ref _]) _ _ _); k_dflt (refine' pen_ok ?Bq71 ?Fq71 ?Xq71 ?Tq71 ?hkq71 ?Nq71 ?hdq71 ?huq71 ?hlq71 ?hiq71 ?hlenq71 ?_; (case Bq71 => k_asm); (case Fq71 => k_asm); (case Xq71 => k_asm); (case Tq71 => k_asm); (case hkq71 => first | rfl | assumption); (case Nq71 => k_asm); (case hdq71 => first | exact r1 (by assumption) rfl | exact r2 (by assumption) rfl | exact r3 (by assumption) rfl | exact r0 (by assumption) | ktr_room); (case huq71 => first | exact r1 (by assumption) rfl | exact r2 (by assumption) rfl | exact r3 (by assumption) rfl | exact r0 (by assumption) | k_units); (case hlq71 => assumption); (case hiq71 => assumption); (case hlenq71 => assumption); k_whole); intro pz9 xz9 yz9 t1z9 t2z9 nz9 hz9 tkz9 Fz9 Nz9 l1 hx0z9 hx1z9 hy0z9 hy1z9) | walk1 | (dsimp only; walk1) | (leave1; walk_say "STEP leave1"; (try dsimp only)) | fail "no step"))
  refine wpP_execs_cons (wpP_If (wpP_isTrue_not (wpP_isTrue_plain (wpP_Call ?_))))
  k_steps
  with_reducible refine' wpP_callWith_K (K := K w.params) (h₀ := s.heap) X ?hk ?h star_list plain_list
  case hk => k_is
  refine wpP_of ?_
  k_steps
  rename Fr _ _ _ _ => lF
  rename News _ _ _ _ => lN
  obtain ⟨r, b, ini, ks, kc, hA, hbz⟩ := fixedArgs lN
  k_dflt (refine' right_ok ?B ?F ?X ?T ?hk ?N ?hd ?hu ?hA ?hbz ?_; (case B => k_asm); (case F => k_asm); (case X => k_asm); (case T => k_asm); (case hk => first | rfl | assumption); (case N => exact lN); (case hd => decide +kernel); (case hu => first | exact r1 (by assumption) rfl | exact r2 (by assumption) rfl | exact r3 (by assumption) rfl | exact r0 (by assumption) | k_units); (case hA => exact hA); (case hbz => exact hbz); k_whole)
  clear hA hbz
  intro h9 tk9 F9 N9
  k_steps
  refine wpP_execs_nil ?_
  rename _ = Data.cell (some (Value.ref _)) => dat
  obtain ⟨pn, oc, nx0, hcp, N0, P0⟩ := pack2 (cc := L1 + 1) dat N9 (by k_mem) (by k_mem) (by assumption) (by assumption) (by assumption) (by assumption)
  clear N9 dat
  show wpP _ _ (execs _ _) _ _ _
  refine wpP_execs_leaf (rows_ok K0 F9 X T N0 hcp P0 ?_)
  clear F9 N0
  intro rl r b ini nx' h9 tk9 F9 N9 hR P9
  show wpP _ _ (execs _ _) _ _ _
  refine wpP_execs_cons (ret_ok K0 F9 X T N9 hcp P9 hR ?_)
  clear F9 N9
  intro h9 tk9 m9 F9
  exact ret _ _ F9.keep
theorem law_ok {w : World} {s : Shared} {Q E : Value → Shared → Prop} {loose : List Str} {mean : ExcName → Option Value} {mg mb : Str → Option Value} {sc : Addr} {vs : List Value} {ns : List Int}
   (X : (K w.params).In s.heap) (T : Top q loose mean mg mb s.heap) (hl : s.heap.IsList sc vs.toArray) (hi : IntsAre vs ns) (hlen : ns.length ≤ 63)
   (ret : ∀ h' tk', (∀ b o, s.heap.get? b = some o → h'.get? b = some o) → Q (.bool true) {s with heap := h', toks := tk'}) :
   wpP (model pw w) callerA (call (.ref 991) [.ref sc]) Q E s := by
  exact clo (by with_unfolding_all rfl) law_ok_m (Bag.mk w bag0.gd bag0.cs bag0.v bag0.cl bag0.outer bag0.ar s loose mean bag0.qf bag0.qu (lk [] sc) bag0.str bag0.heap (lk [mb] mg) bag0.news (lk [E] Q) bag0.i vs ns bag0.b bag0.bool bag0.o bag0.avs bag0.kvs bag0.nb bag0.nbool bag0.nn bag0.l bag0.kc bag0.nd bag0.u8 bag0.d bag0.ov) X T hl hi hlen ret

end
end
theorem flush_T7 : True := by first | walk1 | exact trivial
section
open PySem PySem.W PySem.Calls PyProof.Rows
/-- an open row whose call is walked with no decoder on the stack -/
theorem open_P {r : OpenRow} {q : Program} {loose : List Str} {Xt : Shared → Bool} {XP : (Str → Option Value) → Heap → Prop} {α : Type} {Yf : Shared → α} {Ya : World → α} {YP : World → Heap → Prop} {d : DefRec} {kwd : List (Str × PySem.Expr)} {N : Nat}
    (left : LeftO r.prog q loose Xt Yf Ya N) (hY : ∀ w s, Yf s = Ya w → YP w s.heap) (hYk : ∀ w h h', YP w h → (∀ b o, h.get? b = some o → h'.get? b = some o) → YP w h')
    (hX : ∀ s, Xt s = true → XP (s.heap.nsMap mainGlobals) s.heap) (hXk : ∀ mg h h', XP mg h → (∀ b o, h.get? b = some o → h'.get? b = some o) → XP mg h')
    (hdef : defOf q r.name = some (d, kwd)) (hp : r.prog.theDef r.name = some (d.params, d.body, d.scope)) (hk : kwWritten? d.params.kwonlyargs d.params.kw_defaults = some kwd) (hRf : ∀ s, Xt s = true → RecFacts r.records s.heap) (hwr : (!r.writes || r.records.isEmpty) = true)
    (said : r.wellSaid = true) (fits : (chainsOk q && opensWell r.prog && (frees r.toRowW && r.within.isEmpty)) = true) (bare : r.prog.bare) (prom : r.toRowW.promised)
    (walk : ∀ (w : World) (s₀ s₁ : Shared) (mg mb : Str → Option Value), Ground q loose r.toRowW.records XP w s₀ mg mb s₁.heap → YP w s₁.heap → ∀ fa : Addr, mg r.name = some (.ref fa) → ∀ (args : List WData) (vals : List Value) (as : List Addr),
      r.toRowW.claim.pre args = true → WData.layableAll args = true → ReadsAllW r.toRowW.records (classAt s₀.heap) s₁.heap vals args as → WellAll w.params s₁.heap vals args → (∀ a ∈ as, (a == sysModules) = false) → s₁.gens = #[] →
      wpP (model r.prog w) callerA (PySem.call (.ref fa) vals) (fun v s' => GoodWG r.toRowW.claim (classAt s₀.heap) (ExcName.means s₀.heap) args s₁ (.ok (.ret v)) s') (fun e s' => GoodWG r.toRowW.claim (classAt s₀.heap) (ExcName.means s₀.heap) args s₁ (.error e) s') s₁) : r.Holds := by
  refine ⟨said, prom, ?_⟩
  obtain ⟨f12, f3⟩ := Bool.and_eq_true_iff.mp fits
  obtain ⟨chains, opens⟩ := Bool.and_eq_true_iff.mp f12
  obtain ⟨free, noin⟩ := Bool.and_eq_true_iff.mp f3
  obtain ⟨same, hu, ha, hap, makers⟩ := frees_parts free
  have within : r.toRowW.claim.within = [] := List.isEmpty_iff.mp noin
  refine ⟨⟨bare, opens, by show r.toRowW.makers.map _ = []; rw [makers]; rfl⟩, prom.witness, fun w => ⟨(left.behind hX chains w).1, fun s' ran => ?_⟩⟩
  obtain ⟨s₀, fence, nogens, s, top, asleep, gens0, isNs, G, y⟩ := (left.behind (XP := fun mg h => XP mg h ∧ RecFacts r.records h) (fun s e => ⟨hX s e, hRf s e⟩) chains w).2 s' ran
  have recs := G.X.2
  have G0 : Ground q loose [] XP w s (s.heap.nsMap mainGlobals) (s.heap.nsMap builtinsNs) s.heap := ⟨G.T, G.B, G.D, G.TE, G.TD, G.W, G.X.1, G.cls, G.has, G.apart, G.once, G.K⟩
  have gens : s.gens = #[] := Array.eq_empty_of_size_eq_zero (beq_iff_eq.mp gens0)
  have top' := top
  refine ⟨s₀, fence, nogens, s, top, fun n hn => ?_, recs.1, recs.2.1, ?_⟩
  · obtain rfl : n = r.name := by split at hn <;> simp_all
    exact pinned_of_view isNs G0 hdef hp hk
  have G1 := recs.ground G0
  refine callFrom_P (c := r.toRowW.claim) (tree := fun vs => do match ← nsGet mainNs r.name with
      | some f => do ret (← PySem.call f vs)
      | none => unsupported "claim.caller:no-such-global") asleep gens fun args p1 p2 ord p3 => ?_
  obtain ⟨⟨vs, s₁⟩, laid⟩ := Option.isSome_iff_exists.mp (layAllW_isSome (P := w.params) (ord := ord) G1.has args r.toRowW.args s (pre_splitW p1).1)
  have kept := layAllW_keeps _ _ _ laid
  have rest := layAllW_rest _ _ _ laid
  obtain ⟨as, reads, ins, old⟩ := reads_layAllW p3 _ _ _ laid p2 s₁.heap (fun _ _ e => e)
  have L : Laid r.toRowW.records w s s₁ args vs as := ⟨⟨ord, p3, laid⟩, reads, ins, old, kept, rest.1.trans gens, rest.2.2.1⟩
  have G2 := G1.keeps hXk kept
  obtain ⟨fa, o, pm, cd, doc, dV, kV, h1, h2, h3, h4, h5⟩ := G2.fn hdef
  have ends : ∀ {res : Result} {s' : Shared}, GoodWG r.toRowW.claim (classAt s.heap) (ExcName.means s.heap) args s₁ res s' → (r.toRowW.claim.Ends s args vs s₁ res s' ∧ s'.os = s.os ∧ (r.writes = true → namesKept r.toRowW.claim.prog r.keeps s.heap s'.heap ∧ ∀ x ∈ r.toRowW.claim.records, ∀ a, classAt s.heap x.1 = some a → recordClass s'.heap a x.1 (x.2.map (·.1)) = true)) ∧ AllBare s'.gens := fun g =>
    have z := g.laid (c := r.toRowW.claim) same within (ident_freeW hu ha hap) L
    ⟨⟨z.1, z.2.1, fun x => ⟨namesKept_of top' isNs r.keeps kept g.2.1.old, noTable hwr x⟩⟩, z.2.2⟩
  refine ⟨vs, s₁, laid, ?_⟩
  refine wpP_bindA (wpAny_nsGet G2.T.g ?_)
  rw [h1]
  refine wpP_bind (wpP_mono (walk w s s₁ _ _ G2 (hYk _ _ _ (hY w s y) kept) fa h1 args vs as p1 p2 L.reads L.well (L.low G1.low) L.gens) (fun v s' g => wpP_of (wpAny_pure ⟨_, rfl, ends g⟩)) fun e s' g => ends g)

end
end
end
end
end
section
open PySem PySem.W PySem.Calls PyProof.Rows
theorem law_at (P : Params) : nsIn (K P) mainGlobals (Str.ofString "law") = some (some (.ref 991)) := by kernel_rfl
end
end Mine
open PySem PySem.W PySem.Calls PyProof.Rows
theorem PySem.Challenge.cw_pq0646_01_holds : PySem.Challenge.rw_pq0646_01.Holds := by
  w_on
  refine holds_law Mine.said fun said => ?_
  refine Mine.open_P (r := PySem.Challenge.rw_pq0646_01.row) (q := Mine.q) (loose := Mine.loose) (Xt := Mine.Xt) (XP := XL Mine.q []) (Yf := Hook.obs (kHook Mine.K Mine.asK Mine.asK_eq)) (Ya := Hook.val (kHook Mine.K Mine.asK Mine.asK_eq)) (YP := Hook.says (kHook Mine.K Mine.asK Mine.asK_eq)) (N := 7000) Mine.left (Hook.of (kHook Mine.K Mine.asK Mine.asK_eq)) (Hook.keeps (kHook Mine.K Mine.asK Mine.asK_eq))
    (fun s e => xl_of s (Bool.and_eq_true_iff.mp e).1) XL.keeps (by rfl) (by rfl) (by rfl) (fun s e => recFacts_of (Bool.and_eq_true_iff.mp e).2) (by rfl) said (by decide +kernel) ⟨rfl, rfl, rfl, rfl, rfl, by decide +kernel⟩ ?hw ?hc
  case hw => w_witness2
  case hc =>
    intro w s₀ s₁ mg mb G Y fa hmg args vals as hpre hlay hrd hwl hlo hgens
    have KX : (Mine.K w.params).In s₁.heap := kIn_of Y
    refine Ground.open G ?_
    intro T B D TE TW
    have e := mg_of (n := Str.ofString "law") (v := .ref 991) KX T.g (Mine.law_at _)
    obtain rfl : fa = 991 := Value.ref.inj (Option.some.inj (hmg.symm.trans e))
    wrow_args hpre hlay hrd hwl hlo
    refine Mine.law_ok KX T (by assumption) (by assumption) (by omega) fun h' tk' keep => ?_
    refine GoodW.toG ?_
    refine ⟨.inl ⟨.bool true, _, [], rfl, raisesW_false ?_, ReadsW.bool _, ?_, fun _ => ⟨List.nodup_nil, fun a ha => (nomatch ha)⟩⟩, keep, rfl, hgens⟩
    · wrow_none_raised
    · wrow_post
