import PyProof.Rows.All
import Wide.All
import OpenK.AllK
import Wide.FinOn
import HandS.ForMost
import HandS.Evl
import HandS.Walk
import HandS.Conv
import HandS.TupAny
import HandS.Style
import KE.KExcIs
import KE.KExcSuper
import HandS.Exc
import HandS.ExcIs
import HandS.ExcField
import HandS.ExcInit
import HandS.ExcOwn
import HandS.Small
import HandS.Lambda
import HandS.Words
import HandS.WordsExc
import HandS.IsInst
import HandS.WordsDict
import KE.GoesEnum
import KE.GoesMore
import HandS.DictComp
import HandS.More
import HandS.Star
import HandS.DeepEq
import HandS.OwnEq
import KE.KDictList
import HandS.ListItems
import KE.KOpsOwn
import HandS.TupMul
import HandS.Set
import HandS.SetFor
import HandS.Strs
import HandS.Property
import HandS.NoneIn
import HandS.EndTab
import PySem.Challenge.RW_snaplifts_k09_rows_lifted
set_option Elab.async false
set_option linter.all false
set_option maxRecDepth 100000
set_option maxHeartbeats 4000000
/-! Own foundation: heaps that grow, the law's source of draws -/
namespace Sn
open Evl (Ex)
open PySem L2
/-- the built-in names that the text leaves as they are -/
structure Bt (mg : Str → Option Value) : Prop where
  len : mg "len" = none
  int : mg "int" = none
  abs : mg "abs" = none
  range : mg "range" = none
  min : mg "min" = none
  max : mg "max" = none
  dict : mg "dict" = none
  tuple : mg "tuple" = none
  list : mg "list" = none
  set : mg "set" = none
  sorted : mg "sorted" = none
  all : mg "all" = none
  any : mg "any" = none
  isi : mg "isinstance" = none
  enum : mg "enumerate" = none
  str : mg "str" = none
  bool : mg "bool" = none
  zip : mg "zip" = none
  sum : mg "sum" = none
  repr : mg "repr" = none
  ValueError : mg "ValueError" = none
  super : mg "super" = none
theorem exr {H : Hp} : Ex H H := fun _ _ h => h
theorem ext {H H1 H2 : Hp} (a : Ex H H1) (b : Ex H1 H2) : Ex H H2 := fun x o h => b x o (a x o h)
theorem exn {H : Hp} {p : Addr} {o : HO} (h : H p = none) : Ex H (upd H p o) := Evl.Ex.new h
theorem exm {F H : Hp} {p : Addr} {o : HO} (e : Ex F H) (h : F p = none) : Ex F (upd H p o) := Evl.Ex.mut e h
theorem exb {F H : Hp} {p : Addr} (e : Ex F H) (h : H p = none) : F p = none := Evl.fresh_back e h
/-- both grow by one thing -/
theorem exu {F H : Hp} {p : Addr} {o : HO} (e : Ex F H) : Ex (upd F p o) (upd H p o) := fun a u h => by
  by_cases q : a = p
  · subst q
    rw [upd_same] at h ⊢
    exact h
  · rw [upd_ne q] at h ⊢
    exact e a u h
theorem exp {F H : Hp} {p : Addr} {o : HO} (e : Ex F H) (h : H p = some o) : Ex (upd F p o) H := fun a u q => by
  by_cases r : a = p
  · subst r
    rw [upd_same] at q
    rw [← q]
    exact h
  · rw [upd_ne r] at q
    exact e a u q
theorem updn {F : Hp} {p q : Addr} {o : HO} (h : F q = none) (n : q ≠ p) : upd F p o q = none := by rw [upd_ne n]; exact h

/-! ### the source of draws -/
def dkv (la ca : Addr) (r t : Int) : List (Key × V) := [(.inr "large", .ref la), (.inr "cells", .ref ca), (.inr "rest", .int r), (.inr "turn", .int t)]
/-- the source stands at sa, its lists at la and ca; at most T draws were by the counter -/
structure Dr (H : Hp) (sa la ca : Addr) (T : Nat) : Prop where
  ex : ∃ (ls cs : List Int) (r t : Int), H sa = some (.dK (dkv la ca r t)) ∧ H la = some (.lst (ls.map V.int)) ∧ H ca = some (.lst (cs.map V.int)) ∧ (∀ x ∈ ls, 0 ≤ x) ∧ 0 ≤ r ∧ 0 ≤ t ∧ t ≤ T ∧ ls.length ≤ 63 ∧ cs.length ≤ 63
  sl : sa ≠ la
  sc : sa ≠ ca
  lc : la ≠ ca
theorem Dr.mono {H : Hp} {sa la ca : Addr} {T T' : Nat} (d : Dr H sa la ca T) (h : T ≤ T') : Dr H sa la ca T' := by
  obtain ⟨⟨ls, cs, r, t, a, b, c, e, f, g, i, j, k⟩, x, y, z⟩ := d
  exact ⟨⟨ls, cs, r, t, a, b, c, e, f, g, by omega, j, k⟩, x, y, z⟩
theorem Dr.ext {H H' : Hp} {sa la ca : Addr} {T : Nat} (d : Dr H sa la ca T) (e : Ex H H') : Dr H' sa la ca T := by
  obtain ⟨⟨ls, cs, r, t, a, b, c, g⟩, x, y, z⟩ := d
  exact ⟨⟨ls, cs, r, t, e _ _ a, e _ _ b, e _ _ c, g⟩, x, y, z⟩
theorem Dr.sne {H : Hp} {sa la ca : Addr} {T : Nat} (d : Dr H sa la ca T) {p : Addr} (h : H p = none) : p ≠ sa := by
  obtain ⟨⟨_, _, _, _, a, _⟩, _⟩ := d
  exact (ne_of_none a h).symm
theorem Dr.lne {H : Hp} {sa la ca : Addr} {T : Nat} (d : Dr H sa la ca T) {p : Addr} (h : H p = none) : p ≠ la := by
  obtain ⟨⟨_, _, _, _, _, b, _⟩, _⟩ := d
  exact (ne_of_none b h).symm
theorem Dr.cne {H : Hp} {sa la ca : Addr} {T : Nat} (d : Dr H sa la ca T) {p : Addr} (h : H p = none) : p ≠ ca := by
  obtain ⟨⟨_, _, _, _, _, _, c, _⟩, _⟩ := d
  exact (ne_of_none c h).symm
/-- another thing changes -/
theorem Dr.upd {H : Hp} {sa la ca : Addr} {T : Nat} (d : Dr H sa la ca T) {p : Addr} {o : HO} (h1 : p ≠ sa) (h2 : p ≠ la) (h3 : p ≠ ca) : Dr (L2.upd H p o) sa la ca T := by
  obtain ⟨⟨ls, cs, r, t, a, b, c, g⟩, x, y, z⟩ := d
  exact ⟨⟨ls, cs, r, t, by rw [upd_ne h1.symm]; exact a, by rw [upd_ne h2.symm]; exact b, by rw [upd_ne h3.symm]; exact c, g⟩, x, y, z⟩
theorem Dr.new {H : Hp} {sa la ca : Addr} {T : Nat} (d : Dr H sa la ca T) {p : Addr} {o : HO} (h : H p = none) : Dr (L2.upd H p o) sa la ca T := d.ext (exn h)

theorem sLC : ¬ ("large" : Str) = "cells" := by decide +kernel
theorem sLR : ¬ ("large" : Str) = "rest" := by decide +kernel
theorem sLT : ¬ ("large" : Str) = "turn" := by decide +kernel
theorem sCR : ¬ ("cells" : Str) = "rest" := by decide +kernel
theorem sCT : ¬ ("cells" : Str) = "turn" := by decide +kernel
theorem sRT : ¬ ("rest" : Str) = "turn" := by decide +kernel
theorem sTR : ¬ ("turn" : Str) = "rest" := by decide +kernel
theorem kn {a b : Str} (h : ¬ a = b) : ¬ (Sum.inr a : Key) = Sum.inr b := fun e => h (Sum.inr.inj e)
theorem kv_large (la ca : Addr) (r t : Int) : valV (dkv la ca r t) (Sum.inr ("large" : Str) : Key) = some (.ref la) := valV_pos rfl
theorem kv_cells (la ca : Addr) (r t : Int) : valV (dkv la ca r t) (Sum.inr ("cells" : Str) : Key) = some (.ref ca) := (valV_neg (kn sLC)).trans (valV_pos rfl)
theorem kv_rest (la ca : Addr) (r t : Int) : valV (dkv la ca r t) (Sum.inr ("rest" : Str) : Key) = some (.int r) := (valV_neg (kn sLR)).trans ((valV_neg (kn sCR)).trans (valV_pos rfl))
theorem kv_turn (la ca : Addr) (r t : Int) : valV (dkv la ca r t) (Sum.inr ("turn" : Str) : Key) = some (.int t) := (valV_neg (kn sLT)).trans ((valV_neg (kn sCT)).trans ((valV_neg (kn sRT)).trans (valV_pos rfl)))
theorem kp_rest (la ca : Addr) (r t r' : Int) : putK (dkv la ca r t) (Sum.inr ("rest" : Str) : Key) (.int r') = dkv la ca r' t := by
  unfold putK
  rw [valV_any, kv_rest]
  simp only [dkv, Option.isSome_some, if_true, List.map_cons, List.map_nil, if_neg (kn sLR), if_neg (kn sCR), if_neg (kn sTR)]
theorem kp_turn (la ca : Addr) (r t t' : Int) : putK (dkv la ca r t) (Sum.inr ("turn" : Str) : Key) (.int t') = dkv la ca r t' := by
  unfold putK
  rw [valV_any, kv_turn]
  simp only [dkv, Option.isSome_some, if_true, List.map_cons, List.map_nil, if_neg (kn sLT), if_neg (kn sCT), if_neg (kn sRT)]
theorem dk_len (la ca : Addr) (r t : Int) : (dkv la ca r t).length < sizeLine := by show 4 < sizeLine; decide
/-- d["rest"] and its like, as a step of a reading -/
theorem dg {H : Hp} {a : Addr} {kvs : List (Key × V)} {x : Str} {v : V} (h : H a = some (.dK kvs)) (e : valV kvs (Sum.inr x : Key) = some v) : DGet H a (.str x) (some v) := by
  have g := DGet.k (k := (Sum.inr x : Key)) h
  rw [e] at g
  exact g
theorem dp {H : Hp} {a : Addr} {kvs kvs' : List (Key × V)} {x : Str} {v : V} (h : H a = some (.dK kvs)) (hl : kvs.length < sizeLine) (e : putK kvs (Sum.inr x : Key) v = kvs') : DPut H a (.str x) v (upd H a (.dK kvs')) := by
  have g := DPut.k (k := (Sum.inr x : Key)) (v := v) h hl
  rw [e] at g
  exact g
/-- a list of ints as data -/
theorem dp_ints {K : PySem.W.Frag} {H : Hp} {a : Addr} {ns : List Int} (h : SqL K H a (ns.map V.int)) : Dp K H (.ref a) (.list (ns.map PyData.int)) := by
  refine .lst h ?_
  clear h
  induction ns with
  | nil => exact .nil
  | cons n r ih => exact .cons (.int n) ih
theorem can_all : ∀ {ds : List PyData}, (∀ d ∈ ds, d.canLay0 = true) → PyData.canLayAll0 ds = true
  | [], _ => by simp [PyData.canLayAll0]
  | d :: r, h => by
    simp only [PyData.canLayAll0, Bool.and_eq_true]
    exact ⟨h d List.mem_cons_self, can_all fun x hx => h x (List.mem_cons_of_mem _ hx)⟩
theorem dep_all {n : Nat} : ∀ {ds : List PyData}, (∀ d ∈ ds, d.depth ≤ n) → PyData.depthAll ds ≤ n
  | [], _ => by simp [PyData.depthAll]
  | d :: r, h => by
    simp only [PyData.depthAll]
    have h1 := h d List.mem_cons_self
    have h2 := dep_all (n := n) (ds := r) fun x hx => h x (List.mem_cons_of_mem _ hx)
    omega
theorem shaped_lst {ds : List PyData} (h : ∀ d ∈ ds, d.canLay0 = true ∧ d.depth ≤ 50) : SeqAt.shaped (.list ds) = true := by
  have h1 := can_all fun d hd => (h d hd).1
  have h2 := dep_all (n := 50) fun d hd => (h d hd).2
  unfold SeqAt.shaped
  rw [PyData.canLay0, PyData.depth, h1, Bool.true_and]
  exact decide_eq_true (by omega)
theorem shaped_tup {ds : List PyData} (h : ∀ d ∈ ds, d.canLay0 = true ∧ d.depth ≤ 50) : SeqAt.shaped (.tuple ds) = true := by
  have h1 := can_all fun d hd => (h d hd).1
  have h2 := dep_all (n := 50) fun d hd => (h d hd).2
  unfold SeqAt.shaped
  rw [PyData.canLay0, PyData.depth, h1, Bool.true_and]
  exact decide_eq_true (by omega)
theorem shaped_ints (ns : List Int) : SeqAt.shaped (.list (ns.map PyData.int)) = true := shaped_lst fun d hd => by
  obtain ⟨n, _, rfl⟩ := List.mem_map.mp hd
  simp [PyData.canLay0, PyData.depth]
theorem shaped_nil : SeqAt.shaped (.list []) = true := shaped_lst fun _ h => nomatch h
theorem eqv_nil (ds : List PyData) : PyData.eqv (.list ds) (.list []) = ds.isEmpty := by
  cases ds <;> simp [PyData.eqv, PyData.eqvAll]

theorem exs {F H : Hp} {p : Addr} {o o' : HO} (e : Ex (upd F p o) H) : Ex (upd F p o') (upd H p o') := fun a u h => by
  by_cases q : a = p
  · subst q
    rw [upd_same] at h ⊢
    exact h
  · rw [upd_ne q] at h ⊢
    exact e a u (by rw [upd_ne q]; exact h)

/-! ### calls in short -/
/-- a def of the module: where it stands, and its promise -/
structure Cal (P : Program) (w : World) (K : PySem.W.Frag) (mg : Str → Option Value) (base : Heap) (CX : CXT) (k : Nat) (x : Str) (ps : List Str) (sp : Sp) : Prop where
  ex : ∃ (f : Addr) (fd : FuncData), FnOk P w K mg base CX k f fd ps sp ∧ Binds K fd ps [] ∧ mg x = some (.ref f) ∧ PySem.W.keepIn K (.ref f) = true
section
variable {X : Cx}
theorem pcall {k : Nat} {x : Str} {ps : List Str} {sp : Sp} {e : Expr} {es : List Expr} {p pos : Pos} {t : TA} (c : Cal X.prog X.w X.K X.mg X.base CX0 k x ps sp) (hr : Room k X.A) (ha : PA X (e :: es) t) (hg : Gl X x := by rfl)
    (hdb : (x == ("__debug__" : Str)) = false := by decide) (he : starEach (e :: es) X.env = (false, eval e X.env) :: starEach es X.env := by rfl) (hpl : (backTo pos (starEach es X.env)).any (·.1) = false := by rfl) :
    PE X (.Call (.Name x p) (e :: es) [] pos) (tCall sp [] E0 t) := by
  obtain ⟨f, fd, F, b, m, kp⟩ := c.ex
  exact pe_call F hr hg m kp b .nil pass0 ha hdb he hpl
theorem dget {o i : Expr} {pos : Pos} {td ty : TE} (hu : X.A.units + 1 < cLine) (ho : PE X o td) (hi : PE X i ty) (hs : NoSl i := by exact fun _ _ => rfl) : PE X (.Subscript o i pos) (tDGet td ty) := pe_dget hu ho hi hs
end

/-! ### words -/
structure Wd (s : Str) : Prop where
  lo : 1 ≤ s.cps.toList.length
  hi : s.cps.toList.length ≤ 6
  az : ∀ c ∈ s.cps.toList, 97 ≤ c ∧ c ≤ 122
def abc : Str := "abcdefghijklmnopqrstuvwxyz"
theorem abc_at {i c : Nat} (h : abc.cps[i]? = some c) : 97 ≤ c ∧ c ≤ 122 := by
  have hl : abc.cps.toList = (List.range 26).map (· + 97) := by decide +kernel
  have h2 : abc.cps.toList[i]? = some c := by rw [← h]; simp
  rw [hl, List.getElem?_map] at h2
  cases q : (List.range 26)[i]? with
  | none => rw [q] at h2; cases h2
  | some j =>
    rw [q] at h2
    have hj := List.mem_range.mp (List.mem_of_getElem? q)
    have e : j + 97 = c := Option.some.inj h2
    omega
theorem abc_mem {c : Nat} : c ∈ abc.cps.toList ↔ 97 ≤ c ∧ c ≤ 122 := by
  have hl : abc.cps.toList = (List.range 26).map (· + 97) := by decide +kernel
  rw [hl, List.mem_map]
  constructor
  · rintro ⟨j, hj, rfl⟩
    have := List.mem_range.mp hj
    omega
  · intro h
    exact ⟨c - 97, List.mem_range.mpr (by omega), by omega⟩
theorem inV_str {w : Str} : ∀ {ws : List Str}, inV (.str w) (ws.map V.str) = decide (w ∈ ws)
  | [] => by simp [inV]
  | a :: r => by
    have ih := inV_str (w := w) (ws := r)
    unfold inV at ih ⊢
    rw [List.map_cons, List.any_cons, ih]
    by_cases e : a = w
    · subst e; simp [eqV]
    · have e' : ¬ w = a := fun z => e z.symm
      simp [eqV, e, e']
theorem flat_strs (ws : List Str) : (ws.map V.str).all flatV = true := by
  rw [List.all_eq_true]
  intro x hx
  obtain ⟨s, _, rfl⟩ := List.mem_map.mp hx
  rfl
theorem dpall_strs {K : PySem.W.Frag} {H : Hp} : ∀ ws : List Str, DpAll K H (ws.map V.str) (ws.map PyData.str)
  | [] => .nil
  | w :: r => .cons (.str w) (dpall_strs r)
theorem dp_strs {K : PySem.W.Frag} {H : Hp} {a : Addr} {ws : List Str} (h : SqL K H a (ws.map V.str)) : Dp K H (.ref a) (.list (ws.map PyData.str)) := .lst h (dpall_strs ws)
theorem dp_strsT {K : PySem.W.Frag} {H : Hp} {a : Addr} {ws : List Str} (h : SqT K H a (ws.map V.str)) : Dp K H (.ref a) (.tuple (ws.map PyData.str)) := .tup h (dpall_strs ws)
theorem wd_lay {s : Str} (h : Wd s) : (PyData.str s).canLay0 = true ∧ (PyData.str s).depth ≤ 50 := by
  refine ⟨?_, by simp [PyData.depth]⟩
  rw [PyData.canLay0]
  unfold PyData.strOk
  rw [← Array.all_toList, List.all_eq_true]
  intro c hc
  have := h.az c hc
  exact decide_eq_true (by omega)
theorem shaped_words {ws : List Str} (h : ∀ x ∈ ws, Wd x) : SeqAt.shaped (.list (ws.map PyData.str)) = true := shaped_lst fun d hd => by
  obtain ⟨s, hs, rfl⟩ := List.mem_map.mp hd
  exact wd_lay (h s hs)
theorem shaped_wordsT {ws : List Str} (h : ∀ x ∈ ws, Wd x) : SeqAt.shaped (.tuple (ws.map PyData.str)) = true := shaped_tup fun d hd => by
  obtain ⟨s, hs, rfl⟩ := List.mem_map.mp hd
  exact wd_lay (h s hs)
end Sn
namespace Sn
open Evl (Ex)
open PySem L2
def top (i : Nat) : Stmt := PySem.Challenge.pw_snaplifts_k09_rows_lifted.main.body.getD i (.Pass ⟨0, 0, 0, 0⟩)
abbrev sDraw : Stmt := top 33
section
variable {P : Program} {w : World} {K : PySem.W.Frag} {mg : Str → Option Value} {base : Heap}
theorem scD : FnScope ["_law_state", "_law_size", "_law_found", "_law_turn", "_law_cell", "_law_mixed"] ["_law_state", "_law_size"] (defScope sDraw) := ⟨rfl, rfl, rfl, by decide +kernel, rfl, by decide +kernel, by decide +kernel⟩
def spDraw : Sp := fun vs H Q _ => ∃ (F : Hp) (sa la ca : Addr) (T : Nat) (n : Int), vs = [.ref sa, .int n] ∧ Ex F H ∧ F sa = none ∧ F la = none ∧ Dr H sa la ca T ∧ T ≤ 100000000 ∧ 0 < n ∧ n ≤ 1000000 ∧
  ∀ (r : Int) (H' : Hp), 0 ≤ r → r < n → Ex F H' → Dr H' sa la ca (T + 1) → Q (.int r) H'
theorem ok_draw {f : Addr} {fd : FuncData} (F : Fun K "_law_draw" "_law_draw" sDraw f fd) (B : Bt mg) : FnOk P w K mg base CX0 1 f fd ["_law_state", "_law_size"] spDraw := by
  refine F.ok scD (fun vs H Q E h => ?_) (fun cdv A outer s H vs Q E hr h => ?_)
  · obtain ⟨_, _, _, _, _, _, rfl, _⟩ := h
    rfl
  · obtain ⟨G, sa, la, ca, T, n, rfl, eG, ns, nl, D, hT, n0, n1, k⟩ := h
    have hu := hu_of hr
    refine ⟨_, Evl.pss_cut (ps_while PassesOwn.never (PW.pt (pw_and (pt_cmpR op_eq (pe_dget hu (pv 0) pe_str (fun _ _ => rfl)) pe_int (nomark _)) (pw_and1 (pt_cmpR (op_neD hr.units) (pe_dget hu (pv 0) pe_str (fun _ _ => rfl)) (pe_lst pa_nil) (nomark _)))))
        (pss_one (ps_dput hu (pv 0) pe_str (pe_bm PySem.F.plainAttrs_list PySem.F.slot_list_pop PySem.F.type_list_pop mt_popAt (pe_dget hu (pv 0) pe_str (fun _ _ => rfl)) (pa_cons pe_int pa_nil)) rfl)))
      (pss_cons (ps_if (pt_cmpR op_gt (pe_dget hu (pv 0) pe_str (fun _ _ => rfl)) pe_int (nomark _))
        (pss_cons (ps_set (i := 2) scD.nd rfl (.inl rfl) (pe_op op_mod (pe_callTy call_int1 (by rfl) B.int PyProof.Rows.boot_int (pa_cons (pe_dget hu (pv 0) pe_str (fun _ _ => rfl)) pa_nil)) (pv 1)))
        (pss_cons (ps_dput hu (pv 0) pe_str (pe_op op_fdiv (pe_dget hu (pv 0) pe_str (fun _ _ => rfl)) (pv 1)) rfl)
        (pss_one (ps_ret (pv 2))))) pss_nil)
      (pss_cons (ps_set (i := 3) scD.nd rfl (.inl rfl) (pe_op op_add (pe_dget hu (pv 0) pe_str (fun _ _ => rfl)) pe_int))
      (pss_cons (ps_dput hu (pv 0) pe_str (pv 3) rfl)
      (Evl.pss_cut (ps_set (i := 4) scD.nd rfl (.inl rfl) (pe_ifExp (pt_cmpR (op_neD hr.units) (pe_dget hu (pv 0) pe_str (fun _ _ => rfl)) (pe_lst pa_nil) (nomark _))
          (pe_ix ix_list (pe_dget hu (pv 0) pe_str (fun _ _ => rfl)) (pe_op op_mod (pe_callTy call_int1 (by rfl) B.int PyProof.Rows.boot_int (pa_cons (pv 3) pa_nil)) (pe_callB call_len_seq (by rfl) B.len PySem.boot_len (pa_cons (pe_dget hu (pv 0) pe_str (fun _ _ => rfl)) pa_nil))) (fun _ _ => rfl)) pe_int))
      (pss_cons (ps_set (i := 5) scD.nd rfl (.inl rfl) (pe_op op_mod (pe_callTy call_int1 (by rfl) B.int PyProof.Rows.boot_int (pa_cons (pe_op op_pow (pe_op op_add (pe_op op_add (pe_op op_mod (pe_callTy call_int1 (by rfl) B.int PyProof.Rows.boot_int (pa_cons (pv 4) pa_nil)) pe_int) (pe_op op_mul pe_int (pv 3))) pe_int) pe_int) pa_nil)) pe_int))
      (pss_one (ps_ret (pe_op op_mod (pe_callTy call_int1 (by rfl) B.int PyProof.Rows.boot_int (pa_cons (pe_op op_fdiv (pe_op op_mod (pe_callTy call_int1 (by rfl) B.int PyProof.Rows.boot_int (pa_cons (pe_op op_pow (pe_op op_add (pv 5) (pe_op op_mul pe_int (pv 3))) pe_int) pa_nil)) pe_int) pe_int) pa_nil)) (pv 1))))))))), ?_⟩
    refine ⟨fun σ H' => σ = [some (.ref sa), some (.int n), none, none, none, none] ∧ Ex G H' ∧ Dr H' sa la ca T, ?_, ?_⟩
    · -- the loop
      obtain ⟨⟨ls, cs, r, t, h1, h2, h3, g1, g2, g3, g4, g5, g6⟩, sl, sc, lc⟩ := D
      refine ⟨fun m σ H' => σ = [some (.ref sa), some (.int n), none, none, none, none] ∧ Ex G H' ∧ ∃ (ls cs : List Int) (r t : Int), H' sa = some (.dK (dkv la ca r t)) ∧ H' la = some (.lst (ls.map V.int)) ∧ H' ca = some (.lst (cs.map V.int)) ∧ (∀ x ∈ ls, 0 ≤ x) ∧ 0 ≤ r ∧ 0 ≤ t ∧ t ≤ T ∧ ls.length ≤ 63 ∧ cs.length ≤ 63 ∧ ls.length = m,
        ⟨ls.length, rfl, eG, ls, cs, r, t, h1, h2, h3, g1, g2, g3, g4, g5, g6, rfl⟩, fun m σ H1 hW => ?_⟩
      clear h1 h2 h3 g1 g2 g3 g4 g5 g6 ls cs r t eG
      obtain ⟨rfl, eG, ls, cs, r, t, h1, h2, h3, g1, g2, g3, g4, g5, g6, hm⟩ := hW
      refine ⟨_, rfl, sa, .int r, rfl, dg h1 (kv_rest _ _ _ _), rfl, _, rfl, ?_⟩
      by_cases hz : V.int r = V.int 0
      · rw [decide_eq_true hz]
        refine iteT ?_
        refine ⟨_, rfl, sa, .ref la, rfl, dg h1 (kv_large _ _ _ _), Nat.zero_le _, fun p np => ?_⟩
        refine ⟨_, _, dp_ints (SqL.of (exn np _ _ h2)), .lst (SqL.of upd_same) .nil, shaped_ints _, shaped_nil, _, rfl, ?_⟩
        rw [eqv_nil]
        have e1 := exn (o := .lst []) np
        cases ls with
        | nil =>
          refine iteF ?_
          exact ⟨rfl, ext eG e1, ⟨[], cs, r, t, e1 _ _ h1, e1 _ _ h2, e1 _ _ h3, g1, g2, g3, g4, g5, g6⟩, sl, sc, lc⟩
        | cons l lr =>
          refine iteT ?_
          refine ⟨fun σ H' => σ = [some (.ref sa), some (.int n), none, none, none, none] ∧ Ex G H' ∧ H' sa = some (.dK (dkv la ca l t)) ∧ H' la = some (.lst (lr.map V.int)) ∧ H' ca = some (.lst (cs.map V.int)), fun σ' H' hN => ?_, ?_⟩
          · obtain ⟨rfl, a, b, c, d⟩ := hN
            refine ⟨lr.length, by rw [← hm]; exact Nat.lt_succ_self _, rfl, a, lr, cs, l, t, b, c, d, fun x hx => g1 x (List.mem_cons_of_mem _ hx), g1 l List.mem_cons_self, g3, g4, ?_, g6, rfl⟩
            have : (l :: lr).length = lr.length + 1 := rfl
            omega
          · have k1 := e1 _ _ h1
            have k2 := e1 _ _ h2
            refine ⟨_, rfl, sa, .ref la, rfl, dg k1 (kv_large _ _ _ _), .inl ⟨rfl, _, SqL.of k2⟩, la, _, 0, 0, _, rfl, rfl, k2, by decide, by decide, (by simp [seqIndex?]), rfl, ?_⟩
            have k3 : upd (upd H1 p (.lst [])) la (.lst ((lr.map V.int))) sa = some (.dK (dkv la ca r t)) := by rw [upd_ne sl]; exact k1
            refine ⟨_, rfl, sa, _, rfl, dp k3 (dk_len _ _ _ _) (kp_rest _ _ _ _ _), ?_⟩
            refine ⟨rfl, exm (exm (ext eG e1) nl) ns, upd_same, ?_, ?_⟩
            · rw [upd_ne sl.symm, upd_same]
              rfl
            · rw [upd_ne sc.symm, upd_ne lc.symm]
              exact e1 _ _ h3
      · rw [decide_eq_false hz]
        refine iteF ?_
        refine iteF ?_
        exact ⟨rfl, eG, ⟨ls, cs, r, t, h1, h2, h3, g1, g2, g3, g4, g5, g6⟩, sl, sc, lc⟩
    · -- behind it
      rintro σ H1 ⟨rfl, eG, D⟩
      obtain ⟨⟨ls, cs, r, t, h1, h2, h3, g1, g2, g3, g4, g5, g6⟩, sl, sc, lc⟩ := D
      refine ⟨_, rfl, sa, .int r, rfl, dg h1 (kv_rest _ _ _ _), r, 0, rfl, rfl, _, rfl, ?_⟩
      by_cases hz : 0 < r
      · rw [decide_eq_true hz]
        refine iteT ?_
        refine ⟨_, rfl, sa, .int r, rfl, dg h1 (kv_rest _ _ _ _), .inl ⟨r, rfl, ?_⟩⟩
        refine ⟨_, rfl, r, n, rfl, rfl, n0, ?_⟩
        refine ⟨_, rfl, sa, .int r, rfl, dg h1 (kv_rest _ _ _ _), _, rfl, r, n, rfl, rfl, ⟨n0, by omega⟩, _, rfl, sa, _, rfl, dp h1 (dk_len _ _ _ _) (kp_rest _ _ _ _ _), ?_⟩
        refine ⟨_, rfl, ?_⟩
        refine k _ _ (Int.emod_nonneg _ (by omega)) (Int.emod_lt_of_pos _ n0) (exm eG ns) ⟨⟨ls, cs, r / n, t, upd_same, ?_, ?_, g1, Int.ediv_nonneg g2 (by omega), g3, by omega, g5, g6⟩, sl, sc, lc⟩
        · rw [upd_ne sl.symm]; exact h2
        · rw [upd_ne sc.symm]; exact h3
      · rw [decide_eq_false hz]
        refine iteF ?_
        -- turn = state["turn"] + 1; state["turn"] = turn
        refine ⟨_, rfl, sa, .int t, rfl, dg h1 (kv_turn _ _ _ _), t, 1, rfl, rfl, ?_⟩
        refine ⟨_, rfl, _, rfl, sa, _, rfl, dp h1 (dk_len _ _ _ _) (kp_turn _ _ _ _ _), ?_⟩
        have D2 : Dr (upd H1 sa (.dK (dkv la ca r (t + 1)))) sa la ca (T + 1) := by
          refine ⟨⟨ls, cs, r, t + 1, upd_same, ?_, ?_, g1, g2, by omega, by omega, g5, g6⟩, sl, sc, lc⟩
          · rw [upd_ne sl.symm]; exact h2
          · rw [upd_ne sc.symm]; exact h3
        have e2 : Ex G (upd H1 sa (.dK (dkv la ca r (t + 1)))) := exm eG ns
        have k1 : upd H1 sa (.dK (dkv la ca r (t + 1))) sa = some (.dK (dkv la ca r (t + 1))) := upd_same
        have k3 : upd H1 sa (.dK (dkv la ca r (t + 1))) ca = some (.lst (cs.map V.int)) := by rw [upd_ne sc.symm]; exact h3
        refine ⟨fun σ H' => ∃ c : Int, σ = [some (.ref sa), some (.int n), none, some (.int (t + 1)), some (.int c), none] ∧ Ex G H' ∧ Dr H' sa la ca (T + 1), ?_, ?_⟩
        · refine ⟨_, rfl, sa, .ref ca, rfl, dg k1 (kv_cells _ _ _ _), Nat.zero_le _, fun p np => ?_⟩
          have e3 := exn (o := .lst []) np
          refine ⟨_, _, dp_ints (SqL.of (e3 _ _ k3)), .lst (SqL.of upd_same) .nil, shaped_ints _, shaped_nil, _, rfl, ?_⟩
          rw [eqv_nil]
          cases cs with
          | nil =>
            refine iteF ?_
            exact ⟨0, rfl, ext e2 e3, D2.ext e3⟩
          | cons c cr =>
            refine iteT ?_
            have kk1 := e3 _ _ k1
            have kk3 := e3 _ _ k3
            refine ⟨_, rfl, sa, .ref ca, rfl, dg kk1 (kv_cells _ _ _ _), _, rfl, .inl ⟨t + 1, rfl, ?_⟩⟩
            refine ⟨_, rfl, sa, .ref ca, rfl, dg kk1 (kv_cells _ _ _ _), ca, _, rfl, .inl (SqL.of kk3), ?_⟩
            refine ⟨t + 1, _, rfl, rfl, ?_, ?_⟩
            · show (0 : Int) < ((List.map V.int (c :: cr)).length : Int)
              simp
            · have hb : ((t + 1) % ((List.map V.int (c :: cr)).length : Int)).toNat < (c :: cr).length := by
                have p0 : (0 : Int) < ((List.map V.int (c :: cr)).length : Int) := by simp
                have a1 := Int.emod_lt_of_pos (t + 1) p0
                have a2 := Int.emod_nonneg (t + 1) (by omega : ((List.map V.int (c :: cr)).length : Int) ≠ 0)
                have a3 : (List.map V.int (c :: cr)).length = (c :: cr).length := List.length_map _
                omega
              refine ⟨ca, _, _, .int ((c :: cr)[((t + 1) % ((List.map V.int (c :: cr)).length : Int)).toNat]), rfl, rfl, SqL.of kk3, at_of (j := ((t + 1) % ((List.map V.int (c :: cr)).length : Int)).toNat) ?_ ?_, ?_⟩
              · have p0 : (0 : Int) < ((List.map V.int (c :: cr)).length : Int) := by simp
                have a2 := Int.emod_nonneg (t + 1) (by omega : ((List.map V.int (c :: cr)).length : Int) ≠ 0)
                omega
              · rw [List.getElem?_map, List.getElem?_eq_getElem hb]
                rfl
              · exact ⟨_, rfl, ext e2 e3, D2.ext e3⟩
        · rintro σ H3 ⟨c, rfl, e3, D3⟩
          refine ⟨_, rfl, .inl ⟨c, rfl, c, _, rfl, rfl, by show (0 : Int) < 2147483629; decide, _, rfl, 48271, t + 1, rfl, rfl, .inl ⟨by decide, by decide⟩, _, _, rfl, rfl, _, _, rfl, rfl, _, 3, rfl, rfl, ⟨by decide, by decide, ?_⟩, .inl ⟨_, rfl, _, _, rfl, rfl, by show (0 : Int) < 2147483647; decide, ?_⟩⟩⟩
          · have a1 := Int.emod_lt_of_pos c (by decide : (0 : Int) < 2147483629)
            have a2 := Int.emod_nonneg c (by decide : (2147483629 : Int) ≠ 0)
            omega
          refine ⟨_, rfl, _, rfl, 99991, t + 1, rfl, rfl, .inl ⟨by decide, by decide⟩, _, _, rfl, rfl, _, 5, rfl, rfl, ⟨by decide, by decide, ?_⟩, .inl ⟨_, rfl, _, _, rfl, rfl, by show (0 : Int) < 2147483587; decide, _, 23, rfl, rfl, ⟨by decide, by decide⟩, .inl ⟨_, rfl, _, rfl, _, n, rfl, rfl, n0, ?_⟩⟩⟩
          · generalize ((c % 2147483629 + 48271 * (t + 1) + 13579) ^ (3 : Int).toNat) = z
            have a1 := Int.emod_lt_of_pos z (by decide : (0 : Int) < 2147483647)
            have a2 := Int.emod_nonneg z (by decide : (2147483647 : Int) ≠ 0)
            omega
          exact k _ _ (Int.emod_nonneg _ (by omega)) (Int.emod_lt_of_pos _ n0) e3 D3
end
end Sn
namespace Sn
open Evl (Ex)
open PySem L2
abbrev s_l_pick : Stmt := top 34
abbrev s_l_words : Stmt := top 35
abbrev s_l_begun : Stmt := top 32
section
variable {P : Program} {w : World} {K : PySem.W.Frag} {mg : Str → Option Value} {base : Heap}
/-! ### pick -/
theorem sc_l_pick : FnScope ["_law_state", "_law_several"] ["_law_state", "_law_several"] (defScope s_l_pick) := ⟨rfl, rfl, rfl, by decide +kernel, rfl, by decide +kernel, by decide +kernel⟩
def spPick (K : PySem.W.Frag) : Sp := fun vs H Q _ => ∃ (F : Hp) (sa la ca : Addr) (T : Nat) (z : V), vs = [.ref sa, z] ∧ Ex F H ∧ F sa = none ∧ F la = none ∧ Dr H sa la ca T ∧ T ≤ 100000000 ∧
  ((∃ (a : Addr) (xs : List V), z = .ref a ∧ SqL K F a xs ∧ xs ≠ [] ∧ xs.length ≤ 1000000 ∧ ∀ (j : Nat) (x : V) (H' : Hp), xs[j]? = some x → Ex F H' → Dr H' sa la ca (T + 1) → Q x H') ∨
   (∃ x : Str, z = .str x ∧ x.cps.toList ≠ [] ∧ x.cps.toList.length ≤ 1000000 ∧ ∀ (c : Nat) (H' : Hp), c ∈ x.cps.toList → Ex F H' → Dr H' sa la ca (T + 1) → Q (.str ⟨#[c]⟩) H'))
theorem ok_pick {f : Addr} {fd : FuncData} (F : Fun K "_law_pick" "_law_pick" s_l_pick f fd) (B : Bt mg) (cDraw : Cal P w K mg base CX0 1 "_law_draw" ["_law_state", "_law_size"] spDraw) : FnOk P w K mg base CX0 2 f fd ["_law_state", "_law_several"] (spPick K) := by
  refine F.ok sc_l_pick (fun vs H Q E h => ?_) (fun cdv A outer s H vs Q E hr h => ?_)
  · obtain ⟨_, _, _, _, _, _, rfl, _⟩ := h
    rfl
  · obtain ⟨G, sa, la, ca, T, z, rfl, eG, ns, nl, D, hT, h⟩ := h
    refine ⟨_, (pss_one (ps_ret (pe_ix ix_seq (pv 1) (pcall cDraw (hr.mono (by decide)) (pa_cons (pv 0) (pa_cons (pe_callB call_len (by rfl) B.len PySem.boot_len (pa_cons (pv 1) pa_nil)) pa_nil))) (fun _ _ => rfl)))), ?_⟩
    rcases h with ⟨a, xs, rfl, hx, h0, h1, k⟩ | ⟨x, rfl, h0, h1, k⟩
    · have hl : 0 < xs.length := List.length_pos_iff.mpr h0
      refine ⟨_, rfl, _, rfl, _, rfl, _, xs.length, rfl, .inl ⟨xs, Evl.ex_l eG hx, rfl⟩, G, sa, la, ca, T, _, rfl, eG, ns, nl, D, hT, by omega, by omega, fun r H' r0 r1 e' D' => ?_⟩
      have hb : r.toNat < xs.length := by omega
      exact .inl ⟨a, xs, r, xs[r.toNat], rfl, rfl, Evl.ex_l e' hx, at_of (j := r.toNat) (by omega) (List.getElem?_eq_getElem hb), k r.toNat _ H' (List.getElem?_eq_getElem hb) e' D'⟩
    · have hl : 0 < x.cps.toList.length := List.length_pos_iff.mpr h0
      have hz : x.length = x.cps.toList.length := by simp [Str.length]
      refine ⟨_, rfl, _, rfl, _, rfl, _, x.length, rfl, ⟨by rw [hz, sizeLine_eq]; omega, rfl⟩, G, sa, la, ca, T, _, rfl, eG, ns, nl, D, hT, by rw [hz]; omega, by rw [hz]; omega, fun r H' r0 r1 e' D' => ?_⟩
      rw [hz] at r1
      have hb : r.toNat < x.cps.toList.length := by omega
      refine .inr (.inr ⟨x, r, x.cps.toList[r.toNat], rfl, rfl, by rw [hz, sizeLine_eq]; omega, ?_, k _ H' (List.getElem_mem hb) e' D'⟩)
      have := atI_nat (List.getElem?_eq_getElem hb)
      rw [show ((r.toNat : Nat) : Int) = r by omega] at this
      exact this
end
end Sn
namespace Sn
open Evl (Ex)
open PySem L2
def sev : List Str := ["a", "b", "c", "ab", "event", "take", "raise", "old", "new", "state", "start", "snap", "step", "zzzzzz"]
instance (s : Str) : Decidable (Wd s) := decidable_of_iff (1 ≤ s.cps.toList.length ∧ s.cps.toList.length ≤ 6 ∧ ∀ c ∈ s.cps.toList, 97 ≤ c ∧ c ≤ 122) ⟨fun ⟨a, b, c⟩ => ⟨a, b, c⟩, fun ⟨a, b, c⟩ => ⟨a, b, c⟩⟩
theorem sev_wd : ∀ s ∈ sev, Wd s := by decide +kernel
theorem join_signs : ∀ cs : List Nat, (Txt.join "" (cs.map fun c => (⟨#[c]⟩ : Str))).cps.toList = cs := by
  intro cs
  show (Builtin.Str.glued "" (cs.map fun c => (⟨#[c]⟩ : Str))).cps.toList = cs
  rw [StrLaws.glued_eq_join]
  induction cs with
  | nil => rfl
  | cons c r ih =>
    cases r with
    | nil => rfl
    | cons d r =>
      show ((⟨#[c]⟩ : Str) ++ ("" : Str) ++ Str.join "" ((⟨#[d]⟩ : Str) :: r.map fun c => (⟨#[c]⟩ : Str))).cps.toList = c :: d :: r
      have e : ∀ a b : Str, (a ++ b).cps.toList = a.cps.toList ++ b.cps.toList := fun a b => Array.toList_append
      rw [e, e]
      have ih' : (Str.join "" ((⟨#[d]⟩ : Str) :: r.map fun c => (⟨#[c]⟩ : Str))).cps.toList = d :: r := ih
      rw [ih']
      rfl
theorem wd_join {cs : List Nat} (h1 : 1 ≤ cs.length) (h2 : cs.length ≤ 6) (h3 : ∀ c ∈ cs, 97 ≤ c ∧ c ≤ 122) : Wd (Txt.join "" (cs.map fun c => (⟨#[c]⟩ : Str))) := by
  have e := join_signs cs
  exact ⟨by rw [e]; exact h1, by rw [e]; exact h2, by rw [e]; exact h3⟩
theorem cut5 (z : Str) : (cutS z none (some 5)).cps.toList = z.cps.toList.take 5 := by
  have hz : z.length = z.cps.toList.length := by simp [Str.length]
  unfold cutS
  rw [HT.sIx_none, show HT.sIx z.length z.length (some 5) = min 5 z.length from HT.sIx_nat z.length z.length 5]
  show ((z.cps.toList.drop 0).take (min 5 z.length - 0)) = _
  rw [List.drop_zero, hz, Nat.sub_zero]
  by_cases h : z.cps.toList.length ≤ 5
  · rw [Nat.min_eq_right h, List.take_length, List.take_of_length_le h]
  · rw [Nat.min_eq_left (by omega)]
theorem wd_more {z : Str} {c : Nat} (h : Wd z) (hc : 97 ≤ c ∧ c ≤ 122) : Wd (cutS z none (some 5) ++ ⟨#[c]⟩) := by
  have e : (cutS z none (some 5) ++ (⟨#[c]⟩ : Str)).cps.toList = z.cps.toList.take 5 ++ [c] := by
    rw [← cut5]
    exact Array.toList_append
  refine ⟨by rw [e]; simp, ?_, ?_⟩
  · rw [e, List.length_append, List.length_take]
    show _ + 1 ≤ 6
    omega
  · rw [e]
    intro x hx
    rcases List.mem_append.mp hx with h' | h'
    · exact h.az x (List.mem_of_mem_take h')
    · rw [List.mem_singleton.mp h']
      exact hc
theorem wd_one {c : Nat} (hc : 97 ≤ c ∧ c ≤ 122) : Wd ⟨#[c]⟩ := ⟨Nat.le_refl 1, by show 1 ≤ 6; decide, fun x hx => by
  have : x = c := List.mem_singleton.mp hx
  rw [this]; exact hc⟩
theorem wd_len {s : Str} (h : Wd s) : s.length ≤ 6 := by
  have := h.hi
  simp [Str.length] at this ⊢
  exact this
theorem sub_len {α : Type} [DecidableEq α] : ∀ {l ws : List α}, l.Nodup → (∀ x ∈ l, x ∈ ws) → l.length ≤ ws.length
  | [], _, _, _ => Nat.zero_le _
  | a :: r, ws, h, hs => by
    have ha := hs a List.mem_cons_self
    obtain ⟨h1, h2⟩ := List.nodup_cons.mp h
    have ih := sub_len (l := r) (ws := ws.erase a) h2 fun x hx => (List.mem_erase_of_ne (fun e : x = a => h1 (by rw [← e]; exact hx))).mpr (hs x (List.mem_cons_of_mem _ hx))
    rw [List.length_erase_of_mem ha] at ih
    have hp : 0 < ws.length := List.length_pos_of_mem ha
    show r.length + 1 ≤ ws.length
    omega
/-- some letter is free of fewer than 26 words -/
theorem free_letter {ws : List Str} (h : ws.length < 26) : ∃ c ∈ abc.cps.toList, (⟨#[c]⟩ : Str) ∉ ws := by
  by_cases q : ∃ c ∈ abc.cps.toList, (⟨#[c]⟩ : Str) ∉ ws
  · exact q
  · exfalso
    have all : ∀ c ∈ abc.cps.toList, (⟨#[c]⟩ : Str) ∈ ws := fun c hc => by
      by_cases z : (⟨#[c]⟩ : Str) ∈ ws
      · exact z
      · exact absurd ⟨c, hc, z⟩ q
    have hn : (abc.cps.toList.map fun c => (⟨#[c]⟩ : Str)).Nodup := by decide +kernel
    have hl := sub_len hn (fun x hx => by
      obtain ⟨c, hc, rfl⟩ := List.mem_map.mp hx
      exact all c hc)
    have h26 : (abc.cps.toList.map fun c => (⟨#[c]⟩ : Str)).length = 26 := by decide +kernel
    omega
section
variable {P : Program} {w : World} {K : PySem.W.Frag} {mg : Str → Option Value} {base : Heap}
theorem sc_l_words : FnScope ["_law_state", "_law_many", "_law_letters", "_law_found", "_law_several", "_law_turn", "_law_way", "_law_word", "_law_sign", "_law_letter"] ["_law_state", "_law_many"] (defScope s_l_words) := ⟨rfl, rfl, rfl, by decide +kernel, rfl, by decide +kernel, by decide +kernel⟩
def spWords : Sp := fun vs H Q _ => ∃ (F : Hp) (sa la ca : Addr) (T : Nat) (n : Nat), vs = [.ref sa, .int (n : Int)] ∧ Ex F H ∧ F sa = none ∧ F la = none ∧ Dr H sa la ca T ∧ T ≤ 10000000 ∧ n ≤ 20 ∧
  ∀ (p : Addr) (ws : List Str) (H' : Hp), H p = none → ws.length = n → ws.Nodup → (∀ x ∈ ws, Wd x) → Ex F H' → H' p = some (.lst (ws.map V.str)) → Dr H' sa la ca (T + 400) → Q (.ref p) H'
theorem ok_words {f : Addr} {fd : FuncData} (F : Fun K "_law_words" "_law_words" s_l_words f fd) (B : Bt mg) (cDraw : Cal P w K mg base CX0 1 "_law_draw" ["_law_state", "_law_size"] spDraw)
    (cPick : Cal P w K mg base CX0 2 "_law_pick" ["_law_state", "_law_several"] (spPick K)) : FnOk P w K mg base CX0 3 f fd ["_law_state", "_law_many"] spWords := by
  refine F.ok sc_l_words (fun vs H Q E h => ?_) (fun cdv A outer s H vs Q E hr h => ?_)
  · obtain ⟨_, _, _, _, _, _, rfl, _⟩ := h
    rfl
  · obtain ⟨F0, sa, la, ca, T, n, rfl, eF, ns, nl, D, hT, hn, k⟩ := h
    refine ⟨_, (pss_cons (ps_asg (pe_tup (pa_cons pe_str (pa_cons (pe_lst pa_nil) pa_nil))) (pg_tup rfl (pgs_cons (pg_name (i := 2) sc_l_words.nd rfl (.inr rfl)) (pgs_cons (pg_name (i := 3) sc_l_words.nd rfl (.inr rfl)) pgs_nil))))
      (pss_cons (ps_set (i := 4) sc_l_words.nd rfl (.inl rfl) (pe_lst (pa_cons pe_str (pa_cons pe_str (pa_cons pe_str (pa_cons pe_str (pa_cons pe_str (pa_cons pe_str (pa_cons pe_str (pa_cons pe_str (pa_cons pe_str (pa_cons pe_str (pa_cons pe_str (pa_cons pe_str (pa_cons pe_str (pa_cons pe_str pa_nil))))))))))))))))
      (pss_cons (ps_for PassesOwn.never rfl (pi_range1 rfl B.range (pa_cons (pv 1) pa_nil)) (pg_name (i := 5) sc_l_words.nd rfl (.inl rfl))
        (pss_cons (ps_par (i := 6) (j := 7) (by rfl) sc_l_words.nd rfl rfl (by decide) rfl rfl (pa_cons (pcall cDraw (hr.mono (by decide)) (pa_cons (pv 0) (pa_cons pe_int pa_nil))) (pa_cons (pcall cPick (hr.mono (by decide)) (pa_cons (pv 0) (pa_cons (pv 4) pa_nil))) pa_nil)) (by rfl))
        (Evl.pss_cut (ps_if (pt_cmpR op_eq (pv 6) pe_int (nomark _))
          (pss_one (ps_set (i := 7) sc_l_words.nd rfl (.inl rfl) (pe_join pe_str (pe_lc (own := [("_law_sign", 8)]) (by rfl) sc_l_words.nd (pi_range1 rfl B.range (pa_cons (pe_op op_add pe_int (pcall cDraw (hr.mono (by decide)) (pa_cons (pv 0) (pa_cons pe_int pa_nil)))) pa_nil)) (blkOk_by (own := [("_law_sign", 8)]) (N := ["_law_state", "_law_many", "_law_letters", "_law_found", "_law_several", "_law_turn", "_law_way", "_law_word", "_law_sign", "_law_letter"]) (sc := defScope s_l_words) (by decide +kernel)) (fun _ _ _ _ _ => (pg_name (i := 8) sc_l_words.nd rfl (Or.inl rfl))) (fun _ _ _ _ _ => pts_nil) (fun _ _ _ _ _ => (pcall cPick (hr.mono (by decide)) (pa_cons (pv 0) (pa_cons (pv 2) pa_nil))))))))
          pss_nil)
        (Evl.pss_cut (ps_if (PW.pt (pw_and (pt_cmpR op_eq (pv 6) pe_int (nomark _)) (pw_and1 (pt_cmpR (op_neD hr.units) (pv 3) (pe_lst pa_nil) (nomark _)))))
          (pss_one (ps_set (i := 7) sc_l_words.nd rfl (.inl rfl) (pe_op op_add_str (pe_slice sl_str (pe_ix ix_list (pv 3) (pe_un un_neg pe_int) (fun _ _ => rfl)) po_none (po_some pe_int)) (pcall cPick (hr.mono (by decide)) (pa_cons (pv 0) (pa_cons (pv 2) pa_nil))))))
          pss_nil)
        (Evl.pss_cut (ps_if (pt_cmpR op_in_seq (pv 7) (pv 3) (by rfl))
          (pss_one (ps_set (i := 7) sc_l_words.nd rfl (.inl rfl) (pe_ix ix_list (pe_lc (own := [("_law_letter", 9)]) (by rfl) sc_l_words.nd (pi_str (pv 2)) (blkOk_by (own := [("_law_letter", 9)]) (N := ["_law_state", "_law_many", "_law_letters", "_law_found", "_law_several", "_law_turn", "_law_way", "_law_word", "_law_sign", "_law_letter"]) (sc := defScope s_l_words) (by decide +kernel)) (fun _ _ _ _ _ => (pg_name (i := 9) sc_l_words.nd rfl (Or.inl rfl))) (fun _ _ _ _ _ => (pts_one (pt_cmpR (r := rIn K true) op_notIn_seq (pv 9) (pv 3) (by rfl)))) (fun _ _ _ _ _ => (pv 9))) pe_int (fun _ _ => rfl))))
          pss_nil)
        (pss_one (ps_expr (pe_bm PySem.F.plainAttrs_list PySem.F.slot_list_append PySem.F.type_list_append mt_append (pv 3) (pa_cons (pv 7) pa_nil)))))))))
      (pss_one (ps_ret (pv 3)))))), ?_⟩
    refine ⟨Nat.zero_le _, fun p np => ⟨by show 2 ≤ sizeLine; decide, fun t nt => ?_⟩⟩
    refine ⟨t, _, rfl, SqT.of upd_same, rfl, _, _, rfl, _, _, rfl, rfl, ?_⟩
    refine ⟨by show 14 ≤ sizeLine; decide, fun q nq => ?_⟩
    -- the frozen part beside the growing list
    have eH1 : Ex H (upd H p (.lst [])) := exn np
    have np0 : F0 p = none := exb eF np
    have nqp : q ≠ p := fun e => by
      rw [e, upd_ne (fun z => by rw [z, upd_same] at nt; cases nt), upd_same] at nq
      cases nq
    have nqH : H q = none := exb (ext eH1 (exn nt)) nq
    have psa := D.sne np
    have pla := D.lne np
    have qsa := D.sne nqH
    have qla := D.lne nqH
    let F1 : Hp := upd F0 q (.lst (sev.map V.str))
    have n1s : ∀ o, upd F1 p o sa = none := fun o => updn (updn ns qsa.symm) psa.symm
    have n1l : ∀ o, upd F1 p o la = none := fun o => updn (updn nl qla.symm) pla.symm
    have F1q : ∀ o, upd F1 p o q = some (.lst (sev.map V.str)) := fun o => by rw [upd_ne nqp]; exact upd_same
    have F1p : ∀ o, upd F1 p o p = some o := fun o => upd_same
    have F1x : ∀ o H', Ex (upd F1 p o) H' → Ex F0 H' := fun o H' e a u h => e a u (by
      rw [upd_ne (ne_of_none h np0)]
      exact (upd_ne (ne_of_none h (exb eF nqH))).trans h)
    refine ⟨_, rfl, (n : Int), rfl, by omega, by omega, for_range (lo := 0) (n := (n : Int).toNat) (fun i σ H' => ∃ (y5 y6 y7 : Option V) (ws : List Str), σ = [some (.ref sa), some (.int (n : Int)), some (.str abc), some (.ref p), some (.ref q), y5, y6, y7, none, none] ∧ Ex (upd F1 p (.lst (ws.map V.str))) H' ∧ ws.length = i ∧ ws.Nodup ∧ (∀ x ∈ ws, Wd x) ∧ Dr H' sa la ca (T + 20 * i)) ?_ ?_ ?_⟩
    · refine ⟨none, none, none, [], rfl, ?_, rfl, List.nodup_nil, fun _ h => (nomatch h), (((D.ext eH1).ext (exn nt)).ext (exn nq)).mono (by omega)⟩
      intro a u h
      by_cases e1 : a = p
      · subst e1
        rw [F1p] at h
        rw [upd_ne nqp.symm, upd_ne (fun z => by rw [z, upd_same] at nt; cases nt), upd_same]
        exact h
      · rw [upd_ne e1] at h
        by_cases e2 : a = q
        · subst e2
          rw [show F1 a = some (.lst (sev.map V.str)) from upd_same] at h
          rw [upd_same]
          exact h
        · rw [show F1 a = F0 a from upd_ne e2] at h
          exact (ext (ext eH1 (exn nt)) (exn nq)) a u (eF a u h)
    · rintro i σ H2 hi ⟨y5, y6, y7, ws, rfl, eG, hlen, hnd, hwd, D2⟩
      have i20 : i < 20 := by omega
      -- way, word
      refine ⟨_, rfl, upd F1 p (.lst (ws.map V.str)), sa, la, ca, _, 4, rfl, eG, n1s _, n1l _, D2, by omega, by decide, by decide, fun r H3 r0 r1 e3 D3 => ?_⟩
      refine ⟨_, rfl, _, rfl, upd F1 p (.lst (ws.map V.str)), sa, la, ca, _, _, rfl, e3, n1s _, n1l _, D3, by omega, .inl ⟨q, _, rfl, SqL.of (F1q _), by simp [sev], by simp [sev], fun j x H4 hj e4 D4 => ?_⟩⟩
      obtain ⟨s0, hs0, rfl⟩ := List.mem_map.mp (List.mem_of_getElem? hj)
      refine ⟨_, _, rfl, ?_⟩
      refine ⟨fun σ H' => ∃ word : Str, σ = [some (.ref sa), some (.int (n : Int)), some (.str abc), some (.ref p), some (.ref q), some (.int (0 + (i : Int))), some (.int r), some (.str word), none, none] ∧ Ex (upd F1 p (.lst (ws.map V.str))) H' ∧ Wd word ∧ Dr H' sa la ca (T + 20 * i + 10), ?_, ?_⟩
      · -- way 0
        refine ⟨_, rfl, rfl, _, rfl, ?_⟩
        by_cases hz : V.int r = V.int 0
        · rw [decide_eq_true hz]
          refine iteT ?_
          refine ⟨⟨_, rfl⟩, _, rfl, upd F1 p (.lst (ws.map V.str)), sa, la, ca, _, 6, rfl, e4, n1s _, n1l _, D4, by omega, by decide, by decide, fun m H5 m0 m1 e5 D5 => ?_⟩
          refine ⟨1, m, rfl, rfl, 1 + m, rfl, by omega, by omega, fun Dl nD => ?_⟩
          have gD : ∀ o, upd F1 p o Dl = none → True := fun _ _ => True.intro
          have nDG : upd F1 p (.lst (ws.map V.str)) Dl = none := exb e5 nD
          have Ds := D5.sne nD
          have Dls := D5.lne nD
          have Dcs := D5.cne nD
          refine lc_range (lo := 0) (n := (1 + m).toNat) (fun j H' => ∃ cs : List Nat, Ex (upd F1 p (.lst (ws.map V.str))) H' ∧ H' Dl = some (.lst (cs.map fun c => V.str ⟨#[c]⟩)) ∧ cs.length = j ∧ (∀ c ∈ cs, 97 ≤ c ∧ c ≤ 122) ∧ Dr H' sa la ca (T + 20 * i + 3 + j)) ?_ ?_ ?_
          · exact ⟨[], exm e5 nDG, upd_same, rfl, fun _ h => (nomatch h), D5.new nD⟩
          · rintro j H6 hj ⟨cs, e6, hD6, hl6, ha6, D6⟩
            refine ⟨rfl, _, rfl, _, rfl, upd (upd F1 p (.lst (ws.map V.str))) Dl (.lst (cs.map fun c => V.str ⟨#[c]⟩)), sa, la, ca, _, _, rfl, exp e6 hD6, updn (n1s _) Ds.symm, updn (n1l _) Dls.symm, D6, by omega, .inr ⟨abc, rfl, by decide +kernel, by decide +kernel, fun c H7 hc e7 D7 => ?_⟩⟩
            have hD7 := e7 _ _ (upd_same (H := upd F1 p (.lst (ws.map V.str))))
            refine ⟨_, hD7, ?_, cs ++ [c], ?_, ?_, ?_, ?_, ?_⟩
            · rw [List.length_map, sizeLine_eq]
              omega
            · exact exm (fun a u h => e7 a u (by rw [upd_ne (ne_of_none h nDG)]; exact h)) nDG
            · rw [upd_same, List.map_append]
              rfl
            · rw [List.length_append, hl6]
              rfl
            · intro x hx
              rcases List.mem_append.mp hx with h' | h'
              · exact ha6 x h'
              · rw [List.mem_singleton.mp h']
                exact abc_mem.mp hc
            · exact (D7.upd Ds Dls Dcs).mono (by omega)
          · rintro H6 ⟨cs, e6, hD6, hl6, ha6, D6⟩
            have em : (cs.map fun c => V.str ⟨#[c]⟩) = (cs.map fun c => (⟨#[c]⟩ : Str)).map V.str := by rw [List.map_map]; rfl
            rw [em] at hD6
            refine ⟨_, Dl, _, rfl, rfl, .inl (SqL.of hD6), ?_, ?_⟩
            · rw [List.map_map, List.length_map]
              have e1 : (cs.map ((fun x : Str => x.length) ∘ fun c => (⟨#[c]⟩ : Str))) = cs.map fun _ => 1 := List.map_congr_left fun _ _ => rfl
              rw [e1]
              have e2 : ∀ l : List Nat, (l.map fun _ => 1).sum = l.length := fun l => by
                induction l with
                | nil => rfl
                | cons a r ih => rw [List.map_cons, List.sum_cons, ih, List.length_cons]; omega
              rw [e2]
              show cs.length + cs.length * 0 ≤ 16777216
              omega
            · exact ⟨_, rfl, e6, wd_join (by omega) (by omega) ha6, D6.mono (by omega)⟩
        · rw [decide_eq_false hz]
          refine iteF ?_
          exact ⟨s0, rfl, e4, sev_wd _ hs0, D4.mono (by omega)⟩
      · rintro σ H5 ⟨w1, rfl, e5, hw1, D5⟩
        refine ⟨fun σ H' => ∃ word : Str, σ = [some (.ref sa), some (.int (n : Int)), some (.str abc), some (.ref p), some (.ref q), some (.int (0 + (i : Int))), some (.int r), some (.str word), none, none] ∧ Ex (upd F1 p (.lst (ws.map V.str))) H' ∧ Wd word ∧ Dr H' sa la ca (T + 20 * i + 12), ?_, ?_⟩
        · refine ⟨_, rfl, rfl, _, rfl, ?_⟩
          by_cases hz : V.int r = V.int 1
          · rw [decide_eq_true hz]
            refine iteT ?_
            refine ⟨_, rfl, Nat.zero_le _, fun x nx => ?_⟩
            have ex5 := exn (o := .lst []) nx
            refine ⟨_, _, dp_strs (SqL.of (ext e5 ex5 _ _ (F1p _))), .lst (SqL.of upd_same) .nil, shaped_words hwd, shaped_nil, _, rfl, ?_⟩
            rw [eqv_nil]
            by_cases hws : ws = []
            · rw [hws]
              refine iteF ?_
              exact ⟨w1, rfl, by rw [← hws]; exact ext e5 ex5, hw1, (D5.new nx).mono (by omega)⟩
            · have hne : (ws.map PyData.str).isEmpty = false := by
                cases ws with
                | nil => exact absurd rfl hws
                | cons a b => rfl
              rw [hne]
              refine iteT ?_
              have hlt : ws.length - 1 < ws.length := by have := List.length_pos_iff.mpr hws; omega
              refine ⟨_, rfl, 1, rfl, p, _, _, .str (ws[ws.length - 1]), rfl, rfl, SqL.of (ext e5 ex5 _ _ (F1p _)), ?_, 5, rfl, _, rfl, ?_, ?_⟩
              · have h1 := atI_last (ws.dropLast.map V.str) (.str (ws[ws.length - 1]))
                have h2 : ws.dropLast ++ [ws[ws.length - 1]] = ws := by
                  rw [← List.getLast_eq_getElem hws]
                  exact List.dropLast_concat_getLast hws
                have h3 : ws.map V.str = ws.dropLast.map V.str ++ [V.str (ws[ws.length - 1])] := by
                  conv => lhs; rw [← h2]
                  rw [List.map_append]
                  rfl
                rw [h3]
                exact h1
              · have := wd_len (hwd _ (List.getElem_mem hlt))
                rw [sizeLine_eq]
                omega
              · refine ⟨_, rfl, _, rfl, upd F1 p (.lst (ws.map V.str)), sa, la, ca, _, _, rfl, ext e5 ex5, n1s _, n1l _, D5.new nx, by omega, .inr ⟨abc, rfl, by decide +kernel, by decide +kernel, fun c H7 hc e7 D7 => ?_⟩⟩
                have hwn := wd_more (hwd _ (List.getElem_mem hlt)) (abc_mem.mp hc)
                refine ⟨_, _, rfl, rfl, ?_, _, rfl, e7, hwn, D7.mono (by omega)⟩
                have h6 := wd_len hwn
                have h7 : (cutS (ws[ws.length - 1]) none (some 5) ++ (⟨#[c]⟩ : Str)).length = (cutS (ws[ws.length - 1]) none (some 5)).length + (⟨#[c]⟩ : Str).length := Array.size_append
                rw [sizeLine_eq]
                omega
          · rw [decide_eq_false hz]
            refine iteF ?_
            refine iteF ?_
            exact ⟨w1, rfl, e5, hw1, D5.mono (by omega)⟩
        · rintro σ H6 ⟨w2, rfl, e6, hw2, D6⟩
          refine ⟨fun σ H' => ∃ word : Str, σ = [some (.ref sa), some (.int (n : Int)), some (.str abc), some (.ref p), some (.ref q), some (.int (0 + (i : Int))), some (.int r), some (.str word), none, none] ∧ Ex (upd F1 p (.lst (ws.map V.str))) H' ∧ Wd word ∧ word ∉ ws ∧ Dr H' sa la ca (T + 20 * i + 12), ?_, ?_⟩
          · refine ⟨_, rfl, _, rfl, p, _, rfl, .inl (SqL.of (e6 _ _ (F1p _))), rfl, flat_strs _, _, rfl, ?_⟩
            rw [if_neg Bool.false_ne_true, inV_str]
            by_cases hin : w2 ∈ ws
            · rw [decide_eq_true hin]
              refine iteT ?_
              refine ⟨_, rfl, abc, rfl, fun Dl nD => ?_⟩
              have nDG : upd F1 p (.lst (ws.map V.str)) Dl = none := exb e6 nD
              have Ds := D6.sne nD
              have Dls := D6.lne nD
              have Dcs := D6.cne nD
              have pD : p ≠ Dl := fun e => by rw [← e, F1p] at nDG; cases nDG
              refine lc_it walk_str (fun j H' => Ex (upd F1 p (.lst (ws.map V.str))) H' ∧ H' Dl = some (.lst (((abc.cps.toList.take j).filter fun c => !decide ((⟨#[c]⟩ : Str) ∈ ws)).map fun c => V.str ⟨#[c]⟩)) ∧ Dr H' sa la ca (T + 20 * i + 12)) ?_ ?_ ?_ ?_
              · exact ⟨exm e6 nDG, upd_same, D6.new nD⟩
              · intros; exact True.intro
              · rintro j x H7 H8 hj ⟨e7, hD7, D7⟩ ⟨rfl, c, hc, rfl⟩
                have hc' : abc.cps.toList[j]? = some c := by rw [← hc]; simp
                have htk : abc.cps.toList.take (j + 1) = abc.cps.toList.take j ++ [c] := by
                  rw [List.take_succ, hc']
                  rfl
                refine ⟨rfl, _, rfl, _, rfl, p, _, rfl, .inl (SqL.of (e7 _ _ (F1p _))), rfl, flat_strs _, _, rfl, ?_⟩
                rw [if_pos rfl, inV_str]
                by_cases hm : (⟨#[c]⟩ : Str) ∈ ws
                · rw [decide_eq_true hm]
                  refine iteF ⟨e7, ?_, D7⟩
                  rw [htk, List.filter_append]
                  simp only [List.filter_cons, List.filter_nil, decide_eq_true hm, Bool.not_true, Bool.false_eq_true, if_false, List.append_nil]
                  exact hD7
                · rw [decide_eq_false hm]
                  refine iteT ⟨_, rfl, _, hD7, ?_, exm e7 nDG, ?_, D7.upd Ds Dls Dcs⟩
                  · rw [List.length_map, sizeLine_eq]
                    have h1 := List.length_filter_le (fun c => !decide ((⟨#[c]⟩ : Str) ∈ ws)) (abc.cps.toList.take j)
                    have h2 := List.length_take_le j abc.cps.toList
                    have h3 : abc.cps.toList.length = 26 := by decide +kernel
                    have h4 := List.length_take_le' j abc.cps.toList
                    omega
                  · rw [upd_same, htk, List.filter_append]
                    simp only [List.filter_cons, List.filter_nil, decide_eq_false hm, Bool.not_false, if_true, List.map_append, List.map_cons, List.map_nil]
              · rintro H7 ⟨e7, hD7, D7⟩
                obtain ⟨c0, hc0, hn0⟩ := free_letter (ws := ws) (by omega)
                have ht : abc.cps.toList.take abc.cps.size = abc.cps.toList := by
                  rw [← Array.length_toList, List.take_length]
                rw [ht] at hD7
                have hmem : c0 ∈ abc.cps.toList.filter fun c => !decide ((⟨#[c]⟩ : Str) ∈ ws) := List.mem_filter.mpr ⟨hc0, by rw [decide_eq_false hn0]; rfl⟩
                cases hf : abc.cps.toList.filter fun c => !decide ((⟨#[c]⟩ : Str) ∈ ws) with
                | nil =>
                  rw [hf] at hmem
                  cases hmem
                | cons c r' =>
                  have hcm : c ∈ abc.cps.toList.filter fun c => !decide ((⟨#[c]⟩ : Str) ∈ ws) := by rw [hf]; exact List.mem_cons_self
                  obtain ⟨hc1, hc2⟩ := List.mem_filter.mp hcm
                  have hc3 : (⟨#[c]⟩ : Str) ∉ ws := by simpa using hc2
                  rw [hf] at hD7
                  exact ⟨Dl, _, 0, _, rfl, rfl, SqL.of hD7, atI_nat (j := 0) rfl, _, rfl, e7, wd_one (abc_mem.mp hc1), hc3, D7⟩
            · rw [decide_eq_false hin]
              exact iteF ⟨w2, rfl, e6, hw2, hin, D6⟩
          · rintro σ H7 ⟨w3, rfl, e7, hw3, hn3, D7⟩
            refine ⟨_, rfl, .inl ⟨rfl, _, SqL.of (e7 _ _ (F1p _))⟩, _, rfl, p, _, _, rfl, rfl, e7 _ _ (F1p _), ?_, ?_⟩
            · rw [List.length_map, sizeLine_eq]
              omega
            · refine ⟨_, _, _, ws ++ [w3], rfl, ?_, ?_, ?_, ?_, ?_⟩
              · rw [List.map_append]
                exact exs e7
              · rw [List.length_append, hlen]
                rfl
              · exact nd_snoc hnd hn3
              · intro x hx
                rcases List.mem_append.mp hx with h' | h'
                · exact hwd x h'
                · rw [List.mem_singleton.mp h']
                  exact hw3
              · exact (D7.upd psa pla (D.cne np)).mono (by omega)
    · rintro σ H2 ⟨y5, y6, y7, ws, rfl, eG, hlen, hnd, hwd, D2⟩
      exact ⟨_, rfl, k p ws H2 np (by omega) hnd hwd (F1x _ _ eG) (eG _ _ (F1p _)) (D2.mono (by omega))⟩
end
end Sn
namespace Sn
open Evl (Ex)
open PySem L2
theorem mk_dkv (la ca : Addr) (r t : Int) : mergeK [] [((Sum.inr ("large" : Str) : Key), V.ref la), (Sum.inr ("cells" : Str), V.ref ca), (Sum.inr ("rest" : Str), V.int r), (Sum.inr ("turn" : Str), V.int t)] = dkv la ca r t := by
  show putK (putK (putK (putK ([] : List (Key × V)) (Sum.inr ("large" : Str)) (V.ref la)) (Sum.inr ("cells" : Str)) (V.ref ca)) (Sum.inr ("rest" : Str)) (V.int r)) (Sum.inr ("turn" : Str)) (V.int t) = _
  have e1 : putK ([] : List (Key × V)) (Sum.inr ("large" : Str)) (V.ref la) = [(Sum.inr ("large" : Str), V.ref la)] := putK_new _ valV_nil
  have e2 : putK ([(Sum.inr ("large" : Str), V.ref la)] : List (Key × V)) (Sum.inr ("cells" : Str)) (V.ref ca) = [(Sum.inr ("large" : Str), V.ref la), (Sum.inr ("cells" : Str), V.ref ca)] := putK_new _ ((valV_neg (kn sLC)).trans valV_nil)
  have e3 : putK ([(Sum.inr ("large" : Str), V.ref la), (Sum.inr ("cells" : Str), V.ref ca)] : List (Key × V)) (Sum.inr ("rest" : Str)) (V.int r) = [(Sum.inr ("large" : Str), V.ref la), (Sum.inr ("cells" : Str), V.ref ca), (Sum.inr ("rest" : Str), V.int r)] := putK_new _ ((valV_neg (kn sLR)).trans ((valV_neg (kn sCR)).trans valV_nil))
  have e4 : putK ([(Sum.inr ("large" : Str), V.ref la), (Sum.inr ("cells" : Str), V.ref ca), (Sum.inr ("rest" : Str), V.int r)] : List (Key × V)) (Sum.inr ("turn" : Str)) (V.int t) = dkv la ca r t := putK_new _ ((valV_neg (kn sLT)).trans ((valV_neg (kn sCT)).trans ((valV_neg (kn sRT)).trans valV_nil)))
  rw [e1, e2, e3, e4]
section
variable {P : Program} {w : World} {K : PySem.W.Frag} {mg : Str → Option Value} {base : Heap}
theorem sc_l_begun : FnScope ["_law_script", "_law_cells", "_law_cell"] ["_law_script"] (defScope s_l_begun) := ⟨rfl, rfl, rfl, by decide +kernel, rfl, by decide +kernel, by decide +kernel⟩
def spBegun (K : PySem.W.Frag) : Sp := fun vs H Q _ => ∃ (a : Addr) (ns : List Int), vs = [.ref a] ∧ SqL K H a (ns.map V.int) ∧ ns.length ≤ 63 ∧
  ∀ (sa la ca : Addr) (H' : Hp), H sa = none → H la = none → H ca = none → Ex H H' → Dr H' sa la ca 0 → Q (.ref sa) H'
theorem ok_begun {f : Addr} {fd : FuncData} (F : Fun K "_law_begun" "_law_begun" s_l_begun f fd) (B : Bt mg) : FnOk P w K mg base CX0 1 f fd ["_law_script"] (spBegun K) := by
  refine F.ok sc_l_begun (fun vs H Q E h => ?_) (fun cdv A outer s H vs Q E hr h => ?_)
  · obtain ⟨_, _, rfl, _⟩ := h
    rfl
  · obtain ⟨a, ns, rfl, hS, hl, k⟩ := h
    refine ⟨_, (pss_cons (ps_setLc (i := 1) (own := [("_law_cell", 2)]) (by rfl) sc_l_begun.nd rfl rfl (sw_true rfl rfl rfl (by decide +kernel)) (pi_list (pv 0)) (blkOk_by (own := [("_law_cell", 2)]) (N := ["_law_script", "_law_cells", "_law_cell"]) (sc := defScope s_l_begun) (by decide +kernel)) (fun _ _ _ _ _ => (pg_name (i := 2) sc_l_begun.nd rfl (Or.inl rfl))) (fun _ _ _ _ _ => pts_nil) (fun _ _ _ _ _ => (pe_callB call_abs (by rfl) B.abs (by decide +kernel) (pa_cons (pv 2) pa_nil))))
      (pss_one (ps_ret (pe_disp (pps_cons pe_str (pe_lc (own := [("_law_cell", 2)]) (by rfl) sc_l_begun.nd (pi_list (pv 1)) (blkOk_by (own := [("_law_cell", 2)]) (N := ["_law_script", "_law_cells", "_law_cell"]) (sc := defScope s_l_begun) (by decide +kernel)) (fun _ _ _ _ _ => (pg_name (i := 2) sc_l_begun.nd rfl (Or.inl rfl))) (fun _ _ _ _ _ => (pts_one (pt_cmpR op_ge (pv 2) (pe_op op_pow pe_int pe_int) (nomark _)))) (fun _ _ _ _ _ => (pe_op op_sub (pv 2) (pe_op op_pow pe_int pe_int)))) (pps_cons pe_str (pv 1) (pps_cons pe_str pe_int (pps_cons pe_str pe_int pps_nil)))) (by rfl) (by rfl) (fun z => by cases z) (by decide))))), ?_⟩
    refine ⟨_, rfl, a, rfl, ⟨_, hS⟩, fun ca nca => ?_⟩
    have abs_ : ∀ z : Int, (if z < 0 then -z else z) = (z.natAbs : Int) := fun z => by omega
    refine lc_list (xs := ns.map V.int) (fun i H' => Ex H H' ∧ H' ca = some (.lst (((ns.take i).map fun z => (z.natAbs : Int)).map V.int))) ⟨exn nca, upd_same⟩ (fun i H' _ p => Evl.ex_l p.1 hS) ?_ ?_
    · rintro i x H1 hi ⟨e1, h1⟩
      rw [List.getElem?_map] at hi
      cases hz : ns[i]? with
      | none => rw [hz] at hi; cases hi
      | some z =>
        rw [hz] at hi
        obtain rfl : V.int z = x := Option.some.inj hi
        have hlt : i < ns.length := (List.getElem?_eq_some_iff.mp hz).1
        refine ⟨rfl, _, rfl, z, rfl, _, h1, ?_, exm e1 nca, ?_⟩
        · rw [List.length_map, List.length_map, sizeLine_eq]
          have := List.length_take_le' i ns
          omega
        · rw [upd_same, abs_, List.take_succ, hz]
          simp
    · rintro H1 ⟨e1, h1⟩
      rw [show (ns.map V.int).length = ns.length from List.length_map _, List.take_length] at h1
      intro sa nsa
      have h1' : upd H1 sa (.dK []) ca = some (.lst ((ns.map fun z => (z.natAbs : Int)).map V.int)) := (exn nsa) _ _ h1
      refine ⟨_, rfl, ca, rfl, ⟨_, SqL.of h1'⟩, fun la nla => ?_⟩
      have slc : sa ≠ la := fun e => by rw [← e, upd_same] at nla; cases nla
      have clc : ca ≠ la := ne_of_none h1' nla
      have csc : ca ≠ sa := ne_of_none h1 nsa
      refine lc_list (xs := (ns.map fun z => (z.natAbs : Int)).map V.int) (fun i H' => Ex (upd H1 sa (.dK [])) H' ∧ ∃ ls : List Int, H' la = some (.lst (ls.map V.int)) ∧ (∀ x ∈ ls, 0 ≤ x) ∧ ls.length ≤ i) ⟨exn nla, [], upd_same, fun _ h => (nomatch h), Nat.le_refl _⟩ (fun i H' _ p => SqL.of (p.1 _ _ h1')) ?_ ?_
      · rintro i x H2 hi ⟨e2, ls, h2, g1, g2⟩
        rw [List.map_map, List.getElem?_map] at hi
        cases hz : ns[i]? with
        | none => rw [hz] at hi; cases hi
        | some z =>
          rw [hz] at hi
          obtain rfl : V.int (z.natAbs : Int) = x := Option.some.inj hi
          have hlt : i < ns.length := (List.getElem?_eq_some_iff.mp hz).1
          refine ⟨rfl, _, rfl, 10, 18, rfl, rfl, ⟨by decide, by decide, by decide⟩, _, _, rfl, rfl, _, rfl, ?_⟩
          by_cases hb : (10 : Int) ^ (18 : Int).toNat ≤ (z.natAbs : Int)
          · rw [decide_eq_true hb]
            refine iteT ?_
            refine ⟨_, rfl, 10, 18, rfl, rfl, ⟨by decide, by decide, by decide⟩, _, _, rfl, rfl, _, h2, ?_, exm e2 nla, ls ++ [(z.natAbs : Int) - 10 ^ (18 : Int).toNat], ?_, ?_, ?_⟩
            · rw [List.length_map, sizeLine_eq]
              omega
            · rw [upd_same, List.map_append]
              rfl
            · intro y hy
              rcases List.mem_append.mp hy with h' | h'
              · exact g1 y h'
              · rw [List.mem_singleton.mp h']
                omega
            · rw [List.length_append]
              show ls.length + 1 ≤ i + 1
              omega
          · rw [decide_eq_false hb]
            refine iteF ?_
            exact ⟨e2, ls, h2, g1, by omega⟩
      · rintro H2 ⟨e2, ls, h2, g1, g2⟩
        have g2' : ls.length ≤ 63 := by
          rw [List.length_map, List.length_map] at g2
          omega
        refine ⟨_, rfl, e2 _ _ upd_same, [((Sum.inr ("large" : Str) : Key), V.ref la), (Sum.inr ("cells" : Str), V.ref ca), (Sum.inr ("rest" : Str), V.int 0), (Sum.inr ("turn" : Str), V.int 0)], rfl, by show 4 ≤ 15; decide, ?_⟩
        rw [mk_dkv]
        have h2a := e2 _ _ h1'
        refine k sa la ca _ (exb e1 nsa) (exb (ext e1 (exn nsa)) nla) nca ?_ ⟨⟨ls, (ns.map fun z => (z.natAbs : Int)), 0, 0, upd_same, ?_, ?_, g1, by decide, by decide, by decide, g2', by rw [List.length_map]; exact hl⟩, slc, csc.symm, clc.symm⟩
        · exact exm (ext e1 (ext (exn nsa) e2)) (exb e1 nsa)
        · rw [upd_ne slc.symm]; exact h2
        · rw [upd_ne csc]; exact h2a
end
end Sn
/-! Errors: raised without arguments, held behind their suite, asked for their class and a field -/
namespace Sn
open Evl (Ex)
open PySem PySem.Spec PyProof.Rows L2
section
variable {X : Cx} {pos : Pos}
/-- X(), X an own exception class without own __init__ -/
theorem pmk_own0 {C : Addr} {bmB : List Value} {B newId initId : String} {x : Str} {p : Pos} (F : ExcBaseFacts B newId initId bmB) (q : PySem.W.excIn X.K C bmB newId = true) (gC : X.mg x = some (.ref C))
    (kC : PySem.W.keepIn X.K (.ref C) = true) (r : Raises X (.ref C)) (hg : Gl X x) (hdb : (x == ("__debug__" : Str)) = false := by decide) :
    PMk X (.Call (.Name x p) [] [] pos) (fun σ H Q => Q (.ref C) none H) := by
  intro pins s σ H Q I h
  refine wpAny_Call_Name_kw (ld_glob I hg gC ?_ hdb)
  refine PySem.W.callWith_K0 I.kIn kC ?_
  show wpAny _ _ (call (.ref C) []) _ _ _
  obtain ⟨bm, N, nm, qn, bs, hdct, sn, sub, ab, col, dd, k0, k1, k2, k3, k5, mN, hC, hN, hni, T⟩ := exc_obj I.kIn q
  refine wpAny_call_exc_subT F T hC hN hni (fun h' e hm => ?_) (by simp)
  exact mk_of I hm r h (I.hok.gone hm.new)
end
/-- an exception that is held -/
def HeldX (cls : Value) (d : Option Addr) (a : Addr) : HO := .ext fun h => ∃ (oe : Obj) (vs : Array Value), h.get? a = some oe ∧ Zc cls d oe ∧ oe.data = .fields vs
theorem heldX_ok {P : Program} {w : World} {H : Hp} {h : Heap} {a : Addr} {cls : Value} {d : Option Addr} {oe : Obj} {vs : Array Value} (e : h.get? a = some oe) (z : Zc cls d oe) (q : oe.data = .fields vs) : ObjOk P w H h a (HeldX cls d a) :=
  ⟨⟨oe, vs, e, z, q⟩, ⟨oe, e⟩, fun h1 h2 ⟨oe, vs, e, z, q⟩ st => ⟨oe, vs, st _ e, z, q⟩⟩
theorem heldX_at {P : Program} {w : World} {H : Hp} {h : Heap} {a : Addr} {cls : Value} {d : Option Addr} (x : HOk P w H h) (e : H a = some (HeldX cls d a)) : ∃ (oe : Obj) (vs : Array Value), h.get? a = some oe ∧ Zc cls d oe ∧ oe.data = .fields vs := (x a _ e).1
section
variable {X : Cx} {pins : List (Addr × Obj)} {σ : L2.St} {H : Hp} {s : Shared}
theorem inv_hold {a : Addr} {cls : Value} {d : Option Addr} {oe : Obj} {vs : Array Value} (I : Inv X pins σ H s) (ha : s.heap.get? a = some oe) (hz : Zc cls d oe) (hd : oe.data = .fields vs) (n0 : X.s_0.heap.get? a = none) (hn : H a = none)
    (hL : a ≠ X.env.locals) (hp : ∀ p ∈ X.pn ++ pins, p.1 ≠ a) : Inv X pins σ (upd H a (HeldX cls d a)) s := by
  have ne0 : ∀ b o, X.s_0.heap.get? b = some o → b ≠ a := fun b o e z => by rw [z, n0] at e; cases e
  have up : ∀ {b u}, H b = some u → upd H a (HeldX cls d a) b = some u := fun {b u} e => by rw [upd_ne (ne_of_none e hn)]; exact e
  refine ⟨I.ok, I.os, I.bare, ⟨I.base.keep, I.base.slot, fun b o e n hx => ?_, I.base.there, fun b xs e => up (I.base.tups b xs e), fun b o u e => up (I.base.frzs b o u e), fun b ps e => ?_⟩, I.loc, I.cell, ?_, fun x c e => ?_, fun p q => ?_, fun b u e => ?_, I.len⟩
  · rw [upd_ne (ne0 b o e)]
    exact I.base.free b o e n hx
  · obtain ⟨m, e1⟩ := I.base.tbls b ps e
    exact ⟨m, up e1⟩
  · rw [upd_ne (Ne.symm hL)]
    exact I.free
  · have hc : c ≠ a := fun z => by
      obtain ⟨v, o, ho, hc⟩ := I.cell x c e
      rw [z, ha] at ho
      cases ho
      rw [hd] at hc
      cases hc
    rw [upd_ne hc]
    exact I.freeC x c e
  · obtain ⟨e1, e2, e3⟩ := I.pin p q
    exact ⟨e1, by rw [upd_ne (hp p q)]; exact e2, e3⟩
  · by_cases hb : b = a
    · subst hb
      rw [upd_same] at e
      cases e
      exact heldX_ok ha hz hd
    · rw [upd_ne hb] at e
      exact (I.hok b u e).stay (fun c v _ q => q) (fun c q => up q) fun c xs q => up q
end
/-- what the clause 'except x as n' wishes where the error is held behind the suite -/
def wHold (K : PySem.W.Frag) (n : Nat) (c : Value) (i : Nat) (ts : Addr → Value → Option Addr → TS) (Wout : WX) (D : Ends) : WX := fun cls d σ H => σ.length = n →
  ∃ b, PySem.W.exmOne K cls c = some b ∧ (b = true → ∀ a, H a = none → ts a cls d { nx := fun σ' H' => D.nx (σ'.set i none) (upd H' a (HeldX cls d a)), rt := fun _ _ => False, bk := fun _ _ => False, ct := fun _ _ => False } (σ.set i (some (.ref a))) H) ∧
    (b = false → Wout cls d σ H)
section
variable {X : Cx} {x n : Str} {c : Value} {i : Nat} {body suite : List Stmt} {b₀ : Stmt} {np pos pos' : Pos} {tb : WX → TS} {ts : Addr → Value → Option Addr → TS} {Wout : WX}
theorem ps_try_hold (hs : X.stack = X.env :: X.outer) (hf : X.env.frame = some X.env.locals) (hx : X.ex = []) (hN : X.N.Nodup) (hi : X.N[i]? = some n) (hln : X.env.kindOf n = some .local) (hc : Names X x c) (tk : Takes X Wout)
    (hb : ∀ (W : WX) (pn : List (Addr × Obj)) (xe : Value → Shared → Prop), Takes (X.tr pn xe) W → PassesOwn (model X.prog X.w) X.A X.env xe → PSs (X.tr pn xe) body (tb W))
    (hsu : ∀ (a : Addr) (oe : Obj) (cls : Value) (d : Option Addr) (pn : List (Addr × Obj)), Zc cls d oe → (∃ vs, oe.data = .fields vs) → PSs (X.suite a ((a, oe) :: pn)) (b₀ :: suite) (ts a cls d)) :
    PS X (.Try body [.ExceptHandler (some (.Name x np)) (some n) (b₀ :: suite) pos'] [] [] pos) (fun D σ H => tb (wHold X.K X.N.length c i ts Wout D) D σ H) := by
  refine ⟨fun pins s σ H D I h => ?_⟩
  have ok := I.ok
  have hfr : X.A.frames = some (X.env :: X.outer) := by rw [ok.frames, hs]
  have hloc : Loc X.env.scope n := .inl hln
  refine wpAny_Try_except ?_
  refine wpAny_mono ((hb (wHold X.K X.N.length c i ts Wout D) (X.pn ++ pins) (fun e s₁ => wpAny (model X.prog X.w) X.A (noteFrame e X.env) (fun _ s₂ => wpAny (model X.prog X.w) X.A (setFlight e none) (fun _ s₃ =>
    wpAny (model X.prog X.w) X.A (handleBy e X.env [.ExceptHandler (some (.Name x np)) (some n) (b₀ :: suite) pos']) (SP X pins D) X.xe s₃) X.xe s₂) X.xe s₁) (fun u s' xx => ?_) PassesOwn.looking).run [] s σ H D (I.toTry _) h) (fun f s1 hsp => ?_) (fun e s1 he => he)
  · -- the catch
    obtain ⟨a, B, sI, pins', σ', H', cls, d, rfl, J', nb, up, sky, na, os, ag, hW⟩ := xx
    obtain ⟨b, hb1, hyes, hno⟩ := hW J'.len
    have J : Inv X pins σ' H' sI := J'.ofTry ok
    have sky' : Sky B (X.env :: X.outer) a (Zc cls d) X.env.locals s'.heap := by rw [← hs]; exact sky
    show wpAny (model X.prog X.w) X.A (noteFrame (.ref a) X.env) _ _ _
    refine Sky.land Zc.steady hfr hf sky' fun h3 fl3 up3 => ?_
    have J3 : Inv X pins σ' H' { s' with heap := h3 } := J.landed nb fl3.1 (up.trans up3) os ag
    obtain ⟨oe3, vs3, he3, hz3, hd3⟩ := fl3.there
    have notFr : ∀ {h : Heap} {o : Obj} {vs : Array Value}, h.FunFrames B (X.env :: X.outer) → h.get? a = some o → o.data = .fields vs → a ∉ frs (X.env :: X.outer) := fun {h o vs} ff e dd hm => by
      obtain ⟨_, o', e', hnf⟩ := ff.mem hm
      rw [e] at e'; cases e'
      exact hnf _ dd
    have nfr := notFr fl3.2.2.1 he3 hd3
    have nL : a ≠ X.env.locals := fun z => nfr (List.mem_filterMap.mpr ⟨X.env, List.mem_cons_self, by rw [hf, z]⟩)
    have nF : a ∉ X.fs := fun hm => by
      obtain ⟨e, he, q⟩ := List.mem_filterMap.mp hm
      exact nfr (List.mem_filterMap.mpr ⟨e, List.mem_cons_of_mem _ he, q⟩)
    have nfs : a ∉ frs X.stack := by rw [hs]; exact nfr
    have nI : sI.heap.get? a = none := by
      cases e : sI.heap.get? a with
      | none => rfl
      | some o =>
        have z := nb a o e nfs
        rw [fl3.2.1] at z
        cases z
    have n0 : X.s_0.heap.get? a = none := by
      cases e : X.s_0.heap.get? a with
      | none => rfl
      | some o =>
        obtain ⟨o', e'⟩ := J.base.there a o e (by rw [hx]; exact fun z => nomatch z)
        rw [nI] at e'
        cases e'
    have npin : ∀ p ∈ X.pn ++ pins, p.1 ≠ a := fun p hp z => by
      obtain ⟨e1, _⟩ := J.pin p hp
      rw [z, nI] at e1
      cases e1
    have S3 := J3.suite he3 hd3 na nL nF
    refine wpAny_handleBy_cons (codeAny_handlers_test ?_) (by intro q; cases q)
    have LT : PySem.W.Looks (model X.prog X.w) h3 (typeOf (.ref a)) cls := fun A Q E s k q => wpAny_typeOf_ref (k _ _ he3) (by rw [hz3.1]; exact q)
    have LM := PySem.W.exm_one (M := model X.prog X.w) (J3.kIn) LT hb1
    have test : ∀ {Q : Value → Shared → Prop} {E : Value → Shared → Prop}, Q c { s' with heap := h3 } → wpAny (model X.prog X.w) (X.A.mark (some (.ref a))) (eval (.Name x np) X.env) Q E { s' with heap := h3 } := fun {Q E} q => by
      obtain ⟨hg, hdbg, hm | ⟨hm, hv, hnn⟩⟩ := hc
      · exact ld_glob (X := X.suite a ((a, oe3) :: (X.pn ++ pins))) S3 hg hm q hdbg
      · exact ld_blt (X := X.suite a ((a, oe3) :: (X.pn ++ pins))) S3 hg hm hv q hnn hdbg
    refine test (LM.here ?_)
    cases b with
    | true =>
      refine codeAny_handlers_suite_as ?_
      refine HandSPX.lands_againZ fl3 fun h4 fl4 up4 => ?_
      have J4 : Inv X pins σ' H' { s' with heap := h4 } := J.landed nb fl4.1 ((up.trans up3).trans up4) os ag
      obtain ⟨oe4, vs4, he4, hz4, hd4⟩ := fl4.there
      have S4 := J4.suite he4 hd4 na nL nF
      refine store_ok (X := X.suite a ((a, oe4) :: (X.pn ++ pins))) (v := .ref a) S4 hN hi hloc rfl (fun s5 S5 => ?_) (.inr hln)
      refine wpAny_mono ((hsu a oe4 cls d (X.pn ++ pins) hz4 ⟨_, hd4⟩).run [] s5 _ H' _ S5 (hyes rfl a na)) (fun f s6 hsp => ?_) (fun _ _ z => False.elim z)
      cases f with
      | next =>
        obtain ⟨σ6, H6, S6, q6⟩ := hsp
        have fin : wpAny (model X.prog X.w) X.A (do bindName X.env n .none; unbindBehindTheSuite X.env n pos') (fun _ s7 => SP X pins D .next s7) X.xe s6 := by
          refine gone_ok (X := X.suite a ((a, oe4) :: (X.pn ++ pins))) (i := i) S6 hN hi hln fun s7 S7 => ?_
          obtain ⟨e7, n7, _⟩ := S7.pin (a, oe4) (List.mem_append_left _ List.mem_cons_self)
          exact ⟨_, _, inv_hold (S7.unsuite ok) e7 hz4 hd4 n0 n7 nL npin, q6⟩
        exact fin
      | brk =>
        obtain ⟨σ6, H6, S6, q6⟩ := hsp
        exact q6.elim
      | cont =>
        obtain ⟨σ6, H6, S6, q6⟩ := hsp
        exact q6.elim
      | ret u =>
        obtain ⟨v6, σ6, H6, S6, r6, q6⟩ := hsp
        exact q6.elim
    | false =>
      show wpAny _ X.A (handleBy (.ref a) X.env []) _ _ _
      refine wpAny_handleBy_nil ?_
      obtain ⟨k1, k2, k3, oe, vs, T, oT, ts', he, hz, hd, h1, hr⟩ := id fl3
      unfold PySem.passOn
      refine wpAny_bind (wpAny_field he hd h1 ?_)
      rw [if_neg (show ¬ ((Value.ref T == Value.none) = true) from by simp)]
      have fin : wpAny (model X.prog X.w) X.A (setFlight (.ref a) X.env.frame) (fun _ s4 => wpAny (model X.prog X.w) X.A (throw (.ref a) : Sem Flow) (SP X pins D) X.xe s4) X.xe { s' with heap := h3 } := by
        rw [hf]
        refine HandSPX.setFlight_upZ fl3 fun h4 hh4 up4 => wpAny_throw (tk _ _ ?_)
        exact ⟨a, B, sI, pins, σ', H', cls, d, rfl, J, nb, (up.trans up3).trans up4, .inr (.inr (by rw [hs]; exact hh4)), na, os, ag, hno rfl⟩
      first
        | exact wpAny_bind (wpAny_pure (wpAny_bind fin))
        | exact wpAny_bind fin
  · cases f with
    | next =>
      obtain ⟨σ', H', J', q⟩ := hsp
      exact wpAny_execs_nil ⟨σ', H', J'.ofTry ok, q⟩
    | brk =>
      obtain ⟨σ', H', J', q⟩ := hsp
      exact ⟨σ', H', J'.ofTry ok, q⟩
    | cont =>
      obtain ⟨σ', H', J', q⟩ := hsp
      exact ⟨σ', H', J'.ofTry ok, q⟩
    | ret u =>
      obtain ⟨v, σ', H', J', r, q⟩ := hsp
      exact ⟨v, σ', H', J'.ofTry ok, r, q⟩
end
/-- a held error's dict, as far as it is known -/
def DOk (H : Hp) (d : Option Addr) : Prop := d = none ∨ ∃ dd fs, d = some dd ∧ H dd = some (.xd fs)
/-- isinstance(e, c), e a held error of the class at D -/
def rIsH (K : PySem.W.Frag) : List V → Hp → VK → Prop := fun xs H Q => ∃ (a D : Addr) (d : Option Addr) (c : V) (cv : Value) (b : Bool), xs = [.ref a, c] ∧ H a = some (HeldX (.ref D) d a) ∧ DOk H d ∧ ExcC K D ∧
  (∀ u, RelV c u → u = cv) ∧ PySem.W.kitOne K (.ref D) cv = some b ∧ Q (.bl b) H
theorem call_isH {X : Cx} : CallR X (.builtin "isinstance") (rIsH X.K) := by
  intro pins s σ H xs us Q I r h
  obtain ⟨a, D, d, c, cv, b, rfl, hH, hd, C, hcv, e, q⟩ := h
  cases r with
  | cons rx rr =>
    cases rr with
    | cons rt rr =>
      cases rr
      cases rx
      have ec := hcv _ rt
      subst ec
      obtain ⟨oe, vs, hget, hz, hv⟩ := heldX_at I.hok hH
      obtain ⟨od, J⟩ : ∃ od, PySem.W.InstAt s.heap a oe D od := by
        obtain ⟨oc, odd, oda, osl⟩ := oe
        obtain ⟨h1, h2⟩ := hz
        dsimp only at h1 h2 hv
        subst h1 h2 hv
        rcases hd with z | ⟨dd, fs, z, hdd⟩
        · subst z
          exact ⟨none, hget, rfl, rfl, trivial⟩
        · subst z
          have hx : ObjOk X.prog X.w H s.heap dd (.xd fs) := I.hok dd _ hdd
          obtain ⟨mA, hns, hr⟩ := hx
          obtain ⟨od, ho, hl⟩ := lookIn_ns hns
          exact ⟨some od, hget, rfl, rfl, ho⟩
      have hcl : (PySem.W.clsIn X.K D).isSome = true := by
        obtain ⟨cd, hc, _⟩ := PySem.W.any_some C.hd
        rw [hc]; rfl
      exact PySem.W.kia_one (PySem.W.kitx_exc hcl C.hg C.hk C.hs C.ha C.hn C.ht C.hm) I.kIn J e (fun z => nomatch z) fun tk => ⟨.bl b, H, I.kept (t' := tk) fun _ _ z => z, rfl, q⟩
/-- e.n of a held error -/
def tHf (K : PySem.W.Frag) (n : Str) (te : TE) : TE := fun σ H Q => te σ H fun x H1 => ∃ (a C dd : Addr) (fs : List (Str × V)) (v : V), x = .ref a ∧ H1 a = some (HeldX (.ref C) (some dd) a) ∧ XfC K C ∧ PySem.W.findIn K (.ref C) n = some none ∧ H1 dd = some (.xd fs) ∧ fs.lookup n = some v ∧ Q v H1
theorem pe_hf {X : Cx} {e : Expr} {te : TE} {pos : Pos} {n : Str} (he : PE X e te) (hb : attributeBase e n X.env (eval e X.env) = eval e X.env := by rfl) : PE X (.Attribute e n pos) (tHf X.K n te) := by
  refine ⟨fun pins s σ H Q I h => ?_⟩
  refine attr_of hb (thn (he.run pins s σ H _ I h) fun u s1 hh => ?_)
  obtain ⟨x, H1, I1, rx, a, C, dd, fs, v, ex, ha, T, hno, ea, l, q⟩ := hh
  subst ex
  obtain rfl : u = Value.ref a := rx
  obtain ⟨oe, vs, hget, hz, hd⟩ := heldX_at I1.hok ha
  have hx : ObjOk X.prog X.w H1 s1.heap dd (.xd fs) := I1.hok dd _ ea
  obtain ⟨mA, hns, hr⟩ := hx
  obtain ⟨od, ho, hl⟩ := lookIn_ns hns
  obtain ⟨u, hu, ru⟩ := RelO.some_of (v := v) (o := mA n) (by rw [← l]; exact hr n)
  have J : PySem.W.InstAt s1.heap a oe C (some od) := ⟨hget, hz.1, by unfold PySem.W.notCls; rw [hd] <;> rfl, by rw [hz.2]; exact ho⟩
  exact HandSPX.exc_get I1.kIn J T.ga T.gg T.exC (PySem.W.findObj_own T.hdC hno rfl (by rw [hl, hu])) (handed_of ru) ⟨v, H1, I1.tok _, ru, q⟩
end Sn
/-! An own error's __init__ that says super().__init__(text) and keeps one field -/
namespace Sn
open Evl (Ex)
open PySem PySem.Spec PyProof.Rows PySem.W L2
/-- def __init__(self, n): super().__init__(m); self.n = n -/
structure SupI (P : Program) (K : PySem.W.Frag) (mg : Str → Option Value) (qual : Str) (st : Stmt) (n : Str) (C f : Addr) (fd : FuncData) : Prop where
  ex : ∃ (oc : Value) (od : Option Addr) (dV kV doc pm : Value) (an : Option Addr) (cda : Addr) (ct : Value) (osl : Array (Option Value)) (cc : Addr) (cl : Value) (cld : Option Addr) (csl : Array (Option Value)) (ccl : Value) (cdd : Option Addr) (ccs : Array (Option Value)) (vs : Array Value) (file : Str) (tf : Tok),
    fd = ksFn "__init__" qual (defArgs st) (defBody st) (defScope st) dV kV doc pm an (.ref cda) ct cc ∧ K.lookup f = some ⟨oc, od, .func fd, osl⟩ ∧ codeIn K (.ref cda) qual = true ∧ K.lookup cda = some ⟨ccl, cdd, .fields vs, ccs⟩ ∧
    vs[2]? = some (.str file tf) ∧ ((P.main.file : Str) == file) = true ∧ K.lookup cc = some ⟨cl, cld, .cell (some (.ref C)), csl⟩
  along : ks_superIn K C C "__init__" = some (some (.builtin "ValueError.__init__"))
  op : nsIn K cStatics "thirdparty.any" = some none
  self : mroIn K C (.ref C) = some true
  subVE : subIn K (.ref C) (.type "ValueError") = some true
  top : (P.main.scope.names.lookup ("super" : Str)).isSome = false
  mgs : mg "super" = none
  T : OexC K C
  no : findIn K (.ref C) n = some none
structure SupS (n : Str) (st : Stmt) : Prop where
  kind : (defScope st).kind = .function
  co : (defScope st).isCoroutine = false
  gen : (defScope st).isGenerator = false
  nocell : ∀ x ∈ (defScope st).names, x.2 ≠ .cell
  sup : (defScope st).names.lookup ("super" : Str) = some .globalImplicit
  cls : (defScope st).names.lookup ("__class__" : Str) = some .free
  slf : (defScope st).names.lookup ("self" : Str) = some .local
  fld : (defScope st).names.lookup n = some .local
  free : ∀ y ∈ (defScope st).names, y.2 = .free → y.1 = ("__class__" : Str)
  hd : ∃ ar : Arg, ((defArgs st).posonlyargs ++ (defArgs st).args).head? = some ar ∧ ar.arg = ("self" : Str)
  body : ∃ (m : Str) (j : Nat) (p0 p1 p2 p3 p4 p5 p6 p7 p8 p9 : Pos), defBody st = [.Expr (.Call (.Attribute (.Call (.Name "super" p0) [] [] p1) "__init__" p2) [.Constant (.str m) j p3] [] p4) p5, .Assign [.Attribute (.Name "self" p6) n p7] (.Name n p8) p9] ∧
    (∃ pl : Env → Sem Bool, ∀ env, eval (.Call (.Attribute (.Call (.Name "super" p0) [] [] p1) "__init__" p2) [.Constant (.str m) j p3] [] p4) env = (do
      let ov ← attributeBase (.Call (.Name "super" p0) [] [] p1) "__init__" env (eval (.Call (.Name "super" p0) [] [] p1) env)
      standAt p2.atName
      let (f, first) ← holding [ov] (getMethod ov "__init__" (pl env))
      callWith p4 f first (backTo p4 (starEach [.Constant (.str m) j p3] env)) [])) ∧
    ∀ env, swapsWith (.Name n p8) (some (.Attribute (.Name "self" p6) n p7)) p9.line env = pure false
  nd : ([("self" : Str), n] : List Str).Nodup
  ndb : (n == ("__debug__" : Str)) = false
  ncd : (n == ("__classdict__" : Str)) = false
def spSup (C : Addr) (n : Str) : Sp := fun vs H Q _ => ∃ (a : Addr) (y : V), vs = [.ref a, y] ∧ H a = some (exo a C none) ∧
  ∀ dx, H dx = none → dx ≠ a → Q .non (upd (upd H dx (exd dx [(n, y)])) a (exo a C (some dx)))
def supCx (CX : CXT) (P : Program) (w : World) (K : PySem.W.Frag) (mg : Str → Option Value) (base : Heap) (n qual : Str) (scope : Scope) (f cda cc : Addr) (A : Around) (outer : List Env) (s : Shared) (H : Hp) (E : XK) : Cx where
  prog := P
  w := w
  K := K
  mg := mg
  base := base
  A := A.deeper (ksEnv qual scope s.heap.objs.size f (.ref cda) cc)
  N := ["self", n]
  s_0 := s
  H_0 := H
  env := ksEnv qual scope s.heap.objs.size f (.ref cda) cc
  outer := outer
  stack := ksEnv qual scope s.heap.objs.size f (.ref cda) cc :: outer
  ex := []
  fn := fun _ => false
  calm := true
  pn := []
  xe := fun e s' => wpAny (model P w) (A.deeper (ksEnv qual scope s.heap.objs.size f (.ref cda) cc)) (leaving (ksEnv qual scope s.heap.objs.size f (.ref cda) cc) e) (fun _ s'' => CX outer H s E e s'') (fun e' s'' => CX outer H s E e' s'') s'
section
variable {P : Program} {w : World} {K : PySem.W.Frag} {mg : Str → Option Value} {base : Heap} {CX : CXT}
theorem sup_start {n qual : Str} {st : Stmt} {f cda cc : Addr} {A : Around} {outer : List Env} {s : Shared} {H : Hp} {E : XK} {h₁ : Heap} {tk : Nat} {a : Addr} {y : V} {u : Value} {D : Addr} {cl : Value} {cld : Option Addr} {csl : Array (Option Value)} (S : SupS n st) (hd : A.handled = none) (e0 : Env0 P w K mg base A outer s H)
    (hcc : K.lookup cc = some ⟨cl, cld, .cell (some (.ref D)), csl⟩) (ry : RelV y u)
    (hns : h₁.Ns s.heap.objs.size fun x => (([("self" : Str), n] : List Str).zip [Value.ref a, u]).reverse.lookup x) (kp : ∀ b o, s.heap.get? b = some o → h₁.get? b = some o) :
    Inv (supCx CX P w K mg base n qual (defScope st) f cda cc A outer s H E) [] [some (.ref a), some y] H { s with heap := h₁, toks := tk } := by
  have noA : ∀ b : Addr, b ∉ (supCx CX P w K mg base n qual (defScope st) f cda cc A outer s H E).ex := fun b z => absurd (show b ∈ ([] : List Addr) from z) (by simp)
  have one : ∀ {x c}, ([(("__class__" : Str), cc)] : List (Str × Addr)).lookup x = some c → x = "__class__" ∧ c = cc := fun {x c} e => by
    have := PySem.mem_of_lookup e
    simpa using this
  have hcb := e0.mod.kin _ _ hcc
  have ncs : n ≠ ("self" : Str) := fun z => by
    have := S.nd
    rw [z] at this
    exact absurd this (by decide)
  refine ⟨⟨e0.mod, S.kind, rfl, rfl, Nat.le_refl _, fun x z c e1 e2 => ?_, fun x hx => ?_, fun x c z _ => ?_, fun _ => hd, Around.frames_deeper e0.frames, .inr ⟨rfl, rfl⟩, fun b z => absurd z (noA b), e0.bs, e0.bsz, fun b _ _ => noA b, fun b z => absurd z (noA b), e0.funs, e0.frf⟩,
    rfl, e0.bare, Un.kept kp, ⟨_, hns, fun i x v e1 e2 e3 => ?_⟩, fun x c e => ?_, e0.hok.fresh (Nat.le_refl _), fun x c e => ?_, fun q hq => absurd (show q ∈ ([] : List (Addr × Obj)) ++ [] from hq) (by simp), e0.hok.kept kp, rfl⟩
  · exact (one e1).1.trans (one e2).1.symm
  · have hx : (defScope st).names.lookup x = some .cell ∨ (defScope st).names.lookup x = some .free := hx
    rcases hx with hx | hx
    · exact absurd rfl (S.nocell _ (PySem.mem_of_lookup hx))
    · have e := S.free _ (PySem.mem_of_lookup hx) rfl
      have e : x = "__class__" := e
      rw [e]
      exact ⟨cc, rfl⟩
  · have z : false = true := z
    cases z
  · match i, e1, e2 with
    | 0, e1, e2 =>
      obtain rfl : ("self" : Str) = x := Option.some.inj e1
      obtain rfl : V.ref a = v := Option.some.inj (Option.some.inj e2)
      refine ⟨.ref a, rfl, .inl ⟨S.slf, ?_⟩⟩
      show List.lookup ("self" : Str) [(n, u), (("self" : Str), Value.ref a)] = _
      rw [List.lookup_cons, show (("self" : Str) == n) = false from by simp [Ne.symm ncs]]
      rfl
    | 1, e1, e2 =>
      obtain rfl : n = x := Option.some.inj e1
      obtain rfl : y = v := Option.some.inj (Option.some.inj e2)
      refine ⟨u, ry, .inl ⟨S.fld, ?_⟩⟩
      show List.lookup n [(n, u), (("self" : Str), Value.ref a)] = _
      rw [List.lookup_cons, beq_self_eq_true]
    | i + 2, e1, e2 => cases e1
  · have := one e
    rw [this.2]
    exact ⟨_, _, kp _ _ (e0.bs _ _ hcb).1, rfl⟩
  · have := one e
    rw [this.2]
    exact (e0.bs _ _ hcb).2
/-- super().__init__(text) -/
theorem sup_first {A : Around} {outer : List Env} {s₀ : Shared} {H₀ : Hp} {E₀ : XK} {pins : List (Addr × Obj)} {σ : L2.St} {H : Hp} {s : Shared} {n qual : Str} {st : Stmt} {C f cda cc a : Addr} {fd : FuncData} {m : Str} {j : Nat} {p0 p1 p2 p3 p4 p5 : Pos} {body : List Stmt} {E : Value → Shared → Prop}
    (F : SupI P K mg qual st n C f fd) (S : SupS n st) (hpl : ∃ pl : Env → Sem Bool, ∀ env, eval (.Call (.Attribute (.Call (.Name "super" p0) [] [] p1) "__init__" p2) [.Constant (.str m) j p3] [] p4) env = (do
      let ov ← attributeBase (.Call (.Name "super" p0) [] [] p1) "__init__" env (eval (.Call (.Name "super" p0) [] [] p1) env)
      standAt p2.atName
      let (f, first) ← holding [ov] (getMethod ov "__init__" (pl env))
      callWith p4 f first (backTo p4 (starEach [.Constant (.str m) j p3] env)) [])) (hσ : σ[0]? = some (some (.ref a)))
    {dV kV doc pm ct : Value} {an : Option Addr} {oc : Value} {od : Option Addr} {osl : Array (Option Value)} {cl : Value} {cld : Option Addr} {csl : Array (Option Value)} {ccl : Value} {cdd : Option Addr} {ccs : Array (Option Value)} {vs : Array Value} {file : Str} {tf : Tok}
    (efd : fd = ksFn "__init__" qual (defArgs st) (defBody st) (defScope st) dV kV doc pm an (.ref cda) ct cc) (lk : K.lookup f = some ⟨oc, od, .func fd, osl⟩) (hcode : K.lookup cda = some ⟨ccl, cdd, .fields vs, ccs⟩) (hvs : vs[2]? = some (.str file tf))
    (hfile : ((P.main.file : Str) == file) = true) (hcell : K.lookup cc = some ⟨cl, cld, .cell (some (.ref C)), csl⟩)
    (I : Inv (supCx CX P w K mg base n qual (defScope st) f cda cc A outer s₀ H₀ E₀) pins σ H s) (hH : H a = some (exo a C none)) :
    _root_.PySem.wpAt (model P w) (A.deeper (ksEnv qual (defScope st) s₀.heap.objs.size f (.ref cda) cc)) (.func body (ksEnv qual (defScope st) s₀.heap.objs.size f (.ref cda) cc)) (exec (.Expr (.Call (.Attribute (.Call (.Name "super" p0) [] [] p1) "__init__" p2) [.Constant (.str m) j p3] [] p4) p5) (ksEnv qual (defScope st) s₀.heap.objs.size f (.ref cda) cc)) (fun fl s' => fl = .next ∧ Inv (supCx CX P w K mg base n qual (defScope st) f cda cc A outer s₀ H₀ E₀) pins σ H s') E s := by
  obtain ⟨nm, qn, N, bs, bm, sn, sub, ab, col, dd, k0, k1, k2, k3, k5, hC, hbm⟩ := F.T.cls
  obtain ⟨t1, ho⟩ := exo_at I.hok hH
  have KX : K.In s.heap := I.kIn
  obtain ⟨ar, har, ear⟩ := S.hd
  obtain ⟨cdC, hcd⟩ : ∃ cd, clsIn K C = some cd := by
    have := F.along
    unfold ks_superIn at this
    cases e : clsIn K C with
    | none => rw [e] at this; cases this
    | some cd => exact ⟨cd, rfl⟩
  obtain ⟨oD, hD1, hD2⟩ : ∃ oD, s.heap.get? C = some oD ∧ oD.data = .cls cdC := by
    have hD := hcd
    unfold clsIn at hD
    split at hD
    · rename_i c d cd' sl ho
      cases hD
      exact ⟨_, KX _ _ ho, rfl⟩
    · cases hD
  have Ia : InstAt s.heap a ({ cls := .ref C, dict := none, data := .fields #[.ref t1, .none, .none, .none, .bool false, .none] } : Obj) C none := ⟨ho, rfl, rfl, trivial⟩
  have nC := ks_ne KX Ia hcd
  obtain ⟨mb, hb1, hb2⟩ := I.mod.blt
  obtain ⟨pl, hpl⟩ := hpl
  refine ks_wpAt_Expr_any (ks_wpAt_MethodCall ?_ (hpl _)) (hi := by unfold interactive; rw [show (ksEnv qual (defScope st) s₀.heap.objs.size f (.ref cda) cc).scope.kind = .function from S.kind]; rfl)
  refine ks_wpAt_super_base (f := f) (cc := cda) (fd := fd) (ar := ar) S.sup S.cls (by decide +kernel) rfl (KX _ _ lk) rfl (by rw [efd]; exact har) rfl (KX _ _ hcode) rfl hvs hfile F.top ?_
  refine ks_loadName_global S.kind S.sup (Calls.loadGlobal_builtin (I.mod.glob.keeps I.bk) F.mgs (hb1.keeps I.bk) ((hb2 "super" (by decide)).trans (show bootBuiltins "super" = some (.type "super") from by kernel_rfl)) ⟨rfl, ?_⟩)
  refine wpAny_loadName_free S.kind S.cls rfl ⟨_, KX _ _ hcell, rfl⟩ ?_
  obtain ⟨mL, hnL, hlk⟩ := id I.loc
  obtain ⟨u0, ru, q0⟩ := hlk 0 "self" (.ref a) rfl hσ (.inl S.slf)
  obtain rfl : u0 = Value.ref a := ru
  have hml : mL ar.arg = some (.ref a) := by
    rw [ear]
    rcases q0 with ⟨_, e⟩ | ⟨_, c, e, _⟩
    · exact e
    · have e : List.lookup ("self" : Str) [(("__class__" : Str), cc)] = some c := e
      have z := PySem.mem_of_lookup e
      rw [List.mem_singleton] at z
      exact absurd (show ("self" : Str) = "__class__" from congrArg Prod.fst z) (by decide)
  refine wpAny_loadName_local S.kind (by rw [ear]; exact S.slf) hnL hml ?_
  refine ks_wpAny_isType_cls hD1 hD2 ⟨rfl, ?_⟩
  obtain ⟨hp, g, d, t, os⟩ := s
  refine ks_wpAny_call_super hD1 hD2 Ia.at_ Ia.cls (fun c e => by cases e) (looks_mroIn KX F.self) (fun h1 e1 kp1 => ?_)
  have I1 : Inv (supCx CX P w K mg base n qual (defScope st) f cda cc A outer s₀ H₀ E₀) pins σ H ⟨h1, g, d, t, os⟩ := I.kept (t' := t) kp1
  have KX1 : K.In h1 := I1.kIn
  obtain ⟨t2, ho1⟩ := exo_at I1.hok hH
  have Ia1 : InstAt h1 a ({ cls := .ref C, dict := none, data := .fields #[.ref t2, .none, .none, .none, .bool false, .none] } : Obj) C none := ⟨ho1, rfl, rfl, trivial⟩
  have hal : alongIn K "__init__" ((cdC.mro.dropWhile (· != .ref C)).drop 1) = some (some (.builtin "ValueError.__init__")) := by
    have := F.along
    unfold ks_superIn at this
    rw [hcd] at this
    exact this
  refine kxs_getMethod kxs_ValueError e1 (looks_opaque KX1 F.op) (l₀ := cdC.mro) (fun A Q E s k q => wpAny_bind ((looks_clsIn KX1 hcd) A _ E s k (wpAny_pure q))) rfl KX1 hal (Ia1.type.andThen (looks_subIn KX1 F.subVE)) nC (by decide +kernel) ?_
  have kp2 : ∀ b o, h1.get? b = some o → (h1.push (kxs_mw "ValueError.__init__" a)).get? b = some o := fun b o e => Heap.get?_push_of_some _ e
  have I2 : Inv (supCx CX P w K mg base n qual (defScope st) f cda cc A outer s₀ H₀ E₀) pins σ H ⟨h1.push (kxs_mw "ValueError.__init__" a), g, d, t + 1, os⟩ := I1.kept (t' := t + 1) kp2
  have hu : (h1.push (kxs_mw "ValueError.__init__" a)).get? h1.objs.size = some (kxs_mw "ValueError.__init__" a) := Heap.get?_push_at rfl rfl
  show wpAny _ _ (callWith p4 (.ref h1.objs.size) [] (backTo p4 (starEach [.Constant (.str m) j p3] _)) []) _ _ _
  refine kxs_callWith (i := "ValueError.__init__") (x := a) rfl (Calls.evalArgs_plain ?_)
  have ha : PA (supCx CX P w K mg base n qual (defScope st) f cda cc A outer s₀ H₀ E₀).nox [.Constant (.str m) j p3] (tCons (tC (.str m)) tNil) := pa_cons pe_str pa_nil
  refine wpAny_mono (ha.run p4 ((h1.objs.size, kxs_mw "ValueError.__init__" a) :: pins) _ σ H (fun vs H1 => vs = [V.str m] ∧ H = H1) (Inv.wish ⟨I2.ok, I2.os, I2.bare, I2.base, I2.loc, I2.cell, I2.free, I2.freeC, fun q hq => ?_, I2.hok, I2.len⟩ _) ⟨rfl, rfl⟩) (fun us s3 hh => ?_) fun _ _ z => z.elim
  · rcases List.mem_cons.mp hq with e | hq
    · subst e
      refine ⟨hu, I1.hok.fresh (Nat.le_refl _), fun z => ?_, fun z => ?_, fun v z => by cases z⟩
      · have := I1.lt
        rw [← z] at this
        exact absurd this (Nat.lt_irrefl _)
      · exact I1.nofs (Nat.le_refl _) z
    · exact I2.pin q hq
  obtain ⟨vs3, H3, J3, r3, ev, eH⟩ := hh
  subst ev
  rw [← eH] at J3
  obtain ⟨hu3, _⟩ := J3.pin (h1.objs.size, kxs_mw "ValueError.__init__" a) (List.mem_append_right _ List.mem_cons_self)
  have I3 : Inv (supCx CX P w K mg base n qual (defScope st) f cda cc A outer s₀ H₀ E₀) pins σ H s3 := by
    have z := J3.unwish
    exact ⟨z.ok, z.os, z.bare, z.base, z.loc, z.cell, z.free, z.freeC, fun q hq => z.pin q (List.mem_cons_of_mem _ hq), z.hok, z.len⟩
  refine ⟨hu3, ?_⟩
  cases r3 with
  | cons ru rn =>
    rename_i um us'
    cases rn
    show wpAny _ _ (call (.ref h1.objs.size) [um] []) _ _ _
    obtain ⟨t3, ho3⟩ := exo_at I3.hok hH
    have KX3 : K.In s3.heap := I3.kIn
    have hC3 := KX3 _ _ hC
    obtain ⟨hp3, g3, d3, tk3, os3⟩ := s3
    refine wpAny_call (codeAny_of_tree ?_)
    show wpAny _ _ (callAny (.ref h1.objs.size) ⟨[um], []⟩) _ _ _
    simp only [callAny]
    refine wpAny_bind (wpAny_load hu3 ?_)
    simp only [kxs_mw, show (Value.type "method-wrapper" == Value.type "method" || Value.type "method-wrapper" == Value.type "builtin_function_or_method" || Value.type "method-wrapper" == Value.type "method-wrapper") = true by decide, if_true]
    refine KFB.if_so (by decide) ?_
    refine wpAny_bind (check_bound_init _root_.PySem.F.excBase_ValueError.toExcCallFacts hC3 ho3 rfl ?_)
    refine wpAny_bind (wpAny_pure (wpAny_pure ?_))
    refine ⟨plainId_quiet _root_.PySem.F.excBase_ValueError.init.plain _, codeAny_builtin _root_.PySem.F.excBase_ValueError.initEntry ?_⟩
    refine exc_init_tree (cls := .ref C) (t0 := t3) (dv := none) (c2 := .none) (c3 := .none) (b4 := .bool false) ho3 (by show 1 ≤ sizeLine; rw [sizeLine_eq]; omega) fun h' k e' t' => ?_
    have J := I3.write (t' := tk3) (x := a) (e := a) (o := exo a C none) (by rw [hH]; exact True.intro) (.inl rfl) k ⟨_, e'⟩ (exo_ok e')
    have eu : upd H a (exo a C none) = H := by
      funext b
      by_cases hb : b = a
      · rw [hb, upd_same, hH]
      · rw [upd_ne hb]
    rw [eu] at J
    exact ⟨trivial, J⟩
theorem SupI.ok {n qual : Str} {st : Stmt} {C f : Addr} {fd : FuncData} {k : Nat} (F : SupI P K mg qual st n C f fd) (S : SupS n st) : FnOk P w K mg base CX k f fd ["self", n] (spSup C n) := by
  refine ⟨fun vs H Q E h => ?_, fun A outer s H args us vs Q E hr e0 hb r h => ?_⟩
  · obtain ⟨_, _, rfl, _⟩ := h
    rfl
  obtain ⟨a, y, rfl, hH, hQ⟩ := h
  cases r with
  | cons ra rr =>
    cases rr with
    | cons ry rr =>
      cases rr
      rename_i ua u
      obtain rfl : ua = Value.ref a := ra
      obtain ⟨oc, od, dV, kV, doc, pm, an, cda, ct, osl, cc, cl, cld, csl, ccl, cdd, ccs, vs, file, tf, efd, lk, hcd, hcode, hvs, hfile, hcell⟩ := F.ex
      have KX : K.In s.heap := e0.mod.kin.keeps fun b o e => (e0.bs b o e).1
      have lim : s.heap.NoLimit := e0.mod.nolimit.keeps fun b o e => (e0.bs b o e).1
      have lk' := lk
      rw [efd] at lk' hb
      refine ks_codeAny_call_defAt (body := defBody st) (binds := ([("self" : Str), n] : List Str).zip [Value.ref a, u]) hr.depth (KX _ _ lk') rfl lim (PySem.W.codeRec_of KX hcd) rfl hb S.nocell (fun x hx => ?_) (fun h₁ hns kp => ?_) S.co S.gen S.kind
      · rcases List.mem_cons.mp hx with e | hx
        · subst e; exact S.slf
        · rcases List.mem_cons.mp hx with e | hx
          · subst e; exact S.fld
          · cases hx
      have J : Inv (supCx CX P w K mg base n qual (defScope st) f cda cc A outer s H E) [] [some (.ref a), some y] H { s with heap := h₁, toks := s.toks + (([("self" : Str), n] : List Str).zip [Value.ref a, u]).length } := sup_start S hr.hd e0 hcell ry hns kp
      obtain ⟨m, j, p0, p1, p2, p3, p4, p5, p6, p7, p8, p9, hbody, hpl, hsw⟩ := S.body
      rw [hbody]
      refine ks_wpAt_execs_cons (_root_.PySem.wpAt_mono (sup_first (m := m) (p5 := p5) F S hpl rfl efd lk hcode hvs hfile hcell J hH) (fun fl s' hq => ?_) fun _ _ z => z)
      obtain ⟨rfl, J1⟩ := hq
      refine _root_.PySem.wpAt_of_wpAny ?_
      have hp : PSs (supCx CX P w K mg base n qual (defScope st) f cda cc A outer s H E) [.Assign [.Attribute (.Name "self" p6) n p7] (.Name n p8) p9] _ :=
        pss_one (ps_ost (pe_var (i := 0) rfl (.inl S.slf)) (pe_var (i := 1) rfl (.inl S.fld) S.ndb S.ncd) (hsw _))
      refine wpAny_mono (hp.run [] s' _ H { nx := fun _ H' => Q .non H', rt := Q } J1 ⟨y, rfl, .ref a, rfl, a, C, rfl, F.T, F.no, .inl ⟨hH, fun dx n1 n2 => hQ dx n1 n2⟩⟩) (fun fl s'' hs => ?_) fun e s'' hs => hs
      have fin : ∀ {σ' : L2.St} {H' : Hp} {v : V} {u : Value}, Inv (supCx CX P w K mg base n qual (defScope st) f cda cc A outer s H E) [] σ' H' s'' → L2.RelV v u → Q v H' → CE outer P w H s Q u s'' :=
        fun {σ' H' v u} J rv q => ⟨v, H', J.os, J.bare, J.base, J.hok, rv, q⟩
      cases fl with
      | ret u =>
        obtain ⟨v, σ', H', J, rv, q⟩ := hs
        exact fin J rv q
      | next =>
        obtain ⟨σ', H', J, q⟩ := hs
        exact fin (v := V.non) (u := Value.none) J rfl q
      | brk =>
        obtain ⟨_, _, _, q⟩ := hs
        exact False.elim q
      | cont =>
        obtain ⟨_, _, _, q⟩ := hs
        exact False.elim q
end
end Sn
/-! the laws' ear: which error a call raises -/
namespace Sn
open Evl (Ex)
open PySem PySem.Spec PyProof.Rows L2 LamX
section
variable {X : Cx}
theorem count_eqU {y : V} : ∀ {ys : List V} {us : List Value}, Vals ys us → ys.all flatV = true → us.countP (eqU y) = ys.countP (fun z => eqV z y)
  | _, _, .nil, _ => rfl
  | _, _, .cons ru rt, f => by
    rw [List.all_cons, Bool.and_eq_true] at f
    rw [List.countP_cons, List.countP_cons, count_eqU rt f.2, eqU_of ru f.1]
/-- xs.count(y), flat items -/
def rCountV (K : PySem.W.Frag) : V → List V → Hp → VK → Prop := fun x xs H Q => ∃ (a : Addr) (ys : List V) (y : V), x = V.ref a ∧ xs = [y] ∧ SqL K H a ys ∧ flatV y = true ∧ ys.all flatV = true ∧ Q (.int (ys.countP (fun z => eqV z y) : Nat)) H
theorem mt_countV : MtR X "list.count" (rCountV X.K) := by
  intro pins s σ H x xs v us Q I rx rxs h
  obtain ⟨a, ys, y, rfl, rfl, hs, fy, fys, q⟩ := h
  cases rx
  cases rxs with
  | cons ry rt =>
    rename_i uy ut
    cases rt
    obtain ⟨its, rv, ⟨⟨cls, dd, data, sl⟩, n, ho, hc, hdn, hd⟩, hlen⟩ := I.list hs
    simp only at hc hd
    subst hc hd
    refine call_meets PySem.F.slot_list_count ⟨_, ho, rfl⟩ PySem.F.entry_list_count (PySem.F.args_list_count_2 _ _)
      (SeqAt.list_countAt a its.toArray n dd sl uy (eqU y)) ⟨ho, fun u' hu' => mem_eqAt ry fy rv fys u' (by simpa using hu'), ?_⟩
    refine ⟨.int (ys.countP (fun z => eqV z y) : Nat), H, I.tok _, ⟨s.toks, ?_⟩, q⟩
    rw [← count_eqU rv fys]
end
/-- the error classes, by number, as the ear asks for them -/
def errN : Nat → Str
  | 0 => "NoEdition" | 1 => "NoState" | 2 => "NoLift" | 3 => "NoBook" | 4 => "NoNumber" | 5 => "TwoPasts" | 6 => "NoPlan" | 7 => "NoHands" | 8 => "NoKey" | 9 => "NothingLeft" | 10 => "NoText" | 11 => "NoKind" | 12 => "NoHistory" | _ => "NotRight"
/-- their words -/
def errW : Nat → Str
  | 0 => "edition" | 1 => "state" | 2 => "lift" | 3 => "book" | 4 => "number" | 5 => "pasts" | 6 => "plan" | 7 => "hands" | 8 => "key" | 9 => "nothing" | 10 => "text" | 11 => "kind" | 12 => "history" | _ => "right"
/-- the error classes: e gives their addresses, those of Is can be raised -/
structure ErrF (K : PySem.W.Frag) (mg : Str → Option Value) (e : Nat → Addr) (CS : Addr) (Is : List Nat) : Prop where
  nm : ∀ i, i < 14 → mg (errN i) = some (.ref (e i))
  snap : mg "SnapError" = some (.ref CS)
  lt : ∀ i ∈ Is, i < 14
  is : ∀ i ∈ Is, ∀ j, j < 14 → PySem.W.kitOne K (.ref (e i)) (.ref (e j)) = some (decide (i = j))
  ve : ∀ i ∈ Is, PySem.W.kitOne K (.ref (e i)) (.type "ValueError") = some true
  sn : ∀ i ∈ Is, PySem.W.exmOne K (.ref (e i)) (.ref CS) = some true
  ec : ∀ i ∈ Is, ExcC K (e i)
  xf : ∀ i ∈ Is, 11 ≤ i → XfC K (e i)
  at11 : 11 ∈ Is → PySem.W.findIn K (.ref (e 11)) "at" = some none
  at12 : 12 ∈ Is → PySem.W.findIn K (.ref (e 12)) "at" = some none
  at13 : 13 ∈ Is → PySem.W.findIn K (.ref (e 13)) "history" = some none
/-- what the ear's caller is told of an error -/
def EHd (e : Nat → Addr) (Is : List Nat) (Q : VK) : XK := fun cls d H' => ∃ i ∈ Is, cls = .ref (e i) ∧
  ((i < 11 ∧ d = none ∧ ∀ p H'', Ex H' H'' → H' p = none → H'' p = some (.tup [.str (errW i), .non]) → Q (.ref p) H'') ∨
   ((i = 11 ∨ i = 12) ∧ ∃ dd fs v, d = some dd ∧ H' dd = some (.xd fs) ∧ fs.lookup ("at" : Str) = some v ∧ ∀ p H'', Ex H' H'' → H' p = none → H'' p = some (.tup [.str (errW i), v]) → Q (.ref p) H'') ∨
   (i = 13 ∧ ∃ dd fs v, d = some dd ∧ H' dd = some (.xd fs) ∧ fs.lookup ("history" : Str) = some v ∧ ∀ p H'', Ex H' H'' → H' p = none → H'' p = some (.tup [.str (errW i), v]) → Q (.ref p) H''))
/-- what the ear makes of the reading of what it calls -/
def THd (e : Nat → Addr) (Is : List Nat) : (XK → Hp → VK → Prop) → Hp → VK → Prop := fun tl H Q =>
  ∀ (H0 : Hp) (Ech : XK) (Kc : VK), Ex H H0 → (∀ cls d H', EHd e Is Q cls d H' → Ech cls d H') → (∀ v H', (∀ p, H' p = none → Q (.ref p) (upd H' p (.tup [.str "told", v]))) → Kc v H') → tl Ech H0 Kc
end Sn
namespace Sn
open Evl (Ex)
open PySem PySem.Spec PyProof.Rows L2 LamX
abbrev s_l_heard : Stmt := top 38
theorem sc_l_heard : FnScope ["_law_work", "_law_found", "_law_caught", "e", "_law_marks", "_law_words_here"] ["_law_work"] (defScope s_l_heard) := ⟨rfl, rfl, rfl, by decide +kernel, rfl, by decide +kernel, by decide +kernel⟩
section
variable {X : Cx}
def mk (i j : Nat) : V := .bl (decide (i = j))
theorem heard_gives {g CS : Addr} {cdg : Value} {q : Str} {e : Nat → Addr} {Is : List Nat} (T : ErrF X.K X.mg e CS Is) (B : Bt X.mg) :
    GivesTo X ["_law_work", "_law_found", "_law_caught", "e", "_law_marks", "_law_words_here"] "_law_heard" (defScope s_l_heard) g cdg (defBody s_l_heard) "_law_work" q (THd e Is) := by
  intro f c' s H Q tl act hc h
  refine ⟨_, (pss_cons (ps_asg (pe_tup (pa_cons pe_non (pa_cons pe_non pa_nil))) (pg_tup rfl (pgs_cons (pg_name (i := 1) sc_l_heard.nd rfl (.inl rfl)) (pgs_cons (pg_name (i := 2) sc_l_heard.nd rfl (.inl rfl)) pgs_nil))))
      (pss_cons (ps_try_hold (c := .ref CS) (i := 3) rfl rfl rfl sc_l_heard.nd rfl rfl ⟨rfl, by decide, .inl T.snap⟩ L2.takes0
          (tb := fun W D σ H => ∃ Ech : XK, (∀ cls d σ' H', Ech cls d H' → W cls d σ' H') ∧ σ[0]? = some (some (.ref f)) ∧ H c' = some (CodeO c' q) ∧ tl Ech H (fun v H' => D.nx (σ.set 1 (some v)) H'))
          (fun W pn xe tk _ => ⟨fun pins s' σ H' D I h' => ?tr⟩) (fun a oe cls d pn _ _ => pss_one (ps_set (i := 2) sc_l_heard.nd rfl (.inl rfl) (pv 3))))
      (pss_cons (ps_if (pt_cmpR op_isN (pv 2) pe_non (nomark _))
        (pss_one (ps_ret (pe_tup (pa_cons pe_str (pa_cons (pv 1) pa_nil)))))
        pss_nil)
      (pss_cons (ps_set (i := 4) sc_l_heard.nd rfl (.inl rfl) (pe_lst (pa_cons (pe_callB call_isH (by rfl) B.isi PyProof.Rows.boot_isinstance (pa_cons (pv 2) (pa_cons (pe_glob (v := .ref (e 0)) rfl (T.nm 0 (by decide)) rfl) pa_nil))) (pa_cons (pe_callB call_isH (by rfl) B.isi PyProof.Rows.boot_isinstance (pa_cons (pv 2) (pa_cons (pe_glob (v := .ref (e 1)) rfl (T.nm 1 (by decide)) rfl) pa_nil))) (pa_cons (pe_callB call_isH (by rfl) B.isi PyProof.Rows.boot_isinstance (pa_cons (pv 2) (pa_cons (pe_glob (v := .ref (e 2)) rfl (T.nm 2 (by decide)) rfl) pa_nil))) pa_nil)))))
      (pss_cons (ps_set (i := 4) sc_l_heard.nd rfl (.inl rfl) (pe_op op_cat (pv 4) (pe_lst (pa_cons (pe_callB call_isH (by rfl) B.isi PyProof.Rows.boot_isinstance (pa_cons (pv 2) (pa_cons (pe_glob (v := .ref (e 3)) rfl (T.nm 3 (by decide)) rfl) pa_nil))) (pa_cons (pe_callB call_isH (by rfl) B.isi PyProof.Rows.boot_isinstance (pa_cons (pv 2) (pa_cons (pe_glob (v := .ref (e 4)) rfl (T.nm 4 (by decide)) rfl) pa_nil))) (pa_cons (pe_callB call_isH (by rfl) B.isi PyProof.Rows.boot_isinstance (pa_cons (pv 2) (pa_cons (pe_glob (v := .ref (e 5)) rfl (T.nm 5 (by decide)) rfl) pa_nil))) pa_nil))))))
      (pss_cons (ps_set (i := 4) sc_l_heard.nd rfl (.inl rfl) (pe_op op_cat (pv 4) (pe_lst (pa_cons (pe_callB call_isH (by rfl) B.isi PyProof.Rows.boot_isinstance (pa_cons (pv 2) (pa_cons (pe_glob (v := .ref (e 6)) rfl (T.nm 6 (by decide)) rfl) pa_nil))) (pa_cons (pe_callB call_isH (by rfl) B.isi PyProof.Rows.boot_isinstance (pa_cons (pv 2) (pa_cons (pe_glob (v := .ref (e 7)) rfl (T.nm 7 (by decide)) rfl) pa_nil))) (pa_cons (pe_callB call_isH (by rfl) B.isi PyProof.Rows.boot_isinstance (pa_cons (pv 2) (pa_cons (pe_glob (v := .ref (e 8)) rfl (T.nm 8 (by decide)) rfl) pa_nil))) pa_nil))))))
      (pss_cons (ps_set (i := 4) sc_l_heard.nd rfl (.inl rfl) (pe_op op_cat (pv 4) (pe_lst (pa_cons (pe_callB call_isH (by rfl) B.isi PyProof.Rows.boot_isinstance (pa_cons (pv 2) (pa_cons (pe_glob (v := .ref (e 9)) rfl (T.nm 9 (by decide)) rfl) pa_nil))) (pa_cons (pe_callB call_isH (by rfl) B.isi PyProof.Rows.boot_isinstance (pa_cons (pv 2) (pa_cons (pe_glob (v := .ref (e 10)) rfl (T.nm 10 (by decide)) rfl) pa_nil))) (pa_cons (pe_callB call_isH (by rfl) B.isi PyProof.Rows.boot_isinstance (pa_cons (pv 2) (pa_cons (pe_glob (v := .ref (e 11)) rfl (T.nm 11 (by decide)) rfl) pa_nil))) pa_nil))))))
      (pss_cons (ps_set (i := 4) sc_l_heard.nd rfl (.inl rfl) (pe_op op_cat (pv 4) (pe_lst (pa_cons (pe_callB call_isH (by rfl) B.isi PyProof.Rows.boot_isinstance (pa_cons (pv 2) (pa_cons (pe_glob (v := .ref (e 12)) rfl (T.nm 12 (by decide)) rfl) pa_nil))) (pa_cons (pe_callB call_isH (by rfl) B.isi PyProof.Rows.boot_isinstance (pa_cons (pv 2) (pa_cons (pe_glob (v := .ref (e 13)) rfl (T.nm 13 (by decide)) rfl) pa_nil))) pa_nil)))))
      (pss_cons (ps_if (PW.pt (pw_or (pt_cmpR op_ne (pe_bm PySem.F.plainAttrs_list PySem.F.slot_list_count PySem.F.type_list_count mt_countV (pv 4) (pa_cons pe_bl pa_nil)) pe_int (nomark _)) (pw_or1 (pt_not (pt_val (pe_callB call_isH (by rfl) B.isi PyProof.Rows.boot_isinstance (pa_cons (pv 2) (pa_cons (pe_bltn (v := .ty "ValueError") (by rfl) B.ValueError (by decide +kernel) rfl) pa_nil))))))))
        (pss_one (ps_ret (pe_tup (pa_cons pe_str (pa_cons pe_non pa_nil)))))
        pss_nil)
      (pss_cons (ps_if (PW.pt (pw_or (pt_val (pe_ix ix_list (pv 4) pe_int (fun _ _ => rfl))) (pw_or1 (pt_val (pe_ix ix_list (pv 4) pe_int (fun _ _ => rfl))))))
        (pss_one (ps_ret (pe_tup (pa_cons (pe_ifExp (pt_val (pe_ix ix_list (pv 4) pe_int (fun _ _ => rfl))) pe_str pe_str) (pa_cons (pe_hf (pv 2)) pa_nil)))))
        pss_nil)
      (pss_cons (ps_if (pt_val (pe_ix ix_list (pv 4) pe_int (fun _ _ => rfl)))
        (pss_one (ps_ret (pe_tup (pa_cons pe_str (pa_cons (pe_hf (pv 2)) pa_nil)))))
        pss_nil)
      (pss_cons (ps_set (i := 5) sc_l_heard.nd rfl (.inl rfl) (pe_lst (pa_cons pe_str (pa_cons pe_str (pa_cons pe_str (pa_cons pe_str (pa_cons pe_str (pa_cons pe_str (pa_cons pe_str (pa_cons pe_str (pa_cons pe_str (pa_cons pe_str (pa_cons pe_str pa_nil)))))))))))))
      (pss_one (ps_ret (pe_tup (pa_cons (pe_ix ix_list (pv 5) (pe_bm PySem.F.plainAttrs_list PySem.F.slot_list_index PySem.F.type_list_index mt_index (pv 4) (pa_cons pe_bl pa_nil)) (fun _ _ => rfl)) (pa_cons pe_non pa_nil))))))))))))))))), ?_⟩
  case tr =>
    obtain ⟨Ech, hW, h1, h2, h3⟩ := h'
    exact (pss_one (ps_set (i := 1) sc_l_heard.nd rfl (.inl rfl) (act W pn xe Ech _ _ tk hW))).run pins s' σ H' D I ⟨h1, h2, h3⟩
  refine ⟨by simp [sizeLine_eq], fun p0 n0 => ⟨p0, [.non, .non], rfl, SqT.of upd_same, rfl, _, _, rfl, _, _, rfl, rfl, ?_⟩⟩
  have cp : c' ≠ p0 := ne_of_none hc n0
  refine ⟨_, fun cls d σ' H' hE => hE σ', rfl, (exn n0) _ _ hc, h _ (fun cls d H' => ∀ σ', _) _ (exn n0) (fun cls d H' hE σ' hl => ?err) (fun v H' hq => ?told)⟩
  case told =>
    refine ⟨_, rfl, rfl, _, rfl, ?_⟩
    rw [decide_eq_true rfl]
    refine iteT ?_
    exact ⟨_, rfl, by simp [sizeLine_eq], fun p np => hq p np⟩
  obtain ⟨i, hi, rfl, hE⟩ := hE
  have i14 := T.lt i hi
  refine ⟨true, T.sn i hi, fun _ a na => ?_, fun z => by cases z⟩
  obtain ⟨s0, s1, s2, s3, s4, s5, rfl⟩ : ∃ s0 s1 s2 s3 s4 s5, σ' = [s0, s1, s2, s3, s4, s5] := by
    match σ', hl with
    | [s0, s1, s2, s3, s4, s5], _ => exact ⟨s0, s1, s2, s3, s4, s5, rfl⟩
  have hD : DOk H' d := by
    rcases hE with ⟨_, z, _⟩ | ⟨_, dd, fs, v, z, z2, _⟩ | ⟨_, dd, fs, v, z, z2, _⟩
    · exact .inl z
    · exact .inr ⟨dd, fs, z, z2⟩
    · exact .inr ⟨dd, fs, z, z2⟩
  refine ⟨_, rfl, ?_⟩
  have nad : ∀ {b u}, H' b = some u → upd H' a (HeldX (.ref (e i)) d a) b = some u := fun {b u} z => (exn na) _ _ z
  -- no longer None
  refine ⟨_, rfl, rfl, _, rfl, ?_⟩
  rw [decide_eq_false (fun z => by cases z)]
  refine iteF ?_
  have up : ∀ {H1 H2 : Hp} {p : Addr} {o : HO}, (H1 a = some (HeldX (.ref (e i)) d a) ∧ DOk H1 d ∧ Ex H' H1) → H1 p = none → (upd H1 p o) a = some (HeldX (.ref (e i)) d a) ∧ DOk (upd H1 p o) d ∧ Ex H' (upd H1 p o) := fun {H1 H2 p o} ⟨x, y, z⟩ n => by
    refine ⟨(exn n) _ _ x, ?_, ext z (exn n)⟩
    rcases y with y | ⟨dd, fs, y1, y2⟩
    · exact .inl y
    · exact .inr ⟨dd, fs, y1, (exn n) _ _ y2⟩
  have k0 : upd H' a (HeldX (.ref (e i)) d a) a = some (HeldX (.ref (e i)) d a) ∧ DOk (upd H' a (HeldX (.ref (e i)) d a)) d ∧ Ex H' (upd H' a (HeldX (.ref (e i)) d a)) := by
    refine ⟨upd_same, ?_, exn na⟩
    rcases hD with y | ⟨dd, fs, y1, y2⟩
    · exact .inl y
    · exact .inr ⟨dd, fs, y1, nad y2⟩
  have sz : ∀ n : Nat, n ≤ 20 → n ≤ sizeLine := fun n h => by rw [sizeLine_eq]; omega
  generalize upd H' a (HeldX (.ref (e i)) d a) = G0 at k0
  refine ⟨_, rfl, a, e i, d, _, .ref (e 0), _, rfl, k0.1, k0.2.1, T.ec i hi, fun u h => h, T.is i hi 0 (by decide), ⟨_, rfl, a, e i, d, _, .ref (e 1), _, rfl, k0.1, k0.2.1, T.ec i hi, fun u h => h, T.is i hi 1 (by decide), ⟨_, rfl, a, e i, d, _, .ref (e 2), _, rfl, k0.1, k0.2.1, T.ec i hi, fun u h => h, T.is i hi 2 (by decide), ⟨sz 3 (by decide), fun p1 n1 => ?_⟩⟩⟩⟩
  have k1 := up (H2 := G0) (o := .lst [mk i 0, mk i 1, mk i 2]) k0 n1
  have l1 : upd G0 p1 (.lst [mk i 0, mk i 1, mk i 2]) p1 = some (.lst [mk i 0, mk i 1, mk i 2]) := upd_same
  change tSeq _ _ _ _ (upd G0 p1 (.lst [mk i 0, mk i 1, mk i 2]))
  generalize upd G0 p1 (.lst [mk i 0, mk i 1, mk i 2]) = G1 at k1 l1 ⊢
  refine ⟨_, rfl, ⟨_, rfl, a, e i, d, _, .ref (e 3), _, rfl, k1.1, k1.2.1, T.ec i hi, fun u h => h, T.is i hi 3 (by decide), ⟨_, rfl, a, e i, d, _, .ref (e 4), _, rfl, k1.1, k1.2.1, T.ec i hi, fun u h => h, T.is i hi 4 (by decide), ⟨_, rfl, a, e i, d, _, .ref (e 5), _, rfl, k1.1, k1.2.1, T.ec i hi, fun u h => h, T.is i hi 5 (by decide), ⟨sz 3 (by decide), fun q2 m2 => ?_⟩⟩⟩⟩⟩
  have kq2 := up (H2 := G1) (o := .lst [mk i 3, mk i 4, mk i 5]) k1 m2
  have lq2 : upd G1 q2 (.lst [mk i 3, mk i 4, mk i 5]) q2 = some (.lst [mk i 3, mk i 4, mk i 5]) := upd_same
  have lo2 : upd G1 q2 (.lst [mk i 3, mk i 4, mk i 5]) p1 = some (.lst [mk i 0, mk i 1, mk i 2]) := (exn m2) _ _ l1
  refine ⟨p1, q2, [mk i 0, mk i 1, mk i 2], [mk i 3, mk i 4, mk i 5], rfl, rfl, lo2, lq2, sz 6 (by decide), fun p2 n2 => ?_⟩
  have k2 := up (H2 := G1) (o := .lst [mk i 0, mk i 1, mk i 2, mk i 3, mk i 4, mk i 5]) kq2 n2
  have l2 : upd (upd G1 q2 (.lst [mk i 3, mk i 4, mk i 5])) p2 (.lst [mk i 0, mk i 1, mk i 2, mk i 3, mk i 4, mk i 5]) p2 = some (.lst [mk i 0, mk i 1, mk i 2, mk i 3, mk i 4, mk i 5]) := upd_same
  change tSeq _ _ _ _ (upd (upd G1 q2 (.lst [mk i 3, mk i 4, mk i 5])) p2 (.lst [mk i 0, mk i 1, mk i 2, mk i 3, mk i 4, mk i 5]))
  generalize upd (upd G1 q2 (.lst [mk i 3, mk i 4, mk i 5])) p2 (.lst [mk i 0, mk i 1, mk i 2, mk i 3, mk i 4, mk i 5]) = G2 at k2 l2 ⊢
  refine ⟨_, rfl, ⟨_, rfl, a, e i, d, _, .ref (e 6), _, rfl, k2.1, k2.2.1, T.ec i hi, fun u h => h, T.is i hi 6 (by decide), ⟨_, rfl, a, e i, d, _, .ref (e 7), _, rfl, k2.1, k2.2.1, T.ec i hi, fun u h => h, T.is i hi 7 (by decide), ⟨_, rfl, a, e i, d, _, .ref (e 8), _, rfl, k2.1, k2.2.1, T.ec i hi, fun u h => h, T.is i hi 8 (by decide), ⟨sz 3 (by decide), fun q3 m3 => ?_⟩⟩⟩⟩⟩
  have kq3 := up (H2 := G2) (o := .lst [mk i 6, mk i 7, mk i 8]) k2 m3
  have lq3 : upd G2 q3 (.lst [mk i 6, mk i 7, mk i 8]) q3 = some (.lst [mk i 6, mk i 7, mk i 8]) := upd_same
  have lo3 : upd G2 q3 (.lst [mk i 6, mk i 7, mk i 8]) p2 = some (.lst [mk i 0, mk i 1, mk i 2, mk i 3, mk i 4, mk i 5]) := (exn m3) _ _ l2
  refine ⟨p2, q3, [mk i 0, mk i 1, mk i 2, mk i 3, mk i 4, mk i 5], [mk i 6, mk i 7, mk i 8], rfl, rfl, lo3, lq3, sz 9 (by decide), fun p3 n3 => ?_⟩
  have k3 := up (H2 := G2) (o := .lst [mk i 0, mk i 1, mk i 2, mk i 3, mk i 4, mk i 5, mk i 6, mk i 7, mk i 8]) kq3 n3
  have l3 : upd (upd G2 q3 (.lst [mk i 6, mk i 7, mk i 8])) p3 (.lst [mk i 0, mk i 1, mk i 2, mk i 3, mk i 4, mk i 5, mk i 6, mk i 7, mk i 8]) p3 = some (.lst [mk i 0, mk i 1, mk i 2, mk i 3, mk i 4, mk i 5, mk i 6, mk i 7, mk i 8]) := upd_same
  change tSeq _ _ _ _ (upd (upd G2 q3 (.lst [mk i 6, mk i 7, mk i 8])) p3 (.lst [mk i 0, mk i 1, mk i 2, mk i 3, mk i 4, mk i 5, mk i 6, mk i 7, mk i 8]))
  generalize upd (upd G2 q3 (.lst [mk i 6, mk i 7, mk i 8])) p3 (.lst [mk i 0, mk i 1, mk i 2, mk i 3, mk i 4, mk i 5, mk i 6, mk i 7, mk i 8]) = G3 at k3 l3 ⊢
  refine ⟨_, rfl, ⟨_, rfl, a, e i, d, _, .ref (e 9), _, rfl, k3.1, k3.2.1, T.ec i hi, fun u h => h, T.is i hi 9 (by decide), ⟨_, rfl, a, e i, d, _, .ref (e 10), _, rfl, k3.1, k3.2.1, T.ec i hi, fun u h => h, T.is i hi 10 (by decide), ⟨_, rfl, a, e i, d, _, .ref (e 11), _, rfl, k3.1, k3.2.1, T.ec i hi, fun u h => h, T.is i hi 11 (by decide), ⟨sz 3 (by decide), fun q4 m4 => ?_⟩⟩⟩⟩⟩
  have kq4 := up (H2 := G3) (o := .lst [mk i 9, mk i 10, mk i 11]) k3 m4
  have lq4 : upd G3 q4 (.lst [mk i 9, mk i 10, mk i 11]) q4 = some (.lst [mk i 9, mk i 10, mk i 11]) := upd_same
  have lo4 : upd G3 q4 (.lst [mk i 9, mk i 10, mk i 11]) p3 = some (.lst [mk i 0, mk i 1, mk i 2, mk i 3, mk i 4, mk i 5, mk i 6, mk i 7, mk i 8]) := (exn m4) _ _ l3
  refine ⟨p3, q4, [mk i 0, mk i 1, mk i 2, mk i 3, mk i 4, mk i 5, mk i 6, mk i 7, mk i 8], [mk i 9, mk i 10, mk i 11], rfl, rfl, lo4, lq4, sz 12 (by decide), fun p4 n4 => ?_⟩
  have k4 := up (H2 := G3) (o := .lst [mk i 0, mk i 1, mk i 2, mk i 3, mk i 4, mk i 5, mk i 6, mk i 7, mk i 8, mk i 9, mk i 10, mk i 11]) kq4 n4
  have l4 : upd (upd G3 q4 (.lst [mk i 9, mk i 10, mk i 11])) p4 (.lst [mk i 0, mk i 1, mk i 2, mk i 3, mk i 4, mk i 5, mk i 6, mk i 7, mk i 8, mk i 9, mk i 10, mk i 11]) p4 = some (.lst [mk i 0, mk i 1, mk i 2, mk i 3, mk i 4, mk i 5, mk i 6, mk i 7, mk i 8, mk i 9, mk i 10, mk i 11]) := upd_same
  change tSeq _ _ _ _ (upd (upd G3 q4 (.lst [mk i 9, mk i 10, mk i 11])) p4 (.lst [mk i 0, mk i 1, mk i 2, mk i 3, mk i 4, mk i 5, mk i 6, mk i 7, mk i 8, mk i 9, mk i 10, mk i 11]))
  generalize upd (upd G3 q4 (.lst [mk i 9, mk i 10, mk i 11])) p4 (.lst [mk i 0, mk i 1, mk i 2, mk i 3, mk i 4, mk i 5, mk i 6, mk i 7, mk i 8, mk i 9, mk i 10, mk i 11]) = G4 at k4 l4 ⊢
  refine ⟨_, rfl, ⟨_, rfl, a, e i, d, _, .ref (e 12), _, rfl, k4.1, k4.2.1, T.ec i hi, fun u h => h, T.is i hi 12 (by decide), ⟨_, rfl, a, e i, d, _, .ref (e 13), _, rfl, k4.1, k4.2.1, T.ec i hi, fun u h => h, T.is i hi 13 (by decide), ⟨sz 2 (by decide), fun q5 m5 => ?_⟩⟩⟩⟩
  have kq5 := up (H2 := G4) (o := .lst [mk i 12, mk i 13]) k4 m5
  have lq5 : upd G4 q5 (.lst [mk i 12, mk i 13]) q5 = some (.lst [mk i 12, mk i 13]) := upd_same
  have lo5 : upd G4 q5 (.lst [mk i 12, mk i 13]) p4 = some (.lst [mk i 0, mk i 1, mk i 2, mk i 3, mk i 4, mk i 5, mk i 6, mk i 7, mk i 8, mk i 9, mk i 10, mk i 11]) := (exn m5) _ _ l4
  refine ⟨p4, q5, [mk i 0, mk i 1, mk i 2, mk i 3, mk i 4, mk i 5, mk i 6, mk i 7, mk i 8, mk i 9, mk i 10, mk i 11], [mk i 12, mk i 13], rfl, rfl, lo5, lq5, sz 14 (by decide), fun p5 n5 => ?_⟩
  have k5 := up (H2 := G4) (o := .lst [mk i 0, mk i 1, mk i 2, mk i 3, mk i 4, mk i 5, mk i 6, mk i 7, mk i 8, mk i 9, mk i 10, mk i 11, mk i 12, mk i 13]) kq5 n5
  have l5 : upd (upd G4 q5 (.lst [mk i 12, mk i 13])) p5 (.lst [mk i 0, mk i 1, mk i 2, mk i 3, mk i 4, mk i 5, mk i 6, mk i 7, mk i 8, mk i 9, mk i 10, mk i 11, mk i 12, mk i 13]) p5 = some (.lst [mk i 0, mk i 1, mk i 2, mk i 3, mk i 4, mk i 5, mk i 6, mk i 7, mk i 8, mk i 9, mk i 10, mk i 11, mk i 12, mk i 13]) := upd_same
  change tSeq _ _ _ _ (upd (upd G4 q5 (.lst [mk i 12, mk i 13])) p5 (.lst [mk i 0, mk i 1, mk i 2, mk i 3, mk i 4, mk i 5, mk i 6, mk i 7, mk i 8, mk i 9, mk i 10, mk i 11, mk i 12, mk i 13]))
  generalize upd (upd G4 q5 (.lst [mk i 12, mk i 13])) p5 (.lst [mk i 0, mk i 1, mk i 2, mk i 3, mk i 4, mk i 5, mk i 6, mk i 7, mk i 8, mk i 9, mk i 10, mk i 11, mk i 12, mk i 13]) = G5 at k5 l5 ⊢
  have flat : ([mk i 0, mk i 1, mk i 2, mk i 3, mk i 4, mk i 5, mk i 6, mk i 7, mk i 8, mk i 9, mk i 10, mk i 11, mk i 12, mk i 13] : List V).all flatV = true := rfl
  have cnt : ∀ i, i < 14 → ([mk i 0, mk i 1, mk i 2, mk i 3, mk i 4, mk i 5, mk i 6, mk i 7, mk i 8, mk i 9, mk i 10, mk i 11, mk i 12, mk i 13] : List V).countP (fun z => eqV z (.bl true)) = 1 := by decide
  refine ⟨_, rfl, .inl ⟨rfl, _, SqL.of l5⟩, p5, _, .bl true, rfl, rfl, SqL.of l5, rfl, flat, ?_⟩
  rw [cnt i i14]
  refine ⟨rfl, _, rfl, ?_⟩
  refine iteF ?_
  refine ⟨_, rfl, a, e i, d, _, .type "ValueError", _, rfl, k5.1, k5.2.1, T.ec i hi, fun u h => h, T.ve i hi, _, rfl, ?_⟩
  refine iteF ?_
  -- marks[11] or marks[12]
  have at_ : ∀ j : Nat, j < 14 → atI ([mk i 0, mk i 1, mk i 2, mk i 3, mk i 4, mk i 5, mk i 6, mk i 7, mk i 8, mk i 9, mk i 10, mk i 11, mk i 12, mk i 13] : List V) (j : Int) = some (mk i j) := fun j hj => atI_nat (by
    match j, hj with
    | 0, _ => rfl | 1, _ => rfl | 2, _ => rfl | 3, _ => rfl | 4, _ => rfl | 5, _ => rfl | 6, _ => rfl | 7, _ => rfl | 8, _ => rfl | 9, _ => rfl | 10, _ => rfl | 11, _ => rfl | 12, _ => rfl | 13, _ => rfl)
  have kt : ∀ {j}, i = j → mk i j = .bl true := fun {j} h => by unfold mk; rw [decide_eq_true h]
  have kf : ∀ {j}, i ≠ j → mk i j = .bl false := fun {j} h => by unfold mk; rw [decide_eq_false h]
  have fin : ∀ (u : V) (p : Addr) (w : Str) (H1 : Hp), H1 a = some (HeldX (.ref (e i)) d a) ∧ DOk H1 d ∧ Ex H' H1 → H1 p = none → (∀ p H'', Ex H' H'' → H' p = none → H'' p = some (.tup [.str w, u]) → Q (.ref p) H'') → Q (.ref p) (upd H1 p (.tup [.str w, u])) := fun u p w H1 hk n hq =>
    hq p _ (ext hk.2.2 (exn n)) (exb hk.2.2 n) upd_same
  rcases hE with ⟨i11, dn, hq⟩ | ⟨i12, dd, fs, v, hd', hdd, hv, hq⟩ | ⟨i13, dd, fs, v, hd', hdd, hv, hq⟩
  · refine ⟨_, rfl, p5, _, 11, _, rfl, rfl, SqL.of l5, at_ 11 (by decide), false, kf (by omega), ?_⟩
    refine iteF ?_
    refine ⟨_, rfl, p5, _, 12, _, rfl, rfl, SqL.of l5, at_ 12 (by decide), false, kf (by omega), ?_⟩
    refine iteF ?_
    refine ⟨_, rfl, p5, _, 13, _, rfl, rfl, SqL.of l5, at_ 13 (by decide), false, kf (by omega), ?_⟩
    refine iteF ?_
    refine ⟨sz 11 (by decide), fun pw nw => ?_⟩
    have l6 := (exn (o := .lst [V.str "edition", .str "state", .str "lift", .str "book", .str "number", .str "pasts", .str "plan", .str "hands", .str "key", .str "nothing", .str "text"]) nw) _ _ l5
    have k6 := up (H2 := G5) (o := .lst [V.str "edition", .str "state", .str "lift", .str "book", .str "number", .str "pasts", .str "plan", .str "hands", .str "key", .str "nothing", .str "text"]) k5 nw
    refine ⟨_, rfl, _, rfl, .inl ⟨rfl, _, SqL.of l6⟩, p5, _, .bl true, i, mk i i, rfl, rfl, SqL.of l6, rfl, flat, ?_, ?_, ?_, pw, _, i, .str (errW i), rfl, rfl, SqL.of upd_same, atI_nat ?_, sz 2 (by decide), fun p np => fin _ p _ _ k6 np hq⟩
    · match i, i14 with
      | 0, _ => rfl | 1, _ => rfl | 2, _ => rfl | 3, _ => rfl | 4, _ => rfl | 5, _ => rfl | 6, _ => rfl | 7, _ => rfl | 8, _ => rfl | 9, _ => rfl | 10, _ => rfl | 11, _ => rfl | 12, _ => rfl | 13, _ => rfl
    · rw [kt rfl]; rfl
    · intro m z' hm hz'
      have hm14 : m < 14 := by omega
      have e1 : ([mk i 0, mk i 1, mk i 2, mk i 3, mk i 4, mk i 5, mk i 6, mk i 7, mk i 8, mk i 9, mk i 10, mk i 11, mk i 12, mk i 13] : List V)[m]? = some (mk i m) := by
        match m, hm14 with
        | 0, _ => rfl | 1, _ => rfl | 2, _ => rfl | 3, _ => rfl | 4, _ => rfl | 5, _ => rfl | 6, _ => rfl | 7, _ => rfl | 8, _ => rfl | 9, _ => rfl | 10, _ => rfl | 11, _ => rfl | 12, _ => rfl | 13, _ => rfl
      rw [e1] at hz'
      rw [← Option.some.inj hz', kf (by omega)]
      rfl
    · match i, i11 with
      | 0, _ => rfl | 1, _ => rfl | 2, _ => rfl | 3, _ => rfl | 4, _ => rfl | 5, _ => rfl | 6, _ => rfl | 7, _ => rfl | 8, _ => rfl | 9, _ => rfl | 10, _ => rfl
  · subst hd'
    have hd5 : G5 dd = some (.xd fs) := k5.2.2 _ _ hdd
    have x11 := T.xf i hi (by rcases i12 with z | z <;> omega)
    rcases i12 with z | z
    · have na_ : PySem.W.findIn X.K (.ref (e i)) "at" = some none := by
        subst z; exact T.at11 hi
      refine ⟨_, rfl, p5, _, 11, _, rfl, rfl, SqL.of l5, at_ 11 (by decide), true, kt z, ?_⟩
      refine iteT ?_
      refine iteT ?_
      refine ⟨_, rfl, p5, _, 11, _, rfl, rfl, SqL.of l5, at_ 11 (by decide), true, kt z, ?_⟩
      refine iteT ?_
      have hq' : ∀ p H'', Ex H' H'' → H' p = none → H'' p = some (.tup [.str "kind", v]) → Q (.ref p) H'' := by
        subst z; exact hq
      exact ⟨_, rfl, a, e i, dd, fs, v, rfl, k5.1, x11, na_, hd5, hv, sz 2 (by decide), fun p np => fin _ p _ _ k5 np hq'⟩
    · have na_ : PySem.W.findIn X.K (.ref (e i)) "at" = some none := by
        subst z; exact T.at12 hi
      refine ⟨_, rfl, p5, _, 11, _, rfl, rfl, SqL.of l5, at_ 11 (by decide), false, kf (by omega), ?_⟩
      refine iteF ?_
      refine ⟨_, rfl, p5, _, 12, _, rfl, rfl, SqL.of l5, at_ 12 (by decide), true, kt z, ?_⟩
      refine iteT ?_
      refine ⟨_, rfl, p5, _, 11, _, rfl, rfl, SqL.of l5, at_ 11 (by decide), false, kf (by omega), ?_⟩
      refine iteF ?_
      have hq' : ∀ p H'', Ex H' H'' → H' p = none → H'' p = some (.tup [.str "history", v]) → Q (.ref p) H'' := by
        subst z; exact hq
      exact ⟨_, rfl, a, e i, dd, fs, v, rfl, k5.1, x11, na_, hd5, hv, sz 2 (by decide), fun p np => fin _ p _ _ k5 np hq'⟩
  · subst hd'
    have hd5 : G5 dd = some (.xd fs) := k5.2.2 _ _ hdd
    have x11 := T.xf i hi (by omega)
    have na_ : PySem.W.findIn X.K (.ref (e i)) "history" = some none := by
      subst i13; exact T.at13 hi
    refine ⟨_, rfl, p5, _, 11, _, rfl, rfl, SqL.of l5, at_ 11 (by decide), false, kf (by omega), ?_⟩
    refine iteF ?_
    refine ⟨_, rfl, p5, _, 12, _, rfl, rfl, SqL.of l5, at_ 12 (by decide), false, kf (by omega), ?_⟩
    refine iteF ?_
    refine ⟨_, rfl, p5, _, 13, _, rfl, rfl, SqL.of l5, at_ 13 (by decide), true, kt i13, ?_⟩
    refine iteT ?_
    have hq' : ∀ p H'', Ex H' H'' → H' p = none → H'' p = some (.tup [.str "right", v]) → Q (.ref p) H'' := by
      subst i13; exact hq
    exact ⟨_, rfl, a, e i, dd, fs, v, rfl, k5.1, x11, na_, hd5, hv, sz 2 (by decide), fun p np => fin _ p _ _ k5 np hq'⟩
end
end Sn
/-! Dicts of texts: to rows of texts, to texts -/
namespace Sn
open Evl (Ex)
open PySem L2
/-- a key, its row, where the row's tuple lies -/
abbrev Ent := Str × List Str × Addr
def rKV (e : Ent) : Key × V := (.inr e.1, .ref e.2.2)
def sKV (e : Str × Str) : Key × V := (.inr e.1, .str e.2)
def dat (e : Ent) : Str × List Str := (e.1, e.2.1)
def Rws (H : Hp) (p : Addr) (es : List Ent) : Prop := H p = some (.dK (es.map rKV)) ∧ ∀ e ∈ es, H e.2.2 = some (.tup (e.2.1.map V.str))
def Sts (H : Hp) (p : Addr) (ss : List (Str × Str)) : Prop := H p = some (.dK (ss.map sKV))
theorem Rws.ex {H H' : Hp} {p : Addr} {es : List Ent} (h : Rws H p es) (e : Ex H H') : Rws H' p es := ⟨e _ _ h.1, fun x hx => e _ _ (h.2 x hx)⟩
theorem Sts.ex {H H' : Hp} {p : Addr} {ss : List (Str × Str)} (h : Sts H p ss) (e : Ex H H') : Sts H' p ss := e _ _ h
section
variable {κ : Type} [DecidableEq κ]
theorem valV_no {kvs : List (κ × V)} {k : κ} (h : k ∉ kvs.map (·.1)) : valV kvs k = none := by
  induction kvs with
  | nil => rfl
  | cons p r ih =>
    rw [List.map_cons, List.mem_cons, not_or] at h
    rw [valV_neg (fun z => h.1 z.symm)]
    exact ih h.2
theorem valV_at {kvs : List (κ × V)} {k : κ} {v : V} (hn : (kvs.map (·.1)).Nodup) (h : (k, v) ∈ kvs) : valV kvs k = some v := by
  induction kvs with
  | nil => cases h
  | cons p r ih =>
    rw [List.map_cons, List.nodup_cons] at hn
    rcases List.mem_cons.mp h with e | h
    · subst e
      exact valV_pos rfl
    · rw [valV_neg (fun z => hn.1 (by rw [z]; exact List.mem_map_of_mem (f := Prod.fst) h))]
      exact ih hn.2 h
end
theorem merge_app : ∀ (kvs acc : List (Key × V)), ((acc ++ kvs).map (·.1)).Nodup → mergeK acc kvs = acc ++ kvs
  | [], acc, _ => by simp [mergeK]
  | p :: r, acc, h => by
    have e : mergeK acc (p :: r) = mergeK (putK acc p.1 p.2) r := rfl
    have hn : p.1 ∉ acc.map (·.1) := by
      rw [List.map_append, List.map_cons] at h
      have := List.nodup_append.mp h
      intro z
      exact this.2.2 _ z _ List.mem_cons_self rfl
    rw [e, putK_new _ (valV_no hn), merge_app r _ (by simpa using h)]
    simp
theorem merge_nil {kvs : List (Key × V)} (h : (kvs.map (·.1)).Nodup) : mergeK [] kvs = kvs := by
  rw [merge_app kvs [] (by simpa using h)]
  rfl
theorem keysR (es : List Ent) : (es.map rKV).map (·.1) = (es.map (·.1)).map Sum.inr := by simp [rKV, Function.comp_def]
theorem keysS (ss : List (Str × Str)) : (ss.map sKV).map (·.1) = (ss.map (·.1)).map Sum.inr := by simp [sKV, Function.comp_def]
theorem nodup_inr {l : List Str} (h : l.Nodup) : (l.map (Sum.inr : Str → Key)).Nodup := List.Pairwise.map _ (fun a b n e => n (Sum.inr.inj e)) h
theorem valR {es : List Ent} {e : Ent} (h : (es.map (·.1)).Nodup) (he : e ∈ es) : valV (es.map rKV) (Sum.inr e.1 : Key) = some (.ref e.2.2) :=
  valV_at (by rw [keysR]; exact nodup_inr h) (List.mem_map_of_mem (f := rKV) he)
theorem valS {ss : List (Str × Str)} {e : Str × Str} (h : (ss.map (·.1)).Nodup) (he : e ∈ ss) : valV (ss.map sKV) (Sum.inr e.1 : Key) = some (.str e.2) :=
  valV_at (by rw [keysS]; exact nodup_inr h) (List.mem_map_of_mem (f := sKV) he)
theorem valRn {es : List Ent} {k : Str} (h : k ∉ es.map (·.1)) : valV (es.map rKV) (Sum.inr k : Key) = none := valV_no (by
  rw [keysR]
  intro z
  obtain ⟨a, ha, e⟩ := List.mem_map.mp z
  cases e
  exact h ha)
theorem valSn {ss : List (Str × Str)} {k : Str} (h : k ∉ ss.map (·.1)) : valV (ss.map sKV) (Sum.inr k : Key) = none := valV_no (by
  rw [keysS]
  intro z
  obtain ⟨a, ha, e⟩ := List.mem_map.mp z
  cases e
  exact h ha)
/-- all but the source of draws -/
def cut (H : Hp) (sa la : Addr) : Hp := fun x => if x = sa ∨ x = la then none else H x
section
variable {H H' G : Hp} {sa la ca x : Addr} {T : Nat}
theorem cut_ex : Ex (cut H sa la) H := fun a o h => by
  unfold cut at h
  split at h
  · cases h
  · exact h
theorem cut_s : cut H sa la sa = none := by unfold cut; rw [if_pos (.inl rfl)]
theorem cut_l : cut H sa la la = none := by unfold cut; rw [if_pos (.inr rfl)]
theorem cut_at {o : HO} (h : H x = some o) (n1 : x ≠ sa) (n2 : x ≠ la) : cut H sa la x = some o := by
  unfold cut
  rw [if_neg (fun z => z.elim n1 n2)]
  exact h
theorem cut_up (e : Ex G H) (n1 : G sa = none) (n2 : G la = none) : Ex G (cut H sa la) := fun a o h => cut_at (e a o h) (ne_of_none h n1) (ne_of_none h n2)
/-- what lies there is left by the draws -/
theorem cut_to {o : HO} (e : Ex (cut H sa la) H') (h : H x = some o) (n1 : x ≠ sa) (n2 : x ≠ la) : H' x = some o := e _ _ (cut_at h n1 n2)
theorem Dr.tn {xs : List V} (D : Dr H sa la ca T) (h : H x = some (.tup xs)) : x ≠ sa ∧ x ≠ la := by
  obtain ⟨⟨_, _, _, _, a, b, _⟩, _⟩ := D
  constructor
  · intro z
    rw [z, a] at h
    cases h
  · intro z
    rw [z, b] at h
    cases h
end
end Sn
namespace Sn
open Evl (Ex)
open PySem L2
abbrev s_l_row : Stmt := top 36
abbrev s_l_put : Stmt := top 37
abbrev s_l_parts : Stmt := top 39
/-- the row of a key -/
def look (ds : List (Str × List Str)) (k : Str) : List Str := ((ds.find? fun e => decide (e.1 = k)).map (·.2)).getD []
def putL (ds : List (Str × List Str)) (row : List Str) : List Str := row.flatMap (look ds)
theorem look_at {es : List Ent} {e : Ent} (hn : (es.map (·.1)).Nodup) (h : e ∈ es) : look (es.map dat) e.1 = e.2.1 := by
  induction es with
  | nil => cases h
  | cons p r ih =>
    rw [List.map_cons, List.nodup_cons] at hn
    unfold look
    rcases List.mem_cons.mp h with z | h
    · subst z
      simp [dat]
    · have ne : ¬ p.1 = e.1 := fun z => hn.1 (by rw [z]; exact List.mem_map_of_mem (f := Prod.fst) h)
      have := ih hn.2 h
      unfold look at this
      rw [List.map_cons, List.find?_cons, decide_eq_false (show ¬ (dat p).1 = e.1 from ne)]
      exact this
section
variable {P : Program} {w : World} {K : PySem.W.Frag} {mg : Str → Option Value} {base : Heap}
/-! ### put -/
theorem sc_l_put : FnScope ["_law_row_here", "_law_rows", "_law_found", "_law_kind"] ["_law_row_here", "_law_rows"] (defScope s_l_put) := ⟨rfl, rfl, rfl, by decide +kernel, rfl, by decide +kernel, by decide +kernel⟩
def spPut (K : PySem.W.Frag) : Sp := fun vs H Q _ => ∃ (a p : Addr) (row : List Str) (es : List Ent), vs = [.ref a, .ref p] ∧ SqT K H a (row.map V.str) ∧ Rws H p es ∧ (es.map (·.1)).Nodup ∧ (∀ k ∈ row, k ∈ es.map (·.1)) ∧ (∀ e ∈ es, e.2.1.length ≤ 1000) ∧ row.length ≤ 10000 ∧
  ∀ (q : Addr) (H' : Hp), Ex H H' → H' q = some (.tup ((putL (es.map dat) row).map V.str)) → Q (.ref q) H'
theorem putL_len {ds : List (Str × List Str)} {n : Nat} (h : ∀ k, (look ds k).length ≤ n) : ∀ row : List Str, (putL ds row).length ≤ n * row.length
  | [] => by simp [putL]
  | k :: r => by
    have := putL_len h r
    have e : putL ds (k :: r) = look ds k ++ putL ds r := by simp [putL]
    rw [e, List.length_append, List.length_cons, Nat.mul_add]
    have := h k
    omega
theorem look_len {es : List Ent} {n : Nat} (h : ∀ e ∈ es, e.2.1.length ≤ n) (k : Str) : (look (es.map dat) k).length ≤ n := by
  unfold look
  cases e : (es.map dat).find? fun e => decide (e.1 = k) with
  | none => exact Nat.zero_le _
  | some x =>
    obtain ⟨y, hy, z⟩ := List.mem_map.mp (List.mem_of_find?_eq_some e)
    subst z
    exact h y hy
theorem ok_put {f : Addr} {fd : FuncData} (F : Fun K "_law_put" "_law_put" s_l_put f fd) : FnOk P w K mg base CX0 1 f fd ["_law_row_here", "_law_rows"] (spPut K) := by
  refine F.ok sc_l_put (fun vs H Q E h => ?_) (fun cdv A outer s H vs Q E hr h => ?_)
  · obtain ⟨_, _, _, _, rfl, _⟩ := h
    rfl
  · obtain ⟨a, p, row, es, rfl, ha, hp, nd, hk, h27, hl, k⟩ := h
    have hu := hu_of hr
    refine ⟨_, (pss_cons (ps_set (i := 2) sc_l_put.nd rfl (.inl rfl) (pe_tup pa_nil))
      (pss_cons (ps_for PassesOwn.never rfl (pi_tup (pv 0)) (pg_name (i := 3) sc_l_put.nd rfl (.inl rfl))
        (pss_one (ps_set (i := 2) sc_l_put.nd rfl (.inl rfl) (pe_op op_catA (pv 2) (pe_dget hu (pv 1) (pv 3) (fun _ _ => rfl))))))
      (pss_one (ps_ret (pv 2))))), ?_⟩
    refine ⟨by simp [sizeLine_eq], fun q0 n0 => ?_⟩
    refine ⟨_, rfl, a, rfl, ⟨_, Evl.ex_t (exn n0) ha⟩, ?_⟩
    refine for_tup (xs := row.map V.str) (fun i σ H' => ∃ (q : Addr) (z : Option V), σ = [some (.ref a), some (.ref p), some (.ref q), z] ∧ Ex H H' ∧ H' q = some (.tup ((putL (es.map dat) (row.take i)).map V.str))) ⟨q0, none, rfl, exn n0, upd_same⟩ (fun i σ H' _ h => ?_) ?_ ?_
    · obtain ⟨_, _, _, e, _⟩ := h
      exact Evl.ex_t e ha
    · rintro i x σ H1 hx ⟨q, z, rfl, e1, h1⟩
      rw [List.getElem?_map] at hx
      cases hz : row[i]? with
      | none => rw [hz] at hx; cases hx
      | some y =>
        rw [hz] at hx
        obtain rfl : V.str y = x := Option.some.inj hx
        have hi : i < row.length := (List.getElem?_eq_some_iff.mp hz).1
        have hy : y ∈ row := List.mem_of_getElem? hz
        obtain ⟨e, he, ey⟩ := List.mem_map.mp (hk y hy)
        have hp1 := hp.ex e1
        have he1 := hp1.2 e he
        have lk := look_at nd he
        have tk : putL (es.map dat) (row.take (i + 1)) = putL (es.map dat) (row.take i) ++ e.2.1 := by
          rw [List.take_succ, hz]
          simp [putL, ← ey, lk]
        have l1 : (putL (es.map dat) (row.take i)).length ≤ 1000 * 10000 := by
          have := putL_len (look_len h27) (row.take i)
          have h2 := List.length_take_le' i row
          have h3 : 1000 * (row.take i).length ≤ 1000 * 10000 := Nat.mul_le_mul_left _ (by omega)
          omega
        refine ⟨_, rfl, _, rfl, _, rfl, p, .ref e.2.2, rfl, dg hp1.1 (by rw [← ey]; exact valR nd he), q, e.2.2, _, _, rfl, rfl, SqT.of h1, SqT.of he1, ?_, fun h0 => ?_, fun h0 h2 => ?_, fun h0 h2 t nt => ?_⟩
        · rw [List.length_map, List.length_map, sizeLine_eq]
          have := h27 e he
          omega
        · refine ⟨_, _, rfl, e1, ?_⟩
          rw [tk, show putL (es.map dat) (row.take i) = [] from List.map_eq_nil_iff.mp h0]
          exact he1
        · refine ⟨_, _, rfl, e1, ?_⟩
          rw [tk, show e.2.1 = [] from List.map_eq_nil_iff.mp h2, List.append_nil]
          exact h1
        · refine ⟨_, _, rfl, ext e1 (exn nt), ?_⟩
          rw [upd_same, tk, List.map_append]
    · rintro σ H1 ⟨q, z, rfl, e1, h1⟩
      rw [List.length_map, List.take_length] at h1
      exact ⟨_, rfl, k q H1 e1 h1⟩
end
end Sn
/-! dict(pairs) where a key may come twice -/
namespace Sn
open Evl (Ex)
open PySem L2
section
variable {ε : Type} (key : ε → Str) (val : ε → V)
def putG (l : List ε) (e : ε) : List ε := if (l.any fun x => decide (key x = key e)) = true then l.map (fun x => if key x = key e then e else x) else l ++ [e]
def kvG (e : ε) : Key × V := (.inr (key e), val e)
variable {key val}
theorem any_kv (l : List ε) (k : Str) : ((l.map (kvG key val)).any fun kv => decide (kv.1 = (Sum.inr k : Key))) = l.any fun x => decide (key x = k) := by
  rw [List.any_map]
  congr 1
  funext x
  show decide ((Sum.inr (key x) : Key) = Sum.inr k) = decide (key x = k)
  rw [decide_eq_decide]
  exact ⟨fun h => Sum.inr.inj h, fun h => by rw [h]⟩
theorem putG_kv (l : List ε) (e : ε) : putK (l.map (kvG key val)) (Sum.inr (key e) : Key) (val e) = (putG key l e).map (kvG key val) := by
  unfold putK putG
  rw [any_kv]
  split
  · rw [List.map_map, List.map_map]
    refine List.map_congr_left fun x _ => ?_
    show (if (Sum.inr (key x) : Key) = Sum.inr (key e) then ((Sum.inr (key x) : Key), val e) else kvG key val x) = kvG key val (if key x = key e then e else x)
    by_cases h : key x = key e
    · rw [if_pos h, if_pos (by rw [h]), h]
      rfl
    · rw [if_neg h, if_neg (fun z => h (Sum.inr.inj z))]
  · rw [List.map_append]
    rfl
theorem mergeG (l : List ε) : ∀ acc : List ε, mergeK (acc.map (kvG key val)) (l.map (kvG key val)) = (l.foldl (putG key) acc).map (kvG key val) := by
  induction l with
  | nil => intro acc; rfl
  | cons e r ih =>
    intro acc
    show mergeK (putK (acc.map (kvG key val)) (Sum.inr (key e) : Key) (val e)) (r.map (kvG key val)) = _
    rw [putG_kv, ih]
    rfl
theorem putG_keys (l : List ε) (e : ε) : (putG key l e).map key = if key e ∈ l.map key then l.map key else l.map key ++ [key e] := by
  unfold putG
  by_cases h : key e ∈ l.map key
  · have ha : (l.any fun x => decide (key x = key e)) = true := by
      obtain ⟨x, hx, hk⟩ := List.mem_map.mp h
      exact List.any_eq_true.mpr ⟨x, hx, decide_eq_true hk⟩
    rw [if_pos ha, if_pos h, List.map_map]
    refine List.map_congr_left fun x _ => ?_
    show key (if key x = key e then e else x) = key x
    split
    · rename_i z; exact z.symm
    · rfl
  · have ha : ¬ (l.any fun x => decide (key x = key e)) = true := fun z => by
      obtain ⟨x, hx, hk⟩ := List.any_eq_true.mp z
      exact h (List.mem_map.mpr ⟨x, hx, of_decide_eq_true hk⟩)
    rw [if_neg ha, if_neg h, List.map_append]
    rfl
theorem putG_mem {l : List ε} {e x : ε} (h : x ∈ putG key l e) : x ∈ l ∨ x = e := by
  unfold putG at h
  split at h
  · obtain ⟨y, hy, rfl⟩ := List.mem_map.mp h
    split
    · exact .inr rfl
    · exact .inl hy
  · rcases List.mem_append.mp h with h | h
    · exact .inl h
    · exact .inr (List.mem_singleton.mp h)
theorem foldG_mem {x : ε} : ∀ (l acc : List ε), x ∈ l.foldl (putG key) acc → x ∈ acc ∨ x ∈ l
  | [], acc, h => .inl h
  | e :: r, acc, h => by
    rcases foldG_mem r _ h with z | z
    · rcases putG_mem z with z | z
      · exact .inl z
      · exact .inr (by rw [z]; exact List.mem_cons_self)
    · exact .inr (List.mem_cons_of_mem _ z)
theorem foldG_nd : ∀ (l acc : List ε), (acc.map key).Nodup → ((l.foldl (putG key) acc).map key).Nodup
  | [], acc, h => h
  | e :: r, acc, h => foldG_nd r _ (by
    rw [putG_keys]
    split
    · exact h
    · rename_i z
      rw [List.nodup_append]
      exact ⟨h, by simp, fun a ha b hb => by rw [List.mem_singleton.mp hb]; exact fun q => z (q ▸ ha)⟩)
theorem foldG_key {k : Str} : ∀ (l acc : List ε), k ∈ (l.foldl (putG key) acc).map key ↔ k ∈ acc.map key ∨ k ∈ l.map key
  | [], acc => by simp
  | e :: r, acc => by
    rw [List.foldl_cons, foldG_key r, putG_keys, List.map_cons, List.mem_cons]
    by_cases h : key e ∈ acc.map key
    · rw [if_pos h]
      constructor
      · rintro (z | z)
        · exact .inl z
        · exact .inr (.inr z)
      · rintro (z | z | z)
        · exact .inl z
        · exact .inl (z ▸ h)
        · exact .inr z
    · rw [if_neg h, List.mem_append, List.mem_singleton]
      constructor
      · rintro ((z | z) | z)
        · exact .inl z
        · exact .inr (.inl z)
        · exact .inr (.inr z)
      · rintro (z | z | z)
        · exact .inl (.inl z)
        · exact .inl (.inr z)
        · exact .inr z
theorem foldG_len : ∀ (l acc : List ε), (l.foldl (putG key) acc).length ≤ acc.length + l.length
  | [], acc => by simp
  | e :: r, acc => by
    rw [List.foldl_cons]
    have h1 := foldG_len r (putG key acc e)
    have h2 : (putG key acc e).length ≤ acc.length + 1 := by
      have := congrArg List.length (putG_keys (key := key) acc e)
      rw [List.length_map] at this
      rw [this]
      split <;> simp
    rw [List.length_cons]
    omega
end
theorem rKV_G (l : List Ent) : l.map rKV = l.map (kvG (fun e : Ent => e.1) fun e => .ref e.2.2) := rfl
theorem sKV_G (l : List (Str × Str)) : l.map sKV = l.map (kvG (fun e : Str × Str => e.1) fun e => .str e.2) := rfl
end Sn
namespace Sn
open Evl (Ex)
open PySem L2
section
variable {P : Program} {w : World} {K : PySem.W.Frag} {mg : Str → Option Value} {base : Heap}
/-! ### row -/
theorem sc_l_row : FnScope ["_law_state", "_law_kinds", "_law_most", "_law_turn"] ["_law_state", "_law_kinds", "_law_most"] (defScope s_l_row) := ⟨rfl, rfl, rfl, by decide +kernel, rfl, by decide +kernel, by decide +kernel⟩
def spRow (K : PySem.W.Frag) : Sp := fun vs H Q _ => ∃ (F : Hp) (sa la ca a : Addr) (T m : Nat) (ks : List Str), vs = [.ref sa, .ref a, .int (m : Int)] ∧ Ex F H ∧ F sa = none ∧ F la = none ∧ Dr H sa la ca T ∧ T ≤ 10000000 ∧ m ≤ 30 ∧ SqL K F a (ks.map V.str) ∧ ks ≠ [] ∧ ks.length ≤ 1000 ∧
  ∀ (q : Addr) (ws : List Str) (H' : Hp), F q = none → ws.length ≤ m → (∀ x ∈ ws, x ∈ ks) → Ex F H' → H' q = some (.tup (ws.map V.str)) → Dr H' sa la ca (T + 40) → Q (.ref q) H'
theorem ok_row {f : Addr} {fd : FuncData} (F : Fun K "_law_row" "_law_row" s_l_row f fd) (B : Bt mg) (cDraw : Cal P w K mg base CX0 1 "_law_draw" ["_law_state", "_law_size"] spDraw)
    (cPick : Cal P w K mg base CX0 2 "_law_pick" ["_law_state", "_law_several"] (spPick K)) : FnOk P w K mg base CX0 3 f fd ["_law_state", "_law_kinds", "_law_most"] (spRow K) := by
  refine F.ok sc_l_row (fun vs H Q E h => ?_) (fun cdv A outer s H vs Q E hr h => ?_)
  · obtain ⟨_, _, _, _, _, _, _, _, rfl, _⟩ := h
    rfl
  · obtain ⟨G, sa, la, ca, a, T, m, ks, rfl, eG, ns, nl, D, hT, hm, ha, h0, hl, k⟩ := h
    refine ⟨_, (pss_one (ps_ret (pe_tupleOf (by rfl) B.tuple (pe_lc (own := [("_law_turn", 3)]) (by rfl) sc_l_row.nd (pi_range1 rfl B.range (pa_cons (pcall cDraw (hr.mono (by decide)) (pa_cons (pv 0) (pa_cons (pe_op op_add (pv 2) pe_int) pa_nil))) pa_nil)) (blkOk_by (own := [("_law_turn", 3)]) (N := ["_law_state", "_law_kinds", "_law_most", "_law_turn"]) (sc := defScope s_l_row) (by decide +kernel)) (fun _ _ _ _ _ => (pg_name (i := 3) sc_l_row.nd rfl (Or.inl rfl))) (fun _ _ _ _ _ => pts_nil) (fun _ _ _ _ _ => (pcall cPick (hr.mono (by decide)) (pa_cons (pv 0) (pa_cons (pv 1) pa_nil)))))))), ?_⟩
    refine ⟨_, rfl, _, rfl, _, _, rfl, rfl, G, sa, la, ca, T, (m : Int) + 1, rfl, eG, ns, nl, D, by omega, by omega, by omega, fun r H1 r0 r1 e1 D1 => ⟨r, rfl, by omega, by omega, fun Dl nD => ?_⟩⟩
    have nDG : G Dl = none := exb e1 nD
    have Ds := D1.sne nD
    have Dls := D1.lne nD
    have Dcs := D1.cne nD
    have hl0 : 0 < ks.length := List.length_pos_iff.mpr h0
    refine lc_range (lo := 0) (n := r.toNat) (fun j H' => ∃ ws : List Str, Ex G H' ∧ H' Dl = some (.lst (ws.map V.str)) ∧ ws.length = j ∧ (∀ x ∈ ws, x ∈ ks) ∧ Dr H' sa la ca (T + 1 + j)) ⟨[], exm e1 nDG, upd_same, rfl, fun _ h => (nomatch h), D1.new nD⟩ ?_ ?_
    · rintro j H2 hj ⟨ws, e2, h2, l2, g2, D2⟩
      refine ⟨rfl, _, rfl, _, rfl, upd G Dl (.lst (ws.map V.str)), sa, la, ca, T + 1 + j, _, rfl, exp e2 h2, updn ns Ds.symm, updn nl Dls.symm, D2, by omega, .inl ⟨a, ks.map V.str, rfl, Evl.ex_l (exn nDG) ha, by simpa using h0, by rw [List.length_map]; omega, fun jj x H3 hx e3 D3 => ?_⟩⟩
      rw [List.getElem?_map] at hx
      cases hz : ks[jj]? with
      | none => rw [hz] at hx; cases hx
      | some y =>
        rw [hz] at hx
        obtain rfl : V.str y = x := Option.some.inj hx
        have h3 := e3 _ _ (upd_same (H := G))
        refine ⟨_, h3, ?_, ws ++ [y], ?_, ?_, ?_, ?_, ?_⟩
        · rw [List.length_map, sizeLine_eq]
          omega
        · exact exm (fun a u h => e3 a u (by rw [upd_ne (ne_of_none h nDG)]; exact h)) nDG
        · rw [upd_same, List.map_append]
          rfl
        · rw [List.length_append, l2]
          rfl
        · intro x hx
          rcases List.mem_append.mp hx with h' | h'
          · exact g2 x h'
          · rw [List.mem_singleton.mp h']
            exact List.mem_of_getElem? hz
        · exact (D3.upd Ds Dls Dcs).mono (by omega)
    · rintro H2 ⟨ws, e2, h2, l2, g2, D2⟩
      refine .inl ⟨Dl, _, rfl, SqL.of h2, fun q nq => ?_⟩
      exact k q ws _ (exb e2 nq) (by omega) g2 (ext e2 (exn nq)) upd_same ((D2.new nq).mono (by omega))
/-! ### parts -/
theorem sc_l_parts : FnScope ["_law_state", "_law_words_here", "_law_names", "_law_most", "_law_kinds", "_law_goals", "_law_rows", "_law_word", "_law_name"] ["_law_state", "_law_words_here", "_law_names", "_law_most"] (defScope s_l_parts) := ⟨rfl, rfl, rfl, by decide +kernel, rfl, by decide +kernel, by decide +kernel⟩
/-- drawn rows for the words ws, drawn states for the names ns -/
def spParts (K : PySem.W.Frag) : Sp := fun vs H Q _ => ∃ (F : Hp) (sa la ca a b : Addr) (T m : Nat) (ws ns : List Str), vs = [.ref sa, .ref a, .ref b, .int (m : Int)] ∧ Ex F H ∧ F sa = none ∧ F la = none ∧ Dr H sa la ca T ∧ T ≤ 1000000 ∧ m ≤ 27 ∧
  SqL K F a (ws.map V.str) ∧ SqL K F b (ns.map V.str) ∧ ws.length ≤ 20 ∧ ns.length ≤ 20 ∧
  ∀ (q pr ps pk pg : Addr) (es : List Ent) (ss : List (Str × Str)) (ks gs : List Str) (H' : Hp), Ex F H' → Dr H' sa la ca (T + 2000) → F q = none → F pr = none → F ps = none → F pk = none → F pg = none → 
    H' q = some (.lst [.ref pr, .ref ps, .ref pk, .ref pg]) → Rws H' pr es → Sts H' ps ss → H' pk = some (.lst (ks.map V.str)) → H' pg = some (.lst (gs.map V.str)) →
    (es.map (·.1)).Nodup → (ss.map (·.1)).Nodup → (∀ x, x ∈ es.map (·.1) ↔ x ∈ ws) → (∀ x, x ∈ ss.map (·.1) ↔ x ∈ ns) → es.length ≤ ws.length → ss.length ≤ ns.length → (∀ e ∈ es, e.2.1.length ≤ m ∧ ∀ x ∈ e.2.1, x ∈ ks) → (∀ e ∈ ss, e.2 ∈ gs) → ks.Nodup → gs.Nodup → (∀ x ∈ ks, Wd x) → (∀ x ∈ gs, Wd x) → ks ≠ [] → gs ≠ [] → ks.length ≤ 4 → gs.length ≤ 5 → Q (.ref q) H'
theorem ok_parts {f : Addr} {fd : FuncData} (F : Fun K "_law_parts" "_law_parts" s_l_parts f fd) (B : Bt mg) (cDraw : Cal P w K mg base CX0 1 "_law_draw" ["_law_state", "_law_size"] spDraw)
    (cPick : Cal P w K mg base CX0 2 "_law_pick" ["_law_state", "_law_several"] (spPick K)) (cWords : Cal P w K mg base CX0 3 "_law_words" ["_law_state", "_law_many"] spWords) (cRow : Cal P w K mg base CX0 3 "_law_row" ["_law_state", "_law_kinds", "_law_most"] (spRow K)) :
    FnOk P w K mg base CX0 4 f fd ["_law_state", "_law_words_here", "_law_names", "_law_most"] (spParts K) := by
  refine F.ok sc_l_parts (fun vs H Q E h => ?_) (fun cdv A outer s H vs Q E hr h => ?_)
  · obtain ⟨_, _, _, _, _, _, _, _, _, _, rfl, _⟩ := h
    rfl
  · obtain ⟨G, sa, la, ca, a, b, T, m, ws, ns, rfl, eG, n1, n2, D, hT, hm, ha, hb, wl, nl, k⟩ := h
    refine ⟨_, (pss_cons (ps_asg (pe_tup (pa_cons (pcall cWords (hr.mono (by decide)) (pa_cons (pv 0) (pa_cons (pe_op op_add pe_int (pcall cDraw (hr.mono (by decide)) (pa_cons (pv 0) (pa_cons pe_int pa_nil)))) pa_nil))) (pa_cons (pcall cWords (hr.mono (by decide)) (pa_cons (pv 0) (pa_cons (pe_op op_add pe_int (pcall cDraw (hr.mono (by decide)) (pa_cons (pv 0) (pa_cons pe_int pa_nil)))) pa_nil))) pa_nil))) (pg_tup rfl (pgs_cons (pg_name (i := 4) sc_l_parts.nd rfl (.inr rfl)) (pgs_cons (pg_name (i := 5) sc_l_parts.nd rfl (.inr rfl)) pgs_nil))))
      (pss_cons (ps_set (i := 6) sc_l_parts.nd rfl (.inl rfl) (pe_callTy (call_dictP rfl) (by rfl) B.dict PyProof.Rows.boot_dict (pa_cons (pe_lc (own := [("_law_word", 7)]) (by rfl) sc_l_parts.nd (pi_list (pv 1)) (blkOk_by (own := [("_law_word", 7)]) (N := ["_law_state", "_law_words_here", "_law_names", "_law_most", "_law_kinds", "_law_goals", "_law_rows", "_law_word", "_law_name"]) (sc := defScope s_l_parts) (by decide +kernel)) (fun _ _ _ _ _ => (pg_name (i := 7) sc_l_parts.nd rfl (Or.inl rfl))) (fun _ _ _ _ _ => pts_nil) (fun _ _ _ _ _ => (pe_tup (pa_cons (pv 7) (pa_cons (pcall cRow (hr.mono (by decide)) (pa_cons (pv 0) (pa_cons (pv 4) (pa_cons (pv 3) pa_nil)))) pa_nil))))) pa_nil)))
      (pss_one (ps_ret (pe_lst (pa_cons (pv 6) (pa_cons (pe_callTy (call_dictP rfl) (by rfl) B.dict PyProof.Rows.boot_dict (pa_cons (pe_lc (own := [("_law_name", 8)]) (by rfl) sc_l_parts.nd (pi_list (pv 2)) (blkOk_by (own := [("_law_name", 8)]) (N := ["_law_state", "_law_words_here", "_law_names", "_law_most", "_law_kinds", "_law_goals", "_law_rows", "_law_word", "_law_name"]) (sc := defScope s_l_parts) (by decide +kernel)) (fun _ _ _ _ _ => (pg_name (i := 8) sc_l_parts.nd rfl (Or.inl rfl))) (fun _ _ _ _ _ => pts_nil) (fun _ _ _ _ _ => (pe_tup (pa_cons (pv 8) (pa_cons (pcall cPick (hr.mono (by decide)) (pa_cons (pv 0) (pa_cons (pv 5) pa_nil))) pa_nil))))) pa_nil)) (pa_cons (pv 4) (pa_cons (pv 5) pa_nil))))))))), ?_⟩
    refine ⟨_, rfl, _, rfl, G, sa, la, ca, T, 4, rfl, eG, n1, n2, D, by omega, by decide, by decide, fun r1 H1 ra rb e1 D1 => ?_⟩
    refine ⟨1, r1, rfl, rfl, G, sa, la, ca, T + 1, (1 + r1).toNat, ?_, e1, n1, n2, D1, by omega, by omega, fun pk ks H2 np1 lk kn kw e2 h2 D2 => ?_⟩
    · simp; omega
    have k1 := D1.sne np1
    have k2 := D1.lne np1
    refine ⟨_, rfl, _, rfl, cut H2 sa la, sa, la, ca, T + 1 + 400, 5, rfl, cut_ex, cut_s, cut_l, D2, by omega, by decide, by decide, fun r2 H3 rc rd e3 D3 => ?_⟩
    refine ⟨1, r2, rfl, rfl, cut H2 sa la, sa, la, ca, T + 402, (1 + r2).toNat, ?_, e3, cut_s, cut_l, D3, by omega, by omega, fun pg gs H4 np2 lg gn gw e4 h4 D4 => ?_⟩
    · simp; omega
    have g1 := D3.sne np2
    have g2 := D3.lne np2
    have hk4 : H4 pk = some (.lst (ks.map V.str)) := cut_to e4 h2 k1 k2
    have eG4 : Ex G H4 := ext (cut_up e2 n1 n2) e4
    have gk4 : G pk = none := exb e1 np1
    have gg4 : G pg = none := exb (ext (cut_up e2 n1 n2) e3) np2
    have pkg : pk ≠ pg := ne_of_none (cut_to e3 h2 k1 k2) np2
    refine ⟨by simp [sizeLine_eq], fun t nt => ⟨t, [.ref pk, .ref pg], rfl, SqT.of upd_same, rfl, _, _, rfl, _, _, rfl, rfl, ?_⟩⟩
    have eG5 : Ex G (upd H4 t (.tup [.ref pk, .ref pg])) := ext eG4 (exn nt)
    have D5 : Dr (upd H4 t (.tup [.ref pk, .ref pg])) sa la ca (T + 1000) := (D4.new nt).mono (by omega)
    have hk5 := (exn (o := .tup [.ref pk, .ref pg]) nt) _ _ hk4
    have hg5 := (exn (o := .tup [.ref pk, .ref pg]) nt) _ _ h4
    generalize upd H4 t (.tup [.ref pk, .ref pg]) = H5 at eG5 D5 hk5 hg5 ⊢
    clear hk4 h4 D4 e4 nt eG4 D3 e3 h2 D2 e2 np1 np2 D1 e1
    have ks0 : ks ≠ [] := fun z => by rw [z] at lk; simp at lk; omega
    have gs0 : gs ≠ [] := fun z => by rw [z] at lg; simp at lg; omega
    -- the rows
    refine ⟨_, rfl, a, rfl, ⟨_, Evl.ex_l eG5 ha⟩, fun Dl nD => ?_⟩
    have d1 := D5.sne nD
    have d2 := D5.lne nD
    have d3 := D5.cne nD
    have gD : G Dl = none := exb eG5 nD
    have dk : pk ≠ Dl := ne_of_none hk5 nD
    have dg_ : pg ≠ Dl := ne_of_none hg5 nD
    refine lc_list (xs := ws.map V.str) (fun i H' => ∃ (ps : List Addr) (es : List Ent), Ex G H' ∧ H' pk = some (.lst (ks.map V.str)) ∧ H' pg = some (.lst (gs.map V.str)) ∧ H' Dl = some (.lst (ps.map V.ref)) ∧ Paired (fun p e => H' p = some (.tup [.str e.1, .ref e.2.2])) ps es ∧ (∀ e ∈ es, H' e.2.2 = some (.tup (e.2.1.map V.str)) ∧ e.2.1.length ≤ m ∧ ∀ x ∈ e.2.1, x ∈ ks) ∧ es.map (·.1) = ws.take i ∧ ps.length = i ∧ Dr H' sa la ca (T + 1000 + 41 * i)) ?_ ?_ ?_ ?_
    · exact ⟨[], [], ext eG5 (exn nD), (exn nD) _ _ hk5, (exn nD) _ _ hg5, upd_same, .nil, fun _ h => (nomatch h), rfl, rfl, D5.new nD⟩
    · rintro i H' _ ⟨_, _, e, _⟩
      exact Evl.ex_l e ha
    · rintro i x H6 hx ⟨ps, es, e6, hk6, hg6, hD6, pr6, es6, ek6, lp6, D6⟩
      rw [List.getElem?_map] at hx
      cases hz : ws[i]? with
      | none => rw [hz] at hx; cases hx
      | some y =>
        rw [hz] at hx
        obtain rfl : V.str y = x := Option.some.inj hx
        have hi : i < ws.length := (List.getElem?_eq_some_iff.mp hz).1
        refine ⟨rfl, _, rfl, _, rfl, _, rfl, _, rfl, cut H6 sa la, sa, la, ca, pk, T + 1000 + 41 * i, m, ks, rfl, cut_ex, cut_s, cut_l, D6, by omega, by omega, SqL.of (cut_at hk6 k1 k2), ks0, by omega, fun q rw_ H7 nq lq qq e7 h7 D7 => ?_⟩
        refine ⟨by simp [sizeLine_eq], fun t nt => ?_⟩
        have e8 : Ex H7 (upd H7 t (.tup [.str y, .ref q])) := exn nt
        have hD7 := cut_to e7 hD6 d1 d2
        have td : t ≠ Dl := (ne_of_none hD7 nt).symm
        have qd : q ≠ Dl := fun z => by rw [z, hD7] at h7; cases h7
        have tp : ∀ {x : Addr} {xs : List V}, H6 x = some (.tup xs) → upd (upd H7 t (.tup [.str y, .ref q])) Dl (.lst (ps.map V.ref ++ [.ref t])) x = some (.tup xs) := fun {x xs} h => by
          have n := D6.tn h
          have h' := cut_to e7 h n.1 n.2
          rw [upd_ne (fun z => by rw [z, hD7] at h'; cases h'), upd_ne (ne_of_none h' nt)]
          exact h'
        refine ⟨_, e8 _ _ hD7, ?_, ps ++ [t], es ++ [(y, rw_, q)], ?_, ?_, ?_, ?_, ?_, ?_, ?_, ?_, ?_⟩
        · rw [List.length_map, sizeLine_eq]
          omega
        · exact exm (ext (ext (cut_up e6 n1 n2) e7) e8) gD
        · rw [upd_ne dk]
          exact e8 _ _ (cut_to e7 hk6 k1 k2)
        · rw [upd_ne dg_]
          exact e8 _ _ (cut_to e7 hg6 g1 g2)
        · rw [upd_same, List.map_append]
          rfl
        · refine Paired.snoc (Paired.mapP pr6 fun p e h => tp h) ?_
          rw [upd_ne td, upd_same]
        · intro e he
          rcases List.mem_append.mp he with h' | h'
          · obtain ⟨z1, z2⟩ := es6 e h'
            exact ⟨tp z1, z2⟩
          · rw [List.mem_singleton.mp h']
            refine ⟨?_, lq, qq⟩
            rw [upd_ne qd]
            exact e8 _ _ h7
        · rw [List.map_append, ek6, List.take_succ, hz]
          rfl
        · rw [List.length_append, lp6]
          rfl
        · exact ((D7.new nt).upd d1 d2 d3).mono (by omega)
    rintro H6 ⟨ps, es, e6, hk6, hg6, hD6, pr6, es6, ek6, lp6, D6⟩
    rw [List.length_map, List.take_length] at ek6
    rw [List.length_map] at lp6 D6
    refine ⟨Dl, ps, es.map rKV, rfl, SqL.of hD6, ?_, fun pd nd => ?_⟩
    · have mp : ∀ {l1 : List Addr} {l2 : List Ent}, Paired (fun p e => H6 p = some (.tup [.str e.1, .ref e.2.2])) l1 l2 → Paired (fun p kv => SqT K H6 p [kV kv.1, kv.2]) l1 (l2.map rKV) := fun {l1 l2} h => by
        induction h with
        | nil => exact .nil
        | cons h _ ih => exact .cons (SqT.of h) ih
      exact mp pr6
    have em : mergeK [] (es.map rKV) = (es.foldl (putG fun e : Ent => e.1) []).map rKV := by
      rw [rKV_G, rKV_G]
      exact mergeG es []
    rw [em]
    have ms : ∀ e ∈ es.foldl (putG fun e : Ent => e.1) [], e ∈ es := fun e he => (foldG_mem es [] he).resolve_left (by simp)
    have enD : ((es.foldl (putG fun e : Ent => e.1) []).map (·.1)).Nodup := foldG_nd es [] (by simp)
    have ekey : ∀ x, x ∈ (es.foldl (putG fun e : Ent => e.1) []).map (·.1) ↔ x ∈ ws := fun x => by
      have := foldG_key (key := fun e : Ent => e.1) (k := x) es []
      rw [show es.map (fun e : Ent => e.1) = ws from ek6] at this
      simpa using this
    have elen : (es.foldl (putG fun e : Ent => e.1) []).length ≤ ws.length := by
      have h1 := foldG_len (key := fun e : Ent => e.1) es []
      have h2 := congrArg List.length ek6
      rw [List.length_map] at h2
      simp at h1
      omega
    have es6' : ∀ e ∈ es.foldl (putG fun e : Ent => e.1) [], H6 e.2.2 = some (.tup (e.2.1.map V.str)) ∧ e.2.1.length ≤ m ∧ ∀ x ∈ e.2.1, x ∈ ks := fun e he => es6 e (ms e he)
    clear pr6 ms es6
    generalize es.foldl (putG fun e : Ent => e.1) [] = es at enD ekey elen es6' ⊢
    have es6 := es6'
    have R7 : Rws (upd H6 pd (.dK (es.map rKV))) pd es := ⟨upd_same, fun e he => (exn nd) _ _ (es6 e he).1⟩
    have e7 : Ex G (upd H6 pd (.dK (es.map rKV))) := ext e6 (exn nd)
    have hk7 := (exn (o := .dK (es.map rKV)) nd) _ _ hk6
    have hg7 := (exn (o := .dK (es.map rKV)) nd) _ _ hg6
    have D7 : Dr (upd H6 pd (.dK (es.map rKV))) sa la ca (T + 1900) := (D6.new nd).mono (by omega)
    have p1 := D6.sne nd
    have p2 := D6.lne nd
    have gp : G pd = none := exb e6 nd
    have bnd : ∀ e ∈ es, e.2.1.length ≤ m ∧ ∀ x ∈ e.2.1, x ∈ ks := fun e he => (es6 e he).2
    generalize upd H6 pd (.dK (es.map rKV)) = H7 at R7 e7 hk7 hg7 D7 ⊢
    clear nd es6 es6' hD6 D6 hk6 hg6 e6 gD dk dg_ d1 d2 d3 nD lp6
    -- the states
    refine ⟨_, rfl, _, rfl, b, rfl, ⟨_, Evl.ex_l e7 hb⟩, fun Dl nD => ?_⟩
    have d1 := D7.sne nD
    have d2 := D7.lne nD
    have d3 := D7.cne nD
    have gD : G Dl = none := exb e7 nD
    have dk : pk ≠ Dl := ne_of_none hk7 nD
    have dg_ : pg ≠ Dl := ne_of_none hg7 nD
    have dp_ : pd ≠ Dl := ne_of_none R7.1 nD
    refine lc_list (xs := ns.map V.str) (fun i H' => ∃ (ps : List Addr) (ss : List (Str × Str)), Ex G H' ∧ Rws H' pd es ∧ H' pk = some (.lst (ks.map V.str)) ∧ H' pg = some (.lst (gs.map V.str)) ∧ H' Dl = some (.lst (ps.map V.ref)) ∧ Paired (fun p e => H' p = some (.tup [.str e.1, .str e.2])) ps ss ∧ (∀ e ∈ ss, e.2 ∈ gs) ∧ ss.map (·.1) = ns.take i ∧ ps.length = i ∧ Dr H' sa la ca (T + 1900 + i)) ?_ ?_ ?_ ?_
    · exact ⟨[], [], ext e7 (exn nD), R7.ex (exn nD), (exn nD) _ _ hk7, (exn nD) _ _ hg7, upd_same, .nil, fun _ h => (nomatch h), rfl, rfl, D7.new nD⟩
    · rintro i H' _ ⟨_, _, e, _⟩
      exact Evl.ex_l e hb
    · rintro i x H8 hx ⟨ps, ss, e8, R8, hk8, hg8, hD8, pr8, ss8, ek8, lp8, D8⟩
      rw [List.getElem?_map] at hx
      cases hz : ns[i]? with
      | none => rw [hz] at hx; cases hx
      | some y =>
        rw [hz] at hx
        obtain rfl : V.str y = x := Option.some.inj hx
        have hi : i < ns.length := (List.getElem?_eq_some_iff.mp hz).1
        refine ⟨rfl, _, rfl, _, rfl, _, rfl, cut H8 sa la, sa, la, ca, T + 1900 + i, _, rfl, cut_ex, cut_s, cut_l, D8, by omega, .inl ⟨pg, _, rfl, SqL.of (cut_at hg8 g1 g2), by simpa using gs0, by rw [List.length_map]; omega, fun jj x H9 hx e9 D9 => ?_⟩⟩
        rw [List.getElem?_map] at hx
        cases hj : gs[jj]? with
        | none => rw [hj] at hx; cases hx
        | some g =>
        rw [hj] at hx
        obtain rfl : V.str g = x := Option.some.inj hx
        refine ⟨by simp [sizeLine_eq], fun t nt => ?_⟩
        have ea : Ex H9 (upd H9 t (.tup [.str y, .str g])) := exn nt
        have hD9 := cut_to e9 hD8 d1 d2
        have td : t ≠ Dl := (ne_of_none hD9 nt).symm
        have tp : ∀ {x : Addr} {xs : List V}, H8 x = some (.tup xs) → upd (upd H9 t (.tup [.str y, .str g])) Dl (.lst (ps.map V.ref ++ [.ref t])) x = some (.tup xs) := fun {x xs} h => by
          have n := D8.tn h
          have h' := cut_to e9 h n.1 n.2
          rw [upd_ne (fun z => by rw [z, hD9] at h'; cases h'), upd_ne (ne_of_none h' nt)]
          exact h'
        refine ⟨_, ea _ _ hD9, ?_, ps ++ [t], ss ++ [(y, g)], ?_, ⟨?_, fun e he => tp (R8.2 e he)⟩, ?_, ?_, ?_, ?_, ?_, ?_, ?_, ?_⟩
        · rw [List.length_map, sizeLine_eq]
          omega
        · exact exm (ext (ext (cut_up e8 n1 n2) e9) ea) gD
        · rw [upd_ne dp_]
          exact ea _ _ (cut_to e9 R8.1 p1 p2)
        · rw [upd_ne dk]
          exact ea _ _ (cut_to e9 hk8 k1 k2)
        · rw [upd_ne dg_]
          exact ea _ _ (cut_to e9 hg8 g1 g2)
        · rw [upd_same, List.map_append]
          rfl
        · refine Paired.snoc (Paired.mapP pr8 fun p e h => tp h) ?_
          rw [upd_ne td, upd_same]
        · intro e he
          rcases List.mem_append.mp he with h' | h'
          · exact ss8 e h'
          · rw [List.mem_singleton.mp h']
            exact List.mem_of_getElem? hj
        · rw [List.map_append, ek8, List.take_succ, hz]
          rfl
        · rw [List.length_append, lp8]
          rfl
        · exact ((D9.new nt).upd d1 d2 d3).mono (by omega)
    rintro H8 ⟨ps, ss, e8, R8, hk8, hg8, hD8, pr8, ss8, ek8, lp8, D8⟩
    rw [List.length_map, List.take_length] at ek8
    rw [List.length_map] at lp8 D8
    refine ⟨Dl, ps, ss.map sKV, rfl, SqL.of hD8, ?_, fun pz nz => ?_⟩
    · have mp : ∀ {l1 : List Addr} {l2 : List (Str × Str)}, Paired (fun p e => H8 p = some (.tup [.str e.1, .str e.2])) l1 l2 → Paired (fun p kv => SqT K H8 p [kV kv.1, kv.2]) l1 (l2.map sKV) := fun {l1 l2} h => by
        induction h with
        | nil => exact .nil
        | cons h _ ih => exact .cons (SqT.of h) ih
      exact mp pr8
    have em : mergeK [] (ss.map sKV) = (ss.foldl (putG fun e : Str × Str => e.1) []).map sKV := by
      rw [sKV_G, sKV_G]
      exact mergeG ss []
    rw [em]
    have ms : ∀ e ∈ ss.foldl (putG fun e : Str × Str => e.1) [], e.2 ∈ gs := fun e he => ss8 e ((foldG_mem ss [] he).resolve_left (by simp))
    have snD : ((ss.foldl (putG fun e : Str × Str => e.1) []).map (·.1)).Nodup := foldG_nd ss [] (by simp)
    have skey : ∀ x, x ∈ (ss.foldl (putG fun e : Str × Str => e.1) []).map (·.1) ↔ x ∈ ns := fun x => by
      have := foldG_key (key := fun e : Str × Str => e.1) (k := x) ss []
      rw [show ss.map (fun e : Str × Str => e.1) = ns from ek8] at this
      simpa using this
    have slen : (ss.foldl (putG fun e : Str × Str => e.1) []).length ≤ ns.length := by
      have h1 := foldG_len (key := fun e : Str × Str => e.1) ss []
      have h2 := congrArg List.length ek8
      rw [List.length_map] at h2
      simp at h1
      omega
    generalize ss.foldl (putG fun e : Str × Str => e.1) [] = ss' at ms snD skey slen ⊢
    refine ⟨_, rfl, _, rfl, by simp [sizeLine_eq], fun q nq => ?_⟩
    have ez : Ex H8 (upd H8 pz (.dK (ss'.map sKV))) := exn nz
    have eq_ : Ex H8 (upd (upd H8 pz (.dK (ss'.map sKV))) q (.lst [.ref pd, .ref pz, .ref pk, .ref pg])) := ext ez (exn nq)
    refine k q pd pz pk pg es ss' ks gs _ (ext e8 eq_) ((D8.ext eq_).mono (by omega)) (exb (ext e8 ez) nq) gp (exb e8 nz) gk4 gg4 upd_same (R8.ex eq_) ((exn nq) _ _ upd_same) (eq_ _ _ hk8) (eq_ _ _ hg8) enD snD ekey skey elen slen bnd ms kn gn kw gw ks0 gs0 (by omega) (by omega)
end
end Sn
namespace Sn
open Evl (Ex)
open PySem L2
abbrev s_is_word : Stmt := top 22
abbrev s_are_words : Stmt := top 23
abbrev s_need_row : Stmt := top 24
abbrev s_is_lifted_row : Stmt := top 27
abbrev s_are_events : Stmt := top 28
abbrev s_are_snapshots : Stmt := top 29
/-- the program's constants -/
structure Cst (mg : Str → Option Value) : Prop where
  LETTERS : ∃ t, mg "LETTERS" = some (.str abc t)
  MOST_LETTERS : ∃ t, mg "MOST_LETTERS" = some (.int 6 t)
  MOST_KINDS : ∃ t, mg "MOST_KINDS" = some (.int 4 t)
  MOST_STATES : ∃ t, mg "MOST_STATES" = some (.int 5 t)
  MOST_ROW : ∃ t, mg "MOST_ROW" = some (.int 27 t)
section
variable {P : Program} {w : World} {K : PySem.W.Frag} {mg : Str → Option Value} {base : Heap}
theorem sc_is_word : FnScope ["thing", "letter"] ["thing"] (defScope s_is_word) := ⟨rfl, rfl, rfl, by decide +kernel, rfl, by decide +kernel, by decide +kernel⟩
def isWd (x : Str) : Bool := decide (1 ≤ x.cps.size) && decide (x.cps.size ≤ 6) && x.cps.toList.all fun c => decide (c ∈ abc.cps.toList)
def spIsWord (K : PySem.W.Frag) : Sp := fun vs H Q _ => ∃ z : V, vs = [z] ∧ ((∃ x : Str, z = .str x ∧ x.cps.size ≤ 1000 ∧ ∀ H', Ex H H' → Q (.bl (isWd x)) H') ∨ (∃ t, TyX K H z t ∧ PySem.W.kitOne K t (.type "str") = some false ∧ Q (.bl false) H))
theorem ok_is_word {f : Addr} {fd : FuncData} (F : Fun K "is_word" "is_word" s_is_word f fd) (B : Bt mg) (C : Cst mg) : FnOk P w K mg base CX0 1 f fd ["thing"] (spIsWord K) := by
  refine F.ok sc_is_word (fun vs H Q E h => ?_) (fun cdv A outer s H vs Q E hr h => ?_)
  · obtain ⟨_, rfl, _⟩ := h
    rfl
  · obtain ⟨z, rfl, h⟩ := h
    obtain ⟨tl, hL⟩ := C.LETTERS
    obtain ⟨tm, hM⟩ := C.MOST_LETTERS
    refine ⟨_, (pss_cons (ps_if (PW.pt (pw_or (pt_not (pt_val (pe_callB call_isi (by rfl) B.isi PyProof.Rows.boot_isinstance (pa_cons (pv 0) (pa_cons (pe_bltn (v := .ty "str") (by rfl) B.str PyProof.Rows.boot_str rfl) pa_nil))))) (pw_or1 (pt_not (pt_chain op_le op_le pe_int (pe_callB call_len (by rfl) B.len PySem.boot_len (pa_cons (pv 0) pa_nil)) (pe_glob (v := .int 6) rfl hM ⟨_, rfl⟩))))))
        (pss_one (ps_ret pe_bl))
        pss_nil)
      (pss_one (ps_ret (pe_callB (cr_all rfl) (by rfl) B.all PyProof.Rows.boot_all (pa_cons (pe_lc (own := [("letter", 1)]) (by rfl) sc_is_word.nd (pi_str (pv 0)) (blkOk_by (own := [("letter", 1)]) (N := ["thing", "letter"]) (sc := defScope s_is_word) (by decide +kernel)) (fun _ _ _ _ _ => (pg_name (i := 1) sc_is_word.nd rfl (Or.inl rfl))) (fun _ _ _ _ _ => pts_nil) (fun _ _ _ _ _ => (pe_cmpR op_in_sign (pv 1) (pe_glob (v := .str abc) rfl hL ⟨_, rfl⟩) rfl))) pa_nil))))), ?_⟩
    rcases h with ⟨x, rfl, hx, k⟩ | ⟨t, ht, hk, k⟩
    · refine ⟨_, rfl, _, _, _, _, true, rfl, .ty _, .base (.str x), kit_ty (by decide +kernel), _, rfl, ?_⟩
      refine iteF ?_
      refine ⟨_, rfl, _, x.length, rfl, ⟨by simp [Str.length, sizeLine_eq]; omega, rfl⟩, ?_⟩
      have hsz : x.length = x.cps.size := rfl
      refine ⟨_, _, rfl, rfl, _, rfl, ?_⟩
      by_cases h1 : 1 ≤ x.cps.size
      · rw [decide_eq_true (show (1 : Int) ≤ (x.length : Int) by rw [hsz]; omega)]
        refine iteT ?_
        refine ⟨_, _, rfl, rfl, _, rfl, ?_⟩
        by_cases h6 : x.cps.size ≤ 6
        · rw [decide_eq_true (show (x.length : Int) ≤ 6 by rw [hsz]; omega)]
          refine iteF ?_
          refine ⟨_, rfl, _, rfl, fun Dl nD => ?_⟩
          refine lc_it walk_str (fun i H' => Ex H H' ∧ H' Dl = some (.lst (((x.cps.toList.take i).map fun c => decide (c ∈ abc.cps.toList)).map V.bl))) ⟨exn nD, upd_same⟩ (fun _ _ _ _ => trivial) ?_ ?_
          · rintro i y H1 H2 hi ⟨e1, h1'⟩ ⟨rfl, c, hc, rfl⟩
            refine ⟨rfl, _, rfl, c, abc, rfl, rfl, _, h1', ?_, exm e1 nD, ?_⟩
            · rw [List.length_map, List.length_map, sizeLine_eq]
              have h7 : (List.take i x.cps.toList).length ≤ x.cps.size := Nat.le_trans (List.length_take_le' i x.cps.toList) (by simp)
              omega
            · have hc' : x.cps.toList[i]? = some c := by simpa using hc
              rw [upd_same, List.take_succ, hc']
              simp
          · rintro H1 ⟨e1, h1'⟩
            rw [show x.cps.size = x.cps.toList.length by simp, List.take_length] at h1'
            refine ⟨Dl, _, rfl, SqL.of h1', ?_⟩
            have ew : isWd x = (x.cps.toList.map fun c => decide (c ∈ abc.cps.toList)).all id := by
              unfold isWd
              rw [decide_eq_true h1, decide_eq_true h6, List.all_map]
              rfl
            rw [← ew]
            exact k H1 e1
        · rw [decide_eq_false (show ¬ (x.length : Int) ≤ 6 by rw [hsz]; omega)]
          refine iteT ?_
          have ew : isWd x = false := by
            unfold isWd
            rw [decide_eq_false h6]
            simp
          rw [ew] at k
          exact k H exr
      · rw [decide_eq_false (show ¬ (1 : Int) ≤ (x.length : Int) by rw [hsz]; omega)]
        refine iteF ?_
        refine ⟨_, rfl, ?_⟩
        refine iteT ?_
        have ew : isWd x = false := by
          unfold isWd
          rw [decide_eq_false h1]
          simp
        rw [ew] at k
        exact k H exr
    · refine ⟨_, rfl, _, _, _, _, false, rfl, .ty _, ht, hk, _, rfl, ?_⟩
      refine iteT ?_
      exact k
theorem isWd_of {x : Str} (h : Wd x) : isWd x = true := by
  obtain ⟨lo, hi, az⟩ := h
  unfold isWd
  rw [decide_eq_true (show 1 ≤ x.cps.size by simpa using lo), decide_eq_true (show x.cps.size ≤ 6 by simpa using hi), Bool.true_and, Bool.true_and, List.all_eq_true]
  exact fun c hc => decide_eq_true (abc_mem.mpr (az c hc))
theorem wd_of {x : Str} (h : isWd x = true) : Wd x := by
  unfold isWd at h
  rw [Bool.and_eq_true, Bool.and_eq_true, List.all_eq_true] at h
  exact ⟨by simpa using of_decide_eq_true h.1.1, by simpa using of_decide_eq_true h.1.2, fun c hc => abc_mem.mp (of_decide_eq_true (h.2 c hc))⟩
theorem Wd.sz {x : Str} (h : Wd x) : x.cps.size ≤ 1000 := by
  have := h.hi
  simp at this
  omega
/-! ### are_words of a dict with text keys -/
theorem sc_are_words : FnScope ["some", "most", "thing"] ["some", "most"] (defScope s_are_words) := ⟨rfl, rfl, rfl, by decide +kernel, rfl, by decide +kernel, by decide +kernel⟩
theorem unlock {H H' : Hp} {d : Addr} {od : Obj} {u : HO} (e : Ex (upd H d (.frz od u)) H') (h : H d = some u) : Ex H (upd H' d u) := fun x o hx => by
  by_cases z : x = d
  · subst z
    rw [upd_same, ← hx, h]
  · rw [upd_ne z]
    exact e _ _ (by rw [upd_ne z]; exact hx)
/-- keys that are texts; the words of values are not asked for -/
def spAreWords (K : PySem.W.Frag) : Sp := fun vs H Q _ => ∃ (d : Addr) (m : Int) (kvs : List (Key × V)) (ks : List Str), vs = [.ref d, .int m] ∧ H d = some (.dK kvs) ∧ kvs.map (·.1) = ks.map Sum.inr ∧ (∀ x ∈ ks, x.cps.size ≤ 1000) ∧ ks.length ≤ 1000 ∧
  ∀ H', Ex H H' → Q (.bl (decide (1 ≤ ks.length) && decide ((ks.length : Int) ≤ m) && ks.all isWd)) H'
theorem ok_are_words {f : Addr} {fd : FuncData} (F : Fun K "are_words" "are_words" s_are_words f fd) (B : Bt mg) (cW : Cal P w K mg base CX0 1 "is_word" ["thing"] (spIsWord K)) : FnOk P w K mg base CX0 2 f fd ["some", "most"] (spAreWords K) := by
  refine F.ok sc_are_words (fun vs H Q E h => ?_) (fun cdv A outer s H vs Q E hr h => ?_)
  · obtain ⟨_, _, _, _, rfl, _⟩ := h
    rfl
  · obtain ⟨d, m, kvs, ks, rfl, hd, hk, hs, hl, k⟩ := h
    have hlen : kvs.length = ks.length := by
      have := congrArg List.length hk
      simpa using this
    refine ⟨_, (pss_one (ps_ret (pe_and (pe_chain op_le op_le pe_int (pe_callB call_lenD (by rfl) B.len PySem.boot_len (pa_cons (pv 0) pa_nil)) (pv 1)) (pe_one (pe_callB (cr_all rfl) (by rfl) B.all PyProof.Rows.boot_all (pa_cons (pe_lock (pe_lc (own := [("thing", 2)]) (by rfl) sc_are_words.nd (pi_keys (pv 0)) (blkOk_by (own := [("thing", 2)]) (N := ["some", "most", "thing"]) (sc := defScope s_are_words) (by decide +kernel)) (fun _ _ _ _ _ => (pg_name (i := 2) sc_are_words.nd rfl (Or.inl rfl))) (fun _ _ _ _ _ => pts_nil) (fun _ _ _ _ _ => (pcall cW (hr.mono (by decide)) (pa_cons (pv 2) pa_nil))))) pa_nil)))))), ?_⟩
    refine ⟨_, rfl, d, kvs, rfl, hd, ?_⟩
    rw [hlen]
    refine ⟨_, _, rfl, rfl, _, rfl, ?_⟩
    by_cases h1 : 1 ≤ ks.length
    · rw [decide_eq_true (show (1 : Int) ≤ (ks.length : Int) by omega)]
      refine iteT ?_
      refine ⟨_, rfl, _, _, rfl, rfl, _, rfl, ?_⟩
      rw [decide_eq_true h1] at k
      by_cases h2 : (ks.length : Int) ≤ m
      · rw [decide_eq_true h2] at k ⊢
        refine iteT ?_
        refine ⟨d, _, hd, trivial, fun od => ⟨_, rfl, d, od, rfl, .inl ⟨kvs, upd_same, fun Dl nD => ?_⟩⟩⟩
        have dl : Dl ≠ d := fun z => by rw [z, upd_same] at nD; cases nD
        refine lc_it walk_keys (fun i H' => Ex (upd H d (.frz od (.dK kvs))) H' ∧ H' Dl = some (.lst (((ks.take i).map isWd).map V.bl))) ⟨exn nD, upd_same⟩ (fun _ _ _ h => h.1 _ _ upd_same) ?_ ?_
        · rintro i y H1 H2 hi ⟨e1, h1'⟩ ⟨rfl, kk, v, hv, rfl⟩
          have hkk : (kvs.map (·.1))[i]? = some kk := by rw [List.getElem?_map, hv]; rfl
          rw [hk, List.getElem?_map] at hkk
          cases hz : ks[i]? with
          | none => rw [hz] at hkk; cases hkk
          | some x =>
            rw [hz] at hkk
            obtain rfl : Sum.inr x = kk := Option.some.inj hkk
            refine ⟨rfl, _, rfl, _, rfl, .inl ⟨x, rfl, hs x (List.mem_of_getElem? hz), fun H3 e3 => ⟨_, e3 _ _ h1', ?_, exm (ext e1 e3) nD, ?_⟩⟩⟩
            · rw [List.length_map, List.length_map, sizeLine_eq]
              have := List.length_take_le' i ks
              omega
            · rw [upd_same, List.take_succ, hz]
              simp
        · rintro H1 ⟨e1, h1'⟩
          rw [hlen, List.take_length] at h1'
          refine ⟨e1 _ _ upd_same, Dl, _, rfl, SqL.of (by rw [upd_ne dl]; exact h1'), ?_⟩
          have := k _ (unlock e1 hd)
          simpa [List.all_map] using this
      · rw [decide_eq_false h2] at k ⊢
        refine iteF ?_
        exact k H exr
    · rw [decide_eq_false (show ¬ (1 : Int) ≤ (ks.length : Int) by omega)]
      refine iteF ?_
      rw [decide_eq_false h1] at k
      refine ⟨_, rfl, ?_⟩
      refine iteF ?_
      exact k H exr
/-! ### is_lifted_row -/
theorem sc_is_lifted_row : FnScope ["thing", "word"] ["thing"] (defScope s_is_lifted_row) := ⟨rfl, rfl, rfl, by decide +kernel, rfl, by decide +kernel, by decide +kernel⟩
def rowOk (ws : List Str) : Bool := decide (ws.length ≤ 27) && ws.all isWd
def spIsRow (K : PySem.W.Frag) : Sp := fun vs H Q _ => ∃ (a : Addr) (ws : List Str), vs = [.ref a] ∧ H a = some (.tup (ws.map V.str)) ∧ (∀ x ∈ ws, x.cps.size ≤ 1000) ∧ ws.length ≤ 10000000 ∧ ∀ H', Ex H H' → Q (.bl (rowOk ws)) H'
theorem ok_is_row {f : Addr} {fd : FuncData} (F : Fun K "is_lifted_row" "is_lifted_row" s_is_lifted_row f fd) (B : Bt mg) (C : Cst mg) (cW : Cal P w K mg base CX0 1 "is_word" ["thing"] (spIsWord K)) : FnOk P w K mg base CX0 2 f fd ["thing"] (spIsRow K) := by
  refine F.ok sc_is_lifted_row (fun vs H Q E h => ?_) (fun cdv A outer s H vs Q E hr h => ?_)
  · obtain ⟨_, _, rfl, _⟩ := h
    rfl
  · obtain ⟨a, ws, rfl, ha, hs, hl, k⟩ := h
    obtain ⟨tm, hM⟩ := C.MOST_ROW
    refine ⟨_, (pss_one (ps_ret (pe_and (pe_callB call_isi (by rfl) B.isi PyProof.Rows.boot_isinstance (pa_cons (pv 0) (pa_cons (pe_bltn (v := .ty "tuple") (by rfl) B.tuple PyProof.Rows.boot_tuple rfl) pa_nil))) (pe_and (pe_cmpR op_le (pe_callB call_len (by rfl) B.len PySem.boot_len (pa_cons (pv 0) pa_nil)) (pe_glob (v := .int 27) rfl hM ⟨_, rfl⟩) (nomark _)) (pe_one (pe_callB (cr_all rfl) (by rfl) B.all PyProof.Rows.boot_all (pa_cons (pe_lc (own := [("word", 1)]) (by rfl) sc_is_lifted_row.nd (pi_tup (pv 0)) (blkOk_by (own := [("word", 1)]) (N := ["thing", "word"]) (sc := defScope s_is_lifted_row) (by decide +kernel)) (fun _ _ _ _ _ => (pg_name (i := 1) sc_is_lifted_row.nd rfl (Or.inl rfl))) (fun _ _ _ _ _ => pts_nil) (fun _ _ _ _ _ => (pcall cW (hr.mono (by decide)) (pa_cons (pv 1) pa_nil)))) pa_nil))))))), ?_⟩
    refine ⟨_, rfl, _, _, _, _, true, rfl, .ty _, .base (.tup ha), kit_ty (by decide +kernel), _, rfl, ?_⟩
    refine iteT ?_
    refine ⟨_, rfl, _, (ws.map V.str).length, rfl, .inr ⟨_, SqT.of ha, rfl⟩, _, _, rfl, rfl, _, rfl, ?_⟩
    rw [List.length_map]
    by_cases h27 : ws.length ≤ 27
    · rw [decide_eq_true (show ((ws.length : Nat) : Int) ≤ 27 by omega)]
      refine iteT ?_
      refine ⟨_, rfl, a, rfl, ⟨_, SqT.of ha⟩, fun Dl nD => ?_⟩
      refine lc_tup (xs := ws.map V.str) (fun i H' => Ex H H' ∧ H' Dl = some (.lst (((ws.take i).map isWd).map V.bl))) ⟨exn nD, upd_same⟩ (fun _ _ _ h => SqT.of (h.1 _ _ ha)) ?_ ?_
      · rintro i y H1 hx ⟨e1, h1'⟩
        rw [List.getElem?_map] at hx
        cases hz : ws[i]? with
        | none => rw [hz] at hx; cases hx
        | some x =>
          rw [hz] at hx
          obtain rfl : V.str x = y := Option.some.inj hx
          refine ⟨rfl, _, rfl, _, rfl, .inl ⟨x, rfl, hs x (List.mem_of_getElem? hz), fun H3 e3 => ⟨_, e3 _ _ h1', ?_, exm (ext e1 e3) nD, ?_⟩⟩⟩
          · rw [List.length_map, List.length_map, sizeLine_eq]
            have := List.length_take_le' i ws
            omega
          · rw [upd_same, List.take_succ, hz]
            simp
      · rintro H1 ⟨e1, h1'⟩
        rw [List.length_map, List.take_length] at h1'
        refine ⟨Dl, _, rfl, SqL.of h1', ?_⟩
        have := k _ e1
        unfold rowOk at this
        rw [decide_eq_true h27] at this
        simpa [List.all_map] using this
    · rw [decide_eq_false (show ¬ ((ws.length : Nat) : Int) ≤ 27 by omega)]
      refine iteF ?_
      have := k H exr
      unfold rowOk at this
      rw [decide_eq_false h27] at this
      exact this
/-! ### are_events -/
theorem sc_are_events : FnScope ["events", "row"] ["events"] (defScope s_are_events) := ⟨rfl, rfl, rfl, by decide +kernel, rfl, by decide +kernel, by decide +kernel⟩
def evOk (es : List Ent) : Bool := decide (1 ≤ es.length) && decide (es.length ≤ 4) && (es.map (·.1)).all isWd && es.all fun e => rowOk e.2.1
def spAreEv (K : PySem.W.Frag) : Sp := fun vs H Q _ => ∃ (p : Addr) (es : List Ent), vs = [.ref p] ∧ Rws H p es ∧ (∀ e ∈ es, e.1.cps.size ≤ 1000 ∧ e.2.1.length ≤ 10000000 ∧ ∀ x ∈ e.2.1, x.cps.size ≤ 1000) ∧ es.length ≤ 1000 ∧ ∀ H', Ex H H' → Q (.bl (evOk es)) H'
theorem ok_are_ev {f : Addr} {fd : FuncData} (F : Fun K "are_events" "are_events" s_are_events f fd) (B : Bt mg) (C : Cst mg) (cA : Cal P w K mg base CX0 2 "are_words" ["some", "most"] (spAreWords K)) (cR : Cal P w K mg base CX0 2 "is_lifted_row" ["thing"] (spIsRow K)) : FnOk P w K mg base CX0 3 f fd ["events"] (spAreEv K) := by
  refine F.ok sc_are_events (fun vs H Q E h => ?_) (fun cdv A outer s H vs Q E hr h => ?_)
  · obtain ⟨_, _, rfl, _⟩ := h
    rfl
  · obtain ⟨p, es, rfl, hp, hs, hl, k⟩ := h
    obtain ⟨tm, hM⟩ := C.MOST_KINDS
    refine ⟨_, (pss_cons (ps_if (PW.pt (pw_or (pt_not (pt_val (pe_callB call_isi (by rfl) B.isi PyProof.Rows.boot_isinstance (pa_cons (pv 0) (pa_cons (pe_bltn (v := .ty "dict") (by rfl) B.dict PyProof.Rows.boot_dict rfl) pa_nil))))) (pw_or1 (pt_not (pt_val (pcall cA (hr.mono (by decide)) (pa_cons (pv 0) (pa_cons (pe_glob (v := .int 4) rfl hM ⟨_, rfl⟩) pa_nil))))))))
        (pss_one (ps_ret pe_bl))
        pss_nil)
      (pss_one (ps_ret (pe_callB (cr_all rfl) (by rfl) B.all PyProof.Rows.boot_all (pa_cons (pe_lock (pe_lc (own := [("row", 1)]) (by rfl) sc_are_events.nd (pi_values (pv 0)) (blkOk_by (own := [("row", 1)]) (N := ["events", "row"]) (sc := defScope s_are_events) (by decide +kernel)) (fun _ _ _ _ _ => (pg_name (i := 1) sc_are_events.nd rfl (Or.inl rfl))) (fun _ _ _ _ _ => pts_nil) (fun _ _ _ _ _ => (pcall cR (hr.mono (by decide)) (pa_cons (pv 1) pa_nil))))) pa_nil))))), ?_⟩
    refine ⟨_, rfl, _, _, _, _, true, rfl, .ty _, .base (.dK hp.1), kit_ty (by decide +kernel), _, rfl, ?_⟩
    refine iteF ?_
    refine ⟨_, rfl, p, 4, _, es.map (·.1), rfl, hp.1, keysR es, ?_, by rw [List.length_map]; omega, fun H1 e1 => ⟨_, rfl, ?_⟩⟩
    · intro x hx
      obtain ⟨e, he, rfl⟩ := List.mem_map.mp hx
      exact (hs e he).1
    rw [List.length_map]
    have hc : evOk es = ((decide (1 ≤ es.length) && decide ((es.length : Int) ≤ 4) && (es.map (·.1)).all isWd) && es.all fun e => rowOk e.2.1) := by
      unfold evOk
      rw [show decide ((es.length : Int) ≤ 4) = decide (es.length ≤ 4) from by rw [decide_eq_decide]; omega]
    cases hb : (decide (1 ≤ es.length) && decide ((es.length : Int) ≤ 4) && (es.map (·.1)).all isWd) with
    | false =>
      refine iteT ?_
      have := k _ e1
      rw [hc, hb] at this
      exact this
    | true =>
      refine iteF ?_
      have hp1 := hp.ex e1
      refine ⟨p, _, hp1.1, trivial, fun od => ⟨_, rfl, p, od, _, rfl, upd_same, fun Dl nD => ?_⟩⟩
      have dl : Dl ≠ p := fun z => by rw [z, upd_same] at nD; cases nD
      have tn : ∀ e ∈ es, e.2.2 ≠ p := fun e he z => by
        have := hp1.2 e he
        rw [z, hp1.1] at this
        cases this
      refine lc_it walk_values (fun i H' => Ex (upd H1 p (.frz od (.dK (es.map rKV)))) H' ∧ H' Dl = some (.lst (((es.take i).map fun e => rowOk e.2.1).map V.bl))) ⟨exn nD, upd_same⟩ (fun _ _ _ h => h.1 _ _ upd_same) ?_ ?_
      · rintro i y H2 H3 hi ⟨e2, h2'⟩ ⟨rfl, kk, hv⟩
        rw [List.getElem?_map] at hv
        cases hz : es[i]? with
        | none => rw [hz] at hv; cases hv
        | some e =>
          rw [hz] at hv
          obtain ⟨rfl, rfl⟩ : Sum.inr e.1 = kk ∧ V.ref e.2.2 = y := by
            have := Option.some.inj hv
            exact ⟨congrArg Prod.fst this, congrArg Prod.snd this⟩
          have he := List.mem_of_getElem? hz
          have ht : H3 e.2.2 = some (.tup (e.2.1.map V.str)) := e2 _ _ (by rw [upd_ne (tn e he)]; exact hp1.2 e he)
          refine ⟨rfl, _, rfl, e.2.2, e.2.1, rfl, ht, (hs e he).2.2, (hs e he).2.1, fun H4 e4 => ⟨_, e4 _ _ h2', ?_, exm (ext e2 e4) nD, ?_⟩⟩
          · rw [List.length_map, List.length_map, sizeLine_eq]
            have := List.length_take_le' i es
            omega
          · rw [upd_same, List.take_succ, hz]
            simp
      · rintro H2 ⟨e2, h2'⟩
        rw [List.length_map, List.take_length] at h2'
        refine ⟨e2 _ _ upd_same, Dl, _, rfl, SqL.of (by rw [upd_ne dl]; exact h2'), ?_⟩
        have := k _ (ext e1 (unlock e2 hp1.1))
        rw [hc, hb] at this
        simpa [List.all_map, Function.comp_def] using this
/-! ### are_snapshots -/
theorem sc_are_snapshots : FnScope ["snapshots", "state"] ["snapshots"] (defScope s_are_snapshots) := ⟨rfl, rfl, rfl, by decide +kernel, rfl, by decide +kernel, by decide +kernel⟩
def stOk (ss : List (Str × Str)) : Bool := decide (1 ≤ ss.length) && decide (ss.length ≤ 5) && (ss.map (·.1)).all isWd && ss.all fun e => isWd e.2
def spAreSt (K : PySem.W.Frag) : Sp := fun vs H Q _ => ∃ (p : Addr) (ss : List (Str × Str)), vs = [.ref p] ∧ Sts H p ss ∧ (∀ e ∈ ss, e.1.cps.size ≤ 1000 ∧ e.2.cps.size ≤ 1000) ∧ ss.length ≤ 1000 ∧ ∀ H', Ex H H' → Q (.bl (stOk ss)) H'
theorem ok_are_st {f : Addr} {fd : FuncData} (F : Fun K "are_snapshots" "are_snapshots" s_are_snapshots f fd) (B : Bt mg) (C : Cst mg) (cW : Cal P w K mg base CX0 1 "is_word" ["thing"] (spIsWord K)) (cA : Cal P w K mg base CX0 2 "are_words" ["some", "most"] (spAreWords K)) : FnOk P w K mg base CX0 3 f fd ["snapshots"] (spAreSt K) := by
  refine F.ok sc_are_snapshots (fun vs H Q E h => ?_) (fun cdv A outer s H vs Q E hr h => ?_)
  · obtain ⟨_, _, rfl, _⟩ := h
    rfl
  · obtain ⟨p, ss, rfl, hp, hs, hl, k⟩ := h
    obtain ⟨tm, hM⟩ := C.MOST_STATES
    refine ⟨_, (pss_cons (ps_if (PW.pt (pw_or (pt_not (pt_val (pe_callB call_isi (by rfl) B.isi PyProof.Rows.boot_isinstance (pa_cons (pv 0) (pa_cons (pe_bltn (v := .ty "dict") (by rfl) B.dict PyProof.Rows.boot_dict rfl) pa_nil))))) (pw_or1 (pt_not (pt_val (pcall cA (hr.mono (by decide)) (pa_cons (pv 0) (pa_cons (pe_glob (v := .int 5) rfl hM ⟨_, rfl⟩) pa_nil))))))))
        (pss_one (ps_ret pe_bl))
        pss_nil)
      (pss_one (ps_ret (pe_callB (cr_all rfl) (by rfl) B.all PyProof.Rows.boot_all (pa_cons (pe_lock (pe_lc (own := [("state", 1)]) (by rfl) sc_are_snapshots.nd (pi_values (pv 0)) (blkOk_by (own := [("state", 1)]) (N := ["snapshots", "state"]) (sc := defScope s_are_snapshots) (by decide +kernel)) (fun _ _ _ _ _ => (pg_name (i := 1) sc_are_snapshots.nd rfl (Or.inl rfl))) (fun _ _ _ _ _ => pts_nil) (fun _ _ _ _ _ => (pcall cW (hr.mono (by decide)) (pa_cons (pv 1) pa_nil))))) pa_nil))))), ?_⟩
    refine ⟨_, rfl, _, _, _, _, true, rfl, .ty _, .base (.dK hp), kit_ty (by decide +kernel), _, rfl, ?_⟩
    refine iteF ?_
    refine ⟨_, rfl, p, 5, _, ss.map (·.1), rfl, hp, keysS ss, ?_, by rw [List.length_map]; omega, fun H1 e1 => ⟨_, rfl, ?_⟩⟩
    · intro x hx
      obtain ⟨e, he, rfl⟩ := List.mem_map.mp hx
      exact (hs e he).1
    rw [List.length_map]
    have hc : stOk ss = ((decide (1 ≤ ss.length) && decide ((ss.length : Int) ≤ 5) && (ss.map (·.1)).all isWd) && ss.all fun e => isWd e.2) := by
      unfold stOk
      rw [show decide ((ss.length : Int) ≤ 5) = decide (ss.length ≤ 5) from by rw [decide_eq_decide]; omega]
    cases hb : (decide (1 ≤ ss.length) && decide ((ss.length : Int) ≤ 5) && (ss.map (·.1)).all isWd) with
    | false =>
      refine iteT ?_
      have := k _ e1
      rw [hc, hb] at this
      exact this
    | true =>
      refine iteF ?_
      have hp1 := hp.ex e1
      refine ⟨p, _, hp1, trivial, fun od => ⟨_, rfl, p, od, _, rfl, upd_same, fun Dl nD => ?_⟩⟩
      have dl : Dl ≠ p := fun z => by rw [z, upd_same] at nD; cases nD
      refine lc_it walk_values (fun i H' => Ex (upd H1 p (.frz od (.dK (ss.map sKV)))) H' ∧ H' Dl = some (.lst (((ss.take i).map fun e => isWd e.2).map V.bl))) ⟨exn nD, upd_same⟩ (fun _ _ _ h => h.1 _ _ upd_same) ?_ ?_
      · rintro i y H2 H3 hi ⟨e2, h2'⟩ ⟨rfl, kk, hv⟩
        rw [List.getElem?_map] at hv
        cases hz : ss[i]? with
        | none => rw [hz] at hv; cases hv
        | some e =>
          rw [hz] at hv
          obtain ⟨rfl, rfl⟩ : Sum.inr e.1 = kk ∧ V.str e.2 = y := by
            have := Option.some.inj hv
            exact ⟨congrArg Prod.fst this, congrArg Prod.snd this⟩
          have he := List.mem_of_getElem? hz
          refine ⟨rfl, _, rfl, _, rfl, .inl ⟨e.2, rfl, (hs e he).2, fun H4 e4 => ⟨_, e4 _ _ h2', ?_, exm (ext e2 e4) nD, ?_⟩⟩⟩
          · rw [List.length_map, List.length_map, sizeLine_eq]
            have := List.length_take_le' i ss
            omega
          · rw [upd_same, List.take_succ, hz]
            simp
      · rintro H2 ⟨e2, h2'⟩
        rw [List.length_map, List.take_length] at h2'
        refine ⟨e2 _ _ upd_same, Dl, _, rfl, SqL.of (by rw [upd_ne dl]; exact h2'), ?_⟩
        have := k _ (ext e1 (unlock e2 hp1))
        rw [hc, hb] at this
        simpa [List.all_map, Function.comp_def] using this
end
end Sn
/-! enumerate(tuple) -/
namespace Sn
open Evl (Ex)
open PySem PySem.Spec PyProof.Rows L2
theorem meets_enum1 {v : Value} {o : Obj} {G : Heap → Prop} (B : Begins v o G) :
    Meets (Builtin.«enumerate.__new__» ⟨[.type "enumerate", v], []⟩) (fun _ R s => G s.heap ∧
      R (.ok (.ret (.ref (s.heap.push o).objs.size))) { s with heap := (s.heap.push o).push { cls := .type "enumerate", data := .fields #[.none, .bool false, .ref s.heap.objs.size, rawInt 0, .none, .none] } }) := by
  refine .of_wp fun prog w A R s h => ?_
  obtain ⟨hp, g, d, tk, os⟩ := s
  obtain ⟨hG, h⟩ := h
  have hsub := sub_enumerate
  have it1 : ∀ {A' : Around} {E : Value → Shared → Prop} {Q : Value → Shared → Prop}, Q (.ref hp.objs.size) ⟨hp.push o, g, d, tk, os⟩ → wpAny (model prog w) A' (pyIter v) Q E ⟨hp, g, d, tk, os⟩ := fun q => B.iter prog w _ _ ⟨hp, g, d, tk, os⟩ _ hG q
  wp_walk using it1
  refine wpAny_stack_any fun st => wpAny_pure ?_
  split
  · rename_i c _ _ _ _ _
    cases (c == Value.type "enumerate") <;> (wp_walk using it1; exact ⟨_, rfl, h⟩)
  · wp_walk using it1
    exact ⟨_, rfl, h⟩
theorem call_enumT {prog : Program} {w : World} {A : Around} {E : Value → Shared → Prop} {s : Shared} {a : Addr} {its : Array Value} {Q : Value → Shared → Prop} (ha : s.heap.IsTuple a its)
    (h : ∀ h', IsEnum h' (s.heap.objs.size + 1) s.heap.objs.size 0 .none → h'.IsTupleIter s.heap.objs.size a 0 → (∀ b o, s.heap.get? b = some o → h'.get? b = some o) → Q (.ref (s.heap.objs.size + 1)) { s with heap := h' }) :
    wpAny (model prog w) A (call (.type "enumerate") [.ref a]) Q E s := by
  refine callType_new F.called_enumerate (by decide) (F.typeCall_enumerate_1 _) (F.newCall_enumerate_1 _) (fun obj => F.args_object_init_2 obj _) F.entry_enumerate_new (meets_enum1 (begins_tuple a its)) ⟨ha, ?_⟩
  have sz : (s.heap.push { cls := .type "tuple_iterator", data := .fields #[.ref a, .int 0 0] }).objs.size = s.heap.objs.size + 1 := Heap.size_push ..
  have he := Heap.get?_push_size (s.heap.push { cls := .type "tuple_iterator", data := .fields #[.ref a, .int 0 0] }) (o := { cls := .type "enumerate", data := .fields #[.none, .bool false, .ref s.heap.objs.size, rawInt 0, .none, .none] }) rfl
  show _ ∧ _
  rw [sz] at he ⊢
  exact ⟨⟨_, he, rfl⟩, h _ he ⟨_, Heap.get?_push_of_some _ (Heap.get?_push_size _ rfl), rfl, rfl⟩ fun b o z => Heap.get?_push_of_some _ (Heap.get?_push_of_some _ z)⟩
/-- the pairs of enumerate(t), t the tuple xs at a -/
def IteT (K : PySem.W.Frag) (a : Addr) (xs : List V) : It :=
  ⟨fun i H => SqT K H a xs ∧ i < xs.length, fun i H v H' => ∃ T x, v = .ref T ∧ H T = none ∧ H' = upd H T (.tup [.int (i : Nat), x]) ∧ xs[i]? = some x, fun i H => SqT K H a xs ∧ i = xs.length⟩
theorem turn_enumT {P : Program} {w : World} {K : PySem.W.Frag} {elts : List Expr} {kk : Nat} {tpos : Pos} {a e it : Addr} {xs : List V} (n1 : e ≠ it) (n2 : e ≠ a) (n3 : a ≠ it) :
    Turn P w K (.Tuple elts kk tpos) (IteT K a xs) [e, it] e (fun i h => (∃ old, IsEnum h e it ((i : Nat) : Int) old) ∧ h.IsTupleIter it a i) where
  mem := List.mem_cons_self
  obj := fun i h st b hb => by
    obtain ⟨⟨old, he⟩, o, ho, hc, hd⟩ := st
    rcases List.mem_cons.mp hb with z | hb
    · subst z
      exact ⟨_, he, fun v q => nomatch q⟩
    · rw [List.mem_singleton.mp hb]
      exact ⟨o, ho, fun v q => by rw [hd] at q; cases q⟩
  keep := fun i h h' st k => ⟨st.1.elim fun old he => ⟨old, k e List.mem_cons_self _ he⟩, st.2.at fun o q => k it (by simp) o q⟩
  item := by
    intro X hP hw hK hc i pins s σ H E I hf st hg
    subst hP hw hK
    obtain ⟨⟨old, he⟩, hit⟩ := st
    obtain ⟨hq, hi⟩ := hg
    have hx := List.getElem?_eq_getElem hi
    generalize xs[i] = x at hx
    obtain ⟨its, rv, p, hz⟩ := I.tuple hq
    obtain ⟨u, hu, ru⟩ := rv.get hx
    have hlt : i < its.toArray.size := by simpa using (List.getElem?_eq_some_iff.mp hu).1
    refine wpAny_pyNext_enum_itemD (Draws.tuple (A := X.A.in1) (show X.A.in1.handled = none from I.ok.hd hc) it a n3 its.toArray) he ⟨hit, p⟩ hlt n1 (by simp [n1, n2]) fun y h1 tk hy ho st1 hT hsz hk => ?_
    have ey : y = u := by
      have z : its.toArray[i]? = some y := hy
      have z' : its[i]? = some y := by simpa using z
      rw [hu] at z'
      exact (Option.some.inj z').symm
    subst ey
    refine ⟨_, rfl, wpAny_letOwnedTupleGo_enum (s := { s with heap := h1, toks := tk + 1 }) ho fun h2 he2 sb => ?_⟩
    have lte : e < s.heap.objs.size := Heap.lt_size he
    have lti : it < s.heap.objs.size := by obtain ⟨_, q, _⟩ := hit; exact Heap.lt_size q
    have hT2 := (sb.2 _ (Nat.ne_of_gt lte)).trans hT
    have kept : ∀ b ob, b ∉ [e, it] → s.heap.get? b = some ob → h2.get? b = some ob := fun b ob hb q => by
      have nb : b ≠ e ∧ b ≠ it := by simpa using hb
      exact (sb.2 b nb.1).trans (hk b ob nb.1 nb.2 q)
    have new : ObjOk X.prog X.w (upd H s.heap.objs.size (.tup [.int (i : Nat), x])) h2 s.heap.objs.size (.tup [.int (i : Nat), x]) := ⟨by show 2 ≤ sizeLine; decide, [.int i tk, y], .cons ⟨_, rfl⟩ (.cons ru .nil), ⟨_, hT2, rfl, _, rfl⟩⟩
    refine ⟨.ref s.heap.objs.size, _, I.turnedNew (t' := tk + 1) kept hf (Nat.le_refl _) new, rfl, ⟨_, x, rfl, I.hok.fresh (Nat.le_refl _), rfl, hx⟩, ⟨⟨y, ?_⟩, st1.1.at fun o q => (sb.2 it (Ne.symm n1)).trans q⟩, fun b hb => ?_⟩
    · rw [show ((i + 1 : Nat) : Int) = (i : Int) + 1 by omega]
      exact he2
    · have lb : b < s.heap.objs.size := by
        rcases List.mem_cons.mp hb with z | hb
        · rw [z]; exact lte
        · rw [List.mem_singleton.mp hb]; exact lti
      rw [upd_ne (Nat.ne_of_lt lb)]
      exact (hf b hb).1
  done := by
    intro X hP hw hK hc i pins s σ H E I hf st hg
    subst hP hw hK
    obtain ⟨⟨old, he⟩, hit⟩ := st
    obtain ⟨hq, hx⟩ := hg
    obtain ⟨its, rv, p, hz⟩ := I.tuple hq
    obtain ⟨f0, f1, f2, f3, f4, f5⟩ := hf it (by simp)
    have ez : i = its.toArray.size := by
      rw [hx, rv.length]
      simp
    subst ez
    exact wpAny_pyNext_enum_endD (Draws.tuple (A := X.A.in1) (show X.A.in1.handled = none from I.ok.hd hc) it a n3 its.toArray) he ⟨hit, p⟩ fun h' eb => ⟨rfl, I.turned (t' := s.toks) (fun b o hb q => eb b o hb q) f0 f1 f3 f4 f5⟩
  self := fun A i s Q E st h => st.1.elim fun _ he => wpAny_pyIter_enum he h
def iEnumT (K : PySem.W.Frag) (ta : TA) : TI := fun σ H R => ta σ H fun vs H1 => ∃ a xs, vs = [.ref a] ∧ SqT K H1 a xs ∧ R (IteT K a xs) H1
theorem pi_enumT {X : Cx} {e : Expr} {ta : TA} {p pos tpos : Pos} {elts : List Expr} {kk : Nat} (hg : Gl X "enumerate") (hm : X.mg "enumerate" = none) (ha : PA X [e] ta) (hs : starEach [e] X.env = [(false, eval e X.env)] := by rfl) :
    PI X (.Tuple elts kk tpos) (.Call (.Name "enumerate" p) [e] [] pos) (iEnumT X.K ta) := by
  refine ⟨fun pins s σ H R I h => Call_ (ld_blt I hg hm boot_enumerate (PyProof.Rows.callWith_type1 (thn (ha.run pos pins s σ H _ I h) fun us s1 hh => ?_) hs rfl))⟩
  obtain ⟨vs, H1, I1, r1, a, xs, ex, hq, q⟩ := hh
  subst ex
  obtain rfl := Vals.ref1 r1
  obtain ⟨its, rv, p', hz⟩ := I1.tuple hq
  have la : a < s1.heap.objs.size := by obtain ⟨o, ho, _⟩ := p'; exact Heap.lt_size ho
  refine call_enumT p' fun h' he hit hk => wpAny_pyIter_enum he ?_
  refine ⟨s1.heap.objs.size + 1, [s1.heap.objs.size + 1, s1.heap.objs.size], _, _, H1, rfl, I1.kept (t' := s1.toks) hk, turn_enumT (Nat.succ_ne_self _) (Nat.ne_of_gt (Nat.lt_succ_of_lt la)) (Nat.ne_of_lt la), ⟨⟨.none, he⟩, hit⟩, fun b hb => ?_, q⟩
  have hle : s1.heap.objs.size ≤ b := by
    rcases List.mem_cons.mp hb with z | hb
    · rw [z]; exact Nat.le_succ _
    · rw [List.mem_singleton.mp hb]; exact Nat.le_refl _
  exact I1.fpOk hle (I1.hok.fresh hle)
/-- for i, x in enumerate(t) -/
theorem walk_enumT {K : PySem.W.Frag} {a : Addr} {xs : List V} : Walk (IteT K a xs) xs.length (fun H => SqT K H a xs) (YPair (fun i => some (.int (i : Nat))) (fun i => xs[i]?)) := by
  refine ⟨fun _ _ hi q => ⟨q, hi⟩, fun _ q => ⟨q, rfl⟩, fun i H v H' _ _ y => ?_⟩
  obtain ⟨T, x, h1, h2, h3, h4⟩ := y
  exact ⟨T, _, x, h1, h2, h3, rfl, h4⟩
end Sn
/-! raising, and calls of defs that raise, in short -/
namespace Sn
open Evl (Ex)
open PySem PySem.Spec PyProof.Rows L2
/-- an error class with an own __init__ that keeps one field n -/
structure RaiseK (P : Program) (w : World) (K : PySem.W.Frag) (mg : Str → Option Value) (base : Heap) (C : Addr) (x n : Str) : Prop where
  ex : ∃ (fI : Addr) (fd : FuncData), OexC K C ∧ PySem.W.findIn K (.ref C) "__init__" = some (some (.ref fI)) ∧ PySem.W.typeIn K (.ref fI) = some (.type "function") ∧ FnOk P w K mg base CX0 0 fI fd ["self", n] (spSup C n) ∧ Binds K fd ["self", n] [] ∧ mg x = some (.ref C)
/-- an error class without own __init__ -/
structure Raise0 (K : PySem.W.Frag) (mg : Str → Option Value) (C : Addr) (x : Str) : Prop where
  q : ∃ (bmB : List Value) (B newId initId : String), ExcBaseFacts B newId initId bmB ∧ PySem.W.excIn K C bmB newId = true
  m : mg x = some (.ref C)
  kp : PySem.W.keepIn K (.ref C) = true
  sub : PySem.W.subIn K (.ref C) (.type "BaseException") = some true
  ty : PySem.W.typeIn K (.ref C) = some (.type "type")
section
variable {X : Cx} {pos : Pos}
theorem pr_k {C : Addr} {x n : Str} {p : Pos} {e : Expr} {te : TE} (R : RaiseK X.prog X.w X.K X.mg X.base C x n) (hr : Room 1 X.A) (ha : PE X e te) (hg : Gl X x := by rfl)
    (hdb : (x == ("__debug__" : Str)) = false := by decide) (he : starEach [e] X.env = (false, eval e X.env) :: starEach [] X.env := by rfl) :
    PMk X (.Call (.Name x p) [e] [] pos) (tMkO C (spSup C n) [] (tCons te tNil)) := by
  obtain ⟨fI, fd, T, iC, tI, F1, hb, hm⟩ := R.ex
  exact pmk_oex T iC tI F1 hr hb .nil pass0 hg hm (pa_cons ha pa_nil he) hdb he rfl
theorem mkK {C : Addr} {n : Str} {y : V} {H1 : Hp} {Q : XK} (h : ∀ dd H', Ex H1 H' → H' dd = some (.xd [(n, y)]) → Q (.ref C) (some dd) H') :
    [y].length ≤ 1000 ∧ ∀ a, H1 a = none → spSup C n (.ref a :: ([y] ++ [])) (upd H1 a (exo a C none)) (fun v H2 => v = .non ∧ ∃ (d : Addr) (fs : List (Str × V)), H2 a = some (exo a C (some d)) ∧ H2 d = some (exd d fs) ∧ H1 d = none ∧ Q (.ref C) (some d) (upd (del H2 a) d (.xd fs))) (fun _ _ _ => False) := by
  refine ⟨by simp, fun a na => ⟨a, y, rfl, upd_same, fun dx n1 n2 => ⟨rfl, dx, [(n, y)], upd_same, ?_, ?_, h _ _ ?_ upd_same⟩⟩⟩
  · rw [upd_ne n2, upd_same]
  · rw [upd_ne n2] at n1
    exact n1
  · intro b o hb
    have nb1 : b ≠ a := ne_of_none hb na
    have nb2 : b ≠ dx := by
      rw [upd_ne n2] at n1
      exact ne_of_none hb n1
    rw [upd_ne nb2, del_ne nb1, upd_ne nb1, upd_ne nb2, upd_ne nb1]
    exact hb
theorem pr_0 {C : Addr} {x : Str} {p : Pos} (R : Raise0 X.K X.mg C x) (hg : Gl X x := by rfl) (hdb : (x == ("__debug__" : Str)) = false := by decide) : PMk X (.Call (.Name x p) [] [] pos) (fun σ H Q => Q (.ref C) none H) := by
  obtain ⟨bmB, B, newId, initId, F, q⟩ := R.q
  exact pmk_own0 F q R.m R.kp (raises_own R.sub R.ty) hg hdb
/-- a def that may raise is called -/
theorem pcallX {k : Nat} {x : Str} {ps : List Str} {sp : Sp} {e : Expr} {es : List Expr} {p : Pos} {t : TA} {E : XK} (c : Cal X.prog X.w X.K X.mg X.base (L2.CX X.prog X.w) k x ps sp) (tk : Takes X (fun cls d _ H' => E cls d H')) (hr : Room k X.A) (ha : PA X (e :: es) t) (hg : Gl X x := by rfl)
    (hdb : (x == ("__debug__" : Str)) = false := by decide) (he : starEach (e :: es) X.env = (false, eval e X.env) :: starEach es X.env := by rfl) (hpl : (backTo pos (starEach es X.env)).any (·.1) = false := by rfl) :
    PE X (.Call (.Name x p) (e :: es) [] pos) (tCall sp [] E t) := by
  obtain ⟨f, fd, F, b, m, kp⟩ := c.ex
  exact pe_call F hr hg m kp b .nil (passes_call tk fun _ _ _ _ h => h) ha hdb he hpl
end
section
variable {P : Program} {w : World} {K : PySem.W.Frag} {mg : Str → Option Value} {base : Heap} {N : List Str} {qual : Str} {scope : Scope} {f : Addr} {cd : Value} {A : Around} {outer : List Env} {s : Shared} {H : Hp} {E : XK}
/-- what leaves a def's body -/
theorem tkX : Takes (cxOf (L2.CX P w) P w K mg base N qual scope f cd A outer s H E) (fun cls d _ H' => E cls d H') := takes_of rfl rfl rfl rfl
theorem paX : PassesOwn (model P w) (cxOf (L2.CX P w) P w K mg base N qual scope f cd A outer s H E).A (cxOf (L2.CX P w) P w K mg base N qual scope f cd A outer s H E).env (cxOf (L2.CX P w) P w K mg base N qual scope f cd A outer s H E).xe := passes_of (X := cxOf (L2.CX P w) P w K mg base N qual scope f cd A outer s H E) rfl
end
end Sn
namespace Sn
open Evl (Ex)
open PySem L2
section
variable {P : Program} {w : World} {K : PySem.W.Frag} {mg : Str → Option Value} {base : Heap}
/-- an item of a row, as far as need_row asks: a text, or no text -/
def Itm (K : PySem.W.Frag) (H : Hp) (x : V) : Prop := (∃ s : Str, x = .str s) ∨ ∃ t, TyX K H x t ∧ PySem.W.kitOne K t (.type "str") = some false
def good (ks : List Str) (x : V) : Bool := match x with
  | .str s => decide (s ∈ ks)
  | _ => false
theorem Itm.ex {H H' : Hp} {x : V} (h : Itm K H x) (e : Ex H H') : Itm K H' x := by
  rcases h with h | ⟨t, h, k⟩
  · exact .inl h
  · refine .inr ⟨t, ?_, k⟩
    cases h with
    | base b =>
      refine .base ?_
      cases b with
      | non => exact .non
      | bl y => exact .bl y
      | int i => exact .int i
      | str y => exact .str y
      | flt y => exact .flt y
      | lst h => exact .lst (e _ _ h)
      | frz h => exact .frz (e _ _ h)
      | tup h => exact .tup (e _ _ h)
      | dK h => exact .dK (e _ _ h)
      | dT h => exact .dT (e _ _ h)
      | ins h cl ha hn htk hm => exact .ins (e _ _ h) cl ha hn htk hm
    | byt b => exact .byt b
    | set h => exact .set (e _ _ h)
    | kList h c => exact .kList h c
    | kTuple h c => exact .kTuple h c
    | kDict h c => exact .kDict h c
    | fTuple h => exact .fTuple (e _ _ h)
    | fDict h => exact .fDict (e _ _ h)
theorem sc_need_row : FnScope ["row", "kinds", "at", "kind"] ["row", "kinds"] (defScope s_need_row) := ⟨rfl, rfl, rfl, by decide +kernel, rfl, by decide +kernel, by decide +kernel⟩
def spNeedRow (K : PySem.W.Frag) (CK : Addr) : Sp := fun vs H Q E => ∃ (z : V) (d : Addr) (kvs : List (Key × V)) (ks : List Str), vs = [z, .ref d] ∧ H d = some (.dK kvs) ∧ kvs.map (·.1) = ks.map Sum.inr ∧
  ((∃ t, TyX K H z t ∧ PySem.W.kitOne K t (.type "tuple") = some false ∧ ∀ dd H', Ex H H' → H' dd = some (.xd [("at", .int 0)]) → E (.ref CK) (some dd) H') ∨
   (∃ (a : Addr) (xs : List V), z = .ref a ∧ H a = some (.tup xs) ∧ (∀ x ∈ xs, Itm K H x) ∧ ((∀ x ∈ xs, good ks x = true) → ∀ H', Ex H H' → Q .non H') ∧
     ∀ (i : Nat) (x : V), xs[i]? = some x → good ks x = false → (∀ (j : Nat) (y : V), j < i → xs[j]? = some y → good ks y = true) → ∀ dd H', Ex H H' → H' dd = some (.xd [("at", .int (i : Int))]) → E (.ref CK) (some dd) H'))
theorem ok_need_row {f CK : Addr} {fd : FuncData} (F : Fun K "need_row" "need_row" s_need_row f fd) (B : Bt mg) (R : RaiseK P w K mg base CK "NoKind" "at") : FnOk P w K mg base (L2.CX P w) 2 f fd ["row", "kinds"] (spNeedRow K CK) := by
  refine F.okX sc_need_row (fun vs H Q E h => ?_) (fun cdv A outer s H vs Q E hr h => ?_)
  · obtain ⟨_, _, _, _, rfl, _⟩ := h
    rfl
  · obtain ⟨z, d, kvs, ks, rfl, hd, hk, h⟩ := h
    have hu := hu_of hr
    refine ⟨_, (pss_cons (ps_if (pt_not (pt_val (pe_callB call_isi (by rfl) B.isi PyProof.Rows.boot_isinstance (pa_cons (pv 0) (pa_cons (pe_bltn (v := .ty "tuple") (by rfl) B.tuple PyProof.Rows.boot_tuple rfl) pa_nil)))))
        (pss_one (ps_raise rfl tkX (pr_k R (hr.mono (by decide)) pe_int)))
        pss_nil)
      (pss_one (ps_for paX rfl (pi_enumT (by rfl) B.enum (pa_cons (pv 0) pa_nil)) (pg_tup rfl (pgs_cons (pg_name (i := 2) sc_need_row.nd rfl (.inl rfl)) (pgs_cons (pg_name (i := 3) sc_need_row.nd rfl (.inl rfl)) pgs_nil)))
        (pss_one (ps_if (PW.pt (pw_or (pt_not (pt_val (pe_callB call_isi (by rfl) B.isi PyProof.Rows.boot_isinstance (pa_cons (pv 3) (pa_cons (pe_bltn (v := .ty "str") (by rfl) B.str PyProof.Rows.boot_str rfl) pa_nil))))) (pw_or1 (pt_cmp (pc_dnotin hu (pv 3) (pv 1))))))
          (pss_one (ps_raise rfl tkX (pr_k R (hr.mono (by decide)) (pv 2))))
          pss_nil))))), ?_⟩
    rcases h with ⟨t, ht, hkt, k⟩ | ⟨a, xs, rfl, ha, hi, kQ, kE⟩
    · refine ⟨_, rfl, _, _, _, _, false, rfl, .ty _, ht, hkt, _, rfl, ?_⟩
      refine iteT ?_
      exact mkK k
    · refine ⟨_, rfl, _, _, _, _, true, rfl, .ty _, .base (.tup ha), kit_ty (by decide +kernel), _, rfl, ?_⟩
      refine iteF ?_
      refine ⟨_, rfl, a, xs, rfl, SqT.of ha, ?_⟩
      refine for_it walk_enumT (fun i σ H' => ∃ z1 z2, σ = [some (.ref a), some (.ref d), z1, z2] ∧ Ex H H' ∧ ∀ (j : Nat) (y : V), j < i → xs[j]? = some y → good ks y = true) ⟨none, none, rfl, exr, fun _ _ h => absurd h (Nat.not_lt_zero _)⟩ (fun i σ H' _ h => ?_) ?_ ?_
      · obtain ⟨_, _, _, e, _⟩ := h
        exact SqT.of (e _ _ ha)
      · rintro i v σ H1 H2 hlt ⟨z1, z2, rfl, e1, g1⟩ ⟨T, x, y, rfl, nT, rfl, hx, hy⟩
        obtain rfl : V.int (i : Nat) = x := Option.some.inj hx
        have hy : xs[i]? = some y := hy
        have e2 : Ex H (upd H1 T (.tup [.int (i : Nat), y])) := ext e1 (exn nT)
        refine ⟨T, [.int (i : Nat), y], rfl, SqT.of upd_same, rfl, _, _, rfl, _, _, rfl, rfl, ?_⟩
        generalize upd H1 T (.tup [.int (i : Nat), y]) = H3 at e2 ⊢
        have hd3 := e2 _ _ hd
        have bad : good ks y = false → ∀ dd H', Ex H3 H' → H' dd = some (.xd [("at", .int ((i : Nat) : Int))]) → E (.ref CK) (some dd) H' := fun hg dd H' e h => kE i y hy hg g1 dd H' (ext e2 e) h
        have nxt : good ks y = true → ∀ (j : Nat) (y' : V), j < i + 1 → xs[j]? = some y' → good ks y' = true := fun hg j y' hj hy' => by
          rcases Nat.lt_succ_iff_lt_or_eq.mp hj with h | h
          · exact g1 j y' h hy'
          · subst h
            rw [hy] at hy'
            rw [← Option.some.inj hy']
            exact hg
        rcases (hi y (List.mem_of_getElem? hy)).ex e2 with ⟨sx, rfl⟩ | ⟨t, ht, hkt⟩
        · refine ⟨_, rfl, _, _, _, _, true, rfl, .ty _, .base (.str sx), kit_ty (by decide +kernel), _, rfl, ?_⟩
          refine iteF ?_
          by_cases hm : sx ∈ ks
          · have hg : good ks (.str sx) = true := decide_eq_true hm
            have hv : (valV kvs (Sum.inr sx : Key)).isSome = true := by
              cases hv : valV kvs (Sum.inr sx : Key) with
              | some v => rfl
              | none =>
                have := valV_not hv
                rw [hk] at this
                exact absurd (List.mem_map_of_mem hm) this
            refine ⟨_, rfl, _, rfl, d, _, rfl, DGet.k (k := (Sum.inr sx : Key)) hd3, _, rfl, ?_⟩
            rw [hv]
            refine iteF ?_
            exact ⟨_, _, rfl, e2, nxt hg⟩
          · have hg : good ks (.str sx) = false := decide_eq_false hm
            have hv : (valV kvs (Sum.inr sx : Key)).isSome = false := by
              rw [valV_no]
              · rfl
              · rw [hk]
                intro z
                obtain ⟨q, hq, e⟩ := List.mem_map.mp z
                cases e
                exact hm hq
            refine ⟨_, rfl, _, rfl, d, _, rfl, DGet.k (k := (Sum.inr sx : Key)) hd3, _, rfl, ?_⟩
            rw [hv]
            refine iteT ?_
            exact ⟨_, rfl, mkK (bad hg)⟩
        · have hg : good ks y = false := by
            cases y with
            | str q =>
              exfalso
              cases ht with
              | base b =>
                cases b
                have z : PySem.W.kitOne K (.type "str") (.type "str") = some true := kit_ty (by decide +kernel)
                rw [z] at hkt
                cases hkt
            | _ => rfl
          refine ⟨_, rfl, _, _, _, _, false, rfl, .ty _, ht, hkt, _, rfl, ?_⟩
          refine iteT ?_
          refine iteT ?_
          exact ⟨_, rfl, mkK (bad hg)⟩
      · rintro σ H1 ⟨z1, z2, rfl, e1, g1⟩
        refine kQ (fun x hx => ?_) H1 e1
        obtain ⟨j, hj⟩ := List.mem_iff_getElem?.mp hx
        exact g1 j x (List.getElem?_eq_some_iff.mp hj).1 hj
end
end Sn
/-! walks of any kind of block -/
namespace Sn
open Evl (Ex)
open PySem L2
theorem w_out {J : It} {n : Nat} {G : Hp → Prop} {Y : Nat → Hp → V → Hp → Prop} (w : Walk J n G Y) {Bd : V → Hp → (Hp → Prop) → Prop} {H0 : Hp} {Qd : Hp → Prop} (Pv : Nat → Hp → Prop) (h0 : Pv 0 H0) (hG : ∀ i H, i ≤ n → Pv i H → G H)
    (hs : ∀ i x H H', i < n → Pv i H → Y i H x H' → Bd x H' (Pv (i + 1))) (hd : ∀ H, Pv n H → Qd H) :
    ∃ W : Nat → Nat → Hp → Prop, (∃ m, W 0 m H0) ∧ ∀ i m H, W i m H → (J.stop i H ∧ Qd H) ∨ (J.go i H ∧ ∃ Nx : Hp → Prop, (∀ H', Nx H' → ∃ m', m' < m ∧ W (i + 1) m' H') ∧ ∀ x H', J.yld i H x H' → Bd x H' Nx) := by
  refine ⟨fun i m H => i ≤ n ∧ m = n - i ∧ Pv i H, ⟨n, Nat.zero_le _, rfl, h0⟩, fun i m H hW => ?_⟩
  obtain ⟨hi, rfl, p⟩ := hW
  rcases Nat.lt_or_eq_of_le hi with hlt | rfl
  · exact .inr ⟨w.goes i H hlt (hG i H hi p), Pv (i + 1), fun H' p' => ⟨n - (i + 1), by omega, hlt, rfl, p'⟩, fun x H' y => hs i x H H' hlt p (w.yields i H x H' hlt (hG i H hi p) y)⟩
  · exact .inl ⟨w.stops H (hG _ H hi p), hd H p⟩
open PySem.Spec PyProof.Rows in
/-- y = {k: v for ..} -/
theorem ps_setDc {X : Cx} {i : Nat} {y : Str} {py : Pos} {kx vx tg iter : Expr} {ifs : List Expr} {scope : Scope} {own : List (Str × Nat)} {pos spos : Pos} {wi : TI} {g : TG} {tt : TT} {tk tv : TE} (hc : X.calm = true) (hN : X.N.Nodup) (hy : X.N[i]? = some y) (hyl : X.env.scope.names.lookup y = some .local)
    (hsw : swapsWith (.DictComp kx vx [⟨tg, iter, ifs, 0⟩] scope pos) (some (.Name y py)) spos.line X.env = pure true) (hi : PI X tg iter wi) (ok : BlkOk X.N X.env.scope scope own)
    (hg : ∀ (s : Shared) (H : Hp) (C : Addr) (cl : List (Str × Addr)) (fp : List Addr), PG (X.blk s H scope (compEnvC scope cl C X.env) fp) tg g) (ht : ∀ (s : Shared) (H : Hp) (C : Addr) (cl : List (Str × Addr)) (fp : List Addr), PTs (X.blk s H scope (compEnvC scope cl C X.env) fp) ifs tt)
    (hk : ∀ (s : Shared) (H : Hp) (C : Addr) (cl : List (Str × Addr)) (fp : List Addr), PE (X.blk s H scope (compEnvC scope cl C X.env) fp) kx tk)
    (he : ∀ (s : Shared) (H : Hp) (C : Addr) (cl : List (Str × Addr)) (fp : List Addr), PE (X.blk s H scope (compEnvC scope cl C X.env) fp) vx tv) (hs : ∀ x, foldedSetIterable iter X.env x = pure x := by intro _; rfl) :
    PS X (.Assign [.Name y py] (.DictComp kx vx [⟨tg, iter, ifs, 0⟩] scope pos) spos) (tAsg (tDc wi g tt tk tv (own.map (·.2))) (gName i)) := by
  refine ⟨fun pins s σ H D I h => ?_⟩
  rw [exec_Assign_Name_used _ _ _ _ hsw]
  refine wpAny_bind (wpAny_standAt (wpAny_bind ?_))
  show wpAny _ X.A (do let _ ← comprehension (.DictComp kx vx [⟨tg, iter, ifs, 0⟩] scope pos) scope X.env (firstIterPos [⟨tg, iter, ifs, 0⟩] pos) newDict false (eval iter X.env) (some (assign (.Name y py) X.env))) _ _ s
  have hh : tDc wi g tt tk tv (own.map (·.2)) σ H (fun x H1 => gName i x σ H1 D.nx) := h
  refine wpAny_bind (thn (dc_core (Qf := fun _ s' => SP X pins D .next s') hc hN I hi ok hg ht hk he hs hh fun P C s' m H' I' q hn f => ?_) fun _ s' hq => wpAny_pure (wpAny_pure hq))
  show wpAny _ _ (assign (.Name y py) X.env (.ref P)) _ _ _
  obtain ⟨f0, f1, f2, f3, f4, f5⟩ := f
  refine wpAny_assign_Name (store_ok2 (v := V.ref P) I' hN hy (.inl hyl) rfl (fun s2 I2 hw => ?_) (.inr hyl))
  obtain ⟨b, sb, hb⟩ := hw
  have nb : C ≠ b := hb.elim (fun z => by rw [z]; exact f1) fun z e => f4 y b z e.symm
  exact ⟨m, hn.sameBut sb nb, fun h3 sb3 => ⟨_, H', I2.turned (t' := s2.toks) (fun c o hc e => (sb3.2 c hc).trans e) f0 f1 f3 f4 f5, q⟩⟩
theorem swD {kx vx : Expr} {gs : List Comprehension} {scope : Scope} {pos py : Pos} {y : Str} {l : Nat} {env : Env} (hk : env.scope.kind = .function) (hy : env.scope.names.lookup y = some .local) (hl : (py.line == pos.line) = true)
    (ha : (scope.names.any fun (n, k) => n == y && (k == .local || k == .cell)) = false) : swapsWith (.DictComp kx vx gs scope pos) (some (.Name y py)) l env = pure true := by
  have k1 : env.kindOf y = some .local := hy
  have k2 : env.blockKind = .function := by unfold Env.blockKind; rw [hk]; rfl
  unfold swapsWith
  simp only [k2, k1, ha, Expr.pos, hl]
  rfl
end Sn
namespace Sn
open Evl (Ex)
open PySem L2
abbrev s_Lift___init : Stmt := inClass (top 30) 0
abbrev s_Lift_events : Stmt := inClass (top 30) 1
abbrev s_Lift___call : Stmt := inClass (top 30) 3
abbrev s_Lift_lifted : Stmt := inClass (top 30) 4
abbrev s_Lift_lifted_state : Stmt := inClass (top 30) 5
abbrev s_Lift___rshift : Stmt := inClass (top 30) 7
abbrev s_Lift___eq : Stmt := inClass (top 30) 8
/-- the class Lift -/
structure LiftC (K : PySem.W.Frag) (CL : Addr) : Prop where
  cls : Cls K CL
  ev : NoAttr K CL "own_events"
  st : NoAttr K CL "own_snapshots"
/-- es' is es, ascending -/
structure SrtE (es es' : List Ent) : Prop where
  pm : (es'.map (·.1)).Perm (es.map (·.1))
  so : PyProof.Rows.sortedS (es'.map (·.1)) = true
  sub : ∀ e ∈ es', e ∈ es
structure SrtS (ss ss' : List (Str × Str)) : Prop where
  pm : (ss'.map (·.1)).Perm (ss.map (·.1))
  so : PyProof.Rows.sortedS (ss'.map (·.1)) = true
  sub : ∀ e ∈ ss', e ∈ ss
def fsL (pe ps : Addr) : List (Str × V) := [("own_events", .ref pe), ("own_snapshots", .ref ps)]
/-- a lift -/
def LiftAt (CL : Addr) (H : Hp) (a : Addr) (es : List Ent) (ss : List (Str × Str)) : Prop := ∃ dx pe ps, H a = some (.ins CL dx (fsL pe ps)) ∧ Rws H pe es ∧ Sts H ps ss
theorem LiftAt.ex {CL a : Addr} {H H' : Hp} {es : List Ent} {ss : List (Str × Str)} (h : LiftAt CL H a es ss) (e : Ex H H') : LiftAt CL H' a es ss := by
  obtain ⟨dx, pe, ps, h1, h2, h3⟩ := h
  exact ⟨dx, pe, ps, e _ _ h1, h2.ex e, h3.ex e⟩
section
variable {P : Program} {w : World} {K : PySem.W.Frag} {mg : Str → Option Value} {base : Heap}
theorem sc_Lift___init : FnScope ["self", "events", "snapshots", "kind", "state"] ["self", "events", "snapshots"] (defScope s_Lift___init) := ⟨rfl, rfl, rfl, by decide +kernel, rfl, by decide +kernel, by decide +kernel⟩
def spInit (CL CN : Addr) : Sp := fun vs H Q E => ∃ (a dx p q : Addr) (es : List Ent) (ss : List (Str × Str)), vs = [.ref a, .ref p, .ref q] ∧ H a = some (.ins CL dx []) ∧ Rws H p es ∧ Sts H q ss ∧ (es.map (·.1)).Nodup ∧ (ss.map (·.1)).Nodup ∧
  (∀ e ∈ es, e.1.cps.size ≤ 1000 ∧ e.2.1.length ≤ 10000000 ∧ ∀ x ∈ e.2.1, x.cps.size ≤ 1000) ∧ (∀ e ∈ ss, e.1.cps.size ≤ 1000 ∧ e.2.cps.size ≤ 1000) ∧ es.length ≤ 60 ∧ ss.length ≤ 60 ∧
  ((evOk es && stOk ss) = true → ∀ (H' : Hp) (pe ps : Addr) (es' : List Ent) (ss' : List (Str × Str)), (∀ b o, b ≠ a → H b = some o → H' b = some o) → H' a = some (.ins CL dx (fsL pe ps)) → Rws H' pe es' → Sts H' ps ss' → SrtE es es' → SrtS ss ss' → Q .non H') ∧
  ((evOk es && stOk ss) = false → ∀ H', Ex H H' → E (.ref CN) none H')
theorem ok_init {f CL CN : Addr} {fd : FuncData} (F : Fun K "__init__" "Lift.__init__" s_Lift___init f fd) (B : Bt mg) (L : LiftC K CL) (R : Raise0 K mg CN "NoLift") (cE : Cal P w K mg base CX0 3 "are_events" ["events"] (spAreEv K)) (cS : Cal P w K mg base CX0 3 "are_snapshots" ["snapshots"] (spAreSt K)) :
    FnOk P w K mg base (L2.CX P w) 4 f fd ["self", "events", "snapshots"] (spInit CL CN) := by
  refine F.okX sc_Lift___init (fun vs H Q E h => ?_) (fun cdv A outer s H vs Q E hr h => ?_)
  · obtain ⟨_, _, _, _, _, _, rfl, _⟩ := h
    rfl
  · obtain ⟨a, dx, p, q, es, ss, rfl, ha, hp, hq, en, sn, eb, sb, el, sl, kQ, kE⟩ := h
    have hu := hu_of hr
    refine ⟨_, (pss_cons (ps_if (PW.pt (pw_or (pt_not (pt_val (pcall cE (hr.mono (by decide)) (pa_cons (pv 1) pa_nil)))) (pw_or1 (pt_not (pt_val (pcall cS (hr.mono (by decide)) (pa_cons (pv 2) pa_nil)))))))
        (pss_one (ps_raise rfl tkX (pr_0 R)))
        pss_nil)
      (pss_cons (ps_fld (pv 0) (pe_dc (own := [("kind", 3)]) (by rfl) sc_Lift___init.nd (pi_list (pe_callB (call_sortedD rfl) (by rfl) B.sorted PyProof.Rows.boot_sorted (pa_cons (pv 1) pa_nil))) (blkOk_by (own := [("kind", 3)]) (N := ["self", "events", "snapshots", "kind", "state"]) (sc := defScope s_Lift___init) (by decide +kernel)) (fun _ _ _ _ _ => (pg_name (i := 3) sc_Lift___init.nd rfl (Or.inl rfl))) (fun _ _ _ _ _ => pts_nil) (fun _ _ _ _ _ => pv 3) (fun _ _ _ _ _ => (pe_dget hu (pv 1) (pv 3) (fun _ _ => rfl)))) rfl)
      (pss_one (ps_fld (pv 0) (pe_dc (own := [("state", 4)]) (by rfl) sc_Lift___init.nd (pi_list (pe_callB (call_sortedD rfl) (by rfl) B.sorted PyProof.Rows.boot_sorted (pa_cons (pv 2) pa_nil))) (blkOk_by (own := [("state", 4)]) (N := ["self", "events", "snapshots", "kind", "state"]) (sc := defScope s_Lift___init) (by decide +kernel)) (fun _ _ _ _ _ => (pg_name (i := 4) sc_Lift___init.nd rfl (Or.inl rfl))) (fun _ _ _ _ _ => pts_nil) (fun _ _ _ _ _ => pv 4) (fun _ _ _ _ _ => (pe_dget hu (pv 2) (pv 4) (fun _ _ => rfl)))) rfl)))), ?_⟩
    refine ⟨_, rfl, p, es, rfl, hp, eb, by omega, fun H1 e1 => ⟨_, rfl, ?_⟩⟩
    cases he : evOk es with
    | false =>
      refine iteT ?_
      exact kE (by rw [he]; rfl) H1 e1
    | true =>
      refine iteF ?_
      refine ⟨_, rfl, q, ss, rfl, hq.ex e1, sb, by omega, fun H2 e2 => ⟨_, rfl, ?_⟩⟩
      cases hs : stOk ss with
      | false =>
        refine iteT ?_
        exact kE (by rw [he, hs]; rfl) H2 (ext e1 e2)
      | true =>
        refine iteF ?_
        have e12 := ext e1 e2
        have ha2 := e12 _ _ ha
        have hp2 := hp.ex e12
        have hq2 := hq.ex e12
        refine ⟨_, rfl, p, _, es.map (·.1), rfl, .of hp2.1, keysR es, by rw [List.length_map]; omega, fun ys t yp yso nt => ⟨t, rfl, ⟨_, SqL.of upd_same⟩, fun D nD => ?_⟩⟩
        have ynd : ys.Nodup := (List.Perm.nodup_iff yp).mpr en
        have e3 : Ex H2 (upd (upd H2 t (.lst (ys.map V.str))) D (.dK [])) := ext (exn nt) (exn nD)
        have tD : t ≠ D := ne_of_none (upd_same (H := H2) (o := .lst (ys.map V.str))) nD
        have nD2 : H2 D = none := exb (exn nt) nD
        refine w_out (walk_list (xs := ys.map V.str)) (fun i H' => ∃ acc : List Ent, Ex H2 H' ∧ H' t = some (.lst (ys.map V.str)) ∧ H' D = some (.dK (acc.map rKV)) ∧ acc.map (·.1) = ys.take i ∧ ∀ e ∈ acc, e ∈ es) ⟨[], e3, by rw [upd_ne tD, upd_same], upd_same, rfl, fun _ h => nomatch h⟩ (fun i H' _ h => ?_) ?_ ?_
        · obtain ⟨_, _, h, _⟩ := h
          exact SqL.of h
        · rintro i x H3 H4 hi ⟨acc, e4, ht, hD, ha4, hs4⟩ ⟨rfl, hx⟩
          rw [List.getElem?_map] at hx
          cases hz : ys[i]? with
          | none => rw [hz] at hx; cases hx
          | some y =>
            rw [hz] at hx
            obtain rfl : V.str y = x := Option.some.inj hx
            obtain ⟨e, hee, rfl⟩ := List.mem_map.mp (yp.mem_iff.mp (List.mem_of_getElem? hz))
            have hp4 := hp2.ex e4
            have ny : e.1 ∉ acc.map (·.1) := by
              rw [ha4]
              intro hm
              obtain ⟨j, hj⟩ := List.mem_iff_getElem?.mp hm
              rw [List.getElem?_take] at hj
              split at hj
              · rename_i hji
                have := (List.getElem?_inj (List.getElem?_eq_some_iff.mp hj).1 ynd).mp (hj.trans hz.symm)
                omega
              · cases hj
            refine ⟨rfl, _, rfl, _, rfl, _, rfl, p, .ref e.2.2, rfl, dg hp4.1 (valR en hee), acc.map rKV, Sum.inr e.1, rfl, hD, ?_, acc ++ [e], exm e4 nD2, by rw [upd_ne tD]; exact ht, ?_, ?_, ?_⟩
            · have hl : acc.length ≤ 60 := by
                have h1 := congrArg List.length ha4
                rw [List.length_map] at h1
                rw [h1]
                have h2 := List.length_take_le' i ys
                have h3 := yp.length_eq
                rw [List.length_map] at h3
                omega
              rw [List.length_map, sizeLine_eq]
              omega
            · rw [upd_same, putK_new _ (valRn ny), List.map_append]
              rfl
            · rw [List.map_append, ha4, List.take_succ, hz]
              rfl
            · intro e' he'
              rcases List.mem_append.mp he' with h | h
              · exact hs4 e' h
              · rw [List.mem_singleton.mp h]
                exact hee
        rintro H3 ⟨es', e4, ht, hD, ha4, hs4⟩
        rw [List.length_map, List.take_length] at ha4
        have ha3 := e4 _ _ ha2
        have Da : D ≠ a := fun z => by rw [z, ha2] at nD2; cases nD2
        have R3 : Rws H3 D es' := ⟨hD, fun e he => (hp2.ex e4).2 e (hs4 e he)⟩
        have SE : SrtE es es' := ⟨by rw [ha4]; exact yp, by rw [ha4]; exact yso, hs4⟩
        have hq3 := hq2.ex e4
        refine ⟨_, rfl, a, CL, dx, [], rfl, ha3, L.cls, L.ev, by decide, ?_⟩
        have qa : q ≠ a := fun z => by
          have hq3' : H3 q = some _ := hq3
          rw [z, ha3] at hq3'
          cases hq3'
        have da : ∀ e ∈ es', e.2.2 ≠ a := fun e he z => by
          have := R3.2 e he
          rw [z, ha3] at this
          cases this
        have K4 : ∀ b o, b ≠ a → H b = some o → upd H3 a (.ins CL dx (putF "own_events" (.ref D) [])) b = some o := fun b o n h => by
          rw [upd_ne n]
          exact e4 _ _ (e12 _ _ h)
        have R4 : Rws (upd H3 a (.ins CL dx (putF "own_events" (.ref D) []))) D es' := ⟨by rw [upd_ne Da]; exact R3.1, fun e he => by rw [upd_ne (da e he)]; exact R3.2 e he⟩
        have hq4 : Sts (upd H3 a (.ins CL dx (putF "own_events" (.ref D) []))) q ss := (upd_ne qa).trans hq3
        have ha4' : upd H3 a (.ins CL dx (putF "own_events" (.ref D) [])) a = some (.ins CL dx [("own_events", .ref D)]) := upd_same
        generalize upd H3 a (.ins CL dx (putF "own_events" (.ref D) [])) = H4 at K4 R4 hq4 ha4' ⊢
        clear ht hD R3 nD tD e3 nt e4 ha4 hs4 nD2 ynd yp yso
        refine ⟨_, rfl, q, _, ss.map (·.1), rfl, .of hq4, keysS ss, by rw [List.length_map]; omega, fun ys t yp yso nt => ⟨t, rfl, ⟨_, SqL.of upd_same⟩, fun D2 nD => ?_⟩⟩
        have ynd : ys.Nodup := (List.Perm.nodup_iff yp).mpr sn
        have e3 : Ex H4 (upd (upd H4 t (.lst (ys.map V.str))) D2 (.dK [])) := ext (exn nt) (exn nD)
        have tD : t ≠ D2 := ne_of_none (upd_same (H := H4) (o := .lst (ys.map V.str))) nD
        have nD2 : H4 D2 = none := exb (exn nt) nD
        refine w_out (walk_list (xs := ys.map V.str)) (fun i H' => ∃ acc : List (Str × Str), Ex H4 H' ∧ H' t = some (.lst (ys.map V.str)) ∧ H' D2 = some (.dK (acc.map sKV)) ∧ acc.map (·.1) = ys.take i ∧ ∀ e ∈ acc, e ∈ ss) ⟨[], e3, by rw [upd_ne tD, upd_same], upd_same, rfl, fun _ h => nomatch h⟩ (fun i H' _ h => ?_) ?_ ?_
        · obtain ⟨_, _, h, _⟩ := h
          exact SqL.of h
        · rintro i x H5 H6 hi ⟨acc, e6, ht, hD, ha6, hs6⟩ ⟨rfl, hx⟩
          rw [List.getElem?_map] at hx
          cases hz : ys[i]? with
          | none => rw [hz] at hx; cases hx
          | some y =>
            rw [hz] at hx
            obtain rfl : V.str y = x := Option.some.inj hx
            obtain ⟨e, hee, rfl⟩ := List.mem_map.mp (yp.mem_iff.mp (List.mem_of_getElem? hz))
            have hq6 := hq4.ex e6
            have ny : e.1 ∉ acc.map (·.1) := by
              rw [ha6]
              intro hm
              obtain ⟨j, hj⟩ := List.mem_iff_getElem?.mp hm
              rw [List.getElem?_take] at hj
              split at hj
              · rename_i hji
                have := (List.getElem?_inj (List.getElem?_eq_some_iff.mp hj).1 ynd).mp (hj.trans hz.symm)
                omega
              · cases hj
            refine ⟨rfl, _, rfl, _, rfl, _, rfl, q, .str e.2, rfl, dg hq6 (valS sn hee), acc.map sKV, Sum.inr e.1, rfl, hD, ?_, acc ++ [e], exm e6 nD2, by rw [upd_ne tD]; exact ht, ?_, ?_, ?_⟩
            · have hl : acc.length ≤ 60 := by
                have h1 := congrArg List.length ha6
                rw [List.length_map] at h1
                rw [h1]
                have h2 := List.length_take_le' i ys
                have h3 := yp.length_eq
                rw [List.length_map] at h3
                omega
              rw [List.length_map, sizeLine_eq]
              omega
            · rw [upd_same, putK_new _ (valSn ny), List.map_append]
              rfl
            · rw [List.map_append, ha6, List.take_succ, hz]
              rfl
            · intro e' he'
              rcases List.mem_append.mp he' with h | h
              · exact hs6 e' h
              · rw [List.mem_singleton.mp h]
                exact hee
        rintro H5 ⟨ss', e6, ht, hD, ha6, hs6⟩
        rw [List.length_map, List.take_length] at ha6
        have ha5 := e6 _ _ ha4'
        have D2a : D2 ≠ a := fun z => by rw [z, ha4'] at nD2; cases nD2
        refine ⟨_, rfl, a, CL, dx, _, rfl, ha5, L.cls, L.st, by simp, ?_⟩
        refine kQ (by rw [he, hs]; rfl) _ D D2 es' ss' (fun b o n h => by rw [upd_ne n]; exact e6 _ _ (K4 b o n h)) (by rw [upd_same]; rfl) ⟨by rw [upd_ne Da]; exact e6 _ _ R4.1, fun e he => by rw [upd_ne (da e he)]; exact e6 _ _ (R4.2 e he)⟩ ((upd_ne D2a).trans hD) SE ⟨by rw [ha6]; exact yp, by rw [ha6]; exact yso, hs6⟩
end
end Sn
namespace Sn
open Evl (Ex)
open PySem L2
section
variable {P : Program} {w : World} {K : PySem.W.Frag} {mg : Str → Option Value} {base : Heap}
/-- a lift, as it is read: its dicts may be known -/
def LiftR (CL : Addr) (H : Hp) (a : Addr) (es : List Ent) (ss : List (Str × Str)) : Prop := ∃ dx pe ps, H a = some (.ins CL dx (fsL pe ps)) ∧ Rd H pe (.dK (es.map rKV)) ∧ (∀ e ∈ es, H e.2.2 = some (.tup (e.2.1.map V.str))) ∧ Rd H ps (.dK (ss.map sKV))
theorem LiftAt.r {CL a : Addr} {H : Hp} {es : List Ent} {ss : List (Str × Str)} (h : LiftAt CL H a es ss) : LiftR CL H a es ss := by
  obtain ⟨dx, pe, ps, h1, h2, h3⟩ := h
  exact ⟨dx, pe, ps, h1, .inl h2.1, h2.2, .inl h3⟩
theorem rd_ex {H H' : Hp} {p : Addr} {u : HO} (h : Rd H p u) (e : Ex H H') : Rd H' p u := by
  rcases h with h | ⟨o, h⟩
  · exact .inl (e _ _ h)
  · exact .inr ⟨o, e _ _ h⟩
theorem LiftR.ex {CL a : Addr} {H H' : Hp} {es : List Ent} {ss : List (Str × Str)} (h : LiftR CL H a es ss) (e : Ex H H') : LiftR CL H' a es ss := by
  obtain ⟨dx, pe, ps, h1, h2, h3, h4⟩ := h
  exact ⟨dx, pe, ps, e _ _ h1, rd_ex h2 e, fun x hx => e _ _ (h3 x hx), rd_ex h4 e⟩
theorem rd_lock {H : Hp} {d p : Addr} {od : Obj} {kvs : List (Key × V)} {ks : List (Key × V)} (h : H p = some (.dK ks)) (hd : H d = some (.dK kvs)) : Rd (upd H d (.frz od (.dK kvs))) p (.dK ks) := by
  by_cases z : p = d
  · subst z
    rw [h] at hd
    cases hd
    exact .inr ⟨od, upd_same⟩
  · exact .inl (by rw [upd_ne z]; exact h)
theorem LiftAt.lock {CL a d : Addr} {H : Hp} {es : List Ent} {ss : List (Str × Str)} {od : Obj} {kvs : List (Key × V)} (h : LiftAt CL H a es ss) (hd : H d = some (.dK kvs)) : LiftR CL (upd H d (.frz od (.dK kvs))) a es ss := by
  obtain ⟨dx, pe, ps, h1, h2, h3⟩ := h
  refine ⟨dx, pe, ps, ?_, rd_lock h2.1 hd, fun e he => ?_, rd_lock h3 hd⟩
  · rw [upd_ne (fun z => by rw [z, hd] at h1; cases h1)]
    exact h1
  · have := h2.2 e he
    rw [upd_ne (fun z => by rw [z, hd] at this; cases this)]
    exact this
theorem dgr {H : Hp} {a : Addr} {kvs : List (Key × V)} {x : Str} {v : V} (h : Rd H a (.dK kvs)) (e : valV kvs (Sum.inr x : Key) = some v) : DGet H a (.str x) (some v) := .inl ⟨kvs, Sum.inr x, h, rfl, e.symm⟩
theorem lkE {pe ps : Addr} : (fsL pe ps).lookup ("own_events" : Str) = some (.ref pe) := rfl
theorem lkS {pe ps : Addr} : (fsL pe ps).lookup ("own_snapshots" : Str) = some (.ref ps) := rfl
/-! ### lifted -/
theorem sc_Lift_lifted : FnScope ["self", "row", "kind", "word"] ["self", "row"] (defScope s_Lift_lifted) := ⟨rfl, rfl, rfl, by decide +kernel, rfl, by decide +kernel, by decide +kernel⟩
def spLifted (K : PySem.W.Frag) (CL : Addr) : Sp := fun vs H Q _ => ∃ (a r : Addr) (row : List Str) (es : List Ent) (ss : List (Str × Str)), vs = [.ref a, .ref r] ∧ LiftR CL H a es ss ∧ SqT K H r (row.map V.str) ∧ (es.map (·.1)).Nodup ∧ (∀ k ∈ row, k ∈ es.map (·.1)) ∧ (∀ e ∈ es, e.2.1.length ≤ 27) ∧ row.length ≤ 10000 ∧
  ∀ (q : Addr) (H' : Hp), H q = none → Ex H H' → H' q = some (.tup ((putL (es.map dat) row).map V.str)) → Q (.ref q) H'
theorem ok_lifted {f CL : Addr} {fd : FuncData} (F : Fun K "lifted" "Lift.lifted" s_Lift_lifted f fd) (B : Bt mg) (L : LiftC K CL) : FnOk P w K mg base CX0 1 f fd ["self", "row"] (spLifted K CL) := by
  refine F.ok sc_Lift_lifted (fun vs H Q E h => ?_) (fun cdv A outer s H vs Q E hr h => ?_)
  · obtain ⟨_, _, _, _, _, rfl, _⟩ := h
    rfl
  · obtain ⟨a, r, row, es, ss, rfl, hL, hr', nd, hk, h27, hl, k⟩ := h
    have hu := hu_of hr
    obtain ⟨dx, pe, ps, ha, hE, hT, hS⟩ := hL
    refine ⟨_, (pss_one (ps_ret (pe_tupleOf (by rfl) B.tuple (pe_lc2 (own := [("kind", 2), ("word", 3)]) (vs1 := [3]) (wi1 := iTup K (tDGet (tFld K (tVar 0) "own_events") (tVar 2))) (by rfl) sc_Lift_lifted.nd (pi_tup (pv 1)) (blkOk_by (own := [("kind", 2), ("word", 3)]) (N := ["self", "row", "kind", "word"]) (sc := defScope s_Lift_lifted) (by decide +kernel)) (by decide) (fun _ _ _ _ _ => (pg_name (i := 2) sc_Lift_lifted.nd rfl (Or.inl rfl))) (fun _ _ _ _ _ => pts_nil)
      (fun _ _ _ _ _ => pi_tup (pe_dget hu (pe_fld (pv 0) (by rfl)) (pv 2) (fun _ _ => rfl))) (fun _ _ _ _ _ => (pg_name (i := 3) sc_Lift_lifted.nd rfl (Or.inl rfl))) (fun _ _ _ _ _ => pts_nil) (fun _ _ _ _ _ => pv 3))))), ?_⟩
    refine ⟨_, rfl, r, rfl, ⟨_, hr'⟩, fun D nD => ?_⟩
    have lb : ∀ i, (putL (es.map dat) (row.take i)).length ≤ 270000 := fun i => by
      have h1 := putL_len (look_len h27) (row.take i)
      have h2 := List.length_take_le' i row
      have h3 : 27 * (row.take i).length ≤ 27 * 10000 := Nat.mul_le_mul_left _ (by omega)
      omega
    refine w_out (walk_tup (xs := row.map V.str)) (fun i H' => Ex H H' ∧ H' D = some (.lst ((putL (es.map dat) (row.take i)).map V.str))) ⟨exn nD, upd_same⟩ (fun i H' _ h => Evl.ex_t h.1 hr') ?_ ?_
    · rintro i x H1 H2 hi ⟨e1, h1⟩ ⟨rfl, hx⟩
      rw [List.getElem?_map] at hx
      cases hz : row[i]? with
      | none => rw [hz] at hx; cases hx
      | some y =>
        rw [hz] at hx
        obtain rfl : V.str y = x := Option.some.inj hx
        obtain ⟨e, he, rfl⟩ := List.mem_map.mp (hk y (List.mem_of_getElem? hz))
        have hE1 := rd_ex hE e1
        have ht := e1 _ _ (hT e he)
        have tk : putL (es.map dat) (row.take (i + 1)) = putL (es.map dat) (row.take i) ++ e.2.1 := by
          rw [List.take_succ, hz]
          simp [putL, look_at nd he]
        refine ⟨rfl, _, rfl, a, CL, dx, fsL pe ps, .ref pe, rfl, e1 _ _ ha, L.cls, L.ev, lkE, _, rfl, pe, .ref e.2.2, rfl, dgr hE1 (valR nd he), e.2.2, rfl, ⟨_, SqT.of ht⟩, ?_⟩
        refine w_out (walk_tup (xs := e.2.1.map V.str)) (fun j H' => Ex H H' ∧ H' D = some (.lst ((putL (es.map dat) (row.take i) ++ e.2.1.take j).map V.str)) ∧ H' e.2.2 = some (.tup (e.2.1.map V.str))) ⟨e1, by simpa using h1, ht⟩ (fun j H' _ h => SqT.of h.2.2) ?_ ?_
        · rintro j z H3 H4 hj ⟨e3, h3, t3⟩ ⟨rfl, hz'⟩
          rw [List.getElem?_map] at hz'
          cases hzz : e.2.1[j]? with
          | none => rw [hzz] at hz'; cases hz'
          | some y2 =>
            rw [hzz] at hz'
            obtain rfl : V.str y2 = z := Option.some.inj hz'
            have tD : e.2.2 ≠ D := fun z => by rw [z, h3] at t3; cases t3
            refine ⟨rfl, _, rfl, _, h3, ?_, exm e3 nD, ?_, by rw [upd_ne tD]; exact t3⟩
            · rw [List.length_map, List.length_append, sizeLine_eq]
              have h2 := List.length_take_le' j e.2.1
              have h4 := lb i
              have h5 := h27 e he
              omega
            · rw [upd_same, List.take_succ, hzz]
              simp
        · rintro H3 ⟨e3, h3, t3⟩
          rw [List.length_map, List.take_length, ← tk] at h3
          exact ⟨e3, h3⟩
    · rintro H1 ⟨e1, h1⟩
      rw [List.length_map, List.take_length] at h1
      exact .inl ⟨D, _, rfl, SqL.of h1, fun q nq => k q _ (exb e1 nq) (ext e1 (exn nq)) upd_same⟩
/-! ### lifted_state -/
theorem sc_Lift_lifted_state : FnScope ["self", "state"] ["self", "state"] (defScope s_Lift_lifted_state) := ⟨rfl, rfl, rfl, by decide +kernel, rfl, by decide +kernel, by decide +kernel⟩
def spLState (CL : Addr) : Sp := fun vs H Q _ => ∃ (a : Addr) (e : Str × Str) (es : List Ent) (ss : List (Str × Str)), vs = [.ref a, .str e.1] ∧ LiftR CL H a es ss ∧ (ss.map (·.1)).Nodup ∧ e ∈ ss ∧ Q (.str e.2) H
theorem ok_lstate {f CL : Addr} {fd : FuncData} (F : Fun K "lifted_state" "Lift.lifted_state" s_Lift_lifted_state f fd) (L : LiftC K CL) : FnOk P w K mg base CX0 1 f fd ["self", "state"] (spLState CL) := by
  refine F.ok sc_Lift_lifted_state (fun vs H Q E h => ?_) (fun cdv A outer s H vs Q E hr h => ?_)
  · obtain ⟨_, _, _, _, rfl, _⟩ := h
    rfl
  · obtain ⟨a, e, es, ss, rfl, hL, nd, he, k⟩ := h
    have hu := hu_of hr
    obtain ⟨dx, pe, ps, ha, hE, hT, hS⟩ := hL
    refine ⟨_, (pss_one (ps_ret (pe_dget hu (pe_fld (pv 0) (by rfl)) (pv 1) (fun _ _ => rfl)))), ?_⟩
    exact ⟨_, rfl, a, CL, dx, fsL pe ps, .ref ps, rfl, ha, L.cls, L.st, lkS, _, rfl, ps, .str e.2, rfl, dgr hS (valS nd he), k⟩
end
end Sn
namespace Sn
open Evl (Ex)
open PySem L2
/-- a method of a class, and its promise -/
structure CalM (P : Program) (w : World) (K : PySem.W.Frag) (mg : Str → Option Value) (base : Heap) (CX : CXT) (k : Nat) (C : Addr) (m : Str) (ps : List Str) (sp : Sp) : Prop where
  ex : ∃ (f : Addr) (fd : FuncData), Meth K C m f ∧ FnOk P w K mg base CX k f fd ps sp ∧ Binds K fd ps []
section
variable {X : Cx}
theorem pmeth {pl : Sem Bool} {k : Nat} {C : Addr} {m : Str} {ps : List Str} {sp : Sp} {o e : Expr} {es : List Expr} {apos pos : Pos} {ta : TE} {t : TA} (c : CalM X.prog X.w X.K X.mg X.base CX0 k C m ps sp) (cl : Cls X.K C) (hr : Room k X.A) (ho : PE X o ta) (ha : PA X (e :: es) t)
    (hst : starEach (e :: es) X.env = (false, eval e X.env) :: starEach es X.env := by rfl) (hpl : (backTo pos (starEach es X.env)).any (·.1) = false := by rfl)
    (ht : eval (.Call (.Attribute o m apos) (e :: es) [] pos) X.env = (do
      let ov ← eval o X.env
      standAt apos.atName
      let (f, first) ← holding [ov] (getMethod ov m pl)
      callWith pos f first (backTo pos (starEach (e :: es) X.env)) (backToKw pos (keywordEach [] X.env))) := by rfl) : PE X (.Call (.Attribute o m apos) (e :: es) [] pos) (tMeth C m sp [] E0 ta t) := by
  obtain ⟨f, fd, hm, F, b⟩ := c.ex
  exact pe_meth (pl := pl) ho cl hm F hr b .nil pass0 ha hst hpl ht
end
section
variable {P : Program} {w : World} {K : PySem.W.Frag} {mg : Str → Option Value} {base : Heap}
theorem sc_Lift___call : FnScope ["self", "row"] ["self", "row"] (defScope s_Lift___call) := ⟨rfl, rfl, rfl, by decide +kernel, rfl, by decide +kernel, by decide +kernel⟩
def spCall (K : PySem.W.Frag) (CL CK : Addr) : Sp := fun vs H Q E => ∃ (a : Addr) (z : V) (es : List Ent) (ss : List (Str × Str)), vs = [.ref a, z] ∧ LiftAt CL H a es ss ∧ (es.map (·.1)).Nodup ∧ (∀ e ∈ es, e.2.1.length ≤ 27) ∧
  ((∃ t, TyX K H z t ∧ PySem.W.kitOne K t (.type "tuple") = some false ∧ ∀ dd H', Ex H H' → H' dd = some (.xd [("at", .int 0)]) → E (.ref CK) (some dd) H') ∨
   (∃ (r : Addr) (xs : List V) (i : Nat) (x : V), z = .ref r ∧ H r = some (.tup xs) ∧ (∀ x ∈ xs, Itm K H x) ∧ xs[i]? = some x ∧ good (es.map (·.1)) x = false ∧ (∀ (j : Nat) (y : V), j < i → xs[j]? = some y → good (es.map (·.1)) y = true) ∧
     ∀ dd H', Ex H H' → H' dd = some (.xd [("at", .int (i : Int))]) → E (.ref CK) (some dd) H') ∨
   (∃ (r : Addr) (row : List Str), z = .ref r ∧ H r = some (.tup (row.map V.str)) ∧ (∀ k ∈ row, k ∈ es.map (·.1)) ∧ row.length ≤ 10000 ∧
     ∀ (q : Addr) (H' : Hp), H q = none → Ex H H' → H' q = some (.tup ((putL (es.map dat) row).map V.str)) → Q (.ref q) H'))
theorem ok_call {f CL CK : Addr} {fd : FuncData} (F : Fun K "__call__" "Lift.__call__" s_Lift___call f fd) (L : LiftC K CL) (cN : Cal P w K mg base (L2.CX P w) 2 "need_row" ["row", "kinds"] (spNeedRow K CK)) (cM : CalM P w K mg base CX0 1 CL "lifted" ["self", "row"] (spLifted K CL)) :
    FnOk P w K mg base (L2.CX P w) 3 f fd ["self", "row"] (spCall K CL CK) := by
  refine F.okX sc_Lift___call (fun vs H Q E h => ?_) (fun cdv A outer s H vs Q E hr h => ?_)
  · obtain ⟨_, _, _, _, rfl, _⟩ := h
    rfl
  · obtain ⟨a, z, es, ss, rfl, hL, nd, h27, h⟩ := h
    refine ⟨_, (pss_cons (ps_expr (pcallX cN tkX (hr.mono (by decide)) (pa_cons (pv 1) (pa_cons (pe_fld (pv 0) (by rfl)) pa_nil))))
      (pss_one (ps_ret (pmeth cM L.cls (hr.mono (by decide)) (pv 0) (pa_cons (pv 1) pa_nil))))), ?_⟩
    obtain ⟨dx, pe, ps, ha, hE, hS⟩ := id hL
    refine ⟨_, rfl, _, rfl, a, CL, dx, fsL pe ps, .ref pe, rfl, ha, L.cls, L.ev, lkE, z, pe, _, es.map (·.1), rfl, hE.1, keysR es, ?_⟩
    rcases h with ⟨t, ht, hk, k⟩ | ⟨r, xs, i, x, rfl, hr', hI, hi, hg, hj, k⟩ | ⟨r, row, rfl, hr', hk, hl, k⟩
    · exact .inl ⟨t, ht, hk, k⟩
    · refine .inr ⟨r, xs, rfl, hr', hI, fun all => ?_, fun i' x' hx' hg' hj' dd H' e h => ?_⟩
      · have := all x (List.mem_of_getElem? hi)
        rw [hg] at this
        cases this
      · have e1 : i' = i := by
          rcases Nat.lt_trichotomy i' i with h1 | h1 | h1
          · have := hj i' x' h1 hx'
            rw [hg'] at this
            cases this
          · exact h1
          · have := hj' i x h1 hi
            rw [hg] at this
            cases this
        subst e1
        exact k dd H' e h
    · have gd : ∀ x ∈ row.map V.str, good (es.map (·.1)) x = true := fun x hx => by
        obtain ⟨y, hy, rfl⟩ := List.mem_map.mp hx
        exact decide_eq_true (hk y hy)
      refine .inr ⟨r, row.map V.str, rfl, hr', fun x hx => ?_, fun _ H1 e1 => ?_, fun i x hx hg _ => ?_⟩
      · obtain ⟨y, hy, rfl⟩ := List.mem_map.mp hx
        exact .inl ⟨y, rfl⟩
      · refine ⟨_, rfl, a, dx, fsL pe ps, rfl, e1 _ _ ha, rfl, _, rfl, a, r, row, es, ss, rfl, (hL.ex e1).r, SqT.of (e1 _ _ hr'), nd, hk, h27, hl, fun q H2 nq e2 h2 => k q H2 (exb e1 nq) (ext e1 e2) h2⟩
      · have := gd x (List.mem_of_getElem? hx)
        rw [hg] at this
        cases this
end
end Sn
/-! == of dicts of texts and of tuples of texts -/
namespace Sn
open Evl (Ex)
open PySem PySem.Spec PyProof.Rows L2
/-- equal values of a dict: flat ones, or tuples of the same texts -/
def Flt2 (K : PySem.W.Frag) (H : Hp) (x y : V) : Prop := (x = y ∧ flatB x = true) ∨ ∃ (a b : Addr) (ws : List Str), x = .ref a ∧ y = .ref b ∧ SqT K H a (ws.map V.str) ∧ SqT K H b (ws.map V.str)
def DDict (K : PySem.W.Frag) : Eqv := fun x y H => ∃ a b ks ls, x = .ref a ∧ y = .ref b ∧ H a = some (.dK ks) ∧ H b = some (.dK ls) ∧ ks.length = ls.length ∧ ∀ p ∈ ks, ∃ u, valV ls p.1 = some u ∧ Flt2 K H p.2 u
section
variable {X : Cx} {pins : List (Addr × Obj)} {σ : L2.St} {H : Hp} {s : Shared}
theorem strs_at {ws : List Str} : ∀ {us vs : List Value}, Vals (ws.map V.str) us → Vals (ws.map V.str) vs → ∀ (A : Around) j (h1 : j < us.length) (h2 : j < vs.length), SeqAt.EqAt A s us[j] vs[j] true := by
  induction ws with
  | nil =>
    intro us vs r1 r2 A j h1 h2
    cases r1
    exact absurd h1 (Nat.not_lt_zero _)
  | cons w r ih =>
    intro us vs r1 r2 A j h1 h2
    cases r1 with
    | cons a1 b1 =>
      cases r2 with
      | cons a2 b2 =>
        cases j with
        | zero => exact eqAt_same a1 a2 rfl
        | succ j => exact ih b1 b2 A j (Nat.lt_of_succ_lt_succ h1) (Nat.lt_of_succ_lt_succ h2)
theorem flt2_run (I : Inv X pins σ H s) {A : Around} (hu : A.units < cLine) (x y : V) (v u : Value) (h : Flt2 X.K H x y) (rx : RelV x v) (ry : RelV y u) : SeqAt.EqP X.prog X.w A s v u true := by
  rcases h with ⟨rfl, f⟩ | ⟨a, b, ws, rfl, rfl, ha, hb⟩
  · exact (eqAt_same rx ry f).eqP
  · cases (show v = Value.ref a from rx)
    cases (show u = Value.ref b from ry)
    by_cases e : a = b
    · subst e
      exact (SeqAt.EqAt.same _).eqP
    · obtain ⟨us, r1, p1, _⟩ := I.tuple ha
      obtain ⟨vs, r2, p2, _⟩ := I.tuple hb
      have q := SeqAt.EqAt.of_refs e (SeqAt.RcAt.tuples (e := fun _ => true) p1 p2 hu fun j h1 h2 => by
        have := strs_at (s := s) r1 r2 A.in1 j (by simpa using h1) (by simpa using h2)
        simpa using this)
      have es : us.toArray.size = vs.toArray.size := by
        have h1 := r1.length
        have h2 := r2.length
        simp only [List.size_toArray]
        omega
      have eb : ((List.range (min us.toArray.size vs.toArray.size)).all (fun _ => true) && us.toArray.size == vs.toArray.size) = true := by
        rw [es]
        simp
      rw [eb] at q
      exact q.eqP
end
section
variable {X : Cx}
theorem mon_dict : Mon (DDict X.K) := fun x y H H' e d => by
  obtain ⟨a, b, ks, ls, h1, h2, h3, h4, h5, h6⟩ := d
  refine ⟨a, b, ks, ls, h1, h2, e _ _ h3, e _ _ h4, h5, fun p hp => ?_⟩
  obtain ⟨u, hu, f⟩ := h6 p hp
  refine ⟨u, hu, ?_⟩
  rcases f with f | ⟨a, b, ws, x1, x2, x3, x4⟩
  · exact .inl f
  · exact .inr ⟨a, b, ws, x1, x2, x3.ext e, x4.ext e⟩
theorem rcG_dict : RcG X 1 (DDict X.K) := fun A pins s σ H x y u v sb I rx ry d => by
  obtain ⟨a, b, ks, ls, rfl, rfl, ha, hb, hl, hp⟩ := d
  have hu := sb.room.units
  exact eqR_run I (A := A) (F := Flt2 X.K H) (by omega) (fun x y v u h r1 r2 => flt2_run I (A := A.in1) (by show A.units + 1 < cLine; omega) x y v u h r1 r2) (.inr ⟨a, b, ks, ls, rfl, rfl, ha, hb, hl, hp⟩) rx ry _ _ ⟨rfl, H, I, L2.Ext.rfl'⟩
theorem eqG_dict : EqG X 1 (DDict X.K) := rcG_dict.eqG fun _ _ _ d => by
  obtain ⟨a, b, _, _, h1, h2, _⟩ := d
  exact ⟨a, b, h1, h2⟩
end
end Sn
namespace Sn
open Evl (Ex)
open PySem L2
/-- the same rows by the same keys -/
structure SmE (es es' : List Ent) : Prop where
  len : es.length = es'.length
  nd : (es'.map (·.1)).Nodup
  at_ : ∀ e ∈ es, ∃ e' ∈ es', e'.1 = e.1 ∧ e'.2.1 = e.2.1
structure SmS (ss ss' : List (Str × Str)) : Prop where
  len : ss.length = ss'.length
  nd : (ss'.map (·.1)).Nodup
  at_ : ∀ e ∈ ss, e ∈ ss'
/-- two lifts that tell the same -/
def SmL (CL : Addr) (a b : Addr) (H : Hp) : Prop := ∃ es ss es' ss', LiftAt CL H a es ss ∧ LiftAt CL H b es' ss' ∧ SmE es es' ∧ SmS ss ss'
theorem smL_mon {CL : Addr} : ∀ a b H H', L2.Ext H H' → SmL CL a b H → SmL CL a b H' := fun a b H H' e h => by
  obtain ⟨es, ss, es', ss', h1, h2, h3, h4⟩ := h
  exact ⟨es, ss, es', ss', h1.ex e, h2.ex e, h3, h4⟩
section
variable {P : Program} {w : World} {K : PySem.W.Frag} {mg : Str → Option Value} {base : Heap}
theorem dd_rows {H : Hp} {p q : Addr} {es es' : List Ent} (hp : Rws H p es) (hq : Rws H q es') (h : SmE es es') : DDict K (.ref p) (.ref q) H := by
  refine ⟨p, q, _, _, rfl, rfl, hp.1, hq.1, by rw [List.length_map, List.length_map]; exact h.len, fun kv hkv => ?_⟩
  obtain ⟨e, he, rfl⟩ := List.mem_map.mp hkv
  obtain ⟨e', he', h1, h2⟩ := h.at_ e he
  refine ⟨.ref e'.2.2, ?_, .inr ⟨e.2.2, e'.2.2, e.2.1, rfl, rfl, SqT.of (hp.2 e he), ?_⟩⟩
  · show valV (es'.map rKV) (Sum.inr e.1 : Key) = _
    rw [← h1]
    exact valR h.nd he'
  · have := hq.2 e' he'
    rw [h2] at this
    exact SqT.of this
theorem dd_sts {H : Hp} {p q : Addr} {ss ss' : List (Str × Str)} (hp : Sts H p ss) (hq : Sts H q ss') (h : SmS ss ss') : DDict K (.ref p) (.ref q) H := by
  refine ⟨p, q, _, _, rfl, rfl, hp, hq, by rw [List.length_map, List.length_map]; exact h.len, fun kv hkv => ?_⟩
  obtain ⟨e, he, rfl⟩ := List.mem_map.mp hkv
  exact ⟨.str e.2, valS h.nd (h.at_ e he), .inl ⟨rfl, rfl⟩⟩
theorem sc_Lift___eq : FnScope ["self", "other"] ["self", "other"] (defScope s_Lift___eq) := ⟨rfl, rfl, rfl, by decide +kernel, rfl, by decide +kernel, by decide +kernel⟩
/-- what isinstance(x, Lift) asks of the class -/
structure LiftI (K : PySem.W.Frag) (mg : Str → Option Value) (CL : Addr) : Prop where
  m : mg "Lift" = some (.ref CL)
  ha : PySem.W.findIn K (.ref CL) "__class__" = some (some (.builtin "object.__class__"))
  hn : PySem.W.specialIn K (.builtin "object.__class__") "__get__" = some (some (.builtin "getset_descriptor.__get__"))
  htk : PySem.W.takesIn K (.builtin "object.__class__") = some true
  hm : PySem.W.mroIn K CL (.type "object") = some true
  is : PySem.W.kitOne K (.ref CL) (.ref CL) = some true
theorem ok_eq {f CL : Addr} {fd : FuncData} (F : Fun K "__eq__" "Lift.__eq__" s_Lift___eq f fd) (B : Bt mg) (L : LiftC K CL) (I : LiftI K mg CL) : FnOk P w K mg base CX0 4 f fd ["self", "other"] (spEq (SmL CL)) := by
  refine F.ok sc_Lift___eq (fun vs H Q E h => ?_) (fun cdv A outer s H vs Q E hr h => ?_)
  · obtain ⟨_, _, rfl, _⟩ := h
    rfl
  · obtain ⟨a, b, rfl, hR, k⟩ := h
    refine ⟨_, (pss_cons (ps_if (pt_not (pt_val (pe_callB call_isi (by rfl) B.isi PyProof.Rows.boot_isinstance (pa_cons (pv 1) (pa_cons (pe_glob (v := .ref CL) rfl I.m rfl) pa_nil)))))
        (pss_one (ps_ret pe_bl))
        pss_nil)
      (pss_one (ps_ret (pe_cmpR (op_eqG (rcG_tup mon_dict eqG_dict) (hr.mono (by decide))) (pe_tup (pa_cons (pe_fld (pv 0) (by rfl)) (pa_cons (pe_fld (pv 0) (by rfl)) pa_nil))) (pe_tup (pa_cons (pe_fld (pv 1) (by rfl)) (pa_cons (pe_fld (pv 1) (by rfl)) pa_nil))) (nomark _))))), ?_⟩
    obtain ⟨es, ss, es', ss', ⟨dx, pe, ps, ha, hE, hS⟩, ⟨dy, qe, qs, hb, hE', hS'⟩, sE, sS⟩ := hR
    refine ⟨_, rfl, _, _, _, _, true, rfl, .own _, .base (.ins hb L.cls I.ha I.hn I.htk I.hm), I.is, _, rfl, ?_⟩
    refine iteF ?_
    refine ⟨_, rfl, a, CL, dx, fsL pe ps, .ref pe, rfl, ha, L.cls, L.ev, lkE, _, rfl, a, CL, dx, fsL pe ps, .ref ps, rfl, ha, L.cls, L.st, lkS, by simp [sizeLine_eq], fun t1 n1 => ?_⟩
    have e1 : Ex H (upd H t1 (.tup [.ref pe, .ref ps])) := exn n1
    refine ⟨_, rfl, b, CL, dy, fsL qe qs, .ref qe, rfl, e1 _ _ hb, L.cls, L.ev, lkE, _, rfl, b, CL, dy, fsL qe qs, .ref qs, rfl, e1 _ _ hb, L.cls, L.st, lkS, by simp [sizeLine_eq], fun t2 n2 => ?_⟩
    have e2 : Ex (upd H t1 (.tup [.ref pe, .ref ps])) (upd (upd H t1 (.tup [.ref pe, .ref ps])) t2 (.tup [.ref qe, .ref qs])) := exn n2
    have e12 := ext e1 e2
    exact ⟨⟨t1, t2, _, _, rfl, rfl, SqT.of (e2 _ _ upd_same), SqT.of upd_same, .cons (dd_rows (hE.ex e12) (hE'.ex e12) sE) (.cons (dd_sts (hS.ex e12) (hS'.ex e12) sS) .nil)⟩, fun H' e => k H' (ext e12 e)⟩
end
end Sn
/-! list(d.values()) -/
namespace Sn
open Evl (Ex)
open PySem PySem.Spec PyProof.Rows L2
def rVals : V → Hp → VK → Prop := fun x H Q => ∃ (d : Addr) (kvs : List (Key × V)), x = .ref d ∧ H d = some (.dK kvs) ∧ ∀ p, H p = none → Q (.ref p) (upd H p (.lst (kvs.map (·.2))))
def tVals (te : TE) : TE := fun σ H Q => te σ H fun x H1 => rVals x H1 Q
section
variable {X : Cx} {e : Expr} {te : TE} {p apos cpos pos : Pos}
theorem pe_listVals (hc : X.calm = true) (he : PE X e te) (hg : Gl X "list") (hm : X.mg "list" = none) (hv : bootBuiltins "list" = some (.type "list")) (hbase : attributeBase e "values" X.env (eval e X.env) = eval e X.env := by rfl) (hline : (apos.endLine == cpos.line) = true := by rfl)
    (hs : starEach [.Call (.Attribute e "values" apos) [] [] cpos] X.env = (false, eval (.Call (.Attribute e "values" apos) [] [] cpos) X.env) :: starEach [] X.env := by rfl) :
    PE X (.Call (.Name "list" p) [.Call (.Attribute e "values" apos) [] [] cpos] [] pos) (tVals te) := by
  refine ⟨fun pins s σ H Q I hq => wpAny_Call_Name_kw (ld_blt I hg hm hv (PyProof.Rows.callWith_type1 ?_ hs rfl))⟩
  rw [hs]
  show wpAny _ _ (spliced ((false, eval (.Call (.Attribute e "values" apos) [] [] cpos) X.env) :: backTo pos (starEach [] X.env))) _ _ s
  refine Calls.spliced_cons (wpAny_Call_method (T := "dict") (id := "dict.values") hbase rfl hline F.plainAttrs_dict F.slot_dict_values F.type_dict_values (thn (he.run pins s σ H _ I hq) fun u s1 hh => ?_))
  obtain ⟨x, H1, I1, rx, d, kvs, ex, hd, q⟩ := hh
  subst ex
  obtain rfl : u = Value.ref d := rx
  obtain ⟨hz, lo, vs, kv, hdo⟩ := (show ObjOk X.prog X.w H1 s1.heap d (.dK kvs) from I1.hok d _ hd)
  obtain ⟨ep, hat⟩ := hdo.dictAt
  have ln : kvs.length = vs.length := Paired.length kv
  have I2 : Inv X pins σ H1 { s1 with heap := s1.heap.push { cls := .type "dict_values", data := .fields #[.ref d] } } := I1.kept (t' := s1.toks) fun b ob q => Heap.get?_push_of_some _ q
  refine ⟨hdo.typeIs, hdo.mapOf.noDict, ?_⟩
  show wpAny _ _ (callWith cpos (.builtin "dict.values") [.ref d] [] []) _ X.xe s1
  refine method_meetsIn F.slot_dict_values F.entry_dict_values rfl (PySem.evalArgs_none ⟨rfl, hdo.typeIs, F.args_dict_values_1 _, _, meets_dict_values (mixKind X.prog X.w) d lo, ⟨vs, hdo⟩, ?_⟩)
  refine Calls.spliced_nil (PySem.W.kdl_call (PySem.W.kdl_values (knd := mixKind X.prog X.w) (kvs := vs) (ep := ep) (r := s1.heap.objs.size) (d := d)) (I1.ok.hd hc) ⟨⟨_, Heap.get?_push_size _ rfl, rfl, rfl⟩, hat.push _⟩ (by rw [← ln]; exact hz) fun h' tk acc c hk hS hacc => ?_)
  refine ⟨.ref _, _, I2.laid hk (Nat.le_refl _) (o := .lst (kvs.map (·.2))) ⟨by rw [List.length_map]; exact hz, acc.toList, c, ?_, by rw [Array.toArray_toList]; exact hS⟩, rfl, q _ (I2.hok.fresh (Nat.le_refl _))⟩
  refine vals_of_at (by have h9 := hacc.1; simp only [List.length_map, Array.length_toList]; omega) fun j x w h1 h2 => ?_
  obtain ⟨k, hky⟩ := hacc.2 j w (by rw [← Array.getElem?_toList]; exact h2)
  rw [List.getElem?_map] at h1
  cases hj : kvs[j]? with
  | none => rw [hj] at h1; cases h1
  | some kx =>
    rw [hj] at h1
    obtain rfl : kx.2 = x := Option.some.inj h1
    obtain ⟨qv, g1, _, g3⟩ := LiI.paired_get kv hj
    rw [hky] at g1
    cases g1
    exact g3
end
end Sn
/-! != by an own ==, >> by an own def -/
namespace Sn
open Evl (Ex)
open PySem PySem.Spec PyProof.Rows PySem.W L2
section
variable {prog : Program} {w : World} {A : Around} {E : Value → Shared → Prop} {s : Shared} {K : PySem.W.Frag} {x C f : Addr} {ox : Obj} {od : Option Obj} {b : Value}
/-- x != b where the class has an own == and no own != -/
theorem ne_own {Q : Value → Shared → Prop} (hu : A.units + 1 < cLine) (X : K.In s.heap) (I : InstAt s.heap x ox C od) (hb : Looks (model prog w) s.heap (typeOf b) (.ref C))
    (hn : findIn K (.ref C) "__ne__" = some (some (.builtin "object.__ne__"))) (hm : mroIn K C (.type "object") = some true) (hs : findIn K (.ref C) "__eq__" = some (some (.ref f))) (hf : isFn K (.ref f) = true)
    (h : wpAny (model prog w) A.in1 (call (.ref f) [.ref x, b]) (fun v s' => ∃ r, v = .bool r ∧ Q (.bool (!r)) s') E s) : wpAny (model prog w) A (richCompare .NotEq (.ref x) b) Q E s := by
  have ask : wpAny (model prog w) A (tryCompare (.ref x) "__ne__" b) (fun r s' => ∃ v, r = some v ∧ Q v s') E s := by
    unfold tryCompare
    simp only [callSpecialIfBound?, bindSpecialIfBound?]
    have bd : Looks (model prog w) s.heap (bindSpecial (.builtin "object.__ne__") (.ref x)) (.builtin "object.__ne__", [.ref x]) := Looks.of_pure (PySem.F.cmp_object.ne.bind (.ref x))
    have run : wpAny (model prog w) A (call (.builtin "object.__ne__") [.ref x, b]) (fun v s' => ∃ r, v = .bool r ∧ Q (.bool r) s') E s := by
      refine wpAny_call (codeAny_call_builtin PySem.F.cmp_object.ne.plain PySem.F.cmpEntry_ne (check_slot PySem.F.cmpKind_ne PySem.F.cmpSplit_ne (I.type.andThen (looks_mroIn X hm)) (PySem.F.cmpArgs_ne _ _) ?_))
      unfold Builtin.«object.__ne__»
      refine wpAny_bind (wpAny_of_eq (a := ((.ref x : Value), [b])) (by first | rfl | kernel_rfl) ?_)
      refine wpAny_bind (wpAny_cRoomFor (show A.in1.units < cLine from hu) ?_)
      refine wpAny_bind (ifBound_K X I hs hf (wpAny_mono h (fun v s' hv => ?_) fun _ _ e => e))
      obtain ⟨r, rfl, hq⟩ := hv
      refine wpAny_bind (wpAny_truthy_bool ?_)
      exact wpAny_pure ⟨_, rfl, hq⟩
    have fin : wpAny (model prog w) A (call (.builtin "object.__ne__") ([.ref x] ++ [b]) >>= fun v => pure (some v)) (fun r s' => ∃ v, r = some (.bool v) ∧ Q (.bool v) s') E s := wpAny_bind (wpAny_mono run (fun v s' hv => by
      obtain ⟨r, rfl, hq⟩ := hv
      exact wpAny_pure ⟨r, rfl, hq⟩) fun _ _ e => e)
    have done : ∀ {r : Option Value} {s' : Shared}, (∃ v, r = some (.bool v) ∧ Q (.bool v) s') → wpAny (model prog w) A (match r with | some .notImplemented | none => pure none | some v => pure (some v)) (fun r s' => ∃ v, r = some v ∧ Q v s') E s' := fun {r s'} hv => by
      obtain ⟨v, rfl, hq⟩ := hv
      exact wpAny_pure ⟨_, rfl, hq⟩
    refine wpAny_bind (wpAny_holding (wpAny_bind (wpAny_bind (wpAny_bind (I.type.here ((looks_findIn X hn).here ?_))))))
    refine wpAny_bind (wpAny_askSetting (wpAny_ite ?_))
    split
    · refine wpAny_bind (bd.here (wpAny_pure (wpAny_mono fin (fun r s' hr => ?_) fun _ _ e => e)))
      obtain ⟨v, rfl, hq⟩ := hr
      exact wpAny_pure ⟨_, rfl, hq⟩
    · refine wpAny_tryCatch (wpAny_bind (bd.here (wpAny_pure (wpAny_mono fin (fun r s' hr => ?_) fun _ _ e => e))))
      obtain ⟨v, rfl, hq⟩ := hr
      exact wpAny_pure ⟨_, rfl, hq⟩
  unfold richCompare
  simp only [oneThing_ref]
  refine wpAny_holding (wpAny_bind (wpAny_cRoomFor (Nat.lt_of_succ_lt hu) ?_))
  rw [cmpInfo_NotEq]
  dsimp only
  refine wpAny_bind (I.type.here (wpAny_bind (hb.here ?_)))
  rw [show (Value.ref C != Value.ref C) = false from by simp]
  simp only [Bool.false_eq_true, if_false]
  refine wpAny_bind (wpAny_pure ?_)
  simp only [Bool.false_eq_true, if_false]
  refine wpAny_bind (wpAny_mono ask (fun r s' hr => ?_) fun _ _ e => e)
  obtain ⟨v, rfl, hq⟩ := hr
  first | exact wpAny_pure hq | exact wpAny_pure (wpAny_pure hq)
end
/-- what a type must be, so that it leaves >> to the own def on the left -/
structure ShT (K : PySem.W.Frag) (C : Addr) (T : String) : Prop where
  f : ∃ fo, findIn K (.type T) "__rshift__" = some fo
  r : ∃ ro, findIn K (.type T) "__rrshift__" = some ro
  sub : subIn K (.type T) (.ref C) = some false
/-- the class's own >> -/
structure ShC (K : PySem.W.Frag) (C f : Addr) : Prop where
  first : selfFirst K C = true
  at_ : findIn K (.ref C) "__rshift__" = some (some (.ref f))
  fn : isFn K (.ref f) = true
  refl : findIn K (.ref C) "__rrshift__" = some none
section
variable {prog : Program} {w : World} {A : Around} {E : Value → Shared → Prop} {s : Shared} {K : PySem.W.Frag} {x C f : Addr} {ox : Obj} {od : Option Obj} {b : Value} {h₀ : Heap} {L : Addr} {m : Str → Option Value}
/-- x >> b, b of a built-in type -/
theorem sh_own {T : String} {Q : Value → Shared → Prop} (X : K.In s.heap) (I : InstAt s.heap x ox C od) (hb : Looks (model prog w) s.heap (typeOf b) (.type T)) (c : ShC K C f) (t : ShT K C T)
    (h : wpAny (model prog w) A (call (.ref f) [.ref x, b]) (PySem.W.CmpBack Q) E s) : wpAny (model prog w) A (binaryOp .RShift (.ref x) b) Q E s := by
  obtain ⟨fo, h1⟩ := t.f
  obtain ⟨ro, h2⟩ := t.r
  obtain ⟨cd, rest, hcd, hm⟩ := ksp_first c.first
  have one := ksp_try X I c.at_ c.fn h
  obtain ⟨hh, g, d, tt, os⟩ := s
  have k1 : Looks (model prog w) hh (typeOf (.ref x)) (.ref C) := I.type
  have k2 : Looks (model prog w) hh (typeOf b) (.type T) := hb
  have k3 : Looks (model prog w) hh (fillsNumberSlot (.ref C) "rshift") true := fills_K X hcd hm c.at_
  have k4 : Looks (model prog w) hh (fillsNumberSlot (.type T) "rshift") ((fo.isSome && !isSeqSlot fo) || (ro.isSome && !isSeqSlot ro)) := ksp_fillsT X h1 h2
  have k5 : Looks (model prog w) hh (isSubtype (.type T) (.ref C)) false := looks_subIn X t.sub
  have k6 : Looks (model prog w) hh (numberSlotInPython (.ref C) "rshift") true := ksp_inPy X c.at_ c.refl (.inl rfl)
  have k7 : Looks (model prog w) hh (numberSlotInPython (.type T) "rshift") false := Looks.of_pure rfl
  have k8 : Looks (model prog w) hh (typeLookup (.type T) (dunderR "rshift")) ro := looks_findIn X h2
  generalize ((fo.isSome && !isSeqSlot fo) || (ro.isSome && !isSeqSlot ro)) = rt at k4
  have ne : (Value.ref C == Value.type T) = false := Bool.eq_false_iff.mpr fun q => by cases beq_iff_eq.mp q
  simp only [binaryOp, show Operator.RShift.info = (">>", "rshift") from rfl]
  refine wpAny_holding (wpAny_bind ?_)
  unfold binaryOp1
  refine wpAny_bind (k1.at (wpAny_bind (k2.at (wpAny_bind (k3.at ?_)))))
  simp only [ne, Bool.false_eq_true, if_false]
  cases rt with
  | false =>
    ksp_lk
    refine wpAny_mono one (fun r s' hr => ?_) fun _ _ e => e
    obtain ⟨v, rfl, hq⟩ := hr
    ksp_lk
    exact hq
  | true =>
    ksp_lk
    refine wpAny_mono one (fun r s' hr => ?_) fun _ _ e => e
    obtain ⟨v, rfl, hq⟩ := hr
    ksp_lk
    exact hq
end
/-- x != y of two instances of C that are equal by the own == -/
structure NeC (K : PySem.W.Frag) (C f : Addr) : Prop where
  ne : findIn K (.ref C) "__ne__" = some (some (.builtin "object.__ne__"))
  ob : mroIn K C (.type "object") = some true
  eq : findIn K (.ref C) "__eq__" = some (some (.ref f))
  fn : isFn K (.ref f) = true
section
variable {X : Cx} {C f : Addr} {k : Nat}
theorem inst_of {pins : List (Addr × Obj)} {σ : L2.St} {H : Hp} {s : Shared} {a dx : Addr} {fs : List (Str × V)} (I : L2.Inv X pins σ H s) (h : H a = some (.ins C dx fs)) : ∃ ox od, InstAt s.heap a ox C od := by
  obtain ⟨mA, J, _⟩ := ins_get I.hok h
  obtain ⟨od, J, _⟩ := J.look
  exact ⟨_, _, J⟩
def rNeO (C : Addr) (R : Addr → Addr → Hp → Prop) : R2 := fun x y H Q => ∃ a b dx dy fs gs, x = .ref a ∧ y = .ref b ∧ H a = some (.ins C dx fs) ∧ H b = some (.ins C dy gs) ∧ R a b H ∧ ∀ H', L2.Ext H H' → Q (.bl false) H'
theorem op_neO {fd : FuncData} {ps : List Str} {R : Addr → Addr → Hp → Prop} (n : NeC X.K C f) (F : FnOk X.prog X.w X.K X.mg X.base CX0 k f fd ps (spEq R)) (hb : L2.Binds X.K fd ps []) (hr : Room (k + 1) X.A) : OpR X (compareOp .NotEq) (rNeO C R) := by
  intro pins s σ H x y v u Q I rx ry h
  obtain ⟨a, b, dx, dy, fs, gs, rfl, rfl, ha, hb', hR, q⟩ := h
  cases rx
  cases ry
  obtain ⟨ox, od, J⟩ := inst_of I ha
  obtain ⟨oy, oe, J'⟩ := inst_of I hb'
  have hu := hr.units
  show wpAny (model X.prog X.w) X.A (richCompare .NotEq (.ref a) (.ref b)) _ _ _
  refine ne_own (by omega) I.kIn J J'.type n.ne n.ob n.eq n.fn ?_
  have hsp : spEq R [.ref a, .ref b] H (fun v H' => v = .bl true ∧ L2.Ext H H') E0 := ⟨a, b, rfl, hR, fun H' e => ⟨rfl, e⟩⟩
  have e0 : Env0 X.prog X.w X.K X.mg X.base X.A.in1 X.stack s H := I.env0.in1
  have hl := F.len _ _ _ _ hsp
  have r2 : Vals [V.ref a, V.ref b] [Value.ref a, Value.ref b] := .cons rfl (.cons rfl .nil)
  refine wpAny_call (codeAny_mono (F.run X.A.in1 X.stack s H ⟨[.ref a, .ref b], []⟩ [.ref a, .ref b] [.ref a, .ref b] _ E0 hr.in1 e0 (by
    have := hb s [.ref a, .ref b] I.kIn (by simpa using hl)
    simpa using this) r2 hsp) fun r s' hq => ?_)
  cases r with
  | error e => exact (show False from hq).elim
  | ok fl =>
    cases fl with
    | ret w =>
      obtain ⟨z, H', I', rz, ez, ex⟩ := I.after hq
      subst ez
      cases rz
      exact ⟨true, rfl, .bl false, H', I', rfl, q H' ex⟩
    | next => exact False.elim hq
    | brk => exact False.elim hq
    | cont => exact False.elim hq
/-- x >> y by the own def -/
def rSh (K : PySem.W.Frag) (C : Addr) (sp : Sp) (E : XK) : R2 := fun x y H Q => ∃ a dx fs, x = .ref a ∧ H a = some (.ins C dx fs) ∧ ((∃ b dy gs, y = .ref b ∧ H b = some (.ins C dy gs)) ∨ ∃ T, TyX K H y (.type T) ∧ ShT K C T) ∧ sp [x, y] H (fun v H' => (∃ r, v = .ref r) ∧ Q v H') E
theorem op_sh {CX : CXT} {fd : FuncData} {ps : List Str} {sp : Sp} {E : XK} (c : ShC X.K C f) (F : FnOk X.prog X.w X.K X.mg X.base CX k f fd ps sp) (hb : L2.Binds X.K fd ps []) (hr : Room k X.A) (hx : Passes CX X E) : OpR X (binaryOp .RShift) (rSh X.K C sp E) := by
  intro pins s σ H x y v u Q I rx ry h
  obtain ⟨a, dx, fs, rfl, ha, hy, q⟩ := h
  cases (show v = Value.ref a from rx)
  obtain ⟨ox, od, J⟩ := inst_of I ha
  have run : wpAny (model X.prog X.w) X.A (call (.ref f) [.ref a, u]) (PySem.W.CmpBack (EP X pins σ Q)) X.xe s := by
    refine wpAny_mono (run_fn (us := [.ref a, u]) (vs := [.ref a, y]) (dvs := []) F hr hb .nil hx I (.cons rfl (.cons ry .nil)) (by simpa using q)) (fun w s' hw => ?_) fun _ _ e => e
    obtain ⟨z, H', I', rz, ⟨r, rfl⟩, qz⟩ := hw
    cases (show w = Value.ref r from rz)
    exact ⟨.ref r, H', I', rfl, qz⟩
  rcases hy with ⟨b, dy, gs, rfl, hb'⟩ | ⟨T, ty, t⟩
  · cases (show u = Value.ref b from ry)
    obtain ⟨oy, oe, J'⟩ := inst_of I hb'
    obtain ⟨m, hF⟩ := I.fr
    exact binop_K hF I.ok.mod.kin J J'.type c.first c.at_ c.fn run
  · obtain ⟨Pk, kx, hp, _⟩ := kit_of I ry ty
    exact sh_own I.kIn J (kx.ty _ _ I.kIn hp) c t run
end
end Sn
namespace Sn
open Evl (Ex)
open PySem L2
/-- the class Lift is called -/
structure MakL (P : Program) (w : World) (K : PySem.W.Frag) (mg : Str → Option Value) (base : Heap) (CL CN : Addr) : Prop where
  ex : ∃ (f : Addr) (fd : FuncData), Mk K CL f ∧ FnOk P w K mg base (L2.CX P w) 4 f fd ["self", "events", "snapshots"] (spInit CL CN) ∧ Binds K fd ["self", "events", "snapshots"] [] ∧ mg "Lift" = some (.ref CL)
section
variable {X : Cx} {CL CN : Addr} {E : XK}
theorem pmkL {e1 e2 : Expr} {p pos : Pos} {t : TA} (M : MakL X.prog X.w X.K X.mg X.base CL CN) (tk : Takes X (fun cls d _ H' => E cls d H')) (hr : Room 5 X.A) (ha : PA X [e1, e2] t) (hg : Gl X "Lift" := by rfl)
    (he : starEach [e1, e2] X.env = (false, eval e1 X.env) :: starEach [e2] X.env := by rfl) (hpl : (backTo pos (starEach [e2] X.env)).any (·.1) = false := by rfl) : PE X (.Call (.Name "Lift" p) [e1, e2] [] pos) (tMake CL (spInit CL CN) [] E t) := by
  obtain ⟨f, fd, m, F, b, mm⟩ := M.ex
  exact pe_make m F hr hg mm b .nil (passes_call tk fun _ _ _ _ h => h) ha (by decide) he hpl
/-- a new lift, or NoLift -/
theorem mkL {H : Hp} {Q : VK} {p q : Addr} {es : List Ent} {ss : List (Str × Str)} (hp : Rws H p es) (hq : Sts H q ss) (en : (es.map (·.1)).Nodup) (sn : (ss.map (·.1)).Nodup)
    (eb : ∀ e ∈ es, e.1.cps.size ≤ 1000 ∧ e.2.1.length ≤ 10000000 ∧ ∀ x ∈ e.2.1, x.cps.size ≤ 1000) (sb : ∀ e ∈ ss, e.1.cps.size ≤ 1000 ∧ e.2.cps.size ≤ 1000) (el : es.length ≤ 60) (sl : ss.length ≤ 60)
    (kQ : (evOk es && stOk ss) = true → ∀ (x : Addr) (H' : Hp) (es' : List Ent) (ss' : List (Str × Str)), H x = none → Ex H H' → LiftAt CL H' x es' ss' → SrtE es es' → SrtS ss ss' → Q (.ref x) H') (kE : (evOk es && stOk ss) = false → ∀ H', Ex H H' → E (.ref CN) none H') :
    ∀ x dx, H x = none → H dx = none → dx ≠ x → spInit CL CN (.ref x :: ([.ref p, .ref q] ++ [])) (upd (upd H dx (.own x)) x (.ins CL dx [])) (fun v H2 => v = .non ∧ Q (.ref x) H2) E := fun x dx n1 n2 n3 => by
  have e1 : Ex H (upd (upd H dx (.own x)) x (.ins CL dx [])) := fun b o h => by
    rw [upd_ne (ne_of_none h n1), upd_ne (ne_of_none h n2)]
    exact h
  refine ⟨x, dx, p, q, es, ss, rfl, upd_same, hp.ex e1, hq.ex e1, en, sn, eb, sb, el, sl, fun ok H' pe ps es' ss' k ha hE hS s1 s2 => ⟨rfl, kQ ok x H' es' ss' n1 (fun b o h => k b o (ne_of_none h n1) (e1 _ _ h)) ⟨dx, pe, ps, ha, hE, hS⟩ s1 s2⟩, fun no H' e => kE no H' (ext e1 e)⟩
end
section
variable {P : Program} {w : World} {K : PySem.W.Frag} {mg : Str → Option Value} {base : Heap}
theorem sc_Lift___rshift : FnScope ["self", "other", "rows", "states", "row", "word", "state", "events", "kind", "goal"] ["self", "other"] (defScope s_Lift___rshift) := ⟨rfl, rfl, rfl, by decide +kernel, rfl, by decide +kernel, by decide +kernel⟩
/-- a row lifted twice -/
def twE (es es2 : List Ent) (e : Ent) : Str × List Str := (e.1, putL (es2.map dat) e.2.1)
def allIn (es es2 : List Ent) : Bool := es.all fun e => e.2.1.all fun x => decide (x ∈ es2.map (·.1))
def allSt (ss ss2 : List (Str × Str)) : Bool := ss.all fun e => decide (e.2 ∈ ss2.map (·.1))
def look2 (ss : List (Str × Str)) (k : Str) : Str := ((ss.find? fun e => decide (e.1 = k)).map (·.2)).getD k
def spShift (K : PySem.W.Frag) (CL CN : Addr) : Sp := fun vs H Q E => ∃ (a : Addr) (z : V) (es : List Ent) (ss : List (Str × Str)), vs = [.ref a, z] ∧ LiftAt CL H a es ss ∧ (es.map (·.1)).Nodup ∧ (ss.map (·.1)).Nodup ∧ evOk es = true ∧ stOk ss = true ∧
  ((∃ t, TyX K H z t ∧ PySem.W.kitOne K t (.ref CL) = some false ∧ ∀ H', Ex H H' → E (.ref CN) none H') ∨
   (∃ (b : Addr) (es2 : List Ent) (ss2 : List (Str × Str)), z = .ref b ∧ LiftAt CL H b es2 ss2 ∧ (es2.map (·.1)).Nodup ∧ (ss2.map (·.1)).Nodup ∧ evOk es2 = true ∧ stOk ss2 = true ∧
     ((allIn es es2 && allSt ss ss2 && es.all fun e => decide ((putL (es2.map dat) e.2.1).length ≤ 27)) = false → ∀ H', Ex H H' → E (.ref CN) none H') ∧
     ((allIn es es2 && allSt ss ss2 && es.all fun e => decide ((putL (es2.map dat) e.2.1).length ≤ 27)) = true → ∀ (x : Addr) (H' : Hp) (es' : List Ent) (ss' : List (Str × Str)), H x = none → Ex H H' → LiftAt CL H' x es' ss' →
       (es'.map (·.1)).Perm (es.map (·.1)) → (ss'.map (·.1)).Perm (ss.map (·.1)) → (∀ e ∈ es', ∃ e0 ∈ es, e0.1 = e.1 ∧ e.2.1 = putL (es2.map dat) e0.2.1) → (∀ e ∈ ss', ∃ e0 ∈ ss, e0.1 = e.1 ∧ (e0.2, e.2) ∈ ss2) → evOk es' = true → stOk ss' = true → Q (.ref x) H')))
theorem evOk_out {es : List Ent} (h : evOk es = true) : 1 ≤ es.length ∧ es.length ≤ 4 ∧ ∀ e ∈ es, Wd e.1 ∧ e.2.1.length ≤ 27 ∧ ∀ x ∈ e.2.1, Wd x := by
  unfold evOk at h
  rw [Bool.and_eq_true, Bool.and_eq_true, Bool.and_eq_true, List.all_eq_true, List.all_eq_true] at h
  obtain ⟨⟨⟨h1, h2⟩, h3⟩, h4⟩ := h
  refine ⟨of_decide_eq_true h1, of_decide_eq_true h2, fun e he => ⟨wd_of (h3 _ (List.mem_map_of_mem he)), ?_⟩⟩
  have := h4 e he
  unfold rowOk at this
  rw [Bool.and_eq_true, List.all_eq_true] at this
  exact ⟨of_decide_eq_true this.1, fun x hx => wd_of (this.2 x hx)⟩
theorem evOk_in {es : List Ent} (h1 : 1 ≤ es.length) (h2 : es.length ≤ 4) (h3 : ∀ e ∈ es, Wd e.1 ∧ e.2.1.length ≤ 27 ∧ ∀ x ∈ e.2.1, Wd x) : evOk es = true := by
  unfold evOk
  rw [decide_eq_true h1, decide_eq_true h2, Bool.true_and, Bool.true_and, Bool.and_eq_true, List.all_eq_true, List.all_eq_true]
  refine ⟨fun x hx => ?_, fun e he => ?_⟩
  · obtain ⟨e, he, rfl⟩ := List.mem_map.mp hx
    exact isWd_of (h3 e he).1
  · unfold rowOk
    rw [decide_eq_true (h3 e he).2.1, Bool.true_and, List.all_eq_true]
    exact fun x hx => isWd_of ((h3 e he).2.2 x hx)
theorem stOk_out {ss : List (Str × Str)} (h : stOk ss = true) : 1 ≤ ss.length ∧ ss.length ≤ 5 ∧ ∀ e ∈ ss, Wd e.1 ∧ Wd e.2 := by
  unfold stOk at h
  rw [Bool.and_eq_true, Bool.and_eq_true, Bool.and_eq_true, List.all_eq_true, List.all_eq_true] at h
  obtain ⟨⟨⟨h1, h2⟩, h3⟩, h4⟩ := h
  exact ⟨of_decide_eq_true h1, of_decide_eq_true h2, fun e he => ⟨wd_of (h3 _ (List.mem_map_of_mem he)), wd_of (h4 e he)⟩⟩
theorem stOk_in {ss : List (Str × Str)} (h1 : 1 ≤ ss.length) (h2 : ss.length ≤ 5) (h3 : ∀ e ∈ ss, Wd e.1 ∧ Wd e.2) : stOk ss = true := by
  unfold stOk
  rw [decide_eq_true h1, decide_eq_true h2, Bool.true_and, Bool.true_and, Bool.and_eq_true, List.all_eq_true, List.all_eq_true]
  refine ⟨fun x hx => ?_, fun e he => isWd_of (h3 e he).2⟩
  obtain ⟨e, he, rfl⟩ := List.mem_map.mp hx
  exact isWd_of (h3 e he).1
theorem SrtE.ok {es es' : List Ent} (h : SrtE es es') (k : evOk es = true) : evOk es' = true := by
  obtain ⟨h1, h2, h3⟩ := evOk_out k
  have hl := h.pm.length_eq
  rw [List.length_map, List.length_map] at hl
  exact evOk_in (by omega) (by omega) fun e he => h3 e (h.sub e he)
theorem SrtS.ok {ss ss' : List (Str × Str)} (h : SrtS ss ss') (k : stOk ss = true) : stOk ss' = true := by
  obtain ⟨h1, h2, h3⟩ := stOk_out k
  have hl := h.pm.length_eq
  rw [List.length_map, List.length_map] at hl
  exact stOk_in (by omega) (by omega) fun e he => h3 e (h.sub e he)
/-- the words of a row that is put together -/
theorem putL_mem {es : List Ent} {row : List Str} {x : Str} (h : x ∈ putL (es.map dat) row) : ∃ e ∈ es, x ∈ e.2.1 := by
  unfold putL at h
  obtain ⟨k, _, hx⟩ := List.mem_flatMap.mp h
  unfold look at hx
  cases e : (es.map dat).find? fun e => decide (e.1 = k) with
  | none => rw [e] at hx; cases hx
  | some y =>
    rw [e] at hx
    obtain ⟨z, hz, rfl⟩ := List.mem_map.mp (List.mem_of_find?_eq_some e)
    exact ⟨z, hz, hx⟩
theorem look2_at {ss : List (Str × Str)} {e : Str × Str} (hn : (ss.map (·.1)).Nodup) (h : e ∈ ss) : look2 ss e.1 = e.2 := by
  induction ss with
  | nil => cases h
  | cons p r ih =>
    rw [List.map_cons, List.nodup_cons] at hn
    unfold look2
    rcases List.mem_cons.mp h with z | h
    · subst z
      simp
    · have ne : ¬ p.1 = e.1 := fun z => hn.1 (by rw [z]; exact List.mem_map_of_mem (f := Prod.fst) h)
      have := ih hn.2 h
      unfold look2 at this
      rw [List.find?_cons, decide_eq_false ne]
      exact this
theorem dat_key {es : List Ent} : (es.map dat).map (·.1) = es.map (·.1) := by simp [dat, Function.comp_def]
theorem evOk_tw {es es2 acc : List Ent} (h : acc.map dat = es.map fun e => (e.1, putL (es2.map dat) e.2.1)) (k : evOk es = true) (k2 : evOk es2 = true) : evOk acc = es.all fun e => decide ((putL (es2.map dat) e.2.1).length ≤ 27) := by
  obtain ⟨h1, h2, h3⟩ := evOk_out k
  obtain ⟨_, _, h4⟩ := evOk_out k2
  have hl : acc.length = es.length := by simpa using congrArg List.length h
  have hm : ∀ e ∈ acc, ∃ e0 ∈ es, e0.1 = e.1 ∧ e.2.1 = putL (es2.map dat) e0.2.1 := fun e he => by
    have : dat e ∈ acc.map dat := List.mem_map_of_mem he
    rw [h] at this
    obtain ⟨e0, h0, z⟩ := List.mem_map.mp this
    exact ⟨e0, h0, (Prod.mk.inj z).1, (Prod.mk.inj z).2.symm⟩
  have hw : ∀ e ∈ acc, Wd e.1 ∧ ∀ x ∈ e.2.1, Wd x := fun e he => by
    obtain ⟨e0, h0, z1, z2⟩ := hm e he
    refine ⟨by rw [← z1]; exact (h3 e0 h0).1, fun x hx => ?_⟩
    rw [z2] at hx
    obtain ⟨y, hy, hx⟩ := putL_mem hx
    exact (h4 y hy).2.2 x hx
  cases hb : es.all fun e => decide ((putL (es2.map dat) e.2.1).length ≤ 27) with
  | true =>
    rw [List.all_eq_true] at hb
    refine evOk_in (by omega) (by omega) fun e he => ⟨(hw e he).1, ?_, (hw e he).2⟩
    obtain ⟨e0, h0, _, z2⟩ := hm e he
    rw [z2]
    exact of_decide_eq_true (hb e0 h0)
  | false =>
    cases hx : evOk acc with
    | false => rfl
    | true =>
      obtain ⟨_, _, h5⟩ := evOk_out hx
      have : (es.all fun e => decide ((putL (es2.map dat) e.2.1).length ≤ 27)) = true := by
        rw [List.all_eq_true]
        intro e he
        have hd : (e.1, putL (es2.map dat) e.2.1) ∈ acc.map dat := by
          rw [h]
          exact List.mem_map_of_mem (f := fun e : Ent => (e.1, putL (es2.map dat) e.2.1)) he
        obtain ⟨y, hy, z⟩ := List.mem_map.mp hd
        have : e.1 = y.1 ∧ putL (es2.map dat) e.2.1 = y.2.1 := ⟨(congrArg Prod.fst z).symm, (congrArg Prod.snd z).symm⟩
        rw [this.2]
        exact decide_eq_true (h5 y hy).2.1
      rw [this] at hb
      cases hb
theorem ok_shift {f CL CN : Addr} {fd : FuncData} (F : Fun K "__rshift__" "Lift.__rshift__" s_Lift___rshift f fd) (B : Bt mg) (L : LiftC K CL) (I : LiftI K mg CL) (R : Raise0 K mg CN "NoLift") (M : MakL P w K mg base CL CN)
    (cM : CalM P w K mg base CX0 1 CL "lifted" ["self", "row"] (spLifted K CL)) (cS : CalM P w K mg base CX0 1 CL "lifted_state" ["self", "state"] (spLState CL)) : FnOk P w K mg base (L2.CX P w) 6 f fd ["self", "other"] (spShift K CL CN) := by
  refine F.okX sc_Lift___rshift (fun vs H Q E h => ?_) (fun cdv A outer s H vs Q E hr h => ?_)
  · obtain ⟨_, _, _, _, rfl, _⟩ := h
    rfl
  · obtain ⟨a, z, es, ss, rfl, hL, en, sn, eok, sok, h⟩ := h
    have hu := hu_of hr
    refine ⟨_, (pss_cons (ps_if (pt_not (pt_val (pe_callB call_isi (by rfl) B.isi PyProof.Rows.boot_isinstance (pa_cons (pv 1) (pa_cons (pe_glob (v := .ref CL) rfl I.m rfl) pa_nil)))))
        (pss_one (ps_raise rfl tkX (pr_0 R)))
        pss_nil)
      (pss_cons (ps_par (i := 2) (j := 3) (by rfl) sc_Lift___rshift.nd rfl rfl (by decide) rfl rfl (pa_cons (pe_listVals (by rfl) (pe_fld (pv 0) (by rfl)) (by rfl) B.list PyProof.Rows.boot_list) (pa_cons (pe_listVals (by rfl) (pe_fld (pv 0) (by rfl)) (by rfl) B.list PyProof.Rows.boot_list) pa_nil)) (by rfl))
      (pss_cons (ps_if (pt_not (pt_val (pe_callB (cr_all rfl) (by rfl) B.all PyProof.Rows.boot_all (pa_cons (pe_lc2 (own := [("row", 4), ("word", 5)]) (vs1 := [5]) (wi1 := iTup K (tVar 4)) (te := tDIn (tVar 5) (tFld K (tVar 1) "own_events")) (by rfl) sc_Lift___rshift.nd (pi_list (pv 2)) (blkOk_by (own := [("row", 4), ("word", 5)]) (N := ["self", "other", "rows", "states", "row", "word", "state", "events", "kind", "goal"]) (sc := defScope s_Lift___rshift) (by decide +kernel)) (by decide) (fun _ _ _ _ _ => (pg_name (i := 4) sc_Lift___rshift.nd rfl (Or.inl rfl))) (fun _ _ _ _ _ => pts_nil) (fun _ _ _ _ _ => pi_tup (pv 4)) (fun _ _ _ _ _ => (pg_name (i := 5) sc_Lift___rshift.nd rfl (Or.inl rfl))) (fun _ _ _ _ _ => pts_nil) (fun _ _ _ _ _ => pe_cmp (pc_din hu (pv 5) (pe_fld (pv 1) (by rfl))))) pa_nil))))
        (pss_one (ps_raise rfl tkX (pr_0 R)))
        pss_nil)
      (pss_cons (ps_if (pt_not (pt_val (pe_callB (cr_all rfl) (by rfl) B.all PyProof.Rows.boot_all (pa_cons (pe_lc (own := [("state", 6)]) (te := tDIn (tVar 6) (tFld K (tVar 1) "own_snapshots")) (by rfl) sc_Lift___rshift.nd (pi_list (pv 3)) (blkOk_by (own := [("state", 6)]) (N := ["self", "other", "rows", "states", "row", "word", "state", "events", "kind", "goal"]) (sc := defScope s_Lift___rshift) (by decide +kernel)) (fun _ _ _ _ _ => (pg_name (i := 6) sc_Lift___rshift.nd rfl (Or.inl rfl))) (fun _ _ _ _ _ => pts_nil) (fun _ _ _ _ _ => pe_cmp (pc_din hu (pv 6) (pe_fld (pv 1) (by rfl))))) pa_nil))))
        (pss_one (ps_raise rfl tkX (pr_0 R)))
        pss_nil)
      (pss_cons (ps_lock (ps_setDc (i := 7) (own := [("kind", 8), ("row", 4)]) (g := gTup K 2 (gCons (gName 8) (gCons (gName 4) gNil))) (tv := tMeth CL "lifted" (spLifted K CL) [] E0 (tVar 1) (tCons (tVar 4) tNil)) (by rfl) sc_Lift___rshift.nd rfl rfl (swD rfl rfl rfl (by decide +kernel)) (pi_items (pe_fld (pv 0) (by rfl))) (blkOk_by (own := [("kind", 8), ("row", 4)]) (N := ["self", "other", "rows", "states", "row", "word", "state", "events", "kind", "goal"]) (sc := defScope s_Lift___rshift) (by decide +kernel)) (fun _ _ _ _ _ => pg_tup rfl (pgs_cons (pg_name (i := 8) sc_Lift___rshift.nd rfl (Or.inl rfl)) (pgs_cons (pg_name (i := 4) sc_Lift___rshift.nd rfl (Or.inl rfl)) pgs_nil))) (fun _ _ _ _ _ => pts_nil) (fun _ _ _ _ _ => pv 8) (fun _ _ _ _ _ => pmeth cM L.cls (hr.mono (by decide)) (pv 1) (pa_cons (pv 4) pa_nil))))
      (pss_one (ps_ret (pmkL M tkX (hr.mono (by decide)) (pa_cons (pv 7) (pa_cons (pe_lock (pe_dc (own := [("state", 6), ("goal", 9)]) (g := gTup K 2 (gCons (gName 6) (gCons (gName 9) gNil))) (tv := tMeth CL "lifted_state" (spLState CL) [] E0 (tVar 1) (tCons (tVar 9) tNil)) (by rfl) sc_Lift___rshift.nd (pi_items (pe_fld (pv 0) (by rfl))) (blkOk_by (own := [("state", 6), ("goal", 9)]) (N := ["self", "other", "rows", "states", "row", "word", "state", "events", "kind", "goal"]) (sc := defScope s_Lift___rshift) (by decide +kernel)) (fun _ _ _ _ _ => pg_tup rfl (pgs_cons (pg_name (i := 6) sc_Lift___rshift.nd rfl (Or.inl rfl)) (pgs_cons (pg_name (i := 9) sc_Lift___rshift.nd rfl (Or.inl rfl)) pgs_nil))) (fun _ _ _ _ _ => pts_nil) (fun _ _ _ _ _ => pv 6) (fun _ _ _ _ _ => pmeth cS L.cls (hr.mono (by decide)) (pv 1) (pa_cons (pv 9) pa_nil)))) pa_nil)))))))))), ?_⟩
    have kE0 : ∀ {H' : Hp}, Ex H H' → (∀ H', Ex H H' → E (.ref CN) none H') → E (.ref CN) none H' := fun e k => k _ e
    rcases h with ⟨t, ht, hk, k⟩ | ⟨b, es2, ss2, rfl, hL2, en2, sn2, eok2, sok2, kE, kQ⟩
    · refine ⟨_, rfl, _, _, _, _, false, rfl, .own _, ht, hk, _, rfl, ?_⟩
      refine iteT ?_
      exact k H exr
    obtain ⟨dx, pe, ps, ha, hE, hS⟩ := id hL
    obtain ⟨dy, pe2, ps2, hb, hE2, hS2⟩ := id hL2
    refine ⟨_, rfl, _, _, _, _, true, rfl, .own _, .base (.ins hb L.cls I.ha I.hn I.htk I.hm), I.is, _, rfl, ?_⟩
    refine iteF ?_
    obtain ⟨l1, l2, l3⟩ := evOk_out eok
    obtain ⟨m1, m2, m3⟩ := stOk_out sok
    refine ⟨_, rfl, a, CL, dx, fsL pe ps, .ref pe, rfl, ha, L.cls, L.ev, lkE, pe, _, rfl, hE.1, fun p1 n1 => ?_⟩
    have x1 : Ex H (upd H p1 (.lst ((es.map rKV).map (·.2)))) := exn n1
    refine ⟨_, rfl, a, CL, dx, fsL pe ps, .ref ps, rfl, x1 _ _ ha, L.cls, L.st, lkS, ps, _, rfl, x1 _ _ hS, fun p2 n2 => ?_⟩
    have x2 : Ex H (upd (upd H p1 (.lst ((es.map rKV).map (·.2)))) p2 (.lst ((ss.map sKV).map (·.2)))) := ext x1 (exn n2)
    have hp1 : upd (upd H p1 (.lst ((es.map rKV).map (·.2)))) p2 (.lst ((ss.map sKV).map (·.2))) p1 = some (.lst (es.map fun e => V.ref e.2.2)) := by
      have := (exn (o := .lst ((ss.map sKV).map (·.2))) n2) _ _ (upd_same (H := H) (a := p1) (o := .lst ((es.map rKV).map (·.2))))
      rw [this, List.map_map]
      rfl
    have hp2 : upd (upd H p1 (.lst ((es.map rKV).map (·.2)))) p2 (.lst ((ss.map sKV).map (·.2))) p2 = some (.lst (ss.map fun e => V.str e.2)) := by
      rw [upd_same, List.map_map]
      rfl
    refine ⟨_, _, rfl, ?_⟩
    generalize upd (upd H p1 (.lst ((es.map rKV).map (·.2)))) p2 (.lst ((ss.map sKV).map (·.2))) = H2 at x2 hp1 hp2 ⊢
    clear x1 n1 n2
    -- all words known
    refine ⟨_, rfl, p1, rfl, ⟨_, SqL.of hp1⟩, fun D nD => ?_⟩
    have rl : ∀ n, ((es.take n).flatMap fun e => e.2.1.map fun x => decide (x ∈ es2.map (·.1))).length ≤ 27 * 4 := fun n => by
      have h1 : ∀ l : List Ent, (∀ e ∈ l, e.2.1.length ≤ 27) → (l.flatMap fun e => e.2.1.map fun x => decide (x ∈ es2.map (·.1))).length ≤ 27 * l.length := fun l => by
        induction l with
        | nil => intro _; simp
        | cons e r ih =>
          intro h
          have h2 := ih fun e he => h e (List.mem_cons_of_mem _ he)
          have h3 := h e List.mem_cons_self
          rw [List.flatMap_cons, List.length_append, List.length_map, List.length_cons]
          omega
      have h2 := h1 (es.take n) fun e he => (l3 e (List.mem_of_mem_take he)).2.1
      have h3 := List.length_take_le' n es
      omega
    refine w_out (walk_list (xs := es.map fun e => V.ref e.2.2)) (fun i H' => Ex H2 H' ∧ H' D = some (.lst (((es.take i).flatMap fun e => e.2.1.map fun x => decide (x ∈ es2.map (·.1))).map V.bl))) ⟨exn nD, upd_same⟩ (fun i H' _ h => SqL.of (h.1 _ _ hp1)) ?_ ?_
    · rintro i x H3 H4 hi ⟨e3, h3⟩ ⟨rfl, hx⟩
      rw [List.getElem?_map] at hx
      cases hz : es[i]? with
      | none => rw [hz] at hx; cases hx
      | some e =>
        rw [hz] at hx
        obtain rfl : V.ref e.2.2 = x := Option.some.inj hx
        have hee := List.mem_of_getElem? hz
        have ht : H4 e.2.2 = some (.tup (e.2.1.map V.str)) := e3 _ _ (x2 _ _ (hE.2 e hee))
        refine ⟨rfl, _, rfl, e.2.2, rfl, ⟨_, SqT.of ht⟩, ?_⟩
        refine w_out (walk_tup (xs := e.2.1.map V.str)) (fun j H' => Ex H2 H' ∧ H' D = some (.lst ((((es.take i).flatMap fun e => e.2.1.map fun x => decide (x ∈ es2.map (·.1))) ++ (e.2.1.take j).map fun x => decide (x ∈ es2.map (·.1))).map V.bl))) ⟨e3, by simpa using h3⟩ (fun j H' _ h => SqT.of (h.1 _ _ (x2 _ _ (hE.2 e hee)))) ?_ ?_
        · rintro j y H5 H6 hj ⟨e5, h5⟩ ⟨rfl, hy⟩
          rw [List.getElem?_map] at hy
          cases hw : e.2.1[j]? with
          | none => rw [hw] at hy; cases hy
          | some wd =>
            rw [hw] at hy
            obtain rfl : V.str wd = y := Option.some.inj hy
            have hE5 := hE2.ex (ext x2 e5)
            refine ⟨rfl, _, rfl, _, rfl, b, CL, dy, fsL pe2 ps2, .ref pe2, rfl, e5 _ _ (x2 _ _ hb), L.cls, L.ev, lkE, pe2, _, rfl, DGet.k (k := (Sum.inr wd : Key)) hE5.1, _, h5, ?_, exm e5 nD, ?_⟩
            · rw [List.length_map, List.length_append, List.length_map, sizeLine_eq]
              have := rl i
              have := List.length_take_le' j e.2.1
              have := (l3 e hee).2.1
              omega
            · have hv : (valV (es2.map rKV) (Sum.inr wd : Key)).isSome = decide (wd ∈ es2.map (·.1)) := by
                by_cases hm : wd ∈ es2.map (·.1)
                · obtain ⟨q, hq, rfl⟩ := List.mem_map.mp hm
                  rw [valR en2 hq, decide_eq_true hm]
                  rfl
                · rw [valRn hm, decide_eq_false hm]
                  rfl
              rw [upd_same, hv, List.take_succ, hw]
              simp
        · rintro H5 ⟨e5, h5⟩
          refine ⟨e5, ?_⟩
          rw [List.length_map, List.take_length] at h5
          rw [h5, List.take_succ, hz]
          simp
    rintro H3 ⟨e3, h3⟩
    rw [List.length_map, List.take_length] at h3
    refine ⟨D, _, rfl, SqL.of h3, _, rfl, ?_⟩
    have ei : (es.flatMap fun e => e.2.1.map fun x => decide (x ∈ es2.map (·.1))).all id = allIn es es2 := by
      unfold allIn
      rw [List.all_flatMap]
      congr 1
      funext e
      rw [List.all_map]
      rfl
    rw [ei]
    cases hai : allIn es es2 with
    | false =>
      refine iteT ?_
      exact kE (by rw [hai]; rfl) H3 (ext x2 e3)
    | true =>
    refine iteF ?_
    have x3 := ext x2 e3
    have hp23 := e3 _ _ hp2
    clear h3 nD rl
    -- all states known
    refine ⟨_, rfl, p2, rfl, ⟨_, SqL.of hp23⟩, fun D2 nD => ?_⟩
    refine w_out (walk_list (xs := ss.map fun e => V.str e.2)) (fun i H' => Ex H3 H' ∧ H' D2 = some (.lst (((ss.take i).map fun e => decide (e.2 ∈ ss2.map (·.1))).map V.bl))) ⟨exn nD, upd_same⟩ (fun i H' _ h => SqL.of (h.1 _ _ hp23)) ?_ ?_
    · rintro i x H4 H5 hi ⟨e4, h4⟩ ⟨rfl, hx⟩
      rw [List.getElem?_map] at hx
      cases hz : ss[i]? with
      | none => rw [hz] at hx; cases hx
      | some e =>
        rw [hz] at hx
        obtain rfl : V.str e.2 = x := Option.some.inj hx
        have hS5 := hS2.ex (ext x3 e4)
        refine ⟨rfl, _, rfl, _, rfl, b, CL, dy, fsL pe2 ps2, .ref ps2, rfl, e4 _ _ (x3 _ _ hb), L.cls, L.st, lkS, ps2, _, rfl, DGet.k (k := (Sum.inr e.2 : Key)) hS5, _, h4, ?_, exm e4 nD, ?_⟩
        · rw [List.length_map, List.length_map, sizeLine_eq]
          have := List.length_take_le' i ss
          omega
        · have hv : (valV (ss2.map sKV) (Sum.inr e.2 : Key)).isSome = decide (e.2 ∈ ss2.map (·.1)) := by
            by_cases hm : e.2 ∈ ss2.map (·.1)
            · obtain ⟨q, hq, hqe⟩ := List.mem_map.mp hm
              rw [← hqe, valS sn2 hq, hqe, decide_eq_true hm]
              rfl
            · rw [valSn hm, decide_eq_false hm]
              rfl
          rw [upd_same, hv, List.take_succ, hz]
          simp
    rintro H4 ⟨e4, h4⟩
    rw [List.length_map, List.take_length] at h4
    refine ⟨D2, _, rfl, SqL.of h4, _, rfl, ?_⟩
    have ei2 : (ss.map fun e => decide (e.2 ∈ ss2.map (·.1))).all id = allSt ss ss2 := by
      unfold allSt
      rw [List.all_map]
      rfl
    rw [ei2]
    cases has : allSt ss ss2 with
    | false =>
      refine iteT ?_
      exact kE (by rw [hai, has]; rfl) H4 (ext x3 e4)
    | true =>
    refine iteF ?_
    have x4 := ext x3 e4
    clear h4 nD
    have hE4 := hE.ex x4
    have hS4 := hS.ex x4
    have ha4 := x4 _ _ ha
    have hb4 := x4 _ _ hb
    have hL24 := hL2.ex x4
    have hin : ∀ e ∈ es, ∀ x ∈ e.2.1, x ∈ es2.map (·.1) := fun e he x hx => by
      unfold allIn at hai
      rw [List.all_eq_true] at hai
      have := hai e he
      rw [List.all_eq_true] at this
      exact of_decide_eq_true (this x hx)
    have hst : ∀ e ∈ ss, e.2 ∈ ss2.map (·.1) := fun e he => by
      unfold allSt at has
      rw [List.all_eq_true] at has
      exact of_decide_eq_true (has e he)
    obtain ⟨_, _, l4⟩ := evOk_out eok2
    obtain ⟨_, _, m4⟩ := stOk_out sok2
    have h27 : ∀ e ∈ es2, e.2.1.length ≤ 27 := fun e he => (l4 e he).2.1
    -- the rows of both
    refine ⟨pe, _, hE4.1, trivial, fun od => ⟨_, rfl, a, CL, dx, fsL pe ps, .ref pe, rfl, ?_, L.cls, L.ev, lkE, pe, od, es.map rKV, rfl, upd_same, fun D nD => ?_⟩⟩
    · rw [upd_ne (fun z => by rw [z, hE4.1] at ha4; cases ha4)]
      exact ha4
    have nDp : D ≠ pe := fun z => by rw [z, upd_same] at nD; cases nD
    have LR : LiftR CL (upd H4 pe (.frz od (.dK (es.map rKV)))) b es2 ss2 := hL24.lock hE4.1
    have bE : upd H4 pe (.frz od (.dK (es.map rKV))) b = some (.ins CL dy (fsL pe2 ps2)) := by
      rw [upd_ne (fun z => by rw [z, hE4.1] at hb4; cases hb4)]
      exact hb4
    have tE : ∀ e ∈ es, upd H4 pe (.frz od (.dK (es.map rKV))) e.2.2 = some (.tup (e.2.1.map V.str)) := fun e he => by
      have := hE4.2 e he
      rw [upd_ne (fun z => by rw [z, hE4.1] at this; cases this)]
      exact this
    refine w_out walk_items (fun i H' => ∃ acc : List Ent, Ex (upd H4 pe (.frz od (.dK (es.map rKV)))) H' ∧ Rws H' D acc ∧ acc.map dat = (es.take i).map fun e => (e.1, putL (es2.map dat) e.2.1)) ⟨[], exn nD, ⟨upd_same, fun _ h => nomatch h⟩, rfl⟩ (fun i H' _ h => ?_) ?_ ?_
    · obtain ⟨_, e, _⟩ := h
      exact e _ _ upd_same
    · rintro i v H5 H6 hi ⟨acc, e5, R5, d5⟩ ⟨T, k1, k2, rfl, nT, rfl, hk1, hk2⟩
      have hi' : i < es.length := by simpa using hi
      have hz : es[i]? = some es[i] := List.getElem?_eq_getElem hi'
      generalize es[i] = e at hz
      have hee := List.mem_of_getElem? hz
      obtain rfl : V.str e.1 = k1 := by
        have : ((es.map rKV)[i]?.map fun kv => kV kv.1) = some k1 := hk1
        rw [List.getElem?_map, hz] at this
        exact Option.some.inj this
      obtain rfl : V.ref e.2.2 = k2 := by
        have : ((es.map rKV)[i]?.map Prod.snd) = some k2 := hk2
        rw [List.getElem?_map, hz] at this
        exact Option.some.inj this
      have e6 : Ex (upd H4 pe (.frz od (.dK (es.map rKV)))) (upd H5 T (.tup [.str e.1, .ref e.2.2])) := ext e5 (exn nT)
      have R6 := R5.ex (exn (o := .tup [.str e.1, .ref e.2.2]) nT)
      refine ⟨T, _, rfl, SqT.of upd_same, rfl, _, _, rfl, _, _, rfl, rfl, rfl, _, rfl, _, rfl, b, dy, fsL pe2 ps2, rfl, e6 _ _ bE, rfl, _, rfl, b, e.2.2, e.2.1, es2, ss2, rfl, LR.ex e6, SqT.of (e6 _ _ (tE e hee)), en2, hin e hee, h27, ?_, fun q H7 nq e7 h7 => ?_⟩
      · have := (l3 e hee).2.1
        omega
      have R7 := R6.ex e7
      have e07 := ext e6 e7
      have ny : e.1 ∉ acc.map (·.1) := by
        rw [← dat_key, d5, List.map_map]
        intro hm
        obtain ⟨y, hy, hye⟩ := List.mem_map.mp hm
        obtain ⟨j, hj⟩ := List.mem_iff_getElem?.mp hy
        rw [List.getElem?_take] at hj
        split at hj
        · rename_i hji
          have q1 : (es.map (·.1))[j]? = some e.1 := by rw [List.getElem?_map, hj]; exact congrArg some hye
          have q2 : (es.map (·.1))[i]? = some e.1 := by rw [List.getElem?_map, hz]; rfl
          have := (List.getElem?_inj (List.getElem?_eq_some_iff.mp q1).1 en).mp (q1.trans q2.symm)
          omega
        · cases hj
      have hlen : acc.length ≤ 4 := by
        have h1 := congrArg List.length d5
        rw [List.length_map, List.length_map] at h1
        have h2 := List.length_take_le' i es
        omega
      refine ⟨_, Sum.inr e.1, rfl, R7.1, ?_, acc ++ [(e.1, putL (es2.map dat) e.2.1, q)], ?_, ⟨?_, fun x hx => ?_⟩, ?_⟩
      · rw [List.length_map, sizeLine_eq]
        omega
      · exact exm e07 nD
      · rw [upd_same, putK_new _ (valRn ny), List.map_append]
        rfl
      · rcases List.mem_append.mp hx with h | h
        · have := R7.2 x h
          rw [upd_ne (fun z => by rw [z, R7.1] at this; cases this)]
          exact this
        · rw [List.mem_singleton.mp h]
          have qD : q ≠ D := fun z => by rw [z, R7.1] at h7; cases h7
          show upd H7 D _ q = _
          rw [upd_ne qD]
          exact h7
      · rw [List.map_append, d5, List.take_succ, hz]
        simp [dat]
    rintro H5 ⟨accE, e5, R5, d5⟩
    rw [List.length_map, List.take_length] at d5
    refine ⟨e5 _ _ upd_same, ?_⟩
    have x5 : Ex H (upd H5 pe (.dK (es.map rKV))) := ext x4 (unlock e5 hE4.1)
    have R6 : Rws (upd H5 pe (.dK (es.map rKV))) D accE := ⟨by rw [upd_ne nDp]; exact R5.1, fun x hx => by
      have := R5.2 x hx
      have hpe := e5 _ _ (upd_same (H := H4) (a := pe))
      rw [upd_ne (fun z => by rw [z, hpe] at this; cases this)]
      exact this⟩
    generalize upd H5 pe (.dK (es.map rKV)) = H6 at x5 R6 ⊢
    clear nD nDp LR bE tE e5 R5
    have hS6 := hS.ex x5
    have ha6 := x5 _ _ ha
    have hb6 := x5 _ _ hb
    have hL26 := hL2.ex x5
    -- the states of both
    refine ⟨_, rfl, ps, _, hS6, trivial, fun od => ⟨_, rfl, a, CL, dx, fsL pe ps, .ref ps, rfl, ?_, L.cls, L.st, lkS, ps, od, ss.map sKV, rfl, upd_same, fun D2 nD => ?_⟩⟩
    · have hS6' : H6 ps = some _ := hS6
      rw [upd_ne (fun z => by rw [z, hS6'] at ha6; cases ha6)]
      exact ha6
    have hS6' : H6 ps = some (.dK (ss.map sKV)) := hS6
    have nDp : D2 ≠ ps := fun z => by rw [z, upd_same] at nD; cases nD
    have LR : LiftR CL (upd H6 ps (.frz od (.dK (ss.map sKV)))) b es2 ss2 := hL26.lock hS6'
    have bE : upd H6 ps (.frz od (.dK (ss.map sKV))) b = some (.ins CL dy (fsL pe2 ps2)) := by
      rw [upd_ne (fun z => by rw [z, hS6'] at hb6; cases hb6)]
      exact hb6
    refine w_out walk_items (fun i H' => Ex (upd H6 ps (.frz od (.dK (ss.map sKV)))) H' ∧ H' D2 = some (.dK (((ss.take i).map fun e => (e.1, look2 ss2 e.2)).map sKV))) ⟨exn nD, upd_same⟩ (fun i H' _ h => h.1 _ _ upd_same) ?_ ?_
    · rintro i v H7 H8 hi ⟨e7, h7⟩ ⟨T, k1, k2, rfl, nT, rfl, hk1, hk2⟩
      have hi' : i < ss.length := by simpa using hi
      have hz : ss[i]? = some ss[i] := List.getElem?_eq_getElem hi'
      generalize ss[i] = e at hz
      have hee := List.mem_of_getElem? hz
      obtain rfl : V.str e.1 = k1 := by
        have : ((ss.map sKV)[i]?.map fun kv => kV kv.1) = some k1 := hk1
        rw [List.getElem?_map, hz] at this
        exact Option.some.inj this
      obtain rfl : V.str e.2 = k2 := by
        have : ((ss.map sKV)[i]?.map Prod.snd) = some k2 := hk2
        rw [List.getElem?_map, hz] at this
        exact Option.some.inj this
      have e8 : Ex (upd H6 ps (.frz od (.dK (ss.map sKV)))) (upd H7 T (.tup [.str e.1, .str e.2])) := ext e7 (exn nT)
      have h8 := (exn (o := .tup [.str e.1, .str e.2]) nT) _ _ h7
      obtain ⟨g, hg, hge⟩ := List.mem_map.mp (hst e hee)
      have lg : look2 ss2 e.2 = g.2 := by
        rw [← hge]
        exact look2_at sn2 hg
      have ny : e.1 ∉ ((ss.take i).map fun e => (e.1, look2 ss2 e.2)).map (·.1) := by
        rw [List.map_map]
        intro hm
        obtain ⟨y, hy, hye⟩ := List.mem_map.mp hm
        obtain ⟨j, hj⟩ := List.mem_iff_getElem?.mp hy
        rw [List.getElem?_take] at hj
        split at hj
        · rename_i hji
          have q1 : (ss.map (·.1))[j]? = some e.1 := by rw [List.getElem?_map, hj]; exact congrArg some hye
          have q2 : (ss.map (·.1))[i]? = some e.1 := by rw [List.getElem?_map, hz]; rfl
          have := (List.getElem?_inj (List.getElem?_eq_some_iff.mp q1).1 sn).mp (q1.trans q2.symm)
          omega
        · cases hj
      refine ⟨T, _, rfl, SqT.of upd_same, rfl, _, _, rfl, _, _, rfl, rfl, rfl, _, rfl, _, rfl, b, dy, fsL pe2 ps2, rfl, e8 _ _ bE, rfl, _, rfl, b, g, es2, ss2, by rw [hge]; rfl, LR.ex e8, sn2, hg, ?_⟩
      refine ⟨_, Sum.inr e.1, rfl, h8, ?_, exm e8 nD, ?_⟩
      · rw [List.length_map, List.length_map, sizeLine_eq]
        have := List.length_take_le' i ss
        omega
      · rw [upd_same, putK_new _ (valSn ny), List.take_succ, hz, ← lg]
        simp [sKV]
    rintro H7 ⟨e7, h7⟩
    rw [List.length_map, List.take_length] at h7
    refine ⟨e7 _ _ upd_same, ?_⟩
    have x7 : Ex H6 (upd H7 ps (.dK (ss.map sKV))) := unlock e7 hS6'
    have S7 : Sts (upd H7 ps (.dK (ss.map sKV))) D2 (ss.map fun e => (e.1, look2 ss2 e.2)) := (upd_ne nDp).trans h7
    have R7 := R6.ex x7
    have x07 := ext x5 x7
    have keyE : accE.map (·.1) = es.map (·.1) := by
      rw [← dat_key, d5, List.map_map]
      rfl
    have keyS : (ss.map fun e => (e.1, look2 ss2 e.2)).map (·.1) = ss.map (·.1) := by
      rw [List.map_map]
      rfl
    have lenE : accE.length = es.length := by simpa using congrArg List.length d5
    have tw := evOk_tw d5 eok eok2
    have memE : ∀ e ∈ accE, ∃ e0 ∈ es, e0.1 = e.1 ∧ e.2.1 = putL (es2.map dat) e0.2.1 := fun e he => by
      have : dat e ∈ accE.map dat := List.mem_map_of_mem he
      rw [d5] at this
      obtain ⟨e0, h0, z⟩ := List.mem_map.mp this
      exact ⟨e0, h0, (Prod.mk.inj z).1, (Prod.mk.inj z).2.symm⟩
    have memS : ∀ e ∈ ss.map fun e => (e.1, look2 ss2 e.2), ∃ e0 ∈ ss, e0.1 = e.1 ∧ (e0.2, e.2) ∈ ss2 := fun e he => by
      obtain ⟨e0, h0, rfl⟩ := List.mem_map.mp he
      obtain ⟨g, hg, hge⟩ := List.mem_map.mp (hst e0 h0)
      refine ⟨e0, h0, rfl, ?_⟩
      show (e0.2, look2 ss2 e0.2) ∈ ss2
      rw [← hge, look2_at sn2 hg]
      exact hg
    have sokT : stOk (ss.map fun e => (e.1, look2 ss2 e.2)) = true := by
      refine stOk_in (by rw [List.length_map]; omega) (by rw [List.length_map]; omega) fun e he => ?_
      obtain ⟨e0, h0, z1, z2⟩ := memS e he
      exact ⟨by rw [← z1]; exact (m3 e0 h0).1, (m4 _ z2).2⟩
    refine mkL R7 S7 (by rw [keyE]; exact en) (by rw [keyS]; exact sn) (fun e he => ?_) (fun e he => ?_) (by omega) (by rw [List.length_map]; omega) (fun ok x H8 es' ss' nx e8 hL8 sE sS => ?_) (fun no H8 e8 => ?_)
    · obtain ⟨e0, h0, z1, z2⟩ := memE e he
      refine ⟨by rw [← z1]; exact (l3 e0 h0).1.sz, ?_, fun x hx => ?_⟩
      · rw [z2]
        have h1 := putL_len (look_len h27) e0.2.1
        have h2 := (l3 e0 h0).2.1
        have h3 : 27 * e0.2.1.length ≤ 27 * 27 := Nat.mul_le_mul_left _ h2
        omega
      · rw [z2] at hx
        obtain ⟨y, hy, hx⟩ := putL_mem hx
        exact ((l4 y hy).2.2 x hx).sz
    · obtain ⟨e0, h0, z1, z2⟩ := memS e he
      exact ⟨by rw [← z1]; exact (m3 e0 h0).1.sz, (m4 _ z2).2.sz⟩
    · rw [Bool.and_eq_true] at ok
      refine kQ (by rw [hai, has, ← tw, ok.1]; rfl) x H8 es' ss' (exb x07 nx) (ext x07 e8) hL8 (by rw [← keyE]; exact sE.pm) (by rw [← keyS]; exact sS.pm) (fun e he => memE e (sE.sub e he)) (fun e he => memS e (sS.sub e he)) (sE.ok ok.1) (sS.ok ok.2)
    · refine kE ?_ H8 (ext x07 e8)
      rw [hai, has, ← tw]
      rw [sokT, Bool.and_true] at no
      rw [no]
      rfl
end
end Sn
/-! lambdas, and the tables of their code objects -/
namespace Sn
open Evl (Ex)
open PySem PySem.Spec PyProof.Rows L2 LamX
/-- a def whose code object is at c -/
structure FunT (K : PySem.W.Frag) (x qual : Str) (st : Stmt) (f : Addr) (fd : FuncData) (c : Addr) : Prop where
  ex : ∃ (oc : Value) (od : Option Addr) (kV doc pm : Value) (an : Option Addr) (ct : Value) (osl : Array (Option Value)),
    fd = PySem.W.fnOf x qual (defArgs st) (defBody st) (defScope st) .none kV doc pm an (.ref c) ct ∧ K.lookup f = some ⟨oc, od, .func fd, osl⟩ ∧ PySem.W.codeIn K (.ref c) qual = true
  kp : PySem.W.keepIn K (.ref f) = true
section
variable {P : Program} {w : World} {K : PySem.W.Frag} {mg : Str → Option Value} {base : Heap}
theorem FunT.ok {x qual : Str} {st : Stmt} {f c : Addr} {fd : FuncData} {N ps : List Str} {k : Nat} {sp : Sp} (F : FunT K x qual st f fd c) (S : FnScope N ps (defScope st)) (len : ∀ vs H Q E, sp vs H Q E → vs.length = ps.length)
    (hbody : ∀ (A : Around) (outer : List Env) (s : Shared) (H : Hp) (vs : List V) (Q : VK) (E : XK), Room k (A.deeper (envOfC qual (defScope st) s.heap.objs.size f (.ref c))) → sp vs H Q E →
      ∃ t, PSs (cxOf CX0 P w K mg base N qual (defScope st) f (.ref c) A outer s H E).nox (defBody st) t ∧ t { nx := fun _ H' => Q .non H', rt := Q } (L2.start N vs) H) : FnOk P w K mg base CX0 (k + 1) f fd ps sp := by
  obtain ⟨oc, od, kV, doc, pm, an, ct, osl, rfl, lk, hcd⟩ := F.ex
  refine fn_of lk hcd S len fun A outer s H vs Q E hr hsp => ?_
  obtain ⟨t, h, q⟩ := hbody A outer s H vs Q E hr hsp
  exact ⟨t, h.nox, q⟩
end
theorem tkL {X : Cx} {A : Around} {outer : List Env} {s : Shared} {H : Hp} {E : XK} {scope : Scope} {f c' : Addr} : Takes (lamCx X A outer s H E scope f c') (fun cls d _ H' => E cls d H') := takes_of rfl rfl rfl rfl
/-! ### tables -/
/-- no tables are told -/
def NoT (F : Hp) : Prop := ∀ b ps, F b ≠ some (.tbl ps)
def cutT (H : Hp) (sa la : Addr) : Hp := fun x => match H x with
  | some (.tbl _) => none
  | o => if x = sa ∨ x = la then none else o
section
variable {H H' F : Hp} {sa la ca x : Addr} {T : Nat} {Ts : List (Addr × Str)}
theorem cutT_some {o : HO} (h : cutT H sa la x = some o) : H x = some o ∧ (∀ ps, o ≠ .tbl ps) ∧ x ≠ sa ∧ x ≠ la := by
  unfold cutT at h
  split at h
  · cases h
  · rename_i h2
    split at h
    · cases h
    · rename_i h3
      exact ⟨h, fun ps z => h2 ps (by rw [h, z]), fun z => h3 (.inl z), fun z => h3 (.inr z)⟩
theorem cutT_ex : Ex (cutT H sa la) H := fun a o h => (cutT_some h).1
theorem cutT_s : cutT H sa la sa = none := by
  cases h : cutT H sa la sa with
  | none => rfl
  | some o => exact absurd rfl (cutT_some h).2.2.1
theorem cutT_l : cutT H sa la la = none := by
  cases h : cutT H sa la la with
  | none => rfl
  | some o => exact absurd rfl (cutT_some h).2.2.2
theorem cutT_no : NoT (cutT H sa la) := fun b ps h => (cutT_some h).2.1 ps rfl
theorem cutT_at {o : HO} (h : H x = some o) (n1 : x ≠ sa) (n2 : x ≠ la) (n3 : ∀ ps, o ≠ .tbl ps) : cutT H sa la x = some o := by
  unfold cutT
  split
  · rename_i h2
    rw [h] at h2
    exact absurd (Option.some.inj h2) (n3 _)
  · rw [if_neg (fun z => z.elim n1 n2)]
    exact h
theorem cutT_up {G : Hp} (e : Ex G H) (n1 : G sa = none) (n2 : G la = none) (n3 : NoT G) : Ex G (cutT H sa la) := fun a o h => cutT_at (e a o h) (ne_of_none h n1) (ne_of_none h n2) fun ps z => n3 a ps (by rw [h, z])
theorem cutT_to {o : HO} (e : Ex (cutT H sa la) H') (h : H x = some o) (n1 : x ≠ sa) (n2 : x ≠ la) (n3 : ∀ ps, o ≠ .tbl ps) : H' x = some o := e _ _ (cutT_at h n1 n2 n3)
/-- a lambda is made -/
theorem exN (e : Ex F H) (n : NoT F) (h : ExtN H H') : Ex F H' := fun b o hb => h b o (e b o hb) fun ps z => n b ps (by rw [hb, z])
theorem Dr.exN (D : Dr H sa la ca T) (h : ExtN H H') : Dr H' sa la ca T := by
  obtain ⟨⟨ls, cs, r, t, a, b, c, g⟩, x, y, z⟩ := D
  exact ⟨⟨ls, cs, r, t, h _ _ a (fun _ z => nomatch z), h _ _ b (fun _ z => nomatch z), h _ _ c (fun _ z => nomatch z), g⟩, x, y, z⟩
/-- draws leave the tables -/
theorem tabs_cut (t : Tabs Ts H) (D : Dr H sa la ca T) (e : Ex (cut H sa la) H') : Tabs Ts H' := fun p hp => by
  obtain ⟨⟨ls, cs, r, tt, ha, hb, _⟩, _⟩ := D
  obtain ⟨ps, h1, h2, h3⟩ := t p hp
  have ne : ∀ {x o}, H x = some o → (∀ k, o ≠ .dK k) → (∀ k, o ≠ .lst k) → H' x = some o := fun {x o} h k1 k2 => cut_to e h (fun z => by rw [z, ha] at h; exact k1 _ (Option.some.inj h).symm) (fun z => by rw [z, hb] at h; exact k2 _ (Option.some.inj h).symm)
  refine ⟨ps, ne h1 (fun _ z => by cases z) (fun _ z => by cases z), h2, fun pos cv hc => ?_⟩
  obtain ⟨c, e1, e2⟩ := h3 pos cv hc
  exact ⟨c, e1, ne e2 (fun _ z => by unfold CodeO at z; cases z) (fun _ z => by unfold CodeO at z; cases z)⟩
end
end Sn
/-! t != u of tuples that are equal item by item, by own == too -/
namespace Sn
open Evl (Ex)
open PySem PySem.Spec PyProof.Rows L2
section
variable {prog : Program} {w : World} {A : Around} {E : Value → Shared → Prop} {R : Result → Shared → Prop}
theorem tup_ne {l b : Addr} {xs ys : Array Value} {n n2 : Nat} {dd dd2 : Option Addr} {sl sl2 : Array (Option Value)} (hsz : xs.size = ys.size) (J : Shared → Prop)
    (turn : ∀ i (h1 : i < xs.size) (h2 : i < ys.size) s, J s → wpAny (model prog w) A.in1 (eqBool xs[i] ys[i]) (fun r s' => r = true ∧ J s') (fun e s' => R (.error e) s') s) (fin : ∀ s, J s → R (.ok (.ret (.bool false))) s)
    {s : Shared} (hl : s.heap.get? l = some { cls := .type "tuple", dict := dd, data := .seq xs n, slots := sl }) (hb : s.heap.get? b = some { cls := .type "tuple", dict := dd2, data := .seq ys n2, slots := sl2 }) (h : J s) :
    wpAny (model prog w) A.in1 (Builtin.«tuple.__ne__» ⟨[.ref l, .ref b], []⟩) (GQ.FinOf prog w A R) (fun e s' => R (.error e) s') s := by
  have f2 := AutoSeq1.sub_tuple_tuple
  have zl : (xs.toList.zip ys.toList).length = xs.size := by simp [hsz]
  have hJ := h
  obtain ⟨hp, g, d, tk, os⟩ := s
  wp_walk using wpAny_loadPart' hl, wpAny_loadPart' hb, wpAny_forIn_list _ (fun rest b s' => b.1 = none ∧ ∃ i, rest = (xs.toList.zip ys.toList).drop i ∧ J s') _
  case turn =>
    rintro ⟨y, x⟩ rest b s' ⟨hb', i, hz, hI⟩
    have lt : i < (xs.toList.zip ys.toList).length := by
      rcases Nat.lt_or_ge i (xs.toList.zip ys.toList).length with q | q
      · exact q
      · rw [List.drop_of_length_le q] at hz; cases hz
    have h1 : i < xs.size := zl ▸ lt
    have h2 : i < ys.size := hsz ▸ h1
    rw [List.drop_eq_getElem_cons lt] at hz
    injection hz with hyx hrest
    obtain rfl : y = xs[i] := by have := congrArg Prod.fst hyx; simpa using this
    obtain rfl : x = ys[i] := by have := congrArg Prod.snd hyx; simpa using this
    refine wpAny_bind (wpAny_mono (turn i h1 h2 s' hI) (fun r s2 q2 => ?_) fun _ _ x => x)
    obtain ⟨rfl, q2⟩ := q2
    wp_walk
    exact ⟨rfl, i + 1, hrest, q2⟩
  case fin =>
    rintro ⟨b1, b2⟩ s' ⟨hb', i, hz, hI⟩
    simp only at hb'
    subst hb'
    have hR := fin s' hI
    wp_walk
    simpa [Builtin.Tuple.tupleCompareSizes, hsz] using hR
  case h =>
    exact ⟨rfl, 0, rfl, hJ⟩
end
section
variable {X : Cx} {n : Nat} {D : Eqv}
def rNeT (K : PySem.W.Frag) (D : Eqv) : R2 := fun x y H Q => DTup K D x y H ∧ ∀ H', L2.Ext H H' → Q (.bl false) H'
theorem op_neTup (hD : Mon D) (h : EqG X n D) (hr : Room (n + 1) X.A) : OpR X (compareOp .NotEq) (rNeT X.K D) := by
  intro pins s σ H x y u v Q I rx ry hq
  obtain ⟨⟨a, b, xs, ys, rfl, rfl, ha, hb, p⟩, q⟩ := hq
  cases rx
  cases ry
  obtain ⟨its, r, e, z⟩ := I.tuple ha
  obtain ⟨its2, r2, e2, z2⟩ := I.tuple hb
  have hsz : its.toArray.size = its2.toArray.size := by rw [List.size_toArray, List.size_toArray, ← r.length, ← r2.length]; exact p.1
  obtain ⟨⟨cls, dd, data, sl⟩, ho, hc, m, hd⟩ := id e
  obtain ⟨⟨cls2, dd2, data2, sl2⟩, ho2, hc2, m2, hd2⟩ := id e2
  simp only at hc hd hc2 hd2
  subst hc hd hc2 hd2
  show wpAny (model X.prog X.w) X.A (richCompare .NotEq (.ref a) (.ref b)) _ _ _
  refine wpAny_richCompare_same_room (op := .NotEq) ⟨_, ho, rfl⟩ ⟨_, ho2, rfl⟩ F.slot_tuple_ne (GQ.call_here F.slot_tuple_ne ⟨_, ho, rfl⟩ F.entry_tuple_ne (F.args_tuple_ne_2 _ _) ?_) hr.units0
  refine tup_ne (R := wants (fun v s' => v ≠ .notImplemented ∧ EP X pins σ Q v s') X.xe) hsz (fun s' => LoopI X pins σ H s') (fun i h1 h2 s' q' => turnG hD h ⟨hr, rfl⟩ p r r2 i h1 h2 s' q') (fun s' q' => ⟨(fun x => nomatch x), ?_⟩) ho ho2 ⟨H, I, L2.Ext.rfl'⟩
  obtain ⟨H', I', e'⟩ := q'
  exact ⟨.bl false, H', I', rfl, q H' e'⟩
end
end Sn
/-! tuple * int where it is the same tuple; sorted(set(texts)) -/
namespace Sn
open Evl (Ex)
open PySem PySem.Spec PyProof.Rows L2
theorem tuple_mulS (l : Addr) (items : Array Value) (n : Nat) (dd : Option Addr) (sl : Array (Option Value)) (x : Int) (u : Tok) (c0 : (decide (x < -(2 ^ 63)) || decide (x ≥ 2 ^ 63)) = false) (c1 : (items.isEmpty || x == 1) = true) :
    Meets (Builtin.«tuple.__mul__» ⟨[.ref l, .int x u], []⟩) (fun _ R s => s.heap.get? l = some { cls := .type "tuple", dict := dd, data := .seq items n, slots := sl } ∧ R (.ok (.ret (Value.ref l))) s) :=
  .of_wp fun prog w A R s h => by
    obtain ⟨hp, g, d, tk, os⟩ := s
    obtain ⟨hl, h⟩ := h
    have f1 := AutoSeq1.idx_int
    wp_walk using wpAny_loadPart' hl
    repeat (first
      | (refine wpAny_ite_false (decide_eq_false (by rw [c0]; exact Bool.false_ne_true)) ?_; wp_walk using wpAny_loadPart' hl)
      | (refine wpAny_ite_true (decide_eq_true (by rw [c1])) ?_; wp_walk using wpAny_loadPart' hl))
    exact ⟨_, rfl, h⟩
def rRepS (K : PySem.W.Frag) : R2 := fun x y H Q => ∃ l k xs, x = .ref l ∧ y = .int k ∧ SqT K H l xs ∧ (xs = [] ∨ k = 1) ∧ 1 ≤ k ∧ k ≤ 1000 ∧ Q (.ref l) H
section
variable {X : Cx}
theorem op_repS : OpR X (binaryOp .Mult) (rRepS X.K) := by
  intro pins s σ H x y v u Q I rx ry h
  obtain ⟨l, k, xs, rfl, rfl, hT, hor, h1, h2, q⟩ := h
  cases rx
  obtain ⟨t, rfl⟩ := ry
  obtain ⟨its, r, ⟨⟨cls, dd, data, sl⟩, ho, hc, n, hd⟩, hs⟩ := I.tuple hT
  simp only at hc hd
  subst hc hd
  have c0 : (decide (k < -(2 ^ 63)) || decide (k ≥ 2 ^ 63)) = false := by
    rw [decide_eq_false (show ¬ k < -(2 ^ 63) by omega), decide_eq_false (show ¬ k ≥ 2 ^ 63 by omega)]
    rfl
  have c1 : (its.toArray.isEmpty || k == 1) = true := by
    rcases hor with z | z
    · have : its = [] := by
        have hl := r.length
        rw [z] at hl
        exact List.eq_nil_of_length_eq_zero hl.symm
      rw [this]
      rfl
    · rw [z]
      simp
  exact wpAny_binaryOp_repeat_ref (T := "tuple") (U := "int") (by decide) ⟨_, ho, rfl⟩ (fun s' => typeIs_int s' k t) noFill_tuple_mul F.fills_int_mul F.slot_int_rmul repeat_tuple F.slot_int_index.lookup
    (call_meets F.slot_int_rmul (typeIs_int s k t) F.entry_int_rmul (F.args_int_rmul_2 _ _) (int_rmul_tuple k t l its.toArray n dd sl)
      ⟨ho, rfl, ⟨_, ho, rfl⟩, call_meets F.slot_tuple_mul ⟨_, ho, rfl⟩ F.entry_tuple_mul (F.args_tuple_mul_2 _ _) (tuple_mulS l its.toArray n dd sl k t c0 c1) ⟨ho, ⟨.ref l, H, I, rfl, q⟩⟩⟩)
/-- t * k -/
theorem op_rep : OpR X (binaryOp .Mult) (fun x y H Q => rRepT X.K x y H Q ∨ rRepS X.K x y H Q) := by
  intro pins s σ H x y v u Q I rx ry h
  rcases h with h | h
  · exact op_repT pins s σ H x y v u Q I rx ry h
  · exact op_repS pins s σ H x y v u Q I rx ry h
end
end Sn
/-! sets of keys of any kind: made of a list, walked, sorted -/
namespace Sn
open Evl (Ex)
open PySem PySem.Spec PyProof.Rows L2
theorem pair_perm {α β : Type} {F : α → β → Prop} {l l' : List α} (p : l'.Perm l) : ∀ {m : List β}, Paired F l m → ∃ m', m'.Perm m ∧ Paired F l' m' := by
  induction p with
  | nil => intro m h; exact ⟨m, .refl _, h⟩
  | cons x _ ih =>
    intro m h
    cases h with
    | cons a t =>
      obtain ⟨m', q, t'⟩ := ih t
      exact ⟨_ :: m', q.cons _, .cons a t'⟩
  | swap x y r =>
    intro m h
    cases h with
    | cons a t =>
      cases t with
      | cons b t =>
        exact ⟨_ :: _ :: _, .swap _ _ _, .cons b (.cons a t)⟩
  | trans _ _ i1 i2 =>
    intro m h
    obtain ⟨m1, q1, t1⟩ := i2 h
    obtain ⟨m2, q2, t2⟩ := i1 t1
    exact ⟨m2, q2.trans q1, t2⟩
theorem pair_mem {α β : Type} {F : α → β → Prop} : ∀ {l : List α} {m : List β}, Paired F l m → ∀ {y}, y ∈ m → ∃ x ∈ l, F x y
  | _, _, .cons h t, y, hy => by
    rcases List.mem_cons.mp hy with z | hy
    · rw [z]
      exact ⟨_, List.mem_cons_self, h⟩
    · obtain ⟨x, hx, f⟩ := pair_mem t hy
      exact ⟨x, List.mem_cons_of_mem _ hx, f⟩
theorem pair_mem' {α β : Type} {F : α → β → Prop} : ∀ {l : List α} {m : List β}, Paired F l m → ∀ {x}, x ∈ l → ∃ y ∈ m, F x y
  | _, _, .cons h t, x, hx => by
    rcases List.mem_cons.mp hx with z | hx
    · rw [z]
      exact ⟨_, List.mem_cons_self, h⟩
    · obtain ⟨y, hy, f⟩ := pair_mem' t hx
      exact ⟨y, List.mem_cons_of_mem _ hy, f⟩
section
variable {P : Program} {w : World} {κ : Type} [DecidableEq κ] (knd : KeyKind P w κ)
/-- the set of the keys ks at a, that can be walked -/
def SetG (h : Heap) (a : Addr) (ks : List κ) : Prop := ks.Nodup ∧ ∃ o es ep t ks', ks'.Perm ks ∧ h.get? a = some o ∧ o.ExactSet ∧ o.data = .set es ep t ∧ ElemsOf knd es.toList ∧ Paired (fun (e : Int × Value) k => knd.is k e.2 = true) es.toList ks' ∧
  es.size < scanBound ∧ t.fits es.size = true ∧ Ris t.place.toList ∧ (w.params.followText "set-order" = true ∨ t.led = true)
variable {knd} {A : Around} {E : Value → Shared → Prop} {s : Shared} {a : Addr} {ks : List κ}
theorem SetG.at {h h' : Heap} (R : SetG knd h a ks) (k : ∀ o, h.get? a = some o → h'.get? a = some o) : SetG knd h' a ks := by
  obtain ⟨nd, o, es, ep, t, ks', p, ho, r⟩ := R
  exact ⟨nd, o, es, ep, t, ks', p, k o ho, r⟩
theorem setG_new {h : Heap} (ho : h.get? a = some { cls := .type "set", dict := none, data := .set #[] 0 (.fresh 0 0 (!w.params.followText "set-order")) }) : SetG knd h a [] := by
  refine ⟨List.nodup_nil, _, #[], 0, _, [], .refl _, ho, ⟨rfl, rfl, rfl⟩, rfl, fun e he => by simp at he, .nil, by decide, rfl, List.Pairwise.nil, ?_⟩
  show _ ∨ (!w.params.followText "set-order") = true
  cases w.params.followText "set-order"
  · exact .inr rfl
  · exact .inl rfl
/-- the store behind a new key -/
theorem setG_tail {g : Bool → Sem Unit} (hg : ∀ (b : Bool) (s₁ : Shared) (Q' : Unit → Shared → Prop), Q' () s₁ → wpAny (model P w) A (g b) Q' E s₁) {o : Obj} {es : Array (Int × Value)} {ep : Nat} {t : SetTable} (ho : s.heap.get? a = some o) (hex : o.ExactSet) (hd : o.data = .set es ep t)
    {es1 : Array (Int × Value)} {t2 : SetTable} {ks1 : List κ} (n1 : ks.Nodup) (p1 : ks1.Perm ks) (el : ElemsOf knd es1.toList) (pr : Paired (fun (e : Int × Value) k => knd.is k e.2 = true) es1.toList ks1)
    (hb1 : es1.size < scanBound) (hf2 : t2.fits es1.size = true) (hr : Ris t2.place.toList) (hl : w.params.followText "set-order" = true ∨ t2.led = true) {dm : Bool} {R : Option Bool → Shared → Prop}
    (hR : ∀ h', Heap.SameBut a s.heap h' → SetG knd h' a ks → R (some true) { s with heap := h' }) :
    wpAny (model P w) A (do
        storeSet a es1 t2
        if (!dm && t2.tooFull) = true then do
            g (relayAll t2 es1 (SetTable.grown es1.size)).2.2
            storeSet a (relayAll t2 es1 (SetTable.grown es1.size)).1 (relayAll t2 es1 (SetTable.grown es1.size)).2.1
            pure (some true)
          else pure (some true)) R E s := by
  have o1 := store_at (es' := es1) (t' := t2) ho hd
  have b1 := Heap.SameBut.update s.heap a (Obj.putSet es1 t2)
  refine wpAny_bind (wpAny_storeSet_of ho hd ?_ (fits_of_scanBound hb1))
  split
  · have q1 := relayAll_perm t2 es1 (SetTable.grown es1.size)
    have q2 := relayAll_fits t2 es1 (SetTable.grown es1.size)
    have q3 := relayAll_ris t2 es1 (SetTable.grown es1.size)
    have q4 := relayAll_led t2 es1 (SetTable.grown es1.size)
    generalize relayAll t2 es1 (SetTable.grown es1.size) = Z at q1 q2 q3 q4 ⊢
    obtain ⟨es2, t3, gave⟩ := Z
    dsimp only at q1 q2 q3 q4 ⊢
    have sz : es2.size = es1.size := by rw [← Array.length_toList, q1.length_eq, Array.length_toList]
    obtain ⟨ks2, p2, pr2⟩ := pair_perm q1 pr
    refine wpAny_bind (hg _ _ _ (wpAny_bind (wpAny_storeSet_of o1 rfl (wpAny_pure (hR _ (b1.trans (Heap.SameBut.update _ a _)) ?_)) (fits_of_scanBound (by rw [sz]; exact hb1)))))
    exact ⟨n1, _, es2, _, t3, ks2, p2.trans p1, store_at (es' := es2) (t' := t3) o1 rfl, hex, rfl, fun e he => el e (q1.mem_iff.mp he), pr2, by rw [sz]; exact hb1, q2, q3, hl.imp id fun z => by rw [q4]; exact z⟩
  · exact wpAny_pure (hR _ b1 ⟨n1, _, es1, _, t2, ks1, p1, o1, hex, rfl, el, pr, hb1, hf2, hr, hl⟩)
/-- a key is added -/
theorem setG_add {k : κ} {v : Value} {Q : Bool → Shared → Prop} (R : SetG knd s.heap a ks) (hk : knd.is k v = true) (hsc : v.scannable = true) (room : ks.length + 1 < scanBound)
    (hQ : ∀ h' b, Heap.SameBut a s.heap h' → SetG knd h' a (if k ∈ ks then ks else k :: ks) → Q b { s with heap := h' }) : wpAny (model P w) A (setAddHashed a v (knd.hash k)) Q E s := by
  obtain ⟨nd, o, es, ep, t, ks', pm, ho, hex, hd, el, pr, hb, hf, hr, hl⟩ := id R
  have hln : es.size = ks.length := by rw [← Array.length_toList, Paired.length pr, pm.length_eq]
  unfold setAddHashed setAddHashedIn
  refine wpAny_holding (wpAny_bind (wpAny_setState_of ho hd hf ?_))
  dsimp only
  rw [byScan_of hsc hb el]
  simp only [↓reduceIte]
  unfold setAddByScan
  refine wpAny_bind (wpAny_bind (wpAny_rule (wpAny_bind (wpAny_setScan_of hk ho hd hf el ?_))))
  cases hfi : List.findIdx? (fun e => knd.is k e.2) es.toList with
  | some j =>
    dsimp only
    obtain ⟨hj, pj, _⟩ := List.findIdx?_eq_some_iff_getElem.mp hfi
    obtain ⟨k', hk', is'⟩ := pair_mem' pr (List.getElem_mem hj)
    have hm : k ∈ ks := by
      rw [knd.inj _ _ _ pj is']
      exact pm.mem_iff.mp hk'
    have q := hQ s.heap false (Heap.SameBut.refl a s.heap)
    rw [if_pos hm] at q
    exact wpAny_pure (wpAny_pure (q R))
  | none =>
    dsimp only
    have hnm : k ∉ ks := fun z => by
      obtain ⟨e, he, q⟩ := pair_mem pr (pm.mem_iff.mpr z)
      have c := List.findIdx?_eq_none_iff.mp hfi e he
      rw [q] at c
      cases c
    have gw : ∀ (b : Bool) {s₁ : Shared} {Q' : Unit → Shared → Prop}, Q' () s₁ → wpAny (model P w) A (match b with | true => rule "set.scan.the-table-gave-way" | false => pure ()) Q' E s₁ := fun b s₁ Q' q => by cases b <;> first | exact wpAny_pure q | exact wpAny_rule q
    have q1 := layNew_perm t es (knd.hash k) v
    have q2 := layNew_fits t es (knd.hash k) v
    have q3 := layNew_ris t es (knd.hash k) v hr
    have q4 := layNew_led t es (knd.hash k) v
    generalize layNew t es (knd.hash k) v = Z at q1 q2 q3 q4 ⊢
    obtain ⟨es1, t1, dm, gave⟩ := Z
    dsimp only at q1 q2 q3 q4 ⊢
    rw [Array.toList_push] at q1
    have pc : es1.toList.Perm ((knd.hash k, v) :: es.toList) := q1.trans (List.perm_append_singleton _ _)
    obtain ⟨ks1, p1, pr1⟩ := pair_perm (F := fun (e : Int × Value) k => knd.is k e.2 = true) pc (.cons hk pr)
    have el1 : ElemsOf knd es1.toList := fun e he => by
      rcases List.mem_cons.mp (pc.mem_iff.mp he) with z | z
      · rw [z]
        exact ⟨⟨k, hk, rfl⟩, hsc⟩
      · exact el e z
    have sz : es1.size = ks.length + 1 := by rw [← Array.length_toList, pc.length_eq, List.length_cons, Array.length_toList, hln]
    have hb1 : es1.size < scanBound := by rw [sz]; exact room
    have hl1 : w.params.followText "set-order" = true ∨ t1.led = true := hl.imp id fun z => by rw [q4]; exact z
    have n1 : (k :: ks).Nodup := List.nodup_cons.mpr ⟨hnm, nd⟩
    have pp : ks1.Perm (k :: ks) := p1.trans (pm.cons _)
    have fin : ∀ h', Heap.SameBut a s.heap h' → SetG knd h' a (k :: ks) → Q true { s with heap := h' } := fun h' sb r => by
      have q := hQ h' true sb
      rw [if_neg hnm] at q
      exact q r
    refine wpAny_bind (gw _ ?_)
    split
    · refine wpAny_bind ?_
      rw [hashByValue_scannable 8 hsc]
      refine wpAny_pure (setG_tail ?_ ho hex hd n1 pp el1 pr1 hb1 ?_ ?_ ?_ ?_)
      · intro b s₁ Q' q; cases b <;> first | exact wpAny_pure q | exact wpAny_rule q
      · first | (split <;> first | exact q2 | exact SetTable.fits_plain_off q2) | exact q2
      · first | (split <;> exact q3) | exact q3
      · first | (split <;> exact hl1) | exact hl1
      · intro h' sb r; dsimp only; exact wpAny_pure (fin h' sb r)
    · refine wpAny_bind (wpAny_pure ?_)
      simp only [↓reduceIte]
      refine setG_tail ?_ ho hex hd n1 pp el1 pr1 hb1 q2 q3 hl1 ?_
      · intro b s₁ Q' q; cases b <;> first | exact wpAny_pure q | exact wpAny_rule q
      · intro h' sb r; dsimp only; exact wpAny_pure (fin h' sb r)
/-- the keys of a list, each once -/
def once : List κ → List κ → List κ
  | acc, [] => acc
  | acc, k :: r => once (if k ∈ acc then acc else k :: acc) r
theorem once_mem {x : κ} : ∀ (l acc : List κ), x ∈ once acc l ↔ x ∈ acc ∨ x ∈ l
  | [], acc => by simp [once]
  | k :: r, acc => by
    rw [once, once_mem r]
    by_cases h : k ∈ acc
    · rw [if_pos h, List.mem_cons]
      constructor
      · rintro (z | z)
        · exact .inl z
        · exact .inr (.inr z)
      · rintro (z | z | z)
        · exact .inl z
        · exact .inl (z ▸ h)
        · exact .inr z
    · rw [if_neg h, List.mem_cons, List.mem_cons]
      constructor
      · rintro ((z | z) | z)
        · exact .inr (.inl z)
        · exact .inl z
        · exact .inr (.inr z)
      · rintro (z | z | z)
        · exact .inl (.inr z)
        · exact .inl (.inl z)
        · exact .inr z
theorem once_len : ∀ (l acc : List κ), (once acc l).length ≤ acc.length + l.length
  | [], acc => by simp [once]
  | k :: r, acc => by
    rw [once]
    have := once_len r (if k ∈ acc then acc else k :: acc)
    split at this <;> rename_i h
    · rw [if_pos h, List.length_cons]
      omega
    · rw [if_neg h, List.length_cons]
      rw [List.length_cons] at this
      omega
theorem setG_loop {I : Addr} {fp wr : List Addr} {G : Array GenState → Array GenState → Prop} {Pv : Nat → Value → Prop} {St : Nat → Shared → Prop} {R : Result → Shared → Prop} {n : Nat} (W : WalksS P w A.in1 I fp wr G n Pv St) (S : Addr) (hSf : S ∉ fp)
    (kl : List κ) (hn : n = kl.length) (hval : ∀ i v, Pv i v → ∃ k, kl[i]? = some k ∧ knd.is k v = true ∧ v.scannable = true) :
    ∀ (m i : Nat) (s : Shared) (acc : List κ), n - i = m → i ≤ n → acc.length + n + 1 < scanBound + i → St i s → SetG knd s.heap S acc →
      (∀ s', Moved (S :: wr) G s s' → SetG knd s'.heap S (once acc (kl.drop i)) → R (.ok (.ret .none)) s') → codeAny (model P w) A (.builtin "set.update.loop" ⟨[.ref S, .ref I], []⟩) R s := by
  have hSw : S ∉ wr := fun h => hSf (W.sub _ h)
  have up : ∀ b ∈ wr, b ∈ S :: wr := fun b hb => List.mem_cons_of_mem _ hb
  intro m
  induction m with
  | zero =>
    intro i s acc hm hi hb hst hS hR
    have e : i = n := by omega
    subst e
    refine codeAny_builtin F.entry_set_update_loop ?_
    rw [Around.under_plainId F.plain_set_update_loop _]
    show wpAny _ A.in1 (pyNext (.ref I) >>= _) _ _ s
    refine wpAny_bind (W.done s _ _ hst fun s' mv => ?_)
    show wpAny _ A.in1 (ret Value.none) _ _ s'
    refine wpAny_pure (hR s' (mv.mono up) ?_)
    rw [List.drop_of_length_le (by omega)]
    exact hS.at fun o e => mv.heap S o hSw e
  | succ m ih =>
    intro i s acc hm hi hb hst hS hR
    have hlt : i < n := by omega
    refine codeAny_builtin F.entry_set_update_loop ?_
    rw [Around.under_plainId F.plain_set_update_loop _]
    show wpAny _ A.in1 (pyNext (.ref I) >>= _) _ _ s
    refine wpAny_bind (W.item i s _ _ hlt hst fun v s' hP hst' mv => ?_)
    obtain ⟨k, hk, his, hsc⟩ := hval i v hP
    have hS' : SetG knd s'.heap S acc := hS.at fun o e => mv.heap S o hSw e
    show wpAny _ A.in1 (holding [v] (setAdd S v) >>= _) _ _ s'
    refine wpAny_bind (wpAny_holding ?_)
    unfold setAdd
    refine wpAny_holding (wpAny_bind (knd.pyHash his ?_))
    refine setG_add (s := { s' with toks := s'.toks + 1 }) hS' his hsc (by omega) fun h' bb sb hS2 => ?_
    refine wpAny_pure ⟨plainId_quiet F.plain_set_update_loop _, ih (i + 1) _ _ (by omega) hlt ?_ (W.frame _ s' _ _ hst' (Nat.le_succ _) fun b hb o e => ?_) hS2 fun s'' mv'' hS'' => ?_⟩
    · split <;> (try rw [List.length_cons]) <;> omega
    · rw [sb.2 b (fun h : b = S => hSf (by rw [← h]; exact hb))]; exact e
    · refine hR s'' (Moved.trans W.gtrans ((mv.mono up).then_heap (Nat.le_succ _) fun b o hb e => ?_) mv'') ?_
      · rw [sb.2 b (fun h : b = S => hb (by rw [h]; exact List.mem_cons_self))]; exact e
      · have ed : kl.drop i = k :: kl.drop (i + 1) := by
          obtain ⟨h1, h2⟩ := List.getElem?_eq_some_iff.mp hk
          rw [List.drop_eq_getElem_cons h1, h2]
        rw [ed, once]
        exact hS''
end
section
variable {P : Program} {w : World} {A : Around} {E : Value → Shared → Prop} {s : Shared}
/-- set(l), l a list of keys -/
theorem setG_list {κ : Type} [DecidableEq κ] {knd : KeyKind P w κ} {l : Addr} {items : Array Value} (kl : List κ) {Q : Value → Shared → Prop} (hh : A.handled = none) (hl : s.heap.IsList l items) (hit : Paired (fun v k => knd.is k v = true ∧ v.scannable = true) items.toList kl) (hb : kl.length + 1 < scanBound)
    (h : ∀ (h' : Heap) (tk : Nat), SetG knd h' s.heap.objs.size (once [] kl) → (∀ b o, s.heap.get? b = some o → h'.get? b = some o) → Q (.ref s.heap.objs.size) { s with heap := h', toks := tk }) :
    wpAny (model P w) A (call (.type "set") [.ref l]) Q E s := by
  have hisz : items.size = kl.length := by rw [← Array.length_toList]; exact Paired.length hit
  obtain ⟨c, tl, hmro⟩ := F.called_set.mro
  have hmade := F.called_set.made
  have hsub := F.called_set.sub
  refine wpAny_call (codeAny_of_tree ?_)
  show wpAny _ _ (callAny (.type "set") _) _ _ _
  refine wpAny_pure ⟨Code.quiet_builtin _ (by decide +kernel), codeAny_builtin F.entry_type_call ?_⟩
  rw [Around.under_plain (weight_type_call_type "set" [.ref l] []) rfl]
  have h1 := F.called_set.notType
  have h2 := F.called_set.canCreate
  have hct := F.typeCall_set_1 (.ref l)
  repeat (any_goals (first | assumption | wp_step))
  let o0 : Obj := { cls := .type "set", dict := none, data := .set #[] 0 (.fresh 0 0 (!w.params.followText "set-order")) }
  refine codeAny_mono (code_set_led1 (.ref l) (E := E) (Q₁ := fun obj s₁ => obj = .ref s.heap.objs.size ∧ s₁ = { s with heap := s.heap.push o0 }) ⟨rfl, rfl⟩) fun r s₁ hr => ?_
  cases r with
  | error e => exact hr
  | ok fl =>
    cases fl with
    | ret obj =>
      obtain ⟨rfl, rfl⟩ := hr
      have hS : (s.heap.push o0).get? s.heap.objs.size = some o0 := Heap.get?_push_size _ rfl
      have hT : Shared.TypeIs { s with heap := s.heap.push o0 } (.ref s.heap.objs.size) "set" := ⟨_, hS, rfl⟩
      have hli := F.called_set.init.lookup
      have hbi := F.called_set.init.bind (.ref s.heap.objs.size)
      repeat (any_goals (first | assumption | wp_step))
      refine codeAny_mono (codeAny_call_builtin (R := wants (fun r s₂ => r = .none ∧ ∃ h' tk, s₂ = { s with heap := h', toks := tk } ∧ SetG knd h' s.heap.objs.size (once [] kl) ∧ (∀ b o, s.heap.get? b = some o → h'.get? b = some o)) E) F.called_set.init.plain F.entry_set_init (check_set_init_1 hT ?_)) fun r₂ s₂ hr₂ => ?_
      · obtain ⟨ol, hol, hcl, nl, hdl⟩ := hl
        obtain ⟨ocls, odict, odata, oslots⟩ := ol
        simp only at hcl hdl
        subst hcl; subst hdl
        have hol' : (s.heap.push o0).get? l = some { cls := .type "list", dict := odict, data := .seq items nl, slots := oslots } := Heap.get?_push_of_some _ hol
        have hsls := PySem.F.sub_list_set
        have hslf := PySem.F.sub_list_frozenset
        have hne : (Value.type "list" == Value.type "dict") = false := by decide
        have hl1 : (s.heap.push o0).IsList l items := ⟨_, hol', rfl, nl, rfl⟩
        unfold Builtin.«set.__init__» noKeywords Builtin.Frozenset.updateFrom
        generalize hPI : pyIter = PI
        wp_walk
        subst hPI
        refine wpAny_pyIter_list hl1 ?_
        refine wpAny_bind (wpAny_runValue ?_)
        have hlS : l < s.heap.objs.size := Heap.lt_size hol
        have hh3 : A.in1.in1.in1.handled = none := by simp [hh]
        have sz1 : (s.heap.push o0).objs.size = s.heap.objs.size + 1 := Heap.size_push ..
        have hneI : l ≠ (s.heap.push o0).objs.size := by rw [sz1]; exact Nat.ne_of_lt (Nat.lt_succ_of_lt hlS)
        have hSf : s.heap.objs.size ∉ [(s.heap.push o0).objs.size, l] := by
          rw [sz1]
          simp only [List.mem_cons, List.mem_singleton, List.not_mem_nil, or_false, not_or]
          exact ⟨Nat.ne_of_lt (Nat.lt_succ_self _), Nat.ne_of_gt hlS⟩
        have hval : ∀ (i : Nat) (v : Value), items[i]? = some v → ∃ k, kl[i]? = some k ∧ knd.is k v = true ∧ v.scannable = true := fun i v hv => LiI.paired_get hit (by rw [Array.getElem?_toList]; exact hv)
        refine setG_loop ((Walks.list hh3 _ l hneI items).toS) s.heap.objs.size hSf kl hisz hval (items.size - 0) 0 _ [] (by omega) (Nat.zero_le _) (by simp; omega) ⟨⟨_, Heap.get?_push_size _ rfl, rfl, rfl⟩, (hl1.push _)⟩ (setG_new (Heap.get?_push_of_some _ hS)) fun s' mv hS' => ?_
        obtain ⟨h', g2, d', tk', os'⟩ := s'
        obtain rfl : g2 = s.gens := mv.gens
        obtain rfl : d' = s.drawn := mv.drawn
        obtain rfl : os' = s.os := mv.os
        show wpAny _ _ _ _ _ _
        refine wpAny_pure ?_
        show wpAny _ _ (ret Value.none) _ _ _
        refine wpAny_pure ⟨rfl, h', tk', rfl, hS', fun b o e => ?_⟩
        have lb := Heap.lt_size e
        refine mv.heap b o ?_ (Heap.get?_push_of_some _ (Heap.get?_push_of_some _ e))
        simp only [List.mem_cons, List.mem_singleton, List.not_mem_nil, or_false, not_or]
        exact ⟨Nat.ne_of_lt lb, by rw [sz1]; exact Nat.ne_of_lt (Nat.lt_succ_of_lt lb)⟩
      · cases r₂ with
        | error e => exact hr₂
        | ok fl₂ =>
          cases fl₂ with
          | ret r =>
            obtain ⟨rfl, h', tk, rfl, hS', hk⟩ := hr₂
            have hfin := h h' tk hS' hk
            repeat (any_goals (first | assumption | wp_step))
          | _ => exact hr₂.elim
    | _ => exact hr.elim
end
end Sn
/-! set(l) and sorted(s) of texts, as rules -/
namespace Sn
open Evl (Ex)
open PySem PySem.Spec PyProof.Rows L2
/-- a set of texts -/
def SetX (P : Program) (w : World) (p : Addr) (ks : List Str) : HO := .ext fun h => SetG (PySem.strKind P w) h p ks
theorem setX_ok {P : Program} {w : World} {H : Hp} {h : Heap} {p : Addr} {ks : List Str} (R : SetG (PySem.strKind P w) h p ks) : ObjOk P w H h p (SetX P w p ks) := by
  refine ⟨R, ?_, fun h1 h2 r st => r.at fun o e => st o e⟩
  obtain ⟨_, o, _, _, _, _, _, ho, _⟩ := R
  exact ⟨o, ho⟩
section
variable {X : Cx}
theorem strs_pair {P : Program} {w : World} : ∀ {ws : List Str} {us : List Value}, Vals (ws.map V.str) us → Paired (fun v k => (PySem.strKind P w).is k v = true ∧ v.scannable = true) us ws
  | [], _, .nil => .nil
  | x :: r, _, .cons ru rt => by
    obtain ⟨t, rfl⟩ := ru
    exact .cons ⟨strKind_is _ _ _ _, rfl⟩ (strs_pair rt)
def rSetL (P : Program) (w : World) (K : PySem.W.Frag) : List V → Hp → VK → Prop := fun xs H Q => ∃ (l : Addr) (ws : List Str), xs = [.ref l] ∧ SqL K H l (ws.map V.str) ∧ ws.length ≤ 100 ∧ ∀ p, H p = none → Q (.ref p) (upd H p (SetX P w p (once [] ws)))
theorem call_setL (hc : X.calm = true) : CallR X (.type "set") (rSetL X.prog X.w X.K) := by
  intro pins s σ H xs us Q I r h
  obtain ⟨l, ws, rfl, hl, hn, q⟩ := h
  obtain rfl := Vals.ref1 r
  obtain ⟨its, rv, pl, hz⟩ := I.list hl
  refine setG_list ws (I.ok.hd hc) pl.isList (by simpa using strs_pair rv) (by unfold scanBound; omega) fun h' tk hS hk => ?_
  exact ⟨.ref s.heap.objs.size, _, I.laid (t' := tk) hk (Nat.le_refl _) (setX_ok hS), rfl, q _ (I.hok.fresh (Nat.le_refl _))⟩
def rSortX (P : Program) (w : World) : List V → Hp → VK → Prop := fun xs H Q => ∃ (a : Addr) (ks : List Str), xs = [.ref a] ∧ H a = some (SetX P w a ks) ∧ ks.length < 64 ∧ ∀ ys p, ys.Perm ks → sortedS ys = true → H p = none → Q (.ref p) (upd H p (.lst (ys.map V.str)))
theorem strs_of {P : Program} {w : World} : ∀ {es : List (Int × Value)} {ks : List Str}, Paired (fun (e : Int × Value) k => (PySem.strKind P w).is k e.2 = true) es ks → StrsAre (es.map (·.2)) ks
  | _, _, .nil => .nil
  | _, _, .cons h t => by
    obtain ⟨u, e⟩ := Value.isStrOf_shape h
    rw [List.map_cons, e]
    exact .cons _ _ (strs_of t)
theorem strs_perm {l l' : List Value} {ks : List Str} (p : l'.Perm l) (h : StrsAre l ks) : ∃ ks', ks'.Perm ks ∧ StrsAre l' ks' := by
  have to_ : ∀ {l : List Value} {ks : List Str}, StrsAre l ks → Paired (fun v k => ∃ t, v = Value.str k t) l ks := fun {l ks} h => by
    induction h with
    | nil => exact .nil
    | cons _ _ _ ih => exact .cons ⟨_, rfl⟩ ih
  have of_ : ∀ {l : List Value} {ks : List Str}, Paired (fun v k => ∃ t, v = Value.str k t) l ks → StrsAre l ks := fun {l ks} h => by
    induction h with
    | nil => exact .nil
    | cons h _ ih =>
      obtain ⟨t, rfl⟩ := h
      exact .cons _ _ ih
  obtain ⟨ks', q, h'⟩ := pair_perm p (to_ h)
  exact ⟨ks', q, of_ h'⟩
theorem call_sortX (hc : X.calm = true) : CallR X (.builtin "sorted") (rSortX X.prog X.w) := by
  intro pins s σ H xs us Q I r h
  obtain ⟨a, ks, rfl, ha, h64, q⟩ := h
  obtain rfl := Vals.ref1 r
  obtain ⟨nd, o, es, ep, t, ks', pm, ho, hex, hd, el, pr, hb, hf, hr, hl⟩ := (I.hok a _ ha).1
  refine Calls.call_function_entry kind_sorted plain_sorted entry_sorted (args_sorted1 _) ?_
  unfold Builtin.«sorted»
  refine wpAny_bind (m := checkCount "sorted" 1 1 _) (wpAny_pure ?_)
  refine wpAny_bind (collect_set (A := X.A.in1) (I.ok.hd hc) ⟨o, ho, hex.1, hd⟩ hf hb hr hl fun s1 vs k1 hz g1 o1 pv => ?_)
  obtain ⟨ks2, p2, hS⟩ := strs_perm pv (strs_of pr)
  have hlen : vs.length = ks.length := by rw [StrsAre.len_eq hS, p2.length_eq, pm.length_eq]
  have e1 : s1 = { s with heap := s1.heap, gens := s1.gens, drawn := s1.drawn, toks := s1.toks } := by
    cases s1
    cases s
    cases o1
    rfl
  have I1 : Inv X pins σ H s1 := by
    rw [e1]
    exact I.call (ch := []) (Un.kept k1) (I.hok.kept k1) (by rw [g1]; exact I.bare) (fun _ z => nomatch z)
  obtain ⟨hp, gg, dd, tk, os⟩ := s1
  refine wpAny_bind (wpAny_newList ?_ (by rw [hlen, sizeLine_eq]; omega))
  have hoL : (hp.push (seqObj "list" vs.toArray 0)).get? hp.objs.size = some (seqObj "list" vs.toArray 0) := Heap.get?_push_size _ rfl
  refine wpAny_bind (wpAny_holding (wpAny_call_entry slot_list_sort ⟨_, hoL, rfl⟩ entry_list_sort
    (list_sort_treeK strKind_oneLt (s := ⟨hp.push (seqObj "list" vs.toArray 0), gg, dd, tk, os⟩) hoL hS.keysOf (fun v₁ v₂ rest e => keyKind_strs (by rw [← e]; exact hS)) (by rw [hlen]; exact h64) fun st' hp' hs => ⟨_, rfl, ?_⟩) (args_list_sort _)))
  obtain ⟨ys, y1, y2, y3⟩ := sorted_out_str hS hp' hs
  obtain ⟨e', he'⟩ := sortedHeap_at (vs := vs) (out := (arrOf st').map (·.2)) hoL
  have yp : ys.Perm ks := y2.trans (p2.trans pm)
  have hlen2 : (ys.map V.str).length ≤ sizeLine := by rw [List.length_map, yp.length_eq, sizeLine_eq]; omega
  refine wpAny_pure ⟨_, rfl, .ref hp.objs.size, upd H hp.objs.size (.lst (ys.map V.str)), I1.laid (t' := tk) (fun b u e => ?_) (Nat.le_refl _)
    (show ObjOk X.prog X.w _ _ _ (.lst (ys.map V.str)) from ⟨hlen2, ((arrOf st').map (·.2)).toList, e', vals_of_strs y1, by rw [Array.toArray_toList]; exact he'⟩), rfl, q ys _ yp y3 (I1.hok.fresh (Nat.le_refl _))⟩
  have lb := Heap.lt_size e
  show (sortedHeap (hp.push (seqObj "list" vs.toArray 0)) hp.objs.size vs _).get? b = some u
  rw [sortedHeap_old (Nat.ne_of_lt lb) (by rw [Heap.size_push]; exact Nat.lt_succ_of_lt lb)]
  exact Heap.get?_push_of_some _ e
end
end Sn
namespace Sn
open Evl (Ex)
open PySem L2 LamX
abbrev s_l_joined_right : Stmt := top 40
abbrev s_l_bound_right : Stmt := top 41
abbrev s_law : Stmt := top 42
/-- all that the law's own defs lean on -/
structure Lw (P : Program) (w : World) (K : PySem.W.Frag) (mg : Str → Option Value) (base : Heap) (e : Nat → Addr) (CS CL : Addr) : Prop where
  B : Bt mg
  er : ErrF K mg e CS [2, 11]
  hd : ∃ g fd, Fun K "_law_heard" "_law_heard" s_l_heard g fd ∧ mg "_law_heard" = some (.ref g)
  L : LiftC K CL
  I : LiftI K mg CL
  M : MakL P w K mg base CL (e 2)
  eq : ∃ f fd, NeC K CL f ∧ FnOk P w K mg base CX0 4 f fd ["self", "other"] (spEq (SmL CL)) ∧ Binds K fd ["self", "other"] []
  sh : ∃ f fd, ShC K CL f ∧ FnOk P w K mg base (L2.CX P w) 6 f fd ["self", "other"] (spShift K CL (e 2)) ∧ Binds K fd ["self", "other"] []
  sT : ∀ T ∈ ["NoneType", "int", "dict", "tuple", "str"], ShT K CL T ∧ PySem.W.kitOne K (.type T) (.ref CL) = some false
  call : ∃ f fd, StX.CallO K CL f ∧ FnOk P w K mg base (L2.CX P w) 3 f fd ["self", "row"] (spCall K CL (e 11)) ∧ Binds K fd ["self", "row"] []
  draw : Cal P w K mg base CX0 1 "_law_draw" ["_law_state", "_law_size"] spDraw
  pick : Cal P w K mg base CX0 2 "_law_pick" ["_law_state", "_law_several"] (spPick K)
  words : Cal P w K mg base CX0 3 "_law_words" ["_law_state", "_law_many"] spWords
  row : Cal P w K mg base CX0 3 "_law_row" ["_law_state", "_law_kinds", "_law_most"] (spRow K)
  put : Cal P w K mg base CX0 1 "_law_put" ["_law_row_here", "_law_rows"] (spPut K)
  parts : Cal P w K mg base CX0 4 "_law_parts" ["_law_state", "_law_words_here", "_law_names", "_law_most"] (spParts K)
section
variable {X : Cx} {e : Nat → Addr} {CS CL : Addr}
/-- _law_heard(lambda: body) -/
theorem plam {T : List (Addr × Str)} {c Pt : Addr} {k : Nat} {params : Arguments} {body : Expr} {scope : Scope} {t : XK → TE} {p lpos pos : Pos} (W : Lw X.prog X.w X.K X.mg X.base e CS CL) (TB : TabB X.base X.mg c Pt) (hcode : X.env.code = .ref c)
    (hmT : (Pt, X.env.qual ++ "<lambda>") ∈ T) (hu : ∀ p ∈ T, p.1 = Pt → p.2 = X.env.qual ++ "<lambda>") (hr : Room (k + 2) X.A) (L : LamS X.env.scope scope)
    (hbody : ∀ (A : Around) (outer : List Env) (s : Shared) (H : Hp) (E : XK) (f c' : Addr), Room k (A.deeper (lamEnv X scope s.heap.objs.size f c')) → PE (lamCx X A outer s H E scope f c') body (t E))
    (hg : Gl X "_law_heard" := by rfl) (hdef : defaultsOf params X.env = ([], []) := by rfl)
    (hbind : ∀ (q : Str) (cl : List (Str × Addr)) (pm cv ctv : Value), bindArgs (PySem.W.kla_fn "<lambda>" q params body scope cl pm cv ctv) ⟨[], []⟩ = pure [] := by intros; rfl) :
    PE X (.Call (.Name "_law_heard" p) [.Lambda params body scope lpos] [] pos) (tLam T (THd e [2, 11]) t) := by
  obtain ⟨g, fd, F, hm⟩ := W.hd
  have hb := F.binds (ps := ["_law_work"]) (fun _ _ _ _ _ _ us hl => match us, hl with | [_], _ => rfl)
  obtain ⟨oc, od, kV, doc, pm, an, cdv, ct, osl, rfl, lk, hcd⟩ := F.ex
  exact pe_lamcall hg hm F.kp lk hcd hb sc_l_heard rfl (.inl rfl) (heard_gives W.er W.B) TB hcode hmT hu hr L hdef hbind hbody
end
section
variable {P : Program} {w : World} {K : PySem.W.Frag} {mg : Str → Option Value} {base : Heap} {e : Nat → Addr} {CS CL : Addr}
def goR (k : Nat) : List Str := List.replicate k "go"
theorem rep_go {H : Hp} {t : Addr} {k : Nat} {Q : VK} (ht : H t = some (.tup [.str "go"])) (h1 : 1 ≤ k) (h2 : k ≤ 30) (q : ∀ p H', Ex H H' → H' p = some (.tup ((goR k).map V.str)) → Q (.ref p) H') : rRepT K (.ref t) (.int (k : Int)) H Q ∨ rRepS K (.ref t) (.int (k : Int)) H Q := by
  have er : (List.replicate (k : Int).toNat [V.str "go"]).flatten = (goR k).map V.str := by
    rw [Int.toNat_natCast]
    unfold goR
    rw [List.map_replicate]
    clear h1 h2 q
    induction k with
    | zero => rfl
    | succ k ih => rw [List.replicate_succ, List.flatten_cons, ih, List.replicate_succ]; rfl
  by_cases h : k = 1
  · subst h
    exact .inr ⟨t, 1, _, rfl, rfl, SqT.of ht, .inr rfl, by decide, by decide, q t H exr ht⟩
  · refine .inl ⟨t, k, _, rfl, rfl, SqT.of ht, by simp, by omega, by omega, by simp, fun p np => ?_⟩
    rw [er]
    exact q p _ (exn np) upd_same
theorem disp_go {σ : L2.St} {H : Hp} {Q : VK} {tb : TE} {k : Nat} (htb : ∀ (H' : Hp) (Q' : VK), Q' (.int (k : Int)) H' → tb σ H' Q') (h1 : 1 ≤ k) (h2 : k ≤ 30) (q : ∀ (d t : Addr) (H' : Hp), H d = none → Ex H H' → Rws H' d [("go", goR k, t)] → Q (.ref d) H') :
    tDisp [(tC (.str "go"), tOp (fun x y H Q => rRepT K x y H Q ∨ rRepS K x y H Q) (tTup (tCons (tC (.str "go")) tNil)) tb)] σ H Q := by
  intro d nd
  refine ⟨by simp [sizeLine_eq], fun tg ng => htb _ _ (rep_go upd_same h1 h2 fun t H2 e2 ht => ?_)⟩
  have e1 : Ex (upd H d (.dK [])) H2 := ext (exn ng) e2
  refine ⟨e1 _ _ upd_same, [((Sum.inr ("go" : Str) : Key), .ref t)], rfl, by simp, ?_⟩
  rw [merge_nil (by simp)]
  refine q d t _ nd (ext (exn nd) (exs e1)) ⟨upd_same, fun x hx => ?_⟩
  rw [List.mem_singleton.mp hx]
  have td : t ≠ d := fun z => by
    have := e1 _ _ (upd_same (H := H) (a := d))
    rw [z, this] at ht
    cases ht
  show upd H2 d _ t = _
  rw [upd_ne td]
  exact ht
theorem asg2 {t1 t2 : TE} {g : TG} {u : TS} {D : Ends} {σ : L2.St} {H : Hp} (h : t1 σ H fun x H1 => t2 σ H1 fun y H2 => [x, y].length ≤ sizeLine ∧ ∀ p, H2 p = none → g (.ref p) σ (upd H2 p (.tup [x, y])) fun σ' H' => u D σ' H') : tSeq (tAsg (tTup (tCons t1 (tCons t2 tNil))) g) u D σ H := h
theorem disp_a {σ : L2.St} {H : Hp} {Q : VK} {x y : Str} (q : ∀ (d : Addr) (H' : Hp), H d = none → Ex H H' → Sts H' d [(x, y)] → Q (.ref d) H') : tDisp [(tC (.str x), tC (.str y))] σ H Q := by
  intro d nd
  refine ⟨upd_same, [((Sum.inr x : Key), .str y)], rfl, by simp, ?_⟩
  rw [merge_nil (by simp)]
  exact q d _ nd (ext (exn nd) (exs exr)) upd_same
theorem srt_one {x : Ent} {l : List Ent} (h : SrtE [x] l) : l = [x] := by
  have hl := h.pm.length_eq
  match l, hl with
  | [y], _ => rw [List.mem_singleton.mp (h.sub y List.mem_cons_self)]
theorem srt_oneS {x : Str × Str} {l : List (Str × Str)} (h : SrtS [x] l) : l = [x] := by
  have hl := h.pm.length_eq
  match l, hl with
  | [y], _ => rw [List.mem_singleton.mp (h.sub y List.mem_cons_self)]
theorem wd_go : Wd "go" := wd_of (by decide +kernel)
theorem wd_a : Wd "a" := wd_of (by decide +kernel)
theorem wd_b : Wd "b" := wd_of (by decide +kernel)
theorem goR_mem {k : Nat} {x : Str} (h : x ∈ goR k) : x = "go" := (List.mem_replicate.mp h).2
theorem ev_go {k : Nat} {t : Addr} (h : k ≤ 27) : evOk ([(("go" : Str), goR k, t)] : List Ent) = true := evOk_in (by simp) (by simp) fun e he => by
  rw [List.mem_singleton.mp he]
  exact ⟨wd_go, by simpa [goR] using h, fun x hx => by rw [goR_mem hx]; exact wd_go⟩
theorem putL_go {k1 k2 : Nat} {t : Addr} : putL (([(("go" : Str), goR k2, t)] : List Ent).map dat) (goR k1) = goR (k1 * k2) := by
  have hl : look (([(("go" : Str), goR k2, t)] : List Ent).map dat) ("go" : Str) = goR k2 := look_at (es := ([(("go" : Str), goR k2, t)] : List Ent)) (e := (("go" : Str), goR k2, t)) (by simp) List.mem_cons_self
  unfold putL
  induction k1 with
  | zero => simp [goR]
  | succ k ih =>
    show (List.replicate (k + 1) ("go" : Str)).flatMap _ = _
    rw [List.replicate_succ, List.flatMap_cons, hl]
    rw [show (List.replicate k ("go" : Str)).flatMap (look (([(("go" : Str), goR k2, t)] : List Ent).map dat)) = goR (k * k2) from ih]
    unfold goR
    rw [List.replicate_append_replicate]
    congr 1
    rw [Nat.succ_mul]
    omega
theorem _root_.Sn.Rws.exN {H H' : Hp} {p : Addr} {es : List Ent} (h : Rws H p es) (x : ExtN H H') : Rws H' p es := ⟨x _ _ h.1 (fun _ z => by cases z), fun e he => x _ _ (h.2 e he) (fun _ z => by cases z)⟩
theorem bnd_go {k : Nat} {t : Addr} (h : k ≤ 27) : ∀ e ∈ ([(("go" : Str), goR k, t)] : List Ent), e.1.cps.size ≤ 1000 ∧ e.2.1.length ≤ 10000000 ∧ ∀ x ∈ e.2.1, x.cps.size ≤ 1000 := fun e he => by
  rw [List.mem_singleton.mp he]
  refine ⟨show ("go" : Str).cps.size ≤ 1000 by decide +kernel, ?_, fun x hx => ?_⟩
  · show (goR k).length ≤ _
    unfold goR
    rw [List.length_replicate]
    omega
  · rw [goR_mem hx]
    decide +kernel
theorem bnd_a : ∀ e ∈ ([(("a" : Str), ("a" : Str))] : List (Str × Str)), e.1.cps.size ≤ 1000 ∧ e.2.cps.size ≤ 1000 := fun e he => by
  rw [List.mem_singleton.mp he]
  decide +kernel
theorem bnd_b : ∀ e ∈ ([(("a" : Str), ("b" : Str))] : List (Str × Str)), e.1.cps.size ≤ 1000 ∧ e.2.cps.size ≤ 1000 := fun e he => by
  rw [List.mem_singleton.mp he]
  decide +kernel
theorem st_aa : stOk ([(("a" : Str), ("a" : Str))] : List (Str × Str)) = true := stOk_in (by simp) (by simp) fun e he => by
  rw [List.mem_singleton.mp he]
  exact ⟨wd_a, wd_a⟩
theorem st_ab : stOk ([(("a" : Str), ("b" : Str))] : List (Str × Str)) = true := stOk_in (by simp) (by simp) fun e he => by
  rw [List.mem_singleton.mp he]
  exact ⟨wd_a, wd_b⟩
theorem mk_go {CN : Addr} {σ : L2.St} {H : Hp} {Q : VK} {E : XK} {j k : Nat} {x y : Str} {da ra : Addr} (hσ : σ[j]? = some (some (.ref da))) (R : Rws H da ([(("go" : Str), goR k, ra)] : List Ent)) (hk : k ≤ 27) (hb : ∀ e ∈ ([(x, y)] : List (Str × Str)), e.1.cps.size ≤ 1000 ∧ e.2.cps.size ≤ 1000) (hs : stOk ([(x, y)] : List (Str × Str)) = true)
    (q : ∀ y1 H', Ex H H' → LiftAt CL H' y1 ([(("go" : Str), goR k, ra)] : List Ent) [(x, y)] → Q (.ref y1) H') : tMake CL (spInit CL CN) [] E (tCons (tVar j) (tCons (tDisp [(tC (.str x), tC (.str y))]) tNil)) σ H Q := by
  refine ⟨_, hσ, disp_a fun s1 H13 _ f13 S1 => ?_⟩
  exact mkL (Q := Q) (E := E) (R.ex f13) S1 (by simp) (by simp) (bnd_go hk) hb (by simp) (by simp) (fun _ y1 H14 es1 ss1 _ f14 L1 z1 z2 => by
    obtain rfl := srt_one z1
    obtain rfl := srt_oneS z2
    exact q _ _ (ext f13 f14) L1) (fun no => absurd no (by rw [ev_go hk, hs]; decide))
theorem make2 {C : Addr} {sp : Sp} {E : XK} {t1 t2 : TE} {σ : L2.St} {H : Hp} {Q : VK} (h : t1 σ H fun x H1 => t2 σ H1 fun y H2 => ∀ a dx, H2 a = none → H2 dx = none → dx ≠ a → sp (.ref a :: ([x, y] ++ [])) (upd (upd H2 dx (.own a)) a (.ins C dx [])) (fun v H3 => v = .non ∧ Q (.ref a) H3) E) : tMake C sp [] E (tCons t1 (tCons t2 tNil)) σ H Q := h
theorem mk_go2 {CN : Addr} {σ : L2.St} {H : Hp} {Q : VK} {E : XK} {k : Nat} {tb : TE} {x y : Str} (htb : ∀ (H' : Hp) (Q' : VK), Q' (.int (k : Int)) H' → tb σ H' Q') (h1 : 1 ≤ k) (hk : k ≤ 27) (hb : ∀ e ∈ ([(x, y)] : List (Str × Str)), e.1.cps.size ≤ 1000 ∧ e.2.cps.size ≤ 1000) (hs : stOk ([(x, y)] : List (Str × Str)) = true)
    (q : ∀ y1 ra H', Ex H H' → LiftAt CL H' y1 ([(("go" : Str), goR k, ra)] : List Ent) [(x, y)] → Q (.ref y1) H') : tMake CL (spInit CL CN) [] E (tCons (tDisp [(tC (.str "go"), tOp (fun x y H Q => rRepT K x y H Q ∨ rRepS K x y H Q) (tTup (tCons (tC (.str "go")) tNil)) tb)]) (tCons (tDisp [(tC (.str x), tC (.str y))]) tNil)) σ H Q := by
  refine make2 ?_
  refine disp_go htb h1 (by omega) fun d ra H12 _ f12 R => ?_
  refine disp_a fun s1 H13 _ f13 S1 => ?_
  exact mkL (Q := Q) (E := E) (R.ex f13) S1 (by simp) (by simp) (bnd_go hk) hb (by simp) (by simp) (fun _ y1 H14 es1 ss1 _ f14 L1 z1 z2 => by
    obtain rfl := srt_one z1
    obtain rfl := srt_oneS z2
    exact q _ _ _ (ext f12 (ext f13 f14)) L1) (fun no => absurd no (by rw [ev_go hk, hs]; decide))
theorem tell2 {v : V} {t : TE} {σ : L2.St} {H : Hp} {Q : VK} (h : t σ H fun x H1 => [v, x].length ≤ sizeLine ∧ ∀ p, H1 p = none → Q (.ref p) (upd H1 p (.tup [v, x]))) : tTup (tCons (tC v) (tCons t tNil)) σ H Q := h
theorem long_go {k1 k2 : Nat} {t1 t2 : Addr} : (allIn ([(("go" : Str), goR k1, t1)] : List Ent) ([(("go" : Str), goR k2, t2)] : List Ent) && allSt ([(("a" : Str), ("a" : Str))] : List (Str × Str)) ([(("a" : Str), ("b" : Str))] : List (Str × Str)) && ([(("go" : Str), goR k1, t1)] : List Ent).all fun e => decide ((putL (([(("go" : Str), goR k2, t2)] : List Ent).map dat) e.2.1).length ≤ 27)) = decide (k1 * k2 ≤ 27) := by
  have h1 : allIn ([(("go" : Str), goR k1, t1)] : List Ent) ([(("go" : Str), goR k2, t2)] : List Ent) = true := by
    unfold allIn
    simp only [List.all_cons, List.all_nil, Bool.and_true, List.all_eq_true]
    intro x hx
    rw [goR_mem hx]
    simp
  have h2 : allSt ([(("a" : Str), ("a" : Str))] : List (Str × Str)) ([(("a" : Str), ("b" : Str))] : List (Str × Str)) = true := by
    unfold allSt
    simp
  rw [h1, h2, Bool.true_and, Bool.true_and]
  simp only [List.all_cons, List.all_nil, Bool.and_true]
  rw [putL_go]
  unfold goR
  rw [List.length_replicate]
theorem sc_l_bound_right : FnScope ["_law_state", "_law_low", "_law_high", "_law_rows", "_law_more", "_law_heard_here"] ["_law_state"] (defScope s_l_bound_right) := ⟨rfl, rfl, rfl, by decide +kernel, rfl, by decide +kernel, by decide +kernel⟩
def spBound (Ts : List (Addr × Str)) : Sp := fun vs H Q _ => ∃ (F : Hp) (sa la ca : Addr) (T : Nat), vs = [.ref sa] ∧ Ex F H ∧ F sa = none ∧ F la = none ∧ NoT F ∧ Dr H sa la ca T ∧ T ≤ 1000000 ∧ Tabs Ts H ∧ ∀ H', Ex F H' → Q (.bl true) H'
theorem ok_bound {f c Pt : Addr} {fd : FuncData} {Ts : List (Addr × Str)} (F : FunT K "_law_bound_right" "_law_bound_right" s_l_bound_right f fd c) (W : Lw P w K mg base e CS CL) (TB : TabB base mg c Pt) (hmT : (Pt, ("_law_bound_right.<locals>.<lambda>" : Str)) ∈ Ts) (hu : ∀ p ∈ Ts, p.1 = Pt → p.2 = ("_law_bound_right.<locals>.<lambda>" : Str)) :
    FnOk P w K mg base CX0 9 f fd ["_law_state"] (spBound Ts) := by
  refine F.ok sc_l_bound_right (fun vs H Q E h => ?_) (fun A outer s H vs Q E hr h => ?_)
  · obtain ⟨_, _, _, _, _, rfl, _⟩ := h
    rfl
  · obtain ⟨G, sa, la, ca, T, rfl, eG, n1, n2, n3, D, hT, hTs, k⟩ := h
    obtain ⟨fs, fds, cS, FS, bS⟩ := W.sh
    obtain ⟨fq, fdq, cQ, FQ, bQ⟩ := W.eq
    refine ⟨_, (pss_cons (ps_for PassesOwn.never rfl (pi_list (pe_lst (pa_cons (pe_tup (pa_cons pe_int (pa_cons pe_int pa_nil))) (pa_cons (pe_tup (pa_cons pe_int (pa_cons pe_int pa_nil))) (pa_cons (pe_tup (pa_cons pe_int (pa_cons pe_int pa_nil))) (pa_cons (pe_tup (pa_cons pe_int (pa_cons pe_int pa_nil))) pa_nil)))))) (pg_tup rfl (pgs_cons (pg_name (i := 1) sc_l_bound_right.nd rfl (.inl rfl)) (pgs_cons (pg_name (i := 2) sc_l_bound_right.nd rfl (.inl rfl)) pgs_nil)))
        (pss_cons (ps_asg (pe_tup (pa_cons (pe_disp (pps_cons pe_str (pe_op op_rep (pe_tup (pa_cons pe_str pa_nil)) (pv 1)) pps_nil) (by rfl) (by rfl) (fun z => by cases z) (by decide)) (pa_cons (pe_disp (pps_cons pe_str (pe_op op_rep (pe_tup (pa_cons pe_str pa_nil)) (pv 2)) pps_nil) (by rfl) (by rfl) (fun z => by cases z) (by decide)) pa_nil))) (pg_tup rfl (pgs_cons (pg_name (i := 3) sc_l_bound_right.nd rfl (.inr rfl)) (pgs_cons (pg_name (i := 4) sc_l_bound_right.nd rfl (.inr rfl)) pgs_nil))))
        (Evl.pss_cut (ps_if (pt_cmpR op_eq (pcall W.draw (hr.mono (by decide)) (pa_cons (pv 0) (pa_cons pe_int pa_nil))) pe_int (nomark _))
          (pss_one (ps_asg (pe_tup (pa_cons (pv 4) (pa_cons (pv 3) pa_nil))) (pg_tup rfl (pgs_cons (pg_name (i := 3) sc_l_bound_right.nd rfl (.inr rfl)) (pgs_cons (pg_name (i := 4) sc_l_bound_right.nd rfl (.inr rfl)) pgs_nil)))))
          pss_nil)
        (pss_cons (ps_set (i := 5) sc_l_bound_right.nd rfl (.inl rfl) (plam (k := 6) (T := Ts) (t := fun E => tOp (rSh K CL (spShift K CL (e 2)) E) (tMake CL (spInit CL (e 2)) [] E (tCons (tVar 3) (tCons (tDisp [(tC (.str "a"), tC (.str "a"))]) tNil))) (tMake CL (spInit CL (e 2)) [] E (tCons (tVar 4) (tCons (tDisp [(tC (.str "a"), tC (.str "b"))]) tNil)))) W TB rfl hmT hu hr (lamS_by (sc := defScope s_l_bound_right) (by decide +kernel)) (fun A' outer' s' H' E' f' c' hr' =>
          (pe_op (op_sh cS FS bS hr' (passes_call tkL fun _ _ _ _ h => h)) (pmkL W.M tkL (hr'.mono (by decide)) (pa_cons (pv 3) (pa_cons (pe_disp (pps_cons pe_str pe_str pps_nil) (by rfl) (by rfl) (fun z => by cases z) (by decide)) pa_nil))) (pmkL W.M tkL (hr'.mono (by decide)) (pa_cons (pv 4) (pa_cons (pe_disp (pps_cons pe_str pe_str pps_nil) (by rfl) (by rfl) (fun z => by cases z) (by decide)) pa_nil)))))))
        (pss_cons (ps_if (PW.pt (pw_and (pt_cmpR op_gt (pe_op op_mul (pv 1) (pv 2)) pe_int (nomark _)) (pw_and1 (pt_cmpR (op_neD hr.units) (pv 5) (pe_tup (pa_cons pe_str (pa_cons pe_non pa_nil))) (nomark _)))))
          (pss_one (ps_ret pe_bl))
          pss_nil)
        (pss_one (ps_if (PW.pt (pw_and (pt_cmpR op_eq (pe_op op_mul (pv 1) (pv 2)) pe_int (nomark _)) (pw_and1 (pt_cmpR (op_neTup (mon_flat.or (mon_ins smL_mon)) ((eqG_flat.mono (Nat.zero_le _)).or (eqG_ins (E := E0) FQ cQ.eq cQ.fn bQ pass0)) (hr.mono (by decide))) (pv 5) (pe_tup (pa_cons pe_str (pa_cons (pmkL W.M L2.takes0 (hr.mono (by decide)) (pa_cons (pe_disp (pps_cons pe_str (pe_op op_rep (pe_tup (pa_cons pe_str pa_nil)) pe_int) pps_nil) (by rfl) (by rfl) (fun z => by cases z) (by decide)) (pa_cons (pe_disp (pps_cons pe_str pe_str pps_nil) (by rfl) (by rfl) (fun z => by cases z) (by decide)) pa_nil))) pa_nil))) (nomark _)))))
          (pss_one (ps_ret pe_bl))
          pss_nil)))))))
      (pss_one (ps_ret pe_bl))), ?_⟩
    have two : (2 : Nat) ≤ sizeLine := by decide
    refine ⟨two, fun t1 m1 => ⟨two, fun t2 m2 => ⟨two, fun t3 m3 => ⟨two, fun t4 m4 => ⟨by show (4 : Nat) ≤ sizeLine; decide, fun p0 m5 => ?_⟩⟩⟩⟩⟩
    have x1 := exn (o := .tup [.int 1, .int 27]) m1
    have x2 := exn (o := .tup [.int 2, .int 14]) m2
    have x3 := exn (o := .tup [.int 3, .int 9]) m3
    have x4 := exn (o := .tup [.int 4, .int 7]) m4
    have x5 := exn (o := .lst [.ref t1, .ref t2, .ref t3, .ref t4]) m5
    generalize hH5 : upd _ p0 (.lst [.ref t1, .ref t2, .ref t3, .ref t4]) = H5 at x5 ⊢
    have g1 : H5 t1 = some (.tup [.int 1, .int 27]) := x5 _ _ (x4 _ _ (x3 _ _ (x2 _ _ upd_same)))
    have g2 : H5 t2 = some (.tup [.int 2, .int 14]) := x5 _ _ (x4 _ _ (x3 _ _ upd_same))
    have g3 : H5 t3 = some (.tup [.int 3, .int 9]) := x5 _ _ (x4 _ _ upd_same)
    have g4 : H5 t4 = some (.tup [.int 4, .int 7]) := x5 _ _ upd_same
    have g5 : H5 p0 = some (.lst [.ref t1, .ref t2, .ref t3, .ref t4]) := by rw [← hH5]; exact upd_same
    have xH : Ex H H5 := ext x1 (ext x2 (ext x3 (ext x4 x5)))
    have D5 := D.ext xH
    have a1 := D.sne m1
    have p5s : p0 ≠ sa := (D.ext (ext x1 (ext x2 (ext x3 x4)))).sne m5
    have p5l : p0 ≠ la := (D.ext (ext x1 (ext x2 (ext x3 x4)))).lne m5
    have nt : ∀ {H' : Hp} {t : Addr} {xs : List V}, Ex (cutT H5 sa la) H' → H5 t = some (.tup xs) → H' t = some (.tup xs) := fun e h => cutT_to e h (D5.tn h).1 (D5.tn h).2 (fun _ z => by cases z)
    refine ⟨p0, rfl, ⟨_, SqL.of g5⟩, for_list (xs := [.ref t1, .ref t2, .ref t3, .ref t4]) (fun i σ H' => ∃ y1 y2 y3 y4 y5, σ = [some (.ref sa), y1, y2, y3, y4, y5] ∧ Ex (cutT H5 sa la) H' ∧ Dr H' sa la ca (T + i) ∧ Tabs Ts H') ⟨_, _, _, _, _, rfl, cutT_ex, D5, hTs.ext xH⟩
      (fun i σ H' _ h => ?_) (fun i x σ H' hx h => ?_) (fun σ H' h => ?_)⟩
    · obtain ⟨_, _, _, _, _, rfl, e6, _⟩ := h
      exact SqL.of (cutT_to e6 g5 p5s p5l (fun _ z => by cases z))
    rotate_left
    · obtain ⟨_, _, _, _, _, rfl, e6, _⟩ := h
      exact k _ (ext (cutT_up (ext eG xH) n1 n2 n3) e6)
    · have hx' : ∃ (t : Addr) (lo hi : Nat), x = .ref t ∧ H5 t = some (.tup [.int (lo : Int), .int (hi : Int)]) ∧ 1 ≤ lo ∧ lo ≤ 27 ∧ 1 ≤ hi ∧ hi ≤ 27 ∧ 27 ≤ lo * hi ∧ lo * hi ≤ 1000 ∧ i ≤ 4 := by
        match i, hx with
        | 0, hx => exact ⟨t1, 1, 27, (Option.some.inj hx).symm, g1, by decide, by decide, by decide, by decide, by decide, by decide, by decide⟩
        | 1, hx => exact ⟨t2, 2, 14, (Option.some.inj hx).symm, g2, by decide, by decide, by decide, by decide, by decide, by decide, by decide⟩
        | 2, hx => exact ⟨t3, 3, 9, (Option.some.inj hx).symm, g3, by decide, by decide, by decide, by decide, by decide, by decide, by decide⟩
        | 3, hx => exact ⟨t4, 4, 7, (Option.some.inj hx).symm, g4, by decide, by decide, by decide, by decide, by decide, by decide, by decide⟩
        | (n + 4), hx => cases hx
      obtain ⟨t, lo, hi, rfl, gt, l1, l2, l3, l4, l5, l6, i4⟩ := hx'
      obtain ⟨_, _, _, _, _, rfl, e6, D6, T6⟩ := h
      refine ⟨t, _, rfl, SqT.of (nt e6 gt), rfl, _, _, rfl, _, _, rfl, rfl, ?_⟩
      refine asg2 ?_
      refine disp_go (K := K) (tb := tVar 1) (k := lo) (by exact fun _ _ q => ⟨_, rfl, q⟩) l1 (by omega) fun d1 r1 H7 nd1 e7 R1 => ?_
      refine disp_go (K := K) (tb := tVar 2) (k := hi) (by exact fun _ _ q => ⟨_, rfl, q⟩) l3 (by omega) fun d2 r2 H8 nd2 e8 R2 => ?_
      refine ⟨two, fun tp ntp => ?_⟩
      have e9 := exn (o := .tup [.ref d1, .ref d2]) ntp
      refine ⟨tp, _, rfl, SqT.of upd_same, rfl, _, _, rfl, _, _, rfl, rfl, ?_⟩
      have R1' := R1.ex (ext e8 e9)
      have R2' := R2.ex e9
      have eA := ext e7 (ext e8 e9)
      have D9 := D6.ext eA
      have T9 := T6.ext eA
      have ds1 := D6.sne nd1
      have dl1 := D6.lne nd1
      have ds2 := (D6.ext e7).sne nd2
      have dl2 := (D6.ext e7).lne nd2
      have e10 := ext e6 eA
      generalize upd H8 tp (.tup [.ref d1, .ref d2]) = H9 at *
      -- the two rows, in one order or the other
      refine ⟨fun σ H' => ∃ (k1 k2 : Nat) (da db ra rb : Addr) (y6 : Option V), σ = [some (.ref sa), some (.int (lo : Int)), some (.int (hi : Int)), some (.ref da), some (.ref db), y6] ∧ k1 * k2 = lo * hi ∧ 1 ≤ k1 ∧ k1 ≤ 27 ∧ 1 ≤ k2 ∧ k2 ≤ 27 ∧ Rws H' da [("go", goR k1, ra)] ∧ Rws H' db [("go", goR k2, rb)] ∧ Ex (cutT H5 sa la) H' ∧ Dr H' sa la ca (T + (i + 1)) ∧ Tabs Ts H', ?_, ?_⟩
      · refine ⟨_, rfl, cut H9 sa la, sa, la, ca, _, 2, rfl, cut_ex, cut_s, cut_l, D9, by omega, by decide, by decide, fun r H10 q1 q2 e11 D10 => ?_⟩
        have e12 : Ex (cutT H5 sa la) H10 := ext (cut_up e10 cutT_s cutT_l) e11
        have T10 := tabs_cut T9 D9 e11
        have S1 : Rws H10 d1 [("go", goR lo, r1)] := ⟨cut_to e11 R1'.1 ds1 dl1, fun x hx => cut_to e11 (R1'.2 x hx) (D9.tn (R1'.2 x hx)).1 (D9.tn (R1'.2 x hx)).2⟩
        have S2 : Rws H10 d2 [("go", goR hi, r2)] := ⟨cut_to e11 R2'.1 ds2 dl2, fun x hx => cut_to e11 (R2'.2 x hx) (D9.tn (R2'.2 x hx)).1 (D9.tn (R2'.2 x hx)).2⟩
        refine ⟨rfl, _, rfl, ?_⟩
        by_cases hz : V.int r = V.int 0
        · rw [decide_eq_true hz]
          refine iteT ?_
          refine ⟨_, rfl, _, rfl, two, fun tq ntq => ?_⟩
          have e13 := exn (o := .tup [.ref d2, .ref d1]) ntq
          refine ⟨tq, _, rfl, SqT.of upd_same, rfl, _, _, rfl, _, _, rfl, rfl, ?_⟩
          exact ⟨hi, lo, d2, d1, r2, r1, _, rfl, Nat.mul_comm _ _, l3, l4, l1, l2, S2.ex e13, S1.ex e13, ext e12 e13, (D10.ext e13), T10.ext e13⟩
        · rw [decide_eq_false hz]
          refine iteF ?_
          exact ⟨lo, hi, d1, d2, r1, r2, _, rfl, rfl, l1, l2, l3, l4, S1, S2, e12, D10, T10⟩
      · rintro σ H10 ⟨k1, k2, da, db, ra, rb, y6, rfl, hk, b1, b2, b3, b4, Ra, Rb, e11, D10, T10⟩
        refine ⟨T10, fun H11 xN T11 H0 Ech Kc x0 hE hK => ?_⟩
        have Ra1 := (Ra.exN xN).ex x0
        have Rb1 := (Rb.exN xN).ex x0
        have e12 := ext (exN e11 cutT_no xN) x0
        have D12 := (D10.exN xN).ext x0
        have T12 := T11.ext x0
        refine mk_go rfl Ra1 b2 bnd_a st_aa fun y1 H14 f14 L1 => ?_
        refine mk_go rfl (Rb1.ex f14) b4 bnd_b st_ab fun y2 H16 f16 L2 => ?_
        have L1' := L1.ex f16
        have f17 := ext f14 f16
        have e18 := ext e12 f17
        have D18 := D12.ext f17
        have T18 := T12.ext f17
        refine ⟨y1, _, _, rfl, L1'.choose_spec.choose_spec.choose_spec.1, .inl ⟨y2, _, _, rfl, L2.choose_spec.choose_spec.choose_spec.1⟩, y1, .ref y2, _, _, rfl, L1', by simp, by simp, ev_go b2, st_aa, .inr ⟨y2, _, _, rfl, L2, by simp, by simp, ev_go b4, st_ab, fun no H' f18 => ?_, fun yes y3 H' es3 ss3 _ f18 L3 pm1 pm2 q1 q2 o1 o2 => ⟨⟨y3, rfl⟩, ?_⟩⟩⟩
        · -- too long
          have hp : 27 < lo * hi := by
            rw [← hk]
            refine Nat.lt_of_not_le fun le => ?_
            rw [long_go, decide_eq_true le] at no
            cases no
          refine hE _ _ _ ⟨2, by simp, rfl, .inl ⟨by decide, rfl, fun p H'' f19 np hp' => ?_⟩⟩
          have c1 : (27 : Int) < (lo : Int) * (hi : Int) := by exact_mod_cast hp
          have c2 : ¬ V.int ((lo : Int) * (hi : Int)) = V.int 27 := fun z => by
            injection z with z
            omega
          refine ⟨_, rfl, _, rfl, (lo : Int), (hi : Int), rfl, rfl, .inl ⟨by omega, by omega⟩, _, 27, rfl, rfl, _, rfl, ?_⟩
          rw [decide_eq_true c1]
          refine iteT ?_
          refine ⟨_, rfl, two, fun tq ntq => ?_⟩
          have f20 := exn (o := .tup [.str "lift", .non]) ntq
          refine ⟨_, _, .tup (SqT.of (f20 _ _ hp')) (.cons (.str _) (.cons .non .nil)), .tup (SqT.of upd_same) (.cons (.str _) (.cons .non .nil)), by decide +kernel, by decide +kernel, _, rfl, ?_⟩
          rw [show PyData.eqv (.tuple [.str (errW 2), .none]) (.tuple [.str "lift", .none]) = true from by decide +kernel]
          refine iteF ?_
          refine ⟨_, rfl, _, rfl, (lo : Int), (hi : Int), rfl, rfl, .inl ⟨by omega, by omega⟩, rfl, _, rfl, ?_⟩
          rw [decide_eq_false c2]
          refine iteF (iteF ?_)
          have f21 := ext f18 (ext f19 f20)
          exact ⟨_, _, _, _, _, rfl, ext e18 f21, D18.ext f21, T18.ext f21⟩
        · have hp : lo * hi = 27 := by
            rw [← hk] at l5 ⊢
            rw [long_go] at yes
            have := of_decide_eq_true yes
            omega
          refine hK _ _ fun p np => ?_
          have f19 := exn (o := .tup [.str "told", .ref y3]) np
          have c0 : (lo : Int) * (hi : Int) = 27 := by exact_mod_cast hp
          have c1 : ¬ (27 : Int) < (lo : Int) * (hi : Int) := by omega
          have c2 : V.int ((lo : Int) * (hi : Int)) = V.int 27 := by rw [c0]
          refine ⟨_, rfl, _, rfl, (lo : Int), (hi : Int), rfl, rfl, .inl ⟨by omega, by omega⟩, _, 27, rfl, rfl, _, rfl, ?_⟩
          rw [decide_eq_false c1]
          refine iteF (iteF ?_)
          refine ⟨_, rfl, _, rfl, (lo : Int), (hi : Int), rfl, rfl, .inl ⟨by omega, by omega⟩, rfl, _, rfl, ?_⟩
          rw [decide_eq_true c2]
          refine iteT ?_
          refine ⟨_, rfl, ?_⟩
          refine tell2 ?_
          refine mk_go2 (K := K) (tb := tC (.int 27)) (k := 27) (fun _ _ q => q) (by decide) (by decide) bnd_b st_ab fun y4 r4 H20 f20 L4 => ?_
          refine ⟨two, fun tq ntq => ?_⟩
          have f21 := exn (o := .tup [.str "told", .ref y4]) ntq
          have f22 := ext f19 (ext f20 f21)
          have L3' := L3.ex f22
          have L4' := L4.ex f21
          have f23 := ext f18 f22
          refine ⟨⟨p, tq, _, _, rfl, rfl, SqT.of ((ext f20 f21) _ _ upd_same), SqT.of upd_same, Prs.cons (.inl ⟨rfl, rfl, by decide +kernel⟩) (Prs.cons (.inr ?_) Prs.nil)⟩, fun H' f24 => ⟨_, rfl, iteF ⟨_, _, _, _, _, rfl, ext e18 (ext f23 f24), (D18.ext f23).ext f24, (T18.ext f23).ext f24⟩⟩⟩
          refine ⟨y3, y4, _, _, _, _, rfl, rfl, L3'.choose_spec.choose_spec.choose_spec.1, L4'.choose_spec.choose_spec.choose_spec.1, _, _, _, _, L3', L4', ⟨?_, by simp, fun x hx => ?_⟩, ⟨?_, by simp, fun x hx => ?_⟩⟩
          · simpa using pm1.length_eq
          · obtain ⟨x0, h0, z1, z2⟩ := q1 x hx
            rw [List.mem_singleton.mp h0] at z1 z2
            refine ⟨_, List.mem_singleton.mpr rfl, z1, ?_⟩
            rw [z2]
            show goR 27 = putL _ (goR k1)
            rw [putL_go, hk, hp]
          · simpa using pm2.length_eq
          · obtain ⟨x0, h0, z1, z2⟩ := q2 x hx
            rw [List.mem_singleton.mp h0] at z1 z2
            have := List.mem_singleton.mp z2
            rw [List.mem_singleton]
            exact Prod.ext z1.symm (Prod.mk.inj this).2
end
end Sn
namespace Sn
open Evl (Ex)
open PySem L2 LamX
section
variable {P : Program} {w : World} {K : PySem.W.Frag} {mg : Str → Option Value} {base : Heap} {e : Nat → Addr} {CS CL : Addr}
abbrev sgm (sa d1 d2 pk pg pr ps lo hi : Addr) (y9 y10 y11 y12 y15 y17 : Option V) : L2.St := [some (.ref sa), some (.ref d1), some (.ref d2), some (.ref pk), some (.ref pg), some (.ref pr), some (.ref ps), some (.ref lo), some (.ref hi), y9, y10, y11, y12, none, none, y15, none, y17]
theorem ends_go {σ : L2.St} {H : Hp} {D : Ends} {d2 : Addr} {ss : List (Str × Str)} (h2 : σ[2]? = some (some (.ref d2))) (S : Sts H d2 ss) (hl : ss.length ≤ 5)
    (q : ∀ (p1 p2 : Addr) (ys : List Str) (H' : Hp), Ex H H' → H' p1 = some (.lst []) → H' p2 = some (.lst (ys.map V.str)) → (∀ x, x ∈ ys ↔ x ∈ ss.map (·.2)) → ys.length ≤ 5 → D.nx ((σ.set 10 (some (.ref p1))).set 11 (some (.ref p2))) H') :
    tPar 10 11 (tCons (tLst tNil) (tCons (tCB (rSortX P w) (tCons (tCB (rSetL P w K) (tCons (tVals (tVar 2)) tNil)) tNil)) tNil)) D σ H := by
  refine ⟨Nat.zero_le _, fun p1 n1 => ⟨_, h2, d2, _, rfl, (exn n1) _ _ S, fun p np => ?_⟩⟩
  have e1 := exn (o := .lst []) n1
  have em : (ss.map sKV).map (·.2) = (ss.map (·.2)).map V.str := by rw [List.map_map, List.map_map]; rfl
  rw [em] at *
  have e2 := exn (o := .lst ((ss.map (·.2)).map V.str)) np
  refine ⟨p, ss.map (·.2), rfl, SqL.of upd_same, by simp; omega, fun p' n' => ?_⟩
  have e3 := exn (o := SetX P w p' (once [] (ss.map (·.2)))) n'
  have ol := once_len (ss.map (·.2)) []
  simp only [List.length_nil, List.length_map, Nat.zero_add] at ol
  refine ⟨p', _, rfl, upd_same, by omega, fun ys p2 pm so n2 => ⟨_, _, rfl, ?_⟩⟩
  have e4 := exn (o := .lst (ys.map V.str)) n2
  refine q p1 p2 ys _ (ext e1 (ext e2 (ext e3 e4))) ((ext e2 (ext e3 e4)) _ _ upd_same) upd_same (fun x => ?_) (by rw [pm.length_eq]; omega)
  rw [pm.mem_iff, once_mem]
  simp
theorem words_go {sa d1 d2 pk pg pr ps lo hi p1 : Addr} {y9 y11 y12 y15 y17 : Option V} {H : Hp} {D : Ends} {es : List Ent} (R : Rws H d1 es) (hp : H p1 = some (.lst [])) (hl : es.length ≤ 5) (he : ∀ e ∈ es, e.2.1.length ≤ 27)
    (q : ∀ p' y12 H', Ex H H' → H' p' = some (.lst ((es.flatMap (·.2.1)).map V.str)) → D.nx (sgm sa d1 d2 pk pg pr ps lo hi y9 (some (.ref p')) y11 y12 y15 y17) H') :
    tFor (iList K (tVals (tVar 1))) (gName 12) (tAsg (tOp rCat (tVar 10) (tCB (fun xs H_1 Q => ∃ p ys, xs = [V.ref p] ∧ (SqL K H_1 p ys ∨ SqT K H_1 p ys) ∧ ∀ (l : Addr), H_1 l = none → Q (V.ref l) (upd H_1 l (HO.lst ys))) (tCons (tVar 12) tNil))) (gName 10)) D (sgm sa d1 d2 pk pg pr ps lo hi y9 (some (.ref p1)) y11 y12 y15 y17) H := by
  refine ⟨_, rfl, d1, _, rfl, R.1, fun p np => ?_⟩
  have em : (es.map rKV).map (·.2) = es.map fun e => V.ref e.2.2 := by rw [List.map_map]; rfl
  rw [em]
  have e1 := exn (o := .lst (es.map fun e => V.ref e.2.2)) np
  refine ⟨p, rfl, ⟨_, SqL.of upd_same⟩, for_list (xs := es.map fun e => V.ref e.2.2) (fun i σ H' => ∃ p' y12, σ = sgm sa d1 d2 pk pg pr ps lo hi y9 (some (.ref p')) y11 y12 y15 y17 ∧ Ex (upd H p (.lst (es.map fun e => V.ref e.2.2))) H' ∧ H' p' = some (.lst (((es.take i).flatMap (·.2.1)).map V.str))) ⟨p1, _, rfl, exr, e1 _ _ hp⟩ ?_ ?_ ?_⟩
  · rintro i σ H' _ ⟨_, _, _, e2, _⟩
    exact SqL.of (e2 _ _ upd_same)
  · rintro i x σ H' hx ⟨p', y12, rfl, e2, h2⟩
    rw [List.getElem?_map] at hx
    cases hz : es[i]? with
    | none => rw [hz] at hx; cases hx
    | some y =>
      rw [hz] at hx
      obtain rfl : V.ref y.2.2 = x := Option.some.inj hx
      have hi : i < es.length := (List.getElem?_eq_some_iff.mp hz).1
      have hy : y ∈ es := List.mem_of_getElem? hz
      have ht := (ext e1 e2) _ _ (R.2 y hy)
      refine ⟨_, rfl, _, rfl, y.2.2, _, rfl, .inr (SqT.of ht), fun l nl => ⟨p', l, _, _, rfl, rfl, (exn nl) _ _ h2, upd_same, ?_, fun p3 n3 => ⟨p3, _, rfl, ext e2 (ext (exn nl) (exn n3)), ?_⟩⟩⟩
      · have hb : ∀ (l : List Ent), (∀ e ∈ l, e.2.1.length ≤ 27) → (l.flatMap (·.2.1)).length ≤ 27 * l.length := fun l => by
          induction l with
          | nil => intro _; simp
          | cons a r ih =>
            intro h
            have h1 := h a List.mem_cons_self
            have h2 := ih fun e he => h e (List.mem_cons_of_mem _ he)
            simp only [List.flatMap_cons, List.length_append, List.length_cons]
            omega
        have h3 := hb (es.take i) fun e h => he e (List.mem_of_mem_take h)
        have h4 := he y hy
        have h5 : (es.take i).length ≤ 5 := by rw [List.length_take]; omega
        rw [List.length_map, List.length_map, sizeLine_eq]
        omega
      · rw [upd_same, ← List.map_append, List.take_add_one, hz, List.flatMap_append]
        simp
  · rintro σ H' ⟨p', y12, rfl, e2, h2⟩
    refine q p' y12 H' (ext e1 e2) ?_
    rw [List.length_map, List.take_length] at h2
    exact h2
theorem wipe_set {σ : L2.St} {n : Nat} {x : Option V} : wipe ((wipe σ [n]).set n x) [n] = wipe σ [n] := by
  unfold wipe
  simp [wipe]
/-- [x for x in ws if x not in ks] -/
theorem notin_go {σ : L2.St} {H : Hp} {Q : VK} {i j n : Nat} {a b : Addr} {ws ks : List Str} (hi : σ[i]? = some (some (.ref a))) (hj : (wipe σ [n])[j]? = some (some (.ref b))) (hn : n < (wipe σ [n]).length) (jn : j ≠ n) (ha : H a = some (.lst (ws.map V.str))) (hb : H b = some (.lst (ks.map V.str))) (hl : ws.length ≤ 1000)
    (q : ∀ p H', Ex H H' → H' p = some (.lst ((ws.filter fun x => !decide (x ∈ ks)).map V.str)) → Q (.ref p) H') :
    tLc (iList K (tVar i)) (gName n) (tTest (tOp (rIn K true) (tVar n) (tVar j))) (tVar n) [n] σ H Q := by
  refine ⟨_, hi, a, rfl, ⟨_, SqL.of ha⟩, fun D nD => ?_⟩
  refine lc_list (xs := ws.map V.str) (fun i H' => Ex H H' ∧ H' D = some (.lst (((ws.take i).filter fun x => !decide (x ∈ ks)).map V.str))) ⟨exn nD, upd_same⟩ (fun i H' _ h => SqL.of (h.1 _ _ ha)) ?_ ?_
  · rintro k x H' hx ⟨e1, h1⟩
    rw [List.getElem?_map] at hx
    cases hz : ws[k]? with
    | none => rw [hz] at hx; cases hx
    | some y =>
      rw [hz] at hx
      obtain rfl : V.str y = x := Option.some.inj hx
      have hk : k < ws.length := (List.getElem?_eq_some_iff.mp hz).1
      have g1 : ((wipe σ [n]).set n (some (.str y)))[n]? = some (some (.str y)) := by simp [List.getElem?_set, hn]
      have g2 : ((wipe σ [n]).set n (some (.str y)))[j]? = some (some (.ref b)) := by rw [List.getElem?_set_ne (fun z => jn z.symm)]; exact hj
      refine ⟨wipe_set, _, g1, _, g2, b, _, rfl, .inl (SqL.of (e1 _ _ hb)), rfl, flat_strs ks, _, rfl, ?_⟩
      rw [if_pos rfl, inV_str]
      cases hd : decide (y ∈ ks) with
      | false =>
        have ht : (ws.take (k + 1)).filter (fun x => !decide (x ∈ ks)) = (ws.take k).filter (fun x => !decide (x ∈ ks)) ++ [y] := by
          rw [List.take_add_one, hz, List.filter_append]
          simp only [Option.toList_some, List.filter_cons, List.filter_nil, hd, Bool.not_false, if_true]
        rw [ht]
        refine iteT ⟨_, g1, _, h1, ?_, exm e1 nD, ?_⟩
        · have := List.length_filter_le (fun x => !decide (x ∈ ks)) (ws.take k)
          rw [List.length_take] at this
          rw [List.length_map, sizeLine_eq]
          omega
        · rw [upd_same, List.map_append]
          rfl
      | true =>
        have ht : (ws.take (k + 1)).filter (fun x => !decide (x ∈ ks)) = (ws.take k).filter (fun x => !decide (x ∈ ks)) := by
          rw [List.take_add_one, hz, List.filter_append]
          simp only [Option.toList_some, List.filter_cons, List.filter_nil, hd, Bool.not_true, if_false, Bool.false_eq_true, List.append_nil]
        rw [ht]
        exact iteF ⟨e1, h1⟩
  · rintro H' ⟨e1, h1⟩
    rw [List.length_map, List.take_length] at h1
    exact q D H' e1 h1
end
end Sn
namespace Sn
open Evl (Ex)
open PySem L2 LamX
section
variable {P : Program} {w : World} {K : PySem.W.Frag} {mg : Str → Option Value} {base : Heap} {e : Nat → Addr} {CS CL : Addr}
/-- behind a lock -/
theorem unlockD {H H' : Hp} {d : Addr} {od : Obj} {u : HO} (hd : H d = some u) (x : Ex (upd H d (.frz od u)) H') : Ex H (upd H' d u) := fun a o h => by
  by_cases z : a = d
  · subst z
    rw [upd_same]
    rw [h] at hd
    exact hd.symm
  · rw [upd_ne z]
    exact x _ _ (by rw [upd_ne z]; exact h)
theorem tup_unlock {H' : Hp} {d t : Addr} {od : Obj} {u : HO} {xs : List V} (hd : H' d = some (.frz od u)) (h : H' t = some (.tup xs)) : upd H' d u t = some (.tup xs) := by
  rw [upd_ne (fun z => by rw [z, hd] at h; cases h)]
  exact h
/-- dict([(k, ..) for k in d]) -/
theorem dk_go {σ : L2.St} {H : Hp} {Q : VK} {i n : Nat} {d : Addr} {kvs : List (Key × V)} {ws : List Str} {te2 : TE} (hi : σ[i]? = some (some (.ref d))) (hd : H d = some (.dK kvs)) (hk : kvs.map (·.1) = ws.map Sum.inr) (hnd : ws.Nodup) (hn : n < (wipe σ [n]).length) (hl : ws.length ≤ 1000)
    (Rel : Str → V → Hp → Prop) (mono : ∀ k y H1 H2, Ex H1 H2 → Rel k y H1 → Rel k y H2) (ne : ∀ k y H1 p o, (∀ xs, H1 p ≠ some (.tup xs)) → Rel k y H1 → Rel k y (upd H1 p o))
    (hte : ∀ od k H', k ∈ ws → Ex (upd H d (.frz od (.dK kvs))) H' → ∀ Q' : VK, (∀ y H'', Ex H' H'' → Rel k y H'' → Q' y H'') → te2 ((wipe σ [n]).set n (some (.str k))) H' Q')
    (q : ∀ p H' (out : List (Key × V)), Ex H H' → H p = none → H' p = some (.dK out) → out.map (·.1) = ws.map Sum.inr → (∀ kv ∈ out, ∃ k ∈ ws, kv.1 = Sum.inr k ∧ Rel k kv.2 H') → Q (.ref p) H') :
    tCB (fun xs H_1 Q => ∃ a ps kvs, xs = [V.ref a] ∧ SqL K H_1 a (List.map V.ref ps) ∧ Paired (fun p kv => SqT K H_1 p [kV kv.fst, kv.snd]) ps kvs ∧ ∀ (p : Addr), H_1 p = none → Q (V.ref p) (upd H_1 p (HO.dK (mergeK [] kvs))))
      (tCons (tLockE (tLc (iKeys (tVar i)) (gName n) tYes (tTup (tCons (tVar n) (tCons te2 tNil))) [n])) tNil) σ H Q := by
  refine ⟨d, _, hd, trivial, fun od => ⟨_, hi, d, od, rfl, .inl ⟨kvs, upd_same, fun D nD => ?_⟩⟩⟩
  have dD : D ≠ d := fun z => by rw [z, upd_same] at nD; cases nD
  have hlen : kvs.length = ws.length := by have := congrArg List.length hk; simpa using this
  refine lc_it walk_keys (fun i H' => ∃ (ps : List Addr) (out : List (Key × V)), Ex (upd H d (.frz od (.dK kvs))) H' ∧ H' D = some (.lst (ps.map V.ref)) ∧ Paired (fun p kv => H' p = some (.tup [kV kv.1, kv.2])) ps out ∧ out.map (·.1) = (ws.take i).map Sum.inr ∧ (∀ kv ∈ out, ∃ k ∈ ws, kv.1 = Sum.inr k ∧ Rel k kv.2 H') ∧ ps.length = i) ⟨[], [], exn nD, upd_same, .nil, rfl, fun _ h => (nomatch h), rfl⟩ ?_ ?_ ?_
  · rintro j H' _ ⟨_, _, e1, _⟩
    exact e1 _ _ upd_same
  · rintro j x H' H'' hj ⟨ps, out, e1, h1, pr, ok, rel, pl⟩ ⟨rfl, k, v, hkv, rfl⟩
    have hw : ∃ kk, ws[j]? = some kk ∧ k = Sum.inr kk := by
      have h2 : (ws.map (Sum.inr : Str → Key))[j]? = some k := by rw [← hk, List.getElem?_map, hkv]; rfl
      rw [List.getElem?_map] at h2
      cases hz : ws[j]? with
      | none => rw [hz] at h2; cases h2
      | some kk => rw [hz] at h2; exact ⟨kk, rfl, (Option.some.inj h2).symm⟩
    obtain ⟨kk, hz, rfl⟩ := hw
    have hj' : j < ws.length := (List.getElem?_eq_some_iff.mp hz).1
    have g1 : ((wipe σ [n]).set n (some (.str kk)))[n]? = some (some (.str kk)) := by simp [List.getElem?_set, hn]
    refine ⟨wipe_set, _, g1, ?_⟩
    refine hte od kk H'' (List.mem_of_getElem? hz) e1 _ fun y H3 e3 r3 => ?_
    refine ⟨by show (2 : Nat) ≤ sizeLine; decide, fun t nt => ?_⟩
    have e4 := exn (o := .tup [.str kk, y]) nt
    have hD3 := e3 _ _ h1
    have hD4 := e4 _ _ hD3
    have tD : t ≠ D := (ne_of_none hD3 nt).symm
    have lD : ∀ xs, upd H3 t (.tup [.str kk, y]) D ≠ some (.tup xs) := fun xs z => by rw [hD4] at z; cases z
    refine ⟨_, hD4, ?_, ps ++ [t], out ++ [(Sum.inr kk, y)], ?_, ?_, ?_, ?_, ?_, ?_⟩
    · rw [List.length_map, pl, sizeLine_eq]; omega
    · exact exm (ext (ext e1 e3) e4) nD
    · rw [upd_same, List.map_append]; rfl
    · refine Paired.snoc (Paired.mapP pr fun p kv h => ?_) ?_
      · have h' := e4 _ _ (e3 _ _ h)
        rw [upd_ne (fun z => by rw [z] at h'; exact lD _ h')]
        exact h'
      · rw [upd_ne tD, upd_same]
        rfl
    · rw [List.map_append, ok, List.take_add_one, hz]
      simp
    · intro kv hkv
      rcases List.mem_append.mp hkv with h | h
      · obtain ⟨k, kw, z, r⟩ := rel kv h
        exact ⟨k, kw, z, ne _ _ _ _ _ lD (mono _ _ _ _ (ext e3 e4) r)⟩
      · rw [List.mem_singleton.mp h]
        exact ⟨kk, List.mem_of_getElem? hz, rfl, ne _ _ _ _ _ lD (mono _ _ _ _ e4 r3)⟩
    · rw [List.length_append, pl]; rfl
  · rintro H' ⟨ps, out, e1, h1, pr, ok, rel, pl⟩
    rw [hlen, List.take_length] at ok
    have hdd := e1 _ _ (upd_same (H := H) (a := d))
    refine ⟨hdd, D, ps, out, rfl, SqL.of (by rw [upd_ne dD]; exact h1), Paired.mapP pr fun p kv h => SqT.of (tup_unlock hdd h), fun p np => ?_⟩
    rw [merge_nil (by rw [ok]; exact nodup_inr hnd)]
    have e2 := unlockD hd e1
    have e3 := exn (o := .dK out) np
    refine q p _ out (ext e2 e3) (exb e2 np) upd_same ok fun kv hkv => ?_
    obtain ⟨k, kw, z, r⟩ := rel kv hkv
    exact ⟨k, kw, z, mono _ _ _ _ e3 (ne _ _ _ _ _ (fun xs z => by rw [hdd] at z; cases z) r)⟩
/-- [k for k in d if len(d[k]) > 27] -/
theorem long27_go {σ : L2.St} {H : Hp} {Q : VK} {i n : Nat} {d : Addr} {es : List Ent} (hi : σ[i]? = some (some (.ref d))) (hi' : (wipe σ [n])[i]? = some (some (.ref d))) (jn : i ≠ n) (R : Rws H d es) (hnd : (es.map (·.1)).Nodup) (hn : n < (wipe σ [n]).length) (hl : es.length ≤ 1000)
    (q : ∀ p H', Ex H H' → H' p = some (.lst (((es.filter fun e => decide (27 < e.2.1.length)).map (·.1)).map V.str)) → Q (.ref p) H') :
    tLockE (tLc (iKeys (tVar i)) (gName n) (tTest (tOp (rI0 fun i j => V.bl (decide (j < i))) (tCB (fun xs H Q => ∃ x n, xs = [x] ∧ LenV K x H n ∧ Q (V.int ((n : Nat) : Int)) H) (tCons (tDGet (tVar i) (tVar n)) tNil)) (tC (V.int 27)))) (tVar n) [n]) σ H Q := by
  refine ⟨d, _, R.1, trivial, fun od => ⟨_, hi, d, od, rfl, .inl ⟨_, upd_same, fun D nD => ?_⟩⟩⟩
  have dD : D ≠ d := fun z => by rw [z, upd_same] at nD; cases nD
  refine lc_it walk_keys (fun i H' => Ex (upd H d (.frz od (.dK (es.map rKV)))) H' ∧ H' D = some (.lst ((((es.take i).filter fun e => decide (27 < e.2.1.length)).map (·.1)).map V.str))) ⟨exn nD, upd_same⟩ (fun _ _ _ h => h.1 _ _ upd_same) ?_ ?_
  · rintro j x H' H'' hj ⟨e1, h1⟩ ⟨rfl, k, v, hkv, rfl⟩
    rw [List.getElem?_map] at hkv
    cases hz : es[j]? with
    | none => rw [hz] at hkv; cases hkv
    | some y =>
      rw [hz] at hkv
      obtain ⟨rfl, rfl⟩ := Prod.mk.inj (Option.some.inj hkv)
      have hy : y ∈ es := List.mem_of_getElem? hz
      have hj' : j < es.length := (List.getElem?_eq_some_iff.mp hz).1
      have g1 : ((wipe σ [n]).set n (some (.str y.1)))[n]? = some (some (.str y.1)) := by simp [List.getElem?_set, hn]
      have g2 : ((wipe σ [n]).set n (some (.str y.1)))[i]? = some (some (.ref d)) := by rw [List.getElem?_set_ne (fun z => jn z.symm)]; exact hi'
      have ht : H'' y.2.2 = some (.tup (y.2.1.map V.str)) := e1 _ _ (by rw [upd_ne (fun z => by have := R.2 y hy; rw [z, R.1] at this; cases this)]; exact R.2 y hy)
      refine ⟨wipe_set, _, g2, _, g1, d, _, rfl, dgr (.inr ⟨od, e1 _ _ upd_same⟩) (valR hnd hy), _, y.2.1.length, rfl, .inr ⟨_, SqT.of ht, by simp⟩, _, _, rfl, rfl, _, rfl, ?_⟩
      have hdc : decide ((27 : Int) < ((y.2.1.length : Nat) : Int)) = decide (27 < y.2.1.length) := by rw [decide_eq_decide]; omega
      rw [hdc]
      cases hd : decide (27 < y.2.1.length) with
      | true =>
        have ht : (es.take (j + 1)).filter (fun e => decide (27 < e.2.1.length)) = (es.take j).filter (fun e => decide (27 < e.2.1.length)) ++ [y] := by
          rw [List.take_add_one, hz, List.filter_append]
          simp only [Option.toList_some, List.filter_cons, List.filter_nil, hd, if_true]
        rw [ht]
        refine iteT ⟨_, g1, _, h1, ?_, exm e1 nD, ?_⟩
        · have := List.length_filter_le (fun e : Ent => decide (27 < e.2.1.length)) (es.take j)
          rw [List.length_take] at this
          rw [List.length_map, List.length_map, sizeLine_eq]
          omega
        · rw [upd_same, List.map_append, List.map_append]
          rfl
      | false =>
        have ht : (es.take (j + 1)).filter (fun e => decide (27 < e.2.1.length)) = (es.take j).filter (fun e => decide (27 < e.2.1.length)) := by
          rw [List.take_add_one, hz, List.filter_append]
          simp only [Option.toList_some, List.filter_cons, List.filter_nil, hd, if_false, Bool.false_eq_true, List.append_nil]
        rw [ht]
        exact iteF ⟨e1, h1⟩
  · rintro H' ⟨e1, h1⟩
    rw [List.length_map, List.take_length] at h1
    refine ⟨e1 _ _ upd_same, q D _ (unlockD R.1 e1) (by rw [upd_ne dD]; exact h1)⟩
end
end Sn
namespace Sn
open Evl (Ex)
open PySem L2 LamX
theorem nodup_eq {α : Type} {f : α → Str} {l : List α} (h : (l.map f).Nodup) {x y : α} (hx : x ∈ l) (hy : y ∈ l) (e : f x = f y) : x = y := by
  induction l with
  | nil => cases hx
  | cons a r ih =>
    rw [List.map_cons, List.nodup_cons] at h
    rcases List.mem_cons.mp hx with zx | hx'
    · rcases List.mem_cons.mp hy with zy | hy'
      · rw [zx, zy]
      · exact absurd (by rw [← zx, e]; exact List.mem_map_of_mem hy') h.1
    · rcases List.mem_cons.mp hy with zy | hy'
      · exact absurd (by rw [← zy, ← e]; exact List.mem_map_of_mem hx') h.1
      · exact ih h.2 hx' hy'
theorem ents_of {H : Hp} {es : List Ent} {f : List Str → List Str} (hn : (es.map (·.1)).Nodup) : ∀ (out : List (Key × V)) (es' : List Ent), (∀ e ∈ es', e ∈ es) → out.map (·.1) = (es'.map (·.1)).map Sum.inr →
    (∀ kv ∈ out, ∃ k ∈ es.map (·.1), kv.1 = Sum.inr k ∧ ∃ (e : Ent) (t : Addr), e ∈ es ∧ e.1 = k ∧ kv.2 = .ref t ∧ H t = some (.tup ((f e.2.1).map V.str))) →
    ∃ esL : List Ent, out = esL.map rKV ∧ (esL.map dat = es'.map fun e => (e.1, f e.2.1)) ∧ ∀ e ∈ esL, H e.2.2 = some (.tup (e.2.1.map V.str))
  | [], es', _, h, _ => by
    have : es' = [] := by
      cases es' with
      | nil => rfl
      | cons a r => simp at h
    subst this
    exact ⟨[], rfl, rfl, fun _ h => (nomatch h)⟩
  | kv :: r, es', hs, h, hr => by
    cases es' with
    | nil => simp at h
    | cons a s =>
      simp only [List.map_cons, List.cons.injEq] at h
      obtain ⟨k, _, z, e, t, he, hk, hv, ht⟩ := hr kv List.mem_cons_self
      have ha := hs a List.mem_cons_self
      have ea : e = a := nodup_eq hn he ha (by rw [hk]; exact Sum.inr.inj (z.symm.trans h.1))
      subst ea
      obtain ⟨esL, h1, h2, h3⟩ := ents_of hn r s (fun e he => hs e (List.mem_cons_of_mem _ he)) h.2 fun kv hkv => hr kv (List.mem_cons_of_mem _ hkv)
      refine ⟨(e.1, f e.2.1, t) :: esL, ?_, ?_, ?_⟩
      · rw [List.map_cons, h1]
        congr 1
        exact Prod.ext h.1 hv
      · rw [List.map_cons, h2, List.map_cons]
        rfl
      · intro x hx
        rcases List.mem_cons.mp hx with rfl | hx
        · exact ht
        · exact h3 x hx
theorem sts_of {ss : List (Str × Str)} {f : Str → Str} (hn : (ss.map (·.1)).Nodup) : ∀ (out : List (Key × V)) (ss' : List (Str × Str)), (∀ e ∈ ss', e ∈ ss) → out.map (·.1) = (ss'.map (·.1)).map Sum.inr →
    (∀ kv ∈ out, ∃ k ∈ ss.map (·.1), kv.1 = Sum.inr k ∧ ∃ e : Str × Str, e ∈ ss ∧ e.1 = k ∧ kv.2 = .str (f e.2)) → out = (ss'.map fun e => (e.1, f e.2)).map sKV
  | [], ss', _, h, _ => by
    have : ss' = [] := by
      cases ss' with
      | nil => rfl
      | cons a r => simp at h
    subst this
    rfl
  | kv :: r, ss', hs, h, hr => by
    cases ss' with
    | nil => simp at h
    | cons a s =>
      simp only [List.map_cons, List.cons.injEq] at h
      obtain ⟨k, _, z, e, he, hk, hv⟩ := hr kv List.mem_cons_self
      have ha := hs a List.mem_cons_self
      have ea : e = a := nodup_eq hn he ha (by rw [hk]; exact Sum.inr.inj (z.symm.trans h.1))
      subst ea
      have h1 := sts_of hn r s (fun e he => hs e (List.mem_cons_of_mem _ he)) h.2 fun kv hkv => hr kv (List.mem_cons_of_mem _ hkv)
      rw [List.map_cons, List.map_cons, ← h1]
      congr 1
      exact Prod.ext h.1 hv
theorem SrtE.mem {es es' : List Ent} (h : SrtE es es') (hn : (es.map (·.1)).Nodup) {x : Ent} : x ∈ es' ↔ x ∈ es := ⟨h.sub x, fun hx => by
  have : x.1 ∈ es'.map (·.1) := h.pm.mem_iff.mpr (List.mem_map_of_mem hx)
  obtain ⟨y, hy, e⟩ := List.mem_map.mp this
  rw [nodup_eq hn hx (h.sub y hy) e.symm]
  exact hy⟩
theorem SrtS.mem {es es' : List (Str × Str)} (h : SrtS es es') (hn : (es.map (·.1)).Nodup) {x : Str × Str} : x ∈ es' ↔ x ∈ es := ⟨h.sub x, fun hx => by
  have : x.1 ∈ es'.map (·.1) := h.pm.mem_iff.mpr (List.mem_map_of_mem hx)
  obtain ⟨y, hy, e⟩ := List.mem_map.mp this
  rw [nodup_eq hn hx (h.sub y hy) e.symm]
  exact hy⟩
theorem SrtE.nd {es es' : List Ent} (h : SrtE es es') (hn : (es.map (·.1)).Nodup) : (es'.map (·.1)).Nodup := h.pm.nodup_iff.mpr hn
theorem SrtS.nd {es es' : List (Str × Str)} (h : SrtS es es') (hn : (es.map (·.1)).Nodup) : (es'.map (·.1)).Nodup := h.pm.nodup_iff.mpr hn
theorem SrtE.look {es es' : List Ent} (h : SrtE es es') (hn : (es.map (·.1)).Nodup) {k : Str} (hk : k ∈ es.map (·.1)) : look (es'.map dat) k = look (es.map dat) k := by
  obtain ⟨x, hx, rfl⟩ := List.mem_map.mp hk
  rw [look_at hn hx, look_at (h.nd hn) ((h.mem hn).mpr hx)]
theorem putL_congr {d1 d2 : List (Str × List Str)} : ∀ {row : List Str}, (∀ k ∈ row, look d1 k = look d2 k) → putL d1 row = putL d2 row
  | [], _ => rfl
  | a :: r, h => by
    show look d1 a ++ putL d1 r = look d2 a ++ putL d2 r
    rw [h a List.mem_cons_self, putL_congr fun k hk => h k (List.mem_cons_of_mem _ hk)]
/-- that the second lift has all that the first one is lifted to, and no row is too long -/
def goes (es es2 : List Ent) (ss ss2 : List (Str × Str)) : Bool := allIn es es2 && allSt ss ss2 && es.all fun e => decide ((putL (es2.map dat) e.2.1).length ≤ 27)
theorem allIn_iff {es es2 : List Ent} : allIn es es2 = true ↔ ∀ e ∈ es, ∀ x ∈ e.2.1, x ∈ es2.map (·.1) := by
  unfold allIn
  simp only [List.all_eq_true, decide_eq_true_eq]
theorem allSt_iff {ss ss2 : List (Str × Str)} : allSt ss ss2 = true ↔ ∀ e ∈ ss, e.2 ∈ ss2.map (·.1) := by
  unfold allSt
  simp only [List.all_eq_true, decide_eq_true_eq]
theorem goes_iff {es es2 : List Ent} {ss ss2 : List (Str × Str)} : goes es es2 ss ss2 = true ↔ (∀ e ∈ es, ∀ x ∈ e.2.1, x ∈ es2.map (·.1)) ∧ (∀ e ∈ ss, e.2 ∈ ss2.map (·.1)) ∧ ∀ e ∈ es, (putL (es2.map dat) e.2.1).length ≤ 27 := by
  unfold goes
  rw [Bool.and_eq_true, Bool.and_eq_true, allIn_iff, allSt_iff]
  simp only [List.all_eq_true, decide_eq_true_eq, and_assoc]
theorem goes_srt {es es' es2 es2' : List Ent} {ss ss' ss2 ss2' : List (Str × Str)} (h1 : SrtE es es') (h2 : SrtE es2 es2') (h3 : SrtS ss ss') (h4 : SrtS ss2 ss2') (n1 : (es.map (·.1)).Nodup) (n2 : (es2.map (·.1)).Nodup) (n3 : (ss.map (·.1)).Nodup) (n4 : (ss2.map (·.1)).Nodup) : goes es' es2' ss' ss2' = goes es es2 ss ss2 := by
  rw [Bool.eq_iff_iff, goes_iff, goes_iff]
  constructor
  · rintro ⟨a, b, c⟩
    have a' : ∀ e ∈ es, ∀ x ∈ e.2.1, x ∈ es2.map (·.1) := fun e he x hx => h2.pm.mem_iff.mp (a e ((h1.mem n1).mpr he) x hx)
    refine ⟨a', fun e he => h4.pm.mem_iff.mp (b e ((h3.mem n3).mpr he)), fun e he => ?_⟩
    rw [← putL_congr fun k hk => h2.look n2 (a' e he k hk)]
    exact c e ((h1.mem n1).mpr he)
  · rintro ⟨a, b, c⟩
    refine ⟨fun e he x hx => h2.pm.mem_iff.mpr (a e (h1.sub e he) x hx), fun e he => h4.pm.mem_iff.mpr (b e (h3.sub e he)), fun e he => ?_⟩
    rw [putL_congr fun k hk => h2.look n2 (a e (h1.sub e he) k hk)]
    exact c e (h1.sub e he)
end Sn
namespace Sn
open Evl (Ex)
open PySem L2 LamX
section
variable {P : Program} {w : World} {K : PySem.W.Frag} {mg : Str → Option Value} {base : Heap} {e : Nat → Addr} {CS CL CN : Addr}
theorem u_cat {t1 t2 t3 : TE} {r1 r2 : R2} {u v : TS} {D : Ends} {σ : L2.St} {H : Hp} (h : t1 σ H fun x H1 => t2 σ H1 fun y H2 => r2 x y H2 fun z H3 => t3 σ H3 fun z' H4 => r1 z z' H4 fun b H5 => ∃ k, b = .bl k ∧ if k = true then u D σ H5 else v D σ H5) : tIfS (tTest (tOp r1 (tOp r2 t1 t2) t3)) u v D σ H := h
theorem u_if {t1 t3 : TE} {r1 : R2} {u v : TS} {D : Ends} {σ : L2.St} {H : Hp} (h : t1 σ H fun z H3 => t3 σ H3 fun z' H4 => r1 z z' H4 fun b H5 => ∃ k, b = .bl k ∧ if k = true then u D σ H5 else v D σ H5) : tIfS (tTest (tOp r1 t1 t3)) u v D σ H := h
theorem u_asg {te : TE} {g : TG} {u : TS} {D : Ends} {σ : L2.St} {H : Hp} (h : te σ H fun x H1 => g x σ H1 (u D)) : tSeq (tAsg te g) u D σ H := h
theorem u_asg1 {te : TE} {g : TG} {D : Ends} {σ : L2.St} {H : Hp} (h : te σ H fun x H1 => g x σ H1 D.nx) : tAsg te g D σ H := h
theorem wd_size {x : Str} (h : Wd x) : x.cps.size ≤ 1000 := by
  have := h.hi
  rw [Array.length_toList] at this
  omega
theorem evB {es : List Ent} (h : evOk es = true) : ∀ e ∈ es, e.1.cps.size ≤ 1000 ∧ e.2.1.length ≤ 10000000 ∧ ∀ x ∈ e.2.1, x.cps.size ≤ 1000 := fun e he => by
  obtain ⟨_, _, h3⟩ := evOk_out h
  obtain ⟨a, b, c⟩ := h3 e he
  exact ⟨wd_size a, by omega, fun x hx => wd_size (c x hx)⟩
theorem stB {ss : List (Str × Str)} (h : stOk ss = true) : ∀ e ∈ ss, e.1.cps.size ≤ 1000 ∧ e.2.cps.size ≤ 1000 := fun e he => by
  obtain ⟨_, _, h3⟩ := stOk_out h
  obtain ⟨a, b⟩ := h3 e he
  exact ⟨wd_size a, wd_size b⟩
abbrev tPairs : TA → TE := fun t => tCB (fun xs H_1 Q => ∃ a ps kvs, xs = [V.ref a] ∧ SqL K H_1 a (List.map V.ref ps) ∧ Paired (fun p kv => SqT K H_1 p [kV kv.fst, kv.snd]) ps kvs ∧ ∀ (p : Addr), H_1 p = none → Q (V.ref p) (upd H_1 p (HO.dK (mergeK [] kvs)))) t
/-- longer -/
theorem longer_go {sa d1 d2 pk pg pr ps lo hi : Addr} {y9 y10 y11 y12 y15 y17 : Option V} {H : Hp} {Q : VK} {es es2 : List Ent} (R : Rws H d1 es) (R2 : Rws H pr es2) (prd : pr ≠ d1) (en : (es.map (·.1)).Nodup) (en2 : (es2.map (·.1)).Nodup) (eok : evOk es = true) (eok2 : evOk es2 = true) (hin : allIn es es2 = true)
    (q : ∀ p H' esL, Ex H H' → H p = none → Rws H' p esL → (esL.map dat = es.map fun e => (e.1, putL (es2.map dat) e.2.1)) → Q (.ref p) H') :
    tPairs (K := K) (tCons (tLockE (tLc (iKeys (tVar 1)) (gName 13) tYes (tTup (tCons (tVar 13) (tCons (tCall (spPut K) [] E0 (tCons (tDGet (tVar 1) (tVar 13)) (tCons (tVar 5) tNil))) tNil))) [13])) tNil) (sgm sa d1 d2 pk pg pr ps lo hi y9 y10 y11 y12 y15 y17) H Q := by
  obtain ⟨l1, l2, l3⟩ := evOk_out eok
  obtain ⟨m1, m2, m3⟩ := evOk_out eok2
  refine dk_go (i := 1) (n := 13) (d := d1) (kvs := es.map rKV) (ws := es.map (·.1)) rfl R.1 (keysR es) en (by show (13 : Nat) < 18; decide) (by simp; omega)
    (fun k y H => ∃ (e : Ent) (t : Addr), e ∈ es ∧ e.1 = k ∧ y = .ref t ∧ H t = some (.tup ((putL (es2.map dat) e.2.1).map V.str))) (fun k y H1 H2 x h => ?_) (fun k y H1 p o np h => ?_) (fun od k H' hk x Q' hq => ?_) (fun p H' out x np hp ok rel => ?_)
  · obtain ⟨e, t, a, b, c, d⟩ := h
    exact ⟨e, t, a, b, c, x _ _ d⟩
  · obtain ⟨e, t, a, b, c, d⟩ := h
    exact ⟨e, t, a, b, c, by rw [upd_ne (fun z => by rw [z] at d; exact np _ d)]; exact d⟩
  · obtain ⟨e, he, rfl⟩ := List.mem_map.mp hk
    have tn : ∀ {t : Addr} {xs : List V}, H t = some (.tup xs) → H' t = some (.tup xs) := fun {t xs} h => x _ _ (by rw [upd_ne (fun z => by rw [z, R.1] at h; cases h)]; exact h)
    refine ⟨_, rfl, _, rfl, d1, _, rfl, dgr (.inr ⟨od, x _ _ upd_same⟩) (valR en he), _, rfl, e.2.2, pr, e.2.1, es2, rfl, SqT.of (tn (R.2 e he)), ⟨x _ _ (by rw [upd_ne prd]; exact R2.1), fun e he => tn (R2.2 e he)⟩, en2, allIn_iff.mp hin e he, fun e he => by have := (m3 e he).2.1; omega, by have := (l3 e he).2.1; omega, fun t H'' x2 ht => ?_⟩
    exact hq _ _ x2 ⟨e, t, he, rfl, rfl, ht⟩
  · obtain ⟨esL, h1, h2, h3⟩ := ents_of (f := putL (es2.map dat)) en out es (fun _ h => h) ok rel
    exact q p H' esL x np ⟨by rw [← h1]; exact hp, h3⟩ h2
theorem dues_go {sa d1 d2 pk pg pr ps lo hi : Addr} {y9 y10 y11 y12 y15 y17 : Option V} {H : Hp} {Q : VK} {ss ss2 : List (Str × Str)} (S : Sts H d2 ss) (S2 : Sts H ps ss2) (sn : (ss.map (·.1)).Nodup) (sn2 : (ss2.map (·.1)).Nodup) (sok : stOk ss = true) (hin : allSt ss ss2 = true)
    (q : ∀ p H', Ex H H' → H p = none → Sts H' p (ss.map fun e => (e.1, look2 ss2 e.2)) → Q (.ref p) H') :
    tPairs (K := K) (tCons (tLockE (tLc (iKeys (tVar 2)) (gName 16) tYes (tTup (tCons (tVar 16) (tCons (tDGet (tVar 6) (tDGet (tVar 2) (tVar 16))) tNil))) [16])) tNil) (sgm sa d1 d2 pk pg pr ps lo hi y9 y10 y11 y12 y15 y17) H Q := by
  obtain ⟨l1, l2, l3⟩ := stOk_out sok
  refine dk_go (i := 2) (n := 16) (d := d2) (kvs := ss.map sKV) (ws := ss.map (·.1)) rfl S (keysS ss) sn (by show (16 : Nat) < 18; decide) (by simp; omega)
    (fun k y H => ∃ e : Str × Str, e ∈ ss ∧ e.1 = k ∧ y = .str (look2 ss2 e.2)) (fun k y H1 H2 x h => h) (fun k y H1 p o np h => h) (fun od k H' hk x Q' hq => ?_) (fun p H' out x np hp ok rel => ?_)
  · obtain ⟨e, he, rfl⟩ := List.mem_map.mp hk
    obtain ⟨e2, he2, z⟩ := List.mem_map.mp (allSt_iff.mp hin e he)
    refine ⟨_, rfl, _, rfl, _, rfl, d2, _, rfl, dgr (.inr ⟨od, x _ _ upd_same⟩) (valS sn he), ps, _, rfl, dgr (rd_ex (rd_lock S2 S) x) (by rw [← z]; exact valS sn2 he2), ?_⟩
    exact hq _ _ exr ⟨e, he, rfl, by rw [← z, look2_at sn2 he2]⟩
  · have := sts_of (f := look2 ss2) sn out ss (fun _ h => h) ok rel
    exact q p H' x np (by unfold Sts; rw [← this]; exact hp)
/-- the lift that is due, if any -/
theorem due_go {sa d1 d2 pk pg pr ps lo hi p10 p11 : Addr} {y12 y15 y17 : Option V} {H : Hp} {D : Ends} {es es2 : List Ent} {ss ss2 : List (Str × Str)} {ks gs ys : List Str}
    (R : Rws H d1 es) (R2 : Rws H pr es2) (prd : pr ≠ d1) (en : (es.map (·.1)).Nodup) (en2 : (es2.map (·.1)).Nodup) (eok : evOk es = true) (eok2 : evOk es2 = true)
    (S : Sts H d2 ss) (S2 : Sts H ps ss2) (sn : (ss.map (·.1)).Nodup) (sn2 : (ss2.map (·.1)).Nodup) (sok : stOk ss = true) (sok2 : stOk ss2 = true)
    (hk : H pk = some (.lst (ks.map V.str))) (hg : H pg = some (.lst (gs.map V.str))) (h10 : H p10 = some (.lst ((es.flatMap (·.2.1)).map V.str))) (h11 : H p11 = some (.lst (ys.map V.str)))
    (kk : ∀ x, x ∈ es2.map (·.1) ↔ x ∈ ks) (gg : ∀ x, x ∈ ss2.map (·.1) ↔ x ∈ gs) (yy : ∀ x, x ∈ ys ↔ x ∈ ss.map (·.2)) (yl : ys.length ≤ 5)
    (k1 : goes es es2 ss ss2 = false → ∀ y15 H', Ex H H' → D.nx (sgm sa d1 d2 pk pg pr ps lo hi (some .non) (some (.ref p10)) (some (.ref p11)) y12 y15 y17) H')
    (k2 : goes es es2 ss ss2 = true → ∀ y15 du H' esL es4 ss4, Ex H H' → LiftAt CL H' du es4 ss4 → (esL.map dat = es.map fun e => (e.1, putL (es2.map dat) e.2.1)) → SrtE esL es4 → SrtS (ss.map fun e => (e.1, look2 ss2 e.2)) ss4 → D.nx (sgm sa d1 d2 pk pg pr ps lo hi (some (.ref du)) (some (.ref p10)) (some (.ref p11)) y12 y15 y17) H') :
    tIfS (tTest (tOp (rEqD K) (tOp rCat (tLc (iList K (tVar 10)) (gName 13) (tTest (tOp (rIn K true) (tVar 13) (tVar 3))) (tVar 13) [13]) (tLc (iList K (tVar 11)) (gName 14) (tTest (tOp (rIn K true) (tVar 14) (tVar 4))) (tVar 14) [14])) (tLst tNil)))
      (tSeq (tAsg (tPairs (K := K) (tCons (tLockE (tLc (iKeys (tVar 1)) (gName 13) tYes (tTup (tCons (tVar 13) (tCons (tCall (spPut K) [] E0 (tCons (tDGet (tVar 1) (tVar 13)) (tCons (tVar 5) tNil))) tNil))) [13])) tNil)) (gName 15))
        (tIfS (tTest (tOp (rEqD K) (tLockE (tLc (iKeys (tVar 15)) (gName 13) (tTest (tOp (rI0 fun i j => V.bl (decide (j < i))) (tCB (fun xs H Q => ∃ x n, xs = [x] ∧ LenV K x H n ∧ Q (V.int ((n : Nat) : Int)) H) (tCons (tDGet (tVar 15) (tVar 13)) tNil)) (tC (V.int 27)))) (tVar 13) [13])) (tLst tNil)))
          (tAsg (tMake CL (spInit CL CN) [] (fun cls d H' => False) (tCons (tVar 15) (tCons (tPairs (K := K) (tCons (tLockE (tLc (iKeys (tVar 2)) (gName 16) tYes (tTup (tCons (tVar 16) (tCons (tDGet (tVar 6) (tDGet (tVar 2) (tVar 16))) tNil))) [16])) tNil)) tNil))) (gName 9)) tNext)) tNext D
      (sgm sa d1 d2 pk pg pr ps lo hi (some .non) (some (.ref p10)) (some (.ref p11)) y12 y15 y17) H := by
  obtain ⟨l1, l2, l3⟩ := evOk_out eok
  obtain ⟨m1, m2, m3⟩ := stOk_out sok
  obtain ⟨i1, i2, i3⟩ := evOk_out eok2
  obtain ⟨j1, j2, j3⟩ := stOk_out sok2
  have fl : (es.flatMap (·.2.1)).length ≤ 108 := by
    have hb : ∀ (l : List Ent), (∀ e ∈ l, e.2.1.length ≤ 27) → (l.flatMap (·.2.1)).length ≤ 27 * l.length := fun l => by
      induction l with
      | nil => intro _; simp
      | cons a r ih =>
        intro h
        have h1 := h a List.mem_cons_self
        have h2 := ih fun e he => h e (List.mem_cons_of_mem _ he)
        simp only [List.flatMap_cons, List.length_append, List.length_cons]
        omega
    have := hb es fun e he => (l3 e he).2.1
    omega
  refine u_cat ?_
  refine notin_go (K := K) (σ := sgm sa d1 d2 pk pg pr ps lo hi (some .non) (some (.ref p10)) (some (.ref p11)) y12 y15 y17) (i := 10) (j := 3) (n := 13) rfl rfl (by show (13 : Nat) < 18; decide) (by decide) h10 hk (by omega) fun p1 H1 x1 g1 => ?_
  refine notin_go (K := K) (σ := sgm sa d1 d2 pk pg pr ps lo hi (some .non) (some (.ref p10)) (some (.ref p11)) y12 y15 y17) (i := 11) (j := 4) (n := 14) rfl rfl (by show (14 : Nat) < 18; decide) (by decide) (x1 _ _ h11) (x1 _ _ hg) (by omega) fun p2 H2 x2 g2 => ?_
  have f1 := List.length_filter_le (fun x => !decide (x ∈ ks)) (es.flatMap (·.2.1))
  have f2 := List.length_filter_le (fun x => !decide (x ∈ gs)) ys
  refine ⟨p1, p2, _, _, rfl, rfl, x2 _ _ g1, g2, ?_, fun p3 n3 => ?_⟩
  · rw [List.length_map, List.length_map, sizeLine_eq]
    omega
  have x3 := exn (o := .lst (((es.flatMap (·.2.1)).filter fun x => !decide (x ∈ ks)).map V.str ++ (ys.filter fun x => !decide (x ∈ gs)).map V.str)) n3
  refine ⟨Nat.zero_le _, fun p4 n4 => ?_⟩
  have x4 := exn (o := .lst []) n4
  have X4 := ext x1 (ext x2 (ext x3 x4))
  have h3 := x4 _ _ (upd_same (H := H2) (a := p3) (o := .lst (((es.flatMap (·.2.1)).filter fun x => !decide (x ∈ ks)).map V.str ++ (ys.filter fun x => !decide (x ∈ gs)).map V.str)))
  have h4 := upd_same (H := upd H2 p3 (.lst (((es.flatMap (·.2.1)).filter fun x => !decide (x ∈ ks)).map V.str ++ (ys.filter fun x => !decide (x ∈ gs)).map V.str))) (a := p4) (o := .lst [])
  rw [← List.map_append] at h3 h4 X4 x4 n4 ⊢
  have wdl : ∀ x ∈ (es.flatMap (·.2.1)).filter (fun x => !decide (x ∈ ks)) ++ ys.filter (fun x => !decide (x ∈ gs)), Wd x := fun x hx => by
    rcases List.mem_append.mp hx with h | h
    · obtain ⟨e, he, hx⟩ := List.mem_flatMap.mp ((List.mem_filter.mp h).1)
      exact (l3 e he).2.2 x hx
    · obtain ⟨e, he, rfl⟩ := List.mem_map.mp ((yy x).mp ((List.mem_filter.mp h).1))
      exact (m3 e he).2
  refine ⟨_, _, dp_strs (SqL.of h3), dp_strs (ws := []) (SqL.of h4), shaped_words wdl, shaped_nil, _, rfl, ?_⟩
  rw [show (List.map PyData.str ([] : List Str)) = [] from rfl, eqv_nil]
  have hc : ((((es.flatMap (·.2.1)).filter fun x => !decide (x ∈ ks)) ++ ys.filter fun x => !decide (x ∈ gs)).map PyData.str).isEmpty = (allIn es es2 && allSt ss ss2) := by
    rw [Bool.eq_iff_iff, Bool.and_eq_true, allIn_iff, allSt_iff, List.isEmpty_iff, List.map_eq_nil_iff, List.append_eq_nil_iff, List.filter_eq_nil_iff, List.filter_eq_nil_iff]
    constructor
    · rintro ⟨a, b⟩
      refine ⟨fun e he x hx => (kk x).mpr ?_, fun e he => (gg _).mpr ?_⟩
      · have := a x (List.mem_flatMap.mpr ⟨e, he, hx⟩)
        simpa using this
      · have := b e.2 ((yy _).mpr (List.mem_map_of_mem he))
        simpa using this
    · rintro ⟨a, b⟩
      refine ⟨fun x hx => ?_, fun x hx => ?_⟩
      · obtain ⟨e, he, hx⟩ := List.mem_flatMap.mp hx
        simpa using (kk x).mp (a e he x hx)
      · obtain ⟨e, he, rfl⟩ := List.mem_map.mp ((yy x).mp hx)
        simpa using (gg _).mp (b e he)
  rw [hc]
  cases hA : (allIn es es2 && allSt ss ss2) with
  | false =>
    refine iteF (k1 ?_ _ _ X4)
    unfold goes
    rw [hA, Bool.false_and]
  | true =>
    have hA' := hA
    rw [Bool.and_eq_true] at hA'
    refine iteT ?_
    refine u_asg ?_
    refine longer_go (K := K) (R.ex X4) (R2.ex X4) prd en en2 eok eok2 hA'.1 fun pL H5 esL x5 nL RL hL => ?_
    have X5 := ext X4 x5
    have kL : esL.map (·.1) = es.map (·.1) := by
      have := congrArg (List.map (·.1)) hL
      rw [dat_key, List.map_map] at this
      exact this
    have lL : esL.length = es.length := by have := congrArg List.length kL; simpa using this
    refine u_if ?_
    refine long27_go (K := K) (σ := sgm sa d1 d2 pk pg pr ps lo hi (some .non) (some (.ref p10)) (some (.ref p11)) y12 (some (.ref pL)) y17) (i := 15) (n := 13) rfl rfl (by decide) RL (by rw [kL]; exact en) (by show (13 : Nat) < 18; decide) (by omega) fun p6 H6 x6 g6 => ?_
    refine ⟨Nat.zero_le _, fun p7 n7 => ?_⟩
    have x7 := exn (o := .lst []) n7
    have X7 := ext X5 (ext x6 x7)
    refine ⟨_, _, dp_strs (SqL.of (x7 _ _ g6)), dp_strs (ws := []) (SqL.of upd_same), shaped_words (fun x hx => ?_), shaped_nil, _, rfl, ?_⟩
    · obtain ⟨e, he, rfl⟩ := List.mem_map.mp hx
      have : e.1 ∈ es.map (·.1) := by rw [← kL]; exact List.mem_map_of_mem ((List.mem_filter.mp he).1)
      obtain ⟨e0, h0, z⟩ := List.mem_map.mp this
      rw [← z]
      exact (l3 e0 h0).1
    rw [show (List.map PyData.str ([] : List Str)) = [] from rfl, eqv_nil]
    have hc2 : (((esL.filter fun e => decide (27 < e.2.1.length)).map (·.1)).map PyData.str).isEmpty = es.all fun e => decide ((putL (es2.map dat) e.2.1).length ≤ 27) := by
      have e1 : (es.all fun e => decide ((putL (es2.map dat) e.2.1).length ≤ 27)) = ((es.map fun e => (e.1, putL (es2.map dat) e.2.1)).all fun d => decide (d.2.length ≤ 27)) := by rw [List.all_map]; rfl
      rw [e1, ← hL, List.all_map, Bool.eq_iff_iff, List.isEmpty_iff, List.map_eq_nil_iff, List.map_eq_nil_iff, List.filter_eq_nil_iff, List.all_eq_true]
      constructor
      · intro a x hx
        have := a x hx
        simp only [decide_eq_true_eq] at this
        exact decide_eq_true (Nat.le_of_not_lt this)
      · intro a x hx
        have := of_decide_eq_true (a x hx)
        simp only [decide_eq_true_eq]
        exact Nat.not_lt.mpr this
    rw [hc2]
    cases hB : (es.all fun e => decide ((putL (es2.map dat) e.2.1).length ≤ 27)) with
    | false =>
      refine iteF (k1 ?_ _ _ X7)
      unfold goes
      rw [hB, Bool.and_false]
    | true =>
      have hG : goes es es2 ss ss2 = true := by
        unfold goes
        rw [hA, hB]
        rfl
      refine iteT ?_
      refine u_asg1 ?_
      refine make2 ⟨_, rfl, ?_⟩
      refine dues_go (K := K) (S.ex X7) (S2.ex X7) sn sn2 sok hA'.2 fun q8 H8 x8 n8 S8 => ?_
      have okL : evOk esL = true := by rw [evOk_tw hL eok eok2]; exact hB
      have sokL : stOk (ss.map fun e => (e.1, look2 ss2 e.2)) = true := stOk_in (by simpa using m1) (by simpa using m2) fun x hx => by
        obtain ⟨e0, h0, rfl⟩ := List.mem_map.mp hx
        refine ⟨(m3 e0 h0).1, ?_⟩
        obtain ⟨e2, he2, z⟩ := List.mem_map.mp (allSt_iff.mp hA'.2 e0 h0)
        show Wd (look2 ss2 e0.2)
        rw [← z, look2_at sn2 he2]
        exact (j3 e2 he2).2
      have X8 := ext X7 x8
      refine mkL (CN := CN) (CL := CL) (Q := fun v H3 => gName 9 v (sgm sa d1 d2 pk pg pr ps lo hi (some .non) (some (.ref p10)) (some (.ref p11)) y12 (some (.ref pL)) y17) H3 D.nx) (E := fun _ _ _ => False) (RL.ex (ext x6 (ext x7 x8))) S8 (by rw [kL]; exact en) (by rw [List.map_map]; exact sn) (evB okL) (stB sokL) (by omega) (by rw [List.length_map]; omega) (fun _ du H9 es4 ss4 _ x9 L4 z1 z2 => ?_) (fun no => ?_)
      · exact k2 hG _ du H9 esL es4 ss4 (ext X8 x9) L4 hL z1 z2
      · rw [okL, sokL] at no
        cases no
end
end Sn
namespace Sn
open Evl (Ex)
open PySem L2 LamX
section
variable {P : Program} {w : World} {K : PySem.W.Frag} {mg : Str → Option Value} {base : Heap} {e : Nat → Addr} {CS CL CN : Addr}
theorem insAt {CL a : Addr} {H : Hp} {es : List Ent} {ss : List (Str × Str)} (h : LiftAt CL H a es ss) : ∃ dx fs, H a = some (.ins CL dx fs) := by
  obtain ⟨dx, pe, ps, h1, _⟩ := h
  exact ⟨dx, _, h1⟩
theorem smE_of {es es1 es2 : List Ent} (n : (es.map (·.1)).Nodup) (h1 : SrtE es es1) (h2 : SrtE es es2) : SmE es1 es2 := ⟨by
  have a := h1.pm.length_eq
  have b := h2.pm.length_eq
  simp only [List.length_map] at a b
  omega, h2.nd n, fun e he => ⟨e, (h2.mem n).mpr (h1.sub e he), rfl, rfl⟩⟩
theorem smS_of {es es1 es2 : List (Str × Str)} (n : (es.map (·.1)).Nodup) (h1 : SrtS es es1) (h2 : SrtS es es2) : SmS es1 es2 := ⟨by
  have a := h1.pm.length_eq
  have b := h2.pm.length_eq
  simp only [List.length_map] at a b
  omega, h2.nd n, fun e he => (h2.mem n).mpr (h1.sub e he)⟩
/-- one != Lift(rows, states), where both are the same -/
theorem ne_go {CN : Addr} {σ : L2.St} {H : Hp} {Q : VK} {i j k : Nat} {a d1 d2 : Addr} {es es1 : List Ent} {ss ss1 : List (Str × Str)} (h1 : σ[i]? = some (some (.ref a))) (h2 : σ[j]? = some (some (.ref d1))) (h3 : σ[k]? = some (some (.ref d2))) (L : LiftAt CL H a es1 ss1) (R : Rws H d1 es) (S : Sts H d2 ss)
    (en : (es.map (·.1)).Nodup) (sn : (ss.map (·.1)).Nodup) (eok : evOk es = true) (sok : stOk ss = true) (z1 : SrtE es es1) (z2 : SrtS ss ss1) (q : ∀ H', Ex H H' → Q (.bl false) H') :
    tOp (rNeO CL (SmL CL)) (tVar i) (tMake CL (spInit CL CN) [] (fun cls d H' => False) (tCons (tVar j) (tCons (tVar k) tNil))) σ H Q := by
  refine ⟨_, h1, ?_⟩
  refine make2 ⟨_, h2, _, h3, ?_⟩
  obtain ⟨l1, l2, l3⟩ := evOk_out eok
  obtain ⟨m1, m2, m3⟩ := stOk_out sok
  refine mkL (CN := CN) (CL := CL) (Q := fun v H3 => rNeO CL (SmL CL) (.ref a) v H3 Q) (E := fun _ _ _ => False) R S en sn (evB eok) (stB sok) (by omega) (by omega) (fun _ b H9 es4 ss4 _ x9 L4 y1 y2 => ?_) (fun no => by rw [eok, sok] at no; cases no)
  obtain ⟨dx, fs, g1⟩ := insAt (L.ex x9)
  obtain ⟨dy, gs, g2⟩ := insAt L4
  exact ⟨a, b, dx, dy, fs, gs, rfl, rfl, g1, g2, ⟨es1, ss1, es4, ss4, L.ex x9, L4, smE_of en z1 y1, smS_of sn z2 y2⟩, fun H' x => q _ (ext x9 x)⟩
theorem u_or {t1 t2 : TE} {u v : TS} {D : Ends} {σ : L2.St} {H : Hp} (h : t1 σ H fun x H1 => ∃ k, x = .bl k ∧ if k = true then (if true = true then u D σ H1 else v D σ H1) else t2 σ H1 fun x H2 => ∃ k, x = .bl k ∧ if k = true then u D σ H2 else v D σ H2) : tIfS (tOr (tTest t1) (tTest t2)) u v D σ H := h
theorem u_seq {t u : TS} {D : Ends} {σ : L2.St} {H : Hp} (h : t { D with nx := u D } σ H) : tSeq t u D σ H := h
/-- both lifts stay -/
theorem stay_go {CN : Addr} {σ : L2.St} {H : Hp} {D : Ends} {u v : TS} {lo hi d1 d2 pr ps : Addr} {es es1 es2 es3 : List Ent} {ss ss1 ss2 ss3 : List (Str × Str)} (h1 : σ[1]? = some (some (.ref d1))) (h2 : σ[2]? = some (some (.ref d2))) (h5 : σ[5]? = some (some (.ref pr))) (h6 : σ[6]? = some (some (.ref ps))) (h7 : σ[7]? = some (some (.ref lo))) (h8 : σ[8]? = some (some (.ref hi)))
    (L1 : LiftAt CL H lo es1 ss1) (L3 : LiftAt CL H hi es3 ss3) (R : Rws H d1 es) (S : Sts H d2 ss) (R2 : Rws H pr es2) (S2 : Sts H ps ss2) (en : (es.map (·.1)).Nodup) (sn : (ss.map (·.1)).Nodup) (en2 : (es2.map (·.1)).Nodup) (sn2 : (ss2.map (·.1)).Nodup) (eok : evOk es = true) (sok : stOk ss = true) (eok2 : evOk es2 = true) (sok2 : stOk ss2 = true)
    (z1 : SrtE es es1) (z2 : SrtS ss ss1) (z3 : SrtE es2 es3) (z4 : SrtS ss2 ss3) (q : ∀ H', Ex H H' → v D σ H') :
    tIfS (tOr (tTest (tOp (rNeO CL (SmL CL)) (tVar 7) (tMake CL (spInit CL CN) [] (fun cls d H' => False) (tCons (tVar 1) (tCons (tVar 2) tNil))))) (tTest (tOp (rNeO CL (SmL CL)) (tVar 8) (tMake CL (spInit CL CN) [] (fun cls d H' => False) (tCons (tVar 5) (tCons (tVar 6) tNil)))))) u v D σ H := by
  refine u_or ?_
  refine ne_go h7 h1 h2 L1 R S en sn eok sok z1 z2 fun H1 x1 => ⟨_, rfl, iteF ?_⟩
  exact ne_go h8 h5 h6 (L3.ex x1) (R2.ex x1) (S2.ex x1) en2 sn2 eok2 sok2 z3 z4 fun H2 x2 => ⟨_, rfl, iteF (q _ (ext x1 x2))⟩
/-- the lift by both is the one that is due -/
theorem sm_due {es esL es4 es5 es1 es2 es3 : List Ent} (en : (es.map (·.1)).Nodup) (en2 : (es2.map (·.1)).Nodup) (hL : esL.map dat = es.map fun e => (e.1, putL (es2.map dat) e.2.1)) (z4 : SrtE esL es4) (z1 : SrtE es es1) (z3 : SrtE es2 es3) (hin : ∀ e ∈ es, ∀ x ∈ e.2.1, x ∈ es2.map (·.1))
    (pm : (es5.map (·.1)).Perm (es1.map (·.1))) (q1 : ∀ e ∈ es5, ∃ e0 ∈ es1, e0.1 = e.1 ∧ e.2.1 = putL (es3.map dat) e0.2.1) : SmE es5 es4 := by
  have kL : esL.map (·.1) = es.map (·.1) := by
    have := congrArg (List.map (·.1)) hL
    rw [dat_key, List.map_map] at this
    exact this
  refine ⟨?_, z4.nd (by rw [kL]; exact en), fun e he => ?_⟩
  · have a := pm.length_eq
    have b := z1.pm.length_eq
    have c := z4.pm.length_eq
    have d := congrArg List.length kL
    simp only [List.length_map] at a b c d
    omega
  · obtain ⟨e0, h0, k0, r0⟩ := q1 e he
    have h0' := z1.sub e0 h0
    have hm : (e0.1, putL (es2.map dat) e0.2.1) ∈ esL.map dat := by rw [hL]; exact List.mem_map.mpr ⟨e0, h0', rfl⟩
    obtain ⟨y, hy, zy⟩ := List.mem_map.mp hm
    obtain ⟨y1, y2⟩ := Prod.mk.inj zy
    refine ⟨y, (z4.mem (by rw [kL]; exact en)).mpr hy, by rw [y1, k0], ?_⟩
    rw [r0, y2]
    exact (putL_congr fun k hk => z3.look en2 (hin e0 h0' k hk)).symm
theorem sm_dueS {ss ss1 ss2 ss3 ss4 ss5 : List (Str × Str)} (sn : (ss.map (·.1)).Nodup) (sn2 : (ss2.map (·.1)).Nodup) (z4 : SrtS (ss.map fun e => (e.1, look2 ss2 e.2)) ss4) (z1 : SrtS ss ss1) (z3 : SrtS ss2 ss3)
    (pm : (ss5.map (·.1)).Perm (ss1.map (·.1))) (q1 : ∀ e ∈ ss5, ∃ e0 ∈ ss1, e0.1 = e.1 ∧ (e0.2, e.2) ∈ ss3) : SmS ss5 ss4 := by
  have kL : (ss.map fun e => (e.1, look2 ss2 e.2)).map (·.1) = ss.map (·.1) := by rw [List.map_map]; rfl
  refine ⟨?_, z4.nd (by rw [kL]; exact sn), fun e he => ?_⟩
  · have a := pm.length_eq
    have b := z1.pm.length_eq
    have c := z4.pm.length_eq
    simp only [List.length_map] at a b c
    omega
  · obtain ⟨e0, h0, k0, r0⟩ := q1 e he
    refine (z4.mem (by rw [kL]; exact sn)).mpr (List.mem_map.mpr ⟨e0, z1.sub e0 h0, ?_⟩)
    have := look2_at sn2 ((z3.mem sn2).mp r0)
    exact Prod.ext k0 this
end
end Sn
namespace Sn
open Evl (Ex)
open PySem L2 LamX
section
variable {X : Cx} {P : Program} {w : World} {K : PySem.W.Frag} {mg : Str → Option Value} {base : Heap} {e : Nat → Addr} {CS CL CN CK : Addr}
abbrev spC (K : PySem.W.Frag) (CL CK : Addr) : Sp := fun vs H Q E => spCall K CL CK (vs ++ []) H Q E
/-- lift(row) -/
theorem callO_go {σ : L2.St} {H : Hp} {Q : VK} {tf : TE} {t : TA} {a : Addr} {es : List Ent} {ss : List (Str × Str)} {row : List Str} (htf : ∀ Q' : VK, Q' (.ref a) H → tf σ H Q')
    (ht : ∀ Q' : List V → Hp → Prop, (∀ r H', Ex H H' → LiftAt CL H' a es ss → H' r = some (.tup (row.map V.str)) → Q' [.ref r] H') → t σ H Q')
    (en : (es.map (·.1)).Nodup) (el : ∀ e ∈ es, e.2.1.length ≤ 27) (hk : ∀ k ∈ row, k ∈ es.map (·.1)) (hl : row.length ≤ 10000)
    (q : ∀ p H', Ex H H' → H' p = some (.tup ((putL (es.map dat) row).map V.str)) → Q (.ref p) H') :
    StX.tCallO X CL (spC K CL CK) (fun x x_1 x_2 => False) tf t σ H Q := by
  refine htf _ ⟨a, rfl, ht _ fun r H1 x1 L hr => ⟨?_, a, .ref r, es, ss, rfl, L, en, el, .inr (.inr ⟨r, row, rfl, hr, hk, hl, fun p H2 _ x2 hp => q p H2 (ext x1 x2) hp⟩)⟩⟩
  obtain ⟨dx, fs, g⟩ := insAt L
  exact .inr ⟨dx, fs, g⟩
theorem look_none {ds : List (Str × List Str)} {k : Str} (h : k ∉ ds.map (·.1)) : look ds k = [] := by
  unfold look
  rw [List.find?_eq_none.mpr fun x hx => by
    simp only [decide_eq_true_eq]
    exact fun z => h (List.mem_map.mpr ⟨x, hx, z⟩)]
  rfl
theorem put_put {es1 es3 es5 : List Ent} (n1 : (es1.map (·.1)).Nodup) (n5 : (es5.map (·.1)).Nodup) (pm : (es5.map (·.1)).Perm (es1.map (·.1))) (q1 : ∀ e ∈ es5, ∃ e0 ∈ es1, e0.1 = e.1 ∧ e.2.1 = putL (es3.map dat) e0.2.1) :
    ∀ row : List Str, (∀ k ∈ row, k ∈ es1.map (·.1)) → putL (es5.map dat) row = putL (es3.map dat) (putL (es1.map dat) row)
  | [], _ => rfl
  | k :: r, h => by
    have ih := put_put n1 n5 pm q1 r fun x hx => h x (List.mem_cons_of_mem _ hx)
    show look (es5.map dat) k ++ putL (es5.map dat) r = putL (es3.map dat) (look (es1.map dat) k ++ putL (es1.map dat) r)
    have ap : ∀ a b : List Str, putL (es3.map dat) (a ++ b) = putL (es3.map dat) a ++ putL (es3.map dat) b := fun a b => by unfold putL; rw [List.flatMap_append]
    rw [ih, ap]
    congr 1
    obtain ⟨x, hx, rfl⟩ := List.mem_map.mp (pm.mem_iff.mpr (h k List.mem_cons_self))
    obtain ⟨e0, h0, k0, r0⟩ := q1 x hx
    rw [look_at n5 hx, r0, ← k0, look_at n1 h0]
theorem eqv_refl_strs : ∀ ws : List Str, PyData.eqv (.tuple (ws.map PyData.str)) (.tuple (ws.map PyData.str)) = true := fun ws => by
  rw [PyData.eqv]
  induction ws with
  | nil => rfl
  | cons a r ih => simp only [List.map_cons, PyData.eqvAll, ih, PyData.eqv, Bool.and_true]; simp
/-- the last row -/
theorem last_go {σ : L2.St} {H : Hp} {D : Ends} {p lo hi du r y5 : Addr} {es1 es3 es4 es5 : List Ent} {ss1 ss3 ss4 ss5 : List (Str × Str)} {row : List Str} (h17 : σ[17]? = some (some (.ref p))) (h9 : σ[9]? = some (some (.ref du))) (h12 : σ[12]? = some (some (.ref r))) (h8 : σ[8]? = some (some (.ref hi))) (h7 : σ[7]? = some (some (.ref lo)))
    (hp : H p = some (.tup [.str "told", .ref y5])) (hr : H r = some (.tup (row.map V.str))) (L1 : LiftAt CL H lo es1 ss1) (L3 : LiftAt CL H hi es3 ss3) (L4 : LiftAt CL H du es4 ss4) (L5 : LiftAt CL H y5 es5 ss5) (sm : SmE es5 es4) (smS : SmS ss5 ss4)
    (n1 : (es1.map (·.1)).Nodup) (n3 : (es3.map (·.1)).Nodup) (n5 : (es5.map (·.1)).Nodup) (ok1 : evOk es1 = true) (ok3 : evOk es3 = true) (ok5 : evOk es5 = true) (pm : (es5.map (·.1)).Perm (es1.map (·.1))) (q1 : ∀ e ∈ es5, ∃ e0 ∈ es1, e0.1 = e.1 ∧ e.2.1 = putL (es3.map dat) e0.2.1) (hin : ∀ e ∈ es1, ∀ x ∈ e.2.1, x ∈ es3.map (·.1))
    (hk : ∀ k ∈ row, k ∈ es1.map (·.1)) (hl : row.length ≤ 30) (q : ∀ H', Ex H H' → D.rt (.bl true) H') :
    tRet (tAndV (tOp rEq (tOp (rIxT K) (tVar 17) (tC (V.int 0))) (tC (V.str "told"))) (tAndV (tOp (rEqG (DIns CL (SmL CL))) (tOp (rIxT K) (tVar 17) (tC (V.int 1))) (tVar 9)) (tOp (rEqD K) (StX.tCallO X CL (spC K CL CK) (fun x x_1 x_2 => False) (tOp (rIxT K) (tVar 17) (tC (V.int 1))) (tCons (tVar 12) tNil)) (StX.tCallO X CL (spC K CL CK) (fun x x_1 x_2 => False) (tVar 8) (tCons (StX.tCallO X CL (spC K CL CK) (fun x x_1 x_2 => False) (tVar 7) (tCons (tVar 12) tNil)) tNil))))) D σ H := by
  refine ⟨_, h17, p, _, 0, _, rfl, rfl, SqT.of hp, rfl, rfl, _, rfl, ?_⟩
  rw [show decide (V.str "told" = V.str "told") = true from decide_eq_true rfl]
  refine iteT ?_
  obtain ⟨dx, fs, g1⟩ := insAt L5
  obtain ⟨dy, gs, g2⟩ := insAt L4
  refine ⟨_, h17, p, _, 1, _, rfl, rfl, SqT.of hp, rfl, _, h9, ⟨y5, du, dx, dy, fs, gs, rfl, rfl, g1, g2, es5, ss5, es4, ss4, L5, L4, sm, smS⟩, fun H1 x1 => ⟨_, rfl, iteT ?_⟩⟩
  obtain ⟨_, _, w1⟩ := evOk_out ok1
  obtain ⟨_, _, w3⟩ := evOk_out ok3
  obtain ⟨_, _, w5⟩ := evOk_out ok5
  have lp : (putL (es1.map dat) row).length ≤ 27 * row.length := putL_len (look_len fun e he => (w1 e he).2.1) row
  refine callO_go (X := X) (K := K) (CK := CK) (a := y5) (ss := ss5) (row := row) (fun Q' h => ⟨_, h17, p, _, 1, _, rfl, rfl, SqT.of (x1 _ _ hp), rfl, h⟩) (fun Q' h => ⟨_, h12, h _ _ exr (L5.ex x1) (x1 _ _ hr)⟩) n5 (fun e he => (w5 e he).2.1) (fun k hk' => pm.mem_iff.mpr (hk k hk')) (by omega) fun t1 H2 x2 g3 => ?_
  have X2 := ext x1 x2
  have hb1 : ∀ k ∈ putL (es1.map dat) row, k ∈ es3.map (·.1) := fun k hk' => by
    obtain ⟨e0, h0, hx⟩ := putL_mem hk'
    exact hin e0 h0 k hx
  refine callO_go (X := X) (K := K) (CK := CK) (a := hi) (ss := ss3) (row := putL (es1.map dat) row) (fun Q' h => ⟨_, h8, h⟩) (fun Q' h => ?_) n3 (fun e he => (w3 e he).2.1) hb1 (by omega) fun t2 H4 x4 g5 => ?_
  · refine callO_go (X := X) (K := K) (CK := CK) (a := lo) (ss := ss1) (row := row) (fun Q' h => ⟨_, h7, h⟩) (fun Q' h => ⟨_, h12, h _ _ exr (L1.ex X2) (X2 _ _ hr)⟩) n1 (fun e he => (w1 e he).2.1) hk (by omega) fun t3 H3 x3 g4 => ?_
    exact h t3 H3 x3 (L3.ex (ext X2 x3)) g4
  · have X4 := ext X2 x4
    have g6 := x4 _ _ g3
    rw [put_put n1 n5 pm q1 row hk] at g6
    have wd : ∀ x ∈ putL (es3.map dat) (putL (es1.map dat) row), Wd x := fun x hx => by
      obtain ⟨e0, h0, hx⟩ := putL_mem hx
      exact (w3 e0 h0).2.2 x hx
    refine ⟨_, _, dp_strsT (SqT.of g6), dp_strsT (SqT.of g5), shaped_wordsT wd, shaped_wordsT wd, ?_⟩
    rw [show PyData.eqv (.tuple ((putL (es3.map dat) (putL (es1.map dat) row)).map PyData.str)) (.tuple ((putL (es3.map dat) (putL (es1.map dat) row)).map PyData.str)) = true from eqv_refl_strs _]
    exact q _ X4
end
end Sn
namespace Sn
open Evl (Ex)
open PySem L2 LamX
section
variable {P : Program} {w : World} {K : PySem.W.Frag} {mg : Str → Option Value} {base : Heap} {e : Nat → Addr} {CS CL : Addr}
theorem cutV_1 {ws : List Str} : cutV (ws.map V.str) (some 1) none = (ws.drop 1).map V.str := by
  unfold cutV
  rw [show HT.sIx (ws.map V.str).length 0 (some 1) = min 1 (ws.map V.str).length from HT.sIx_nat _ _ 1, HT.sIx_none]
  rw [List.map_drop]
  cases ws with
  | nil => rfl
  | cons a r =>
    rw [show min 1 (List.map V.str (a :: r)).length = 1 from by simp]
    rw [List.take_of_length_le (by simp)]
theorem swap_go {Ts : List (Addr × Str)} {σ : L2.St} {H : Hp} {D : Ends} {j T : Nat} {sa la ca p : Addr} {ws : List Str} {q : Str} (h0 : σ[0]? = some (some (.ref sa))) (hj : σ[j]? = some (some (.ref p))) (hp : H p = some (.lst (ws.map V.str))) (d : Dr H sa la ca T) (hT : T ≤ 1000000) (Tb : Tabs Ts H) (hl : ws.length ≤ 20) (ps : p ≠ sa) (pl : p ≠ la)
    (k1 : ∀ H', Ex (cut H sa la) H' → Dr H' sa la ca (T + 1) → Tabs Ts H' → D.nx σ H')
    (k2 : ∀ p' H', Ex (cut H sa la) H' → Dr H' sa la ca (T + 1) → Tabs Ts H' → H' p' = some (.lst ((ws.drop 1 ++ [q]).map V.str)) → p' ≠ sa → p' ≠ la → D.nx (σ.set j (some (.ref p'))) H') :
    tIfS (tTest (tOp rEq (tCall spDraw [] E0 (tCons (tVar 0) (tCons (tC (V.int 4)) tNil))) (tC (V.int 0)))) (tAsg (tOp rCat (tSl (rSlL K) (tVar j) (tPart (tC (V.int 1))) tNoPart) (tLst (tCons (tC (V.str q)) tNil))) (gName j)) tNext D σ H := by
  refine ⟨_, h0, cut H sa la, sa, la, ca, T, 4, rfl, cut_ex, cut_s, cut_l, d, by omega, by decide, by decide, fun r H1 _ _ e1 d1 => ⟨rfl, _, rfl, ?_⟩⟩
  have T1 := tabs_cut Tb d e1
  by_cases hz : V.int r = V.int 0
  · rw [decide_eq_true hz]
    refine iteT ⟨_, hj, 1, rfl, p, _, rfl, SqL.of (cut_to e1 hp ps pl), fun p1 m1 => ⟨by show (1 : Nat) ≤ sizeLine; decide, fun p2 m2 => ?_⟩⟩
    rw [cutV_1] at m2 ⊢
    have x1 := exn (o := .lst ((ws.drop 1).map V.str)) m1
    have x2 := exn (o := .lst [.str q]) m2
    refine ⟨p1, p2, _, _, rfl, rfl, x2 _ _ upd_same, upd_same, ?_, fun p3 m3 => ?_⟩
    · have : ((ws.drop 1).map V.str).length ≤ 20 := by rw [List.length_map, List.length_drop]; omega
      have : (21 : Nat) ≤ sizeLine := by decide
      simp only [List.length_cons, List.length_nil]
      omega
    · have x3 := exn (o := .lst ((ws.drop 1).map V.str ++ [.str q])) m3
      have x := ext x1 (ext x2 x3)
      have d2 := (d1.ext x1).ext x2
      refine k2 p3 _ (ext e1 x) (d1.ext x) (T1.ext x) ?_ (d2.sne m3) (d2.lne m3)
      rw [List.map_append]
      exact upd_same
  · rw [decide_eq_false hz]
    exact iteF (k1 H1 e1 d1 T1)
theorem u_next {u bk ct : L2.St → Hp → Prop} {rt : VK} {σ : L2.St} {H : Hp} (h : u σ H) : tNext { nx := u, rt := rt, bk := bk, ct := ct } σ H := h
theorem asg3 {t1 t2 t3 : TE} {g : TG} {u : TS} {D : Ends} {σ : L2.St} {H : Hp} (h : t1 σ H fun x H1 => t2 σ H1 fun y H2 => t3 σ H2 fun z H3 => [x, y, z].length ≤ sizeLine ∧ ∀ p, H3 p = none → g (.ref p) σ (upd H3 p (.tup [x, y, z])) fun σ' H' => u D σ' H') : tSeq (tAsg (tTup (tCons t1 (tCons t2 (tCons t3 tNil)))) g) u D σ H := h
/-- Lift(rows, states) of two names -/
theorem mk_var {CN : Addr} {σ : L2.St} {H : Hp} {Q : VK} {E : XK} {j k : Nat} {d1 d2 : Addr} {es : List Ent} {ss : List (Str × Str)} (h2 : σ[j]? = some (some (.ref d1))) (h3 : σ[k]? = some (some (.ref d2))) (R : Rws H d1 es) (S : Sts H d2 ss)
    (en : (es.map (·.1)).Nodup) (sn : (ss.map (·.1)).Nodup) (eok : evOk es = true) (sok : stOk ss = true) (q : ∀ b H' es4 ss4, Ex H H' → LiftAt CL H' b es4 ss4 → SrtE es es4 → SrtS ss ss4 → Q (.ref b) H') :
    tMake CL (spInit CL CN) [] E (tCons (tVar j) (tCons (tVar k) tNil)) σ H Q := by
  refine make2 ⟨_, h2, _, h3, ?_⟩
  obtain ⟨l1, l2, l3⟩ := evOk_out eok
  obtain ⟨m1, m2, m3⟩ := stOk_out sok
  exact mkL (CN := CN) (CL := CL) (Q := Q) (E := E) R S en sn (evB eok) (stB sok) (by omega) (by omega) (fun _ b H9 es4 ss4 _ x9 L4 y1 y2 => q b H9 es4 ss4 x9 L4 y1 y2) (fun no => by rw [eok, sok] at no; cases no)
theorem _root_.Sn.Sts.exN {H H' : Hp} {p : Addr} {ss : List (Str × Str)} (h : Sts H p ss) (x : ExtN H H') : Sts H' p ss := x _ _ h (fun _ z => by cases z)
theorem _root_.Sn.LiftAt.exN {H H' : Hp} {a : Addr} {es : List Ent} {ss : List (Str × Str)} (h : LiftAt CL H a es ss) (x : ExtN H H') : LiftAt CL H' a es ss := by
  obtain ⟨dx, pe, ps, h1, h2, h3⟩ := h
  exact ⟨dx, pe, ps, x _ _ h1 (fun _ z => by cases z), h2.exN x, h3.exN x⟩
/-- dicts of rows, of texts, are not the source of draws -/
theorem _root_.Sn.Rws.ns {H : Hp} {sa la ca p : Addr} {T : Nat} {es : List Ent} (D : Dr H sa la ca T) (R : Rws H p es) : p ≠ sa ∧ p ≠ la := by
  obtain ⟨⟨ls, cs, r, t, a, b, _⟩, _⟩ := D
  constructor
  · intro z
    have h := R.1
    rw [z, a] at h
    have h2 : dkv la ca r t = es.map rKV := by injection (Option.some.inj h)
    match es, h2 with
    | [], h2 => cases h2
    | [_], h2 => exact absurd (congrArg List.length h2) (by simp [dkv])
    | [_, _], h2 => exact absurd (congrArg List.length h2) (by simp [dkv])
    | _ :: _ :: e :: _, h2 =>
      have h3 := congrArg (fun l => (l[2]?).map (·.2)) h2
      have h4 : (some (V.int r) : Option V) = some (V.ref e.2.2) := h3
      cases h4
  · intro z
    have h := R.1
    rw [z, b] at h
    cases h
theorem _root_.Sn.Sts.ns {H : Hp} {sa la ca p : Addr} {T : Nat} {ss : List (Str × Str)} (D : Dr H sa la ca T) (R : Sts H p ss) : p ≠ sa ∧ p ≠ la := by
  obtain ⟨⟨ls, cs, r, t, a, b, _⟩, _⟩ := D
  constructor
  · intro z
    have h : H p = _ := R
    rw [z, a] at h
    have h2 : dkv la ca r t = ss.map sKV := by injection (Option.some.inj h)
    match ss, h2 with
    | [], h2 => cases h2
    | e :: _, h2 =>
      have h3 := congrArg (fun l => (l[0]?).map (·.2)) h2
      have h4 : (some (V.ref la) : Option V) = some (V.str e.2) := h3
      cases h4
  · intro z
    have h : H p = _ := R
    rw [z, b] at h
    cases h
theorem _root_.Sn.Rws.cutE {H H' : Hp} {sa la ca p : Addr} {T : Nat} {es : List Ent} (R : Rws H p es) (D : Dr H sa la ca T) (e : Ex (cut H sa la) H') : Rws H' p es := ⟨cut_to e R.1 (R.ns D).1 (R.ns D).2, fun x hx => cut_to e (R.2 x hx) (D.tn (R.2 x hx)).1 (D.tn (R.2 x hx)).2⟩
theorem _root_.Sn.Sts.cutE {H H' : Hp} {sa la ca p : Addr} {T : Nat} {ss : List (Str × Str)} (R : Sts H p ss) (D : Dr H sa la ca T) (e : Ex (cut H sa la) H') : Sts H' p ss := cut_to e R (R.ns D).1 (R.ns D).2
theorem _root_.Sn.Dr.inn {H : Hp} {sa la ca p C dx : Addr} {T : Nat} {fs : List (Str × V)} (D : Dr H sa la ca T) (h : H p = some (.ins C dx fs)) : p ≠ sa ∧ p ≠ la := by
  obtain ⟨⟨_, _, _, _, a, b, _⟩, _⟩ := D
  exact ⟨fun z => (by rw [z, a] at h; cases h), fun z => (by rw [z, b] at h; cases h)⟩
theorem _root_.Sn.LiftAt.cutE {H H' : Hp} {sa la ca a : Addr} {T : Nat} {es : List Ent} {ss : List (Str × Str)} (h : LiftAt CL H a es ss) (D : Dr H sa la ca T) (e : Ex (cut H sa la) H') : LiftAt CL H' a es ss := by
  obtain ⟨dx, pe, ps, h1, h2, h3⟩ := h
  exact ⟨dx, pe, ps, cut_to e h1 (D.inn h1).1 (D.inn h1).2, h2.cutE D e, h3.cutE D e⟩
theorem sc_l_joined_right : FnScope ["_law_state", "_law_rows", "_law_states", "_law_kinds", "_law_goals", "_law_more_rows", "_law_more_states", "_law_low", "_law_high", "_law_due", "_law_words_here", "_law_ends", "_law_row_here", "_law_word", "_law_end", "_law_longer", "_law_name", "_law_heard_here"] ["_law_state", "_law_rows", "_law_states", "_law_kinds", "_law_goals"] (defScope s_l_joined_right) := ⟨rfl, rfl, rfl, by decide +kernel, rfl, by decide +kernel, by decide +kernel⟩
def spJoined (Ts : List (Addr × Str)) : Sp := fun vs H Q _ => ∃ (F : Hp) (sa la ca d1 d2 pk pg : Addr) (T : Nat) (es : List Ent) (ss : List (Str × Str)) (ks gs : List Str), vs = [.ref sa, .ref d1, .ref d2, .ref pk, .ref pg] ∧ Ex F H ∧ F sa = none ∧ F la = none ∧ NoT F ∧ Dr H sa la ca T ∧ T ≤ 900000 ∧ Tabs Ts H ∧
  Rws F d1 es ∧ Sts F d2 ss ∧ F pk = some (.lst (ks.map V.str)) ∧ F pg = some (.lst (gs.map V.str)) ∧ (es.map (·.1)).Nodup ∧ (ss.map (·.1)).Nodup ∧ evOk es = true ∧ stOk ss = true ∧ (∀ x ∈ ks, Wd x) ∧ (∀ x ∈ gs, Wd x) ∧ ks ≠ [] ∧ gs ≠ [] ∧ ks.length ≤ 4 ∧ gs.length ≤ 5 ∧
  ∀ H', Ex F H' → Dr H' sa la ca (T + 3000) → Tabs Ts H' → Q (.bl true) H'
theorem ok_joined {f c Pt : Addr} {fd : FuncData} {Ts : List (Addr × Str)} (F : FunT K "_law_joined_right" "_law_joined_right" s_l_joined_right f fd c) (W : Lw P w K mg base e CS CL) (TB : TabB base mg c Pt) (hmT : (Pt, ("_law_joined_right.<locals>.<lambda>" : Str)) ∈ Ts) (hu' : ∀ p ∈ Ts, p.1 = Pt → p.2 = ("_law_joined_right.<locals>.<lambda>" : Str)) :
    FnOk P w K mg base CX0 9 f fd ["_law_state", "_law_rows", "_law_states", "_law_kinds", "_law_goals"] (spJoined Ts) := by
  refine F.ok sc_l_joined_right (fun vs H Q E h => ?_) (fun A outer s H vs Q E hr h => ?_)
  · obtain ⟨_, _, _, _, _, _, _, _, _, _, _, _, _, rfl, _⟩ := h
    rfl
  · obtain ⟨G, sa, la, ca, d1, d2, pk, pg, T, es, ss, ks, gs, rfl, eG, n1, n2, n3, D, hT, hTs, R1, S1, K1, G1, en, sn, eok, sok, kw, gw, k0, g0, kl, gl, k⟩ := h
    obtain ⟨fs, fds, cS, FS, bS⟩ := W.sh
    obtain ⟨fq, fdq, cQ, FQ, bQ⟩ := W.eq
    obtain ⟨fc, fdc, cC, FC, bC⟩ := W.call
    have hu := hu_of hr
    have B := W.B
    refine ⟨_, (Evl.pss_cut (ps_if (pt_cmpR op_eq (pcall W.draw (hr.mono (by decide)) (pa_cons (pv 0) (pa_cons pe_int pa_nil))) pe_int (nomark _))
        (pss_one (ps_set (i := 3) sc_l_joined_right.nd rfl (.inr rfl) (pe_op op_cat (pe_slice sl_list (pv 3) (po_some pe_int) po_none) (pe_lst (pa_cons pe_str pa_nil)))))
        pss_nil)
      (Evl.pss_cut (ps_if (pt_cmpR op_eq (pcall W.draw (hr.mono (by decide)) (pa_cons (pv 0) (pa_cons pe_int pa_nil))) pe_int (nomark _))
        (pss_one (ps_set (i := 4) sc_l_joined_right.nd rfl (.inr rfl) (pe_op op_cat (pe_slice sl_list (pv 4) (po_some pe_int) po_none) (pe_lst (pa_cons pe_str pa_nil)))))
        pss_nil)
      (pss_cons (ps_asg (pe_slice sl_list (pcall W.parts (hr.mono (by decide)) (pa_cons (pv 0) (pa_cons (pv 3) (pa_cons (pv 4) (pa_cons (pcall W.pick (hr.mono (by decide)) (pa_cons (pv 0) (pa_cons (pe_lst (pa_cons pe_int (pa_cons pe_int (pa_cons pe_int pa_nil)))) pa_nil))) pa_nil))))) po_none (po_some pe_int)) (pg_unl rfl (pgs_cons (pg_name (i := 5) sc_l_joined_right.nd rfl (.inr rfl)) (pgs_cons (pg_name (i := 6) sc_l_joined_right.nd rfl (.inr rfl)) pgs_nil))))
      (pss_cons (ps_asg (pe_tup (pa_cons (pmkL W.M L2.takes0 (hr.mono (by decide)) (pa_cons (pv 1) (pa_cons (pv 2) pa_nil))) (pa_cons (pmkL W.M L2.takes0 (hr.mono (by decide)) (pa_cons (pv 5) (pa_cons (pv 6) pa_nil))) (pa_cons pe_non pa_nil)))) (pg_tup rfl (pgs_cons (pg_name (i := 7) sc_l_joined_right.nd rfl (.inr rfl)) (pgs_cons (pg_name (i := 8) sc_l_joined_right.nd rfl (.inr rfl)) (pgs_cons (pg_name (i := 9) sc_l_joined_right.nd rfl (.inl rfl)) pgs_nil)))))
      (pss_cons (ps_par (i := 10) (j := 11) (by rfl) sc_l_joined_right.nd rfl rfl (by decide) rfl rfl (pa_cons (pe_lst pa_nil) (pa_cons (pe_callB (call_sortX rfl) (by rfl) B.sorted PyProof.Rows.boot_sorted (pa_cons (pe_callTy (call_setL rfl) (by rfl) B.set PyProof.Rows.boot_set (pa_cons (pe_listVals (by rfl) (pv 2) (by rfl) B.list PyProof.Rows.boot_list) pa_nil)) pa_nil)) pa_nil)) (by rfl))
      (pss_cons (ps_for PassesOwn.never rfl (pi_list (pe_listVals (by rfl) (pv 1) (by rfl) B.list PyProof.Rows.boot_list)) (pg_name (i := 12) sc_l_joined_right.nd rfl (.inl rfl))
        (pss_one (ps_set (i := 10) sc_l_joined_right.nd rfl (.inl rfl) (pe_op op_cat (pv 10) (pe_callTy call_list_of (by rfl) B.list PyProof.Rows.boot_list (pa_cons (pv 12) pa_nil))))))
      (Evl.pss_cut (ps_if (pt_cmpR (op_eqD hr.units) (pe_op op_cat (pe_lc (own := [("_law_word", 13)]) (by rfl) sc_l_joined_right.nd (pi_list (pv 10)) (blkOk_by (own := [("_law_word", 13)]) (N := ["_law_state", "_law_rows", "_law_states", "_law_kinds", "_law_goals", "_law_more_rows", "_law_more_states", "_law_low", "_law_high", "_law_due", "_law_words_here", "_law_ends", "_law_row_here", "_law_word", "_law_end", "_law_longer", "_law_name", "_law_heard_here"]) (sc := defScope s_l_joined_right) (by decide +kernel)) (fun _ _ _ _ _ => (pg_name (i := 13) sc_l_joined_right.nd rfl (Or.inl rfl))) (fun _ _ _ _ _ => (pts_one (pt_cmpR (r := rIn K true) op_notIn_seq (pv 13) (pv 3) (by rfl)))) (fun _ _ _ _ _ => (pv 13))) (pe_lc (own := [("_law_end", 14)]) (by rfl) sc_l_joined_right.nd (pi_list (pv 11)) (blkOk_by (own := [("_law_end", 14)]) (N := ["_law_state", "_law_rows", "_law_states", "_law_kinds", "_law_goals", "_law_more_rows", "_law_more_states", "_law_low", "_law_high", "_law_due", "_law_words_here", "_law_ends", "_law_row_here", "_law_word", "_law_end", "_law_longer", "_law_name", "_law_heard_here"]) (sc := defScope s_l_joined_right) (by decide +kernel)) (fun _ _ _ _ _ => (pg_name (i := 14) sc_l_joined_right.nd rfl (Or.inl rfl))) (fun _ _ _ _ _ => (pts_one (pt_cmpR (r := rIn K true) op_notIn_seq (pv 14) (pv 4) (by rfl)))) (fun _ _ _ _ _ => (pv 14)))) (pe_lst pa_nil) (nomark _))
        (pss_cons (ps_set (i := 15) sc_l_joined_right.nd rfl (.inr rfl) (pe_callTy (call_dictP rfl) (by rfl) B.dict PyProof.Rows.boot_dict (pa_cons (pe_lock (pe_lc (own := [("_law_word", 13)]) (te := tTup (tCons (tVar 13) (tCons (tCall (spPut K) [] E0 (tCons (tDGet (tVar 1) (tVar 13)) (tCons (tVar 5) tNil))) tNil))) (by rfl) sc_l_joined_right.nd (pi_keys (pv 1)) (blkOk_by (own := [("_law_word", 13)]) (N := ["_law_state", "_law_rows", "_law_states", "_law_kinds", "_law_goals", "_law_more_rows", "_law_more_states", "_law_low", "_law_high", "_law_due", "_law_words_here", "_law_ends", "_law_row_here", "_law_word", "_law_end", "_law_longer", "_law_name", "_law_heard_here"]) (sc := defScope s_l_joined_right) (by decide +kernel)) (fun _ _ _ _ _ => (pg_name (i := 13) sc_l_joined_right.nd rfl (Or.inl rfl))) (fun _ _ _ _ _ => pts_nil) (fun _ _ _ _ _ => (pe_tup (pa_cons (pv 13) (pa_cons (pcall W.put (hr.mono (by decide)) (pa_cons (dget hu (pv 1) (pv 13)) (pa_cons (pv 5) pa_nil))) pa_nil)))))) pa_nil)))
        (pss_one (ps_if (pt_cmpR (op_eqD hr.units) (pe_lock (pe_lc (own := [("_law_word", 13)]) (by rfl) sc_l_joined_right.nd (pi_keys (pv 15)) (blkOk_by (own := [("_law_word", 13)]) (N := ["_law_state", "_law_rows", "_law_states", "_law_kinds", "_law_goals", "_law_more_rows", "_law_more_states", "_law_low", "_law_high", "_law_due", "_law_words_here", "_law_ends", "_law_row_here", "_law_word", "_law_end", "_law_longer", "_law_name", "_law_heard_here"]) (sc := defScope s_l_joined_right) (by decide +kernel)) (fun _ _ _ _ _ => (pg_name (i := 13) sc_l_joined_right.nd rfl (Or.inl rfl))) (fun _ _ _ _ _ => (pts_one (pt_cmpR op_gt (pe_callB (r := fun xs H Q => ∃ x n, xs = [x] ∧ LenV K x H n ∧ Q (.int (n : Int)) H) call_len (by rfl) B.len PySem.boot_len (pa_cons (dget hu (pv 15) (pv 13)) pa_nil)) pe_int (nomark _)))) (fun _ _ _ _ _ => (pv 13)))) (pe_lst pa_nil) (nomark _))
          (pss_one (ps_set (i := 9) sc_l_joined_right.nd rfl (.inl rfl) (pmkL W.M L2.takes0 (hr.mono (by decide)) (pa_cons (pv 15) (pa_cons (pe_callTy (call_dictP rfl) (by rfl) B.dict PyProof.Rows.boot_dict (pa_cons (pe_lock (pe_lc (own := [("_law_name", 16)]) (te := tTup (tCons (tVar 16) (tCons (tDGet (tVar 6) (tDGet (tVar 2) (tVar 16))) tNil))) (by rfl) sc_l_joined_right.nd (pi_keys (pv 2)) (blkOk_by (own := [("_law_name", 16)]) (N := ["_law_state", "_law_rows", "_law_states", "_law_kinds", "_law_goals", "_law_more_rows", "_law_more_states", "_law_low", "_law_high", "_law_due", "_law_words_here", "_law_ends", "_law_row_here", "_law_word", "_law_end", "_law_longer", "_law_name", "_law_heard_here"]) (sc := defScope s_l_joined_right) (by decide +kernel)) (fun _ _ _ _ _ => (pg_name (i := 16) sc_l_joined_right.nd rfl (Or.inl rfl))) (fun _ _ _ _ _ => pts_nil) (fun _ _ _ _ _ => (pe_tup (pa_cons (pv 16) (pa_cons (dget hu (pv 6) (dget hu (pv 2) (pv 16))) pa_nil)))))) pa_nil)) pa_nil)))))
          pss_nil)))
        pss_nil)
      (pss_cons (ps_set (i := 17) sc_l_joined_right.nd rfl (.inl rfl) (plam (k := 6) (T := Ts) (t := fun E => tOp (rSh K CL (spShift K CL (e 2)) E) (tVar 7) (tVar 8)) W TB rfl hmT hu' hr (lamS_by (sc := defScope s_l_joined_right) (by decide +kernel)) (fun A' outer' s' H' E' f' c' hr' =>
          (pe_op (op_sh cS FS bS hr' (passes_call tkL fun _ _ _ _ h => h)) (pv 7) (pv 8)))))
      (pss_cons (ps_if (PW.pt (pw_or (pt_cmpR (op_neO cQ FQ bQ (hr.mono (by decide))) (pv 7) (pmkL W.M L2.takes0 (hr.mono (by decide)) (pa_cons (pv 1) (pa_cons (pv 2) pa_nil))) (nomark _)) (pw_or1 (pt_cmpR (op_neO cQ FQ bQ (hr.mono (by decide))) (pv 8) (pmkL W.M L2.takes0 (hr.mono (by decide)) (pa_cons (pv 5) (pa_cons (pv 6) pa_nil))) (nomark _)))))
        (pss_one (ps_ret pe_bl))
        pss_nil)
      (pss_cons (ps_if (pt_cmpR op_isN (pv 9) pe_non (nomark _))
        (pss_one (ps_ret (pe_cmpR (op_eqD hr.units) (pv 17) (pe_tup (pa_cons pe_str (pa_cons pe_non pa_nil))) (nomark _))))
        pss_nil)
      (pss_cons (ps_set (i := 12) sc_l_joined_right.nd rfl (.inl rfl) (pcall W.row (hr.mono (by decide)) (pa_cons (pv 0) (pa_cons (pe_callB (call_sortedD rfl) (by rfl) B.sorted PyProof.Rows.boot_sorted (pa_cons (pv 1) pa_nil)) (pa_cons pe_int pa_nil)))))
      (pss_one (ps_ret (pe_and (pe_cmpR op_eq (pe_ix ix_tup (pv 17) pe_int (fun _ _ => rfl)) pe_str (nomark _)) (pe_and (pe_cmpR (op_eqG (rcG_ins (E := E0) FQ cQ.eq cQ.fn bQ pass0) (hr.mono (by decide))) (pe_ix ix_tup (pv 17) pe_int (fun _ _ => rfl)) (pv 9) (nomark _)) (pe_one (pe_cmpR (op_eqD hr.units)
          (StX.pe_callO (pe_ix ix_tup (pv 17) pe_int (fun _ _ => rfl)) cC (FC.raw bC .nil) (hr.mono (by decide)) (passes_call L2.takes0 fun _ _ _ _ h => h) (pa_cons (pv 12) pa_nil))
          (StX.pe_callO (pv 8) cC (FC.raw bC .nil) (hr.mono (by decide)) (passes_call L2.takes0 fun _ _ _ _ h => h) (pa_cons (StX.pe_callO (pv 7) cC (FC.raw bC .nil) (hr.mono (by decide)) (passes_call L2.takes0 fun _ _ _ _ h => h) (pa_cons (pv 12) pa_nil)) pa_nil)) (nomark _)))))))))))))))))), ?_⟩
    have pks : pk ≠ sa := ne_of_none K1 n1
    have pkl : pk ≠ la := ne_of_none K1 n2
    have pgs : pg ≠ sa := ne_of_none G1 n1
    have pgl : pg ≠ la := ne_of_none G1 n2
    have wqa : Wd "qa" := wd_of (by decide +kernel)
    have wqb : Wd "qb" := wd_of (by decide +kernel)
    -- kinds
    refine ⟨fun σ H' => ∃ (pk : Addr) (ks : List Str), σ = [some (.ref sa), some (.ref d1), some (.ref d2), some (.ref pk), some (.ref pg), none, none, none, none, none, none, none, none, none, none, none, none, none] ∧ Ex G H' ∧ H' pk = some (.lst (ks.map V.str)) ∧ pk ≠ sa ∧ pk ≠ la ∧ (∀ x ∈ ks, Wd x) ∧ ks ≠ [] ∧ ks.length ≤ 4 ∧ Dr H' sa la ca (T + 1) ∧ Tabs Ts H', ?_, ?_⟩
    · refine swap_go (Ts := Ts) (j := 3) rfl rfl (eG _ _ K1) D (by omega) hTs (by omega) pks pkl (fun H' e1 d1 t1 => ?_) (fun p' H' e1 d1 t1 hp' a1 a2 => ?_)
      · exact ⟨pk, ks, rfl, ext (cut_up eG n1 n2) e1, cut_to e1 (eG _ _ K1) pks pkl, pks, pkl, kw, k0, kl, d1, t1⟩
      · exact ⟨p', _, rfl, ext (cut_up eG n1 n2) e1, hp', a1, a2, fun x hx => (List.mem_append.mp hx).elim (fun h => kw x (List.mem_of_mem_drop h)) (fun h => by rw [List.mem_singleton.mp h]; exact wqa), by simp, by rw [List.length_append, List.length_drop]; simp only [List.length_cons, List.length_nil]; have := List.length_pos_iff.mpr k0; omega, d1, t1⟩
    rintro _ H1 ⟨pk, ks, rfl, eG, K1, pks, pkl, kw, k0, kl, D1, T1⟩
    -- goals
    refine ⟨fun σ H' => ∃ (pg : Addr) (gs : List Str), σ = [some (.ref sa), some (.ref d1), some (.ref d2), some (.ref pk), some (.ref pg), none, none, none, none, none, none, none, none, none, none, none, none, none] ∧ Ex G H' ∧ H' pk = some (.lst (ks.map V.str)) ∧ H' pg = some (.lst (gs.map V.str)) ∧ pg ≠ sa ∧ pg ≠ la ∧ (∀ x ∈ gs, Wd x) ∧ gs ≠ [] ∧ gs.length ≤ 5 ∧ Dr H' sa la ca (T + 2) ∧ Tabs Ts H', ?_, ?_⟩
    · refine swap_go (Ts := Ts) (j := 4) rfl rfl (eG _ _ G1) D1 (by omega) T1 (by omega) pgs pgl (fun H' e1 d1 t1 => ?_) (fun p' H' e1 d1 t1 hp' a1 a2 => ?_)
      · exact ⟨pg, gs, rfl, ext (cut_up eG n1 n2) e1, cut_to e1 K1 pks pkl, cut_to e1 (eG _ _ G1) pgs pgl, pgs, pgl, gw, g0, gl, d1, t1⟩
      · exact ⟨p', _, rfl, ext (cut_up eG n1 n2) e1, cut_to e1 K1 pks pkl, hp', a1, a2, fun x hx => (List.mem_append.mp hx).elim (fun h => gw x (List.mem_of_mem_drop h)) (fun h => by rw [List.mem_singleton.mp h]; exact wqb), by simp, by rw [List.length_append, List.length_drop]; simp only [List.length_cons, List.length_nil]; have := List.length_pos_iff.mpr g0; omega, d1, t1⟩
    rintro _ H2 ⟨pg, gs, rfl, eG, K1, G1, pgs, pgl, gw, g0, gl, D2, T2⟩
    have two : (2 : Nat) ≤ sizeLine := by decide
    have three : (3 : Nat) ≤ sizeLine := by decide
    -- the parts of the second lift
    refine u_asg ?_
    refine ⟨_, rfl, _, rfl, _, rfl, _, rfl, three, fun p0 m0 => ?_⟩
    have x3 := exn (o := .lst [.int 3, .int 3, .int 9]) m0
    have D3 := D2.ext x3
    have T3 := T2.ext x3
    refine ⟨cut (upd H2 p0 (.lst [.int 3, .int 3, .int 9])) sa la, sa, la, ca, T + 2, .ref p0, rfl, cut_ex, cut_s, cut_l, D3, by omega, .inl ⟨p0, _, rfl, SqL.of (cut_at upd_same (D2.sne m0) (D2.lne m0)), by simp, by simp, fun j x H4 hx e4 D4 => ?_⟩⟩
    have hm : ∃ m : Nat, x = .int (m : Int) ∧ m ≤ 9 := by
      match j, hx with
      | 0, hx => exact ⟨3, (Option.some.inj hx).symm, by decide⟩
      | 1, hx => exact ⟨3, (Option.some.inj hx).symm, by decide⟩
      | 2, hx => exact ⟨9, (Option.some.inj hx).symm, by decide⟩
      | (n + 3), hx => cases hx
    obtain ⟨m, rfl, hm⟩ := hm
    have T4 := tabs_cut T3 D3 e4
    have eG4 : Ex G H4 := ext (cut_up (ext eG x3) n1 n2) e4
    have K4 := cut_to e4 (x3 _ _ K1) pks pkl
    have G4 := cut_to e4 (x3 _ _ G1) pgs pgl
    refine ⟨cut H4 sa la, sa, la, ca, pk, pg, T + 2 + 1, m, ks, gs, rfl, cut_ex, cut_s, cut_l, D4, by omega, by omega, SqL.of (cut_at K4 pks pkl), SqL.of (cut_at G4 pgs pgl), by omega, by omega, fun q pr ps pk2 pg2 es2 ss2 ks2 gs2 H5 e5 D5 nq npr nps _ _ hq R2 S2 _ _ en2 sn2 kk gg el2 sl2 er2 sr2 _ _ kw2 gw2 _ _ _ _ => ?_⟩
    have T5 := tabs_cut T4 D4 e5
    have eG5 : Ex G H5 := ext (cut_up eG4 n1 n2) e5
    have K5 := cut_to e5 K4 pks pkl
    have G5 := cut_to e5 G4 pgs pgl
    have eok2 : evOk es2 = true := evOk_in (by
        obtain ⟨y, hy⟩ := List.exists_mem_of_ne_nil _ k0
        obtain ⟨z, hz, _⟩ := List.mem_map.mp ((kk y).mpr hy)
        exact List.length_pos_of_mem hz) (by omega) fun e he => ⟨kw _ ((kk _).mp (List.mem_map_of_mem he)), by have := (er2 e he).1; omega, fun x hx => kw2 x ((er2 e he).2 x hx)⟩
    have sok2 : stOk ss2 = true := stOk_in (by
        obtain ⟨y, hy⟩ := List.exists_mem_of_ne_nil _ g0
        obtain ⟨z, hz, _⟩ := List.mem_map.mp ((gg y).mpr hy)
        exact List.length_pos_of_mem hz) (by omega) fun e he => ⟨gw _ ((gg _).mp (List.mem_map_of_mem he)), gw2 _ (sr2 e he)⟩
    have prd : pr ≠ d1 := fun z => by
      have h1 : cut H4 sa la d1 = _ := cut_up eG4 n1 n2 _ _ R1.1
      rw [z, h1] at npr
      cases npr
    refine ⟨2, rfl, q, _, rfl, SqL.of hq, fun p6 n6 => ?_⟩
    have x6 := exn (o := .lst (cutV [.ref pr, .ref ps, .ref pk2, .ref pg2] none (some 2))) n6
    refine ⟨p6, _, rfl, SqL.of upd_same, rfl, _, _, rfl, _, _, rfl, rfl, ?_⟩
    have eG6 := ext eG5 x6
    have R1' := R1.ex eG6
    have S1' := S1.ex eG6
    have R2' := R2.ex x6
    have S2' := S2.ex x6
    have K6 := x6 _ _ K5
    have G6 := x6 _ _ G5
    have D6 := D5.ext x6
    have T6 := T5.ext x6
    generalize upd H5 p6 _ = H6 at *
    -- both lifts
    refine asg3 ?_
    refine mk_var (CL := CL) (CN := e 2) rfl rfl R1' S1' en sn eok sok fun lo H7 es1 ss1 x7 L1 z1 z2 => ?_
    refine mk_var (CL := CL) (CN := e 2) rfl rfl (R2'.ex x7) (S2'.ex x7) en2 sn2 eok2 sok2 fun hi H8 es3 ss3 x8 L3 z3 z4 => ?_
    refine ⟨three, fun t9 n9 => ?_⟩
    have x9 := exn (o := .tup [.ref lo, .ref hi, .non]) n9
    refine ⟨t9, _, rfl, SqT.of upd_same, rfl, _, _, rfl, _, _, rfl, _, _, rfl, rfl, ?_⟩
    have x69 := ext x7 (ext x8 x9)
    have eG9 := ext eG6 x69
    have L1' := L1.ex (ext x8 x9)
    have L3' := L3.ex x9
    have R1'' := R1'.ex x69
    have S1'' := S1'.ex x69
    have R2'' := R2'.ex x69
    have S2'' := S2'.ex x69
    have K9 := x69 _ _ K6
    have G9 := x69 _ _ G6
    have D9 := D6.ext x69
    have T9 := T6.ext x69
    generalize upd H8 t9 _ = H9 at *
    obtain ⟨l1, l2, l3⟩ := evOk_out eok
    obtain ⟨m1, m2, m3⟩ := stOk_out sok
    refine u_seq ?_
    refine ends_go (P := P) (w := w) (K := K) rfl S1'' m2 fun p10 p11 ys H10 x10 h10 h11 yy yl => ?_
    refine u_seq ?_
    refine words_go (K := K) (y9 := some .non) (y11 := some (.ref p11)) (y12 := none) (y15 := none) (y17 := none) (R1''.ex x10) h10 (by omega) (fun e he => (l3 e he).2.1) fun p10 y12 H11 x11 h10 => ?_
    have x911 := ext x10 x11
    have L1 := L1'.ex x911
    have L3 := L3'.ex x911
    have R1 := R1''.ex x911
    have S1 := S1''.ex x911
    have R2 := R2''.ex x911
    have S2 := S2''.ex x911
    have K11 := x911 _ _ K9
    have G11 := x911 _ _ G9
    have D11 := D9.ext x911
    have T11 := T9.ext x911
    have eG11 := ext eG9 x911
    have h11 := x11 _ _ h11
    clear L1' L3' R1' R2' S1' S2' R1'' S1'' R2'' S2'' K4 K5 K6 K9 G4 G5 G6 G9 D3 D4 D5 D6 D9 T3 T4 T5 T6 T9
    -- the lift that is due
    refine ⟨fun σ H' => ∃ (v9 : V) (y15 : Option V), σ = sgm sa d1 d2 pk pg pr ps lo hi (some v9) (some (.ref p10)) (some (.ref p11)) y12 y15 none ∧ Ex H11 H' ∧ ((goes es es2 ss ss2 = false ∧ v9 = .non) ∨ (goes es es2 ss ss2 = true ∧ ∃ (du : Addr) (esL es4 : List Ent) (ss4 : List (Str × Str)), v9 = .ref du ∧ LiftAt CL H' du es4 ss4 ∧ (esL.map dat = es.map fun e => (e.1, putL (es2.map dat) e.2.1)) ∧ SrtE esL es4 ∧ SrtS (ss.map fun e => (e.1, look2 ss2 e.2)) ss4)), ?_, ?_⟩
    · refine due_go (K := K) (CL := CL) (CN := e 2) R1 R2 prd en en2 eok eok2 S1 S2 sn sn2 sok sok2 K11 G11 h10 h11 kk gg yy yl (fun no y15 H' x => ?_) (fun yes y15 du H' esL es4 ss4 x L4 hL y1 y2 => ?_)
      · exact ⟨.non, y15, rfl, x, .inl ⟨no, rfl⟩⟩
      · exact ⟨.ref du, y15, rfl, x, .inr ⟨yes, du, esL, es4, ss4, rfl, L4, hL, y1, y2⟩⟩
    rintro _ H12 ⟨v9, y15, rfl, x12, hdue⟩
    have T12 := T11.ext x12
    refine ⟨T12, fun H13 xN T13 H0 Ech Kc x0 hE hK => ?_⟩
    have D0 := ((D11.ext x12).exN xN).ext x0
    have T0 := T13.ext x0
    have L1 := ((L1.ex x12).exN xN).ex x0
    have L3 := ((L3.ex x12).exN xN).ex x0
    have R1 := ((R1.ex x12).exN xN).ex x0
    have S1 := ((S1.ex x12).exN xN).ex x0
    have R2 := ((R2.ex x12).exN xN).ex x0
    have S2 := ((S2.ex x12).exN xN).ex x0
    have eG0 := ext (exN (ext eG11 x12) n3 xN) x0
    have no1 := z1.nd en
    have no3 := z3.nd en2
    have ok1 := z1.ok eok
    have ok3 := z3.ok eok2
    obtain ⟨dxl, fsl, gl1⟩ := insAt L1
    obtain ⟨dxh, fsh, gh1⟩ := insAt L3
    have hgo : goes es1 es3 ss1 ss3 = goes es es2 ss ss2 := goes_srt z1 z3 z2 z4 en en2 sn sn2
    refine ⟨_, rfl, _, rfl, lo, _, _, rfl, gl1, .inl ⟨hi, _, _, rfl, gh1⟩, lo, .ref hi, es1, ss1, rfl, L1, no1, z2.nd sn, ok1, z2.ok sok, .inr ⟨hi, es3, ss3, rfl, L3, no3, z4.nd sn2, ok3, z4.ok sok2, fun no H14 x14 => ?_, fun yes y5 H14 es5 ss5 _ x14 L5 pm1 pm2 q1 q2 o1 o2 => ⟨⟨y5, rfl⟩, ?_⟩⟩⟩
    · -- refused
      have no' : goes es es2 ss ss2 = false := by rw [← hgo]; exact no
      obtain rfl : v9 = .non := by
        rcases hdue with ⟨_, h⟩ | ⟨h, _⟩
        · exact h
        · rw [no'] at h; cases h
      refine hE _ _ _ ⟨2, by simp, rfl, .inl ⟨by decide, rfl, fun p H15 x15 np hp => ?_⟩⟩
      have x1 := ext x14 x15
      refine u_seq ?_
      refine stay_go (CL := CL) (CN := e 2) rfl rfl rfl rfl rfl rfl (L1.ex x1) (L3.ex x1) (R1.ex x1) (S1.ex x1) (R2.ex x1) (S2.ex x1) en sn en2 sn2 eok sok eok2 sok2 z1 z2 z3 z4 fun H16 x16 => ?_
      refine ⟨_, rfl, rfl, _, rfl, ?_⟩
      rw [decide_eq_true rfl]
      refine iteT ?_
      refine ⟨_, rfl, two, fun tq ntq => ?_⟩
      have x17 := exn (o := .tup [.str "lift", .non]) ntq
      refine ⟨_, _, .tup (SqT.of ((ext x16 x17) _ _ hp)) (.cons (.str _) (.cons .non .nil)), .tup (SqT.of upd_same) (.cons (.str _) (.cons .non .nil)), by decide +kernel, by decide +kernel, ?_⟩
      rw [show PyData.eqv (.tuple [.str (errW 2), .none]) (.tuple [.str "lift", .none]) = true from by decide +kernel]
      have x18 := ext x1 (ext x16 x17)
      exact k _ (ext eG0 x18) ((D0.ext x18).mono (by omega)) (T0.ext x18)
    · -- told
      have yes' : goes es es2 ss ss2 = true := by rw [← hgo]; exact yes
      obtain ⟨du, esL, es4, ss4, rfl, L4, hL, y1, y2⟩ : ∃ (du : Addr) (esL es4 : List Ent) (ss4 : List (Str × Str)), v9 = .ref du ∧ LiftAt CL H12 du es4 ss4 ∧ (esL.map dat = es.map fun e => (e.1, putL (es2.map dat) e.2.1)) ∧ SrtE esL es4 ∧ SrtS (ss.map fun e => (e.1, look2 ss2 e.2)) ss4 := by
        rcases hdue with ⟨h, _⟩ | ⟨_, h⟩
        · rw [yes'] at h; cases h
        · exact h
      have L4 := (L4.exN xN).ex x0
      refine hK _ _ fun p np => ?_
      have x15 := exn (o := .tup [.str "told", .ref y5]) np
      have x1 := ext x14 x15
      refine u_seq ?_
      refine stay_go (CL := CL) (CN := e 2) rfl rfl rfl rfl rfl rfl (L1.ex x1) (L3.ex x1) (R1.ex x1) (S1.ex x1) (R2.ex x1) (S2.ex x1) en sn en2 sn2 eok sok eok2 sok2 z1 z2 z3 z4 fun H16 x16 => ?_
      refine ⟨_, rfl, rfl, _, rfl, ?_⟩
      rw [decide_eq_false (fun z => by cases z)]
      refine iteF ?_
      have x2 := ext x1 x16
      have D16 := D0.ext x2
      have T16 := T0.ext x2
      have S16 := R1.ex x2
      have hp16 := x16 _ _ (upd_same (H := H14) (a := p) (o := .tup [.str "told", .ref y5]))
      have eG16 := ext eG0 x2
      refine u_next ?_
      refine u_asg ?_
      refine ⟨_, rfl, _, rfl, d1, _, es.map (·.1), rfl, .inl S16.1, keysR es, by simp; omega, fun rs p17 pm so np17 => ?_⟩
      have x17 := exn (o := .lst (rs.map V.str)) np17
      have D17 := D16.ext x17
      refine ⟨cut (upd H16 p17 (.lst (rs.map V.str))) sa la, sa, la, ca, p17, T + 2 + 1 + 2000, 5, rs, rfl, cut_ex, cut_s, cut_l, D17, by omega, by omega, SqL.of (cut_at upd_same (D16.sne np17) (D16.lne np17)), fun z => ?_, by rw [pm.length_eq]; simp; omega, fun r row H18 nr rl rk e18 hrow D18 => ?_⟩
      · have := pm.length_eq
        rw [z] at this
        simp at this
        omega
      have T18 := tabs_cut (T16.ext x17) D17 e18
      have eG18 := ext (cut_up (ext eG16 x17) n1 n2) e18
      have L1 := ((L1.ex x2).ex x17).cutE D17 e18
      have L3 := ((L3.ex x2).ex x17).cutE D17 e18
      have L4 := ((L4.ex x2).ex x17).cutE D17 e18
      have L5 := (((L5.ex x15).ex x16).ex x17).cutE D17 e18
      have hp18 := cut_to e18 (x17 _ _ hp16) (D17.tn (x17 _ _ hp16)).1 (D17.tn (x17 _ _ hp16)).2
      obtain ⟨a1, a2, a3⟩ := goes_iff.mp yes'
      obtain ⟨b1, b2, b3⟩ := goes_iff.mp yes
      have n5 : (es5.map (·.1)).Nodup := pm1.nodup_iff.mpr no1
      refine last_go (X := cxOf CX0 P w K mg base _ _ _ _ _ _ _ _ _ _ |>.nox) (K := K) (CL := CL) (CK := e 11) rfl rfl rfl rfl rfl hp18 hrow L1 L3 L4 L5 (sm_due en en2 hL y1 z1 z3 a1 pm1 q1) (sm_dueS sn sn2 y2 z2 z4 pm2 q2) no1 no3 n5 ok1 ok3 o1 pm1 q1 b1 (fun k hk => z1.pm.mem_iff.mpr (pm.mem_iff.mp (rk k hk))) (by omega) fun H19 x19 => ?_
      exact k _ (ext eG18 x19) ((D18.ext x19).mono (by omega)) (T18.ext x19)
end
end Sn
namespace Sn
open Evl (Ex)
open PySem L2 LamX
theorem pe_weak {X : Cx} {e : Expr} {t t' : TE} (h : PE X e t) (k : ∀ σ H Q, t' σ H Q → t σ H Q) : PE X e t' := ⟨fun pins s σ H Q I q => h.run pins s σ H Q I (k σ H Q q)⟩
/-- lift(x) of two names -/
def tCO (C : Addr) (sp : Sp) (i j : Nat) (E : XK) : TE := fun σ H Q => ∃ (a : Addr) (r : V), σ[i]? = some (some (.ref a)) ∧ σ[j]? = some (some r) ∧ (∃ dx fs, H a = some (.ins C dx fs)) ∧ sp [.ref a, r] H Q E
theorem co_of {X : Cx} {C : Addr} {sp : Sp} {i j : Nat} {E : XK} : ∀ σ H Q, tCO C sp i j E σ H Q → StX.tCallO X C sp E (tVar i) (tCons (tVar j) tNil) σ H Q := by
  rintro σ H Q ⟨a, r, h1, h2, h3, h⟩
  exact ⟨_, h1, a, rfl, _, h2, .inr h3, h⟩
section
variable {X : Cx} {P : Program} {w : World} {K : PySem.W.Frag} {mg : Str → Option Value} {base : Heap} {e : Nat → Addr} {CS CL CN CK : Addr} {sa la ca : Addr} {Ts : List (Addr × Str)} {T : Nat}
theorem wds_go {σ : L2.St} {H : Hp} {Q : VK} {m : Int} (h1 : σ[1]? = some (some (.ref sa))) (D : Dr H sa la ca T) (hT : T ≤ 1000000) (Tb : Tabs Ts H) (m1 : 1 ≤ m) (m2 : m ≤ 6)
    (q : ∀ p ws H', Ex (cut H sa la) H' → Dr H' sa la ca (T + 401) → Tabs Ts H' → ws ≠ [] → (ws.length : Int) ≤ m → ws.Nodup → (∀ x ∈ ws, Wd x) → H' p = some (.lst (ws.map V.str)) → p ≠ sa → p ≠ la → Q (.ref p) H') :
    tCall spWords [] E0 (tCons (tVar 1) (tCons (tOp (rI0 fun i j => V.int (i + j)) (tC (V.int 1)) (tCall spDraw [] E0 (tCons (tVar 1) (tCons (tC (V.int m)) tNil)))) tNil)) σ H Q := by
  refine ⟨_, h1, _, h1, cut H sa la, sa, la, ca, T, m, rfl, cut_ex, cut_s, cut_l, D, by omega, by omega, by omega, fun r H1 r0 r1 e1 D1 => ?_⟩
  obtain ⟨n, rfl⟩ := Int.eq_ofNat_of_zero_le r0
  have T1 := tabs_cut Tb D e1
  refine ⟨1, (n : Int), rfl, rfl, cut H1 sa la, sa, la, ca, T + 1, 1 + n, by simp, cut_ex, cut_s, cut_l, D1, by omega, by omega, fun p ws H2 np wl wn ww e2 hp D2 => ?_⟩
  exact q p ws H2 (ext (cut_up e1 cut_s cut_l) e2) (D2.mono (by omega)) (tabs_cut T1 D1 e2) (fun z => by rw [z] at wl; simp at wl; omega) (by omega) wn ww hp (D1.sne np) (D1.lne np)
/-- what lies there within a turn -/
structure At (CL sa la ca : Addr) (Ts : List (Addr × Str)) (p3 pr ps pk pg md t : Addr) (ws : List Str) (es : List Ent) (ss : List (Str × Str)) (ks gs : List Str) (es1 : List Ent) (ss1 : List (Str × Str)) (row : List Str) (T : Nat) (H : Hp) : Prop where
  D : Dr H sa la ca T
  tb : Tabs Ts H
  W3 : H p3 = some (.lst (ws.map V.str))
  R : Rws H pr es
  S : Sts H ps ss
  Kk : H pk = some (.lst (ks.map V.str))
  Gg : H pg = some (.lst (gs.map V.str))
  L : LiftAt CL H md es1 ss1
  tr : H t = some (.tup (row.map V.str))
  n3 : p3 ≠ sa ∧ p3 ≠ la
  nk : pk ≠ sa ∧ pk ≠ la
  ng : pg ≠ sa ∧ pg ≠ la
section
variable {p3 pr ps pk pg md t : Addr} {ws : List Str} {es es1 : List Ent} {ss ss1 : List (Str × Str)} {ks gs row : List Str} {H H' : Hp}
theorem At.ext (a : At CL sa la ca Ts p3 pr ps pk pg md t ws es ss ks gs es1 ss1 row T H) (x : Ex H H') : At CL sa la ca Ts p3 pr ps pk pg md t ws es ss ks gs es1 ss1 row T H' :=
  ⟨a.D.ext x, a.tb.ext x, x _ _ a.W3, a.R.ex x, a.S.ex x, x _ _ a.Kk, x _ _ a.Gg, a.L.ex x, x _ _ a.tr, a.n3, a.nk, a.ng⟩
theorem At.exN (a : At CL sa la ca Ts p3 pr ps pk pg md t ws es ss ks gs es1 ss1 row T H) (x : ExtN H H') (tb : Tabs Ts H') : At CL sa la ca Ts p3 pr ps pk pg md t ws es ss ks gs es1 ss1 row T H' :=
  ⟨a.D.exN x, tb, x _ _ a.W3 (fun _ z => by cases z), a.R.exN x, a.S.exN x, x _ _ a.Kk (fun _ z => by cases z), x _ _ a.Gg (fun _ z => by cases z), a.L.exN x, x _ _ a.tr (fun _ z => by cases z), a.n3, a.nk, a.ng⟩
theorem At.cutE {T' : Nat} (a : At CL sa la ca Ts p3 pr ps pk pg md t ws es ss ks gs es1 ss1 row T H) (x : Ex (cut H sa la) H') (D : Dr H' sa la ca T') : At CL sa la ca Ts p3 pr ps pk pg md t ws es ss ks gs es1 ss1 row T' H' :=
  ⟨D, tabs_cut a.tb a.D x, cut_to x a.W3 a.n3.1 a.n3.2, a.R.cutE a.D x, a.S.cutE a.D x, cut_to x a.Kk a.nk.1 a.nk.2, cut_to x a.Gg a.ng.1 a.ng.2, a.L.cutE a.D x, cut_to x a.tr (a.D.tn a.tr).1 (a.D.tn a.tr).2, a.n3, a.nk, a.ng⟩
theorem cutT_cut (D : Dr H sa la ca T) (x : Ex (cutT H sa la) H') {q : Addr} {o : HO} (h : H q = some o) (n1 : q ≠ sa ∧ q ≠ la) (n2 : ∀ ps, o ≠ .tbl ps) : H' q = some o := cutT_to x h n1.1 n1.2 n2
theorem At.cutTE {T' : Nat} (a : At CL sa la ca Ts p3 pr ps pk pg md t ws es ss ks gs es1 ss1 row T H) (x : Ex (cutT H sa la) H') (D : Dr H' sa la ca T') (tb : Tabs Ts H') : At CL sa la ca Ts p3 pr ps pk pg md t ws es ss ks gs es1 ss1 row T' H' := by
  have rw_ : ∀ {p : Addr} {es : List Ent}, Rws H p es → Rws H' p es := fun R => ⟨cutT_to x R.1 (R.ns a.D).1 (R.ns a.D).2 (fun _ z => by cases z), fun y hy => cutT_to x (R.2 y hy) (a.D.tn (R.2 y hy)).1 (a.D.tn (R.2 y hy)).2 (fun _ z => by cases z)⟩
  have st_ : ∀ {p : Addr} {ss : List (Str × Str)}, Sts H p ss → Sts H' p ss := fun S => cutT_to x S (S.ns a.D).1 (S.ns a.D).2 (fun _ z => by cases z)
  refine ⟨D, tb, cutT_to x a.W3 a.n3.1 a.n3.2 (fun _ z => by cases z), rw_ a.R, st_ a.S, cutT_to x a.Kk a.nk.1 a.nk.2 (fun _ z => by cases z), cutT_to x a.Gg a.ng.1 a.ng.2 (fun _ z => by cases z), ?_, cutT_to x a.tr (a.D.tn a.tr).1 (a.D.tn a.tr).2 (fun _ z => by cases z), a.n3, a.nk, a.ng⟩
  obtain ⟨dx, pe, ps, h1, h2, h3⟩ := a.L
  exact ⟨dx, pe, ps, cutT_to x h1 (a.D.inn h1).1 (a.D.inn h1).2 (fun _ z => by cases z), rw_ h2, st_ h3⟩
end
theorem catA {H : Hp} {Q : VK} {a b : Addr} {xs ys : List V} (ha : H a = some (.tup xs)) (hb : H b = some (.tup ys)) (hl : xs.length + ys.length ≤ sizeLine) (q : ∀ p H', Ex H H' → H' p = some (.tup (xs ++ ys)) → Q (.ref p) H') : rCatA K (.ref a) (.ref b) H Q :=
  ⟨a, b, xs, ys, rfl, rfl, SqT.of ha, SqT.of hb, hl, fun z => q b H exr (by rw [z]; exact hb), fun _ z => q a H exr (by rw [z, List.append_nil]; exact ha), fun _ _ p np => q p _ (exn np) upd_same⟩
theorem slA {H : Hp} {Q : VK} {a : Addr} {xs : List V} {lo hi : Option Int} (ha : H a = some (.tup xs)) (q : ∀ p H', Ex H H' → H' p = some (.tup (cutV xs lo hi)) → Q (.ref p) H') : rSlA K (.ref a) lo hi H Q :=
  ⟨a, xs, rfl, SqT.of ha, fun z => q a H exr (by
    unfold cutV
    rw [z.1, z.2, List.drop_zero, List.take_of_length_le (by simp)]
    exact ha), fun _ p np => q p _ (exn np) upd_same⟩
theorem cut_lo {xs : List V} {n : Nat} (h : n ≤ xs.length) : cutV xs none (some (n : Int)) = xs.take n := by
  unfold cutV
  rw [HT.sIx_none, HT.sIx_nat, Nat.min_eq_left h]
  simp
theorem cut_hi {xs : List V} {n : Nat} (h : n ≤ xs.length) : cutV xs (some (n : Int)) none = xs.drop n := by
  unfold cutV
  rw [HT.sIx_none, HT.sIx_nat, Nat.min_eq_left h, List.take_of_length_le (by simp)]
/-- row[:i] + (x,) + row[i:] + (None,) -/
theorem spoil_go {σ : L2.St} {H : Hp} {Q : VK} {t : Addr} {row : List V} {n : Nat} {x : V} (h10 : σ[10]? = some (some (.ref t))) (h11 : σ[11]? = some (some (.int (n : Int)))) (h12 : σ[12]? = some (some x)) (ht : H t = some (.tup row)) (hn : n ≤ row.length) (hl : row.length ≤ 1000)
    (q : ∀ p H', Ex H H' → H' p = some (.tup (row.take n ++ [x] ++ row.drop n ++ [.non])) → Q (.ref p) H') :
    tOp (rCatA K) (tOp (rCatA K) (tOp (rCatA K) (tSl (rSlA K) (tVar 10) tNoPart (tPart (tVar 11))) (tTup (tCons (tVar 12) tNil))) (tSl (rSlA K) (tVar 10) (tPart (tVar 11)) tNoPart)) (tTup (tCons (tC V.non) tNil)) σ H Q := by
  have big : (2000 : Nat) ≤ sizeLine := by decide
  have l1 : (row.take n).length = n := by rw [List.length_take]; omega
  have l2 : (row.drop n).length = row.length - n := by rw [List.length_drop]
  refine ⟨_, h10, _, h11, _, rfl, slA ht fun p1 H1 x1 g1 => ⟨_, h12, by show (1 : Nat) ≤ sizeLine; decide, fun p2 m2 => ?_⟩⟩
  rw [cut_lo hn] at g1
  have x2 := exn (o := .tup [x]) m2
  refine catA (x2 _ _ g1) upd_same (by rw [l1]; simp; omega) fun p3 H3 x3 g3 => ?_
  have X3 := ext x1 (ext x2 x3)
  refine ⟨_, h10, _, h11, _, rfl, ?_⟩
  dsimp only [tNoPart]
  refine slA (X3 _ _ ht) fun p4 H4 x4 g4 => ?_
  rw [cut_hi hn] at g4
  refine catA (x4 _ _ g3) g4 (by simp only [List.length_append, l1, l2, List.length_cons, List.length_nil]; omega) fun p5 H5 x5 g5 => ?_
  refine ⟨by show (1 : Nat) ≤ sizeLine; decide, fun p6 m6 => ?_⟩
  have x6 := exn (o := .tup [.non]) m6
  exact catA (x6 _ _ g5) upd_same (by simp only [List.length_append, l1, l2, List.length_cons, List.length_nil]; omega) fun p7 H7 x7 g7 => q p7 H7 (ext X3 (ext x4 (ext x5 (ext x6 x7)))) g7
/-- told is what is due -/
theorem eq_tup2 {H : Hp} {Q : VK} {p q : Addr} {s : Str} {v : V} {d : PyData} (hp : H p = some (.tup [.str s, v])) (hq : H q = some (.tup [.str s, v])) (hd : Dp K H v d) (sh : SeqAt.shaped (.tuple [.str s, d]) = true) (ev : PyData.eqv d d = true) (k : Q (.bl false) H) : rNeD K (.ref p) (.ref q) H Q := by
  refine ⟨_, _, .tup (SqT.of hp) (.cons (.str _) (.cons hd .nil)), .tup (SqT.of hq) (.cons (.str _) (.cons hd .nil)), sh, sh, ?_⟩
  have : PyData.eqv (.tuple [.str s, d]) (.tuple [.str s, d]) = true := by simp [PyData.eqv, PyData.eqvAll, ev]
  rw [this]
  exact k
theorem sh_int {s : Str} {n : Int} (h : (PyData.str s).canLay0 = true) : SeqAt.shaped (.tuple [.str s, .int n]) = true := shaped_tup fun d hd => by
  rcases List.mem_cons.mp hd with rfl | hd
  · exact ⟨h, by simp [PyData.depth]⟩
  · rw [List.mem_singleton.mp hd]
    simp [PyData.canLay0, PyData.depth]
theorem neD_refl {H : Hp} {Q : VK} {p q : Addr} {ws : List Str} (hp : H p = some (.tup (ws.map V.str))) (hq : H q = some (.tup (ws.map V.str))) (hw : ∀ x ∈ ws, Wd x) (k : Q (.bl false) H) : rNeD K (.ref p) (.ref q) H Q := by
  refine ⟨_, _, dp_strsT (SqT.of hp), dp_strsT (SqT.of hq), shaped_wordsT hw, shaped_wordsT hw, ?_⟩
  rw [eqv_refl_strs]
  exact k
end
end Sn
namespace Sn
open Evl (Ex)
open PySem L2 LamX
theorem v_or {t1 : TE} {c2 : TT} {u v : TS} {D : Ends} {σ : L2.St} {H : Hp} (h : t1 σ H fun x H1 => ∃ k, x = .bl k ∧ if k = true then (if true = true then u D σ H1 else v D σ H1) else c2 σ H1 fun b H2 => if b = true then u D σ H2 else v D σ H2) : tIfS (tOr (tTest t1) c2) u v D σ H := h
theorem v_and {t1 t2 : TE} {u v : TS} {D : Ends} {σ : L2.St} {H : Hp} (h : t1 σ H fun x H1 => ∃ k, x = .bl k ∧ if k = true then (t2 σ H1 fun y H2 => ∃ k, y = .bl k ∧ if k = true then u D σ H2 else v D σ H2) else (if false = true then u D σ H1 else v D σ H1)) : tIfS (tAnd (tTest t1) (tTest t2)) u v D σ H := h
theorem v_or2 {t1 : TE} {c2 : TT} {Q : Bool → Hp → Prop} {σ : L2.St} {H : Hp} (h : t1 σ H fun x H1 => ∃ k, x = .bl k ∧ if k = true then Q true H1 else c2 σ H1 Q) : tOr (tTest t1) c2 σ H Q := h
theorem v_op {r : R2} {ta tb : TE} {σ : L2.St} {H : Hp} {Q : VK} (h : ta σ H fun x H1 => tb σ H1 fun y H2 => r x y H2 Q) : tOp r ta tb σ H Q := h
section
variable {X : Cx} {P : Program} {w : World} {K : PySem.W.Frag} {mg : Str → Option Value} {base : Heap} {e : Nat → Addr} {CS CL CN CK : Addr} {sa la ca : Addr} {Ts : List (Addr × Str)} {T : Nat}
variable {p3 pr ps pk pg md t : Addr} {ws : List Str} {es es1 : List Ent} {ss ss1 : List (Str × Str)} {ks gs row : List Str} {σ : L2.St} {H : Hp} {D : Ends} {u v : TS}
theorem test1_go (a : At CL sa la ca Ts p3 pr ps pk pg md t ws es ss ks gs es1 ss1 row T H) (h5 : σ[5]? = some (some (.ref pr))) (h9 : σ[9]? = some (some (.ref md))) (h10 : σ[10]? = some (some (.ref t)))
    (en : (es.map (·.1)).Nodup) (eok : evOk es = true) (z1 : SrtE es es1) (rk : ∀ x ∈ row, x ∈ es.map (·.1)) (rl : row.length ≤ 8) (q : ∀ H', Ex H H' → v D σ H') :
    tIfS (tOr (tTest (tOp (rNeD K) (StX.tCallO X CL (spC K CL CK) (fun x x_1 x_2 => False) (tVar 9) (tCons (tVar 10) tNil)) (tCall (spPut K) [] E0 (tCons (tVar 10) (tCons (tVar 5) tNil))))) (tOr (tTest (tOp (rNeD K) (StX.tCallO X CL (spC K CL CK) (fun x x_1 x_2 => False) (tVar 9) (tCons (tTup tNil) tNil)) (tTup tNil))) (tNot (tB (tCB (rIsi K) (tCons (StX.tCallO X CL (spC K CL CK) (fun x x_1 x_2 => False) (tVar 9) (tCons (tVar 10) tNil)) (tCons (tC (V.ty "tuple")) tNil))))))) u v D σ H := by
  obtain ⟨l1, l2, l3⟩ := evOk_out eok
  obtain ⟨m1, m2, m3⟩ := evOk_out (z1.ok eok)
  have en1 := z1.nd en
  have rk1 : ∀ x ∈ row, x ∈ es1.map (·.1) := fun x hx => z1.pm.mem_iff.mpr (rk x hx)
  have pe : putL (es1.map dat) row = putL (es.map dat) row := putL_congr fun k hk => z1.look en (rk k hk)
  have wd : ∀ x ∈ putL (es.map dat) row, Wd x := fun x hx => by
    obtain ⟨e0, h0, hx⟩ := putL_mem hx
    exact (l3 e0 h0).2.2 x hx
  refine v_or ?_
  refine v_op ?_
  refine callO_go (X := X) (K := K) (CK := CK) (a := md) (ss := ss1) (row := row) (fun Q' h => ⟨_, h9, h⟩) (fun Q' h => ⟨_, h10, h _ _ exr a.L a.tr⟩) en1 (fun e he => (m3 e he).2.1) rk1 (by omega) fun p1 H1 x1 g1 => ?_
  have a1 := a.ext x1
  refine ⟨_, h10, _, h5, t, pr, row, es, rfl, SqT.of a1.tr, a1.R, en, rk, fun e he => by have := (l3 e he).2.1; omega, by omega, fun p2 H2 x2 g2 => ?_⟩
  have a2 := a1.ext x2
  rw [pe] at g1
  refine neD_refl (x2 _ _ g1) g2 wd ⟨_, rfl, iteF ?_⟩
  refine v_or2 ?_
  refine v_op ?_
  refine callO_go (X := X) (K := K) (CK := CK) (a := md) (ss := ss1) (row := []) (fun Q' h => ⟨_, h9, h⟩) (fun Q' h => ⟨Nat.zero_le _, fun p3 n3 => h _ _ (exn n3) (a2.L.ex (exn n3)) upd_same⟩) en1 (fun e he => (m3 e he).2.1) (fun _ h => (nomatch h)) (by simp) fun p4 H4 x4 g4 => ?_
  have a4 := a2.ext x4
  refine ⟨Nat.zero_le _, fun p5 n5 => ?_⟩
  have x5 := exn (o := .tup []) n5
  refine neD_refl (ws := []) (x5 _ _ g4) upd_same (fun _ h => (nomatch h)) ⟨_, rfl, iteF ?_⟩
  have a5 := a4.ext x5
  refine callO_go (X := X) (K := K) (CK := CK) (a := md) (ss := ss1) (row := row) (fun Q' h => ⟨_, h9, h⟩) (fun Q' h => ⟨_, h10, h _ _ exr a5.L a5.tr⟩) en1 (fun e he => (m3 e he).2.1) rk1 (by omega) fun p6 H6 x6 g6 => ?_
  refine ⟨_, _, _, _, true, rfl, .ty _, .base (.tup g6), kit_ty (by decide +kernel), _, rfl, iteF ?_⟩
  exact q _ (ext x1 (ext x2 (ext x4 (ext x5 x6))))
theorem rep2 {Q : VK} {p : Addr} {xs : List V} {k : Nat} (hp : H p = some (.tup xs)) (hl : xs.length ≤ 1000) (k1 : 2 ≤ k) (k2 : k ≤ 1000) (q : ∀ p H', Ex H H' → H' p = some (.tup (List.replicate k xs).flatten) → Q (.ref p) H') : rRepT K (.ref p) (.int (k : Int)) H Q ∨ rRepS K (.ref p) (.int (k : Int)) H Q := by
  by_cases hx : xs = []
  · subst hx
    refine .inr ⟨p, k, _, rfl, rfl, SqT.of hp, .inl rfl, by omega, by omega, q p H exr ?_⟩
    rw [hp]
    congr 2
    clear k1 k2 q
    induction k with
    | zero => rfl
    | succ k ih => rw [List.replicate_succ, List.flatten_cons, List.nil_append]; exact ih
  · refine .inl ⟨p, k, _, rfl, rfl, SqT.of hp, hx, by omega, by omega, hl, fun p' np => ?_⟩
    exact q p' _ (exn np) (by rw [upd_same, Int.toNat_natCast])
theorem put_rep {ds : List (Str × List Str)} {r : List Str} : ∀ k : Nat, putL ds (List.replicate k r).flatten = (List.replicate k (putL ds r)).flatten
  | 0 => rfl
  | k + 1 => by
    have ih := put_rep (ds := ds) (r := r) k
    rw [List.replicate_succ, List.flatten_cons, List.replicate_succ, List.flatten_cons, ← ih]
    unfold putL
    rw [List.flatMap_append]
theorem rep_str {r : List Str} {k : Nat} : (List.replicate k (r.map V.str)).flatten = ((List.replicate k r).flatten).map V.str := by
  rw [List.map_flatten, List.map_replicate]
theorem rep_mem {r : List Str} {x : Str} : ∀ {k : Nat}, x ∈ (List.replicate k r).flatten → x ∈ r
  | 0, h => by cases h
  | k + 1, h => by
    rw [List.replicate_succ, List.flatten_cons] at h
    exact (List.mem_append.mp h).elim id rep_mem
theorem rep_len {r : List Str} : ∀ {k : Nat}, ((List.replicate k r).flatten).length = k * r.length
  | 0 => by simp
  | k + 1 => by
    rw [List.replicate_succ, List.flatten_cons, List.length_append, rep_len, Nat.succ_mul]
    omega
theorem test2_go {n : Int} (a : At CL sa la ca Ts p3 pr ps pk pg md t ws es ss ks gs es1 ss1 row T H) (h2 : σ[2]? = some (some (.int n))) (h3 : σ[3]? = some (some (.ref p3))) (h5 : σ[5]? = some (some (.ref pr))) (h9 : σ[9]? = some (some (.ref md)))
    (en : (es.map (·.1)).Nodup) (eok : evOk es = true) (z1 : SrtE es es1) (kk : ∀ x, x ∈ es.map (·.1) ↔ x ∈ ws) (wl : ws.length ≤ 4) (q : ∀ H', Ex H H' → v D σ H') :
    tIfS (tAnd (tTest (tOp rEq (tVar 2) (tC (V.int 0)))) (tTest (tOp (rNeD K) (StX.tCallO X CL (spC K CL CK) (fun x x_1 x_2 => False) (tVar 9) (tCons (tOp (fun x y H_1 Q => rRepT K x y H_1 Q ∨ rRepS K x y H_1 Q) (tThen (tVar 3) (kTup K)) (tC (V.int 600))) tNil)) (tOp (fun x y H_1 Q => rRepT K x y H_1 Q ∨ rRepS K x y H_1 Q) (tCall (spPut K) [] E0 (tCons (tThen (tVar 3) (kTup K)) (tCons (tVar 5) tNil))) (tC (V.int 600)))))) u v D σ H := by
  obtain ⟨l1, l2, l3⟩ := evOk_out eok
  obtain ⟨m1, m2, m3⟩ := evOk_out (z1.ok eok)
  have en1 := z1.nd en
  refine v_and ?_
  refine ⟨_, h2, rfl, _, rfl, ?_⟩
  by_cases hz : V.int n = V.int 0
  rotate_left
  · rw [decide_eq_false hz]
    exact iteF (iteF (q _ exr))
  rw [decide_eq_true hz]
  refine iteT ?_
  refine v_op ?_
  have rk1 : ∀ x ∈ (List.replicate 600 ws).flatten, x ∈ es1.map (·.1) := fun x hx => z1.pm.mem_iff.mpr ((kk x).mpr (rep_mem hx))
  refine callO_go (X := X) (K := K) (CK := CK) (a := md) (ss := ss1) (row := (List.replicate 600 ws).flatten) (fun Q' h => ⟨_, h9, h⟩) (fun Q' h => ?_) en1 (fun e he => (m3 e he).2.1) rk1 (by rw [rep_len]; omega) fun p4 H4 x4 g4 => ?_
  · refine ⟨_, h3, .inl ⟨p3, _, rfl, SqL.of a.W3, fun p n => ?_⟩⟩
    refine rep2 (k := 600) upd_same (by simp; omega) (by decide) (by decide) fun p' H' x' g' => ?_
    rw [rep_str] at g'
    exact h _ _ (ext (exn n) x') ((a.L.ex (exn n)).ex x') g'
  · have a4 := a.ext x4
    refine ⟨_, h3, .inl ⟨p3, _, rfl, SqL.of a4.W3, fun p n => ?_⟩⟩
    have x5 := exn (o := .tup (ws.map V.str)) n
    have a5 := a4.ext x5
    refine ⟨_, h5, p, pr, ws, es, rfl, SqT.of upd_same, a5.R, en, fun x hx => (kk x).mpr hx, fun e he => by have := (l3 e he).2.1; omega, by omega, fun p6 H6 x6 g6 => ?_⟩
    have lp : (putL (es.map dat) ws).length ≤ 27 * ws.length := putL_len (look_len fun e he => (l3 e he).2.1) ws
    refine rep2 (k := 600) g6 (by rw [List.length_map]; omega) (by decide) (by decide) fun p7 H7 x7 g7 => ?_
    rw [rep_str, ← put_rep] at g7
    have pe : putL (es1.map dat) (List.replicate 600 ws).flatten = putL (es.map dat) (List.replicate 600 ws).flatten := putL_congr fun k hk => z1.look en ((kk k).mpr (rep_mem hk))
    rw [pe] at g4
    have x47 := ext x5 (ext x6 x7)
    refine neD_refl (x47 _ _ g4) g7 (fun x hx => ?_) ⟨_, rfl, iteF ?_⟩
    · obtain ⟨e0, h0, hx⟩ := putL_mem hx
      exact (l3 e0 h0).2.2 x hx
    · exact q _ (ext x4 x47)
end
end Sn
namespace Sn
open Evl (Ex)
open PySem L2 LamX
section
variable {X : Cx} {P : Program} {w : World} {K : PySem.W.Frag} {mg : Str → Option Value} {base : Heap} {e : Nat → Addr} {CS CL CN CK : Addr} {sa la ca : Addr} {Ts : List (Addr × Str)} {T : Nat}
variable {p3 pr ps pk pg md t : Addr} {ws : List Str} {es es1 : List Ent} {ss ss1 : List (Str × Str)} {ks gs row : List Str} {σ : L2.St} {H H' : Hp} {D : Ends} {u v : TS}
/-- something that is no kind -/
def Odd (H : Hp) (x : V) : Prop := x = .non ∨ (∃ i, x = .int i) ∨ (∃ s, x = .str s ∧ ¬ Wd s) ∨ ∃ p, x = .ref p ∧ (H p = some (.tup [.str "a"]) ∨ H p = some (.lst []) ∨ H p = some (.dK []))
def Off (sa la : Addr) (x : V) : Prop := ∀ p, x = .ref p → p ≠ sa ∧ p ≠ la
theorem Odd.map {x : V} (h : Odd H x) (k : ∀ p o, x = .ref p → H p = some o → (∀ ps, o ≠ .tbl ps) → H' p = some o) : Odd H' x := by
  rcases h with h | h | h | ⟨p, rfl, h⟩
  · exact .inl h
  · exact .inr (.inl h)
  · exact .inr (.inr (.inl h))
  · refine .inr (.inr (.inr ⟨p, rfl, ?_⟩))
    rcases h with h | h | h
    · exact .inl (k _ _ rfl h (fun _ z => by cases z))
    · exact .inr (.inl (k _ _ rfl h (fun _ z => by cases z)))
    · exact .inr (.inr (k _ _ rfl h (fun _ z => by cases z)))
theorem Odd.itm {x : V} (h : Odd H x) : Itm K H x := by
  rcases h with rfl | ⟨i, rfl⟩ | ⟨s, rfl, _⟩ | ⟨p, rfl, h⟩
  · exact .inr ⟨_, .base .non, kit_ty (by decide +kernel)⟩
  · exact .inr ⟨_, .base (.int i), kit_ty (by decide +kernel)⟩
  · exact .inl ⟨s, rfl⟩
  · rcases h with h | h | h
    · exact .inr ⟨_, .base (.tup h), kit_ty (by decide +kernel)⟩
    · exact .inr ⟨_, .base (.lst h), kit_ty (by decide +kernel)⟩
    · exact .inr ⟨_, .base (.dK h), kit_ty (by decide +kernel)⟩
theorem Odd.bad {x : V} (h : Odd H x) {ks : List Str} (hk : ∀ y ∈ ks, Wd y) : good ks x = false := by
  rcases h with rfl | ⟨i, rfl⟩ | ⟨s, rfl, hs⟩ | ⟨p, rfl, h⟩
  · rfl
  · rfl
  · exact decide_eq_false fun z => hs (hk s z)
  · rfl
/-- one of a list of values that is made on the spot -/
theorem pick_go {Q : VK} {tl : TE} {Pr : Hp → V → Prop} (h1 : σ[1]? = some (some (.ref sa))) (a : At CL sa la ca Ts p3 pr ps pk pg md t ws es ss ks gs es1 ss1 row T H) (hT : T ≤ 1000000)
    (htl : ∀ Q' : VK, (∀ p xs H1, Ex H H1 → H1 p = some (.lst xs) → p ≠ sa → p ≠ la → xs ≠ [] → xs.length ≤ 1000 → (∀ x ∈ xs, Pr H1 x ∧ Off sa la x) → Q' (.ref p) H1) → tl σ H Q')
    (mono : ∀ H1 H2 x, Pr H1 x → (∀ p o, x = .ref p → H1 p = some o → (∀ ps, o ≠ .tbl ps) → H2 p = some o) → Ex (cut H1 sa la) H2 → At CL sa la ca Ts p3 pr ps pk pg md t ws es ss ks gs es1 ss1 row (T + 1) H2 → Pr H2 x)
    (q : ∀ x H2, Pr H2 x → Off sa la x → Ex (cut H sa la) H2 → At CL sa la ca Ts p3 pr ps pk pg md t ws es ss ks gs es1 ss1 row (T + 1) H2 → Q x H2) :
    tCall (spPick K) [] E0 (tCons (tVar 1) (tCons tl tNil)) σ H Q := by
  refine ⟨_, h1, htl _ fun p xs H1 x1 hp n1 n2 x0 xl hx => ?_⟩
  have a1 := a.ext x1
  refine ⟨cut H1 sa la, sa, la, ca, T, .ref p, rfl, cut_ex, cut_s, cut_l, a1.D, by omega, .inl ⟨p, xs, rfl, SqL.of (cut_at hp n1 n2), x0, by omega, fun j x H2 hj e2 D2 => ?_⟩⟩
  obtain ⟨h, o⟩ := hx x (List.mem_of_getElem? hj)
  have a2 := a1.cutE e2 D2
  exact q x H2 (mono _ _ _ h (fun p o' z h' _ => cut_to e2 h' (o p z).1 (o p z).2) e2 a2) o (ext (cut_up (ext cut_ex x1) cut_s cut_l) e2) a2
theorem odd_go (h1 : σ[1]? = some (some (.ref sa))) (h10 : σ[10]? = some (some (.ref t))) (a : At CL sa la ca Ts p3 pr ps pk pg md t ws es ss ks gs es1 ss1 row T H) (hT : T ≤ 900000) (rl : row.length ≤ 8)
    (q : ∀ (n : Nat) x H', n ≤ row.length → Odd H' x → Off sa la x → At CL sa la ca Ts p3 pr ps pk pg md t ws es ss ks gs es1 ss1 row (T + 1 + 1) H' → D.nx ((σ.set 11 (some (.int (n : Int)))).set 12 (some x)) H') :
    tPar 11 12 (tCons (tCall spDraw [] E0 (tCons (tVar 1) (tCons (tOp (rI0 fun i j => V.int (i + j)) (tCB (fun xs H_1 Q => ∃ x n, xs = [x] ∧ LenV K x H_1 n ∧ Q (V.int ((n : Nat) : Int)) H_1) (tCons (tVar 10) tNil)) (tC (V.int 1))) tNil))) (tCons (tCall (spPick K) [] E0 (tCons (tVar 1) (tCons (tLst (tCons (tC V.non) (tCons (tC (V.int 5)) (tCons (tC (V.str (""))) (tCons (tC (V.str ("Zz"))) (tCons (tTup (tCons (tC (V.str ("a"))) tNil)) (tCons (tLst tNil) (tCons tDNewK (tCons (tC (V.str ("qqqqqqq"))) tNil))))))))) tNil))) tNil)) D σ H := by
  refine ⟨_, h1, _, h10, _, row.length, rfl, .inr ⟨_, SqT.of a.tr, by simp⟩, _, _, rfl, rfl, cut H sa la, sa, la, ca, T, _, rfl, cut_ex, cut_s, cut_l, a.D, by omega, by omega, by omega, fun r H1 r0 r1 e1 D1 => ?_⟩
  obtain ⟨n, rfl⟩ := Int.eq_ofNat_of_zero_le r0
  have a1 := a.cutE e1 D1
  refine pick_go (K := K) (Pr := Odd) h1 a1 (by omega) (fun Q' hq => ?_) (fun H1 H2 x h k _ _ => h.map k) (fun x H2 h o _ a2 => ⟨_, _, rfl, ?_⟩)
  · refine ⟨by show (1 : Nat) ≤ sizeLine; decide, fun t1 m1 => ⟨Nat.zero_le _, fun t2 m2 => fun t3 m3 => ⟨by show (8 : Nat) ≤ sizeLine; decide, fun t4 m4 => ?_⟩⟩⟩
    have x1 := exn (o := .tup [.str "a"]) m1
    have x2 := exn (o := .lst []) m2
    have x3 := exn (o := .dK []) m3
    have x4 := exn (o := .lst [.non, .int 5, .str "", .str "Zz", .ref t1, .ref t2, .ref t3, .str "qqqqqqq"]) m4
    have d2 := a1.D.ext x1
    have d3 := d2.ext x2
    have d4 := d3.ext x3
    refine hq t4 _ _ (ext x1 (ext x2 (ext x3 x4))) upd_same (d4.sne m4) (d4.lne m4) (by simp) (by simp) fun x hx => ?_
    simp only [List.mem_cons, List.not_mem_nil, or_false] at hx
    have nw : ∀ s : Str, isWd s = false → ¬ Wd s := fun s h z => by rw [isWd_of z] at h; cases h
    rcases hx with rfl | rfl | rfl | rfl | rfl | rfl | rfl | rfl
    · exact ⟨.inl rfl, fun _ z => (by cases z)⟩
    · exact ⟨.inr (.inl ⟨_, rfl⟩), fun _ z => (by cases z)⟩
    · exact ⟨.inr (.inr (.inl ⟨_, rfl, nw _ (by decide +kernel)⟩)), fun _ z => (by cases z)⟩
    · exact ⟨.inr (.inr (.inl ⟨_, rfl, nw _ (by decide +kernel)⟩)), fun _ z => (by cases z)⟩
    · exact ⟨.inr (.inr (.inr ⟨_, rfl, .inl ((ext x2 (ext x3 x4)) _ _ upd_same)⟩)), fun _ z => (by cases z; exact ⟨a1.D.sne m1, a1.D.lne m1⟩)⟩
    · exact ⟨.inr (.inr (.inr ⟨_, rfl, .inr (.inl ((ext x3 x4) _ _ upd_same))⟩)), fun _ z => (by cases z; exact ⟨d2.sne m2, d2.lne m2⟩)⟩
    · exact ⟨.inr (.inr (.inr ⟨_, rfl, .inr (.inr (x4 _ _ upd_same))⟩)), fun _ z => (by cases z; exact ⟨d3.sne m3, d3.lne m3⟩)⟩
    · exact ⟨.inr (.inr (.inl ⟨_, rfl, nw _ (by decide +kernel)⟩)), fun _ z => (by cases z)⟩
  · exact q n x H2 (by omega) h o a2
/-- something that is no row -/
def Oth (md : Addr) (H : Hp) (x : V) : Prop := x = .non ∨ (∃ i, x = .int i) ∨ (∃ s, x = .str s) ∨ (∃ b, x = .bl b) ∨ x = .ref md ∨ ∃ p, x = .ref p ∧ ((∃ xs, H p = some (.lst xs)) ∨ H p = some (.dK []))
theorem Oth.map {x : V} (h : Oth md H x) (k : ∀ p o, x = .ref p → H p = some o → (∀ ps, o ≠ .tbl ps) → H' p = some o) : Oth md H' x := by
  rcases h with h | h | h | h | h | ⟨p, rfl, h⟩
  · exact .inl h
  · exact .inr (.inl h)
  · exact .inr (.inr (.inl h))
  · exact .inr (.inr (.inr (.inl h)))
  · exact .inr (.inr (.inr (.inr (.inl h))))
  · refine .inr (.inr (.inr (.inr (.inr ⟨p, rfl, ?_⟩))))
    rcases h with ⟨xs, h⟩ | h
    · exact .inl ⟨xs, k _ _ rfl h (fun _ z => by cases z)⟩
    · exact .inr (k _ _ rfl h (fun _ z => by cases z))
theorem Oth.ty {x : V} (L : LiftC K CL) (I : LiftI K mg CL) (kt : PySem.W.kitOne K (.ref CL) (.type "tuple") = some false) (h : Oth md H x) (hm : LiftAt CL H md es ss) : ∃ ty, TyX K H x ty ∧ PySem.W.kitOne K ty (.type "tuple") = some false := by
  rcases h with rfl | ⟨i, rfl⟩ | ⟨s, rfl⟩ | ⟨b, rfl⟩ | rfl | ⟨p, rfl, h⟩
  · exact ⟨_, .base .non, kit_ty (by decide +kernel)⟩
  · exact ⟨_, .base (.int i), kit_ty (by decide +kernel)⟩
  · exact ⟨_, .base (.str s), kit_ty (by decide +kernel)⟩
  · exact ⟨_, .base (.bl b), kit_ty (by decide +kernel)⟩
  · obtain ⟨dx, fs, g⟩ := insAt hm
    exact ⟨_, .base (.ins g L.cls I.ha I.hn I.htk I.hm), kt⟩
  · rcases h with ⟨xs, h⟩ | h
    · exact ⟨_, .base (.lst h), kit_ty (by decide +kernel)⟩
    · exact ⟨_, .base (.dK h), kit_ty (by decide +kernel)⟩
theorem other_go {Q : VK} (h1 : σ[1]? = some (some (.ref sa))) (h10 : σ[10]? = some (some (.ref t))) (h9 : σ[9]? = some (some (.ref md))) (a : At CL sa la ca Ts p3 pr ps pk pg md t ws es ss ks gs es1 ss1 row T H) (hT : T ≤ 900000)
    (q : ∀ x H', Oth md H' x → Off sa la x → At CL sa la ca Ts p3 pr ps pk pg md t ws es ss ks gs es1 ss1 row (T + 1) H' → Q x H') :
    tCall (spPick K) [] E0 (tCons (tVar 1) (tCons (tLst (tCons (tC V.non) (tCons (tC (V.int 5)) (tCons (tC (V.str ("ab"))) (tCons (tCB (fun xs H_1 Q => ∃ p ys, xs = [V.ref p] ∧ (SqL K H_1 p ys ∨ SqT K H_1 p ys) ∧ ∀ (l : Addr), H_1 l = none → Q (V.ref l) (upd H_1 l (HO.lst ys))) (tCons (tVar 10) tNil)) (tCons tDNewK (tCons (tC (V.bl true)) (tCons (tVar 9) tNil)))))))) tNil)) σ H Q := by
  refine pick_go (K := K) (Pr := Oth md) h1 a (by omega) (fun Q' hq => ?_) (fun H1 H2 x h k _ _ => h.map k) (fun x H2 h o _ a2 => q x H2 h o a2)
  refine ⟨_, h10, t, _, rfl, .inr (SqT.of a.tr), fun t1 m1 => fun t2 m2 => ⟨_, h9, by show (7 : Nat) ≤ sizeLine; decide, fun t3 m3 => ?_⟩⟩
  have x1 := exn (o := .lst (row.map V.str)) m1
  have x2 := exn (o := .dK []) m2
  have x3 := exn (o := .lst [.non, .int 5, .str "ab", .ref t1, .ref t2, .bl true, .ref md]) m3
  have d2 := a.D.ext x1
  have d3 := d2.ext x2
  refine hq t3 _ _ (ext x1 (ext x2 x3)) upd_same (d3.sne m3) (d3.lne m3) (by simp) (by simp) fun x hx => ?_
  simp only [List.mem_cons, List.not_mem_nil, or_false] at hx
  obtain ⟨dx, fs, g⟩ := insAt a.L
  rcases hx with rfl | rfl | rfl | rfl | rfl | rfl | rfl
  · exact ⟨.inl rfl, fun _ z => (by cases z)⟩
  · exact ⟨.inr (.inl ⟨_, rfl⟩), fun _ z => (by cases z)⟩
  · exact ⟨.inr (.inr (.inl ⟨_, rfl⟩)), fun _ z => (by cases z)⟩
  · exact ⟨.inr (.inr (.inr (.inr (.inr ⟨_, rfl, .inl ⟨_, (ext x2 x3) _ _ upd_same⟩⟩)))), fun _ z => (by cases z; exact ⟨a.D.sne m1, a.D.lne m1⟩)⟩
  · exact ⟨.inr (.inr (.inr (.inr (.inr ⟨_, rfl, .inr (x3 _ _ upd_same)⟩)))), fun _ z => (by cases z; exact ⟨d2.sne m2, d2.lne m2⟩)⟩
  · exact ⟨.inr (.inr (.inr (.inl ⟨_, rfl⟩))), fun _ z => (by cases z)⟩
  · exact ⟨.inr (.inr (.inr (.inr (.inl rfl)))), fun _ z => (by cases z; exact a.D.inn g)⟩
/-- something that is no lift -/
def Itx (H : Hp) (x : V) : Prop := x = .non ∨ (∃ i, x = .int i) ∨ (∃ s, x = .str s) ∨ ∃ p, x = .ref p ∧ ((∃ xs, H p = some (.tup xs)) ∨ ∃ kvs, H p = some (.dK kvs))
theorem Itx.map {x : V} (h : Itx H x) (k : ∀ p o, x = .ref p → H p = some o → (∀ ps, o ≠ .tbl ps) → H' p = some o) : Itx H' x := by
  rcases h with h | h | h | ⟨p, rfl, h⟩
  · exact .inl h
  · exact .inr (.inl h)
  · exact .inr (.inr (.inl h))
  · refine .inr (.inr (.inr ⟨p, rfl, ?_⟩))
    rcases h with ⟨xs, h⟩ | ⟨xs, h⟩
    · exact .inl ⟨xs, k _ _ rfl h (fun _ z => by cases z)⟩
    · exact .inr ⟨xs, k _ _ rfl h (fun _ z => by cases z)⟩
theorem Itx.ty {x : V} (h : Itx H x) : ∃ T ∈ ["NoneType", "int", "dict", "tuple", "str"], TyX K H x (.type T) := by
  rcases h with rfl | ⟨i, rfl⟩ | ⟨s, rfl⟩ | ⟨p, rfl, h⟩
  · exact ⟨_, by simp, .base .non⟩
  · exact ⟨"int", by simp, .base (.int i)⟩
  · exact ⟨"str", by simp, .base (.str s)⟩
  · rcases h with ⟨xs, h⟩ | ⟨xs, h⟩
    · exact ⟨"tuple", by simp, .base (.tup h)⟩
    · exact ⟨"dict", by simp, .base (.dK h)⟩
def spEvents (CL : Addr) : Sp := fun vs H Q _ => ∃ (a : Addr) (es : List Ent) (ss : List (Str × Str)), vs = [.ref a] ∧ LiftAt CL H a es ss ∧ ∀ p H', Ex H H' → H p = none → H' p = some (.dK (es.map rKV)) → Q (.ref p) H'
theorem item_go {Q : VK} (h1 : σ[1]? = some (some (.ref sa))) (h5 : σ[5]? = some (some (.ref pr))) (h9 : σ[9]? = some (some (.ref md))) (a : At CL sa la ca Ts p3 pr ps pk pg md t ws es ss ks gs es1 ss1 row T H) (hT : T ≤ 900000)
    (q : ∀ x H', Itx H' x → Off sa la x → At CL sa la ca Ts p3 pr ps pk pg md t ws es ss ks gs es1 ss1 row (T + 1) H' → Q x H') :
    tCall (spPick K) [] E0 (tCons (tVar 1) (tCons (tLst (tCons (tC V.non) (tCons (tC (V.int 5)) (tCons (tVar 5) (tCons (tTup tNil) (tCons (tC (V.str ("a"))) (tCons (tProp CL (spEvents CL) [] E0 (tVar 9)) tNil))))))) tNil)) σ H Q := by
  refine pick_go (K := K) (Pr := Itx) h1 a (by omega) (fun Q' hq => ?_) (fun H1 H2 x h k _ _ => h.map k) (fun x H2 h o _ a2 => q x H2 h o a2)
  obtain ⟨dx, fs, g⟩ := insAt a.L
  refine ⟨_, h5, Nat.zero_le _, fun t1 m1 => ⟨_, h9, md, dx, fs, rfl, (exn m1) _ _ g, md, es1, ss1, rfl, a.L.ex (exn m1), fun t2 H2 x2 m2 g2 => ⟨by show (6 : Nat) ≤ sizeLine; decide, fun t3 m3 => ?_⟩⟩⟩
  have x1 := exn (o := .tup []) m1
  have x3 := exn (o := .lst [.non, .int 5, .ref pr, .ref t1, .str "a", .ref t2]) m3
  have d2 := a.D.ext x1
  have d3 := d2.ext x2
  have X3 := ext x1 (ext x2 x3)
  refine hq t3 _ _ X3 upd_same (d3.sne m3) (d3.lne m3) (by simp) (by simp) fun x hx => ?_
  simp only [List.mem_cons, List.not_mem_nil, or_false] at hx
  rcases hx with rfl | rfl | rfl | rfl | rfl | rfl
  · exact ⟨.inl rfl, fun _ z => (by cases z)⟩
  · exact ⟨.inr (.inl ⟨_, rfl⟩), fun _ z => (by cases z)⟩
  · exact ⟨.inr (.inr (.inr ⟨_, rfl, .inr ⟨_, X3 _ _ a.R.1⟩⟩)), fun _ z => (by cases z; exact a.R.ns a.D)⟩
  · exact ⟨.inr (.inr (.inr ⟨_, rfl, .inl ⟨_, (ext x2 x3) _ _ upd_same⟩⟩)), fun _ z => (by cases z; exact ⟨a.D.sne m1, a.D.lne m1⟩)⟩
  · exact ⟨.inr (.inr (.inl ⟨_, rfl⟩)), fun _ z => (by cases z)⟩
  · exact ⟨.inr (.inr (.inr ⟨_, rfl, .inr ⟨_, x3 _ _ g2⟩⟩)), fun _ z => (by cases z; exact ⟨d2.sne m2, d2.lne m2⟩)⟩
end
end Sn
namespace Sn
open Evl (Ex)
open PySem L2 LamX
section
variable {P : Program} {w : World} {K : PySem.W.Frag} {mg : Str → Option Value} {base : Heap} {e : Nat → Addr} {CS CL : Addr}
theorem u_nx {u bk ct : L2.St → Hp → Prop} {rt : VK} {σ : L2.St} {H : Hp} (h : u σ H) : ({ nx := u, rt := rt, bk := bk, ct := ct } : Ends).nx σ H := h
theorem strs_ns {H : Hp} {sa la ca p : Addr} {T : Nat} {ks : List Str} (D : Dr H sa la ca T) (h : H p = some (.lst (ks.map V.str))) (k0 : ks ≠ []) : p ≠ sa ∧ p ≠ la := by
  obtain ⟨⟨ls, cs, r, t, a, b, _⟩, _⟩ := D
  constructor
  · intro z
    rw [z, a] at h
    cases h
  · intro z
    rw [z, b] at h
    have h2 : ls.map V.int = ks.map V.str := by injection (Option.some.inj h)
    match ls, ks, h2, k0 with
    | [], [], _, k0 => exact k0 rfl
    | [], _ :: _, h2, _ => simp at h2
    | _ :: _, [], h2, _ => simp at h2
    | a :: _, b :: _, h2, _ => simp at h2
theorem sc_Lift_events : FnScope ["self"] ["self"] (defScope s_Lift_events) := ⟨rfl, rfl, rfl, by decide +kernel, rfl, by decide +kernel, by decide +kernel⟩
theorem ok_events {f CL : Addr} {fd : FuncData} (F : Fun K "events" "Lift.events" s_Lift_events f fd) (B : Bt mg) (L : LiftC K CL) : FnOk P w K mg base CX0 1 f fd ["self"] (spEvents CL) := by
  refine F.ok sc_Lift_events (fun vs H Q E h => ?_) (fun cdv A outer s H vs Q E hr h => ?_)
  · obtain ⟨_, _, _, rfl, _⟩ := h
    rfl
  · obtain ⟨a, es, ss, rfl, ⟨dx, pe, ps, h1, h2, h3⟩, k⟩ := h
    refine ⟨_, (pss_one (ps_ret (pe_callTy call_dictD (by rfl) B.dict PyProof.Rows.boot_dict (pa_cons (pe_fld (pv 0) rfl) pa_nil)))), ?_⟩
    exact ⟨_, rfl, a, CL, dx, _, _, rfl, h1, L.cls, L.ev, lkE, pe, _, rfl, .inl h2.1, fun p np => k p _ (exn np) np upd_same⟩
/-- what the law leans on besides -/
structure Lz (P : Program) (w : World) (K : PySem.W.Frag) (mg : Str → Option Value) (base : Heap) (CL : Addr) (Ts : List (Addr × Str)) : Prop where
  begun : Cal P w K mg base CX0 1 "_law_begun" ["_law_script"] (spBegun K)
  joined : Cal P w K mg base CX0 9 "_law_joined_right" ["_law_state", "_law_rows", "_law_states", "_law_kinds", "_law_goals"] (spJoined Ts)
  bound : Cal P w K mg base CX0 9 "_law_bound_right" ["_law_state"] (spBound Ts)
  ev : ∃ p g fd, PropOf K CL "events" p g ∧ FnOk P w K mg base CX0 1 g fd ["self"] (spEvents CL) ∧ Binds K fd ["self"] []
  kt : PySem.W.kitOne K (.ref CL) (.type "tuple") = some false
theorem sc_law : FnScope ["_law_script", "_law_state", "_law_turn", "_law_words_here", "_law_names", "_law_rows", "_law_states", "_law_kinds", "_law_goals", "_law_made", "_law_trail", "_law_spot", "_law_odd", "_law_spoilt", "_law_other", "_law_item"] ["_law_script"] (defScope s_law) := ⟨rfl, rfl, rfl, by decide +kernel, rfl, by decide +kernel, by decide +kernel⟩
def spLaw (K : PySem.W.Frag) (Ts : List (Addr × Str)) : Sp := fun vs H Q _ => ∃ (a : Addr) (ns : List Int), vs = [.ref a] ∧ SqL K H a (ns.map V.int) ∧ ns.length ≤ 63 ∧ Tabs Ts H ∧ ∀ H', Q (.bl true) H'
theorem ok_law {f c Pt : Addr} {fd : FuncData} {Ts : List (Addr × Str)} (F : FunT K "law" "law" s_law f fd c) (W : Lw P w K mg base e CS CL) (Z : Lz P w K mg base CL Ts) (TB : TabB base mg c Pt) (hmT : (Pt, ("law.<locals>.<lambda>" : Str)) ∈ Ts) (hu' : ∀ p ∈ Ts, p.1 = Pt → p.2 = ("law.<locals>.<lambda>" : Str)) :
    FnOk P w K mg base CX0 10 f fd ["_law_script"] (spLaw K Ts) := by
  refine F.ok sc_law (fun vs H Q E h => ?_) (fun A outer s H vs Q E hr h => ?_)
  · obtain ⟨_, _, rfl, _⟩ := h
    rfl
  · obtain ⟨a, ns, rfl, hS, hl, hTs, k⟩ := h
    obtain ⟨fs, fds, cS, FS, bS⟩ := W.sh
    obtain ⟨fc, fdc, cC, FC, bC⟩ := W.call
    obtain ⟨pv_, gv, fdv, hP, FV, bV⟩ := Z.ev
    have hu := hu_of hr
    have B := W.B
    refine ⟨_, (pss_cons (ps_set (i := 1) sc_law.nd rfl (.inl rfl) (pcall Z.begun (hr.mono (by decide)) (pa_cons (pv 0) pa_nil)))
      (pss_cons (ps_for PassesOwn.never rfl (pi_range1 rfl B.range (pa_cons (pe_op op_add pe_int (pe_callB (call_min2 rfl) (by rfl) B.min PyProof.Rows.boot_min (pa_cons (pe_callB call_len (by rfl) B.len PySem.boot_len (pa_cons (pv 0) pa_nil)) (pa_cons pe_int pa_nil)))) pa_nil)) (pg_name (i := 2) sc_law.nd rfl (.inl rfl))
        (pss_cons (ps_par (i := 3) (j := 4) (by rfl) sc_law.nd rfl rfl (by decide) rfl rfl (pa_cons (pcall W.words (hr.mono (by decide)) (pa_cons (pv 1) (pa_cons (pe_op op_add pe_int (pcall W.draw (hr.mono (by decide)) (pa_cons (pv 1) (pa_cons pe_int pa_nil)))) pa_nil))) (pa_cons (pcall W.words (hr.mono (by decide)) (pa_cons (pv 1) (pa_cons (pe_op op_add pe_int (pcall W.draw (hr.mono (by decide)) (pa_cons (pv 1) (pa_cons pe_int pa_nil)))) pa_nil))) pa_nil)) (by rfl))
        (pss_cons (ps_asg (pcall W.parts (hr.mono (by decide)) (pa_cons (pv 1) (pa_cons (pv 3) (pa_cons (pv 4) (pa_cons (pcall W.pick (hr.mono (by decide)) (pa_cons (pv 1) (pa_cons (pe_lst (pa_cons pe_int (pa_cons pe_int (pa_cons pe_int (pa_cons pe_int pa_nil))))) pa_nil))) pa_nil))))) (pg_unl rfl (pgs_cons (pg_name (i := 5) sc_law.nd rfl (.inl rfl)) (pgs_cons (pg_name (i := 6) sc_law.nd rfl (.inl rfl)) (pgs_cons (pg_name (i := 7) sc_law.nd rfl (.inl rfl)) (pgs_cons (pg_name (i := 8) sc_law.nd rfl (.inl rfl)) pgs_nil))))))
        (pss_cons (ps_asg (pe_tup (pa_cons (pmkL W.M L2.takes0 (hr.mono (by decide)) (pa_cons (pv 5) (pa_cons (pv 6) pa_nil))) (pa_cons (pcall W.row (hr.mono (by decide)) (pa_cons (pv 1) (pa_cons (pv 3) (pa_cons pe_int pa_nil)))) pa_nil))) (pg_tup rfl (pgs_cons (pg_name (i := 9) sc_law.nd rfl (.inr rfl)) (pgs_cons (pg_name (i := 10) sc_law.nd rfl (.inl rfl)) pgs_nil))))
        (pss_cons (ps_if (PW.pt (pw_or (pt_cmpR (op_neD hr.units) (StX.pe_callO (pv 9) cC (FC.raw bC .nil) (hr.mono (by decide)) (passes_call L2.takes0 fun _ _ _ _ h => h) (pa_cons (pv 10) pa_nil)) (pcall W.put (hr.mono (by decide)) (pa_cons (pv 10) (pa_cons (pv 5) pa_nil))) (nomark _)) (pw_or (pt_cmpR (op_neD hr.units) (StX.pe_callO (pv 9) cC (FC.raw bC .nil) (hr.mono (by decide)) (passes_call L2.takes0 fun _ _ _ _ h => h) (pa_cons (pe_tup pa_nil) pa_nil)) (pe_tup pa_nil) (nomark _)) (pw_or1 (pt_not (pt_val (pe_callB call_isi (by rfl) B.isi PyProof.Rows.boot_isinstance (pa_cons (StX.pe_callO (pv 9) cC (FC.raw bC .nil) (hr.mono (by decide)) (passes_call L2.takes0 fun _ _ _ _ h => h) (pa_cons (pv 10) pa_nil)) (pa_cons (pe_bltn (v := .ty "tuple") (by rfl) B.tuple PyProof.Rows.boot_tuple rfl) pa_nil)))))))))
          (pss_one (ps_ret pe_bl))
          pss_nil)
        (pss_cons (ps_if (PW.pt (pw_and (pt_cmpR op_eq (pv 2) pe_int (nomark _)) (pw_and1 (pt_cmpR (op_neD hr.units) (StX.pe_callO (pv 9) cC (FC.raw bC .nil) (hr.mono (by decide)) (passes_call L2.takes0 fun _ _ _ _ h => h) (pa_cons (pe_op op_rep (pe_tupleOf (by rfl) B.tuple (pv 3)) pe_int) pa_nil)) (pe_op op_rep (pcall W.put (hr.mono (by decide)) (pa_cons (pe_tupleOf (by rfl) B.tuple (pv 3)) (pa_cons (pv 5) pa_nil))) pe_int) (nomark _)))))
          (pss_one (ps_ret pe_bl))
          pss_nil)
        (pss_cons (ps_par (i := 11) (j := 12) (by rfl) sc_law.nd rfl rfl (by decide) rfl rfl (pa_cons (pcall W.draw (hr.mono (by decide)) (pa_cons (pv 1) (pa_cons (pe_op op_add (pe_callB call_len (by rfl) B.len PySem.boot_len (pa_cons (pv 10) pa_nil)) pe_int) pa_nil))) (pa_cons (pcall W.pick (hr.mono (by decide)) (pa_cons (pv 1) (pa_cons (pe_lst (pa_cons pe_non (pa_cons pe_int (pa_cons pe_str (pa_cons pe_str (pa_cons (pe_tup (pa_cons pe_str pa_nil)) (pa_cons (pe_lst pa_nil) (pa_cons pe_dnewK (pa_cons pe_str pa_nil))))))))) pa_nil))) pa_nil)) (by rfl))
        (pss_cons (ps_set (i := 13) sc_law.nd rfl (.inr rfl) (pe_op op_catA (pe_op op_catA (pe_op op_catA (pe_slice sl_tupA (pv 10) po_none (po_some (pv 11))) (pe_tup (pa_cons (pv 12) pa_nil))) (pe_slice sl_tupA (pv 10) (po_some (pv 11)) po_none)) (pe_tup (pa_cons pe_non pa_nil))))
        (pss_cons (ps_if (pt_cmpR (op_neD hr.units) (plam (k := 3) (T := Ts) (t := fun E => tCO CL (spC K CL (e 11)) 9 13 E) W TB rfl hmT hu' (hr.mono (by decide)) (lamS_by (sc := defScope s_law) (by decide +kernel)) (fun A' outer' s' H' E' f' c' hr' => pe_weak (StX.pe_callO (pv 9) cC (FC.raw bC .nil) hr' (passes_call tkL fun _ _ _ _ h => h) (pa_cons (pv 13) pa_nil)) co_of)) (pe_tup (pa_cons pe_str (pa_cons (pv 11) pa_nil))) (nomark _))
          (pss_one (ps_ret pe_bl))
          pss_nil)
        (pss_cons (ps_set (i := 14) sc_law.nd rfl (.inr rfl) (pcall W.pick (hr.mono (by decide)) (pa_cons (pv 1) (pa_cons (pe_lst (pa_cons pe_non (pa_cons pe_int (pa_cons pe_str (pa_cons (pe_callTy call_list_of (by rfl) B.list PyProof.Rows.boot_list (pa_cons (pv 10) pa_nil)) (pa_cons pe_dnewK (pa_cons pe_bl (pa_cons (pv 9) pa_nil)))))))) pa_nil))))
        (pss_cons (ps_if (pt_cmpR (op_neD hr.units) (plam (k := 3) (T := Ts) (t := fun E => tCO CL (spC K CL (e 11)) 9 14 E) W TB rfl hmT hu' (hr.mono (by decide)) (lamS_by (sc := defScope s_law) (by decide +kernel)) (fun A' outer' s' H' E' f' c' hr' => pe_weak (StX.pe_callO (pv 9) cC (FC.raw bC .nil) hr' (passes_call tkL fun _ _ _ _ h => h) (pa_cons (pv 14) pa_nil)) co_of)) (pe_tup (pa_cons pe_str (pa_cons pe_int pa_nil))) (nomark _))
          (pss_one (ps_ret pe_bl))
          pss_nil)
        (pss_cons (ps_if (pt_not (pt_val (pcall Z.joined hr (pa_cons (pv 1) (pa_cons (pv 5) (pa_cons (pv 6) (pa_cons (pv 7) (pa_cons (pv 8) pa_nil))))))))
          (pss_one (ps_ret pe_bl))
          pss_nil)
        (pss_cons (ps_set (i := 15) sc_law.nd rfl (.inr rfl) (pcall W.pick (hr.mono (by decide)) (pa_cons (pv 1) (pa_cons (pe_lst (pa_cons pe_non (pa_cons pe_int (pa_cons (pv 5) (pa_cons (pe_tup pa_nil) (pa_cons pe_str (pa_cons (pe_prop (pv 9) W.L.cls hP FV (hr.mono (by decide)) bV .nil (E := E0) pass0 rfl) pa_nil))))))) pa_nil))))
        (pss_one (ps_if (pt_cmpR (op_neD hr.units) (plam (k := 6) (T := Ts) (t := fun E => tOp (rSh K CL (spShift K CL (e 2)) E) (tVar 9) (tVar 15)) W TB rfl hmT hu' (hr.mono (by decide)) (lamS_by (sc := defScope s_law) (by decide +kernel)) (fun A' outer' s' H' E' f' c' hr' => (pe_op (op_sh cS FS bS hr' (passes_call tkL fun _ _ _ _ h => h)) (pv 9) (pv 15)))) (pe_tup (pa_cons pe_str (pa_cons pe_non pa_nil))) (nomark _))
          (pss_one (ps_ret pe_bl))
          pss_nil)))))))))))))))
      (pss_one (ps_ret (pcall Z.bound hr (pa_cons (pv 1) pa_nil)))))), ?_⟩
    have two : (2 : Nat) ≤ sizeLine := by decide
    refine u_asg ?_
    refine ⟨_, rfl, a, ns, rfl, hS, hl, fun sa la ca H1 _ _ _ x1 D1 => ?_⟩
    have T1 := hTs.ext x1
    have hS1 := Evl.ex_l x1 hS
    refine u_seq ?_
    refine ⟨_, rfl, _, ns.length, rfl, .inl ⟨_, hS1, by simp⟩, _, _, rfl, _, _, rfl, rfl, _, rfl, ?_, ?_, ?_⟩
    · split <;> omega
    · split <;> omega
    have hn : (5 + (if (20 : Int) < (ns.length : Int) then 20 else (ns.length : Int))).toNat ≤ 25 := by split <;> omega
    generalize (5 + (if (20 : Int) < (ns.length : Int) then 20 else (ns.length : Int))).toNat = n at hn ⊢
    refine for_range (lo := 0) (n := n) (fun i σ H' => ∃ y2 y3 y4 y5 y6 y7 y8 y9 y10 y11 y12 y13 y14 y15, σ = [some (.ref a), some (.ref sa), y2, y3, y4, y5, y6, y7, y8, y9, y10, y11, y12, y13, y14, y15] ∧ Dr H' sa la ca (8000 * i) ∧ Tabs Ts H') ⟨_, _, _, _, _, _, _, _, _, _, _, _, _, _, rfl, D1, T1⟩ ?_ ?_
    rotate_left
    · rintro σ H2 ⟨y2, y3, y4, y5, y6, y7, y8, y9, y10, y11, y12, y13, y14, y15, rfl, D2, T2⟩
      exact ⟨_, rfl, cutT H2 sa la, sa, la, ca, 8000 * n, rfl, cutT_ex, cutT_s, cutT_l, cutT_no, D2, by omega, T2, fun H' _ => k H'⟩
    rintro i σ H2 hi ⟨y2, y3, y4, y5, y6, y7, y8, y9, y10, y11, y12, y13, y14, y15, rfl, D2, T2⟩
    refine u_seq ?_
    refine wds_go (Ts := Ts) (m := 4) rfl D2 (by omega) T2 (by decide) (by decide) fun p3 ws H3 e3 D3 T3 w0 wl wn ww g3 n3s n3l => ?_
    refine wds_go (Ts := Ts) (m := 5) rfl D3 (by omega) T3 (by decide) (by decide) fun p4 vs H4 e4 D4 T4 v0 vl vn vw g4 n4s n4l => ?_
    have g3 := cut_to e4 g3 n3s n3l
    refine ⟨_, _, rfl, ?_⟩
    refine u_nx ?_
    refine u_asg ?_
    refine ⟨_, rfl, _, rfl, _, rfl, _, rfl, by show (4 : Nat) ≤ sizeLine; decide, fun p0 m0 => ?_⟩
    have x5 := exn (o := .lst [.int 3, .int 3, .int 9, .int 27]) m0
    have D5 := D4.ext x5
    have T5 := T4.ext x5
    refine ⟨cut (upd H4 p0 (.lst [.int 3, .int 3, .int 9, .int 27])) sa la, sa, la, ca, _, .ref p0, rfl, cut_ex, cut_s, cut_l, D5, by omega, .inl ⟨p0, _, rfl, SqL.of (cut_at upd_same (D4.sne m0) (D4.lne m0)), by simp, by simp, fun j x H6 hx e6 D6 => ?_⟩⟩
    have hm : ∃ m : Nat, x = .int (m : Int) ∧ m ≤ 27 := by
      match j, hx with
      | 0, hx => exact ⟨3, (Option.some.inj hx).symm, by decide⟩
      | 1, hx => exact ⟨3, (Option.some.inj hx).symm, by decide⟩
      | 2, hx => exact ⟨9, (Option.some.inj hx).symm, by decide⟩
      | 3, hx => exact ⟨27, (Option.some.inj hx).symm, by decide⟩
      | (n + 4), hx => cases hx
    obtain ⟨m, rfl, hm⟩ := hm
    have T6 := tabs_cut T5 D5 e6
    have g3 := cut_to e6 (x5 _ _ g3) n3s n3l
    have g4 := cut_to e6 (x5 _ _ g4) n4s n4l
    refine ⟨cut H6 sa la, sa, la, ca, p3, p4, _, m, ws, vs, rfl, cut_ex, cut_s, cut_l, D6, by omega, by omega, SqL.of (cut_at g3 n3s n3l), SqL.of (cut_at g4 n4s n4l), by omega, by omega, fun q pr ps pk pg es ss ks gs H7 e7 D7 nq npr nps npk npg hq R S Kk Gg en sn kk gg el sl er sr _ _ kw gw k0 g0 kl gl => ?_⟩
    have T7 := tabs_cut T6 D6 e7
    have g3 := cut_to e7 g3 n3s n3l
    refine ⟨q, _, rfl, SqL.of hq, rfl, _, _, rfl, _, _, rfl, _, _, rfl, _, _, rfl, rfl, ?_⟩
    have nk := strs_ns D7 Kk k0
    have ng := strs_ns D7 Gg g0
    have eok : evOk es = true := evOk_in (by
        obtain ⟨y, hy⟩ := List.exists_mem_of_ne_nil _ w0
        obtain ⟨z, hz, _⟩ := List.mem_map.mp ((kk y).mpr hy)
        exact List.length_pos_of_mem hz) (by omega) fun e he => ⟨ww _ ((kk _).mp (List.mem_map_of_mem he)), by have := (er e he).1; omega, fun x hx => kw x ((er e he).2 x hx)⟩
    have sok : stOk ss = true := stOk_in (by
        obtain ⟨y, hy⟩ := List.exists_mem_of_ne_nil _ v0
        obtain ⟨z, hz, _⟩ := List.mem_map.mp ((gg y).mpr hy)
        exact List.length_pos_of_mem hz) (by omega) fun e he => ⟨vw _ ((gg _).mp (List.mem_map_of_mem he)), gw _ (sr e he)⟩
    -- the lift, the trail
    refine asg2 ?_
    refine mk_var (CL := CL) (CN := e 2) rfl rfl R S en sn eok sok fun md H8 es1 ss1 x8 L8 z1 z2 => ?_
    have D8 := D7.ext x8
    have T8 := T7.ext x8
    refine ⟨_, rfl, _, rfl, cut H8 sa la, sa, la, ca, p3, _, 8, ws, rfl, cut_ex, cut_s, cut_l, D8, by omega, by omega, SqL.of (cut_at (x8 _ _ g3) n3s n3l), w0, by omega, fun t row H9 nt rl rk e9 hrow D9 => ?_⟩
    refine ⟨two, fun tp ntp => ?_⟩
    have xp := exn (o := .tup [.ref md, .ref t]) ntp
    have a9 : At CL sa la ca Ts p3 pr ps pk pg md t ws es ss ks gs es1 ss1 row _ H9 := ⟨D9, tabs_cut T8 D8 e9, cut_to e9 (x8 _ _ g3) n3s n3l, (R.ex x8).cutE D8 e9, (S.ex x8).cutE D8 e9, cut_to e9 (x8 _ _ Kk) nk.1 nk.2, cut_to e9 (x8 _ _ Gg) ng.1 ng.2, L8.cutE D8 e9, hrow, ⟨n3s, n3l⟩, nk, ng⟩
    have a10 := a9.ext xp
    refine ⟨tp, _, rfl, SqT.of upd_same, rfl, _, _, rfl, _, _, rfl, rfl, ?_⟩
    generalize upd H9 tp _ = H10 at *
    have rk' : ∀ x ∈ row, x ∈ es.map (·.1) := fun x hx => (kk x).mpr (rk x hx)
    refine u_seq ?_
    refine test1_go (K := K) (CL := CL) (CK := e 11) a10 rfl rfl rfl en eok z1 rk' rl fun H11 x11 => ?_
    refine u_next ?_
    refine u_seq ?_
    refine test2_go (K := K) (CL := CL) (CK := e 11) (a10.ext x11) rfl rfl rfl rfl en eok z1 kk (by omega) fun H12 x12 => ?_
    refine u_next ?_
    refine u_seq ?_
    refine odd_go (K := K) rfl rfl ((a10.ext x11).ext x12) (by omega) rl fun nn x H13 hnn hodd hoff a13 => ?_
    refine u_nx ?_
    refine u_asg ?_
    refine spoil_go (K := K) (row := row.map V.str) (n := nn) rfl rfl rfl a13.tr (by simpa using hnn) (by simp; omega) fun psp H14 x14 g14 => ?_
    have a14 := a13.ext x14
    have o14 : Odd H14 x := hodd.map fun p o _ h _ => x14 _ _ h
    refine u_seq ?_
    refine u_if ?_
    -- heard: a row with something odd
    refine ⟨a14.tb, fun H15 xN T15 H0 Ech Kc x0 hE hK => ?_⟩
    have a15 := (a14.exN xN T15).ext x0
    have o15 : Odd H0 x := o14.map fun p o _ h nt => x0 _ _ (xN _ _ h nt)
    have g15 := x0 _ _ (xN _ _ g14 (fun _ z => by cases z))
    obtain ⟨dx, fs, gi⟩ := insAt a15.L
    have en1 := z1.nd en
    obtain ⟨m1, m2, m3⟩ := evOk_out (z1.ok eok)
    have lt : ((row.map V.str).take nn).length = nn := by rw [List.length_take, List.length_map]; omega
    refine ⟨md, .ref psp, rfl, rfl, ⟨dx, fs, gi⟩, md, .ref psp, es1, ss1, rfl, a15.L, en1, fun e he => (m3 e he).2.1, .inr (.inl ⟨psp, _, nn, x, rfl, g15, fun y hy => ?_, ?_, o15.bad fun y hy => ?_, fun j y hj hy => ?_, fun dd H16 x16 hdd => hE _ _ _ ⟨11, by simp, rfl, .inr (.inl ⟨.inl rfl, dd, _, _, rfl, hdd, rfl, fun p H17 x17 np hp => ?_⟩)⟩⟩)⟩
    · have hy' : y ∈ row.map V.str ∨ y = x ∨ y = .non := by
        simp only [List.mem_append, List.mem_singleton] at hy
        rcases hy with ((h | h) | h) | h
        · exact .inl (List.mem_of_mem_take h)
        · exact .inr (.inl h)
        · exact .inl (List.mem_of_mem_drop h)
        · exact .inr (.inr h)
      rcases hy' with h | rfl | rfl
      · obtain ⟨s, _, rfl⟩ := List.mem_map.mp h
        exact .inl ⟨s, rfl⟩
      · exact o15.itm
      · exact .inr ⟨_, .base .non, kit_ty (by decide +kernel)⟩
    · rw [List.append_assoc, List.append_assoc, List.getElem?_append_right (by omega), lt, Nat.sub_self]
      rfl
    · obtain ⟨e0, h0, rfl⟩ := List.mem_map.mp hy
      exact (m3 e0 h0).1
    · rw [List.append_assoc, List.append_assoc, List.getElem?_append_left (by omega), List.getElem?_take_of_lt hj, List.getElem?_map] at hy
      cases hz : row[j]? with
      | none => rw [hz] at hy; cases hy
      | some s =>
        rw [hz] at hy
        obtain rfl : V.str s = y := Option.some.inj hy
        exact decide_eq_true (z1.pm.mem_iff.mpr (rk' s (List.mem_of_getElem? hz)))
    have a17 := (a15.ext x16).ext x17
    refine ⟨_, rfl, two, fun tq ntq => ?_⟩
    have x18 := exn (o := .tup [.str "kind", .int (nn : Int)]) ntq
    refine eq_tup2 (s := "kind") (x18 _ _ hp) upd_same (.int _) (sh_int (by decide +kernel)) (by simp [PyData.eqv]) ⟨_, rfl, iteF ?_⟩
    have a18 := a17.ext x18
    generalize upd H17 tq _ = H18 at *
    -- something that is no row
    refine u_next ?_
    refine u_asg ?_
    refine other_go (K := K) rfl rfl rfl a18 (by omega) fun x H19 hoth hoff a19 => ?_
    refine u_seq ?_
    refine u_if ?_
    refine ⟨a19.tb, fun H20 xN T20 H0 Ech Kc x0 hE hK => ?_⟩
    have a20 := (a19.exN xN T20).ext x0
    have o20 : Oth md H0 x := hoth.map fun p o _ h nt => x0 _ _ (xN _ _ h nt)
    obtain ⟨dx, fs, gi⟩ := insAt a20.L
    obtain ⟨ty, hty, hkt⟩ := o20.ty W.L W.I Z.kt a20.L
    refine ⟨md, x, rfl, rfl, ⟨dx, fs, gi⟩, md, x, es1, ss1, rfl, a20.L, en1, fun e he => (m3 e he).2.1, .inl ⟨ty, hty, hkt, fun dd H16 x16 hdd => hE _ _ _ ⟨11, by simp, rfl, .inr (.inl ⟨.inl rfl, dd, _, _, rfl, hdd, rfl, fun p H21 x21 np hp => ?_⟩)⟩⟩⟩
    have a21 := (a20.ext x16).ext x21
    refine ⟨two, fun tq ntq => ?_⟩
    have x22 := exn (o := .tup [.str "kind", .int 0]) ntq
    refine eq_tup2 (s := "kind") (x22 _ _ hp) upd_same (.int _) (sh_int (by decide +kernel)) (by simp [PyData.eqv]) ⟨_, rfl, iteF ?_⟩
    have a22 := a21.ext x22
    generalize upd H21 tq _ = H22 at *
    -- both at once
    refine u_next ?_
    refine u_seq ?_
    have nt : ∀ {q : Addr} {o : HO}, H22 q = some o → q ≠ sa ∧ q ≠ la → (∀ ps, o ≠ .tbl ps) → cutT H22 sa la q = some o := fun h n1 n2 => cutT_at h n1.1 n1.2 n2
    refine ⟨_, rfl, _, rfl, _, rfl, _, rfl, _, rfl, cutT H22 sa la, sa, la, ca, pr, ps, pk, pg, _, es, ss, ks, gs, rfl, cutT_ex, cutT_s, cutT_l, cutT_no, a22.D, by omega, a22.tb, ⟨nt a22.R.1 (a22.R.ns a22.D) (fun _ z => by cases z), fun y hy => nt (a22.R.2 y hy) (a22.D.tn (a22.R.2 y hy)) (fun _ z => by cases z)⟩, nt a22.S (a22.S.ns a22.D) (fun _ z => by cases z), nt a22.Kk nk (fun _ z => by cases z), nt a22.Gg ng (fun _ z => by cases z), en, sn, eok, sok, kw, gw, k0, g0, kl, gl, fun H23 x23 D23 T23 => ⟨_, rfl, iteF ?_⟩⟩
    have a23 := a22.cutTE x23 D23 T23
    -- something that is no lift
    refine u_next ?_
    refine u_asg ?_
    refine item_go (K := K) rfl rfl rfl a23 (by omega) fun x H24 hit hoff a24 => ?_
    refine u_if ?_
    refine ⟨a24.tb, fun H25 xN T25 H0 Ech Kc x0 hE hK => ?_⟩
    have a25 := (a24.exN xN T25).ext x0
    have o25 : Itx H0 x := hit.map fun p o _ h nt => x0 _ _ (xN _ _ h nt)
    obtain ⟨dx, fs, gi⟩ := insAt a25.L
    obtain ⟨ty, htm, hty⟩ := o25.ty (K := K)
    obtain ⟨hsh, hkt⟩ := W.sT ty htm
    refine ⟨_, rfl, _, rfl, md, dx, fs, rfl, gi, .inr ⟨ty, hty, hsh⟩, md, x, es1, ss1, rfl, a25.L, en1, z2.nd sn, z1.ok eok, z2.ok sok, .inl ⟨_, hty, hkt, fun H26 x26 => hE _ _ _ ⟨2, by simp, rfl, .inl ⟨by decide, rfl, fun p H27 x27 np hp => ?_⟩⟩⟩⟩
    have a27 := (a25.ext x26).ext x27
    refine ⟨two, fun tq ntq => ?_⟩
    have x28 := exn (o := .tup [.str "lift", .non]) ntq
    refine eq_tup2 (s := "lift") (x28 _ _ hp) upd_same .non (by decide +kernel) (by simp [PyData.eqv]) ⟨_, rfl, iteF ?_⟩
    have a28 := a27.ext x28
    refine u_next ?_
    exact ⟨_, _, _, _, _, _, _, _, _, _, _, _, _, _, rfl, a28.D.mono (by omega), a28.tb⟩
end
end Sn
namespace Sn
open Evl (Ex)
open PySem L2 LamX
abbrev s_NoKind_init : Stmt := inClass (top 4) 0
theorem supS_NoKind : SupS "at" s_NoKind_init where
  kind := rfl
  co := rfl
  gen := rfl
  nocell := by decide +kernel
  sup := by decide +kernel
  cls := by decide +kernel
  slf := by decide +kernel
  fld := by decide +kernel
  free := by decide +kernel
  hd := ⟨_, rfl, rfl⟩
  body := ⟨_, _, _, _, _, _, _, _, _, _, _, _, rfl, ⟨_, fun env => rfl⟩, fun env => rfl⟩
  nd := by decide +kernel
  ndb := by decide +kernel
  ncd := by decide +kernel
theorem TabS.none {H : Hp} {P : Addr} {q : Str} (h : H P = some (.tbl #[])) : TabS H P q := ⟨#[], h, trivial, fun _ _ z => by cases z⟩
theorem FunT.binds {K : PySem.W.Frag} {x qual : Str} {st : Stmt} {f c : Addr} {fd : FuncData} {ps : List Str} (F : FunT K x qual st f fd c)
    (h : ∀ (kV doc pm : Value) (an : Option Addr) (cdv ct : Value) (us : List Value), us.length = ps.length → bindArgs (PySem.W.fnOf x qual (defArgs st) (defBody st) (defScope st) .none kV doc pm an cdv ct) ⟨us, []⟩ = pure (ps.zip us)) : Binds K fd ps [] := by
  obtain ⟨oc, od, kV, doc, pm, an, ct, osl, rfl, lk, hcd⟩ := F.ex
  exact .all (h kV doc pm an (.ref c) ct)
theorem ends {l : PySem.W.OpenLaw} {P : Program} {w : World} {K : PySem.W.Frag} {h : Heap} {mg : Str → Option Value} {fa : Addr} (hP : l.prog = P) (X : K.In h) (G : h.Ns mainGlobals mg) (hfa : mg "law" = some (.ref fa))
    {zL : Str} {tLETTERS : Tok} {tMOST_LETTERS : Tok} {tMOST_KINDS : Tok} {tMOST_STATES : Tok} {tMOST_ROW : Tok}
    {CS CL : Addr} {e0 : Addr} {e1 : Addr} {e2 : Addr} {e3 : Addr} {e4 : Addr} {e5 : Addr} {e6 : Addr} {e7 : Addr} {e8 : Addr} {e9 : Addr} {e10 : Addr} {e11 : Addr} {e12 : Addr} {e13 : Addr}
    {nmK qK : Str} {NK : Addr} {bsK subK bmK : List Value} {snK : List Str} {abK : Bool} {colK : Option Bool} {ddK : Option Addr} {k0K k1K k2K k3K k5K : Option Value} {fK ccK cdK : Addr} {ocK kVK dcK pmK ctK clK clK2 : Value} {odK anK cldK cddK : Option Addr} {slK cslK ccsK : Array (Option Value)} {vsK : Array Value} {fileK : Str} {tfK : Tok}
    {foNoneType roNoneType : Option Value}
    {foint roint : Option Value}
    {fodict rodict : Option Value}
    {fotuple rotuple : Option Value}
    {fostr rostr : Option Value}
    {f_init : Addr} {oc_init kV_init dc_init pm_init ct_init : Value} {od_init an_init : Option Addr} {sl_init : Array (Option Value)} {cd_init : Value}
    {f_call : Addr} {oc_call kV_call dc_call pm_call ct_call : Value} {od_call an_call : Option Addr} {sl_call : Array (Option Value)} {cd_call : Value}
    {f_lifted : Addr} {oc_lifted kV_lifted dc_lifted pm_lifted ct_lifted : Value} {od_lifted an_lifted : Option Addr} {sl_lifted : Array (Option Value)} {cd_lifted : Value}
    {f_lifted_state : Addr} {oc_lifted_state kV_lifted_state dc_lifted_state pm_lifted_state ct_lifted_state : Value} {od_lifted_state an_lifted_state : Option Addr} {sl_lifted_state : Array (Option Value)} {cd_lifted_state : Value}
    {f_rshift : Addr} {oc_rshift kV_rshift dc_rshift pm_rshift ct_rshift : Value} {od_rshift an_rshift : Option Addr} {sl_rshift : Array (Option Value)} {cd_rshift : Value}
    {f_eq : Addr} {oc_eq kV_eq dc_eq pm_eq ct_eq : Value} {od_eq an_eq : Option Addr} {sl_eq : Array (Option Value)} {cd_eq : Value}
    {pE : Addr} {restE : List Value}
    {f_events : Addr} {oc_events kV_events dc_events pm_events ct_events : Value} {od_events an_events : Option Addr} {sl_events : Array (Option Value)} {cd_events : Value}
    {f_l_begun : Addr} {oc_l_begun kV_l_begun dc_l_begun pm_l_begun ct_l_begun : Value} {od_l_begun an_l_begun : Option Addr} {sl_l_begun : Array (Option Value)} {cd_l_begun : Value}
    {f_l_draw : Addr} {oc_l_draw kV_l_draw dc_l_draw pm_l_draw ct_l_draw : Value} {od_l_draw an_l_draw : Option Addr} {sl_l_draw : Array (Option Value)} {cd_l_draw : Value}
    {f_l_pick : Addr} {oc_l_pick kV_l_pick dc_l_pick pm_l_pick ct_l_pick : Value} {od_l_pick an_l_pick : Option Addr} {sl_l_pick : Array (Option Value)} {cd_l_pick : Value}
    {f_l_words : Addr} {oc_l_words kV_l_words dc_l_words pm_l_words ct_l_words : Value} {od_l_words an_l_words : Option Addr} {sl_l_words : Array (Option Value)} {cd_l_words : Value}
    {f_l_row : Addr} {oc_l_row kV_l_row dc_l_row pm_l_row ct_l_row : Value} {od_l_row an_l_row : Option Addr} {sl_l_row : Array (Option Value)} {cd_l_row : Value}
    {f_l_put : Addr} {oc_l_put kV_l_put dc_l_put pm_l_put ct_l_put : Value} {od_l_put an_l_put : Option Addr} {sl_l_put : Array (Option Value)} {cd_l_put : Value}
    {f_l_heard : Addr} {oc_l_heard kV_l_heard dc_l_heard pm_l_heard ct_l_heard : Value} {od_l_heard an_l_heard : Option Addr} {sl_l_heard : Array (Option Value)} {cd_l_heard : Value}
    {f_l_parts : Addr} {oc_l_parts kV_l_parts dc_l_parts pm_l_parts ct_l_parts : Value} {od_l_parts an_l_parts : Option Addr} {sl_l_parts : Array (Option Value)} {cd_l_parts : Value}
    {f_is_word : Addr} {oc_is_word kV_is_word dc_is_word pm_is_word ct_is_word : Value} {od_is_word an_is_word : Option Addr} {sl_is_word : Array (Option Value)} {cd_is_word : Value}
    {f_are_words : Addr} {oc_are_words kV_are_words dc_are_words pm_are_words ct_are_words : Value} {od_are_words an_are_words : Option Addr} {sl_are_words : Array (Option Value)} {cd_are_words : Value}
    {f_need_row : Addr} {oc_need_row kV_need_row dc_need_row pm_need_row ct_need_row : Value} {od_need_row an_need_row : Option Addr} {sl_need_row : Array (Option Value)} {cd_need_row : Value}
    {f_is_lifted_row : Addr} {oc_is_lifted_row kV_is_lifted_row dc_is_lifted_row pm_is_lifted_row ct_is_lifted_row : Value} {od_is_lifted_row an_is_lifted_row : Option Addr} {sl_is_lifted_row : Array (Option Value)} {cd_is_lifted_row : Value}
    {f_are_events : Addr} {oc_are_events kV_are_events dc_are_events pm_are_events ct_are_events : Value} {od_are_events an_are_events : Option Addr} {sl_are_events : Array (Option Value)} {cd_are_events : Value}
    {f_are_snapshots : Addr} {oc_are_snapshots kV_are_snapshots dc_are_snapshots pm_are_snapshots ct_are_snapshots : Value} {od_are_snapshots an_are_snapshots : Option Addr} {sl_are_snapshots : Array (Option Value)} {cd_are_snapshots : Value}
    {f_l_joined_right : Addr} {oc_l_joined_right kV_l_joined_right dc_l_joined_right pm_l_joined_right ct_l_joined_right : Value} {od_l_joined_right an_l_joined_right : Option Addr} {sl_l_joined_right : Array (Option Value)} {cd_l_joined_right : Addr}
    {P_l_joined_right : Addr}
    {f_l_bound_right : Addr} {oc_l_bound_right kV_l_bound_right dc_l_bound_right pm_l_bound_right ct_l_bound_right : Value} {od_l_bound_right an_l_bound_right : Option Addr} {sl_l_bound_right : Array (Option Value)} {cd_l_bound_right : Addr}
    {P_l_bound_right : Addr}
    {f_law : Addr} {oc_law kV_law dc_law pm_law ct_law : Value} {od_law an_law : Option Addr} {sl_law : Array (Option Value)} {cd_law : Addr}
    {P_law : Addr}
    (nd : P_l_joined_right ≠ P_l_bound_right ∧ P_l_joined_right ≠ P_law ∧ P_l_bound_right ≠ P_law) (hT : h.get? P_l_joined_right = some (PySem.W.tabObj #[]) ∧ h.get? P_l_bound_right = some (PySem.W.tabObj #[]) ∧ h.get? P_law = some (PySem.W.tabObj #[]))
    (b_len : PySem.W.nsIn K mainGlobals "len" = some none)
    (b_int : PySem.W.nsIn K mainGlobals "int" = some none)
    (b_abs : PySem.W.nsIn K mainGlobals "abs" = some none)
    (b_range : PySem.W.nsIn K mainGlobals "range" = some none)
    (b_min : PySem.W.nsIn K mainGlobals "min" = some none)
    (b_max : PySem.W.nsIn K mainGlobals "max" = some none)
    (b_dict : PySem.W.nsIn K mainGlobals "dict" = some none)
    (b_tuple : PySem.W.nsIn K mainGlobals "tuple" = some none)
    (b_list : PySem.W.nsIn K mainGlobals "list" = some none)
    (b_set : PySem.W.nsIn K mainGlobals "set" = some none)
    (b_sorted : PySem.W.nsIn K mainGlobals "sorted" = some none)
    (b_all : PySem.W.nsIn K mainGlobals "all" = some none)
    (b_any : PySem.W.nsIn K mainGlobals "any" = some none)
    (b_isinstance : PySem.W.nsIn K mainGlobals "isinstance" = some none)
    (b_enumerate : PySem.W.nsIn K mainGlobals "enumerate" = some none)
    (b_str : PySem.W.nsIn K mainGlobals "str" = some none)
    (b_bool : PySem.W.nsIn K mainGlobals "bool" = some none)
    (b_zip : PySem.W.nsIn K mainGlobals "zip" = some none)
    (b_sum : PySem.W.nsIn K mainGlobals "sum" = some none)
    (b_repr : PySem.W.nsIn K mainGlobals "repr" = some none)
    (b_ValueError : PySem.W.nsIn K mainGlobals "ValueError" = some none)
    (b_super : PySem.W.nsIn K mainGlobals "super" = some none)
    (cs_LETTERS : PySem.W.nsIn K mainGlobals "LETTERS" = some (some (.str zL tLETTERS)))
    (cs_MOST_LETTERS : PySem.W.nsIn K mainGlobals "MOST_LETTERS" = some (some (.int 6 tMOST_LETTERS)))
    (cs_MOST_KINDS : PySem.W.nsIn K mainGlobals "MOST_KINDS" = some (some (.int 4 tMOST_KINDS)))
    (cs_MOST_STATES : PySem.W.nsIn K mainGlobals "MOST_STATES" = some (some (.int 5 tMOST_STATES)))
    (cs_MOST_ROW : PySem.W.nsIn K mainGlobals "MOST_ROW" = some (some (.int 27 tMOST_ROW)))
    (zL_ : zL = abc)
    (n_snap : PySem.W.nsIn K mainGlobals "SnapError" = some (some (.ref CS)))
    (n_e0 : PySem.W.nsIn K mainGlobals "NoEdition" = some (some (.ref e0)))
    (n_e1 : PySem.W.nsIn K mainGlobals "NoState" = some (some (.ref e1)))
    (n_e2 : PySem.W.nsIn K mainGlobals "NoLift" = some (some (.ref e2)))
    (n_e3 : PySem.W.nsIn K mainGlobals "NoBook" = some (some (.ref e3)))
    (n_e4 : PySem.W.nsIn K mainGlobals "NoNumber" = some (some (.ref e4)))
    (n_e5 : PySem.W.nsIn K mainGlobals "TwoPasts" = some (some (.ref e5)))
    (n_e6 : PySem.W.nsIn K mainGlobals "NoPlan" = some (some (.ref e6)))
    (n_e7 : PySem.W.nsIn K mainGlobals "NoHands" = some (some (.ref e7)))
    (n_e8 : PySem.W.nsIn K mainGlobals "NoKey" = some (some (.ref e8)))
    (n_e9 : PySem.W.nsIn K mainGlobals "NothingLeft" = some (some (.ref e9)))
    (n_e10 : PySem.W.nsIn K mainGlobals "NoText" = some (some (.ref e10)))
    (n_e11 : PySem.W.nsIn K mainGlobals "NoKind" = some (some (.ref e11)))
    (n_e12 : PySem.W.nsIn K mainGlobals "NoHistory" = some (some (.ref e12)))
    (n_e13 : PySem.W.nsIn K mainGlobals "NotRight" = some (some (.ref e13)))
    (n_Lift : PySem.W.nsIn K mainGlobals "Lift" = some (some (.ref CL)))
    (is_2_0 : PySem.W.kitOne K (.ref e2) (.ref e0) = some false)
    (is_2_1 : PySem.W.kitOne K (.ref e2) (.ref e1) = some false)
    (is_2_2 : PySem.W.kitOne K (.ref e2) (.ref e2) = some true)
    (is_2_3 : PySem.W.kitOne K (.ref e2) (.ref e3) = some false)
    (is_2_4 : PySem.W.kitOne K (.ref e2) (.ref e4) = some false)
    (is_2_5 : PySem.W.kitOne K (.ref e2) (.ref e5) = some false)
    (is_2_6 : PySem.W.kitOne K (.ref e2) (.ref e6) = some false)
    (is_2_7 : PySem.W.kitOne K (.ref e2) (.ref e7) = some false)
    (is_2_8 : PySem.W.kitOne K (.ref e2) (.ref e8) = some false)
    (is_2_9 : PySem.W.kitOne K (.ref e2) (.ref e9) = some false)
    (is_2_10 : PySem.W.kitOne K (.ref e2) (.ref e10) = some false)
    (is_2_11 : PySem.W.kitOne K (.ref e2) (.ref e11) = some false)
    (is_2_12 : PySem.W.kitOne K (.ref e2) (.ref e12) = some false)
    (is_2_13 : PySem.W.kitOne K (.ref e2) (.ref e13) = some false)
    (ve_2 : PySem.W.kitOne K (.ref e2) (.type "ValueError") = some true)
    (sn_2 : PySem.W.exmOne K (.ref e2) (.ref CS) = some true)
    (hg_2 : PySem.W.findIn K (.ref e2) "__getattribute__" = some (some (.builtin "BaseException.__getattribute__")))
    (hk_2 : PySem.W.findIn K (.ref e2) "__getattr__" = some none)
    (hs_2 : PySem.W.subIn K (.ref e2) (.type "BaseException") = some true)
    (hd_2 : PySem.W.hasDictIn K e2 = true)
    (ha_2 : PySem.W.findIn K (.ref e2) "__class__" = some (some (.builtin "object.__class__")))
    (hm_2 : PySem.W.mroIn K e2 (.type "object") = some true)
    (ke_2 : PySem.W.keepIn K (.ref e2) = true)
    (ty_2 : PySem.W.typeIn K (.ref e2) = some (.type "type"))
    (is_11_0 : PySem.W.kitOne K (.ref e11) (.ref e0) = some false)
    (is_11_1 : PySem.W.kitOne K (.ref e11) (.ref e1) = some false)
    (is_11_2 : PySem.W.kitOne K (.ref e11) (.ref e2) = some false)
    (is_11_3 : PySem.W.kitOne K (.ref e11) (.ref e3) = some false)
    (is_11_4 : PySem.W.kitOne K (.ref e11) (.ref e4) = some false)
    (is_11_5 : PySem.W.kitOne K (.ref e11) (.ref e5) = some false)
    (is_11_6 : PySem.W.kitOne K (.ref e11) (.ref e6) = some false)
    (is_11_7 : PySem.W.kitOne K (.ref e11) (.ref e7) = some false)
    (is_11_8 : PySem.W.kitOne K (.ref e11) (.ref e8) = some false)
    (is_11_9 : PySem.W.kitOne K (.ref e11) (.ref e9) = some false)
    (is_11_10 : PySem.W.kitOne K (.ref e11) (.ref e10) = some false)
    (is_11_11 : PySem.W.kitOne K (.ref e11) (.ref e11) = some true)
    (is_11_12 : PySem.W.kitOne K (.ref e11) (.ref e12) = some false)
    (is_11_13 : PySem.W.kitOne K (.ref e11) (.ref e13) = some false)
    (ve_11 : PySem.W.kitOne K (.ref e11) (.type "ValueError") = some true)
    (sn_11 : PySem.W.exmOne K (.ref e11) (.ref CS) = some true)
    (hg_11 : PySem.W.findIn K (.ref e11) "__getattribute__" = some (some (.builtin "BaseException.__getattribute__")))
    (hk_11 : PySem.W.findIn K (.ref e11) "__getattr__" = some none)
    (hs_11 : PySem.W.subIn K (.ref e11) (.type "BaseException") = some true)
    (hd_11 : PySem.W.hasDictIn K e11 = true)
    (ha_11 : PySem.W.findIn K (.ref e11) "__class__" = some (some (.builtin "object.__class__")))
    (hm_11 : PySem.W.mroIn K e11 (.type "object") = some true)
    (ke_11 : PySem.W.keepIn K (.ref e11) = true)
    (ty_11 : PySem.W.typeIn K (.ref e11) = some (.type "type"))
    (hn : PySem.W.specialIn K (.builtin "object.__class__") "__get__" = some (some (.builtin "getset_descriptor.__get__")))
    (htk : PySem.W.takesIn K (.builtin "object.__class__") = some true)
    (at11 : PySem.W.findIn K (.ref e11) "at" = some none)
    (x2 : PySem.W.excIn K e2 [.type "ValueError", .type "Exception", .type "BaseException", .type "object"] "ValueError.__new__" = true)
    (oxK : K.lookup e11 = some (excClassObj nmK qK e11 NK bsK bmK true snK subK abK colK ddK k0K k1K k2K k3K k5K "ValueError.__new__"))
    (rvK : PySem.HandSPX.refsVE bmK = true)
    (saK : PySem.W.findIn K (.ref e11) "__setattr__" = some (some (.builtin "object.__setattr__")))
    (inK : PySem.W.findIn K (.ref e11) "__init__" = some (some (.ref fK)))
    (tiK : PySem.W.typeIn K (.ref fK) = some (.type "function"))
    (lK : K.lookup fK = some ⟨ocK, odK, .func (PySem.W.ksFn "__init__" "NoKind.__init__" (defArgs s_NoKind_init) (defBody s_NoKind_init) (defScope s_NoKind_init) .none kVK dcK pmK anK (.ref cdK) ctK ccK), slK⟩)
    (cK : PySem.W.codeIn K (.ref cdK) "NoKind.__init__" = true)
    (lcK : K.lookup cdK = some ⟨clK, cddK, .fields vsK, ccsK⟩)
    (fiK : vsK[2]? = some (.str fileK tfK))
    (pfK : ((P.main.file : Str) == fileK) = true)
    (ceK : K.lookup ccK = some ⟨clK2, cldK, .cell (some (.ref e11)), cslK⟩)
    (alK : PySem.W.ks_superIn K e11 e11 "__init__" = some (some (.builtin "ValueError.__init__")))
    (opK : PySem.W.nsIn K cStatics "thirdparty.any" = some none)
    (moK : PySem.W.mroIn K e11 (.ref e11) = some true)
    (svK : PySem.W.subIn K (.ref e11) (.type "ValueError") = some true)
    (tpK : (P.main.scope.names.lookup ("super" : Str)).isSome = false)
    (pgL : PySem.W.plainGet K CL Str.empty = true)
    (hdL : PySem.W.hasDictIn K CL = true)
    (poL : PySem.W.plainOver K CL = true)
    (saL : PySem.W.findIn K (.ref CL) "__setattr__" = some (some (.builtin "object.__setattr__")))
    (evL : PySem.W.findIn K (.ref CL) "own_events" = some none)
    (stL : PySem.W.findIn K (.ref CL) "own_snapshots" = some none)
    (haL : PySem.W.findIn K (.ref CL) "__class__" = some (some (.builtin "object.__class__")))
    (hmL : PySem.W.mroIn K CL (.type "object") = some true)
    (isL : PySem.W.kitOne K (.ref CL) (.ref CL) = some true)
    (mkL_ : PySem.W.makesIn K CL = true)
    (kpL : PySem.W.keepIn K (.ref CL) = true)
    (neL : PySem.W.findIn K (.ref CL) "__ne__" = some (some (.builtin "object.__ne__")))
    (sfL : PySem.W.selfFirst K CL = true)
    (rrL : PySem.W.findIn K (.ref CL) "__rrshift__" = some none)
    (ktL : PySem.W.kitOne K (.ref CL) (.type "tuple") = some false)
    (sf_NoneType : PySem.W.findIn K (.type "NoneType") "__rshift__" = some foNoneType)
    (sr_NoneType : PySem.W.findIn K (.type "NoneType") "__rrshift__" = some roNoneType)
    (ss_NoneType : PySem.W.subIn K (.type "NoneType") (.ref CL) = some false)
    (sk_NoneType : PySem.W.kitOne K (.type "NoneType") (.ref CL) = some false)
    (sf_int : PySem.W.findIn K (.type "int") "__rshift__" = some foint)
    (sr_int : PySem.W.findIn K (.type "int") "__rrshift__" = some roint)
    (ss_int : PySem.W.subIn K (.type "int") (.ref CL) = some false)
    (sk_int : PySem.W.kitOne K (.type "int") (.ref CL) = some false)
    (sf_dict : PySem.W.findIn K (.type "dict") "__rshift__" = some fodict)
    (sr_dict : PySem.W.findIn K (.type "dict") "__rrshift__" = some rodict)
    (ss_dict : PySem.W.subIn K (.type "dict") (.ref CL) = some false)
    (sk_dict : PySem.W.kitOne K (.type "dict") (.ref CL) = some false)
    (sf_tuple : PySem.W.findIn K (.type "tuple") "__rshift__" = some fotuple)
    (sr_tuple : PySem.W.findIn K (.type "tuple") "__rrshift__" = some rotuple)
    (ss_tuple : PySem.W.subIn K (.type "tuple") (.ref CL) = some false)
    (sk_tuple : PySem.W.kitOne K (.type "tuple") (.ref CL) = some false)
    (sf_str : PySem.W.findIn K (.type "str") "__rshift__" = some fostr)
    (sr_str : PySem.W.findIn K (.type "str") "__rrshift__" = some rostr)
    (ss_str : PySem.W.subIn K (.type "str") (.ref CL) = some false)
    (sk_str : PySem.W.kitOne K (.type "str") (.ref CL) = some false)
    (a_init : PySem.W.findIn K (.ref CL) "__init__" = some (some (.ref f_init)))
    (l_init : K.lookup f_init = some ⟨oc_init, od_init, .func (PySem.W.fnOf "__init__" "Lift.__init__" (defArgs s_Lift___init) (defBody s_Lift___init) (defScope s_Lift___init) .none kV_init dc_init pm_init an_init cd_init ct_init), sl_init⟩)
    (c_init : PySem.W.codeIn K cd_init "Lift.__init__" = true)
    (k_init : PySem.W.keepIn K (.ref f_init) = true)
    (i_init : PySem.W.isFn K (.ref f_init) = true)
    (a_call : PySem.W.findIn K (.ref CL) "__call__" = some (some (.ref f_call)))
    (l_call : K.lookup f_call = some ⟨oc_call, od_call, .func (PySem.W.fnOf "__call__" "Lift.__call__" (defArgs s_Lift___call) (defBody s_Lift___call) (defScope s_Lift___call) .none kV_call dc_call pm_call an_call cd_call ct_call), sl_call⟩)
    (c_call : PySem.W.codeIn K cd_call "Lift.__call__" = true)
    (k_call : PySem.W.keepIn K (.ref f_call) = true)
    (i_call : PySem.W.isFn K (.ref f_call) = true)
    (a_lifted : PySem.W.findIn K (.ref CL) "lifted" = some (some (.ref f_lifted)))
    (l_lifted : K.lookup f_lifted = some ⟨oc_lifted, od_lifted, .func (PySem.W.fnOf "lifted" "Lift.lifted" (defArgs s_Lift_lifted) (defBody s_Lift_lifted) (defScope s_Lift_lifted) .none kV_lifted dc_lifted pm_lifted an_lifted cd_lifted ct_lifted), sl_lifted⟩)
    (c_lifted : PySem.W.codeIn K cd_lifted "Lift.lifted" = true)
    (k_lifted : PySem.W.keepIn K (.ref f_lifted) = true)
    (i_lifted : PySem.W.isFn K (.ref f_lifted) = true)
    (a_lifted_state : PySem.W.findIn K (.ref CL) "lifted_state" = some (some (.ref f_lifted_state)))
    (l_lifted_state : K.lookup f_lifted_state = some ⟨oc_lifted_state, od_lifted_state, .func (PySem.W.fnOf "lifted_state" "Lift.lifted_state" (defArgs s_Lift_lifted_state) (defBody s_Lift_lifted_state) (defScope s_Lift_lifted_state) .none kV_lifted_state dc_lifted_state pm_lifted_state an_lifted_state cd_lifted_state ct_lifted_state), sl_lifted_state⟩)
    (c_lifted_state : PySem.W.codeIn K cd_lifted_state "Lift.lifted_state" = true)
    (k_lifted_state : PySem.W.keepIn K (.ref f_lifted_state) = true)
    (i_lifted_state : PySem.W.isFn K (.ref f_lifted_state) = true)
    (a_rshift : PySem.W.findIn K (.ref CL) "__rshift__" = some (some (.ref f_rshift)))
    (l_rshift : K.lookup f_rshift = some ⟨oc_rshift, od_rshift, .func (PySem.W.fnOf "__rshift__" "Lift.__rshift__" (defArgs s_Lift___rshift) (defBody s_Lift___rshift) (defScope s_Lift___rshift) .none kV_rshift dc_rshift pm_rshift an_rshift cd_rshift ct_rshift), sl_rshift⟩)
    (c_rshift : PySem.W.codeIn K cd_rshift "Lift.__rshift__" = true)
    (k_rshift : PySem.W.keepIn K (.ref f_rshift) = true)
    (i_rshift : PySem.W.isFn K (.ref f_rshift) = true)
    (a_eq : PySem.W.findIn K (.ref CL) "__eq__" = some (some (.ref f_eq)))
    (l_eq : K.lookup f_eq = some ⟨oc_eq, od_eq, .func (PySem.W.fnOf "__eq__" "Lift.__eq__" (defArgs s_Lift___eq) (defBody s_Lift___eq) (defScope s_Lift___eq) .none kV_eq dc_eq pm_eq an_eq cd_eq ct_eq), sl_eq⟩)
    (c_eq : PySem.W.codeIn K cd_eq "Lift.__eq__" = true)
    (k_eq : PySem.W.keepIn K (.ref f_eq) = true)
    (i_eq : PySem.W.isFn K (.ref f_eq) = true)
    (fi_call : PySem.W.fnIn K f_call = true)
    (a_events : PySem.W.findIn K (.ref CL) "events" = some (some (.ref pE)))
    (g_events : PySem.W.specialIn K (.ref pE) "__get__" = some (some (.builtin "property.__get__")))
    (t_events : PySem.W.takesIn K (.ref pE) = some true)
    (r_events : PySem.W.recIn K pE "property" = some (.ref f_events :: restE))
    (l_events : K.lookup f_events = some ⟨oc_events, od_events, .func (PySem.W.fnOf "events" "Lift.events" (defArgs s_Lift_events) (defBody s_Lift_events) (defScope s_Lift_events) .none kV_events dc_events pm_events an_events cd_events ct_events), sl_events⟩)
    (c_events : PySem.W.codeIn K cd_events "Lift.events" = true)
    (k_events : PySem.W.keepIn K (.ref f_events) = true)
    (a_l_begun : PySem.W.nsIn K mainGlobals "_law_begun" = some (some (.ref f_l_begun)))
    (l_l_begun : K.lookup f_l_begun = some ⟨oc_l_begun, od_l_begun, .func (PySem.W.fnOf "_law_begun" "_law_begun" (defArgs s_l_begun) (defBody s_l_begun) (defScope s_l_begun) .none kV_l_begun dc_l_begun pm_l_begun an_l_begun cd_l_begun ct_l_begun), sl_l_begun⟩)
    (c_l_begun : PySem.W.codeIn K cd_l_begun "_law_begun" = true)
    (k_l_begun : PySem.W.keepIn K (.ref f_l_begun) = true)
    (a_l_draw : PySem.W.nsIn K mainGlobals "_law_draw" = some (some (.ref f_l_draw)))
    (l_l_draw : K.lookup f_l_draw = some ⟨oc_l_draw, od_l_draw, .func (PySem.W.fnOf "_law_draw" "_law_draw" (defArgs sDraw) (defBody sDraw) (defScope sDraw) .none kV_l_draw dc_l_draw pm_l_draw an_l_draw cd_l_draw ct_l_draw), sl_l_draw⟩)
    (c_l_draw : PySem.W.codeIn K cd_l_draw "_law_draw" = true)
    (k_l_draw : PySem.W.keepIn K (.ref f_l_draw) = true)
    (a_l_pick : PySem.W.nsIn K mainGlobals "_law_pick" = some (some (.ref f_l_pick)))
    (l_l_pick : K.lookup f_l_pick = some ⟨oc_l_pick, od_l_pick, .func (PySem.W.fnOf "_law_pick" "_law_pick" (defArgs s_l_pick) (defBody s_l_pick) (defScope s_l_pick) .none kV_l_pick dc_l_pick pm_l_pick an_l_pick cd_l_pick ct_l_pick), sl_l_pick⟩)
    (c_l_pick : PySem.W.codeIn K cd_l_pick "_law_pick" = true)
    (k_l_pick : PySem.W.keepIn K (.ref f_l_pick) = true)
    (a_l_words : PySem.W.nsIn K mainGlobals "_law_words" = some (some (.ref f_l_words)))
    (l_l_words : K.lookup f_l_words = some ⟨oc_l_words, od_l_words, .func (PySem.W.fnOf "_law_words" "_law_words" (defArgs s_l_words) (defBody s_l_words) (defScope s_l_words) .none kV_l_words dc_l_words pm_l_words an_l_words cd_l_words ct_l_words), sl_l_words⟩)
    (c_l_words : PySem.W.codeIn K cd_l_words "_law_words" = true)
    (k_l_words : PySem.W.keepIn K (.ref f_l_words) = true)
    (a_l_row : PySem.W.nsIn K mainGlobals "_law_row" = some (some (.ref f_l_row)))
    (l_l_row : K.lookup f_l_row = some ⟨oc_l_row, od_l_row, .func (PySem.W.fnOf "_law_row" "_law_row" (defArgs s_l_row) (defBody s_l_row) (defScope s_l_row) .none kV_l_row dc_l_row pm_l_row an_l_row cd_l_row ct_l_row), sl_l_row⟩)
    (c_l_row : PySem.W.codeIn K cd_l_row "_law_row" = true)
    (k_l_row : PySem.W.keepIn K (.ref f_l_row) = true)
    (a_l_put : PySem.W.nsIn K mainGlobals "_law_put" = some (some (.ref f_l_put)))
    (l_l_put : K.lookup f_l_put = some ⟨oc_l_put, od_l_put, .func (PySem.W.fnOf "_law_put" "_law_put" (defArgs s_l_put) (defBody s_l_put) (defScope s_l_put) .none kV_l_put dc_l_put pm_l_put an_l_put cd_l_put ct_l_put), sl_l_put⟩)
    (c_l_put : PySem.W.codeIn K cd_l_put "_law_put" = true)
    (k_l_put : PySem.W.keepIn K (.ref f_l_put) = true)
    (a_l_heard : PySem.W.nsIn K mainGlobals "_law_heard" = some (some (.ref f_l_heard)))
    (l_l_heard : K.lookup f_l_heard = some ⟨oc_l_heard, od_l_heard, .func (PySem.W.fnOf "_law_heard" "_law_heard" (defArgs s_l_heard) (defBody s_l_heard) (defScope s_l_heard) .none kV_l_heard dc_l_heard pm_l_heard an_l_heard cd_l_heard ct_l_heard), sl_l_heard⟩)
    (c_l_heard : PySem.W.codeIn K cd_l_heard "_law_heard" = true)
    (k_l_heard : PySem.W.keepIn K (.ref f_l_heard) = true)
    (a_l_parts : PySem.W.nsIn K mainGlobals "_law_parts" = some (some (.ref f_l_parts)))
    (l_l_parts : K.lookup f_l_parts = some ⟨oc_l_parts, od_l_parts, .func (PySem.W.fnOf "_law_parts" "_law_parts" (defArgs s_l_parts) (defBody s_l_parts) (defScope s_l_parts) .none kV_l_parts dc_l_parts pm_l_parts an_l_parts cd_l_parts ct_l_parts), sl_l_parts⟩)
    (c_l_parts : PySem.W.codeIn K cd_l_parts "_law_parts" = true)
    (k_l_parts : PySem.W.keepIn K (.ref f_l_parts) = true)
    (a_is_word : PySem.W.nsIn K mainGlobals "is_word" = some (some (.ref f_is_word)))
    (l_is_word : K.lookup f_is_word = some ⟨oc_is_word, od_is_word, .func (PySem.W.fnOf "is_word" "is_word" (defArgs s_is_word) (defBody s_is_word) (defScope s_is_word) .none kV_is_word dc_is_word pm_is_word an_is_word cd_is_word ct_is_word), sl_is_word⟩)
    (c_is_word : PySem.W.codeIn K cd_is_word "is_word" = true)
    (k_is_word : PySem.W.keepIn K (.ref f_is_word) = true)
    (a_are_words : PySem.W.nsIn K mainGlobals "are_words" = some (some (.ref f_are_words)))
    (l_are_words : K.lookup f_are_words = some ⟨oc_are_words, od_are_words, .func (PySem.W.fnOf "are_words" "are_words" (defArgs s_are_words) (defBody s_are_words) (defScope s_are_words) .none kV_are_words dc_are_words pm_are_words an_are_words cd_are_words ct_are_words), sl_are_words⟩)
    (c_are_words : PySem.W.codeIn K cd_are_words "are_words" = true)
    (k_are_words : PySem.W.keepIn K (.ref f_are_words) = true)
    (a_need_row : PySem.W.nsIn K mainGlobals "need_row" = some (some (.ref f_need_row)))
    (l_need_row : K.lookup f_need_row = some ⟨oc_need_row, od_need_row, .func (PySem.W.fnOf "need_row" "need_row" (defArgs s_need_row) (defBody s_need_row) (defScope s_need_row) .none kV_need_row dc_need_row pm_need_row an_need_row cd_need_row ct_need_row), sl_need_row⟩)
    (c_need_row : PySem.W.codeIn K cd_need_row "need_row" = true)
    (k_need_row : PySem.W.keepIn K (.ref f_need_row) = true)
    (a_is_lifted_row : PySem.W.nsIn K mainGlobals "is_lifted_row" = some (some (.ref f_is_lifted_row)))
    (l_is_lifted_row : K.lookup f_is_lifted_row = some ⟨oc_is_lifted_row, od_is_lifted_row, .func (PySem.W.fnOf "is_lifted_row" "is_lifted_row" (defArgs s_is_lifted_row) (defBody s_is_lifted_row) (defScope s_is_lifted_row) .none kV_is_lifted_row dc_is_lifted_row pm_is_lifted_row an_is_lifted_row cd_is_lifted_row ct_is_lifted_row), sl_is_lifted_row⟩)
    (c_is_lifted_row : PySem.W.codeIn K cd_is_lifted_row "is_lifted_row" = true)
    (k_is_lifted_row : PySem.W.keepIn K (.ref f_is_lifted_row) = true)
    (a_are_events : PySem.W.nsIn K mainGlobals "are_events" = some (some (.ref f_are_events)))
    (l_are_events : K.lookup f_are_events = some ⟨oc_are_events, od_are_events, .func (PySem.W.fnOf "are_events" "are_events" (defArgs s_are_events) (defBody s_are_events) (defScope s_are_events) .none kV_are_events dc_are_events pm_are_events an_are_events cd_are_events ct_are_events), sl_are_events⟩)
    (c_are_events : PySem.W.codeIn K cd_are_events "are_events" = true)
    (k_are_events : PySem.W.keepIn K (.ref f_are_events) = true)
    (a_are_snapshots : PySem.W.nsIn K mainGlobals "are_snapshots" = some (some (.ref f_are_snapshots)))
    (l_are_snapshots : K.lookup f_are_snapshots = some ⟨oc_are_snapshots, od_are_snapshots, .func (PySem.W.fnOf "are_snapshots" "are_snapshots" (defArgs s_are_snapshots) (defBody s_are_snapshots) (defScope s_are_snapshots) .none kV_are_snapshots dc_are_snapshots pm_are_snapshots an_are_snapshots cd_are_snapshots ct_are_snapshots), sl_are_snapshots⟩)
    (c_are_snapshots : PySem.W.codeIn K cd_are_snapshots "are_snapshots" = true)
    (k_are_snapshots : PySem.W.keepIn K (.ref f_are_snapshots) = true)
    (a_l_joined_right : PySem.W.nsIn K mainGlobals "_law_joined_right" = some (some (.ref f_l_joined_right)))
    (l_l_joined_right : K.lookup f_l_joined_right = some ⟨oc_l_joined_right, od_l_joined_right, .func (PySem.W.fnOf "_law_joined_right" "_law_joined_right" (defArgs s_l_joined_right) (defBody s_l_joined_right) (defScope s_l_joined_right) .none kV_l_joined_right dc_l_joined_right pm_l_joined_right an_l_joined_right (.ref cd_l_joined_right) ct_l_joined_right), sl_l_joined_right⟩)
    (c_l_joined_right : PySem.W.codeIn K (.ref cd_l_joined_right) "_law_joined_right" = true)
    (k_l_joined_right : PySem.W.keepIn K (.ref f_l_joined_right) = true)
    (t_l_joined_right : PySem.W.codeHdIn K cd_l_joined_right P_l_joined_right = true)
    (u_l_joined_right : K.lookup P_l_joined_right = none)
    (a_l_bound_right : PySem.W.nsIn K mainGlobals "_law_bound_right" = some (some (.ref f_l_bound_right)))
    (l_l_bound_right : K.lookup f_l_bound_right = some ⟨oc_l_bound_right, od_l_bound_right, .func (PySem.W.fnOf "_law_bound_right" "_law_bound_right" (defArgs s_l_bound_right) (defBody s_l_bound_right) (defScope s_l_bound_right) .none kV_l_bound_right dc_l_bound_right pm_l_bound_right an_l_bound_right (.ref cd_l_bound_right) ct_l_bound_right), sl_l_bound_right⟩)
    (c_l_bound_right : PySem.W.codeIn K (.ref cd_l_bound_right) "_law_bound_right" = true)
    (k_l_bound_right : PySem.W.keepIn K (.ref f_l_bound_right) = true)
    (t_l_bound_right : PySem.W.codeHdIn K cd_l_bound_right P_l_bound_right = true)
    (u_l_bound_right : K.lookup P_l_bound_right = none)
    (a_law : PySem.W.nsIn K mainGlobals "law" = some (some (.ref f_law)))
    (l_law : K.lookup f_law = some ⟨oc_law, od_law, .func (PySem.W.fnOf "law" "law" (defArgs s_law) (defBody s_law) (defScope s_law) .none kV_law dc_law pm_law an_law (.ref cd_law) ct_law), sl_law⟩)
    (c_law : PySem.W.codeIn K (.ref cd_law) "law" = true)
    (k_law : PySem.W.keepIn K (.ref f_law) = true)
    (t_law : PySem.W.codeHdIn K cd_law P_law = true)
    (u_law : K.lookup P_law = none)
    : LawAtS l w K CX0 10 63 "_law_script" mg fa h := by
  subst hP
  have q_law := hfa.symm.trans (PySem.W.mg_of X G a_law)
  cases q_law
  have B : Bt mg := ⟨PySem.W.mg_none_of X G b_len, PySem.W.mg_none_of X G b_int, PySem.W.mg_none_of X G b_abs, PySem.W.mg_none_of X G b_range, PySem.W.mg_none_of X G b_min, PySem.W.mg_none_of X G b_max, PySem.W.mg_none_of X G b_dict, PySem.W.mg_none_of X G b_tuple, PySem.W.mg_none_of X G b_list, PySem.W.mg_none_of X G b_set, PySem.W.mg_none_of X G b_sorted, PySem.W.mg_none_of X G b_all, PySem.W.mg_none_of X G b_any, PySem.W.mg_none_of X G b_isinstance, PySem.W.mg_none_of X G b_enumerate, PySem.W.mg_none_of X G b_str, PySem.W.mg_none_of X G b_bool, PySem.W.mg_none_of X G b_zip, PySem.W.mg_none_of X G b_sum, PySem.W.mg_none_of X G b_repr, PySem.W.mg_none_of X G b_ValueError, PySem.W.mg_none_of X G b_super⟩
  have C : Cst mg := ⟨⟨_, by rw [← zL_]; exact PySem.W.mg_of X G cs_LETTERS⟩, ⟨_, PySem.W.mg_of X G cs_MOST_LETTERS⟩, ⟨_, PySem.W.mg_of X G cs_MOST_KINDS⟩, ⟨_, PySem.W.mg_of X G cs_MOST_STATES⟩, ⟨_, PySem.W.mg_of X G cs_MOST_ROW⟩⟩
  let e : Nat → Addr := fun i => match i with | 0 => e0 | 1 => e1 | 2 => e2 | 3 => e3 | 4 => e4 | 5 => e5 | 6 => e6 | 7 => e7 | 8 => e8 | 9 => e9 | 10 => e10 | 11 => e11 | 12 => e12 | _ => e13
  have er : ErrF K mg e CS [2, 11] :=
    { nm := fun i hi => match i, hi with | 0, _ => PySem.W.mg_of X G n_e0 | 1, _ => PySem.W.mg_of X G n_e1 | 2, _ => PySem.W.mg_of X G n_e2 | 3, _ => PySem.W.mg_of X G n_e3 | 4, _ => PySem.W.mg_of X G n_e4 | 5, _ => PySem.W.mg_of X G n_e5 | 6, _ => PySem.W.mg_of X G n_e6 | 7, _ => PySem.W.mg_of X G n_e7 | 8, _ => PySem.W.mg_of X G n_e8 | 9, _ => PySem.W.mg_of X G n_e9 | 10, _ => PySem.W.mg_of X G n_e10 | 11, _ => PySem.W.mg_of X G n_e11 | 12, _ => PySem.W.mg_of X G n_e12 | 13, _ => PySem.W.mg_of X G n_e13 | (n + 14), hi => absurd hi (by omega)
      snap := PySem.W.mg_of X G n_snap
      lt := by decide
      is := fun i hi j hj => by
        rcases List.mem_cons.mp hi with rfl | hi
        · match j, hj with | 0, _ => exact is_2_0 | 1, _ => exact is_2_1 | 2, _ => exact is_2_2 | 3, _ => exact is_2_3 | 4, _ => exact is_2_4 | 5, _ => exact is_2_5 | 6, _ => exact is_2_6 | 7, _ => exact is_2_7 | 8, _ => exact is_2_8 | 9, _ => exact is_2_9 | 10, _ => exact is_2_10 | 11, _ => exact is_2_11 | 12, _ => exact is_2_12 | 13, _ => exact is_2_13 | (n + 14), hj => exact absurd hj (by omega)
        · obtain rfl := List.mem_singleton.mp hi
          match j, hj with | 0, _ => exact is_11_0 | 1, _ => exact is_11_1 | 2, _ => exact is_11_2 | 3, _ => exact is_11_3 | 4, _ => exact is_11_4 | 5, _ => exact is_11_5 | 6, _ => exact is_11_6 | 7, _ => exact is_11_7 | 8, _ => exact is_11_8 | 9, _ => exact is_11_9 | 10, _ => exact is_11_10 | 11, _ => exact is_11_11 | 12, _ => exact is_11_12 | 13, _ => exact is_11_13 | (n + 14), hj => exact absurd hj (by omega)
      ve := fun i hi => (List.mem_cons.mp hi).elim (fun z => by subst z; exact ve_2) fun z => by rw [List.mem_singleton.mp z]; exact ve_11
      sn := fun i hi => (List.mem_cons.mp hi).elim (fun z => by subst z; exact sn_2) fun z => by rw [List.mem_singleton.mp z]; exact sn_11
      ec := fun i hi => (List.mem_cons.mp hi).elim (fun z => by subst z; exact ⟨hg_2, hk_2, hs_2, hd_2, ha_2, hn, htk, hm_2⟩) fun z => by rw [List.mem_singleton.mp z]; exact ⟨hg_11, hk_11, hs_11, hd_11, ha_11, hn, htk, hm_11⟩
      xf := fun i hi h11 => (List.mem_cons.mp hi).elim (fun z => by omega) fun z => by rw [List.mem_singleton.mp z]; exact ⟨hg_11, hk_11, hs_11, hd_11⟩
      at11 := fun _ => at11
      at12 := fun z => by simp at z
      at13 := fun z => by simp at z }
  have L : LiftC K CL := ⟨⟨pgL, hdL, poL, saL⟩, evL, stL⟩
  have I : LiftI K mg CL := ⟨PySem.W.mg_of X G n_Lift, haL, hn, htk, hmL, isL⟩
  have R0 : Raise0 K mg (e 2) "NoLift" := ⟨⟨_, _, _, _, PySem.F.excBase_ValueError, x2⟩, PySem.W.mg_of X G n_e2, ke_2, hs_2, ty_2⟩
  have ox : OexC K (e 11) := ⟨⟨_, _, _, _, _, _, _, _, _, _, _, _, _, _, _, oxK, rvK⟩, saK, hs_11, ty_11, ke_11⟩
  have SI : SupI l.prog K mg "NoKind.__init__" s_NoKind_init "at" (e 11) fK _ := { ex := ⟨_, _, _, _, _, _, _, _, _, _, _, _, _, _, _, _, _, _, _, _, rfl, lK, cK, lcK, fiK, pfK, ceK⟩, along := alK, op := opK, self := moK, subVE := svK, top := tpK, mgs := B.super, T := ox, no := at11 }
  have F_init := fun_mk (st := s_Lift___init) l_init c_init k_init
  have F_call := fun_mk (st := s_Lift___call) l_call c_call k_call
  have F_lifted := fun_mk (st := s_Lift_lifted) l_lifted c_lifted k_lifted
  have F_lifted_state := fun_mk (st := s_Lift_lifted_state) l_lifted_state c_lifted_state k_lifted_state
  have F_rshift := fun_mk (st := s_Lift___rshift) l_rshift c_rshift k_rshift
  have F_eq := fun_mk (st := s_Lift___eq) l_eq c_eq k_eq
  have F_events := fun_mk (st := s_Lift_events) l_events c_events k_events
  have F_l_begun := fun_mk (st := s_l_begun) l_l_begun c_l_begun k_l_begun
  have F_l_draw := fun_mk (st := sDraw) l_l_draw c_l_draw k_l_draw
  have F_l_pick := fun_mk (st := s_l_pick) l_l_pick c_l_pick k_l_pick
  have F_l_words := fun_mk (st := s_l_words) l_l_words c_l_words k_l_words
  have F_l_row := fun_mk (st := s_l_row) l_l_row c_l_row k_l_row
  have F_l_put := fun_mk (st := s_l_put) l_l_put c_l_put k_l_put
  have F_l_heard := fun_mk (st := s_l_heard) l_l_heard c_l_heard k_l_heard
  have F_l_parts := fun_mk (st := s_l_parts) l_l_parts c_l_parts k_l_parts
  have F_is_word := fun_mk (st := s_is_word) l_is_word c_is_word k_is_word
  have F_are_words := fun_mk (st := s_are_words) l_are_words c_are_words k_are_words
  have F_need_row := fun_mk (st := s_need_row) l_need_row c_need_row k_need_row
  have F_is_lifted_row := fun_mk (st := s_is_lifted_row) l_is_lifted_row c_is_lifted_row k_is_lifted_row
  have F_are_events := fun_mk (st := s_are_events) l_are_events c_are_events k_are_events
  have F_are_snapshots := fun_mk (st := s_are_snapshots) l_are_snapshots c_are_snapshots k_are_snapshots
  have F_l_joined_right : FunT K "_law_joined_right" "_law_joined_right" s_l_joined_right _ _ cd_l_joined_right := ⟨⟨_, _, _, _, _, _, _, _, rfl, l_l_joined_right, c_l_joined_right⟩, k_l_joined_right⟩
  have F_l_bound_right : FunT K "_law_bound_right" "_law_bound_right" s_l_bound_right _ _ cd_l_bound_right := ⟨⟨_, _, _, _, _, _, _, _, rfl, l_l_bound_right, c_l_bound_right⟩, k_l_bound_right⟩
  have F_law : FunT K "law" "law" s_law _ _ cd_law := ⟨⟨_, _, _, _, _, _, _, _, rfl, l_law, c_law⟩, k_law⟩
  let Ts : List (Addr × Str) := [(P_l_joined_right, "_law_joined_right.<locals>.<lambda>"), (P_l_bound_right, "_law_bound_right.<locals>.<lambda>"), (P_law, "law.<locals>.<lambda>")]
  refine ⟨PySem.W.fnOf "law" "law" (defArgs s_law) (defBody s_law) (defScope s_law) .none kV_law dc_law pm_law an_law (.ref cd_law) ct_law, [(cd_l_joined_right, P_l_joined_right), (cd_l_bound_right, P_l_bound_right), (cd_law, P_law)], spLaw K Ts, ?_, ?_, ?_, fun s u => .of_eq rfl, fun H a ns hl _ hH hS => ⟨a, ns, rfl, hS, hl, ?_, fun _ => rfl⟩, fun base KB GB TB => ?_⟩
  · intro q hq; simp only [List.mem_cons, List.not_mem_nil, or_false] at hq; rcases hq with rfl | rfl | rfl
    · exact hT.1
    · exact hT.2.1
    · exact hT.2.2
  · intro q hq; simp only [List.mem_cons, List.not_mem_nil, or_false] at hq; rcases hq with rfl | rfl | rfl
    · exact u_l_joined_right
    · exact u_l_bound_right
    · exact u_law
  · intro q hq; simp only [List.mem_cons, List.not_mem_nil, or_false] at hq; rcases hq with rfl | rfl | rfl
    · exact PySem.W.codeHd_of_K X t_l_joined_right
    · exact PySem.W.codeHd_of_K X t_l_bound_right
    · exact PySem.W.codeHd_of_K X t_law
  · intro q hq; simp only [Ts, List.mem_cons, List.not_mem_nil, or_false] at hq; rcases hq with rfl | rfl | rfl
    · exact TabS.none (hH _ (by simp : (cd_l_joined_right, P_l_joined_right) ∈ _))
    · exact TabS.none (hH _ (by simp : (cd_l_bound_right, P_l_bound_right) ∈ _))
    · exact TabS.none (hH _ (by simp : (cd_law, P_law) ∈ _))
  have draw : Cal l.prog w K mg base CX0 1 "_law_draw" ["_law_state", "_law_size"] spDraw := ⟨⟨_, _, ok_draw F_l_draw B, F_l_draw.binds (ps := ["_law_state", "_law_size"]) (fun _ _ _ _ _ _ us hl => match us, hl with | [_, _], _ => rfl), PySem.W.mg_of X G a_l_draw, k_l_draw⟩⟩
  have pick : Cal l.prog w K mg base CX0 2 "_law_pick" ["_law_state", "_law_several"] (spPick K) := ⟨⟨_, _, ok_pick F_l_pick B draw, F_l_pick.binds (ps := ["_law_state", "_law_several"]) (fun _ _ _ _ _ _ us hl => match us, hl with | [_, _], _ => rfl), PySem.W.mg_of X G a_l_pick, k_l_pick⟩⟩
  have words : Cal l.prog w K mg base CX0 3 "_law_words" ["_law_state", "_law_many"] spWords := ⟨⟨_, _, ok_words F_l_words B draw pick, F_l_words.binds (ps := ["_law_state", "_law_many"]) (fun _ _ _ _ _ _ us hl => match us, hl with | [_, _], _ => rfl), PySem.W.mg_of X G a_l_words, k_l_words⟩⟩
  have row : Cal l.prog w K mg base CX0 3 "_law_row" ["_law_state", "_law_kinds", "_law_most"] (spRow K) := ⟨⟨_, _, ok_row F_l_row B draw pick, F_l_row.binds (ps := ["_law_state", "_law_kinds", "_law_most"]) (fun _ _ _ _ _ _ us hl => match us, hl with | [_, _, _], _ => rfl), PySem.W.mg_of X G a_l_row, k_l_row⟩⟩
  have put : Cal l.prog w K mg base CX0 1 "_law_put" ["_law_row_here", "_law_rows"] (spPut K) := ⟨⟨_, _, ok_put F_l_put, F_l_put.binds (ps := ["_law_row_here", "_law_rows"]) (fun _ _ _ _ _ _ us hl => match us, hl with | [_, _], _ => rfl), PySem.W.mg_of X G a_l_put, k_l_put⟩⟩
  have parts : Cal l.prog w K mg base CX0 4 "_law_parts" ["_law_state", "_law_words_here", "_law_names", "_law_most"] (spParts K) := ⟨⟨_, _, ok_parts F_l_parts B draw pick words row, F_l_parts.binds (ps := ["_law_state", "_law_words_here", "_law_names", "_law_most"]) (fun _ _ _ _ _ _ us hl => match us, hl with | [_, _, _, _], _ => rfl), PySem.W.mg_of X G a_l_parts, k_l_parts⟩⟩
  have begun : Cal l.prog w K mg base CX0 1 "_law_begun" ["_law_script"] (spBegun K) := ⟨⟨_, _, ok_begun F_l_begun B, F_l_begun.binds (ps := ["_law_script"]) (fun _ _ _ _ _ _ us hl => match us, hl with | [_], _ => rfl), PySem.W.mg_of X G a_l_begun, k_l_begun⟩⟩
  have isw : Cal l.prog w K mg base CX0 1 "is_word" ["thing"] (spIsWord K) := ⟨⟨_, _, ok_is_word F_is_word B C, F_is_word.binds (ps := ["thing"]) (fun _ _ _ _ _ _ us hl => match us, hl with | [_], _ => rfl), PySem.W.mg_of X G a_is_word, k_is_word⟩⟩
  have arew : Cal l.prog w K mg base CX0 2 "are_words" ["some", "most"] (spAreWords K) := ⟨⟨_, _, ok_are_words F_are_words B isw, F_are_words.binds (ps := ["some", "most"]) (fun _ _ _ _ _ _ us hl => match us, hl with | [_, _], _ => rfl), PySem.W.mg_of X G a_are_words, k_are_words⟩⟩
  have isr : Cal l.prog w K mg base CX0 2 "is_lifted_row" ["thing"] (spIsRow K) := ⟨⟨_, _, ok_is_row F_is_lifted_row B C isw, F_is_lifted_row.binds (ps := ["thing"]) (fun _ _ _ _ _ _ us hl => match us, hl with | [_], _ => rfl), PySem.W.mg_of X G a_is_lifted_row, k_is_lifted_row⟩⟩
  have aree : Cal l.prog w K mg base CX0 3 "are_events" ["events"] (spAreEv K) := ⟨⟨_, _, ok_are_ev F_are_events B C arew isr, F_are_events.binds (ps := ["events"]) (fun _ _ _ _ _ _ us hl => match us, hl with | [_], _ => rfl), PySem.W.mg_of X G a_are_events, k_are_events⟩⟩
  have ares : Cal l.prog w K mg base CX0 3 "are_snapshots" ["snapshots"] (spAreSt K) := ⟨⟨_, _, ok_are_st F_are_snapshots B C isw arew, F_are_snapshots.binds (ps := ["snapshots"]) (fun _ _ _ _ _ _ us hl => match us, hl with | [_], _ => rfl), PySem.W.mg_of X G a_are_snapshots, k_are_snapshots⟩⟩
  have RK : RaiseK l.prog w K mg base (e 11) "NoKind" "at" := ⟨⟨fK, _, ox, inK, tiK, SupI.ok SI supS_NoKind, .all (fun us hl => match us, hl with | [_, _], _ => rfl), PySem.W.mg_of X G n_e11⟩⟩
  have nrow : Cal l.prog w K mg base (L2.CX l.prog w) 2 "need_row" ["row", "kinds"] (spNeedRow K (e 11)) := ⟨⟨_, _, ok_need_row F_need_row B RK, F_need_row.binds (ps := ["row", "kinds"]) (fun _ _ _ _ _ _ us hl => match us, hl with | [_, _], _ => rfl), PySem.W.mg_of X G a_need_row, k_need_row⟩⟩
  have M : MakL l.prog w K mg base CL (e 2) := ⟨⟨_, _, ⟨mkL_, a_init, i_init, kpL⟩, ok_init F_init B L R0 aree ares, F_init.binds (ps := ["self", "events", "snapshots"]) (fun _ _ _ _ _ _ us hl => match us, hl with | [_, _, _], _ => rfl), PySem.W.mg_of X G n_Lift⟩⟩
  have mlift : CalM l.prog w K mg base CX0 1 CL "lifted" ["self", "row"] (spLifted K CL) := ⟨⟨_, _, ⟨a_lifted, i_lifted, k_lifted⟩, ok_lifted F_lifted B L, F_lifted.binds (ps := ["self", "row"]) (fun _ _ _ _ _ _ us hl => match us, hl with | [_, _], _ => rfl)⟩⟩
  have mlst : CalM l.prog w K mg base CX0 1 CL "lifted_state" ["self", "state"] (spLState CL) := ⟨⟨_, _, ⟨a_lifted_state, i_lifted_state, k_lifted_state⟩, ok_lstate F_lifted_state L, F_lifted_state.binds (ps := ["self", "state"]) (fun _ _ _ _ _ _ us hl => match us, hl with | [_, _], _ => rfl)⟩⟩
  have W : Lw l.prog w K mg base e CS CL :=
    { B := B, er := er, hd := ⟨_, _, F_l_heard, PySem.W.mg_of X G a_l_heard⟩, L := L, I := I, M := M
      eq := ⟨f_eq, _, ⟨neL, hmL, a_eq, i_eq⟩, ok_eq F_eq B L I, F_eq.binds (ps := ["self", "other"]) (fun _ _ _ _ _ _ us hl => match us, hl with | [_, _], _ => rfl)⟩
      sh := ⟨f_rshift, _, ⟨sfL, a_rshift, i_rshift, rrL⟩, ok_shift F_rshift B L I R0 M mlift mlst, F_rshift.binds (ps := ["self", "other"]) (fun _ _ _ _ _ _ us hl => match us, hl with | [_, _], _ => rfl)⟩
      sT := fun T hT => by
        simp only [List.mem_cons, List.not_mem_nil, or_false] at hT
        rcases hT with rfl | rfl | rfl | rfl | rfl
        · exact ⟨⟨⟨_, sf_NoneType⟩, ⟨_, sr_NoneType⟩, ss_NoneType⟩, sk_NoneType⟩
        · exact ⟨⟨⟨_, sf_int⟩, ⟨_, sr_int⟩, ss_int⟩, sk_int⟩
        · exact ⟨⟨⟨_, sf_dict⟩, ⟨_, sr_dict⟩, ss_dict⟩, sk_dict⟩
        · exact ⟨⟨⟨_, sf_tuple⟩, ⟨_, sr_tuple⟩, ss_tuple⟩, sk_tuple⟩
        · exact ⟨⟨⟨_, sf_str⟩, ⟨_, sr_str⟩, ss_str⟩, sk_str⟩
      call := ⟨f_call, _, ⟨a_call, i_call, fi_call⟩, ok_call F_call L nrow mlift, F_call.binds (ps := ["self", "row"]) (fun _ _ _ _ _ _ us hl => match us, hl with | [_, _], _ => rfl)⟩
      draw := draw, pick := pick, words := words, row := row, put := put, parts := parts }
  have Tj := TB (cd_l_joined_right, P_l_joined_right) (by simp)
  have Tb := TB (cd_l_bound_right, P_l_bound_right) (by simp)
  have Tl := TB (cd_law, P_law) (by simp)
  have jn : Cal l.prog w K mg base CX0 9 "_law_joined_right" ["_law_state", "_law_rows", "_law_states", "_law_kinds", "_law_goals"] (spJoined Ts) := ⟨⟨_, _, ok_joined F_l_joined_right W Tj (by simp [Ts]) (by intro q hq hz; simp only [Ts, List.mem_cons, List.not_mem_nil, or_false] at hq; rcases hq with rfl | rfl | rfl <;> first | rfl | (exact absurd hz (by first | exact nd.1 | exact nd.2.1 | exact nd.2.2 | exact nd.1.symm | exact nd.2.1.symm | exact nd.2.2.symm))), F_l_joined_right.binds (ps := ["_law_state", "_law_rows", "_law_states", "_law_kinds", "_law_goals"]) (fun _ _ _ _ _ _ us hl => match us, hl with | [_, _, _, _, _], _ => rfl), PySem.W.mg_of X G a_l_joined_right, k_l_joined_right⟩⟩
  have bd : Cal l.prog w K mg base CX0 9 "_law_bound_right" ["_law_state"] (spBound Ts) := ⟨⟨_, _, ok_bound F_l_bound_right W Tb (by simp [Ts]) (by intro q hq hz; simp only [Ts, List.mem_cons, List.not_mem_nil, or_false] at hq; rcases hq with rfl | rfl | rfl <;> first | rfl | (exact absurd hz (by first | exact nd.1 | exact nd.2.1 | exact nd.2.2 | exact nd.1.symm | exact nd.2.1.symm | exact nd.2.2.symm))), F_l_bound_right.binds (ps := ["_law_state"]) (fun _ _ _ _ _ _ us hl => match us, hl with | [_], _ => rfl), PySem.W.mg_of X G a_l_bound_right, k_l_bound_right⟩⟩
  have Z : Lz l.prog w K mg base CL Ts := ⟨begun, jn, bd, ⟨pE, f_events, _, ⟨a_events, g_events, t_events, ⟨_, r_events⟩⟩, ok_events F_events B L, F_events.binds (ps := ["self"]) (fun _ _ _ _ _ _ us hl => match us, hl with | [_], _ => rfl)⟩, ktL⟩
  exact ok_law F_law W Z Tl (by simp [Ts]) (by intro q hq hz; simp only [Ts, List.mem_cons, List.not_mem_nil, or_false] at hq; rcases hq with rfl | rfl | rfl <;> first | rfl | (exact absurd hz (by first | exact nd.1 | exact nd.2.1 | exact nd.2.2 | exact nd.1.symm | exact nd.2.1.symm | exact nd.2.2.symm)))
end Sn
open PySem PySem.W PyProof.Rows
set_option maxRecDepth 100000 in
set_option maxHeartbeats 0 in
theorem PySem.Challenge.cw_snaplifts_k09_rows_lifted_holds : PySem.Challenge.rw_snaplifts_k09_rows_lifted.Holds := by
  w_on; o_law; k_head; (case hw => w_witness2)
  k_fill
  refine LamX.walk_ofTs (l := PySem.Challenge.rw_snaplifts_k09_rows_lifted) (n := 63) (k := 10) (x := "_law_script") (CX := fun _ => L2.CX0) rfl (by decide) (by rfl) ⟨rfl, by decide, by decide⟩ (fun w h Y => PySem.W.km_in_of Y) ?F (fun _ _ _ _ _ z => z)
  intro w mg fa h Y KX G hmg
  have TT := PySem.W.km_tabs_of Y
  refine' Sn.ends (P := PySem.Challenge.rw_snaplifts_k09_rows_lifted.prog) (P_l_joined_right := 384) (P_l_bound_right := 389) (P_law := 396) rfl KX G hmg (by decide) ⟨TT _ (by decide), TT _ (by decide), TT _ (by decide)⟩ ?h_b_len ?h_b_int ?h_b_abs ?h_b_range ?h_b_min ?h_b_max ?h_b_dict ?h_b_tuple ?h_b_list ?h_b_set ?h_b_sorted ?h_b_all ?h_b_any ?h_b_isinstance ?h_b_enumerate ?h_b_str ?h_b_bool ?h_b_zip ?h_b_sum ?h_b_repr ?h_b_ValueError ?h_b_super ?h_cs_LETTERS ?h_cs_MOST_LETTERS ?h_cs_MOST_KINDS ?h_cs_MOST_STATES ?h_cs_MOST_ROW ?h_zL_ ?h_n_snap ?h_n_e0 ?h_n_e1 ?h_n_e2 ?h_n_e3 ?h_n_e4 ?h_n_e5 ?h_n_e6 ?h_n_e7 ?h_n_e8 ?h_n_e9 ?h_n_e10 ?h_n_e11 ?h_n_e12 ?h_n_e13 ?h_n_Lift ?h_is_2_0 ?h_is_2_1 ?h_is_2_2 ?h_is_2_3 ?h_is_2_4 ?h_is_2_5 ?h_is_2_6 ?h_is_2_7 ?h_is_2_8 ?h_is_2_9 ?h_is_2_10 ?h_is_2_11 ?h_is_2_12 ?h_is_2_13 ?h_ve_2 ?h_sn_2 ?h_hg_2 ?h_hk_2 ?h_hs_2 ?h_hd_2 ?h_ha_2 ?h_hm_2 ?h_ke_2 ?h_ty_2 ?h_is_11_0 ?h_is_11_1 ?h_is_11_2 ?h_is_11_3 ?h_is_11_4 ?h_is_11_5 ?h_is_11_6 ?h_is_11_7 ?h_is_11_8 ?h_is_11_9 ?h_is_11_10 ?h_is_11_11 ?h_is_11_12 ?h_is_11_13 ?h_ve_11 ?h_sn_11 ?h_hg_11 ?h_hk_11 ?h_hs_11 ?h_hd_11 ?h_ha_11 ?h_hm_11 ?h_ke_11 ?h_ty_11 ?h_hn ?h_htk ?h_at11 ?h_x2 ?h_oxK ?h_rvK ?h_saK ?h_inK ?h_tiK ?h_lK ?h_cK ?h_lcK ?h_fiK ?h_pfK ?h_ceK ?h_alK ?h_opK ?h_moK ?h_svK ?h_tpK ?h_pgL ?h_hdL ?h_poL ?h_saL ?h_evL ?h_stL ?h_haL ?h_hmL ?h_isL ?h_mkL_ ?h_kpL ?h_neL ?h_sfL ?h_rrL ?h_ktL ?h_sf_NoneType ?h_sr_NoneType ?h_ss_NoneType ?h_sk_NoneType ?h_sf_int ?h_sr_int ?h_ss_int ?h_sk_int ?h_sf_dict ?h_sr_dict ?h_ss_dict ?h_sk_dict ?h_sf_tuple ?h_sr_tuple ?h_ss_tuple ?h_sk_tuple ?h_sf_str ?h_sr_str ?h_ss_str ?h_sk_str ?h_a_init ?h_l_init ?h_c_init ?h_k_init ?h_i_init ?h_a_call ?h_l_call ?h_c_call ?h_k_call ?h_i_call ?h_a_lifted ?h_l_lifted ?h_c_lifted ?h_k_lifted ?h_i_lifted ?h_a_lifted_state ?h_l_lifted_state ?h_c_lifted_state ?h_k_lifted_state ?h_i_lifted_state ?h_a_rshift ?h_l_rshift ?h_c_rshift ?h_k_rshift ?h_i_rshift ?h_a_eq ?h_l_eq ?h_c_eq ?h_k_eq ?h_i_eq ?h_fi_call ?h_a_events ?h_g_events ?h_t_events ?h_r_events ?h_l_events ?h_c_events ?h_k_events ?h_a_l_begun ?h_l_l_begun ?h_c_l_begun ?h_k_l_begun ?h_a_l_draw ?h_l_l_draw ?h_c_l_draw ?h_k_l_draw ?h_a_l_pick ?h_l_l_pick ?h_c_l_pick ?h_k_l_pick ?h_a_l_words ?h_l_l_words ?h_c_l_words ?h_k_l_words ?h_a_l_row ?h_l_l_row ?h_c_l_row ?h_k_l_row ?h_a_l_put ?h_l_l_put ?h_c_l_put ?h_k_l_put ?h_a_l_heard ?h_l_l_heard ?h_c_l_heard ?h_k_l_heard ?h_a_l_parts ?h_l_l_parts ?h_c_l_parts ?h_k_l_parts ?h_a_is_word ?h_l_is_word ?h_c_is_word ?h_k_is_word ?h_a_are_words ?h_l_are_words ?h_c_are_words ?h_k_are_words ?h_a_need_row ?h_l_need_row ?h_c_need_row ?h_k_need_row ?h_a_is_lifted_row ?h_l_is_lifted_row ?h_c_is_lifted_row ?h_k_is_lifted_row ?h_a_are_events ?h_l_are_events ?h_c_are_events ?h_k_are_events ?h_a_are_snapshots ?h_l_are_snapshots ?h_c_are_snapshots ?h_k_are_snapshots ?h_a_l_joined_right ?h_l_l_joined_right ?h_c_l_joined_right ?h_k_l_joined_right ?h_t_l_joined_right ?h_u_l_joined_right ?h_a_l_bound_right ?h_l_l_bound_right ?h_c_l_bound_right ?h_k_l_bound_right ?h_t_l_bound_right ?h_u_l_bound_right ?h_a_law ?h_l_law ?h_c_law ?h_k_law ?h_t_law ?h_u_law
  case h_b_len => k_is
  case h_b_int => k_is
  case h_b_abs => k_is
  case h_b_range => k_is
  case h_b_min => k_is
  case h_b_max => k_is
  case h_b_dict => k_is
  case h_b_tuple => k_is
  case h_b_list => k_is
  case h_b_set => k_is
  case h_b_sorted => k_is
  case h_b_all => k_is
  case h_b_any => k_is
  case h_b_isinstance => k_is
  case h_b_enumerate => k_is
  case h_b_str => k_is
  case h_b_bool => k_is
  case h_b_zip => k_is
  case h_b_sum => k_is
  case h_b_repr => k_is
  case h_b_ValueError => k_is
  case h_b_super => k_is
  case h_cs_LETTERS => k_is
  case h_cs_MOST_LETTERS => k_is
  case h_cs_MOST_KINDS => k_is
  case h_cs_MOST_STATES => k_is
  case h_cs_MOST_ROW => k_is
  case h_zL_ => decide +kernel
  case h_n_snap => k_is
  case h_n_e0 => k_is
  case h_n_e1 => k_is
  case h_n_e2 => k_is
  case h_n_e3 => k_is
  case h_n_e4 => k_is
  case h_n_e5 => k_is
  case h_n_e6 => k_is
  case h_n_e7 => k_is
  case h_n_e8 => k_is
  case h_n_e9 => k_is
  case h_n_e10 => k_is
  case h_n_e11 => k_is
  case h_n_e12 => k_is
  case h_n_e13 => k_is
  case h_n_Lift => k_is
  case h_is_2_0 => kernel_rfl
  case h_is_2_1 => kernel_rfl
  case h_is_2_2 => kernel_rfl
  case h_is_2_3 => kernel_rfl
  case h_is_2_4 => kernel_rfl
  case h_is_2_5 => kernel_rfl
  case h_is_2_6 => kernel_rfl
  case h_is_2_7 => kernel_rfl
  case h_is_2_8 => kernel_rfl
  case h_is_2_9 => kernel_rfl
  case h_is_2_10 => kernel_rfl
  case h_is_2_11 => kernel_rfl
  case h_is_2_12 => kernel_rfl
  case h_is_2_13 => kernel_rfl
  case h_ve_2 => kernel_rfl
  case h_sn_2 => kernel_rfl
  case h_hg_2 => k_is
  case h_hk_2 => k_is
  case h_hs_2 => k_is
  case h_hd_2 => k_is
  case h_ha_2 => k_is
  case h_hm_2 => k_is
  case h_ke_2 => k_is
  case h_ty_2 => k_is
  case h_is_11_0 => kernel_rfl
  case h_is_11_1 => kernel_rfl
  case h_is_11_2 => kernel_rfl
  case h_is_11_3 => kernel_rfl
  case h_is_11_4 => kernel_rfl
  case h_is_11_5 => kernel_rfl
  case h_is_11_6 => kernel_rfl
  case h_is_11_7 => kernel_rfl
  case h_is_11_8 => kernel_rfl
  case h_is_11_9 => kernel_rfl
  case h_is_11_10 => kernel_rfl
  case h_is_11_11 => kernel_rfl
  case h_is_11_12 => kernel_rfl
  case h_is_11_13 => kernel_rfl
  case h_ve_11 => kernel_rfl
  case h_sn_11 => kernel_rfl
  case h_hg_11 => k_is
  case h_hk_11 => k_is
  case h_hs_11 => k_is
  case h_hd_11 => k_is
  case h_ha_11 => k_is
  case h_hm_11 => k_is
  case h_ke_11 => k_is
  case h_ty_11 => k_is
  case h_hn => k_is
  case h_htk => k_is
  case h_at11 => k_is
  case h_x2 => k_exc
  case h_oxK => k_is
  case h_rvK => decide +kernel
  case h_saK => k_is
  case h_inK => k_is
  case h_tiK => k_is
  case h_lK => k_is
  case h_cK => k_is
  case h_lcK => k_is
  case h_fiK => rfl
  case h_pfK => first | rfl | kernel_rfl | decide +kernel
  case h_ceK => k_is
  case h_alK => first | k_is | kernel_rfl
  case h_opK => k_is
  case h_moK => k_is
  case h_svK => k_is
  case h_tpK => first | rfl | kernel_rfl | decide +kernel
  case h_pgL => k_is
  case h_hdL => k_is
  case h_poL => k_is
  case h_saL => k_is
  case h_evL => k_is
  case h_stL => k_is
  case h_haL => k_is
  case h_hmL => k_is
  case h_isL => kernel_rfl
  case h_mkL_ => k_is
  case h_kpL => k_is
  case h_neL => k_is
  case h_sfL => k_is
  case h_rrL => k_is
  case h_ktL => kernel_rfl
  case h_sf_NoneType => k_is
  case h_sr_NoneType => k_is
  case h_ss_NoneType => k_is
  case h_sk_NoneType => kernel_rfl
  case h_sf_int => k_is
  case h_sr_int => k_is
  case h_ss_int => k_is
  case h_sk_int => kernel_rfl
  case h_sf_dict => k_is
  case h_sr_dict => k_is
  case h_ss_dict => k_is
  case h_sk_dict => kernel_rfl
  case h_sf_tuple => k_is
  case h_sr_tuple => k_is
  case h_ss_tuple => k_is
  case h_sk_tuple => kernel_rfl
  case h_sf_str => k_is
  case h_sr_str => k_is
  case h_ss_str => k_is
  case h_sk_str => kernel_rfl
  case h_a_init => k_is
  case h_l_init => k_is
  case h_c_init => k_is
  case h_k_init => k_is
  case h_i_init => k_is
  case h_a_call => k_is
  case h_l_call => k_is
  case h_c_call => k_is
  case h_k_call => k_is
  case h_i_call => k_is
  case h_a_lifted => k_is
  case h_l_lifted => k_is
  case h_c_lifted => k_is
  case h_k_lifted => k_is
  case h_i_lifted => k_is
  case h_a_lifted_state => k_is
  case h_l_lifted_state => k_is
  case h_c_lifted_state => k_is
  case h_k_lifted_state => k_is
  case h_i_lifted_state => k_is
  case h_a_rshift => k_is
  case h_l_rshift => k_is
  case h_c_rshift => k_is
  case h_k_rshift => k_is
  case h_i_rshift => k_is
  case h_a_eq => k_is
  case h_l_eq => k_is
  case h_c_eq => k_is
  case h_k_eq => k_is
  case h_i_eq => k_is
  case h_fi_call => k_is
  case h_a_events => k_is
  case h_g_events => k_is
  case h_t_events => k_is
  case h_r_events => k_is
  case h_l_events => k_is
  case h_c_events => k_is
  case h_k_events => k_is
  case h_a_l_begun => k_is
  case h_l_l_begun => k_is
  case h_c_l_begun => k_is
  case h_k_l_begun => k_is
  case h_a_l_draw => k_is
  case h_l_l_draw => k_is
  case h_c_l_draw => k_is
  case h_k_l_draw => k_is
  case h_a_l_pick => k_is
  case h_l_l_pick => k_is
  case h_c_l_pick => k_is
  case h_k_l_pick => k_is
  case h_a_l_words => k_is
  case h_l_l_words => k_is
  case h_c_l_words => k_is
  case h_k_l_words => k_is
  case h_a_l_row => k_is
  case h_l_l_row => k_is
  case h_c_l_row => k_is
  case h_k_l_row => k_is
  case h_a_l_put => k_is
  case h_l_l_put => k_is
  case h_c_l_put => k_is
  case h_k_l_put => k_is
  case h_a_l_heard => k_is
  case h_l_l_heard => k_is
  case h_c_l_heard => k_is
  case h_k_l_heard => k_is
  case h_a_l_parts => k_is
  case h_l_l_parts => k_is
  case h_c_l_parts => k_is
  case h_k_l_parts => k_is
  case h_a_is_word => k_is
  case h_l_is_word => k_is
  case h_c_is_word => k_is
  case h_k_is_word => k_is
  case h_a_are_words => k_is
  case h_l_are_words => k_is
  case h_c_are_words => k_is
  case h_k_are_words => k_is
  case h_a_need_row => k_is
  case h_l_need_row => k_is
  case h_c_need_row => k_is
  case h_k_need_row => k_is
  case h_a_is_lifted_row => k_is
  case h_l_is_lifted_row => k_is
  case h_c_is_lifted_row => k_is
  case h_k_is_lifted_row => k_is
  case h_a_are_events => k_is
  case h_l_are_events => k_is
  case h_c_are_events => k_is
  case h_k_are_events => k_is
  case h_a_are_snapshots => k_is
  case h_l_are_snapshots => k_is
  case h_c_are_snapshots => k_is
  case h_k_are_snapshots => k_is
  case h_a_l_joined_right => k_is
  case h_l_l_joined_right => k_is
  case h_c_l_joined_right => k_is
  case h_k_l_joined_right => k_is
  case h_t_l_joined_right => kernel_rfl
  case h_u_l_joined_right => kernel_rfl
  case h_a_l_bound_right => k_is
  case h_l_l_bound_right => k_is
  case h_c_l_bound_right => k_is
  case h_k_l_bound_right => k_is
  case h_t_l_bound_right => kernel_rfl
  case h_u_l_bound_right => kernel_rfl
  case h_a_law => k_is
  case h_l_law => k_is
  case h_c_law => k_is
  case h_k_law => k_is
  case h_t_law => kernel_rfl
  case h_u_law => kernel_rfl
