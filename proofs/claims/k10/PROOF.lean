import PyProof.Rows.All
import Wide.All
import OpenK.AllK
import Wide.FinOn
import HandS.ForMost
import HandS.Evl
import HandS.Walk
import HandS.Conv
import HandS.TupAny
import HandS.Style
import KE.GoesEnum
import KE.GoesMore
import HandS.DictComp
import HandS.WordsDict
import HandS.DeepEq
import HandS.OwnEq
import KE.KDictList
import HandS.ListItems
import KE.KOpsOwn
import HandS.IsInst
import HandS.Star
import KE.KExcIs
import KE.KExcSuper
import HandS.Exc
import HandS.ExcIs
import HandS.ExcField
import HandS.ExcInit
import HandS.ExcOwn
import HandS.Small
import HandS.Lambda
import HandS.Words
import HandS.WordsExc
import HandS.TupMul
import HandS.Set
import HandS.SetFor
import HandS.Strs
import HandS.More
import HandS.NoneIn
import HandS.Property
import HandS.EndTab
import HandS.TupSets
import HandS.Iter
import PyProof.ReprRoads
import HandS.Wide
import HandS.RevRange
import HandS.Text
import KE.KDictSum
import HandS.RevTup
import KE.KItemsList
import HandS.Defaults
import HandS.Zip
import HandS.Sort
import HandS.SortOrd
import KE.KWithOwn
import PySem.Challenge.RW_snaplifts_k10_lifts_that_fit
set_option Elab.async false
set_option linter.all false
set_option maxRecDepth 100000
set_option maxHeartbeats 4000000
/-! Own foundation: heaps that grow, the law's source of draws -/
namespace Sn
open Evl (Ex)
open PySem L2
/-- the built-in names that the text leaves as they are -/
structure Bt (mg : Str → Option Value) : Prop where
  len : mg "len" = none
  int : mg "int" = none
  abs : mg "abs" = none
  range : mg "range" = none
  min : mg "min" = none
  max : mg "max" = none
  dict : mg "dict" = none
  tuple : mg "tuple" = none
  list : mg "list" = none
  set : mg "set" = none
  sorted : mg "sorted" = none
  all : mg "all" = none
  any : mg "any" = none
  isi : mg "isinstance" = none
  enum : mg "enumerate" = none
  str : mg "str" = none
  bool : mg "bool" = none
  zip : mg "zip" = none
  sum : mg "sum" = none
  repr : mg "repr" = none
  ValueError : mg "ValueError" = none
  super : mg "super" = none
theorem exr {H : Hp} : Ex H H := fun _ _ h => h
theorem ext {H H1 H2 : Hp} (a : Ex H H1) (b : Ex H1 H2) : Ex H H2 := fun x o h => b x o (a x o h)
theorem exn {H : Hp} {p : Addr} {o : HO} (h : H p = none) : Ex H (upd H p o) := Evl.Ex.new h
theorem exm {F H : Hp} {p : Addr} {o : HO} (e : Ex F H) (h : F p = none) : Ex F (upd H p o) := Evl.Ex.mut e h
theorem exb {F H : Hp} {p : Addr} (e : Ex F H) (h : H p = none) : F p = none := Evl.fresh_back e h
/-- both grow by one thing -/
theorem exu {F H : Hp} {p : Addr} {o : HO} (e : Ex F H) : Ex (upd F p o) (upd H p o) := fun a u h => by
  by_cases q : a = p
  · subst q
    rw [upd_same] at h ⊢
    exact h
  · rw [upd_ne q] at h ⊢
    exact e a u h
theorem exp {F H : Hp} {p : Addr} {o : HO} (e : Ex F H) (h : H p = some o) : Ex (upd F p o) H := fun a u q => by
  by_cases r : a = p
  · subst r
    rw [upd_same] at q
    rw [← q]
    exact h
  · rw [upd_ne r] at q
    exact e a u q
theorem updn {F : Hp} {p q : Addr} {o : HO} (h : F q = none) (n : q ≠ p) : upd F p o q = none := by rw [upd_ne n]; exact h

/-! ### the source of draws -/
def dkv (la ca : Addr) (r t : Int) : List (Key × V) := [(.inr "large", .ref la), (.inr "cells", .ref ca), (.inr "rest", .int r), (.inr "turn", .int t)]
/-- the source stands at sa, its lists at la and ca; at most T draws were by the counter -/
structure Dr (H : Hp) (sa la ca : Addr) (T : Nat) : Prop where
  ex : ∃ (ls cs : List Int) (r t : Int), H sa = some (.dK (dkv la ca r t)) ∧ H la = some (.lst (ls.map V.int)) ∧ H ca = some (.lst (cs.map V.int)) ∧ (∀ x ∈ ls, 0 ≤ x) ∧ 0 ≤ r ∧ 0 ≤ t ∧ t ≤ T ∧ ls.length ≤ 63 ∧ cs.length ≤ 63
  sl : sa ≠ la
  sc : sa ≠ ca
  lc : la ≠ ca
theorem Dr.mono {H : Hp} {sa la ca : Addr} {T T' : Nat} (d : Dr H sa la ca T) (h : T ≤ T') : Dr H sa la ca T' := by
  obtain ⟨⟨ls, cs, r, t, a, b, c, e, f, g, i, j, k⟩, x, y, z⟩ := d
  exact ⟨⟨ls, cs, r, t, a, b, c, e, f, g, by omega, j, k⟩, x, y, z⟩
theorem Dr.ext {H H' : Hp} {sa la ca : Addr} {T : Nat} (d : Dr H sa la ca T) (e : Ex H H') : Dr H' sa la ca T := by
  obtain ⟨⟨ls, cs, r, t, a, b, c, g⟩, x, y, z⟩ := d
  exact ⟨⟨ls, cs, r, t, e _ _ a, e _ _ b, e _ _ c, g⟩, x, y, z⟩
theorem Dr.sne {H : Hp} {sa la ca : Addr} {T : Nat} (d : Dr H sa la ca T) {p : Addr} (h : H p = none) : p ≠ sa := by
  obtain ⟨⟨_, _, _, _, a, _⟩, _⟩ := d
  exact (ne_of_none a h).symm
theorem Dr.lne {H : Hp} {sa la ca : Addr} {T : Nat} (d : Dr H sa la ca T) {p : Addr} (h : H p = none) : p ≠ la := by
  obtain ⟨⟨_, _, _, _, _, b, _⟩, _⟩ := d
  exact (ne_of_none b h).symm
theorem Dr.cne {H : Hp} {sa la ca : Addr} {T : Nat} (d : Dr H sa la ca T) {p : Addr} (h : H p = none) : p ≠ ca := by
  obtain ⟨⟨_, _, _, _, _, _, c, _⟩, _⟩ := d
  exact (ne_of_none c h).symm
/-- another thing changes -/
theorem Dr.upd {H : Hp} {sa la ca : Addr} {T : Nat} (d : Dr H sa la ca T) {p : Addr} {o : HO} (h1 : p ≠ sa) (h2 : p ≠ la) (h3 : p ≠ ca) : Dr (L2.upd H p o) sa la ca T := by
  obtain ⟨⟨ls, cs, r, t, a, b, c, g⟩, x, y, z⟩ := d
  exact ⟨⟨ls, cs, r, t, by rw [upd_ne h1.symm]; exact a, by rw [upd_ne h2.symm]; exact b, by rw [upd_ne h3.symm]; exact c, g⟩, x, y, z⟩
theorem Dr.new {H : Hp} {sa la ca : Addr} {T : Nat} (d : Dr H sa la ca T) {p : Addr} {o : HO} (h : H p = none) : Dr (L2.upd H p o) sa la ca T := d.ext (exn h)

theorem sLC : ¬ ("large" : Str) = "cells" := by decide +kernel
theorem sLR : ¬ ("large" : Str) = "rest" := by decide +kernel
theorem sLT : ¬ ("large" : Str) = "turn" := by decide +kernel
theorem sCR : ¬ ("cells" : Str) = "rest" := by decide +kernel
theorem sCT : ¬ ("cells" : Str) = "turn" := by decide +kernel
theorem sRT : ¬ ("rest" : Str) = "turn" := by decide +kernel
theorem sTR : ¬ ("turn" : Str) = "rest" := by decide +kernel
theorem kn {a b : Str} (h : ¬ a = b) : ¬ (Sum.inr a : Key) = Sum.inr b := fun e => h (Sum.inr.inj e)
theorem kv_large (la ca : Addr) (r t : Int) : valV (dkv la ca r t) (Sum.inr ("large" : Str) : Key) = some (.ref la) := valV_pos rfl
theorem kv_cells (la ca : Addr) (r t : Int) : valV (dkv la ca r t) (Sum.inr ("cells" : Str) : Key) = some (.ref ca) := (valV_neg (kn sLC)).trans (valV_pos rfl)
theorem kv_rest (la ca : Addr) (r t : Int) : valV (dkv la ca r t) (Sum.inr ("rest" : Str) : Key) = some (.int r) := (valV_neg (kn sLR)).trans ((valV_neg (kn sCR)).trans (valV_pos rfl))
theorem kv_turn (la ca : Addr) (r t : Int) : valV (dkv la ca r t) (Sum.inr ("turn" : Str) : Key) = some (.int t) := (valV_neg (kn sLT)).trans ((valV_neg (kn sCT)).trans ((valV_neg (kn sRT)).trans (valV_pos rfl)))
theorem kp_rest (la ca : Addr) (r t r' : Int) : putK (dkv la ca r t) (Sum.inr ("rest" : Str) : Key) (.int r') = dkv la ca r' t := by
  unfold putK
  rw [valV_any, kv_rest]
  simp only [dkv, Option.isSome_some, if_true, List.map_cons, List.map_nil, if_neg (kn sLR), if_neg (kn sCR), if_neg (kn sTR)]
theorem kp_turn (la ca : Addr) (r t t' : Int) : putK (dkv la ca r t) (Sum.inr ("turn" : Str) : Key) (.int t') = dkv la ca r t' := by
  unfold putK
  rw [valV_any, kv_turn]
  simp only [dkv, Option.isSome_some, if_true, List.map_cons, List.map_nil, if_neg (kn sLT), if_neg (kn sCT), if_neg (kn sRT)]
theorem dk_len (la ca : Addr) (r t : Int) : (dkv la ca r t).length < sizeLine := by show 4 < sizeLine; decide
/-- d["rest"] and its like, as a step of a reading -/
theorem dg {H : Hp} {a : Addr} {kvs : List (Key × V)} {x : Str} {v : V} (h : H a = some (.dK kvs)) (e : valV kvs (Sum.inr x : Key) = some v) : DGet H a (.str x) (some v) := by
  have g := DGet.k (k := (Sum.inr x : Key)) h
  rw [e] at g
  exact g
theorem dp {H : Hp} {a : Addr} {kvs kvs' : List (Key × V)} {x : Str} {v : V} (h : H a = some (.dK kvs)) (hl : kvs.length < sizeLine) (e : putK kvs (Sum.inr x : Key) v = kvs') : DPut H a (.str x) v (upd H a (.dK kvs')) := by
  have g := DPut.k (k := (Sum.inr x : Key)) (v := v) h hl
  rw [e] at g
  exact g
/-- a list of ints as data -/
theorem dp_ints {K : PySem.W.Frag} {H : Hp} {a : Addr} {ns : List Int} (h : SqL K H a (ns.map V.int)) : Dp K H (.ref a) (.list (ns.map PyData.int)) := by
  refine .lst h ?_
  clear h
  induction ns with
  | nil => exact .nil
  | cons n r ih => exact .cons (.int n) ih
theorem can_all : ∀ {ds : List PyData}, (∀ d ∈ ds, d.canLay0 = true) → PyData.canLayAll0 ds = true
  | [], _ => by simp [PyData.canLayAll0]
  | d :: r, h => by
    simp only [PyData.canLayAll0, Bool.and_eq_true]
    exact ⟨h d List.mem_cons_self, can_all fun x hx => h x (List.mem_cons_of_mem _ hx)⟩
theorem dep_all {n : Nat} : ∀ {ds : List PyData}, (∀ d ∈ ds, d.depth ≤ n) → PyData.depthAll ds ≤ n
  | [], _ => by simp [PyData.depthAll]
  | d :: r, h => by
    simp only [PyData.depthAll]
    have h1 := h d List.mem_cons_self
    have h2 := dep_all (n := n) (ds := r) fun x hx => h x (List.mem_cons_of_mem _ hx)
    omega
theorem shaped_lst {ds : List PyData} (h : ∀ d ∈ ds, d.canLay0 = true ∧ d.depth ≤ 50) : SeqAt.shaped (.list ds) = true := by
  have h1 := can_all fun d hd => (h d hd).1
  have h2 := dep_all (n := 50) fun d hd => (h d hd).2
  unfold SeqAt.shaped
  rw [PyData.canLay0, PyData.depth, h1, Bool.true_and]
  exact decide_eq_true (by omega)
theorem shaped_tup {ds : List PyData} (h : ∀ d ∈ ds, d.canLay0 = true ∧ d.depth ≤ 50) : SeqAt.shaped (.tuple ds) = true := by
  have h1 := can_all fun d hd => (h d hd).1
  have h2 := dep_all (n := 50) fun d hd => (h d hd).2
  unfold SeqAt.shaped
  rw [PyData.canLay0, PyData.depth, h1, Bool.true_and]
  exact decide_eq_true (by omega)
theorem shaped_ints (ns : List Int) : SeqAt.shaped (.list (ns.map PyData.int)) = true := shaped_lst fun d hd => by
  obtain ⟨n, _, rfl⟩ := List.mem_map.mp hd
  simp [PyData.canLay0, PyData.depth]
theorem shaped_nil : SeqAt.shaped (.list []) = true := shaped_lst fun _ h => nomatch h
theorem eqv_nil (ds : List PyData) : PyData.eqv (.list ds) (.list []) = ds.isEmpty := by
  cases ds <;> simp [PyData.eqv, PyData.eqvAll]

theorem exs {F H : Hp} {p : Addr} {o o' : HO} (e : Ex (upd F p o) H) : Ex (upd F p o') (upd H p o') := fun a u h => by
  by_cases q : a = p
  · subst q
    rw [upd_same] at h ⊢
    exact h
  · rw [upd_ne q] at h ⊢
    exact e a u (by rw [upd_ne q]; exact h)

/-! ### calls in short -/
/-- a def of the module: where it stands, and its promise -/
structure Cal (P : Program) (w : World) (K : PySem.W.Frag) (mg : Str → Option Value) (base : Heap) (CX : CXT) (k : Nat) (x : Str) (ps : List Str) (sp : Sp) : Prop where
  ex : ∃ (f : Addr) (fd : FuncData), FnOk P w K mg base CX k f fd ps sp ∧ Binds K fd ps [] ∧ mg x = some (.ref f) ∧ PySem.W.keepIn K (.ref f) = true
section
variable {X : Cx}
theorem pcall {k : Nat} {x : Str} {ps : List Str} {sp : Sp} {e : Expr} {es : List Expr} {p pos : Pos} {t : TA} (c : Cal X.prog X.w X.K X.mg X.base CX0 k x ps sp) (hr : Room k X.A) (ha : PA X (e :: es) t) (hg : Gl X x := by rfl)
    (hdb : (x == ("__debug__" : Str)) = false := by decide) (he : starEach (e :: es) X.env = (false, eval e X.env) :: starEach es X.env := by rfl) (hpl : (backTo pos (starEach es X.env)).any (·.1) = false := by rfl) :
    PE X (.Call (.Name x p) (e :: es) [] pos) (tCall sp [] E0 t) := by
  obtain ⟨f, fd, F, b, m, kp⟩ := c.ex
  exact pe_call F hr hg m kp b .nil pass0 ha hdb he hpl
theorem dget {o i : Expr} {pos : Pos} {td ty : TE} (hu : X.A.units + 1 < cLine) (ho : PE X o td) (hi : PE X i ty) (hs : NoSl i := by exact fun _ _ => rfl) : PE X (.Subscript o i pos) (tDGet td ty) := pe_dget hu ho hi hs
end

/-! ### words -/
structure Wd (s : Str) : Prop where
  lo : 1 ≤ s.cps.toList.length
  hi : s.cps.toList.length ≤ 6
  az : ∀ c ∈ s.cps.toList, 97 ≤ c ∧ c ≤ 122
def abc : Str := "abcdefghijklmnopqrstuvwxyz"
theorem abc_at {i c : Nat} (h : abc.cps[i]? = some c) : 97 ≤ c ∧ c ≤ 122 := by
  have hl : abc.cps.toList = (List.range 26).map (· + 97) := by decide +kernel
  have h2 : abc.cps.toList[i]? = some c := by rw [← h]; simp
  rw [hl, List.getElem?_map] at h2
  cases q : (List.range 26)[i]? with
  | none => rw [q] at h2; cases h2
  | some j =>
    rw [q] at h2
    have hj := List.mem_range.mp (List.mem_of_getElem? q)
    have e : j + 97 = c := Option.some.inj h2
    omega
theorem abc_mem {c : Nat} : c ∈ abc.cps.toList ↔ 97 ≤ c ∧ c ≤ 122 := by
  have hl : abc.cps.toList = (List.range 26).map (· + 97) := by decide +kernel
  rw [hl, List.mem_map]
  constructor
  · rintro ⟨j, hj, rfl⟩
    have := List.mem_range.mp hj
    omega
  · intro h
    exact ⟨c - 97, List.mem_range.mpr (by omega), by omega⟩
theorem inV_str {w : Str} : ∀ {ws : List Str}, inV (.str w) (ws.map V.str) = decide (w ∈ ws)
  | [] => by simp [inV]
  | a :: r => by
    have ih := inV_str (w := w) (ws := r)
    unfold inV at ih ⊢
    rw [List.map_cons, List.any_cons, ih]
    by_cases e : a = w
    · subst e; simp [eqV]
    · have e' : ¬ w = a := fun z => e z.symm
      simp [eqV, e, e']
theorem flat_strs (ws : List Str) : (ws.map V.str).all flatV = true := by
  rw [List.all_eq_true]
  intro x hx
  obtain ⟨s, _, rfl⟩ := List.mem_map.mp hx
  rfl
theorem dpall_strs {K : PySem.W.Frag} {H : Hp} : ∀ ws : List Str, DpAll K H (ws.map V.str) (ws.map PyData.str)
  | [] => .nil
  | w :: r => .cons (.str w) (dpall_strs r)
theorem dp_strs {K : PySem.W.Frag} {H : Hp} {a : Addr} {ws : List Str} (h : SqL K H a (ws.map V.str)) : Dp K H (.ref a) (.list (ws.map PyData.str)) := .lst h (dpall_strs ws)
theorem dp_strsT {K : PySem.W.Frag} {H : Hp} {a : Addr} {ws : List Str} (h : SqT K H a (ws.map V.str)) : Dp K H (.ref a) (.tuple (ws.map PyData.str)) := .tup h (dpall_strs ws)
theorem wd_lay {s : Str} (h : Wd s) : (PyData.str s).canLay0 = true ∧ (PyData.str s).depth ≤ 50 := by
  refine ⟨?_, by simp [PyData.depth]⟩
  rw [PyData.canLay0]
  unfold PyData.strOk
  rw [← Array.all_toList, List.all_eq_true]
  intro c hc
  have := h.az c hc
  exact decide_eq_true (by omega)
theorem shaped_words {ws : List Str} (h : ∀ x ∈ ws, Wd x) : SeqAt.shaped (.list (ws.map PyData.str)) = true := shaped_lst fun d hd => by
  obtain ⟨s, hs, rfl⟩ := List.mem_map.mp hd
  exact wd_lay (h s hs)
theorem shaped_wordsT {ws : List Str} (h : ∀ x ∈ ws, Wd x) : SeqAt.shaped (.tuple (ws.map PyData.str)) = true := shaped_tup fun d hd => by
  obtain ⟨s, hs, rfl⟩ := List.mem_map.mp hd
  exact wd_lay (h s hs)
end Sn
/-! Dicts of texts: to rows of texts, to texts -/
namespace Sn
open Evl (Ex)
open PySem L2
/-- a key, its row, where the row's tuple lies -/
abbrev Ent := Str × List Str × Addr
def rKV (e : Ent) : Key × V := (.inr e.1, .ref e.2.2)
def sKV (e : Str × Str) : Key × V := (.inr e.1, .str e.2)
def dat (e : Ent) : Str × List Str := (e.1, e.2.1)
def Rws (H : Hp) (p : Addr) (es : List Ent) : Prop := H p = some (.dK (es.map rKV)) ∧ ∀ e ∈ es, H e.2.2 = some (.tup (e.2.1.map V.str))
def Sts (H : Hp) (p : Addr) (ss : List (Str × Str)) : Prop := H p = some (.dK (ss.map sKV))
theorem Rws.ex {H H' : Hp} {p : Addr} {es : List Ent} (h : Rws H p es) (e : Ex H H') : Rws H' p es := ⟨e _ _ h.1, fun x hx => e _ _ (h.2 x hx)⟩
theorem Sts.ex {H H' : Hp} {p : Addr} {ss : List (Str × Str)} (h : Sts H p ss) (e : Ex H H') : Sts H' p ss := e _ _ h
section
variable {κ : Type} [DecidableEq κ]
theorem valV_no {kvs : List (κ × V)} {k : κ} (h : k ∉ kvs.map (·.1)) : valV kvs k = none := by
  induction kvs with
  | nil => rfl
  | cons p r ih =>
    rw [List.map_cons, List.mem_cons, not_or] at h
    rw [valV_neg (fun z => h.1 z.symm)]
    exact ih h.2
theorem valV_at {kvs : List (κ × V)} {k : κ} {v : V} (hn : (kvs.map (·.1)).Nodup) (h : (k, v) ∈ kvs) : valV kvs k = some v := by
  induction kvs with
  | nil => cases h
  | cons p r ih =>
    rw [List.map_cons, List.nodup_cons] at hn
    rcases List.mem_cons.mp h with e | h
    · subst e
      exact valV_pos rfl
    · rw [valV_neg (fun z => hn.1 (by rw [z]; exact List.mem_map_of_mem (f := Prod.fst) h))]
      exact ih hn.2 h
end
theorem merge_app : ∀ (kvs acc : List (Key × V)), ((acc ++ kvs).map (·.1)).Nodup → mergeK acc kvs = acc ++ kvs
  | [], acc, _ => by simp [mergeK]
  | p :: r, acc, h => by
    have e : mergeK acc (p :: r) = mergeK (putK acc p.1 p.2) r := rfl
    have hn : p.1 ∉ acc.map (·.1) := by
      rw [List.map_append, List.map_cons] at h
      have := List.nodup_append.mp h
      intro z
      exact this.2.2 _ z _ List.mem_cons_self rfl
    rw [e, putK_new _ (valV_no hn), merge_app r _ (by simpa using h)]
    simp
theorem merge_nil {kvs : List (Key × V)} (h : (kvs.map (·.1)).Nodup) : mergeK [] kvs = kvs := by
  rw [merge_app kvs [] (by simpa using h)]
  rfl
theorem keysR (es : List Ent) : (es.map rKV).map (·.1) = (es.map (·.1)).map Sum.inr := by simp [rKV, Function.comp_def]
theorem keysS (ss : List (Str × Str)) : (ss.map sKV).map (·.1) = (ss.map (·.1)).map Sum.inr := by simp [sKV, Function.comp_def]
theorem nodup_inr {l : List Str} (h : l.Nodup) : (l.map (Sum.inr : Str → Key)).Nodup := List.Pairwise.map _ (fun a b n e => n (Sum.inr.inj e)) h
theorem valR {es : List Ent} {e : Ent} (h : (es.map (·.1)).Nodup) (he : e ∈ es) : valV (es.map rKV) (Sum.inr e.1 : Key) = some (.ref e.2.2) :=
  valV_at (by rw [keysR]; exact nodup_inr h) (List.mem_map_of_mem (f := rKV) he)
theorem valS {ss : List (Str × Str)} {e : Str × Str} (h : (ss.map (·.1)).Nodup) (he : e ∈ ss) : valV (ss.map sKV) (Sum.inr e.1 : Key) = some (.str e.2) :=
  valV_at (by rw [keysS]; exact nodup_inr h) (List.mem_map_of_mem (f := sKV) he)
theorem valRn {es : List Ent} {k : Str} (h : k ∉ es.map (·.1)) : valV (es.map rKV) (Sum.inr k : Key) = none := valV_no (by
  rw [keysR]
  intro z
  obtain ⟨a, ha, e⟩ := List.mem_map.mp z
  cases e
  exact h ha)
theorem valSn {ss : List (Str × Str)} {k : Str} (h : k ∉ ss.map (·.1)) : valV (ss.map sKV) (Sum.inr k : Key) = none := valV_no (by
  rw [keysS]
  intro z
  obtain ⟨a, ha, e⟩ := List.mem_map.mp z
  cases e
  exact h ha)
/-- all but the source of draws -/
def cut (H : Hp) (sa la : Addr) : Hp := fun x => if x = sa ∨ x = la then none else H x
section
variable {H H' G : Hp} {sa la ca x : Addr} {T : Nat}
theorem cut_ex : Ex (cut H sa la) H := fun a o h => by
  unfold cut at h
  split at h
  · cases h
  · exact h
theorem cut_s : cut H sa la sa = none := by unfold cut; rw [if_pos (.inl rfl)]
theorem cut_l : cut H sa la la = none := by unfold cut; rw [if_pos (.inr rfl)]
theorem cut_at {o : HO} (h : H x = some o) (n1 : x ≠ sa) (n2 : x ≠ la) : cut H sa la x = some o := by
  unfold cut
  rw [if_neg (fun z => z.elim n1 n2)]
  exact h
theorem cut_up (e : Ex G H) (n1 : G sa = none) (n2 : G la = none) : Ex G (cut H sa la) := fun a o h => cut_at (e a o h) (ne_of_none h n1) (ne_of_none h n2)
/-- what lies there is left by the draws -/
theorem cut_to {o : HO} (e : Ex (cut H sa la) H') (h : H x = some o) (n1 : x ≠ sa) (n2 : x ≠ la) : H' x = some o := e _ _ (cut_at h n1 n2)
theorem Dr.tn {xs : List V} (D : Dr H sa la ca T) (h : H x = some (.tup xs)) : x ≠ sa ∧ x ≠ la := by
  obtain ⟨⟨_, _, _, _, a, b, _⟩, _⟩ := D
  constructor
  · intro z
    rw [z, a] at h
    cases h
  · intro z
    rw [z, b] at h
    cases h
end
end Sn
/-! dict(pairs) where a key may come twice -/
namespace Sn
open Evl (Ex)
open PySem L2
section
variable {ε : Type} (key : ε → Str) (val : ε → V)
def putG (l : List ε) (e : ε) : List ε := if (l.any fun x => decide (key x = key e)) = true then l.map (fun x => if key x = key e then e else x) else l ++ [e]
def kvG (e : ε) : Key × V := (.inr (key e), val e)
variable {key val}
theorem any_kv (l : List ε) (k : Str) : ((l.map (kvG key val)).any fun kv => decide (kv.1 = (Sum.inr k : Key))) = l.any fun x => decide (key x = k) := by
  rw [List.any_map]
  congr 1
  funext x
  show decide ((Sum.inr (key x) : Key) = Sum.inr k) = decide (key x = k)
  rw [decide_eq_decide]
  exact ⟨fun h => Sum.inr.inj h, fun h => by rw [h]⟩
theorem putG_kv (l : List ε) (e : ε) : putK (l.map (kvG key val)) (Sum.inr (key e) : Key) (val e) = (putG key l e).map (kvG key val) := by
  unfold putK putG
  rw [any_kv]
  split
  · rw [List.map_map, List.map_map]
    refine List.map_congr_left fun x _ => ?_
    show (if (Sum.inr (key x) : Key) = Sum.inr (key e) then ((Sum.inr (key x) : Key), val e) else kvG key val x) = kvG key val (if key x = key e then e else x)
    by_cases h : key x = key e
    · rw [if_pos h, if_pos (by rw [h]), h]
      rfl
    · rw [if_neg h, if_neg (fun z => h (Sum.inr.inj z))]
  · rw [List.map_append]
    rfl
theorem mergeG (l : List ε) : ∀ acc : List ε, mergeK (acc.map (kvG key val)) (l.map (kvG key val)) = (l.foldl (putG key) acc).map (kvG key val) := by
  induction l with
  | nil => intro acc; rfl
  | cons e r ih =>
    intro acc
    show mergeK (putK (acc.map (kvG key val)) (Sum.inr (key e) : Key) (val e)) (r.map (kvG key val)) = _
    rw [putG_kv, ih]
    rfl
theorem putG_keys (l : List ε) (e : ε) : (putG key l e).map key = if key e ∈ l.map key then l.map key else l.map key ++ [key e] := by
  unfold putG
  by_cases h : key e ∈ l.map key
  · have ha : (l.any fun x => decide (key x = key e)) = true := by
      obtain ⟨x, hx, hk⟩ := List.mem_map.mp h
      exact List.any_eq_true.mpr ⟨x, hx, decide_eq_true hk⟩
    rw [if_pos ha, if_pos h, List.map_map]
    refine List.map_congr_left fun x _ => ?_
    show key (if key x = key e then e else x) = key x
    split
    · rename_i z; exact z.symm
    · rfl
  · have ha : ¬ (l.any fun x => decide (key x = key e)) = true := fun z => by
      obtain ⟨x, hx, hk⟩ := List.any_eq_true.mp z
      exact h (List.mem_map.mpr ⟨x, hx, of_decide_eq_true hk⟩)
    rw [if_neg ha, if_neg h, List.map_append]
    rfl
theorem putG_mem {l : List ε} {e x : ε} (h : x ∈ putG key l e) : x ∈ l ∨ x = e := by
  unfold putG at h
  split at h
  · obtain ⟨y, hy, rfl⟩ := List.mem_map.mp h
    split
    · exact .inr rfl
    · exact .inl hy
  · rcases List.mem_append.mp h with h | h
    · exact .inl h
    · exact .inr (List.mem_singleton.mp h)
theorem foldG_mem {x : ε} : ∀ (l acc : List ε), x ∈ l.foldl (putG key) acc → x ∈ acc ∨ x ∈ l
  | [], acc, h => .inl h
  | e :: r, acc, h => by
    rcases foldG_mem r _ h with z | z
    · rcases putG_mem z with z | z
      · exact .inl z
      · exact .inr (by rw [z]; exact List.mem_cons_self)
    · exact .inr (List.mem_cons_of_mem _ z)
theorem foldG_nd : ∀ (l acc : List ε), (acc.map key).Nodup → ((l.foldl (putG key) acc).map key).Nodup
  | [], acc, h => h
  | e :: r, acc, h => foldG_nd r _ (by
    rw [putG_keys]
    split
    · exact h
    · rename_i z
      rw [List.nodup_append]
      exact ⟨h, by simp, fun a ha b hb => by rw [List.mem_singleton.mp hb]; exact fun q => z (q ▸ ha)⟩)
theorem foldG_key {k : Str} : ∀ (l acc : List ε), k ∈ (l.foldl (putG key) acc).map key ↔ k ∈ acc.map key ∨ k ∈ l.map key
  | [], acc => by simp
  | e :: r, acc => by
    rw [List.foldl_cons, foldG_key r, putG_keys, List.map_cons, List.mem_cons]
    by_cases h : key e ∈ acc.map key
    · rw [if_pos h]
      constructor
      · rintro (z | z)
        · exact .inl z
        · exact .inr (.inr z)
      · rintro (z | z | z)
        · exact .inl z
        · exact .inl (z ▸ h)
        · exact .inr z
    · rw [if_neg h, List.mem_append, List.mem_singleton]
      constructor
      · rintro ((z | z) | z)
        · exact .inl z
        · exact .inr (.inl z)
        · exact .inr (.inr z)
      · rintro (z | z | z)
        · exact .inl (.inl z)
        · exact .inl (.inr z)
        · exact .inr z
theorem foldG_len : ∀ (l acc : List ε), (l.foldl (putG key) acc).length ≤ acc.length + l.length
  | [], acc => by simp
  | e :: r, acc => by
    rw [List.foldl_cons]
    have h1 := foldG_len r (putG key acc e)
    have h2 : (putG key acc e).length ≤ acc.length + 1 := by
      have := congrArg List.length (putG_keys (key := key) acc e)
      rw [List.length_map] at this
      rw [this]
      split <;> simp
    rw [List.length_cons]
    omega
end
theorem rKV_G (l : List Ent) : l.map rKV = l.map (kvG (fun e : Ent => e.1) fun e => .ref e.2.2) := rfl
theorem sKV_G (l : List (Str × Str)) : l.map sKV = l.map (kvG (fun e : Str × Str => e.1) fun e => .str e.2) := rfl
end Sn
/-! enumerate(tuple) -/
namespace Sn
open Evl (Ex)
open PySem PySem.Spec PyProof.Rows L2
theorem meets_enum1 {v : Value} {o : Obj} {G : Heap → Prop} (B : Begins v o G) :
    Meets (Builtin.«enumerate.__new__» ⟨[.type "enumerate", v], []⟩) (fun _ R s => G s.heap ∧
      R (.ok (.ret (.ref (s.heap.push o).objs.size))) { s with heap := (s.heap.push o).push { cls := .type "enumerate", data := .fields #[.none, .bool false, .ref s.heap.objs.size, rawInt 0, .none, .none] } }) := by
  refine .of_wp fun prog w A R s h => ?_
  obtain ⟨hp, g, d, tk, os⟩ := s
  obtain ⟨hG, h⟩ := h
  have hsub := sub_enumerate
  have it1 : ∀ {A' : Around} {E : Value → Shared → Prop} {Q : Value → Shared → Prop}, Q (.ref hp.objs.size) ⟨hp.push o, g, d, tk, os⟩ → wpAny (model prog w) A' (pyIter v) Q E ⟨hp, g, d, tk, os⟩ := fun q => B.iter prog w _ _ ⟨hp, g, d, tk, os⟩ _ hG q
  wp_walk using it1
  refine wpAny_stack_any fun st => wpAny_pure ?_
  split
  · rename_i c _ _ _ _ _
    cases (c == Value.type "enumerate") <;> (wp_walk using it1; exact ⟨_, rfl, h⟩)
  · wp_walk using it1
    exact ⟨_, rfl, h⟩
theorem call_enumT {prog : Program} {w : World} {A : Around} {E : Value → Shared → Prop} {s : Shared} {a : Addr} {its : Array Value} {Q : Value → Shared → Prop} (ha : s.heap.IsTuple a its)
    (h : ∀ h', IsEnum h' (s.heap.objs.size + 1) s.heap.objs.size 0 .none → h'.IsTupleIter s.heap.objs.size a 0 → (∀ b o, s.heap.get? b = some o → h'.get? b = some o) → Q (.ref (s.heap.objs.size + 1)) { s with heap := h' }) :
    wpAny (model prog w) A (call (.type "enumerate") [.ref a]) Q E s := by
  refine callType_new F.called_enumerate (by decide) (F.typeCall_enumerate_1 _) (F.newCall_enumerate_1 _) (fun obj => F.args_object_init_2 obj _) F.entry_enumerate_new (meets_enum1 (begins_tuple a its)) ⟨ha, ?_⟩
  have sz : (s.heap.push { cls := .type "tuple_iterator", data := .fields #[.ref a, .int 0 0] }).objs.size = s.heap.objs.size + 1 := Heap.size_push ..
  have he := Heap.get?_push_size (s.heap.push { cls := .type "tuple_iterator", data := .fields #[.ref a, .int 0 0] }) (o := { cls := .type "enumerate", data := .fields #[.none, .bool false, .ref s.heap.objs.size, rawInt 0, .none, .none] }) rfl
  show _ ∧ _
  rw [sz] at he ⊢
  exact ⟨⟨_, he, rfl⟩, h _ he ⟨_, Heap.get?_push_of_some _ (Heap.get?_push_size _ rfl), rfl, rfl⟩ fun b o z => Heap.get?_push_of_some _ (Heap.get?_push_of_some _ z)⟩
/-- the pairs of enumerate(t), t the tuple xs at a -/
def IteT (K : PySem.W.Frag) (a : Addr) (xs : List V) : It :=
  ⟨fun i H => SqT K H a xs ∧ i < xs.length, fun i H v H' => ∃ T x, v = .ref T ∧ H T = none ∧ H' = upd H T (.tup [.int (i : Nat), x]) ∧ xs[i]? = some x, fun i H => SqT K H a xs ∧ i = xs.length⟩
theorem turn_enumT {P : Program} {w : World} {K : PySem.W.Frag} {elts : List Expr} {kk : Nat} {tpos : Pos} {a e it : Addr} {xs : List V} (n1 : e ≠ it) (n2 : e ≠ a) (n3 : a ≠ it) :
    Turn P w K (.Tuple elts kk tpos) (IteT K a xs) [e, it] e (fun i h => (∃ old, IsEnum h e it ((i : Nat) : Int) old) ∧ h.IsTupleIter it a i) where
  mem := List.mem_cons_self
  obj := fun i h st b hb => by
    obtain ⟨⟨old, he⟩, o, ho, hc, hd⟩ := st
    rcases List.mem_cons.mp hb with z | hb
    · subst z
      exact ⟨_, he, fun v q => nomatch q⟩
    · rw [List.mem_singleton.mp hb]
      exact ⟨o, ho, fun v q => by rw [hd] at q; cases q⟩
  keep := fun i h h' st k => ⟨st.1.elim fun old he => ⟨old, k e List.mem_cons_self _ he⟩, st.2.at fun o q => k it (by simp) o q⟩
  item := by
    intro X hP hw hK hc i pins s σ H E I hf st hg
    subst hP hw hK
    obtain ⟨⟨old, he⟩, hit⟩ := st
    obtain ⟨hq, hi⟩ := hg
    have hx := List.getElem?_eq_getElem hi
    generalize xs[i] = x at hx
    obtain ⟨its, rv, p, hz⟩ := I.tuple hq
    obtain ⟨u, hu, ru⟩ := rv.get hx
    have hlt : i < its.toArray.size := by simpa using (List.getElem?_eq_some_iff.mp hu).1
    refine wpAny_pyNext_enum_itemD (Draws.tuple (A := X.A.in1) (show X.A.in1.handled = none from I.ok.hd hc) it a n3 its.toArray) he ⟨hit, p⟩ hlt n1 (by simp [n1, n2]) fun y h1 tk hy ho st1 hT hsz hk => ?_
    have ey : y = u := by
      have z : its.toArray[i]? = some y := hy
      have z' : its[i]? = some y := by simpa using z
      rw [hu] at z'
      exact (Option.some.inj z').symm
    subst ey
    refine ⟨_, rfl, wpAny_letOwnedTupleGo_enum (s := { s with heap := h1, toks := tk + 1 }) ho fun h2 he2 sb => ?_⟩
    have lte : e < s.heap.objs.size := Heap.lt_size he
    have lti : it < s.heap.objs.size := by obtain ⟨_, q, _⟩ := hit; exact Heap.lt_size q
    have hT2 := (sb.2 _ (Nat.ne_of_gt lte)).trans hT
    have kept : ∀ b ob, b ∉ [e, it] → s.heap.get? b = some ob → h2.get? b = some ob := fun b ob hb q => by
      have nb : b ≠ e ∧ b ≠ it := by simpa using hb
      exact (sb.2 b nb.1).trans (hk b ob nb.1 nb.2 q)
    have new : ObjOk X.prog X.w (upd H s.heap.objs.size (.tup [.int (i : Nat), x])) h2 s.heap.objs.size (.tup [.int (i : Nat), x]) := ⟨by show 2 ≤ sizeLine; decide, [.int i tk, y], .cons ⟨_, rfl⟩ (.cons ru .nil), ⟨_, hT2, rfl, _, rfl⟩⟩
    refine ⟨.ref s.heap.objs.size, _, I.turnedNew (t' := tk + 1) kept hf (Nat.le_refl _) new, rfl, ⟨_, x, rfl, I.hok.fresh (Nat.le_refl _), rfl, hx⟩, ⟨⟨y, ?_⟩, st1.1.at fun o q => (sb.2 it (Ne.symm n1)).trans q⟩, fun b hb => ?_⟩
    · rw [show ((i + 1 : Nat) : Int) = (i : Int) + 1 by omega]
      exact he2
    · have lb : b < s.heap.objs.size := by
        rcases List.mem_cons.mp hb with z | hb
        · rw [z]; exact lte
        · rw [List.mem_singleton.mp hb]; exact lti
      rw [upd_ne (Nat.ne_of_lt lb)]
      exact (hf b hb).1
  done := by
    intro X hP hw hK hc i pins s σ H E I hf st hg
    subst hP hw hK
    obtain ⟨⟨old, he⟩, hit⟩ := st
    obtain ⟨hq, hx⟩ := hg
    obtain ⟨its, rv, p, hz⟩ := I.tuple hq
    obtain ⟨f0, f1, f2, f3, f4, f5⟩ := hf it (by simp)
    have ez : i = its.toArray.size := by
      rw [hx, rv.length]
      simp
    subst ez
    exact wpAny_pyNext_enum_endD (Draws.tuple (A := X.A.in1) (show X.A.in1.handled = none from I.ok.hd hc) it a n3 its.toArray) he ⟨hit, p⟩ fun h' eb => ⟨rfl, I.turned (t' := s.toks) (fun b o hb q => eb b o hb q) f0 f1 f3 f4 f5⟩
  self := fun A i s Q E st h => st.1.elim fun _ he => wpAny_pyIter_enum he h
def iEnumT (K : PySem.W.Frag) (ta : TA) : TI := fun σ H R => ta σ H fun vs H1 => ∃ a xs, vs = [.ref a] ∧ SqT K H1 a xs ∧ R (IteT K a xs) H1
theorem pi_enumT {X : Cx} {e : Expr} {ta : TA} {p pos tpos : Pos} {elts : List Expr} {kk : Nat} (hg : Gl X "enumerate") (hm : X.mg "enumerate" = none) (ha : PA X [e] ta) (hs : starEach [e] X.env = [(false, eval e X.env)] := by rfl) :
    PI X (.Tuple elts kk tpos) (.Call (.Name "enumerate" p) [e] [] pos) (iEnumT X.K ta) := by
  refine ⟨fun pins s σ H R I h => Call_ (ld_blt I hg hm boot_enumerate (PyProof.Rows.callWith_type1 (thn (ha.run pos pins s σ H _ I h) fun us s1 hh => ?_) hs rfl))⟩
  obtain ⟨vs, H1, I1, r1, a, xs, ex, hq, q⟩ := hh
  subst ex
  obtain rfl := Vals.ref1 r1
  obtain ⟨its, rv, p', hz⟩ := I1.tuple hq
  have la : a < s1.heap.objs.size := by obtain ⟨o, ho, _⟩ := p'; exact Heap.lt_size ho
  refine call_enumT p' fun h' he hit hk => wpAny_pyIter_enum he ?_
  refine ⟨s1.heap.objs.size + 1, [s1.heap.objs.size + 1, s1.heap.objs.size], _, _, H1, rfl, I1.kept (t' := s1.toks) hk, turn_enumT (Nat.succ_ne_self _) (Nat.ne_of_gt (Nat.lt_succ_of_lt la)) (Nat.ne_of_lt la), ⟨⟨.none, he⟩, hit⟩, fun b hb => ?_, q⟩
  have hle : s1.heap.objs.size ≤ b := by
    rcases List.mem_cons.mp hb with z | hb
    · rw [z]; exact Nat.le_succ _
    · rw [List.mem_singleton.mp hb]; exact Nat.le_refl _
  exact I1.fpOk hle (I1.hok.fresh hle)
/-- for i, x in enumerate(t) -/
theorem walk_enumT {K : PySem.W.Frag} {a : Addr} {xs : List V} : Walk (IteT K a xs) xs.length (fun H => SqT K H a xs) (YPair (fun i => some (.int (i : Nat))) (fun i => xs[i]?)) := by
  refine ⟨fun _ _ hi q => ⟨q, hi⟩, fun _ q => ⟨q, rfl⟩, fun i H v H' _ _ y => ?_⟩
  obtain ⟨T, x, h1, h2, h3, h4⟩ := y
  exact ⟨T, _, x, h1, h2, h3, rfl, h4⟩
end Sn
/-! walks of any kind of block -/
namespace Sn
open Evl (Ex)
open PySem L2
theorem w_out {J : It} {n : Nat} {G : Hp → Prop} {Y : Nat → Hp → V → Hp → Prop} (w : Walk J n G Y) {Bd : V → Hp → (Hp → Prop) → Prop} {H0 : Hp} {Qd : Hp → Prop} (Pv : Nat → Hp → Prop) (h0 : Pv 0 H0) (hG : ∀ i H, i ≤ n → Pv i H → G H)
    (hs : ∀ i x H H', i < n → Pv i H → Y i H x H' → Bd x H' (Pv (i + 1))) (hd : ∀ H, Pv n H → Qd H) :
    ∃ W : Nat → Nat → Hp → Prop, (∃ m, W 0 m H0) ∧ ∀ i m H, W i m H → (J.stop i H ∧ Qd H) ∨ (J.go i H ∧ ∃ Nx : Hp → Prop, (∀ H', Nx H' → ∃ m', m' < m ∧ W (i + 1) m' H') ∧ ∀ x H', J.yld i H x H' → Bd x H' Nx) := by
  refine ⟨fun i m H => i ≤ n ∧ m = n - i ∧ Pv i H, ⟨n, Nat.zero_le _, rfl, h0⟩, fun i m H hW => ?_⟩
  obtain ⟨hi, rfl, p⟩ := hW
  rcases Nat.lt_or_eq_of_le hi with hlt | rfl
  · exact .inr ⟨w.goes i H hlt (hG i H hi p), Pv (i + 1), fun H' p' => ⟨n - (i + 1), by omega, hlt, rfl, p'⟩, fun x H' y => hs i x H H' hlt p (w.yields i H x H' hlt (hG i H hi p) y)⟩
  · exact .inl ⟨w.stops H (hG _ H hi p), hd H p⟩
open PySem.Spec PyProof.Rows in
/-- y = {k: v for ..} -/
theorem ps_setDc {X : Cx} {i : Nat} {y : Str} {py : Pos} {kx vx tg iter : Expr} {ifs : List Expr} {scope : Scope} {own : List (Str × Nat)} {pos spos : Pos} {wi : TI} {g : TG} {tt : TT} {tk tv : TE} (hc : X.calm = true) (hN : X.N.Nodup) (hy : X.N[i]? = some y) (hyl : X.env.scope.names.lookup y = some .local)
    (hsw : swapsWith (.DictComp kx vx [⟨tg, iter, ifs, 0⟩] scope pos) (some (.Name y py)) spos.line X.env = pure true) (hi : PI X tg iter wi) (ok : BlkOk X.N X.env.scope scope own)
    (hg : ∀ (s : Shared) (H : Hp) (C : Addr) (cl : List (Str × Addr)) (fp : List Addr), PG (X.blk s H scope (compEnvC scope cl C X.env) fp) tg g) (ht : ∀ (s : Shared) (H : Hp) (C : Addr) (cl : List (Str × Addr)) (fp : List Addr), PTs (X.blk s H scope (compEnvC scope cl C X.env) fp) ifs tt)
    (hk : ∀ (s : Shared) (H : Hp) (C : Addr) (cl : List (Str × Addr)) (fp : List Addr), PE (X.blk s H scope (compEnvC scope cl C X.env) fp) kx tk)
    (he : ∀ (s : Shared) (H : Hp) (C : Addr) (cl : List (Str × Addr)) (fp : List Addr), PE (X.blk s H scope (compEnvC scope cl C X.env) fp) vx tv) (hs : ∀ x, foldedSetIterable iter X.env x = pure x := by intro _; rfl) :
    PS X (.Assign [.Name y py] (.DictComp kx vx [⟨tg, iter, ifs, 0⟩] scope pos) spos) (tAsg (tDc wi g tt tk tv (own.map (·.2))) (gName i)) := by
  refine ⟨fun pins s σ H D I h => ?_⟩
  rw [exec_Assign_Name_used _ _ _ _ hsw]
  refine wpAny_bind (wpAny_standAt (wpAny_bind ?_))
  show wpAny _ X.A (do let _ ← comprehension (.DictComp kx vx [⟨tg, iter, ifs, 0⟩] scope pos) scope X.env (firstIterPos [⟨tg, iter, ifs, 0⟩] pos) newDict false (eval iter X.env) (some (assign (.Name y py) X.env))) _ _ s
  have hh : tDc wi g tt tk tv (own.map (·.2)) σ H (fun x H1 => gName i x σ H1 D.nx) := h
  refine wpAny_bind (thn (dc_core (Qf := fun _ s' => SP X pins D .next s') hc hN I hi ok hg ht hk he hs hh fun P C s' m H' I' q hn f => ?_) fun _ s' hq => wpAny_pure (wpAny_pure hq))
  show wpAny _ _ (assign (.Name y py) X.env (.ref P)) _ _ _
  obtain ⟨f0, f1, f2, f3, f4, f5⟩ := f
  refine wpAny_assign_Name (store_ok2 (v := V.ref P) I' hN hy (.inl hyl) rfl (fun s2 I2 hw => ?_) (.inr hyl))
  obtain ⟨b, sb, hb⟩ := hw
  have nb : C ≠ b := hb.elim (fun z => by rw [z]; exact f1) fun z e => f4 y b z e.symm
  exact ⟨m, hn.sameBut sb nb, fun h3 sb3 => ⟨_, H', I2.turned (t' := s2.toks) (fun c o hc e => (sb3.2 c hc).trans e) f0 f1 f3 f4 f5, q⟩⟩
theorem swD {kx vx : Expr} {gs : List Comprehension} {scope : Scope} {pos py : Pos} {y : Str} {l : Nat} {env : Env} (hk : env.scope.kind = .function) (hy : env.scope.names.lookup y = some .local) (hl : (py.line == pos.line) = true)
    (ha : (scope.names.any fun (n, k) => n == y && (k == .local || k == .cell)) = false) : swapsWith (.DictComp kx vx gs scope pos) (some (.Name y py)) l env = pure true := by
  have k1 : env.kindOf y = some .local := hy
  have k2 : env.blockKind = .function := by unfold Env.blockKind; rw [hk]; rfl
  unfold swapsWith
  simp only [k2, k1, ha, Expr.pos, hl]
  rfl
end Sn
/-! == of dicts of texts and of tuples of texts -/
namespace Sn
open Evl (Ex)
open PySem PySem.Spec PyProof.Rows L2
/-- equal values of a dict: flat ones, or tuples of the same texts -/
def Flt2 (K : PySem.W.Frag) (H : Hp) (x y : V) : Prop := (x = y ∧ flatB x = true) ∨ ∃ (a b : Addr) (ws : List Str), x = .ref a ∧ y = .ref b ∧ SqT K H a (ws.map V.str) ∧ SqT K H b (ws.map V.str)
def DDict (K : PySem.W.Frag) : Eqv := fun x y H => ∃ a b ks ls, x = .ref a ∧ y = .ref b ∧ H a = some (.dK ks) ∧ H b = some (.dK ls) ∧ ks.length = ls.length ∧ ∀ p ∈ ks, ∃ u, valV ls p.1 = some u ∧ Flt2 K H p.2 u
section
variable {X : Cx} {pins : List (Addr × Obj)} {σ : L2.St} {H : Hp} {s : Shared}
theorem strs_at {ws : List Str} : ∀ {us vs : List Value}, Vals (ws.map V.str) us → Vals (ws.map V.str) vs → ∀ (A : Around) j (h1 : j < us.length) (h2 : j < vs.length), SeqAt.EqAt A s us[j] vs[j] true := by
  induction ws with
  | nil =>
    intro us vs r1 r2 A j h1 h2
    cases r1
    exact absurd h1 (Nat.not_lt_zero _)
  | cons w r ih =>
    intro us vs r1 r2 A j h1 h2
    cases r1 with
    | cons a1 b1 =>
      cases r2 with
      | cons a2 b2 =>
        cases j with
        | zero => exact eqAt_same a1 a2 rfl
        | succ j => exact ih b1 b2 A j (Nat.lt_of_succ_lt_succ h1) (Nat.lt_of_succ_lt_succ h2)
theorem flt2_run (I : Inv X pins σ H s) {A : Around} (hu : A.units < cLine) (x y : V) (v u : Value) (h : Flt2 X.K H x y) (rx : RelV x v) (ry : RelV y u) : SeqAt.EqP X.prog X.w A s v u true := by
  rcases h with ⟨rfl, f⟩ | ⟨a, b, ws, rfl, rfl, ha, hb⟩
  · exact (eqAt_same rx ry f).eqP
  · cases (show v = Value.ref a from rx)
    cases (show u = Value.ref b from ry)
    by_cases e : a = b
    · subst e
      exact (SeqAt.EqAt.same _).eqP
    · obtain ⟨us, r1, p1, _⟩ := I.tuple ha
      obtain ⟨vs, r2, p2, _⟩ := I.tuple hb
      have q := SeqAt.EqAt.of_refs e (SeqAt.RcAt.tuples (e := fun _ => true) p1 p2 hu fun j h1 h2 => by
        have := strs_at (s := s) r1 r2 A.in1 j (by simpa using h1) (by simpa using h2)
        simpa using this)
      have es : us.toArray.size = vs.toArray.size := by
        have h1 := r1.length
        have h2 := r2.length
        simp only [List.size_toArray]
        omega
      have eb : ((List.range (min us.toArray.size vs.toArray.size)).all (fun _ => true) && us.toArray.size == vs.toArray.size) = true := by
        rw [es]
        simp
      rw [eb] at q
      exact q.eqP
end
section
variable {X : Cx}
theorem mon_dict : Mon (DDict X.K) := fun x y H H' e d => by
  obtain ⟨a, b, ks, ls, h1, h2, h3, h4, h5, h6⟩ := d
  refine ⟨a, b, ks, ls, h1, h2, e _ _ h3, e _ _ h4, h5, fun p hp => ?_⟩
  obtain ⟨u, hu, f⟩ := h6 p hp
  refine ⟨u, hu, ?_⟩
  rcases f with f | ⟨a, b, ws, x1, x2, x3, x4⟩
  · exact .inl f
  · exact .inr ⟨a, b, ws, x1, x2, x3.ext e, x4.ext e⟩
theorem rcG_dict : RcG X 1 (DDict X.K) := fun A pins s σ H x y u v sb I rx ry d => by
  obtain ⟨a, b, ks, ls, rfl, rfl, ha, hb, hl, hp⟩ := d
  have hu := sb.room.units
  exact eqR_run I (A := A) (F := Flt2 X.K H) (by omega) (fun x y v u h r1 r2 => flt2_run I (A := A.in1) (by show A.units + 1 < cLine; omega) x y v u h r1 r2) (.inr ⟨a, b, ks, ls, rfl, rfl, ha, hb, hl, hp⟩) rx ry _ _ ⟨rfl, H, I, L2.Ext.rfl'⟩
theorem eqG_dict : EqG X 1 (DDict X.K) := rcG_dict.eqG fun _ _ _ d => by
  obtain ⟨a, b, _, _, h1, h2, _⟩ := d
  exact ⟨a, b, h1, h2⟩
end
end Sn
/-! list(d.values()) -/
namespace Sn
open Evl (Ex)
open PySem PySem.Spec PyProof.Rows L2
def rVals : V → Hp → VK → Prop := fun x H Q => ∃ (d : Addr) (kvs : List (Key × V)), x = .ref d ∧ H d = some (.dK kvs) ∧ ∀ p, H p = none → Q (.ref p) (upd H p (.lst (kvs.map (·.2))))
def tVals (te : TE) : TE := fun σ H Q => te σ H fun x H1 => rVals x H1 Q
section
variable {X : Cx} {e : Expr} {te : TE} {p apos cpos pos : Pos}
theorem pe_listVals (hc : X.calm = true) (he : PE X e te) (hg : Gl X "list") (hm : X.mg "list" = none) (hv : bootBuiltins "list" = some (.type "list")) (hbase : attributeBase e "values" X.env (eval e X.env) = eval e X.env := by rfl) (hline : (apos.endLine == cpos.line) = true := by rfl)
    (hs : starEach [.Call (.Attribute e "values" apos) [] [] cpos] X.env = (false, eval (.Call (.Attribute e "values" apos) [] [] cpos) X.env) :: starEach [] X.env := by rfl) :
    PE X (.Call (.Name "list" p) [.Call (.Attribute e "values" apos) [] [] cpos] [] pos) (tVals te) := by
  refine ⟨fun pins s σ H Q I hq => wpAny_Call_Name_kw (ld_blt I hg hm hv (PyProof.Rows.callWith_type1 ?_ hs rfl))⟩
  rw [hs]
  show wpAny _ _ (spliced ((false, eval (.Call (.Attribute e "values" apos) [] [] cpos) X.env) :: backTo pos (starEach [] X.env))) _ _ s
  refine Calls.spliced_cons (wpAny_Call_method (T := "dict") (id := "dict.values") hbase rfl hline F.plainAttrs_dict F.slot_dict_values F.type_dict_values (thn (he.run pins s σ H _ I hq) fun u s1 hh => ?_))
  obtain ⟨x, H1, I1, rx, d, kvs, ex, hd, q⟩ := hh
  subst ex
  obtain rfl : u = Value.ref d := rx
  obtain ⟨hz, lo, vs, kv, hdo⟩ := (show ObjOk X.prog X.w H1 s1.heap d (.dK kvs) from I1.hok d _ hd)
  obtain ⟨ep, hat⟩ := hdo.dictAt
  have ln : kvs.length = vs.length := Paired.length kv
  have I2 : Inv X pins σ H1 { s1 with heap := s1.heap.push { cls := .type "dict_values", data := .fields #[.ref d] } } := I1.kept (t' := s1.toks) fun b ob q => Heap.get?_push_of_some _ q
  refine ⟨hdo.typeIs, hdo.mapOf.noDict, ?_⟩
  show wpAny _ _ (callWith cpos (.builtin "dict.values") [.ref d] [] []) _ X.xe s1
  refine method_meetsIn F.slot_dict_values F.entry_dict_values rfl (PySem.evalArgs_none ⟨rfl, hdo.typeIs, F.args_dict_values_1 _, _, meets_dict_values (mixKind X.prog X.w) d lo, ⟨vs, hdo⟩, ?_⟩)
  refine Calls.spliced_nil (PySem.W.kdl_call (PySem.W.kdl_values (knd := mixKind X.prog X.w) (kvs := vs) (ep := ep) (r := s1.heap.objs.size) (d := d)) (I1.ok.hd hc) ⟨⟨_, Heap.get?_push_size _ rfl, rfl, rfl⟩, hat.push _⟩ (by rw [← ln]; exact hz) fun h' tk acc c hk hS hacc => ?_)
  refine ⟨.ref _, _, I2.laid hk (Nat.le_refl _) (o := .lst (kvs.map (·.2))) ⟨by rw [List.length_map]; exact hz, acc.toList, c, ?_, by rw [Array.toArray_toList]; exact hS⟩, rfl, q _ (I2.hok.fresh (Nat.le_refl _))⟩
  refine vals_of_at (by have h9 := hacc.1; simp only [List.length_map, Array.length_toList]; omega) fun j x w h1 h2 => ?_
  obtain ⟨k, hky⟩ := hacc.2 j w (by rw [← Array.getElem?_toList]; exact h2)
  rw [List.getElem?_map] at h1
  cases hj : kvs[j]? with
  | none => rw [hj] at h1; cases h1
  | some kx =>
    rw [hj] at h1
    obtain rfl : kx.2 = x := Option.some.inj h1
    obtain ⟨qv, g1, _, g3⟩ := LiI.paired_get kv hj
    rw [hky] at g1
    cases g1
    exact g3
end
end Sn
/-! != by an own ==, >> by an own def -/
namespace Sn
open Evl (Ex)
open PySem PySem.Spec PyProof.Rows PySem.W L2
section
variable {prog : Program} {w : World} {A : Around} {E : Value → Shared → Prop} {s : Shared} {K : PySem.W.Frag} {x C f : Addr} {ox : Obj} {od : Option Obj} {b : Value}
/-- x != b where the class has an own == and no own != -/
theorem ne_own {Q : Value → Shared → Prop} (hu : A.units + 1 < cLine) (X : K.In s.heap) (I : InstAt s.heap x ox C od) (hb : Looks (model prog w) s.heap (typeOf b) (.ref C))
    (hn : findIn K (.ref C) "__ne__" = some (some (.builtin "object.__ne__"))) (hm : mroIn K C (.type "object") = some true) (hs : findIn K (.ref C) "__eq__" = some (some (.ref f))) (hf : isFn K (.ref f) = true)
    (h : wpAny (model prog w) A.in1 (call (.ref f) [.ref x, b]) (fun v s' => ∃ r, v = .bool r ∧ Q (.bool (!r)) s') E s) : wpAny (model prog w) A (richCompare .NotEq (.ref x) b) Q E s := by
  have ask : wpAny (model prog w) A (tryCompare (.ref x) "__ne__" b) (fun r s' => ∃ v, r = some v ∧ Q v s') E s := by
    unfold tryCompare
    simp only [callSpecialIfBound?, bindSpecialIfBound?]
    have bd : Looks (model prog w) s.heap (bindSpecial (.builtin "object.__ne__") (.ref x)) (.builtin "object.__ne__", [.ref x]) := Looks.of_pure (PySem.F.cmp_object.ne.bind (.ref x))
    have run : wpAny (model prog w) A (call (.builtin "object.__ne__") [.ref x, b]) (fun v s' => ∃ r, v = .bool r ∧ Q (.bool r) s') E s := by
      refine wpAny_call (codeAny_call_builtin PySem.F.cmp_object.ne.plain PySem.F.cmpEntry_ne (check_slot PySem.F.cmpKind_ne PySem.F.cmpSplit_ne (I.type.andThen (looks_mroIn X hm)) (PySem.F.cmpArgs_ne _ _) ?_))
      unfold Builtin.«object.__ne__»
      refine wpAny_bind (wpAny_of_eq (a := ((.ref x : Value), [b])) (by first | rfl | kernel_rfl) ?_)
      refine wpAny_bind (wpAny_cRoomFor (show A.in1.units < cLine from hu) ?_)
      refine wpAny_bind (ifBound_K X I hs hf (wpAny_mono h (fun v s' hv => ?_) fun _ _ e => e))
      obtain ⟨r, rfl, hq⟩ := hv
      refine wpAny_bind (wpAny_truthy_bool ?_)
      exact wpAny_pure ⟨_, rfl, hq⟩
    have fin : wpAny (model prog w) A (call (.builtin "object.__ne__") ([.ref x] ++ [b]) >>= fun v => pure (some v)) (fun r s' => ∃ v, r = some (.bool v) ∧ Q (.bool v) s') E s := wpAny_bind (wpAny_mono run (fun v s' hv => by
      obtain ⟨r, rfl, hq⟩ := hv
      exact wpAny_pure ⟨r, rfl, hq⟩) fun _ _ e => e)
    have done : ∀ {r : Option Value} {s' : Shared}, (∃ v, r = some (.bool v) ∧ Q (.bool v) s') → wpAny (model prog w) A (match r with | some .notImplemented | none => pure none | some v => pure (some v)) (fun r s' => ∃ v, r = some v ∧ Q v s') E s' := fun {r s'} hv => by
      obtain ⟨v, rfl, hq⟩ := hv
      exact wpAny_pure ⟨_, rfl, hq⟩
    refine wpAny_bind (wpAny_holding (wpAny_bind (wpAny_bind (wpAny_bind (I.type.here ((looks_findIn X hn).here ?_))))))
    refine wpAny_bind (wpAny_askSetting (wpAny_ite ?_))
    split
    · refine wpAny_bind (bd.here (wpAny_pure (wpAny_mono fin (fun r s' hr => ?_) fun _ _ e => e)))
      obtain ⟨v, rfl, hq⟩ := hr
      exact wpAny_pure ⟨_, rfl, hq⟩
    · refine wpAny_tryCatch (wpAny_bind (bd.here (wpAny_pure (wpAny_mono fin (fun r s' hr => ?_) fun _ _ e => e))))
      obtain ⟨v, rfl, hq⟩ := hr
      exact wpAny_pure ⟨_, rfl, hq⟩
  unfold richCompare
  simp only [oneThing_ref]
  refine wpAny_holding (wpAny_bind (wpAny_cRoomFor (Nat.lt_of_succ_lt hu) ?_))
  rw [cmpInfo_NotEq]
  dsimp only
  refine wpAny_bind (I.type.here (wpAny_bind (hb.here ?_)))
  rw [show (Value.ref C != Value.ref C) = false from by simp]
  simp only [Bool.false_eq_true, if_false]
  refine wpAny_bind (wpAny_pure ?_)
  simp only [Bool.false_eq_true, if_false]
  refine wpAny_bind (wpAny_mono ask (fun r s' hr => ?_) fun _ _ e => e)
  obtain ⟨v, rfl, hq⟩ := hr
  first | exact wpAny_pure hq | exact wpAny_pure (wpAny_pure hq)
end
/-- what a type must be, so that it leaves >> to the own def on the left -/
structure ShT (K : PySem.W.Frag) (C : Addr) (T : String) : Prop where
  f : ∃ fo, findIn K (.type T) "__rshift__" = some fo
  r : ∃ ro, findIn K (.type T) "__rrshift__" = some ro
  sub : subIn K (.type T) (.ref C) = some false
/-- the class's own >> -/
structure ShC (K : PySem.W.Frag) (C f : Addr) : Prop where
  first : selfFirst K C = true
  at_ : findIn K (.ref C) "__rshift__" = some (some (.ref f))
  fn : isFn K (.ref f) = true
  refl : findIn K (.ref C) "__rrshift__" = some none
section
variable {prog : Program} {w : World} {A : Around} {E : Value → Shared → Prop} {s : Shared} {K : PySem.W.Frag} {x C f : Addr} {ox : Obj} {od : Option Obj} {b : Value} {h₀ : Heap} {L : Addr} {m : Str → Option Value}
/-- x >> b, b of a built-in type -/
theorem sh_own {T : String} {Q : Value → Shared → Prop} (X : K.In s.heap) (I : InstAt s.heap x ox C od) (hb : Looks (model prog w) s.heap (typeOf b) (.type T)) (c : ShC K C f) (t : ShT K C T)
    (h : wpAny (model prog w) A (call (.ref f) [.ref x, b]) (PySem.W.CmpBack Q) E s) : wpAny (model prog w) A (binaryOp .RShift (.ref x) b) Q E s := by
  obtain ⟨fo, h1⟩ := t.f
  obtain ⟨ro, h2⟩ := t.r
  obtain ⟨cd, rest, hcd, hm⟩ := ksp_first c.first
  have one := ksp_try X I c.at_ c.fn h
  obtain ⟨hh, g, d, tt, os⟩ := s
  have k1 : Looks (model prog w) hh (typeOf (.ref x)) (.ref C) := I.type
  have k2 : Looks (model prog w) hh (typeOf b) (.type T) := hb
  have k3 : Looks (model prog w) hh (fillsNumberSlot (.ref C) "rshift") true := fills_K X hcd hm c.at_
  have k4 : Looks (model prog w) hh (fillsNumberSlot (.type T) "rshift") ((fo.isSome && !isSeqSlot fo) || (ro.isSome && !isSeqSlot ro)) := ksp_fillsT X h1 h2
  have k5 : Looks (model prog w) hh (isSubtype (.type T) (.ref C)) false := looks_subIn X t.sub
  have k6 : Looks (model prog w) hh (numberSlotInPython (.ref C) "rshift") true := ksp_inPy X c.at_ c.refl (.inl rfl)
  have k7 : Looks (model prog w) hh (numberSlotInPython (.type T) "rshift") false := Looks.of_pure rfl
  have k8 : Looks (model prog w) hh (typeLookup (.type T) (dunderR "rshift")) ro := looks_findIn X h2
  generalize ((fo.isSome && !isSeqSlot fo) || (ro.isSome && !isSeqSlot ro)) = rt at k4
  have ne : (Value.ref C == Value.type T) = false := Bool.eq_false_iff.mpr fun q => by cases beq_iff_eq.mp q
  simp only [binaryOp, show Operator.RShift.info = (">>", "rshift") from rfl]
  refine wpAny_holding (wpAny_bind ?_)
  unfold binaryOp1
  refine wpAny_bind (k1.at (wpAny_bind (k2.at (wpAny_bind (k3.at ?_)))))
  simp only [ne, Bool.false_eq_true, if_false]
  cases rt with
  | false =>
    ksp_lk
    refine wpAny_mono one (fun r s' hr => ?_) fun _ _ e => e
    obtain ⟨v, rfl, hq⟩ := hr
    ksp_lk
    exact hq
  | true =>
    ksp_lk
    refine wpAny_mono one (fun r s' hr => ?_) fun _ _ e => e
    obtain ⟨v, rfl, hq⟩ := hr
    ksp_lk
    exact hq
end
/-- x != y of two instances of C that are equal by the own == -/
structure NeC (K : PySem.W.Frag) (C f : Addr) : Prop where
  ne : findIn K (.ref C) "__ne__" = some (some (.builtin "object.__ne__"))
  ob : mroIn K C (.type "object") = some true
  eq : findIn K (.ref C) "__eq__" = some (some (.ref f))
  fn : isFn K (.ref f) = true
section
variable {X : Cx} {C f : Addr} {k : Nat}
theorem inst_of {pins : List (Addr × Obj)} {σ : L2.St} {H : Hp} {s : Shared} {a dx : Addr} {fs : List (Str × V)} (I : L2.Inv X pins σ H s) (h : H a = some (.ins C dx fs)) : ∃ ox od, InstAt s.heap a ox C od := by
  obtain ⟨mA, J, _⟩ := ins_get I.hok h
  obtain ⟨od, J, _⟩ := J.look
  exact ⟨_, _, J⟩
def rNeO (C : Addr) (R : Addr → Addr → Hp → Prop) : R2 := fun x y H Q => ∃ a b dx dy fs gs, x = .ref a ∧ y = .ref b ∧ H a = some (.ins C dx fs) ∧ H b = some (.ins C dy gs) ∧ R a b H ∧ ∀ H', L2.Ext H H' → Q (.bl false) H'
theorem op_neO {fd : FuncData} {ps : List Str} {R : Addr → Addr → Hp → Prop} (n : NeC X.K C f) (F : FnOk X.prog X.w X.K X.mg X.base CX0 k f fd ps (spEq R)) (hb : L2.Binds X.K fd ps []) (hr : Room (k + 1) X.A) : OpR X (compareOp .NotEq) (rNeO C R) := by
  intro pins s σ H x y v u Q I rx ry h
  obtain ⟨a, b, dx, dy, fs, gs, rfl, rfl, ha, hb', hR, q⟩ := h
  cases rx
  cases ry
  obtain ⟨ox, od, J⟩ := inst_of I ha
  obtain ⟨oy, oe, J'⟩ := inst_of I hb'
  have hu := hr.units
  show wpAny (model X.prog X.w) X.A (richCompare .NotEq (.ref a) (.ref b)) _ _ _
  refine ne_own (by omega) I.kIn J J'.type n.ne n.ob n.eq n.fn ?_
  have hsp : spEq R [.ref a, .ref b] H (fun v H' => v = .bl true ∧ L2.Ext H H') E0 := ⟨a, b, rfl, hR, fun H' e => ⟨rfl, e⟩⟩
  have e0 : Env0 X.prog X.w X.K X.mg X.base X.A.in1 X.stack s H := I.env0.in1
  have hl := F.len _ _ _ _ hsp
  have r2 : Vals [V.ref a, V.ref b] [Value.ref a, Value.ref b] := .cons rfl (.cons rfl .nil)
  refine wpAny_call (codeAny_mono (F.run X.A.in1 X.stack s H ⟨[.ref a, .ref b], []⟩ [.ref a, .ref b] [.ref a, .ref b] _ E0 hr.in1 e0 (by
    have := hb s [.ref a, .ref b] I.kIn (by simpa using hl)
    simpa using this) r2 hsp) fun r s' hq => ?_)
  cases r with
  | error e => exact (show False from hq).elim
  | ok fl =>
    cases fl with
    | ret w =>
      obtain ⟨z, H', I', rz, ez, ex⟩ := I.after hq
      subst ez
      cases rz
      exact ⟨true, rfl, .bl false, H', I', rfl, q H' ex⟩
    | next => exact False.elim hq
    | brk => exact False.elim hq
    | cont => exact False.elim hq
/-- x >> y by the own def -/
def rSh (K : PySem.W.Frag) (C : Addr) (sp : Sp) (E : XK) : R2 := fun x y H Q => ∃ a dx fs, x = .ref a ∧ H a = some (.ins C dx fs) ∧ ((∃ b dy gs, y = .ref b ∧ H b = some (.ins C dy gs)) ∨ ∃ T, TyX K H y (.type T) ∧ ShT K C T) ∧ sp [x, y] H (fun v H' => (∃ r, v = .ref r) ∧ Q v H') E
theorem op_sh {CX : CXT} {fd : FuncData} {ps : List Str} {sp : Sp} {E : XK} (c : ShC X.K C f) (F : FnOk X.prog X.w X.K X.mg X.base CX k f fd ps sp) (hb : L2.Binds X.K fd ps []) (hr : Room k X.A) (hx : Passes CX X E) : OpR X (binaryOp .RShift) (rSh X.K C sp E) := by
  intro pins s σ H x y v u Q I rx ry h
  obtain ⟨a, dx, fs, rfl, ha, hy, q⟩ := h
  cases (show v = Value.ref a from rx)
  obtain ⟨ox, od, J⟩ := inst_of I ha
  have run : wpAny (model X.prog X.w) X.A (call (.ref f) [.ref a, u]) (PySem.W.CmpBack (EP X pins σ Q)) X.xe s := by
    refine wpAny_mono (run_fn (us := [.ref a, u]) (vs := [.ref a, y]) (dvs := []) F hr hb .nil hx I (.cons rfl (.cons ry .nil)) (by simpa using q)) (fun w s' hw => ?_) fun _ _ e => e
    obtain ⟨z, H', I', rz, ⟨r, rfl⟩, qz⟩ := hw
    cases (show w = Value.ref r from rz)
    exact ⟨.ref r, H', I', rfl, qz⟩
  rcases hy with ⟨b, dy, gs, rfl, hb'⟩ | ⟨T, ty, t⟩
  · cases (show u = Value.ref b from ry)
    obtain ⟨oy, oe, J'⟩ := inst_of I hb'
    obtain ⟨m, hF⟩ := I.fr
    exact binop_K hF I.ok.mod.kin J J'.type c.first c.at_ c.fn run
  · obtain ⟨Pk, kx, hp, _⟩ := kit_of I ry ty
    exact sh_own I.kIn J (kx.ty _ _ I.kIn hp) c t run
end
end Sn
/-! Errors: raised without arguments, held behind their suite, asked for their class and a field -/
namespace Sn
open Evl (Ex)
open PySem PySem.Spec PyProof.Rows L2
section
variable {X : Cx} {pos : Pos}
/-- X(), X an own exception class without own __init__ -/
theorem pmk_own0 {C : Addr} {bmB : List Value} {B newId initId : String} {x : Str} {p : Pos} (F : ExcBaseFacts B newId initId bmB) (q : PySem.W.excIn X.K C bmB newId = true) (gC : X.mg x = some (.ref C))
    (kC : PySem.W.keepIn X.K (.ref C) = true) (r : Raises X (.ref C)) (hg : Gl X x) (hdb : (x == ("__debug__" : Str)) = false := by decide) :
    PMk X (.Call (.Name x p) [] [] pos) (fun σ H Q => Q (.ref C) none H) := by
  intro pins s σ H Q I h
  refine wpAny_Call_Name_kw (ld_glob I hg gC ?_ hdb)
  refine PySem.W.callWith_K0 I.kIn kC ?_
  show wpAny _ _ (call (.ref C) []) _ _ _
  obtain ⟨bm, N, nm, qn, bs, hdct, sn, sub, ab, col, dd, k0, k1, k2, k3, k5, mN, hC, hN, hni, T⟩ := exc_obj I.kIn q
  refine wpAny_call_exc_subT F T hC hN hni (fun h' e hm => ?_) (by simp)
  exact mk_of I hm r h (I.hok.gone hm.new)
end
/-- an exception that is held -/
def HeldX (cls : Value) (d : Option Addr) (a : Addr) : HO := .ext fun h => ∃ (oe : Obj) (vs : Array Value), h.get? a = some oe ∧ Zc cls d oe ∧ oe.data = .fields vs
theorem heldX_ok {P : Program} {w : World} {H : Hp} {h : Heap} {a : Addr} {cls : Value} {d : Option Addr} {oe : Obj} {vs : Array Value} (e : h.get? a = some oe) (z : Zc cls d oe) (q : oe.data = .fields vs) : ObjOk P w H h a (HeldX cls d a) :=
  ⟨⟨oe, vs, e, z, q⟩, ⟨oe, e⟩, fun h1 h2 ⟨oe, vs, e, z, q⟩ st => ⟨oe, vs, st _ e, z, q⟩⟩
theorem heldX_at {P : Program} {w : World} {H : Hp} {h : Heap} {a : Addr} {cls : Value} {d : Option Addr} (x : HOk P w H h) (e : H a = some (HeldX cls d a)) : ∃ (oe : Obj) (vs : Array Value), h.get? a = some oe ∧ Zc cls d oe ∧ oe.data = .fields vs := (x a _ e).1
section
variable {X : Cx} {pins : List (Addr × Obj)} {σ : L2.St} {H : Hp} {s : Shared}
theorem inv_hold {a : Addr} {cls : Value} {d : Option Addr} {oe : Obj} {vs : Array Value} (I : Inv X pins σ H s) (ha : s.heap.get? a = some oe) (hz : Zc cls d oe) (hd : oe.data = .fields vs) (n0 : X.s_0.heap.get? a = none) (hn : H a = none)
    (hL : a ≠ X.env.locals) (hp : ∀ p ∈ X.pn ++ pins, p.1 ≠ a) : Inv X pins σ (upd H a (HeldX cls d a)) s := by
  have ne0 : ∀ b o, X.s_0.heap.get? b = some o → b ≠ a := fun b o e z => by rw [z, n0] at e; cases e
  have up : ∀ {b u}, H b = some u → upd H a (HeldX cls d a) b = some u := fun {b u} e => by rw [upd_ne (ne_of_none e hn)]; exact e
  refine ⟨I.ok, I.os, I.bare, ⟨I.base.keep, I.base.slot, fun b o e n hx => ?_, I.base.there, fun b xs e => up (I.base.tups b xs e), fun b o u e => up (I.base.frzs b o u e), fun b ps e => ?_⟩, I.loc, I.cell, ?_, fun x c e => ?_, fun p q => ?_, fun b u e => ?_, I.len⟩
  · rw [upd_ne (ne0 b o e)]
    exact I.base.free b o e n hx
  · obtain ⟨m, e1⟩ := I.base.tbls b ps e
    exact ⟨m, up e1⟩
  · rw [upd_ne (Ne.symm hL)]
    exact I.free
  · have hc : c ≠ a := fun z => by
      obtain ⟨v, o, ho, hc⟩ := I.cell x c e
      rw [z, ha] at ho
      cases ho
      rw [hd] at hc
      cases hc
    rw [upd_ne hc]
    exact I.freeC x c e
  · obtain ⟨e1, e2, e3⟩ := I.pin p q
    exact ⟨e1, by rw [upd_ne (hp p q)]; exact e2, e3⟩
  · by_cases hb : b = a
    · subst hb
      rw [upd_same] at e
      cases e
      exact heldX_ok ha hz hd
    · rw [upd_ne hb] at e
      exact (I.hok b u e).stay (fun c v _ q => q) (fun c q => up q) fun c xs q => up q
end
/-- what the clause 'except x as n' wishes where the error is held behind the suite -/
def wHold (K : PySem.W.Frag) (n : Nat) (c : Value) (i : Nat) (ts : Addr → Value → Option Addr → TS) (Wout : WX) (D : Ends) : WX := fun cls d σ H => σ.length = n →
  ∃ b, PySem.W.exmOne K cls c = some b ∧ (b = true → ∀ a, H a = none → ts a cls d { nx := fun σ' H' => D.nx (σ'.set i none) (upd H' a (HeldX cls d a)), rt := fun _ _ => False, bk := fun _ _ => False, ct := fun _ _ => False } (σ.set i (some (.ref a))) H) ∧
    (b = false → Wout cls d σ H)
section
variable {X : Cx} {x n : Str} {c : Value} {i : Nat} {body suite : List Stmt} {b₀ : Stmt} {np pos pos' : Pos} {tb : WX → TS} {ts : Addr → Value → Option Addr → TS} {Wout : WX}
theorem ps_try_hold (hs : X.stack = X.env :: X.outer) (hf : X.env.frame = some X.env.locals) (hx : X.ex = []) (hN : X.N.Nodup) (hi : X.N[i]? = some n) (hln : X.env.kindOf n = some .local) (hc : Names X x c) (tk : Takes X Wout)
    (hb : ∀ (W : WX) (pn : List (Addr × Obj)) (xe : Value → Shared → Prop), Takes (X.tr pn xe) W → PassesOwn (model X.prog X.w) X.A X.env xe → PSs (X.tr pn xe) body (tb W))
    (hsu : ∀ (a : Addr) (oe : Obj) (cls : Value) (d : Option Addr) (pn : List (Addr × Obj)), Zc cls d oe → (∃ vs, oe.data = .fields vs) → PSs (X.suite a ((a, oe) :: pn)) (b₀ :: suite) (ts a cls d)) :
    PS X (.Try body [.ExceptHandler (some (.Name x np)) (some n) (b₀ :: suite) pos'] [] [] pos) (fun D σ H => tb (wHold X.K X.N.length c i ts Wout D) D σ H) := by
  refine ⟨fun pins s σ H D I h => ?_⟩
  have ok := I.ok
  have hfr : X.A.frames = some (X.env :: X.outer) := by rw [ok.frames, hs]
  have hloc : Loc X.env.scope n := .inl hln
  refine wpAny_Try_except ?_
  refine wpAny_mono ((hb (wHold X.K X.N.length c i ts Wout D) (X.pn ++ pins) (fun e s₁ => wpAny (model X.prog X.w) X.A (noteFrame e X.env) (fun _ s₂ => wpAny (model X.prog X.w) X.A (setFlight e none) (fun _ s₃ =>
    wpAny (model X.prog X.w) X.A (handleBy e X.env [.ExceptHandler (some (.Name x np)) (some n) (b₀ :: suite) pos']) (SP X pins D) X.xe s₃) X.xe s₂) X.xe s₁) (fun u s' xx => ?_) PassesOwn.looking).run [] s σ H D (I.toTry _) h) (fun f s1 hsp => ?_) (fun e s1 he => he)
  · -- the catch
    obtain ⟨a, B, sI, pins', σ', H', cls, d, rfl, J', nb, up, sky, na, os, ag, hW⟩ := xx
    obtain ⟨b, hb1, hyes, hno⟩ := hW J'.len
    have J : Inv X pins σ' H' sI := J'.ofTry ok
    have sky' : Sky B (X.env :: X.outer) a (Zc cls d) X.env.locals s'.heap := by rw [← hs]; exact sky
    show wpAny (model X.prog X.w) X.A (noteFrame (.ref a) X.env) _ _ _
    refine Sky.land Zc.steady hfr hf sky' fun h3 fl3 up3 => ?_
    have J3 : Inv X pins σ' H' { s' with heap := h3 } := J.landed nb fl3.1 (up.trans up3) os ag
    obtain ⟨oe3, vs3, he3, hz3, hd3⟩ := fl3.there
    have notFr : ∀ {h : Heap} {o : Obj} {vs : Array Value}, h.FunFrames B (X.env :: X.outer) → h.get? a = some o → o.data = .fields vs → a ∉ frs (X.env :: X.outer) := fun {h o vs} ff e dd hm => by
      obtain ⟨_, o', e', hnf⟩ := ff.mem hm
      rw [e] at e'; cases e'
      exact hnf _ dd
    have nfr := notFr fl3.2.2.1 he3 hd3
    have nL : a ≠ X.env.locals := fun z => nfr (List.mem_filterMap.mpr ⟨X.env, List.mem_cons_self, by rw [hf, z]⟩)
    have nF : a ∉ X.fs := fun hm => by
      obtain ⟨e, he, q⟩ := List.mem_filterMap.mp hm
      exact nfr (List.mem_filterMap.mpr ⟨e, List.mem_cons_of_mem _ he, q⟩)
    have nfs : a ∉ frs X.stack := by rw [hs]; exact nfr
    have nI : sI.heap.get? a = none := by
      cases e : sI.heap.get? a with
      | none => rfl
      | some o =>
        have z := nb a o e nfs
        rw [fl3.2.1] at z
        cases z
    have n0 : X.s_0.heap.get? a = none := by
      cases e : X.s_0.heap.get? a with
      | none => rfl
      | some o =>
        obtain ⟨o', e'⟩ := J.base.there a o e (by rw [hx]; exact fun z => nomatch z)
        rw [nI] at e'
        cases e'
    have npin : ∀ p ∈ X.pn ++ pins, p.1 ≠ a := fun p hp z => by
      obtain ⟨e1, _⟩ := J.pin p hp
      rw [z, nI] at e1
      cases e1
    have S3 := J3.suite he3 hd3 na nL nF
    refine wpAny_handleBy_cons (codeAny_handlers_test ?_) (by intro q; cases q)
    have LT : PySem.W.Looks (model X.prog X.w) h3 (typeOf (.ref a)) cls := fun A Q E s k q => wpAny_typeOf_ref (k _ _ he3) (by rw [hz3.1]; exact q)
    have LM := PySem.W.exm_one (M := model X.prog X.w) (J3.kIn) LT hb1
    have test : ∀ {Q : Value → Shared → Prop} {E : Value → Shared → Prop}, Q c { s' with heap := h3 } → wpAny (model X.prog X.w) (X.A.mark (some (.ref a))) (eval (.Name x np) X.env) Q E { s' with heap := h3 } := fun {Q E} q => by
      obtain ⟨hg, hdbg, hm | ⟨hm, hv, hnn⟩⟩ := hc
      · exact ld_glob (X := X.suite a ((a, oe3) :: (X.pn ++ pins))) S3 hg hm q hdbg
      · exact ld_blt (X := X.suite a ((a, oe3) :: (X.pn ++ pins))) S3 hg hm hv q hnn hdbg
    refine test (LM.here ?_)
    cases b with
    | true =>
      refine codeAny_handlers_suite_as ?_
      refine HandSPX.lands_againZ fl3 fun h4 fl4 up4 => ?_
      have J4 : Inv X pins σ' H' { s' with heap := h4 } := J.landed nb fl4.1 ((up.trans up3).trans up4) os ag
      obtain ⟨oe4, vs4, he4, hz4, hd4⟩ := fl4.there
      have S4 := J4.suite he4 hd4 na nL nF
      refine store_ok (X := X.suite a ((a, oe4) :: (X.pn ++ pins))) (v := .ref a) S4 hN hi hloc rfl (fun s5 S5 => ?_) (.inr hln)
      refine wpAny_mono ((hsu a oe4 cls d (X.pn ++ pins) hz4 ⟨_, hd4⟩).run [] s5 _ H' _ S5 (hyes rfl a na)) (fun f s6 hsp => ?_) (fun _ _ z => False.elim z)
      cases f with
      | next =>
        obtain ⟨σ6, H6, S6, q6⟩ := hsp
        have fin : wpAny (model X.prog X.w) X.A (do bindName X.env n .none; unbindBehindTheSuite X.env n pos') (fun _ s7 => SP X pins D .next s7) X.xe s6 := by
          refine gone_ok (X := X.suite a ((a, oe4) :: (X.pn ++ pins))) (i := i) S6 hN hi hln fun s7 S7 => ?_
          obtain ⟨e7, n7, _⟩ := S7.pin (a, oe4) (List.mem_append_left _ List.mem_cons_self)
          exact ⟨_, _, inv_hold (S7.unsuite ok) e7 hz4 hd4 n0 n7 nL npin, q6⟩
        exact fin
      | brk =>
        obtain ⟨σ6, H6, S6, q6⟩ := hsp
        exact q6.elim
      | cont =>
        obtain ⟨σ6, H6, S6, q6⟩ := hsp
        exact q6.elim
      | ret u =>
        obtain ⟨v6, σ6, H6, S6, r6, q6⟩ := hsp
        exact q6.elim
    | false =>
      show wpAny _ X.A (handleBy (.ref a) X.env []) _ _ _
      refine wpAny_handleBy_nil ?_
      obtain ⟨k1, k2, k3, oe, vs, T, oT, ts', he, hz, hd, h1, hr⟩ := id fl3
      unfold PySem.passOn
      refine wpAny_bind (wpAny_field he hd h1 ?_)
      rw [if_neg (show ¬ ((Value.ref T == Value.none) = true) from by simp)]
      have fin : wpAny (model X.prog X.w) X.A (setFlight (.ref a) X.env.frame) (fun _ s4 => wpAny (model X.prog X.w) X.A (throw (.ref a) : Sem Flow) (SP X pins D) X.xe s4) X.xe { s' with heap := h3 } := by
        rw [hf]
        refine HandSPX.setFlight_upZ fl3 fun h4 hh4 up4 => wpAny_throw (tk _ _ ?_)
        exact ⟨a, B, sI, pins, σ', H', cls, d, rfl, J, nb, (up.trans up3).trans up4, .inr (.inr (by rw [hs]; exact hh4)), na, os, ag, hno rfl⟩
      first
        | exact wpAny_bind (wpAny_pure (wpAny_bind fin))
        | exact wpAny_bind fin
  · cases f with
    | next =>
      obtain ⟨σ', H', J', q⟩ := hsp
      exact wpAny_execs_nil ⟨σ', H', J'.ofTry ok, q⟩
    | brk =>
      obtain ⟨σ', H', J', q⟩ := hsp
      exact ⟨σ', H', J'.ofTry ok, q⟩
    | cont =>
      obtain ⟨σ', H', J', q⟩ := hsp
      exact ⟨σ', H', J'.ofTry ok, q⟩
    | ret u =>
      obtain ⟨v, σ', H', J', r, q⟩ := hsp
      exact ⟨v, σ', H', J'.ofTry ok, r, q⟩
end
/-- a held error's dict, as far as it is known -/
def DOk (H : Hp) (d : Option Addr) : Prop := d = none ∨ ∃ dd fs, d = some dd ∧ H dd = some (.xd fs)
/-- isinstance(e, c), e a held error of the class at D -/
def rIsH (K : PySem.W.Frag) : List V → Hp → VK → Prop := fun xs H Q => ∃ (a D : Addr) (d : Option Addr) (c : V) (cv : Value) (b : Bool), xs = [.ref a, c] ∧ H a = some (HeldX (.ref D) d a) ∧ DOk H d ∧ ExcC K D ∧
  (∀ u, RelV c u → u = cv) ∧ PySem.W.kitOne K (.ref D) cv = some b ∧ Q (.bl b) H
theorem call_isH {X : Cx} : CallR X (.builtin "isinstance") (rIsH X.K) := by
  intro pins s σ H xs us Q I r h
  obtain ⟨a, D, d, c, cv, b, rfl, hH, hd, C, hcv, e, q⟩ := h
  cases r with
  | cons rx rr =>
    cases rr with
    | cons rt rr =>
      cases rr
      cases rx
      have ec := hcv _ rt
      subst ec
      obtain ⟨oe, vs, hget, hz, hv⟩ := heldX_at I.hok hH
      obtain ⟨od, J⟩ : ∃ od, PySem.W.InstAt s.heap a oe D od := by
        obtain ⟨oc, odd, oda, osl⟩ := oe
        obtain ⟨h1, h2⟩ := hz
        dsimp only at h1 h2 hv
        subst h1 h2 hv
        rcases hd with z | ⟨dd, fs, z, hdd⟩
        · subst z
          exact ⟨none, hget, rfl, rfl, trivial⟩
        · subst z
          have hx : ObjOk X.prog X.w H s.heap dd (.xd fs) := I.hok dd _ hdd
          obtain ⟨mA, hns, hr⟩ := hx
          obtain ⟨od, ho, hl⟩ := lookIn_ns hns
          exact ⟨some od, hget, rfl, rfl, ho⟩
      have hcl : (PySem.W.clsIn X.K D).isSome = true := by
        obtain ⟨cd, hc, _⟩ := PySem.W.any_some C.hd
        rw [hc]; rfl
      exact PySem.W.kia_one (PySem.W.kitx_exc hcl C.hg C.hk C.hs C.ha C.hn C.ht C.hm) I.kIn J e (fun z => nomatch z) fun tk => ⟨.bl b, H, I.kept (t' := tk) fun _ _ z => z, rfl, q⟩
/-- e.n of a held error -/
def tHf (K : PySem.W.Frag) (n : Str) (te : TE) : TE := fun σ H Q => te σ H fun x H1 => ∃ (a C dd : Addr) (fs : List (Str × V)) (v : V), x = .ref a ∧ H1 a = some (HeldX (.ref C) (some dd) a) ∧ XfC K C ∧ PySem.W.findIn K (.ref C) n = some none ∧ H1 dd = some (.xd fs) ∧ fs.lookup n = some v ∧ Q v H1
theorem pe_hf {X : Cx} {e : Expr} {te : TE} {pos : Pos} {n : Str} (he : PE X e te) (hb : attributeBase e n X.env (eval e X.env) = eval e X.env := by rfl) : PE X (.Attribute e n pos) (tHf X.K n te) := by
  refine ⟨fun pins s σ H Q I h => ?_⟩
  refine attr_of hb (thn (he.run pins s σ H _ I h) fun u s1 hh => ?_)
  obtain ⟨x, H1, I1, rx, a, C, dd, fs, v, ex, ha, T, hno, ea, l, q⟩ := hh
  subst ex
  obtain rfl : u = Value.ref a := rx
  obtain ⟨oe, vs, hget, hz, hd⟩ := heldX_at I1.hok ha
  have hx : ObjOk X.prog X.w H1 s1.heap dd (.xd fs) := I1.hok dd _ ea
  obtain ⟨mA, hns, hr⟩ := hx
  obtain ⟨od, ho, hl⟩ := lookIn_ns hns
  obtain ⟨u, hu, ru⟩ := RelO.some_of (v := v) (o := mA n) (by rw [← l]; exact hr n)
  have J : PySem.W.InstAt s1.heap a oe C (some od) := ⟨hget, hz.1, by unfold PySem.W.notCls; rw [hd] <;> rfl, by rw [hz.2]; exact ho⟩
  exact HandSPX.exc_get I1.kIn J T.ga T.gg T.exC (PySem.W.findObj_own T.hdC hno rfl (by rw [hl, hu])) (handed_of ru) ⟨v, H1, I1.tok _, ru, q⟩
end Sn
/-! An own error's __init__ that says super().__init__(text) and keeps one field -/
namespace Sn
open Evl (Ex)
open PySem PySem.Spec PyProof.Rows PySem.W L2
/-- def __init__(self, n): super().__init__(m); self.n = n -/
structure SupI (P : Program) (K : PySem.W.Frag) (mg : Str → Option Value) (qual : Str) (st : Stmt) (n : Str) (C f : Addr) (fd : FuncData) : Prop where
  ex : ∃ (oc : Value) (od : Option Addr) (dV kV doc pm : Value) (an : Option Addr) (cda : Addr) (ct : Value) (osl : Array (Option Value)) (cc : Addr) (cl : Value) (cld : Option Addr) (csl : Array (Option Value)) (ccl : Value) (cdd : Option Addr) (ccs : Array (Option Value)) (vs : Array Value) (file : Str) (tf : Tok),
    fd = ksFn "__init__" qual (defArgs st) (defBody st) (defScope st) dV kV doc pm an (.ref cda) ct cc ∧ K.lookup f = some ⟨oc, od, .func fd, osl⟩ ∧ codeIn K (.ref cda) qual = true ∧ K.lookup cda = some ⟨ccl, cdd, .fields vs, ccs⟩ ∧
    vs[2]? = some (.str file tf) ∧ ((P.main.file : Str) == file) = true ∧ K.lookup cc = some ⟨cl, cld, .cell (some (.ref C)), csl⟩
  along : ks_superIn K C C "__init__" = some (some (.builtin "ValueError.__init__"))
  op : nsIn K cStatics "thirdparty.any" = some none
  self : mroIn K C (.ref C) = some true
  subVE : subIn K (.ref C) (.type "ValueError") = some true
  top : (P.main.scope.names.lookup ("super" : Str)).isSome = false
  mgs : mg "super" = none
  T : OexC K C
  no : findIn K (.ref C) n = some none
structure SupS (n : Str) (st : Stmt) : Prop where
  kind : (defScope st).kind = .function
  co : (defScope st).isCoroutine = false
  gen : (defScope st).isGenerator = false
  nocell : ∀ x ∈ (defScope st).names, x.2 ≠ .cell
  sup : (defScope st).names.lookup ("super" : Str) = some .globalImplicit
  cls : (defScope st).names.lookup ("__class__" : Str) = some .free
  slf : (defScope st).names.lookup ("self" : Str) = some .local
  fld : (defScope st).names.lookup n = some .local
  free : ∀ y ∈ (defScope st).names, y.2 = .free → y.1 = ("__class__" : Str)
  hd : ∃ ar : Arg, ((defArgs st).posonlyargs ++ (defArgs st).args).head? = some ar ∧ ar.arg = ("self" : Str)
  body : ∃ (m : Str) (j : Nat) (p0 p1 p2 p3 p4 p5 p6 p7 p8 p9 : Pos), defBody st = [.Expr (.Call (.Attribute (.Call (.Name "super" p0) [] [] p1) "__init__" p2) [.Constant (.str m) j p3] [] p4) p5, .Assign [.Attribute (.Name "self" p6) n p7] (.Name n p8) p9] ∧
    (∃ pl : Env → Sem Bool, ∀ env, eval (.Call (.Attribute (.Call (.Name "super" p0) [] [] p1) "__init__" p2) [.Constant (.str m) j p3] [] p4) env = (do
      let ov ← attributeBase (.Call (.Name "super" p0) [] [] p1) "__init__" env (eval (.Call (.Name "super" p0) [] [] p1) env)
      standAt p2.atName
      let (f, first) ← holding [ov] (getMethod ov "__init__" (pl env))
      callWith p4 f first (backTo p4 (starEach [.Constant (.str m) j p3] env)) [])) ∧
    ∀ env, swapsWith (.Name n p8) (some (.Attribute (.Name "self" p6) n p7)) p9.line env = pure false
  nd : ([("self" : Str), n] : List Str).Nodup
  ndb : (n == ("__debug__" : Str)) = false
  ncd : (n == ("__classdict__" : Str)) = false
def spSup (C : Addr) (n : Str) : Sp := fun vs H Q _ => ∃ (a : Addr) (y : V), vs = [.ref a, y] ∧ H a = some (exo a C none) ∧
  ∀ dx, H dx = none → dx ≠ a → Q .non (upd (upd H dx (exd dx [(n, y)])) a (exo a C (some dx)))
def supCx (CX : CXT) (P : Program) (w : World) (K : PySem.W.Frag) (mg : Str → Option Value) (base : Heap) (n qual : Str) (scope : Scope) (f cda cc : Addr) (A : Around) (outer : List Env) (s : Shared) (H : Hp) (E : XK) : Cx where
  prog := P
  w := w
  K := K
  mg := mg
  base := base
  A := A.deeper (ksEnv qual scope s.heap.objs.size f (.ref cda) cc)
  N := ["self", n]
  s_0 := s
  H_0 := H
  env := ksEnv qual scope s.heap.objs.size f (.ref cda) cc
  outer := outer
  stack := ksEnv qual scope s.heap.objs.size f (.ref cda) cc :: outer
  ex := []
  fn := fun _ => false
  calm := true
  pn := []
  xe := fun e s' => wpAny (model P w) (A.deeper (ksEnv qual scope s.heap.objs.size f (.ref cda) cc)) (leaving (ksEnv qual scope s.heap.objs.size f (.ref cda) cc) e) (fun _ s'' => CX outer H s E e s'') (fun e' s'' => CX outer H s E e' s'') s'
section
variable {P : Program} {w : World} {K : PySem.W.Frag} {mg : Str → Option Value} {base : Heap} {CX : CXT}
theorem sup_start {n qual : Str} {st : Stmt} {f cda cc : Addr} {A : Around} {outer : List Env} {s : Shared} {H : Hp} {E : XK} {h₁ : Heap} {tk : Nat} {a : Addr} {y : V} {u : Value} {D : Addr} {cl : Value} {cld : Option Addr} {csl : Array (Option Value)} (S : SupS n st) (hd : A.handled = none) (e0 : Env0 P w K mg base A outer s H)
    (hcc : K.lookup cc = some ⟨cl, cld, .cell (some (.ref D)), csl⟩) (ry : RelV y u)
    (hns : h₁.Ns s.heap.objs.size fun x => (([("self" : Str), n] : List Str).zip [Value.ref a, u]).reverse.lookup x) (kp : ∀ b o, s.heap.get? b = some o → h₁.get? b = some o) :
    Inv (supCx CX P w K mg base n qual (defScope st) f cda cc A outer s H E) [] [some (.ref a), some y] H { s with heap := h₁, toks := tk } := by
  have noA : ∀ b : Addr, b ∉ (supCx CX P w K mg base n qual (defScope st) f cda cc A outer s H E).ex := fun b z => absurd (show b ∈ ([] : List Addr) from z) (by simp)
  have one : ∀ {x c}, ([(("__class__" : Str), cc)] : List (Str × Addr)).lookup x = some c → x = "__class__" ∧ c = cc := fun {x c} e => by
    have := PySem.mem_of_lookup e
    simpa using this
  have hcb := e0.mod.kin _ _ hcc
  have ncs : n ≠ ("self" : Str) := fun z => by
    have := S.nd
    rw [z] at this
    exact absurd this (by decide)
  refine ⟨⟨e0.mod, S.kind, rfl, rfl, Nat.le_refl _, fun x z c e1 e2 => ?_, fun x hx => ?_, fun x c z _ => ?_, fun _ => hd, Around.frames_deeper e0.frames, .inr ⟨rfl, rfl⟩, fun b z => absurd z (noA b), e0.bs, e0.bsz, fun b _ _ => noA b, fun b z => absurd z (noA b), e0.funs, e0.frf⟩,
    rfl, e0.bare, Un.kept kp, ⟨_, hns, fun i x v e1 e2 e3 => ?_⟩, fun x c e => ?_, e0.hok.fresh (Nat.le_refl _), fun x c e => ?_, fun q hq => absurd (show q ∈ ([] : List (Addr × Obj)) ++ [] from hq) (by simp), e0.hok.kept kp, rfl⟩
  · exact (one e1).1.trans (one e2).1.symm
  · have hx : (defScope st).names.lookup x = some .cell ∨ (defScope st).names.lookup x = some .free := hx
    rcases hx with hx | hx
    · exact absurd rfl (S.nocell _ (PySem.mem_of_lookup hx))
    · have e := S.free _ (PySem.mem_of_lookup hx) rfl
      have e : x = "__class__" := e
      rw [e]
      exact ⟨cc, rfl⟩
  · have z : false = true := z
    cases z
  · match i, e1, e2 with
    | 0, e1, e2 =>
      obtain rfl : ("self" : Str) = x := Option.some.inj e1
      obtain rfl : V.ref a = v := Option.some.inj (Option.some.inj e2)
      refine ⟨.ref a, rfl, .inl ⟨S.slf, ?_⟩⟩
      show List.lookup ("self" : Str) [(n, u), (("self" : Str), Value.ref a)] = _
      rw [List.lookup_cons, show (("self" : Str) == n) = false from by simp [Ne.symm ncs]]
      rfl
    | 1, e1, e2 =>
      obtain rfl : n = x := Option.some.inj e1
      obtain rfl : y = v := Option.some.inj (Option.some.inj e2)
      refine ⟨u, ry, .inl ⟨S.fld, ?_⟩⟩
      show List.lookup n [(n, u), (("self" : Str), Value.ref a)] = _
      rw [List.lookup_cons, beq_self_eq_true]
    | i + 2, e1, e2 => cases e1
  · have := one e
    rw [this.2]
    exact ⟨_, _, kp _ _ (e0.bs _ _ hcb).1, rfl⟩
  · have := one e
    rw [this.2]
    exact (e0.bs _ _ hcb).2
/-- super().__init__(text) -/
theorem sup_first {A : Around} {outer : List Env} {s₀ : Shared} {H₀ : Hp} {E₀ : XK} {pins : List (Addr × Obj)} {σ : L2.St} {H : Hp} {s : Shared} {n qual : Str} {st : Stmt} {C f cda cc a : Addr} {fd : FuncData} {m : Str} {j : Nat} {p0 p1 p2 p3 p4 p5 : Pos} {body : List Stmt} {E : Value → Shared → Prop}
    (F : SupI P K mg qual st n C f fd) (S : SupS n st) (hpl : ∃ pl : Env → Sem Bool, ∀ env, eval (.Call (.Attribute (.Call (.Name "super" p0) [] [] p1) "__init__" p2) [.Constant (.str m) j p3] [] p4) env = (do
      let ov ← attributeBase (.Call (.Name "super" p0) [] [] p1) "__init__" env (eval (.Call (.Name "super" p0) [] [] p1) env)
      standAt p2.atName
      let (f, first) ← holding [ov] (getMethod ov "__init__" (pl env))
      callWith p4 f first (backTo p4 (starEach [.Constant (.str m) j p3] env)) [])) (hσ : σ[0]? = some (some (.ref a)))
    {dV kV doc pm ct : Value} {an : Option Addr} {oc : Value} {od : Option Addr} {osl : Array (Option Value)} {cl : Value} {cld : Option Addr} {csl : Array (Option Value)} {ccl : Value} {cdd : Option Addr} {ccs : Array (Option Value)} {vs : Array Value} {file : Str} {tf : Tok}
    (efd : fd = ksFn "__init__" qual (defArgs st) (defBody st) (defScope st) dV kV doc pm an (.ref cda) ct cc) (lk : K.lookup f = some ⟨oc, od, .func fd, osl⟩) (hcode : K.lookup cda = some ⟨ccl, cdd, .fields vs, ccs⟩) (hvs : vs[2]? = some (.str file tf))
    (hfile : ((P.main.file : Str) == file) = true) (hcell : K.lookup cc = some ⟨cl, cld, .cell (some (.ref C)), csl⟩)
    (I : Inv (supCx CX P w K mg base n qual (defScope st) f cda cc A outer s₀ H₀ E₀) pins σ H s) (hH : H a = some (exo a C none)) :
    _root_.PySem.wpAt (model P w) (A.deeper (ksEnv qual (defScope st) s₀.heap.objs.size f (.ref cda) cc)) (.func body (ksEnv qual (defScope st) s₀.heap.objs.size f (.ref cda) cc)) (exec (.Expr (.Call (.Attribute (.Call (.Name "super" p0) [] [] p1) "__init__" p2) [.Constant (.str m) j p3] [] p4) p5) (ksEnv qual (defScope st) s₀.heap.objs.size f (.ref cda) cc)) (fun fl s' => fl = .next ∧ Inv (supCx CX P w K mg base n qual (defScope st) f cda cc A outer s₀ H₀ E₀) pins σ H s') E s := by
  obtain ⟨nm, qn, N, bs, bm, sn, sub, ab, col, dd, k0, k1, k2, k3, k5, hC, hbm⟩ := F.T.cls
  obtain ⟨t1, ho⟩ := exo_at I.hok hH
  have KX : K.In s.heap := I.kIn
  obtain ⟨ar, har, ear⟩ := S.hd
  obtain ⟨cdC, hcd⟩ : ∃ cd, clsIn K C = some cd := by
    have := F.along
    unfold ks_superIn at this
    cases e : clsIn K C with
    | none => rw [e] at this; cases this
    | some cd => exact ⟨cd, rfl⟩
  obtain ⟨oD, hD1, hD2⟩ : ∃ oD, s.heap.get? C = some oD ∧ oD.data = .cls cdC := by
    have hD := hcd
    unfold clsIn at hD
    split at hD
    · rename_i c d cd' sl ho
      cases hD
      exact ⟨_, KX _ _ ho, rfl⟩
    · cases hD
  have Ia : InstAt s.heap a ({ cls := .ref C, dict := none, data := .fields #[.ref t1, .none, .none, .none, .bool false, .none] } : Obj) C none := ⟨ho, rfl, rfl, trivial⟩
  have nC := ks_ne KX Ia hcd
  obtain ⟨mb, hb1, hb2⟩ := I.mod.blt
  obtain ⟨pl, hpl⟩ := hpl
  refine ks_wpAt_Expr_any (ks_wpAt_MethodCall ?_ (hpl _)) (hi := by unfold interactive; rw [show (ksEnv qual (defScope st) s₀.heap.objs.size f (.ref cda) cc).scope.kind = .function from S.kind]; rfl)
  refine ks_wpAt_super_base (f := f) (cc := cda) (fd := fd) (ar := ar) S.sup S.cls (by decide +kernel) rfl (KX _ _ lk) rfl (by rw [efd]; exact har) rfl (KX _ _ hcode) rfl hvs hfile F.top ?_
  refine ks_loadName_global S.kind S.sup (Calls.loadGlobal_builtin (I.mod.glob.keeps I.bk) F.mgs (hb1.keeps I.bk) ((hb2 "super" (by decide)).trans (show bootBuiltins "super" = some (.type "super") from by kernel_rfl)) ⟨rfl, ?_⟩)
  refine wpAny_loadName_free S.kind S.cls rfl ⟨_, KX _ _ hcell, rfl⟩ ?_
  obtain ⟨mL, hnL, hlk⟩ := id I.loc
  obtain ⟨u0, ru, q0⟩ := hlk 0 "self" (.ref a) rfl hσ (.inl S.slf)
  obtain rfl : u0 = Value.ref a := ru
  have hml : mL ar.arg = some (.ref a) := by
    rw [ear]
    rcases q0 with ⟨_, e⟩ | ⟨_, c, e, _⟩
    · exact e
    · have e : List.lookup ("self" : Str) [(("__class__" : Str), cc)] = some c := e
      have z := PySem.mem_of_lookup e
      rw [List.mem_singleton] at z
      exact absurd (show ("self" : Str) = "__class__" from congrArg Prod.fst z) (by decide)
  refine wpAny_loadName_local S.kind (by rw [ear]; exact S.slf) hnL hml ?_
  refine ks_wpAny_isType_cls hD1 hD2 ⟨rfl, ?_⟩
  obtain ⟨hp, g, d, t, os⟩ := s
  refine ks_wpAny_call_super hD1 hD2 Ia.at_ Ia.cls (fun c e => by cases e) (looks_mroIn KX F.self) (fun h1 e1 kp1 => ?_)
  have I1 : Inv (supCx CX P w K mg base n qual (defScope st) f cda cc A outer s₀ H₀ E₀) pins σ H ⟨h1, g, d, t, os⟩ := I.kept (t' := t) kp1
  have KX1 : K.In h1 := I1.kIn
  obtain ⟨t2, ho1⟩ := exo_at I1.hok hH
  have Ia1 : InstAt h1 a ({ cls := .ref C, dict := none, data := .fields #[.ref t2, .none, .none, .none, .bool false, .none] } : Obj) C none := ⟨ho1, rfl, rfl, trivial⟩
  have hal : alongIn K "__init__" ((cdC.mro.dropWhile (· != .ref C)).drop 1) = some (some (.builtin "ValueError.__init__")) := by
    have := F.along
    unfold ks_superIn at this
    rw [hcd] at this
    exact this
  refine kxs_getMethod kxs_ValueError e1 (looks_opaque KX1 F.op) (l₀ := cdC.mro) (fun A Q E s k q => wpAny_bind ((looks_clsIn KX1 hcd) A _ E s k (wpAny_pure q))) rfl KX1 hal (Ia1.type.andThen (looks_subIn KX1 F.subVE)) nC (by decide +kernel) ?_
  have kp2 : ∀ b o, h1.get? b = some o → (h1.push (kxs_mw "ValueError.__init__" a)).get? b = some o := fun b o e => Heap.get?_push_of_some _ e
  have I2 : Inv (supCx CX P w K mg base n qual (defScope st) f cda cc A outer s₀ H₀ E₀) pins σ H ⟨h1.push (kxs_mw "ValueError.__init__" a), g, d, t + 1, os⟩ := I1.kept (t' := t + 1) kp2
  have hu : (h1.push (kxs_mw "ValueError.__init__" a)).get? h1.objs.size = some (kxs_mw "ValueError.__init__" a) := Heap.get?_push_at rfl rfl
  show wpAny _ _ (callWith p4 (.ref h1.objs.size) [] (backTo p4 (starEach [.Constant (.str m) j p3] _)) []) _ _ _
  refine kxs_callWith (i := "ValueError.__init__") (x := a) rfl (Calls.evalArgs_plain ?_)
  have ha : PA (supCx CX P w K mg base n qual (defScope st) f cda cc A outer s₀ H₀ E₀).nox [.Constant (.str m) j p3] (tCons (tC (.str m)) tNil) := pa_cons pe_str pa_nil
  refine wpAny_mono (ha.run p4 ((h1.objs.size, kxs_mw "ValueError.__init__" a) :: pins) _ σ H (fun vs H1 => vs = [V.str m] ∧ H = H1) (Inv.wish ⟨I2.ok, I2.os, I2.bare, I2.base, I2.loc, I2.cell, I2.free, I2.freeC, fun q hq => ?_, I2.hok, I2.len⟩ _) ⟨rfl, rfl⟩) (fun us s3 hh => ?_) fun _ _ z => z.elim
  · rcases List.mem_cons.mp hq with e | hq
    · subst e
      refine ⟨hu, I1.hok.fresh (Nat.le_refl _), fun z => ?_, fun z => ?_, fun v z => by cases z⟩
      · have := I1.lt
        rw [← z] at this
        exact absurd this (Nat.lt_irrefl _)
      · exact I1.nofs (Nat.le_refl _) z
    · exact I2.pin q hq
  obtain ⟨vs3, H3, J3, r3, ev, eH⟩ := hh
  subst ev
  rw [← eH] at J3
  obtain ⟨hu3, _⟩ := J3.pin (h1.objs.size, kxs_mw "ValueError.__init__" a) (List.mem_append_right _ List.mem_cons_self)
  have I3 : Inv (supCx CX P w K mg base n qual (defScope st) f cda cc A outer s₀ H₀ E₀) pins σ H s3 := by
    have z := J3.unwish
    exact ⟨z.ok, z.os, z.bare, z.base, z.loc, z.cell, z.free, z.freeC, fun q hq => z.pin q (List.mem_cons_of_mem _ hq), z.hok, z.len⟩
  refine ⟨hu3, ?_⟩
  cases r3 with
  | cons ru rn =>
    rename_i um us'
    cases rn
    show wpAny _ _ (call (.ref h1.objs.size) [um] []) _ _ _
    obtain ⟨t3, ho3⟩ := exo_at I3.hok hH
    have KX3 : K.In s3.heap := I3.kIn
    have hC3 := KX3 _ _ hC
    obtain ⟨hp3, g3, d3, tk3, os3⟩ := s3
    refine wpAny_call (codeAny_of_tree ?_)
    show wpAny _ _ (callAny (.ref h1.objs.size) ⟨[um], []⟩) _ _ _
    simp only [callAny]
    refine wpAny_bind (wpAny_load hu3 ?_)
    simp only [kxs_mw, show (Value.type "method-wrapper" == Value.type "method" || Value.type "method-wrapper" == Value.type "builtin_function_or_method" || Value.type "method-wrapper" == Value.type "method-wrapper") = true by decide, if_true]
    refine KFB.if_so (by decide) ?_
    refine wpAny_bind (check_bound_init _root_.PySem.F.excBase_ValueError.toExcCallFacts hC3 ho3 rfl ?_)
    refine wpAny_bind (wpAny_pure (wpAny_pure ?_))
    refine ⟨plainId_quiet _root_.PySem.F.excBase_ValueError.init.plain _, codeAny_builtin _root_.PySem.F.excBase_ValueError.initEntry ?_⟩
    refine exc_init_tree (cls := .ref C) (t0 := t3) (dv := none) (c2 := .none) (c3 := .none) (b4 := .bool false) ho3 (by show 1 ≤ sizeLine; rw [sizeLine_eq]; omega) fun h' k e' t' => ?_
    have J := I3.write (t' := tk3) (x := a) (e := a) (o := exo a C none) (by rw [hH]; exact True.intro) (.inl rfl) k ⟨_, e'⟩ (exo_ok e')
    have eu : upd H a (exo a C none) = H := by
      funext b
      by_cases hb : b = a
      · rw [hb, upd_same, hH]
      · rw [upd_ne hb]
    rw [eu] at J
    exact ⟨trivial, J⟩
theorem SupI.ok {n qual : Str} {st : Stmt} {C f : Addr} {fd : FuncData} {k : Nat} (F : SupI P K mg qual st n C f fd) (S : SupS n st) : FnOk P w K mg base CX k f fd ["self", n] (spSup C n) := by
  refine ⟨fun vs H Q E h => ?_, fun A outer s H args us vs Q E hr e0 hb r h => ?_⟩
  · obtain ⟨_, _, rfl, _⟩ := h
    rfl
  obtain ⟨a, y, rfl, hH, hQ⟩ := h
  cases r with
  | cons ra rr =>
    cases rr with
    | cons ry rr =>
      cases rr
      rename_i ua u
      obtain rfl : ua = Value.ref a := ra
      obtain ⟨oc, od, dV, kV, doc, pm, an, cda, ct, osl, cc, cl, cld, csl, ccl, cdd, ccs, vs, file, tf, efd, lk, hcd, hcode, hvs, hfile, hcell⟩ := F.ex
      have KX : K.In s.heap := e0.mod.kin.keeps fun b o e => (e0.bs b o e).1
      have lim : s.heap.NoLimit := e0.mod.nolimit.keeps fun b o e => (e0.bs b o e).1
      have lk' := lk
      rw [efd] at lk' hb
      refine ks_codeAny_call_defAt (body := defBody st) (binds := ([("self" : Str), n] : List Str).zip [Value.ref a, u]) hr.depth (KX _ _ lk') rfl lim (PySem.W.codeRec_of KX hcd) rfl hb S.nocell (fun x hx => ?_) (fun h₁ hns kp => ?_) S.co S.gen S.kind
      · rcases List.mem_cons.mp hx with e | hx
        · subst e; exact S.slf
        · rcases List.mem_cons.mp hx with e | hx
          · subst e; exact S.fld
          · cases hx
      have J : Inv (supCx CX P w K mg base n qual (defScope st) f cda cc A outer s H E) [] [some (.ref a), some y] H { s with heap := h₁, toks := s.toks + (([("self" : Str), n] : List Str).zip [Value.ref a, u]).length } := sup_start S hr.hd e0 hcell ry hns kp
      obtain ⟨m, j, p0, p1, p2, p3, p4, p5, p6, p7, p8, p9, hbody, hpl, hsw⟩ := S.body
      rw [hbody]
      refine ks_wpAt_execs_cons (_root_.PySem.wpAt_mono (sup_first (m := m) (p5 := p5) F S hpl rfl efd lk hcode hvs hfile hcell J hH) (fun fl s' hq => ?_) fun _ _ z => z)
      obtain ⟨rfl, J1⟩ := hq
      refine _root_.PySem.wpAt_of_wpAny ?_
      have hp : PSs (supCx CX P w K mg base n qual (defScope st) f cda cc A outer s H E) [.Assign [.Attribute (.Name "self" p6) n p7] (.Name n p8) p9] _ :=
        pss_one (ps_ost (pe_var (i := 0) rfl (.inl S.slf)) (pe_var (i := 1) rfl (.inl S.fld) S.ndb S.ncd) (hsw _))
      refine wpAny_mono (hp.run [] s' _ H { nx := fun _ H' => Q .non H', rt := Q } J1 ⟨y, rfl, .ref a, rfl, a, C, rfl, F.T, F.no, .inl ⟨hH, fun dx n1 n2 => hQ dx n1 n2⟩⟩) (fun fl s'' hs => ?_) fun e s'' hs => hs
      have fin : ∀ {σ' : L2.St} {H' : Hp} {v : V} {u : Value}, Inv (supCx CX P w K mg base n qual (defScope st) f cda cc A outer s H E) [] σ' H' s'' → L2.RelV v u → Q v H' → CE outer P w H s Q u s'' :=
        fun {σ' H' v u} J rv q => ⟨v, H', J.os, J.bare, J.base, J.hok, rv, q⟩
      cases fl with
      | ret u =>
        obtain ⟨v, σ', H', J, rv, q⟩ := hs
        exact fin J rv q
      | next =>
        obtain ⟨σ', H', J, q⟩ := hs
        exact fin (v := V.non) (u := Value.none) J rfl q
      | brk =>
        obtain ⟨_, _, _, q⟩ := hs
        exact False.elim q
      | cont =>
        obtain ⟨_, _, _, q⟩ := hs
        exact False.elim q
end
end Sn
/-! the laws' ear: which error a call raises -/
namespace Sn
open Evl (Ex)
open PySem PySem.Spec PyProof.Rows L2 LamX
section
variable {X : Cx}
theorem count_eqU {y : V} : ∀ {ys : List V} {us : List Value}, Vals ys us → ys.all flatV = true → us.countP (eqU y) = ys.countP (fun z => eqV z y)
  | _, _, .nil, _ => rfl
  | _, _, .cons ru rt, f => by
    rw [List.all_cons, Bool.and_eq_true] at f
    rw [List.countP_cons, List.countP_cons, count_eqU rt f.2, eqU_of ru f.1]
/-- xs.count(y), flat items -/
def rCountV (K : PySem.W.Frag) : V → List V → Hp → VK → Prop := fun x xs H Q => ∃ (a : Addr) (ys : List V) (y : V), x = V.ref a ∧ xs = [y] ∧ SqL K H a ys ∧ flatV y = true ∧ ys.all flatV = true ∧ Q (.int (ys.countP (fun z => eqV z y) : Nat)) H
theorem mt_countV : MtR X "list.count" (rCountV X.K) := by
  intro pins s σ H x xs v us Q I rx rxs h
  obtain ⟨a, ys, y, rfl, rfl, hs, fy, fys, q⟩ := h
  cases rx
  cases rxs with
  | cons ry rt =>
    rename_i uy ut
    cases rt
    obtain ⟨its, rv, ⟨⟨cls, dd, data, sl⟩, n, ho, hc, hdn, hd⟩, hlen⟩ := I.list hs
    simp only at hc hd
    subst hc hd
    refine call_meets PySem.F.slot_list_count ⟨_, ho, rfl⟩ PySem.F.entry_list_count (PySem.F.args_list_count_2 _ _)
      (SeqAt.list_countAt a its.toArray n dd sl uy (eqU y)) ⟨ho, fun u' hu' => mem_eqAt ry fy rv fys u' (by simpa using hu'), ?_⟩
    refine ⟨.int (ys.countP (fun z => eqV z y) : Nat), H, I.tok _, ⟨s.toks, ?_⟩, q⟩
    rw [← count_eqU rv fys]
end
/-- the error classes, by number, as the ear asks for them -/
def errN : Nat → Str
  | 0 => "NoEdition" | 1 => "NoState" | 2 => "NoLift" | 3 => "NoBook" | 4 => "NoNumber" | 5 => "TwoPasts" | 6 => "NoPlan" | 7 => "NoHands" | 8 => "NoKey" | 9 => "NothingLeft" | 10 => "NoText" | 11 => "NoKind" | 12 => "NoHistory" | _ => "NotRight"
/-- their words -/
def errW : Nat → Str
  | 0 => "edition" | 1 => "state" | 2 => "lift" | 3 => "book" | 4 => "number" | 5 => "pasts" | 6 => "plan" | 7 => "hands" | 8 => "key" | 9 => "nothing" | 10 => "text" | 11 => "kind" | 12 => "history" | _ => "right"
/-- the error classes: e gives their addresses, those of Is can be raised -/
structure ErrF (K : PySem.W.Frag) (mg : Str → Option Value) (e : Nat → Addr) (CS : Addr) (Is : List Nat) : Prop where
  nm : ∀ i, i < 14 → mg (errN i) = some (.ref (e i))
  snap : mg "SnapError" = some (.ref CS)
  lt : ∀ i ∈ Is, i < 14
  is : ∀ i ∈ Is, ∀ j, j < 14 → PySem.W.kitOne K (.ref (e i)) (.ref (e j)) = some (decide (i = j))
  ve : ∀ i ∈ Is, PySem.W.kitOne K (.ref (e i)) (.type "ValueError") = some true
  sn : ∀ i ∈ Is, PySem.W.exmOne K (.ref (e i)) (.ref CS) = some true
  ec : ∀ i ∈ Is, ExcC K (e i)
  xf : ∀ i ∈ Is, 11 ≤ i → XfC K (e i)
  at11 : 11 ∈ Is → PySem.W.findIn K (.ref (e 11)) "at" = some none
  at12 : 12 ∈ Is → PySem.W.findIn K (.ref (e 12)) "at" = some none
  at13 : 13 ∈ Is → PySem.W.findIn K (.ref (e 13)) "history" = some none
/-- what the ear's caller is told of an error -/
def EHd (e : Nat → Addr) (Is : List Nat) (Q : VK) : XK := fun cls d H' => ∃ i ∈ Is, cls = .ref (e i) ∧
  ((i < 11 ∧ d = none ∧ ∀ p H'', Ex H' H'' → H' p = none → H'' p = some (.tup [.str (errW i), .non]) → Q (.ref p) H'') ∨
   ((i = 11 ∨ i = 12) ∧ ∃ dd fs v, d = some dd ∧ H' dd = some (.xd fs) ∧ fs.lookup ("at" : Str) = some v ∧ ∀ p H'', Ex H' H'' → H' p = none → H'' p = some (.tup [.str (errW i), v]) → Q (.ref p) H'') ∨
   (i = 13 ∧ ∃ dd fs v, d = some dd ∧ H' dd = some (.xd fs) ∧ fs.lookup ("history" : Str) = some v ∧ ∀ p H'', Ex H' H'' → H' p = none → H'' p = some (.tup [.str (errW i), v]) → Q (.ref p) H''))
/-- what the ear makes of the reading of what it calls -/
def THd (e : Nat → Addr) (Is : List Nat) : (XK → Hp → VK → Prop) → Hp → VK → Prop := fun tl H Q =>
  ∀ (H0 : Hp) (Ech : XK) (Kc : VK), Ex H H0 → (∀ cls d H', EHd e Is Q cls d H' → Ech cls d H') → (∀ v H', (∀ p, H' p = none → Q (.ref p) (upd H' p (.tup [.str "told", v]))) → Kc v H') → tl Ech H0 Kc
end Sn
/-! raising, and calls of defs that raise, in short -/
namespace Sn
open Evl (Ex)
open PySem PySem.Spec PyProof.Rows L2
/-- an error class with an own __init__ that keeps one field n -/
structure RaiseK (P : Program) (w : World) (K : PySem.W.Frag) (mg : Str → Option Value) (base : Heap) (C : Addr) (x n : Str) : Prop where
  ex : ∃ (fI : Addr) (fd : FuncData), OexC K C ∧ PySem.W.findIn K (.ref C) "__init__" = some (some (.ref fI)) ∧ PySem.W.typeIn K (.ref fI) = some (.type "function") ∧ FnOk P w K mg base CX0 0 fI fd ["self", n] (spSup C n) ∧ Binds K fd ["self", n] [] ∧ mg x = some (.ref C)
/-- an error class without own __init__ -/
structure Raise0 (K : PySem.W.Frag) (mg : Str → Option Value) (C : Addr) (x : Str) : Prop where
  q : ∃ (bmB : List Value) (B newId initId : String), ExcBaseFacts B newId initId bmB ∧ PySem.W.excIn K C bmB newId = true
  m : mg x = some (.ref C)
  kp : PySem.W.keepIn K (.ref C) = true
  sub : PySem.W.subIn K (.ref C) (.type "BaseException") = some true
  ty : PySem.W.typeIn K (.ref C) = some (.type "type")
section
variable {X : Cx} {pos : Pos}
theorem pr_k {C : Addr} {x n : Str} {p : Pos} {e : Expr} {te : TE} (R : RaiseK X.prog X.w X.K X.mg X.base C x n) (hr : Room 1 X.A) (ha : PE X e te) (hg : Gl X x := by rfl)
    (hdb : (x == ("__debug__" : Str)) = false := by decide) (he : starEach [e] X.env = (false, eval e X.env) :: starEach [] X.env := by rfl) :
    PMk X (.Call (.Name x p) [e] [] pos) (tMkO C (spSup C n) [] (tCons te tNil)) := by
  obtain ⟨fI, fd, T, iC, tI, F1, hb, hm⟩ := R.ex
  exact pmk_oex T iC tI F1 hr hb .nil pass0 hg hm (pa_cons ha pa_nil he) hdb he rfl
theorem mkK {C : Addr} {n : Str} {y : V} {H1 : Hp} {Q : XK} (h : ∀ dd H', Ex H1 H' → H' dd = some (.xd [(n, y)]) → Q (.ref C) (some dd) H') :
    [y].length ≤ 1000 ∧ ∀ a, H1 a = none → spSup C n (.ref a :: ([y] ++ [])) (upd H1 a (exo a C none)) (fun v H2 => v = .non ∧ ∃ (d : Addr) (fs : List (Str × V)), H2 a = some (exo a C (some d)) ∧ H2 d = some (exd d fs) ∧ H1 d = none ∧ Q (.ref C) (some d) (upd (del H2 a) d (.xd fs))) (fun _ _ _ => False) := by
  refine ⟨by simp, fun a na => ⟨a, y, rfl, upd_same, fun dx n1 n2 => ⟨rfl, dx, [(n, y)], upd_same, ?_, ?_, h _ _ ?_ upd_same⟩⟩⟩
  · rw [upd_ne n2, upd_same]
  · rw [upd_ne n2] at n1
    exact n1
  · intro b o hb
    have nb1 : b ≠ a := ne_of_none hb na
    have nb2 : b ≠ dx := by
      rw [upd_ne n2] at n1
      exact ne_of_none hb n1
    rw [upd_ne nb2, del_ne nb1, upd_ne nb1, upd_ne nb2, upd_ne nb1]
    exact hb
theorem pr_0 {C : Addr} {x : Str} {p : Pos} (R : Raise0 X.K X.mg C x) (hg : Gl X x := by rfl) (hdb : (x == ("__debug__" : Str)) = false := by decide) : PMk X (.Call (.Name x p) [] [] pos) (fun σ H Q => Q (.ref C) none H) := by
  obtain ⟨bmB, B, newId, initId, F, q⟩ := R.q
  exact pmk_own0 F q R.m R.kp (raises_own R.sub R.ty) hg hdb
/-- a def that may raise is called -/
theorem pcallX {k : Nat} {x : Str} {ps : List Str} {sp : Sp} {e : Expr} {es : List Expr} {p : Pos} {t : TA} {E : XK} (c : Cal X.prog X.w X.K X.mg X.base (L2.CX X.prog X.w) k x ps sp) (tk : Takes X (fun cls d _ H' => E cls d H')) (hr : Room k X.A) (ha : PA X (e :: es) t) (hg : Gl X x := by rfl)
    (hdb : (x == ("__debug__" : Str)) = false := by decide) (he : starEach (e :: es) X.env = (false, eval e X.env) :: starEach es X.env := by rfl) (hpl : (backTo pos (starEach es X.env)).any (·.1) = false := by rfl) :
    PE X (.Call (.Name x p) (e :: es) [] pos) (tCall sp [] E t) := by
  obtain ⟨f, fd, F, b, m, kp⟩ := c.ex
  exact pe_call F hr hg m kp b .nil (passes_call tk fun _ _ _ _ h => h) ha hdb he hpl
end
section
variable {P : Program} {w : World} {K : PySem.W.Frag} {mg : Str → Option Value} {base : Heap} {N : List Str} {qual : Str} {scope : Scope} {f : Addr} {cd : Value} {A : Around} {outer : List Env} {s : Shared} {H : Hp} {E : XK}
/-- what leaves a def's body -/
theorem tkX : Takes (cxOf (L2.CX P w) P w K mg base N qual scope f cd A outer s H E) (fun cls d _ H' => E cls d H') := takes_of rfl rfl rfl rfl
theorem paX : PassesOwn (model P w) (cxOf (L2.CX P w) P w K mg base N qual scope f cd A outer s H E).A (cxOf (L2.CX P w) P w K mg base N qual scope f cd A outer s H E).env (cxOf (L2.CX P w) P w K mg base N qual scope f cd A outer s H E).xe := passes_of (X := cxOf (L2.CX P w) P w K mg base N qual scope f cd A outer s H E) rfl
end
end Sn
/-! lambdas, and the tables of their code objects -/
namespace Sn
open Evl (Ex)
open PySem PySem.Spec PyProof.Rows L2 LamX
/-- a def whose code object is at c -/
structure FunT (K : PySem.W.Frag) (x qual : Str) (st : Stmt) (f : Addr) (fd : FuncData) (c : Addr) : Prop where
  ex : ∃ (oc : Value) (od : Option Addr) (kV doc pm : Value) (an : Option Addr) (ct : Value) (osl : Array (Option Value)),
    fd = PySem.W.fnOf x qual (defArgs st) (defBody st) (defScope st) .none kV doc pm an (.ref c) ct ∧ K.lookup f = some ⟨oc, od, .func fd, osl⟩ ∧ PySem.W.codeIn K (.ref c) qual = true
  kp : PySem.W.keepIn K (.ref f) = true
section
variable {P : Program} {w : World} {K : PySem.W.Frag} {mg : Str → Option Value} {base : Heap}
theorem FunT.ok {x qual : Str} {st : Stmt} {f c : Addr} {fd : FuncData} {N ps : List Str} {k : Nat} {sp : Sp} (F : FunT K x qual st f fd c) (S : FnScope N ps (defScope st)) (len : ∀ vs H Q E, sp vs H Q E → vs.length = ps.length)
    (hbody : ∀ (A : Around) (outer : List Env) (s : Shared) (H : Hp) (vs : List V) (Q : VK) (E : XK), Room k (A.deeper (envOfC qual (defScope st) s.heap.objs.size f (.ref c))) → sp vs H Q E →
      ∃ t, PSs (cxOf CX0 P w K mg base N qual (defScope st) f (.ref c) A outer s H E).nox (defBody st) t ∧ t { nx := fun _ H' => Q .non H', rt := Q } (L2.start N vs) H) : FnOk P w K mg base CX0 (k + 1) f fd ps sp := by
  obtain ⟨oc, od, kV, doc, pm, an, ct, osl, rfl, lk, hcd⟩ := F.ex
  refine fn_of lk hcd S len fun A outer s H vs Q E hr hsp => ?_
  obtain ⟨t, h, q⟩ := hbody A outer s H vs Q E hr hsp
  exact ⟨t, h.nox, q⟩
end
theorem tkL {X : Cx} {A : Around} {outer : List Env} {s : Shared} {H : Hp} {E : XK} {scope : Scope} {f c' : Addr} : Takes (lamCx X A outer s H E scope f c') (fun cls d _ H' => E cls d H') := takes_of rfl rfl rfl rfl
/-! ### tables -/
/-- no tables are told -/
def NoT (F : Hp) : Prop := ∀ b ps, F b ≠ some (.tbl ps)
def cutT (H : Hp) (sa la : Addr) : Hp := fun x => match H x with
  | some (.tbl _) => none
  | o => if x = sa ∨ x = la then none else o
section
variable {H H' F : Hp} {sa la ca x : Addr} {T : Nat} {Ts : List (Addr × Str)}
theorem cutT_some {o : HO} (h : cutT H sa la x = some o) : H x = some o ∧ (∀ ps, o ≠ .tbl ps) ∧ x ≠ sa ∧ x ≠ la := by
  unfold cutT at h
  split at h
  · cases h
  · rename_i h2
    split at h
    · cases h
    · rename_i h3
      exact ⟨h, fun ps z => h2 ps (by rw [h, z]), fun z => h3 (.inl z), fun z => h3 (.inr z)⟩
theorem cutT_ex : Ex (cutT H sa la) H := fun a o h => (cutT_some h).1
theorem cutT_s : cutT H sa la sa = none := by
  cases h : cutT H sa la sa with
  | none => rfl
  | some o => exact absurd rfl (cutT_some h).2.2.1
theorem cutT_l : cutT H sa la la = none := by
  cases h : cutT H sa la la with
  | none => rfl
  | some o => exact absurd rfl (cutT_some h).2.2.2
theorem cutT_no : NoT (cutT H sa la) := fun b ps h => (cutT_some h).2.1 ps rfl
theorem cutT_at {o : HO} (h : H x = some o) (n1 : x ≠ sa) (n2 : x ≠ la) (n3 : ∀ ps, o ≠ .tbl ps) : cutT H sa la x = some o := by
  unfold cutT
  split
  · rename_i h2
    rw [h] at h2
    exact absurd (Option.some.inj h2) (n3 _)
  · rw [if_neg (fun z => z.elim n1 n2)]
    exact h
theorem cutT_up {G : Hp} (e : Ex G H) (n1 : G sa = none) (n2 : G la = none) (n3 : NoT G) : Ex G (cutT H sa la) := fun a o h => cutT_at (e a o h) (ne_of_none h n1) (ne_of_none h n2) fun ps z => n3 a ps (by rw [h, z])
theorem cutT_to {o : HO} (e : Ex (cutT H sa la) H') (h : H x = some o) (n1 : x ≠ sa) (n2 : x ≠ la) (n3 : ∀ ps, o ≠ .tbl ps) : H' x = some o := e _ _ (cutT_at h n1 n2 n3)
/-- a lambda is made -/
theorem exN (e : Ex F H) (n : NoT F) (h : ExtN H H') : Ex F H' := fun b o hb => h b o (e b o hb) fun ps z => n b ps (by rw [hb, z])
theorem Dr.exN (D : Dr H sa la ca T) (h : ExtN H H') : Dr H' sa la ca T := by
  obtain ⟨⟨ls, cs, r, t, a, b, c, g⟩, x, y, z⟩ := D
  exact ⟨⟨ls, cs, r, t, h _ _ a (fun _ z => nomatch z), h _ _ b (fun _ z => nomatch z), h _ _ c (fun _ z => nomatch z), g⟩, x, y, z⟩
/-- draws leave the tables -/
theorem tabs_cut (t : Tabs Ts H) (D : Dr H sa la ca T) (e : Ex (cut H sa la) H') : Tabs Ts H' := fun p hp => by
  obtain ⟨⟨ls, cs, r, tt, ha, hb, _⟩, _⟩ := D
  obtain ⟨ps, h1, h2, h3⟩ := t p hp
  have ne : ∀ {x o}, H x = some o → (∀ k, o ≠ .dK k) → (∀ k, o ≠ .lst k) → H' x = some o := fun {x o} h k1 k2 => cut_to e h (fun z => by rw [z, ha] at h; exact k1 _ (Option.some.inj h).symm) (fun z => by rw [z, hb] at h; exact k2 _ (Option.some.inj h).symm)
  refine ⟨ps, ne h1 (fun _ z => by cases z) (fun _ z => by cases z), h2, fun pos cv hc => ?_⟩
  obtain ⟨c, e1, e2⟩ := h3 pos cv hc
  exact ⟨c, e1, ne e2 (fun _ z => by unfold CodeO at z; cases z) (fun _ z => by unfold CodeO at z; cases z)⟩
end
end Sn
/-! t != u of tuples that are equal item by item, by own == too -/
namespace Sn
open Evl (Ex)
open PySem PySem.Spec PyProof.Rows L2
section
variable {prog : Program} {w : World} {A : Around} {E : Value → Shared → Prop} {R : Result → Shared → Prop}
theorem tup_ne {l b : Addr} {xs ys : Array Value} {n n2 : Nat} {dd dd2 : Option Addr} {sl sl2 : Array (Option Value)} (hsz : xs.size = ys.size) (J : Shared → Prop)
    (turn : ∀ i (h1 : i < xs.size) (h2 : i < ys.size) s, J s → wpAny (model prog w) A.in1 (eqBool xs[i] ys[i]) (fun r s' => r = true ∧ J s') (fun e s' => R (.error e) s') s) (fin : ∀ s, J s → R (.ok (.ret (.bool false))) s)
    {s : Shared} (hl : s.heap.get? l = some { cls := .type "tuple", dict := dd, data := .seq xs n, slots := sl }) (hb : s.heap.get? b = some { cls := .type "tuple", dict := dd2, data := .seq ys n2, slots := sl2 }) (h : J s) :
    wpAny (model prog w) A.in1 (Builtin.«tuple.__ne__» ⟨[.ref l, .ref b], []⟩) (GQ.FinOf prog w A R) (fun e s' => R (.error e) s') s := by
  have f2 := AutoSeq1.sub_tuple_tuple
  have zl : (xs.toList.zip ys.toList).length = xs.size := by simp [hsz]
  have hJ := h
  obtain ⟨hp, g, d, tk, os⟩ := s
  wp_walk using wpAny_loadPart' hl, wpAny_loadPart' hb, wpAny_forIn_list _ (fun rest b s' => b.1 = none ∧ ∃ i, rest = (xs.toList.zip ys.toList).drop i ∧ J s') _
  case turn =>
    rintro ⟨y, x⟩ rest b s' ⟨hb', i, hz, hI⟩
    have lt : i < (xs.toList.zip ys.toList).length := by
      rcases Nat.lt_or_ge i (xs.toList.zip ys.toList).length with q | q
      · exact q
      · rw [List.drop_of_length_le q] at hz; cases hz
    have h1 : i < xs.size := zl ▸ lt
    have h2 : i < ys.size := hsz ▸ h1
    rw [List.drop_eq_getElem_cons lt] at hz
    injection hz with hyx hrest
    obtain rfl : y = xs[i] := by have := congrArg Prod.fst hyx; simpa using this
    obtain rfl : x = ys[i] := by have := congrArg Prod.snd hyx; simpa using this
    refine wpAny_bind (wpAny_mono (turn i h1 h2 s' hI) (fun r s2 q2 => ?_) fun _ _ x => x)
    obtain ⟨rfl, q2⟩ := q2
    wp_walk
    exact ⟨rfl, i + 1, hrest, q2⟩
  case fin =>
    rintro ⟨b1, b2⟩ s' ⟨hb', i, hz, hI⟩
    simp only at hb'
    subst hb'
    have hR := fin s' hI
    wp_walk
    simpa [Builtin.Tuple.tupleCompareSizes, hsz] using hR
  case h =>
    exact ⟨rfl, 0, rfl, hJ⟩
end
section
variable {X : Cx} {n : Nat} {D : Eqv}
def rNeT (K : PySem.W.Frag) (D : Eqv) : R2 := fun x y H Q => DTup K D x y H ∧ ∀ H', L2.Ext H H' → Q (.bl false) H'
theorem op_neTup (hD : Mon D) (h : EqG X n D) (hr : Room (n + 1) X.A) : OpR X (compareOp .NotEq) (rNeT X.K D) := by
  intro pins s σ H x y u v Q I rx ry hq
  obtain ⟨⟨a, b, xs, ys, rfl, rfl, ha, hb, p⟩, q⟩ := hq
  cases rx
  cases ry
  obtain ⟨its, r, e, z⟩ := I.tuple ha
  obtain ⟨its2, r2, e2, z2⟩ := I.tuple hb
  have hsz : its.toArray.size = its2.toArray.size := by rw [List.size_toArray, List.size_toArray, ← r.length, ← r2.length]; exact p.1
  obtain ⟨⟨cls, dd, data, sl⟩, ho, hc, m, hd⟩ := id e
  obtain ⟨⟨cls2, dd2, data2, sl2⟩, ho2, hc2, m2, hd2⟩ := id e2
  simp only at hc hd hc2 hd2
  subst hc hd hc2 hd2
  show wpAny (model X.prog X.w) X.A (richCompare .NotEq (.ref a) (.ref b)) _ _ _
  refine wpAny_richCompare_same_room (op := .NotEq) ⟨_, ho, rfl⟩ ⟨_, ho2, rfl⟩ F.slot_tuple_ne (GQ.call_here F.slot_tuple_ne ⟨_, ho, rfl⟩ F.entry_tuple_ne (F.args_tuple_ne_2 _ _) ?_) hr.units0
  refine tup_ne (R := wants (fun v s' => v ≠ .notImplemented ∧ EP X pins σ Q v s') X.xe) hsz (fun s' => LoopI X pins σ H s') (fun i h1 h2 s' q' => turnG hD h ⟨hr, rfl⟩ p r r2 i h1 h2 s' q') (fun s' q' => ⟨(fun x => nomatch x), ?_⟩) ho ho2 ⟨H, I, L2.Ext.rfl'⟩
  obtain ⟨H', I', e'⟩ := q'
  exact ⟨.bl false, H', I', rfl, q H' e'⟩
end
end Sn
/-! tuple * int where it is the same tuple; sorted(set(texts)) -/
namespace Sn
open Evl (Ex)
open PySem PySem.Spec PyProof.Rows L2
theorem tuple_mulS (l : Addr) (items : Array Value) (n : Nat) (dd : Option Addr) (sl : Array (Option Value)) (x : Int) (u : Tok) (c0 : (decide (x < -(2 ^ 63)) || decide (x ≥ 2 ^ 63)) = false) (c1 : (items.isEmpty || x == 1) = true) :
    Meets (Builtin.«tuple.__mul__» ⟨[.ref l, .int x u], []⟩) (fun _ R s => s.heap.get? l = some { cls := .type "tuple", dict := dd, data := .seq items n, slots := sl } ∧ R (.ok (.ret (Value.ref l))) s) :=
  .of_wp fun prog w A R s h => by
    obtain ⟨hp, g, d, tk, os⟩ := s
    obtain ⟨hl, h⟩ := h
    have f1 := AutoSeq1.idx_int
    wp_walk using wpAny_loadPart' hl
    repeat (first
      | (refine wpAny_ite_false (decide_eq_false (by rw [c0]; exact Bool.false_ne_true)) ?_; wp_walk using wpAny_loadPart' hl)
      | (refine wpAny_ite_true (decide_eq_true (by rw [c1])) ?_; wp_walk using wpAny_loadPart' hl))
    exact ⟨_, rfl, h⟩
def rRepS (K : PySem.W.Frag) : R2 := fun x y H Q => ∃ l k xs, x = .ref l ∧ y = .int k ∧ SqT K H l xs ∧ (xs = [] ∨ k = 1) ∧ 1 ≤ k ∧ k ≤ 1000 ∧ Q (.ref l) H
section
variable {X : Cx}
theorem op_repS : OpR X (binaryOp .Mult) (rRepS X.K) := by
  intro pins s σ H x y v u Q I rx ry h
  obtain ⟨l, k, xs, rfl, rfl, hT, hor, h1, h2, q⟩ := h
  cases rx
  obtain ⟨t, rfl⟩ := ry
  obtain ⟨its, r, ⟨⟨cls, dd, data, sl⟩, ho, hc, n, hd⟩, hs⟩ := I.tuple hT
  simp only at hc hd
  subst hc hd
  have c0 : (decide (k < -(2 ^ 63)) || decide (k ≥ 2 ^ 63)) = false := by
    rw [decide_eq_false (show ¬ k < -(2 ^ 63) by omega), decide_eq_false (show ¬ k ≥ 2 ^ 63 by omega)]
    rfl
  have c1 : (its.toArray.isEmpty || k == 1) = true := by
    rcases hor with z | z
    · have : its = [] := by
        have hl := r.length
        rw [z] at hl
        exact List.eq_nil_of_length_eq_zero hl.symm
      rw [this]
      rfl
    · rw [z]
      simp
  exact wpAny_binaryOp_repeat_ref (T := "tuple") (U := "int") (by decide) ⟨_, ho, rfl⟩ (fun s' => typeIs_int s' k t) noFill_tuple_mul F.fills_int_mul F.slot_int_rmul repeat_tuple F.slot_int_index.lookup
    (call_meets F.slot_int_rmul (typeIs_int s k t) F.entry_int_rmul (F.args_int_rmul_2 _ _) (int_rmul_tuple k t l its.toArray n dd sl)
      ⟨ho, rfl, ⟨_, ho, rfl⟩, call_meets F.slot_tuple_mul ⟨_, ho, rfl⟩ F.entry_tuple_mul (F.args_tuple_mul_2 _ _) (tuple_mulS l its.toArray n dd sl k t c0 c1) ⟨ho, ⟨.ref l, H, I, rfl, q⟩⟩⟩)
/-- t * k -/
theorem op_rep : OpR X (binaryOp .Mult) (fun x y H Q => rRepT X.K x y H Q ∨ rRepS X.K x y H Q) := by
  intro pins s σ H x y v u Q I rx ry h
  rcases h with h | h
  · exact op_repT pins s σ H x y v u Q I rx ry h
  · exact op_repS pins s σ H x y v u Q I rx ry h
end
end Sn
/-! sets of keys of any kind: made of a list, walked, sorted -/
namespace Sn
open Evl (Ex)
open PySem PySem.Spec PyProof.Rows L2
theorem pair_perm {α β : Type} {F : α → β → Prop} {l l' : List α} (p : l'.Perm l) : ∀ {m : List β}, Paired F l m → ∃ m', m'.Perm m ∧ Paired F l' m' := by
  induction p with
  | nil => intro m h; exact ⟨m, .refl _, h⟩
  | cons x _ ih =>
    intro m h
    cases h with
    | cons a t =>
      obtain ⟨m', q, t'⟩ := ih t
      exact ⟨_ :: m', q.cons _, .cons a t'⟩
  | swap x y r =>
    intro m h
    cases h with
    | cons a t =>
      cases t with
      | cons b t =>
        exact ⟨_ :: _ :: _, .swap _ _ _, .cons b (.cons a t)⟩
  | trans _ _ i1 i2 =>
    intro m h
    obtain ⟨m1, q1, t1⟩ := i2 h
    obtain ⟨m2, q2, t2⟩ := i1 t1
    exact ⟨m2, q2.trans q1, t2⟩
theorem pair_mem {α β : Type} {F : α → β → Prop} : ∀ {l : List α} {m : List β}, Paired F l m → ∀ {y}, y ∈ m → ∃ x ∈ l, F x y
  | _, _, .cons h t, y, hy => by
    rcases List.mem_cons.mp hy with z | hy
    · rw [z]
      exact ⟨_, List.mem_cons_self, h⟩
    · obtain ⟨x, hx, f⟩ := pair_mem t hy
      exact ⟨x, List.mem_cons_of_mem _ hx, f⟩
theorem pair_mem' {α β : Type} {F : α → β → Prop} : ∀ {l : List α} {m : List β}, Paired F l m → ∀ {x}, x ∈ l → ∃ y ∈ m, F x y
  | _, _, .cons h t, x, hx => by
    rcases List.mem_cons.mp hx with z | hx
    · rw [z]
      exact ⟨_, List.mem_cons_self, h⟩
    · obtain ⟨y, hy, f⟩ := pair_mem' t hx
      exact ⟨y, List.mem_cons_of_mem _ hy, f⟩
section
variable {P : Program} {w : World} {κ : Type} [DecidableEq κ] (knd : KeyKind P w κ)
/-- the set of the keys ks at a, that can be walked -/
def SetG (h : Heap) (a : Addr) (ks : List κ) : Prop := ks.Nodup ∧ ∃ o es ep t ks', ks'.Perm ks ∧ h.get? a = some o ∧ o.ExactSet ∧ o.data = .set es ep t ∧ ElemsOf knd es.toList ∧ Paired (fun (e : Int × Value) k => knd.is k e.2 = true) es.toList ks' ∧
  es.size < scanBound ∧ t.fits es.size = true ∧ Ris t.place.toList ∧ (w.params.followText "set-order" = true ∨ t.led = true)
variable {knd} {A : Around} {E : Value → Shared → Prop} {s : Shared} {a : Addr} {ks : List κ}
theorem SetG.at {h h' : Heap} (R : SetG knd h a ks) (k : ∀ o, h.get? a = some o → h'.get? a = some o) : SetG knd h' a ks := by
  obtain ⟨nd, o, es, ep, t, ks', p, ho, r⟩ := R
  exact ⟨nd, o, es, ep, t, ks', p, k o ho, r⟩
theorem setG_new {h : Heap} (ho : h.get? a = some { cls := .type "set", dict := none, data := .set #[] 0 (.fresh 0 0 (!w.params.followText "set-order")) }) : SetG knd h a [] := by
  refine ⟨List.nodup_nil, _, #[], 0, _, [], .refl _, ho, ⟨rfl, rfl, rfl⟩, rfl, fun e he => by simp at he, .nil, by decide, rfl, List.Pairwise.nil, ?_⟩
  show _ ∨ (!w.params.followText "set-order") = true
  cases w.params.followText "set-order"
  · exact .inr rfl
  · exact .inl rfl
/-- the store behind a new key -/
theorem setG_tail {g : Bool → Sem Unit} (hg : ∀ (b : Bool) (s₁ : Shared) (Q' : Unit → Shared → Prop), Q' () s₁ → wpAny (model P w) A (g b) Q' E s₁) {o : Obj} {es : Array (Int × Value)} {ep : Nat} {t : SetTable} (ho : s.heap.get? a = some o) (hex : o.ExactSet) (hd : o.data = .set es ep t)
    {es1 : Array (Int × Value)} {t2 : SetTable} {ks1 : List κ} (n1 : ks.Nodup) (p1 : ks1.Perm ks) (el : ElemsOf knd es1.toList) (pr : Paired (fun (e : Int × Value) k => knd.is k e.2 = true) es1.toList ks1)
    (hb1 : es1.size < scanBound) (hf2 : t2.fits es1.size = true) (hr : Ris t2.place.toList) (hl : w.params.followText "set-order" = true ∨ t2.led = true) {dm : Bool} {R : Option Bool → Shared → Prop}
    (hR : ∀ h', Heap.SameBut a s.heap h' → SetG knd h' a ks → R (some true) { s with heap := h' }) :
    wpAny (model P w) A (do
        storeSet a es1 t2
        if (!dm && t2.tooFull) = true then do
            g (relayAll t2 es1 (SetTable.grown es1.size)).2.2
            storeSet a (relayAll t2 es1 (SetTable.grown es1.size)).1 (relayAll t2 es1 (SetTable.grown es1.size)).2.1
            pure (some true)
          else pure (some true)) R E s := by
  have o1 := store_at (es' := es1) (t' := t2) ho hd
  have b1 := Heap.SameBut.update s.heap a (Obj.putSet es1 t2)
  refine wpAny_bind (wpAny_storeSet_of ho hd ?_ (fits_of_scanBound hb1))
  split
  · have q1 := relayAll_perm t2 es1 (SetTable.grown es1.size)
    have q2 := relayAll_fits t2 es1 (SetTable.grown es1.size)
    have q3 := relayAll_ris t2 es1 (SetTable.grown es1.size)
    have q4 := relayAll_led t2 es1 (SetTable.grown es1.size)
    generalize relayAll t2 es1 (SetTable.grown es1.size) = Z at q1 q2 q3 q4 ⊢
    obtain ⟨es2, t3, gave⟩ := Z
    dsimp only at q1 q2 q3 q4 ⊢
    have sz : es2.size = es1.size := by rw [← Array.length_toList, q1.length_eq, Array.length_toList]
    obtain ⟨ks2, p2, pr2⟩ := pair_perm q1 pr
    refine wpAny_bind (hg _ _ _ (wpAny_bind (wpAny_storeSet_of o1 rfl (wpAny_pure (hR _ (b1.trans (Heap.SameBut.update _ a _)) ?_)) (fits_of_scanBound (by rw [sz]; exact hb1)))))
    exact ⟨n1, _, es2, _, t3, ks2, p2.trans p1, store_at (es' := es2) (t' := t3) o1 rfl, hex, rfl, fun e he => el e (q1.mem_iff.mp he), pr2, by rw [sz]; exact hb1, q2, q3, hl.imp id fun z => by rw [q4]; exact z⟩
  · exact wpAny_pure (hR _ b1 ⟨n1, _, es1, _, t2, ks1, p1, o1, hex, rfl, el, pr, hb1, hf2, hr, hl⟩)
/-- a key is added -/
theorem setG_add {k : κ} {v : Value} {Q : Bool → Shared → Prop} (R : SetG knd s.heap a ks) (hk : knd.is k v = true) (hsc : v.scannable = true) (room : ks.length + 1 < scanBound)
    (hQ : ∀ h' b, Heap.SameBut a s.heap h' → SetG knd h' a (if k ∈ ks then ks else k :: ks) → Q b { s with heap := h' }) : wpAny (model P w) A (setAddHashed a v (knd.hash k)) Q E s := by
  obtain ⟨nd, o, es, ep, t, ks', pm, ho, hex, hd, el, pr, hb, hf, hr, hl⟩ := id R
  have hln : es.size = ks.length := by rw [← Array.length_toList, Paired.length pr, pm.length_eq]
  unfold setAddHashed setAddHashedIn
  refine wpAny_holding (wpAny_bind (wpAny_setState_of ho hd hf ?_))
  dsimp only
  rw [byScan_of hsc hb el]
  simp only [↓reduceIte]
  unfold setAddByScan
  refine wpAny_bind (wpAny_bind (wpAny_rule (wpAny_bind (wpAny_setScan_of hk ho hd hf el ?_))))
  cases hfi : List.findIdx? (fun e => knd.is k e.2) es.toList with
  | some j =>
    dsimp only
    obtain ⟨hj, pj, _⟩ := List.findIdx?_eq_some_iff_getElem.mp hfi
    obtain ⟨k', hk', is'⟩ := pair_mem' pr (List.getElem_mem hj)
    have hm : k ∈ ks := by
      rw [knd.inj _ _ _ pj is']
      exact pm.mem_iff.mp hk'
    have q := hQ s.heap false (Heap.SameBut.refl a s.heap)
    rw [if_pos hm] at q
    exact wpAny_pure (wpAny_pure (q R))
  | none =>
    dsimp only
    have hnm : k ∉ ks := fun z => by
      obtain ⟨e, he, q⟩ := pair_mem pr (pm.mem_iff.mpr z)
      have c := List.findIdx?_eq_none_iff.mp hfi e he
      rw [q] at c
      cases c
    have gw : ∀ (b : Bool) {s₁ : Shared} {Q' : Unit → Shared → Prop}, Q' () s₁ → wpAny (model P w) A (match b with | true => rule "set.scan.the-table-gave-way" | false => pure ()) Q' E s₁ := fun b s₁ Q' q => by cases b <;> first | exact wpAny_pure q | exact wpAny_rule q
    have q1 := layNew_perm t es (knd.hash k) v
    have q2 := layNew_fits t es (knd.hash k) v
    have q3 := layNew_ris t es (knd.hash k) v hr
    have q4 := layNew_led t es (knd.hash k) v
    generalize layNew t es (knd.hash k) v = Z at q1 q2 q3 q4 ⊢
    obtain ⟨es1, t1, dm, gave⟩ := Z
    dsimp only at q1 q2 q3 q4 ⊢
    rw [Array.toList_push] at q1
    have pc : es1.toList.Perm ((knd.hash k, v) :: es.toList) := q1.trans (List.perm_append_singleton _ _)
    obtain ⟨ks1, p1, pr1⟩ := pair_perm (F := fun (e : Int × Value) k => knd.is k e.2 = true) pc (.cons hk pr)
    have el1 : ElemsOf knd es1.toList := fun e he => by
      rcases List.mem_cons.mp (pc.mem_iff.mp he) with z | z
      · rw [z]
        exact ⟨⟨k, hk, rfl⟩, hsc⟩
      · exact el e z
    have sz : es1.size = ks.length + 1 := by rw [← Array.length_toList, pc.length_eq, List.length_cons, Array.length_toList, hln]
    have hb1 : es1.size < scanBound := by rw [sz]; exact room
    have hl1 : w.params.followText "set-order" = true ∨ t1.led = true := hl.imp id fun z => by rw [q4]; exact z
    have n1 : (k :: ks).Nodup := List.nodup_cons.mpr ⟨hnm, nd⟩
    have pp : ks1.Perm (k :: ks) := p1.trans (pm.cons _)
    have fin : ∀ h', Heap.SameBut a s.heap h' → SetG knd h' a (k :: ks) → Q true { s with heap := h' } := fun h' sb r => by
      have q := hQ h' true sb
      rw [if_neg hnm] at q
      exact q r
    refine wpAny_bind (gw _ ?_)
    split
    · refine wpAny_bind ?_
      rw [hashByValue_scannable 8 hsc]
      refine wpAny_pure (setG_tail ?_ ho hex hd n1 pp el1 pr1 hb1 ?_ ?_ ?_ ?_)
      · intro b s₁ Q' q; cases b <;> first | exact wpAny_pure q | exact wpAny_rule q
      · first | (split <;> first | exact q2 | exact SetTable.fits_plain_off q2) | exact q2
      · first | (split <;> exact q3) | exact q3
      · first | (split <;> exact hl1) | exact hl1
      · intro h' sb r; dsimp only; exact wpAny_pure (fin h' sb r)
    · refine wpAny_bind (wpAny_pure ?_)
      simp only [↓reduceIte]
      refine setG_tail ?_ ho hex hd n1 pp el1 pr1 hb1 q2 q3 hl1 ?_
      · intro b s₁ Q' q; cases b <;> first | exact wpAny_pure q | exact wpAny_rule q
      · intro h' sb r; dsimp only; exact wpAny_pure (fin h' sb r)
/-- the keys of a list, each once -/
def once : List κ → List κ → List κ
  | acc, [] => acc
  | acc, k :: r => once (if k ∈ acc then acc else k :: acc) r
theorem once_mem {x : κ} : ∀ (l acc : List κ), x ∈ once acc l ↔ x ∈ acc ∨ x ∈ l
  | [], acc => by simp [once]
  | k :: r, acc => by
    rw [once, once_mem r]
    by_cases h : k ∈ acc
    · rw [if_pos h, List.mem_cons]
      constructor
      · rintro (z | z)
        · exact .inl z
        · exact .inr (.inr z)
      · rintro (z | z | z)
        · exact .inl z
        · exact .inl (z ▸ h)
        · exact .inr z
    · rw [if_neg h, List.mem_cons, List.mem_cons]
      constructor
      · rintro ((z | z) | z)
        · exact .inr (.inl z)
        · exact .inl z
        · exact .inr (.inr z)
      · rintro (z | z | z)
        · exact .inl (.inr z)
        · exact .inl (.inl z)
        · exact .inr z
theorem once_len : ∀ (l acc : List κ), (once acc l).length ≤ acc.length + l.length
  | [], acc => by simp [once]
  | k :: r, acc => by
    rw [once]
    have := once_len r (if k ∈ acc then acc else k :: acc)
    split at this <;> rename_i h
    · rw [if_pos h, List.length_cons]
      omega
    · rw [if_neg h, List.length_cons]
      rw [List.length_cons] at this
      omega
theorem setG_loop {I : Addr} {fp wr : List Addr} {G : Array GenState → Array GenState → Prop} {Pv : Nat → Value → Prop} {St : Nat → Shared → Prop} {R : Result → Shared → Prop} {n : Nat} (W : WalksS P w A.in1 I fp wr G n Pv St) (S : Addr) (hSf : S ∉ fp)
    (kl : List κ) (hn : n = kl.length) (hval : ∀ i v, Pv i v → ∃ k, kl[i]? = some k ∧ knd.is k v = true ∧ v.scannable = true) :
    ∀ (m i : Nat) (s : Shared) (acc : List κ), n - i = m → i ≤ n → acc.length + n + 1 < scanBound + i → St i s → SetG knd s.heap S acc →
      (∀ s', Moved (S :: wr) G s s' → SetG knd s'.heap S (once acc (kl.drop i)) → R (.ok (.ret .none)) s') → codeAny (model P w) A (.builtin "set.update.loop" ⟨[.ref S, .ref I], []⟩) R s := by
  have hSw : S ∉ wr := fun h => hSf (W.sub _ h)
  have up : ∀ b ∈ wr, b ∈ S :: wr := fun b hb => List.mem_cons_of_mem _ hb
  intro m
  induction m with
  | zero =>
    intro i s acc hm hi hb hst hS hR
    have e : i = n := by omega
    subst e
    refine codeAny_builtin F.entry_set_update_loop ?_
    rw [Around.under_plainId F.plain_set_update_loop _]
    show wpAny _ A.in1 (pyNext (.ref I) >>= _) _ _ s
    refine wpAny_bind (W.done s _ _ hst fun s' mv => ?_)
    show wpAny _ A.in1 (ret Value.none) _ _ s'
    refine wpAny_pure (hR s' (mv.mono up) ?_)
    rw [List.drop_of_length_le (by omega)]
    exact hS.at fun o e => mv.heap S o hSw e
  | succ m ih =>
    intro i s acc hm hi hb hst hS hR
    have hlt : i < n := by omega
    refine codeAny_builtin F.entry_set_update_loop ?_
    rw [Around.under_plainId F.plain_set_update_loop _]
    show wpAny _ A.in1 (pyNext (.ref I) >>= _) _ _ s
    refine wpAny_bind (W.item i s _ _ hlt hst fun v s' hP hst' mv => ?_)
    obtain ⟨k, hk, his, hsc⟩ := hval i v hP
    have hS' : SetG knd s'.heap S acc := hS.at fun o e => mv.heap S o hSw e
    show wpAny _ A.in1 (holding [v] (setAdd S v) >>= _) _ _ s'
    refine wpAny_bind (wpAny_holding ?_)
    unfold setAdd
    refine wpAny_holding (wpAny_bind (knd.pyHash his ?_))
    refine setG_add (s := { s' with toks := s'.toks + 1 }) hS' his hsc (by omega) fun h' bb sb hS2 => ?_
    refine wpAny_pure ⟨plainId_quiet F.plain_set_update_loop _, ih (i + 1) _ _ (by omega) hlt ?_ (W.frame _ s' _ _ hst' (Nat.le_succ _) fun b hb o e => ?_) hS2 fun s'' mv'' hS'' => ?_⟩
    · split <;> (try rw [List.length_cons]) <;> omega
    · rw [sb.2 b (fun h : b = S => hSf (by rw [← h]; exact hb))]; exact e
    · refine hR s'' (Moved.trans W.gtrans ((mv.mono up).then_heap (Nat.le_succ _) fun b o hb e => ?_) mv'') ?_
      · rw [sb.2 b (fun h : b = S => hb (by rw [h]; exact List.mem_cons_self))]; exact e
      · have ed : kl.drop i = k :: kl.drop (i + 1) := by
          obtain ⟨h1, h2⟩ := List.getElem?_eq_some_iff.mp hk
          rw [List.drop_eq_getElem_cons h1, h2]
        rw [ed, once]
        exact hS''
end
section
variable {P : Program} {w : World} {A : Around} {E : Value → Shared → Prop} {s : Shared}
/-- set(l), l a list of keys -/
theorem setG_list {κ : Type} [DecidableEq κ] {knd : KeyKind P w κ} {l : Addr} {items : Array Value} (kl : List κ) {Q : Value → Shared → Prop} (hh : A.handled = none) (hl : s.heap.IsList l items) (hit : Paired (fun v k => knd.is k v = true ∧ v.scannable = true) items.toList kl) (hb : kl.length + 1 < scanBound)
    (h : ∀ (h' : Heap) (tk : Nat), SetG knd h' s.heap.objs.size (once [] kl) → (∀ b o, s.heap.get? b = some o → h'.get? b = some o) → Q (.ref s.heap.objs.size) { s with heap := h', toks := tk }) :
    wpAny (model P w) A (call (.type "set") [.ref l]) Q E s := by
  have hisz : items.size = kl.length := by rw [← Array.length_toList]; exact Paired.length hit
  obtain ⟨c, tl, hmro⟩ := F.called_set.mro
  have hmade := F.called_set.made
  have hsub := F.called_set.sub
  refine wpAny_call (codeAny_of_tree ?_)
  show wpAny _ _ (callAny (.type "set") _) _ _ _
  refine wpAny_pure ⟨Code.quiet_builtin _ (by decide +kernel), codeAny_builtin F.entry_type_call ?_⟩
  rw [Around.under_plain (weight_type_call_type "set" [.ref l] []) rfl]
  have h1 := F.called_set.notType
  have h2 := F.called_set.canCreate
  have hct := F.typeCall_set_1 (.ref l)
  repeat (any_goals (first | assumption | wp_step))
  let o0 : Obj := { cls := .type "set", dict := none, data := .set #[] 0 (.fresh 0 0 (!w.params.followText "set-order")) }
  refine codeAny_mono (code_set_led1 (.ref l) (E := E) (Q₁ := fun obj s₁ => obj = .ref s.heap.objs.size ∧ s₁ = { s with heap := s.heap.push o0 }) ⟨rfl, rfl⟩) fun r s₁ hr => ?_
  cases r with
  | error e => exact hr
  | ok fl =>
    cases fl with
    | ret obj =>
      obtain ⟨rfl, rfl⟩ := hr
      have hS : (s.heap.push o0).get? s.heap.objs.size = some o0 := Heap.get?_push_size _ rfl
      have hT : Shared.TypeIs { s with heap := s.heap.push o0 } (.ref s.heap.objs.size) "set" := ⟨_, hS, rfl⟩
      have hli := F.called_set.init.lookup
      have hbi := F.called_set.init.bind (.ref s.heap.objs.size)
      repeat (any_goals (first | assumption | wp_step))
      refine codeAny_mono (codeAny_call_builtin (R := wants (fun r s₂ => r = .none ∧ ∃ h' tk, s₂ = { s with heap := h', toks := tk } ∧ SetG knd h' s.heap.objs.size (once [] kl) ∧ (∀ b o, s.heap.get? b = some o → h'.get? b = some o)) E) F.called_set.init.plain F.entry_set_init (check_set_init_1 hT ?_)) fun r₂ s₂ hr₂ => ?_
      · obtain ⟨ol, hol, hcl, nl, hdl⟩ := hl
        obtain ⟨ocls, odict, odata, oslots⟩ := ol
        simp only at hcl hdl
        subst hcl; subst hdl
        have hol' : (s.heap.push o0).get? l = some { cls := .type "list", dict := odict, data := .seq items nl, slots := oslots } := Heap.get?_push_of_some _ hol
        have hsls := PySem.F.sub_list_set
        have hslf := PySem.F.sub_list_frozenset
        have hne : (Value.type "list" == Value.type "dict") = false := by decide
        have hl1 : (s.heap.push o0).IsList l items := ⟨_, hol', rfl, nl, rfl⟩
        unfold Builtin.«set.__init__» noKeywords Builtin.Frozenset.updateFrom
        generalize hPI : pyIter = PI
        wp_walk
        subst hPI
        refine wpAny_pyIter_list hl1 ?_
        refine wpAny_bind (wpAny_runValue ?_)
        have hlS : l < s.heap.objs.size := Heap.lt_size hol
        have hh3 : A.in1.in1.in1.handled = none := by simp [hh]
        have sz1 : (s.heap.push o0).objs.size = s.heap.objs.size + 1 := Heap.size_push ..
        have hneI : l ≠ (s.heap.push o0).objs.size := by rw [sz1]; exact Nat.ne_of_lt (Nat.lt_succ_of_lt hlS)
        have hSf : s.heap.objs.size ∉ [(s.heap.push o0).objs.size, l] := by
          rw [sz1]
          simp only [List.mem_cons, List.mem_singleton, List.not_mem_nil, or_false, not_or]
          exact ⟨Nat.ne_of_lt (Nat.lt_succ_self _), Nat.ne_of_gt hlS⟩
        have hval : ∀ (i : Nat) (v : Value), items[i]? = some v → ∃ k, kl[i]? = some k ∧ knd.is k v = true ∧ v.scannable = true := fun i v hv => LiI.paired_get hit (by rw [Array.getElem?_toList]; exact hv)
        refine setG_loop ((Walks.list hh3 _ l hneI items).toS) s.heap.objs.size hSf kl hisz hval (items.size - 0) 0 _ [] (by omega) (Nat.zero_le _) (by simp; omega) ⟨⟨_, Heap.get?_push_size _ rfl, rfl, rfl⟩, (hl1.push _)⟩ (setG_new (Heap.get?_push_of_some _ hS)) fun s' mv hS' => ?_
        obtain ⟨h', g2, d', tk', os'⟩ := s'
        obtain rfl : g2 = s.gens := mv.gens
        obtain rfl : d' = s.drawn := mv.drawn
        obtain rfl : os' = s.os := mv.os
        show wpAny _ _ _ _ _ _
        refine wpAny_pure ?_
        show wpAny _ _ (ret Value.none) _ _ _
        refine wpAny_pure ⟨rfl, h', tk', rfl, hS', fun b o e => ?_⟩
        have lb := Heap.lt_size e
        refine mv.heap b o ?_ (Heap.get?_push_of_some _ (Heap.get?_push_of_some _ e))
        simp only [List.mem_cons, List.mem_singleton, List.not_mem_nil, or_false, not_or]
        exact ⟨Nat.ne_of_lt lb, by rw [sz1]; exact Nat.ne_of_lt (Nat.lt_succ_of_lt lb)⟩
      · cases r₂ with
        | error e => exact hr₂
        | ok fl₂ =>
          cases fl₂ with
          | ret r =>
            obtain ⟨rfl, h', tk, rfl, hS', hk⟩ := hr₂
            have hfin := h h' tk hS' hk
            repeat (any_goals (first | assumption | wp_step))
          | _ => exact hr₂.elim
    | _ => exact hr.elim
end
end Sn
/-! set(l) and sorted(s) of texts, as rules -/
namespace Sn
open Evl (Ex)
open PySem PySem.Spec PyProof.Rows L2
/-- a set of texts -/
def SetX (P : Program) (w : World) (p : Addr) (ks : List Str) : HO := .ext fun h => SetG (PySem.strKind P w) h p ks
theorem setX_ok {P : Program} {w : World} {H : Hp} {h : Heap} {p : Addr} {ks : List Str} (R : SetG (PySem.strKind P w) h p ks) : ObjOk P w H h p (SetX P w p ks) := by
  refine ⟨R, ?_, fun h1 h2 r st => r.at fun o e => st o e⟩
  obtain ⟨_, o, _, _, _, _, _, ho, _⟩ := R
  exact ⟨o, ho⟩
section
variable {X : Cx}
theorem strs_pair {P : Program} {w : World} : ∀ {ws : List Str} {us : List Value}, Vals (ws.map V.str) us → Paired (fun v k => (PySem.strKind P w).is k v = true ∧ v.scannable = true) us ws
  | [], _, .nil => .nil
  | x :: r, _, .cons ru rt => by
    obtain ⟨t, rfl⟩ := ru
    exact .cons ⟨strKind_is _ _ _ _, rfl⟩ (strs_pair rt)
def rSetL (P : Program) (w : World) (K : PySem.W.Frag) : List V → Hp → VK → Prop := fun xs H Q => ∃ (l : Addr) (ws : List Str), xs = [.ref l] ∧ SqL K H l (ws.map V.str) ∧ ws.length ≤ 100 ∧ ∀ p, H p = none → Q (.ref p) (upd H p (SetX P w p (once [] ws)))
theorem call_setL (hc : X.calm = true) : CallR X (.type "set") (rSetL X.prog X.w X.K) := by
  intro pins s σ H xs us Q I r h
  obtain ⟨l, ws, rfl, hl, hn, q⟩ := h
  obtain rfl := Vals.ref1 r
  obtain ⟨its, rv, pl, hz⟩ := I.list hl
  refine setG_list ws (I.ok.hd hc) pl.isList (by simpa using strs_pair rv) (by unfold scanBound; omega) fun h' tk hS hk => ?_
  exact ⟨.ref s.heap.objs.size, _, I.laid (t' := tk) hk (Nat.le_refl _) (setX_ok hS), rfl, q _ (I.hok.fresh (Nat.le_refl _))⟩
def rSortX (P : Program) (w : World) : List V → Hp → VK → Prop := fun xs H Q => ∃ (a : Addr) (ks : List Str), xs = [.ref a] ∧ H a = some (SetX P w a ks) ∧ ks.length < 64 ∧ ∀ ys p, ys.Perm ks → sortedS ys = true → H p = none → Q (.ref p) (upd H p (.lst (ys.map V.str)))
theorem strs_of {P : Program} {w : World} : ∀ {es : List (Int × Value)} {ks : List Str}, Paired (fun (e : Int × Value) k => (PySem.strKind P w).is k e.2 = true) es ks → StrsAre (es.map (·.2)) ks
  | _, _, .nil => .nil
  | _, _, .cons h t => by
    obtain ⟨u, e⟩ := Value.isStrOf_shape h
    rw [List.map_cons, e]
    exact .cons _ _ (strs_of t)
theorem strs_perm {l l' : List Value} {ks : List Str} (p : l'.Perm l) (h : StrsAre l ks) : ∃ ks', ks'.Perm ks ∧ StrsAre l' ks' := by
  have to_ : ∀ {l : List Value} {ks : List Str}, StrsAre l ks → Paired (fun v k => ∃ t, v = Value.str k t) l ks := fun {l ks} h => by
    induction h with
    | nil => exact .nil
    | cons _ _ _ ih => exact .cons ⟨_, rfl⟩ ih
  have of_ : ∀ {l : List Value} {ks : List Str}, Paired (fun v k => ∃ t, v = Value.str k t) l ks → StrsAre l ks := fun {l ks} h => by
    induction h with
    | nil => exact .nil
    | cons h _ ih =>
      obtain ⟨t, rfl⟩ := h
      exact .cons _ _ ih
  obtain ⟨ks', q, h'⟩ := pair_perm p (to_ h)
  exact ⟨ks', q, of_ h'⟩
theorem call_sortX (hc : X.calm = true) : CallR X (.builtin "sorted") (rSortX X.prog X.w) := by
  intro pins s σ H xs us Q I r h
  obtain ⟨a, ks, rfl, ha, h64, q⟩ := h
  obtain rfl := Vals.ref1 r
  obtain ⟨nd, o, es, ep, t, ks', pm, ho, hex, hd, el, pr, hb, hf, hr, hl⟩ := (I.hok a _ ha).1
  refine Calls.call_function_entry kind_sorted plain_sorted entry_sorted (args_sorted1 _) ?_
  unfold Builtin.«sorted»
  refine wpAny_bind (m := checkCount "sorted" 1 1 _) (wpAny_pure ?_)
  refine wpAny_bind (collect_set (A := X.A.in1) (I.ok.hd hc) ⟨o, ho, hex.1, hd⟩ hf hb hr hl fun s1 vs k1 hz g1 o1 pv => ?_)
  obtain ⟨ks2, p2, hS⟩ := strs_perm pv (strs_of pr)
  have hlen : vs.length = ks.length := by rw [StrsAre.len_eq hS, p2.length_eq, pm.length_eq]
  have e1 : s1 = { s with heap := s1.heap, gens := s1.gens, drawn := s1.drawn, toks := s1.toks } := by
    cases s1
    cases s
    cases o1
    rfl
  have I1 : Inv X pins σ H s1 := by
    rw [e1]
    exact I.call (ch := []) (Un.kept k1) (I.hok.kept k1) (by rw [g1]; exact I.bare) (fun _ z => nomatch z)
  obtain ⟨hp, gg, dd, tk, os⟩ := s1
  refine wpAny_bind (wpAny_newList ?_ (by rw [hlen, sizeLine_eq]; omega))
  have hoL : (hp.push (seqObj "list" vs.toArray 0)).get? hp.objs.size = some (seqObj "list" vs.toArray 0) := Heap.get?_push_size _ rfl
  refine wpAny_bind (wpAny_holding (wpAny_call_entry slot_list_sort ⟨_, hoL, rfl⟩ entry_list_sort
    (list_sort_treeK strKind_oneLt (s := ⟨hp.push (seqObj "list" vs.toArray 0), gg, dd, tk, os⟩) hoL hS.keysOf (fun v₁ v₂ rest e => keyKind_strs (by rw [← e]; exact hS)) (by rw [hlen]; exact h64) fun st' hp' hs => ⟨_, rfl, ?_⟩) (args_list_sort _)))
  obtain ⟨ys, y1, y2, y3⟩ := sorted_out_str hS hp' hs
  obtain ⟨e', he'⟩ := sortedHeap_at (vs := vs) (out := (arrOf st').map (·.2)) hoL
  have yp : ys.Perm ks := y2.trans (p2.trans pm)
  have hlen2 : (ys.map V.str).length ≤ sizeLine := by rw [List.length_map, yp.length_eq, sizeLine_eq]; omega
  refine wpAny_pure ⟨_, rfl, .ref hp.objs.size, upd H hp.objs.size (.lst (ys.map V.str)), I1.laid (t' := tk) (fun b u e => ?_) (Nat.le_refl _)
    (show ObjOk X.prog X.w _ _ _ (.lst (ys.map V.str)) from ⟨hlen2, ((arrOf st').map (·.2)).toList, e', vals_of_strs y1, by rw [Array.toArray_toList]; exact he'⟩), rfl, q ys _ yp y3 (I1.hok.fresh (Nat.le_refl _))⟩
  have lb := Heap.lt_size e
  show (sortedHeap (hp.push (seqObj "list" vs.toArray 0)) hp.objs.size vs _).get? b = some u
  rw [sortedHeap_old (Nat.ne_of_lt lb) (by rw [Heap.size_push]; exact Nat.lt_succ_of_lt lb)]
  exact Heap.get?_push_of_some _ e
end
end Sn
/-! what serves all laws, program independent -/
namespace Sn
open Evl (Ex)
open PySem L2 LamX
section
variable {X : Cx} {P : Program} {w : World} {K : PySem.W.Frag} {mg : Str → Option Value} {base : Heap}
variable {σ : L2.St} {H H' : Hp} {D : Ends}
/-- the row of a key -/
def look (ds : List (Str × List Str)) (k : Str) : List Str := ((ds.find? fun e => decide (e.1 = k)).map (·.2)).getD []
def putL (ds : List (Str × List Str)) (row : List Str) : List Str := row.flatMap (look ds)
theorem look_at {es : List Ent} {e : Ent} (hn : (es.map (·.1)).Nodup) (h : e ∈ es) : look (es.map dat) e.1 = e.2.1 := by
  induction es with
  | nil => cases h
  | cons p r ih =>
    rw [List.map_cons, List.nodup_cons] at hn
    unfold look
    rcases List.mem_cons.mp h with z | h
    · subst z
      simp [dat]
    · have ne : ¬ p.1 = e.1 := fun z => hn.1 (by rw [z]; exact List.mem_map_of_mem (f := Prod.fst) h)
      have := ih hn.2 h
      unfold look at this
      rw [List.map_cons, List.find?_cons, decide_eq_false (show ¬ (dat p).1 = e.1 from ne)]
      exact this
theorem putL_len {ds : List (Str × List Str)} {n : Nat} (h : ∀ k, (look ds k).length ≤ n) : ∀ row : List Str, (putL ds row).length ≤ n * row.length
  | [] => by simp [putL]
  | k :: r => by
    have := putL_len h r
    have e : putL ds (k :: r) = look ds k ++ putL ds r := by simp [putL]
    rw [e, List.length_append, List.length_cons, Nat.mul_add]
    have := h k
    omega
theorem look_len {es : List Ent} {n : Nat} (h : ∀ e ∈ es, e.2.1.length ≤ n) (k : Str) : (look (es.map dat) k).length ≤ n := by
  unfold look
  cases e : (es.map dat).find? fun e => decide (e.1 = k) with
  | none => exact Nat.zero_le _
  | some x =>
    obtain ⟨y, hy, z⟩ := List.mem_map.mp (List.mem_of_find?_eq_some e)
    subst z
    exact h y hy
def isWd (x : Str) : Bool := decide (1 ≤ x.cps.size) && decide (x.cps.size ≤ 6) && x.cps.toList.all fun c => decide (c ∈ abc.cps.toList)
theorem isWd_of {x : Str} (h : Wd x) : isWd x = true := by
  obtain ⟨lo, hi, az⟩ := h
  unfold isWd
  rw [decide_eq_true (show 1 ≤ x.cps.size by simpa using lo), decide_eq_true (show x.cps.size ≤ 6 by simpa using hi), Bool.true_and, Bool.true_and, List.all_eq_true]
  exact fun c hc => decide_eq_true (abc_mem.mpr (az c hc))
theorem wd_of {x : Str} (h : isWd x = true) : Wd x := by
  unfold isWd at h
  rw [Bool.and_eq_true, Bool.and_eq_true, List.all_eq_true] at h
  exact ⟨by simpa using of_decide_eq_true h.1.1, by simpa using of_decide_eq_true h.1.2, fun c hc => abc_mem.mp (of_decide_eq_true (h.2 c hc))⟩
theorem Wd.sz {x : Str} (h : Wd x) : x.cps.size ≤ 1000 := by
  have := h.hi
  simp at this
  omega
theorem unlock {H H' : Hp} {d : Addr} {od : Obj} {u : HO} (e : Ex (upd H d (.frz od u)) H') (h : H d = some u) : Ex H (upd H' d u) := fun x o hx => by
  by_cases z : x = d
  · subst z
    rw [upd_same, ← hx, h]
  · rw [upd_ne z]
    exact e _ _ (by rw [upd_ne z]; exact hx)
/-- an item of a row, as far as need_row asks: a text, or no text -/
def Itm (K : PySem.W.Frag) (H : Hp) (x : V) : Prop := (∃ s : Str, x = .str s) ∨ ∃ t, TyX K H x t ∧ PySem.W.kitOne K t (.type "str") = some false
def good (ks : List Str) (x : V) : Bool := match x with
  | .str s => decide (s ∈ ks)
  | _ => false
theorem Itm.ex {H H' : Hp} {x : V} (h : Itm K H x) (e : Ex H H') : Itm K H' x := by
  rcases h with h | ⟨t, h, k⟩
  · exact .inl h
  · refine .inr ⟨t, ?_, k⟩
    cases h with
    | base b =>
      refine .base ?_
      cases b with
      | non => exact .non
      | bl y => exact .bl y
      | int i => exact .int i
      | str y => exact .str y
      | flt y => exact .flt y
      | lst h => exact .lst (e _ _ h)
      | frz h => exact .frz (e _ _ h)
      | tup h => exact .tup (e _ _ h)
      | dK h => exact .dK (e _ _ h)
      | dT h => exact .dT (e _ _ h)
      | ins h cl ha hn htk hm => exact .ins (e _ _ h) cl ha hn htk hm
    | byt b => exact .byt b
    | set h => exact .set (e _ _ h)
    | kList h c => exact .kList h c
    | kTuple h c => exact .kTuple h c
    | kDict h c => exact .kDict h c
    | fTuple h => exact .fTuple (e _ _ h)
    | fDict h => exact .fDict (e _ _ h)
/-- es' is es, ascending -/
structure SrtE (es es' : List Ent) : Prop where
  pm : (es'.map (·.1)).Perm (es.map (·.1))
  so : PyProof.Rows.sortedS (es'.map (·.1)) = true
  sub : ∀ e ∈ es', e ∈ es
structure SrtS (ss ss' : List (Str × Str)) : Prop where
  pm : (ss'.map (·.1)).Perm (ss.map (·.1))
  so : PyProof.Rows.sortedS (ss'.map (·.1)) = true
  sub : ∀ e ∈ ss', e ∈ ss
theorem rd_ex {H H' : Hp} {p : Addr} {u : HO} (h : Rd H p u) (e : Ex H H') : Rd H' p u := by
  rcases h with h | ⟨o, h⟩
  · exact .inl (e _ _ h)
  · exact .inr ⟨o, e _ _ h⟩
theorem rd_lock {H : Hp} {d p : Addr} {od : Obj} {kvs : List (Key × V)} {ks : List (Key × V)} (h : H p = some (.dK ks)) (hd : H d = some (.dK kvs)) : Rd (upd H d (.frz od (.dK kvs))) p (.dK ks) := by
  by_cases z : p = d
  · subst z
    rw [h] at hd
    cases hd
    exact .inr ⟨od, upd_same⟩
  · exact .inl (by rw [upd_ne z]; exact h)
theorem dgr {H : Hp} {a : Addr} {kvs : List (Key × V)} {x : Str} {v : V} (h : Rd H a (.dK kvs)) (e : valV kvs (Sum.inr x : Key) = some v) : DGet H a (.str x) (some v) := .inl ⟨kvs, Sum.inr x, h, rfl, e.symm⟩
/-- a method of a class, and its promise -/
structure CalM (P : Program) (w : World) (K : PySem.W.Frag) (mg : Str → Option Value) (base : Heap) (CX : CXT) (k : Nat) (C : Addr) (m : Str) (ps : List Str) (sp : Sp) : Prop where
  ex : ∃ (f : Addr) (fd : FuncData), Meth K C m f ∧ FnOk P w K mg base CX k f fd ps sp ∧ Binds K fd ps []
theorem pmeth {pl : Sem Bool} {k : Nat} {C : Addr} {m : Str} {ps : List Str} {sp : Sp} {o e : Expr} {es : List Expr} {apos pos : Pos} {ta : TE} {t : TA} (c : CalM X.prog X.w X.K X.mg X.base CX0 k C m ps sp) (cl : Cls X.K C) (hr : Room k X.A) (ho : PE X o ta) (ha : PA X (e :: es) t)
    (hst : starEach (e :: es) X.env = (false, eval e X.env) :: starEach es X.env := by rfl) (hpl : (backTo pos (starEach es X.env)).any (·.1) = false := by rfl)
    (ht : eval (.Call (.Attribute o m apos) (e :: es) [] pos) X.env = (do
      let ov ← eval o X.env
      standAt apos.atName
      let (f, first) ← holding [ov] (getMethod ov m pl)
      callWith pos f first (backTo pos (starEach (e :: es) X.env)) (backToKw pos (keywordEach [] X.env))) := by rfl) : PE X (.Call (.Attribute o m apos) (e :: es) [] pos) (tMeth C m sp [] E0 ta t) := by
  obtain ⟨f, fd, hm, F, b⟩ := c.ex
  exact pe_meth (pl := pl) ho cl hm F hr b .nil pass0 ha hst hpl ht
def look2 (ss : List (Str × Str)) (k : Str) : Str := ((ss.find? fun e => decide (e.1 = k)).map (·.2)).getD k
/-- the words of a row that is put together -/
theorem putL_mem {es : List Ent} {row : List Str} {x : Str} (h : x ∈ putL (es.map dat) row) : ∃ e ∈ es, x ∈ e.2.1 := by
  unfold putL at h
  obtain ⟨k, _, hx⟩ := List.mem_flatMap.mp h
  unfold look at hx
  cases e : (es.map dat).find? fun e => decide (e.1 = k) with
  | none => rw [e] at hx; cases hx
  | some y =>
    rw [e] at hx
    obtain ⟨z, hz, rfl⟩ := List.mem_map.mp (List.mem_of_find?_eq_some e)
    exact ⟨z, hz, hx⟩
theorem look2_at {ss : List (Str × Str)} {e : Str × Str} (hn : (ss.map (·.1)).Nodup) (h : e ∈ ss) : look2 ss e.1 = e.2 := by
  induction ss with
  | nil => cases h
  | cons p r ih =>
    rw [List.map_cons, List.nodup_cons] at hn
    unfold look2
    rcases List.mem_cons.mp h with z | h
    · subst z
      simp
    · have ne : ¬ p.1 = e.1 := fun z => hn.1 (by rw [z]; exact List.mem_map_of_mem (f := Prod.fst) h)
      have := ih hn.2 h
      unfold look2 at this
      rw [List.find?_cons, decide_eq_false ne]
      exact this
theorem dat_key {es : List Ent} : (es.map dat).map (·.1) = es.map (·.1) := by simp [dat, Function.comp_def]
theorem asg2 {t1 t2 : TE} {g : TG} {u : TS} {D : Ends} {σ : L2.St} {H : Hp} (h : t1 σ H fun x H1 => t2 σ H1 fun y H2 => [x, y].length ≤ sizeLine ∧ ∀ p, H2 p = none → g (.ref p) σ (upd H2 p (.tup [x, y])) fun σ' H' => u D σ' H') : tSeq (tAsg (tTup (tCons t1 (tCons t2 tNil))) g) u D σ H := h
theorem make2 {C : Addr} {sp : Sp} {E : XK} {t1 t2 : TE} {σ : L2.St} {H : Hp} {Q : VK} (h : t1 σ H fun x H1 => t2 σ H1 fun y H2 => ∀ a dx, H2 a = none → H2 dx = none → dx ≠ a → sp (.ref a :: ([x, y] ++ [])) (upd (upd H2 dx (.own a)) a (.ins C dx [])) (fun v H3 => v = .non ∧ Q (.ref a) H3) E) : tMake C sp [] E (tCons t1 (tCons t2 tNil)) σ H Q := h
theorem tell2 {v : V} {t : TE} {σ : L2.St} {H : Hp} {Q : VK} (h : t σ H fun x H1 => [v, x].length ≤ sizeLine ∧ ∀ p, H1 p = none → Q (.ref p) (upd H1 p (.tup [v, x]))) : tTup (tCons (tC v) (tCons t tNil)) σ H Q := h
theorem _root_.Sn.Rws.exN {H H' : Hp} {p : Addr} {es : List Ent} (h : Rws H p es) (x : ExtN H H') : Rws H' p es := ⟨x _ _ h.1 (fun _ z => by cases z), fun e he => x _ _ (h.2 e he) (fun _ z => by cases z)⟩
theorem wipe_set {σ : L2.St} {n : Nat} {x : Option V} : wipe ((wipe σ [n]).set n x) [n] = wipe σ [n] := by
  unfold wipe
  simp [wipe]
/-- [x for x in ws if x not in ks] -/
theorem notin_go {σ : L2.St} {H : Hp} {Q : VK} {i j n : Nat} {a b : Addr} {ws ks : List Str} (hi : σ[i]? = some (some (.ref a))) (hj : (wipe σ [n])[j]? = some (some (.ref b))) (hn : n < (wipe σ [n]).length) (jn : j ≠ n) (ha : H a = some (.lst (ws.map V.str))) (hb : H b = some (.lst (ks.map V.str))) (hl : ws.length ≤ 1000)
    (q : ∀ p H', Ex H H' → H' p = some (.lst ((ws.filter fun x => !decide (x ∈ ks)).map V.str)) → Q (.ref p) H') :
    tLc (iList K (tVar i)) (gName n) (tTest (tOp (rIn K true) (tVar n) (tVar j))) (tVar n) [n] σ H Q := by
  refine ⟨_, hi, a, rfl, ⟨_, SqL.of ha⟩, fun D nD => ?_⟩
  refine lc_list (xs := ws.map V.str) (fun i H' => Ex H H' ∧ H' D = some (.lst (((ws.take i).filter fun x => !decide (x ∈ ks)).map V.str))) ⟨exn nD, upd_same⟩ (fun i H' _ h => SqL.of (h.1 _ _ ha)) ?_ ?_
  · rintro k x H' hx ⟨e1, h1⟩
    rw [List.getElem?_map] at hx
    cases hz : ws[k]? with
    | none => rw [hz] at hx; cases hx
    | some y =>
      rw [hz] at hx
      obtain rfl : V.str y = x := Option.some.inj hx
      have hk : k < ws.length := (List.getElem?_eq_some_iff.mp hz).1
      have g1 : ((wipe σ [n]).set n (some (.str y)))[n]? = some (some (.str y)) := by simp [List.getElem?_set, hn]
      have g2 : ((wipe σ [n]).set n (some (.str y)))[j]? = some (some (.ref b)) := by rw [List.getElem?_set_ne (fun z => jn z.symm)]; exact hj
      refine ⟨wipe_set, _, g1, _, g2, b, _, rfl, .inl (SqL.of (e1 _ _ hb)), rfl, flat_strs ks, _, rfl, ?_⟩
      rw [if_pos rfl, inV_str]
      cases hd : decide (y ∈ ks) with
      | false =>
        have ht : (ws.take (k + 1)).filter (fun x => !decide (x ∈ ks)) = (ws.take k).filter (fun x => !decide (x ∈ ks)) ++ [y] := by
          rw [List.take_add_one, hz, List.filter_append]
          simp only [Option.toList_some, List.filter_cons, List.filter_nil, hd, Bool.not_false, if_true]
        rw [ht]
        refine iteT ⟨_, g1, _, h1, ?_, exm e1 nD, ?_⟩
        · have := List.length_filter_le (fun x => !decide (x ∈ ks)) (ws.take k)
          rw [List.length_take] at this
          rw [List.length_map, sizeLine_eq]
          omega
        · rw [upd_same, List.map_append]
          rfl
      | true =>
        have ht : (ws.take (k + 1)).filter (fun x => !decide (x ∈ ks)) = (ws.take k).filter (fun x => !decide (x ∈ ks)) := by
          rw [List.take_add_one, hz, List.filter_append]
          simp only [Option.toList_some, List.filter_cons, List.filter_nil, hd, Bool.not_true, if_false, Bool.false_eq_true, List.append_nil]
        rw [ht]
        exact iteF ⟨e1, h1⟩
  · rintro H' ⟨e1, h1⟩
    rw [List.length_map, List.take_length] at h1
    exact q D H' e1 h1
/-- behind a lock -/
theorem unlockD {H H' : Hp} {d : Addr} {od : Obj} {u : HO} (hd : H d = some u) (x : Ex (upd H d (.frz od u)) H') : Ex H (upd H' d u) := fun a o h => by
  by_cases z : a = d
  · subst z
    rw [upd_same]
    rw [h] at hd
    exact hd.symm
  · rw [upd_ne z]
    exact x _ _ (by rw [upd_ne z]; exact h)
theorem tup_unlock {H' : Hp} {d t : Addr} {od : Obj} {u : HO} {xs : List V} (hd : H' d = some (.frz od u)) (h : H' t = some (.tup xs)) : upd H' d u t = some (.tup xs) := by
  rw [upd_ne (fun z => by rw [z, hd] at h; cases h)]
  exact h
/-- dict([(k, ..) for k in d]) -/
theorem dk_go {σ : L2.St} {H : Hp} {Q : VK} {i n : Nat} {d : Addr} {kvs : List (Key × V)} {ws : List Str} {te2 : TE} (hi : σ[i]? = some (some (.ref d))) (hd : H d = some (.dK kvs)) (hk : kvs.map (·.1) = ws.map Sum.inr) (hnd : ws.Nodup) (hn : n < (wipe σ [n]).length) (hl : ws.length ≤ 1000)
    (Rel : Str → V → Hp → Prop) (mono : ∀ k y H1 H2, Ex H1 H2 → Rel k y H1 → Rel k y H2) (ne : ∀ k y H1 p o, (∀ xs, H1 p ≠ some (.tup xs)) → Rel k y H1 → Rel k y (upd H1 p o))
    (hte : ∀ od k H', k ∈ ws → Ex (upd H d (.frz od (.dK kvs))) H' → ∀ Q' : VK, (∀ y H'', Ex H' H'' → Rel k y H'' → Q' y H'') → te2 ((wipe σ [n]).set n (some (.str k))) H' Q')
    (q : ∀ p H' (out : List (Key × V)), Ex H H' → H p = none → H' p = some (.dK out) → out.map (·.1) = ws.map Sum.inr → (∀ kv ∈ out, ∃ k ∈ ws, kv.1 = Sum.inr k ∧ Rel k kv.2 H') → Q (.ref p) H') :
    tCB (fun xs H_1 Q => ∃ a ps kvs, xs = [V.ref a] ∧ SqL K H_1 a (List.map V.ref ps) ∧ Paired (fun p kv => SqT K H_1 p [kV kv.fst, kv.snd]) ps kvs ∧ ∀ (p : Addr), H_1 p = none → Q (V.ref p) (upd H_1 p (HO.dK (mergeK [] kvs))))
      (tCons (tLockE (tLc (iKeys (tVar i)) (gName n) tYes (tTup (tCons (tVar n) (tCons te2 tNil))) [n])) tNil) σ H Q := by
  refine ⟨d, _, hd, trivial, fun od => ⟨_, hi, d, od, rfl, .inl ⟨kvs, upd_same, fun D nD => ?_⟩⟩⟩
  have dD : D ≠ d := fun z => by rw [z, upd_same] at nD; cases nD
  have hlen : kvs.length = ws.length := by have := congrArg List.length hk; simpa using this
  refine lc_it walk_keys (fun i H' => ∃ (ps : List Addr) (out : List (Key × V)), Ex (upd H d (.frz od (.dK kvs))) H' ∧ H' D = some (.lst (ps.map V.ref)) ∧ Paired (fun p kv => H' p = some (.tup [kV kv.1, kv.2])) ps out ∧ out.map (·.1) = (ws.take i).map Sum.inr ∧ (∀ kv ∈ out, ∃ k ∈ ws, kv.1 = Sum.inr k ∧ Rel k kv.2 H') ∧ ps.length = i) ⟨[], [], exn nD, upd_same, .nil, rfl, fun _ h => (nomatch h), rfl⟩ ?_ ?_ ?_
  · rintro j H' _ ⟨_, _, e1, _⟩
    exact e1 _ _ upd_same
  · rintro j x H' H'' hj ⟨ps, out, e1, h1, pr, ok, rel, pl⟩ ⟨rfl, k, v, hkv, rfl⟩
    have hw : ∃ kk, ws[j]? = some kk ∧ k = Sum.inr kk := by
      have h2 : (ws.map (Sum.inr : Str → Key))[j]? = some k := by rw [← hk, List.getElem?_map, hkv]; rfl
      rw [List.getElem?_map] at h2
      cases hz : ws[j]? with
      | none => rw [hz] at h2; cases h2
      | some kk => rw [hz] at h2; exact ⟨kk, rfl, (Option.some.inj h2).symm⟩
    obtain ⟨kk, hz, rfl⟩ := hw
    have hj' : j < ws.length := (List.getElem?_eq_some_iff.mp hz).1
    have g1 : ((wipe σ [n]).set n (some (.str kk)))[n]? = some (some (.str kk)) := by simp [List.getElem?_set, hn]
    refine ⟨wipe_set, _, g1, ?_⟩
    refine hte od kk H'' (List.mem_of_getElem? hz) e1 _ fun y H3 e3 r3 => ?_
    refine ⟨by show (2 : Nat) ≤ sizeLine; decide, fun t nt => ?_⟩
    have e4 := exn (o := .tup [.str kk, y]) nt
    have hD3 := e3 _ _ h1
    have hD4 := e4 _ _ hD3
    have tD : t ≠ D := (ne_of_none hD3 nt).symm
    have lD : ∀ xs, upd H3 t (.tup [.str kk, y]) D ≠ some (.tup xs) := fun xs z => by rw [hD4] at z; cases z
    refine ⟨_, hD4, ?_, ps ++ [t], out ++ [(Sum.inr kk, y)], ?_, ?_, ?_, ?_, ?_, ?_⟩
    · rw [List.length_map, pl, sizeLine_eq]; omega
    · exact exm (ext (ext e1 e3) e4) nD
    · rw [upd_same, List.map_append]; rfl
    · refine Paired.snoc (Paired.mapP pr fun p kv h => ?_) ?_
      · have h' := e4 _ _ (e3 _ _ h)
        rw [upd_ne (fun z => by rw [z] at h'; exact lD _ h')]
        exact h'
      · rw [upd_ne tD, upd_same]
        rfl
    · rw [List.map_append, ok, List.take_add_one, hz]
      simp
    · intro kv hkv
      rcases List.mem_append.mp hkv with h | h
      · obtain ⟨k, kw, z, r⟩ := rel kv h
        exact ⟨k, kw, z, ne _ _ _ _ _ lD (mono _ _ _ _ (ext e3 e4) r)⟩
      · rw [List.mem_singleton.mp h]
        exact ⟨kk, List.mem_of_getElem? hz, rfl, ne _ _ _ _ _ lD (mono _ _ _ _ e4 r3)⟩
    · rw [List.length_append, pl]; rfl
  · rintro H' ⟨ps, out, e1, h1, pr, ok, rel, pl⟩
    rw [hlen, List.take_length] at ok
    have hdd := e1 _ _ (upd_same (H := H) (a := d))
    refine ⟨hdd, D, ps, out, rfl, SqL.of (by rw [upd_ne dD]; exact h1), Paired.mapP pr fun p kv h => SqT.of (tup_unlock hdd h), fun p np => ?_⟩
    rw [merge_nil (by rw [ok]; exact nodup_inr hnd)]
    have e2 := unlockD hd e1
    have e3 := exn (o := .dK out) np
    refine q p _ out (ext e2 e3) (exb e2 np) upd_same ok fun kv hkv => ?_
    obtain ⟨k, kw, z, r⟩ := rel kv hkv
    exact ⟨k, kw, z, mono _ _ _ _ e3 (ne _ _ _ _ _ (fun xs z => by rw [hdd] at z; cases z) r)⟩
theorem nodup_eq {α : Type} {f : α → Str} {l : List α} (h : (l.map f).Nodup) {x y : α} (hx : x ∈ l) (hy : y ∈ l) (e : f x = f y) : x = y := by
  induction l with
  | nil => cases hx
  | cons a r ih =>
    rw [List.map_cons, List.nodup_cons] at h
    rcases List.mem_cons.mp hx with zx | hx'
    · rcases List.mem_cons.mp hy with zy | hy'
      · rw [zx, zy]
      · exact absurd (by rw [← zx, e]; exact List.mem_map_of_mem hy') h.1
    · rcases List.mem_cons.mp hy with zy | hy'
      · exact absurd (by rw [← zy, ← e]; exact List.mem_map_of_mem hx') h.1
      · exact ih h.2 hx' hy'
theorem ents_of {H : Hp} {es : List Ent} {f : List Str → List Str} (hn : (es.map (·.1)).Nodup) : ∀ (out : List (Key × V)) (es' : List Ent), (∀ e ∈ es', e ∈ es) → out.map (·.1) = (es'.map (·.1)).map Sum.inr →
    (∀ kv ∈ out, ∃ k ∈ es.map (·.1), kv.1 = Sum.inr k ∧ ∃ (e : Ent) (t : Addr), e ∈ es ∧ e.1 = k ∧ kv.2 = .ref t ∧ H t = some (.tup ((f e.2.1).map V.str))) →
    ∃ esL : List Ent, out = esL.map rKV ∧ (esL.map dat = es'.map fun e => (e.1, f e.2.1)) ∧ ∀ e ∈ esL, H e.2.2 = some (.tup (e.2.1.map V.str))
  | [], es', _, h, _ => by
    have : es' = [] := by
      cases es' with
      | nil => rfl
      | cons a r => simp at h
    subst this
    exact ⟨[], rfl, rfl, fun _ h => (nomatch h)⟩
  | kv :: r, es', hs, h, hr => by
    cases es' with
    | nil => simp at h
    | cons a s =>
      simp only [List.map_cons, List.cons.injEq] at h
      obtain ⟨k, _, z, e, t, he, hk, hv, ht⟩ := hr kv List.mem_cons_self
      have ha := hs a List.mem_cons_self
      have ea : e = a := nodup_eq hn he ha (by rw [hk]; exact Sum.inr.inj (z.symm.trans h.1))
      subst ea
      obtain ⟨esL, h1, h2, h3⟩ := ents_of hn r s (fun e he => hs e (List.mem_cons_of_mem _ he)) h.2 fun kv hkv => hr kv (List.mem_cons_of_mem _ hkv)
      refine ⟨(e.1, f e.2.1, t) :: esL, ?_, ?_, ?_⟩
      · rw [List.map_cons, h1]
        congr 1
        exact Prod.ext h.1 hv
      · rw [List.map_cons, h2, List.map_cons]
        rfl
      · intro x hx
        rcases List.mem_cons.mp hx with rfl | hx
        · exact ht
        · exact h3 x hx
theorem sts_of {ss : List (Str × Str)} {f : Str → Str} (hn : (ss.map (·.1)).Nodup) : ∀ (out : List (Key × V)) (ss' : List (Str × Str)), (∀ e ∈ ss', e ∈ ss) → out.map (·.1) = (ss'.map (·.1)).map Sum.inr →
    (∀ kv ∈ out, ∃ k ∈ ss.map (·.1), kv.1 = Sum.inr k ∧ ∃ e : Str × Str, e ∈ ss ∧ e.1 = k ∧ kv.2 = .str (f e.2)) → out = (ss'.map fun e => (e.1, f e.2)).map sKV
  | [], ss', _, h, _ => by
    have : ss' = [] := by
      cases ss' with
      | nil => rfl
      | cons a r => simp at h
    subst this
    rfl
  | kv :: r, ss', hs, h, hr => by
    cases ss' with
    | nil => simp at h
    | cons a s =>
      simp only [List.map_cons, List.cons.injEq] at h
      obtain ⟨k, _, z, e, he, hk, hv⟩ := hr kv List.mem_cons_self
      have ha := hs a List.mem_cons_self
      have ea : e = a := nodup_eq hn he ha (by rw [hk]; exact Sum.inr.inj (z.symm.trans h.1))
      subst ea
      have h1 := sts_of hn r s (fun e he => hs e (List.mem_cons_of_mem _ he)) h.2 fun kv hkv => hr kv (List.mem_cons_of_mem _ hkv)
      rw [List.map_cons, List.map_cons, ← h1]
      congr 1
      exact Prod.ext h.1 hv
theorem SrtE.mem {es es' : List Ent} (h : SrtE es es') (hn : (es.map (·.1)).Nodup) {x : Ent} : x ∈ es' ↔ x ∈ es := ⟨h.sub x, fun hx => by
  have : x.1 ∈ es'.map (·.1) := h.pm.mem_iff.mpr (List.mem_map_of_mem hx)
  obtain ⟨y, hy, e⟩ := List.mem_map.mp this
  rw [nodup_eq hn hx (h.sub y hy) e.symm]
  exact hy⟩
theorem SrtS.mem {es es' : List (Str × Str)} (h : SrtS es es') (hn : (es.map (·.1)).Nodup) {x : Str × Str} : x ∈ es' ↔ x ∈ es := ⟨h.sub x, fun hx => by
  have : x.1 ∈ es'.map (·.1) := h.pm.mem_iff.mpr (List.mem_map_of_mem hx)
  obtain ⟨y, hy, e⟩ := List.mem_map.mp this
  rw [nodup_eq hn hx (h.sub y hy) e.symm]
  exact hy⟩
theorem SrtE.nd {es es' : List Ent} (h : SrtE es es') (hn : (es.map (·.1)).Nodup) : (es'.map (·.1)).Nodup := h.pm.nodup_iff.mpr hn
theorem SrtS.nd {es es' : List (Str × Str)} (h : SrtS es es') (hn : (es.map (·.1)).Nodup) : (es'.map (·.1)).Nodup := h.pm.nodup_iff.mpr hn
theorem SrtE.look {es es' : List Ent} (h : SrtE es es') (hn : (es.map (·.1)).Nodup) {k : Str} (hk : k ∈ es.map (·.1)) : look (es'.map dat) k = look (es.map dat) k := by
  obtain ⟨x, hx, rfl⟩ := List.mem_map.mp hk
  rw [look_at hn hx, look_at (h.nd hn) ((h.mem hn).mpr hx)]
theorem putL_congr {d1 d2 : List (Str × List Str)} : ∀ {row : List Str}, (∀ k ∈ row, look d1 k = look d2 k) → putL d1 row = putL d2 row
  | [], _ => rfl
  | a :: r, h => by
    show look d1 a ++ putL d1 r = look d2 a ++ putL d2 r
    rw [h a List.mem_cons_self, putL_congr fun k hk => h k (List.mem_cons_of_mem _ hk)]
theorem u_cat {t1 t2 t3 : TE} {r1 r2 : R2} {u v : TS} {D : Ends} {σ : L2.St} {H : Hp} (h : t1 σ H fun x H1 => t2 σ H1 fun y H2 => r2 x y H2 fun z H3 => t3 σ H3 fun z' H4 => r1 z z' H4 fun b H5 => ∃ k, b = .bl k ∧ if k = true then u D σ H5 else v D σ H5) : tIfS (tTest (tOp r1 (tOp r2 t1 t2) t3)) u v D σ H := h
theorem u_if {t1 t3 : TE} {r1 : R2} {u v : TS} {D : Ends} {σ : L2.St} {H : Hp} (h : t1 σ H fun z H3 => t3 σ H3 fun z' H4 => r1 z z' H4 fun b H5 => ∃ k, b = .bl k ∧ if k = true then u D σ H5 else v D σ H5) : tIfS (tTest (tOp r1 t1 t3)) u v D σ H := h
theorem u_asg {te : TE} {g : TG} {u : TS} {D : Ends} {σ : L2.St} {H : Hp} (h : te σ H fun x H1 => g x σ H1 (u D)) : tSeq (tAsg te g) u D σ H := h
theorem u_asg1 {te : TE} {g : TG} {D : Ends} {σ : L2.St} {H : Hp} (h : te σ H fun x H1 => g x σ H1 D.nx) : tAsg te g D σ H := h
theorem wd_size {x : Str} (h : Wd x) : x.cps.size ≤ 1000 := by
  have := h.hi
  rw [Array.length_toList] at this
  omega
theorem u_or {t1 t2 : TE} {u v : TS} {D : Ends} {σ : L2.St} {H : Hp} (h : t1 σ H fun x H1 => ∃ k, x = .bl k ∧ if k = true then (if true = true then u D σ H1 else v D σ H1) else t2 σ H1 fun x H2 => ∃ k, x = .bl k ∧ if k = true then u D σ H2 else v D σ H2) : tIfS (tOr (tTest t1) (tTest t2)) u v D σ H := h
theorem u_seq {t u : TS} {D : Ends} {σ : L2.St} {H : Hp} (h : t { D with nx := u D } σ H) : tSeq t u D σ H := h
theorem look_none {ds : List (Str × List Str)} {k : Str} (h : k ∉ ds.map (·.1)) : look ds k = [] := by
  unfold look
  rw [List.find?_eq_none.mpr fun x hx => by
    simp only [decide_eq_true_eq]
    exact fun z => h (List.mem_map.mpr ⟨x, hx, z⟩)]
  rfl
theorem eqv_refl_strs : ∀ ws : List Str, PyData.eqv (.tuple (ws.map PyData.str)) (.tuple (ws.map PyData.str)) = true := fun ws => by
  rw [PyData.eqv]
  induction ws with
  | nil => rfl
  | cons a r ih => simp only [List.map_cons, PyData.eqvAll, ih, PyData.eqv, Bool.and_true]; simp
theorem cutV_1 {ws : List Str} : cutV (ws.map V.str) (some 1) none = (ws.drop 1).map V.str := by
  unfold cutV
  rw [show HT.sIx (ws.map V.str).length 0 (some 1) = min 1 (ws.map V.str).length from HT.sIx_nat _ _ 1, HT.sIx_none]
  rw [List.map_drop]
  cases ws with
  | nil => rfl
  | cons a r =>
    rw [show min 1 (List.map V.str (a :: r)).length = 1 from by simp]
    rw [List.take_of_length_le (by simp)]
theorem u_next {u bk ct : L2.St → Hp → Prop} {rt : VK} {σ : L2.St} {H : Hp} (h : u σ H) : tNext { nx := u, rt := rt, bk := bk, ct := ct } σ H := h
theorem asg3 {t1 t2 t3 : TE} {g : TG} {u : TS} {D : Ends} {σ : L2.St} {H : Hp} (h : t1 σ H fun x H1 => t2 σ H1 fun y H2 => t3 σ H2 fun z H3 => [x, y, z].length ≤ sizeLine ∧ ∀ p, H3 p = none → g (.ref p) σ (upd H3 p (.tup [x, y, z])) fun σ' H' => u D σ' H') : tSeq (tAsg (tTup (tCons t1 (tCons t2 (tCons t3 tNil)))) g) u D σ H := h
theorem _root_.Sn.Sts.exN {H H' : Hp} {p : Addr} {ss : List (Str × Str)} (h : Sts H p ss) (x : ExtN H H') : Sts H' p ss := x _ _ h (fun _ z => by cases z)
/-- dicts of rows, of texts, are not the source of draws -/
theorem _root_.Sn.Rws.ns {H : Hp} {sa la ca p : Addr} {T : Nat} {es : List Ent} (D : Dr H sa la ca T) (R : Rws H p es) : p ≠ sa ∧ p ≠ la := by
  obtain ⟨⟨ls, cs, r, t, a, b, _⟩, _⟩ := D
  constructor
  · intro z
    have h := R.1
    rw [z, a] at h
    have h2 : dkv la ca r t = es.map rKV := by injection (Option.some.inj h)
    match es, h2 with
    | [], h2 => cases h2
    | [_], h2 => exact absurd (congrArg List.length h2) (by simp [dkv])
    | [_, _], h2 => exact absurd (congrArg List.length h2) (by simp [dkv])
    | _ :: _ :: e :: _, h2 =>
      have h3 := congrArg (fun l => (l[2]?).map (·.2)) h2
      have h4 : (some (V.int r) : Option V) = some (V.ref e.2.2) := h3
      cases h4
  · intro z
    have h := R.1
    rw [z, b] at h
    cases h
theorem _root_.Sn.Sts.ns {H : Hp} {sa la ca p : Addr} {T : Nat} {ss : List (Str × Str)} (D : Dr H sa la ca T) (R : Sts H p ss) : p ≠ sa ∧ p ≠ la := by
  obtain ⟨⟨ls, cs, r, t, a, b, _⟩, _⟩ := D
  constructor
  · intro z
    have h : H p = _ := R
    rw [z, a] at h
    have h2 : dkv la ca r t = ss.map sKV := by injection (Option.some.inj h)
    match ss, h2 with
    | [], h2 => cases h2
    | e :: _, h2 =>
      have h3 := congrArg (fun l => (l[0]?).map (·.2)) h2
      have h4 : (some (V.ref la) : Option V) = some (V.str e.2) := h3
      cases h4
  · intro z
    have h : H p = _ := R
    rw [z, b] at h
    cases h
theorem _root_.Sn.Rws.cutE {H H' : Hp} {sa la ca p : Addr} {T : Nat} {es : List Ent} (R : Rws H p es) (D : Dr H sa la ca T) (e : Ex (cut H sa la) H') : Rws H' p es := ⟨cut_to e R.1 (R.ns D).1 (R.ns D).2, fun x hx => cut_to e (R.2 x hx) (D.tn (R.2 x hx)).1 (D.tn (R.2 x hx)).2⟩
theorem _root_.Sn.Sts.cutE {H H' : Hp} {sa la ca p : Addr} {T : Nat} {ss : List (Str × Str)} (R : Sts H p ss) (D : Dr H sa la ca T) (e : Ex (cut H sa la) H') : Sts H' p ss := cut_to e R (R.ns D).1 (R.ns D).2
theorem _root_.Sn.Dr.inn {H : Hp} {sa la ca p C dx : Addr} {T : Nat} {fs : List (Str × V)} (D : Dr H sa la ca T) (h : H p = some (.ins C dx fs)) : p ≠ sa ∧ p ≠ la := by
  obtain ⟨⟨_, _, _, _, a, b, _⟩, _⟩ := D
  exact ⟨fun z => (by rw [z, a] at h; cases h), fun z => (by rw [z, b] at h; cases h)⟩
theorem pe_weak {X : Cx} {e : Expr} {t t' : TE} (h : PE X e t) (k : ∀ σ H Q, t' σ H Q → t σ H Q) : PE X e t' := ⟨fun pins s σ H Q I q => h.run pins s σ H Q I (k σ H Q q)⟩
/-- lift(x) of two names -/
def tCO (C : Addr) (sp : Sp) (i j : Nat) (E : XK) : TE := fun σ H Q => ∃ (a : Addr) (r : V), σ[i]? = some (some (.ref a)) ∧ σ[j]? = some (some r) ∧ (∃ dx fs, H a = some (.ins C dx fs)) ∧ sp [.ref a, r] H Q E
theorem co_of {X : Cx} {C : Addr} {sp : Sp} {i j : Nat} {E : XK} : ∀ σ H Q, tCO C sp i j E σ H Q → StX.tCallO X C sp E (tVar i) (tCons (tVar j) tNil) σ H Q := by
  rintro σ H Q ⟨a, r, h1, h2, h3, h⟩
  exact ⟨_, h1, a, rfl, _, h2, .inr h3, h⟩
theorem catA {H : Hp} {Q : VK} {a b : Addr} {xs ys : List V} (ha : H a = some (.tup xs)) (hb : H b = some (.tup ys)) (hl : xs.length + ys.length ≤ sizeLine) (q : ∀ p H', Ex H H' → H' p = some (.tup (xs ++ ys)) → Q (.ref p) H') : rCatA K (.ref a) (.ref b) H Q :=
  ⟨a, b, xs, ys, rfl, rfl, SqT.of ha, SqT.of hb, hl, fun z => q b H exr (by rw [z]; exact hb), fun _ z => q a H exr (by rw [z, List.append_nil]; exact ha), fun _ _ p np => q p _ (exn np) upd_same⟩
theorem slA {H : Hp} {Q : VK} {a : Addr} {xs : List V} {lo hi : Option Int} (ha : H a = some (.tup xs)) (q : ∀ p H', Ex H H' → H' p = some (.tup (cutV xs lo hi)) → Q (.ref p) H') : rSlA K (.ref a) lo hi H Q :=
  ⟨a, xs, rfl, SqT.of ha, fun z => q a H exr (by
    unfold cutV
    rw [z.1, z.2, List.drop_zero, List.take_of_length_le (by simp)]
    exact ha), fun _ p np => q p _ (exn np) upd_same⟩
theorem cut_lo {xs : List V} {n : Nat} (h : n ≤ xs.length) : cutV xs none (some (n : Int)) = xs.take n := by
  unfold cutV
  rw [HT.sIx_none, HT.sIx_nat, Nat.min_eq_left h]
  simp
theorem cut_hi {xs : List V} {n : Nat} (h : n ≤ xs.length) : cutV xs (some (n : Int)) none = xs.drop n := by
  unfold cutV
  rw [HT.sIx_none, HT.sIx_nat, Nat.min_eq_left h, List.take_of_length_le (by simp)]
/-- told is what is due -/
theorem eq_tup2 {H : Hp} {Q : VK} {p q : Addr} {s : Str} {v : V} {d : PyData} (hp : H p = some (.tup [.str s, v])) (hq : H q = some (.tup [.str s, v])) (hd : Dp K H v d) (sh : SeqAt.shaped (.tuple [.str s, d]) = true) (ev : PyData.eqv d d = true) (k : Q (.bl false) H) : rNeD K (.ref p) (.ref q) H Q := by
  refine ⟨_, _, .tup (SqT.of hp) (.cons (.str _) (.cons hd .nil)), .tup (SqT.of hq) (.cons (.str _) (.cons hd .nil)), sh, sh, ?_⟩
  have : PyData.eqv (.tuple [.str s, d]) (.tuple [.str s, d]) = true := by simp [PyData.eqv, PyData.eqvAll, ev]
  rw [this]
  exact k
theorem sh_int {s : Str} {n : Int} (h : (PyData.str s).canLay0 = true) : SeqAt.shaped (.tuple [.str s, .int n]) = true := shaped_tup fun d hd => by
  rcases List.mem_cons.mp hd with rfl | hd
  · exact ⟨h, by simp [PyData.depth]⟩
  · rw [List.mem_singleton.mp hd]
    simp [PyData.canLay0, PyData.depth]
theorem neD_refl {H : Hp} {Q : VK} {p q : Addr} {ws : List Str} (hp : H p = some (.tup (ws.map V.str))) (hq : H q = some (.tup (ws.map V.str))) (hw : ∀ x ∈ ws, Wd x) (k : Q (.bl false) H) : rNeD K (.ref p) (.ref q) H Q := by
  refine ⟨_, _, dp_strsT (SqT.of hp), dp_strsT (SqT.of hq), shaped_wordsT hw, shaped_wordsT hw, ?_⟩
  rw [eqv_refl_strs]
  exact k
theorem v_or {t1 : TE} {c2 : TT} {u v : TS} {D : Ends} {σ : L2.St} {H : Hp} (h : t1 σ H fun x H1 => ∃ k, x = .bl k ∧ if k = true then (if true = true then u D σ H1 else v D σ H1) else c2 σ H1 fun b H2 => if b = true then u D σ H2 else v D σ H2) : tIfS (tOr (tTest t1) c2) u v D σ H := h
theorem v_and {t1 t2 : TE} {u v : TS} {D : Ends} {σ : L2.St} {H : Hp} (h : t1 σ H fun x H1 => ∃ k, x = .bl k ∧ if k = true then (t2 σ H1 fun y H2 => ∃ k, y = .bl k ∧ if k = true then u D σ H2 else v D σ H2) else (if false = true then u D σ H1 else v D σ H1)) : tIfS (tAnd (tTest t1) (tTest t2)) u v D σ H := h
theorem v_or2 {t1 : TE} {c2 : TT} {Q : Bool → Hp → Prop} {σ : L2.St} {H : Hp} (h : t1 σ H fun x H1 => ∃ k, x = .bl k ∧ if k = true then Q true H1 else c2 σ H1 Q) : tOr (tTest t1) c2 σ H Q := h
theorem v_op {r : R2} {ta tb : TE} {σ : L2.St} {H : Hp} {Q : VK} (h : ta σ H fun x H1 => tb σ H1 fun y H2 => r x y H2 Q) : tOp r ta tb σ H Q := h
theorem rep2 {Q : VK} {p : Addr} {xs : List V} {k : Nat} (hp : H p = some (.tup xs)) (hl : xs.length ≤ 1000) (k1 : 2 ≤ k) (k2 : k ≤ 1000) (q : ∀ p H', Ex H H' → H' p = some (.tup (List.replicate k xs).flatten) → Q (.ref p) H') : rRepT K (.ref p) (.int (k : Int)) H Q ∨ rRepS K (.ref p) (.int (k : Int)) H Q := by
  by_cases hx : xs = []
  · subst hx
    refine .inr ⟨p, k, _, rfl, rfl, SqT.of hp, .inl rfl, by omega, by omega, q p H exr ?_⟩
    rw [hp]
    congr 2
    clear k1 k2 q
    induction k with
    | zero => rfl
    | succ k ih => rw [List.replicate_succ, List.flatten_cons, List.nil_append]; exact ih
  · refine .inl ⟨p, k, _, rfl, rfl, SqT.of hp, hx, by omega, by omega, hl, fun p' np => ?_⟩
    exact q p' _ (exn np) (by rw [upd_same, Int.toNat_natCast])
theorem put_rep {ds : List (Str × List Str)} {r : List Str} : ∀ k : Nat, putL ds (List.replicate k r).flatten = (List.replicate k (putL ds r)).flatten
  | 0 => rfl
  | k + 1 => by
    have ih := put_rep (ds := ds) (r := r) k
    rw [List.replicate_succ, List.flatten_cons, List.replicate_succ, List.flatten_cons, ← ih]
    unfold putL
    rw [List.flatMap_append]
theorem rep_str {r : List Str} {k : Nat} : (List.replicate k (r.map V.str)).flatten = ((List.replicate k r).flatten).map V.str := by
  rw [List.map_flatten, List.map_replicate]
theorem rep_mem {r : List Str} {x : Str} : ∀ {k : Nat}, x ∈ (List.replicate k r).flatten → x ∈ r
  | 0, h => by cases h
  | k + 1, h => by
    rw [List.replicate_succ, List.flatten_cons] at h
    exact (List.mem_append.mp h).elim id rep_mem
theorem rep_len {r : List Str} : ∀ {k : Nat}, ((List.replicate k r).flatten).length = k * r.length
  | 0 => by simp
  | k + 1 => by
    rw [List.replicate_succ, List.flatten_cons, List.length_append, rep_len, Nat.succ_mul]
    omega
theorem u_nx {u bk ct : L2.St → Hp → Prop} {rt : VK} {σ : L2.St} {H : Hp} (h : u σ H) : ({ nx := u, rt := rt, bk := bk, ct := ct } : Ends).nx σ H := h
theorem strs_ns {H : Hp} {sa la ca p : Addr} {T : Nat} {ks : List Str} (D : Dr H sa la ca T) (h : H p = some (.lst (ks.map V.str))) (k0 : ks ≠ []) : p ≠ sa ∧ p ≠ la := by
  obtain ⟨⟨ls, cs, r, t, a, b, _⟩, _⟩ := D
  constructor
  · intro z
    rw [z, a] at h
    cases h
  · intro z
    rw [z, b] at h
    have h2 : ls.map V.int = ks.map V.str := by injection (Option.some.inj h)
    match ls, ks, h2, k0 with
    | [], [], _, k0 => exact k0 rfl
    | [], _ :: _, h2, _ => simp at h2
    | _ :: _, [], h2, _ => simp at h2
    | a :: _, b :: _, h2, _ => simp at h2
theorem TabS.none {H : Hp} {P : Addr} {q : Str} (h : H P = some (.tbl #[])) : TabS H P q := ⟨#[], h, trivial, fun _ _ z => by cases z⟩
theorem FunT.binds {K : PySem.W.Frag} {x qual : Str} {st : Stmt} {f c : Addr} {fd : FuncData} {ps : List Str} (F : FunT K x qual st f fd c)
    (h : ∀ (kV doc pm : Value) (an : Option Addr) (cdv ct : Value) (us : List Value), us.length = ps.length → bindArgs (PySem.W.fnOf x qual (defArgs st) (defBody st) (defScope st) .none kV doc pm an cdv ct) ⟨us, []⟩ = pure (ps.zip us)) : Binds K fd ps [] := by
  obtain ⟨oc, od, kV, doc, pm, an, ct, osl, rfl, lk, hcd⟩ := F.ex
  exact .all (h kV doc pm an (.ref c) ct)
/-- something that is no kind -/
def Odd (H : Hp) (x : V) : Prop := x = .non ∨ (∃ i, x = .int i) ∨ (∃ s, x = .str s ∧ ¬ Wd s) ∨ ∃ p, x = .ref p ∧ (H p = some (.tup [.str "a"]) ∨ H p = some (.lst []) ∨ H p = some (.dK []))
def Off (sa la : Addr) (x : V) : Prop := ∀ p, x = .ref p → p ≠ sa ∧ p ≠ la
theorem Odd.map {x : V} (h : Odd H x) (k : ∀ p o, x = .ref p → H p = some o → (∀ ps, o ≠ .tbl ps) → H' p = some o) : Odd H' x := by
  rcases h with h | h | h | ⟨p, rfl, h⟩
  · exact .inl h
  · exact .inr (.inl h)
  · exact .inr (.inr (.inl h))
  · refine .inr (.inr (.inr ⟨p, rfl, ?_⟩))
    rcases h with h | h | h
    · exact .inl (k _ _ rfl h (fun _ z => by cases z))
    · exact .inr (.inl (k _ _ rfl h (fun _ z => by cases z)))
    · exact .inr (.inr (k _ _ rfl h (fun _ z => by cases z)))
theorem Odd.itm {x : V} (h : Odd H x) : Itm K H x := by
  rcases h with rfl | ⟨i, rfl⟩ | ⟨s, rfl, _⟩ | ⟨p, rfl, h⟩
  · exact .inr ⟨_, .base .non, kit_ty (by decide +kernel)⟩
  · exact .inr ⟨_, .base (.int i), kit_ty (by decide +kernel)⟩
  · exact .inl ⟨s, rfl⟩
  · rcases h with h | h | h
    · exact .inr ⟨_, .base (.tup h), kit_ty (by decide +kernel)⟩
    · exact .inr ⟨_, .base (.lst h), kit_ty (by decide +kernel)⟩
    · exact .inr ⟨_, .base (.dK h), kit_ty (by decide +kernel)⟩
theorem Odd.bad {x : V} (h : Odd H x) {ks : List Str} (hk : ∀ y ∈ ks, Wd y) : good ks x = false := by
  rcases h with rfl | ⟨i, rfl⟩ | ⟨s, rfl, hs⟩ | ⟨p, rfl, h⟩
  · rfl
  · rfl
  · exact decide_eq_false fun z => hs (hk s z)
  · rfl
end
end Sn
namespace Sn
open Evl (Ex)
open PySem L2
def top (i : Nat) : Stmt := PySem.Challenge.pw_snaplifts_k10_lifts_that_fit.main.body.getD i (.Pass ⟨0, 0, 0, 0⟩)
abbrev s_NoKind___init : Stmt := inClass (top 4) 0
abbrev s_NoHistory___init : Stmt := inClass (top 9) 0
abbrev s_NotRight___init : Stmt := inClass (top 10) 0
abbrev s_is_word : Stmt := top 22
abbrev s_are_words : Stmt := top 23
abbrev s_is_goal : Stmt := top 24
abbrev s_are_steps : Stmt := top 25
abbrev s_are_tells : Stmt := top 26
abbrev s_Edition___init : Stmt := inClass (top 27) 0
abbrev s_Edition_kinds : Stmt := inClass (top 27) 1
abbrev s_Edition_states : Stmt := inClass (top 27) 2
abbrev s_Edition_start : Stmt := inClass (top 27) 3
abbrev s_Edition_steps : Stmt := inClass (top 27) 4
abbrev s_Edition_tells : Stmt := inClass (top 27) 5
abbrev s_Edition___call : Stmt := inClass (top 27) 6
abbrev s_Edition_led : Stmt := inClass (top 27) 7
abbrev s_Edition_told : Stmt := inClass (top 27) 8
abbrev s_Edition_least_rows : Stmt := inClass (top 27) 9
abbrev s_Edition_come : Stmt := inClass (top 27) 10
abbrev s_Edition_least : Stmt := inClass (top 27) 11
abbrev s_Edition___contains : Stmt := inClass (top 27) 12
abbrev s_Edition___len : Stmt := inClass (top 27) 13
abbrev s_Edition___eq : Stmt := inClass (top 27) 14
abbrev s_Edition___iter : Stmt := inClass (top 27) 15
abbrev s_need_row : Stmt := top 28
abbrev s_need_state : Stmt := top 29
abbrev s_need_edition : Stmt := top 30
abbrev s_is_lifted_row : Stmt := top 33
abbrev s_are_events : Stmt := top 34
abbrev s_are_snapshots : Stmt := top 35
abbrev s_Lift___init : Stmt := inClass (top 36) 0
abbrev s_Lift_events : Stmt := inClass (top 36) 1
abbrev s_Lift_snapshots : Stmt := inClass (top 36) 2
abbrev s_Lift___call : Stmt := inClass (top 36) 3
abbrev s_Lift_lifted : Stmt := inClass (top 36) 4
abbrev s_Lift_lifted_state : Stmt := inClass (top 36) 5
abbrev s_Lift_fits : Stmt := inClass (top 36) 6
abbrev s_Lift___rshift : Stmt := inClass (top 36) 7
abbrev s_Lift___eq : Stmt := inClass (top 36) 8
abbrev s_l_begun : Stmt := top 38
abbrev s_l_draw : Stmt := top 39
abbrev s_l_pick : Stmt := top 40
abbrev s_l_words : Stmt := top 41
abbrev s_l_row : Stmt := top 42
abbrev s_l_kinds : Stmt := top 43
abbrev s_l_any_told : Stmt := top 44
abbrev s_l_rows_for : Stmt := top 45
abbrev s_l_edition : Stmt := top 46
abbrev s_l_heard : Stmt := top 47
abbrev s_l_bent : Stmt := top 48
abbrev s_l_is_due : Stmt := top 49
abbrev s_law : Stmt := top 50
end Sn
/-! defs that show containers: nothing is being shown when they are called -/
namespace Sn
open Evl (Ex)
open PySem PySem.Spec PyProof.Rows L2 LamX
def Still (A : Around) : Prop := A.guards = some []
structure FnG (P : Program) (w : World) (K : PySem.W.Frag) (mg : Str → Option Value) (base : Heap) (CX : CXT) (k : Nat) (f : Addr) (fd : FuncData) (ps : List Str) (sp : Sp) : Prop where
  len : ∀ vs H Q E, sp vs H Q E → vs.length = ps.length
  run : ∀ (A : Around) (outer : List Env) (s : Shared) (H : Hp) (args : Args) (us : List Value) (vs : List V) (Q : VK) (E : XK), Still A → Room k A → Env0 P w K mg base A outer s H → BindsTo s fd args (ps.zip us) →
    Vals vs us → sp vs H Q E → codeAny (model P w) A (.call (.ref f) args) (CR CX outer P w H s Q E) s
section
variable {P : Program} {w : World} {K : PySem.W.Frag} {mg : Str → Option Value} {base : Heap} {CX : CXT} {k : Nat}
theorem fnG_of {f : Addr} {nm q : Str} {pa : Arguments} {bd : List Stmt} {sc : Scope} {dV kV dc pm cv ct oc : Value} {an od : Option Addr} {ol : Array (Option Value)} {N ps : List Str} {sp : Sp}
    (lk : K.lookup f = some ⟨oc, od, .func (PySem.W.fnOf nm q pa bd sc dV kV dc pm an cv ct), ol⟩) (hc : PySem.W.codeIn K cv q = true) (S : FnScope N ps sc) (len : ∀ vs H Q E, sp vs H Q E → vs.length = ps.length)
    (hb : ∀ (A : Around) (outer : List Env) (s : Shared) (H : Hp) (vs : List V) (Q : VK) (E : XK), Still (A.deeper (envOfC q sc s.heap.objs.size f cv)) → Room k (A.deeper (envOfC q sc s.heap.objs.size f cv)) → sp vs H Q E →
      ∃ t, PSs (cxOf CX P w K mg base N q sc f cv A outer s H E) bd t ∧ t { nx := fun _ H' => Q .non H', rt := Q } (L2.start N vs) H) :
    FnG P w K mg base CX (k + 1) f (PySem.W.fnOf nm q pa bd sc dV kV dc pm an cv ct) ps sp where
  len := len
  run := fun A outer s H args us vs Q E hg hr e0 bi r hs => by
    have KX : K.In s.heap := e0.mod.kin.keeps fun b o z => (e0.bs b o z).1
    have NL : s.heap.NoLimit := e0.mod.nolimit.keeps fun b o z => (e0.bs b o z).1
    refine codeAny_call_function hr.depth (KX _ _ lk) rfl S.co S.gen rfl (PySem.W.codeRec_of KX hc) (bi _ _ _ _ (wpAny_newFunctionEnv_cells S.kind (fun y hy => ?_) fun env he s1 x => ?_))
    · exact (S.par y.1 (List.of_mem_zip hy).1).elim .inl fun z => .inr ⟨z, PySem.W.cellsFrom_some _ _ _ (.inl z)⟩
    · subst he
      obtain ⟨t, ht, hq⟩ := hb A outer s H vs Q E hg (hr.deeper _) hs
      refine ⟨NL.keeps x.toInCall.keep, codeAny_func (wpAny_mono (ht.run [] s1 (L2.start N vs) H _ (inv_start S hr.hd e0 (len _ _ _ _ hs) r x) hq) (fun fl s' z => ?_) fun _ _ z => z)⟩
      match fl, z with
      | .ret _, ⟨v, _, H', J, rv, z⟩ => exact ⟨v, H', J.os, J.bare, J.base, J.hok, rv, z⟩
      | .next, ⟨_, H', J, z⟩ => exact ⟨.non, H', J.os, J.bare, J.base, J.hok, rfl, z⟩
      | .brk, ⟨_, _, _, z⟩ => exact z.elim
      | .cont, ⟨_, _, _, z⟩ => exact z.elim
theorem funG_ok {x q : Str} {st : Stmt} {f : Addr} {fd : FuncData} {N ps : List Str} {sp : Sp} (F : Fun K x q st f fd) (S : FnScope N ps (defScope st)) (len : ∀ vs H Q E, sp vs H Q E → vs.length = ps.length)
    (hb : ∀ (cv : Value) (A : Around) (outer : List Env) (s : Shared) (H : Hp) (vs : List V) (Q : VK) (E : XK), Still (A.deeper (envOfC q (defScope st) s.heap.objs.size f cv)) → Room k (A.deeper (envOfC q (defScope st) s.heap.objs.size f cv)) → sp vs H Q E →
      ∃ t, PSs (cxOf CX0 P w K mg base N q (defScope st) f cv A outer s H E).nox (defBody st) t ∧ t { nx := fun _ H' => Q .non H', rt := Q } (L2.start N vs) H) : FnG P w K mg base CX0 (k + 1) f fd ps sp := by
  obtain ⟨oc, od, kV, dc, pm, an, cv, ct, ol, rfl, lk, hc⟩ := F.ex
  exact fnG_of lk hc S len fun A outer s H vs Q E hg hr hs => let ⟨t, h, z⟩ := hb cv A outer s H vs Q E hg hr hs; ⟨t, h.nox, z⟩
theorem funTG_ok {x q : Str} {st : Stmt} {f c : Addr} {fd : FuncData} {N ps : List Str} {sp : Sp} (F : FunT K x q st f fd c) (S : FnScope N ps (defScope st)) (len : ∀ vs H Q E, sp vs H Q E → vs.length = ps.length)
    (hb : ∀ (A : Around) (outer : List Env) (s : Shared) (H : Hp) (vs : List V) (Q : VK) (E : XK), Still (A.deeper (envOfC q (defScope st) s.heap.objs.size f (.ref c))) → Room k (A.deeper (envOfC q (defScope st) s.heap.objs.size f (.ref c))) → sp vs H Q E →
      ∃ t, PSs (cxOf CX0 P w K mg base N q (defScope st) f (.ref c) A outer s H E).nox (defBody st) t ∧ t { nx := fun _ H' => Q .non H', rt := Q } (L2.start N vs) H) : FnG P w K mg base CX0 (k + 1) f fd ps sp := by
  obtain ⟨oc, od, kV, dc, pm, an, ct, ol, rfl, lk, hc⟩ := F.ex
  exact fnG_of lk hc S len fun A outer s H vs Q E hg hr hs => let ⟨t, h, z⟩ := hb A outer s H vs Q E hg hr hs; ⟨t, h.nox, z⟩
/-- a def of the module, by its name -/
structure CalG (P : Program) (w : World) (K : PySem.W.Frag) (mg : Str → Option Value) (base : Heap) (CX : CXT) (k : Nat) (x : Str) (ps : List Str) (sp : Sp) : Prop where
  ex : ∃ (f : Addr) (fd : FuncData), FnG P w K mg base CX k f fd ps sp ∧ Binds K fd ps [] ∧ mg x = some (.ref f) ∧ PySem.W.keepIn K (.ref f) = true
end
section
variable {X : Cx} {CX : CXT} {k : Nat}
theorem pcallG {x : Str} {ps : List Str} {sp : Sp} {p pos : Pos} {e : Expr} {es : List Expr} {t : TA} (c : CalG X.prog X.w X.K X.mg X.base CX0 k x ps sp) (hg : Still X.A) (hr : Room k X.A) (ha : PA X (e :: es) t) (gl : Gl X x := by rfl)
    (db : (x == ("__debug__" : Str)) = false := by decide) (he : starEach (e :: es) X.env = (false, eval e X.env) :: starEach es X.env := by rfl) (hp : (backTo pos (starEach es X.env)).any (·.1) = false := by rfl) :
    PE X (.Call (.Name x p) (e :: es) [] pos) (tCall sp [] E0 t) := by
  obtain ⟨f, fd, F, b, hm, hk⟩ := c.ex
  refine ⟨fun pins s σ H Q I h => wpAny_Call_Name_kw (ld_glob I gl hm ?_ db)⟩
  refine PySem.W.callWith_K (h₀ := X.base) I.ok.mod.kin hk (thn (ha.run pos pins s σ H _ I h) fun us s1 ⟨vs, H1, J, r, z⟩ => ⟨J.kIn, ?_⟩) he hp
  have r2 : Vals (vs ++ []) (us ++ []) := r.append .nil
  refine wpAny_call (codeAny_mono (F.run X.A X.stack s1 H1 ⟨us, []⟩ (us ++ []) (vs ++ []) Q E0 hg hr J.env0 (b s1 us J.kIn (by rw [← r2.length]; exact F.len _ _ _ _ z)) r2 z) fun u s' y => ?_)
  match u, y with
  | .error _, y => exact pass0 pins σ H1 s1 _ s' J y
  | .ok (.ret _), y => exact J.after y
  | .ok .next, y => exact y.elim
  | .ok .brk, y => exact y.elim
  | .ok .cont, y => exact y.elim
end
end Sn
/-! the engine: trees, a store of cells, mirrors -/
namespace Eg
open Evl (Ex)
open PySem L2 Sn LamX
/-- a value that is never changed -/
inductive D where
  | non | bl (b : Bool) | int (i : Int) | str (s : Str)
  | tup (xs : List D) | lst (xs : List D)
  | dic (kvs : List (Key × D)) | dit (kvs : List (List Key × D))
  | set (ks : List Str)
  | obj (C : Addr) (fs : List (Str × D))
/-- what a name may hold -/
inductive R where
  | d (x : D) | cell (n : Nat) | src | cls (a : Addr) | scr (ns : List Int)
/-- what is changed in place -/
inductive Ce where
  | lst (xs : List R) | dic (kvs : List (Key × R)) | dit (kvs : List (List Key × R)) | ins (C : Addr) (fs : List (Str × R)) | dead
def Ce.live : Ce → Bool
  | .dead => false
  | _ => true
structure Sto where
  cs : List Ce
  T : Nat
structure Cn where
  p : Program
  w : World
  k : PySem.W.Frag
  ts : List (Addr × Str)
mutual
/-- the value v is the tree, in the frozen heap F -/
inductive MV (c : Cn) (F : Hp) : D → V → Prop
  | non : MV c F .non .non
  | bl (b : Bool) : MV c F (.bl b) (.bl b)
  | int (i : Int) : MV c F (.int i) (.int i)
  | str (s : Str) : MV c F (.str s) (.str s)
  | tup {p : Addr} {vs : List V} {xs : List D} : SqT c.k F p vs → MVs c F xs vs → MV c F (.tup xs) (.ref p)
  | lst {p : Addr} {vs : List V} {xs : List D} : Rd F p (.lst vs) → MVs c F xs vs → MV c F (.lst xs) (.ref p)
  | dic {p : Addr} {o : Obj} {kw : List (Key × V)} {kvs : List (Key × D)} : F p = some (.frz o (.dK kw)) → kw.map (·.1) = kvs.map (·.1) → MVs c F (kvs.map (·.2)) (kw.map (·.2)) → MV c F (.dic kvs) (.ref p)
  | dit {p : Addr} {o : Obj} {kw : List (List Key × V)} {kvs : List (List Key × D)} : F p = some (.frz o (.dT kw)) → kw.map (·.1) = kvs.map (·.1) → MVs c F (kvs.map (·.2)) (kw.map (·.2)) → MV c F (.dit kvs) (.ref p)
  | set {p : Addr} {ks : List Str} : F p = some (SetX c.p c.w p ks) → MV c F (.set ks) (.ref p)
  | obj {p C dx : Addr} {vf : List (Str × V)} {fs : List (Str × D)} : F p = some (.ins C dx vf) → vf.map (·.1) = fs.map (·.1) → MVs c F (fs.map (·.2)) (vf.map (·.2)) → MV c F (.obj C fs) (.ref p)
inductive MVs (c : Cn) (F : Hp) : List D → List V → Prop
  | nil : MVs c F [] []
  | cons {x : D} {xs : List D} {v : V} {vs : List V} : MV c F x v → MVs c F xs vs → MVs c F (x :: xs) (v :: vs)
end
section
variable {c : Cn} {F F' : Hp}
theorem sqT_mono {K : PySem.W.Frag} {p : Addr} {vs : List V} (e : Ex F F') (h : SqT K F p vs) : SqT K F' p vs := by
  rcases h with (h | ⟨o, h⟩) | h
  · exact .inl (.inl (e _ _ h))
  · exact .inl (.inr ⟨o, e _ _ h⟩)
  · exact .inr h
theorem sqL_mono {K : PySem.W.Frag} {p : Addr} {vs : List V} (e : Ex F F') (h : SqL K F p vs) : SqL K F' p vs := by
  rcases h with (h | ⟨o, h⟩) | h
  · exact .inl (.inl (e _ _ h))
  · exact .inl (.inr ⟨o, e _ _ h⟩)
  · exact .inr h
theorem rd_mono {p : Addr} {u : HO} (e : Ex F F') (h : Rd F p u) : Rd F' p u := h.elim (fun h => .inl (e _ _ h)) fun ⟨o, h⟩ => .inr ⟨o, e _ _ h⟩
theorem MV.mono (e : Ex F F') {x : D} {v : V} (h : MV c F x v) : MV c F' x v := by
  refine MV.rec (motive_1 := fun x v _ => MV c F' x v) (motive_2 := fun xs vs _ => MVs c F' xs vs) .non .bl .int .str ?_ ?_ ?_ ?_ ?_ ?_ .nil ?_ h
  · exact fun a _ b => .tup (sqT_mono e a) b
  · exact fun a _ b => .lst (rd_mono e a) b
  · exact fun a b _ d => .dic (e _ _ a) b d
  · exact fun a b _ d => .dit (e _ _ a) b d
  · exact fun a => .set (e _ _ a)
  · exact fun a b _ d => .obj (e _ _ a) b d
  · exact fun _ _ a b => .cons a b
theorem MVs.mono (e : Ex F F') : ∀ {xs : List D} {vs : List V}, MVs c F xs vs → MVs c F' xs vs
  | _, _, .nil => .nil
  | _, _, .cons a b => .cons (a.mono e) (b.mono e)
theorem MVs.len : ∀ {xs : List D} {vs : List V}, MVs c F xs vs → xs.length = vs.length
  | _, _, .nil => rfl
  | _, _, .cons _ b => by rw [List.length_cons, List.length_cons, b.len]
theorem MVs.app : ∀ {xs ys : List D} {vs ws : List V}, MVs c F xs vs → MVs c F ys ws → MVs c F (xs ++ ys) (vs ++ ws)
  | _, _, _, _, .nil, h => h
  | _, _, _, _, .cons a b, h => .cons a (b.app h)
theorem MVs.get : ∀ {xs : List D} {vs : List V} {i : Nat}, MVs c F xs vs → ∀ {x}, xs[i]? = some x → ∃ v, vs[i]? = some v ∧ MV c F x v
  | _, _, _, .nil, _, h => by simp at h
  | _, _, 0, .cons a _, _, h => by simp at h; subst h; exact ⟨_, rfl, a⟩
  | _, _, i + 1, .cons _ b, _, h => by simpa using b.get (i := i) (by simpa using h)
theorem MVs.get' : ∀ {xs : List D} {vs : List V} {i : Nat}, MVs c F xs vs → ∀ {v}, vs[i]? = some v → ∃ x, xs[i]? = some x ∧ MV c F x v
  | _, _, _, .nil, _, h => by simp at h
  | _, _, 0, .cons a _, _, h => by simp at h; subst h; exact ⟨_, rfl, a⟩
  | _, _, i + 1, .cons _ b, _, h => by simpa using b.get' (i := i) (by simpa using h)
theorem MVs.rev {xs : List D} {vs : List V} (h : MVs c F xs vs) : MVs c F xs.reverse vs.reverse := by
  match h with
  | .nil => exact .nil
  | .cons a b =>
    rw [List.reverse_cons, List.reverse_cons]
    exact b.rev.app (.cons a .nil)
theorem MVs.take : ∀ {xs : List D} {vs : List V} (n : Nat), MVs c F xs vs → MVs c F (xs.take n) (vs.take n)
  | _, _, 0, _ => .nil
  | _, _, _ + 1, .nil => .nil
  | _, _, n + 1, .cons a b => .cons a (b.take n)
theorem MVs.drop : ∀ {xs : List D} {vs : List V} (n : Nat), MVs c F xs vs → MVs c F (xs.drop n) (vs.drop n)
  | _, _, 0, h => h
  | _, _, _ + 1, .nil => .nil
  | _, _, n + 1, .cons _ b => b.drop n
end
/-! ### worlds -/
structure Wo where
  F : Hp
  φ : List Addr
  S : Option (Addr × Addr × Addr)
  Z : Hp
def MR (c : Cn) (W : Wo) : R → V → Prop
  | .d x, v => MV c W.F x v
  | .cell n, v => ∃ a, W.φ[n]? = some a ∧ v = .ref a
  | .src, v => ∃ sa la ca, W.S = some (sa, la, ca) ∧ v = .ref sa
  | .cls a, v => v = .ref a
  | .scr ns, v => ∃ a, v = .ref a ∧ SqL c.k W.F a (ns.map V.int)
abbrev MRs (c : Cn) (W : Wo) : List R → List V → Prop := Paired (MR c W)
def MC (c : Cn) (W : Wo) : Ce → Option HO → Prop
  | .lst rs, o => ∃ vs, o = some (.lst vs) ∧ MRs c W rs vs
  | .dic kr, o => ∃ kw, o = some (.dK kw) ∧ kw.map (·.1) = kr.map (·.1) ∧ MRs c W (kr.map (·.2)) (kw.map (·.2))
  | .dit kr, o => ∃ kw, o = some (.dT kw) ∧ kw.map (·.1) = kr.map (·.1) ∧ MRs c W (kr.map (·.2)) (kw.map (·.2))
  | .ins C fr, o => ∃ dx vf, o = some (.ins C dx vf) ∧ vf.map (·.1) = fr.map (·.1) ∧ MRs c W (fr.map (·.2)) (vf.map (·.2))
  | .dead, o => ∃ u, o = some u
def SrcOk (W : Wo) (T : Nat) (H : Hp) : Prop := match W.S with
  | none => True
  | some (sa, la, ca) => Dr H sa la ca T ∧ W.F sa = none ∧ W.F la = none ∧ W.F ca = none ∧ sa ∉ W.φ ∧ la ∉ W.φ ∧ ca ∉ W.φ
structure Sim (c : Cn) (W : Wo) (μ : Sto) (H : Hp) : Prop where
  ex : Ex W.F H
  nt : NoT W.F
  len : W.φ.length = μ.cs.length
  nd : W.φ.Nodup
  out : ∀ (n : Nat) (a : Addr) (e : Ce), W.φ[n]? = some a → μ.cs[n]? = some e → e.live = true → W.F a = none
  ntc : ∀ a ∈ W.φ, ∀ ps, H a ≠ some (.tbl ps)
  cel : ∀ (n : Nat) (a : Addr) (e : Ce), W.φ[n]? = some a → μ.cs[n]? = some e → MC c W e (H a)
  src : SrcOk W μ.T H
  tab : Tabs c.ts H
  zx : Ex W.Z H
  zt : NoT W.Z
  zd : ∀ a o, W.Z a = some o → W.F a = none ∧ a ∉ W.φ ∧ ∀ sa la ca, W.S = some (sa, la, ca) → a ≠ sa ∧ a ≠ la ∧ a ≠ ca
  tp : W.S ≠ Option.none → 1 ≤ μ.T
/-- later, but for the private frame -/
structure Wo.le0 (W W' : Wo) : Prop where
  F : Ex W.F W'.F
  φ : W.φ <+: W'.φ
  S : W.S = none ∨ W.S = W'.S
structure Wo.le (W W' : Wo) : Prop where
  toLe0 : W.le0 W'
  Z : W.Z = W'.Z
theorem Wo.le.F {W W' : Wo} (h : W.le W') : Ex W.F W'.F := h.toLe0.F
theorem Wo.le.φ {W W' : Wo} (h : W.le W') : W.φ <+: W'.φ := h.toLe0.φ
theorem Wo.le.S {W W' : Wo} (h : W.le W') : W.S = none ∨ W.S = W'.S := h.toLe0.S
theorem Wo.le.refl (W : Wo) : W.le W := ⟨⟨exr, List.prefix_refl _, .inr rfl⟩, rfl⟩
theorem Wo.le0.refl (W : Wo) : W.le0 W := ⟨exr, List.prefix_refl _, .inr rfl⟩
theorem Wo.le0.trans {A B C : Wo} (h : A.le0 B) (k : B.le0 C) : A.le0 C := ⟨ext h.F k.F, h.φ.trans k.φ, h.S.elim .inl fun z => k.S.elim (fun y => .inl (z.trans y)) fun y => .inr (z.trans y)⟩
theorem Wo.le.trans {A B C : Wo} (h : A.le B) (k : B.le C) : A.le C := ⟨h.toLe0.trans k.toLe0, h.Z.trans k.Z⟩
theorem prefix_get {α : Type} {l m : List α} (h : l <+: m) {i : Nat} {x : α} (e : l[i]? = some x) : m[i]? = some x := by
  obtain ⟨t, rfl⟩ := h
  rw [List.getElem?_append_left (List.getElem?_eq_some_iff.mp e).1]
  exact e
section
variable {c : Cn} {W W' : Wo}
theorem MR.mono0 (l : W.le0 W') {r : R} {v : V} (h : MR c W r v) : MR c W' r v := by
  match r, h with
  | .d x, h => exact MV.mono l.F h
  | .cell n, ⟨a, h1, h2⟩ => exact ⟨a, prefix_get l.φ h1, h2⟩
  | .src, ⟨sa, la, ca, h1, h2⟩ => exact ⟨sa, la, ca, l.S.elim (fun z => by rw [z] at h1; cases h1) (fun z => by rw [← z]; exact h1), h2⟩
  | .cls a, h => exact h
  | .scr ns, ⟨a, h1, h2⟩ => exact ⟨a, h1, sqL_mono l.F h2⟩
theorem MR.mono (l : W.le W') {r : R} {v : V} (h : MR c W r v) : MR c W' r v := MR.mono0 l.toLe0 h
theorem MRs.mono0 (l : W.le0 W') : ∀ {rs : List R} {vs : List V}, MRs c W rs vs → MRs c W' rs vs
  | _, _, .nil => .nil
  | _, _, .cons a b => .cons (MR.mono0 l a) (MRs.mono0 l b)
theorem MRs.mono (l : W.le W') {rs : List R} {vs : List V} (h : MRs c W rs vs) : MRs c W' rs vs := MRs.mono0 l.toLe0 h
theorem MC.mono0 (l : W.le0 W') {e : Ce} {o : Option HO} (h : MC c W e o) : MC c W' e o := by
  match e, h with
  | .lst _, ⟨vs, a, b⟩ => exact ⟨vs, a, b.mono0 l⟩
  | .dic _, ⟨vs, a, b, d⟩ => exact ⟨vs, a, b, d.mono0 l⟩
  | .dit _, ⟨vs, a, b, d⟩ => exact ⟨vs, a, b, d.mono0 l⟩
  | .ins _ _, ⟨dx, vs, a, b, d⟩ => exact ⟨dx, vs, a, b, d.mono0 l⟩
  | .dead, h => exact h
theorem MC.mono (l : W.le W') {e : Ce} {o : Option HO} (h : MC c W e o) : MC c W' e o := h.mono0 l.toLe0
theorem MRs.ds : ∀ {xs : List D} {vs : List V}, MRs c W (xs.map R.d) vs → MVs c W.F xs vs
  | [], _, .nil => .nil
  | _ :: _, _, .cons a b => .cons a (MRs.ds b)
theorem MVs.rs : ∀ {xs : List D} {vs : List V}, MVs c W.F xs vs → MRs c W (xs.map R.d) vs
  | [], _, .nil => .nil
  | _ :: _, _, .cons a b => .cons a (MVs.rs b)
end
section
variable {c : Cn} {W : Wo} {μ : Sto} {H : Hp}
/-- a new thing that is frozen at once -/
def Wo.add (W : Wo) (p : Addr) (o : HO) : Wo := { W with F := upd W.F p o }
theorem Sim.fno (S : Sim c W μ H) {p : Addr} (h : H p = none) : W.F p = none := exb S.ex h
theorem Sim.nin (S : Sim c W μ H) {p : Addr} (h : H p = none) : p ∉ W.φ := fun hp => by
  obtain ⟨n, hn⟩ := List.mem_iff_getElem?.mp hp
  have hl : n < μ.cs.length := by rw [← S.len]; exact (List.getElem?_eq_some_iff.mp hn).1
  have := S.cel n p _ hn (List.getElem?_eq_getElem hl)
  rw [h] at this
  match μ.cs[n], this with
  | .lst _, ⟨_, z, _⟩ => cases z
  | .dic _, ⟨_, z, _⟩ => cases z
  | .dit _, ⟨_, z, _⟩ => cases z
  | .ins _ _, ⟨_, _, z, _⟩ => cases z
  | .dead, ⟨_, z⟩ => cases z
theorem Sim.ne (S : Sim c W μ H) {p a : Addr} (h : H p = none) (ha : a ∈ W.φ) : a ≠ p := fun e => S.nin h (by rw [← e]; exact ha)
theorem Sim.addLe (S : Sim c W μ H) {p : Addr} {o : HO} (h : H p = none) : W.le (W.add p o) := ⟨⟨exn (S.fno h), List.prefix_refl _, .inr rfl⟩, rfl⟩
theorem tabs_new {ts : List (Addr × Str)} {p : Addr} {o : HO} (t : Tabs ts H) (h : H p = none) : Tabs ts (upd H p o) := fun q hq => by
  obtain ⟨ps, h1, h2, h3⟩ := t q hq
  refine ⟨ps, (exn h) _ _ h1, h2, fun pos cv hc => ?_⟩
  obtain ⟨c, e1, e2⟩ := h3 pos cv hc
  exact ⟨c, e1, (exn h) _ _ e2⟩
theorem SrcOk.grow {W' : Wo} {T : Nat} {H' : Hp} (s : SrcOk W T H) (e : Ex H H') (hS : W'.S = W.S) (hF : ∀ a, H a ≠ Option.none → W.F a = Option.none → W'.F a = Option.none) (hφ : ∀ a ∈ W'.φ, a ∈ W.φ ∨ H a = Option.none) : SrcOk W' T H' := by
  unfold SrcOk at s ⊢
  rw [hS]
  match hW : W.S, s with
  | Option.none, _ => trivial
  | some (sa, la, ca), s =>
    obtain ⟨d, f1, f2, f3, g1, g2, g3⟩ := s
    obtain ⟨ls, cs, r, t, h1, h2, h3, _⟩ := d.ex
    have nn : ∀ {a o}, H a = some o → H a ≠ Option.none := fun {a o} h z => by rw [h] at z; cases z
    refine ⟨d.ext e, hF _ (nn h1) f1, hF _ (nn h2) f2, hF _ (nn h3) f3, fun z => ?_, fun z => ?_, fun z => ?_⟩
    · exact (hφ _ z).elim g1 (nn h1)
    · exact (hφ _ z).elim g2 (nn h2)
    · exact (hφ _ z).elim g3 (nn h3)
theorem Sim.add (S : Sim c W μ H) {p : Addr} {o : HO} (h : H p = none) (ht : ∀ ps, o ≠ .tbl ps) : Sim c (W.add p o) μ (upd H p o) where
  ex := exu S.ex
  nt := fun b ps z => by
    have z : upd W.F p o b = some (.tbl ps) := z
    by_cases e : b = p
    · subst e; rw [upd_same] at z; exact ht ps (Option.some.inj z)
    · rw [upd_ne e] at z; exact S.nt b ps z
  len := S.len
  nd := S.nd
  out := fun n a e h1 h2 h3 => by
    show upd W.F p o a = Option.none
    rw [upd_ne (S.ne h (List.mem_of_getElem? h1))]
    exact S.out n a e h1 h2 h3
  ntc := fun a ha ps => by rw [upd_ne (S.ne h ha)]; exact S.ntc a ha ps
  cel := fun n a e h1 h2 => by
    rw [upd_ne (S.ne h (List.mem_of_getElem? h1))]
    exact (S.cel n a e h1 h2).mono (S.addLe h)
  src := S.src.grow (exn h) rfl (fun a na hF => by
    show upd W.F p o a = Option.none
    rw [upd_ne (fun z => na (by rw [z]; exact h))]; exact hF) fun a ha => .inl ha
  tab := tabs_new S.tab h
  zx := ext S.zx (exn h)
  zt := S.zt
  zd := fun a u hz => by
    obtain ⟨z1, z2, z3⟩ := S.zd a u hz
    exact ⟨(upd_ne (fun z => by rw [z] at hz; rw [S.zx _ _ hz] at h; cases h)).trans z1, z2, z3⟩
  tp := S.tp
/-- the heap grows by what nobody tells -/
theorem Sim.more (S : Sim c W μ H) {H' : Hp} (e : Ex H H') (ht : Tabs c.ts H') : Sim c W μ H' where
  ex := ext S.ex e
  nt := S.nt
  len := S.len
  nd := S.nd
  out := S.out
  ntc := fun a ha ps z => by
    cases hq : H a with
    | none => exact S.nin hq ha
    | some o =>
      rw [e _ _ hq] at z
      cases z
      exact S.ntc a ha ps hq
  cel := fun n a ce h1 h2 => by
    have m := S.cel n a ce h1 h2
    cases hq : H a with
    | none => exact absurd (List.mem_of_getElem? h1) (S.nin hq)
    | some o => rw [hq] at m; rw [e _ _ hq]; exact m
  src := S.src.grow e rfl (fun _ _ z => z) fun _ z => .inl z
  tab := ht
  zx := ext S.zx e
  zt := S.zt
  zd := S.zd
  tp := S.tp
/-- a new thing that can be changed -/
def Wo.cel (W : Wo) (p : Addr) : Wo := { W with φ := W.φ ++ [p] }
def Sto.new (μ : Sto) (e : Ce) : Sto := { μ with cs := μ.cs ++ [e] }
theorem Sim.celLe : W.le (W.cel p) := ⟨⟨exr, List.prefix_append _ _, .inr rfl⟩, rfl⟩
theorem Sim.newC (S : Sim c W μ H) {p : Addr} {o : HO} {e : Ce} (h : H p = none) (ht : ∀ ps, o ≠ .tbl ps) (m : MC c W e (some o)) : Sim c (W.cel p) (μ.new e) (upd H p o) where
  ex := ext S.ex (exn h)
  nt := S.nt
  len := by simp [Wo.cel, Sto.new, S.len]
  nd := by
    show (W.φ ++ [p]).Nodup
    refine List.nodup_append.mpr ⟨S.nd, by simp, fun x hx y hy z => ?_⟩
    have : y = p := by simpa using hy
    exact S.nin h (by rw [← this, ← z]; exact hx)
  out := fun n a ce h1 h2 h3 => by
    have h1 : (W.φ ++ [p])[n]? = some a := h1
    have h2 : (μ.cs ++ [e])[n]? = some ce := h2
    by_cases hn : n < W.φ.length
    · rw [List.getElem?_append_left hn] at h1
      rw [List.getElem?_append_left (by rw [← S.len]; exact hn)] at h2
      exact S.out n a ce h1 h2 h3
    · have ha := List.mem_of_getElem? h1
      rw [List.getElem?_append_right (by omega)] at h1
      rw [List.mem_singleton.mp (List.mem_of_getElem? h1)]
      exact S.fno h
  ntc := fun a ha ps => by
    rcases List.mem_append.mp (show a ∈ W.φ ++ [p] from ha) with ha | ha
    · rw [upd_ne (S.ne h ha)]; exact S.ntc a ha ps
    · rw [List.mem_singleton.mp ha, upd_same]; exact fun z => ht ps (Option.some.inj z)
  cel := fun n a ce h1 h2 => by
    have h1 : (W.φ ++ [p])[n]? = some a := h1
    have h2 : (μ.cs ++ [e])[n]? = some ce := h2
    by_cases hn : n < W.φ.length
    · rw [List.getElem?_append_left hn] at h1
      rw [List.getElem?_append_left (by rw [← S.len]; exact hn)] at h2
      rw [upd_ne (S.ne h (List.mem_of_getElem? h1))]
      exact (S.cel n a ce h1 h2).mono Sim.celLe
    · rw [List.getElem?_append_right (by omega)] at h1
      rw [List.getElem?_append_right (by rw [← S.len]; omega), ← S.len] at h2
      have hz : n - W.φ.length = 0 := by
        have := (List.getElem?_eq_some_iff.mp h1).1
        simp at this
        omega
      rw [hz] at h1 h2
      simp at h1 h2
      subst h1 h2
      rw [upd_same]
      exact m.mono Sim.celLe
  src := S.src.grow (exn h) rfl (fun _ _ z => z) fun a ha => by
    rcases List.mem_append.mp (show a ∈ W.φ ++ [p] from ha) with ha | ha
    · exact .inl ha
    · rw [List.mem_singleton.mp ha]; exact .inr h
  tab := tabs_new S.tab h
  zx := ext S.zx (exn h)
  zt := S.zt
  zd := fun a u hz => by
    obtain ⟨z1, z2, z3⟩ := S.zd a u hz
    refine ⟨z1, fun ha => ?_, z3⟩
    rcases List.mem_append.mp (show a ∈ W.φ ++ [p] from ha) with ha | ha
    · exact z2 ha
    · rw [List.mem_singleton.mp ha] at hz; rw [S.zx _ _ hz] at h; cases h
  tp := S.tp
/-- a thing that is no more changed -/
theorem Sim.adopt (S : Sim c W μ H) {a : Addr} {o : HO} (h : H a = some o) (hF : W.F a = none) (hφ : ∀ (n : Nat) (e : Ce), W.φ[n]? = some a → μ.cs[n]? = some e → e.live = false) (ht : ∀ ps, o ≠ .tbl ps) (hs : ∀ sa la ca, W.S = some (sa, la, ca) → a ≠ sa ∧ a ≠ la ∧ a ≠ ca) (hZ : W.Z a = none) : Sim c (W.add a o) μ H ∧ W.le (W.add a o) := by
  have le : W.le (W.add a o) := ⟨⟨exn hF, List.prefix_refl _, .inr rfl⟩, rfl⟩
  refine ⟨⟨exp S.ex h, fun b ps z => ?_, S.len, S.nd, fun n b e h1 h2 h3 => ?_, S.ntc, fun n b e h1 h2 => (S.cel n b e h1 h2).mono le, ?_, S.tab, S.zx, S.zt, fun b u hz => ?_, S.tp⟩, le⟩
  · have z : upd W.F a o b = some (.tbl ps) := z
    by_cases e : b = a
    · subst e; rw [upd_same] at z; exact ht ps (Option.some.inj z)
    · rw [upd_ne e] at z; exact S.nt b ps z
  · show upd W.F a o b = none
    rw [upd_ne (fun z => by subst z; rw [hφ n e h1 h2] at h3; cases h3)]
    exact S.out n b e h1 h2 h3
  · have := S.src
    unfold SrcOk Wo.add at *
    match hS : W.S, this with
    | none, _ => trivial
    | some (sa, la, ca), ⟨d, f1, f2, f3, g1, g2, g3⟩ =>
      obtain ⟨n1, n2, n3⟩ := hs sa la ca hS
      exact ⟨d, (upd_ne n1.symm).trans f1, (upd_ne n2.symm).trans f2, (upd_ne n3.symm).trans f3, g1, g2, g3⟩
  · obtain ⟨z1, z2, z3⟩ := S.zd b u hz
    exact ⟨(upd_ne (fun z => by have hz : W.Z b = some u := hz; rw [z, hZ] at hz; cases hz)).trans z1, z2, z3⟩
def Sto.put (μ : Sto) (n : Nat) (e : Ce) : Sto := { μ with cs := μ.cs.set n e }
/-- what a cell may hold -/
def Plain : HO → Prop
  | .lst _ => True
  | .dK _ => True
  | .dT _ => True
  | .ins _ _ _ => True
  | .frz _ _ => True
  | _ => False
theorem Plain.tbl {o : HO} (h : Plain o) : ∀ ps, o ≠ .tbl ps := fun ps z => by subst z; exact h
theorem tabs_upd {ts : List (Addr × Str)} {a : Addr} {o u : HO} (t : Tabs ts H) (h : H a = some u) (hu : Plain u) : Tabs ts (upd H a o) := fun q hq => by
  obtain ⟨ps, h1, h2, h3⟩ := t q hq
  have ne : ∀ {b x}, H b = some x → ¬ Plain x → b ≠ a := fun {b x} hb nx z => by
    subst z
    rw [h] at hb
    cases hb
    exact nx hu
  refine ⟨ps, by rw [upd_ne (ne h1 fun z => z)]; exact h1, h2, fun pos cv hc => ?_⟩
  obtain ⟨c, e1, e2⟩ := h3 pos cv hc
  exact ⟨c, e1, by rw [upd_ne (ne e2 fun z => by unfold CodeO at z; exact z)]; exact e2⟩
theorem cell_plain {e : Ce} {o : HO} (hl : e.live = true) (m : MC c W e (some o)) : Plain o := by
  match e, m with
  | .lst _, ⟨_, z, _⟩ => cases z; trivial
  | .dic _, ⟨_, z, _⟩ => cases z; trivial
  | .dit _, ⟨_, z, _⟩ => cases z; trivial
  | .ins _ _, ⟨_, _, z, _⟩ => cases z; trivial
/-- a cell is changed -/
theorem Sim.setC (S : Sim c W μ H) {n : Nat} {a : Addr} {e0 e : Ce} {o : HO} (h1 : W.φ[n]? = some a) (h2 : μ.cs[n]? = some e0) (h3 : e0.live = true) (ho : Plain o) (m : MC c W e (some o)) : Sim c W (μ.put n e) (upd H a o) := by
  have hFa := S.out n a e0 h1 h2 h3
  obtain ⟨u, hu⟩ : ∃ u, H a = some u := by
    cases hq : H a with
    | none => exact absurd (List.mem_of_getElem? h1) (S.nin hq)
    | some u => exact ⟨u, rfl⟩
  have pu : Plain u := cell_plain h3 (by have := S.cel n a e0 h1 h2; rw [hu] at this; exact this)
  have hn : n < W.φ.length := (List.getElem?_eq_some_iff.mp h1).1
  refine ⟨exm S.ex hFa, S.nt, by show W.φ.length = (μ.cs.set n e).length; rw [List.length_set]; exact S.len, S.nd, fun k b ce k1 k2 k3 => ?_, fun b hb ps => ?_, fun k b ce k1 k2 => ?_, ?_, tabs_upd S.tab hu pu, exm S.zx ?_, S.zt, S.zd, S.tp⟩
  · by_cases hk : n = k
    · subst hk
      rw [h1] at k1
      cases k1
      exact hFa
    · have k2 : (μ.cs.set n e)[k]? = some ce := k2
      rw [List.getElem?_set_ne hk] at k2
      exact S.out k b ce k1 k2 k3
  · by_cases hb2 : b = a
    · subst hb2; rw [upd_same]; exact fun z => ho.tbl ps (Option.some.inj z)
    · rw [upd_ne hb2]; exact S.ntc b hb ps
  · have k2 : (μ.cs.set n e)[k]? = some ce := k2
    by_cases hk : n = k
    · subst hk
      rw [h1] at k1
      cases k1
      rw [List.getElem?_set_self (by rw [← S.len]; exact hn)] at k2
      cases k2
      rw [upd_same]
      exact m
    · rw [List.getElem?_set_ne hk] at k2
      have : b ≠ a := fun z => hk ((List.getElem?_inj hn S.nd).mp (by rw [h1, k1, z]))
      rw [upd_ne this]
      exact S.cel k b ce k1 k2
  · have := S.src
    unfold SrcOk at *
    match hS : W.S, this with
    | none, _ => trivial
    | some (sa, la, ca), ⟨d, f1, f2, f3, g1, g2, g3⟩ =>
      have ha := List.mem_of_getElem? h1
      exact ⟨d.upd (fun z => g1 (by rw [← z]; exact ha)) (fun z => g2 (by rw [← z]; exact ha)) (fun z => g3 (by rw [← z]; exact ha)), f1, f2, f3, g1, g2, g3⟩
  · cases hz : W.Z a with
    | none => rfl
    | some u => exact absurd (List.mem_of_getElem? h1) (S.zd a u hz).2.1
/-- the private frame -/
def Wo.zed (W : Wo) (Z : Hp) : Wo := { W with Z := Z }
theorem Wo.zedLe {W : Wo} {Z : Hp} : W.le0 (W.zed Z) := ⟨exr, List.prefix_refl _, .inr rfl⟩
theorem Sim.zed {p : Addr} {o : HO} (S : Sim c W μ H) (hp : W.F p = none ∧ p ∉ W.φ ∧ ∀ sa la ca, W.S = some (sa, la, ca) → p ≠ sa ∧ p ≠ la ∧ p ≠ ca) (ho : ∀ ps, o ≠ .tbl ps) (ht : Tabs c.ts (upd H p o)) : Sim c (W.zed (upd W.Z p o)) μ (upd H p o) where
  ex := exm S.ex hp.1
  nt := S.nt
  len := S.len
  nd := S.nd
  out := S.out
  ntc := fun a ha ps => by rw [upd_ne (fun z => hp.2.1 (by rw [← z]; exact ha))]; exact S.ntc a ha ps
  cel := fun n a e h1 h2 => by
    rw [upd_ne (fun z => hp.2.1 (by rw [← z]; exact List.mem_of_getElem? h1))]
    exact (S.cel n a e h1 h2).mono0 Wo.zedLe
  src := by
    have := S.src
    unfold SrcOk Wo.zed at *
    match hS : W.S, this with
    | none, _ => trivial
    | some (sa, la, ca), ⟨d, f⟩ =>
      obtain ⟨n1, n2, n3⟩ := hp.2.2 sa la ca hS
      exact ⟨d.upd n1 n2 n3, f⟩
  tab := ht
  zx := exu S.zx
  zt := fun b ps z => by
    have z : upd W.Z p o b = some (.tbl ps) := z
    by_cases e : b = p
    · subst e; rw [upd_same] at z; exact ho ps (Option.some.inj z)
    · rw [upd_ne e] at z; exact S.zt b ps z
  zd := fun a u hz => by
    have hz : upd W.Z p o a = some u := hz
    by_cases e : a = p
    · subst e; exact hp
    · rw [upd_ne e] at hz; exact S.zd a u hz
  tp := S.tp
/-- the private frame is left -/
theorem Sim.unzed {W0 : Wo} (S : Sim c W μ H) (h : Ex W0.Z W.Z) : Sim c (W.zed W0.Z) μ H where
  ex := S.ex
  nt := S.nt
  len := S.len
  nd := S.nd
  out := S.out
  ntc := S.ntc
  cel := fun n a e h1 h2 => (S.cel n a e h1 h2).mono0 Wo.zedLe
  src := S.src
  tab := S.tab
  zx := ext h S.zx
  zt := fun b ps z => S.zt b ps (h _ _ z)
  zd := fun a u hz => S.zd a u (h _ _ hz)
  tp := S.tp
end
end Eg
/-! the engine: mirrors of expressions and statements -/
namespace Eg
open Evl (Ex)
open PySem L2 Sn LamX
/-- an error of an own class and its fields -/
structure Exn where
  c : Addr
  fs : List (Str × D)
abbrev Sl := List (Option R)
abbrev XC := Exn → Sto → Prop
abbrev RK := R → Sto → Prop
abbrev EM := Sl → Sto → XC → RK → Prop
abbrev AM := Sl → Sto → XC → (List R → Sto → Prop) → Prop
structure NC where
  nx : Sl → Sto → Prop
  rt : RK
  bk : Sl → Sto → Prop
  ct : Sl → Sto → Prop
  ex : XC
abbrev SM := NC → Sl → Sto → Prop
abbrev FM := List R → Sto → XC → RK → Prop
abbrev cn (X : Cx) (ts : List (Addr × Str)) : Cn := ⟨X.prog, X.w, X.K, ts⟩
structure Slots (c : Cn) (W : Wo) (ς : Sl) (σ : L2.St) : Prop where
  len : ς.length = σ.length
  get : ∀ (i : Nat) (r : R), ς[i]? = some (some r) → ∃ v, σ[i]? = some (some v) ∧ MR c W r v
theorem Slots.mono {c : Cn} {W W' : Wo} {ς : Sl} {σ : L2.St} (l : W.le W') (h : Slots c W ς σ) : Slots c W' ς σ := ⟨h.len, fun i r e => let ⟨v, a, b⟩ := h.get i r e; ⟨v, a, MR.mono l b⟩⟩
theorem Slots.set {c : Cn} {W : Wo} {ς : Sl} {σ : L2.St} {i : Nat} {r : R} {v : V} (h : Slots c W ς σ) (m : MR c W r v) : Slots c W (ς.set i (some r)) (σ.set i (some v)) := by
  refine ⟨by rw [List.length_set, List.length_set]; exact h.len, fun j r' e => ?_⟩
  by_cases hj : i = j
  · subst hj
    have hi : i < ς.length := by
      have := (List.getElem?_eq_some_iff.mp e).1
      rw [List.length_set] at this
      exact this
    rw [List.getElem?_set_self hi] at e
    cases e
    exact ⟨v, List.getElem?_set_self (by rw [← h.len]; exact hi), m⟩
  · rw [List.getElem?_set_ne hj] at e
    rw [List.getElem?_set_ne hj]
    exact h.get j r' e
/-- an error in flight is the mirror's -/
def MX (c : Cn) (W : Wo) (x : Exn) (cls : Value) (d : Option Addr) (H : Hp) : Prop :=
  cls = .ref x.c ∧ ((x.fs = [] ∧ d = none) ∨ x.fs ≠ [] ∧ ∃ dd vf, d = some dd ∧ H dd = some (.xd vf) ∧ vf.map (·.1) = x.fs.map (·.1) ∧ MVs c W.F (x.fs.map (·.2)) (vf.map (·.2)))
def GoX (c : Cn) (E : XK) (W : Wo) (Ec : XC) : Prop := ∀ x μ' W' H' cls d, Ec x μ' → W.le W' → Sim c W' μ' H' → MX c W' x cls d H' → E cls d H'
def GoV (c : Cn) (W : Wo) (Q : VK) (Qc : RK) : Prop := ∀ r μ' W' H' v, Qc r μ' → W.le W' → Sim c W' μ' H' → MR c W' r v → Q v H'
def GoB (c : Cn) (W : Wo) (Q : Bool → Hp → Prop) (Qc : Bool → Sto → Prop) : Prop := ∀ r μ' W' H', Qc r μ' → W.le W' → Sim c W' μ' H' → Q r H'
def GoA (c : Cn) (W : Wo) (Q : List V → Hp → Prop) (Qc : List R → Sto → Prop) : Prop := ∀ r μ' W' H' v, Qc r μ' → W.le W' → Sim c W' μ' H' → MRs c W' r v → Q v H'
def GoS (c : Cn) (W : Wo) (Q : L2.St → Hp → Prop) (Qc : Sl → Sto → Prop) : Prop := ∀ ς' μ' W' H' σ', Qc ς' μ' → W.le W' → Sim c W' μ' H' → Slots c W' ς' σ' → Q σ' H'
theorem GoX.mono {c : Cn} {E : XK} {W W' : Wo} {Ec : XC} (h : GoX c E W Ec) (l : W.le W') : GoX c E W' Ec := fun x μ' W2 H' cls d e l2 => h x μ' W2 H' cls d e (l.trans l2)
theorem GoV.mono {c : Cn} {W W' : Wo} {Q : VK} {Qc : RK} (h : GoV c W Q Qc) (l : W.le W') : GoV c W' Q Qc := fun r μ' W2 H' v e l2 => h r μ' W2 H' v e (l.trans l2)
theorem GoB.mono {c : Cn} {W W' : Wo} {Q : Bool → Hp → Prop} {Qc : Bool → Sto → Prop} (h : GoB c W Q Qc) (l : W.le W') : GoB c W' Q Qc := fun r μ' W2 H' e l2 => h r μ' W2 H' e (l.trans l2)
theorem GoA.mono {c : Cn} {W W' : Wo} {Q : List V → Hp → Prop} {Qc : List R → Sto → Prop} (h : GoA c W Q Qc) (l : W.le W') : GoA c W' Q Qc := fun r μ' W2 H' v e l2 => h r μ' W2 H' v e (l.trans l2)
theorem GoS.mono {c : Cn} {W W' : Wo} {Q : L2.St → Hp → Prop} {Qc : Sl → Sto → Prop} (h : GoS c W Q Qc) (l : W.le W') : GoS c W' Q Qc := fun r μ' W2 H' v e l2 => h r μ' W2 H' v e (l.trans l2)
structure GoN (c : Cn) (E : XK) (W : Wo) (D : Ends) (N : NC) : Prop where
  nx : GoS c W D.nx N.nx
  rt : GoV c W D.rt N.rt
  bk : GoS c W D.bk N.bk
  ct : GoS c W D.ct N.ct
  ex : GoX c E W N.ex
theorem GoN.mono {c : Cn} {E : XK} {W W' : Wo} {D : Ends} {N : NC} (h : GoN c E W D N) (l : W.le W') : GoN c E W' D N := ⟨h.nx.mono l, h.rt.mono l, h.bk.mono l, h.ct.mono l, h.ex.mono l⟩
/-- the readings of mirrors -/
def tM (c : Cn) (E : XK) (m : EM) : TE := fun σ H Q => ∃ W ς μ Ec Qc, Sim c W μ H ∧ Slots c W ς σ ∧ GoX c E W Ec ∧ m ς μ Ec Qc ∧ GoV c W Q Qc
def isB (Q : Bool → Sto → Prop) : RK := fun r μ => match r with | .d (.bl b) => Q b μ | _ => False
def tB (c : Cn) (E : XK) (m : EM) : TT := fun σ H Q => ∃ W ς μ Ec Qc, Sim c W μ H ∧ Slots c W ς σ ∧ GoX c E W Ec ∧ m ς μ Ec (isB Qc) ∧ GoB c W Q Qc
def tA (c : Cn) (E : XK) (m : AM) : TA := fun σ H Q => ∃ W ς μ Ec Qc, Sim c W μ H ∧ Slots c W ς σ ∧ GoX c E W Ec ∧ m ς μ Ec Qc ∧ GoA c W Q Qc
def tS (c : Cn) (E : XK) (m : SM) : TS := fun D σ H => ∃ W ς μ N, Sim c W μ H ∧ Slots c W ς σ ∧ m N ς μ ∧ GoN c E W D N
section
variable {X : Cx}
theorem pe_w {e : Expr} {t t' : TE} (h : PE X e t) (k : ∀ σ H Q, t' σ H Q → t σ H Q) : PE X e t' := ⟨fun pins s σ H Q I q => h.run pins s σ H Q I (k σ H Q q)⟩
theorem pt_w {e : Expr} {t t' : TT} (h : PT X e t) (k : ∀ σ H Q, t' σ H Q → t σ H Q) : PT X e t' := ⟨fun pins s σ H Q I q => h.run pins s σ H Q I (k σ H Q q)⟩
theorem pw_w {e : Expr} {t t' : TT} (h : PW X e t) (k : ∀ σ H Q, t' σ H Q → t σ H Q) : PW X e t' := ⟨fun whole pins s σ H Q I q => h.run whole pins s σ H Q I (k σ H Q q)⟩
theorem pa_w {e : List Expr} {t t' : TA} (h : PA X e t) (k : ∀ σ H Q, t' σ H Q → t σ H Q) : PA X e t' := ⟨fun pos pins s σ H Q I q => h.run pos pins s σ H Q I (k σ H Q q)⟩
theorem ps_w {e : Stmt} {t t' : TS} (h : PS X e t) (k : ∀ σ H Q, t' Q σ H → t Q σ H) : PS X e t' := ⟨fun pins s σ H Q I q => h.run pins s σ H Q I (k σ H Q q)⟩
theorem pss_w {e : List Stmt} {t t' : TS} (h : PSs X e t) (k : ∀ σ H Q, t' Q σ H → t Q σ H) : PSs X e t' := ⟨fun pins s σ H Q I q => h.run pins s σ H Q I (k σ H Q q)⟩
end
/-! ### mirrors -/
def eVar (i : Nat) : EM := fun ς μ _ Q => match ς[i]? with | some (some r) => Q r μ | _ => False
def eC (x : D) : EM := fun _ μ _ Q => Q (.d x) μ
def eR (x : R) : EM := fun _ μ _ Q => Q x μ
def eAnd (a b : EM) : EM := fun ς μ E Q => a ς μ E (isB fun k μ1 => if k = true then b ς μ1 E Q else Q (.d (.bl false)) μ1)
def eOr (a b : EM) : EM := fun ς μ E Q => a ς μ E (isB fun k μ1 => if k = true then Q (.d (.bl true)) μ1 else b ς μ1 E Q)
def eNot (a : EM) : EM := fun ς μ E Q => a ς μ E (isB fun k μ1 => Q (.d (.bl (!k))) μ1)
def eIf (c a b : EM) : EM := fun ς μ E Q => c ς μ E (isB fun k μ1 => if k = true then a ς μ1 E Q else b ς μ1 E Q)
def aNil : AM := fun _ μ _ Q => Q [] μ
def aCons (a : EM) (b : AM) : AM := fun ς μ E Q => a ς μ E fun r μ1 => b ς μ1 E fun rs μ2 => Q (r :: rs) μ2
def sNil : SM := fun N ς μ => N.nx ς μ
def sSeq (a b : SM) : SM := fun N ς μ => a { N with nx := b N } ς μ
def sRet (a : EM) : SM := fun N ς μ => a ς μ N.ex N.rt
def sRetN : SM := fun N _ μ => N.rt (.d .non) μ
def sExp (a : EM) : SM := fun N ς μ => a ς μ N.ex fun _ μ1 => N.nx ς μ1
def sIf (c : EM) (a b : SM) : SM := fun N ς μ => c ς μ N.ex (isB fun k μ1 => if k = true then a N ς μ1 else b N ς μ1)
def sSet (i : Nat) (a : EM) : SM := fun N ς μ => a ς μ N.ex fun r μ1 => N.nx (ς.set i (some r)) μ1
def sBrk : SM := fun N ς μ => N.bk ς μ
def sCnt : SM := fun N ς μ => N.ct ς μ
section
variable {X : Cx} {ts : List (Addr × Str)} {E : XK} {pos : Pos}
theorem me_var (i : Nat) {x : Str} (hN : X.N[i]? = some x := by rfl) (hv : Vis X.env.scope x := by first | exact Or.inl rfl | exact Or.inr (Or.inl rfl) | exact Or.inr (Or.inr rfl)) (hd : (x == ("__debug__" : Str)) = false := by decide) (hcd : (x == ("__classdict__" : Str)) = false := by decide) :
    PE X (.Name x pos) (tM (cn X ts) E (eVar i)) := pe_w (pe_var hN hv hd hcd) fun σ H Q ⟨W, ς, μ, Ec, Qc, S, L, G, m, q⟩ => by
  unfold eVar at m
  split at m
  · rename_i r hr
    obtain ⟨v, h1, h2⟩ := L.get i r hr
    exact ⟨v, h1, q _ _ _ _ _ m (Wo.le.refl _) S h2⟩
  · exact m.elim
theorem c_of {c : Cn} {v : V} {x : D} (h : ∀ F, MV c F x v) : ∀ σ H Q, tM c E (eC x) σ H Q → tC v σ H Q := fun σ H Q ⟨W, ς, μ, Ec, Qc, S, L, G, m, q⟩ => q _ _ _ _ _ m (Wo.le.refl _) S (h _)
theorem me_int {i : Int} {j : Nat} : PE X (.Constant (.int i) j pos) (tM (cn X ts) E (eC (.int i))) := pe_w pe_int (c_of fun _ => .int _)
theorem me_bl {b : Bool} {j : Nat} : PE X (.Constant (.bool b) j pos) (tM (cn X ts) E (eC (.bl b))) := pe_w pe_bl (c_of fun _ => .bl _)
theorem me_non {j : Nat} : PE X (.Constant .none j pos) (tM (cn X ts) E (eC .non)) := pe_w pe_non (c_of fun _ => .non)
theorem me_str {x : Str} {j : Nat} : PE X (.Constant (.str x) j pos) (tM (cn X ts) E (eC (.str x))) := pe_w pe_str (c_of fun _ => .str _)
theorem me_glob {x : Str} {v : V} {u : Value} {y : D} (hm : X.mg x = some u) (r : RelV v u) (h : ∀ F, MV (cn X ts) F y v) (hg : Gl X x := by rfl) (hd : (x == ("__debug__" : Str)) = false := by decide) :
    PE X (.Name x pos) (tM (cn X ts) E (eC y)) := pe_w (pe_glob hg hm r hd) (c_of h)
theorem me_cls {x : Str} {a : Addr} (hm : X.mg x = some (.ref a)) (hg : Gl X x := by rfl) (hd : (x == ("__debug__" : Str)) = false := by decide) : PE X (.Name x pos) (tM (cn X ts) E (eR (.cls a))) :=
  pe_w (pe_glob hg hm (v := .ref a) rfl hd) fun σ H Q ⟨W, ς, μ, Ec, Qc, S, L, G, m, q⟩ => q _ _ _ _ _ m (Wo.le.refl _) S rfl
/-! tests -/
theorem isB_go {c : Cn} {W : Wo} {Q : Bool → Hp → Prop} {Qc : Bool → Sto → Prop} (q : GoB c W Q Qc) : GoV c W (fun x H' => ∃ k, x = .bl k ∧ Q k H') (isB Qc) := fun r μ' W' H' v h l S m => by
  unfold isB at h
  split at h
  · cases m
    exact ⟨_, rfl, q _ _ _ _ h l S⟩
  · exact h.elim
theorem test_go {c : Cn} {m : EM} : ∀ σ H Q, tB c E m σ H Q → tM c E m σ H fun x H' => ∃ k, x = .bl k ∧ Q k H' := fun σ H Q ⟨W, ς, μ, Ec, Qc, S, L, G, m, q⟩ => ⟨W, ς, μ, Ec, _, S, L, G, m, isB_go q⟩
theorem mt_val {e : Expr} {m : EM} (h : PE X e (tM (cn X ts) E m)) (he : ∀ whole, isTrue e X.env whole = (do let v ← whole; standAt e.pos; holding [v] (truthy v)) := by intro _; rfl) : PT X e (tB (cn X ts) E m) := pt_w (pt_val h he) test_go
theorem mt_cmp {a b : Expr} {op : CmpOp} {t : TE} {m : EM} (h : PT X (.Compare a [op] [b] pos) (tTest t)) (k : ∀ σ H Q, tM (cn X ts) E m σ H Q → t σ H Q) : PT X (.Compare a [op] [b] pos) (tB (cn X ts) E m) :=
  pt_w h fun σ H Q h => k _ _ _ (test_go _ _ _ h)
theorem and_go {c : Cn} {a b : EM} : ∀ σ H Q, tB c E (eAnd a b) σ H Q → tAnd (tB c E a) (tB c E b) σ H Q := fun σ H Q ⟨W, ς, μ, Ec, Qc, S, L, G, m, q⟩ =>
  ⟨W, ς, μ, Ec, _, S, L, G, m, fun r μ' W' H' h l S' => by
    cases r with
    | true => exact ⟨W', ς, μ', Ec, Qc, S', L.mono l, G.mono l, h, q.mono l⟩
    | false => exact q _ _ _ _ h l S'⟩
theorem or_go {c : Cn} {a b : EM} : ∀ σ H Q, tB c E (eOr a b) σ H Q → tOr (tB c E a) (tB c E b) σ H Q := fun σ H Q ⟨W, ς, μ, Ec, Qc, S, L, G, m, q⟩ =>
  ⟨W, ς, μ, Ec, _, S, L, G, m, fun r μ' W' H' h l S' => by
    cases r with
    | false => exact ⟨W', ς, μ', Ec, Qc, S', L.mono l, G.mono l, h, q.mono l⟩
    | true => exact q _ _ _ _ h l S'⟩
theorem mt_not {a : Expr} {m : EM} (h : PT X a (tB (cn X ts) E m)) : PT X (.UnaryOp .Not a pos) (tB (cn X ts) E (eNot m)) := pt_w (pt_not h) fun σ H Q ⟨W, ς, μ, Ec, Qc, S, L, G, m, q⟩ =>
  ⟨W, ς, μ, Ec, _, S, L, G, m, fun r μ' W' H' h l S' => q _ _ _ _ h l S'⟩
theorem mw_and1 {a : Expr} {m : EM} (h : PT X a (tB (cn X ts) E m)) : PW X (.BoolOp .And [a] pos) (tB (cn X ts) E m) := pw_and1 h
theorem mw_or1 {a : Expr} {m : EM} (h : PT X a (tB (cn X ts) E m)) : PW X (.BoolOp .Or [a] pos) (tB (cn X ts) E m) := pw_or1 h
theorem mw_and {a b : Expr} {r : List Expr} {m n : EM} (h : PT X a (tB (cn X ts) E m)) (k : PW X (.BoolOp .And (b :: r) pos) (tB (cn X ts) E n)) : PW X (.BoolOp .And (a :: b :: r) pos) (tB (cn X ts) E (eAnd m n)) := pw_w (pw_and h k) and_go
theorem mw_or {a b : Expr} {r : List Expr} {m n : EM} (h : PT X a (tB (cn X ts) E m)) (k : PW X (.BoolOp .Or (b :: r) pos) (tB (cn X ts) E n)) : PW X (.BoolOp .Or (a :: b :: r) pos) (tB (cn X ts) E (eOr m n)) := pw_w (pw_or h k) or_go
/-! and, or, not as values -/
theorem me_one {a : Expr} {op : BoolOp} {m : EM} (h : PE X a (tM (cn X ts) E m)) : PE X (.BoolOp op [a] pos) (tM (cn X ts) E m) := pe_one h
theorem me_and {a b : Expr} {r : List Expr} {m n : EM} (h : PE X a (tM (cn X ts) E m)) (k : PE X (.BoolOp .And (b :: r) pos) (tM (cn X ts) E n)) : PE X (.BoolOp .And (a :: b :: r) pos) (tM (cn X ts) E (eAnd m n)) := pe_w (pe_and h k) fun σ H Q ⟨W, ς, μ, Ec, Qc, S, L, G, m, q⟩ =>
  ⟨W, ς, μ, Ec, _, S, L, G, m, isB_go (Q := fun c H1 => if c = true then tM (cn X ts) E n σ H1 Q else Q (.bl false) H1) fun r μ' W' H' h l S' => by
    cases r with
    | true => exact ⟨W', ς, μ', Ec, Qc, S', L.mono l, G.mono l, h, q.mono l⟩
    | false => exact q _ _ _ _ _ h l S' (.bl _)⟩
theorem me_or {a b : Expr} {r : List Expr} {m n : EM} (h : PE X a (tM (cn X ts) E m)) (k : PE X (.BoolOp .Or (b :: r) pos) (tM (cn X ts) E n)) : PE X (.BoolOp .Or (a :: b :: r) pos) (tM (cn X ts) E (eOr m n)) := pe_w (pe_or h k) fun σ H Q ⟨W, ς, μ, Ec, Qc, S, L, G, m, q⟩ =>
  ⟨W, ς, μ, Ec, _, S, L, G, m, isB_go (Q := fun c H1 => if c = true then Q (.bl true) H1 else tM (cn X ts) E n σ H1 Q) fun r μ' W' H' h l S' => by
    cases r with
    | false => exact ⟨W', ς, μ', Ec, Qc, S', L.mono l, G.mono l, h, q.mono l⟩
    | true => exact q _ _ _ _ _ h l S' (.bl _)⟩
theorem me_not {a : Expr} {m : EM} (h : PE X a (tM (cn X ts) E m)) : PE X (.UnaryOp .Not a pos) (tM (cn X ts) E (eNot m)) := pe_w (pe_not h) fun σ H Q ⟨W, ς, μ, Ec, Qc, S, L, G, m, q⟩ =>
  ⟨W, ς, μ, Ec, _, S, L, G, m, isB_go (Q := fun c H1 => Q (.bl (!c)) H1) fun r μ' W' H' h l S' => q _ _ _ _ _ h l S' (.bl _)⟩
theorem me_if {c a b : Expr} {k m n : EM} (hc : PT X c (tB (cn X ts) E k)) (ha : PE X a (tM (cn X ts) E m)) (hb : PE X b (tM (cn X ts) E n)) : PE X (.IfExp c a b pos) (tM (cn X ts) E (eIf k m n)) := pe_w (pe_ifExp hc ha hb) fun σ H Q ⟨W, ς, μ, Ec, Qc, S, L, G, m, q⟩ =>
  ⟨W, ς, μ, Ec, _, S, L, G, m, fun r μ' W' H' h l S' => by
    cases r with
    | true => exact ⟨W', ς, μ', Ec, Qc, S', L.mono l, G.mono l, h, q.mono l⟩
    | false => exact ⟨W', ς, μ', Ec, Qc, S', L.mono l, G.mono l, h, q.mono l⟩⟩
/-! argument lists -/
theorem ma_nil : PA X [] (tA (cn X ts) E aNil) := pa_w pa_nil fun σ H Q ⟨W, ς, μ, Ec, Qc, S, L, G, m, q⟩ => q _ _ _ _ _ m (Wo.le.refl _) S .nil
theorem ma_cons {e : Expr} {es : List Expr} {m : EM} {n : AM} (ha : PE X e (tM (cn X ts) E m)) (hr : PA X es (tA (cn X ts) E n)) (hs : starEach (e :: es) X.env = (false, eval e X.env) :: starEach es X.env := by rfl) : PA X (e :: es) (tA (cn X ts) E (aCons m n)) :=
  pa_w (pa_cons ha hr hs) fun σ H Q ⟨W, ς, μ, Ec, Qc, S, L, G, m, q⟩ => ⟨W, ς, μ, Ec, _, S, L, G, m, fun r μ' W' H' v h l S' mv => ⟨W', ς, μ', Ec, _, S', L.mono l, G.mono l, h, fun rs μ2 W2 H2 vs h2 l2 S2 mvs => q _ _ _ _ _ h2 (l.trans l2) S2 (.cons (MR.mono l2 mv) mvs)⟩⟩
/-! statements -/
theorem mss_nil : PSs X [] (tS (cn X ts) E sNil) := pss_w pss_nil fun σ H D ⟨W, ς, μ, N, S, L, m, G⟩ => G.nx _ _ _ _ _ m (Wo.le.refl _) S L
theorem mss_cons {st : Stmt} {r : List Stmt} {m n : SM} (h : PS X st (tS (cn X ts) E m)) (k : PSs X r (tS (cn X ts) E n)) : PSs X (st :: r) (tS (cn X ts) E (sSeq m n)) := pss_w (pss_cons h k) fun σ H D ⟨W, ς, μ, N, S, L, m, G⟩ =>
  ⟨W, ς, μ, { N with nx := n N }, S, L, m, ⟨fun ς' μ' W' H' σ' h l S' L' => ⟨W', ς', μ', N, S', L', h, G.mono l⟩, G.rt, G.bk, G.ct, G.ex⟩⟩
theorem mss_one {st : Stmt} {m : SM} (h : PS X st (tS (cn X ts) E m)) : PSs X [st] (tS (cn X ts) E m) := pss_one h
theorem ms_ret {e : Expr} {m : EM} (h : PE X e (tM (cn X ts) E m)) : PS X (.Return (some e) pos) (tS (cn X ts) E (sRet m)) := ps_w (ps_ret h) fun σ H D ⟨W, ς, μ, N, S, L, m, G⟩ => ⟨W, ς, μ, N.ex, N.rt, S, L, G.ex, m, G.rt⟩
theorem ms_retN : PS X (.Return none pos) (tS (cn X ts) E sRetN) := ps_w ps_retN fun σ H D ⟨W, ς, μ, N, S, L, m, G⟩ => G.rt _ _ _ _ _ m (Wo.le.refl _) S .non
theorem ms_exp {e : Expr} {m : EM} (h : PE X e (tM (cn X ts) E m)) (hs : swapsWith e none pos.line X.env = pure false := by rfl) : PS X (.Expr e pos) (tS (cn X ts) E (sExp m)) := ps_w (ps_expr h hs) fun σ H D ⟨W, ς, μ, N, S, L, m, G⟩ =>
  ⟨W, ς, μ, N.ex, _, S, L, G.ex, m, fun r μ' W' H' v h l S' mv => G.nx _ _ _ _ _ h l S' (L.mono l)⟩
theorem ms_if {c : Expr} {a b : List Stmt} {k : EM} {m n : SM} (hc : PT X c (tB (cn X ts) E k)) (ha : PSs X a (tS (cn X ts) E m)) (hb : PSs X b (tS (cn X ts) E n)) : PS X (.If c a b pos) (tS (cn X ts) E (sIf k m n)) := ps_w (ps_if hc ha hb) fun σ H D ⟨W, ς, μ, N, S, L, m, G⟩ =>
  ⟨W, ς, μ, N.ex, _, S, L, G.ex, m, fun r μ' W' H' h l S' => by
    cases r with
    | true => exact ⟨W', ς, μ', N, S', L.mono l, h, G.mono l⟩
    | false => exact ⟨W', ς, μ', N, S', L.mono l, h, G.mono l⟩⟩
theorem ms_set {i : Nat} {x : Str} {e : Expr} {pos' : Pos} {m : EM} (hN : X.N.Nodup) (hi : X.N[i]? = some x) (hx : Loc X.env.scope x) (he : PE X e (tM (cn X ts) E m)) (hs : swapsWith e (some (.Name x pos')) pos.line X.env = pure false := by rfl)
    (hf : X.fn x = true ∨ X.env.scope.names.lookup x = some .local := by first | exact .inl rfl | exact .inr rfl | assumption) : PS X (.Assign [.Name x pos'] e pos) (tS (cn X ts) E (sSet i m)) := ps_w (ps_set hN hi hx he hs hf) fun σ H D ⟨W, ς, μ, N, S, L, m, G⟩ =>
  ⟨W, ς, μ, N.ex, _, S, L, G.ex, m, fun r μ' W' H' v h l S' mv => G.nx _ _ _ _ _ h l S' ((L.mono l).set mv)⟩
theorem ms_brk : PS X (.Break pos) (tS (cn X ts) E sBrk) := ps_w ps_break fun σ H D ⟨W, ς, μ, N, S, L, m, G⟩ => G.bk _ _ _ _ _ m (Wo.le.refl _) S L
theorem ms_cnt : PS X (.Continue pos) (tS (cn X ts) E sCnt) := ps_w ps_continue fun σ H D ⟨W, ς, μ, N, S, L, m, G⟩ => G.ct _ _ _ _ _ m (Wo.le.refl _) S L
end
end Eg
/-! the engine: defs, calls, objects, errors -/
namespace Eg
open Evl (Ex)
open PySem PySem.Spec PyProof.Rows L2 Sn LamX
/-- a def's promise by its mirror -/
def spM (c : Cn) (n : Nat) (m : FM) : Sp := fun vs H Q E => vs.length = n ∧ ∃ W rs μ Ec Qc, Sim c W μ H ∧ MRs c W rs vs ∧ GoX c E W Ec ∧ m rs μ Ec Qc ∧ GoV c W Q Qc
/-- a def whose cells go with it -/
def mdef (np n : Nat) (b : SM) : FM := fun rs μ E Q => rs.length = np ∧ b
  ⟨fun _ μ' => μ.cs <+: μ'.cs ∧ Q (.d .non) ⟨μ.cs, μ'.T⟩, fun r μ' => match r with | .d x => μ.cs <+: μ'.cs ∧ Q (.d x) ⟨μ.cs, μ'.T⟩ | _ => False, fun _ _ => False, fun _ _ => False, fun x μ' => μ.cs <+: μ'.cs ∧ E x ⟨μ.cs, μ'.T⟩⟩
  (rs.map some ++ List.replicate (n - rs.length) none) μ
/-- a def whose cells stay -/
def mdefK (np n : Nat) (b : SM) : FM := fun rs μ E Q => rs.length = np ∧ b ⟨fun _ μ' => Q (.d .non) μ', Q, fun _ _ => False, fun _ _ => False, E⟩ (rs.map some ++ List.replicate (n - rs.length) none) μ
theorem slots_start {c : Cn} {W : Wo} {rs : List R} {vs : List V} (n : Nat) (h : MRs c W rs vs) : Slots c W (rs.map some ++ List.replicate (n - rs.length) none) (vs.map some ++ List.replicate (n - vs.length) none) := by
  have hl : rs.length = vs.length := Paired.length h
  refine ⟨by simp [hl], fun i r e => ?_⟩
  by_cases hi : i < rs.length
  · rw [List.getElem?_append_left (by simpa using hi), List.getElem?_map] at e
    rw [List.getElem?_append_left (by rw [List.length_map, ← hl]; exact hi), List.getElem?_map]
    cases hr : rs[i]? with
    | none => rw [hr] at e; cases e
    | some r' =>
      rw [hr] at e
      cases e
      obtain ⟨v, h1, h2⟩ := paired_get h hr
      exact ⟨v, by rw [h1]; rfl, h2⟩
  · rw [List.getElem?_append_right (by simpa using hi), List.getElem?_replicate] at e
    split at e <;> cases e
/-- cells of an older world seen in a later one -/
theorem MR.back {c : Cn} {W W' : Wo} (l : W.le W') {r : R} {v v' : V} (h : MR c W r v) (h' : MR c W' r v') : MR c ⟨W'.F, W.φ, W'.S, W'.Z⟩ r v' := by
  match r, h, h' with
  | .d _, _, h' => exact h'
  | .cell n, ⟨a, h1, _⟩, ⟨a', h2, h3⟩ =>
    have := prefix_get l.φ h1
    rw [h2] at this
    cases this
    exact ⟨a, h1, h3⟩
  | .src, _, h' => exact h'
  | .cls _, _, h' => exact h'
  | .scr _, _, h' => exact h'
theorem MRs.back {c : Cn} {W W' : Wo} (l : W.le W') : ∀ {rs : List R} {vs vs' : List V}, MRs c W rs vs → MRs c W' rs vs' → MRs c ⟨W'.F, W.φ, W'.S, W'.Z⟩ rs vs'
  | _, _, _, .nil, .nil => .nil
  | _, _, _, .cons a b, .cons a' b' => .cons (MR.back l a a') (MRs.back l b b')
theorem MC.back {c : Cn} {W W' : Wo} (l : W.le W') {e : Ce} {o o' : Option HO} (h : MC c W e o) (h' : MC c W' e o') : MC c ⟨W'.F, W.φ, W'.S, W'.Z⟩ e o' := by
  match e, h, h' with
  | .lst _, ⟨_, _, b⟩, ⟨vs, a', b'⟩ => exact ⟨vs, a', b.back l b'⟩
  | .dic _, ⟨_, _, _, b⟩, ⟨vs, a', k', b'⟩ => exact ⟨vs, a', k', b.back l b'⟩
  | .dit _, ⟨_, _, _, b⟩, ⟨vs, a', k', b'⟩ => exact ⟨vs, a', k', b.back l b'⟩
  | .ins _ _, ⟨_, _, _, _, b⟩, ⟨dx, vs, a', k', b'⟩ => exact ⟨dx, vs, a', k', b.back l b'⟩
  | .dead, _, h' => exact h'
def Wo.pop (W W' : Wo) : Wo := ⟨W'.F, W.φ, W'.S, W'.Z⟩
theorem Wo.le.pop {W W' : Wo} (l : W.le W') : W.le (W.pop W') := ⟨⟨l.F, List.prefix_refl _, l.S⟩, l.Z⟩
theorem Sim.pop {c : Cn} {W W' : Wo} {μ μ' : Sto} {H H' : Hp} (S : Sim c W μ H) (S' : Sim c W' μ' H') (l : W.le W') (p : μ.cs <+: μ'.cs) : Sim c (W.pop W') ⟨μ.cs, μ'.T⟩ H' where
  ex := S'.ex
  nt := S'.nt
  len := S.len
  nd := S.nd
  out := fun n a e h1 h2 h3 => S'.out n a e (prefix_get l.φ h1) (prefix_get p h2) h3
  ntc := fun a ha => S'.ntc a (l.φ.subset ha)
  cel := fun n a e h1 h2 => MC.back l (S.cel n a e h1 h2) (S'.cel n a e (prefix_get l.φ h1) (prefix_get p h2))
  src := by
    have := S'.src
    unfold SrcOk Wo.pop at *
    match hS : W'.S, this with
    | none, _ => trivial
    | some (sa, la, ca), ⟨d, f1, f2, f3, g1, g2, g3⟩ => exact ⟨d, f1, f2, f3, fun z => g1 (l.φ.subset z), fun z => g2 (l.φ.subset z), fun z => g3 (l.φ.subset z)⟩
  tab := S'.tab
  zx := S'.zx
  zt := S'.zt
  zd := fun a o hz => let ⟨z1, z2, z3⟩ := S'.zd a o hz; ⟨z1, fun z => z2 (l.φ.subset z), z3⟩
  tp := S'.tp
theorem pop_go {c : Cn} {W : Wo} {μ : Sto} {H : Hp} {Q : VK} {Qc : RK} {E : XK} {Ec : XC} (S : Sim c W μ H) (q : GoV c W Q Qc) (G : GoX c E W Ec) :
    GoN c E W { nx := fun _ H' => Q .non H', rt := Q } ⟨fun _ μ' => μ.cs <+: μ'.cs ∧ Qc (.d .non) ⟨μ.cs, μ'.T⟩, fun r μ' => match r with | .d x => μ.cs <+: μ'.cs ∧ Qc (.d x) ⟨μ.cs, μ'.T⟩ | _ => False, fun _ _ => False, fun _ _ => False, fun x μ' => μ.cs <+: μ'.cs ∧ Ec x ⟨μ.cs, μ'.T⟩⟩ := by
  refine ⟨fun ς' μ' W' H' σ' ⟨p, h⟩ l S' L' => ?_, fun r μ' W' H' v h l S' mv => ?_, fun _ _ _ _ _ h => h.elim, fun _ _ _ _ _ h => h.elim, fun x μ' W' H' cls d ⟨p, h⟩ l S' mx => ?_⟩
  · exact q _ _ _ _ _ h l.pop (S.pop S' l p) .non
  · match r, h, mv with
    | .d x, ⟨p, h⟩, mv => exact q _ _ _ _ _ h l.pop (S.pop S' l p) mv
  · exact G _ _ _ _ _ _ h l.pop (S.pop S' l p) mx
section
variable {P : Program} {w : World} {K : PySem.W.Frag} {mg : Str → Option Value} {base : Heap} {k : Nat} {ts : List (Addr × Str)}
abbrev FnM (P : Program) (w : World) (K : PySem.W.Frag) (mg : Str → Option Value) (base : Heap) (ts : List (Addr × Str)) (k : Nat) (f : Addr) (fd : FuncData) (ps : List Str) (m : FM) : Prop := FnOk P w K mg base (L2.CX P w) k f fd ps (spM ⟨P, w, K, ts⟩ ps.length m)
abbrev FnMG (P : Program) (w : World) (K : PySem.W.Frag) (mg : Str → Option Value) (base : Heap) (ts : List (Addr × Str)) (k : Nat) (f : Addr) (fd : FuncData) (ps : List Str) (m : FM) : Prop := FnG P w K mg base (L2.CX P w) k f fd ps (spM ⟨P, w, K, ts⟩ ps.length m)
theorem start_go {c : Cn} {sm : SM} {N ps : List Str} {vs : List V} {H : Hp} {Q : VK} {E : XK} (h : spM c ps.length (mdef ps.length N.length sm) vs H Q E) : tS c E sm { nx := fun _ H' => Q .non H', rt := Q } (L2.start N vs) H := by
  obtain ⟨hl, W, rs, μ, Ec, Qc, S, M, G, m, q⟩ := h
  exact ⟨W, _, μ, _, S, slots_start _ M, m.2, pop_go S q G⟩
theorem start_goK {c : Cn} {sm : SM} {N ps : List Str} {vs : List V} {H : Hp} {Q : VK} {E : XK} (h : spM c ps.length (mdefK ps.length N.length sm) vs H Q E) : tS c E sm { nx := fun _ H' => Q .non H', rt := Q } (L2.start N vs) H := by
  obtain ⟨hl, W, rs, μ, Ec, Qc, S, M, G, m, q⟩ := h
  exact ⟨W, _, μ, _, S, slots_start _ M, m.2, ⟨fun ς' μ' W' H' σ' h l S' L' => q _ _ _ _ _ h l S' .non, q, fun _ _ _ _ _ h => h.elim, fun _ _ _ _ _ h => h.elim, G⟩⟩
/-- a def without repr, by its body -/
theorem fnM {x q : Str} {st : Stmt} {f : Addr} {fd : FuncData} {N ps : List Str} {sm : SM} (F : Fun K x q st f fd) (S : FnScope N ps (defScope st))
    (hb : ∀ (cv : Value) (A : Around) (outer : List Env) (s : Shared) (H : Hp) (E : XK), Room k (A.deeper (envOfC q (defScope st) s.heap.objs.size f cv)) →
      PSs (cxOf (L2.CX P w) P w K mg base N q (defScope st) f cv A outer s H E) (defBody st) (tS ⟨P, w, K, ts⟩ E sm)) : FnM P w K mg base ts (k + 1) f fd ps (mdef ps.length N.length sm) := by
  obtain ⟨oc, od, kV, dc, pm, an, cv, ct, ol, rfl, lk, hc⟩ := F.ex
  exact fn_of lk hc S (fun vs H Q E h => h.1) fun A outer s H vs Q E hr hs => ⟨_, hb cv A outer s H E hr, start_go hs⟩
theorem fnMK {x q : Str} {st : Stmt} {f : Addr} {fd : FuncData} {N ps : List Str} {sm : SM} (F : Fun K x q st f fd) (S : FnScope N ps (defScope st))
    (hb : ∀ (cv : Value) (A : Around) (outer : List Env) (s : Shared) (H : Hp) (E : XK), Room k (A.deeper (envOfC q (defScope st) s.heap.objs.size f cv)) →
      PSs (cxOf (L2.CX P w) P w K mg base N q (defScope st) f cv A outer s H E) (defBody st) (tS ⟨P, w, K, ts⟩ E sm)) : FnM P w K mg base ts (k + 1) f fd ps (mdefK ps.length N.length sm) := by
  obtain ⟨oc, od, kV, dc, pm, an, cv, ct, ol, rfl, lk, hc⟩ := F.ex
  exact fn_of lk hc S (fun vs H Q E h => h.1) fun A outer s H vs Q E hr hs => ⟨_, hb cv A outer s H E hr, start_goK hs⟩
/-- a def that shows containers -/
theorem fnMG {x q : Str} {st : Stmt} {f : Addr} {fd : FuncData} {N ps : List Str} {sm : SM} (F : Fun K x q st f fd) (S : FnScope N ps (defScope st))
    (hb : ∀ (cv : Value) (A : Around) (outer : List Env) (s : Shared) (H : Hp) (E : XK), Still (A.deeper (envOfC q (defScope st) s.heap.objs.size f cv)) → Room k (A.deeper (envOfC q (defScope st) s.heap.objs.size f cv)) →
      PSs (cxOf (L2.CX P w) P w K mg base N q (defScope st) f cv A outer s H E) (defBody st) (tS ⟨P, w, K, ts⟩ E sm)) : FnMG P w K mg base ts (k + 1) f fd ps (mdef ps.length N.length sm) := by
  obtain ⟨oc, od, kV, dc, pm, an, cv, ct, ol, rfl, lk, hc⟩ := F.ex
  exact fnG_of lk hc S (fun vs H Q E h => h.1) fun A outer s H vs Q E hg hr hs => ⟨_, hb cv A outer s H E hg hr, start_go hs⟩
/-- defs that make lambdas: the code object's place is told -/
theorem fnMT {x q : Str} {st : Stmt} {f cc : Addr} {fd : FuncData} {N ps : List Str} {sm : SM} (F : FunT K x q st f fd cc) (S : FnScope N ps (defScope st))
    (hb : ∀ (A : Around) (outer : List Env) (s : Shared) (H : Hp) (E : XK), Room k (A.deeper (envOfC q (defScope st) s.heap.objs.size f (.ref cc))) →
      PSs (cxOf (L2.CX P w) P w K mg base N q (defScope st) f (.ref cc) A outer s H E) (defBody st) (tS ⟨P, w, K, ts⟩ E sm)) : FnM P w K mg base ts (k + 1) f fd ps (mdef ps.length N.length sm) := by
  obtain ⟨oc, od, kV, dc, pm, an, ct, ol, rfl, lk, hc⟩ := F.ex
  exact fn_of lk hc S (fun vs H Q E h => h.1) fun A outer s H vs Q E hr hs => ⟨_, hb A outer s H E hr, start_go hs⟩
theorem fnMTG {x q : Str} {st : Stmt} {f cc : Addr} {fd : FuncData} {N ps : List Str} {sm : SM} (F : FunT K x q st f fd cc) (S : FnScope N ps (defScope st))
    (hb : ∀ (A : Around) (outer : List Env) (s : Shared) (H : Hp) (E : XK), Still (A.deeper (envOfC q (defScope st) s.heap.objs.size f (.ref cc))) → Room k (A.deeper (envOfC q (defScope st) s.heap.objs.size f (.ref cc))) →
      PSs (cxOf (L2.CX P w) P w K mg base N q (defScope st) f (.ref cc) A outer s H E) (defBody st) (tS ⟨P, w, K, ts⟩ E sm)) : FnMG P w K mg base ts (k + 1) f fd ps (mdef ps.length N.length sm) := by
  obtain ⟨oc, od, kV, dc, pm, an, ct, ol, rfl, lk, hc⟩ := F.ex
  exact fnG_of lk hc S (fun vs H Q E h => h.1) fun A outer s H vs Q E hg hr hs => ⟨_, hb A outer s H E hg hr, start_go hs⟩
/-- how many arguments a mirror takes -/
def Ar (n : Nat) (m : FM) : Prop := ∀ rs μ E Q, m rs μ E Q → rs.length = n
theorem ar_def {np n : Nat} {b : SM} : Ar np (mdef np n b) := fun _ _ _ _ h => h.1
theorem ar_defK {np n : Nat} {b : SM} : Ar np (mdefK np n b) := fun _ _ _ _ h => h.1
/-- a def of the module, by its name -/
structure Cl (P : Program) (w : World) (K : PySem.W.Frag) (mg : Str → Option Value) (base : Heap) (ts : List (Addr × Str)) (k : Nat) (x : Str) (ps : List Str) (m : FM) : Prop where
  ar : Ar ps.length m
  ex : ∃ (f : Addr) (fd : FuncData), FnM P w K mg base ts k f fd ps m ∧ Binds K fd ps [] ∧ mg x = some (.ref f) ∧ PySem.W.keepIn K (.ref f) = true
structure ClG (P : Program) (w : World) (K : PySem.W.Frag) (mg : Str → Option Value) (base : Heap) (ts : List (Addr × Str)) (k : Nat) (x : Str) (ps : List Str) (m : FM) : Prop where
  ar : Ar ps.length m
  ex : ∃ (f : Addr) (fd : FuncData), FnMG P w K mg base ts k f fd ps m ∧ Binds K fd ps [] ∧ mg x = some (.ref f) ∧ PySem.W.keepIn K (.ref f) = true
/-- a method -/
structure ClM (P : Program) (w : World) (K : PySem.W.Frag) (mg : Str → Option Value) (base : Heap) (ts : List (Addr × Str)) (k : Nat) (C : Addr) (x : Str) (ps : List Str) (m : FM) : Prop where
  ar : Ar ps.length m
  ex : ∃ (f : Addr) (fd : FuncData), Cls K C ∧ Meth K C x f ∧ FnM P w K mg base ts k f fd ps m ∧ Binds K fd ps []
/-- a property -/
structure ClP (P : Program) (w : World) (K : PySem.W.Frag) (mg : Str → Option Value) (base : Heap) (ts : List (Addr × Str)) (k : Nat) (C : Addr) (x : Str) (m : FM) : Prop where
  ar : Ar 1 m
  ex : ∃ (p g : Addr) (fd : FuncData), Cls K C ∧ PropOf K C x p g ∧ FnM P w K mg base ts k g fd ["self"] m ∧ Binds K fd ["self"] []
/-- a class, made by its __init__ -/
structure ClC (P : Program) (w : World) (K : PySem.W.Frag) (mg : Str → Option Value) (base : Heap) (ts : List (Addr × Str)) (k : Nat) (C : Addr) (x : Str) (ps : List Str) (m : FM) : Prop where
  ar : Ar ps.length m
  ex : ∃ (f : Addr) (fd : FuncData), Mk K C f ∧ FnM P w K mg base ts k f fd ps m ∧ Binds K fd ps [] ∧ mg x = some (.ref C)
end
/-! ### calls -/
def eCall (m : FM) (a : AM) : EM := fun ς μ E Q => a ς μ E fun rs μ1 => m rs μ1 E Q
/-- an instance of the class C without an attribute nm of its own -/
def isO (C : Addr) (nm : Str) (μ : Sto) : R → Prop
  | .d (.obj C' fs) => C' = C ∧ fs.lookup nm = none
  | .cell n => match μ.cs[n]? with | some (.ins C' fs) => C' = C ∧ fs.lookup nm = none | _ => False
  | _ => False
def eMeth (C : Addr) (nm : Str) (m : FM) (o : EM) (a : AM) : EM := fun ς μ E Q => o ς μ E fun r μ1 => isO C nm μ1 r ∧ a ς μ1 E fun rs μ2 => m (r :: rs) μ2 E Q
def isI (C : Addr) (μ : Sto) : R → Prop
  | .d (.obj C' fs) => C' = C
  | .cell n => match μ.cs[n]? with | some (.ins C' fs) => C' = C | _ => False
  | _ => False
def ePrp (C : Addr) (m : FM) (o : EM) : EM := fun ς μ E Q => o ς μ E fun r μ1 => isI C μ1 r ∧ m [r] μ1 (fun _ _ => False) Q
section
variable {c : Cn} {W : Wo} {μ : Sto} {H : Hp} {E : XK} {Ec : XC} {Q : VK} {Qc : RK}
theorem spM_go {n : Nat} {m : FM} {rs : List R} {vs : List V} (hl : rs.length = n) (S : Sim c W μ H) (M : MRs c W rs vs) (G : GoX c E W Ec) (h : m rs μ Ec Qc) (q : GoV c W Q Qc) : spM c n m vs H Q E := ⟨by rw [← hl]; exact (Paired.length M).symm, W, rs, μ, Ec, Qc, S, M, G, h, q⟩
theorem lookup_of {fs : List (Str × V)} {gs : List (Str × D)} (h : fs.map (·.1) = gs.map (·.1)) {x : Str} (e : gs.lookup x = none) : fs.lookup x = none := by
  induction fs generalizing gs with
  | nil => rfl
  | cons p r ih =>
    match gs, h with
    | q :: t, h =>
      rw [List.map_cons, List.map_cons] at h
      injection h with h1 h2
      obtain ⟨a, b⟩ := p
      obtain ⟨a', b'⟩ := q
      obtain rfl : a = a' := h1
      rw [List.lookup_cons] at e ⊢
      split at e
      · cases e
      · exact ih h2 e
theorem lookup_ofR {fs : List (Str × V)} {gs : List (Str × R)} (h : fs.map (·.1) = gs.map (·.1)) {x : Str} (e : gs.lookup x = none) : fs.lookup x = none := by
  induction fs generalizing gs with
  | nil => rfl
  | cons p r ih =>
    match gs, h with
    | q :: t, h =>
      rw [List.map_cons, List.map_cons] at h
      injection h with h1 h2
      obtain ⟨a, b⟩ := p
      obtain ⟨a', b'⟩ := q
      obtain rfl : a = a' := h1
      rw [List.lookup_cons] at e ⊢
      split at e
      · cases e
      · exact ih h2 e
theorem isI_go {C : Addr} {r : R} {v : V} (S : Sim c W μ H) (h : isI C μ r) (m : MR c W r v) : ∃ a dx fs, v = .ref a ∧ H a = some (.ins C dx fs) := by
  match r, h, m with
  | .d (.obj C' fs), h, m =>
    cases m with
    | obj h1 _ _ => cases h; exact ⟨_, _, _, rfl, S.ex _ _ h1⟩
  | .cell n, h, ⟨a, h1, h2⟩ =>
    unfold isI at h
    simp only at h
    split at h
    · rename_i C' fs e
      cases h
      obtain ⟨dx, vf, h3, _⟩ := S.cel n a _ h1 e
      exact ⟨a, dx, vf, h2, h3⟩
    · exact h.elim
theorem isO_go {C : Addr} {nm : Str} {r : R} {v : V} (S : Sim c W μ H) (h : isO C nm μ r) (m : MR c W r v) : ∃ a dx fs, v = .ref a ∧ H a = some (.ins C dx fs) ∧ fs.lookup nm = none := by
  match r, h, m with
  | .d (.obj C' fs), h, m =>
    cases m with
    | obj h1 h2 _ => obtain ⟨rfl, h5⟩ := h; exact ⟨_, _, _, rfl, S.ex _ _ h1, lookup_of h2 h5⟩
  | .cell n, h, ⟨a, h1, h2⟩ =>
    unfold isO at h
    simp only at h
    split at h
    · rename_i C' fs e
      obtain ⟨rfl, h5⟩ := h
      obtain ⟨dx, vf, h3, h4, _⟩ := S.cel n a _ h1 e
      exact ⟨a, dx, vf, h2, h3, lookup_ofR h4 h5⟩
    · exact h.elim
end
section
variable {X : Cx} {ts : List (Addr × Str)} {E : XK} {pos : Pos} {k : Nat}
theorem call_sp {c : Cn} {n : Nat} {m : FM} {a : AM} (hn : Ar n m) : ∀ σ H Q, tM c E (eCall m a) σ H Q → tA c E a σ H fun vs H1 => spM c n m vs H1 Q E := fun σ H Q ⟨W, ς, μ, Ec, Qc, S, L, G, m, q⟩ =>
  ⟨W, ς, μ, Ec, _, S, L, G, m, fun rs μ1 W1 H1 vs h l S1 M => spM_go (hn _ _ _ _ h) S1 M (G.mono l) h (q.mono l)⟩
theorem nil_app {sp : Sp} {E : XK} {t : TA} {Q : VK} {σ : L2.St} {H : Hp} (h : t σ H fun vs H1 => sp (vs ++ []) H1 Q E) : tCall sp [] E t σ H Q := h
theorem ta_mono {c : Cn} {a : AM} {σ : L2.St} {H : Hp} {Q Q' : List V → Hp → Prop} (h : tA c E a σ H Q) (k : ∀ vs H, Q vs H → Q' vs H) : tA c E a σ H Q' := by
  obtain ⟨W, ς, μ, Ec, Qc, S, L, G, m, q⟩ := h
  exact ⟨W, ς, μ, Ec, Qc, S, L, G, m, fun r μ' W' H' v h l S' mv => k _ _ (q r μ' W' H' v h l S' mv)⟩
theorem me_call {x : Str} {ps : List Str} {m : FM} {e : Expr} {es : List Expr} {p : Pos} {a : AM} (c : Cl X.prog X.w X.K X.mg X.base ts k x ps m) (tk : Takes X (fun cls d _ H' => E cls d H')) (hr : Room k X.A) (ha : PA X (e :: es) (tA (cn X ts) E a)) (hg : Gl X x := by rfl)
    (hdb : (x == ("__debug__" : Str)) = false := by decide) (he : starEach (e :: es) X.env = (false, eval e X.env) :: starEach es X.env := by rfl) (hpl : (backTo pos (starEach es X.env)).any (·.1) = false := by rfl) :
    PE X (.Call (.Name x p) (e :: es) [] pos) (tM (cn X ts) E (eCall m a)) := by
  obtain ⟨f, fd, F, b, hm, kp⟩ := c.ex
  refine pe_w (pe_call F hr hg hm kp b .nil (passes_call tk fun _ _ _ _ h => h) ha hdb he hpl) fun σ H Q h => ?_
  exact ta_mono (call_sp c.ar σ H Q h) fun vs H1 h1 => by rw [List.append_nil]; exact h1
theorem me_call0 {x : Str} {ps : List Str} {m : FM} {p : Pos} (c : Cl X.prog X.w X.K X.mg X.base ts k x ps m) (tk : Takes X (fun cls d _ H' => E cls d H')) (hr : Room k X.A) (hg : Gl X x := by rfl)
    (hdb : (x == ("__debug__" : Str)) = false := by decide) : PE X (.Call (.Name x p) [] [] pos) (tM (cn X ts) E (eCall m aNil)) := by
  obtain ⟨f, fd, F, b, hm, kp⟩ := c.ex
  refine pe_w (pe_call0 F hr hg hm kp b .nil (passes_call tk fun _ _ _ _ h => h) hdb) fun σ H Q ⟨W, ς, μ, Ec, Qc, S, L, G, m, q⟩ => ?_
  exact spM_go (c.ar _ _ _ _ m) S .nil G m q
theorem me_callG {x : Str} {ps : List Str} {m : FM} {e : Expr} {es : List Expr} {p : Pos} {a : AM} (c : ClG X.prog X.w X.K X.mg X.base ts k x ps m) (tk : Takes X (fun cls d _ H' => E cls d H')) (hs : Still X.A) (hr : Room k X.A) (ha : PA X (e :: es) (tA (cn X ts) E a)) (hg : Gl X x := by rfl)
    (hdb : (x == ("__debug__" : Str)) = false := by decide) (he : starEach (e :: es) X.env = (false, eval e X.env) :: starEach es X.env := by rfl) (hpl : (backTo pos (starEach es X.env)).any (·.1) = false := by rfl) :
    PE X (.Call (.Name x p) (e :: es) [] pos) (tM (cn X ts) E (eCall m a)) := by
  obtain ⟨f, fd, F, b, hm, kp⟩ := c.ex
  refine ⟨fun pins s σ H Q I h => wpAny_Call_Name_kw (ld_glob I hg hm ?_ hdb)⟩
  refine PySem.W.callWith_K (h₀ := X.base) I.ok.mod.kin kp (thn (ha.run pos pins s σ H _ I (call_sp c.ar σ H Q h)) fun us s1 ⟨vs, H1, J, r, z⟩ => ⟨J.kIn, ?_⟩) he hpl
  have r2 : Vals (vs ++ []) (us ++ []) := r.append .nil
  refine wpAny_call (codeAny_mono (F.run X.A X.stack s1 H1 ⟨us, []⟩ (us ++ []) (vs ++ []) Q E hs hr J.env0 (b s1 us J.kIn (by rw [← r2.length, List.append_nil]; exact z.1)) r2 (by rw [List.append_nil]; exact z)) fun u s' y => ?_)
  match u, y with
  | .error _, y => exact passes_call tk (fun _ _ _ _ h => h) pins σ H1 s1 _ s' J y
  | .ok (.ret _), y => exact J.after y
  | .ok .next, y => exact y.elim
  | .ok .brk, y => exact y.elim
  | .ok .cont, y => exact y.elim
theorem me_meth {pl : Sem Bool} {C : Addr} {nm : Str} {ps : List Str} {m : FM} {o e : Expr} {es : List Expr} {apos : Pos} {om : EM} {a : AM} (c : ClM X.prog X.w X.K X.mg X.base ts k C nm ps m) (tk : Takes X (fun cls d _ H' => E cls d H')) (hr : Room k X.A) (ho : PE X o (tM (cn X ts) E om)) (ha : PA X (e :: es) (tA (cn X ts) E a))
    (hst : starEach (e :: es) X.env = (false, eval e X.env) :: starEach es X.env := by rfl) (hpl : (backTo pos (starEach es X.env)).any (·.1) = false := by rfl)
    (ht : eval (.Call (.Attribute o nm apos) (e :: es) [] pos) X.env = (do
      let ov ← eval o X.env
      standAt apos.atName
      let (f, first) ← holding [ov] (getMethod ov nm pl)
      callWith pos f first (backTo pos (starEach (e :: es) X.env)) (backToKw pos (keywordEach [] X.env))) := by rfl) :
    PE X (.Call (.Attribute o nm apos) (e :: es) [] pos) (tM (cn X ts) E (eMeth C nm m om a)) := by
  obtain ⟨f, fd, cl, hm, F, b⟩ := c.ex
  refine pe_w (pe_meth ho cl hm F hr b .nil (passes_call tk fun _ _ _ _ h => h) ha hst hpl ht) fun σ H Q ⟨W, ς, μ, Ec, Qc, S, L, G, m, q⟩ => ?_
  refine ⟨W, ς, μ, Ec, _, S, L, G, m, fun r μ1 W1 H1 v ⟨h1, h2⟩ l S1 mv => ?_⟩
  obtain ⟨a', dx, fs, rfl, g1, g2⟩ := isO_go S1 h1 mv
  refine ⟨a', dx, fs, rfl, g1, g2, W1, ς, μ1, Ec, _, S1, L.mono l, G.mono l, h2, fun rs μ2 W2 H2 vs h l2 S2 mvs => ?_⟩
  show spM _ _ _ (_ :: (vs ++ [])) _ _ _
  rw [List.append_nil]
  exact spM_go (c.ar _ _ _ _ h) S2 (.cons (MR.mono l2 mv) mvs) (G.mono (l.trans l2)) h (q.mono (l.trans l2))
theorem me_meth0 {pl : Sem Bool} {C : Addr} {nm : Str} {ps : List Str} {m : FM} {o : Expr} {apos : Pos} {om : EM} (c : ClM X.prog X.w X.K X.mg X.base ts k C nm ps m) (tk : Takes X (fun cls d _ H' => E cls d H')) (hr : Room k X.A) (ho : PE X o (tM (cn X ts) E om))
    (ht : eval (.Call (.Attribute o nm apos) [] [] pos) X.env = (do
      let ov ← eval o X.env
      standAt apos.atName
      let (f, first) ← holding [ov] (getMethod ov nm pl)
      callWith pos f first (backTo pos (starEach [] X.env)) (backToKw pos (keywordEach [] X.env))) := by rfl) :
    PE X (.Call (.Attribute o nm apos) [] [] pos) (tM (cn X ts) E (eMeth C nm m om aNil)) := by
  obtain ⟨f, fd, cl, hm, F, b⟩ := c.ex
  refine pe_w (pe_meth0 ho cl hm F hr b .nil (passes_call tk fun _ _ _ _ h => h) ht) fun σ H Q ⟨W, ς, μ, Ec, Qc, S, L, G, m, q⟩ => ?_
  refine ⟨W, ς, μ, Ec, _, S, L, G, m, fun r μ1 W1 H1 v ⟨h1, h2⟩ l S1 mv => ?_⟩
  obtain ⟨a', dx, fs, rfl, g1, g2⟩ := isO_go S1 h1 mv
  exact ⟨a', dx, fs, rfl, g1, g2, spM_go (c.ar _ _ _ _ h2) S1 (.cons mv .nil) (G.mono l) h2 (q.mono l)⟩
theorem me_prp {C : Addr} {nm : Str} {m : FM} {o : Expr} {om : EM} (c : ClP X.prog X.w X.K X.mg X.base ts k C nm m) (hr : Room (k + 1) X.A) (ho : PE X o (tM (cn X ts) E om)) (hab : attributeBase o nm X.env (eval o X.env) = eval o X.env := by rfl) :
    PE X (.Attribute o nm pos) (tM (cn X ts) E (ePrp C m om)) := by
  obtain ⟨p, g, fd, cl, hp, F, b⟩ := c.ex
  refine pe_w (pe_prop ho cl hp F hr b .nil (passes_call (E := E0) L2.takes0 fun _ _ _ _ h => h) hab) fun σ H Q ⟨W, ς, μ, Ec, Qc, S, L, G, m, q⟩ => ?_
  refine ⟨W, ς, μ, Ec, _, S, L, G, m, fun r μ1 W1 H1 v ⟨h1, h2⟩ l S1 mv => ?_⟩
  obtain ⟨a', dx, fs, rfl, g1⟩ := isI_go S1 h1 mv
  exact ⟨a', dx, fs, rfl, g1, spM_go (c.ar _ _ _ _ h2) S1 (.cons mv .nil) (fun _ _ _ _ _ _ h => h.elim) h2 (q.mono l)⟩
end
end Eg
/-! the engine: objects, errors raised, freezing -/
namespace Eg
open Evl (Ex)
open PySem PySem.Spec PyProof.Rows L2 Sn LamX
/-! ### fields -/
def fldR (C : Addr) (f : Str) (μ : Sto) : R → Option R
  | .d (.obj C' fs) => if C' = C then (fs.lookup f).map R.d else none
  | .cell n => match μ.cs[n]? with | some (.ins C' fs) => if C' = C then fs.lookup f else none | _ => none
  | _ => none
def eFld (C : Addr) (f : Str) (o : EM) : EM := fun ς μ E Q => o ς μ E fun r μ1 => (fldR C f μ1 r).elim False fun y => Q y μ1
def putR (f : Str) (y : R) : List (Str × R) → List (Str × R)
  | [] => [(f, y)]
  | (g, z) :: r => if g = f then (g, y) :: r else (g, z) :: putR f y r
def sFldS (C : Addr) (f : Str) (o e : EM) : SM := fun N ς μ => e ς μ N.ex fun y μ1 => o ς μ1 N.ex fun r μ2 => match r with
  | .cell n => match μ2.cs[n]? with | some (.ins C' fr) => C' = C ∧ fr.length < 1000 ∧ N.nx ς (μ2.put n (.ins C (putR f y fr))) | _ => False
  | _ => False
section
variable {c : Cn} {W : Wo} {μ : Sto} {H : Hp}
theorem look_mv {F : Hp} {f : Str} {y : D} : ∀ {vf : List (Str × V)} {fs : List (Str × D)}, vf.map (·.1) = fs.map (·.1) → MVs c F (fs.map (·.2)) (vf.map (·.2)) → fs.lookup f = some y → ∃ v, vf.lookup f = some v ∧ MV c F y v
  | [], [], _, _, e => by cases e
  | (a, v) :: vf, (b, x) :: fs, h, m, e => by
    rw [List.map_cons, List.map_cons] at h
    injection h with h1 h2
    obtain rfl : a = b := h1
    cases m with
    | cons m1 m2 =>
      rw [List.lookup_cons] at e ⊢
      split at e
      · cases e; exact ⟨v, rfl, m1⟩
      · exact look_mv h2 m2 e
theorem look_mr {f : Str} {y : R} : ∀ {vf : List (Str × V)} {fs : List (Str × R)}, vf.map (·.1) = fs.map (·.1) → MRs c W (fs.map (·.2)) (vf.map (·.2)) → fs.lookup f = some y → ∃ v, vf.lookup f = some v ∧ MR c W y v
  | [], [], _, _, e => by cases e
  | (a, v) :: vf, (b, x) :: fs, h, m, e => by
    rw [List.map_cons, List.map_cons] at h
    injection h with h1 h2
    obtain rfl : a = b := h1
    cases m with
    | cons m1 m2 =>
      rw [List.lookup_cons] at e ⊢
      split at e
      · cases e; exact ⟨v, rfl, m1⟩
      · exact look_mr h2 m2 e
theorem put_mr {f : Str} {y : R} {v : V} (hy : MR c W y v) : ∀ {vf : List (Str × V)} {fs : List (Str × R)}, vf.map (·.1) = fs.map (·.1) → MRs c W (fs.map (·.2)) (vf.map (·.2)) → (putF f v vf).map (·.1) = (putR f y fs).map (·.1) ∧ MRs c W ((putR f y fs).map (·.2)) ((putF f v vf).map (·.2))
  | [], [], _, _ => ⟨rfl, .cons hy .nil⟩
  | (a, u) :: vf, (b, x) :: fs, h, m => by
    rw [List.map_cons, List.map_cons] at h
    injection h with h1 h2
    obtain rfl : a = b := h1
    cases m with
    | cons m1 m2 =>
      obtain ⟨i1, i2⟩ := put_mr hy h2 m2
      unfold putF putR
      by_cases e : a = f
      · rw [if_pos e, if_pos e]
        exact ⟨by rw [List.map_cons, List.map_cons, h2], .cons hy m2⟩
      · rw [if_neg e, if_neg e]
        exact ⟨by rw [List.map_cons, List.map_cons, i1], .cons m1 i2⟩
theorem fld_go {C : Addr} {f : Str} {r y : R} {v : V} (S : Sim c W μ H) (h0 : fldR C f μ r = some y) (m0 : MR c W r v) : ∃ a dx fs u, v = .ref a ∧ H a = some (.ins C dx fs) ∧ fs.lookup f = some u ∧ MR c W y u := by
  match r, h0, m0 with
  | .d (.obj C' fs), h, m =>
    unfold fldR at h
    simp only at h
    split at h
    · rename_i e
      subst e
      cases m with
      | obj h1 h2 h3 =>
        cases hl : fs.lookup f with
        | none => rw [hl] at h; cases h
        | some x =>
          rw [hl] at h
          cases h
          obtain ⟨u, g1, g2⟩ := look_mv h2 h3 hl
          exact ⟨_, _, _, u, rfl, S.ex _ _ h1, g1, g2⟩
    · cases h
  | .cell n, h, ⟨a, h1, h2⟩ =>
    unfold fldR at h
    simp only at h
    split at h
    · rename_i C' fs e
      split at h
      · rename_i e2
        subst e2
        obtain ⟨dx, vf, h3, h4, h5⟩ := S.cel n a _ h1 e
        obtain ⟨u, g1, g2⟩ := look_mr h4 h5 h
        exact ⟨a, dx, vf, u, h2, h3, g1, g2⟩
      · cases h
    · cases h
end
section
variable {X : Cx} {ts : List (Addr × Str)} {E : XK} {pos : Pos} {k : Nat}
theorem me_fld {C : Addr} {f : Str} {o : Expr} {om : EM} (cl : Cls X.K C) (na : NoAttr X.K C f) (ho : PE X o (tM (cn X ts) E om)) (hab : attributeBase o f X.env (eval o X.env) = eval o X.env := by rfl) : PE X (.Attribute o f pos) (tM (cn X ts) E (eFld C f om)) :=
  pe_w (pe_fld ho hab) fun σ H Q ⟨W, ς, μ, Ec, Qc, S, L, G, m, q⟩ => ⟨W, ς, μ, Ec, _, S, L, G, m, fun r μ1 W1 H1 v h l S1 mv => by
    cases hf : fldR C f μ1 r with
    | none => rw [hf] at h; exact h.elim
    | some y =>
      rw [hf] at h
      obtain ⟨a, dx, fs, u, rfl, g1, g2, g3⟩ := fld_go S1 hf mv
      exact ⟨a, C, dx, fs, u, rfl, g1, cl, na, g2, q _ _ _ _ _ h l S1 g3⟩⟩
theorem ms_fld {C : Addr} {f : Str} {o e : Expr} {pos' : Pos} {om em : EM} (cl : Cls X.K C) (na : NoAttr X.K C f) (ho : PE X o (tM (cn X ts) E om)) (he : PE X e (tM (cn X ts) E em)) (hs : swapsWith e (some (.Attribute o f pos')) pos.line X.env = pure false := by rfl) :
    PS X (.Assign [.Attribute o f pos'] e pos) (tS (cn X ts) E (sFldS C f om em)) := ps_w (ps_fld ho he hs) fun σ H D ⟨W, ς, μ, N, S, L, m, G⟩ =>
  ⟨W, ς, μ, N.ex, _, S, L, G.ex, m, fun y μ1 W1 H1 v h l S1 mv => ⟨W1, ς, μ1, N.ex, _, S1, L.mono l, G.ex.mono l, h, fun r μ2 W2 H2 u h2 l2 S2 mv2 => by
    match r, h2, mv2 with
    | .cell n, h2, ⟨a, g1, g2⟩ =>
      simp only at h2
      split at h2
      · rename_i C' fr e
        obtain ⟨rfl, hl, h2⟩ := h2
        obtain ⟨dx, vf, h3, h4, h5⟩ := S2.cel n a _ g1 e
        obtain ⟨i1, i2⟩ := put_mr (f := f) (MR.mono l2 mv) h4 h5
        have hlen : vf.length = fr.length := by have := congrArg List.length h4; simpa using this
        refine ⟨a, C', dx, vf, g2, h3, cl, na, by rw [hlen]; exact hl, G.nx _ _ _ _ _ h2 (l.trans l2) (S2.setC g1 e rfl ?_ ?_) (L.mono (l.trans l2))⟩
        · trivial
        · exact ⟨dx, _, rfl, i1, i2⟩
      · exact h2.elim⟩⟩
end
/-! ### errors raised -/
def sRaise (C : Addr) : SM := fun N _ μ => N.ex ⟨C, []⟩ μ
def sRaiseK (C : Addr) (n : Str) (e : EM) : SM := fun N ς μ => e ς μ N.ex fun r μ1 => match r with | .d x => N.ex ⟨C, [(n, x)]⟩ μ1 | _ => False
section
variable {X : Cx} {ts : List (Addr × Str)} {E : XK} {pos : Pos} {k : Nat}
theorem ms_raise {C : Addr} {x : Str} {p p2 : Pos} (hc : X.calm = true) (tk : Takes X (fun cls d _ H' => E cls d H')) (Rr : Raise0 X.K X.mg C x) (hg : Gl X x := by rfl) (hdb : (x == ("__debug__" : Str)) = false := by decide) :
    PS X (.Raise (some (.Call (.Name x p) [] [] p2)) none pos) (tS (cn X ts) E (sRaise C)) := ps_w (ps_raise hc tk (pr_0 Rr hg hdb)) fun σ H D ⟨W, ς, μ, N, S, L, m, G⟩ => G.ex _ _ _ _ _ _ m (Wo.le.refl _) S ⟨rfl, .inl ⟨rfl, rfl⟩⟩
theorem tabs_ex {ts : List (Addr × Str)} {H H' : Hp} (t : Tabs ts H) (e : Ex H H') : Tabs ts H' := fun q hq => by
  obtain ⟨ps, h1, h2, h3⟩ := t q hq
  exact ⟨ps, e _ _ h1, h2, fun pos cv hc => let ⟨c, e1, e2⟩ := h3 pos cv hc; ⟨c, e1, e _ _ e2⟩⟩
theorem ms_raiseK {C : Addr} {x n : Str} {e : Expr} {em : EM} {p p2 : Pos} (hc : X.calm = true) (tk : Takes X (fun cls d _ H' => E cls d H')) (Rr : RaiseK X.prog X.w X.K X.mg X.base C x n) (hr : Room 1 X.A) (he : PE X e (tM (cn X ts) E em)) (hg : Gl X x := by rfl)
    (hdb : (x == ("__debug__" : Str)) = false := by decide) (hst : starEach [e] X.env = (false, eval e X.env) :: starEach [] X.env := by rfl) :
    PS X (.Raise (some (.Call (.Name x p) [e] [] p2)) none pos) (tS (cn X ts) E (sRaiseK C n em)) := ps_w (ps_raise hc tk (pr_k Rr hr he hg hdb hst)) fun σ H D ⟨W, ς, μ, N, S, L, m, G⟩ =>
  ⟨W, ς, μ, N.ex, _, S, L, G.ex, m, fun r μ1 W1 H1 v h l S1 mv => by
    match r, h, mv with
    | .d x, h, mv =>
      exact mkK (Q := fun cls d H' => E cls d H') fun dd H' ex hd => G.ex _ _ _ _ _ _ h l (S1.more ex (tabs_ex S1.tab ex)) ⟨rfl, .inr ⟨(fun z => by cases z), dd, _, rfl, hd, rfl, .cons mv .nil⟩⟩⟩
end
/-! ### objects made -/
def unF : List (Str × R) → Option (List (Str × D))
  | [] => some []
  | (f, .d x) :: r => (unF r).map fun t => (f, x) :: t
  | _ :: _ => none
theorem unF_mv {c : Cn} {W : Wo} : ∀ {fr : List (Str × R)} {fs : List (Str × D)} {vf : List (Str × V)}, unF fr = some fs → vf.map (·.1) = fr.map (·.1) → MRs c W (fr.map (·.2)) (vf.map (·.2)) → vf.map (·.1) = fs.map (·.1) ∧ MVs c W.F (fs.map (·.2)) (vf.map (·.2))
  | [], _, vf, e, h, m => by
    cases e
    match vf, h with
    | [], _ => exact ⟨rfl, .nil⟩
  | (f, .d x) :: r, fs, vf, e, h, m => by
    unfold unF at e
    cases hr : unF r with
    | none => rw [hr] at e; cases e
    | some t =>
      rw [hr] at e
      cases e
      match vf, h, m with
      | (g, v) :: vf, h, .cons m1 m2 =>
        rw [List.map_cons, List.map_cons] at h
        injection h with h1 h2
        obtain ⟨i1, i2⟩ := unF_mv hr h2 m2
        exact ⟨by rw [List.map_cons, List.map_cons, i1]; exact congrArg (· :: _) h1, .cons m1 i2⟩
  | (f, .cell n) :: r, fs, vf, e, h, m => by cases e
  | (f, .src) :: r, fs, vf, e, h, m => by cases e
  | (f, .cls a) :: r, fs, vf, e, h, m => by cases e
  | (f, .scr a) :: r, fs, vf, e, h, m => by cases e
/-- a new object that is not changed behind its __init__ -/
def eMkF (C : Addr) (m : FM) (a : AM) : EM := fun ς μ E Q => a ς μ E fun rs μ1 => m (.cell μ1.cs.length :: rs) (μ1.new (.ins C [])) (fun x μ' => μ1.cs <+: μ'.cs ∧ E x ⟨μ1.cs, μ'.T⟩)
  fun r μ' => μ1.cs <+: μ'.cs ∧ match μ'.cs[μ1.cs.length]? with | some (.ins C' fr) => r = .d .non ∧ (unF fr).elim False fun fs => Q (.d (.obj C' fs)) ⟨μ1.cs, μ'.T⟩ | _ => False
/-- a new object that may be changed later -/
def eMkC (C : Addr) (m : FM) (a : AM) : EM := fun ς μ E Q => a ς μ E fun rs μ1 => m (.cell μ1.cs.length :: rs) (μ1.new (.ins C [])) E fun r μ' => r = .d .non ∧ Q (.cell μ1.cs.length) μ'
theorem mk_sim {c : Cn} {W : Wo} {μ : Sto} {H : Hp} {C x dx : Addr} (S : Sim c W μ H) (n1 : H x = none) (n2 : H dx = none) (n3 : dx ≠ x) : Sim c (W.cel x) (μ.new (.ins C [])) (upd (upd H dx (.own x)) x (.ins C dx [])) ∧ MR c (W.cel x) (.cell μ.cs.length) (.ref x) := by
  have S1 : Sim c W μ (upd H dx (.own x)) := S.more (exn n2) (tabs_new S.tab n2)
  refine ⟨S1.newC (by rw [upd_ne n3.symm]; exact n1) (fun _ z => by cases z) ⟨dx, [], rfl, rfl, .nil⟩, x, ?_, rfl⟩
  show (W.φ ++ [x])[μ.cs.length]? = some x
  rw [← S.len, List.getElem?_append_right (Nat.le_refl _), Nat.sub_self]
  rfl
section
variable {X : Cx} {ts : List (Addr × Str)} {E : XK} {pos : Pos} {k : Nat}
theorem mkF_go {c : Cn} {C : Addr} {n : Nat} {m : FM} {a : AM} (hn : Ar n m) : ∀ σ H Q, tM c E (eMkF C m a) σ H Q → tMake C (spM c n m) [] E (tA c E a) σ H Q := fun σ H Q ⟨W, ς, μ, Ec, Qc, S, L, G, m, q⟩ =>
  ⟨W, ς, μ, Ec, _, S, L, G, m, fun rs μ1 W1 H1 vs h l S1 M x dx n1 n2 n3 => by
    obtain ⟨S2, mx⟩ := mk_sim (C := C) S1 n1 n2 n3
    rw [List.append_nil]
    refine spM_go (hn _ _ _ _ h) S2 (.cons mx (M.mono Sim.celLe)) (Ec := fun x μ' => μ1.cs <+: μ'.cs ∧ Ec x ⟨μ1.cs, μ'.T⟩) ?_ h ?_
    · intro x' μ' W' H' cls d ⟨p, hx⟩ l2 S' mx'
      have l3 : W1.le W' := Sim.celLe.trans l2
      exact G _ _ _ _ _ _ hx (l.trans l3.pop) (S1.pop S' l3 p) mx'
    · intro r μ' W' H' v ⟨p, hx⟩ l2 S' mv
      have l3 : W1.le W' := Sim.celLe.trans l2
      split at hx
      · rename_i C' fr e
        obtain ⟨rfl, hx⟩ := hx
        cases hu : unF fr with
        | none => rw [hu] at hx; exact hx.elim
        | some fs =>
          rw [hu] at hx
          obtain ⟨ax, g1, g2⟩ := mx
          cases g2
          have g3 := prefix_get l2.φ g1
          obtain ⟨dx', vf, h3, h4, h5⟩ := S'.cel _ _ _ g3 e
          obtain ⟨i1, i2⟩ := unF_mv hu h4 h5
          have hF : W'.F x = none := S'.out _ _ _ g3 e rfl
          have S3 := S1.pop S' l3 p
          have hs : ∀ sa la ca, (W1.pop W').S = some (sa, la, ca) → x ≠ sa ∧ x ≠ la ∧ x ≠ ca := fun sa la ca z => by
            have := S'.src
            unfold SrcOk at this
            rw [show W'.S = some (sa, la, ca) from z] at this
            obtain ⟨_, _, _, _, k1, k2, k3⟩ := this
            have hx := List.mem_of_getElem? g3
            exact ⟨fun y => k1 (by rw [← y]; exact hx), fun y => k2 (by rw [← y]; exact hx), fun y => k3 (by rw [← y]; exact hx)⟩
          obtain ⟨S4, l4⟩ := S3.adopt h3 hF (fun n' e' z _ => absurd (List.mem_of_getElem? z) (S1.nin n1)) (fun _ z => by cases z) hs (by cases hz : W'.Z x with | none => exact hz | some u => exact absurd (List.mem_of_getElem? g3) (S'.zd x u hz).2.1)
          refine ⟨by cases mv; rfl, q _ _ _ _ _ hx (l.trans (l3.pop.trans l4)) S4 ?_⟩
          exact MV.obj (upd_same) i1 (i2.mono l4.F)
      · exact hx.elim⟩
theorem mkC_go {c : Cn} {C : Addr} {n : Nat} {m : FM} {a : AM} (hn : Ar n m) : ∀ σ H Q, tM c E (eMkC C m a) σ H Q → tMake C (spM c n m) [] E (tA c E a) σ H Q := fun σ H Q ⟨W, ς, μ, Ec, Qc, S, L, G, m, q⟩ =>
  ⟨W, ς, μ, Ec, _, S, L, G, m, fun rs μ1 W1 H1 vs h l S1 M x dx n1 n2 n3 => by
    obtain ⟨S2, mx⟩ := mk_sim (C := C) S1 n1 n2 n3
    rw [List.append_nil]
    refine spM_go (hn _ _ _ _ h) S2 (.cons mx (M.mono Sim.celLe)) (G.mono (l.trans Sim.celLe)) h fun r μ' W' H' v ⟨hr, hx⟩ l2 S' mv => ?_
    subst hr
    exact ⟨by cases mv; rfl, q _ _ _ _ _ hx (l.trans (Sim.celLe.trans l2)) S' (MR.mono l2 mx)⟩⟩
theorem me_mkF {C : Addr} {x : Str} {ps : List Str} {m : FM} {e : Expr} {es : List Expr} {p : Pos} {a : AM} (c : ClC X.prog X.w X.K X.mg X.base ts k C x ps m) (tk : Takes X (fun cls d _ H' => E cls d H')) (hr : Room (k + 1) X.A) (ha : PA X (e :: es) (tA (cn X ts) E a)) (hg : Gl X x := by rfl)
    (hdb : (x == ("__debug__" : Str)) = false := by decide) (he : starEach (e :: es) X.env = (false, eval e X.env) :: starEach es X.env := by rfl) (hpl : (backTo pos (starEach es X.env)).any (·.1) = false := by rfl) :
    PE X (.Call (.Name x p) (e :: es) [] pos) (tM (cn X ts) E (eMkF C m a)) := by
  obtain ⟨f, fd, M, F, b, hm⟩ := c.ex
  exact pe_w (pe_make M F hr hg hm b .nil (passes_call tk fun _ _ _ _ h => h) ha hdb he hpl) (mkF_go c.ar)
theorem me_mkC {C : Addr} {x : Str} {ps : List Str} {m : FM} {e : Expr} {es : List Expr} {p : Pos} {a : AM} (c : ClC X.prog X.w X.K X.mg X.base ts k C x ps m) (tk : Takes X (fun cls d _ H' => E cls d H')) (hr : Room (k + 1) X.A) (ha : PA X (e :: es) (tA (cn X ts) E a)) (hg : Gl X x := by rfl)
    (hdb : (x == ("__debug__" : Str)) = false := by decide) (he : starEach (e :: es) X.env = (false, eval e X.env) :: starEach es X.env := by rfl) (hpl : (backTo pos (starEach es X.env)).any (·.1) = false := by rfl) :
    PE X (.Call (.Name x p) (e :: es) [] pos) (tM (cn X ts) E (eMkC C m a)) := by
  obtain ⟨f, fd, M, F, b, hm⟩ := c.ex
  exact pe_w (pe_make M F hr hg hm b .nil (passes_call tk fun _ _ _ _ h => h) ha hdb he hpl) (mkC_go c.ar)
end
end Eg
/-! set == set, set(d) -/
namespace Sn
open Evl (Ex)
open PySem PySem.Spec PyProof.Rows L2
theorem entry_set_eq : entryFor table "set.__eq__" = some Builtin.«frozenset.__eq__» := entryFor_alias (id' := "frozenset.__eq__") (by kernel_rfl) rfl (by decide +kernel) (by kernel_rfl)
section
variable {P : Program} {w : World} {A : Around} {E : Value → Shared → Prop} {s : Shared} {κ : Type} [DecidableEq κ] {knd : KeyKind P w κ}
theorem SetG.type {h : Heap} {a : Addr} {ks : List κ} {s : Shared} (hs : s.heap = h) (R : SetG knd h a ks) : s.TypeIs (.ref a) "set" := by
  obtain ⟨_, o, es, ep, t, ks', _, ho, hex, _⟩ := R
  exact ⟨o, by rw [hs]; exact ho, hex.1⟩
theorem anySetG {a : Addr} {ks : List κ} {Q : Bool → Shared → Prop} (R : SetG knd s.heap a ks) (h : Q true s) : wpAny (model P w) A (Builtin.Frozenset.isAnySet (.ref a)) Q E s := by
  unfold Builtin.Frozenset.isAnySet orM
  refine wpAny_bind (wpAny_isInstance (R.type rfl) PySem.F.sub_set_set ?_)
  exact wpAny_pure h
theorem sizeG {a : Addr} {ks : List κ} {Q : Nat → Shared → Prop} (R : SetG knd s.heap a ks) (h : Q ks.length s) : wpAny (model P w) A (Builtin.Frozenset.sizeOf a) Q E s := by
  obtain ⟨_, o, es, ep, t, ks', pm, ho, hex, hd, el, pr, hb, hf, _⟩ := R
  unfold Builtin.Frozenset.sizeOf
  refine wpAny_bind (wpAny_setEntries_of ho hd hf (wpAny_pure ?_))
  rw [← Array.length_toList, Paired.length pr, pm.length_eq]
  exact h
theorem epochG {a : Addr} {ks : List κ} {Q : Nat → Shared → Prop} (R : SetG knd s.heap a ks) (h : ∀ ep, (∀ (s' : Shared) (Q' : Nat → Shared → Prop) (A' : Around) (E' : Value → Shared → Prop), s'.heap.get? a = s.heap.get? a → Q' ep s' → wpAny (model P w) A' (setEpoch a) Q' E' s') → Q ep s) : wpAny (model P w) A (setEpoch a) Q E s := by
  obtain ⟨_, o, es, ep, t, ks', pm, ho, hex, hd, el, pr, hb, hf, _⟩ := R
  unfold setEpoch
  refine wpAny_bind (wpAny_setState_of ho hd hf (wpAny_pure (h ep fun s' Q' A' E' e q => ?_)))
  unfold setEpoch
  exact wpAny_bind (wpAny_setState_of (by rw [e]; exact ho) hd hf (wpAny_pure q))
theorem findG {a : Addr} {ks : List κ} {k : κ} {x : Value} {Q : Option Nat → Shared → Prop} (hkey : knd.is k x = true) (hsc : x.scannable = true) (R : SetG knd s.heap a ks) (h : ∀ r : Option Nat, r.isSome = decide (k ∈ ks) → Q r s) : wpAny (model P w) A (setFind a x (knd.hash k)) Q E s := by
  obtain ⟨_, o, es, ep, t, ks', pm, ho, hex, hd, el, pr, hb, hf, _⟩ := R
  unfold setFind setFindIn
  refine wpAny_bind (wpAny_setState_of ho hd hf ?_)
  dsimp only
  rw [byScan_of hsc hb el]
  simp only [↓reduceIte]
  refine wpAny_bind (wpAny_rule ?_)
  refine wpAny_bind (wpAny_setScan_of hkey ho hd hf el ?_)
  cases hr : List.findIdx? (fun e => knd.is k e.2) es.toList with
  | none =>
    dsimp only
    refine wpAny_pure (h none ?_)
    rw [Option.isSome_none, eq_comm, decide_eq_false_iff_not]
    intro z
    obtain ⟨e, he, hpe⟩ := pair_mem pr (pm.mem_iff.mpr z)
    have := List.findIdx?_eq_none_iff.mp hr e he
    rw [hpe] at this; exact Bool.noConfusion this
  | some j =>
    dsimp only
    refine wpAny_pure (h (some (0 + j)) ?_)
    rw [Option.isSome_some, eq_comm, decide_eq_true_eq]
    obtain ⟨hj, hpj, _⟩ := List.findIdx?_eq_some_iff_getElem.mp hr
    obtain ⟨k', hk', is'⟩ := pair_mem' pr (List.getElem_mem hj)
    rw [knd.inj _ _ _ hpj is']
    exact pm.mem_iff.mp hk'
end
section
variable {P : Program} {w : World} {A : Around} {E : Value → Shared → Prop} {s : Shared}
theorem quiet_str {x : Value} {k : Str} {Q : Bool → Shared → Prop} (hk : (PySem.strKind P w).is k x = true) (h : Q true s) : wpAny (model P w) A (Builtin.Frozenset.quietEq x) Q E s := by
  obtain ⟨t, rfl⟩ := Value.isStrOf_shape hk
  exact wpAny_pure h
theorem walkG {a b : Addr} {ks ls : List Str} {Q : List (Int × Value) → Shared → Prop} (R : SetG (PySem.strKind P w) s.heap a ks) (S : SetG (PySem.strKind P w) s.heap b ls)
    (h : ∀ es ks', ks'.Perm ks → ElemsOf (PySem.strKind P w) es → Paired (fun (e : Int × Value) k => (PySem.strKind P w).is k e.2 = true) es ks' → Q es s) : wpAny (model P w) A (Builtin.Frozenset.walkUnseen a b) Q E s := by
  obtain ⟨_, o, es, ep, t, ks', pm, ho, hex, hd, el, pr, hb, hf, _⟩ := R
  obtain ⟨_, o2, es2, ep2, t2, ls', pm2, ho2, hex2, hd2, el2, pr2, hb2, hf2, _⟩ := S
  unfold Builtin.Frozenset.walkUnseen
  refine wpAny_bind (wpAny_setEntries_of ho hd hf (wpAny_bind (wpAny_setEntries_of ho2 hd2 hf2 ?_)))
  refine wpAny_bind (wpAny_forIn_list _ (fun rest b s' => b = (none, ()) ∧ s' = s ∧ ∀ e ∈ rest, ∃ k, (PySem.strKind P w).is k e.2 = true) _ ?_ ?_ _ _ ⟨rfl, rfl, fun e he => ?_⟩)
  · rintro ⟨hh, x⟩ rest b' s' ⟨rfl, rfl, hr⟩
    obtain ⟨k, hk⟩ := hr _ List.mem_cons_self
    refine wpAny_bind (quiet_str hk ?_)
    exact wpAny_pure ⟨rfl, rfl, fun e he => hr e (List.mem_cons_of_mem _ he)⟩
  · rintro b' s' ⟨rfl, rfl, _⟩
    exact wpAny_pure (h _ _ pm el pr)
  · rcases List.mem_append.mp he with z | z
    · obtain ⟨⟨k, hk, _⟩, _⟩ := el e z
      exact ⟨k, hk⟩
    · obtain ⟨⟨k, hk, _⟩, _⟩ := el2 e z
      exact ⟨k, hk⟩
theorem subG {a b : Addr} {ks ls : List Str} {id : String} {Q : Bool → Shared → Prop} (R : SetG (PySem.strKind P w) s.heap a ks) (S : SetG (PySem.strKind P w) s.heap b ls) (hl : ks.length ≤ ls.length) (h : Q (ks.all fun k => decide (k ∈ ls)) s) : wpAny (model P w) A (Builtin.Frozenset.subsetOf id a b) Q E s := by
  unfold Builtin.Frozenset.subsetOf
  refine wpAny_bind (sizeG R (wpAny_bind (sizeG S ?_)))
  rw [if_neg (Nat.not_lt.mpr hl)]
  refine wpAny_bind (epochG R fun ep hep => ?_)
  refine wpAny_bind (walkG R S fun es ks' pm el pr => ?_)
  have hall : (ks.all fun k => decide (k ∈ ls)) = ks'.all fun k => decide (k ∈ ls) := by
    rw [Bool.eq_iff_iff, List.all_eq_true, List.all_eq_true]
    exact ⟨fun z k hk => z k (pm.mem_iff.mp hk), fun z k hk => z k (pm.mem_iff.mpr hk)⟩
  rw [hall] at h
  refine wpAny_bind (wpAny_forIn_list _ (fun rest b s' => b = (none, ()) ∧ s' = s ∧ (∀ e ∈ rest, e ∈ es) ∧ ∃ kr, Paired (fun (e : Int × Value) k => (PySem.strKind P w).is k e.2 = true) rest kr ∧ (ks'.all fun k => decide (k ∈ ls)) = kr.all fun k => decide (k ∈ ls)) _ ?_ ?_ _ _ ⟨rfl, rfl, fun _ h => h, ks', pr, rfl⟩)
  · rintro ⟨hh, x⟩ rest b' s' ⟨rfl, rfl, hsub, kr, pr', hk'⟩
    cases pr' with
    | @cons _ k _ kr' hk pr' =>
      obtain ⟨⟨k2, hk2, hh2⟩, hsc⟩ := el _ (hsub _ List.mem_cons_self)
      obtain rfl : k2 = k := (PySem.strKind P w).inj _ _ _ hk2 hk
      dsimp only at hh2 hsc
      rw [hh2]
      refine wpAny_bind (wpAny_holding (findG hk hsc S fun r hr => ?_))
      rw [List.all_cons] at hk'
      cases hm : decide (k2 ∈ ls) with
      | false =>
        rw [hm] at hr hk'
        cases r with
        | some _ => cases hr
        | none =>
          refine wpAny_pure ?_
          show wpAny _ _ _ _ _ _
          rw [hk', Bool.false_and] at h
          exact wpAny_pure h
      | true =>
        rw [hm] at hr hk'
        cases r with
        | none => cases hr
        | some j =>
          refine wpAny_bind ?_
          unfold Builtin.Frozenset.unchanged
          refine wpAny_bind (hep _ _ _ _ rfl ?_)
          simp only [bne_self_eq_false, Bool.false_eq_true, if_false]
          refine wpAny_pure (wpAny_pure ⟨rfl, rfl, fun e he => hsub e (List.mem_cons_of_mem _ he), kr', pr', ?_⟩)
          rw [hk', Bool.true_and]
  · rintro b' s' ⟨rfl, rfl, _, kr, pr', hk'⟩
    cases pr'
    rw [hk'] at h
    exact wpAny_pure h
theorem eqG {a b : Addr} {ks ls : List Str} {R : Result → Shared → Prop} (hs : SetG (PySem.strKind P w) s.heap a ks) (ht : SetG (PySem.strKind P w) s.heap b ls) (h : R (.ok (.ret (.bool (decide (ks.length = ls.length) && ks.all fun k => decide (k ∈ ls))))) s) :
    wpAny (model P w) A.in1 (Builtin.«frozenset.__eq__» ⟨[.ref a, .ref b], []⟩) (GQ.FinOf P w A R) (fun e s' => R (.error e) s') s := by
  show wpAny _ _ (Builtin.Frozenset.slot1 "__eq__" ⟨[.ref a, .ref b], []⟩ >>= _) _ _ _
  refine wpAny_bind ?_
  unfold Builtin.Frozenset.slot1
  refine wpAny_bind (wpAny_pure ?_)
  refine wpAny_pure ?_
  refine wpAny_bind (anySetG ht ?_)
  rw [if_neg (by decide)]
  refine wpAny_bind (wpAny_pure (wpAny_bind (wpAny_pure ?_)))
  refine wpAny_bind (sizeG hs (wpAny_bind (sizeG ht ?_)))
  by_cases hl : ks.length = ls.length
  · rw [decide_eq_true hl, Bool.true_and] at h
    refine wpAny_bind ?_
    rw [if_neg (by simp [hl])]
    refine wpAny_bind ?_
    unfold andM
    refine wpAny_bind (wpAny_isInstance (hs.type rfl) PySem.F.sub_set_frozenset ?_)
    refine wpAny_pure ?_
    dsimp only
    rw [if_neg (by decide)]
    refine subG hs ht (Nat.le_of_eq hl) ?_
    exact wpAny_pure h
  · rw [decide_eq_false hl, Bool.false_and] at h
    refine wpAny_bind ?_
    rw [if_pos (by simpa using hl)]
    refine wpAny_pure ?_
    exact wpAny_pure h
end
section
variable {X : Cx}
/-- a == b of two sets of texts -/
def rEqX (P : Program) (w : World) : R2 := fun x y H Q => ∃ (a b : Addr) (ks ls : List Str), x = .ref a ∧ y = .ref b ∧ H a = some (SetX P w a ks) ∧ H b = some (SetX P w b ls) ∧ Q (.bl (decide (ks.length = ls.length) && ks.all fun k => decide (k ∈ ls))) H
theorem op_eqX (hu : X.A.units < cLine) : OpR X (compareOp .Eq) (rEqX X.prog X.w) := by
  intro pins s σ H x y u v Q I rx ry hq
  obtain ⟨a, b, ks, ls, rfl, rfl, ha, hb, q⟩ := hq
  cases rx
  cases ry
  have R : SetG (PySem.strKind X.prog X.w) s.heap a ks := (I.hok a _ ha).1
  have S : SetG (PySem.strKind X.prog X.w) s.heap b ls := (I.hok b _ hb).1
  show wpAny (model X.prog X.w) X.A (richCompare .Eq (.ref a) (.ref b)) _ _ _
  refine wpAny_richCompare_same_room (op := .Eq) (R.type rfl) (S.type rfl) F.slot_set_eq (GQ.call_here F.slot_set_eq (R.type rfl) entry_set_eq (F.args_set_eq_2 _ _) ?_) hu
  refine eqG (R := wants (fun v s' => v ≠ .notImplemented ∧ EP X pins σ Q v s') X.xe) R S ⟨(fun x => nomatch x), ?_⟩
  exact ⟨.bl _, H, I, rfl, q⟩
end
section
variable {P : Program} {w : World} {A : Around} {E : Value → Shared → Prop} {s : Shared}
theorem relaid_empty (t : SetTable) (wanted : Nat) : t.relaid #[] wanted = some ({ mask := SetTable.sizeAbove wanted - 1, place := #[], dummies := #[], finger := t.finger, led := t.led, moves := t.movedTo (SetTable.sizeAbove wanted - 1), plain := t.plain }, #[]) := by
  have e1 : SetTable.layClean (SetTable.sizeAbove wanted - 1) #[] = some (Array.replicate (SetTable.sizeAbove wanted - 1 + 1) none) := by unfold SetTable.layClean; rfl
  have e2 : ((List.range (SetTable.sizeAbove wanted - 1 + 1)).filterMap fun j => ((Array.replicate (SetTable.sizeAbove wanted - 1 + 1) (none : Option Nat)).getD j none).map (fun x => (j, x))) = [] := by
    rw [List.filterMap_eq_nil_iff]
    intro j _
    have : (Array.replicate (SetTable.sizeAbove wanted - 1 + 1) (none : Option Nat)).getD j none = none := by
      unfold Array.getD
      split
      · simp
      · rfl
    rw [this]
    rfl
  unfold SetTable.relaid SetTable.laid
  rw [e1]
  show some _ = _
  rw [e2]
  rfl
theorem above_le : ∀ n, n < 201 → SetTable.sizeAbove n ≤ 256 := by decide +kernel
/-- room for the keys of a dict, in a new set -/
theorem roomG {a : Addr} {n : Nat} {Q : Unit → Shared → Prop} (ho : s.heap.get? a = some { cls := .type "set", dict := none, data := .set #[] 0 (.fresh 0 0 (!w.params.followText "set-order")) }) (hn : n ≤ 100)
    (h : ∀ h', Heap.SameBut a s.heap h' → SetG (PySem.strKind P w) h' a [] → Q () { s with heap := h' }) : wpAny (model P w) A (setRoomFor a n) Q E s := by
  unfold setRoomFor
  refine wpAny_bind (wpAny_setState_of ho rfl rfl ?_)
  dsimp only
  cases hr : (SetTable.fresh 0 0 (!w.params.followText "set-order")).roomFor n with
  | none => exact wpAny_pure (h _ (Heap.SameBut.refl a s.heap) (setG_new ho))
  | some wanted =>
    dsimp only
    have hw : wanted ≤ 200 := by
      unfold SetTable.roomFor at hr
      split at hr
      · have := Option.some.inj hr
        have e0 : (SetTable.fresh 0 0 (!w.params.followText "set-order")).place.size = 0 := rfl
        omega
      · cases hr
    have ha := above_le wanted (by omega)
    rw [setRelay_eq]
    refine wpAny_bind (wpAny_setState_of ho rfl rfl ?_)
    dsimp only
    rw [if_neg (by rw [sizeLine_eq]; omega)]
    refine wpAny_bind ?_
    rw [show (Array.map (fun x : Int × Value => x.1) #[]) = #[] from by simp, relaid_empty]
    dsimp only
    rw [show (Array.filterMap (fun i => (#[] : Array (Int × Value))[i]?) (#[] : Array Nat)) = #[] from by simp]
    rw [if_neg (by decide)]
    refine wpAny_pure ?_
    dsimp only
    refine wpAny_storeSet_of ho rfl (h _ (Heap.SameBut.update s.heap a _) ?_) (by simp)
    refine ⟨List.nodup_nil, _, #[], _, _, [], .refl _, store_at (es' := #[]) ho rfl, ⟨rfl, rfl, rfl⟩, rfl, fun e he => by simp at he, .nil, by decide, rfl, List.Pairwise.nil, ?_⟩
    show _ ∨ (!w.params.followText "set-order") = true
    cases w.params.followText "set-order"
    · exact .inr rfl
    · exact .inl rfl
/-- set(d), d a dict of texts -/
theorem setG_dict {l : Addr} (kl : List Str) {Q : Value → Shared → Prop} {o : Obj} {es : Array DictEntry} {ep : Nat} (hho : s.heap.get? l = some o) (hcl : o.cls = .type "dict") (hdl : o.data = .dict es ep) (nsys : (l == sysModules) = false)
    (hks : ∀ (i : Nat) (e : DictEntry), es[i]? = some e → ∃ k, kl[i]? = some k ∧ (PySem.strKind P w).is k e.key = true ∧ e.hash = (PySem.strKind P w).hash k) (hsz : es.size = kl.length) (hb : kl.length ≤ 100)
    (h : ∀ (h' : Heap) (tk : Nat), SetG (PySem.strKind P w) h' s.heap.objs.size (once [] kl) → (∀ b o, s.heap.get? b = some o → h'.get? b = some o) → Q (.ref s.heap.objs.size) { s with heap := h', toks := tk }) :
    wpAny (model P w) A (call (.type "set") [.ref l]) Q E s := by
  obtain ⟨c, tl, hmro⟩ := F.called_set.mro
  have hmade := F.called_set.made
  have hsub := F.called_set.sub
  refine wpAny_call (codeAny_of_tree ?_)
  show wpAny _ _ (callAny (.type "set") _) _ _ _
  refine wpAny_pure ⟨Code.quiet_builtin _ (by decide +kernel), codeAny_builtin F.entry_type_call ?_⟩
  rw [Around.under_plain (weight_type_call_type "set" [.ref l] []) rfl]
  have h1 := F.called_set.notType
  have h2 := F.called_set.canCreate
  have hct := F.typeCall_set_1 (.ref l)
  repeat (any_goals (first | assumption | wp_step))
  let o0 : Obj := { cls := .type "set", dict := none, data := .set #[] 0 (.fresh 0 0 (!w.params.followText "set-order")) }
  refine codeAny_mono (code_set_led1 (.ref l) (E := E) (Q₁ := fun obj s₁ => obj = .ref s.heap.objs.size ∧ s₁ = { s with heap := s.heap.push o0 }) ⟨rfl, rfl⟩) fun r s₁ hr => ?_
  cases r with
  | error e => exact hr
  | ok fl =>
    cases fl with
    | ret obj =>
      obtain ⟨rfl, rfl⟩ := hr
      have hS : (s.heap.push o0).get? s.heap.objs.size = some o0 := Heap.get?_push_size _ rfl
      have hT : Shared.TypeIs { s with heap := s.heap.push o0 } (.ref s.heap.objs.size) "set" := ⟨_, hS, rfl⟩
      have hli := F.called_set.init.lookup
      have hbi := F.called_set.init.bind (.ref s.heap.objs.size)
      repeat (any_goals (first | assumption | wp_step))
      refine codeAny_mono (codeAny_call_builtin (R := wants (fun r s₂ => r = .none ∧ ∃ h' tk, s₂ = { s with heap := h', toks := tk } ∧ SetG (PySem.strKind P w) h' s.heap.objs.size (once [] kl) ∧ (∀ b o, s.heap.get? b = some o → h'.get? b = some o)) E) F.called_set.init.plain F.entry_set_init (check_set_init_1 hT ?_)) fun r₂ s₂ hr₂ => ?_
      · have hol' : (s.heap.push o0).get? l = some o := Heap.get?_push_of_some _ hho
        have hTd : Shared.TypeIs { s with heap := s.heap.push o0 } (.ref l) "dict" := ⟨_, hol', hcl⟩
        unfold Builtin.«set.__init__» noKeywords Builtin.Frozenset.updateFrom Builtin.Frozenset.isAnySet orM
        wp_walk
        rw [PySem.F.sub_dict_set]
        refine wpAny_pure ?_
        show wpAny _ _ (isInstance (.ref l) (.type "frozenset")) _ _ _
        refine wpAny_isInstance hTd PySem.F.sub_dict_frozenset ?_
        rw [if_neg (by decide)]
        refine wpAny_bind (wpAny_typeOf hTd ?_)
        rw [if_pos (by decide)]
        refine wpAny_bind (wpAny_rule ?_)
        refine wpAny_bind (wpAny_pure ?_)
        dsimp only
        rw [if_neg (by rw [nsys]; decide)]
        refine wpAny_bind (wpAny_dictEpoch hol' hdl ?_)
        refine wpAny_bind (wpAny_dictEntries hol' hdl ?_)
        refine wpAny_bind (roomG hS (by omega) fun h1 sb1 R1 => ?_)
        have lt : l < s.heap.objs.size := Heap.lt_size hho
        have keep1 : ∀ b o, s.heap.get? b = some o → h1.get? b = some o := fun b o e => (sb1.2 b (Nat.ne_of_lt (Heap.lt_size e))).trans (Heap.get?_push_of_some _ e)
        refine wpAny_bind (wpAny_dictEntries (keep1 _ _ hho) hdl ?_)
        rw [Std.Legacy.Range.forIn_eq_forIn_range']
        have hrs : ([:es.size] : Std.Legacy.Range).size = es.size := by simp [Std.Legacy.Range.size]
        refine wpAny_bind ?_
        show wpAny _ _ (forIn (List.range' 0 ([:es.size] : Std.Legacy.Range).size 1) _ _) _ _ _
        rw [hrs]
        refine wpAny_forIn_list _ (fun rest _ s' => ∃ i h' acc, rest = List.range' i (es.size - i) ∧ i ≤ es.size ∧ s' = { s with heap := h' } ∧ (∀ b o, s.heap.get? b = some o → h'.get? b = some o) ∧ SetG (PySem.strKind P w) h' s.heap.objs.size acc ∧ once acc (kl.drop i) = once [] kl ∧ acc.length ≤ i) _ ?_ ?_ _ _ ⟨0, h1, [], rfl, Nat.zero_le _, rfl, keep1, R1, rfl, Nat.le_refl _⟩
        · rintro j rest _ s' ⟨i, h', acc, hr, hi, rfl, kp, R2, hon, hal⟩
          have hlt : i < es.size := by
            rcases Nat.lt_or_ge i es.size with z | z
            · exact z
            · rw [Nat.sub_eq_zero_of_le z] at hr; cases hr
          obtain ⟨m, hm⟩ : ∃ m, es.size - i = m + 1 := ⟨es.size - i - 1, by omega⟩
          rw [hm, List.range'_succ] at hr
          obtain ⟨rfl, rfl⟩ := List.cons.inj hr
          refine wpAny_bind (wpAny_dictEntries (kp _ _ hho) hdl ?_)
          rw [Array.getElem?_eq_getElem hlt]
          obtain ⟨k, hk, his, hh⟩ := hks j es[j] (Array.getElem?_eq_getElem hlt)
          dsimp only
          rw [hh]
          have hsc : es[j].key.scannable = true := by
            obtain ⟨t, e⟩ := Value.isStrOf_shape his
            rw [e]
            rfl
          refine wpAny_bind (wpAny_holding (setG_add (s := { s with heap := h' }) R2 his hsc (by show acc.length + 1 < scanBound; have : (200 : Nat) < scanBound := (by decide); omega) fun h2 bb sb2 R3 => ?_))
          have kp2 : ∀ b o, s.heap.get? b = some o → h2.get? b = some o := fun b o e => (sb2.2 b (Nat.ne_of_lt (Heap.lt_size e))).trans (kp _ _ e)
          refine wpAny_bind (wpAny_dictEpoch (kp2 _ _ hho) hdl ?_)
          simp only [bne_self_eq_false, Bool.false_eq_true, if_false]
          refine wpAny_pure ⟨j + 1, h2, _, by rw [show es.size - (j + 1) = m from by omega], hlt, rfl, kp2, R3, ?_, ?_⟩
          · rw [← hon]
            have ed : kl.drop j = k :: kl.drop (j + 1) := by
              obtain ⟨h1, h2⟩ := List.getElem?_eq_some_iff.mp hk
              rw [List.drop_eq_getElem_cons h1, h2]
            rw [ed, once]
          · split
            · omega
            · rw [List.length_cons]; omega
        · rintro _ s' ⟨i, h', acc, hr, hi, rfl, kp, R2, hon, hal⟩
          have : i = es.size := by
            have := congrArg List.length hr
            simp at this
            omega
          subst this
          rw [List.drop_of_length_le (by omega)] at hon
          have hon' : acc = once [] kl := hon
          subst hon'
          refine wpAny_pure ?_
          exact wpAny_pure ⟨rfl, h', _, rfl, R2, kp⟩
      · cases r₂ with
        | error e => exact hr₂
        | ok fl₂ =>
          cases fl₂ with
          | ret r =>
            obtain ⟨rfl, h', tk, rfl, hS', hk⟩ := hr₂
            have hfin := h h' tk hS' hk
            repeat (any_goals (first | assumption | wp_step))
          | _ => exact hr₂.elim
    | _ => exact hr.elim
end
section
variable {X : Cx}
/-- set(d), d a dict of texts -/
def rSetD (P : Program) (w : World) : List V → Hp → VK → Prop := fun xs H Q => ∃ (d : Addr) (kvs : List (Key × V)) (ks : List Str), xs = [.ref d] ∧ Rd H d (.dK kvs) ∧ kvs.map (·.1) = ks.map Sum.inr ∧ ks.length ≤ 100 ∧ ∀ p, H p = none → Q (.ref p) (upd H p (SetX P w p (once [] ks)))
theorem call_setD (hc : X.calm = true) : CallR X (.type "set") (rSetD X.prog X.w) := by
  intro pins s σ H xs us Q I r q
  obtain ⟨d, kvs, ks, rfl, hd, hk, hl, q⟩ := q
  obtain ⟨u, rfl, rx⟩ := vals1 r
  cases rx
  obtain ⟨z, lo, vs, rel, o, es, ep, ho, hex, hdt, hko, hpr, hnd⟩ := dk_rd I.hok hd
  have hkv : vs.map (·.1) = ks.map Sum.inr := by rw [← rel.keys, hk]
  have hsz : es.size = ks.length := by
    rw [← Array.length_toList, Pairs.length hpr]
    have := congrArg List.length hkv
    simpa using this
  have hks : ∀ (i : Nat) (e : DictEntry), es[i]? = some e → ∃ k, ks[i]? = some k ∧ (PySem.strKind X.prog X.w).is k e.key = true ∧ e.hash = (PySem.strKind X.prog X.w).hash k := fun i e he => by
    have he' : es.toList[i]? = some e := by rw [Array.getElem?_toList]; exact he
    have gen : ∀ {el : List DictEntry} {vl : List (Key × Value)}, Pairs (mixKind X.prog X.w) el vl → ∀ (i : Nat) (e : DictEntry), el[i]? = some e → ∃ kv : Key × Value, vl[i]? = some kv ∧ (mixKind X.prog X.w).is kv.1 e.key = true := by
      intro el vl h
      induction h with
      | nil => intro i e z; simp at z
      | cons h1 h2 _ ih =>
        intro i e z
        cases i with
        | zero => simp at z; subst z; exact ⟨_, rfl, h1⟩
        | succ i => exact ih i e (by simpa using z)
    obtain ⟨kv, hv, his⟩ := gen hpr i e he'
    have h1 : (ks.map (Sum.inr : Str → Key))[i]? = some kv.1 := by rw [← hkv, List.getElem?_map, hv]; rfl
    rw [List.getElem?_map] at h1
    cases hz : ks[i]? with
    | none => rw [hz] at h1; cases h1
    | some k =>
      rw [hz] at h1
      have e1 : kv.1 = Sum.inr k := (Option.some.inj h1).symm
      rw [e1] at his
      obtain ⟨k2, hk2, hh⟩ := hko e (Array.mem_of_getElem? he)
      have e2 : k2 = Sum.inr k := (mixKind X.prog X.w).inj _ _ _ hk2 his
      subst e2
      exact ⟨k, rfl, his, hh⟩
  refine setG_dict ks ho hex.1 hdt lo hks hsz hl fun h' tk R kp => ?_
  refine ⟨.ref s.heap.objs.size, upd H s.heap.objs.size (SetX X.prog X.w s.heap.objs.size (once [] ks)), I.laid (t' := tk) kp (Nat.le_refl _) (setX_ok R), rfl, q _ (I.hok.fresh (Nat.le_refl _))⟩
end
end Sn
/-! tuple * int, long: bound by the product alone -/
namespace Sn
open Evl (Ex)
open PySem PySem.Spec PyProof.Rows L2
def rRepB (K : PySem.W.Frag) : R2 := fun x y H Q => ∃ (l : Addr) (m : Nat) (xs : List V), x = .ref l ∧ y = .int (m : Int) ∧ SqT K H l xs ∧ xs ≠ [] ∧ 2 ≤ m ∧ m ≤ 1000000 ∧ m * xs.length ≤ 1000000 ∧ ∀ p, H p = none → Q (.ref p) (upd H p (.tup (List.replicate m xs).flatten))
theorem op_repB {X : Cx} : OpR X (binaryOp .Mult) (rRepB X.K) := by
  intro pins s σ H x y v u Q I rx ry h
  obtain ⟨l, m, xs, rfl, rfl, hT, hne, h1, h2, hz, q⟩ := h
  cases rx
  obtain ⟨t, rfl⟩ := ry
  obtain ⟨its, r, ⟨⟨cls, dd, data, sl⟩, ho, hc, n, hd⟩, hs⟩ := I.tuple hT
  simp only at hc hd
  subst hc hd
  have hle := r.length
  obtain ⟨b, bs, rfl⟩ : ∃ b bs, its = b :: bs := by
    cases its with
    | nil => exact absurd (List.eq_nil_of_length_eq_zero hle) hne
    | cons b bs => exact ⟨b, bs, rfl⟩
  have prod : (((b :: bs).toArray.size : Nat) : Int) * (m : Int) ≤ 1000000 := by
    rw [List.size_toArray, ← hle, ← Int.natCast_mul, Nat.mul_comm]
    omega
  have line : m * xs.length ≤ sizeLine := by
    rw [sizeLine_eq]
    omega
  have f1 : (decide ((m : Int) < -(2 ^ 63)) || decide ((m : Int) ≥ 2 ^ 63)) = false := by
    rw [decide_eq_false (show ¬ (m : Int) < -(2 ^ 63) by omega), decide_eq_false (show ¬ (m : Int) ≥ 2 ^ 63 by omega)]
    rfl
  have f2 : ((b :: bs).toArray.isEmpty || (m : Int) == 1) = false := by
    rw [show (b :: bs).toArray.isEmpty = false from rfl, Bool.false_or]
    exact beq_eq_false_iff_ne.mpr (by omega)
  have f3 : (decide ((m : Int) ≤ 0) || (b :: bs).toArray.isEmpty) = false := by
    rw [show (b :: bs).toArray.isEmpty = false from rfl, Bool.or_false]
    exact decide_eq_false (by omega)
  have f4 : Builtin.Tuple.tupleTooMany ((((b :: bs).toArray.size : Nat) : Int) * (m : Int)) = false := by
    unfold Builtin.Tuple.tupleTooMany
    rw [sizeLine_eq]
    exact decide_eq_false (by omega)
  have f5 : (List.foldl (fun x1 x2 => x1 ++ x2) #[] (List.replicate (m : Int).toNat (b :: bs).toArray)).size ≤ sizeLine := by
    rw [size_rep, List.size_toArray, lm_len_rep_flat, ← hle, Int.toNat_natCast]
    exact line
  refine wpAny_binaryOp_repeat_ref (T := "tuple") (U := "int") (by decide) ⟨_, ho, rfl⟩ (fun s' => typeIs_int s' m t) noFill_tuple_mul F.fills_int_mul F.slot_int_rmul repeat_tuple F.slot_int_index.lookup
    (call_meets F.slot_int_rmul (typeIs_int s m t) F.entry_int_rmul (F.args_int_rmul_2 _ _) (int_rmul_tuple m t l _ n dd sl)
      ⟨ho, rfl, ⟨_, ho, rfl⟩, call_meets F.slot_tuple_mul ⟨_, ho, rfl⟩ F.entry_tuple_mul (F.args_tuple_mul_2 _ _) (tuple_mulW l _ n dd sl m t f1 f2 f3 (by omega) f4 f5) ⟨ho, ?_⟩⟩)
  rw [size_rep, Int.toNat_natCast]
  refine ⟨.ref s.heap.objs.size, _, I.laid (t' := s.toks) (o := .tup (List.replicate m xs).flatten) (fun b ob q => Heap.get?_push_of_some _ q) (Nat.le_refl _) ⟨?_, _, r.rep m, IsTup.new _ _⟩, rfl, q _ (I.hok.fresh (Nat.le_refl _))⟩
  rw [lm_len_rep_flat]
  exact line
theorem repB {K : PySem.W.Frag} {H : Hp} {Q : VK} {p : Addr} {xs : List V} {z : Int} (m : Nat) (hm : z = (m : Int)) (hp : H p = some (.tup xs)) (h0 : xs ≠ []) (h1 : 2 ≤ m) (h2 : m ≤ 1000000) (hz : m * xs.length ≤ 1000000) (q : ∀ p H', Ex H H' → H' p = some (.tup (List.replicate m xs).flatten) → Q (.ref p) H') : rRepB K (.ref p) (.int z) H Q :=
  ⟨p, m, xs, rfl, by rw [hm], SqT.of hp, h0, h1, h2, hz, fun p' np => q p' _ (exn np) upd_same⟩
end Sn
/-! the engine: operators over trees -/
namespace Eg
open Evl (Ex)
open PySem PySem.Spec PyProof.Rows L2 Sn LamX
def unD : List R → Option (List D)
  | [] => some []
  | .d x :: r => (unD r).map (x :: ·)
  | _ :: _ => none
def unK {κ : Type} : List (κ × R) → Option (List (κ × D))
  | [] => some []
  | (k, .d x) :: r => (unK r).map ((k, x) :: ·)
  | _ :: _ => none
/-- what is read of a value, its top -/
def vw (μ : Sto) : R → Option D
  | .d x => some x
  | .cell n => match μ.cs[n]? with
    | some (.lst rs) => (unD rs).map D.lst
    | some (.dic kr) => (unK kr).map D.dic
    | some (.dit kr) => (unK kr).map D.dit
    | some (.ins C fr) => (unF fr).map (D.obj C)
    | _ => none
  | _ => none
/-- the top stands in H, what is inside in F -/
def TV (c : Cn) (F H : Hp) : D → V → Prop
  | .non, v => v = .non
  | .bl b, v => v = .bl b
  | .int i, v => v = .int i
  | .str s, v => v = .str s
  | .tup xs, v => ∃ p vs, v = .ref p ∧ SqT c.k F p vs ∧ MVs c F xs vs
  | .lst xs, v => ∃ p vs, v = .ref p ∧ Rd H p (.lst vs) ∧ MVs c F xs vs
  | .dic kvs, v => ∃ p kw, v = .ref p ∧ Rd H p (.dK kw) ∧ kw.map (·.1) = kvs.map (·.1) ∧ MVs c F (kvs.map (·.2)) (kw.map (·.2))
  | .dit kvs, v => ∃ p kw, v = .ref p ∧ Rd H p (.dT kw) ∧ kw.map (·.1) = kvs.map (·.1) ∧ MVs c F (kvs.map (·.2)) (kw.map (·.2))
  | .set ks, v => ∃ p, v = .ref p ∧ H p = some (SetX c.p c.w p ks)
  | .obj C fs, v => ∃ p dx vf, v = .ref p ∧ H p = some (.ins C dx vf) ∧ vf.map (·.1) = fs.map (·.1) ∧ MVs c F (fs.map (·.2)) (vf.map (·.2))
section
variable {c : Cn} {W : Wo} {μ : Sto} {F H : Hp}
theorem TV.of {x : D} {v : V} (e : Ex F H) (m : MV c F x v) : TV c F H x v := by
  cases m with
  | non => rfl
  | bl => rfl
  | int => rfl
  | str => rfl
  | tup a b => exact ⟨_, _, rfl, a, b⟩
  | lst a b => exact ⟨_, _, rfl, rd_mono e a, b⟩
  | dic a b d => exact ⟨_, _, rfl, .inr ⟨_, e _ _ a⟩, b, d⟩
  | dit a b d => exact ⟨_, _, rfl, .inr ⟨_, e _ _ a⟩, b, d⟩
  | set a => exact ⟨_, rfl, e _ _ a⟩
  | obj a b d => exact ⟨_, _, _, rfl, e _ _ a, b, d⟩
theorem unD_mv : ∀ {rs : List R} {xs : List D} {vs : List V}, unD rs = some xs → MRs c W rs vs → MVs c W.F xs vs
  | [], _, _, e, .nil => by cases e; exact .nil
  | .d x :: r, xs, _, e, .cons a b => by
    unfold unD at e
    cases hr : unD r with
    | none => rw [hr] at e; cases e
    | some t => rw [hr] at e; cases e; exact .cons a (unD_mv hr b)
  | .cell _ :: _, _, _, e, _ => by cases e
  | .src :: _, _, _, e, _ => by cases e
  | .cls _ :: _, _, _, e, _ => by cases e
  | .scr _ :: _, _, _, e, _ => by cases e
theorem unK_eq {κ : Type} : ∀ {kr : List (κ × R)} {ks : List (κ × D)}, unK kr = some ks → kr.map (·.1) = ks.map (·.1) ∧ unD (kr.map (·.2)) = some (ks.map (·.2))
  | [], _, e => by cases e; exact ⟨rfl, rfl⟩
  | (k, .d x) :: r, ks, e => by
    unfold unK at e
    cases hr : unK r with
    | none => rw [hr] at e; cases e
    | some t =>
      rw [hr] at e
      cases e
      obtain ⟨i1, i2⟩ := unK_eq hr
      exact ⟨by rw [List.map_cons, List.map_cons, i1], by rw [List.map_cons, List.map_cons]; unfold unD; rw [i2]; rfl⟩
  | (_, .cell _) :: _, _, e => by cases e
  | (_, .src) :: _, _, e => by cases e
  | (_, .cls _) :: _, _, e => by cases e
  | (_, .scr _) :: _, _, e => by cases e
theorem tv_of {r : R} {x : D} {v : V} (S : Sim c W μ H) (h0 : vw μ r = some x) (m0 : MR c W r v) : TV c W.F H x v := by
  match r, h0, m0 with
  | .d y, h, m => cases h; exact TV.of S.ex m
  | .cell n, h, ⟨a, h1, h2⟩ =>
    subst h2
    unfold vw at h
    simp only at h
    split at h
    · rename_i rs e
      obtain ⟨vs, k1, k2⟩ := S.cel n a _ h1 e
      cases hu : unD rs with
      | none => rw [hu] at h; cases h
      | some xs => rw [hu] at h; cases h; exact ⟨_, _, rfl, .inl k1, unD_mv hu k2⟩
    · rename_i kr e
      obtain ⟨kw, k1, k2, k3⟩ := S.cel n a _ h1 e
      cases hu : unK kr with
      | none => rw [hu] at h; cases h
      | some ks =>
        rw [hu] at h; cases h
        obtain ⟨i1, i2⟩ := unK_eq hu
        exact ⟨_, _, rfl, .inl k1, k2.trans i1, unD_mv i2 k3⟩
    · rename_i kr e
      obtain ⟨kw, k1, k2, k3⟩ := S.cel n a _ h1 e
      cases hu : unK kr with
      | none => rw [hu] at h; cases h
      | some ks =>
        rw [hu] at h; cases h
        obtain ⟨i1, i2⟩ := unK_eq hu
        exact ⟨_, _, rfl, .inl k1, k2.trans i1, unD_mv i2 k3⟩
    · rename_i C fr e
      obtain ⟨dx, vf, k1, k2, k3⟩ := S.cel n a _ h1 e
      cases hu : unF fr with
      | none => rw [hu] at h; cases h
      | some fs =>
        rw [hu] at h; cases h
        obtain ⟨i1, i2⟩ := unF_mv hu k2 k3
        exact ⟨_, _, _, rfl, k1, i1, i2⟩
    · cases h
end
/-! ### operators -/
/-- what follows a result -/
def Rs (c : Cn) (W : Wo) (μ : Sto) (z : D) (Q : VK) : Prop := ∀ W' H' v, W.le W' → Sim c W' μ H' → MV c W'.F z v → Q v H'
def Op1 (c : Cn) (r : V → Hp → VK → Prop) (g : D → Option D) : Prop := ∀ W μ H x v z Q, Sim c W μ H → TV c W.F H x v → g x = some z → Rs c W μ z Q → r v H Q
def Op2 (c : Cn) (r : R2) (g : D → D → Option D) : Prop := ∀ W μ H x y v u z Q, Sim c W μ H → TV c W.F H x v → TV c W.F H y u → g x y = some z → Rs c W μ z Q → r v u H Q
def pur1 (g : D → Option D) (r : R) (μ : Sto) (Q : RK) : Prop := (vw μ r).elim False fun x => (g x).elim False fun z => Q (.d z) μ
def pur2 (g : D → D → Option D) (r s : R) (μ : Sto) (Q : RK) : Prop := (vw μ r).elim False fun x => (vw μ s).elim False fun y => (g x y).elim False fun z => Q (.d z) μ
def ePur1 (g : D → Option D) (a : EM) : EM := fun ς μ E Q => a ς μ E fun r μ1 => pur1 g r μ1 Q
def ePur2 (g : D → D → Option D) (a b : EM) : EM := fun ς μ E Q => a ς μ E fun r μ1 => b ς μ1 E fun s μ2 => pur2 g r s μ2 Q
section
variable {c : Cn} {W : Wo} {μ : Sto} {H : Hp} {E : XK}
theorem pur1_go {r : V → Hp → VK → Prop} {g : D → Option D} (h : Op1 c r g) {x : R} {v : V} {Q : VK} {Qc : RK} (S : Sim c W μ H) (m : MR c W x v) (p : pur1 g x μ Qc) (q : GoV c W Q Qc) : r v H Q := by
  unfold pur1 at p
  cases hx : vw μ x with
  | none => rw [hx] at p; exact p.elim
  | some y =>
    rw [hx] at p
    cases hz : g y with
    | none => simp only [Option.elim, hz] at p
    | some z =>
      simp only [Option.elim, hz] at p
      exact h W μ H y v z Q S (tv_of S hx m) hz fun W' H' v' l S' mv => q _ _ _ _ _ p l S' mv
theorem pur2_go {r : R2} {g : D → D → Option D} (h : Op2 c r g) {x y : R} {v u : V} {Q : VK} {Qc : RK} (S : Sim c W μ H) (m : MR c W x v) (m2 : MR c W y u) (p : pur2 g x y μ Qc) (q : GoV c W Q Qc) : r v u H Q := by
  unfold pur2 at p
  cases hx : vw μ x with
  | none => rw [hx] at p; exact p.elim
  | some a =>
    cases hy : vw μ y with
    | none => rw [hx, hy] at p; exact p.elim
    | some b =>
      rw [hx, hy] at p
      cases hz : g a b with
      | none => simp only [Option.elim, hz] at p
      | some z =>
        simp only [Option.elim, hz] at p
        exact h W μ H a b v u z Q S (tv_of S hx m) (tv_of S hy m2) hz fun W' H' v' l S' mv => q _ _ _ _ _ p l S' mv
theorem op2_go {r : R2} {g : D → D → Option D} (h : Op2 c r g) {a b : EM} : ∀ σ H Q, tM c E (ePur2 g a b) σ H Q → tOp r (tM c E a) (tM c E b) σ H Q := fun σ H Q ⟨W, ς, μ, Ec, Qc, S, L, G, m, q⟩ =>
  ⟨W, ς, μ, Ec, _, S, L, G, m, fun x μ1 W1 H1 v p l S1 mv => ⟨W1, ς, μ1, Ec, _, S1, L.mono l, G.mono l, p, fun y μ2 W2 H2 u p2 l2 S2 mv2 => pur2_go h S2 (MR.mono l2 mv) mv2 p2 (q.mono (l.trans l2))⟩⟩
theorem op1_go {r : V → Hp → VK → Prop} {g : D → Option D} (h : Op1 c r g) {a : EM} : ∀ σ H Q, tM c E (ePur1 g a) σ H Q → tM c E a σ H fun v H1 => r v H1 Q := fun σ H Q ⟨W, ς, μ, Ec, Qc, S, L, G, m, q⟩ =>
  ⟨W, ς, μ, Ec, _, S, L, G, m, fun x μ1 W1 H1 v p l S1 mv => pur1_go h S1 mv p (q.mono l)⟩
end
section
variable {X : Cx} {ts : List (Addr × Str)} {E : XK} {pos : Pos}
theorem opr_or {f : Value → Value → Sem Value} {r r' : R2} (h : OpR X f r) (h' : OpR X f r') : OpR X f (fun x y H Q => r x y H Q ∨ r' x y H Q) := fun pins s σ H x y v u Q I rx ry q => q.elim (h pins s σ H x y v u Q I rx ry) (h' pins s σ H x y v u Q I rx ry)
theorem me_bin {a b : Expr} {op : Operator} {r : R2} {g : D → D → Option D} {m n : EM} (ho : OpR X (binaryOp op) r) (hs : Op2 (cn X ts) r g) (ha : PE X a (tM (cn X ts) E m)) (hb : PE X b (tM (cn X ts) E n)) : PE X (.BinOp a op b pos) (tM (cn X ts) E (ePur2 g m n)) := pe_w (pe_op ho ha hb) (op2_go hs)
theorem me_cmp {a b : Expr} {op : CmpOp} {r : R2} {g : D → D → Option D} {m n : EM} (ho : OpR X (compareOp op) r) (hs : Op2 (cn X ts) r g) (ha : PE X a (tM (cn X ts) E m)) (hb : PE X b (tM (cn X ts) E n)) (hm : behindInMarks op b = false := by rfl) : PE X (.Compare a [op] [b] pos) (tM (cn X ts) E (ePur2 g m n)) := pe_w (pe_cmpR ho ha hb hm) (op2_go hs)
theorem mt_cm {a b : Expr} {op : CmpOp} {r : R2} {g : D → D → Option D} {m n : EM} (ho : OpR X (compareOp op) r) (hs : Op2 (cn X ts) r g) (ha : PE X a (tM (cn X ts) E m)) (hb : PE X b (tM (cn X ts) E n)) (hm : behindInMarks op b = false := by rfl) : PT X (.Compare a [op] [b] pos) (tB (cn X ts) E (ePur2 g m n)) := mt_cmp (pt_cmpR ho ha hb hm) (op2_go hs)
theorem me_un {a : Expr} {op : UnaryOp} {r : V → Hp → VK → Prop} {g : D → Option D} {m : EM} (ho : UnR X (unaryOp op) r) (hs : Op1 (cn X ts) r g) (ha : PE X a (tM (cn X ts) E m)) : PE X (.UnaryOp op a pos) (tM (cn X ts) E (ePur1 g m)) := pe_w (pe_un ho ha) (op1_go hs)
theorem me_ix {a b : Expr} {r : R2} {g : D → D → Option D} {m n : EM} (ho : IxR X r) (hs : Op2 (cn X ts) r g) (ha : PE X a (tM (cn X ts) E m)) (hb : PE X b (tM (cn X ts) E n)) (hp : PlainIx b := by exact fun _ _ => rfl) : PE X (.Subscript a b pos) (tM (cn X ts) E (ePur2 g m n)) := pe_w (pe_ix ho ha hb hp) (op2_go hs)
end
/-! results -/
section
variable {c : Cn} {W : Wo} {μ : Sto} {H : Hp} {Q : VK}
theorem Rs.bl (S : Sim c W μ H) {b : Bool} (h : Rs c W μ (.bl b) Q) : Q (.bl b) H := h W H _ (Wo.le.refl _) S (.bl b)
theorem Rs.int (S : Sim c W μ H) {b : Int} (h : Rs c W μ (.int b) Q) : Q (.int b) H := h W H _ (Wo.le.refl _) S (.int b)
theorem Rs.str (S : Sim c W μ H) {b : Str} (h : Rs c W μ (.str b) Q) : Q (.str b) H := h W H _ (Wo.le.refl _) S (.str b)
theorem Rs.mv (S : Sim c W μ H) {z : D} {v : V} (h : Rs c W μ z Q) (m : MV c W.F z v) : Q v H := h W H _ (Wo.le.refl _) S m
theorem Rs.tup (S : Sim c W μ H) {xs : List D} {vs : List V} (h : Rs c W μ (.tup xs) Q) (m : MVs c W.F xs vs) {p : Addr} (n : H p = none) : Q (.ref p) (upd H p (.tup vs)) :=
  h _ _ _ (S.addLe n) (S.add n (fun _ z => by cases z)) (.tup (.inl (.inl upd_same)) (m.mono (S.addLe n).F))
theorem Rs.lst (S : Sim c W μ H) {xs : List D} {vs : List V} (h : Rs c W μ (.lst xs) Q) (m : MVs c W.F xs vs) {p : Addr} (n : H p = none) : Q (.ref p) (upd H p (.lst vs)) :=
  h _ _ _ (S.addLe n) (S.add n (fun _ z => by cases z)) (.lst (.inl upd_same) (m.mono (S.addLe n).F))
theorem Rs.set (S : Sim c W μ H) {ks : List Str} (h : Rs c W μ (.set ks) Q) {p : Addr} (n : H p = none) : Q (.ref p) (upd H p (SetX c.p c.w p ks)) :=
  h _ _ _ (S.addLe n) (S.add n (fun _ z => by unfold SetX at z; cases z)) (.set upd_same)
end
/-! ### arithmetic -/
def addD : D → D → Option D
  | .int a, .int b => some (.int (a + b))
  | .str a, .str b => if a.length + b.length ≤ sizeLine then some (.str (a ++ b)) else none
  | .tup a, .tup b => if a.length + b.length ≤ sizeLine then some (.tup (a ++ b)) else none
  | .lst a, .lst b => if a.length + b.length ≤ sizeLine then some (.lst (a ++ b)) else none
  | _, _ => none
def rCatR : R2 := fun x y H Q => ∃ l b xs zs, x = .ref l ∧ y = .ref b ∧ Rd H l (.lst xs) ∧ Rd H b (.lst zs) ∧ xs.length + zs.length ≤ sizeLine ∧ ∀ p, H p = none → Q (.ref p) (upd H p (.lst (xs ++ zs)))
theorem op_catR {X : Cx} : OpR X (binaryOp .Add) rCatR := by
  intro pins s σ H x y v u Q I rx ry h
  obtain ⟨l, b, xs, zs, rfl, rfl, hH, hB, hz, q⟩ := h
  cases rx
  cases ry
  obtain ⟨z, its, n, r, e⟩ := (show ObjOk X.prog X.w H s.heap l (.lst xs) from hH.ok I.hok)
  obtain ⟨z2, its2, n2, r2, e2⟩ := (show ObjOk X.prog X.w H s.heap b (.lst zs) from hB.ok I.hok)
  have hl := r.length
  have hl2 := r2.length
  refine PySem.P.add_list e e2 ?_ (by rw [List.size_toArray, List.size_toArray]; omega)
  have ea : its.toArray ++ its2.toArray = (its ++ its2).toArray := by simp
  rw [ea]
  exact ⟨.ref _, _, I.lnew (t' := s.toks) (r.append r2) (by rw [List.length_append]; omega), rfl, q _ I.fresh⟩
def rAddA (K : PySem.W.Frag) : R2 := fun x y H Q => rI0 (fun i j => .int (i + j)) x y H Q ∨ (∃ i j, x = .str i ∧ y = .str j ∧ i.length + j.length ≤ sizeLine ∧ Q (.str (i ++ j)) H) ∨ rCatA K x y H Q ∨ rCatR x y H Q
theorem op_addA {X : Cx} : OpR X (binaryOp .Add) (rAddA X.K) := opr_or op_add (opr_or op_add_str (opr_or op_catA op_catR))
theorem o_add {c : Cn} : Op2 c (rAddA c.k) addD := by
  intro W μ H x y v u z Q S tx ty hz hr
  unfold addD at hz
  split at hz
  · cases hz; cases tx; cases ty; exact .inl ⟨_, _, rfl, rfl, hr.int S⟩
  · split at hz
    · rename_i hl
      cases hz; cases tx; cases ty; exact .inr (.inl ⟨_, _, rfl, rfl, hl, hr.str S⟩)
    · cases hz
  · split at hz
    · rename_i a b hl
      cases hz
      obtain ⟨p, vs, rfl, s1, m1⟩ := tx
      obtain ⟨q, us, rfl, s2, m2⟩ := ty
      have l1 := m1.len
      have l2 := m2.len
      refine .inr (.inr (.inl ⟨p, q, vs, us, rfl, rfl, sqT_mono S.ex s1, sqT_mono S.ex s2, by omega, fun e => ?_, fun e1 e2 => ?_, fun _ _ p' n => hr.tup S (m1.app m2) n⟩))
      · subst e
        cases m1
        exact hr.mv S (.tup s2 m2)
      · subst e2
        cases m2
        exact hr.mv S (by rw [List.append_nil]; exact .tup s1 m1)
    · cases hz
  · split at hz
    · rename_i a b hl
      cases hz
      obtain ⟨p, vs, rfl, s1, m1⟩ := tx
      obtain ⟨q, us, rfl, s2, m2⟩ := ty
      have l1 := m1.len
      have l2 := m2.len
      exact .inr (.inr (.inr ⟨p, q, vs, us, rfl, rfl, s1, s2, by omega, fun p' n => hr.lst S (m1.app m2) n⟩))
    · cases hz
  · cases hz
end Eg
/-! repr(e) of lists, tuples, dicts -/
namespace Sn
open Evl (Ex)
open PySem PySem.Spec PyProof.Rows L2
def kD : Key → PyData
  | .inl i => .int i
  | .inr x => .str x
mutual
/-- a value that holds the data d -/
inductive Dq (K : PySem.W.Frag) (H : Hp) : V → PyData → Prop
  | non : Dq K H .non .none
  | bl (b : Bool) : Dq K H (.bl b) (.bool b)
  | int (i : Int) : Dq K H (.int i) (.int i)
  | str (x : Str) : Dq K H (.str x) (.str x)
  | lst {a : Addr} {xs : List V} {ds : List PyData} : SqL K H a xs → DqAll K H xs ds → Dq K H (.ref a) (.list ds)
  | tup {a : Addr} {xs : List V} {ds : List PyData} : SqT K H a xs → DqAll K H xs ds → Dq K H (.ref a) (.tuple ds)
  | dct {a : Addr} {kvs : List (Key × V)} {ds : List (PyData × PyData)} : Rd H a (.dK kvs) → ds.map (·.1) = kvs.map (fun kv => kD kv.1) → DqAll K H (kvs.map (·.2)) (ds.map (·.2)) → Dq K H (.ref a) (.dict ds)
inductive DqAll (K : PySem.W.Frag) (H : Hp) : List V → List PyData → Prop
  | nil : DqAll K H [] []
  | cons {v : V} {vs : List V} {d : PyData} {ds : List PyData} : Dq K H v d → DqAll K H vs ds → DqAll K H (v :: vs) (d :: ds)
end
mutual
/-- no list is inside -/
def lfree : PyData → Bool
  | .list _ => false
  | .tuple xs => lfreeAll xs
  | .dict kvs => lfreeKv kvs
  | _ => true
def lfreeAll : List PyData → Bool
  | [] => true
  | x :: xs => lfree x && lfreeAll xs
def lfreeKv : List (PyData × PyData) → Bool
  | [] => true
  | (_, v) :: r => lfree v && lfreeKv r
end
section
variable {X : Cx} {pins : List (Addr × Obj)} {σ : L2.St} {H : Hp} {s : Shared}
theorem keys_read {P : Program} {w : World} {h : Heap} : ∀ {es : List DictEntry} {vs : List (Key × Value)}, Pairs (mixKind P w) es vs → ReadsAll h (es.map (·.key)) (vs.map fun kv => kD kv.1) []
  | _, _, .nil => .nil
  | e :: es, kv :: vs, .cons hk _ r => by
    have ih := keys_read (h := h) r
    rcases keyIs_shape hk with ⟨i, t, h1, h2⟩ | ⟨x, t, h1, h2⟩
    · simp only [List.map_cons, h1, h2, kD]
      exact .cons (as := []) (.int i t) ih
    · simp only [List.map_cons, h1, h2, kD]
      exact .cons (as := []) (.str x t) ih
theorem vals_read {P : Program} {w : World} : ∀ {es : List DictEntry} {vs : List (Key × Value)} {kvs : List (Key × V)}, Pairs (mixKind P w) es vs → KV kvs vs → Vals (kvs.map (·.2)) (es.map (·.val)) ∧ kvs.map (fun kv => kD kv.1) = vs.map fun kv => kD kv.1
  | _, _, _, .nil, .nil => ⟨.nil, rfl⟩
  | _, _, _, .cons _ hv r, .cons k t => by
    obtain ⟨a, b⟩ := vals_read r t
    refine ⟨.cons (by show RelV _ (DictEntry.val _); rw [hv]; exact k.2) a, ?_⟩
    simp only [List.map_cons, b, k.1]
mutual
theorem Dq.reads (I : L2.Inv X pins σ H s) : ∀ (d : PyData) (v : V) (u : Value), Dq X.K H v d → RelV v u → ∃ as, Reads s.heap u d as ∧ (lfree d = true → ∀ b ∈ as, b ≠ sysModules)
  | .none, _, _, h, r => by cases h; cases r; exact ⟨_, Reads.none, fun _ _ z => by cases z⟩
  | .bool b, _, _, h, r => by cases h; cases r; exact ⟨_, Reads.bool b, fun _ _ z => by cases z⟩
  | .int i, _, _, h, r => by cases h; obtain ⟨t, rfl⟩ := r; exact ⟨_, Reads.int i t, fun _ _ z => by cases z⟩
  | .str x, _, _, h, r => by cases h; obtain ⟨t, rfl⟩ := r; exact ⟨_, Reads.str x t, fun _ _ z => by cases z⟩
  | .list ds, _, _, h, r => by
    cases h with
    | lst hs ha =>
      cases r
      obtain ⟨its, rv, ⟨o, n, ho, hc, _, hd⟩, _⟩ := I.list hs
      obtain ⟨as, hr, _⟩ := Dq.readsAll I ds _ its ha rv
      exact ⟨_, Reads.list ho hc hd hr, fun z => by simp [lfree] at z⟩
  | .tuple ds, _, _, h, r => by
    cases h with
    | tup hs ha =>
      cases r
      obtain ⟨its, rv, ⟨o, ho, hc, n, hd⟩, _⟩ := I.tuple hs
      obtain ⟨as, hr, f⟩ := Dq.readsAll I ds _ its ha rv
      exact ⟨_, Reads.tuple ho hc hd hr, fun z => f (by simpa [lfree] using z)⟩
  | .dict ds, _, _, h, r => by
    cases h with
    | dct hs hk ha =>
      cases r
      obtain ⟨_, lo, vs, rel, o, es, ep, h1, h2, h3, h4, h5, h6⟩ := dk_rd I.hok hs
      obtain ⟨rv, ek⟩ := vals_read h5 rel
      obtain ⟨as, hr, f⟩ := Dq.readsKv I ds _ _ ha rv
      refine ⟨_, Reads.dict h1 h2.1 h3 (by rw [hk, ek]; exact keys_read h5) hr, fun z b hb => ?_⟩
      rcases List.mem_cons.mp hb with rfl | hb
      · exact fun y => by rw [y] at lo; simp at lo
      · exact f (by simpa [lfree] using z) b hb
theorem Dq.readsAll (I : L2.Inv X pins σ H s) : ∀ (ds : List PyData) (vs : List V) (us : List Value), DqAll X.K H vs ds → Vals vs us → ∃ as, ReadsAll s.heap us ds as ∧ (lfreeAll ds = true → ∀ b ∈ as, b ≠ sysModules)
  | [], _, _, h, r => by cases h; cases r; exact ⟨_, ReadsAll.nil, fun _ _ z => by cases z⟩
  | d :: ds, _, _, h, r => by
    cases h with
    | cons h1 h2 =>
      cases r with
      | cons r1 r2 =>
        obtain ⟨as, q1, f1⟩ := Dq.reads I d _ _ h1 r1
        obtain ⟨bs, q2, f2⟩ := Dq.readsAll I ds _ _ h2 r2
        refine ⟨_, ReadsAll.cons q1 q2, fun z b hb => ?_⟩
        simp only [lfreeAll, Bool.and_eq_true] at z
        exact (List.mem_append.mp hb).elim (f1 z.1 b) (f2 z.2 b)
theorem Dq.readsKv (I : L2.Inv X pins σ H s) : ∀ (ds : List (PyData × PyData)) (vs : List V) (us : List Value), DqAll X.K H vs (ds.map (·.2)) → Vals vs us → ∃ as, ReadsAll s.heap us (ds.map (·.2)) as ∧ (lfreeKv ds = true → ∀ b ∈ as, b ≠ sysModules)
  | [], _, _, h, r => by cases h; cases r; exact ⟨_, ReadsAll.nil, fun _ _ z => by cases z⟩
  | (k, d) :: ds, _, _, h, r => by
    cases h with
    | cons h1 h2 =>
      cases r with
      | cons r1 r2 =>
        obtain ⟨as, q1, f1⟩ := Dq.reads I d _ _ h1 r1
        obtain ⟨bs, q2, f2⟩ := Dq.readsKv I ds _ _ h2 r2
        refine ⟨_, ReadsAll.cons q1 q2, fun z b hb => ?_⟩
        simp only [lfreeKv, Bool.and_eq_true] at z
        exact (List.mem_append.mp hb).elim (f1 z.1 b) (f2 z.2 b)
end
/-- what may stand in a list that is shown: no dicts inside, or no lists -/
def okD (d : PyData) : Prop := d.hasDict = false ∨ lfree d = true
theorem ok_sys {d : PyData} {as : List Addr} (o : okD d) (f : lfree d = true → ∀ b ∈ as, b ≠ sysModules) : d.hasDict = true → sysModules ∉ as := fun z y => by
  rcases o with o | o
  · rw [o] at z; cases z
  · exact f o _ y rfl
theorem itemsK {P : Program} {w : World} (I : L2.Inv X pins σ H s) : ∀ (ds : List PyData) (vs : List V) (us : List Value), DqAll X.K H vs ds → Vals vs us → PyData.showableAll ds = true → (∀ d ∈ ds, okD d) → (∀ t ∈ PyData.shownAll ds, t.length ≤ sizeLine) →
    ∃ bs, ReadAtMost s.heap (PyData.depthAll ds) bs ∧ ReprAllK P w bs s.heap (PyData.depthAll ds) us (PyData.shownAll ds)
  | [], _, _, h, r, _, _, _ => by cases h; cases r; exact ⟨[], fun _ z => (nomatch z), by simp only [PyData.shownAll]; exact .nil⟩
  | d :: ds, _, _, h, r, hs, ho, hz => by
    cases h with
    | cons h1 h2 =>
      cases r with
      | cons r1 r2 =>
        simp only [PyData.showableAll, Bool.and_eq_true] at hs
        simp only [PyData.shownAll, List.mem_cons] at hz
        obtain ⟨as, q1, f1⟩ := Dq.reads I d _ _ h1 r1
        obtain ⟨b1, m1, k1⟩ := ReprK.of_reads (prog := P) (w := w) q1 hs.1 (ok_sys (ho d List.mem_cons_self) f1) (hz _ (.inl rfl))
        obtain ⟨b2, m2, k2⟩ := itemsK (P := P) (w := w) I ds _ _ h2 r2 hs.2 (fun e he => ho e (List.mem_cons_of_mem _ he)) fun t ht => hz t (.inr ht)
        have l1 : d.depth ≤ PyData.depthAll (d :: ds) := by simp only [PyData.depthAll]; omega
        have l2 : PyData.depthAll ds ≤ PyData.depthAll (d :: ds) := by simp only [PyData.depthAll]; omega
        refine ⟨b1 ++ b2, (m1.mono l1).append (m2.mono l2), ?_⟩
        simp only [PyData.shownAll]
        exact .cons ((k1.more fun b hb => List.mem_append_left _ hb).level_le l1) (k2.more_le (fun b hb => List.mem_append_right _ hb) l2)
end
theorem shownAll_len : ∀ ds : List PyData, (PyData.shownAll ds).length = ds.length
  | [] => rfl
  | x :: r => by simp only [PyData.shownAll, List.length_cons, shownAll_len r]
/-- repr(e) of a list, a tuple, a dict -/
def rRp (K : PySem.W.Frag) : List V → Hp → VK → Prop := fun xs H Q => ∃ (a : Addr) (d : PyData), xs = [.ref a] ∧ Dq K H (.ref a) d ∧ (okD d ∨ ∃ ds, d = .list ds ∧ ds ≠ [] ∧ ∀ e ∈ ds, okD e) ∧ d.showable = true ∧ d.depth ≤ 40 ∧ d.shown.length ≤ sizeLine ∧ Q (.str d.shown) H
theorem call_rp {X : Cx} (hg : Still X.A) (hu : X.A.units + 64 < cLine) : CallR X (.builtin "repr") (rRp X.K) := by
  intro pins s σ H xs us Q I r h
  obtain ⟨a, d, rfl, hd, ho, hs, hdp, hz, q⟩ := h
  obtain ⟨u, rfl, rx⟩ := vals1 r
  cases rx
  have fin : ∀ h' (u : Tok) tk, (∀ b o, s.heap.get? b = some o → h'.get? b = some o) → EP X pins σ Q (.str d.shown u) { s with heap := h', toks := tk } := fun h' u tk hk => ⟨.str d.shown, H, I.kept hk, ⟨u, rfl⟩, q⟩
  rcases ho with ho | ⟨ds, rfl, h0, ho⟩
  · obtain ⟨as, q1, f1⟩ := Dq.reads I d _ _ hd rfl
    exact repr_of_reads' q1 hs (ok_sys ho f1) hg (by omega) (fun _ _ z => z) fin hz
  · cases hd with
    | lst hl ha =>
      obtain ⟨its, rv, ⟨o, n, ho', hc, _, hda⟩, _⟩ := I.list hl
      have hz' : (listText (PyData.shownAll ds)).length ≤ sizeLine := by simpa only [PyData.shown] using hz
      obtain ⟨bs, m, k⟩ := itemsK (P := X.prog) (w := X.w) I ds _ its ha rv (by simpa [PyData.showable] using hs) ho fun t ht => Nat.le_trans (listText_mem_le ht) hz'
      obtain ⟨as, q1, _⟩ := Dq.reads I (.list ds) (.ref a) (.ref a) (.lst hl ha) rfl
      have na : a ∉ bs := not_mem_of_deeper q1 (by simp only [PyData.depth]; omega) m
      have le : its.length = ds.length := by
        rw [← k.length_eq]
        exact shownAll_len ds
      simp only [PyData.depth] at hdp
      simp only [PyData.shown] at fin
      match its, hda, k, le with
      | [], _, _, le => exact absurd (List.eq_nil_of_length_eq_zero le.symm) h0
      | x :: l, hda, k, le =>
        exact call_repr_slot (by omega) ⟨o, ho', hc⟩ F.slot_list_repr.toG (call_list_reprK (A := X.A.in1) ho' hc hda na (by simpa using k.length_eq) (fun i y e => k.item i y (by simpa using e)) (g := []) hg (fun b _ => Clear.nil b) (by show X.A.units + 1 + _ < cLine; omega) (fun _ _ z => z) (fun h' u tk hk => ⟨_, _, rfl, fin h' u tk hk⟩) hz')
end Sn
/-! the engine: arithmetic, comparisons, places, slices, len, all .. -/
namespace Eg
open Evl (Ex)
open PySem PySem.Spec PyProof.Rows L2 Sn LamX
def subD : D → D → Option D
  | .int a, .int b => some (.int (a - b))
  | _, _ => none
theorem o_sub {c : Cn} : Op2 c (rI0 fun i j => .int (i - j)) subD := by
  intro W μ H x y v u z Q S tx ty hz hr
  unfold subD at hz
  split at hz
  · cases hz; cases tx; cases ty; exact ⟨_, _, rfl, rfl, hr.int S⟩
  · cases hz
/-- a * b: ints, a tuple or a list by a number -/
def mulD : D → D → Option D
  | .int a, .int b => if (-(2 ^ 64) < a ∧ a < 2 ^ 64) ∨ (-(2 ^ 64) < b ∧ b < 2 ^ 64) then some (.int (a * b)) else none
  | .tup xs, .int b => if 0 ≤ b ∧ b ≤ 1000000 ∧ b.toNat * xs.length ≤ 1000000 then some (.tup (List.replicate b.toNat xs).flatten) else none
  | .lst xs, .int b => if 0 ≤ b ∧ b ≤ 1000000 ∧ xs.length * b.toNat ≤ 1000000 then some (.lst (List.replicate b.toNat xs).flatten) else none
  | _, _ => none
def modD : D → D → Option D
  | .int a, .int b => if 0 < b then some (.int (a % b)) else none
  | _, _ => none
theorem o_mod {c : Cn} : Op2 c (rI (fun _ j => 0 < j) fun i j => .int (i % j)) modD := by
  intro W μ H x y v u z Q S tx ty hz hr
  unfold modD at hz
  split at hz
  · split at hz
    · rename_i h
      cases hz; cases tx; cases ty; exact ⟨_, _, rfl, rfl, h, hr.int S⟩
    · cases hz
  · cases hz
def fdivD : D → D → Option D
  | .int a, .int b => if 0 < b ∧ b < 1073741824 then some (.int (a / b)) else none
  | _, _ => none
theorem o_fdiv {c : Cn} : Op2 c (rI CDiv fun i j => .int (i / j)) fdivD := by
  intro W μ H x y v u z Q S tx ty hz hr
  unfold fdivD at hz
  split at hz
  · split at hz
    · rename_i h
      cases hz; cases tx; cases ty; exact ⟨_, _, rfl, rfl, h, hr.int S⟩
    · cases hz
  · cases hz
def powD : D → D → Option D
  | .int a, .int b => if 0 ≤ b ∧ b ≤ 1000000 ∧ a.natAbs < 2 ^ 64 then some (.int (a ^ b.toNat)) else none
  | _, _ => none
theorem o_pow {c : Cn} : Op2 c (rI CPow fun i j => .int (i ^ j.toNat)) powD := by
  intro W μ H x y v u z Q S tx ty hz hr
  unfold powD at hz
  split at hz
  · split at hz
    · rename_i h
      cases hz; cases tx; cases ty; exact ⟨_, _, rfl, rfl, h, hr.int S⟩
    · cases hz
  · cases hz
def negD : D → Option D
  | .int a => some (.int (-a))
  | _ => none
theorem o_neg {c : Cn} : Op1 c (rU fun i => .int (-i)) negD := by
  intro W μ H x v z Q S tx hz hr
  unfold negD at hz
  split at hz
  · cases hz; cases tx; exact ⟨_, rfl, hr.int S⟩
  · cases hz
/-! ### order -/
def cmpD (f : Int → Int → Bool) : D → D → Option D
  | .int a, .int b => some (.bl (f a b))
  | _, _ => none
theorem o_cmp {c : Cn} {f : Int → Int → Bool} : Op2 c (rI0 fun i j => .bl (f i j)) (cmpD f) := by
  intro W μ H x y v u z Q S tx ty hz hr
  unfold cmpD at hz
  split at hz
  · cases hz; cases tx; cases ty; exact ⟨_, _, rfl, rfl, hr.bl S⟩
  · cases hz
abbrev ltD := cmpD fun i j => decide (i < j)
abbrev leD := cmpD fun i j => decide (i ≤ j)
abbrev gtD := cmpD fun i j => decide (j < i)
abbrev geD := cmpD fun i j => decide (j ≤ i)
/-- is None -/
def isNon : D → Bool
  | .non => true
  | _ => false
def isND (neg : Bool) : D → D → Option D
  | x, .non => some (.bl (neg ^^ isNon x))
  | _, _ => none
theorem isN_of {c : Cn} {F H : Hp} {x : D} {v : V} (t : TV c F H x v) : decide (v = .non) = isNon x := by
  cases x with
  | non => cases t; rfl
  | bl b => cases t; rfl
  | int b => cases t; rfl
  | str b => cases t; exact decide_eq_false (fun z => by cases z)
  | tup b => obtain ⟨p, _, rfl, _⟩ := t; exact decide_eq_false (fun z => by cases z)
  | lst b => obtain ⟨p, _, rfl, _⟩ := t; exact decide_eq_false (fun z => by cases z)
  | dic b => obtain ⟨p, _, rfl, _⟩ := t; exact decide_eq_false (fun z => by cases z)
  | dit b => obtain ⟨p, _, rfl, _⟩ := t; exact decide_eq_false (fun z => by cases z)
  | set b => obtain ⟨p, rfl, _⟩ := t; exact decide_eq_false (fun z => by cases z)
  | obj C b => obtain ⟨p, _, _, rfl, _⟩ := t; exact decide_eq_false (fun z => by cases z)
theorem o_isN {c : Cn} : Op2 c (fun x y H Q => y = .non ∧ Q (.bl (decide (x = .non))) H) (isND false) := by
  intro W μ H x y v u z Q S tx ty hz hr
  unfold isND at hz
  split at hz
  · cases hz; cases ty
    refine ⟨rfl, ?_⟩
    rw [isN_of tx]
    have := hr.bl S
    rw [Bool.false_xor] at this
    exact this
  · cases hz
theorem o_notN {c : Cn} : Op2 c (fun x y H Q => y = .non ∧ Q (.bl (!decide (x = .non))) H) (isND true) := by
  intro W μ H x y v u z Q S tx ty hz hr
  unfold isND at hz
  split at hz
  · cases hz; cases ty
    refine ⟨rfl, ?_⟩
    rw [isN_of tx]
    have := hr.bl S
    rw [Bool.true_xor] at this
    exact this
  · cases hz
/-! ### places -/
def ixD : D → D → Option D
  | .lst xs, .int i => atI xs i
  | .tup xs, .int i => atI xs i
  | .str z, .int i => if z.length ≤ sizeLine then (atI z.cps.toList i).map fun c => .str ⟨#[c]⟩ else none
  | _, _ => none
theorem at_mv {c : Cn} {F : Hp} {xs : List D} {vs : List V} {i : Int} {z : D} (m : MVs c F xs vs) (h : atI xs i = some z) : ∃ v, atI vs i = some v ∧ MV c F z v := by
  unfold atI at *
  rw [← m.len]
  cases hj : ixN xs.length i with
  | none => rw [hj] at h; cases h
  | some j => rw [hj] at h; exact m.get h
theorem o_ix {c : Cn} : Op2 c (rIx c.k) ixD := by
  intro W μ H x y v u z Q S tx ty hz hr
  unfold ixD at hz
  split at hz
  · obtain ⟨p, vs, rfl, s1, m1⟩ := tx
    cases ty
    obtain ⟨w, h1, h2⟩ := at_mv m1 hz
    exact .inl ⟨p, vs, _, w, rfl, rfl, .inl s1, h1, hr.mv S h2⟩
  · obtain ⟨p, vs, rfl, s1, m1⟩ := tx
    cases ty
    obtain ⟨w, h1, h2⟩ := at_mv m1 hz
    exact .inr (.inl ⟨p, vs, _, w, rfl, rfl, sqT_mono S.ex s1, h1, hr.mv S h2⟩)
  · split at hz
    · rename_i hl
      cases tx; cases ty
      rename_i zz i
      cases hc : atI zz.cps.toList i with
      | none => rw [hc] at hz; cases hz
      | some ch =>
        rw [hc] at hz
        cases hz
        exact .inr (.inr ⟨_, _, ch, rfl, rfl, hl, hc, hr.str S⟩)
    · cases hz
  · cases hz
/-! ### flat values: in -/
def flatD : D → Bool
  | .non => true | .bl _ => true | .int _ => true | .str _ => true | _ => false
def eqF : D → D → Bool
  | .non, .non => true
  | .bl a, .bl b => a == b
  | .bl a, .int b => (if a then 1 else 0) == b
  | .int a, .bl b => a == (if b then 1 else 0)
  | .int a, .int b => a == b
  | .str a, .str b => a == b
  | _, _ => false
theorem flat_tv {c : Cn} {F H : Hp} {x : D} {v : V} (t : TV c F H x v) (h : flatD x = true) : flatV v = true := by
  cases x <;> first | (cases t; rfl) | cases h
theorem flat_mv {c : Cn} {F : Hp} {x : D} {v : V} (t : MV c F x v) (h : flatD x = true) : flatV v = true := by
  cases t <;> first | rfl | cases h
theorem eqF_mv {c : Cn} {F G H : Hp} {x y : D} {v u : V} (t : MV c F x v) (s : TV c G H y u) (h : flatD x = true) (k : flatD y = true) : eqV v u = eqF x y := by
  cases t <;> first | exact absurd h Bool.false_ne_true | (cases y <;> first | exact absurd k Bool.false_ne_true | (cases s; rfl))
theorem all_flat {c : Cn} {F : Hp} : ∀ {xs : List D} {vs : List V}, MVs c F xs vs → xs.all flatD = true → vs.all flatV = true
  | _, _, .nil, _ => rfl
  | _, _, .cons a b, h => by
    rw [List.all_cons, Bool.and_eq_true] at h ⊢
    exact ⟨flat_mv a h.1, all_flat b h.2⟩
theorem any_eqF {c : Cn} {F G H : Hp} {y : D} {u : V} (s : TV c G H y u) (k : flatD y = true) : ∀ {xs : List D} {vs : List V}, MVs c F xs vs → xs.all flatD = true → inV u vs = xs.any fun x => eqF x y
  | _, _, .nil, _ => rfl
  | _, _, .cons a b, h => by
    rw [List.all_cons, Bool.and_eq_true] at h
    unfold inV
    rw [List.any_cons, List.any_cons, eqF_mv a s h.1 k]
    congr 1
    exact any_eqF s k b h.2
/-- keys -/
def keyD : D → Option Key
  | .int i => some (.inl i)
  | .str s => some (.inr s)
  | _ => none
theorem key_tv {c : Cn} {F H : Hp} {x : D} {v : V} {k : Key} (t : TV c F H x v) (h : keyD x = some k) : v = kV k := by
  cases x <;> simp [keyD] at h <;> (subst h; cases t; rfl)
def valD {κ : Type} [DecidableEq κ] (kvs : List (κ × D)) (k : κ) : Option D := (kvs.find? fun kv => decide (kv.1 = k)).map (·.2)
theorem val_mv {c : Cn} {F : Hp} {κ : Type} [DecidableEq κ] {k : κ} : ∀ {kvs : List (κ × D)} {kw : List (κ × V)}, kw.map (·.1) = kvs.map (·.1) → MVs c F (kvs.map (·.2)) (kw.map (·.2)) →
    (valD kvs k = none ∧ valV kw k = none) ∨ ∃ x v, valD kvs k = some x ∧ valV kw k = some v ∧ MV c F x v
  | [], [], _, _ => .inl ⟨rfl, rfl⟩
  | (a, x) :: kvs, (b, v) :: kw, h, m => by
    rw [List.map_cons, List.map_cons] at h
    injection h with h1 h2
    obtain rfl : b = a := h1
    cases m with
    | cons m1 m2 =>
      unfold valD valV
      rw [List.find?_cons, List.find?_cons]
      by_cases e : b = k
      · simp only [decide_eq_true e]
        exact .inr ⟨x, v, rfl, rfl, m1⟩
      · simp only [decide_eq_false e]
        exact val_mv h2 m2
/-- x in y -/
def inD (neg : Bool) : D → D → Option D
  | x, .lst ys => if flatD x = true ∧ ys.all flatD = true then some (.bl (neg ^^ ys.any fun y => eqF y x)) else none
  | x, .tup ys => if flatD x = true ∧ ys.all flatD = true then some (.bl (neg ^^ ys.any fun y => eqF y x)) else none
  | x, .dic kvs => (keyD x).map fun k => .bl (neg ^^ (valD kvs k).isSome)
  | .str ⟨⟨[ch]⟩⟩, .str z => some (.bl (neg ^^ decide (ch ∈ z.cps.toList)))
  | _, _ => none
def rInD (neg : Bool) : R2 := fun x y H Q => ∃ a o, y = .ref a ∧ DGet H a x o ∧ Q (.bl (neg ^^ o.isSome)) H
theorem op_inD {X : Cx} (hu : X.A.units + 1 < cLine) : OpR X (compareOp .In) (rInD false) := by
  intro pins s σ H x y v u Q I rx ry h
  obtain ⟨a, o, rfl, g, q⟩ := h
  obtain rfl : u = Value.ref a := ry
  rw [Bool.false_xor] at q
  exact d_in hu I g rx fun s3 I3 => ⟨.bl o.isSome, H, I3, rfl, q⟩
theorem op_notInD {X : Cx} (hu : X.A.units + 1 < cLine) : OpR X (compareOp .NotIn) (rInD true) := by
  intro pins s σ H x y v u Q I rx ry h
  obtain ⟨a, o, rfl, g, q⟩ := h
  obtain rfl : u = Value.ref a := ry
  rw [Bool.true_xor] at q
  exact d_notIn hu I g rx fun s3 I3 => ⟨.bl (!o.isSome), H, I3, rfl, q⟩
def rInA (K : PySem.W.Frag) (neg : Bool) : R2 := fun x y H Q => rIn K neg x y H Q ∨ rInD neg x y H Q ∨ ∃ (c : Nat) (z : Str), x = .str ⟨#[c]⟩ ∧ y = .str z ∧ Q (.bl (if neg then !decide (c ∈ z.cps.toList) else decide (c ∈ z.cps.toList))) H
theorem op_inA {X : Cx} (hu : X.A.units + 1 < cLine) : OpR X (compareOp .In) (rInA X.K false) := opr_or op_in_seq (opr_or (op_inD hu) op_in_sign)
theorem op_notInA {X : Cx} (hu : X.A.units + 1 < cLine) : OpR X (compareOp .NotIn) (rInA X.K true) := opr_or op_notIn_seq (opr_or (op_notInD hu) op_notIn_sign)
theorem xor_if (neg b : Bool) : (neg ^^ b) = if neg = true then !b else b := by cases neg <;> cases b <;> rfl
theorem o_in {c : Cn} (neg : Bool) : Op2 c (rInA c.k neg) (inD neg) := by
  intro W μ H x y v u z Q S tx ty hz hr
  unfold inD at hz
  split at hz
  · split at hz
    · rename_i h
      cases hz
      obtain ⟨p, vs, rfl, s1, m1⟩ := ty
      have := hr.bl S
      rw [← any_eqF tx h.1 m1 h.2, xor_if] at this
      exact .inl ⟨p, vs, rfl, .inl (.inl s1), flat_tv tx h.1, all_flat m1 h.2, this⟩
    · cases hz
  · split at hz
    · rename_i h
      cases hz
      obtain ⟨p, vs, rfl, s1, m1⟩ := ty
      have := hr.bl S
      rw [← any_eqF tx h.1 m1 h.2, xor_if] at this
      exact .inl ⟨p, vs, rfl, .inr (sqT_mono S.ex s1), flat_tv tx h.1, all_flat m1 h.2, this⟩
    · cases hz
  · rename_i kvs
    cases hk : keyD x with
    | none => rw [hk] at hz; cases hz
    | some k =>
      rw [hk] at hz
      cases hz
      obtain ⟨p, kw, rfl, s1, k1, m1⟩ := ty
      have e := key_tv tx hk
      subst e
      have := hr.bl S
      refine .inr (.inl ⟨p, valV kw k, rfl, .inl ⟨kw, k, s1, rfl, rfl⟩, ?_⟩)
      rcases val_mv (k := k) k1 m1 with ⟨e1, e2⟩ | ⟨_, _, e1, e2, _⟩
      · rw [e1] at this; rw [e2]; exact this
      · rw [e1] at this; rw [e2]; exact this
  · cases hz; cases tx; cases ty
    have := hr.bl S
    rw [xor_if] at this
    exact .inr (.inr ⟨_, _, rfl, rfl, this⟩)
  · cases hz
/-! ### d[k] -/
def dgetD : D → D → Option D
  | .dic kvs, x => (keyD x).bind fun k => valD kvs k
  | _, _ => none
theorem me_dget {X : Cx} {ts : List (Addr × Str)} {E : XK} {pos : Pos} {o i : Expr} {m n : EM} (hu : X.A.units + 1 < cLine) (ho : PE X o (tM (cn X ts) E m)) (hi : PE X i (tM (cn X ts) E n)) (hs : NoSl i := by exact fun _ _ => rfl) : PE X (.Subscript o i pos) (tM (cn X ts) E (ePur2 dgetD m n)) := by
  refine pe_w (pe_dget hu ho hi hs) fun σ H Q h => op2_go (r := fun x y H Q => ∃ a v, x = .ref a ∧ DGet H a y (some v) ∧ Q v H) ?_ σ H Q h
  intro W μ H x y v u z Q S tx ty hz hr
  unfold dgetD at hz
  split at hz
  · rename_i kvs
    cases hk : keyD y with
    | none => rw [hk] at hz; cases hz
    | some k =>
      rw [hk] at hz
      obtain ⟨p, kw, rfl, s1, k1, m1⟩ := tx
      have e := key_tv ty hk
      subst e
      rcases val_mv (k := k) k1 m1 with ⟨e1, e2⟩ | ⟨y, w, e1, e2, e3⟩
      · rw [show (some k).bind (fun k => valD kvs k) = valD kvs k from rfl, e1] at hz; cases hz
      · rw [show (some k).bind (fun k => valD kvs k) = valD kvs k from rfl, e1] at hz
        cases hz
        exact ⟨p, w, rfl, .inl ⟨kw, k, s1, rfl, e2.symm⟩, hr.mv S e3⟩
  · cases hz
end Eg
/-! the engine: ==, slices, built-in functions, isinstance, displays -/
namespace Eg
open Evl (Ex)
open PySem PySem.Spec PyProof.Rows L2 Sn LamX
/-! ### == -/
mutual
def pd : D → Option PyData
  | .non => some .none
  | .bl b => some (.bool b)
  | .int i => some (.int i)
  | .str s => some (.str s)
  | .tup xs => (pds xs).map .tuple
  | .lst xs => (pds xs).map .list
  | .dic _ => none
  | .dit _ => none
  | .set _ => none
  | .obj _ _ => none
def pds : List D → Option (List PyData)
  | [] => some []
  | x :: r => (pd x).bind fun a => (pds r).map (a :: ·)
end
section
variable {c : Cn} {F H : Hp}
mutual
theorem pd_dp (e : Ex F H) : ∀ {x : D} {v : V} {d : PyData}, MV c F x v → pd x = some d → Dp c.k H v d
  | .non, _, _, m, h => by cases m; simp only [pd] at h; cases h; exact .non
  | .bl _, _, _, m, h => by cases m; simp only [pd] at h; cases h; exact .bl _
  | .int _, _, _, m, h => by cases m; simp only [pd] at h; cases h; exact .int _
  | .str _, _, _, m, h => by cases m; simp only [pd] at h; cases h; exact .str _
  | .tup xs, _, _, m, h => by
    cases m with
    | tup a b =>
      simp only [pd] at h
      cases hd : pds xs with
      | none => rw [hd] at h; cases h
      | some ds => rw [hd] at h; cases h; exact .tup (sqT_mono e a) (pds_dp e b hd)
  | .lst xs, _, _, m, h => by
    cases m with
    | lst a b =>
      simp only [pd] at h
      cases hd : pds xs with
      | none => rw [hd] at h; cases h
      | some ds => rw [hd] at h; cases h; exact .lst (.inl (rd_mono e a)) (pds_dp e b hd)
  | .dic _, _, _, _, h => by simp [pd] at h
  | .dit _, _, _, _, h => by simp [pd] at h
  | .set _, _, _, _, h => by simp [pd] at h
  | .obj _ _, _, _, _, h => by simp [pd] at h
theorem pds_dp (e : Ex F H) : ∀ {xs : List D} {vs : List V} {ds : List PyData}, MVs c F xs vs → pds xs = some ds → DpAll c.k H vs ds
  | [], _, _, m, h => by cases m; simp only [pds] at h; cases h; exact .nil
  | x :: r, _, _, m, h => by
    cases m with
    | cons a b =>
      simp only [pds] at h
      cases hx : pd x with
      | none => rw [hx] at h; cases h
      | some d =>
        cases hr : pds r with
        | none => rw [hx, hr] at h; cases h
        | some t => rw [hx, hr] at h; cases h; exact .cons (pd_dp e a hx) (pds_dp e b hr)
end
theorem pd_tv {x : D} {v : V} {d : PyData} (e : Ex F H) (t : TV c F H x v) (h : pd x = some d) : Dp c.k H v d := by
  cases x with
  | non => cases t; simp only [pd] at h; cases h; exact .non
  | bl _ => cases t; simp only [pd] at h; cases h; exact .bl _
  | int _ => cases t; simp only [pd] at h; cases h; exact .int _
  | str _ => cases t; simp only [pd] at h; cases h; exact .str _
  | tup xs =>
    obtain ⟨p, vs, rfl, s1, m1⟩ := t
    exact pd_dp e (.tup s1 m1) h
  | lst xs =>
    obtain ⟨p, vs, rfl, s1, m1⟩ := t
    simp only [pd] at h
    cases hd : pds xs with
    | none => rw [hd] at h; cases h
    | some ds => rw [hd] at h; cases h; exact .lst (.inl s1) (pds_dp e m1 hd)
  | _ => simp [pd] at h
end
def eqB : D → D → Option Bool
  | .str a, .str b => some (decide (a = b))
  | .int a, .int b => some (decide (a = b))
  | x, y => (pd x).bind fun a => (pd y).bind fun b => if SeqAt.shaped a = true ∧ SeqAt.shaped b = true then some (PyData.eqv a b) else none
def eqD (x y : D) : Option D := (eqB x y).map .bl
def neD (x y : D) : Option D := (eqB x y).map fun b => .bl (!b)
def rEqA (K : PySem.W.Frag) : R2 := fun x y H Q => rEq x y H Q ∨ rEqD K x y H Q
def rNeA (K : PySem.W.Frag) : R2 := fun x y H Q => rNe x y H Q ∨ rNeD K x y H Q
theorem op_eqA {X : Cx} (hu : X.A.units + 64 < cLine) : OpR X (compareOp .Eq) (rEqA X.K) := opr_or op_eq (op_eqD hu)
theorem op_neA {X : Cx} (hu : X.A.units + 64 < cLine) : OpR X (compareOp .NotEq) (rNeA X.K) := opr_or op_ne (op_neD hu)
theorem eqB_or {c : Cn} {F H : Hp} {x y : D} {v u : V} {b : Bool} (e : Ex F H) (tx : TV c F H x v) (ty : TV c F H y u) (h : eqB x y = some b) :
    (scal v u = true ∧ b = decide (v = u)) ∨ ∃ d d', Dp c.k H v d ∧ Dp c.k H u d' ∧ SeqAt.shaped d = true ∧ SeqAt.shaped d' = true ∧ b = PyData.eqv d d' := by
  unfold eqB at h
  split at h
  · cases tx; cases ty; cases h
    exact .inl ⟨rfl, by rw [Bool.eq_iff_iff]; simp⟩
  · cases tx; cases ty; cases h
    exact .inl ⟨rfl, by rw [Bool.eq_iff_iff]; simp⟩
  · cases hx : pd x with
    | none => rw [hx] at h; cases h
    | some a =>
      cases hy : pd y with
      | none => rw [hx, hy] at h; cases h
      | some a' =>
        rw [hx, hy] at h
        simp only [Option.bind_some] at h
        split at h
        · rename_i hs
          cases h
          exact .inr ⟨a, a', pd_tv e tx hx, pd_tv e ty hy, hs.1, hs.2, rfl⟩
        · cases h
theorem o_eq {c : Cn} : Op2 c (rEqA c.k) eqD := by
  intro W μ H x y v u z Q S tx ty hz hr
  unfold eqD at hz
  cases hb : eqB x y with
  | none => rw [hb] at hz; cases hz
  | some b =>
    rw [hb] at hz
    cases hz
    have := hr.bl S
    rcases eqB_or S.ex tx ty hb with ⟨h1, h2⟩ | ⟨d, d', h1, h2, h3, h4, h5⟩
    · rw [h2] at this; exact .inl ⟨h1, this⟩
    · rw [h5] at this; exact .inr ⟨d, d', h1, h2, h3, h4, this⟩
theorem o_ne {c : Cn} : Op2 c (rNeA c.k) neD := by
  intro W μ H x y v u z Q S tx ty hz hr
  unfold neD at hz
  cases hb : eqB x y with
  | none => rw [hb] at hz; cases hz
  | some b =>
    rw [hb] at hz
    cases hz
    have := hr.bl S
    rcases eqB_or S.ex tx ty hb with ⟨h1, h2⟩ | ⟨d, d', h1, h2, h3, h4, h5⟩
    · rw [h2] at this; exact .inl ⟨h1, this⟩
    · rw [h5] at this; exact .inr ⟨d, d', h1, h2, h3, h4, this⟩
/-! ### a * b -/
def rRepR : R2 := fun x y H Q => ∃ l k xs, x = .ref l ∧ y = .int k ∧ Rd H l (.lst xs) ∧ -(2 ^ 63) ≤ k ∧ k < 2 ^ 63 ∧ xs.length * k.toNat ≤ sizeLine ∧
  ∀ p, H p = none → Q (.ref p) (upd H p (.lst (List.replicate k.toNat xs).flatten))
/-! ### slices -/
def slD (lo hi : Option Int) : D → Option D
  | .lst xs => some (.lst ((xs.drop (HT.sIx xs.length 0 lo)).take (HT.sIx xs.length xs.length hi - HT.sIx xs.length 0 lo)))
  | .tup xs => some (.tup ((xs.drop (HT.sIx xs.length 0 lo)).take (HT.sIx xs.length xs.length hi - HT.sIx xs.length 0 lo)))
  | .str z => if z.length ≤ sizeLine then some (.str (cutS z lo hi)) else none
  | _ => none
def rSlAll (K : PySem.W.Frag) : V → Option Int → Option Int → Hp → VK → Prop := fun x lo hi H Q => rSlL K x lo hi H Q ∨ rSlA K x lo hi H Q ∨ rSlS x lo hi H Q
theorem sl_all {X : Cx} : SlR X (rSlAll X.K) := sl_list.or (sl_tupA.or sl_str)
theorem o_sl {c : Cn} {lo hi : Option Int} : Op1 c (fun v H Q => rSlAll c.k v lo hi H Q) (slD lo hi) := by
  intro W μ H x v z Q S tx hz hr
  unfold slD at hz
  split at hz
  · cases hz
    obtain ⟨p, vs, rfl, s1, m1⟩ := tx
    refine .inl ⟨p, vs, rfl, .inl s1, fun q n => ?_⟩
    have l1 := m1.len
    unfold cutV
    rw [← l1]
    exact hr.lst S ((m1.drop _).take _) n
  · cases hz
    obtain ⟨p, vs, rfl, s1, m1⟩ := tx
    have l1 := m1.len
    refine .inr (.inl ⟨p, vs, rfl, sqT_mono S.ex s1, fun h => ?_, fun _ q n => ?_⟩)
    · rw [← l1] at h
      refine hr.mv S ?_
      rw [h.1, h.2, List.drop_zero, Nat.sub_zero, List.take_length]
      exact .tup s1 m1
    · unfold cutV
      rw [← l1]
      exact hr.tup S ((m1.drop _).take _) n
  · split at hz
    · rename_i hl
      cases hz; cases tx
      exact .inr (.inr ⟨_, rfl, hl, hr.str S⟩)
    · cases hz
  · cases hz
/-- an optional end of a slice -/
abbrev OM := Sl → Sto → XC → (Option Int → Sto → Prop) → Prop
def oNone : OM := fun _ μ _ Q => Q none μ
def oSome (e : EM) : OM := fun ς μ E Q => e ς μ E fun r μ1 => match r with | .d (.int i) => Q (some i) μ1 | _ => False
def eSl (a : EM) (lo hi : OM) : EM := fun ς μ E Q => a ς μ E fun r μ1 => lo ς μ1 E fun l μ2 => hi ς μ2 E fun h μ3 => pur1 (slD l h) r μ3 Q
end Eg
/-! tuple(d) -/
namespace Sn
open Evl (Ex)
open PySem PySem.Spec PyProof.Rows L2 PySem.W
section
variable {prog : Program} {w : World} {A : Around} {E : Value → Shared → Prop} {s : Shared} {T : String} {r d : Addr} {n : Nat} {Pv : Nat → Value → Prop} {OK : Heap → Prop}
theorem code_tuple_kdl {Q₁ : Value → Shared → Prop} (K : KdlSrc prog w T r d n Pv OK) (hh : A.handled = none) (hok : OK s.heap) (hn : n ≤ sizeLine)
    (h : ∀ (h' : Heap) (tk : Nat) (acc : Array Value), (∀ b o, s.heap.get? b = some o → h'.get? b = some o) → ItemsOf Pv acc n → Q₁ (.ref h'.objs.size) { s with heap := h'.push { cls := .type "tuple", data := .seq acc }, toks := tk }) :
    codeAny (model prog w) A (.call (.builtin "tuple.__new__") ⟨[.type "tuple", .ref r], []⟩) (wants Q₁ E) s := by
  refine codeAny_of_tree ?_
  show wpAny _ A.in1 (do checkBuiltinCall "tuple.__new__" ⟨[.type "tuple", .ref r], []⟩; again (.builtin "tuple.__new__" ⟨[.type "tuple", .ref r], []⟩)) _ _ s
  refine wpAny_bind (wpAny_of_eq (F.newCall_tuple_1 _) (wpAny_pure ⟨plainId_quiet F.plain_tuple_new _, codeAny_builtin F.entry_tuple_new ?_⟩))
  rw [Around.under_plainId F.plain_tuple_new _]
  have hsub := sub_tuple_self
  have hinit := init_tuple_lookup
  have hmh := madeHere_tuple
  have hTI : s.TypeIs (.ref r) T := K.type s hok
  have hh1 : A.in1.handled = none := hh
  have hnT := K.notTuple
  wp_walk using wpAny_typeOf hTI, kdu_collect (A := A.in1) K hh1 hok hn
  intro h' tk acc hk hacc
  show wpAny _ _ (Builtin.Tuple.tupleExact acc.toList.toArray >>= fun v => ret v) _ _ _
  unfold Builtin.Tuple.tupleExact
  refine wpAny_bind (wpAny_newObj_type ?_ (by show acc.toList.toArray.size ≤ sizeLine; simp only [Array.toArray_toList]; rw [hacc.1]; exact hn))
  refine wpAny_pure ?_
  have e : acc.toList.toArray = acc := by simp
  rw [e]
  exact h h' tk acc hk hacc
theorem call_tuple_kdl {Q : Value → Shared → Prop} (K : KdlSrc prog w T r d n Pv OK) (hh : A.handled = none) (hok : OK s.heap) (hn : n ≤ sizeLine)
    (hQ : ∀ (h' : Heap) (tk : Nat) (acc : Array Value), (∀ b o, s.heap.get? b = some o → h'.get? b = some o) → ItemsOf Pv acc n → Q (.ref h'.objs.size) { s with heap := h'.push { cls := .type "tuple", data := .seq acc }, toks := tk }) :
    wpAny (model prog w) A (call (.type "tuple") [.ref r]) Q E s := by
  refine callType_codes (Q₁ := fun obj s₁ => s₁.TypeIs obj "tuple" ∧ Q obj s₁) F.called_tuple (F.typeCall_tuple_1 _) F.entry_object_init
    (code_tuple_kdl (A := A.in1) K hh hok hn fun h' tk acc hk hacc => ⟨⟨_, Heap.get?_push_size _ rfl, rfl⟩, hQ h' tk acc hk hacc⟩) fun obj s₁ h₁ => ?_
  exact ⟨h₁.1, F.args_object_init_2 obj _, object_init_meets F.called_tuple.init.lookup F.called_tuple.made (by decide) prog w A.in1 _ s₁ ⟨h₁.1, rfl, h₁.2⟩⟩
end
section
variable {X : Cx}
/-- tuple(d): its keys -/
theorem call_tupleD (hcalm : X.calm = true) : CallR X (.type "tuple") (fun xs H Q => ∃ (a : Addr) (kvs : List (Key × V)), xs = [.ref a] ∧ Rd H a (.dK kvs) ∧ ∀ p, H p = none → Q (.ref p) (upd H p (.tup (kvs.map fun kv => kV kv.1)))) := by
  intro pins s σ H xs us Q I r q
  obtain ⟨a, kvs, ex, hd, q⟩ := q
  subst ex
  obtain ⟨u, eu, rx⟩ := vals1 r
  subst eu
  cases rx
  obtain ⟨z, lo, vs, rel, dd⟩ := dk_rd I.hok hd
  obtain ⟨ep, hat⟩ := dd.dictAt
  have ek : (kvs.map fun kv => kV kv.1) = vs.map fun p => kV p.1 := by
    have e := congrArg (List.map kV) rel.keys
    rw [List.map_map, List.map_map] at e
    exact e
  refine call_tuple_kdl (PySem.W.kdl_dict (knd := mixKind X.prog X.w) (kvs := vs) (ep := ep) lo) (I.ok.hd hcalm) hat (by rw [← rel.length]; exact z) fun h' tk acc hk hacc => ?_
  have hv : Vals (vs.map fun p => kV p.1) acc.toList := keys_at (by rw [Array.length_toList]; exact hacc.1) fun j v e => hacc.2 j v (by rw [← Array.getElem?_toList]; exact e)
  have I1 : L2.Inv X pins σ H { s with heap := h' } := I.kept (t' := s.toks) hk
  refine ⟨.ref h'.objs.size, upd H h'.objs.size (.tup (kvs.map fun kv => kV kv.1)), I1.laid (t' := tk) (fun b o e => Heap.get?_push_of_some _ e) (Nat.le_refl _)
    (show ObjOk X.prog X.w _ _ _ (.tup (kvs.map fun kv => kV kv.1)) from ⟨by rw [List.length_map]; exact z, acc.toList, by rw [ek]; exact hv, by rw [Array.toArray_toList]; exact IsTup.new _ _⟩), rfl, q _ (I1.hok.fresh (Nat.le_refl _))⟩
end
end Sn
/-! list(d.items()) -/
namespace Sn
open Evl (Ex)
open PySem PySem.Spec PyProof.Rows L2
section
variable {X : Cx} {e : Expr} {te : TE} {p apos cpos pos : Pos} {pins : List (Addr × Obj)} {σ : L2.St} {H H' : Hp} {s : Shared} {h' : Heap} {t' : Nat}
/-- many new things at once -/
theorem inv_many (I : L2.Inv X pins σ H s) (k : ∀ b u, s.heap.get? b = some u → h'.get? b = some u) (hext : ∀ b u, H b = some u → H' b = some u) (hnew : ∀ b u, H' b = some u → H b = some u ∨ (s.heap.objs.size ≤ b ∧ ObjOk X.prog X.w H' h' b u)) :
    L2.Inv X pins σ H' { s with heap := h', toks := t' } := by
  refine I.un ⟨fun b u q _ _ _ => k b u q, fun b u q _ _ _ => ⟨u.slots, k b u q⟩, fun b u q n _ => ?_, fun b u q _ => ⟨u, k b u q⟩, fun b xs q => hext _ _ q, fun b u xs q => hext _ _ q, fun b ps q => ⟨#[], by rw [hext _ _ q]; simp⟩⟩ fun b u z => ?_
  · cases z : H' b with
    | none => rfl
    | some v =>
      rcases hnew b v z with h | h
      · rw [n] at h; cases h
      · exact absurd (Heap.lt_size q) (Nat.not_lt.mpr h.1)
  · rcases hnew b u z with h | h
    · exact (I.hok b u h).stay (fun c v _ q => k c v q) (fun c q => hext _ _ q) fun c xs q => hext _ _ q
    · exact h.2
def rItems : V → Hp → VK → Prop := fun x H Q => ∃ (d : Addr) (kvs : List (Key × V)), x = .ref d ∧ H d = some (.dK kvs) ∧ ∀ p ps H', Evl.Ex H H' → H p = none → H' p = some (.lst (ps.map V.ref)) → Paired (fun q (kv : Key × V) => H' q = some (.tup [kV kv.1, kv.2])) ps kvs → Q (.ref p) H'
def tItems (te : TE) : TE := fun σ H Q => te σ H fun x H1 => rItems x H1 Q
theorem vals_refs : ∀ as : List Addr, Vals (as.map V.ref) (as.map Value.ref)
  | [] => .nil
  | _ :: r => .cons rfl (vals_refs r)
theorem pairs_at {H' : Hp} : ∀ {as : List Addr} {kvs : List (Key × V)}, as.length = kvs.length → (∀ (j : Nat) (a : Addr) (kv : Key × V), as[j]? = some a → kvs[j]? = some kv → H' a = some (.tup [kV kv.1, kv.2])) → Paired (fun q (kv : Key × V) => H' q = some (.tup [kV kv.1, kv.2])) as kvs
  | [], [], _, _ => .nil
  | a :: as, kv :: kvs, hl, h => .cons (h 0 a kv rfl rfl) (pairs_at (by simpa using hl) fun j b k h1 h2 => h (j + 1) b k (by simpa using h1) (by simpa using h2))
theorem pe_listItems (hc : X.calm = true) (he : PE X e te) (hg : Gl X "list") (hm : X.mg "list" = none) (hv : bootBuiltins "list" = some (.type "list")) (hbase : attributeBase e "items" X.env (eval e X.env) = eval e X.env := by rfl) (hline : (apos.endLine == cpos.line) = true := by rfl)
    (hs : starEach [.Call (.Attribute e "items" apos) [] [] cpos] X.env = (false, eval (.Call (.Attribute e "items" apos) [] [] cpos) X.env) :: starEach [] X.env := by rfl) :
    PE X (.Call (.Name "list" p) [.Call (.Attribute e "items" apos) [] [] cpos] [] pos) (tItems te) := by
  refine ⟨fun pins s σ H Q I hq => wpAny_Call_Name_kw (ld_blt I hg hm hv (PyProof.Rows.callWith_type1 ?_ hs rfl))⟩
  rw [hs]
  show wpAny _ _ (spliced ((false, eval (.Call (.Attribute e "items" apos) [] [] cpos) X.env) :: backTo pos (starEach [] X.env))) _ _ s
  refine Calls.spliced_cons (wpAny_Call_method (T := "dict") (id := "dict.items") hbase rfl hline F.plainAttrs_dict F.slot_dict_items F.type_dict_items (thn (he.run pins s σ H _ I hq) fun u s1 hh => ?_))
  obtain ⟨x, H1, I1, rx, d, kvs, ex, hd, q⟩ := hh
  subst ex
  obtain rfl : u = Value.ref d := rx
  obtain ⟨hz, lo, vs, kv, hdo⟩ := (show ObjOk X.prog X.w H1 s1.heap d (.dK kvs) from I1.hok d _ hd)
  obtain ⟨ep, hat⟩ := hdo.dictAt
  have ln : kvs.length = vs.length := Paired.length kv
  have I2 : L2.Inv X pins σ H1 { s1 with heap := s1.heap.push { cls := .type "dict_items", data := .fields #[.ref d] } } := I1.kept (t' := s1.toks) fun b ob q => Heap.get?_push_of_some _ q
  refine ⟨hdo.typeIs, hdo.mapOf.noDict, ?_⟩
  show wpAny _ _ (callWith cpos (.builtin "dict.items") [.ref d] [] []) _ X.xe s1
  refine method_meetsIn F.slot_dict_items F.entry_dict_items rfl (PySem.evalArgs_none ⟨rfl, hdo.typeIs, F.args_dict_items_1 _, _, meets_dict_items (mixKind X.prog X.w) d lo, ⟨vs, hdo⟩, ?_⟩)
  refine Calls.spliced_nil (PySem.W.kdx_call (knd := mixKind X.prog X.w) (kvs := vs) (ep := ep) (r := s1.heap.objs.size) (d := d) (I1.ok.hd hc) ⟨_, Heap.get?_push_size _ rfl, rfl, rfl⟩ (hat.push _) (by rw [← ln]; exact hz) fun h' tk acc c as hk hS hl hG hacc => ?_)
  generalize hs2 : ({ s1 with heap := s1.heap.push { cls := .type "dict_items", data := .fields #[.ref d] } } : Shared) = s2 at I2 hk hS hG ⊢
  have hal : as.length = kvs.length := by rw [hl, ln]
  have nd : as.Nodup := List.Pairwise.imp (fun h => Nat.ne_of_lt h) hG.rise
  let D := s2.heap.objs.size
  let HN : Hp := fun b => if b = D then some (.lst (as.map V.ref)) else match (as.zip kvs).find? (fun q => decide (q.1 = b)) with
    | some q => some (.tup [kV q.2.1, q.2.2])
    | none => H1 b
  have atA : ∀ (j : Nat) (a : Addr) (kx : Key × V), as[j]? = some a → kvs[j]? = some kx → HN a = some (.tup [kV kx.1, kx.2]) := fun j a kx h1 h2 => by
    have hne : a ≠ D := Nat.ne_of_gt (hG.above a (List.mem_of_getElem? h1))
    show (if a = D then _ else _) = _
    rw [if_neg hne]
    have hf : (as.zip kvs).find? (fun q => decide (q.1 = a)) = some (a, kx) := by
      have hz : (as.zip kvs)[j]? = some (a, kx) := by rw [List.getElem?_zip_eq_some]; exact ⟨h1, h2⟩
      cases hq : (as.zip kvs).find? (fun q => decide (q.1 = a)) with
      | none => exact absurd (List.find?_eq_none.mp hq (a, kx) (List.mem_of_getElem? hz)) (by simp)
      | some q =>
        have e1 : q.1 = a := by have := List.find?_some hq; simpa using this
        obtain ⟨i, hi⟩ := List.mem_iff_getElem?.mp (List.mem_of_find?_eq_some hq)
        obtain ⟨g1, g2⟩ := List.getElem?_zip_eq_some.mp hi
        have hij : i = j := (List.getElem?_inj (List.getElem?_eq_some_iff.mp g1).1 nd).mp (by rw [g1, h1, e1])
        subst hij
        rw [h2] at g2
        rw [← e1, Option.some.inj g2]
    rw [hf]
  have nf : ∀ b, H1 b ≠ none → b < s2.heap.objs.size := fun b hb => by
    rcases Nat.lt_or_ge b s2.heap.objs.size with z | z
    · exact z
    · exact absurd (I2.hok.fresh z) hb
  have old : ∀ b u, H1 b = some u → HN b = some u := fun b u hb => by
    have hlt := nf b (by rw [hb]; simp)
    show (if b = D then _ else _) = _
    rw [if_neg (Nat.ne_of_lt hlt)]
    have hf : (as.zip kvs).find? (fun q => decide (q.1 = b)) = none := List.find?_eq_none.mpr fun q hq => by
      simp only [decide_eq_true_eq]
      intro z
      have := hG.above q.1 (List.of_mem_zip hq).1
      rw [z] at this
      exact Nat.lt_asymm this hlt
    rw [hf]
    exact hb
  have I3 : L2.Inv X pins σ HN { s2 with heap := h', toks := tk } := by
    refine inv_many I2 hk old fun b u hb => ?_
    by_cases hD : b = D
    · right
      have e1 : HN b = some (.lst (as.map V.ref)) := by show (if b = D then _ else _) = _; rw [if_pos hD]
      rw [e1] at hb
      cases hb
      refine ⟨Nat.le_of_eq hD.symm, by rw [List.length_map, hal]; exact hz, acc.toList, c, ?_, by rw [Array.toArray_toList, hD]; exact hS⟩
      rw [hacc]
      exact vals_refs as
    · have e1 : HN b = (match (as.zip kvs).find? (fun q => decide (q.1 = b)) with | some q => some (.tup [kV q.2.1, q.2.2]) | none => H1 b) := by show (if b = D then _ else _) = _; rw [if_neg hD]
      cases hq : (as.zip kvs).find? (fun q => decide (q.1 = b)) with
      | none =>
        rw [e1, hq] at hb
        exact .inl hb
      | some q0 =>
        right
        rw [e1, hq] at hb
        cases hb
        have e2 : q0.1 = b := by have := List.find?_some hq; simpa using this
        obtain ⟨i, hi⟩ := List.mem_iff_getElem?.mp (List.mem_of_find?_eq_some hq)
        obtain ⟨g1, g2⟩ := List.getElem?_zip_eq_some.mp hi
        rw [e2] at g1
        obtain ⟨key, k, x, hk1, hk2, hk3⟩ := hG.pairs i b g1
        obtain ⟨qv, w1, w2, w3⟩ := LiI.paired_get kv g2
        rw [hk1] at w1
        cases w1
        have hlt := hG.above b (List.mem_of_getElem? g1)
        refine ⟨Nat.le_of_lt hlt, by show (2 : Nat) ≤ sizeLine; decide, [key, x], .cons ?_ (.cons w3 .nil), ⟨_, hk3, rfl, _, rfl⟩⟩
        have : q0.2.1 = k := w2
        rw [this]
        rcases keyIs_shape hk2 with ⟨i, t, rfl, rfl⟩ | ⟨y, t, rfl, rfl⟩
        · exact ⟨t, rfl⟩
        · exact ⟨t, rfl⟩
  refine ⟨.ref D, HN, I3, rfl, q D as HN old (I2.hok.fresh (Nat.le_refl _)) ?_ (pairs_at hal atA)⟩
  show (if D = D then _ else _) = _
  rw [if_pos rfl]
end
end Sn
/-! list(d.values()) -/
namespace Sn
open Evl (Ex)
open PySem PySem.Spec PyProof.Rows L2
def rValsR : V → Hp → VK → Prop := fun x H Q => ∃ (d : Addr) (kvs : List (Key × V)), x = .ref d ∧ Rd H d (.dK kvs) ∧ ∀ p, H p = none → Q (.ref p) (upd H p (.lst (kvs.map (·.2))))
def tValsR (te : TE) : TE := fun σ H Q => te σ H fun x H1 => rValsR x H1 Q
section
variable {X : Cx} {e : Expr} {te : TE} {p apos cpos pos : Pos}
theorem pe_listValsR (hc : X.calm = true) (he : PE X e te) (hg : Gl X "list") (hm : X.mg "list" = none) (hv : bootBuiltins "list" = some (.type "list")) (hbase : attributeBase e "values" X.env (eval e X.env) = eval e X.env := by rfl) (hline : (apos.endLine == cpos.line) = true := by rfl)
    (hs : starEach [.Call (.Attribute e "values" apos) [] [] cpos] X.env = (false, eval (.Call (.Attribute e "values" apos) [] [] cpos) X.env) :: starEach [] X.env := by rfl) :
    PE X (.Call (.Name "list" p) [.Call (.Attribute e "values" apos) [] [] cpos] [] pos) (tValsR te) := by
  refine ⟨fun pins s σ H Q I hq => wpAny_Call_Name_kw (ld_blt I hg hm hv (PyProof.Rows.callWith_type1 ?_ hs rfl))⟩
  rw [hs]
  show wpAny _ _ (spliced ((false, eval (.Call (.Attribute e "values" apos) [] [] cpos) X.env) :: backTo pos (starEach [] X.env))) _ _ s
  refine Calls.spliced_cons (wpAny_Call_method (T := "dict") (id := "dict.values") hbase rfl hline F.plainAttrs_dict F.slot_dict_values F.type_dict_values (thn (he.run pins s σ H _ I hq) fun u s1 hh => ?_))
  obtain ⟨x, H1, I1, rx, d, kvs, ex, hd, q⟩ := hh
  subst ex
  obtain rfl : u = Value.ref d := rx
  obtain ⟨hz, lo, vs, kv, hdo⟩ := (show ObjOk X.prog X.w H1 s1.heap d (.dK kvs) from hd.ok I1.hok)
  obtain ⟨ep, hat⟩ := hdo.dictAt
  have ln : kvs.length = vs.length := Paired.length kv
  have I2 : Inv X pins σ H1 { s1 with heap := s1.heap.push { cls := .type "dict_values", data := .fields #[.ref d] } } := I1.kept (t' := s1.toks) fun b ob q => Heap.get?_push_of_some _ q
  refine ⟨hdo.typeIs, hdo.mapOf.noDict, ?_⟩
  show wpAny _ _ (callWith cpos (.builtin "dict.values") [.ref d] [] []) _ X.xe s1
  refine method_meetsIn F.slot_dict_values F.entry_dict_values rfl (PySem.evalArgs_none ⟨rfl, hdo.typeIs, F.args_dict_values_1 _, _, meets_dict_values (mixKind X.prog X.w) d lo, ⟨vs, hdo⟩, ?_⟩)
  refine Calls.spliced_nil (PySem.W.kdl_call (PySem.W.kdl_values (knd := mixKind X.prog X.w) (kvs := vs) (ep := ep) (r := s1.heap.objs.size) (d := d)) (I1.ok.hd hc) ⟨⟨_, Heap.get?_push_size _ rfl, rfl, rfl⟩, hat.push _⟩ (by rw [← ln]; exact hz) fun h' tk acc c hk hS hacc => ?_)
  refine ⟨.ref _, _, I2.laid hk (Nat.le_refl _) (o := .lst (kvs.map (·.2))) ⟨by rw [List.length_map]; exact hz, acc.toList, c, ?_, by rw [Array.toArray_toList]; exact hS⟩, rfl, q _ (I2.hok.fresh (Nat.le_refl _))⟩
  refine vals_of_at (by have h9 := hacc.1; simp only [List.length_map, Array.length_toList]; omega) fun j x w h1 h2 => ?_
  obtain ⟨k, hky⟩ := hacc.2 j w (by rw [← Array.getElem?_toList]; exact h2)
  rw [List.getElem?_map] at h1
  cases hj : kvs[j]? with
  | none => rw [hj] at h1; cases h1
  | some kx =>
    rw [hj] at h1
    obtain rfl : kx.2 = x := Option.some.inj h1
    obtain ⟨qv, g1, _, g3⟩ := LiI.paired_get kv hj
    rw [hky] at g1
    cases g1
    exact g3
end
section
variable {X : Cx} {e : Expr} {te : TE} {p apos cpos pos : Pos} {pins : List (Addr × Obj)} {σ : L2.St} {H H' : Hp} {s : Shared} {h' : Heap} {t' : Nat}
def rItemsR : V → Hp → VK → Prop := fun x H Q => ∃ (d : Addr) (kvs : List (Key × V)), x = .ref d ∧ Rd H d (.dK kvs) ∧ ∀ p ps H', Evl.Ex H H' → H p = none → H' p = some (.lst (ps.map V.ref)) → (∀ q ∈ ps, H q = none) → Paired (fun q (kv : Key × V) => H' q = some (.tup [kV kv.1, kv.2])) ps kvs → Q (.ref p) H'
def tItemsR (te : TE) : TE := fun σ H Q => te σ H fun x H1 => rItemsR x H1 Q
theorem pe_listItemsR (hc : X.calm = true) (he : PE X e te) (hg : Gl X "list") (hm : X.mg "list" = none) (hv : bootBuiltins "list" = some (.type "list")) (hbase : attributeBase e "items" X.env (eval e X.env) = eval e X.env := by rfl) (hline : (apos.endLine == cpos.line) = true := by rfl)
    (hs : starEach [.Call (.Attribute e "items" apos) [] [] cpos] X.env = (false, eval (.Call (.Attribute e "items" apos) [] [] cpos) X.env) :: starEach [] X.env := by rfl) :
    PE X (.Call (.Name "list" p) [.Call (.Attribute e "items" apos) [] [] cpos] [] pos) (tItemsR te) := by
  refine ⟨fun pins s σ H Q I hq => wpAny_Call_Name_kw (ld_blt I hg hm hv (PyProof.Rows.callWith_type1 ?_ hs rfl))⟩
  rw [hs]
  show wpAny _ _ (spliced ((false, eval (.Call (.Attribute e "items" apos) [] [] cpos) X.env) :: backTo pos (starEach [] X.env))) _ _ s
  refine Calls.spliced_cons (wpAny_Call_method (T := "dict") (id := "dict.items") hbase rfl hline F.plainAttrs_dict F.slot_dict_items F.type_dict_items (thn (he.run pins s σ H _ I hq) fun u s1 hh => ?_))
  obtain ⟨x, H1, I1, rx, d, kvs, ex, hd, q⟩ := hh
  subst ex
  obtain rfl : u = Value.ref d := rx
  obtain ⟨hz, lo, vs, kv, hdo⟩ := (show ObjOk X.prog X.w H1 s1.heap d (.dK kvs) from hd.ok I1.hok)
  obtain ⟨ep, hat⟩ := hdo.dictAt
  have ln : kvs.length = vs.length := Paired.length kv
  have I2 : L2.Inv X pins σ H1 { s1 with heap := s1.heap.push { cls := .type "dict_items", data := .fields #[.ref d] } } := I1.kept (t' := s1.toks) fun b ob q => Heap.get?_push_of_some _ q
  refine ⟨hdo.typeIs, hdo.mapOf.noDict, ?_⟩
  show wpAny _ _ (callWith cpos (.builtin "dict.items") [.ref d] [] []) _ X.xe s1
  refine method_meetsIn F.slot_dict_items F.entry_dict_items rfl (PySem.evalArgs_none ⟨rfl, hdo.typeIs, F.args_dict_items_1 _, _, meets_dict_items (mixKind X.prog X.w) d lo, ⟨vs, hdo⟩, ?_⟩)
  refine Calls.spliced_nil (PySem.W.kdx_call (knd := mixKind X.prog X.w) (kvs := vs) (ep := ep) (r := s1.heap.objs.size) (d := d) (I1.ok.hd hc) ⟨_, Heap.get?_push_size _ rfl, rfl, rfl⟩ (hat.push _) (by rw [← ln]; exact hz) fun h' tk acc c as hk hS hl hG hacc => ?_)
  generalize hs2 : ({ s1 with heap := s1.heap.push { cls := .type "dict_items", data := .fields #[.ref d] } } : Shared) = s2 at I2 hk hS hG ⊢
  have hal : as.length = kvs.length := by rw [hl, ln]
  have nd : as.Nodup := List.Pairwise.imp (fun h => Nat.ne_of_lt h) hG.rise
  let D := s2.heap.objs.size
  let HN : Hp := fun b => if b = D then some (.lst (as.map V.ref)) else match (as.zip kvs).find? (fun q => decide (q.1 = b)) with
    | some q => some (.tup [kV q.2.1, q.2.2])
    | none => H1 b
  have atA : ∀ (j : Nat) (a : Addr) (kx : Key × V), as[j]? = some a → kvs[j]? = some kx → HN a = some (.tup [kV kx.1, kx.2]) := fun j a kx h1 h2 => by
    have hne : a ≠ D := Nat.ne_of_gt (hG.above a (List.mem_of_getElem? h1))
    show (if a = D then _ else _) = _
    rw [if_neg hne]
    have hf : (as.zip kvs).find? (fun q => decide (q.1 = a)) = some (a, kx) := by
      have hz : (as.zip kvs)[j]? = some (a, kx) := by rw [List.getElem?_zip_eq_some]; exact ⟨h1, h2⟩
      cases hq : (as.zip kvs).find? (fun q => decide (q.1 = a)) with
      | none => exact absurd (List.find?_eq_none.mp hq (a, kx) (List.mem_of_getElem? hz)) (by simp)
      | some q =>
        have e1 : q.1 = a := by have := List.find?_some hq; simpa using this
        obtain ⟨i, hi⟩ := List.mem_iff_getElem?.mp (List.mem_of_find?_eq_some hq)
        obtain ⟨g1, g2⟩ := List.getElem?_zip_eq_some.mp hi
        have hij : i = j := (List.getElem?_inj (List.getElem?_eq_some_iff.mp g1).1 nd).mp (by rw [g1, h1, e1])
        subst hij
        rw [h2] at g2
        rw [← e1, Option.some.inj g2]
    rw [hf]
  have nf : ∀ b, H1 b ≠ none → b < s2.heap.objs.size := fun b hb => by
    rcases Nat.lt_or_ge b s2.heap.objs.size with z | z
    · exact z
    · exact absurd (I2.hok.fresh z) hb
  have old : ∀ b u, H1 b = some u → HN b = some u := fun b u hb => by
    have hlt := nf b (by rw [hb]; simp)
    show (if b = D then _ else _) = _
    rw [if_neg (Nat.ne_of_lt hlt)]
    have hf : (as.zip kvs).find? (fun q => decide (q.1 = b)) = none := List.find?_eq_none.mpr fun q hq => by
      simp only [decide_eq_true_eq]
      intro z
      have := hG.above q.1 (List.of_mem_zip hq).1
      rw [z] at this
      exact Nat.lt_asymm this hlt
    rw [hf]
    exact hb
  have I3 : L2.Inv X pins σ HN { s2 with heap := h', toks := tk } := by
    refine inv_many I2 hk old fun b u hb => ?_
    by_cases hD : b = D
    · right
      have e1 : HN b = some (.lst (as.map V.ref)) := by show (if b = D then _ else _) = _; rw [if_pos hD]
      rw [e1] at hb
      cases hb
      refine ⟨Nat.le_of_eq hD.symm, by rw [List.length_map, hal]; exact hz, acc.toList, c, ?_, by rw [Array.toArray_toList, hD]; exact hS⟩
      rw [hacc]
      exact vals_refs as
    · have e1 : HN b = (match (as.zip kvs).find? (fun q => decide (q.1 = b)) with | some q => some (.tup [kV q.2.1, q.2.2]) | none => H1 b) := by show (if b = D then _ else _) = _; rw [if_neg hD]
      cases hq : (as.zip kvs).find? (fun q => decide (q.1 = b)) with
      | none =>
        rw [e1, hq] at hb
        exact .inl hb
      | some q0 =>
        right
        rw [e1, hq] at hb
        cases hb
        have e2 : q0.1 = b := by have := List.find?_some hq; simpa using this
        obtain ⟨i, hi⟩ := List.mem_iff_getElem?.mp (List.mem_of_find?_eq_some hq)
        obtain ⟨g1, g2⟩ := List.getElem?_zip_eq_some.mp hi
        rw [e2] at g1
        obtain ⟨key, k, x, hk1, hk2, hk3⟩ := hG.pairs i b g1
        obtain ⟨qv, w1, w2, w3⟩ := LiI.paired_get kv g2
        rw [hk1] at w1
        cases w1
        have hlt := hG.above b (List.mem_of_getElem? g1)
        refine ⟨Nat.le_of_lt hlt, by show (2 : Nat) ≤ sizeLine; decide, [key, x], .cons ?_ (.cons w3 .nil), ⟨_, hk3, rfl, _, rfl⟩⟩
        have : q0.2.1 = k := w2
        rw [this]
        rcases keyIs_shape hk2 with ⟨i, t, rfl, rfl⟩ | ⟨y, t, rfl, rfl⟩
        · exact ⟨t, rfl⟩
        · exact ⟨t, rfl⟩
  refine ⟨.ref D, HN, I3, rfl, q D as HN old (I2.hok.fresh (Nat.le_refl _)) ?_ (fun a ha => I2.hok.fresh (Nat.le_of_lt (hG.above a ha))) (pairs_at hal atA)⟩
  show (if D = D then _ else _) = _
  rw [if_pos rfl]
end
end Sn
/-! steps of editions: dicts of dicts; locks -/
namespace Sn
open Evl (Ex)
open PySem L2 LamX
/-- a state, its row (kinds and where they lead), where the row's dict lies -/
abbrev StE := Str × List (Str × Str) × Addr
def tKV (e : StE) : Key × V := (.inr e.1, .ref e.2.2)
def Stp (H : Hp) (p : Addr) (st : List StE) : Prop := H p = some (.dK (st.map tKV)) ∧ ∀ e ∈ st, Sts H e.2.2 e.2.1
section
variable {H H' : Hp} {p sa la ca : Addr} {T : Nat} {st : List StE}
theorem Stp.ex (h : Stp H p st) (e : Ex H H') : Stp H' p st := ⟨e _ _ h.1, fun x hx => (h.2 x hx).ex e⟩
theorem Stp.exN (h : Stp H p st) (e : ExtN H H') : Stp H' p st := ⟨e _ _ h.1 (fun _ z => by cases z), fun x hx => (h.2 x hx).exN e⟩
theorem Stp.ns (D : Dr H sa la ca T) (R : Stp H p st) : p ≠ sa ∧ p ≠ la := by
  obtain ⟨⟨ls, cs, r, t, a, b, _⟩, _⟩ := D
  constructor
  · intro z
    have h := R.1
    rw [z, a] at h
    have h2 : dkv la ca r t = st.map tKV := by injection (Option.some.inj h)
    match st, h2 with
    | [], h2 => cases h2
    | [_], h2 => exact absurd (congrArg List.length h2) (by simp [dkv])
    | [_, _], h2 => exact absurd (congrArg List.length h2) (by simp [dkv])
    | _ :: _ :: e :: _, h2 =>
      have h3 := congrArg (fun l => (l[2]?).map (·.2)) h2
      have h4 : (some (V.int r) : Option V) = some (V.ref e.2.2) := h3
      cases h4
  · intro z
    have h := R.1
    rw [z, b] at h
    cases h
theorem Stp.cutE (R : Stp H p st) (D : Dr H sa la ca T) (e : Ex (cut H sa la) H') : Stp H' p st := ⟨cut_to e R.1 (R.ns D).1 (R.ns D).2, fun x hx => (R.2 x hx).cutE D e⟩
theorem keysT (st : List StE) : (st.map tKV).map (·.1) = (st.map (·.1)).map Sum.inr := by simp [tKV, Function.comp_def]
theorem valT {e : StE} (h : (st.map (·.1)).Nodup) (he : e ∈ st) : valV (st.map tKV) (Sum.inr e.1 : Key) = some (.ref e.2.2) := valV_at (by rw [keysT]; exact nodup_inr h) (List.mem_map_of_mem (f := tKV) he)
theorem valTn {k : Str} (h : k ∉ st.map (·.1)) : valV (st.map tKV) (Sum.inr k : Key) = none := valV_no (by
  rw [keysT]
  intro z
  obtain ⟨a, ha, e⟩ := List.mem_map.mp z
  cases e
  exact h ha)
/-- a row's dict is not that of the steps -/
theorem Stp.inn (R : Stp H p st) {e : StE} (he : e ∈ st) : e.2.2 ≠ p := fun z => by
  have h := R.2 e he
  unfold Sts at h
  rw [z, R.1] at h
  have h2 : st.map tKV = e.2.1.map sKV := by injection (Option.some.inj h)
  cases st with
  | nil => cases he
  | cons a r =>
    cases hq : e.2.1 with
    | nil => rw [hq] at h2; cases h2
    | cons b q =>
      rw [hq] at h2
      have h3 : tKV a = sKV b := (List.cons.inj h2).1
      have h4 : V.ref a.2.2 = V.str b.2 := congrArg Prod.snd h3
      cases h4
end
/-! ### locks -/
def tLocks : Nat → TE → TE
  | 0, t => t
  | n + 1, t => tLockE (tLocks n t)
theorem pe_locks {X : Cx} {e : Expr} {t : TE} (h : PE X e t) : ∀ n, PE X e (tLocks n t)
  | 0 => h
  | n + 1 => pe_lock (pe_locks h n)
theorem locks_go {t : TE} {σ : L2.St} : ∀ (ds : List (Addr × HO)) (H : Hp) (Q : VK), (ds.map (·.1)).Nodup → (∀ p ∈ ds, H p.1 = some p.2 ∧ Mut (some p.2)) →
    (∀ HL, (∀ p ∈ ds, ∃ od, HL p.1 = some (.frz od p.2)) → (∀ a, a ∉ ds.map (·.1) → HL a = H a) → ∀ Q' : VK, (∀ v H', Ex HL H' → (∀ H3, Ex H H3 → (∀ a, a ∉ ds.map (·.1) → H3 a = H' a) → Q v H3) → Q' v H') → t σ HL Q') → tLocks ds.length t σ H Q
  | [], H, Q, _, _, q => q H (fun _ h => (nomatch h)) (fun _ _ => rfl) Q fun v H' x k => k H' x fun _ _ => rfl
  | (d, u) :: r, H, Q, nd, hd, q => by
    rw [List.map_cons, List.nodup_cons] at nd
    obtain ⟨h1, h2⟩ := hd (d, u) List.mem_cons_self
    have ner : ∀ p ∈ r, p.1 ≠ d := fun p hp z => nd.1 (List.mem_map.mpr ⟨p, hp, z⟩)
    refine ⟨d, u, h1, h2, fun od => locks_go r (upd H d (.frz od u)) _ nd.2 (fun p hp => ?_) fun HL a1 a2 Q' hq => ?_⟩
    · rw [upd_ne (ner p hp)]
      exact hd p (List.mem_cons_of_mem _ hp)
    · have hLd : HL d = some (.frz od u) := by rw [a2 d nd.1, upd_same]
      refine q HL (fun p hp => ?_) (fun a ha => ?_) Q' fun v H' x k => hq v H' x fun H3 x3 b3 => ?_
      · rcases List.mem_cons.mp hp with rfl | hp
        · exact ⟨od, hLd⟩
        · exact a1 p hp
      · rw [List.map_cons, List.mem_cons, not_or] at ha
        rw [a2 a ha.2, upd_ne ha.1]
      · have hd3 : H3 d = some (.frz od u) := x3 _ _ upd_same
        refine ⟨hd3, k _ (fun a o ha => ?_) fun a ha => ?_⟩
        · by_cases z : a = d
          · subst z
            rw [upd_same]
            rw [h1] at ha
            exact ha
          · rw [upd_ne z]
            exact x3 _ _ (by rw [upd_ne z]; exact ha)
        · rw [List.map_cons, List.mem_cons, not_or] at ha
          rw [upd_ne ha.1]
          exact b3 a ha.2
/-- [.. for x in xs], all of it True -/
theorem lc_true {K : PySem.W.Frag} {σ : L2.St} {H : Hp} {Q : VK} {i n : Nat} {a : Addr} {xs : List V} {te : TE} (hi : σ[i]? = some (some (.ref a))) (ha : H a = some (.lst xs)) (hl : xs.length ≤ 1000)
    (hte : ∀ x ∈ xs, ∀ H', Ex H H' → ∀ Q' : VK, (∀ H'', Ex H' H'' → Q' (.bl true) H'') → te ((wipe σ [n]).set n (some x)) H' Q')
    (q : ∀ p H', Ex H H' → H' p = some (.lst ((List.replicate xs.length true).map V.bl)) → Q (.ref p) H') : tLc (iList K (tVar i)) (gName n) tYes te [n] σ H Q := by
  refine ⟨_, hi, a, rfl, ⟨_, SqL.of ha⟩, fun D nD => ?_⟩
  refine lc_list (xs := xs) (fun i H' => Ex H H' ∧ H' D = some (.lst ((List.replicate i true).map V.bl))) ⟨exn nD, upd_same⟩ (fun i H' _ h => SqL.of (h.1 _ _ ha)) ?_ ?_
  · rintro k x H' hx ⟨e1, h1⟩
    refine ⟨wipe_set, ?_⟩
    refine hte x (List.mem_of_getElem? hx) H' e1 _ fun H'' e2 => ⟨_, e2 _ _ h1, ?_, exm (ext e1 e2) nD, ?_⟩
    · have := (List.getElem?_eq_some_iff.mp hx).1
      rw [List.length_map, List.length_replicate, sizeLine_eq]
      omega
    · rw [upd_same, List.replicate_succ', List.map_append]
      rfl
  · rintro H' ⟨e1, h1⟩
    exact q D H' e1 h1
/-- [.. for x in d.values()], all of it True -/
theorem vals_true {σ : L2.St} {H : Hp} {Q : VK} {i n : Nat} {d : Addr} {kvs : List (Key × V)} {te : TE} (hi : σ[i]? = some (some (.ref d))) (hd : H d = some (.dK kvs)) (hl : kvs.length ≤ 1000)
    (hte : ∀ kv ∈ kvs, ∀ od H', Ex (upd H d (.frz od (.dK kvs))) H' → ∀ Q' : VK, (∀ H'', Ex H' H'' → Q' (.bl true) H'') → te ((wipe σ [n]).set n (some kv.2)) H' Q')
    (q : ∀ p H', Ex H H' → H' p = some (.lst ((List.replicate kvs.length true).map V.bl)) → Q (.ref p) H') : tLockE (tLc (iVals (tVar i)) (gName n) tYes te [n]) σ H Q := by
  refine ⟨d, _, hd, trivial, fun od => ⟨_, hi, d, od, _, rfl, upd_same, fun D nD => ?_⟩⟩
  have dD : D ≠ d := fun z => by rw [z, upd_same] at nD; cases nD
  refine lc_it walk_values (fun i H' => Ex (upd H d (.frz od (.dK kvs))) H' ∧ H' D = some (.lst ((List.replicate i true).map V.bl))) ⟨exn nD, upd_same⟩ (fun i H' _ h => h.1 _ _ upd_same) ?_ ?_
  · rintro k x H' H'' hk ⟨e1, h1⟩ ⟨rfl, kx, hx⟩
    refine ⟨wipe_set, ?_⟩
    refine hte (kx, x) (List.mem_of_getElem? hx) od _ e1 _ fun H'' e2 => ⟨_, e2 _ _ h1, ?_, exm (ext e1 e2) nD, ?_⟩
    · rw [List.length_map, List.length_replicate, sizeLine_eq]
      omega
    · rw [upd_same, List.replicate_succ', List.map_append]
      rfl
  · rintro H' ⟨e1, h1⟩
    refine ⟨e1 _ _ upd_same, q D _ (unlockD hd e1) ?_⟩
    rw [upd_ne dD]
    exact h1
theorem all_rep (n : Nat) : (List.replicate n true).all id = true := by
  rw [List.all_eq_true]
  intro x hx
  exact (List.mem_replicate.mp hx).2
abbrev rSortD : List V → Hp → VK → Prop := fun xs H Q => ∃ (a : Addr) (kvs : List (Key × V)) (ks : List Str), xs = [.ref a] ∧ Rd H a (.dK kvs) ∧ kvs.map (·.1) = ks.map Sum.inr ∧ ks.length < 64 ∧ ∀ ys p, ys.Perm ks → PyProof.Rows.sortedS ys = true → H p = none → Q (.ref p) (upd H p (.lst (ys.map V.str)))
/-- {k: .. for k in sorted(d)} -/
theorem sdc_go {K : PySem.W.Frag} {σ : L2.St} {H : Hp} {Q : VK} {n : Nat} {d : Addr} {kvs : List (Key × V)} {ks : List Str} {ta : TA} {tv : TE} (hta : ∀ Q' : List V → Hp → Prop, Q' [.ref d] H → ta σ H Q') (hd : Rd H d (.dK kvs)) (hk : kvs.map (·.1) = ks.map Sum.inr) (hnd : ks.Nodup) (hl : ks.length < 64) (hn : n < (wipe σ [n]).length)
    (Rel : Str → V → Hp → Prop) (mono : ∀ k y H1 H2, Ex H1 H2 → Rel k y H1 → Rel k y H2) (ne : ∀ k y H1 p o, (∀ q, y = .ref q → q ≠ p) → Rel k y H1 → Rel k y (upd H1 p o))
    (hte : ∀ D k H', H D = none → H' D ≠ none → k ∈ ks → Ex H H' → ∀ Q' : VK, (∀ y H'', Ex H' H'' → Rel k y H'' → (∀ q, y = .ref q → q ≠ D) → Q' y H'') → tv ((wipe σ [n]).set n (some (.str k))) H' Q')
    (q : ∀ p H' (out : List (Key × V)) (ys : List Str), Ex H H' → H p = none → H' p = some (.dK out) → out.map (·.1) = ys.map Sum.inr → ys.Perm ks → PyProof.Rows.sortedS ys = true → (∀ kv ∈ out, ∃ k ∈ ks, kv.1 = Sum.inr k ∧ Rel k kv.2 H') → Q (.ref p) H') :
    tDc (iList K (tCB rSortD ta)) (gName n) tYes (tVar n) tv [n] σ H Q := by
  refine hta _ ⟨d, kvs, ks, rfl, hd, hk, hl, fun ys t yp yso nt => ⟨t, rfl, ⟨_, SqL.of upd_same⟩, fun D nD => ?_⟩⟩
  have ynd : ys.Nodup := (List.Perm.nodup_iff yp).mpr hnd
  have x1 := exn (o := .lst (ys.map V.str)) nt
  have tD : t ≠ D := ne_of_none (upd_same (H := H) (o := .lst (ys.map V.str))) nD
  have nD2 : H D = none := exb x1 nD
  refine w_out (walk_list (xs := ys.map V.str)) (fun i H' => ∃ acc : List (Key × V × Unit), True ∧ ∃ out : List (Key × V), Ex H H' ∧ H' t = some (.lst (ys.map V.str)) ∧ H' D = some (.dK out) ∧ out.map (·.1) = (ys.take i).map Sum.inr ∧ ∀ kv ∈ out, (∃ k ∈ ks, kv.1 = Sum.inr k ∧ Rel k kv.2 H') ∧ ∀ q, kv.2 = .ref q → q ≠ D) ⟨[], trivial, [], ext x1 (exn nD), by rw [upd_ne tD, upd_same], upd_same, rfl, fun _ h => (nomatch h)⟩ (fun i H' _ h => ?_) ?_ ?_
  · obtain ⟨_, _, _, _, h, _⟩ := h
    exact SqL.of h
  · rintro i x H3 H4 hi ⟨_, _, out, e4, ht, hD, ho, hr⟩ ⟨rfl, hx⟩
    rw [List.getElem?_map] at hx
    cases hz : ys[i]? with
    | none => rw [hz] at hx; cases hx
    | some y =>
      rw [hz] at hx
      obtain rfl : V.str y = x := Option.some.inj hx
      have hyk : y ∈ ks := yp.mem_iff.mp (List.mem_of_getElem? hz)
      have g1 : ((wipe σ [n]).set n (some (.str y)))[n]? = some (some (.str y)) := by simp [List.getElem?_set, hn]
      have hi' : i < ys.length := (List.getElem?_eq_some_iff.mp hz).1
      have ny : (Sum.inr y : Key) ∉ out.map (·.1) := by
        rw [ho]
        intro hm
        obtain ⟨z, hz', e⟩ := List.mem_map.mp hm
        cases e
        obtain ⟨j, hj⟩ := List.mem_iff_getElem?.mp hz'
        rw [List.getElem?_take] at hj
        split at hj
        · have := (List.getElem?_inj (List.getElem?_eq_some_iff.mp hj).1 ynd).mp (hj.trans hz.symm)
          omega
        · cases hj
      refine ⟨wipe_set, _, g1, ?_⟩
      refine hte D y _ nD2 (by rw [hD]; simp) hyk e4 _ fun v H5 e5 r5 v5 => ?_
      have hlen : out.length ≤ 64 := by
        have h1 := congrArg List.length ho
        rw [List.length_map, List.length_map, List.length_take] at h1
        have := yp.length_eq
        omega
      refine ⟨out, Sum.inr y, rfl, e5 _ _ hD, by rw [sizeLine_eq]; omega, [], trivial, out ++ [(Sum.inr y, v)], exm (ext e4 e5) nD2, by rw [upd_ne tD]; exact e5 _ _ ht, ?_, ?_, fun kv hkv => ?_⟩
      · rw [upd_same, putK_new _ (valV_no ny)]
      · rw [List.map_append, ho, List.take_succ, hz]
        simp
      · rcases List.mem_append.mp hkv with h | h
        · obtain ⟨⟨k, kw, z, r⟩, u⟩ := hr kv h
          exact ⟨⟨k, kw, z, ne _ _ _ _ _ u (mono _ _ _ _ e5 r)⟩, u⟩
        · rw [List.mem_singleton.mp h]
          exact ⟨⟨y, hyk, rfl, ne _ _ _ _ _ v5 r5⟩, v5⟩
  · rintro H3 ⟨_, _, out, e4, ht, hD, ho, hr⟩
    rw [List.length_map, List.take_length] at ho
    exact q D H3 out ys e4 nD2 hD ho yp yso fun kv hkv => (hr kv hkv).1
/-- dicts of texts, by what is told of their entries -/
theorem sts_out {ss : List (Str × Str)} (hn : (ss.map (·.1)).Nodup) : ∀ (out : List (Key × V)) (ys : List Str), out.map (·.1) = ys.map Sum.inr → (∀ kv ∈ out, ∃ k ∈ ss.map (·.1), kv.1 = Sum.inr k ∧ ∃ e : Str × Str, e ∈ ss ∧ e.1 = k ∧ kv.2 = .str e.2) →
    ∃ ss' : List (Str × Str), out = ss'.map sKV ∧ ss'.map (·.1) = ys ∧ ∀ e ∈ ss', e ∈ ss
  | [], ys, h, _ => by
    cases ys with
    | nil => exact ⟨[], rfl, rfl, fun _ h => (nomatch h)⟩
    | cons a r => simp at h
  | kv :: r, ys, h, hr => by
    cases ys with
    | nil => simp at h
    | cons y ys =>
      simp only [List.map_cons, List.cons.injEq] at h
      obtain ⟨k, _, z, e, he, hk, hv⟩ := hr kv List.mem_cons_self
      obtain ⟨ss', h1, h2, h3⟩ := sts_out hn r ys h.2 fun kv hkv => hr kv (List.mem_cons_of_mem _ hkv)
      refine ⟨e :: ss', ?_, ?_, fun x hx => (List.mem_cons.mp hx).elim (fun q => by rw [q]; exact he) (h3 x)⟩
      · rw [List.map_cons, h1]
        congr 1
        exact Prod.ext (by rw [z, ← hk]; rfl) hv
      · rw [List.map_cons, h2, hk]
        congr 1
        exact (Sum.inr.inj (h.1.symm.trans z)).symm
/-- what is known of right steps -/
structure StV (st : List StE) : Prop where
  n1 : 1 ≤ st.length
  n5 : st.length ≤ 5
  nd : (st.map (·.1)).Nodup
  wd : ∀ e ∈ st, Wd e.1
  r1 : ∀ e ∈ st, 1 ≤ e.2.1.length ∧ e.2.1.length ≤ 4
  rn : ∀ e ∈ st, (e.2.1.map (·.1)).Nodup
  rw_ : ∀ e ∈ st, ∀ g ∈ e.2.1, Wd g.1
  same : ∀ e ∈ st, ∀ f ∈ st, ∀ k, k ∈ e.2.1.map (·.1) ↔ k ∈ f.2.1.map (·.1)
  goal : ∀ e ∈ st, ∀ g ∈ e.2.1, g.2 ∈ st.map (·.1)
theorem StV.gw {st : List StE} (v : StV st) {e : StE} (he : e ∈ st) {g : Str × Str} (hg : g ∈ e.2.1) : Wd g.2 := by
  obtain ⟨f, hf, z⟩ := List.mem_map.mp (v.goal e he g hg)
  rw [← z]
  exact v.wd f hf
/-- steps in order, rows in order -/
structure SrtT (st st' : List StE) : Prop where
  pm : (st'.map (·.1)).Perm (st.map (·.1))
  so : PyProof.Rows.sortedS (st'.map (·.1)) = true
  sub : ∀ e' ∈ st', ∃ e ∈ st, e.1 = e'.1 ∧ SrtS e.2.1 e'.2.1
def fsE (pe ps : Addr) (s : Str) : List (Str × V) := [("own_steps", .ref pe), ("own_tells", .ref ps), ("own_start", .str s)]
/-- an edition -/
def EdAt (CE : Addr) (H : Hp) (a : Addr) (st : List StE) (tl : List (Str × Str)) (s : Str) : Prop := ∃ dx pe ps, H a = some (.ins CE dx (fsE pe ps s)) ∧ Stp H pe st ∧ Sts H ps tl
section
variable {H H' : Hp} {a sa la ca CE : Addr} {T : Nat} {st : List StE} {tl : List (Str × Str)} {s : Str}
theorem EdAt.ex (h : EdAt CE H a st tl s) (e : Ex H H') : EdAt CE H' a st tl s := by
  obtain ⟨dx, pe, ps, h1, h2, h3⟩ := h
  exact ⟨dx, pe, ps, e _ _ h1, h2.ex e, h3.ex e⟩
theorem EdAt.exN (h : EdAt CE H a st tl s) (e : ExtN H H') : EdAt CE H' a st tl s := by
  obtain ⟨dx, pe, ps, h1, h2, h3⟩ := h
  exact ⟨dx, pe, ps, e _ _ h1 (fun _ z => by cases z), h2.exN e, h3.exN e⟩
theorem EdAt.cutE (h : EdAt CE H a st tl s) (D : Dr H sa la ca T) (e : Ex (cut H sa la) H') : EdAt CE H' a st tl s := by
  obtain ⟨dx, pe, ps, h1, h2, h3⟩ := h
  exact ⟨dx, pe, ps, cut_to e h1 (D.inn h1).1 (D.inn h1).2, h2.cutE D e, h3.cutE D e⟩
theorem EdAt.ins (h : EdAt CE H a st tl s) : ∃ dx fs, H a = some (.ins CE dx fs) := by
  obtain ⟨dx, pe, ps, h1, _⟩ := h
  exact ⟨dx, _, h1⟩
end
theorem lkSt {pe ps : Addr} {s : Str} : (fsE pe ps s).lookup ("own_steps" : Str) = some (.ref pe) := rfl
theorem lkTl {pe ps : Addr} {s : Str} : (fsE pe ps s).lookup ("own_tells" : Str) = some (.ref ps) := rfl
theorem lkSr {pe ps : Addr} {s : Str} : (fsE pe ps s).lookup ("own_start" : Str) = some (.str s) := rfl
/-- right tells -/
structure TlV (st : List StE) (tl : List (Str × Str)) : Prop where
  nd : (tl.map (·.1)).Nodup
  wd : ∀ e ∈ tl, Wd e.2
  ks : ∀ k, k ∈ tl.map (·.1) ↔ k ∈ st.map (·.1)
/-- a container of texts: a dict's keys, or a tuple -/
def Cont (K : PySem.W.Frag) (H : Hp) (c : V) (ks : List Str) : Prop := (∃ d kvs, c = .ref d ∧ Rd H d (.dK kvs) ∧ kvs.map (·.1) = ks.map Sum.inr) ∨ ∃ a, c = .ref a ∧ SqT K H a (ks.map V.str)
end Sn
/-! the laws' own word of an edition: a dict of steps, tells, start -/
namespace Sn
open Evl (Ex)
open PySem L2 LamX
def tkv (ps pt : Addr) (s : Str) : List (Key × V) := [(.inr "steps", .ref ps), (.inr "tells", .ref pt), (.inr "start", .str s)]
theorem tST : ¬ ("steps" : Str) = "tells" := by decide +kernel
theorem tSS : ¬ ("steps" : Str) = "start" := by decide +kernel
theorem tTS : ¬ ("tells" : Str) = "start" := by decide +kernel
theorem tv_steps (ps pt : Addr) (s : Str) : valV (tkv ps pt s) (Sum.inr ("steps" : Str) : Key) = some (.ref ps) := valV_pos rfl
theorem tv_tells (ps pt : Addr) (s : Str) : valV (tkv ps pt s) (Sum.inr ("tells" : Str) : Key) = some (.ref pt) := (valV_neg (kn tST)).trans (valV_pos rfl)
theorem tv_start (ps pt : Addr) (s : Str) : valV (tkv ps pt s) (Sum.inr ("start" : Str) : Key) = some (.str s) := (valV_neg (kn tSS)).trans ((valV_neg (kn tTS)).trans (valV_pos rfl))
theorem tkv_nd : ((tkv ps pt s).map (·.1)).Nodup := by
  show ([Sum.inr "steps", Sum.inr "tells", Sum.inr "start"] : List Key).Nodup
  decide +kernel
def ToldAt (H : Hp) (a : Addr) (st : List StE) (tl : List (Str × Str)) (s : Str) : Prop := ∃ ps pt, H a = some (.dK (tkv ps pt s)) ∧ Stp H ps st ∧ Sts H pt tl
/-- right parts -/
structure TdV (st : List StE) (tl : List (Str × Str)) (s : Str) : Prop where
  V : StV st
  W : TlV st tl
  s : s ∈ st.map (·.1)
  ad : (st.map (·.2.2)).Nodup
section
variable {H H' : Hp} {a sa la ca : Addr} {T : Nat} {st : List StE} {tl : List (Str × Str)} {s : Str}
theorem ToldAt.ex (h : ToldAt H a st tl s) (e : Ex H H') : ToldAt H' a st tl s := by
  obtain ⟨ps, pt, h1, h2, h3⟩ := h
  exact ⟨ps, pt, e _ _ h1, h2.ex e, h3.ex e⟩
theorem ToldAt.exN (h : ToldAt H a st tl s) (e : ExtN H H') : ToldAt H' a st tl s := by
  obtain ⟨ps, pt, h1, h2, h3⟩ := h
  exact ⟨ps, pt, e _ _ h1 (fun _ z => by cases z), h2.exN e, h3.exN e⟩
theorem ToldAt.ns (h : ToldAt H a st tl s) (D : Dr H sa la ca T) : a ≠ sa ∧ a ≠ la := by
  obtain ⟨ps, pt, h1, _, _⟩ := h
  obtain ⟨⟨ls, cs, r, t, x, y, _⟩, _⟩ := D
  refine ⟨fun z => ?_, fun z => ?_⟩
  · rw [z, x] at h1
    have h2 : dkv la ca r t = tkv ps pt s := by injection (Option.some.inj h1)
    exact absurd (congrArg List.length h2) (by simp [dkv, tkv])
  · rw [z, y] at h1
    cases h1
theorem ToldAt.cutE (h : ToldAt H a st tl s) (D : Dr H sa la ca T) (e : Ex (cut H sa la) H') : ToldAt H' a st tl s := by
  have n := h.ns D
  obtain ⟨ps, pt, h1, h2, h3⟩ := h
  exact ⟨ps, pt, cut_to e h1 n.1 n.2, h2.cutE D e, h3.cutE D e⟩
end
/-- dict([(k, pick(..)) for k in ks]) -/
theorem drawn_go {K : PySem.W.Frag} {spP : Sp} {σ : L2.St} {H : Hp} {Q : VK} {j0 j3 j4 n : Nat} {sa la ca p3 p4 : Addr} {T : Nat} {ks ws : List Str} (D0 : Dr H sa la ca T) (hT : T ≤ 1000000) (h0 : (wipe σ [n])[j0]? = some (some (.ref sa))) (h3 : (wipe σ [n])[j3]? = some (some (.ref p3))) (h4 : σ[j4]? = some (some (.ref p4))) (n0 : j0 ≠ n) (n3 : j3 ≠ n) (hn : n < (wipe σ [n]).length)
    (g3 : H p3 = some (.lst (ws.map V.str))) (g4 : H p4 = some (.lst (ks.map V.str))) (s3 : p3 ≠ sa ∧ p3 ≠ la) (s4 : p4 ≠ sa ∧ p4 ≠ la) (w0 : ws ≠ []) (wl : ws.length ≤ 1000) (kl : ks.length ≤ 1000) (kd : ks.Nodup)
    (hP : ∀ (H' : Hp) (Q' : VK) (T' : Nat), Dr H' sa la ca T' → T' ≤ 2000000 → H' p3 = some (.lst (ws.map V.str)) → (∀ x H'', x ∈ ws → Ex (cut H' sa la) H'' → Dr H'' sa la ca (T' + 1) → Q' (.str x) H'') → spP [.ref sa, .ref p3] H' Q' E0)
    (q : ∀ p row H', Ex (cut H sa la) H' → Dr H' sa la ca (T + ks.length) → H p = none → Sts H' p row → row.map (·.1) = ks → (∀ g ∈ row, g.2 ∈ ws) → Q (.ref p) H') :
    tCB (fun xs H_1 Q => ∃ a ps kvs, xs = [V.ref a] ∧ SqL K H_1 a (List.map V.ref ps) ∧ Paired (fun p kv => SqT K H_1 p [kV kv.fst, kv.snd]) ps kvs ∧ ∀ (p : Addr), H_1 p = none → Q (V.ref p) (upd H_1 p (HO.dK (mergeK [] kvs))))
      (tCons (tLc (iList K (tVar j4)) (gName n) tYes (tTup (tCons (tVar n) (tCons (tCall spP [] E0 (tCons (tVar j0) (tCons (tVar j3) tNil))) tNil))) [n]) tNil) σ H Q := by
  refine ⟨_, h4, p4, rfl, ⟨_, SqL.of g4⟩, fun D nD => ?_⟩
  have Dn := D0.sne nD
  have Dl := D0.lne nD
  have toc : ∀ {p : Addr} {o : HO} {H' : Hp}, Ex (cut H sa la) H' → H p = some o → p ≠ sa ∧ p ≠ la → H' p = some o := fun e h n => cut_to e h n.1 n.2
  refine lc_list (xs := ks.map V.str) (fun i H' => ∃ (ps : List Addr) (row : List (Str × Str)), Ex (cut H sa la) H' ∧ Dr H' sa la ca (T + i) ∧ H' D = some (.lst (ps.map V.ref)) ∧ Paired (fun p (kv : Key × V) => H' p = some (.tup [kV kv.1, kv.2])) ps (row.map sKV) ∧ row.map (·.1) = ks.take i ∧ (∀ g ∈ row, g.2 ∈ ws) ∧ ps.length = i) ⟨[], [], ext cut_ex (exn nD), D0.new nD, upd_same, .nil, rfl, fun _ h => (nomatch h), rfl⟩ ?_ ?_ ?_
  · rintro i H' _ ⟨_, _, e1, _⟩
    exact SqL.of (toc e1 g4 s4)
  · rintro i x H' hx ⟨ps, row, e1, D1, h1, pr, ok, gl, pl⟩
    rw [List.getElem?_map] at hx
    cases hz : ks[i]? with
    | none => rw [hz] at hx; cases hx
    | some k =>
      rw [hz] at hx
      obtain rfl : V.str k = x := Option.some.inj hx
      have hi : i < ks.length := (List.getElem?_eq_some_iff.mp hz).1
      have a1 : ((wipe σ [n]).set n (some (.str k)))[n]? = some (some (.str k)) := by simp [List.getElem?_set, hn]
      have a0 : ((wipe σ [n]).set n (some (.str k)))[j0]? = some (some (.ref sa)) := by rw [List.getElem?_set_ne (fun z => n0 z.symm)]; exact h0
      have a3 : ((wipe σ [n]).set n (some (.str k)))[j3]? = some (some (.ref p3)) := by rw [List.getElem?_set_ne (fun z => n3 z.symm)]; exact h3
      refine ⟨wipe_set, _, a1, _, a0, _, a3, ?_⟩
      refine hP H' _ (T + i) D1 (by omega) (toc e1 g3 s3) fun y H2 hy e2 D2 => ⟨by show (2 : Nat) ≤ sizeLine; decide, fun t nt => ?_⟩
      have e3 := exn (o := .tup [.str k, .str y]) nt
      have hD2 : H2 D = some (.lst (ps.map V.ref)) := cut_to e2 h1 Dn Dl
      have tD : t ≠ D := (ne_of_none hD2 nt).symm
      have e12 : Ex (cut H sa la) H2 := ext (cut_up e1 cut_s cut_l) e2
      refine ⟨_, e3 _ _ hD2, by rw [List.length_map, pl, sizeLine_eq]; omega, ps ++ [t], row ++ [(k, y)], ?_, ?_, ?_, ?_, ?_, ?_, ?_⟩
      · refine exm (ext e12 e3) ?_
        unfold cut
        split
        · rfl
        · exact nD
      · exact (D2.new nt).upd Dn Dl (fun z => by
          obtain ⟨⟨_, _, _, _, _, _, c, _⟩, _⟩ := D0
          rw [← z, nD] at c
          cases c)
      · rw [upd_same, List.map_append]; rfl
      · rw [List.map_append]
        refine Paired.snoc (Paired.mapP pr fun p kv h => ?_) ?_
        · have h2 := cut_to e2 h (D1.tn h).1 (D1.tn h).2
          have h' := e3 _ _ h2
          rw [upd_ne (fun z => by rw [z, e3 _ _ hD2] at h'; cases h')]
          exact h'
        · rw [upd_ne tD, upd_same]
          rfl
      · rw [List.map_append, ok, List.take_succ, hz]
        simp
      · intro g hg
        rcases List.mem_append.mp hg with h | h
        · exact gl g h
        · rw [List.mem_singleton.mp h]
          exact hy
      · rw [List.length_append, pl]; rfl
  · rintro H' ⟨ps, row, e1, D1, h1, pr, ok, gl, pl⟩
    rw [List.length_map] at D1 ok
    rw [List.take_length] at ok
    refine ⟨D, ps, row.map sKV, rfl, SqL.of h1, Paired.mapP pr fun p kv h => SqT.of h, fun p np => ?_⟩
    rw [merge_nil (by rw [keysS]; exact nodup_inr (by rw [ok]; exact kd))]
    refine q p row _ (ext e1 (exn np)) (D1.new np) ?_ upd_same ok gl
    have := exb e1 np
    unfold cut at this
    split at this
    · rename_i hp
      rcases hp with rfl | rfl
      · exact absurd rfl (D1.sne np)
      · exact absurd rfl (D1.lne np)
    · exact this
end Sn
/-! other values, by kind; methods that raise; lambdas' bodies -/
namespace Sn
open Evl (Ex)
open PySem L2 LamX
inductive Tag where
  | non | int | bl | str (s : Str) | tup | lst | dct | ins
  deriving DecidableEq
def OV (C : Addr) (H : Hp) (x : V) : Tag → Prop
  | .non => x = .non
  | .int => ∃ i, x = .int i
  | .bl => ∃ b, x = .bl b
  | .str s => x = .str s
  | .tup => ∃ p xs, x = .ref p ∧ H p = some (.tup xs)
  | .lst => ∃ p xs, x = .ref p ∧ H p = some (.lst xs)
  | .dct => ∃ p xs, x = .ref p ∧ H p = some (.dK xs)
  | .ins => ∃ p dx fs, x = .ref p ∧ H p = some (.ins C dx fs)
section
variable {K : PySem.W.Frag} {C : Addr} {H H' : Hp} {x : V}
theorem OV.map {tg : Tag} (h : OV C H x tg) (k : ∀ p o, x = .ref p → H p = some o → (∀ ps, o ≠ .tbl ps) → H' p = some o) : OV C H' x tg := by
  cases tg with
  | non => exact h
  | int => exact h
  | bl => exact h
  | str s => exact h
  | tup => obtain ⟨p, xs, rfl, h⟩ := h; exact ⟨p, xs, rfl, k _ _ rfl h (fun _ z => by cases z)⟩
  | lst => obtain ⟨p, xs, rfl, h⟩ := h; exact ⟨p, xs, rfl, k _ _ rfl h (fun _ z => by cases z)⟩
  | dct => obtain ⟨p, xs, rfl, h⟩ := h; exact ⟨p, xs, rfl, k _ _ rfl h (fun _ z => by cases z)⟩
  | ins => obtain ⟨p, xs, fs, rfl, h⟩ := h; exact ⟨p, xs, fs, rfl, k _ _ rfl h (fun _ z => by cases z)⟩
/-- what isinstance says of instances of C -/
structure InsI (K : PySem.W.Frag) (C : Addr) : Prop where
  cls : Cls K C
  ha : PySem.W.findIn K (.ref C) "__class__" = some (some (.builtin "object.__class__"))
  hn : PySem.W.specialIn K (.builtin "object.__class__") "__get__" = some (some (.builtin "getset_descriptor.__get__"))
  htk : PySem.W.takesIn K (.builtin "object.__class__") = some true
  hm : PySem.W.mroIn K C (.type "object") = some true
  st : PySem.W.kitOne K (.ref C) (.type "str") = some false
  tu : PySem.W.kitOne K (.ref C) (.type "tuple") = some false
theorem OV.ty {tg : Tag} (I : InsI K C) (h : OV C H x tg) : ∃ t, TyX K H x t ∧ ((∀ s, tg ≠ .str s) → PySem.W.kitOne K t (.type "str") = some false) ∧ (tg ≠ .tup → PySem.W.kitOne K t (.type "tuple") = some false) := by
  cases tg with
  | non => subst h; exact ⟨_, .base .non, fun _ => kit_ty (by decide +kernel), fun _ => kit_ty (by decide +kernel)⟩
  | int => obtain ⟨i, rfl⟩ := h; exact ⟨_, .base (.int i), fun _ => kit_ty (by decide +kernel), fun _ => kit_ty (by decide +kernel)⟩
  | bl => obtain ⟨i, rfl⟩ := h; exact ⟨_, .base (.bl i), fun _ => kit_ty (by decide +kernel), fun _ => kit_ty (by decide +kernel)⟩
  | str s => subst h; exact ⟨_, .base (.str s), fun z => absurd rfl (z s), fun _ => kit_ty (by decide +kernel)⟩
  | tup => obtain ⟨p, xs, rfl, h⟩ := h; exact ⟨_, .base (.tup h), fun _ => kit_ty (by decide +kernel), fun z => absurd rfl z⟩
  | lst => obtain ⟨p, xs, rfl, h⟩ := h; exact ⟨_, .base (.lst h), fun _ => kit_ty (by decide +kernel), fun _ => kit_ty (by decide +kernel)⟩
  | dct => obtain ⟨p, xs, rfl, h⟩ := h; exact ⟨_, .base (.dK h), fun _ => kit_ty (by decide +kernel), fun _ => kit_ty (by decide +kernel)⟩
  | ins => obtain ⟨p, xs, fs, rfl, h⟩ := h; exact ⟨_, .base (.ins h I.cls I.ha I.hn I.htk I.hm), fun _ => I.st, fun _ => I.tu⟩
theorem OV.itm {tg : Tag} (I : InsI K C) (h : OV C H x tg) : Itm K H x := by
  by_cases hs : ∃ s, tg = .str s
  · obtain ⟨s, rfl⟩ := hs
    exact .inl ⟨s, h⟩
  · obtain ⟨t, ht, a, _⟩ := h.ty I
    exact .inr ⟨t, ht, a fun s z => hs ⟨s, z⟩⟩
theorem OV.bad {tg : Tag} (h : OV C H x tg) (ht : ∀ s, tg = .str s → ¬ Wd s) {ks : List Str} (hk : ∀ y ∈ ks, Wd y) : good ks x = false := by
  cases tg with
  | non => subst h; rfl
  | int => obtain ⟨i, rfl⟩ := h; rfl
  | bl => obtain ⟨i, rfl⟩ := h; rfl
  | str s => subst h; exact decide_eq_false fun z => ht s rfl (hk s z)
  | tup => obtain ⟨p, xs, rfl, h⟩ := h; rfl
  | lst => obtain ⟨p, xs, rfl, h⟩ := h; rfl
  | dct => obtain ⟨p, xs, rfl, h⟩ := h; rfl
  | ins => obtain ⟨p, xs, fs, rfl, h⟩ := h; rfl
end
/-- lift(x, y) of three names; fold((), y) -/
def tCO2 (C : Addr) (sp : Sp) (i j l : Nat) (E : XK) : TE := fun σ H Q => ∃ (a : Addr) (r r2 : V), σ[i]? = some (some (.ref a)) ∧ σ[j]? = some (some r) ∧ σ[l]? = some (some r2) ∧ (∃ dx fs, H a = some (.ins C dx fs)) ∧ sp [.ref a, r, r2] H Q E
theorem co2_of {X : Cx} {C : Addr} {sp : Sp} {i j l : Nat} {E : XK} : ∀ σ H Q, tCO2 C sp i j l E σ H Q → StX.tCallO X C sp E (tVar i) (tCons (tVar j) (tCons (tVar l) tNil)) σ H Q := by
  rintro σ H Q ⟨a, r, r2, h1, h2, h4, h3, h⟩
  exact ⟨_, h1, a, rfl, _, h2, _, h4, .inr h3, h⟩
def tCO0 (C : Addr) (sp : Sp) (i l : Nat) (E : XK) : TE := fun σ H Q => ∃ (a : Addr) (r2 : V), σ[i]? = some (some (.ref a)) ∧ σ[l]? = some (some r2) ∧ ∀ p, H p = none → (∃ dx fs, upd H p (.tup []) a = some (.ins C dx fs)) ∧ sp [.ref a, .ref p, r2] (upd H p (.tup [])) Q E
theorem co0_of {X : Cx} {C : Addr} {sp : Sp} {i l : Nat} {E : XK} : ∀ σ H Q, tCO0 C sp i l E σ H Q → StX.tCallO X C sp E (tVar i) (tCons (tTup tNil) (tCons (tVar l) tNil)) σ H Q := by
  rintro σ H Q ⟨a, r2, h1, h4, h⟩
  exact ⟨_, h1, a, rfl, Nat.zero_le _, fun p np => ⟨_, h4, .inr (h p np).1, (h p np).2⟩⟩
section
variable {Ts : List (Addr × Str)} {e : Nat → Addr} {Is : List Nat} {t : XK → TE} {σ : L2.St} {H : Hp} {Q : VK}
/-- the ear: an error with a number -/
theorem heard_kind (h11 : 11 ∈ Is) {n : Int} (hT : Tabs Ts H) (ht : ∀ H0, ExtN H H0 → Tabs Ts H0 → ∀ (E : XK) (Kc : VK), (∀ dd H', Ex H0 H' → H' dd = some (.xd [("at", .int n)]) → E (.ref (e 11)) (some dd) H') → t E σ H0 Kc)
    (q : ∀ p H'', ExtN H H'' → Tabs Ts H'' → H'' p = some (.tup [.str "kind", .int n]) → Q (.ref p) H'') : tLam Ts (THd e Is) t σ H Q :=
  ⟨hT, fun H1 xN T1 H0 Ech Kc x0 hE hK => ht H0 (xN.trans (ExtN.of x0)) (T1.ext x0) Ech Kc fun dd H' x' hdd => hE _ _ _ ⟨11, h11, rfl, .inr (.inl ⟨.inl rfl, dd, _, _, rfl, hdd, rfl, fun p H'' x'' np hp => q p H'' (xN.trans (ExtN.of (ext x0 (ext x' x'')))) (T1.ext (ext x0 (ext x' x''))) hp⟩)⟩⟩
/-- the ear: an error without -/
theorem heard_err {i : Nat} (hi : i ∈ Is) (hl : i < 11) (hT : Tabs Ts H) (ht : ∀ H0, ExtN H H0 → Tabs Ts H0 → ∀ (E : XK) (Kc : VK), (∀ H', Ex H0 H' → E (.ref (e i)) none H') → t E σ H0 Kc)
    (q : ∀ p H'', ExtN H H'' → Tabs Ts H'' → H'' p = some (.tup [.str (errW i), .non]) → Q (.ref p) H'') : tLam Ts (THd e Is) t σ H Q :=
  ⟨hT, fun H1 xN T1 H0 Ech Kc x0 hE hK => ht H0 (xN.trans (ExtN.of x0)) (T1.ext x0) Ech Kc fun H' x' => hE _ _ _ ⟨i, hi, rfl, .inl ⟨hl, rfl, fun p H'' x'' np hp => q p H'' (xN.trans (ExtN.of (ext x0 (ext x' x'')))) (T1.ext (ext x0 (ext x' x''))) hp⟩⟩⟩
theorem extN_upd {G H : Hp} {p : Addr} {o : HO} (x : ExtN G H) (h : G p = none) : ExtN G (upd H p o) := fun b u hb n => by
  rw [upd_ne (ne_of_none hb h)]
  exact x b u hb n
end
section
variable {X : Cx}
theorem pmethX {pl : Sem Bool} {k : Nat} {C : Addr} {m : Str} {ps : List Str} {sp : Sp} {o e : Expr} {es : List Expr} {apos pos : Pos} {ta : TE} {t : TA} {E : XK} (c : CalM X.prog X.w X.K X.mg X.base (L2.CX X.prog X.w) k C m ps sp) (tk : Takes X (fun cls d _ H' => E cls d H')) (cl : Cls X.K C) (hr : Room k X.A) (ho : PE X o ta) (ha : PA X (e :: es) t)
    (hst : starEach (e :: es) X.env = (false, eval e X.env) :: starEach es X.env := by rfl) (hpl : (backTo pos (starEach es X.env)).any (·.1) = false := by rfl)
    (ht : eval (.Call (.Attribute o m apos) (e :: es) [] pos) X.env = (do
      let ov ← eval o X.env
      standAt apos.atName
      let (f, first) ← holding [ov] (getMethod ov m pl)
      callWith pos f first (backTo pos (starEach (e :: es) X.env)) (backToKw pos (keywordEach [] X.env))) := by rfl) : PE X (.Call (.Attribute o m apos) (e :: es) [] pos) (tMeth C m sp [] E ta t) := by
  obtain ⟨f, fd, M, F, b⟩ := c.ex
  exact pe_meth ho cl M F hr b .nil (passes_call tk fun _ _ _ _ h => h) ha hst hpl ht
end
end Sn
/-! the engine: slices, built-in functions, isinstance, displays -/
namespace Eg
open Evl (Ex)
open PySem PySem.Spec PyProof.Rows L2 Sn LamX
section
variable {X : Cx} {ts : List (Addr × Str)} {E : XK} {pos : Pos}
def tOM (c : Cn) (E : XK) (m : OM) : TO := fun σ H Q => ∃ W ς μ Ec Qc, Sim c W μ H ∧ Slots c W ς σ ∧ GoX c E W Ec ∧ m ς μ Ec Qc ∧ ∀ r μ' W' H', Qc r μ' → W.le W' → Sim c W' μ' H' → Q r H'
theorem po_w {e : Option Expr} {t t' : TO} (h : PO X e t) (k : ∀ σ H Q, t' σ H Q → t σ H Q) : PO X e t' := ⟨fun pins s σ H Q I q => h.run pins s σ H Q I (k σ H Q q)⟩
theorem mo_none : PO X none (tOM (cn X ts) E oNone) := po_w po_none fun σ H Q ⟨W, ς, μ, Ec, Qc, S, L, G, m, q⟩ => q _ _ _ _ m (Wo.le.refl _) S
theorem mo_some {e : Expr} {m : EM} (h : PE X e (tM (cn X ts) E m)) : PO X (some e) (tOM (cn X ts) E (oSome m)) := po_w (po_some h) fun σ H Q ⟨W, ς, μ, Ec, Qc, S, L, G, m, q⟩ =>
  ⟨W, ς, μ, Ec, _, S, L, G, m, fun r μ1 W1 H1 v h l S1 mv => by
    split at h
    · cases mv
      exact ⟨_, rfl, q _ _ _ _ h l S1⟩
    · exact h.elim⟩
theorem me_sl {a : Expr} {lo hi : Option Expr} {p2 : Pos} {m : EM} {l h : OM} (ha : PE X a (tM (cn X ts) E m)) (hl : PO X lo (tOM (cn X ts) E l)) (hh : PO X hi (tOM (cn X ts) E h)) : PE X (.Subscript a (.Slice lo hi none p2) pos) (tM (cn X ts) E (eSl m l h)) :=
  pe_w (pe_slice sl_all ha hl hh) fun σ H Q ⟨W, ς, μ, Ec, Qc, S, L, G, m, q⟩ => ⟨W, ς, μ, Ec, _, S, L, G, m, fun r μ1 W1 H1 v p l1 S1 mv => ⟨W1, ς, μ1, Ec, _, S1, L.mono l1, G.mono l1, p, fun i μ2 W2 H2 p2 l2 S2 =>
    ⟨W2, ς, μ2, Ec, _, S2, L.mono (l1.trans l2), G.mono (l1.trans l2), p2, fun j μ3 W3 H3 p3 l3 S3 => pur1_go o_sl S3 (MR.mono (l2.trans l3) mv) p3 (q.mono (l1.trans (l2.trans l3)))⟩⟩⟩
/-- a[::-1] of a list -/
def revD : D → Option D
  | .lst xs => some (.lst xs.reverse)
  | _ => none
theorem me_rev {a : Expr} {m : EM} {k : Nat} {p1 p2 p3 : Pos} (ha : PE X a (tM (cn X ts) E m)) : PE X (.Subscript a (.Slice none none (some (.UnaryOp .USub (.Constant (.int 1) k p1) p2)) p3) pos) (tM (cn X ts) E (ePur1 revD m)) :=
  pe_w (pe_revL ha) (op1_go (r := fun x H1 Q => ∃ a xs, x = .ref a ∧ SqL X.K H1 a xs ∧ ∀ p, H1 p = none → Q (.ref p) (upd H1 p (.lst xs.reverse))) fun W μ H x v z Q S tx hz hr => by
    unfold revD at hz
    split at hz
    · cases hz
      obtain ⟨p, vs, rfl, s1, m1⟩ := tx
      exact ⟨p, vs, rfl, .inl s1, fun q n => hr.lst S m1.rev n⟩
    · cases hz)
/-! ### built-in functions -/
theorem me_b1 {id : String} {x : Str} {e : Expr} {p : Pos} {r : List V → Hp → VK → Prop} {g : D → Option D} {m : EM} (hc : CallR X (.builtin id) r) (hs : Op1 (cn X ts) (fun v H Q => r [v] H Q) g) (hm : X.mg x = none) (hv : bootBuiltins x = some (.builtin id)) (he : PE X e (tM (cn X ts) E m))
    (hg : Gl X x := by rfl) (hn : x ≠ "__name__" := by decide) (hdb : (x == ("__debug__" : Str)) = false := by decide) (hst : starEach [e] X.env = (false, eval e X.env) :: starEach [] X.env := by rfl) (hpl : (backTo pos (starEach [] X.env)).any (·.1) = false := by rfl) :
    PE X (.Call (.Name x p) [e] [] pos) (tM (cn X ts) E (ePur1 g m)) := pe_w (pe_callB hc hg hm hv (pa_cons he pa_nil hst) hn hdb hst hpl) (op1_go hs)
theorem me_t1 {T : String} {x : Str} {e : Expr} {p : Pos} {r : List V → Hp → VK → Prop} {g : D → Option D} {m : EM} (hc : CallR X (.type T) r) (hs : Op1 (cn X ts) (fun v H Q => r [v] H Q) g) (hm : X.mg x = none) (hv : bootBuiltins x = some (.type T)) (he : PE X e (tM (cn X ts) E m))
    (hg : Gl X x := by rfl) (hn : x ≠ "__name__" := by decide) (hdb : (x == ("__debug__" : Str)) = false := by decide) (hst : starEach [e] X.env = (false, eval e X.env) :: starEach [] X.env := by rfl) (hpl : (backTo pos (starEach [] X.env)).any (·.1) = false := by rfl) :
    PE X (.Call (.Name x p) [e] [] pos) (tM (cn X ts) E (ePur1 g m)) := pe_w (pe_callTy hc hg hm hv (pa_cons he pa_nil hst) hn hdb hst hpl) (op1_go hs)
theorem me_b2 {id : String} {x : Str} {e e2 : Expr} {p : Pos} {r : List V → Hp → VK → Prop} {g : D → D → Option D} {m n : EM} (hc : CallR X (.builtin id) r) (hs : Op2 (cn X ts) (fun v u H Q => r [v, u] H Q) g) (hm : X.mg x = none) (hv : bootBuiltins x = some (.builtin id)) (he : PE X e (tM (cn X ts) E m)) (he2 : PE X e2 (tM (cn X ts) E n))
    (hg : Gl X x := by rfl) (hn : x ≠ "__name__" := by decide) (hdb : (x == ("__debug__" : Str)) = false := by decide) (hst : starEach [e, e2] X.env = (false, eval e X.env) :: starEach [e2] X.env := by rfl) (hst2 : starEach [e2] X.env = (false, eval e2 X.env) :: starEach [] X.env := by rfl) (hpl : (backTo pos (starEach [e2] X.env)).any (·.1) = false := by rfl) :
    PE X (.Call (.Name x p) [e, e2] [] pos) (tM (cn X ts) E (ePur2 g m n)) := pe_w (pe_callB hc hg hm hv (pa_cons he (pa_cons he2 pa_nil hst2) hst) hn hdb hst hpl) (op2_go hs)
end
theorem callr_or {X : Cx} {f : Value} {r r' : List V → Hp → VK → Prop} (h : CallR X f r) (h' : CallR X f r') : CallR X f (fun x H Q => r x H Q ∨ r' x H Q) := fun pins s σ H x v Q I rx q => q.elim (h pins s σ H x v Q I rx) (h' pins s σ H x v Q I rx)
def lenD : D → Option D
  | .str z => if z.length ≤ sizeLine then some (.int z.length) else none
  | .lst xs => some (.int xs.length)
  | .tup xs => some (.int xs.length)
  | .dic kvs => some (.int kvs.length)
  | _ => none
def rLenDR : List V → Hp → VK → Prop := fun xs H Q => ∃ a kvs, xs = [V.ref a] ∧ Rd H a (.dK kvs) ∧ Q (.int kvs.length) H
theorem call_lenDR {X : Cx} : CallR X (.builtin "len") rLenDR := by
  intro pins s σ H xs us Q I r h
  obtain ⟨a, kvs, rfl, ha, q⟩ := h
  obtain ⟨u, rfl, ru⟩ := vals1 r
  cases ru
  exact d_len I ha fun t s' I' => ⟨.int kvs.length, H, I', ⟨t, rfl⟩, q⟩
def rLenA (K : PySem.W.Frag) : List V → Hp → VK → Prop := fun xs H Q => (∃ x n, xs = [x] ∧ LenV K x H n ∧ Q (.int n) H) ∨ rLenDR xs H Q
theorem call_lenA {X : Cx} : CallR X (.builtin "len") (rLenA X.K) := callr_or call_len call_lenDR
theorem o_len {c : Cn} : Op1 c (fun v H Q => rLenA c.k [v] H Q) lenD := by
  intro W μ H x v z Q S tx hz hr
  unfold lenD at hz
  split at hz
  · split at hz
    · rename_i hl
      cases hz; cases tx
      exact .inl ⟨_, _, rfl, ⟨hl, rfl⟩, hr.int S⟩
    · cases hz
  · cases hz
    obtain ⟨p, vs, rfl, s1, m1⟩ := tx
    have := hr.int S
    rw [m1.len] at this
    exact .inl ⟨_, _, rfl, .inl ⟨_, .inl s1, rfl⟩, this⟩
  · cases hz
    obtain ⟨p, vs, rfl, s1, m1⟩ := tx
    have := hr.int S
    rw [m1.len] at this
    exact .inl ⟨_, _, rfl, .inr ⟨_, sqT_mono S.ex s1, rfl⟩, this⟩
  · cases hz
    obtain ⟨p, kw, rfl, s1, k1, m1⟩ := tx
    have := hr.int S
    rename_i kvs
    have hl : kw.length = kvs.length := by have := congrArg List.length k1; simpa using this
    exact .inr ⟨p, kw, rfl, s1, by rw [hl]; exact this⟩
  · cases hz
/-- len of the script -/
def eLenS (a : EM) : EM := fun ς μ E Q => a ς μ E fun r μ1 => match r with | .scr ns => Q (.d (.int ns.length)) μ1 | _ => False
theorem me_lenS {X : Cx} {ts : List (Addr × Str)} {E : XK} {pos p : Pos} {e : Expr} {m : EM} (hm : X.mg "len" = none) (he : PE X e (tM (cn X ts) E m)) (hg : Gl X "len" := by rfl) (hst : starEach [e] X.env = (false, eval e X.env) :: starEach [] X.env := by rfl) (hpl : (backTo pos (starEach [] X.env)).any (·.1) = false := by rfl) :
    PE X (.Call (.Name "len" p) [e] [] pos) (tM (cn X ts) E (eLenS m)) := pe_w (pe_callB call_len hg hm PySem.boot_len (pa_cons he pa_nil hst) (by decide) (by decide) hst hpl) fun σ H Q ⟨W, ς, μ, Ec, Qc, S, L, G, m, q⟩ => ⟨W, ς, μ, Ec, _, S, L, G, m, fun r μ1 W1 H1 v h l S1 mv => by
  split at h
  · obtain ⟨a, rfl, hs⟩ := mv
    exact ⟨_, _, rfl, .inl ⟨_, sqL_mono S1.ex hs, rfl⟩, q _ _ _ _ _ h l S1 (by rw [List.length_map]; exact .int _)⟩
  · exact h.elim⟩
def absD : D → Option D
  | .int i => some (.int (if i < 0 then -i else i))
  | _ => none
theorem o_abs {c : Cn} : Op1 c (fun v H Q => ∃ i, [v] = [V.int i] ∧ Q (.int (if i < 0 then -i else i)) H) absD := by
  intro W μ H x v z Q S tx hz hr
  unfold absD at hz
  split at hz
  · cases hz; cases tx; exact ⟨_, rfl, hr.int S⟩
  · cases hz
def intD : D → Option D
  | .int i => some (.int i)
  | .bl k => some (.int (if k then 1 else 0))
  | _ => none
theorem o_int {c : Cn} : Op1 c (fun v H Q => (∃ i, [v] = [V.int i] ∧ Q (.int i) H) ∨ ∃ k, [v] = [V.bl k] ∧ Q (.int (if k then 1 else 0)) H) intD := by
  intro W μ H x v z Q S tx hz hr
  unfold intD at hz
  split at hz
  · cases hz; cases tx; exact .inl ⟨_, rfl, hr.int S⟩
  · cases hz; cases tx; exact .inr ⟨_, rfl, hr.int S⟩
  · cases hz
def minD : D → D → Option D
  | .int i, .int j => some (.int (if j < i then j else i))
  | _, _ => none
theorem o_min {c : Cn} : Op2 c (fun v u H Q => ∃ i j, [v, u] = [V.int i, .int j] ∧ Q (.int (if j < i then j else i)) H) minD := by
  intro W μ H x y v u z Q S tx ty hz hr
  unfold minD at hz
  split at hz
  · cases hz; cases tx; cases ty; exact ⟨_, _, rfl, hr.int S⟩
  · cases hz
def maxD : D → D → Option D
  | .int i, .int j => some (.int (if j > i then j else i))
  | _, _ => none
theorem o_max {c : Cn} : Op2 c (fun v u H Q => ∃ i j, [v, u] = [V.int i, .int j] ∧ Q (.int (if j > i then j else i)) H) maxD := by
  intro W μ H x y v u z Q S tx ty hz hr
  unfold maxD at hz
  split at hz
  · cases hz; cases tx; cases ty; exact ⟨_, _, rfl, hr.int S⟩
  · cases hz
def unBs : List D → Option (List Bool)
  | [] => some []
  | .bl b :: r => (unBs r).map (b :: ·)
  | _ :: _ => none
theorem unBs_mv {c : Cn} {F : Hp} : ∀ {xs : List D} {vs : List V} {bs : List Bool}, MVs c F xs vs → unBs xs = some bs → vs = bs.map V.bl
  | [], _, _, .nil, h => by cases h; rfl
  | .bl b :: r, _, _, .cons a t, h => by
    unfold unBs at h
    cases hr : unBs r with
    | none => rw [hr] at h; cases h
    | some l => rw [hr] at h; cases h; cases a; rw [unBs_mv t hr]; rfl
  | .non :: _, _, _, _, h => by cases h
  | .int _ :: _, _, _, _, h => by cases h
  | .str _ :: _, _, _, _, h => by cases h
  | .tup _ :: _, _, _, _, h => by cases h
  | .lst _ :: _, _, _, _, h => by cases h
  | .dic _ :: _, _, _, _, h => by cases h
  | .dit _ :: _, _, _, _, h => by cases h
  | .set _ :: _, _, _, _, h => by cases h
  | .obj _ _ :: _, _, _, _, h => by cases h
def allD : D → Option D
  | .lst xs => (unBs xs).map fun bs => .bl (bs.all id)
  | _ => none
def anyD : D → Option D
  | .lst xs => (unBs xs).map fun bs => .bl (bs.any id)
  | _ => none
theorem o_all {c : Cn} : Op1 c (fun v H Q => rAll c.k [v] H Q) allD := by
  intro W μ H x v z Q S tx hz hr
  unfold allD at hz
  split at hz
  · rename_i xs
    cases hb : unBs xs with
    | none => rw [hb] at hz; cases hz
    | some bs =>
      rw [hb] at hz; cases hz
      obtain ⟨p, vs, rfl, s1, m1⟩ := tx
      have := unBs_mv m1 hb
      subst this
      exact ⟨p, bs, rfl, .inl s1, hr.bl S⟩
  · cases hz
theorem o_any {c : Cn} : Op1 c (fun v H Q => rAny c.k [v] H Q) anyD := by
  intro W μ H x v z Q S tx hz hr
  unfold anyD at hz
  split at hz
  · rename_i xs
    cases hb : unBs xs with
    | none => rw [hb] at hz; cases hz
    | some bs =>
      rw [hb] at hz; cases hz
      obtain ⟨p, vs, rfl, s1, m1⟩ := tx
      have := unBs_mv m1 hb
      subst this
      exact ⟨p, bs, rfl, .inl s1, hr.bl S⟩
  · cases hz
/-! list(x), tuple(x) -/
def kD' : Key → D
  | .inl i => .int i
  | .inr s => .str s
theorem keys_mv {c : Cn} {F : Hp} : ∀ ks : List Key, MVs c F (ks.map kD') (ks.map kV)
  | [] => .nil
  | .inl _ :: r => .cons (.int _) (keys_mv r)
  | .inr _ :: r => .cons (.str _) (keys_mv r)
theorem keys_mv' {c : Cn} {F : Hp} {kvs : List (Key × D)} {kw : List (Key × V)} (h : kw.map (·.1) = kvs.map (·.1)) : MVs c F (kvs.map fun kv => kD' kv.1) (kw.map fun kv => kV kv.1) := by
  have h1 : (kvs.map fun kv => kD' kv.1) = (kvs.map (·.1)).map kD' := by rw [List.map_map]; rfl
  have h2 : (kw.map fun kv => kV kv.1) = (kw.map (·.1)).map kV := by rw [List.map_map]; rfl
  rw [h1, h2, h]
  exact keys_mv _
def listD : D → Option D
  | .lst xs => some (.lst xs)
  | .tup xs => some (.lst xs)
  | .dic kvs => some (.lst (kvs.map fun kv => kD' kv.1))
  | _ => none
def rListA (K : PySem.W.Frag) : List V → Hp → VK → Prop := fun xs H Q => (∃ p ys, xs = [.ref p] ∧ (SqL K H p ys ∨ SqT K H p ys) ∧ ∀ l, H l = none → Q (.ref l) (upd H l (.lst ys))) ∨ ∃ (a : Addr) (kvs : List (Key × V)), xs = [.ref a] ∧ Rd H a (.dK kvs) ∧ ∀ p, H p = none → Q (.ref p) (upd H p (.lst (kvs.map fun kv => kV kv.1)))
theorem call_listA {X : Cx} (hc : X.calm = true) : CallR X (.type "list") (rListA X.K) := callr_or call_list_of (call_listD hc)
theorem o_list {c : Cn} : Op1 c (fun v H Q => rListA c.k [v] H Q) listD := by
  intro W μ H x v z Q S tx hz hr
  unfold listD at hz
  split at hz
  · cases hz
    obtain ⟨p, vs, rfl, s1, m1⟩ := tx
    exact .inl ⟨p, vs, rfl, .inl (.inl s1), fun q n => hr.lst S m1 n⟩
  · cases hz
    obtain ⟨p, vs, rfl, s1, m1⟩ := tx
    exact .inl ⟨p, vs, rfl, .inr (sqT_mono S.ex s1), fun q n => hr.lst S m1 n⟩
  · cases hz
    obtain ⟨p, kw, rfl, s1, k1, m1⟩ := tx
    exact .inr ⟨p, kw, rfl, s1, fun q n => hr.lst S (keys_mv' k1) n⟩
  · cases hz
def tupD : D → Option D
  | .lst xs => some (.tup xs)
  | .tup xs => some (.tup xs)
  | .dic kvs => some (.tup (kvs.map fun kv => kD' kv.1))
  | _ => none
def rTupA (K : PySem.W.Frag) : List V → Hp → VK → Prop := fun xs H Q => (∃ x, xs = [x] ∧ kTup K x H Q) ∨ ∃ (a : Addr) (kvs : List (Key × V)), xs = [.ref a] ∧ Rd H a (.dK kvs) ∧ ∀ p, H p = none → Q (.ref p) (upd H p (.tup (kvs.map fun kv => kV kv.1)))
theorem call_tupA {X : Cx} (hc : X.calm = true) : CallR X (.type "tuple") (rTupA X.K) := callr_or (fun pins s σ H xs us Q I r ⟨x, hx, k⟩ => by
  subst hx
  obtain ⟨u, rfl, ru⟩ := vals1 r
  exact rl_tuple pins s σ H x u Q I ru k) (call_tupleD hc)
theorem o_tup {c : Cn} : Op1 c (fun v H Q => rTupA c.k [v] H Q) tupD := by
  intro W μ H x v z Q S tx hz hr
  unfold tupD at hz
  split at hz
  · cases hz
    obtain ⟨p, vs, rfl, s1, m1⟩ := tx
    exact .inl ⟨_, rfl, .inl ⟨p, vs, rfl, .inl s1, fun q n => hr.tup S m1 n⟩⟩
  · cases hz
    obtain ⟨p, vs, rfl, s1, m1⟩ := tx
    exact .inl ⟨_, rfl, .inr ⟨p, vs, rfl, sqT_mono S.ex s1, hr.mv S (.tup s1 m1)⟩⟩
  · cases hz
    obtain ⟨p, kw, rfl, s1, k1, m1⟩ := tx
    exact .inr ⟨p, kw, rfl, s1, fun q n => hr.tup S (keys_mv' k1) n⟩
  · cases hz
/-! list(d.values()), list(d.items()) -/
def valsD : D → Option D
  | .dic kvs => some (.lst (kvs.map (·.2)))
  | _ => none
def itemsD : D → Option D
  | .dic kvs => some (.lst (kvs.map fun kv => .tup [kD' kv.1, kv.2]))
  | _ => none
section
variable {X : Cx} {ts : List (Addr × Str)} {E : XK} {p apos cpos pos : Pos} {e : Expr} {m : EM}
theorem me_listVals (hc : X.calm = true) (hm : X.mg "list" = none) (he : PE X e (tM (cn X ts) E m)) (hg : Gl X "list" := by rfl) (hbase : attributeBase e "values" X.env (eval e X.env) = eval e X.env := by rfl) (hline : (apos.endLine == cpos.line) = true := by rfl)
    (hs : starEach [.Call (.Attribute e "values" apos) [] [] cpos] X.env = (false, eval (.Call (.Attribute e "values" apos) [] [] cpos) X.env) :: starEach [] X.env := by rfl) :
    PE X (.Call (.Name "list" p) [.Call (.Attribute e "values" apos) [] [] cpos] [] pos) (tM (cn X ts) E (ePur1 valsD m)) :=
  pe_w (pe_listValsR hc he hg hm PyProof.Rows.boot_list hbase hline hs) (op1_go (r := rValsR) fun W μ H x v z Q S tx hz hr => by
    unfold valsD at hz
    split at hz
    · cases hz
      obtain ⟨p, kw, rfl, s1, k1, m1⟩ := tx
      exact ⟨p, kw, rfl, s1, fun q n => hr.lst S m1 n⟩
    · cases hz)
theorem Sim.many {c : Cn} {W : Wo} {μ : Sto} {H H' : Hp} (S : Sim c W μ H) (e : Ex H H') {q : Addr} {o : HO} (n : H q = none) (h : H' q = some o) (ht : ∀ ps, o ≠ .tbl ps) (hF : W.F q = none) (hφ : q ∉ W.φ) : True := trivial
/-- new frozen things, many at once -/
theorem Sim.news {c : Cn} {W : Wo} {μ : Sto} {H H' : Hp} (S : Sim c W μ H) (e : Ex H H') : ∀ (qs : List (Addr × HO)), (∀ q ∈ qs, H q.1 = none ∧ H' q.1 = some q.2 ∧ ∀ ps, q.2 ≠ .tbl ps) → ∃ W', W.le W' ∧ Sim c W' μ H' ∧ (∀ q ∈ qs, W'.F q.1 = some q.2) ∧ W'.φ = W.φ ∧ W'.S = W.S ∧ (∀ a, W'.F a ≠ none → W.F a ≠ none ∨ ∃ q ∈ qs, q.1 = a)
  | [], _ => ⟨W, Wo.le.refl _, S.more e (tabs_ex S.tab e), (fun _ h => nomatch h), rfl, rfl, fun _ h => .inl h⟩
  | (q, o) :: r, h => by
    obtain ⟨W', l, S', h', e1, e2, h6⟩ := Sim.news S e r fun x hx => h x (List.mem_cons_of_mem _ hx)
    obtain ⟨h1, h2, h3⟩ := h (q, o) List.mem_cons_self
    by_cases hF : W'.F q = none
    · have hs : ∀ sa la ca, W'.S = some (sa, la, ca) → q ≠ sa ∧ q ≠ la ∧ q ≠ ca := fun sa la ca z => by
        rw [e2] at z
        have := S.src
        unfold SrcOk at this
        rw [z] at this
        obtain ⟨⟨⟨_, _, _, _, k1, k2, k3, _⟩, _⟩, _⟩ := this
        exact ⟨(ne_of_none k1 h1).symm, (ne_of_none k2 h1).symm, (ne_of_none k3 h1).symm⟩
      obtain ⟨S2, l2⟩ := S'.adopt h2 hF (fun n ce z _ => absurd (List.mem_of_getElem? z) (by rw [e1]; exact S.nin h1)) h3 hs (by rw [← l.Z]; exact exb S.zx h1)
      refine ⟨W'.add q o, l.trans l2, S2, fun x hx => ?_, e1, e2, fun a ha => ?_⟩
      · rcases List.mem_cons.mp hx with rfl | hx
        · exact upd_same
        · exact l2.F _ _ (h' x hx)
      · have ha : upd W'.F q o a ≠ none := ha
        by_cases haq : a = q
        · exact .inr ⟨(q, o), List.mem_cons_self, haq.symm⟩
        · rw [upd_ne haq] at ha
          exact (h6 a ha).imp id fun ⟨x, hx, z⟩ => ⟨x, List.mem_cons_of_mem _ hx, z⟩
    · refine ⟨W', l, S', fun x hx => ?_, e1, e2, fun a ha => (h6 a ha).imp id fun ⟨x, hx, z⟩ => ⟨x, List.mem_cons_of_mem _ hx, z⟩⟩
      rcases List.mem_cons.mp hx with rfl | hx
      · cases hq : W'.F q with
        | none => exact absurd hq hF
        | some u =>
          have := S'.ex _ _ hq
          rw [h2] at this
          exact this.symm
      · exact h' x hx
theorem me_listItems (hc : X.calm = true) (hm : X.mg "list" = none) (he : PE X e (tM (cn X ts) E m)) (hg : Gl X "list" := by rfl) (hbase : attributeBase e "items" X.env (eval e X.env) = eval e X.env := by rfl) (hline : (apos.endLine == cpos.line) = true := by rfl)
    (hs : starEach [.Call (.Attribute e "items" apos) [] [] cpos] X.env = (false, eval (.Call (.Attribute e "items" apos) [] [] cpos) X.env) :: starEach [] X.env := by rfl) :
    PE X (.Call (.Name "list" p) [.Call (.Attribute e "items" apos) [] [] cpos] [] pos) (tM (cn X ts) E (ePur1 itemsD m)) :=
  pe_w (pe_listItemsR hc he hg hm PyProof.Rows.boot_list hbase hline hs) (op1_go (r := rItemsR) fun W μ H x v z Q S tx hz hr => by
    unfold itemsD at hz
    split at hz
    · rename_i kvs
      cases hz
      obtain ⟨p, kw, rfl, s1, k1, m1⟩ := tx
      refine ⟨p, kw, rfl, s1, fun q ps H' ex n h1 h3 h2 => ?_⟩
      obtain ⟨W', l, S', h4, _⟩ := S.news ex ((q, .lst (ps.map V.ref)) :: (ps.zip kw).map fun x => (x.1, .tup [kV x.2.1, x.2.2])) fun x hx => by
        rcases List.mem_cons.mp hx with rfl | hx
        · exact ⟨n, h1, fun _ z => by cases z⟩
        · obtain ⟨y, hy, rfl⟩ := List.mem_map.mp hx
          obtain ⟨i, hi⟩ := List.mem_iff_getElem?.mp hy
          obtain ⟨g1, g2⟩ := List.getElem?_zip_eq_some.mp hi
          obtain ⟨b, g3, g4⟩ := paired_get h2 g1
          rw [g2] at g3
          cases g3
          exact ⟨h3 _ (List.mem_of_getElem? g1), g4, fun _ z => by cases z⟩
      refine hr W' H' _ l S' (.lst (.inl (h4 _ List.mem_cons_self)) ?_)
      have all : ∀ x ∈ ps.zip kw, W'.F x.1 = some (.tup [kV x.2.1, x.2.2]) := fun x hx => h4 (x.1, .tup [kV x.2.1, x.2.2]) (List.mem_cons_of_mem _ (List.mem_map.mpr ⟨x, hx, rfl⟩))
      have m2 := m1.mono l.F
      clear h4 h1 h3 hr s1
      have gen : ∀ (ps : List Addr) (kw : List (Key × V)) (kvs : List (Key × D)), ps.length = kw.length → kw.map (·.1) = kvs.map (·.1) → MVs (cn X ts) W'.F (kvs.map (·.2)) (kw.map (·.2)) → (∀ x ∈ ps.zip kw, W'.F x.1 = some (.tup [kV x.2.1, x.2.2])) → MVs (cn X ts) W'.F (kvs.map fun kv => .tup [kD' kv.1, kv.2]) (ps.map V.ref) := by
        intro ps
        induction ps with
        | nil =>
          intro kw kvs hl hk hm _
          match kw, hl with
          | [], _ =>
            match kvs, hk with
            | [], _ => exact .nil
        | cons a r ih =>
          intro kw kvs hl hk hm hall
          match kw, hl with
          | (k, v) :: kw, hl =>
            match kvs, hk, hm with
            | (k', x) :: kvs, hk, .cons mx ms =>
              rw [List.map_cons, List.map_cons] at hk
              injection hk with k1 k2
              obtain rfl : k = k' := k1
              refine .cons (.tup (.inl (.inl (hall (a, (k, v)) List.mem_cons_self))) (.cons ?_ (.cons mx .nil))) (ih kw kvs (by simpa using hl) k2 ms fun y hy => hall y (List.mem_cons_of_mem _ hy))
              cases k with
              | inl i => exact .int i
              | inr s => exact .str s
      exact gen ps kw kvs (Paired.length h2) k1 m2 all
    · cases hz)
end
end Eg
/-! the engine: displays, private frames, freezing, isinstance -/
namespace Eg
open Evl (Ex)
open PySem PySem.Spec PyProof.Rows L2 Sn LamX
section
variable {c : Cn} {W W0 : Wo} {μ : Sto} {H : Hp} {p : Addr}
theorem srcNe (S : Sim c W μ H) (n : H p = none) : ∀ sa la ca, W.S = some (sa, la, ca) → p ≠ sa ∧ p ≠ la ∧ p ≠ ca := fun sa la ca z => by
  have := S.src
  unfold SrcOk at this
  rw [z] at this
  obtain ⟨⟨⟨_, _, _, _, k1, k2, k3, _⟩, _⟩, _⟩ := this
  exact ⟨(ne_of_none k1 n).symm, (ne_of_none k2 n).symm, (ne_of_none k3 n).symm⟩
/-- a new thing of the private frame -/
theorem Sim.priv (S : Sim c W μ H) (n : H p = none) {o : HO} (ho : ∀ ps, o ≠ .tbl ps) : Sim c (W.zed (upd W.Z p o)) μ (upd H p o) := S.zed ⟨S.fno n, S.nin n, srcNe S n⟩ ho (tabs_new S.tab n)
theorem Sim.zat {o : HO} (S : Sim c W μ H) (h : W.Z = upd W0.Z p o) : H p = some o := S.zx _ _ (by rw [h]; exact upd_same)
/-- the private thing changes -/
theorem Sim.rez {o o' : HO} (S : Sim c W μ H) (h : W.Z = upd W0.Z p o) (ho : Plain o) (ho' : ∀ ps, o' ≠ .tbl ps) : Sim c (W.zed (upd W0.Z p o')) μ (upd H p o') := by
  have hz : W.Z p = some o := by rw [h]; exact upd_same
  have := S.zed (p := p) (o := o') (S.zd p o hz) ho' (tabs_upd S.tab (S.zat h) ho)
  rw [h, upd_upd] at this
  exact this
/-- the private thing is given out, frozen -/
theorem Sim.fin {o o' : HO} (S : Sim c W μ H) (h : W.Z = upd W0.Z p o) (hn : W0.Z p = none) (ho : Plain o) (ho' : ∀ ps, o' ≠ .tbl ps) : Sim c ((W.zed W0.Z).add p o') μ (upd H p o') ∧ W.le0 ((W.zed W0.Z).add p o') := by
  have hz : W.Z p = some o := by rw [h]; exact upd_same
  obtain ⟨f1, f2, f3⟩ := S.zd p o hz
  have S1 := S.rez (W0 := W0) (o' := o') h ho ho'
  have S2 := S1.unzed (W0 := W0) (by show Ex W0.Z (upd W0.Z p o'); exact exn hn)
  have S3 : Sim c (W.zed W0.Z) μ (upd H p o') := S2
  obtain ⟨S4, l4⟩ := S3.adopt upd_same f1 (fun n e z _ => absurd (List.mem_of_getElem? z) f2) ho' f3 hn
  exact ⟨S4, Wo.zedLe.trans l4.toLe0⟩
/-- .. as a cell -/
theorem Sim.finC {o o' : HO} {e : Ce} (S : Sim c W μ H) (h : W.Z = upd W0.Z p o) (hn : W0.Z p = none) (ho : Plain o) (ho' : ∀ ps, o' ≠ .tbl ps) (m : MC c W e (some o')) : Sim c ((W.zed W0.Z).cel p) (μ.new e) (upd H p o') ∧ W.le0 ((W.zed W0.Z).cel p) := by
  have hz : W.Z p = some o := by rw [h]; exact upd_same
  obtain ⟨f1, f2, f3⟩ := S.zd p o hz
  have S1 := S.rez (W0 := W0) (o' := o') h ho ho'
  have S3 : Sim c (W.zed W0.Z) μ (upd H p o') := S1.unzed (W0 := W0) (by show Ex W0.Z (upd W0.Z p o'); exact exn hn)
  have l : W.le0 ((W.zed W0.Z).cel p) := Wo.zedLe.trans (Sim.celLe).toLe0
  refine ⟨⟨S3.ex, S3.nt, by simp [Wo.cel, Sto.new, S3.len], ?_, fun n a ce h1 h2 h3 => ?_, fun a ha ps => ?_, fun n a ce h1 h2 => ?_, ?_, S3.tab, S3.zx, S3.zt, fun a u hz => ?_, S3.tp⟩, l⟩
  · show (W.φ ++ [p]).Nodup
    refine List.nodup_append.mpr ⟨S.nd, by simp, fun x hx y hy z => ?_⟩
    have : y = p := by simpa using hy
    exact f2 (by rw [← this, ← z]; exact hx)
  · have h1 : (W.φ ++ [p])[n]? = some a := h1
    have h2 : (μ.cs ++ [e])[n]? = some ce := h2
    by_cases hn : n < W.φ.length
    · rw [List.getElem?_append_left hn] at h1
      rw [List.getElem?_append_left (by rw [← S.len]; exact hn)] at h2
      exact S.out n a ce h1 h2 h3
    · rw [List.getElem?_append_right (by omega)] at h1
      rw [List.mem_singleton.mp (List.mem_of_getElem? h1)]
      exact f1
  · rcases List.mem_append.mp (show a ∈ W.φ ++ [p] from ha) with ha | ha
    · exact S3.ntc a ha ps
    · rw [List.mem_singleton.mp ha, upd_same]; exact fun z => ho' ps (Option.some.inj z)
  · have h1 : (W.φ ++ [p])[n]? = some a := h1
    have h2 : (μ.cs ++ [e])[n]? = some ce := h2
    by_cases hn : n < W.φ.length
    · rw [List.getElem?_append_left hn] at h1
      rw [List.getElem?_append_left (by rw [← S.len]; exact hn)] at h2
      exact (S3.cel n a ce h1 h2).mono Sim.celLe
    · rw [List.getElem?_append_right (by omega)] at h1
      rw [List.getElem?_append_right (by rw [← S.len]; omega), ← S.len] at h2
      have hz : n - W.φ.length = 0 := by
        have := (List.getElem?_eq_some_iff.mp h1).1
        simp at this
        omega
      rw [hz] at h1 h2
      simp at h1 h2
      subst h1 h2
      rw [upd_same]
      exact m.mono0 l
  · have := S3.src
    unfold SrcOk at *
    match hS : W.S, this with
    | none, _ => simp only [Wo.cel, Wo.zed, hS]
    | some (sa, la, ca), this =>
      simp only [Wo.cel, Wo.zed, hS] at this ⊢
      obtain ⟨d, k1, k2, k3, g1, g2, g3⟩ := this
      obtain ⟨n1, n2, n3⟩ := f3 sa la ca hS
      have nn : ∀ {x : Addr}, x ∉ W.φ → p ≠ x → x ∉ W.φ ++ [p] := fun {x} a b z => (List.mem_append.mp z).elim a fun y => b (List.mem_singleton.mp y).symm
      exact ⟨d, k1, k2, k3, nn g1 n1, nn g2 n2, nn g3 n3⟩
  · obtain ⟨z1, z2, z3⟩ := S3.zd a u hz
    refine ⟨z1, fun ha => ?_, z3⟩
    rcases List.mem_append.mp (show a ∈ W.φ ++ [p] from ha) with ha | ha
    · exact z2 ha
    · have hz : W0.Z a = some u := hz
      rw [List.mem_singleton.mp ha, hn] at hz
      cases hz
theorem GoX.zed {E : XK} {Ec : XC} {o : HO} (G : GoX c E W Ec) (hn : W.Z p = none) : GoX c E (W.zed (upd W.Z p o)) Ec := fun x μ' W' H' cls d h l S mx =>
  G x μ' (W'.zed W.Z) H' cls d h ⟨⟨l.F, l.φ, l.S⟩, rfl⟩ (S.unzed (W0 := W) (by rw [← l.Z]; exact exn hn)) mx
end
/-! ### displays -/
def eTup (a : AM) : EM := fun ς μ E Q => a ς μ E fun rs μ1 => (unD rs).elim False fun ds => ds.length ≤ sizeLine ∧ Q (.d (.tup ds)) μ1
def eLst (a : AM) : EM := fun ς μ E Q => a ς μ E fun rs μ1 => (unD rs).elim False fun ds => ds.length ≤ sizeLine ∧ Q (.d (.lst ds)) μ1
def eLstC (a : AM) : EM := fun ς μ E Q => a ς μ E fun rs μ1 => rs.length ≤ sizeLine ∧ Q (.cell μ1.cs.length) (μ1.new (.lst rs))
def aStar (a : EM) (b : AM) : AM := fun ς μ E Q => a ς μ E fun r μ1 => (vw μ1 r).elim False fun x => match x with
  | .lst xs => b ς μ1 E fun rs μ2 => Q (xs.map R.d ++ rs) μ2
  | .tup xs => b ς μ1 E fun rs μ2 => Q (xs.map R.d ++ rs) μ2
  | _ => False
theorem newC_mr {c : Cn} {W : Wo} {μ : Sto} {H : Hp} {p : Addr} (S : Sim c W μ H) : MR c (W.cel p) (.cell μ.cs.length) (.ref p) := by
  refine ⟨p, ?_, rfl⟩
  show (W.φ ++ [p])[μ.cs.length]? = some p
  rw [← S.len, List.getElem?_append_right (Nat.le_refl _), Nat.sub_self]
  rfl
theorem MRs.app {c : Cn} {W : Wo} : ∀ {rs ss : List R} {vs us : List V}, MRs c W rs vs → MRs c W ss us → MRs c W (rs ++ ss) (vs ++ us)
  | _, _, _, _, .nil, h => h
  | _, _, _, _, .cons a b, h => .cons a (MRs.app b h)
section
variable {X : Cx} {ts : List (Addr × Str)} {E : XK} {pos : Pos}
theorem me_tup {es : List Expr} {x1 : Nat} {a : AM} (h : PA X es (tA (cn X ts) E a)) : PE X (.Tuple es x1 pos) (tM (cn X ts) E (eTup a)) := pe_w (pe_tup h) fun σ H Q ⟨W, ς, μ, Ec, Qc, S, L, G, m, q⟩ => ⟨W, ς, μ, Ec, _, S, L, G, m, fun rs μ1 W1 H1 vs h l S1 M => by
  cases hu : unD rs with
  | none => rw [hu] at h; exact h.elim
  | some ds =>
    rw [hu] at h
    have mv := unD_mv hu M
    refine ⟨by rw [← mv.len]; exact h.1, fun p n => ?_⟩
    exact q _ _ _ _ _ h.2 (l.trans (S1.addLe n)) (S1.add n (fun _ z => by cases z)) (.tup (.inl (.inl upd_same)) (mv.mono (S1.addLe n).F))⟩
theorem me_lst {es : List Expr} {a : AM} (h : PA X es (tA (cn X ts) E a)) : PE X (.List es pos) (tM (cn X ts) E (eLst a)) := pe_w (pe_lst h) fun σ H Q ⟨W, ς, μ, Ec, Qc, S, L, G, m, q⟩ => ⟨W, ς, μ, Ec, _, S, L, G, m, fun rs μ1 W1 H1 vs h l S1 M => by
  cases hu : unD rs with
  | none => rw [hu] at h; exact h.elim
  | some ds =>
    rw [hu] at h
    have mv := unD_mv hu M
    refine ⟨by rw [← mv.len]; exact h.1, fun p n => ?_⟩
    exact q _ _ _ _ _ h.2 (l.trans (S1.addLe n)) (S1.add n (fun _ z => by cases z)) (.lst (.inl upd_same) (mv.mono (S1.addLe n).F))⟩
theorem me_lstC {es : List Expr} {a : AM} (h : PA X es (tA (cn X ts) E a)) : PE X (.List es pos) (tM (cn X ts) E (eLstC a)) := pe_w (pe_lst h) fun σ H Q ⟨W, ς, μ, Ec, Qc, S, L, G, m, q⟩ => ⟨W, ς, μ, Ec, _, S, L, G, m, fun rs μ1 W1 H1 vs h l S1 M => by
  refine ⟨by rw [← Paired.length M]; exact h.1, fun p n => ?_⟩
  exact q _ _ _ _ _ h.2 (l.trans Sim.celLe) (S1.newC n (fun _ z => by cases z) ⟨vs, rfl, M⟩) (newC_mr S1)⟩
theorem ma_star {e : Expr} {es : List Expr} {p : Pos} {m : EM} {n : AM} (he : PE X e (tM (cn X ts) E m)) (hr : PA X es (tA (cn X ts) E n)) (hs : starEach (.Starred e p :: es) X.env = (true, eval e X.env) :: starEach es X.env := by rfl) :
    PA X (.Starred e p :: es) (tA (cn X ts) E (aStar m n)) := pa_w (StX.pa_star he hr hs) fun σ H Q ⟨W, ς, μ, Ec, Qc, S, L, G, m, q⟩ => ⟨W, ς, μ, Ec, _, S, L, G, m, fun r μ1 W1 H1 v h l S1 mv => by
  cases hx : vw μ1 r with
  | none => rw [hx] at h; exact h.elim
  | some x =>
    rw [hx] at h
    have t := tv_of S1 hx mv
    cases x with
    | lst xs =>
      obtain ⟨p, vs, rfl, s1, m1⟩ := t
      exact ⟨p, vs, rfl, .inr (.inl s1), W1, ς, μ1, Ec, _, S1, L.mono l, G.mono l, h, fun rs μ2 W2 H2 us h2 l2 S2 M => q _ _ _ _ _ h2 (l.trans l2) S2 (((MVs.rs m1).mono l2).app M)⟩
    | tup xs =>
      obtain ⟨p, vs, rfl, s1, m1⟩ := t
      exact ⟨p, vs, rfl, .inl (sqT_mono S1.ex s1), W1, ς, μ1, Ec, _, S1, L.mono l, G.mono l, h, fun rs μ2 W2 H2 us h2 l2 S2 M => q _ _ _ _ _ h2 (l.trans l2) S2 (((MVs.rs m1).mono l2).app M)⟩
    | _ => exact h.elim⟩
end
/-! ### dicts -/
def putKD {κ β : Type} [DecidableEq κ] (kvs : List (κ × β)) (k : κ) (v : β) : List (κ × β) :=
  if (kvs.any fun kv => decide (kv.1 = k)) = true then kvs.map (fun kv => if kv.1 = k then (kv.1, v) else kv) else kvs ++ [(k, v)]
def mergeD {β : Type} (kvs more : List (Key × β)) : List (Key × β) := more.foldl (fun acc kv => putKD acc kv.1 kv.2) kvs
section
variable {c : Cn} {W : Wo}
/-- two lists of pairs, key by key -/
def KMR {κ : Type} (c : Cn) (W : Wo) (kr : List (κ × R)) (kw : List (κ × V)) : Prop := kw.map (·.1) = kr.map (·.1) ∧ MRs c W (kr.map (·.2)) (kw.map (·.2))
theorem KMR.any {κ : Type} [DecidableEq κ] {k : κ} : ∀ {kr : List (κ × R)} {kw : List (κ × V)}, KMR c W kr kw → (kw.any fun kv => decide (kv.1 = k)) = kr.any fun kv => decide (kv.1 = k)
  | [], [], _ => rfl
  | (a, x) :: kr, (b, v) :: kw, ⟨h, m⟩ => by
    rw [List.map_cons, List.map_cons] at h
    injection h with h1 h2
    obtain rfl : b = a := h1
    cases m with
    | cons m1 m2 => rw [List.any_cons, List.any_cons, KMR.any ⟨h2, m2⟩]
theorem KMR.set {κ : Type} [DecidableEq κ] {k : κ} {r : R} {v : V} (mr : MR c W r v) : ∀ {kr : List (κ × R)} {kw : List (κ × V)}, KMR c W kr kw → KMR c W (kr.map fun kv => if kv.1 = k then (kv.1, r) else kv) (kw.map fun kv => if kv.1 = k then (kv.1, v) else kv)
  | [], [], _ => ⟨rfl, .nil⟩
  | (a, x) :: kr, (b, u) :: kw, ⟨h, m⟩ => by
    rw [List.map_cons, List.map_cons] at h
    injection h with h1 h2
    obtain rfl : b = a := h1
    cases m with
    | cons m1 m2 =>
      obtain ⟨i1, i2⟩ := KMR.set (k := k) mr (kr := kr) (kw := kw) ⟨h2, m2⟩
      rw [List.map_cons, List.map_cons]
      by_cases e : b = k
      · simp only [if_pos e]
        exact ⟨by rw [List.map_cons, List.map_cons, i1], .cons mr i2⟩
      · simp only [if_neg e]
        exact ⟨by rw [List.map_cons, List.map_cons, i1], .cons m1 i2⟩
theorem KMR.put {κ : Type} [DecidableEq κ] {k : κ} {r : R} {v : V} {kr : List (κ × R)} {kw : List (κ × V)} (h : KMR c W kr kw) (mr : MR c W r v) : KMR c W (putKD kr k r) (putK kw k v) := by
  unfold putKD putK
  rw [h.any]
  split
  · exact h.set mr
  · exact ⟨by rw [List.map_append, List.map_append, h.1]; rfl, by rw [List.map_append, List.map_append]; exact h.2.app (.cons mr .nil)⟩
theorem KMR.merge : ∀ {ls : List (Key × R)} {lw : List (Key × V)} {kr : List (Key × R)} {kw : List (Key × V)}, KMR c W ls lw → KMR c W kr kw → KMR c W (mergeD kr ls) (mergeK kw lw)
  | [], [], _, _, _, h => h
  | (a, x) :: ls, (b, v) :: lw, kr, kw, ⟨h, m⟩, k => by
    rw [List.map_cons, List.map_cons] at h
    injection h with h1 h2
    obtain rfl : b = a := h1
    cases m with
    | cons m1 m2 => exact KMR.merge (ls := ls) (lw := lw) ⟨h2, m2⟩ (k.put m1)
theorem unK_put {κ : Type} [DecidableEq κ] {k : κ} {x : D} : ∀ {kr : List (κ × R)} {ks : List (κ × D)}, unK kr = some ks → unK (putKD kr k (.d x)) = some (putKD ks k x) := fun {kr ks} h => by
  have ha : ∀ {kr : List (κ × R)} {ks : List (κ × D)}, unK kr = some ks → (kr.any fun kv => decide (kv.1 = k)) = ks.any fun kv => decide (kv.1 = k) := fun {kr ks} h => by
    have := (unK_eq h).1
    have e1 : (kr.any fun kv => decide (kv.1 = k)) = (kr.map (·.1)).any fun a => decide (a = k) := by rw [List.any_map]; rfl
    have e2 : (ks.any fun kv => decide (kv.1 = k)) = (ks.map (·.1)).any fun a => decide (a = k) := by rw [List.any_map]; rfl
    rw [e1, e2, this]
  unfold putKD
  rw [ha h]
  have hm : ∀ {kr : List (κ × R)} {ks : List (κ × D)}, unK kr = some ks → unK (kr.map fun kv => if kv.1 = k then (kv.1, R.d x) else kv) = some (ks.map fun kv => if kv.1 = k then (kv.1, x) else kv) := by
    intro kr
    induction kr with
    | nil => intro ks h; cases h; rfl
    | cons p r ih =>
      intro ks h
      obtain ⟨a, y⟩ := p
      cases y with
      | d y =>
        unfold unK at h
        cases hr : unK r with
        | none => rw [hr] at h; cases h
        | some t =>
          rw [hr] at h
          cases h
          have := ih hr
          rw [List.map_cons, List.map_cons]
          by_cases e : a = k
          · simp only [if_pos e, unK, this, Option.map_some]
          · simp only [if_neg e, unK, this, Option.map_some]
      | _ => cases h
  have hp : ∀ {kr : List (κ × R)} {ks : List (κ × D)}, unK kr = some ks → unK (kr ++ [(k, R.d x)]) = some (ks ++ [(k, x)]) := by
    intro kr
    induction kr with
    | nil => intro ks h; cases h; rfl
    | cons p r ih =>
      intro ks h
      obtain ⟨a, y⟩ := p
      cases y with
      | d y =>
        unfold unK at h
        cases hr : unK r with
        | none => rw [hr] at h; cases h
        | some t =>
          rw [hr] at h
          cases h
          rw [List.cons_append, List.cons_append]
          simp only [unK, ih hr, Option.map_some]
      | _ => cases h
  split
  · exact hm h
  · exact hp h
theorem unK_merge : ∀ {ls : List (Key × R)} {ld : List (Key × D)} {kr : List (Key × R)} {ks : List (Key × D)}, unK ls = some ld → unK kr = some ks → unK (mergeD kr ls) = some (mergeD ks ld)
  | [], _, _, _, h, k => by cases h; exact k
  | (a, .d x) :: ls, ld, kr, ks, h, k => by
    unfold unK at h
    cases hr : unK ls with
    | none => rw [hr] at h; cases h
    | some t =>
      rw [hr] at h
      cases h
      show unK (mergeD (putKD kr a (.d x)) ls) = some (mergeD (putKD ks a x) t)
      exact unK_merge hr (unK_put k)
  | (_, .cell _) :: _, _, _, _, h, _ => by cases h
  | (_, .src) :: _, _, _, _, h, _ => by cases h
  | (_, .cls _) :: _, _, _, _, h, _ => by cases h
  | (_, .scr _) :: _, _, _, _, h, _ => by cases h
end
def keyR : R → Option Key
  | .d x => keyD x
  | _ => none
def ePairs : List (EM × EM) → Sl → Sto → XC → (List (Key × R) → Sto → Prop) → Prop
  | [], _, μ, _, Q => Q [] μ
  | (k, v) :: r, ς, μ, E, Q => k ς μ E fun rk μ1 => v ς μ1 E fun rv μ2 => ePairs r ς μ2 E fun l μ3 => (keyR rk).elim False fun key => Q ((key, rv) :: l) μ3
def eDic (ps : List (EM × EM)) : EM := fun ς μ E Q => ePairs ps ς μ E fun l μ1 => (unK l).elim False fun kd => kd.length ≤ 15 ∧ Q (.d (.dic (mergeD [] kd))) μ1
def eDicC (ps : List (EM × EM)) : EM := fun ς μ E Q => ePairs ps ς μ E fun l μ1 => l.length ≤ 15 ∧ Q (.cell μ1.cs.length) (μ1.new (.dic (mergeD [] l)))
section
variable {X : Cx} {ts : List (Addr × Str)} {E : XK} {pos : Pos}
/-- a new dict is locked for ever -/
def tLk (t : TE) : TE := fun σ H Q => t σ H fun v H1 => ∃ p kw, v = .ref p ∧ H1 p = some (.dK kw) ∧ ∀ od, Q v (upd H1 p (.frz od (.dK kw)))
theorem pe_lk {e : Expr} {t : TE} (h : PE X e t) : PE X e (tLk t) := ⟨fun pins s σ H Q I q => thn (h.run pins s σ H _ I q) fun u s1 ⟨v, H1, I1, r, p, kw, e, hp, q1⟩ => by
  obtain ⟨od, I2⟩ := I1.lock hp True.intro
  exact ⟨v, _, I2, r, q1 od⟩⟩
abbrev trs (c : Cn) (E : XK) (ps : List (EM × EM)) : List (TE × TE) := ps.map fun p => (tM c E p.1, tM c E p.2)
theorem mp_nil : PPs X pos [] [] (trs (cn X ts) E []) := pps_nil
theorem mp_cons {k v : Expr} {ks : List (Option Expr)} {vs : List Expr} {km vm : EM} {ps : List (EM × EM)} (hk : PE X k (tM (cn X ts) E km)) (hv : PE X v (tM (cn X ts) E vm)) (hr : PPs X pos ks vs (trs (cn X ts) E ps)) : PPs X pos (some k :: ks) (v :: vs) (trs (cn X ts) E ((km, vm) :: ps)) := pps_cons hk hv hr
theorem keyR_mr {c : Cn} {W : Wo} {r : R} {v : V} {k : Key} (h : keyR r = some k) (m : MR c W r v) : v = kV k := by
  cases r with
  | d x =>
    have h : keyD x = some k := h
    cases x <;> simp [keyD] at h <;> (subst h; cases m; rfl)
  | _ => cases h
theorem pairs_go {c : Cn} {ς : Sl} {σ : L2.St} : ∀ {ps : List (EM × EM)} {W : Wo} {μ : Sto} {H : Hp} {Ec : XC} {Qc : List (Key × R) → Sto → Prop} {Q : List (V × V) → Hp → Prop}, Sim c W μ H → Slots c W ς σ → GoX c E W Ec → ePairs ps ς μ Ec Qc →
    (∀ l μ' W' H' lw, Qc l μ' → W.le W' → Sim c W' μ' H' → KMR c W' l lw → Q (lw.map fun kv => (kV kv.1, kv.2)) H') → tPairs (trs c E ps) σ H Q
  | [], W, μ, H, Ec, Qc, Q, S, L, G, m, q => q [] μ W H [] m (Wo.le.refl _) S ⟨rfl, .nil⟩
  | (k, v) :: r, W, μ, H, Ec, Qc, Q, S, L, G, m, q => by
    refine ⟨W, ς, μ, Ec, _, S, L, G, m, fun rk μ1 W1 H1 vk h1 l1 S1 m1 => ⟨W1, ς, μ1, Ec, _, S1, L.mono l1, G.mono l1, h1, fun rv μ2 W2 H2 vv h2 l2 S2 m2 => ?_⟩⟩
    refine pairs_go S2 (L.mono (l1.trans l2)) (G.mono (l1.trans l2)) h2 fun l μ3 W3 H3 lw h3 l3 S3 m3 => ?_
    cases hk : keyR rk with
    | none => rw [hk] at h3; exact h3.elim
    | some key =>
      rw [hk] at h3
      have := keyR_mr hk m1
      subst this
      exact q _ μ3 W3 H3 ((key, vv) :: lw) h3 (l1.trans (l2.trans l3)) S3 ⟨by rw [List.map_cons, List.map_cons, m3.1], .cons (MR.mono l3 m2) m3.2⟩
theorem dic_fin {c : Cn} {W W2 : Wo} {μ : Sto} {H2 : Hp} {p : Addr} {od : Obj} {l : List (Key × R)} {lw : List (Key × V)} {kd : List (Key × D)} (S : Sim c W2 μ H2) (l2 : (W.zed (upd W.Z p (.dK []))).le W2) (hn : W.Z p = none) (m : KMR c W2 l lw) (hu : unK l = some kd) :
    ∃ W3, W.le W3 ∧ Sim c W3 μ (upd (upd H2 p (.dK (mergeK [] lw))) p (.frz od (.dK (mergeK [] lw)))) ∧ MV c W3.F (.dic (mergeD [] kd)) (.ref p) := by
  obtain ⟨S3, l3⟩ := S.fin (W0 := W) (o := .dK []) (o' := .frz od (.dK (mergeK [] lw))) l2.Z.symm hn trivial (fun _ z => by cases z)
  rw [upd_upd]
  refine ⟨_, ⟨(Wo.zedLe (Z := upd W.Z p (.dK []))).trans (l2.toLe0.trans l3), rfl⟩, S3, ?_⟩
  have hm := KMR.merge m (kr := []) (kw := []) ⟨rfl, .nil⟩
  have hk := unK_merge hu (kr := []) (ks := []) rfl
  obtain ⟨k1, k2⟩ := unK_eq hk
  exact .dic upd_same (hm.1.trans k1) ((unD_mv k2 hm.2).mono l3.F)
theorem me_dic {keys : List (Option Expr)} {values : List Expr} {ps : List (EM × EM)} (h : PPs X pos keys values (trs (cn X ts) E ps)) (hall : keys.all (·.isSome) = true := by rfl) (hl : keys.length = values.length := by rfl) (h0 : keys ≠ [] := by exact fun z => by cases z) (h15 : keys.length ≤ 15 := by decide) :
    PE X (.Dict keys values pos) (tM (cn X ts) E (eDic ps)) := pe_w (pe_lk (pe_disp h hall hl h0 h15)) fun σ H Q ⟨W, ς, μ, Ec, Qc, S, L, G, m, q⟩ p n => by
  have hZ : W.Z p = none := exb S.zx n
  have S1 := S.priv n (o := .dK []) (fun _ z => by cases z)
  have z1 : W.le0 (W.zed (upd W.Z p (.dK []))) := Wo.zedLe
  refine pairs_go S1 ⟨L.len, fun i r e => let ⟨v, a, b⟩ := L.get i r e; ⟨v, a, MR.mono0 z1 b⟩⟩ (G.zed hZ) m fun l μ2 W2 H2 lw h2 l2 S2 m2 => ?_
  cases hu : unK l with
  | none => rw [hu] at h2; exact h2.elim
  | some kd =>
    rw [hu] at h2
    have ll : lw.length = kd.length := by
      have e1 := congrArg List.length m2.1
      have e2 := congrArg List.length (unK_eq hu).1
      simp only [List.length_map] at e1 e2
      omega
    refine ⟨S2.zat (W0 := W) l2.Z.symm, lw, rfl, by rw [ll]; exact h2.1, p, _, rfl, upd_same, fun od => ?_⟩
    obtain ⟨W3, l3, S3, mv⟩ := dic_fin (od := od) S2 l2 hZ m2 hu
    exact q _ _ _ _ _ h2.2 l3 S3 mv
end
end Eg
/-! the engine: walks, loops, comprehensions -/
namespace Eg
open Evl (Ex)
open PySem PySem.Spec PyProof.Rows L2 Sn LamX
abbrev IM := Sl → Sto → XC → (List R → Sto → Prop) → Prop
/-- the walk J gives xs, one behind another -/
structure ItOk (c : Cn) (W : Wo) (J : It) (xs : List R) : Prop where
  go : ∀ i W' μ H, W.le0 W' → Sim c W' μ H → i < xs.length → J.go i H
  yld : ∀ i W' μ H x H', W.le0 W' → Sim c W' μ H → i < xs.length → J.yld i H x H' → ∃ W2 r, W'.le W2 ∧ Sim c W2 μ H' ∧ xs[i]? = some r ∧ MR c W2 r x
  stop : ∀ i W' μ H, W.le0 W' → Sim c W' μ H → i = xs.length → J.stop i H
def tI (c : Cn) (E : XK) (m : IM) : TI := fun σ H Rr => ∃ W ς μ Ec Qc, Sim c W μ H ∧ Slots c W ς σ ∧ GoX c E W Ec ∧ m ς μ Ec Qc ∧ ∀ xs μ' W' H' J, Qc xs μ' → W.le W' → Sim c W' μ' H' → ItOk c W' J xs → Rr J H'
/-- what a for walks -/
def itR : R → Option (List R)
  | .d (.lst xs) => some (xs.map R.d)
  | .d (.tup xs) => some (xs.map R.d)
  | .d (.str z) => some (z.cps.toList.map fun ch => .d (.str ⟨#[ch]⟩))
  | .d (.dic kvs) => some (kvs.map fun kv => .d (kD' kv.1))
  | .scr ns => some (ns.map fun n => .d (.int n))
  | _ => none
def iSeq (e : EM) : IM := fun ς μ E Q => e ς μ E fun r μ1 => (itR r).elim False fun xs => Q xs μ1
section
variable {c : Cn} {W : Wo} {X : Cx} {tg : Expr}
theorem rs_get {xs : List D} {i : Nat} {r : R} (h : (xs.map R.d)[i]? = some r) : ∃ x, r = .d x ∧ xs[i]? = some x := by
  rw [List.getElem?_map] at h
  cases hx : xs[i]? with
  | none => rw [hx] at h; cases h
  | some x => rw [hx] at h; cases h; exact ⟨x, rfl, rfl⟩
theorem it_list {a : Addr} {xs : List R} {vs : List V} (hs : SqL c.k W.F a vs) (m : MRs c W xs vs) : ItOk c W (Itl c.k a) xs := by
  have hl : xs.length = vs.length := Paired.length m
  refine ⟨fun i W' μ H l S hi => ?_, fun i W' μ H x H' l S hi hy => ?_, fun i W' μ H l S hi => ⟨vs, sqL_mono S.ex (sqL_mono l.F hs), by omega⟩⟩
  · exact ⟨vs, vs[i]'(by omega), sqL_mono S.ex (sqL_mono l.F hs), List.getElem?_eq_getElem (by omega)⟩
  · obtain ⟨rfl, hy⟩ := hy
    have hx := hy vs (sqL_mono S.ex (sqL_mono l.F hs))
    obtain ⟨v, g1, g2⟩ := paired_get m (List.getElem?_eq_getElem hi)
    rw [hx] at g1
    cases g1
    exact ⟨W', _, Wo.le.refl _, S, List.getElem?_eq_getElem hi, MR.mono0 l g2⟩
theorem it_tup {a : Addr} {xs : List R} {vs : List V} (hs : SqT c.k W.F a vs) (m : MRs c W xs vs) : ItOk c W (Itt c.k a) xs := by
  have hl : xs.length = vs.length := Paired.length m
  refine ⟨fun i W' μ H l S hi => ?_, fun i W' μ H x H' l S hi hy => ?_, fun i W' μ H l S hi => ⟨vs, sqT_mono S.ex (sqT_mono l.F hs), by omega⟩⟩
  · exact ⟨vs, vs[i]'(by omega), sqT_mono S.ex (sqT_mono l.F hs), List.getElem?_eq_getElem (by omega)⟩
  · obtain ⟨rfl, hy⟩ := hy
    have hx := hy vs (sqT_mono S.ex (sqT_mono l.F hs))
    obtain ⟨v, g1, g2⟩ := paired_get m (List.getElem?_eq_getElem hi)
    rw [hx] at g1
    cases g1
    exact ⟨W', _, Wo.le.refl _, S, List.getElem?_eq_getElem hi, MR.mono0 l g2⟩
theorem it_str {z : Str} : ItOk c W (Its z) (z.cps.toList.map fun ch => .d (.str ⟨#[ch]⟩)) := by
  have hl : (z.cps.toList.map fun ch => R.d (.str ⟨#[ch]⟩)).length = z.cps.size := by simp
  refine ⟨fun i W' μ H l S hi => by rw [hl] at hi; exact hi, fun i W' μ H x H' l S hi hy => ?_, fun i W' μ H l S hi => by rw [hl] at hi; exact Nat.le_of_eq hi.symm⟩
  obtain ⟨rfl, ch, h1, rfl⟩ := hy
  exact ⟨W', .d (.str ⟨#[ch]⟩), Wo.le.refl _, S, by rw [List.getElem?_map, Array.getElem?_toList, h1]; rfl, MV.str _⟩
theorem key_mv (F : Hp) : ∀ k : Key, MV c F (kD' k) (kV k)
  | .inl i => .int i
  | .inr s => .str s
theorem it_keys {d : Addr} {o : Obj} {kw : List (Key × V)} {kvs : List (Key × D)} (hd : W.F d = some (.frz o (.dK kw))) (hk : kw.map (·.1) = kvs.map (·.1)) : ItOk c W (Itk d o kw) (kvs.map fun kv => .d (kD' kv.1)) := by
  have hl : kvs.length = kw.length := by have := congrArg List.length hk; simpa using this.symm
  refine ⟨fun i W' μ H l S hi => ⟨S.ex _ _ (l.F _ _ hd), by simpa [hl] using hi⟩, fun i W' μ H x H' l S hi hy => ?_, fun i W' μ H l S hi => ⟨S.ex _ _ (l.F _ _ hd), by have hi := Nat.le_of_eq hi.symm; simpa [hl] using hi⟩⟩
  obtain ⟨rfl, k, v, h1, rfl⟩ := hy
  have h2 : (kvs.map (·.1))[i]? = some k := by rw [← hk, List.getElem?_map, h1]; rfl
  rw [List.getElem?_map] at h2
  cases h3 : kvs[i]? with
  | none => rw [h3] at h2; cases h2
  | some kv =>
    rw [h3] at h2
    cases h2
    exact ⟨W', .d (kD' kv.1), Wo.le.refl _, S, by rw [List.getElem?_map, h3]; rfl, key_mv _ _⟩
theorem it_vals {d : Addr} {o : Obj} {kw : List (Key × V)} {kvs : List (Key × D)} (hd : W.F d = some (.frz o (.dK kw))) (hm : MVs c W.F (kvs.map (·.2)) (kw.map (·.2))) : ItOk c W (Itd d o kw) ((kvs.map (·.2)).map R.d) := by
  have hl := hm.len
  simp only [List.length_map] at hl
  refine ⟨fun i W' μ H l S hi => ⟨S.ex _ _ (l.F _ _ hd), by simpa [hl] using hi⟩, fun i W' μ H x H' l S hi hy => ?_, fun i W' μ H l S hi => ⟨S.ex _ _ (l.F _ _ hd), by have hi := Nat.le_of_eq hi.symm; simpa [hl] using hi⟩⟩
  obtain ⟨rfl, k, h1⟩ := hy
  obtain ⟨y, g1, g2⟩ := hm.get' (i := i) (v := x) (by rw [List.getElem?_map, h1]; rfl)
  exact ⟨W', .d y, Wo.le.refl _, S, by rw [List.getElem?_map, g1]; rfl, MV.mono l.F g2⟩
theorem it_items {d : Addr} {o : Obj} {kw : List (Key × V)} {kvs : List (Key × D)} (hd : W.F d = some (.frz o (.dK kw))) (hk : kw.map (·.1) = kvs.map (·.1)) (hm : MVs c W.F (kvs.map (·.2)) (kw.map (·.2))) : ItOk c W (Iti d o kw) (kvs.map fun kv => .d (.tup [kD' kv.1, kv.2])) := by
  have hl := hm.len
  simp only [List.length_map] at hl
  refine ⟨fun i W' μ H l S hi => ⟨S.ex _ _ (l.F _ _ hd), by simpa [hl] using hi⟩, fun i W' μ H x H' l S hi hy => ?_, fun i W' μ H l S hi => ⟨S.ex _ _ (l.F _ _ hd), by have hi := Nat.le_of_eq hi.symm; simpa [hl] using hi⟩⟩
  obtain ⟨T, k, v, h1, rfl, hT, rfl⟩ := hy
  obtain ⟨y, g1, g2⟩ := hm.get' (i := i) (v := v) (by rw [List.getElem?_map, h1]; rfl)
  have h2 : (kvs.map (·.1))[i]? = some k := by rw [← hk, List.getElem?_map, h1]; rfl
  rw [List.getElem?_map] at h2 g1
  cases h3 : kvs[i]? with
  | none => rw [h3] at h2; cases h2
  | some kv =>
    rw [h3] at h2 g1
    cases h2
    cases g1
    exact ⟨W'.add T (.tup [kV kv.1, v]), .d (.tup [kD' kv.1, kv.2]), S.addLe hT, S.add hT (fun _ z => by cases z), by rw [List.getElem?_map, h3]; rfl, MV.tup (.inl (.inl upd_same)) (.cons (key_mv _ _) (.cons (MV.mono (ext l.F (S.addLe hT).F) g2) .nil))⟩
theorem it_range {lo : Int} {n : Nat} : ItOk c W (Itr lo n) ((List.range n).map fun (i : Nat) => .d (.int (lo + i))) := by
  refine ⟨fun i W' μ H l S hi => (by show i < n; simpa using hi), fun i W' μ H x H' l S hi hy => ?_, fun i W' μ H l S hi => (by show n ≤ i; have hi := Nat.le_of_eq hi.symm; simpa using hi)⟩
  obtain ⟨rfl, rfl⟩ := hy
  have hi : i < n := by simpa using hi
  exact ⟨W', .d (.int (lo + i)), Wo.le.refl _, S, by rw [List.getElem?_map, List.getElem?_range hi]; rfl, MV.int _⟩
end
section
variable {X : Cx} {tg : Expr} {ts : List (Addr × Str)} {E : XK}
theorem pi_w {e : Expr} {t t' : TI} (h : PI X tg e t) (k : ∀ σ H Q, t' σ H Q → t σ H Q) : PI X tg e t' := ⟨fun pins s σ H Q I q => h.run pins s σ H Q I (k σ H Q q)⟩
theorem ints_mr {c : Cn} {W : Wo} : ∀ ns : List Int, MRs c W (ns.map fun n => .d (.int n)) (ns.map V.int)
  | [] => .nil
  | n :: r => .cons (MV.int n) (ints_mr r)
/-- for x in e: a list, a tuple, a text, a dict's keys, the script -/
theorem mi_seq {e : Expr} {m : EM} (he : PE X e (tM (cn X ts) E m)) : PI X tg e (tI (cn X ts) E (iSeq m)) := by
  refine ⟨fun pins s σ H Rr I ⟨W, ς, μ, Ec, Qc, S, L, G, hm, q⟩ => ?_⟩
  refine thn (he.run pins s σ H _ I ⟨W, ς, μ, Ec, _, S, L, G, hm, fun r μ1 W1 H1 v h l S1 mv => (show ∃ r μ1 W1, (itR r).elim False (fun xs => Qc xs μ1) ∧ W.le W1 ∧ Sim (cn X ts) W1 μ1 H1 ∧ MR (cn X ts) W1 r v from ⟨r, μ1, W1, h, l, S1, mv⟩)⟩) fun v s1 ⟨x, H1, I1, r1, r, μ1, W1, h, l, S1, mv⟩ => ?_
  cases hi : itR r with
  | none => rw [hi] at h; exact h.elim
  | some xs =>
    rw [hi] at h
    have list : ∀ {a : Addr} {vs : List V}, x = .ref a → SqL X.K W1.F a vs → MRs (cn X ts) W1 xs vs → wpAny (model X.prog X.w) X.A (pyIter v) (PIE X pins σ tg Rr) X.xe s1 := fun {a vs} ex hs ms => by
      subst ex
      cases r1
      obtain ⟨its, rv, p, hz⟩ := I1.list (sqL_mono S1.ex hs)
      exact wpAny_pyIter_list p.isList (pi_one (tk := s1.toks) I1 _ (turn_list a _) ⟨_, Heap.get?_push_size _ rfl, rfl, rfl⟩ (q xs μ1 W1 H1 _ h l S1 (it_list hs ms)))
    unfold itR at hi
    split at hi
    · cases hi
      cases mv with
      | lst a b => exact list rfl (.inl a) (MVs.rs b)
    · cases hi
      cases mv with
      | tup a b =>
        cases r1
        obtain ⟨its, rv, p, hz⟩ := I1.tuple (sqT_mono S1.ex a)
        exact wpAny_pyIter_tuple (show s1.heap.IsTuple _ its.toArray from p) (pi_one (tk := s1.toks) I1 _ (turn_tuple _ _) ⟨_, Heap.get?_push_size _ rfl, rfl, rfl⟩ (q _ μ1 W1 H1 _ h l S1 (it_tup a (MVs.rs b))))
    · cases hi
      rename_i z
      cases mv
      obtain ⟨t, rfl⟩ := r1
      have qq := q _ μ1 W1 H1 _ h l S1 (it_str (z := z))
      cases ha : z.cps.all (· < 128)
      · exact wpAny_pyIter_wide ha (pi_one (tk := s1.toks) I1 _ (turn_str _ z t "str_iterator" (.inr rfl)) ⟨_, Heap.get?_push_size _ rfl, rfl, rfl⟩ qq)
      · exact wpAny_pyIter_ascii ha (pi_one (tk := s1.toks) I1 _ (turn_str _ z t "str_ascii_iterator" (.inl rfl)) ⟨_, Heap.get?_push_size _ rfl, rfl, rfl⟩ qq)
    · cases hi
      cases mv with
      | dic a b d =>
        cases r1
        have qq := q _ μ1 W1 H1 _ h l S1 (it_keys a b)
        obtain ⟨hs, hgd, hx, es, ep, vs, hdt, hsz, kv, hm⟩ := I1.frzK (S1.ex _ _ a)
        refine iter_keys hs hgd hx hdt (pi_one (tk := s1.toks) I1 _ (turn_keys _ hdt) ⟨_, Heap.get?_push_size _ rfl, rfl, ?_⟩ qq)
        rw [hsz] <;> rfl
    · cases hi
      obtain ⟨a, rfl, hs⟩ := mv
      exact list rfl hs (ints_mr _)
    · cases hi
/-- d.values(), d.items() -/
def iVal (e : EM) : IM := fun ς μ E Q => e ς μ E fun r μ1 => match r with | .d (.dic kvs) => Q ((kvs.map (·.2)).map R.d) μ1 | _ => False
def iItm (e : EM) : IM := fun ς μ E Q => e ς μ E fun r μ1 => match r with | .d (.dic kvs) => Q (kvs.map fun kv => .d (.tup [kD' kv.1, kv.2])) μ1 | _ => False
theorem mi_val {e : Expr} {m : EM} {apos cpos : Pos} (he : PE X e (tM (cn X ts) E m)) (hbase : attributeBase e "values" X.env (eval e X.env) = eval e X.env := by rfl) (hline : (apos.endLine == cpos.line) = true := by rfl) :
    PI X tg (.Call (.Attribute e "values" apos) [] [] cpos) (tI (cn X ts) E (iVal m)) := pi_w (pi_values he hbase hline) fun σ H Rr ⟨W, ς, μ, Ec, Qc, S, L, G, hm, q⟩ => ⟨W, ς, μ, Ec, _, S, L, G, hm, fun r μ1 W1 H1 v h l S1 mv => by
  split at h
  · cases mv with
    | dic a b d => exact ⟨_, _, _, rfl, S1.ex _ _ a, q _ _ _ _ _ h l S1 (it_vals a d)⟩
  · exact h.elim⟩
theorem mi_itm {e : Expr} {m : EM} {apos cpos tpos : Pos} {elts : List Expr} {kk : Nat} (he : PE X e (tM (cn X ts) E m)) (hbase : attributeBase e "items" X.env (eval e X.env) = eval e X.env := by rfl) (hline : (apos.endLine == cpos.line) = true := by rfl) :
    PI X (.Tuple elts kk tpos) (.Call (.Attribute e "items" apos) [] [] cpos) (tI (cn X ts) E (iItm m)) := pi_w (pi_items he hbase hline) fun σ H Rr ⟨W, ς, μ, Ec, Qc, S, L, G, hm, q⟩ => ⟨W, ς, μ, Ec, _, S, L, G, hm, fun r μ1 W1 H1 v h l S1 mv => by
  split at h
  · cases mv with
    | dic a b d => exact ⟨_, _, _, rfl, S1.ex _ _ a, q _ _ _ _ _ h l S1 (it_items a b d)⟩
  · exact h.elim⟩
def iRg1 (e : EM) : IM := fun ς μ E Q => e ς μ E fun r μ1 => match r with | .d (.int j) => -(2 ^ 62) ≤ j ∧ j < 2 ^ 62 ∧ Q ((List.range j.toNat).map fun (i : Nat) => .d (.int (i : Int))) μ1 | _ => False
def iRg2 (a b : EM) : IM := fun ς μ E Q => a ς μ E fun r μ1 => b ς μ1 E fun s μ2 => match r, s with
  | .d (.int i), .d (.int j) => (-(2 ^ 62) ≤ i ∧ i < 2 ^ 62 ∧ -(2 ^ 62) ≤ j ∧ j < 2 ^ 62) ∧ Q ((List.range (j - i).toNat).map fun (k : Nat) => .d (.int (i + k))) μ2
  | _, _ => False
theorem mi_rg1 {a : Expr} {m : EM} {p pos : Pos} (hm : X.mg "range" = none) (ha : PE X a (tM (cn X ts) E m)) (hg : Gl X "range" := by rfl) (hs : starEach [a] X.env = [(false, eval a X.env)] := by rfl) : PI X tg (.Call (.Name "range" p) [a] [] pos) (tI (cn X ts) E (iRg1 m)) :=
  pi_w (pi_range1 hg hm (pa_cons ha pa_nil (by rw [hs]; rfl)) hs) fun σ H Rr ⟨W, ς, μ, Ec, Qc, S, L, G, hm, q⟩ => ⟨W, ς, μ, Ec, _, S, L, G, hm, fun r μ1 W1 H1 v h l S1 mv => by
  split at h
  · rename_i j
    cases mv
    obtain ⟨h1, h2, h3⟩ := h
    refine ⟨j, rfl, h1, h2, q _ _ _ _ _ h3 l S1 ?_⟩
    have := it_range (c := cn X ts) (W := W1) (lo := 0) (n := j.toNat)
    simpa using this
  · exact h.elim⟩
theorem mi_rg2 {a b : Expr} {m n : EM} {p pos : Pos} (hm : X.mg "range" = none) (ha : PE X a (tM (cn X ts) E m)) (hb : PE X b (tM (cn X ts) E n)) (hg : Gl X "range" := by rfl) (hs : starEach [a, b] X.env = [(false, eval a X.env), (false, eval b X.env)] := by rfl) (hs2 : starEach [b] X.env = [(false, eval b X.env)] := by rfl) :
    PI X tg (.Call (.Name "range" p) [a, b] [] pos) (tI (cn X ts) E (iRg2 m n)) :=
  pi_w (pi_range2 hg hm (pa_cons ha (pa_cons hb pa_nil (by rw [hs2]; rfl)) (by rw [hs, hs2])) hs hs2) fun σ H Rr ⟨W, ς, μ, Ec, Qc, S, L, G, hm, q⟩ => ⟨W, ς, μ, Ec, _, S, L, G, hm, fun r μ1 W1 H1 v h l S1 mv => ⟨W1, ς, μ1, Ec, _, S1, L.mono l, G.mono l, h, fun s μ2 W2 H2 u h2 l2 S2 mu => by
  split at h2
  · cases mv
    cases mu
    obtain ⟨h3, h4⟩ := h2
    exact ⟨_, _, rfl, h3, q _ _ _ _ _ h4 (l.trans l2) S2 it_range⟩
  · exact h2.elim⟩⟩
end
/-! ### targets -/
abbrev GM := R → Sl → Option Sl
def gN (i : Nat) : GM := fun r ς => some (ς.set i (some r))
def gAll : List GM → List R → Sl → Option Sl
  | [], [], ς => some ς
  | g :: gs, r :: rs, ς => (g r ς).bind (gAll gs rs)
  | _, _, _ => none
def gT (gs : List GM) : GM := fun r ς => match r with | .d (.tup xs) => gAll gs (xs.map R.d) ς | _ => none
def Same' (js : List Nat) (σ σ' : L2.St) : Prop := σ'.length = σ.length ∧ ∀ j, j ∉ js → σ'[j]? = σ[j]?
theorem Same'.trans {js ks : List Nat} {σ σ' σ'' : L2.St} (h : Same' js σ σ') (k : Same' ks σ' σ'') : Same' (js ++ ks) σ σ'' := ⟨k.1.trans h.1, fun j hj => (k.2 j fun z => hj (List.mem_append_right _ z)).trans (h.2 j fun z => hj (List.mem_append_left _ z))⟩
def tG (c : Cn) (g : GM) (js : List Nat) : TG := fun v σ H Q => ∃ W μ ς r ς', Sim c W μ H ∧ Slots c W ς σ ∧ MR c W r v ∧ g r ς = some ς' ∧ ∀ σ', Slots c W ς' σ' → Same' js σ σ' → Q σ' H
def tGs (c : Cn) (gs : List GM) (js : List Nat) : TGs := fun vs σ H Q => ∃ W μ ς rs ς', Sim c W μ H ∧ Slots c W ς σ ∧ MRs c W rs vs ∧ gAll gs rs ς = some ς' ∧ ∀ σ', Slots c W ς' σ' → Same' js σ σ' → Q σ' H
section
variable {X : Cx} {ts : List (Addr × Str)} {pos : Pos}
theorem pg_w {e : Expr} {t t' : TG} (h : PG X e t) (k : ∀ v σ H Q, t' v σ H Q → t v σ H Q) : PG X e t' := by
  obtain ⟨h⟩ := h
  exact ⟨fun pins s σ H v u Q I r q => h pins s σ H v u Q I r (k v σ H Q q)⟩
theorem pgs_w {e : List Expr} {t t' : TGs} (h : PGs X e t) (k : ∀ v σ H Q, t' v σ H Q → t v σ H Q) : PGs X e t' := by
  obtain ⟨h⟩ := h
  exact ⟨fun pins s σ H v u Q I r q => h pins s σ H v u Q I r (k v σ H Q q)⟩
theorem same_set {i : Nat} {v : Option V} {σ : L2.St} : Same' [i] σ (σ.set i v) := ⟨List.length_set .., fun j hj => List.getElem?_set_ne (fun z => hj (by simp [z]))⟩
theorem mg_name {i : Nat} {x : Str} (hN : X.N.Nodup) (hi : X.N[i]? = some x) (hx : Loc X.env.scope x) (hf : X.fn x = true ∨ X.env.scope.names.lookup x = some .local := by first | exact .inl rfl | exact .inr rfl | assumption) : PG X (.Name x pos) (tG (cn X ts) (gN i) [i]) :=
  pg_w (pg_name hN hi hx hf) fun v σ H Q ⟨W, μ, ς, r, ς', S, L, mv, e, q⟩ => by
    cases e
    exact q _ (L.set mv) same_set
theorem mgs_nil : PGs X [] (tGs (cn X ts) [] []) := pgs_w pgs_nil fun vs σ H Q ⟨W, μ, ς, rs, ς', S, L, M, e, q⟩ => by
  cases rs with
  | nil =>
    cases M
    cases e
    exact ⟨rfl, q σ L ⟨rfl, fun _ _ => rfl⟩⟩
  | cons => cases e
theorem mgs_cons {e : Expr} {es : List Expr} {g : GM} {gs : List GM} {js ks : List Nat} (h1 : PG X e (tG (cn X ts) g js)) (h2 : PGs X es (tGs (cn X ts) gs ks)) (hs : (assignEach (e :: es) X.env).map (·.2) = assign e X.env :: (assignEach es X.env).map (·.2) := by rfl) :
    PGs X (e :: es) (tGs (cn X ts) (g :: gs) (js ++ ks)) := pgs_w (pgs_cons h1 h2 hs) fun vs σ H Q ⟨W, μ, ς, rs, ς', S, L, M, e, q⟩ => by
  cases rs with
  | nil => cases e
  | cons r rs =>
    cases M with
    | cons m M =>
      have e : (g r ς).bind (gAll gs rs) = some ς' := e
      cases hg : g r ς with
      | none => rw [hg] at e; cases e
      | some ς1 =>
        rw [hg] at e
        exact ⟨_, _, rfl, W, μ, ς, r, ς1, S, L, m, hg, fun σ1 L1 s1 => ⟨W, μ, ς1, rs, ς', S, L1, M, e, fun σ2 L2 s2 => q σ2 L2 (s1.trans s2)⟩⟩
theorem mg_tup {es : List Expr} {k n : Nat} {gs : List GM} {js : List Nat} (hc : X.calm = true) (h : PGs X es (tGs (cn X ts) gs js)) (hl : gs.length = n) (hn : (assignEach es X.env).length = n := by rfl) (hst : (assignEach es X.env).findIdx? (·.1) = none := by rfl) :
    PG X (.Tuple es k pos) (tG (cn X ts) (gT gs) js) := pg_w (pg_tup hc h hn hst) fun v σ H Q ⟨W, μ, ς, r, ς', S, L, mv, e, q⟩ => by
  unfold gT at e
  split at e
  · cases mv with
    | tup a b =>
      have gen : ∀ {gs : List GM} {rs : List R} {ς ς' : Sl}, gAll gs rs ς = some ς' → rs.length = gs.length := by
        intro gs
        induction gs with
        | nil =>
          intro rs ς ς' h
          cases rs with
          | nil => rfl
          | cons => cases h
        | cons g gs ih =>
          intro rs ς ς' h
          cases rs with
          | nil => cases h
          | cons r rs =>
            have h : (g r ς).bind (gAll gs rs) = some ς' := h
            cases hg : g r ς with
            | none => rw [hg] at h; cases h
            | some ς1 => rw [hg] at h; rw [List.length_cons, List.length_cons, ih h]
      have := gen e
      rw [List.length_map] at this
      exact ⟨_, _, rfl, sqT_mono S.ex a, by rw [← b.len, this, hl], W, μ, ς, _, ς', S, L, MVs.rs b, e, q⟩
  · cases e
end
/-! ### for -/
def forGo (g : GM) (b : SM) (N : NC) : List R → Sl → Sto → Prop
  | [], ς, μ => N.nx ς μ
  | x :: xs, ς, μ => (g x ς).elim False fun ς' => b { N with nx := forGo g b N xs, ct := forGo g b N xs, bk := N.nx } ς' μ
def sFor (it : IM) (g : GM) (b : SM) : SM := fun N ς μ => it ς μ N.ex fun xs μ1 => forGo g b N xs ς μ1
def whGo (c : EM) (b : SM) (N : NC) : Nat → Sl → Sto → Prop
  | 0, _, _ => False
  | n + 1, ς, μ => c ς μ N.ex (isB fun k μ1 => if k = true then b { N with nx := whGo c b N n, ct := whGo c b N n, bk := N.nx } ς μ1 else N.nx ς μ1)
def sWh (c : EM) (b : SM) : SM := fun N ς μ => ∃ n, whGo c b N n ς μ
section
variable {X : Cx} {ts : List (Addr × Str)} {E : XK} {pos : Pos}
theorem ms_for {tg iter : Expr} {body : List Stmt} {it : IM} {g : GM} {js : List Nat} {b : SM} (hp : PassesOwn (model X.prog X.w) X.A X.env X.xe) (hc : X.calm = true) (hi : PI X tg iter (tI (cn X ts) E it)) (hg : PG X tg (tG (cn X ts) g js)) (hb : PSs X body (tS (cn X ts) E b)) (hs : ∀ x, foldedSetIterable iter X.env x = pure x := by intro _; rfl) :
    PS X (.For tg iter body [] pos) (tS (cn X ts) E (sFor it g b)) := ps_w (ps_for hp hc hi hg hb (hs := hs)) fun σ H D ⟨W, ς, μ, N, S, L, m, G⟩ =>
  ⟨W, ς, μ, N.ex, _, S, L, G.ex, m, fun xs μ1 W1 H1 J h l S1 ok => by
    refine ⟨fun i k σ' H' => ∃ Wi μi ςi, k = xs.length - i ∧ i ≤ xs.length ∧ W1.le Wi ∧ Sim (cn X ts) Wi μi H' ∧ Slots (cn X ts) Wi ςi σ' ∧ forGo g b N (xs.drop i) ςi μi, ⟨xs.length, W1, μ1, ς, rfl, Nat.zero_le _, Wo.le.refl _, S1, L.mono l, h⟩, ?_⟩
    rintro i k σ' H' ⟨Wi, μi, ςi, rfl, hi, li, Si, Li, hf⟩
    by_cases hlt : i < xs.length
    · refine .inr ⟨ok.go i Wi μi H' li.toLe0 Si hlt, fun σ2 H2 => ∃ W2 μ2 ς2, W1.le W2 ∧ Sim (cn X ts) W2 μ2 H2 ∧ Slots (cn X ts) W2 ς2 σ2 ∧ forGo g b N (xs.drop (i + 1)) ς2 μ2, fun σ2 H2 ⟨W2, μ2, ς2, l2, S2, L2, h2⟩ => ⟨_, by omega, W2, μ2, ς2, rfl, hlt, l2, S2, L2, h2⟩, fun x H2 hy => ?_⟩
      obtain ⟨W2, r, l2, S2, hr, mr⟩ := ok.yld i Wi μi H' x H2 li.toLe0 Si hlt hy
      have hd : xs.drop i = r :: xs.drop (i + 1) := by
        rw [List.drop_eq_getElem_cons hlt]
        congr 1
        rw [List.getElem?_eq_getElem hlt] at hr
        exact Option.some.inj hr
      rw [hd] at hf
      have hf : (g r ςi).elim False fun ς' => b { N with nx := forGo g b N (xs.drop (i + 1)), ct := forGo g b N (xs.drop (i + 1)), bk := N.nx } ς' μi := hf
      cases hgr : g r ςi with
      | none => rw [hgr] at hf; exact hf.elim
      | some ς' =>
        rw [hgr] at hf
        refine ⟨W2, μi, ςi, r, ς', S2, Li.mono l2, mr, hgr, fun σ3 L3 _ => ⟨W2, ς', μi, _, S2, L3, hf, ?_⟩⟩
        have l12 := li.trans l2
        have Gm := G.mono (l.trans l12)
        exact ⟨fun ς4 μ4 W4 H4 σ4 h4 l4 S4 L4 => ⟨W4, μ4, ς4, l12.trans l4, S4, L4, h4⟩, Gm.rt, Gm.nx, fun ς4 μ4 W4 H4 σ4 h4 l4 S4 L4 => ⟨W4, μ4, ς4, l12.trans l4, S4, L4, h4⟩, Gm.ex⟩
    · have e : i = xs.length := by omega
      subst e
      rw [List.drop_length] at hf
      exact .inl ⟨ok.stop _ Wi μi H' li.toLe0 Si rfl, G.nx _ _ _ _ _ hf (l.trans li) Si Li⟩⟩
theorem ms_wh {c : Expr} {body : List Stmt} {cm : EM} {b : SM} (hp : PassesOwn (model X.prog X.w) X.A X.env X.xe) (hc : PT X c (tB (cn X ts) E cm)) (hb : PSs X body (tS (cn X ts) E b)) : PS X (.While c body [] pos) (tS (cn X ts) E (sWh cm b)) :=
  ps_w (ps_while hp hc hb) fun σ H D ⟨W, ς, μ, N, S, L, ⟨n, m⟩, G⟩ => by
    refine ⟨fun k σ' H' => ∃ Wi μi ςi, W.le Wi ∧ Sim (cn X ts) Wi μi H' ∧ Slots (cn X ts) Wi ςi σ' ∧ whGo cm b N k ςi μi, ⟨n, W, μ, ς, Wo.le.refl _, S, L, m⟩, ?_⟩
    rintro k σ' H' ⟨Wi, μi, ςi, li, Si, Li, hf⟩
    cases k with
    | zero => exact hf.elim
    | succ k =>
      refine ⟨Wi, ςi, μi, N.ex, _, Si, Li, (G.mono li).ex, hf, fun r μ2 W2 H2 h2 l2 S2 => ?_⟩
      cases r with
      | true =>
        refine ⟨fun σ3 H3 => ∃ W3 μ3 ς3, W.le W3 ∧ Sim (cn X ts) W3 μ3 H3 ∧ Slots (cn X ts) W3 ς3 σ3 ∧ whGo cm b N k ς3 μ3, fun σ3 H3 h3 => ⟨k, Nat.lt_succ_self _, h3⟩, W2, ςi, μ2, _, S2, Li.mono l2, h2, ?_⟩
        have l12 := li.trans l2
        have Gm := G.mono l12
        exact ⟨fun ς4 μ4 W4 H4 σ4 h4 l4 S4 L4 => ⟨W4, μ4, ς4, l12.trans l4, S4, L4, h4⟩, Gm.rt, Gm.nx, fun ς4 μ4 W4 H4 σ4 h4 l4 S4 L4 => ⟨W4, μ4, ς4, l12.trans l4, S4, L4, h4⟩, Gm.ex⟩
      | false => exact G.nx _ _ _ _ _ h2 (li.trans l2) S2 (Li.mono l2)
end
end Eg
/-! the engine: comprehensions -/
namespace Eg
open Evl (Ex)
open PySem PySem.Spec PyProof.Rows L2 Sn LamX
def wp (ς : Sl) : List Nat → Sl
  | [] => ς
  | v :: vs => (wp ς vs).set v none
theorem Slots.unset {c : Cn} {W : Wo} {ς : Sl} {σ : L2.St} {i : Nat} (h : Slots c W ς σ) : Slots c W (ς.set i none) (σ.set i none) := by
  refine ⟨by rw [List.length_set, List.length_set]; exact h.len, fun j r' e => ?_⟩
  by_cases hj : i = j
  · subst hj
    have hi : i < ς.length := by
      have := (List.getElem?_eq_some_iff.mp e).1
      rw [List.length_set] at this
      exact this
    rw [List.getElem?_set_self hi] at e
    cases e
  · rw [List.getElem?_set_ne hj] at e
    rw [List.getElem?_set_ne hj]
    exact h.get j r' e
theorem Slots.wipe {c : Cn} {W : Wo} {ς : Sl} {σ : L2.St} (h : Slots c W ς σ) : ∀ vs : List Nat, Slots c W (wp ς vs) (L2.wipe σ vs)
  | [] => h
  | v :: vs => (h.wipe vs).unset
theorem wipe_at (σ : L2.St) : ∀ (vs : List Nat) (j : Nat), (L2.wipe σ vs)[j]? = if j ∈ vs ∧ j < σ.length then some none else σ[j]?
  | [], j => by simp [L2.wipe]
  | v :: vs, j => by
    unfold L2.wipe
    by_cases hj : v = j
    · subst hj
      by_cases hl : v < σ.length
      · rw [List.getElem?_set_self (by rw [wipe_length]; exact hl), if_pos ⟨List.mem_cons_self, hl⟩]
      · rw [List.getElem?_eq_none (by rw [List.length_set, wipe_length]; omega), if_neg (fun z => hl z.2), List.getElem?_eq_none (by omega)]
    · rw [List.getElem?_set_ne hj, wipe_at σ vs j]
      have : (j ∈ v :: vs ∧ j < σ.length) ↔ (j ∈ vs ∧ j < σ.length) := by
        constructor
        · rintro ⟨h1, h2⟩
          exact ⟨(List.mem_cons.mp h1).resolve_left (fun z => hj z.symm), h2⟩
        · rintro ⟨h1, h2⟩
          exact ⟨List.mem_cons_of_mem _ h1, h2⟩
      by_cases h : j ∈ vs ∧ j < σ.length
      · rw [if_pos h, if_pos (this.mpr h)]
      · rw [if_neg h, if_neg (fun z => h (this.mp z))]
theorem wipe_eq {σ σ' : L2.St} {js vs : List Nat} (h : Same' js (L2.wipe σ vs) σ') (hj : ∀ j ∈ js, j ∈ vs) : L2.wipe σ' vs = L2.wipe σ vs := by
  apply List.ext_getElem?
  intro j
  have hl : σ'.length = σ.length := by rw [h.1, wipe_length]
  rw [wipe_at, wipe_at, hl]
  by_cases hv : j ∈ vs ∧ j < σ.length
  · rw [if_pos hv, if_pos hv]
  · rw [if_neg hv, if_neg hv]
    by_cases hm : j ∈ vs
    · have : ¬ j < σ.length := fun z => hv ⟨hm, z⟩
      rw [List.getElem?_eq_none (by omega), List.getElem?_eq_none (by omega)]
    · rw [h.2 j (fun z => hm (hj j z)), wipe_at, if_neg (fun z => hm z.1)]
theorem upd_self {H : Hp} {a : Addr} {o : HO} (h : H a = some o) : upd H a o = H := by
  funext b
  unfold upd
  split
  · rename_i e; rw [e, h]
  · rfl
abbrev NoX : XC := fun _ _ => False
def lcGo (g : GM) (t e : EM) (ς : Sl) (Q : List R → Sto → Prop) : List R → List R → Sto → Prop
  | [], acc, μ => Q acc μ
  | x :: xs, acc, μ => (g x ς).elim False fun ς' => t ς' μ NoX (isB fun k μ1 => if k = true then e ς' μ1 NoX (fun r μ2 => acc.length < sizeLine ∧ lcGo g t e ς Q xs (acc ++ [r]) μ2) else lcGo g t e ς Q xs acc μ1)
def frzL (Q : RK) : List R → Sto → Prop := fun acc μ => (unD acc).elim False fun ds => Q (.d (.lst ds)) μ
def celL (Q : RK) : List R → Sto → Prop := fun acc μ => Q (.cell μ.cs.length) (μ.new (.lst acc))
def eLC (it : IM) (vs : List Nat) (g : GM) (t e : EM) : EM := fun ς μ E Q => it ς μ E fun xs μ1 => lcGo g t e (wp ς vs) (frzL Q) xs [] μ1
def eLCC (it : IM) (vs : List Nat) (g : GM) (t e : EM) : EM := fun ς μ E Q => it ς μ E fun xs μ1 => lcGo g t e (wp ς vs) (celL Q) xs [] μ1
abbrev eYes : EM := eC (.bl true)
section
variable {c : Cn} {E : XK}
theorem go0 {W : Wo} : GoX c E0 W NoX := fun _ _ _ _ _ _ h => h.elim
theorem zmono {W W' : Wo} {ς : Sl} {σ : L2.St} (l : W.le0 W') (h : Slots c W ς σ) : Slots c W' ς σ := ⟨h.len, fun i r e => let ⟨v, a, b⟩ := h.get i r e; ⟨v, a, MR.mono0 l b⟩⟩
/-- the turns of a list comprehension -/
theorem lc_go {g : GM} {js vs : List Nat} {t e : EM} {ς : Sl} {σ : L2.St} {W : Wo} {μ : Sto} {H : Hp} {J : It} {xs : List R} {D : Addr} {Q : Hp → Prop} {Qc : List R → Sto → Prop} (S : Sim c W μ H) (L : Slots c W ς σ) (ok : ItOk c W J xs) (hj : ∀ j ∈ js, j ∈ vs) (n : H D = none)
    (h : lcGo g t e (wp ς vs) Qc xs [] μ) (q : ∀ W2 μ2 H2 acc accV, W.le0 W2 → W2.Z = upd W.Z D (.lst accV) → Sim c W2 μ2 H2 → MRs c W2 acc accV → Qc acc μ2 → Q H2) :
    ∃ V : Nat → Nat → Hp → Prop, (∃ m, V 0 m (upd H D (.lst []))) ∧ ∀ i m H, V i m H →
      (J.stop i H ∧ Q H) ∨ (J.go i H ∧ ∃ Nx : Hp → Prop, (∀ H', Nx H' → ∃ m', m' < m ∧ V (i + 1) m' H') ∧ ∀ x H', J.yld i H x H' → tG c g js x (L2.wipe σ vs) H' fun σ2 H2 => L2.wipe σ2 vs = L2.wipe σ vs ∧ tB c E0 t σ2 H2 fun b H3 =>
        if b = true then tM c E0 e σ2 H3 fun y H4 => ∃ acc, H4 D = some (.lst acc) ∧ acc.length < sizeLine ∧ Nx (upd H4 D (.lst (acc ++ [y]))) else Nx H3) := by
  have hZ : W.Z D = none := exb S.zx n
  have S1 := S.priv n (o := .lst []) (fun _ z => by cases z)
  refine ⟨fun i m H' => ∃ Wi μi acc accV, m = xs.length - i ∧ i ≤ xs.length ∧ W.le0 Wi ∧ Wi.Z = upd W.Z D (.lst accV) ∧ Sim c Wi μi H' ∧ MRs c Wi acc accV ∧ lcGo g t e (wp ς vs) Qc (xs.drop i) acc μi, ⟨xs.length, _, μ, [], [], rfl, Nat.zero_le _, Wo.zedLe, rfl, S1, .nil, h⟩, ?_⟩
  rintro i m H' ⟨Wi, μi, acc, accV, rfl, hi, li, zi, Si, Mi, hf⟩
  by_cases hlt : i < xs.length
  · refine .inr ⟨ok.go i Wi μi H' li Si hlt, fun H2 => ∃ W2 μ2 acc2 accV2, W.le0 W2 ∧ W2.Z = upd W.Z D (.lst accV2) ∧ Sim c W2 μ2 H2 ∧ MRs c W2 acc2 accV2 ∧ lcGo g t e (wp ς vs) Qc (xs.drop (i + 1)) acc2 μ2, fun H2 ⟨W2, μ2, a2, v2, l2, z2, S2, M2, h2⟩ => ⟨_, by omega, W2, μ2, a2, v2, rfl, hlt, l2, z2, S2, M2, h2⟩, fun x H2 hy => ?_⟩
    obtain ⟨W2, r, l2, S2, hr, mr⟩ := ok.yld i Wi μi H' x H2 li Si hlt hy
    have hd : xs.drop i = r :: xs.drop (i + 1) := by
      rw [List.drop_eq_getElem_cons hlt]
      congr 1
      rw [List.getElem?_eq_getElem hlt] at hr
      exact Option.some.inj hr
    rw [hd] at hf
    have hf : (g r (wp ς vs)).elim False fun ς' => t ς' μi NoX (isB fun k μ1 => if k = true then e ς' μ1 NoX (fun r μ2 => acc.length < sizeLine ∧ lcGo g t e (wp ς vs) Qc (xs.drop (i + 1)) (acc ++ [r]) μ2) else lcGo g t e (wp ς vs) Qc (xs.drop (i + 1)) acc μ1) := hf
    cases hgr : g r (wp ς vs) with
    | none => rw [hgr] at hf; exact hf.elim
    | some ς' =>
      rw [hgr] at hf
      have l02 := li.trans l2.toLe0
      refine ⟨W2, μi, wp ς vs, r, ς', S2, zmono l02 (L.wipe vs), mr, hgr, fun σ3 L3 s3 => ⟨wipe_eq s3 hj, W2, ς', μi, NoX, _, S2, L3, go0, hf, fun k μ3 W3 H3 h3 l3 S3 => ?_⟩⟩
      have z2 : W2.Z = upd W.Z D (.lst accV) := l2.Z.symm.trans zi
      cases k with
      | true =>
        refine ⟨W3, ς', μ3, NoX, _, S3, L3.mono l3, go0, h3, fun y μ4 W4 H4 v h4 l4 S4 mv => ?_⟩
        have z4 : W4.Z = upd W.Z D (.lst accV) := l4.Z.symm.trans (l3.Z.symm.trans z2)
        have M4 := Mi.mono (l2.trans (l3.trans l4))
        have hl : acc.length = accV.length := Paired.length M4
        refine ⟨accV, S4.zat z4, by rw [← hl]; exact h4.1, W4.zed (upd W.Z D (.lst (accV ++ [v]))), μ4, acc ++ [y], accV ++ [v], (l02.trans (l3.trans l4).toLe0).trans Wo.zedLe, rfl, S4.rez z4 trivial (fun _ z => by cases z), MRs.mono0 Wo.zedLe (M4.app (.cons mv .nil)), h4.2⟩
      | false => exact ⟨W3, μ3, acc, accV, l02.trans l3.toLe0, l3.Z.symm.trans z2, S3, Mi.mono (l2.trans l3), h3⟩
  · have e : i = xs.length := by omega
    subst e
    rw [List.drop_length] at hf
    exact .inl ⟨ok.stop _ Wi μi H' li Si rfl, q Wi μi H' acc accV li zi Si Mi hf⟩
theorem frz_fin {W W2 : Wo} {μ : Sto} {H : Hp} {D : Addr} {accV : List V} {acc : List R} {Q : VK} {Qc : RK} (S : Sim c W2 μ H) (l : W.le0 W2) (z : W2.Z = upd W.Z D (.lst accV)) (hn : W.Z D = none) (M : MRs c W2 acc accV) (h : frzL Qc acc μ) (q : GoV c W Q Qc) : Q (.ref D) H := by
  unfold frzL at h
  cases hu : unD acc with
  | none => rw [hu] at h; exact h.elim
  | some ds =>
    rw [hu] at h
    obtain ⟨S3, l3⟩ := S.fin (W0 := W) (o := .lst accV) (o' := .lst accV) z hn trivial (fun _ z => by cases z)
    rw [upd_self (S.zat z)] at S3
    exact q _ _ _ _ _ h ⟨l.trans l3, rfl⟩ S3 (MV.lst (.inl upd_same) ((unD_mv hu M).mono l3.F))
theorem cel_fin {W W2 : Wo} {μ : Sto} {H : Hp} {D : Addr} {accV : List V} {acc : List R} {Q : VK} {Qc : RK} (S : Sim c W2 μ H) (l : W.le0 W2) (z : W2.Z = upd W.Z D (.lst accV)) (hn : W.Z D = none) (M : MRs c W2 acc accV) (h : celL Qc acc μ) (q : GoV c W Q Qc) : Q (.ref D) H := by
  obtain ⟨S3, l3⟩ := S.finC (W0 := W) (o := .lst accV) (o' := .lst accV) (e := .lst acc) z hn trivial (fun _ z => by cases z) ⟨accV, rfl, M⟩
  rw [upd_self (S.zat z)] at S3
  refine q _ _ _ _ _ h ⟨l.trans l3, rfl⟩ S3 ⟨D, ?_, rfl⟩
  show (W2.φ ++ [D])[μ.cs.length]? = some D
  rw [← S.len, List.getElem?_append_right (Nat.le_refl _), Nat.sub_self]
  rfl
end
section
variable {X : Cx} {ts : List (Addr × Str)} {E : XK} {pos : Pos}
theorem mts_nil {E : XK} : PTs X [] (tB (cn X ts) E eYes) := by
  obtain ⟨h⟩ := (pts_nil : PTs X [] tYes)
  exact ⟨fun pins s σ H Q I ⟨W, ς, μ, Ec, Qc, S, L, G, m, q⟩ => h pins s σ H Q I (q true μ W H m (Wo.le.refl _) S)⟩
theorem mts_one {E : XK} {e : Expr} {m : EM} (he : PT X e (tB (cn X ts) E m)) : PTs X [e] (tB (cn X ts) E m) := pts_one he
theorem me_lc {elt tg iter : Expr} {ifs : List Expr} {scope : Scope} {own : List (Str × Nat)} {it : IM} {g : GM} {js : List Nat} {t e : EM} (hc : X.calm = true) (hN : X.N.Nodup) (hi : PI X tg iter (tI (cn X ts) E it)) (ok : BlkOk X.N X.env.scope scope own)
    (hg : ∀ (s : Shared) (H : Hp) (C : Addr) (cl : List (Str × Addr)) (fp : List Addr), PG (X.blk s H scope (compEnvC scope cl C X.env) fp) tg (tG (cn X ts) g js)) (ht : ∀ (s : Shared) (H : Hp) (C : Addr) (cl : List (Str × Addr)) (fp : List Addr), PTs (X.blk s H scope (compEnvC scope cl C X.env) fp) ifs (tB (cn X ts) E0 t))
    (he : ∀ (s : Shared) (H : Hp) (C : Addr) (cl : List (Str × Addr)) (fp : List Addr), PE (X.blk s H scope (compEnvC scope cl C X.env) fp) elt (tM (cn X ts) E0 e)) (hj : ∀ j ∈ js, j ∈ own.map (·.2) := by decide) (hs : ∀ x, foldedSetIterable iter X.env x = pure x := by intro _; rfl) :
    PE X (.ListComp elt [⟨tg, iter, ifs, 0⟩] scope pos) (tM (cn X ts) E (eLC it (own.map (·.2)) g t e)) := pe_w (pe_lc hc hN hi ok hg ht he hs) fun σ H Q ⟨W, ς, μ, Ec, Qc, S, L, G, m, q⟩ =>
  ⟨W, ς, μ, Ec, _, S, L, G, m, fun xs μ1 W1 H1 J h l S1 ok D nD => lc_go S1 (L.mono l) ok hj nD h fun W2 μ2 H2 acc accV l2 z2 S2 M2 h2 => frz_fin S2 l2 z2 (exb S1.zx nD) M2 h2 (q.mono l)⟩
theorem me_lcC {elt tg iter : Expr} {ifs : List Expr} {scope : Scope} {own : List (Str × Nat)} {it : IM} {g : GM} {js : List Nat} {t e : EM} (hc : X.calm = true) (hN : X.N.Nodup) (hi : PI X tg iter (tI (cn X ts) E it)) (ok : BlkOk X.N X.env.scope scope own)
    (hg : ∀ (s : Shared) (H : Hp) (C : Addr) (cl : List (Str × Addr)) (fp : List Addr), PG (X.blk s H scope (compEnvC scope cl C X.env) fp) tg (tG (cn X ts) g js)) (ht : ∀ (s : Shared) (H : Hp) (C : Addr) (cl : List (Str × Addr)) (fp : List Addr), PTs (X.blk s H scope (compEnvC scope cl C X.env) fp) ifs (tB (cn X ts) E0 t))
    (he : ∀ (s : Shared) (H : Hp) (C : Addr) (cl : List (Str × Addr)) (fp : List Addr), PE (X.blk s H scope (compEnvC scope cl C X.env) fp) elt (tM (cn X ts) E0 e)) (hj : ∀ j ∈ js, j ∈ own.map (·.2) := by decide) (hs : ∀ x, foldedSetIterable iter X.env x = pure x := by intro _; rfl) :
    PE X (.ListComp elt [⟨tg, iter, ifs, 0⟩] scope pos) (tM (cn X ts) E (eLCC it (own.map (·.2)) g t e)) := pe_w (pe_lc hc hN hi ok hg ht he hs) fun σ H Q ⟨W, ς, μ, Ec, Qc, S, L, G, m, q⟩ =>
  ⟨W, ς, μ, Ec, _, S, L, G, m, fun xs μ1 W1 H1 J h l S1 ok D nD => lc_go S1 (L.mono l) ok hj nD h fun W2 μ2 H2 acc accV l2 z2 S2 M2 h2 => cel_fin S2 l2 z2 (exb S1.zx nD) M2 h2 (q.mono l)⟩
/-- name = [..] on one line -/
theorem ms_setLC {i : Nat} {y : Str} {py spos : Pos} {elt tg iter : Expr} {ifs : List Expr} {scope : Scope} {own : List (Str × Nat)} {it : IM} {g : GM} {js : List Nat} {t e : EM} (hc : X.calm = true) (hN : X.N.Nodup) (hy : X.N[i]? = some y) (hyl : X.env.scope.names.lookup y = some .local)
    (hsw : swapsWith (.ListComp elt [⟨tg, iter, ifs, 0⟩] scope pos) (some (.Name y py)) spos.line X.env = pure true) (hi : PI X tg iter (tI (cn X ts) E it)) (ok : BlkOk X.N X.env.scope scope own)
    (hg : ∀ (s : Shared) (H : Hp) (C : Addr) (cl : List (Str × Addr)) (fp : List Addr), PG (X.blk s H scope (compEnvC scope cl C X.env) fp) tg (tG (cn X ts) g js)) (ht : ∀ (s : Shared) (H : Hp) (C : Addr) (cl : List (Str × Addr)) (fp : List Addr), PTs (X.blk s H scope (compEnvC scope cl C X.env) fp) ifs (tB (cn X ts) E0 t))
    (he : ∀ (s : Shared) (H : Hp) (C : Addr) (cl : List (Str × Addr)) (fp : List Addr), PE (X.blk s H scope (compEnvC scope cl C X.env) fp) elt (tM (cn X ts) E0 e)) (hj : ∀ j ∈ js, j ∈ own.map (·.2) := by decide) (hs : ∀ x, foldedSetIterable iter X.env x = pure x := by intro _; rfl) :
    PS X (.Assign [.Name y py] (.ListComp elt [⟨tg, iter, ifs, 0⟩] scope pos) spos) (tS (cn X ts) E (sSet i (eLC it (own.map (·.2)) g t e))) := ps_w (ps_setLc hc hN hy hyl hsw hi ok hg ht he hs) fun σ H D ⟨W, ς, μ, N, S, L, m, G⟩ =>
  ⟨W, ς, μ, N.ex, _, S, L, G.ex, m, fun xs μ1 W1 H1 J h l S1 ok D' nD => lc_go S1 (L.mono l) ok hj nD h fun W2 μ2 H2 acc accV l2 z2 S2 M2 h2 => frz_fin (Q := fun x H1 => gName i x σ H1 D.nx) S2 l2 z2 (exb S1.zx nD) M2 h2 fun r μ' W' H' v h3 l3 S3 mv => G.nx _ _ _ _ _ h3 (l.trans l3) S3 ((L.mono (l.trans l3)).set mv)⟩
theorem ms_setLCC {i : Nat} {y : Str} {py spos : Pos} {elt tg iter : Expr} {ifs : List Expr} {scope : Scope} {own : List (Str × Nat)} {it : IM} {g : GM} {js : List Nat} {t e : EM} (hc : X.calm = true) (hN : X.N.Nodup) (hy : X.N[i]? = some y) (hyl : X.env.scope.names.lookup y = some .local)
    (hsw : swapsWith (.ListComp elt [⟨tg, iter, ifs, 0⟩] scope pos) (some (.Name y py)) spos.line X.env = pure true) (hi : PI X tg iter (tI (cn X ts) E it)) (ok : BlkOk X.N X.env.scope scope own)
    (hg : ∀ (s : Shared) (H : Hp) (C : Addr) (cl : List (Str × Addr)) (fp : List Addr), PG (X.blk s H scope (compEnvC scope cl C X.env) fp) tg (tG (cn X ts) g js)) (ht : ∀ (s : Shared) (H : Hp) (C : Addr) (cl : List (Str × Addr)) (fp : List Addr), PTs (X.blk s H scope (compEnvC scope cl C X.env) fp) ifs (tB (cn X ts) E0 t))
    (he : ∀ (s : Shared) (H : Hp) (C : Addr) (cl : List (Str × Addr)) (fp : List Addr), PE (X.blk s H scope (compEnvC scope cl C X.env) fp) elt (tM (cn X ts) E0 e)) (hj : ∀ j ∈ js, j ∈ own.map (·.2) := by decide) (hs : ∀ x, foldedSetIterable iter X.env x = pure x := by intro _; rfl) :
    PS X (.Assign [.Name y py] (.ListComp elt [⟨tg, iter, ifs, 0⟩] scope pos) spos) (tS (cn X ts) E (sSet i (eLCC it (own.map (·.2)) g t e))) := ps_w (ps_setLc hc hN hy hyl hsw hi ok hg ht he hs) fun σ H D ⟨W, ς, μ, N, S, L, m, G⟩ =>
  ⟨W, ς, μ, N.ex, _, S, L, G.ex, m, fun xs μ1 W1 H1 J h l S1 ok D' nD => lc_go S1 (L.mono l) ok hj nD h fun W2 μ2 H2 acc accV l2 z2 S2 M2 h2 => cel_fin (Q := fun x H1 => gName i x σ H1 D.nx) S2 l2 z2 (exb S1.zx nD) M2 h2 fun r μ' W' H' v h3 l3 S3 mv => G.nx _ _ _ _ _ h3 (l.trans l3) S3 ((L.mono (l.trans l3)).set mv)⟩
end
/-! ### dict comprehensions -/
def dcGo (g : GM) (t kx vx : EM) (ς : Sl) (Q : List (Key × R) → Sto → Prop) : List R → List (Key × R) → Sto → Prop
  | [], acc, μ => Q acc μ
  | x :: xs, acc, μ => (g x ς).elim False fun ς' => t ς' μ NoX (isB fun b μ1 => if b = true then kx ς' μ1 NoX (fun rk μ2 => vx ς' μ2 NoX fun rv μ3 => (keyR rk).elim False fun k => acc.length < sizeLine ∧ dcGo g t kx vx ς Q xs (putKD acc k rv) μ3) else dcGo g t kx vx ς Q xs acc μ1)
def frzK (Q : RK) : List (Key × R) → Sto → Prop := fun acc μ => (unK acc).elim False fun ds => Q (.d (.dic ds)) μ
def celK (Q : RK) : List (Key × R) → Sto → Prop := fun acc μ => Q (.cell μ.cs.length) (μ.new (.dic acc))
def eDC (it : IM) (vs : List Nat) (g : GM) (t kx vx : EM) : EM := fun ς μ E Q => it ς μ E fun xs μ1 => dcGo g t kx vx (wp ς vs) (frzK Q) xs [] μ1
def eDCC (it : IM) (vs : List Nat) (g : GM) (t kx vx : EM) : EM := fun ς μ E Q => it ς μ E fun xs μ1 => dcGo g t kx vx (wp ς vs) (celK Q) xs [] μ1
section
variable {c : Cn} {E : XK}
theorem KMR.mono0 {κ : Type} {W W' : Wo} (l : W.le0 W') {kr : List (κ × R)} {kw : List (κ × V)} (h : KMR c W kr kw) : KMR c W' kr kw := ⟨h.1, MRs.mono0 l h.2⟩
theorem dc_go {g : GM} {js vs : List Nat} {t kx vx : EM} {ς : Sl} {σ : L2.St} {W : Wo} {μ : Sto} {H : Hp} {J : It} {xs : List R} {D : Addr} {Q : Hp → Prop} {Qc : List (Key × R) → Sto → Prop} (S : Sim c W μ H) (L : Slots c W ς σ) (ok : ItOk c W J xs) (hj : ∀ j ∈ js, j ∈ vs) (n : H D = none)
    (h : dcGo g t kx vx (wp ς vs) Qc xs [] μ) (q : ∀ W2 μ2 H2 acc accV, W.le0 W2 → W2.Z = upd W.Z D (.dK accV) → Sim c W2 μ2 H2 → KMR c W2 acc accV → Qc acc μ2 → Q H2) :
    ∃ V : Nat → Nat → Hp → Prop, (∃ m, V 0 m (upd H D (.dK []))) ∧ ∀ i m H, V i m H →
      (J.stop i H ∧ Q H) ∨ (J.go i H ∧ ∃ Nx : Hp → Prop, (∀ H', Nx H' → ∃ m', m' < m ∧ V (i + 1) m' H') ∧ ∀ x H', J.yld i H x H' → tG c g js x (L2.wipe σ vs) H' fun σ2 H2 => L2.wipe σ2 vs = L2.wipe σ vs ∧ tB c E0 t σ2 H2 fun b H3 =>
        if b = true then tM c E0 kx σ2 H3 fun y H4 => tM c E0 vx σ2 H4 fun z H5 => ∃ kvs k, y = kV k ∧ H5 D = some (.dK kvs) ∧ kvs.length < sizeLine ∧ Nx (upd H5 D (.dK (putK kvs k z))) else Nx H3) := by
  have hZ : W.Z D = none := exb S.zx n
  have S1 := S.priv n (o := .dK []) (fun _ z => by cases z)
  refine ⟨fun i m H' => ∃ Wi μi acc accV, m = xs.length - i ∧ i ≤ xs.length ∧ W.le0 Wi ∧ Wi.Z = upd W.Z D (.dK accV) ∧ Sim c Wi μi H' ∧ KMR c Wi acc accV ∧ dcGo g t kx vx (wp ς vs) Qc (xs.drop i) acc μi, ⟨xs.length, _, μ, [], [], rfl, Nat.zero_le _, Wo.zedLe, rfl, S1, ⟨rfl, .nil⟩, h⟩, ?_⟩
  rintro i m H' ⟨Wi, μi, acc, accV, rfl, hi, li, zi, Si, Mi, hf⟩
  by_cases hlt : i < xs.length
  · refine .inr ⟨ok.go i Wi μi H' li Si hlt, fun H2 => ∃ W2 μ2 acc2 accV2, W.le0 W2 ∧ W2.Z = upd W.Z D (.dK accV2) ∧ Sim c W2 μ2 H2 ∧ KMR c W2 acc2 accV2 ∧ dcGo g t kx vx (wp ς vs) Qc (xs.drop (i + 1)) acc2 μ2, fun H2 ⟨W2, μ2, a2, v2, l2, z2, S2, M2, h2⟩ => ⟨_, by omega, W2, μ2, a2, v2, rfl, hlt, l2, z2, S2, M2, h2⟩, fun x H2 hy => ?_⟩
    obtain ⟨W2, r, l2, S2, hr, mr⟩ := ok.yld i Wi μi H' x H2 li Si hlt hy
    have hd : xs.drop i = r :: xs.drop (i + 1) := by
      rw [List.drop_eq_getElem_cons hlt]
      congr 1
      rw [List.getElem?_eq_getElem hlt] at hr
      exact Option.some.inj hr
    rw [hd] at hf
    have hf : (g r (wp ς vs)).elim False fun ς' => t ς' μi NoX (isB fun b μ1 => if b = true then kx ς' μ1 NoX (fun rk μ2 => vx ς' μ2 NoX fun rv μ3 => (keyR rk).elim False fun k => acc.length < sizeLine ∧ dcGo g t kx vx (wp ς vs) Qc (xs.drop (i + 1)) (putKD acc k rv) μ3) else dcGo g t kx vx (wp ς vs) Qc (xs.drop (i + 1)) acc μ1) := hf
    cases hgr : g r (wp ς vs) with
    | none => rw [hgr] at hf; exact hf.elim
    | some ς' =>
      rw [hgr] at hf
      have l02 := li.trans l2.toLe0
      refine ⟨W2, μi, wp ς vs, r, ς', S2, zmono l02 (L.wipe vs), mr, hgr, fun σ3 L3 s3 => ⟨wipe_eq s3 hj, W2, ς', μi, NoX, _, S2, L3, go0, hf, fun k μ3 W3 H3 h3 l3 S3 => ?_⟩⟩
      have z2 : W2.Z = upd W.Z D (.dK accV) := l2.Z.symm.trans zi
      cases k with
      | true =>
        refine ⟨W3, ς', μ3, NoX, _, S3, L3.mono l3, go0, h3, fun rk μ4 W4 H4 vk h4 l4 S4 mk => ⟨W4, ς', μ4, NoX, _, S4, L3.mono (l3.trans l4), go0, h4, fun rv μ5 W5 H5 vv h5 l5 S5 mv => ?_⟩⟩
        cases hk : keyR rk with
        | none => rw [hk] at h5; exact h5.elim
        | some key =>
          rw [hk] at h5
          have ek := keyR_mr hk mk
          have z5 : W5.Z = upd W.Z D (.dK accV) := l5.Z.symm.trans (l4.Z.symm.trans (l3.Z.symm.trans z2))
          have ll := l2.trans (l3.trans (l4.trans l5))
          have M5 := Mi.mono0 ll.toLe0
          have hl : accV.length = acc.length := by have := congrArg List.length M5.1; simpa using this
          exact ⟨accV, key, ek, S5.zat z5, by rw [hl]; exact h5.1, W5.zed (upd W.Z D (.dK (putK accV key vv))), μ5, putKD acc key rv, putK accV key vv, (li.trans ll.toLe0).trans Wo.zedLe, rfl, S5.rez z5 trivial (fun _ z => by cases z), KMR.mono0 Wo.zedLe (M5.put mv), h5.2⟩
      | false => exact ⟨W3, μ3, acc, accV, l02.trans l3.toLe0, l3.Z.symm.trans z2, S3, Mi.mono0 (l2.trans l3).toLe0, h3⟩
  · have e : i = xs.length := by omega
    subst e
    rw [List.drop_length] at hf
    exact .inl ⟨ok.stop _ Wi μi H' li Si rfl, q Wi μi H' acc accV li zi Si Mi hf⟩
theorem frzK_fin {W W2 : Wo} {μ : Sto} {H : Hp} {D : Addr} {accV : List (Key × V)} {acc : List (Key × R)} {Q : VK} {Qc : RK} (S : Sim c W2 μ H) (l : W.le0 W2) (z : W2.Z = upd W.Z D (.dK accV)) (hn : W.Z D = none) (M : KMR c W2 acc accV) (h : frzK Qc acc μ) (q : GoV c W Q Qc) (od : Obj) : Q (.ref D) (upd H D (.frz od (.dK accV))) := by
  unfold frzK at h
  cases hu : unK acc with
  | none => rw [hu] at h; exact h.elim
  | some ds =>
    rw [hu] at h
    obtain ⟨S3, l3⟩ := S.fin (W0 := W) (o := .dK accV) (o' := .frz od (.dK accV)) z hn trivial (fun _ z => by cases z)
    obtain ⟨k1, k2⟩ := unK_eq hu
    exact q _ _ _ _ _ h ⟨l.trans l3, rfl⟩ S3 (MV.dic upd_same (M.1.trans k1) ((unD_mv k2 M.2).mono l3.F))
theorem celK_fin {W W2 : Wo} {μ : Sto} {H : Hp} {D : Addr} {accV : List (Key × V)} {acc : List (Key × R)} {Q : VK} {Qc : RK} (S : Sim c W2 μ H) (l : W.le0 W2) (z : W2.Z = upd W.Z D (.dK accV)) (hn : W.Z D = none) (M : KMR c W2 acc accV) (h : celK Qc acc μ) (q : GoV c W Q Qc) : Q (.ref D) H := by
  obtain ⟨S3, l3⟩ := S.finC (W0 := W) (o := .dK accV) (o' := .dK accV) (e := .dic acc) z hn trivial (fun _ z => by cases z) ⟨accV, rfl, M.1, M.2⟩
  rw [upd_self (S.zat z)] at S3
  refine q _ _ _ _ _ h ⟨l.trans l3, rfl⟩ S3 ⟨D, ?_, rfl⟩
  show (W2.φ ++ [D])[μ.cs.length]? = some D
  rw [← S.len, List.getElem?_append_right (Nat.le_refl _), Nat.sub_self]
  rfl
end
section
variable {X : Cx} {ts : List (Addr × Str)} {E : XK} {pos : Pos}
theorem me_dc {kx vx tg iter : Expr} {ifs : List Expr} {scope : Scope} {own : List (Str × Nat)} {it : IM} {g : GM} {js : List Nat} {t k v : EM} (hc : X.calm = true) (hN : X.N.Nodup) (hi : PI X tg iter (tI (cn X ts) E it)) (ok : BlkOk X.N X.env.scope scope own)
    (hg : ∀ (s : Shared) (H : Hp) (C : Addr) (cl : List (Str × Addr)) (fp : List Addr), PG (X.blk s H scope (compEnvC scope cl C X.env) fp) tg (tG (cn X ts) g js)) (ht : ∀ (s : Shared) (H : Hp) (C : Addr) (cl : List (Str × Addr)) (fp : List Addr), PTs (X.blk s H scope (compEnvC scope cl C X.env) fp) ifs (tB (cn X ts) E0 t))
    (hk : ∀ (s : Shared) (H : Hp) (C : Addr) (cl : List (Str × Addr)) (fp : List Addr), PE (X.blk s H scope (compEnvC scope cl C X.env) fp) kx (tM (cn X ts) E0 k)) (hv : ∀ (s : Shared) (H : Hp) (C : Addr) (cl : List (Str × Addr)) (fp : List Addr), PE (X.blk s H scope (compEnvC scope cl C X.env) fp) vx (tM (cn X ts) E0 v))
    (hj : ∀ j ∈ js, j ∈ own.map (·.2) := by decide) (hs : ∀ x, foldedSetIterable iter X.env x = pure x := by intro _; rfl) :
    PE X (.DictComp kx vx [⟨tg, iter, ifs, 0⟩] scope pos) (tM (cn X ts) E (eDC it (own.map (·.2)) g t k v)) := pe_w (pe_lk (pe_dc hc hN hi ok hg ht hk hv hs)) fun σ H Q ⟨W, ς, μ, Ec, Qc, S, L, G, m, q⟩ =>
  ⟨W, ς, μ, Ec, _, S, L, G, m, fun xs μ1 W1 H1 J h l S1 ok D nD => dc_go S1 (L.mono l) ok hj nD h fun W2 μ2 H2 acc accV l2 z2 S2 M2 h2 => ⟨D, accV, rfl, S2.zat z2, fun od => frzK_fin S2 l2 z2 (exb S1.zx nD) M2 h2 (q.mono l) od⟩⟩
theorem me_dcC {kx vx tg iter : Expr} {ifs : List Expr} {scope : Scope} {own : List (Str × Nat)} {it : IM} {g : GM} {js : List Nat} {t k v : EM} (hc : X.calm = true) (hN : X.N.Nodup) (hi : PI X tg iter (tI (cn X ts) E it)) (ok : BlkOk X.N X.env.scope scope own)
    (hg : ∀ (s : Shared) (H : Hp) (C : Addr) (cl : List (Str × Addr)) (fp : List Addr), PG (X.blk s H scope (compEnvC scope cl C X.env) fp) tg (tG (cn X ts) g js)) (ht : ∀ (s : Shared) (H : Hp) (C : Addr) (cl : List (Str × Addr)) (fp : List Addr), PTs (X.blk s H scope (compEnvC scope cl C X.env) fp) ifs (tB (cn X ts) E0 t))
    (hk : ∀ (s : Shared) (H : Hp) (C : Addr) (cl : List (Str × Addr)) (fp : List Addr), PE (X.blk s H scope (compEnvC scope cl C X.env) fp) kx (tM (cn X ts) E0 k)) (hv : ∀ (s : Shared) (H : Hp) (C : Addr) (cl : List (Str × Addr)) (fp : List Addr), PE (X.blk s H scope (compEnvC scope cl C X.env) fp) vx (tM (cn X ts) E0 v))
    (hj : ∀ j ∈ js, j ∈ own.map (·.2) := by decide) (hs : ∀ x, foldedSetIterable iter X.env x = pure x := by intro _; rfl) :
    PE X (.DictComp kx vx [⟨tg, iter, ifs, 0⟩] scope pos) (tM (cn X ts) E (eDCC it (own.map (·.2)) g t k v)) := pe_w (pe_dc hc hN hi ok hg ht hk hv hs) fun σ H Q ⟨W, ς, μ, Ec, Qc, S, L, G, m, q⟩ =>
  ⟨W, ς, μ, Ec, _, S, L, G, m, fun xs μ1 W1 H1 J h l S1 ok D nD => dc_go S1 (L.mono l) ok hj nD h fun W2 μ2 H2 acc accV l2 z2 S2 M2 h2 => celK_fin S2 l2 z2 (exb S1.zx nD) M2 h2 (q.mono l)⟩
end
end Eg
/-! the engine: comprehensions with two walks; enumerate, zip -/
namespace Eg
open Evl (Ex)
open PySem PySem.Spec PyProof.Rows L2 Sn LamX
section
variable {c : Cn} {E : XK}
/-- the turns of an inner walk -/
theorem lc_core {g : GM} {js vs : List Nat} {t e : EM} {ς : Sl} {σ : L2.St} {W0 W : Wo} {μ : Sto} {H : Hp} {J : It} {xs : List R} {D : Addr} {acc0 : List R} {accV0 : List V} {Q : Hp → Prop} {Qc : List R → Sto → Prop} (S : Sim c W μ H) (zz : W.Z = upd W0.Z D (.lst accV0)) (M0 : MRs c W acc0 accV0) (L : Slots c W ς σ) (ok : ItOk c W J xs) (hj : ∀ j ∈ js, j ∈ vs)
    (h : lcGo g t e (wp ς vs) Qc xs acc0 μ) (q : ∀ W2 μ2 H2 acc accV, W.le0 W2 → W2.Z = upd W0.Z D (.lst accV) → Sim c W2 μ2 H2 → MRs c W2 acc accV → Qc acc μ2 → Q H2) :
    ∃ V : Nat → Nat → Hp → Prop, (∃ m, V 0 m H) ∧ ∀ i m H, V i m H →
      (J.stop i H ∧ Q H) ∨ (J.go i H ∧ ∃ Nx : Hp → Prop, (∀ H', Nx H' → ∃ m', m' < m ∧ V (i + 1) m' H') ∧ ∀ x H', J.yld i H x H' → tG c g js x (L2.wipe σ vs) H' fun σ2 H2 => L2.wipe σ2 vs = L2.wipe σ vs ∧ tB c E0 t σ2 H2 fun b H3 =>
        if b = true then tM c E0 e σ2 H3 fun y H4 => ∃ acc, H4 D = some (.lst acc) ∧ acc.length < sizeLine ∧ Nx (upd H4 D (.lst (acc ++ [y]))) else Nx H3) := by
  refine ⟨fun i m H' => ∃ Wi μi acc accV, m = xs.length - i ∧ i ≤ xs.length ∧ W.le0 Wi ∧ Wi.Z = upd W0.Z D (.lst accV) ∧ Sim c Wi μi H' ∧ MRs c Wi acc accV ∧ lcGo g t e (wp ς vs) Qc (xs.drop i) acc μi, ⟨xs.length, W, μ, acc0, accV0, rfl, Nat.zero_le _, Wo.le0.refl _, zz, S, M0, h⟩, ?_⟩
  rintro i m H' ⟨Wi, μi, acc, accV, rfl, hi, li, zi, Si, Mi, hf⟩
  by_cases hlt : i < xs.length
  · refine .inr ⟨ok.go i Wi μi H' li Si hlt, fun H2 => ∃ W2 μ2 acc2 accV2, W.le0 W2 ∧ W2.Z = upd W0.Z D (.lst accV2) ∧ Sim c W2 μ2 H2 ∧ MRs c W2 acc2 accV2 ∧ lcGo g t e (wp ς vs) Qc (xs.drop (i + 1)) acc2 μ2, fun H2 ⟨W2, μ2, a2, v2, l2, z2, S2, M2, h2⟩ => ⟨_, by omega, W2, μ2, a2, v2, rfl, hlt, l2, z2, S2, M2, h2⟩, fun x H2 hy => ?_⟩
    obtain ⟨W2, r, l2, S2, hr, mr⟩ := ok.yld i Wi μi H' x H2 li Si hlt hy
    have hd : xs.drop i = r :: xs.drop (i + 1) := by
      rw [List.drop_eq_getElem_cons hlt]
      congr 1
      rw [List.getElem?_eq_getElem hlt] at hr
      exact Option.some.inj hr
    rw [hd] at hf
    have hf : (g r (wp ς vs)).elim False fun ς' => t ς' μi NoX (isB fun k μ1 => if k = true then e ς' μ1 NoX (fun r μ2 => acc.length < sizeLine ∧ lcGo g t e (wp ς vs) Qc (xs.drop (i + 1)) (acc ++ [r]) μ2) else lcGo g t e (wp ς vs) Qc (xs.drop (i + 1)) acc μ1) := hf
    cases hgr : g r (wp ς vs) with
    | none => rw [hgr] at hf; exact hf.elim
    | some ς' =>
      rw [hgr] at hf
      have l02 := li.trans l2.toLe0
      refine ⟨W2, μi, wp ς vs, r, ς', S2, zmono l02 (L.wipe vs), mr, hgr, fun σ3 L3 s3 => ⟨wipe_eq s3 hj, W2, ς', μi, NoX, _, S2, L3, go0, hf, fun k μ3 W3 H3 h3 l3 S3 => ?_⟩⟩
      have z2 : W2.Z = upd W0.Z D (.lst accV) := l2.Z.symm.trans zi
      cases k with
      | true =>
        refine ⟨W3, ς', μ3, NoX, _, S3, L3.mono l3, go0, h3, fun y μ4 W4 H4 v h4 l4 S4 mv => ?_⟩
        have z4 : W4.Z = upd W0.Z D (.lst accV) := l4.Z.symm.trans (l3.Z.symm.trans z2)
        have M4 := Mi.mono (l2.trans (l3.trans l4))
        have hl : acc.length = accV.length := Paired.length M4
        refine ⟨accV, S4.zat z4, by rw [← hl]; exact h4.1, W4.zed (upd W0.Z D (.lst (accV ++ [v]))), μ4, acc ++ [y], accV ++ [v], (l02.trans (l3.trans l4).toLe0).trans Wo.zedLe, rfl, S4.rez z4 trivial (fun _ z => by cases z), MRs.mono0 Wo.zedLe (M4.app (.cons mv .nil)), h4.2⟩
      | false => exact ⟨W3, μ3, acc, accV, l02.trans l3.toLe0, l3.Z.symm.trans z2, S3, Mi.mono (l2.trans l3), h3⟩
  · have e : i = xs.length := by omega
    subst e
    rw [List.drop_length] at hf
    exact .inl ⟨ok.stop _ Wi μi H' li Si rfl, q Wi μi H' acc accV li zi Si Mi hf⟩
end
def lc2Go (g : GM) (t : EM) (it1 : IM) (vs1 : List Nat) (g1 : GM) (t1 e : EM) (ς : Sl) (Q : List R → Sto → Prop) : List R → List R → Sto → Prop
  | [], acc, μ => Q acc μ
  | x :: xs, acc, μ => (g x ς).elim False fun ς' => t ς' μ NoX (isB fun k μ1 => if k = true then it1 ς' μ1 NoX (fun ys μ2 => lcGo g1 t1 e (wp ς' vs1) (fun acc' μ3 => lc2Go g t it1 vs1 g1 t1 e ς Q xs acc' μ3) ys acc μ2) else lc2Go g t it1 vs1 g1 t1 e ς Q xs acc μ1)
def eLC2 (it : IM) (vs : List Nat) (g : GM) (t : EM) (it1 : IM) (vs1 : List Nat) (g1 : GM) (t1 e : EM) : EM := fun ς μ E Q => it ς μ E fun xs μ1 => lc2Go g t it1 vs1 g1 t1 e (wp ς vs) (frzL Q) xs [] μ1
section
variable {X : Cx} {ts : List (Addr × Str)} {E : XK} {pos : Pos}
theorem me_lc2 {elt tg iter tg1 iter1 : Expr} {ifs ifs1 : List Expr} {scope : Scope} {own : List (Str × Nat)} {vs1 : List Nat} {it it1 : IM} {g g1 : GM} {js js1 : List Nat} {t t1 e : EM} (hc : X.calm = true) (hN : X.N.Nodup) (hi : PI X tg iter (tI (cn X ts) E it)) (ok : BlkOk X.N X.env.scope scope own) (hv : ∀ i ∈ vs1, i ∈ own.map (·.2))
    (hg : ∀ (s : Shared) (H : Hp) (C : Addr) (cl : List (Str × Addr)) (fp : List Addr), PG (X.blk s H scope (compEnvC scope cl C X.env) fp) tg (tG (cn X ts) g js)) (ht : ∀ (s : Shared) (H : Hp) (C : Addr) (cl : List (Str × Addr)) (fp : List Addr), PTs (X.blk s H scope (compEnvC scope cl C X.env) fp) ifs (tB (cn X ts) E0 t))
    (hi1 : ∀ (s : Shared) (H : Hp) (C : Addr) (cl : List (Str × Addr)) (fp : List Addr), PI (X.blk s H scope (compEnvC scope cl C X.env) fp) tg1 iter1 (tI (cn X ts) E0 it1))
    (hg1 : ∀ (s : Shared) (H : Hp) (C : Addr) (cl : List (Str × Addr)) (fp : List Addr), PG (X.blk s H scope (compEnvC scope cl C X.env) fp) tg1 (tG (cn X ts) g1 js1)) (ht1 : ∀ (s : Shared) (H : Hp) (C : Addr) (cl : List (Str × Addr)) (fp : List Addr), PTs (X.blk s H scope (compEnvC scope cl C X.env) fp) ifs1 (tB (cn X ts) E0 t1))
    (he : ∀ (s : Shared) (H : Hp) (C : Addr) (cl : List (Str × Addr)) (fp : List Addr), PE (X.blk s H scope (compEnvC scope cl C X.env) fp) elt (tM (cn X ts) E0 e)) (hj : ∀ j ∈ js, j ∈ own.map (·.2) := by decide) (hj1 : ∀ j ∈ js1, j ∈ vs1 := by decide)
    (hs : ∀ x, foldedSetIterable iter X.env x = pure x := by intro _; rfl) (hs1 : ∀ env x, foldedSetIterable iter1 env x = pure x := by intro _ _; rfl) :
    PE X (.ListComp elt [⟨tg, iter, ifs, 0⟩, ⟨tg1, iter1, ifs1, 0⟩] scope pos) (tM (cn X ts) E (eLC2 it (own.map (·.2)) g t it1 vs1 g1 t1 e)) := pe_w (pe_lc2 hc hN hi ok hv hg ht hi1 hg1 ht1 he hs hs1) fun σ H Q ⟨W, ς, μ, Ec, Qc, S, L, G, m, q⟩ =>
  ⟨W, ς, μ, Ec, _, S, L, G, m, fun xs μ1 W1 H1 J h l S1 ok D nD => by
    have hZ : W1.Z D = none := exb S1.zx nD
    have S2 := S1.priv nD (o := .lst []) (fun _ z => by cases z)
    generalize hvs : own.map (·.2) = vs at *
    refine ⟨fun i m H' => ∃ Wi μi acc accV, m = xs.length - i ∧ i ≤ xs.length ∧ W1.le0 Wi ∧ Wi.Z = upd W1.Z D (.lst accV) ∧ Sim (cn X ts) Wi μi H' ∧ MRs (cn X ts) Wi acc accV ∧ lc2Go g t it1 vs1 g1 t1 e (wp ς vs) (frzL Qc) (xs.drop i) acc μi, ⟨xs.length, _, μ1, [], [], rfl, Nat.zero_le _, Wo.zedLe, rfl, S2, .nil, h⟩, ?_⟩
    rintro i m H' ⟨Wi, μi, acc, accV, rfl, hi, li, zi, Si, Mi, hf⟩
    by_cases hlt : i < xs.length
    · refine .inr ⟨ok.go i Wi μi H' li Si hlt, fun H2 => ∃ W2 μ2 acc2 accV2, W1.le0 W2 ∧ W2.Z = upd W1.Z D (.lst accV2) ∧ Sim (cn X ts) W2 μ2 H2 ∧ MRs (cn X ts) W2 acc2 accV2 ∧ lc2Go g t it1 vs1 g1 t1 e (wp ς vs) (frzL Qc) (xs.drop (i + 1)) acc2 μ2, fun H2 ⟨W2, μ2, a2, v2, l2, z2, S2, M2, h2⟩ => ⟨_, by omega, W2, μ2, a2, v2, rfl, hlt, l2, z2, S2, M2, h2⟩, fun x H2 hy => ?_⟩
      obtain ⟨W2, r, l2, S2, hr, mr⟩ := ok.yld i Wi μi H' x H2 li Si hlt hy
      have hd : xs.drop i = r :: xs.drop (i + 1) := by
        rw [List.drop_eq_getElem_cons hlt]
        congr 1
        rw [List.getElem?_eq_getElem hlt] at hr
        exact Option.some.inj hr
      rw [hd] at hf
      have hf : (g r (wp ς vs)).elim False fun ς' => t ς' μi NoX (isB fun k μ1 => if k = true then it1 ς' μ1 NoX (fun ys μ2 => lcGo g1 t1 e (wp ς' vs1) (fun acc' μ3 => lc2Go g t it1 vs1 g1 t1 e (wp ς vs) (frzL Qc) (xs.drop (i + 1)) acc' μ3) ys acc μ2) else lc2Go g t it1 vs1 g1 t1 e (wp ς vs) (frzL Qc) (xs.drop (i + 1)) acc μ1) := hf
      cases hgr : g r (wp ς vs) with
      | none => rw [hgr] at hf; exact hf.elim
      | some ς' =>
        rw [hgr] at hf
        have l02 := li.trans l2.toLe0
        refine ⟨W2, μi, wp ς vs, r, ς', S2, zmono l02 ((L.mono l).wipe vs), mr, hgr, fun σ3 L3 s3 => ⟨wipe_eq s3 hj, W2, ς', μi, NoX, _, S2, L3, go0, hf, fun k μ3 W3 H3 h3 l3 S3 => ?_⟩⟩
        have z2 : W2.Z = upd W1.Z D (.lst accV) := l2.Z.symm.trans zi
        cases k with
        | true =>
          refine ⟨W3, ς', μ3, NoX, _, S3, L3.mono l3, go0, h3, fun ys μ4 W4 H4 J1 h4 l4 S4 ok1 => ?_⟩
          exact lc_core (W0 := W1) S4 (l4.Z.symm.trans (l3.Z.symm.trans z2)) (Mi.mono (l2.trans (l3.trans l4))) (L3.mono (l3.trans l4)) ok1 hj1 h4 fun W5 μ5 H5 acc5 accV5 l5 z5 S5 M5 h5 => ⟨W5, μ5, acc5, accV5, (l02.trans (l3.trans l4).toLe0).trans l5, z5, S5, M5, h5⟩
        | false => exact ⟨W3, μ3, acc, accV, l02.trans l3.toLe0, l3.Z.symm.trans z2, S3, Mi.mono (l2.trans l3), h3⟩
    · have e : i = xs.length := by omega
      subst e
      rw [List.drop_length] at hf
      exact .inl ⟨ok.stop _ Wi μi H' li Si rfl, frz_fin Si li zi hZ Mi hf (q.mono l)⟩⟩
end
/-! ### y = {..} on one line -/
section
variable {X : Cx} {ts : List (Addr × Str)} {E : XK} {pos : Pos}
def sLk (t : TS) : TS := fun D σ H => t { D with nx := fun σ' H' => ∃ p kw, H' p = some (.dK kw) ∧ ∀ od, D.nx σ' (upd H' p (.frz od (.dK kw))) } σ H
theorem ps_lk {st : Stmt} {t : TS} (h : PS X st t) : PS X st (sLk t) := ⟨fun pins s σ H D I q => thn (h.run pins s σ H _ I q) fun f s1 z => by
  cases f with
  | next =>
    obtain ⟨σ', H', J, p, kw, hp, q⟩ := z
    obtain ⟨od, J2⟩ := J.lock hp True.intro
    exact ⟨σ', _, J2, q od⟩
  | brk => exact z
  | cont => exact z
  | ret u => exact z⟩
theorem ms_setDC {i : Nat} {y : Str} {py spos : Pos} {kx vx tg iter : Expr} {ifs : List Expr} {scope : Scope} {own : List (Str × Nat)} {it : IM} {g : GM} {js : List Nat} {t k v : EM} (hc : X.calm = true) (hN : X.N.Nodup) (hy : X.N[i]? = some y) (hyl : X.env.scope.names.lookup y = some .local)
    (hsw : swapsWith (.DictComp kx vx [⟨tg, iter, ifs, 0⟩] scope pos) (some (.Name y py)) spos.line X.env = pure true) (hi : PI X tg iter (tI (cn X ts) E it)) (ok : BlkOk X.N X.env.scope scope own)
    (hg : ∀ (s : Shared) (H : Hp) (C : Addr) (cl : List (Str × Addr)) (fp : List Addr), PG (X.blk s H scope (compEnvC scope cl C X.env) fp) tg (tG (cn X ts) g js)) (ht : ∀ (s : Shared) (H : Hp) (C : Addr) (cl : List (Str × Addr)) (fp : List Addr), PTs (X.blk s H scope (compEnvC scope cl C X.env) fp) ifs (tB (cn X ts) E0 t))
    (hk : ∀ (s : Shared) (H : Hp) (C : Addr) (cl : List (Str × Addr)) (fp : List Addr), PE (X.blk s H scope (compEnvC scope cl C X.env) fp) kx (tM (cn X ts) E0 k)) (hv : ∀ (s : Shared) (H : Hp) (C : Addr) (cl : List (Str × Addr)) (fp : List Addr), PE (X.blk s H scope (compEnvC scope cl C X.env) fp) vx (tM (cn X ts) E0 v))
    (hj : ∀ j ∈ js, j ∈ own.map (·.2) := by decide) (hs : ∀ x, foldedSetIterable iter X.env x = pure x := by intro _; rfl) :
    PS X (.Assign [.Name y py] (.DictComp kx vx [⟨tg, iter, ifs, 0⟩] scope pos) spos) (tS (cn X ts) E (sSet i (eDC it (own.map (·.2)) g t k v))) := ps_w (ps_lk (ps_setDc hc hN hy hyl hsw hi ok hg ht hk hv hs)) fun σ H D ⟨W, ς, μ, N, S, L, m, G⟩ =>
  ⟨W, ς, μ, N.ex, _, S, L, G.ex, m, fun xs μ1 W1 H1 J h l S1 ok D' nD => dc_go S1 (L.mono l) ok hj nD h fun W2 μ2 H2 acc accV l2 z2 S2 M2 h2 => ⟨D', accV, S2.zat z2, fun od => frzK_fin (Q := fun x H1 => gName i x σ H1 D.nx) S2 l2 z2 (exb S1.zx nD) M2 h2 (fun r μ' W' H' v h3 l3 S3 mv => G.nx _ _ _ _ _ h3 (l.trans l3) S3 ((L.mono (l.trans l3)).set mv)) od⟩⟩
end
/-! ### enumerate, zip -/
def iEnu (e : EM) : IM := fun ς μ E Q => e ς μ E fun r μ1 => match r with
  | .d (.tup xs) => Q (xs.zipIdx.map fun x => .d (.tup [.int (x.2 : Nat), x.1])) μ1
  | .d (.lst xs) => Q (xs.zipIdx.map fun x => .d (.tup [.int (x.2 : Nat), x.1])) μ1
  | _ => False
end Eg
/-! the engine: cells changed, frozen; isinstance -/
namespace Eg
open Evl (Ex)
open PySem PySem.Spec PyProof.Rows L2 Sn LamX
/-! ### freezing a name's cell ahead of a statement -/
def sFz (i : Nat) (m : SM) : SM := fun N ς μ => match ς[i]? with
  | some (some (.cell n)) => (vw μ (.cell n)).elim False fun x => m N (ς.set i (some (.d x))) (μ.put n .dead)
  | _ => False
section
variable {c : Cn} {W : Wo} {μ : Sto} {H : Hp}
theorem Slots.re {ς : Sl} {σ : L2.St} {i : Nat} {r : R} {v : V} (L : Slots c W ς σ) (h : σ[i]? = some (some v)) (m : MR c W r v) : Slots c W (ς.set i (some r)) σ := by
  have := L.set (i := i) m
  have e : σ.set i (some v) = σ := by
    apply List.ext_getElem?
    intro j
    by_cases hj : i = j
    · subst hj
      rw [List.getElem?_set_self (List.getElem?_eq_some_iff.mp h).1, h]
    · rw [List.getElem?_set_ne hj]
  rw [e] at this
  exact this
/-- a cell dies, its thing is frozen -/
theorem Sim.freeze (S : Sim c W μ H) {n : Nat} {a : Addr} {e0 : Ce} {o : HO} (h1 : W.φ[n]? = some a) (h2 : μ.cs[n]? = some e0) (h3 : e0.live = true) (ho : Plain o) : Sim c (W.add a o) (μ.put n .dead) (upd H a o) ∧ W.le (W.add a o) := by
  have S1 : Sim c W (μ.put n .dead) (upd H a o) := S.setC h1 h2 h3 ho ⟨o, rfl⟩
  have hn : n < μ.cs.length := (List.getElem?_eq_some_iff.mp h2).1
  refine S1.adopt upd_same (S.out n a e0 h1 h2 h3) (fun k e k1 k2 => ?_) ho.tbl (fun sa la ca z => ?_) ?_
  · have : k = n := (List.getElem?_inj (List.getElem?_eq_some_iff.mp k1).1 S.nd).mp (by rw [k1, h1])
    subst this
    have k2 : (μ.cs.set k .dead)[k]? = some e := k2
    rw [List.getElem?_set_self hn] at k2
    cases k2
    rfl
  · have := S.src
    unfold SrcOk at this
    rw [z] at this
    obtain ⟨_, _, _, _, g1, g2, g3⟩ := this
    have hm := List.mem_of_getElem? h1
    exact ⟨fun y => g1 (by rw [← y]; exact hm), fun y => g2 (by rw [← y]; exact hm), fun y => g3 (by rw [← y]; exact hm)⟩
  · cases hz : W.Z a with
    | none => rfl
    | some u => exact absurd (List.mem_of_getElem? h1) (S.zd a u hz).2.1
end
section
variable {X : Cx} {ts : List (Addr × Str)} {E : XK} {pos : Pos}
theorem ms_fz {st : Stmt} {m : SM} (i : Nat) (h : PS X st (tS (cn X ts) E m)) : PS X st (tS (cn X ts) E (sFz i m)) := ⟨fun pins s σ H D I ⟨W, ς, μ, N, S, L, hm, G⟩ => by
  unfold sFz at hm
  split at hm
  · rename_i n hi
    obtain ⟨v, g1, a, g2, rfl⟩ := L.get i _ hi
    cases hv : vw μ (.cell n) with
    | none => rw [hv] at hm; exact hm.elim
    | some x =>
      rw [hv] at hm
      have fin : ∀ {o : HO} {e0 : Ce} {s : Shared}, Inv X pins σ (upd H a o) s → μ.cs[n]? = some e0 → e0.live = true → Plain o → MV (cn X ts) (upd W.F a o) x (.ref a) → wpAny (model X.prog X.w) X.A (exec st X.env) (SP X pins D) X.xe s := fun {o e0 s} J h2 h3 ho mv => by
        obtain ⟨S2, l2⟩ := S.freeze g2 h2 h3 ho
        exact h.run pins s σ _ D J ⟨_, _, _, N, S2, (L.mono l2).re g1 (show MR (cn X ts) (W.add a o) (.d x) (.ref a) from mv), hm, G.mono l2⟩
      unfold vw at hv
      simp only at hv
      split at hv
      · rename_i rs e
        obtain ⟨vs, k1, k2⟩ := S.cel n a _ g2 e
        cases hu : unD rs with
        | none => rw [hu] at hv; cases hv
        | some xs =>
          rw [hu] at hv
          cases hv
          refine fin (o := .lst vs) (by rw [upd_self k1]; exact I) e rfl trivial (.lst (.inl upd_same) ((unD_mv hu k2).mono (exn (S.out n a _ g2 e rfl))))
      · rename_i kr e
        obtain ⟨kw, k1, k2, k3⟩ := S.cel n a _ g2 e
        cases hu : unK kr with
        | none => rw [hu] at hv; cases hv
        | some ks =>
          rw [hu] at hv
          cases hv
          obtain ⟨i1, i2⟩ := unK_eq hu
          obtain ⟨od, J⟩ := I.lock k1 True.intro
          exact fin J e rfl trivial (.dic upd_same (k2.trans i1) ((unD_mv i2 k3).mono (exn (S.out n a _ g2 e rfl))))
      · rename_i kr e
        obtain ⟨kw, k1, k2, k3⟩ := S.cel n a _ g2 e
        cases hu : unK kr with
        | none => rw [hu] at hv; cases hv
        | some ks =>
          rw [hu] at hv
          cases hv
          obtain ⟨i1, i2⟩ := unK_eq hu
          obtain ⟨od, J⟩ := I.lock k1 True.intro
          exact fin J e rfl trivial (.dit upd_same (k2.trans i1) ((unD_mv i2 k3).mono (exn (S.out n a _ g2 e rfl))))
      · rename_i C fr e
        obtain ⟨dx, vf, k1, k2, k3⟩ := S.cel n a _ g2 e
        cases hu : unF fr with
        | none => rw [hu] at hv; cases hv
        | some fs =>
          rw [hu] at hv
          cases hv
          obtain ⟨i1, i2⟩ := unF_mv hu k2 k3
          exact fin (o := .ins C dx vf) (by rw [upd_self k1]; exact I) e rfl trivial (.obj upd_same i1 (i2.mono (exn (S.out n a _ g2 e rfl))))
      · cases hv
  · exact hm.elim⟩
/-! ### changes -/
/-- x.append(e) -/
def eApp (o e : EM) : EM := fun ς μ E Q => o ς μ E fun r μ1 => match r with
  | .cell n => (match μ1.cs[n]? with | some (.lst _) => True | _ => False) ∧ e ς μ1 E fun y μ2 => match μ2.cs[n]? with
    | some (.lst rs) => rs.length < sizeLine ∧ Q (.d .non) (μ2.put n (.lst (rs ++ [y])))
    | _ => False
  | _ => False
theorem me_app {o e : Expr} {om em : EM} {apos cpos : Pos} (ho : PE X o (tM (cn X ts) E om)) (he : PE X e (tM (cn X ts) E em)) (hbase : attributeBase o "append" X.env (eval o X.env) = eval o X.env := by rfl)
    (hfew : ((backTo cpos (starEach [e] X.env)).all (fun x => !x.1) && (backToKw cpos (keywordEach [] X.env)).all (fun x => x.1.isSome) && decide ([e].length + ([] : List Keyword).length + (if ([] : List Keyword).isEmpty then 0 else 1) < 30)) = true := by rfl)
    (hline : (apos.endLine == cpos.line) = true := by rfl) (hst : starEach [e] X.env = (false, eval e X.env) :: starEach [] X.env := by rfl) (hpl : (backTo cpos (starEach [] X.env)).any (·.1) = false := by rfl) :
    PE X (.Call (.Attribute o "append" apos) [e] [] cpos) (tM (cn X ts) E (eApp om em)) := pe_w (pe_bm PySem.F.plainAttrs_list PySem.F.slot_list_append PySem.F.type_list_append mt_append ho (pa_cons he pa_nil hst) hbase hfew hline hst hpl) fun σ H Q ⟨W, ς, μ, Ec, Qc, S, L, G, m, q⟩ =>
  ⟨W, ς, μ, Ec, _, S, L, G, m, fun r μ1 W1 H1 v h l S1 mr => by
    match r, h, mr with
    | .cell n, ⟨hc, h⟩, ⟨a, g1, g2⟩ =>
      subst g2
      split at hc
      · rename_i rs0 e0
        obtain ⟨vs0, k1, k2⟩ := S1.cel n a _ g1 e0
        refine ⟨.inl ⟨rfl, vs0, SqL.of k1⟩, W1, ς, μ1, Ec, _, S1, L.mono l, G.mono l, h, fun y μ2 W2 H2 u h2 l2 S2 my => ?_⟩
        split at h2
        · rename_i rs e1
          have g1' := prefix_get l2.φ g1
          obtain ⟨vs, k3, k4⟩ := S2.cel n a _ g1' e1
          refine ⟨a, vs, u, rfl, rfl, k3, by rw [← Paired.length k4]; exact h2.1, q _ _ _ _ _ h2.2 (l.trans l2) (S2.setC g1' e1 rfl trivial ⟨_, rfl, k4.app (.cons my .nil)⟩) MV.non⟩
        · exact h2.elim
      · exact hc.elim⟩
/-- d[k] = v of a dict cell -/
def sPutD (o k v : EM) : SM := fun N ς μ => v ς μ N.ex fun rv μ1 => o ς μ1 N.ex fun r μ2 => k ς μ2 N.ex fun rk μ3 => match r with
  | .cell n => match μ3.cs[n]? with
    | some (.dic kr) => (keyR rk).elim False fun key => kr.length < sizeLine ∧ N.nx ς (μ3.put n (.dic (putKD kr key rv)))
    | _ => False
  | _ => False
theorem ms_putD {o i value : Expr} {om im vm : EM} {pos' : Pos} (hu : X.A.units + 1 < cLine) (ho : PE X o (tM (cn X ts) E om)) (hi : PE X i (tM (cn X ts) E im)) (hv : PE X value (tM (cn X ts) E vm)) (hs : swapsWith value (some (.Subscript o i pos')) pos.line X.env = pure false := by rfl) :
    PS X (.Assign [.Subscript o i pos'] value pos) (tS (cn X ts) E (sPutD om im vm)) := ps_w (ps_dput hu ho hi hv hs) fun σ H D ⟨W, ς, μ, N, S, L, m, G⟩ =>
  ⟨W, ς, μ, N.ex, _, S, L, G.ex, m, fun rv μ1 W1 H1 v h l S1 mv => ⟨W1, ς, μ1, N.ex, _, S1, L.mono l, G.ex.mono l, h, fun r μ2 W2 H2 u h2 l2 S2 mr => ⟨W2, ς, μ2, N.ex, _, S2, L.mono (l.trans l2), G.ex.mono (l.trans l2), h2, fun rk μ3 W3 H3 w h3 l3 S3 mk => by
    match r, h3, mr with
    | .cell n, h3, ⟨a, g1, g2⟩ =>
      simp only at h3
      split at h3
      · rename_i kr e
        cases hk : keyR rk with
        | none => rw [hk] at h3; exact h3.elim
        | some key =>
          rw [hk] at h3
          have ek := keyR_mr hk mk
          have g1' := prefix_get l3.φ g1
          obtain ⟨kw, k1, k2, k3⟩ := S3.cel n a _ g1' e
          have hl : kw.length = kr.length := by have := congrArg List.length k2; simpa using this
          have mm : KMR (cn X ts) W3 (putKD kr key rv) (putK kw key v) := KMR.put ⟨k2, k3⟩ (MR.mono (l2.trans l3) mv)
          exact ⟨a, _, g2, .inl ⟨kw, key, k1, ek, by rw [hl]; exact h3.1, rfl⟩, G.nx _ _ _ _ _ h3.2 (l.trans (l2.trans l3)) (S3.setC g1' e rfl trivial ⟨_, rfl, mm.1, mm.2⟩) (L.mono (l.trans (l2.trans l3)))⟩
      · exact h3.elim⟩⟩⟩
/-- d.pop(k) of a dict cell -/
def dropKD {β : Type} (kr : List (Key × β)) (k : Key) : List (Key × β) := kr.filter fun kv => decide (kv.1 ≠ k)
def valR {β : Type} (kr : List (Key × β)) (k : Key) : Option β := (kr.find? fun kv => decide (kv.1 = k)).map (·.2)
theorem valR_mr {c : Cn} {W : Wo} {k : Key} : ∀ {kr : List (Key × R)} {kw : List (Key × V)}, KMR c W kr kw → ∀ {y : R}, valR kr k = some y → ∃ v, valV kw k = some v ∧ MR c W y v
  | [], [], _, y, h => by cases h
  | (a, x) :: kr, (b, v) :: kw, ⟨h, m⟩, y, e => by
    rw [List.map_cons, List.map_cons] at h
    injection h with h1 h2
    obtain rfl : b = a := h1
    cases m with
    | cons m1 m2 =>
      unfold valR at e
      unfold valV
      rw [List.find?_cons] at e ⊢
      by_cases hk : b = k
      · simp only [decide_eq_true hk] at e ⊢
        cases e
        exact ⟨v, rfl, m1⟩
      · simp only [decide_eq_false hk] at e ⊢
        exact valR_mr ⟨h2, m2⟩ e
theorem KMR.drop {c : Cn} {W : Wo} {k : Key} : ∀ {kr : List (Key × R)} {kw : List (Key × V)}, KMR c W kr kw → KMR c W (dropKD kr k) (dropK kw k)
  | [], [], _ => ⟨rfl, .nil⟩
  | (a, x) :: kr, (b, v) :: kw, ⟨h, m⟩ => by
    rw [List.map_cons, List.map_cons] at h
    injection h with h1 h2
    obtain rfl : b = a := h1
    cases m with
    | cons m1 m2 =>
      obtain ⟨i1, i2⟩ := KMR.drop (k := k) (kr := kr) (kw := kw) ⟨h2, m2⟩
      unfold dropKD dropK at *
      rw [List.filter_cons, List.filter_cons]
      by_cases hk : b = k
      · simp only [hk, ne_eq, not_true_eq_false, decide_false, Bool.false_eq_true, if_false]
        exact ⟨i1, i2⟩
      · simp only [ne_eq, hk, not_false_eq_true, decide_true, if_true]
        exact ⟨by rw [List.map_cons, List.map_cons, i1], .cons m1 i2⟩
def ePopD (o k : EM) : EM := fun ς μ E Q => o ς μ E fun r μ1 => match r with
  | .cell n => (match μ1.cs[n]? with | some (.dic _) => True | _ => False) ∧ k ς μ1 E fun rk μ2 => match μ2.cs[n]? with
    | some (.dic kr) => (keyR rk).elim False fun key => (valR kr key).elim False fun y => Q y (μ2.put n (.dic (dropKD kr key)))
    | _ => False
  | _ => False
theorem me_popD {o e : Expr} {om em : EM} {apos cpos : Pos} (ho : PE X o (tM (cn X ts) E om)) (he : PE X e (tM (cn X ts) E em)) (m1 : M1 X o "pop" apos e cpos := by exact ⟨rfl, rfl, rfl, rfl⟩) :
    PE X (.Call (.Attribute o "pop" apos) [e] [] cpos) (tM (cn X ts) E (ePopD om em)) := pe_w (pe_dpop1 ho he m1) fun σ H Q ⟨W, ς, μ, Ec, Qc, S, L, G, m, q⟩ =>
  ⟨W, ς, μ, Ec, _, S, L, G, m, fun r μ1 W1 H1 v h l S1 mr => by
    match r, h, mr with
    | .cell n, ⟨hc, h⟩, ⟨a, g1, g2⟩ =>
      subst g2
      split at hc
      · rename_i kr0 e0
        obtain ⟨kw0, k1, _⟩ := S1.cel n a _ g1 e0
        refine ⟨a, rfl, .inl ⟨kw0, .inl k1⟩, W1, ς, μ1, Ec, _, S1, L.mono l, G.mono l, h, fun rk μ2 W2 H2 u h2 l2 S2 my => ?_⟩
        split at h2
        · rename_i kr e1
          cases hk : keyR rk with
          | none => rw [hk] at h2; exact h2.elim
          | some key =>
            rw [hk] at h2
            have h2 : (valR kr key).elim False fun y => Qc y (μ2.put n (.dic (dropKD kr key))) := h2
            cases hy : valR kr key with
            | none => rw [hy] at h2; exact h2.elim
            | some y =>
              rw [hy] at h2
              have g1' := prefix_get l2.φ g1
              obtain ⟨kw, k3, k4, k5⟩ := S2.cel n a _ g1' e1
              obtain ⟨vv, j1, j2⟩ := valR_mr ⟨k4, k5⟩ hy
              have dd := KMR.drop (k := key) ⟨k4, k5⟩
              exact ⟨kw, key, vv, k3, keyR_mr hk my, j1, q _ _ _ _ _ h2 (l.trans l2) (S2.setC g1' e1 rfl trivial ⟨_, rfl, dd.1, dd.2⟩) j2⟩
        · exact h2.elim
      · exact hc.elim⟩
end
/-! ### isinstance -/
def tyN : D → Option String
  | .non => some "NoneType" | .bl _ => some "bool" | .int _ => some "int" | .str _ => some "str" | .tup _ => some "tuple" | .lst _ => some "list" | .dic _ => some "dict" | _ => none
/-- the classes that are told apart -/
structure Insts (K : PySem.W.Frag) (cs : List Addr) : Prop where
  cls : ∀ C ∈ cs, Cls K C
  ha : ∀ C ∈ cs, PySem.W.findIn K (.ref C) "__class__" = some (some (.builtin "object.__class__"))
  hn : PySem.W.specialIn K (.builtin "object.__class__") "__get__" = some (some (.builtin "getset_descriptor.__get__"))
  htk : PySem.W.takesIn K (.builtin "object.__class__") = some true
  hm : ∀ C ∈ cs, PySem.W.mroIn K C (.type "object") = some true
  own : ∀ C ∈ cs, ∀ C' ∈ cs, PySem.W.kitOne K (.ref C) (.ref C') = some (decide (C = C'))
  ty : ∀ C ∈ cs, ∀ T ∈ ["str", "tuple", "dict", "list", "int", "bool"], PySem.W.kitOne K (.ref C) (.type T) = some false
  bt : ∀ C ∈ cs, ∀ T ∈ ["NoneType", "bool", "int", "str", "tuple", "list", "dict"], PySem.W.kitOne K (.type T) (.ref C) = some false
def subT (a b : String) : Bool := a == b || (a == "bool" && b == "int")
/-- isinstance(x, T), T a built-in class -/
def isiT (cs : List Addr) (T : String) : D → Option D
  | .obj C _ => if C ∈ cs ∧ T ∈ ["str", "tuple", "dict", "list", "int", "bool"] then some (.bl false) else none
  | x => if T ∈ ["str", "tuple", "dict", "list", "int", "bool"] then (tyN x).map fun a => .bl (subT a T) else none
/-- isinstance(x, C) -/
def isiC (cs : List Addr) (C : Addr) : D → Option D
  | .obj C' _ => if C' ∈ cs ∧ C ∈ cs then some (.bl (decide (C' = C))) else none
  | x => if C ∈ cs then (tyN x).map fun _ => .bl false else none
section
variable {c : Cn} {F H : Hp}
theorem tyx_obj {cs : List Addr} {C p dx : Addr} {vf : List (Str × V)} (I : Insts c.k cs) (h : C ∈ cs) (hp : H p = some (.ins C dx vf)) : TyX c.k H (.ref p) (.ref C) := .base (.ins hp (I.cls C h) (I.ha C h) I.hn I.htk (I.hm C h))
theorem tyx_of {x : D} {v : V} {a : String} (e : Ex F H) (t : TV c F H x v) (h : tyN x = some a) : TyX c.k H v (.type a) := by
  cases x with
  | non => cases t; cases h; exact .base .non
  | bl b => cases t; cases h; exact .base (.bl b)
  | int b => cases t; cases h; exact .base (.int b)
  | str b => cases t; cases h; exact .base (.str b)
  | tup b =>
    cases h
    obtain ⟨p, vs, rfl, s1, _⟩ := t
    rcases sqT_mono e s1 with (k | ⟨o, k⟩) | ⟨o, its, n, k1, k2, _⟩
    · exact .base (.tup k)
    · exact .fTuple k
    · exact .kTuple k1 k2
  | lst b =>
    cases h
    obtain ⟨p, vs, rfl, k | ⟨o, k⟩, _⟩ := t
    · exact .base (.lst k)
    · exact .base (.frz k)
  | dic b =>
    cases h
    obtain ⟨p, kw, rfl, k | ⟨o, k⟩, _⟩ := t
    · exact .base (.dK k)
    · exact .fDict k
  | _ => cases h
theorem kit_all : ∀ a ∈ ["NoneType", "bool", "int", "str", "tuple", "list", "dict"], ∀ T ∈ ["str", "tuple", "dict", "list", "int", "bool"], kitB a T = some (subT a T) := by decide +kernel
theorem tyN_mem {x : D} {a : String} (h : tyN x = some a) : a ∈ ["NoneType", "bool", "int", "str", "tuple", "list", "dict"] := by
  cases x <;> simp [tyN] at h <;> (subst h; simp)
theorem o_isiT {cs : List Addr} {T : String} (I : Insts c.k cs) : Op1 c (fun v H Q => rIsi c.k [v, .ty T] H Q) (isiT cs T) := by
  intro W μ H x v z Q S tx hz hr
  unfold isiT at hz
  split at hz
  · split at hz
    · rename_i C fs h
      cases hz
      obtain ⟨p, dx, vf, rfl, hp, _⟩ := tx
      exact ⟨_, _, _, _, _, rfl, .ty T, tyx_obj I h.1 hp, I.ty C h.1 T h.2, hr.bl S⟩
    · cases hz
  · split at hz
    · rename_i hT
      cases ht : tyN x with
      | none => rw [ht] at hz; cases hz
      | some a =>
        rw [ht] at hz
        cases hz
        exact ⟨_, _, _, _, _, rfl, .ty T, tyx_of S.ex tx ht, kit_ty (kit_all a (tyN_mem ht) T hT), hr.bl S⟩
    · cases hz
theorem o_isiC {cs : List Addr} {C : Addr} (I : Insts c.k cs) : Op1 c (fun v H Q => rIsi c.k [v, .ref C] H Q) (isiC cs C) := by
  intro W μ H x v z Q S tx hz hr
  unfold isiC at hz
  split at hz
  · split at hz
    · rename_i C' fs h
      cases hz
      obtain ⟨p, dx, vf, rfl, hp, _⟩ := tx
      exact ⟨_, _, _, _, _, rfl, .own C, tyx_obj I h.1 hp, I.own C' h.1 C h.2, hr.bl S⟩
    · cases hz
  · split at hz
    · rename_i hT
      cases ht : tyN x with
      | none => rw [ht] at hz; cases hz
      | some a =>
        rw [ht] at hz
        cases hz
        exact ⟨_, _, _, _, _, rfl, .own C, tyx_of S.ex tx ht, I.bt C hT a (tyN_mem ht), hr.bl S⟩
    · cases hz
end
section
variable {X : Cx} {ts : List (Addr × Str)} {E : XK} {pos : Pos}
theorem me_isiT {cs : List Addr} {T : String} {e : Expr} {x : Str} {m : EM} {p p2 : Pos} (I : Insts X.K cs) (hm : X.mg "isinstance" = none) (hmT : X.mg x = none) (hvT : bootBuiltins x = some (.type T)) (he : PE X e (tM (cn X ts) E m)) (hg : Gl X "isinstance" := by rfl) (hgT : Gl X x := by rfl) (hn : x ≠ "__name__" := by decide) (hd : (x == ("__debug__" : Str)) = false := by decide)
    (hst : starEach [e, .Name x p2] X.env = (false, eval e X.env) :: starEach [.Name x p2] X.env := by rfl) (hst2 : starEach [.Name x p2] X.env = (false, eval (.Name x p2) X.env) :: starEach [] X.env := by rfl) (hpl : (backTo pos (starEach [.Name x p2] X.env)).any (·.1) = false := by rfl) :
    PE X (.Call (.Name "isinstance" p) [e, .Name x p2] [] pos) (tM (cn X ts) E (ePur1 (isiT cs T) m)) :=
  pe_w (pe_callB call_isi hg hm PyProof.Rows.boot_isinstance (pa_cons he (pa_cons (pe_bltn (v := .ty T) hgT hmT hvT rfl hn hd) pa_nil hst2) hst) (by decide) (by decide) hst hpl) (op1_go (r := fun v H Q => rIsi X.K [v, .ty T] H Q) (o_isiT I))
theorem me_isiC {cs : List Addr} {C : Addr} {e : Expr} {x : Str} {m : EM} {p p2 : Pos} (I : Insts X.K cs) (hm : X.mg "isinstance" = none) (hmC : X.mg x = some (.ref C)) (he : PE X e (tM (cn X ts) E m)) (hg : Gl X "isinstance" := by rfl) (hgC : Gl X x := by rfl) (hd : (x == ("__debug__" : Str)) = false := by decide)
    (hst : starEach [e, .Name x p2] X.env = (false, eval e X.env) :: starEach [.Name x p2] X.env := by rfl) (hst2 : starEach [.Name x p2] X.env = (false, eval (.Name x p2) X.env) :: starEach [] X.env := by rfl) (hpl : (backTo pos (starEach [.Name x p2] X.env)).any (·.1) = false := by rfl) :
    PE X (.Call (.Name "isinstance" p) [e, .Name x p2] [] pos) (tM (cn X ts) E (ePur1 (isiC cs C) m)) :=
  pe_w (pe_callB call_isi hg hm PyProof.Rows.boot_isinstance (pa_cons he (pa_cons (pe_glob hgC hmC (v := .ref C) rfl hd) pa_nil hst2) hst) (by decide) (by decide) hst hpl) (op1_go (r := fun v H Q => rIsi X.K [v, .ref C] H Q) (o_isiC I))
end
end Eg
/-! the engine: sorted, join, dict(..), the source of draws, the ear -/
namespace Sn
open Evl (Ex)
open PySem L2
def spDraw : Sp := fun vs H Q _ => ∃ (F : Hp) (sa la ca : Addr) (T : Nat) (n : Int), vs = [.ref sa, .int n] ∧ Ex F H ∧ F sa = none ∧ F la = none ∧ Dr H sa la ca T ∧ T ≤ 100000000 ∧ 0 < n ∧ n ≤ 1000000 ∧
  ∀ (r : Int) (H' : Hp), 0 ≤ r → r < n → Ex F H' → Dr H' sa la ca (T + 1) → Q (.int r) H'
def spBegun (K : PySem.W.Frag) : Sp := fun vs H Q _ => ∃ (a : Addr) (ns : List Int), vs = [.ref a] ∧ SqL K H a (ns.map V.int) ∧ ns.length ≤ 63 ∧
  ∀ (sa la ca : Addr) (H' : Hp), H sa = none → H la = none → H ca = none → Ex H H' → Dr H' sa la ca 0 → Q (.ref sa) H'
end Sn
namespace Eg
open Evl (Ex)
open PySem PySem.Spec PyProof.Rows L2 Sn LamX
/-! ### texts in order -/
theorem lt_irr : ∀ a : List Nat, ltCps a a = false
  | [] => rfl
  | a :: r => by simp [ltCps, lt_irr r]
theorem lt_tri : ∀ a b : List Nat, ltCps a b = false → ltCps b a = false → a = b
  | [], [], _, _ => rfl
  | [], _ :: _, h, _ => by simp [ltCps] at h
  | _ :: _, [], _, h => by simp [ltCps] at h
  | a :: r, b :: t, h, k => by
    simp [ltCps] at h k
    have e : a = b := by omega
    subst e
    rw [lt_tri r t (h.2 rfl) (k.2 rfl)]
theorem lt_trans : ∀ {a b c : List Nat}, ltCps a b = false → ltCps b c = false → ltCps a c = false
  | [], [], c, _, k => k
  | [], _ :: _, _, h, _ => by simp [ltCps] at h
  | _ :: _, [], [], _, _ => by simp [ltCps]
  | _ :: _, [], _ :: _, _, k => by simp [ltCps] at k
  | _ :: _, _ :: _, [], _, _ => by simp [ltCps]
  | a :: r, b :: t, c :: u, h, k => by
    simp [ltCps] at h k ⊢
    refine ⟨by omega, fun e => ?_⟩
    have e1 : a = b := by omega
    have e2 : b = c := by omega
    exact lt_trans (h.2 e1) (k.2 e2)
/-- a is not behind b -/
def leS (a b : Str) : Bool := !ltCps b.cps.toList a.cps.toList
theorem leS_refl (a : Str) : leS a a = true := by unfold leS; rw [lt_irr]; rfl
theorem leS_anti {a b : Str} (h : leS a b = true) (k : leS b a = true) : a = b := by
  unfold leS at h k
  simp at h k
  have := lt_tri _ _ k h
  cases a; cases b
  simp at this
  rw [this]
theorem leS_trans {a b c : Str} (h : leS a b = true) (k : leS b c = true) : leS a c = true := by
  unfold leS at *
  simp at h k ⊢
  exact lt_trans k h
theorem lt_asymm : ∀ {a b : List Nat}, ltCps a b = true → ltCps b a = false
  | [], [], h => by simp [ltCps] at h
  | [], _ :: _, _ => by simp [ltCps]
  | _ :: _, [], h => by simp [ltCps] at h
  | a :: r, b :: t, h => by
    simp [ltCps] at h ⊢
    rcases h with h | ⟨h1, h2⟩
    · exact ⟨by omega, fun e => by omega⟩
    · exact ⟨by omega, fun _ => lt_asymm h2⟩
theorem leS_total (a b : Str) : leS a b = true ∨ leS b a = true := by
  unfold leS
  cases h : ltCps b.cps.toList a.cps.toList with
  | false => exact .inl rfl
  | true => exact .inr (by rw [lt_asymm h]; rfl)
def insS (x : Str) : List Str → List Str
  | [] => [x]
  | y :: r => if leS x y = true then x :: y :: r else y :: insS x r
def srtS : List Str → List Str
  | [] => []
  | x :: r => insS x (srtS r)
theorem insS_perm (x : Str) : ∀ l : List Str, (insS x l).Perm (x :: l)
  | [] => .refl _
  | y :: r => by
    unfold insS
    split
    · exact .refl _
    · exact ((insS_perm x r).cons y).trans (.swap _ _ _)
theorem srtS_perm : ∀ l : List Str, (srtS l).Perm l
  | [] => .refl _
  | x :: r => (insS_perm x (srtS r)).trans ((srtS_perm r).cons x)
theorem insS_pw {x : Str} : ∀ {l : List Str}, l.Pairwise (fun a b => leS a b = true) → (insS x l).Pairwise (fun a b => leS a b = true)
  | [], _ => by simp [insS]
  | y :: r, h => by
    unfold insS
    rw [List.pairwise_cons] at h
    split
    · rename_i hx
      rw [List.pairwise_cons]
      refine ⟨fun z hz => ?_, List.pairwise_cons.mpr h⟩
      rcases List.mem_cons.mp hz with rfl | hz
      · exact hx
      · exact leS_trans hx (h.1 z hz)
    · rename_i hx
      rw [List.pairwise_cons]
      refine ⟨fun z hz => ?_, insS_pw h.2⟩
      rcases List.mem_cons.mp ((insS_perm x r).mem_iff.mp hz) with rfl | hz
      · exact (leS_total _ _).resolve_left hx
      · exact h.1 z hz
theorem srtS_pw : ∀ l : List Str, (srtS l).Pairwise (fun a b => leS a b = true)
  | [] => List.Pairwise.nil
  | _ :: r => insS_pw (srtS_pw r)
theorem rising_pw : ∀ {l : List Str} {x : Str}, risingS x l = true → (x :: l).Pairwise (fun a b => leS a b = true)
  | [], x, _ => by simp
  | y :: r, x, h => by
    simp only [risingS, Bool.and_eq_true] at h
    have ih := rising_pw h.2
    have hxy : leS x y = true := h.1
    refine List.pairwise_cons.mpr ⟨fun z hz => ?_, ih⟩
    rcases List.mem_cons.mp hz with rfl | hz
    · exact hxy
    · exact leS_trans hxy ((List.pairwise_cons.mp ih).1 z hz)
theorem sorted_pw {l : List Str} (h : sortedS l = true) : l.Pairwise (fun a b => leS a b = true) := by
  cases l with
  | nil => exact List.Pairwise.nil
  | cons x r => exact rising_pw h
theorem pw_uniq : ∀ {l m : List Str}, l.Perm m → l.Pairwise (fun a b => leS a b = true) → m.Pairwise (fun a b => leS a b = true) → l = m
  | [], m, p, _, _ => (List.Perm.nil_eq p)
  | x :: l, m, p, h, k => by
    cases m with
    | nil => exact absurd p.length_eq (by simp)
    | cons y m =>
      rw [List.pairwise_cons] at h k
      have hx : x ∈ y :: m := p.mem_iff.mp List.mem_cons_self
      have hy : y ∈ x :: l := p.mem_iff.mpr List.mem_cons_self
      have e : x = y := by
        rcases List.mem_cons.mp hx with e | hx
        · exact e
        · rcases List.mem_cons.mp hy with e | hy
          · exact e.symm
          · exact leS_anti (h.1 y hy) (k.1 x hx)
      subst e
      rw [pw_uniq (List.Perm.cons_inv p) h.2 k.2]
theorem srt_uniq {l ys : List Str} (p : ys.Perm l) (h : sortedS ys = true) : ys = srtS l := pw_uniq (p.trans (srtS_perm l).symm) (sorted_pw h) (srtS_pw l)
/-! ### sorted of texts -/
def unS : List D → Option (List Str)
  | [] => some []
  | .str s :: r => (unS r).map (s :: ·)
  | _ :: _ => none
theorem unS_eq : ∀ {xs : List D} {ws : List Str}, unS xs = some ws → xs = ws.map D.str
  | [], _, h => by cases h; rfl
  | .str s :: r, ws, h => by
    unfold unS at h
    cases hr : unS r with
    | none => rw [hr] at h; cases h
    | some t => rw [hr] at h; cases h; rw [unS_eq hr]; rfl
  | .non :: _, _, h => by cases h
  | .bl _ :: _, _, h => by cases h
  | .int _ :: _, _, h => by cases h
  | .tup _ :: _, _, h => by cases h
  | .lst _ :: _, _, h => by cases h
  | .dic _ :: _, _, h => by cases h
  | .dit _ :: _, _, h => by cases h
  | .set _ :: _, _, h => by cases h
  | .obj _ _ :: _, _, h => by cases h
theorem strs_mv {c : Cn} {F : Hp} : ∀ {ws : List Str} {vs : List V}, MVs c F (ws.map D.str) vs → vs = ws.map V.str
  | [], _, .nil => rfl
  | w :: r, _, .cons a b => by cases a; rw [strs_mv b]; rfl
theorem mv_strs {c : Cn} {F : Hp} : ∀ ws : List Str, MVs c F (ws.map D.str) (ws.map V.str)
  | [] => .nil
  | w :: r => .cons (.str w) (mv_strs r)
def unI : List Key → Option (List Str)
  | [] => some []
  | .inr s :: r => (unI r).map (s :: ·)
  | .inl _ :: _ => none
theorem unI_eq : ∀ {ks : List Key} {ws : List Str}, unI ks = some ws → ks = ws.map Sum.inr
  | [], _, h => by cases h; rfl
  | .inr s :: r, ws, h => by
    unfold unI at h
    cases hr : unI r with
    | none => rw [hr] at h; cases h
    | some t => rw [hr] at h; cases h; rw [unI_eq hr]; rfl
  | .inl _ :: _, _, h => by cases h
def sortD : D → Option D
  | .lst xs => (unS xs).bind fun ws => if ws.length < 64 then some (.lst ((srtS ws).map D.str)) else none
  | .dic kvs => (unI (kvs.map (·.1))).bind fun ws => if ws.length < 64 then some (.lst ((srtS ws).map D.str)) else none
  | .set ks => if ks.length < 64 then some (.lst ((srtS ks).map D.str)) else none
  | _ => none
def rSortA (P : Program) (w : World) (K : PySem.W.Frag) : List V → Hp → VK → Prop := fun xs H Q => rSortedS K xs H Q ∨ (∃ (a : Addr) (kvs : List (Key × V)) (ks : List Str), xs = [.ref a] ∧ Rd H a (.dK kvs) ∧ kvs.map (·.1) = ks.map Sum.inr ∧ ks.length < 64 ∧
    ∀ ys p, ys.Perm ks → sortedS ys = true → H p = none → Q (.ref p) (upd H p (.lst (ys.map V.str)))) ∨ rSortX P w xs H Q
theorem call_sortA {X : Cx} (hc : X.calm = true) : CallR X (.builtin "sorted") (rSortA X.prog X.w X.K) := callr_or cr_sortedS (callr_or (call_sortedD hc) (call_sortX hc))
theorem o_sort {c : Cn} : Op1 c (fun v H Q => rSortA c.p c.w c.k [v] H Q) sortD := by
  intro W μ H x v z Q S tx hz hr
  unfold sortD at hz
  split at hz
  · rename_i xs
    cases hu : unS xs with
    | none => rw [hu] at hz; cases hz
    | some ws =>
      rw [hu] at hz
      simp only [Option.bind_some] at hz
      split at hz
      · rename_i hl
        cases hz
        obtain ⟨p, vs, rfl, s1, m1⟩ := tx
        rw [unS_eq hu] at m1
        have := strs_mv m1
        subst this
        exact .inl ⟨p, ws, rfl, .inl s1, hl, fun ys q pm so n => by rw [srt_uniq pm so]; exact hr.lst S (mv_strs _) n⟩
      · cases hz
  · rename_i kvs
    cases hu : unI (kvs.map (·.1)) with
    | none => rw [hu] at hz; cases hz
    | some ws =>
      rw [hu] at hz
      simp only [Option.bind_some] at hz
      split at hz
      · rename_i hl
        cases hz
        obtain ⟨p, kw, rfl, s1, k1, m1⟩ := tx
        exact .inr (.inl ⟨p, kw, ws, rfl, s1, k1.trans (unI_eq hu), hl, fun ys q pm so n => by rw [srt_uniq pm so]; exact hr.lst S (mv_strs _) n⟩)
      · cases hz
  · split at hz
    · rename_i hl
      cases hz
      obtain ⟨p, rfl, s1⟩ := tx
      exact .inr (.inr ⟨p, _, rfl, s1, hl, fun ys q pm so n => by rw [srt_uniq pm so]; exact hr.lst S (mv_strs _) n⟩)
    · cases hz
  · cases hz
/-! ### set(..) of texts, set == set -/
def setD : D → Option D
  | .lst xs => (unS xs).bind fun ws => if ws.length ≤ 100 then some (.set (once [] ws)) else none
  | .dic kvs => (unI (kvs.map (·.1))).bind fun ws => if ws.length ≤ 100 then some (.set (once [] ws)) else none
  | _ => none
def rSetA (P : Program) (w : World) (K : PySem.W.Frag) : List V → Hp → VK → Prop := fun xs H Q => rSetL P w K xs H Q ∨ rSetD P w xs H Q
theorem call_setA {X : Cx} (hc : X.calm = true) : CallR X (.type "set") (rSetA X.prog X.w X.K) := callr_or (call_setL hc) (call_setD hc)
theorem o_set {c : Cn} : Op1 c (fun v H Q => rSetA c.p c.w c.k [v] H Q) setD := by
  intro W μ H x v z Q S tx hz hr
  unfold setD at hz
  split at hz
  · rename_i xs
    cases hu : unS xs with
    | none => rw [hu] at hz; cases hz
    | some ws =>
      rw [hu] at hz
      simp only [Option.bind_some] at hz
      split at hz
      · rename_i hl
        cases hz
        obtain ⟨p, vs, rfl, s1, m1⟩ := tx
        rw [unS_eq hu] at m1
        have := strs_mv m1
        subst this
        exact .inl ⟨p, ws, rfl, .inl s1, hl, fun q n => hr.set S n⟩
      · cases hz
  · rename_i kvs
    cases hu : unI (kvs.map (·.1)) with
    | none => rw [hu] at hz; cases hz
    | some ws =>
      rw [hu] at hz
      simp only [Option.bind_some] at hz
      split at hz
      · rename_i hl
        cases hz
        obtain ⟨p, kw, rfl, s1, k1, m1⟩ := tx
        exact .inr ⟨p, kw, ws, rfl, s1, k1.trans (unI_eq hu), hl, fun q n => hr.set S n⟩
      · cases hz
  · cases hz
def eqSet : D → D → Option D
  | .set ks, .set ls => some (.bl (decide (ks.length = ls.length) && ks.all fun k => decide (k ∈ ls)))
  | _, _ => none
theorem o_eqSet {c : Cn} : Op2 c (rEqX c.p c.w) eqSet := by
  intro W μ H x y v u z Q S tx ty hz hr
  unfold eqSet at hz
  split at hz
  · cases hz
    obtain ⟨p, rfl, s1⟩ := tx
    obtain ⟨q, rfl, s2⟩ := ty
    exact ⟨p, q, _, _, rfl, rfl, s1, s2, hr.bl S⟩
  · cases hz
/-! ### join -/
def joinD (a : Str) : D → Option D
  | .lst xs => (unS xs).bind fun ys => if (ys.map (·.length)).sum + ys.length * a.length ≤ 16777216 then some (.str (Txt.join a ys)) else none
  | .tup xs => (unS xs).bind fun ys => if (ys.map (·.length)).sum + ys.length * a.length ≤ 16777216 then some (.str (Txt.join a ys)) else none
  | _ => none
def eJoin (o e : EM) : EM := fun ς μ E Q => o ς μ E fun r μ1 => match r with | .d (.str a) => e ς μ1 E fun s μ2 => pur1 (joinD a) s μ2 Q | _ => False
section
variable {X : Cx} {ts : List (Addr × Str)} {E : XK} {pos : Pos}
theorem o_join {c : Cn} {a : Str} : Op1 c (fun v H Q => ∃ a' p, ∃ ys : List Str, V.str a = .str a' ∧ [v] = [.ref p] ∧ (SqL c.k H p (ys.map V.str) ∨ SqT c.k H p (ys.map V.str)) ∧ (ys.map (·.length)).sum + ys.length * a'.length ≤ 16777216 ∧ Q (.str (Txt.join a' ys)) H) (joinD a) := by
  intro W μ H x v z Q S tx hz hr
  unfold joinD at hz
  split at hz
  · rename_i xs
    cases hu : unS xs with
    | none => rw [hu] at hz; cases hz
    | some ws =>
      rw [hu] at hz
      simp only [Option.bind_some] at hz
      split at hz
      · rename_i hl
        cases hz
        obtain ⟨p, vs, rfl, s1, m1⟩ := tx
        rw [unS_eq hu] at m1
        have := strs_mv m1
        subst this
        exact ⟨a, p, ws, rfl, rfl, .inl (.inl s1), hl, hr.str S⟩
      · cases hz
  · rename_i xs
    cases hu : unS xs with
    | none => rw [hu] at hz; cases hz
    | some ws =>
      rw [hu] at hz
      simp only [Option.bind_some] at hz
      split at hz
      · rename_i hl
        cases hz
        obtain ⟨p, vs, rfl, s1, m1⟩ := tx
        rw [unS_eq hu] at m1
        have := strs_mv m1
        subst this
        exact ⟨a, p, ws, rfl, rfl, .inr (sqT_mono S.ex s1), hl, hr.str S⟩
      · cases hz
  · cases hz
theorem me_join {o e : Expr} {om em : EM} {apos : Pos} (ho : PE X o (tM (cn X ts) E om)) (he : PE X e (tM (cn X ts) E em)) (hs : starEach [e] X.env = [(false, eval e X.env)] := by rfl) (hbase : attributeBase o "join" X.env (eval o X.env) = eval o X.env := by rfl) (hline : (apos.endLine == pos.line) = true := by rfl) :
    PE X (.Call (.Attribute o "join" apos) [e] [] pos) (tM (cn X ts) E (eJoin om em)) := pe_w (pe_join ho he hs hbase hline) fun σ H Q ⟨W, ς, μ, Ec, Qc, S, L, G, m, q⟩ =>
  ⟨W, ς, μ, Ec, _, S, L, G, m, fun r μ1 W1 H1 v h l S1 mr => by
    split at h
    · cases mr
      exact ⟨⟨_, rfl⟩, W1, ς, μ1, Ec, _, S1, L.mono l, G.mono l, h, fun y μ2 W2 H2 u h2 l2 S2 my => pur1_go o_join S2 my h2 (q.mono (l.trans l2))⟩
    · exact h.elim⟩
end
/-! ### dict(..) -/
def unP : List D → Option (List (Key × D))
  | [] => some []
  | .tup [k, v] :: r => (keyD k).bind fun key => (unP r).map ((key, v) :: ·)
  | _ :: _ => none
def dictD : D → Option (List (Key × D))
  | .lst xs => (unP xs).map fun kd => mergeD [] kd
  | .dic kvs => some kvs
  | _ => none
theorem unP_mv {c : Cn} {F : Hp} : ∀ {xs : List D} {vs : List V} {kd : List (Key × D)}, MVs c F xs vs → unP xs = some kd → ∃ (ps : List Addr) (kw : List (Key × V)), vs = ps.map V.ref ∧ Paired (fun p (kv : Key × V) => SqT c.k F p [kV kv.1, kv.2]) ps kw ∧ kw.map (·.1) = kd.map (·.1) ∧ MVs c F (kd.map (·.2)) (kw.map (·.2))
  | [], _, _, .nil, h => by cases h; exact ⟨[], [], rfl, .nil, rfl, .nil⟩
  | x :: r, _, kd, .cons (v := v) a b, h => by
    unfold unP at h
    split at h
    · rename_i e
      cases e
    · rename_i k y r' e
      cases e
      cases hk : keyD k with
      | none => rw [hk] at h; cases h
      | some key =>
        rw [hk] at h
        cases hr : unP r with
        | none => rw [hr] at h; cases h
        | some t =>
          rw [hr] at h
          cases h
          obtain ⟨ps, kw, e1, e2, e3, e4⟩ := unP_mv b hr
          cases a with
          | tup s1 m1 =>
            cases m1 with
            | cons ma mb =>
              cases mb with
              | cons mc md =>
                cases md
                rename_i p vk vy
                have ek := key_tv (H := F) (TV.of exr ma) hk
                subst ek
                exact ⟨p :: ps, (key, vy) :: kw, by rw [e1]; rfl, .cons s1 e2, by rw [List.map_cons, List.map_cons, e3], .cons mc e4⟩
    · cases h
theorem merge_mv {c : Cn} {F : Hp} {kd : List (Key × D)} {kw : List (Key × V)} (h : kw.map (·.1) = kd.map (·.1)) (m : MVs c F (kd.map (·.2)) (kw.map (·.2))) : (mergeK [] kw).map (·.1) = (mergeD [] kd).map (·.1) ∧ MVs c F ((mergeD [] kd).map (·.2)) ((mergeK [] kw).map (·.2)) := by
  have W : Wo := ⟨F, [], none, fun _ => none⟩
  have hu : unK (kd.map fun kv => (kv.1, R.d kv.2)) = some kd := by
    clear h m
    induction kd with
    | nil => rfl
    | cons p r ih => simp only [List.map_cons, unK, ih, Option.map_some]
  have hm : KMR c ⟨F, [], none, fun _ => none⟩ (kd.map fun kv => (kv.1, R.d kv.2)) kw := ⟨by rw [h, List.map_map]; rfl, by
    have e : (kd.map fun kv => (kv.1, R.d kv.2)).map (·.2) = (kd.map (·.2)).map R.d := by rw [List.map_map, List.map_map]; rfl
    rw [e]
    exact MVs.rs m⟩
  have h2 := KMR.merge hm (kr := []) (kw := []) ⟨rfl, .nil⟩
  obtain ⟨k1, k2⟩ := unK_eq (unK_merge hu (kr := []) (ks := []) rfl)
  exact ⟨h2.1.trans k1, unD_mv k2 h2.2⟩
def rDictA (K : PySem.W.Frag) : List V → Hp → VK → Prop := fun xs H Q => (∃ (a : Addr) (ps : List Addr) (kvs : List (Key × V)), xs = [.ref a] ∧ SqL K H a (ps.map V.ref) ∧ Paired (fun p kv => SqT K H p [kV kv.1, kv.2]) ps kvs ∧ ∀ p, H p = none → Q (.ref p) (upd H p (.dK (mergeK [] kvs)))) ∨
  ∃ (a : Addr) (kvs : List (Key × V)), xs = [.ref a] ∧ Rd H a (.dK kvs) ∧ ∀ p, H p = none → Q (.ref p) (upd H p (.dK kvs))
theorem call_dictA {X : Cx} (hc : X.calm = true) : CallR X (.type "dict") (rDictA X.K) := callr_or (call_dictP hc) call_dictD
def eDict (a : EM) : EM := ePur1 (fun x => (dictD x).map D.dic) a
/-- .. as a cell -/
def eDictC (a : EM) : EM := fun ς μ E Q => a ς μ E fun r μ1 => (vw μ1 r).elim False fun x => (dictD x).elim False fun kd => Q (.cell μ1.cs.length) (μ1.new (.dic (kd.map fun kv => (kv.1, R.d kv.2))))
theorem dict_go {c : Cn} {W : Wo} {μ : Sto} {H : Hp} {x : D} {v : V} {kd : List (Key × D)} {Q : VK} (S : Sim c W μ H) (t : TV c W.F H x v) (h : dictD x = some kd) (q : ∀ p kw, H p = none → kw.map (·.1) = kd.map (·.1) → MVs c W.F (kd.map (·.2)) (kw.map (·.2)) → Q (.ref p) (upd H p (.dK kw))) : rDictA c.k [v] H Q := by
  unfold dictD at h
  split at h
  · rename_i xs
    cases hu : unP xs with
    | none => rw [hu] at h; cases h
    | some l =>
      rw [hu] at h
      cases h
      obtain ⟨p, vs, rfl, s1, m1⟩ := t
      obtain ⟨ps, kw, rfl, e2, e3, e4⟩ := unP_mv m1 hu
      obtain ⟨i1, i2⟩ := merge_mv e3 e4
      exact .inl ⟨p, ps, kw, rfl, .inl s1, Paired.mapP e2 fun a b z => sqT_mono S.ex z, fun p' n => q p' _ n i1 i2⟩
  · cases h
    obtain ⟨p, kw, rfl, s1, k1, m1⟩ := t
    exact .inr ⟨p, kw, rfl, s1, fun p' n => q p' kw n k1 m1⟩
  · cases h
section
variable {X : Cx} {ts : List (Addr × Str)} {E : XK} {pos : Pos}
theorem me_dict {e : Expr} {m : EM} {p : Pos} (hc : X.calm = true) (hm : X.mg "dict" = none) (he : PE X e (tM (cn X ts) E m)) (hg : Gl X "dict" := by rfl) (hst : starEach [e] X.env = (false, eval e X.env) :: starEach [] X.env := by rfl) (hpl : (backTo pos (starEach [] X.env)).any (·.1) = false := by rfl) :
    PE X (.Call (.Name "dict" p) [e] [] pos) (tM (cn X ts) E (eDict m)) := pe_w (pe_lk (pe_callTy (call_dictA hc) hg hm PyProof.Rows.boot_dict (pa_cons he pa_nil hst) (by decide) (by decide) hst hpl)) fun σ H Q ⟨W, ς, μ, Ec, Qc, S, L, G, m, q⟩ =>
  ⟨W, ς, μ, Ec, _, S, L, G, m, fun r μ1 W1 H1 v h l S1 mr => by
    unfold pur1 at h
    cases hx : vw μ1 r with
    | none => rw [hx] at h; exact h.elim
    | some x =>
      rw [hx] at h
      cases hd : dictD x with
      | none => simp only [Option.elim, hd, Option.map_none] at h
      | some kd =>
        simp only [Option.elim, hd, Option.map_some] at h
        refine dict_go (c := cn X ts) (Q := fun v H1 => ∃ p kw, v = V.ref p ∧ H1 p = some (HO.dK kw) ∧ ∀ (od : Obj), Q v (upd H1 p (HO.frz od (HO.dK kw)))) S1 (tv_of S1 hx mr) hd fun p kw n k1 m1 => ⟨p, kw, rfl, upd_same, fun od => ?_⟩
        rw [upd_upd]
        exact q _ _ _ _ _ h (l.trans (S1.addLe n)) (S1.add n (fun _ z => by cases z)) (MV.dic upd_same k1 (m1.mono (S1.addLe n).F))⟩
theorem me_dictC {e : Expr} {m : EM} {p : Pos} (hc : X.calm = true) (hm : X.mg "dict" = none) (he : PE X e (tM (cn X ts) E m)) (hg : Gl X "dict" := by rfl) (hst : starEach [e] X.env = (false, eval e X.env) :: starEach [] X.env := by rfl) (hpl : (backTo pos (starEach [] X.env)).any (·.1) = false := by rfl) :
    PE X (.Call (.Name "dict" p) [e] [] pos) (tM (cn X ts) E (eDictC m)) := pe_w (pe_callTy (call_dictA hc) hg hm PyProof.Rows.boot_dict (pa_cons he pa_nil hst) (by decide) (by decide) hst hpl) fun σ H Q ⟨W, ς, μ, Ec, Qc, S, L, G, m, q⟩ =>
  ⟨W, ς, μ, Ec, _, S, L, G, m, fun r μ1 W1 H1 v h l S1 mr => by
    cases hx : vw μ1 r with
    | none => rw [hx] at h; exact h.elim
    | some x =>
      rw [hx] at h
      have h : (dictD x).elim False fun kd => Qc (.cell μ1.cs.length) (μ1.new (.dic (kd.map fun kv => (kv.1, R.d kv.2)))) := h
      cases hd : dictD x with
      | none => rw [hd] at h; exact h.elim
      | some kd =>
        rw [hd] at h
        refine dict_go (c := cn X ts) S1 (tv_of S1 hx mr) hd fun p kw n k1 m1 => ?_
        refine q _ _ _ _ _ h (l.trans Sim.celLe) (S1.newC n (fun _ z => by cases z) ⟨kw, rfl, by rw [k1, List.map_map]; rfl, ?_⟩) (newC_mr S1)
        have e : (kd.map fun kv => (kv.1, R.d kv.2)).map (·.2) = (kd.map (·.2)).map R.d := by rw [List.map_map, List.map_map]; rfl
        rw [e]
        exact MVs.rs m1⟩
/-- {} -/
theorem me_dnew : PE X (.Dict [] [] pos) (tM (cn X ts) E (eC (.dic []))) := pe_w (pe_lk pe_dnewK) fun σ H Q ⟨W, ς, μ, Ec, Qc, S, L, G, m, q⟩ p n => ⟨p, [], rfl, upd_same, fun od => by
  rw [upd_upd]
  exact q _ _ _ _ _ m (S.addLe n) (S.add n (fun _ z => by cases z)) (MV.dic upd_same rfl .nil)⟩
def eDnC : EM := fun _ μ _ Q => Q (.cell μ.cs.length) (μ.new (.dic []))
theorem me_dnewC : PE X (.Dict [] [] pos) (tM (cn X ts) E eDnC) := pe_w pe_dnewK fun σ H Q ⟨W, ς, μ, Ec, Qc, S, L, G, m, q⟩ p n => q _ _ _ _ _ m Sim.celLe (S.newC n (fun _ z => by cases z) ⟨[], rfl, rfl, .nil⟩) (newC_mr S)
def eDnT : EM := fun _ μ _ Q => Q (.cell μ.cs.length) (μ.new (.dit []))
theorem me_dnewT : PE X (.Dict [] [] pos) (tM (cn X ts) E eDnT) := pe_w pe_dnewT fun σ H Q ⟨W, ς, μ, Ec, Qc, S, L, G, m, q⟩ p n => q _ _ _ _ _ m Sim.celLe (S.newC n (fun _ z => by cases z) ⟨[], rfl, rfl, .nil⟩) (newC_mr S)
end
/-! ### the source of draws -/
def m_draw : FM := fun rs μ _ Q => match rs with
  | [.src, .d (.int n)] => 0 < n ∧ n ≤ 1000000 ∧ μ.T ≤ 100000000 ∧ ∀ r : Int, 0 ≤ r → r < n → Q (.d (.int r)) ⟨μ.cs, μ.T + 1⟩
  | _ => False
def m_begun : FM := fun rs μ _ Q => match rs with
  | [.scr ns] => ns.length ≤ 63 ∧ μ.T = 0 ∧ Q .src ⟨μ.cs, 1⟩
  | _ => False
theorem fnok_cx {P : Program} {w : World} {K : PySem.W.Frag} {mg : Str → Option Value} {base : Heap} {k : Nat} {f : Addr} {fd : FuncData} {ps : List Str} {sp : Sp} (F : FnOk P w K mg base CX0 k f fd ps sp) : FnOk P w K mg base (L2.CX P w) k f fd ps sp :=
  ⟨F.len, fun A outer s H args us vs Q E hr e0 hb hv hs => codeAny_mono (F.run A outer s H args us vs Q E hr e0 hb hv hs) fun r s' h => by
    match r, h with
    | .error _, h => exact h.elim
    | .ok (.ret _), h => exact h
    | .ok .next, h => exact h
    | .ok .brk, h => exact h
    | .ok .cont, h => exact h⟩
theorem ar_draw : Ar 2 m_draw := fun rs μ E Q h => by
  unfold m_draw at h
  split at h
  · rfl
  · exact h.elim
theorem ar_begun : Ar 1 m_begun := fun rs μ E Q h => by
  unfold m_begun at h
  split at h
  · rfl
  · exact h.elim
section
variable {P : Program} {w : World} {K : PySem.W.Frag} {mg : Str → Option Value} {base : Heap} {ts : List (Addr × Str)} {k : Nat} {f : Addr} {fd : FuncData}
theorem fnM_draw (F : FnOk P w K mg base CX0 k f fd ["_law_state", "_law_size"] Sn.spDraw) : FnM P w K mg base ts k f fd ["_law_state", "_law_size"] m_draw := by
  refine (fnok_cx F).imp fun vs H Q E h => ?_
  obtain ⟨_, W, rs, μ, Ec, Qc, S, M, G, m, q⟩ := h
  unfold m_draw at m
  split at m
  · rename_i n
    obtain ⟨n0, n1, hT, m⟩ := m
    cases M with
    | cons a b =>
      cases b with
      | cons b d =>
        cases d
        cases b
        obtain ⟨sa, la, ca, hS, rfl⟩ := a
        have src := S.src
        unfold SrcOk at src
        rw [hS] at src
        obtain ⟨D, f1, f2, f3, g1, g2, g3⟩ := src
        refine ⟨cut H sa la, sa, la, ca, μ.T, n, rfl, cut_ex, cut_s, cut_l, D, hT, n0, n1, fun r H' r0 r1 ex D' => ?_⟩
        obtain ⟨ls, cs, rr, tt, ha, hb, hc, _⟩ := D.ex
        have keep : ∀ {x : Addr} {o : HO}, H x = some o → x ≠ sa → x ≠ la → H' x = some o := fun {x o} hx n1 n2 => cut_to ex hx n1 n2
        refine q _ _ W H' _ (m r r0 r1) (Wo.le.refl _) ⟨fun x o hx => keep (S.ex _ _ hx) (fun z => by rw [z, f1] at hx; cases hx) (fun z => by rw [z, f2] at hx; cases hx), S.nt, S.len, S.nd, S.out, fun x hx ps z => ?_, fun i x e h1 h2 => ?_, ?_, tabs_cut S.tab D ex, fun x o hx => ?_, S.zt, S.zd, fun _ => by simp⟩ (MV.int r)
        · cases hq : H x with
          | none => exact S.nin hq hx
          | some o =>
            have := keep hq (fun y => g1 (by rw [← y]; exact hx)) (fun y => g2 (by rw [← y]; exact hx))
            rw [z] at this
            cases this
            exact S.ntc x hx ps hq
        · have hx := List.mem_of_getElem? h1
          have mc := S.cel i x e h1 h2
          cases hq : H x with
          | none => exact absurd hx (S.nin hq)
          | some o =>
            rw [hq] at mc
            rw [keep hq (fun y => g1 (by rw [← y]; exact hx)) (fun y => g2 (by rw [← y]; exact hx))]
            exact mc
        · unfold SrcOk
          rw [hS]
          exact ⟨D', f1, f2, f3, g1, g2, g3⟩
        · obtain ⟨_, _, z3⟩ := S.zd x o hx
          obtain ⟨n1, n2, n3⟩ := z3 sa la ca hS
          exact keep (S.zx _ _ hx) n1 n2
  · exact m.elim
theorem fnM_begun (F : FnOk P w K mg base CX0 k f fd ["_law_script"] (Sn.spBegun K)) : FnM P w K mg base ts k f fd ["_law_script"] m_begun := by
  refine (fnok_cx F).imp fun vs H Q E h => ?_
  obtain ⟨_, W, rs, μ, Ec, Qc, S, M, G, m, q⟩ := h
  unfold m_begun at m
  split at m
  · rename_i ns
    obtain ⟨h63, hT, m⟩ := m
    cases M with
    | cons a b =>
      cases b
      obtain ⟨p, rfl, hs⟩ := a
      refine ⟨p, ns, rfl, sqL_mono S.ex hs, h63, fun sa la ca H' n1 n2 n3 ex D => ?_⟩
      have hS : W.S = none := by
        cases z : W.S with
        | none => rfl
        | some x => have := S.tp (by rw [z]; simp); omega
      have S1 := S.more ex (tabs_ex S.tab ex)
      refine q _ _ ⟨W.F, W.φ, some (sa, la, ca), W.Z⟩ H' _ m ⟨⟨exr, List.prefix_refl _, .inl hS⟩, rfl⟩ ⟨S1.ex, S1.nt, S1.len, S1.nd, S1.out, S1.ntc, fun i x e h1 h2 => MC.mono0 (W := W) (W' := ⟨W.F, W.φ, some (sa, la, ca), W.Z⟩) ⟨exr, List.prefix_refl _, .inl hS⟩ (S1.cel i x e h1 h2), ⟨D.mono (by omega), S.fno n1, S.fno n2, S.fno n3, S.nin n1, S.nin n2, S.nin n3⟩, S1.tab, S1.zx, S1.zt, fun x o hx => ?_, fun _ => Nat.le_refl 1⟩ ⟨sa, la, ca, rfl, rfl⟩
      obtain ⟨z1, z2, _⟩ := S1.zd x o hx
      refine ⟨z1, z2, fun sa' la' ca' z => ?_⟩
      cases z
      have hx' := S.zx _ _ hx
      exact ⟨ne_of_none hx' n1, ne_of_none hx' n2, ne_of_none hx' n3⟩
  · exact m.elim
end
end Eg
/-! the engine: assignments of several names, chains, own operators, calls of objects, the ear -/
namespace Eg
open Evl (Ex)
open PySem PySem.Spec PyProof.Rows L2 Sn LamX
/-! ### chains of comparisons -/
def eChn (g g' : D → D → Option D) (a b d : EM) : EM := fun ς μ E Q => a ς μ E fun x μ1 => b ς μ1 E fun y μ2 => pur2 g x y μ2 (fun r μ3 => isB (fun k μ4 => if k = true then d ς μ4 E (fun z μ5 => pur2 g' y z μ5 Q) else Q (.d (.bl false)) μ4) r μ3)
/-! ### several names -/
def sAsgT (gs : List GM) (a : AM) : SM := fun N ς μ => a ς μ N.ex fun rs μ1 => (gAll gs rs ς).elim False fun ς' => N.nx ς' μ1
def sAsg (g : GM) (e : EM) : SM := fun N ς μ => e ς μ N.ex fun r μ1 => (g r ς).elim False fun ς' => N.nx ς' μ1
def addI : D → D → Option D
  | .int a, .int b => some (.int (a + b))
  | _, _ => none
def sAug (i : Nat) (g : D → D → Option D) (e : EM) : SM := fun N ς μ => match ς[i]? with
  | some (some r) => e ς μ N.ex fun s μ1 => pur2 g r s μ1 fun z μ2 => N.nx (ς.set i (some z)) μ2
  | _ => False
section
variable {X : Cx} {ts : List (Addr × Str)} {E : XK} {pos : Pos}
theorem chn_go {c : Cn} {r r' : R2} {g g' : D → D → Option D} {m n l : EM} (hs : Op2 c r g) (hs' : Op2 c r' g') : ∀ σ H Q, tM c E (eChn g g' m n l) σ H Q → tChain r r' (tM c E m) (tM c E n) (tM c E l) σ H Q := fun σ H Q ⟨W, ς, μ, Ec, Qc, S, L, G, m, q⟩ =>
  ⟨W, ς, μ, Ec, _, S, L, G, m, fun x μ1 W1 H1 v h l1 S1 mx => ⟨W1, ς, μ1, Ec, _, S1, L.mono l1, G.mono l1, h, fun y μ2 W2 H2 u h2 l2 S2 my =>
    pur2_go (Q := fun z H3 => ∃ k, z = .bl k ∧ (if k = true then tM c E l σ H3 fun w' H4 => r' u w' H4 Q else Q (.bl false) H3)) hs S2 (MR.mono l2 mx) my h2 (isB_go (Q := fun k H3 => if k = true then tM c E l σ H3 fun w' H4 => r' u w' H4 Q else Q (.bl false) H3) fun k μ3 W3 H3 h3 l3 S3 => by
      have l123 := l1.trans (l2.trans l3)
      cases k with
      | true => exact ⟨W3, ς, μ3, Ec, _, S3, L.mono l123, G.mono l123, h3, fun z μ4 W4 H4 w h4 l4 S4 mz => pur2_go hs' S4 (MR.mono (l3.trans l4) my) mz h4 (q.mono (l123.trans l4))⟩
      | false => exact q _ _ _ _ _ h3 l123 S3 (MV.bl _))⟩⟩
theorem me_chn {a b d : Expr} {op op' : CmpOp} {r r' : R2} {g g' : D → D → Option D} {m n l : EM} (ho : OpR X (compareOp op) r) (ho' : OpR X (compareOp op') r') (hs : Op2 (cn X ts) r g) (hs' : Op2 (cn X ts) r' g') (ha : PE X a (tM (cn X ts) E m)) (hb : PE X b (tM (cn X ts) E n)) (hd : PE X d (tM (cn X ts) E l)) (hmk : lastMarks [op, op'] [b, d] = false := by with_unfolding_all rfl) :
    PE X (.Compare a [op, op'] [b, d] pos) (tM (cn X ts) E (eChn g g' m n l)) := pe_w (pe_chain ho ho' ha hb hd hmk) (chn_go hs hs')
theorem mt_chn {a b d : Expr} {op op' : CmpOp} {r r' : R2} {g g' : D → D → Option D} {m n l : EM} (ho : OpR X (compareOp op) r) (ho' : OpR X (compareOp op') r') (hs : Op2 (cn X ts) r g) (hs' : Op2 (cn X ts) r' g') (ha : PE X a (tM (cn X ts) E m)) (hb : PE X b (tM (cn X ts) E n)) (hd : PE X d (tM (cn X ts) E l)) (hmk : lastMarks [op, op'] [b, d] = false := by with_unfolding_all rfl) :
    PT X (.Compare a [op, op'] [b, d] pos) (tB (cn X ts) E (eChn g g' m n l)) := pt_w (pt_chain ho ho' ha hb hd hmk) fun σ H Q h => chn_go hs hs' _ _ _ (test_go _ _ _ h)
theorem me_gI {x : Str} {i : Int} {t : Tok} (hm : X.mg x = some (.int i t)) (hg : Gl X x := by rfl) (hd : (x == ("__debug__" : Str)) = false := by decide) : PE X (.Name x pos) (tM (cn X ts) E (eC (.int i))) := me_glob (v := .int i) hm ⟨_, rfl⟩ (fun _ => .int _) hg hd
theorem me_gS {x : Str} {i : Str} {t : Tok} (hm : X.mg x = some (.str i t)) (hg : Gl X x := by rfl) (hd : (x == ("__debug__" : Str)) = false := by decide) : PE X (.Name x pos) (tM (cn X ts) E (eC (.str i))) := me_glob (v := .str i) hm ⟨_, rfl⟩ (fun _ => .str _) hg hd
theorem ms_par {i j : Nat} {x y : Str} {a b : Expr} {m : AM} {px py pt : Pos} {kt k2 pt2} (hc : X.calm = true) (hN : X.N.Nodup) (hi : X.N[i]? = some x) (hj : X.N[j]? = some y) (hij : i ≠ j) (hx : X.env.scope.names.lookup x = some .local) (hy : X.env.scope.names.lookup y = some .local) (ha : PA X [a, b] (tA (cn X ts) E m))
    (hw : swappedStores [.Tuple [.Name x px, .Name y py] kt pt] (.Tuple [a, b] k2 pt2) X.env = pure (some [x, y]) := by rfl) (hs : swapsWithSole [.Tuple [.Name x px, .Name y py] kt pt] (.Tuple [a, b] k2 pt2) pos.line X.env = pure false := by rfl) :
    PS X (.Assign [.Tuple [.Name x px, .Name y py] kt pt] (.Tuple [a, b] k2 pt2) pos) (tS (cn X ts) E (sAsgT [gN i, gN j] m)) := ps_w (ps_par hc hN hi hj hij hx hy ha hw hs) fun σ H D ⟨W, ς, μ, N, S, L, m, G⟩ =>
  ⟨W, ς, μ, N.ex, _, S, L, G.ex, m, fun rs μ1 W1 H1 vs h l S1 M => by
    match rs, h, M with
    | [], h, _ => exact h.elim
    | [_], h, _ => exact h.elim
    | [r, s], h, .cons m1 (.cons m2 .nil) => exact ⟨_, _, rfl, G.nx _ _ _ _ _ h l S1 (((L.mono l).set m1).set m2)⟩
    | _ :: _ :: _ :: _, h, _ => exact h.elim⟩
theorem ms_par3 {i j k : Nat} {x y z : Str} {a b d : Expr} {m : AM} {px py pz pt : Pos} {kt k2 pt2} (hc : X.calm = true) (hN : X.N.Nodup) (hi : X.N[i]? = some x) (hj : X.N[j]? = some y) (hk : X.N[k]? = some z) (hij : i ≠ j) (hik : i ≠ k) (hjk : j ≠ k) (hx : X.env.scope.names.lookup x = some .local) (hy : X.env.scope.names.lookup y = some .local) (hz : X.env.scope.names.lookup z = some .local) (ha : PA X [a, b, d] (tA (cn X ts) E m))
    (hw : swappedStores [.Tuple [.Name x px, .Name y py, .Name z pz] kt pt] (.Tuple [a, b, d] k2 pt2) X.env = pure (some [x, y, z]) := by rfl) (hs : swapsWithSole [.Tuple [.Name x px, .Name y py, .Name z pz] kt pt] (.Tuple [a, b, d] k2 pt2) pos.line X.env = pure false := by rfl) :
    PS X (.Assign [.Tuple [.Name x px, .Name y py, .Name z pz] kt pt] (.Tuple [a, b, d] k2 pt2) pos) (tS (cn X ts) E (sAsgT [gN i, gN j, gN k] m)) := ps_w (ps_par3 hc hN hi hj hk hij hik hjk hx hy hz ha hw hs) fun σ H D ⟨W, ς, μ, N, S, L, m, G⟩ =>
  ⟨W, ς, μ, N.ex, _, S, L, G.ex, m, fun rs μ1 W1 H1 vs h l S1 M => by
    match rs, h, M with
    | [], h, _ => exact h.elim
    | [_], h, _ => exact h.elim
    | [_, _], h, _ => exact h.elim
    | [r, s, t], h, .cons m1 (.cons m2 (.cons m3 .nil)) => exact ⟨_, _, _, rfl, G.nx _ _ _ _ _ h l S1 ((((L.mono l).set m1).set m2).set m3)⟩
    | _ :: _ :: _ :: _ :: _, h, _ => exact h.elim⟩
theorem gAll_len : ∀ {gs : List GM} {rs : List R} {ς ς' : Sl}, gAll gs rs ς = some ς' → rs.length = gs.length
  | [], [], _, _, _ => rfl
  | [], _ :: _, _, _, h => by cases h
  | _ :: _, [], _, _, h => by cases h
  | g :: gs, r :: rs, ς, ς', h => by
    have h : (g r ς).bind (gAll gs rs) = some ς' := h
    cases hg : g r ς with
    | none => rw [hg] at h; cases h
    | some ς1 => rw [hg] at h; rw [List.length_cons, List.length_cons, gAll_len h]
/-- names = a display, by a tuple that is built -/
theorem ms_asgT {es vs : List Expr} {kt k2 n : Nat} {pt pt2 : Pos} {gs : List GM} {js : List Nat} {m : AM} (hc : X.calm = true) (ha : PA X vs (tA (cn X ts) E m)) (hg : PGs X es (tGs (cn X ts) gs js)) (hl : gs.length = n) (h9 : n ≤ 1000) (hn : (assignEach es X.env).length = n := by rfl) (hst : (assignEach es X.env).findIdx? (·.1) = none := by rfl)
    (hs : swapsWithSole [.Tuple es kt pt] (.Tuple vs k2 pt2) pos.line X.env = pure false := by rfl) (hw : swappedStores [.Tuple es kt pt] (.Tuple vs k2 pt2) X.env = pure none := by rfl) :
    PS X (.Assign [.Tuple es kt pt] (.Tuple vs k2 pt2) pos) (tS (cn X ts) E (sAsgT gs m)) := ps_w (ps_asg (pe_tup ha) (pg_tup hc hg hn hst) hs hw) fun σ H D ⟨W, ς, μ, N, S, L, m, G⟩ =>
  ⟨W, ς, μ, N.ex, _, S, L, G.ex, m, fun rs μ1 W1 H1 vs h l S1 M => by
    cases hg : gAll gs rs ς with
    | none => rw [hg] at h; exact h.elim
    | some ς' =>
      rw [hg] at h
      have e1 := gAll_len hg
      have e2 : rs.length = vs.length := Paired.length M
      refine ⟨by rw [sizeLine_eq]; omega, fun p n => ?_⟩
      have S2 := S1.more (exn (o := .tup vs) n) (tabs_new S1.tab n)
      exact ⟨p, vs, rfl, SqT.of upd_same, by omega, W1, μ1, ς, rs, ς', S2, L.mono l, M, hg, fun σ' L' _ => G.nx _ _ _ _ _ h l S2 L'⟩⟩
theorem ms_asg {tg e : Expr} {g : GM} {js : List Nat} {m : EM} (he : PE X e (tM (cn X ts) E m)) (hg : PG X tg (tG (cn X ts) g js)) (hs : swapsWithSole [tg] e pos.line X.env = pure false := by rfl) (hw : swappedStores [tg] e X.env = pure none := by rfl) (h1 : (assignEach [tg] X.env).map (·.2) = [assign tg X.env] := by rfl) :
    PS X (.Assign [tg] e pos) (tS (cn X ts) E (sAsg g m)) := ps_w (ps_asg he hg hs hw h1) fun σ H D ⟨W, ς, μ, N, S, L, m, G⟩ =>
  ⟨W, ς, μ, N.ex, _, S, L, G.ex, m, fun r μ1 W1 H1 v h l S1 M => by
    cases hg : g r ς with
    | none => rw [hg] at h; exact h.elim
    | some ς' =>
      rw [hg] at h
      exact ⟨W1, μ1, ς, r, ς', S1, L.mono l, M, hg, fun σ' L' _ => G.nx _ _ _ _ _ h l S1 L'⟩⟩
theorem ms_aug {i : Nat} {x : Str} {e : Expr} {op : Operator} {ti : TIp} {g : D → D → Option D} {m : EM} {pos' : Pos} (hN : X.N.Nodup) (hi : X.N[i]? = some x) (hx : Loc X.env.scope x) (he : PE X e (tM (cn X ts) E m)) (ho : PIp X op ti) (hs : Op2 (cn X ts) ti g) (hf : X.fn x = true ∨ X.env.scope.names.lookup x = some .local := by first | exact .inl rfl | exact .inr rfl | assumption) :
    PS X (.AugAssign (.Name x pos') op e pos) (tS (cn X ts) E (sAug i g m)) := ps_w (ps_aug hN hi hx he ho hf) fun σ H D ⟨W, ς, μ, N, S, L, m, G⟩ => by
  unfold sAug at m
  split at m
  · rename_i r hr
    obtain ⟨v, g1, g2⟩ := L.get i r hr
    exact ⟨v, g1, W, ς, μ, N.ex, _, S, L, G.ex, m, fun s μ1 W1 H1 u h l S1 mu => pur2_go hs S1 (MR.mono l g2) mu h fun z μ2 W2 H2 w h2 l2 S2 mz => G.nx _ _ _ _ _ h2 (l.trans l2) S2 ((L.mono (l.trans l2)).set mz)⟩
  · exact m.elim
theorem o_ipadd {c : Cn} : Op2 c (ipI fun i j => i + j) addI := by
  intro W μ H x y v u z Q S tx ty hz hr
  unfold addI at hz
  split at hz
  · cases hz; cases tx; cases ty; exact ⟨_, _, rfl, rfl, hr.int S⟩
  · cases hz
theorem o_ipsub {c : Cn} : Op2 c (ipI fun i j => i - j) subD := by
  intro W μ H x y v u z Q S tx ty hz hr
  unfold subD at hz
  split at hz
  · cases hz; cases tx; cases ty; exact ⟨_, _, rfl, rfl, hr.int S⟩
  · cases hz
end
/-! ### x in y by y's own __contains__ -/
structure InC (K : PySem.W.Frag) (C f : Addr) : Prop where
  at_ : PySem.W.findIn K (.ref C) "__contains__" = some (some (.ref f))
  fn : PySem.W.isFn K (.ref f) = true
open PySem.W in
theorem in_own {prog : Program} {w : World} {A : Around} {E : Value → Shared → Prop} {s : Shared} {K : PySem.W.Frag} {x C f : Addr} {ox : Obj} {od : Option Obj} {b : Value} {Q : Bool → Shared → Prop} (X : K.In s.heap) (I : PySem.W.InstAt s.heap x ox C od) (c : InC K C f)
    (h : wpAny (model prog w) A (call (.ref f) [.ref x, b]) (fun v s' => ∃ r, v = .bool r ∧ Q r s') E s) : wpAny (model prog w) A (contains (.ref x) b) Q E s := by
  have bd : Looks (model prog w) s.heap (bindSpecial (.ref f) (.ref x)) (.ref f, [.ref x]) := PySem.W.bind_fn X _ (beq_iff_eq.mp c.fn)
  have sp : Looks (model prog w) s.heap (specialOf (.ref x) "__contains__") (some (.ref f)) := I.type.andThen (PySem.W.looks_findIn X c.at_)
  unfold contains
  refine wpAny_holding ?_
  rw [show stdlibNamesSay? (.ref x) b = none from by cases b <;> rfl]
  refine wpAny_bind (sp.here ?_)
  rw [if_neg (by simp)]
  unfold callSpecialUnlessNone?
  refine wpAny_bind (wpAny_bind (sp.here ?_))
  refine wpAny_holding (wpAny_bind (bd.here ?_))
  dsimp only
  rw [if_neg (by simp)]
  refine wpAny_bind (wpAny_mono h (fun v s' hv => ?_) fun _ _ e => e)
  obtain ⟨r, rfl, hq⟩ := hv
  exact wpAny_pure (wpAny_truthy_bool hq)
/-- a method that operators ask -/
structure ClS (P : Program) (w : World) (K : PySem.W.Frag) (mg : Str → Option Value) (base : Heap) (ts : List (Addr × Str)) (k : Nat) (T : Addr → Prop) (ps : List Str) (m : FM) : Prop where
  ar : Ar ps.length m
  ex : ∃ (f : Addr) (fd : FuncData), T f ∧ FnM P w K mg base ts k f fd ps m ∧ Binds K fd ps []
section
variable {X : Cx} {ts : List (Addr × Str)} {E : XK} {pos : Pos} {k : Nat}
/-- a def is called by the machine -/
theorem run_M {f : Addr} {fd : FuncData} {ps : List Str} {sp : Sp} {A : Around} {pins : List (Addr × Obj)} {σ : L2.St} {H : Hp} {s : Shared} {Q : VK} {us : List Value} {vs : List V} (F : FnOk X.prog X.w X.K X.mg X.base (L2.CX X.prog X.w) k f fd ps sp) (hb : Binds X.K fd ps []) (hr : Room k A) (hA : A.frames = X.A.frames) (tk : Takes X (fun cls d _ H' => E cls d H')) (I : L2.Inv X pins σ H s) (r : Vals vs us) (h : sp vs H Q E) :
    wpAny (model X.prog X.w) A (call (.ref f) us) (EP X pins σ Q) X.xe s := by
  have hl : us.length = ps.length := by rw [← r.length]; exact F.len _ _ _ _ h
  have e0 := I.env0
  refine wpAny_call (codeAny_mono (F.run A X.stack s H ⟨us, []⟩ us vs Q E hr ⟨hA.trans e0.frames, e0.mod, e0.bs, e0.bsz, e0.funs, e0.frf, e0.hok, e0.bare⟩ (by
    have := hb s us I.kIn (by rw [List.append_nil]; exact hl)
    rw [List.append_nil] at this
    exact this) r h) fun u s' y => ?_)
  match u, y with
  | .error _, y => exact passes_call tk (fun _ _ _ _ h => h) pins σ H s _ s' I y
  | .ok (.ret _), y => exact I.after y
  | .ok .next, y => exact y.elim
  | .ok .brk, y => exact y.elim
  | .ok .cont, y => exact y.elim
def eInO (neg : Bool) (C : Addr) (m : FM) (a b : EM) : EM := fun ς μ E Q => a ς μ E fun x μ1 => b ς μ1 E fun y μ2 => isI C μ2 y ∧ m [y, x] μ2 E (isB fun r μ3 => Q (.d (.bl (neg ^^ r))) μ3)
def rInM (c : Cn) (C : Addr) (n : Nat) (m : FM) (E : XK) (neg : Bool) : R2 := fun x y H Q => ∃ a dx fs, y = .ref a ∧ H a = some (.ins C dx fs) ∧ spM c n m [.ref a, x] H (fun v H' => ∃ r, v = .bl r ∧ Q (.bl (neg ^^ r)) H') E
theorem run_in {C : Addr} {ps : List Str} {m : FM} {neg : Bool} {pins : List (Addr × Obj)} {s : Shared} {σ : L2.St} {H : Hp} {x y : V} {v u : Value} {Q : VK} (c : ClS X.prog X.w X.K X.mg X.base ts k (InC X.K C) ps m) (hr : Room k X.A) (tk : Takes X (fun cls d _ H' => E cls d H')) (I : L2.Inv X pins σ H s) (rx : RelV x v) (ry : RelV y u) (h : rInM (cn X ts) C ps.length m E neg x y H Q) :
    wpAny (model X.prog X.w) X.A (contains u v) (fun r s' => EP X pins σ Q (.bool (neg ^^ r)) s') X.xe s := by
  obtain ⟨a, dx, fs, rfl, ha, h⟩ := h
  cases ry
  obtain ⟨ox, od, J⟩ := inst_of I ha
  obtain ⟨f, fd, cc, F, b⟩ := c.ex
  refine in_own I.kIn J cc (wpAny_mono (run_M (vs := [V.ref a, x]) (us := [Value.ref a, v]) F b hr rfl tk I (.cons rfl (.cons rx .nil)) h) (fun z s' hz => ?_) fun _ _ e => e)
  obtain ⟨z', H', I', rz, r, rfl, q⟩ := hz
  cases rz
  exact ⟨r, rfl, .bl (neg ^^ r), H', I', rfl, q⟩
theorem op_inM {C : Addr} {ps : List Str} {m : FM} (c : ClS X.prog X.w X.K X.mg X.base ts k (InC X.K C) ps m) (hr : Room k X.A) (tk : Takes X (fun cls d _ H' => E cls d H')) : OpR X (compareOp .In) (rInM (cn X ts) C ps.length m E false) := by
  intro pins s σ H x y v u Q I rx ry h
  show wpAny (model X.prog X.w) X.A (do let r ← contains u v; pure (Value.bool r)) _ _ _
  exact wpAny_bind (wpAny_mono (run_in c hr tk I rx ry h) (fun r s' z => wpAny_pure (by rw [Bool.false_xor] at z; exact z)) fun _ _ e => e)
theorem op_notInM {C : Addr} {ps : List Str} {m : FM} (c : ClS X.prog X.w X.K X.mg X.base ts k (InC X.K C) ps m) (hr : Room k X.A) (tk : Takes X (fun cls d _ H' => E cls d H')) : OpR X (compareOp .NotIn) (rInM (cn X ts) C ps.length m E true) := by
  intro pins s σ H x y v u Q I rx ry h
  show wpAny (model X.prog X.w) X.A (do let r ← contains u v; pure (Value.bool (!r))) _ _ _
  exact wpAny_bind (wpAny_mono (run_in c hr tk I rx ry h) (fun r s' z => wpAny_pure (by rw [Bool.true_xor] at z; exact z)) fun _ _ e => e)
theorem inO_go {c : Cn} {C : Addr} {n : Nat} {m : FM} {neg : Bool} {a b : EM} (hn : Ar n m) : ∀ σ H Q, tM c E (eInO neg C m a b) σ H Q → tOp (rInM c C n m E neg) (tM c E a) (tM c E b) σ H Q := fun σ H Q ⟨W, ς, μ, Ec, Qc, S, L, G, m, q⟩ =>
  ⟨W, ς, μ, Ec, _, S, L, G, m, fun x μ1 W1 H1 v h l S1 mx => ⟨W1, ς, μ1, Ec, _, S1, L.mono l, G.mono l, h, fun y μ2 W2 H2 u ⟨h2, h3⟩ l2 S2 my => by
    obtain ⟨p, dx, fs, rfl, hp⟩ := isI_go S2 h2 my
    exact ⟨p, dx, fs, rfl, hp, spM_go (hn _ _ _ _ h3) S2 (.cons my (.cons (MR.mono l2 mx) .nil)) (G.mono (l.trans l2)) h3 (isB_go (Q := fun r H' => Q (.bl (neg ^^ r)) H') fun r μ3 W3 H3 h4 l3 S3 => q _ _ _ _ _ h4 (l.trans (l2.trans l3)) S3 (MV.bl _))⟩⟩⟩
theorem me_inO {C : Addr} {ps : List Str} {m : FM} {a b : Expr} {am bm : EM} (c : ClS X.prog X.w X.K X.mg X.base ts k (InC X.K C) ps m) (hr : Room k X.A) (tk : Takes X (fun cls d _ H' => E cls d H')) (ha : PE X a (tM (cn X ts) E am)) (hb : PE X b (tM (cn X ts) E bm)) (hm : behindInMarks .In b = false := by rfl) :
    PE X (.Compare a [.In] [b] pos) (tM (cn X ts) E (eInO false C m am bm)) := pe_w (pe_cmpR (op_inM c hr tk) ha hb hm) (inO_go c.ar)
theorem mt_inO {C : Addr} {ps : List Str} {m : FM} {a b : Expr} {am bm : EM} (c : ClS X.prog X.w X.K X.mg X.base ts k (InC X.K C) ps m) (hr : Room k X.A) (tk : Takes X (fun cls d _ H' => E cls d H')) (ha : PE X a (tM (cn X ts) E am)) (hb : PE X b (tM (cn X ts) E bm)) (hm : behindInMarks .In b = false := by rfl) :
    PT X (.Compare a [.In] [b] pos) (tB (cn X ts) E (eInO false C m am bm)) := mt_cmp (pt_cmpR (op_inM c hr tk) ha hb hm) (inO_go c.ar)
/-! ### != of two of one class -/
def eNeO (C : Addr) (m : FM) (a b : EM) : EM := fun ς μ E Q => a ς μ E fun x μ1 => b ς μ1 E fun y μ2 => isI C μ2 x ∧ isI C μ2 y ∧ m [x, y] μ2 E (isB fun r μ3 => Q (.d (.bl (!r))) μ3)
def rNeM (c : Cn) (C : Addr) (n : Nat) (m : FM) (E : XK) : R2 := fun x y H Q => ∃ a b dx dy fs gs, x = .ref a ∧ y = .ref b ∧ H a = some (.ins C dx fs) ∧ H b = some (.ins C dy gs) ∧ spM c n m [.ref a, .ref b] H (fun v H' => ∃ r, v = .bl r ∧ Q (.bl (!r)) H') E
theorem op_neM {C : Addr} {ps : List Str} {m : FM} (c : ClS X.prog X.w X.K X.mg X.base ts k (NeC X.K C) ps m) (hr : Room (k + 1) X.A) (tk : Takes X (fun cls d _ H' => E cls d H')) : OpR X (compareOp .NotEq) (rNeM (cn X ts) C ps.length m E) := by
  intro pins s σ H x y v u Q I rx ry h
  obtain ⟨a, b, dx, dy, fs, gs, rfl, rfl, ha, hb, h⟩ := h
  cases rx
  cases ry
  obtain ⟨ox, od, J⟩ := inst_of I ha
  obtain ⟨oy, ody, J2⟩ := inst_of I hb
  obtain ⟨f, fd, cc, F, bi⟩ := c.ex
  show wpAny (model X.prog X.w) X.A (richCompare .NotEq (.ref a) (.ref b)) _ _ _
  refine ne_own (by have := hr.un; omega) I.kIn J J2.type cc.ne cc.ob cc.eq cc.fn (wpAny_mono (run_M (A := X.A.in1) (vs := [V.ref a, V.ref b]) (us := [Value.ref a, Value.ref b]) F bi hr.in1 rfl tk I (.cons rfl (.cons rfl .nil)) h) (fun z s' hz => ?_) fun _ _ e => e)
  obtain ⟨z', H', I', rz, r, rfl, q⟩ := hz
  cases rz
  exact ⟨r, rfl, .bl (!r), H', I', rfl, q⟩
theorem neO_go {c : Cn} {C : Addr} {n : Nat} {m : FM} {a b : EM} (hn : Ar n m) : ∀ σ H Q, tM c E (eNeO C m a b) σ H Q → tOp (rNeM c C n m E) (tM c E a) (tM c E b) σ H Q := fun σ H Q ⟨W, ς, μ, Ec, Qc, S, L, G, m, q⟩ =>
  ⟨W, ς, μ, Ec, _, S, L, G, m, fun x μ1 W1 H1 v h l S1 mx => ⟨W1, ς, μ1, Ec, _, S1, L.mono l, G.mono l, h, fun y μ2 W2 H2 u ⟨h0, h2, h3⟩ l2 S2 my => by
    obtain ⟨p, dx, fs, rfl, hp⟩ := isI_go S2 h0 (MR.mono l2 mx)
    obtain ⟨p2, dx2, fs2, rfl, hp2⟩ := isI_go S2 h2 my
    exact ⟨p, p2, dx, dx2, fs, fs2, rfl, rfl, hp, hp2, spM_go (hn _ _ _ _ h3) S2 (.cons (MR.mono l2 mx) (.cons my .nil)) (G.mono (l.trans l2)) h3 (isB_go (Q := fun r H' => Q (.bl (!r)) H') fun r μ3 W3 H3 h4 l3 S3 => q _ _ _ _ _ h4 (l.trans (l2.trans l3)) S3 (MV.bl _))⟩⟩⟩
theorem me_neO {C : Addr} {ps : List Str} {m : FM} {a b : Expr} {am bm : EM} (c : ClS X.prog X.w X.K X.mg X.base ts k (NeC X.K C) ps m) (hr : Room (k + 1) X.A) (tk : Takes X (fun cls d _ H' => E cls d H')) (ha : PE X a (tM (cn X ts) E am)) (hb : PE X b (tM (cn X ts) E bm)) :
    PE X (.Compare a [.NotEq] [b] pos) (tM (cn X ts) E (eNeO C m am bm)) := pe_w (pe_cmpR (op_neM c hr tk) ha hb (nomark _)) (neO_go c.ar)
theorem mt_neO {C : Addr} {ps : List Str} {m : FM} {a b : Expr} {am bm : EM} (c : ClS X.prog X.w X.K X.mg X.base ts k (NeC X.K C) ps m) (hr : Room (k + 1) X.A) (tk : Takes X (fun cls d _ H' => E cls d H')) (ha : PE X a (tM (cn X ts) E am)) (hb : PE X b (tM (cn X ts) E bm)) :
    PT X (.Compare a [.NotEq] [b] pos) (tB (cn X ts) E (eNeO C m am bm)) := mt_cmp (pt_cmpR (op_neM c hr tk) ha hb (nomark _)) (neO_go c.ar)
end
/-! ### the ear -/
def hearX (e : Nat → Addr) (Is : List Nat) (cs : List Ce) (Q : RK) : XC := fun x μ' => cs <+: μ'.cs ∧ ∃ i ∈ Is, x.c = e i ∧
  ((i < 11 ∧ x.fs = [] ∧ Q (.d (.tup [.str (errW i), .non])) ⟨cs, μ'.T⟩) ∨ ((i = 11 ∨ i = 12) ∧ ∃ v, x.fs = [(("at" : Str), v)] ∧ Q (.d (.tup [.str (errW i), v])) ⟨cs, μ'.T⟩) ∨ (i = 13 ∧ ∃ v, x.fs = [(("history" : Str), v)] ∧ Q (.d (.tup [.str (errW i), v])) ⟨cs, μ'.T⟩))
def eHear (e : Nat → Addr) (Is : List Nat) (b : EM) : EM := fun ς μ E Q => b ς μ (hearX e Is μ.cs Q) fun r μ' => match r with | .d y => μ.cs <+: μ'.cs ∧ Q (.d (.tup [.str "told", y])) ⟨μ.cs, μ'.T⟩ | _ => False
theorem Sim.extN {c : Cn} {W : Wo} {μ : Sto} {H H' : Hp} (S : Sim c W μ H) (x : ExtN H H') (ht : Tabs c.ts H') : Sim c W μ H' where
  ex := exN S.ex S.nt x
  nt := S.nt
  len := S.len
  nd := S.nd
  out := S.out
  ntc := fun a ha ps z => by
    cases hq : H a with
    | none => exact S.nin hq ha
    | some o =>
      have := x a o hq (fun ps y => S.ntc a ha ps (by rw [hq, y]))
      rw [z] at this
      cases this
      exact S.ntc a ha ps hq
  cel := fun n a e h1 h2 => by
    have ha := List.mem_of_getElem? h1
    have m := S.cel n a e h1 h2
    cases hq : H a with
    | none => exact absurd ha (S.nin hq)
    | some o =>
      rw [hq] at m
      rw [x a o hq (fun ps y => S.ntc a ha ps (by rw [hq, y]))]
      exact m
  src := by
    have := S.src
    unfold SrcOk at *
    match hS : W.S, this with
    | none, _ => trivial
    | some (sa, la, ca), ⟨d, f⟩ => exact ⟨Dr.exN d x, f⟩
  tab := ht
  zx := exN S.zx S.zt x
  zt := S.zt
  zd := S.zd
  tp := S.tp
theorem hear_go {c : Cn} {E : XK} {e : Nat → Addr} {Is : List Nat} {b : EM} : ∀ σ H Q, tM c E (eHear e Is b) σ H Q → tLam c.ts (THd e Is) (fun E' => tM c E' b) σ H Q := fun σ H Q ⟨W, ς, μ, Ec, Qc, S, L, G, m, q⟩ => by
  refine ⟨S.tab, fun H1 xN T1 H0 Ech Kc x0 hE hK => ?_⟩
  have S1 : Sim c W μ H0 := (S.extN xN T1).more x0 (tabs_ex T1 x0)
  have fin : ∀ {W' : Wo} {μ' : Sto} {H' H'' : Hp} {y : D} {w : Str} {v : V} {p : Addr}, μ.cs <+: μ'.cs → Qc (.d (.tup [.str w, y])) ⟨μ.cs, μ'.T⟩ → W.le W' → Sim c W' μ' H' → MV c W'.F y v → H' p = none → Ex H' H'' → H'' p = some (.tup [.str w, v]) → Q (.ref p) H'' := fun {W' μ' H' H'' y w v p} hp h l S' mv n ex hq => by
    have S2 := S1.pop S' l hp
    obtain ⟨W3, l3, S3, h3, _⟩ := S2.news ex [(p, .tup [.str w, v])] (fun x hx => by rw [List.mem_singleton.mp hx]; exact ⟨n, hq, fun _ z => by cases z⟩)
    refine q _ _ _ _ _ h (l.pop.trans l3) S3 (MV.tup (.inl (.inl (h3 _ List.mem_cons_self))) (.cons (.str w) (.cons ?_ .nil)))
    exact MV.mono l3.F mv
  refine ⟨W, ς, μ, _, _, S1, L, ?_, m, ?_⟩
  · intro x μ' W' H' cls d ⟨hp, i, hi, hc, hh⟩ l S' ⟨mc, mx⟩
    refine hE _ _ _ ⟨i, hi, by rw [mc, hc], ?_⟩
    rcases hh with ⟨h11, hf, hq⟩ | ⟨h12, v, hf, hq⟩ | ⟨h13, v, hf, hq⟩
    · rcases mx with ⟨_, hd⟩ | ⟨hne, _⟩
      · exact .inl ⟨h11, hd, fun p H'' ex n hh => fin hp hq l S' .non n ex hh⟩
      · exact absurd hf hne
    · rcases mx with ⟨hz, _⟩ | ⟨_, dd, vf, hd, h1, h2, h3⟩
      · rw [hf] at hz; cases hz
      · rw [hf] at h2 h3
        match vf, h2, h3 with
        | [(n1, v1)], h2, .cons m1 .nil =>
          obtain rfl : n1 = "at" := by simpa using h2
          exact .inr (.inl ⟨h12, dd, _, v1, hd, h1, by simp [List.lookup], fun p H'' ex n hh => fin hp hq l S' m1 n ex hh⟩)
    · rcases mx with ⟨hz, _⟩ | ⟨_, dd, vf, hd, h1, h2, h3⟩
      · rw [hf] at hz; cases hz
      · rw [hf] at h2 h3
        match vf, h2, h3 with
        | [(n1, v1)], h2, .cons m1 .nil =>
          obtain rfl : n1 = "history" := by simpa using h2
          exact .inr (.inr ⟨h13, dd, _, v1, hd, h1, by simp [List.lookup], fun p H'' ex n hh => fin hp hq l S' m1 n ex hh⟩)
  · intro r μ' W' H' v h l S' mv
    match r, h, mv with
    | .d y, ⟨hp, h⟩, mv => exact hK _ _ fun p n => fin hp h l S' mv n (exn n) upd_same
end Eg
/-! the engine: repr, enumerate, zip, fields of classes -/
namespace Eg
open Evl (Ex)
open PySem PySem.Spec PyProof.Rows L2 Sn LamX
/-- a class and the fields that its instances bear -/
structure Fl (K : PySem.W.Frag) (C : Addr) (fs : List Str) : Prop where
  cls : Cls K C
  na : ∀ f ∈ fs, NoAttr K C f
/-! ### repr -/
mutual
def pq : D → Option PyData
  | .non => some .none
  | .bl b => some (.bool b)
  | .int i => some (.int i)
  | .str s => some (.str s)
  | .tup xs => (pqs xs).map .tuple
  | .lst xs => (pqs xs).map .list
  | .dic kvs => (pqk kvs).map .dict
  | .dit _ => none
  | .set _ => none
  | .obj _ _ => none
def pqs : List D → Option (List PyData)
  | [] => some []
  | x :: r => (pq x).bind fun a => (pqs r).map (a :: ·)
def pqk : List (Key × D) → Option (List (PyData × PyData))
  | [] => some []
  | (k, x) :: r => (pq x).bind fun a => (pqk r).map ((kD k, a) :: ·)
end
section
variable {c : Cn} {F H : Hp}
mutual
theorem pq_dq (e : Ex F H) : ∀ {x : D} {v : V} {d : PyData}, MV c F x v → pq x = some d → Dq c.k H v d
  | .non, _, _, m, h => by cases m; simp only [pq] at h; cases h; exact .non
  | .bl _, _, _, m, h => by cases m; simp only [pq] at h; cases h; exact .bl _
  | .int _, _, _, m, h => by cases m; simp only [pq] at h; cases h; exact .int _
  | .str _, _, _, m, h => by cases m; simp only [pq] at h; cases h; exact .str _
  | .tup xs, _, _, m, h => by
    cases m with
    | tup a b =>
      simp only [pq] at h
      cases hd : pqs xs with
      | none => rw [hd] at h; cases h
      | some ds => rw [hd] at h; cases h; exact .tup (sqT_mono e a) (pqs_dq e b hd)
  | .lst xs, _, _, m, h => by
    cases m with
    | lst a b =>
      simp only [pq] at h
      cases hd : pqs xs with
      | none => rw [hd] at h; cases h
      | some ds => rw [hd] at h; cases h; exact .lst (.inl (rd_mono e a)) (pqs_dq e b hd)
  | .dic kvs, _, _, m, h => by
    cases m with
    | dic a b d =>
      simp only [pq] at h
      cases hd : pqk kvs with
      | none => rw [hd] at h; cases h
      | some ds =>
        rw [hd] at h
        cases h
        obtain ⟨h1, h2⟩ := pqk_dq e d hd
        refine .dct (.inr ⟨_, e _ _ a⟩) ?_ h2
        rw [h1]
        have : ∀ {kw : List (Key × V)} {kvs : List (Key × D)}, kw.map (·.1) = kvs.map (·.1) → (kvs.map fun kv => kD kv.1) = kw.map fun kv => kD kv.1 := fun {kw kvs} z => by
          have e1 : (kvs.map fun kv => kD kv.1) = (kvs.map (·.1)).map kD := by rw [List.map_map]; rfl
          have e2 : (kw.map fun kv => kD kv.1) = (kw.map (·.1)).map kD := by rw [List.map_map]; rfl
          rw [e1, e2, z]
        exact this b
  | .dit _, _, _, _, h => by simp [pq] at h
  | .set _, _, _, _, h => by simp [pq] at h
  | .obj _ _, _, _, _, h => by simp [pq] at h
theorem pqs_dq (e : Ex F H) : ∀ {xs : List D} {vs : List V} {ds : List PyData}, MVs c F xs vs → pqs xs = some ds → DqAll c.k H vs ds
  | [], _, _, m, h => by cases m; simp only [pqs] at h; cases h; exact .nil
  | x :: r, _, _, m, h => by
    cases m with
    | cons a b =>
      simp only [pqs] at h
      cases hx : pq x with
      | none => rw [hx] at h; cases h
      | some d =>
        cases hr : pqs r with
        | none => rw [hx, hr] at h; cases h
        | some t => rw [hx, hr] at h; cases h; exact .cons (pq_dq e a hx) (pqs_dq e b hr)
theorem pqk_dq (e : Ex F H) : ∀ {kvs : List (Key × D)} {vs : List V} {ds : List (PyData × PyData)}, MVs c F (kvs.map (·.2)) vs → pqk kvs = some ds → ds.map (·.1) = kvs.map (fun kv => kD kv.1) ∧ DqAll c.k H vs (ds.map (·.2))
  | [], _, _, m, h => by cases m; simp only [pqk] at h; cases h; exact ⟨rfl, .nil⟩
  | (k, x) :: r, _, _, m, h => by
    cases m with
    | cons a b =>
      simp only [pqk] at h
      cases hx : pq x with
      | none => rw [hx] at h; cases h
      | some d =>
        cases hr : pqk r with
        | none => rw [hx, hr] at h; cases h
        | some t =>
          rw [hx, hr] at h
          cases h
          obtain ⟨i1, i2⟩ := pqk_dq e b hr
          exact ⟨by simp only [List.map_cons, i1], .cons (pq_dq e a hx) i2⟩
end
theorem pq_tv {x : D} {v : V} {d : PyData} (e : Ex F H) (t : TV c F H x v) (h : pq x = some d) : Dq c.k H v d := by
  cases x with
  | non => cases t; simp only [pq] at h; cases h; exact .non
  | bl _ => cases t; simp only [pq] at h; cases h; exact .bl _
  | int _ => cases t; simp only [pq] at h; cases h; exact .int _
  | str _ => cases t; simp only [pq] at h; cases h; exact .str _
  | tup xs =>
    obtain ⟨p, vs, rfl, s1, m1⟩ := t
    exact pq_dq e (.tup s1 m1) h
  | lst xs =>
    obtain ⟨p, vs, rfl, s1, m1⟩ := t
    simp only [pq] at h
    cases hd : pqs xs with
    | none => rw [hd] at h; cases h
    | some ds => rw [hd] at h; cases h; exact .lst (.inl s1) (pqs_dq e m1 hd)
  | dic kvs =>
    obtain ⟨p, kw, rfl, s1, k1, m1⟩ := t
    simp only [pq] at h
    cases hd : pqk kvs with
    | none => rw [hd] at h; cases h
    | some ds =>
      rw [hd] at h
      cases h
      obtain ⟨h1, h2⟩ := pqk_dq e m1 hd
      refine .dct s1 ?_ h2
      rw [h1]
      have e1 : (kvs.map fun kv => kD kv.1) = (kvs.map (·.1)).map kD := by rw [List.map_map]; rfl
      have e2 : (kw.map fun kv => kD kv.1) = (kw.map (·.1)).map kD := by rw [List.map_map]; rfl
      rw [e1, e2, k1]
  | _ => simp [pq] at h
end
/-- what repr can show -/
def okRp (d : PyData) : Bool := (!d.hasDict || lfree d || (match d with | .list ds => !ds.isEmpty && ds.all fun e => !e.hasDict || lfree e | _ => false)) && d.showable && decide (d.depth ≤ 40) && decide (d.shown.length ≤ sizeLine)
def reprD (x : D) : Option D := (pq x).bind fun d => if okRp d = true then some (.str d.shown) else none
def eRepr (a : EM) : EM := ePur1 reprD a
def rRpA (K : PySem.W.Frag) : List V → Hp → VK → Prop := fun xs H Q => ∃ (x : V) (d : PyData), xs = [x] ∧ Dq K H x d ∧ okRp d = true ∧ Q (.str d.shown) H
theorem okD_of {d : PyData} (h : (!d.hasDict || lfree d) = true) : okD d := by
  rcases Bool.or_eq_true_iff.mp h with h | h
  · exact .inl (by simpa using h)
  · exact .inr h
theorem call_rpA {X : Cx} (hg : Still X.A) (hu : X.A.units + 64 < cLine) : CallR X (.builtin "repr") (rRpA X.K) := by
  intro pins s σ H xs us Q I r h
  obtain ⟨x, d, rfl, hd, ok, q⟩ := h
  unfold okRp at ok
  simp only [Bool.and_eq_true, decide_eq_true_eq] at ok
  obtain ⟨⟨⟨ho, hs⟩, hdp⟩, hz⟩ := ok
  cases x with
  | ref a =>
    refine call_rp hg hu pins s σ H _ us Q I r ⟨a, d, rfl, hd, ?_, hs, hdp, hz, q⟩
    rcases Bool.or_eq_true_iff.mp ho with ho | ho
    · exact .inl (okD_of ho)
    · cases d with
      | list ds =>
        simp only [Bool.and_eq_true, List.all_eq_true] at ho
        exact .inr ⟨ds, rfl, (fun z => by rw [z] at ho; simp at ho), fun e he => okD_of (ho.2 e he)⟩
      | _ => cases ho
  | non =>
    obtain ⟨u, rfl, ru⟩ := vals1 r
    cases ru
    cases hd
    exact P.repr_of_none ⟨.str _, H, I.tok _, ⟨_, rfl⟩, q⟩
  | bl b =>
    obtain ⟨u, rfl, ru⟩ := vals1 r
    cases ru
    cases hd
    exact P.repr_of_bool ⟨.str _, H, I.tok _, ⟨_, rfl⟩, q⟩
  | int i =>
    obtain ⟨u, rfl, ru⟩ := vals1 r
    obtain ⟨t, rfl⟩ := ru
    cases hd
    exact P.repr_of_int (by simpa [PyData.showable] using hs) ⟨.str _, H, I.tok _, ⟨_, rfl⟩, q⟩
  | str z =>
    obtain ⟨u, rfl, ru⟩ := vals1 r
    obtain ⟨t, rfl⟩ := ru
    cases hd
    exact P.repr_of_str ⟨.str _, H, I.tok _, ⟨_, rfl⟩, q⟩ hz
  | _ => cases hd
theorem o_repr {c : Cn} : Op1 c (fun v H Q => rRpA c.k [v] H Q) reprD := by
  intro W μ H x v z Q S tx hz hr
  unfold reprD at hz
  cases hd : pq x with
  | none => rw [hd] at hz; cases hz
  | some d =>
    rw [hd] at hz
    simp only [Option.bind_some] at hz
    split at hz
    · rename_i ok
      cases hz
      exact ⟨v, d, rfl, pq_tv S.ex tx hd, ok, hr.str S⟩
    · cases hz
section
variable {X : Cx} {ts : List (Addr × Str)} {E : XK} {pos : Pos}
theorem me_repr {k : Nat} {e : Expr} {m : EM} {p : Pos} (hs : Still X.A) (hr : Room k X.A) (hm : X.mg "repr" = none) (he : PE X e (tM (cn X ts) E m)) (hg : Gl X "repr" := by rfl) (hst : starEach [e] X.env = (false, eval e X.env) :: starEach [] X.env := by rfl) (hpl : (backTo pos (starEach [] X.env)).any (·.1) = false := by rfl) :
    PE X (.Call (.Name "repr" p) [e] [] pos) (tM (cn X ts) E (eRepr m)) := me_b1 (call_rpA hs hr.units) o_repr hm boot_repr he hg (by decide) (by decide) hst hpl
end
/-! ### enumerate of a tuple -/
theorem it_enuT {c : Cn} {W : Wo} {a : Addr} {xs : List D} {vs : List V} (hs : SqT c.k W.F a vs) (m : MVs c W.F xs vs) : ItOk c W (IteT c.k a vs) (xs.zipIdx.map fun x => .d (.tup [.int (x.2 : Nat), x.1])) := by
  have hl := m.len
  have wk := walk_enumT (K := c.k) (a := a) (xs := vs)
  refine ⟨fun i W' μ H l S hi => ?_, fun i W' μ H x H' l S hi hy => ?_, fun i W' μ H l S hi => ?_⟩
  · exact ⟨sqT_mono S.ex (sqT_mono l.F hs), by simpa [hl] using hi⟩
  · obtain ⟨T, x', h1, h2, h3, h4⟩ := hy
    subst h1 h3
    obtain ⟨y, g1, g2⟩ := m.get' h4
    refine ⟨W'.add T (.tup [.int (i : Nat), x']), .d (.tup [.int (i : Nat), y]), S.addLe h2, S.add h2 (fun _ z => by cases z), ?_, MV.tup (.inl (.inl upd_same)) (.cons (.int _) (.cons (MV.mono (ext l.F (S.addLe h2).F) g2) .nil))⟩
    rw [List.getElem?_map, List.getElem?_zipIdx, g1]
    simp
  · exact ⟨sqT_mono S.ex (sqT_mono l.F hs), by simpa [hl] using hi⟩
end Eg
/-! the engine: == of nested tuples, lists and dicts -/
namespace Eg
open Evl (Ex)
open PySem PySem.Spec PyProof.Rows L2 Sn LamX
def eqL (f : D → D → Option Bool) : List D → List D → Option Bool
  | [], [] => some true
  | [], _ :: _ => some false
  | _ :: _, [] => some false
  | x :: xs, y :: ys => (f x y).bind fun a => (eqL f xs ys).map fun b => a && b
def eqK (f : D → D → Option Bool) (ls : List (Key × D)) : List (Key × D) → Option Bool
  | [] => some true
  | (k, x) :: r => match valD ls k with
    | none => some false
    | some y => (f x y).bind fun a => (eqK f ls r).map fun b => a && b
def eqT : Nat → D → D → Option Bool
  | 0, _, _ => none
  | _ + 1, .non, .non => some true
  | _ + 1, .bl a, .bl b => some (decide (a = b))
  | _ + 1, .int a, .int b => some (decide (a = b))
  | _ + 1, .str a, .str b => some (decide (a = b))
  | n + 1, .tup xs, .tup ys => eqL (eqT n) xs ys
  | n + 1, .lst xs, .lst ys => eqL (eqT n) xs ys
  | n + 1, .dic ks, .dic ls => if (ks.map (·.1)).Nodup then (if ks.length = ls.length then eqK (eqT n) ls ks else some false) else none
  | _ + 1, _, _ => none
theorem rd_uniq {H : Hp} {p : Addr} {u u' : HO} (n : ∀ o x, u ≠ .frz o x) (n' : ∀ o x, u' ≠ .frz o x) (a : Rd H p u) (b : Rd H p u') : u = u' := by
  rcases a with a | ⟨o, a⟩ <;> rcases b with b | ⟨o', b⟩ <;> rw [a] at b
  · exact Option.some.inj b
  · exact absurd (Option.some.inj b) (n _ _)
  · exact absurd (Option.some.inj b).symm (n' _ _)
  · injection Option.some.inj b
section
variable {X : Cx} {pins : List (Addr × Obj)} {σ : L2.St} {H F : Hp} {s : Shared} {ts : List (Addr × Str)}
theorem tup_items (I : Inv X pins σ H s) {p : Addr} {vs vs' : List V} (a : SqT X.K H p vs) (b : SqT X.K H p vs') : vs = vs' := by
  obtain ⟨us, r1, p1, z1⟩ := I.tuple a
  obtain ⟨us', r2, p2, z2⟩ := I.tuple b
  obtain ⟨o, ho, hc, n, hd⟩ := p1
  obtain ⟨o', ho', hc', n', hd'⟩ := p2
  rw [ho] at ho'
  cases ho'
  rw [hd] at hd'
  have e : us.toArray = us'.toArray := by injection hd'
  have e : us = us' := by simpa using congrArg Array.toList e
  subst e
  clear z1 z2 hd hd' ho hc hc' a b
  induction r1 generalizing vs' with
  | nil => cases r2; rfl
  | cons a1 _ ih =>
    cases r2 with
    | cons a2 b2 => rw [RelV.inj a1 a2, ih b2 rfl]
theorem eqL_same {f : D → D → Option Bool} (ih : ∀ x y v b, TV (cn X ts) F H x v → TV (cn X ts) F H y v → f x y = some b → b = true) (e : Ex F H) : ∀ {xs ys : List D} {vs : List V} {b : Bool}, MVs (cn X ts) F xs vs → MVs (cn X ts) F ys vs → eqL f xs ys = some b → b = true
  | [], _, _, _, .nil, .nil, h => by simp only [eqL] at h; cases h; rfl
  | x :: xs, _, _, b, .cons a1 b1, .cons (x := y) (xs := ys) a2 b2, h => by
    simp only [eqL] at h
    cases h1 : f x y with
    | none => rw [h1] at h; cases h
    | some p =>
      cases h2 : eqL f xs ys with
      | none => rw [h1, h2] at h; cases h
      | some q =>
        rw [h1, h2] at h
        have := ih x y _ p (TV.of e a1) (TV.of e a2) h1
        have := eqL_same ih e b1 b2 h2
        cases h
        simp [*]
theorem val_self {κ : Type} [DecidableEq κ] : ∀ {kvs : List (κ × D)} {kv : κ × D}, (kvs.map (·.1)).Nodup → kv ∈ kvs → valD kvs kv.1 = some kv.2
  | (k, x) :: r, kv, n, m => by
    rw [List.map_cons, List.nodup_cons] at n
    unfold valD
    rw [List.find?_cons]
    rcases List.mem_cons.mp m with rfl | m
    · simp
    · have : ¬ k = kv.1 := fun z => n.1 (by rw [z]; exact List.mem_map_of_mem (f := (·.1)) m)
      simp only [this, decide_false]
      exact val_self n.2 m
theorem eqK_same {f : D → D → Option Bool} (ih : ∀ x y v b, TV (cn X ts) F H x v → TV (cn X ts) F H y v → f x y = some b → b = true) (e : Ex F H) (ls : List (Key × D)) : ∀ {ks : List (Key × D)} {kw : List (Key × V)} {b : Bool}, (∀ kv ∈ kw, ∃ y, valD ls kv.1 = some y ∧ MV (cn X ts) F y kv.2) → kw.map (·.1) = ks.map (·.1) → MVs (cn X ts) F (ks.map (·.2)) (kw.map (·.2)) → eqK f ls ks = some b → b = true
  | [], _, _, _, _, _, h => by simp only [eqK] at h; cases h; rfl
  | (k, x) :: r, [], _, _, hk, _, h => by cases hk
  | (k, x) :: r, (k', v) :: kw, b, hl, hk, hm, h => by
    rw [List.map_cons, List.map_cons] at hk
    injection hk with hk1 hk2
    have hk1 : k' = k := hk1
    subst hk1
    cases hm with
    | cons a1 b1 =>
      obtain ⟨y, hy, my⟩ := hl _ (.head _)
      simp only [eqK] at h
      rw [hy] at h
      simp only at h
      cases h1 : f x y with
      | none => rw [h1] at h; cases h
      | some p =>
        cases h2 : eqK f ls r with
        | none => rw [h1, h2] at h; cases h
        | some q =>
          rw [h1, h2] at h
          have := ih x y _ p (TV.of e a1) (TV.of e my) h1
          have := eqK_same ih e ls (fun kv m => hl kv (.tail _ m)) hk2 b1 h2
          cases h
          simp [*]
theorem eqT_same (I : Inv X pins σ H s) (e : Ex F H) : ∀ (n : Nat) (x y : D) (v : V) (b : Bool), TV (cn X ts) F H x v → TV (cn X ts) F H y v → eqT n x y = some b → b = true
  | 0, _, _, _, _, _, _, h => by simp [eqT] at h
  | n + 1, x, y, v, b, tx, ty, h => by
    unfold eqT at h
    split at h
    · rename_i z; cases z
    · cases h; rfl
    · cases tx; cases ty; cases h; simp
    · cases tx; cases ty; cases h; simp
    · cases tx; cases ty; cases h; simp
    · rename_i hn
      cases hn
      obtain ⟨p, vs, rfl, s1, m1⟩ := tx
      obtain ⟨p', vs', e2, s2, m2⟩ := ty
      cases e2
      have := tup_items I (sqT_mono e s1) (sqT_mono e s2)
      subst this
      exact eqL_same (fun x y v b => eqT_same I e n x y v b) e m1 m2 h
    · rename_i hn
      cases hn
      obtain ⟨p, vs, rfl, s1, m1⟩ := tx
      obtain ⟨p', vs', e2, s2, m2⟩ := ty
      cases e2
      have := rd_uniq (fun _ _ z => by cases z) (fun _ _ z => by cases z) s1 s2
      cases this
      exact eqL_same (fun x y v b => eqT_same I e n x y v b) e m1 m2 h
    · rename_i ks ls hn
      cases hn
      obtain ⟨p, kw, rfl, s1, k1, m1⟩ := tx
      obtain ⟨p', kw', e2, s2, k2, m2⟩ := ty
      cases e2
      have := rd_uniq (fun _ _ z => by cases z) (fun _ _ z => by cases z) s1 s2
      cases this
      split at h
      · rename_i nd
        have hl : ks.length = ls.length := by have := congrArg List.length (k1.symm.trans k2); simpa using this
        rw [if_pos hl] at h
        refine eqK_same (fun x y v b => eqT_same I e n x y v b) e ls (fun kv hkv => ?_) k1 m1 h
        have nw : (kw.map (·.1)).Nodup := k1 ▸ nd
        have hv : valV kw kv.1 = some kv.2 := by
          clear h m1 m2 k1 k2 s1 s2
          induction kw with
          | nil => cases hkv
          | cons a r ih =>
            rw [List.map_cons, List.nodup_cons] at nw
            rcases List.mem_cons.mp hkv with rfl | m
            · simp [valV]
            · have : ¬ a.1 = kv.1 := fun z => nw.1 (z ▸ List.mem_map_of_mem m)
              have := ih m nw.2
              unfold valV at this ⊢
              rw [List.find?_cons]
              simp only [*, decide_false]
        rcases val_mv (k := kv.1) k2 m2 with ⟨_, h2⟩ | ⟨y, v, h1, h2, h3⟩
        · rw [hv] at h2; cases h2
        · rw [hv] at h2; cases h2; exact ⟨y, h1, h3⟩
      · cases h
    · cases h
/-- tuples, items read by EqP -/
theorem tup_eqIn {prog : Program} {w : World} (l b : Addr) (az bz : Array Value) (n n2 : Nat) (dd dd2 : Option Addr) (sl sl2 : Array (Option Value)) (e : Nat → Bool) :
    MeetsIn prog w (Builtin.«tuple.__eq__» ⟨[.ref l, .ref b], []⟩)
      (fun A R s => s.heap.get? l = some { cls := .type "tuple", dict := dd, data := .seq az n, slots := sl } ∧ s.heap.get? b = some { cls := .type "tuple", dict := dd2, data := .seq bz n2, slots := sl2 } ∧
        (∀ j (h1 : j < az.size) (h2 : j < bz.size), SeqAt.EqP prog w A.in1 s az[j] bz[j] (e j)) ∧
        R (.ok (.ret (.bool ((List.range (min az.size bz.size)).all e && az.size == bz.size)))) s) := by
  intro A R s h
  obtain ⟨hp, g, d, tk, os⟩ := s
  obtain ⟨hl, hb, he, h⟩ := h
  have f2 := AutoSeq1.sub_tuple_tuple
  have hZ : (az.toList.zip bz.toList).length = min az.size bz.size := by simp
  wp_walk using AutoSeq1.wpAny_loadPart' hl, AutoSeq1.wpAny_loadPart' hb, wpAny_forIn_list _ (fun rest b s' => b.1 = none ∧ s' = ⟨hp, g, d, tk, os⟩ ∧ ∃ i, rest = (az.toList.zip bz.toList).drop i ∧
    R (.ok (.ret (.bool (((List.range (min az.size bz.size)).drop i).all e && az.size == bz.size)))) ⟨hp, g, d, tk, os⟩) _
  case turn =>
    rintro ⟨y, x⟩ rest b s' ⟨kB, rfl, i, kZ, kR⟩
    have kL : i < (az.toList.zip bz.toList).length := Nat.lt_of_not_le fun h' => by
      rw [List.drop_of_length_le h'] at kZ; cases kZ
    have kM : i < min az.size bz.size := hZ ▸ kL
    have h1 : i < az.size := by omega
    have h2 : i < bz.size := by omega
    rw [List.drop_eq_getElem_cons kL] at kZ
    injection kZ with kP kT
    have hy : y = az[i] := by simpa using congrArg Prod.fst kP
    have hx : x = bz[i] := by simpa using congrArg Prod.snd kP
    subst hy hx
    have hd : (List.range (min az.size bz.size)).drop i = i :: (List.range (min az.size bz.size)).drop (i + 1) := by simp [List.drop_eq_getElem_cons, kM]
    rw [hd, List.all_cons] at kR
    refine wpAny_bind (he i h1 h2 _ _ ?_)
    cases hy : e i with
    | true =>
      rw [hy] at kR
      wp_walk
      exact ⟨rfl, rfl, i + 1, kT, by simpa using kR⟩
    | false =>
      rw [hy] at kR
      wp_walk
      simpa using kR
  case fin =>
    rintro ⟨b1, b2⟩ s' ⟨kB, rfl, i, kZ, kR⟩
    simp only at kB
    subst kB
    have kG : min az.size bz.size ≤ i := Nat.le_of_not_lt fun h' => by
      rw [List.drop_eq_getElem_cons (by omega)] at kZ; cases kZ
    rw [List.drop_of_length_le (by simpa using kG)] at kR
    wp_walk
    simpa [Builtin.Tuple.tupleCompareSizes] using kR
  case h =>
    exact ⟨rfl, rfl, 0, rfl, by simpa using h⟩
theorem rcT {prog : Program} {w : World} {A : Around} {l b : Addr} {az bz : Array Value} {e : Nat → Bool} (hl : s.heap.IsTuple l az) (hb : s.heap.IsTuple b bz) (hu : A.units < cLine)
    (he : ∀ j (h1 : j < az.size) (h2 : j < bz.size), SeqAt.EqP prog w A.in1 s az[j] bz[j] (e j)) (E Q : Value → Shared → Prop) (h : Q (.bool ((List.range (min az.size bz.size)).all e && az.size == bz.size)) s) : wpAny (model prog w) A (richCompare .Eq (.ref l) (.ref b)) Q E s := by
  obtain ⟨⟨c1, dd, t1, sl⟩, ho, hc, n, hd⟩ := id hl
  obtain ⟨⟨c2, dd2, t2, sl2⟩, ho2, hc2, n2, hd2⟩ := id hb
  simp only at hc hd hc2 hd2
  subst hc hd hc2 hd2
  have ta : s.TypeIs (.ref l) "tuple" := ⟨_, ho, rfl⟩
  have tb : s.TypeIs (.ref b) "tuple" := ⟨_, ho2, rfl⟩
  exact wpAny_richCompare_same_room (op := .Eq) ta tb PySem.F.slot_tuple_eq (call_meetsIn PySem.F.slot_tuple_eq ta PySem.F.entry_tuple_eq (PySem.F.args_tuple_eq_2 _ _) (tup_eqIn l b az bz n n2 dd dd2 sl sl2 e)
    ⟨ho, ho2, he, show Value.bool ((List.range (min az.size bz.size)).all e && az.size == bz.size) ≠ Value.notImplemented ∧ Q (.bool ((List.range (min az.size bz.size)).all e && az.size == bz.size)) s from ⟨(fun x => nomatch x), h⟩⟩) hu
/-- the items' answers, one by one -/
theorem eqL_at {f : D → D → Option Bool} : ∀ {xs ys : List D} {b : Bool}, eqL f xs ys = some b → ∃ e : Nat → Bool, (∀ j x y, xs[j]? = some x → ys[j]? = some y → f x y = some (e j)) ∧ b = ((List.range (min xs.length ys.length)).all e && xs.length == ys.length)
  | [], [], _, h => by simp only [eqL] at h; cases h; exact ⟨fun _ => true, fun j x y h => by simp at h, rfl⟩
  | [], _ :: _, _, h => by simp only [eqL] at h; cases h; exact ⟨fun _ => true, fun j x y h => by simp at h, by simp⟩
  | _ :: _, [], _, h => by simp only [eqL] at h; cases h; exact ⟨fun _ => true, fun j x y _ h => by simp at h, by simp⟩
  | x :: xs, y :: ys, b, h => by
    simp only [eqL] at h
    cases h1 : f x y with
    | none => rw [h1] at h; cases h
    | some p =>
      cases h2 : eqL f xs ys with
      | none => rw [h1, h2] at h; cases h
      | some q =>
        rw [h1, h2] at h
        cases h
        obtain ⟨e, he, hb⟩ := eqL_at h2
        refine ⟨fun j => match j with | 0 => p | j + 1 => e j, fun j u v hu hv => ?_, ?_⟩
        · cases j with
          | zero =>
            simp only [List.getElem?_cons_zero] at hu hv
            cases hu; cases hv
            exact h1
          | succ j =>
            simp only [List.getElem?_cons_succ] at hu hv
            exact he j u v hu hv
        · have em : min (x :: xs).length (y :: ys).length = min xs.length ys.length + 1 := by simp only [List.length_cons]; omega
          rw [em, List.range_succ_eq_map, List.all_cons, List.all_map, hb]
          have : ((x :: xs).length == (y :: ys).length) = (xs.length == ys.length) := by
            rw [Bool.eq_iff_iff]; simp
          rw [this, Bool.and_assoc]
          rfl
end
section
variable {X : Cx} {pins : List (Addr × Obj)} {σ : L2.St} {H F : Hp} {s : Shared} {ts : List (Addr × Str)}
theorem items_eq {A : Around} {f : D → D → Option Bool} (e : Ex F H) (ih : ∀ x y v u vv uu b, TV (cn X ts) F H x v → TV (cn X ts) F H y u → RelV v vv → RelV u uu → f x y = some b → SeqAt.EqP X.prog X.w A s vv uu b)
    {xs ys : List D} {vs us : List V} {va ua : List Value} {ef : Nat → Bool} (mx : MVs (cn X ts) F xs vs) (my : MVs (cn X ts) F ys us) (rx : Vals vs va) (ry : Vals us ua) (he : ∀ j x y, xs[j]? = some x → ys[j]? = some y → f x y = some (ef j)) :
    ∀ j (h1 : j < va.toArray.size) (h2 : j < ua.toArray.size), SeqAt.EqP X.prog X.w A s va.toArray[j] ua.toArray[j] (ef j) := by
  intro j h1 h2
  have l1 : vs.length = va.length := rx.length
  have l2 : us.length = ua.length := ry.length
  have k1 : j < vs.length := by rw [l1]; simpa using h1
  have k2 : j < us.length := by rw [l2]; simpa using h2
  obtain ⟨v', g1, r1⟩ := rx.get (List.getElem?_eq_getElem k1)
  obtain ⟨u', g2, r2⟩ := ry.get (List.getElem?_eq_getElem k2)
  obtain ⟨x, g3, m3⟩ := mx.get' (List.getElem?_eq_getElem k1)
  obtain ⟨y, g4, m4⟩ := my.get' (List.getElem?_eq_getElem k2)
  have e1 : va.toArray[j] = v' := by
    have : va[j]? = some va.toArray[j] := by simp
    rw [this] at g1; exact Option.some.inj g1
  have e2 : ua.toArray[j] = u' := by
    have : ua[j]? = some ua.toArray[j] := by simp
    rw [this] at g2; exact Option.some.inj g2
  rw [e1, e2]
  exact ih x y _ _ _ _ _ (TV.of e m3) (TV.of e m4) r1 r2 (he j x y g3 g4)
theorem hits_eq {A : Around} {f : D → D → Option Bool} (e : Ex F H) (ih : ∀ x y v u vv uu b, TV (cn X ts) F H x v → TV (cn X ts) F H y u → RelV v vv → RelV u uu → f x y = some b → SeqAt.EqP X.prog X.w A s vv uu b)
    {ls : List (Key × D)} {lw : List (Key × V)} {lv : List (Key × Value)} (kl : lw.map (·.1) = ls.map (·.1)) (ml : MVs (cn X ts) F (ls.map (·.2)) (lw.map (·.2))) (rl : KV lw lv) :
    ∀ {ks : List (Key × D)} {kw : List (Key × V)} {kv : List (Key × Value)} {b : Bool}, kw.map (·.1) = ks.map (·.1) → MVs (cn X ts) F (ks.map (·.2)) (kw.map (·.2)) → KV kw kv → eqK f ls ks = some b → PySem.W.KeqHitsP X.prog X.w A s lv kv b
  | [], [], _, b, _, _, r, h => by cases r; simp only [eqK] at h; cases h; exact .nil
  | [], _ :: _, _, _, h, _, _, _ => by cases h
  | _ :: _, [], _, _, h, _, _, _ => by cases h
  | (k, x) :: r, (k', v) :: kw, kv, b, hk, hm, hr, h => by
    rw [List.map_cons, List.map_cons] at hk
    injection hk with hk1 hk2
    have hk1 : k' = k := hk1
    subst hk1
    cases hm with
    | cons a1 b1 =>
      unfold KV at hr
      cases hr with
      | @cons _ q _ qs h1 t =>
        obtain ⟨key, vv⟩ := q
        obtain ⟨h3, h4⟩ := h1
        have h3 : k' = key := h3
        subst h3
        simp only [eqK] at h
        have rv := rl.val k'
        rcases val_mv (k := k') kl ml with ⟨n1, n2⟩ | ⟨y, u, n1, n2, n3⟩
        · rw [n1] at h
          cases h
          rw [n2] at rv
          refine .miss ?_
          cases hv : valueAt lv k' with
          | none => rfl
          | some z => rw [hv] at rv; exact rv.elim
        · rw [n1] at h
          simp only at h
          rw [n2] at rv
          obtain ⟨z, hz, rz⟩ := rv.some_of
          cases h1 : f x y with
          | none => rw [h1] at h; cases h
          | some p =>
            cases h2 : eqK f ls r with
            | none => rw [h1, h2] at h; cases h
            | some q =>
              rw [h1, h2] at h
              cases h
              exact .hit hz (ih x y _ _ _ _ _ (TV.of e a1) (TV.of e n3) h4 rz h1) (hits_eq e ih kl ml rl hk2 b1 t h2)
/-- a comparison of two containers -/
def boxD : D → Bool
  | .tup _ => true
  | .lst _ => true
  | .dic _ => true
  | _ => false
theorem eqT_rc (I : Inv X pins σ H s) (e : Ex F H) {n : Nat} {A : Around} (hu : A.units < cLine) (ih : ∀ x y v u vv uu b, TV (cn X ts) F H x v → TV (cn X ts) F H y u → RelV v vv → RelV u uu → eqT n x y = some b → SeqAt.EqP X.prog X.w A.in1 s vv uu b)
    {x y : D} {v u : V} {vv uu : Value} {b : Bool} (tx : TV (cn X ts) F H x v) (ty : TV (cn X ts) F H y u) (rx : RelV v vv) (ry : RelV u uu) (hx : boxD x = true) (h : eqT (n + 1) x y = some b) (E Q : Value → Shared → Prop) (q : Q (.bool b) s) : wpAny (model X.prog X.w) A (richCompare .Eq vv uu) Q E s := by
  cases x with
  | tup xs =>
    cases y with
    | tup ys =>
      simp only [eqT] at h
      obtain ⟨p, vs, rfl, s1, m1⟩ := tx
      obtain ⟨p', vs', rfl, s2, m2⟩ := ty
      cases rx
      cases ry
      obtain ⟨us, r1, p1, _⟩ := I.tuple (sqT_mono e s1)
      obtain ⟨us', r2, p2, _⟩ := I.tuple (sqT_mono e s2)
      obtain ⟨ef, he, hb⟩ := eqL_at h
      refine rcT p1 p2 hu (items_eq e ih m1 m2 r1 r2 he) E Q ?_
      have l1 := m1.len
      have l2 := m2.len
      have l3 := r1.length
      have l4 := r2.length
      rw [hb, l1, l2, l3, l4] at q
      simpa using q
    | _ => simp [eqT] at h
  | lst xs =>
    cases y with
    | lst ys =>
      simp only [eqT] at h
      obtain ⟨p, vs, rfl, s1, m1⟩ := tx
      obtain ⟨p', vs', rfl, s2, m2⟩ := ty
      cases rx
      cases ry
      obtain ⟨us, r1, p1, _⟩ := I.list (.inl s1)
      obtain ⟨us', r2, p2, _⟩ := I.list (.inl s2)
      obtain ⟨ef, he, hb⟩ := eqL_at h
      have l1 := m1.len
      have l2 := m2.len
      have l3 := r1.length
      have l4 := r2.length
      by_cases hz : us.length = us'.length
      · refine SeqAt.rcP_lists p1.isList p2.isList (by simpa using hz) hu (items_eq e ih m1 m2 r1 r2 he) E Q ?_
        rw [hb, l1, l2, l3, l4] at q
        simpa [hz] using q
      · refine SeqAt.RcAt.lists_lengths p1.isList p2.isList (by simpa using hz) hu _ _ _ _ ?_
        rw [hb, l1, l2, l3, l4, show (us.length == us'.length) = false from by simpa using hz, Bool.and_false] at q
        exact q
    | _ => simp [eqT] at h
  | dic ks =>
    cases y with
    | dic ls =>
      simp only [eqT] at h
      obtain ⟨p, kw, rfl, s1, k1, m1⟩ := tx
      obtain ⟨p', kw', rfl, s2, k2, m2⟩ := ty
      cases rx
      cases ry
      obtain ⟨_, ya, va, ra, da⟩ := (show ObjOk X.prog X.w H s.heap p (.dK kw) from s1.ok I.hok)
      obtain ⟨_, yb, vb, rb, db⟩ := (show ObjOk X.prog X.w H s.heap p' (.dK kw') from s2.ok I.hok)
      have l1 : ks.length = va.length := by rw [← ra.length]; simpa using (congrArg List.length k1).symm
      have l2 : ls.length = vb.length := by rw [← rb.length]; simpa using (congrArg List.length k2).symm
      split at h
      · by_cases hz : ks.length = ls.length
        · rw [if_pos hz] at h
          refine PySem.W.rcP_dicts (knd := mixKind X.prog X.w) (r := b) ya yb da db hu (fun _ => hits_eq e ih k2 m2 rb k1 m1 ra h) E Q ?_
          rw [← l1, ← l2, hz]
          simpa using q
        · rw [if_neg hz] at h
          cases h
          refine PySem.W.rcP_dicts (knd := mixKind X.prog X.w) (r := false) ya yb da db hu (fun z => absurd (l1.trans (z.trans l2.symm)) hz) E Q ?_
          simpa using q
      · cases h
    | _ => simp [eqT] at h
  | _ => cases hx
theorem eqT_run (I : Inv X pins σ H s) (e : Ex F H) : ∀ (n : Nat) (A : Around), A.units + n < cLine → ∀ x y v u vv uu b, TV (cn X ts) F H x v → TV (cn X ts) F H y u → RelV v vv → RelV u uu → eqT n x y = some b → SeqAt.EqP X.prog X.w A s vv uu b
  | 0, _, _, _, _, _, _, _, _, _, _, _, _, _, h => by simp [eqT] at h
  | n + 1, A, hu, x, y, v, u, vv, uu, b, tx, ty, rx, ry, h => by
    by_cases hx : boxD x = true
    · have step := eqT_rc I e (A := A) (by omega) (eqT_run I e n A.in1 (by show A.units + 1 + n < cLine; omega)) tx ty rx ry hx h
      obtain ⟨a, rfl⟩ : ∃ a, v = .ref a := by
        cases x with
        | tup _ => obtain ⟨a, _, z, _⟩ := tx; exact ⟨a, z⟩
        | lst _ => obtain ⟨a, _, z, _⟩ := tx; exact ⟨a, z⟩
        | dic _ => obtain ⟨a, _, z, _⟩ := tx; exact ⟨a, z⟩
        | _ => cases hx
      obtain ⟨a', rfl⟩ : ∃ a, u = .ref a := by
        cases x with
        | tup _ =>
          cases y with
          | tup _ => obtain ⟨a, _, z, _⟩ := ty; exact ⟨a, z⟩
          | _ => simp [eqT] at h
        | lst _ =>
          cases y with
          | lst _ => obtain ⟨a, _, z, _⟩ := ty; exact ⟨a, z⟩
          | _ => simp [eqT] at h
        | dic _ =>
          cases y with
          | dic _ => obtain ⟨a, _, z, _⟩ := ty; exact ⟨a, z⟩
          | _ => simp [eqT] at h
        | _ => cases hx
      cases rx
      cases ry
      by_cases ea : a = a'
      · subst ea
        have := eqT_same I e (n + 1) x y _ b tx ty h
        subst this
        exact (SeqAt.EqAt.same _).eqP
      · exact SeqAt.eqP_refs ea step
    · cases x with
      | tup _ => exact absurd rfl hx
      | lst _ => exact absurd rfl hx
      | dic _ => exact absurd rfl hx
      | non =>
        cases y with
        | non => simp only [eqT] at h; cases h; cases tx; cases ty; cases rx; cases ry; exact (SeqAt.EqAt.same _).eqP
        | _ => simp [eqT] at h
      | bl p =>
        cases y with
        | bl p' =>
          simp only [eqT] at h; cases h; cases tx; cases ty; cases rx; cases ry
          have := (SeqAt.EqAt.bool_bool (A := A) (s := s) p p').eqP (prog := X.prog) (w := X.w)
          rwa [show (p == p') = decide (p = p') from by rw [Bool.eq_iff_iff]; simp] at this
        | _ => simp [eqT] at h
      | int p =>
        cases y with
        | int p' =>
          simp only [eqT] at h; cases h; cases tx; cases ty
          obtain ⟨t, rfl⟩ := rx
          obtain ⟨t', rfl⟩ := ry
          have := (SeqAt.EqAt.int_int (A := A) (s := s) p t p' t').eqP (prog := X.prog) (w := X.w)
          rwa [show (p == p') = decide (p = p') from by rw [Bool.eq_iff_iff]; simp] at this
        | _ => simp [eqT] at h
      | str p =>
        cases y with
        | str p' =>
          simp only [eqT] at h; cases h; cases tx; cases ty
          obtain ⟨t, rfl⟩ := rx
          obtain ⟨t', rfl⟩ := ry
          have := (SeqAt.EqAt.str_str (A := A) (s := s) p t p' t').eqP (prog := X.prog) (w := X.w)
          rwa [show (p == p') = decide (p = p') from by rw [Bool.eq_iff_iff]; simp] at this
        | _ => simp [eqT] at h
      | _ => simp [eqT] at h
end
/-- x == y, two containers -/
def rEqT (X : Cx) (ts : List (Addr × Str)) : R2 := fun v u H Q => ∃ F x y b, Ex F H ∧ TV (cn X ts) F H x v ∧ TV (cn X ts) F H y u ∧ boxD x = true ∧ eqT 12 x y = some b ∧ Q (.bl b) H
theorem op_eqT {X : Cx} {ts : List (Addr × Str)} (hu : X.A.units + 64 < cLine) : OpR X (compareOp .Eq) (rEqT X ts) := by
  intro pins s σ H x y v u Q I rx ry ⟨F, dx, dy, b, e, tx, ty, hx, h, q⟩
  exact eqT_rc I e (A := X.A) (by omega) (eqT_run I e 11 X.A.in1 (by show X.A.units + 1 + 11 < cLine; omega)) tx ty rx ry hx h _ _ ⟨.bl b, H, I, rfl, q⟩
def eqTD (x y : D) : Option D := if boxD x = true then (eqT 12 x y).map .bl else none
theorem o_eqT {X : Cx} {ts : List (Addr × Str)} : Op2 (cn X ts) (rEqT X ts) eqTD := by
  intro W μ H x y v u z Q S tx ty hz hr
  unfold eqTD at hz
  split at hz
  · rename_i hx
    cases hb : eqT 12 x y with
    | none => rw [hb] at hz; cases hz
    | some b => rw [hb] at hz; cases hz; exact ⟨W.F, x, y, b, S.ex, tx, ty, hx, hb, hr.bl S⟩
  · cases hz
end Eg
namespace Eg
open Evl (Ex)
open PySem
def m_is_word (cs : List Addr) : FM := mdef 1 2
  (sSeq (sIf (eOr (eNot (ePur1 (isiT cs "str") (eVar 0))) (eNot (eChn leD leD (eC (.int 1)) (ePur1 lenD (eVar 0)) (eC (.int 6)))))
      (sRet (eC (.bl false)))
      sNil)
    (sRet (ePur1 allD (eLC (iSeq (eVar 0)) [1] (gN 1) eYes (ePur2 (inD false) (eVar 1) (eC (.str "abcdefghijklmnopqrstuvwxyz")))))))
def m_are_words (cs : List Addr) : FM := mdef 2 3
  (sRet (eAnd (eChn leD leD (eC (.int 1)) (ePur1 lenD (eVar 0)) (eVar 1)) (ePur1 allD (eLC (iSeq (eVar 0)) [2] (gN 2) eYes (eCall (m_is_word cs) (aCons (eVar 2) aNil))))))
def m_is_goal (cs : List Addr) : FM := mdef 2 2
  (sRet (eAnd (eCall (m_is_word cs) (aCons (eVar 0) aNil)) (ePur2 (inD false) (eVar 0) (eVar 1))))
def m_are_steps (cs : List Addr) : FM := mdef 1 4
  (sSeq (sIf (eOr (eNot (ePur1 (isiT cs "dict") (eVar 0))) (eNot (eCall (m_are_words cs) (aCons (eVar 0) (aCons (eC (.int 5)) aNil)))))
      (sRet (eC (.bl false)))
      sNil)
    (sSeq (sSet 1 (ePur1 valsD (eVar 0)))
    (sSeq (sIf (eNot (ePur1 allD (eLC (iSeq (eVar 1)) [2] (gN 2) eYes (eAnd (ePur1 (isiT cs "dict") (eVar 2)) (eCall (m_are_words cs) (aCons (eVar 2) (aCons (eC (.int 4)) aNil)))))))
      (sRet (eC (.bl false)))
      sNil)
    (sSeq (sIf (eNot (ePur1 allD (eLC (iSeq (eVar 1)) [2] (gN 2) eYes (ePur2 eqSet (ePur1 setD (eVar 2)) (ePur1 setD (ePur2 ixD (eVar 1) (eC (.int 0))))))))
      (sRet (eC (.bl false)))
      sNil)
    (sRet (ePur1 allD (eLC2 (iSeq (eVar 1)) [2, 3] (gN 2) eYes (iVal (eVar 2)) [3] (gN 3) eYes (eCall (m_is_goal cs) (aCons (eVar 3) (aCons (eVar 0) aNil))))))))))
def m_are_tells (cs : List Addr) : FM := mdef 2 3
  (sRet (eAnd (ePur1 (isiT cs "dict") (eVar 0)) (eAnd (ePur2 eqSet (ePur1 setD (eVar 0)) (ePur1 setD (eVar 1))) (ePur1 allD (eLC (iVal (eVar 0)) [2] (gN 2) eYes (eCall (m_is_word cs) (aCons (eVar 2) aNil)))))))
def m_Edition___init (cs : List Addr) (xNoEdition : Addr) (CE : Addr) : FM := mdefK 4 6
  (sSeq (sIf (eOr (eNot (eCall (m_are_steps cs) (aCons (eVar 1) aNil))) (eOr (eNot (eCall (m_are_tells cs) (aCons (eVar 2) (aCons (eVar 1) aNil)))) (eNot (eCall (m_is_goal cs) (aCons (eVar 3) (aCons (eVar 1) aNil))))))
      (sRaise xNoEdition)
      sNil)
    (sSeq (sFldS CE "own_steps" (eVar 0) (eDC (iSeq (ePur1 sortD (eVar 1))) [5] (gN 5) eYes (eVar 5) (eDC (iSeq (ePur1 sortD (ePur2 dgetD (eVar 1) (eVar 5)))) [4] (gN 4) eYes (eVar 4) (ePur2 dgetD (ePur2 dgetD (eVar 1) (eVar 5)) (eVar 4)))))
    (sSeq (sFldS CE "own_tells" (eVar 0) (eDC (iSeq (ePur1 sortD (eVar 2))) [5] (gN 5) eYes (eVar 5) (ePur2 dgetD (eVar 2) (eVar 5))))
    (sFldS CE "own_start" (eVar 0) (eVar 3)))))
def m_Edition_kinds (CE : Addr) : FM := mdef 1 1
  (sRet (ePur1 tupD (ePur2 dgetD (eFld CE "own_steps" (eVar 0)) (eFld CE "own_start" (eVar 0)))))
def m_Edition_states (CE : Addr) : FM := mdef 1 1
  (sRet (ePur1 tupD (eFld CE "own_steps" (eVar 0))))
def m_Edition___contains (cs : List Addr) (CE : Addr) : FM := mdef 2 2
  (sRet (eAnd (ePur1 (isiT cs "str") (eVar 1)) (ePur2 (inD false) (eVar 1) (ePur2 dgetD (eFld CE "own_steps" (eVar 0)) (eFld CE "own_start" (eVar 0))))))
def m_need_edition (cs : List Addr) (CE : Addr) (xNoEdition : Addr) : FM := mdef 1 1
  (sIf (eNot (ePur1 (isiC cs CE) (eVar 0)))
      (sRaise xNoEdition)
      sNil)
def m_is_lifted_row (cs : List Addr) : FM := mdef 1 2
  (sRet (eAnd (ePur1 (isiT cs "tuple") (eVar 0)) (eAnd (ePur2 leD (ePur1 lenD (eVar 0)) (eC (.int 27))) (ePur1 allD (eLC (iSeq (eVar 0)) [1] (gN 1) eYes (eCall (m_is_word cs) (aCons (eVar 1) aNil)))))))
def m_are_events (cs : List Addr) : FM := mdef 1 2
  (sSeq (sIf (eOr (eNot (ePur1 (isiT cs "dict") (eVar 0))) (eNot (eCall (m_are_words cs) (aCons (eVar 0) (aCons (eC (.int 4)) aNil)))))
      (sRet (eC (.bl false)))
      sNil)
    (sRet (ePur1 allD (eLC (iVal (eVar 0)) [1] (gN 1) eYes (eCall (m_is_lifted_row cs) (aCons (eVar 1) aNil))))))
def m_are_snapshots (cs : List Addr) : FM := mdef 1 2
  (sSeq (sIf (eOr (eNot (ePur1 (isiT cs "dict") (eVar 0))) (eNot (eCall (m_are_words cs) (aCons (eVar 0) (aCons (eC (.int 5)) aNil)))))
      (sRet (eC (.bl false)))
      sNil)
    (sRet (ePur1 allD (eLC (iVal (eVar 0)) [1] (gN 1) eYes (eCall (m_is_word cs) (aCons (eVar 1) aNil))))))
def m_Lift___init (cs : List Addr) (xNoLift : Addr) (CL : Addr) : FM := mdefK 3 5
  (sSeq (sIf (eOr (eNot (eCall (m_are_events cs) (aCons (eVar 1) aNil))) (eNot (eCall (m_are_snapshots cs) (aCons (eVar 2) aNil))))
      (sRaise xNoLift)
      sNil)
    (sSeq (sFldS CL "own_events" (eVar 0) (eDC (iSeq (ePur1 sortD (eVar 1))) [3] (gN 3) eYes (eVar 3) (ePur2 dgetD (eVar 1) (eVar 3))))
    (sFldS CL "own_snapshots" (eVar 0) (eDC (iSeq (ePur1 sortD (eVar 2))) [4] (gN 4) eYes (eVar 4) (ePur2 dgetD (eVar 2) (eVar 4))))))
def m_Lift_fits (cs : List Addr) (CE : Addr) (xNoEdition : Addr) (CL : Addr) : FM := mdef 3 6
  (sSeq (sExp (eCall (m_need_edition cs CE xNoEdition) (aCons (eVar 1) aNil)))
    (sSeq (sExp (eCall (m_need_edition cs CE xNoEdition) (aCons (eVar 2) aNil)))
    (sSeq (sIf (eOr (ePur2 neD (ePur1 tupD (eFld CL "own_events" (eVar 0))) (ePrp CE (m_Edition_kinds CE) (eVar 1))) (ePur2 neD (ePur1 tupD (eFld CL "own_snapshots" (eVar 0))) (ePrp CE (m_Edition_states CE) (eVar 1))))
      (sRet (eC (.bl false)))
      sNil)
    (sSeq (sIf (eNot (ePur1 allD (eLC2 (iVal (eFld CL "own_events" (eVar 0))) [3, 4] (gN 3) eYes (iSeq (eVar 3)) [4] (gN 4) eYes (eInO false CE (m_Edition___contains cs CE) (eVar 4) (eVar 2)))))
      (sRet (eC (.bl false)))
      sNil)
    (sRet (ePur1 allD (eLC (iVal (eFld CL "own_snapshots" (eVar 0))) [5] (gN 5) eYes (ePur2 (inD false) (eVar 5) (ePrp CE (m_Edition_states CE) (eVar 2))))))))))
def m_Lift___eq (cs : List Addr) (CL : Addr) : FM := mdef 2 2
  (sSeq (sIf (eNot (ePur1 (isiC cs CL) (eVar 1)))
      (sRet (eC (.bl false)))
      sNil)
    (sRet (ePur2 eqTD (eTup (aCons (eFld CL "own_events" (eVar 0)) (aCons (eFld CL "own_snapshots" (eVar 0)) aNil))) (eTup (aCons (eFld CL "own_events" (eVar 1)) (aCons (eFld CL "own_snapshots" (eVar 1)) aNil))))))
def m_l_pick : FM := mdef 2 2
  (sRet (ePur2 ixD (eVar 1) (eCall m_draw (aCons (eVar 0) (aCons (ePur1 lenD (eVar 1)) aNil)))))
def m_l_words : FM := mdef 2 10
  (sSeq (sAsgT [gN 2, gN 3] (aCons (eC (.str "abcdefghijklmnopqrstuvwxyz")) (aCons (eLstC aNil) aNil)))
    (sSeq (sSet 4 (eLst (aCons (eC (.str "a")) (aCons (eC (.str "b")) (aCons (eC (.str "c")) (aCons (eC (.str "ab")) (aCons (eC (.str "event")) (aCons (eC (.str "take")) (aCons (eC (.str "raise")) (aCons (eC (.str "old")) (aCons (eC (.str "new")) (aCons (eC (.str "state")) (aCons (eC (.str "start")) (aCons (eC (.str "snap")) (aCons (eC (.str "step")) (aCons (eC (.str "zzzzzz")) aNil))))))))))))))))
    (sSeq (sFor (iRg1 (eVar 1)) (gN 5)
      (sSeq (sAsgT [gN 6, gN 7] (aCons (eCall m_draw (aCons (eVar 0) (aCons (eC (.int 4)) aNil))) (aCons (eCall m_l_pick (aCons (eVar 0) (aCons (eVar 4) aNil))) aNil)))
      (sSeq (sIf (ePur2 eqD (eVar 6) (eC (.int 0)))
        (sSet 7 (eJoin (eC (.str "")) (eLC (iRg1 (ePur2 addD (eC (.int 1)) (eCall m_draw (aCons (eVar 0) (aCons (eC (.int 6)) aNil))))) [8] (gN 8) eYes (eCall m_l_pick (aCons (eVar 0) (aCons (eVar 2) aNil))))))
        sNil)
      (sSeq (sIf (eAnd (ePur2 eqD (eVar 6) (eC (.int 1))) (ePur2 neD (eVar 3) (eLst aNil)))
        (sSet 7 (ePur2 addD (eSl (ePur2 ixD (eVar 3) (ePur1 negD (eC (.int 1)))) oNone (oSome (eC (.int 5)))) (eCall m_l_pick (aCons (eVar 0) (aCons (eVar 2) aNil)))))
        sNil)
      (sSeq (sIf (ePur2 (inD false) (eVar 7) (eVar 3))
        (sSet 7 (ePur2 ixD (eLC (iSeq (eVar 2)) [9] (gN 9) (ePur2 (inD true) (eVar 9) (eVar 3)) (eVar 9)) (eC (.int 0))))
        sNil)
      (sExp (eApp (eVar 3) (eVar 7))))))))
    (sFz 3 (sRet (eVar 3))))))
def m_l_row : FM := mdef 3 4
  (sRet (ePur1 tupD (eLC (iRg1 (eCall m_draw (aCons (eVar 0) (aCons (ePur2 addD (eVar 2) (eC (.int 1))) aNil)))) [3] (gN 3) eYes (eCall m_l_pick (aCons (eVar 0) (aCons (eVar 1) aNil))))))
def m_l_kinds : FM := mdef 1 1
  (sRet (ePur1 sortD (ePur2 dgetD (ePur2 dgetD (eVar 0) (eC (.str "steps"))) (ePur2 dgetD (eVar 0) (eC (.str "start"))))))
def m_l_any_told : FM := mdef 3 10
  (sSeq (sSet 3 (eCall m_l_words (aCons (eVar 0) (aCons (ePur2 addD (eC (.int 1)) (eCall m_draw (aCons (eVar 0) (aCons (eVar 1) aNil)))) aNil))))
    (sSeq (sSet 4 (eCall m_l_words (aCons (eVar 0) (aCons (ePur2 addD (eC (.int 1)) (eCall m_draw (aCons (eVar 0) (aCons (eVar 2) aNil)))) aNil))))
    (sSeq (sAsgT [gN 5, gN 6, gN 7] (aCons (eCall m_l_words (aCons (eVar 0) (aCons (ePur2 addD (eC (.int 1)) (eCall m_draw (aCons (eVar 0) (aCons (eC (.int 3)) aNil)))) aNil))) (aCons eDnC (aCons eDnC aNil))))
    (sSeq (sFor (iSeq (eVar 3)) (gN 8)
      (sSeq (sPutD (eVar 6) (eVar 8) (eDict (eLC (iSeq (eVar 4)) [9] (gN 9) eYes (eTup (aCons (eVar 9) (aCons (eCall m_l_pick (aCons (eVar 0) (aCons (eVar 3) aNil))) aNil))))))
      (sPutD (eVar 7) (eVar 8) (eCall m_l_pick (aCons (eVar 0) (aCons (eVar 5) aNil))))))
    (sFz 6 (sFz 7 (sRet (eDic (((eC (.str "steps")), (eVar 6)) :: ((eC (.str "tells")), (eVar 7)) :: ((eC (.str "start")), (eCall m_l_pick (aCons (eVar 0) (aCons (eVar 3) aNil)))) :: [])))))))))
def m_l_rows_for : FM := mdef 3 5
  (sSeq (sSet 3 (eCall m_l_kinds (aCons (eVar 2) aNil)))
    (sRet (eDict (eLC (iSeq (eVar 1)) [4] (gN 4) eYes (eTup (aCons (eVar 4) (aCons (eCall m_l_row (aCons (eVar 0) (aCons (eVar 3) (aCons (eC (.int 3)) aNil)))) aNil)))))))
def m_l_edition (CE : Addr) (cs : List Addr) (xNoEdition : Addr) : FM := mdef 1 4
  (sSeq (sSet 1 eDnC)
    (sSeq (sFor (iSeq (ePur1 revD (ePur1 listD (ePur2 dgetD (eVar 0) (eC (.str "steps")))))) (gN 2)
      (sSeq (sSet 3 (ePur2 dgetD (ePur2 dgetD (eVar 0) (eC (.str "steps"))) (eVar 2)))
      (sPutD (eVar 1) (eVar 2) (eIf (ePur2 eqD (ePur2 modD (ePur1 lenD (eVar 1)) (eC (.int 2))) (eC (.int 1))) (eDict (ePur1 revD (ePur1 itemsD (eVar 3)))) (eVar 3)))))
    (sFz 1 (sRet (eMkF CE (m_Edition___init cs xNoEdition CE) (aCons (eVar 1) (aCons (ePur2 dgetD (eVar 0) (eC (.str "tells"))) (aCons (ePur2 dgetD (eVar 0) (eC (.str "start"))) aNil))))))))
def m_l_bent : FM := mdef 3 6
  (sSeq (sAsgT [gN 3, gN 4, gN 5] (aCons (eDictC (eVar 1)) (aCons (eCall m_draw (aCons (eVar 0) (aCons (eC (.int 3)) aNil))) (aCons (eCall m_l_pick (aCons (eVar 0) (aCons (ePur1 sortD (eVar 1)) aNil))) aNil))))
    (sSeq (sIf (eAnd (ePur2 eqD (eVar 4) (eC (.int 0))) (ePur2 gtD (ePur1 lenD (eVar 3)) (eC (.int 1))))
      (sExp (ePopD (eVar 3) (eVar 5)))
      sNil)
    (sSeq (sIf (eAnd (ePur2 eqD (eVar 4) (eC (.int 1))) (ePur2 ltD (ePur1 lenD (eVar 3)) (eC (.int 4))))
      (sPutD (eVar 3) (eCall m_l_pick (aCons (eVar 0) (aCons (eLst (aCons (eC (.str "qa")) (aCons (eC (.str "zzzzzz")) aNil))) aNil))) (ePur2 dgetD (eVar 3) (eVar 5)))
      sNil)
    (sSeq (sIf (ePur2 eqD (eVar 4) (eC (.int 2)))
      (sPutD (eVar 3) (eVar 5) (eVar 2))
      sNil)
    (sFz 3 (sRet (eVar 3)))))))
def m_l_is_due : FM := mdef 4 7
  (sSeq (sIf (eOr (ePur2 neD (ePur1 sortD (eVar 0)) (eCall m_l_kinds (aCons (eVar 2) aNil))) (ePur2 neD (ePur1 sortD (eVar 1)) (ePur1 sortD (ePur2 dgetD (eVar 2) (eC (.str "steps"))))))
      (sRet (eC (.bl false)))
      sNil)
    (sSeq (sFor (iSeq (ePur1 valsD (eVar 0))) (gN 4)
      (sIf (ePur2 neD (eLC (iSeq (eVar 4)) [5] (gN 5) (ePur2 (inD true) (eVar 5) (eCall m_l_kinds (aCons (eVar 3) aNil))) (eVar 5)) (eLst aNil))
        (sRet (eC (.bl false)))
        sNil))
    (sRet (ePur2 eqD (eLC (iSeq (ePur1 valsD (eVar 1))) [6] (gN 6) (ePur2 (inD true) (eVar 6) (ePur2 dgetD (eVar 3) (eC (.str "steps")))) (eVar 6)) (eLst aNil)))))
def m_law (CL : Addr) (cs : List Addr) (xNoLift : Addr) (CE : Addr) (xNoEdition : Addr) (ec : Nat → Addr) (Is : List Nat) : FM := mdef 1 15
  (sSeq (sSet 1 (eCall m_begun (aCons (eVar 0) aNil)))
    (sSeq (sFor (iRg1 (ePur2 addD (eC (.int 6)) (ePur2 minD (eLenS (eVar 0)) (eC (.int 24))))) (gN 2)
      (sSeq (sAsgT [gN 3, gN 4] (aCons (eCall m_l_any_told (aCons (eVar 1) (aCons (eC (.int 5)) (aCons (eC (.int 4)) aNil)))) (aCons (eCall m_l_any_told (aCons (eVar 1) (aCons (eC (.int 5)) (aCons (eC (.int 4)) aNil)))) aNil)))
      (sSeq (sSet 5 (ePur1 sortD (ePur2 dgetD (eVar 4) (eC (.str "steps")))))
      (sSeq (sSet 6 (eCall m_l_rows_for (aCons (eVar 1) (aCons (eCall m_l_kinds (aCons (eVar 3) aNil)) (aCons (eVar 4) aNil)))))
      (sSeq (sSet 7 (eDict (eLC (iSeq (ePur2 dgetD (eVar 3) (eC (.str "steps")))) [8] (gN 8) eYes (eTup (aCons (eVar 8) (aCons (eCall m_l_pick (aCons (eVar 1) (aCons (eVar 5) aNil))) aNil))))))
      (sSeq (sIf (ePur2 eqD (eCall m_draw (aCons (eVar 1) (aCons (eC (.int 2)) aNil))) (eC (.int 0)))
        (sSeq (sSet 9 (eCall m_l_row (aCons (eVar 1) (aCons (ePur2 addD (eCall m_l_kinds (aCons (eVar 4) aNil)) (eLst (aCons (eC (.str "qa")) aNil))) (aCons (eC (.int 3)) aNil)))))
        (sSet 6 (eCall m_l_bent (aCons (eVar 1) (aCons (eVar 6) (aCons (eCall m_l_pick (aCons (eVar 1) (aCons (eLst (aCons (eVar 9) (aCons (eTup (aCons (eC (.str "zzzzzz")) aNil)) aNil))) aNil))) aNil))))))
        sNil)
      (sSeq (sIf (ePur2 eqD (eCall m_draw (aCons (eVar 1) (aCons (eC (.int 3)) aNil))) (eC (.int 0)))
        (sSet 7 (eCall m_l_bent (aCons (eVar 1) (aCons (eVar 7) (aCons (eCall m_l_pick (aCons (eVar 1) (aCons (ePur2 addD (eVar 5) (eLst (aCons (eC (.str "qb")) (aCons (eC (.str "a")) aNil)))) aNil))) aNil)))))
        sNil)
      (sSeq (sAsgT [gN 10, gN 11] (aCons (eMkF CL (m_Lift___init cs xNoLift CL) (aCons (eVar 6) (aCons (eVar 7) aNil))) (aCons (eCall m_l_is_due (aCons (eVar 6) (aCons (eVar 7) (aCons (eVar 3) (aCons (eVar 4) aNil))))) aNil)))
      (sSeq (sSet 12 (eLst (aCons (eCall (m_l_edition CE cs xNoEdition) (aCons (eVar 3) aNil)) (aCons (eCall (m_l_edition CE cs xNoEdition) (aCons (eVar 4) aNil)) aNil))))
      (sSeq (sIf (ePur2 neD (eRepr (eLst (aCons (eMeth CL "fits" (m_Lift_fits cs CE xNoEdition CL) (eVar 10) (aCons (ePur2 ixD (eVar 12) (eC (.int 0))) (aCons (ePur2 ixD (eVar 12) (eC (.int 1))) aNil))) (aCons (eMeth CL "fits" (m_Lift_fits cs CE xNoEdition CL) (eVar 10) (aCons (ePur2 ixD (eVar 12) (eC (.int 0))) (aCons (ePur2 ixD (eVar 12) (eC (.int 1))) aNil))) aNil)))) (eRepr (eLst (aCons (eVar 11) (aCons (eVar 11) aNil)))))
        (sRet (eC (.bl false)))
        sNil)
      (sSeq (sSet 13 (eCall m_l_is_due (aCons (eVar 6) (aCons (eVar 7) (aCons (eVar 4) (aCons (eVar 3) aNil))))))
      (sSeq (sIf (eOr (ePur2 neD (eRepr (eMeth CL "fits" (m_Lift_fits cs CE xNoEdition CL) (eVar 10) (aCons (ePur2 ixD (eVar 12) (eC (.int 1))) (aCons (ePur2 ixD (eVar 12) (eC (.int 0))) aNil)))) (eRepr (eVar 13))) (eNeO CL (m_Lift___eq cs CL) (eVar 10) (eMkF CL (m_Lift___init cs xNoLift CL) (aCons (eVar 6) (aCons (eVar 7) aNil)))))
        (sRet (eC (.bl false)))
        sNil)
      (sSeq (sSet 14 (eCall m_l_pick (aCons (eVar 1) (aCons (eLst (aCons (eC .non) (aCons (eC (.int 5)) (aCons (eC (.str "")) (aCons (eVar 3) (aCons (eTup aNil) (aCons (eVar 10) (aCons (eLst (aCons (ePur2 ixD (eVar 12) (eC (.int 0))) aNil)) aNil)))))))) aNil))))
      (sSeq (sIf (ePur2 neD (eHear ec Is (eMeth CL "fits" (m_Lift_fits cs CE xNoEdition CL) (eVar 10) (aCons (eVar 14) (aCons (ePur2 ixD (eVar 12) (eC (.int 1))) aNil)))) (eTup (aCons (eC (.str "edition")) (aCons (eC .non) aNil))))
        (sRet (eC (.bl false)))
        sNil)
      (sIf (ePur2 neD (eHear ec Is (eMeth CL "fits" (m_Lift_fits cs CE xNoEdition CL) (eVar 10) (aCons (ePur2 ixD (eVar 12) (eC (.int 0))) (aCons (eVar 14) aNil)))) (eTup (aCons (eC (.str "edition")) (aCons (eC .non) aNil))))
        (sRet (eC (.bl false)))
        sNil)))))))))))))))
    (sRet (eC (.bl true)))))
end Eg
namespace Eg
open Evl (Ex)
open PySem L2 Sn LamX
section
variable {P : Program} {w : World} {K : PySem.W.Frag} {mg : Str → Option Value} {base : Heap} {ts : List (Addr × Str)}
theorem sc_is_word : FnScope ["thing", "letter"] ["thing"] (defScope s_is_word) := ⟨rfl, rfl, rfl, by decide +kernel, rfl, by decide +kernel, by decide +kernel⟩
theorem ok_is_word {f : Addr} {fd : FuncData} {cs : List Addr} (F : Fun K "is_word" "is_word" s_is_word f fd) (B : Bt mg) (Ic : Insts K cs) (g_MOST_LETTERS : ∃ t, mg "MOST_LETTERS" = some (.int 6 t)) (g_LETTERS : ∃ t, mg "LETTERS" = some (.str "abcdefghijklmnopqrstuvwxyz" t)) : FnM P w K mg base ts 1 f fd ["thing"] (m_is_word cs) := by
  refine fnM F sc_is_word (fun cv A outer s H E hr => ?_)
  have hu := hu_of hr
  obtain ⟨t_MOST_LETTERS, g_MOST_LETTERS⟩ := g_MOST_LETTERS
  obtain ⟨t_LETTERS, g_LETTERS⟩ := g_LETTERS
  exact (mss_cons (ms_if (PW.pt (mw_or (mt_not (mt_val (me_isiT Ic B.isi B.str PyProof.Rows.boot_str (me_var 0)))) (mw_or1 (mt_not (mt_chn op_le op_le o_cmp o_cmp me_int (me_b1 call_lenA o_len B.len PySem.boot_len (me_var 0)) (me_gI g_MOST_LETTERS))))))
      (mss_one (ms_ret me_bl))
      mss_nil)
    (mss_one (ms_ret (me_b1 (cr_all rfl) o_all B.all PyProof.Rows.boot_all (me_lc (own := [("letter", 1)]) rfl sc_is_word.nd (mi_seq (me_var 0)) (blkOk_by (own := [("letter", 1)]) (N := ["thing", "letter"]) (sc := defScope s_is_word) (by decide +kernel)) (fun _ _ _ _ _ => (mg_name (i := 1) sc_is_word.nd rfl (Or.inl rfl))) (fun _ _ _ _ _ => mts_nil) (fun _ _ _ _ _ => (me_cmp (op_inA hu) (o_in false) (me_var 1) (me_gS g_LETTERS))))))))
theorem sc_are_words : FnScope ["some", "most", "thing"] ["some", "most"] (defScope s_are_words) := ⟨rfl, rfl, rfl, by decide +kernel, rfl, by decide +kernel, by decide +kernel⟩
theorem ok_are_words {f : Addr} {fd : FuncData} {cs : List Addr} (F : Fun K "are_words" "are_words" s_are_words f fd) (B : Bt mg) (c_is_word : Cl P w K mg base ts 1 "is_word" ["thing"] (m_is_word cs)) : FnM P w K mg base ts 2 f fd ["some", "most"] (m_are_words cs) := by
  refine fnM F sc_are_words (fun cv A outer s H E hr => ?_)
  have hu := hu_of hr
  exact (mss_one (ms_ret (me_and (me_chn op_le op_le o_cmp o_cmp me_int (me_b1 call_lenA o_len B.len PySem.boot_len (me_var 0)) (me_var 1)) (me_one (me_b1 (cr_all rfl) o_all B.all PyProof.Rows.boot_all (me_lc (own := [("thing", 2)]) rfl sc_are_words.nd (mi_seq (me_var 0)) (blkOk_by (own := [("thing", 2)]) (N := ["some", "most", "thing"]) (sc := defScope s_are_words) (by decide +kernel)) (fun _ _ _ _ _ => (mg_name (i := 2) sc_are_words.nd rfl (Or.inl rfl))) (fun _ _ _ _ _ => mts_nil) (fun _ _ _ _ _ => (me_call c_is_word L2.takes0 (hr.mono (by decide)) (ma_cons (me_var 2) ma_nil)))))))))
theorem sc_is_goal : FnScope ["thing", "states"] ["thing", "states"] (defScope s_is_goal) := ⟨rfl, rfl, rfl, by decide +kernel, rfl, by decide +kernel, by decide +kernel⟩
theorem ok_is_goal {f : Addr} {fd : FuncData} {cs : List Addr} (F : Fun K "is_goal" "is_goal" s_is_goal f fd) (B : Bt mg) (c_is_word : Cl P w K mg base ts 1 "is_word" ["thing"] (m_is_word cs)) : FnM P w K mg base ts 2 f fd ["thing", "states"] (m_is_goal cs) := by
  refine fnM F sc_is_goal (fun cv A outer s H E hr => ?_)
  have hu := hu_of hr
  exact (mss_one (ms_ret (me_and (me_call c_is_word tkX (hr.mono (by decide)) (ma_cons (me_var 0) ma_nil)) (me_one (me_cmp (op_inA hu) (o_in false) (me_var 0) (me_var 1))))))
theorem sc_are_steps : FnScope ["steps", "rows", "row", "goal"] ["steps"] (defScope s_are_steps) := ⟨rfl, rfl, rfl, by decide +kernel, rfl, by decide +kernel, by decide +kernel⟩
theorem ok_are_steps {f : Addr} {fd : FuncData} {cs : List Addr} (F : Fun K "are_steps" "are_steps" s_are_steps f fd) (B : Bt mg) (Ic : Insts K cs) (c_are_words : Cl P w K mg base ts 2 "are_words" ["some", "most"] (m_are_words cs)) (g_MOST_STATES : ∃ t, mg "MOST_STATES" = some (.int 5 t)) (g_MOST_KINDS : ∃ t, mg "MOST_KINDS" = some (.int 4 t)) (c_is_goal : Cl P w K mg base ts 2 "is_goal" ["thing", "states"] (m_is_goal cs)) : FnM P w K mg base ts 3 f fd ["steps"] (m_are_steps cs) := by
  refine fnM F sc_are_steps (fun cv A outer s H E hr => ?_)
  have hu := hu_of hr
  obtain ⟨t_MOST_STATES, g_MOST_STATES⟩ := g_MOST_STATES
  obtain ⟨t_MOST_KINDS, g_MOST_KINDS⟩ := g_MOST_KINDS
  exact (mss_cons (ms_if (PW.pt (mw_or (mt_not (mt_val (me_isiT Ic B.isi B.dict PyProof.Rows.boot_dict (me_var 0)))) (mw_or1 (mt_not (mt_val (me_call c_are_words tkX (hr.mono (by decide)) (ma_cons (me_var 0) (ma_cons (me_gI g_MOST_STATES) ma_nil))))))))
      (mss_one (ms_ret me_bl))
      mss_nil)
    (mss_cons (ms_set (i := 1) sc_are_steps.nd rfl (.inr rfl) (me_listVals rfl B.list (me_var 0)))
    (mss_cons (ms_if (mt_not (mt_val (me_b1 (cr_all rfl) o_all B.all PyProof.Rows.boot_all (me_lc (own := [("row", 2)]) rfl sc_are_steps.nd (mi_seq (me_var 1)) (blkOk_by (own := [("row", 2)]) (N := ["steps", "rows", "row", "goal"]) (sc := defScope s_are_steps) (by decide +kernel)) (fun _ _ _ _ _ => (mg_name (i := 2) sc_are_steps.nd rfl (Or.inl rfl))) (fun _ _ _ _ _ => mts_nil) (fun _ _ _ _ _ => (me_and (me_isiT Ic B.isi B.dict PyProof.Rows.boot_dict (me_var 2)) (me_one (me_call c_are_words L2.takes0 (hr.mono (by decide)) (ma_cons (me_var 2) (ma_cons (me_gI g_MOST_KINDS) ma_nil))))))))))
      (mss_one (ms_ret me_bl))
      mss_nil)
    (mss_cons (ms_if (mt_not (mt_val (me_b1 (cr_all rfl) o_all B.all PyProof.Rows.boot_all (me_lc (own := [("row", 2)]) rfl sc_are_steps.nd (mi_seq (me_var 1)) (blkOk_by (own := [("row", 2)]) (N := ["steps", "rows", "row", "goal"]) (sc := defScope s_are_steps) (by decide +kernel)) (fun _ _ _ _ _ => (mg_name (i := 2) sc_are_steps.nd rfl (Or.inl rfl))) (fun _ _ _ _ _ => mts_nil) (fun _ _ _ _ _ => (me_cmp (op_eqX hr.units0) o_eqSet (me_t1 (call_setA rfl) o_set B.set PyProof.Rows.boot_set (me_var 2)) (me_t1 (call_setA rfl) o_set B.set PyProof.Rows.boot_set (me_ix ix_seq o_ix (me_var 1) me_int)) (nomark _)))))))
      (mss_one (ms_ret me_bl))
      mss_nil)
    (mss_one (ms_ret (me_b1 (cr_all rfl) o_all B.all PyProof.Rows.boot_all (me_lc2 (own := [("row", 2), ("goal", 3)]) (vs1 := [3]) rfl sc_are_steps.nd (mi_seq (me_var 1)) (blkOk_by (own := [("row", 2), ("goal", 3)]) (N := ["steps", "rows", "row", "goal"]) (sc := defScope s_are_steps) (by decide +kernel)) (by decide) (fun _ _ _ _ _ => (mg_name (i := 2) sc_are_steps.nd rfl (Or.inl rfl))) (fun _ _ _ _ _ => mts_nil) (fun _ _ _ _ _ => (mi_val (me_var 2))) (fun _ _ _ _ _ => (mg_name (i := 3) sc_are_steps.nd rfl (Or.inl rfl))) (fun _ _ _ _ _ => mts_nil) (fun _ _ _ _ _ => (me_call c_is_goal L2.takes0 (hr.mono (by decide)) (ma_cons (me_var 3) (ma_cons (me_var 0) ma_nil))))))))))))
theorem sc_are_tells : FnScope ["tells", "steps", "word"] ["tells", "steps"] (defScope s_are_tells) := ⟨rfl, rfl, rfl, by decide +kernel, rfl, by decide +kernel, by decide +kernel⟩
theorem ok_are_tells {f : Addr} {fd : FuncData} {cs : List Addr} (F : Fun K "are_tells" "are_tells" s_are_tells f fd) (B : Bt mg) (Ic : Insts K cs) (c_is_word : Cl P w K mg base ts 1 "is_word" ["thing"] (m_is_word cs)) : FnM P w K mg base ts 2 f fd ["tells", "steps"] (m_are_tells cs) := by
  refine fnM F sc_are_tells (fun cv A outer s H E hr => ?_)
  have hu := hu_of hr
  exact (mss_one (ms_ret (me_and (me_isiT Ic B.isi B.dict PyProof.Rows.boot_dict (me_var 0)) (me_and (me_cmp (op_eqX hr.units0) o_eqSet (me_t1 (call_setA rfl) o_set B.set PyProof.Rows.boot_set (me_var 0)) (me_t1 (call_setA rfl) o_set B.set PyProof.Rows.boot_set (me_var 1)) (nomark _)) (me_one (me_b1 (cr_all rfl) o_all B.all PyProof.Rows.boot_all (me_lc (own := [("word", 2)]) rfl sc_are_tells.nd (mi_val (me_var 0)) (blkOk_by (own := [("word", 2)]) (N := ["tells", "steps", "word"]) (sc := defScope s_are_tells) (by decide +kernel)) (fun _ _ _ _ _ => (mg_name (i := 2) sc_are_tells.nd rfl (Or.inl rfl))) (fun _ _ _ _ _ => mts_nil) (fun _ _ _ _ _ => (me_call c_is_word L2.takes0 (hr.mono (by decide)) (ma_cons (me_var 2) ma_nil))))))))))
theorem sc_Edition___init : FnScope ["self", "steps", "tells", "start", "kind", "state"] ["self", "steps", "tells", "start"] (defScope s_Edition___init) := ⟨rfl, rfl, rfl, by decide +kernel, rfl, by decide +kernel, by decide +kernel⟩
theorem ok_Edition___init {f : Addr} {fd : FuncData} {cs : List Addr} {xNoEdition : Addr} {CE : Addr} (F : Fun K "__init__" "Edition.__init__" s_Edition___init f fd) (B : Bt mg) (c_are_steps : Cl P w K mg base ts 3 "are_steps" ["steps"] (m_are_steps cs)) (c_are_tells : Cl P w K mg base ts 2 "are_tells" ["tells", "steps"] (m_are_tells cs)) (c_is_goal : Cl P w K mg base ts 2 "is_goal" ["thing", "states"] (m_is_goal cs)) (R_NoEdition : Raise0 K mg xNoEdition "NoEdition") (L_Edition : Fl K CE ["own_steps", "own_tells", "own_start"]) : FnM P w K mg base ts 4 f fd ["self", "steps", "tells", "start"] (m_Edition___init cs xNoEdition CE) := by
  refine fnMK F sc_Edition___init (fun cv A outer s H E hr => ?_)
  have hu := hu_of hr
  exact (mss_cons (ms_if (PW.pt (mw_or (mt_not (mt_val (me_call c_are_steps tkX (hr.mono (by decide)) (ma_cons (me_var 1) ma_nil)))) (mw_or (mt_not (mt_val (me_call c_are_tells tkX (hr.mono (by decide)) (ma_cons (me_var 2) (ma_cons (me_var 1) ma_nil))))) (mw_or1 (mt_not (mt_val (me_call c_is_goal tkX (hr.mono (by decide)) (ma_cons (me_var 3) (ma_cons (me_var 1) ma_nil)))))))))
      (mss_one (ms_raise rfl tkX R_NoEdition))
      mss_nil)
    (mss_cons (ms_fld L_Edition.cls (L_Edition.na _ (.head _)) (me_var 0) (me_dc (own := [("state", 5)]) rfl sc_Edition___init.nd (mi_seq (me_b1 (call_sortA rfl) o_sort B.sorted PyProof.Rows.boot_sorted (me_var 1))) (blkOk_by (own := [("state", 5)]) (N := ["self", "steps", "tells", "start", "kind", "state"]) (sc := defScope s_Edition___init) (by decide +kernel)) (fun _ _ _ _ _ => (mg_name (i := 5) sc_Edition___init.nd rfl (Or.inr rfl))) (fun _ _ _ _ _ => mts_nil) (fun _ _ _ _ _ => (me_var 5)) (fun _ _ _ _ _ => (me_dc (own := [("kind", 4)]) rfl sc_Edition___init.nd (mi_seq (me_b1 (call_sortA rfl) o_sort B.sorted PyProof.Rows.boot_sorted (me_dget hu (me_var 1) (me_var 5)))) (blkOk_by (own := [("kind", 4)]) (N := ["self", "steps", "tells", "start", "kind", "state"]) (sc := { kind := .function, names := [(".0", .local), ("state", .cell), ("sorted", .globalImplicit), ("steps", .cell)], isGenerator := false, isCoroutine := false }) (by decide +kernel)) (fun _ _ _ _ _ => (mg_name (i := 4) sc_Edition___init.nd rfl (Or.inl rfl))) (fun _ _ _ _ _ => mts_nil) (fun _ _ _ _ _ => (me_var 4)) (fun _ _ _ _ _ => (me_dget hu (me_dget hu (me_var 1) (me_var 5)) (me_var 4)))))))
    (mss_cons (ms_fld L_Edition.cls (L_Edition.na _ (.tail _ (.head _))) (me_var 0) (me_dc (own := [("state", 5)]) rfl sc_Edition___init.nd (mi_seq (me_b1 (call_sortA rfl) o_sort B.sorted PyProof.Rows.boot_sorted (me_var 2))) (blkOk_by (own := [("state", 5)]) (N := ["self", "steps", "tells", "start", "kind", "state"]) (sc := defScope s_Edition___init) (by decide +kernel)) (fun _ _ _ _ _ => (mg_name (i := 5) sc_Edition___init.nd rfl (Or.inl rfl))) (fun _ _ _ _ _ => mts_nil) (fun _ _ _ _ _ => (me_var 5)) (fun _ _ _ _ _ => (me_dget hu (me_var 2) (me_var 5)))))
    (mss_one (ms_fld L_Edition.cls (L_Edition.na _ (.tail _ (.tail _ (.head _)))) (me_var 0) (me_var 3))))))
theorem sc_Edition_kinds : FnScope ["self"] ["self"] (defScope s_Edition_kinds) := ⟨rfl, rfl, rfl, by decide +kernel, rfl, by decide +kernel, by decide +kernel⟩
theorem ok_Edition_kinds {f : Addr} {fd : FuncData} {CE : Addr} (F : Fun K "kinds" "Edition.kinds" s_Edition_kinds f fd) (B : Bt mg) (L_Edition : Fl K CE ["own_steps", "own_tells", "own_start"]) : FnM P w K mg base ts 1 f fd ["self"] (m_Edition_kinds CE) := by
  refine fnM F sc_Edition_kinds (fun cv A outer s H E hr => ?_)
  have hu := hu_of hr
  exact (mss_one (ms_ret (me_t1 (call_tupA rfl) o_tup B.tuple PyProof.Rows.boot_tuple (me_dget hu (me_fld L_Edition.cls (L_Edition.na _ (.head _)) (me_var 0)) (me_fld L_Edition.cls (L_Edition.na _ (.tail _ (.tail _ (.head _)))) (me_var 0))))))
theorem sc_Edition_states : FnScope ["self"] ["self"] (defScope s_Edition_states) := ⟨rfl, rfl, rfl, by decide +kernel, rfl, by decide +kernel, by decide +kernel⟩
theorem ok_Edition_states {f : Addr} {fd : FuncData} {CE : Addr} (F : Fun K "states" "Edition.states" s_Edition_states f fd) (B : Bt mg) (L_Edition : Fl K CE ["own_steps", "own_tells", "own_start"]) : FnM P w K mg base ts 1 f fd ["self"] (m_Edition_states CE) := by
  refine fnM F sc_Edition_states (fun cv A outer s H E hr => ?_)
  have hu := hu_of hr
  exact (mss_one (ms_ret (me_t1 (call_tupA rfl) o_tup B.tuple PyProof.Rows.boot_tuple (me_fld L_Edition.cls (L_Edition.na _ (.head _)) (me_var 0)))))
theorem sc_Edition___contains : FnScope ["self", "value"] ["self", "value"] (defScope s_Edition___contains) := ⟨rfl, rfl, rfl, by decide +kernel, rfl, by decide +kernel, by decide +kernel⟩
theorem ok_Edition___contains {f : Addr} {fd : FuncData} {cs : List Addr} {CE : Addr} (F : Fun K "__contains__" "Edition.__contains__" s_Edition___contains f fd) (B : Bt mg) (Ic : Insts K cs) (L_Edition : Fl K CE ["own_steps", "own_tells", "own_start"]) : FnM P w K mg base ts 1 f fd ["self", "value"] (m_Edition___contains cs CE) := by
  refine fnM F sc_Edition___contains (fun cv A outer s H E hr => ?_)
  have hu := hu_of hr
  exact (mss_one (ms_ret (me_and (me_isiT Ic B.isi B.str PyProof.Rows.boot_str (me_var 1)) (me_one (me_cmp (op_inA hu) (o_in false) (me_var 1) (me_dget hu (me_fld L_Edition.cls (L_Edition.na _ (.head _)) (me_var 0)) (me_fld L_Edition.cls (L_Edition.na _ (.tail _ (.tail _ (.head _)))) (me_var 0))))))))
theorem sc_need_edition : FnScope ["thing"] ["thing"] (defScope s_need_edition) := ⟨rfl, rfl, rfl, by decide +kernel, rfl, by decide +kernel, by decide +kernel⟩
theorem ok_need_edition {f : Addr} {fd : FuncData} {cs : List Addr} {CE : Addr} {xNoEdition : Addr} (F : Fun K "need_edition" "need_edition" s_need_edition f fd) (B : Bt mg) (Ic : Insts K cs) (n_Edition : mg "Edition" = some (.ref CE)) (R_NoEdition : Raise0 K mg xNoEdition "NoEdition") : FnM P w K mg base ts 1 f fd ["thing"] (m_need_edition cs CE xNoEdition) := by
  refine fnM F sc_need_edition (fun cv A outer s H E hr => ?_)
  have hu := hu_of hr
  exact (mss_one (ms_if (mt_not (mt_val (me_isiC Ic B.isi n_Edition (me_var 0))))
      (mss_one (ms_raise rfl tkX R_NoEdition))
      mss_nil))
theorem sc_is_lifted_row : FnScope ["thing", "word"] ["thing"] (defScope s_is_lifted_row) := ⟨rfl, rfl, rfl, by decide +kernel, rfl, by decide +kernel, by decide +kernel⟩
theorem ok_is_lifted_row {f : Addr} {fd : FuncData} {cs : List Addr} (F : Fun K "is_lifted_row" "is_lifted_row" s_is_lifted_row f fd) (B : Bt mg) (Ic : Insts K cs) (g_MOST_ROW : ∃ t, mg "MOST_ROW" = some (.int 27 t)) (c_is_word : Cl P w K mg base ts 1 "is_word" ["thing"] (m_is_word cs)) : FnM P w K mg base ts 2 f fd ["thing"] (m_is_lifted_row cs) := by
  refine fnM F sc_is_lifted_row (fun cv A outer s H E hr => ?_)
  have hu := hu_of hr
  obtain ⟨t_MOST_ROW, g_MOST_ROW⟩ := g_MOST_ROW
  exact (mss_one (ms_ret (me_and (me_isiT Ic B.isi B.tuple PyProof.Rows.boot_tuple (me_var 0)) (me_and (me_cmp op_le o_cmp (me_b1 call_lenA o_len B.len PySem.boot_len (me_var 0)) (me_gI g_MOST_ROW) (nomark _)) (me_one (me_b1 (cr_all rfl) o_all B.all PyProof.Rows.boot_all (me_lc (own := [("word", 1)]) rfl sc_is_lifted_row.nd (mi_seq (me_var 0)) (blkOk_by (own := [("word", 1)]) (N := ["thing", "word"]) (sc := defScope s_is_lifted_row) (by decide +kernel)) (fun _ _ _ _ _ => (mg_name (i := 1) sc_is_lifted_row.nd rfl (Or.inl rfl))) (fun _ _ _ _ _ => mts_nil) (fun _ _ _ _ _ => (me_call c_is_word L2.takes0 (hr.mono (by decide)) (ma_cons (me_var 1) ma_nil))))))))))
theorem sc_are_events : FnScope ["events", "row"] ["events"] (defScope s_are_events) := ⟨rfl, rfl, rfl, by decide +kernel, rfl, by decide +kernel, by decide +kernel⟩
theorem ok_are_events {f : Addr} {fd : FuncData} {cs : List Addr} (F : Fun K "are_events" "are_events" s_are_events f fd) (B : Bt mg) (Ic : Insts K cs) (c_are_words : Cl P w K mg base ts 2 "are_words" ["some", "most"] (m_are_words cs)) (g_MOST_KINDS : ∃ t, mg "MOST_KINDS" = some (.int 4 t)) (c_is_lifted_row : Cl P w K mg base ts 2 "is_lifted_row" ["thing"] (m_is_lifted_row cs)) : FnM P w K mg base ts 3 f fd ["events"] (m_are_events cs) := by
  refine fnM F sc_are_events (fun cv A outer s H E hr => ?_)
  have hu := hu_of hr
  obtain ⟨t_MOST_KINDS, g_MOST_KINDS⟩ := g_MOST_KINDS
  exact (mss_cons (ms_if (PW.pt (mw_or (mt_not (mt_val (me_isiT Ic B.isi B.dict PyProof.Rows.boot_dict (me_var 0)))) (mw_or1 (mt_not (mt_val (me_call c_are_words tkX (hr.mono (by decide)) (ma_cons (me_var 0) (ma_cons (me_gI g_MOST_KINDS) ma_nil))))))))
      (mss_one (ms_ret me_bl))
      mss_nil)
    (mss_one (ms_ret (me_b1 (cr_all rfl) o_all B.all PyProof.Rows.boot_all (me_lc (own := [("row", 1)]) rfl sc_are_events.nd (mi_val (me_var 0)) (blkOk_by (own := [("row", 1)]) (N := ["events", "row"]) (sc := defScope s_are_events) (by decide +kernel)) (fun _ _ _ _ _ => (mg_name (i := 1) sc_are_events.nd rfl (Or.inl rfl))) (fun _ _ _ _ _ => mts_nil) (fun _ _ _ _ _ => (me_call c_is_lifted_row L2.takes0 (hr.mono (by decide)) (ma_cons (me_var 1) ma_nil))))))))
theorem sc_are_snapshots : FnScope ["snapshots", "state"] ["snapshots"] (defScope s_are_snapshots) := ⟨rfl, rfl, rfl, by decide +kernel, rfl, by decide +kernel, by decide +kernel⟩
theorem ok_are_snapshots {f : Addr} {fd : FuncData} {cs : List Addr} (F : Fun K "are_snapshots" "are_snapshots" s_are_snapshots f fd) (B : Bt mg) (Ic : Insts K cs) (c_are_words : Cl P w K mg base ts 2 "are_words" ["some", "most"] (m_are_words cs)) (g_MOST_STATES : ∃ t, mg "MOST_STATES" = some (.int 5 t)) (c_is_word : Cl P w K mg base ts 1 "is_word" ["thing"] (m_is_word cs)) : FnM P w K mg base ts 3 f fd ["snapshots"] (m_are_snapshots cs) := by
  refine fnM F sc_are_snapshots (fun cv A outer s H E hr => ?_)
  have hu := hu_of hr
  obtain ⟨t_MOST_STATES, g_MOST_STATES⟩ := g_MOST_STATES
  exact (mss_cons (ms_if (PW.pt (mw_or (mt_not (mt_val (me_isiT Ic B.isi B.dict PyProof.Rows.boot_dict (me_var 0)))) (mw_or1 (mt_not (mt_val (me_call c_are_words tkX (hr.mono (by decide)) (ma_cons (me_var 0) (ma_cons (me_gI g_MOST_STATES) ma_nil))))))))
      (mss_one (ms_ret me_bl))
      mss_nil)
    (mss_one (ms_ret (me_b1 (cr_all rfl) o_all B.all PyProof.Rows.boot_all (me_lc (own := [("state", 1)]) rfl sc_are_snapshots.nd (mi_val (me_var 0)) (blkOk_by (own := [("state", 1)]) (N := ["snapshots", "state"]) (sc := defScope s_are_snapshots) (by decide +kernel)) (fun _ _ _ _ _ => (mg_name (i := 1) sc_are_snapshots.nd rfl (Or.inl rfl))) (fun _ _ _ _ _ => mts_nil) (fun _ _ _ _ _ => (me_call c_is_word L2.takes0 (hr.mono (by decide)) (ma_cons (me_var 1) ma_nil))))))))
theorem sc_Lift___init : FnScope ["self", "events", "snapshots", "kind", "state"] ["self", "events", "snapshots"] (defScope s_Lift___init) := ⟨rfl, rfl, rfl, by decide +kernel, rfl, by decide +kernel, by decide +kernel⟩
theorem ok_Lift___init {f : Addr} {fd : FuncData} {cs : List Addr} {xNoLift : Addr} {CL : Addr} (F : Fun K "__init__" "Lift.__init__" s_Lift___init f fd) (B : Bt mg) (c_are_events : Cl P w K mg base ts 3 "are_events" ["events"] (m_are_events cs)) (c_are_snapshots : Cl P w K mg base ts 3 "are_snapshots" ["snapshots"] (m_are_snapshots cs)) (R_NoLift : Raise0 K mg xNoLift "NoLift") (L_Lift : Fl K CL ["own_events", "own_snapshots"]) : FnM P w K mg base ts 4 f fd ["self", "events", "snapshots"] (m_Lift___init cs xNoLift CL) := by
  refine fnMK F sc_Lift___init (fun cv A outer s H E hr => ?_)
  have hu := hu_of hr
  exact (mss_cons (ms_if (PW.pt (mw_or (mt_not (mt_val (me_call c_are_events tkX (hr.mono (by decide)) (ma_cons (me_var 1) ma_nil)))) (mw_or1 (mt_not (mt_val (me_call c_are_snapshots tkX (hr.mono (by decide)) (ma_cons (me_var 2) ma_nil)))))))
      (mss_one (ms_raise rfl tkX R_NoLift))
      mss_nil)
    (mss_cons (ms_fld L_Lift.cls (L_Lift.na _ (.head _)) (me_var 0) (me_dc (own := [("kind", 3)]) rfl sc_Lift___init.nd (mi_seq (me_b1 (call_sortA rfl) o_sort B.sorted PyProof.Rows.boot_sorted (me_var 1))) (blkOk_by (own := [("kind", 3)]) (N := ["self", "events", "snapshots", "kind", "state"]) (sc := defScope s_Lift___init) (by decide +kernel)) (fun _ _ _ _ _ => (mg_name (i := 3) sc_Lift___init.nd rfl (Or.inl rfl))) (fun _ _ _ _ _ => mts_nil) (fun _ _ _ _ _ => (me_var 3)) (fun _ _ _ _ _ => (me_dget hu (me_var 1) (me_var 3)))))
    (mss_one (ms_fld L_Lift.cls (L_Lift.na _ (.tail _ (.head _))) (me_var 0) (me_dc (own := [("state", 4)]) rfl sc_Lift___init.nd (mi_seq (me_b1 (call_sortA rfl) o_sort B.sorted PyProof.Rows.boot_sorted (me_var 2))) (blkOk_by (own := [("state", 4)]) (N := ["self", "events", "snapshots", "kind", "state"]) (sc := defScope s_Lift___init) (by decide +kernel)) (fun _ _ _ _ _ => (mg_name (i := 4) sc_Lift___init.nd rfl (Or.inl rfl))) (fun _ _ _ _ _ => mts_nil) (fun _ _ _ _ _ => (me_var 4)) (fun _ _ _ _ _ => (me_dget hu (me_var 2) (me_var 4))))))))
theorem sc_Lift_fits : FnScope ["self", "one", "other", "row", "word", "state"] ["self", "one", "other"] (defScope s_Lift_fits) := ⟨rfl, rfl, rfl, by decide +kernel, rfl, by decide +kernel, by decide +kernel⟩
theorem ok_Lift_fits {f : Addr} {fd : FuncData} {cs : List Addr} {CE : Addr} {xNoEdition : Addr} {CL : Addr} (F : Fun K "fits" "Lift.fits" s_Lift_fits f fd) (B : Bt mg) (c_need_edition : Cl P w K mg base ts 1 "need_edition" ["thing"] (m_need_edition cs CE xNoEdition)) (L_Lift : Fl K CL ["own_events", "own_snapshots"]) (c_Edition_kinds : ClP P w K mg base ts 1 CE "kinds" (m_Edition_kinds CE)) (c_Edition_states : ClP P w K mg base ts 1 CE "states" (m_Edition_states CE)) (c_Edition___contains : ClS P w K mg base ts 1 (InC K CE) ["self", "value"] (m_Edition___contains cs CE)) : FnM P w K mg base ts 3 f fd ["self", "one", "other"] (m_Lift_fits cs CE xNoEdition CL) := by
  refine fnM F sc_Lift_fits (fun cv A outer s H E hr => ?_)
  have hu := hu_of hr
  exact (mss_cons (ms_exp (me_call c_need_edition tkX (hr.mono (by decide)) (ma_cons (me_var 1) ma_nil)))
    (mss_cons (ms_exp (me_call c_need_edition tkX (hr.mono (by decide)) (ma_cons (me_var 2) ma_nil)))
    (mss_cons (ms_if (PW.pt (mw_or (mt_cm (op_neA hr.units) o_ne (me_t1 (call_tupA rfl) o_tup B.tuple PyProof.Rows.boot_tuple (me_fld L_Lift.cls (L_Lift.na _ (.head _)) (me_var 0))) (me_prp c_Edition_kinds (hr.mono (by decide)) (me_var 1)) (nomark _)) (mw_or1 (mt_cm (op_neA hr.units) o_ne (me_t1 (call_tupA rfl) o_tup B.tuple PyProof.Rows.boot_tuple (me_fld L_Lift.cls (L_Lift.na _ (.tail _ (.head _))) (me_var 0))) (me_prp c_Edition_states (hr.mono (by decide)) (me_var 1)) (nomark _)))))
      (mss_one (ms_ret me_bl))
      mss_nil)
    (mss_cons (ms_if (mt_not (mt_val (me_b1 (cr_all rfl) o_all B.all PyProof.Rows.boot_all (me_lc2 (own := [("row", 3), ("word", 4)]) (vs1 := [4]) rfl sc_Lift_fits.nd (mi_val (me_fld L_Lift.cls (L_Lift.na _ (.head _)) (me_var 0))) (blkOk_by (own := [("row", 3), ("word", 4)]) (N := ["self", "one", "other", "row", "word", "state"]) (sc := defScope s_Lift_fits) (by decide +kernel)) (by decide) (fun _ _ _ _ _ => (mg_name (i := 3) sc_Lift_fits.nd rfl (Or.inl rfl))) (fun _ _ _ _ _ => mts_nil) (fun _ _ _ _ _ => (mi_seq (me_var 3))) (fun _ _ _ _ _ => (mg_name (i := 4) sc_Lift_fits.nd rfl (Or.inl rfl))) (fun _ _ _ _ _ => mts_nil) (fun _ _ _ _ _ => (me_inO c_Edition___contains (hr.mono (by decide)) L2.takes0 (me_var 4) (me_var 2)))))))
      (mss_one (ms_ret me_bl))
      mss_nil)
    (mss_one (ms_ret (me_b1 (cr_all rfl) o_all B.all PyProof.Rows.boot_all (me_lc (own := [("state", 5)]) rfl sc_Lift_fits.nd (mi_val (me_fld L_Lift.cls (L_Lift.na _ (.tail _ (.head _))) (me_var 0))) (blkOk_by (own := [("state", 5)]) (N := ["self", "one", "other", "row", "word", "state"]) (sc := defScope s_Lift_fits) (by decide +kernel)) (fun _ _ _ _ _ => (mg_name (i := 5) sc_Lift_fits.nd rfl (Or.inl rfl))) (fun _ _ _ _ _ => mts_nil) (fun _ _ _ _ _ => (me_cmp (op_inA hu) (o_in false) (me_var 5) (me_prp c_Edition_states (hr.mono (by decide)) (me_var 2))))))))))))
theorem sc_Lift___eq : FnScope ["self", "other"] ["self", "other"] (defScope s_Lift___eq) := ⟨rfl, rfl, rfl, by decide +kernel, rfl, by decide +kernel, by decide +kernel⟩
theorem ok_Lift___eq {f : Addr} {fd : FuncData} {cs : List Addr} {CL : Addr} (F : Fun K "__eq__" "Lift.__eq__" s_Lift___eq f fd) (B : Bt mg) (Ic : Insts K cs) (n_Lift : mg "Lift" = some (.ref CL)) (L_Lift : Fl K CL ["own_events", "own_snapshots"]) : FnM P w K mg base ts 1 f fd ["self", "other"] (m_Lift___eq cs CL) := by
  refine fnM F sc_Lift___eq (fun cv A outer s H E hr => ?_)
  have hu := hu_of hr
  exact (mss_cons (ms_if (mt_not (mt_val (me_isiC Ic B.isi n_Lift (me_var 1))))
      (mss_one (ms_ret me_bl))
      mss_nil)
    (mss_one (ms_ret (me_cmp (op_eqT hr.units) o_eqT (me_tup (ma_cons (me_fld L_Lift.cls (L_Lift.na _ (.head _)) (me_var 0)) (ma_cons (me_fld L_Lift.cls (L_Lift.na _ (.tail _ (.head _))) (me_var 0)) ma_nil))) (me_tup (ma_cons (me_fld L_Lift.cls (L_Lift.na _ (.head _)) (me_var 1)) (ma_cons (me_fld L_Lift.cls (L_Lift.na _ (.tail _ (.head _))) (me_var 1)) ma_nil))) (nomark _)))))
end
end Eg
namespace Sn
open Evl (Ex)
open PySem PySem.Spec PyProof.Rows L2 LamX
section
variable {X : Cx} {P : Program} {w : World} {K : PySem.W.Frag} {mg : Str → Option Value} {base : Heap}
theorem sc_l_heard : FnScope ["_law_work", "_law_found", "_law_caught", "e", "_law_marks", "_law_words_here"] ["_law_work"] (defScope s_l_heard) := ⟨rfl, rfl, rfl, by decide +kernel, rfl, by decide +kernel, by decide +kernel⟩
def mk (i j : Nat) : V := .bl (decide (i = j))
theorem heard_gives {g CS : Addr} {cdg : Value} {q : Str} {e : Nat → Addr} {Is : List Nat} (T : ErrF X.K X.mg e CS Is) (B : Bt X.mg) :
    GivesTo X ["_law_work", "_law_found", "_law_caught", "e", "_law_marks", "_law_words_here"] "_law_heard" (defScope s_l_heard) g cdg (defBody s_l_heard) "_law_work" q (THd e Is) := by
  intro f c' s H Q tl act hc h
  refine ⟨_, (pss_cons (ps_asg (pe_tup (pa_cons pe_non (pa_cons pe_non pa_nil))) (pg_tup rfl (pgs_cons (pg_name (i := 1) sc_l_heard.nd rfl (.inl rfl)) (pgs_cons (pg_name (i := 2) sc_l_heard.nd rfl (.inl rfl)) pgs_nil))))
      (pss_cons (ps_try_hold (c := .ref CS) (i := 3) rfl rfl rfl sc_l_heard.nd rfl rfl ⟨rfl, by decide, .inl T.snap⟩ L2.takes0
          (tb := fun W D σ H => ∃ Ech : XK, (∀ cls d σ' H', Ech cls d H' → W cls d σ' H') ∧ σ[0]? = some (some (.ref f)) ∧ H c' = some (CodeO c' q) ∧ tl Ech H (fun v H' => D.nx (σ.set 1 (some v)) H'))
          (fun W pn xe tk _ => ⟨fun pins s' σ H' D I h' => ?tr⟩) (fun a oe cls d pn _ _ => pss_one (ps_set (i := 2) sc_l_heard.nd rfl (.inl rfl) (pv 3))))
      (pss_cons (ps_if (pt_cmpR op_isN (pv 2) pe_non (nomark _))
        (pss_one (ps_ret (pe_tup (pa_cons pe_str (pa_cons (pv 1) pa_nil)))))
        pss_nil)
      (pss_cons (ps_set (i := 4) sc_l_heard.nd rfl (.inl rfl) (pe_lst (pa_cons (pe_callB call_isH (by rfl) B.isi PyProof.Rows.boot_isinstance (pa_cons (pv 2) (pa_cons (pe_glob (v := .ref (e 0)) rfl (T.nm 0 (by decide)) rfl) pa_nil))) (pa_cons (pe_callB call_isH (by rfl) B.isi PyProof.Rows.boot_isinstance (pa_cons (pv 2) (pa_cons (pe_glob (v := .ref (e 1)) rfl (T.nm 1 (by decide)) rfl) pa_nil))) (pa_cons (pe_callB call_isH (by rfl) B.isi PyProof.Rows.boot_isinstance (pa_cons (pv 2) (pa_cons (pe_glob (v := .ref (e 2)) rfl (T.nm 2 (by decide)) rfl) pa_nil))) pa_nil)))))
      (pss_cons (ps_set (i := 4) sc_l_heard.nd rfl (.inl rfl) (pe_op op_cat (pv 4) (pe_lst (pa_cons (pe_callB call_isH (by rfl) B.isi PyProof.Rows.boot_isinstance (pa_cons (pv 2) (pa_cons (pe_glob (v := .ref (e 3)) rfl (T.nm 3 (by decide)) rfl) pa_nil))) (pa_cons (pe_callB call_isH (by rfl) B.isi PyProof.Rows.boot_isinstance (pa_cons (pv 2) (pa_cons (pe_glob (v := .ref (e 4)) rfl (T.nm 4 (by decide)) rfl) pa_nil))) (pa_cons (pe_callB call_isH (by rfl) B.isi PyProof.Rows.boot_isinstance (pa_cons (pv 2) (pa_cons (pe_glob (v := .ref (e 5)) rfl (T.nm 5 (by decide)) rfl) pa_nil))) pa_nil))))))
      (pss_cons (ps_set (i := 4) sc_l_heard.nd rfl (.inl rfl) (pe_op op_cat (pv 4) (pe_lst (pa_cons (pe_callB call_isH (by rfl) B.isi PyProof.Rows.boot_isinstance (pa_cons (pv 2) (pa_cons (pe_glob (v := .ref (e 6)) rfl (T.nm 6 (by decide)) rfl) pa_nil))) (pa_cons (pe_callB call_isH (by rfl) B.isi PyProof.Rows.boot_isinstance (pa_cons (pv 2) (pa_cons (pe_glob (v := .ref (e 7)) rfl (T.nm 7 (by decide)) rfl) pa_nil))) (pa_cons (pe_callB call_isH (by rfl) B.isi PyProof.Rows.boot_isinstance (pa_cons (pv 2) (pa_cons (pe_glob (v := .ref (e 8)) rfl (T.nm 8 (by decide)) rfl) pa_nil))) pa_nil))))))
      (pss_cons (ps_set (i := 4) sc_l_heard.nd rfl (.inl rfl) (pe_op op_cat (pv 4) (pe_lst (pa_cons (pe_callB call_isH (by rfl) B.isi PyProof.Rows.boot_isinstance (pa_cons (pv 2) (pa_cons (pe_glob (v := .ref (e 9)) rfl (T.nm 9 (by decide)) rfl) pa_nil))) (pa_cons (pe_callB call_isH (by rfl) B.isi PyProof.Rows.boot_isinstance (pa_cons (pv 2) (pa_cons (pe_glob (v := .ref (e 10)) rfl (T.nm 10 (by decide)) rfl) pa_nil))) (pa_cons (pe_callB call_isH (by rfl) B.isi PyProof.Rows.boot_isinstance (pa_cons (pv 2) (pa_cons (pe_glob (v := .ref (e 11)) rfl (T.nm 11 (by decide)) rfl) pa_nil))) pa_nil))))))
      (pss_cons (ps_set (i := 4) sc_l_heard.nd rfl (.inl rfl) (pe_op op_cat (pv 4) (pe_lst (pa_cons (pe_callB call_isH (by rfl) B.isi PyProof.Rows.boot_isinstance (pa_cons (pv 2) (pa_cons (pe_glob (v := .ref (e 12)) rfl (T.nm 12 (by decide)) rfl) pa_nil))) (pa_cons (pe_callB call_isH (by rfl) B.isi PyProof.Rows.boot_isinstance (pa_cons (pv 2) (pa_cons (pe_glob (v := .ref (e 13)) rfl (T.nm 13 (by decide)) rfl) pa_nil))) pa_nil)))))
      (pss_cons (ps_if (PW.pt (pw_or (pt_cmpR op_ne (pe_bm PySem.F.plainAttrs_list PySem.F.slot_list_count PySem.F.type_list_count mt_countV (pv 4) (pa_cons pe_bl pa_nil)) pe_int (nomark _)) (pw_or1 (pt_not (pt_val (pe_callB call_isH (by rfl) B.isi PyProof.Rows.boot_isinstance (pa_cons (pv 2) (pa_cons (pe_bltn (v := .ty "ValueError") (by rfl) B.ValueError (by decide +kernel) rfl) pa_nil))))))))
        (pss_one (ps_ret (pe_tup (pa_cons pe_str (pa_cons pe_non pa_nil)))))
        pss_nil)
      (pss_cons (ps_if (PW.pt (pw_or (pt_val (pe_ix ix_list (pv 4) pe_int (fun _ _ => rfl))) (pw_or1 (pt_val (pe_ix ix_list (pv 4) pe_int (fun _ _ => rfl))))))
        (pss_one (ps_ret (pe_tup (pa_cons (pe_ifExp (pt_val (pe_ix ix_list (pv 4) pe_int (fun _ _ => rfl))) pe_str pe_str) (pa_cons (pe_hf (pv 2)) pa_nil)))))
        pss_nil)
      (pss_cons (ps_if (pt_val (pe_ix ix_list (pv 4) pe_int (fun _ _ => rfl)))
        (pss_one (ps_ret (pe_tup (pa_cons pe_str (pa_cons (pe_hf (pv 2)) pa_nil)))))
        pss_nil)
      (pss_cons (ps_set (i := 5) sc_l_heard.nd rfl (.inl rfl) (pe_lst (pa_cons pe_str (pa_cons pe_str (pa_cons pe_str (pa_cons pe_str (pa_cons pe_str (pa_cons pe_str (pa_cons pe_str (pa_cons pe_str (pa_cons pe_str (pa_cons pe_str (pa_cons pe_str pa_nil)))))))))))))
      (pss_one (ps_ret (pe_tup (pa_cons (pe_ix ix_list (pv 5) (pe_bm PySem.F.plainAttrs_list PySem.F.slot_list_index PySem.F.type_list_index mt_index (pv 4) (pa_cons pe_bl pa_nil)) (fun _ _ => rfl)) (pa_cons pe_non pa_nil))))))))))))))))), ?_⟩
  case tr =>
    obtain ⟨Ech, hW, h1, h2, h3⟩ := h'
    exact (pss_one (ps_set (i := 1) sc_l_heard.nd rfl (.inl rfl) (act W pn xe Ech _ _ tk hW))).run pins s' σ H' D I ⟨h1, h2, h3⟩
  refine ⟨by simp [sizeLine_eq], fun p0 n0 => ⟨p0, [.non, .non], rfl, SqT.of upd_same, rfl, _, _, rfl, _, _, rfl, rfl, ?_⟩⟩
  have cp : c' ≠ p0 := ne_of_none hc n0
  refine ⟨_, fun cls d σ' H' hE => hE σ', rfl, (exn n0) _ _ hc, h _ (fun cls d H' => ∀ σ', _) _ (exn n0) (fun cls d H' hE σ' hl => ?err) (fun v H' hq => ?told)⟩
  case told =>
    refine ⟨_, rfl, rfl, _, rfl, ?_⟩
    rw [decide_eq_true rfl]
    refine iteT ?_
    exact ⟨_, rfl, by simp [sizeLine_eq], fun p np => hq p np⟩
  obtain ⟨i, hi, rfl, hE⟩ := hE
  have i14 := T.lt i hi
  refine ⟨true, T.sn i hi, fun _ a na => ?_, fun z => by cases z⟩
  obtain ⟨s0, s1, s2, s3, s4, s5, rfl⟩ : ∃ s0 s1 s2 s3 s4 s5, σ' = [s0, s1, s2, s3, s4, s5] := by
    match σ', hl with
    | [s0, s1, s2, s3, s4, s5], _ => exact ⟨s0, s1, s2, s3, s4, s5, rfl⟩
  have hD : DOk H' d := by
    rcases hE with ⟨_, z, _⟩ | ⟨_, dd, fs, v, z, z2, _⟩ | ⟨_, dd, fs, v, z, z2, _⟩
    · exact .inl z
    · exact .inr ⟨dd, fs, z, z2⟩
    · exact .inr ⟨dd, fs, z, z2⟩
  refine ⟨_, rfl, ?_⟩
  have nad : ∀ {b u}, H' b = some u → upd H' a (HeldX (.ref (e i)) d a) b = some u := fun {b u} z => (exn na) _ _ z
  -- no longer None
  refine ⟨_, rfl, rfl, _, rfl, ?_⟩
  rw [decide_eq_false (fun z => by cases z)]
  refine iteF ?_
  have up : ∀ {H1 H2 : Hp} {p : Addr} {o : HO}, (H1 a = some (HeldX (.ref (e i)) d a) ∧ DOk H1 d ∧ Ex H' H1) → H1 p = none → (upd H1 p o) a = some (HeldX (.ref (e i)) d a) ∧ DOk (upd H1 p o) d ∧ Ex H' (upd H1 p o) := fun {H1 H2 p o} ⟨x, y, z⟩ n => by
    refine ⟨(exn n) _ _ x, ?_, ext z (exn n)⟩
    rcases y with y | ⟨dd, fs, y1, y2⟩
    · exact .inl y
    · exact .inr ⟨dd, fs, y1, (exn n) _ _ y2⟩
  have k0 : upd H' a (HeldX (.ref (e i)) d a) a = some (HeldX (.ref (e i)) d a) ∧ DOk (upd H' a (HeldX (.ref (e i)) d a)) d ∧ Ex H' (upd H' a (HeldX (.ref (e i)) d a)) := by
    refine ⟨upd_same, ?_, exn na⟩
    rcases hD with y | ⟨dd, fs, y1, y2⟩
    · exact .inl y
    · exact .inr ⟨dd, fs, y1, nad y2⟩
  have sz : ∀ n : Nat, n ≤ 20 → n ≤ sizeLine := fun n h => by rw [sizeLine_eq]; omega
  generalize upd H' a (HeldX (.ref (e i)) d a) = G0 at k0
  refine ⟨_, rfl, a, e i, d, _, .ref (e 0), _, rfl, k0.1, k0.2.1, T.ec i hi, fun u h => h, T.is i hi 0 (by decide), ⟨_, rfl, a, e i, d, _, .ref (e 1), _, rfl, k0.1, k0.2.1, T.ec i hi, fun u h => h, T.is i hi 1 (by decide), ⟨_, rfl, a, e i, d, _, .ref (e 2), _, rfl, k0.1, k0.2.1, T.ec i hi, fun u h => h, T.is i hi 2 (by decide), ⟨sz 3 (by decide), fun p1 n1 => ?_⟩⟩⟩⟩
  have k1 := up (H2 := G0) (o := .lst [mk i 0, mk i 1, mk i 2]) k0 n1
  have l1 : upd G0 p1 (.lst [mk i 0, mk i 1, mk i 2]) p1 = some (.lst [mk i 0, mk i 1, mk i 2]) := upd_same
  change tSeq _ _ _ _ (upd G0 p1 (.lst [mk i 0, mk i 1, mk i 2]))
  generalize upd G0 p1 (.lst [mk i 0, mk i 1, mk i 2]) = G1 at k1 l1 ⊢
  refine ⟨_, rfl, ⟨_, rfl, a, e i, d, _, .ref (e 3), _, rfl, k1.1, k1.2.1, T.ec i hi, fun u h => h, T.is i hi 3 (by decide), ⟨_, rfl, a, e i, d, _, .ref (e 4), _, rfl, k1.1, k1.2.1, T.ec i hi, fun u h => h, T.is i hi 4 (by decide), ⟨_, rfl, a, e i, d, _, .ref (e 5), _, rfl, k1.1, k1.2.1, T.ec i hi, fun u h => h, T.is i hi 5 (by decide), ⟨sz 3 (by decide), fun q2 m2 => ?_⟩⟩⟩⟩⟩
  have kq2 := up (H2 := G1) (o := .lst [mk i 3, mk i 4, mk i 5]) k1 m2
  have lq2 : upd G1 q2 (.lst [mk i 3, mk i 4, mk i 5]) q2 = some (.lst [mk i 3, mk i 4, mk i 5]) := upd_same
  have lo2 : upd G1 q2 (.lst [mk i 3, mk i 4, mk i 5]) p1 = some (.lst [mk i 0, mk i 1, mk i 2]) := (exn m2) _ _ l1
  refine ⟨p1, q2, [mk i 0, mk i 1, mk i 2], [mk i 3, mk i 4, mk i 5], rfl, rfl, lo2, lq2, sz 6 (by decide), fun p2 n2 => ?_⟩
  have k2 := up (H2 := G1) (o := .lst [mk i 0, mk i 1, mk i 2, mk i 3, mk i 4, mk i 5]) kq2 n2
  have l2 : upd (upd G1 q2 (.lst [mk i 3, mk i 4, mk i 5])) p2 (.lst [mk i 0, mk i 1, mk i 2, mk i 3, mk i 4, mk i 5]) p2 = some (.lst [mk i 0, mk i 1, mk i 2, mk i 3, mk i 4, mk i 5]) := upd_same
  change tSeq _ _ _ _ (upd (upd G1 q2 (.lst [mk i 3, mk i 4, mk i 5])) p2 (.lst [mk i 0, mk i 1, mk i 2, mk i 3, mk i 4, mk i 5]))
  generalize upd (upd G1 q2 (.lst [mk i 3, mk i 4, mk i 5])) p2 (.lst [mk i 0, mk i 1, mk i 2, mk i 3, mk i 4, mk i 5]) = G2 at k2 l2 ⊢
  refine ⟨_, rfl, ⟨_, rfl, a, e i, d, _, .ref (e 6), _, rfl, k2.1, k2.2.1, T.ec i hi, fun u h => h, T.is i hi 6 (by decide), ⟨_, rfl, a, e i, d, _, .ref (e 7), _, rfl, k2.1, k2.2.1, T.ec i hi, fun u h => h, T.is i hi 7 (by decide), ⟨_, rfl, a, e i, d, _, .ref (e 8), _, rfl, k2.1, k2.2.1, T.ec i hi, fun u h => h, T.is i hi 8 (by decide), ⟨sz 3 (by decide), fun q3 m3 => ?_⟩⟩⟩⟩⟩
  have kq3 := up (H2 := G2) (o := .lst [mk i 6, mk i 7, mk i 8]) k2 m3
  have lq3 : upd G2 q3 (.lst [mk i 6, mk i 7, mk i 8]) q3 = some (.lst [mk i 6, mk i 7, mk i 8]) := upd_same
  have lo3 : upd G2 q3 (.lst [mk i 6, mk i 7, mk i 8]) p2 = some (.lst [mk i 0, mk i 1, mk i 2, mk i 3, mk i 4, mk i 5]) := (exn m3) _ _ l2
  refine ⟨p2, q3, [mk i 0, mk i 1, mk i 2, mk i 3, mk i 4, mk i 5], [mk i 6, mk i 7, mk i 8], rfl, rfl, lo3, lq3, sz 9 (by decide), fun p3 n3 => ?_⟩
  have k3 := up (H2 := G2) (o := .lst [mk i 0, mk i 1, mk i 2, mk i 3, mk i 4, mk i 5, mk i 6, mk i 7, mk i 8]) kq3 n3
  have l3 : upd (upd G2 q3 (.lst [mk i 6, mk i 7, mk i 8])) p3 (.lst [mk i 0, mk i 1, mk i 2, mk i 3, mk i 4, mk i 5, mk i 6, mk i 7, mk i 8]) p3 = some (.lst [mk i 0, mk i 1, mk i 2, mk i 3, mk i 4, mk i 5, mk i 6, mk i 7, mk i 8]) := upd_same
  change tSeq _ _ _ _ (upd (upd G2 q3 (.lst [mk i 6, mk i 7, mk i 8])) p3 (.lst [mk i 0, mk i 1, mk i 2, mk i 3, mk i 4, mk i 5, mk i 6, mk i 7, mk i 8]))
  generalize upd (upd G2 q3 (.lst [mk i 6, mk i 7, mk i 8])) p3 (.lst [mk i 0, mk i 1, mk i 2, mk i 3, mk i 4, mk i 5, mk i 6, mk i 7, mk i 8]) = G3 at k3 l3 ⊢
  refine ⟨_, rfl, ⟨_, rfl, a, e i, d, _, .ref (e 9), _, rfl, k3.1, k3.2.1, T.ec i hi, fun u h => h, T.is i hi 9 (by decide), ⟨_, rfl, a, e i, d, _, .ref (e 10), _, rfl, k3.1, k3.2.1, T.ec i hi, fun u h => h, T.is i hi 10 (by decide), ⟨_, rfl, a, e i, d, _, .ref (e 11), _, rfl, k3.1, k3.2.1, T.ec i hi, fun u h => h, T.is i hi 11 (by decide), ⟨sz 3 (by decide), fun q4 m4 => ?_⟩⟩⟩⟩⟩
  have kq4 := up (H2 := G3) (o := .lst [mk i 9, mk i 10, mk i 11]) k3 m4
  have lq4 : upd G3 q4 (.lst [mk i 9, mk i 10, mk i 11]) q4 = some (.lst [mk i 9, mk i 10, mk i 11]) := upd_same
  have lo4 : upd G3 q4 (.lst [mk i 9, mk i 10, mk i 11]) p3 = some (.lst [mk i 0, mk i 1, mk i 2, mk i 3, mk i 4, mk i 5, mk i 6, mk i 7, mk i 8]) := (exn m4) _ _ l3
  refine ⟨p3, q4, [mk i 0, mk i 1, mk i 2, mk i 3, mk i 4, mk i 5, mk i 6, mk i 7, mk i 8], [mk i 9, mk i 10, mk i 11], rfl, rfl, lo4, lq4, sz 12 (by decide), fun p4 n4 => ?_⟩
  have k4 := up (H2 := G3) (o := .lst [mk i 0, mk i 1, mk i 2, mk i 3, mk i 4, mk i 5, mk i 6, mk i 7, mk i 8, mk i 9, mk i 10, mk i 11]) kq4 n4
  have l4 : upd (upd G3 q4 (.lst [mk i 9, mk i 10, mk i 11])) p4 (.lst [mk i 0, mk i 1, mk i 2, mk i 3, mk i 4, mk i 5, mk i 6, mk i 7, mk i 8, mk i 9, mk i 10, mk i 11]) p4 = some (.lst [mk i 0, mk i 1, mk i 2, mk i 3, mk i 4, mk i 5, mk i 6, mk i 7, mk i 8, mk i 9, mk i 10, mk i 11]) := upd_same
  change tSeq _ _ _ _ (upd (upd G3 q4 (.lst [mk i 9, mk i 10, mk i 11])) p4 (.lst [mk i 0, mk i 1, mk i 2, mk i 3, mk i 4, mk i 5, mk i 6, mk i 7, mk i 8, mk i 9, mk i 10, mk i 11]))
  generalize upd (upd G3 q4 (.lst [mk i 9, mk i 10, mk i 11])) p4 (.lst [mk i 0, mk i 1, mk i 2, mk i 3, mk i 4, mk i 5, mk i 6, mk i 7, mk i 8, mk i 9, mk i 10, mk i 11]) = G4 at k4 l4 ⊢
  refine ⟨_, rfl, ⟨_, rfl, a, e i, d, _, .ref (e 12), _, rfl, k4.1, k4.2.1, T.ec i hi, fun u h => h, T.is i hi 12 (by decide), ⟨_, rfl, a, e i, d, _, .ref (e 13), _, rfl, k4.1, k4.2.1, T.ec i hi, fun u h => h, T.is i hi 13 (by decide), ⟨sz 2 (by decide), fun q5 m5 => ?_⟩⟩⟩⟩
  have kq5 := up (H2 := G4) (o := .lst [mk i 12, mk i 13]) k4 m5
  have lq5 : upd G4 q5 (.lst [mk i 12, mk i 13]) q5 = some (.lst [mk i 12, mk i 13]) := upd_same
  have lo5 : upd G4 q5 (.lst [mk i 12, mk i 13]) p4 = some (.lst [mk i 0, mk i 1, mk i 2, mk i 3, mk i 4, mk i 5, mk i 6, mk i 7, mk i 8, mk i 9, mk i 10, mk i 11]) := (exn m5) _ _ l4
  refine ⟨p4, q5, [mk i 0, mk i 1, mk i 2, mk i 3, mk i 4, mk i 5, mk i 6, mk i 7, mk i 8, mk i 9, mk i 10, mk i 11], [mk i 12, mk i 13], rfl, rfl, lo5, lq5, sz 14 (by decide), fun p5 n5 => ?_⟩
  have k5 := up (H2 := G4) (o := .lst [mk i 0, mk i 1, mk i 2, mk i 3, mk i 4, mk i 5, mk i 6, mk i 7, mk i 8, mk i 9, mk i 10, mk i 11, mk i 12, mk i 13]) kq5 n5
  have l5 : upd (upd G4 q5 (.lst [mk i 12, mk i 13])) p5 (.lst [mk i 0, mk i 1, mk i 2, mk i 3, mk i 4, mk i 5, mk i 6, mk i 7, mk i 8, mk i 9, mk i 10, mk i 11, mk i 12, mk i 13]) p5 = some (.lst [mk i 0, mk i 1, mk i 2, mk i 3, mk i 4, mk i 5, mk i 6, mk i 7, mk i 8, mk i 9, mk i 10, mk i 11, mk i 12, mk i 13]) := upd_same
  change tSeq _ _ _ _ (upd (upd G4 q5 (.lst [mk i 12, mk i 13])) p5 (.lst [mk i 0, mk i 1, mk i 2, mk i 3, mk i 4, mk i 5, mk i 6, mk i 7, mk i 8, mk i 9, mk i 10, mk i 11, mk i 12, mk i 13]))
  generalize upd (upd G4 q5 (.lst [mk i 12, mk i 13])) p5 (.lst [mk i 0, mk i 1, mk i 2, mk i 3, mk i 4, mk i 5, mk i 6, mk i 7, mk i 8, mk i 9, mk i 10, mk i 11, mk i 12, mk i 13]) = G5 at k5 l5 ⊢
  have flat : ([mk i 0, mk i 1, mk i 2, mk i 3, mk i 4, mk i 5, mk i 6, mk i 7, mk i 8, mk i 9, mk i 10, mk i 11, mk i 12, mk i 13] : List V).all flatV = true := rfl
  have cnt : ∀ i, i < 14 → ([mk i 0, mk i 1, mk i 2, mk i 3, mk i 4, mk i 5, mk i 6, mk i 7, mk i 8, mk i 9, mk i 10, mk i 11, mk i 12, mk i 13] : List V).countP (fun z => eqV z (.bl true)) = 1 := by decide
  refine ⟨_, rfl, .inl ⟨rfl, _, SqL.of l5⟩, p5, _, .bl true, rfl, rfl, SqL.of l5, rfl, flat, ?_⟩
  rw [cnt i i14]
  refine ⟨rfl, _, rfl, ?_⟩
  refine iteF ?_
  refine ⟨_, rfl, a, e i, d, _, .type "ValueError", _, rfl, k5.1, k5.2.1, T.ec i hi, fun u h => h, T.ve i hi, _, rfl, ?_⟩
  refine iteF ?_
  -- marks[11] or marks[12]
  have at_ : ∀ j : Nat, j < 14 → atI ([mk i 0, mk i 1, mk i 2, mk i 3, mk i 4, mk i 5, mk i 6, mk i 7, mk i 8, mk i 9, mk i 10, mk i 11, mk i 12, mk i 13] : List V) (j : Int) = some (mk i j) := fun j hj => atI_nat (by
    match j, hj with
    | 0, _ => rfl | 1, _ => rfl | 2, _ => rfl | 3, _ => rfl | 4, _ => rfl | 5, _ => rfl | 6, _ => rfl | 7, _ => rfl | 8, _ => rfl | 9, _ => rfl | 10, _ => rfl | 11, _ => rfl | 12, _ => rfl | 13, _ => rfl)
  have kt : ∀ {j}, i = j → mk i j = .bl true := fun {j} h => by unfold mk; rw [decide_eq_true h]
  have kf : ∀ {j}, i ≠ j → mk i j = .bl false := fun {j} h => by unfold mk; rw [decide_eq_false h]
  have fin : ∀ (u : V) (p : Addr) (w : Str) (H1 : Hp), H1 a = some (HeldX (.ref (e i)) d a) ∧ DOk H1 d ∧ Ex H' H1 → H1 p = none → (∀ p H'', Ex H' H'' → H' p = none → H'' p = some (.tup [.str w, u]) → Q (.ref p) H'') → Q (.ref p) (upd H1 p (.tup [.str w, u])) := fun u p w H1 hk n hq =>
    hq p _ (ext hk.2.2 (exn n)) (exb hk.2.2 n) upd_same
  rcases hE with ⟨i11, dn, hq⟩ | ⟨i12, dd, fs, v, hd', hdd, hv, hq⟩ | ⟨i13, dd, fs, v, hd', hdd, hv, hq⟩
  · refine ⟨_, rfl, p5, _, 11, _, rfl, rfl, SqL.of l5, at_ 11 (by decide), false, kf (by omega), ?_⟩
    refine iteF ?_
    refine ⟨_, rfl, p5, _, 12, _, rfl, rfl, SqL.of l5, at_ 12 (by decide), false, kf (by omega), ?_⟩
    refine iteF ?_
    refine ⟨_, rfl, p5, _, 13, _, rfl, rfl, SqL.of l5, at_ 13 (by decide), false, kf (by omega), ?_⟩
    refine iteF ?_
    refine ⟨sz 11 (by decide), fun pw nw => ?_⟩
    have l6 := (exn (o := .lst [V.str "edition", .str "state", .str "lift", .str "book", .str "number", .str "pasts", .str "plan", .str "hands", .str "key", .str "nothing", .str "text"]) nw) _ _ l5
    have k6 := up (H2 := G5) (o := .lst [V.str "edition", .str "state", .str "lift", .str "book", .str "number", .str "pasts", .str "plan", .str "hands", .str "key", .str "nothing", .str "text"]) k5 nw
    refine ⟨_, rfl, _, rfl, .inl ⟨rfl, _, SqL.of l6⟩, p5, _, .bl true, i, mk i i, rfl, rfl, SqL.of l6, rfl, flat, ?_, ?_, ?_, pw, _, i, .str (errW i), rfl, rfl, SqL.of upd_same, atI_nat ?_, sz 2 (by decide), fun p np => fin _ p _ _ k6 np hq⟩
    · match i, i14 with
      | 0, _ => rfl | 1, _ => rfl | 2, _ => rfl | 3, _ => rfl | 4, _ => rfl | 5, _ => rfl | 6, _ => rfl | 7, _ => rfl | 8, _ => rfl | 9, _ => rfl | 10, _ => rfl | 11, _ => rfl | 12, _ => rfl | 13, _ => rfl
    · rw [kt rfl]; rfl
    · intro m z' hm hz'
      have hm14 : m < 14 := by omega
      have e1 : ([mk i 0, mk i 1, mk i 2, mk i 3, mk i 4, mk i 5, mk i 6, mk i 7, mk i 8, mk i 9, mk i 10, mk i 11, mk i 12, mk i 13] : List V)[m]? = some (mk i m) := by
        match m, hm14 with
        | 0, _ => rfl | 1, _ => rfl | 2, _ => rfl | 3, _ => rfl | 4, _ => rfl | 5, _ => rfl | 6, _ => rfl | 7, _ => rfl | 8, _ => rfl | 9, _ => rfl | 10, _ => rfl | 11, _ => rfl | 12, _ => rfl | 13, _ => rfl
      rw [e1] at hz'
      rw [← Option.some.inj hz', kf (by omega)]
      rfl
    · match i, i11 with
      | 0, _ => rfl | 1, _ => rfl | 2, _ => rfl | 3, _ => rfl | 4, _ => rfl | 5, _ => rfl | 6, _ => rfl | 7, _ => rfl | 8, _ => rfl | 9, _ => rfl | 10, _ => rfl
  · subst hd'
    have hd5 : G5 dd = some (.xd fs) := k5.2.2 _ _ hdd
    have x11 := T.xf i hi (by rcases i12 with z | z <;> omega)
    rcases i12 with z | z
    · have na_ : PySem.W.findIn X.K (.ref (e i)) "at" = some none := by
        subst z; exact T.at11 hi
      refine ⟨_, rfl, p5, _, 11, _, rfl, rfl, SqL.of l5, at_ 11 (by decide), true, kt z, ?_⟩
      refine iteT ?_
      refine iteT ?_
      refine ⟨_, rfl, p5, _, 11, _, rfl, rfl, SqL.of l5, at_ 11 (by decide), true, kt z, ?_⟩
      refine iteT ?_
      have hq' : ∀ p H'', Ex H' H'' → H' p = none → H'' p = some (.tup [.str "kind", v]) → Q (.ref p) H'' := by
        subst z; exact hq
      exact ⟨_, rfl, a, e i, dd, fs, v, rfl, k5.1, x11, na_, hd5, hv, sz 2 (by decide), fun p np => fin _ p _ _ k5 np hq'⟩
    · have na_ : PySem.W.findIn X.K (.ref (e i)) "at" = some none := by
        subst z; exact T.at12 hi
      refine ⟨_, rfl, p5, _, 11, _, rfl, rfl, SqL.of l5, at_ 11 (by decide), false, kf (by omega), ?_⟩
      refine iteF ?_
      refine ⟨_, rfl, p5, _, 12, _, rfl, rfl, SqL.of l5, at_ 12 (by decide), true, kt z, ?_⟩
      refine iteT ?_
      refine ⟨_, rfl, p5, _, 11, _, rfl, rfl, SqL.of l5, at_ 11 (by decide), false, kf (by omega), ?_⟩
      refine iteF ?_
      have hq' : ∀ p H'', Ex H' H'' → H' p = none → H'' p = some (.tup [.str "history", v]) → Q (.ref p) H'' := by
        subst z; exact hq
      exact ⟨_, rfl, a, e i, dd, fs, v, rfl, k5.1, x11, na_, hd5, hv, sz 2 (by decide), fun p np => fin _ p _ _ k5 np hq'⟩
  · subst hd'
    have hd5 : G5 dd = some (.xd fs) := k5.2.2 _ _ hdd
    have x11 := T.xf i hi (by omega)
    have na_ : PySem.W.findIn X.K (.ref (e i)) "history" = some none := by
      subst i13; exact T.at13 hi
    refine ⟨_, rfl, p5, _, 11, _, rfl, rfl, SqL.of l5, at_ 11 (by decide), false, kf (by omega), ?_⟩
    refine iteF ?_
    refine ⟨_, rfl, p5, _, 12, _, rfl, rfl, SqL.of l5, at_ 12 (by decide), false, kf (by omega), ?_⟩
    refine iteF ?_
    refine ⟨_, rfl, p5, _, 13, _, rfl, rfl, SqL.of l5, at_ 13 (by decide), true, kt i13, ?_⟩
    refine iteT ?_
    have hq' : ∀ p H'', Ex H' H'' → H' p = none → H'' p = some (.tup [.str "right", v]) → Q (.ref p) H'' := by
      subst i13; exact hq
    exact ⟨_, rfl, a, e i, dd, fs, v, rfl, k5.1, x11, na_, hd5, hv, sz 2 (by decide), fun p np => fin _ p _ _ k5 np hq'⟩
end
end Sn
namespace Sn
open Evl (Ex)
open PySem L2 LamX
section
variable {X : Cx} {e : Nat → Addr} {CS : Addr} {Is : List Nat}
/-- _law_heard(lambda: body) -/
theorem plamG {T : List (Addr × Str)} {c Pt : Addr} {k : Nat} {params : Arguments} {body : Expr} {scope : Scope} {t : XK → TE} {p lpos pos : Pos} (B : Bt X.mg) (er : ErrF X.K X.mg e CS Is) (hd : ∃ g fd, Fun X.K "_law_heard" "_law_heard" s_l_heard g fd ∧ X.mg "_law_heard" = some (.ref g)) (TB : TabB X.base X.mg c Pt) (hcode : X.env.code = .ref c)
    (hmT : (Pt, X.env.qual ++ "<lambda>") ∈ T) (hu : ∀ p ∈ T, p.1 = Pt → p.2 = X.env.qual ++ "<lambda>") (hr : Room (k + 2) X.A) (L : LamS X.env.scope scope)
    (hbody : ∀ (A : Around) (outer : List Env) (s : Shared) (H : Hp) (E : XK) (f c' : Addr), Room k (A.deeper (lamEnv X scope s.heap.objs.size f c')) → PE (lamCx X A outer s H E scope f c') body (t E))
    (hg : Gl X "_law_heard" := by rfl) (hdef : defaultsOf params X.env = ([], []) := by rfl)
    (hbind : ∀ (q : Str) (cl : List (Str × Addr)) (pm cv ctv : Value), bindArgs (PySem.W.kla_fn "<lambda>" q params body scope cl pm cv ctv) ⟨[], []⟩ = pure [] := by intros; rfl) :
    PE X (.Call (.Name "_law_heard" p) [.Lambda params body scope lpos] [] pos) (tLam T (THd e Is) t) := by
  obtain ⟨g, fd, F, hm⟩ := hd
  have hb := F.binds (ps := ["_law_work"]) (fun _ _ _ _ _ _ us hl => match us, hl with | [_], _ => rfl)
  obtain ⟨oc, od, kV, doc, pm, an, cdv, ct, osl, rfl, lk, hcd⟩ := F.ex
  exact pe_lamcall hg hm F.kp lk hcd hb sc_l_heard rfl (.inl rfl) (heard_gives er B) TB hcode hmT hu hr L hdef hbind hbody
end
end Sn
/-! the engine: _law_heard(lambda: body) -/
namespace Eg
open Evl (Ex)
open PySem L2 Sn LamX
structure Ear (K : PySem.W.Frag) (mg : Str → Option Value) (ec : Nat → Addr) (Is : List Nat) : Prop where
  er : ∃ CS, ErrF K mg ec CS Is
  hd : ∃ g fd, Fun K "_law_heard" "_law_heard" s_l_heard g fd ∧ mg "_law_heard" = some (.ref g)
structure LamT (ts : List (Addr × Str)) (mg : Str → Option Value) (base : Heap) (cc Pt : Addr) (q : Str) : Prop where
  tb : TabB base mg cc Pt
  mem : (Pt, q) ∈ ts
  uq : ∀ p ∈ ts, p.1 = Pt → p.2 = q
theorem me_hear {X : Cx} {ts : List (Addr × Str)} {E0 : XK} {ec : Nat → Addr} {Is : List Nat} {c Pt : Addr} {k : Nat} {params : Arguments} {body : Expr} {scope : Scope} {m : EM} {p lpos pos : Pos} (B : Bt X.mg) (Hr : Ear X.K X.mg ec Is) (Tl : LamT ts X.mg X.base c Pt (X.env.qual ++ "<lambda>")) (hcode : X.env.code = .ref c) (hr : Room (k + 2) X.A) (L : LamS X.env.scope scope)
    (hbody : ∀ (A : Around) (outer : List Env) (s : Shared) (H : Hp) (E : XK) (f c' : Addr), Room k (A.deeper (lamEnv X scope s.heap.objs.size f c')) → PE (lamCx X A outer s H E scope f c') body (tM (cn X ts) E m))
    (hg : Gl X "_law_heard" := by rfl) (hdef : defaultsOf params X.env = ([], []) := by rfl)
    (hbind : ∀ (q : Str) (cl : List (Str × Addr)) (pm cv ctv : Value), bindArgs (PySem.W.kla_fn "<lambda>" q params body scope cl pm cv ctv) ⟨[], []⟩ = pure [] := by intros; rfl) :
    PE X (.Call (.Name "_law_heard" p) [.Lambda params body scope lpos] [] pos) (tM (cn X ts) E0 (eHear ec Is m)) := by
  obtain ⟨CS, er⟩ := Hr.er
  exact pe_w (plamG (T := ts) (t := fun E' => tM (cn X ts) E' m) B er Hr.hd Tl.tb hcode Tl.mem Tl.uq hr L hbody hg hdef hbind) hear_go
end Eg
namespace Eg
open Evl (Ex)
open PySem L2 Sn LamX
section
variable {P : Program} {w : World} {K : PySem.W.Frag} {mg : Str → Option Value} {base : Heap} {ts : List (Addr × Str)}
theorem sc_l_pick : FnScope ["_law_state", "_law_several"] ["_law_state", "_law_several"] (defScope s_l_pick) := ⟨rfl, rfl, rfl, by decide +kernel, rfl, by decide +kernel, by decide +kernel⟩
theorem ok_l_pick {f : Addr} {fd : FuncData} (F : Fun K "_law_pick" "_law_pick" s_l_pick f fd) (B : Bt mg) (c_l_draw : Cl P w K mg base ts 1 "_law_draw" ["_law_state", "_law_size"] m_draw) : FnM P w K mg base ts 2 f fd ["_law_state", "_law_several"] m_l_pick := by
  refine fnM F sc_l_pick (fun cv A outer s H E hr => ?_)
  have hu := hu_of hr
  exact (mss_one (ms_ret (me_ix ix_seq o_ix (me_var 1) (me_call c_l_draw tkX (hr.mono (by decide)) (ma_cons (me_var 0) (ma_cons (me_b1 call_lenA o_len B.len PySem.boot_len (me_var 1)) ma_nil))))))
theorem sc_l_words : FnScope ["_law_state", "_law_many", "_law_letters", "_law_found", "_law_several", "_law_turn", "_law_way", "_law_word", "_law_sign", "_law_letter"] ["_law_state", "_law_many"] (defScope s_l_words) := ⟨rfl, rfl, rfl, by decide +kernel, rfl, by decide +kernel, by decide +kernel⟩
theorem ok_l_words {f : Addr} {fd : FuncData} (F : Fun K "_law_words" "_law_words" s_l_words f fd) (B : Bt mg) (c_l_pick : Cl P w K mg base ts 2 "_law_pick" ["_law_state", "_law_several"] m_l_pick) (c_l_draw : Cl P w K mg base ts 1 "_law_draw" ["_law_state", "_law_size"] m_draw) : FnM P w K mg base ts 3 f fd ["_law_state", "_law_many"] m_l_words := by
  refine fnM F sc_l_words (fun cv A outer s H E hr => ?_)
  have hu := hu_of hr
  exact (mss_cons (ms_asgT rfl (ma_cons me_str (ma_cons (me_lstC ma_nil) ma_nil)) (mgs_cons (mg_name (i := 2) sc_l_words.nd rfl (.inr rfl)) (mgs_cons (mg_name (i := 3) sc_l_words.nd rfl (.inr rfl)) mgs_nil)) rfl (by decide))
    (mss_cons (ms_set (i := 4) sc_l_words.nd rfl (.inl rfl) (me_lst (ma_cons me_str (ma_cons me_str (ma_cons me_str (ma_cons me_str (ma_cons me_str (ma_cons me_str (ma_cons me_str (ma_cons me_str (ma_cons me_str (ma_cons me_str (ma_cons me_str (ma_cons me_str (ma_cons me_str (ma_cons me_str ma_nil))))))))))))))))
    (mss_cons (ms_for paX rfl (mi_rg1 B.range (me_var 1)) (mg_name (i := 5) sc_l_words.nd rfl (.inl rfl))
      (mss_cons (ms_par (i := 6) (j := 7) rfl sc_l_words.nd rfl rfl (by decide) rfl rfl (ma_cons (me_call c_l_draw tkX (hr.mono (by decide)) (ma_cons (me_var 0) (ma_cons me_int ma_nil))) (ma_cons (me_call c_l_pick tkX (hr.mono (by decide)) (ma_cons (me_var 0) (ma_cons (me_var 4) ma_nil))) ma_nil)))
      (mss_cons (ms_if (mt_cm (op_eqA hr.units) o_eq (me_var 6) me_int (nomark _))
        (mss_one (ms_set (i := 7) sc_l_words.nd rfl (.inl rfl) (me_join me_str (me_lc (own := [("_law_sign", 8)]) rfl sc_l_words.nd (mi_rg1 B.range (me_bin op_addA o_add me_int (me_call c_l_draw tkX (hr.mono (by decide)) (ma_cons (me_var 0) (ma_cons me_int ma_nil))))) (blkOk_by (own := [("_law_sign", 8)]) (N := ["_law_state", "_law_many", "_law_letters", "_law_found", "_law_several", "_law_turn", "_law_way", "_law_word", "_law_sign", "_law_letter"]) (sc := defScope s_l_words) (by decide +kernel)) (fun _ _ _ _ _ => (mg_name (i := 8) sc_l_words.nd rfl (Or.inl rfl))) (fun _ _ _ _ _ => mts_nil) (fun _ _ _ _ _ => (me_call c_l_pick L2.takes0 (hr.mono (by decide)) (ma_cons (me_var 0) (ma_cons (me_var 2) ma_nil))))))))
        mss_nil)
      (mss_cons (ms_if (PW.pt (mw_and (mt_cm (op_eqA hr.units) o_eq (me_var 6) me_int (nomark _)) (mw_and1 (mt_cm (op_neA hr.units) o_ne (me_var 3) (me_lst ma_nil) (nomark _)))))
        (mss_one (ms_set (i := 7) sc_l_words.nd rfl (.inl rfl) (me_bin op_addA o_add (me_sl (me_ix ix_seq o_ix (me_var 3) (me_un un_neg o_neg me_int)) mo_none (mo_some me_int)) (me_call c_l_pick tkX (hr.mono (by decide)) (ma_cons (me_var 0) (ma_cons (me_var 2) ma_nil))))))
        mss_nil)
      (mss_cons (ms_if (mt_cm (op_inA hu) (o_in false) (me_var 7) (me_var 3))
        (mss_one (ms_set (i := 7) sc_l_words.nd rfl (.inl rfl) (me_ix ix_seq o_ix (me_lc (own := [("_law_letter", 9)]) rfl sc_l_words.nd (mi_seq (me_var 2)) (blkOk_by (own := [("_law_letter", 9)]) (N := ["_law_state", "_law_many", "_law_letters", "_law_found", "_law_several", "_law_turn", "_law_way", "_law_word", "_law_sign", "_law_letter"]) (sc := defScope s_l_words) (by decide +kernel)) (fun _ _ _ _ _ => (mg_name (i := 9) sc_l_words.nd rfl (Or.inl rfl))) (fun _ _ _ _ _ => mts_one (mt_cm (op_notInA hu) (o_in true) (me_var 9) (me_var 3))) (fun _ _ _ _ _ => (me_var 9))) me_int)))
        mss_nil)
      (mss_one (ms_exp (me_app (me_var 3) (me_var 7)))))))))
    (mss_one (ms_fz 3 (ms_ret (me_var 3)))))))
theorem sc_l_row : FnScope ["_law_state", "_law_kinds_here", "_law_most", "_law_turn"] ["_law_state", "_law_kinds_here", "_law_most"] (defScope s_l_row) := ⟨rfl, rfl, rfl, by decide +kernel, rfl, by decide +kernel, by decide +kernel⟩
theorem ok_l_row {f : Addr} {fd : FuncData} (F : Fun K "_law_row" "_law_row" s_l_row f fd) (B : Bt mg) (c_l_draw : Cl P w K mg base ts 1 "_law_draw" ["_law_state", "_law_size"] m_draw) (c_l_pick : Cl P w K mg base ts 2 "_law_pick" ["_law_state", "_law_several"] m_l_pick) : FnM P w K mg base ts 3 f fd ["_law_state", "_law_kinds_here", "_law_most"] m_l_row := by
  refine fnM F sc_l_row (fun cv A outer s H E hr => ?_)
  have hu := hu_of hr
  exact (mss_one (ms_ret (me_t1 (call_tupA rfl) o_tup B.tuple PyProof.Rows.boot_tuple (me_lc (own := [("_law_turn", 3)]) rfl sc_l_row.nd (mi_rg1 B.range (me_call c_l_draw tkX (hr.mono (by decide)) (ma_cons (me_var 0) (ma_cons (me_bin op_addA o_add (me_var 2) me_int) ma_nil)))) (blkOk_by (own := [("_law_turn", 3)]) (N := ["_law_state", "_law_kinds_here", "_law_most", "_law_turn"]) (sc := defScope s_l_row) (by decide +kernel)) (fun _ _ _ _ _ => (mg_name (i := 3) sc_l_row.nd rfl (Or.inl rfl))) (fun _ _ _ _ _ => mts_nil) (fun _ _ _ _ _ => (me_call c_l_pick L2.takes0 (hr.mono (by decide)) (ma_cons (me_var 0) (ma_cons (me_var 1) ma_nil))))))))
theorem sc_l_kinds : FnScope ["_law_told"] ["_law_told"] (defScope s_l_kinds) := ⟨rfl, rfl, rfl, by decide +kernel, rfl, by decide +kernel, by decide +kernel⟩
theorem ok_l_kinds {f : Addr} {fd : FuncData} (F : Fun K "_law_kinds" "_law_kinds" s_l_kinds f fd) (B : Bt mg) : FnM P w K mg base ts 1 f fd ["_law_told"] m_l_kinds := by
  refine fnM F sc_l_kinds (fun cv A outer s H E hr => ?_)
  have hu := hu_of hr
  exact (mss_one (ms_ret (me_b1 (call_sortA rfl) o_sort B.sorted PyProof.Rows.boot_sorted (me_dget hu (me_dget hu (me_var 0) me_str) (me_dget hu (me_var 0) me_str)))))
theorem sc_l_any_told : FnScope ["_law_state", "_law_most_states", "_law_most_kinds", "_law_states", "_law_kinds_here", "_law_words_here", "_law_steps", "_law_tells", "_law_place", "_law_kind"] ["_law_state", "_law_most_states", "_law_most_kinds"] (defScope s_l_any_told) := ⟨rfl, rfl, rfl, by decide +kernel, rfl, by decide +kernel, by decide +kernel⟩
theorem ok_l_any_told {f : Addr} {fd : FuncData} (F : Fun K "_law_any_told" "_law_any_told" s_l_any_told f fd) (B : Bt mg) (c_l_words : Cl P w K mg base ts 3 "_law_words" ["_law_state", "_law_many"] m_l_words) (c_l_draw : Cl P w K mg base ts 1 "_law_draw" ["_law_state", "_law_size"] m_draw) (c_l_pick : Cl P w K mg base ts 2 "_law_pick" ["_law_state", "_law_several"] m_l_pick) : FnM P w K mg base ts 4 f fd ["_law_state", "_law_most_states", "_law_most_kinds"] m_l_any_told := by
  refine fnM F sc_l_any_told (fun cv A outer s H E hr => ?_)
  have hu := hu_of hr
  exact (mss_cons (ms_set (i := 3) sc_l_any_told.nd rfl (.inr rfl) (me_call c_l_words tkX (hr.mono (by decide)) (ma_cons (me_var 0) (ma_cons (me_bin op_addA o_add me_int (me_call c_l_draw tkX (hr.mono (by decide)) (ma_cons (me_var 0) (ma_cons (me_var 1) ma_nil)))) ma_nil))))
    (mss_cons (ms_set (i := 4) sc_l_any_told.nd rfl (.inl rfl) (me_call c_l_words tkX (hr.mono (by decide)) (ma_cons (me_var 0) (ma_cons (me_bin op_addA o_add me_int (me_call c_l_draw tkX (hr.mono (by decide)) (ma_cons (me_var 0) (ma_cons (me_var 2) ma_nil)))) ma_nil))))
    (mss_cons (ms_par3 (i := 5) (j := 6) (k := 7) rfl sc_l_any_told.nd rfl rfl rfl (by decide) (by decide) (by decide) rfl rfl rfl (ma_cons (me_call c_l_words tkX (hr.mono (by decide)) (ma_cons (me_var 0) (ma_cons (me_bin op_addA o_add me_int (me_call c_l_draw tkX (hr.mono (by decide)) (ma_cons (me_var 0) (ma_cons me_int ma_nil)))) ma_nil))) (ma_cons me_dnewC (ma_cons me_dnewC ma_nil))))
    (mss_cons (ms_for paX rfl (mi_seq (me_var 3)) (mg_name (i := 8) sc_l_any_told.nd rfl (.inl rfl))
      (mss_cons (ms_putD hu (me_var 6) (me_var 8) (me_dict rfl B.dict (me_lc (own := [("_law_kind", 9)]) rfl sc_l_any_told.nd (mi_seq (me_var 4)) (blkOk_by (own := [("_law_kind", 9)]) (N := ["_law_state", "_law_most_states", "_law_most_kinds", "_law_states", "_law_kinds_here", "_law_words_here", "_law_steps", "_law_tells", "_law_place", "_law_kind"]) (sc := defScope s_l_any_told) (by decide +kernel)) (fun _ _ _ _ _ => (mg_name (i := 9) sc_l_any_told.nd rfl (Or.inl rfl))) (fun _ _ _ _ _ => mts_nil) (fun _ _ _ _ _ => (me_tup (ma_cons (me_var 9) (ma_cons (me_call c_l_pick L2.takes0 (hr.mono (by decide)) (ma_cons (me_var 0) (ma_cons (me_var 3) ma_nil))) ma_nil)))))))
      (mss_one (ms_putD hu (me_var 7) (me_var 8) (me_call c_l_pick tkX (hr.mono (by decide)) (ma_cons (me_var 0) (ma_cons (me_var 5) ma_nil)))))))
    (mss_one (ms_fz 6 (ms_fz 7 (ms_ret (me_dic (mp_cons me_str (me_var 6) (mp_cons me_str (me_var 7) (mp_cons me_str (me_call c_l_pick tkX (hr.mono (by decide)) (ma_cons (me_var 0) (ma_cons (me_var 3) ma_nil))) mp_nil))))))))))))
theorem sc_l_rows_for : FnScope ["_law_state", "_law_kinds_here", "_law_newer", "_law_newer_kinds", "_law_kind"] ["_law_state", "_law_kinds_here", "_law_newer"] (defScope s_l_rows_for) := ⟨rfl, rfl, rfl, by decide +kernel, rfl, by decide +kernel, by decide +kernel⟩
theorem ok_l_rows_for {f : Addr} {fd : FuncData} (F : Fun K "_law_rows_for" "_law_rows_for" s_l_rows_for f fd) (B : Bt mg) (c_l_kinds : Cl P w K mg base ts 1 "_law_kinds" ["_law_told"] m_l_kinds) (c_l_row : Cl P w K mg base ts 3 "_law_row" ["_law_state", "_law_kinds_here", "_law_most"] m_l_row) : FnM P w K mg base ts 4 f fd ["_law_state", "_law_kinds_here", "_law_newer"] m_l_rows_for := by
  refine fnM F sc_l_rows_for (fun cv A outer s H E hr => ?_)
  have hu := hu_of hr
  exact (mss_cons (ms_set (i := 3) sc_l_rows_for.nd rfl (.inr rfl) (me_call c_l_kinds tkX (hr.mono (by decide)) (ma_cons (me_var 2) ma_nil)))
    (mss_one (ms_ret (me_dict rfl B.dict (me_lc (own := [("_law_kind", 4)]) rfl sc_l_rows_for.nd (mi_seq (me_var 1)) (blkOk_by (own := [("_law_kind", 4)]) (N := ["_law_state", "_law_kinds_here", "_law_newer", "_law_newer_kinds", "_law_kind"]) (sc := defScope s_l_rows_for) (by decide +kernel)) (fun _ _ _ _ _ => (mg_name (i := 4) sc_l_rows_for.nd rfl (Or.inl rfl))) (fun _ _ _ _ _ => mts_nil) (fun _ _ _ _ _ => (me_tup (ma_cons (me_var 4) (ma_cons (me_call c_l_row L2.takes0 (hr.mono (by decide)) (ma_cons (me_var 0) (ma_cons (me_var 3) (ma_cons me_int ma_nil)))) ma_nil)))))))))
theorem sc_l_edition : FnScope ["_law_told", "_law_steps", "_law_place", "_law_row_here"] ["_law_told"] (defScope s_l_edition) := ⟨rfl, rfl, rfl, by decide +kernel, rfl, by decide +kernel, by decide +kernel⟩
theorem ok_l_edition {f : Addr} {fd : FuncData} {CE : Addr} {cs : List Addr} {xNoEdition : Addr} (F : Fun K "_law_edition" "_law_edition" s_l_edition f fd) (B : Bt mg) (c_Edition : ClC P w K mg base ts 4 CE "Edition" ["self", "steps", "tells", "start"] (m_Edition___init cs xNoEdition CE)) : FnM P w K mg base ts 6 f fd ["_law_told"] (m_l_edition CE cs xNoEdition) := by
  refine fnM F sc_l_edition (fun cv A outer s H E hr => ?_)
  have hu := hu_of hr
  exact (mss_cons (ms_set (i := 1) sc_l_edition.nd rfl (.inl rfl) me_dnewC)
    (mss_cons (ms_for paX rfl (mi_seq (me_rev (me_t1 (call_listA rfl) o_list B.list PyProof.Rows.boot_list (me_dget hu (me_var 0) me_str)))) (mg_name (i := 2) sc_l_edition.nd rfl (.inl rfl))
      (mss_cons (ms_set (i := 3) sc_l_edition.nd rfl (.inl rfl) (me_dget hu (me_dget hu (me_var 0) me_str) (me_var 2)))
      (mss_one (ms_putD hu (me_var 1) (me_var 2) (me_if (mt_cm (op_eqA hr.units) o_eq (me_bin op_mod o_mod (me_b1 call_lenA o_len B.len PySem.boot_len (me_var 1)) me_int) me_int (nomark _)) (me_dict rfl B.dict (me_rev (me_listItems rfl B.list (me_var 3)))) (me_var 3))))))
    (mss_one (ms_fz 1 (ms_ret (me_mkF c_Edition tkX (hr.mono (by decide)) (ma_cons (me_var 1) (ma_cons (me_dget hu (me_var 0) me_str) (ma_cons (me_dget hu (me_var 0) me_str) ma_nil)))))))))
theorem sc_l_bent : FnScope ["_law_state", "_law_some", "_law_spare", "_law_found", "_law_way", "_law_key"] ["_law_state", "_law_some", "_law_spare"] (defScope s_l_bent) := ⟨rfl, rfl, rfl, by decide +kernel, rfl, by decide +kernel, by decide +kernel⟩
theorem ok_l_bent {f : Addr} {fd : FuncData} (F : Fun K "_law_bent" "_law_bent" s_l_bent f fd) (B : Bt mg) (c_l_pick : Cl P w K mg base ts 2 "_law_pick" ["_law_state", "_law_several"] m_l_pick) (c_l_draw : Cl P w K mg base ts 1 "_law_draw" ["_law_state", "_law_size"] m_draw) : FnM P w K mg base ts 3 f fd ["_law_state", "_law_some", "_law_spare"] m_l_bent := by
  refine fnM F sc_l_bent (fun cv A outer s H E hr => ?_)
  have hu := hu_of hr
  exact (mss_cons (ms_par3 (i := 3) (j := 4) (k := 5) rfl sc_l_bent.nd rfl rfl rfl (by decide) (by decide) (by decide) rfl rfl rfl (ma_cons (me_dictC rfl B.dict (me_var 1)) (ma_cons (me_call c_l_draw tkX (hr.mono (by decide)) (ma_cons (me_var 0) (ma_cons me_int ma_nil))) (ma_cons (me_call c_l_pick tkX (hr.mono (by decide)) (ma_cons (me_var 0) (ma_cons (me_b1 (call_sortA rfl) o_sort B.sorted PyProof.Rows.boot_sorted (me_var 1)) ma_nil))) ma_nil))))
    (mss_cons (ms_if (PW.pt (mw_and (mt_cm (op_eqA hr.units) o_eq (me_var 4) me_int (nomark _)) (mw_and1 (mt_cm op_gt o_cmp (me_b1 call_lenA o_len B.len PySem.boot_len (me_var 3)) me_int (nomark _)))))
      (mss_one (ms_exp (me_popD (me_var 3) (me_var 5))))
      mss_nil)
    (mss_cons (ms_if (PW.pt (mw_and (mt_cm (op_eqA hr.units) o_eq (me_var 4) me_int (nomark _)) (mw_and1 (mt_cm op_lt o_cmp (me_b1 call_lenA o_len B.len PySem.boot_len (me_var 3)) me_int (nomark _)))))
      (mss_one (ms_putD hu (me_var 3) (me_call c_l_pick tkX (hr.mono (by decide)) (ma_cons (me_var 0) (ma_cons (me_lst (ma_cons me_str (ma_cons me_str ma_nil))) ma_nil))) (me_dget hu (me_var 3) (me_var 5))))
      mss_nil)
    (mss_cons (ms_if (mt_cm (op_eqA hr.units) o_eq (me_var 4) me_int (nomark _))
      (mss_one (ms_putD hu (me_var 3) (me_var 5) (me_var 2)))
      mss_nil)
    (mss_one (ms_fz 3 (ms_ret (me_var 3))))))))
theorem sc_l_is_due : FnScope ["_law_rows", "_law_states", "_law_low", "_law_high", "_law_row_here", "_law_word", "_law_goal"] ["_law_rows", "_law_states", "_law_low", "_law_high"] (defScope s_l_is_due) := ⟨rfl, rfl, rfl, by decide +kernel, rfl, by decide +kernel, by decide +kernel⟩
theorem ok_l_is_due {f : Addr} {fd : FuncData} (F : Fun K "_law_is_due" "_law_is_due" s_l_is_due f fd) (B : Bt mg) (c_l_kinds : Cl P w K mg base ts 1 "_law_kinds" ["_law_told"] m_l_kinds) : FnM P w K mg base ts 2 f fd ["_law_rows", "_law_states", "_law_low", "_law_high"] m_l_is_due := by
  refine fnM F sc_l_is_due (fun cv A outer s H E hr => ?_)
  have hu := hu_of hr
  exact (mss_cons (ms_if (PW.pt (mw_or (mt_cm (op_neA hr.units) o_ne (me_b1 (call_sortA rfl) o_sort B.sorted PyProof.Rows.boot_sorted (me_var 0)) (me_call c_l_kinds tkX (hr.mono (by decide)) (ma_cons (me_var 2) ma_nil)) (nomark _)) (mw_or1 (mt_cm (op_neA hr.units) o_ne (me_b1 (call_sortA rfl) o_sort B.sorted PyProof.Rows.boot_sorted (me_var 1)) (me_b1 (call_sortA rfl) o_sort B.sorted PyProof.Rows.boot_sorted (me_dget hu (me_var 2) me_str)) (nomark _)))))
      (mss_one (ms_ret me_bl))
      mss_nil)
    (mss_cons (ms_for paX rfl (mi_seq (me_listVals rfl B.list (me_var 0))) (mg_name (i := 4) sc_l_is_due.nd rfl (.inl rfl))
      (mss_one (ms_if (mt_cm (op_neA hr.units) o_ne (me_lc (own := [("_law_word", 5)]) rfl sc_l_is_due.nd (mi_seq (me_var 4)) (blkOk_by (own := [("_law_word", 5)]) (N := ["_law_rows", "_law_states", "_law_low", "_law_high", "_law_row_here", "_law_word", "_law_goal"]) (sc := defScope s_l_is_due) (by decide +kernel)) (fun _ _ _ _ _ => (mg_name (i := 5) sc_l_is_due.nd rfl (Or.inl rfl))) (fun _ _ _ _ _ => mts_one (mt_cm (op_notInA hu) (o_in true) (me_var 5) (me_call c_l_kinds L2.takes0 (hr.mono (by decide)) (ma_cons (me_var 3) ma_nil)))) (fun _ _ _ _ _ => (me_var 5))) (me_lst ma_nil) (nomark _))
        (mss_one (ms_ret me_bl))
        mss_nil)))
    (mss_one (ms_ret (me_cmp (op_eqA hr.units) o_eq (me_lc (own := [("_law_goal", 6)]) rfl sc_l_is_due.nd (mi_seq (me_listVals rfl B.list (me_var 1))) (blkOk_by (own := [("_law_goal", 6)]) (N := ["_law_rows", "_law_states", "_law_low", "_law_high", "_law_row_here", "_law_word", "_law_goal"]) (sc := defScope s_l_is_due) (by decide +kernel)) (fun _ _ _ _ _ => (mg_name (i := 6) sc_l_is_due.nd rfl (Or.inl rfl))) (fun _ _ _ _ _ => mts_one (mt_cm (op_notInA hu) (o_in true) (me_var 6) (me_dget hu (me_var 3) me_str))) (fun _ _ _ _ _ => (me_var 6))) (me_lst ma_nil) (nomark _))))))
end
end Eg
namespace Eg
open Evl (Ex)
open PySem L2 Sn LamX
section
variable {P : Program} {w : World} {K : PySem.W.Frag} {mg : Str → Option Value} {base : Heap} {ts : List (Addr × Str)}
theorem sc_law : FnScope ["_law_script", "_law_state", "_law_turn", "_law_low", "_law_high", "_law_goals", "_law_rows", "_law_states", "_law_place", "_law_row_here", "_law_made", "_law_due", "_law_folds", "_law_turned", "_law_odd"] ["_law_script"] (defScope s_law) := ⟨rfl, rfl, rfl, by decide +kernel, rfl, by decide +kernel, by decide +kernel⟩
theorem ok_law {f : Addr} {fd : FuncData} {CL : Addr} {cs : List Addr} {xNoLift : Addr} {CE : Addr} {xNoEdition : Addr} {ec : Nat → Addr} {Is : List Nat} {cc Pt : Addr} (F : FunT K "law" "law" s_law f fd cc) (B : Bt mg) (c_l_begun : Cl P w K mg base ts 1 "_law_begun" ["_law_script"] m_begun) (c_l_any_told : Cl P w K mg base ts 4 "_law_any_told" ["_law_state", "_law_most_states", "_law_most_kinds"] m_l_any_told) (c_l_rows_for : Cl P w K mg base ts 4 "_law_rows_for" ["_law_state", "_law_kinds_here", "_law_newer"] m_l_rows_for) (c_l_kinds : Cl P w K mg base ts 1 "_law_kinds" ["_law_told"] m_l_kinds) (c_l_pick : Cl P w K mg base ts 2 "_law_pick" ["_law_state", "_law_several"] m_l_pick) (c_l_draw : Cl P w K mg base ts 1 "_law_draw" ["_law_state", "_law_size"] m_draw) (c_l_row : Cl P w K mg base ts 3 "_law_row" ["_law_state", "_law_kinds_here", "_law_most"] m_l_row) (c_l_bent : Cl P w K mg base ts 3 "_law_bent" ["_law_state", "_law_some", "_law_spare"] m_l_bent) (c_l_is_due : Cl P w K mg base ts 2 "_law_is_due" ["_law_rows", "_law_states", "_law_low", "_law_high"] m_l_is_due) (c_Lift : ClC P w K mg base ts 4 CL "Lift" ["self", "events", "snapshots"] (m_Lift___init cs xNoLift CL)) (c_l_edition : Cl P w K mg base ts 6 "_law_edition" ["_law_told"] (m_l_edition CE cs xNoEdition)) (c_Lift_fits : ClM P w K mg base ts 3 CL "fits" ["self", "one", "other"] (m_Lift_fits cs CE xNoEdition CL)) (c_Lift___eq : ClS P w K mg base ts 1 (NeC K CL) ["self", "other"] (m_Lift___eq cs CL)) (Hr : Ear K mg ec Is) (Tl : LamT ts mg base cc Pt "law.<locals>.<lambda>") : FnMG P w K mg base ts 7 f fd ["_law_script"] (m_law CL cs xNoLift CE xNoEdition ec Is) := by
  refine fnMTG F sc_law (fun A outer s H E hg hr => ?_)
  have hu := hu_of hr
  exact (mss_cons (ms_set (i := 1) sc_law.nd rfl (.inr rfl) (me_call c_l_begun tkX (hr.mono (by decide)) (ma_cons (me_var 0) ma_nil)))
    (mss_cons (ms_for paX rfl (mi_rg1 B.range (me_bin op_addA o_add me_int (me_b2 (call_min2 rfl) o_min B.min PyProof.Rows.boot_min (me_lenS B.len (me_var 0)) me_int))) (mg_name (i := 2) sc_law.nd rfl (.inl rfl))
      (mss_cons (ms_par (i := 3) (j := 4) rfl sc_law.nd rfl rfl (by decide) rfl rfl (ma_cons (me_call c_l_any_told tkX (hr.mono (by decide)) (ma_cons (me_var 1) (ma_cons me_int (ma_cons me_int ma_nil)))) (ma_cons (me_call c_l_any_told tkX (hr.mono (by decide)) (ma_cons (me_var 1) (ma_cons me_int (ma_cons me_int ma_nil)))) ma_nil)))
      (mss_cons (ms_set (i := 5) sc_law.nd rfl (.inr rfl) (me_b1 (call_sortA rfl) o_sort B.sorted PyProof.Rows.boot_sorted (me_dget hu (me_var 4) me_str)))
      (mss_cons (ms_set (i := 6) sc_law.nd rfl (.inl rfl) (me_call c_l_rows_for tkX (hr.mono (by decide)) (ma_cons (me_var 1) (ma_cons (me_call c_l_kinds tkX (hr.mono (by decide)) (ma_cons (me_var 3) ma_nil)) (ma_cons (me_var 4) ma_nil)))))
      (mss_cons (ms_set (i := 7) sc_law.nd rfl (.inl rfl) (me_dict rfl B.dict (me_lc (own := [("_law_place", 8)]) rfl sc_law.nd (mi_seq (me_dget hu (me_var 3) me_str)) (blkOk_by (own := [("_law_place", 8)]) (N := ["_law_script", "_law_state", "_law_turn", "_law_low", "_law_high", "_law_goals", "_law_rows", "_law_states", "_law_place", "_law_row_here", "_law_made", "_law_due", "_law_folds", "_law_turned", "_law_odd"]) (sc := defScope s_law) (by decide +kernel)) (fun _ _ _ _ _ => (mg_name (i := 8) sc_law.nd rfl (Or.inl rfl))) (fun _ _ _ _ _ => mts_nil) (fun _ _ _ _ _ => (me_tup (ma_cons (me_var 8) (ma_cons (me_call c_l_pick L2.takes0 (hr.mono (by decide)) (ma_cons (me_var 1) (ma_cons (me_var 5) ma_nil))) ma_nil)))))))
      (mss_cons (ms_if (mt_cm (op_eqA hr.units) o_eq (me_call c_l_draw tkX (hr.mono (by decide)) (ma_cons (me_var 1) (ma_cons me_int ma_nil))) me_int (nomark _))
        (mss_cons (ms_set (i := 9) sc_law.nd rfl (.inl rfl) (me_call c_l_row tkX (hr.mono (by decide)) (ma_cons (me_var 1) (ma_cons (me_bin op_addA o_add (me_call c_l_kinds tkX (hr.mono (by decide)) (ma_cons (me_var 4) ma_nil)) (me_lst (ma_cons me_str ma_nil))) (ma_cons me_int ma_nil)))))
        (mss_one (ms_set (i := 6) sc_law.nd rfl (.inl rfl) (me_call c_l_bent tkX (hr.mono (by decide)) (ma_cons (me_var 1) (ma_cons (me_var 6) (ma_cons (me_call c_l_pick tkX (hr.mono (by decide)) (ma_cons (me_var 1) (ma_cons (me_lst (ma_cons (me_var 9) (ma_cons (me_tup (ma_cons me_str ma_nil)) ma_nil))) ma_nil))) ma_nil)))))))
        mss_nil)
      (mss_cons (ms_if (mt_cm (op_eqA hr.units) o_eq (me_call c_l_draw tkX (hr.mono (by decide)) (ma_cons (me_var 1) (ma_cons me_int ma_nil))) me_int (nomark _))
        (mss_one (ms_set (i := 7) sc_law.nd rfl (.inl rfl) (me_call c_l_bent tkX (hr.mono (by decide)) (ma_cons (me_var 1) (ma_cons (me_var 7) (ma_cons (me_call c_l_pick tkX (hr.mono (by decide)) (ma_cons (me_var 1) (ma_cons (me_bin op_addA o_add (me_var 5) (me_lst (ma_cons me_str (ma_cons me_str ma_nil)))) ma_nil))) ma_nil))))))
        mss_nil)
      (mss_cons (ms_asgT rfl (ma_cons (me_mkF c_Lift tkX (hr.mono (by decide)) (ma_cons (me_var 6) (ma_cons (me_var 7) ma_nil))) (ma_cons (me_call c_l_is_due tkX (hr.mono (by decide)) (ma_cons (me_var 6) (ma_cons (me_var 7) (ma_cons (me_var 3) (ma_cons (me_var 4) ma_nil))))) ma_nil)) (mgs_cons (mg_name (i := 10) sc_law.nd rfl (.inr rfl)) (mgs_cons (mg_name (i := 11) sc_law.nd rfl (.inl rfl)) mgs_nil)) rfl (by decide))
      (mss_cons (ms_set (i := 12) sc_law.nd rfl (.inr rfl) (me_lst (ma_cons (me_call c_l_edition tkX (hr.mono (by decide)) (ma_cons (me_var 3) ma_nil)) (ma_cons (me_call c_l_edition tkX (hr.mono (by decide)) (ma_cons (me_var 4) ma_nil)) ma_nil))))
      (mss_cons (ms_if (mt_cm (op_neA hr.units) o_ne (me_repr hg hr B.repr (me_lst (ma_cons (me_meth c_Lift_fits tkX (hr.mono (by decide)) (me_var 10) (ma_cons (me_ix ix_seq o_ix (me_var 12) me_int) (ma_cons (me_ix ix_seq o_ix (me_var 12) me_int) ma_nil))) (ma_cons (me_meth c_Lift_fits tkX (hr.mono (by decide)) (me_var 10) (ma_cons (me_ix ix_seq o_ix (me_var 12) me_int) (ma_cons (me_ix ix_seq o_ix (me_var 12) me_int) ma_nil))) ma_nil)))) (me_repr hg hr B.repr (me_lst (ma_cons (me_var 11) (ma_cons (me_var 11) ma_nil)))) (nomark _))
        (mss_one (ms_ret me_bl))
        mss_nil)
      (mss_cons (ms_set (i := 13) sc_law.nd rfl (.inl rfl) (me_call c_l_is_due tkX (hr.mono (by decide)) (ma_cons (me_var 6) (ma_cons (me_var 7) (ma_cons (me_var 4) (ma_cons (me_var 3) ma_nil))))))
      (mss_cons (ms_if (PW.pt (mw_or (mt_cm (op_neA hr.units) o_ne (me_repr hg hr B.repr (me_meth c_Lift_fits tkX (hr.mono (by decide)) (me_var 10) (ma_cons (me_ix ix_seq o_ix (me_var 12) me_int) (ma_cons (me_ix ix_seq o_ix (me_var 12) me_int) ma_nil)))) (me_repr hg hr B.repr (me_var 13)) (nomark _)) (mw_or1 (mt_neO c_Lift___eq (hr.mono (by decide)) tkX (me_var 10) (me_mkF c_Lift tkX (hr.mono (by decide)) (ma_cons (me_var 6) (ma_cons (me_var 7) ma_nil)))))))
        (mss_one (ms_ret me_bl))
        mss_nil)
      (mss_cons (ms_set (i := 14) sc_law.nd rfl (.inr rfl) (me_call c_l_pick tkX (hr.mono (by decide)) (ma_cons (me_var 1) (ma_cons (me_lst (ma_cons me_non (ma_cons me_int (ma_cons me_str (ma_cons (me_var 3) (ma_cons (me_tup ma_nil) (ma_cons (me_var 10) (ma_cons (me_lst (ma_cons (me_ix ix_seq o_ix (me_var 12) me_int) ma_nil)) ma_nil)))))))) ma_nil))))
      (mss_cons (ms_if (mt_cm (op_neA hr.units) o_ne (me_hear (k := 3) B Hr Tl rfl (hr.mono (by decide)) (lamS_by (sc := defScope s_law) (by decide +kernel)) (fun _ _ _ _ _ _ _ hr => (me_meth c_Lift_fits tkL (hr.mono (by decide)) (me_var 10) (ma_cons (me_var 14) (ma_cons (me_ix ix_seq o_ix (me_var 12) me_int) ma_nil))))) (me_tup (ma_cons me_str (ma_cons me_non ma_nil))) (nomark _))
        (mss_one (ms_ret me_bl))
        mss_nil)
      (mss_one (ms_if (mt_cm (op_neA hr.units) o_ne (me_hear (k := 3) B Hr Tl rfl (hr.mono (by decide)) (lamS_by (sc := defScope s_law) (by decide +kernel)) (fun _ _ _ _ _ _ _ hr => (me_meth c_Lift_fits tkL (hr.mono (by decide)) (me_var 10) (ma_cons (me_ix ix_seq o_ix (me_var 12) me_int) (ma_cons (me_var 14) ma_nil))))) (me_tup (ma_cons me_str (ma_cons me_non ma_nil))) (nomark _))
        (mss_one (ms_ret me_bl))
        mss_nil))))))))))))))))
    (mss_one (ms_ret me_bl))))
end
end Eg
/-! the end of a law whose def shows containers -/
namespace Sn
open Evl (Ex)
open PySem PySem.Spec PyProof.Rows L2 LamX
open Classical in
noncomputable def hpG (K : PySem.W.Frag) (cs : List (Addr × Addr)) (a : Addr) (oa : Obj) (xs : List V) : Hp := fun b =>
  if ∃ p ∈ cs, p.2 = b then some (.tbl #[]) else if b = a ∧ K.lookup a = none then some (.frz oa (.lst xs)) else none
section
variable {K : PySem.W.Frag} {cs : List (Addr × Addr)} {a b : Addr} {oa : Obj} {xs : List V}
theorem hpG_tab {p : Addr × Addr} (h : p ∈ cs) : hpG K cs a oa xs p.2 = some (.tbl #[]) := if_pos ⟨p, h, rfl⟩
theorem hpG_in {u : HO} (h : hpG K cs a oa xs b = some u) : (u = .tbl #[] ∧ ∃ p ∈ cs, p.2 = b) ∨ (u = .frz oa (.lst xs) ∧ b = a ∧ K.lookup a = none ∧ ¬ ∃ p ∈ cs, p.2 = b) := by
  unfold hpG at h
  by_cases z : ∃ p ∈ cs, p.2 = b
  · rw [if_pos z] at h; exact .inl ⟨(Option.some.inj h).symm, z⟩
  · rw [if_neg z] at h
    by_cases y : b = a ∧ K.lookup a = none
    · rw [if_pos y] at h; exact .inr ⟨(Option.some.inj h).symm, y.1, y.2, z⟩
    · rw [if_neg y] at h; cases h
theorem hpG_own (n : ¬ ∃ p ∈ cs, p.2 = a) (k : K.lookup a = none) : hpG K cs a oa xs a = some (.frz oa (.lst xs)) := by
  unfold hpG
  rw [if_neg n, if_pos ⟨rfl, k⟩]
theorem hpG_no (h : ∀ u, hpG K cs a oa xs b ≠ some u) : hpG K cs a oa xs b = none := by
  cases z : hpG K cs a oa xs b with
  | none => rfl
  | some u => exact absurd z (h u)
end
theorem law_callG {P : Program} {w : World} {K : PySem.W.Frag} {mg mb : Str → Option Value} {CX : CXT} {k : Nat} {fa a : Addr} {cs : List (Addr × Addr)} {fd : FuncData} {x : Str} {sp : Sp} {s : Shared} {vs : List Value} {ns : List Int}
    (KX : K.In s.heap) (hn : s.heap.Ns mainGlobals mg) (hb : s.heap.Ns builtinsNs mb) (hbb : ∀ x : Str, x ≠ "__name__" → mb x = bootBuiltins x) (NL : s.heap.NoLimit) (hg : s.gens = #[])
    (hT : ∀ p ∈ cs, s.heap.get? p.2 = some (PySem.W.tabObj #[])) (nT : ∀ p ∈ cs, K.lookup p.2 = none) (hC : ∀ p ∈ cs, PySem.W.CodeHd s.heap p.1 p.2)
    (hbm : ∃ (bm : Addr) (ob : Obj), mg "__builtins__" = some (.ref bm) ∧ bm ≠ builtinsNs ∧ s.heap.get? bm = some ob ∧ ob.cls = .type "module" ∧ ob.dict = some builtinsNs ∧ ob.data = .plain)
    (ha : s.heap.get? a = some { cls := .type "list", data := .seq vs.toArray }) (hi : IntsAre vs ns) (hl : ns.length ≤ sizeLine) (hr : Room k callerA)
    (F : ∀ bs : Heap, K.In bs → bs.Ns mainGlobals mg → (∀ p ∈ cs, TabB bs mg p.1 p.2) → FnG P w K mg bs CX k fa fd [x] sp) (hbi : ∀ (s : Shared) (u : Value), BindsTo s fd ⟨[u], []⟩ [(x, u)])
    (hsp : ∀ H : Hp, (∀ p ∈ cs, H p.2 = some (.tbl #[])) → SqL K H a (ns.map V.int) → sp [.ref a] H (fun v _ => v = .bl true) fun _ _ _ => False) (hX : ∀ H e s', CX [] H s (fun _ _ _ => False) e s' → False) :
    codeAny (model P w) callerA (.call (.ref fa) ⟨[.ref a], []⟩) (fun r s' => r = .ok (.ret (.bool true)) ∧ OldK s.heap s'.heap ∧ s'.os = s.os ∧ AllBare s'.gens) s := by
  have na : ¬ ∃ p ∈ cs, p.2 = a := fun ⟨p, hp, z⟩ => by
    have h := hT p hp
    rw [z, ha] at h
    exact Data.noConfusion (congrArg Obj.data (Option.some.inj h))
  generalize hoa : ({ cls := .type "list", data := .seq vs.toArray } : Obj) = oa at ha
  generalize hH : hpG K cs a oa (ns.map V.int) = H
  have tab : ∀ p ∈ cs, H p.2 = some (.tbl #[]) := fun p hp => by rw [← hH]; exact hpG_tab hp
  have inn : ∀ {b : Addr} {u : HO}, H b = some u → (u = .tbl #[] ∧ ∃ p ∈ cs, p.2 = b) ∨ (u = .frz oa (.lst (ns.map V.int)) ∧ b = a ∧ K.lookup a = none ∧ ¬ ∃ p ∈ cs, p.2 = b) := fun {b u} h => hpG_in (by rw [hH]; exact h)
  have out : ∀ {b : Addr}, (∀ u, H b ≠ some u) → H b = none := fun {b} h => by
    cases z : H b with
    | none => rfl
    | some u => exact absurd z (h u)
  -- what is no list and no table is not told
  have free : ∀ {b : Addr} {o : Obj}, s.heap.get? b = some o → (∀ us n, o.data ≠ .seq us n) → o.data ≠ .fields #[] → H b = none := fun {b o} e d1 d2 => out fun u z => by
    rcases inn z with ⟨_, p, hp, rfl⟩ | ⟨_, rfl, _⟩
    · rw [hT p hp] at e; cases e; exact d2 rfl
    · rw [ha] at e; cases e; rw [← hoa] at d1; exact d1 _ _ rfl
  have names : ∀ {b : Addr} {m : Str → Option Value}, s.heap.Ns b m → (hidT s.heap H).Ns b m := fun {b m} ⟨o, es, ep, e, d, r⟩ => ⟨o, es, ep, hidT_get e (free e (fun us n z => by rw [d] at z; cases z) (fun z => by rw [d] at z; cases z)), d, r⟩
  have inK : K.In (hidT s.heap H) := fun b o e => hidT_get (KX b o e) (out fun u z => by
    rcases inn z with ⟨_, p, hp, rfl⟩ | ⟨_, rfl, y, _⟩
    · rw [nT p hp] at e; cases e
    · rw [y] at e; cases e)
  have hm : L2.Mod K mg (hidT s.heap H) := ⟨inK, names hn, ⟨mb, names hb, hbb⟩, NL.elim fun mc z => ⟨mc, names z.1, z.2⟩⟩
  have tabs : ∀ p ∈ cs, TabB (hidT s.heap H) mg p.1 p.2 := fun p hp => by
    refine ⟨?_, ?_, fun z => ?_⟩
    · obtain ⟨o, us, f1, t1, f2, t2, i1, x1, t3, e, r1, r2, r3, rs⟩ := hC p hp
      exact ⟨o, us, f1, t1, f2, t2, i1, x1, t3, hidT_get e (free e (fun us n z => by rw [r2] at z; cases z) (fun z => by rw [r2] at z; cases z; simp at r3)), r1, r2, r3, rs⟩
    · obtain ⟨bm, ob, b1, b2, b3, b4, b5, b6⟩ := hbm
      refine ⟨bm, ob, b1, b2, fun z => ?_, fun z => ?_, hidT_get b3 (free b3 (fun us n z => by rw [b6] at z; cases z) (fun z => by rw [b6] at z; cases z)), b4, b5, b6⟩
      · obtain ⟨o, es, ep, e, d, _⟩ := hn
        rw [z, e] at b3; cases b3; rw [d] at b6; cases b6
      · rw [z, hT p hp] at b3; cases b3; cases b6
    · obtain ⟨o, es, ep, e, d, _⟩ := hn
      rw [z, hT p hp] at e; cases e; cases d
  have hok : HOk P w H s.heap := fun b u z => by
    rcases inn z with ⟨rfl, p, hp, rfl⟩ | ⟨rfl, rfl, _⟩
    · exact hT p hp
    · exact ⟨ha, by rw [List.length_map]; exact hl, vs, _, vals_ints hi, by rw [ha, ← hoa]⟩
  have sq : SqL K H a (ns.map V.int) := by
    cases hk : K.lookup a with
    | none => exact .inl (.inr ⟨oa, by rw [← hH]; exact hpG_own na hk⟩)
    | some o =>
      have e := KX a o hk
      rw [ha, ← hoa] at e
      cases e
      exact .inr ⟨_, vs.toArray, _, hk, rfl, rfl, rfl, by rw [List.size_toArray, hi.length]; exact hl, by simpa using vals_ints hi⟩
  have e0 : Env0 P w K mg (hidT s.heap H) callerA [] s H := ⟨rfl, hm, fun b o e => of_hidT e, Nat.le_of_eq (hidT_size _ _), trivial, fun b z => (by cases z), hok, .of_eq hg⟩
  refine codeAny_mono ((F _ inK (names hn) tabs).run callerA [] s H ⟨[.ref a], []⟩ [.ref a] [.ref a] _ _ rfl hr e0 (hbi s (.ref a)) (.cons rfl .nil) (hsp H tab sq)) fun r s' h => ?_
  match r, h with
  | .error e, h => exact (hX H e s' h).elim
  | .ok .next, h => exact h.elim
  | .ok .brk, h => exact h.elim
  | .ok .cont, h => exact h.elim
  | .ok (.ret u), ⟨v, H', os, bare, un, hok', r', q⟩ =>
    have q : v = .bl true := q
    subst q
    obtain rfl : u = Value.bool true := r'
    have kept : ∀ b o, (¬ ∃ p ∈ cs, p.2 = b) → s.heap.get? b = some o → s'.heap.get? b = some o := fun b o nb e => by
      cases z : H b with
      | none => exact un.keep b o e z (fun y => by cases y) (by simp)
      | some t =>
        rcases inn z with ⟨_, y⟩ | ⟨rfl, _⟩
        · exact absurd y nb
        · have g1 := (hok b _ z).1
          have g2 := (hok' b _ (un.frzs b oa _ z)).1
          rw [e] at g1
          cases g1
          exact g2
    have grew : ∀ p ∈ cs, ∃ us : Array Value, s'.heap.get? p.2 = some (PySem.W.tabObj us) := fun p hp => by
      obtain ⟨us, z⟩ := un.tbls p.2 #[] (tab p hp)
      exact ⟨_, hok' p.2 _ z⟩
    refine ⟨rfl, ⟨fun b o e => ?_, fun b o e => ?_⟩, os, bare⟩
    · by_cases nb : ∃ p ∈ cs, p.2 = b
      · obtain ⟨p, hp, rfl⟩ := nb
        obtain ⟨us, g⟩ := grew p hp
        rw [hT p hp] at e
        cases e
        exact .inr (.inl ⟨((hC p hp).tab (hT p hp)).isCodeTable, rfl, #[], us, rfl, by rw [Array.empty_append]; exact g⟩)
      · exact .inl (kept b o nb e)
    · by_cases nb : ∃ p ∈ cs, p.2 = b
      · obtain ⟨p, hp, rfl⟩ := nb
        exact (grew p hp).elim fun us g => ⟨_, g⟩
      · exact ⟨o, kept b o nb e⟩
/-- what is known of the law's promise at the head's heap -/
def LawG (l : PySem.W.OpenLaw) (w : World) (K : PySem.W.Frag) (CX : CXT) (k n : Nat) (x : Str) (mg : Str → Option Value) (fa : Addr) (h : Heap) : Prop :=
  ∃ (fd : FuncData) (cs : List (Addr × Addr)) (sp : Sp), (∀ p ∈ cs, h.get? p.2 = some (PySem.W.tabObj #[])) ∧ (∀ p ∈ cs, K.lookup p.2 = none) ∧ (∀ p ∈ cs, PySem.W.CodeHd h p.1 p.2) ∧ (∀ (s : Shared) (u : Value), BindsTo s fd ⟨[u], []⟩ [(x, u)]) ∧
    (∀ (H : Hp) (a : Addr) (ns : List Int), ns.length ≤ n → (∀ p ∈ cs, H p.2 = some (.tbl #[])) → SqL K H a (ns.map V.int) → sp [.ref a] H (fun v _ => v = .bl true) fun _ _ _ => False) ∧
    ∀ bs : Heap, K.In bs → bs.Ns mainGlobals mg → (∀ p ∈ cs, TabB bs mg p.1 p.2) → FnG l.prog w K mg bs CX k fa fd [x] sp
theorem walk_G {l : PySem.W.OpenLaw} {n k : Nat} {q : Program} {loose : List Str} {XP : (Str → Option Value) → Heap → Prop} {YP : World → Heap → Prop} {d : DefRec} {K : Params → PySem.W.Frag} {CX : World → CXT} {x : Str}
    (hn : l.most = some n) (h2 : n ≤ sizeLine) (hd : d.params.defaults = []) (hr : Room k callerA) (hY : ∀ (w : World) (h : Heap), YP w h → (K w.params).In h)
    (F : ∀ (w : World) (mg : Str → Option Value) (fa : Addr) (h : Heap), YP w h → (K w.params).In h → h.Ns mainGlobals mg → mg d.name = some (.ref fa) → LawG l w (K w.params) (CX w) k n x mg fa h)
    (hX : ∀ (w : World) (H : Hp) (s : Shared) (e : Value) (s' : Shared), CX w [] H s (fun _ _ _ => False) e s' → False) : PySem.W.WalkO q loose XP YP l.row.toRowW d [] (fun f vs => PySem.call f vs) :=
  Att.attach_callB hn hd fun w s0 s1 mg mb fa o pm cd dc a vs ns G Y ho hd hcd hmg hobj hints hlen hbits hg =>
    let ⟨_, _, _, hT, nT, C, hb, hsp, hF⟩ := F w mg fa _ Y (hY w _ Y) G.T.g hmg
    law_callG (hY w _ Y) G.T.g G.T.b G.T.builtins G.T.nolimit hg hT nT C G.T.bmain hobj hints (Nat.le_trans hlen h2) hr hF hb (fun H hH hS => hsp H a ns hlen hH hS) fun H e s' => hX w H s1 e s'
end Sn
/-! the engine: where a law starts -/
namespace Eg
open Evl (Ex)
open PySem L2 Sn LamX
def noTab (H : Hp) : Hp := fun b => match H b with | some (.tbl _) => none | o => o
theorem noTab_ex (H : Hp) : Ex (noTab H) H := fun b o h => by
  unfold noTab at h
  split at h
  · cases h
  · exact h
theorem noTab_get {H : Hp} {b : Addr} {o : HO} (h : H b = some o) (ht : ∀ ps, o ≠ .tbl ps) : noTab H b = some o := by
  unfold noTab
  rw [h]
  cases o with
  | tbl ps => exact absurd rfl (ht ps)
  | _ => rfl
theorem noTab_nt (H : Hp) : NoT (noTab H) := fun b ps z => by
  have z : noTab H b = some (.tbl ps) := z
  unfold noTab at z
  split at z
  · cases z
  · rename_i h
    exact h _ z
theorem sqL_noTab {K : PySem.W.Frag} {H : Hp} {p : Addr} {vs : List V} (h : SqL K H p vs) : SqL K (noTab H) p vs := by
  rcases h with (h | ⟨o, h⟩) | h
  · exact .inl (.inl (noTab_get h fun _ z => by cases z))
  · exact .inl (.inr ⟨o, noTab_get h fun _ z => by cases z⟩)
  · exact .inr h
theorem law_go {c : Cn} {m : FM} {H : Hp} {a : Addr} {ns : List Int} (hT : Tabs c.ts H) (hS : SqL c.k H a (ns.map V.int)) (h : m [.scr ns] ⟨[], 0⟩ (fun _ _ => False) (fun r _ => r = .d (.bl true))) :
    spM c 1 m [.ref a] H (fun v _ => v = .bl true) (fun _ _ _ => False) := by
  refine ⟨rfl, ⟨noTab H, [], none, fun _ => none⟩, [.scr ns], ⟨[], 0⟩, _, _, ?_, .cons ⟨a, rfl, sqL_noTab hS⟩ .nil, fun _ _ _ _ _ _ z => z.elim, h, fun r μ' W' H' v e l S mv => ?_⟩
  · exact { ex := noTab_ex H, nt := noTab_nt H, len := rfl, nd := List.nodup_nil, out := fun n a e h1 => by simp at h1, ntc := fun a ha => (by cases ha), cel := fun n a e h1 => by simp at h1, src := trivial, tab := hT, zx := fun _ _ z => (by cases z), zt := fun _ _ z => (by cases z), zd := fun _ _ z => (by cases z), tp := fun z => absurd rfl z }
  · subst e
    cases mv
    rfl
theorem FnG.ofOk {P : Program} {w : World} {K : PySem.W.Frag} {mg : Str → Option Value} {base : Heap} {CX : CXT} {k : Nat} {f : Addr} {fd : FuncData} {ps : List Str} {sp : Sp} (F : FnOk P w K mg base CX k f fd ps sp) : FnG P w K mg base CX k f fd ps sp :=
  ⟨F.len, fun A outer s H args us vs Q E _ hr e0 hb hv hs => F.run A outer s H args us vs Q E hr e0 hb hv hs⟩
theorem cx_no {P : Program} {w : World} {H : Hp} {s : Shared} {e : Value} {s' : Shared} (z : L2.CX P w [] H s (fun _ _ _ => False) e s') : False := by
  obtain ⟨_, _, _, _, _, _, _, _, _, _, _, _, z⟩ := z
  exact z
end Eg
namespace Sn
open Evl (Ex)
open PySem L2
section
variable {X : Cx} {P : Program} {w : World} {K : PySem.W.Frag} {mg : Str → Option Value} {base : Heap}
theorem scD : FnScope ["_law_state", "_law_size", "_law_found", "_law_turn", "_law_cell", "_law_mixed"] ["_law_state", "_law_size"] (defScope s_l_draw) := ⟨rfl, rfl, rfl, by decide +kernel, rfl, by decide +kernel, by decide +kernel⟩
theorem ok_draw {f : Addr} {fd : FuncData} (F : Fun K "_law_draw" "_law_draw" s_l_draw f fd) (B : Bt mg) : FnOk P w K mg base CX0 1 f fd ["_law_state", "_law_size"] spDraw := by
  refine F.ok scD (fun vs H Q E h => ?_) (fun cdv A outer s H vs Q E hr h => ?_)
  · obtain ⟨_, _, _, _, _, _, rfl, _⟩ := h
    rfl
  · obtain ⟨G, sa, la, ca, T, n, rfl, eG, ns, nl, D, hT, n0, n1, k⟩ := h
    have hu := hu_of hr
    refine ⟨_, Evl.pss_cut (ps_while PassesOwn.never (PW.pt (pw_and (pt_cmpR op_eq (pe_dget hu (pv 0) pe_str (fun _ _ => rfl)) pe_int (nomark _)) (pw_and1 (pt_cmpR (op_neD hr.units) (pe_dget hu (pv 0) pe_str (fun _ _ => rfl)) (pe_lst pa_nil) (nomark _)))))
        (pss_one (ps_dput hu (pv 0) pe_str (pe_bm PySem.F.plainAttrs_list PySem.F.slot_list_pop PySem.F.type_list_pop mt_popAt (pe_dget hu (pv 0) pe_str (fun _ _ => rfl)) (pa_cons pe_int pa_nil)) rfl)))
      (pss_cons (ps_if (pt_cmpR op_gt (pe_dget hu (pv 0) pe_str (fun _ _ => rfl)) pe_int (nomark _))
        (pss_cons (ps_set (i := 2) scD.nd rfl (.inl rfl) (pe_op op_mod (pe_callTy call_int1 (by rfl) B.int PyProof.Rows.boot_int (pa_cons (pe_dget hu (pv 0) pe_str (fun _ _ => rfl)) pa_nil)) (pv 1)))
        (pss_cons (ps_dput hu (pv 0) pe_str (pe_op op_fdiv (pe_dget hu (pv 0) pe_str (fun _ _ => rfl)) (pv 1)) rfl)
        (pss_one (ps_ret (pv 2))))) pss_nil)
      (pss_cons (ps_set (i := 3) scD.nd rfl (.inl rfl) (pe_op op_add (pe_dget hu (pv 0) pe_str (fun _ _ => rfl)) pe_int))
      (pss_cons (ps_dput hu (pv 0) pe_str (pv 3) rfl)
      (Evl.pss_cut (ps_set (i := 4) scD.nd rfl (.inl rfl) (pe_ifExp (pt_cmpR (op_neD hr.units) (pe_dget hu (pv 0) pe_str (fun _ _ => rfl)) (pe_lst pa_nil) (nomark _))
          (pe_ix ix_list (pe_dget hu (pv 0) pe_str (fun _ _ => rfl)) (pe_op op_mod (pe_callTy call_int1 (by rfl) B.int PyProof.Rows.boot_int (pa_cons (pv 3) pa_nil)) (pe_callB call_len_seq (by rfl) B.len PySem.boot_len (pa_cons (pe_dget hu (pv 0) pe_str (fun _ _ => rfl)) pa_nil))) (fun _ _ => rfl)) pe_int))
      (pss_cons (ps_set (i := 5) scD.nd rfl (.inl rfl) (pe_op op_mod (pe_callTy call_int1 (by rfl) B.int PyProof.Rows.boot_int (pa_cons (pe_op op_pow (pe_op op_add (pe_op op_add (pe_op op_mod (pe_callTy call_int1 (by rfl) B.int PyProof.Rows.boot_int (pa_cons (pv 4) pa_nil)) pe_int) (pe_op op_mul pe_int (pv 3))) pe_int) pe_int) pa_nil)) pe_int))
      (pss_one (ps_ret (pe_op op_mod (pe_callTy call_int1 (by rfl) B.int PyProof.Rows.boot_int (pa_cons (pe_op op_fdiv (pe_op op_mod (pe_callTy call_int1 (by rfl) B.int PyProof.Rows.boot_int (pa_cons (pe_op op_pow (pe_op op_add (pv 5) (pe_op op_mul pe_int (pv 3))) pe_int) pa_nil)) pe_int) pe_int) pa_nil)) (pv 1))))))))), ?_⟩
    refine ⟨fun σ H' => σ = [some (.ref sa), some (.int n), none, none, none, none] ∧ Ex G H' ∧ Dr H' sa la ca T, ?_, ?_⟩
    · -- the loop
      obtain ⟨⟨ls, cs, r, t, h1, h2, h3, g1, g2, g3, g4, g5, g6⟩, sl, sc, lc⟩ := D
      refine ⟨fun m σ H' => σ = [some (.ref sa), some (.int n), none, none, none, none] ∧ Ex G H' ∧ ∃ (ls cs : List Int) (r t : Int), H' sa = some (.dK (dkv la ca r t)) ∧ H' la = some (.lst (ls.map V.int)) ∧ H' ca = some (.lst (cs.map V.int)) ∧ (∀ x ∈ ls, 0 ≤ x) ∧ 0 ≤ r ∧ 0 ≤ t ∧ t ≤ T ∧ ls.length ≤ 63 ∧ cs.length ≤ 63 ∧ ls.length = m,
        ⟨ls.length, rfl, eG, ls, cs, r, t, h1, h2, h3, g1, g2, g3, g4, g5, g6, rfl⟩, fun m σ H1 hW => ?_⟩
      clear h1 h2 h3 g1 g2 g3 g4 g5 g6 ls cs r t eG
      obtain ⟨rfl, eG, ls, cs, r, t, h1, h2, h3, g1, g2, g3, g4, g5, g6, hm⟩ := hW
      refine ⟨_, rfl, sa, .int r, rfl, dg h1 (kv_rest _ _ _ _), rfl, _, rfl, ?_⟩
      by_cases hz : V.int r = V.int 0
      · rw [decide_eq_true hz]
        refine iteT ?_
        refine ⟨_, rfl, sa, .ref la, rfl, dg h1 (kv_large _ _ _ _), Nat.zero_le _, fun p np => ?_⟩
        refine ⟨_, _, dp_ints (SqL.of (exn np _ _ h2)), .lst (SqL.of upd_same) .nil, shaped_ints _, shaped_nil, _, rfl, ?_⟩
        rw [eqv_nil]
        have e1 := exn (o := .lst []) np
        cases ls with
        | nil =>
          refine iteF ?_
          exact ⟨rfl, ext eG e1, ⟨[], cs, r, t, e1 _ _ h1, e1 _ _ h2, e1 _ _ h3, g1, g2, g3, g4, g5, g6⟩, sl, sc, lc⟩
        | cons l lr =>
          refine iteT ?_
          refine ⟨fun σ H' => σ = [some (.ref sa), some (.int n), none, none, none, none] ∧ Ex G H' ∧ H' sa = some (.dK (dkv la ca l t)) ∧ H' la = some (.lst (lr.map V.int)) ∧ H' ca = some (.lst (cs.map V.int)), fun σ' H' hN => ?_, ?_⟩
          · obtain ⟨rfl, a, b, c, d⟩ := hN
            refine ⟨lr.length, by rw [← hm]; exact Nat.lt_succ_self _, rfl, a, lr, cs, l, t, b, c, d, fun x hx => g1 x (List.mem_cons_of_mem _ hx), g1 l List.mem_cons_self, g3, g4, ?_, g6, rfl⟩
            have : (l :: lr).length = lr.length + 1 := rfl
            omega
          · have k1 := e1 _ _ h1
            have k2 := e1 _ _ h2
            refine ⟨_, rfl, sa, .ref la, rfl, dg k1 (kv_large _ _ _ _), .inl ⟨rfl, _, SqL.of k2⟩, la, _, 0, 0, _, rfl, rfl, k2, by decide, by decide, (by simp [seqIndex?]), rfl, ?_⟩
            have k3 : upd (upd H1 p (.lst [])) la (.lst ((lr.map V.int))) sa = some (.dK (dkv la ca r t)) := by rw [upd_ne sl]; exact k1
            refine ⟨_, rfl, sa, _, rfl, dp k3 (dk_len _ _ _ _) (kp_rest _ _ _ _ _), ?_⟩
            refine ⟨rfl, exm (exm (ext eG e1) nl) ns, upd_same, ?_, ?_⟩
            · rw [upd_ne sl.symm, upd_same]
              rfl
            · rw [upd_ne sc.symm, upd_ne lc.symm]
              exact e1 _ _ h3
      · rw [decide_eq_false hz]
        refine iteF ?_
        refine iteF ?_
        exact ⟨rfl, eG, ⟨ls, cs, r, t, h1, h2, h3, g1, g2, g3, g4, g5, g6⟩, sl, sc, lc⟩
    · -- behind it
      rintro σ H1 ⟨rfl, eG, D⟩
      obtain ⟨⟨ls, cs, r, t, h1, h2, h3, g1, g2, g3, g4, g5, g6⟩, sl, sc, lc⟩ := D
      refine ⟨_, rfl, sa, .int r, rfl, dg h1 (kv_rest _ _ _ _), r, 0, rfl, rfl, _, rfl, ?_⟩
      by_cases hz : 0 < r
      · rw [decide_eq_true hz]
        refine iteT ?_
        refine ⟨_, rfl, sa, .int r, rfl, dg h1 (kv_rest _ _ _ _), .inl ⟨r, rfl, ?_⟩⟩
        refine ⟨_, rfl, r, n, rfl, rfl, n0, ?_⟩
        refine ⟨_, rfl, sa, .int r, rfl, dg h1 (kv_rest _ _ _ _), _, rfl, r, n, rfl, rfl, ⟨n0, by omega⟩, _, rfl, sa, _, rfl, dp h1 (dk_len _ _ _ _) (kp_rest _ _ _ _ _), ?_⟩
        refine ⟨_, rfl, ?_⟩
        refine k _ _ (Int.emod_nonneg _ (by omega)) (Int.emod_lt_of_pos _ n0) (exm eG ns) ⟨⟨ls, cs, r / n, t, upd_same, ?_, ?_, g1, Int.ediv_nonneg g2 (by omega), g3, by omega, g5, g6⟩, sl, sc, lc⟩
        · rw [upd_ne sl.symm]; exact h2
        · rw [upd_ne sc.symm]; exact h3
      · rw [decide_eq_false hz]
        refine iteF ?_
        -- turn = state["turn"] + 1; state["turn"] = turn
        refine ⟨_, rfl, sa, .int t, rfl, dg h1 (kv_turn _ _ _ _), t, 1, rfl, rfl, ?_⟩
        refine ⟨_, rfl, _, rfl, sa, _, rfl, dp h1 (dk_len _ _ _ _) (kp_turn _ _ _ _ _), ?_⟩
        have D2 : Dr (upd H1 sa (.dK (dkv la ca r (t + 1)))) sa la ca (T + 1) := by
          refine ⟨⟨ls, cs, r, t + 1, upd_same, ?_, ?_, g1, g2, by omega, by omega, g5, g6⟩, sl, sc, lc⟩
          · rw [upd_ne sl.symm]; exact h2
          · rw [upd_ne sc.symm]; exact h3
        have e2 : Ex G (upd H1 sa (.dK (dkv la ca r (t + 1)))) := exm eG ns
        have k1 : upd H1 sa (.dK (dkv la ca r (t + 1))) sa = some (.dK (dkv la ca r (t + 1))) := upd_same
        have k3 : upd H1 sa (.dK (dkv la ca r (t + 1))) ca = some (.lst (cs.map V.int)) := by rw [upd_ne sc.symm]; exact h3
        refine ⟨fun σ H' => ∃ c : Int, σ = [some (.ref sa), some (.int n), none, some (.int (t + 1)), some (.int c), none] ∧ Ex G H' ∧ Dr H' sa la ca (T + 1), ?_, ?_⟩
        · refine ⟨_, rfl, sa, .ref ca, rfl, dg k1 (kv_cells _ _ _ _), Nat.zero_le _, fun p np => ?_⟩
          have e3 := exn (o := .lst []) np
          refine ⟨_, _, dp_ints (SqL.of (e3 _ _ k3)), .lst (SqL.of upd_same) .nil, shaped_ints _, shaped_nil, _, rfl, ?_⟩
          rw [eqv_nil]
          cases cs with
          | nil =>
            refine iteF ?_
            exact ⟨0, rfl, ext e2 e3, D2.ext e3⟩
          | cons c cr =>
            refine iteT ?_
            have kk1 := e3 _ _ k1
            have kk3 := e3 _ _ k3
            refine ⟨_, rfl, sa, .ref ca, rfl, dg kk1 (kv_cells _ _ _ _), _, rfl, .inl ⟨t + 1, rfl, ?_⟩⟩
            refine ⟨_, rfl, sa, .ref ca, rfl, dg kk1 (kv_cells _ _ _ _), ca, _, rfl, .inl (SqL.of kk3), ?_⟩
            refine ⟨t + 1, _, rfl, rfl, ?_, ?_⟩
            · show (0 : Int) < ((List.map V.int (c :: cr)).length : Int)
              simp
            · have hb : ((t + 1) % ((List.map V.int (c :: cr)).length : Int)).toNat < (c :: cr).length := by
                have p0 : (0 : Int) < ((List.map V.int (c :: cr)).length : Int) := by simp
                have a1 := Int.emod_lt_of_pos (t + 1) p0
                have a2 := Int.emod_nonneg (t + 1) (by omega : ((List.map V.int (c :: cr)).length : Int) ≠ 0)
                have a3 : (List.map V.int (c :: cr)).length = (c :: cr).length := List.length_map _
                omega
              refine ⟨ca, _, _, .int ((c :: cr)[((t + 1) % ((List.map V.int (c :: cr)).length : Int)).toNat]), rfl, rfl, SqL.of kk3, at_of (j := ((t + 1) % ((List.map V.int (c :: cr)).length : Int)).toNat) ?_ ?_, ?_⟩
              · have p0 : (0 : Int) < ((List.map V.int (c :: cr)).length : Int) := by simp
                have a2 := Int.emod_nonneg (t + 1) (by omega : ((List.map V.int (c :: cr)).length : Int) ≠ 0)
                omega
              · rw [List.getElem?_map, List.getElem?_eq_getElem hb]
                rfl
              · exact ⟨_, rfl, ext e2 e3, D2.ext e3⟩
        · rintro σ H3 ⟨c, rfl, e3, D3⟩
          refine ⟨_, rfl, .inl ⟨c, rfl, c, _, rfl, rfl, by show (0 : Int) < 2147483629; decide, _, rfl, 48271, t + 1, rfl, rfl, .inl ⟨by decide, by decide⟩, _, _, rfl, rfl, _, _, rfl, rfl, _, 3, rfl, rfl, ⟨by decide, by decide, ?_⟩, .inl ⟨_, rfl, _, _, rfl, rfl, by show (0 : Int) < 2147483647; decide, ?_⟩⟩⟩
          · have a1 := Int.emod_lt_of_pos c (by decide : (0 : Int) < 2147483629)
            have a2 := Int.emod_nonneg c (by decide : (2147483629 : Int) ≠ 0)
            omega
          refine ⟨_, rfl, _, rfl, 99991, t + 1, rfl, rfl, .inl ⟨by decide, by decide⟩, _, _, rfl, rfl, _, 5, rfl, rfl, ⟨by decide, by decide, ?_⟩, .inl ⟨_, rfl, _, _, rfl, rfl, by show (0 : Int) < 2147483587; decide, _, 23, rfl, rfl, ⟨by decide, by decide⟩, .inl ⟨_, rfl, _, rfl, _, n, rfl, rfl, n0, ?_⟩⟩⟩
          · generalize ((c % 2147483629 + 48271 * (t + 1) + 13579) ^ (3 : Int).toNat) = z
            have a1 := Int.emod_lt_of_pos z (by decide : (0 : Int) < 2147483647)
            have a2 := Int.emod_nonneg z (by decide : (2147483647 : Int) ≠ 0)
            omega
          exact k _ _ (Int.emod_nonneg _ (by omega)) (Int.emod_lt_of_pos _ n0) e3 D3
end
end Sn
namespace Sn
open Evl (Ex)
open PySem L2
section
variable {X : Cx} {P : Program} {w : World} {K : PySem.W.Frag} {mg : Str → Option Value} {base : Heap}
theorem mk_dkv (la ca : Addr) (r t : Int) : mergeK [] [((Sum.inr ("large" : Str) : Key), V.ref la), (Sum.inr ("cells" : Str), V.ref ca), (Sum.inr ("rest" : Str), V.int r), (Sum.inr ("turn" : Str), V.int t)] = dkv la ca r t := by
  show putK (putK (putK (putK ([] : List (Key × V)) (Sum.inr ("large" : Str)) (V.ref la)) (Sum.inr ("cells" : Str)) (V.ref ca)) (Sum.inr ("rest" : Str)) (V.int r)) (Sum.inr ("turn" : Str)) (V.int t) = _
  have e1 : putK ([] : List (Key × V)) (Sum.inr ("large" : Str)) (V.ref la) = [(Sum.inr ("large" : Str), V.ref la)] := putK_new _ valV_nil
  have e2 : putK ([(Sum.inr ("large" : Str), V.ref la)] : List (Key × V)) (Sum.inr ("cells" : Str)) (V.ref ca) = [(Sum.inr ("large" : Str), V.ref la), (Sum.inr ("cells" : Str), V.ref ca)] := putK_new _ ((valV_neg (kn sLC)).trans valV_nil)
  have e3 : putK ([(Sum.inr ("large" : Str), V.ref la), (Sum.inr ("cells" : Str), V.ref ca)] : List (Key × V)) (Sum.inr ("rest" : Str)) (V.int r) = [(Sum.inr ("large" : Str), V.ref la), (Sum.inr ("cells" : Str), V.ref ca), (Sum.inr ("rest" : Str), V.int r)] := putK_new _ ((valV_neg (kn sLR)).trans ((valV_neg (kn sCR)).trans valV_nil))
  have e4 : putK ([(Sum.inr ("large" : Str), V.ref la), (Sum.inr ("cells" : Str), V.ref ca), (Sum.inr ("rest" : Str), V.int r)] : List (Key × V)) (Sum.inr ("turn" : Str)) (V.int t) = dkv la ca r t := putK_new _ ((valV_neg (kn sLT)).trans ((valV_neg (kn sCT)).trans ((valV_neg (kn sRT)).trans valV_nil)))
  rw [e1, e2, e3, e4]
theorem sc_l_begun : FnScope ["_law_script", "_law_cells", "_law_cell"] ["_law_script"] (defScope s_l_begun) := ⟨rfl, rfl, rfl, by decide +kernel, rfl, by decide +kernel, by decide +kernel⟩
theorem ok_begun {f : Addr} {fd : FuncData} (F : Fun K "_law_begun" "_law_begun" s_l_begun f fd) (B : Bt mg) : FnOk P w K mg base CX0 1 f fd ["_law_script"] (spBegun K) := by
  refine F.ok sc_l_begun (fun vs H Q E h => ?_) (fun cdv A outer s H vs Q E hr h => ?_)
  · obtain ⟨_, _, rfl, _⟩ := h
    rfl
  · obtain ⟨a, ns, rfl, hS, hl, k⟩ := h
    refine ⟨_, (pss_cons (ps_setLc (i := 1) (own := [("_law_cell", 2)]) (by rfl) sc_l_begun.nd rfl rfl (sw_true rfl rfl rfl (by decide +kernel)) (pi_list (pv 0)) (blkOk_by (own := [("_law_cell", 2)]) (N := ["_law_script", "_law_cells", "_law_cell"]) (sc := defScope s_l_begun) (by decide +kernel)) (fun _ _ _ _ _ => (pg_name (i := 2) sc_l_begun.nd rfl (Or.inl rfl))) (fun _ _ _ _ _ => pts_nil) (fun _ _ _ _ _ => (pe_callB call_abs (by rfl) B.abs (by decide +kernel) (pa_cons (pv 2) pa_nil))))
      (pss_one (ps_ret (pe_disp (pps_cons pe_str (pe_lc (own := [("_law_cell", 2)]) (by rfl) sc_l_begun.nd (pi_list (pv 1)) (blkOk_by (own := [("_law_cell", 2)]) (N := ["_law_script", "_law_cells", "_law_cell"]) (sc := defScope s_l_begun) (by decide +kernel)) (fun _ _ _ _ _ => (pg_name (i := 2) sc_l_begun.nd rfl (Or.inl rfl))) (fun _ _ _ _ _ => (pts_one (pt_cmpR op_ge (pv 2) (pe_op op_pow pe_int pe_int) (nomark _)))) (fun _ _ _ _ _ => (pe_op op_sub (pv 2) (pe_op op_pow pe_int pe_int)))) (pps_cons pe_str (pv 1) (pps_cons pe_str pe_int (pps_cons pe_str pe_int pps_nil)))) (by rfl) (by rfl) (fun z => by cases z) (by decide))))), ?_⟩
    refine ⟨_, rfl, a, rfl, ⟨_, hS⟩, fun ca nca => ?_⟩
    have abs_ : ∀ z : Int, (if z < 0 then -z else z) = (z.natAbs : Int) := fun z => by omega
    refine lc_list (xs := ns.map V.int) (fun i H' => Ex H H' ∧ H' ca = some (.lst (((ns.take i).map fun z => (z.natAbs : Int)).map V.int))) ⟨exn nca, upd_same⟩ (fun i H' _ p => Evl.ex_l p.1 hS) ?_ ?_
    · rintro i x H1 hi ⟨e1, h1⟩
      rw [List.getElem?_map] at hi
      cases hz : ns[i]? with
      | none => rw [hz] at hi; cases hi
      | some z =>
        rw [hz] at hi
        obtain rfl : V.int z = x := Option.some.inj hi
        have hlt : i < ns.length := (List.getElem?_eq_some_iff.mp hz).1
        refine ⟨rfl, _, rfl, z, rfl, _, h1, ?_, exm e1 nca, ?_⟩
        · rw [List.length_map, List.length_map, sizeLine_eq]
          have := List.length_take_le' i ns
          omega
        · rw [upd_same, abs_, List.take_succ, hz]
          simp
    · rintro H1 ⟨e1, h1⟩
      rw [show (ns.map V.int).length = ns.length from List.length_map _, List.take_length] at h1
      intro sa nsa
      have h1' : upd H1 sa (.dK []) ca = some (.lst ((ns.map fun z => (z.natAbs : Int)).map V.int)) := (exn nsa) _ _ h1
      refine ⟨_, rfl, ca, rfl, ⟨_, SqL.of h1'⟩, fun la nla => ?_⟩
      have slc : sa ≠ la := fun e => by rw [← e, upd_same] at nla; cases nla
      have clc : ca ≠ la := ne_of_none h1' nla
      have csc : ca ≠ sa := ne_of_none h1 nsa
      refine lc_list (xs := (ns.map fun z => (z.natAbs : Int)).map V.int) (fun i H' => Ex (upd H1 sa (.dK [])) H' ∧ ∃ ls : List Int, H' la = some (.lst (ls.map V.int)) ∧ (∀ x ∈ ls, 0 ≤ x) ∧ ls.length ≤ i) ⟨exn nla, [], upd_same, fun _ h => (nomatch h), Nat.le_refl _⟩ (fun i H' _ p => SqL.of (p.1 _ _ h1')) ?_ ?_
      · rintro i x H2 hi ⟨e2, ls, h2, g1, g2⟩
        rw [List.map_map, List.getElem?_map] at hi
        cases hz : ns[i]? with
        | none => rw [hz] at hi; cases hi
        | some z =>
          rw [hz] at hi
          obtain rfl : V.int (z.natAbs : Int) = x := Option.some.inj hi
          have hlt : i < ns.length := (List.getElem?_eq_some_iff.mp hz).1
          refine ⟨rfl, _, rfl, 10, 18, rfl, rfl, ⟨by decide, by decide, by decide⟩, _, _, rfl, rfl, _, rfl, ?_⟩
          by_cases hb : (10 : Int) ^ (18 : Int).toNat ≤ (z.natAbs : Int)
          · rw [decide_eq_true hb]
            refine iteT ?_
            refine ⟨_, rfl, 10, 18, rfl, rfl, ⟨by decide, by decide, by decide⟩, _, _, rfl, rfl, _, h2, ?_, exm e2 nla, ls ++ [(z.natAbs : Int) - 10 ^ (18 : Int).toNat], ?_, ?_, ?_⟩
            · rw [List.length_map, sizeLine_eq]
              omega
            · rw [upd_same, List.map_append]
              rfl
            · intro y hy
              rcases List.mem_append.mp hy with h' | h'
              · exact g1 y h'
              · rw [List.mem_singleton.mp h']
                omega
            · rw [List.length_append]
              show ls.length + 1 ≤ i + 1
              omega
          · rw [decide_eq_false hb]
            refine iteF ?_
            exact ⟨e2, ls, h2, g1, by omega⟩
      · rintro H2 ⟨e2, ls, h2, g1, g2⟩
        have g2' : ls.length ≤ 63 := by
          rw [List.length_map, List.length_map] at g2
          omega
        refine ⟨_, rfl, e2 _ _ upd_same, [((Sum.inr ("large" : Str) : Key), V.ref la), (Sum.inr ("cells" : Str), V.ref ca), (Sum.inr ("rest" : Str), V.int 0), (Sum.inr ("turn" : Str), V.int 0)], rfl, by show 4 ≤ 15; decide, ?_⟩
        rw [mk_dkv]
        have h2a := e2 _ _ h1'
        refine k sa la ca _ (exb e1 nsa) (exb (ext e1 (exn nsa)) nla) nca ?_ ⟨⟨ls, (ns.map fun z => (z.natAbs : Int)), 0, 0, upd_same, ?_, ?_, g1, by decide, by decide, by decide, g2', by rw [List.length_map]; exact hl⟩, slc, csc.symm, clc.symm⟩
        · exact exm (ext e1 (ext (exn nsa) e2)) (exb e1 nsa)
        · rw [upd_ne slc.symm]; exact h2
        · rw [upd_ne csc]; exact h2a
end
end Sn
/-! plain laws over mirrors: the steps -/
namespace Eg
open Evl (Ex)
open PySem PySem.Spec PyProof.Rows L2 Sn LamX
/-- what follows -/
@[irreducible] def NC.nxt (N : NC) (k : Sl → Sto → Prop) : NC := { N with nx := k }
@[irreducible] def NC.lp (N : NC) (k : Sl → Sto → Prop) : NC := { N with nx := k, ct := k, bk := N.nx }
/-- the end of a def -/
@[irreducible] def endN (μ : Sto) (E : XC) (Q : RK) : NC := ⟨fun _ μ' => μ.cs <+: μ'.cs ∧ Q (.d .non) ⟨μ.cs, μ'.T⟩, fun r μ' => match r with | .d x => μ.cs <+: μ'.cs ∧ Q (.d x) ⟨μ.cs, μ'.T⟩ | _ => False, fun _ _ => False, fun _ _ => False, fun x μ' => μ.cs <+: μ'.cs ∧ E x ⟨μ.cs, μ'.T⟩⟩
@[irreducible] def endK (E : XC) (Q : RK) : NC := ⟨fun _ μ' => Q (.d .non) μ', Q, fun _ _ => False, fun _ _ => False, E⟩
/-- the slots at a def's start -/
def ini (n : Nat) (rs : List R) : Sl := rs.map some ++ List.replicate (n - rs.length) none
section
variable {ς : Sl} {μ : Sto} {E : XC} {Q : RK} {N : NC}
theorem x_nx {k : Sl → Sto → Prop} (h : k ς μ) : (N.nxt k).nx ς μ := by unfold NC.nxt; exact h
theorem x_nxl {k : Sl → Sto → Prop} (h : k ς μ) : (N.lp k).nx ς μ := by unfold NC.lp; exact h
theorem x_rtn {k : Sl → Sto → Prop} {r : R} (h : N.rt r μ) : (N.nxt k).rt r μ := by unfold NC.nxt; exact h
theorem x_rtl {k : Sl → Sto → Prop} {r : R} (h : N.rt r μ) : (N.lp k).rt r μ := by unfold NC.lp; exact h
theorem x_exn {k : Sl → Sto → Prop} {x : Exn} (h : N.ex x μ) : (N.nxt k).ex x μ := by unfold NC.nxt; exact h
theorem x_exl {k : Sl → Sto → Prop} {x : Exn} (h : N.ex x μ) : (N.lp k).ex x μ := by unfold NC.lp; exact h
theorem x_rtE {μ' : Sto} {x : D} (h : μ.cs <+: μ'.cs) (q : Q (.d x) ⟨μ.cs, μ'.T⟩) : (endN μ E Q).rt (.d x) μ' := by unfold endN; exact ⟨h, q⟩
theorem x_rt0 {x : D} (q : Q (.d x) μ) : (endN μ E Q).rt (.d x) μ := by unfold endN; exact ⟨List.prefix_rfl, q⟩
theorem x_nxE {μ' : Sto} (h : μ.cs <+: μ'.cs) (q : Q (.d .non) ⟨μ.cs, μ'.T⟩) : (endN μ E Q).nx ς μ' := by unfold endN; exact ⟨h, q⟩
theorem x_nx0 (q : Q (.d .non) μ) : (endN μ E Q).nx ς μ := by unfold endN; exact ⟨List.prefix_rfl, q⟩
theorem x_exE {μ' : Sto} {x : Exn} (h : μ.cs <+: μ'.cs) (q : E x ⟨μ.cs, μ'.T⟩) : (endN μ E Q).ex x μ' := by unfold endN; exact ⟨h, q⟩
theorem x_ex0 {x : Exn} (q : E x μ) : (endN μ E Q).ex x μ := by unfold endN; exact ⟨List.prefix_rfl, q⟩
theorem x_rtK {r : R} (q : Q r μ) : (endK E Q).rt r μ := by unfold endK; exact q
theorem x_nxK (q : Q (.d .non) μ) : (endK E Q).nx ς μ := by unfold endK; exact q
theorem x_exK {x : Exn} (q : E x μ) : (endK E Q).ex x μ := by unfold endK; exact q
theorem x_seq {a b : SM} (h : a (N.nxt (b N)) ς μ) : sSeq a b N ς μ := by unfold NC.nxt at h; exact h
theorem x_set {i : Nat} {a : EM} (h : a ς μ N.ex fun r μ1 => N.nx (ς.set i (some r)) μ1) : sSet i a N ς μ := h
theorem x_ret {a : EM} (h : a ς μ N.ex N.rt) : sRet a N ς μ := h
theorem x_exp {a : EM} (h : a ς μ N.ex fun _ μ1 => N.nx ς μ1) : sExp a N ς μ := h
theorem x_if {c : EM} {a b : SM} (h : c ς μ N.ex (isB fun k μ1 => if k = true then a N ς μ1 else b N ς μ1)) : sIf c a b N ς μ := h
theorem x_nil (h : N.nx ς μ) : sNil N ς μ := h
theorem x_raise {C : Addr} (h : N.ex ⟨C, []⟩ μ) : sRaise C N ς μ := h
theorem x_asgT {gs : List GM} {a : AM} (h : a ς μ N.ex fun rs μ1 => (gAll gs rs ς).elim False fun ς' => N.nx ς' μ1) : sAsgT gs a N ς μ := h
theorem x_for {it : IM} {g : GM} {b : SM} (h : it ς μ N.ex fun xs μ1 => forGo g b N xs ς μ1) : sFor it g b N ς μ := h
theorem x_gall {gs : List GM} {rs : List R} {ς' : Sl} {P : Sl → Prop} (h : gAll gs rs ς = some ς') (q : P ς') : (gAll gs rs ς).elim False P := by rw [h]; exact q
theorem x_var {i : Nat} {r : R} (h : ς[i]? = some (some r)) (q : Q r μ) : eVar i ς μ E Q := by unfold eVar; rw [h]; exact q
theorem x_c {x : D} (q : Q (.d x) μ) : eC x ς μ E Q := q
theorem x_and {a b : EM} (h : a ς μ E (isB fun k μ1 => if k = true then b ς μ1 E Q else Q (.d (.bl false)) μ1)) : eAnd a b ς μ E Q := h
theorem x_or {a b : EM} (h : a ς μ E (isB fun k μ1 => if k = true then Q (.d (.bl true)) μ1 else b ς μ1 E Q)) : eOr a b ς μ E Q := h
theorem x_not {a : EM} (h : a ς μ E (isB fun k μ1 => Q (.d (.bl (!k))) μ1)) : eNot a ς μ E Q := h
theorem x_cond {c a b : EM} (h : c ς μ E (isB fun k μ1 => if k = true then a ς μ1 E Q else b ς μ1 E Q)) : eIf c a b ς μ E Q := h
theorem x_isB {P : Bool → Sto → Prop} {b : Bool} (q : P b μ) : isB P (.d (.bl b)) μ := q
theorem x_ift {p q : Prop} (h : p) : if true = true then p else q := h
theorem x_iff {p q : Prop} (h : q) : if false = true then p else q := h
theorem x_anil {Q : List R → Sto → Prop} (q : Q [] μ) : aNil ς μ E Q := q
theorem x_acons {a : EM} {b : AM} {Q : List R → Sto → Prop} (h : a ς μ E fun r μ1 => b ς μ1 E fun rs μ2 => Q (r :: rs) μ2) : aCons a b ς μ E Q := h
theorem x_call {m : FM} {a : AM} (h : a ς μ E fun rs μ1 => m rs μ1 E Q) : eCall m a ς μ E Q := h
theorem x_meth {C : Addr} {nm : Str} {m : FM} {o : EM} {a : AM} (h : o ς μ E fun r μ1 => isO C nm μ1 r ∧ a ς μ1 E fun rs μ2 => m (r :: rs) μ2 E Q) : eMeth C nm m o a ς μ E Q := h
theorem x_prp {C : Addr} {m : FM} {o : EM} (h : o ς μ E fun r μ1 => isI C μ1 r ∧ m [r] μ1 (fun _ _ => False) Q) : ePrp C m o ς μ E Q := h
theorem x_fld {C : Addr} {f : Str} {o : EM} (h : o ς μ E fun r μ1 => (fldR C f μ1 r).elim False fun y => Q y μ1) : eFld C f o ς μ E Q := h
theorem x_fld1 {C : Addr} {f : Str} {fs : List (Str × D)} {x : D} {P : R → Prop} (h : fs.lookup f = some x) (q : P (.d x)) : (fldR C f μ (.d (.obj C fs))).elim False P := by simp only [fldR, if_pos, h]; exact q
theorem x_pur1 {g : D → Option D} {a : EM} (h : a ς μ E fun r μ1 => pur1 g r μ1 Q) : ePur1 g a ς μ E Q := h
theorem x_pur2 {g : D → D → Option D} {a b : EM} (h : a ς μ E fun r μ1 => b ς μ1 E fun s μ2 => pur2 g r s μ2 Q) : ePur2 g a b ς μ E Q := h
theorem x_p1 {g : D → Option D} {x z : D} (h : g x = some z) (q : Q (.d z) μ) : pur1 g (.d x) μ Q := by show (g x).elim False _; rw [h]; exact q
theorem x_p2 {g : D → D → Option D} {x y z : D} (h : g x y = some z) (q : Q (.d z) μ) : pur2 g (.d x) (.d y) μ Q := by show (g x y).elim False _; rw [h]; exact q
theorem x_p1v {g : D → Option D} {r : R} {x z : D} (v : vw μ r = some x) (h : g x = some z) (q : Q (.d z) μ) : pur1 g r μ Q := by unfold pur1; rw [v]; show (g x).elim False _; rw [h]; exact q
theorem x_p2v {g : D → D → Option D} {r s : R} {x y z : D} (v : vw μ r = some x) (w : vw μ s = some y) (h : g x y = some z) (q : Q (.d z) μ) : pur2 g r s μ Q := by unfold pur2; rw [v, w]; show (g x y).elim False _; rw [h]; exact q
theorem x_tup {a : AM} (h : a ς μ E fun rs μ1 => (unD rs).elim False fun ds => ds.length ≤ sizeLine ∧ Q (.d (.tup ds)) μ1) : eTup a ς μ E Q := h
theorem x_lst {a : AM} (h : a ς μ E fun rs μ1 => (unD rs).elim False fun ds => ds.length ≤ sizeLine ∧ Q (.d (.lst ds)) μ1) : eLst a ς μ E Q := h
theorem x_und {rs : List R} {ds : List D} {P : List D → Prop} (h : unD rs = some ds) (q : P ds) : (unD rs).elim False P := by rw [h]; exact q
theorem x_und2 {rs : List R} {ds : List D} {P : List D → Prop} (h : unD rs = some ds) (hl : ds.length ≤ sizeLine) (q : P ds) : (unD rs).elim False fun ds => ds.length ≤ sizeLine ∧ P ds := by rw [h]; exact ⟨hl, q⟩
theorem x_lc {it : IM} {vs : List Nat} {g : GM} {t e : EM} (h : it ς μ E fun xs μ1 => lcGo g t e (wp ς vs) (frzL Q) xs [] μ1) : eLC it vs g t e ς μ E Q := h
theorem x_lc2 {it : IM} {vs : List Nat} {g : GM} {t : EM} {it1 : IM} {vs1 : List Nat} {g1 : GM} {t1 e : EM} (h : it ς μ E fun xs μ1 => lc2Go g t it1 vs1 g1 t1 e (wp ς vs) (frzL Q) xs [] μ1) : eLC2 it vs g t it1 vs1 g1 t1 e ς μ E Q := h
theorem x_dc {it : IM} {vs : List Nat} {g : GM} {t kx vx : EM} (h : it ς μ E fun xs μ1 => dcGo g t kx vx (wp ς vs) (frzK Q) xs [] μ1) : eDC it vs g t kx vx ς μ E Q := h
theorem x_seqI {e : EM} {Q : List R → Sto → Prop} (h : e ς μ E fun r μ1 => (itR r).elim False fun xs => Q xs μ1) : iSeq e ς μ E Q := h
theorem x_it {r : R} {xs : List R} {P : List R → Prop} (h : itR r = some xs) (q : P xs) : (itR r).elim False P := by rw [h]; exact q
theorem x_val {e : EM} {Q : List R → Sto → Prop} (h : e ς μ E fun r μ1 => match r with | .d (.dic kvs) => Q ((kvs.map (·.2)).map R.d) μ1 | _ => False) : iVal e ς μ E Q := h
theorem x_rg1 {e : EM} {Q : List R → Sto → Prop} (h : e ς μ E fun r μ1 => match r with | .d (.int j) => -(2 ^ 62) ≤ j ∧ j < 2 ^ 62 ∧ Q ((List.range j.toNat).map fun (i : Nat) => .d (.int (i : Int))) μ1 | _ => False) : iRg1 e ς μ E Q := h
theorem x_chn {g g' : D → D → Option D} {a b d : EM} (h : a ς μ E fun r μ1 => b ς μ1 E fun s μ2 => pur2 g r s μ2 (fun r μ3 => isB (fun k μ4 => if k = true then d ς μ4 E (fun z μ5 => pur2 g' s z μ5 Q) else Q (.d (.bl false)) μ4) r μ3)) : eChn g g' a b d ς μ E Q := h
theorem x_mdef {np n : Nat} {b : SM} {rs : List R} (hl : rs.length = np) (h : b (endN μ E Q) (ini n rs) μ) : mdef np n b rs μ E Q := by unfold endN at h; exact ⟨hl, h⟩
theorem x_mdefK {np n : Nat} {b : SM} {rs : List R} (hl : rs.length = np) (h : b (endK E Q) (ini n rs) μ) : mdefK np n b rs μ E Q := by unfold endK at h; exact ⟨hl, h⟩
end
theorem isi_v {cs : List Addr} {x : D} {a T : String} {b : Bool} (h : tyN x = some a) (hb : subT a T = b) (ht : T ∈ ["str", "tuple", "dict", "list", "int", "bool"]) : isiT cs T x = some (.bl b) := by
  subst hb
  cases x with
  | obj C fs => cases h
  | _ => simp only [isiT, if_pos ht, h]; rfl
theorem x_isi {cs : List Addr} {x : D} {a T : String} {μ : Sto} {Q : RK} (h : tyN x = some a) (hb : subT a T = true) (ht : T ∈ ["str", "tuple", "dict", "list", "int", "bool"]) (q : Q (.d (.bl true)) μ) : pur1 (isiT cs T) (.d x) μ Q := x_p1 (isi_v h hb ht) q
theorem x_isi' {cs : List Addr} {x : D} {a T : String} {μ : Sto} {Q : RK} (h : tyN x = some a) (hb : subT a T = false) (ht : T ∈ ["str", "tuple", "dict", "list", "int", "bool"]) (q : Q (.d (.bl false)) μ) : pur1 (isiT cs T) (.d x) μ Q := x_p1 (isi_v h hb ht) q
theorem isi_o {cs : List Addr} {C : Addr} {fs : List (Str × D)} {T : String} (hc : C ∈ cs) (ht : T ∈ ["str", "tuple", "dict", "list", "int", "bool"]) : isiT cs T (.obj C fs) = some (.bl false) := by
  simp only [isiT]; rw [if_pos ⟨hc, ht⟩]
theorem isc_v {cs : List Addr} {x : D} {a : String} {C : Addr} (h : tyN x = some a) (ht : C ∈ cs) : isiC cs C x = some (.bl false) := by
  cases x with
  | obj C fs => cases h
  | _ => simp only [isiC, if_pos ht, h]; rfl
theorem isc_o {cs : List Addr} {C C' : Addr} {fs : List (Str × D)} {b : Bool} (hc : C' ∈ cs) (ht : C ∈ cs) (hb : decide (C' = C) = b) : isiC cs C (.obj C' fs) = some (.bl b) := by
  subst hb; simp only [isiC]; rw [if_pos ⟨hc, ht⟩]
theorem len_s {w : Str} (h : w.length ≤ sizeLine) : lenD (.str w) = some (.int w.length) := by simp only [lenD]; rw [if_pos h]
/-- m gives z, and leaves the store -/
def Ru (m : FM) (xs : List D) (z : D) : Prop := ∀ (μ : Sto) (E : XC) (Q : RK), Q (.d z) μ → m (xs.map R.d) μ E Q
/-- m raises -/
def Rx (m : FM) (xs : List D) (C : Addr) (fs : List (Str × D)) : Prop := ∀ (μ : Sto) (E : XC) (Q : RK), E ⟨C, fs⟩ μ → m (xs.map R.d) μ E Q
theorem lc_pure {g : GM} {t e : EM} {ς : Sl} {Q : List R → Sto → Prop} {μ : Sto} (p : R → Bool) (f : R → R) : ∀ {xs acc : List R},
    (∀ x ∈ xs, ∃ ς', g x ς = some ς' ∧ (∀ Q, Q (.d (.bl (p x))) μ → t ς' μ NoX Q) ∧ (p x = true → ∀ Q, Q (f x) μ → e ς' μ NoX Q)) → acc.length + xs.length ≤ sizeLine → Q (acc ++ (xs.filter p).map f) μ → lcGo g t e ς Q xs acc μ
  | [], acc, _, _, q => by simpa [lcGo] using q
  | x :: xs, acc, h, hl, q => by
    obtain ⟨ς', h1, h2, h3⟩ := h x (.head _)
    show (g x ς).elim False _
    rw [h1]
    refine h2 _ ?_
    show if p x = true then _ else _
    simp only [List.length_cons] at hl
    split
    · rename_i hp
      refine h3 hp _ ⟨by omega, lc_pure p f (fun y hy => h y (.tail _ hy)) (by simp; omega) ?_⟩
      rw [List.filter_cons_of_pos hp] at q
      simpa using q
    · rename_i hp
      refine lc_pure p f (fun y hy => h y (.tail _ hy)) (by omega) ?_
      rw [List.filter_cons_of_neg hp] at q
      exact q
/-- no test -/
theorem lc_map {g : GM} {e : EM} {ς : Sl} {Q : List R → Sto → Prop} {μ : Sto} (f : R → R) {xs acc : List R}
    (h : ∀ x ∈ xs, ∃ ς', g x ς = some ς' ∧ (∀ Q, Q (f x) μ → e ς' μ NoX Q)) (hl : acc.length + xs.length ≤ sizeLine) (q : Q (acc ++ xs.map f) μ) : lcGo g eYes e ς Q xs acc μ :=
  lc_pure (fun _ => true) f (fun x hx => let ⟨ς', a, b⟩ := h x hx; ⟨ς', a, fun Q q => q, fun _ => b⟩) hl (by rw [show (xs.filter fun _ => true) = xs from List.filter_eq_self.mpr fun _ _ => rfl]; exact q)
theorem unD_map {α : Type} (f : α → D) : ∀ xs : List α, unD (xs.map fun x => R.d (f x)) = some (xs.map f)
  | [] => rfl
  | x :: xs => by simp [unD, unD_map f xs]
theorem unD_id : ∀ xs : List D, unD (xs.map R.d) = some xs
  | [] => rfl
  | x :: xs => by simp [unD, unD_id xs]
theorem unBs_map {α : Type} (p : α → Bool) : ∀ xs : List α, unBs (xs.map fun x => D.bl (p x)) = some (xs.map p)
  | [] => rfl
  | x :: xs => by simp [unBs, unBs_map p xs]
/-- all([p(x) for x in xs]) -/
theorem lc_all {α : Type} {i : Nat} {e : EM} {ς : Sl} {Q : RK} {μ : Sto} {xs : List α} (r : α → D) (p : α → Bool) (h : ∀ x ∈ xs, ∀ Q, Q (.d (.bl (p x))) μ → e (ς.set i (some (.d (r x)))) μ NoX Q) (hl : xs.length ≤ sizeLine) (q : Q (.d (.bl (xs.all p))) μ) :
    lcGo (gN i) eYes e ς (frzL fun r μ1 => pur1 allD r μ1 Q) (xs.map fun x => R.d (r x)) [] μ := by
  have key : ∀ (ys : List α) (acc : List Bool), (∀ y ∈ ys, y ∈ xs) → acc.length + ys.length ≤ sizeLine → Q (.d (.bl (acc.all id && ys.all p))) μ → lcGo (gN i) eYes e ς (frzL fun r μ1 => pur1 allD r μ1 Q) (ys.map fun x => R.d (r x)) (acc.map fun b => .d (.bl b)) μ := by
    intro ys
    induction ys with
    | nil =>
      intro acc _ _ q
      show (unD (acc.map fun b => R.d (.bl b))).elim False _
      rw [unD_map]
      show ((unBs (acc.map fun b => D.bl b)).map fun bs => D.bl (bs.all id)).elim False _
      rw [show (acc.map fun b => D.bl b) = acc.map fun b => D.bl (id b) from rfl, unBs_map id acc]
      simpa using q
    | cons y ys ih =>
      intro acc hm hl q
      simp only [List.length_cons] at hl
      refine h y (hm y (.head _)) _ ⟨by simp; omega, ?_⟩
      have := ih (acc ++ [p y]) (fun z hz => hm z (.tail _ hz)) (by simp; omega) (by simpa [Bool.and_assoc] using q)
      simpa using this
  exact key xs [] (fun _ h => h) (by simpa using hl) (by simpa using q)
/-- a comprehension whose items are drawn -/
theorem lc_any {g : GM} {e : EM} {ς : Sl} {Q : List R → Sto → Prop} {cs : List Ce} (p : R → R → Prop) (c B : Nat) : ∀ {xs acc : List R} {T : Nat},
    (∀ x ∈ xs, ∀ T, T + c ≤ B → ∃ ς', g x ς = some ς' ∧ ∀ Q : RK, (∀ y T', p x y → T ≤ T' → T' ≤ T + c → Q y ⟨cs, T'⟩) → e ς' ⟨cs, T⟩ NoX Q) → T + c * xs.length ≤ B → acc.length + xs.length ≤ sizeLine →
    (∀ ys T', Paired p xs ys → T ≤ T' → T' ≤ T + c * xs.length → Q (acc ++ ys) ⟨cs, T'⟩) → lcGo g eYes e ς Q xs acc ⟨cs, T⟩
  | [], acc, T, _, _, _, q => by
    have := q [] T .nil (Nat.le_refl _) (by simp)
    simpa [lcGo] using this
  | x :: xs, acc, T, h, hB, hl, q => by
    simp only [List.length_cons, Nat.mul_succ] at hB hl q
    obtain ⟨ς', h1, h2⟩ := h x (.head _) T (by omega)
    show (g x ς).elim False _
    rw [h1]
    refine h2 _ fun y T' hp t1 t2 => ⟨by omega, lc_any p c B (fun z hz => h z (.tail _ hz)) (by omega) (by simp; omega) fun ys T2 hy t3 t4 => ?_⟩
    have := q (y :: ys) T2 (.cons hp hy) (by omega) (by omega)
    simpa using this
/-- a for whose turns keep I -/
theorem for_go {g : GM} {b : SM} {N : NC} (I : Nat → Sl → Sto → Prop) : ∀ {xs : List R} {n : Nat} {ς : Sl} {μ : Sto},
    (∀ i x, xs[i]? = some x → ∀ ς μ, I (n + i) ς μ → ∀ K : Sl → Sto → Prop, (∀ ς' μ', I (n + i + 1) ς' μ' → K ς' μ') → ∃ ς', g x ς = some ς' ∧ b (N.lp K) ς' μ) → I n ς μ → (∀ ς μ, I (n + xs.length) ς μ → N.nx ς μ) → forGo g b N xs ς μ
  | [], n, ς, μ, _, h0, hN => hN ς μ h0
  | x :: xs, n, ς, μ, h, h0, hN => by
    obtain ⟨ς', h1, h2⟩ := h 0 x rfl ς μ h0 (forGo g b N xs) fun ς' μ' h' => for_go I (n := n + 1) (fun i y hy ς μ hI K hK => by
      have := h (i + 1) y hy ς μ (by rw [show n + (i + 1) = n + 1 + i from by omega]; exact hI) K (fun ς' μ' h => hK ς' μ' (by rw [show n + 1 + i + 1 = n + (i + 1) + 1 from by omega]; exact h))
      exact this) h' (fun ς μ hI => hN ς μ (by rw [List.length_cons, show n + (xs.length + 1) = n + 1 + xs.length from by omega]; exact hI))
    show (g x ς).elim False _
    rw [h1]
    unfold NC.lp at h2
    exact h2
/-- a draw -/
theorem x_draw {n : Int} {cs : List Ce} {T : Nat} {E : XC} {Q : RK} (h0 : 0 < n) (h1 : n ≤ 1000000) (hT : T ≤ 100000000) (q : ∀ r : Int, 0 ≤ r → r < n → Q (.d (.int r)) ⟨cs, T + 1⟩) : m_draw [.src, .d (.int n)] ⟨cs, T⟩ E Q := ⟨h0, h1, hT, q⟩
theorem atI_get {α : Type} {xs : List α} {i : Int} (h0 : 0 ≤ i) (h1 : i < xs.length) : ∃ x, atI xs i = some x ∧ x ∈ xs := by
  have hn : i.toNat < xs.length := by omega
  refine ⟨xs[i.toNat], ?_, List.getElem_mem hn⟩
  unfold atI ixN
  rw [if_pos h0, if_pos h1]
  exact List.getElem?_eq_getElem hn
theorem nt {b : Bool} (h : (!b) = true) : b = false := by cases b <;> first | rfl | cases h
theorem nf {b : Bool} (h : ¬ (!b) = true) : b = true := by cases b <;> first | rfl | exact absurd rfl h
theorem ff {b : Bool} (h : ¬ b = true) : b = false := by cases b <;> first | rfl | exact absurd rfl h
theorem atI_zero {α : Type} {x : α} {r : List α} : atI (x :: r) 0 = some x := by
  unfold atI ixN
  rw [if_pos (by decide), if_pos (by rw [List.length_cons]; omega)]
  rfl
theorem atI_nat {α : Type} {xs : List α} {n : Nat} (h : n < xs.length) : atI xs n = some xs[n] := by
  unfold atI ixN
  rw [if_pos (by omega), if_pos (by omega)]
  exact List.getElem?_eq_getElem h
/-! ### making an object -/
def mkX (cs : List Ce) (E : XC) : XC := fun x μ' => cs <+: μ'.cs ∧ E x ⟨cs, μ'.T⟩
def mkQ (cs : List Ce) (Q : RK) : RK := fun r μ' => cs <+: μ'.cs ∧ match μ'.cs[cs.length]? with | some (.ins C' fr) => r = .d .non ∧ (unF fr).elim False fun fs => Q (.d (.obj C' fs)) ⟨cs, μ'.T⟩ | _ => False
def mkIn (C : Addr) (m : FM) (rs : List R) (μ : Sto) (E : XC) (Q : RK) : Prop := m (.cell μ.cs.length :: rs) ⟨μ.cs ++ [.ins C []], μ.T⟩ (mkX μ.cs E) (mkQ μ.cs Q)
theorem x_mk {C : Addr} {m : FM} {a : AM} {ς : Sl} {μ : Sto} {E : XC} {Q : RK} (h : a ς μ E fun rs μ1 => mkIn C m rs μ1 E Q) : eMkF C m a ς μ E Q := h
def fldPut (C : Addr) (f : Str) (N : NC) (ς : Sl) (y r : R) (μ2 : Sto) : Prop := match r with
  | .cell n => match μ2.cs[n]? with | some (.ins C' fr) => C' = C ∧ fr.length < 1000 ∧ N.nx ς (μ2.put n (.ins C (putR f y fr))) | _ => False
  | _ => False
theorem x_fldS {C : Addr} {f : Str} {o e : EM} {N : NC} {ς : Sl} {μ : Sto} (h : e ς μ N.ex fun y μ1 => o ς μ1 N.ex fun r μ2 => fldPut C f N ς y r μ2) : sFldS C f o e N ς μ := h
theorem x_fput {C : Addr} {f : Str} {N : NC} {ς : Sl} {y : R} {cs : List Ce} {T : Nat} {fr : List (Str × R)} (hl : fr.length < 1000) (h : N.nx ς ⟨cs ++ [.ins C (putR f y fr)], T⟩) : fldPut C f N ς y (.cell cs.length) ⟨cs ++ [.ins C fr], T⟩ := by
  show (match (cs ++ [Ce.ins C fr])[cs.length]? with | some (.ins C' fr) => _ | _ => _)
  rw [List.getElem?_append_right (Nat.le_refl _), Nat.sub_self]
  refine ⟨rfl, hl, ?_⟩
  have : (⟨cs ++ [.ins C fr], T⟩ : Sto).put cs.length (.ins C (putR f y fr)) = ⟨cs ++ [.ins C (putR f y fr)], T⟩ := by
    unfold Sto.put
    congr 1
    rw [List.set_append_right _ _ (Nat.le_refl _), Nat.sub_self]
    rfl
  rw [this]
  exact h
theorem x_mkX {cs : List Ce} {T : Nat} {a : Ce} {E : XC} {x : Exn} (q : E x ⟨cs, T⟩) : mkX cs E x ⟨cs ++ [a], T⟩ := ⟨List.prefix_append _ _, q⟩
/-- the end of an __init__ -/
theorem x_mkQ {C : Addr} {cs : List Ce} {T : Nat} {fr : List (Str × R)} {fs : List (Str × D)} {Q : RK} (h : unF fr = some fs) (q : Q (.d (.obj C fs)) ⟨cs, T⟩) : mkQ cs Q (.d .non) ⟨cs ++ [.ins C fr], T⟩ := by
  refine ⟨List.prefix_append _ _, ?_⟩
  show (match (cs ++ [Ce.ins C fr])[cs.length]? with | some (.ins C' fr) => _ | _ => _)
  rw [List.getElem?_append_right (Nat.le_refl _), Nat.sub_self]
  refine ⟨rfl, ?_⟩
  rw [h]
  exact q
theorem putR_len (f : Str) (y : R) : ∀ fr : List (Str × R), (putR f y fr).length ≤ fr.length + 1
  | [] => Nat.le_refl _
  | (g, z) :: r => by
    unfold putR
    split
    · simp
    · have := putR_len f y r
      simp only [List.length_cons]; omega
theorem putR1 (f : Str) (y : R) : (putR f y []).length < 1000 := by have := putR_len f y []; simp at this; omega
theorem putR2 (f g : Str) (y z : R) : (putR f y (putR g z [])).length < 1000 := by have := putR_len f y (putR g z []); have := putR_len g z []; simp at this; omega
theorem putR3 (f g h : Str) (y z w : R) : (putR f y (putR g z (putR h w []))).length < 1000 := by have := putR_len f y (putR g z (putR h w [])); have := putR_len g z (putR h w []); have := putR_len h w []; simp at this; omega
theorem x_isI {C : Addr} {fs : List (Str × D)} {μ : Sto} {p : Prop} (h : p) : isI C μ (.d (.obj C fs)) ∧ p := ⟨rfl, h⟩
theorem x_isO {C : Addr} {nm : Str} {fs : List (Str × D)} {μ : Sto} {p : Prop} (h0 : fs.lookup nm = none) (h : p) : isO C nm μ (.d (.obj C fs)) ∧ p := ⟨⟨rfl, h0⟩, h⟩
theorem x_inO {neg : Bool} {C : Addr} {m : FM} {a b : EM} {ς : Sl} {μ : Sto} {E : XC} {Q : RK} (h : a ς μ E fun x μ1 => b ς μ1 E fun y μ2 => isI C μ2 y ∧ m [y, x] μ2 E (isB fun r μ3 => Q (.d (.bl (neg ^^ r))) μ3)) : eInO neg C m a b ς μ E Q := h
theorem x_neO {C : Addr} {m : FM} {a b : EM} {ς : Sl} {μ : Sto} {E : XC} {Q : RK} (h : a ς μ E fun x μ1 => b ς μ1 E fun y μ2 => isI C μ2 x ∧ isI C μ2 y ∧ m [x, y] μ2 E (isB fun r μ3 => Q (.d (.bl (!r))) μ3)) : eNeO C m a b ς μ E Q := h
/-- what holds between two statements -/
theorem x_cut {a : SM} {N : NC} {K : Sl → Sto → Prop} {ς : Sl} {μ : Sto} (P : Sl → Sto → Prop) (h1 : ∀ K', (∀ ς μ, P ς μ → K' ς μ) → a (N.nxt K') ς μ) (h2 : ∀ ς μ, P ς μ → K ς μ) : a (N.nxt K) ς μ := h1 K h2
/-! ### cells -/
theorem put_last {cs : List Ce} {a b : Ce} {T : Nat} : (⟨cs ++ [a], T⟩ : Sto).put cs.length b = ⟨cs ++ [b], T⟩ := by
  unfold Sto.put
  congr 1
  rw [List.set_append_right _ _ (Nat.le_refl _), Nat.sub_self]
  rfl
theorem get_last {cs : List Ce} {a : Ce} : (cs ++ [a])[cs.length]? = some a := by
  rw [List.getElem?_append_right (Nat.le_refl _), Nat.sub_self]; rfl
theorem vw_lst {μ : Sto} {n : Nat} {ds : List D} (h : μ.cs[n]? = some (.lst (ds.map R.d))) : vw μ (.cell n) = some (.lst ds) := by
  show (match μ.cs[n]? with | some (.lst rs) => (unD rs).map D.lst | some (.dic kr) => (unK kr).map D.dic | some (.dit kr) => (unK kr).map D.dit | some (.ins C fr) => (unF fr).map (D.obj C) | _ => none) = _
  rw [h]
  show (unD (ds.map R.d)).map D.lst = _
  rw [unD_id]; rfl
theorem x_lstC {a : AM} {ς : Sl} {μ : Sto} {E : XC} {Q : RK} (h : a ς μ E fun rs μ1 => rs.length ≤ sizeLine ∧ Q (.cell μ1.cs.length) ⟨μ1.cs ++ [.lst rs], μ1.T⟩) : eLstC a ς μ E Q := h
def appK (e : EM) (ς : Sl) (E : XC) (Q : RK) (r : R) (μ1 : Sto) : Prop := match r with
  | .cell n => (match μ1.cs[n]? with | some (.lst _) => True | _ => False) ∧ e ς μ1 E fun y μ2 => match μ2.cs[n]? with
    | some (.lst rs) => rs.length < sizeLine ∧ Q (.d .non) (μ2.put n (.lst (rs ++ [y])))
    | _ => False
  | _ => False
theorem x_app {o e : EM} {ς : Sl} {μ : Sto} {E : XC} {Q : RK} (h : o ς μ E (appK e ς E Q)) : eApp o e ς μ E Q := h
theorem x_appV {i : Nat} {r : R} {ς : Sl} {μ : Sto} {E : XC} {Q : RK} {n : Nat} {rs : List R} (h : μ.cs[n]? = some (.lst rs)) (hi : ς[i]? = some (some r)) (hl : rs.length < sizeLine) (q : Q (.d .non) (μ.put n (.lst (rs ++ [r])))) : appK (eVar i) ς E Q (.cell n) μ := by
  refine ⟨by rw [h]; trivial, x_var hi ?_⟩
  show (match μ.cs[n]? with | some (.lst rs) => _ | _ => _)
  rw [h]
  exact ⟨hl, q⟩
def fzK (i : Nat) (m : SM) (N : NC) (ς : Sl) (μ : Sto) (n : Nat) : Prop := (vw μ (.cell n)).elim False fun x => m N (ς.set i (some (.d x))) (μ.put n .dead)
theorem x_fz {i n : Nat} {m : SM} {N : NC} {ς : Sl} {μ : Sto} {x : D} (h : ς[i]? = some (some (.cell n))) (v : vw μ (.cell n) = some x) (q : m N (ς.set i (some (.d x))) (μ.put n .dead)) : sFz i m N ς μ := by
  unfold sFz
  rw [h]
  show (vw μ (.cell n)).elim False _
  rw [v]
  exact q
theorem x_join {o e : EM} {ς : Sl} {μ : Sto} {E : XC} {Q : RK} (h : o ς μ E fun r μ1 => match r with | .d (.str a) => e ς μ1 E fun s μ2 => pur1 (joinD a) s μ2 Q | _ => False) : eJoin o e ς μ E Q := h
theorem x_sl {a : EM} {lo hi : OM} {ς : Sl} {μ : Sto} {E : XC} {Q : RK} (h : a ς μ E fun r μ1 => lo ς μ1 E fun l μ2 => hi ς μ2 E fun h μ3 => pur1 (slD l h) r μ3 Q) : eSl a lo hi ς μ E Q := h
/-! ### dicts as cells -/
def putDK (N : NC) (ς : Sl) (rv r rk : R) (μ3 : Sto) : Prop := match r with
  | .cell n => match μ3.cs[n]? with
    | some (.dic kr) => (keyR rk).elim False fun key => kr.length < sizeLine ∧ N.nx ς (μ3.put n (.dic (putKD kr key rv)))
    | _ => False
  | _ => False
theorem x_putD {o k v : EM} {N : NC} {ς : Sl} {μ : Sto} (h : v ς μ N.ex fun rv μ1 => o ς μ1 N.ex fun r μ2 => k ς μ2 N.ex fun rk μ3 => putDK N ς rv r rk μ3) : sPutD o k v N ς μ := h
theorem x_putD1 {N : NC} {ς : Sl} {rv : R} {n : Nat} {s : Str} {μ : Sto} {kr : List (Key × R)} (h : μ.cs[n]? = some (.dic kr)) (hl : kr.length < sizeLine) (q : N.nx ς (μ.put n (.dic (putKD kr (Sum.inr s) rv)))) : putDK N ς rv (.cell n) (.d (.str s)) μ := by
  show (match μ.cs[n]? with | some (.dic kr) => _ | _ => _)
  rw [h]
  exact ⟨hl, q⟩
theorem x_dnC {ς : Sl} {μ : Sto} {E : XC} {Q : RK} (q : Q (.cell μ.cs.length) ⟨μ.cs ++ [.dic []], μ.T⟩) : eDnC ς μ E Q := q
theorem x_dict {a : EM} {ς : Sl} {μ : Sto} {E : XC} {Q : RK} (h : a ς μ E fun r μ1 => pur1 (fun x => (dictD x).map D.dic) r μ1 Q) : eDict a ς μ E Q := h
theorem put_1 {cs : List Ce} {a b c : Ce} {T : Nat} : (⟨cs ++ [a, b], T⟩ : Sto).put cs.length c = ⟨cs ++ [c, b], T⟩ := by
  unfold Sto.put
  congr 1
  rw [List.set_append_right _ _ (Nat.le_refl _), Nat.sub_self]
  rfl
theorem put_2 {cs : List Ce} {a b c : Ce} {T : Nat} : (⟨cs ++ [a, b], T⟩ : Sto).put (cs.length + 1) c = ⟨cs ++ [a, c], T⟩ := by
  unfold Sto.put
  congr 1
  rw [List.set_append_right _ _ (Nat.le_succ _), show cs.length.succ - cs.length = 1 from by omega]
  rfl
theorem get_1 {cs : List Ce} {a b : Ce} : (cs ++ [a, b])[cs.length]? = some a := by
  rw [List.getElem?_append_right (Nat.le_refl _), Nat.sub_self]; rfl
theorem get_2 {cs : List Ce} {a b : Ce} : (cs ++ [a, b])[cs.length + 1]? = some b := by
  rw [List.getElem?_append_right (Nat.le_succ _), show cs.length.succ - cs.length = 1 from by omega]; rfl
theorem x_dic {ps : List (EM × EM)} {ς : Sl} {μ : Sto} {E : XC} {Q : RK} (h : ePairs ps ς μ E fun l μ1 => (unK l).elim False fun kd => kd.length ≤ 15 ∧ Q (.d (.dic (mergeD [] kd))) μ1) : eDic ps ς μ E Q := h
theorem vw_dic {μ : Sto} {n : Nat} {kd : List (Key × D)} (h : μ.cs[n]? = some (.dic (kd.map fun kv => (kv.1, R.d kv.2)))) : vw μ (.cell n) = some (.dic kd) := by
  show (match μ.cs[n]? with | some (.lst rs) => (unD rs).map D.lst | some (.dic kr) => (unK kr).map D.dic | some (.dit kr) => (unK kr).map D.dit | some (.ins C fr) => (unF fr).map (D.obj C) | _ => none) = _
  rw [h]
  show (unK (kd.map fun kv => (kv.1, R.d kv.2))).map D.dic = _
  have : unK (kd.map fun kv => (kv.1, R.d kv.2)) = some kd := by
    clear h
    induction kd with
    | nil => rfl
    | cons a r ih => simp only [List.map_cons, unK, ih]; rfl
  rw [this]; rfl
end Eg
namespace Eg
open Evl (Ex)
open PySem PySem.Spec PyProof.Rows L2 Sn LamX
local macro_rules | `(tactic| walk_at "st") => `(tactic| first
  | with_reducible refine x_nx ?_ | with_reducible refine x_nxl ?_ | with_reducible refine x_rtn ?_ | with_reducible refine x_rtl ?_ | with_reducible refine x_exn ?_ | with_reducible refine x_exl ?_ | with_reducible refine x_rt0 ?_ | with_reducible refine x_nx0 ?_ | with_reducible refine x_ex0 ?_ | with_reducible refine x_rtK ?_ | with_reducible refine x_nxK ?_ | with_reducible refine x_exK ?_ | with_reducible refine x_seq ?_ | with_reducible refine x_set ?_ | with_reducible refine x_ret ?_ | with_reducible refine x_exp ?_ | with_reducible refine x_if ?_ | with_reducible refine x_nil ?_ | with_reducible refine x_raise ?_ | with_reducible refine x_asgT ?_ | with_reducible refine x_for ?_ | with_reducible refine x_c ?_ | with_reducible refine x_and ?_ | with_reducible refine x_or ?_ | with_reducible refine x_not ?_ | with_reducible refine x_cond ?_ | with_reducible refine x_isB ?_ | with_reducible refine x_anil ?_ | with_reducible refine x_acons ?_ | with_reducible refine x_call ?_ | with_reducible refine x_meth ?_ | with_reducible refine x_prp ?_ | with_reducible refine x_fld ?_ | with_reducible refine x_pur1 ?_ | with_reducible refine x_pur2 ?_ | with_reducible refine x_tup ?_ | with_reducible refine x_lst ?_ | with_reducible refine x_lc ?_ | with_reducible refine x_lc2 ?_ | with_reducible refine x_dc ?_ | with_reducible refine x_seqI ?_ | with_reducible refine x_val ?_ | with_reducible refine x_rg1 ?_ | with_reducible refine x_chn ?_ | with_reducible refine x_mk ?_ | with_reducible refine x_fldS ?_ | with_reducible refine x_mkX ?_ | with_reducible refine x_isI ?_ | with_reducible refine x_inO ?_ | with_reducible refine x_neO ?_ | with_reducible refine x_lstC ?_ | with_reducible refine x_app ?_ | with_reducible refine x_join ?_ | with_reducible refine x_sl ?_ | with_reducible refine x_putD ?_ | with_reducible refine x_dnC ?_ | with_reducible refine x_dict ?_ | with_reducible refine x_dic ?_
  | ((with_reducible apply x_var); rfl) | ((with_reducible apply x_fld1); rfl) | ((with_reducible apply x_isO); rfl) | ((with_reducible apply x_gall); rfl) | ((with_reducible apply x_it); rfl) | ((with_reducible apply x_und2); (simp only [unD, Option.map_some]; rfl); (rw [sizeLine_eq]; exact Nat.le_of_ble_eq_true rfl)) | ((with_reducible apply x_und); rfl) | refine x_ift ?_ | refine x_iff ?_
  | ((with_reducible apply x_isi); rfl; decide; decide) | ((with_reducible apply x_isi'); rfl; decide; decide) | ((with_reducible apply x_p1); rfl) | ((with_reducible apply x_p2); rfl))

def lowS : List Nat := (("abcdefghijklmnopqrstuvwxyz" : Str)).cps.toList
def isW (w : Str) : Bool := decide (1 ≤ w.length) && decide (w.length ≤ 6) && w.cps.toList.all fun ch => decide (ch ∈ lowS)
/-- a value that is_word can look at -/
def Kn (cs : List Addr) : D → Prop
  | .str w => w.length ≤ sizeLine
  | .obj C _ => C ∈ cs
  | .dit _ => False
  | .set _ => False
  | _ => True
def isWD : D → Bool
  | .str w => isW w
  | _ => false
theorem tyN_kn {cs : List Addr} {x : D} (h : Kn cs x) : (∃ a, tyN x = some a) ∨ ∃ C fs, x = .obj C fs ∧ C ∈ cs := by
  cases x with
  | obj C fs => exact .inr ⟨C, fs, rfl, h⟩
  | dit _ => exact h.elim
  | set _ => exact h.elim
  | _ => exact .inl ⟨_, rfl⟩
def isStr : D → Bool
  | .str _ => true
  | _ => false
def isDic : D → Bool
  | .dic _ => true
  | _ => false
def isTup : D → Bool
  | .tup _ => true
  | _ => false
def isLst : D → Bool
  | .lst _ => true
  | _ => false
theorem isi_kn {cs : List Addr} {x : D} {T : String} (p : D → Bool) (h : Kn cs x) (ht : T ∈ ["str", "tuple", "dict", "list", "int", "bool"]) (hp : ∀ x a, tyN x = some a → subT a T = p x) (ho : ∀ C fs, p (.obj C fs) = false) : isiT cs T x = some (.bl (p x)) := by
  rcases tyN_kn h with ⟨a, e⟩ | ⟨C, fs, rfl, hc⟩
  · rw [isi_v e rfl ht, hp x a e]
  · rw [isi_o hc ht, ho]
theorem isi_str {cs : List Addr} {x : D} (h : Kn cs x) : isiT cs "str" x = some (.bl (isStr x)) := isi_kn isStr h (by decide) (fun x a e => by cases x <;> first | (cases e; done) | (cases e; rfl) | (cases e; decide)) fun _ _ => rfl
theorem isi_dict {cs : List Addr} {x : D} (h : Kn cs x) : isiT cs "dict" x = some (.bl (isDic x)) := isi_kn isDic h (by decide) (fun x a e => by cases x <;> first | (cases e; done) | (cases e; rfl) | (cases e; decide)) fun _ _ => rfl
theorem isi_tup {cs : List Addr} {x : D} (h : Kn cs x) : isiT cs "tuple" x = some (.bl (isTup x)) := isi_kn isTup h (by decide) (fun x a e => by cases x <;> first | (cases e; done) | (cases e; rfl) | (cases e; decide)) fun _ _ => rfl
theorem isi_lst {cs : List Addr} {x : D} (h : Kn cs x) : isiT cs "list" x = some (.bl (isLst x)) := isi_kn isLst h (by decide) (fun x a e => by cases x <;> first | (cases e; done) | (cases e; rfl) | (cases e; decide)) fun _ _ => rfl
theorem str_size (w : Str) : w.cps.toList.length = w.length := by cases w; rfl
theorem ru_is_word {cs : List Addr} {x : D} (hx : Kn cs x) : Ru (m_is_word cs) [x] (.bl (isWD x)) := by
  intro μ E Q q
  refine x_mdef rfl ?_
  iterate 6 walk_at "st"
  refine x_p1 (isi_str hx) ?_
  by_cases hs : ∃ w, x = .str w
  · obtain ⟨w, rfl⟩ := hs
    have hw : w.length ≤ sizeLine := hx
    repeat walk_at "st"
    refine x_p1 (len_s hw) ?_
    repeat walk_at "st"
    have go : w.length ≤ 6 → 1 ≤ w.length → lcGo (gN 1) eYes (ePur2 (inD false) (eVar 1) (eC (.str "abcdefghijklmnopqrstuvwxyz"))) (wp (ini 2 (List.map R.d [.str w])) [1]) (frzL fun r μ1 => pur1 allD r μ1 (endN μ E Q).rt) (w.cps.toList.map fun ch => .d (.str ⟨#[ch]⟩)) [] μ := by
      intro h1 h2
      refine lc_all (fun ch => .str ⟨#[ch]⟩) (fun ch => decide (ch ∈ lowS)) (fun ch _ Q q => ?_) (by rw [str_size]; exact hw) ?_
      · repeat walk_at "st"
        rw [Bool.false_xor]
        exact q
      · refine x_rt0 ?_
        have : isWD (.str w) = w.cps.toList.all fun ch => decide (ch ∈ lowS) := by simp [isWD, isW, h1, h2]
        rw [← this]; exact q
    split
    · rename_i h1
      have h1 : (1 : Int) ≤ w.length := of_decide_eq_true h1
      repeat walk_at "st"
      split
      · rename_i h2
        have h2 : ¬ (w.length : Int) ≤ 6 := of_decide_eq_false (by simpa using h2)
        repeat walk_at "st"
        have : isWD (.str w) = false := by simp [isWD, isW]; intro _ h; omega
        rw [← this]; exact q
      · rename_i h2
        have h2 : (w.length : Int) ≤ 6 := of_decide_eq_true (by simpa using h2)
        repeat walk_at "st"
        exact go (by omega) (by omega)
    · rename_i h1
      have h1 : ¬ (1 : Int) ≤ w.length := of_decide_eq_false (by simpa using h1)
      repeat walk_at "st"
      have : isWD (.str w) = false := by simp [isWD, isW]; intro h; omega
      rw [← this]; exact q
  · have e : isStr x = false := by
      cases x with
      | str w => exact absurd ⟨w, rfl⟩ hs
      | _ => rfl
    have e2 : isWD x = false := by
      cases x with
      | str w => exact absurd ⟨w, rfl⟩ hs
      | _ => rfl
    rw [e]
    rw [e2] at q
    repeat walk_at "st"
    exact q
/-! ### dicts by their keys -/
def KnK (k : Key) : Prop := match k with | .inl _ => True | .inr s => s.length ≤ sizeLine
theorem kn_key {cs : List Addr} {k : Key} (h : KnK k) : Kn cs (kD' k) := by
  cases k with
  | inl i => trivial
  | inr s => exact h
def areW (kvs : List (Key × D)) (n : Int) : Bool := decide (1 ≤ kvs.length) && decide ((kvs.length : Int) ≤ n) && kvs.all fun kv => isWD (kD' kv.1)
theorem ru_are_words {cs : List Addr} {kvs : List (Key × D)} {n : Int} (hk : ∀ kv ∈ kvs, KnK kv.1) (hl : kvs.length ≤ sizeLine) : Ru (m_are_words cs) [.dic kvs, .int n] (.bl (areW kvs n)) := by
  intro μ E Q q
  refine x_mdef rfl ?_
  repeat walk_at "st"
  split
  · rename_i h1
    have h1 : (1 : Int) ≤ kvs.length := of_decide_eq_true h1
    repeat walk_at "st"
    split
    · rename_i h2
      have h2 : (kvs.length : Int) ≤ n := of_decide_eq_true h2
      repeat walk_at "st"
      refine lc_all (fun kv : Key × D => kD' kv.1) (fun kv => isWD (kD' kv.1)) (fun kv hm Q q => ?_) hl ?_
      · repeat walk_at "st"
        exact ru_is_word (kn_key (hk kv hm)) _ _ _ q
      · refine x_rt0 ?_
        have : areW kvs n = kvs.all fun kv => isWD (kD' kv.1) := by
          have : (1 : Nat) ≤ kvs.length := by omega
          simp [areW, this, h2]
        rw [← this]; exact q
    · rename_i h2
      have h2 : ¬ (kvs.length : Int) ≤ n := of_decide_eq_false (by simpa using h2)
      refine x_rt0 ?_
      have : areW kvs n = false := by simp [areW, h2]
      rw [← this]; exact q
  · rename_i h1
    have h1 : ¬ (1 : Int) ≤ kvs.length := of_decide_eq_false (by simpa using h1)
    repeat walk_at "st"
    have : areW kvs n = false := by
      have : ¬ (1 : Nat) ≤ kvs.length := by omega
      simp [areW, this]
    rw [← this]; exact q
/-- the typed look of a dict of texts -/
def dT (l : List (Str × D)) : D := .dic (l.map fun p => (Sum.inr p.1, p.2))
theorem areW_typed {kvs : List (Key × D)} {n : Int} (h : areW kvs n = true) : ∃ l : List (Str × D), kvs = l.map (fun p => (Sum.inr p.1, p.2)) ∧ 1 ≤ l.length ∧ (l.length : Int) ≤ n ∧ ∀ p ∈ l, isW p.1 = true := by
  unfold areW at h
  simp only [Bool.and_eq_true, decide_eq_true_eq, List.all_eq_true] at h
  obtain ⟨⟨h1, h2⟩, h3⟩ := h
  have key : ∀ kvs : List (Key × D), (∀ kv ∈ kvs, isWD (kD' kv.1) = true) → ∃ l : List (Str × D), kvs = l.map (fun p => (Sum.inr p.1, p.2)) ∧ ∀ p ∈ l, isW p.1 = true := by
    intro kvs
    induction kvs with
    | nil => exact fun _ => ⟨[], rfl, fun _ h => nomatch h⟩
    | cons a r ih =>
      intro h
      obtain ⟨l, e, hw⟩ := ih fun kv m => h kv (.tail _ m)
      obtain ⟨k, x⟩ := a
      have hk := h _ (.head _)
      cases k with
      | inl i => cases hk
      | inr s => exact ⟨(s, x) :: l, by rw [e]; rfl, fun p hp => (List.mem_cons.mp hp).elim (fun z => z ▸ hk) (hw p)⟩
  obtain ⟨l, e, hw⟩ := key kvs h3
  refine ⟨l, e, ?_, ?_, hw⟩
  · have := congrArg List.length e; simp at this; omega
  · have := congrArg List.length e; simp at this; omega
theorem areW_of {l : List (Str × D)} {n : Int} (h1 : 1 ≤ l.length) (h2 : (l.length : Int) ≤ n) (h3 : ∀ p ∈ l, isW p.1 = true) : areW (l.map fun p => (Sum.inr p.1, p.2)) n = true := by
  unfold areW
  simp only [Bool.and_eq_true, decide_eq_true_eq, List.all_eq_true, List.length_map]
  refine ⟨⟨h1, h2⟩, fun kv hm => ?_⟩
  obtain ⟨p, hp, rfl⟩ := List.mem_map.mp hm
  exact h3 p hp
theorem isW_len {w : Str} (h : isW w = true) : w.length ≤ sizeLine := by
  unfold isW at h
  simp only [Bool.and_eq_true, decide_eq_true_eq] at h
  have := h.1.2
  rw [sizeLine_eq]
  omega
theorem valD_typed {l : List (Str × D)} {k : Str} : valD (l.map fun p => ((Sum.inr p.1 : Key), p.2)) (Sum.inr k) = (l.find? fun p => decide (p.1 = k)).map (·.2) := by
  induction l with
  | nil => rfl
  | cons a r ih =>
    unfold valD at ih ⊢
    rw [List.map_cons, List.find?_cons, List.find?_cons]
    by_cases h : a.1 = k
    · simp [h]
    · have : ¬ (Sum.inr a.1 : Key) = Sum.inr k := fun z => h (by injection z)
      simp only [this, h, decide_false]
      exact ih
/-- the value of a key -/
def lk (l : List (Str × D)) (k : Str) : Option D := (l.find? fun p => decide (p.1 = k)).map (·.2)
theorem lk_some {l : List (Str × D)} {k : Str} (h : k ∈ l.map (·.1)) : ∃ x, lk l k = some x ∧ (k, x) ∈ l := by
  unfold lk
  cases hf : l.find? fun p => decide (p.1 = k) with
  | none =>
    obtain ⟨p, hp, rfl⟩ := List.mem_map.mp h
    have := List.find?_eq_none.mp hf p hp
    simp at this
  | some p =>
    have h1 := List.find?_some hf
    simp only [decide_eq_true_eq] at h1
    exact ⟨p.2, rfl, by rw [← h1]; exact List.mem_of_find?_eq_some hf⟩
theorem lk_isSome {l : List (Str × D)} {k : Str} : (lk l k).isSome = decide (k ∈ l.map (·.1)) := by
  by_cases h : k ∈ l.map (·.1)
  · obtain ⟨x, e, _⟩ := lk_some h
    rw [e]; simp [h]
  · unfold lk
    have : l.find? (fun p => decide (p.1 = k)) = none := List.find?_eq_none.mpr fun p hp => by
      simp only [decide_eq_true_eq]
      exact fun z => h (z ▸ List.mem_map_of_mem hp)
    rw [this]; simp [h]
/-! ### is_goal: a word in a dict or among a tuple's texts -/
def goalD (ks : List Str) : D → Bool
  | .str w => isW w && decide (w ∈ ks)
  | _ => false
theorem ru_is_goal {cs : List Addr} {x : D} {l : List (Str × D)} (hx : Kn cs x) : Ru (m_is_goal cs) [x, dT l] (.bl (goalD (l.map (·.1)) x)) := by
  intro μ E Q q
  refine x_mdef rfl ?_
  repeat walk_at "st"
  refine ru_is_word hx _ _ _ ?_
  repeat walk_at "st"
  split
  · rename_i h
    obtain ⟨w, rfl⟩ : ∃ w, x = .str w := by cases x <;> first | exact ⟨_, rfl⟩ | cases h
    repeat walk_at "st"
    have e : (false ^^ (valD (l.map fun p => ((Sum.inr p.1 : Key), p.2)) (Sum.inr w)).isSome) = goalD (l.map (·.1)) (.str w) := by
      rw [valD_typed, Bool.false_xor]
      show (lk l w).isSome = (isW w && _)
      rw [lk_isSome, show isW w = true from h, Bool.true_and]
    rw [← e] at q
    exact q
  · rename_i h
    refine x_rt0 ?_
    have e : goalD (l.map (·.1)) x = false := by
      cases x with
      | str w => have h : isW w = false := by simpa [isWD] using h
                 simp [goalD, h]
      | _ => rfl
    rw [e] at q
    exact q
end Eg
namespace Eg
open Evl (Ex)
open PySem PySem.Spec PyProof.Rows L2 Sn LamX
local macro_rules | `(tactic| walk_at "st") => `(tactic| first
  | with_reducible refine x_nx ?_ | with_reducible refine x_nxl ?_ | with_reducible refine x_rtn ?_ | with_reducible refine x_rtl ?_ | with_reducible refine x_exn ?_ | with_reducible refine x_exl ?_ | with_reducible refine x_rt0 ?_ | with_reducible refine x_nx0 ?_ | with_reducible refine x_ex0 ?_ | with_reducible refine x_rtK ?_ | with_reducible refine x_nxK ?_ | with_reducible refine x_exK ?_ | with_reducible refine x_seq ?_ | with_reducible refine x_set ?_ | with_reducible refine x_ret ?_ | with_reducible refine x_exp ?_ | with_reducible refine x_if ?_ | with_reducible refine x_nil ?_ | with_reducible refine x_raise ?_ | with_reducible refine x_asgT ?_ | with_reducible refine x_for ?_ | with_reducible refine x_c ?_ | with_reducible refine x_and ?_ | with_reducible refine x_or ?_ | with_reducible refine x_not ?_ | with_reducible refine x_cond ?_ | with_reducible refine x_isB ?_ | with_reducible refine x_anil ?_ | with_reducible refine x_acons ?_ | with_reducible refine x_call ?_ | with_reducible refine x_meth ?_ | with_reducible refine x_prp ?_ | with_reducible refine x_fld ?_ | with_reducible refine x_pur1 ?_ | with_reducible refine x_pur2 ?_ | with_reducible refine x_tup ?_ | with_reducible refine x_lst ?_ | with_reducible refine x_lc ?_ | with_reducible refine x_lc2 ?_ | with_reducible refine x_dc ?_ | with_reducible refine x_seqI ?_ | with_reducible refine x_val ?_ | with_reducible refine x_rg1 ?_ | with_reducible refine x_chn ?_ | with_reducible refine x_mk ?_ | with_reducible refine x_fldS ?_ | with_reducible refine x_mkX ?_ | with_reducible refine x_isI ?_ | with_reducible refine x_inO ?_ | with_reducible refine x_neO ?_ | with_reducible refine x_lstC ?_ | with_reducible refine x_app ?_ | with_reducible refine x_join ?_ | with_reducible refine x_sl ?_ | with_reducible refine x_putD ?_ | with_reducible refine x_dnC ?_ | with_reducible refine x_dict ?_ | with_reducible refine x_dic ?_
  | ((with_reducible apply x_var); rfl) | ((with_reducible apply x_fld1); rfl) | ((with_reducible apply x_isO); rfl) | ((with_reducible apply x_gall); rfl) | ((with_reducible apply x_it); rfl) | ((with_reducible apply x_und2); (simp only [unD, Option.map_some]; rfl); (rw [sizeLine_eq]; exact Nat.le_of_ble_eq_true rfl)) | ((with_reducible apply x_und); rfl) | refine x_ift ?_ | refine x_iff ?_
  | ((with_reducible apply x_isi); rfl; decide; decide) | ((with_reducible apply x_isi'); rfl; decide; decide) | ((with_reducible apply x_p1); rfl) | ((with_reducible apply x_p2); rfl))

/-! ### sets of keys -/
def sameS (a b : List Str) : Bool := a.all (fun k => decide (k ∈ b)) && b.all fun k => decide (k ∈ a)
theorem sub_len {α : Type} [DecidableEq α] : ∀ {a b : List α}, a.Nodup → (∀ x ∈ a, x ∈ b) → b.length ≤ a.length → ∀ y ∈ b, y ∈ a
  | [], b, _, _, hl, y, hy => by
    cases b with
    | nil => cases hy
    | cons _ _ => simp at hl
  | x :: a, b, hn, hs, hl, y, hy => by
    rw [List.nodup_cons] at hn
    have hx : x ∈ b := hs x (.head _)
    have h1 : (b.erase x).length = b.length - 1 := List.length_erase_of_mem hx
    have h2 : 0 < b.length := List.length_pos_of_mem hx
    by_cases e : y = x
    · exact e ▸ .head _
    · refine .tail _ (sub_len hn.2 (fun z hz => ?_) (by simp at hl; omega) y ((List.mem_erase_of_ne e).mpr hy))
      exact (List.mem_erase_of_ne (fun q => hn.1 (by rw [← q]; exact hz))).mpr (hs z (.tail _ hz))
theorem nd_le {α : Type} [DecidableEq α] : ∀ {a b : List α}, a.Nodup → (∀ x ∈ a, x ∈ b) → a.length ≤ b.length
  | [], b, _, _ => Nat.zero_le _
  | x :: a, b, hn, hs => by
    rw [List.nodup_cons] at hn
    have hx : x ∈ b := hs x (.head _)
    have h1 : (b.erase x).length = b.length - 1 := List.length_erase_of_mem hx
    have h2 : 0 < b.length := List.length_pos_of_mem hx
    have := nd_le hn.2 (b := b.erase x) fun z hz => (List.mem_erase_of_ne (fun q => hn.1 (by rw [← q]; exact hz))).mpr (hs z (.tail _ hz))
    simp only [List.length_cons]
    omega
theorem once_nodup {α : Type} [DecidableEq α] : ∀ (l acc : List α), acc.Nodup → (once acc l).Nodup
  | [], acc, h => h
  | x :: l, acc, h => by
    unfold once
    split
    · exact once_nodup l acc h
    · rename_i hx
      refine once_nodup l _ ?_
      exact List.nodup_cons.mpr ⟨hx, h⟩
theorem eqSet_same (a b : List Str) : eqSet (.set (once [] a)) (.set (once [] b)) = some (.bl (sameS a b)) := by
  have na := once_nodup a [] List.nodup_nil
  have nb := once_nodup b [] List.nodup_nil
  have ma : ∀ x, x ∈ once [] a ↔ x ∈ a := fun x => by rw [once_mem]; simp
  have mb : ∀ x, x ∈ once [] b ↔ x ∈ b := fun x => by rw [once_mem]; simp
  show some (D.bl _) = _
  congr 2
  unfold sameS
  rw [Bool.eq_iff_iff]
  simp only [Bool.and_eq_true, decide_eq_true_eq, List.all_eq_true]
  refine ⟨fun ⟨h1, h2⟩ => ⟨fun k hk => (mb k).mp (h2 k ((ma k).mpr hk)), fun k hk => (ma k).mp (sub_len na h2 (by omega) k ((mb k).mpr hk))⟩, fun ⟨h1, h2⟩ => ⟨Nat.le_antisymm ?_ ?_, fun k hk => (mb k).mpr (h1 k ((ma k).mp hk))⟩⟩
  · exact nd_le na fun x hx => (mb x).mpr (h1 x ((ma x).mp hx))
  · exact nd_le nb fun x hx => (ma x).mpr (h2 x ((mb x).mp hx))
theorem unI_typed : ∀ l : List (Str × D), unI ((l.map fun p => ((Sum.inr p.1 : Key), p.2)).map (·.1)) = some (l.map (·.1))
  | [] => rfl
  | a :: r => by
    have := unI_typed r
    simp only [List.map_cons, unI] at this ⊢
    rw [this]; rfl
theorem setD_typed {l : List (Str × D)} (h : l.length ≤ 100) : setD (dT l) = some (.set (once [] (l.map (·.1)))) := by
  unfold dT setD
  simp only
  rw [unI_typed]
  show (if _ then _ else _) = _
  rw [if_pos (by simpa using h)]
/-- truths in a row -/
theorem lcb {β : Type} {j : Nat} {e : EM} {ς : Sl} {K : List R → Sto → Prop} {μ : Sto} (rb : β → D) (p : β → Bool) : ∀ {ys : List β} {acc : List Bool}, (∀ y ∈ ys, ∀ Q, Q (.d (.bl (p y))) μ → e (ς.set j (some (.d (rb y)))) μ NoX Q) → acc.length + ys.length ≤ sizeLine →
    K ((acc ++ ys.map p).map fun b => R.d (.bl b)) μ → lcGo (gN j) eYes e ς K (ys.map fun y => R.d (rb y)) (acc.map fun b => R.d (.bl b)) μ
  | [], acc, _, _, q => by simpa [lcGo] using q
  | y :: ys, acc, h, hl, q => by
    simp only [List.length_cons] at hl
    refine h y (.head _) _ ⟨by simp; omega, ?_⟩
    have := lcb rb p (ys := ys) (acc := acc ++ [p y]) (K := K) (fun z hz => h z (.tail _ hz)) (by simp; omega) (by simpa using q)
    simpa using this
theorem lc2_all {α β : Type} {i j : Nat} {it1 : IM} {vs1 : List Nat} {e : EM} {ς : Sl} {Q : RK} {μ : Sto} {xs : List α} (r : α → D) (f : α → List β) (rb : β → D) (p : β → Bool)
    (h1 : ∀ x ∈ xs, ∀ Q' : List R → Sto → Prop, Q' ((f x).map fun y => R.d (rb y)) μ → it1 (ς.set i (some (.d (r x)))) μ NoX Q')
    (h2 : ∀ x ∈ xs, ∀ y ∈ f x, ∀ Q, Q (.d (.bl (p y))) μ → e ((wp (ς.set i (some (.d (r x)))) vs1).set j (some (.d (rb y)))) μ NoX Q)
    (hl : (xs.map fun x => (f x).length).sum ≤ sizeLine) (q : Q (.d (.bl (xs.all fun x => (f x).all p))) μ) :
    lc2Go (gN i) eYes it1 vs1 (gN j) eYes e ς (frzL fun r μ1 => pur1 allD r μ1 Q) (xs.map fun x => R.d (r x)) [] μ := by
  have key : ∀ (zs : List α) (acc : List Bool), (∀ z ∈ zs, z ∈ xs) → acc.length + (zs.map fun x => (f x).length).sum ≤ sizeLine → Q (.d (.bl (acc.all id && zs.all fun x => (f x).all p))) μ → lc2Go (gN i) eYes it1 vs1 (gN j) eYes e ς (frzL fun r μ1 => pur1 allD r μ1 Q) (zs.map fun x => R.d (r x)) (acc.map fun b => R.d (.bl b)) μ := by
    intro zs
    induction zs with
    | nil =>
      intro acc _ _ q
      show (unD (acc.map fun b => R.d (.bl b))).elim False _
      rw [unD_map]
      show ((unBs (acc.map fun b => D.bl b)).map fun bs => D.bl (bs.all id)).elim False _
      rw [show (acc.map fun b => D.bl b) = acc.map fun b => D.bl (id b) from rfl, unBs_map id acc]
      simpa using q
    | cons z zs ih =>
      intro acc hm hl q
      simp only [List.map_cons, List.sum_cons] at hl
      show it1 (ς.set i (some (.d (r z)))) μ NoX _
      refine h1 z (hm z (.head _)) _ (lcb rb p (fun y hy => h2 z (hm z (.head _)) y hy) (by omega) ?_)
      refine ih _ (fun x hx => hm x (.tail _ hx)) (by simp; omega) ?_
      simpa [Bool.and_assoc, List.all_map, Function.comp_def] using q
  exact key xs [] (fun _ h => h) (by simpa using hl) (by simpa using q)
end Eg
namespace Eg
open Evl (Ex)
open PySem PySem.Spec PyProof.Rows L2 Sn LamX
local macro_rules | `(tactic| walk_at "st") => `(tactic| first
  | with_reducible refine x_nx ?_ | with_reducible refine x_nxl ?_ | with_reducible refine x_rtn ?_ | with_reducible refine x_rtl ?_ | with_reducible refine x_exn ?_ | with_reducible refine x_exl ?_ | with_reducible refine x_rt0 ?_ | with_reducible refine x_nx0 ?_ | with_reducible refine x_ex0 ?_ | with_reducible refine x_rtK ?_ | with_reducible refine x_nxK ?_ | with_reducible refine x_exK ?_ | with_reducible refine x_seq ?_ | with_reducible refine x_set ?_ | with_reducible refine x_ret ?_ | with_reducible refine x_exp ?_ | with_reducible refine x_if ?_ | with_reducible refine x_nil ?_ | with_reducible refine x_raise ?_ | with_reducible refine x_asgT ?_ | with_reducible refine x_for ?_ | with_reducible refine x_c ?_ | with_reducible refine x_and ?_ | with_reducible refine x_or ?_ | with_reducible refine x_not ?_ | with_reducible refine x_cond ?_ | with_reducible refine x_isB ?_ | with_reducible refine x_anil ?_ | with_reducible refine x_acons ?_ | with_reducible refine x_call ?_ | with_reducible refine x_meth ?_ | with_reducible refine x_prp ?_ | with_reducible refine x_fld ?_ | with_reducible refine x_pur1 ?_ | with_reducible refine x_pur2 ?_ | with_reducible refine x_tup ?_ | with_reducible refine x_lst ?_ | with_reducible refine x_lc ?_ | with_reducible refine x_lc2 ?_ | with_reducible refine x_dc ?_ | with_reducible refine x_seqI ?_ | with_reducible refine x_val ?_ | with_reducible refine x_rg1 ?_ | with_reducible refine x_chn ?_ | with_reducible refine x_mk ?_ | with_reducible refine x_fldS ?_ | with_reducible refine x_mkX ?_ | with_reducible refine x_isI ?_ | with_reducible refine x_inO ?_ | with_reducible refine x_neO ?_ | with_reducible refine x_lstC ?_ | with_reducible refine x_app ?_ | with_reducible refine x_join ?_ | with_reducible refine x_sl ?_ | with_reducible refine x_putD ?_ | with_reducible refine x_dnC ?_ | with_reducible refine x_dict ?_ | with_reducible refine x_dic ?_
  | ((with_reducible apply x_var); rfl) | ((with_reducible apply x_fld1); rfl) | ((with_reducible apply x_isO); rfl) | ((with_reducible apply x_gall); rfl) | ((with_reducible apply x_it); rfl) | ((with_reducible apply x_und2); (simp only [unD, Option.map_some]; rfl); (rw [sizeLine_eq]; exact Nat.le_of_ble_eq_true rfl)) | ((with_reducible apply x_und); rfl) | refine x_ift ?_ | refine x_iff ?_
  | ((with_reducible apply x_isi); rfl; decide; decide) | ((with_reducible apply x_isi'); rfl; decide; decide) | ((with_reducible apply x_p1); rfl) | ((with_reducible apply x_p2); rfl))

/-! ### are_steps -/
def KnR (cs : List Addr) : D → Prop
  | .dic r => r.length ≤ sizeLine ∧ ∀ kv ∈ r, KnK kv.1 ∧ Kn cs kv.2
  | x => Kn cs x
def KnS (cs : List Addr) : D → Prop
  | .dic kvs => kvs.length ≤ sizeLine ∧ ∀ kv ∈ kvs, KnK kv.1 ∧ KnR cs kv.2
  | x => Kn cs x
theorem knR_kn {cs : List Addr} {x : D} (h : KnR cs x) : Kn cs x := by cases x <;> first | exact h | trivial
theorem knS_kn {cs : List Addr} {x : D} (h : KnS cs x) : Kn cs x := by cases x <;> first | exact h | trivial
def rowB (n : Int) : D → Bool
  | .dic r => areW r n
  | _ => false
def ksOf : D → List Str
  | .dic r => r.filterMap fun kv => match kv.1 with | .inr s => some s | .inl _ => none
  | _ => []
def vsOf : D → List D
  | .dic r => r.map (·.2)
  | _ => []
theorem ksOf_dT (l : List (Str × D)) : ksOf (dT l) = l.map (·.1) := by
  show (l.map fun p => ((Sum.inr p.1 : Key), p.2)).filterMap _ = _
  rw [List.filterMap_map]
  induction l with
  | nil => rfl
  | cons a r ih => simp only [List.filterMap_cons, List.map_cons, Function.comp, ih]
theorem vsOf_dT (l : List (Str × D)) : vsOf (dT l) = l.map (·.2) := by
  show (l.map fun p => ((Sum.inr p.1 : Key), p.2)).map (·.2) = _
  rw [List.map_map]; rfl
def stepsB (x : D) : Bool := rowB 5 x && (vsOf x).all (rowB 4) && (vsOf x).all (fun r => sameS (ksOf r) (ksOf ((vsOf x).headD .non))) && (vsOf x).all fun r => (vsOf r).all (goalD (ksOf x))
theorem x_all1 {xs : List D} {i : Nat} {e : EM} {ς : Sl} {Q : RK} {μ : Sto} (p : D → Bool) (h : ∀ x ∈ xs, ∀ Q, Q (.d (.bl (p x))) μ → e (ς.set i (some (.d x))) μ NoX Q) (hl : xs.length ≤ sizeLine) (q : Q (.d (.bl (xs.all p))) μ) :
    lcGo (gN i) eYes e ς (frzL fun r μ1 => pur1 allD r μ1 Q) (xs.map R.d) [] μ := lc_all (fun x => x) p h hl q
theorem typed_of {x : D} {n : Int} (h : rowB n x = true) : ∃ l : List (Str × D), x = dT l ∧ 1 ≤ l.length ∧ (l.length : Int) ≤ n ∧ ∀ p ∈ l, isW p.1 = true := by
  cases x with
  | dic r =>
    obtain ⟨l, e, h⟩ := areW_typed (show areW r n = true from h)
    exact ⟨l, by rw [e]; rfl, h⟩
  | _ => cases h
theorem rowB_of {l : List (Str × D)} {n : Int} (h1 : 1 ≤ l.length) (h2 : (l.length : Int) ≤ n) (h3 : ∀ p ∈ l, isW p.1 = true) : rowB n (dT l) = true := areW_of h1 h2 h3
theorem sum_le {α : Type} (f : α → Nat) (n : Nat) : ∀ xs : List α, (∀ x ∈ xs, f x ≤ n) → (xs.map f).sum ≤ xs.length * n
  | [], _ => by simp
  | x :: xs, h => by
    have h1 := h x (.head _)
    have h2 := sum_le f n xs fun y hy => h y (.tail _ hy)
    simp only [List.map_cons, List.sum_cons, List.length_cons, Nat.succ_mul]
    omega
theorem ru_are_steps {cs : List Addr} {x : D} (hx : KnS cs x) : Ru (m_are_steps cs) [x] (.bl (stepsB x)) := by
  intro μ E Q q
  refine x_mdef rfl ?_
  iterate 6 walk_at "st"
  refine x_p1 (isi_dict (knS_kn hx)) ?_
  by_cases hd : ∃ kvs, x = .dic kvs
  · obtain ⟨kvs, rfl⟩ := hd
    repeat walk_at "st"
    refine ru_are_words (fun kv hm => (hx.2 kv hm).1) hx.1 _ _ _ ?_
    repeat walk_at "st"
    split
    · rename_i h1
      have h1 : areW kvs 5 = false := by simpa using h1
      repeat walk_at "st"
      have : stepsB (.dic kvs) = false := by simp [stepsB, rowB, h1]
      rw [← this]; exact q
    · rename_i h1
      have h1 : areW kvs 5 = true := by simpa using h1
      obtain ⟨l, e, l1, l2, lw⟩ := areW_typed h1
      have ev : vsOf (.dic kvs) = kvs.map (·.2) := rfl
      have el : kvs.length = l.length := by rw [e]; simp
      have hv : ∀ x ∈ vsOf (.dic kvs), KnR cs x := fun x hm => by
        obtain ⟨kv, hk, rfl⟩ := List.mem_map.mp hm
        exact (hx.2 kv hk).2
      repeat walk_at "st"
      refine x_all1 (rowB 4) (fun x hm Q q => ?_) (by simp; rw [sizeLine_eq]; omega) ?_
      · repeat walk_at "st"
        refine x_p1 (isi_dict (knR_kn (hv x hm))) ?_
        by_cases hd : ∃ r, x = .dic r
        · obtain ⟨r, rfl⟩ := hd
          repeat walk_at "st"
          exact ru_are_words (fun kv hk => ((hv _ hm).2 kv hk).1) (hv _ hm).1 _ _ _ q
        · have e1 : isDic x = false := by
            cases x with
            | dic w => exact absurd ⟨w, rfl⟩ hd
            | _ => rfl
          have e2 : rowB 4 x = false := by
            cases x with
            | dic w => exact absurd ⟨w, rfl⟩ hd
            | _ => rfl
          rw [e1]
          rw [e2] at q
          repeat walk_at "st"
          exact q
      · repeat walk_at "st"
        split
        · rename_i h2
          have h2 : (vsOf (.dic kvs)).all (rowB 4) = false := nt h2
          repeat walk_at "st"
          have : stepsB (.dic kvs) = false := by unfold stepsB; rw [h2]; simp
          rw [← this]; exact q
        · rename_i h2
          have h2 : (vsOf (.dic kvs)).all (rowB 4) = true := nf h2
          have h2' := List.all_eq_true.mp h2
          have h0 : ∃ x0 r0, kvs.map (·.2) = x0 :: r0 := by
            cases hk : kvs with
            | nil => rw [hk] at el; simp at el; omega
            | cons a r => exact ⟨a.2, r.map (·.2), rfl⟩
          obtain ⟨x0, r0, hx0⟩ := h0
          have hh : (vsOf (.dic kvs)).headD .non = x0 := by rw [ev, hx0]; rfl
          have m0 : x0 ∈ vsOf (.dic kvs) := by rw [ev, hx0]; exact .head _
          obtain ⟨lz, ez, z1, z2, z3⟩ := typed_of (h2' x0 m0)
          repeat walk_at "st"
          refine x_all1 (fun r => sameS (ksOf r) (ksOf x0)) (fun x hm Q q => ?_) (by simp; rw [sizeLine_eq]; omega) ?_
          · obtain ⟨lx, ex, x1, x2, x3⟩ := typed_of (h2' x hm)
            subst ex
            repeat walk_at "st"
            refine x_p1 (setD_typed (by omega)) ?_
            repeat walk_at "st"
            refine x_p2 (z := x0) (by show atI (kvs.map (·.2)) 0 = _; rw [hx0]; exact atI_zero) ?_
            repeat walk_at "st"
            rw [ez]
            refine x_p1 (setD_typed (by omega)) ?_
            refine x_p2 (eqSet_same _ _) ?_
            rw [ez, ksOf_dT, ksOf_dT] at q
            exact q
          · repeat walk_at "st"
            split
            · rename_i h3
              have h3 : ((vsOf (.dic kvs)).all fun r => sameS (ksOf r) (ksOf x0)) = false := nt h3
              repeat walk_at "st"
              have : stepsB (.dic kvs) = false := by unfold stepsB; rw [hh, h3]; simp
              rw [← this]; exact q
            · rename_i h3
              have h3 : ((vsOf (.dic kvs)).all fun r => sameS (ksOf r) (ksOf x0)) = true := nf h3
              repeat walk_at "st"
              refine lc2_all (fun x : D => x) vsOf (fun y => y) (goalD (ksOf (.dic kvs))) (fun x hm Q' q => ?_) (fun x hm y hy Q q => ?_) ?_ ?_
              · obtain ⟨lx, ex, x1, x2, x3⟩ := typed_of (h2' x hm)
                subst ex
                repeat walk_at "st"
                exact q
              · repeat walk_at "st"
                have ky : Kn cs y := by
                  have := hv x hm
                  cases x with
                  | dic r =>
                    obtain ⟨kv, hk, rfl⟩ := List.mem_map.mp hy
                    exact (this.2 kv hk).2
                  | _ => cases hy
                have ed : D.dic kvs = dT l := by rw [e]; rfl
                rw [ed, ksOf_dT] at q
                have := ru_is_goal (cs := cs) (l := l) ky μ NoX Q q
                rw [← ed] at this
                exact this
              · refine Nat.le_trans (sum_le (fun x => (vsOf x).length) 4 _ fun x hm => ?_) ?_
                · obtain ⟨lx, ex, x1, x2, x3⟩ := typed_of (h2' x hm)
                  rw [ex, vsOf_dT]; simp; omega
                · simp; rw [sizeLine_eq]; omega
              · repeat walk_at "st"
                have : stepsB (.dic kvs) = ((vsOf (.dic kvs)).all fun r => (vsOf r).all (goalD (ksOf (.dic kvs)))) := by
                  have h1 : rowB 5 (.dic kvs) = true := h1
                  unfold stepsB
                  rw [hh, h1, h2, h3]
                  simp
                rw [this] at q
                exact q
  · have e : isDic x = false := by
      cases x with
      | dic w => exact absurd ⟨w, rfl⟩ hd
      | _ => rfl
    have e2 : stepsB x = false := by
      cases x with
      | dic w => exact absurd ⟨w, rfl⟩ hd
      | _ => rfl
    rw [e]
    rw [e2] at q
    repeat walk_at "st"
    exact q
end Eg
namespace Eg
open Evl (Ex)
open PySem PySem.Spec PyProof.Rows L2 Sn LamX
local macro_rules | `(tactic| walk_at "st") => `(tactic| first
  | with_reducible refine x_nx ?_ | with_reducible refine x_nxl ?_ | with_reducible refine x_rtn ?_ | with_reducible refine x_rtl ?_ | with_reducible refine x_exn ?_ | with_reducible refine x_exl ?_ | with_reducible refine x_rt0 ?_ | with_reducible refine x_nx0 ?_ | with_reducible refine x_ex0 ?_ | with_reducible refine x_rtK ?_ | with_reducible refine x_nxK ?_ | with_reducible refine x_exK ?_ | with_reducible refine x_seq ?_ | with_reducible refine x_set ?_ | with_reducible refine x_ret ?_ | with_reducible refine x_exp ?_ | with_reducible refine x_if ?_ | with_reducible refine x_nil ?_ | with_reducible refine x_raise ?_ | with_reducible refine x_asgT ?_ | with_reducible refine x_for ?_ | with_reducible refine x_c ?_ | with_reducible refine x_and ?_ | with_reducible refine x_or ?_ | with_reducible refine x_not ?_ | with_reducible refine x_cond ?_ | with_reducible refine x_isB ?_ | with_reducible refine x_anil ?_ | with_reducible refine x_acons ?_ | with_reducible refine x_call ?_ | with_reducible refine x_meth ?_ | with_reducible refine x_prp ?_ | with_reducible refine x_fld ?_ | with_reducible refine x_pur1 ?_ | with_reducible refine x_pur2 ?_ | with_reducible refine x_tup ?_ | with_reducible refine x_lst ?_ | with_reducible refine x_lc ?_ | with_reducible refine x_lc2 ?_ | with_reducible refine x_dc ?_ | with_reducible refine x_seqI ?_ | with_reducible refine x_val ?_ | with_reducible refine x_rg1 ?_ | with_reducible refine x_chn ?_ | with_reducible refine x_mk ?_ | with_reducible refine x_fldS ?_ | with_reducible refine x_mkX ?_ | with_reducible refine x_isI ?_ | with_reducible refine x_inO ?_ | with_reducible refine x_neO ?_ | with_reducible refine x_lstC ?_ | with_reducible refine x_app ?_ | with_reducible refine x_join ?_ | with_reducible refine x_sl ?_ | with_reducible refine x_putD ?_ | with_reducible refine x_dnC ?_ | with_reducible refine x_dict ?_ | with_reducible refine x_dic ?_
  | ((with_reducible apply x_var); rfl) | ((with_reducible apply x_fld1); rfl) | ((with_reducible apply x_isO); rfl) | ((with_reducible apply x_gall); rfl) | ((with_reducible apply x_it); rfl) | ((with_reducible apply x_und2); (simp only [unD, Option.map_some]; rfl); (rw [sizeLine_eq]; exact Nat.le_of_ble_eq_true rfl)) | ((with_reducible apply x_und); rfl) | refine x_ift ?_ | refine x_iff ?_
  | ((with_reducible apply x_isi); rfl; decide; decide) | ((with_reducible apply x_isi'); rfl; decide; decide) | ((with_reducible apply x_p1); rfl) | ((with_reducible apply x_p2); rfl))

/-! ### are_tells -/
def KnT (cs : List Addr) (x : D) : Prop := (∃ l : List (Str × D), x = dT l ∧ l.length ≤ 100 ∧ ∀ p ∈ l, Kn cs p.2) ∨ (isDic x = false ∧ Kn cs x)
def tellsB (ks : List Str) (x : D) : Bool := isDic x && sameS (ksOf x) ks && (vsOf x).all isWD
theorem ru_are_tells {cs : List Addr} {x : D} {l : List (Str × D)} (hx : KnT cs x) (hl : l.length ≤ 100) : Ru (m_are_tells cs) [x, dT l] (.bl (tellsB (l.map (·.1)) x)) := by
  intro μ E Q q
  refine x_mdef rfl ?_
  rcases hx with ⟨t, rfl, ht, hv⟩ | ⟨hd, hk⟩
  · repeat walk_at "st"
    refine x_p1 (setD_typed ht) ?_
    repeat walk_at "st"
    refine x_p1 (setD_typed hl) ?_
    refine x_p2 (eqSet_same _ _) ?_
    repeat walk_at "st"
    split
    · rename_i h1
      repeat walk_at "st"
      show lcGo (gN 2) eYes _ _ _ (((t.map fun p => ((Sum.inr p.1 : Key), p.2)).map (·.2)).map R.d) [] μ
      refine x_all1 isWD (fun x hm Q q => ?_) (by simp; rw [sizeLine_eq]; omega) ?_
      · repeat walk_at "st"
        refine ru_is_word ?_ _ _ _ q
        obtain ⟨kv, h2, rfl⟩ := List.mem_map.mp hm
        obtain ⟨p, h3, rfl⟩ := List.mem_map.mp h2
        exact hv p h3
      · refine x_rt0 ?_
        have : tellsB (l.map (·.1)) (dT t) = ((t.map fun p => ((Sum.inr p.1 : Key), p.2)).map (·.2)).all isWD := by
          unfold tellsB
          rw [ksOf_dT, h1]
          rfl
        rw [this] at q
        exact q
    · rename_i h1
      refine x_rt0 ?_
      have : tellsB (l.map (·.1)) (dT t) = false := by
        unfold tellsB
        rw [ksOf_dT, ff h1]
        simp
      rw [this] at q
      exact q
  · repeat walk_at "st"
    refine x_p1 (isi_dict hk) ?_
    rw [hd]
    repeat walk_at "st"
    have : tellsB (l.map (·.1)) x = false := by unfold tellsB; rw [hd]; simp
    rw [this] at q
    exact q
/-! ### dict comprehensions -/
theorem putKD_new {β : Type} {acc : List (Key × β)} {k : Key} {v : β} (h : k ∉ acc.map (·.1)) : putKD acc k v = acc ++ [(k, v)] := by
  unfold putKD
  rw [if_neg]
  simp only [List.any_eq_true, decide_eq_true_eq, not_exists, not_and]
  exact fun p hp z => h (z ▸ List.mem_map_of_mem hp)
theorem unK_map {α : Type} (kf : α → Key) (vf : α → D) : ∀ xs : List α, unK (xs.map fun x => (kf x, R.d (vf x))) = some (xs.map fun x => (kf x, vf x))
  | [] => rfl
  | x :: xs => by simp [unK, unK_map kf vf xs]
theorem dc_map {α : Type} {i : Nat} {kx vx : EM} {ς : Sl} {Q : RK} {μ : Sto} {xs : List α} (r : α → D) (kf : α → Str) (vf : α → D)
    (hk : ∀ x ∈ xs, ∀ Q, Q (.d (.str (kf x))) μ → kx (ς.set i (some (.d (r x)))) μ NoX Q) (hv : ∀ x ∈ xs, ∀ Q, Q (.d (vf x)) μ → vx (ς.set i (some (.d (r x)))) μ NoX Q)
    (hn : (xs.map kf).Nodup) (hl : xs.length ≤ sizeLine) (q : Q (.d (dT (xs.map fun x => (kf x, vf x)))) μ) :
    dcGo (gN i) eYes kx vx ς (frzK Q) (xs.map fun x => R.d (r x)) [] μ := by
  have key : ∀ (zs ac : List α), ac ++ zs = xs → dcGo (gN i) eYes kx vx ς (frzK Q) (zs.map fun x => R.d (r x)) (ac.map fun x => ((Sum.inr (kf x) : Key), R.d (vf x))) μ := by
    intro zs
    induction zs with
    | nil =>
      intro ac e
      rw [List.append_nil] at e
      subst e
      show (unK (ac.map fun x => ((Sum.inr (kf x) : Key), R.d (vf x)))).elim False _
      rw [unK_map (fun x => (Sum.inr (kf x) : Key)) vf]
      show Q (.d (.dic _)) μ
      unfold dT at q
      rw [List.map_map] at q
      exact q
    | cons z zs ih =>
      intro ac e
      have hz : z ∈ xs := by rw [← e]; simp
      refine hk z hz _ ?_
      refine hv z hz _ ?_
      refine ⟨?_, ?_⟩
      · have := congrArg List.length e
        simp only [List.length_append, List.length_cons, List.length_map] at this ⊢
        omega
      · rw [putKD_new]
        · have := ih (ac ++ [z]) (by rw [← e]; simp)
          simpa using this
        · rw [← e, List.map_append, List.nodup_append] at hn
          intro hm
          simp only [List.map_map, List.mem_map, Function.comp] at hm
          obtain ⟨y, hy, e2⟩ := hm
          injection e2 with e2
          exact hn.2.2 (kf y) (List.mem_map_of_mem hy) (kf z) (by simp) e2
  exact key xs [] rfl
/-- the items, ascending -/
def srtK (l : List (Str × D)) : List (Str × D) := (srtS (l.map (·.1))).map fun k => (k, (lk l k).getD .non)
theorem sortD_typed {l : List (Str × D)} (h : l.length < 64) : sortD (dT l) = some (.lst ((srtS (l.map (·.1))).map D.str)) := by
  unfold dT sortD
  simp only
  rw [unI_typed]
  show (if _ then _ else _) = _
  rw [if_pos (by simpa using h)]
theorem dget_typed {l : List (Str × D)} {k : Str} {x : D} (h : lk l k = some x) : dgetD (dT l) (.str k) = some x := by
  show valD (l.map fun p => ((Sum.inr p.1 : Key), p.2)) (Sum.inr k) = some x
  rw [valD_typed]; exact h
theorem srt_mem {l : List Str} {x : Str} : x ∈ srtS l ↔ x ∈ l := (srtS_perm l).mem_iff
theorem srt_nodup {l : List Str} (h : l.Nodup) : (srtS l).Nodup := (srtS_perm l).nodup_iff.mpr h
theorem srt_len (l : List Str) : (srtS l).length = l.length := (srtS_perm l).length_eq
end Eg
namespace Eg
open Evl (Ex)
open PySem PySem.Spec PyProof.Rows L2 Sn LamX
local macro_rules | `(tactic| walk_at "st") => `(tactic| first
  | with_reducible refine x_nx ?_ | with_reducible refine x_nxl ?_ | with_reducible refine x_rtn ?_ | with_reducible refine x_rtl ?_ | with_reducible refine x_exn ?_ | with_reducible refine x_exl ?_ | with_reducible refine x_rt0 ?_ | with_reducible refine x_nx0 ?_ | with_reducible refine x_ex0 ?_ | with_reducible refine x_rtK ?_ | with_reducible refine x_nxK ?_ | with_reducible refine x_exK ?_ | with_reducible refine x_seq ?_ | with_reducible refine x_set ?_ | with_reducible refine x_ret ?_ | with_reducible refine x_exp ?_ | with_reducible refine x_if ?_ | with_reducible refine x_nil ?_ | with_reducible refine x_raise ?_ | with_reducible refine x_asgT ?_ | with_reducible refine x_for ?_ | with_reducible refine x_c ?_ | with_reducible refine x_and ?_ | with_reducible refine x_or ?_ | with_reducible refine x_not ?_ | with_reducible refine x_cond ?_ | with_reducible refine x_isB ?_ | with_reducible refine x_anil ?_ | with_reducible refine x_acons ?_ | with_reducible refine x_call ?_ | with_reducible refine x_meth ?_ | with_reducible refine x_prp ?_ | with_reducible refine x_fld ?_ | with_reducible refine x_pur1 ?_ | with_reducible refine x_pur2 ?_ | with_reducible refine x_tup ?_ | with_reducible refine x_lst ?_ | with_reducible refine x_lc ?_ | with_reducible refine x_lc2 ?_ | with_reducible refine x_dc ?_ | with_reducible refine x_seqI ?_ | with_reducible refine x_val ?_ | with_reducible refine x_rg1 ?_ | with_reducible refine x_chn ?_ | with_reducible refine x_mk ?_ | with_reducible refine x_fldS ?_ | with_reducible refine x_mkX ?_ | with_reducible refine x_isI ?_ | with_reducible refine x_inO ?_ | with_reducible refine x_neO ?_ | with_reducible refine x_lstC ?_ | with_reducible refine x_app ?_ | with_reducible refine x_join ?_ | with_reducible refine x_sl ?_ | with_reducible refine x_putD ?_ | with_reducible refine x_dnC ?_ | with_reducible refine x_dict ?_ | with_reducible refine x_dic ?_
  | ((with_reducible apply x_var); rfl) | ((with_reducible apply x_fld1); rfl) | ((with_reducible apply x_isO); rfl) | ((with_reducible apply x_gall); rfl) | ((with_reducible apply x_it); rfl) | ((with_reducible apply x_und2); (simp only [unD, Option.map_some]; rfl); (rw [sizeLine_eq]; exact Nat.le_of_ble_eq_true rfl)) | ((with_reducible apply x_und); rfl) | refine x_ift ?_ | refine x_iff ?_
  | ((with_reducible apply x_isi); rfl; decide; decide) | ((with_reducible apply x_isi'); rfl; decide; decide) | ((with_reducible apply x_p1); rfl) | ((with_reducible apply x_p2); rfl))

/-! ### Edition -/
def unT : D → List (Str × D)
  | .dic r => r.filterMap fun kv => match kv.1 with | .inr s => some (s, kv.2) | .inl _ => none
  | _ => []
theorem unT_dT (l : List (Str × D)) : unT (dT l) = l := by
  show (l.map fun p => ((Sum.inr p.1 : Key), p.2)).filterMap _ = _
  rw [List.filterMap_map]
  induction l with
  | nil => rfl
  | cons a r ih => simp only [List.filterMap_cons, Function.comp, ih]
def stD (l : List (Str × D)) : D := dT ((srtS (l.map (·.1))).map fun k => (k, dT (srtK (unT ((lk l k).getD .non)))))
abbrev edO (CE : Addr) (l te : List (Str × D)) (s0 : D) : D := .obj CE [("own_steps", stD l), ("own_tells", dT (srtK te)), ("own_start", s0)]
def edB (st te s0 : D) : Bool := stepsB st && tellsB (ksOf st) te && goalD (ksOf st) s0
theorem edB_typed {st te s0 : D} (h : stepsB st = true) : ∃ l : List (Str × D), st = dT l ∧ 1 ≤ l.length ∧ l.length ≤ 5 ∧ (∀ p ∈ l, isW p.1 = true ∧ ∃ r, p.2 = dT r ∧ 1 ≤ r.length ∧ r.length ≤ 4 ∧ ∀ q ∈ r, isW q.1 = true) := by
  unfold stepsB at h
  simp only [Bool.and_eq_true] at h
  obtain ⟨⟨⟨h1, h2⟩, h3⟩, h4⟩ := h
  obtain ⟨l, e, l1, l2, lw⟩ := typed_of h1
  refine ⟨l, e, l1, by omega, fun p hp => ⟨lw p hp, ?_⟩⟩
  subst e
  rw [vsOf_dT] at h2
  obtain ⟨r, e, r1, r2, rw'⟩ := typed_of (List.all_eq_true.mp h2 p.2 (List.mem_map_of_mem hp))
  exact ⟨r, e, r1, by omega, rw'⟩
theorem mk_ed {cs : List Addr} {xNE CE : Addr} {st te s0 : D} {ce : List Ce} {T : Nat} {E : XC} {Q : RK} (h1 : KnS cs st) (h2 : KnT cs te) (h3 : Kn cs s0)
    (bad : edB st te s0 = false → E ⟨xNE, []⟩ ⟨ce, T⟩)
    (good : edB st te s0 = true → ((unT st).map (·.1)).Nodup ∧ (∀ p ∈ unT st, ((unT p.2).map (·.1)).Nodup) ∧ ((unT te).map (·.1)).Nodup ∧ Q (.d (edO CE (unT st) (unT te) s0)) ⟨ce, T⟩) :
    mkIn CE (m_Edition___init cs xNE CE) [.d st, .d te, .d s0] ⟨ce, T⟩ E Q := by
  unfold mkIn
  refine x_mdefK rfl ?_
  repeat walk_at "st"
  refine ru_are_steps h1 _ _ _ ?_
  repeat walk_at "st"
  split
  · rename_i c1
    repeat walk_at "st"
    exact bad (by unfold edB; rw [nt c1]; simp)
  · rename_i c1
    have c1 := nf c1
    obtain ⟨l, rfl, l1, l2, lw⟩ := edB_typed (te := te) (s0 := s0) c1
    repeat walk_at "st"
    refine ru_are_tells h2 (by omega) _ _ _ ?_
    repeat walk_at "st"
    split
    · rename_i c2
      repeat walk_at "st"
      exact bad (by unfold edB; rw [ksOf_dT, nt c2]; simp)
    · rename_i c2
      have c2 := nf c2
      repeat walk_at "st"
      refine ru_is_goal h3 _ _ _ ?_
      repeat walk_at "st"
      split
      · rename_i c3
        repeat walk_at "st"
        exact bad (by unfold edB; rw [ksOf_dT, nt c3]; simp)
      · rename_i c3
        have c3 := nf c3
        obtain ⟨n1, n2, n3, q⟩ := good (by unfold edB; rw [ksOf_dT, c1, c2, c3]; rfl)
        rw [unT_dT] at n1 n2 q
        obtain ⟨t, rfl, t1, t2⟩ : ∃ t, te = dT t ∧ t.length ≤ 100 ∧ ∀ p ∈ t, Kn cs p.2 := by
          rcases h2 with h2 | ⟨h2, _⟩
          · exact h2
          · unfold tellsB at c2; rw [h2] at c2; cases c2
        rw [unT_dT] at n3 q
        have t5 : t.length ≤ 5 := by
          unfold tellsB at c2
          simp only [Bool.and_eq_true] at c2
          have := c2.1.2
          unfold sameS at this
          simp only [Bool.and_eq_true, List.all_eq_true, decide_eq_true_eq, ksOf_dT] at this
          have := nd_le n3 this.1
          simpa using Nat.le_trans this (by simpa using l2)
        have ns : (srtS (l.map (·.1))).Nodup := srt_nodup n1
        repeat walk_at "st"
        refine x_p1 (sortD_typed (by omega)) ?_
        repeat walk_at "st"
        rw [List.map_map]
        refine dc_map D.str (fun k => k) (fun k => dT (srtK (unT ((lk l k).getD .non)))) (fun k hk Q q => ?_) (fun k hk Q q => ?_) (by simpa using ns) (by rw [srt_len]; simp; rw [sizeLine_eq]; omega) ?_
        · repeat walk_at "st"
          exact q
        · obtain ⟨x, hx, mx⟩ := lk_some (srt_mem.mp hk)
          obtain ⟨_, r, er, r1, r2, r3⟩ := lw _ mx
          have er : x = dT r := er
          subst er
          have nr := n2 _ mx
          rw [unT_dT] at nr
          repeat walk_at "st"
          refine x_p2 (dget_typed hx) ?_
          refine x_p1 (sortD_typed (by omega)) ?_
          repeat walk_at "st"
          rw [List.map_map]
          rw [hx] at q
          refine dc_map D.str (fun k => k) (fun k => (lk r k).getD .non) (fun k hk Q q => ?_) (fun k hk Q q => ?_) (by simpa using srt_nodup nr) (by rw [srt_len]; simp; rw [sizeLine_eq]; omega) ?_
          · repeat walk_at "st"
            exact q
          · obtain ⟨y, hy, my⟩ := lk_some (srt_mem.mp hk)
            repeat walk_at "st"
            refine x_p2 (dget_typed hx) ?_
            repeat walk_at "st"
            refine x_p2 (dget_typed hy) ?_
            rw [hy] at q
            exact q
          · have : unT ((some (dT r)).getD D.non) = r := unT_dT r
            rw [this] at q
            exact q
        · repeat walk_at "st"
          refine x_fput (by decide) ?_
          repeat walk_at "st"
          refine x_p1 (sortD_typed (by omega)) ?_
          repeat walk_at "st"
          rw [List.map_map]
          refine dc_map D.str (fun k => k) (fun k => (lk t k).getD .non) (fun k hk Q q => ?_) (fun k hk Q q => ?_) (by simpa using srt_nodup n3) (by rw [srt_len]; simp; rw [sizeLine_eq]; omega) ?_
          · repeat walk_at "st"
            exact q
          · obtain ⟨y, hy, my⟩ := lk_some (srt_mem.mp hk)
            repeat walk_at "st"
            refine x_p2 (dget_typed hy) ?_
            rw [hy] at q
            exact q
          · repeat walk_at "st"
            refine x_fput (putR1 _ _) ?_
            repeat walk_at "st"
            refine x_fput (putR2 _ _ _ _) ?_
            repeat walk_at "st"
            exact x_mkQ rfl q
end Eg
namespace Eg
open Evl (Ex)
open PySem PySem.Spec PyProof.Rows L2 Sn LamX
local macro_rules | `(tactic| walk_at "st") => `(tactic| first
  | with_reducible refine x_nx ?_ | with_reducible refine x_nxl ?_ | with_reducible refine x_rtn ?_ | with_reducible refine x_rtl ?_ | with_reducible refine x_exn ?_ | with_reducible refine x_exl ?_ | with_reducible refine x_rt0 ?_ | with_reducible refine x_nx0 ?_ | with_reducible refine x_ex0 ?_ | with_reducible refine x_rtK ?_ | with_reducible refine x_nxK ?_ | with_reducible refine x_exK ?_ | with_reducible refine x_seq ?_ | with_reducible refine x_set ?_ | with_reducible refine x_ret ?_ | with_reducible refine x_exp ?_ | with_reducible refine x_if ?_ | with_reducible refine x_nil ?_ | with_reducible refine x_raise ?_ | with_reducible refine x_asgT ?_ | with_reducible refine x_for ?_ | with_reducible refine x_c ?_ | with_reducible refine x_and ?_ | with_reducible refine x_or ?_ | with_reducible refine x_not ?_ | with_reducible refine x_cond ?_ | with_reducible refine x_isB ?_ | with_reducible refine x_anil ?_ | with_reducible refine x_acons ?_ | with_reducible refine x_call ?_ | with_reducible refine x_meth ?_ | with_reducible refine x_prp ?_ | with_reducible refine x_fld ?_ | with_reducible refine x_pur1 ?_ | with_reducible refine x_pur2 ?_ | with_reducible refine x_tup ?_ | with_reducible refine x_lst ?_ | with_reducible refine x_lc ?_ | with_reducible refine x_lc2 ?_ | with_reducible refine x_dc ?_ | with_reducible refine x_seqI ?_ | with_reducible refine x_val ?_ | with_reducible refine x_rg1 ?_ | with_reducible refine x_chn ?_ | with_reducible refine x_mk ?_ | with_reducible refine x_fldS ?_ | with_reducible refine x_mkX ?_ | with_reducible refine x_isI ?_ | with_reducible refine x_inO ?_ | with_reducible refine x_neO ?_ | with_reducible refine x_lstC ?_ | with_reducible refine x_app ?_ | with_reducible refine x_join ?_ | with_reducible refine x_sl ?_ | with_reducible refine x_putD ?_ | with_reducible refine x_dnC ?_ | with_reducible refine x_dict ?_ | with_reducible refine x_dic ?_
  | ((with_reducible apply x_var); rfl) | ((with_reducible apply x_fld1); rfl) | ((with_reducible apply x_isO); rfl) | ((with_reducible apply x_gall); rfl) | ((with_reducible apply x_it); rfl) | ((with_reducible apply x_und2); (simp only [unD, Option.map_some]; rfl); (rw [sizeLine_eq]; exact Nat.le_of_ble_eq_true rfl)) | ((with_reducible apply x_und); rfl) | refine x_ift ?_ | refine x_iff ?_
  | ((with_reducible apply x_isi); rfl; decide; decide) | ((with_reducible apply x_isi'); rfl; decide; decide) | ((with_reducible apply x_p1); rfl) | ((with_reducible apply x_p2); rfl))

/-! ### == of rows of texts -/
theorem pds_strs : ∀ a : List Str, pds (a.map D.str) = some (a.map PyData.str)
  | [] => rfl
  | x :: r => by simp only [List.map_cons, pds, pd, pds_strs r, Option.bind_some, Option.map_some]
theorem eqv_strs : ∀ a b : List Str, PyData.eqvAll (a.map PyData.str) (b.map PyData.str) = decide (a = b)
  | [], [] => by simp [PyData.eqvAll]
  | [], _ :: _ => by simp [PyData.eqvAll]
  | _ :: _, [] => by simp [PyData.eqvAll]
  | x :: a, y :: b => by
    simp only [List.map_cons, PyData.eqvAll, PyData.eqv, eqv_strs a b]
    rw [Bool.eq_iff_iff]
    simp
theorem depth_strs : ∀ a : List Str, PyData.depthAll (a.map PyData.str) = 0
  | [] => by simp [PyData.depthAll]
  | x :: r => by simp [PyData.depthAll, PyData.depth, depth_strs r]
theorem can_strs : ∀ a : List Str, (∀ w ∈ a, PyData.strOk w = true) → PyData.canLayAll0 (a.map PyData.str) = true
  | [], _ => by simp [PyData.canLayAll0]
  | x :: r, h => by
    simp only [List.map_cons, PyData.canLayAll0, PyData.canLay0, h x (.head _), Bool.true_and]
    exact can_strs r fun w hw => h w (.tail _ hw)
theorem shaped_strsT {a : List Str} (h : ∀ w ∈ a, PyData.strOk w = true) : SeqAt.shaped (.tuple (a.map PyData.str)) = true := by
  unfold SeqAt.shaped
  rw [PyData.canLay0, PyData.depth, depth_strs, can_strs a h]
  rfl
theorem shaped_strsL {a : List Str} (h : ∀ w ∈ a, PyData.strOk w = true) : SeqAt.shaped (.list (a.map PyData.str)) = true := by
  unfold SeqAt.shaped
  rw [PyData.canLay0, PyData.depth, depth_strs, can_strs a h]
  rfl
theorem low_small : ∀ ch ∈ lowS, ch < 1114112 := by decide +kernel
theorem isW_ok {w : Str} (h : isW w = true) : PyData.strOk w = true := by
  unfold isW at h
  simp only [Bool.and_eq_true, List.all_eq_true, decide_eq_true_eq] at h
  unfold PyData.strOk
  rw [← Array.all_toList, List.all_eq_true]
  exact fun ch hc => decide_eq_true (low_small ch (h.2 ch hc))
section
variable {a b : List Str} (ha : ∀ w ∈ a, PyData.strOk w = true) (hb : ∀ w ∈ b, PyData.strOk w = true)
include ha hb
theorem eqB_strsT : eqB (.tup (a.map D.str)) (.tup (b.map D.str)) = some (decide (a = b)) := by
  simp only [eqB, pd, pds_strs, Option.map_some, Option.bind_some]
  rw [if_pos ⟨shaped_strsT ha, shaped_strsT hb⟩, PyData.eqv, eqv_strs]
theorem eqB_strsL : eqB (.lst (a.map D.str)) (.lst (b.map D.str)) = some (decide (a = b)) := by
  simp only [eqB, pd, pds_strs, Option.map_some, Option.bind_some]
  rw [if_pos ⟨shaped_strsL ha, shaped_strsL hb⟩, PyData.eqv, eqv_strs]
theorem ne_strsT : neD (.tup (a.map D.str)) (.tup (b.map D.str)) = some (.bl (!decide (a = b))) := by unfold neD; rw [eqB_strsT ha hb]; rfl
theorem eq_strsL : eqD (.lst (a.map D.str)) (.lst (b.map D.str)) = some (.bl (decide (a = b))) := by unfold eqD; rw [eqB_strsL ha hb]; rfl
theorem ne_strsL : neD (.lst (a.map D.str)) (.lst (b.map D.str)) = some (.bl (!decide (a = b))) := by unfold neD; rw [eqB_strsL ha hb]; rfl
end
/-! ### Lift -/
def KnP (cs : List Addr) : D → Prop
  | .tup xs => xs.length ≤ sizeLine ∧ ∀ x ∈ xs, Kn cs x
  | x => Kn cs x
theorem knP_kn {cs : List Addr} {x : D} (h : KnP cs x) : Kn cs x := by cases x <;> first | exact h | trivial
def KnE (cs : List Addr) : D → Prop
  | .dic kvs => kvs.length ≤ sizeLine ∧ ∀ kv ∈ kvs, KnK kv.1 ∧ KnP cs kv.2
  | x => Kn cs x
theorem knE_kn {cs : List Addr} {x : D} (h : KnE cs x) : Kn cs x := by cases x <;> first | exact h | trivial
def lrowB : D → Bool
  | .tup xs => decide (xs.length ≤ 27) && xs.all isWD
  | _ => false
theorem ru_lrow {cs : List Addr} {x : D} (hx : KnP cs x) : Ru (m_is_lifted_row cs) [x] (.bl (lrowB x)) := by
  intro μ E Q q
  refine x_mdef rfl ?_
  iterate 4 walk_at "st"
  by_cases hd : ∃ xs, x = .tup xs
  · obtain ⟨xs, rfl⟩ := hd
    repeat walk_at "st"
    split
    · rename_i h1
      have h1 : (xs.length : Int) ≤ 27 := of_decide_eq_true h1
      repeat walk_at "st"
      refine x_all1 isWD (fun x hm Q q => ?_) hx.1 ?_
      · repeat walk_at "st"
        exact ru_is_word (hx.2 x hm) _ _ _ q
      · refine x_rt0 ?_
        have : lrowB (.tup xs) = xs.all isWD := by
          have : xs.length ≤ 27 := by omega
          simp [lrowB, this]
        rw [this] at q
        exact q
    · rename_i h1
      have h1 : ¬ (xs.length : Int) ≤ 27 := of_decide_eq_false (ff h1)
      refine x_rt0 ?_
      have : lrowB (.tup xs) = false := by
        have : ¬ xs.length ≤ 27 := by omega
        simp [lrowB, this]
      rw [this] at q
      exact q
  · have e : isTup x = false := by
      cases x with
      | tup w => exact absurd ⟨w, rfl⟩ hd
      | _ => rfl
    have e2 : lrowB x = false := by
      cases x with
      | tup w => exact absurd ⟨w, rfl⟩ hd
      | _ => rfl
    refine x_p1 (isi_tup (knP_kn hx)) ?_
    rw [e]
    rw [e2] at q
    repeat walk_at "st"
    exact q
def eventsB (x : D) : Bool := rowB 4 x && (vsOf x).all lrowB
def snapsB (x : D) : Bool := rowB 5 x && (vsOf x).all isWD
theorem ru_events {cs : List Addr} {x : D} (hx : KnE cs x) : Ru (m_are_events cs) [x] (.bl (eventsB x)) := by
  intro μ E Q q
  refine x_mdef rfl ?_
  iterate 6 walk_at "st"
  by_cases hd : ∃ kvs, x = .dic kvs
  · obtain ⟨kvs, rfl⟩ := hd
    repeat walk_at "st"
    refine ru_are_words (fun kv hm => (hx.2 kv hm).1) hx.1 _ _ _ ?_
    repeat walk_at "st"
    split
    · rename_i h1
      repeat walk_at "st"
      have : eventsB (.dic kvs) = false := by unfold eventsB; rw [show rowB 4 (.dic kvs) = false from nt h1]; rfl
      rw [← this]; exact q
    · rename_i h1
      repeat walk_at "st"
      refine x_all1 lrowB (fun x hm Q q => ?_) (by simpa using hx.1) ?_
      · repeat walk_at "st"
        obtain ⟨kv, h2, rfl⟩ := List.mem_map.mp hm
        exact ru_lrow (hx.2 kv h2).2 _ _ _ q
      · refine x_rt0 ?_
        have : eventsB (.dic kvs) = (kvs.map (·.2)).all lrowB := by unfold eventsB; rw [show rowB 4 (.dic kvs) = true from nf h1]; rfl
        rw [this] at q
        exact q
  · have e : isDic x = false := by
      cases x with
      | dic w => exact absurd ⟨w, rfl⟩ hd
      | _ => rfl
    have e2 : eventsB x = false := by
      cases x with
      | dic w => exact absurd ⟨w, rfl⟩ hd
      | _ => rfl
    refine x_p1 (isi_dict (knE_kn hx)) ?_
    rw [e]
    rw [e2] at q
    repeat walk_at "st"
    exact q
theorem ru_snaps {cs : List Addr} {x : D} (hx : KnR cs x) : Ru (m_are_snapshots cs) [x] (.bl (snapsB x)) := by
  intro μ E Q q
  refine x_mdef rfl ?_
  iterate 6 walk_at "st"
  by_cases hd : ∃ kvs, x = .dic kvs
  · obtain ⟨kvs, rfl⟩ := hd
    repeat walk_at "st"
    refine ru_are_words (fun kv hm => (hx.2 kv hm).1) hx.1 _ _ _ ?_
    repeat walk_at "st"
    split
    · rename_i h1
      repeat walk_at "st"
      have : snapsB (.dic kvs) = false := by unfold snapsB; rw [show rowB 5 (.dic kvs) = false from nt h1]; rfl
      rw [← this]; exact q
    · rename_i h1
      repeat walk_at "st"
      refine x_all1 isWD (fun x hm Q q => ?_) (by simpa using hx.1) ?_
      · repeat walk_at "st"
        obtain ⟨kv, h2, rfl⟩ := List.mem_map.mp hm
        exact ru_is_word (hx.2 kv h2).2 _ _ _ q
      · refine x_rt0 ?_
        have : snapsB (.dic kvs) = (kvs.map (·.2)).all isWD := by unfold snapsB; rw [show rowB 5 (.dic kvs) = true from nf h1]; rfl
        rw [this] at q
        exact q
  · have e : isDic x = false := by
      cases x with
      | dic w => exact absurd ⟨w, rfl⟩ hd
      | _ => rfl
    have e2 : snapsB x = false := by
      cases x with
      | dic w => exact absurd ⟨w, rfl⟩ hd
      | _ => rfl
    refine x_p1 (isi_dict (knR_kn hx)) ?_
    rw [e]
    rw [e2] at q
    repeat walk_at "st"
    exact q
def liB (ev sn : D) : Bool := eventsB ev && snapsB sn
abbrev liO (CL : Addr) (ev sn : List (Str × D)) : D := .obj CL [("own_events", dT ev), ("own_snapshots", dT sn)]
theorem mk_li {cs : List Addr} {xNL CL : Addr} {ev sn : D} {ce : List Ce} {T : Nat} {E : XC} {Q : RK} (h1 : KnE cs ev) (h2 : KnR cs sn)
    (bad : liB ev sn = false → E ⟨xNL, []⟩ ⟨ce, T⟩)
    (good : liB ev sn = true → ((unT ev).map (·.1)).Nodup ∧ ((unT sn).map (·.1)).Nodup ∧ Q (.d (liO CL (srtK (unT ev)) (srtK (unT sn)))) ⟨ce, T⟩) :
    mkIn CL (m_Lift___init cs xNL CL) [.d ev, .d sn] ⟨ce, T⟩ E Q := by
  unfold mkIn
  refine x_mdefK rfl ?_
  repeat walk_at "st"
  refine ru_events h1 _ _ _ ?_
  repeat walk_at "st"
  split
  · rename_i c1
    repeat walk_at "st"
    exact bad (by unfold liB; rw [nt c1]; simp)
  · rename_i c1
    have c1 := nf c1
    repeat walk_at "st"
    refine ru_snaps h2 _ _ _ ?_
    repeat walk_at "st"
    split
    · rename_i c2
      repeat walk_at "st"
      exact bad (by unfold liB; rw [nt c2]; simp)
    · rename_i c2
      have c2 := nf c2
      obtain ⟨n1, n2, q⟩ := good (by unfold liB; rw [c1, c2]; rfl)
      unfold eventsB at c1
      unfold snapsB at c2
      simp only [Bool.and_eq_true] at c1 c2
      obtain ⟨e, rfl, e1, e2, ew⟩ := typed_of c1.1
      obtain ⟨t, rfl, t1, t2, tw⟩ := typed_of c2.1
      rw [unT_dT] at n1 n2 q
      rw [unT_dT] at q
      repeat walk_at "st"
      refine x_p1 (sortD_typed (by omega)) ?_
      repeat walk_at "st"
      rw [List.map_map]
      refine dc_map D.str (fun k => k) (fun k => (lk e k).getD .non) (fun k hk Q q => ?_) (fun k hk Q q => ?_) (by simpa using srt_nodup n1) (by rw [srt_len]; simp; rw [sizeLine_eq]; omega) ?_
      · repeat walk_at "st"
        exact q
      · obtain ⟨y, hy, my⟩ := lk_some (srt_mem.mp hk)
        repeat walk_at "st"
        refine x_p2 (dget_typed hy) ?_
        rw [hy] at q
        exact q
      · repeat walk_at "st"
        refine x_fput (by decide) ?_
        repeat walk_at "st"
        refine x_p1 (sortD_typed (by omega)) ?_
        repeat walk_at "st"
        rw [List.map_map]
        refine dc_map D.str (fun k => k) (fun k => (lk t k).getD .non) (fun k hk Q q => ?_) (fun k hk Q q => ?_) (by simpa using srt_nodup n2) (by rw [srt_len]; simp; rw [sizeLine_eq]; omega) ?_
        · repeat walk_at "st"
          exact q
        · obtain ⟨y, hy, my⟩ := lk_some (srt_mem.mp hk)
          repeat walk_at "st"
          refine x_p2 (dget_typed hy) ?_
          rw [hy] at q
          exact q
        · repeat walk_at "st"
          refine x_fput (putR1 _ _) ?_
          repeat walk_at "st"
          exact x_mkQ rfl q
end Eg
namespace Eg
open Evl (Ex)
open PySem PySem.Spec PyProof.Rows L2 Sn LamX
local macro_rules | `(tactic| walk_at "st") => `(tactic| first
  | with_reducible refine x_nx ?_ | with_reducible refine x_nxl ?_ | with_reducible refine x_rtn ?_ | with_reducible refine x_rtl ?_ | with_reducible refine x_exn ?_ | with_reducible refine x_exl ?_ | with_reducible refine x_rt0 ?_ | with_reducible refine x_nx0 ?_ | with_reducible refine x_ex0 ?_ | with_reducible refine x_rtK ?_ | with_reducible refine x_nxK ?_ | with_reducible refine x_exK ?_ | with_reducible refine x_seq ?_ | with_reducible refine x_set ?_ | with_reducible refine x_ret ?_ | with_reducible refine x_exp ?_ | with_reducible refine x_if ?_ | with_reducible refine x_nil ?_ | with_reducible refine x_raise ?_ | with_reducible refine x_asgT ?_ | with_reducible refine x_for ?_ | with_reducible refine x_c ?_ | with_reducible refine x_and ?_ | with_reducible refine x_or ?_ | with_reducible refine x_not ?_ | with_reducible refine x_cond ?_ | with_reducible refine x_isB ?_ | with_reducible refine x_anil ?_ | with_reducible refine x_acons ?_ | with_reducible refine x_call ?_ | with_reducible refine x_meth ?_ | with_reducible refine x_prp ?_ | with_reducible refine x_fld ?_ | with_reducible refine x_pur1 ?_ | with_reducible refine x_pur2 ?_ | with_reducible refine x_tup ?_ | with_reducible refine x_lst ?_ | with_reducible refine x_lc ?_ | with_reducible refine x_lc2 ?_ | with_reducible refine x_dc ?_ | with_reducible refine x_seqI ?_ | with_reducible refine x_val ?_ | with_reducible refine x_rg1 ?_ | with_reducible refine x_chn ?_ | with_reducible refine x_mk ?_ | with_reducible refine x_fldS ?_ | with_reducible refine x_mkX ?_ | with_reducible refine x_isI ?_ | with_reducible refine x_inO ?_ | with_reducible refine x_neO ?_ | with_reducible refine x_lstC ?_ | with_reducible refine x_app ?_ | with_reducible refine x_join ?_ | with_reducible refine x_sl ?_ | with_reducible refine x_putD ?_ | with_reducible refine x_dnC ?_ | with_reducible refine x_dict ?_ | with_reducible refine x_dic ?_
  | ((with_reducible apply x_var); rfl) | ((with_reducible apply x_fld1); rfl) | ((with_reducible apply x_isO); rfl) | ((with_reducible apply x_gall); rfl) | ((with_reducible apply x_it); rfl) | ((with_reducible apply x_und2); (simp only [unD, Option.map_some]; rfl); (rw [sizeLine_eq]; exact Nat.le_of_ble_eq_true rfl)) | ((with_reducible apply x_und); rfl) | refine x_ift ?_ | refine x_iff ?_
  | ((with_reducible apply x_isi); rfl; decide; decide) | ((with_reducible apply x_isi'); rfl; decide; decide) | ((with_reducible apply x_p1); rfl) | ((with_reducible apply x_p2); rfl))

/-! ### an edition's looks -/
abbrev edG (CE : Addr) (st : List (Str × D)) (te s0 : D) : D := .obj CE [("own_steps", dT st), ("own_tells", te), ("own_start", s0)]
theorem tup_typed (l : List (Str × D)) : tupD (dT l) = some (.tup ((l.map (·.1)).map D.str)) := by
  show some (D.tup ((l.map fun p => ((Sum.inr p.1 : Key), p.2)).map fun kv => kD' kv.1)) = _
  rw [List.map_map, List.map_map]; rfl
theorem flat_strs (a : List Str) : (a.map D.str).all flatD = true := by
  rw [List.all_map, List.all_eq_true]; exact fun _ _ => rfl
theorem any_strs (a : List Str) (w : Str) : ((a.map D.str).any fun y => eqF y (.str w)) = decide (w ∈ a) := by
  rw [List.any_map, Bool.eq_iff_iff]
  simp only [List.any_eq_true, Function.comp, eqF, beq_iff_eq, decide_eq_true_eq]
  exact ⟨fun ⟨x, hx, e⟩ => e ▸ hx, fun h => ⟨w, h, rfl⟩⟩
theorem in_strsT {n : Bool} {a : List Str} {w : Str} : inD n (.str w) (.tup (a.map D.str)) = some (.bl (n ^^ decide (w ∈ a))) := by
  show (if flatD (.str w) = true ∧ (a.map D.str).all flatD = true then some (D.bl (n ^^ (a.map D.str).any fun y => eqF y (.str w))) else none) = _
  rw [if_pos ⟨rfl, flat_strs a⟩, any_strs]
theorem in_strsL {n : Bool} {a : List Str} {w : Str} : inD n (.str w) (.lst (a.map D.str)) = some (.bl (n ^^ decide (w ∈ a))) := by
  show (if flatD (.str w) = true ∧ (a.map D.str).all flatD = true then some (D.bl (n ^^ (a.map D.str).any fun y => eqF y (.str w))) else none) = _
  rw [if_pos ⟨rfl, flat_strs a⟩, any_strs]
theorem in_typed {n : Bool} {l : List (Str × D)} {w : Str} : inD n (.str w) (dT l) = some (.bl (n ^^ decide (w ∈ l.map (·.1)))) := by
  show some (D.bl (n ^^ (valD (l.map fun p => ((Sum.inr p.1 : Key), p.2)) (Sum.inr w)).isSome)) = _
  rw [valD_typed]
  show some (D.bl (n ^^ (lk l w).isSome)) = _
  rw [lk_isSome]
theorem ks_typed (l : List (Str × D)) : (l.map fun p => ((Sum.inr p.1 : Key), p.2)).map (fun kv => kD' kv.1) = (l.map (·.1)).map D.str := by rw [List.map_map, List.map_map]; rfl
theorem vs_typed (l : List (Str × D)) : (l.map fun p => ((Sum.inr p.1 : Key), p.2)).map (·.2) = l.map (·.2) := by rw [List.map_map]; rfl
theorem ru_kinds {CE : Addr} {st row : List (Str × D)} {te : D} {s : Str} (h : lk st s = some (dT row)) : Ru (m_Edition_kinds CE) [edG CE st te (.str s)] (.tup ((row.map (·.1)).map D.str)) := by
  intro μ E Q q
  refine x_mdef rfl ?_
  repeat walk_at "st"
  refine x_p2 (dget_typed h) ?_
  refine x_p1 (tup_typed row) ?_
  exact x_rt0 q
theorem ru_states {CE : Addr} {st : List (Str × D)} {te s0 : D} : Ru (m_Edition_states CE) [edG CE st te s0] (.tup ((st.map (·.1)).map D.str)) := by
  intro μ E Q q
  refine x_mdef rfl ?_
  repeat walk_at "st"
  have e : (st.map fun p => ((Sum.inr p.1 : Key), p.2)).map (fun kv => kD' kv.1) = (st.map (·.1)).map D.str := by rw [List.map_map, List.map_map]; rfl
  rw [← e] at q
  exact q
theorem ru_contains {cs : List Addr} {CE : Addr} {st row : List (Str × D)} {te : D} {s w : Str} (h : lk st s = some (dT row)) : Ru (m_Edition___contains cs CE) [edG CE st te (.str s), .str w] (.bl (decide (w ∈ row.map (·.1)))) := by
  intro μ E Q q
  refine x_mdef rfl ?_
  repeat walk_at "st"
  refine x_p2 (dget_typed h) ?_
  refine x_p2 in_typed ?_
  rw [Bool.false_xor]
  exact x_rt0 q
theorem ru_need {cs : List Addr} {CE xNE : Addr} {fs : List (Str × D)} (hc : CE ∈ cs) : Ru (m_need_edition cs CE xNE) [.obj CE fs] .non := by
  intro μ E Q q
  refine x_mdef rfl ?_
  repeat walk_at "st"
  refine x_p1 (isc_o (b := true) hc hc (by simp)) ?_
  repeat walk_at "st"
  exact q
/-- no edition -/
def NoEd (cs : List Addr) (CE : Addr) (x : D) : Prop := (∃ a, tyN x = some a) ∨ ∃ C fs, x = .obj C fs ∧ C ∈ cs ∧ C ≠ CE
theorem rx_need {cs : List Addr} {CE xNE : Addr} {x : D} (hc : CE ∈ cs) (h : NoEd cs CE x) : Rx (m_need_edition cs CE xNE) [x] xNE [] := by
  intro μ E Q q
  refine x_mdef rfl ?_
  repeat walk_at "st"
  have e : isiC cs CE x = some (.bl false) := by
    rcases h with ⟨a, e⟩ | ⟨C, fs, rfl, h1, h2⟩
    · exact isc_v e hc
    · exact isc_o h1 hc (by simp [h2])
  refine x_p1 e ?_
  repeat walk_at "st"
  exact q
/-! ### fits -/
def evD (evs : List (Str × List Str)) : List (Str × D) := evs.map fun p => (p.1, .tup (p.2.map D.str))
def snD (sns : List (Str × Str)) : List (Str × D) := sns.map fun p => (p.1, .str p.2)
def fitB (evs : List (Str × List Str)) (sns : List (Str × Str)) (k1 s1 k2 s2 : List Str) : Bool :=
  decide (evs.map (·.1) = k1) && decide (sns.map (·.1) = s1) && (evs.all fun p => p.2.all fun w => decide (w ∈ k2)) && sns.all fun p => decide (p.2 ∈ s2)
theorem evD_fst (evs : List (Str × List Str)) : (evD evs).map (·.1) = evs.map (·.1) := by unfold evD; rw [List.map_map]; rfl
theorem snD_fst (sns : List (Str × Str)) : (snD sns).map (·.1) = sns.map (·.1) := by unfold snD; rw [List.map_map]; rfl
theorem ru_fits {cs : List Addr} {CE CL xNE : Addr} {evs : List (Str × List Str)} {sns : List (Str × Str)} {st1 row1 st2 row2 : List (Str × D)} {te1 te2 : D} {s1 s2 : Str} (hc : CE ∈ cs) (h1 : lk st1 s1 = some (dT row1)) (h2 : lk st2 s2 = some (dT row2))
    (w1 : ∀ p ∈ evs, isW p.1 = true) (w2 : ∀ p ∈ sns, isW p.1 = true) (w3 : ∀ p ∈ row1, isW p.1 = true) (w4 : ∀ p ∈ st1, isW p.1 = true) (z1 : evs.length ≤ 4) (z2 : sns.length ≤ 5) (z3 : ∀ p ∈ evs, p.2.length ≤ 27) :
    Ru (m_Lift_fits cs CE xNE CL) [liO CL (evD evs) (snD sns), edG CE st1 te1 (.str s1), edG CE st2 te2 (.str s2)] (.bl (fitB evs sns (row1.map (·.1)) (st1.map (·.1)) (row2.map (·.1)) (st2.map (·.1)))) := by
  intro μ E Q q
  refine x_mdef rfl ?_
  repeat walk_at "st"
  refine ru_need hc _ _ _ ?_
  repeat walk_at "st"
  refine ru_need hc _ _ _ ?_
  repeat walk_at "st"
  refine ru_kinds h1 _ _ _ ?_
  rw [ks_typed, evD_fst]
  have a1 : ∀ w ∈ evs.map (·.1), PyData.strOk w = true := fun w hw => by obtain ⟨p, hp, rfl⟩ := List.mem_map.mp hw; exact isW_ok (w1 p hp)
  have a2 : ∀ w ∈ sns.map (·.1), PyData.strOk w = true := fun w hw => by obtain ⟨p, hp, rfl⟩ := List.mem_map.mp hw; exact isW_ok (w2 p hp)
  have a3 : ∀ w ∈ row1.map (·.1), PyData.strOk w = true := fun w hw => by obtain ⟨p, hp, rfl⟩ := List.mem_map.mp hw; exact isW_ok (w3 p hp)
  have a4 : ∀ w ∈ st1.map (·.1), PyData.strOk w = true := fun w hw => by obtain ⟨p, hp, rfl⟩ := List.mem_map.mp hw; exact isW_ok (w4 p hp)
  refine x_p2 (ne_strsT a1 a3) ?_
  repeat walk_at "st"
  split
  · rename_i c1
    repeat walk_at "st"
    have : fitB evs sns (row1.map (·.1)) (st1.map (·.1)) (row2.map (·.1)) (st2.map (·.1)) = false := by unfold fitB; rw [nt c1]; simp
    rw [this] at q
    exact q
  · rename_i c1
    have c1 := nf c1
    repeat walk_at "st"
    refine ru_states _ _ _ ?_
    rw [ks_typed, snD_fst]
    refine x_p2 (ne_strsT a2 a4) ?_
    repeat walk_at "st"
    split
    · rename_i c2
      repeat walk_at "st"
      have : fitB evs sns (row1.map (·.1)) (st1.map (·.1)) (row2.map (·.1)) (st2.map (·.1)) = false := by unfold fitB; rw [nt c2]; simp
      rw [this] at q
      exact q
    · rename_i c2
      have c2 := nf c2
      repeat walk_at "st"
      show lc2Go _ _ _ _ _ _ _ _ _ ((((evD evs).map fun p => ((Sum.inr p.1 : Key), p.2)).map (·.2)).map R.d) _ _
      rw [vs_typed, show (evD evs).map (·.2) = evs.map (fun p => D.tup (p.2.map D.str)) from by unfold evD; rw [List.map_map]; rfl, List.map_map]
      refine lc2_all (fun p : Str × List Str => D.tup (p.2.map D.str)) (fun p => p.2) D.str (fun w => decide (w ∈ row2.map (·.1))) (fun p hp Q' q => ?_) (fun p hp w hw Q q => ?_) ?_ ?_
      · repeat walk_at "st"
        rw [List.map_map]
        exact q
      · repeat walk_at "st"
        refine ru_contains h2 _ _ _ ?_
        repeat walk_at "st"
        rw [Bool.false_xor]
        exact q
      · refine Nat.le_trans (sum_le (fun p : Str × List Str => p.2.length) 27 _ z3) ?_
        rw [sizeLine_eq]; omega
      · repeat walk_at "st"
        split
        · rename_i c3
          repeat walk_at "st"
          have : fitB evs sns (row1.map (·.1)) (st1.map (·.1)) (row2.map (·.1)) (st2.map (·.1)) = false := by unfold fitB; rw [nt c3]; simp
          rw [this] at q
          exact q
        · rename_i c3
          have c3 := nf c3
          repeat walk_at "st"
          show lcGo _ _ _ _ _ ((((snD sns).map fun p => ((Sum.inr p.1 : Key), p.2)).map (·.2)).map R.d) _ _
          rw [vs_typed, show (snD sns).map (·.2) = sns.map (fun p => D.str p.2) from by unfold snD; rw [List.map_map]; rfl, List.map_map]
          refine lc_all (fun p : Str × Str => D.str p.2) (fun p => decide (p.2 ∈ st2.map (·.1))) (fun p hp Q q => ?_) (by rw [sizeLine_eq]; omega) ?_
          · repeat walk_at "st"
            refine ru_states _ _ _ ?_
            refine x_p2 in_strsT ?_
            rw [Bool.false_xor]
            exact q
          · refine x_rt0 ?_
            have : fitB evs sns (row1.map (·.1)) (st1.map (·.1)) (row2.map (·.1)) (st2.map (·.1)) = sns.all fun p => decide (p.2 ∈ st2.map (·.1)) := by unfold fitB; rw [c1, c2, c3]; rfl
            rw [this] at q
            exact q
theorem rx_fits1 {cs : List Addr} {CE CL xNE : Addr} {l x y : D} (hc : CE ∈ cs) (h : NoEd cs CE x) : Rx (m_Lift_fits cs CE xNE CL) [l, x, y] xNE [] := by
  intro μ E Q q
  refine x_mdef rfl ?_
  repeat walk_at "st"
  refine rx_need hc h _ _ _ ?_
  repeat walk_at "st"
  exact q
theorem rx_fits2 {cs : List Addr} {CE CL xNE : Addr} {l y : D} {fs : List (Str × D)} (hc : CE ∈ cs) (h : NoEd cs CE y) : Rx (m_Lift_fits cs CE xNE CL) [l, .obj CE fs, y] xNE [] := by
  intro μ E Q q
  refine x_mdef rfl ?_
  repeat walk_at "st"
  refine ru_need hc _ _ _ ?_
  repeat walk_at "st"
  refine rx_need hc h _ _ _ ?_
  repeat walk_at "st"
  exact q
end Eg
namespace Eg
open Evl (Ex)
open PySem PySem.Spec PyProof.Rows L2 Sn LamX
local macro_rules | `(tactic| walk_at "st") => `(tactic| first
  | with_reducible refine x_nx ?_ | with_reducible refine x_nxl ?_ | with_reducible refine x_rtn ?_ | with_reducible refine x_rtl ?_ | with_reducible refine x_exn ?_ | with_reducible refine x_exl ?_ | with_reducible refine x_rt0 ?_ | with_reducible refine x_nx0 ?_ | with_reducible refine x_ex0 ?_ | with_reducible refine x_rtK ?_ | with_reducible refine x_nxK ?_ | with_reducible refine x_exK ?_ | with_reducible refine x_seq ?_ | with_reducible refine x_set ?_ | with_reducible refine x_ret ?_ | with_reducible refine x_exp ?_ | with_reducible refine x_if ?_ | with_reducible refine x_nil ?_ | with_reducible refine x_raise ?_ | with_reducible refine x_asgT ?_ | with_reducible refine x_for ?_ | with_reducible refine x_c ?_ | with_reducible refine x_and ?_ | with_reducible refine x_or ?_ | with_reducible refine x_not ?_ | with_reducible refine x_cond ?_ | with_reducible refine x_isB ?_ | with_reducible refine x_anil ?_ | with_reducible refine x_acons ?_ | with_reducible refine x_call ?_ | with_reducible refine x_meth ?_ | with_reducible refine x_prp ?_ | with_reducible refine x_fld ?_ | with_reducible refine x_pur1 ?_ | with_reducible refine x_pur2 ?_ | with_reducible refine x_tup ?_ | with_reducible refine x_lst ?_ | with_reducible refine x_lc ?_ | with_reducible refine x_lc2 ?_ | with_reducible refine x_dc ?_ | with_reducible refine x_seqI ?_ | with_reducible refine x_val ?_ | with_reducible refine x_rg1 ?_ | with_reducible refine x_chn ?_ | with_reducible refine x_mk ?_ | with_reducible refine x_fldS ?_ | with_reducible refine x_mkX ?_ | with_reducible refine x_isI ?_ | with_reducible refine x_inO ?_ | with_reducible refine x_neO ?_ | with_reducible refine x_lstC ?_ | with_reducible refine x_app ?_ | with_reducible refine x_join ?_ | with_reducible refine x_sl ?_ | with_reducible refine x_putD ?_ | with_reducible refine x_dnC ?_ | with_reducible refine x_dict ?_ | with_reducible refine x_dic ?_
  | ((with_reducible apply x_var); rfl) | ((with_reducible apply x_fld1); rfl) | ((with_reducible apply x_isO); rfl) | ((with_reducible apply x_gall); rfl) | ((with_reducible apply x_it); rfl) | ((with_reducible apply x_und2); (simp only [unD, Option.map_some]; rfl); (rw [sizeLine_eq]; exact Nat.le_of_ble_eq_true rfl)) | ((with_reducible apply x_und); rfl) | refine x_ift ?_ | refine x_iff ?_
  | ((with_reducible apply x_isi); rfl; decide; decide) | ((with_reducible apply x_isi'); rfl; decide; decide) | ((with_reducible apply x_p1); rfl) | ((with_reducible apply x_p2); rfl))

/-! ### a thing is equal to itself -/
def Cm : Nat → D → Prop
  | 0, _ => False
  | _ + 1, .non => True
  | _ + 1, .bl _ => True
  | _ + 1, .int _ => True
  | _ + 1, .str _ => True
  | n + 1, .tup xs => ∀ x ∈ xs, Cm n x
  | n + 1, .lst xs => ∀ x ∈ xs, Cm n x
  | n + 1, .dic kvs => (kvs.map (·.1)).Nodup ∧ ∀ kv ∈ kvs, Cm n kv.2
  | _ + 1, _ => False
theorem eqL_self {f : D → D → Option Bool} : ∀ xs : List D, (∀ x ∈ xs, f x x = some true) → eqL f xs xs = some true
  | [], _ => rfl
  | x :: xs, h => by simp only [eqL, h x (.head _), eqL_self xs fun y hy => h y (.tail _ hy)]; rfl
theorem eqK_self {f : D → D → Option Bool} (ls : List (Key × D)) (hn : (ls.map (·.1)).Nodup) (h : ∀ kv ∈ ls, f kv.2 kv.2 = some true) : ∀ ks : List (Key × D), (∀ kv ∈ ks, kv ∈ ls) → eqK f ls ks = some true
  | [], _ => rfl
  | (k, x) :: r, hs => by
    simp only [eqK]
    rw [val_self hn (hs _ (.head _))]
    simp only [h _ (hs _ (.head _)), eqK_self ls hn h r fun kv hk => hs kv (.tail _ hk)]
    rfl
theorem eqT_self : ∀ (n : Nat) (x : D), Cm n x → eqT n x x = some true
  | 0, _, h => h.elim
  | n + 1, .non, _ => rfl
  | n + 1, .bl b, _ => by simp [eqT]
  | n + 1, .int b, _ => by simp [eqT]
  | n + 1, .str b, _ => by simp [eqT]
  | n + 1, .tup xs, h => by simp only [eqT]; exact eqL_self xs fun x hx => eqT_self n x (h x hx)
  | n + 1, .lst xs, h => by simp only [eqT]; exact eqL_self xs fun x hx => eqT_self n x (h x hx)
  | n + 1, .dic kvs, h => by
    simp only [eqT]
    rw [if_pos h.1, if_pos trivial]
    exact eqK_self kvs h.1 (fun kv hk => eqT_self n kv.2 (h.2 kv hk)) kvs fun _ z => z
theorem cm_dT {n : Nat} {l : List (Str × D)} (hn : (l.map (·.1)).Nodup) (h : ∀ p ∈ l, Cm n p.2) : Cm (n + 1) (dT l) := by
  refine ⟨?_, fun kv hk => ?_⟩
  · rw [List.map_map, show ((fun x : Key × D => x.1) ∘ fun p : Str × D => ((Sum.inr p.1 : Key), p.2)) = (fun s : Str => (Sum.inr s : Key)) ∘ fun p : Str × D => p.1 from rfl, ← List.map_map]
    exact List.Pairwise.map _ (fun a b hab z => hab (by injection z)) hn
  · obtain ⟨p, hp, rfl⟩ := List.mem_map.mp hk
    exact h p hp
theorem cm_evD {n : Nat} {evs : List (Str × List Str)} (hn : (evs.map (·.1)).Nodup) : Cm (n + 3) (dT (evD evs)) := cm_dT (by rw [evD_fst]; exact hn) fun p hp => by
  obtain ⟨q, hq, rfl⟩ := List.mem_map.mp hp
  intro x hx
  obtain ⟨w, hw, rfl⟩ := List.mem_map.mp hx
  exact trivial
theorem cm_snD {n : Nat} {sns : List (Str × Str)} (hn : (sns.map (·.1)).Nodup) : Cm (n + 2) (dT (snD sns)) := cm_dT (by rw [snD_fst]; exact hn) fun p hp => by
  obtain ⟨q, hq, rfl⟩ := List.mem_map.mp hp
  exact trivial
theorem ru_liEq {cs : List Addr} {CL : Addr} {evs : List (Str × List Str)} {sns : List (Str × Str)} (hc : CL ∈ cs) (h1 : (evs.map (·.1)).Nodup) (h2 : (sns.map (·.1)).Nodup) : Ru (m_Lift___eq cs CL) [liO CL (evD evs) (snD sns), liO CL (evD evs) (snD sns)] (.bl true) := by
  intro μ E Q q
  refine x_mdef rfl ?_
  repeat walk_at "st"
  refine x_p1 (isc_o (b := true) hc hc (by simp)) ?_
  repeat walk_at "st"
  refine x_p2 (z := .bl true) ?_ (x_rt0 q)
  unfold eqTD
  have c : Cm 12 (.tup [dT (evD evs), dT (snD sns)]) := fun x hx => by
    rcases List.mem_cons.mp hx with rfl | hx
    · exact cm_evD (n := 8) h1
    · rw [List.mem_singleton.mp hx]
      exact cm_snD (n := 9) h2
  rw [if_pos (by rfl), eqT_self 12 _ c]
  rfl
end Eg
namespace Eg
open Evl (Ex)
open PySem PySem.Spec PyProof.Rows L2 Sn LamX
local macro_rules | `(tactic| walk_at "st") => `(tactic| first
  | with_reducible refine x_nx ?_ | with_reducible refine x_nxl ?_ | with_reducible refine x_rtn ?_ | with_reducible refine x_rtl ?_ | with_reducible refine x_exn ?_ | with_reducible refine x_exl ?_ | with_reducible refine x_rt0 ?_ | with_reducible refine x_nx0 ?_ | with_reducible refine x_ex0 ?_ | with_reducible refine x_rtK ?_ | with_reducible refine x_nxK ?_ | with_reducible refine x_exK ?_ | with_reducible refine x_seq ?_ | with_reducible refine x_set ?_ | with_reducible refine x_ret ?_ | with_reducible refine x_exp ?_ | with_reducible refine x_if ?_ | with_reducible refine x_nil ?_ | with_reducible refine x_raise ?_ | with_reducible refine x_asgT ?_ | with_reducible refine x_for ?_ | with_reducible refine x_c ?_ | with_reducible refine x_and ?_ | with_reducible refine x_or ?_ | with_reducible refine x_not ?_ | with_reducible refine x_cond ?_ | with_reducible refine x_isB ?_ | with_reducible refine x_anil ?_ | with_reducible refine x_acons ?_ | with_reducible refine x_call ?_ | with_reducible refine x_meth ?_ | with_reducible refine x_prp ?_ | with_reducible refine x_fld ?_ | with_reducible refine x_pur1 ?_ | with_reducible refine x_pur2 ?_ | with_reducible refine x_tup ?_ | with_reducible refine x_lst ?_ | with_reducible refine x_lc ?_ | with_reducible refine x_lc2 ?_ | with_reducible refine x_dc ?_ | with_reducible refine x_seqI ?_ | with_reducible refine x_val ?_ | with_reducible refine x_rg1 ?_ | with_reducible refine x_chn ?_ | with_reducible refine x_mk ?_ | with_reducible refine x_fldS ?_ | with_reducible refine x_mkX ?_ | with_reducible refine x_isI ?_ | with_reducible refine x_inO ?_ | with_reducible refine x_neO ?_ | with_reducible refine x_lstC ?_ | with_reducible refine x_app ?_ | with_reducible refine x_join ?_ | with_reducible refine x_sl ?_ | with_reducible refine x_putD ?_ | with_reducible refine x_dnC ?_ | with_reducible refine x_dict ?_ | with_reducible refine x_dic ?_
  | ((with_reducible apply x_var); rfl) | ((with_reducible apply x_fld1); rfl) | ((with_reducible apply x_isO); rfl) | ((with_reducible apply x_gall); rfl) | ((with_reducible apply x_it); rfl) | ((with_reducible apply x_und2); (simp only [unD, Option.map_some]; rfl); (rw [sizeLine_eq]; exact Nat.le_of_ble_eq_true rfl)) | ((with_reducible apply x_und); rfl) | refine x_ift ?_ | refine x_iff ?_
  | ((with_reducible apply x_isi); rfl; decide; decide) | ((with_reducible apply x_isi'); rfl; decide; decide) | ((with_reducible apply x_p1); rfl) | ((with_reducible apply x_p2); rfl))

/-! ### the laws' own defs that draw -/
/-- a drawn answer: some x with p x, at most c draws -/
def Dw (m : FM) (rs : List R) (c : Nat) (p : D → Prop) : Prop := ∀ (cs : List Ce) (T : Nat) (E : XC) (Q : RK), T + c ≤ 100000000 → (∀ x T', p x → T ≤ T' → T' ≤ T + c → Q (.d x) ⟨cs, T'⟩) → m rs ⟨cs, T⟩ E Q
theorem dw_draw {n : Int} (h0 : 0 < n) (h1 : n ≤ 1000000) : Dw m_draw [.src, .d (.int n)] 1 (fun x => ∃ r : Int, x = .int r ∧ 0 ≤ r ∧ r < n) := fun cs T E Q hT q => x_draw h0 h1 (by omega) fun r r0 r1 => q _ _ ⟨r, rfl, r0, r1⟩ (by omega) (Nat.le_refl _)
theorem dw_pick {xs : List D} (h0 : xs ≠ []) (h1 : xs.length ≤ 1000000) : Dw m_l_pick [.src, .d (.lst xs)] 1 (fun x => x ∈ xs) := by
  intro cs T E Q hT q
  have hl : 0 < xs.length := List.length_pos_iff.mpr h0
  refine x_mdef rfl ?_
  repeat walk_at "st"
  refine x_draw (by omega) (by omega) (by omega) fun r r0 r1 => ?_
  obtain ⟨x, e, hx⟩ := atI_get r0 r1
  refine x_p2 e ?_
  exact x_rtE List.prefix_rfl (q x _ hx (by simp) (by simp))
theorem dw_letter : Dw m_l_pick [.src, .d (.str "abcdefghijklmnopqrstuvwxyz")] 1 (fun x => ∃ ch ∈ lowS, x = .str ⟨#[ch]⟩) := by
  intro cs T E Q hT q
  refine x_mdef rfl ?_
  repeat walk_at "st"
  have hz : ("abcdefghijklmnopqrstuvwxyz" : Str).length = 26 := by decide +kernel
  have hs : ("abcdefghijklmnopqrstuvwxyz" : Str).length ≤ sizeLine := by rw [hz, sizeLine_eq]; decide
  rw [hz]
  refine x_draw (by decide) (by decide) (by omega) fun r r0 r1 => ?_
  obtain ⟨ch, e, hx⟩ := atI_get (xs := lowS) r0 (by rw [show lowS.length = 26 from by decide +kernel]; exact r1)
  refine x_p2 (z := .str ⟨#[ch]⟩) ?_ ?_
  · show (if ("abcdefghijklmnopqrstuvwxyz" : Str).length ≤ sizeLine then (atI lowS r).map (fun c => D.str ⟨#[c]⟩) else none) = _
    rw [if_pos hs, e]; rfl
  · exact x_rtE List.prefix_rfl (q _ _ ⟨ch, hx, rfl⟩ (by simp) (by simp))
/-- a row of drawn things of a row -/
theorem dw_row {ks : List D} {n : Int} (h0 : ks ≠ []) (h1 : ks.length ≤ 1000000) (n0 : 0 ≤ n) (n1 : n ≤ 1000) : Dw m_l_row [.src, .d (.lst ks), .d (.int n)] (n.toNat + 2) (fun x => ∃ ys, x = .tup ys ∧ (ys.length : Int) ≤ n ∧ ∀ y ∈ ys, y ∈ ks) := by
  intro cs T E Q hT q
  refine x_mdef rfl ?_
  repeat walk_at "st"
  refine x_draw (by omega) (by omega) (by omega) fun r r0 r1 => ?_
  refine ⟨by omega, by omega, ?_⟩
  refine lc_any (fun _ y => ∃ d, y = .d d ∧ d ∈ ks) 1 100000000 (fun x hx T hT => ⟨_, rfl, fun Q q => ?_⟩) (by simp; omega) (by simp; rw [sizeLine_eq]; omega) fun ys T' hp t1 t2 => ?_
  · obtain ⟨i, hi, rfl⟩ := List.mem_map.mp hx
    repeat walk_at "st"
    exact dw_pick h0 h1 _ _ _ _ hT fun x T' hx a b => q _ _ ⟨x, rfl, hx⟩ a b
  · obtain ⟨ds, e, hd⟩ : ∃ ds : List D, unD ys = some ds ∧ ds.length = ys.length ∧ ∀ y ∈ ds, y ∈ ks := by
      clear t1 t2 q
      have : ∀ {xs ys : List R}, Paired (fun (_ : R) y => ∃ d, y = .d d ∧ d ∈ ks) xs ys → ∃ ds : List D, unD ys = some ds ∧ ds.length = ys.length ∧ ∀ y ∈ ds, y ∈ ks := by
        intro xs ys hp
        induction hp with
        | nil => exact ⟨[], rfl, rfl, fun _ h => nomatch h⟩
        | cons h _ ih =>
          obtain ⟨d, rfl, hd⟩ := h
          obtain ⟨ds, e, l, hs⟩ := ih
          exact ⟨d :: ds, by simp only [unD, e]; rfl, by simp [l], fun y hy => (List.mem_cons.mp hy).elim (fun z => z ▸ hd) (hs y)⟩
      exact this hp
    have hl := Paired.length hp
    simp only [List.length_map, List.length_range] at hl t2
    show (unD ([] ++ ys)).elim False _
    rw [List.nil_append, e]
    repeat walk_at "st"
    exact x_rtE List.prefix_rfl (q _ _ ⟨ds, rfl, by omega, hd.2⟩ (by simp; omega) (by simp; omega))
end Eg
namespace Eg
open Evl (Ex)
open PySem PySem.Spec PyProof.Rows L2 Sn LamX
local macro_rules | `(tactic| walk_at "st") => `(tactic| first
  | with_reducible refine x_nx ?_ | with_reducible refine x_nxl ?_ | with_reducible refine x_rtn ?_ | with_reducible refine x_rtl ?_ | with_reducible refine x_exn ?_ | with_reducible refine x_exl ?_ | with_reducible refine x_rt0 ?_ | with_reducible refine x_nx0 ?_ | with_reducible refine x_ex0 ?_ | with_reducible refine x_rtK ?_ | with_reducible refine x_nxK ?_ | with_reducible refine x_exK ?_ | with_reducible refine x_seq ?_ | with_reducible refine x_set ?_ | with_reducible refine x_ret ?_ | with_reducible refine x_exp ?_ | with_reducible refine x_if ?_ | with_reducible refine x_nil ?_ | with_reducible refine x_raise ?_ | with_reducible refine x_asgT ?_ | with_reducible refine x_for ?_ | with_reducible refine x_c ?_ | with_reducible refine x_and ?_ | with_reducible refine x_or ?_ | with_reducible refine x_not ?_ | with_reducible refine x_cond ?_ | with_reducible refine x_isB ?_ | with_reducible refine x_anil ?_ | with_reducible refine x_acons ?_ | with_reducible refine x_call ?_ | with_reducible refine x_meth ?_ | with_reducible refine x_prp ?_ | with_reducible refine x_fld ?_ | with_reducible refine x_pur1 ?_ | with_reducible refine x_pur2 ?_ | with_reducible refine x_tup ?_ | with_reducible refine x_lst ?_ | with_reducible refine x_lc ?_ | with_reducible refine x_lc2 ?_ | with_reducible refine x_dc ?_ | with_reducible refine x_seqI ?_ | with_reducible refine x_val ?_ | with_reducible refine x_rg1 ?_ | with_reducible refine x_chn ?_ | with_reducible refine x_mk ?_ | with_reducible refine x_fldS ?_ | with_reducible refine x_mkX ?_ | with_reducible refine x_isI ?_ | with_reducible refine x_inO ?_ | with_reducible refine x_neO ?_ | with_reducible refine x_lstC ?_ | with_reducible refine x_app ?_ | with_reducible refine x_join ?_ | with_reducible refine x_sl ?_ | with_reducible refine x_putD ?_ | with_reducible refine x_dnC ?_ | with_reducible refine x_dict ?_ | with_reducible refine x_dic ?_
  | ((with_reducible apply x_var); rfl) | ((with_reducible apply x_fld1); rfl) | ((with_reducible apply x_isO); rfl) | ((with_reducible apply x_gall); rfl) | ((with_reducible apply x_it); rfl) | ((with_reducible apply x_und2); (simp only [unD, Option.map_some]; rfl); (rw [sizeLine_eq]; exact Nat.le_of_ble_eq_true rfl)) | ((with_reducible apply x_und); rfl) | refine x_ift ?_ | refine x_iff ?_
  | ((with_reducible apply x_isi); rfl; decide; decide) | ((with_reducible apply x_isi'); rfl; decide; decide) | ((with_reducible apply x_p1); rfl) | ((with_reducible apply x_p2); rfl))

/-! ### words that are drawn -/
def sevW : List Str := ["a", "b", "c", "ab", "event", "take", "raise", "old", "new", "state", "start", "snap", "step", "zzzzzz"]
theorem sevW_w : ∀ s ∈ sevW, isW s = true := by decide +kernel
theorem signs_join : ∀ l : List Nat, (Txt.join "" (l.map fun c => (⟨#[c]⟩ : Str))).cps.toList = l := by
  intro l
  show (Builtin.Str.glued "" (l.map fun c => (⟨#[c]⟩ : Str))).cps.toList = l
  rw [StrLaws.glued_eq_join]
  induction l with
  | nil => rfl
  | cons c r ih =>
    cases r with
    | nil => rfl
    | cons d r =>
      show ((⟨#[c]⟩ : Str) ++ ("" : Str) ++ Str.join "" ((⟨#[d]⟩ : Str) :: r.map fun c => (⟨#[c]⟩ : Str))).cps.toList = c :: d :: r
      have e : ∀ a b : Str, (a ++ b).cps.toList = a.cps.toList ++ b.cps.toList := fun a b => Array.toList_append
      rw [e, e]
      have ih' : (Str.join "" ((⟨#[d]⟩ : Str) :: r.map fun c => (⟨#[c]⟩ : Str))).cps.toList = d :: r := ih
      rw [ih']
      rfl
theorem isW_of {w : Str} {l : List Nat} (e : w.cps.toList = l) (h1 : 1 ≤ l.length) (h2 : l.length ≤ 6) (h3 : ∀ c ∈ l, c ∈ lowS) : isW w = true := by
  have : w.length = l.length := by rw [← str_size, e]
  unfold isW
  rw [this, e]
  simp only [Bool.and_eq_true, decide_eq_true_eq, List.all_eq_true]
  exact ⟨⟨h1, h2⟩, h3⟩
theorem isW_az {w : Str} (h : isW w = true) : ∀ c ∈ w.cps.toList, c ∈ lowS := by
  unfold isW at h
  simp only [Bool.and_eq_true, decide_eq_true_eq, List.all_eq_true] at h
  exact h.2
theorem take5 (z : Str) : (cutS z none (some 5)).cps.toList = z.cps.toList.take 5 := by
  have hz : z.length = z.cps.toList.length := by simp [Str.length]
  unfold cutS
  rw [HT.sIx_none, show HT.sIx z.length z.length (some 5) = min 5 z.length from HT.sIx_nat z.length z.length 5]
  show ((z.cps.toList.drop 0).take (min 5 z.length - 0)) = _
  rw [List.drop_zero, hz, Nat.sub_zero]
  by_cases h : z.cps.toList.length ≤ 5
  · rw [Nat.min_eq_right h, List.take_length, List.take_of_length_le h]
  · rw [Nat.min_eq_left (by omega)]
theorem isW_more {z : Str} {c : Nat} (h : isW z = true) (hc : c ∈ lowS) : isW (cutS z none (some 5) ++ ⟨#[c]⟩) = true := by
  have e : (cutS z none (some 5) ++ (⟨#[c]⟩ : Str)).cps.toList = z.cps.toList.take 5 ++ [c] := by
    rw [← take5]
    exact Array.toList_append
  refine isW_of e (by simp) (by rw [List.length_append, List.length_take]; show _ + 1 ≤ 6; omega) fun x hx => ?_
  rcases List.mem_append.mp hx with h' | h'
  · exact isW_az h x (List.mem_of_mem_take h')
  · rw [List.mem_singleton.mp h']; exact hc
theorem isW_one {c : Nat} (hc : c ∈ lowS) : isW ⟨#[c]⟩ = true := isW_of (l := [c]) rfl (Nat.le_refl 1) (by show 1 ≤ 6; decide) fun x hx => by rw [List.mem_singleton.mp hx]; exact hc
theorem letter_free {ws : List Str} (h : ws.length < 26) : ∃ c ∈ lowS, (⟨#[c]⟩ : Str) ∉ ws := by
  by_cases q : ∃ c ∈ lowS, (⟨#[c]⟩ : Str) ∉ ws
  · exact q
  · exfalso
    have all : ∀ c ∈ lowS, (⟨#[c]⟩ : Str) ∈ ws := fun c hc => by
      by_cases z : (⟨#[c]⟩ : Str) ∈ ws
      · exact z
      · exact absurd ⟨c, hc, z⟩ q
    have hn : (lowS.map fun c => (⟨#[c]⟩ : Str)).Nodup := by decide +kernel
    have hl := nd_le hn (fun x hx => by
      obtain ⟨c, hc, rfl⟩ := List.mem_map.mp hx
      exact all c hc)
    have h26 : (lowS.map fun c => (⟨#[c]⟩ : Str)).length = 26 := by decide +kernel
    omega
theorem x_frz {α : Type} {l : List α} {f : α → D} {Q : RK} {μ : Sto} (q : Q (.d (.lst (l.map f))) μ) : frzL Q ([] ++ l.map fun a => R.d (f a)) μ := by
  show (unD ([] ++ l.map fun a => R.d (f a))).elim False _
  rw [List.nil_append, unD_map]
  exact q
/-- [f(x) for x in xs if p(x)] -/
theorem lc_flt {α : Type} {i : Nat} {t e : EM} {ς : Sl} {Q : RK} {μ : Sto} {xs : List α} (r f : α → D) (p : α → Bool)
    (h : ∀ x ∈ xs, (∀ Q, Q (.d (.bl (p x))) μ → t (ς.set i (some (.d (r x)))) μ NoX Q) ∧ (p x = true → ∀ Q, Q (.d (f x)) μ → e (ς.set i (some (.d (r x)))) μ NoX Q)) (hl : xs.length ≤ sizeLine) (q : Q (.d (.lst ((xs.filter p).map f))) μ) :
    lcGo (gN i) t e ς (frzL Q) (xs.map fun x => R.d (r x)) [] μ := by
  have key : ∀ (zs ac : List α), (∀ z ∈ zs, z ∈ xs) → ac.length + zs.length ≤ sizeLine → Q (.d (.lst ((ac ++ zs.filter p).map f))) μ → lcGo (gN i) t e ς (frzL Q) (zs.map fun x => R.d (r x)) (ac.map fun x => R.d (f x)) μ := by
    intro zs
    induction zs with
    | nil =>
      intro ac _ _ q
      show (unD (ac.map fun x => R.d (f x))).elim False _
      rw [unD_map]
      simpa using q
    | cons z zs ih =>
      intro ac hm hz q
      simp only [List.length_cons] at hz
      refine (h z (hm z (.head _))).1 _ ?_
      show if p z = true then _ else _
      split
      · rename_i hp
        refine (h z (hm z (.head _))).2 hp _ ⟨by simp; omega, ?_⟩
        have := ih (ac ++ [z]) (fun y hy => hm y (.tail _ hy)) (by simp; omega) (by rw [List.filter_cons_of_pos hp] at q; simpa using q)
        simpa using this
      · rename_i hp
        exact ih ac (fun y hy => hm y (.tail _ hy)) (by omega) (by rw [List.filter_cons_of_neg hp] at q; exact q)
  exact key xs [] (fun _ h => h) (by simpa using hl) (by simpa using q)
theorem unS_strs : ∀ a : List Str, unS (a.map D.str) = some a
  | [] => rfl
  | x :: r => by simp only [List.map_cons, unS, unS_strs r, Option.map_some]
theorem pair_ex {α β γ : Type} {f : γ → β} {P : γ → Prop} : ∀ {xs : List α} {ys : List β}, Paired (fun (_ : α) y => ∃ a, y = f a ∧ P a) xs ys → ∃ l : List γ, ys = l.map f ∧ l.length = xs.length ∧ ∀ a ∈ l, P a := by
  intro xs ys hp
  induction hp with
  | nil => exact ⟨[], rfl, rfl, fun _ h => nomatch h⟩
  | cons h _ ih =>
    obtain ⟨a, rfl, ha⟩ := h
    obtain ⟨l, rfl, hl, hP⟩ := ih
    exact ⟨a :: l, rfl, by simp [hl], fun b hb => (List.mem_cons.mp hb).elim (fun z => z ▸ ha) (hP b)⟩
theorem join_chars {l : List Nat} (hl : l.length ≤ 6) : joinD "" (.lst (l.map fun c => .str ⟨#[c]⟩)) = some (.str (Txt.join "" (l.map fun c => (⟨#[c]⟩ : Str)))) := by
  show (unS (l.map fun c => D.str ⟨#[c]⟩)).bind _ = _
  rw [show (l.map fun c => D.str ⟨#[c]⟩) = (l.map fun c => (⟨#[c]⟩ : Str)).map D.str from by rw [List.map_map]; rfl, unS_strs]
  show (if _ then _ else _) = _
  rw [if_pos]
  have : ((l.map fun c => (⟨#[c]⟩ : Str)).map (·.length)).sum ≤ l.length * 1 := by
    rw [List.map_map]
    exact sum_le _ 1 l fun c _ => Nat.le_refl 1
  have h0 : ("" : Str).length = 0 := by decide +kernel
  rw [h0]
  omega
theorem atI_last {α : Type} {xs : List α} (h : xs ≠ []) : ∃ x, atI xs (-1) = some x ∧ x ∈ xs := by
  have hl : 0 < xs.length := List.length_pos_iff.mpr h
  have hn : xs.length - 1 < xs.length := by omega
  refine ⟨xs[xs.length - 1], ?_, List.getElem_mem hn⟩
  unfold atI ixN
  rw [if_neg (by decide), if_pos (by omega), show (-1 + (xs.length : Int)).toNat = xs.length - 1 from by omega]
  exact List.getElem?_eq_getElem hn
theorem x_oN {ς : Sl} {μ : Sto} {E : XC} {Q : Option Int → Sto → Prop} (q : Q none μ) : oNone ς μ E Q := q
theorem x_oS {ς : Sl} {μ : Sto} {E : XC} {Q : Option Int → Sto → Prop} {i : Int} (q : Q (some i) μ) : oSome (eC (.int i)) ς μ E Q := q
theorem sl5 {z : Str} (h : isW z = true) : slD none (some 5) (.str z) = some (.str (cutS z none (some 5))) := by
  show (if z.length ≤ sizeLine then some (D.str (cutS z none (some 5))) else none) = _
  rw [if_pos (isW_len h)]
theorem add_more {z : Str} {c : Nat} : addD (.str (cutS z none (some 5))) (.str ⟨#[c]⟩) = some (.str (cutS z none (some 5) ++ ⟨#[c]⟩)) := by
  show (if _ then _ else _) = _
  rw [if_pos]
  have h1 : (cutS z none (some 5)).length ≤ 5 := by
    rw [← str_size, take5, List.length_take]; omega
  have h2 : (⟨#[c]⟩ : Str).length = 1 := rfl
  rw [h2, sizeLine_eq]; omega
def Words (ws : List Str) : Prop := ws.Nodup ∧ ∀ w ∈ ws, isW w = true
theorem dw_words {n : Nat} (hn : n ≤ 20) : Dw m_l_words [.src, .d (.int n)] (9 * n) (fun x => ∃ ws, x = .lst (ws.map D.str) ∧ ws.length = n ∧ Words ws) := by
  intro cs T E Q hT q
  refine x_mdef rfl ?_
  repeat walk_at "st"
  refine ⟨by rw [sizeLine_eq]; exact Nat.zero_le _, ?_⟩
  repeat walk_at "st"
  refine ⟨by omega, by omega, ?_⟩
  refine for_go (fun i ς μ => ∃ (ws : List Str) (T' : Nat) (a5 a6 a7 a8 a9 : Option R), ws.length = i ∧ Words ws ∧ T ≤ T' ∧ T' ≤ T + 9 * i ∧ ς = [some .src, some (.d (.int n)), some (.d (.str "abcdefghijklmnopqrstuvwxyz")), some (.cell cs.length), some (.d (.lst (sevW.map D.str))), a5, a6, a7, a8, a9] ∧ μ = ⟨cs ++ [.lst ((ws.map D.str).map R.d)], T'⟩) (n := 0) ?_ ?_ ?_
  · rintro i x hx ς μ ⟨ws, T', a5, a6, a7, a8, a9, l1, hw, t1, t2, rfl, rfl⟩ K hK
    refine ⟨_, rfl, ?_⟩
    simp only [List.set_cons_succ, List.set_cons_zero]
    have hi : i < n := by
      have := (List.getElem?_eq_some_iff.mp hx).1
      simpa using this
    have vL : ∀ T2, vw ⟨cs ++ [.lst ((ws.map D.str).map R.d)], T2⟩ (.cell cs.length) = some (.lst (ws.map D.str)) := fun T2 => vw_lst get_last
    have okw : ∀ w ∈ ws, PyData.strOk w = true := fun w h => isW_ok (hw.2 w h)
    repeat walk_at "st"
    refine x_draw (by decide) (by decide) (by omega) fun r r0 r1 => ?_
    repeat walk_at "st"
    refine dw_pick (xs := sevW.map D.str) (by decide) (by decide) _ _ _ _ (by omega) fun x1 T1 hx1 u1 u2 => ?_
    obtain ⟨w1, hw1, rfl⟩ := List.mem_map.mp hx1
    have hw1 := sevW_w w1 hw1
    iterate 3 walk_at "st"
    walk_at "st"
    refine x_cut (fun ς μ => ∃ w T2, isW w = true ∧ T1 ≤ T2 ∧ T2 ≤ T1 + 7 ∧ (r = 0 ∨ T2 = T1) ∧ ς = [some .src, some (.d (.int n)), some (.d (.str "abcdefghijklmnopqrstuvwxyz")), some (.cell cs.length), some (.d (.lst (sevW.map D.str))), some x, some (.d (.int r)), some (.d (.str w)), a8, a9] ∧ μ = ⟨cs ++ [.lst ((ws.map D.str).map R.d)], T2⟩) (fun K' hK' => ?_) ?_
    · repeat walk_at "st"
      split
      · rename_i c1
        have c1 : r = 0 := of_decide_eq_true c1
        repeat walk_at "st"
        refine x_draw (by decide) (by decide) (by omega) fun r2 s0 s1 => ?_
        repeat walk_at "st"
        refine ⟨by omega, by omega, ?_⟩
        refine lc_any (fun _ y => ∃ ch, y = R.d (.str ⟨#[ch]⟩) ∧ ch ∈ lowS) 1 100000000 (fun z hz T3 hT3 => ⟨_, rfl, fun Q q => ?_⟩) (by simp; omega) (by simp; rw [sizeLine_eq]; omega) fun ys T4 hp v1 v2 => ?_
        · repeat walk_at "st"
          refine dw_letter _ _ _ _ hT3 fun y T4 ⟨ch, hch, e⟩ a b => q _ _ ⟨ch, by rw [e], hch⟩ a b
        · obtain ⟨l, rfl, hl, hP⟩ := pair_ex (f := fun ch => R.d (.str ⟨#[ch]⟩)) hp
          simp only [List.length_map, List.length_range] at hl v2
          refine x_frz (f := fun ch => D.str ⟨#[ch]⟩) ?_
          refine x_p1 (join_chars (l := l) (by omega)) ?_
          refine x_nx (hK' _ _ ⟨_, T4, ?_, by omega, by omega, .inl c1, rfl, rfl⟩)
          exact isW_of (signs_join l) (by omega) (by omega) hP
      · repeat walk_at "st"
        exact hK' _ _ ⟨w1, T1, hw1, Nat.le_refl _, by omega, .inr rfl, rfl, rfl⟩
    · rintro ς μ ⟨w2, T2, hw2, u3, u4, u5, rfl, rfl⟩
      walk_at "st"
      refine x_cut (fun ς μ => ∃ w T3, isW w = true ∧ T1 ≤ T3 ∧ T3 ≤ T1 + 7 ∧ ς = [some .src, some (.d (.int n)), some (.d (.str "abcdefghijklmnopqrstuvwxyz")), some (.cell cs.length), some (.d (.lst (sevW.map D.str))), some x, some (.d (.int r)), some (.d (.str w)), a8, a9] ∧ μ = ⟨cs ++ [.lst ((ws.map D.str).map R.d)], T3⟩) (fun K' hK' => ?_) ?_
      · repeat walk_at "st"
        split
        · rename_i c1
          have c1 : r = 1 := of_decide_eq_true c1
          repeat walk_at "st"
          refine x_p2v (vL _) rfl (z := .bl (!decide (ws = []))) (ne_strsL (b := []) okw (fun _ h => nomatch h)) ?_
          repeat walk_at "st"
          split
          · rename_i c2
            have c2 : ws ≠ [] := of_decide_eq_false (nt c2)
            repeat walk_at "st"
            obtain ⟨xl, el, ml⟩ := atI_last (xs := ws.map D.str) (by simpa using c2)
            obtain ⟨wl, hwl, rfl⟩ := List.mem_map.mp ml
            refine x_p2v (vL _) rfl (z := .str wl) el ?_
            refine x_oN (x_oS ?_)
            refine x_p1 (sl5 (hw.2 wl hwl)) ?_
            repeat walk_at "st"
            refine dw_letter _ _ _ _ (by omega) fun y T4 ⟨ch, hch, e⟩ v1 v2 => ?_
            subst e
            refine x_p2 add_more ?_
            exact x_nx (hK' _ _ ⟨_, T4, isW_more (hw.2 wl hwl) hch, by omega, by omega, rfl, rfl⟩)
          · repeat walk_at "st"
            exact hK' _ _ ⟨w2, T2, hw2, by omega, by omega, rfl, rfl⟩
        · repeat walk_at "st"
          exact hK' _ _ ⟨w2, T2, hw2, by omega, by omega, rfl, rfl⟩
      · rintro ς μ ⟨w3, T3, hw3, u6, u7, rfl, rfl⟩
        walk_at "st"
        refine x_cut (fun ς μ => ∃ w, isW w = true ∧ w ∉ ws ∧ ς = [some .src, some (.d (.int n)), some (.d (.str "abcdefghijklmnopqrstuvwxyz")), some (.cell cs.length), some (.d (.lst (sevW.map D.str))), some x, some (.d (.int r)), some (.d (.str w)), a8, a9] ∧ μ = ⟨cs ++ [.lst ((ws.map D.str).map R.d)], T3⟩) (fun K' hK' => ?_) ?_
        · repeat walk_at "st"
          refine x_p2v rfl (vL _) in_strsL ?_
          rw [Bool.false_xor]
          repeat walk_at "st"
          split
          · repeat walk_at "st"
            refine lc_flt (fun ch : Nat => D.str ⟨#[ch]⟩) (fun ch => D.str ⟨#[ch]⟩) (fun ch => decide ((⟨#[ch]⟩ : Str) ∉ ws)) (fun ch hch => ⟨fun Q q => ?_, fun _ Q q => ?_⟩) (by rw [sizeLine_eq]; decide +kernel) ?_
            · repeat walk_at "st"
              refine x_p2v rfl (vL _) in_strsL ?_
              rw [Bool.true_xor]
              simpa using q
            · repeat walk_at "st"
              exact q
            · obtain ⟨ch, hch, hf⟩ := letter_free (ws := ws) (by omega)
              have hm : ch ∈ lowS.filter fun ch => decide ((⟨#[ch]⟩ : Str) ∉ ws) := List.mem_filter.mpr ⟨hch, decide_eq_true hf⟩
              cases hk : lowS.filter fun ch => decide ((⟨#[ch]⟩ : Str) ∉ ws) with
              | nil => rw [hk] at hm; cases hm
              | cons c0 rest =>
                have h0 : c0 ∈ lowS.filter fun ch => decide ((⟨#[ch]⟩ : Str) ∉ ws) := by rw [hk]; exact .head _
                obtain ⟨h1, h2⟩ := List.mem_filter.mp h0
                show eC (.int 0) _ _ _ _
                walk_at "st"
                refine x_p2 (z := .str ⟨#[c0]⟩) ?_ ?_
                · show atI ((lowS.filter fun ch => decide ((⟨#[ch]⟩ : Str) ∉ ws)).map fun ch => D.str ⟨#[ch]⟩) 0 = _
                  rw [hk]
                  exact atI_zero
                · exact x_nx (hK' _ _ ⟨_, isW_one h1, of_decide_eq_true h2, rfl, rfl⟩)
          · rename_i c3
            repeat walk_at "st"
            exact hK' _ _ ⟨w3, hw3, of_decide_eq_false (ff c3), rfl, rfl⟩
        · rintro ς μ ⟨w4, hw4, hf, rfl, rfl⟩
          repeat walk_at "st"
          refine x_appV get_last rfl (by simp; rw [sizeLine_eq]; omega) ?_
          rw [put_last]
          refine x_nxl (hK _ _ ⟨ws ++ [w4], T3, _, _, _, _, _, by simp; omega, ⟨?_, ?_⟩, by omega, by omega, rfl, by simp⟩)
          · rw [List.nodup_append]
            exact ⟨hw.1, by simp, fun a ha b hb z => hf (by rw [List.mem_singleton.mp hb] at z; rw [← z]; exact ha)⟩
          · intro w h
            rcases List.mem_append.mp h with h | h
            · exact hw.2 w h
            · rw [List.mem_singleton.mp h]; exact hw4
  · exact ⟨[], T, none, none, none, none, none, rfl, ⟨List.nodup_nil, fun _ h => nomatch h⟩, Nat.le_refl _, by omega, rfl, rfl⟩
  · rintro ς μ ⟨ws, T', a5, a6, a7, a8, a9, l1, hw, t1, t2, rfl, rfl⟩
    simp only [List.length_map, List.length_range] at l1 t2
    have l1 : ws.length = n := by omega
    repeat walk_at "st"
    refine x_fz rfl (vw_lst get_last) ?_
    rw [put_last]
    repeat walk_at "st"
    exact x_rtE (List.prefix_append _ _) (q _ _ ⟨ws, rfl, l1, hw⟩ t1 (by simp; omega))
end Eg
namespace Eg
open Evl (Ex)
open PySem PySem.Spec PyProof.Rows L2 Sn LamX
local macro_rules | `(tactic| walk_at "st") => `(tactic| first
  | with_reducible refine x_nx ?_ | with_reducible refine x_nxl ?_ | with_reducible refine x_rtn ?_ | with_reducible refine x_rtl ?_ | with_reducible refine x_exn ?_ | with_reducible refine x_exl ?_ | with_reducible refine x_rt0 ?_ | with_reducible refine x_nx0 ?_ | with_reducible refine x_ex0 ?_ | with_reducible refine x_rtK ?_ | with_reducible refine x_nxK ?_ | with_reducible refine x_exK ?_ | with_reducible refine x_seq ?_ | with_reducible refine x_set ?_ | with_reducible refine x_ret ?_ | with_reducible refine x_exp ?_ | with_reducible refine x_if ?_ | with_reducible refine x_nil ?_ | with_reducible refine x_raise ?_ | with_reducible refine x_asgT ?_ | with_reducible refine x_for ?_ | with_reducible refine x_c ?_ | with_reducible refine x_and ?_ | with_reducible refine x_or ?_ | with_reducible refine x_not ?_ | with_reducible refine x_cond ?_ | with_reducible refine x_isB ?_ | with_reducible refine x_anil ?_ | with_reducible refine x_acons ?_ | with_reducible refine x_call ?_ | with_reducible refine x_meth ?_ | with_reducible refine x_prp ?_ | with_reducible refine x_fld ?_ | with_reducible refine x_pur1 ?_ | with_reducible refine x_pur2 ?_ | with_reducible refine x_tup ?_ | with_reducible refine x_lst ?_ | with_reducible refine x_lc ?_ | with_reducible refine x_lc2 ?_ | with_reducible refine x_dc ?_ | with_reducible refine x_seqI ?_ | with_reducible refine x_val ?_ | with_reducible refine x_rg1 ?_ | with_reducible refine x_chn ?_ | with_reducible refine x_mk ?_ | with_reducible refine x_fldS ?_ | with_reducible refine x_mkX ?_ | with_reducible refine x_isI ?_ | with_reducible refine x_inO ?_ | with_reducible refine x_neO ?_ | with_reducible refine x_lstC ?_ | with_reducible refine x_app ?_ | with_reducible refine x_join ?_ | with_reducible refine x_sl ?_ | with_reducible refine x_putD ?_ | with_reducible refine x_dnC ?_ | with_reducible refine x_dict ?_ | with_reducible refine x_dic ?_
  | ((with_reducible apply x_var); rfl) | ((with_reducible apply x_fld1); rfl) | ((with_reducible apply x_isO); rfl) | ((with_reducible apply x_gall); rfl) | ((with_reducible apply x_it); rfl) | ((with_reducible apply x_und2); (simp only [unD, Option.map_some]; rfl); (rw [sizeLine_eq]; exact Nat.le_of_ble_eq_true rfl)) | ((with_reducible apply x_und); rfl) | refine x_ift ?_ | refine x_iff ?_
  | ((with_reducible apply x_isi); rfl; decide; decide) | ((with_reducible apply x_isi'); rfl; decide; decide) | ((with_reducible apply x_p1); rfl) | ((with_reducible apply x_p2); rfl))

/-! ### an edition's word, as the laws tell it -/
structure Tl where
  st : List (Str × List (Str × Str))
  te : List (Str × Str)
  s0 : Str
def Tl.stL (t : Tl) : List (Str × D) := t.st.map fun p => (p.1, dT (snD p.2))
abbrev Tl.d (t : Tl) : D := dT [("steps", dT t.stL), ("tells", dT (snD t.te)), ("start", .str t.s0)]
def Tl.states (t : Tl) : List Str := t.st.map (·.1)
structure Tl.Good (t : Tl) (ks : List Str) (a b : Nat) : Prop where
  sw : Words t.states
  s1 : 1 ≤ t.states.length
  s2 : t.states.length ≤ a
  kw : Words ks
  k1 : 1 ≤ ks.length
  k2 : ks.length ≤ b
  rows : ∀ p ∈ t.st, p.2.map (·.1) = ks ∧ ∀ q ∈ p.2, q.2 ∈ t.states
  te1 : t.te.map (·.1) = t.states
  te2 : ∀ q ∈ t.te, isW q.2 = true
  s0 : t.s0 ∈ t.states
theorem stL_fst (t : Tl) : t.stL.map (·.1) = t.states := by unfold Tl.stL Tl.states; rw [List.map_map]; rfl
theorem unP_pairs : ∀ l : List (Str × D), unP (l.map fun p => D.tup [.str p.1, p.2]) = some (l.map fun p => ((Sum.inr p.1 : Key), p.2))
  | [] => rfl
  | a :: r => by simp only [List.map_cons, unP, unP_pairs r, keyD]; rfl
theorem merge_new {β : Type} : ∀ (l acc : List (Key × β)), ((acc ++ l).map (·.1)).Nodup → mergeD acc l = acc ++ l
  | [], acc, _ => by simp [mergeD]
  | a :: r, acc, h => by
    show mergeD (putKD acc a.1 a.2) r = _
    rw [putKD_new (by
      rw [List.map_append, List.nodup_append] at h
      exact fun m => h.2.2 _ m _ (List.mem_map_of_mem (List.mem_cons_self)) rfl)]
    rw [merge_new r _ (by simpa using h)]
    simp
theorem inr_nodup {l : List Str} (h : l.Nodup) : (l.map fun s => (Sum.inr s : Key)).Nodup := List.Pairwise.map _ (fun a b hab z => hab (by injection z)) h
theorem dict_pairs {l : List (Str × D)} (hn : (l.map (·.1)).Nodup) : (dictD (.lst (l.map fun p => D.tup [.str p.1, p.2]))).map D.dic = some (dT l) := by
  show ((unP (l.map fun p => D.tup [.str p.1, p.2])).map fun kd => mergeD [] kd).map D.dic = _
  rw [unP_pairs]
  show some (D.dic (mergeD [] _)) = _
  rw [merge_new _ _ (by
    rw [List.nil_append, List.map_map]
    have := inr_nodup hn
    rw [List.map_map] at this
    exact this), List.nil_append]
  rfl
theorem ru_lkinds {t : Tl} {r : List (Str × Str)} (h : lk t.stL t.s0 = some (dT (snD r))) (hl : r.length < 64) : Ru m_l_kinds [t.d] (.lst ((srtS (r.map (·.1))).map D.str)) := by
  intro μ E Q q
  refine x_mdef rfl ?_
  repeat walk_at "st"
  show pur2 dgetD (R.d (dT t.stL)) (R.d (.str t.s0)) _ _
  refine x_p2 (dget_typed h) ?_
  refine x_p1 (sortD_typed (by unfold snD; simpa using hl)) ?_
  rw [snD_fst]
  exact x_rt0 q
theorem told_merge (a b c : D) : mergeD [] [((Sum.inr "steps" : Key), a), (Sum.inr "tells", b), (Sum.inr "start", c)] = [((Sum.inr "steps" : Key), a), (Sum.inr "tells", b), (Sum.inr "start", c)] := by
  rw [merge_new _ _ (by
    show [(Sum.inr "steps" : Key), Sum.inr "tells", Sum.inr "start"].Nodup
    decide +kernel)]
  rfl
theorem x_pair {k v : EM} {r : List (EM × EM)} {ς : Sl} {μ : Sto} {E : XC} {Q : List (Key × R) → Sto → Prop} (h : k ς μ E fun rk μ1 => v ς μ1 E fun rv μ2 => ePairs r ς μ2 E fun l μ3 => (keyR rk).elim False fun key => Q ((key, rv) :: l) μ3) : ePairs ((k, v) :: r) ς μ E Q := h
theorem x_pnil {ς : Sl} {μ : Sto} {E : XC} {Q : List (Key × R) → Sto → Prop} (h : Q [] μ) : ePairs [] ς μ E Q := h
theorem x_key {s : Str} {P : Key → Prop} (h : P (Sum.inr s)) : (keyR (.d (.str s))).elim False P := h
theorem x_unk {l : List (Key × R)} {kd : List (Key × D)} {P : List (Key × D) → Prop} (h : unK l = some kd) (q : P kd) : (unK l).elim False P := by rw [h]; exact q
theorem vw_dT {α : Type} {μ : Sto} {n : Nat} {l : List α} (kf : α → Str) (f : α → D) (h : μ.cs[n]? = some (.dic (l.map fun p => ((Sum.inr (kf p) : Key), R.d (f p))))) : vw μ (.cell n) = some (dT (l.map fun p => (kf p, f p))) := by
  have := vw_dic (μ := μ) (n := n) (kd := l.map fun p => ((Sum.inr (kf p) : Key), f p)) (by rw [h, List.map_map]; rfl)
  rw [this]
  unfold dT
  rw [List.map_map]
  rfl
theorem Pair_pick {ks : List Str} {ss : List Str} : ∀ {xs : List R} {ys : List R}, xs = ks.map (fun k => R.d (.str k)) → Paired (fun x y => ∃ k g, x = R.d (.str k) ∧ y = R.d (.tup [.str k, .str g]) ∧ g ∈ ss) xs ys → ∃ row : List (Str × Str), ys = row.map (fun p => R.d (.tup [.str p.1, .str p.2])) ∧ row.map (·.1) = ks ∧ ∀ q ∈ row, q.2 ∈ ss := by
  intro xs ys e hp
  induction hp generalizing ks with
  | nil =>
    cases ks with
    | nil => exact ⟨[], rfl, rfl, fun _ h => nomatch h⟩
    | cons _ _ => cases e
  | cons h _ ih =>
    cases ks with
    | nil => cases e
    | cons k ks =>
      rw [List.map_cons] at e
      injection e with e1 e2
      obtain ⟨k', g, h1, h2, h3⟩ := h
      rw [e1] at h1
      injection h1 with h1
      injection h1 with h1
      subst h1
      obtain ⟨row, r1, r2, r3⟩ := ih e2
      exact ⟨(k, g) :: row, by rw [h2, r1]; rfl, by rw [List.map_cons, r2], fun q hq => (List.mem_cons.mp hq).elim (fun z => z ▸ h3) (r3 q)⟩
theorem dw_any {a b : Nat} (ha0 : 1 ≤ a) (ha : a ≤ 5) (hb0 : 1 ≤ b) (hb : b ≤ 4) : Dw m_l_any_told [.src, .d (.int a), .d (.int b)] 200 (fun x => ∃ (t : Tl) (ks : List Str), x = t.d ∧ t.Good ks a b) := by
  intro cs T E Q hT q
  refine x_mdef rfl ?_
  repeat walk_at "st"
  refine x_draw (by omega) (by omega) (by omega) fun r r0 r1 => ?_
  repeat walk_at "st"
  rw [show (1 + r : Int) = ((1 + r.toNat : Nat) : Int) from by omega]
  refine dw_words (by omega) _ _ _ _ (by omega) fun x T1 hx u1 u2 => ?_
  obtain ⟨ss, rfl, sl, sw⟩ := hx
  repeat walk_at "st"
  refine x_draw (by omega) (by omega) (by omega) fun r' r0' r1' => ?_
  repeat walk_at "st"
  rw [show (1 + r' : Int) = ((1 + r'.toNat : Nat) : Int) from by omega]
  refine dw_words (by omega) _ _ _ _ (by omega) fun x T2 hx u3 u4 => ?_
  obtain ⟨ks, rfl, kl, kw⟩ := hx
  repeat walk_at "st"
  refine x_draw (by omega) (by omega) (by omega) fun r'' r0'' r1'' => ?_
  repeat walk_at "st"
  rw [show (1 + r'' : Int) = ((1 + r''.toNat : Nat) : Int) from by omega]
  refine dw_words (by omega) _ _ _ _ (by omega) fun x T3 hx u5 u6 => ?_
  obtain ⟨hs, rfl, hl, hw⟩ := hx
  repeat walk_at "st"
  refine for_go (fun i ς μ => ∃ (st : List (Str × List (Str × Str))) (te : List (Str × Str)) (T' : Nat) (a8 a9 : Option R), st.map (·.1) = ss.take i ∧ te.map (·.1) = ss.take i ∧ (∀ p ∈ st, p.2.map (·.1) = ks ∧ ∀ q ∈ p.2, q.2 ∈ ss) ∧ (∀ q ∈ te, q.2 ∈ hs) ∧ T3 ≤ T' ∧ T' ≤ T3 + 5 * i ∧
    ς = [some .src, some (.d (.int a)), some (.d (.int b)), some (.d (.lst (ss.map D.str))), some (.d (.lst (ks.map D.str))), some (.d (.lst (hs.map D.str))), some (.cell cs.length), some (.cell (cs.length + 1)), a8, a9] ∧ μ = ⟨cs ++ [.dic (st.map fun p => (Sum.inr p.1, R.d (dT (snD p.2)))), .dic (te.map fun p => (Sum.inr p.1, R.d (.str p.2)))], T'⟩) (n := 0) ?_ ?_ ?_
  · rintro i x hx ς μ ⟨st, te, T', a8, a9, e1, e2, e3, e4, t1, t2, rfl, rfl⟩ K hK
    refine ⟨_, rfl, ?_⟩
    simp only [List.set_cons_succ, List.set_cons_zero]
    obtain ⟨hi, ex⟩ := List.getElem?_eq_some_iff.mp hx
    simp only [List.length_map] at hi
    have ex : x = .d (.str ss[i]) := by rw [← ex]; simp
    subst ex
    have nn : ss[i] ∉ ss.take i := fun hm => by
      obtain ⟨j, hj, e⟩ := List.mem_iff_getElem.mp hm
      simp only [List.length_take] at hj
      rw [List.getElem_take] at e
      exact (List.pairwise_iff_getElem.mp sw.1) j i (by omega) hi (by omega) e
    have tk : ss.take (0 + i + 1) = ss.take (0 + i) ++ [ss[i]] := by rw [Nat.zero_add, List.take_succ_eq_append_getElem hi]
    have ls : st.length = i := by have := congrArg List.length e1; simp at this; omega
    have lt : te.length = i := by have := congrArg List.length e2; simp at this; omega
    repeat walk_at "st"
    refine lc_any (fun x y => ∃ k g, x = R.d (.str k) ∧ y = R.d (.tup [.str k, .str g]) ∧ g ∈ ss) 1 100000000 (fun z hz T4 hT4 => ⟨_, rfl, fun Q q => ?_⟩) (by simp; omega) (by simp; rw [sizeLine_eq]; omega) fun ys T4 hp v1 v2 => ?_
    · simp only [List.map_map, List.mem_map] at hz
      obtain ⟨k, hk, rfl⟩ := hz
      repeat walk_at "st"
      refine dw_pick (xs := ss.map D.str) (by intro z; simp at z; rw [z] at sl; simp at sl; omega) (by simp; omega) _ _ _ _ hT4 fun y T5 hy a b => ?_
      obtain ⟨g, hg, rfl⟩ := List.mem_map.mp hy
      repeat walk_at "st"
      exact ⟨by rw [sizeLine_eq]; exact Nat.le_of_ble_eq_true rfl, q _ _ ⟨k, g, rfl, rfl, hg⟩ a b⟩
    · obtain ⟨row, rfl, rk, rg⟩ := Pair_pick (ks := ks) (ss := ss) (by rw [List.map_map]; rfl) hp
      refine x_frz (f := fun p : Str × Str => D.tup [.str p.1, .str p.2]) ?_
      refine x_p1 (z := dT (snD row)) ?_ ?_
      · have := dict_pairs (l := snD row) (by rw [snD_fst, rk]; exact kw.1)
        unfold snD at this ⊢
        rw [List.map_map] at this
        exact this
      · repeat walk_at "st"
        refine x_putD1 get_1 (by simp; rw [sizeLine_eq]; omega) ?_
        rw [put_1, putKD_new (by
          rw [List.map_map]
          intro hm
          obtain ⟨p, hp, e⟩ := List.mem_map.mp hm
          injection e with e
          exact nn (by rw [show ss.take i = st.map (·.1) from by rw [e1, Nat.zero_add], ← e]; exact List.mem_map_of_mem hp))]
        repeat walk_at "st"
        refine dw_pick (xs := hs.map D.str) (by intro z; simp at z; rw [z] at hl; simp at hl; omega) (by simp; omega) _ _ _ _ (by simp at v2; omega) fun y T5 hy w1 w2 => ?_
        obtain ⟨g, hg, rfl⟩ := List.mem_map.mp hy
        repeat walk_at "st"
        refine x_putD1 get_2 (by simp; rw [sizeLine_eq]; omega) ?_
        rw [put_2, putKD_new (by
          rw [List.map_map]
          intro hm
          obtain ⟨p, hp, e⟩ := List.mem_map.mp hm
          injection e with e
          exact nn (by rw [show ss.take i = te.map (·.1) from by rw [e2, Nat.zero_add], ← e]; exact List.mem_map_of_mem hp))]
        have kl4 : ks.length ≤ 4 := by omega
        refine x_nxl (hK _ _ ⟨st ++ [(ss[i], row)], te ++ [(ss[i], g)], T5, _, _, ?_, ?_, ?_, ?_, by omega, ?_, rfl, by simp⟩)
        · rw [tk, List.map_append, e1]; rfl
        · rw [tk, List.map_append, e2]; rfl
        · intro p hp
          rcases List.mem_append.mp hp with h | h
          · exact e3 p h
          · rw [List.mem_singleton.mp h]; exact ⟨rk, rg⟩
        · intro p hp
          rcases List.mem_append.mp hp with h | h
          · exact e4 p h
          · rw [List.mem_singleton.mp h]; exact hg
        · simp at v2; omega
  · exact ⟨[], [], T3, none, none, by simp, by simp, by simp, by simp, Nat.le_refl _, by omega, by simp [ini], by simp⟩
  · rintro ς μ ⟨st, te, T', a8, a9, e1, e2, e3, e4, t1, t2, rfl, rfl⟩
    rw [show 0 + ((ss.map D.str).map R.d).length = ss.length from by simp, List.take_length] at e1 e2
    rw [show 0 + ((ss.map D.str).map R.d).length = ss.length from by simp] at t2
    refine x_nx ?_
    refine x_fz rfl (vw_dT (fun p : Str × List (Str × Str) => p.1) (fun p => dT (snD p.2)) get_1) ?_
    rw [put_1]
    refine x_fz rfl (vw_dT (fun p : Str × Str => p.1) (fun p => .str p.2) get_2) ?_
    rw [put_2]
    repeat walk_at "st"
    refine x_pair ?_
    repeat walk_at "st"
    refine x_pair ?_
    repeat walk_at "st"
    refine x_pair ?_
    repeat walk_at "st"
    refine dw_pick (xs := ss.map D.str) (by intro z; simp at z; rw [z] at sl; simp at sl; omega) (by simp; omega) _ _ _ _ (by omega) fun y T5 hy w1 w2 => ?_
    obtain ⟨s0, hs0, rfl⟩ := List.mem_map.mp hy
    refine x_pnil ?_
    refine x_key (x_key (x_key ?_))
    refine x_unk (kd := [((Sum.inr "steps" : Key), dT (st.map fun p => (p.1, dT (snD p.2)))), (Sum.inr "tells", dT (te.map fun p => (p.1, .str p.2))), (Sum.inr "start", .str s0)]) rfl ⟨Nat.le_of_ble_eq_true rfl, ?_⟩
    rw [told_merge]
    refine x_rtE (List.prefix_append _ _) (q _ _ ⟨⟨st, te, s0⟩, ks, rfl, ?_⟩ (by simp; omega) (by simp; omega))
    have es : Tl.states ⟨st, te, s0⟩ = ss := e1
    exact ⟨by rw [es]; exact sw, by rw [es]; omega, by rw [es]; omega, kw, by omega, by omega, fun p hp => by rw [es]; exact e3 p hp, by rw [es]; exact e2, fun q hq => hw.2 _ (e4 q hq), by rw [es]; exact hs0⟩
end Eg
namespace Eg
open Evl (Ex)
open PySem PySem.Spec PyProof.Rows L2 Sn LamX
local macro_rules | `(tactic| walk_at "st") => `(tactic| first
  | with_reducible refine x_nx ?_ | with_reducible refine x_nxl ?_ | with_reducible refine x_rtn ?_ | with_reducible refine x_rtl ?_ | with_reducible refine x_exn ?_ | with_reducible refine x_exl ?_ | with_reducible refine x_rt0 ?_ | with_reducible refine x_nx0 ?_ | with_reducible refine x_ex0 ?_ | with_reducible refine x_rtK ?_ | with_reducible refine x_nxK ?_ | with_reducible refine x_exK ?_ | with_reducible refine x_seq ?_ | with_reducible refine x_set ?_ | with_reducible refine x_ret ?_ | with_reducible refine x_exp ?_ | with_reducible refine x_if ?_ | with_reducible refine x_nil ?_ | with_reducible refine x_raise ?_ | with_reducible refine x_asgT ?_ | with_reducible refine x_for ?_ | with_reducible refine x_c ?_ | with_reducible refine x_and ?_ | with_reducible refine x_or ?_ | with_reducible refine x_not ?_ | with_reducible refine x_cond ?_ | with_reducible refine x_isB ?_ | with_reducible refine x_anil ?_ | with_reducible refine x_acons ?_ | with_reducible refine x_call ?_ | with_reducible refine x_meth ?_ | with_reducible refine x_prp ?_ | with_reducible refine x_fld ?_ | with_reducible refine x_pur1 ?_ | with_reducible refine x_pur2 ?_ | with_reducible refine x_tup ?_ | with_reducible refine x_lst ?_ | with_reducible refine x_lc ?_ | with_reducible refine x_lc2 ?_ | with_reducible refine x_dc ?_ | with_reducible refine x_seqI ?_ | with_reducible refine x_val ?_ | with_reducible refine x_rg1 ?_ | with_reducible refine x_chn ?_ | with_reducible refine x_mk ?_ | with_reducible refine x_fldS ?_ | with_reducible refine x_mkX ?_ | with_reducible refine x_isI ?_ | with_reducible refine x_inO ?_ | with_reducible refine x_neO ?_ | with_reducible refine x_lstC ?_ | with_reducible refine x_app ?_ | with_reducible refine x_join ?_ | with_reducible refine x_sl ?_ | with_reducible refine x_putD ?_ | with_reducible refine x_dnC ?_ | with_reducible refine x_dict ?_ | with_reducible refine x_dic ?_
  | ((with_reducible apply x_var); rfl) | ((with_reducible apply x_fld1); rfl) | ((with_reducible apply x_isO); rfl) | ((with_reducible apply x_gall); rfl) | ((with_reducible apply x_it); rfl) | ((with_reducible apply x_und2); (simp only [unD, Option.map_some]; rfl); (rw [sizeLine_eq]; exact Nat.le_of_ble_eq_true rfl)) | ((with_reducible apply x_und); rfl) | refine x_ift ?_ | refine x_iff ?_
  | ((with_reducible apply x_isi); rfl; decide; decide) | ((with_reducible apply x_isi'); rfl; decide; decide) | ((with_reducible apply x_p1); rfl) | ((with_reducible apply x_p2); rfl))

theorem srtS_eq {a b : List Str} (h : a.Perm b) : srtS a = srtS b := pw_uniq ((srtS_perm a).trans (h.trans (srtS_perm b).symm)) (srtS_pw a) (srtS_pw b)
theorem lk_self {l : List (Str × D)} (hn : (l.map (·.1)).Nodup) {p : Str × D} (hp : p ∈ l) : lk l p.1 = some p.2 := by
  obtain ⟨x, e, m⟩ := lk_some (List.mem_map_of_mem (f := (·.1)) hp)
  rw [e]
  have : ∀ {l : List (Str × D)}, (l.map (·.1)).Nodup → ∀ {k : Str} {x y : D}, (k, x) ∈ l → (k, y) ∈ l → x = y := by
    intro l
    induction l with
    | nil => intro _ _ _ _ h; cases h
    | cons a r ih =>
      intro hn k x y h1 h2
      rw [List.map_cons, List.nodup_cons] at hn
      rcases List.mem_cons.mp h1 with e1 | h1
      · rcases List.mem_cons.mp h2 with e2 | h2
        · rw [← e1] at e2; injection e2 with _ e2; exact e2.symm
        · exact absurd (List.mem_map_of_mem (f := (·.1)) h2) (by rw [← e1] at hn; exact hn.1)
      · rcases List.mem_cons.mp h2 with e2 | h2
        · exact absurd (List.mem_map_of_mem (f := (·.1)) h1) (by rw [← e2] at hn; exact hn.1)
        · exact ih hn.2 h1 h2
  exact congrArg some (this hn m hp)
theorem lk_none {l : List (Str × D)} {k : Str} (h : k ∉ l.map (·.1)) : lk l k = none := by
  have := lk_isSome (l := l) (k := k)
  rw [decide_eq_false h] at this
  cases e : lk l k with
  | none => rfl
  | some x => rw [e] at this; cases this
theorem lk_perm {l m : List (Str × D)} (h : l.Perm m) (hn : (l.map (·.1)).Nodup) (k : Str) : lk l k = lk m k := by
  have hm : (m.map (·.1)).Nodup := (h.map (·.1)).nodup_iff.mp hn
  by_cases hk : k ∈ l.map (·.1)
  · obtain ⟨x, e, hx⟩ := lk_some hk
    rw [e]
    exact (lk_self hm (h.mem_iff.mp hx)).symm
  · rw [lk_none hk, lk_none (fun z => hk ((h.map (·.1)).mem_iff.mpr z))]
theorem srtK_perm {l m : List (Str × D)} (h : l.Perm m) (hn : (l.map (·.1)).Nodup) : srtK l = srtK m := by
  unfold srtK
  rw [srtS_eq (h.map (·.1))]
  exact List.map_congr_left fun k _ => by rw [lk_perm h hn k]
theorem strs_of {a : List Str} : ∀ {ys : List D}, (∀ y ∈ ys, y ∈ a.map D.str) → ∃ ws : List Str, ys = ws.map D.str ∧ ∀ w ∈ ws, w ∈ a
  | [], _ => ⟨[], rfl, fun _ h => nomatch h⟩
  | y :: ys, h => by
    obtain ⟨w, hw, rfl⟩ := List.mem_map.mp (h y (.head _))
    obtain ⟨ws, rfl, hs⟩ := strs_of fun z hz => h z (.tail _ hz)
    exact ⟨w :: ws, rfl, fun v hv => (List.mem_cons.mp hv).elim (fun z => z ▸ hw) (hs v)⟩
theorem pair_rows {ks nk : List Str} : ∀ {xs ys : List R}, xs = ks.map (fun k => R.d (.str k)) → Paired (fun x y => ∃ (k : Str) (ws : List Str), x = R.d (.str k) ∧ y = R.d (.tup [.str k, .tup (ws.map D.str)]) ∧ ws.length ≤ 3 ∧ ∀ w ∈ ws, w ∈ nk) xs ys → ∃ evs : List (Str × List Str), ys = evs.map (fun p => R.d (.tup [.str p.1, .tup (p.2.map D.str)])) ∧ evs.map (·.1) = ks ∧ ∀ p ∈ evs, p.2.length ≤ 3 ∧ ∀ w ∈ p.2, w ∈ nk := by
  intro xs ys e hp
  induction hp generalizing ks with
  | nil =>
    cases ks with
    | nil => exact ⟨[], rfl, rfl, fun _ h => nomatch h⟩
    | cons _ _ => cases e
  | cons h _ ih =>
    cases ks with
    | nil => cases e
    | cons k ks =>
      rw [List.map_cons] at e
      injection e with e1 e2
      obtain ⟨k', ws, h1, h2, h3⟩ := h
      rw [e1] at h1
      injection h1 with h1
      injection h1 with h1
      subst h1
      obtain ⟨evs, r1, r2, r3⟩ := ih e2
      exact ⟨(k, ws) :: evs, by rw [h2, r1]; rfl, by rw [List.map_cons, r2], fun q hq => (List.mem_cons.mp hq).elim (fun z => z ▸ h3) (r3 q)⟩
theorem dw_rows_for {t : Tl} {r : List (Str × Str)} {ks : List Str} (h : lk t.stL t.s0 = some (dT (snD r))) (hr0 : r ≠ []) (hr : r.length < 64) (hk : ks.Nodup) (hk5 : ks.length ≤ 5) :
    Dw m_l_rows_for [.src, .d (.lst (ks.map D.str)), .d t.d] 25 (fun x => ∃ evs : List (Str × List Str), x = dT (evD evs) ∧ evs.map (·.1) = ks ∧ ∀ p ∈ evs, p.2.length ≤ 3 ∧ ∀ w ∈ p.2, w ∈ srtS (r.map (·.1))) := by
  intro cs T E Q hT q
  refine x_mdef rfl ?_
  repeat walk_at "st"
  refine ru_lkinds h hr _ _ _ ?_
  repeat walk_at "st"
  have hl : (srtS (r.map (·.1))).length = r.length := by rw [srt_len]; simp
  refine lc_any (fun x y => ∃ (k : Str) (ws : List Str), x = R.d (.str k) ∧ y = R.d (.tup [.str k, .tup (ws.map D.str)]) ∧ ws.length ≤ 3 ∧ ∀ w ∈ ws, w ∈ srtS (r.map (·.1))) 5 100000000 (fun z hz T4 hT4 => ⟨_, rfl, fun Q q => ?_⟩) (by simp; omega) (by simp; rw [sizeLine_eq]; omega) fun ys T4 hp v1 v2 => ?_
  · simp only [List.map_map, List.mem_map] at hz
    obtain ⟨k, hk, rfl⟩ := hz
    repeat walk_at "st"
    refine dw_row (ks := (srtS (r.map (·.1))).map D.str) (n := 3) (by intro z; have := congrArg List.length z; rw [List.length_map, hl] at this; exact hr0 (List.length_eq_zero_iff.mp this)) (by rw [List.length_map, hl]; omega) (by decide) (by decide) _ _ _ _ (by show _ + 5 ≤ _; omega) fun y T5 hy a b => ?_
    obtain ⟨ys, rfl, y1, y2⟩ := hy
    obtain ⟨ws, rfl, w2⟩ := strs_of y2
    repeat walk_at "st"
    exact ⟨by rw [sizeLine_eq]; exact Nat.le_of_ble_eq_true rfl, q _ _ ⟨k, ws, rfl, rfl, by simp at y1; omega, w2⟩ a b⟩
  · obtain ⟨evs, rfl, rk, rg⟩ := pair_rows (ks := ks) (nk := srtS (r.map (·.1))) (by rw [List.map_map]; rfl) hp
    refine x_frz (f := fun p : Str × List Str => D.tup [.str p.1, .tup (p.2.map D.str)]) ?_
    refine x_p1 (z := dT (evD evs)) ?_ ?_
    · have := dict_pairs (l := evD evs) (by rw [evD_fst, rk]; exact hk)
      unfold evD at this ⊢
      rw [List.map_map] at this
      exact this
    · simp only [List.length_map] at v2
      exact x_rtE List.prefix_rfl (q _ _ ⟨evs, rfl, rk, rg⟩ (by simpa using v1) (by simp; omega))
end Eg
namespace Eg
open Evl (Ex)
open PySem PySem.Spec PyProof.Rows L2 Sn LamX
/-! ### the edition of a told word -/
theorem told_steps {t : Tl} : dgetD t.d (.str "steps") = some (dT t.stL) := rfl
theorem told_tells {t : Tl} : dgetD t.d (.str "tells") = some (dT (snD t.te)) := rfl
theorem told_start {t : Tl} : dgetD t.d (.str "start") = some (.str t.s0) := rfl
local macro_rules | `(tactic| walk_at "st") => `(tactic| first
  | with_reducible refine x_nx ?_ | with_reducible refine x_nxl ?_ | with_reducible refine x_rtn ?_ | with_reducible refine x_rtl ?_ | with_reducible refine x_exn ?_ | with_reducible refine x_exl ?_ | with_reducible refine x_rt0 ?_ | with_reducible refine x_nx0 ?_ | with_reducible refine x_ex0 ?_ | with_reducible refine x_rtK ?_ | with_reducible refine x_nxK ?_ | with_reducible refine x_exK ?_ | with_reducible refine x_seq ?_ | with_reducible refine x_set ?_ | with_reducible refine x_ret ?_ | with_reducible refine x_exp ?_ | with_reducible refine x_if ?_ | with_reducible refine x_nil ?_ | with_reducible refine x_raise ?_ | with_reducible refine x_asgT ?_ | with_reducible refine x_for ?_ | with_reducible refine x_c ?_ | with_reducible refine x_and ?_ | with_reducible refine x_or ?_ | with_reducible refine x_not ?_ | with_reducible refine x_cond ?_ | with_reducible refine x_isB ?_ | with_reducible refine x_anil ?_ | with_reducible refine x_acons ?_ | with_reducible refine x_call ?_ | with_reducible refine x_meth ?_ | with_reducible refine x_prp ?_ | with_reducible refine x_fld ?_ | with_reducible refine x_pur1 ?_ | with_reducible refine x_pur2 ?_ | with_reducible refine x_tup ?_ | with_reducible refine x_lst ?_ | with_reducible refine x_lc ?_ | with_reducible refine x_lc2 ?_ | with_reducible refine x_dc ?_ | with_reducible refine x_seqI ?_ | with_reducible refine x_val ?_ | with_reducible refine x_rg1 ?_ | with_reducible refine x_chn ?_ | with_reducible refine x_mk ?_ | with_reducible refine x_fldS ?_ | with_reducible refine x_mkX ?_ | with_reducible refine x_isI ?_ | with_reducible refine x_inO ?_ | with_reducible refine x_neO ?_ | with_reducible refine x_lstC ?_ | with_reducible refine x_app ?_ | with_reducible refine x_join ?_ | with_reducible refine x_sl ?_ | with_reducible refine x_putD ?_ | with_reducible refine x_dnC ?_ | with_reducible refine x_dict ?_ | with_reducible refine x_dic ?_
  | ((with_reducible apply x_var); rfl) | ((with_reducible apply x_fld1); rfl) | ((with_reducible apply x_isO); rfl) | ((with_reducible apply x_gall); rfl) | ((with_reducible apply x_it); rfl) | ((with_reducible apply x_und2); (simp only [unD, Option.map_some]; rfl); (rw [sizeLine_eq]; exact Nat.le_of_ble_eq_true rfl)) | ((with_reducible apply x_und); rfl) | refine x_ift ?_ | refine x_iff ?_
  | ((with_reducible apply x_isi); rfl; decide; decide) | ((with_reducible apply x_isi'); rfl; decide; decide) | ((with_reducible apply x_p1); rfl) | ((with_reducible apply x_p2); rfl))
local macro_rules | `(tactic| walk_at "st2") => `(tactic| first
  | with_reducible refine x_p2 told_steps ?_ | with_reducible refine x_p2 told_tells ?_ | with_reducible refine x_p2 told_start ?_ | walk_at "st")

def Tl.row (t : Tl) (k : Str) : List (Str × Str) := ((t.st.find? fun p => decide (p.1 = k)).map (·.2)).getD []
def Tl.edD (t : Tl) (CE : Addr) : D := edG CE ((srtS t.states).map fun k => (k, dT (srtK (snD (t.row k))))) (dT (srtK (snD t.te))) (.str t.s0)
section
variable {t : Tl} {ks : List Str} {a b : Nat}
theorem row_mem (k : Str) (h : k ∈ t.states) : (k, t.row k) ∈ t.st := by
  unfold Tl.row
  cases hf : t.st.find? fun p => decide (p.1 = k) with
  | none =>
    obtain ⟨p, hp, rfl⟩ := List.mem_map.mp h
    have := List.find?_eq_none.mp hf p hp
    simp at this
  | some p =>
    have h1 := List.find?_some hf
    simp only [decide_eq_true_eq] at h1
    show (k, p.2) ∈ _
    rw [← h1]
    exact List.mem_of_find?_eq_some hf
theorem fst_uniq {α : Type} : ∀ {l : List (Str × α)}, (l.map (·.1)).Nodup → ∀ {k : Str} {x y : α}, (k, x) ∈ l → (k, y) ∈ l → x = y := by
  intro l
  induction l with
  | nil => intro _ _ _ _ h; cases h
  | cons a r ih =>
    intro hn k x y h1 h2
    rw [List.map_cons, List.nodup_cons] at hn
    rcases List.mem_cons.mp h1 with e1 | h1
    · rcases List.mem_cons.mp h2 with e2 | h2
      · rw [← e1] at e2; injection e2 with _ e2; exact e2.symm
      · exact absurd (List.mem_map_of_mem (f := (·.1)) h2) (by rw [← e1] at hn; exact hn.1)
    · rcases List.mem_cons.mp h2 with e2 | h2
      · exact absurd (List.mem_map_of_mem (f := (·.1)) h1) (by rw [← e2] at hn; exact hn.1)
      · exact ih hn.2 h1 h2
theorem row_eq (hn : t.states.Nodup) {k : Str} {r : List (Str × Str)} (h : (k, r) ∈ t.st) : t.row k = r :=
  fst_uniq hn (row_mem k (List.mem_map_of_mem (f := (·.1)) h)) h
theorem lk_stL (k : Str) : lk t.stL k = (t.st.find? fun p => decide (p.1 = k)).map fun p => dT (snD p.2) := by
  unfold lk Tl.stL
  generalize t.st = l
  induction l with
  | nil => rfl
  | cons p r ih =>
    rw [List.map_cons, List.find?_cons, List.find?_cons]
    by_cases h : p.1 = k
    · simp [h]
    · simp only [h, decide_false]
      exact ih
theorem lk_row (k : Str) (h : k ∈ t.states) : lk t.stL k = some (dT (snD (t.row k))) := by
  rw [lk_stL]
  unfold Tl.row
  cases hf : t.st.find? fun p => decide (p.1 = k) with
  | none =>
    obtain ⟨p, hp, rfl⟩ := List.mem_map.mp h
    have := List.find?_eq_none.mp hf p hp
    simp at this
  | some p => rfl
end
/-- (state, row) pairs as the law lays them out -/
def layL (L : List (Str × List (Str × Str))) : List (Str × D) := L.map fun p => (p.1, dT (snD p.2))
theorem layL_fst (L : List (Str × List (Str × Str))) : (layL L).map (·.1) = L.map (·.1) := by unfold layL; rw [List.map_map]; rfl
theorem isWD_sn {l : List (Str × Str)} (h : ∀ q ∈ l, isW q.2 = true) : (vsOf (dT (snD l))).all isWD = true := by
  rw [vsOf_dT, List.all_eq_true]
  intro x hx
  obtain ⟨p, hp, rfl⟩ := List.mem_map.mp hx
  obtain ⟨q, hq, rfl⟩ := List.mem_map.mp hp
  exact h q hq
theorem sameS_iff {a b : List Str} (h : ∀ x, x ∈ a ↔ x ∈ b) : sameS a b = true := by
  unfold sameS
  simp only [Bool.and_eq_true, List.all_eq_true, decide_eq_true_eq]
  exact ⟨fun x hx => (h x).mp hx, fun x hx => (h x).mpr hx⟩
theorem edB_good {t : Tl} {ks : List Str} {L : List (Str × List (Str × Str))} (g : t.Good ks 5 4) (h1 : (L.map (·.1)).Perm t.states) (h2 : ∀ p ∈ L, (p.2.map (·.1)).Perm ks ∧ ∀ q ∈ p.2, q.2 ∈ t.states) : edB (dT (layL L)) (dT (snD t.te)) (.str t.s0) = true := by
  have hl : L.length = t.states.length := by have := h1.length_eq; simpa using this
  have hw : ∀ p ∈ L, isW p.1 = true := fun p hp => g.sw.2 _ (h1.mem_iff.mp (List.mem_map_of_mem hp))
  have hr : ∀ p ∈ L, rowB 4 (dT (snD p.2)) = true := fun p hp => by
    have e := (h2 p hp).1.length_eq
    have k1 := g.k1
    have k2 := g.k2
    simp only [List.length_map] at e
    refine rowB_of (by unfold snD; simp; omega) (by unfold snD; simp; omega) fun q hq => ?_
    obtain ⟨z, hz, rfl⟩ := List.mem_map.mp hq
    exact g.kw.2 _ ((h2 p hp).1.mem_iff.mp (List.mem_map_of_mem hz))
  have hs : ∀ w ∈ t.states, isW w = true := g.sw.2
  have s1 := g.s1
  have s2 := g.s2
  have ev : vsOf (dT (layL L)) = L.map fun p => dT (snD p.2) := by rw [vsOf_dT]; unfold layL; rw [List.map_map]; rfl
  unfold edB stepsB tellsB
  simp only [Bool.and_eq_true]
  refine ⟨⟨⟨⟨⟨?_, ?_⟩, ?_⟩, ?_⟩, ⟨rfl, ?_⟩, ?_⟩, ?_⟩
  · refine rowB_of (by unfold layL; simp; omega) (by unfold layL; simp; omega) fun p hp => ?_
    obtain ⟨z, hz, rfl⟩ := List.mem_map.mp hp
    exact hw z hz
  · rw [ev, List.all_eq_true]
    intro x hx
    obtain ⟨p, hp, rfl⟩ := List.mem_map.mp hx
    exact hr p hp
  · rw [ev, List.all_eq_true]
    intro x hx
    obtain ⟨p, hp, rfl⟩ := List.mem_map.mp hx
    cases L with
    | nil => cases hp
    | cons z r =>
      show sameS (ksOf (dT (snD p.2))) (ksOf (dT (snD z.2))) = true
      rw [ksOf_dT, ksOf_dT, snD_fst, snD_fst]
      exact sameS_iff fun x => (h2 p hp).1.mem_iff.trans (h2 z (.head _)).1.mem_iff.symm
  · rw [ev, List.all_eq_true]
    intro x hx
    obtain ⟨p, hp, rfl⟩ := List.mem_map.mp hx
    rw [vsOf_dT, ksOf_dT, layL_fst, List.all_eq_true]
    intro y hy
    obtain ⟨q, hq, rfl⟩ := List.mem_map.mp hy
    obtain ⟨z, hz, rfl⟩ := List.mem_map.mp hq
    have hm := (h2 p hp).2 z hz
    show (isW z.2 && decide (z.2 ∈ _)) = true
    rw [hs _ hm, decide_eq_true (h1.mem_iff.mpr hm)]
    rfl
  · rw [ksOf_dT, ksOf_dT, snD_fst, layL_fst, g.te1]
    exact sameS_iff fun x => h1.mem_iff.symm
  · exact isWD_sn g.te2
  · show (isW t.s0 && decide (t.s0 ∈ _)) = true
    rw [ksOf_dT, layL_fst, hs _ g.s0, decide_eq_true (h1.mem_iff.mpr g.s0)]
    rfl
theorem kn_str {cs : List Addr} {w : Str} (h : isW w = true) : Kn cs (.str w) := isW_len h
theorem knS_lay {cs : List Addr} {t : Tl} {ks : List Str} {L : List (Str × List (Str × Str))} (g : t.Good ks 5 4) (h1 : (L.map (·.1)).Perm t.states) (h2 : ∀ p ∈ L, (p.2.map (·.1)).Perm ks ∧ ∀ q ∈ p.2, q.2 ∈ t.states) : KnS cs (dT (layL L)) := by
  have hl : L.length = t.states.length := by have := h1.length_eq; simpa using this
  have s2 := g.s2
  refine ⟨by unfold layL; simp; rw [sizeLine_eq]; omega, fun kv hk => ?_⟩
  obtain ⟨p, hp, rfl⟩ := List.mem_map.mp hk
  obtain ⟨z, hz, rfl⟩ := List.mem_map.mp hp
  refine ⟨isW_len (g.sw.2 _ (h1.mem_iff.mp (List.mem_map_of_mem hz))), ?_⟩
  have e := (h2 z hz).1.length_eq
  have k2 := g.k2
  simp only [List.length_map] at e
  refine ⟨by unfold snD; simp; rw [sizeLine_eq]; omega, fun kv hk => ?_⟩
  obtain ⟨p, hp, rfl⟩ := List.mem_map.mp hk
  obtain ⟨q, hq, rfl⟩ := List.mem_map.mp hp
  exact ⟨isW_len (g.kw.2 _ ((h2 z hz).1.mem_iff.mp (List.mem_map_of_mem hq))), kn_str (g.sw.2 _ ((h2 z hz).2 q hq))⟩
theorem snD_perm {a b : List (Str × Str)} (h : a.Perm b) : (snD a).Perm (snD b) := h.map _
/-- what is laid out, made an edition, is the edition of the word -/
theorem edO_eq {t : Tl} {ks : List Str} {CE : Addr} {L : List (Str × List (Str × Str))} (g : t.Good ks 5 4) (h1 : (L.map (·.1)).Perm t.states) (h3 : ∀ p ∈ L, p.2.Perm (t.row p.1)) : edO CE (layL L) (snD t.te) (.str t.s0) = t.edD CE := by
  have hn : (L.map (·.1)).Nodup := h1.nodup_iff.mpr g.sw.1
  unfold Tl.edD
  show D.obj CE [("own_steps", stD (layL L)), _, _] = D.obj CE [("own_steps", _), _, _]
  have : stD (layL L) = dT ((srtS t.states).map fun k => (k, dT (srtK (snD (t.row k))))) := by
    unfold stD
    rw [layL_fst, srtS_eq h1]
    congr 1
    refine List.map_congr_left fun k hk => ?_
    have hk := h1.mem_iff.mpr (srt_mem.mp hk)
    obtain ⟨p, hp, rfl⟩ := List.mem_map.mp hk
    have e : lk (layL L) p.1 = some (dT (snD p.2)) := lk_self (l := layL L) (p := (p.1, dT (snD p.2))) (by rw [layL_fst]; exact hn) (List.mem_map_of_mem (f := fun p : Str × List (Str × Str) => (p.1, dT (snD p.2))) hp)
    rw [e]
    show (p.1, dT (srtK (unT (dT (snD p.2))))) = _
    rw [unT_dT, srtK_perm (snD_perm (h3 p hp)) (by
      rw [snD_fst]
      have hm := row_mem (t := t) p.1 (h1.mem_iff.mp (List.mem_map_of_mem hp))
      have := (g.rows _ hm).1
      rw [((h3 p hp).map (·.1)).nodup_iff, this]
      exact g.kw.1)]
  rw [this]
theorem ru_ledition {cs : List Addr} {CE xNE : Addr} {t : Tl} {ks : List Str} (g : t.Good ks 5 4) : Ru (m_l_edition CE cs xNE) [t.d] (t.edD CE) := by
  intro μ E Q q
  obtain ⟨ce, T⟩ := μ
  have s2 := g.s2
  refine x_mdef rfl ?_
  repeat walk_at "st2"
  show forGo _ _ _ (((t.stL.map fun p => ((Sum.inr p.1 : Key), p.2)).map fun kv => kD' kv.1).reverse.map R.d) _ _
  rw [ks_typed, stL_fst, show (t.states.map D.str).reverse.map R.d = t.states.reverse.map (fun s => R.d (.str s)) from by rw [← List.map_reverse, List.map_map]; rfl]
  refine for_go (fun i ς μ => ∃ (L : List (Str × List (Str × Str))) (a2 a3 : Option R), L.map (·.1) = t.states.reverse.take i ∧ (∀ p ∈ L, p.2.Perm (t.row p.1)) ∧ ς = [some (.d t.d), some (.cell ce.length), a2, a3] ∧ μ = ⟨ce ++ [.dic (L.map fun p => (Sum.inr p.1, R.d (dT (snD p.2))))], T⟩) (n := 0) ?_ ?_ ?_
  · rintro i x hx ς μ ⟨L, a2, a3, e1, e2, rfl, rfl⟩ K hK
    refine ⟨_, rfl, ?_⟩
    simp only [List.set_cons_succ, List.set_cons_zero]
    obtain ⟨hi, ex⟩ := List.getElem?_eq_some_iff.mp hx
    simp only [List.length_map] at hi
    have ex : x = .d (.str t.states.reverse[i]) := by rw [← ex]; simp
    subst ex
    have nr : t.states.reverse.Nodup := (List.reverse_perm _).nodup_iff.mpr g.sw.1
    have nn : t.states.reverse[i] ∉ t.states.reverse.take i := fun hm => by
      obtain ⟨j, hj, e⟩ := List.mem_iff_getElem.mp hm
      simp only [List.length_take] at hj
      rw [List.getElem_take] at e
      exact (List.pairwise_iff_getElem.mp nr) j i (by omega) hi (by omega) e
    have tk : t.states.reverse.take (0 + i + 1) = t.states.reverse.take (0 + i) ++ [t.states.reverse[i]] := by rw [Nat.zero_add, List.take_succ_eq_append_getElem hi]
    have ll : L.length = i := by have := congrArg List.length e1; simp at this; simp at hi; omega
    have hk : t.states.reverse[i] ∈ t.states := List.mem_reverse.mp (List.getElem_mem hi)
    generalize hkk : t.states.reverse[i] = k at *
    have rr := (g.rows _ (row_mem k hk)).1
    have step : ∀ row : List (Str × Str), row.Perm (t.row k) → ∀ a3, putDK (((endN ⟨ce, T⟩ E Q).nxt (sFz 1 (sRet (eMkF CE (m_Edition___init cs xNE CE) (aCons (eVar 1) (aCons (ePur2 dgetD (eVar 0) (eC (.str "tells"))) (aCons (ePur2 dgetD (eVar 0) (eC (.str "start"))) aNil))))) (endN ⟨ce, T⟩ E Q))).lp K) [some (.d t.d), some (.cell ce.length), some (.d (.str k)), a3] (.d (dT (snD row))) (.cell ce.length) (.d (.str k)) ⟨ce ++ [.dic (L.map fun p => (Sum.inr p.1, R.d (dT (snD p.2))))], T⟩ := by
      intro row hrow a3
      refine x_putD1 get_last (by simp; rw [sizeLine_eq]; simp at hi; omega) ?_
      rw [put_last, putKD_new (by
        rw [List.map_map]
        intro hm
        obtain ⟨p, hp, e⟩ := List.mem_map.mp hm
        injection e with e
        exact nn (by rw [show t.states.reverse.take i = L.map (·.1) from by rw [e1, Nat.zero_add], ← e]; exact List.mem_map_of_mem hp))]
      refine x_nxl (hK _ _ ⟨L ++ [(k, row)], _, _, by rw [tk, List.map_append, e1]; rfl, fun p hp => ?_, rfl, by simp⟩)
      rcases List.mem_append.mp hp with h | h
      · exact e2 p h
      · rw [List.mem_singleton.mp h]; exact hrow
    repeat walk_at "st2"
    refine x_p2 (dget_typed (lk_row k hk)) ?_
    repeat walk_at "st2"
    refine x_p1v (vw_dT (fun p : Str × List (Str × Str) => p.1) (fun p => dT (snD p.2)) get_last) rfl ?_
    repeat walk_at "st2"
    split
    · repeat walk_at "st2"
      refine x_p1 (z := dT (snD (t.row k).reverse)) ?_ ?_
      · have := dict_pairs (l := snD (t.row k).reverse) (by rw [snD_fst, List.map_reverse, rr]; exact (List.reverse_perm _).nodup_iff.mpr g.kw.1)
        show (dictD (.lst (((snD (t.row k)).map fun p => ((Sum.inr p.1 : Key), p.2)).map fun kv => D.tup [kD' kv.1, kv.2]).reverse)).map D.dic = _
        rw [← this]
        congr 3
        unfold snD
        rw [List.map_reverse, List.map_reverse, List.map_map]
        rfl
      · repeat walk_at "st2"
        exact step _ (List.reverse_perm _) _
    · repeat walk_at "st2"
      exact step _ (List.Perm.refl _) _
  · exact ⟨[], none, none, by simp, by simp, rfl, by simp⟩
  · rintro ς μ ⟨L, a2, a3, e1, e2, rfl, rfl⟩
    rw [show 0 + (t.states.reverse.map (fun s => R.d (.str s))).length = t.states.reverse.length from by simp, List.take_length] at e1
    have h1 : (L.map (·.1)).Perm t.states := by rw [e1]; exact List.reverse_perm _
    have h2 : ∀ p ∈ L, (p.2.map (·.1)).Perm ks ∧ ∀ q ∈ p.2, q.2 ∈ t.states := fun p hp => by
      have hm := g.rows _ (row_mem (t := t) p.1 (h1.mem_iff.mp (List.mem_map_of_mem hp)))
      exact ⟨by have := (e2 p hp).map (·.1); rw [hm.1] at this; exact this, fun q hq => hm.2 q ((e2 p hp).mem_iff.mp hq)⟩
    refine x_nx ?_
    refine x_fz rfl (x := dT (layL L)) (vw_dT (fun p : Str × List (Str × Str) => p.1) (fun p => dT (snD p.2)) get_last) ?_
    rw [put_last]
    repeat walk_at "st2"
    have tl : t.te.length = t.states.length := by have := congrArg List.length g.te1; simpa using this
    refine mk_ed (knS_lay g h1 h2) (.inl ⟨snD t.te, rfl, by unfold snD; simp; omega, fun p hp => ?_⟩) (kn_str (g.sw.2 _ g.s0)) (fun h => ?_) fun _ => ⟨?_, fun p hp => ?_, ?_, ?_⟩
    · obtain ⟨q, hq, rfl⟩ := List.mem_map.mp hp
      exact kn_str (g.te2 q hq)
    · rw [edB_good g h1 h2] at h; cases h
    · rw [unT_dT, layL_fst]; exact h1.nodup_iff.mpr g.sw.1
    · rw [unT_dT] at hp
      obtain ⟨z, hz, rfl⟩ := List.mem_map.mp hp
      rw [unT_dT, snD_fst]
      exact (h2 z hz).1.nodup_iff.mpr g.kw.1
    · rw [unT_dT, snD_fst, g.te1]; exact g.sw.1
    · rw [unT_dT, unT_dT, edO_eq g h1 e2]
      exact x_rtE (List.prefix_append _ _) q
end Eg
namespace Eg
open Evl (Ex)
open PySem PySem.Spec PyProof.Rows L2 Sn LamX
local macro_rules | `(tactic| walk_at "st") => `(tactic| first
  | with_reducible refine x_nx ?_ | with_reducible refine x_nxl ?_ | with_reducible refine x_rtn ?_ | with_reducible refine x_rtl ?_ | with_reducible refine x_exn ?_ | with_reducible refine x_exl ?_ | with_reducible refine x_rt0 ?_ | with_reducible refine x_nx0 ?_ | with_reducible refine x_ex0 ?_ | with_reducible refine x_rtK ?_ | with_reducible refine x_nxK ?_ | with_reducible refine x_exK ?_ | with_reducible refine x_seq ?_ | with_reducible refine x_set ?_ | with_reducible refine x_ret ?_ | with_reducible refine x_exp ?_ | with_reducible refine x_if ?_ | with_reducible refine x_nil ?_ | with_reducible refine x_raise ?_ | with_reducible refine x_asgT ?_ | with_reducible refine x_for ?_ | with_reducible refine x_c ?_ | with_reducible refine x_and ?_ | with_reducible refine x_or ?_ | with_reducible refine x_not ?_ | with_reducible refine x_cond ?_ | with_reducible refine x_isB ?_ | with_reducible refine x_anil ?_ | with_reducible refine x_acons ?_ | with_reducible refine x_call ?_ | with_reducible refine x_meth ?_ | with_reducible refine x_prp ?_ | with_reducible refine x_fld ?_ | with_reducible refine x_pur1 ?_ | with_reducible refine x_pur2 ?_ | with_reducible refine x_tup ?_ | with_reducible refine x_lst ?_ | with_reducible refine x_lc ?_ | with_reducible refine x_lc2 ?_ | with_reducible refine x_dc ?_ | with_reducible refine x_seqI ?_ | with_reducible refine x_val ?_ | with_reducible refine x_rg1 ?_ | with_reducible refine x_chn ?_ | with_reducible refine x_mk ?_ | with_reducible refine x_fldS ?_ | with_reducible refine x_mkX ?_ | with_reducible refine x_isI ?_ | with_reducible refine x_inO ?_ | with_reducible refine x_neO ?_ | with_reducible refine x_lstC ?_ | with_reducible refine x_app ?_ | with_reducible refine x_join ?_ | with_reducible refine x_sl ?_ | with_reducible refine x_putD ?_ | with_reducible refine x_dnC ?_ | with_reducible refine x_dict ?_ | with_reducible refine x_dic ?_
  | ((with_reducible apply x_var); rfl) | ((with_reducible apply x_fld1); rfl) | ((with_reducible apply x_isO); rfl) | ((with_reducible apply x_gall); rfl) | ((with_reducible apply x_it); rfl) | ((with_reducible apply x_und2); (simp only [unD, Option.map_some]; rfl); (rw [sizeLine_eq]; exact Nat.le_of_ble_eq_true rfl)) | ((with_reducible apply x_und); rfl) | refine x_ift ?_ | refine x_iff ?_
  | ((with_reducible apply x_isi); rfl; decide; decide) | ((with_reducible apply x_isi'); rfl; decide; decide) | ((with_reducible apply x_p1); rfl) | ((with_reducible apply x_p2); rfl))
local macro_rules | `(tactic| walk_at "st2") => `(tactic| first
  | with_reducible refine x_p2 told_steps ?_ | with_reducible refine x_p2 told_tells ?_ | with_reducible refine x_p2 told_start ?_ | walk_at "st")

/-! ### _law_is_due -/
def dueB (evs : List (Str × List Str)) (sns : List (Str × Str)) (kl sl kh sh : List Str) : Bool :=
  decide (srtS (evs.map (·.1)) = srtS kl) && decide (srtS (sns.map (·.1)) = srtS sl) && (evs.all fun p => p.2.all fun w => decide (w ∈ srtS kh)) && sns.all fun p => decide (p.2 ∈ sh)
theorem all_ok {a : List Str} (h : ∀ w ∈ a, isW w = true) : ∀ w ∈ srtS a, PyData.strOk w = true := fun w hw => isW_ok (h w (srt_mem.mp hw))
theorem filter_nil {α : Type} (p : α → Bool) (l : List α) : decide (l.filter (fun x => !p x) = []) = l.all p := by
  rw [Bool.eq_iff_iff]
  simp [List.filter_eq_nil_iff, List.all_eq_true]
theorem ru_due {evs : List (Str × List Str)} {sns : List (Str × Str)} {lo hi : Tl} {kl kh : List Str} (gl : lo.Good kl 5 4) (gh : hi.Good kh 5 4) (w1 : ∀ p ∈ evs, isW p.1 = true) (w2 : ∀ p ∈ sns, isW p.1 = true) (w3 : ∀ p ∈ evs, ∀ w ∈ p.2, isW w = true) (w4 : ∀ p ∈ sns, isW p.2 = true) (z1 : evs.length ≤ 5) (z2 : sns.length ≤ 6) (z3 : ∀ p ∈ evs, p.2.length ≤ 27) :
    Ru m_l_is_due [dT (evD evs), dT (snD sns), lo.d, hi.d] (.bl (dueB evs sns kl lo.states kh hi.states)) := by
  intro μ E Q q
  have rl := gl.rows _ (row_mem lo.s0 gl.s0)
  have rh := gh.rows _ (row_mem hi.s0 gh.s0)
  have kl4 := gl.k2
  have kh4 := gh.k2
  have ll : (lo.row lo.s0).length < 64 := by have := congrArg List.length rl.1; simp at this; omega
  have lh : (hi.row hi.s0).length < 64 := by have := congrArg List.length rh.1; simp at this; omega
  have ls := gl.s2
  have a1 : ∀ w ∈ srtS (evs.map (·.1)), PyData.strOk w = true := all_ok fun w hw => by obtain ⟨p, hp, rfl⟩ := List.mem_map.mp hw; exact w1 p hp
  have a2 : ∀ w ∈ srtS (sns.map (·.1)), PyData.strOk w = true := all_ok fun w hw => by obtain ⟨p, hp, rfl⟩ := List.mem_map.mp hw; exact w2 p hp
  have a3 : ∀ w ∈ srtS kl, PyData.strOk w = true := all_ok gl.kw.2
  have a4 : ∀ w ∈ srtS lo.states, PyData.strOk w = true := all_ok gl.sw.2
  refine x_mdef rfl ?_
  repeat walk_at "st2"
  refine x_p1 (sortD_typed (by unfold evD; simp; omega)) ?_
  rw [evD_fst]
  repeat walk_at "st2"
  refine ru_lkinds (lk_row lo.s0 gl.s0) ll _ _ _ ?_
  rw [rl.1]
  refine x_p2 (ne_strsL a1 a3) ?_
  repeat walk_at "st2"
  split
  · rename_i c1
    repeat walk_at "st2"
    have : dueB evs sns kl lo.states kh hi.states = false := by unfold dueB; rw [nt c1]; simp
    rw [this] at q; exact q
  · rename_i c1
    have c1 := nf c1
    repeat walk_at "st2"
    refine x_p1 (sortD_typed (by unfold snD; simp; omega)) ?_
    rw [snD_fst]
    repeat walk_at "st2"
    refine x_p1 (sortD_typed (by have := congrArg List.length (stL_fst lo); simp at this; omega)) ?_
    rw [stL_fst]
    refine x_p2 (ne_strsL a2 a4) ?_
    repeat walk_at "st2"
    split
    · rename_i c2
      repeat walk_at "st2"
      have : dueB evs sns kl lo.states kh hi.states = false := by unfold dueB; rw [nt c2]; simp
      rw [this] at q; exact q
    · rename_i c2
      have c2 := nf c2
      repeat walk_at "st2"
      rw [vs_typed, show (evD evs).map (·.2) = evs.map (fun p => D.tup (p.2.map D.str)) from by unfold evD; rw [List.map_map]; rfl, show (evs.map (fun p => D.tup (p.2.map D.str))).map R.d = evs.map (fun p => R.d (.tup (p.2.map D.str))) from by rw [List.map_map]; rfl]
      refine for_go (fun i ς μ' => μ' = μ ∧ ((evs.take i).all fun p => p.2.all fun w => decide (w ∈ srtS kh)) = true ∧ ∃ a4 a5 a6, ς = [some (.d (dT (evD evs))), some (.d (dT (snD sns))), some (.d lo.d), some (.d hi.d), a4, a5, a6]) (n := 0) ?_ ⟨rfl, rfl, none, none, none, rfl⟩ ?_
      · rintro i x hx ς μ' ⟨rfl, hall, a4, a5, a6, rfl⟩ K hK
        refine ⟨_, rfl, ?_⟩
        simp only [List.set_cons_succ, List.set_cons_zero]
        obtain ⟨hi', ex⟩ := List.getElem?_eq_some_iff.mp hx
        simp only [List.length_map] at hi'
        have ex : x = .d (.tup (evs[i].2.map D.str)) := by rw [← ex]; simp
        subst ex
        have hm : evs[i] ∈ evs := List.getElem_mem hi'
        repeat walk_at "st2"
        rw [show (evs[i].2.map D.str).map R.d = evs[i].2.map (fun w => R.d (.str w)) from by rw [List.map_map]; rfl]
        refine lc_flt D.str D.str (fun w => !decide (w ∈ srtS kh)) (fun w hw => ⟨fun Q q => ?_, fun _ Q q => ?_⟩) (by have := z3 _ hm; rw [sizeLine_eq]; omega) ?_
        · repeat walk_at "st2"
          refine ru_lkinds (lk_row hi.s0 gh.s0) lh _ _ _ ?_
          rw [rh.1]
          refine x_p2 in_strsL ?_
          rw [Bool.true_xor]
          exact q
        · repeat walk_at "st2"
          exact q
        · repeat walk_at "st2"
          have okf : ∀ w ∈ evs[i].2.filter (fun w => !decide (w ∈ srtS kh)), PyData.strOk w = true := fun w hw => isW_ok (w3 _ hm w (List.mem_filter.mp hw).1)
          refine x_p2 (ne_strsL (b := []) okf (fun _ h => nomatch h)) ?_
          rw [filter_nil (fun w => decide (w ∈ srtS kh))]
          repeat walk_at "st2"
          split
          · rename_i c3
            repeat walk_at "st2"
            have : dueB evs sns kl lo.states kh hi.states = false := by
              have e : (evs.all fun p => p.2.all fun w => decide (w ∈ srtS kh)) = false := List.all_eq_false.mpr ⟨evs[i], hm, by rw [nt c3]; simp⟩
              unfold dueB; rw [e]; simp
            rw [this] at q; exact q
          · rename_i c3
            repeat walk_at "st2"
            refine hK _ _ ⟨rfl, ?_, _, _, _, rfl⟩
            rw [Nat.zero_add] at hall ⊢
            rw [List.take_succ_eq_append_getElem hi', List.all_append, hall]
            simpa using nf c3
      · rintro ς μ' ⟨rfl, hall, a4, a5, a6, rfl⟩
        rw [show 0 + (evs.map (fun p => R.d (.tup (p.2.map D.str)))).length = evs.length from by simp, List.take_length] at hall
        repeat walk_at "st2"
        show lcGo _ _ _ _ _ ((((snD sns).map fun p => ((Sum.inr p.1 : Key), p.2)).map (·.2)).map R.d) _ _
        rw [vs_typed, show ((snD sns).map (·.2)).map R.d = sns.map (fun p => R.d (.str p.2)) from by unfold snD; rw [List.map_map, List.map_map]; rfl]
        refine lc_flt (fun p : Str × Str => D.str p.2) (fun p => D.str p.2) (fun p => !decide (p.2 ∈ hi.states)) (fun p hp => ⟨fun Q q => ?_, fun _ Q q => ?_⟩) (by rw [sizeLine_eq]; omega) ?_
        · repeat walk_at "st2"
          refine x_p2 in_typed ?_
          rw [Bool.true_xor, stL_fst]
          exact q
        · repeat walk_at "st2"
          exact q
        · repeat walk_at "st2"
          rw [show (sns.filter fun p => !decide (p.2 ∈ hi.states)).map (fun p => D.str p.2) = ((sns.filter fun p => !decide (p.2 ∈ hi.states)).map (·.2)).map D.str from by rw [List.map_map]; rfl]
          refine x_p2 (eq_strsL (b := []) (fun w hw => ?_) (fun _ h => nomatch h)) ?_
          · obtain ⟨p, hp, rfl⟩ := List.mem_map.mp hw
            exact isW_ok (w4 p (List.mem_filter.mp hp).1)
          · refine x_rt0 ?_
            have e : decide ((sns.filter fun p => !decide (p.2 ∈ hi.states)).map (·.2) = []) = sns.all fun p => decide (p.2 ∈ hi.states) := by
              rw [← filter_nil (fun p : Str × Str => decide (p.2 ∈ hi.states))]
              simp
            have : dueB evs sns kl lo.states kh hi.states = sns.all fun p => decide (p.2 ∈ hi.states) := by unfold dueB; rw [c1, c2, hall]; simp
            rw [e, ← this]
            exact q
end Eg
namespace Eg
open Evl (Ex)
open PySem PySem.Spec PyProof.Rows L2 Sn LamX
local macro_rules | `(tactic| walk_at "st") => `(tactic| first
  | with_reducible refine x_nx ?_ | with_reducible refine x_nxl ?_ | with_reducible refine x_rtn ?_ | with_reducible refine x_rtl ?_ | with_reducible refine x_exn ?_ | with_reducible refine x_exl ?_ | with_reducible refine x_rt0 ?_ | with_reducible refine x_nx0 ?_ | with_reducible refine x_ex0 ?_ | with_reducible refine x_rtK ?_ | with_reducible refine x_nxK ?_ | with_reducible refine x_exK ?_ | with_reducible refine x_seq ?_ | with_reducible refine x_set ?_ | with_reducible refine x_ret ?_ | with_reducible refine x_exp ?_ | with_reducible refine x_if ?_ | with_reducible refine x_nil ?_ | with_reducible refine x_raise ?_ | with_reducible refine x_asgT ?_ | with_reducible refine x_for ?_ | with_reducible refine x_c ?_ | with_reducible refine x_and ?_ | with_reducible refine x_or ?_ | with_reducible refine x_not ?_ | with_reducible refine x_cond ?_ | with_reducible refine x_isB ?_ | with_reducible refine x_anil ?_ | with_reducible refine x_acons ?_ | with_reducible refine x_call ?_ | with_reducible refine x_meth ?_ | with_reducible refine x_prp ?_ | with_reducible refine x_fld ?_ | with_reducible refine x_pur1 ?_ | with_reducible refine x_pur2 ?_ | with_reducible refine x_tup ?_ | with_reducible refine x_lst ?_ | with_reducible refine x_lc ?_ | with_reducible refine x_lc2 ?_ | with_reducible refine x_dc ?_ | with_reducible refine x_seqI ?_ | with_reducible refine x_val ?_ | with_reducible refine x_rg1 ?_ | with_reducible refine x_chn ?_ | with_reducible refine x_mk ?_ | with_reducible refine x_fldS ?_ | with_reducible refine x_mkX ?_ | with_reducible refine x_isI ?_ | with_reducible refine x_inO ?_ | with_reducible refine x_neO ?_ | with_reducible refine x_lstC ?_ | with_reducible refine x_app ?_ | with_reducible refine x_join ?_ | with_reducible refine x_sl ?_ | with_reducible refine x_putD ?_ | with_reducible refine x_dnC ?_ | with_reducible refine x_dict ?_ | with_reducible refine x_dic ?_
  | ((with_reducible apply x_var); rfl) | ((with_reducible apply x_fld1); rfl) | ((with_reducible apply x_isO); rfl) | ((with_reducible apply x_gall); rfl) | ((with_reducible apply x_it); rfl) | ((with_reducible apply x_und2); (simp only [unD, Option.map_some]; rfl); (rw [sizeLine_eq]; exact Nat.le_of_ble_eq_true rfl)) | ((with_reducible apply x_und); rfl) | refine x_ift ?_ | refine x_iff ?_
  | ((with_reducible apply x_isi); rfl; decide; decide) | ((with_reducible apply x_isi'); rfl; decide; decide) | ((with_reducible apply x_p1); rfl) | ((with_reducible apply x_p2); rfl))
local macro_rules | `(tactic| walk_at "st2") => `(tactic| first
  | with_reducible refine x_p2 told_steps ?_ | with_reducible refine x_p2 told_tells ?_ | with_reducible refine x_p2 told_start ?_ | walk_at "st")

/-! ### _law_bent -/
def copyK (Q : RK) (r : R) (μ1 : Sto) : Prop := (vw μ1 r).elim False fun x => (dictD x).elim False fun kd => Q (.cell μ1.cs.length) ⟨μ1.cs ++ [.dic (kd.map fun kv => (kv.1, R.d kv.2))], μ1.T⟩
theorem x_dictC {a : EM} {ς : Sl} {μ : Sto} {E : XC} {Q : RK} (h : a ς μ E (copyK Q)) : eDictC a ς μ E Q := h
def popK (k : EM) (ς : Sl) (E : XC) (Q : RK) (r : R) (μ1 : Sto) : Prop := match r with
  | .cell n => (match μ1.cs[n]? with | some (.dic _) => True | _ => False) ∧ k ς μ1 E fun rk μ2 => match μ2.cs[n]? with
    | some (.dic kr) => (keyR rk).elim False fun key => (valR kr key).elim False fun y => Q y (μ2.put n (.dic (dropKD kr key)))
    | _ => False
  | _ => False
theorem x_pop {o k : EM} {ς : Sl} {μ : Sto} {E : XC} {Q : RK} (h : o ς μ E (popK k ς E Q)) : ePopD o k ς μ E Q := h
/-- a dict of texts, as a cell -/
def cT (l : List (Str × D)) : Ce := .dic (l.map fun p => ((Sum.inr p.1 : Key), R.d p.2))
theorem valR_cT : ∀ {l : List (Str × D)} {k : Str}, valR (l.map fun p => ((Sum.inr p.1 : Key), R.d p.2)) (Sum.inr k) = (lk l k).map R.d
  | [], _ => rfl
  | a :: r, k => by
    have ih := valR_cT (l := r) (k := k)
    unfold valR lk at ih ⊢
    rw [List.map_cons, List.find?_cons, List.find?_cons]
    by_cases h : a.1 = k
    · simp [h]
    · have : ¬ (Sum.inr a.1 : Key) = Sum.inr k := fun z => h (by injection z)
      simp only [this, h, decide_false]
      exact ih
def dropL (l : List (Str × D)) (k : Str) : List (Str × D) := l.filter fun p => decide (p.1 ≠ k)
theorem drop_cT (l : List (Str × D)) (k : Str) : dropKD (l.map fun p => ((Sum.inr p.1 : Key), R.d p.2)) (Sum.inr k) = (dropL l k).map fun p => ((Sum.inr p.1 : Key), R.d p.2) := by
  unfold dropKD dropL
  induction l with
  | nil => rfl
  | cons a r ih =>
    rw [List.map_cons, List.filter_cons, List.filter_cons, ih]
    by_cases h : a.1 = k
    · simp [h]
    · have : ¬ (Sum.inr a.1 : Key) = Sum.inr k := fun z => h (by injection z)
      simp [this, h]
def putL (l : List (Str × D)) (k : Str) (x : D) : List (Str × D) := if k ∈ l.map (·.1) then l.map (fun p => if p.1 = k then (p.1, x) else p) else l ++ [(k, x)]
theorem put_cT (l : List (Str × D)) (k : Str) (x : D) : putKD (l.map fun p => ((Sum.inr p.1 : Key), R.d p.2)) (Sum.inr k) (R.d x) = (putL l k x).map fun p => ((Sum.inr p.1 : Key), R.d p.2) := by
  unfold putKD putL
  have e : ((l.map fun p => ((Sum.inr p.1 : Key), R.d p.2)).any fun kv => decide (kv.1 = Sum.inr k)) = decide (k ∈ l.map (·.1)) := by
    rw [List.any_map, Bool.eq_iff_iff]
    simp only [List.any_eq_true, Function.comp, decide_eq_true_eq, List.mem_map]
    exact ⟨fun ⟨p, hp, h⟩ => ⟨p, hp, by injection h⟩, fun ⟨p, hp, h⟩ => ⟨p, hp, by rw [h]⟩⟩
  rw [e]
  by_cases h : k ∈ l.map (·.1)
  · rw [if_pos (decide_eq_true h), if_pos h, List.map_map, List.map_map]
    refine List.map_congr_left fun p _ => ?_
    by_cases hp : p.1 = k
    · simp [hp]
    · have : ¬ (Sum.inr p.1 : Key) = Sum.inr k := fun z => hp (by injection z)
      simp [hp, this]
  · rw [if_neg (by simpa using h), if_neg h, List.map_append]
    rfl
/-- a dict that may follow from l by one change to x -/
structure Bent (l : List (Str × D)) (x : D) (l' : List (Str × D)) : Prop where
  nd : (l'.map (·.1)).Nodup
  wd : ∀ p ∈ l', isW p.1 = true
  n1 : 1 ≤ l'.length
  n2 : l'.length ≤ max l.length 4
  vs : ∀ p ∈ l', p.2 = x ∨ p.2 ∈ l.map (·.2)
theorem bent_self {l : List (Str × D)} {x : D} (hn : (l.map (·.1)).Nodup) (hw : ∀ p ∈ l, isW p.1 = true) (h1 : 1 ≤ l.length) : Bent l x l := ⟨hn, hw, h1, by omega, fun p hp => .inr (List.mem_map_of_mem hp)⟩
theorem bent_drop {l : List (Str × D)} {x : D} {k : Str} (hn : (l.map (·.1)).Nodup) (hw : ∀ p ∈ l, isW p.1 = true) (h1 : 1 < l.length) (hk : k ∈ l.map (·.1)) : Bent l x (dropL l k) := by
  have hs : (dropL l k).Sublist l := List.filter_sublist
  have hl : l.length ≤ (dropL l k).length + 1 := by
    have := nd_le (a := l.map (·.1)) (b := k :: (dropL l k).map (·.1)) hn fun z hz => by
      by_cases e : z = k
      · rw [e]; exact .head _
      · refine .tail _ ?_
        obtain ⟨p, hp, rfl⟩ := List.mem_map.mp hz
        exact List.mem_map_of_mem (List.mem_filter.mpr ⟨hp, decide_eq_true e⟩)
    simpa using this
  have hl2 := hs.length_le
  exact ⟨(hs.map (·.1)).nodup hn, fun p hp => hw p (hs.subset hp), by omega, by omega, fun p hp => .inr (List.mem_map_of_mem (hs.subset hp))⟩
theorem putL_fst_in {l : List (Str × D)} {k : Str} {x : D} (h : k ∈ l.map (·.1)) : (putL l k x).map (·.1) = l.map (·.1) := by
  unfold putL
  rw [if_pos h, List.map_map]
  refine List.map_congr_left fun p _ => ?_
  by_cases e : p.1 = k <;> simp [e]
theorem putL_mem {l : List (Str × D)} {k : Str} {x : D} {p : Str × D} (h : p ∈ putL l k x) : p.2 = x ∨ p ∈ l := by
  unfold putL at h
  split at h
  · obtain ⟨q, hq, e⟩ := List.mem_map.mp h
    by_cases hk : q.1 = k
    · rw [if_pos hk] at e; rw [← e]; exact .inl rfl
    · rw [if_neg hk] at e; rw [← e]; exact .inr hq
  · rcases List.mem_append.mp h with h | h
    · exact .inr h
    · rw [List.mem_singleton.mp h]; exact .inl rfl
theorem bent_put {l : List (Str × D)} {x y : D} {k : Str} (hn : (l.map (·.1)).Nodup) (hw : ∀ p ∈ l, isW p.1 = true) (h1 : 1 ≤ l.length) (hk : isW k = true) (hy : y = x ∨ y ∈ l.map (·.2)) (hl : k ∈ l.map (·.1) ∨ l.length < 4) : Bent l x (putL l k y) := by
  by_cases h : k ∈ l.map (·.1)
  · have e := putL_fst_in (x := y) h
    have el : (putL l k y).length = l.length := by have := congrArg List.length e; simpa using this
    refine ⟨by rw [e]; exact hn, fun p hp => ?_, by omega, by omega, fun p hp => ?_⟩
    · have : p.1 ∈ (putL l k y).map (·.1) := List.mem_map_of_mem hp
      rw [e] at this
      obtain ⟨q, hq, z⟩ := List.mem_map.mp this
      rw [← z]; exact hw q hq
    · rcases putL_mem hp with z | z
      · rw [z]; exact hy
      · exact .inr (List.mem_map_of_mem z)
  · have hl := hl.resolve_left h
    have e : putL l k y = l ++ [(k, y)] := by unfold putL; rw [if_neg h]
    rw [e]
    refine ⟨?_, fun p hp => ?_, by simp, by simp; omega, fun p hp => ?_⟩
    · rw [List.map_append, List.nodup_append]
      exact ⟨hn, by simp, fun a ha b hb z => h (by simp at hb; rw [← hb, ← z]; exact ha)⟩
    · rcases List.mem_append.mp hp with z | z
      · exact hw p z
      · rw [List.mem_singleton.mp z]; exact hk
    · rcases List.mem_append.mp hp with z | z
      · exact .inr (List.mem_map_of_mem z)
      · rw [List.mem_singleton.mp z]; exact hy
theorem x_dcopy {l : List (Str × D)} {cs : List Ce} {T : Nat} {Q : RK} (h : Q (.cell cs.length) ⟨cs ++ [cT l], T⟩) : copyK Q (R.d (dT l)) ⟨cs, T⟩ := by
  show Q _ ⟨cs ++ [.dic ((l.map fun p => ((Sum.inr p.1 : Key), p.2)).map fun kv => (kv.1, R.d kv.2))], T⟩
  rw [List.map_map]
  exact h
theorem vw_cT {l : List (Str × D)} {cs : List Ce} {T : Nat} : vw ⟨cs ++ [cT l], T⟩ (.cell cs.length) = some (dT l) := by
  have := vw_dT (μ := ⟨cs ++ [cT l], T⟩) (n := cs.length) (l := l) (fun p => p.1) (fun p => p.2) get_last
  rw [this]
  simp
theorem x_pop1 {l : List (Str × D)} {k : Str} {v : D} {i : Nat} {ς : Sl} {cs : List Ce} {T : Nat} {E : XC} {Q : RK} (hi : ς[i]? = some (some (.d (.str k)))) (h : lk l k = some v) (q : Q (.d v) ⟨cs ++ [cT (dropL l k)], T⟩) : popK (eVar i) ς E Q (.cell cs.length) ⟨cs ++ [cT l], T⟩ := by
  refine ⟨by show (match (cs ++ [cT l])[cs.length]? with | some (.dic _) => True | _ => False); rw [get_last]; trivial, x_var hi ?_⟩
  show (match (cs ++ [cT l])[cs.length]? with | some (.dic kr) => _ | _ => _)
  rw [get_last]
  show (valR (l.map fun p => ((Sum.inr p.1 : Key), R.d p.2)) (Sum.inr k)).elim False _
  rw [valR_cT, h]
  show Q (.d v) ((⟨cs ++ [cT l], T⟩ : Sto).put cs.length (.dic (dropKD (l.map fun p => ((Sum.inr p.1 : Key), R.d p.2)) (Sum.inr k))))
  rw [drop_cT, put_last]
  exact q
theorem dw_bent {l : List (Str × D)} {x : D} (hn : (l.map (·.1)).Nodup) (hw : ∀ p ∈ l, isW p.1 = true) (h1 : 1 ≤ l.length) (h5 : l.length ≤ 5) : Dw m_l_bent [.src, .d (dT l), .d x] 5 (fun y => ∃ l', y = dT l' ∧ Bent l x l') := by
  intro cs T E Q hT q
  refine x_mdef rfl ?_
  repeat walk_at "st2"
  refine x_dictC ?_
  repeat walk_at "st2"
  refine x_dcopy ?_
  repeat walk_at "st2"
  refine x_draw (by decide) (by decide) (by omega) fun r r0 r1 => ?_
  repeat walk_at "st2"
  refine x_p1 (sortD_typed (by omega)) ?_
  repeat walk_at "st2"
  have hl : (srtS (l.map (·.1))).length = l.length := by rw [srt_len]; simp
  refine dw_pick (by intro z; have := congrArg List.length z; rw [List.length_map, hl] at this; simp at this; rw [this] at h1; simp at h1) (by rw [List.length_map, hl]; omega) _ _ _ _ (by omega) fun y T1 hy u1 u2 => ?_
  obtain ⟨k, hk, rfl⟩ := List.mem_map.mp hy
  have hk := srt_mem.mp hk
  obtain ⟨v, ev, mv⟩ := lk_some hk
  have fin : ∀ l' T2, Bent l x l' → T1 ≤ T2 → T2 ≤ T1 + 1 → ∀ a5, sFz 3 (sRet (eVar 3)) (endN ⟨cs, T⟩ E Q) [some .src, some (.d (dT l)), some (.d x), some (.cell cs.length), some (.d (.int r)), a5] ⟨cs ++ [cT l'], T2⟩ := by
    intro l' T2 hb a b a5
    refine x_fz rfl vw_cT ?_
    rw [put_last]
    repeat walk_at "st2"
    exact x_rtE (List.prefix_append _ _) (q _ _ ⟨l', rfl, hb⟩ (by simp; omega) (by simp; omega))
  have r3 : r = 0 ∨ r = 1 ∨ r = 2 := by omega
  rcases r3 with rfl | rfl | rfl
  · repeat walk_at "st2"
    refine x_p1v vw_cT rfl ?_
    repeat walk_at "st2"
    split
    · rename_i c1
      have c1 : (1 : Int) < (l.map fun p => ((Sum.inr p.1 : Key), p.2)).length := of_decide_eq_true c1
      simp only [List.length_map] at c1
      repeat walk_at "st2"
      refine x_pop ?_
      repeat walk_at "st2"
      refine x_pop1 rfl ev ?_
      repeat walk_at "st2"
      exact fin _ T1 (bent_drop hn hw (by omega) hk) (Nat.le_refl _) (by omega) _
    · repeat walk_at "st2"
      exact fin _ T1 (bent_self hn hw h1) (Nat.le_refl _) (by omega) _
  · repeat walk_at "st2"
    refine x_p1v vw_cT rfl ?_
    repeat walk_at "st2"
    split
    · rename_i c1
      have c1 : ((l.map fun p => ((Sum.inr p.1 : Key), p.2)).length : Int) < 4 := of_decide_eq_true c1
      simp only [List.length_map] at c1
      repeat walk_at "st2"
      refine x_p2v vw_cT rfl (dget_typed ev) ?_
      repeat walk_at "st2"
      refine dw_pick (xs := [D.str "qa", D.str "zzzzzz"]) (by simp) (by decide) _ _ _ _ (by omega) fun y T2 hy u3 u4 => ?_
      obtain ⟨k2, hk2, rfl⟩ : ∃ k2, isW k2 = true ∧ y = .str k2 := by
        rcases List.mem_cons.mp hy with rfl | hy
        · exact ⟨"qa", by decide +kernel, rfl⟩
        · rw [List.mem_singleton.mp hy]; exact ⟨"zzzzzz", by decide +kernel, rfl⟩
      refine x_putD1 get_last (by simp; rw [sizeLine_eq]; omega) ?_
      rw [put_cT, put_last]
      repeat walk_at "st2"
      exact fin _ T2 (bent_put hn hw h1 hk2 (.inr (List.mem_map_of_mem mv)) (.inr (by omega))) (by omega) (by omega) _
    · repeat walk_at "st2"
      exact fin _ T1 (bent_self hn hw h1) (Nat.le_refl _) (by omega) _
  · repeat walk_at "st2"
    refine x_putD1 get_last (by simp; rw [sizeLine_eq]; omega) ?_
    rw [put_cT, put_last]
    repeat walk_at "st2"
    have kw : isW k = true := by obtain ⟨p, hp, rfl⟩ := List.mem_map.mp hk; exact hw p hp
    exact fin _ T1 (bent_put hn hw h1 kw (.inl rfl) (.inl hk)) (Nat.le_refl _) (by omega) _
end Eg
namespace Eg
open Evl (Ex)
open PySem PySem.Spec PyProof.Rows L2 Sn LamX
local macro_rules | `(tactic| walk_at "st") => `(tactic| first
  | with_reducible refine x_nx ?_ | with_reducible refine x_nxl ?_ | with_reducible refine x_rtn ?_ | with_reducible refine x_rtl ?_ | with_reducible refine x_exn ?_ | with_reducible refine x_exl ?_ | with_reducible refine x_rt0 ?_ | with_reducible refine x_nx0 ?_ | with_reducible refine x_ex0 ?_ | with_reducible refine x_rtK ?_ | with_reducible refine x_nxK ?_ | with_reducible refine x_exK ?_ | with_reducible refine x_seq ?_ | with_reducible refine x_set ?_ | with_reducible refine x_ret ?_ | with_reducible refine x_exp ?_ | with_reducible refine x_if ?_ | with_reducible refine x_nil ?_ | with_reducible refine x_raise ?_ | with_reducible refine x_asgT ?_ | with_reducible refine x_for ?_ | with_reducible refine x_c ?_ | with_reducible refine x_and ?_ | with_reducible refine x_or ?_ | with_reducible refine x_not ?_ | with_reducible refine x_cond ?_ | with_reducible refine x_isB ?_ | with_reducible refine x_anil ?_ | with_reducible refine x_acons ?_ | with_reducible refine x_call ?_ | with_reducible refine x_meth ?_ | with_reducible refine x_prp ?_ | with_reducible refine x_fld ?_ | with_reducible refine x_pur1 ?_ | with_reducible refine x_pur2 ?_ | with_reducible refine x_tup ?_ | with_reducible refine x_lst ?_ | with_reducible refine x_lc ?_ | with_reducible refine x_lc2 ?_ | with_reducible refine x_dc ?_ | with_reducible refine x_seqI ?_ | with_reducible refine x_val ?_ | with_reducible refine x_rg1 ?_ | with_reducible refine x_chn ?_ | with_reducible refine x_mk ?_ | with_reducible refine x_fldS ?_ | with_reducible refine x_mkX ?_ | with_reducible refine x_isI ?_ | with_reducible refine x_inO ?_ | with_reducible refine x_neO ?_ | with_reducible refine x_lstC ?_ | with_reducible refine x_app ?_ | with_reducible refine x_join ?_ | with_reducible refine x_sl ?_ | with_reducible refine x_putD ?_ | with_reducible refine x_dnC ?_ | with_reducible refine x_dict ?_ | with_reducible refine x_dic ?_
  | ((with_reducible apply x_var); rfl) | ((with_reducible apply x_fld1); rfl) | ((with_reducible apply x_isO); rfl) | ((with_reducible apply x_gall); rfl) | ((with_reducible apply x_it); rfl) | ((with_reducible apply x_und2); (simp only [unD, Option.map_some]; rfl); (rw [sizeLine_eq]; exact Nat.le_of_ble_eq_true rfl)) | ((with_reducible apply x_und); rfl) | refine x_ift ?_ | refine x_iff ?_
  | ((with_reducible apply x_isi); rfl; decide; decide) | ((with_reducible apply x_isi'); rfl; decide; decide) | ((with_reducible apply x_p1); rfl) | ((with_reducible apply x_p2); rfl))
local macro_rules | `(tactic| walk_at "st2") => `(tactic| first
  | with_reducible refine x_p2 told_steps ?_ | with_reducible refine x_p2 told_tells ?_ | with_reducible refine x_p2 told_start ?_ | walk_at "st")

/-! ### pairs, ascending -/
section
variable {α : Type} [Inhabited α]
def gt (l : List (Str × α)) (k : Str) : α := ((l.find? fun p => decide (p.1 = k)).map (·.2)).getD default
def srtA (l : List (Str × α)) : List (Str × α) := (srtS (l.map (·.1))).map fun k => (k, gt l k)
theorem gt_mem {l : List (Str × α)} {k : Str} (h : k ∈ l.map (·.1)) : (k, gt l k) ∈ l := by
  unfold gt
  cases hf : l.find? fun p => decide (p.1 = k) with
  | none =>
    obtain ⟨p, hp, rfl⟩ := List.mem_map.mp h
    have := List.find?_eq_none.mp hf p hp
    simp at this
  | some p =>
    have h1 := List.find?_some hf
    simp only [decide_eq_true_eq] at h1
    show (k, p.2) ∈ _
    rw [← h1]
    exact List.mem_of_find?_eq_some hf
theorem srtA_fst (l : List (Str × α)) : (srtA l).map (·.1) = srtS (l.map (·.1)) := by
  unfold srtA
  rw [List.map_map]
  exact List.map_id _
theorem srtA_mem {l : List (Str × α)} (hn : (l.map (·.1)).Nodup) {p : Str × α} : p ∈ srtA l ↔ p ∈ l := by
  unfold srtA
  rw [List.mem_map]
  refine ⟨fun ⟨k, hk, e⟩ => by rw [← e]; exact gt_mem (srt_mem.mp hk), fun hp => ⟨p.1, srt_mem.mpr (List.mem_map_of_mem hp), ?_⟩⟩
  have := fst_uniq hn (gt_mem (List.mem_map_of_mem (f := (·.1)) hp)) hp
  show (p.1, gt l p.1) = p
  rw [this]
theorem srtA_len (l : List (Str × α)) : (srtA l).length = l.length := by unfold srtA; rw [List.length_map, srt_len, List.length_map]
theorem srtA_all {l : List (Str × α)} (hn : (l.map (·.1)).Nodup) (p : Str × α → Bool) : (srtA l).all p = l.all p := by
  rw [Bool.eq_iff_iff, List.all_eq_true, List.all_eq_true]
  exact ⟨fun h x hx => h x ((srtA_mem hn).mpr hx), fun h x hx => h x ((srtA_mem hn).mp hx)⟩
theorem srtK_map (f : α → D) (l : List (Str × α)) : srtK (l.map fun p => (p.1, f p.2)) = (srtA l).map fun p => (p.1, f p.2) := by
  unfold srtK srtA
  rw [List.map_map, List.map_map]
  refine List.map_congr_left fun k hk0 => ?_
  have hk := srt_mem.mp hk0
  show (k, (lk (l.map fun p => (p.1, f p.2)) k).getD .non) = (k, f (gt l k))
  have : lk (l.map fun p => (p.1, f p.2)) k = some (f (gt l k)) := by
    have hk' : k ∈ l.map (·.1) := by simpa using hk
    clear hk hk0
    unfold lk gt
    induction l with
    | nil => cases hk'
    | cons a r ih =>
      rw [List.map_cons, List.find?_cons, List.find?_cons]
      by_cases h : a.1 = k
      · simp [h]
      · simp only [h, decide_false]
        rw [List.map_cons] at hk'
        have h2 := (List.mem_cons.mp hk').resolve_left fun z => h z.symm
        first | exact ih h2 | exact ih (by simpa using h2) h2
  rw [this]; rfl
end
theorem srt_evD (evs : List (Str × List Str)) : srtK (evD evs) = evD (srtA evs) := srtK_map (fun ws : List Str => D.tup (ws.map D.str)) evs
theorem srt_snD (sns : List (Str × Str)) : srtK (snD sns) = snD (@srtA Str ⟨""⟩ sns) := @srtK_map Str ⟨""⟩ D.str sns
instance : Inhabited Str := ⟨""⟩
theorem fit_due {evs : List (Str × List Str)} {sns : List (Str × Str)} {kl sl kh sh : List Str} (h1 : (evs.map (·.1)).Nodup) (h2 : (sns.map (·.1)).Nodup) :
    fitB (srtA evs) (@srtA Str ⟨""⟩ sns) (srtS kl) (srtS sl) (srtS kh) (srtS sh) = dueB evs sns kl sl kh sh := by
  unfold fitB dueB
  rw [srtA_fst, @srtA_fst Str ⟨""⟩, srtA_all h1, @srtA_all Str ⟨""⟩ _ h2]
  congr 2
  funext p
  simp only [srt_mem]
end Eg
namespace Eg
open Evl (Ex)
open PySem PySem.Spec PyProof.Rows L2 Sn LamX
/-! tests of whole numbers, by cases -/
section
variable {a b : Int} {μ : Sto} {Q : RK}
theorem eqi_eq (a b : Int) : eqD (.int a) (.int b) = some (.bl (decide (a = b))) := rfl
theorem nei_eq (a b : Int) : neD (.int a) (.int b) = some (.bl (!decide (a = b))) := rfl
theorem lti_eq (a b : Int) : ltD (.int a) (.int b) = some (.bl (decide (a < b))) := rfl
theorem lei_eq (a b : Int) : leD (.int a) (.int b) = some (.bl (decide (a ≤ b))) := rfl
theorem gti_eq (a b : Int) : gtD (.int a) (.int b) = some (.bl (decide (b < a))) := rfl
theorem gei_eq (a b : Int) : geD (.int a) (.int b) = some (.bl (decide (b ≤ a))) := rfl
theorem x_cs {g : D → D → Option D} {x y : D} {p : Prop} [Decidable p] (e : g x y = some (.bl (decide p))) (h1 : p → Q (.d (.bl true)) μ) (h2 : ¬ p → Q (.d (.bl false)) μ) : pur2 g (.d x) (.d y) μ Q := by
  refine x_p2 e ?_
  by_cases h : p
  · rw [decide_eq_true h]; exact h1 h
  · rw [decide_eq_false h]; exact h2 h
theorem x_eqi (h1 : a = b → Q (.d (.bl true)) μ) (h2 : a ≠ b → Q (.d (.bl false)) μ) : pur2 eqD (.d (.int a)) (.d (.int b)) μ Q := x_cs (eqi_eq a b) h1 h2
theorem x_lti (h1 : a < b → Q (.d (.bl true)) μ) (h2 : ¬ a < b → Q (.d (.bl false)) μ) : pur2 ltD (.d (.int a)) (.d (.int b)) μ Q := x_cs (lti_eq a b) h1 h2
theorem x_lei (h1 : a ≤ b → Q (.d (.bl true)) μ) (h2 : ¬ a ≤ b → Q (.d (.bl false)) μ) : pur2 leD (.d (.int a)) (.d (.int b)) μ Q := x_cs (lei_eq a b) h1 h2
theorem x_gti (h1 : b < a → Q (.d (.bl true)) μ) (h2 : ¬ b < a → Q (.d (.bl false)) μ) : pur2 gtD (.d (.int a)) (.d (.int b)) μ Q := x_cs (gti_eq a b) h1 h2
theorem x_gei (h1 : b ≤ a → Q (.d (.bl true)) μ) (h2 : ¬ b ≤ a → Q (.d (.bl false)) μ) : pur2 geD (.d (.int a)) (.d (.int b)) μ Q := x_cs (gei_eq a b) h1 h2
theorem x_nei (h1 : a ≠ b → Q (.d (.bl true)) μ) (h2 : a = b → Q (.d (.bl false)) μ) : pur2 neD (.d (.int a)) (.d (.int b)) μ Q := by
  refine x_p2 (nei_eq a b) ?_
  by_cases h : a = b
  · rw [decide_eq_true h]; exact h2 h
  · rw [decide_eq_false h]; exact h1 h
theorem x_eqT (h : a = b) (q : Q (.d (.bl true)) μ) : pur2 eqD (.d (.int a)) (.d (.int b)) μ Q := x_eqi (fun _ => q) fun z => absurd h z
theorem x_eqF (h : a ≠ b) (q : Q (.d (.bl false)) μ) : pur2 eqD (.d (.int a)) (.d (.int b)) μ Q := x_eqi (fun z => absurd z h) fun _ => q
theorem x_neT (h : a ≠ b) (q : Q (.d (.bl true)) μ) : pur2 neD (.d (.int a)) (.d (.int b)) μ Q := x_nei (fun _ => q) fun z => absurd z h
theorem x_neF (h : a = b) (q : Q (.d (.bl false)) μ) : pur2 neD (.d (.int a)) (.d (.int b)) μ Q := x_nei (fun z => absurd h z) fun _ => q
theorem x_ltT (h : a < b) (q : Q (.d (.bl true)) μ) : pur2 ltD (.d (.int a)) (.d (.int b)) μ Q := x_lti (fun _ => q) fun z => absurd h z
theorem x_ltF (h : ¬ a < b) (q : Q (.d (.bl false)) μ) : pur2 ltD (.d (.int a)) (.d (.int b)) μ Q := x_lti (fun z => absurd z h) fun _ => q
end
end Eg
namespace Eg
open Evl (Ex)
open PySem PySem.Spec PyProof.Rows L2 Sn LamX
local macro_rules | `(tactic| walk_at "st") => `(tactic| first
  | with_reducible refine x_nx ?_ | with_reducible refine x_nxl ?_ | with_reducible refine x_rtn ?_ | with_reducible refine x_rtl ?_ | with_reducible refine x_exn ?_ | with_reducible refine x_exl ?_ | with_reducible refine x_rt0 ?_ | with_reducible refine x_nx0 ?_ | with_reducible refine x_ex0 ?_ | with_reducible refine x_rtK ?_ | with_reducible refine x_nxK ?_ | with_reducible refine x_exK ?_ | with_reducible refine x_seq ?_ | with_reducible refine x_set ?_ | with_reducible refine x_ret ?_ | with_reducible refine x_exp ?_ | with_reducible refine x_if ?_ | with_reducible refine x_nil ?_ | with_reducible refine x_raise ?_ | with_reducible refine x_asgT ?_ | with_reducible refine x_for ?_ | with_reducible refine x_c ?_ | with_reducible refine x_and ?_ | with_reducible refine x_or ?_ | with_reducible refine x_not ?_ | with_reducible refine x_cond ?_ | with_reducible refine x_isB ?_ | with_reducible refine x_anil ?_ | with_reducible refine x_acons ?_ | with_reducible refine x_call ?_ | with_reducible refine x_meth ?_ | with_reducible refine x_prp ?_ | with_reducible refine x_fld ?_ | with_reducible refine x_pur1 ?_ | with_reducible refine x_pur2 ?_ | with_reducible refine x_tup ?_ | with_reducible refine x_lst ?_ | with_reducible refine x_lc ?_ | with_reducible refine x_lc2 ?_ | with_reducible refine x_dc ?_ | with_reducible refine x_seqI ?_ | with_reducible refine x_val ?_ | with_reducible refine x_rg1 ?_ | with_reducible refine x_chn ?_ | with_reducible refine x_mk ?_ | with_reducible refine x_fldS ?_ | with_reducible refine x_mkX ?_ | with_reducible refine x_isI ?_ | with_reducible refine x_inO ?_ | with_reducible refine x_neO ?_ | with_reducible refine x_lstC ?_ | with_reducible refine x_app ?_ | with_reducible refine x_join ?_ | with_reducible refine x_sl ?_ | with_reducible refine x_putD ?_ | with_reducible refine x_dnC ?_ | with_reducible refine x_dict ?_ | with_reducible refine x_dic ?_
  | ((with_reducible apply x_var); rfl) | ((with_reducible apply x_fld1); rfl) | ((with_reducible apply x_isO); rfl) | ((with_reducible apply x_gall); rfl) | ((with_reducible apply x_it); rfl) | ((with_reducible apply x_und2); (simp only [unD, Option.map_some]; rfl); (rw [sizeLine_eq]; exact Nat.le_of_ble_eq_true rfl)) | ((with_reducible apply x_und); rfl) | refine x_ift ?_ | refine x_iff ?_
  | ((with_reducible apply x_isi); rfl; decide; decide) | ((with_reducible apply x_isi'); rfl; decide; decide) | ((with_reducible apply x_p1); rfl) | ((with_reducible apply x_p2); rfl))
local macro_rules | `(tactic| walk_at "st2") => `(tactic| first
  | with_reducible refine x_p2 told_steps ?_ | with_reducible refine x_p2 told_tells ?_ | with_reducible refine x_p2 told_start ?_ | walk_at "st")
local macro_rules | `(tactic| walk_at "st3") => `(tactic| first
  | with_reducible refine x_eqT (by decide) ?_ | with_reducible refine x_eqF (by decide) ?_
  | ((fail_if_success (with_reducible refine x_eqi (fun _ => ?_) (fun _ => ?_))); (fail_if_success (with_reducible refine x_lti (fun _ => ?_) (fun _ => ?_))); (fail_if_success (with_reducible refine x_lei (fun _ => ?_) (fun _ => ?_))); (fail_if_success (with_reducible refine x_gti (fun _ => ?_) (fun _ => ?_))); (fail_if_success (with_reducible refine x_gei (fun _ => ?_) (fun _ => ?_))); (fail_if_success (with_reducible refine x_nei (fun _ => ?_) (fun _ => ?_))); walk_at "st2"))

/-! ### k10: the law -/
theorem x_repr {a : EM} {ς : Sl} {μ : Sto} {E : XC} {Q : RK} (h : a ς μ E fun r μ1 => pur1 reprD r μ1 Q) : eRepr a ς μ E Q := h
def toldK (cs : List Ce) (Q : RK) (r : R) (μ' : Sto) : Prop := match r with | .d y => cs <+: μ'.cs ∧ Q (.d (.tup [.str "told", y])) ⟨cs, μ'.T⟩ | _ => False
theorem x_hear {ec : Nat → Addr} {Is : List Nat} {b : EM} {ς : Sl} {μ : Sto} {E : XC} {Q : RK} (h : b ς μ (hearX ec Is μ.cs Q) (toldK μ.cs Q)) : eHear ec Is b ς μ E Q := h
theorem x_heard {ec : Nat → Addr} {Is : List Nat} {cs : List Ce} {T : Nat} {Q : RK} {i : Nat} (hi : i ∈ Is) (h : i < 11) (q : Q (.d (.tup [.str (errW i), .non])) ⟨cs, T⟩) : hearX ec Is cs Q ⟨ec i, []⟩ ⟨cs, T⟩ := ⟨List.prefix_rfl, i, hi, rfl, .inl ⟨h, rfl, q⟩⟩
theorem rp_of {x : D} {d : PyData} (h : pq x = some d) (ok : okRp d = true) : reprD x = some (.str d.shown) := by
  unfold reprD
  rw [h]
  show (if okRp d = true then some (D.str d.shown) else none) = _
  rw [if_pos ok]
theorem rp_bl (b : Bool) : reprD (.bl b) = some (.str (PyData.bool b).shown) := rp_of rfl (by cases b <;> decide +kernel)
theorem rp_bl2 (b : Bool) : reprD (.lst [.bl b, .bl b]) = some (.str (PyData.list [.bool b, .bool b]).shown) := rp_of rfl (by cases b <;> decide +kernel)
theorem x_lenS {i : Nat} {ns : List Int} {ς : Sl} {μ : Sto} {E : XC} {Q : RK} (h : ς[i]? = some (some (.scr ns))) (q : Q (.d (.int ns.length)) μ) : eLenS (eVar i) ς μ E Q := x_var h q
theorem ne_self (s : Str) : neD (.str s) (.str s) = some (.bl false) := by show some (D.bl (!decide (s = s))) = _; simp
theorem add_lst {a b : List D} (h : a.length + b.length ≤ 1000) : addD (.lst a) (.lst b) = some (.lst (a ++ b)) := by
  show (if _ then _ else _) = _
  rw [if_pos (by rw [sizeLine_eq]; omega)]
structure EvOk (evs : List (Str × List Str)) : Prop where
  nd : (evs.map (·.1)).Nodup
  n1 : 1 ≤ evs.length
  n4 : evs.length ≤ 4
  kw : ∀ p ∈ evs, isW p.1 = true
  rw : ∀ p ∈ evs, ∀ w ∈ p.2, isW w = true
  rl : ∀ p ∈ evs, p.2.length ≤ 3
structure SnOk (sns : List (Str × Str)) : Prop where
  nd : (sns.map (·.1)).Nodup
  n1 : 1 ≤ sns.length
  n4 : sns.length ≤ 5
  kw : ∀ p ∈ sns, isW p.1 = true
  rw : ∀ p ∈ sns, isW p.2 = true
theorem EvOk.ofBent {evs : List (Str × List Str)} {ws : List Str} {l : List (Str × D)} (o : EvOk evs) (w1 : ws.length ≤ 3) (w2 : ∀ w ∈ ws, isW w = true) (b : Bent (evD evs) (.tup (ws.map D.str)) l) : ∃ e, l = evD e ∧ EvOk e := by
  have key : ∀ l : List (Str × D), (∀ p ∈ l, ∃ ws : List Str, p.2 = .tup (ws.map D.str) ∧ ws.length ≤ 3 ∧ ∀ w ∈ ws, isW w = true) → ∃ e : List (Str × List Str), l = evD e ∧ ∀ p ∈ e, p.2.length ≤ 3 ∧ ∀ w ∈ p.2, isW w = true := by
    intro l
    induction l with
    | nil => exact fun _ => ⟨[], rfl, fun _ h => nomatch h⟩
    | cons a r ih =>
      intro h
      obtain ⟨e, rfl, he⟩ := ih fun p hp => h p (.tail _ hp)
      obtain ⟨ws, h1, h2, h3⟩ := h a (.head _)
      refine ⟨(a.1, ws) :: e, ?_, ?_⟩
      · show a :: _ = (a.1, D.tup (ws.map D.str)) :: _
        rw [← h1]; rfl
      · intro p hp
        rcases List.mem_cons.mp hp with rfl | hp
        · exact ⟨h2, h3⟩
        · exact he p hp
  obtain ⟨e, rfl, he⟩ := key l fun p hp => by
    rcases b.vs p hp with h | h
    · exact ⟨ws, h, w1, w2⟩
    · obtain ⟨q, hq, e⟩ := List.mem_map.mp h
      obtain ⟨q, hq2, rfl⟩ := List.mem_map.mp hq
      exact ⟨q.2, e.symm, o.rl q hq2, o.rw q hq2⟩
  have n2 := b.n2
  have n1 := b.n1
  have o4 := o.n4
  simp only [evD, List.length_map] at n2 n1
  exact ⟨e, rfl, ⟨by have := b.nd; rw [evD_fst] at this; exact this, n1, by omega, fun p hp => b.wd (p.1, .tup (p.2.map D.str)) (List.mem_map_of_mem hp), fun p hp => (he p hp).2, fun p hp => (he p hp).1⟩⟩
theorem SnOk.ofBent {sns : List (Str × Str)} {w : Str} {l : List (Str × D)} (o : SnOk sns) (w1 : isW w = true) (b : Bent (snD sns) (.str w) l) : ∃ e, l = snD e ∧ SnOk e := by
  have key : ∀ l : List (Str × D), (∀ p ∈ l, ∃ ws : Str, p.2 = .str ws ∧ isW ws = true) → ∃ e : List (Str × Str), l = snD e ∧ ∀ p ∈ e, isW p.2 = true := by
    intro l
    induction l with
    | nil => exact fun _ => ⟨[], rfl, fun _ h => nomatch h⟩
    | cons a r ih =>
      intro h
      obtain ⟨e, rfl, he⟩ := ih fun p hp => h p (.tail _ hp)
      obtain ⟨ws, h1, h2⟩ := h a (.head _)
      refine ⟨(a.1, ws) :: e, ?_, ?_⟩
      · show a :: _ = (a.1, D.str ws) :: _
        rw [← h1]; rfl
      · intro p hp
        rcases List.mem_cons.mp hp with rfl | hp
        · exact h2
        · exact he p hp
  obtain ⟨e, rfl, he⟩ := key l fun p hp => by
    rcases b.vs p hp with h | h
    · exact ⟨w, h, w1⟩
    · obtain ⟨q, hq, e⟩ := List.mem_map.mp h
      obtain ⟨q, hq2, rfl⟩ := List.mem_map.mp hq
      exact ⟨q.2, e.symm, o.rw q hq2⟩
  have n2 := b.n2
  have n1 := b.n1
  have o4 := o.n4
  simp only [snD, List.length_map] at n2 n1
  exact ⟨e, rfl, ⟨by have := b.nd; rw [snD_fst] at this; exact this, n1, by omega, fun p hp => b.wd (p.1, .str p.2) (List.mem_map_of_mem hp), he⟩⟩
theorem EvOk.kn {cs : List Addr} {evs : List (Str × List Str)} (o : EvOk evs) : KnE cs (dT (evD evs)) := by
  have := o.n4
  refine ⟨by simp [evD]; rw [sizeLine_eq]; omega, fun kv hkv => ?_⟩
  obtain ⟨p, hp, rfl⟩ := List.mem_map.mp hkv
  obtain ⟨q, hq, rfl⟩ := List.mem_map.mp hp
  have := o.rl q hq
  refine ⟨isW_len (o.kw q hq), by simp; rw [sizeLine_eq]; omega, fun x hx => ?_⟩
  obtain ⟨w, hw, rfl⟩ := List.mem_map.mp hx
  exact isW_len (o.rw q hq w hw)
theorem SnOk.kn {cs : List Addr} {sns : List (Str × Str)} (o : SnOk sns) : KnR cs (dT (snD sns)) := by
  have := o.n4
  refine ⟨by simp [snD]; rw [sizeLine_eq]; omega, fun kv hkv => ?_⟩
  obtain ⟨p, hp, rfl⟩ := List.mem_map.mp hkv
  obtain ⟨q, hq, rfl⟩ := List.mem_map.mp hp
  exact ⟨isW_len (o.kw q hq), isW_len (o.rw q hq)⟩
theorem EvOk.b {evs : List (Str × List Str)} (o : EvOk evs) : eventsB (dT (evD evs)) = true := by
  have := o.n4
  have := o.n1
  unfold eventsB
  rw [rowB_of (by simpa [evD] using o.n1) (by simp [evD]; omega) (fun p hp => by obtain ⟨q, hq, rfl⟩ := List.mem_map.mp hp; exact o.kw q hq), Bool.true_and, vsOf_dT, List.all_eq_true]
  intro x hx
  obtain ⟨p, hp, rfl⟩ := List.mem_map.mp hx
  obtain ⟨q, hq, rfl⟩ := List.mem_map.mp hp
  have := o.rl q hq
  show (decide ((q.2.map D.str).length ≤ 27) && (q.2.map D.str).all isWD) = true
  rw [decide_eq_true (by simp; omega), Bool.true_and, List.all_eq_true]
  intro x hx
  obtain ⟨w, hw, rfl⟩ := List.mem_map.mp hx
  exact o.rw q hq w hw
theorem SnOk.b {sns : List (Str × Str)} (o : SnOk sns) : snapsB (dT (snD sns)) = true := by
  have := o.n4
  have := o.n1
  unfold snapsB
  rw [rowB_of (by simpa [snD] using o.n1) (by simp [snD]; omega) (fun p hp => by obtain ⟨q, hq, rfl⟩ := List.mem_map.mp hp; exact o.kw q hq), Bool.true_and, vsOf_dT, List.all_eq_true]
  intro x hx
  obtain ⟨p, hp, rfl⟩ := List.mem_map.mp hx
  obtain ⟨q, hq, rfl⟩ := List.mem_map.mp hp
  exact o.rw q hq
/-- a lift that is made -/
theorem mk_lift {cs : List Addr} {xNL CL : Addr} {evs : List (Str × List Str)} {sns : List (Str × Str)} {ce : List Ce} {T : Nat} {E : XC} {Q : RK} (o : EvOk evs) (o2 : SnOk sns) (q : Q (.d (liO CL (evD (srtA evs)) (snD (@srtA Str ⟨""⟩ sns)))) ⟨ce, T⟩) :
    mkIn CL (m_Lift___init cs xNL CL) [.d (dT (evD evs)), .d (dT (snD sns))] ⟨ce, T⟩ E Q := by
  refine mk_li o.kn o2.kn (fun z => ?_) fun _ => ?_
  · unfold liB at z; rw [o.b, o2.b] at z; cases z
  · rw [unT_dT, unT_dT, evD_fst, snD_fst]
    refine ⟨o.nd, o2.nd, ?_⟩
    rw [srt_evD, srt_snD]
    exact q
theorem lk_ed {t : Tl} {ks : List Str} {a b : Nat} (g : t.Good ks a b) : lk ((srtS t.states).map fun k => (k, dT (srtK (snD (t.row k))))) t.s0 = some (dT (srtK (snD (t.row t.s0)))) := by
  have hm : t.s0 ∈ ((srtS t.states).map fun k => (k, dT (srtK (snD (t.row k))))).map (·.1) := by
    rw [List.map_map]; exact List.mem_map_of_mem (f := id) (srt_mem.mpr g.s0)
  obtain ⟨x, h1, h2⟩ := lk_some hm
  obtain ⟨k, hk, e⟩ := List.mem_map.mp h2
  injection e with e1 e2
  rw [h1, ← e2, e1]
theorem srtK_fst (l : List (Str × D)) : (srtK l).map (·.1) = srtS (l.map (·.1)) := by
  unfold srtK; rw [List.map_map]; exact List.map_id _
/-- fits, of what was drawn -/
theorem ru_fit {cs : List Addr} {CE CL xNE : Addr} {evs : List (Str × List Str)} {sns : List (Str × Str)} {lo hi : Tl} {kl kh : List Str} (hc : CE ∈ cs) (gl : lo.Good kl 5 4) (gh : hi.Good kh 5 4) (o : EvOk evs) (o2 : SnOk sns) :
    Ru (m_Lift_fits cs CE xNE CL) [liO CL (evD (srtA evs)) (snD (@srtA Str ⟨""⟩ sns)), lo.edD CE, hi.edD CE] (.bl (dueB evs sns kl lo.states kh hi.states)) := by
  have rl := gl.rows _ (row_mem lo.s0 gl.s0)
  have rh := gh.rows _ (row_mem hi.s0 gh.s0)
  have n1 := o.n4
  have n2 := o2.n4
  have := ru_fits (cs := cs) (CE := CE) (CL := CL) (xNE := xNE) (te1 := dT (srtK (snD lo.te))) (te2 := dT (srtK (snD hi.te))) hc (lk_ed gl) (lk_ed gh) (evs := srtA evs) (sns := @srtA Str ⟨""⟩ sns) (fun p hp => o.kw p ((srtA_mem o.nd).mp hp)) (fun p hp => o2.kw p ((@srtA_mem Str ⟨""⟩ _ o2.nd _).mp hp)) (fun p hp => by
    have : p.1 ∈ (srtK (snD (lo.row lo.s0))).map (·.1) := List.mem_map_of_mem hp
    rw [srtK_fst, snD_fst, rl.1] at this
    exact gl.kw.2 _ (srt_mem.mp this)) (fun p hp => by
    obtain ⟨k, hk, rfl⟩ := List.mem_map.mp hp
    exact gl.sw.2 _ (srt_mem.mp hk)) (by rw [srtA_len]; exact o.n4) (by rw [@srtA_len Str ⟨""⟩]; exact o2.n4) (fun p hp => by have := o.rl p ((srtA_mem o.nd).mp hp); omega)
  rw [srtK_fst, srtK_fst, snD_fst, snD_fst, rl.1, rh.1, List.map_map, List.map_map, show ((fun x : Str × D => x.1) ∘ fun k => (k, dT (srtK (snD (lo.row k))))) = id from rfl, show ((fun x : Str × D => x.1) ∘ fun k => (k, dT (srtK (snD (hi.row k))))) = id from rfl, List.map_id, List.map_id, fit_due o.nd o2.nd] at this
  exact this
def k10_tail (CL xNoLift CE xNoEdition : Addr) (cs : List Addr) (ec : Nat → Addr) (Is : List Nat) : SM :=
  (sSeq (sAsgT [gN 10, gN 11] (aCons (eMkF CL (m_Lift___init cs xNoLift CL) (aCons (eVar 6) (aCons (eVar 7) aNil))) (aCons (eCall m_l_is_due (aCons (eVar 6) (aCons (eVar 7) (aCons (eVar 3) (aCons (eVar 4) aNil))))) aNil)))
      (sSeq (sSet 12 (eLst (aCons (eCall (m_l_edition CE cs xNoEdition) (aCons (eVar 3) aNil)) (aCons (eCall (m_l_edition CE cs xNoEdition) (aCons (eVar 4) aNil)) aNil))))
      (sSeq (sIf (ePur2 neD (eRepr (eLst (aCons (eMeth CL "fits" (m_Lift_fits cs CE xNoEdition CL) (eVar 10) (aCons (ePur2 ixD (eVar 12) (eC (.int 0))) (aCons (ePur2 ixD (eVar 12) (eC (.int 1))) aNil))) (aCons (eMeth CL "fits" (m_Lift_fits cs CE xNoEdition CL) (eVar 10) (aCons (ePur2 ixD (eVar 12) (eC (.int 0))) (aCons (ePur2 ixD (eVar 12) (eC (.int 1))) aNil))) aNil)))) (eRepr (eLst (aCons (eVar 11) (aCons (eVar 11) aNil)))))
        (sRet (eC (.bl false)))
        sNil)
      (sSeq (sSet 13 (eCall m_l_is_due (aCons (eVar 6) (aCons (eVar 7) (aCons (eVar 4) (aCons (eVar 3) aNil))))))
      (sSeq (sIf (eOr (ePur2 neD (eRepr (eMeth CL "fits" (m_Lift_fits cs CE xNoEdition CL) (eVar 10) (aCons (ePur2 ixD (eVar 12) (eC (.int 1))) (aCons (ePur2 ixD (eVar 12) (eC (.int 0))) aNil)))) (eRepr (eVar 13))) (eNeO CL (m_Lift___eq cs CL) (eVar 10) (eMkF CL (m_Lift___init cs xNoLift CL) (aCons (eVar 6) (aCons (eVar 7) aNil)))))
        (sRet (eC (.bl false)))
        sNil)
      (sSeq (sSet 14 (eCall m_l_pick (aCons (eVar 1) (aCons (eLst (aCons (eC .non) (aCons (eC (.int 5)) (aCons (eC (.str "")) (aCons (eVar 3) (aCons (eTup aNil) (aCons (eVar 10) (aCons (eLst (aCons (ePur2 ixD (eVar 12) (eC (.int 0))) aNil)) aNil)))))))) aNil))))
      (sSeq (sIf (ePur2 neD (eHear ec Is (eMeth CL "fits" (m_Lift_fits cs CE xNoEdition CL) (eVar 10) (aCons (eVar 14) (aCons (ePur2 ixD (eVar 12) (eC (.int 1))) aNil)))) (eTup (aCons (eC (.str "edition")) (aCons (eC .non) aNil))))
        (sRet (eC (.bl false)))
        sNil)
      (sIf (ePur2 neD (eHear ec Is (eMeth CL "fits" (m_Lift_fits cs CE xNoEdition CL) (eVar 10) (aCons (ePur2 ixD (eVar 12) (eC (.int 0))) (aCons (eVar 14) aNil)))) (eTup (aCons (eC (.str "edition")) (aCons (eC .non) aNil))))
        (sRet (eC (.bl false)))
        sNil))))))))
theorem ne_ed : neD (.tup [.str (errW 0), .non]) (.tup [.str "edition", .non]) = some (.bl false) := by
  have : eqB (.tup [.str (errW 0), .non]) (.tup [.str "edition", .non]) = some true := by decide +kernel
  unfold neD
  rw [this]
  rfl
theorem k10_turn {CL xNL CE : Addr} {cs : List Addr} {ec : Nat → Addr} {Is : List Nat} (h0 : 0 ∈ Is) (hE : CE ∈ cs) (hL : CL ∈ cs) (hne : CL ≠ CE) {lo hi : Tl} {kl kh : List Str} (gl : lo.Good kl 5 4) (gh : hi.Good kh 5 4)
    {evs : List (Str × List Str)} {sns : List (Str × Str)} (ok : EvOk evs) (ok2 : SnOk sns) {T : Nat} (hT : T ≤ 90000000) {N : NC} {x0 x2 x5 : R} {a8 a9 a10 a11 a12 a13 a14 : Option R} {K : Sl → Sto → Prop}
    (hK : ∀ T' a10 a11 a12 a13 a14, T' ≤ T + 10 → K [some x0, some R.src, some x2, some (R.d lo.d), some (R.d hi.d), some x5, some (.d (dT (evD evs))), some (.d (dT (snD sns))), a8, a9, a10, a11, a12, a13, a14] ⟨[], T'⟩) :
    k10_tail CL xNL CE (ec 0) cs ec Is (N.lp K) [some x0, some R.src, some x2, some (R.d lo.d), some (R.d hi.d), some x5, some (.d (dT (evD evs))), some (.d (dT (snD sns))), a8, a9, a10, a11, a12, a13, a14] ⟨[], T⟩ := by
  unfold k10_tail
  repeat walk_at "st3"
  refine mk_lift ok ok2 ?_
  have w3 : ∀ p ∈ evs, p.2.length ≤ 27 := fun p hp => by have := ok.rl p hp; omega
  have z1 := ok.n4
  have z2 := ok2.n4
  have due := ru_due gl gh ok.kw ok2.kw ok.rw ok2.rw (by omega) (by omega) w3
  have due' := ru_due gh gl ok.kw ok2.kw ok.rw ok2.rw (by omega) (by omega) w3
  have fit := ru_fit (cs := cs) (CE := CE) (CL := CL) (xNE := ec 0) hE gl gh ok ok2
  have fit' := ru_fit (cs := cs) (CE := CE) (CL := CL) (xNE := ec 0) hE gh gl ok ok2
  generalize dueB evs sns kl lo.states kh hi.states = b1 at due fit
  generalize dueB evs sns kh hi.states kl lo.states = b2 at due' fit'
  repeat walk_at "st3"
  refine due _ _ _ ?_
  repeat walk_at "st3"
  refine ru_ledition gl _ _ _ ?_
  repeat walk_at "st3"
  refine ru_ledition gh _ _ _ ?_
  repeat walk_at "st3"
  refine x_repr ?_
  repeat walk_at "st3"
  refine fit _ _ _ ?_
  repeat walk_at "st3"
  refine fit _ _ _ ?_
  repeat walk_at "st3"
  refine x_p1 (rp_bl2 b1) ?_
  refine x_repr ?_
  repeat walk_at "st3"
  refine x_p1 (rp_bl2 b1) ?_
  refine x_p2 (ne_self _) ?_
  repeat walk_at "st3"
  refine due' _ _ _ ?_
  repeat walk_at "st3"
  refine x_repr ?_
  repeat walk_at "st3"
  refine fit' _ _ _ ?_
  refine x_p1 (rp_bl b2) ?_
  refine x_repr ?_
  repeat walk_at "st3"
  refine x_p1 (rp_bl b2) ?_
  refine x_p2 (ne_self _) ?_
  repeat walk_at "st3"
  refine mk_lift ok ok2 ?_
  refine x_isI (x_isI ?_)
  refine ru_liEq hL (by rw [srtA_fst]; exact srt_nodup ok.nd) (by rw [@srtA_fst Str ⟨""⟩]; exact srt_nodup ok2.nd) _ _ _ ?_
  repeat walk_at "st3"
  refine dw_pick (xs := [.non, .int 5, .str "", lo.d, .tup [], liO CL (evD (srtA evs)) (snD (@srtA Str ⟨""⟩ sns)), .lst [lo.edD CE]]) (by simp) (by simp) _ _ _ _ (by omega) fun y T1 hy u1 u2 => ?_
  have no : NoEd cs CE y := by
    simp only [List.mem_cons, List.not_mem_nil, or_false] at hy
    rcases hy with rfl | rfl | rfl | rfl | rfl | rfl | rfl
    · exact .inl ⟨_, rfl⟩
    · exact .inl ⟨_, rfl⟩
    · exact .inl ⟨_, rfl⟩
    · exact .inl ⟨_, rfl⟩
    · exact .inl ⟨_, rfl⟩
    · exact .inr ⟨_, _, rfl, hL, hne⟩
    · exact .inl ⟨_, rfl⟩
  clear hy
  repeat walk_at "st3"
  refine x_hear ?_
  repeat walk_at "st3"
  refine rx_fits1 hE no _ _ _ ?_
  refine x_heard h0 (by decide) ?_
  repeat walk_at "st3"
  refine x_p2 ne_ed ?_
  repeat walk_at "st3"
  refine x_hear ?_
  repeat walk_at "st3"
  refine rx_fits2 hE no _ _ _ ?_
  refine x_heard h0 (by decide) ?_
  repeat walk_at "st3"
  refine x_p2 ne_ed ?_
  repeat walk_at "st3"
  exact hK _ _ _ _ _ _ (by omega)
end Eg
namespace Eg
open Evl (Ex)
open PySem PySem.Spec PyProof.Rows L2 Sn LamX
local macro_rules | `(tactic| walk_at "st") => `(tactic| first
  | with_reducible refine x_nx ?_ | with_reducible refine x_nxl ?_ | with_reducible refine x_rtn ?_ | with_reducible refine x_rtl ?_ | with_reducible refine x_exn ?_ | with_reducible refine x_exl ?_ | with_reducible refine x_rt0 ?_ | with_reducible refine x_nx0 ?_ | with_reducible refine x_ex0 ?_ | with_reducible refine x_rtK ?_ | with_reducible refine x_nxK ?_ | with_reducible refine x_exK ?_ | with_reducible refine x_seq ?_ | with_reducible refine x_set ?_ | with_reducible refine x_ret ?_ | with_reducible refine x_exp ?_ | with_reducible refine x_if ?_ | with_reducible refine x_nil ?_ | with_reducible refine x_raise ?_ | with_reducible refine x_asgT ?_ | with_reducible refine x_for ?_ | with_reducible refine x_c ?_ | with_reducible refine x_and ?_ | with_reducible refine x_or ?_ | with_reducible refine x_not ?_ | with_reducible refine x_cond ?_ | with_reducible refine x_isB ?_ | with_reducible refine x_anil ?_ | with_reducible refine x_acons ?_ | with_reducible refine x_call ?_ | with_reducible refine x_meth ?_ | with_reducible refine x_prp ?_ | with_reducible refine x_fld ?_ | with_reducible refine x_pur1 ?_ | with_reducible refine x_pur2 ?_ | with_reducible refine x_tup ?_ | with_reducible refine x_lst ?_ | with_reducible refine x_lc ?_ | with_reducible refine x_lc2 ?_ | with_reducible refine x_dc ?_ | with_reducible refine x_seqI ?_ | with_reducible refine x_val ?_ | with_reducible refine x_rg1 ?_ | with_reducible refine x_chn ?_ | with_reducible refine x_mk ?_ | with_reducible refine x_fldS ?_ | with_reducible refine x_mkX ?_ | with_reducible refine x_isI ?_ | with_reducible refine x_inO ?_ | with_reducible refine x_neO ?_ | with_reducible refine x_lstC ?_ | with_reducible refine x_app ?_ | with_reducible refine x_join ?_ | with_reducible refine x_sl ?_ | with_reducible refine x_putD ?_ | with_reducible refine x_dnC ?_ | with_reducible refine x_dict ?_ | with_reducible refine x_dic ?_
  | ((with_reducible apply x_var); rfl) | ((with_reducible apply x_fld1); rfl) | ((with_reducible apply x_isO); rfl) | ((with_reducible apply x_gall); rfl) | ((with_reducible apply x_it); rfl) | ((with_reducible apply x_und2); (simp only [unD, Option.map_some]; rfl); (rw [sizeLine_eq]; exact Nat.le_of_ble_eq_true rfl)) | ((with_reducible apply x_und); rfl) | refine x_ift ?_ | refine x_iff ?_
  | ((with_reducible apply x_isi); rfl; decide; decide) | ((with_reducible apply x_isi'); rfl; decide; decide) | ((with_reducible apply x_p1); rfl) | ((with_reducible apply x_p2); rfl))
local macro_rules | `(tactic| walk_at "st2") => `(tactic| first
  | with_reducible refine x_p2 told_steps ?_ | with_reducible refine x_p2 told_tells ?_ | with_reducible refine x_p2 told_start ?_ | walk_at "st")
local macro_rules | `(tactic| walk_at "st3") => `(tactic| first
  | with_reducible refine x_eqT (by decide) ?_ | with_reducible refine x_eqF (by decide) ?_
  | ((fail_if_success (with_reducible refine x_eqi (fun _ => ?_) (fun _ => ?_))); (fail_if_success (with_reducible refine x_lti (fun _ => ?_) (fun _ => ?_))); (fail_if_success (with_reducible refine x_lei (fun _ => ?_) (fun _ => ?_))); (fail_if_success (with_reducible refine x_gti (fun _ => ?_) (fun _ => ?_))); (fail_if_success (with_reducible refine x_gei (fun _ => ?_) (fun _ => ?_))); (fail_if_success (with_reducible refine x_nei (fun _ => ?_) (fun _ => ?_))); walk_at "st2"))

theorem m_law_ok {CL xNL CE : Addr} {cs : List Addr} {ec : Nat → Addr} {Is : List Nat} (h0 : 0 ∈ Is) (hE : CE ∈ cs) (hL : CL ∈ cs) (hne : CL ≠ CE) {ns : List Int} (hns : ns.length ≤ 63) {E : XC} {Q : RK} (q : ∀ T, Q (.d (.bl true)) ⟨[], T⟩) :
    m_law CL cs xNL CE (ec 0) ec Is [.scr ns] ⟨[], 0⟩ E Q := by
  refine x_mdef rfl ?_
  repeat walk_at "st3"
  refine ⟨hns, rfl, ?_⟩
  repeat walk_at "st3"
  refine x_lenS rfl ?_
  repeat walk_at "st3"
  have hm : (if (24 : Int) < ns.length then (24 : Int) else ns.length) ≤ 24 ∧ 0 ≤ (if (24 : Int) < ns.length then (24 : Int) else ns.length) := by split <;> omega
  generalize (if (24 : Int) < ns.length then (24 : Int) else ns.length) = m at hm
  refine ⟨by omega, by omega, ?_⟩
  refine for_go (fun i ς μ => ∃ (T : Nat) (a2 a3 a4 a5 a6 a7 a8 a9 a10 a11 a12 a13 a14 : Option R), T ≤ 1 + 1000 * i ∧ ς = [some (.scr ns), some .src, a2, a3, a4, a5, a6, a7, a8, a9, a10, a11, a12, a13, a14] ∧ μ = ⟨[], T⟩) (n := 0) ?_ ⟨1, none, none, none, none, none, none, none, none, none, none, none, none, none, by omega, rfl, rfl⟩ ?_
  · rintro i x hx ς μ ⟨T, a2, a3, a4, a5, a6, a7, a8, a9, a10, a11, a12, a13, a14, hT, rfl, rfl⟩ K hK
    refine ⟨_, rfl, ?_⟩
    simp only [List.set_cons_succ, List.set_cons_zero]
    have hi : i < 30 := by
      have := (List.getElem?_eq_some_iff.mp hx).1
      simp at this
      omega
    repeat walk_at "st3"
    refine dw_any (a := 5) (b := 4) (by decide) (by decide) (by decide) (by decide) _ _ _ _ (by omega) fun y T1 hy u1 u2 => ?_
    obtain ⟨lo, kl, rfl, gl⟩ := hy
    repeat walk_at "st3"
    refine dw_any (a := 5) (b := 4) (by decide) (by decide) (by decide) (by decide) _ _ _ _ (by omega) fun y T2 hy u3 u4 => ?_
    obtain ⟨hi, kh, rfl, gh⟩ := hy
    repeat walk_at "st3"
    have rl := gl.rows _ (row_mem lo.s0 gl.s0)
    have rh := gh.rows _ (row_mem hi.s0 gh.s0)
    have el : (lo.row lo.s0).length = kl.length := by rw [← rl.1, List.length_map]
    have eh : (hi.row hi.s0).length = kh.length := by rw [← rh.1, List.length_map]
    have kl2 := gl.k2
    have kh2 := gh.k2
    have kl1 := gl.k1
    have kh1 := gh.k1
    have sh2 := gh.s2
    have sh1 := gh.s1
    have sl2 := gl.s2
    have sl1 := gl.s1
    refine x_p1 (sortD_typed (by rw [← List.length_map (f := (·.1)), stL_fst]; omega)) ?_
    rw [stL_fst]
    repeat walk_at "st3"
    refine ru_lkinds (lk_row lo.s0 gl.s0) (by omega) _ _ _ ?_
    rw [rl.1]
    repeat walk_at "st3"
    refine dw_rows_for (lk_row hi.s0 gh.s0) (by intro z; rw [z] at eh; simp at eh; omega) (by omega) (srt_nodup gl.kw.1) (by rw [srt_len]; omega) _ _ _ _ (by omega) fun y T3 hy u5 u6 => ?_
    obtain ⟨evs, rfl, ev1, ev2⟩ := hy
    rw [rh.1] at ev2
    repeat walk_at "st3"
    refine lc_any (fun x y => ∃ k g, x = R.d (.str k) ∧ y = R.d (.tup [.str k, .str g]) ∧ g ∈ srtS hi.states) 1 100000000 (fun z hz T4 hT4 => ⟨_, rfl, fun Q q => ?_⟩) (by simp [Tl.stL]; simp [Tl.states] at sl2; omega) (by simp [Tl.stL]; simp [Tl.states] at sl2; rw [sizeLine_eq]; omega) fun ys T4 hp v1 v2 => ?_
    · simp only [List.map_map, List.mem_map] at hz
      obtain ⟨k, hk, rfl⟩ := hz
      repeat walk_at "st3"
      refine dw_pick (xs := (srtS hi.states).map D.str) (by intro z; have := congrArg List.length z; simp [srt_len] at this; rw [this] at sh1; simp at sh1) (by simp [srt_len]; omega) _ _ _ _ hT4 fun y T5 hy a b => ?_
      obtain ⟨g, hg, rfl⟩ := List.mem_map.mp hy
      repeat walk_at "st3"
      exact ⟨by rw [sizeLine_eq]; exact Nat.le_of_ble_eq_true rfl, q _ _ ⟨k.1, g, rfl, rfl, hg⟩ a b⟩
    obtain ⟨sns, rfl, sn1, sn2⟩ := Pair_pick (ks := lo.states) (ss := srtS hi.states) (by rw [← stL_fst, List.map_map, List.map_map]; rfl) hp
    refine x_frz (f := fun p : Str × Str => D.tup [.str p.1, .str p.2]) ?_
    refine x_p1 (z := dT (snD sns)) ?_ ?_
    · have := dict_pairs (l := snD sns) (by rw [snD_fst, sn1]; exact gl.sw.1)
      unfold snD at this ⊢
      rw [List.map_map] at this
      exact this
    have v3 : T4 ≤ T3 + 5 := by simp [Tl.stL] at v2; simp [Tl.states] at sl2; omega
    refine x_nx (x_seq (x_cut (fun ς μ => ∃ (T : Nat) (evs : List (Str × List Str)) (a9 : Option R), T ≤ T4 + 30 ∧ EvOk evs ∧ ς = [some (R.scr ns), some R.src, some x, some (R.d lo.d), some (R.d hi.d), some (.d (.lst ((srtS hi.states).map D.str))), some (.d (dT (evD evs))), some (.d (dT (snD sns))), a8, a9, a10, a11, a12, a13, a14] ∧ μ = ⟨[], T⟩) ?_ ?_))
    · intro K' hK'
      have ok : EvOk evs := ⟨by rw [ev1]; exact srt_nodup gl.kw.1, by have := congrArg List.length ev1; simp [srt_len] at this; omega, by have := congrArg List.length ev1; simp [srt_len] at this; omega, fun p hp => gl.kw.2 _ (srt_mem.mp (by rw [← ev1]; exact List.mem_map_of_mem hp)), fun p hp w hw => gh.kw.2 _ (srt_mem.mp ((ev2 p hp).2 w hw)), fun p hp => (ev2 p hp).1⟩
      repeat walk_at "st3"
      refine x_draw (by decide) (by decide) (by omega) fun r r0 r1 => ?_
      repeat walk_at "st3"
      refine x_eqi (fun e => ?_) (fun e => ?_)
      · repeat walk_at "st3"
        refine ru_lkinds (lk_row hi.s0 gh.s0) (by omega) _ _ _ ?_
        rw [rh.1]
        repeat walk_at "st3"
        refine x_p2 (add_lst (by simp [srt_len]; omega)) ?_
        repeat walk_at "st3"
        refine dw_row (ks := (srtS kh).map D.str ++ [D.str "qa"]) (n := 3) (by simp) (by simp [srt_len]; omega) (by decide) (by decide) _ _ _ _ (by show _ + 5 ≤ _; omega) fun y T5 hy w1 w2 => ?_
        obtain ⟨ys, rfl, y1, y2⟩ := hy
        obtain ⟨ws, rfl, w3⟩ := strs_of (a := srtS kh ++ [("qa" : Str)]) (fun y hy => by rw [List.map_append]; exact y2 y hy)
        have w2 : T5 ≤ T4 + 1 + 5 := w2
        have w4 : ∀ w ∈ ws, isW w = true := fun w hw => by
          rcases List.mem_append.mp (w3 w hw) with h | h
          · exact gh.kw.2 _ (srt_mem.mp h)
          · rw [List.mem_singleton.mp h]; decide +kernel
        repeat walk_at "st3"
        refine dw_pick (xs := [D.tup (ws.map D.str), D.tup [D.str "zzzzzz"]]) (by simp) (by simp) _ _ _ _ (by omega) fun y T6 hy u7 u8 => ?_
        obtain ⟨ws', rfl, w5, w6⟩ : ∃ ws' : List Str, y = .tup (ws'.map D.str) ∧ ws'.length ≤ 3 ∧ ∀ w ∈ ws', isW w = true := by
          rcases List.mem_cons.mp hy with rfl | hy
          · exact ⟨ws, rfl, by simp at y1; omega, w4⟩
          · rw [List.mem_singleton.mp hy]; exact ⟨["zzzzzz"], rfl, by decide, by decide +kernel⟩
        repeat walk_at "st3"
        refine dw_bent (l := evD evs) (by rw [evD_fst]; exact ok.nd) (fun p hp => by obtain ⟨q, hq, rfl⟩ := List.mem_map.mp hp; exact ok.kw q hq) (by have := ok.n1; simpa [evD] using this) (by have := ok.n4; simp [evD]; omega) _ _ _ _ (by omega) fun y T7 hy u9 u10 => ?_
        obtain ⟨l', rfl, hb⟩ := hy
        obtain ⟨e, rfl, ok'⟩ := ok.ofBent w5 w6 hb
        repeat walk_at "st3"
        exact hK' _ _ ⟨T7, e, _, by omega, ok', rfl, rfl⟩
      · repeat walk_at "st3"
        exact hK' _ _ ⟨T4 + 1, evs, _, by omega, ok, rfl, rfl⟩
    · rintro ς μ ⟨T5, evs, b9, hT5, ok, rfl, rfl⟩
      clear ev1 ev2
      refine x_seq (x_cut (fun ς μ => ∃ (T : Nat) (sns : List (Str × Str)), T ≤ T5 + 30 ∧ SnOk sns ∧ ς = [some (R.scr ns), some R.src, some x, some (R.d lo.d), some (R.d hi.d), some (.d (.lst ((srtS hi.states).map D.str))), some (.d (dT (evD evs))), some (.d (dT (snD sns))), a8, b9, a10, a11, a12, a13, a14] ∧ μ = ⟨[], T⟩) ?_ ?_)
      · intro K' hK'
        have ok2 : SnOk sns := ⟨by rw [sn1]; exact gl.sw.1, by have := congrArg List.length sn1; simp at this; omega, by have := congrArg List.length sn1; simp at this; omega, fun p hp => gl.sw.2 _ (by rw [← sn1]; exact List.mem_map_of_mem hp), fun p hp => gh.sw.2 _ (srt_mem.mp (sn2 p hp))⟩
        repeat walk_at "st3"
        refine x_draw (by decide) (by decide) (by omega) fun r r0 r1 => ?_
        repeat walk_at "st3"
        refine x_eqi (fun e => ?_) (fun e => ?_)
        · repeat walk_at "st3"
          refine x_p2 (add_lst (by simp [srt_len]; omega)) ?_
          repeat walk_at "st3"
          refine dw_pick (xs := (srtS hi.states).map D.str ++ [D.str "qb", D.str "a"]) (by simp) (by simp [srt_len]; omega) _ _ _ _ (by omega) fun y T6 hy u7 u8 => ?_
          obtain ⟨w, rfl, w1⟩ : ∃ w : Str, y = .str w ∧ isW w = true := by
            rcases List.mem_append.mp hy with h | h
            · obtain ⟨w, hw, rfl⟩ := List.mem_map.mp h
              exact ⟨w, rfl, gh.sw.2 _ (srt_mem.mp hw)⟩
            · rcases List.mem_cons.mp h with rfl | h
              · exact ⟨_, rfl, by decide +kernel⟩
              · rw [List.mem_singleton.mp h]; exact ⟨_, rfl, by decide +kernel⟩
          repeat walk_at "st3"
          refine dw_bent (l := snD sns) (by rw [snD_fst]; exact ok2.nd) (fun p hp => by obtain ⟨q, hq, rfl⟩ := List.mem_map.mp hp; exact ok2.kw q hq) (by have := ok2.n1; simpa [snD] using this) (by have := ok2.n4; simpa [snD] using this) _ _ _ _ (by omega) fun y T7 hy u9 u10 => ?_
          obtain ⟨l', rfl, hb⟩ := hy
          obtain ⟨e, rfl, ok'⟩ := ok2.ofBent w1 hb
          repeat walk_at "st3"
          exact hK' _ _ ⟨T7, e, by omega, ok', rfl, rfl⟩
        · repeat walk_at "st3"
          exact hK' _ _ ⟨T5 + 1, sns, by omega, ok2, rfl, rfl⟩
      · rintro ς μ ⟨T6, sns, hT6, ok2, rfl, rfl⟩
        clear sn1 sn2
        exact k10_turn h0 hE hL hne gl gh ok ok2 (by omega) fun T' a10 a11 a12 a13 a14 hT' => hK _ _ ⟨T', _, _, _, _, _, _, _, _, a10, a11, a12, a13, a14, by omega, rfl, rfl⟩
  · rintro ς μ ⟨T, a2, a3, a4, a5, a6, a7, a8, a9, a10, a11, a12, a13, a14, hT, rfl, rfl⟩
    repeat walk_at "st3"
    exact x_rtE List.prefix_rfl (q _)
end Eg
namespace Eg
open Evl (Ex)
open PySem L2 Sn LamX
theorem ends {l : PySem.W.OpenLaw} {P : Program} {w : World} {K : PySem.W.Frag} {h : Heap} {mg : Str → Option Value} {fa : Addr} (hP : l.prog = P) (X : K.In h) (G : h.Ns mainGlobals mg) (hfa : mg "law" = some (.ref fa))
    {tLETTERS : Tok} {zLETTERS : Str}
    {tMOST_KINDS : Tok}
    {tMOST_LETTERS : Tok}
    {tMOST_ROW : Tok}
    {tMOST_STATES : Tok}
    {CS : Addr} {e0 : Addr} {e1 : Addr} {e2 : Addr} {e3 : Addr} {e4 : Addr} {e5 : Addr} {e6 : Addr} {e7 : Addr} {e8 : Addr} {e9 : Addr} {e10 : Addr} {e11 : Addr} {e12 : Addr} {e13 : Addr}
    {CE : Addr}
    {CL : Addr}
    {f_is_word : Addr} {oc_is_word kV_is_word dc_is_word pm_is_word ct_is_word : Value} {od_is_word an_is_word : Option Addr} {sl_is_word : Array (Option Value)} {cd_is_word : Value}
    {f_are_words : Addr} {oc_are_words kV_are_words dc_are_words pm_are_words ct_are_words : Value} {od_are_words an_are_words : Option Addr} {sl_are_words : Array (Option Value)} {cd_are_words : Value}
    {f_is_goal : Addr} {oc_is_goal kV_is_goal dc_is_goal pm_is_goal ct_is_goal : Value} {od_is_goal an_is_goal : Option Addr} {sl_is_goal : Array (Option Value)} {cd_is_goal : Value}
    {f_are_steps : Addr} {oc_are_steps kV_are_steps dc_are_steps pm_are_steps ct_are_steps : Value} {od_are_steps an_are_steps : Option Addr} {sl_are_steps : Array (Option Value)} {cd_are_steps : Value}
    {f_are_tells : Addr} {oc_are_tells kV_are_tells dc_are_tells pm_are_tells ct_are_tells : Value} {od_are_tells an_are_tells : Option Addr} {sl_are_tells : Array (Option Value)} {cd_are_tells : Value}
    {fCE_init : Addr} {ocCE_init kVCE_init dcCE_init pmCE_init ctCE_init : Value} {odCE_init anCE_init : Option Addr} {slCE_init : Array (Option Value)} {cdCE_init : Value}
    {pCE_kinds : Addr} {restCE_kinds : List Value}
    {fCE_kinds : Addr} {ocCE_kinds kVCE_kinds dcCE_kinds pmCE_kinds ctCE_kinds : Value} {odCE_kinds anCE_kinds : Option Addr} {slCE_kinds : Array (Option Value)} {cdCE_kinds : Value}
    {pCE_states : Addr} {restCE_states : List Value}
    {fCE_states : Addr} {ocCE_states kVCE_states dcCE_states pmCE_states ctCE_states : Value} {odCE_states anCE_states : Option Addr} {slCE_states : Array (Option Value)} {cdCE_states : Value}
    {fCE_contains : Addr} {ocCE_contains kVCE_contains dcCE_contains pmCE_contains ctCE_contains : Value} {odCE_contains anCE_contains : Option Addr} {slCE_contains : Array (Option Value)} {cdCE_contains : Value}
    {f_need_edition : Addr} {oc_need_edition kV_need_edition dc_need_edition pm_need_edition ct_need_edition : Value} {od_need_edition an_need_edition : Option Addr} {sl_need_edition : Array (Option Value)} {cd_need_edition : Value}
    {f_is_lifted_row : Addr} {oc_is_lifted_row kV_is_lifted_row dc_is_lifted_row pm_is_lifted_row ct_is_lifted_row : Value} {od_is_lifted_row an_is_lifted_row : Option Addr} {sl_is_lifted_row : Array (Option Value)} {cd_is_lifted_row : Value}
    {f_are_events : Addr} {oc_are_events kV_are_events dc_are_events pm_are_events ct_are_events : Value} {od_are_events an_are_events : Option Addr} {sl_are_events : Array (Option Value)} {cd_are_events : Value}
    {f_are_snapshots : Addr} {oc_are_snapshots kV_are_snapshots dc_are_snapshots pm_are_snapshots ct_are_snapshots : Value} {od_are_snapshots an_are_snapshots : Option Addr} {sl_are_snapshots : Array (Option Value)} {cd_are_snapshots : Value}
    {fCL_init : Addr} {ocCL_init kVCL_init dcCL_init pmCL_init ctCL_init : Value} {odCL_init anCL_init : Option Addr} {slCL_init : Array (Option Value)} {cdCL_init : Value}
    {fCL_fits : Addr} {ocCL_fits kVCL_fits dcCL_fits pmCL_fits ctCL_fits : Value} {odCL_fits anCL_fits : Option Addr} {slCL_fits : Array (Option Value)} {cdCL_fits : Value}
    {fCL_eq : Addr} {ocCL_eq kVCL_eq dcCL_eq pmCL_eq ctCL_eq : Value} {odCL_eq anCL_eq : Option Addr} {slCL_eq : Array (Option Value)} {cdCL_eq : Value}
    {f_l_pick : Addr} {oc_l_pick kV_l_pick dc_l_pick pm_l_pick ct_l_pick : Value} {od_l_pick an_l_pick : Option Addr} {sl_l_pick : Array (Option Value)} {cd_l_pick : Value}
    {f_l_words : Addr} {oc_l_words kV_l_words dc_l_words pm_l_words ct_l_words : Value} {od_l_words an_l_words : Option Addr} {sl_l_words : Array (Option Value)} {cd_l_words : Value}
    {f_l_row : Addr} {oc_l_row kV_l_row dc_l_row pm_l_row ct_l_row : Value} {od_l_row an_l_row : Option Addr} {sl_l_row : Array (Option Value)} {cd_l_row : Value}
    {f_l_kinds : Addr} {oc_l_kinds kV_l_kinds dc_l_kinds pm_l_kinds ct_l_kinds : Value} {od_l_kinds an_l_kinds : Option Addr} {sl_l_kinds : Array (Option Value)} {cd_l_kinds : Value}
    {f_l_any_told : Addr} {oc_l_any_told kV_l_any_told dc_l_any_told pm_l_any_told ct_l_any_told : Value} {od_l_any_told an_l_any_told : Option Addr} {sl_l_any_told : Array (Option Value)} {cd_l_any_told : Value}
    {f_l_rows_for : Addr} {oc_l_rows_for kV_l_rows_for dc_l_rows_for pm_l_rows_for ct_l_rows_for : Value} {od_l_rows_for an_l_rows_for : Option Addr} {sl_l_rows_for : Array (Option Value)} {cd_l_rows_for : Value}
    {f_l_edition : Addr} {oc_l_edition kV_l_edition dc_l_edition pm_l_edition ct_l_edition : Value} {od_l_edition an_l_edition : Option Addr} {sl_l_edition : Array (Option Value)} {cd_l_edition : Value}
    {f_l_bent : Addr} {oc_l_bent kV_l_bent dc_l_bent pm_l_bent ct_l_bent : Value} {od_l_bent an_l_bent : Option Addr} {sl_l_bent : Array (Option Value)} {cd_l_bent : Value}
    {f_l_is_due : Addr} {oc_l_is_due kV_l_is_due dc_l_is_due pm_l_is_due ct_l_is_due : Value} {od_l_is_due an_l_is_due : Option Addr} {sl_l_is_due : Array (Option Value)} {cd_l_is_due : Value}
    {P_law : Addr}
    {f_law : Addr} {oc_law kV_law dc_law pm_law ct_law : Value} {od_law an_law : Option Addr} {sl_law : Array (Option Value)} {cd_law : Addr}
    {f_l_draw : Addr} {oc_l_draw kV_l_draw dc_l_draw pm_l_draw ct_l_draw : Value} {od_l_draw an_l_draw : Option Addr} {sl_l_draw : Array (Option Value)} {cd_l_draw : Value}
    {f_l_begun : Addr} {oc_l_begun kV_l_begun dc_l_begun pm_l_begun ct_l_begun : Value} {od_l_begun an_l_begun : Option Addr} {sl_l_begun : Array (Option Value)} {cd_l_begun : Value}
    {f_l_heard : Addr} {oc_l_heard kV_l_heard dc_l_heard pm_l_heard ct_l_heard : Value} {od_l_heard an_l_heard : Option Addr} {sl_l_heard : Array (Option Value)} {cd_l_heard : Value}
    (nd : True) (hT : h.get? P_law = some (PySem.W.tabObj #[]) ∧ True)
    (b_len : PySem.W.nsIn K mainGlobals "len" = some none)
    (b_int : PySem.W.nsIn K mainGlobals "int" = some none)
    (b_abs : PySem.W.nsIn K mainGlobals "abs" = some none)
    (b_range : PySem.W.nsIn K mainGlobals "range" = some none)
    (b_min : PySem.W.nsIn K mainGlobals "min" = some none)
    (b_max : PySem.W.nsIn K mainGlobals "max" = some none)
    (b_dict : PySem.W.nsIn K mainGlobals "dict" = some none)
    (b_tuple : PySem.W.nsIn K mainGlobals "tuple" = some none)
    (b_list : PySem.W.nsIn K mainGlobals "list" = some none)
    (b_set : PySem.W.nsIn K mainGlobals "set" = some none)
    (b_sorted : PySem.W.nsIn K mainGlobals "sorted" = some none)
    (b_all : PySem.W.nsIn K mainGlobals "all" = some none)
    (b_any : PySem.W.nsIn K mainGlobals "any" = some none)
    (b_isinstance : PySem.W.nsIn K mainGlobals "isinstance" = some none)
    (b_enumerate : PySem.W.nsIn K mainGlobals "enumerate" = some none)
    (b_str : PySem.W.nsIn K mainGlobals "str" = some none)
    (b_bool : PySem.W.nsIn K mainGlobals "bool" = some none)
    (b_zip : PySem.W.nsIn K mainGlobals "zip" = some none)
    (b_sum : PySem.W.nsIn K mainGlobals "sum" = some none)
    (b_repr : PySem.W.nsIn K mainGlobals "repr" = some none)
    (b_ValueError : PySem.W.nsIn K mainGlobals "ValueError" = some none)
    (b_super : PySem.W.nsIn K mainGlobals "super" = some none)
    (cs_LETTERS : PySem.W.nsIn K mainGlobals "LETTERS" = some (some (.str zLETTERS tLETTERS)))
    (zLETTERS_ : zLETTERS = "abcdefghijklmnopqrstuvwxyz")
    (cs_MOST_KINDS : PySem.W.nsIn K mainGlobals "MOST_KINDS" = some (some (.int 4 tMOST_KINDS)))
    (cs_MOST_LETTERS : PySem.W.nsIn K mainGlobals "MOST_LETTERS" = some (some (.int 6 tMOST_LETTERS)))
    (cs_MOST_ROW : PySem.W.nsIn K mainGlobals "MOST_ROW" = some (some (.int 27 tMOST_ROW)))
    (cs_MOST_STATES : PySem.W.nsIn K mainGlobals "MOST_STATES" = some (some (.int 5 tMOST_STATES)))
    (n_snap : PySem.W.nsIn K mainGlobals "SnapError" = some (some (.ref CS)))
    (n_e0 : PySem.W.nsIn K mainGlobals "NoEdition" = some (some (.ref e0)))
    (n_e1 : PySem.W.nsIn K mainGlobals "NoState" = some (some (.ref e1)))
    (n_e2 : PySem.W.nsIn K mainGlobals "NoLift" = some (some (.ref e2)))
    (n_e3 : PySem.W.nsIn K mainGlobals "NoBook" = some (some (.ref e3)))
    (n_e4 : PySem.W.nsIn K mainGlobals "NoNumber" = some (some (.ref e4)))
    (n_e5 : PySem.W.nsIn K mainGlobals "TwoPasts" = some (some (.ref e5)))
    (n_e6 : PySem.W.nsIn K mainGlobals "NoPlan" = some (some (.ref e6)))
    (n_e7 : PySem.W.nsIn K mainGlobals "NoHands" = some (some (.ref e7)))
    (n_e8 : PySem.W.nsIn K mainGlobals "NoKey" = some (some (.ref e8)))
    (n_e9 : PySem.W.nsIn K mainGlobals "NothingLeft" = some (some (.ref e9)))
    (n_e10 : PySem.W.nsIn K mainGlobals "NoText" = some (some (.ref e10)))
    (n_e11 : PySem.W.nsIn K mainGlobals "NoKind" = some (some (.ref e11)))
    (n_e12 : PySem.W.nsIn K mainGlobals "NoHistory" = some (some (.ref e12)))
    (n_e13 : PySem.W.nsIn K mainGlobals "NotRight" = some (some (.ref e13)))
    (is_0_0 : PySem.W.kitOne K (.ref e0) (.ref e0) = some true)
    (is_0_1 : PySem.W.kitOne K (.ref e0) (.ref e1) = some false)
    (is_0_2 : PySem.W.kitOne K (.ref e0) (.ref e2) = some false)
    (is_0_3 : PySem.W.kitOne K (.ref e0) (.ref e3) = some false)
    (is_0_4 : PySem.W.kitOne K (.ref e0) (.ref e4) = some false)
    (is_0_5 : PySem.W.kitOne K (.ref e0) (.ref e5) = some false)
    (is_0_6 : PySem.W.kitOne K (.ref e0) (.ref e6) = some false)
    (is_0_7 : PySem.W.kitOne K (.ref e0) (.ref e7) = some false)
    (is_0_8 : PySem.W.kitOne K (.ref e0) (.ref e8) = some false)
    (is_0_9 : PySem.W.kitOne K (.ref e0) (.ref e9) = some false)
    (is_0_10 : PySem.W.kitOne K (.ref e0) (.ref e10) = some false)
    (is_0_11 : PySem.W.kitOne K (.ref e0) (.ref e11) = some false)
    (is_0_12 : PySem.W.kitOne K (.ref e0) (.ref e12) = some false)
    (is_0_13 : PySem.W.kitOne K (.ref e0) (.ref e13) = some false)
    (ve_0 : PySem.W.kitOne K (.ref e0) (.type "ValueError") = some true)
    (sn_0 : PySem.W.exmOne K (.ref e0) (.ref CS) = some true)
    (hg_0 : PySem.W.findIn K (.ref e0) "__getattribute__" = some (some (.builtin "BaseException.__getattribute__")))
    (hk_0 : PySem.W.findIn K (.ref e0) "__getattr__" = some none)
    (hd_0 : PySem.W.hasDictIn K e0 = true)
    (ha_0 : PySem.W.findIn K (.ref e0) "__class__" = some (some (.builtin "object.__class__")))
    (hm_0 : PySem.W.mroIn K e0 (.type "object") = some true)
    (hs_0 : PySem.W.subIn K (.ref e0) (.type "BaseException") = some true)
    (ke_0 : PySem.W.keepIn K (.ref e0) = true)
    (ty_0 : PySem.W.typeIn K (.ref e0) = some (.type "type"))
    (x0 : PySem.W.excIn K e0 [.type "ValueError", .type "Exception", .type "BaseException", .type "object"] "ValueError.__new__" = true)
    (hs_2 : PySem.W.subIn K (.ref e2) (.type "BaseException") = some true)
    (ke_2 : PySem.W.keepIn K (.ref e2) = true)
    (ty_2 : PySem.W.typeIn K (.ref e2) = some (.type "type"))
    (x2 : PySem.W.excIn K e2 [.type "ValueError", .type "Exception", .type "BaseException", .type "object"] "ValueError.__new__" = true)
    (hn : PySem.W.specialIn K (.builtin "object.__class__") "__get__" = some (some (.builtin "getset_descriptor.__get__")))
    (htk : PySem.W.takesIn K (.builtin "object.__class__") = some true)
    (n_Edition : PySem.W.nsIn K mainGlobals "Edition" = some (some (.ref CE)))
    (pgCE : PySem.W.plainGet K CE Str.empty = true)
    (hdCE : PySem.W.hasDictIn K CE = true)
    (poCE : PySem.W.plainOver K CE = true)
    (saCE : PySem.W.findIn K (.ref CE) "__setattr__" = some (some (.builtin "object.__setattr__")))
    (f0CE : PySem.W.findIn K (.ref CE) "own_steps" = some none)
    (f1CE : PySem.W.findIn K (.ref CE) "own_tells" = some none)
    (f2CE : PySem.W.findIn K (.ref CE) "own_start" = some none)
    (haCE : PySem.W.findIn K (.ref CE) "__class__" = some (some (.builtin "object.__class__")))
    (hmCE : PySem.W.mroIn K CE (.type "object") = some true)
    (isCE : PySem.W.kitOne K (.ref CE) (.ref CE) = some true)
    (mkCE_ : PySem.W.makesIn K CE = true)
    (kpCE : PySem.W.keepIn K (.ref CE) = true)
    (ktCE : PySem.W.kitOne K (.ref CE) (.type "tuple") = some false)
    (ksCE : PySem.W.kitOne K (.ref CE) (.type "str") = some false)
    (kt_dict_CE : PySem.W.kitOne K (.ref CE) (.type "dict") = some false)
    (kt_list_CE : PySem.W.kitOne K (.ref CE) (.type "list") = some false)
    (kt_int_CE : PySem.W.kitOne K (.ref CE) (.type "int") = some false)
    (kt_bool_CE : PySem.W.kitOne K (.ref CE) (.type "bool") = some false)
    (bt_NoneType_CE : PySem.W.kitOne K (.type "NoneType") (.ref CE) = some false)
    (bt_bool_CE : PySem.W.kitOne K (.type "bool") (.ref CE) = some false)
    (bt_int_CE : PySem.W.kitOne K (.type "int") (.ref CE) = some false)
    (bt_str_CE : PySem.W.kitOne K (.type "str") (.ref CE) = some false)
    (bt_tuple_CE : PySem.W.kitOne K (.type "tuple") (.ref CE) = some false)
    (bt_list_CE : PySem.W.kitOne K (.type "list") (.ref CE) = some false)
    (bt_dict_CE : PySem.W.kitOne K (.type "dict") (.ref CE) = some false)
    (n_Lift : PySem.W.nsIn K mainGlobals "Lift" = some (some (.ref CL)))
    (pgCL : PySem.W.plainGet K CL Str.empty = true)
    (hdCL : PySem.W.hasDictIn K CL = true)
    (poCL : PySem.W.plainOver K CL = true)
    (saCL : PySem.W.findIn K (.ref CL) "__setattr__" = some (some (.builtin "object.__setattr__")))
    (f0CL : PySem.W.findIn K (.ref CL) "own_events" = some none)
    (f1CL : PySem.W.findIn K (.ref CL) "own_snapshots" = some none)
    (haCL : PySem.W.findIn K (.ref CL) "__class__" = some (some (.builtin "object.__class__")))
    (hmCL : PySem.W.mroIn K CL (.type "object") = some true)
    (isCL : PySem.W.kitOne K (.ref CL) (.ref CL) = some true)
    (mkCL_ : PySem.W.makesIn K CL = true)
    (kpCL : PySem.W.keepIn K (.ref CL) = true)
    (ktCL : PySem.W.kitOne K (.ref CL) (.type "tuple") = some false)
    (ksCL : PySem.W.kitOne K (.ref CL) (.type "str") = some false)
    (kt_dict_CL : PySem.W.kitOne K (.ref CL) (.type "dict") = some false)
    (kt_list_CL : PySem.W.kitOne K (.ref CL) (.type "list") = some false)
    (kt_int_CL : PySem.W.kitOne K (.ref CL) (.type "int") = some false)
    (kt_bool_CL : PySem.W.kitOne K (.ref CL) (.type "bool") = some false)
    (bt_NoneType_CL : PySem.W.kitOne K (.type "NoneType") (.ref CL) = some false)
    (bt_bool_CL : PySem.W.kitOne K (.type "bool") (.ref CL) = some false)
    (bt_int_CL : PySem.W.kitOne K (.type "int") (.ref CL) = some false)
    (bt_str_CL : PySem.W.kitOne K (.type "str") (.ref CL) = some false)
    (bt_tuple_CL : PySem.W.kitOne K (.type "tuple") (.ref CL) = some false)
    (bt_list_CL : PySem.W.kitOne K (.type "list") (.ref CL) = some false)
    (bt_dict_CL : PySem.W.kitOne K (.type "dict") (.ref CL) = some false)
    (ow_CE_CL : PySem.W.kitOne K (.ref CE) (.ref CL) = some false)
    (nq_CE_CL : CE ≠ CL)
    (ow_CL_CE : PySem.W.kitOne K (.ref CL) (.ref CE) = some false)
    (nq_CL_CE : CL ≠ CE)
    (a_is_word : PySem.W.nsIn K mainGlobals "is_word" = some (some (.ref f_is_word)))
    (l_is_word : K.lookup f_is_word = some ⟨oc_is_word, od_is_word, .func (PySem.W.fnOf "is_word" "is_word" (defArgs s_is_word) (defBody s_is_word) (defScope s_is_word) .none kV_is_word dc_is_word pm_is_word an_is_word cd_is_word ct_is_word), sl_is_word⟩)
    (c_is_word : PySem.W.codeIn K cd_is_word "is_word" = true)
    (k_is_word : PySem.W.keepIn K (.ref f_is_word) = true)
    (a_are_words : PySem.W.nsIn K mainGlobals "are_words" = some (some (.ref f_are_words)))
    (l_are_words : K.lookup f_are_words = some ⟨oc_are_words, od_are_words, .func (PySem.W.fnOf "are_words" "are_words" (defArgs s_are_words) (defBody s_are_words) (defScope s_are_words) .none kV_are_words dc_are_words pm_are_words an_are_words cd_are_words ct_are_words), sl_are_words⟩)
    (c_are_words : PySem.W.codeIn K cd_are_words "are_words" = true)
    (k_are_words : PySem.W.keepIn K (.ref f_are_words) = true)
    (a_is_goal : PySem.W.nsIn K mainGlobals "is_goal" = some (some (.ref f_is_goal)))
    (l_is_goal : K.lookup f_is_goal = some ⟨oc_is_goal, od_is_goal, .func (PySem.W.fnOf "is_goal" "is_goal" (defArgs s_is_goal) (defBody s_is_goal) (defScope s_is_goal) .none kV_is_goal dc_is_goal pm_is_goal an_is_goal cd_is_goal ct_is_goal), sl_is_goal⟩)
    (c_is_goal : PySem.W.codeIn K cd_is_goal "is_goal" = true)
    (k_is_goal : PySem.W.keepIn K (.ref f_is_goal) = true)
    (a_are_steps : PySem.W.nsIn K mainGlobals "are_steps" = some (some (.ref f_are_steps)))
    (l_are_steps : K.lookup f_are_steps = some ⟨oc_are_steps, od_are_steps, .func (PySem.W.fnOf "are_steps" "are_steps" (defArgs s_are_steps) (defBody s_are_steps) (defScope s_are_steps) .none kV_are_steps dc_are_steps pm_are_steps an_are_steps cd_are_steps ct_are_steps), sl_are_steps⟩)
    (c_are_steps : PySem.W.codeIn K cd_are_steps "are_steps" = true)
    (k_are_steps : PySem.W.keepIn K (.ref f_are_steps) = true)
    (a_are_tells : PySem.W.nsIn K mainGlobals "are_tells" = some (some (.ref f_are_tells)))
    (l_are_tells : K.lookup f_are_tells = some ⟨oc_are_tells, od_are_tells, .func (PySem.W.fnOf "are_tells" "are_tells" (defArgs s_are_tells) (defBody s_are_tells) (defScope s_are_tells) .none kV_are_tells dc_are_tells pm_are_tells an_are_tells cd_are_tells ct_are_tells), sl_are_tells⟩)
    (c_are_tells : PySem.W.codeIn K cd_are_tells "are_tells" = true)
    (k_are_tells : PySem.W.keepIn K (.ref f_are_tells) = true)
    (aCE_init : PySem.W.findIn K (.ref CE) "__init__" = some (some (.ref fCE_init)))
    (lCE_init : K.lookup fCE_init = some ⟨ocCE_init, odCE_init, .func (PySem.W.fnOf "__init__" "Edition.__init__" (defArgs s_Edition___init) (defBody s_Edition___init) (defScope s_Edition___init) .none kVCE_init dcCE_init pmCE_init anCE_init cdCE_init ctCE_init), slCE_init⟩)
    (cCE_init : PySem.W.codeIn K cdCE_init "Edition.__init__" = true)
    (kCE_init : PySem.W.keepIn K (.ref fCE_init) = true)
    (iCE_init : PySem.W.isFn K (.ref fCE_init) = true)
    (aCE_kinds : PySem.W.findIn K (.ref CE) "kinds" = some (some (.ref pCE_kinds)))
    (gCE_kinds : PySem.W.specialIn K (.ref pCE_kinds) "__get__" = some (some (.builtin "property.__get__")))
    (qCE_kinds : PySem.W.takesIn K (.ref pCE_kinds) = some true)
    (rCE_kinds : PySem.W.recIn K pCE_kinds "property" = some (.ref fCE_kinds :: restCE_kinds))
    (lCE_kinds : K.lookup fCE_kinds = some ⟨ocCE_kinds, odCE_kinds, .func (PySem.W.fnOf "kinds" "Edition.kinds" (defArgs s_Edition_kinds) (defBody s_Edition_kinds) (defScope s_Edition_kinds) .none kVCE_kinds dcCE_kinds pmCE_kinds anCE_kinds cdCE_kinds ctCE_kinds), slCE_kinds⟩)
    (cCE_kinds : PySem.W.codeIn K cdCE_kinds "Edition.kinds" = true)
    (kCE_kinds : PySem.W.keepIn K (.ref fCE_kinds) = true)
    (aCE_states : PySem.W.findIn K (.ref CE) "states" = some (some (.ref pCE_states)))
    (gCE_states : PySem.W.specialIn K (.ref pCE_states) "__get__" = some (some (.builtin "property.__get__")))
    (qCE_states : PySem.W.takesIn K (.ref pCE_states) = some true)
    (rCE_states : PySem.W.recIn K pCE_states "property" = some (.ref fCE_states :: restCE_states))
    (lCE_states : K.lookup fCE_states = some ⟨ocCE_states, odCE_states, .func (PySem.W.fnOf "states" "Edition.states" (defArgs s_Edition_states) (defBody s_Edition_states) (defScope s_Edition_states) .none kVCE_states dcCE_states pmCE_states anCE_states cdCE_states ctCE_states), slCE_states⟩)
    (cCE_states : PySem.W.codeIn K cdCE_states "Edition.states" = true)
    (kCE_states : PySem.W.keepIn K (.ref fCE_states) = true)
    (aCE_contains : PySem.W.findIn K (.ref CE) "__contains__" = some (some (.ref fCE_contains)))
    (lCE_contains : K.lookup fCE_contains = some ⟨ocCE_contains, odCE_contains, .func (PySem.W.fnOf "__contains__" "Edition.__contains__" (defArgs s_Edition___contains) (defBody s_Edition___contains) (defScope s_Edition___contains) .none kVCE_contains dcCE_contains pmCE_contains anCE_contains cdCE_contains ctCE_contains), slCE_contains⟩)
    (cCE_contains : PySem.W.codeIn K cdCE_contains "Edition.__contains__" = true)
    (kCE_contains : PySem.W.keepIn K (.ref fCE_contains) = true)
    (iCE_contains : PySem.W.isFn K (.ref fCE_contains) = true)
    (a_need_edition : PySem.W.nsIn K mainGlobals "need_edition" = some (some (.ref f_need_edition)))
    (l_need_edition : K.lookup f_need_edition = some ⟨oc_need_edition, od_need_edition, .func (PySem.W.fnOf "need_edition" "need_edition" (defArgs s_need_edition) (defBody s_need_edition) (defScope s_need_edition) .none kV_need_edition dc_need_edition pm_need_edition an_need_edition cd_need_edition ct_need_edition), sl_need_edition⟩)
    (c_need_edition : PySem.W.codeIn K cd_need_edition "need_edition" = true)
    (k_need_edition : PySem.W.keepIn K (.ref f_need_edition) = true)
    (a_is_lifted_row : PySem.W.nsIn K mainGlobals "is_lifted_row" = some (some (.ref f_is_lifted_row)))
    (l_is_lifted_row : K.lookup f_is_lifted_row = some ⟨oc_is_lifted_row, od_is_lifted_row, .func (PySem.W.fnOf "is_lifted_row" "is_lifted_row" (defArgs s_is_lifted_row) (defBody s_is_lifted_row) (defScope s_is_lifted_row) .none kV_is_lifted_row dc_is_lifted_row pm_is_lifted_row an_is_lifted_row cd_is_lifted_row ct_is_lifted_row), sl_is_lifted_row⟩)
    (c_is_lifted_row : PySem.W.codeIn K cd_is_lifted_row "is_lifted_row" = true)
    (k_is_lifted_row : PySem.W.keepIn K (.ref f_is_lifted_row) = true)
    (a_are_events : PySem.W.nsIn K mainGlobals "are_events" = some (some (.ref f_are_events)))
    (l_are_events : K.lookup f_are_events = some ⟨oc_are_events, od_are_events, .func (PySem.W.fnOf "are_events" "are_events" (defArgs s_are_events) (defBody s_are_events) (defScope s_are_events) .none kV_are_events dc_are_events pm_are_events an_are_events cd_are_events ct_are_events), sl_are_events⟩)
    (c_are_events : PySem.W.codeIn K cd_are_events "are_events" = true)
    (k_are_events : PySem.W.keepIn K (.ref f_are_events) = true)
    (a_are_snapshots : PySem.W.nsIn K mainGlobals "are_snapshots" = some (some (.ref f_are_snapshots)))
    (l_are_snapshots : K.lookup f_are_snapshots = some ⟨oc_are_snapshots, od_are_snapshots, .func (PySem.W.fnOf "are_snapshots" "are_snapshots" (defArgs s_are_snapshots) (defBody s_are_snapshots) (defScope s_are_snapshots) .none kV_are_snapshots dc_are_snapshots pm_are_snapshots an_are_snapshots cd_are_snapshots ct_are_snapshots), sl_are_snapshots⟩)
    (c_are_snapshots : PySem.W.codeIn K cd_are_snapshots "are_snapshots" = true)
    (k_are_snapshots : PySem.W.keepIn K (.ref f_are_snapshots) = true)
    (aCL_init : PySem.W.findIn K (.ref CL) "__init__" = some (some (.ref fCL_init)))
    (lCL_init : K.lookup fCL_init = some ⟨ocCL_init, odCL_init, .func (PySem.W.fnOf "__init__" "Lift.__init__" (defArgs s_Lift___init) (defBody s_Lift___init) (defScope s_Lift___init) .none kVCL_init dcCL_init pmCL_init anCL_init cdCL_init ctCL_init), slCL_init⟩)
    (cCL_init : PySem.W.codeIn K cdCL_init "Lift.__init__" = true)
    (kCL_init : PySem.W.keepIn K (.ref fCL_init) = true)
    (iCL_init : PySem.W.isFn K (.ref fCL_init) = true)
    (aCL_fits : PySem.W.findIn K (.ref CL) "fits" = some (some (.ref fCL_fits)))
    (lCL_fits : K.lookup fCL_fits = some ⟨ocCL_fits, odCL_fits, .func (PySem.W.fnOf "fits" "Lift.fits" (defArgs s_Lift_fits) (defBody s_Lift_fits) (defScope s_Lift_fits) .none kVCL_fits dcCL_fits pmCL_fits anCL_fits cdCL_fits ctCL_fits), slCL_fits⟩)
    (cCL_fits : PySem.W.codeIn K cdCL_fits "Lift.fits" = true)
    (kCL_fits : PySem.W.keepIn K (.ref fCL_fits) = true)
    (iCL_fits : PySem.W.isFn K (.ref fCL_fits) = true)
    (aCL_eq : PySem.W.findIn K (.ref CL) "__eq__" = some (some (.ref fCL_eq)))
    (lCL_eq : K.lookup fCL_eq = some ⟨ocCL_eq, odCL_eq, .func (PySem.W.fnOf "__eq__" "Lift.__eq__" (defArgs s_Lift___eq) (defBody s_Lift___eq) (defScope s_Lift___eq) .none kVCL_eq dcCL_eq pmCL_eq anCL_eq cdCL_eq ctCL_eq), slCL_eq⟩)
    (cCL_eq : PySem.W.codeIn K cdCL_eq "Lift.__eq__" = true)
    (kCL_eq : PySem.W.keepIn K (.ref fCL_eq) = true)
    (iCL_eq : PySem.W.isFn K (.ref fCL_eq) = true)
    (a_l_pick : PySem.W.nsIn K mainGlobals "_law_pick" = some (some (.ref f_l_pick)))
    (l_l_pick : K.lookup f_l_pick = some ⟨oc_l_pick, od_l_pick, .func (PySem.W.fnOf "_law_pick" "_law_pick" (defArgs s_l_pick) (defBody s_l_pick) (defScope s_l_pick) .none kV_l_pick dc_l_pick pm_l_pick an_l_pick cd_l_pick ct_l_pick), sl_l_pick⟩)
    (c_l_pick : PySem.W.codeIn K cd_l_pick "_law_pick" = true)
    (k_l_pick : PySem.W.keepIn K (.ref f_l_pick) = true)
    (a_l_words : PySem.W.nsIn K mainGlobals "_law_words" = some (some (.ref f_l_words)))
    (l_l_words : K.lookup f_l_words = some ⟨oc_l_words, od_l_words, .func (PySem.W.fnOf "_law_words" "_law_words" (defArgs s_l_words) (defBody s_l_words) (defScope s_l_words) .none kV_l_words dc_l_words pm_l_words an_l_words cd_l_words ct_l_words), sl_l_words⟩)
    (c_l_words : PySem.W.codeIn K cd_l_words "_law_words" = true)
    (k_l_words : PySem.W.keepIn K (.ref f_l_words) = true)
    (a_l_row : PySem.W.nsIn K mainGlobals "_law_row" = some (some (.ref f_l_row)))
    (l_l_row : K.lookup f_l_row = some ⟨oc_l_row, od_l_row, .func (PySem.W.fnOf "_law_row" "_law_row" (defArgs s_l_row) (defBody s_l_row) (defScope s_l_row) .none kV_l_row dc_l_row pm_l_row an_l_row cd_l_row ct_l_row), sl_l_row⟩)
    (c_l_row : PySem.W.codeIn K cd_l_row "_law_row" = true)
    (k_l_row : PySem.W.keepIn K (.ref f_l_row) = true)
    (a_l_kinds : PySem.W.nsIn K mainGlobals "_law_kinds" = some (some (.ref f_l_kinds)))
    (l_l_kinds : K.lookup f_l_kinds = some ⟨oc_l_kinds, od_l_kinds, .func (PySem.W.fnOf "_law_kinds" "_law_kinds" (defArgs s_l_kinds) (defBody s_l_kinds) (defScope s_l_kinds) .none kV_l_kinds dc_l_kinds pm_l_kinds an_l_kinds cd_l_kinds ct_l_kinds), sl_l_kinds⟩)
    (c_l_kinds : PySem.W.codeIn K cd_l_kinds "_law_kinds" = true)
    (k_l_kinds : PySem.W.keepIn K (.ref f_l_kinds) = true)
    (a_l_any_told : PySem.W.nsIn K mainGlobals "_law_any_told" = some (some (.ref f_l_any_told)))
    (l_l_any_told : K.lookup f_l_any_told = some ⟨oc_l_any_told, od_l_any_told, .func (PySem.W.fnOf "_law_any_told" "_law_any_told" (defArgs s_l_any_told) (defBody s_l_any_told) (defScope s_l_any_told) .none kV_l_any_told dc_l_any_told pm_l_any_told an_l_any_told cd_l_any_told ct_l_any_told), sl_l_any_told⟩)
    (c_l_any_told : PySem.W.codeIn K cd_l_any_told "_law_any_told" = true)
    (k_l_any_told : PySem.W.keepIn K (.ref f_l_any_told) = true)
    (a_l_rows_for : PySem.W.nsIn K mainGlobals "_law_rows_for" = some (some (.ref f_l_rows_for)))
    (l_l_rows_for : K.lookup f_l_rows_for = some ⟨oc_l_rows_for, od_l_rows_for, .func (PySem.W.fnOf "_law_rows_for" "_law_rows_for" (defArgs s_l_rows_for) (defBody s_l_rows_for) (defScope s_l_rows_for) .none kV_l_rows_for dc_l_rows_for pm_l_rows_for an_l_rows_for cd_l_rows_for ct_l_rows_for), sl_l_rows_for⟩)
    (c_l_rows_for : PySem.W.codeIn K cd_l_rows_for "_law_rows_for" = true)
    (k_l_rows_for : PySem.W.keepIn K (.ref f_l_rows_for) = true)
    (a_l_edition : PySem.W.nsIn K mainGlobals "_law_edition" = some (some (.ref f_l_edition)))
    (l_l_edition : K.lookup f_l_edition = some ⟨oc_l_edition, od_l_edition, .func (PySem.W.fnOf "_law_edition" "_law_edition" (defArgs s_l_edition) (defBody s_l_edition) (defScope s_l_edition) .none kV_l_edition dc_l_edition pm_l_edition an_l_edition cd_l_edition ct_l_edition), sl_l_edition⟩)
    (c_l_edition : PySem.W.codeIn K cd_l_edition "_law_edition" = true)
    (k_l_edition : PySem.W.keepIn K (.ref f_l_edition) = true)
    (a_l_bent : PySem.W.nsIn K mainGlobals "_law_bent" = some (some (.ref f_l_bent)))
    (l_l_bent : K.lookup f_l_bent = some ⟨oc_l_bent, od_l_bent, .func (PySem.W.fnOf "_law_bent" "_law_bent" (defArgs s_l_bent) (defBody s_l_bent) (defScope s_l_bent) .none kV_l_bent dc_l_bent pm_l_bent an_l_bent cd_l_bent ct_l_bent), sl_l_bent⟩)
    (c_l_bent : PySem.W.codeIn K cd_l_bent "_law_bent" = true)
    (k_l_bent : PySem.W.keepIn K (.ref f_l_bent) = true)
    (a_l_is_due : PySem.W.nsIn K mainGlobals "_law_is_due" = some (some (.ref f_l_is_due)))
    (l_l_is_due : K.lookup f_l_is_due = some ⟨oc_l_is_due, od_l_is_due, .func (PySem.W.fnOf "_law_is_due" "_law_is_due" (defArgs s_l_is_due) (defBody s_l_is_due) (defScope s_l_is_due) .none kV_l_is_due dc_l_is_due pm_l_is_due an_l_is_due cd_l_is_due ct_l_is_due), sl_l_is_due⟩)
    (c_l_is_due : PySem.W.codeIn K cd_l_is_due "_law_is_due" = true)
    (k_l_is_due : PySem.W.keepIn K (.ref f_l_is_due) = true)
    (a_law : PySem.W.nsIn K mainGlobals "law" = some (some (.ref f_law)))
    (l_law : K.lookup f_law = some ⟨oc_law, od_law, .func (PySem.W.fnOf "law" "law" (defArgs s_law) (defBody s_law) (defScope s_law) .none kV_law dc_law pm_law an_law (.ref cd_law) ct_law), sl_law⟩)
    (c_law : PySem.W.codeIn K (.ref cd_law) "law" = true)
    (k_law : PySem.W.keepIn K (.ref f_law) = true)
    (t_law : PySem.W.codeHdIn K cd_law P_law = true)
    (u_law : K.lookup P_law = none)
    (a_l_draw : PySem.W.nsIn K mainGlobals "_law_draw" = some (some (.ref f_l_draw)))
    (l_l_draw : K.lookup f_l_draw = some ⟨oc_l_draw, od_l_draw, .func (PySem.W.fnOf "_law_draw" "_law_draw" (defArgs s_l_draw) (defBody s_l_draw) (defScope s_l_draw) .none kV_l_draw dc_l_draw pm_l_draw an_l_draw cd_l_draw ct_l_draw), sl_l_draw⟩)
    (c_l_draw : PySem.W.codeIn K cd_l_draw "_law_draw" = true)
    (k_l_draw : PySem.W.keepIn K (.ref f_l_draw) = true)
    (a_l_begun : PySem.W.nsIn K mainGlobals "_law_begun" = some (some (.ref f_l_begun)))
    (l_l_begun : K.lookup f_l_begun = some ⟨oc_l_begun, od_l_begun, .func (PySem.W.fnOf "_law_begun" "_law_begun" (defArgs s_l_begun) (defBody s_l_begun) (defScope s_l_begun) .none kV_l_begun dc_l_begun pm_l_begun an_l_begun cd_l_begun ct_l_begun), sl_l_begun⟩)
    (c_l_begun : PySem.W.codeIn K cd_l_begun "_law_begun" = true)
    (k_l_begun : PySem.W.keepIn K (.ref f_l_begun) = true)
    (a_l_heard : PySem.W.nsIn K mainGlobals "_law_heard" = some (some (.ref f_l_heard)))
    (l_l_heard : K.lookup f_l_heard = some ⟨oc_l_heard, od_l_heard, .func (PySem.W.fnOf "_law_heard" "_law_heard" (defArgs s_l_heard) (defBody s_l_heard) (defScope s_l_heard) .none kV_l_heard dc_l_heard pm_l_heard an_l_heard cd_l_heard ct_l_heard), sl_l_heard⟩)
    (c_l_heard : PySem.W.codeIn K cd_l_heard "_law_heard" = true)
    (k_l_heard : PySem.W.keepIn K (.ref f_l_heard) = true)
    (neCL : PySem.W.findIn K (.ref CL) "__ne__" = some (some (.builtin "object.__ne__")))
    : LawG l w K (L2.CX l.prog w) 7 63 "_law_script" mg fa h := by
  subst hP
  have q_law := hfa.symm.trans (PySem.W.mg_of X G a_law)
  cases q_law
  have B : Bt mg := ⟨PySem.W.mg_none_of X G b_len, PySem.W.mg_none_of X G b_int, PySem.W.mg_none_of X G b_abs, PySem.W.mg_none_of X G b_range, PySem.W.mg_none_of X G b_min, PySem.W.mg_none_of X G b_max, PySem.W.mg_none_of X G b_dict, PySem.W.mg_none_of X G b_tuple, PySem.W.mg_none_of X G b_list, PySem.W.mg_none_of X G b_set, PySem.W.mg_none_of X G b_sorted, PySem.W.mg_none_of X G b_all, PySem.W.mg_none_of X G b_any, PySem.W.mg_none_of X G b_isinstance, PySem.W.mg_none_of X G b_enumerate, PySem.W.mg_none_of X G b_str, PySem.W.mg_none_of X G b_bool, PySem.W.mg_none_of X G b_zip, PySem.W.mg_none_of X G b_sum, PySem.W.mg_none_of X G b_repr, PySem.W.mg_none_of X G b_ValueError, PySem.W.mg_none_of X G b_super⟩
  have g_LETTERS : ∃ t, mg "LETTERS" = some (.str "abcdefghijklmnopqrstuvwxyz" t) := ⟨_, by rw [← zLETTERS_]; exact PySem.W.mg_of X G cs_LETTERS⟩
  have g_MOST_KINDS : ∃ t, mg "MOST_KINDS" = some (.int 4 t) := ⟨_, PySem.W.mg_of X G cs_MOST_KINDS⟩
  have g_MOST_LETTERS : ∃ t, mg "MOST_LETTERS" = some (.int 6 t) := ⟨_, PySem.W.mg_of X G cs_MOST_LETTERS⟩
  have g_MOST_ROW : ∃ t, mg "MOST_ROW" = some (.int 27 t) := ⟨_, PySem.W.mg_of X G cs_MOST_ROW⟩
  have g_MOST_STATES : ∃ t, mg "MOST_STATES" = some (.int 5 t) := ⟨_, PySem.W.mg_of X G cs_MOST_STATES⟩
  let e : Nat → Addr := fun i => match i with | 0 => e0 | 1 => e1 | 2 => e2 | 3 => e3 | 4 => e4 | 5 => e5 | 6 => e6 | 7 => e7 | 8 => e8 | 9 => e9 | 10 => e10 | 11 => e11 | 12 => e12 | _ => e13
  have er : ErrF K mg e CS [0] :=
    { nm := fun i hi => match i, hi with | 0, _ => PySem.W.mg_of X G n_e0 | 1, _ => PySem.W.mg_of X G n_e1 | 2, _ => PySem.W.mg_of X G n_e2 | 3, _ => PySem.W.mg_of X G n_e3 | 4, _ => PySem.W.mg_of X G n_e4 | 5, _ => PySem.W.mg_of X G n_e5 | 6, _ => PySem.W.mg_of X G n_e6 | 7, _ => PySem.W.mg_of X G n_e7 | 8, _ => PySem.W.mg_of X G n_e8 | 9, _ => PySem.W.mg_of X G n_e9 | 10, _ => PySem.W.mg_of X G n_e10 | 11, _ => PySem.W.mg_of X G n_e11 | 12, _ => PySem.W.mg_of X G n_e12 | 13, _ => PySem.W.mg_of X G n_e13 | (n + 14), hi => absurd hi (by omega)
      snap := PySem.W.mg_of X G n_snap
      lt := by decide
      is := fun i hi j hj => by
        simp only [List.mem_cons, List.not_mem_nil, or_false] at hi
        rcases hi with rfl
        · match j, hj with | 0, _ => exact is_0_0 | 1, _ => exact is_0_1 | 2, _ => exact is_0_2 | 3, _ => exact is_0_3 | 4, _ => exact is_0_4 | 5, _ => exact is_0_5 | 6, _ => exact is_0_6 | 7, _ => exact is_0_7 | 8, _ => exact is_0_8 | 9, _ => exact is_0_9 | 10, _ => exact is_0_10 | 11, _ => exact is_0_11 | 12, _ => exact is_0_12 | 13, _ => exact is_0_13 | (n + 14), hj => exact absurd hj (by omega)
      ve := fun i hi => by
        simp only [List.mem_cons, List.not_mem_nil, or_false] at hi
        rcases hi with rfl
        · exact ve_0
      sn := fun i hi => by
        simp only [List.mem_cons, List.not_mem_nil, or_false] at hi
        rcases hi with rfl
        · exact sn_0
      ec := fun i hi => by
        simp only [List.mem_cons, List.not_mem_nil, or_false] at hi
        rcases hi with rfl
        · exact ⟨hg_0, hk_0, hs_0, hd_0, ha_0, hn, htk, hm_0⟩
      xf := fun i hi h11 => by
        simp only [List.mem_cons, List.not_mem_nil, or_false] at hi
        rcases hi with rfl
        · exact absurd h11 (by decide)
      at11 := fun z => by simp at z
      at12 := fun z => by simp at z
      at13 := fun z => by simp at z }
  have R0 : Raise0 K mg (e 0) "NoEdition" := ⟨⟨_, _, _, _, PySem.F.excBase_ValueError, x0⟩, PySem.W.mg_of X G n_e0, ke_0, hs_0, ty_0⟩
  have R2 : Raise0 K mg (e 2) "NoLift" := ⟨⟨_, _, _, _, PySem.F.excBase_ValueError, x2⟩, PySem.W.mg_of X G n_e2, ke_2, hs_2, ty_2⟩
  have R_NoEdition := R0
  have R_NoLift := R2
  have cls_CE : Cls K CE := ⟨pgCE, hdCE, poCE, saCE⟩
  have L_Edition : Fl K CE ["own_steps", "own_tells", "own_start"] := ⟨cls_CE, fun f hf => by
    simp only [List.mem_cons, List.not_mem_nil, or_false] at hf
    rcases hf with rfl | rfl | rfl
    · exact f0CE
    · exact f1CE
    · exact f2CE⟩
  have n_Edition_ : mg "Edition" = some (.ref CE) := PySem.W.mg_of X G n_Edition
  have cls_CL : Cls K CL := ⟨pgCL, hdCL, poCL, saCL⟩
  have L_Lift : Fl K CL ["own_events", "own_snapshots"] := ⟨cls_CL, fun f hf => by
    simp only [List.mem_cons, List.not_mem_nil, or_false] at hf
    rcases hf with rfl | rfl
    · exact f0CL
    · exact f1CL⟩
  have n_Lift_ : mg "Lift" = some (.ref CL) := PySem.W.mg_of X G n_Lift
  have Ic : Insts K [CE, CL] :=
    { cls := fun C hC => by
        simp only [List.mem_cons, List.not_mem_nil, or_false] at hC
        rcases hC with rfl | rfl
        · exact cls_CE
        · exact cls_CL
      ha := fun C hC => by
        simp only [List.mem_cons, List.not_mem_nil, or_false] at hC
        rcases hC with rfl | rfl
        · exact haCE
        · exact haCL
      hn := hn, htk := htk
      hm := fun C hC => by
        simp only [List.mem_cons, List.not_mem_nil, or_false] at hC
        rcases hC with rfl | rfl
        · exact hmCE
        · exact hmCL
      own := fun C hC => by
        simp only [List.mem_cons, List.not_mem_nil, or_false] at hC
        rcases hC with rfl | rfl
        · exact (fun C2 hC2 => by
            simp only [List.mem_cons, List.not_mem_nil, or_false] at hC2
            rcases hC2 with rfl | rfl
            · rw [decide_eq_true rfl]; exact isCE
            · rw [decide_eq_false nq_CE_CL]; exact ow_CE_CL)
        · exact (fun C2 hC2 => by
            simp only [List.mem_cons, List.not_mem_nil, or_false] at hC2
            rcases hC2 with rfl | rfl
            · rw [decide_eq_false nq_CL_CE]; exact ow_CL_CE
            · rw [decide_eq_true rfl]; exact isCL)
      ty := fun C hC => by
        simp only [List.mem_cons, List.not_mem_nil, or_false] at hC
        rcases hC with rfl | rfl
        · exact (fun T hT => by
            simp only [List.mem_cons, List.not_mem_nil, or_false] at hT
            rcases hT with rfl | rfl | rfl | rfl | rfl | rfl
            · exact ksCE
            · exact ktCE
            · exact kt_dict_CE
            · exact kt_list_CE
            · exact kt_int_CE
            · exact kt_bool_CE)
        · exact (fun T hT => by
            simp only [List.mem_cons, List.not_mem_nil, or_false] at hT
            rcases hT with rfl | rfl | rfl | rfl | rfl | rfl
            · exact ksCL
            · exact ktCL
            · exact kt_dict_CL
            · exact kt_list_CL
            · exact kt_int_CL
            · exact kt_bool_CL)
      bt := fun C hC => by
        simp only [List.mem_cons, List.not_mem_nil, or_false] at hC
        rcases hC with rfl | rfl
        · exact (fun T hT => by
            simp only [List.mem_cons, List.not_mem_nil, or_false] at hT
            rcases hT with rfl | rfl | rfl | rfl | rfl | rfl | rfl
            · exact bt_NoneType_CE
            · exact bt_bool_CE
            · exact bt_int_CE
            · exact bt_str_CE
            · exact bt_tuple_CE
            · exact bt_list_CE
            · exact bt_dict_CE)
        · exact (fun T hT => by
            simp only [List.mem_cons, List.not_mem_nil, or_false] at hT
            rcases hT with rfl | rfl | rfl | rfl | rfl | rfl | rfl
            · exact bt_NoneType_CL
            · exact bt_bool_CL
            · exact bt_int_CL
            · exact bt_str_CL
            · exact bt_tuple_CL
            · exact bt_list_CL
            · exact bt_dict_CL) }
  have F_is_word := fun_mk (st := s_is_word) l_is_word c_is_word k_is_word
  have F_are_words := fun_mk (st := s_are_words) l_are_words c_are_words k_are_words
  have F_is_goal := fun_mk (st := s_is_goal) l_is_goal c_is_goal k_is_goal
  have F_are_steps := fun_mk (st := s_are_steps) l_are_steps c_are_steps k_are_steps
  have F_are_tells := fun_mk (st := s_are_tells) l_are_tells c_are_tells k_are_tells
  have FCE_init := fun_mk (st := s_Edition___init) lCE_init cCE_init kCE_init
  have FCE_kinds := fun_mk (st := s_Edition_kinds) lCE_kinds cCE_kinds kCE_kinds
  have FCE_states := fun_mk (st := s_Edition_states) lCE_states cCE_states kCE_states
  have FCE_contains := fun_mk (st := s_Edition___contains) lCE_contains cCE_contains kCE_contains
  have F_need_edition := fun_mk (st := s_need_edition) l_need_edition c_need_edition k_need_edition
  have F_is_lifted_row := fun_mk (st := s_is_lifted_row) l_is_lifted_row c_is_lifted_row k_is_lifted_row
  have F_are_events := fun_mk (st := s_are_events) l_are_events c_are_events k_are_events
  have F_are_snapshots := fun_mk (st := s_are_snapshots) l_are_snapshots c_are_snapshots k_are_snapshots
  have FCL_init := fun_mk (st := s_Lift___init) lCL_init cCL_init kCL_init
  have FCL_fits := fun_mk (st := s_Lift_fits) lCL_fits cCL_fits kCL_fits
  have FCL_eq := fun_mk (st := s_Lift___eq) lCL_eq cCL_eq kCL_eq
  have F_l_pick := fun_mk (st := s_l_pick) l_l_pick c_l_pick k_l_pick
  have F_l_words := fun_mk (st := s_l_words) l_l_words c_l_words k_l_words
  have F_l_row := fun_mk (st := s_l_row) l_l_row c_l_row k_l_row
  have F_l_kinds := fun_mk (st := s_l_kinds) l_l_kinds c_l_kinds k_l_kinds
  have F_l_any_told := fun_mk (st := s_l_any_told) l_l_any_told c_l_any_told k_l_any_told
  have F_l_rows_for := fun_mk (st := s_l_rows_for) l_l_rows_for c_l_rows_for k_l_rows_for
  have F_l_edition := fun_mk (st := s_l_edition) l_l_edition c_l_edition k_l_edition
  have F_l_bent := fun_mk (st := s_l_bent) l_l_bent c_l_bent k_l_bent
  have F_l_is_due := fun_mk (st := s_l_is_due) l_l_is_due c_l_is_due k_l_is_due
  have F_law : FunT K "law" "law" s_law _ _ cd_law := ⟨⟨_, _, _, _, _, _, _, _, rfl, l_law, c_law⟩, k_law⟩
  have F_l_draw := fun_mk (st := s_l_draw) l_l_draw c_l_draw k_l_draw
  have F_l_begun := fun_mk (st := s_l_begun) l_l_begun c_l_begun k_l_begun
  have F_l_heard := fun_mk (st := s_l_heard) l_l_heard c_l_heard k_l_heard
  let Ts : List (Addr × Str) := [(P_law, "law.<locals>.<lambda>")]
  refine ⟨PySem.W.fnOf "law" "law" (defArgs s_law) (defBody s_law) (defScope s_law) .none kV_law dc_law pm_law an_law (.ref cd_law) ct_law, [(cd_law, P_law)], spM ⟨l.prog, w, K, Ts⟩ 1 (m_law CL [CE, CL] (e 2) CE (e 0) e [0]), ?_, ?_, ?_, fun s u => .of_eq rfl, fun H a ns hl hH hS => law_go ?_ hS ?_, fun base KB GB TB => ?_⟩
  · intro q hq; simp only [List.mem_cons, List.not_mem_nil, or_false] at hq; rcases hq with rfl
    · exact hT.1
  · intro q hq; simp only [List.mem_cons, List.not_mem_nil, or_false] at hq; rcases hq with rfl
    · exact u_law
  · intro q hq; simp only [List.mem_cons, List.not_mem_nil, or_false] at hq; rcases hq with rfl
    · exact PySem.W.codeHd_of_K X t_law
  · intro q hq; simp only [Ts, List.mem_cons, List.not_mem_nil, or_false] at hq; rcases hq with rfl
    · exact TabS.none (hH _ (by simp : (cd_law, P_law) ∈ _))
  · exact m_law_ok (by simp) (by simp) (by simp) nq_CL_CE hl fun T => rfl
  have T_law := TB (cd_law, P_law) (by simp)
  have Hr : Ear K mg e [0] := ⟨⟨_, er⟩, ⟨_, _, F_l_heard, PySem.W.mg_of X G a_l_heard⟩⟩
  have c_l_draw : Cl l.prog w K mg base Ts 1 "_law_draw" ["_law_state", "_law_size"] m_draw := ⟨ar_draw, _, _, fnM_draw (ok_draw F_l_draw B), F_l_draw.binds (ps := ["_law_state", "_law_size"]) (fun _ _ _ _ _ _ us hl => match us, hl with | [_, _], _ => rfl), PySem.W.mg_of X G a_l_draw, k_l_draw⟩
  have c_l_begun : Cl l.prog w K mg base Ts 1 "_law_begun" ["_law_script"] m_begun := ⟨ar_begun, _, _, fnM_begun (ok_begun F_l_begun B), F_l_begun.binds (ps := ["_law_script"]) (fun _ _ _ _ _ _ us hl => match us, hl with | [_], _ => rfl), PySem.W.mg_of X G a_l_begun, k_l_begun⟩
  have O_is_word : FnM l.prog w K mg base Ts 1 _ _ ["thing"] (m_is_word [CE, CL]) := ok_is_word (F := F_is_word) (B := B) (Ic := Ic) (g_MOST_LETTERS := g_MOST_LETTERS) (g_LETTERS := g_LETTERS)
  have c_is_word : Cl l.prog w K mg base Ts 1 "is_word" ["thing"] (m_is_word [CE, CL]) := ⟨ar_def, _, _, O_is_word, F_is_word.binds (ps := ["thing"]) (fun _ _ _ _ _ _ us hl => match us, hl with | [_], _ => rfl), PySem.W.mg_of X G a_is_word, k_is_word⟩
  have O_are_words : FnM l.prog w K mg base Ts 2 _ _ ["some", "most"] (m_are_words [CE, CL]) := ok_are_words (F := F_are_words) (B := B) (c_is_word := c_is_word)
  have c_are_words : Cl l.prog w K mg base Ts 2 "are_words" ["some", "most"] (m_are_words [CE, CL]) := ⟨ar_def, _, _, O_are_words, F_are_words.binds (ps := ["some", "most"]) (fun _ _ _ _ _ _ us hl => match us, hl with | [_, _], _ => rfl), PySem.W.mg_of X G a_are_words, k_are_words⟩
  have O_is_goal : FnM l.prog w K mg base Ts 2 _ _ ["thing", "states"] (m_is_goal [CE, CL]) := ok_is_goal (F := F_is_goal) (B := B) (c_is_word := c_is_word)
  have c_is_goal : Cl l.prog w K mg base Ts 2 "is_goal" ["thing", "states"] (m_is_goal [CE, CL]) := ⟨ar_def, _, _, O_is_goal, F_is_goal.binds (ps := ["thing", "states"]) (fun _ _ _ _ _ _ us hl => match us, hl with | [_, _], _ => rfl), PySem.W.mg_of X G a_is_goal, k_is_goal⟩
  have O_are_steps : FnM l.prog w K mg base Ts 3 _ _ ["steps"] (m_are_steps [CE, CL]) := ok_are_steps (F := F_are_steps) (B := B) (Ic := Ic) (c_are_words := c_are_words) (g_MOST_STATES := g_MOST_STATES) (g_MOST_KINDS := g_MOST_KINDS) (c_is_goal := c_is_goal)
  have c_are_steps : Cl l.prog w K mg base Ts 3 "are_steps" ["steps"] (m_are_steps [CE, CL]) := ⟨ar_def, _, _, O_are_steps, F_are_steps.binds (ps := ["steps"]) (fun _ _ _ _ _ _ us hl => match us, hl with | [_], _ => rfl), PySem.W.mg_of X G a_are_steps, k_are_steps⟩
  have O_are_tells : FnM l.prog w K mg base Ts 2 _ _ ["tells", "steps"] (m_are_tells [CE, CL]) := ok_are_tells (F := F_are_tells) (B := B) (Ic := Ic) (c_is_word := c_is_word)
  have c_are_tells : Cl l.prog w K mg base Ts 2 "are_tells" ["tells", "steps"] (m_are_tells [CE, CL]) := ⟨ar_def, _, _, O_are_tells, F_are_tells.binds (ps := ["tells", "steps"]) (fun _ _ _ _ _ _ us hl => match us, hl with | [_, _], _ => rfl), PySem.W.mg_of X G a_are_tells, k_are_tells⟩
  have O_Edition___init : FnM l.prog w K mg base Ts 4 _ _ ["self", "steps", "tells", "start"] (m_Edition___init [CE, CL] (e 0) CE) := ok_Edition___init (F := FCE_init) (B := B) (c_are_steps := c_are_steps) (c_are_tells := c_are_tells) (c_is_goal := c_is_goal) (R_NoEdition := R_NoEdition) (L_Edition := L_Edition)
  have c_Edition : ClC l.prog w K mg base Ts 4 CE "Edition" ["self", "steps", "tells", "start"] (m_Edition___init [CE, CL] (e 0) CE) := ⟨ar_defK, _, _, ⟨mkCE_, aCE_init, iCE_init, kpCE⟩, O_Edition___init, FCE_init.binds (ps := ["self", "steps", "tells", "start"]) (fun _ _ _ _ _ _ us hl => match us, hl with | [_, _, _, _], _ => rfl), n_Edition_⟩
  have O_Edition_kinds : FnM l.prog w K mg base Ts 1 _ _ ["self"] (m_Edition_kinds CE) := ok_Edition_kinds (F := FCE_kinds) (B := B) (L_Edition := L_Edition)
  have c_Edition_kinds : ClP l.prog w K mg base Ts 1 CE "kinds" (m_Edition_kinds CE) := ⟨ar_def, _, _, _, cls_CE, ⟨aCE_kinds, gCE_kinds, qCE_kinds, ⟨_, rCE_kinds⟩⟩, O_Edition_kinds, FCE_kinds.binds (ps := ["self"]) (fun _ _ _ _ _ _ us hl => match us, hl with | [_], _ => rfl)⟩
  have O_Edition_states : FnM l.prog w K mg base Ts 1 _ _ ["self"] (m_Edition_states CE) := ok_Edition_states (F := FCE_states) (B := B) (L_Edition := L_Edition)
  have c_Edition_states : ClP l.prog w K mg base Ts 1 CE "states" (m_Edition_states CE) := ⟨ar_def, _, _, _, cls_CE, ⟨aCE_states, gCE_states, qCE_states, ⟨_, rCE_states⟩⟩, O_Edition_states, FCE_states.binds (ps := ["self"]) (fun _ _ _ _ _ _ us hl => match us, hl with | [_], _ => rfl)⟩
  have O_Edition___contains : FnM l.prog w K mg base Ts 1 _ _ ["self", "value"] (m_Edition___contains [CE, CL] CE) := ok_Edition___contains (F := FCE_contains) (B := B) (Ic := Ic) (L_Edition := L_Edition)
  have c_Edition___contains : ClS l.prog w K mg base Ts 1 (InC K CE) ["self", "value"] (m_Edition___contains [CE, CL] CE) := ⟨ar_def, _, _, ⟨aCE_contains, iCE_contains⟩, O_Edition___contains, FCE_contains.binds (ps := ["self", "value"]) (fun _ _ _ _ _ _ us hl => match us, hl with | [_, _], _ => rfl)⟩
  have O_need_edition : FnM l.prog w K mg base Ts 1 _ _ ["thing"] (m_need_edition [CE, CL] CE (e 0)) := ok_need_edition (F := F_need_edition) (B := B) (Ic := Ic) (n_Edition := n_Edition_) (R_NoEdition := R_NoEdition)
  have c_need_edition : Cl l.prog w K mg base Ts 1 "need_edition" ["thing"] (m_need_edition [CE, CL] CE (e 0)) := ⟨ar_def, _, _, O_need_edition, F_need_edition.binds (ps := ["thing"]) (fun _ _ _ _ _ _ us hl => match us, hl with | [_], _ => rfl), PySem.W.mg_of X G a_need_edition, k_need_edition⟩
  have O_is_lifted_row : FnM l.prog w K mg base Ts 2 _ _ ["thing"] (m_is_lifted_row [CE, CL]) := ok_is_lifted_row (F := F_is_lifted_row) (B := B) (Ic := Ic) (g_MOST_ROW := g_MOST_ROW) (c_is_word := c_is_word)
  have c_is_lifted_row : Cl l.prog w K mg base Ts 2 "is_lifted_row" ["thing"] (m_is_lifted_row [CE, CL]) := ⟨ar_def, _, _, O_is_lifted_row, F_is_lifted_row.binds (ps := ["thing"]) (fun _ _ _ _ _ _ us hl => match us, hl with | [_], _ => rfl), PySem.W.mg_of X G a_is_lifted_row, k_is_lifted_row⟩
  have O_are_events : FnM l.prog w K mg base Ts 3 _ _ ["events"] (m_are_events [CE, CL]) := ok_are_events (F := F_are_events) (B := B) (Ic := Ic) (c_are_words := c_are_words) (g_MOST_KINDS := g_MOST_KINDS) (c_is_lifted_row := c_is_lifted_row)
  have c_are_events : Cl l.prog w K mg base Ts 3 "are_events" ["events"] (m_are_events [CE, CL]) := ⟨ar_def, _, _, O_are_events, F_are_events.binds (ps := ["events"]) (fun _ _ _ _ _ _ us hl => match us, hl with | [_], _ => rfl), PySem.W.mg_of X G a_are_events, k_are_events⟩
  have O_are_snapshots : FnM l.prog w K mg base Ts 3 _ _ ["snapshots"] (m_are_snapshots [CE, CL]) := ok_are_snapshots (F := F_are_snapshots) (B := B) (Ic := Ic) (c_are_words := c_are_words) (g_MOST_STATES := g_MOST_STATES) (c_is_word := c_is_word)
  have c_are_snapshots : Cl l.prog w K mg base Ts 3 "are_snapshots" ["snapshots"] (m_are_snapshots [CE, CL]) := ⟨ar_def, _, _, O_are_snapshots, F_are_snapshots.binds (ps := ["snapshots"]) (fun _ _ _ _ _ _ us hl => match us, hl with | [_], _ => rfl), PySem.W.mg_of X G a_are_snapshots, k_are_snapshots⟩
  have O_Lift___init : FnM l.prog w K mg base Ts 4 _ _ ["self", "events", "snapshots"] (m_Lift___init [CE, CL] (e 2) CL) := ok_Lift___init (F := FCL_init) (B := B) (c_are_events := c_are_events) (c_are_snapshots := c_are_snapshots) (R_NoLift := R_NoLift) (L_Lift := L_Lift)
  have c_Lift : ClC l.prog w K mg base Ts 4 CL "Lift" ["self", "events", "snapshots"] (m_Lift___init [CE, CL] (e 2) CL) := ⟨ar_defK, _, _, ⟨mkCL_, aCL_init, iCL_init, kpCL⟩, O_Lift___init, FCL_init.binds (ps := ["self", "events", "snapshots"]) (fun _ _ _ _ _ _ us hl => match us, hl with | [_, _, _], _ => rfl), n_Lift_⟩
  have O_Lift_fits : FnM l.prog w K mg base Ts 3 _ _ ["self", "one", "other"] (m_Lift_fits [CE, CL] CE (e 0) CL) := ok_Lift_fits (F := FCL_fits) (B := B) (c_need_edition := c_need_edition) (L_Lift := L_Lift) (c_Edition_kinds := c_Edition_kinds) (c_Edition_states := c_Edition_states) (c_Edition___contains := c_Edition___contains)
  have c_Lift_fits : ClM l.prog w K mg base Ts 3 CL "fits" ["self", "one", "other"] (m_Lift_fits [CE, CL] CE (e 0) CL) := ⟨ar_def, _, _, cls_CL, ⟨aCL_fits, iCL_fits, kCL_fits⟩, O_Lift_fits, FCL_fits.binds (ps := ["self", "one", "other"]) (fun _ _ _ _ _ _ us hl => match us, hl with | [_, _, _], _ => rfl)⟩
  have O_Lift___eq : FnM l.prog w K mg base Ts 1 _ _ ["self", "other"] (m_Lift___eq [CE, CL] CL) := ok_Lift___eq (F := FCL_eq) (B := B) (Ic := Ic) (n_Lift := n_Lift_) (L_Lift := L_Lift)
  have c_Lift___eq : ClS l.prog w K mg base Ts 1 (NeC K CL) ["self", "other"] (m_Lift___eq [CE, CL] CL) := ⟨ar_def, _, _, ⟨neCL, hmCL, aCL_eq, iCL_eq⟩, O_Lift___eq, FCL_eq.binds (ps := ["self", "other"]) (fun _ _ _ _ _ _ us hl => match us, hl with | [_, _], _ => rfl)⟩
  have O_l_pick : FnM l.prog w K mg base Ts 2 _ _ ["_law_state", "_law_several"] m_l_pick := ok_l_pick (F := F_l_pick) (B := B) (c_l_draw := c_l_draw)
  have c_l_pick : Cl l.prog w K mg base Ts 2 "_law_pick" ["_law_state", "_law_several"] m_l_pick := ⟨ar_def, _, _, O_l_pick, F_l_pick.binds (ps := ["_law_state", "_law_several"]) (fun _ _ _ _ _ _ us hl => match us, hl with | [_, _], _ => rfl), PySem.W.mg_of X G a_l_pick, k_l_pick⟩
  have O_l_words : FnM l.prog w K mg base Ts 3 _ _ ["_law_state", "_law_many"] m_l_words := ok_l_words (F := F_l_words) (B := B) (c_l_pick := c_l_pick) (c_l_draw := c_l_draw)
  have c_l_words : Cl l.prog w K mg base Ts 3 "_law_words" ["_law_state", "_law_many"] m_l_words := ⟨ar_def, _, _, O_l_words, F_l_words.binds (ps := ["_law_state", "_law_many"]) (fun _ _ _ _ _ _ us hl => match us, hl with | [_, _], _ => rfl), PySem.W.mg_of X G a_l_words, k_l_words⟩
  have O_l_row : FnM l.prog w K mg base Ts 3 _ _ ["_law_state", "_law_kinds_here", "_law_most"] m_l_row := ok_l_row (F := F_l_row) (B := B) (c_l_draw := c_l_draw) (c_l_pick := c_l_pick)
  have c_l_row : Cl l.prog w K mg base Ts 3 "_law_row" ["_law_state", "_law_kinds_here", "_law_most"] m_l_row := ⟨ar_def, _, _, O_l_row, F_l_row.binds (ps := ["_law_state", "_law_kinds_here", "_law_most"]) (fun _ _ _ _ _ _ us hl => match us, hl with | [_, _, _], _ => rfl), PySem.W.mg_of X G a_l_row, k_l_row⟩
  have O_l_kinds : FnM l.prog w K mg base Ts 1 _ _ ["_law_told"] m_l_kinds := ok_l_kinds (F := F_l_kinds) (B := B) 
  have c_l_kinds : Cl l.prog w K mg base Ts 1 "_law_kinds" ["_law_told"] m_l_kinds := ⟨ar_def, _, _, O_l_kinds, F_l_kinds.binds (ps := ["_law_told"]) (fun _ _ _ _ _ _ us hl => match us, hl with | [_], _ => rfl), PySem.W.mg_of X G a_l_kinds, k_l_kinds⟩
  have O_l_any_told : FnM l.prog w K mg base Ts 4 _ _ ["_law_state", "_law_most_states", "_law_most_kinds"] m_l_any_told := ok_l_any_told (F := F_l_any_told) (B := B) (c_l_words := c_l_words) (c_l_draw := c_l_draw) (c_l_pick := c_l_pick)
  have c_l_any_told : Cl l.prog w K mg base Ts 4 "_law_any_told" ["_law_state", "_law_most_states", "_law_most_kinds"] m_l_any_told := ⟨ar_def, _, _, O_l_any_told, F_l_any_told.binds (ps := ["_law_state", "_law_most_states", "_law_most_kinds"]) (fun _ _ _ _ _ _ us hl => match us, hl with | [_, _, _], _ => rfl), PySem.W.mg_of X G a_l_any_told, k_l_any_told⟩
  have O_l_rows_for : FnM l.prog w K mg base Ts 4 _ _ ["_law_state", "_law_kinds_here", "_law_newer"] m_l_rows_for := ok_l_rows_for (F := F_l_rows_for) (B := B) (c_l_kinds := c_l_kinds) (c_l_row := c_l_row)
  have c_l_rows_for : Cl l.prog w K mg base Ts 4 "_law_rows_for" ["_law_state", "_law_kinds_here", "_law_newer"] m_l_rows_for := ⟨ar_def, _, _, O_l_rows_for, F_l_rows_for.binds (ps := ["_law_state", "_law_kinds_here", "_law_newer"]) (fun _ _ _ _ _ _ us hl => match us, hl with | [_, _, _], _ => rfl), PySem.W.mg_of X G a_l_rows_for, k_l_rows_for⟩
  have O_l_edition : FnM l.prog w K mg base Ts 6 _ _ ["_law_told"] (m_l_edition CE [CE, CL] (e 0)) := ok_l_edition (F := F_l_edition) (B := B) (c_Edition := c_Edition)
  have c_l_edition : Cl l.prog w K mg base Ts 6 "_law_edition" ["_law_told"] (m_l_edition CE [CE, CL] (e 0)) := ⟨ar_def, _, _, O_l_edition, F_l_edition.binds (ps := ["_law_told"]) (fun _ _ _ _ _ _ us hl => match us, hl with | [_], _ => rfl), PySem.W.mg_of X G a_l_edition, k_l_edition⟩
  have O_l_bent : FnM l.prog w K mg base Ts 3 _ _ ["_law_state", "_law_some", "_law_spare"] m_l_bent := ok_l_bent (F := F_l_bent) (B := B) (c_l_pick := c_l_pick) (c_l_draw := c_l_draw)
  have c_l_bent : Cl l.prog w K mg base Ts 3 "_law_bent" ["_law_state", "_law_some", "_law_spare"] m_l_bent := ⟨ar_def, _, _, O_l_bent, F_l_bent.binds (ps := ["_law_state", "_law_some", "_law_spare"]) (fun _ _ _ _ _ _ us hl => match us, hl with | [_, _, _], _ => rfl), PySem.W.mg_of X G a_l_bent, k_l_bent⟩
  have O_l_is_due : FnM l.prog w K mg base Ts 2 _ _ ["_law_rows", "_law_states", "_law_low", "_law_high"] m_l_is_due := ok_l_is_due (F := F_l_is_due) (B := B) (c_l_kinds := c_l_kinds)
  have c_l_is_due : Cl l.prog w K mg base Ts 2 "_law_is_due" ["_law_rows", "_law_states", "_law_low", "_law_high"] m_l_is_due := ⟨ar_def, _, _, O_l_is_due, F_l_is_due.binds (ps := ["_law_rows", "_law_states", "_law_low", "_law_high"]) (fun _ _ _ _ _ _ us hl => match us, hl with | [_, _, _, _], _ => rfl), PySem.W.mg_of X G a_l_is_due, k_l_is_due⟩
  have Tl_law : LamT Ts mg base cd_law P_law "law.<locals>.<lambda>" := ⟨T_law, by simp [Ts], (by intro q hq hz; simp only [Ts, List.mem_cons, List.not_mem_nil, or_false] at hq; rcases hq with rfl <;> first | rfl | (exact absurd hz (by first | exact nd.1 | exact nd.1.symm)))⟩
  exact ok_law (F := F_law) (B := B) (c_l_begun := c_l_begun) (c_l_any_told := c_l_any_told) (c_l_rows_for := c_l_rows_for) (c_l_kinds := c_l_kinds) (c_l_pick := c_l_pick) (c_l_draw := c_l_draw) (c_l_row := c_l_row) (c_l_bent := c_l_bent) (c_l_is_due := c_l_is_due) (c_Lift := c_Lift) (c_l_edition := c_l_edition) (c_Lift_fits := c_Lift_fits) (c_Lift___eq := c_Lift___eq) (Hr := Hr) (Tl := Tl_law)
end Eg
open PySem PySem.W PyProof.Rows
set_option maxRecDepth 100000 in
set_option maxHeartbeats 0 in
theorem PySem.Challenge.cw_snaplifts_k10_lifts_that_fit_holds : PySem.Challenge.rw_snaplifts_k10_lifts_that_fit.Holds := by
  w_on; o_law; k_head; (case hw => w_witness2)
  k_fill
  refine Sn.walk_G (l := PySem.Challenge.rw_snaplifts_k10_lifts_that_fit) (n := 63) (k := 7) (x := "_law_script") (CX := fun w => L2.CX PySem.Challenge.rw_snaplifts_k10_lifts_that_fit.prog w) rfl (by decide) (by rfl) ⟨rfl, by decide, by decide⟩ (fun w h Y => PySem.W.km_in_of Y) ?F (fun _ _ _ _ _ z => Eg.cx_no z)
  intro w mg fa h Y KX G hmg
  have TT := PySem.W.km_tabs_of Y
  refine' Eg.ends (P := PySem.Challenge.rw_snaplifts_k10_lifts_that_fit.prog)  rfl KX G hmg (by decide) ⟨TT _ (.head _), trivial⟩ ?h_b_len ?h_b_int ?h_b_abs ?h_b_range ?h_b_min ?h_b_max ?h_b_dict ?h_b_tuple ?h_b_list ?h_b_set ?h_b_sorted ?h_b_all ?h_b_any ?h_b_isinstance ?h_b_enumerate ?h_b_str ?h_b_bool ?h_b_zip ?h_b_sum ?h_b_repr ?h_b_ValueError ?h_b_super ?h_cs_LETTERS ?h_zLETTERS_ ?h_cs_MOST_KINDS ?h_cs_MOST_LETTERS ?h_cs_MOST_ROW ?h_cs_MOST_STATES ?h_n_snap ?h_n_e0 ?h_n_e1 ?h_n_e2 ?h_n_e3 ?h_n_e4 ?h_n_e5 ?h_n_e6 ?h_n_e7 ?h_n_e8 ?h_n_e9 ?h_n_e10 ?h_n_e11 ?h_n_e12 ?h_n_e13 ?h_is_0_0 ?h_is_0_1 ?h_is_0_2 ?h_is_0_3 ?h_is_0_4 ?h_is_0_5 ?h_is_0_6 ?h_is_0_7 ?h_is_0_8 ?h_is_0_9 ?h_is_0_10 ?h_is_0_11 ?h_is_0_12 ?h_is_0_13 ?h_ve_0 ?h_sn_0 ?h_hg_0 ?h_hk_0 ?h_hd_0 ?h_ha_0 ?h_hm_0 ?h_hs_0 ?h_ke_0 ?h_ty_0 ?h_x0 ?h_hs_2 ?h_ke_2 ?h_ty_2 ?h_x2 ?h_hn ?h_htk ?h_n_Edition ?h_pgCE ?h_hdCE ?h_poCE ?h_saCE ?h_f0CE ?h_f1CE ?h_f2CE ?h_haCE ?h_hmCE ?h_isCE ?h_mkCE_ ?h_kpCE ?h_ktCE ?h_ksCE ?h_kt_dict_CE ?h_kt_list_CE ?h_kt_int_CE ?h_kt_bool_CE ?h_bt_NoneType_CE ?h_bt_bool_CE ?h_bt_int_CE ?h_bt_str_CE ?h_bt_tuple_CE ?h_bt_list_CE ?h_bt_dict_CE ?h_n_Lift ?h_pgCL ?h_hdCL ?h_poCL ?h_saCL ?h_f0CL ?h_f1CL ?h_haCL ?h_hmCL ?h_isCL ?h_mkCL_ ?h_kpCL ?h_ktCL ?h_ksCL ?h_kt_dict_CL ?h_kt_list_CL ?h_kt_int_CL ?h_kt_bool_CL ?h_bt_NoneType_CL ?h_bt_bool_CL ?h_bt_int_CL ?h_bt_str_CL ?h_bt_tuple_CL ?h_bt_list_CL ?h_bt_dict_CL ?h_ow_CE_CL ?h_nq_CE_CL ?h_ow_CL_CE ?h_nq_CL_CE ?h_a_is_word ?h_l_is_word ?h_c_is_word ?h_k_is_word ?h_a_are_words ?h_l_are_words ?h_c_are_words ?h_k_are_words ?h_a_is_goal ?h_l_is_goal ?h_c_is_goal ?h_k_is_goal ?h_a_are_steps ?h_l_are_steps ?h_c_are_steps ?h_k_are_steps ?h_a_are_tells ?h_l_are_tells ?h_c_are_tells ?h_k_are_tells ?h_aCE_init ?h_lCE_init ?h_cCE_init ?h_kCE_init ?h_iCE_init ?h_aCE_kinds ?h_gCE_kinds ?h_qCE_kinds ?h_rCE_kinds ?h_lCE_kinds ?h_cCE_kinds ?h_kCE_kinds ?h_aCE_states ?h_gCE_states ?h_qCE_states ?h_rCE_states ?h_lCE_states ?h_cCE_states ?h_kCE_states ?h_aCE_contains ?h_lCE_contains ?h_cCE_contains ?h_kCE_contains ?h_iCE_contains ?h_a_need_edition ?h_l_need_edition ?h_c_need_edition ?h_k_need_edition ?h_a_is_lifted_row ?h_l_is_lifted_row ?h_c_is_lifted_row ?h_k_is_lifted_row ?h_a_are_events ?h_l_are_events ?h_c_are_events ?h_k_are_events ?h_a_are_snapshots ?h_l_are_snapshots ?h_c_are_snapshots ?h_k_are_snapshots ?h_aCL_init ?h_lCL_init ?h_cCL_init ?h_kCL_init ?h_iCL_init ?h_aCL_fits ?h_lCL_fits ?h_cCL_fits ?h_kCL_fits ?h_iCL_fits ?h_aCL_eq ?h_lCL_eq ?h_cCL_eq ?h_kCL_eq ?h_iCL_eq ?h_a_l_pick ?h_l_l_pick ?h_c_l_pick ?h_k_l_pick ?h_a_l_words ?h_l_l_words ?h_c_l_words ?h_k_l_words ?h_a_l_row ?h_l_l_row ?h_c_l_row ?h_k_l_row ?h_a_l_kinds ?h_l_l_kinds ?h_c_l_kinds ?h_k_l_kinds ?h_a_l_any_told ?h_l_l_any_told ?h_c_l_any_told ?h_k_l_any_told ?h_a_l_rows_for ?h_l_l_rows_for ?h_c_l_rows_for ?h_k_l_rows_for ?h_a_l_edition ?h_l_l_edition ?h_c_l_edition ?h_k_l_edition ?h_a_l_bent ?h_l_l_bent ?h_c_l_bent ?h_k_l_bent ?h_a_l_is_due ?h_l_l_is_due ?h_c_l_is_due ?h_k_l_is_due ?h_a_law ?h_l_law ?h_c_law ?h_k_law ?h_t_law ?h_u_law ?h_a_l_draw ?h_l_l_draw ?h_c_l_draw ?h_k_l_draw ?h_a_l_begun ?h_l_l_begun ?h_c_l_begun ?h_k_l_begun ?h_a_l_heard ?h_l_l_heard ?h_c_l_heard ?h_k_l_heard ?h_neCL
  case h_b_len => k_is
  case h_b_int => k_is
  case h_b_abs => k_is
  case h_b_range => k_is
  case h_b_min => k_is
  case h_b_max => k_is
  case h_b_dict => k_is
  case h_b_tuple => k_is
  case h_b_list => k_is
  case h_b_set => k_is
  case h_b_sorted => k_is
  case h_b_all => k_is
  case h_b_any => k_is
  case h_b_isinstance => k_is
  case h_b_enumerate => k_is
  case h_b_str => k_is
  case h_b_bool => k_is
  case h_b_zip => k_is
  case h_b_sum => k_is
  case h_b_repr => k_is
  case h_b_ValueError => k_is
  case h_b_super => k_is
  case h_cs_LETTERS => k_is
  case h_zLETTERS_ => decide +kernel
  case h_cs_MOST_KINDS => k_is
  case h_cs_MOST_LETTERS => k_is
  case h_cs_MOST_ROW => k_is
  case h_cs_MOST_STATES => k_is
  case h_n_snap => k_is
  case h_n_e0 => k_is
  case h_n_e1 => k_is
  case h_n_e2 => k_is
  case h_n_e3 => k_is
  case h_n_e4 => k_is
  case h_n_e5 => k_is
  case h_n_e6 => k_is
  case h_n_e7 => k_is
  case h_n_e8 => k_is
  case h_n_e9 => k_is
  case h_n_e10 => k_is
  case h_n_e11 => k_is
  case h_n_e12 => k_is
  case h_n_e13 => k_is
  case h_is_0_0 => kernel_rfl
  case h_is_0_1 => kernel_rfl
  case h_is_0_2 => kernel_rfl
  case h_is_0_3 => kernel_rfl
  case h_is_0_4 => kernel_rfl
  case h_is_0_5 => kernel_rfl
  case h_is_0_6 => kernel_rfl
  case h_is_0_7 => kernel_rfl
  case h_is_0_8 => kernel_rfl
  case h_is_0_9 => kernel_rfl
  case h_is_0_10 => kernel_rfl
  case h_is_0_11 => kernel_rfl
  case h_is_0_12 => kernel_rfl
  case h_is_0_13 => kernel_rfl
  case h_ve_0 => kernel_rfl
  case h_sn_0 => kernel_rfl
  case h_hg_0 => k_is
  case h_hk_0 => k_is
  case h_hd_0 => k_is
  case h_ha_0 => k_is
  case h_hm_0 => k_is
  case h_hs_0 => k_is
  case h_ke_0 => k_is
  case h_ty_0 => k_is
  case h_x0 => k_exc
  case h_hs_2 => k_is
  case h_ke_2 => k_is
  case h_ty_2 => k_is
  case h_x2 => k_exc
  case h_hn => k_is
  case h_htk => k_is
  case h_n_Edition => k_is
  case h_pgCE => k_is
  case h_hdCE => k_is
  case h_poCE => k_is
  case h_saCE => k_is
  case h_f0CE => k_is
  case h_f1CE => k_is
  case h_f2CE => k_is
  case h_haCE => k_is
  case h_hmCE => k_is
  case h_isCE => kernel_rfl
  case h_mkCE_ => k_is
  case h_kpCE => k_is
  case h_ktCE => kernel_rfl
  case h_ksCE => kernel_rfl
  case h_kt_dict_CE => kernel_rfl
  case h_kt_list_CE => kernel_rfl
  case h_kt_int_CE => kernel_rfl
  case h_kt_bool_CE => kernel_rfl
  case h_bt_NoneType_CE => kernel_rfl
  case h_bt_bool_CE => kernel_rfl
  case h_bt_int_CE => kernel_rfl
  case h_bt_str_CE => kernel_rfl
  case h_bt_tuple_CE => kernel_rfl
  case h_bt_list_CE => kernel_rfl
  case h_bt_dict_CE => kernel_rfl
  case h_n_Lift => k_is
  case h_pgCL => k_is
  case h_hdCL => k_is
  case h_poCL => k_is
  case h_saCL => k_is
  case h_f0CL => k_is
  case h_f1CL => k_is
  case h_haCL => k_is
  case h_hmCL => k_is
  case h_isCL => kernel_rfl
  case h_mkCL_ => k_is
  case h_kpCL => k_is
  case h_ktCL => kernel_rfl
  case h_ksCL => kernel_rfl
  case h_kt_dict_CL => kernel_rfl
  case h_kt_list_CL => kernel_rfl
  case h_kt_int_CL => kernel_rfl
  case h_kt_bool_CL => kernel_rfl
  case h_bt_NoneType_CL => kernel_rfl
  case h_bt_bool_CL => kernel_rfl
  case h_bt_int_CL => kernel_rfl
  case h_bt_str_CL => kernel_rfl
  case h_bt_tuple_CL => kernel_rfl
  case h_bt_list_CL => kernel_rfl
  case h_bt_dict_CL => kernel_rfl
  case h_ow_CE_CL => kernel_rfl
  case h_nq_CE_CL => decide
  case h_ow_CL_CE => kernel_rfl
  case h_nq_CL_CE => decide
  case h_a_is_word => k_is
  case h_l_is_word => k_is
  case h_c_is_word => k_is
  case h_k_is_word => k_is
  case h_a_are_words => k_is
  case h_l_are_words => k_is
  case h_c_are_words => k_is
  case h_k_are_words => k_is
  case h_a_is_goal => k_is
  case h_l_is_goal => k_is
  case h_c_is_goal => k_is
  case h_k_is_goal => k_is
  case h_a_are_steps => k_is
  case h_l_are_steps => k_is
  case h_c_are_steps => k_is
  case h_k_are_steps => k_is
  case h_a_are_tells => k_is
  case h_l_are_tells => k_is
  case h_c_are_tells => k_is
  case h_k_are_tells => k_is
  case h_aCE_init => k_is
  case h_lCE_init => k_is
  case h_cCE_init => k_is
  case h_kCE_init => k_is
  case h_iCE_init => k_is
  case h_aCE_kinds => k_is
  case h_gCE_kinds => k_is
  case h_qCE_kinds => k_is
  case h_rCE_kinds => k_is
  case h_lCE_kinds => k_is
  case h_cCE_kinds => k_is
  case h_kCE_kinds => k_is
  case h_aCE_states => k_is
  case h_gCE_states => k_is
  case h_qCE_states => k_is
  case h_rCE_states => k_is
  case h_lCE_states => k_is
  case h_cCE_states => k_is
  case h_kCE_states => k_is
  case h_aCE_contains => k_is
  case h_lCE_contains => k_is
  case h_cCE_contains => k_is
  case h_kCE_contains => k_is
  case h_iCE_contains => k_is
  case h_a_need_edition => k_is
  case h_l_need_edition => k_is
  case h_c_need_edition => k_is
  case h_k_need_edition => k_is
  case h_a_is_lifted_row => k_is
  case h_l_is_lifted_row => k_is
  case h_c_is_lifted_row => k_is
  case h_k_is_lifted_row => k_is
  case h_a_are_events => k_is
  case h_l_are_events => k_is
  case h_c_are_events => k_is
  case h_k_are_events => k_is
  case h_a_are_snapshots => k_is
  case h_l_are_snapshots => k_is
  case h_c_are_snapshots => k_is
  case h_k_are_snapshots => k_is
  case h_aCL_init => k_is
  case h_lCL_init => k_is
  case h_cCL_init => k_is
  case h_kCL_init => k_is
  case h_iCL_init => k_is
  case h_aCL_fits => k_is
  case h_lCL_fits => k_is
  case h_cCL_fits => k_is
  case h_kCL_fits => k_is
  case h_iCL_fits => k_is
  case h_aCL_eq => k_is
  case h_lCL_eq => k_is
  case h_cCL_eq => k_is
  case h_kCL_eq => k_is
  case h_iCL_eq => k_is
  case h_a_l_pick => k_is
  case h_l_l_pick => k_is
  case h_c_l_pick => k_is
  case h_k_l_pick => k_is
  case h_a_l_words => k_is
  case h_l_l_words => k_is
  case h_c_l_words => k_is
  case h_k_l_words => k_is
  case h_a_l_row => k_is
  case h_l_l_row => k_is
  case h_c_l_row => k_is
  case h_k_l_row => k_is
  case h_a_l_kinds => k_is
  case h_l_l_kinds => k_is
  case h_c_l_kinds => k_is
  case h_k_l_kinds => k_is
  case h_a_l_any_told => k_is
  case h_l_l_any_told => k_is
  case h_c_l_any_told => k_is
  case h_k_l_any_told => k_is
  case h_a_l_rows_for => k_is
  case h_l_l_rows_for => k_is
  case h_c_l_rows_for => k_is
  case h_k_l_rows_for => k_is
  case h_a_l_edition => k_is
  case h_l_l_edition => k_is
  case h_c_l_edition => k_is
  case h_k_l_edition => k_is
  case h_a_l_bent => k_is
  case h_l_l_bent => k_is
  case h_c_l_bent => k_is
  case h_k_l_bent => k_is
  case h_a_l_is_due => k_is
  case h_l_l_is_due => k_is
  case h_c_l_is_due => k_is
  case h_k_l_is_due => k_is
  case h_a_law => k_is
  case h_l_law => k_is
  case h_c_law => k_is
  case h_k_law => k_is
  case h_t_law => kernel_rfl
  case h_u_law => kernel_rfl
  case h_a_l_draw => k_is
  case h_l_l_draw => k_is
  case h_c_l_draw => k_is
  case h_k_l_draw => k_is
  case h_a_l_begun => k_is
  case h_l_l_begun => k_is
  case h_c_l_begun => k_is
  case h_k_l_begun => k_is
  case h_a_l_heard => k_is
  case h_l_l_heard => k_is
  case h_c_l_heard => k_is
  case h_k_l_heard => k_is
  case h_neCL => k_is
