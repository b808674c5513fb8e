import PyProof.Rows.All
import Wide.All
import OpenK.AllK
import Wide.FinOn
import HandS.ForMost
import HandS.Evl
import HandS.Walk
import HandS.Conv
import HandS.TupAny
import HandS.Style
import KE.GoesEnum
import KE.GoesMore
import HandS.DictComp
import HandS.WordsDict
import HandS.DeepEq
import HandS.OwnEq
import KE.KDictList
import HandS.ListItems
import KE.KOpsOwn
import HandS.IsInst
import HandS.Star
import KE.KExcIs
import KE.KExcSuper
import HandS.Exc
import HandS.ExcIs
import HandS.ExcField
import HandS.ExcInit
import HandS.ExcOwn
import HandS.Small
import HandS.Lambda
import HandS.Words
import HandS.WordsExc
import HandS.TupMul
import HandS.Set
import HandS.SetFor
import HandS.Strs
import HandS.More
import HandS.NoneIn
import HandS.Property
import HandS.EndTab
import HandS.TupSets
import KE.KDictSum
import HandS.RevTup
import KE.KItemsList
import HandS.Defaults
import PySem.Challenge.RW_snaplifts_k03_rows_led
set_option Elab.async false
set_option linter.all false
set_option maxRecDepth 100000
set_option maxHeartbeats 4000000
/-! Own foundation: heaps that grow, the law's source of draws -/
namespace Sn
open Evl (Ex)
open PySem L2
/-- the built-in names that the text leaves as they are -/
structure Bt (mg : Str → Option Value) : Prop where
  len : mg "len" = none
  int : mg "int" = none
  abs : mg "abs" = none
  range : mg "range" = none
  min : mg "min" = none
  max : mg "max" = none
  dict : mg "dict" = none
  tuple : mg "tuple" = none
  list : mg "list" = none
  set : mg "set" = none
  sorted : mg "sorted" = none
  all : mg "all" = none
  any : mg "any" = none
  isi : mg "isinstance" = none
  enum : mg "enumerate" = none
  str : mg "str" = none
  bool : mg "bool" = none
  zip : mg "zip" = none
  sum : mg "sum" = none
  repr : mg "repr" = none
  ValueError : mg "ValueError" = none
  super : mg "super" = none
theorem exr {H : Hp} : Ex H H := fun _ _ h => h
theorem ext {H H1 H2 : Hp} (a : Ex H H1) (b : Ex H1 H2) : Ex H H2 := fun x o h => b x o (a x o h)
theorem exn {H : Hp} {p : Addr} {o : HO} (h : H p = none) : Ex H (upd H p o) := Evl.Ex.new h
theorem exm {F H : Hp} {p : Addr} {o : HO} (e : Ex F H) (h : F p = none) : Ex F (upd H p o) := Evl.Ex.mut e h
theorem exb {F H : Hp} {p : Addr} (e : Ex F H) (h : H p = none) : F p = none := Evl.fresh_back e h
/-- both grow by one thing -/
theorem exu {F H : Hp} {p : Addr} {o : HO} (e : Ex F H) : Ex (upd F p o) (upd H p o) := fun a u h => by
  by_cases q : a = p
  · subst q
    rw [upd_same] at h ⊢
    exact h
  · rw [upd_ne q] at h ⊢
    exact e a u h
theorem exp {F H : Hp} {p : Addr} {o : HO} (e : Ex F H) (h : H p = some o) : Ex (upd F p o) H := fun a u q => by
  by_cases r : a = p
  · subst r
    rw [upd_same] at q
    rw [← q]
    exact h
  · rw [upd_ne r] at q
    exact e a u q
theorem updn {F : Hp} {p q : Addr} {o : HO} (h : F q = none) (n : q ≠ p) : upd F p o q = none := by rw [upd_ne n]; exact h

/-! ### the source of draws -/
def dkv (la ca : Addr) (r t : Int) : List (Key × V) := [(.inr "large", .ref la), (.inr "cells", .ref ca), (.inr "rest", .int r), (.inr "turn", .int t)]
/-- the source stands at sa, its lists at la and ca; at most T draws were by the counter -/
structure Dr (H : Hp) (sa la ca : Addr) (T : Nat) : Prop where
  ex : ∃ (ls cs : List Int) (r t : Int), H sa = some (.dK (dkv la ca r t)) ∧ H la = some (.lst (ls.map V.int)) ∧ H ca = some (.lst (cs.map V.int)) ∧ (∀ x ∈ ls, 0 ≤ x) ∧ 0 ≤ r ∧ 0 ≤ t ∧ t ≤ T ∧ ls.length ≤ 63 ∧ cs.length ≤ 63
  sl : sa ≠ la
  sc : sa ≠ ca
  lc : la ≠ ca
theorem Dr.mono {H : Hp} {sa la ca : Addr} {T T' : Nat} (d : Dr H sa la ca T) (h : T ≤ T') : Dr H sa la ca T' := by
  obtain ⟨⟨ls, cs, r, t, a, b, c, e, f, g, i, j, k⟩, x, y, z⟩ := d
  exact ⟨⟨ls, cs, r, t, a, b, c, e, f, g, by omega, j, k⟩, x, y, z⟩
theorem Dr.ext {H H' : Hp} {sa la ca : Addr} {T : Nat} (d : Dr H sa la ca T) (e : Ex H H') : Dr H' sa la ca T := by
  obtain ⟨⟨ls, cs, r, t, a, b, c, g⟩, x, y, z⟩ := d
  exact ⟨⟨ls, cs, r, t, e _ _ a, e _ _ b, e _ _ c, g⟩, x, y, z⟩
theorem Dr.sne {H : Hp} {sa la ca : Addr} {T : Nat} (d : Dr H sa la ca T) {p : Addr} (h : H p = none) : p ≠ sa := by
  obtain ⟨⟨_, _, _, _, a, _⟩, _⟩ := d
  exact (ne_of_none a h).symm
theorem Dr.lne {H : Hp} {sa la ca : Addr} {T : Nat} (d : Dr H sa la ca T) {p : Addr} (h : H p = none) : p ≠ la := by
  obtain ⟨⟨_, _, _, _, _, b, _⟩, _⟩ := d
  exact (ne_of_none b h).symm
theorem Dr.cne {H : Hp} {sa la ca : Addr} {T : Nat} (d : Dr H sa la ca T) {p : Addr} (h : H p = none) : p ≠ ca := by
  obtain ⟨⟨_, _, _, _, _, _, c, _⟩, _⟩ := d
  exact (ne_of_none c h).symm
/-- another thing changes -/
theorem Dr.upd {H : Hp} {sa la ca : Addr} {T : Nat} (d : Dr H sa la ca T) {p : Addr} {o : HO} (h1 : p ≠ sa) (h2 : p ≠ la) (h3 : p ≠ ca) : Dr (L2.upd H p o) sa la ca T := by
  obtain ⟨⟨ls, cs, r, t, a, b, c, g⟩, x, y, z⟩ := d
  exact ⟨⟨ls, cs, r, t, by rw [upd_ne h1.symm]; exact a, by rw [upd_ne h2.symm]; exact b, by rw [upd_ne h3.symm]; exact c, g⟩, x, y, z⟩
theorem Dr.new {H : Hp} {sa la ca : Addr} {T : Nat} (d : Dr H sa la ca T) {p : Addr} {o : HO} (h : H p = none) : Dr (L2.upd H p o) sa la ca T := d.ext (exn h)

theorem sLC : ¬ ("large" : Str) = "cells" := by decide +kernel
theorem sLR : ¬ ("large" : Str) = "rest" := by decide +kernel
theorem sLT : ¬ ("large" : Str) = "turn" := by decide +kernel
theorem sCR : ¬ ("cells" : Str) = "rest" := by decide +kernel
theorem sCT : ¬ ("cells" : Str) = "turn" := by decide +kernel
theorem sRT : ¬ ("rest" : Str) = "turn" := by decide +kernel
theorem sTR : ¬ ("turn" : Str) = "rest" := by decide +kernel
theorem kn {a b : Str} (h : ¬ a = b) : ¬ (Sum.inr a : Key) = Sum.inr b := fun e => h (Sum.inr.inj e)
theorem kv_large (la ca : Addr) (r t : Int) : valV (dkv la ca r t) (Sum.inr ("large" : Str) : Key) = some (.ref la) := valV_pos rfl
theorem kv_cells (la ca : Addr) (r t : Int) : valV (dkv la ca r t) (Sum.inr ("cells" : Str) : Key) = some (.ref ca) := (valV_neg (kn sLC)).trans (valV_pos rfl)
theorem kv_rest (la ca : Addr) (r t : Int) : valV (dkv la ca r t) (Sum.inr ("rest" : Str) : Key) = some (.int r) := (valV_neg (kn sLR)).trans ((valV_neg (kn sCR)).trans (valV_pos rfl))
theorem kv_turn (la ca : Addr) (r t : Int) : valV (dkv la ca r t) (Sum.inr ("turn" : Str) : Key) = some (.int t) := (valV_neg (kn sLT)).trans ((valV_neg (kn sCT)).trans ((valV_neg (kn sRT)).trans (valV_pos rfl)))
theorem kp_rest (la ca : Addr) (r t r' : Int) : putK (dkv la ca r t) (Sum.inr ("rest" : Str) : Key) (.int r') = dkv la ca r' t := by
  unfold putK
  rw [valV_any, kv_rest]
  simp only [dkv, Option.isSome_some, if_true, List.map_cons, List.map_nil, if_neg (kn sLR), if_neg (kn sCR), if_neg (kn sTR)]
theorem kp_turn (la ca : Addr) (r t t' : Int) : putK (dkv la ca r t) (Sum.inr ("turn" : Str) : Key) (.int t') = dkv la ca r t' := by
  unfold putK
  rw [valV_any, kv_turn]
  simp only [dkv, Option.isSome_some, if_true, List.map_cons, List.map_nil, if_neg (kn sLT), if_neg (kn sCT), if_neg (kn sRT)]
theorem dk_len (la ca : Addr) (r t : Int) : (dkv la ca r t).length < sizeLine := by show 4 < sizeLine; decide
/-- d["rest"] and its like, as a step of a reading -/
theorem dg {H : Hp} {a : Addr} {kvs : List (Key × V)} {x : Str} {v : V} (h : H a = some (.dK kvs)) (e : valV kvs (Sum.inr x : Key) = some v) : DGet H a (.str x) (some v) := by
  have g := DGet.k (k := (Sum.inr x : Key)) h
  rw [e] at g
  exact g
theorem dp {H : Hp} {a : Addr} {kvs kvs' : List (Key × V)} {x : Str} {v : V} (h : H a = some (.dK kvs)) (hl : kvs.length < sizeLine) (e : putK kvs (Sum.inr x : Key) v = kvs') : DPut H a (.str x) v (upd H a (.dK kvs')) := by
  have g := DPut.k (k := (Sum.inr x : Key)) (v := v) h hl
  rw [e] at g
  exact g
/-- a list of ints as data -/
theorem dp_ints {K : PySem.W.Frag} {H : Hp} {a : Addr} {ns : List Int} (h : SqL K H a (ns.map V.int)) : Dp K H (.ref a) (.list (ns.map PyData.int)) := by
  refine .lst h ?_
  clear h
  induction ns with
  | nil => exact .nil
  | cons n r ih => exact .cons (.int n) ih
theorem can_all : ∀ {ds : List PyData}, (∀ d ∈ ds, d.canLay0 = true) → PyData.canLayAll0 ds = true
  | [], _ => by simp [PyData.canLayAll0]
  | d :: r, h => by
    simp only [PyData.canLayAll0, Bool.and_eq_true]
    exact ⟨h d List.mem_cons_self, can_all fun x hx => h x (List.mem_cons_of_mem _ hx)⟩
theorem dep_all {n : Nat} : ∀ {ds : List PyData}, (∀ d ∈ ds, d.depth ≤ n) → PyData.depthAll ds ≤ n
  | [], _ => by simp [PyData.depthAll]
  | d :: r, h => by
    simp only [PyData.depthAll]
    have h1 := h d List.mem_cons_self
    have h2 := dep_all (n := n) (ds := r) fun x hx => h x (List.mem_cons_of_mem _ hx)
    omega
theorem shaped_lst {ds : List PyData} (h : ∀ d ∈ ds, d.canLay0 = true ∧ d.depth ≤ 50) : SeqAt.shaped (.list ds) = true := by
  have h1 := can_all fun d hd => (h d hd).1
  have h2 := dep_all (n := 50) fun d hd => (h d hd).2
  unfold SeqAt.shaped
  rw [PyData.canLay0, PyData.depth, h1, Bool.true_and]
  exact decide_eq_true (by omega)
theorem shaped_tup {ds : List PyData} (h : ∀ d ∈ ds, d.canLay0 = true ∧ d.depth ≤ 50) : SeqAt.shaped (.tuple ds) = true := by
  have h1 := can_all fun d hd => (h d hd).1
  have h2 := dep_all (n := 50) fun d hd => (h d hd).2
  unfold SeqAt.shaped
  rw [PyData.canLay0, PyData.depth, h1, Bool.true_and]
  exact decide_eq_true (by omega)
theorem shaped_ints (ns : List Int) : SeqAt.shaped (.list (ns.map PyData.int)) = true := shaped_lst fun d hd => by
  obtain ⟨n, _, rfl⟩ := List.mem_map.mp hd
  simp [PyData.canLay0, PyData.depth]
theorem shaped_nil : SeqAt.shaped (.list []) = true := shaped_lst fun _ h => nomatch h
theorem eqv_nil (ds : List PyData) : PyData.eqv (.list ds) (.list []) = ds.isEmpty := by
  cases ds <;> simp [PyData.eqv, PyData.eqvAll]

theorem exs {F H : Hp} {p : Addr} {o o' : HO} (e : Ex (upd F p o) H) : Ex (upd F p o') (upd H p o') := fun a u h => by
  by_cases q : a = p
  · subst q
    rw [upd_same] at h ⊢
    exact h
  · rw [upd_ne q] at h ⊢
    exact e a u (by rw [upd_ne q]; exact h)

/-! ### calls in short -/
/-- a def of the module: where it stands, and its promise -/
structure Cal (P : Program) (w : World) (K : PySem.W.Frag) (mg : Str → Option Value) (base : Heap) (CX : CXT) (k : Nat) (x : Str) (ps : List Str) (sp : Sp) : Prop where
  ex : ∃ (f : Addr) (fd : FuncData), FnOk P w K mg base CX k f fd ps sp ∧ Binds K fd ps [] ∧ mg x = some (.ref f) ∧ PySem.W.keepIn K (.ref f) = true
section
variable {X : Cx}
theorem pcall {k : Nat} {x : Str} {ps : List Str} {sp : Sp} {e : Expr} {es : List Expr} {p pos : Pos} {t : TA} (c : Cal X.prog X.w X.K X.mg X.base CX0 k x ps sp) (hr : Room k X.A) (ha : PA X (e :: es) t) (hg : Gl X x := by rfl)
    (hdb : (x == ("__debug__" : Str)) = false := by decide) (he : starEach (e :: es) X.env = (false, eval e X.env) :: starEach es X.env := by rfl) (hpl : (backTo pos (starEach es X.env)).any (·.1) = false := by rfl) :
    PE X (.Call (.Name x p) (e :: es) [] pos) (tCall sp [] E0 t) := by
  obtain ⟨f, fd, F, b, m, kp⟩ := c.ex
  exact pe_call F hr hg m kp b .nil pass0 ha hdb he hpl
theorem dget {o i : Expr} {pos : Pos} {td ty : TE} (hu : X.A.units + 1 < cLine) (ho : PE X o td) (hi : PE X i ty) (hs : NoSl i := by exact fun _ _ => rfl) : PE X (.Subscript o i pos) (tDGet td ty) := pe_dget hu ho hi hs
end

/-! ### words -/
structure Wd (s : Str) : Prop where
  lo : 1 ≤ s.cps.toList.length
  hi : s.cps.toList.length ≤ 6
  az : ∀ c ∈ s.cps.toList, 97 ≤ c ∧ c ≤ 122
def abc : Str := "abcdefghijklmnopqrstuvwxyz"
theorem abc_at {i c : Nat} (h : abc.cps[i]? = some c) : 97 ≤ c ∧ c ≤ 122 := by
  have hl : abc.cps.toList = (List.range 26).map (· + 97) := by decide +kernel
  have h2 : abc.cps.toList[i]? = some c := by rw [← h]; simp
  rw [hl, List.getElem?_map] at h2
  cases q : (List.range 26)[i]? with
  | none => rw [q] at h2; cases h2
  | some j =>
    rw [q] at h2
    have hj := List.mem_range.mp (List.mem_of_getElem? q)
    have e : j + 97 = c := Option.some.inj h2
    omega
theorem abc_mem {c : Nat} : c ∈ abc.cps.toList ↔ 97 ≤ c ∧ c ≤ 122 := by
  have hl : abc.cps.toList = (List.range 26).map (· + 97) := by decide +kernel
  rw [hl, List.mem_map]
  constructor
  · rintro ⟨j, hj, rfl⟩
    have := List.mem_range.mp hj
    omega
  · intro h
    exact ⟨c - 97, List.mem_range.mpr (by omega), by omega⟩
theorem inV_str {w : Str} : ∀ {ws : List Str}, inV (.str w) (ws.map V.str) = decide (w ∈ ws)
  | [] => by simp [inV]
  | a :: r => by
    have ih := inV_str (w := w) (ws := r)
    unfold inV at ih ⊢
    rw [List.map_cons, List.any_cons, ih]
    by_cases e : a = w
    · subst e; simp [eqV]
    · have e' : ¬ w = a := fun z => e z.symm
      simp [eqV, e, e']
theorem flat_strs (ws : List Str) : (ws.map V.str).all flatV = true := by
  rw [List.all_eq_true]
  intro x hx
  obtain ⟨s, _, rfl⟩ := List.mem_map.mp hx
  rfl
theorem dpall_strs {K : PySem.W.Frag} {H : Hp} : ∀ ws : List Str, DpAll K H (ws.map V.str) (ws.map PyData.str)
  | [] => .nil
  | w :: r => .cons (.str w) (dpall_strs r)
theorem dp_strs {K : PySem.W.Frag} {H : Hp} {a : Addr} {ws : List Str} (h : SqL K H a (ws.map V.str)) : Dp K H (.ref a) (.list (ws.map PyData.str)) := .lst h (dpall_strs ws)
theorem dp_strsT {K : PySem.W.Frag} {H : Hp} {a : Addr} {ws : List Str} (h : SqT K H a (ws.map V.str)) : Dp K H (.ref a) (.tuple (ws.map PyData.str)) := .tup h (dpall_strs ws)
theorem wd_lay {s : Str} (h : Wd s) : (PyData.str s).canLay0 = true ∧ (PyData.str s).depth ≤ 50 := by
  refine ⟨?_, by simp [PyData.depth]⟩
  rw [PyData.canLay0]
  unfold PyData.strOk
  rw [← Array.all_toList, List.all_eq_true]
  intro c hc
  have := h.az c hc
  exact decide_eq_true (by omega)
theorem shaped_words {ws : List Str} (h : ∀ x ∈ ws, Wd x) : SeqAt.shaped (.list (ws.map PyData.str)) = true := shaped_lst fun d hd => by
  obtain ⟨s, hs, rfl⟩ := List.mem_map.mp hd
  exact wd_lay (h s hs)
theorem shaped_wordsT {ws : List Str} (h : ∀ x ∈ ws, Wd x) : SeqAt.shaped (.tuple (ws.map PyData.str)) = true := shaped_tup fun d hd => by
  obtain ⟨s, hs, rfl⟩ := List.mem_map.mp hd
  exact wd_lay (h s hs)
end Sn
/-! Dicts of texts: to rows of texts, to texts -/
namespace Sn
open Evl (Ex)
open PySem L2
/-- a key, its row, where the row's tuple lies -/
abbrev Ent := Str × List Str × Addr
def rKV (e : Ent) : Key × V := (.inr e.1, .ref e.2.2)
def sKV (e : Str × Str) : Key × V := (.inr e.1, .str e.2)
def dat (e : Ent) : Str × List Str := (e.1, e.2.1)
def Rws (H : Hp) (p : Addr) (es : List Ent) : Prop := H p = some (.dK (es.map rKV)) ∧ ∀ e ∈ es, H e.2.2 = some (.tup (e.2.1.map V.str))
def Sts (H : Hp) (p : Addr) (ss : List (Str × Str)) : Prop := H p = some (.dK (ss.map sKV))
theorem Rws.ex {H H' : Hp} {p : Addr} {es : List Ent} (h : Rws H p es) (e : Ex H H') : Rws H' p es := ⟨e _ _ h.1, fun x hx => e _ _ (h.2 x hx)⟩
theorem Sts.ex {H H' : Hp} {p : Addr} {ss : List (Str × Str)} (h : Sts H p ss) (e : Ex H H') : Sts H' p ss := e _ _ h
section
variable {κ : Type} [DecidableEq κ]
theorem valV_no {kvs : List (κ × V)} {k : κ} (h : k ∉ kvs.map (·.1)) : valV kvs k = none := by
  induction kvs with
  | nil => rfl
  | cons p r ih =>
    rw [List.map_cons, List.mem_cons, not_or] at h
    rw [valV_neg (fun z => h.1 z.symm)]
    exact ih h.2
theorem valV_at {kvs : List (κ × V)} {k : κ} {v : V} (hn : (kvs.map (·.1)).Nodup) (h : (k, v) ∈ kvs) : valV kvs k = some v := by
  induction kvs with
  | nil => cases h
  | cons p r ih =>
    rw [List.map_cons, List.nodup_cons] at hn
    rcases List.mem_cons.mp h with e | h
    · subst e
      exact valV_pos rfl
    · rw [valV_neg (fun z => hn.1 (by rw [z]; exact List.mem_map_of_mem (f := Prod.fst) h))]
      exact ih hn.2 h
end
theorem merge_app : ∀ (kvs acc : List (Key × V)), ((acc ++ kvs).map (·.1)).Nodup → mergeK acc kvs = acc ++ kvs
  | [], acc, _ => by simp [mergeK]
  | p :: r, acc, h => by
    have e : mergeK acc (p :: r) = mergeK (putK acc p.1 p.2) r := rfl
    have hn : p.1 ∉ acc.map (·.1) := by
      rw [List.map_append, List.map_cons] at h
      have := List.nodup_append.mp h
      intro z
      exact this.2.2 _ z _ List.mem_cons_self rfl
    rw [e, putK_new _ (valV_no hn), merge_app r _ (by simpa using h)]
    simp
theorem merge_nil {kvs : List (Key × V)} (h : (kvs.map (·.1)).Nodup) : mergeK [] kvs = kvs := by
  rw [merge_app kvs [] (by simpa using h)]
  rfl
theorem keysR (es : List Ent) : (es.map rKV).map (·.1) = (es.map (·.1)).map Sum.inr := by simp [rKV, Function.comp_def]
theorem keysS (ss : List (Str × Str)) : (ss.map sKV).map (·.1) = (ss.map (·.1)).map Sum.inr := by simp [sKV, Function.comp_def]
theorem nodup_inr {l : List Str} (h : l.Nodup) : (l.map (Sum.inr : Str → Key)).Nodup := List.Pairwise.map _ (fun a b n e => n (Sum.inr.inj e)) h
theorem valR {es : List Ent} {e : Ent} (h : (es.map (·.1)).Nodup) (he : e ∈ es) : valV (es.map rKV) (Sum.inr e.1 : Key) = some (.ref e.2.2) :=
  valV_at (by rw [keysR]; exact nodup_inr h) (List.mem_map_of_mem (f := rKV) he)
theorem valS {ss : List (Str × Str)} {e : Str × Str} (h : (ss.map (·.1)).Nodup) (he : e ∈ ss) : valV (ss.map sKV) (Sum.inr e.1 : Key) = some (.str e.2) :=
  valV_at (by rw [keysS]; exact nodup_inr h) (List.mem_map_of_mem (f := sKV) he)
theorem valRn {es : List Ent} {k : Str} (h : k ∉ es.map (·.1)) : valV (es.map rKV) (Sum.inr k : Key) = none := valV_no (by
  rw [keysR]
  intro z
  obtain ⟨a, ha, e⟩ := List.mem_map.mp z
  cases e
  exact h ha)
theorem valSn {ss : List (Str × Str)} {k : Str} (h : k ∉ ss.map (·.1)) : valV (ss.map sKV) (Sum.inr k : Key) = none := valV_no (by
  rw [keysS]
  intro z
  obtain ⟨a, ha, e⟩ := List.mem_map.mp z
  cases e
  exact h ha)
/-- all but the source of draws -/
def cut (H : Hp) (sa la : Addr) : Hp := fun x => if x = sa ∨ x = la then none else H x
section
variable {H H' G : Hp} {sa la ca x : Addr} {T : Nat}
theorem cut_ex : Ex (cut H sa la) H := fun a o h => by
  unfold cut at h
  split at h
  · cases h
  · exact h
theorem cut_s : cut H sa la sa = none := by unfold cut; rw [if_pos (.inl rfl)]
theorem cut_l : cut H sa la la = none := by unfold cut; rw [if_pos (.inr rfl)]
theorem cut_at {o : HO} (h : H x = some o) (n1 : x ≠ sa) (n2 : x ≠ la) : cut H sa la x = some o := by
  unfold cut
  rw [if_neg (fun z => z.elim n1 n2)]
  exact h
theorem cut_up (e : Ex G H) (n1 : G sa = none) (n2 : G la = none) : Ex G (cut H sa la) := fun a o h => cut_at (e a o h) (ne_of_none h n1) (ne_of_none h n2)
/-- what lies there is left by the draws -/
theorem cut_to {o : HO} (e : Ex (cut H sa la) H') (h : H x = some o) (n1 : x ≠ sa) (n2 : x ≠ la) : H' x = some o := e _ _ (cut_at h n1 n2)
theorem Dr.tn {xs : List V} (D : Dr H sa la ca T) (h : H x = some (.tup xs)) : x ≠ sa ∧ x ≠ la := by
  obtain ⟨⟨_, _, _, _, a, b, _⟩, _⟩ := D
  constructor
  · intro z
    rw [z, a] at h
    cases h
  · intro z
    rw [z, b] at h
    cases h
end
end Sn
/-! dict(pairs) where a key may come twice -/
namespace Sn
open Evl (Ex)
open PySem L2
section
variable {ε : Type} (key : ε → Str) (val : ε → V)
def putG (l : List ε) (e : ε) : List ε := if (l.any fun x => decide (key x = key e)) = true then l.map (fun x => if key x = key e then e else x) else l ++ [e]
def kvG (e : ε) : Key × V := (.inr (key e), val e)
variable {key val}
theorem any_kv (l : List ε) (k : Str) : ((l.map (kvG key val)).any fun kv => decide (kv.1 = (Sum.inr k : Key))) = l.any fun x => decide (key x = k) := by
  rw [List.any_map]
  congr 1
  funext x
  show decide ((Sum.inr (key x) : Key) = Sum.inr k) = decide (key x = k)
  rw [decide_eq_decide]
  exact ⟨fun h => Sum.inr.inj h, fun h => by rw [h]⟩
theorem putG_kv (l : List ε) (e : ε) : putK (l.map (kvG key val)) (Sum.inr (key e) : Key) (val e) = (putG key l e).map (kvG key val) := by
  unfold putK putG
  rw [any_kv]
  split
  · rw [List.map_map, List.map_map]
    refine List.map_congr_left fun x _ => ?_
    show (if (Sum.inr (key x) : Key) = Sum.inr (key e) then ((Sum.inr (key x) : Key), val e) else kvG key val x) = kvG key val (if key x = key e then e else x)
    by_cases h : key x = key e
    · rw [if_pos h, if_pos (by rw [h]), h]
      rfl
    · rw [if_neg h, if_neg (fun z => h (Sum.inr.inj z))]
  · rw [List.map_append]
    rfl
theorem mergeG (l : List ε) : ∀ acc : List ε, mergeK (acc.map (kvG key val)) (l.map (kvG key val)) = (l.foldl (putG key) acc).map (kvG key val) := by
  induction l with
  | nil => intro acc; rfl
  | cons e r ih =>
    intro acc
    show mergeK (putK (acc.map (kvG key val)) (Sum.inr (key e) : Key) (val e)) (r.map (kvG key val)) = _
    rw [putG_kv, ih]
    rfl
theorem putG_keys (l : List ε) (e : ε) : (putG key l e).map key = if key e ∈ l.map key then l.map key else l.map key ++ [key e] := by
  unfold putG
  by_cases h : key e ∈ l.map key
  · have ha : (l.any fun x => decide (key x = key e)) = true := by
      obtain ⟨x, hx, hk⟩ := List.mem_map.mp h
      exact List.any_eq_true.mpr ⟨x, hx, decide_eq_true hk⟩
    rw [if_pos ha, if_pos h, List.map_map]
    refine List.map_congr_left fun x _ => ?_
    show key (if key x = key e then e else x) = key x
    split
    · rename_i z; exact z.symm
    · rfl
  · have ha : ¬ (l.any fun x => decide (key x = key e)) = true := fun z => by
      obtain ⟨x, hx, hk⟩ := List.any_eq_true.mp z
      exact h (List.mem_map.mpr ⟨x, hx, of_decide_eq_true hk⟩)
    rw [if_neg ha, if_neg h, List.map_append]
    rfl
theorem putG_mem {l : List ε} {e x : ε} (h : x ∈ putG key l e) : x ∈ l ∨ x = e := by
  unfold putG at h
  split at h
  · obtain ⟨y, hy, rfl⟩ := List.mem_map.mp h
    split
    · exact .inr rfl
    · exact .inl hy
  · rcases List.mem_append.mp h with h | h
    · exact .inl h
    · exact .inr (List.mem_singleton.mp h)
theorem foldG_mem {x : ε} : ∀ (l acc : List ε), x ∈ l.foldl (putG key) acc → x ∈ acc ∨ x ∈ l
  | [], acc, h => .inl h
  | e :: r, acc, h => by
    rcases foldG_mem r _ h with z | z
    · rcases putG_mem z with z | z
      · exact .inl z
      · exact .inr (by rw [z]; exact List.mem_cons_self)
    · exact .inr (List.mem_cons_of_mem _ z)
theorem foldG_nd : ∀ (l acc : List ε), (acc.map key).Nodup → ((l.foldl (putG key) acc).map key).Nodup
  | [], acc, h => h
  | e :: r, acc, h => foldG_nd r _ (by
    rw [putG_keys]
    split
    · exact h
    · rename_i z
      rw [List.nodup_append]
      exact ⟨h, by simp, fun a ha b hb => by rw [List.mem_singleton.mp hb]; exact fun q => z (q ▸ ha)⟩)
theorem foldG_key {k : Str} : ∀ (l acc : List ε), k ∈ (l.foldl (putG key) acc).map key ↔ k ∈ acc.map key ∨ k ∈ l.map key
  | [], acc => by simp
  | e :: r, acc => by
    rw [List.foldl_cons, foldG_key r, putG_keys, List.map_cons, List.mem_cons]
    by_cases h : key e ∈ acc.map key
    · rw [if_pos h]
      constructor
      · rintro (z | z)
        · exact .inl z
        · exact .inr (.inr z)
      · rintro (z | z | z)
        · exact .inl z
        · exact .inl (z ▸ h)
        · exact .inr z
    · rw [if_neg h, List.mem_append, List.mem_singleton]
      constructor
      · rintro ((z | z) | z)
        · exact .inl z
        · exact .inr (.inl z)
        · exact .inr (.inr z)
      · rintro (z | z | z)
        · exact .inl (.inl z)
        · exact .inl (.inr z)
        · exact .inr z
theorem foldG_len : ∀ (l acc : List ε), (l.foldl (putG key) acc).length ≤ acc.length + l.length
  | [], acc => by simp
  | e :: r, acc => by
    rw [List.foldl_cons]
    have h1 := foldG_len r (putG key acc e)
    have h2 : (putG key acc e).length ≤ acc.length + 1 := by
      have := congrArg List.length (putG_keys (key := key) acc e)
      rw [List.length_map] at this
      rw [this]
      split <;> simp
    rw [List.length_cons]
    omega
end
theorem rKV_G (l : List Ent) : l.map rKV = l.map (kvG (fun e : Ent => e.1) fun e => .ref e.2.2) := rfl
theorem sKV_G (l : List (Str × Str)) : l.map sKV = l.map (kvG (fun e : Str × Str => e.1) fun e => .str e.2) := rfl
end Sn
/-! enumerate(tuple) -/
namespace Sn
open Evl (Ex)
open PySem PySem.Spec PyProof.Rows L2
theorem meets_enum1 {v : Value} {o : Obj} {G : Heap → Prop} (B : Begins v o G) :
    Meets (Builtin.«enumerate.__new__» ⟨[.type "enumerate", v], []⟩) (fun _ R s => G s.heap ∧
      R (.ok (.ret (.ref (s.heap.push o).objs.size))) { s with heap := (s.heap.push o).push { cls := .type "enumerate", data := .fields #[.none, .bool false, .ref s.heap.objs.size, rawInt 0, .none, .none] } }) := by
  refine .of_wp fun prog w A R s h => ?_
  obtain ⟨hp, g, d, tk, os⟩ := s
  obtain ⟨hG, h⟩ := h
  have hsub := sub_enumerate
  have it1 : ∀ {A' : Around} {E : Value → Shared → Prop} {Q : Value → Shared → Prop}, Q (.ref hp.objs.size) ⟨hp.push o, g, d, tk, os⟩ → wpAny (model prog w) A' (pyIter v) Q E ⟨hp, g, d, tk, os⟩ := fun q => B.iter prog w _ _ ⟨hp, g, d, tk, os⟩ _ hG q
  wp_walk using it1
  refine wpAny_stack_any fun st => wpAny_pure ?_
  split
  · rename_i c _ _ _ _ _
    cases (c == Value.type "enumerate") <;> (wp_walk using it1; exact ⟨_, rfl, h⟩)
  · wp_walk using it1
    exact ⟨_, rfl, h⟩
theorem call_enumT {prog : Program} {w : World} {A : Around} {E : Value → Shared → Prop} {s : Shared} {a : Addr} {its : Array Value} {Q : Value → Shared → Prop} (ha : s.heap.IsTuple a its)
    (h : ∀ h', IsEnum h' (s.heap.objs.size + 1) s.heap.objs.size 0 .none → h'.IsTupleIter s.heap.objs.size a 0 → (∀ b o, s.heap.get? b = some o → h'.get? b = some o) → Q (.ref (s.heap.objs.size + 1)) { s with heap := h' }) :
    wpAny (model prog w) A (call (.type "enumerate") [.ref a]) Q E s := by
  refine callType_new F.called_enumerate (by decide) (F.typeCall_enumerate_1 _) (F.newCall_enumerate_1 _) (fun obj => F.args_object_init_2 obj _) F.entry_enumerate_new (meets_enum1 (begins_tuple a its)) ⟨ha, ?_⟩
  have sz : (s.heap.push { cls := .type "tuple_iterator", data := .fields #[.ref a, .int 0 0] }).objs.size = s.heap.objs.size + 1 := Heap.size_push ..
  have he := Heap.get?_push_size (s.heap.push { cls := .type "tuple_iterator", data := .fields #[.ref a, .int 0 0] }) (o := { cls := .type "enumerate", data := .fields #[.none, .bool false, .ref s.heap.objs.size, rawInt 0, .none, .none] }) rfl
  show _ ∧ _
  rw [sz] at he ⊢
  exact ⟨⟨_, he, rfl⟩, h _ he ⟨_, Heap.get?_push_of_some _ (Heap.get?_push_size _ rfl), rfl, rfl⟩ fun b o z => Heap.get?_push_of_some _ (Heap.get?_push_of_some _ z)⟩
/-- the pairs of enumerate(t), t the tuple xs at a -/
def IteT (K : PySem.W.Frag) (a : Addr) (xs : List V) : It :=
  ⟨fun i H => SqT K H a xs ∧ i < xs.length, fun i H v H' => ∃ T x, v = .ref T ∧ H T = none ∧ H' = upd H T (.tup [.int (i : Nat), x]) ∧ xs[i]? = some x, fun i H => SqT K H a xs ∧ i = xs.length⟩
theorem turn_enumT {P : Program} {w : World} {K : PySem.W.Frag} {elts : List Expr} {kk : Nat} {tpos : Pos} {a e it : Addr} {xs : List V} (n1 : e ≠ it) (n2 : e ≠ a) (n3 : a ≠ it) :
    Turn P w K (.Tuple elts kk tpos) (IteT K a xs) [e, it] e (fun i h => (∃ old, IsEnum h e it ((i : Nat) : Int) old) ∧ h.IsTupleIter it a i) where
  mem := List.mem_cons_self
  obj := fun i h st b hb => by
    obtain ⟨⟨old, he⟩, o, ho, hc, hd⟩ := st
    rcases List.mem_cons.mp hb with z | hb
    · subst z
      exact ⟨_, he, fun v q => nomatch q⟩
    · rw [List.mem_singleton.mp hb]
      exact ⟨o, ho, fun v q => by rw [hd] at q; cases q⟩
  keep := fun i h h' st k => ⟨st.1.elim fun old he => ⟨old, k e List.mem_cons_self _ he⟩, st.2.at fun o q => k it (by simp) o q⟩
  item := by
    intro X hP hw hK hc i pins s σ H E I hf st hg
    subst hP hw hK
    obtain ⟨⟨old, he⟩, hit⟩ := st
    obtain ⟨hq, hi⟩ := hg
    have hx := List.getElem?_eq_getElem hi
    generalize xs[i] = x at hx
    obtain ⟨its, rv, p, hz⟩ := I.tuple hq
    obtain ⟨u, hu, ru⟩ := rv.get hx
    have hlt : i < its.toArray.size := by simpa using (List.getElem?_eq_some_iff.mp hu).1
    refine wpAny_pyNext_enum_itemD (Draws.tuple (A := X.A.in1) (show X.A.in1.handled = none from I.ok.hd hc) it a n3 its.toArray) he ⟨hit, p⟩ hlt n1 (by simp [n1, n2]) fun y h1 tk hy ho st1 hT hsz hk => ?_
    have ey : y = u := by
      have z : its.toArray[i]? = some y := hy
      have z' : its[i]? = some y := by simpa using z
      rw [hu] at z'
      exact (Option.some.inj z').symm
    subst ey
    refine ⟨_, rfl, wpAny_letOwnedTupleGo_enum (s := { s with heap := h1, toks := tk + 1 }) ho fun h2 he2 sb => ?_⟩
    have lte : e < s.heap.objs.size := Heap.lt_size he
    have lti : it < s.heap.objs.size := by obtain ⟨_, q, _⟩ := hit; exact Heap.lt_size q
    have hT2 := (sb.2 _ (Nat.ne_of_gt lte)).trans hT
    have kept : ∀ b ob, b ∉ [e, it] → s.heap.get? b = some ob → h2.get? b = some ob := fun b ob hb q => by
      have nb : b ≠ e ∧ b ≠ it := by simpa using hb
      exact (sb.2 b nb.1).trans (hk b ob nb.1 nb.2 q)
    have new : ObjOk X.prog X.w (upd H s.heap.objs.size (.tup [.int (i : Nat), x])) h2 s.heap.objs.size (.tup [.int (i : Nat), x]) := ⟨by show 2 ≤ sizeLine; decide, [.int i tk, y], .cons ⟨_, rfl⟩ (.cons ru .nil), ⟨_, hT2, rfl, _, rfl⟩⟩
    refine ⟨.ref s.heap.objs.size, _, I.turnedNew (t' := tk + 1) kept hf (Nat.le_refl _) new, rfl, ⟨_, x, rfl, I.hok.fresh (Nat.le_refl _), rfl, hx⟩, ⟨⟨y, ?_⟩, st1.1.at fun o q => (sb.2 it (Ne.symm n1)).trans q⟩, fun b hb => ?_⟩
    · rw [show ((i + 1 : Nat) : Int) = (i : Int) + 1 by omega]
      exact he2
    · have lb : b < s.heap.objs.size := by
        rcases List.mem_cons.mp hb with z | hb
        · rw [z]; exact lte
        · rw [List.mem_singleton.mp hb]; exact lti
      rw [upd_ne (Nat.ne_of_lt lb)]
      exact (hf b hb).1
  done := by
    intro X hP hw hK hc i pins s σ H E I hf st hg
    subst hP hw hK
    obtain ⟨⟨old, he⟩, hit⟩ := st
    obtain ⟨hq, hx⟩ := hg
    obtain ⟨its, rv, p, hz⟩ := I.tuple hq
    obtain ⟨f0, f1, f2, f3, f4, f5⟩ := hf it (by simp)
    have ez : i = its.toArray.size := by
      rw [hx, rv.length]
      simp
    subst ez
    exact wpAny_pyNext_enum_endD (Draws.tuple (A := X.A.in1) (show X.A.in1.handled = none from I.ok.hd hc) it a n3 its.toArray) he ⟨hit, p⟩ fun h' eb => ⟨rfl, I.turned (t' := s.toks) (fun b o hb q => eb b o hb q) f0 f1 f3 f4 f5⟩
  self := fun A i s Q E st h => st.1.elim fun _ he => wpAny_pyIter_enum he h
def iEnumT (K : PySem.W.Frag) (ta : TA) : TI := fun σ H R => ta σ H fun vs H1 => ∃ a xs, vs = [.ref a] ∧ SqT K H1 a xs ∧ R (IteT K a xs) H1
theorem pi_enumT {X : Cx} {e : Expr} {ta : TA} {p pos tpos : Pos} {elts : List Expr} {kk : Nat} (hg : Gl X "enumerate") (hm : X.mg "enumerate" = none) (ha : PA X [e] ta) (hs : starEach [e] X.env = [(false, eval e X.env)] := by rfl) :
    PI X (.Tuple elts kk tpos) (.Call (.Name "enumerate" p) [e] [] pos) (iEnumT X.K ta) := by
  refine ⟨fun pins s σ H R I h => Call_ (ld_blt I hg hm boot_enumerate (PyProof.Rows.callWith_type1 (thn (ha.run pos pins s σ H _ I h) fun us s1 hh => ?_) hs rfl))⟩
  obtain ⟨vs, H1, I1, r1, a, xs, ex, hq, q⟩ := hh
  subst ex
  obtain rfl := Vals.ref1 r1
  obtain ⟨its, rv, p', hz⟩ := I1.tuple hq
  have la : a < s1.heap.objs.size := by obtain ⟨o, ho, _⟩ := p'; exact Heap.lt_size ho
  refine call_enumT p' fun h' he hit hk => wpAny_pyIter_enum he ?_
  refine ⟨s1.heap.objs.size + 1, [s1.heap.objs.size + 1, s1.heap.objs.size], _, _, H1, rfl, I1.kept (t' := s1.toks) hk, turn_enumT (Nat.succ_ne_self _) (Nat.ne_of_gt (Nat.lt_succ_of_lt la)) (Nat.ne_of_lt la), ⟨⟨.none, he⟩, hit⟩, fun b hb => ?_, q⟩
  have hle : s1.heap.objs.size ≤ b := by
    rcases List.mem_cons.mp hb with z | hb
    · rw [z]; exact Nat.le_succ _
    · rw [List.mem_singleton.mp hb]; exact Nat.le_refl _
  exact I1.fpOk hle (I1.hok.fresh hle)
/-- for i, x in enumerate(t) -/
theorem walk_enumT {K : PySem.W.Frag} {a : Addr} {xs : List V} : Walk (IteT K a xs) xs.length (fun H => SqT K H a xs) (YPair (fun i => some (.int (i : Nat))) (fun i => xs[i]?)) := by
  refine ⟨fun _ _ hi q => ⟨q, hi⟩, fun _ q => ⟨q, rfl⟩, fun i H v H' _ _ y => ?_⟩
  obtain ⟨T, x, h1, h2, h3, h4⟩ := y
  exact ⟨T, _, x, h1, h2, h3, rfl, h4⟩
end Sn
/-! walks of any kind of block -/
namespace Sn
open Evl (Ex)
open PySem L2
theorem w_out {J : It} {n : Nat} {G : Hp → Prop} {Y : Nat → Hp → V → Hp → Prop} (w : Walk J n G Y) {Bd : V → Hp → (Hp → Prop) → Prop} {H0 : Hp} {Qd : Hp → Prop} (Pv : Nat → Hp → Prop) (h0 : Pv 0 H0) (hG : ∀ i H, i ≤ n → Pv i H → G H)
    (hs : ∀ i x H H', i < n → Pv i H → Y i H x H' → Bd x H' (Pv (i + 1))) (hd : ∀ H, Pv n H → Qd H) :
    ∃ W : Nat → Nat → Hp → Prop, (∃ m, W 0 m H0) ∧ ∀ i m H, W i m H → (J.stop i H ∧ Qd H) ∨ (J.go i H ∧ ∃ Nx : Hp → Prop, (∀ H', Nx H' → ∃ m', m' < m ∧ W (i + 1) m' H') ∧ ∀ x H', J.yld i H x H' → Bd x H' Nx) := by
  refine ⟨fun i m H => i ≤ n ∧ m = n - i ∧ Pv i H, ⟨n, Nat.zero_le _, rfl, h0⟩, fun i m H hW => ?_⟩
  obtain ⟨hi, rfl, p⟩ := hW
  rcases Nat.lt_or_eq_of_le hi with hlt | rfl
  · exact .inr ⟨w.goes i H hlt (hG i H hi p), Pv (i + 1), fun H' p' => ⟨n - (i + 1), by omega, hlt, rfl, p'⟩, fun x H' y => hs i x H H' hlt p (w.yields i H x H' hlt (hG i H hi p) y)⟩
  · exact .inl ⟨w.stops H (hG _ H hi p), hd H p⟩
open PySem.Spec PyProof.Rows in
/-- y = {k: v for ..} -/
theorem ps_setDc {X : Cx} {i : Nat} {y : Str} {py : Pos} {kx vx tg iter : Expr} {ifs : List Expr} {scope : Scope} {own : List (Str × Nat)} {pos spos : Pos} {wi : TI} {g : TG} {tt : TT} {tk tv : TE} (hc : X.calm = true) (hN : X.N.Nodup) (hy : X.N[i]? = some y) (hyl : X.env.scope.names.lookup y = some .local)
    (hsw : swapsWith (.DictComp kx vx [⟨tg, iter, ifs, 0⟩] scope pos) (some (.Name y py)) spos.line X.env = pure true) (hi : PI X tg iter wi) (ok : BlkOk X.N X.env.scope scope own)
    (hg : ∀ (s : Shared) (H : Hp) (C : Addr) (cl : List (Str × Addr)) (fp : List Addr), PG (X.blk s H scope (compEnvC scope cl C X.env) fp) tg g) (ht : ∀ (s : Shared) (H : Hp) (C : Addr) (cl : List (Str × Addr)) (fp : List Addr), PTs (X.blk s H scope (compEnvC scope cl C X.env) fp) ifs tt)
    (hk : ∀ (s : Shared) (H : Hp) (C : Addr) (cl : List (Str × Addr)) (fp : List Addr), PE (X.blk s H scope (compEnvC scope cl C X.env) fp) kx tk)
    (he : ∀ (s : Shared) (H : Hp) (C : Addr) (cl : List (Str × Addr)) (fp : List Addr), PE (X.blk s H scope (compEnvC scope cl C X.env) fp) vx tv) (hs : ∀ x, foldedSetIterable iter X.env x = pure x := by intro _; rfl) :
    PS X (.Assign [.Name y py] (.DictComp kx vx [⟨tg, iter, ifs, 0⟩] scope pos) spos) (tAsg (tDc wi g tt tk tv (own.map (·.2))) (gName i)) := by
  refine ⟨fun pins s σ H D I h => ?_⟩
  rw [exec_Assign_Name_used _ _ _ _ hsw]
  refine wpAny_bind (wpAny_standAt (wpAny_bind ?_))
  show wpAny _ X.A (do let _ ← comprehension (.DictComp kx vx [⟨tg, iter, ifs, 0⟩] scope pos) scope X.env (firstIterPos [⟨tg, iter, ifs, 0⟩] pos) newDict false (eval iter X.env) (some (assign (.Name y py) X.env))) _ _ s
  have hh : tDc wi g tt tk tv (own.map (·.2)) σ H (fun x H1 => gName i x σ H1 D.nx) := h
  refine wpAny_bind (thn (dc_core (Qf := fun _ s' => SP X pins D .next s') hc hN I hi ok hg ht hk he hs hh fun P C s' m H' I' q hn f => ?_) fun _ s' hq => wpAny_pure (wpAny_pure hq))
  show wpAny _ _ (assign (.Name y py) X.env (.ref P)) _ _ _
  obtain ⟨f0, f1, f2, f3, f4, f5⟩ := f
  refine wpAny_assign_Name (store_ok2 (v := V.ref P) I' hN hy (.inl hyl) rfl (fun s2 I2 hw => ?_) (.inr hyl))
  obtain ⟨b, sb, hb⟩ := hw
  have nb : C ≠ b := hb.elim (fun z => by rw [z]; exact f1) fun z e => f4 y b z e.symm
  exact ⟨m, hn.sameBut sb nb, fun h3 sb3 => ⟨_, H', I2.turned (t' := s2.toks) (fun c o hc e => (sb3.2 c hc).trans e) f0 f1 f3 f4 f5, q⟩⟩
theorem swD {kx vx : Expr} {gs : List Comprehension} {scope : Scope} {pos py : Pos} {y : Str} {l : Nat} {env : Env} (hk : env.scope.kind = .function) (hy : env.scope.names.lookup y = some .local) (hl : (py.line == pos.line) = true)
    (ha : (scope.names.any fun (n, k) => n == y && (k == .local || k == .cell)) = false) : swapsWith (.DictComp kx vx gs scope pos) (some (.Name y py)) l env = pure true := by
  have k1 : env.kindOf y = some .local := hy
  have k2 : env.blockKind = .function := by unfold Env.blockKind; rw [hk]; rfl
  unfold swapsWith
  simp only [k2, k1, ha, Expr.pos, hl]
  rfl
end Sn
/-! == of dicts of texts and of tuples of texts -/
namespace Sn
open Evl (Ex)
open PySem PySem.Spec PyProof.Rows L2
/-- equal values of a dict: flat ones, or tuples of the same texts -/
def Flt2 (K : PySem.W.Frag) (H : Hp) (x y : V) : Prop := (x = y ∧ flatB x = true) ∨ ∃ (a b : Addr) (ws : List Str), x = .ref a ∧ y = .ref b ∧ SqT K H a (ws.map V.str) ∧ SqT K H b (ws.map V.str)
def DDict (K : PySem.W.Frag) : Eqv := fun x y H => ∃ a b ks ls, x = .ref a ∧ y = .ref b ∧ H a = some (.dK ks) ∧ H b = some (.dK ls) ∧ ks.length = ls.length ∧ ∀ p ∈ ks, ∃ u, valV ls p.1 = some u ∧ Flt2 K H p.2 u
section
variable {X : Cx} {pins : List (Addr × Obj)} {σ : L2.St} {H : Hp} {s : Shared}
theorem strs_at {ws : List Str} : ∀ {us vs : List Value}, Vals (ws.map V.str) us → Vals (ws.map V.str) vs → ∀ (A : Around) j (h1 : j < us.length) (h2 : j < vs.length), SeqAt.EqAt A s us[j] vs[j] true := by
  induction ws with
  | nil =>
    intro us vs r1 r2 A j h1 h2
    cases r1
    exact absurd h1 (Nat.not_lt_zero _)
  | cons w r ih =>
    intro us vs r1 r2 A j h1 h2
    cases r1 with
    | cons a1 b1 =>
      cases r2 with
      | cons a2 b2 =>
        cases j with
        | zero => exact eqAt_same a1 a2 rfl
        | succ j => exact ih b1 b2 A j (Nat.lt_of_succ_lt_succ h1) (Nat.lt_of_succ_lt_succ h2)
theorem flt2_run (I : Inv X pins σ H s) {A : Around} (hu : A.units < cLine) (x y : V) (v u : Value) (h : Flt2 X.K H x y) (rx : RelV x v) (ry : RelV y u) : SeqAt.EqP X.prog X.w A s v u true := by
  rcases h with ⟨rfl, f⟩ | ⟨a, b, ws, rfl, rfl, ha, hb⟩
  · exact (eqAt_same rx ry f).eqP
  · cases (show v = Value.ref a from rx)
    cases (show u = Value.ref b from ry)
    by_cases e : a = b
    · subst e
      exact (SeqAt.EqAt.same _).eqP
    · obtain ⟨us, r1, p1, _⟩ := I.tuple ha
      obtain ⟨vs, r2, p2, _⟩ := I.tuple hb
      have q := SeqAt.EqAt.of_refs e (SeqAt.RcAt.tuples (e := fun _ => true) p1 p2 hu fun j h1 h2 => by
        have := strs_at (s := s) r1 r2 A.in1 j (by simpa using h1) (by simpa using h2)
        simpa using this)
      have es : us.toArray.size = vs.toArray.size := by
        have h1 := r1.length
        have h2 := r2.length
        simp only [List.size_toArray]
        omega
      have eb : ((List.range (min us.toArray.size vs.toArray.size)).all (fun _ => true) && us.toArray.size == vs.toArray.size) = true := by
        rw [es]
        simp
      rw [eb] at q
      exact q.eqP
end
section
variable {X : Cx}
theorem mon_dict : Mon (DDict X.K) := fun x y H H' e d => by
  obtain ⟨a, b, ks, ls, h1, h2, h3, h4, h5, h6⟩ := d
  refine ⟨a, b, ks, ls, h1, h2, e _ _ h3, e _ _ h4, h5, fun p hp => ?_⟩
  obtain ⟨u, hu, f⟩ := h6 p hp
  refine ⟨u, hu, ?_⟩
  rcases f with f | ⟨a, b, ws, x1, x2, x3, x4⟩
  · exact .inl f
  · exact .inr ⟨a, b, ws, x1, x2, x3.ext e, x4.ext e⟩
theorem rcG_dict : RcG X 1 (DDict X.K) := fun A pins s σ H x y u v sb I rx ry d => by
  obtain ⟨a, b, ks, ls, rfl, rfl, ha, hb, hl, hp⟩ := d
  have hu := sb.room.units
  exact eqR_run I (A := A) (F := Flt2 X.K H) (by omega) (fun x y v u h r1 r2 => flt2_run I (A := A.in1) (by show A.units + 1 < cLine; omega) x y v u h r1 r2) (.inr ⟨a, b, ks, ls, rfl, rfl, ha, hb, hl, hp⟩) rx ry _ _ ⟨rfl, H, I, L2.Ext.rfl'⟩
theorem eqG_dict : EqG X 1 (DDict X.K) := rcG_dict.eqG fun _ _ _ d => by
  obtain ⟨a, b, _, _, h1, h2, _⟩ := d
  exact ⟨a, b, h1, h2⟩
end
end Sn
/-! list(d.values()) -/
namespace Sn
open Evl (Ex)
open PySem PySem.Spec PyProof.Rows L2
def rVals : V → Hp → VK → Prop := fun x H Q => ∃ (d : Addr) (kvs : List (Key × V)), x = .ref d ∧ H d = some (.dK kvs) ∧ ∀ p, H p = none → Q (.ref p) (upd H p (.lst (kvs.map (·.2))))
def tVals (te : TE) : TE := fun σ H Q => te σ H fun x H1 => rVals x H1 Q
section
variable {X : Cx} {e : Expr} {te : TE} {p apos cpos pos : Pos}
theorem pe_listVals (hc : X.calm = true) (he : PE X e te) (hg : Gl X "list") (hm : X.mg "list" = none) (hv : bootBuiltins "list" = some (.type "list")) (hbase : attributeBase e "values" X.env (eval e X.env) = eval e X.env := by rfl) (hline : (apos.endLine == cpos.line) = true := by rfl)
    (hs : starEach [.Call (.Attribute e "values" apos) [] [] cpos] X.env = (false, eval (.Call (.Attribute e "values" apos) [] [] cpos) X.env) :: starEach [] X.env := by rfl) :
    PE X (.Call (.Name "list" p) [.Call (.Attribute e "values" apos) [] [] cpos] [] pos) (tVals te) := by
  refine ⟨fun pins s σ H Q I hq => wpAny_Call_Name_kw (ld_blt I hg hm hv (PyProof.Rows.callWith_type1 ?_ hs rfl))⟩
  rw [hs]
  show wpAny _ _ (spliced ((false, eval (.Call (.Attribute e "values" apos) [] [] cpos) X.env) :: backTo pos (starEach [] X.env))) _ _ s
  refine Calls.spliced_cons (wpAny_Call_method (T := "dict") (id := "dict.values") hbase rfl hline F.plainAttrs_dict F.slot_dict_values F.type_dict_values (thn (he.run pins s σ H _ I hq) fun u s1 hh => ?_))
  obtain ⟨x, H1, I1, rx, d, kvs, ex, hd, q⟩ := hh
  subst ex
  obtain rfl : u = Value.ref d := rx
  obtain ⟨hz, lo, vs, kv, hdo⟩ := (show ObjOk X.prog X.w H1 s1.heap d (.dK kvs) from I1.hok d _ hd)
  obtain ⟨ep, hat⟩ := hdo.dictAt
  have ln : kvs.length = vs.length := Paired.length kv
  have I2 : Inv X pins σ H1 { s1 with heap := s1.heap.push { cls := .type "dict_values", data := .fields #[.ref d] } } := I1.kept (t' := s1.toks) fun b ob q => Heap.get?_push_of_some _ q
  refine ⟨hdo.typeIs, hdo.mapOf.noDict, ?_⟩
  show wpAny _ _ (callWith cpos (.builtin "dict.values") [.ref d] [] []) _ X.xe s1
  refine method_meetsIn F.slot_dict_values F.entry_dict_values rfl (PySem.evalArgs_none ⟨rfl, hdo.typeIs, F.args_dict_values_1 _, _, meets_dict_values (mixKind X.prog X.w) d lo, ⟨vs, hdo⟩, ?_⟩)
  refine Calls.spliced_nil (PySem.W.kdl_call (PySem.W.kdl_values (knd := mixKind X.prog X.w) (kvs := vs) (ep := ep) (r := s1.heap.objs.size) (d := d)) (I1.ok.hd hc) ⟨⟨_, Heap.get?_push_size _ rfl, rfl, rfl⟩, hat.push _⟩ (by rw [← ln]; exact hz) fun h' tk acc c hk hS hacc => ?_)
  refine ⟨.ref _, _, I2.laid hk (Nat.le_refl _) (o := .lst (kvs.map (·.2))) ⟨by rw [List.length_map]; exact hz, acc.toList, c, ?_, by rw [Array.toArray_toList]; exact hS⟩, rfl, q _ (I2.hok.fresh (Nat.le_refl _))⟩
  refine vals_of_at (by have h9 := hacc.1; simp only [List.length_map, Array.length_toList]; omega) fun j x w h1 h2 => ?_
  obtain ⟨k, hky⟩ := hacc.2 j w (by rw [← Array.getElem?_toList]; exact h2)
  rw [List.getElem?_map] at h1
  cases hj : kvs[j]? with
  | none => rw [hj] at h1; cases h1
  | some kx =>
    rw [hj] at h1
    obtain rfl : kx.2 = x := Option.some.inj h1
    obtain ⟨qv, g1, _, g3⟩ := LiI.paired_get kv hj
    rw [hky] at g1
    cases g1
    exact g3
end
end Sn
/-! != by an own ==, >> by an own def -/
namespace Sn
open Evl (Ex)
open PySem PySem.Spec PyProof.Rows PySem.W L2
section
variable {prog : Program} {w : World} {A : Around} {E : Value → Shared → Prop} {s : Shared} {K : PySem.W.Frag} {x C f : Addr} {ox : Obj} {od : Option Obj} {b : Value}
/-- x != b where the class has an own == and no own != -/
theorem ne_own {Q : Value → Shared → Prop} (hu : A.units + 1 < cLine) (X : K.In s.heap) (I : InstAt s.heap x ox C od) (hb : Looks (model prog w) s.heap (typeOf b) (.ref C))
    (hn : findIn K (.ref C) "__ne__" = some (some (.builtin "object.__ne__"))) (hm : mroIn K C (.type "object") = some true) (hs : findIn K (.ref C) "__eq__" = some (some (.ref f))) (hf : isFn K (.ref f) = true)
    (h : wpAny (model prog w) A.in1 (call (.ref f) [.ref x, b]) (fun v s' => ∃ r, v = .bool r ∧ Q (.bool (!r)) s') E s) : wpAny (model prog w) A (richCompare .NotEq (.ref x) b) Q E s := by
  have ask : wpAny (model prog w) A (tryCompare (.ref x) "__ne__" b) (fun r s' => ∃ v, r = some v ∧ Q v s') E s := by
    unfold tryCompare
    simp only [callSpecialIfBound?, bindSpecialIfBound?]
    have bd : Looks (model prog w) s.heap (bindSpecial (.builtin "object.__ne__") (.ref x)) (.builtin "object.__ne__", [.ref x]) := Looks.of_pure (PySem.F.cmp_object.ne.bind (.ref x))
    have run : wpAny (model prog w) A (call (.builtin "object.__ne__") [.ref x, b]) (fun v s' => ∃ r, v = .bool r ∧ Q (.bool r) s') E s := by
      refine wpAny_call (codeAny_call_builtin PySem.F.cmp_object.ne.plain PySem.F.cmpEntry_ne (check_slot PySem.F.cmpKind_ne PySem.F.cmpSplit_ne (I.type.andThen (looks_mroIn X hm)) (PySem.F.cmpArgs_ne _ _) ?_))
      unfold Builtin.«object.__ne__»
      refine wpAny_bind (wpAny_of_eq (a := ((.ref x : Value), [b])) (by first | rfl | kernel_rfl) ?_)
      refine wpAny_bind (wpAny_cRoomFor (show A.in1.units < cLine from hu) ?_)
      refine wpAny_bind (ifBound_K X I hs hf (wpAny_mono h (fun v s' hv => ?_) fun _ _ e => e))
      obtain ⟨r, rfl, hq⟩ := hv
      refine wpAny_bind (wpAny_truthy_bool ?_)
      exact wpAny_pure ⟨_, rfl, hq⟩
    have fin : wpAny (model prog w) A (call (.builtin "object.__ne__") ([.ref x] ++ [b]) >>= fun v => pure (some v)) (fun r s' => ∃ v, r = some (.bool v) ∧ Q (.bool v) s') E s := wpAny_bind (wpAny_mono run (fun v s' hv => by
      obtain ⟨r, rfl, hq⟩ := hv
      exact wpAny_pure ⟨r, rfl, hq⟩) fun _ _ e => e)
    have done : ∀ {r : Option Value} {s' : Shared}, (∃ v, r = some (.bool v) ∧ Q (.bool v) s') → wpAny (model prog w) A (match r with | some .notImplemented | none => pure none | some v => pure (some v)) (fun r s' => ∃ v, r = some v ∧ Q v s') E s' := fun {r s'} hv => by
      obtain ⟨v, rfl, hq⟩ := hv
      exact wpAny_pure ⟨_, rfl, hq⟩
    refine wpAny_bind (wpAny_holding (wpAny_bind (wpAny_bind (wpAny_bind (I.type.here ((looks_findIn X hn).here ?_))))))
    refine wpAny_bind (wpAny_askSetting (wpAny_ite ?_))
    split
    · refine wpAny_bind (bd.here (wpAny_pure (wpAny_mono fin (fun r s' hr => ?_) fun _ _ e => e)))
      obtain ⟨v, rfl, hq⟩ := hr
      exact wpAny_pure ⟨_, rfl, hq⟩
    · refine wpAny_tryCatch (wpAny_bind (bd.here (wpAny_pure (wpAny_mono fin (fun r s' hr => ?_) fun _ _ e => e))))
      obtain ⟨v, rfl, hq⟩ := hr
      exact wpAny_pure ⟨_, rfl, hq⟩
  unfold richCompare
  simp only [oneThing_ref]
  refine wpAny_holding (wpAny_bind (wpAny_cRoomFor (Nat.lt_of_succ_lt hu) ?_))
  rw [cmpInfo_NotEq]
  dsimp only
  refine wpAny_bind (I.type.here (wpAny_bind (hb.here ?_)))
  rw [show (Value.ref C != Value.ref C) = false from by simp]
  simp only [Bool.false_eq_true, if_false]
  refine wpAny_bind (wpAny_pure ?_)
  simp only [Bool.false_eq_true, if_false]
  refine wpAny_bind (wpAny_mono ask (fun r s' hr => ?_) fun _ _ e => e)
  obtain ⟨v, rfl, hq⟩ := hr
  first | exact wpAny_pure hq | exact wpAny_pure (wpAny_pure hq)
end
/-- what a type must be, so that it leaves >> to the own def on the left -/
structure ShT (K : PySem.W.Frag) (C : Addr) (T : String) : Prop where
  f : ∃ fo, findIn K (.type T) "__rshift__" = some fo
  r : ∃ ro, findIn K (.type T) "__rrshift__" = some ro
  sub : subIn K (.type T) (.ref C) = some false
/-- the class's own >> -/
structure ShC (K : PySem.W.Frag) (C f : Addr) : Prop where
  first : selfFirst K C = true
  at_ : findIn K (.ref C) "__rshift__" = some (some (.ref f))
  fn : isFn K (.ref f) = true
  refl : findIn K (.ref C) "__rrshift__" = some none
section
variable {prog : Program} {w : World} {A : Around} {E : Value → Shared → Prop} {s : Shared} {K : PySem.W.Frag} {x C f : Addr} {ox : Obj} {od : Option Obj} {b : Value} {h₀ : Heap} {L : Addr} {m : Str → Option Value}
/-- x >> b, b of a built-in type -/
theorem sh_own {T : String} {Q : Value → Shared → Prop} (X : K.In s.heap) (I : InstAt s.heap x ox C od) (hb : Looks (model prog w) s.heap (typeOf b) (.type T)) (c : ShC K C f) (t : ShT K C T)
    (h : wpAny (model prog w) A (call (.ref f) [.ref x, b]) (PySem.W.CmpBack Q) E s) : wpAny (model prog w) A (binaryOp .RShift (.ref x) b) Q E s := by
  obtain ⟨fo, h1⟩ := t.f
  obtain ⟨ro, h2⟩ := t.r
  obtain ⟨cd, rest, hcd, hm⟩ := ksp_first c.first
  have one := ksp_try X I c.at_ c.fn h
  obtain ⟨hh, g, d, tt, os⟩ := s
  have k1 : Looks (model prog w) hh (typeOf (.ref x)) (.ref C) := I.type
  have k2 : Looks (model prog w) hh (typeOf b) (.type T) := hb
  have k3 : Looks (model prog w) hh (fillsNumberSlot (.ref C) "rshift") true := fills_K X hcd hm c.at_
  have k4 : Looks (model prog w) hh (fillsNumberSlot (.type T) "rshift") ((fo.isSome && !isSeqSlot fo) || (ro.isSome && !isSeqSlot ro)) := ksp_fillsT X h1 h2
  have k5 : Looks (model prog w) hh (isSubtype (.type T) (.ref C)) false := looks_subIn X t.sub
  have k6 : Looks (model prog w) hh (numberSlotInPython (.ref C) "rshift") true := ksp_inPy X c.at_ c.refl (.inl rfl)
  have k7 : Looks (model prog w) hh (numberSlotInPython (.type T) "rshift") false := Looks.of_pure rfl
  have k8 : Looks (model prog w) hh (typeLookup (.type T) (dunderR "rshift")) ro := looks_findIn X h2
  generalize ((fo.isSome && !isSeqSlot fo) || (ro.isSome && !isSeqSlot ro)) = rt at k4
  have ne : (Value.ref C == Value.type T) = false := Bool.eq_false_iff.mpr fun q => by cases beq_iff_eq.mp q
  simp only [binaryOp, show Operator.RShift.info = (">>", "rshift") from rfl]
  refine wpAny_holding (wpAny_bind ?_)
  unfold binaryOp1
  refine wpAny_bind (k1.at (wpAny_bind (k2.at (wpAny_bind (k3.at ?_)))))
  simp only [ne, Bool.false_eq_true, if_false]
  cases rt with
  | false =>
    ksp_lk
    refine wpAny_mono one (fun r s' hr => ?_) fun _ _ e => e
    obtain ⟨v, rfl, hq⟩ := hr
    ksp_lk
    exact hq
  | true =>
    ksp_lk
    refine wpAny_mono one (fun r s' hr => ?_) fun _ _ e => e
    obtain ⟨v, rfl, hq⟩ := hr
    ksp_lk
    exact hq
end
/-- x != y of two instances of C that are equal by the own == -/
structure NeC (K : PySem.W.Frag) (C f : Addr) : Prop where
  ne : findIn K (.ref C) "__ne__" = some (some (.builtin "object.__ne__"))
  ob : mroIn K C (.type "object") = some true
  eq : findIn K (.ref C) "__eq__" = some (some (.ref f))
  fn : isFn K (.ref f) = true
section
variable {X : Cx} {C f : Addr} {k : Nat}
theorem inst_of {pins : List (Addr × Obj)} {σ : L2.St} {H : Hp} {s : Shared} {a dx : Addr} {fs : List (Str × V)} (I : L2.Inv X pins σ H s) (h : H a = some (.ins C dx fs)) : ∃ ox od, InstAt s.heap a ox C od := by
  obtain ⟨mA, J, _⟩ := ins_get I.hok h
  obtain ⟨od, J, _⟩ := J.look
  exact ⟨_, _, J⟩
def rNeO (C : Addr) (R : Addr → Addr → Hp → Prop) : R2 := fun x y H Q => ∃ a b dx dy fs gs, x = .ref a ∧ y = .ref b ∧ H a = some (.ins C dx fs) ∧ H b = some (.ins C dy gs) ∧ R a b H ∧ ∀ H', L2.Ext H H' → Q (.bl false) H'
theorem op_neO {fd : FuncData} {ps : List Str} {R : Addr → Addr → Hp → Prop} (n : NeC X.K C f) (F : FnOk X.prog X.w X.K X.mg X.base CX0 k f fd ps (spEq R)) (hb : L2.Binds X.K fd ps []) (hr : Room (k + 1) X.A) : OpR X (compareOp .NotEq) (rNeO C R) := by
  intro pins s σ H x y v u Q I rx ry h
  obtain ⟨a, b, dx, dy, fs, gs, rfl, rfl, ha, hb', hR, q⟩ := h
  cases rx
  cases ry
  obtain ⟨ox, od, J⟩ := inst_of I ha
  obtain ⟨oy, oe, J'⟩ := inst_of I hb'
  have hu := hr.units
  show wpAny (model X.prog X.w) X.A (richCompare .NotEq (.ref a) (.ref b)) _ _ _
  refine ne_own (by omega) I.kIn J J'.type n.ne n.ob n.eq n.fn ?_
  have hsp : spEq R [.ref a, .ref b] H (fun v H' => v = .bl true ∧ L2.Ext H H') E0 := ⟨a, b, rfl, hR, fun H' e => ⟨rfl, e⟩⟩
  have e0 : Env0 X.prog X.w X.K X.mg X.base X.A.in1 X.stack s H := I.env0.in1
  have hl := F.len _ _ _ _ hsp
  have r2 : Vals [V.ref a, V.ref b] [Value.ref a, Value.ref b] := .cons rfl (.cons rfl .nil)
  refine wpAny_call (codeAny_mono (F.run X.A.in1 X.stack s H ⟨[.ref a, .ref b], []⟩ [.ref a, .ref b] [.ref a, .ref b] _ E0 hr.in1 e0 (by
    have := hb s [.ref a, .ref b] I.kIn (by simpa using hl)
    simpa using this) r2 hsp) fun r s' hq => ?_)
  cases r with
  | error e => exact (show False from hq).elim
  | ok fl =>
    cases fl with
    | ret w =>
      obtain ⟨z, H', I', rz, ez, ex⟩ := I.after hq
      subst ez
      cases rz
      exact ⟨true, rfl, .bl false, H', I', rfl, q H' ex⟩
    | next => exact False.elim hq
    | brk => exact False.elim hq
    | cont => exact False.elim hq
/-- x >> y by the own def -/
def rSh (K : PySem.W.Frag) (C : Addr) (sp : Sp) (E : XK) : R2 := fun x y H Q => ∃ a dx fs, x = .ref a ∧ H a = some (.ins C dx fs) ∧ ((∃ b dy gs, y = .ref b ∧ H b = some (.ins C dy gs)) ∨ ∃ T, TyX K H y (.type T) ∧ ShT K C T) ∧ sp [x, y] H (fun v H' => (∃ r, v = .ref r) ∧ Q v H') E
theorem op_sh {CX : CXT} {fd : FuncData} {ps : List Str} {sp : Sp} {E : XK} (c : ShC X.K C f) (F : FnOk X.prog X.w X.K X.mg X.base CX k f fd ps sp) (hb : L2.Binds X.K fd ps []) (hr : Room k X.A) (hx : Passes CX X E) : OpR X (binaryOp .RShift) (rSh X.K C sp E) := by
  intro pins s σ H x y v u Q I rx ry h
  obtain ⟨a, dx, fs, rfl, ha, hy, q⟩ := h
  cases (show v = Value.ref a from rx)
  obtain ⟨ox, od, J⟩ := inst_of I ha
  have run : wpAny (model X.prog X.w) X.A (call (.ref f) [.ref a, u]) (PySem.W.CmpBack (EP X pins σ Q)) X.xe s := by
    refine wpAny_mono (run_fn (us := [.ref a, u]) (vs := [.ref a, y]) (dvs := []) F hr hb .nil hx I (.cons rfl (.cons ry .nil)) (by simpa using q)) (fun w s' hw => ?_) fun _ _ e => e
    obtain ⟨z, H', I', rz, ⟨r, rfl⟩, qz⟩ := hw
    cases (show w = Value.ref r from rz)
    exact ⟨.ref r, H', I', rfl, qz⟩
  rcases hy with ⟨b, dy, gs, rfl, hb'⟩ | ⟨T, ty, t⟩
  · cases (show u = Value.ref b from ry)
    obtain ⟨oy, oe, J'⟩ := inst_of I hb'
    obtain ⟨m, hF⟩ := I.fr
    exact binop_K hF I.ok.mod.kin J J'.type c.first c.at_ c.fn run
  · obtain ⟨Pk, kx, hp, _⟩ := kit_of I ry ty
    exact sh_own I.kIn J (kx.ty _ _ I.kIn hp) c t run
end
end Sn
/-! Errors: raised without arguments, held behind their suite, asked for their class and a field -/
namespace Sn
open Evl (Ex)
open PySem PySem.Spec PyProof.Rows L2
section
variable {X : Cx} {pos : Pos}
/-- X(), X an own exception class without own __init__ -/
theorem pmk_own0 {C : Addr} {bmB : List Value} {B newId initId : String} {x : Str} {p : Pos} (F : ExcBaseFacts B newId initId bmB) (q : PySem.W.excIn X.K C bmB newId = true) (gC : X.mg x = some (.ref C))
    (kC : PySem.W.keepIn X.K (.ref C) = true) (r : Raises X (.ref C)) (hg : Gl X x) (hdb : (x == ("__debug__" : Str)) = false := by decide) :
    PMk X (.Call (.Name x p) [] [] pos) (fun σ H Q => Q (.ref C) none H) := by
  intro pins s σ H Q I h
  refine wpAny_Call_Name_kw (ld_glob I hg gC ?_ hdb)
  refine PySem.W.callWith_K0 I.kIn kC ?_
  show wpAny _ _ (call (.ref C) []) _ _ _
  obtain ⟨bm, N, nm, qn, bs, hdct, sn, sub, ab, col, dd, k0, k1, k2, k3, k5, mN, hC, hN, hni, T⟩ := exc_obj I.kIn q
  refine wpAny_call_exc_subT F T hC hN hni (fun h' e hm => ?_) (by simp)
  exact mk_of I hm r h (I.hok.gone hm.new)
end
/-- an exception that is held -/
def HeldX (cls : Value) (d : Option Addr) (a : Addr) : HO := .ext fun h => ∃ (oe : Obj) (vs : Array Value), h.get? a = some oe ∧ Zc cls d oe ∧ oe.data = .fields vs
theorem heldX_ok {P : Program} {w : World} {H : Hp} {h : Heap} {a : Addr} {cls : Value} {d : Option Addr} {oe : Obj} {vs : Array Value} (e : h.get? a = some oe) (z : Zc cls d oe) (q : oe.data = .fields vs) : ObjOk P w H h a (HeldX cls d a) :=
  ⟨⟨oe, vs, e, z, q⟩, ⟨oe, e⟩, fun h1 h2 ⟨oe, vs, e, z, q⟩ st => ⟨oe, vs, st _ e, z, q⟩⟩
theorem heldX_at {P : Program} {w : World} {H : Hp} {h : Heap} {a : Addr} {cls : Value} {d : Option Addr} (x : HOk P w H h) (e : H a = some (HeldX cls d a)) : ∃ (oe : Obj) (vs : Array Value), h.get? a = some oe ∧ Zc cls d oe ∧ oe.data = .fields vs := (x a _ e).1
section
variable {X : Cx} {pins : List (Addr × Obj)} {σ : L2.St} {H : Hp} {s : Shared}
theorem inv_hold {a : Addr} {cls : Value} {d : Option Addr} {oe : Obj} {vs : Array Value} (I : Inv X pins σ H s) (ha : s.heap.get? a = some oe) (hz : Zc cls d oe) (hd : oe.data = .fields vs) (n0 : X.s_0.heap.get? a = none) (hn : H a = none)
    (hL : a ≠ X.env.locals) (hp : ∀ p ∈ X.pn ++ pins, p.1 ≠ a) : Inv X pins σ (upd H a (HeldX cls d a)) s := by
  have ne0 : ∀ b o, X.s_0.heap.get? b = some o → b ≠ a := fun b o e z => by rw [z, n0] at e; cases e
  have up : ∀ {b u}, H b = some u → upd H a (HeldX cls d a) b = some u := fun {b u} e => by rw [upd_ne (ne_of_none e hn)]; exact e
  refine ⟨I.ok, I.os, I.bare, ⟨I.base.keep, I.base.slot, fun b o e n hx => ?_, I.base.there, fun b xs e => up (I.base.tups b xs e), fun b o u e => up (I.base.frzs b o u e), fun b ps e => ?_⟩, I.loc, I.cell, ?_, fun x c e => ?_, fun p q => ?_, fun b u e => ?_, I.len⟩
  · rw [upd_ne (ne0 b o e)]
    exact I.base.free b o e n hx
  · obtain ⟨m, e1⟩ := I.base.tbls b ps e
    exact ⟨m, up e1⟩
  · rw [upd_ne (Ne.symm hL)]
    exact I.free
  · have hc : c ≠ a := fun z => by
      obtain ⟨v, o, ho, hc⟩ := I.cell x c e
      rw [z, ha] at ho
      cases ho
      rw [hd] at hc
      cases hc
    rw [upd_ne hc]
    exact I.freeC x c e
  · obtain ⟨e1, e2, e3⟩ := I.pin p q
    exact ⟨e1, by rw [upd_ne (hp p q)]; exact e2, e3⟩
  · by_cases hb : b = a
    · subst hb
      rw [upd_same] at e
      cases e
      exact heldX_ok ha hz hd
    · rw [upd_ne hb] at e
      exact (I.hok b u e).stay (fun c v _ q => q) (fun c q => up q) fun c xs q => up q
end
/-- what the clause 'except x as n' wishes where the error is held behind the suite -/
def wHold (K : PySem.W.Frag) (n : Nat) (c : Value) (i : Nat) (ts : Addr → Value → Option Addr → TS) (Wout : WX) (D : Ends) : WX := fun cls d σ H => σ.length = n →
  ∃ b, PySem.W.exmOne K cls c = some b ∧ (b = true → ∀ a, H a = none → ts a cls d { nx := fun σ' H' => D.nx (σ'.set i none) (upd H' a (HeldX cls d a)), rt := fun _ _ => False, bk := fun _ _ => False, ct := fun _ _ => False } (σ.set i (some (.ref a))) H) ∧
    (b = false → Wout cls d σ H)
section
variable {X : Cx} {x n : Str} {c : Value} {i : Nat} {body suite : List Stmt} {b₀ : Stmt} {np pos pos' : Pos} {tb : WX → TS} {ts : Addr → Value → Option Addr → TS} {Wout : WX}
theorem ps_try_hold (hs : X.stack = X.env :: X.outer) (hf : X.env.frame = some X.env.locals) (hx : X.ex = []) (hN : X.N.Nodup) (hi : X.N[i]? = some n) (hln : X.env.kindOf n = some .local) (hc : Names X x c) (tk : Takes X Wout)
    (hb : ∀ (W : WX) (pn : List (Addr × Obj)) (xe : Value → Shared → Prop), Takes (X.tr pn xe) W → PassesOwn (model X.prog X.w) X.A X.env xe → PSs (X.tr pn xe) body (tb W))
    (hsu : ∀ (a : Addr) (oe : Obj) (cls : Value) (d : Option Addr) (pn : List (Addr × Obj)), Zc cls d oe → (∃ vs, oe.data = .fields vs) → PSs (X.suite a ((a, oe) :: pn)) (b₀ :: suite) (ts a cls d)) :
    PS X (.Try body [.ExceptHandler (some (.Name x np)) (some n) (b₀ :: suite) pos'] [] [] pos) (fun D σ H => tb (wHold X.K X.N.length c i ts Wout D) D σ H) := by
  refine ⟨fun pins s σ H D I h => ?_⟩
  have ok := I.ok
  have hfr : X.A.frames = some (X.env :: X.outer) := by rw [ok.frames, hs]
  have hloc : Loc X.env.scope n := .inl hln
  refine wpAny_Try_except ?_
  refine wpAny_mono ((hb (wHold X.K X.N.length c i ts Wout D) (X.pn ++ pins) (fun e s₁ => wpAny (model X.prog X.w) X.A (noteFrame e X.env) (fun _ s₂ => wpAny (model X.prog X.w) X.A (setFlight e none) (fun _ s₃ =>
    wpAny (model X.prog X.w) X.A (handleBy e X.env [.ExceptHandler (some (.Name x np)) (some n) (b₀ :: suite) pos']) (SP X pins D) X.xe s₃) X.xe s₂) X.xe s₁) (fun u s' xx => ?_) PassesOwn.looking).run [] s σ H D (I.toTry _) h) (fun f s1 hsp => ?_) (fun e s1 he => he)
  · -- the catch
    obtain ⟨a, B, sI, pins', σ', H', cls, d, rfl, J', nb, up, sky, na, os, ag, hW⟩ := xx
    obtain ⟨b, hb1, hyes, hno⟩ := hW J'.len
    have J : Inv X pins σ' H' sI := J'.ofTry ok
    have sky' : Sky B (X.env :: X.outer) a (Zc cls d) X.env.locals s'.heap := by rw [← hs]; exact sky
    show wpAny (model X.prog X.w) X.A (noteFrame (.ref a) X.env) _ _ _
    refine Sky.land Zc.steady hfr hf sky' fun h3 fl3 up3 => ?_
    have J3 : Inv X pins σ' H' { s' with heap := h3 } := J.landed nb fl3.1 (up.trans up3) os ag
    obtain ⟨oe3, vs3, he3, hz3, hd3⟩ := fl3.there
    have notFr : ∀ {h : Heap} {o : Obj} {vs : Array Value}, h.FunFrames B (X.env :: X.outer) → h.get? a = some o → o.data = .fields vs → a ∉ frs (X.env :: X.outer) := fun {h o vs} ff e dd hm => by
      obtain ⟨_, o', e', hnf⟩ := ff.mem hm
      rw [e] at e'; cases e'
      exact hnf _ dd
    have nfr := notFr fl3.2.2.1 he3 hd3
    have nL : a ≠ X.env.locals := fun z => nfr (List.mem_filterMap.mpr ⟨X.env, List.mem_cons_self, by rw [hf, z]⟩)
    have nF : a ∉ X.fs := fun hm => by
      obtain ⟨e, he, q⟩ := List.mem_filterMap.mp hm
      exact nfr (List.mem_filterMap.mpr ⟨e, List.mem_cons_of_mem _ he, q⟩)
    have nfs : a ∉ frs X.stack := by rw [hs]; exact nfr
    have nI : sI.heap.get? a = none := by
      cases e : sI.heap.get? a with
      | none => rfl
      | some o =>
        have z := nb a o e nfs
        rw [fl3.2.1] at z
        cases z
    have n0 : X.s_0.heap.get? a = none := by
      cases e : X.s_0.heap.get? a with
      | none => rfl
      | some o =>
        obtain ⟨o', e'⟩ := J.base.there a o e (by rw [hx]; exact fun z => nomatch z)
        rw [nI] at e'
        cases e'
    have npin : ∀ p ∈ X.pn ++ pins, p.1 ≠ a := fun p hp z => by
      obtain ⟨e1, _⟩ := J.pin p hp
      rw [z, nI] at e1
      cases e1
    have S3 := J3.suite he3 hd3 na nL nF
    refine wpAny_handleBy_cons (codeAny_handlers_test ?_) (by intro q; cases q)
    have LT : PySem.W.Looks (model X.prog X.w) h3 (typeOf (.ref a)) cls := fun A Q E s k q => wpAny_typeOf_ref (k _ _ he3) (by rw [hz3.1]; exact q)
    have LM := PySem.W.exm_one (M := model X.prog X.w) (J3.kIn) LT hb1
    have test : ∀ {Q : Value → Shared → Prop} {E : Value → Shared → Prop}, Q c { s' with heap := h3 } → wpAny (model X.prog X.w) (X.A.mark (some (.ref a))) (eval (.Name x np) X.env) Q E { s' with heap := h3 } := fun {Q E} q => by
      obtain ⟨hg, hdbg, hm | ⟨hm, hv, hnn⟩⟩ := hc
      · exact ld_glob (X := X.suite a ((a, oe3) :: (X.pn ++ pins))) S3 hg hm q hdbg
      · exact ld_blt (X := X.suite a ((a, oe3) :: (X.pn ++ pins))) S3 hg hm hv q hnn hdbg
    refine test (LM.here ?_)
    cases b with
    | true =>
      refine codeAny_handlers_suite_as ?_
      refine HandSPX.lands_againZ fl3 fun h4 fl4 up4 => ?_
      have J4 : Inv X pins σ' H' { s' with heap := h4 } := J.landed nb fl4.1 ((up.trans up3).trans up4) os ag
      obtain ⟨oe4, vs4, he4, hz4, hd4⟩ := fl4.there
      have S4 := J4.suite he4 hd4 na nL nF
      refine store_ok (X := X.suite a ((a, oe4) :: (X.pn ++ pins))) (v := .ref a) S4 hN hi hloc rfl (fun s5 S5 => ?_) (.inr hln)
      refine wpAny_mono ((hsu a oe4 cls d (X.pn ++ pins) hz4 ⟨_, hd4⟩).run [] s5 _ H' _ S5 (hyes rfl a na)) (fun f s6 hsp => ?_) (fun _ _ z => False.elim z)
      cases f with
      | next =>
        obtain ⟨σ6, H6, S6, q6⟩ := hsp
        have fin : wpAny (model X.prog X.w) X.A (do bindName X.env n .none; unbindBehindTheSuite X.env n pos') (fun _ s7 => SP X pins D .next s7) X.xe s6 := by
          refine gone_ok (X := X.suite a ((a, oe4) :: (X.pn ++ pins))) (i := i) S6 hN hi hln fun s7 S7 => ?_
          obtain ⟨e7, n7, _⟩ := S7.pin (a, oe4) (List.mem_append_left _ List.mem_cons_self)
          exact ⟨_, _, inv_hold (S7.unsuite ok) e7 hz4 hd4 n0 n7 nL npin, q6⟩
        exact fin
      | brk =>
        obtain ⟨σ6, H6, S6, q6⟩ := hsp
        exact q6.elim
      | cont =>
        obtain ⟨σ6, H6, S6, q6⟩ := hsp
        exact q6.elim
      | ret u =>
        obtain ⟨v6, σ6, H6, S6, r6, q6⟩ := hsp
        exact q6.elim
    | false =>
      show wpAny _ X.A (handleBy (.ref a) X.env []) _ _ _
      refine wpAny_handleBy_nil ?_
      obtain ⟨k1, k2, k3, oe, vs, T, oT, ts', he, hz, hd, h1, hr⟩ := id fl3
      unfold PySem.passOn
      refine wpAny_bind (wpAny_field he hd h1 ?_)
      rw [if_neg (show ¬ ((Value.ref T == Value.none) = true) from by simp)]
      have fin : wpAny (model X.prog X.w) X.A (setFlight (.ref a) X.env.frame) (fun _ s4 => wpAny (model X.prog X.w) X.A (throw (.ref a) : Sem Flow) (SP X pins D) X.xe s4) X.xe { s' with heap := h3 } := by
        rw [hf]
        refine HandSPX.setFlight_upZ fl3 fun h4 hh4 up4 => wpAny_throw (tk _ _ ?_)
        exact ⟨a, B, sI, pins, σ', H', cls, d, rfl, J, nb, (up.trans up3).trans up4, .inr (.inr (by rw [hs]; exact hh4)), na, os, ag, hno rfl⟩
      first
        | exact wpAny_bind (wpAny_pure (wpAny_bind fin))
        | exact wpAny_bind fin
  · cases f with
    | next =>
      obtain ⟨σ', H', J', q⟩ := hsp
      exact wpAny_execs_nil ⟨σ', H', J'.ofTry ok, q⟩
    | brk =>
      obtain ⟨σ', H', J', q⟩ := hsp
      exact ⟨σ', H', J'.ofTry ok, q⟩
    | cont =>
      obtain ⟨σ', H', J', q⟩ := hsp
      exact ⟨σ', H', J'.ofTry ok, q⟩
    | ret u =>
      obtain ⟨v, σ', H', J', r, q⟩ := hsp
      exact ⟨v, σ', H', J'.ofTry ok, r, q⟩
end
/-- a held error's dict, as far as it is known -/
def DOk (H : Hp) (d : Option Addr) : Prop := d = none ∨ ∃ dd fs, d = some dd ∧ H dd = some (.xd fs)
/-- isinstance(e, c), e a held error of the class at D -/
def rIsH (K : PySem.W.Frag) : List V → Hp → VK → Prop := fun xs H Q => ∃ (a D : Addr) (d : Option Addr) (c : V) (cv : Value) (b : Bool), xs = [.ref a, c] ∧ H a = some (HeldX (.ref D) d a) ∧ DOk H d ∧ ExcC K D ∧
  (∀ u, RelV c u → u = cv) ∧ PySem.W.kitOne K (.ref D) cv = some b ∧ Q (.bl b) H
theorem call_isH {X : Cx} : CallR X (.builtin "isinstance") (rIsH X.K) := by
  intro pins s σ H xs us Q I r h
  obtain ⟨a, D, d, c, cv, b, rfl, hH, hd, C, hcv, e, q⟩ := h
  cases r with
  | cons rx rr =>
    cases rr with
    | cons rt rr =>
      cases rr
      cases rx
      have ec := hcv _ rt
      subst ec
      obtain ⟨oe, vs, hget, hz, hv⟩ := heldX_at I.hok hH
      obtain ⟨od, J⟩ : ∃ od, PySem.W.InstAt s.heap a oe D od := by
        obtain ⟨oc, odd, oda, osl⟩ := oe
        obtain ⟨h1, h2⟩ := hz
        dsimp only at h1 h2 hv
        subst h1 h2 hv
        rcases hd with z | ⟨dd, fs, z, hdd⟩
        · subst z
          exact ⟨none, hget, rfl, rfl, trivial⟩
        · subst z
          have hx : ObjOk X.prog X.w H s.heap dd (.xd fs) := I.hok dd _ hdd
          obtain ⟨mA, hns, hr⟩ := hx
          obtain ⟨od, ho, hl⟩ := lookIn_ns hns
          exact ⟨some od, hget, rfl, rfl, ho⟩
      have hcl : (PySem.W.clsIn X.K D).isSome = true := by
        obtain ⟨cd, hc, _⟩ := PySem.W.any_some C.hd
        rw [hc]; rfl
      exact PySem.W.kia_one (PySem.W.kitx_exc hcl C.hg C.hk C.hs C.ha C.hn C.ht C.hm) I.kIn J e (fun z => nomatch z) fun tk => ⟨.bl b, H, I.kept (t' := tk) fun _ _ z => z, rfl, q⟩
/-- e.n of a held error -/
def tHf (K : PySem.W.Frag) (n : Str) (te : TE) : TE := fun σ H Q => te σ H fun x H1 => ∃ (a C dd : Addr) (fs : List (Str × V)) (v : V), x = .ref a ∧ H1 a = some (HeldX (.ref C) (some dd) a) ∧ XfC K C ∧ PySem.W.findIn K (.ref C) n = some none ∧ H1 dd = some (.xd fs) ∧ fs.lookup n = some v ∧ Q v H1
theorem pe_hf {X : Cx} {e : Expr} {te : TE} {pos : Pos} {n : Str} (he : PE X e te) (hb : attributeBase e n X.env (eval e X.env) = eval e X.env := by rfl) : PE X (.Attribute e n pos) (tHf X.K n te) := by
  refine ⟨fun pins s σ H Q I h => ?_⟩
  refine attr_of hb (thn (he.run pins s σ H _ I h) fun u s1 hh => ?_)
  obtain ⟨x, H1, I1, rx, a, C, dd, fs, v, ex, ha, T, hno, ea, l, q⟩ := hh
  subst ex
  obtain rfl : u = Value.ref a := rx
  obtain ⟨oe, vs, hget, hz, hd⟩ := heldX_at I1.hok ha
  have hx : ObjOk X.prog X.w H1 s1.heap dd (.xd fs) := I1.hok dd _ ea
  obtain ⟨mA, hns, hr⟩ := hx
  obtain ⟨od, ho, hl⟩ := lookIn_ns hns
  obtain ⟨u, hu, ru⟩ := RelO.some_of (v := v) (o := mA n) (by rw [← l]; exact hr n)
  have J : PySem.W.InstAt s1.heap a oe C (some od) := ⟨hget, hz.1, by unfold PySem.W.notCls; rw [hd] <;> rfl, by rw [hz.2]; exact ho⟩
  exact HandSPX.exc_get I1.kIn J T.ga T.gg T.exC (PySem.W.findObj_own T.hdC hno rfl (by rw [hl, hu])) (handed_of ru) ⟨v, H1, I1.tok _, ru, q⟩
end Sn
/-! An own error's __init__ that says super().__init__(text) and keeps one field -/
namespace Sn
open Evl (Ex)
open PySem PySem.Spec PyProof.Rows PySem.W L2
/-- def __init__(self, n): super().__init__(m); self.n = n -/
structure SupI (P : Program) (K : PySem.W.Frag) (mg : Str → Option Value) (qual : Str) (st : Stmt) (n : Str) (C f : Addr) (fd : FuncData) : Prop where
  ex : ∃ (oc : Value) (od : Option Addr) (dV kV doc pm : Value) (an : Option Addr) (cda : Addr) (ct : Value) (osl : Array (Option Value)) (cc : Addr) (cl : Value) (cld : Option Addr) (csl : Array (Option Value)) (ccl : Value) (cdd : Option Addr) (ccs : Array (Option Value)) (vs : Array Value) (file : Str) (tf : Tok),
    fd = ksFn "__init__" qual (defArgs st) (defBody st) (defScope st) dV kV doc pm an (.ref cda) ct cc ∧ K.lookup f = some ⟨oc, od, .func fd, osl⟩ ∧ codeIn K (.ref cda) qual = true ∧ K.lookup cda = some ⟨ccl, cdd, .fields vs, ccs⟩ ∧
    vs[2]? = some (.str file tf) ∧ ((P.main.file : Str) == file) = true ∧ K.lookup cc = some ⟨cl, cld, .cell (some (.ref C)), csl⟩
  along : ks_superIn K C C "__init__" = some (some (.builtin "ValueError.__init__"))
  op : nsIn K cStatics "thirdparty.any" = some none
  self : mroIn K C (.ref C) = some true
  subVE : subIn K (.ref C) (.type "ValueError") = some true
  top : (P.main.scope.names.lookup ("super" : Str)).isSome = false
  mgs : mg "super" = none
  T : OexC K C
  no : findIn K (.ref C) n = some none
structure SupS (n : Str) (st : Stmt) : Prop where
  kind : (defScope st).kind = .function
  co : (defScope st).isCoroutine = false
  gen : (defScope st).isGenerator = false
  nocell : ∀ x ∈ (defScope st).names, x.2 ≠ .cell
  sup : (defScope st).names.lookup ("super" : Str) = some .globalImplicit
  cls : (defScope st).names.lookup ("__class__" : Str) = some .free
  slf : (defScope st).names.lookup ("self" : Str) = some .local
  fld : (defScope st).names.lookup n = some .local
  free : ∀ y ∈ (defScope st).names, y.2 = .free → y.1 = ("__class__" : Str)
  hd : ∃ ar : Arg, ((defArgs st).posonlyargs ++ (defArgs st).args).head? = some ar ∧ ar.arg = ("self" : Str)
  body : ∃ (m : Str) (j : Nat) (p0 p1 p2 p3 p4 p5 p6 p7 p8 p9 : Pos), defBody st = [.Expr (.Call (.Attribute (.Call (.Name "super" p0) [] [] p1) "__init__" p2) [.Constant (.str m) j p3] [] p4) p5, .Assign [.Attribute (.Name "self" p6) n p7] (.Name n p8) p9] ∧
    (∃ pl : Env → Sem Bool, ∀ env, eval (.Call (.Attribute (.Call (.Name "super" p0) [] [] p1) "__init__" p2) [.Constant (.str m) j p3] [] p4) env = (do
      let ov ← attributeBase (.Call (.Name "super" p0) [] [] p1) "__init__" env (eval (.Call (.Name "super" p0) [] [] p1) env)
      standAt p2.atName
      let (f, first) ← holding [ov] (getMethod ov "__init__" (pl env))
      callWith p4 f first (backTo p4 (starEach [.Constant (.str m) j p3] env)) [])) ∧
    ∀ env, swapsWith (.Name n p8) (some (.Attribute (.Name "self" p6) n p7)) p9.line env = pure false
  nd : ([("self" : Str), n] : List Str).Nodup
  ndb : (n == ("__debug__" : Str)) = false
  ncd : (n == ("__classdict__" : Str)) = false
def spSup (C : Addr) (n : Str) : Sp := fun vs H Q _ => ∃ (a : Addr) (y : V), vs = [.ref a, y] ∧ H a = some (exo a C none) ∧
  ∀ dx, H dx = none → dx ≠ a → Q .non (upd (upd H dx (exd dx [(n, y)])) a (exo a C (some dx)))
def supCx (CX : CXT) (P : Program) (w : World) (K : PySem.W.Frag) (mg : Str → Option Value) (base : Heap) (n qual : Str) (scope : Scope) (f cda cc : Addr) (A : Around) (outer : List Env) (s : Shared) (H : Hp) (E : XK) : Cx where
  prog := P
  w := w
  K := K
  mg := mg
  base := base
  A := A.deeper (ksEnv qual scope s.heap.objs.size f (.ref cda) cc)
  N := ["self", n]
  s_0 := s
  H_0 := H
  env := ksEnv qual scope s.heap.objs.size f (.ref cda) cc
  outer := outer
  stack := ksEnv qual scope s.heap.objs.size f (.ref cda) cc :: outer
  ex := []
  fn := fun _ => false
  calm := true
  pn := []
  xe := fun e s' => wpAny (model P w) (A.deeper (ksEnv qual scope s.heap.objs.size f (.ref cda) cc)) (leaving (ksEnv qual scope s.heap.objs.size f (.ref cda) cc) e) (fun _ s'' => CX outer H s E e s'') (fun e' s'' => CX outer H s E e' s'') s'
section
variable {P : Program} {w : World} {K : PySem.W.Frag} {mg : Str → Option Value} {base : Heap} {CX : CXT}
theorem sup_start {n qual : Str} {st : Stmt} {f cda cc : Addr} {A : Around} {outer : List Env} {s : Shared} {H : Hp} {E : XK} {h₁ : Heap} {tk : Nat} {a : Addr} {y : V} {u : Value} {D : Addr} {cl : Value} {cld : Option Addr} {csl : Array (Option Value)} (S : SupS n st) (hd : A.handled = none) (e0 : Env0 P w K mg base A outer s H)
    (hcc : K.lookup cc = some ⟨cl, cld, .cell (some (.ref D)), csl⟩) (ry : RelV y u)
    (hns : h₁.Ns s.heap.objs.size fun x => (([("self" : Str), n] : List Str).zip [Value.ref a, u]).reverse.lookup x) (kp : ∀ b o, s.heap.get? b = some o → h₁.get? b = some o) :
    Inv (supCx CX P w K mg base n qual (defScope st) f cda cc A outer s H E) [] [some (.ref a), some y] H { s with heap := h₁, toks := tk } := by
  have noA : ∀ b : Addr, b ∉ (supCx CX P w K mg base n qual (defScope st) f cda cc A outer s H E).ex := fun b z => absurd (show b ∈ ([] : List Addr) from z) (by simp)
  have one : ∀ {x c}, ([(("__class__" : Str), cc)] : List (Str × Addr)).lookup x = some c → x = "__class__" ∧ c = cc := fun {x c} e => by
    have := PySem.mem_of_lookup e
    simpa using this
  have hcb := e0.mod.kin _ _ hcc
  have ncs : n ≠ ("self" : Str) := fun z => by
    have := S.nd
    rw [z] at this
    exact absurd this (by decide)
  refine ⟨⟨e0.mod, S.kind, rfl, rfl, Nat.le_refl _, fun x z c e1 e2 => ?_, fun x hx => ?_, fun x c z _ => ?_, fun _ => hd, Around.frames_deeper e0.frames, .inr ⟨rfl, rfl⟩, fun b z => absurd z (noA b), e0.bs, e0.bsz, fun b _ _ => noA b, fun b z => absurd z (noA b), e0.funs, e0.frf⟩,
    rfl, e0.bare, Un.kept kp, ⟨_, hns, fun i x v e1 e2 e3 => ?_⟩, fun x c e => ?_, e0.hok.fresh (Nat.le_refl _), fun x c e => ?_, fun q hq => absurd (show q ∈ ([] : List (Addr × Obj)) ++ [] from hq) (by simp), e0.hok.kept kp, rfl⟩
  · exact (one e1).1.trans (one e2).1.symm
  · have hx : (defScope st).names.lookup x = some .cell ∨ (defScope st).names.lookup x = some .free := hx
    rcases hx with hx | hx
    · exact absurd rfl (S.nocell _ (PySem.mem_of_lookup hx))
    · have e := S.free _ (PySem.mem_of_lookup hx) rfl
      have e : x = "__class__" := e
      rw [e]
      exact ⟨cc, rfl⟩
  · have z : false = true := z
    cases z
  · match i, e1, e2 with
    | 0, e1, e2 =>
      obtain rfl : ("self" : Str) = x := Option.some.inj e1
      obtain rfl : V.ref a = v := Option.some.inj (Option.some.inj e2)
      refine ⟨.ref a, rfl, .inl ⟨S.slf, ?_⟩⟩
      show List.lookup ("self" : Str) [(n, u), (("self" : Str), Value.ref a)] = _
      rw [List.lookup_cons, show (("self" : Str) == n) = false from by simp [Ne.symm ncs]]
      rfl
    | 1, e1, e2 =>
      obtain rfl : n = x := Option.some.inj e1
      obtain rfl : y = v := Option.some.inj (Option.some.inj e2)
      refine ⟨u, ry, .inl ⟨S.fld, ?_⟩⟩
      show List.lookup n [(n, u), (("self" : Str), Value.ref a)] = _
      rw [List.lookup_cons, beq_self_eq_true]
    | i + 2, e1, e2 => cases e1
  · have := one e
    rw [this.2]
    exact ⟨_, _, kp _ _ (e0.bs _ _ hcb).1, rfl⟩
  · have := one e
    rw [this.2]
    exact (e0.bs _ _ hcb).2
/-- super().__init__(text) -/
theorem sup_first {A : Around} {outer : List Env} {s₀ : Shared} {H₀ : Hp} {E₀ : XK} {pins : List (Addr × Obj)} {σ : L2.St} {H : Hp} {s : Shared} {n qual : Str} {st : Stmt} {C f cda cc a : Addr} {fd : FuncData} {m : Str} {j : Nat} {p0 p1 p2 p3 p4 p5 : Pos} {body : List Stmt} {E : Value → Shared → Prop}
    (F : SupI P K mg qual st n C f fd) (S : SupS n st) (hpl : ∃ pl : Env → Sem Bool, ∀ env, eval (.Call (.Attribute (.Call (.Name "super" p0) [] [] p1) "__init__" p2) [.Constant (.str m) j p3] [] p4) env = (do
      let ov ← attributeBase (.Call (.Name "super" p0) [] [] p1) "__init__" env (eval (.Call (.Name "super" p0) [] [] p1) env)
      standAt p2.atName
      let (f, first) ← holding [ov] (getMethod ov "__init__" (pl env))
      callWith p4 f first (backTo p4 (starEach [.Constant (.str m) j p3] env)) [])) (hσ : σ[0]? = some (some (.ref a)))
    {dV kV doc pm ct : Value} {an : Option Addr} {oc : Value} {od : Option Addr} {osl : Array (Option Value)} {cl : Value} {cld : Option Addr} {csl : Array (Option Value)} {ccl : Value} {cdd : Option Addr} {ccs : Array (Option Value)} {vs : Array Value} {file : Str} {tf : Tok}
    (efd : fd = ksFn "__init__" qual (defArgs st) (defBody st) (defScope st) dV kV doc pm an (.ref cda) ct cc) (lk : K.lookup f = some ⟨oc, od, .func fd, osl⟩) (hcode : K.lookup cda = some ⟨ccl, cdd, .fields vs, ccs⟩) (hvs : vs[2]? = some (.str file tf))
    (hfile : ((P.main.file : Str) == file) = true) (hcell : K.lookup cc = some ⟨cl, cld, .cell (some (.ref C)), csl⟩)
    (I : Inv (supCx CX P w K mg base n qual (defScope st) f cda cc A outer s₀ H₀ E₀) pins σ H s) (hH : H a = some (exo a C none)) :
    _root_.PySem.wpAt (model P w) (A.deeper (ksEnv qual (defScope st) s₀.heap.objs.size f (.ref cda) cc)) (.func body (ksEnv qual (defScope st) s₀.heap.objs.size f (.ref cda) cc)) (exec (.Expr (.Call (.Attribute (.Call (.Name "super" p0) [] [] p1) "__init__" p2) [.Constant (.str m) j p3] [] p4) p5) (ksEnv qual (defScope st) s₀.heap.objs.size f (.ref cda) cc)) (fun fl s' => fl = .next ∧ Inv (supCx CX P w K mg base n qual (defScope st) f cda cc A outer s₀ H₀ E₀) pins σ H s') E s := by
  obtain ⟨nm, qn, N, bs, bm, sn, sub, ab, col, dd, k0, k1, k2, k3, k5, hC, hbm⟩ := F.T.cls
  obtain ⟨t1, ho⟩ := exo_at I.hok hH
  have KX : K.In s.heap := I.kIn
  obtain ⟨ar, har, ear⟩ := S.hd
  obtain ⟨cdC, hcd⟩ : ∃ cd, clsIn K C = some cd := by
    have := F.along
    unfold ks_superIn at this
    cases e : clsIn K C with
    | none => rw [e] at this; cases this
    | some cd => exact ⟨cd, rfl⟩
  obtain ⟨oD, hD1, hD2⟩ : ∃ oD, s.heap.get? C = some oD ∧ oD.data = .cls cdC := by
    have hD := hcd
    unfold clsIn at hD
    split at hD
    · rename_i c d cd' sl ho
      cases hD
      exact ⟨_, KX _ _ ho, rfl⟩
    · cases hD
  have Ia : InstAt s.heap a ({ cls := .ref C, dict := none, data := .fields #[.ref t1, .none, .none, .none, .bool false, .none] } : Obj) C none := ⟨ho, rfl, rfl, trivial⟩
  have nC := ks_ne KX Ia hcd
  obtain ⟨mb, hb1, hb2⟩ := I.mod.blt
  obtain ⟨pl, hpl⟩ := hpl
  refine ks_wpAt_Expr_any (ks_wpAt_MethodCall ?_ (hpl _)) (hi := by unfold interactive; rw [show (ksEnv qual (defScope st) s₀.heap.objs.size f (.ref cda) cc).scope.kind = .function from S.kind]; rfl)
  refine ks_wpAt_super_base (f := f) (cc := cda) (fd := fd) (ar := ar) S.sup S.cls (by decide +kernel) rfl (KX _ _ lk) rfl (by rw [efd]; exact har) rfl (KX _ _ hcode) rfl hvs hfile F.top ?_
  refine ks_loadName_global S.kind S.sup (Calls.loadGlobal_builtin (I.mod.glob.keeps I.bk) F.mgs (hb1.keeps I.bk) ((hb2 "super" (by decide)).trans (show bootBuiltins "super" = some (.type "super") from by kernel_rfl)) ⟨rfl, ?_⟩)
  refine wpAny_loadName_free S.kind S.cls rfl ⟨_, KX _ _ hcell, rfl⟩ ?_
  obtain ⟨mL, hnL, hlk⟩ := id I.loc
  obtain ⟨u0, ru, q0⟩ := hlk 0 "self" (.ref a) rfl hσ (.inl S.slf)
  obtain rfl : u0 = Value.ref a := ru
  have hml : mL ar.arg = some (.ref a) := by
    rw [ear]
    rcases q0 with ⟨_, e⟩ | ⟨_, c, e, _⟩
    · exact e
    · have e : List.lookup ("self" : Str) [(("__class__" : Str), cc)] = some c := e
      have z := PySem.mem_of_lookup e
      rw [List.mem_singleton] at z
      exact absurd (show ("self" : Str) = "__class__" from congrArg Prod.fst z) (by decide)
  refine wpAny_loadName_local S.kind (by rw [ear]; exact S.slf) hnL hml ?_
  refine ks_wpAny_isType_cls hD1 hD2 ⟨rfl, ?_⟩
  obtain ⟨hp, g, d, t, os⟩ := s
  refine ks_wpAny_call_super hD1 hD2 Ia.at_ Ia.cls (fun c e => by cases e) (looks_mroIn KX F.self) (fun h1 e1 kp1 => ?_)
  have I1 : Inv (supCx CX P w K mg base n qual (defScope st) f cda cc A outer s₀ H₀ E₀) pins σ H ⟨h1, g, d, t, os⟩ := I.kept (t' := t) kp1
  have KX1 : K.In h1 := I1.kIn
  obtain ⟨t2, ho1⟩ := exo_at I1.hok hH
  have Ia1 : InstAt h1 a ({ cls := .ref C, dict := none, data := .fields #[.ref t2, .none, .none, .none, .bool false, .none] } : Obj) C none := ⟨ho1, rfl, rfl, trivial⟩
  have hal : alongIn K "__init__" ((cdC.mro.dropWhile (· != .ref C)).drop 1) = some (some (.builtin "ValueError.__init__")) := by
    have := F.along
    unfold ks_superIn at this
    rw [hcd] at this
    exact this
  refine kxs_getMethod kxs_ValueError e1 (looks_opaque KX1 F.op) (l₀ := cdC.mro) (fun A Q E s k q => wpAny_bind ((looks_clsIn KX1 hcd) A _ E s k (wpAny_pure q))) rfl KX1 hal (Ia1.type.andThen (looks_subIn KX1 F.subVE)) nC (by decide +kernel) ?_
  have kp2 : ∀ b o, h1.get? b = some o → (h1.push (kxs_mw "ValueError.__init__" a)).get? b = some o := fun b o e => Heap.get?_push_of_some _ e
  have I2 : Inv (supCx CX P w K mg base n qual (defScope st) f cda cc A outer s₀ H₀ E₀) pins σ H ⟨h1.push (kxs_mw "ValueError.__init__" a), g, d, t + 1, os⟩ := I1.kept (t' := t + 1) kp2
  have hu : (h1.push (kxs_mw "ValueError.__init__" a)).get? h1.objs.size = some (kxs_mw "ValueError.__init__" a) := Heap.get?_push_at rfl rfl
  show wpAny _ _ (callWith p4 (.ref h1.objs.size) [] (backTo p4 (starEach [.Constant (.str m) j p3] _)) []) _ _ _
  refine kxs_callWith (i := "ValueError.__init__") (x := a) rfl (Calls.evalArgs_plain ?_)
  have ha : PA (supCx CX P w K mg base n qual (defScope st) f cda cc A outer s₀ H₀ E₀).nox [.Constant (.str m) j p3] (tCons (tC (.str m)) tNil) := pa_cons pe_str pa_nil
  refine wpAny_mono (ha.run p4 ((h1.objs.size, kxs_mw "ValueError.__init__" a) :: pins) _ σ H (fun vs H1 => vs = [V.str m] ∧ H = H1) (Inv.wish ⟨I2.ok, I2.os, I2.bare, I2.base, I2.loc, I2.cell, I2.free, I2.freeC, fun q hq => ?_, I2.hok, I2.len⟩ _) ⟨rfl, rfl⟩) (fun us s3 hh => ?_) fun _ _ z => z.elim
  · rcases List.mem_cons.mp hq with e | hq
    · subst e
      refine ⟨hu, I1.hok.fresh (Nat.le_refl _), fun z => ?_, fun z => ?_, fun v z => by cases z⟩
      · have := I1.lt
        rw [← z] at this
        exact absurd this (Nat.lt_irrefl _)
      · exact I1.nofs (Nat.le_refl _) z
    · exact I2.pin q hq
  obtain ⟨vs3, H3, J3, r3, ev, eH⟩ := hh
  subst ev
  rw [← eH] at J3
  obtain ⟨hu3, _⟩ := J3.pin (h1.objs.size, kxs_mw "ValueError.__init__" a) (List.mem_append_right _ List.mem_cons_self)
  have I3 : Inv (supCx CX P w K mg base n qual (defScope st) f cda cc A outer s₀ H₀ E₀) pins σ H s3 := by
    have z := J3.unwish
    exact ⟨z.ok, z.os, z.bare, z.base, z.loc, z.cell, z.free, z.freeC, fun q hq => z.pin q (List.mem_cons_of_mem _ hq), z.hok, z.len⟩
  refine ⟨hu3, ?_⟩
  cases r3 with
  | cons ru rn =>
    rename_i um us'
    cases rn
    show wpAny _ _ (call (.ref h1.objs.size) [um] []) _ _ _
    obtain ⟨t3, ho3⟩ := exo_at I3.hok hH
    have KX3 : K.In s3.heap := I3.kIn
    have hC3 := KX3 _ _ hC
    obtain ⟨hp3, g3, d3, tk3, os3⟩ := s3
    refine wpAny_call (codeAny_of_tree ?_)
    show wpAny _ _ (callAny (.ref h1.objs.size) ⟨[um], []⟩) _ _ _
    simp only [callAny]
    refine wpAny_bind (wpAny_load hu3 ?_)
    simp only [kxs_mw, show (Value.type "method-wrapper" == Value.type "method" || Value.type "method-wrapper" == Value.type "builtin_function_or_method" || Value.type "method-wrapper" == Value.type "method-wrapper") = true by decide, if_true]
    refine KFB.if_so (by decide) ?_
    refine wpAny_bind (check_bound_init _root_.PySem.F.excBase_ValueError.toExcCallFacts hC3 ho3 rfl ?_)
    refine wpAny_bind (wpAny_pure (wpAny_pure ?_))
    refine ⟨plainId_quiet _root_.PySem.F.excBase_ValueError.init.plain _, codeAny_builtin _root_.PySem.F.excBase_ValueError.initEntry ?_⟩
    refine exc_init_tree (cls := .ref C) (t0 := t3) (dv := none) (c2 := .none) (c3 := .none) (b4 := .bool false) ho3 (by show 1 ≤ sizeLine; rw [sizeLine_eq]; omega) fun h' k e' t' => ?_
    have J := I3.write (t' := tk3) (x := a) (e := a) (o := exo a C none) (by rw [hH]; exact True.intro) (.inl rfl) k ⟨_, e'⟩ (exo_ok e')
    have eu : upd H a (exo a C none) = H := by
      funext b
      by_cases hb : b = a
      · rw [hb, upd_same, hH]
      · rw [upd_ne hb]
    rw [eu] at J
    exact ⟨trivial, J⟩
theorem SupI.ok {n qual : Str} {st : Stmt} {C f : Addr} {fd : FuncData} {k : Nat} (F : SupI P K mg qual st n C f fd) (S : SupS n st) : FnOk P w K mg base CX k f fd ["self", n] (spSup C n) := by
  refine ⟨fun vs H Q E h => ?_, fun A outer s H args us vs Q E hr e0 hb r h => ?_⟩
  · obtain ⟨_, _, rfl, _⟩ := h
    rfl
  obtain ⟨a, y, rfl, hH, hQ⟩ := h
  cases r with
  | cons ra rr =>
    cases rr with
    | cons ry rr =>
      cases rr
      rename_i ua u
      obtain rfl : ua = Value.ref a := ra
      obtain ⟨oc, od, dV, kV, doc, pm, an, cda, ct, osl, cc, cl, cld, csl, ccl, cdd, ccs, vs, file, tf, efd, lk, hcd, hcode, hvs, hfile, hcell⟩ := F.ex
      have KX : K.In s.heap := e0.mod.kin.keeps fun b o e => (e0.bs b o e).1
      have lim : s.heap.NoLimit := e0.mod.nolimit.keeps fun b o e => (e0.bs b o e).1
      have lk' := lk
      rw [efd] at lk' hb
      refine ks_codeAny_call_defAt (body := defBody st) (binds := ([("self" : Str), n] : List Str).zip [Value.ref a, u]) hr.depth (KX _ _ lk') rfl lim (PySem.W.codeRec_of KX hcd) rfl hb S.nocell (fun x hx => ?_) (fun h₁ hns kp => ?_) S.co S.gen S.kind
      · rcases List.mem_cons.mp hx with e | hx
        · subst e; exact S.slf
        · rcases List.mem_cons.mp hx with e | hx
          · subst e; exact S.fld
          · cases hx
      have J : Inv (supCx CX P w K mg base n qual (defScope st) f cda cc A outer s H E) [] [some (.ref a), some y] H { s with heap := h₁, toks := s.toks + (([("self" : Str), n] : List Str).zip [Value.ref a, u]).length } := sup_start S hr.hd e0 hcell ry hns kp
      obtain ⟨m, j, p0, p1, p2, p3, p4, p5, p6, p7, p8, p9, hbody, hpl, hsw⟩ := S.body
      rw [hbody]
      refine ks_wpAt_execs_cons (_root_.PySem.wpAt_mono (sup_first (m := m) (p5 := p5) F S hpl rfl efd lk hcode hvs hfile hcell J hH) (fun fl s' hq => ?_) fun _ _ z => z)
      obtain ⟨rfl, J1⟩ := hq
      refine _root_.PySem.wpAt_of_wpAny ?_
      have hp : PSs (supCx CX P w K mg base n qual (defScope st) f cda cc A outer s H E) [.Assign [.Attribute (.Name "self" p6) n p7] (.Name n p8) p9] _ :=
        pss_one (ps_ost (pe_var (i := 0) rfl (.inl S.slf)) (pe_var (i := 1) rfl (.inl S.fld) S.ndb S.ncd) (hsw _))
      refine wpAny_mono (hp.run [] s' _ H { nx := fun _ H' => Q .non H', rt := Q } J1 ⟨y, rfl, .ref a, rfl, a, C, rfl, F.T, F.no, .inl ⟨hH, fun dx n1 n2 => hQ dx n1 n2⟩⟩) (fun fl s'' hs => ?_) fun e s'' hs => hs
      have fin : ∀ {σ' : L2.St} {H' : Hp} {v : V} {u : Value}, Inv (supCx CX P w K mg base n qual (defScope st) f cda cc A outer s H E) [] σ' H' s'' → L2.RelV v u → Q v H' → CE outer P w H s Q u s'' :=
        fun {σ' H' v u} J rv q => ⟨v, H', J.os, J.bare, J.base, J.hok, rv, q⟩
      cases fl with
      | ret u =>
        obtain ⟨v, σ', H', J, rv, q⟩ := hs
        exact fin J rv q
      | next =>
        obtain ⟨σ', H', J, q⟩ := hs
        exact fin (v := V.non) (u := Value.none) J rfl q
      | brk =>
        obtain ⟨_, _, _, q⟩ := hs
        exact False.elim q
      | cont =>
        obtain ⟨_, _, _, q⟩ := hs
        exact False.elim q
end
end Sn
/-! the laws' ear: which error a call raises -/
namespace Sn
open Evl (Ex)
open PySem PySem.Spec PyProof.Rows L2 LamX
section
variable {X : Cx}
theorem count_eqU {y : V} : ∀ {ys : List V} {us : List Value}, Vals ys us → ys.all flatV = true → us.countP (eqU y) = ys.countP (fun z => eqV z y)
  | _, _, .nil, _ => rfl
  | _, _, .cons ru rt, f => by
    rw [List.all_cons, Bool.and_eq_true] at f
    rw [List.countP_cons, List.countP_cons, count_eqU rt f.2, eqU_of ru f.1]
/-- xs.count(y), flat items -/
def rCountV (K : PySem.W.Frag) : V → List V → Hp → VK → Prop := fun x xs H Q => ∃ (a : Addr) (ys : List V) (y : V), x = V.ref a ∧ xs = [y] ∧ SqL K H a ys ∧ flatV y = true ∧ ys.all flatV = true ∧ Q (.int (ys.countP (fun z => eqV z y) : Nat)) H
theorem mt_countV : MtR X "list.count" (rCountV X.K) := by
  intro pins s σ H x xs v us Q I rx rxs h
  obtain ⟨a, ys, y, rfl, rfl, hs, fy, fys, q⟩ := h
  cases rx
  cases rxs with
  | cons ry rt =>
    rename_i uy ut
    cases rt
    obtain ⟨its, rv, ⟨⟨cls, dd, data, sl⟩, n, ho, hc, hdn, hd⟩, hlen⟩ := I.list hs
    simp only at hc hd
    subst hc hd
    refine call_meets PySem.F.slot_list_count ⟨_, ho, rfl⟩ PySem.F.entry_list_count (PySem.F.args_list_count_2 _ _)
      (SeqAt.list_countAt a its.toArray n dd sl uy (eqU y)) ⟨ho, fun u' hu' => mem_eqAt ry fy rv fys u' (by simpa using hu'), ?_⟩
    refine ⟨.int (ys.countP (fun z => eqV z y) : Nat), H, I.tok _, ⟨s.toks, ?_⟩, q⟩
    rw [← count_eqU rv fys]
end
/-- the error classes, by number, as the ear asks for them -/
def errN : Nat → Str
  | 0 => "NoEdition" | 1 => "NoState" | 2 => "NoLift" | 3 => "NoBook" | 4 => "NoNumber" | 5 => "TwoPasts" | 6 => "NoPlan" | 7 => "NoHands" | 8 => "NoKey" | 9 => "NothingLeft" | 10 => "NoText" | 11 => "NoKind" | 12 => "NoHistory" | _ => "NotRight"
/-- their words -/
def errW : Nat → Str
  | 0 => "edition" | 1 => "state" | 2 => "lift" | 3 => "book" | 4 => "number" | 5 => "pasts" | 6 => "plan" | 7 => "hands" | 8 => "key" | 9 => "nothing" | 10 => "text" | 11 => "kind" | 12 => "history" | _ => "right"
/-- the error classes: e gives their addresses, those of Is can be raised -/
structure ErrF (K : PySem.W.Frag) (mg : Str → Option Value) (e : Nat → Addr) (CS : Addr) (Is : List Nat) : Prop where
  nm : ∀ i, i < 14 → mg (errN i) = some (.ref (e i))
  snap : mg "SnapError" = some (.ref CS)
  lt : ∀ i ∈ Is, i < 14
  is : ∀ i ∈ Is, ∀ j, j < 14 → PySem.W.kitOne K (.ref (e i)) (.ref (e j)) = some (decide (i = j))
  ve : ∀ i ∈ Is, PySem.W.kitOne K (.ref (e i)) (.type "ValueError") = some true
  sn : ∀ i ∈ Is, PySem.W.exmOne K (.ref (e i)) (.ref CS) = some true
  ec : ∀ i ∈ Is, ExcC K (e i)
  xf : ∀ i ∈ Is, 11 ≤ i → XfC K (e i)
  at11 : 11 ∈ Is → PySem.W.findIn K (.ref (e 11)) "at" = some none
  at12 : 12 ∈ Is → PySem.W.findIn K (.ref (e 12)) "at" = some none
  at13 : 13 ∈ Is → PySem.W.findIn K (.ref (e 13)) "history" = some none
/-- what the ear's caller is told of an error -/
def EHd (e : Nat → Addr) (Is : List Nat) (Q : VK) : XK := fun cls d H' => ∃ i ∈ Is, cls = .ref (e i) ∧
  ((i < 11 ∧ d = none ∧ ∀ p H'', Ex H' H'' → H' p = none → H'' p = some (.tup [.str (errW i), .non]) → Q (.ref p) H'') ∨
   ((i = 11 ∨ i = 12) ∧ ∃ dd fs v, d = some dd ∧ H' dd = some (.xd fs) ∧ fs.lookup ("at" : Str) = some v ∧ ∀ p H'', Ex H' H'' → H' p = none → H'' p = some (.tup [.str (errW i), v]) → Q (.ref p) H'') ∨
   (i = 13 ∧ ∃ dd fs v, d = some dd ∧ H' dd = some (.xd fs) ∧ fs.lookup ("history" : Str) = some v ∧ ∀ p H'', Ex H' H'' → H' p = none → H'' p = some (.tup [.str (errW i), v]) → Q (.ref p) H''))
/-- what the ear makes of the reading of what it calls -/
def THd (e : Nat → Addr) (Is : List Nat) : (XK → Hp → VK → Prop) → Hp → VK → Prop := fun tl H Q =>
  ∀ (H0 : Hp) (Ech : XK) (Kc : VK), Ex H H0 → (∀ cls d H', EHd e Is Q cls d H' → Ech cls d H') → (∀ v H', (∀ p, H' p = none → Q (.ref p) (upd H' p (.tup [.str "told", v]))) → Kc v H') → tl Ech H0 Kc
end Sn
/-! raising, and calls of defs that raise, in short -/
namespace Sn
open Evl (Ex)
open PySem PySem.Spec PyProof.Rows L2
/-- an error class with an own __init__ that keeps one field n -/
structure RaiseK (P : Program) (w : World) (K : PySem.W.Frag) (mg : Str → Option Value) (base : Heap) (C : Addr) (x n : Str) : Prop where
  ex : ∃ (fI : Addr) (fd : FuncData), OexC K C ∧ PySem.W.findIn K (.ref C) "__init__" = some (some (.ref fI)) ∧ PySem.W.typeIn K (.ref fI) = some (.type "function") ∧ FnOk P w K mg base CX0 0 fI fd ["self", n] (spSup C n) ∧ Binds K fd ["self", n] [] ∧ mg x = some (.ref C)
/-- an error class without own __init__ -/
structure Raise0 (K : PySem.W.Frag) (mg : Str → Option Value) (C : Addr) (x : Str) : Prop where
  q : ∃ (bmB : List Value) (B newId initId : String), ExcBaseFacts B newId initId bmB ∧ PySem.W.excIn K C bmB newId = true
  m : mg x = some (.ref C)
  kp : PySem.W.keepIn K (.ref C) = true
  sub : PySem.W.subIn K (.ref C) (.type "BaseException") = some true
  ty : PySem.W.typeIn K (.ref C) = some (.type "type")
section
variable {X : Cx} {pos : Pos}
theorem pr_k {C : Addr} {x n : Str} {p : Pos} {e : Expr} {te : TE} (R : RaiseK X.prog X.w X.K X.mg X.base C x n) (hr : Room 1 X.A) (ha : PE X e te) (hg : Gl X x := by rfl)
    (hdb : (x == ("__debug__" : Str)) = false := by decide) (he : starEach [e] X.env = (false, eval e X.env) :: starEach [] X.env := by rfl) :
    PMk X (.Call (.Name x p) [e] [] pos) (tMkO C (spSup C n) [] (tCons te tNil)) := by
  obtain ⟨fI, fd, T, iC, tI, F1, hb, hm⟩ := R.ex
  exact pmk_oex T iC tI F1 hr hb .nil pass0 hg hm (pa_cons ha pa_nil he) hdb he rfl
theorem mkK {C : Addr} {n : Str} {y : V} {H1 : Hp} {Q : XK} (h : ∀ dd H', Ex H1 H' → H' dd = some (.xd [(n, y)]) → Q (.ref C) (some dd) H') :
    [y].length ≤ 1000 ∧ ∀ a, H1 a = none → spSup C n (.ref a :: ([y] ++ [])) (upd H1 a (exo a C none)) (fun v H2 => v = .non ∧ ∃ (d : Addr) (fs : List (Str × V)), H2 a = some (exo a C (some d)) ∧ H2 d = some (exd d fs) ∧ H1 d = none ∧ Q (.ref C) (some d) (upd (del H2 a) d (.xd fs))) (fun _ _ _ => False) := by
  refine ⟨by simp, fun a na => ⟨a, y, rfl, upd_same, fun dx n1 n2 => ⟨rfl, dx, [(n, y)], upd_same, ?_, ?_, h _ _ ?_ upd_same⟩⟩⟩
  · rw [upd_ne n2, upd_same]
  · rw [upd_ne n2] at n1
    exact n1
  · intro b o hb
    have nb1 : b ≠ a := ne_of_none hb na
    have nb2 : b ≠ dx := by
      rw [upd_ne n2] at n1
      exact ne_of_none hb n1
    rw [upd_ne nb2, del_ne nb1, upd_ne nb1, upd_ne nb2, upd_ne nb1]
    exact hb
theorem pr_0 {C : Addr} {x : Str} {p : Pos} (R : Raise0 X.K X.mg C x) (hg : Gl X x := by rfl) (hdb : (x == ("__debug__" : Str)) = false := by decide) : PMk X (.Call (.Name x p) [] [] pos) (fun σ H Q => Q (.ref C) none H) := by
  obtain ⟨bmB, B, newId, initId, F, q⟩ := R.q
  exact pmk_own0 F q R.m R.kp (raises_own R.sub R.ty) hg hdb
/-- a def that may raise is called -/
theorem pcallX {k : Nat} {x : Str} {ps : List Str} {sp : Sp} {e : Expr} {es : List Expr} {p : Pos} {t : TA} {E : XK} (c : Cal X.prog X.w X.K X.mg X.base (L2.CX X.prog X.w) k x ps sp) (tk : Takes X (fun cls d _ H' => E cls d H')) (hr : Room k X.A) (ha : PA X (e :: es) t) (hg : Gl X x := by rfl)
    (hdb : (x == ("__debug__" : Str)) = false := by decide) (he : starEach (e :: es) X.env = (false, eval e X.env) :: starEach es X.env := by rfl) (hpl : (backTo pos (starEach es X.env)).any (·.1) = false := by rfl) :
    PE X (.Call (.Name x p) (e :: es) [] pos) (tCall sp [] E t) := by
  obtain ⟨f, fd, F, b, m, kp⟩ := c.ex
  exact pe_call F hr hg m kp b .nil (passes_call tk fun _ _ _ _ h => h) ha hdb he hpl
end
section
variable {P : Program} {w : World} {K : PySem.W.Frag} {mg : Str → Option Value} {base : Heap} {N : List Str} {qual : Str} {scope : Scope} {f : Addr} {cd : Value} {A : Around} {outer : List Env} {s : Shared} {H : Hp} {E : XK}
/-- what leaves a def's body -/
theorem tkX : Takes (cxOf (L2.CX P w) P w K mg base N qual scope f cd A outer s H E) (fun cls d _ H' => E cls d H') := takes_of rfl rfl rfl rfl
theorem paX : PassesOwn (model P w) (cxOf (L2.CX P w) P w K mg base N qual scope f cd A outer s H E).A (cxOf (L2.CX P w) P w K mg base N qual scope f cd A outer s H E).env (cxOf (L2.CX P w) P w K mg base N qual scope f cd A outer s H E).xe := passes_of (X := cxOf (L2.CX P w) P w K mg base N qual scope f cd A outer s H E) rfl
end
end Sn
/-! lambdas, and the tables of their code objects -/
namespace Sn
open Evl (Ex)
open PySem PySem.Spec PyProof.Rows L2 LamX
/-- a def whose code object is at c -/
structure FunT (K : PySem.W.Frag) (x qual : Str) (st : Stmt) (f : Addr) (fd : FuncData) (c : Addr) : Prop where
  ex : ∃ (oc : Value) (od : Option Addr) (kV doc pm : Value) (an : Option Addr) (ct : Value) (osl : Array (Option Value)),
    fd = PySem.W.fnOf x qual (defArgs st) (defBody st) (defScope st) .none kV doc pm an (.ref c) ct ∧ K.lookup f = some ⟨oc, od, .func fd, osl⟩ ∧ PySem.W.codeIn K (.ref c) qual = true
  kp : PySem.W.keepIn K (.ref f) = true
section
variable {P : Program} {w : World} {K : PySem.W.Frag} {mg : Str → Option Value} {base : Heap}
theorem FunT.ok {x qual : Str} {st : Stmt} {f c : Addr} {fd : FuncData} {N ps : List Str} {k : Nat} {sp : Sp} (F : FunT K x qual st f fd c) (S : FnScope N ps (defScope st)) (len : ∀ vs H Q E, sp vs H Q E → vs.length = ps.length)
    (hbody : ∀ (A : Around) (outer : List Env) (s : Shared) (H : Hp) (vs : List V) (Q : VK) (E : XK), Room k (A.deeper (envOfC qual (defScope st) s.heap.objs.size f (.ref c))) → sp vs H Q E →
      ∃ t, PSs (cxOf CX0 P w K mg base N qual (defScope st) f (.ref c) A outer s H E).nox (defBody st) t ∧ t { nx := fun _ H' => Q .non H', rt := Q } (L2.start N vs) H) : FnOk P w K mg base CX0 (k + 1) f fd ps sp := by
  obtain ⟨oc, od, kV, doc, pm, an, ct, osl, rfl, lk, hcd⟩ := F.ex
  refine fn_of lk hcd S len fun A outer s H vs Q E hr hsp => ?_
  obtain ⟨t, h, q⟩ := hbody A outer s H vs Q E hr hsp
  exact ⟨t, h.nox, q⟩
end
theorem tkL {X : Cx} {A : Around} {outer : List Env} {s : Shared} {H : Hp} {E : XK} {scope : Scope} {f c' : Addr} : Takes (lamCx X A outer s H E scope f c') (fun cls d _ H' => E cls d H') := takes_of rfl rfl rfl rfl
/-! ### tables -/
/-- no tables are told -/
def NoT (F : Hp) : Prop := ∀ b ps, F b ≠ some (.tbl ps)
def cutT (H : Hp) (sa la : Addr) : Hp := fun x => match H x with
  | some (.tbl _) => none
  | o => if x = sa ∨ x = la then none else o
section
variable {H H' F : Hp} {sa la ca x : Addr} {T : Nat} {Ts : List (Addr × Str)}
theorem cutT_some {o : HO} (h : cutT H sa la x = some o) : H x = some o ∧ (∀ ps, o ≠ .tbl ps) ∧ x ≠ sa ∧ x ≠ la := by
  unfold cutT at h
  split at h
  · cases h
  · rename_i h2
    split at h
    · cases h
    · rename_i h3
      exact ⟨h, fun ps z => h2 ps (by rw [h, z]), fun z => h3 (.inl z), fun z => h3 (.inr z)⟩
theorem cutT_ex : Ex (cutT H sa la) H := fun a o h => (cutT_some h).1
theorem cutT_s : cutT H sa la sa = none := by
  cases h : cutT H sa la sa with
  | none => rfl
  | some o => exact absurd rfl (cutT_some h).2.2.1
theorem cutT_l : cutT H sa la la = none := by
  cases h : cutT H sa la la with
  | none => rfl
  | some o => exact absurd rfl (cutT_some h).2.2.2
theorem cutT_no : NoT (cutT H sa la) := fun b ps h => (cutT_some h).2.1 ps rfl
theorem cutT_at {o : HO} (h : H x = some o) (n1 : x ≠ sa) (n2 : x ≠ la) (n3 : ∀ ps, o ≠ .tbl ps) : cutT H sa la x = some o := by
  unfold cutT
  split
  · rename_i h2
    rw [h] at h2
    exact absurd (Option.some.inj h2) (n3 _)
  · rw [if_neg (fun z => z.elim n1 n2)]
    exact h
theorem cutT_up {G : Hp} (e : Ex G H) (n1 : G sa = none) (n2 : G la = none) (n3 : NoT G) : Ex G (cutT H sa la) := fun a o h => cutT_at (e a o h) (ne_of_none h n1) (ne_of_none h n2) fun ps z => n3 a ps (by rw [h, z])
theorem cutT_to {o : HO} (e : Ex (cutT H sa la) H') (h : H x = some o) (n1 : x ≠ sa) (n2 : x ≠ la) (n3 : ∀ ps, o ≠ .tbl ps) : H' x = some o := e _ _ (cutT_at h n1 n2 n3)
/-- a lambda is made -/
theorem exN (e : Ex F H) (n : NoT F) (h : ExtN H H') : Ex F H' := fun b o hb => h b o (e b o hb) fun ps z => n b ps (by rw [hb, z])
theorem Dr.exN (D : Dr H sa la ca T) (h : ExtN H H') : Dr H' sa la ca T := by
  obtain ⟨⟨ls, cs, r, t, a, b, c, g⟩, x, y, z⟩ := D
  exact ⟨⟨ls, cs, r, t, h _ _ a (fun _ z => nomatch z), h _ _ b (fun _ z => nomatch z), h _ _ c (fun _ z => nomatch z), g⟩, x, y, z⟩
/-- draws leave the tables -/
theorem tabs_cut (t : Tabs Ts H) (D : Dr H sa la ca T) (e : Ex (cut H sa la) H') : Tabs Ts H' := fun p hp => by
  obtain ⟨⟨ls, cs, r, tt, ha, hb, _⟩, _⟩ := D
  obtain ⟨ps, h1, h2, h3⟩ := t p hp
  have ne : ∀ {x o}, H x = some o → (∀ k, o ≠ .dK k) → (∀ k, o ≠ .lst k) → H' x = some o := fun {x o} h k1 k2 => cut_to e h (fun z => by rw [z, ha] at h; exact k1 _ (Option.some.inj h).symm) (fun z => by rw [z, hb] at h; exact k2 _ (Option.some.inj h).symm)
  refine ⟨ps, ne h1 (fun _ z => by cases z) (fun _ z => by cases z), h2, fun pos cv hc => ?_⟩
  obtain ⟨c, e1, e2⟩ := h3 pos cv hc
  exact ⟨c, e1, ne e2 (fun _ z => by unfold CodeO at z; cases z) (fun _ z => by unfold CodeO at z; cases z)⟩
end
end Sn
/-! t != u of tuples that are equal item by item, by own == too -/
namespace Sn
open Evl (Ex)
open PySem PySem.Spec PyProof.Rows L2
section
variable {prog : Program} {w : World} {A : Around} {E : Value → Shared → Prop} {R : Result → Shared → Prop}
theorem tup_ne {l b : Addr} {xs ys : Array Value} {n n2 : Nat} {dd dd2 : Option Addr} {sl sl2 : Array (Option Value)} (hsz : xs.size = ys.size) (J : Shared → Prop)
    (turn : ∀ i (h1 : i < xs.size) (h2 : i < ys.size) s, J s → wpAny (model prog w) A.in1 (eqBool xs[i] ys[i]) (fun r s' => r = true ∧ J s') (fun e s' => R (.error e) s') s) (fin : ∀ s, J s → R (.ok (.ret (.bool false))) s)
    {s : Shared} (hl : s.heap.get? l = some { cls := .type "tuple", dict := dd, data := .seq xs n, slots := sl }) (hb : s.heap.get? b = some { cls := .type "tuple", dict := dd2, data := .seq ys n2, slots := sl2 }) (h : J s) :
    wpAny (model prog w) A.in1 (Builtin.«tuple.__ne__» ⟨[.ref l, .ref b], []⟩) (GQ.FinOf prog w A R) (fun e s' => R (.error e) s') s := by
  have f2 := AutoSeq1.sub_tuple_tuple
  have zl : (xs.toList.zip ys.toList).length = xs.size := by simp [hsz]
  have hJ := h
  obtain ⟨hp, g, d, tk, os⟩ := s
  wp_walk using wpAny_loadPart' hl, wpAny_loadPart' hb, wpAny_forIn_list _ (fun rest b s' => b.1 = none ∧ ∃ i, rest = (xs.toList.zip ys.toList).drop i ∧ J s') _
  case turn =>
    rintro ⟨y, x⟩ rest b s' ⟨hb', i, hz, hI⟩
    have lt : i < (xs.toList.zip ys.toList).length := by
      rcases Nat.lt_or_ge i (xs.toList.zip ys.toList).length with q | q
      · exact q
      · rw [List.drop_of_length_le q] at hz; cases hz
    have h1 : i < xs.size := zl ▸ lt
    have h2 : i < ys.size := hsz ▸ h1
    rw [List.drop_eq_getElem_cons lt] at hz
    injection hz with hyx hrest
    obtain rfl : y = xs[i] := by have := congrArg Prod.fst hyx; simpa using this
    obtain rfl : x = ys[i] := by have := congrArg Prod.snd hyx; simpa using this
    refine wpAny_bind (wpAny_mono (turn i h1 h2 s' hI) (fun r s2 q2 => ?_) fun _ _ x => x)
    obtain ⟨rfl, q2⟩ := q2
    wp_walk
    exact ⟨rfl, i + 1, hrest, q2⟩
  case fin =>
    rintro ⟨b1, b2⟩ s' ⟨hb', i, hz, hI⟩
    simp only at hb'
    subst hb'
    have hR := fin s' hI
    wp_walk
    simpa [Builtin.Tuple.tupleCompareSizes, hsz] using hR
  case h =>
    exact ⟨rfl, 0, rfl, hJ⟩
end
section
variable {X : Cx} {n : Nat} {D : Eqv}
def rNeT (K : PySem.W.Frag) (D : Eqv) : R2 := fun x y H Q => DTup K D x y H ∧ ∀ H', L2.Ext H H' → Q (.bl false) H'
theorem op_neTup (hD : Mon D) (h : EqG X n D) (hr : Room (n + 1) X.A) : OpR X (compareOp .NotEq) (rNeT X.K D) := by
  intro pins s σ H x y u v Q I rx ry hq
  obtain ⟨⟨a, b, xs, ys, rfl, rfl, ha, hb, p⟩, q⟩ := hq
  cases rx
  cases ry
  obtain ⟨its, r, e, z⟩ := I.tuple ha
  obtain ⟨its2, r2, e2, z2⟩ := I.tuple hb
  have hsz : its.toArray.size = its2.toArray.size := by rw [List.size_toArray, List.size_toArray, ← r.length, ← r2.length]; exact p.1
  obtain ⟨⟨cls, dd, data, sl⟩, ho, hc, m, hd⟩ := id e
  obtain ⟨⟨cls2, dd2, data2, sl2⟩, ho2, hc2, m2, hd2⟩ := id e2
  simp only at hc hd hc2 hd2
  subst hc hd hc2 hd2
  show wpAny (model X.prog X.w) X.A (richCompare .NotEq (.ref a) (.ref b)) _ _ _
  refine wpAny_richCompare_same_room (op := .NotEq) ⟨_, ho, rfl⟩ ⟨_, ho2, rfl⟩ F.slot_tuple_ne (GQ.call_here F.slot_tuple_ne ⟨_, ho, rfl⟩ F.entry_tuple_ne (F.args_tuple_ne_2 _ _) ?_) hr.units0
  refine tup_ne (R := wants (fun v s' => v ≠ .notImplemented ∧ EP X pins σ Q v s') X.xe) hsz (fun s' => LoopI X pins σ H s') (fun i h1 h2 s' q' => turnG hD h ⟨hr, rfl⟩ p r r2 i h1 h2 s' q') (fun s' q' => ⟨(fun x => nomatch x), ?_⟩) ho ho2 ⟨H, I, L2.Ext.rfl'⟩
  obtain ⟨H', I', e'⟩ := q'
  exact ⟨.bl false, H', I', rfl, q H' e'⟩
end
end Sn
/-! tuple * int where it is the same tuple; sorted(set(texts)) -/
namespace Sn
open Evl (Ex)
open PySem PySem.Spec PyProof.Rows L2
theorem tuple_mulS (l : Addr) (items : Array Value) (n : Nat) (dd : Option Addr) (sl : Array (Option Value)) (x : Int) (u : Tok) (c0 : (decide (x < -(2 ^ 63)) || decide (x ≥ 2 ^ 63)) = false) (c1 : (items.isEmpty || x == 1) = true) :
    Meets (Builtin.«tuple.__mul__» ⟨[.ref l, .int x u], []⟩) (fun _ R s => s.heap.get? l = some { cls := .type "tuple", dict := dd, data := .seq items n, slots := sl } ∧ R (.ok (.ret (Value.ref l))) s) :=
  .of_wp fun prog w A R s h => by
    obtain ⟨hp, g, d, tk, os⟩ := s
    obtain ⟨hl, h⟩ := h
    have f1 := AutoSeq1.idx_int
    wp_walk using wpAny_loadPart' hl
    repeat (first
      | (refine wpAny_ite_false (decide_eq_false (by rw [c0]; exact Bool.false_ne_true)) ?_; wp_walk using wpAny_loadPart' hl)
      | (refine wpAny_ite_true (decide_eq_true (by rw [c1])) ?_; wp_walk using wpAny_loadPart' hl))
    exact ⟨_, rfl, h⟩
def rRepS (K : PySem.W.Frag) : R2 := fun x y H Q => ∃ l k xs, x = .ref l ∧ y = .int k ∧ SqT K H l xs ∧ (xs = [] ∨ k = 1) ∧ 1 ≤ k ∧ k ≤ 1000 ∧ Q (.ref l) H
section
variable {X : Cx}
theorem op_repS : OpR X (binaryOp .Mult) (rRepS X.K) := by
  intro pins s σ H x y v u Q I rx ry h
  obtain ⟨l, k, xs, rfl, rfl, hT, hor, h1, h2, q⟩ := h
  cases rx
  obtain ⟨t, rfl⟩ := ry
  obtain ⟨its, r, ⟨⟨cls, dd, data, sl⟩, ho, hc, n, hd⟩, hs⟩ := I.tuple hT
  simp only at hc hd
  subst hc hd
  have c0 : (decide (k < -(2 ^ 63)) || decide (k ≥ 2 ^ 63)) = false := by
    rw [decide_eq_false (show ¬ k < -(2 ^ 63) by omega), decide_eq_false (show ¬ k ≥ 2 ^ 63 by omega)]
    rfl
  have c1 : (its.toArray.isEmpty || k == 1) = true := by
    rcases hor with z | z
    · have : its = [] := by
        have hl := r.length
        rw [z] at hl
        exact List.eq_nil_of_length_eq_zero hl.symm
      rw [this]
      rfl
    · rw [z]
      simp
  exact wpAny_binaryOp_repeat_ref (T := "tuple") (U := "int") (by decide) ⟨_, ho, rfl⟩ (fun s' => typeIs_int s' k t) noFill_tuple_mul F.fills_int_mul F.slot_int_rmul repeat_tuple F.slot_int_index.lookup
    (call_meets F.slot_int_rmul (typeIs_int s k t) F.entry_int_rmul (F.args_int_rmul_2 _ _) (int_rmul_tuple k t l its.toArray n dd sl)
      ⟨ho, rfl, ⟨_, ho, rfl⟩, call_meets F.slot_tuple_mul ⟨_, ho, rfl⟩ F.entry_tuple_mul (F.args_tuple_mul_2 _ _) (tuple_mulS l its.toArray n dd sl k t c0 c1) ⟨ho, ⟨.ref l, H, I, rfl, q⟩⟩⟩)
/-- t * k -/
theorem op_rep : OpR X (binaryOp .Mult) (fun x y H Q => rRepT X.K x y H Q ∨ rRepS X.K x y H Q) := by
  intro pins s σ H x y v u Q I rx ry h
  rcases h with h | h
  · exact op_repT pins s σ H x y v u Q I rx ry h
  · exact op_repS pins s σ H x y v u Q I rx ry h
end
end Sn
/-! sets of keys of any kind: made of a list, walked, sorted -/
namespace Sn
open Evl (Ex)
open PySem PySem.Spec PyProof.Rows L2
theorem pair_perm {α β : Type} {F : α → β → Prop} {l l' : List α} (p : l'.Perm l) : ∀ {m : List β}, Paired F l m → ∃ m', m'.Perm m ∧ Paired F l' m' := by
  induction p with
  | nil => intro m h; exact ⟨m, .refl _, h⟩
  | cons x _ ih =>
    intro m h
    cases h with
    | cons a t =>
      obtain ⟨m', q, t'⟩ := ih t
      exact ⟨_ :: m', q.cons _, .cons a t'⟩
  | swap x y r =>
    intro m h
    cases h with
    | cons a t =>
      cases t with
      | cons b t =>
        exact ⟨_ :: _ :: _, .swap _ _ _, .cons b (.cons a t)⟩
  | trans _ _ i1 i2 =>
    intro m h
    obtain ⟨m1, q1, t1⟩ := i2 h
    obtain ⟨m2, q2, t2⟩ := i1 t1
    exact ⟨m2, q2.trans q1, t2⟩
theorem pair_mem {α β : Type} {F : α → β → Prop} : ∀ {l : List α} {m : List β}, Paired F l m → ∀ {y}, y ∈ m → ∃ x ∈ l, F x y
  | _, _, .cons h t, y, hy => by
    rcases List.mem_cons.mp hy with z | hy
    · rw [z]
      exact ⟨_, List.mem_cons_self, h⟩
    · obtain ⟨x, hx, f⟩ := pair_mem t hy
      exact ⟨x, List.mem_cons_of_mem _ hx, f⟩
theorem pair_mem' {α β : Type} {F : α → β → Prop} : ∀ {l : List α} {m : List β}, Paired F l m → ∀ {x}, x ∈ l → ∃ y ∈ m, F x y
  | _, _, .cons h t, x, hx => by
    rcases List.mem_cons.mp hx with z | hx
    · rw [z]
      exact ⟨_, List.mem_cons_self, h⟩
    · obtain ⟨y, hy, f⟩ := pair_mem' t hx
      exact ⟨y, List.mem_cons_of_mem _ hy, f⟩
section
variable {P : Program} {w : World} {κ : Type} [DecidableEq κ] (knd : KeyKind P w κ)
/-- the set of the keys ks at a, that can be walked -/
def SetG (h : Heap) (a : Addr) (ks : List κ) : Prop := ks.Nodup ∧ ∃ o es ep t ks', ks'.Perm ks ∧ h.get? a = some o ∧ o.ExactSet ∧ o.data = .set es ep t ∧ ElemsOf knd es.toList ∧ Paired (fun (e : Int × Value) k => knd.is k e.2 = true) es.toList ks' ∧
  es.size < scanBound ∧ t.fits es.size = true ∧ Ris t.place.toList ∧ (w.params.followText "set-order" = true ∨ t.led = true)
variable {knd} {A : Around} {E : Value → Shared → Prop} {s : Shared} {a : Addr} {ks : List κ}
theorem SetG.at {h h' : Heap} (R : SetG knd h a ks) (k : ∀ o, h.get? a = some o → h'.get? a = some o) : SetG knd h' a ks := by
  obtain ⟨nd, o, es, ep, t, ks', p, ho, r⟩ := R
  exact ⟨nd, o, es, ep, t, ks', p, k o ho, r⟩
theorem setG_new {h : Heap} (ho : h.get? a = some { cls := .type "set", dict := none, data := .set #[] 0 (.fresh 0 0 (!w.params.followText "set-order")) }) : SetG knd h a [] := by
  refine ⟨List.nodup_nil, _, #[], 0, _, [], .refl _, ho, ⟨rfl, rfl, rfl⟩, rfl, fun e he => by simp at he, .nil, by decide, rfl, List.Pairwise.nil, ?_⟩
  show _ ∨ (!w.params.followText "set-order") = true
  cases w.params.followText "set-order"
  · exact .inr rfl
  · exact .inl rfl
/-- the store behind a new key -/
theorem setG_tail {g : Bool → Sem Unit} (hg : ∀ (b : Bool) (s₁ : Shared) (Q' : Unit → Shared → Prop), Q' () s₁ → wpAny (model P w) A (g b) Q' E s₁) {o : Obj} {es : Array (Int × Value)} {ep : Nat} {t : SetTable} (ho : s.heap.get? a = some o) (hex : o.ExactSet) (hd : o.data = .set es ep t)
    {es1 : Array (Int × Value)} {t2 : SetTable} {ks1 : List κ} (n1 : ks.Nodup) (p1 : ks1.Perm ks) (el : ElemsOf knd es1.toList) (pr : Paired (fun (e : Int × Value) k => knd.is k e.2 = true) es1.toList ks1)
    (hb1 : es1.size < scanBound) (hf2 : t2.fits es1.size = true) (hr : Ris t2.place.toList) (hl : w.params.followText "set-order" = true ∨ t2.led = true) {dm : Bool} {R : Option Bool → Shared → Prop}
    (hR : ∀ h', Heap.SameBut a s.heap h' → SetG knd h' a ks → R (some true) { s with heap := h' }) :
    wpAny (model P w) A (do
        storeSet a es1 t2
        if (!dm && t2.tooFull) = true then do
            g (relayAll t2 es1 (SetTable.grown es1.size)).2.2
            storeSet a (relayAll t2 es1 (SetTable.grown es1.size)).1 (relayAll t2 es1 (SetTable.grown es1.size)).2.1
            pure (some true)
          else pure (some true)) R E s := by
  have o1 := store_at (es' := es1) (t' := t2) ho hd
  have b1 := Heap.SameBut.update s.heap a (Obj.putSet es1 t2)
  refine wpAny_bind (wpAny_storeSet_of ho hd ?_ (fits_of_scanBound hb1))
  split
  · have q1 := relayAll_perm t2 es1 (SetTable.grown es1.size)
    have q2 := relayAll_fits t2 es1 (SetTable.grown es1.size)
    have q3 := relayAll_ris t2 es1 (SetTable.grown es1.size)
    have q4 := relayAll_led t2 es1 (SetTable.grown es1.size)
    generalize relayAll t2 es1 (SetTable.grown es1.size) = Z at q1 q2 q3 q4 ⊢
    obtain ⟨es2, t3, gave⟩ := Z
    dsimp only at q1 q2 q3 q4 ⊢
    have sz : es2.size = es1.size := by rw [← Array.length_toList, q1.length_eq, Array.length_toList]
    obtain ⟨ks2, p2, pr2⟩ := pair_perm q1 pr
    refine wpAny_bind (hg _ _ _ (wpAny_bind (wpAny_storeSet_of o1 rfl (wpAny_pure (hR _ (b1.trans (Heap.SameBut.update _ a _)) ?_)) (fits_of_scanBound (by rw [sz]; exact hb1)))))
    exact ⟨n1, _, es2, _, t3, ks2, p2.trans p1, store_at (es' := es2) (t' := t3) o1 rfl, hex, rfl, fun e he => el e (q1.mem_iff.mp he), pr2, by rw [sz]; exact hb1, q2, q3, hl.imp id fun z => by rw [q4]; exact z⟩
  · exact wpAny_pure (hR _ b1 ⟨n1, _, es1, _, t2, ks1, p1, o1, hex, rfl, el, pr, hb1, hf2, hr, hl⟩)
/-- a key is added -/
theorem setG_add {k : κ} {v : Value} {Q : Bool → Shared → Prop} (R : SetG knd s.heap a ks) (hk : knd.is k v = true) (hsc : v.scannable = true) (room : ks.length + 1 < scanBound)
    (hQ : ∀ h' b, Heap.SameBut a s.heap h' → SetG knd h' a (if k ∈ ks then ks else k :: ks) → Q b { s with heap := h' }) : wpAny (model P w) A (setAddHashed a v (knd.hash k)) Q E s := by
  obtain ⟨nd, o, es, ep, t, ks', pm, ho, hex, hd, el, pr, hb, hf, hr, hl⟩ := id R
  have hln : es.size = ks.length := by rw [← Array.length_toList, Paired.length pr, pm.length_eq]
  unfold setAddHashed setAddHashedIn
  refine wpAny_holding (wpAny_bind (wpAny_setState_of ho hd hf ?_))
  dsimp only
  rw [byScan_of hsc hb el]
  simp only [↓reduceIte]
  unfold setAddByScan
  refine wpAny_bind (wpAny_bind (wpAny_rule (wpAny_bind (wpAny_setScan_of hk ho hd hf el ?_))))
  cases hfi : List.findIdx? (fun e => knd.is k e.2) es.toList with
  | some j =>
    dsimp only
    obtain ⟨hj, pj, _⟩ := List.findIdx?_eq_some_iff_getElem.mp hfi
    obtain ⟨k', hk', is'⟩ := pair_mem' pr (List.getElem_mem hj)
    have hm : k ∈ ks := by
      rw [knd.inj _ _ _ pj is']
      exact pm.mem_iff.mp hk'
    have q := hQ s.heap false (Heap.SameBut.refl a s.heap)
    rw [if_pos hm] at q
    exact wpAny_pure (wpAny_pure (q R))
  | none =>
    dsimp only
    have hnm : k ∉ ks := fun z => by
      obtain ⟨e, he, q⟩ := pair_mem pr (pm.mem_iff.mpr z)
      have c := List.findIdx?_eq_none_iff.mp hfi e he
      rw [q] at c
      cases c
    have gw : ∀ (b : Bool) {s₁ : Shared} {Q' : Unit → Shared → Prop}, Q' () s₁ → wpAny (model P w) A (match b with | true => rule "set.scan.the-table-gave-way" | false => pure ()) Q' E s₁ := fun b s₁ Q' q => by cases b <;> first | exact wpAny_pure q | exact wpAny_rule q
    have q1 := layNew_perm t es (knd.hash k) v
    have q2 := layNew_fits t es (knd.hash k) v
    have q3 := layNew_ris t es (knd.hash k) v hr
    have q4 := layNew_led t es (knd.hash k) v
    generalize layNew t es (knd.hash k) v = Z at q1 q2 q3 q4 ⊢
    obtain ⟨es1, t1, dm, gave⟩ := Z
    dsimp only at q1 q2 q3 q4 ⊢
    rw [Array.toList_push] at q1
    have pc : es1.toList.Perm ((knd.hash k, v) :: es.toList) := q1.trans (List.perm_append_singleton _ _)
    obtain ⟨ks1, p1, pr1⟩ := pair_perm (F := fun (e : Int × Value) k => knd.is k e.2 = true) pc (.cons hk pr)
    have el1 : ElemsOf knd es1.toList := fun e he => by
      rcases List.mem_cons.mp (pc.mem_iff.mp he) with z | z
      · rw [z]
        exact ⟨⟨k, hk, rfl⟩, hsc⟩
      · exact el e z
    have sz : es1.size = ks.length + 1 := by rw [← Array.length_toList, pc.length_eq, List.length_cons, Array.length_toList, hln]
    have hb1 : es1.size < scanBound := by rw [sz]; exact room
    have hl1 : w.params.followText "set-order" = true ∨ t1.led = true := hl.imp id fun z => by rw [q4]; exact z
    have n1 : (k :: ks).Nodup := List.nodup_cons.mpr ⟨hnm, nd⟩
    have pp : ks1.Perm (k :: ks) := p1.trans (pm.cons _)
    have fin : ∀ h', Heap.SameBut a s.heap h' → SetG knd h' a (k :: ks) → Q true { s with heap := h' } := fun h' sb r => by
      have q := hQ h' true sb
      rw [if_neg hnm] at q
      exact q r
    refine wpAny_bind (gw _ ?_)
    split
    · refine wpAny_bind ?_
      rw [hashByValue_scannable 8 hsc]
      refine wpAny_pure (setG_tail ?_ ho hex hd n1 pp el1 pr1 hb1 ?_ ?_ ?_ ?_)
      · intro b s₁ Q' q; cases b <;> first | exact wpAny_pure q | exact wpAny_rule q
      · first | (split <;> first | exact q2 | exact SetTable.fits_plain_off q2) | exact q2
      · first | (split <;> exact q3) | exact q3
      · first | (split <;> exact hl1) | exact hl1
      · intro h' sb r; dsimp only; exact wpAny_pure (fin h' sb r)
    · refine wpAny_bind (wpAny_pure ?_)
      simp only [↓reduceIte]
      refine setG_tail ?_ ho hex hd n1 pp el1 pr1 hb1 q2 q3 hl1 ?_
      · intro b s₁ Q' q; cases b <;> first | exact wpAny_pure q | exact wpAny_rule q
      · intro h' sb r; dsimp only; exact wpAny_pure (fin h' sb r)
/-- the keys of a list, each once -/
def once : List κ → List κ → List κ
  | acc, [] => acc
  | acc, k :: r => once (if k ∈ acc then acc else k :: acc) r
theorem once_mem {x : κ} : ∀ (l acc : List κ), x ∈ once acc l ↔ x ∈ acc ∨ x ∈ l
  | [], acc => by simp [once]
  | k :: r, acc => by
    rw [once, once_mem r]
    by_cases h : k ∈ acc
    · rw [if_pos h, List.mem_cons]
      constructor
      · rintro (z | z)
        · exact .inl z
        · exact .inr (.inr z)
      · rintro (z | z | z)
        · exact .inl z
        · exact .inl (z ▸ h)
        · exact .inr z
    · rw [if_neg h, List.mem_cons, List.mem_cons]
      constructor
      · rintro ((z | z) | z)
        · exact .inr (.inl z)
        · exact .inl z
        · exact .inr (.inr z)
      · rintro (z | z | z)
        · exact .inl (.inr z)
        · exact .inl (.inl z)
        · exact .inr z
theorem once_len : ∀ (l acc : List κ), (once acc l).length ≤ acc.length + l.length
  | [], acc => by simp [once]
  | k :: r, acc => by
    rw [once]
    have := once_len r (if k ∈ acc then acc else k :: acc)
    split at this <;> rename_i h
    · rw [if_pos h, List.length_cons]
      omega
    · rw [if_neg h, List.length_cons]
      rw [List.length_cons] at this
      omega
theorem setG_loop {I : Addr} {fp wr : List Addr} {G : Array GenState → Array GenState → Prop} {Pv : Nat → Value → Prop} {St : Nat → Shared → Prop} {R : Result → Shared → Prop} {n : Nat} (W : WalksS P w A.in1 I fp wr G n Pv St) (S : Addr) (hSf : S ∉ fp)
    (kl : List κ) (hn : n = kl.length) (hval : ∀ i v, Pv i v → ∃ k, kl[i]? = some k ∧ knd.is k v = true ∧ v.scannable = true) :
    ∀ (m i : Nat) (s : Shared) (acc : List κ), n - i = m → i ≤ n → acc.length + n + 1 < scanBound + i → St i s → SetG knd s.heap S acc →
      (∀ s', Moved (S :: wr) G s s' → SetG knd s'.heap S (once acc (kl.drop i)) → R (.ok (.ret .none)) s') → codeAny (model P w) A (.builtin "set.update.loop" ⟨[.ref S, .ref I], []⟩) R s := by
  have hSw : S ∉ wr := fun h => hSf (W.sub _ h)
  have up : ∀ b ∈ wr, b ∈ S :: wr := fun b hb => List.mem_cons_of_mem _ hb
  intro m
  induction m with
  | zero =>
    intro i s acc hm hi hb hst hS hR
    have e : i = n := by omega
    subst e
    refine codeAny_builtin F.entry_set_update_loop ?_
    rw [Around.under_plainId F.plain_set_update_loop _]
    show wpAny _ A.in1 (pyNext (.ref I) >>= _) _ _ s
    refine wpAny_bind (W.done s _ _ hst fun s' mv => ?_)
    show wpAny _ A.in1 (ret Value.none) _ _ s'
    refine wpAny_pure (hR s' (mv.mono up) ?_)
    rw [List.drop_of_length_le (by omega)]
    exact hS.at fun o e => mv.heap S o hSw e
  | succ m ih =>
    intro i s acc hm hi hb hst hS hR
    have hlt : i < n := by omega
    refine codeAny_builtin F.entry_set_update_loop ?_
    rw [Around.under_plainId F.plain_set_update_loop _]
    show wpAny _ A.in1 (pyNext (.ref I) >>= _) _ _ s
    refine wpAny_bind (W.item i s _ _ hlt hst fun v s' hP hst' mv => ?_)
    obtain ⟨k, hk, his, hsc⟩ := hval i v hP
    have hS' : SetG knd s'.heap S acc := hS.at fun o e => mv.heap S o hSw e
    show wpAny _ A.in1 (holding [v] (setAdd S v) >>= _) _ _ s'
    refine wpAny_bind (wpAny_holding ?_)
    unfold setAdd
    refine wpAny_holding (wpAny_bind (knd.pyHash his ?_))
    refine setG_add (s := { s' with toks := s'.toks + 1 }) hS' his hsc (by omega) fun h' bb sb hS2 => ?_
    refine wpAny_pure ⟨plainId_quiet F.plain_set_update_loop _, ih (i + 1) _ _ (by omega) hlt ?_ (W.frame _ s' _ _ hst' (Nat.le_succ _) fun b hb o e => ?_) hS2 fun s'' mv'' hS'' => ?_⟩
    · split <;> (try rw [List.length_cons]) <;> omega
    · rw [sb.2 b (fun h : b = S => hSf (by rw [← h]; exact hb))]; exact e
    · refine hR s'' (Moved.trans W.gtrans ((mv.mono up).then_heap (Nat.le_succ _) fun b o hb e => ?_) mv'') ?_
      · rw [sb.2 b (fun h : b = S => hb (by rw [h]; exact List.mem_cons_self))]; exact e
      · have ed : kl.drop i = k :: kl.drop (i + 1) := by
          obtain ⟨h1, h2⟩ := List.getElem?_eq_some_iff.mp hk
          rw [List.drop_eq_getElem_cons h1, h2]
        rw [ed, once]
        exact hS''
end
section
variable {P : Program} {w : World} {A : Around} {E : Value → Shared → Prop} {s : Shared}
/-- set(l), l a list of keys -/
theorem setG_list {κ : Type} [DecidableEq κ] {knd : KeyKind P w κ} {l : Addr} {items : Array Value} (kl : List κ) {Q : Value → Shared → Prop} (hh : A.handled = none) (hl : s.heap.IsList l items) (hit : Paired (fun v k => knd.is k v = true ∧ v.scannable = true) items.toList kl) (hb : kl.length + 1 < scanBound)
    (h : ∀ (h' : Heap) (tk : Nat), SetG knd h' s.heap.objs.size (once [] kl) → (∀ b o, s.heap.get? b = some o → h'.get? b = some o) → Q (.ref s.heap.objs.size) { s with heap := h', toks := tk }) :
    wpAny (model P w) A (call (.type "set") [.ref l]) Q E s := by
  have hisz : items.size = kl.length := by rw [← Array.length_toList]; exact Paired.length hit
  obtain ⟨c, tl, hmro⟩ := F.called_set.mro
  have hmade := F.called_set.made
  have hsub := F.called_set.sub
  refine wpAny_call (codeAny_of_tree ?_)
  show wpAny _ _ (callAny (.type "set") _) _ _ _
  refine wpAny_pure ⟨Code.quiet_builtin _ (by decide +kernel), codeAny_builtin F.entry_type_call ?_⟩
  rw [Around.under_plain (weight_type_call_type "set" [.ref l] []) rfl]
  have h1 := F.called_set.notType
  have h2 := F.called_set.canCreate
  have hct := F.typeCall_set_1 (.ref l)
  repeat (any_goals (first | assumption | wp_step))
  let o0 : Obj := { cls := .type "set", dict := none, data := .set #[] 0 (.fresh 0 0 (!w.params.followText "set-order")) }
  refine codeAny_mono (code_set_led1 (.ref l) (E := E) (Q₁ := fun obj s₁ => obj = .ref s.heap.objs.size ∧ s₁ = { s with heap := s.heap.push o0 }) ⟨rfl, rfl⟩) fun r s₁ hr => ?_
  cases r with
  | error e => exact hr
  | ok fl =>
    cases fl with
    | ret obj =>
      obtain ⟨rfl, rfl⟩ := hr
      have hS : (s.heap.push o0).get? s.heap.objs.size = some o0 := Heap.get?_push_size _ rfl
      have hT : Shared.TypeIs { s with heap := s.heap.push o0 } (.ref s.heap.objs.size) "set" := ⟨_, hS, rfl⟩
      have hli := F.called_set.init.lookup
      have hbi := F.called_set.init.bind (.ref s.heap.objs.size)
      repeat (any_goals (first | assumption | wp_step))
      refine codeAny_mono (codeAny_call_builtin (R := wants (fun r s₂ => r = .none ∧ ∃ h' tk, s₂ = { s with heap := h', toks := tk } ∧ SetG knd h' s.heap.objs.size (once [] kl) ∧ (∀ b o, s.heap.get? b = some o → h'.get? b = some o)) E) F.called_set.init.plain F.entry_set_init (check_set_init_1 hT ?_)) fun r₂ s₂ hr₂ => ?_
      · obtain ⟨ol, hol, hcl, nl, hdl⟩ := hl
        obtain ⟨ocls, odict, odata, oslots⟩ := ol
        simp only at hcl hdl
        subst hcl; subst hdl
        have hol' : (s.heap.push o0).get? l = some { cls := .type "list", dict := odict, data := .seq items nl, slots := oslots } := Heap.get?_push_of_some _ hol
        have hsls := PySem.F.sub_list_set
        have hslf := PySem.F.sub_list_frozenset
        have hne : (Value.type "list" == Value.type "dict") = false := by decide
        have hl1 : (s.heap.push o0).IsList l items := ⟨_, hol', rfl, nl, rfl⟩
        unfold Builtin.«set.__init__» noKeywords Builtin.Frozenset.updateFrom
        generalize hPI : pyIter = PI
        wp_walk
        subst hPI
        refine wpAny_pyIter_list hl1 ?_
        refine wpAny_bind (wpAny_runValue ?_)
        have hlS : l < s.heap.objs.size := Heap.lt_size hol
        have hh3 : A.in1.in1.in1.handled = none := by simp [hh]
        have sz1 : (s.heap.push o0).objs.size = s.heap.objs.size + 1 := Heap.size_push ..
        have hneI : l ≠ (s.heap.push o0).objs.size := by rw [sz1]; exact Nat.ne_of_lt (Nat.lt_succ_of_lt hlS)
        have hSf : s.heap.objs.size ∉ [(s.heap.push o0).objs.size, l] := by
          rw [sz1]
          simp only [List.mem_cons, List.mem_singleton, List.not_mem_nil, or_false, not_or]
          exact ⟨Nat.ne_of_lt (Nat.lt_succ_self _), Nat.ne_of_gt hlS⟩
        have hval : ∀ (i : Nat) (v : Value), items[i]? = some v → ∃ k, kl[i]? = some k ∧ knd.is k v = true ∧ v.scannable = true := fun i v hv => LiI.paired_get hit (by rw [Array.getElem?_toList]; exact hv)
        refine setG_loop ((Walks.list hh3 _ l hneI items).toS) s.heap.objs.size hSf kl hisz hval (items.size - 0) 0 _ [] (by omega) (Nat.zero_le _) (by simp; omega) ⟨⟨_, Heap.get?_push_size _ rfl, rfl, rfl⟩, (hl1.push _)⟩ (setG_new (Heap.get?_push_of_some _ hS)) fun s' mv hS' => ?_
        obtain ⟨h', g2, d', tk', os'⟩ := s'
        obtain rfl : g2 = s.gens := mv.gens
        obtain rfl : d' = s.drawn := mv.drawn
        obtain rfl : os' = s.os := mv.os
        show wpAny _ _ _ _ _ _
        refine wpAny_pure ?_
        show wpAny _ _ (ret Value.none) _ _ _
        refine wpAny_pure ⟨rfl, h', tk', rfl, hS', fun b o e => ?_⟩
        have lb := Heap.lt_size e
        refine mv.heap b o ?_ (Heap.get?_push_of_some _ (Heap.get?_push_of_some _ e))
        simp only [List.mem_cons, List.mem_singleton, List.not_mem_nil, or_false, not_or]
        exact ⟨Nat.ne_of_lt lb, by rw [sz1]; exact Nat.ne_of_lt (Nat.lt_succ_of_lt lb)⟩
      · cases r₂ with
        | error e => exact hr₂
        | ok fl₂ =>
          cases fl₂ with
          | ret r =>
            obtain ⟨rfl, h', tk, rfl, hS', hk⟩ := hr₂
            have hfin := h h' tk hS' hk
            repeat (any_goals (first | assumption | wp_step))
          | _ => exact hr₂.elim
    | _ => exact hr.elim
end
end Sn
/-! set(l) and sorted(s) of texts, as rules -/
namespace Sn
open Evl (Ex)
open PySem PySem.Spec PyProof.Rows L2
/-- a set of texts -/
def SetX (P : Program) (w : World) (p : Addr) (ks : List Str) : HO := .ext fun h => SetG (PySem.strKind P w) h p ks
theorem setX_ok {P : Program} {w : World} {H : Hp} {h : Heap} {p : Addr} {ks : List Str} (R : SetG (PySem.strKind P w) h p ks) : ObjOk P w H h p (SetX P w p ks) := by
  refine ⟨R, ?_, fun h1 h2 r st => r.at fun o e => st o e⟩
  obtain ⟨_, o, _, _, _, _, _, ho, _⟩ := R
  exact ⟨o, ho⟩
section
variable {X : Cx}
theorem strs_pair {P : Program} {w : World} : ∀ {ws : List Str} {us : List Value}, Vals (ws.map V.str) us → Paired (fun v k => (PySem.strKind P w).is k v = true ∧ v.scannable = true) us ws
  | [], _, .nil => .nil
  | x :: r, _, .cons ru rt => by
    obtain ⟨t, rfl⟩ := ru
    exact .cons ⟨strKind_is _ _ _ _, rfl⟩ (strs_pair rt)
def rSetL (P : Program) (w : World) (K : PySem.W.Frag) : List V → Hp → VK → Prop := fun xs H Q => ∃ (l : Addr) (ws : List Str), xs = [.ref l] ∧ SqL K H l (ws.map V.str) ∧ ws.length ≤ 100 ∧ ∀ p, H p = none → Q (.ref p) (upd H p (SetX P w p (once [] ws)))
theorem call_setL (hc : X.calm = true) : CallR X (.type "set") (rSetL X.prog X.w X.K) := by
  intro pins s σ H xs us Q I r h
  obtain ⟨l, ws, rfl, hl, hn, q⟩ := h
  obtain rfl := Vals.ref1 r
  obtain ⟨its, rv, pl, hz⟩ := I.list hl
  refine setG_list ws (I.ok.hd hc) pl.isList (by simpa using strs_pair rv) (by unfold scanBound; omega) fun h' tk hS hk => ?_
  exact ⟨.ref s.heap.objs.size, _, I.laid (t' := tk) hk (Nat.le_refl _) (setX_ok hS), rfl, q _ (I.hok.fresh (Nat.le_refl _))⟩
def rSortX (P : Program) (w : World) : List V → Hp → VK → Prop := fun xs H Q => ∃ (a : Addr) (ks : List Str), xs = [.ref a] ∧ H a = some (SetX P w a ks) ∧ ks.length < 64 ∧ ∀ ys p, ys.Perm ks → sortedS ys = true → H p = none → Q (.ref p) (upd H p (.lst (ys.map V.str)))
theorem strs_of {P : Program} {w : World} : ∀ {es : List (Int × Value)} {ks : List Str}, Paired (fun (e : Int × Value) k => (PySem.strKind P w).is k e.2 = true) es ks → StrsAre (es.map (·.2)) ks
  | _, _, .nil => .nil
  | _, _, .cons h t => by
    obtain ⟨u, e⟩ := Value.isStrOf_shape h
    rw [List.map_cons, e]
    exact .cons _ _ (strs_of t)
theorem strs_perm {l l' : List Value} {ks : List Str} (p : l'.Perm l) (h : StrsAre l ks) : ∃ ks', ks'.Perm ks ∧ StrsAre l' ks' := by
  have to_ : ∀ {l : List Value} {ks : List Str}, StrsAre l ks → Paired (fun v k => ∃ t, v = Value.str k t) l ks := fun {l ks} h => by
    induction h with
    | nil => exact .nil
    | cons _ _ _ ih => exact .cons ⟨_, rfl⟩ ih
  have of_ : ∀ {l : List Value} {ks : List Str}, Paired (fun v k => ∃ t, v = Value.str k t) l ks → StrsAre l ks := fun {l ks} h => by
    induction h with
    | nil => exact .nil
    | cons h _ ih =>
      obtain ⟨t, rfl⟩ := h
      exact .cons _ _ ih
  obtain ⟨ks', q, h'⟩ := pair_perm p (to_ h)
  exact ⟨ks', q, of_ h'⟩
theorem call_sortX (hc : X.calm = true) : CallR X (.builtin "sorted") (rSortX X.prog X.w) := by
  intro pins s σ H xs us Q I r h
  obtain ⟨a, ks, rfl, ha, h64, q⟩ := h
  obtain rfl := Vals.ref1 r
  obtain ⟨nd, o, es, ep, t, ks', pm, ho, hex, hd, el, pr, hb, hf, hr, hl⟩ := (I.hok a _ ha).1
  refine Calls.call_function_entry kind_sorted plain_sorted entry_sorted (args_sorted1 _) ?_
  unfold Builtin.«sorted»
  refine wpAny_bind (m := checkCount "sorted" 1 1 _) (wpAny_pure ?_)
  refine wpAny_bind (collect_set (A := X.A.in1) (I.ok.hd hc) ⟨o, ho, hex.1, hd⟩ hf hb hr hl fun s1 vs k1 hz g1 o1 pv => ?_)
  obtain ⟨ks2, p2, hS⟩ := strs_perm pv (strs_of pr)
  have hlen : vs.length = ks.length := by rw [StrsAre.len_eq hS, p2.length_eq, pm.length_eq]
  have e1 : s1 = { s with heap := s1.heap, gens := s1.gens, drawn := s1.drawn, toks := s1.toks } := by
    cases s1
    cases s
    cases o1
    rfl
  have I1 : Inv X pins σ H s1 := by
    rw [e1]
    exact I.call (ch := []) (Un.kept k1) (I.hok.kept k1) (by rw [g1]; exact I.bare) (fun _ z => nomatch z)
  obtain ⟨hp, gg, dd, tk, os⟩ := s1
  refine wpAny_bind (wpAny_newList ?_ (by rw [hlen, sizeLine_eq]; omega))
  have hoL : (hp.push (seqObj "list" vs.toArray 0)).get? hp.objs.size = some (seqObj "list" vs.toArray 0) := Heap.get?_push_size _ rfl
  refine wpAny_bind (wpAny_holding (wpAny_call_entry slot_list_sort ⟨_, hoL, rfl⟩ entry_list_sort
    (list_sort_treeK strKind_oneLt (s := ⟨hp.push (seqObj "list" vs.toArray 0), gg, dd, tk, os⟩) hoL hS.keysOf (fun v₁ v₂ rest e => keyKind_strs (by rw [← e]; exact hS)) (by rw [hlen]; exact h64) fun st' hp' hs => ⟨_, rfl, ?_⟩) (args_list_sort _)))
  obtain ⟨ys, y1, y2, y3⟩ := sorted_out_str hS hp' hs
  obtain ⟨e', he'⟩ := sortedHeap_at (vs := vs) (out := (arrOf st').map (·.2)) hoL
  have yp : ys.Perm ks := y2.trans (p2.trans pm)
  have hlen2 : (ys.map V.str).length ≤ sizeLine := by rw [List.length_map, yp.length_eq, sizeLine_eq]; omega
  refine wpAny_pure ⟨_, rfl, .ref hp.objs.size, upd H hp.objs.size (.lst (ys.map V.str)), I1.laid (t' := tk) (fun b u e => ?_) (Nat.le_refl _)
    (show ObjOk X.prog X.w _ _ _ (.lst (ys.map V.str)) from ⟨hlen2, ((arrOf st').map (·.2)).toList, e', vals_of_strs y1, by rw [Array.toArray_toList]; exact he'⟩), rfl, q ys _ yp y3 (I1.hok.fresh (Nat.le_refl _))⟩
  have lb := Heap.lt_size e
  show (sortedHeap (hp.push (seqObj "list" vs.toArray 0)) hp.objs.size vs _).get? b = some u
  rw [sortedHeap_old (Nat.ne_of_lt lb) (by rw [Heap.size_push]; exact Nat.lt_succ_of_lt lb)]
  exact Heap.get?_push_of_some _ e
end
end Sn
/-! what serves all laws, program independent -/
namespace Sn
open Evl (Ex)
open PySem L2 LamX
section
variable {X : Cx} {P : Program} {w : World} {K : PySem.W.Frag} {mg : Str → Option Value} {base : Heap}
variable {σ : L2.St} {H H' : Hp} {D : Ends}
/-- the row of a key -/
def look (ds : List (Str × List Str)) (k : Str) : List Str := ((ds.find? fun e => decide (e.1 = k)).map (·.2)).getD []
def putL (ds : List (Str × List Str)) (row : List Str) : List Str := row.flatMap (look ds)
theorem look_at {es : List Ent} {e : Ent} (hn : (es.map (·.1)).Nodup) (h : e ∈ es) : look (es.map dat) e.1 = e.2.1 := by
  induction es with
  | nil => cases h
  | cons p r ih =>
    rw [List.map_cons, List.nodup_cons] at hn
    unfold look
    rcases List.mem_cons.mp h with z | h
    · subst z
      simp [dat]
    · have ne : ¬ p.1 = e.1 := fun z => hn.1 (by rw [z]; exact List.mem_map_of_mem (f := Prod.fst) h)
      have := ih hn.2 h
      unfold look at this
      rw [List.map_cons, List.find?_cons, decide_eq_false (show ¬ (dat p).1 = e.1 from ne)]
      exact this
theorem putL_len {ds : List (Str × List Str)} {n : Nat} (h : ∀ k, (look ds k).length ≤ n) : ∀ row : List Str, (putL ds row).length ≤ n * row.length
  | [] => by simp [putL]
  | k :: r => by
    have := putL_len h r
    have e : putL ds (k :: r) = look ds k ++ putL ds r := by simp [putL]
    rw [e, List.length_append, List.length_cons, Nat.mul_add]
    have := h k
    omega
theorem look_len {es : List Ent} {n : Nat} (h : ∀ e ∈ es, e.2.1.length ≤ n) (k : Str) : (look (es.map dat) k).length ≤ n := by
  unfold look
  cases e : (es.map dat).find? fun e => decide (e.1 = k) with
  | none => exact Nat.zero_le _
  | some x =>
    obtain ⟨y, hy, z⟩ := List.mem_map.mp (List.mem_of_find?_eq_some e)
    subst z
    exact h y hy
def isWd (x : Str) : Bool := decide (1 ≤ x.cps.size) && decide (x.cps.size ≤ 6) && x.cps.toList.all fun c => decide (c ∈ abc.cps.toList)
theorem isWd_of {x : Str} (h : Wd x) : isWd x = true := by
  obtain ⟨lo, hi, az⟩ := h
  unfold isWd
  rw [decide_eq_true (show 1 ≤ x.cps.size by simpa using lo), decide_eq_true (show x.cps.size ≤ 6 by simpa using hi), Bool.true_and, Bool.true_and, List.all_eq_true]
  exact fun c hc => decide_eq_true (abc_mem.mpr (az c hc))
theorem wd_of {x : Str} (h : isWd x = true) : Wd x := by
  unfold isWd at h
  rw [Bool.and_eq_true, Bool.and_eq_true, List.all_eq_true] at h
  exact ⟨by simpa using of_decide_eq_true h.1.1, by simpa using of_decide_eq_true h.1.2, fun c hc => abc_mem.mp (of_decide_eq_true (h.2 c hc))⟩
theorem Wd.sz {x : Str} (h : Wd x) : x.cps.size ≤ 1000 := by
  have := h.hi
  simp at this
  omega
theorem unlock {H H' : Hp} {d : Addr} {od : Obj} {u : HO} (e : Ex (upd H d (.frz od u)) H') (h : H d = some u) : Ex H (upd H' d u) := fun x o hx => by
  by_cases z : x = d
  · subst z
    rw [upd_same, ← hx, h]
  · rw [upd_ne z]
    exact e _ _ (by rw [upd_ne z]; exact hx)
/-- an item of a row, as far as need_row asks: a text, or no text -/
def Itm (K : PySem.W.Frag) (H : Hp) (x : V) : Prop := (∃ s : Str, x = .str s) ∨ ∃ t, TyX K H x t ∧ PySem.W.kitOne K t (.type "str") = some false
def good (ks : List Str) (x : V) : Bool := match x with
  | .str s => decide (s ∈ ks)
  | _ => false
theorem Itm.ex {H H' : Hp} {x : V} (h : Itm K H x) (e : Ex H H') : Itm K H' x := by
  rcases h with h | ⟨t, h, k⟩
  · exact .inl h
  · refine .inr ⟨t, ?_, k⟩
    cases h with
    | base b =>
      refine .base ?_
      cases b with
      | non => exact .non
      | bl y => exact .bl y
      | int i => exact .int i
      | str y => exact .str y
      | flt y => exact .flt y
      | lst h => exact .lst (e _ _ h)
      | frz h => exact .frz (e _ _ h)
      | tup h => exact .tup (e _ _ h)
      | dK h => exact .dK (e _ _ h)
      | dT h => exact .dT (e _ _ h)
      | ins h cl ha hn htk hm => exact .ins (e _ _ h) cl ha hn htk hm
    | byt b => exact .byt b
    | set h => exact .set (e _ _ h)
    | kList h c => exact .kList h c
    | kTuple h c => exact .kTuple h c
    | kDict h c => exact .kDict h c
    | fTuple h => exact .fTuple (e _ _ h)
    | fDict h => exact .fDict (e _ _ h)
/-- es' is es, ascending -/
structure SrtE (es es' : List Ent) : Prop where
  pm : (es'.map (·.1)).Perm (es.map (·.1))
  so : PyProof.Rows.sortedS (es'.map (·.1)) = true
  sub : ∀ e ∈ es', e ∈ es
structure SrtS (ss ss' : List (Str × Str)) : Prop where
  pm : (ss'.map (·.1)).Perm (ss.map (·.1))
  so : PyProof.Rows.sortedS (ss'.map (·.1)) = true
  sub : ∀ e ∈ ss', e ∈ ss
theorem rd_ex {H H' : Hp} {p : Addr} {u : HO} (h : Rd H p u) (e : Ex H H') : Rd H' p u := by
  rcases h with h | ⟨o, h⟩
  · exact .inl (e _ _ h)
  · exact .inr ⟨o, e _ _ h⟩
theorem rd_lock {H : Hp} {d p : Addr} {od : Obj} {kvs : List (Key × V)} {ks : List (Key × V)} (h : H p = some (.dK ks)) (hd : H d = some (.dK kvs)) : Rd (upd H d (.frz od (.dK kvs))) p (.dK ks) := by
  by_cases z : p = d
  · subst z
    rw [h] at hd
    cases hd
    exact .inr ⟨od, upd_same⟩
  · exact .inl (by rw [upd_ne z]; exact h)
theorem dgr {H : Hp} {a : Addr} {kvs : List (Key × V)} {x : Str} {v : V} (h : Rd H a (.dK kvs)) (e : valV kvs (Sum.inr x : Key) = some v) : DGet H a (.str x) (some v) := .inl ⟨kvs, Sum.inr x, h, rfl, e.symm⟩
/-- a method of a class, and its promise -/
structure CalM (P : Program) (w : World) (K : PySem.W.Frag) (mg : Str → Option Value) (base : Heap) (CX : CXT) (k : Nat) (C : Addr) (m : Str) (ps : List Str) (sp : Sp) : Prop where
  ex : ∃ (f : Addr) (fd : FuncData), Meth K C m f ∧ FnOk P w K mg base CX k f fd ps sp ∧ Binds K fd ps []
theorem pmeth {pl : Sem Bool} {k : Nat} {C : Addr} {m : Str} {ps : List Str} {sp : Sp} {o e : Expr} {es : List Expr} {apos pos : Pos} {ta : TE} {t : TA} (c : CalM X.prog X.w X.K X.mg X.base CX0 k C m ps sp) (cl : Cls X.K C) (hr : Room k X.A) (ho : PE X o ta) (ha : PA X (e :: es) t)
    (hst : starEach (e :: es) X.env = (false, eval e X.env) :: starEach es X.env := by rfl) (hpl : (backTo pos (starEach es X.env)).any (·.1) = false := by rfl)
    (ht : eval (.Call (.Attribute o m apos) (e :: es) [] pos) X.env = (do
      let ov ← eval o X.env
      standAt apos.atName
      let (f, first) ← holding [ov] (getMethod ov m pl)
      callWith pos f first (backTo pos (starEach (e :: es) X.env)) (backToKw pos (keywordEach [] X.env))) := by rfl) : PE X (.Call (.Attribute o m apos) (e :: es) [] pos) (tMeth C m sp [] E0 ta t) := by
  obtain ⟨f, fd, hm, F, b⟩ := c.ex
  exact pe_meth (pl := pl) ho cl hm F hr b .nil pass0 ha hst hpl ht
def look2 (ss : List (Str × Str)) (k : Str) : Str := ((ss.find? fun e => decide (e.1 = k)).map (·.2)).getD k
/-- the words of a row that is put together -/
theorem putL_mem {es : List Ent} {row : List Str} {x : Str} (h : x ∈ putL (es.map dat) row) : ∃ e ∈ es, x ∈ e.2.1 := by
  unfold putL at h
  obtain ⟨k, _, hx⟩ := List.mem_flatMap.mp h
  unfold look at hx
  cases e : (es.map dat).find? fun e => decide (e.1 = k) with
  | none => rw [e] at hx; cases hx
  | some y =>
    rw [e] at hx
    obtain ⟨z, hz, rfl⟩ := List.mem_map.mp (List.mem_of_find?_eq_some e)
    exact ⟨z, hz, hx⟩
theorem look2_at {ss : List (Str × Str)} {e : Str × Str} (hn : (ss.map (·.1)).Nodup) (h : e ∈ ss) : look2 ss e.1 = e.2 := by
  induction ss with
  | nil => cases h
  | cons p r ih =>
    rw [List.map_cons, List.nodup_cons] at hn
    unfold look2
    rcases List.mem_cons.mp h with z | h
    · subst z
      simp
    · have ne : ¬ p.1 = e.1 := fun z => hn.1 (by rw [z]; exact List.mem_map_of_mem (f := Prod.fst) h)
      have := ih hn.2 h
      unfold look2 at this
      rw [List.find?_cons, decide_eq_false ne]
      exact this
theorem dat_key {es : List Ent} : (es.map dat).map (·.1) = es.map (·.1) := by simp [dat, Function.comp_def]
theorem asg2 {t1 t2 : TE} {g : TG} {u : TS} {D : Ends} {σ : L2.St} {H : Hp} (h : t1 σ H fun x H1 => t2 σ H1 fun y H2 => [x, y].length ≤ sizeLine ∧ ∀ p, H2 p = none → g (.ref p) σ (upd H2 p (.tup [x, y])) fun σ' H' => u D σ' H') : tSeq (tAsg (tTup (tCons t1 (tCons t2 tNil))) g) u D σ H := h
theorem make2 {C : Addr} {sp : Sp} {E : XK} {t1 t2 : TE} {σ : L2.St} {H : Hp} {Q : VK} (h : t1 σ H fun x H1 => t2 σ H1 fun y H2 => ∀ a dx, H2 a = none → H2 dx = none → dx ≠ a → sp (.ref a :: ([x, y] ++ [])) (upd (upd H2 dx (.own a)) a (.ins C dx [])) (fun v H3 => v = .non ∧ Q (.ref a) H3) E) : tMake C sp [] E (tCons t1 (tCons t2 tNil)) σ H Q := h
theorem tell2 {v : V} {t : TE} {σ : L2.St} {H : Hp} {Q : VK} (h : t σ H fun x H1 => [v, x].length ≤ sizeLine ∧ ∀ p, H1 p = none → Q (.ref p) (upd H1 p (.tup [v, x]))) : tTup (tCons (tC v) (tCons t tNil)) σ H Q := h
theorem _root_.Sn.Rws.exN {H H' : Hp} {p : Addr} {es : List Ent} (h : Rws H p es) (x : ExtN H H') : Rws H' p es := ⟨x _ _ h.1 (fun _ z => by cases z), fun e he => x _ _ (h.2 e he) (fun _ z => by cases z)⟩
theorem wipe_set {σ : L2.St} {n : Nat} {x : Option V} : wipe ((wipe σ [n]).set n x) [n] = wipe σ [n] := by
  unfold wipe
  simp [wipe]
/-- [x for x in ws if x not in ks] -/
theorem notin_go {σ : L2.St} {H : Hp} {Q : VK} {i j n : Nat} {a b : Addr} {ws ks : List Str} (hi : σ[i]? = some (some (.ref a))) (hj : (wipe σ [n])[j]? = some (some (.ref b))) (hn : n < (wipe σ [n]).length) (jn : j ≠ n) (ha : H a = some (.lst (ws.map V.str))) (hb : H b = some (.lst (ks.map V.str))) (hl : ws.length ≤ 1000)
    (q : ∀ p H', Ex H H' → H' p = some (.lst ((ws.filter fun x => !decide (x ∈ ks)).map V.str)) → Q (.ref p) H') :
    tLc (iList K (tVar i)) (gName n) (tTest (tOp (rIn K true) (tVar n) (tVar j))) (tVar n) [n] σ H Q := by
  refine ⟨_, hi, a, rfl, ⟨_, SqL.of ha⟩, fun D nD => ?_⟩
  refine lc_list (xs := ws.map V.str) (fun i H' => Ex H H' ∧ H' D = some (.lst (((ws.take i).filter fun x => !decide (x ∈ ks)).map V.str))) ⟨exn nD, upd_same⟩ (fun i H' _ h => SqL.of (h.1 _ _ ha)) ?_ ?_
  · rintro k x H' hx ⟨e1, h1⟩
    rw [List.getElem?_map] at hx
    cases hz : ws[k]? with
    | none => rw [hz] at hx; cases hx
    | some y =>
      rw [hz] at hx
      obtain rfl : V.str y = x := Option.some.inj hx
      have hk : k < ws.length := (List.getElem?_eq_some_iff.mp hz).1
      have g1 : ((wipe σ [n]).set n (some (.str y)))[n]? = some (some (.str y)) := by simp [List.getElem?_set, hn]
      have g2 : ((wipe σ [n]).set n (some (.str y)))[j]? = some (some (.ref b)) := by rw [List.getElem?_set_ne (fun z => jn z.symm)]; exact hj
      refine ⟨wipe_set, _, g1, _, g2, b, _, rfl, .inl (SqL.of (e1 _ _ hb)), rfl, flat_strs ks, _, rfl, ?_⟩
      rw [if_pos rfl, inV_str]
      cases hd : decide (y ∈ ks) with
      | false =>
        have ht : (ws.take (k + 1)).filter (fun x => !decide (x ∈ ks)) = (ws.take k).filter (fun x => !decide (x ∈ ks)) ++ [y] := by
          rw [List.take_add_one, hz, List.filter_append]
          simp only [Option.toList_some, List.filter_cons, List.filter_nil, hd, Bool.not_false, if_true]
        rw [ht]
        refine iteT ⟨_, g1, _, h1, ?_, exm e1 nD, ?_⟩
        · have := List.length_filter_le (fun x => !decide (x ∈ ks)) (ws.take k)
          rw [List.length_take] at this
          rw [List.length_map, sizeLine_eq]
          omega
        · rw [upd_same, List.map_append]
          rfl
      | true =>
        have ht : (ws.take (k + 1)).filter (fun x => !decide (x ∈ ks)) = (ws.take k).filter (fun x => !decide (x ∈ ks)) := by
          rw [List.take_add_one, hz, List.filter_append]
          simp only [Option.toList_some, List.filter_cons, List.filter_nil, hd, Bool.not_true, if_false, Bool.false_eq_true, List.append_nil]
        rw [ht]
        exact iteF ⟨e1, h1⟩
  · rintro H' ⟨e1, h1⟩
    rw [List.length_map, List.take_length] at h1
    exact q D H' e1 h1
/-- behind a lock -/
theorem unlockD {H H' : Hp} {d : Addr} {od : Obj} {u : HO} (hd : H d = some u) (x : Ex (upd H d (.frz od u)) H') : Ex H (upd H' d u) := fun a o h => by
  by_cases z : a = d
  · subst z
    rw [upd_same]
    rw [h] at hd
    exact hd.symm
  · rw [upd_ne z]
    exact x _ _ (by rw [upd_ne z]; exact h)
theorem tup_unlock {H' : Hp} {d t : Addr} {od : Obj} {u : HO} {xs : List V} (hd : H' d = some (.frz od u)) (h : H' t = some (.tup xs)) : upd H' d u t = some (.tup xs) := by
  rw [upd_ne (fun z => by rw [z, hd] at h; cases h)]
  exact h
/-- dict([(k, ..) for k in d]) -/
theorem dk_go {σ : L2.St} {H : Hp} {Q : VK} {i n : Nat} {d : Addr} {kvs : List (Key × V)} {ws : List Str} {te2 : TE} (hi : σ[i]? = some (some (.ref d))) (hd : H d = some (.dK kvs)) (hk : kvs.map (·.1) = ws.map Sum.inr) (hnd : ws.Nodup) (hn : n < (wipe σ [n]).length) (hl : ws.length ≤ 1000)
    (Rel : Str → V → Hp → Prop) (mono : ∀ k y H1 H2, Ex H1 H2 → Rel k y H1 → Rel k y H2) (ne : ∀ k y H1 p o, (∀ xs, H1 p ≠ some (.tup xs)) → Rel k y H1 → Rel k y (upd H1 p o))
    (hte : ∀ od k H', k ∈ ws → Ex (upd H d (.frz od (.dK kvs))) H' → ∀ Q' : VK, (∀ y H'', Ex H' H'' → Rel k y H'' → Q' y H'') → te2 ((wipe σ [n]).set n (some (.str k))) H' Q')
    (q : ∀ p H' (out : List (Key × V)), Ex H H' → H p = none → H' p = some (.dK out) → out.map (·.1) = ws.map Sum.inr → (∀ kv ∈ out, ∃ k ∈ ws, kv.1 = Sum.inr k ∧ Rel k kv.2 H') → Q (.ref p) H') :
    tCB (fun xs H_1 Q => ∃ a ps kvs, xs = [V.ref a] ∧ SqL K H_1 a (List.map V.ref ps) ∧ Paired (fun p kv => SqT K H_1 p [kV kv.fst, kv.snd]) ps kvs ∧ ∀ (p : Addr), H_1 p = none → Q (V.ref p) (upd H_1 p (HO.dK (mergeK [] kvs))))
      (tCons (tLockE (tLc (iKeys (tVar i)) (gName n) tYes (tTup (tCons (tVar n) (tCons te2 tNil))) [n])) tNil) σ H Q := by
  refine ⟨d, _, hd, trivial, fun od => ⟨_, hi, d, od, rfl, .inl ⟨kvs, upd_same, fun D nD => ?_⟩⟩⟩
  have dD : D ≠ d := fun z => by rw [z, upd_same] at nD; cases nD
  have hlen : kvs.length = ws.length := by have := congrArg List.length hk; simpa using this
  refine lc_it walk_keys (fun i H' => ∃ (ps : List Addr) (out : List (Key × V)), Ex (upd H d (.frz od (.dK kvs))) H' ∧ H' D = some (.lst (ps.map V.ref)) ∧ Paired (fun p kv => H' p = some (.tup [kV kv.1, kv.2])) ps out ∧ out.map (·.1) = (ws.take i).map Sum.inr ∧ (∀ kv ∈ out, ∃ k ∈ ws, kv.1 = Sum.inr k ∧ Rel k kv.2 H') ∧ ps.length = i) ⟨[], [], exn nD, upd_same, .nil, rfl, fun _ h => (nomatch h), rfl⟩ ?_ ?_ ?_
  · rintro j H' _ ⟨_, _, e1, _⟩
    exact e1 _ _ upd_same
  · rintro j x H' H'' hj ⟨ps, out, e1, h1, pr, ok, rel, pl⟩ ⟨rfl, k, v, hkv, rfl⟩
    have hw : ∃ kk, ws[j]? = some kk ∧ k = Sum.inr kk := by
      have h2 : (ws.map (Sum.inr : Str → Key))[j]? = some k := by rw [← hk, List.getElem?_map, hkv]; rfl
      rw [List.getElem?_map] at h2
      cases hz : ws[j]? with
      | none => rw [hz] at h2; cases h2
      | some kk => rw [hz] at h2; exact ⟨kk, rfl, (Option.some.inj h2).symm⟩
    obtain ⟨kk, hz, rfl⟩ := hw
    have hj' : j < ws.length := (List.getElem?_eq_some_iff.mp hz).1
    have g1 : ((wipe σ [n]).set n (some (.str kk)))[n]? = some (some (.str kk)) := by simp [List.getElem?_set, hn]
    refine ⟨wipe_set, _, g1, ?_⟩
    refine hte od kk H'' (List.mem_of_getElem? hz) e1 _ fun y H3 e3 r3 => ?_
    refine ⟨by show (2 : Nat) ≤ sizeLine; decide, fun t nt => ?_⟩
    have e4 := exn (o := .tup [.str kk, y]) nt
    have hD3 := e3 _ _ h1
    have hD4 := e4 _ _ hD3
    have tD : t ≠ D := (ne_of_none hD3 nt).symm
    have lD : ∀ xs, upd H3 t (.tup [.str kk, y]) D ≠ some (.tup xs) := fun xs z => by rw [hD4] at z; cases z
    refine ⟨_, hD4, ?_, ps ++ [t], out ++ [(Sum.inr kk, y)], ?_, ?_, ?_, ?_, ?_, ?_⟩
    · rw [List.length_map, pl, sizeLine_eq]; omega
    · exact exm (ext (ext e1 e3) e4) nD
    · rw [upd_same, List.map_append]; rfl
    · refine Paired.snoc (Paired.mapP pr fun p kv h => ?_) ?_
      · have h' := e4 _ _ (e3 _ _ h)
        rw [upd_ne (fun z => by rw [z] at h'; exact lD _ h')]
        exact h'
      · rw [upd_ne tD, upd_same]
        rfl
    · rw [List.map_append, ok, List.take_add_one, hz]
      simp
    · intro kv hkv
      rcases List.mem_append.mp hkv with h | h
      · obtain ⟨k, kw, z, r⟩ := rel kv h
        exact ⟨k, kw, z, ne _ _ _ _ _ lD (mono _ _ _ _ (ext e3 e4) r)⟩
      · rw [List.mem_singleton.mp h]
        exact ⟨kk, List.mem_of_getElem? hz, rfl, ne _ _ _ _ _ lD (mono _ _ _ _ e4 r3)⟩
    · rw [List.length_append, pl]; rfl
  · rintro H' ⟨ps, out, e1, h1, pr, ok, rel, pl⟩
    rw [hlen, List.take_length] at ok
    have hdd := e1 _ _ (upd_same (H := H) (a := d))
    refine ⟨hdd, D, ps, out, rfl, SqL.of (by rw [upd_ne dD]; exact h1), Paired.mapP pr fun p kv h => SqT.of (tup_unlock hdd h), fun p np => ?_⟩
    rw [merge_nil (by rw [ok]; exact nodup_inr hnd)]
    have e2 := unlockD hd e1
    have e3 := exn (o := .dK out) np
    refine q p _ out (ext e2 e3) (exb e2 np) upd_same ok fun kv hkv => ?_
    obtain ⟨k, kw, z, r⟩ := rel kv hkv
    exact ⟨k, kw, z, mono _ _ _ _ e3 (ne _ _ _ _ _ (fun xs z => by rw [hdd] at z; cases z) r)⟩
theorem nodup_eq {α : Type} {f : α → Str} {l : List α} (h : (l.map f).Nodup) {x y : α} (hx : x ∈ l) (hy : y ∈ l) (e : f x = f y) : x = y := by
  induction l with
  | nil => cases hx
  | cons a r ih =>
    rw [List.map_cons, List.nodup_cons] at h
    rcases List.mem_cons.mp hx with zx | hx'
    · rcases List.mem_cons.mp hy with zy | hy'
      · rw [zx, zy]
      · exact absurd (by rw [← zx, e]; exact List.mem_map_of_mem hy') h.1
    · rcases List.mem_cons.mp hy with zy | hy'
      · exact absurd (by rw [← zy, ← e]; exact List.mem_map_of_mem hx') h.1
      · exact ih h.2 hx' hy'
theorem ents_of {H : Hp} {es : List Ent} {f : List Str → List Str} (hn : (es.map (·.1)).Nodup) : ∀ (out : List (Key × V)) (es' : List Ent), (∀ e ∈ es', e ∈ es) → out.map (·.1) = (es'.map (·.1)).map Sum.inr →
    (∀ kv ∈ out, ∃ k ∈ es.map (·.1), kv.1 = Sum.inr k ∧ ∃ (e : Ent) (t : Addr), e ∈ es ∧ e.1 = k ∧ kv.2 = .ref t ∧ H t = some (.tup ((f e.2.1).map V.str))) →
    ∃ esL : List Ent, out = esL.map rKV ∧ (esL.map dat = es'.map fun e => (e.1, f e.2.1)) ∧ ∀ e ∈ esL, H e.2.2 = some (.tup (e.2.1.map V.str))
  | [], es', _, h, _ => by
    have : es' = [] := by
      cases es' with
      | nil => rfl
      | cons a r => simp at h
    subst this
    exact ⟨[], rfl, rfl, fun _ h => (nomatch h)⟩
  | kv :: r, es', hs, h, hr => by
    cases es' with
    | nil => simp at h
    | cons a s =>
      simp only [List.map_cons, List.cons.injEq] at h
      obtain ⟨k, _, z, e, t, he, hk, hv, ht⟩ := hr kv List.mem_cons_self
      have ha := hs a List.mem_cons_self
      have ea : e = a := nodup_eq hn he ha (by rw [hk]; exact Sum.inr.inj (z.symm.trans h.1))
      subst ea
      obtain ⟨esL, h1, h2, h3⟩ := ents_of hn r s (fun e he => hs e (List.mem_cons_of_mem _ he)) h.2 fun kv hkv => hr kv (List.mem_cons_of_mem _ hkv)
      refine ⟨(e.1, f e.2.1, t) :: esL, ?_, ?_, ?_⟩
      · rw [List.map_cons, h1]
        congr 1
        exact Prod.ext h.1 hv
      · rw [List.map_cons, h2, List.map_cons]
        rfl
      · intro x hx
        rcases List.mem_cons.mp hx with rfl | hx
        · exact ht
        · exact h3 x hx
theorem sts_of {ss : List (Str × Str)} {f : Str → Str} (hn : (ss.map (·.1)).Nodup) : ∀ (out : List (Key × V)) (ss' : List (Str × Str)), (∀ e ∈ ss', e ∈ ss) → out.map (·.1) = (ss'.map (·.1)).map Sum.inr →
    (∀ kv ∈ out, ∃ k ∈ ss.map (·.1), kv.1 = Sum.inr k ∧ ∃ e : Str × Str, e ∈ ss ∧ e.1 = k ∧ kv.2 = .str (f e.2)) → out = (ss'.map fun e => (e.1, f e.2)).map sKV
  | [], ss', _, h, _ => by
    have : ss' = [] := by
      cases ss' with
      | nil => rfl
      | cons a r => simp at h
    subst this
    rfl
  | kv :: r, ss', hs, h, hr => by
    cases ss' with
    | nil => simp at h
    | cons a s =>
      simp only [List.map_cons, List.cons.injEq] at h
      obtain ⟨k, _, z, e, he, hk, hv⟩ := hr kv List.mem_cons_self
      have ha := hs a List.mem_cons_self
      have ea : e = a := nodup_eq hn he ha (by rw [hk]; exact Sum.inr.inj (z.symm.trans h.1))
      subst ea
      have h1 := sts_of hn r s (fun e he => hs e (List.mem_cons_of_mem _ he)) h.2 fun kv hkv => hr kv (List.mem_cons_of_mem _ hkv)
      rw [List.map_cons, List.map_cons, ← h1]
      congr 1
      exact Prod.ext h.1 hv
theorem SrtE.mem {es es' : List Ent} (h : SrtE es es') (hn : (es.map (·.1)).Nodup) {x : Ent} : x ∈ es' ↔ x ∈ es := ⟨h.sub x, fun hx => by
  have : x.1 ∈ es'.map (·.1) := h.pm.mem_iff.mpr (List.mem_map_of_mem hx)
  obtain ⟨y, hy, e⟩ := List.mem_map.mp this
  rw [nodup_eq hn hx (h.sub y hy) e.symm]
  exact hy⟩
theorem SrtS.mem {es es' : List (Str × Str)} (h : SrtS es es') (hn : (es.map (·.1)).Nodup) {x : Str × Str} : x ∈ es' ↔ x ∈ es := ⟨h.sub x, fun hx => by
  have : x.1 ∈ es'.map (·.1) := h.pm.mem_iff.mpr (List.mem_map_of_mem hx)
  obtain ⟨y, hy, e⟩ := List.mem_map.mp this
  rw [nodup_eq hn hx (h.sub y hy) e.symm]
  exact hy⟩
theorem SrtE.nd {es es' : List Ent} (h : SrtE es es') (hn : (es.map (·.1)).Nodup) : (es'.map (·.1)).Nodup := h.pm.nodup_iff.mpr hn
theorem SrtS.nd {es es' : List (Str × Str)} (h : SrtS es es') (hn : (es.map (·.1)).Nodup) : (es'.map (·.1)).Nodup := h.pm.nodup_iff.mpr hn
theorem SrtE.look {es es' : List Ent} (h : SrtE es es') (hn : (es.map (·.1)).Nodup) {k : Str} (hk : k ∈ es.map (·.1)) : look (es'.map dat) k = look (es.map dat) k := by
  obtain ⟨x, hx, rfl⟩ := List.mem_map.mp hk
  rw [look_at hn hx, look_at (h.nd hn) ((h.mem hn).mpr hx)]
theorem putL_congr {d1 d2 : List (Str × List Str)} : ∀ {row : List Str}, (∀ k ∈ row, look d1 k = look d2 k) → putL d1 row = putL d2 row
  | [], _ => rfl
  | a :: r, h => by
    show look d1 a ++ putL d1 r = look d2 a ++ putL d2 r
    rw [h a List.mem_cons_self, putL_congr fun k hk => h k (List.mem_cons_of_mem _ hk)]
theorem u_cat {t1 t2 t3 : TE} {r1 r2 : R2} {u v : TS} {D : Ends} {σ : L2.St} {H : Hp} (h : t1 σ H fun x H1 => t2 σ H1 fun y H2 => r2 x y H2 fun z H3 => t3 σ H3 fun z' H4 => r1 z z' H4 fun b H5 => ∃ k, b = .bl k ∧ if k = true then u D σ H5 else v D σ H5) : tIfS (tTest (tOp r1 (tOp r2 t1 t2) t3)) u v D σ H := h
theorem u_if {t1 t3 : TE} {r1 : R2} {u v : TS} {D : Ends} {σ : L2.St} {H : Hp} (h : t1 σ H fun z H3 => t3 σ H3 fun z' H4 => r1 z z' H4 fun b H5 => ∃ k, b = .bl k ∧ if k = true then u D σ H5 else v D σ H5) : tIfS (tTest (tOp r1 t1 t3)) u v D σ H := h
theorem u_asg {te : TE} {g : TG} {u : TS} {D : Ends} {σ : L2.St} {H : Hp} (h : te σ H fun x H1 => g x σ H1 (u D)) : tSeq (tAsg te g) u D σ H := h
theorem u_asg1 {te : TE} {g : TG} {D : Ends} {σ : L2.St} {H : Hp} (h : te σ H fun x H1 => g x σ H1 D.nx) : tAsg te g D σ H := h
theorem wd_size {x : Str} (h : Wd x) : x.cps.size ≤ 1000 := by
  have := h.hi
  rw [Array.length_toList] at this
  omega
theorem u_or {t1 t2 : TE} {u v : TS} {D : Ends} {σ : L2.St} {H : Hp} (h : t1 σ H fun x H1 => ∃ k, x = .bl k ∧ if k = true then (if true = true then u D σ H1 else v D σ H1) else t2 σ H1 fun x H2 => ∃ k, x = .bl k ∧ if k = true then u D σ H2 else v D σ H2) : tIfS (tOr (tTest t1) (tTest t2)) u v D σ H := h
theorem u_seq {t u : TS} {D : Ends} {σ : L2.St} {H : Hp} (h : t { D with nx := u D } σ H) : tSeq t u D σ H := h
theorem look_none {ds : List (Str × List Str)} {k : Str} (h : k ∉ ds.map (·.1)) : look ds k = [] := by
  unfold look
  rw [List.find?_eq_none.mpr fun x hx => by
    simp only [decide_eq_true_eq]
    exact fun z => h (List.mem_map.mpr ⟨x, hx, z⟩)]
  rfl
theorem eqv_refl_strs : ∀ ws : List Str, PyData.eqv (.tuple (ws.map PyData.str)) (.tuple (ws.map PyData.str)) = true := fun ws => by
  rw [PyData.eqv]
  induction ws with
  | nil => rfl
  | cons a r ih => simp only [List.map_cons, PyData.eqvAll, ih, PyData.eqv, Bool.and_true]; simp
theorem cutV_1 {ws : List Str} : cutV (ws.map V.str) (some 1) none = (ws.drop 1).map V.str := by
  unfold cutV
  rw [show HT.sIx (ws.map V.str).length 0 (some 1) = min 1 (ws.map V.str).length from HT.sIx_nat _ _ 1, HT.sIx_none]
  rw [List.map_drop]
  cases ws with
  | nil => rfl
  | cons a r =>
    rw [show min 1 (List.map V.str (a :: r)).length = 1 from by simp]
    rw [List.take_of_length_le (by simp)]
theorem u_next {u bk ct : L2.St → Hp → Prop} {rt : VK} {σ : L2.St} {H : Hp} (h : u σ H) : tNext { nx := u, rt := rt, bk := bk, ct := ct } σ H := h
theorem asg3 {t1 t2 t3 : TE} {g : TG} {u : TS} {D : Ends} {σ : L2.St} {H : Hp} (h : t1 σ H fun x H1 => t2 σ H1 fun y H2 => t3 σ H2 fun z H3 => [x, y, z].length ≤ sizeLine ∧ ∀ p, H3 p = none → g (.ref p) σ (upd H3 p (.tup [x, y, z])) fun σ' H' => u D σ' H') : tSeq (tAsg (tTup (tCons t1 (tCons t2 (tCons t3 tNil)))) g) u D σ H := h
theorem _root_.Sn.Sts.exN {H H' : Hp} {p : Addr} {ss : List (Str × Str)} (h : Sts H p ss) (x : ExtN H H') : Sts H' p ss := x _ _ h (fun _ z => by cases z)
/-- dicts of rows, of texts, are not the source of draws -/
theorem _root_.Sn.Rws.ns {H : Hp} {sa la ca p : Addr} {T : Nat} {es : List Ent} (D : Dr H sa la ca T) (R : Rws H p es) : p ≠ sa ∧ p ≠ la := by
  obtain ⟨⟨ls, cs, r, t, a, b, _⟩, _⟩ := D
  constructor
  · intro z
    have h := R.1
    rw [z, a] at h
    have h2 : dkv la ca r t = es.map rKV := by injection (Option.some.inj h)
    match es, h2 with
    | [], h2 => cases h2
    | [_], h2 => exact absurd (congrArg List.length h2) (by simp [dkv])
    | [_, _], h2 => exact absurd (congrArg List.length h2) (by simp [dkv])
    | _ :: _ :: e :: _, h2 =>
      have h3 := congrArg (fun l => (l[2]?).map (·.2)) h2
      have h4 : (some (V.int r) : Option V) = some (V.ref e.2.2) := h3
      cases h4
  · intro z
    have h := R.1
    rw [z, b] at h
    cases h
theorem _root_.Sn.Sts.ns {H : Hp} {sa la ca p : Addr} {T : Nat} {ss : List (Str × Str)} (D : Dr H sa la ca T) (R : Sts H p ss) : p ≠ sa ∧ p ≠ la := by
  obtain ⟨⟨ls, cs, r, t, a, b, _⟩, _⟩ := D
  constructor
  · intro z
    have h : H p = _ := R
    rw [z, a] at h
    have h2 : dkv la ca r t = ss.map sKV := by injection (Option.some.inj h)
    match ss, h2 with
    | [], h2 => cases h2
    | e :: _, h2 =>
      have h3 := congrArg (fun l => (l[0]?).map (·.2)) h2
      have h4 : (some (V.ref la) : Option V) = some (V.str e.2) := h3
      cases h4
  · intro z
    have h : H p = _ := R
    rw [z, b] at h
    cases h
theorem _root_.Sn.Rws.cutE {H H' : Hp} {sa la ca p : Addr} {T : Nat} {es : List Ent} (R : Rws H p es) (D : Dr H sa la ca T) (e : Ex (cut H sa la) H') : Rws H' p es := ⟨cut_to e R.1 (R.ns D).1 (R.ns D).2, fun x hx => cut_to e (R.2 x hx) (D.tn (R.2 x hx)).1 (D.tn (R.2 x hx)).2⟩
theorem _root_.Sn.Sts.cutE {H H' : Hp} {sa la ca p : Addr} {T : Nat} {ss : List (Str × Str)} (R : Sts H p ss) (D : Dr H sa la ca T) (e : Ex (cut H sa la) H') : Sts H' p ss := cut_to e R (R.ns D).1 (R.ns D).2
theorem _root_.Sn.Dr.inn {H : Hp} {sa la ca p C dx : Addr} {T : Nat} {fs : List (Str × V)} (D : Dr H sa la ca T) (h : H p = some (.ins C dx fs)) : p ≠ sa ∧ p ≠ la := by
  obtain ⟨⟨_, _, _, _, a, b, _⟩, _⟩ := D
  exact ⟨fun z => (by rw [z, a] at h; cases h), fun z => (by rw [z, b] at h; cases h)⟩
theorem pe_weak {X : Cx} {e : Expr} {t t' : TE} (h : PE X e t) (k : ∀ σ H Q, t' σ H Q → t σ H Q) : PE X e t' := ⟨fun pins s σ H Q I q => h.run pins s σ H Q I (k σ H Q q)⟩
/-- lift(x) of two names -/
def tCO (C : Addr) (sp : Sp) (i j : Nat) (E : XK) : TE := fun σ H Q => ∃ (a : Addr) (r : V), σ[i]? = some (some (.ref a)) ∧ σ[j]? = some (some r) ∧ (∃ dx fs, H a = some (.ins C dx fs)) ∧ sp [.ref a, r] H Q E
theorem co_of {X : Cx} {C : Addr} {sp : Sp} {i j : Nat} {E : XK} : ∀ σ H Q, tCO C sp i j E σ H Q → StX.tCallO X C sp E (tVar i) (tCons (tVar j) tNil) σ H Q := by
  rintro σ H Q ⟨a, r, h1, h2, h3, h⟩
  exact ⟨_, h1, a, rfl, _, h2, .inr h3, h⟩
theorem catA {H : Hp} {Q : VK} {a b : Addr} {xs ys : List V} (ha : H a = some (.tup xs)) (hb : H b = some (.tup ys)) (hl : xs.length + ys.length ≤ sizeLine) (q : ∀ p H', Ex H H' → H' p = some (.tup (xs ++ ys)) → Q (.ref p) H') : rCatA K (.ref a) (.ref b) H Q :=
  ⟨a, b, xs, ys, rfl, rfl, SqT.of ha, SqT.of hb, hl, fun z => q b H exr (by rw [z]; exact hb), fun _ z => q a H exr (by rw [z, List.append_nil]; exact ha), fun _ _ p np => q p _ (exn np) upd_same⟩
theorem slA {H : Hp} {Q : VK} {a : Addr} {xs : List V} {lo hi : Option Int} (ha : H a = some (.tup xs)) (q : ∀ p H', Ex H H' → H' p = some (.tup (cutV xs lo hi)) → Q (.ref p) H') : rSlA K (.ref a) lo hi H Q :=
  ⟨a, xs, rfl, SqT.of ha, fun z => q a H exr (by
    unfold cutV
    rw [z.1, z.2, List.drop_zero, List.take_of_length_le (by simp)]
    exact ha), fun _ p np => q p _ (exn np) upd_same⟩
theorem cut_lo {xs : List V} {n : Nat} (h : n ≤ xs.length) : cutV xs none (some (n : Int)) = xs.take n := by
  unfold cutV
  rw [HT.sIx_none, HT.sIx_nat, Nat.min_eq_left h]
  simp
theorem cut_hi {xs : List V} {n : Nat} (h : n ≤ xs.length) : cutV xs (some (n : Int)) none = xs.drop n := by
  unfold cutV
  rw [HT.sIx_none, HT.sIx_nat, Nat.min_eq_left h, List.take_of_length_le (by simp)]
/-- told is what is due -/
theorem eq_tup2 {H : Hp} {Q : VK} {p q : Addr} {s : Str} {v : V} {d : PyData} (hp : H p = some (.tup [.str s, v])) (hq : H q = some (.tup [.str s, v])) (hd : Dp K H v d) (sh : SeqAt.shaped (.tuple [.str s, d]) = true) (ev : PyData.eqv d d = true) (k : Q (.bl false) H) : rNeD K (.ref p) (.ref q) H Q := by
  refine ⟨_, _, .tup (SqT.of hp) (.cons (.str _) (.cons hd .nil)), .tup (SqT.of hq) (.cons (.str _) (.cons hd .nil)), sh, sh, ?_⟩
  have : PyData.eqv (.tuple [.str s, d]) (.tuple [.str s, d]) = true := by simp [PyData.eqv, PyData.eqvAll, ev]
  rw [this]
  exact k
theorem sh_int {s : Str} {n : Int} (h : (PyData.str s).canLay0 = true) : SeqAt.shaped (.tuple [.str s, .int n]) = true := shaped_tup fun d hd => by
  rcases List.mem_cons.mp hd with rfl | hd
  · exact ⟨h, by simp [PyData.depth]⟩
  · rw [List.mem_singleton.mp hd]
    simp [PyData.canLay0, PyData.depth]
theorem neD_refl {H : Hp} {Q : VK} {p q : Addr} {ws : List Str} (hp : H p = some (.tup (ws.map V.str))) (hq : H q = some (.tup (ws.map V.str))) (hw : ∀ x ∈ ws, Wd x) (k : Q (.bl false) H) : rNeD K (.ref p) (.ref q) H Q := by
  refine ⟨_, _, dp_strsT (SqT.of hp), dp_strsT (SqT.of hq), shaped_wordsT hw, shaped_wordsT hw, ?_⟩
  rw [eqv_refl_strs]
  exact k
theorem v_or {t1 : TE} {c2 : TT} {u v : TS} {D : Ends} {σ : L2.St} {H : Hp} (h : t1 σ H fun x H1 => ∃ k, x = .bl k ∧ if k = true then (if true = true then u D σ H1 else v D σ H1) else c2 σ H1 fun b H2 => if b = true then u D σ H2 else v D σ H2) : tIfS (tOr (tTest t1) c2) u v D σ H := h
theorem v_and {t1 t2 : TE} {u v : TS} {D : Ends} {σ : L2.St} {H : Hp} (h : t1 σ H fun x H1 => ∃ k, x = .bl k ∧ if k = true then (t2 σ H1 fun y H2 => ∃ k, y = .bl k ∧ if k = true then u D σ H2 else v D σ H2) else (if false = true then u D σ H1 else v D σ H1)) : tIfS (tAnd (tTest t1) (tTest t2)) u v D σ H := h
theorem v_or2 {t1 : TE} {c2 : TT} {Q : Bool → Hp → Prop} {σ : L2.St} {H : Hp} (h : t1 σ H fun x H1 => ∃ k, x = .bl k ∧ if k = true then Q true H1 else c2 σ H1 Q) : tOr (tTest t1) c2 σ H Q := h
theorem v_op {r : R2} {ta tb : TE} {σ : L2.St} {H : Hp} {Q : VK} (h : ta σ H fun x H1 => tb σ H1 fun y H2 => r x y H2 Q) : tOp r ta tb σ H Q := h
theorem rep2 {Q : VK} {p : Addr} {xs : List V} {k : Nat} (hp : H p = some (.tup xs)) (hl : xs.length ≤ 1000) (k1 : 2 ≤ k) (k2 : k ≤ 1000) (q : ∀ p H', Ex H H' → H' p = some (.tup (List.replicate k xs).flatten) → Q (.ref p) H') : rRepT K (.ref p) (.int (k : Int)) H Q ∨ rRepS K (.ref p) (.int (k : Int)) H Q := by
  by_cases hx : xs = []
  · subst hx
    refine .inr ⟨p, k, _, rfl, rfl, SqT.of hp, .inl rfl, by omega, by omega, q p H exr ?_⟩
    rw [hp]
    congr 2
    clear k1 k2 q
    induction k with
    | zero => rfl
    | succ k ih => rw [List.replicate_succ, List.flatten_cons, List.nil_append]; exact ih
  · refine .inl ⟨p, k, _, rfl, rfl, SqT.of hp, hx, by omega, by omega, hl, fun p' np => ?_⟩
    exact q p' _ (exn np) (by rw [upd_same, Int.toNat_natCast])
theorem put_rep {ds : List (Str × List Str)} {r : List Str} : ∀ k : Nat, putL ds (List.replicate k r).flatten = (List.replicate k (putL ds r)).flatten
  | 0 => rfl
  | k + 1 => by
    have ih := put_rep (ds := ds) (r := r) k
    rw [List.replicate_succ, List.flatten_cons, List.replicate_succ, List.flatten_cons, ← ih]
    unfold putL
    rw [List.flatMap_append]
theorem rep_str {r : List Str} {k : Nat} : (List.replicate k (r.map V.str)).flatten = ((List.replicate k r).flatten).map V.str := by
  rw [List.map_flatten, List.map_replicate]
theorem rep_mem {r : List Str} {x : Str} : ∀ {k : Nat}, x ∈ (List.replicate k r).flatten → x ∈ r
  | 0, h => by cases h
  | k + 1, h => by
    rw [List.replicate_succ, List.flatten_cons] at h
    exact (List.mem_append.mp h).elim id rep_mem
theorem rep_len {r : List Str} : ∀ {k : Nat}, ((List.replicate k r).flatten).length = k * r.length
  | 0 => by simp
  | k + 1 => by
    rw [List.replicate_succ, List.flatten_cons, List.length_append, rep_len, Nat.succ_mul]
    omega
theorem u_nx {u bk ct : L2.St → Hp → Prop} {rt : VK} {σ : L2.St} {H : Hp} (h : u σ H) : ({ nx := u, rt := rt, bk := bk, ct := ct } : Ends).nx σ H := h
theorem strs_ns {H : Hp} {sa la ca p : Addr} {T : Nat} {ks : List Str} (D : Dr H sa la ca T) (h : H p = some (.lst (ks.map V.str))) (k0 : ks ≠ []) : p ≠ sa ∧ p ≠ la := by
  obtain ⟨⟨ls, cs, r, t, a, b, _⟩, _⟩ := D
  constructor
  · intro z
    rw [z, a] at h
    cases h
  · intro z
    rw [z, b] at h
    have h2 : ls.map V.int = ks.map V.str := by injection (Option.some.inj h)
    match ls, ks, h2, k0 with
    | [], [], _, k0 => exact k0 rfl
    | [], _ :: _, h2, _ => simp at h2
    | _ :: _, [], h2, _ => simp at h2
    | a :: _, b :: _, h2, _ => simp at h2
theorem TabS.none {H : Hp} {P : Addr} {q : Str} (h : H P = some (.tbl #[])) : TabS H P q := ⟨#[], h, trivial, fun _ _ z => by cases z⟩
theorem FunT.binds {K : PySem.W.Frag} {x qual : Str} {st : Stmt} {f c : Addr} {fd : FuncData} {ps : List Str} (F : FunT K x qual st f fd c)
    (h : ∀ (kV doc pm : Value) (an : Option Addr) (cdv ct : Value) (us : List Value), us.length = ps.length → bindArgs (PySem.W.fnOf x qual (defArgs st) (defBody st) (defScope st) .none kV doc pm an cdv ct) ⟨us, []⟩ = pure (ps.zip us)) : Binds K fd ps [] := by
  obtain ⟨oc, od, kV, doc, pm, an, ct, osl, rfl, lk, hcd⟩ := F.ex
  exact .all (h kV doc pm an (.ref c) ct)
/-- something that is no kind -/
def Odd (H : Hp) (x : V) : Prop := x = .non ∨ (∃ i, x = .int i) ∨ (∃ s, x = .str s ∧ ¬ Wd s) ∨ ∃ p, x = .ref p ∧ (H p = some (.tup [.str "a"]) ∨ H p = some (.lst []) ∨ H p = some (.dK []))
def Off (sa la : Addr) (x : V) : Prop := ∀ p, x = .ref p → p ≠ sa ∧ p ≠ la
theorem Odd.map {x : V} (h : Odd H x) (k : ∀ p o, x = .ref p → H p = some o → (∀ ps, o ≠ .tbl ps) → H' p = some o) : Odd H' x := by
  rcases h with h | h | h | ⟨p, rfl, h⟩
  · exact .inl h
  · exact .inr (.inl h)
  · exact .inr (.inr (.inl h))
  · refine .inr (.inr (.inr ⟨p, rfl, ?_⟩))
    rcases h with h | h | h
    · exact .inl (k _ _ rfl h (fun _ z => by cases z))
    · exact .inr (.inl (k _ _ rfl h (fun _ z => by cases z)))
    · exact .inr (.inr (k _ _ rfl h (fun _ z => by cases z)))
theorem Odd.itm {x : V} (h : Odd H x) : Itm K H x := by
  rcases h with rfl | ⟨i, rfl⟩ | ⟨s, rfl, _⟩ | ⟨p, rfl, h⟩
  · exact .inr ⟨_, .base .non, kit_ty (by decide +kernel)⟩
  · exact .inr ⟨_, .base (.int i), kit_ty (by decide +kernel)⟩
  · exact .inl ⟨s, rfl⟩
  · rcases h with h | h | h
    · exact .inr ⟨_, .base (.tup h), kit_ty (by decide +kernel)⟩
    · exact .inr ⟨_, .base (.lst h), kit_ty (by decide +kernel)⟩
    · exact .inr ⟨_, .base (.dK h), kit_ty (by decide +kernel)⟩
theorem Odd.bad {x : V} (h : Odd H x) {ks : List Str} (hk : ∀ y ∈ ks, Wd y) : good ks x = false := by
  rcases h with rfl | ⟨i, rfl⟩ | ⟨s, rfl, hs⟩ | ⟨p, rfl, h⟩
  · rfl
  · rfl
  · exact decide_eq_false fun z => hs (hk s z)
  · rfl
end
end Sn
namespace Sn
open Evl (Ex)
open PySem L2
def top (i : Nat) : Stmt := PySem.Challenge.pw_snaplifts_k03_rows_led.main.body.getD i (.Pass ⟨0, 0, 0, 0⟩)
abbrev s_NoKind___init : Stmt := inClass (top 4) 0
abbrev s_NoHistory___init : Stmt := inClass (top 9) 0
abbrev s_NotRight___init : Stmt := inClass (top 10) 0
abbrev s_is_word : Stmt := top 22
abbrev s_are_words : Stmt := top 23
abbrev s_is_goal : Stmt := top 24
abbrev s_are_steps : Stmt := top 25
abbrev s_are_tells : Stmt := top 26
abbrev s_Edition___init : Stmt := inClass (top 27) 0
abbrev s_Edition_kinds : Stmt := inClass (top 27) 1
abbrev s_Edition_states : Stmt := inClass (top 27) 2
abbrev s_Edition_start : Stmt := inClass (top 27) 3
abbrev s_Edition_steps : Stmt := inClass (top 27) 4
abbrev s_Edition_tells : Stmt := inClass (top 27) 5
abbrev s_Edition___call : Stmt := inClass (top 27) 6
abbrev s_Edition_led : Stmt := inClass (top 27) 7
abbrev s_Edition_told : Stmt := inClass (top 27) 8
abbrev s_Edition_least_rows : Stmt := inClass (top 27) 9
abbrev s_Edition_come : Stmt := inClass (top 27) 10
abbrev s_Edition_least : Stmt := inClass (top 27) 11
abbrev s_Edition___contains : Stmt := inClass (top 27) 12
abbrev s_Edition___len : Stmt := inClass (top 27) 13
abbrev s_Edition___eq : Stmt := inClass (top 27) 14
abbrev s_Edition___iter : Stmt := inClass (top 27) 15
abbrev s_need_row : Stmt := top 28
abbrev s_need_state : Stmt := top 29
abbrev s_l_begun : Stmt := top 31
abbrev s_l_draw : Stmt := top 32
abbrev s_l_pick : Stmt := top 33
abbrev s_l_words : Stmt := top 34
abbrev s_l_row : Stmt := top 35
abbrev s_l_led : Stmt := top 36
abbrev s_l_kinds : Stmt := top 37
abbrev s_l_any_told : Stmt := top 38
abbrev s_l_edition : Stmt := top 39
abbrev s_l_heard : Stmt := top 40
abbrev s_l_refused_right : Stmt := top 41
abbrev s_law : Stmt := top 42
end Sn
namespace Sn
open Evl (Ex)
open PySem L2
section
variable {X : Cx} {P : Program} {w : World} {K : PySem.W.Frag} {mg : Str → Option Value} {base : Heap}
/-- the program's constants -/
structure Cst (mg : Str → Option Value) : Prop where
  LETTERS : ∃ t, mg "LETTERS" = some (.str abc t)
  MOST_LETTERS : ∃ t, mg "MOST_LETTERS" = some (.int 6 t)
  MOST_KINDS : ∃ t, mg "MOST_KINDS" = some (.int 4 t)
  MOST_STATES : ∃ t, mg "MOST_STATES" = some (.int 5 t)
theorem sc_is_word : FnScope ["thing", "letter"] ["thing"] (defScope s_is_word) := ⟨rfl, rfl, rfl, by decide +kernel, rfl, by decide +kernel, by decide +kernel⟩
def spIsWord (K : PySem.W.Frag) : Sp := fun vs H Q _ => ∃ z : V, vs = [z] ∧ ((∃ x : Str, z = .str x ∧ x.cps.size ≤ 1000 ∧ ∀ H', Ex H H' → Q (.bl (isWd x)) H') ∨ (∃ t, TyX K H z t ∧ PySem.W.kitOne K t (.type "str") = some false ∧ Q (.bl false) H))
theorem ok_is_word {f : Addr} {fd : FuncData} (F : Fun K "is_word" "is_word" s_is_word f fd) (B : Bt mg) (C : Cst mg) : FnOk P w K mg base CX0 1 f fd ["thing"] (spIsWord K) := by
  refine F.ok sc_is_word (fun vs H Q E h => ?_) (fun cdv A outer s H vs Q E hr h => ?_)
  · obtain ⟨_, rfl, _⟩ := h
    rfl
  · obtain ⟨z, rfl, h⟩ := h
    obtain ⟨tl, hL⟩ := C.LETTERS
    obtain ⟨tm, hM⟩ := C.MOST_LETTERS
    refine ⟨_, (pss_cons (ps_if (PW.pt (pw_or (pt_not (pt_val (pe_callB call_isi (by rfl) B.isi PyProof.Rows.boot_isinstance (pa_cons (pv 0) (pa_cons (pe_bltn (v := .ty "str") (by rfl) B.str PyProof.Rows.boot_str rfl) pa_nil))))) (pw_or1 (pt_not (pt_chain op_le op_le pe_int (pe_callB call_len (by rfl) B.len PySem.boot_len (pa_cons (pv 0) pa_nil)) (pe_glob (v := .int 6) rfl hM ⟨_, rfl⟩))))))
        (pss_one (ps_ret pe_bl))
        pss_nil)
      (pss_one (ps_ret (pe_callB (cr_all rfl) (by rfl) B.all PyProof.Rows.boot_all (pa_cons (pe_lc (own := [("letter", 1)]) (by rfl) sc_is_word.nd (pi_str (pv 0)) (blkOk_by (own := [("letter", 1)]) (N := ["thing", "letter"]) (sc := defScope s_is_word) (by decide +kernel)) (fun _ _ _ _ _ => (pg_name (i := 1) sc_is_word.nd rfl (Or.inl rfl))) (fun _ _ _ _ _ => pts_nil) (fun _ _ _ _ _ => (pe_cmpR op_in_sign (pv 1) (pe_glob (v := .str abc) rfl hL ⟨_, rfl⟩) rfl))) pa_nil))))), ?_⟩
    rcases h with ⟨x, rfl, hx, k⟩ | ⟨t, ht, hk, k⟩
    · refine ⟨_, rfl, _, _, _, _, true, rfl, .ty _, .base (.str x), kit_ty (by decide +kernel), _, rfl, ?_⟩
      refine iteF ?_
      refine ⟨_, rfl, _, x.length, rfl, ⟨by simp [Str.length, sizeLine_eq]; omega, rfl⟩, ?_⟩
      have hsz : x.length = x.cps.size := rfl
      refine ⟨_, _, rfl, rfl, _, rfl, ?_⟩
      by_cases h1 : 1 ≤ x.cps.size
      · rw [decide_eq_true (show (1 : Int) ≤ (x.length : Int) by rw [hsz]; omega)]
        refine iteT ?_
        refine ⟨_, _, rfl, rfl, _, rfl, ?_⟩
        by_cases h6 : x.cps.size ≤ 6
        · rw [decide_eq_true (show (x.length : Int) ≤ 6 by rw [hsz]; omega)]
          refine iteF ?_
          refine ⟨_, rfl, _, rfl, fun Dl nD => ?_⟩
          refine lc_it walk_str (fun i H' => Ex H H' ∧ H' Dl = some (.lst (((x.cps.toList.take i).map fun c => decide (c ∈ abc.cps.toList)).map V.bl))) ⟨exn nD, upd_same⟩ (fun _ _ _ _ => trivial) ?_ ?_
          · rintro i y H1 H2 hi ⟨e1, h1'⟩ ⟨rfl, c, hc, rfl⟩
            refine ⟨rfl, _, rfl, c, abc, rfl, rfl, _, h1', ?_, exm e1 nD, ?_⟩
            · rw [List.length_map, List.length_map, sizeLine_eq]
              have h7 : (List.take i x.cps.toList).length ≤ x.cps.size := Nat.le_trans (List.length_take_le' i x.cps.toList) (by simp)
              omega
            · have hc' : x.cps.toList[i]? = some c := by simpa using hc
              rw [upd_same, List.take_succ, hc']
              simp
          · rintro H1 ⟨e1, h1'⟩
            rw [show x.cps.size = x.cps.toList.length by simp, List.take_length] at h1'
            refine ⟨Dl, _, rfl, SqL.of h1', ?_⟩
            have ew : isWd x = (x.cps.toList.map fun c => decide (c ∈ abc.cps.toList)).all id := by
              unfold isWd
              rw [decide_eq_true h1, decide_eq_true h6, List.all_map]
              rfl
            rw [← ew]
            exact k H1 e1
        · rw [decide_eq_false (show ¬ (x.length : Int) ≤ 6 by rw [hsz]; omega)]
          refine iteT ?_
          have ew : isWd x = false := by
            unfold isWd
            rw [decide_eq_false h6]
            simp
          rw [ew] at k
          exact k H exr
      · rw [decide_eq_false (show ¬ (1 : Int) ≤ (x.length : Int) by rw [hsz]; omega)]
        refine iteF ?_
        refine ⟨_, rfl, ?_⟩
        refine iteT ?_
        have ew : isWd x = false := by
          unfold isWd
          rw [decide_eq_false h1]
          simp
        rw [ew] at k
        exact k H exr
    · refine ⟨_, rfl, _, _, _, _, false, rfl, .ty _, ht, hk, _, rfl, ?_⟩
      refine iteT ?_
      exact k
theorem sc_are_words : FnScope ["some", "most", "thing"] ["some", "most"] (defScope s_are_words) := ⟨rfl, rfl, rfl, by decide +kernel, rfl, by decide +kernel, by decide +kernel⟩
/-- keys that are texts; the words of values are not asked for -/
def spAreWords (K : PySem.W.Frag) : Sp := fun vs H Q _ => ∃ (d : Addr) (m : Int) (kvs : List (Key × V)) (ks : List Str), vs = [.ref d, .int m] ∧ H d = some (.dK kvs) ∧ kvs.map (·.1) = ks.map Sum.inr ∧ (∀ x ∈ ks, x.cps.size ≤ 1000) ∧ ks.length ≤ 1000 ∧
  ∀ H', Ex H H' → Q (.bl (decide (1 ≤ ks.length) && decide ((ks.length : Int) ≤ m) && ks.all isWd)) H'
theorem ok_are_words {f : Addr} {fd : FuncData} (F : Fun K "are_words" "are_words" s_are_words f fd) (B : Bt mg) (cW : Cal P w K mg base CX0 1 "is_word" ["thing"] (spIsWord K)) : FnOk P w K mg base CX0 2 f fd ["some", "most"] (spAreWords K) := by
  refine F.ok sc_are_words (fun vs H Q E h => ?_) (fun cdv A outer s H vs Q E hr h => ?_)
  · obtain ⟨_, _, _, _, rfl, _⟩ := h
    rfl
  · obtain ⟨d, m, kvs, ks, rfl, hd, hk, hs, hl, k⟩ := h
    have hlen : kvs.length = ks.length := by
      have := congrArg List.length hk
      simpa using this
    refine ⟨_, (pss_one (ps_ret (pe_and (pe_chain op_le op_le pe_int (pe_callB call_lenD (by rfl) B.len PySem.boot_len (pa_cons (pv 0) pa_nil)) (pv 1)) (pe_one (pe_callB (cr_all rfl) (by rfl) B.all PyProof.Rows.boot_all (pa_cons (pe_lock (pe_lc (own := [("thing", 2)]) (by rfl) sc_are_words.nd (pi_keys (pv 0)) (blkOk_by (own := [("thing", 2)]) (N := ["some", "most", "thing"]) (sc := defScope s_are_words) (by decide +kernel)) (fun _ _ _ _ _ => (pg_name (i := 2) sc_are_words.nd rfl (Or.inl rfl))) (fun _ _ _ _ _ => pts_nil) (fun _ _ _ _ _ => (pcall cW (hr.mono (by decide)) (pa_cons (pv 2) pa_nil))))) pa_nil)))))), ?_⟩
    refine ⟨_, rfl, d, kvs, rfl, hd, ?_⟩
    rw [hlen]
    refine ⟨_, _, rfl, rfl, _, rfl, ?_⟩
    by_cases h1 : 1 ≤ ks.length
    · rw [decide_eq_true (show (1 : Int) ≤ (ks.length : Int) by omega)]
      refine iteT ?_
      refine ⟨_, rfl, _, _, rfl, rfl, _, rfl, ?_⟩
      rw [decide_eq_true h1] at k
      by_cases h2 : (ks.length : Int) ≤ m
      · rw [decide_eq_true h2] at k ⊢
        refine iteT ?_
        refine ⟨d, _, hd, trivial, fun od => ⟨_, rfl, d, od, rfl, .inl ⟨kvs, upd_same, fun Dl nD => ?_⟩⟩⟩
        have dl : Dl ≠ d := fun z => by rw [z, upd_same] at nD; cases nD
        refine lc_it walk_keys (fun i H' => Ex (upd H d (.frz od (.dK kvs))) H' ∧ H' Dl = some (.lst (((ks.take i).map isWd).map V.bl))) ⟨exn nD, upd_same⟩ (fun _ _ _ h => h.1 _ _ upd_same) ?_ ?_
        · rintro i y H1 H2 hi ⟨e1, h1'⟩ ⟨rfl, kk, v, hv, rfl⟩
          have hkk : (kvs.map (·.1))[i]? = some kk := by rw [List.getElem?_map, hv]; rfl
          rw [hk, List.getElem?_map] at hkk
          cases hz : ks[i]? with
          | none => rw [hz] at hkk; cases hkk
          | some x =>
            rw [hz] at hkk
            obtain rfl : Sum.inr x = kk := Option.some.inj hkk
            refine ⟨rfl, _, rfl, _, rfl, .inl ⟨x, rfl, hs x (List.mem_of_getElem? hz), fun H3 e3 => ⟨_, e3 _ _ h1', ?_, exm (ext e1 e3) nD, ?_⟩⟩⟩
            · rw [List.length_map, List.length_map, sizeLine_eq]
              have := List.length_take_le' i ks
              omega
            · rw [upd_same, List.take_succ, hz]
              simp
        · rintro H1 ⟨e1, h1'⟩
          rw [hlen, List.take_length] at h1'
          refine ⟨e1 _ _ upd_same, Dl, _, rfl, SqL.of (by rw [upd_ne dl]; exact h1'), ?_⟩
          have := k _ (unlock e1 hd)
          simpa [List.all_map] using this
      · rw [decide_eq_false h2] at k ⊢
        refine iteF ?_
        exact k H exr
    · rw [decide_eq_false (show ¬ (1 : Int) ≤ (ks.length : Int) by omega)]
      refine iteF ?_
      rw [decide_eq_false h1] at k
      refine ⟨_, rfl, ?_⟩
      refine iteF ?_
      exact k H exr
end
end Sn
/-! set == set, set(d) -/
namespace Sn
open Evl (Ex)
open PySem PySem.Spec PyProof.Rows L2
theorem entry_set_eq : entryFor table "set.__eq__" = some Builtin.«frozenset.__eq__» := entryFor_alias (id' := "frozenset.__eq__") (by kernel_rfl) rfl (by decide +kernel) (by kernel_rfl)
section
variable {P : Program} {w : World} {A : Around} {E : Value → Shared → Prop} {s : Shared} {κ : Type} [DecidableEq κ] {knd : KeyKind P w κ}
theorem SetG.type {h : Heap} {a : Addr} {ks : List κ} {s : Shared} (hs : s.heap = h) (R : SetG knd h a ks) : s.TypeIs (.ref a) "set" := by
  obtain ⟨_, o, es, ep, t, ks', _, ho, hex, _⟩ := R
  exact ⟨o, by rw [hs]; exact ho, hex.1⟩
theorem anySetG {a : Addr} {ks : List κ} {Q : Bool → Shared → Prop} (R : SetG knd s.heap a ks) (h : Q true s) : wpAny (model P w) A (Builtin.Frozenset.isAnySet (.ref a)) Q E s := by
  unfold Builtin.Frozenset.isAnySet orM
  refine wpAny_bind (wpAny_isInstance (R.type rfl) PySem.F.sub_set_set ?_)
  exact wpAny_pure h
theorem sizeG {a : Addr} {ks : List κ} {Q : Nat → Shared → Prop} (R : SetG knd s.heap a ks) (h : Q ks.length s) : wpAny (model P w) A (Builtin.Frozenset.sizeOf a) Q E s := by
  obtain ⟨_, o, es, ep, t, ks', pm, ho, hex, hd, el, pr, hb, hf, _⟩ := R
  unfold Builtin.Frozenset.sizeOf
  refine wpAny_bind (wpAny_setEntries_of ho hd hf (wpAny_pure ?_))
  rw [← Array.length_toList, Paired.length pr, pm.length_eq]
  exact h
theorem epochG {a : Addr} {ks : List κ} {Q : Nat → Shared → Prop} (R : SetG knd s.heap a ks) (h : ∀ ep, (∀ (s' : Shared) (Q' : Nat → Shared → Prop) (A' : Around) (E' : Value → Shared → Prop), s'.heap.get? a = s.heap.get? a → Q' ep s' → wpAny (model P w) A' (setEpoch a) Q' E' s') → Q ep s) : wpAny (model P w) A (setEpoch a) Q E s := by
  obtain ⟨_, o, es, ep, t, ks', pm, ho, hex, hd, el, pr, hb, hf, _⟩ := R
  unfold setEpoch
  refine wpAny_bind (wpAny_setState_of ho hd hf (wpAny_pure (h ep fun s' Q' A' E' e q => ?_)))
  unfold setEpoch
  exact wpAny_bind (wpAny_setState_of (by rw [e]; exact ho) hd hf (wpAny_pure q))
theorem findG {a : Addr} {ks : List κ} {k : κ} {x : Value} {Q : Option Nat → Shared → Prop} (hkey : knd.is k x = true) (hsc : x.scannable = true) (R : SetG knd s.heap a ks) (h : ∀ r : Option Nat, r.isSome = decide (k ∈ ks) → Q r s) : wpAny (model P w) A (setFind a x (knd.hash k)) Q E s := by
  obtain ⟨_, o, es, ep, t, ks', pm, ho, hex, hd, el, pr, hb, hf, _⟩ := R
  unfold setFind setFindIn
  refine wpAny_bind (wpAny_setState_of ho hd hf ?_)
  dsimp only
  rw [byScan_of hsc hb el]
  simp only [↓reduceIte]
  refine wpAny_bind (wpAny_rule ?_)
  refine wpAny_bind (wpAny_setScan_of hkey ho hd hf el ?_)
  cases hr : List.findIdx? (fun e => knd.is k e.2) es.toList with
  | none =>
    dsimp only
    refine wpAny_pure (h none ?_)
    rw [Option.isSome_none, eq_comm, decide_eq_false_iff_not]
    intro z
    obtain ⟨e, he, hpe⟩ := pair_mem pr (pm.mem_iff.mpr z)
    have := List.findIdx?_eq_none_iff.mp hr e he
    rw [hpe] at this; exact Bool.noConfusion this
  | some j =>
    dsimp only
    refine wpAny_pure (h (some (0 + j)) ?_)
    rw [Option.isSome_some, eq_comm, decide_eq_true_eq]
    obtain ⟨hj, hpj, _⟩ := List.findIdx?_eq_some_iff_getElem.mp hr
    obtain ⟨k', hk', is'⟩ := pair_mem' pr (List.getElem_mem hj)
    rw [knd.inj _ _ _ hpj is']
    exact pm.mem_iff.mp hk'
end
section
variable {P : Program} {w : World} {A : Around} {E : Value → Shared → Prop} {s : Shared}
theorem quiet_str {x : Value} {k : Str} {Q : Bool → Shared → Prop} (hk : (PySem.strKind P w).is k x = true) (h : Q true s) : wpAny (model P w) A (Builtin.Frozenset.quietEq x) Q E s := by
  obtain ⟨t, rfl⟩ := Value.isStrOf_shape hk
  exact wpAny_pure h
theorem walkG {a b : Addr} {ks ls : List Str} {Q : List (Int × Value) → Shared → Prop} (R : SetG (PySem.strKind P w) s.heap a ks) (S : SetG (PySem.strKind P w) s.heap b ls)
    (h : ∀ es ks', ks'.Perm ks → ElemsOf (PySem.strKind P w) es → Paired (fun (e : Int × Value) k => (PySem.strKind P w).is k e.2 = true) es ks' → Q es s) : wpAny (model P w) A (Builtin.Frozenset.walkUnseen a b) Q E s := by
  obtain ⟨_, o, es, ep, t, ks', pm, ho, hex, hd, el, pr, hb, hf, _⟩ := R
  obtain ⟨_, o2, es2, ep2, t2, ls', pm2, ho2, hex2, hd2, el2, pr2, hb2, hf2, _⟩ := S
  unfold Builtin.Frozenset.walkUnseen
  refine wpAny_bind (wpAny_setEntries_of ho hd hf (wpAny_bind (wpAny_setEntries_of ho2 hd2 hf2 ?_)))
  refine wpAny_bind (wpAny_forIn_list _ (fun rest b s' => b = (none, ()) ∧ s' = s ∧ ∀ e ∈ rest, ∃ k, (PySem.strKind P w).is k e.2 = true) _ ?_ ?_ _ _ ⟨rfl, rfl, fun e he => ?_⟩)
  · rintro ⟨hh, x⟩ rest b' s' ⟨rfl, rfl, hr⟩
    obtain ⟨k, hk⟩ := hr _ List.mem_cons_self
    refine wpAny_bind (quiet_str hk ?_)
    exact wpAny_pure ⟨rfl, rfl, fun e he => hr e (List.mem_cons_of_mem _ he)⟩
  · rintro b' s' ⟨rfl, rfl, _⟩
    exact wpAny_pure (h _ _ pm el pr)
  · rcases List.mem_append.mp he with z | z
    · obtain ⟨⟨k, hk, _⟩, _⟩ := el e z
      exact ⟨k, hk⟩
    · obtain ⟨⟨k, hk, _⟩, _⟩ := el2 e z
      exact ⟨k, hk⟩
theorem subG {a b : Addr} {ks ls : List Str} {id : String} {Q : Bool → Shared → Prop} (R : SetG (PySem.strKind P w) s.heap a ks) (S : SetG (PySem.strKind P w) s.heap b ls) (hl : ks.length ≤ ls.length) (h : Q (ks.all fun k => decide (k ∈ ls)) s) : wpAny (model P w) A (Builtin.Frozenset.subsetOf id a b) Q E s := by
  unfold Builtin.Frozenset.subsetOf
  refine wpAny_bind (sizeG R (wpAny_bind (sizeG S ?_)))
  rw [if_neg (Nat.not_lt.mpr hl)]
  refine wpAny_bind (epochG R fun ep hep => ?_)
  refine wpAny_bind (walkG R S fun es ks' pm el pr => ?_)
  have hall : (ks.all fun k => decide (k ∈ ls)) = ks'.all fun k => decide (k ∈ ls) := by
    rw [Bool.eq_iff_iff, List.all_eq_true, List.all_eq_true]
    exact ⟨fun z k hk => z k (pm.mem_iff.mp hk), fun z k hk => z k (pm.mem_iff.mpr hk)⟩
  rw [hall] at h
  refine wpAny_bind (wpAny_forIn_list _ (fun rest b s' => b = (none, ()) ∧ s' = s ∧ (∀ e ∈ rest, e ∈ es) ∧ ∃ kr, Paired (fun (e : Int × Value) k => (PySem.strKind P w).is k e.2 = true) rest kr ∧ (ks'.all fun k => decide (k ∈ ls)) = kr.all fun k => decide (k ∈ ls)) _ ?_ ?_ _ _ ⟨rfl, rfl, fun _ h => h, ks', pr, rfl⟩)
  · rintro ⟨hh, x⟩ rest b' s' ⟨rfl, rfl, hsub, kr, pr', hk'⟩
    cases pr' with
    | @cons _ k _ kr' hk pr' =>
      obtain ⟨⟨k2, hk2, hh2⟩, hsc⟩ := el _ (hsub _ List.mem_cons_self)
      obtain rfl : k2 = k := (PySem.strKind P w).inj _ _ _ hk2 hk
      dsimp only at hh2 hsc
      rw [hh2]
      refine wpAny_bind (wpAny_holding (findG hk hsc S fun r hr => ?_))
      rw [List.all_cons] at hk'
      cases hm : decide (k2 ∈ ls) with
      | false =>
        rw [hm] at hr hk'
        cases r with
        | some _ => cases hr
        | none =>
          refine wpAny_pure ?_
          show wpAny _ _ _ _ _ _
          rw [hk', Bool.false_and] at h
          exact wpAny_pure h
      | true =>
        rw [hm] at hr hk'
        cases r with
        | none => cases hr
        | some j =>
          refine wpAny_bind ?_
          unfold Builtin.Frozenset.unchanged
          refine wpAny_bind (hep _ _ _ _ rfl ?_)
          simp only [bne_self_eq_false, Bool.false_eq_true, if_false]
          refine wpAny_pure (wpAny_pure ⟨rfl, rfl, fun e he => hsub e (List.mem_cons_of_mem _ he), kr', pr', ?_⟩)
          rw [hk', Bool.true_and]
  · rintro b' s' ⟨rfl, rfl, _, kr, pr', hk'⟩
    cases pr'
    rw [hk'] at h
    exact wpAny_pure h
theorem eqG {a b : Addr} {ks ls : List Str} {R : Result → Shared → Prop} (hs : SetG (PySem.strKind P w) s.heap a ks) (ht : SetG (PySem.strKind P w) s.heap b ls) (h : R (.ok (.ret (.bool (decide (ks.length = ls.length) && ks.all fun k => decide (k ∈ ls))))) s) :
    wpAny (model P w) A.in1 (Builtin.«frozenset.__eq__» ⟨[.ref a, .ref b], []⟩) (GQ.FinOf P w A R) (fun e s' => R (.error e) s') s := by
  show wpAny _ _ (Builtin.Frozenset.slot1 "__eq__" ⟨[.ref a, .ref b], []⟩ >>= _) _ _ _
  refine wpAny_bind ?_
  unfold Builtin.Frozenset.slot1
  refine wpAny_bind (wpAny_pure ?_)
  refine wpAny_pure ?_
  refine wpAny_bind (anySetG ht ?_)
  rw [if_neg (by decide)]
  refine wpAny_bind (wpAny_pure (wpAny_bind (wpAny_pure ?_)))
  refine wpAny_bind (sizeG hs (wpAny_bind (sizeG ht ?_)))
  by_cases hl : ks.length = ls.length
  · rw [decide_eq_true hl, Bool.true_and] at h
    refine wpAny_bind ?_
    rw [if_neg (by simp [hl])]
    refine wpAny_bind ?_
    unfold andM
    refine wpAny_bind (wpAny_isInstance (hs.type rfl) PySem.F.sub_set_frozenset ?_)
    refine wpAny_pure ?_
    dsimp only
    rw [if_neg (by decide)]
    refine subG hs ht (Nat.le_of_eq hl) ?_
    exact wpAny_pure h
  · rw [decide_eq_false hl, Bool.false_and] at h
    refine wpAny_bind ?_
    rw [if_pos (by simpa using hl)]
    refine wpAny_pure ?_
    exact wpAny_pure h
end
section
variable {X : Cx}
/-- a == b of two sets of texts -/
def rEqX (P : Program) (w : World) : R2 := fun x y H Q => ∃ (a b : Addr) (ks ls : List Str), x = .ref a ∧ y = .ref b ∧ H a = some (SetX P w a ks) ∧ H b = some (SetX P w b ls) ∧ Q (.bl (decide (ks.length = ls.length) && ks.all fun k => decide (k ∈ ls))) H
theorem op_eqX (hu : X.A.units < cLine) : OpR X (compareOp .Eq) (rEqX X.prog X.w) := by
  intro pins s σ H x y u v Q I rx ry hq
  obtain ⟨a, b, ks, ls, rfl, rfl, ha, hb, q⟩ := hq
  cases rx
  cases ry
  have R : SetG (PySem.strKind X.prog X.w) s.heap a ks := (I.hok a _ ha).1
  have S : SetG (PySem.strKind X.prog X.w) s.heap b ls := (I.hok b _ hb).1
  show wpAny (model X.prog X.w) X.A (richCompare .Eq (.ref a) (.ref b)) _ _ _
  refine wpAny_richCompare_same_room (op := .Eq) (R.type rfl) (S.type rfl) F.slot_set_eq (GQ.call_here F.slot_set_eq (R.type rfl) entry_set_eq (F.args_set_eq_2 _ _) ?_) hu
  refine eqG (R := wants (fun v s' => v ≠ .notImplemented ∧ EP X pins σ Q v s') X.xe) R S ⟨(fun x => nomatch x), ?_⟩
  exact ⟨.bl _, H, I, rfl, q⟩
end
section
variable {P : Program} {w : World} {A : Around} {E : Value → Shared → Prop} {s : Shared}
theorem relaid_empty (t : SetTable) (wanted : Nat) : t.relaid #[] wanted = some ({ mask := SetTable.sizeAbove wanted - 1, place := #[], dummies := #[], finger := t.finger, led := t.led, moves := t.movedTo (SetTable.sizeAbove wanted - 1), plain := t.plain }, #[]) := by
  have e1 : SetTable.layClean (SetTable.sizeAbove wanted - 1) #[] = some (Array.replicate (SetTable.sizeAbove wanted - 1 + 1) none) := by unfold SetTable.layClean; rfl
  have e2 : ((List.range (SetTable.sizeAbove wanted - 1 + 1)).filterMap fun j => ((Array.replicate (SetTable.sizeAbove wanted - 1 + 1) (none : Option Nat)).getD j none).map (fun x => (j, x))) = [] := by
    rw [List.filterMap_eq_nil_iff]
    intro j _
    have : (Array.replicate (SetTable.sizeAbove wanted - 1 + 1) (none : Option Nat)).getD j none = none := by
      unfold Array.getD
      split
      · simp
      · rfl
    rw [this]
    rfl
  unfold SetTable.relaid SetTable.laid
  rw [e1]
  show some _ = _
  rw [e2]
  rfl
theorem above_le : ∀ n, n < 201 → SetTable.sizeAbove n ≤ 256 := by decide +kernel
/-- room for the keys of a dict, in a new set -/
theorem roomG {a : Addr} {n : Nat} {Q : Unit → Shared → Prop} (ho : s.heap.get? a = some { cls := .type "set", dict := none, data := .set #[] 0 (.fresh 0 0 (!w.params.followText "set-order")) }) (hn : n ≤ 100)
    (h : ∀ h', Heap.SameBut a s.heap h' → SetG (PySem.strKind P w) h' a [] → Q () { s with heap := h' }) : wpAny (model P w) A (setRoomFor a n) Q E s := by
  unfold setRoomFor
  refine wpAny_bind (wpAny_setState_of ho rfl rfl ?_)
  dsimp only
  cases hr : (SetTable.fresh 0 0 (!w.params.followText "set-order")).roomFor n with
  | none => exact wpAny_pure (h _ (Heap.SameBut.refl a s.heap) (setG_new ho))
  | some wanted =>
    dsimp only
    have hw : wanted ≤ 200 := by
      unfold SetTable.roomFor at hr
      split at hr
      · have := Option.some.inj hr
        have e0 : (SetTable.fresh 0 0 (!w.params.followText "set-order")).place.size = 0 := rfl
        omega
      · cases hr
    have ha := above_le wanted (by omega)
    rw [setRelay_eq]
    refine wpAny_bind (wpAny_setState_of ho rfl rfl ?_)
    dsimp only
    rw [if_neg (by rw [sizeLine_eq]; omega)]
    refine wpAny_bind ?_
    rw [show (Array.map (fun x : Int × Value => x.1) #[]) = #[] from by simp, relaid_empty]
    dsimp only
    rw [show (Array.filterMap (fun i => (#[] : Array (Int × Value))[i]?) (#[] : Array Nat)) = #[] from by simp]
    rw [if_neg (by decide)]
    refine wpAny_pure ?_
    dsimp only
    refine wpAny_storeSet_of ho rfl (h _ (Heap.SameBut.update s.heap a _) ?_) (by simp)
    refine ⟨List.nodup_nil, _, #[], _, _, [], .refl _, store_at (es' := #[]) ho rfl, ⟨rfl, rfl, rfl⟩, rfl, fun e he => by simp at he, .nil, by decide, rfl, List.Pairwise.nil, ?_⟩
    show _ ∨ (!w.params.followText "set-order") = true
    cases w.params.followText "set-order"
    · exact .inr rfl
    · exact .inl rfl
/-- set(d), d a dict of texts -/
theorem setG_dict {l : Addr} (kl : List Str) {Q : Value → Shared → Prop} {o : Obj} {es : Array DictEntry} {ep : Nat} (hho : s.heap.get? l = some o) (hcl : o.cls = .type "dict") (hdl : o.data = .dict es ep) (nsys : (l == sysModules) = false)
    (hks : ∀ (i : Nat) (e : DictEntry), es[i]? = some e → ∃ k, kl[i]? = some k ∧ (PySem.strKind P w).is k e.key = true ∧ e.hash = (PySem.strKind P w).hash k) (hsz : es.size = kl.length) (hb : kl.length ≤ 100)
    (h : ∀ (h' : Heap) (tk : Nat), SetG (PySem.strKind P w) h' s.heap.objs.size (once [] kl) → (∀ b o, s.heap.get? b = some o → h'.get? b = some o) → Q (.ref s.heap.objs.size) { s with heap := h', toks := tk }) :
    wpAny (model P w) A (call (.type "set") [.ref l]) Q E s := by
  obtain ⟨c, tl, hmro⟩ := F.called_set.mro
  have hmade := F.called_set.made
  have hsub := F.called_set.sub
  refine wpAny_call (codeAny_of_tree ?_)
  show wpAny _ _ (callAny (.type "set") _) _ _ _
  refine wpAny_pure ⟨Code.quiet_builtin _ (by decide +kernel), codeAny_builtin F.entry_type_call ?_⟩
  rw [Around.under_plain (weight_type_call_type "set" [.ref l] []) rfl]
  have h1 := F.called_set.notType
  have h2 := F.called_set.canCreate
  have hct := F.typeCall_set_1 (.ref l)
  repeat (any_goals (first | assumption | wp_step))
  let o0 : Obj := { cls := .type "set", dict := none, data := .set #[] 0 (.fresh 0 0 (!w.params.followText "set-order")) }
  refine codeAny_mono (code_set_led1 (.ref l) (E := E) (Q₁ := fun obj s₁ => obj = .ref s.heap.objs.size ∧ s₁ = { s with heap := s.heap.push o0 }) ⟨rfl, rfl⟩) fun r s₁ hr => ?_
  cases r with
  | error e => exact hr
  | ok fl =>
    cases fl with
    | ret obj =>
      obtain ⟨rfl, rfl⟩ := hr
      have hS : (s.heap.push o0).get? s.heap.objs.size = some o0 := Heap.get?_push_size _ rfl
      have hT : Shared.TypeIs { s with heap := s.heap.push o0 } (.ref s.heap.objs.size) "set" := ⟨_, hS, rfl⟩
      have hli := F.called_set.init.lookup
      have hbi := F.called_set.init.bind (.ref s.heap.objs.size)
      repeat (any_goals (first | assumption | wp_step))
      refine codeAny_mono (codeAny_call_builtin (R := wants (fun r s₂ => r = .none ∧ ∃ h' tk, s₂ = { s with heap := h', toks := tk } ∧ SetG (PySem.strKind P w) h' s.heap.objs.size (once [] kl) ∧ (∀ b o, s.heap.get? b = some o → h'.get? b = some o)) E) F.called_set.init.plain F.entry_set_init (check_set_init_1 hT ?_)) fun r₂ s₂ hr₂ => ?_
      · have hol' : (s.heap.push o0).get? l = some o := Heap.get?_push_of_some _ hho
        have hTd : Shared.TypeIs { s with heap := s.heap.push o0 } (.ref l) "dict" := ⟨_, hol', hcl⟩
        unfold Builtin.«set.__init__» noKeywords Builtin.Frozenset.updateFrom Builtin.Frozenset.isAnySet orM
        wp_walk
        rw [PySem.F.sub_dict_set]
        refine wpAny_pure ?_
        show wpAny _ _ (isInstance (.ref l) (.type "frozenset")) _ _ _
        refine wpAny_isInstance hTd PySem.F.sub_dict_frozenset ?_
        rw [if_neg (by decide)]
        refine wpAny_bind (wpAny_typeOf hTd ?_)
        rw [if_pos (by decide)]
        refine wpAny_bind (wpAny_rule ?_)
        refine wpAny_bind (wpAny_pure ?_)
        dsimp only
        rw [if_neg (by rw [nsys]; decide)]
        refine wpAny_bind (wpAny_dictEpoch hol' hdl ?_)
        refine wpAny_bind (wpAny_dictEntries hol' hdl ?_)
        refine wpAny_bind (roomG hS (by omega) fun h1 sb1 R1 => ?_)
        have lt : l < s.heap.objs.size := Heap.lt_size hho
        have keep1 : ∀ b o, s.heap.get? b = some o → h1.get? b = some o := fun b o e => (sb1.2 b (Nat.ne_of_lt (Heap.lt_size e))).trans (Heap.get?_push_of_some _ e)
        refine wpAny_bind (wpAny_dictEntries (keep1 _ _ hho) hdl ?_)
        rw [Std.Legacy.Range.forIn_eq_forIn_range']
        have hrs : ([:es.size] : Std.Legacy.Range).size = es.size := by simp [Std.Legacy.Range.size]
        refine wpAny_bind ?_
        show wpAny _ _ (forIn (List.range' 0 ([:es.size] : Std.Legacy.Range).size 1) _ _) _ _ _
        rw [hrs]
        refine wpAny_forIn_list _ (fun rest _ s' => ∃ i h' acc, rest = List.range' i (es.size - i) ∧ i ≤ es.size ∧ s' = { s with heap := h' } ∧ (∀ b o, s.heap.get? b = some o → h'.get? b = some o) ∧ SetG (PySem.strKind P w) h' s.heap.objs.size acc ∧ once acc (kl.drop i) = once [] kl ∧ acc.length ≤ i) _ ?_ ?_ _ _ ⟨0, h1, [], rfl, Nat.zero_le _, rfl, keep1, R1, rfl, Nat.le_refl _⟩
        · rintro j rest _ s' ⟨i, h', acc, hr, hi, rfl, kp, R2, hon, hal⟩
          have hlt : i < es.size := by
            rcases Nat.lt_or_ge i es.size with z | z
            · exact z
            · rw [Nat.sub_eq_zero_of_le z] at hr; cases hr
          obtain ⟨m, hm⟩ : ∃ m, es.size - i = m + 1 := ⟨es.size - i - 1, by omega⟩
          rw [hm, List.range'_succ] at hr
          obtain ⟨rfl, rfl⟩ := List.cons.inj hr
          refine wpAny_bind (wpAny_dictEntries (kp _ _ hho) hdl ?_)
          rw [Array.getElem?_eq_getElem hlt]
          obtain ⟨k, hk, his, hh⟩ := hks j es[j] (Array.getElem?_eq_getElem hlt)
          dsimp only
          rw [hh]
          have hsc : es[j].key.scannable = true := by
            obtain ⟨t, e⟩ := Value.isStrOf_shape his
            rw [e]
            rfl
          refine wpAny_bind (wpAny_holding (setG_add (s := { s with heap := h' }) R2 his hsc (by show acc.length + 1 < scanBound; have : (200 : Nat) < scanBound := (by decide); omega) fun h2 bb sb2 R3 => ?_))
          have kp2 : ∀ b o, s.heap.get? b = some o → h2.get? b = some o := fun b o e => (sb2.2 b (Nat.ne_of_lt (Heap.lt_size e))).trans (kp _ _ e)
          refine wpAny_bind (wpAny_dictEpoch (kp2 _ _ hho) hdl ?_)
          simp only [bne_self_eq_false, Bool.false_eq_true, if_false]
          refine wpAny_pure ⟨j + 1, h2, _, by rw [show es.size - (j + 1) = m from by omega], hlt, rfl, kp2, R3, ?_, ?_⟩
          · rw [← hon]
            have ed : kl.drop j = k :: kl.drop (j + 1) := by
              obtain ⟨h1, h2⟩ := List.getElem?_eq_some_iff.mp hk
              rw [List.drop_eq_getElem_cons h1, h2]
            rw [ed, once]
          · split
            · omega
            · rw [List.length_cons]; omega
        · rintro _ s' ⟨i, h', acc, hr, hi, rfl, kp, R2, hon, hal⟩
          have : i = es.size := by
            have := congrArg List.length hr
            simp at this
            omega
          subst this
          rw [List.drop_of_length_le (by omega)] at hon
          have hon' : acc = once [] kl := hon
          subst hon'
          refine wpAny_pure ?_
          exact wpAny_pure ⟨rfl, h', _, rfl, R2, kp⟩
      · cases r₂ with
        | error e => exact hr₂
        | ok fl₂ =>
          cases fl₂ with
          | ret r =>
            obtain ⟨rfl, h', tk, rfl, hS', hk⟩ := hr₂
            have hfin := h h' tk hS' hk
            repeat (any_goals (first | assumption | wp_step))
          | _ => exact hr₂.elim
    | _ => exact hr.elim
end
section
variable {X : Cx}
/-- set(d), d a dict of texts -/
def rSetD (P : Program) (w : World) : List V → Hp → VK → Prop := fun xs H Q => ∃ (d : Addr) (kvs : List (Key × V)) (ks : List Str), xs = [.ref d] ∧ Rd H d (.dK kvs) ∧ kvs.map (·.1) = ks.map Sum.inr ∧ ks.length ≤ 100 ∧ ∀ p, H p = none → Q (.ref p) (upd H p (SetX P w p (once [] ks)))
theorem call_setD (hc : X.calm = true) : CallR X (.type "set") (rSetD X.prog X.w) := by
  intro pins s σ H xs us Q I r q
  obtain ⟨d, kvs, ks, rfl, hd, hk, hl, q⟩ := q
  obtain ⟨u, rfl, rx⟩ := vals1 r
  cases rx
  obtain ⟨z, lo, vs, rel, o, es, ep, ho, hex, hdt, hko, hpr, hnd⟩ := dk_rd I.hok hd
  have hkv : vs.map (·.1) = ks.map Sum.inr := by rw [← rel.keys, hk]
  have hsz : es.size = ks.length := by
    rw [← Array.length_toList, Pairs.length hpr]
    have := congrArg List.length hkv
    simpa using this
  have hks : ∀ (i : Nat) (e : DictEntry), es[i]? = some e → ∃ k, ks[i]? = some k ∧ (PySem.strKind X.prog X.w).is k e.key = true ∧ e.hash = (PySem.strKind X.prog X.w).hash k := fun i e he => by
    have he' : es.toList[i]? = some e := by rw [Array.getElem?_toList]; exact he
    have gen : ∀ {el : List DictEntry} {vl : List (Key × Value)}, Pairs (mixKind X.prog X.w) el vl → ∀ (i : Nat) (e : DictEntry), el[i]? = some e → ∃ kv : Key × Value, vl[i]? = some kv ∧ (mixKind X.prog X.w).is kv.1 e.key = true := by
      intro el vl h
      induction h with
      | nil => intro i e z; simp at z
      | cons h1 h2 _ ih =>
        intro i e z
        cases i with
        | zero => simp at z; subst z; exact ⟨_, rfl, h1⟩
        | succ i => exact ih i e (by simpa using z)
    obtain ⟨kv, hv, his⟩ := gen hpr i e he'
    have h1 : (ks.map (Sum.inr : Str → Key))[i]? = some kv.1 := by rw [← hkv, List.getElem?_map, hv]; rfl
    rw [List.getElem?_map] at h1
    cases hz : ks[i]? with
    | none => rw [hz] at h1; cases h1
    | some k =>
      rw [hz] at h1
      have e1 : kv.1 = Sum.inr k := (Option.some.inj h1).symm
      rw [e1] at his
      obtain ⟨k2, hk2, hh⟩ := hko e (Array.mem_of_getElem? he)
      have e2 : k2 = Sum.inr k := (mixKind X.prog X.w).inj _ _ _ hk2 his
      subst e2
      exact ⟨k, rfl, his, hh⟩
  refine setG_dict ks ho hex.1 hdt lo hks hsz hl fun h' tk R kp => ?_
  refine ⟨.ref s.heap.objs.size, upd H s.heap.objs.size (SetX X.prog X.w s.heap.objs.size (once [] ks)), I.laid (t' := tk) kp (Nat.le_refl _) (setX_ok R), rfl, q _ (I.hok.fresh (Nat.le_refl _))⟩
end
end Sn
/-! tuple(d) -/
namespace Sn
open Evl (Ex)
open PySem PySem.Spec PyProof.Rows L2 PySem.W
section
variable {prog : Program} {w : World} {A : Around} {E : Value → Shared → Prop} {s : Shared} {T : String} {r d : Addr} {n : Nat} {Pv : Nat → Value → Prop} {OK : Heap → Prop}
theorem code_tuple_kdl {Q₁ : Value → Shared → Prop} (K : KdlSrc prog w T r d n Pv OK) (hh : A.handled = none) (hok : OK s.heap) (hn : n ≤ sizeLine)
    (h : ∀ (h' : Heap) (tk : Nat) (acc : Array Value), (∀ b o, s.heap.get? b = some o → h'.get? b = some o) → ItemsOf Pv acc n → Q₁ (.ref h'.objs.size) { s with heap := h'.push { cls := .type "tuple", data := .seq acc }, toks := tk }) :
    codeAny (model prog w) A (.call (.builtin "tuple.__new__") ⟨[.type "tuple", .ref r], []⟩) (wants Q₁ E) s := by
  refine codeAny_of_tree ?_
  show wpAny _ A.in1 (do checkBuiltinCall "tuple.__new__" ⟨[.type "tuple", .ref r], []⟩; again (.builtin "tuple.__new__" ⟨[.type "tuple", .ref r], []⟩)) _ _ s
  refine wpAny_bind (wpAny_of_eq (F.newCall_tuple_1 _) (wpAny_pure ⟨plainId_quiet F.plain_tuple_new _, codeAny_builtin F.entry_tuple_new ?_⟩))
  rw [Around.under_plainId F.plain_tuple_new _]
  have hsub := sub_tuple_self
  have hinit := init_tuple_lookup
  have hmh := madeHere_tuple
  have hTI : s.TypeIs (.ref r) T := K.type s hok
  have hh1 : A.in1.handled = none := hh
  have hnT := K.notTuple
  wp_walk using wpAny_typeOf hTI, kdu_collect (A := A.in1) K hh1 hok hn
  intro h' tk acc hk hacc
  show wpAny _ _ (Builtin.Tuple.tupleExact acc.toList.toArray >>= fun v => ret v) _ _ _
  unfold Builtin.Tuple.tupleExact
  refine wpAny_bind (wpAny_newObj_type ?_ (by show acc.toList.toArray.size ≤ sizeLine; simp only [Array.toArray_toList]; rw [hacc.1]; exact hn))
  refine wpAny_pure ?_
  have e : acc.toList.toArray = acc := by simp
  rw [e]
  exact h h' tk acc hk hacc
theorem call_tuple_kdl {Q : Value → Shared → Prop} (K : KdlSrc prog w T r d n Pv OK) (hh : A.handled = none) (hok : OK s.heap) (hn : n ≤ sizeLine)
    (hQ : ∀ (h' : Heap) (tk : Nat) (acc : Array Value), (∀ b o, s.heap.get? b = some o → h'.get? b = some o) → ItemsOf Pv acc n → Q (.ref h'.objs.size) { s with heap := h'.push { cls := .type "tuple", data := .seq acc }, toks := tk }) :
    wpAny (model prog w) A (call (.type "tuple") [.ref r]) Q E s := by
  refine callType_codes (Q₁ := fun obj s₁ => s₁.TypeIs obj "tuple" ∧ Q obj s₁) F.called_tuple (F.typeCall_tuple_1 _) F.entry_object_init
    (code_tuple_kdl (A := A.in1) K hh hok hn fun h' tk acc hk hacc => ⟨⟨_, Heap.get?_push_size _ rfl, rfl⟩, hQ h' tk acc hk hacc⟩) fun obj s₁ h₁ => ?_
  exact ⟨h₁.1, F.args_object_init_2 obj _, object_init_meets F.called_tuple.init.lookup F.called_tuple.made (by decide) prog w A.in1 _ s₁ ⟨h₁.1, rfl, h₁.2⟩⟩
end
section
variable {X : Cx}
/-- tuple(d): its keys -/
theorem call_tupleD (hcalm : X.calm = true) : CallR X (.type "tuple") (fun xs H Q => ∃ (a : Addr) (kvs : List (Key × V)), xs = [.ref a] ∧ Rd H a (.dK kvs) ∧ ∀ p, H p = none → Q (.ref p) (upd H p (.tup (kvs.map fun kv => kV kv.1)))) := by
  intro pins s σ H xs us Q I r q
  obtain ⟨a, kvs, ex, hd, q⟩ := q
  subst ex
  obtain ⟨u, eu, rx⟩ := vals1 r
  subst eu
  cases rx
  obtain ⟨z, lo, vs, rel, dd⟩ := dk_rd I.hok hd
  obtain ⟨ep, hat⟩ := dd.dictAt
  have ek : (kvs.map fun kv => kV kv.1) = vs.map fun p => kV p.1 := by
    have e := congrArg (List.map kV) rel.keys
    rw [List.map_map, List.map_map] at e
    exact e
  refine call_tuple_kdl (PySem.W.kdl_dict (knd := mixKind X.prog X.w) (kvs := vs) (ep := ep) lo) (I.ok.hd hcalm) hat (by rw [← rel.length]; exact z) fun h' tk acc hk hacc => ?_
  have hv : Vals (vs.map fun p => kV p.1) acc.toList := keys_at (by rw [Array.length_toList]; exact hacc.1) fun j v e => hacc.2 j v (by rw [← Array.getElem?_toList]; exact e)
  have I1 : L2.Inv X pins σ H { s with heap := h' } := I.kept (t' := s.toks) hk
  refine ⟨.ref h'.objs.size, upd H h'.objs.size (.tup (kvs.map fun kv => kV kv.1)), I1.laid (t' := tk) (fun b o e => Heap.get?_push_of_some _ e) (Nat.le_refl _)
    (show ObjOk X.prog X.w _ _ _ (.tup (kvs.map fun kv => kV kv.1)) from ⟨by rw [List.length_map]; exact z, acc.toList, by rw [ek]; exact hv, by rw [Array.toArray_toList]; exact IsTup.new _ _⟩), rfl, q _ (I1.hok.fresh (Nat.le_refl _))⟩
end
end Sn
/-! list(d.items()) -/
namespace Sn
open Evl (Ex)
open PySem PySem.Spec PyProof.Rows L2
section
variable {X : Cx} {e : Expr} {te : TE} {p apos cpos pos : Pos} {pins : List (Addr × Obj)} {σ : L2.St} {H H' : Hp} {s : Shared} {h' : Heap} {t' : Nat}
/-- many new things at once -/
theorem inv_many (I : L2.Inv X pins σ H s) (k : ∀ b u, s.heap.get? b = some u → h'.get? b = some u) (hext : ∀ b u, H b = some u → H' b = some u) (hnew : ∀ b u, H' b = some u → H b = some u ∨ (s.heap.objs.size ≤ b ∧ ObjOk X.prog X.w H' h' b u)) :
    L2.Inv X pins σ H' { s with heap := h', toks := t' } := by
  refine I.un ⟨fun b u q _ _ _ => k b u q, fun b u q _ _ _ => ⟨u.slots, k b u q⟩, fun b u q n _ => ?_, fun b u q _ => ⟨u, k b u q⟩, fun b xs q => hext _ _ q, fun b u xs q => hext _ _ q, fun b ps q => ⟨#[], by rw [hext _ _ q]; simp⟩⟩ fun b u z => ?_
  · cases z : H' b with
    | none => rfl
    | some v =>
      rcases hnew b v z with h | h
      · rw [n] at h; cases h
      · exact absurd (Heap.lt_size q) (Nat.not_lt.mpr h.1)
  · rcases hnew b u z with h | h
    · exact (I.hok b u h).stay (fun c v _ q => k c v q) (fun c q => hext _ _ q) fun c xs q => hext _ _ q
    · exact h.2
def rItems : V → Hp → VK → Prop := fun x H Q => ∃ (d : Addr) (kvs : List (Key × V)), x = .ref d ∧ H d = some (.dK kvs) ∧ ∀ p ps H', Evl.Ex H H' → H p = none → H' p = some (.lst (ps.map V.ref)) → Paired (fun q (kv : Key × V) => H' q = some (.tup [kV kv.1, kv.2])) ps kvs → Q (.ref p) H'
def tItems (te : TE) : TE := fun σ H Q => te σ H fun x H1 => rItems x H1 Q
theorem vals_refs : ∀ as : List Addr, Vals (as.map V.ref) (as.map Value.ref)
  | [] => .nil
  | _ :: r => .cons rfl (vals_refs r)
theorem pairs_at {H' : Hp} : ∀ {as : List Addr} {kvs : List (Key × V)}, as.length = kvs.length → (∀ (j : Nat) (a : Addr) (kv : Key × V), as[j]? = some a → kvs[j]? = some kv → H' a = some (.tup [kV kv.1, kv.2])) → Paired (fun q (kv : Key × V) => H' q = some (.tup [kV kv.1, kv.2])) as kvs
  | [], [], _, _ => .nil
  | a :: as, kv :: kvs, hl, h => .cons (h 0 a kv rfl rfl) (pairs_at (by simpa using hl) fun j b k h1 h2 => h (j + 1) b k (by simpa using h1) (by simpa using h2))
theorem pe_listItems (hc : X.calm = true) (he : PE X e te) (hg : Gl X "list") (hm : X.mg "list" = none) (hv : bootBuiltins "list" = some (.type "list")) (hbase : attributeBase e "items" X.env (eval e X.env) = eval e X.env := by rfl) (hline : (apos.endLine == cpos.line) = true := by rfl)
    (hs : starEach [.Call (.Attribute e "items" apos) [] [] cpos] X.env = (false, eval (.Call (.Attribute e "items" apos) [] [] cpos) X.env) :: starEach [] X.env := by rfl) :
    PE X (.Call (.Name "list" p) [.Call (.Attribute e "items" apos) [] [] cpos] [] pos) (tItems te) := by
  refine ⟨fun pins s σ H Q I hq => wpAny_Call_Name_kw (ld_blt I hg hm hv (PyProof.Rows.callWith_type1 ?_ hs rfl))⟩
  rw [hs]
  show wpAny _ _ (spliced ((false, eval (.Call (.Attribute e "items" apos) [] [] cpos) X.env) :: backTo pos (starEach [] X.env))) _ _ s
  refine Calls.spliced_cons (wpAny_Call_method (T := "dict") (id := "dict.items") hbase rfl hline F.plainAttrs_dict F.slot_dict_items F.type_dict_items (thn (he.run pins s σ H _ I hq) fun u s1 hh => ?_))
  obtain ⟨x, H1, I1, rx, d, kvs, ex, hd, q⟩ := hh
  subst ex
  obtain rfl : u = Value.ref d := rx
  obtain ⟨hz, lo, vs, kv, hdo⟩ := (show ObjOk X.prog X.w H1 s1.heap d (.dK kvs) from I1.hok d _ hd)
  obtain ⟨ep, hat⟩ := hdo.dictAt
  have ln : kvs.length = vs.length := Paired.length kv
  have I2 : L2.Inv X pins σ H1 { s1 with heap := s1.heap.push { cls := .type "dict_items", data := .fields #[.ref d] } } := I1.kept (t' := s1.toks) fun b ob q => Heap.get?_push_of_some _ q
  refine ⟨hdo.typeIs, hdo.mapOf.noDict, ?_⟩
  show wpAny _ _ (callWith cpos (.builtin "dict.items") [.ref d] [] []) _ X.xe s1
  refine method_meetsIn F.slot_dict_items F.entry_dict_items rfl (PySem.evalArgs_none ⟨rfl, hdo.typeIs, F.args_dict_items_1 _, _, meets_dict_items (mixKind X.prog X.w) d lo, ⟨vs, hdo⟩, ?_⟩)
  refine Calls.spliced_nil (PySem.W.kdx_call (knd := mixKind X.prog X.w) (kvs := vs) (ep := ep) (r := s1.heap.objs.size) (d := d) (I1.ok.hd hc) ⟨_, Heap.get?_push_size _ rfl, rfl, rfl⟩ (hat.push _) (by rw [← ln]; exact hz) fun h' tk acc c as hk hS hl hG hacc => ?_)
  generalize hs2 : ({ s1 with heap := s1.heap.push { cls := .type "dict_items", data := .fields #[.ref d] } } : Shared) = s2 at I2 hk hS hG ⊢
  have hal : as.length = kvs.length := by rw [hl, ln]
  have nd : as.Nodup := List.Pairwise.imp (fun h => Nat.ne_of_lt h) hG.rise
  let D := s2.heap.objs.size
  let HN : Hp := fun b => if b = D then some (.lst (as.map V.ref)) else match (as.zip kvs).find? (fun q => decide (q.1 = b)) with
    | some q => some (.tup [kV q.2.1, q.2.2])
    | none => H1 b
  have atA : ∀ (j : Nat) (a : Addr) (kx : Key × V), as[j]? = some a → kvs[j]? = some kx → HN a = some (.tup [kV kx.1, kx.2]) := fun j a kx h1 h2 => by
    have hne : a ≠ D := Nat.ne_of_gt (hG.above a (List.mem_of_getElem? h1))
    show (if a = D then _ else _) = _
    rw [if_neg hne]
    have hf : (as.zip kvs).find? (fun q => decide (q.1 = a)) = some (a, kx) := by
      have hz : (as.zip kvs)[j]? = some (a, kx) := by rw [List.getElem?_zip_eq_some]; exact ⟨h1, h2⟩
      cases hq : (as.zip kvs).find? (fun q => decide (q.1 = a)) with
      | none => exact absurd (List.find?_eq_none.mp hq (a, kx) (List.mem_of_getElem? hz)) (by simp)
      | some q =>
        have e1 : q.1 = a := by have := List.find?_some hq; simpa using this
        obtain ⟨i, hi⟩ := List.mem_iff_getElem?.mp (List.mem_of_find?_eq_some hq)
        obtain ⟨g1, g2⟩ := List.getElem?_zip_eq_some.mp hi
        have hij : i = j := (List.getElem?_inj (List.getElem?_eq_some_iff.mp g1).1 nd).mp (by rw [g1, h1, e1])
        subst hij
        rw [h2] at g2
        rw [← e1, Option.some.inj g2]
    rw [hf]
  have nf : ∀ b, H1 b ≠ none → b < s2.heap.objs.size := fun b hb => by
    rcases Nat.lt_or_ge b s2.heap.objs.size with z | z
    · exact z
    · exact absurd (I2.hok.fresh z) hb
  have old : ∀ b u, H1 b = some u → HN b = some u := fun b u hb => by
    have hlt := nf b (by rw [hb]; simp)
    show (if b = D then _ else _) = _
    rw [if_neg (Nat.ne_of_lt hlt)]
    have hf : (as.zip kvs).find? (fun q => decide (q.1 = b)) = none := List.find?_eq_none.mpr fun q hq => by
      simp only [decide_eq_true_eq]
      intro z
      have := hG.above q.1 (List.of_mem_zip hq).1
      rw [z] at this
      exact Nat.lt_asymm this hlt
    rw [hf]
    exact hb
  have I3 : L2.Inv X pins σ HN { s2 with heap := h', toks := tk } := by
    refine inv_many I2 hk old fun b u hb => ?_
    by_cases hD : b = D
    · right
      have e1 : HN b = some (.lst (as.map V.ref)) := by show (if b = D then _ else _) = _; rw [if_pos hD]
      rw [e1] at hb
      cases hb
      refine ⟨Nat.le_of_eq hD.symm, by rw [List.length_map, hal]; exact hz, acc.toList, c, ?_, by rw [Array.toArray_toList, hD]; exact hS⟩
      rw [hacc]
      exact vals_refs as
    · have e1 : HN b = (match (as.zip kvs).find? (fun q => decide (q.1 = b)) with | some q => some (.tup [kV q.2.1, q.2.2]) | none => H1 b) := by show (if b = D then _ else _) = _; rw [if_neg hD]
      cases hq : (as.zip kvs).find? (fun q => decide (q.1 = b)) with
      | none =>
        rw [e1, hq] at hb
        exact .inl hb
      | some q0 =>
        right
        rw [e1, hq] at hb
        cases hb
        have e2 : q0.1 = b := by have := List.find?_some hq; simpa using this
        obtain ⟨i, hi⟩ := List.mem_iff_getElem?.mp (List.mem_of_find?_eq_some hq)
        obtain ⟨g1, g2⟩ := List.getElem?_zip_eq_some.mp hi
        rw [e2] at g1
        obtain ⟨key, k, x, hk1, hk2, hk3⟩ := hG.pairs i b g1
        obtain ⟨qv, w1, w2, w3⟩ := LiI.paired_get kv g2
        rw [hk1] at w1
        cases w1
        have hlt := hG.above b (List.mem_of_getElem? g1)
        refine ⟨Nat.le_of_lt hlt, by show (2 : Nat) ≤ sizeLine; decide, [key, x], .cons ?_ (.cons w3 .nil), ⟨_, hk3, rfl, _, rfl⟩⟩
        have : q0.2.1 = k := w2
        rw [this]
        rcases keyIs_shape hk2 with ⟨i, t, rfl, rfl⟩ | ⟨y, t, rfl, rfl⟩
        · exact ⟨t, rfl⟩
        · exact ⟨t, rfl⟩
  refine ⟨.ref D, HN, I3, rfl, q D as HN old (I2.hok.fresh (Nat.le_refl _)) ?_ (pairs_at hal atA)⟩
  show (if D = D then _ else _) = _
  rw [if_pos rfl]
end
end Sn
/-! steps of editions: dicts of dicts; locks -/
namespace Sn
open Evl (Ex)
open PySem L2 LamX
/-- a state, its row (kinds and where they lead), where the row's dict lies -/
abbrev StE := Str × List (Str × Str) × Addr
def tKV (e : StE) : Key × V := (.inr e.1, .ref e.2.2)
def Stp (H : Hp) (p : Addr) (st : List StE) : Prop := H p = some (.dK (st.map tKV)) ∧ ∀ e ∈ st, Sts H e.2.2 e.2.1
section
variable {H H' : Hp} {p sa la ca : Addr} {T : Nat} {st : List StE}
theorem Stp.ex (h : Stp H p st) (e : Ex H H') : Stp H' p st := ⟨e _ _ h.1, fun x hx => (h.2 x hx).ex e⟩
theorem Stp.exN (h : Stp H p st) (e : ExtN H H') : Stp H' p st := ⟨e _ _ h.1 (fun _ z => by cases z), fun x hx => (h.2 x hx).exN e⟩
theorem Stp.ns (D : Dr H sa la ca T) (R : Stp H p st) : p ≠ sa ∧ p ≠ la := by
  obtain ⟨⟨ls, cs, r, t, a, b, _⟩, _⟩ := D
  constructor
  · intro z
    have h := R.1
    rw [z, a] at h
    have h2 : dkv la ca r t = st.map tKV := by injection (Option.some.inj h)
    match st, h2 with
    | [], h2 => cases h2
    | [_], h2 => exact absurd (congrArg List.length h2) (by simp [dkv])
    | [_, _], h2 => exact absurd (congrArg List.length h2) (by simp [dkv])
    | _ :: _ :: e :: _, h2 =>
      have h3 := congrArg (fun l => (l[2]?).map (·.2)) h2
      have h4 : (some (V.int r) : Option V) = some (V.ref e.2.2) := h3
      cases h4
  · intro z
    have h := R.1
    rw [z, b] at h
    cases h
theorem Stp.cutE (R : Stp H p st) (D : Dr H sa la ca T) (e : Ex (cut H sa la) H') : Stp H' p st := ⟨cut_to e R.1 (R.ns D).1 (R.ns D).2, fun x hx => (R.2 x hx).cutE D e⟩
theorem keysT (st : List StE) : (st.map tKV).map (·.1) = (st.map (·.1)).map Sum.inr := by simp [tKV, Function.comp_def]
theorem valT {e : StE} (h : (st.map (·.1)).Nodup) (he : e ∈ st) : valV (st.map tKV) (Sum.inr e.1 : Key) = some (.ref e.2.2) := valV_at (by rw [keysT]; exact nodup_inr h) (List.mem_map_of_mem (f := tKV) he)
theorem valTn {k : Str} (h : k ∉ st.map (·.1)) : valV (st.map tKV) (Sum.inr k : Key) = none := valV_no (by
  rw [keysT]
  intro z
  obtain ⟨a, ha, e⟩ := List.mem_map.mp z
  cases e
  exact h ha)
/-- a row's dict is not that of the steps -/
theorem Stp.inn (R : Stp H p st) {e : StE} (he : e ∈ st) : e.2.2 ≠ p := fun z => by
  have h := R.2 e he
  unfold Sts at h
  rw [z, R.1] at h
  have h2 : st.map tKV = e.2.1.map sKV := by injection (Option.some.inj h)
  cases st with
  | nil => cases he
  | cons a r =>
    cases hq : e.2.1 with
    | nil => rw [hq] at h2; cases h2
    | cons b q =>
      rw [hq] at h2
      have h3 : tKV a = sKV b := (List.cons.inj h2).1
      have h4 : V.ref a.2.2 = V.str b.2 := congrArg Prod.snd h3
      cases h4
end
/-! ### locks -/
def tLocks : Nat → TE → TE
  | 0, t => t
  | n + 1, t => tLockE (tLocks n t)
theorem pe_locks {X : Cx} {e : Expr} {t : TE} (h : PE X e t) : ∀ n, PE X e (tLocks n t)
  | 0 => h
  | n + 1 => pe_lock (pe_locks h n)
theorem locks_go {t : TE} {σ : L2.St} : ∀ (ds : List (Addr × HO)) (H : Hp) (Q : VK), (ds.map (·.1)).Nodup → (∀ p ∈ ds, H p.1 = some p.2 ∧ Mut (some p.2)) →
    (∀ HL, (∀ p ∈ ds, ∃ od, HL p.1 = some (.frz od p.2)) → (∀ a, a ∉ ds.map (·.1) → HL a = H a) → ∀ Q' : VK, (∀ v H', Ex HL H' → (∀ H3, Ex H H3 → (∀ a, a ∉ ds.map (·.1) → H3 a = H' a) → Q v H3) → Q' v H') → t σ HL Q') → tLocks ds.length t σ H Q
  | [], H, Q, _, _, q => q H (fun _ h => (nomatch h)) (fun _ _ => rfl) Q fun v H' x k => k H' x fun _ _ => rfl
  | (d, u) :: r, H, Q, nd, hd, q => by
    rw [List.map_cons, List.nodup_cons] at nd
    obtain ⟨h1, h2⟩ := hd (d, u) List.mem_cons_self
    have ner : ∀ p ∈ r, p.1 ≠ d := fun p hp z => nd.1 (List.mem_map.mpr ⟨p, hp, z⟩)
    refine ⟨d, u, h1, h2, fun od => locks_go r (upd H d (.frz od u)) _ nd.2 (fun p hp => ?_) fun HL a1 a2 Q' hq => ?_⟩
    · rw [upd_ne (ner p hp)]
      exact hd p (List.mem_cons_of_mem _ hp)
    · have hLd : HL d = some (.frz od u) := by rw [a2 d nd.1, upd_same]
      refine q HL (fun p hp => ?_) (fun a ha => ?_) Q' fun v H' x k => hq v H' x fun H3 x3 b3 => ?_
      · rcases List.mem_cons.mp hp with rfl | hp
        · exact ⟨od, hLd⟩
        · exact a1 p hp
      · rw [List.map_cons, List.mem_cons, not_or] at ha
        rw [a2 a ha.2, upd_ne ha.1]
      · have hd3 : H3 d = some (.frz od u) := x3 _ _ upd_same
        refine ⟨hd3, k _ (fun a o ha => ?_) fun a ha => ?_⟩
        · by_cases z : a = d
          · subst z
            rw [upd_same]
            rw [h1] at ha
            exact ha
          · rw [upd_ne z]
            exact x3 _ _ (by rw [upd_ne z]; exact ha)
        · rw [List.map_cons, List.mem_cons, not_or] at ha
          rw [upd_ne ha.1]
          exact b3 a ha.2
/-- [.. for x in xs], all of it True -/
theorem lc_true {K : PySem.W.Frag} {σ : L2.St} {H : Hp} {Q : VK} {i n : Nat} {a : Addr} {xs : List V} {te : TE} (hi : σ[i]? = some (some (.ref a))) (ha : H a = some (.lst xs)) (hl : xs.length ≤ 1000)
    (hte : ∀ x ∈ xs, ∀ H', Ex H H' → ∀ Q' : VK, (∀ H'', Ex H' H'' → Q' (.bl true) H'') → te ((wipe σ [n]).set n (some x)) H' Q')
    (q : ∀ p H', Ex H H' → H' p = some (.lst ((List.replicate xs.length true).map V.bl)) → Q (.ref p) H') : tLc (iList K (tVar i)) (gName n) tYes te [n] σ H Q := by
  refine ⟨_, hi, a, rfl, ⟨_, SqL.of ha⟩, fun D nD => ?_⟩
  refine lc_list (xs := xs) (fun i H' => Ex H H' ∧ H' D = some (.lst ((List.replicate i true).map V.bl))) ⟨exn nD, upd_same⟩ (fun i H' _ h => SqL.of (h.1 _ _ ha)) ?_ ?_
  · rintro k x H' hx ⟨e1, h1⟩
    refine ⟨wipe_set, ?_⟩
    refine hte x (List.mem_of_getElem? hx) H' e1 _ fun H'' e2 => ⟨_, e2 _ _ h1, ?_, exm (ext e1 e2) nD, ?_⟩
    · have := (List.getElem?_eq_some_iff.mp hx).1
      rw [List.length_map, List.length_replicate, sizeLine_eq]
      omega
    · rw [upd_same, List.replicate_succ', List.map_append]
      rfl
  · rintro H' ⟨e1, h1⟩
    exact q D H' e1 h1
/-- [.. for x in d.values()], all of it True -/
theorem vals_true {σ : L2.St} {H : Hp} {Q : VK} {i n : Nat} {d : Addr} {kvs : List (Key × V)} {te : TE} (hi : σ[i]? = some (some (.ref d))) (hd : H d = some (.dK kvs)) (hl : kvs.length ≤ 1000)
    (hte : ∀ kv ∈ kvs, ∀ od H', Ex (upd H d (.frz od (.dK kvs))) H' → ∀ Q' : VK, (∀ H'', Ex H' H'' → Q' (.bl true) H'') → te ((wipe σ [n]).set n (some kv.2)) H' Q')
    (q : ∀ p H', Ex H H' → H' p = some (.lst ((List.replicate kvs.length true).map V.bl)) → Q (.ref p) H') : tLockE (tLc (iVals (tVar i)) (gName n) tYes te [n]) σ H Q := by
  refine ⟨d, _, hd, trivial, fun od => ⟨_, hi, d, od, _, rfl, upd_same, fun D nD => ?_⟩⟩
  have dD : D ≠ d := fun z => by rw [z, upd_same] at nD; cases nD
  refine lc_it walk_values (fun i H' => Ex (upd H d (.frz od (.dK kvs))) H' ∧ H' D = some (.lst ((List.replicate i true).map V.bl))) ⟨exn nD, upd_same⟩ (fun i H' _ h => h.1 _ _ upd_same) ?_ ?_
  · rintro k x H' H'' hk ⟨e1, h1⟩ ⟨rfl, kx, hx⟩
    refine ⟨wipe_set, ?_⟩
    refine hte (kx, x) (List.mem_of_getElem? hx) od _ e1 _ fun H'' e2 => ⟨_, e2 _ _ h1, ?_, exm (ext e1 e2) nD, ?_⟩
    · rw [List.length_map, List.length_replicate, sizeLine_eq]
      omega
    · rw [upd_same, List.replicate_succ', List.map_append]
      rfl
  · rintro H' ⟨e1, h1⟩
    refine ⟨e1 _ _ upd_same, q D _ (unlockD hd e1) ?_⟩
    rw [upd_ne dD]
    exact h1
theorem all_rep (n : Nat) : (List.replicate n true).all id = true := by
  rw [List.all_eq_true]
  intro x hx
  exact (List.mem_replicate.mp hx).2
abbrev rSortD : List V → Hp → VK → Prop := fun xs H Q => ∃ (a : Addr) (kvs : List (Key × V)) (ks : List Str), xs = [.ref a] ∧ Rd H a (.dK kvs) ∧ kvs.map (·.1) = ks.map Sum.inr ∧ ks.length < 64 ∧ ∀ ys p, ys.Perm ks → PyProof.Rows.sortedS ys = true → H p = none → Q (.ref p) (upd H p (.lst (ys.map V.str)))
/-- {k: .. for k in sorted(d)} -/
theorem sdc_go {K : PySem.W.Frag} {σ : L2.St} {H : Hp} {Q : VK} {n : Nat} {d : Addr} {kvs : List (Key × V)} {ks : List Str} {ta : TA} {tv : TE} (hta : ∀ Q' : List V → Hp → Prop, Q' [.ref d] H → ta σ H Q') (hd : Rd H d (.dK kvs)) (hk : kvs.map (·.1) = ks.map Sum.inr) (hnd : ks.Nodup) (hl : ks.length < 64) (hn : n < (wipe σ [n]).length)
    (Rel : Str → V → Hp → Prop) (mono : ∀ k y H1 H2, Ex H1 H2 → Rel k y H1 → Rel k y H2) (ne : ∀ k y H1 p o, (∀ q, y = .ref q → q ≠ p) → Rel k y H1 → Rel k y (upd H1 p o))
    (hte : ∀ D k H', H D = none → H' D ≠ none → k ∈ ks → Ex H H' → ∀ Q' : VK, (∀ y H'', Ex H' H'' → Rel k y H'' → (∀ q, y = .ref q → q ≠ D) → Q' y H'') → tv ((wipe σ [n]).set n (some (.str k))) H' Q')
    (q : ∀ p H' (out : List (Key × V)) (ys : List Str), Ex H H' → H p = none → H' p = some (.dK out) → out.map (·.1) = ys.map Sum.inr → ys.Perm ks → PyProof.Rows.sortedS ys = true → (∀ kv ∈ out, ∃ k ∈ ks, kv.1 = Sum.inr k ∧ Rel k kv.2 H') → Q (.ref p) H') :
    tDc (iList K (tCB rSortD ta)) (gName n) tYes (tVar n) tv [n] σ H Q := by
  refine hta _ ⟨d, kvs, ks, rfl, hd, hk, hl, fun ys t yp yso nt => ⟨t, rfl, ⟨_, SqL.of upd_same⟩, fun D nD => ?_⟩⟩
  have ynd : ys.Nodup := (List.Perm.nodup_iff yp).mpr hnd
  have x1 := exn (o := .lst (ys.map V.str)) nt
  have tD : t ≠ D := ne_of_none (upd_same (H := H) (o := .lst (ys.map V.str))) nD
  have nD2 : H D = none := exb x1 nD
  refine w_out (walk_list (xs := ys.map V.str)) (fun i H' => ∃ acc : List (Key × V × Unit), True ∧ ∃ out : List (Key × V), Ex H H' ∧ H' t = some (.lst (ys.map V.str)) ∧ H' D = some (.dK out) ∧ out.map (·.1) = (ys.take i).map Sum.inr ∧ ∀ kv ∈ out, (∃ k ∈ ks, kv.1 = Sum.inr k ∧ Rel k kv.2 H') ∧ ∀ q, kv.2 = .ref q → q ≠ D) ⟨[], trivial, [], ext x1 (exn nD), by rw [upd_ne tD, upd_same], upd_same, rfl, fun _ h => (nomatch h)⟩ (fun i H' _ h => ?_) ?_ ?_
  · obtain ⟨_, _, _, _, h, _⟩ := h
    exact SqL.of h
  · rintro i x H3 H4 hi ⟨_, _, out, e4, ht, hD, ho, hr⟩ ⟨rfl, hx⟩
    rw [List.getElem?_map] at hx
    cases hz : ys[i]? with
    | none => rw [hz] at hx; cases hx
    | some y =>
      rw [hz] at hx
      obtain rfl : V.str y = x := Option.some.inj hx
      have hyk : y ∈ ks := yp.mem_iff.mp (List.mem_of_getElem? hz)
      have g1 : ((wipe σ [n]).set n (some (.str y)))[n]? = some (some (.str y)) := by simp [List.getElem?_set, hn]
      have hi' : i < ys.length := (List.getElem?_eq_some_iff.mp hz).1
      have ny : (Sum.inr y : Key) ∉ out.map (·.1) := by
        rw [ho]
        intro hm
        obtain ⟨z, hz', e⟩ := List.mem_map.mp hm
        cases e
        obtain ⟨j, hj⟩ := List.mem_iff_getElem?.mp hz'
        rw [List.getElem?_take] at hj
        split at hj
        · have := (List.getElem?_inj (List.getElem?_eq_some_iff.mp hj).1 ynd).mp (hj.trans hz.symm)
          omega
        · cases hj
      refine ⟨wipe_set, _, g1, ?_⟩
      refine hte D y _ nD2 (by rw [hD]; simp) hyk e4 _ fun v H5 e5 r5 v5 => ?_
      have hlen : out.length ≤ 64 := by
        have h1 := congrArg List.length ho
        rw [List.length_map, List.length_map, List.length_take] at h1
        have := yp.length_eq
        omega
      refine ⟨out, Sum.inr y, rfl, e5 _ _ hD, by rw [sizeLine_eq]; omega, [], trivial, out ++ [(Sum.inr y, v)], exm (ext e4 e5) nD2, by rw [upd_ne tD]; exact e5 _ _ ht, ?_, ?_, fun kv hkv => ?_⟩
      · rw [upd_same, putK_new _ (valV_no ny)]
      · rw [List.map_append, ho, List.take_succ, hz]
        simp
      · rcases List.mem_append.mp hkv with h | h
        · obtain ⟨⟨k, kw, z, r⟩, u⟩ := hr kv h
          exact ⟨⟨k, kw, z, ne _ _ _ _ _ u (mono _ _ _ _ e5 r)⟩, u⟩
        · rw [List.mem_singleton.mp h]
          exact ⟨⟨y, hyk, rfl, ne _ _ _ _ _ v5 r5⟩, v5⟩
  · rintro H3 ⟨_, _, out, e4, ht, hD, ho, hr⟩
    rw [List.length_map, List.take_length] at ho
    exact q D H3 out ys e4 nD2 hD ho yp yso fun kv hkv => (hr kv hkv).1
/-- dicts of texts, by what is told of their entries -/
theorem sts_out {ss : List (Str × Str)} (hn : (ss.map (·.1)).Nodup) : ∀ (out : List (Key × V)) (ys : List Str), out.map (·.1) = ys.map Sum.inr → (∀ kv ∈ out, ∃ k ∈ ss.map (·.1), kv.1 = Sum.inr k ∧ ∃ e : Str × Str, e ∈ ss ∧ e.1 = k ∧ kv.2 = .str e.2) →
    ∃ ss' : List (Str × Str), out = ss'.map sKV ∧ ss'.map (·.1) = ys ∧ ∀ e ∈ ss', e ∈ ss
  | [], ys, h, _ => by
    cases ys with
    | nil => exact ⟨[], rfl, rfl, fun _ h => (nomatch h)⟩
    | cons a r => simp at h
  | kv :: r, ys, h, hr => by
    cases ys with
    | nil => simp at h
    | cons y ys =>
      simp only [List.map_cons, List.cons.injEq] at h
      obtain ⟨k, _, z, e, he, hk, hv⟩ := hr kv List.mem_cons_self
      obtain ⟨ss', h1, h2, h3⟩ := sts_out hn r ys h.2 fun kv hkv => hr kv (List.mem_cons_of_mem _ hkv)
      refine ⟨e :: ss', ?_, ?_, fun x hx => (List.mem_cons.mp hx).elim (fun q => by rw [q]; exact he) (h3 x)⟩
      · rw [List.map_cons, h1]
        congr 1
        exact Prod.ext (by rw [z, ← hk]; rfl) hv
      · rw [List.map_cons, h2, hk]
        congr 1
        exact (Sum.inr.inj (h.1.symm.trans z)).symm
/-- what is known of right steps -/
structure StV (st : List StE) : Prop where
  n1 : 1 ≤ st.length
  n5 : st.length ≤ 5
  nd : (st.map (·.1)).Nodup
  wd : ∀ e ∈ st, Wd e.1
  r1 : ∀ e ∈ st, 1 ≤ e.2.1.length ∧ e.2.1.length ≤ 4
  rn : ∀ e ∈ st, (e.2.1.map (·.1)).Nodup
  rw_ : ∀ e ∈ st, ∀ g ∈ e.2.1, Wd g.1
  same : ∀ e ∈ st, ∀ f ∈ st, ∀ k, k ∈ e.2.1.map (·.1) ↔ k ∈ f.2.1.map (·.1)
  goal : ∀ e ∈ st, ∀ g ∈ e.2.1, g.2 ∈ st.map (·.1)
theorem StV.gw {st : List StE} (v : StV st) {e : StE} (he : e ∈ st) {g : Str × Str} (hg : g ∈ e.2.1) : Wd g.2 := by
  obtain ⟨f, hf, z⟩ := List.mem_map.mp (v.goal e he g hg)
  rw [← z]
  exact v.wd f hf
/-- steps in order, rows in order -/
structure SrtT (st st' : List StE) : Prop where
  pm : (st'.map (·.1)).Perm (st.map (·.1))
  so : PyProof.Rows.sortedS (st'.map (·.1)) = true
  sub : ∀ e' ∈ st', ∃ e ∈ st, e.1 = e'.1 ∧ SrtS e.2.1 e'.2.1
def fsE (pe ps : Addr) (s : Str) : List (Str × V) := [("own_steps", .ref pe), ("own_tells", .ref ps), ("own_start", .str s)]
/-- an edition -/
def EdAt (CE : Addr) (H : Hp) (a : Addr) (st : List StE) (tl : List (Str × Str)) (s : Str) : Prop := ∃ dx pe ps, H a = some (.ins CE dx (fsE pe ps s)) ∧ Stp H pe st ∧ Sts H ps tl
section
variable {H H' : Hp} {a sa la ca CE : Addr} {T : Nat} {st : List StE} {tl : List (Str × Str)} {s : Str}
theorem EdAt.ex (h : EdAt CE H a st tl s) (e : Ex H H') : EdAt CE H' a st tl s := by
  obtain ⟨dx, pe, ps, h1, h2, h3⟩ := h
  exact ⟨dx, pe, ps, e _ _ h1, h2.ex e, h3.ex e⟩
theorem EdAt.exN (h : EdAt CE H a st tl s) (e : ExtN H H') : EdAt CE H' a st tl s := by
  obtain ⟨dx, pe, ps, h1, h2, h3⟩ := h
  exact ⟨dx, pe, ps, e _ _ h1 (fun _ z => by cases z), h2.exN e, h3.exN e⟩
theorem EdAt.cutE (h : EdAt CE H a st tl s) (D : Dr H sa la ca T) (e : Ex (cut H sa la) H') : EdAt CE H' a st tl s := by
  obtain ⟨dx, pe, ps, h1, h2, h3⟩ := h
  exact ⟨dx, pe, ps, cut_to e h1 (D.inn h1).1 (D.inn h1).2, h2.cutE D e, h3.cutE D e⟩
theorem EdAt.ins (h : EdAt CE H a st tl s) : ∃ dx fs, H a = some (.ins CE dx fs) := by
  obtain ⟨dx, pe, ps, h1, _⟩ := h
  exact ⟨dx, _, h1⟩
end
theorem lkSt {pe ps : Addr} {s : Str} : (fsE pe ps s).lookup ("own_steps" : Str) = some (.ref pe) := rfl
theorem lkTl {pe ps : Addr} {s : Str} : (fsE pe ps s).lookup ("own_tells" : Str) = some (.ref ps) := rfl
theorem lkSr {pe ps : Addr} {s : Str} : (fsE pe ps s).lookup ("own_start" : Str) = some (.str s) := rfl
/-- right tells -/
structure TlV (st : List StE) (tl : List (Str × Str)) : Prop where
  nd : (tl.map (·.1)).Nodup
  wd : ∀ e ∈ tl, Wd e.2
  ks : ∀ k, k ∈ tl.map (·.1) ↔ k ∈ st.map (·.1)
/-- a container of texts: a dict's keys, or a tuple -/
def Cont (K : PySem.W.Frag) (H : Hp) (c : V) (ks : List Str) : Prop := (∃ d kvs, c = .ref d ∧ Rd H d (.dK kvs) ∧ kvs.map (·.1) = ks.map Sum.inr) ∨ ∃ a, c = .ref a ∧ SqT K H a (ks.map V.str)
end Sn
namespace Sn
open Evl (Ex)
open PySem L2
section
variable {P : Program} {w : World} {K : PySem.W.Frag} {mg : Str → Option Value} {base : Heap}
theorem v_nall {t : TE} {r : List L2.V → Hp → VK → Prop} {u v : TS} {D : Ends} {σ : L2.St} {H : Hp} (h : t σ H fun x H1 => r [x] H1 fun y H2 => ∃ c, y = .bl c ∧ if (!c) = true then u D σ H2 else v D σ H2) : tIfS (tNot (tB (tCB r (tCons t tNil)))) u v D σ H := h
theorem v_retB {t : TE} {r : List L2.V → Hp → VK → Prop} {D : Ends} {σ : L2.St} {H : Hp} (h : t σ H fun x H1 => r [x] H1 D.rt) : tRet (tCB r (tCons t tNil)) D σ H := h
theorem sc_is_goal : FnScope ["thing", "states"] ["thing", "states"] (defScope s_is_goal) := ⟨rfl, rfl, rfl, by decide +kernel, rfl, by decide +kernel, by decide +kernel⟩
def spIsGoal (K : PySem.W.Frag) : Sp := fun vs H Q _ => ∃ z c : V, vs = [z, c] ∧
  ((∃ (x : Str) (ks : List Str), z = .str x ∧ x.cps.size ≤ 1000 ∧ Cont K H c ks ∧ ∀ H', Ex H H' → Q (.bl (isWd x && decide (x ∈ ks))) H') ∨ (∃ t, TyX K H z t ∧ PySem.W.kitOne K t (.type "str") = some false ∧ Q (.bl false) H))
theorem dgn {H : Hp} {a : Addr} {kvs : List (Key × V)} {x : Str} {o : Option V} (h : Rd H a (.dK kvs)) (e : valV kvs (Sum.inr x : Key) = o) : DGet H a (.str x) o := .inl ⟨kvs, Sum.inr x, h, rfl, e.symm⟩
theorem val_mem {kvs : List (Key × V)} {ks : List Str} {x : Str} (h : kvs.map (·.1) = ks.map Sum.inr) : (valV kvs (Sum.inr x : Key)).isSome = decide (x ∈ ks) := by
  by_cases hx : x ∈ ks
  · rw [decide_eq_true hx]
    cases q : valV kvs (Sum.inr x : Key) with
    | some v => rfl
    | none =>
      have hm : (Sum.inr x : Key) ∈ kvs.map (·.1) := by rw [h]; exact List.mem_map_of_mem hx
      obtain ⟨kv, hkv, e⟩ := List.mem_map.mp hm
      exfalso
      have : ∀ l : List (Key × V), kv ∈ l → valV l kv.1 ≠ none := by
        intro l
        induction l with
        | nil => intro z; cases z
        | cons a r ih =>
          intro hm
          by_cases z : a.1 = kv.1
          · rw [valV_pos z]; simp
          · rw [valV_neg z]
            rcases List.mem_cons.mp hm with y | y
            · exact absurd (by rw [y]) z
            · exact ih y
      rw [e] at this
      exact this kvs hkv q
  · rw [decide_eq_false hx, valV_no (by rw [h]; intro z; obtain ⟨a, ha, e⟩ := List.mem_map.mp z; cases e; exact hx ha)]
    rfl
theorem ok_is_goal {f : Addr} {fd : FuncData} (F : Fun K "is_goal" "is_goal" s_is_goal f fd) (cW : Cal P w K mg base CX0 1 "is_word" ["thing"] (spIsWord K)) : FnOk P w K mg base CX0 2 f fd ["thing", "states"] (spIsGoal K) := by
  refine F.ok sc_is_goal (fun vs H Q E h => ?_) (fun cdv A outer s H vs Q E hr h => ?_)
  · obtain ⟨_, _, rfl, _⟩ := h
    rfl
  · obtain ⟨z, c, rfl, h⟩ := h
    have hu := hu_of hr
    rcases h with ⟨x, ks, rfl, hx, hc, k⟩ | ⟨t, ht, hk, k⟩
    · rcases hc with ⟨d, kvs, rfl, hd, hks⟩ | ⟨a, rfl, ha⟩
      · refine ⟨_, (pss_one (ps_ret (pe_and (pcall cW hr (pa_cons (pv 0) pa_nil)) (pe_one (pe_cmp (pc_din hu (pv 0) (pv 1)) rfl))))), ?_⟩
        refine ⟨_, rfl, _, rfl, .inl ⟨x, rfl, hx, fun H1 x1 => ⟨_, rfl, ?_⟩⟩⟩
        cases hw : isWd x with
        | false =>
          refine iteF ?_
          have := k H1 x1
          rw [hw, Bool.false_and] at this
          exact this
        | true =>
          refine iteT ⟨_, rfl, _, rfl, d, _, rfl, dgn (rd_ex hd x1) rfl, ?_⟩
          rw [val_mem hks]
          have := k H1 x1
          rw [hw, Bool.true_and] at this
          exact this
      · refine ⟨_, (pss_one (ps_ret (pe_and (pcall cW hr (pa_cons (pv 0) pa_nil)) (pe_one (pe_cmpR (r := rIn K false) op_in_seq (pv 0) (pv 1) (by rfl)))))), ?_⟩
        refine ⟨_, rfl, _, rfl, .inl ⟨x, rfl, hx, fun H1 x1 => ⟨_, rfl, ?_⟩⟩⟩
        cases hw : isWd x with
        | false =>
          refine iteF ?_
          have := k H1 x1
          rw [hw, Bool.false_and] at this
          exact this
        | true =>
          refine iteT ⟨_, rfl, _, rfl, a, _, rfl, .inr (Evl.ex_t x1 ha), rfl, flat_strs ks, ?_⟩
          have := k H1 x1
          rw [hw, Bool.true_and] at this
          rw [if_neg (by decide), inV_str]
          exact this
    · refine ⟨_, (pss_one (ps_ret (pe_and (pcall cW hr (pa_cons (pv 0) pa_nil)) (pe_one (pe_cmp (pc_din hu (pv 0) (pv 1)) rfl))))), ?_⟩
      exact ⟨_, rfl, _, rfl, .inr ⟨t, ht, hk, _, rfl, iteF k⟩⟩
theorem once_nd {l : List Str} (h : l.Nodup) : (once [] l).length = l.length := by
  have gen : ∀ (l acc : List Str), (acc ++ l).Nodup → (once acc l).length = acc.length + l.length := by
    intro l
    induction l with
    | nil => intro acc _; simp [once]
    | cons a r ih =>
      intro acc hn
      have ha : a ∉ acc := fun z => (List.nodup_append.mp hn).2.2 a z a List.mem_cons_self rfl
      rw [once, if_neg ha, ih (a :: acc) ?_]
      · simp only [List.length_cons]; omega
      · have := (List.perm_middle (a := a) (l₁ := acc) (l₂ := r)).nodup_iff.mp hn
        simpa using this
  simpa using gen l [] (by simpa using h)
theorem sub_lenN {α : Type} [DecidableEq α] : ∀ {l ws : List α}, l.Nodup → (∀ x ∈ l, x ∈ ws) → l.length ≤ ws.length
  | [], _, _, _ => Nat.zero_le _
  | a :: r, ws, h, hs => by
    have ha := hs a List.mem_cons_self
    obtain ⟨h1, h2⟩ := List.nodup_cons.mp h
    have ih := sub_lenN (l := r) (ws := ws.erase a) h2 fun x hx => (List.mem_erase_of_ne (fun e : x = a => h1 (by rw [← e]; exact hx))).mpr (hs x (List.mem_cons_of_mem _ hx))
    rw [List.length_erase_of_mem ha] at ih
    have hp : 0 < ws.length := List.length_pos_of_mem ha
    show r.length + 1 ≤ ws.length
    omega
theorem sc_are_steps : FnScope ["steps", "rows", "row", "goal"] ["steps"] (defScope s_are_steps) := ⟨rfl, rfl, rfl, by decide +kernel, rfl, by decide +kernel, by decide +kernel⟩
def spAreSteps (K : PySem.W.Frag) : Sp := fun vs H Q _ => ∃ (p : Addr) (st : List StE), vs = [.ref p] ∧ Stp H p st ∧ (st.map (·.2.2)).Nodup ∧ StV st ∧ ∀ H', Ex H H' → Q (.bl true) H'
theorem ok_are_steps {f : Addr} {fd : FuncData} (F : Fun K "are_steps" "are_steps" s_are_steps f fd) (B : Bt mg) (C : Cst mg) (cA : Cal P w K mg base CX0 2 "are_words" ["some", "most"] (spAreWords K)) (cG : Cal P w K mg base CX0 2 "is_goal" ["thing", "states"] (spIsGoal K)) :
    FnOk P w K mg base CX0 3 f fd ["steps"] (spAreSteps K) := by
  refine F.ok sc_are_steps (fun vs H Q E h => ?_) (fun cdv A outer s H vs Q E hr h => ?_)
  · obtain ⟨_, _, rfl, _⟩ := h
    rfl
  · obtain ⟨p, st, rfl, hp, nd, V, k⟩ := h
    have hu := hu_of hr
    refine ⟨_, (pss_cons (ps_if (PW.pt (pw_or (pt_not (pt_val (pe_callB call_isi (by rfl) B.isi PyProof.Rows.boot_isinstance (pa_cons (pv 0) (pa_cons (pe_bltn (v := .ty "dict") (by rfl) B.dict PyProof.Rows.boot_dict rfl) pa_nil))))) (pw_or1 (pt_not (pt_val (pcall cA hr (pa_cons (pv 0) (pa_cons (pe_glob (v := .int 5) rfl C.MOST_STATES.choose_spec ⟨_, rfl⟩) pa_nil))))))))
        (pss_one (ps_ret pe_bl))
        pss_nil)
      (pss_cons (ps_set (i := 1) sc_are_steps.nd rfl (.inr rfl) (pe_listVals (by rfl) (pv 0) (by rfl) B.list PyProof.Rows.boot_list))
      (pss_cons (ps_if (pt_not (pt_val (pe_callB (cr_all rfl) (by rfl) B.all PyProof.Rows.boot_all (pa_cons (pe_lc (own := [("row", 2)]) (by rfl) sc_are_steps.nd (pi_list (pv 1)) (blkOk_by (own := [("row", 2)]) (N := ["steps", "rows", "row", "goal"]) (sc := defScope s_are_steps) (by decide +kernel)) (fun _ _ _ _ _ => (pg_name (i := 2) sc_are_steps.nd rfl (Or.inl rfl))) (fun _ _ _ _ _ => pts_nil) (fun _ _ _ _ _ => (pe_and (pe_callB (r := rIsi K) call_isi (by rfl) B.isi PyProof.Rows.boot_isinstance (pa_cons (pv 2) (pa_cons (pe_bltn (v := .ty "dict") (by rfl) B.dict PyProof.Rows.boot_dict rfl) pa_nil))) (pe_one (pcall cA hr (pa_cons (pv 2) (pa_cons (pe_glob (v := .int 4) rfl C.MOST_KINDS.choose_spec ⟨_, rfl⟩) pa_nil))))))) pa_nil))))
        (pss_one (ps_ret pe_bl))
        pss_nil)
      (pss_cons (ps_if (pt_not (pt_val (pe_callB (cr_all rfl) (by rfl) B.all PyProof.Rows.boot_all (pa_cons (pe_lc (own := [("row", 2)]) (by rfl) sc_are_steps.nd (pi_list (pv 1)) (blkOk_by (own := [("row", 2)]) (N := ["steps", "rows", "row", "goal"]) (sc := defScope s_are_steps) (by decide +kernel)) (fun _ _ _ _ _ => (pg_name (i := 2) sc_are_steps.nd rfl (Or.inl rfl))) (fun _ _ _ _ _ => pts_nil) (fun _ _ _ _ _ => (pe_cmpR (r := rEqX P w) (op_eqX hr.units0) (pe_callTy (r := rSetD P w) (call_setD rfl) (by rfl) B.set PyProof.Rows.boot_set (pa_cons (pv 2) pa_nil)) (pe_callTy (r := rSetD P w) (call_setD rfl) (by rfl) B.set PyProof.Rows.boot_set (pa_cons (pe_ix (r := rIxL K) ix_list (pv 1) pe_int (fun _ _ => rfl)) pa_nil)) (nomark _)))) pa_nil))))
        (pss_one (ps_ret pe_bl))
        pss_nil)
      (pss_one (ps_ret (pe_callB (cr_all rfl) (by rfl) B.all PyProof.Rows.boot_all (pa_cons (pe_locks (pe_lc2 (own := [("row", 2), ("goal", 3)]) (vs1 := [3]) (by rfl) sc_are_steps.nd (pi_list (pv 1)) (blkOk_by (own := [("row", 2), ("goal", 3)]) (N := ["steps", "rows", "row", "goal"]) (sc := defScope s_are_steps) (by decide +kernel)) (by decide) (fun _ _ _ _ _ => (pg_name (i := 2) sc_are_steps.nd rfl (Or.inl rfl))) (fun _ _ _ _ _ => pts_nil) (fun _ _ _ _ _ => pi_values (pv 2)) (fun _ _ _ _ _ => (pg_name (i := 3) sc_are_steps.nd rfl (Or.inl rfl))) (fun _ _ _ _ _ => pts_nil) (fun _ _ _ _ _ => (pcall cG hr (pa_cons (pv 3) (pa_cons (pv 0) pa_nil))))) st.length) pa_nil)))))))), ?_⟩
    have wl : (st.map (·.1)).length ≤ 5 := by rw [List.length_map]; exact V.n5
    have aw : ∀ {ks : List Str} {m : Int}, (∀ x ∈ ks, Wd x) → 1 ≤ ks.length → (ks.length : Int) ≤ m → (decide (1 ≤ ks.length) && decide ((ks.length : Int) ≤ m) && ks.all isWd) = true := fun {ks m} h3 h4 h5 => by
      rw [decide_eq_true h4, decide_eq_true h5, Bool.true_and, Bool.true_and, List.all_eq_true.mpr fun x hx => isWd_of (h3 x hx)]
    have kw : ∀ x ∈ st.map (·.1), Wd x := fun x hx => by
      obtain ⟨e, he, rfl⟩ := List.mem_map.mp hx
      exact V.wd e he
    refine ⟨_, rfl, _, _, _, _, true, rfl, .ty _, .base (.dK hp.1), kit_ty (by decide +kernel), _, rfl, ?_⟩
    refine iteF ?_
    refine ⟨_, rfl, p, 5, _, st.map (·.1), rfl, hp.1, keysT st, fun x hx => (kw x hx).sz, by omega, fun H1 x1 => ⟨_, rfl, ?_⟩⟩
    rw [aw kw (by rw [List.length_map]; exact V.n1) (by have := V.n5; rw [List.length_map]; omega)]
    refine iteF ?_
    have p1 := hp.ex x1
    refine ⟨_, rfl, p, _, rfl, p1.1, fun r nr => ?_⟩
    have em : (st.map tKV).map (·.2) = st.map fun e => L2.V.ref e.2.2 := by rw [List.map_map]; rfl
    rw [em]
    have x2 := exn (o := .lst (st.map fun e => L2.V.ref e.2.2)) nr
    have r2 := upd_same (H := H1) (a := r) (o := .lst (st.map fun e => L2.V.ref e.2.2))
    generalize upd H1 r (.lst (st.map fun e => L2.V.ref e.2.2)) = H2 at x2 r2 ⊢
    have p2 := p1.ex x2
    have sl : (st.map fun e => L2.V.ref e.2.2).length ≤ 1000 := by have := V.n5; rw [List.length_map]; omega
    -- each row a dict of words
    refine u_nx (u_seq (v_nall ?_))
    refine lc_true (K := K) (i := 1) (n := 2) rfl r2 sl (fun x hx H' x' Q' hq => ?_) fun D3 H3 x3 g3 => ?_
    · obtain ⟨e, he, rfl⟩ := List.mem_map.mp hx
      have he' : H' e.2.2 = some (.dK (e.2.1.map sKV)) := x' _ _ (p2.2 e he)
      refine ⟨_, rfl, _, _, _, _, true, rfl, .ty _, .base (.dK he'), kit_ty (by decide +kernel), _, rfl, ?_⟩
      have kr : ∀ y ∈ e.2.1.map (·.1), Wd y := fun y hy => by
        obtain ⟨g, hg, rfl⟩ := List.mem_map.mp hy
        exact V.rw_ e he g hg
      have l4 := V.r1 e he
      refine iteT ⟨_, rfl, e.2.2, 4, _, e.2.1.map (·.1), rfl, he', keysS _, fun y hy => (kr y hy).sz, by rw [List.length_map]; omega, fun H'' x'' => ?_⟩
      rw [aw kr (by rw [List.length_map]; exact l4.1) (by rw [List.length_map]; omega)]
      exact hq H'' x''
    refine ⟨D3, _, rfl, SqL.of g3, _, rfl, ?_⟩
    rw [all_rep]
    refine iteF ?_
    -- the same kinds
    have p3 := p2.ex x3
    have r3 := x3 _ _ r2
    refine u_next (u_seq (v_nall ?_))
    refine lc_true (K := K) (i := 1) (n := 2) rfl r3 sl (fun x hx H' x' Q' hq => ?_) fun D4 H4 x4 g4 => ?_
    · obtain ⟨e, he, rfl⟩ := List.mem_map.mp hx
      have p' := p3.ex x'
      obtain ⟨f0, h0⟩ : ∃ f0, st[0]? = some f0 := ⟨st[0]'(by have := V.n1; omega), List.getElem?_eq_getElem _⟩
      have hf0 := List.mem_of_getElem? h0
      have l1 := (V.r1 e he).2
      have l2 := (V.r1 f0 hf0).2
      refine ⟨_, rfl, e.2.2, _, e.2.1.map (·.1), rfl, .inl (p'.2 e he), keysS _, by rw [List.length_map]; omega, fun q1 n1 => ?_⟩
      have y1 := exn (o := SetX P w q1 (once [] (e.2.1.map (·.1)))) n1
      refine ⟨_, rfl, r, _, 0, .ref f0.2.2, rfl, rfl, SqL.of (y1 _ _ (x' _ _ r3)), ?_, ?_⟩
      · show atI (st.map fun e => L2.V.ref e.2.2) 0 = _
        exact atI_nat (j := 0) (by rw [List.getElem?_map, h0]; rfl)
      refine ⟨f0.2.2, _, f0.2.1.map (·.1), rfl, .inl ((p'.ex y1).2 f0 hf0), keysS _, by rw [List.length_map]; omega, fun q2 n2 => ?_⟩
      have y2 := exn (o := SetX P w q2 (once [] (f0.2.1.map (·.1)))) n2
      refine ⟨q1, q2, _, _, rfl, rfl, y2 _ _ upd_same, upd_same, ?_⟩
      have m1 : ∀ k, k ∈ once [] (e.2.1.map (·.1)) ↔ k ∈ e.2.1.map (·.1) := fun k => by rw [once_mem]; simp
      have m2 : ∀ k, k ∈ once [] (f0.2.1.map (·.1)) ↔ k ∈ f0.2.1.map (·.1) := fun k => by rw [once_mem]; simp
      have h1 : ((once [] (e.2.1.map (·.1))).length : Nat) = (once [] (f0.2.1.map (·.1))).length := by
        rw [once_nd (V.rn e he), once_nd (V.rn f0 hf0)]
        refine Nat.le_antisymm (sub_lenN (V.rn e he) fun k hk => (V.same e he f0 hf0 k).mp hk) (sub_lenN (V.rn f0 hf0) fun k hk => (V.same e he f0 hf0 k).mpr hk)
      have h2 : ((once [] (e.2.1.map (·.1))).all fun k => decide (k ∈ once [] (f0.2.1.map (·.1)))) = true := by
        rw [List.all_eq_true]
        intro k hk
        exact decide_eq_true ((m2 k).mpr ((V.same e he f0 hf0 k).mp ((m1 k).mp hk)))
      rw [decide_eq_true h1, h2]
      exact hq _ (ext y1 y2)
    refine ⟨D4, _, rfl, SqL.of g4, _, rfl, ?_⟩
    rw [all_rep]
    refine iteF ?_
    -- the goals
    have p4 := p3.ex x4
    have r4 := x4 _ _ r3
    refine u_next (v_retB ?_)
    have ld : (st.map fun e : StE => (e.2.2, HO.dK (e.2.1.map sKV))).length = st.length := List.length_map _
    have lm : (st.map fun e : StE => (e.2.2, HO.dK (e.2.1.map sKV))).map (·.1) = st.map (·.2.2) := by rw [List.map_map]; rfl
    have big := locks_go (σ := [some (.ref p), some (.ref r), none, none]) (t := tLc2 (iList K (tVar 1)) (gName 2) tYes (iVals (tVar 2)) (gName 3) tYes (tCall (spIsGoal K) [] E0 (tCons (tVar 3) (tCons (tVar 0) tNil))) [2, 3] [3]) (st.map fun e : StE => (e.2.2, HO.dK (e.2.1.map sKV))) H4 (fun x H1 => rAll K [x] H1 Q) (by rw [lm]; exact nd) (fun q hq => ?_) (fun HL a1 a2 Q' hq => ?_)
    · rw [ld] at big
      exact big
    · obtain ⟨e, he, rfl⟩ := List.mem_map.mp hq
      exact ⟨p4.2 e he, trivial⟩
    have rne : r ∉ (st.map fun e : StE => (e.2.2, HO.dK (e.2.1.map sKV))).map (·.1) := fun z => by
      rw [lm] at z
      obtain ⟨e, he, e2⟩ := List.mem_map.mp z
      have := p4.2 e he
      unfold Sts at this
      rw [e2, r4] at this
      cases this
    have pne : p ∉ (st.map fun e : StE => (e.2.2, HO.dK (e.2.1.map sKV))).map (·.1) := fun z => by
      rw [lm] at z
      obtain ⟨e, he, e2⟩ := List.mem_map.mp z
      exact p4.inn he e2
    have rL : HL r = some (.lst (st.map fun e => L2.V.ref e.2.2)) := by rw [a2 r rne]; exact r4
    have pL : HL p = some (.dK (st.map tKV)) := by rw [a2 p pne]; exact p4.1
    have fL : ∀ e ∈ st, ∃ od, HL e.2.2 = some (.frz od (.dK (e.2.1.map sKV))) := fun e he => a1 (e.2.2, HO.dK (e.2.1.map sKV)) (List.mem_map.mpr ⟨e, he, rfl⟩)
    have cnt : ∀ i, ((st.take i).flatMap fun e => e.2.1).length ≤ 20 := fun i => by
      have hb : ∀ l : List StE, (∀ e ∈ l, e.2.1.length ≤ 4) → (l.flatMap fun e => e.2.1).length ≤ 4 * l.length := fun l => by
        induction l with
        | nil => intro _; simp
        | cons a q ih =>
          intro h
          have h1 := h a List.mem_cons_self
          have h2 := ih fun e he => h e (List.mem_cons_of_mem _ he)
          simp only [List.flatMap_cons, List.length_append, List.length_cons]
          omega
      have h1 := hb (st.take i) fun e he => (V.r1 e (List.mem_of_mem_take he)).2
      have h2 := V.n5
      have h3 := List.length_take_le' i st
      omega
    refine ⟨_, rfl, r, rfl, ⟨_, SqL.of rL⟩, fun D nD => ?_⟩
    refine w_out (walk_list (xs := st.map fun e => L2.V.ref e.2.2)) (fun i H' => Ex HL H' ∧ H' D = some (.lst ((List.replicate ((st.take i).flatMap fun e => e.2.1).length true).map L2.V.bl))) ⟨exn nD, upd_same⟩ (fun i H' _ h => SqL.of (h.1 _ _ rL)) ?_ ?_
    · rintro i x H5 H6 hi ⟨e5, h5⟩ ⟨rfl, hx⟩
      rw [List.getElem?_map] at hx
      cases hz : st[i]? with
      | none => rw [hz] at hx; cases hx
      | some e =>
        rw [hz] at hx
        obtain rfl : L2.V.ref e.2.2 = x := Option.some.inj hx
        have he := List.mem_of_getElem? hz
        obtain ⟨od, hod⟩ := fL e he
        have tk : ((st.take (i + 1)).flatMap fun e => e.2.1).length = ((st.take i).flatMap fun e => e.2.1).length + e.2.1.length := by
          rw [List.take_succ, hz]
          simp
        refine ⟨rfl, _, rfl, e.2.2, od, _, rfl, e5 _ _ hod, ?_⟩
        refine w_out (walk_values (kvs := e.2.1.map sKV)) (fun j H' => Ex HL H' ∧ H' D = some (.lst ((List.replicate (((st.take i).flatMap fun e => e.2.1).length + j) true).map L2.V.bl))) ⟨e5, h5⟩ (fun j H' _ h => h.1 _ _ hod) ?_ ?_
        · rintro j z H7 H8 hj ⟨e7, h7⟩ ⟨rfl, kz, hkz⟩
          rw [List.getElem?_map] at hkz
          cases hzz : e.2.1[j]? with
          | none => rw [hzz] at hkz; cases hkz
          | some g =>
            rw [hzz] at hkz
            obtain ⟨_, rfl⟩ := Prod.mk.inj (Option.some.inj hkz)
            have hg := List.mem_of_getElem? hzz
            have hw := V.gw he hg
            refine ⟨rfl, _, rfl, _, rfl, _, _, rfl, .inl ⟨g.2, st.map (·.1), rfl, hw.sz, .inl ⟨p, _, rfl, .inl (e7 _ _ pL), keysT st⟩, fun H9 x9 => ?_⟩⟩
            rw [isWd_of hw, decide_eq_true (V.goal e he g hg), Bool.true_and]
            refine ⟨_, x9 _ _ h7, ?_, exm (ext e7 x9) nD, ?_⟩
            · have c1 := cnt (i + 1)
              rw [tk] at c1
              have c2 := (List.getElem?_eq_some_iff.mp hzz).1
              rw [List.length_map, List.length_replicate, sizeLine_eq]
              omega
            · rw [upd_same, ← Nat.add_assoc, List.replicate_succ', List.map_append]
              rfl
        · rintro H7 ⟨e7, h7⟩
          rw [List.length_map] at h7
          exact ⟨e7, by rw [tk]; exact h7⟩
    · rintro H5 ⟨e5, h5⟩
      refine hq _ H5 e5 fun H6 e6 b6 => ?_
      have hD6 : H6 D = H5 D := b6 D fun z => by
        rw [lm] at z
        obtain ⟨e, he, e2⟩ := List.mem_map.mp z
        obtain ⟨od, hod⟩ := fL e he
        rw [e2, nD] at hod
        cases hod
      refine ⟨D, _, rfl, SqL.of (by rw [hD6]; exact h5), ?_⟩
      rw [all_rep]
      exact k H6 (ext x1 (ext x2 (ext x3 (ext x4 e6))))
end
end Sn
namespace Sn
open Evl (Ex)
open PySem L2
section
variable {X : Cx} {P : Program} {w : World} {K : PySem.W.Frag} {mg : Str → Option Value} {base : Heap}
theorem sc_need_row : FnScope ["row", "kinds", "at", "kind"] ["row", "kinds"] (defScope s_need_row) := ⟨rfl, rfl, rfl, by decide +kernel, rfl, by decide +kernel, by decide +kernel⟩
def spNeedRow (K : PySem.W.Frag) (CK : Addr) : Sp := fun vs H Q E => ∃ (z : V) (d : Addr) (kvs : List (Key × V)) (ks : List Str), vs = [z, .ref d] ∧ H d = some (.dK kvs) ∧ kvs.map (·.1) = ks.map Sum.inr ∧
  ((∃ t, TyX K H z t ∧ PySem.W.kitOne K t (.type "tuple") = some false ∧ ∀ dd H', Ex H H' → H' dd = some (.xd [("at", .int 0)]) → E (.ref CK) (some dd) H') ∨
   (∃ (a : Addr) (xs : List V), z = .ref a ∧ H a = some (.tup xs) ∧ (∀ x ∈ xs, Itm K H x) ∧ ((∀ x ∈ xs, good ks x = true) → ∀ H', Ex H H' → Q .non H') ∧
     ∀ (i : Nat) (x : V), xs[i]? = some x → good ks x = false → (∀ (j : Nat) (y : V), j < i → xs[j]? = some y → good ks y = true) → ∀ dd H', Ex H H' → H' dd = some (.xd [("at", .int (i : Int))]) → E (.ref CK) (some dd) H'))
theorem ok_need_row {f CK : Addr} {fd : FuncData} (F : Fun K "need_row" "need_row" s_need_row f fd) (B : Bt mg) (R : RaiseK P w K mg base CK "NoKind" "at") : FnOk P w K mg base (L2.CX P w) 2 f fd ["row", "kinds"] (spNeedRow K CK) := by
  refine F.okX sc_need_row (fun vs H Q E h => ?_) (fun cdv A outer s H vs Q E hr h => ?_)
  · obtain ⟨_, _, _, _, rfl, _⟩ := h
    rfl
  · obtain ⟨z, d, kvs, ks, rfl, hd, hk, h⟩ := h
    have hu := hu_of hr
    refine ⟨_, (pss_cons (ps_if (pt_not (pt_val (pe_callB call_isi (by rfl) B.isi PyProof.Rows.boot_isinstance (pa_cons (pv 0) (pa_cons (pe_bltn (v := .ty "tuple") (by rfl) B.tuple PyProof.Rows.boot_tuple rfl) pa_nil)))))
        (pss_one (ps_raise rfl tkX (pr_k R (hr.mono (by decide)) pe_int)))
        pss_nil)
      (pss_one (ps_for paX rfl (pi_enumT (by rfl) B.enum (pa_cons (pv 0) pa_nil)) (pg_tup rfl (pgs_cons (pg_name (i := 2) sc_need_row.nd rfl (.inl rfl)) (pgs_cons (pg_name (i := 3) sc_need_row.nd rfl (.inl rfl)) pgs_nil)))
        (pss_one (ps_if (PW.pt (pw_or (pt_not (pt_val (pe_callB call_isi (by rfl) B.isi PyProof.Rows.boot_isinstance (pa_cons (pv 3) (pa_cons (pe_bltn (v := .ty "str") (by rfl) B.str PyProof.Rows.boot_str rfl) pa_nil))))) (pw_or1 (pt_cmp (pc_dnotin hu (pv 3) (pv 1))))))
          (pss_one (ps_raise rfl tkX (pr_k R (hr.mono (by decide)) (pv 2))))
          pss_nil))))), ?_⟩
    rcases h with ⟨t, ht, hkt, k⟩ | ⟨a, xs, rfl, ha, hi, kQ, kE⟩
    · refine ⟨_, rfl, _, _, _, _, false, rfl, .ty _, ht, hkt, _, rfl, ?_⟩
      refine iteT ?_
      exact mkK k
    · refine ⟨_, rfl, _, _, _, _, true, rfl, .ty _, .base (.tup ha), kit_ty (by decide +kernel), _, rfl, ?_⟩
      refine iteF ?_
      refine ⟨_, rfl, a, xs, rfl, SqT.of ha, ?_⟩
      refine for_it walk_enumT (fun i σ H' => ∃ z1 z2, σ = [some (.ref a), some (.ref d), z1, z2] ∧ Ex H H' ∧ ∀ (j : Nat) (y : V), j < i → xs[j]? = some y → good ks y = true) ⟨none, none, rfl, exr, fun _ _ h => absurd h (Nat.not_lt_zero _)⟩ (fun i σ H' _ h => ?_) ?_ ?_
      · obtain ⟨_, _, _, e, _⟩ := h
        exact SqT.of (e _ _ ha)
      · rintro i v σ H1 H2 hlt ⟨z1, z2, rfl, e1, g1⟩ ⟨T, x, y, rfl, nT, rfl, hx, hy⟩
        obtain rfl : V.int (i : Nat) = x := Option.some.inj hx
        have hy : xs[i]? = some y := hy
        have e2 : Ex H (upd H1 T (.tup [.int (i : Nat), y])) := ext e1 (exn nT)
        refine ⟨T, [.int (i : Nat), y], rfl, SqT.of upd_same, rfl, _, _, rfl, _, _, rfl, rfl, ?_⟩
        generalize upd H1 T (.tup [.int (i : Nat), y]) = H3 at e2 ⊢
        have hd3 := e2 _ _ hd
        have bad : good ks y = false → ∀ dd H', Ex H3 H' → H' dd = some (.xd [("at", .int ((i : Nat) : Int))]) → E (.ref CK) (some dd) H' := fun hg dd H' e h => kE i y hy hg g1 dd H' (ext e2 e) h
        have nxt : good ks y = true → ∀ (j : Nat) (y' : V), j < i + 1 → xs[j]? = some y' → good ks y' = true := fun hg j y' hj hy' => by
          rcases Nat.lt_succ_iff_lt_or_eq.mp hj with h | h
          · exact g1 j y' h hy'
          · subst h
            rw [hy] at hy'
            rw [← Option.some.inj hy']
            exact hg
        rcases (hi y (List.mem_of_getElem? hy)).ex e2 with ⟨sx, rfl⟩ | ⟨t, ht, hkt⟩
        · refine ⟨_, rfl, _, _, _, _, true, rfl, .ty _, .base (.str sx), kit_ty (by decide +kernel), _, rfl, ?_⟩
          refine iteF ?_
          by_cases hm : sx ∈ ks
          · have hg : good ks (.str sx) = true := decide_eq_true hm
            have hv : (valV kvs (Sum.inr sx : Key)).isSome = true := by
              cases hv : valV kvs (Sum.inr sx : Key) with
              | some v => rfl
              | none =>
                have := valV_not hv
                rw [hk] at this
                exact absurd (List.mem_map_of_mem hm) this
            refine ⟨_, rfl, _, rfl, d, _, rfl, DGet.k (k := (Sum.inr sx : Key)) hd3, _, rfl, ?_⟩
            rw [hv]
            refine iteF ?_
            exact ⟨_, _, rfl, e2, nxt hg⟩
          · have hg : good ks (.str sx) = false := decide_eq_false hm
            have hv : (valV kvs (Sum.inr sx : Key)).isSome = false := by
              rw [valV_no]
              · rfl
              · rw [hk]
                intro z
                obtain ⟨q, hq, e⟩ := List.mem_map.mp z
                cases e
                exact hm hq
            refine ⟨_, rfl, _, rfl, d, _, rfl, DGet.k (k := (Sum.inr sx : Key)) hd3, _, rfl, ?_⟩
            rw [hv]
            refine iteT ?_
            exact ⟨_, rfl, mkK (bad hg)⟩
        · have hg : good ks y = false := by
            cases y with
            | str q =>
              exfalso
              cases ht with
              | base b =>
                cases b
                have z : PySem.W.kitOne K (.type "str") (.type "str") = some true := kit_ty (by decide +kernel)
                rw [z] at hkt
                cases hkt
            | _ => rfl
          refine ⟨_, rfl, _, _, _, _, false, rfl, .ty _, ht, hkt, _, rfl, ?_⟩
          refine iteT ?_
          refine iteT ?_
          exact ⟨_, rfl, mkK (bad hg)⟩
      · rintro σ H1 ⟨z1, z2, rfl, e1, g1⟩
        refine kQ (fun x hx => ?_) H1 e1
        obtain ⟨j, hj⟩ := List.mem_iff_getElem?.mp hx
        exact g1 j x (List.getElem?_eq_some_iff.mp hj).1 hj
end
end Sn
namespace Sn
open Evl (Ex)
open PySem L2
section
variable {P : Program} {w : World} {K : PySem.W.Frag} {mg : Str → Option Value} {base : Heap}
theorem u_fld {K : PySem.W.Frag} {t0 te : TE} {f : Str} {D : Ends} {σ : L2.St} {H : Hp} (h : te σ H fun v H1 => sFld K t0 (tC v) f D σ H1) : sFld K t0 te f D σ H := h
/-- dicts of dicts, by what is told of their entries -/
theorem stp_out {st : List StE} {H : Hp} (hn : (st.map (·.1)).Nodup) : ∀ (out : List (Key × L2.V)) (ys : List Str), out.map (·.1) = ys.map Sum.inr → (∀ kv ∈ out, ∃ k ∈ st.map (·.1), kv.1 = Sum.inr k ∧ ∃ (e : StE) (p' : Addr) (row : List (Str × Str)), e ∈ st ∧ e.1 = k ∧ kv.2 = .ref p' ∧ Sts H p' row ∧ SrtS e.2.1 row) →
    ∃ st' : List StE, out = st'.map tKV ∧ st'.map (·.1) = ys ∧ ∀ e' ∈ st', ∃ e, e ∈ st ∧ e.1 = e'.1 ∧ SrtS e.2.1 e'.2.1 ∧ Sts H e'.2.2 e'.2.1
  | [], ys, h, _ => by
    cases ys with
    | nil => exact ⟨[], rfl, rfl, fun _ h => (nomatch h)⟩
    | cons a r => simp at h
  | kv :: r, ys, h, hr => by
    cases ys with
    | nil => simp at h
    | cons y ys =>
      simp only [List.map_cons, List.cons.injEq] at h
      obtain ⟨k, _, z, e, p', row, he, hk, hv, hs, hso⟩ := hr kv List.mem_cons_self
      obtain ⟨st', h1, h2, h3⟩ := stp_out hn r ys h.2 fun kv hkv => hr kv (List.mem_cons_of_mem _ hkv)
      refine ⟨(e.1, row, p') :: st', ?_, ?_, fun x hx => (List.mem_cons.mp hx).elim (fun q => by rw [q]; exact ⟨e, he, rfl, hso, hs⟩) (h3 x)⟩
      · rw [List.map_cons, h1]
        congr 1
        exact Prod.ext (by rw [z, ← hk]; rfl) hv
      · rw [List.map_cons, h2, hk]
        congr 1
        exact (Sum.inr.inj (h.1.symm.trans z)).symm
theorem sc_are_tells : FnScope ["tells", "steps", "word"] ["tells", "steps"] (defScope s_are_tells) := ⟨rfl, rfl, rfl, by decide +kernel, rfl, by decide +kernel, by decide +kernel⟩
def spAreTells (K : PySem.W.Frag) : Sp := fun vs H Q _ => ∃ (q p : Addr) (st : List StE) (tl : List (Str × Str)), vs = [.ref q, .ref p] ∧ Stp H p st ∧ Sts H q tl ∧ StV st ∧ TlV st tl ∧ ∀ H', Ex H H' → Q (.bl true) H'
theorem TlV.len {st : List StE} {tl : List (Str × Str)} (t : TlV st tl) (v : StV st) : tl.length = st.length := by
  have h1 := sub_lenN t.nd (ws := st.map (·.1)) fun k hk => (t.ks k).mp hk
  have h2 := sub_lenN v.nd (ws := tl.map (·.1)) fun k hk => (t.ks k).mpr hk
  simp only [List.length_map] at h1 h2
  omega
theorem ok_are_tells {f : Addr} {fd : FuncData} (F : Fun K "are_tells" "are_tells" s_are_tells f fd) (B : Bt mg) (cW : Cal P w K mg base CX0 1 "is_word" ["thing"] (spIsWord K)) : FnOk P w K mg base CX0 2 f fd ["tells", "steps"] (spAreTells K) := by
  refine F.ok sc_are_tells (fun vs H Q E h => ?_) (fun cdv A outer s H vs Q E hr h => ?_)
  · obtain ⟨_, _, _, _, rfl, _⟩ := h
    rfl
  · obtain ⟨q, p, st, tl, rfl, hp, hq, V, W, k⟩ := h
    refine ⟨_, (pss_one (ps_ret (pe_and (pe_callB call_isi (by rfl) B.isi PyProof.Rows.boot_isinstance (pa_cons (pv 0) (pa_cons (pe_bltn (v := .ty "dict") (by rfl) B.dict PyProof.Rows.boot_dict rfl) pa_nil))) (pe_and (pe_cmpR (op_eqX hr.units0) (pe_callTy (call_setD rfl) (by rfl) B.set PyProof.Rows.boot_set (pa_cons (pv 0) pa_nil)) (pe_callTy (call_setD rfl) (by rfl) B.set PyProof.Rows.boot_set (pa_cons (pv 1) pa_nil)) (nomark _)) (pe_one (pe_callB (cr_all rfl) (by rfl) B.all PyProof.Rows.boot_all (pa_cons (pe_lock (pe_lc (own := [("word", 2)]) (by rfl) sc_are_tells.nd (pi_values (pv 0)) (blkOk_by (own := [("word", 2)]) (N := ["tells", "steps", "word"]) (sc := defScope s_are_tells) (by decide +kernel)) (fun _ _ _ _ _ => (pg_name (i := 2) sc_are_tells.nd rfl (Or.inl rfl))) (fun _ _ _ _ _ => pts_nil) (fun _ _ _ _ _ => (pcall cW hr (pa_cons (pv 2) pa_nil))))) pa_nil))))))), ?_⟩
    have ln := W.len V
    have n5 := V.n5
    refine ⟨_, rfl, _, _, _, _, true, rfl, .ty _, .base (.dK hq), kit_ty (by decide +kernel), _, rfl, ?_⟩
    refine iteT ?_
    refine ⟨_, rfl, q, _, tl.map (·.1), rfl, .inl hq, keysS _, by rw [List.length_map]; omega, fun q1 n1 => ?_⟩
    have y1 := exn (o := SetX P w q1 (once [] (tl.map (·.1)))) n1
    refine ⟨_, rfl, p, _, st.map (·.1), rfl, .inl (y1 _ _ hp.1), keysT _, by rw [List.length_map]; omega, fun q2 n2 => ?_⟩
    have y2 := exn (o := SetX P w q2 (once [] (st.map (·.1)))) n2
    refine ⟨q1, q2, _, _, rfl, rfl, y2 _ _ upd_same, upd_same, _, rfl, ?_⟩
    have h1 : ((once [] (tl.map (·.1))).length : Nat) = (once [] (st.map (·.1))).length := by
      rw [once_nd W.nd, once_nd V.nd, List.length_map, List.length_map, ln]
    have h2 : ((once [] (tl.map (·.1))).all fun k => decide (k ∈ once [] (st.map (·.1)))) = true := by
      rw [List.all_eq_true]
      intro k hk
      rw [once_mem] at hk
      refine decide_eq_true ?_
      rw [once_mem]
      exact .inr ((W.ks k).mp (hk.elim (fun z => (nomatch z)) id))
    rw [decide_eq_true h1, h2]
    refine iteT ?_
    have x2 := ext y1 y2
    refine vals_true (i := 0) (n := 2) rfl (x2 _ _ hq) (by rw [List.length_map]; omega) (fun kv hkv od H' x' Q' hq' => ?_) fun D H3 x3 g3 => ?_
    · obtain ⟨e, he, rfl⟩ := List.mem_map.mp hkv
      refine ⟨_, rfl, _, rfl, .inl ⟨e.2, rfl, (W.wd e he).sz, fun H'' x'' => ?_⟩⟩
      rw [isWd_of (W.wd e he)]
      exact hq' H'' x''
    · refine ⟨D, _, rfl, SqL.of g3, ?_⟩
      rw [all_rep]
      exact k _ (ext x2 x3)
theorem sc_Edition___init : FnScope ["self", "steps", "tells", "start", "kind", "state"] ["self", "steps", "tells", "start"] (defScope s_Edition___init) := ⟨rfl, rfl, rfl, by decide +kernel, rfl, by decide +kernel, by decide +kernel⟩
structure EdC (K : PySem.W.Frag) (CE : Addr) : Prop where
  cls : Cls K CE
  st : NoAttr K CE "own_steps"
  tl : NoAttr K CE "own_tells"
  sr : NoAttr K CE "own_start"
def spInitE (CE : Addr) : Sp := fun vs H Q _ => ∃ (a dx p q : Addr) (st : List StE) (tl : List (Str × Str)) (s : Str), vs = [.ref a, .ref p, .ref q, .str s] ∧ H a = some (.ins CE dx []) ∧ Stp H p st ∧ (st.map (·.2.2)).Nodup ∧ Sts H q tl ∧ StV st ∧ TlV st tl ∧ s ∈ st.map (·.1) ∧
  ∀ (H' : Hp) (pe ps : Addr) (st' : List StE) (tl' : List (Str × Str)), (∀ b o, b ≠ a → H b = some o → H' b = some o) → H' a = some (.ins CE dx (fsE pe ps s)) → Stp H' pe st' → Sts H' ps tl' → SrtT st st' → SrtS tl tl' → Q .non H'
theorem ok_initE {f CE CN : Addr} {fd : FuncData} (F : Fun K "__init__" "Edition.__init__" s_Edition___init f fd) (B : Bt mg) (L : EdC K CE) (R : Raise0 K mg CN "NoEdition") (cS : Cal P w K mg base CX0 3 "are_steps" ["steps"] (spAreSteps K)) (cT : Cal P w K mg base CX0 2 "are_tells" ["tells", "steps"] (spAreTells K)) (cG : Cal P w K mg base CX0 2 "is_goal" ["thing", "states"] (spIsGoal K)) :
    FnOk P w K mg base (L2.CX P w) 4 f fd ["self", "steps", "tells", "start"] (spInitE CE) := by
  refine F.okX sc_Edition___init (fun vs H Q E h => ?_) (fun cdv A outer s H vs Q E hr h => ?_)
  · obtain ⟨_, _, _, _, _, _, _, rfl, _⟩ := h
    rfl
  · obtain ⟨a, dx, p, q, st, tl, s0, rfl, ha, hp, nd, hq, V, W, hs, k⟩ := h
    have hu := hu_of hr
    refine ⟨_, (pss_cons (ps_if (PW.pt (pw_or (pt_not (pt_val (pcall cS hr (pa_cons (pv 1) pa_nil)))) (pw_or (pt_not (pt_val (pcall cT (hr.mono (by decide)) (pa_cons (pv 2) (pa_cons (pv 1) pa_nil))))) (pw_or1 (pt_not (pt_val (pcall cG (hr.mono (by decide)) (pa_cons (pv 3) (pa_cons (pv 1) pa_nil)))))))))
        (pss_one (ps_raise rfl tkX (pr_0 R)))
        pss_nil)
      (pss_cons (ps_fld (pv 0) (pe_dc (own := [("state", 5)]) (tv := tDc (iList K (tCB (fun xs H Q => ∃ (a : Addr) (kvs : List (Key × L2.V)) (ks : List Str), xs = [.ref a] ∧ Rd H a (.dK kvs) ∧ kvs.map (·.1) = ks.map Sum.inr ∧ ks.length < 64 ∧ ∀ ys p, ys.Perm ks → PyProof.Rows.sortedS ys = true → H p = none → Q (.ref p) (upd H p (.lst (ys.map L2.V.str)))) (tCons (tDGet (tVar 1) (tVar 5)) tNil))) (gName 4) tYes (tVar 4) (tDGet (tDGet (tVar 1) (tVar 5)) (tVar 4)) [4]) (by rfl) sc_Edition___init.nd (pi_list (pe_callB (call_sortedD rfl) (by rfl) B.sorted PyProof.Rows.boot_sorted (pa_cons (pv 1) pa_nil))) (blkOk_by (own := [("state", 5)]) (N := ["self", "steps", "tells", "start", "kind", "state"]) (sc := defScope s_Edition___init) (by decide +kernel)) (fun _ _ _ _ _ => (pg_name (i := 5) sc_Edition___init.nd rfl (Or.inr rfl))) (fun _ _ _ _ _ => pts_nil) (fun _ _ _ _ _ => pv 5)
          (fun _ _ _ _ _ => (pe_dc (own := [("kind", 4)]) (by rfl) sc_Edition___init.nd (pi_list (pe_callB (call_sortedD rfl) (by rfl) B.sorted PyProof.Rows.boot_sorted (pa_cons (dget hu (pv 1) (pv 5)) pa_nil))) (blkOk_by (own := [("kind", 4)]) (N := ["self", "steps", "tells", "start", "kind", "state"]) (sc := { kind := .function, names := [(".0", .local), ("state", .cell), ("sorted", .globalImplicit), ("steps", .cell)], isGenerator := false, isCoroutine := false }) (by decide +kernel)) (fun _ _ _ _ _ => (pg_name (i := 4) sc_Edition___init.nd rfl (Or.inl rfl))) (fun _ _ _ _ _ => pts_nil) (fun _ _ _ _ _ => pv 4) (fun _ _ _ _ _ => (dget hu (dget hu (pv 1) (pv 5)) (pv 4)))))) rfl)
      (pss_cons (ps_fld (pv 0) (pe_dc (own := [("state", 5)]) (by rfl) sc_Edition___init.nd (pi_list (pe_callB (call_sortedD rfl) (by rfl) B.sorted PyProof.Rows.boot_sorted (pa_cons (pv 2) pa_nil))) (blkOk_by (own := [("state", 5)]) (N := ["self", "steps", "tells", "start", "kind", "state"]) (sc := defScope s_Edition___init) (by decide +kernel)) (fun _ _ _ _ _ => (pg_name (i := 5) sc_Edition___init.nd rfl (Or.inl rfl))) (fun _ _ _ _ _ => pts_nil) (fun _ _ _ _ _ => pv 5) (fun _ _ _ _ _ => (dget hu (pv 2) (pv 5)))) rfl)
      (pss_one (ps_fld (pv 0) (pv 3) rfl))))), ?_⟩
    have kw : ∀ x ∈ st.map (·.1), Wd x := fun x hx => by
      obtain ⟨e, he, rfl⟩ := List.mem_map.mp hx
      exact V.wd e he
    refine ⟨_, rfl, p, st, rfl, hp, nd, V, fun H1 x1 => ⟨_, rfl, iteF ?_⟩⟩
    refine ⟨_, rfl, _, rfl, q, p, st, tl, rfl, hp.ex x1, hq.ex x1, V, W, fun H2 x2 => ⟨_, rfl, iteF ?_⟩⟩
    have x12 := ext x1 x2
    refine ⟨_, rfl, _, rfl, _, _, rfl, .inl ⟨s0, st.map (·.1), rfl, (kw s0 hs).sz, .inl ⟨p, _, rfl, .inl (x12 _ _ hp.1), keysT st⟩, fun H3 x3 => ⟨_, rfl, ?_⟩⟩⟩
    rw [isWd_of (kw s0 hs), decide_eq_true hs]
    refine iteF ?_
    have x13 := ext x12 x3
    have ha3 := x13 _ _ ha
    have hp3 := hp.ex x13
    have hq3 := hq.ex x13
    have n5 := V.n5
    -- own_steps
    refine u_next (u_seq (u_fld ?_))
    refine sdc_go (K := K) (n := 5) (d := p) (kvs := st.map tKV) (ks := st.map (·.1)) (fun Q' h => ⟨_, rfl, h⟩) (.inl hp3.1) (keysT st) V.nd (by rw [List.length_map]; omega) (by show (5 : Nat) < 6; decide)
      (fun k y H => ∃ (e : StE) (p' : Addr) (row : List (Str × Str)), e ∈ st ∧ e.1 = k ∧ y = .ref p' ∧ Sts H p' row ∧ SrtS e.2.1 row) (fun k y H1 H2 x h => ?_) (fun k y H1 pp o np h => ?_) (fun D k H' nD hD hk x Q' hq' => ?_) (fun pe H5 out ys x5 npe hpe ok yp yso rel => ?_)
    · obtain ⟨e, p', row, a1, a2, a3, a4, a5⟩ := h
      exact ⟨e, p', row, a1, a2, a3, a4.ex x, a5⟩
    · obtain ⟨e, p', row, a1, a2, a3, a4, a5⟩ := h
      refine ⟨e, p', row, a1, a2, a3, ?_, a5⟩
      unfold Sts
      rw [upd_ne (np p' a3)]
      exact a4
    · obtain ⟨e, he, rfl⟩ := List.mem_map.mp hk
      have l4 := (V.r1 e he).2
      have hp' := hp3.ex x
      have getr : ∀ {H'' : Hp} (x'' : Ex H3 H'') (Q'' : VK), Q'' (.ref e.2.2) H'' → tDGet (tVar 1) (tVar 5) [some (.ref a), some (.ref p), some (.ref q), some (.str s0), none, some (.str e.1)] H'' Q'' := fun x'' Q'' h => ⟨_, rfl, _, rfl, p, _, rfl, dgr (.inl ((hp3.ex x'').1)) (valT V.nd he), h⟩
      refine sdc_go (K := K) (σ := [some (.ref a), some (.ref p), some (.ref q), some (.str s0), none, some (.str e.1)]) (n := 4) (d := e.2.2) (kvs := e.2.1.map sKV) (ks := e.2.1.map (·.1)) (fun Q'' h => getr x _ h) (.inl (hp'.2 e he)) (keysS _) (V.rn e he) (by rw [List.length_map]; omega) (by show (4 : Nat) < 6; decide)
        (fun k y H => ∃ g : Str × Str, g ∈ e.2.1 ∧ g.1 = k ∧ y = .str g.2) (fun k y H1 H2 x h => h) (fun k y H1 pp o np h => h) (fun D2 k2 H'' nD2 hD2 hk2 x2 Q'' hq'' => ?_) (fun pi H6 out ys x6 npi hpi ok yp yso rel => ?_)
      · obtain ⟨g, hg, rfl⟩ := List.mem_map.mp hk2
        refine ⟨_, rfl, _, rfl, p, _, rfl, dgr (.inl (((hp3.ex x).ex x2).1)) (valT V.nd he), _, rfl, e.2.2, _, rfl, dgr (.inl (((hp3.ex x).ex x2).2 e he)) (valS (V.rn e he) hg), ?_⟩
        exact hq'' _ _ exr ⟨g, hg, rfl, rfl⟩ (fun _ z => by cases z)
      · obtain ⟨row, h1, h2, h3⟩ := sts_out (V.rn e he) out ys ok rel
        refine hq' _ _ x6 ⟨e, pi, row, he, rfl, rfl, by unfold Sts; rw [hpi, h1], ⟨by rw [h2]; exact yp, by rw [h2]; exact yso, h3⟩⟩ fun qq z => ?_
        cases z
        exact fun z => hD (by rw [← z]; exact npi)
    obtain ⟨st', h1, h2, h3⟩ := stp_out V.nd out ys ok rel
    have R5 : Stp H5 pe st' := ⟨by rw [hpe, h1], fun e' he' => (h3 e' he').choose_spec.2.2.2⟩
    have SE : SrtT st st' := ⟨by rw [h2]; exact yp, by rw [h2]; exact yso, fun e' he' => by
      obtain ⟨e, he, e1, s1, _⟩ := h3 e' he'
      exact ⟨e, he, e1, s1⟩⟩
    have ha5 := x5 _ _ ha3
    refine ⟨_, rfl, a, CE, dx, [], rfl, ha5, L.cls, L.st, by decide, ?_⟩
    have na : ∀ {HH : Hp} {b : Addr} {kk : List (Key × L2.V)} {C' dx' : Addr} {fs' : List (Str × L2.V)}, HH a = some (.ins C' dx' fs') → HH b = some (.dK kk) → b ≠ a := fun h1 h2 z => by
      rw [z, h1] at h2
      cases h2
    have hq5 := hq3.ex x5
    have qa : q ≠ a := na ha5 hq5
    have pa : pe ≠ a := na ha5 R5.1
    have ia : ∀ e ∈ st', e.2.2 ≠ a := fun e he => na ha5 (R5.2 e he)
    have up : ∀ {HH : Hp} {o : HO}, Stp HH pe st' → Stp (upd HH a o) pe st' := fun R => ⟨by rw [upd_ne pa]; exact R.1, fun e he => by unfold Sts; rw [upd_ne (ia e he)]; exact R.2 e he⟩
    have K6 : ∀ b o, b ≠ a → H b = some o → upd H5 a (.ins CE dx (putF "own_steps" (.ref pe) [])) b = some o := fun b o n h => by
      rw [upd_ne n]
      exact x5 _ _ (x13 _ _ h)
    have R6 := up (o := .ins CE dx (putF "own_steps" (.ref pe) [])) R5
    have hq6 : Sts (upd H5 a (.ins CE dx (putF "own_steps" (.ref pe) []))) q tl := by unfold Sts; rw [upd_ne qa]; exact hq5
    have ha6 := upd_same (H := H5) (a := a) (o := .ins CE dx (putF "own_steps" (.ref pe) []))
    generalize upd H5 a (.ins CE dx (putF "own_steps" (.ref pe) [])) = H6 at K6 R6 hq6 ha6 ⊢
    have tn := W.len V
    -- own_tells
    refine u_nx (u_seq (u_fld ?_))
    refine sdc_go (K := K) (n := 5) (d := q) (kvs := tl.map sKV) (ks := tl.map (·.1)) (fun Q' h => ⟨_, rfl, h⟩) (.inl hq6) (keysS tl) W.nd (by rw [List.length_map]; omega) (by show (5 : Nat) < 6; decide)
      (fun k y H => ∃ g : Str × Str, g ∈ tl ∧ g.1 = k ∧ y = .str g.2) (fun k y H1 H2 x h => h) (fun k y H1 pp o np h => h) (fun D k H' nD hD hk x Q' hq' => ?_) (fun ps H7 out2 ys2 x7 nps hps ok2 yp2 yso2 rel2 => ?_)
    · obtain ⟨g, hg, rfl⟩ := List.mem_map.mp hk
      refine ⟨_, rfl, _, rfl, q, _, rfl, dgr (.inl (x _ _ hq6)) (valS W.nd hg), ?_⟩
      exact hq' _ _ exr ⟨g, hg, rfl, rfl⟩ (fun _ z => by cases z)
    obtain ⟨tl', j1, j2, j3⟩ := sts_out W.nd out2 ys2 ok2 rel2
    have S7 : Sts H7 ps tl' := by unfold Sts; rw [hps, j1]
    have ST : SrtS tl tl' := ⟨by rw [j2]; exact yp2, by rw [j2]; exact yso2, j3⟩
    have ha7 := x7 _ _ ha6
    have R7 := R6.ex x7
    refine ⟨_, rfl, a, CE, dx, _, rfl, ha7, L.cls, L.tl, by show (1 : Nat) < 1000; decide, ?_⟩
    have psa : ps ≠ a := na ha7 S7
    have R8 := up (o := .ins CE dx (putF "own_tells" (.ref ps) (putF "own_steps" (.ref pe) []))) R7
    have S8 : Sts (upd H7 a (.ins CE dx (putF "own_tells" (.ref ps) (putF "own_steps" (.ref pe) [])))) ps tl' := by unfold Sts; rw [upd_ne psa]; exact S7
    have K8 : ∀ b o, b ≠ a → H b = some o → upd H7 a (.ins CE dx (putF "own_tells" (.ref ps) (putF "own_steps" (.ref pe) []))) b = some o := fun b o n h => by
      rw [upd_ne n]
      exact x7 _ _ (K6 b o n h)
    have ha8 := upd_same (H := H7) (a := a) (o := .ins CE dx (putF "own_tells" (.ref ps) (putF "own_steps" (.ref pe) [])))
    generalize upd H7 a (.ins CE dx (putF "own_tells" (.ref ps) (putF "own_steps" (.ref pe) []))) = H8 at R8 S8 K8 ha8 ⊢
    refine u_nx ?_
    refine ⟨_, rfl, _, rfl, a, CE, dx, _, rfl, ha8, L.cls, L.sr, by show (2 : Nat) < 1000; decide, ?_⟩
    refine k _ pe ps st' tl' (fun b o n h => by rw [upd_ne n]; exact K8 b o n h) (by rw [upd_same]; rfl) (up R8) (by unfold Sts; rw [upd_ne psa]; exact S8) SE ST
theorem sc_Edition_led : FnScope ["self", "state", "row", "kind"] ["self", "state", "row"] (defScope s_Edition_led) := ⟨rfl, rfl, rfl, by decide +kernel, rfl, by decide +kernel, by decide +kernel⟩
/-- where a kind leads, where a row leads -/
def stepL (st : List StE) (s k : Str) : Str := look2 (((st.find? fun e => decide (e.1 = s)).map (·.2.1)).getD []) k
def ledL (st : List StE) (s : Str) (row : List Str) : Str := row.foldl (stepL st) s
theorem stepL_at {st : List StE} {e : StE} {g : Str × Str} (V : StV st) (he : e ∈ st) (hg : g ∈ e.2.1) : stepL st e.1 g.1 = g.2 := by
  unfold stepL
  have : st.find? (fun x => decide (x.1 = e.1)) = some e := by
    cases h : st.find? (fun x => decide (x.1 = e.1)) with
    | none => exact absurd (List.find?_eq_none.mp h e he) (by simp)
    | some x =>
      have h1 : x.1 = e.1 := by have := List.find?_some h; simpa using this
      rw [nodup_eq V.nd (List.mem_of_find?_eq_some h) he h1]
  rw [this]
  exact look2_at (V.rn e he) hg
theorem step_in {st : List StE} (V : StV st) {s k : Str} (hs : s ∈ st.map (·.1)) (hk : ∃ e ∈ st, k ∈ e.2.1.map (·.1)) : ∃ e ∈ st, e.1 = s ∧ ∃ g ∈ e.2.1, g.1 = k := by
  obtain ⟨e, he, rfl⟩ := List.mem_map.mp hs
  obtain ⟨f, hf, hk⟩ := hk
  obtain ⟨g, hg, rfl⟩ := List.mem_map.mp ((V.same e he f hf k).mpr hk)
  exact ⟨e, he, rfl, g, hg, rfl⟩
/-- the kinds of right steps -/
def kinds (st : List StE) : List Str := ((st.head?.map (·.2.1)).getD []).map (·.1)
theorem kinds_ex {st : List StE} {k : Str} (h : k ∈ kinds st) : ∃ e ∈ st, k ∈ e.2.1.map (·.1) := by
  unfold kinds at h
  cases st with
  | nil => simp at h
  | cons e r => exact ⟨e, List.mem_cons_self, h⟩
theorem kinds_at {st : List StE} (V : StV st) {e : StE} (he : e ∈ st) (k : Str) : k ∈ kinds st ↔ k ∈ e.2.1.map (·.1) := by
  unfold kinds
  cases st with
  | nil => cases he
  | cons f r => exact V.same f List.mem_cons_self e he k
theorem stepL_mem {st : List StE} (V : StV st) {s k : Str} (hs : s ∈ st.map (·.1)) (hk : k ∈ kinds st) : stepL st s k ∈ st.map (·.1) := by
  obtain ⟨e, he, rfl, g, hg, rfl⟩ := step_in V hs (kinds_ex hk)
  rw [stepL_at V he hg]
  exact V.goal e he g hg
theorem ledL_mem {st : List StE} (V : StV st) : ∀ {row : List Str} {s : Str}, s ∈ st.map (·.1) → (∀ k ∈ row, k ∈ kinds st) → ledL st s row ∈ st.map (·.1)
  | [], _, hs, _ => hs
  | k :: r, s, hs, hk => by
    have := ledL_mem V (row := r) (s := stepL st s k) (stepL_mem V hs (hk k List.mem_cons_self)) fun x hx => hk x (List.mem_cons_of_mem _ hx)
    exact this
def spLed (K : PySem.W.Frag) (CE : Addr) : Sp := fun vs H Q _ => ∃ (a r : Addr) (s s0 : Str) (row : List Str) (st : List StE) (tl : List (Str × Str)), vs = [.ref a, .str s, .ref r] ∧ EdAt CE H a st tl s0 ∧ SqT K H r (row.map V.str) ∧ StV st ∧ s ∈ st.map (·.1) ∧ (∀ k ∈ row, k ∈ kinds st) ∧ Q (.str (ledL st s row)) H
theorem ok_led {f CE : Addr} {fd : FuncData} (F : Fun K "led" "Edition.led" s_Edition_led f fd) (L : EdC K CE) : FnOk P w K mg base CX0 1 f fd ["self", "state", "row"] (spLed K CE) := by
  refine F.ok sc_Edition_led (fun vs H Q E h => ?_) (fun cdv A outer s H vs Q E hr h => ?_)
  · obtain ⟨_, _, _, _, _, _, _, rfl, _⟩ := h
    rfl
  · obtain ⟨a, r, s1, s0, row, st, tl, rfl, hE, hr', V, hs, hk, k⟩ := h
    have hu := hu_of hr
    obtain ⟨dx, pe, ps, h1, h2, h3⟩ := hE
    refine ⟨_, (pss_cons (ps_for PassesOwn.never rfl (pi_tup (pv 2)) (pg_name (i := 3) sc_Edition_led.nd rfl (.inl rfl))
        (pss_one (ps_set (i := 1) sc_Edition_led.nd rfl (.inl rfl) (dget hu (dget hu (pe_fld (pv 0) rfl) (pv 1)) (pv 3)))))
      (pss_one (ps_ret (pv 1)))), ?_⟩
    refine ⟨_, rfl, r, rfl, ⟨_, hr'⟩, for_tup (xs := row.map L2.V.str) (fun i σ H' => H' = H ∧ ∃ y3, σ = [some (.ref a), some (.str (ledL st s1 (row.take i))), some (.ref r), y3]) ⟨rfl, _, rfl⟩ (fun i σ H' _ h => ?_) (fun i x σ H' hx h => ?_) (fun σ H' h => ?_)⟩
    · obtain ⟨rfl, _⟩ := h
      exact hr'
    · obtain ⟨rfl, y3, rfl⟩ := h
      rw [List.getElem?_map] at hx
      cases hz : row[i]? with
      | none => rw [hz] at hx; cases hx
      | some kd =>
        rw [hz] at hx
        obtain rfl : L2.V.str kd = x := Option.some.inj hx
        have hm : ledL st s1 (row.take i) ∈ st.map (·.1) := ledL_mem V hs fun x hx => hk x (List.mem_of_mem_take hx)
        obtain ⟨e, he, e1, g, hg, e2⟩ := step_in V hm (kinds_ex (hk kd (List.mem_of_getElem? hz)))
        have hl : ledL st s1 (row.take (i + 1)) = g.2 := by
          rw [List.take_succ, hz]
          unfold ledL at e1 ⊢
          rw [Option.toList_some, List.foldl_append]
          show stepL st _ kd = _
          rw [← e1, ← e2]
          exact stepL_at V he hg
        refine ⟨_, rfl, a, CE, dx, _, .ref pe, rfl, h1, L.cls, L.st, lkSt, _, rfl, pe, .ref e.2.2, rfl, dgr (.inl h2.1) ?_, _, rfl, e.2.2, .str g.2, rfl, dgr (.inl (h2.2 e he)) ?_, ?_⟩
        · rw [← e1]; exact valT V.nd he
        · rw [← e2]; exact valS (V.rn e he) hg
        · exact ⟨rfl, _, by rw [hl]; rfl⟩
    · obtain ⟨rfl, y3, rfl⟩ := h
      rw [List.length_map, List.take_length]
      exact ⟨_, rfl, k⟩
end
end Sn
namespace Sn
open Evl (Ex)
open PySem L2
section
variable {P : Program} {w : World} {K : PySem.W.Frag} {mg : Str → Option Value} {base : Heap}
theorem sc_Edition_states : FnScope ["self"] ["self"] (defScope s_Edition_states) := ⟨rfl, rfl, rfl, by decide +kernel, rfl, by decide +kernel, by decide +kernel⟩
def spStates (CE : Addr) : Sp := fun vs H Q _ => ∃ (a : Addr) (st : List StE) (tl : List (Str × Str)) (s0 : Str), vs = [.ref a] ∧ EdAt CE H a st tl s0 ∧ ∀ p H', Ex H H' → H p = none → H' p = some (.tup ((st.map (·.1)).map V.str)) → Q (.ref p) H'
theorem kv_strs (st : List StE) : ((st.map tKV).map fun kv => kV kv.1) = (st.map (·.1)).map V.str := by
  rw [List.map_map, List.map_map]
  rfl
theorem ok_states {f CE : Addr} {fd : FuncData} (F : Fun K "states" "Edition.states" s_Edition_states f fd) (B : Bt mg) (L : EdC K CE) : FnOk P w K mg base CX0 1 f fd ["self"] (spStates CE) := by
  refine F.ok sc_Edition_states (fun vs H Q E h => ?_) (fun cdv A outer s H vs Q E hr h => ?_)
  · obtain ⟨_, _, _, _, rfl, _⟩ := h
    rfl
  · obtain ⟨a, st, tl, s0, rfl, ⟨dx, pe, ps, h1, h2, h3⟩, k⟩ := h
    refine ⟨_, (pss_one (ps_ret (pe_callTy (call_tupleD rfl) (by rfl) B.tuple PyProof.Rows.boot_tuple (pa_cons (pe_fld (pv 0) rfl) pa_nil)))), ?_⟩
    refine ⟨_, rfl, a, CE, dx, _, _, rfl, h1, L.cls, L.st, lkSt, pe, _, rfl, .inl h2.1, fun p np => ?_⟩
    rw [kv_strs]
    exact k p _ (exn np) np upd_same
theorem sc_need_state : FnScope ["edition", "state"] ["edition", "state"] (defScope s_need_state) := ⟨rfl, rfl, rfl, by decide +kernel, rfl, by decide +kernel, by decide +kernel⟩
/-- a value that is a state, or is none -/
def StIs (K : PySem.W.Frag) (H : Hp) (st : List StE) (z : V) (b : Bool) : Prop := (∃ x : Str, z = .str x ∧ x.cps.size ≤ 1000 ∧ b = (isWd x && decide (x ∈ st.map (·.1)))) ∨ (b = false ∧ ∃ t, TyX K H z t ∧ PySem.W.kitOne K t (.type "str") = some false)
def spNeedState (K : PySem.W.Frag) (CE CN : Addr) : Sp := fun vs H Q E => ∃ (a : Addr) (z : V) (st : List StE) (tl : List (Str × Str)) (s0 : Str) (b : Bool), vs = [.ref a, z] ∧ EdAt CE H a st tl s0 ∧ (∀ H', Ex H H' → StIs K H' st z b) ∧ (b = true → ∀ H', Ex H H' → Q .non H') ∧ (b = false → ∀ H', Ex H H' → E (.ref CN) none H')
theorem ok_need_state {f CE CN : Addr} {fd : FuncData} (F : Fun K "need_state" "need_state" s_need_state f fd) (L : EdC K CE) (R : Raise0 K mg CN "NoState") (cG : Cal P w K mg base CX0 2 "is_goal" ["thing", "states"] (spIsGoal K))
    (hP : ∃ p g fd, PropOf K CE "states" p g ∧ FnOk P w K mg base CX0 1 g fd ["self"] (spStates CE) ∧ Binds K fd ["self"] []) : FnOk P w K mg base (L2.CX P w) 3 f fd ["edition", "state"] (spNeedState K CE CN) := by
  refine F.okX sc_need_state (fun vs H Q E h => ?_) (fun cdv A outer s H vs Q E hr h => ?_)
  · obtain ⟨_, _, _, _, _, _, rfl, _⟩ := h
    rfl
  · obtain ⟨a, z, st, tl, s0, b, rfl, hE, hz, kQ, kE⟩ := h
    obtain ⟨pp, gp, fdp, hP, FP, bP⟩ := hP
    refine ⟨_, (pss_one (ps_if (pt_not (pt_val (pcall cG hr (pa_cons (pv 1) (pa_cons (pe_prop (pv 0) L.cls hP FP hr bP .nil (E := E0) pass0 rfl) pa_nil)))))
        (pss_one (ps_raise rfl tkX (pr_0 R)))
        pss_nil)), ?_⟩
    obtain ⟨dx, fs, gi⟩ := hE.ins
    refine ⟨_, rfl, _, rfl, a, dx, fs, rfl, gi, a, st, tl, s0, rfl, hE, fun p H1 x1 np g1 => ?_⟩
    rcases hz H1 x1 with ⟨x, rfl, hx, hb⟩ | ⟨hb, t, ht, hk⟩
    · refine ⟨_, _, rfl, .inl ⟨x, st.map (·.1), rfl, hx, .inr ⟨p, rfl, SqT.of g1⟩, fun H2 x2 => ⟨_, rfl, ?_⟩⟩⟩
      rw [← hb]
      cases b with
      | true => exact iteF (kQ rfl _ (ext x1 x2))
      | false => exact iteT (kE rfl _ (ext x1 x2))
    · refine ⟨_, _, rfl, .inr ⟨t, ht, hk, _, rfl, ?_⟩⟩
      exact iteT (kE hb _ x1)
theorem sc_Edition___call : FnScope ["self", "row", "at"] ["self", "row", "at"] (defScope s_Edition___call) := ⟨rfl, rfl, rfl, by decide +kernel, rfl, by decide +kernel, by decide +kernel⟩
/-- the first argument: no row, a row with an odd item, a row -/
def BadRow (K : PySem.W.Frag) (CK : Addr) (st : List StE) (H : Hp) (E : XK) (z : V) : Prop :=
  (∃ t, TyX K H z t ∧ PySem.W.kitOne K t (.type "tuple") = some false ∧ ∀ dd H', Ex H H' → H' dd = some (.xd [("at", .int 0)]) → E (.ref CK) (some dd) H') ∨
   (∃ (r : Addr) (xs : List V) (i : Nat) (x : V), z = .ref r ∧ H r = some (.tup xs) ∧ (∀ x ∈ xs, Itm K H x) ∧ xs[i]? = some x ∧ good (kinds st) x = false ∧ (∀ (j : Nat) (y : V), j < i → xs[j]? = some y → good (kinds st) y = true) ∧
     ∀ dd H', Ex H H' → H' dd = some (.xd [("at", .int (i : Int))]) → E (.ref CK) (some dd) H')
def spCallE (K : PySem.W.Frag) (CE CK CN : Addr) : Sp := fun vs H Q E => ∃ (a : Addr) (z z2 : V) (st : List StE) (tl : List (Str × Str)) (s0 : Str), vs = [.ref a, z, z2] ∧ EdAt CE H a st tl s0 ∧ StV st ∧ s0 ∈ st.map (·.1) ∧
  (BadRow K CK st H E z ∨
   (∃ (r : Addr) (row : List Str), z = .ref r ∧ H r = some (.tup (row.map V.str)) ∧ (∀ k ∈ row, k ∈ kinds st) ∧
     ((z2 = .non ∧ ∀ H', Ex H H' → Q (.str (ledL st s0 row)) H') ∨ (∃ x : Str, z2 = .str x ∧ x ∈ st.map (·.1) ∧ ∀ H', Ex H H' → Q (.str (ledL st x row)) H') ∨
      (z2 ≠ .non ∧ (∀ H', Ex H H' → StIs K H' st z2 false) ∧ ∀ H', Ex H H' → E (.ref CN) none H'))))
theorem good_same {ks ls : List Str} (h : ∀ k, k ∈ ks ↔ k ∈ ls) (x : L2.V) : good ks x = good ls x := by
  cases x with
  | str s => exact decide_eq_decide.mpr (h s)
  | _ => rfl
theorem ok_callE {f CE CK CN : Addr} {fd : FuncData} {dvs : List V} {kws : List (Str × V)} (F : FunD K "__call__" "Edition.__call__" (defArgs s_Edition___call) (defBody s_Edition___call) (defScope s_Edition___call) dvs kws f fd) (L : EdC K CE) (cN : Cal P w K mg base (L2.CX P w) 2 "need_row" ["row", "kinds"] (spNeedRow K CK)) (cS : Cal P w K mg base (L2.CX P w) 3 "need_state" ["edition", "state"] (spNeedState K CE CN)) (cM : CalM P w K mg base CX0 1 CE "led" ["self", "state", "row"] (spLed K CE)) :
    FnOk P w K mg base (L2.CX P w) 4 f fd ["self", "row", "at"] (spCallE K CE CK CN) := by
  refine F.ok sc_Edition___call (fun vs H Q E h => ?_) (fun cdv A outer s H vs Q E hr h => ?_)
  · obtain ⟨_, _, _, _, _, _, rfl, _⟩ := h
    rfl
  · obtain ⟨a, z, z2, st, tl, s0, rfl, hE, V, hs, h⟩ := h
    have hu := hu_of hr
    refine ⟨_, (pss_cons (ps_expr (pcallX cN tkX (hr.mono (by decide)) (pa_cons (pv 1) (pa_cons (dget hu (pe_fld (pv 0) rfl) (pe_fld (pv 0) rfl)) pa_nil))))
      (pss_cons (ps_if (pt_cmpR op_notN (pv 2) pe_non (nomark _))
        (pss_one (ps_expr (pcallX cS tkX hr (pa_cons (pv 0) (pa_cons (pv 2) pa_nil)))))
        pss_nil)
      (pss_one (ps_ret (pmeth cM L.cls (hr.mono (by decide)) (pv 0) (pa_cons (pe_ifExp (pt_cmpR op_isN (pv 2) pe_non (nomark _)) (pe_fld (pv 0) rfl) (pv 2)) (pa_cons (pv 1) pa_nil))))))), ?_⟩
    obtain ⟨e0, he0, rfl⟩ := List.mem_map.mp hs
    have ks0 := kinds_at V he0
    have hE' := hE
    obtain ⟨dx, pe, ps, h1, h2, h3⟩ := hE
    refine ⟨_, rfl, _, rfl, a, CE, dx, _, _, rfl, h1, L.cls, L.st, lkSt, _, rfl, a, CE, dx, _, _, rfl, h1, L.cls, L.sr, lkSr, pe, .ref e0.2.2, rfl, dgr (.inl h2.1) (valT V.nd he0), ?_⟩
    refine ⟨z, e0.2.2, _, e0.2.1.map (·.1), rfl, h2.2 e0 he0, keysS _, ?_⟩
    rcases h with (⟨t, ht, hk, kE⟩ | ⟨r, xs, i, x, rfl, hr1, hi, hx, hb, hg, kE⟩) | ⟨r, row, rfl, hr1, hk, h⟩
    · exact .inl ⟨t, ht, hk, kE⟩
    · refine .inr ⟨r, xs, rfl, hr1, hi, fun hall => ?_, fun i' x' hx' hb' hg' => ?_⟩
      · have := hall x (List.mem_of_getElem? hx)
        rw [← good_same ks0, hb] at this
        cases this
      · have hii : i' = i := by
          rcases Nat.lt_trichotomy i' i with hl | hl | hl
          · have := hg i' x' hl hx'
            rw [good_same ks0, hb'] at this
            cases this
          · exact hl
          · have := hg' i x hl hx
            rw [← good_same ks0, hb] at this
            cases this
        subst hii
        exact kE
    · refine .inr ⟨r, _, rfl, hr1, fun x hx => ?_, fun _ H1 x1 => ?_, fun i' x' hx' hb' _ => ?_⟩
      · obtain ⟨s, _, rfl⟩ := List.mem_map.mp hx
        exact .inl ⟨s, rfl⟩
      · have g1 := x1 _ _ h1
        have E1 := hE'.ex x1
        have fin : ∀ (s1 : Str) (H2 : Hp), Ex H H2 → s1 ∈ st.map (·.1) → Q (.str (ledL st s1 row)) H2 → spLed K CE [.ref a, .str s1, .ref r] H2 Q E0 := fun s1 H2 x2 hs1 q => ⟨a, r, s1, e0.1, row, st, tl, rfl, hE'.ex x2, SqT.of (x2 _ _ hr1), V, hs1, hk, q⟩
        rcases h with ⟨rfl, kQ⟩ | ⟨x, rfl, hx, kQ⟩ | ⟨hne, hb, kE⟩
        · refine ⟨_, rfl, rfl, _, rfl, ?_⟩
          rw [decide_eq_true rfl]
          refine iteF ?_
          refine ⟨_, rfl, a, dx, _, rfl, g1, rfl, _, rfl, rfl, _, rfl, ?_⟩
          rw [decide_eq_true rfl]
          refine iteT ⟨_, rfl, a, CE, dx, _, _, rfl, g1, L.cls, L.sr, lkSr, _, rfl, ?_⟩
          exact fin _ _ x1 hs (kQ _ x1)
        · refine ⟨_, rfl, rfl, _, rfl, ?_⟩
          have nn : ¬ (L2.V.str x = L2.V.non) := fun z => by cases z
          rw [decide_eq_false nn]
          refine iteT ?_
          refine ⟨_, rfl, _, rfl, a, .str x, st, tl, e0.1, true, rfl, E1, fun H' _ => .inl ⟨x, rfl, ?_, ?_⟩, fun _ H2 x2 => ?_, fun z => by cases z⟩
          · obtain ⟨e, he, rfl⟩ := List.mem_map.mp hx
            exact (V.wd e he).sz
          · obtain ⟨e, he, rfl⟩ := List.mem_map.mp hx
            rw [isWd_of (V.wd e he), decide_eq_true hx]
            rfl
          · have x12 := ext x1 x2
            refine ⟨_, rfl, a, dx, _, rfl, x2 _ _ g1, rfl, _, rfl, rfl, _, rfl, ?_⟩
            rw [decide_eq_false nn]
            refine iteF ⟨_, rfl, _, rfl, ?_⟩
            exact fin _ _ x12 hx (kQ _ x12)
        · refine ⟨_, rfl, rfl, _, rfl, ?_⟩
          rw [decide_eq_false hne]
          refine iteT ?_
          exact ⟨_, rfl, _, rfl, a, z2, st, tl, e0.1, false, rfl, E1, fun H' x' => hb _ (ext x1 x'), fun z => (by cases z), fun _ H2 x2 => kE _ (ext x1 x2)⟩
      · obtain ⟨s, hs', rfl⟩ := List.mem_map.mp (List.mem_of_getElem? hx')
        rw [← good_same ks0] at hb'
        have : good (kinds st) (.str s) = true := decide_eq_true (hk s hs')
        rw [this] at hb'
        cases hb'
theorem sc_Edition_told : FnScope ["self", "row"] ["self", "row"] (defScope s_Edition_told) := ⟨rfl, rfl, rfl, by decide +kernel, rfl, by decide +kernel, by decide +kernel⟩
def spTold (K : PySem.W.Frag) (CE CK : Addr) : Sp := fun vs H Q E => ∃ (a : Addr) (z : V) (st : List StE) (tl : List (Str × Str)) (s0 : Str), vs = [.ref a, z] ∧ EdAt CE H a st tl s0 ∧ StV st ∧ TlV st tl ∧ s0 ∈ st.map (·.1) ∧
  (BadRow K CK st H E z ∨ (∃ (r : Addr) (row : List Str), z = .ref r ∧ H r = some (.tup (row.map V.str)) ∧ (∀ k ∈ row, k ∈ kinds st) ∧ ∀ H', Ex H H' → Q (.str (look2 tl (ledL st s0 row))) H'))
theorem ok_told {f CE CK CN fc : Addr} {fd fdc : FuncData} (F : Fun K "told" "Edition.told" s_Edition_told f fd) (L : EdC K CE) (cC : StX.CallO K CE fc) (FC : FnOk P w K mg base (L2.CX P w) 4 fc fdc ["self", "row", "at"] (spCallE K CE CK CN)) (bC : Binds K fdc ["self", "row", "at"] [.none]) :
    FnOk P w K mg base (L2.CX P w) 5 f fd ["self", "row"] (spTold K CE CK) := by
  refine F.okX sc_Edition_told (fun vs H Q E h => ?_) (fun cdv A outer s H vs Q E hr h => ?_)
  · obtain ⟨_, _, _, _, _, rfl, _⟩ := h
    rfl
  · obtain ⟨a, z, st, tl, s0, rfl, hE, V, W, hs, h⟩ := h
    have hu := hu_of hr
    refine ⟨_, (pss_one (ps_ret (dget hu (pe_fld (pv 0) rfl) (StX.pe_callO (pv 0) cC (FC.raw (dvs := [.non]) bC (.cons rfl .nil)) hr (passes_call tkX fun _ _ _ _ h => h) (pa_cons (pv 1) pa_nil))))), ?_⟩
    have hE' := hE
    obtain ⟨dx, pe, ps, h1, h2, h3⟩ := hE
    refine ⟨_, rfl, a, CE, dx, _, _, rfl, h1, L.cls, L.tl, lkTl, _, rfl, a, rfl, _, rfl, .inr ⟨dx, _, h1⟩, a, z, .non, st, tl, s0, rfl, hE', V, hs, ?_⟩
    rcases h with h | ⟨r, row, rfl, hr1, hk, k⟩
    · exact .inl h
    · refine .inr ⟨r, row, rfl, hr1, hk, .inl ⟨rfl, fun H1 x1 => ?_⟩⟩
      obtain ⟨g, hg, e⟩ := List.mem_map.mp ((W.ks _).mpr (ledL_mem V hs hk))
      refine ⟨ps, .str g.2, rfl, dgr (.inl (x1 _ _ h3)) (by rw [← e]; exact valS W.nd hg), ?_⟩
      have := k H1 x1
      rw [← e, look2_at W.nd hg] at this
      exact this
end
end Sn
namespace Sn
open Evl (Ex)
open PySem L2
section
variable {X : Cx} {P : Program} {w : World} {K : PySem.W.Frag} {mg : Str → Option Value} {base : Heap}
theorem scD : FnScope ["_law_state", "_law_size", "_law_found", "_law_turn", "_law_cell", "_law_mixed"] ["_law_state", "_law_size"] (defScope s_l_draw) := ⟨rfl, rfl, rfl, by decide +kernel, rfl, by decide +kernel, by decide +kernel⟩
def spDraw : Sp := fun vs H Q _ => ∃ (F : Hp) (sa la ca : Addr) (T : Nat) (n : Int), vs = [.ref sa, .int n] ∧ Ex F H ∧ F sa = none ∧ F la = none ∧ Dr H sa la ca T ∧ T ≤ 100000000 ∧ 0 < n ∧ n ≤ 1000000 ∧
  ∀ (r : Int) (H' : Hp), 0 ≤ r → r < n → Ex F H' → Dr H' sa la ca (T + 1) → Q (.int r) H'
theorem ok_draw {f : Addr} {fd : FuncData} (F : Fun K "_law_draw" "_law_draw" s_l_draw f fd) (B : Bt mg) : FnOk P w K mg base CX0 1 f fd ["_law_state", "_law_size"] spDraw := by
  refine F.ok scD (fun vs H Q E h => ?_) (fun cdv A outer s H vs Q E hr h => ?_)
  · obtain ⟨_, _, _, _, _, _, rfl, _⟩ := h
    rfl
  · obtain ⟨G, sa, la, ca, T, n, rfl, eG, ns, nl, D, hT, n0, n1, k⟩ := h
    have hu := hu_of hr
    refine ⟨_, Evl.pss_cut (ps_while PassesOwn.never (PW.pt (pw_and (pt_cmpR op_eq (pe_dget hu (pv 0) pe_str (fun _ _ => rfl)) pe_int (nomark _)) (pw_and1 (pt_cmpR (op_neD hr.units) (pe_dget hu (pv 0) pe_str (fun _ _ => rfl)) (pe_lst pa_nil) (nomark _)))))
        (pss_one (ps_dput hu (pv 0) pe_str (pe_bm PySem.F.plainAttrs_list PySem.F.slot_list_pop PySem.F.type_list_pop mt_popAt (pe_dget hu (pv 0) pe_str (fun _ _ => rfl)) (pa_cons pe_int pa_nil)) rfl)))
      (pss_cons (ps_if (pt_cmpR op_gt (pe_dget hu (pv 0) pe_str (fun _ _ => rfl)) pe_int (nomark _))
        (pss_cons (ps_set (i := 2) scD.nd rfl (.inl rfl) (pe_op op_mod (pe_callTy call_int1 (by rfl) B.int PyProof.Rows.boot_int (pa_cons (pe_dget hu (pv 0) pe_str (fun _ _ => rfl)) pa_nil)) (pv 1)))
        (pss_cons (ps_dput hu (pv 0) pe_str (pe_op op_fdiv (pe_dget hu (pv 0) pe_str (fun _ _ => rfl)) (pv 1)) rfl)
        (pss_one (ps_ret (pv 2))))) pss_nil)
      (pss_cons (ps_set (i := 3) scD.nd rfl (.inl rfl) (pe_op op_add (pe_dget hu (pv 0) pe_str (fun _ _ => rfl)) pe_int))
      (pss_cons (ps_dput hu (pv 0) pe_str (pv 3) rfl)
      (Evl.pss_cut (ps_set (i := 4) scD.nd rfl (.inl rfl) (pe_ifExp (pt_cmpR (op_neD hr.units) (pe_dget hu (pv 0) pe_str (fun _ _ => rfl)) (pe_lst pa_nil) (nomark _))
          (pe_ix ix_list (pe_dget hu (pv 0) pe_str (fun _ _ => rfl)) (pe_op op_mod (pe_callTy call_int1 (by rfl) B.int PyProof.Rows.boot_int (pa_cons (pv 3) pa_nil)) (pe_callB call_len_seq (by rfl) B.len PySem.boot_len (pa_cons (pe_dget hu (pv 0) pe_str (fun _ _ => rfl)) pa_nil))) (fun _ _ => rfl)) pe_int))
      (pss_cons (ps_set (i := 5) scD.nd rfl (.inl rfl) (pe_op op_mod (pe_callTy call_int1 (by rfl) B.int PyProof.Rows.boot_int (pa_cons (pe_op op_pow (pe_op op_add (pe_op op_add (pe_op op_mod (pe_callTy call_int1 (by rfl) B.int PyProof.Rows.boot_int (pa_cons (pv 4) pa_nil)) pe_int) (pe_op op_mul pe_int (pv 3))) pe_int) pe_int) pa_nil)) pe_int))
      (pss_one (ps_ret (pe_op op_mod (pe_callTy call_int1 (by rfl) B.int PyProof.Rows.boot_int (pa_cons (pe_op op_fdiv (pe_op op_mod (pe_callTy call_int1 (by rfl) B.int PyProof.Rows.boot_int (pa_cons (pe_op op_pow (pe_op op_add (pv 5) (pe_op op_mul pe_int (pv 3))) pe_int) pa_nil)) pe_int) pe_int) pa_nil)) (pv 1))))))))), ?_⟩
    refine ⟨fun σ H' => σ = [some (.ref sa), some (.int n), none, none, none, none] ∧ Ex G H' ∧ Dr H' sa la ca T, ?_, ?_⟩
    · -- the loop
      obtain ⟨⟨ls, cs, r, t, h1, h2, h3, g1, g2, g3, g4, g5, g6⟩, sl, sc, lc⟩ := D
      refine ⟨fun m σ H' => σ = [some (.ref sa), some (.int n), none, none, none, none] ∧ Ex G H' ∧ ∃ (ls cs : List Int) (r t : Int), H' sa = some (.dK (dkv la ca r t)) ∧ H' la = some (.lst (ls.map V.int)) ∧ H' ca = some (.lst (cs.map V.int)) ∧ (∀ x ∈ ls, 0 ≤ x) ∧ 0 ≤ r ∧ 0 ≤ t ∧ t ≤ T ∧ ls.length ≤ 63 ∧ cs.length ≤ 63 ∧ ls.length = m,
        ⟨ls.length, rfl, eG, ls, cs, r, t, h1, h2, h3, g1, g2, g3, g4, g5, g6, rfl⟩, fun m σ H1 hW => ?_⟩
      clear h1 h2 h3 g1 g2 g3 g4 g5 g6 ls cs r t eG
      obtain ⟨rfl, eG, ls, cs, r, t, h1, h2, h3, g1, g2, g3, g4, g5, g6, hm⟩ := hW
      refine ⟨_, rfl, sa, .int r, rfl, dg h1 (kv_rest _ _ _ _), rfl, _, rfl, ?_⟩
      by_cases hz : V.int r = V.int 0
      · rw [decide_eq_true hz]
        refine iteT ?_
        refine ⟨_, rfl, sa, .ref la, rfl, dg h1 (kv_large _ _ _ _), Nat.zero_le _, fun p np => ?_⟩
        refine ⟨_, _, dp_ints (SqL.of (exn np _ _ h2)), .lst (SqL.of upd_same) .nil, shaped_ints _, shaped_nil, _, rfl, ?_⟩
        rw [eqv_nil]
        have e1 := exn (o := .lst []) np
        cases ls with
        | nil =>
          refine iteF ?_
          exact ⟨rfl, ext eG e1, ⟨[], cs, r, t, e1 _ _ h1, e1 _ _ h2, e1 _ _ h3, g1, g2, g3, g4, g5, g6⟩, sl, sc, lc⟩
        | cons l lr =>
          refine iteT ?_
          refine ⟨fun σ H' => σ = [some (.ref sa), some (.int n), none, none, none, none] ∧ Ex G H' ∧ H' sa = some (.dK (dkv la ca l t)) ∧ H' la = some (.lst (lr.map V.int)) ∧ H' ca = some (.lst (cs.map V.int)), fun σ' H' hN => ?_, ?_⟩
          · obtain ⟨rfl, a, b, c, d⟩ := hN
            refine ⟨lr.length, by rw [← hm]; exact Nat.lt_succ_self _, rfl, a, lr, cs, l, t, b, c, d, fun x hx => g1 x (List.mem_cons_of_mem _ hx), g1 l List.mem_cons_self, g3, g4, ?_, g6, rfl⟩
            have : (l :: lr).length = lr.length + 1 := rfl
            omega
          · have k1 := e1 _ _ h1
            have k2 := e1 _ _ h2
            refine ⟨_, rfl, sa, .ref la, rfl, dg k1 (kv_large _ _ _ _), .inl ⟨rfl, _, SqL.of k2⟩, la, _, 0, 0, _, rfl, rfl, k2, by decide, by decide, (by simp [seqIndex?]), rfl, ?_⟩
            have k3 : upd (upd H1 p (.lst [])) la (.lst ((lr.map V.int))) sa = some (.dK (dkv la ca r t)) := by rw [upd_ne sl]; exact k1
            refine ⟨_, rfl, sa, _, rfl, dp k3 (dk_len _ _ _ _) (kp_rest _ _ _ _ _), ?_⟩
            refine ⟨rfl, exm (exm (ext eG e1) nl) ns, upd_same, ?_, ?_⟩
            · rw [upd_ne sl.symm, upd_same]
              rfl
            · rw [upd_ne sc.symm, upd_ne lc.symm]
              exact e1 _ _ h3
      · rw [decide_eq_false hz]
        refine iteF ?_
        refine iteF ?_
        exact ⟨rfl, eG, ⟨ls, cs, r, t, h1, h2, h3, g1, g2, g3, g4, g5, g6⟩, sl, sc, lc⟩
    · -- behind it
      rintro σ H1 ⟨rfl, eG, D⟩
      obtain ⟨⟨ls, cs, r, t, h1, h2, h3, g1, g2, g3, g4, g5, g6⟩, sl, sc, lc⟩ := D
      refine ⟨_, rfl, sa, .int r, rfl, dg h1 (kv_rest _ _ _ _), r, 0, rfl, rfl, _, rfl, ?_⟩
      by_cases hz : 0 < r
      · rw [decide_eq_true hz]
        refine iteT ?_
        refine ⟨_, rfl, sa, .int r, rfl, dg h1 (kv_rest _ _ _ _), .inl ⟨r, rfl, ?_⟩⟩
        refine ⟨_, rfl, r, n, rfl, rfl, n0, ?_⟩
        refine ⟨_, rfl, sa, .int r, rfl, dg h1 (kv_rest _ _ _ _), _, rfl, r, n, rfl, rfl, ⟨n0, by omega⟩, _, rfl, sa, _, rfl, dp h1 (dk_len _ _ _ _) (kp_rest _ _ _ _ _), ?_⟩
        refine ⟨_, rfl, ?_⟩
        refine k _ _ (Int.emod_nonneg _ (by omega)) (Int.emod_lt_of_pos _ n0) (exm eG ns) ⟨⟨ls, cs, r / n, t, upd_same, ?_, ?_, g1, Int.ediv_nonneg g2 (by omega), g3, by omega, g5, g6⟩, sl, sc, lc⟩
        · rw [upd_ne sl.symm]; exact h2
        · rw [upd_ne sc.symm]; exact h3
      · rw [decide_eq_false hz]
        refine iteF ?_
        -- turn = state["turn"] + 1; state["turn"] = turn
        refine ⟨_, rfl, sa, .int t, rfl, dg h1 (kv_turn _ _ _ _), t, 1, rfl, rfl, ?_⟩
        refine ⟨_, rfl, _, rfl, sa, _, rfl, dp h1 (dk_len _ _ _ _) (kp_turn _ _ _ _ _), ?_⟩
        have D2 : Dr (upd H1 sa (.dK (dkv la ca r (t + 1)))) sa la ca (T + 1) := by
          refine ⟨⟨ls, cs, r, t + 1, upd_same, ?_, ?_, g1, g2, by omega, by omega, g5, g6⟩, sl, sc, lc⟩
          · rw [upd_ne sl.symm]; exact h2
          · rw [upd_ne sc.symm]; exact h3
        have e2 : Ex G (upd H1 sa (.dK (dkv la ca r (t + 1)))) := exm eG ns
        have k1 : upd H1 sa (.dK (dkv la ca r (t + 1))) sa = some (.dK (dkv la ca r (t + 1))) := upd_same
        have k3 : upd H1 sa (.dK (dkv la ca r (t + 1))) ca = some (.lst (cs.map V.int)) := by rw [upd_ne sc.symm]; exact h3
        refine ⟨fun σ H' => ∃ c : Int, σ = [some (.ref sa), some (.int n), none, some (.int (t + 1)), some (.int c), none] ∧ Ex G H' ∧ Dr H' sa la ca (T + 1), ?_, ?_⟩
        · refine ⟨_, rfl, sa, .ref ca, rfl, dg k1 (kv_cells _ _ _ _), Nat.zero_le _, fun p np => ?_⟩
          have e3 := exn (o := .lst []) np
          refine ⟨_, _, dp_ints (SqL.of (e3 _ _ k3)), .lst (SqL.of upd_same) .nil, shaped_ints _, shaped_nil, _, rfl, ?_⟩
          rw [eqv_nil]
          cases cs with
          | nil =>
            refine iteF ?_
            exact ⟨0, rfl, ext e2 e3, D2.ext e3⟩
          | cons c cr =>
            refine iteT ?_
            have kk1 := e3 _ _ k1
            have kk3 := e3 _ _ k3
            refine ⟨_, rfl, sa, .ref ca, rfl, dg kk1 (kv_cells _ _ _ _), _, rfl, .inl ⟨t + 1, rfl, ?_⟩⟩
            refine ⟨_, rfl, sa, .ref ca, rfl, dg kk1 (kv_cells _ _ _ _), ca, _, rfl, .inl (SqL.of kk3), ?_⟩
            refine ⟨t + 1, _, rfl, rfl, ?_, ?_⟩
            · show (0 : Int) < ((List.map V.int (c :: cr)).length : Int)
              simp
            · have hb : ((t + 1) % ((List.map V.int (c :: cr)).length : Int)).toNat < (c :: cr).length := by
                have p0 : (0 : Int) < ((List.map V.int (c :: cr)).length : Int) := by simp
                have a1 := Int.emod_lt_of_pos (t + 1) p0
                have a2 := Int.emod_nonneg (t + 1) (by omega : ((List.map V.int (c :: cr)).length : Int) ≠ 0)
                have a3 : (List.map V.int (c :: cr)).length = (c :: cr).length := List.length_map _
                omega
              refine ⟨ca, _, _, .int ((c :: cr)[((t + 1) % ((List.map V.int (c :: cr)).length : Int)).toNat]), rfl, rfl, SqL.of kk3, at_of (j := ((t + 1) % ((List.map V.int (c :: cr)).length : Int)).toNat) ?_ ?_, ?_⟩
              · have p0 : (0 : Int) < ((List.map V.int (c :: cr)).length : Int) := by simp
                have a2 := Int.emod_nonneg (t + 1) (by omega : ((List.map V.int (c :: cr)).length : Int) ≠ 0)
                omega
              · rw [List.getElem?_map, List.getElem?_eq_getElem hb]
                rfl
              · exact ⟨_, rfl, ext e2 e3, D2.ext e3⟩
        · rintro σ H3 ⟨c, rfl, e3, D3⟩
          refine ⟨_, rfl, .inl ⟨c, rfl, c, _, rfl, rfl, by show (0 : Int) < 2147483629; decide, _, rfl, 48271, t + 1, rfl, rfl, .inl ⟨by decide, by decide⟩, _, _, rfl, rfl, _, _, rfl, rfl, _, 3, rfl, rfl, ⟨by decide, by decide, ?_⟩, .inl ⟨_, rfl, _, _, rfl, rfl, by show (0 : Int) < 2147483647; decide, ?_⟩⟩⟩
          · have a1 := Int.emod_lt_of_pos c (by decide : (0 : Int) < 2147483629)
            have a2 := Int.emod_nonneg c (by decide : (2147483629 : Int) ≠ 0)
            omega
          refine ⟨_, rfl, _, rfl, 99991, t + 1, rfl, rfl, .inl ⟨by decide, by decide⟩, _, _, rfl, rfl, _, 5, rfl, rfl, ⟨by decide, by decide, ?_⟩, .inl ⟨_, rfl, _, _, rfl, rfl, by show (0 : Int) < 2147483587; decide, _, 23, rfl, rfl, ⟨by decide, by decide⟩, .inl ⟨_, rfl, _, rfl, _, n, rfl, rfl, n0, ?_⟩⟩⟩
          · generalize ((c % 2147483629 + 48271 * (t + 1) + 13579) ^ (3 : Int).toNat) = z
            have a1 := Int.emod_lt_of_pos z (by decide : (0 : Int) < 2147483647)
            have a2 := Int.emod_nonneg z (by decide : (2147483647 : Int) ≠ 0)
            omega
          exact k _ _ (Int.emod_nonneg _ (by omega)) (Int.emod_lt_of_pos _ n0) e3 D3
end
end Sn
namespace Sn
open Evl (Ex)
open PySem L2
section
variable {X : Cx} {P : Program} {w : World} {K : PySem.W.Frag} {mg : Str → Option Value} {base : Heap}
theorem sc_l_pick : FnScope ["_law_state", "_law_several"] ["_law_state", "_law_several"] (defScope s_l_pick) := ⟨rfl, rfl, rfl, by decide +kernel, rfl, by decide +kernel, by decide +kernel⟩
def spPick (K : PySem.W.Frag) : Sp := fun vs H Q _ => ∃ (F : Hp) (sa la ca : Addr) (T : Nat) (z : V), vs = [.ref sa, z] ∧ Ex F H ∧ F sa = none ∧ F la = none ∧ Dr H sa la ca T ∧ T ≤ 100000000 ∧
  ((∃ (a : Addr) (xs : List V), z = .ref a ∧ SqL K F a xs ∧ xs ≠ [] ∧ xs.length ≤ 1000000 ∧ ∀ (j : Nat) (x : V) (H' : Hp), xs[j]? = some x → Ex F H' → Dr H' sa la ca (T + 1) → Q x H') ∨
   (∃ x : Str, z = .str x ∧ x.cps.toList ≠ [] ∧ x.cps.toList.length ≤ 1000000 ∧ ∀ (c : Nat) (H' : Hp), c ∈ x.cps.toList → Ex F H' → Dr H' sa la ca (T + 1) → Q (.str ⟨#[c]⟩) H'))
theorem ok_pick {f : Addr} {fd : FuncData} (F : Fun K "_law_pick" "_law_pick" s_l_pick f fd) (B : Bt mg) (cDraw : Cal P w K mg base CX0 1 "_law_draw" ["_law_state", "_law_size"] spDraw) : FnOk P w K mg base CX0 2 f fd ["_law_state", "_law_several"] (spPick K) := by
  refine F.ok sc_l_pick (fun vs H Q E h => ?_) (fun cdv A outer s H vs Q E hr h => ?_)
  · obtain ⟨_, _, _, _, _, _, rfl, _⟩ := h
    rfl
  · obtain ⟨G, sa, la, ca, T, z, rfl, eG, ns, nl, D, hT, h⟩ := h
    refine ⟨_, (pss_one (ps_ret (pe_ix ix_seq (pv 1) (pcall cDraw (hr.mono (by decide)) (pa_cons (pv 0) (pa_cons (pe_callB call_len (by rfl) B.len PySem.boot_len (pa_cons (pv 1) pa_nil)) pa_nil))) (fun _ _ => rfl)))), ?_⟩
    rcases h with ⟨a, xs, rfl, hx, h0, h1, k⟩ | ⟨x, rfl, h0, h1, k⟩
    · have hl : 0 < xs.length := List.length_pos_iff.mpr h0
      refine ⟨_, rfl, _, rfl, _, rfl, _, xs.length, rfl, .inl ⟨xs, Evl.ex_l eG hx, rfl⟩, G, sa, la, ca, T, _, rfl, eG, ns, nl, D, hT, by omega, by omega, fun r H' r0 r1 e' D' => ?_⟩
      have hb : r.toNat < xs.length := by omega
      exact .inl ⟨a, xs, r, xs[r.toNat], rfl, rfl, Evl.ex_l e' hx, at_of (j := r.toNat) (by omega) (List.getElem?_eq_getElem hb), k r.toNat _ H' (List.getElem?_eq_getElem hb) e' D'⟩
    · have hl : 0 < x.cps.toList.length := List.length_pos_iff.mpr h0
      have hz : x.length = x.cps.toList.length := by simp [Str.length]
      refine ⟨_, rfl, _, rfl, _, rfl, _, x.length, rfl, ⟨by rw [hz, sizeLine_eq]; omega, rfl⟩, G, sa, la, ca, T, _, rfl, eG, ns, nl, D, hT, by rw [hz]; omega, by rw [hz]; omega, fun r H' r0 r1 e' D' => ?_⟩
      rw [hz] at r1
      have hb : r.toNat < x.cps.toList.length := by omega
      refine .inr (.inr ⟨x, r, x.cps.toList[r.toNat], rfl, rfl, by rw [hz, sizeLine_eq]; omega, ?_, k _ H' (List.getElem_mem hb) e' D'⟩)
      have := atI_nat (List.getElem?_eq_getElem hb)
      rw [show ((r.toNat : Nat) : Int) = r by omega] at this
      exact this
end
end Sn
namespace Sn
open Evl (Ex)
open PySem L2
section
variable {X : Cx} {P : Program} {w : World} {K : PySem.W.Frag} {mg : Str → Option Value} {base : Heap}
def sev : List Str := ["a", "b", "c", "ab", "event", "take", "raise", "old", "new", "state", "start", "snap", "step", "zzzzzz"]
instance (s : Str) : Decidable (Wd s) := decidable_of_iff (1 ≤ s.cps.toList.length ∧ s.cps.toList.length ≤ 6 ∧ ∀ c ∈ s.cps.toList, 97 ≤ c ∧ c ≤ 122) ⟨fun ⟨a, b, c⟩ => ⟨a, b, c⟩, fun ⟨a, b, c⟩ => ⟨a, b, c⟩⟩
theorem sev_wd : ∀ s ∈ sev, Wd s := by decide +kernel
theorem join_signs : ∀ cs : List Nat, (Txt.join "" (cs.map fun c => (⟨#[c]⟩ : Str))).cps.toList = cs := by
  intro cs
  show (Builtin.Str.glued "" (cs.map fun c => (⟨#[c]⟩ : Str))).cps.toList = cs
  rw [StrLaws.glued_eq_join]
  induction cs with
  | nil => rfl
  | cons c r ih =>
    cases r with
    | nil => rfl
    | cons d r =>
      show ((⟨#[c]⟩ : Str) ++ ("" : Str) ++ Str.join "" ((⟨#[d]⟩ : Str) :: r.map fun c => (⟨#[c]⟩ : Str))).cps.toList = c :: d :: r
      have e : ∀ a b : Str, (a ++ b).cps.toList = a.cps.toList ++ b.cps.toList := fun a b => Array.toList_append
      rw [e, e]
      have ih' : (Str.join "" ((⟨#[d]⟩ : Str) :: r.map fun c => (⟨#[c]⟩ : Str))).cps.toList = d :: r := ih
      rw [ih']
      rfl
theorem wd_join {cs : List Nat} (h1 : 1 ≤ cs.length) (h2 : cs.length ≤ 6) (h3 : ∀ c ∈ cs, 97 ≤ c ∧ c ≤ 122) : Wd (Txt.join "" (cs.map fun c => (⟨#[c]⟩ : Str))) := by
  have e := join_signs cs
  exact ⟨by rw [e]; exact h1, by rw [e]; exact h2, by rw [e]; exact h3⟩
theorem cut5 (z : Str) : (cutS z none (some 5)).cps.toList = z.cps.toList.take 5 := by
  have hz : z.length = z.cps.toList.length := by simp [Str.length]
  unfold cutS
  rw [HT.sIx_none, show HT.sIx z.length z.length (some 5) = min 5 z.length from HT.sIx_nat z.length z.length 5]
  show ((z.cps.toList.drop 0).take (min 5 z.length - 0)) = _
  rw [List.drop_zero, hz, Nat.sub_zero]
  by_cases h : z.cps.toList.length ≤ 5
  · rw [Nat.min_eq_right h, List.take_length, List.take_of_length_le h]
  · rw [Nat.min_eq_left (by omega)]
theorem wd_more {z : Str} {c : Nat} (h : Wd z) (hc : 97 ≤ c ∧ c ≤ 122) : Wd (cutS z none (some 5) ++ ⟨#[c]⟩) := by
  have e : (cutS z none (some 5) ++ (⟨#[c]⟩ : Str)).cps.toList = z.cps.toList.take 5 ++ [c] := by
    rw [← cut5]
    exact Array.toList_append
  refine ⟨by rw [e]; simp, ?_, ?_⟩
  · rw [e, List.length_append, List.length_take]
    show _ + 1 ≤ 6
    omega
  · rw [e]
    intro x hx
    rcases List.mem_append.mp hx with h' | h'
    · exact h.az x (List.mem_of_mem_take h')
    · rw [List.mem_singleton.mp h']
      exact hc
theorem wd_one {c : Nat} (hc : 97 ≤ c ∧ c ≤ 122) : Wd ⟨#[c]⟩ := ⟨Nat.le_refl 1, by show 1 ≤ 6; decide, fun x hx => by
  have : x = c := List.mem_singleton.mp hx
  rw [this]; exact hc⟩
theorem wd_len {s : Str} (h : Wd s) : s.length ≤ 6 := by
  have := h.hi
  simp [Str.length] at this ⊢
  exact this
theorem sub_len {α : Type} [DecidableEq α] : ∀ {l ws : List α}, l.Nodup → (∀ x ∈ l, x ∈ ws) → l.length ≤ ws.length
  | [], _, _, _ => Nat.zero_le _
  | a :: r, ws, h, hs => by
    have ha := hs a List.mem_cons_self
    obtain ⟨h1, h2⟩ := List.nodup_cons.mp h
    have ih := sub_len (l := r) (ws := ws.erase a) h2 fun x hx => (List.mem_erase_of_ne (fun e : x = a => h1 (by rw [← e]; exact hx))).mpr (hs x (List.mem_cons_of_mem _ hx))
    rw [List.length_erase_of_mem ha] at ih
    have hp : 0 < ws.length := List.length_pos_of_mem ha
    show r.length + 1 ≤ ws.length
    omega
/-- some letter is free of fewer than 26 words -/
theorem free_letter {ws : List Str} (h : ws.length < 26) : ∃ c ∈ abc.cps.toList, (⟨#[c]⟩ : Str) ∉ ws := by
  by_cases q : ∃ c ∈ abc.cps.toList, (⟨#[c]⟩ : Str) ∉ ws
  · exact q
  · exfalso
    have all : ∀ c ∈ abc.cps.toList, (⟨#[c]⟩ : Str) ∈ ws := fun c hc => by
      by_cases z : (⟨#[c]⟩ : Str) ∈ ws
      · exact z
      · exact absurd ⟨c, hc, z⟩ q
    have hn : (abc.cps.toList.map fun c => (⟨#[c]⟩ : Str)).Nodup := by decide +kernel
    have hl := sub_len hn (fun x hx => by
      obtain ⟨c, hc, rfl⟩ := List.mem_map.mp hx
      exact all c hc)
    have h26 : (abc.cps.toList.map fun c => (⟨#[c]⟩ : Str)).length = 26 := by decide +kernel
    omega
theorem sc_l_words : FnScope ["_law_state", "_law_many", "_law_letters", "_law_found", "_law_several", "_law_turn", "_law_way", "_law_word", "_law_sign", "_law_letter"] ["_law_state", "_law_many"] (defScope s_l_words) := ⟨rfl, rfl, rfl, by decide +kernel, rfl, by decide +kernel, by decide +kernel⟩
def spWords : Sp := fun vs H Q _ => ∃ (F : Hp) (sa la ca : Addr) (T : Nat) (n : Nat), vs = [.ref sa, .int (n : Int)] ∧ Ex F H ∧ F sa = none ∧ F la = none ∧ Dr H sa la ca T ∧ T ≤ 10000000 ∧ n ≤ 20 ∧
  ∀ (p : Addr) (ws : List Str) (H' : Hp), H p = none → ws.length = n → ws.Nodup → (∀ x ∈ ws, Wd x) → Ex F H' → H' p = some (.lst (ws.map V.str)) → Dr H' sa la ca (T + 400) → Q (.ref p) H'
theorem ok_words {f : Addr} {fd : FuncData} (F : Fun K "_law_words" "_law_words" s_l_words f fd) (B : Bt mg) (cDraw : Cal P w K mg base CX0 1 "_law_draw" ["_law_state", "_law_size"] spDraw)
    (cPick : Cal P w K mg base CX0 2 "_law_pick" ["_law_state", "_law_several"] (spPick K)) : FnOk P w K mg base CX0 3 f fd ["_law_state", "_law_many"] spWords := by
  refine F.ok sc_l_words (fun vs H Q E h => ?_) (fun cdv A outer s H vs Q E hr h => ?_)
  · obtain ⟨_, _, _, _, _, _, rfl, _⟩ := h
    rfl
  · obtain ⟨F0, sa, la, ca, T, n, rfl, eF, ns, nl, D, hT, hn, k⟩ := h
    refine ⟨_, (pss_cons (ps_asg (pe_tup (pa_cons pe_str (pa_cons (pe_lst pa_nil) pa_nil))) (pg_tup rfl (pgs_cons (pg_name (i := 2) sc_l_words.nd rfl (.inr rfl)) (pgs_cons (pg_name (i := 3) sc_l_words.nd rfl (.inr rfl)) pgs_nil))))
      (pss_cons (ps_set (i := 4) sc_l_words.nd rfl (.inl rfl) (pe_lst (pa_cons pe_str (pa_cons pe_str (pa_cons pe_str (pa_cons pe_str (pa_cons pe_str (pa_cons pe_str (pa_cons pe_str (pa_cons pe_str (pa_cons pe_str (pa_cons pe_str (pa_cons pe_str (pa_cons pe_str (pa_cons pe_str (pa_cons pe_str pa_nil))))))))))))))))
      (pss_cons (ps_for PassesOwn.never rfl (pi_range1 rfl B.range (pa_cons (pv 1) pa_nil)) (pg_name (i := 5) sc_l_words.nd rfl (.inl rfl))
        (pss_cons (ps_par (i := 6) (j := 7) (by rfl) sc_l_words.nd rfl rfl (by decide) rfl rfl (pa_cons (pcall cDraw (hr.mono (by decide)) (pa_cons (pv 0) (pa_cons pe_int pa_nil))) (pa_cons (pcall cPick (hr.mono (by decide)) (pa_cons (pv 0) (pa_cons (pv 4) pa_nil))) pa_nil)) (by rfl))
        (Evl.pss_cut (ps_if (pt_cmpR op_eq (pv 6) pe_int (nomark _))
          (pss_one (ps_set (i := 7) sc_l_words.nd rfl (.inl rfl) (pe_join pe_str (pe_lc (own := [("_law_sign", 8)]) (by rfl) sc_l_words.nd (pi_range1 rfl B.range (pa_cons (pe_op op_add pe_int (pcall cDraw (hr.mono (by decide)) (pa_cons (pv 0) (pa_cons pe_int pa_nil)))) pa_nil)) (blkOk_by (own := [("_law_sign", 8)]) (N := ["_law_state", "_law_many", "_law_letters", "_law_found", "_law_several", "_law_turn", "_law_way", "_law_word", "_law_sign", "_law_letter"]) (sc := defScope s_l_words) (by decide +kernel)) (fun _ _ _ _ _ => (pg_name (i := 8) sc_l_words.nd rfl (Or.inl rfl))) (fun _ _ _ _ _ => pts_nil) (fun _ _ _ _ _ => (pcall cPick (hr.mono (by decide)) (pa_cons (pv 0) (pa_cons (pv 2) pa_nil))))))))
          pss_nil)
        (Evl.pss_cut (ps_if (PW.pt (pw_and (pt_cmpR op_eq (pv 6) pe_int (nomark _)) (pw_and1 (pt_cmpR (op_neD hr.units) (pv 3) (pe_lst pa_nil) (nomark _)))))
          (pss_one (ps_set (i := 7) sc_l_words.nd rfl (.inl rfl) (pe_op op_add_str (pe_slice sl_str (pe_ix ix_list (pv 3) (pe_un un_neg pe_int) (fun _ _ => rfl)) po_none (po_some pe_int)) (pcall cPick (hr.mono (by decide)) (pa_cons (pv 0) (pa_cons (pv 2) pa_nil))))))
          pss_nil)
        (Evl.pss_cut (ps_if (pt_cmpR op_in_seq (pv 7) (pv 3) (by rfl))
          (pss_one (ps_set (i := 7) sc_l_words.nd rfl (.inl rfl) (pe_ix ix_list (pe_lc (own := [("_law_letter", 9)]) (by rfl) sc_l_words.nd (pi_str (pv 2)) (blkOk_by (own := [("_law_letter", 9)]) (N := ["_law_state", "_law_many", "_law_letters", "_law_found", "_law_several", "_law_turn", "_law_way", "_law_word", "_law_sign", "_law_letter"]) (sc := defScope s_l_words) (by decide +kernel)) (fun _ _ _ _ _ => (pg_name (i := 9) sc_l_words.nd rfl (Or.inl rfl))) (fun _ _ _ _ _ => (pts_one (pt_cmpR (r := rIn K true) op_notIn_seq (pv 9) (pv 3) (by rfl)))) (fun _ _ _ _ _ => (pv 9))) pe_int (fun _ _ => rfl))))
          pss_nil)
        (pss_one (ps_expr (pe_bm PySem.F.plainAttrs_list PySem.F.slot_list_append PySem.F.type_list_append mt_append (pv 3) (pa_cons (pv 7) pa_nil)))))))))
      (pss_one (ps_ret (pv 3)))))), ?_⟩
    refine ⟨Nat.zero_le _, fun p np => ⟨by show 2 ≤ sizeLine; decide, fun t nt => ?_⟩⟩
    refine ⟨t, _, rfl, SqT.of upd_same, rfl, _, _, rfl, _, _, rfl, rfl, ?_⟩
    refine ⟨by show 14 ≤ sizeLine; decide, fun q nq => ?_⟩
    -- the frozen part beside the growing list
    have eH1 : Ex H (upd H p (.lst [])) := exn np
    have np0 : F0 p = none := exb eF np
    have nqp : q ≠ p := fun e => by
      rw [e, upd_ne (fun z => by rw [z, upd_same] at nt; cases nt), upd_same] at nq
      cases nq
    have nqH : H q = none := exb (ext eH1 (exn nt)) nq
    have psa := D.sne np
    have pla := D.lne np
    have qsa := D.sne nqH
    have qla := D.lne nqH
    let F1 : Hp := upd F0 q (.lst (sev.map V.str))
    have n1s : ∀ o, upd F1 p o sa = none := fun o => updn (updn ns qsa.symm) psa.symm
    have n1l : ∀ o, upd F1 p o la = none := fun o => updn (updn nl qla.symm) pla.symm
    have F1q : ∀ o, upd F1 p o q = some (.lst (sev.map V.str)) := fun o => by rw [upd_ne nqp]; exact upd_same
    have F1p : ∀ o, upd F1 p o p = some o := fun o => upd_same
    have F1x : ∀ o H', Ex (upd F1 p o) H' → Ex F0 H' := fun o H' e a u h => e a u (by
      rw [upd_ne (ne_of_none h np0)]
      exact (upd_ne (ne_of_none h (exb eF nqH))).trans h)
    refine ⟨_, rfl, (n : Int), rfl, by omega, by omega, for_range (lo := 0) (n := (n : Int).toNat) (fun i σ H' => ∃ (y5 y6 y7 : Option V) (ws : List Str), σ = [some (.ref sa), some (.int (n : Int)), some (.str abc), some (.ref p), some (.ref q), y5, y6, y7, none, none] ∧ Ex (upd F1 p (.lst (ws.map V.str))) H' ∧ ws.length = i ∧ ws.Nodup ∧ (∀ x ∈ ws, Wd x) ∧ Dr H' sa la ca (T + 20 * i)) ?_ ?_ ?_⟩
    · refine ⟨none, none, none, [], rfl, ?_, rfl, List.nodup_nil, fun _ h => (nomatch h), (((D.ext eH1).ext (exn nt)).ext (exn nq)).mono (by omega)⟩
      intro a u h
      by_cases e1 : a = p
      · subst e1
        rw [F1p] at h
        rw [upd_ne nqp.symm, upd_ne (fun z => by rw [z, upd_same] at nt; cases nt), upd_same]
        exact h
      · rw [upd_ne e1] at h
        by_cases e2 : a = q
        · subst e2
          rw [show F1 a = some (.lst (sev.map V.str)) from upd_same] at h
          rw [upd_same]
          exact h
        · rw [show F1 a = F0 a from upd_ne e2] at h
          exact (ext (ext eH1 (exn nt)) (exn nq)) a u (eF a u h)
    · rintro i σ H2 hi ⟨y5, y6, y7, ws, rfl, eG, hlen, hnd, hwd, D2⟩
      have i20 : i < 20 := by omega
      -- way, word
      refine ⟨_, rfl, upd F1 p (.lst (ws.map V.str)), sa, la, ca, _, 4, rfl, eG, n1s _, n1l _, D2, by omega, by decide, by decide, fun r H3 r0 r1 e3 D3 => ?_⟩
      refine ⟨_, rfl, _, rfl, upd F1 p (.lst (ws.map V.str)), sa, la, ca, _, _, rfl, e3, n1s _, n1l _, D3, by omega, .inl ⟨q, _, rfl, SqL.of (F1q _), by simp [sev], by simp [sev], fun j x H4 hj e4 D4 => ?_⟩⟩
      obtain ⟨s0, hs0, rfl⟩ := List.mem_map.mp (List.mem_of_getElem? hj)
      refine ⟨_, _, rfl, ?_⟩
      refine ⟨fun σ H' => ∃ word : Str, σ = [some (.ref sa), some (.int (n : Int)), some (.str abc), some (.ref p), some (.ref q), some (.int (0 + (i : Int))), some (.int r), some (.str word), none, none] ∧ Ex (upd F1 p (.lst (ws.map V.str))) H' ∧ Wd word ∧ Dr H' sa la ca (T + 20 * i + 10), ?_, ?_⟩
      · -- way 0
        refine ⟨_, rfl, rfl, _, rfl, ?_⟩
        by_cases hz : V.int r = V.int 0
        · rw [decide_eq_true hz]
          refine iteT ?_
          refine ⟨⟨_, rfl⟩, _, rfl, upd F1 p (.lst (ws.map V.str)), sa, la, ca, _, 6, rfl, e4, n1s _, n1l _, D4, by omega, by decide, by decide, fun m H5 m0 m1 e5 D5 => ?_⟩
          refine ⟨1, m, rfl, rfl, 1 + m, rfl, by omega, by omega, fun Dl nD => ?_⟩
          have gD : ∀ o, upd F1 p o Dl = none → True := fun _ _ => True.intro
          have nDG : upd F1 p (.lst (ws.map V.str)) Dl = none := exb e5 nD
          have Ds := D5.sne nD
          have Dls := D5.lne nD
          have Dcs := D5.cne nD
          refine lc_range (lo := 0) (n := (1 + m).toNat) (fun j H' => ∃ cs : List Nat, Ex (upd F1 p (.lst (ws.map V.str))) H' ∧ H' Dl = some (.lst (cs.map fun c => V.str ⟨#[c]⟩)) ∧ cs.length = j ∧ (∀ c ∈ cs, 97 ≤ c ∧ c ≤ 122) ∧ Dr H' sa la ca (T + 20 * i + 3 + j)) ?_ ?_ ?_
          · exact ⟨[], exm e5 nDG, upd_same, rfl, fun _ h => (nomatch h), D5.new nD⟩
          · rintro j H6 hj ⟨cs, e6, hD6, hl6, ha6, D6⟩
            refine ⟨rfl, _, rfl, _, rfl, upd (upd F1 p (.lst (ws.map V.str))) Dl (.lst (cs.map fun c => V.str ⟨#[c]⟩)), sa, la, ca, _, _, rfl, exp e6 hD6, updn (n1s _) Ds.symm, updn (n1l _) Dls.symm, D6, by omega, .inr ⟨abc, rfl, by decide +kernel, by decide +kernel, fun c H7 hc e7 D7 => ?_⟩⟩
            have hD7 := e7 _ _ (upd_same (H := upd F1 p (.lst (ws.map V.str))))
            refine ⟨_, hD7, ?_, cs ++ [c], ?_, ?_, ?_, ?_, ?_⟩
            · rw [List.length_map, sizeLine_eq]
              omega
            · exact exm (fun a u h => e7 a u (by rw [upd_ne (ne_of_none h nDG)]; exact h)) nDG
            · rw [upd_same, List.map_append]
              rfl
            · rw [List.length_append, hl6]
              rfl
            · intro x hx
              rcases List.mem_append.mp hx with h' | h'
              · exact ha6 x h'
              · rw [List.mem_singleton.mp h']
                exact abc_mem.mp hc
            · exact (D7.upd Ds Dls Dcs).mono (by omega)
          · rintro H6 ⟨cs, e6, hD6, hl6, ha6, D6⟩
            have em : (cs.map fun c => V.str ⟨#[c]⟩) = (cs.map fun c => (⟨#[c]⟩ : Str)).map V.str := by rw [List.map_map]; rfl
            rw [em] at hD6
            refine ⟨_, Dl, _, rfl, rfl, .inl (SqL.of hD6), ?_, ?_⟩
            · rw [List.map_map, List.length_map]
              have e1 : (cs.map ((fun x : Str => x.length) ∘ fun c => (⟨#[c]⟩ : Str))) = cs.map fun _ => 1 := List.map_congr_left fun _ _ => rfl
              rw [e1]
              have e2 : ∀ l : List Nat, (l.map fun _ => 1).sum = l.length := fun l => by
                induction l with
                | nil => rfl
                | cons a r ih => rw [List.map_cons, List.sum_cons, ih, List.length_cons]; omega
              rw [e2]
              show cs.length + cs.length * 0 ≤ 16777216
              omega
            · exact ⟨_, rfl, e6, wd_join (by omega) (by omega) ha6, D6.mono (by omega)⟩
        · rw [decide_eq_false hz]
          refine iteF ?_
          exact ⟨s0, rfl, e4, sev_wd _ hs0, D4.mono (by omega)⟩
      · rintro σ H5 ⟨w1, rfl, e5, hw1, D5⟩
        refine ⟨fun σ H' => ∃ word : Str, σ = [some (.ref sa), some (.int (n : Int)), some (.str abc), some (.ref p), some (.ref q), some (.int (0 + (i : Int))), some (.int r), some (.str word), none, none] ∧ Ex (upd F1 p (.lst (ws.map V.str))) H' ∧ Wd word ∧ Dr H' sa la ca (T + 20 * i + 12), ?_, ?_⟩
        · refine ⟨_, rfl, rfl, _, rfl, ?_⟩
          by_cases hz : V.int r = V.int 1
          · rw [decide_eq_true hz]
            refine iteT ?_
            refine ⟨_, rfl, Nat.zero_le _, fun x nx => ?_⟩
            have ex5 := exn (o := .lst []) nx
            refine ⟨_, _, dp_strs (SqL.of (ext e5 ex5 _ _ (F1p _))), .lst (SqL.of upd_same) .nil, shaped_words hwd, shaped_nil, _, rfl, ?_⟩
            rw [eqv_nil]
            by_cases hws : ws = []
            · rw [hws]
              refine iteF ?_
              exact ⟨w1, rfl, by rw [← hws]; exact ext e5 ex5, hw1, (D5.new nx).mono (by omega)⟩
            · have hne : (ws.map PyData.str).isEmpty = false := by
                cases ws with
                | nil => exact absurd rfl hws
                | cons a b => rfl
              rw [hne]
              refine iteT ?_
              have hlt : ws.length - 1 < ws.length := by have := List.length_pos_iff.mpr hws; omega
              refine ⟨_, rfl, 1, rfl, p, _, _, .str (ws[ws.length - 1]), rfl, rfl, SqL.of (ext e5 ex5 _ _ (F1p _)), ?_, 5, rfl, _, rfl, ?_, ?_⟩
              · have h1 := atI_last (ws.dropLast.map V.str) (.str (ws[ws.length - 1]))
                have h2 : ws.dropLast ++ [ws[ws.length - 1]] = ws := by
                  rw [← List.getLast_eq_getElem hws]
                  exact List.dropLast_concat_getLast hws
                have h3 : ws.map V.str = ws.dropLast.map V.str ++ [V.str (ws[ws.length - 1])] := by
                  conv => lhs; rw [← h2]
                  rw [List.map_append]
                  rfl
                rw [h3]
                exact h1
              · have := wd_len (hwd _ (List.getElem_mem hlt))
                rw [sizeLine_eq]
                omega
              · refine ⟨_, rfl, _, rfl, upd F1 p (.lst (ws.map V.str)), sa, la, ca, _, _, rfl, ext e5 ex5, n1s _, n1l _, D5.new nx, by omega, .inr ⟨abc, rfl, by decide +kernel, by decide +kernel, fun c H7 hc e7 D7 => ?_⟩⟩
                have hwn := wd_more (hwd _ (List.getElem_mem hlt)) (abc_mem.mp hc)
                refine ⟨_, _, rfl, rfl, ?_, _, rfl, e7, hwn, D7.mono (by omega)⟩
                have h6 := wd_len hwn
                have h7 : (cutS (ws[ws.length - 1]) none (some 5) ++ (⟨#[c]⟩ : Str)).length = (cutS (ws[ws.length - 1]) none (some 5)).length + (⟨#[c]⟩ : Str).length := Array.size_append
                rw [sizeLine_eq]
                omega
          · rw [decide_eq_false hz]
            refine iteF ?_
            refine iteF ?_
            exact ⟨w1, rfl, e5, hw1, D5.mono (by omega)⟩
        · rintro σ H6 ⟨w2, rfl, e6, hw2, D6⟩
          refine ⟨fun σ H' => ∃ word : Str, σ = [some (.ref sa), some (.int (n : Int)), some (.str abc), some (.ref p), some (.ref q), some (.int (0 + (i : Int))), some (.int r), some (.str word), none, none] ∧ Ex (upd F1 p (.lst (ws.map V.str))) H' ∧ Wd word ∧ word ∉ ws ∧ Dr H' sa la ca (T + 20 * i + 12), ?_, ?_⟩
          · refine ⟨_, rfl, _, rfl, p, _, rfl, .inl (SqL.of (e6 _ _ (F1p _))), rfl, flat_strs _, _, rfl, ?_⟩
            rw [if_neg Bool.false_ne_true, inV_str]
            by_cases hin : w2 ∈ ws
            · rw [decide_eq_true hin]
              refine iteT ?_
              refine ⟨_, rfl, abc, rfl, fun Dl nD => ?_⟩
              have nDG : upd F1 p (.lst (ws.map V.str)) Dl = none := exb e6 nD
              have Ds := D6.sne nD
              have Dls := D6.lne nD
              have Dcs := D6.cne nD
              have pD : p ≠ Dl := fun e => by rw [← e, F1p] at nDG; cases nDG
              refine lc_it walk_str (fun j H' => Ex (upd F1 p (.lst (ws.map V.str))) H' ∧ H' Dl = some (.lst (((abc.cps.toList.take j).filter fun c => !decide ((⟨#[c]⟩ : Str) ∈ ws)).map fun c => V.str ⟨#[c]⟩)) ∧ Dr H' sa la ca (T + 20 * i + 12)) ?_ ?_ ?_ ?_
              · exact ⟨exm e6 nDG, upd_same, D6.new nD⟩
              · intros; exact True.intro
              · rintro j x H7 H8 hj ⟨e7, hD7, D7⟩ ⟨rfl, c, hc, rfl⟩
                have hc' : abc.cps.toList[j]? = some c := by rw [← hc]; simp
                have htk : abc.cps.toList.take (j + 1) = abc.cps.toList.take j ++ [c] := by
                  rw [List.take_succ, hc']
                  rfl
                refine ⟨rfl, _, rfl, _, rfl, p, _, rfl, .inl (SqL.of (e7 _ _ (F1p _))), rfl, flat_strs _, _, rfl, ?_⟩
                rw [if_pos rfl, inV_str]
                by_cases hm : (⟨#[c]⟩ : Str) ∈ ws
                · rw [decide_eq_true hm]
                  refine iteF ⟨e7, ?_, D7⟩
                  rw [htk, List.filter_append]
                  simp only [List.filter_cons, List.filter_nil, decide_eq_true hm, Bool.not_true, Bool.false_eq_true, if_false, List.append_nil]
                  exact hD7
                · rw [decide_eq_false hm]
                  refine iteT ⟨_, rfl, _, hD7, ?_, exm e7 nDG, ?_, D7.upd Ds Dls Dcs⟩
                  · rw [List.length_map, sizeLine_eq]
                    have h1 := List.length_filter_le (fun c => !decide ((⟨#[c]⟩ : Str) ∈ ws)) (abc.cps.toList.take j)
                    have h2 := List.length_take_le j abc.cps.toList
                    have h3 : abc.cps.toList.length = 26 := by decide +kernel
                    have h4 := List.length_take_le' j abc.cps.toList
                    omega
                  · rw [upd_same, htk, List.filter_append]
                    simp only [List.filter_cons, List.filter_nil, decide_eq_false hm, Bool.not_false, if_true, List.map_append, List.map_cons, List.map_nil]
              · rintro H7 ⟨e7, hD7, D7⟩
                obtain ⟨c0, hc0, hn0⟩ := free_letter (ws := ws) (by omega)
                have ht : abc.cps.toList.take abc.cps.size = abc.cps.toList := by
                  rw [← Array.length_toList, List.take_length]
                rw [ht] at hD7
                have hmem : c0 ∈ abc.cps.toList.filter fun c => !decide ((⟨#[c]⟩ : Str) ∈ ws) := List.mem_filter.mpr ⟨hc0, by rw [decide_eq_false hn0]; rfl⟩
                cases hf : abc.cps.toList.filter fun c => !decide ((⟨#[c]⟩ : Str) ∈ ws) with
                | nil =>
                  rw [hf] at hmem
                  cases hmem
                | cons c r' =>
                  have hcm : c ∈ abc.cps.toList.filter fun c => !decide ((⟨#[c]⟩ : Str) ∈ ws) := by rw [hf]; exact List.mem_cons_self
                  obtain ⟨hc1, hc2⟩ := List.mem_filter.mp hcm
                  have hc3 : (⟨#[c]⟩ : Str) ∉ ws := by simpa using hc2
                  rw [hf] at hD7
                  exact ⟨Dl, _, 0, _, rfl, rfl, SqL.of hD7, atI_nat (j := 0) rfl, _, rfl, e7, wd_one (abc_mem.mp hc1), hc3, D7⟩
            · rw [decide_eq_false hin]
              exact iteF ⟨w2, rfl, e6, hw2, hin, D6⟩
          · rintro σ H7 ⟨w3, rfl, e7, hw3, hn3, D7⟩
            refine ⟨_, rfl, .inl ⟨rfl, _, SqL.of (e7 _ _ (F1p _))⟩, _, rfl, p, _, _, rfl, rfl, e7 _ _ (F1p _), ?_, ?_⟩
            · rw [List.length_map, sizeLine_eq]
              omega
            · refine ⟨_, _, _, ws ++ [w3], rfl, ?_, ?_, ?_, ?_, ?_⟩
              · rw [List.map_append]
                exact exs e7
              · rw [List.length_append, hlen]
                rfl
              · exact nd_snoc hnd hn3
              · intro x hx
                rcases List.mem_append.mp hx with h' | h'
                · exact hwd x h'
                · rw [List.mem_singleton.mp h']
                  exact hw3
              · exact (D7.upd psa pla (D.cne np)).mono (by omega)
    · rintro σ H2 ⟨y5, y6, y7, ws, rfl, eG, hlen, hnd, hwd, D2⟩
      exact ⟨_, rfl, k p ws H2 np (by omega) hnd hwd (F1x _ _ eG) (eG _ _ (F1p _)) (D2.mono (by omega))⟩
end
end Sn
/-! the laws' own word of an edition: a dict of steps, tells, start -/
namespace Sn
open Evl (Ex)
open PySem L2 LamX
def tkv (ps pt : Addr) (s : Str) : List (Key × V) := [(.inr "steps", .ref ps), (.inr "tells", .ref pt), (.inr "start", .str s)]
theorem tST : ¬ ("steps" : Str) = "tells" := by decide +kernel
theorem tSS : ¬ ("steps" : Str) = "start" := by decide +kernel
theorem tTS : ¬ ("tells" : Str) = "start" := by decide +kernel
theorem tv_steps (ps pt : Addr) (s : Str) : valV (tkv ps pt s) (Sum.inr ("steps" : Str) : Key) = some (.ref ps) := valV_pos rfl
theorem tv_tells (ps pt : Addr) (s : Str) : valV (tkv ps pt s) (Sum.inr ("tells" : Str) : Key) = some (.ref pt) := (valV_neg (kn tST)).trans (valV_pos rfl)
theorem tv_start (ps pt : Addr) (s : Str) : valV (tkv ps pt s) (Sum.inr ("start" : Str) : Key) = some (.str s) := (valV_neg (kn tSS)).trans ((valV_neg (kn tTS)).trans (valV_pos rfl))
theorem tkv_nd : ((tkv ps pt s).map (·.1)).Nodup := by
  show ([Sum.inr "steps", Sum.inr "tells", Sum.inr "start"] : List Key).Nodup
  decide +kernel
def ToldAt (H : Hp) (a : Addr) (st : List StE) (tl : List (Str × Str)) (s : Str) : Prop := ∃ ps pt, H a = some (.dK (tkv ps pt s)) ∧ Stp H ps st ∧ Sts H pt tl
/-- right parts -/
structure TdV (st : List StE) (tl : List (Str × Str)) (s : Str) : Prop where
  V : StV st
  W : TlV st tl
  s : s ∈ st.map (·.1)
  ad : (st.map (·.2.2)).Nodup
section
variable {H H' : Hp} {a sa la ca : Addr} {T : Nat} {st : List StE} {tl : List (Str × Str)} {s : Str}
theorem ToldAt.ex (h : ToldAt H a st tl s) (e : Ex H H') : ToldAt H' a st tl s := by
  obtain ⟨ps, pt, h1, h2, h3⟩ := h
  exact ⟨ps, pt, e _ _ h1, h2.ex e, h3.ex e⟩
theorem ToldAt.exN (h : ToldAt H a st tl s) (e : ExtN H H') : ToldAt H' a st tl s := by
  obtain ⟨ps, pt, h1, h2, h3⟩ := h
  exact ⟨ps, pt, e _ _ h1 (fun _ z => by cases z), h2.exN e, h3.exN e⟩
theorem ToldAt.ns (h : ToldAt H a st tl s) (D : Dr H sa la ca T) : a ≠ sa ∧ a ≠ la := by
  obtain ⟨ps, pt, h1, _, _⟩ := h
  obtain ⟨⟨ls, cs, r, t, x, y, _⟩, _⟩ := D
  refine ⟨fun z => ?_, fun z => ?_⟩
  · rw [z, x] at h1
    have h2 : dkv la ca r t = tkv ps pt s := by injection (Option.some.inj h1)
    exact absurd (congrArg List.length h2) (by simp [dkv, tkv])
  · rw [z, y] at h1
    cases h1
theorem ToldAt.cutE (h : ToldAt H a st tl s) (D : Dr H sa la ca T) (e : Ex (cut H sa la) H') : ToldAt H' a st tl s := by
  have n := h.ns D
  obtain ⟨ps, pt, h1, h2, h3⟩ := h
  exact ⟨ps, pt, cut_to e h1 n.1 n.2, h2.cutE D e, h3.cutE D e⟩
end
/-- dict([(k, pick(..)) for k in ks]) -/
theorem drawn_go {K : PySem.W.Frag} {spP : Sp} {σ : L2.St} {H : Hp} {Q : VK} {j0 j3 j4 n : Nat} {sa la ca p3 p4 : Addr} {T : Nat} {ks ws : List Str} (D0 : Dr H sa la ca T) (hT : T ≤ 1000000) (h0 : (wipe σ [n])[j0]? = some (some (.ref sa))) (h3 : (wipe σ [n])[j3]? = some (some (.ref p3))) (h4 : σ[j4]? = some (some (.ref p4))) (n0 : j0 ≠ n) (n3 : j3 ≠ n) (hn : n < (wipe σ [n]).length)
    (g3 : H p3 = some (.lst (ws.map V.str))) (g4 : H p4 = some (.lst (ks.map V.str))) (s3 : p3 ≠ sa ∧ p3 ≠ la) (s4 : p4 ≠ sa ∧ p4 ≠ la) (w0 : ws ≠ []) (wl : ws.length ≤ 1000) (kl : ks.length ≤ 1000) (kd : ks.Nodup)
    (hP : ∀ (H' : Hp) (Q' : VK) (T' : Nat), Dr H' sa la ca T' → T' ≤ 2000000 → H' p3 = some (.lst (ws.map V.str)) → (∀ x H'', x ∈ ws → Ex (cut H' sa la) H'' → Dr H'' sa la ca (T' + 1) → Q' (.str x) H'') → spP [.ref sa, .ref p3] H' Q' E0)
    (q : ∀ p row H', Ex (cut H sa la) H' → Dr H' sa la ca (T + ks.length) → H p = none → Sts H' p row → row.map (·.1) = ks → (∀ g ∈ row, g.2 ∈ ws) → Q (.ref p) H') :
    tCB (fun xs H_1 Q => ∃ a ps kvs, xs = [V.ref a] ∧ SqL K H_1 a (List.map V.ref ps) ∧ Paired (fun p kv => SqT K H_1 p [kV kv.fst, kv.snd]) ps kvs ∧ ∀ (p : Addr), H_1 p = none → Q (V.ref p) (upd H_1 p (HO.dK (mergeK [] kvs))))
      (tCons (tLc (iList K (tVar j4)) (gName n) tYes (tTup (tCons (tVar n) (tCons (tCall spP [] E0 (tCons (tVar j0) (tCons (tVar j3) tNil))) tNil))) [n]) tNil) σ H Q := by
  refine ⟨_, h4, p4, rfl, ⟨_, SqL.of g4⟩, fun D nD => ?_⟩
  have Dn := D0.sne nD
  have Dl := D0.lne nD
  have toc : ∀ {p : Addr} {o : HO} {H' : Hp}, Ex (cut H sa la) H' → H p = some o → p ≠ sa ∧ p ≠ la → H' p = some o := fun e h n => cut_to e h n.1 n.2
  refine lc_list (xs := ks.map V.str) (fun i H' => ∃ (ps : List Addr) (row : List (Str × Str)), Ex (cut H sa la) H' ∧ Dr H' sa la ca (T + i) ∧ H' D = some (.lst (ps.map V.ref)) ∧ Paired (fun p (kv : Key × V) => H' p = some (.tup [kV kv.1, kv.2])) ps (row.map sKV) ∧ row.map (·.1) = ks.take i ∧ (∀ g ∈ row, g.2 ∈ ws) ∧ ps.length = i) ⟨[], [], ext cut_ex (exn nD), D0.new nD, upd_same, .nil, rfl, fun _ h => (nomatch h), rfl⟩ ?_ ?_ ?_
  · rintro i H' _ ⟨_, _, e1, _⟩
    exact SqL.of (toc e1 g4 s4)
  · rintro i x H' hx ⟨ps, row, e1, D1, h1, pr, ok, gl, pl⟩
    rw [List.getElem?_map] at hx
    cases hz : ks[i]? with
    | none => rw [hz] at hx; cases hx
    | some k =>
      rw [hz] at hx
      obtain rfl : V.str k = x := Option.some.inj hx
      have hi : i < ks.length := (List.getElem?_eq_some_iff.mp hz).1
      have a1 : ((wipe σ [n]).set n (some (.str k)))[n]? = some (some (.str k)) := by simp [List.getElem?_set, hn]
      have a0 : ((wipe σ [n]).set n (some (.str k)))[j0]? = some (some (.ref sa)) := by rw [List.getElem?_set_ne (fun z => n0 z.symm)]; exact h0
      have a3 : ((wipe σ [n]).set n (some (.str k)))[j3]? = some (some (.ref p3)) := by rw [List.getElem?_set_ne (fun z => n3 z.symm)]; exact h3
      refine ⟨wipe_set, _, a1, _, a0, _, a3, ?_⟩
      refine hP H' _ (T + i) D1 (by omega) (toc e1 g3 s3) fun y H2 hy e2 D2 => ⟨by show (2 : Nat) ≤ sizeLine; decide, fun t nt => ?_⟩
      have e3 := exn (o := .tup [.str k, .str y]) nt
      have hD2 : H2 D = some (.lst (ps.map V.ref)) := cut_to e2 h1 Dn Dl
      have tD : t ≠ D := (ne_of_none hD2 nt).symm
      have e12 : Ex (cut H sa la) H2 := ext (cut_up e1 cut_s cut_l) e2
      refine ⟨_, e3 _ _ hD2, by rw [List.length_map, pl, sizeLine_eq]; omega, ps ++ [t], row ++ [(k, y)], ?_, ?_, ?_, ?_, ?_, ?_, ?_⟩
      · refine exm (ext e12 e3) ?_
        unfold cut
        split
        · rfl
        · exact nD
      · exact (D2.new nt).upd Dn Dl (fun z => by
          obtain ⟨⟨_, _, _, _, _, _, c, _⟩, _⟩ := D0
          rw [← z, nD] at c
          cases c)
      · rw [upd_same, List.map_append]; rfl
      · rw [List.map_append]
        refine Paired.snoc (Paired.mapP pr fun p kv h => ?_) ?_
        · have h2 := cut_to e2 h (D1.tn h).1 (D1.tn h).2
          have h' := e3 _ _ h2
          rw [upd_ne (fun z => by rw [z, e3 _ _ hD2] at h'; cases h')]
          exact h'
        · rw [upd_ne tD, upd_same]
          rfl
      · rw [List.map_append, ok, List.take_succ, hz]
        simp
      · intro g hg
        rcases List.mem_append.mp hg with h | h
        · exact gl g h
        · rw [List.mem_singleton.mp h]
          exact hy
      · rw [List.length_append, pl]; rfl
  · rintro H' ⟨ps, row, e1, D1, h1, pr, ok, gl, pl⟩
    rw [List.length_map] at D1 ok
    rw [List.take_length] at ok
    refine ⟨D, ps, row.map sKV, rfl, SqL.of h1, Paired.mapP pr fun p kv h => SqT.of h, fun p np => ?_⟩
    rw [merge_nil (by rw [keysS]; exact nodup_inr (by rw [ok]; exact kd))]
    refine q p row _ (ext e1 (exn np)) (D1.new np) ?_ upd_same ok gl
    have := exb e1 np
    unfold cut at this
    split at this
    · rename_i hp
      rcases hp with rfl | rfl
      · exact absurd rfl (D1.sne np)
      · exact absurd rfl (D1.lne np)
    · exact this
end Sn
namespace Sn
open Evl (Ex)
open PySem L2
section
variable {X : Cx} {P : Program} {w : World} {K : PySem.W.Frag} {mg : Str → Option Value} {base : Heap}
theorem sc_l_led : FnScope ["_law_told", "_law_place", "_law_row_here", "_law_kind"] ["_law_told", "_law_place", "_law_row_here"] (defScope s_l_led) := ⟨rfl, rfl, rfl, by decide +kernel, rfl, by decide +kernel, by decide +kernel⟩
def spLLed (K : PySem.W.Frag) : Sp := fun vs H Q _ => ∃ (a r : Addr) (s s0 : Str) (row : List Str) (st : List StE) (tl : List (Str × Str)), vs = [.ref a, .str s, .ref r] ∧ ToldAt H a st tl s0 ∧ SqT K H r (row.map V.str) ∧ StV st ∧ s ∈ st.map (·.1) ∧ (∀ k ∈ row, k ∈ kinds st) ∧ Q (.str (ledL st s row)) H
theorem ok_lled {f : Addr} {fd : FuncData} (F : Fun K "_law_led" "_law_led" s_l_led f fd) : FnOk P w K mg base CX0 1 f fd ["_law_told", "_law_place", "_law_row_here"] (spLLed K) := by
  refine F.ok sc_l_led (fun vs H Q E h => ?_) (fun cdv A outer s H vs Q E hr h => ?_)
  · obtain ⟨_, _, _, _, _, _, _, rfl, _⟩ := h
    rfl
  · obtain ⟨a, r, s1, s0, row, st, tl, rfl, hE, hr', V, hs, hk, k⟩ := h
    have hu := hu_of hr
    obtain ⟨pe, ps, h1, h2, h3⟩ := hE
    refine ⟨_, (pss_cons (ps_for PassesOwn.never rfl (pi_tup (pv 2)) (pg_name (i := 3) sc_l_led.nd rfl (.inl rfl))
        (pss_one (ps_set (i := 1) sc_l_led.nd rfl (.inl rfl) (dget hu (dget hu (dget hu (pv 0) pe_str) (pv 1)) (pv 3)))))
      (pss_one (ps_ret (pv 1)))), ?_⟩
    refine ⟨_, rfl, r, rfl, ⟨_, hr'⟩, for_tup (xs := row.map L2.V.str) (fun i σ H' => H' = H ∧ ∃ y3, σ = [some (.ref a), some (.str (ledL st s1 (row.take i))), some (.ref r), y3]) ⟨rfl, _, rfl⟩ (fun i σ H' _ h => ?_) (fun i x σ H' hx h => ?_) (fun σ H' h => ?_)⟩
    · obtain ⟨rfl, _⟩ := h
      exact hr'
    · obtain ⟨rfl, y3, rfl⟩ := h
      rw [List.getElem?_map] at hx
      cases hz : row[i]? with
      | none => rw [hz] at hx; cases hx
      | some kd =>
        rw [hz] at hx
        obtain rfl : L2.V.str kd = x := Option.some.inj hx
        have hm : ledL st s1 (row.take i) ∈ st.map (·.1) := ledL_mem V hs fun x hx => hk x (List.mem_of_mem_take hx)
        obtain ⟨e, he, e1, g, hg, e2⟩ := step_in V hm (kinds_ex (hk kd (List.mem_of_getElem? hz)))
        have hl : ledL st s1 (row.take (i + 1)) = g.2 := by
          rw [List.take_succ, hz]
          unfold ledL at e1 ⊢
          rw [Option.toList_some, List.foldl_append]
          show stepL st _ kd = _
          rw [← e1, ← e2]
          exact stepL_at V he hg
        refine ⟨_, rfl, a, .ref pe, rfl, dgr (.inl h1) (tv_steps _ _ _), _, rfl, pe, .ref e.2.2, rfl, dgr (.inl h2.1) ?_, _, rfl, e.2.2, .str g.2, rfl, dgr (.inl (h2.2 e he)) ?_, ?_⟩
        · rw [← e1]; exact valT V.nd he
        · rw [← e2]; exact valS (V.rn e he) hg
        · exact ⟨rfl, _, by rw [hl]; rfl⟩
    · obtain ⟨rfl, y3, rfl⟩ := h
      rw [List.length_map, List.take_length]
      exact ⟨_, rfl, k⟩
theorem sc_l_kinds : FnScope ["_law_told"] ["_law_told"] (defScope s_l_kinds) := ⟨rfl, rfl, rfl, by decide +kernel, rfl, by decide +kernel, by decide +kernel⟩
def spLKinds : Sp := fun vs H Q _ => ∃ (a : Addr) (s0 : Str) (st : List StE) (tl : List (Str × Str)), vs = [.ref a] ∧ ToldAt H a st tl s0 ∧ StV st ∧ s0 ∈ st.map (·.1) ∧
  ∀ p ys H', Ex H H' → H p = none → H' p = some (.lst (ys.map V.str)) → (∀ k, k ∈ ys ↔ k ∈ kinds st) → ys.Nodup → ys ≠ [] → ys.length ≤ 4 → PyProof.Rows.sortedS ys = true → (∀ k ∈ ys, Wd k) → Q (.ref p) H'
theorem ok_lkinds {f : Addr} {fd : FuncData} (F : Fun K "_law_kinds" "_law_kinds" s_l_kinds f fd) (B : Bt mg) : FnOk P w K mg base CX0 1 f fd ["_law_told"] spLKinds := by
  refine F.ok sc_l_kinds (fun vs H Q E h => ?_) (fun cdv A outer s H vs Q E hr h => ?_)
  · obtain ⟨_, _, _, _, rfl, _⟩ := h
    rfl
  · obtain ⟨a, s0, st, tl, rfl, ⟨ps, pt, h1, h2, h3⟩, V, hs, k⟩ := h
    have hu := hu_of hr
    obtain ⟨e0, he0, rfl⟩ := List.mem_map.mp hs
    refine ⟨_, (pss_one (ps_ret (pe_callB (call_sortedD rfl) (by rfl) B.sorted PyProof.Rows.boot_sorted (pa_cons (dget hu (dget hu (pv 0) pe_str) (dget hu (pv 0) pe_str)) pa_nil)))), ?_⟩
    have l4 := V.r1 e0 he0
    refine ⟨_, rfl, a, .ref ps, rfl, dgr (.inl h1) (tv_steps _ _ _), _, rfl, a, .str e0.1, rfl, dgr (.inl h1) (tv_start _ _ _), ps, .ref e0.2.2, rfl, dgr (.inl h2.1) (valT V.nd he0), e0.2.2, _, e0.2.1.map (·.1), rfl, .inl (h2.2 e0 he0), keysS _, by rw [List.length_map]; omega, fun ys p yp yso np => ?_⟩
    have yl : ys.length = e0.2.1.length := by rw [yp.length_eq, List.length_map]
    refine k p ys _ (exn np) np upd_same (fun x => by rw [yp.mem_iff, kinds_at V he0]) (yp.nodup_iff.mpr (V.rn e0 he0)) (fun z => by rw [z] at yl; simp at yl; omega) (by omega) yso fun x hx => ?_
    obtain ⟨g, hg, rfl⟩ := List.mem_map.mp (yp.mem_iff.mp hx)
    exact V.rw_ e0 he0 g hg
theorem sc_l_any_told : FnScope ["_law_state", "_law_most_states", "_law_most_kinds", "_law_states", "_law_kinds_here", "_law_words_here", "_law_steps", "_law_tells", "_law_place", "_law_kind"] ["_law_state", "_law_most_states", "_law_most_kinds"] (defScope s_l_any_told) := ⟨rfl, rfl, rfl, by decide +kernel, rfl, by decide +kernel, by decide +kernel⟩
def spAnyTold : Sp := fun vs H Q _ => ∃ (F : Hp) (sa la ca : Addr) (T : Nat) (ms mk : Int), vs = [.ref sa, .int ms, .int mk] ∧ Ex F H ∧ F sa = none ∧ F la = none ∧ Dr H sa la ca T ∧ T ≤ 900000 ∧ 1 ≤ ms ∧ ms ≤ 5 ∧ 1 ≤ mk ∧ mk ≤ 4 ∧
  ∀ (a : Addr) (st : List StE) (tl : List (Str × Str)) (s0 : Str) (H' : Hp), Ex F H' → Dr H' sa la ca (T + 2000) → H a = none → ToldAt H' a st tl s0 → TdV st tl s0 → (st.length : Int) ≤ ms → (∀ e ∈ st, (e.2.1.length : Int) ≤ mk) → Q (.ref a) H'
theorem ok_any_told {f : Addr} {fd : FuncData} (F : Fun K "_law_any_told" "_law_any_told" s_l_any_told f fd) (B : Bt mg) (cDraw : Cal P w K mg base CX0 1 "_law_draw" ["_law_state", "_law_size"] spDraw)
    (cPick : Cal P w K mg base CX0 2 "_law_pick" ["_law_state", "_law_several"] (spPick K)) (cWords : Cal P w K mg base CX0 3 "_law_words" ["_law_state", "_law_many"] spWords) : FnOk P w K mg base CX0 4 f fd ["_law_state", "_law_most_states", "_law_most_kinds"] spAnyTold := by
  refine F.ok sc_l_any_told (fun vs H Q E h => ?_) (fun cdv A outer s H vs Q E hr h => ?_)
  · obtain ⟨_, _, _, _, _, _, _, rfl, _⟩ := h
    rfl
  · obtain ⟨G, sa, la, ca, T, ms, mk, rfl, eG, n1, n2, D, hT, m1, m2, m3, m4, k⟩ := h
    have hu := hu_of hr
    refine ⟨_, (pss_cons (ps_set (i := 3) sc_l_any_told.nd rfl (.inr rfl) (pcall cWords hr (pa_cons (pv 0) (pa_cons (pe_op op_add pe_int (pcall cDraw (hr.mono (by decide)) (pa_cons (pv 0) (pa_cons (pv 1) pa_nil)))) pa_nil))))
      (pss_cons (ps_set (i := 4) sc_l_any_told.nd rfl (.inl rfl) (pcall cWords hr (pa_cons (pv 0) (pa_cons (pe_op op_add pe_int (pcall cDraw (hr.mono (by decide)) (pa_cons (pv 0) (pa_cons (pv 2) pa_nil)))) pa_nil))))
      (pss_cons (ps_par3 (i := 5) (j := 6) (l := 7) (by rfl) sc_l_any_told.nd rfl rfl rfl (by decide) (by decide) (by decide) rfl rfl rfl (pa_cons (pcall cWords hr (pa_cons (pv 0) (pa_cons (pe_op op_add pe_int (pcall cDraw (hr.mono (by decide)) (pa_cons (pv 0) (pa_cons pe_int pa_nil)))) pa_nil))) (pa_cons pe_dnewK (pa_cons pe_dnewK pa_nil))) (by rfl))
      (pss_cons (ps_for PassesOwn.never rfl (pi_list (pv 3)) (pg_name (i := 8) sc_l_any_told.nd rfl (.inl rfl))
        (pss_cons (ps_dput hu (pv 6) (pv 8) (pe_callTy (call_dictP rfl) (by rfl) B.dict PyProof.Rows.boot_dict (pa_cons (pe_lc (own := [("_law_kind", 9)]) (by rfl) sc_l_any_told.nd (pi_list (pv 4)) (blkOk_by (own := [("_law_kind", 9)]) (N := ["_law_state", "_law_most_states", "_law_most_kinds", "_law_states", "_law_kinds_here", "_law_words_here", "_law_steps", "_law_tells", "_law_place", "_law_kind"]) (sc := defScope s_l_any_told) (by decide +kernel)) (fun _ _ _ _ _ => (pg_name (i := 9) sc_l_any_told.nd rfl (Or.inl rfl))) (fun _ _ _ _ _ => pts_nil) (fun _ _ _ _ _ => (pe_tup (pa_cons (pv 9) (pa_cons (pcall cPick (hr.mono (by decide)) (pa_cons (pv 0) (pa_cons (pv 3) pa_nil))) pa_nil))))) pa_nil)) rfl)
        (pss_one (ps_dput hu (pv 7) (pv 8) (pcall cPick (hr.mono (by decide)) (pa_cons (pv 0) (pa_cons (pv 5) pa_nil))) rfl))))
      (pss_one (ps_ret (pe_disp (pps_cons pe_str (pv 6) (pps_cons pe_str (pv 7) (pps_cons pe_str (pcall cPick (hr.mono (by decide)) (pa_cons (pv 0) (pa_cons (pv 3) pa_nil))) pps_nil))) (by rfl) (by rfl) (fun z => by cases z) (by decide)))))))), ?_⟩
    have wds : ∀ {σ : L2.St} {tm : TE} {m : Int} {H : Hp} {T : Nat} {Q : VK} (h1 : σ[0]? = some (some (.ref sa))) (hm : ∀ H' Q', Q' (.int m) H' → tm σ H' Q') (D : Dr H sa la ca T) (hT : T ≤ 1000000) (m1 : 1 ≤ m) (m2 : m ≤ 6)
        (q : ∀ p ws H', Ex (cut H sa la) H' → Dr H' sa la ca (T + 401) → ws ≠ [] → (ws.length : Int) ≤ m → ws.Nodup → (∀ x ∈ ws, Wd x) → H p = none → H' p = some (.lst (ws.map L2.V.str)) → p ≠ sa ∧ p ≠ la → Q (.ref p) H'),
        tCall spWords [] E0 (tCons (tVar 0) (tCons (tOp (rI0 fun i j => L2.V.int (i + j)) (tC (L2.V.int 1)) (tCall spDraw [] E0 (tCons (tVar 0) (tCons tm tNil)))) tNil)) σ H Q := fun {σ tm m H T Q} h1 hm D hT m1 m2 q => by
      refine ⟨_, h1, _, h1, hm _ _ ⟨cut H sa la, sa, la, ca, T, m, rfl, cut_ex, cut_s, cut_l, D, by omega, by omega, by omega, fun r H1 r0 r1 e1 D1 => ?_⟩⟩
      obtain ⟨n, rfl⟩ := Int.eq_ofNat_of_zero_le r0
      refine ⟨1, (n : Int), rfl, rfl, cut H1 sa la, sa, la, ca, T + 1, 1 + n, by simp, cut_ex, cut_s, cut_l, D1, by omega, by omega, fun p ws H2 np wl wn ww e2 hp D2 => ?_⟩
      refine q p ws H2 (ext (cut_up e1 cut_s cut_l) e2) (D2.mono (by omega)) (fun z => by rw [z] at wl; simp at wl; omega) (by omega) wn ww ?_ hp ⟨D1.sne np, D1.lne np⟩
      have := exb e1 np
      unfold cut at this
      split at this
      · rename_i hh
        rcases hh with rfl | rfl
        · exact absurd rfl (D1.sne np)
        · exact absurd rfl (D1.lne np)
      · exact this
    refine u_asg ?_
    refine wds rfl (fun _ _ h => ⟨_, rfl, h⟩) D (by omega) m1 (by omega) fun p3 ss H3 e3 D3 s0 sl sn sw f3 g3 c3 => ?_
    refine u_asg ?_
    refine wds rfl (fun _ _ h => ⟨_, rfl, h⟩) D3 (by omega) m3 (by omega) fun p4 ks H4 e4 D4 k0 kl kn kw f4 g4 c4 => ?_
    refine u_seq ?_
    refine wds (m := 3) rfl (fun _ _ h => h) D4 (by omega) (by decide) (by decide) fun p5 ws H5 e5 D5 w0 wl wn ww f5 g5 c5 => ?_
    have g4 := cut_to e5 g4 c4.1 c4.2
    have g3 := cut_to e5 (cut_to e4 g3 c3.1 c3.2) c3.1 c3.2
    intro ds nds dt ndt
    refine ⟨_, _, _, rfl, ?_⟩
    have dsn := D5.sne nds
    have dsl := D5.lne nds
    have y1 := exn (o := .dK []) nds
    have D5' := D5.ext y1
    have dtn := D5'.sne ndt
    have dtl := D5'.lne ndt
    have dd : ds ≠ dt := ne_of_none (upd_same (H := H5) (a := ds) (o := .dK [])) ndt
    have ndt5 : H5 dt = none := exb y1 ndt
    have D6 := D5'.ext (exn (o := .dK []) ndt)
    have e6 : Ex (cut H5 sa la) (upd (upd H5 ds (.dK [])) dt (.dK [])) := ext cut_ex (ext y1 (exn ndt))
    have hds6 : upd (upd H5 ds (.dK [])) dt (.dK []) ds = some (.dK []) := by rw [upd_ne dd, upd_same]
    have hdt6 : upd (upd H5 ds (.dK [])) dt (.dK []) dt = some (.dK []) := upd_same
    have H6n : ∀ b, upd (upd H5 ds (.dK [])) dt (.dK []) b = none → H5 b = none := fun b hb => exb (ext y1 (exn ndt)) hb
    generalize upd (upd H5 ds (.dK [])) dt (.dK []) = H6 at D6 e6 hds6 hdt6 H6n ⊢
    have toc : ∀ {p : Addr} {o : HO} {H' : Hp}, Ex (cut H5 sa la) H' → H5 p = some o → p ≠ sa ∧ p ≠ la → H' p = some o := fun e h n => cut_to e h n.1 n.2
    have cn : ∀ {p : Addr}, H5 p = none → cut H5 sa la p = none := fun {p} h => by
      unfold cut
      split
      · rfl
      · exact h
    have kl4 : ks.length ≤ 4 := by omega
    have sl5 : ss.length ≤ 5 := by omega
    have ca5 : ∀ {p : Addr}, H5 p = none → p ≠ ca := fun {p} h z => by
      obtain ⟨⟨_, _, _, _, _, _, c, _⟩, _⟩ := D5
      rw [← z, h] at c
      cases c
    have pk : ∀ {H' : Hp} {Q' : VK} {T' : Nat} {pp : Addr} {zs : List Str}, Dr H' sa la ca T' → T' ≤ 2000000 → H' pp = some (.lst (zs.map L2.V.str)) → pp ≠ sa ∧ pp ≠ la → zs ≠ [] → zs.length ≤ 1000 → (∀ x H'', x ∈ zs → Ex (cut H' sa la) H'' → Dr H'' sa la ca (T' + 1) → Q' (.str x) H'') → spPick K [.ref sa, .ref pp] H' Q' E0 := fun {H' Q' T' pp zs} D' hT' hp np z0 zl q => by
      refine ⟨cut H' sa la, sa, la, ca, T', .ref pp, rfl, cut_ex, cut_s, cut_l, D', by omega, .inl ⟨pp, _, rfl, SqL.of (cut_at hp np.1 np.2), by simpa using z0, by rw [List.length_map]; omega, fun j x H'' hj e'' D'' => ?_⟩⟩
      rw [List.getElem?_map] at hj
      cases hz : zs[j]? with
      | none => rw [hz] at hj; cases hj
      | some y =>
        rw [hz] at hj
        obtain rfl : L2.V.str y = x := Option.some.inj hj
        exact q y H'' (List.mem_of_getElem? hz) e'' D''
    refine u_nx (u_seq ?_)
    refine ⟨_, rfl, p3, rfl, ⟨_, SqL.of (toc e6 g3 c3)⟩, for_list (xs := ss.map L2.V.str) (fun i σ H' => ∃ (y8 y9 : Option L2.V) (st : List StE) (tl : List (Str × Str)), σ = [some (.ref sa), some (.int ms), some (.int mk), some (.ref p3), some (.ref p4), some (.ref p5), some (.ref ds), some (.ref dt), y8, y9] ∧ Ex (cut H5 sa la) H' ∧ Dr H' sa la ca (T + 401 + 401 + 401 + 6 * i) ∧ H' ds = some (.dK (st.map tKV)) ∧ H' dt = some (.dK (tl.map sKV)) ∧ st.map (·.1) = ss.take i ∧ tl.map (·.1) = ss.take i ∧ (∀ e ∈ st, Sts H' e.2.2 e.2.1 ∧ e.2.2 ≠ ds ∧ e.2.2 ≠ dt ∧ e.2.1.map (·.1) = ks ∧ ∀ g ∈ e.2.1, g.2 ∈ ss) ∧ (st.map (·.2.2)).Nodup ∧ (∀ e ∈ tl, e.2 ∈ ws))
      ⟨none, none, [], [], rfl, e6, D6, hds6, hdt6, rfl, rfl, fun _ h => (nomatch h), List.nodup_nil, fun _ h => (nomatch h)⟩ (fun i σ H' _ h => ?_) (fun i x σ H' hx h => ?_) (fun σ H' h => ?_)⟩
    · obtain ⟨_, _, _, _, _, e7, _⟩ := h
      exact SqL.of (toc e7 g3 c3)
    · obtain ⟨y8, y9, st, tl, rfl, e7, D7, hds, hdt, kst, ktl, hrow, nda, hws⟩ := h
      rw [List.getElem?_map] at hx
      cases hz : ss[i]? with
      | none => rw [hz] at hx; cases hx
      | some pl =>
        rw [hz] at hx
        obtain rfl : L2.V.str pl = x := Option.some.inj hx
        have hi : i < ss.length := (List.getElem?_eq_some_iff.mp hz).1
        have sti : st.length = i := by
          have := congrArg List.length kst
          rw [List.length_map, List.length_take] at this
          omega
        have tli : tl.length = i := by
          have := congrArg List.length ktl
          rw [List.length_map, List.length_take] at this
          omega
        have npl : pl ∉ ss.take i := fun hm => by
          obtain ⟨j, hj⟩ := List.mem_iff_getElem?.mp hm
          rw [List.getElem?_take] at hj
          split at hj
          · have := (List.getElem?_inj (List.getElem?_eq_some_iff.mp hj).1 sn).mp (hj.trans hz.symm)
            omega
          · cases hj
        refine u_seq ?_
        refine drawn_go (K := K) (spP := spPick K) (σ := [some (.ref sa), some (.int ms), some (.int mk), some (.ref p3), some (.ref p4), some (.ref p5), some (.ref ds), some (.ref dt), some (.str pl), y9]) (j0 := 0) (j3 := 3) (j4 := 4) (n := 9) (ks := ks) (ws := ss) D7 (by omega) rfl rfl rfl (by decide) (by decide) (by show (9 : Nat) < 10; decide) (toc e7 g3 c3) (toc e7 g4 c4) c3 c4 s0 (by omega) (by omega) kn (fun H8 Q8 T8 D8 hT8 g8 q8 => pk D8 hT8 g8 c3 s0 (by omega) q8) fun p row H8 e8 D8 np hrw hkeys hgl => ?_
        have c8 : ∀ {b : Addr} {o : HO}, H' b = some o → b ≠ sa ∧ b ≠ la → H8 b = some o := fun h n => cut_to e8 h n.1 n.2
        have hds8 := c8 hds ⟨dsn, dsl⟩
        have hdt8 := c8 hdt ⟨dtn, dtl⟩
        have pds : p ≠ ds := fun z => by rw [z, hds] at np; cases np
        have pdt : p ≠ dt := fun z => by rw [z, hdt] at np; cases np
        have row8 : ∀ e ∈ st, Sts H8 e.2.2 e.2.1 := fun e he => (hrow e he).1.cutE D7 e8
        have n8 : (Sum.inr pl : Key) ∉ (st.map tKV).map (·.1) := by
          rw [keysT, kst]
          intro z
          obtain ⟨a, ha, e⟩ := List.mem_map.mp z
          cases e
          exact npl ha
        refine ⟨_, rfl, _, rfl, ds, _, rfl, dp hds8 (by rw [List.length_map, sizeLine_eq]; omega) (putK_new _ (valV_no n8)), ?_⟩
        have e58 : Ex (cut H5 sa la) H8 := ext (cut_up e7 cut_s cut_l) e8
        have e9 : Ex (cut H5 sa la) (upd H8 ds (.dK (st.map tKV ++ [(Sum.inr pl, .ref p)]))) := exm e58 (cn nds)
        have D9 : Dr (upd H8 ds (.dK (st.map tKV ++ [(Sum.inr pl, .ref p)]))) sa la ca _ := D8.upd (o := .dK (st.map tKV ++ [(Sum.inr pl, .ref p)])) dsn dsl (ca5 nds)
        have hds9 := upd_same (H := H8) (a := ds) (o := .dK (st.map tKV ++ [(Sum.inr pl, .ref p)]))
        have off9 : ∀ {b : Addr} {o : HO}, b ≠ ds → H8 b = some o → upd H8 ds (.dK (st.map tKV ++ [(Sum.inr pl, .ref p)])) b = some o := fun n h => by rw [upd_ne n]; exact h
        have hdt9 := off9 dd.symm hdt8
        have hp9 : Sts _ p row := off9 pds hrw
        have row9 : ∀ e ∈ st, Sts (upd H8 ds (.dK (st.map tKV ++ [(Sum.inr pl, .ref p)]))) e.2.2 e.2.1 := fun e he => off9 (hrow e he).2.1 (row8 e he)
        generalize upd H8 ds (.dK (st.map tKV ++ [(Sum.inr pl, .ref p)])) = H9 at e9 D9 hds9 hdt9 hp9 row9 ⊢
        refine u_nx ?_
        refine ⟨_, rfl, _, rfl, pk D9 (by omega) (toc e9 g5 c5) c5 w0 (by omega) fun y HA hy eA DA => ?_⟩
        have cA : ∀ {b : Addr} {o : HO}, H9 b = some o → b ≠ sa ∧ b ≠ la → HA b = some o := fun h n => cut_to eA h n.1 n.2
        have hdsA := cA hds9 ⟨dsn, dsl⟩
        have hdtA := cA hdt9 ⟨dtn, dtl⟩
        have nA : (Sum.inr pl : Key) ∉ (tl.map sKV).map (·.1) := by
          rw [keysS, ktl]
          intro z
          obtain ⟨a, ha, e⟩ := List.mem_map.mp z
          cases e
          exact npl ha
        refine ⟨_, rfl, _, rfl, dt, _, rfl, dp hdtA (by rw [List.length_map, sizeLine_eq]; omega) (putK_new _ (valV_no nA)), ?_⟩
        refine ⟨_, _, st ++ [(pl, row, p)], tl ++ [(pl, y)], rfl, exm (ext (cut_up e9 cut_s cut_l) eA) (cn ndt5), (DA.upd dtn dtl (ca5 ndt5)).mono (by omega), ?_, ?_, ?_, ?_, fun e he => ?_, ?_, fun e he => ?_⟩
        · rw [upd_ne dd, hdsA, List.map_append]
          rfl
        · rw [upd_same, List.map_append]
          rfl
        · rw [List.map_append, kst, List.take_succ, hz]
          rfl
        · rw [List.map_append, ktl, List.take_succ, hz]
          rfl
        · rcases List.mem_append.mp he with h | h
          · obtain ⟨a1, a2, a3, a4, a5⟩ := hrow e h
            refine ⟨?_, a2, a3, a4, a5⟩
            unfold Sts
            rw [upd_ne a3]
            exact (row9 e h).cutE D9 eA
          · rw [List.mem_singleton.mp h]
            refine ⟨?_, pds, pdt, hkeys, hgl⟩
            unfold Sts
            rw [upd_ne pdt]
            exact hp9.cutE D9 eA
        · rw [List.map_append]
          refine List.nodup_append.mpr ⟨nda, by simp, fun a ha b hb z => ?_⟩
          obtain ⟨e, he, rfl⟩ := List.mem_map.mp ha
          have : b = p := by simpa using hb
          rw [← z] at this
          have h1 := (hrow e he).1
          unfold Sts at h1
          rw [this, np] at h1
          cases h1
        · rcases List.mem_append.mp he with h | h
          · exact hws e h
          · rw [List.mem_singleton.mp h]
            exact hy
    · obtain ⟨y8, y9, st, tl, rfl, e7, D7, hds, hdt, kst, ktl, hrow, nda, hws⟩ := h
      rw [List.length_map] at D7
      rw [List.length_map, List.take_length] at kst ktl
      intro a na
      have x8 := exn (o := .dK []) na
      have D8 := D7.ext x8
      have asn := D7.sne na
      have asl := D7.lne na
      refine ⟨_, rfl, _, rfl, _, rfl, _, rfl, pk D8 (by omega) (x8 _ _ (toc e7 g3 c3)) c3 s0 (by omega) fun y H9 hy e9 D9 => ?_⟩
      have c9 : ∀ {b : Addr} {o : HO}, H' b = some o → b ≠ sa ∧ b ≠ la → H9 b = some o := fun h n => cut_to e9 (x8 _ _ h) n.1 n.2
      have ha9 : H9 a = some (.dK []) := cut_to e9 upd_same asn asl
      refine ⟨ha9, tkv ds dt y, rfl, by simp [tkv], ?_⟩
      rw [merge_nil (show (((tkv ds dt y).map (·.1)).Nodup) from tkv_nd)]
      have off : ∀ {b : Addr} {o : HO}, H' b = some o → b ≠ sa ∧ b ≠ la → upd H9 a (.dK (tkv ds dt y)) b = some o := fun {b o} h n => by
        rw [upd_ne (ne_of_none h na)]
        exact c9 h n
      have st5 : st.length ≤ 5 := by
        have := congrArg List.length kst
        rw [List.length_map] at this
        omega
      have V : StV st := by
        refine ⟨?_, st5, by rw [kst]; exact sn, fun e he => sw _ (by rw [← kst]; exact List.mem_map_of_mem he), fun e he => ?_, fun e he => by rw [(hrow e he).2.2.2.1]; exact kn, fun e he g hg => kw _ (by rw [← (hrow e he).2.2.2.1]; exact List.mem_map_of_mem hg), fun e he f hf x => by rw [(hrow e he).2.2.2.1, (hrow f hf).2.2.2.1], fun e he g hg => by rw [kst]; exact (hrow e he).2.2.2.2 g hg⟩
        · have := congrArg List.length kst
          rw [List.length_map] at this
          have := List.length_pos_iff.mpr s0
          omega
        · have := congrArg List.length (hrow e he).2.2.2.1
          rw [List.length_map] at this
          have := List.length_pos_iff.mpr k0
          omega
      have W : TlV st tl := ⟨by rw [ktl]; exact sn, fun e he => ww _ (hws e he), fun x => by rw [ktl, kst]⟩
      have eE : Ex G H' := ext (cut_up (ext (cut_up (ext (cut_up (ext (cut_up eG n1 n2) e3) n1 n2) e4) n1 n2) e5) n1 n2) e7
      refine k a st tl y _ (fun b o hb => off (eE _ _ hb) ⟨ne_of_none hb n1, ne_of_none hb n2⟩) ((D9.upd asn asl (fun z => ?_)).mono (by omega)) ?_ ⟨ds, dt, upd_same, ⟨off hds ⟨dsn, dsl⟩, fun e he => ?_⟩, off hdt ⟨dtn, dtl⟩⟩ ⟨V, W, by rw [kst]; exact hy, nda⟩ ?_ fun e he => ?_
      · obtain ⟨⟨_, _, _, _, _, _, c, _⟩, _⟩ := D7
        rw [← z, na] at c
        cases c
      · have a7 := exb e7 na
        have a5 : H5 a = none := by
          unfold cut at a7
          split at a7
          · rename_i hh
            rcases hh with rfl | rfl
            · exact absurd rfl asn
            · exact absurd rfl asl
          · exact a7
        have un : ∀ {HH HK : Hp}, Ex (cut HH sa la) HK → HK a = none → HH a = none := fun {HH HK} e h => by
          have q := exb e h
          unfold cut at q
          rw [if_neg (fun z => z.elim asn asl)] at q
          exact q
        exact un e3 (un e4 (un e5 a5))
      · obtain ⟨a1, _⟩ := hrow e he
        have nn := a1.ns D7
        exact off a1 nn
      · have := congrArg List.length kst
        rw [List.length_map] at this
        omega
      · have := congrArg List.length (hrow e he).2.2.2.1
        rw [List.length_map] at this
        omega
end
end Sn
namespace Sn
open Evl (Ex)
open PySem L2
structure MakE (P : Program) (w : World) (K : PySem.W.Frag) (mg : Str → Option Value) (base : Heap) (CE : Addr) : Prop where
  ex : ∃ (f : Addr) (fd : FuncData), Mk K CE f ∧ FnOk P w K mg base (L2.CX P w) 4 f fd ["self", "steps", "tells", "start"] (spInitE CE) ∧ Binds K fd ["self", "steps", "tells", "start"] [] ∧ mg "Edition" = some (.ref CE)
section
variable {X : Cx} {CE : Addr} {E : XK}
theorem pmkE {e1 e2 e3 : Expr} {p pos : Pos} {t : TA} (M : MakE X.prog X.w X.K X.mg X.base CE) (tk : Takes X (fun cls d _ H' => E cls d H')) (hr : Room 5 X.A) (ha : PA X [e1, e2, e3] t) (hg : Gl X "Edition" := by rfl)
    (he : starEach (e1 :: [e2, e3]) X.env = (false, eval e1 X.env) :: starEach [e2, e3] X.env := by rfl) (hpl : (backTo pos (starEach [e2, e3] X.env)).any (·.1) = false := by rfl) : PE X (.Call (.Name "Edition" p) [e1, e2, e3] [] pos) (tMake CE (spInitE CE) [] E t) := by
  obtain ⟨f, fd, k, F, b, m⟩ := M.ex
  exact pe_make k F hr hg m b .nil (passes_call tk fun _ _ _ _ h => h) ha (by decide) he hpl
theorem mkE {H : Hp} {Q : VK} {p q : Addr} {s : Str} {st : List StE} {tl : List (Str × Str)} (hp : Stp H p st) (hq : Sts H q tl) (t : TdV st tl s)
    (k : ∀ (x : Addr) (H' : Hp) (st' : List StE) (tl' : List (Str × Str)), H x = none → Ex H H' → EdAt CE H' x st' tl' s → SrtT st st' → SrtS tl tl' → Q (.ref x) H') :
    ∀ x dx, H x = none → H dx = none → dx ≠ x → spInitE CE (.ref x :: ([.ref p, .ref q, .str s] ++ [])) (upd (upd H dx (.own x)) x (.ins CE dx [])) (fun v H2 => v = .non ∧ Q (.ref x) H2) E := fun x dx n1 n2 n3 => by
  have e1 : Ex H (upd (upd H dx (.own x)) x (.ins CE dx [])) := fun b o h => by
    rw [upd_ne (ne_of_none h n1), upd_ne (ne_of_none h n2)]
    exact h
  exact ⟨x, dx, p, q, st, tl, s, rfl, upd_same, hp.ex e1, t.ad, hq.ex e1, t.V, t.W, t.s, fun H' pe ps st' tl' kp ha hE hS s1 s2 => ⟨rfl, k x H' st' tl' n1 (fun b o h => kp b o (ne_of_none h n1) (e1 _ _ h)) ⟨dx, pe, ps, ha, hE, hS⟩ s1 s2⟩⟩
end
theorem pair_rev {α β : Type} {F : α → β → Prop} : ∀ {l : List α} {m : List β}, Paired F l m → Paired F l.reverse m.reverse
  | _, _, .nil => .nil
  | _, _, .cons h t => by
    rw [List.reverse_cons, List.reverse_cons]
    exact Paired.snoc (pair_rev t) h
theorem u_ret {te : TE} {D : Ends} {σ : L2.St} {H : Hp} (h : te σ H D.rt) : tRet te D σ H := h
theorem make3 {C : Addr} {sp : Sp} {E : XK} {t1 t2 t3 : TE} {σ : L2.St} {H : Hp} {Q : VK} (h : t1 σ H fun x H1 => t2 σ H1 fun y H2 => t3 σ H2 fun z H3 => ∀ a dx, H3 a = none → H3 dx = none → dx ≠ a → sp (.ref a :: ([x, y, z] ++ [])) (upd (upd H3 dx (.own a)) a (.ins C dx [])) (fun v H4 => v = .non ∧ Q (.ref a) H4) E) : tMake C sp [] E (tCons t1 (tCons t2 (tCons t3 tNil))) σ H Q := h
section
variable {P : Program} {w : World} {K : PySem.W.Frag} {mg : Str → Option Value} {base : Heap}
theorem sc_l_edition : FnScope ["_law_told", "_law_steps", "_law_place", "_law_row_here"] ["_law_told"] (defScope s_l_edition) := ⟨rfl, rfl, rfl, by decide +kernel, rfl, by decide +kernel, by decide +kernel⟩
def spLEd (CE : Addr) : Sp := fun vs H Q _ => ∃ (a : Addr) (s0 : Str) (st : List StE) (tl : List (Str × Str)), vs = [.ref a] ∧ ToldAt H a st tl s0 ∧ TdV st tl s0 ∧
  ∀ b st' tl' H', Ex H H' → H b = none → EdAt CE H' b st' tl' s0 → SrtT st st' → SrtS tl tl' → Q (.ref b) H'
theorem ok_lEd {f CE : Addr} {fd : FuncData} (F : Fun K "_law_edition" "_law_edition" s_l_edition f fd) (B : Bt mg) (M : MakE P w K mg base CE) : FnOk P w K mg base CX0 6 f fd ["_law_told"] (spLEd CE) := by
  refine F.ok sc_l_edition (fun vs H Q E h => ?_) (fun cdv A outer s H vs Q E hr h => ?_)
  · obtain ⟨_, _, _, _, rfl, _⟩ := h
    rfl
  · obtain ⟨a, s0, st, tl, rfl, ⟨ps, pt, h1, h2, h3⟩, td, k⟩ := h
    have hu := hu_of hr
    have V := td.V
    refine ⟨_, (pss_cons (ps_set (i := 1) sc_l_edition.nd rfl (.inl rfl) pe_dnewK)
      (pss_cons (ps_for PassesOwn.never rfl (pi_list (pe_revL (pe_callTy (call_listD rfl) (by rfl) B.list PyProof.Rows.boot_list (pa_cons (dget hu (pv 0) pe_str) pa_nil)))) (pg_name (i := 2) sc_l_edition.nd rfl (.inl rfl))
        (pss_cons (ps_set (i := 3) sc_l_edition.nd rfl (.inl rfl) (dget hu (dget hu (pv 0) pe_str) (pv 2)))
        (pss_one (ps_dput hu (pv 1) (pv 2) (pe_ifExp (pt_cmpR op_eq (pe_op op_mod (pe_callB call_lenD (by rfl) B.len PySem.boot_len (pa_cons (pv 1) pa_nil)) pe_int) pe_int (nomark _)) (pe_callTy (call_dictP rfl) (by rfl) B.dict PyProof.Rows.boot_dict (pa_cons (pe_revL (pe_listItems (by rfl) (pv 3) (by rfl) B.list PyProof.Rows.boot_list)) pa_nil)) (pv 3)) rfl))))
      (pss_one (ps_ret (pmkE M L2.takes0 hr (pa_cons (pv 1) (pa_cons (dget hu (pv 0) pe_str) (pa_cons (dget hu (pv 0) pe_str) pa_nil)))))))), ?_⟩
    intro d nd
    have x1 := exn (o := .dK []) nd
    have hd1 := upd_same (H := H) (a := d) (o := .dK [])
    have H1n : ∀ b, upd H d (.dK []) b = none → H b = none := fun b hb => exb x1 hb
    generalize upd H d (.dK []) = H1 at x1 hd1 H1n ⊢
    have g1 := x1 _ _ h1
    have s1 := h2.ex x1
    refine u_nx (u_seq ?_)
    refine ⟨_, rfl, a, .ref ps, rfl, dgr (.inl g1) (tv_steps _ _ _), ps, _, rfl, .inl s1.1, fun q1 m1 => ?_⟩
    have ek : ((st.map tKV).map fun kv => kV kv.1) = (st.map (·.1)).map L2.V.str := kv_strs st
    rw [ek]
    refine ⟨q1, _, rfl, SqL.of upd_same, fun q2 m2 => ?_⟩
    have er : ((st.map (·.1)).map L2.V.str).reverse = ((st.map (·.1)).reverse).map L2.V.str := by rw [List.map_reverse]
    rw [er] at *
    have x2 := exn (o := .lst ((st.map (·.1)).map L2.V.str)) m1
    have x3 := exn (o := .lst (((st.map (·.1)).reverse).map L2.V.str)) m2
    have r3 := upd_same (H := upd H1 q1 (.lst ((st.map (·.1)).map L2.V.str))) (a := q2) (o := .lst (((st.map (·.1)).reverse).map L2.V.str))
    have x13 := ext x1 (ext x2 x3)
    have hd3 := (ext x2 x3) _ _ hd1
    have H3n : ∀ b, upd (upd H1 q1 (.lst ((st.map (·.1)).map L2.V.str))) q2 (.lst (((st.map (·.1)).reverse).map L2.V.str)) b = none → H b = none := fun b hb => exb x13 hb
    generalize upd (upd H1 q1 (.lst ((st.map (·.1)).map L2.V.str))) q2 (.lst (((st.map (·.1)).reverse).map L2.V.str)) = H3 at r3 x13 hd3 H3n ⊢
    have xs_nd : (st.map (·.1)).reverse.Nodup := (List.reverse_perm _).nodup_iff.mpr V.nd
    have n5 := V.n5
    -- the heap without the new dict grows
    have keep : ∀ {H' : Hp}, (∀ b o, b ≠ d → H3 b = some o → H' b = some o) → ∀ {b : Addr} {o : HO}, H b = some o → H' b = some o := fun {_} h {b o} hb => h b o (ne_of_none hb nd) (x13 _ _ hb)
    have q2d : q2 ≠ d := fun z => by rw [z, hd3] at r3; cases r3
    refine ⟨q2, rfl, ⟨_, SqL.of r3⟩, for_list (xs := ((st.map (·.1)).reverse).map L2.V.str) (fun i σ H' => ∃ (y2 y3 : Option L2.V) (st2 : List StE), σ = [some (.ref a), some (.ref d), y2, y3] ∧ (∀ b o, b ≠ d → H3 b = some o → H' b = some o) ∧ H' d = some (.dK (st2.map tKV)) ∧ st2.map (·.1) = ((st.map (·.1)).reverse).take i ∧ (∀ e2 ∈ st2, Sts H' e2.2.2 e2.2.1 ∧ e2.2.2 ≠ d ∧ ∃ e ∈ st, e.1 = e2.1 ∧ (e2.2 = e.2 ∨ (e2.2.1 = e.2.1.reverse ∧ H e2.2.2 = none))) ∧ (st2.map (·.2.2)).Nodup)
      ⟨none, none, [], rfl, fun _ _ _ h => h, hd3, rfl, fun _ h => (nomatch h), List.nodup_nil⟩ (fun i σ H' _ h => ?_) (fun i x σ H' hx h => ?_) (fun σ H' h => ?_)⟩
    · obtain ⟨_, _, _, _, kp, _⟩ := h
      exact SqL.of (kp _ _ q2d r3)
    · obtain ⟨y2, y3, st2, rfl, kp, hd, ks2, hrow, nda⟩ := h
      rw [List.getElem?_map] at hx
      cases hz : ((st.map (·.1)).reverse)[i]? with
      | none => rw [hz] at hx; cases hx
      | some pl =>
        rw [hz] at hx
        obtain rfl : L2.V.str pl = x := Option.some.inj hx
        have hi : i < (st.map (·.1)).reverse.length := (List.getElem?_eq_some_iff.mp hz).1
        have hi' : i < st.length := by simpa using hi
        have npl : pl ∉ ((st.map (·.1)).reverse).take i := fun hm => by
          obtain ⟨j, hj⟩ := List.mem_iff_getElem?.mp hm
          rw [List.getElem?_take] at hj
          split at hj
          · have := (List.getElem?_inj (List.getElem?_eq_some_iff.mp hj).1 xs_nd).mp (hj.trans hz.symm)
            omega
          · cases hj
        have hm : pl ∈ st.map (·.1) := List.mem_reverse.mp (List.mem_of_getElem? hz)
        obtain ⟨e, he, rfl⟩ := List.mem_map.mp hm
        have ha' : H' a = some (.dK (tkv ps pt s0)) := keep kp h1
        have hs' : H' ps = some (.dK (st.map tKV)) := keep kp h2.1
        have hr' : H' e.2.2 = some (.dK (e.2.1.map sKV)) := keep kp (h2.2 e he)
        have len2 : st2.length = i := by
          have := congrArg List.length ks2
          rw [List.length_map, List.length_take] at this
          omega
        have edn : e.2.2 ≠ d := ne_of_none (h2.2 e he) nd
        have n8 : (Sum.inr e.1 : Key) ∉ (st2.map tKV).map (·.1) := by
          rw [keysT, ks2]
          intro z
          obtain ⟨b, hb, e'⟩ := List.mem_map.mp z
          cases e'
          exact npl hb
        have nold : e.2.2 ∉ st2.map (·.2.2) := fun z => by
          obtain ⟨e2, he2, z2⟩ := List.mem_map.mp z
          obtain ⟨_, _, e3, he3, k3, c⟩ := hrow e2 he2
          rcases c with c | ⟨_, c⟩
          · have : e3 = e := by
              have ha3 : e3.2.2 = e.2.2 := by rw [← c]; exact z2
              have gen : ∀ {l : List StE}, (l.map (·.2.2)).Nodup → ∀ {x y : StE}, x ∈ l → y ∈ l → x.2.2 = y.2.2 → x = y := by
                intro l
                induction l with
                | nil => intro _ _ _ h; cases h
                | cons b r ih =>
                  intro hn x y hx hy hxy
                  rw [List.map_cons, List.nodup_cons] at hn
                  rcases List.mem_cons.mp hx with zx | hx'
                  · rcases List.mem_cons.mp hy with zy | hy'
                    · rw [zx, zy]
                    · exact absurd (by rw [← zx, hxy]; exact List.mem_map_of_mem hy') hn.1
                  · rcases List.mem_cons.mp hy with zy | hy'
                    · exact absurd (by rw [← zy, ← hxy]; exact List.mem_map_of_mem hx') hn.1
                    · exact ih hn.2 hx' hy' hxy
              exact gen td.ad he3 he ha3
            subst this
            exact npl (by rw [← ks2, k3]; exact List.mem_map_of_mem he2)
          · have := h2.2 e he
            unfold Sts at this
            rw [z2] at c
            rw [c] at this
            cases this
        refine u_asg ?_
        refine ⟨_, rfl, a, .ref ps, rfl, dgr (.inl ha') (tv_steps _ _ _), _, rfl, ps, .ref e.2.2, rfl, dgr (.inl hs') (valT V.nd he), ?_⟩
        refine ⟨_, rfl, d, _, rfl, hd, _, 2, rfl, rfl, by show (0 : Int) < 2; decide, rfl, _, rfl, ?_⟩
        -- the row as it is, or turned about
        have put : ∀ {HH : Hp} {p : Addr} {row : List (Str × Str)}, (∀ b o, b ≠ d → H' b = some o → HH b = some o) → HH d = some (.dK (st2.map tKV)) → Sts HH p row → p ≠ d → p ∉ st2.map (·.2.2) → ((row, p) = e.2 ∨ (row = e.2.1.reverse ∧ H p = none)) →
            ∃ (y2 y3 : Option L2.V) (st2' : List StE), [some (.ref a), some (.ref d), some (.str e.1), some (.ref e.2.2)] = [some (.ref a), some (.ref d), y2, y3] ∧ (∀ b o, b ≠ d → H3 b = some o → upd HH d (.dK (st2.map tKV ++ [(Sum.inr e.1, .ref p)])) b = some o) ∧ upd HH d (.dK (st2.map tKV ++ [(Sum.inr e.1, .ref p)])) d = some (.dK (st2'.map tKV)) ∧ st2'.map (·.1) = ((st.map (·.1)).reverse).take (i + 1) ∧ (∀ e2 ∈ st2', Sts (upd HH d (.dK (st2.map tKV ++ [(Sum.inr e.1, .ref p)]))) e2.2.2 e2.2.1 ∧ e2.2.2 ≠ d ∧ ∃ e ∈ st, e.1 = e2.1 ∧ (e2.2 = e.2 ∨ (e2.2.1 = e.2.1.reverse ∧ H e2.2.2 = none))) ∧ (st2'.map (·.2.2)).Nodup := fun {HH p row} kp' hd' hp' pd pn c => by
          refine ⟨_, _, st2 ++ [(e.1, row, p)], rfl, fun b o n h => by rw [upd_ne n]; exact kp' b o n (kp b o n h), by rw [upd_same, List.map_append]; rfl, by rw [List.map_append, ks2, List.take_succ, hz]; rfl, fun e2 he2 => ?_, ?_⟩
          · rcases List.mem_append.mp he2 with h | h
            · obtain ⟨a1, a2, a3⟩ := hrow e2 h
              refine ⟨?_, a2, a3⟩
              unfold Sts
              rw [upd_ne a2]
              exact kp' _ _ a2 a1
            · rw [List.mem_singleton.mp h]
              refine ⟨?_, pd, e, he, rfl, c⟩
              unfold Sts
              rw [upd_ne pd]
              exact hp'
          · rw [List.map_append]
            refine List.nodup_append.mpr ⟨nda, by simp, fun x hx y hy z => ?_⟩
            have : y = p := by simpa using hy
            exact pn (by rw [← this, ← z]; exact hx)
        by_cases hz2 : L2.V.int ((((st2.map tKV).length : Nat) : Int) % 2) = L2.V.int 1
        · rw [decide_eq_true hz2]
          refine iteT ?_
          refine ⟨_, rfl, e.2.2, _, rfl, hr', fun p1 ps1 HH y1 np1 g1 pr1 => ?_⟩
          refine ⟨p1, _, rfl, SqL.of g1, fun p2 np2 => ?_⟩
          rw [show (ps1.map L2.V.ref).reverse = ps1.reverse.map L2.V.ref from by rw [List.map_reverse]]
          have y2' := exn (o := .lst (ps1.reverse.map L2.V.ref)) np2
          refine ⟨p2, ps1.reverse, (e.2.1.map sKV).reverse, rfl, SqL.of upd_same, Paired.mapP (pair_rev pr1) fun b kv h => SqT.of (y2' _ _ h), fun p3 np3 => ?_⟩
          rw [show (e.2.1.map sKV).reverse = e.2.1.reverse.map sKV from by rw [List.map_reverse], merge_nil (by rw [keysS]; exact nodup_inr (by rw [List.map_reverse]; exact (List.reverse_perm _).nodup_iff.mpr (V.rn e he)))]
          have y3' := exn (o := .dK (e.2.1.reverse.map sKV)) np3
          have yy := ext y1 (ext y2' y3')
          have pn' : H' p3 = none := exb (ext y1 y2') np3
          have hdd := yy _ _ hd
          refine ⟨_, rfl, _, rfl, d, _, rfl, dp hdd (by rw [List.length_map, sizeLine_eq]; omega) (putK_new _ (valV_no n8)), ?_⟩
          have pd : p3 ≠ d := fun z => by rw [z, hd] at pn'; cases pn'
          refine put (fun b o _ h => yy _ _ h) hdd upd_same pd (fun z => ?_) (.inr ⟨rfl, ?_⟩)
          · obtain ⟨e2, he2, z2⟩ := List.mem_map.mp z
            have := (hrow e2 he2).1
            unfold Sts at this
            rw [z2, pn'] at this
            cases this
          · cases hq : H p3 with
            | none => rfl
            | some o =>
              have := keep kp hq
              rw [pn'] at this
              cases this
        · rw [decide_eq_false hz2]
          refine iteF ⟨_, rfl, _, rfl, _, rfl, d, _, rfl, dp hd (by rw [List.length_map, sizeLine_eq]; omega) (putK_new _ (valV_no n8)), ?_⟩
          exact put (fun _ _ _ h => h) hd hr' edn nold (.inl rfl)
    · obtain ⟨y2, y3, st2, rfl, kp, hd, ks2, hrow, nda⟩ := h
      rw [List.length_map, List.take_length] at ks2
      have ha' : H' a = some (.dK (tkv ps pt s0)) := keep kp h1
      have hs' : H' pt = some (.dK (tl.map sKV)) := keep kp h3
      have l2 : st2.length = st.length := by
        have := congrArg List.length ks2
        simpa using this
      have inr : ∀ e2 ∈ st2, ∃ e ∈ st, e.1 = e2.1 ∧ e2.2.1.Perm e.2.1 := fun e2 he2 => by
        obtain ⟨_, _, e, he, k1, c⟩ := hrow e2 he2
        refine ⟨e, he, k1, ?_⟩
        rcases c with c | ⟨c, _⟩
        · rw [c]
        · rw [c]; exact List.reverse_perm _
      have km : ∀ x, x ∈ st2.map (·.1) ↔ x ∈ st.map (·.1) := fun x => by rw [ks2, List.mem_reverse]
      have V2 : StV st2 := by
        refine ⟨by rw [l2]; exact V.n1, by omega, by rw [ks2]; exact xs_nd, fun e2 he2 => ?_, fun e2 he2 => ?_, fun e2 he2 => ?_, fun e2 he2 g hg => ?_, fun e2 he2 f2 hf2 x => ?_, fun e2 he2 g hg => ?_⟩
        · obtain ⟨e, he, k1, _⟩ := inr e2 he2
          rw [← k1]; exact V.wd e he
        · obtain ⟨e, he, k1, pm⟩ := inr e2 he2
          rw [pm.length_eq]; exact V.r1 e he
        · obtain ⟨e, he, k1, pm⟩ := inr e2 he2
          exact (pm.map (·.1)).nodup_iff.mpr (V.rn e he)
        · obtain ⟨e, he, k1, pm⟩ := inr e2 he2
          exact V.rw_ e he g (pm.mem_iff.mp hg)
        · obtain ⟨e, he, k1, pm⟩ := inr e2 he2
          obtain ⟨f', hf', k2, pm2⟩ := inr f2 hf2
          rw [(pm.map (·.1)).mem_iff, (pm2.map (·.1)).mem_iff]
          exact V.same e he f' hf' x
        · obtain ⟨e, he, k1, pm⟩ := inr e2 he2
          exact (km _).mpr (V.goal e he g (pm.mem_iff.mp hg))
      have W2 : TlV st2 tl := ⟨td.W.nd, td.W.wd, fun x => by rw [td.W.ks, km]⟩
      refine u_nx (u_ret (make3 ?_))
      refine ⟨_, rfl, _, rfl, a, .ref pt, rfl, dgr (.inl ha') (tv_tells _ _ _), _, rfl, a, .str s0, rfl, dgr (.inl ha') (tv_start _ _ _), ?_⟩
      refine mkE (CE := CE) (E := fun _ _ _ => False) (Q := Q) (st := st2) (tl := tl) ⟨hd, fun e2 he2 => (hrow e2 he2).1⟩ hs' ⟨V2, W2, (km _).mpr td.s, nda⟩ fun b H9 st' tl' nb x9 E9 z1 z2 => ?_
      have xH : Ex H H' := fun b o h => keep kp h
      refine k b st' tl' H9 (ext xH x9) (exb xH nb) E9 ⟨z1.pm.trans (by rw [ks2]; exact List.reverse_perm _), z1.so, fun e' he' => ?_⟩ z2
      obtain ⟨e2, he2, k2, sr⟩ := z1.sub e' he'
      obtain ⟨e, he, k1, pm⟩ := inr e2 he2
      exact ⟨e, he, k1.trans k2, ⟨sr.pm.trans (pm.map _), sr.so, fun g hg => pm.mem_iff.mp (sr.sub g hg)⟩⟩
end
end Sn
/-! other values, by kind; methods that raise; lambdas' bodies -/
namespace Sn
open Evl (Ex)
open PySem L2 LamX
inductive Tag where
  | non | int | bl | str (s : Str) | tup | lst | dct | ins
  deriving DecidableEq
def OV (C : Addr) (H : Hp) (x : V) : Tag → Prop
  | .non => x = .non
  | .int => ∃ i, x = .int i
  | .bl => ∃ b, x = .bl b
  | .str s => x = .str s
  | .tup => ∃ p xs, x = .ref p ∧ H p = some (.tup xs)
  | .lst => ∃ p xs, x = .ref p ∧ H p = some (.lst xs)
  | .dct => ∃ p xs, x = .ref p ∧ H p = some (.dK xs)
  | .ins => ∃ p dx fs, x = .ref p ∧ H p = some (.ins C dx fs)
section
variable {K : PySem.W.Frag} {C : Addr} {H H' : Hp} {x : V}
theorem OV.map {tg : Tag} (h : OV C H x tg) (k : ∀ p o, x = .ref p → H p = some o → (∀ ps, o ≠ .tbl ps) → H' p = some o) : OV C H' x tg := by
  cases tg with
  | non => exact h
  | int => exact h
  | bl => exact h
  | str s => exact h
  | tup => obtain ⟨p, xs, rfl, h⟩ := h; exact ⟨p, xs, rfl, k _ _ rfl h (fun _ z => by cases z)⟩
  | lst => obtain ⟨p, xs, rfl, h⟩ := h; exact ⟨p, xs, rfl, k _ _ rfl h (fun _ z => by cases z)⟩
  | dct => obtain ⟨p, xs, rfl, h⟩ := h; exact ⟨p, xs, rfl, k _ _ rfl h (fun _ z => by cases z)⟩
  | ins => obtain ⟨p, xs, fs, rfl, h⟩ := h; exact ⟨p, xs, fs, rfl, k _ _ rfl h (fun _ z => by cases z)⟩
/-- what isinstance says of instances of C -/
structure InsI (K : PySem.W.Frag) (C : Addr) : Prop where
  cls : Cls K C
  ha : PySem.W.findIn K (.ref C) "__class__" = some (some (.builtin "object.__class__"))
  hn : PySem.W.specialIn K (.builtin "object.__class__") "__get__" = some (some (.builtin "getset_descriptor.__get__"))
  htk : PySem.W.takesIn K (.builtin "object.__class__") = some true
  hm : PySem.W.mroIn K C (.type "object") = some true
  st : PySem.W.kitOne K (.ref C) (.type "str") = some false
  tu : PySem.W.kitOne K (.ref C) (.type "tuple") = some false
theorem OV.ty {tg : Tag} (I : InsI K C) (h : OV C H x tg) : ∃ t, TyX K H x t ∧ ((∀ s, tg ≠ .str s) → PySem.W.kitOne K t (.type "str") = some false) ∧ (tg ≠ .tup → PySem.W.kitOne K t (.type "tuple") = some false) := by
  cases tg with
  | non => subst h; exact ⟨_, .base .non, fun _ => kit_ty (by decide +kernel), fun _ => kit_ty (by decide +kernel)⟩
  | int => obtain ⟨i, rfl⟩ := h; exact ⟨_, .base (.int i), fun _ => kit_ty (by decide +kernel), fun _ => kit_ty (by decide +kernel)⟩
  | bl => obtain ⟨i, rfl⟩ := h; exact ⟨_, .base (.bl i), fun _ => kit_ty (by decide +kernel), fun _ => kit_ty (by decide +kernel)⟩
  | str s => subst h; exact ⟨_, .base (.str s), fun z => absurd rfl (z s), fun _ => kit_ty (by decide +kernel)⟩
  | tup => obtain ⟨p, xs, rfl, h⟩ := h; exact ⟨_, .base (.tup h), fun _ => kit_ty (by decide +kernel), fun z => absurd rfl z⟩
  | lst => obtain ⟨p, xs, rfl, h⟩ := h; exact ⟨_, .base (.lst h), fun _ => kit_ty (by decide +kernel), fun _ => kit_ty (by decide +kernel)⟩
  | dct => obtain ⟨p, xs, rfl, h⟩ := h; exact ⟨_, .base (.dK h), fun _ => kit_ty (by decide +kernel), fun _ => kit_ty (by decide +kernel)⟩
  | ins => obtain ⟨p, xs, fs, rfl, h⟩ := h; exact ⟨_, .base (.ins h I.cls I.ha I.hn I.htk I.hm), fun _ => I.st, fun _ => I.tu⟩
theorem OV.itm {tg : Tag} (I : InsI K C) (h : OV C H x tg) : Itm K H x := by
  by_cases hs : ∃ s, tg = .str s
  · obtain ⟨s, rfl⟩ := hs
    exact .inl ⟨s, h⟩
  · obtain ⟨t, ht, a, _⟩ := h.ty I
    exact .inr ⟨t, ht, a fun s z => hs ⟨s, z⟩⟩
theorem OV.bad {tg : Tag} (h : OV C H x tg) (ht : ∀ s, tg = .str s → ¬ Wd s) {ks : List Str} (hk : ∀ y ∈ ks, Wd y) : good ks x = false := by
  cases tg with
  | non => subst h; rfl
  | int => obtain ⟨i, rfl⟩ := h; rfl
  | bl => obtain ⟨i, rfl⟩ := h; rfl
  | str s => subst h; exact decide_eq_false fun z => ht s rfl (hk s z)
  | tup => obtain ⟨p, xs, rfl, h⟩ := h; rfl
  | lst => obtain ⟨p, xs, rfl, h⟩ := h; rfl
  | dct => obtain ⟨p, xs, rfl, h⟩ := h; rfl
  | ins => obtain ⟨p, xs, fs, rfl, h⟩ := h; rfl
end
/-- lift(x, y) of three names; fold((), y) -/
def tCO2 (C : Addr) (sp : Sp) (i j l : Nat) (E : XK) : TE := fun σ H Q => ∃ (a : Addr) (r r2 : V), σ[i]? = some (some (.ref a)) ∧ σ[j]? = some (some r) ∧ σ[l]? = some (some r2) ∧ (∃ dx fs, H a = some (.ins C dx fs)) ∧ sp [.ref a, r, r2] H Q E
theorem co2_of {X : Cx} {C : Addr} {sp : Sp} {i j l : Nat} {E : XK} : ∀ σ H Q, tCO2 C sp i j l E σ H Q → StX.tCallO X C sp E (tVar i) (tCons (tVar j) (tCons (tVar l) tNil)) σ H Q := by
  rintro σ H Q ⟨a, r, r2, h1, h2, h4, h3, h⟩
  exact ⟨_, h1, a, rfl, _, h2, _, h4, .inr h3, h⟩
def tCO0 (C : Addr) (sp : Sp) (i l : Nat) (E : XK) : TE := fun σ H Q => ∃ (a : Addr) (r2 : V), σ[i]? = some (some (.ref a)) ∧ σ[l]? = some (some r2) ∧ ∀ p, H p = none → (∃ dx fs, upd H p (.tup []) a = some (.ins C dx fs)) ∧ sp [.ref a, .ref p, r2] (upd H p (.tup [])) Q E
theorem co0_of {X : Cx} {C : Addr} {sp : Sp} {i l : Nat} {E : XK} : ∀ σ H Q, tCO0 C sp i l E σ H Q → StX.tCallO X C sp E (tVar i) (tCons (tTup tNil) (tCons (tVar l) tNil)) σ H Q := by
  rintro σ H Q ⟨a, r2, h1, h4, h⟩
  exact ⟨_, h1, a, rfl, Nat.zero_le _, fun p np => ⟨_, h4, .inr (h p np).1, (h p np).2⟩⟩
section
variable {Ts : List (Addr × Str)} {e : Nat → Addr} {Is : List Nat} {t : XK → TE} {σ : L2.St} {H : Hp} {Q : VK}
/-- the ear: an error with a number -/
theorem heard_kind (h11 : 11 ∈ Is) {n : Int} (hT : Tabs Ts H) (ht : ∀ H0, ExtN H H0 → Tabs Ts H0 → ∀ (E : XK) (Kc : VK), (∀ dd H', Ex H0 H' → H' dd = some (.xd [("at", .int n)]) → E (.ref (e 11)) (some dd) H') → t E σ H0 Kc)
    (q : ∀ p H'', ExtN H H'' → Tabs Ts H'' → H'' p = some (.tup [.str "kind", .int n]) → Q (.ref p) H'') : tLam Ts (THd e Is) t σ H Q :=
  ⟨hT, fun H1 xN T1 H0 Ech Kc x0 hE hK => ht H0 (xN.trans (ExtN.of x0)) (T1.ext x0) Ech Kc fun dd H' x' hdd => hE _ _ _ ⟨11, h11, rfl, .inr (.inl ⟨.inl rfl, dd, _, _, rfl, hdd, rfl, fun p H'' x'' np hp => q p H'' (xN.trans (ExtN.of (ext x0 (ext x' x'')))) (T1.ext (ext x0 (ext x' x''))) hp⟩)⟩⟩
/-- the ear: an error without -/
theorem heard_err {i : Nat} (hi : i ∈ Is) (hl : i < 11) (hT : Tabs Ts H) (ht : ∀ H0, ExtN H H0 → Tabs Ts H0 → ∀ (E : XK) (Kc : VK), (∀ H', Ex H0 H' → E (.ref (e i)) none H') → t E σ H0 Kc)
    (q : ∀ p H'', ExtN H H'' → Tabs Ts H'' → H'' p = some (.tup [.str (errW i), .non]) → Q (.ref p) H'') : tLam Ts (THd e Is) t σ H Q :=
  ⟨hT, fun H1 xN T1 H0 Ech Kc x0 hE hK => ht H0 (xN.trans (ExtN.of x0)) (T1.ext x0) Ech Kc fun H' x' => hE _ _ _ ⟨i, hi, rfl, .inl ⟨hl, rfl, fun p H'' x'' np hp => q p H'' (xN.trans (ExtN.of (ext x0 (ext x' x'')))) (T1.ext (ext x0 (ext x' x''))) hp⟩⟩⟩
theorem extN_upd {G H : Hp} {p : Addr} {o : HO} (x : ExtN G H) (h : G p = none) : ExtN G (upd H p o) := fun b u hb n => by
  rw [upd_ne (ne_of_none hb h)]
  exact x b u hb n
end
section
variable {X : Cx}
theorem pmethX {pl : Sem Bool} {k : Nat} {C : Addr} {m : Str} {ps : List Str} {sp : Sp} {o e : Expr} {es : List Expr} {apos pos : Pos} {ta : TE} {t : TA} {E : XK} (c : CalM X.prog X.w X.K X.mg X.base (L2.CX X.prog X.w) k C m ps sp) (tk : Takes X (fun cls d _ H' => E cls d H')) (cl : Cls X.K C) (hr : Room k X.A) (ho : PE X o ta) (ha : PA X (e :: es) t)
    (hst : starEach (e :: es) X.env = (false, eval e X.env) :: starEach es X.env := by rfl) (hpl : (backTo pos (starEach es X.env)).any (·.1) = false := by rfl)
    (ht : eval (.Call (.Attribute o m apos) (e :: es) [] pos) X.env = (do
      let ov ← eval o X.env
      standAt apos.atName
      let (f, first) ← holding [ov] (getMethod ov m pl)
      callWith pos f first (backTo pos (starEach (e :: es) X.env)) (backToKw pos (keywordEach [] X.env))) := by rfl) : PE X (.Call (.Attribute o m apos) (e :: es) [] pos) (tMeth C m sp [] E ta t) := by
  obtain ⟨f, fd, M, F, b⟩ := c.ex
  exact pe_meth ho cl M F hr b .nil (passes_call tk fun _ _ _ _ h => h) ha hst hpl ht
end
end Sn
namespace Sn
open Evl (Ex)
open PySem L2
theorem SrtS.look2 {tl tl' : List (Str × Str)} (h : SrtS tl tl') (hn : (tl.map (·.1)).Nodup) {k : Str} (hk : k ∈ tl.map (·.1)) : look2 tl' k = look2 tl k := by
  obtain ⟨e, he, rfl⟩ := List.mem_map.mp hk
  rw [look2_at hn he, look2_at (h.nd hn) ((h.mem hn).mpr he)]
section
variable {st st' : List StE} {tl tl' : List (Str × Str)}
theorem SrtT.len (h : SrtT st st') : st'.length = st.length := by
  have := h.pm.length_eq
  simpa using this
theorem SrtT.mem (h : SrtT st st') {k : Str} : k ∈ st'.map (·.1) ↔ k ∈ st.map (·.1) := h.pm.mem_iff
theorem SrtS.keys {a b : List (Str × Str)} (h : SrtS a b) {k : Str} : k ∈ b.map (·.1) ↔ k ∈ a.map (·.1) := h.pm.mem_iff
theorem SrtT.V (h : SrtT st st') (V : StV st) : StV st' := by
  refine ⟨by rw [h.len]; exact V.n1, by rw [h.len]; exact V.n5, h.pm.nodup_iff.mpr V.nd, fun e he => ?_, fun e he => ?_, fun e he => ?_, fun e he g hg => ?_, fun e he f hf k => ?_, fun e he g hg => ?_⟩
  · obtain ⟨a, ha, k1, s⟩ := h.sub e he
    rw [← k1]; exact V.wd a ha
  · obtain ⟨a, ha, k1, s⟩ := h.sub e he
    have := s.pm.length_eq
    simp only [List.length_map] at this
    rw [this]; exact V.r1 a ha
  · obtain ⟨a, ha, k1, s⟩ := h.sub e he
    exact s.nd (V.rn a ha)
  · obtain ⟨a, ha, k1, s⟩ := h.sub e he
    exact V.rw_ a ha g (s.sub g hg)
  · obtain ⟨a, ha, k1, s⟩ := h.sub e he
    obtain ⟨b, hb, k2, s2⟩ := h.sub f hf
    rw [s.keys, s2.keys]
    exact V.same a ha b hb k
  · obtain ⟨a, ha, k1, s⟩ := h.sub e he
    exact h.mem.mpr (V.goal a ha g (s.sub g hg))
theorem SrtT.W (h : SrtT st st') (s : SrtS tl tl') (V : StV st) (W : TlV st tl) : TlV st' tl' := ⟨s.nd W.nd, fun e he => W.wd e (s.sub e he), fun k => by rw [s.keys, W.ks, h.mem]⟩
theorem SrtT.kinds (h : SrtT st st') (V : StV st) (k : Str) : k ∈ kinds st' ↔ k ∈ kinds st := by
  obtain ⟨e, he⟩ : ∃ e, e ∈ st' := List.exists_mem_of_ne_nil _ (fun z => by have := (h.V V).n1; rw [z] at this; simp at this)
  obtain ⟨a, ha, k1, s⟩ := h.sub e he
  rw [kinds_at (h.V V) he, kinds_at V ha, s.keys]
theorem SrtT.step (h : SrtT st st') (V : StV st) {s k : Str} (hs : s ∈ st.map (·.1)) (hk : k ∈ Sn.kinds st) : stepL st' s k = stepL st s k := by
  obtain ⟨e', he', e1, g, hg, e2⟩ := step_in (h.V V) (h.mem.mpr hs) (kinds_ex ((h.kinds V k).mpr hk))
  obtain ⟨e, he, k1, so⟩ := h.sub e' he'
  rw [← e1, ← e2, stepL_at (h.V V) he' hg, ← k1, stepL_at V he (so.sub g hg)]
theorem SrtT.led (h : SrtT st st') (V : StV st) : ∀ {row : List Str} {s : Str}, s ∈ st.map (·.1) → (∀ k ∈ row, k ∈ Sn.kinds st) → ledL st' s row = ledL st s row
  | [], _, _, _ => rfl
  | k :: r, s, hs, hk => by
    have hk0 := hk k List.mem_cons_self
    show ledL st' (stepL st' s k) r = ledL st (stepL st s k) r
    rw [h.step V hs hk0]
    exact SrtT.led h V (stepL_mem V hs hk0) fun x hx => hk x (List.mem_cons_of_mem _ hx)
end
end Sn
namespace Sn
open Evl (Ex)
open PySem PySem.Spec PyProof.Rows L2 LamX
section
variable {X : Cx} {P : Program} {w : World} {K : PySem.W.Frag} {mg : Str → Option Value} {base : Heap}
theorem sc_l_heard : FnScope ["_law_work", "_law_found", "_law_caught", "e", "_law_marks", "_law_words_here"] ["_law_work"] (defScope s_l_heard) := ⟨rfl, rfl, rfl, by decide +kernel, rfl, by decide +kernel, by decide +kernel⟩
def mk (i j : Nat) : V := .bl (decide (i = j))
theorem heard_gives {g CS : Addr} {cdg : Value} {q : Str} {e : Nat → Addr} {Is : List Nat} (T : ErrF X.K X.mg e CS Is) (B : Bt X.mg) :
    GivesTo X ["_law_work", "_law_found", "_law_caught", "e", "_law_marks", "_law_words_here"] "_law_heard" (defScope s_l_heard) g cdg (defBody s_l_heard) "_law_work" q (THd e Is) := by
  intro f c' s H Q tl act hc h
  refine ⟨_, (pss_cons (ps_asg (pe_tup (pa_cons pe_non (pa_cons pe_non pa_nil))) (pg_tup rfl (pgs_cons (pg_name (i := 1) sc_l_heard.nd rfl (.inl rfl)) (pgs_cons (pg_name (i := 2) sc_l_heard.nd rfl (.inl rfl)) pgs_nil))))
      (pss_cons (ps_try_hold (c := .ref CS) (i := 3) rfl rfl rfl sc_l_heard.nd rfl rfl ⟨rfl, by decide, .inl T.snap⟩ L2.takes0
          (tb := fun W D σ H => ∃ Ech : XK, (∀ cls d σ' H', Ech cls d H' → W cls d σ' H') ∧ σ[0]? = some (some (.ref f)) ∧ H c' = some (CodeO c' q) ∧ tl Ech H (fun v H' => D.nx (σ.set 1 (some v)) H'))
          (fun W pn xe tk _ => ⟨fun pins s' σ H' D I h' => ?tr⟩) (fun a oe cls d pn _ _ => pss_one (ps_set (i := 2) sc_l_heard.nd rfl (.inl rfl) (pv 3))))
      (pss_cons (ps_if (pt_cmpR op_isN (pv 2) pe_non (nomark _))
        (pss_one (ps_ret (pe_tup (pa_cons pe_str (pa_cons (pv 1) pa_nil)))))
        pss_nil)
      (pss_cons (ps_set (i := 4) sc_l_heard.nd rfl (.inl rfl) (pe_lst (pa_cons (pe_callB call_isH (by rfl) B.isi PyProof.Rows.boot_isinstance (pa_cons (pv 2) (pa_cons (pe_glob (v := .ref (e 0)) rfl (T.nm 0 (by decide)) rfl) pa_nil))) (pa_cons (pe_callB call_isH (by rfl) B.isi PyProof.Rows.boot_isinstance (pa_cons (pv 2) (pa_cons (pe_glob (v := .ref (e 1)) rfl (T.nm 1 (by decide)) rfl) pa_nil))) (pa_cons (pe_callB call_isH (by rfl) B.isi PyProof.Rows.boot_isinstance (pa_cons (pv 2) (pa_cons (pe_glob (v := .ref (e 2)) rfl (T.nm 2 (by decide)) rfl) pa_nil))) pa_nil)))))
      (pss_cons (ps_set (i := 4) sc_l_heard.nd rfl (.inl rfl) (pe_op op_cat (pv 4) (pe_lst (pa_cons (pe_callB call_isH (by rfl) B.isi PyProof.Rows.boot_isinstance (pa_cons (pv 2) (pa_cons (pe_glob (v := .ref (e 3)) rfl (T.nm 3 (by decide)) rfl) pa_nil))) (pa_cons (pe_callB call_isH (by rfl) B.isi PyProof.Rows.boot_isinstance (pa_cons (pv 2) (pa_cons (pe_glob (v := .ref (e 4)) rfl (T.nm 4 (by decide)) rfl) pa_nil))) (pa_cons (pe_callB call_isH (by rfl) B.isi PyProof.Rows.boot_isinstance (pa_cons (pv 2) (pa_cons (pe_glob (v := .ref (e 5)) rfl (T.nm 5 (by decide)) rfl) pa_nil))) pa_nil))))))
      (pss_cons (ps_set (i := 4) sc_l_heard.nd rfl (.inl rfl) (pe_op op_cat (pv 4) (pe_lst (pa_cons (pe_callB call_isH (by rfl) B.isi PyProof.Rows.boot_isinstance (pa_cons (pv 2) (pa_cons (pe_glob (v := .ref (e 6)) rfl (T.nm 6 (by decide)) rfl) pa_nil))) (pa_cons (pe_callB call_isH (by rfl) B.isi PyProof.Rows.boot_isinstance (pa_cons (pv 2) (pa_cons (pe_glob (v := .ref (e 7)) rfl (T.nm 7 (by decide)) rfl) pa_nil))) (pa_cons (pe_callB call_isH (by rfl) B.isi PyProof.Rows.boot_isinstance (pa_cons (pv 2) (pa_cons (pe_glob (v := .ref (e 8)) rfl (T.nm 8 (by decide)) rfl) pa_nil))) pa_nil))))))
      (pss_cons (ps_set (i := 4) sc_l_heard.nd rfl (.inl rfl) (pe_op op_cat (pv 4) (pe_lst (pa_cons (pe_callB call_isH (by rfl) B.isi PyProof.Rows.boot_isinstance (pa_cons (pv 2) (pa_cons (pe_glob (v := .ref (e 9)) rfl (T.nm 9 (by decide)) rfl) pa_nil))) (pa_cons (pe_callB call_isH (by rfl) B.isi PyProof.Rows.boot_isinstance (pa_cons (pv 2) (pa_cons (pe_glob (v := .ref (e 10)) rfl (T.nm 10 (by decide)) rfl) pa_nil))) (pa_cons (pe_callB call_isH (by rfl) B.isi PyProof.Rows.boot_isinstance (pa_cons (pv 2) (pa_cons (pe_glob (v := .ref (e 11)) rfl (T.nm 11 (by decide)) rfl) pa_nil))) pa_nil))))))
      (pss_cons (ps_set (i := 4) sc_l_heard.nd rfl (.inl rfl) (pe_op op_cat (pv 4) (pe_lst (pa_cons (pe_callB call_isH (by rfl) B.isi PyProof.Rows.boot_isinstance (pa_cons (pv 2) (pa_cons (pe_glob (v := .ref (e 12)) rfl (T.nm 12 (by decide)) rfl) pa_nil))) (pa_cons (pe_callB call_isH (by rfl) B.isi PyProof.Rows.boot_isinstance (pa_cons (pv 2) (pa_cons (pe_glob (v := .ref (e 13)) rfl (T.nm 13 (by decide)) rfl) pa_nil))) pa_nil)))))
      (pss_cons (ps_if (PW.pt (pw_or (pt_cmpR op_ne (pe_bm PySem.F.plainAttrs_list PySem.F.slot_list_count PySem.F.type_list_count mt_countV (pv 4) (pa_cons pe_bl pa_nil)) pe_int (nomark _)) (pw_or1 (pt_not (pt_val (pe_callB call_isH (by rfl) B.isi PyProof.Rows.boot_isinstance (pa_cons (pv 2) (pa_cons (pe_bltn (v := .ty "ValueError") (by rfl) B.ValueError (by decide +kernel) rfl) pa_nil))))))))
        (pss_one (ps_ret (pe_tup (pa_cons pe_str (pa_cons pe_non pa_nil)))))
        pss_nil)
      (pss_cons (ps_if (PW.pt (pw_or (pt_val (pe_ix ix_list (pv 4) pe_int (fun _ _ => rfl))) (pw_or1 (pt_val (pe_ix ix_list (pv 4) pe_int (fun _ _ => rfl))))))
        (pss_one (ps_ret (pe_tup (pa_cons (pe_ifExp (pt_val (pe_ix ix_list (pv 4) pe_int (fun _ _ => rfl))) pe_str pe_str) (pa_cons (pe_hf (pv 2)) pa_nil)))))
        pss_nil)
      (pss_cons (ps_if (pt_val (pe_ix ix_list (pv 4) pe_int (fun _ _ => rfl)))
        (pss_one (ps_ret (pe_tup (pa_cons pe_str (pa_cons (pe_hf (pv 2)) pa_nil)))))
        pss_nil)
      (pss_cons (ps_set (i := 5) sc_l_heard.nd rfl (.inl rfl) (pe_lst (pa_cons pe_str (pa_cons pe_str (pa_cons pe_str (pa_cons pe_str (pa_cons pe_str (pa_cons pe_str (pa_cons pe_str (pa_cons pe_str (pa_cons pe_str (pa_cons pe_str (pa_cons pe_str pa_nil)))))))))))))
      (pss_one (ps_ret (pe_tup (pa_cons (pe_ix ix_list (pv 5) (pe_bm PySem.F.plainAttrs_list PySem.F.slot_list_index PySem.F.type_list_index mt_index (pv 4) (pa_cons pe_bl pa_nil)) (fun _ _ => rfl)) (pa_cons pe_non pa_nil))))))))))))))))), ?_⟩
  case tr =>
    obtain ⟨Ech, hW, h1, h2, h3⟩ := h'
    exact (pss_one (ps_set (i := 1) sc_l_heard.nd rfl (.inl rfl) (act W pn xe Ech _ _ tk hW))).run pins s' σ H' D I ⟨h1, h2, h3⟩
  refine ⟨by simp [sizeLine_eq], fun p0 n0 => ⟨p0, [.non, .non], rfl, SqT.of upd_same, rfl, _, _, rfl, _, _, rfl, rfl, ?_⟩⟩
  have cp : c' ≠ p0 := ne_of_none hc n0
  refine ⟨_, fun cls d σ' H' hE => hE σ', rfl, (exn n0) _ _ hc, h _ (fun cls d H' => ∀ σ', _) _ (exn n0) (fun cls d H' hE σ' hl => ?err) (fun v H' hq => ?told)⟩
  case told =>
    refine ⟨_, rfl, rfl, _, rfl, ?_⟩
    rw [decide_eq_true rfl]
    refine iteT ?_
    exact ⟨_, rfl, by simp [sizeLine_eq], fun p np => hq p np⟩
  obtain ⟨i, hi, rfl, hE⟩ := hE
  have i14 := T.lt i hi
  refine ⟨true, T.sn i hi, fun _ a na => ?_, fun z => by cases z⟩
  obtain ⟨s0, s1, s2, s3, s4, s5, rfl⟩ : ∃ s0 s1 s2 s3 s4 s5, σ' = [s0, s1, s2, s3, s4, s5] := by
    match σ', hl with
    | [s0, s1, s2, s3, s4, s5], _ => exact ⟨s0, s1, s2, s3, s4, s5, rfl⟩
  have hD : DOk H' d := by
    rcases hE with ⟨_, z, _⟩ | ⟨_, dd, fs, v, z, z2, _⟩ | ⟨_, dd, fs, v, z, z2, _⟩
    · exact .inl z
    · exact .inr ⟨dd, fs, z, z2⟩
    · exact .inr ⟨dd, fs, z, z2⟩
  refine ⟨_, rfl, ?_⟩
  have nad : ∀ {b u}, H' b = some u → upd H' a (HeldX (.ref (e i)) d a) b = some u := fun {b u} z => (exn na) _ _ z
  -- no longer None
  refine ⟨_, rfl, rfl, _, rfl, ?_⟩
  rw [decide_eq_false (fun z => by cases z)]
  refine iteF ?_
  have up : ∀ {H1 H2 : Hp} {p : Addr} {o : HO}, (H1 a = some (HeldX (.ref (e i)) d a) ∧ DOk H1 d ∧ Ex H' H1) → H1 p = none → (upd H1 p o) a = some (HeldX (.ref (e i)) d a) ∧ DOk (upd H1 p o) d ∧ Ex H' (upd H1 p o) := fun {H1 H2 p o} ⟨x, y, z⟩ n => by
    refine ⟨(exn n) _ _ x, ?_, ext z (exn n)⟩
    rcases y with y | ⟨dd, fs, y1, y2⟩
    · exact .inl y
    · exact .inr ⟨dd, fs, y1, (exn n) _ _ y2⟩
  have k0 : upd H' a (HeldX (.ref (e i)) d a) a = some (HeldX (.ref (e i)) d a) ∧ DOk (upd H' a (HeldX (.ref (e i)) d a)) d ∧ Ex H' (upd H' a (HeldX (.ref (e i)) d a)) := by
    refine ⟨upd_same, ?_, exn na⟩
    rcases hD with y | ⟨dd, fs, y1, y2⟩
    · exact .inl y
    · exact .inr ⟨dd, fs, y1, nad y2⟩
  have sz : ∀ n : Nat, n ≤ 20 → n ≤ sizeLine := fun n h => by rw [sizeLine_eq]; omega
  generalize upd H' a (HeldX (.ref (e i)) d a) = G0 at k0
  refine ⟨_, rfl, a, e i, d, _, .ref (e 0), _, rfl, k0.1, k0.2.1, T.ec i hi, fun u h => h, T.is i hi 0 (by decide), ⟨_, rfl, a, e i, d, _, .ref (e 1), _, rfl, k0.1, k0.2.1, T.ec i hi, fun u h => h, T.is i hi 1 (by decide), ⟨_, rfl, a, e i, d, _, .ref (e 2), _, rfl, k0.1, k0.2.1, T.ec i hi, fun u h => h, T.is i hi 2 (by decide), ⟨sz 3 (by decide), fun p1 n1 => ?_⟩⟩⟩⟩
  have k1 := up (H2 := G0) (o := .lst [mk i 0, mk i 1, mk i 2]) k0 n1
  have l1 : upd G0 p1 (.lst [mk i 0, mk i 1, mk i 2]) p1 = some (.lst [mk i 0, mk i 1, mk i 2]) := upd_same
  change tSeq _ _ _ _ (upd G0 p1 (.lst [mk i 0, mk i 1, mk i 2]))
  generalize upd G0 p1 (.lst [mk i 0, mk i 1, mk i 2]) = G1 at k1 l1 ⊢
  refine ⟨_, rfl, ⟨_, rfl, a, e i, d, _, .ref (e 3), _, rfl, k1.1, k1.2.1, T.ec i hi, fun u h => h, T.is i hi 3 (by decide), ⟨_, rfl, a, e i, d, _, .ref (e 4), _, rfl, k1.1, k1.2.1, T.ec i hi, fun u h => h, T.is i hi 4 (by decide), ⟨_, rfl, a, e i, d, _, .ref (e 5), _, rfl, k1.1, k1.2.1, T.ec i hi, fun u h => h, T.is i hi 5 (by decide), ⟨sz 3 (by decide), fun q2 m2 => ?_⟩⟩⟩⟩⟩
  have kq2 := up (H2 := G1) (o := .lst [mk i 3, mk i 4, mk i 5]) k1 m2
  have lq2 : upd G1 q2 (.lst [mk i 3, mk i 4, mk i 5]) q2 = some (.lst [mk i 3, mk i 4, mk i 5]) := upd_same
  have lo2 : upd G1 q2 (.lst [mk i 3, mk i 4, mk i 5]) p1 = some (.lst [mk i 0, mk i 1, mk i 2]) := (exn m2) _ _ l1
  refine ⟨p1, q2, [mk i 0, mk i 1, mk i 2], [mk i 3, mk i 4, mk i 5], rfl, rfl, lo2, lq2, sz 6 (by decide), fun p2 n2 => ?_⟩
  have k2 := up (H2 := G1) (o := .lst [mk i 0, mk i 1, mk i 2, mk i 3, mk i 4, mk i 5]) kq2 n2
  have l2 : upd (upd G1 q2 (.lst [mk i 3, mk i 4, mk i 5])) p2 (.lst [mk i 0, mk i 1, mk i 2, mk i 3, mk i 4, mk i 5]) p2 = some (.lst [mk i 0, mk i 1, mk i 2, mk i 3, mk i 4, mk i 5]) := upd_same
  change tSeq _ _ _ _ (upd (upd G1 q2 (.lst [mk i 3, mk i 4, mk i 5])) p2 (.lst [mk i 0, mk i 1, mk i 2, mk i 3, mk i 4, mk i 5]))
  generalize upd (upd G1 q2 (.lst [mk i 3, mk i 4, mk i 5])) p2 (.lst [mk i 0, mk i 1, mk i 2, mk i 3, mk i 4, mk i 5]) = G2 at k2 l2 ⊢
  refine ⟨_, rfl, ⟨_, rfl, a, e i, d, _, .ref (e 6), _, rfl, k2.1, k2.2.1, T.ec i hi, fun u h => h, T.is i hi 6 (by decide), ⟨_, rfl, a, e i, d, _, .ref (e 7), _, rfl, k2.1, k2.2.1, T.ec i hi, fun u h => h, T.is i hi 7 (by decide), ⟨_, rfl, a, e i, d, _, .ref (e 8), _, rfl, k2.1, k2.2.1, T.ec i hi, fun u h => h, T.is i hi 8 (by decide), ⟨sz 3 (by decide), fun q3 m3 => ?_⟩⟩⟩⟩⟩
  have kq3 := up (H2 := G2) (o := .lst [mk i 6, mk i 7, mk i 8]) k2 m3
  have lq3 : upd G2 q3 (.lst [mk i 6, mk i 7, mk i 8]) q3 = some (.lst [mk i 6, mk i 7, mk i 8]) := upd_same
  have lo3 : upd G2 q3 (.lst [mk i 6, mk i 7, mk i 8]) p2 = some (.lst [mk i 0, mk i 1, mk i 2, mk i 3, mk i 4, mk i 5]) := (exn m3) _ _ l2
  refine ⟨p2, q3, [mk i 0, mk i 1, mk i 2, mk i 3, mk i 4, mk i 5], [mk i 6, mk i 7, mk i 8], rfl, rfl, lo3, lq3, sz 9 (by decide), fun p3 n3 => ?_⟩
  have k3 := up (H2 := G2) (o := .lst [mk i 0, mk i 1, mk i 2, mk i 3, mk i 4, mk i 5, mk i 6, mk i 7, mk i 8]) kq3 n3
  have l3 : upd (upd G2 q3 (.lst [mk i 6, mk i 7, mk i 8])) p3 (.lst [mk i 0, mk i 1, mk i 2, mk i 3, mk i 4, mk i 5, mk i 6, mk i 7, mk i 8]) p3 = some (.lst [mk i 0, mk i 1, mk i 2, mk i 3, mk i 4, mk i 5, mk i 6, mk i 7, mk i 8]) := upd_same
  change tSeq _ _ _ _ (upd (upd G2 q3 (.lst [mk i 6, mk i 7, mk i 8])) p3 (.lst [mk i 0, mk i 1, mk i 2, mk i 3, mk i 4, mk i 5, mk i 6, mk i 7, mk i 8]))
  generalize upd (upd G2 q3 (.lst [mk i 6, mk i 7, mk i 8])) p3 (.lst [mk i 0, mk i 1, mk i 2, mk i 3, mk i 4, mk i 5, mk i 6, mk i 7, mk i 8]) = G3 at k3 l3 ⊢
  refine ⟨_, rfl, ⟨_, rfl, a, e i, d, _, .ref (e 9), _, rfl, k3.1, k3.2.1, T.ec i hi, fun u h => h, T.is i hi 9 (by decide), ⟨_, rfl, a, e i, d, _, .ref (e 10), _, rfl, k3.1, k3.2.1, T.ec i hi, fun u h => h, T.is i hi 10 (by decide), ⟨_, rfl, a, e i, d, _, .ref (e 11), _, rfl, k3.1, k3.2.1, T.ec i hi, fun u h => h, T.is i hi 11 (by decide), ⟨sz 3 (by decide), fun q4 m4 => ?_⟩⟩⟩⟩⟩
  have kq4 := up (H2 := G3) (o := .lst [mk i 9, mk i 10, mk i 11]) k3 m4
  have lq4 : upd G3 q4 (.lst [mk i 9, mk i 10, mk i 11]) q4 = some (.lst [mk i 9, mk i 10, mk i 11]) := upd_same
  have lo4 : upd G3 q4 (.lst [mk i 9, mk i 10, mk i 11]) p3 = some (.lst [mk i 0, mk i 1, mk i 2, mk i 3, mk i 4, mk i 5, mk i 6, mk i 7, mk i 8]) := (exn m4) _ _ l3
  refine ⟨p3, q4, [mk i 0, mk i 1, mk i 2, mk i 3, mk i 4, mk i 5, mk i 6, mk i 7, mk i 8], [mk i 9, mk i 10, mk i 11], rfl, rfl, lo4, lq4, sz 12 (by decide), fun p4 n4 => ?_⟩
  have k4 := up (H2 := G3) (o := .lst [mk i 0, mk i 1, mk i 2, mk i 3, mk i 4, mk i 5, mk i 6, mk i 7, mk i 8, mk i 9, mk i 10, mk i 11]) kq4 n4
  have l4 : upd (upd G3 q4 (.lst [mk i 9, mk i 10, mk i 11])) p4 (.lst [mk i 0, mk i 1, mk i 2, mk i 3, mk i 4, mk i 5, mk i 6, mk i 7, mk i 8, mk i 9, mk i 10, mk i 11]) p4 = some (.lst [mk i 0, mk i 1, mk i 2, mk i 3, mk i 4, mk i 5, mk i 6, mk i 7, mk i 8, mk i 9, mk i 10, mk i 11]) := upd_same
  change tSeq _ _ _ _ (upd (upd G3 q4 (.lst [mk i 9, mk i 10, mk i 11])) p4 (.lst [mk i 0, mk i 1, mk i 2, mk i 3, mk i 4, mk i 5, mk i 6, mk i 7, mk i 8, mk i 9, mk i 10, mk i 11]))
  generalize upd (upd G3 q4 (.lst [mk i 9, mk i 10, mk i 11])) p4 (.lst [mk i 0, mk i 1, mk i 2, mk i 3, mk i 4, mk i 5, mk i 6, mk i 7, mk i 8, mk i 9, mk i 10, mk i 11]) = G4 at k4 l4 ⊢
  refine ⟨_, rfl, ⟨_, rfl, a, e i, d, _, .ref (e 12), _, rfl, k4.1, k4.2.1, T.ec i hi, fun u h => h, T.is i hi 12 (by decide), ⟨_, rfl, a, e i, d, _, .ref (e 13), _, rfl, k4.1, k4.2.1, T.ec i hi, fun u h => h, T.is i hi 13 (by decide), ⟨sz 2 (by decide), fun q5 m5 => ?_⟩⟩⟩⟩
  have kq5 := up (H2 := G4) (o := .lst [mk i 12, mk i 13]) k4 m5
  have lq5 : upd G4 q5 (.lst [mk i 12, mk i 13]) q5 = some (.lst [mk i 12, mk i 13]) := upd_same
  have lo5 : upd G4 q5 (.lst [mk i 12, mk i 13]) p4 = some (.lst [mk i 0, mk i 1, mk i 2, mk i 3, mk i 4, mk i 5, mk i 6, mk i 7, mk i 8, mk i 9, mk i 10, mk i 11]) := (exn m5) _ _ l4
  refine ⟨p4, q5, [mk i 0, mk i 1, mk i 2, mk i 3, mk i 4, mk i 5, mk i 6, mk i 7, mk i 8, mk i 9, mk i 10, mk i 11], [mk i 12, mk i 13], rfl, rfl, lo5, lq5, sz 14 (by decide), fun p5 n5 => ?_⟩
  have k5 := up (H2 := G4) (o := .lst [mk i 0, mk i 1, mk i 2, mk i 3, mk i 4, mk i 5, mk i 6, mk i 7, mk i 8, mk i 9, mk i 10, mk i 11, mk i 12, mk i 13]) kq5 n5
  have l5 : upd (upd G4 q5 (.lst [mk i 12, mk i 13])) p5 (.lst [mk i 0, mk i 1, mk i 2, mk i 3, mk i 4, mk i 5, mk i 6, mk i 7, mk i 8, mk i 9, mk i 10, mk i 11, mk i 12, mk i 13]) p5 = some (.lst [mk i 0, mk i 1, mk i 2, mk i 3, mk i 4, mk i 5, mk i 6, mk i 7, mk i 8, mk i 9, mk i 10, mk i 11, mk i 12, mk i 13]) := upd_same
  change tSeq _ _ _ _ (upd (upd G4 q5 (.lst [mk i 12, mk i 13])) p5 (.lst [mk i 0, mk i 1, mk i 2, mk i 3, mk i 4, mk i 5, mk i 6, mk i 7, mk i 8, mk i 9, mk i 10, mk i 11, mk i 12, mk i 13]))
  generalize upd (upd G4 q5 (.lst [mk i 12, mk i 13])) p5 (.lst [mk i 0, mk i 1, mk i 2, mk i 3, mk i 4, mk i 5, mk i 6, mk i 7, mk i 8, mk i 9, mk i 10, mk i 11, mk i 12, mk i 13]) = G5 at k5 l5 ⊢
  have flat : ([mk i 0, mk i 1, mk i 2, mk i 3, mk i 4, mk i 5, mk i 6, mk i 7, mk i 8, mk i 9, mk i 10, mk i 11, mk i 12, mk i 13] : List V).all flatV = true := rfl
  have cnt : ∀ i, i < 14 → ([mk i 0, mk i 1, mk i 2, mk i 3, mk i 4, mk i 5, mk i 6, mk i 7, mk i 8, mk i 9, mk i 10, mk i 11, mk i 12, mk i 13] : List V).countP (fun z => eqV z (.bl true)) = 1 := by decide
  refine ⟨_, rfl, .inl ⟨rfl, _, SqL.of l5⟩, p5, _, .bl true, rfl, rfl, SqL.of l5, rfl, flat, ?_⟩
  rw [cnt i i14]
  refine ⟨rfl, _, rfl, ?_⟩
  refine iteF ?_
  refine ⟨_, rfl, a, e i, d, _, .type "ValueError", _, rfl, k5.1, k5.2.1, T.ec i hi, fun u h => h, T.ve i hi, _, rfl, ?_⟩
  refine iteF ?_
  -- marks[11] or marks[12]
  have at_ : ∀ j : Nat, j < 14 → atI ([mk i 0, mk i 1, mk i 2, mk i 3, mk i 4, mk i 5, mk i 6, mk i 7, mk i 8, mk i 9, mk i 10, mk i 11, mk i 12, mk i 13] : List V) (j : Int) = some (mk i j) := fun j hj => atI_nat (by
    match j, hj with
    | 0, _ => rfl | 1, _ => rfl | 2, _ => rfl | 3, _ => rfl | 4, _ => rfl | 5, _ => rfl | 6, _ => rfl | 7, _ => rfl | 8, _ => rfl | 9, _ => rfl | 10, _ => rfl | 11, _ => rfl | 12, _ => rfl | 13, _ => rfl)
  have kt : ∀ {j}, i = j → mk i j = .bl true := fun {j} h => by unfold mk; rw [decide_eq_true h]
  have kf : ∀ {j}, i ≠ j → mk i j = .bl false := fun {j} h => by unfold mk; rw [decide_eq_false h]
  have fin : ∀ (u : V) (p : Addr) (w : Str) (H1 : Hp), H1 a = some (HeldX (.ref (e i)) d a) ∧ DOk H1 d ∧ Ex H' H1 → H1 p = none → (∀ p H'', Ex H' H'' → H' p = none → H'' p = some (.tup [.str w, u]) → Q (.ref p) H'') → Q (.ref p) (upd H1 p (.tup [.str w, u])) := fun u p w H1 hk n hq =>
    hq p _ (ext hk.2.2 (exn n)) (exb hk.2.2 n) upd_same
  rcases hE with ⟨i11, dn, hq⟩ | ⟨i12, dd, fs, v, hd', hdd, hv, hq⟩ | ⟨i13, dd, fs, v, hd', hdd, hv, hq⟩
  · refine ⟨_, rfl, p5, _, 11, _, rfl, rfl, SqL.of l5, at_ 11 (by decide), false, kf (by omega), ?_⟩
    refine iteF ?_
    refine ⟨_, rfl, p5, _, 12, _, rfl, rfl, SqL.of l5, at_ 12 (by decide), false, kf (by omega), ?_⟩
    refine iteF ?_
    refine ⟨_, rfl, p5, _, 13, _, rfl, rfl, SqL.of l5, at_ 13 (by decide), false, kf (by omega), ?_⟩
    refine iteF ?_
    refine ⟨sz 11 (by decide), fun pw nw => ?_⟩
    have l6 := (exn (o := .lst [V.str "edition", .str "state", .str "lift", .str "book", .str "number", .str "pasts", .str "plan", .str "hands", .str "key", .str "nothing", .str "text"]) nw) _ _ l5
    have k6 := up (H2 := G5) (o := .lst [V.str "edition", .str "state", .str "lift", .str "book", .str "number", .str "pasts", .str "plan", .str "hands", .str "key", .str "nothing", .str "text"]) k5 nw
    refine ⟨_, rfl, _, rfl, .inl ⟨rfl, _, SqL.of l6⟩, p5, _, .bl true, i, mk i i, rfl, rfl, SqL.of l6, rfl, flat, ?_, ?_, ?_, pw, _, i, .str (errW i), rfl, rfl, SqL.of upd_same, atI_nat ?_, sz 2 (by decide), fun p np => fin _ p _ _ k6 np hq⟩
    · match i, i14 with
      | 0, _ => rfl | 1, _ => rfl | 2, _ => rfl | 3, _ => rfl | 4, _ => rfl | 5, _ => rfl | 6, _ => rfl | 7, _ => rfl | 8, _ => rfl | 9, _ => rfl | 10, _ => rfl | 11, _ => rfl | 12, _ => rfl | 13, _ => rfl
    · rw [kt rfl]; rfl
    · intro m z' hm hz'
      have hm14 : m < 14 := by omega
      have e1 : ([mk i 0, mk i 1, mk i 2, mk i 3, mk i 4, mk i 5, mk i 6, mk i 7, mk i 8, mk i 9, mk i 10, mk i 11, mk i 12, mk i 13] : List V)[m]? = some (mk i m) := by
        match m, hm14 with
        | 0, _ => rfl | 1, _ => rfl | 2, _ => rfl | 3, _ => rfl | 4, _ => rfl | 5, _ => rfl | 6, _ => rfl | 7, _ => rfl | 8, _ => rfl | 9, _ => rfl | 10, _ => rfl | 11, _ => rfl | 12, _ => rfl | 13, _ => rfl
      rw [e1] at hz'
      rw [← Option.some.inj hz', kf (by omega)]
      rfl
    · match i, i11 with
      | 0, _ => rfl | 1, _ => rfl | 2, _ => rfl | 3, _ => rfl | 4, _ => rfl | 5, _ => rfl | 6, _ => rfl | 7, _ => rfl | 8, _ => rfl | 9, _ => rfl | 10, _ => rfl
  · subst hd'
    have hd5 : G5 dd = some (.xd fs) := k5.2.2 _ _ hdd
    have x11 := T.xf i hi (by rcases i12 with z | z <;> omega)
    rcases i12 with z | z
    · have na_ : PySem.W.findIn X.K (.ref (e i)) "at" = some none := by
        subst z; exact T.at11 hi
      refine ⟨_, rfl, p5, _, 11, _, rfl, rfl, SqL.of l5, at_ 11 (by decide), true, kt z, ?_⟩
      refine iteT ?_
      refine iteT ?_
      refine ⟨_, rfl, p5, _, 11, _, rfl, rfl, SqL.of l5, at_ 11 (by decide), true, kt z, ?_⟩
      refine iteT ?_
      have hq' : ∀ p H'', Ex H' H'' → H' p = none → H'' p = some (.tup [.str "kind", v]) → Q (.ref p) H'' := by
        subst z; exact hq
      exact ⟨_, rfl, a, e i, dd, fs, v, rfl, k5.1, x11, na_, hd5, hv, sz 2 (by decide), fun p np => fin _ p _ _ k5 np hq'⟩
    · have na_ : PySem.W.findIn X.K (.ref (e i)) "at" = some none := by
        subst z; exact T.at12 hi
      refine ⟨_, rfl, p5, _, 11, _, rfl, rfl, SqL.of l5, at_ 11 (by decide), false, kf (by omega), ?_⟩
      refine iteF ?_
      refine ⟨_, rfl, p5, _, 12, _, rfl, rfl, SqL.of l5, at_ 12 (by decide), true, kt z, ?_⟩
      refine iteT ?_
      refine ⟨_, rfl, p5, _, 11, _, rfl, rfl, SqL.of l5, at_ 11 (by decide), false, kf (by omega), ?_⟩
      refine iteF ?_
      have hq' : ∀ p H'', Ex H' H'' → H' p = none → H'' p = some (.tup [.str "history", v]) → Q (.ref p) H'' := by
        subst z; exact hq
      exact ⟨_, rfl, a, e i, dd, fs, v, rfl, k5.1, x11, na_, hd5, hv, sz 2 (by decide), fun p np => fin _ p _ _ k5 np hq'⟩
  · subst hd'
    have hd5 : G5 dd = some (.xd fs) := k5.2.2 _ _ hdd
    have x11 := T.xf i hi (by omega)
    have na_ : PySem.W.findIn X.K (.ref (e i)) "history" = some none := by
      subst i13; exact T.at13 hi
    refine ⟨_, rfl, p5, _, 11, _, rfl, rfl, SqL.of l5, at_ 11 (by decide), false, kf (by omega), ?_⟩
    refine iteF ?_
    refine ⟨_, rfl, p5, _, 12, _, rfl, rfl, SqL.of l5, at_ 12 (by decide), false, kf (by omega), ?_⟩
    refine iteF ?_
    refine ⟨_, rfl, p5, _, 13, _, rfl, rfl, SqL.of l5, at_ 13 (by decide), true, kt i13, ?_⟩
    refine iteT ?_
    have hq' : ∀ p H'', Ex H' H'' → H' p = none → H'' p = some (.tup [.str "right", v]) → Q (.ref p) H'' := by
      subst i13; exact hq
    exact ⟨_, rfl, a, e i, dd, fs, v, rfl, k5.1, x11, na_, hd5, hv, sz 2 (by decide), fun p np => fin _ p _ _ k5 np hq'⟩
end
end Sn
namespace Sn
open Evl (Ex)
open PySem L2 LamX
section
variable {X : Cx} {e : Nat → Addr} {CS : Addr} {Is : List Nat}
/-- _law_heard(lambda: body) -/
theorem plamG {T : List (Addr × Str)} {c Pt : Addr} {k : Nat} {params : Arguments} {body : Expr} {scope : Scope} {t : XK → TE} {p lpos pos : Pos} (B : Bt X.mg) (er : ErrF X.K X.mg e CS Is) (hd : ∃ g fd, Fun X.K "_law_heard" "_law_heard" s_l_heard g fd ∧ X.mg "_law_heard" = some (.ref g)) (TB : TabB X.base X.mg c Pt) (hcode : X.env.code = .ref c)
    (hmT : (Pt, X.env.qual ++ "<lambda>") ∈ T) (hu : ∀ p ∈ T, p.1 = Pt → p.2 = X.env.qual ++ "<lambda>") (hr : Room (k + 2) X.A) (L : LamS X.env.scope scope)
    (hbody : ∀ (A : Around) (outer : List Env) (s : Shared) (H : Hp) (E : XK) (f c' : Addr), Room k (A.deeper (lamEnv X scope s.heap.objs.size f c')) → PE (lamCx X A outer s H E scope f c') body (t E))
    (hg : Gl X "_law_heard" := by rfl) (hdef : defaultsOf params X.env = ([], []) := by rfl)
    (hbind : ∀ (q : Str) (cl : List (Str × Addr)) (pm cv ctv : Value), bindArgs (PySem.W.kla_fn "<lambda>" q params body scope cl pm cv ctv) ⟨[], []⟩ = pure [] := by intros; rfl) :
    PE X (.Call (.Name "_law_heard" p) [.Lambda params body scope lpos] [] pos) (tLam T (THd e Is) t) := by
  obtain ⟨g, fd, F, hm⟩ := hd
  have hb := F.binds (ps := ["_law_work"]) (fun _ _ _ _ _ _ us hl => match us, hl with | [_], _ => rfl)
  obtain ⟨oc, od, kV, doc, pm, an, cdv, ct, osl, rfl, lk, hcd⟩ := F.ex
  exact pe_lamcall hg hm F.kp lk hcd hb sc_l_heard rfl (.inl rfl) (heard_gives er B) TB hcode hmT hu hr L hdef hbind hbody
end
end Sn
namespace Sn
open Evl (Ex)
open PySem L2 LamX
section
variable {K : PySem.W.Frag} {e : Nat → Addr} {Is : List Nat} {Ts : List (Addr × Str)} {σ : L2.St} {H : Hp} {D : Ends} {n9 : Nat}
theorem extN_new {G H H' : Hp} {p : Addr} {o : HO} (x : ExtN G H) (x' : ExtN G H') (h : H' p = none) : ExtN G (upd H p o) := fun b u hb n => by
  rw [upd_ne (ne_of_none (x' b u hb n) h)]
  exact x b u hb n
/-- not there, but for a table -/
def NewT (H : Hp) (l : Addr) : Prop := ∀ o, H l = some o → (∀ ps, o ≠ .tbl ps) → False
theorem extN_but {G H H' : Hp} {l : Addr} (n : NewT G l) (x : ExtN G H) (y : ExtN (fun b => if b = l then none else H b) H') : ExtN G H' := fun b o hb nt => y b o (by
  have z : ¬ b = l := fun z => n o (by rw [← z]; exact hb) nt
  dsimp only
  rw [if_neg z]
  exact x b o hb nt) nt
/-- a hearing that ends by (w, v) -/
def Hears (Ts : List (Addr × Str)) (e : Nat → Addr) (Is : List Nat) (σ : L2.St) (n9 : Nat) (H : Hp) (t : XK → TE) (w : Str) (v : V) : Prop :=
  ∀ H1, ExtN H H1 → Tabs Ts H1 → ∀ (Q : VK) (y9 : Option V), (∀ p H2, ExtN H1 H2 → Tabs Ts H2 → H2 p = some (.tup [.str w, v]) → Q (.ref p) H2) → tLam Ts (THd e Is) t (σ.set n9 y9) H1 Q
theorem hear1 {t : XK → TE} {w : Str} {v : V} {rest : TS} (hn : n9 < σ.length) (hT : Tabs Ts H) (h1 : Hears Ts e Is σ n9 H t w v) (q : ∀ l p H', ExtN H H' → Tabs Ts H' → H' l = some (.lst [.ref p]) → H' p = some (.tup [.str w, v]) → NewT H l → rest D (σ.set n9 (some (.ref l))) H') :
    tSeq (tAsg (tLst (tCons (tLam Ts (THd e Is) t) tNil)) (gName n9)) rest D σ H := by
  have e0 : σ = σ.set n9 (σ[n9]'hn) := (List.set_getElem_self hn).symm
  have key := h1 H (ExtN.refl H) hT (fun x H1 => [x].length ≤ sizeLine ∧ ∀ p, H1 p = none → gName n9 (.ref p) σ (upd H1 p (.lst [x])) (rest D)) (σ[n9]'hn) fun p H2 x2 T2 hp => ⟨by show (1 : Nat) ≤ sizeLine; decide, fun l nl => ?_⟩
  · rw [← e0] at key
    exact key
  · exact q l p _ (extN_new x2 x2 nl) (T2.ext (exn nl)) upd_same ((exn nl) _ _ hp) fun o ho nt => by rw [x2 l o ho nt] at nl; cases nl
theorem hearA {t : XK → TE} {w : Str} {v : V} {rest : TS} {l : Addr} {ps : List Addr} (hn : n9 < σ.length) (hT : Tabs Ts H) (hl : H l = some (.lst (ps.map V.ref))) (pl : ps.length ≤ 100) (h1 : Hears Ts e Is σ n9 H t w v)
    (hp : ∀ p ∈ ps, H p = some (.tup [.str w, v])) (q : ∀ p H', ExtN (fun b => if b = l then none else H b) H' → Tabs Ts H' → H' l = some (.lst ((ps ++ [p]).map V.ref)) → (∀ p' ∈ ps ++ [p], H' p' = some (.tup [.str w, v])) → rest D (σ.set n9 (some (.ref l))) H') :
    tSeq (tDrop (tBM K "list" rAppend (tVar n9) (tCons (tLam Ts (THd e Is) t) tNil))) rest D (σ.set n9 (some (.ref l))) H := by
  refine ⟨.ref l, by simp [List.getElem?_set, hn], Or.inl ⟨rfl, _, SqL.of hl⟩, ?_⟩
  refine h1 H (ExtN.refl H) hT _ (some (.ref l)) fun p H2 x2 T2 hp2 => ?_
  have hl2 := x2 _ _ hl (fun _ z => by cases z)
  refine ⟨l, _, _, rfl, rfl, hl2, by rw [List.length_map, sizeLine_eq]; omega, ?_⟩
  have off : ∀ {b : Addr} {xs : List V}, H2 b = some (.tup xs) → upd H2 l (.lst (ps.map V.ref ++ [.ref p])) b = some (.tup xs) := fun {b xs} h => by
    rw [upd_ne (fun z => by rw [z, hl2] at h; cases h)]
    exact h
  refine q p _ (fun b o hb nt => ?_) ?_ (by rw [upd_same, List.map_append]; rfl) fun p' hp' => ?_
  · dsimp only at hb
    by_cases z : b = l
    · rw [if_pos z] at hb; cases hb
    · rw [if_neg z] at hb
      rw [upd_ne z]
      exact x2 b o hb nt
  · intro a ha
    obtain ⟨as, g1, g2, g3⟩ := T2 a ha
    refine ⟨as, by rw [upd_ne (fun z => by rw [z, hl2] at g1; cases g1)]; exact g1, g2, fun pos cv hc => ?_⟩
    obtain ⟨c, c1, c2⟩ := g3 pos cv hc
    exact ⟨c, c1, by rw [upd_ne (fun z => by rw [z, hl2] at c2; unfold CodeO at c2; cases c2)]; exact c2⟩
  · rcases List.mem_append.mp hp' with h | h
    · exact off (x2 _ _ (hp p' h) (fun _ z => by cases z))
    · rw [List.mem_singleton.mp h]
      exact off hp2
/-- [(w, v)] * k -/
theorem rep_due {tv : TE} {w : Str} {v : V} {k : Nat} {Q : VK} (htv : ∀ (H' : Hp) (Q' : VK), Q' v H' → tv σ H' Q') (hk : k ≤ 100) (q : ∀ l t H', Ex H H' → H' l = some (.lst (List.replicate k (.ref t))) → H' t = some (.tup [.str w, v]) → Q (.ref l) H') :
    tOp rRep (tLst (tCons (tTup (tCons (tC (.str w)) (tCons tv tNil))) tNil)) (tC (.int (k : Int))) σ H Q := by
  refine htv _ _ ⟨by show (2 : Nat) ≤ sizeLine; decide, fun t nt => ⟨by show (1 : Nat) ≤ sizeLine; decide, fun l nl => ?_⟩⟩
  have x1 := exn (o := .tup [.str w, v]) nt
  have x2 := exn (o := .lst [.ref t]) nl
  refine ⟨l, k, _, rfl, rfl, upd_same, by omega, by omega, by rw [Int.toNat_natCast, sizeLine_eq]; simp; omega, fun l2 nl2 => ?_⟩
  have x3 := exn (o := .lst (List.replicate (k : Int).toNat [V.ref t]).flatten) nl2
  refine q l2 t _ (ext x1 (ext x2 x3)) ?_ ((ext x2 x3) _ _ upd_same)
  rw [upd_same, Int.toNat_natCast]
  congr 2
  clear q x3 nl2 hk
  induction k with
  | zero => rfl
  | succ k ih => rw [List.replicate_succ, List.flatten_cons, ih, List.replicate_succ]; rfl
theorem dp_reps {v : V} {d : PyData} {w : Str} : ∀ {ps : List Addr}, (∀ p ∈ ps, H p = some (.tup [.str w, v])) → Dp K H v d → DpAll K H (ps.map V.ref) (List.replicate ps.length (.tuple [.str w, d]))
  | [], _, _ => .nil
  | p :: r, h, hd => .cons (.tup (SqT.of (h p List.mem_cons_self)) (.cons (.str _) (.cons hd .nil))) (dp_reps (fun q hq => h q (List.mem_cons_of_mem _ hq)) hd)
theorem eqv_reps {d : PyData} (h : PyData.eqv d d = true) : ∀ n : Nat, PyData.eqv (.list (List.replicate n d)) (.list (List.replicate n d)) = true := fun n => by
  rw [PyData.eqv]
  induction n with
  | zero => rfl
  | succ n ih => rw [List.replicate_succ]; simp only [PyData.eqvAll, ih, h, Bool.and_true]
theorem sh_reps {d : PyData} {n : Nat} (h : d.canLay0 = true ∧ d.depth ≤ 50) : SeqAt.shaped (.list (List.replicate n d)) = true := shaped_lst fun x hx => by
  rw [(List.mem_replicate.mp hx).2]
  exact h
/-- what was heard is what is due, k times -/
theorem due_same {k : Nat} {l l2 t : Addr} {ps : List Addr} {w : Str} {v : V} {d : PyData} (hps : ps.length = k) (hl : H l = some (.lst (ps.map V.ref))) (hp : ∀ p ∈ ps, H p = some (.tup [.str w, v])) (h2 : H l2 = some (.lst (List.replicate k (.ref t)))) (ht : H t = some (.tup [.str w, v]))
    (hd : Dp K H v d) (sh : (PyData.tuple [.str w, d]).canLay0 = true ∧ (PyData.tuple [.str w, d]).depth ≤ 50) (ev : PyData.eqv d d = true) :
    ∃ x y, Dp K H (.ref l) x ∧ Dp K H (.ref l2) y ∧ SeqAt.shaped x = true ∧ SeqAt.shaped y = true ∧ PyData.eqv x y = true := by
  have e2 : List.replicate k (V.ref t) = (List.replicate k t).map V.ref := by rw [List.map_replicate]
  rw [e2] at h2
  have a1 := dp_reps (K := K) hp hd
  have a2 := dp_reps (K := K) (ps := List.replicate k t) (fun p hp => by rw [(List.mem_replicate.mp hp).2]; exact ht) hd
  rw [hps] at a1
  rw [List.length_replicate] at a2
  have ev' : PyData.eqv (.tuple [.str w, d]) (.tuple [.str w, d]) = true := by simp [PyData.eqv, PyData.eqvAll, ev]
  exact ⟨_, _, .lst (SqL.of hl) a1, .lst (SqL.of h2) a2, sh_reps sh, sh_reps sh, eqv_reps ev' k⟩
theorem Hears.mono {H' : Hp} {t : XK → TE} {w : Str} {v : V} (h : Hears Ts e Is σ n9 H t w v) (x : ExtN H H') (y : Option V) : Hears Ts e Is (σ.set n9 y) n9 H' t w v := fun H1 x1 T1 Q y9 q => by
  rw [List.set_set]
  exact h H1 (x.trans x1) T1 Q y9 q
theorem Hears.at {H' : Hp} {t : XK → TE} {w : Str} {v : V} (h : Hears Ts e Is σ n9 H t w v) (x : ExtN H H') : Hears Ts e Is σ n9 H' t w v := fun H1 x1 T1 Q y9 q => h H1 (x.trans x1) T1 Q y9 q
/-- two hearings, three hearings -/
theorem hear2 {t1 t2 : XK → TE} {w : Str} {v : V} {rest : TS} (hn : n9 < σ.length) (hT : Tabs Ts H) (h1 : Hears Ts e Is σ n9 H t1 w v) (h2 : Hears Ts e Is σ n9 H t2 w v)
    (q : ∀ (l : Addr) (ps : List Addr) (H' : Hp), ps.length = 2 → ExtN H H' → Tabs Ts H' → H' l = some (.lst (ps.map V.ref)) → (∀ p ∈ ps, H' p = some (.tup [.str w, v])) → NewT H l → rest D (σ.set n9 (some (.ref l))) H') :
    tSeq (tAsg (tLst (tCons (tLam Ts (THd e Is) t1) tNil)) (gName n9)) (tSeq (tDrop (tBM K "list" rAppend (tVar n9) (tCons (tLam Ts (THd e Is) t2) tNil))) rest) D σ H :=
  hear1 hn hT h1 fun l p H1 x1 T1 g1 g2 nl => hearA (ps := [p]) hn T1 g1 (by simp) (h2.at x1) (fun p' hp' => by rw [List.mem_singleton.mp hp']; exact g2) fun p' H2 x2 T2 g3 g4 => q l _ H2 rfl (extN_but nl x1 x2) T2 g3 g4 nl
theorem hear3 {t1 t2 t3 : XK → TE} {w : Str} {v : V} {rest : TS} (hn : n9 < σ.length) (hT : Tabs Ts H) (h1 : Hears Ts e Is σ n9 H t1 w v) (h2 : Hears Ts e Is σ n9 H t2 w v) (h3 : Hears Ts e Is σ n9 H t3 w v)
    (q : ∀ (l : Addr) (ps : List Addr) (H' : Hp), ps.length = 3 → ExtN H H' → Tabs Ts H' → H' l = some (.lst (ps.map V.ref)) → (∀ p ∈ ps, H' p = some (.tup [.str w, v])) → NewT H l → rest D (σ.set n9 (some (.ref l))) H') :
    tSeq (tAsg (tLst (tCons (tLam Ts (THd e Is) t1) tNil)) (gName n9)) (tSeq (tDrop (tBM K "list" rAppend (tVar n9) (tCons (tLam Ts (THd e Is) t2) tNil))) (tSeq (tDrop (tBM K "list" rAppend (tVar n9) (tCons (tLam Ts (THd e Is) t3) tNil))) rest)) D σ H :=
  hear2 hn hT h1 h2 fun l ps H1 hp x1 T1 g1 g2 nl => hearA hn T1 g1 (by omega) (h3.at x1) g2 fun p' H2 x2 T2 g3 g4 => q l _ H2 (by rw [List.length_append, hp]; rfl) (extN_but nl x1 x2) T2 g3 g4 nl
/-- if what was heard is not k times (w, v) -/
theorem due_if {tv : TE} {w : Str} {v : V} {d : PyData} {k : Nat} {l : Addr} {ps : List Addr} {u rest : TS} (hl0 : σ[n9]? = some (some (.ref l))) (htv : ∀ (H' : Hp) (Q' : VK), Q' v H' → tv σ H' Q') (hk : k ≤ 100) (hps : ps.length = k) (hl : H l = some (.lst (ps.map V.ref))) (hp : ∀ p ∈ ps, H p = some (.tup [.str w, v]))
    (hd : ∀ H', Dp K H' v d) (sh : (PyData.tuple [.str w, d]).canLay0 = true ∧ (PyData.tuple [.str w, d]).depth ≤ 50) (ev : PyData.eqv d d = true) (q : ∀ H', Ex H H' → rest D σ H') :
    tSeq (tIfS (tTest (tOp (rNeD K) (tVar n9) (tOp rRep (tLst (tCons (tTup (tCons (tC (.str w)) (tCons tv tNil))) tNil)) (tC (.int (k : Int)))))) u tNext) rest D σ H := by
  refine ⟨_, hl0, rep_due htv hk fun l2 t H' x' g1 g2 => ?_⟩
  obtain ⟨x, y, dx, dy, sx, sy, hxy⟩ := due_same (K := K) hps (x' _ _ hl) (fun p hp' => x' _ _ (hp p hp')) g1 g2 (hd H') sh ev
  refine ⟨x, y, dx, dy, sx, sy, ?_⟩
  rw [hxy]
  exact ⟨_, rfl, q H' x'⟩
theorem due_eq {tv : TE} {w : Str} {v : V} {d : PyData} {k : Nat} {l : Addr} {ps : List Addr} {Q : VK} (hl0 : σ[n9]? = some (some (.ref l))) (htv : ∀ (H' : Hp) (Q' : VK), Q' v H' → tv σ H' Q') (hk : k ≤ 100) (hps : ps.length = k) (hl : H l = some (.lst (ps.map V.ref))) (hp : ∀ p ∈ ps, H p = some (.tup [.str w, v]))
    (hd : ∀ H', Dp K H' v d) (sh : (PyData.tuple [.str w, d]).canLay0 = true ∧ (PyData.tuple [.str w, d]).depth ≤ 50) (ev : PyData.eqv d d = true) (q : ∀ H', Ex H H' → Q (.bl true) H') :
    tOp (rEqD K) (tVar n9) (tOp rRep (tLst (tCons (tTup (tCons (tC (.str w)) (tCons tv tNil))) tNil)) (tC (.int (k : Int)))) σ H Q := by
  refine ⟨_, hl0, rep_due htv hk fun l2 t H' x' g1 g2 => ?_⟩
  obtain ⟨x, y, dx, dy, sx, sy, hxy⟩ := due_same (K := K) hps (x' _ _ hl) (fun p hp' => x' _ _ (hp p hp')) g1 g2 (hd H') sh ev
  refine ⟨x, y, dx, dy, sx, sy, ?_⟩
  rw [hxy]
  exact q H' x'
theorem sh_pair {w : Str} {d : PyData} (h : (PyData.str w).canLay0 = true) (h1 : d.canLay0 = true) (h2 : d.depth ≤ 40) : (PyData.tuple [.str w, d]).canLay0 = true ∧ (PyData.tuple [.str w, d]).depth ≤ 50 := by
  simp only [PyData.canLay0, PyData.canLayAll0, PyData.depth, PyData.depthAll, Bool.and_true, Bool.and_eq_true] at *
  refine ⟨⟨h, h1⟩, ?_⟩
  omega
end
end Sn
namespace Sn
open Evl (Ex)
open PySem L2
section
variable {X : Cx} {P : Program} {w : World} {K : PySem.W.Frag} {mg : Str → Option Value} {base : Heap}
theorem sc_l_row : FnScope ["_law_state", "_law_kinds_here", "_law_most", "_law_turn"] ["_law_state", "_law_kinds_here", "_law_most"] (defScope s_l_row) := ⟨rfl, rfl, rfl, by decide +kernel, rfl, by decide +kernel, by decide +kernel⟩
def spRow (K : PySem.W.Frag) : Sp := fun vs H Q _ => ∃ (F : Hp) (sa la ca a : Addr) (T m : Nat) (ks : List Str), vs = [.ref sa, .ref a, .int (m : Int)] ∧ Ex F H ∧ F sa = none ∧ F la = none ∧ Dr H sa la ca T ∧ T ≤ 10000000 ∧ m ≤ 50 ∧ SqL K F a (ks.map V.str) ∧ ks ≠ [] ∧ ks.length ≤ 1000 ∧
  ∀ (q : Addr) (ws : List Str) (H' : Hp), F q = none → ws.length ≤ m → (∀ x ∈ ws, x ∈ ks) → Ex F H' → H' q = some (.tup (ws.map V.str)) → Dr H' sa la ca (T + 60) → Q (.ref q) H'
theorem ok_row {f : Addr} {fd : FuncData} (F : Fun K "_law_row" "_law_row" s_l_row f fd) (B : Bt mg) (cDraw : Cal P w K mg base CX0 1 "_law_draw" ["_law_state", "_law_size"] spDraw)
    (cPick : Cal P w K mg base CX0 2 "_law_pick" ["_law_state", "_law_several"] (spPick K)) : FnOk P w K mg base CX0 3 f fd ["_law_state", "_law_kinds_here", "_law_most"] (spRow K) := by
  refine F.ok sc_l_row (fun vs H Q E h => ?_) (fun cdv A outer s H vs Q E hr h => ?_)
  · obtain ⟨_, _, _, _, _, _, _, _, rfl, _⟩ := h
    rfl
  · obtain ⟨G, sa, la, ca, a, T, m, ks, rfl, eG, ns, nl, D, hT, hm, ha, h0, hl, k⟩ := h
    refine ⟨_, (pss_one (ps_ret (pe_tupleOf (by rfl) B.tuple (pe_lc (own := [("_law_turn", 3)]) (by rfl) sc_l_row.nd (pi_range1 rfl B.range (pa_cons (pcall cDraw (hr.mono (by decide)) (pa_cons (pv 0) (pa_cons (pe_op op_add (pv 2) pe_int) pa_nil))) pa_nil)) (blkOk_by (own := [("_law_turn", 3)]) (N := ["_law_state", "_law_kinds_here", "_law_most", "_law_turn"]) (sc := defScope s_l_row) (by decide +kernel)) (fun _ _ _ _ _ => (pg_name (i := 3) sc_l_row.nd rfl (Or.inl rfl))) (fun _ _ _ _ _ => pts_nil) (fun _ _ _ _ _ => (pcall cPick (hr.mono (by decide)) (pa_cons (pv 0) (pa_cons (pv 1) pa_nil)))))))), ?_⟩
    refine ⟨_, rfl, _, rfl, _, _, rfl, rfl, G, sa, la, ca, T, (m : Int) + 1, rfl, eG, ns, nl, D, by omega, by omega, by omega, fun r H1 r0 r1 e1 D1 => ⟨r, rfl, by omega, by omega, fun Dl nD => ?_⟩⟩
    have nDG : G Dl = none := exb e1 nD
    have Ds := D1.sne nD
    have Dls := D1.lne nD
    have Dcs := D1.cne nD
    have hl0 : 0 < ks.length := List.length_pos_iff.mpr h0
    refine lc_range (lo := 0) (n := r.toNat) (fun j H' => ∃ ws : List Str, Ex G H' ∧ H' Dl = some (.lst (ws.map V.str)) ∧ ws.length = j ∧ (∀ x ∈ ws, x ∈ ks) ∧ Dr H' sa la ca (T + 1 + j)) ⟨[], exm e1 nDG, upd_same, rfl, fun _ h => (nomatch h), D1.new nD⟩ ?_ ?_
    · rintro j H2 hj ⟨ws, e2, h2, l2, g2, D2⟩
      refine ⟨rfl, _, rfl, _, rfl, upd G Dl (.lst (ws.map V.str)), sa, la, ca, T + 1 + j, _, rfl, exp e2 h2, updn ns Ds.symm, updn nl Dls.symm, D2, by omega, .inl ⟨a, ks.map V.str, rfl, Evl.ex_l (exn nDG) ha, by simpa using h0, by rw [List.length_map]; omega, fun jj x H3 hx e3 D3 => ?_⟩⟩
      rw [List.getElem?_map] at hx
      cases hz : ks[jj]? with
      | none => rw [hz] at hx; cases hx
      | some y =>
        rw [hz] at hx
        obtain rfl : V.str y = x := Option.some.inj hx
        have h3 := e3 _ _ (upd_same (H := G))
        refine ⟨_, h3, ?_, ws ++ [y], ?_, ?_, ?_, ?_, ?_⟩
        · rw [List.length_map, sizeLine_eq]
          omega
        · exact exm (fun a u h => e3 a u (by rw [upd_ne (ne_of_none h nDG)]; exact h)) nDG
        · rw [upd_same, List.map_append]
          rfl
        · rw [List.length_append, l2]
          rfl
        · intro x hx
          rcases List.mem_append.mp hx with h' | h'
          · exact g2 x h'
          · rw [List.mem_singleton.mp h']
            exact List.mem_of_getElem? hz
        · exact (D3.upd Ds Dls Dcs).mono (by omega)
    · rintro H2 ⟨ws, e2, h2, l2, g2, D2⟩
      refine .inl ⟨Dl, _, rfl, SqL.of h2, fun q nq => ?_⟩
      exact k q ws _ (exb e2 nq) (by omega) g2 (ext e2 (exn nq)) upd_same ((D2.new nq).mono (by omega))
end
end Sn
namespace Sn
open Evl (Ex)
open PySem L2
section
variable {X : Cx} {P : Program} {w : World} {K : PySem.W.Frag} {mg : Str → Option Value} {base : Heap}
theorem mk_dkv (la ca : Addr) (r t : Int) : mergeK [] [((Sum.inr ("large" : Str) : Key), V.ref la), (Sum.inr ("cells" : Str), V.ref ca), (Sum.inr ("rest" : Str), V.int r), (Sum.inr ("turn" : Str), V.int t)] = dkv la ca r t := by
  show putK (putK (putK (putK ([] : List (Key × V)) (Sum.inr ("large" : Str)) (V.ref la)) (Sum.inr ("cells" : Str)) (V.ref ca)) (Sum.inr ("rest" : Str)) (V.int r)) (Sum.inr ("turn" : Str)) (V.int t) = _
  have e1 : putK ([] : List (Key × V)) (Sum.inr ("large" : Str)) (V.ref la) = [(Sum.inr ("large" : Str), V.ref la)] := putK_new _ valV_nil
  have e2 : putK ([(Sum.inr ("large" : Str), V.ref la)] : List (Key × V)) (Sum.inr ("cells" : Str)) (V.ref ca) = [(Sum.inr ("large" : Str), V.ref la), (Sum.inr ("cells" : Str), V.ref ca)] := putK_new _ ((valV_neg (kn sLC)).trans valV_nil)
  have e3 : putK ([(Sum.inr ("large" : Str), V.ref la), (Sum.inr ("cells" : Str), V.ref ca)] : List (Key × V)) (Sum.inr ("rest" : Str)) (V.int r) = [(Sum.inr ("large" : Str), V.ref la), (Sum.inr ("cells" : Str), V.ref ca), (Sum.inr ("rest" : Str), V.int r)] := putK_new _ ((valV_neg (kn sLR)).trans ((valV_neg (kn sCR)).trans valV_nil))
  have e4 : putK ([(Sum.inr ("large" : Str), V.ref la), (Sum.inr ("cells" : Str), V.ref ca), (Sum.inr ("rest" : Str), V.int r)] : List (Key × V)) (Sum.inr ("turn" : Str)) (V.int t) = dkv la ca r t := putK_new _ ((valV_neg (kn sLT)).trans ((valV_neg (kn sCT)).trans ((valV_neg (kn sRT)).trans valV_nil)))
  rw [e1, e2, e3, e4]
theorem sc_l_begun : FnScope ["_law_script", "_law_cells", "_law_cell"] ["_law_script"] (defScope s_l_begun) := ⟨rfl, rfl, rfl, by decide +kernel, rfl, by decide +kernel, by decide +kernel⟩
def spBegun (K : PySem.W.Frag) : Sp := fun vs H Q _ => ∃ (a : Addr) (ns : List Int), vs = [.ref a] ∧ SqL K H a (ns.map V.int) ∧ ns.length ≤ 63 ∧
  ∀ (sa la ca : Addr) (H' : Hp), H sa = none → H la = none → H ca = none → Ex H H' → Dr H' sa la ca 0 → Q (.ref sa) H'
theorem ok_begun {f : Addr} {fd : FuncData} (F : Fun K "_law_begun" "_law_begun" s_l_begun f fd) (B : Bt mg) : FnOk P w K mg base CX0 1 f fd ["_law_script"] (spBegun K) := by
  refine F.ok sc_l_begun (fun vs H Q E h => ?_) (fun cdv A outer s H vs Q E hr h => ?_)
  · obtain ⟨_, _, rfl, _⟩ := h
    rfl
  · obtain ⟨a, ns, rfl, hS, hl, k⟩ := h
    refine ⟨_, (pss_cons (ps_setLc (i := 1) (own := [("_law_cell", 2)]) (by rfl) sc_l_begun.nd rfl rfl (sw_true rfl rfl rfl (by decide +kernel)) (pi_list (pv 0)) (blkOk_by (own := [("_law_cell", 2)]) (N := ["_law_script", "_law_cells", "_law_cell"]) (sc := defScope s_l_begun) (by decide +kernel)) (fun _ _ _ _ _ => (pg_name (i := 2) sc_l_begun.nd rfl (Or.inl rfl))) (fun _ _ _ _ _ => pts_nil) (fun _ _ _ _ _ => (pe_callB call_abs (by rfl) B.abs (by decide +kernel) (pa_cons (pv 2) pa_nil))))
      (pss_one (ps_ret (pe_disp (pps_cons pe_str (pe_lc (own := [("_law_cell", 2)]) (by rfl) sc_l_begun.nd (pi_list (pv 1)) (blkOk_by (own := [("_law_cell", 2)]) (N := ["_law_script", "_law_cells", "_law_cell"]) (sc := defScope s_l_begun) (by decide +kernel)) (fun _ _ _ _ _ => (pg_name (i := 2) sc_l_begun.nd rfl (Or.inl rfl))) (fun _ _ _ _ _ => (pts_one (pt_cmpR op_ge (pv 2) (pe_op op_pow pe_int pe_int) (nomark _)))) (fun _ _ _ _ _ => (pe_op op_sub (pv 2) (pe_op op_pow pe_int pe_int)))) (pps_cons pe_str (pv 1) (pps_cons pe_str pe_int (pps_cons pe_str pe_int pps_nil)))) (by rfl) (by rfl) (fun z => by cases z) (by decide))))), ?_⟩
    refine ⟨_, rfl, a, rfl, ⟨_, hS⟩, fun ca nca => ?_⟩
    have abs_ : ∀ z : Int, (if z < 0 then -z else z) = (z.natAbs : Int) := fun z => by omega
    refine lc_list (xs := ns.map V.int) (fun i H' => Ex H H' ∧ H' ca = some (.lst (((ns.take i).map fun z => (z.natAbs : Int)).map V.int))) ⟨exn nca, upd_same⟩ (fun i H' _ p => Evl.ex_l p.1 hS) ?_ ?_
    · rintro i x H1 hi ⟨e1, h1⟩
      rw [List.getElem?_map] at hi
      cases hz : ns[i]? with
      | none => rw [hz] at hi; cases hi
      | some z =>
        rw [hz] at hi
        obtain rfl : V.int z = x := Option.some.inj hi
        have hlt : i < ns.length := (List.getElem?_eq_some_iff.mp hz).1
        refine ⟨rfl, _, rfl, z, rfl, _, h1, ?_, exm e1 nca, ?_⟩
        · rw [List.length_map, List.length_map, sizeLine_eq]
          have := List.length_take_le' i ns
          omega
        · rw [upd_same, abs_, List.take_succ, hz]
          simp
    · rintro H1 ⟨e1, h1⟩
      rw [show (ns.map V.int).length = ns.length from List.length_map _, List.take_length] at h1
      intro sa nsa
      have h1' : upd H1 sa (.dK []) ca = some (.lst ((ns.map fun z => (z.natAbs : Int)).map V.int)) := (exn nsa) _ _ h1
      refine ⟨_, rfl, ca, rfl, ⟨_, SqL.of h1'⟩, fun la nla => ?_⟩
      have slc : sa ≠ la := fun e => by rw [← e, upd_same] at nla; cases nla
      have clc : ca ≠ la := ne_of_none h1' nla
      have csc : ca ≠ sa := ne_of_none h1 nsa
      refine lc_list (xs := (ns.map fun z => (z.natAbs : Int)).map V.int) (fun i H' => Ex (upd H1 sa (.dK [])) H' ∧ ∃ ls : List Int, H' la = some (.lst (ls.map V.int)) ∧ (∀ x ∈ ls, 0 ≤ x) ∧ ls.length ≤ i) ⟨exn nla, [], upd_same, fun _ h => (nomatch h), Nat.le_refl _⟩ (fun i H' _ p => SqL.of (p.1 _ _ h1')) ?_ ?_
      · rintro i x H2 hi ⟨e2, ls, h2, g1, g2⟩
        rw [List.map_map, List.getElem?_map] at hi
        cases hz : ns[i]? with
        | none => rw [hz] at hi; cases hi
        | some z =>
          rw [hz] at hi
          obtain rfl : V.int (z.natAbs : Int) = x := Option.some.inj hi
          have hlt : i < ns.length := (List.getElem?_eq_some_iff.mp hz).1
          refine ⟨rfl, _, rfl, 10, 18, rfl, rfl, ⟨by decide, by decide, by decide⟩, _, _, rfl, rfl, _, rfl, ?_⟩
          by_cases hb : (10 : Int) ^ (18 : Int).toNat ≤ (z.natAbs : Int)
          · rw [decide_eq_true hb]
            refine iteT ?_
            refine ⟨_, rfl, 10, 18, rfl, rfl, ⟨by decide, by decide, by decide⟩, _, _, rfl, rfl, _, h2, ?_, exm e2 nla, ls ++ [(z.natAbs : Int) - 10 ^ (18 : Int).toNat], ?_, ?_, ?_⟩
            · rw [List.length_map, sizeLine_eq]
              omega
            · rw [upd_same, List.map_append]
              rfl
            · intro y hy
              rcases List.mem_append.mp hy with h' | h'
              · exact g1 y h'
              · rw [List.mem_singleton.mp h']
                omega
            · rw [List.length_append]
              show ls.length + 1 ≤ i + 1
              omega
          · rw [decide_eq_false hb]
            refine iteF ?_
            exact ⟨e2, ls, h2, g1, by omega⟩
      · rintro H2 ⟨e2, ls, h2, g1, g2⟩
        have g2' : ls.length ≤ 63 := by
          rw [List.length_map, List.length_map] at g2
          omega
        refine ⟨_, rfl, e2 _ _ upd_same, [((Sum.inr ("large" : Str) : Key), V.ref la), (Sum.inr ("cells" : Str), V.ref ca), (Sum.inr ("rest" : Str), V.int 0), (Sum.inr ("turn" : Str), V.int 0)], rfl, by show 4 ≤ 15; decide, ?_⟩
        rw [mk_dkv]
        have h2a := e2 _ _ h1'
        refine k sa la ca _ (exb e1 nsa) (exb (ext e1 (exn nsa)) nla) nca ?_ ⟨⟨ls, (ns.map fun z => (z.natAbs : Int)), 0, 0, upd_same, ?_, ?_, g1, by decide, by decide, by decide, g2', by rw [List.length_map]; exact hl⟩, slc, csc.symm, clc.symm⟩
        · exact exm (ext e1 (ext (exn nsa) e2)) (exb e1 nsa)
        · rw [upd_ne slc.symm]; exact h2
        · rw [upd_ne csc]; exact h2a
end
end Sn
namespace Sn
open Evl (Ex)
open PySem L2 LamX
/-- an edition and a row, the source of draws, the tables -/
structure Q3 (CE sa la ca : Addr) (Ts : List (Addr × Str)) (F : Hp) (fo tr : Addr) (st : List StE) (tl : List (Str × Str)) (s0 : Str) (row : List Str) (T : Nat) (H : Hp) : Prop where
  D : Dr H sa la ca T
  tb : Tabs Ts H
  fr : ExtN F H
  nf : F sa = none ∧ F la = none
  E : EdAt CE H fo st tl s0
  tr : H tr = some (.tup (row.map V.str))
section
variable {K : PySem.W.Frag} {CE sa la ca fo tr : Addr} {Ts : List (Addr × Str)} {F H H' : Hp} {st : List StE} {tl : List (Str × Str)} {s0 : Str} {row : List Str} {T T' : Nat} {σ : L2.St}
theorem Q3.ext (a : Q3 CE sa la ca Ts F fo tr st tl s0 row T H) (x : Ex H H') : Q3 CE sa la ca Ts F fo tr st tl s0 row T H' := ⟨a.D.ext x, a.tb.ext x, a.fr.trans (ExtN.of x), a.nf, a.E.ex x, x _ _ a.tr⟩
theorem Q3.exN (a : Q3 CE sa la ca Ts F fo tr st tl s0 row T H) (x : ExtN H H') (t : Tabs Ts H') : Q3 CE sa la ca Ts F fo tr st tl s0 row T H' := ⟨a.D.exN x, t, a.fr.trans x, a.nf, a.E.exN x, x _ _ a.tr (fun _ z => by cases z)⟩
theorem Q3.cutE (a : Q3 CE sa la ca Ts F fo tr st tl s0 row T H) (x : Ex (cut H sa la) H') (D : Dr H' sa la ca T') : Q3 CE sa la ca Ts F fo tr st tl s0 row T' H' := ⟨D, tabs_cut a.tb a.D x, fun b o hb n => cut_to x (a.fr b o hb n) (ne_of_none hb a.nf.1) (ne_of_none hb a.nf.2), a.nf, a.E.cutE a.D x, cut_to x a.tr (a.D.tn a.tr).1 (a.D.tn a.tr).2⟩
/-- one of a list of values that is made on the spot -/
theorem pick3 {Q : VK} {tm : TE} {Pr : Hp → V → Prop} {j : Nat} (h1 : σ[j]? = some (some (.ref sa))) (a : Q3 CE sa la ca Ts F fo tr st tl s0 row T H) (hT : T ≤ 1000000)
    (htl : ∀ Q' : VK, (∀ p xs H1, Ex H H1 → H1 p = some (.lst xs) → p ≠ sa → p ≠ la → xs ≠ [] → xs.length ≤ 1000 → (∀ x ∈ xs, Pr H1 x ∧ Off sa la x) → Q' (.ref p) H1) → tm σ H Q')
    (mono : ∀ H1 H2 x, Pr H1 x → (∀ p o, x = .ref p → H1 p = some o → (∀ ps, o ≠ .tbl ps) → H2 p = some o) → Pr H2 x)
    (q : ∀ x H2, Pr H2 x → Off sa la x → Ex (cut H sa la) H2 → Q3 CE sa la ca Ts F fo tr st tl s0 row (T + 1) H2 → Q x H2) :
    tCall (spPick K) [] E0 (tCons (tVar j) (tCons tm tNil)) σ H Q := by
  refine ⟨_, h1, htl _ fun p xs H1 x1 hp n1 n2 x0 xl hx => ?_⟩
  have a1 := a.ext x1
  refine ⟨cut H1 sa la, sa, la, ca, T, .ref p, rfl, cut_ex, cut_s, cut_l, a1.D, by omega, .inl ⟨p, xs, rfl, SqL.of (cut_at hp n1 n2), x0, by omega, fun j x H2 hj e2 D2 => ?_⟩⟩
  obtain ⟨h, o⟩ := hx x (List.mem_of_getElem? hj)
  have a2 := a1.cutE e2 D2
  exact q x H2 (mono _ _ _ h (fun p o' z h' _ => cut_to e2 h' (o p z).1 (o p z).2)) o (ext (cut_up (ext cut_ex x1) cut_s cut_l) e2) a2
/-- a value of some kind -/
def OVs (CE : Addr) (Ok : Tag → Prop) (H : Hp) (x : V) : Prop := ∃ tg, OV CE H x tg ∧ Ok tg
theorem OVs.map {Ok : Tag → Prop} {x : V} (h : OVs CE Ok H x) (k : ∀ p o, x = .ref p → H p = some o → (∀ ps, o ≠ .tbl ps) → H' p = some o) : OVs CE Ok H' x := by
  obtain ⟨tg, h, o⟩ := h
  exact ⟨tg, h.map k, o⟩
theorem OVs.exN {Ok : Tag → Prop} {x : V} (h : OVs CE Ok H x) (k : ExtN H H') : OVs CE Ok H' x := h.map fun p o _ hp n => k p o hp n
theorem off_no {x : V} (h : ∀ p, x ≠ .ref p) : Off sa la x := fun p z => absurd z (h p)
end
end Sn
namespace Sn
open Evl (Ex)
open PySem L2 LamX
abbrev sp1 (K : PySem.W.Frag) (CE : Addr) (e : Nat → Addr) : Sp := fun vs H Q E => spCallE K CE (e 11) (e 1) (vs ++ [.non]) H Q E
abbrev sp2 (K : PySem.W.Frag) (CE : Addr) (e : Nat → Addr) : Sp := fun vs H Q E => spCallE K CE (e 11) (e 1) (vs ++ []) H Q E
/-- all that the law's own defs lean on -/
structure L3 (P : Program) (w : World) (K : PySem.W.Frag) (mg : Str → Option Value) (base : Heap) (e : Nat → Addr) (CS CE : Addr) : Prop where
  B : Bt mg
  er : ErrF K mg e CS [1, 11]
  hd : ∃ g fd, Fun K "_law_heard" "_law_heard" s_l_heard g fd ∧ mg "_law_heard" = some (.ref g)
  L : EdC K CE
  I : InsI K CE
  call : ∃ f fd, StX.CallO K CE f ∧ FnOk P w K mg base (L2.CX P w) 4 f fd ["self", "row", "at"] (spCallE K CE (e 11) (e 1)) ∧ Binds K fd ["self", "row", "at"] [.none] ∧ Binds K fd ["self", "row", "at"] []
  told : CalM P w K mg base (L2.CX P w) 5 CE "told" ["self", "row"] (spTold K CE (e 11))
  draw : Cal P w K mg base CX0 1 "_law_draw" ["_law_state", "_law_size"] spDraw
  pick : Cal P w K mg base CX0 2 "_law_pick" ["_law_state", "_law_several"] (spPick K)
  row : Cal P w K mg base CX0 3 "_law_row" ["_law_state", "_law_kinds_here", "_law_most"] (spRow K)
  any : Cal P w K mg base CX0 4 "_law_any_told" ["_law_state", "_law_most_states", "_law_most_kinds"] spAnyTold
  led : Cal P w K mg base CX0 1 "_law_led" ["_law_told", "_law_place", "_law_row_here"] (spLLed K)
  kinds : Cal P w K mg base CX0 1 "_law_kinds" ["_law_told"] spLKinds
  ed : Cal P w K mg base CX0 6 "_law_edition" ["_law_told"] (spLEd CE)
  begun : Cal P w K mg base CX0 1 "_law_begun" ["_law_script"] (spBegun K)
section
variable {P : Program} {w : World} {K : PySem.W.Frag} {mg : Str → Option Value} {base : Heap} {e : Nat → Addr} {CS CE : Addr}
theorem sc_l_refused_right : FnScope ["_law_state", "_law_fold", "_law_trail", "_law_odd", "_law_spot", "_law_far", "_law_spoilt", "_law_other", "_law_strange", "_law_heard_here"] ["_law_state", "_law_fold", "_law_trail"] (defScope s_l_refused_right) := ⟨rfl, rfl, rfl, by decide +kernel, rfl, by decide +kernel, by decide +kernel⟩
def spRefused (CE : Addr) (Ts : List (Addr × Str)) : Sp := fun vs H Q _ => ∃ (F : Hp) (sa la ca fo tr : Addr) (T : Nat) (st : List StE) (tl : List (Str × Str)) (s0 : Str) (row : List Str), vs = [.ref sa, .ref fo, .ref tr] ∧ ExtN F H ∧ F sa = none ∧ F la = none ∧ Dr H sa la ca T ∧ T ≤ 900000 ∧ Tabs Ts H ∧
  EdAt CE H fo st tl s0 ∧ StV st ∧ TlV st tl ∧ s0 ∈ st.map (·.1) ∧ H tr = some (.tup (row.map V.str)) ∧ (∀ k ∈ row, k ∈ kinds st) ∧ row.length ≤ 10000 ∧ (∀ k ∈ kinds st, Wd k) ∧ ∀ H', ExtN F H' → Dr H' sa la ca (T + 10) → Tabs Ts H' → Q (.bl true) H'
theorem ok_refused {f c Pt : Addr} {fd : FuncData} {Ts : List (Addr × Str)} (F : FunT K "_law_refused_right" "_law_refused_right" s_l_refused_right f fd c) (W : L3 P w K mg base e CS CE) (TB : TabB base mg c Pt) (hmT : (Pt, ("_law_refused_right.<locals>.<lambda>" : Str)) ∈ Ts) (hu' : ∀ p ∈ Ts, p.1 = Pt → p.2 = ("_law_refused_right.<locals>.<lambda>" : Str)) :
    FnOk P w K mg base CX0 8 f fd ["_law_state", "_law_fold", "_law_trail"] (spRefused CE Ts) := by
  refine F.ok sc_l_refused_right (fun vs H Q E h => ?_) (fun A outer s H vs Q E hr h => ?_)
  · obtain ⟨_, _, _, _, _, _, _, _, _, _, _, rfl, _⟩ := h
    rfl
  · obtain ⟨G, sa, la, ca, fo, tr, T, st, tl, s0, row, rfl, eG, n1, n2, D, hT, hTs, hE, V, Wt, hs, htr, hk, rl, kw, k⟩ := h
    obtain ⟨fc, fdc, cC, FC, bC1, bC2⟩ := W.call
    have hu := hu_of hr
    have B := W.B
    refine ⟨_, (pss_cons (ps_set (i := 3) sc_l_refused_right.nd rfl (.inl rfl) (pcall W.pick (hr.mono (by decide)) (pa_cons (pv 0) (pa_cons (pe_lst (pa_cons pe_non (pa_cons pe_int (pa_cons pe_bl (pa_cons pe_str (pa_cons pe_str (pa_cons (pe_tup (pa_cons pe_str pa_nil)) (pa_cons (pe_lst pa_nil) (pa_cons pe_dnewK (pa_cons pe_str (pa_cons (pv 1) pa_nil))))))))))) pa_nil))))
      (pss_cons (ps_par (i := 4) (j := 5) (by rfl) sc_l_refused_right.nd rfl rfl (by decide) rfl rfl (pa_cons (pcall W.draw (hr.mono (by decide)) (pa_cons (pv 0) (pa_cons (pe_op op_add (pe_callB call_len (by rfl) B.len PySem.boot_len (pa_cons (pv 2) pa_nil)) pe_int) pa_nil))) (pa_cons (pcall W.pick (hr.mono (by decide)) (pa_cons (pv 0) (pa_cons (pe_lst (pa_cons (pe_tup pa_nil) (pa_cons (pe_tup (pa_cons pe_non pa_nil)) pa_nil))) pa_nil))) pa_nil)) (by rfl))
      (pss_cons (ps_set (i := 6) sc_l_refused_right.nd rfl (.inr rfl) (pe_op op_catA (pe_op op_catA (pe_op op_catA (pe_slice sl_tupA (pv 2) po_none (po_some (pv 4))) (pe_tup (pa_cons (pv 3) pa_nil))) (pe_slice sl_tupA (pv 2) (po_some (pv 4)) po_none)) (pv 5)))
      (pss_cons (ps_set (i := 7) sc_l_refused_right.nd rfl (.inr rfl) (pcall W.pick (hr.mono (by decide)) (pa_cons (pv 0) (pa_cons (pe_lst (pa_cons pe_non (pa_cons pe_int (pa_cons pe_str (pa_cons (pe_callTy call_list_of (by rfl) B.list PyProof.Rows.boot_list (pa_cons (pv 2) pa_nil)) (pa_cons pe_dnewK (pa_cons (pv 1) (pa_cons pe_bl pa_nil)))))))) pa_nil))))
      (pss_cons (ps_set (i := 8) sc_l_refused_right.nd rfl (.inr rfl) (pcall W.pick (hr.mono (by decide)) (pa_cons (pv 0) (pa_cons (pe_lst (pa_cons pe_int (pa_cons pe_bl (pa_cons pe_str (pa_cons pe_str (pa_cons (pe_tup pa_nil) (pa_cons (pe_lst pa_nil) (pa_cons pe_dnewK (pa_cons pe_str (pa_cons (pv 1) (pa_cons pe_int pa_nil))))))))))) pa_nil))))
      (pss_cons (ps_set (i := 9) sc_l_refused_right.nd rfl (.inl rfl) (pe_lst (pa_cons (plamG (k := 5) (T := Ts) (t := fun E => tCO CE (sp1 K CE e) 1 6 E) B W.er W.hd TB rfl hmT hu' hr (lamS_by (sc := defScope s_l_refused_right) (by decide +kernel)) (fun A' outer' s' H' E' f' c' hr' => pe_weak (StX.pe_callO (pv 1) cC (FC.raw (dvs := [.non]) bC1 (.cons rfl .nil)) (hr'.mono (by decide)) (passes_call tkL fun _ _ _ _ h => h) (pa_cons (pv 6) pa_nil)) co_of)) pa_nil)))
      (pss_cons (ps_expr (pe_bm PySem.F.plainAttrs_list PySem.F.slot_list_append PySem.F.type_list_append mt_append (pv 9) (pa_cons (plamG (k := 5) (T := Ts) (t := fun E => tCO2 CE (sp2 K CE e) 1 6 8 E) B W.er W.hd TB rfl hmT hu' hr (lamS_by (sc := defScope s_l_refused_right) (by decide +kernel)) (fun A' outer' s' H' E' f' c' hr' => pe_weak (StX.pe_callO (pv 1) cC (FC.raw bC2 .nil) (hr'.mono (by decide)) (passes_call tkL fun _ _ _ _ h => h) (pa_cons (pv 6) (pa_cons (pv 8) pa_nil))) co2_of)) pa_nil)))
      (pss_cons (ps_expr (pe_bm PySem.F.plainAttrs_list PySem.F.slot_list_append PySem.F.type_list_append mt_append (pv 9) (pa_cons (plamG (k := 5) (T := Ts) (t := fun E => tMeth CE "told" (spTold K CE (e 11)) [] E (tVar 1) (tCons (tVar 6) tNil)) B W.er W.hd TB rfl hmT hu' hr (lamS_by (sc := defScope s_l_refused_right) (by decide +kernel)) (fun A' outer' s' H' E' f' c' hr' => pmethX W.told tkL W.L.cls hr' (pv 1) (pa_cons (pv 6) pa_nil))) pa_nil)))
      (pss_cons (ps_if (pt_cmpR (op_neD hr.units) (pv 9) (pe_op L2.op_rep (pe_lst (pa_cons (pe_tup (pa_cons pe_str (pa_cons (pv 4) pa_nil))) pa_nil)) pe_int) (nomark _))
        (pss_one (ps_ret pe_bl))
        pss_nil)
      (pss_cons (ps_set (i := 9) sc_l_refused_right.nd rfl (.inl rfl) (pe_lst (pa_cons (plamG (k := 5) (T := Ts) (t := fun E => tCO CE (sp1 K CE e) 1 7 E) B W.er W.hd TB rfl hmT hu' hr (lamS_by (sc := defScope s_l_refused_right) (by decide +kernel)) (fun A' outer' s' H' E' f' c' hr' => pe_weak (StX.pe_callO (pv 1) cC (FC.raw (dvs := [.non]) bC1 (.cons rfl .nil)) (hr'.mono (by decide)) (passes_call tkL fun _ _ _ _ h => h) (pa_cons (pv 7) pa_nil)) co_of)) pa_nil)))
      (pss_cons (ps_expr (pe_bm PySem.F.plainAttrs_list PySem.F.slot_list_append PySem.F.type_list_append mt_append (pv 9) (pa_cons (plamG (k := 5) (T := Ts) (t := fun E => tMeth CE "told" (spTold K CE (e 11)) [] E (tVar 1) (tCons (tVar 7) tNil)) B W.er W.hd TB rfl hmT hu' hr (lamS_by (sc := defScope s_l_refused_right) (by decide +kernel)) (fun A' outer' s' H' E' f' c' hr' => pmethX W.told tkL W.L.cls hr' (pv 1) (pa_cons (pv 7) pa_nil))) pa_nil)))
      (pss_cons (ps_expr (pe_bm PySem.F.plainAttrs_list PySem.F.slot_list_append PySem.F.type_list_append mt_append (pv 9) (pa_cons (plamG (k := 5) (T := Ts) (t := fun E => tCO2 CE (sp2 K CE e) 1 7 8 E) B W.er W.hd TB rfl hmT hu' hr (lamS_by (sc := defScope s_l_refused_right) (by decide +kernel)) (fun A' outer' s' H' E' f' c' hr' => pe_weak (StX.pe_callO (pv 1) cC (FC.raw bC2 .nil) (hr'.mono (by decide)) (passes_call tkL fun _ _ _ _ h => h) (pa_cons (pv 7) (pa_cons (pv 8) pa_nil))) co2_of)) pa_nil)))
      (pss_cons (ps_if (pt_cmpR (op_neD hr.units) (pv 9) (pe_op L2.op_rep (pe_lst (pa_cons (pe_tup (pa_cons pe_str (pa_cons pe_int pa_nil))) pa_nil)) pe_int) (nomark _))
        (pss_one (ps_ret pe_bl))
        pss_nil)
      (pss_cons (ps_set (i := 9) sc_l_refused_right.nd rfl (.inl rfl) (pe_lst (pa_cons (plamG (k := 5) (T := Ts) (t := fun E => tCO2 CE (sp2 K CE e) 1 2 8 E) B W.er W.hd TB rfl hmT hu' hr (lamS_by (sc := defScope s_l_refused_right) (by decide +kernel)) (fun A' outer' s' H' E' f' c' hr' => pe_weak (StX.pe_callO (pv 1) cC (FC.raw bC2 .nil) (hr'.mono (by decide)) (passes_call tkL fun _ _ _ _ h => h) (pa_cons (pv 2) (pa_cons (pv 8) pa_nil))) co2_of)) pa_nil)))
      (pss_cons (ps_expr (pe_bm PySem.F.plainAttrs_list PySem.F.slot_list_append PySem.F.type_list_append mt_append (pv 9) (pa_cons (plamG (k := 5) (T := Ts) (t := fun E => tCO0 CE (sp2 K CE e) 1 8 E) B W.er W.hd TB rfl hmT hu' hr (lamS_by (sc := defScope s_l_refused_right) (by decide +kernel)) (fun A' outer' s' H' E' f' c' hr' => pe_weak (StX.pe_callO (pv 1) cC (FC.raw bC2 .nil) (hr'.mono (by decide)) (passes_call tkL fun _ _ _ _ h => h) (pa_cons (pe_tup pa_nil) (pa_cons (pv 8) pa_nil))) co0_of)) pa_nil)))
      (pss_one (ps_ret (pe_cmpR (op_eqD hr.units) (pv 9) (pe_op L2.op_rep (pe_lst (pa_cons (pe_tup (pa_cons pe_str (pa_cons pe_non pa_nil))) pa_nil)) pe_int) (nomark _))))))))))))))))))), ?_⟩
    have two : (2 : Nat) ≤ sizeLine := by decide
    have one : (1 : Nat) ≤ sizeLine := by decide
    have nw : ∀ s : Str, isWd s = false → ¬ Wd s := fun s h z => by rw [isWd_of z] at h; cases h
    have a0 : Q3 CE sa la ca Ts G fo tr st tl s0 row T H := ⟨D, hTs, eG, ⟨n1, n2⟩, hE, htr⟩
    -- odd
    refine u_asg ?_
    refine pick3 (K := K) (Pr := OVs CE fun tg => ∀ s, tg = .str s → ¬ Wd s) rfl a0 (by omega) (fun Q' hq => ?_) (fun H1 H2 x h k => h.map k) (fun odd H1 hodd oodd e1 a1 => ?_)
    · refine ⟨one, fun t1 m1 => ⟨Nat.zero_le _, fun t2 m2 => fun t3 m3 => ⟨_, rfl, by show (10 : Nat) ≤ sizeLine; decide, fun t4 m4 => ?_⟩⟩⟩
      have x1 := exn (o := .tup [.str "a"]) m1
      have x2 := exn (o := .lst []) m2
      have x3 := exn (o := .dK []) m3
      have x4 := exn (o := .lst [.non, .int 5, .bl true, .str "", .str "Zz", .ref t1, .ref t2, .ref t3, .str "qqqqqqq", .ref fo]) m4
      have d2 := a0.D.ext x1
      have d3 := d2.ext x2
      have d4 := d3.ext x3
      obtain ⟨dx, fs, gi⟩ := a0.E.ins
      refine hq t4 _ _ (ext x1 (ext x2 (ext x3 x4))) upd_same (d4.sne m4) (d4.lne m4) (by simp) (by simp) fun x hx => ?_
      simp only [List.mem_cons, List.not_mem_nil, or_false] at hx
      rcases hx with rfl | rfl | rfl | rfl | rfl | rfl | rfl | rfl | rfl | rfl
      · exact ⟨⟨.non, rfl, fun _ z => by cases z⟩, off_no (fun _ z => by cases z)⟩
      · exact ⟨⟨.int, ⟨_, rfl⟩, fun _ z => by cases z⟩, off_no (fun _ z => by cases z)⟩
      · exact ⟨⟨.bl, ⟨_, rfl⟩, fun _ z => by cases z⟩, off_no (fun _ z => by cases z)⟩
      · exact ⟨⟨.str _, rfl, fun _ z => by cases z; exact nw _ (by decide +kernel)⟩, off_no (fun _ z => by cases z)⟩
      · exact ⟨⟨.str _, rfl, fun _ z => by cases z; exact nw _ (by decide +kernel)⟩, off_no (fun _ z => by cases z)⟩
      · exact ⟨⟨.tup, ⟨_, _, rfl, (ext x2 (ext x3 x4)) _ _ upd_same⟩, fun _ z => by cases z⟩, fun _ z => by cases z; exact ⟨a0.D.sne m1, a0.D.lne m1⟩⟩
      · exact ⟨⟨.lst, ⟨_, _, rfl, (ext x3 x4) _ _ upd_same⟩, fun _ z => by cases z⟩, fun _ z => by cases z; exact ⟨d2.sne m2, d2.lne m2⟩⟩
      · exact ⟨⟨.dct, ⟨_, _, rfl, x4 _ _ upd_same⟩, fun _ z => by cases z⟩, fun _ z => by cases z; exact ⟨d3.sne m3, d3.lne m3⟩⟩
      · exact ⟨⟨.str _, rfl, fun _ z => by cases z; exact nw _ (by decide +kernel)⟩, off_no (fun _ z => by cases z)⟩
      · exact ⟨⟨.ins, ⟨_, _, _, rfl, (ext x1 (ext x2 (ext x3 x4))) _ _ gi⟩, fun _ z => by cases z⟩, fun _ z => by cases z; exact a0.D.inn gi⟩
    -- spot, far
    refine u_seq ?_
    refine ⟨_, rfl, _, rfl, _, row.length, rfl, .inr ⟨_, SqT.of a1.tr, by simp⟩, _, _, rfl, rfl, cut H1 sa la, sa, la, ca, T + 1, _, rfl, cut_ex, cut_s, cut_l, a1.D, by omega, by omega, by omega, fun r H2 r0 r1 e2 D2 => ?_⟩
    obtain ⟨nn, rfl⟩ := Int.eq_ofNat_of_zero_le r0
    have hnn : nn ≤ row.length := by omega
    have a2 := a1.cutE e2 D2
    have hodd2 : OVs CE (fun tg => ∀ s, tg = .str s → ¬ Wd s) H2 odd := hodd.map fun p o z h _ => cut_to e2 h (oodd p z).1 (oodd p z).2
    refine pick3 (K := K) (Pr := fun H x => ∃ p xs, x = .ref p ∧ H p = some (.tup xs) ∧ (xs = [] ∨ xs = [.non])) rfl a2 (by omega) (fun Q' hq => ?_) (fun H1 H2 x h k => ?_) (fun far H3 hfar ofar e3 a3 => ?_)
    · refine ⟨Nat.zero_le _, fun t1 m1 => ⟨one, fun t2 m2 => ⟨two, fun t3 m3 => ?_⟩⟩⟩
      have x1 := exn (o := .tup []) m1
      have x2 := exn (o := .tup [.non]) m2
      have x3 := exn (o := .lst [.ref t1, .ref t2]) m3
      have d2 := a2.D.ext x1
      have d3 := d2.ext x2
      refine hq t3 _ _ (ext x1 (ext x2 x3)) upd_same (d3.sne m3) (d3.lne m3) (by simp) (by simp) fun x hx => ?_
      simp only [List.mem_cons, List.not_mem_nil, or_false] at hx
      rcases hx with rfl | rfl
      · exact ⟨⟨t1, _, rfl, (ext x2 x3) _ _ upd_same, .inl rfl⟩, fun _ z => by cases z; exact ⟨a2.D.sne m1, a2.D.lne m1⟩⟩
      · exact ⟨⟨t2, _, rfl, x3 _ _ upd_same, .inr rfl⟩, fun _ z => by cases z; exact ⟨d2.sne m2, d2.lne m2⟩⟩
    · obtain ⟨p, xs, rfl, h, c⟩ := h
      exact ⟨p, xs, rfl, k _ _ rfl h (fun _ z => by cases z), c⟩
    have hodd3 : OVs CE (fun tg => ∀ s, tg = .str s → ¬ Wd s) H3 odd := hodd2.map fun p o z h _ => cut_to e3 h (oodd p z).1 (oodd p z).2
    obtain ⟨pf, fx, rfl, gf, cf⟩ := hfar
    refine ⟨_, _, rfl, ?_⟩
    -- spoilt
    refine u_nx (u_asg ?_)
    have big : (30000 : Nat) ≤ sizeLine := by decide
    have l1 : ((row.map L2.V.str).take nn).length = nn := by rw [List.length_take, List.length_map]; omega
    have l2 : ((row.map L2.V.str).drop nn).length = row.length - nn := by rw [List.length_drop, List.length_map]
    have lf : fx.length ≤ 1 := by rcases cf with z | z <;> rw [z] <;> simp
    have hnm : nn ≤ (row.map L2.V.str).length := by rw [List.length_map]; exact hnn
    refine ⟨_, rfl, _, rfl, _, rfl, slA a3.tr fun p1 H4 x4 g4 => ⟨_, rfl, one, fun p2 m5 => ?_⟩⟩
    rw [cut_lo hnm] at g4
    have x5 := exn (o := .tup [odd]) m5
    refine catA (x5 _ _ g4) upd_same (by rw [l1]; simp; omega) fun p3 H6 x6 g6 => ?_
    have X6 := ext x4 (ext x5 x6)
    refine ⟨_, rfl, _, rfl, _, rfl, ?_⟩
    dsimp only [tNoPart]
    refine slA (X6 _ _ a3.tr) fun p4 H7 x7 g7 => ?_
    rw [cut_hi hnm] at g7
    refine catA (x7 _ _ g6) g7 (by simp only [List.length_append, l1, l2, List.length_cons, List.length_nil]; omega) fun p5 H8 x8 g8 => ?_
    have X8 := ext X6 (ext x7 x8)
    refine ⟨_, rfl, catA g8 (X8 _ _ gf) (by simp only [List.length_append, l1, l2, List.length_cons, List.length_nil]; omega) fun sp H9 x9 g9 => ?_⟩
    have X9 := ext X8 x9
    have a9 := a3.ext X9
    have hodd9 := hodd3.exN (ExtN.of X9)
    -- other
    refine u_asg ?_
    refine pick3 (K := K) (Pr := OVs CE fun tg => tg ≠ .tup) rfl a9 (by omega) (fun Q' hq => ?_) (fun H1 H2 x h k => h.map k) (fun oth HA hoth ooth eA aA => ?_)
    · refine ⟨_, rfl, tr, _, rfl, .inr (SqT.of a9.tr), fun t1 m1 => fun t2 m2 => ⟨_, rfl, by show (7 : Nat) ≤ sizeLine; decide, fun t3 m3 => ?_⟩⟩
      have x1 := exn (o := .lst (row.map L2.V.str)) m1
      have x2 := exn (o := .dK []) m2
      have x3 := exn (o := .lst [.non, .int 5, .str "ab", .ref t1, .ref t2, .ref fo, .bl true]) m3
      have d2 := a9.D.ext x1
      have d3 := d2.ext x2
      obtain ⟨dx, fs, gi⟩ := a9.E.ins
      refine hq t3 _ _ (ext x1 (ext x2 x3)) upd_same (d3.sne m3) (d3.lne m3) (by simp) (by simp) fun x hx => ?_
      simp only [List.mem_cons, List.not_mem_nil, or_false] at hx
      rcases hx with rfl | rfl | rfl | rfl | rfl | rfl | rfl
      · exact ⟨⟨.non, rfl, fun z => by cases z⟩, off_no (fun _ z => by cases z)⟩
      · exact ⟨⟨.int, ⟨_, rfl⟩, fun z => by cases z⟩, off_no (fun _ z => by cases z)⟩
      · exact ⟨⟨.str _, rfl, fun z => by cases z⟩, off_no (fun _ z => by cases z)⟩
      · exact ⟨⟨.lst, ⟨_, _, rfl, (ext x2 x3) _ _ upd_same⟩, fun z => by cases z⟩, fun _ z => by cases z; exact ⟨a9.D.sne m1, a9.D.lne m1⟩⟩
      · exact ⟨⟨.dct, ⟨_, _, rfl, x3 _ _ upd_same⟩, fun z => by cases z⟩, fun _ z => by cases z; exact ⟨d2.sne m2, d2.lne m2⟩⟩
      · exact ⟨⟨.ins, ⟨_, _, _, rfl, (ext x1 (ext x2 x3)) _ _ gi⟩, fun z => by cases z⟩, fun _ z => by cases z; exact a9.D.inn gi⟩
      · exact ⟨⟨.bl, ⟨_, rfl⟩, fun z => by cases z⟩, off_no (fun _ z => by cases z)⟩
    have hoddA : OVs CE (fun tg => ∀ s, tg = .str s → ¬ Wd s) HA odd := hodd9.map fun p o z h _ => cut_to eA h (oodd p z).1 (oodd p z).2
    have gA := cut_to eA g9 (a9.D.tn g9).1 (a9.D.tn g9).2
    -- strange
    refine u_asg ?_
    refine pick3 (K := K) (Pr := OVs CE fun tg => tg ≠ .non ∧ ∀ s, tg = .str s → isWd s = false ∧ s.cps.size ≤ 1000) rfl aA (by omega) (fun Q' hq => ?_) (fun H1 H2 x h k => h.map k) (fun str HB hstr ostr eB aB => ?_)
    · refine ⟨Nat.zero_le _, fun t1 m1 => ⟨Nat.zero_le _, fun t2 m2 => fun t3 m3 => ⟨_, rfl, by show (10 : Nat) ≤ sizeLine; decide, fun t4 m4 => ?_⟩⟩⟩
      have x1 := exn (o := .tup []) m1
      have x2 := exn (o := .lst []) m2
      have x3 := exn (o := .dK []) m3
      have x4 := exn (o := .lst [.int 5, .bl true, .str "", .str "Zz", .ref t1, .ref t2, .ref t3, .str "qqqqqqq", .ref fo, .int 0]) m4
      have d2 := aA.D.ext x1
      have d3 := d2.ext x2
      have d4 := d3.ext x3
      obtain ⟨dx, fs, gi⟩ := aA.E.ins
      refine hq t4 _ _ (ext x1 (ext x2 (ext x3 x4))) upd_same (d4.sne m4) (d4.lne m4) (by simp) (by simp) fun x hx => ?_
      simp only [List.mem_cons, List.not_mem_nil, or_false] at hx
      rcases hx with rfl | rfl | rfl | rfl | rfl | rfl | rfl | rfl | rfl | rfl
      · exact ⟨⟨.int, ⟨_, rfl⟩, ⟨fun z => (by cases z), fun _ z => (by cases z)⟩⟩, off_no (fun _ z => by cases z)⟩
      · exact ⟨⟨.bl, ⟨_, rfl⟩, ⟨fun z => (by cases z), fun _ z => (by cases z)⟩⟩, off_no (fun _ z => by cases z)⟩
      · exact ⟨⟨.str _, rfl, ⟨fun z => (by cases z), fun _ z => (by cases z; exact ⟨by decide +kernel, by decide +kernel⟩)⟩⟩, off_no (fun _ z => by cases z)⟩
      · exact ⟨⟨.str _, rfl, ⟨fun z => (by cases z), fun _ z => (by cases z; exact ⟨by decide +kernel, by decide +kernel⟩)⟩⟩, off_no (fun _ z => by cases z)⟩
      · exact ⟨⟨.tup, ⟨_, _, rfl, (ext x2 (ext x3 x4)) _ _ upd_same⟩, ⟨fun z => (by cases z), fun _ z => (by cases z)⟩⟩, fun _ z => by cases z; exact ⟨aA.D.sne m1, aA.D.lne m1⟩⟩
      · exact ⟨⟨.lst, ⟨_, _, rfl, (ext x3 x4) _ _ upd_same⟩, ⟨fun z => (by cases z), fun _ z => (by cases z)⟩⟩, fun _ z => by cases z; exact ⟨d2.sne m2, d2.lne m2⟩⟩
      · exact ⟨⟨.dct, ⟨_, _, rfl, x4 _ _ upd_same⟩, ⟨fun z => (by cases z), fun _ z => (by cases z)⟩⟩, fun _ z => by cases z; exact ⟨d3.sne m3, d3.lne m3⟩⟩
      · exact ⟨⟨.str _, rfl, ⟨fun z => (by cases z), fun _ z => (by cases z; exact ⟨by decide +kernel, by decide +kernel⟩)⟩⟩, off_no (fun _ z => by cases z)⟩
      · exact ⟨⟨.ins, ⟨_, _, _, rfl, (ext x1 (ext x2 (ext x3 x4))) _ _ gi⟩, ⟨fun z => (by cases z), fun _ z => (by cases z)⟩⟩, fun _ z => by cases z; exact aA.D.inn gi⟩
      · exact ⟨⟨.int, ⟨_, rfl⟩, ⟨fun z => (by cases z), fun _ z => (by cases z)⟩⟩, off_no (fun _ z => by cases z)⟩
    have hoddB : OVs CE (fun tg => ∀ s, tg = .str s → ¬ Wd s) HB odd := hoddA.map fun p o z h _ => cut_to eB h (oodd p z).1 (oodd p z).2
    have hothB : OVs CE (fun tg => tg ≠ .tup) HB oth := hoth.map fun p o z h _ => cut_to eB h (ooth p z).1 (ooth p z).2
    have gB := cut_to eB gA (aA.D.tn gA).1 (aA.D.tn gA).2
    have badS : ∀ H0, ExtN HB H0 → ∀ E : XK, (∀ dd H', Ex H0 H' → H' dd = some (.xd [("at", .int (nn : Int))]) → E (.ref (e 11)) (some dd) H') → BadRow K (e 11) st H0 E (.ref sp) := by
      intro H0 x0 E kE
      obtain ⟨tg, ho, hw⟩ := hoddB.exN x0
      have ss : ∀ x ∈ row.map L2.V.str, Itm K H0 x := fun x hx => by
        obtain ⟨s, _, rfl⟩ := List.mem_map.mp hx
        exact .inl ⟨s, rfl⟩
      refine .inr ⟨sp, _, nn, odd, rfl, x0 _ _ gB (fun _ z => by cases z), fun x hx => ?_, ?_, ho.bad hw kw, fun j y hj hy => ?_, kE⟩
      · simp only [List.mem_append, List.mem_cons, List.not_mem_nil, or_false] at hx
        rcases hx with ((hx | rfl) | hx) | hx
        · exact ss x (List.mem_of_mem_take hx)
        · exact ho.itm W.I
        · exact ss x (List.mem_of_mem_drop hx)
        · rcases cf with rfl | rfl
          · cases hx
          · rw [List.mem_singleton.mp hx]
            exact OV.itm (C := CE) (tg := .non) W.I rfl
      · rw [List.append_assoc, List.append_assoc, List.getElem?_append_right (by rw [l1]; exact Nat.le_refl _), l1, Nat.sub_self]
        rfl
      · rw [List.append_assoc, List.append_assoc, List.getElem?_append_left (by rw [l1]; exact hj)] at hy
        obtain ⟨s, hs', rfl⟩ := List.mem_map.mp (List.mem_of_mem_take (List.mem_of_getElem? hy))
        exact decide_eq_true (hk s hs')
    have badO : ∀ H0, ExtN HB H0 → ∀ E : XK, (∀ dd H', Ex H0 H' → H' dd = some (.xd [("at", .int 0)]) → E (.ref (e 11)) (some dd) H') → BadRow K (e 11) st H0 E oth := by
      intro H0 x0 E kE
      obtain ⟨tg, ho, hw⟩ := hothB.exN x0
      obtain ⟨t, ht, _, h2⟩ := ho.ty W.I
      exact .inl ⟨t, ht, h2 hw, kE⟩
    have badT : str ≠ .non ∧ ∀ H0, ExtN HB H0 → StIs K H0 st str false := by
      constructor
      · obtain ⟨tg, ho, hw, _⟩ := hstr
        intro z
        subst z
        cases tg with
        | non => exact hw rfl
        | int => obtain ⟨i, h⟩ := ho; cases h
        | bl => obtain ⟨i, h⟩ := ho; cases h
        | str s => cases ho
        | tup => obtain ⟨p, xs, h, _⟩ := ho; cases h
        | lst => obtain ⟨p, xs, h, _⟩ := ho; cases h
        | dct => obtain ⟨p, xs, h, _⟩ := ho; cases h
        | ins => obtain ⟨p, xs, fs, h, _⟩ := ho; cases h
      · intro H0 x0
        obtain ⟨tg, ho, hw⟩ := hstr.exN x0
        by_cases hs : ∃ s, tg = .str s
        · obtain ⟨s, rfl⟩ := hs
          exact .inl ⟨s, ho, (hw.2 s rfl).2, by rw [(hw.2 s rfl).1]; rfl⟩
        · obtain ⟨t, ht, a, _⟩ := ho.ty W.I
          exact .inr ⟨rfl, t, ht, a fun s z => hs ⟨s, z⟩⟩
    have insB : ∀ H0, ExtN HB H0 → EdAt CE H0 fo st tl s0 ∧ ∃ dx fs, H0 fo = some (.ins CE dx fs) := fun H0 x0 => ⟨aB.E.exN x0, (aB.E.exN x0).ins⟩
    have i11 : (11 : Nat) ∈ [1, 11] := by decide
    have i1 : (1 : Nat) ∈ [1, 11] := by decide
    refine hear3 (w := "kind") (v := .int (nn : Int)) (show (9 : Nat) < 10 by decide) aB.tb (fun H1 x1 T1 Q1 y9 q1 => heard_kind i11 T1 (fun H0 x0 T0 E1 Kc kE => ?_) q1) (fun H1 x1 T1 Q1 y9 q1 => heard_kind i11 T1 (fun H0 x0 T0 E1 Kc kE => ?_) q1) (fun H1 x1 T1 Q1 y9 q1 => heard_kind i11 T1 (fun H0 x0 T0 E1 Kc kE => ?_) q1) (fun l ps HC hps xC TC gl gp nl => ?_)
    · exact ⟨fo, _, rfl, rfl, (insB H0 (x1.trans x0)).2, fo, _, _, st, tl, s0, rfl, (insB H0 (x1.trans x0)).1, V, hs, .inl (badS H0 (x1.trans x0) E1 kE)⟩
    · exact ⟨fo, _, _, rfl, rfl, rfl, (insB H0 (x1.trans x0)).2, fo, _, _, st, tl, s0, rfl, (insB H0 (x1.trans x0)).1, V, hs, .inl (badS H0 (x1.trans x0) E1 kE)⟩
    · have E0' := (insB H0 (x1.trans x0)).1
      have E0'' := E0'
      obtain ⟨dx, pe, pss, g1, g2, g3⟩ := E0''
      exact ⟨_, rfl, fo, dx, _, rfl, g1, rfl, _, rfl, fo, _, st, tl, s0, rfl, E0', V, Wt, hs, .inl (badS H0 (x1.trans x0) E1 kE)⟩
    refine due_if (K := K) (d := .int (nn : Int)) rfl (fun H' Q' q => ⟨_, rfl, q⟩) (by decide) hps gl gp (fun H' => .int _) (sh_pair (by decide +kernel) (by simp [PyData.canLay0]) (by simp [PyData.depth])) (by simp [PyData.eqv]) (fun HD xD => ?_)
    have yD := xC.trans (ExtN.of xD)
    have TD := TC.ext xD
    clear hps gl gp nl
    refine hear3 (w := "kind") (v := .int 0) (show (9 : Nat) < 10 by decide) TD (fun H1 x1 T1 Q1 y9 q1 => heard_kind i11 T1 (fun H0 x0 T0 E1 Kc kE => ?_) q1) (fun H1 x1 T1 Q1 y9 q1 => heard_kind i11 T1 (fun H0 x0 T0 E1 Kc kE => ?_) q1) (fun H1 x1 T1 Q1 y9 q1 => heard_kind i11 T1 (fun H0 x0 T0 E1 Kc kE => ?_) q1) (fun l ps HE hps xE TE' gl gp nl => ?_)
    · exact ⟨fo, _, rfl, rfl, (insB H0 (yD.trans (x1.trans x0))).2, fo, _, _, st, tl, s0, rfl, (insB H0 (yD.trans (x1.trans x0))).1, V, hs, .inl (badO H0 (yD.trans (x1.trans x0)) E1 kE)⟩
    · have E0' := (insB H0 (yD.trans (x1.trans x0))).1
      have E0'' := E0'
      obtain ⟨dx, pe, pss, g1, g2, g3⟩ := E0''
      exact ⟨_, rfl, fo, dx, _, rfl, g1, rfl, _, rfl, fo, _, st, tl, s0, rfl, E0', V, Wt, hs, .inl (badO H0 (yD.trans (x1.trans x0)) E1 kE)⟩
    · exact ⟨fo, _, _, rfl, rfl, rfl, (insB H0 (yD.trans (x1.trans x0))).2, fo, _, _, st, tl, s0, rfl, (insB H0 (yD.trans (x1.trans x0))).1, V, hs, .inl (badO H0 (yD.trans (x1.trans x0)) E1 kE)⟩
    refine due_if (K := K) (d := .int 0) rfl (fun H' Q' q => q) (by decide) hps gl gp (fun H' => .int _) (sh_pair (by decide +kernel) (by simp [PyData.canLay0]) (by simp [PyData.depth])) (by simp [PyData.eqv]) (fun HF xF => ?_)
    have yF := yD.trans (xE.trans (ExtN.of xF))
    have TF := TE'.ext xF
    clear hps gl gp nl
    refine hear2 (w := "state") (v := .non) (show (9 : Nat) < 10 by decide) TF (fun H1 x1 T1 Q1 y9 q1 => heard_err i1 (by decide) T1 (fun H0 x0 T0 E1 Kc kE => ?_) q1) (fun H1 x1 T1 Q1 y9 q1 => heard_err i1 (by decide) T1 (fun H0 x0 T0 E1 Kc kE => ?_) q1) (fun l ps HG hps xG TG gl gp nl => ?_)
    · have y0 := yF.trans (x1.trans x0)
      exact ⟨fo, _, _, rfl, rfl, rfl, (insB H0 y0).2, fo, _, _, st, tl, s0, rfl, (insB H0 y0).1, V, hs, .inr ⟨tr, row, rfl, y0 _ _ aB.tr (fun _ z => by cases z), hk, .inr (.inr ⟨badT.1, fun H' x' => badT.2 H' (y0.trans (ExtN.of x')), kE⟩)⟩⟩
    · have y0 := yF.trans (x1.trans x0)
      refine ⟨fo, _, rfl, rfl, fun p np => ?_⟩
      have y1 := y0.trans (ExtN.of (exn (o := .tup []) np))
      exact ⟨(insB _ y1).2, fo, _, _, st, tl, s0, rfl, (insB _ y1).1, V, hs, .inr ⟨p, [], rfl, upd_same, (fun k hk => by cases hk), .inr (.inr ⟨badT.1, fun H' x' => badT.2 H' (y1.trans (ExtN.of x')), fun H' x' => kE H' (ext (exn np) x')⟩)⟩⟩
    refine due_eq (K := K) (d := .none) rfl (fun H' Q' q => q) (by decide) hps gl gp (fun H' => .non) (sh_pair (by decide +kernel) (by simp [PyData.canLay0]) (by simp [PyData.depth])) (by simp [PyData.eqv]) (fun HH xH => ?_)
    have aH := aB.exN (yF.trans (xG.trans (ExtN.of xH))) (TG.ext xH)
    exact k HH aH.fr (aH.D.mono (by omega)) aH.tb
end
end Sn
/-! tuple * int, long: bound by the product alone -/
namespace Sn
open Evl (Ex)
open PySem PySem.Spec PyProof.Rows L2
def rRepB (K : PySem.W.Frag) : R2 := fun x y H Q => ∃ (l : Addr) (m : Nat) (xs : List V), x = .ref l ∧ y = .int (m : Int) ∧ SqT K H l xs ∧ xs ≠ [] ∧ 2 ≤ m ∧ m ≤ 1000000 ∧ m * xs.length ≤ 1000000 ∧ ∀ p, H p = none → Q (.ref p) (upd H p (.tup (List.replicate m xs).flatten))
theorem op_repB {X : Cx} : OpR X (binaryOp .Mult) (rRepB X.K) := by
  intro pins s σ H x y v u Q I rx ry h
  obtain ⟨l, m, xs, rfl, rfl, hT, hne, h1, h2, hz, q⟩ := h
  cases rx
  obtain ⟨t, rfl⟩ := ry
  obtain ⟨its, r, ⟨⟨cls, dd, data, sl⟩, ho, hc, n, hd⟩, hs⟩ := I.tuple hT
  simp only at hc hd
  subst hc hd
  have hle := r.length
  obtain ⟨b, bs, rfl⟩ : ∃ b bs, its = b :: bs := by
    cases its with
    | nil => exact absurd (List.eq_nil_of_length_eq_zero hle) hne
    | cons b bs => exact ⟨b, bs, rfl⟩
  have prod : (((b :: bs).toArray.size : Nat) : Int) * (m : Int) ≤ 1000000 := by
    rw [List.size_toArray, ← hle, ← Int.natCast_mul, Nat.mul_comm]
    omega
  have line : m * xs.length ≤ sizeLine := by
    rw [sizeLine_eq]
    omega
  have f1 : (decide ((m : Int) < -(2 ^ 63)) || decide ((m : Int) ≥ 2 ^ 63)) = false := by
    rw [decide_eq_false (show ¬ (m : Int) < -(2 ^ 63) by omega), decide_eq_false (show ¬ (m : Int) ≥ 2 ^ 63 by omega)]
    rfl
  have f2 : ((b :: bs).toArray.isEmpty || (m : Int) == 1) = false := by
    rw [show (b :: bs).toArray.isEmpty = false from rfl, Bool.false_or]
    exact beq_eq_false_iff_ne.mpr (by omega)
  have f3 : (decide ((m : Int) ≤ 0) || (b :: bs).toArray.isEmpty) = false := by
    rw [show (b :: bs).toArray.isEmpty = false from rfl, Bool.or_false]
    exact decide_eq_false (by omega)
  have f4 : Builtin.Tuple.tupleTooMany ((((b :: bs).toArray.size : Nat) : Int) * (m : Int)) = false := by
    unfold Builtin.Tuple.tupleTooMany
    rw [sizeLine_eq]
    exact decide_eq_false (by omega)
  have f5 : (List.foldl (fun x1 x2 => x1 ++ x2) #[] (List.replicate (m : Int).toNat (b :: bs).toArray)).size ≤ sizeLine := by
    rw [size_rep, List.size_toArray, lm_len_rep_flat, ← hle, Int.toNat_natCast]
    exact line
  refine wpAny_binaryOp_repeat_ref (T := "tuple") (U := "int") (by decide) ⟨_, ho, rfl⟩ (fun s' => typeIs_int s' m t) noFill_tuple_mul F.fills_int_mul F.slot_int_rmul repeat_tuple F.slot_int_index.lookup
    (call_meets F.slot_int_rmul (typeIs_int s m t) F.entry_int_rmul (F.args_int_rmul_2 _ _) (int_rmul_tuple m t l _ n dd sl)
      ⟨ho, rfl, ⟨_, ho, rfl⟩, call_meets F.slot_tuple_mul ⟨_, ho, rfl⟩ F.entry_tuple_mul (F.args_tuple_mul_2 _ _) (tuple_mulW l _ n dd sl m t f1 f2 f3 (by omega) f4 f5) ⟨ho, ?_⟩⟩)
  rw [size_rep, Int.toNat_natCast]
  refine ⟨.ref s.heap.objs.size, _, I.laid (t' := s.toks) (o := .tup (List.replicate m xs).flatten) (fun b ob q => Heap.get?_push_of_some _ q) (Nat.le_refl _) ⟨?_, _, r.rep m, IsTup.new _ _⟩, rfl, q _ (I.hok.fresh (Nat.le_refl _))⟩
  rw [lm_len_rep_flat]
  exact line
theorem repB {K : PySem.W.Frag} {H : Hp} {Q : VK} {p : Addr} {xs : List V} {z : Int} (m : Nat) (hm : z = (m : Int)) (hp : H p = some (.tup xs)) (h0 : xs ≠ []) (h1 : 2 ≤ m) (h2 : m ≤ 1000000) (hz : m * xs.length ≤ 1000000) (q : ∀ p H', Ex H H' → H' p = some (.tup (List.replicate m xs).flatten) → Q (.ref p) H') : rRepB K (.ref p) (.int z) H Q :=
  ⟨p, m, xs, rfl, by rw [hm], SqT.of hp, h0, h1, h2, hz, fun p' np => q p' _ (exn np) upd_same⟩
end Sn
namespace Sn
open Evl (Ex)
open PySem L2 LamX
section
variable {P : Program} {w : World} {K : PySem.W.Frag} {mg : Str → Option Value} {base : Heap} {e : Nat → Addr} {CS CE : Addr}
theorem sc_law : FnScope ["_law_script", "_law_state", "_law_turn", "_law_told", "_law_fold", "_law_kinds_here", "_law_trail", "_law_place", "_law_due", "_law_far", "_law_cut"] ["_law_script"] (defScope s_law) := ⟨rfl, rfl, rfl, by decide +kernel, rfl, by decide +kernel, by decide +kernel⟩
/-- the facts of a turn -/
structure R3 (CE sa la ca : Addr) (Ts : List (Addr × Str)) (td fo pk : Addr) (st : List StE) (tl : List (Str × Str)) (st' : List StE) (tl' : List (Str × Str)) (s0 : Str) (ys : List Str) (T : Nat) (H : Hp) : Prop where
  D : Dr H sa la ca T
  tb : Tabs Ts H
  td : ToldAt H td st tl s0
  E : EdAt CE H fo st' tl' s0
  hk : H pk = some (.lst (ys.map V.str))
  nk : pk ≠ sa ∧ pk ≠ la
theorem R3.ext {sa la ca td fo pk : Addr} {Ts : List (Addr × Str)} {st st' : List StE} {tl tl' : List (Str × Str)} {s0 : Str} {ys : List Str} {T : Nat} {H H' : Hp} (a : R3 CE sa la ca Ts td fo pk st tl st' tl' s0 ys T H) (x : Ex H H') : R3 CE sa la ca Ts td fo pk st tl st' tl' s0 ys T H' := ⟨a.D.ext x, a.tb.ext x, a.td.ex x, a.E.ex x, x _ _ a.hk, a.nk⟩
theorem R3.cutE {sa la ca td fo pk : Addr} {Ts : List (Addr × Str)} {st st' : List StE} {tl tl' : List (Str × Str)} {s0 : Str} {ys : List Str} {T T' : Nat} {H H' : Hp} (a : R3 CE sa la ca Ts td fo pk st tl st' tl' s0 ys T H) (x : Ex (cut H sa la) H') (D : Dr H' sa la ca T') : R3 CE sa la ca Ts td fo pk st tl st' tl' s0 ys T' H' := ⟨D, tabs_cut a.tb a.D x, a.td.cutE a.D x, a.E.cutE a.D x, cut_to x a.hk a.nk.1 a.nk.2, a.nk⟩
theorem u_join {t rest : TS} {D : Ends} {σ : L2.St} {H : Hp} (J : L2.St → Hp → Prop) (h2 : ∀ r : L2.St → Hp → Prop, (∀ σ' H', J σ' H' → r σ' H') → t { D with nx := r } σ H) (h1 : ∀ σ' H', J σ' H' → rest D σ' H') : tSeq t rest D σ H := h2 _ h1
theorem ledL_app {st : List StE} {s : Str} (a b : List Str) : ledL st s (a ++ b) = ledL st (ledL st s a) b := List.foldl_append
theorem eqv_refl_strsL : ∀ ws : List Str, PyData.eqv (.list (ws.map PyData.str)) (.list (ws.map PyData.str)) = true := fun ws => by
  rw [PyData.eqv]
  induction ws with
  | nil => rfl
  | cons a b ih =>
    simp only [List.map_cons, PyData.eqvAll, ih, Bool.and_true]
    simp [PyData.eqv]
def spLaw (K : PySem.W.Frag) (Ts : List (Addr × Str)) : Sp := fun vs H Q _ => ∃ (a : Addr) (ns : List Int), vs = [.ref a] ∧ SqL K H a (ns.map V.int) ∧ ns.length ≤ 63 ∧ Tabs Ts H ∧ ∀ H', Q (.bl true) H'
theorem ok_law {f : Addr} {fd : FuncData} {Ts : List (Addr × Str)} (F : Fun K "law" "law" s_law f fd) (W : L3 P w K mg base e CS CE) (cR : Cal P w K mg base CX0 8 "_law_refused_right" ["_law_state", "_law_fold", "_law_trail"] (spRefused CE Ts)) :
    FnOk P w K mg base CX0 9 f fd ["_law_script"] (spLaw K Ts) := by
  refine F.ok sc_law (fun vs H Q E h => ?_) (fun cdv A outer s H vs Q E hr h => ?_)
  · obtain ⟨_, _, rfl, _⟩ := h
    rfl
  · obtain ⟨a, ns, rfl, hS, hl, hTs, k⟩ := h
    obtain ⟨fc, fdc, cC, FC, bC1, bC2⟩ := W.call
    have hu := hu_of hr
    have B := W.B
    refine ⟨_, (pss_cons (ps_set (i := 1) sc_law.nd rfl (.inl rfl) (pcall W.begun (hr.mono (by decide)) (pa_cons (pv 0) pa_nil)))
      (pss_cons (ps_for PassesOwn.never rfl (pi_range1 rfl B.range (pa_cons (pe_op op_add pe_int (pe_callB (call_min2 rfl) (by rfl) B.min PyProof.Rows.boot_min (pa_cons (pe_callB call_len (by rfl) B.len PySem.boot_len (pa_cons (pv 0) pa_nil)) (pa_cons pe_int pa_nil)))) pa_nil)) (pg_name (i := 2) sc_law.nd rfl (.inl rfl))
        (pss_cons (ps_set (i := 3) sc_law.nd rfl (.inl rfl) (pcall W.any (hr.mono (by decide)) (pa_cons (pv 1) (pa_cons pe_int (pa_cons pe_int pa_nil)))))
        (pss_cons (ps_par (i := 4) (j := 5) (by rfl) sc_law.nd rfl rfl (by decide) rfl rfl (pa_cons (pcall W.ed (hr.mono (by decide)) (pa_cons (pv 3) pa_nil)) (pa_cons (pcall W.kinds (hr.mono (by decide)) (pa_cons (pv 3) pa_nil)) pa_nil)) (by rfl))
        (pss_cons (ps_par (i := 6) (j := 7) (by rfl) sc_law.nd rfl rfl (by decide) rfl rfl (pa_cons (pcall W.row (hr.mono (by decide)) (pa_cons (pv 1) (pa_cons (pv 5) (pa_cons (pcall W.pick (hr.mono (by decide)) (pa_cons (pv 1) (pa_cons (pe_lst (pa_cons pe_int (pa_cons pe_int (pa_cons pe_int pa_nil)))) pa_nil))) pa_nil)))) (pa_cons (pcall W.pick (hr.mono (by decide)) (pa_cons (pv 1) (pa_cons (pe_callB (call_sortedD rfl) (by rfl) B.sorted PyProof.Rows.boot_sorted (pa_cons (dget hu (pv 3) pe_str) pa_nil)) pa_nil))) pa_nil)) (by rfl))
        (pss_cons (ps_if (pt_cmpR op_eq (pv 2) pe_int (nomark _))
          (pss_one (ps_set (i := 6) sc_law.nd rfl (.inl rfl) (pe_op op_catA (pe_op op_repB (pe_op op_catA (pv 6) (pe_tupleOf (by rfl) B.tuple (pv 5))) pe_int) (pe_op op_repB (pe_tupleOf (by rfl) B.tuple (pv 5)) pe_int))))
          pss_nil)
        (pss_cons (ps_par (i := 8) (j := 9) (by rfl) sc_law.nd rfl rfl (by decide) rfl rfl (pa_cons (pcall W.led (hr.mono (by decide)) (pa_cons (pv 3) (pa_cons (dget hu (pv 3) pe_str) (pa_cons (pv 6) pa_nil)))) (pa_cons (pcall W.led (hr.mono (by decide)) (pa_cons (pv 3) (pa_cons (pv 7) (pa_cons (pv 6) pa_nil)))) pa_nil)) (by rfl))
        (pss_cons (ps_if (pt_cmpR (op_neD hr.units) (pe_lst (pa_cons (StX.pe_callO (pv 4) cC (FC.raw (dvs := [.non]) bC1 (.cons rfl .nil)) (hr.mono (by decide)) (passes_call L2.takes0 fun _ _ _ _ h => h) (pa_cons (pv 6) pa_nil)) (pa_cons (StX.pe_callO (pv 4) cC (FC.raw bC2 .nil) (hr.mono (by decide)) (passes_call L2.takes0 fun _ _ _ _ h => h) (pa_cons (pv 6) (pa_cons pe_non pa_nil))) (pa_cons (StX.pe_callO (pv 4) cC (FC.raw bC2 .nil) (hr.mono (by decide)) (passes_call L2.takes0 fun _ _ _ _ h => h) (pa_cons (pv 6) (pa_cons (pv 7) pa_nil))) (pa_cons (StX.pe_callO (pv 4) cC (FC.raw (dvs := [.non]) bC1 (.cons rfl .nil)) (hr.mono (by decide)) (passes_call L2.takes0 fun _ _ _ _ h => h) (pa_cons (pe_tup pa_nil) pa_nil)) pa_nil))))) (pe_lst (pa_cons (pv 8) (pa_cons (pv 8) (pa_cons (pv 9) (pa_cons (dget hu (pv 3) pe_str) pa_nil))))) (nomark _))
          (pss_one (ps_ret pe_bl))
          pss_nil)
        (pss_cons (ps_if (PW.pt (pw_or (pt_cmpR op_ne (pmethX W.told L2.takes0 W.L.cls (hr.mono (by decide)) (pv 4) (pa_cons (pv 6) pa_nil)) (dget hu (dget hu (pv 3) pe_str) (pv 8)) (nomark _)) (pw_or1 (pt_cmpR op_ne (pmethX W.told L2.takes0 W.L.cls (hr.mono (by decide)) (pv 4) (pa_cons (pe_tup pa_nil) pa_nil)) (dget hu (dget hu (pv 3) pe_str) (dget hu (pv 3) pe_str)) (nomark _)))))
          (pss_one (ps_ret pe_bl))
          pss_nil)
        (pss_cons (ps_set (i := 10) sc_law.nd rfl (.inl rfl) (pcall W.draw (hr.mono (by decide)) (pa_cons (pv 1) (pa_cons (pe_op op_add (pe_callB call_len (by rfl) B.len PySem.boot_len (pa_cons (pv 6) pa_nil)) pe_int) pa_nil))))
        (pss_one (ps_if (PW.pt (pw_or (pt_cmpR op_ne (StX.pe_callO (pv 4) cC (FC.raw bC2 .nil) (hr.mono (by decide)) (passes_call L2.takes0 fun _ _ _ _ h => h) (pa_cons (pe_slice sl_tupA (pv 6) (po_some (pv 10)) po_none) (pa_cons (StX.pe_callO (pv 4) cC (FC.raw (dvs := [.non]) bC1 (.cons rfl .nil)) (hr.mono (by decide)) (passes_call L2.takes0 fun _ _ _ _ h => h) (pa_cons (pe_slice sl_tupA (pv 6) po_none (po_some (pv 10))) pa_nil)) pa_nil))) (pv 8) (nomark _)) (pw_or1 (pt_not (pt_val (pcall cR (hr.mono (by decide)) (pa_cons (pv 1) (pa_cons (pv 4) (pa_cons (pv 6) pa_nil)))))))))
          (pss_one (ps_ret pe_bl))
          pss_nil)))))))))))
      (pss_one (ps_ret pe_bl)))), ?_⟩
    have two : (2 : Nat) ≤ sizeLine := by decide
    refine u_asg ?_
    refine ⟨_, rfl, a, ns, rfl, hS, hl, fun sa la ca H1 _ _ _ x1 D1 => ?_⟩
    have T1 := hTs.ext x1
    have hS1 := Evl.ex_l x1 hS
    refine u_seq ?_
    refine ⟨_, rfl, _, ns.length, rfl, .inl ⟨_, hS1, by simp⟩, _, _, rfl, _, _, rfl, rfl, _, rfl, ?_, ?_, ?_⟩
    · split <;> omega
    · split <;> omega
    have hn : (4 + (if (20 : Int) < (ns.length : Int) then 20 else (ns.length : Int))).toNat ≤ 24 := by split <;> omega
    generalize (4 + (if (20 : Int) < (ns.length : Int) then 20 else (ns.length : Int))).toNat = n at hn ⊢
    refine for_range (lo := 0) (n := n) (fun i σ H' => ∃ y2 y3 y4 y5 y6 y7 y8 y9 y10, σ = [some (.ref a), some (.ref sa), y2, y3, y4, y5, y6, y7, y8, y9, y10] ∧ Dr H' sa la ca (3000 * i) ∧ Tabs Ts H') ⟨_, _, _, _, _, _, _, _, _, rfl, D1, T1⟩ ?_ ?_
    rotate_left
    · rintro σ H2 ⟨y2, y3, y4, y5, y6, y7, y8, y9, y10, rfl, D2, T2⟩
      exact k _
    rintro i σ H2 hi ⟨y2, y3, y4, y5, y6, y7, y8, y9, y10, rfl, D2, T2⟩
    refine u_asg ?_
    refine ⟨_, rfl, cut H2 sa la, sa, la, ca, 3000 * i, 5, 4, rfl, cut_ex, cut_s, cut_l, D2, by omega, by decide, by decide, by decide, by decide, fun td st tl s0 H3 e3 D3 _ t3 tv _ _ => ?_⟩
    have T3 := tabs_cut T2 D2 e3
    refine u_seq ?_
    refine ⟨_, rfl, td, s0, st, tl, rfl, t3, tv, fun fo st' tl' H4 x4 nfo E4 sr ss => ?_⟩
    refine ⟨_, rfl, td, s0, st, tl, rfl, t3.ex x4, tv.V, tv.s, fun pk ys H5 x5 npk g5 ky yn y0 yl yso yw => ?_⟩
    refine ⟨_, _, rfl, ?_⟩
    refine u_nx (u_seq ?_)
    have a5 : R3 CE sa la ca Ts td fo pk st tl st' tl' s0 ys _ H5 := ⟨(D3.ext x4).ext x5, (T3.ext x4).ext x5, (t3.ex x4).ex x5, E4.ex x5, g5, strs_ns ((D3.ext x4).ext x5) g5 y0⟩
    have V' := sr.V tv.V
    have W' := sr.W ss tv.V tv.W
    have hs' := sr.mem.mpr tv.s
    refine ⟨_, rfl, _, rfl, _, rfl, by show (3 : Nat) ≤ sizeLine; decide, fun p0 m0 => ?_⟩
    have x6 := exn (o := .lst [.int 3, .int 8, .int 40]) m0
    have a6 := a5.ext x6
    refine ⟨cut (upd H5 p0 (.lst [.int 3, .int 8, .int 40])) sa la, sa, la, ca, _, .ref p0, rfl, cut_ex, cut_s, cut_l, a6.D, by omega, .inl ⟨p0, _, rfl, SqL.of (cut_at upd_same (a5.D.sne m0) (a5.D.lne m0)), by simp, by simp, fun j x H7 hx e7 D7 => ?_⟩⟩
    have hm : ∃ m : Nat, x = .int (m : Int) ∧ m ≤ 40 := by
      match j, hx with
      | 0, hx => exact ⟨3, (Option.some.inj hx).symm, by decide⟩
      | 1, hx => exact ⟨8, (Option.some.inj hx).symm, by decide⟩
      | 2, hx => exact ⟨40, (Option.some.inj hx).symm, by decide⟩
      | (n + 3), hx => cases hx
    obtain ⟨m, rfl, hm⟩ := hm
    have a7 := a6.cutE e7 D7
    refine ⟨cut H7 sa la, sa, la, ca, pk, _, m, ys, rfl, cut_ex, cut_s, cut_l, a7.D, by omega, by omega, SqL.of (cut_at a7.hk a7.nk.1 a7.nk.2), y0, by omega, fun tr0 row0 H8 _ rl0 rk0 e8 g8 D8 => ?_⟩
    have a8 := a7.cutE e8 D8
    obtain ⟨ps, pt, h1, h2, h3⟩ := a8.td
    refine ⟨_, rfl, _, rfl, td, .ref ps, rfl, dgr (.inl h1) (tv_steps _ _ _), ps, _, st.map (·.1), rfl, .inl h2.1, keysT st, by rw [List.length_map]; have := tv.V.n5; omega, fun zs p zp zso np => ?_⟩
    have x9 := exn (o := .lst (zs.map V.str)) np
    have a9 := a8.ext x9
    have z0 : zs ≠ [] := fun z => by
      have h := zp.length_eq
      rw [z, List.length_map] at h
      have := tv.V.n1
      simp at h; omega
    have zl : zs.length ≤ 5 := by rw [zp.length_eq, List.length_map]; exact tv.V.n5
    refine ⟨cut (upd H8 p (.lst (zs.map V.str))) sa la, sa, la, ca, _, .ref p, rfl, cut_ex, cut_s, cut_l, a9.D, by omega, .inl ⟨p, _, rfl, SqL.of (cut_at upd_same (a8.D.sne np) (a8.D.lne np)), by simpa using z0, by rw [List.length_map]; omega, fun j x HA hx eA DA => ?_⟩⟩
    have aA := a9.cutE eA DA
    obtain ⟨pl, hpl, rfl⟩ := List.mem_map.mp (List.mem_of_getElem? hx)
    have hpl : pl ∈ st.map (·.1) := zp.mem_iff.mp hpl
    have gA := cut_to eA (x9 _ _ g8) (a9.D.tn (x9 _ _ g8)).1 (a9.D.tn (x9 _ _ g8)).2
    refine ⟨_, _, rfl, ?_⟩
    refine u_nx (u_join (fun σ' H' => ∃ (tr : Addr) (row : List Str), σ' = [some (.ref a), some (.ref sa), some (.int (0 + (i : Int))), some (.ref td), some (.ref fo), some (.ref pk), some (.ref tr), some (.str pl), y8, y9, y10] ∧ H' tr = some (.tup (row.map V.str)) ∧ (∀ x ∈ row, x ∈ ys) ∧ row.length ≤ 10000 ∧ R3 CE sa la ca Ts td fo pk st tl st' tl' s0 ys (3000 * i + 2000 + 1 + 60 + 1) H') (fun r hr' => ?_) ?_)
    · refine u_if ⟨_, rfl, rfl, _, rfl, ?_⟩
      split
      · refine ⟨_, rfl, _, rfl, .inl ⟨pk, _, rfl, SqL.of aA.hk, fun q1 nq1 => ?_⟩⟩
        have b1 := exn (o := .tup (ys.map V.str)) nq1
        refine catA (b1 _ _ gA) upd_same (by rw [List.length_map, List.length_map, sizeLine_eq]; omega) fun q2 HB xB gB => ?_
        dsimp only [tC]
        refine repB 30 rfl gB ?_ (by decide) (by decide) ?_ fun q3 HC xC gC => ?_
        · simpa using fun _ => y0
        · rw [List.length_append, List.length_map, List.length_map]; omega
        have b3 := ext b1 (ext xB xC)
        refine ⟨_, rfl, .inl ⟨pk, _, rfl, SqL.of (b3 _ _ aA.hk), fun q4 nq4 => ?_⟩⟩
        have b4 := exn (o := .tup (ys.map V.str)) nq4
        dsimp only [tC]
        refine repB 1200 rfl upd_same (by simpa using y0) (by decide) (by decide) (by rw [List.length_map]; omega) fun q5 HD xD gD => ?_
        refine catA (xD _ _ (b4 _ _ gC)) gD ?_ fun q6 HE xE gE => ?_
        · rw [PyProof.Rows.lm_len_rep_flat, PyProof.Rows.lm_len_rep_flat, List.length_append, List.length_map, List.length_map, sizeLine_eq]; omega
        refine hr' _ _ ⟨q6, (List.replicate 30 (row0 ++ ys)).flatten ++ (List.replicate 1200 ys).flatten, rfl, ?_, ?_, ?_, aA.ext (ext b3 (ext b4 (ext xD xE)))⟩
        · rw [gE, List.map_append, List.map_flatten, List.map_flatten, List.map_replicate, List.map_replicate, List.map_append]
        · intro x hx
          rcases List.mem_append.mp hx with h | h
          · obtain ⟨l, hl, hx⟩ := List.mem_flatten.mp h
            rw [(List.mem_replicate.mp hl).2] at hx
            rcases List.mem_append.mp hx with h | h
            · exact rk0 x h
            · exact h
          · obtain ⟨l, hl, hx⟩ := List.mem_flatten.mp h
            rw [(List.mem_replicate.mp hl).2] at hx
            exact hx
        · rw [List.length_append, PyProof.Rows.lm_len_rep_flat, PyProof.Rows.lm_len_rep_flat, List.length_append]; omega
      · exact hr' _ _ ⟨tr0, row0, rfl, gA, rk0, by omega, aA⟩
    rintro σ' HF ⟨tr, row, rfl, gF, rk, rl, aF⟩
    have hk : ∀ x ∈ row, x ∈ kinds st := fun x hx => (ky x).mp (rk x hx)
    have hk' : ∀ x ∈ row, x ∈ kinds st' := fun x hx => (sr.kinds tv.V x).mpr (hk x hx)
    have kw : ∀ x ∈ kinds st', Wd x := fun x hx => yw x ((ky x).mpr ((sr.kinds tv.V x).mp hx))
    have stw : ∀ x ∈ st.map (·.1), Wd x := fun x hx => by
      obtain ⟨e, he, rfl⟩ := List.mem_map.mp hx
      exact tv.V.wd e he
    obtain ⟨pt, hd⟩ : ∃ pt, ∀ H', Ex HF H' → DGet H' td (.str "start") (some (.str s0)) ∧ DGet H' td (.str "tells") (some (.ref pt)) ∧ Sts H' pt tl := by
      obtain ⟨ps, pt, h1, h2, h3⟩ := aF.td
      exact ⟨pt, fun H' x' => ⟨dgr (.inl (x' _ _ h1)) (tv_start _ _ _), dgr (.inl (x' _ _ h1)) (tv_tells _ _ _), h3.ex x'⟩⟩
    have hdue := ledL_mem tv.V tv.s hk
    have hfar := ledL_mem tv.V hpl hk
    have e1 := sr.led tv.V tv.s hk
    have e2 := sr.led tv.V hpl hk
    have tlm : ∀ x ∈ st.map (·.1), ∃ v, ∀ H', Ex HF H' → DGet H' pt (.str x) (some (.str (look2 tl x))) := fun x hx => by
      obtain ⟨g, hg, rfl⟩ := List.mem_map.mp ((tv.W.ks x).mpr hx)
      refine ⟨(), fun H' x' => ?_⟩
      rw [look2_at tv.W.nd hg]
      exact dgr (.inl (hd H' x').2.2) (valS tv.W.nd hg)
    -- led twice
    refine u_seq ?_
    refine ⟨_, rfl, _, rfl, td, _, rfl, (hd HF exr).1, _, rfl, td, tr, s0, s0, row, st, tl, rfl, aF.td, SqT.of gF, tv.V, tv.s, hk, ?_⟩
    refine ⟨_, rfl, _, rfl, _, rfl, td, tr, pl, s0, row, st, tl, rfl, aF.td, SqT.of gF, tv.V, hpl, hk, ?_⟩
    refine ⟨_, _, rfl, ?_⟩
    -- four calls
    have ins : ∀ H', Ex HF H' → ∃ dx fs, H' fo = some (.ins CE dx fs) := fun H' x' => (aF.E.ex x').ins
    refine u_nx (u_seq (u_if ?_))
    refine ⟨_, rfl, fo, rfl, _, rfl, .inr (ins _ exr), fo, _, _, st', tl', s0, rfl, aF.E, V', hs', .inr ⟨tr, row, rfl, gF, hk', .inl ⟨rfl, fun G1 z1 => ?_⟩⟩⟩
    refine ⟨_, rfl, fo, rfl, _, rfl, .inr (ins _ z1), fo, _, _, st', tl', s0, rfl, aF.E.ex z1, V', hs', .inr ⟨tr, row, rfl, z1 _ _ gF, hk', .inl ⟨rfl, fun G2 z2 => ?_⟩⟩⟩
    have z12 := ext z1 z2
    refine ⟨_, rfl, fo, rfl, _, rfl, _, rfl, .inr (ins _ z12), fo, _, _, st', tl', s0, rfl, aF.E.ex z12, V', hs', .inr ⟨tr, row, rfl, z12 _ _ gF, hk', .inr (.inl ⟨pl, rfl, sr.mem.mpr hpl, fun G3 z3 => ?_⟩)⟩⟩
    have z13 := ext z12 z3
    refine ⟨_, rfl, fo, rfl, Nat.zero_le _, fun pe npe => ?_⟩
    have ze := exn (o := .tup []) npe
    have z14 := ext z13 ze
    refine ⟨.inr (ins _ z14), fo, _, _, st', tl', s0, rfl, aF.E.ex z14, V', hs', .inr ⟨pe, [], rfl, upd_same, fun _ h => (nomatch h), .inl ⟨rfl, fun G4 z4 => ?_⟩⟩⟩
    have z15 := ext z14 z4
    refine ⟨by show (4 : Nat) ≤ sizeLine; decide, fun l1 n1 => ?_⟩
    rw [e1, e2]
    have w1 := exn (o := .lst ([ledL st s0 row, ledL st s0 row, ledL st pl row, s0].map V.str)) n1
    have z16 := ext z15 w1
    refine ⟨_, rfl, _, rfl, _, rfl, _, rfl, td, _, rfl, (hd _ z16).1, by show (4 : Nat) ≤ sizeLine; decide, fun l2 n2 => ?_⟩
    have w2 := exn (o := .lst ([ledL st s0 row, ledL st s0 row, ledL st pl row, s0].map V.str)) n2
    have ws4 : ∀ x ∈ [ledL st s0 row, ledL st s0 row, ledL st pl row, s0], Wd x := fun x hx => by
      simp only [List.mem_cons, List.not_mem_nil, or_false] at hx
      rcases hx with rfl | rfl | rfl | rfl
      · exact stw _ hdue
      · exact stw _ hdue
      · exact stw _ hfar
      · exact stw _ tv.s
    refine ⟨_, _, dp_strs (SqL.of (w2 _ _ upd_same)), dp_strs (SqL.of upd_same), shaped_words ws4, shaped_words ws4, ?_⟩
    rw [eqv_refl_strsL]
    refine ⟨_, rfl, iteF ?_⟩
    have aG := aF.ext (ext z16 w2)
    have gG := (ext z16 w2) _ _ gF
    have zG := ext z16 w2
    refine u_next ?_
    refine u_seq ?_
    refine v_or ?_
    obtain ⟨dx, pq, pr, q1, q2, q3⟩ := aG.E
    refine ⟨_, rfl, fo, dx, _, rfl, q1, rfl, _, rfl, fo, _, st', tl', s0, rfl, aG.E, V', W', hs', .inr ⟨tr, row, rfl, gG, hk', fun G5 z5 => ?_⟩⟩
    have z6 := ext zG z5
    obtain ⟨_, ld⟩ := tlm _ hdue
    obtain ⟨_, l0⟩ := tlm _ tv.s
    refine ⟨_, rfl, td, _, rfl, (hd _ z6).2.1, _, rfl, pt, _, rfl, ld _ z6, rfl, ?_⟩
    rw [e1, ss.look2 tv.W.nd ((tv.W.ks _).mpr hdue), decide_eq_true rfl]
    refine ⟨_, rfl, iteF ?_⟩
    have aH := aG.ext z5
    obtain ⟨dx, pq, pr, q1, q2, q3⟩ := aH.E
    refine ⟨_, rfl, fo, dx, _, rfl, q1, rfl, Nat.zero_le _, fun pe npe => ?_⟩
    have ze := exn (o := .tup []) npe
    refine ⟨fo, _, st', tl', s0, rfl, aH.E.ex ze, V', W', hs', .inr ⟨pe, [], rfl, upd_same, fun _ h => (nomatch h), fun G6 z7 => ?_⟩⟩
    have z8 := ext z6 (ext ze z7)
    refine ⟨_, rfl, td, _, rfl, (hd _ z8).2.1, _, rfl, td, _, rfl, (hd _ z8).1, pt, _, rfl, l0 _ z8, rfl, ?_⟩
    rw [show ledL st' s0 [] = s0 from rfl, ss.look2 tv.W.nd ((tv.W.ks _).mpr tv.s), decide_eq_true rfl]
    refine ⟨_, rfl, iteF ?_⟩
    have aI := aF.ext z8
    have gI := z8 _ _ gF
    refine u_next ?_
    -- cut
    refine u_asg ?_
    refine ⟨_, rfl, _, rfl, _, row.length, rfl, .inr ⟨_, SqT.of gI, by simp⟩, _, _, rfl, rfl, cut G6 sa la, sa, la, ca, _, _, rfl, cut_ex, cut_s, cut_l, aI.D, by omega, by omega, by omega, fun r HJ r0 r1 eJ DJ => ?_⟩
    obtain ⟨nn, rfl⟩ := Int.eq_ofNat_of_zero_le r0
    have hnn : nn ≤ (row.map V.str).length := by rw [List.length_map]; omega
    have aJ := aI.cutE eJ DJ
    have gJ := cut_to eJ gI (aI.D.tn gI).1 (aI.D.tn gI).2
    refine v_or ?_
    refine ⟨_, rfl, fo, rfl, _, rfl, _, rfl, _, rfl, ?_⟩
    dsimp only [tNoPart]
    refine slA gJ fun p1 HK xK gK => ?_
    rw [cut_hi hnn] at gK
    refine ⟨_, rfl, fo, rfl, _, rfl, _, rfl, _, rfl, slA (xK _ _ gJ) fun p2 HL xL gL => ?_⟩
    rw [cut_lo hnn] at gL
    rw [← List.map_drop] at gK
    rw [← List.map_take] at gL
    have xx := ext xK xL
    have EL := aJ.E.ex xx
    have hk1 : ∀ x ∈ row.take nn, x ∈ kinds st' := fun x hx => hk' x (List.mem_of_mem_take hx)
    have hk2 : ∀ x ∈ row.drop nn, x ∈ kinds st' := fun x hx => hk' x (List.mem_of_mem_drop hx)
    refine ⟨.inr EL.ins, fo, _, _, st', tl', s0, rfl, EL, V', hs', .inr ⟨p2, _, rfl, gL, hk1, .inl ⟨rfl, fun HM xM => ?_⟩⟩⟩
    have EM := EL.ex xM
    refine ⟨.inr EM.ins, fo, _, _, st', tl', s0, rfl, EM, V', hs', .inr ⟨p1, _, rfl, xM _ _ (xL _ _ gK), hk2, .inr (.inl ⟨_, rfl, ledL_mem V' hs' hk1, fun HN xN => ?_⟩)⟩⟩
    refine ⟨_, rfl, rfl, ?_⟩
    rw [← ledL_app, List.take_append_drop, e1, decide_eq_true rfl]
    refine ⟨_, rfl, iteF ?_⟩
    have xy := ext xx (ext xM xN)
    have aN := aJ.ext xy
    refine ⟨_, rfl, _, rfl, _, rfl, fun _ => none, sa, la, ca, fo, tr, _, st', tl', s0, row, rfl, fun _ _ h => (nomatch h), rfl, rfl, aN.D, by omega, aN.tb, aN.E, V', W', hs', xy _ _ gJ, hk', rl, kw, fun HO _ DO TO => ⟨_, rfl, ?_⟩⟩
    exact ⟨_, _, _, _, _, _, _, _, _, rfl, DO.mono (by omega), TO⟩
end
end Sn
namespace Sn
open Evl (Ex)
open PySem L2 LamX
theorem supS_NoKind : SupS "at" s_NoKind___init where
  kind := rfl
  co := rfl
  gen := rfl
  nocell := by decide +kernel
  sup := by decide +kernel
  cls := by decide +kernel
  slf := by decide +kernel
  fld := by decide +kernel
  free := by decide +kernel
  hd := ⟨_, rfl, rfl⟩
  body := ⟨_, _, _, _, _, _, _, _, _, _, _, _, rfl, ⟨_, fun env => rfl⟩, fun env => rfl⟩
  nd := by decide +kernel
  ndb := by decide +kernel
  ncd := by decide +kernel
theorem ends {l : PySem.W.OpenLaw} {P : Program} {w : World} {K : PySem.W.Frag} {h : Heap} {mg : Str → Option Value} {fa : Addr} (hP : l.prog = P) (X : K.In h) (G : h.Ns mainGlobals mg) (hfa : mg "law" = some (.ref fa))
    {zL : Str} {tLETTERS : Tok} {tMOST_LETTERS : Tok} {tMOST_KINDS : Tok} {tMOST_STATES : Tok}
    {CS : Addr} {e0 : Addr} {e1 : Addr} {e2 : Addr} {e3 : Addr} {e4 : Addr} {e5 : Addr} {e6 : Addr} {e7 : Addr} {e8 : Addr} {e9 : Addr} {e10 : Addr} {e11 : Addr} {e12 : Addr} {e13 : Addr}
    {nmK qK : Str} {NK : Addr} {bsK subK bmK : List Value} {snK : List Str} {abK : Bool} {colK : Option Bool} {ddK : Option Addr} {k0K k1K k2K k3K k5K : Option Value} {fK ccK cdK : Addr} {ocK kVK dcK pmK ctK clK clK2 : Value} {odK anK cldK cddK : Option Addr} {slK cslK ccsK : Array (Option Value)} {vsK : Array Value} {fileK : Str} {tfK : Tok}
    {CE : Addr}
    {f_init : Addr} {oc_init kV_init dc_init pm_init ct_init : Value} {od_init an_init : Option Addr} {sl_init : Array (Option Value)} {cd_init : Value}
    {f_led : Addr} {oc_led kV_led dc_led pm_led ct_led : Value} {od_led an_led : Option Addr} {sl_led : Array (Option Value)} {cd_led : Value}
    {f_told : Addr} {oc_told kV_told dc_told pm_told ct_told : Value} {od_told an_told : Option Addr} {sl_told : Array (Option Value)} {cd_told : Value}
    {f_call : Addr} {oc_call kV_call dc_call pm_call ct_call : Value} {od_call an_call : Option Addr} {sl_call : Array (Option Value)} {cd_call : Value} {D_call : Addr} {oD_call : Obj} {nD_call : Nat}
    {p_states : Addr} {rest_states : List Value}
    {f_states : Addr} {oc_states kV_states dc_states pm_states ct_states : Value} {od_states an_states : Option Addr} {sl_states : Array (Option Value)} {cd_states : Value}
    {f_is_word : Addr} {oc_is_word kV_is_word dc_is_word pm_is_word ct_is_word : Value} {od_is_word an_is_word : Option Addr} {sl_is_word : Array (Option Value)} {cd_is_word : Value}
    {f_are_words : Addr} {oc_are_words kV_are_words dc_are_words pm_are_words ct_are_words : Value} {od_are_words an_are_words : Option Addr} {sl_are_words : Array (Option Value)} {cd_are_words : Value}
    {f_is_goal : Addr} {oc_is_goal kV_is_goal dc_is_goal pm_is_goal ct_is_goal : Value} {od_is_goal an_is_goal : Option Addr} {sl_is_goal : Array (Option Value)} {cd_is_goal : Value}
    {f_are_steps : Addr} {oc_are_steps kV_are_steps dc_are_steps pm_are_steps ct_are_steps : Value} {od_are_steps an_are_steps : Option Addr} {sl_are_steps : Array (Option Value)} {cd_are_steps : Value}
    {f_are_tells : Addr} {oc_are_tells kV_are_tells dc_are_tells pm_are_tells ct_are_tells : Value} {od_are_tells an_are_tells : Option Addr} {sl_are_tells : Array (Option Value)} {cd_are_tells : Value}
    {f_need_row : Addr} {oc_need_row kV_need_row dc_need_row pm_need_row ct_need_row : Value} {od_need_row an_need_row : Option Addr} {sl_need_row : Array (Option Value)} {cd_need_row : Value}
    {f_need_state : Addr} {oc_need_state kV_need_state dc_need_state pm_need_state ct_need_state : Value} {od_need_state an_need_state : Option Addr} {sl_need_state : Array (Option Value)} {cd_need_state : Value}
    {f_l_begun : Addr} {oc_l_begun kV_l_begun dc_l_begun pm_l_begun ct_l_begun : Value} {od_l_begun an_l_begun : Option Addr} {sl_l_begun : Array (Option Value)} {cd_l_begun : Value}
    {f_l_draw : Addr} {oc_l_draw kV_l_draw dc_l_draw pm_l_draw ct_l_draw : Value} {od_l_draw an_l_draw : Option Addr} {sl_l_draw : Array (Option Value)} {cd_l_draw : Value}
    {f_l_pick : Addr} {oc_l_pick kV_l_pick dc_l_pick pm_l_pick ct_l_pick : Value} {od_l_pick an_l_pick : Option Addr} {sl_l_pick : Array (Option Value)} {cd_l_pick : Value}
    {f_l_words : Addr} {oc_l_words kV_l_words dc_l_words pm_l_words ct_l_words : Value} {od_l_words an_l_words : Option Addr} {sl_l_words : Array (Option Value)} {cd_l_words : Value}
    {f_l_row : Addr} {oc_l_row kV_l_row dc_l_row pm_l_row ct_l_row : Value} {od_l_row an_l_row : Option Addr} {sl_l_row : Array (Option Value)} {cd_l_row : Value}
    {f_l_led : Addr} {oc_l_led kV_l_led dc_l_led pm_l_led ct_l_led : Value} {od_l_led an_l_led : Option Addr} {sl_l_led : Array (Option Value)} {cd_l_led : Value}
    {f_l_kinds : Addr} {oc_l_kinds kV_l_kinds dc_l_kinds pm_l_kinds ct_l_kinds : Value} {od_l_kinds an_l_kinds : Option Addr} {sl_l_kinds : Array (Option Value)} {cd_l_kinds : Value}
    {f_l_any_told : Addr} {oc_l_any_told kV_l_any_told dc_l_any_told pm_l_any_told ct_l_any_told : Value} {od_l_any_told an_l_any_told : Option Addr} {sl_l_any_told : Array (Option Value)} {cd_l_any_told : Value}
    {f_l_edition : Addr} {oc_l_edition kV_l_edition dc_l_edition pm_l_edition ct_l_edition : Value} {od_l_edition an_l_edition : Option Addr} {sl_l_edition : Array (Option Value)} {cd_l_edition : Value}
    {f_l_heard : Addr} {oc_l_heard kV_l_heard dc_l_heard pm_l_heard ct_l_heard : Value} {od_l_heard an_l_heard : Option Addr} {sl_l_heard : Array (Option Value)} {cd_l_heard : Value}
    {P_l_refused_right : Addr}
    {f_l_refused_right : Addr} {oc_l_refused_right kV_l_refused_right dc_l_refused_right pm_l_refused_right ct_l_refused_right : Value} {od_l_refused_right an_l_refused_right : Option Addr} {sl_l_refused_right : Array (Option Value)} {cd_l_refused_right : Addr}
    {f_law : Addr} {oc_law kV_law dc_law pm_law ct_law : Value} {od_law an_law : Option Addr} {sl_law : Array (Option Value)} {cd_law : Value}
    (nd : True) (hT : h.get? P_l_refused_right = some (PySem.W.tabObj #[]) ∧ True)
    (b_len : PySem.W.nsIn K mainGlobals "len" = some none)
    (b_int : PySem.W.nsIn K mainGlobals "int" = some none)
    (b_abs : PySem.W.nsIn K mainGlobals "abs" = some none)
    (b_range : PySem.W.nsIn K mainGlobals "range" = some none)
    (b_min : PySem.W.nsIn K mainGlobals "min" = some none)
    (b_max : PySem.W.nsIn K mainGlobals "max" = some none)
    (b_dict : PySem.W.nsIn K mainGlobals "dict" = some none)
    (b_tuple : PySem.W.nsIn K mainGlobals "tuple" = some none)
    (b_list : PySem.W.nsIn K mainGlobals "list" = some none)
    (b_set : PySem.W.nsIn K mainGlobals "set" = some none)
    (b_sorted : PySem.W.nsIn K mainGlobals "sorted" = some none)
    (b_all : PySem.W.nsIn K mainGlobals "all" = some none)
    (b_any : PySem.W.nsIn K mainGlobals "any" = some none)
    (b_isinstance : PySem.W.nsIn K mainGlobals "isinstance" = some none)
    (b_enumerate : PySem.W.nsIn K mainGlobals "enumerate" = some none)
    (b_str : PySem.W.nsIn K mainGlobals "str" = some none)
    (b_bool : PySem.W.nsIn K mainGlobals "bool" = some none)
    (b_zip : PySem.W.nsIn K mainGlobals "zip" = some none)
    (b_sum : PySem.W.nsIn K mainGlobals "sum" = some none)
    (b_repr : PySem.W.nsIn K mainGlobals "repr" = some none)
    (b_ValueError : PySem.W.nsIn K mainGlobals "ValueError" = some none)
    (b_super : PySem.W.nsIn K mainGlobals "super" = some none)
    (cs_LETTERS : PySem.W.nsIn K mainGlobals "LETTERS" = some (some (.str zL tLETTERS)))
    (cs_MOST_LETTERS : PySem.W.nsIn K mainGlobals "MOST_LETTERS" = some (some (.int 6 tMOST_LETTERS)))
    (cs_MOST_KINDS : PySem.W.nsIn K mainGlobals "MOST_KINDS" = some (some (.int 4 tMOST_KINDS)))
    (cs_MOST_STATES : PySem.W.nsIn K mainGlobals "MOST_STATES" = some (some (.int 5 tMOST_STATES)))
    (zL_ : zL = abc)
    (n_snap : PySem.W.nsIn K mainGlobals "SnapError" = some (some (.ref CS)))
    (n_e0 : PySem.W.nsIn K mainGlobals "NoEdition" = some (some (.ref e0)))
    (n_e1 : PySem.W.nsIn K mainGlobals "NoState" = some (some (.ref e1)))
    (n_e2 : PySem.W.nsIn K mainGlobals "NoLift" = some (some (.ref e2)))
    (n_e3 : PySem.W.nsIn K mainGlobals "NoBook" = some (some (.ref e3)))
    (n_e4 : PySem.W.nsIn K mainGlobals "NoNumber" = some (some (.ref e4)))
    (n_e5 : PySem.W.nsIn K mainGlobals "TwoPasts" = some (some (.ref e5)))
    (n_e6 : PySem.W.nsIn K mainGlobals "NoPlan" = some (some (.ref e6)))
    (n_e7 : PySem.W.nsIn K mainGlobals "NoHands" = some (some (.ref e7)))
    (n_e8 : PySem.W.nsIn K mainGlobals "NoKey" = some (some (.ref e8)))
    (n_e9 : PySem.W.nsIn K mainGlobals "NothingLeft" = some (some (.ref e9)))
    (n_e10 : PySem.W.nsIn K mainGlobals "NoText" = some (some (.ref e10)))
    (n_e11 : PySem.W.nsIn K mainGlobals "NoKind" = some (some (.ref e11)))
    (n_e12 : PySem.W.nsIn K mainGlobals "NoHistory" = some (some (.ref e12)))
    (n_e13 : PySem.W.nsIn K mainGlobals "NotRight" = some (some (.ref e13)))
    (is_1_0 : PySem.W.kitOne K (.ref e1) (.ref e0) = some false)
    (is_1_1 : PySem.W.kitOne K (.ref e1) (.ref e1) = some true)
    (is_1_2 : PySem.W.kitOne K (.ref e1) (.ref e2) = some false)
    (is_1_3 : PySem.W.kitOne K (.ref e1) (.ref e3) = some false)
    (is_1_4 : PySem.W.kitOne K (.ref e1) (.ref e4) = some false)
    (is_1_5 : PySem.W.kitOne K (.ref e1) (.ref e5) = some false)
    (is_1_6 : PySem.W.kitOne K (.ref e1) (.ref e6) = some false)
    (is_1_7 : PySem.W.kitOne K (.ref e1) (.ref e7) = some false)
    (is_1_8 : PySem.W.kitOne K (.ref e1) (.ref e8) = some false)
    (is_1_9 : PySem.W.kitOne K (.ref e1) (.ref e9) = some false)
    (is_1_10 : PySem.W.kitOne K (.ref e1) (.ref e10) = some false)
    (is_1_11 : PySem.W.kitOne K (.ref e1) (.ref e11) = some false)
    (is_1_12 : PySem.W.kitOne K (.ref e1) (.ref e12) = some false)
    (is_1_13 : PySem.W.kitOne K (.ref e1) (.ref e13) = some false)
    (ve_1 : PySem.W.kitOne K (.ref e1) (.type "ValueError") = some true)
    (sn_1 : PySem.W.exmOne K (.ref e1) (.ref CS) = some true)
    (hg_1 : PySem.W.findIn K (.ref e1) "__getattribute__" = some (some (.builtin "BaseException.__getattribute__")))
    (hk_1 : PySem.W.findIn K (.ref e1) "__getattr__" = some none)
    (hd_1 : PySem.W.hasDictIn K e1 = true)
    (ha_1 : PySem.W.findIn K (.ref e1) "__class__" = some (some (.builtin "object.__class__")))
    (hm_1 : PySem.W.mroIn K e1 (.type "object") = some true)
    (is_11_0 : PySem.W.kitOne K (.ref e11) (.ref e0) = some false)
    (is_11_1 : PySem.W.kitOne K (.ref e11) (.ref e1) = some false)
    (is_11_2 : PySem.W.kitOne K (.ref e11) (.ref e2) = some false)
    (is_11_3 : PySem.W.kitOne K (.ref e11) (.ref e3) = some false)
    (is_11_4 : PySem.W.kitOne K (.ref e11) (.ref e4) = some false)
    (is_11_5 : PySem.W.kitOne K (.ref e11) (.ref e5) = some false)
    (is_11_6 : PySem.W.kitOne K (.ref e11) (.ref e6) = some false)
    (is_11_7 : PySem.W.kitOne K (.ref e11) (.ref e7) = some false)
    (is_11_8 : PySem.W.kitOne K (.ref e11) (.ref e8) = some false)
    (is_11_9 : PySem.W.kitOne K (.ref e11) (.ref e9) = some false)
    (is_11_10 : PySem.W.kitOne K (.ref e11) (.ref e10) = some false)
    (is_11_11 : PySem.W.kitOne K (.ref e11) (.ref e11) = some true)
    (is_11_12 : PySem.W.kitOne K (.ref e11) (.ref e12) = some false)
    (is_11_13 : PySem.W.kitOne K (.ref e11) (.ref e13) = some false)
    (ve_11 : PySem.W.kitOne K (.ref e11) (.type "ValueError") = some true)
    (sn_11 : PySem.W.exmOne K (.ref e11) (.ref CS) = some true)
    (hg_11 : PySem.W.findIn K (.ref e11) "__getattribute__" = some (some (.builtin "BaseException.__getattribute__")))
    (hk_11 : PySem.W.findIn K (.ref e11) "__getattr__" = some none)
    (hd_11 : PySem.W.hasDictIn K e11 = true)
    (ha_11 : PySem.W.findIn K (.ref e11) "__class__" = some (some (.builtin "object.__class__")))
    (hm_11 : PySem.W.mroIn K e11 (.type "object") = some true)
    (hs_0 : PySem.W.subIn K (.ref e0) (.type "BaseException") = some true)
    (ke_0 : PySem.W.keepIn K (.ref e0) = true)
    (ty_0 : PySem.W.typeIn K (.ref e0) = some (.type "type"))
    (x0 : PySem.W.excIn K e0 [.type "ValueError", .type "Exception", .type "BaseException", .type "object"] "ValueError.__new__" = true)
    (hs_1 : PySem.W.subIn K (.ref e1) (.type "BaseException") = some true)
    (ke_1 : PySem.W.keepIn K (.ref e1) = true)
    (ty_1 : PySem.W.typeIn K (.ref e1) = some (.type "type"))
    (x1 : PySem.W.excIn K e1 [.type "ValueError", .type "Exception", .type "BaseException", .type "object"] "ValueError.__new__" = true)
    (hs_11 : PySem.W.subIn K (.ref e11) (.type "BaseException") = some true)
    (ke_11 : PySem.W.keepIn K (.ref e11) = true)
    (ty_11 : PySem.W.typeIn K (.ref e11) = some (.type "type"))
    (hn : PySem.W.specialIn K (.builtin "object.__class__") "__get__" = some (some (.builtin "getset_descriptor.__get__")))
    (htk : PySem.W.takesIn K (.builtin "object.__class__") = some true)
    (at11 : PySem.W.findIn K (.ref e11) "at" = some none)
    (oxK : K.lookup e11 = some (excClassObj nmK qK e11 NK bsK bmK true snK subK abK colK ddK k0K k1K k2K k3K k5K "ValueError.__new__"))
    (rvK : PySem.HandSPX.refsVE bmK = true)
    (saK : PySem.W.findIn K (.ref e11) "__setattr__" = some (some (.builtin "object.__setattr__")))
    (inK : PySem.W.findIn K (.ref e11) "__init__" = some (some (.ref fK)))
    (tiK : PySem.W.typeIn K (.ref fK) = some (.type "function"))
    (lK : K.lookup fK = some ⟨ocK, odK, .func (PySem.W.ksFn "__init__" "NoKind.__init__" (defArgs s_NoKind___init) (defBody s_NoKind___init) (defScope s_NoKind___init) .none kVK dcK pmK anK (.ref cdK) ctK ccK), slK⟩)
    (cK : PySem.W.codeIn K (.ref cdK) "NoKind.__init__" = true)
    (lcK : K.lookup cdK = some ⟨clK, cddK, .fields vsK, ccsK⟩)
    (fiK : vsK[2]? = some (.str fileK tfK))
    (pfK : ((P.main.file : Str) == fileK) = true)
    (ceK : K.lookup ccK = some ⟨clK2, cldK, .cell (some (.ref e11)), cslK⟩)
    (alK : PySem.W.ks_superIn K e11 e11 "__init__" = some (some (.builtin "ValueError.__init__")))
    (opK : PySem.W.nsIn K cStatics "thirdparty.any" = some none)
    (moK : PySem.W.mroIn K e11 (.ref e11) = some true)
    (svK : PySem.W.subIn K (.ref e11) (.type "ValueError") = some true)
    (tpK : (P.main.scope.names.lookup ("super" : Str)).isSome = false)
    (n_Edition : PySem.W.nsIn K mainGlobals "Edition" = some (some (.ref CE)))
    (pgCE : PySem.W.plainGet K CE Str.empty = true)
    (hdCE : PySem.W.hasDictIn K CE = true)
    (poCE : PySem.W.plainOver K CE = true)
    (saCE : PySem.W.findIn K (.ref CE) "__setattr__" = some (some (.builtin "object.__setattr__")))
    (f0CE : PySem.W.findIn K (.ref CE) "own_steps" = some none)
    (f1CE : PySem.W.findIn K (.ref CE) "own_tells" = some none)
    (f2CE : PySem.W.findIn K (.ref CE) "own_start" = some none)
    (haCE : PySem.W.findIn K (.ref CE) "__class__" = some (some (.builtin "object.__class__")))
    (hmCE : PySem.W.mroIn K CE (.type "object") = some true)
    (isCE : PySem.W.kitOne K (.ref CE) (.ref CE) = some true)
    (mkCE_ : PySem.W.makesIn K CE = true)
    (kpCE : PySem.W.keepIn K (.ref CE) = true)
    (ktCE : PySem.W.kitOne K (.ref CE) (.type "tuple") = some false)
    (ksCE : PySem.W.kitOne K (.ref CE) (.type "str") = some false)
    (a_init : PySem.W.findIn K (.ref CE) "__init__" = some (some (.ref f_init)))
    (l_init : K.lookup f_init = some ⟨oc_init, od_init, .func (PySem.W.fnOf "__init__" "Edition.__init__" (defArgs s_Edition___init) (defBody s_Edition___init) (defScope s_Edition___init) .none kV_init dc_init pm_init an_init cd_init ct_init), sl_init⟩)
    (c_init : PySem.W.codeIn K cd_init "Edition.__init__" = true)
    (k_init : PySem.W.keepIn K (.ref f_init) = true)
    (i_init : PySem.W.isFn K (.ref f_init) = true)
    (a_led : PySem.W.findIn K (.ref CE) "led" = some (some (.ref f_led)))
    (l_led : K.lookup f_led = some ⟨oc_led, od_led, .func (PySem.W.fnOf "led" "Edition.led" (defArgs s_Edition_led) (defBody s_Edition_led) (defScope s_Edition_led) .none kV_led dc_led pm_led an_led cd_led ct_led), sl_led⟩)
    (c_led : PySem.W.codeIn K cd_led "Edition.led" = true)
    (k_led : PySem.W.keepIn K (.ref f_led) = true)
    (i_led : PySem.W.isFn K (.ref f_led) = true)
    (a_told : PySem.W.findIn K (.ref CE) "told" = some (some (.ref f_told)))
    (l_told : K.lookup f_told = some ⟨oc_told, od_told, .func (PySem.W.fnOf "told" "Edition.told" (defArgs s_Edition_told) (defBody s_Edition_told) (defScope s_Edition_told) .none kV_told dc_told pm_told an_told cd_told ct_told), sl_told⟩)
    (c_told : PySem.W.codeIn K cd_told "Edition.told" = true)
    (k_told : PySem.W.keepIn K (.ref f_told) = true)
    (i_told : PySem.W.isFn K (.ref f_told) = true)
    (a_call : PySem.W.findIn K (.ref CE) "__call__" = some (some (.ref f_call)))
    (l_call : K.lookup f_call = some ⟨oc_call, od_call, .func (PySem.W.fnOf "__call__" "Edition.__call__" (defArgs s_Edition___call) (defBody s_Edition___call) (defScope s_Edition___call) (.ref D_call) kV_call dc_call pm_call an_call cd_call ct_call), sl_call⟩)
    (c_call : PySem.W.codeIn K cd_call "Edition.__call__" = true)
    (k_call : PySem.W.keepIn K (.ref f_call) = true)
    (x_call : K.lookup D_call = some oD_call)
    (y_call : oD_call.data = .seq [Value.none].toArray nD_call)
    (i_call : PySem.W.isFn K (.ref f_call) = true)
    (fi_call : PySem.W.fnIn K f_call = true)
    (a_states : PySem.W.findIn K (.ref CE) "states" = some (some (.ref p_states)))
    (g_states : PySem.W.specialIn K (.ref p_states) "__get__" = some (some (.builtin "property.__get__")))
    (q_states : PySem.W.takesIn K (.ref p_states) = some true)
    (r_states : PySem.W.recIn K p_states "property" = some (.ref f_states :: rest_states))
    (l_states : K.lookup f_states = some ⟨oc_states, od_states, .func (PySem.W.fnOf "states" "Edition.states" (defArgs s_Edition_states) (defBody s_Edition_states) (defScope s_Edition_states) .none kV_states dc_states pm_states an_states cd_states ct_states), sl_states⟩)
    (c_states : PySem.W.codeIn K cd_states "Edition.states" = true)
    (k_states : PySem.W.keepIn K (.ref f_states) = true)
    (a_is_word : PySem.W.nsIn K mainGlobals "is_word" = some (some (.ref f_is_word)))
    (l_is_word : K.lookup f_is_word = some ⟨oc_is_word, od_is_word, .func (PySem.W.fnOf "is_word" "is_word" (defArgs s_is_word) (defBody s_is_word) (defScope s_is_word) .none kV_is_word dc_is_word pm_is_word an_is_word cd_is_word ct_is_word), sl_is_word⟩)
    (c_is_word : PySem.W.codeIn K cd_is_word "is_word" = true)
    (k_is_word : PySem.W.keepIn K (.ref f_is_word) = true)
    (a_are_words : PySem.W.nsIn K mainGlobals "are_words" = some (some (.ref f_are_words)))
    (l_are_words : K.lookup f_are_words = some ⟨oc_are_words, od_are_words, .func (PySem.W.fnOf "are_words" "are_words" (defArgs s_are_words) (defBody s_are_words) (defScope s_are_words) .none kV_are_words dc_are_words pm_are_words an_are_words cd_are_words ct_are_words), sl_are_words⟩)
    (c_are_words : PySem.W.codeIn K cd_are_words "are_words" = true)
    (k_are_words : PySem.W.keepIn K (.ref f_are_words) = true)
    (a_is_goal : PySem.W.nsIn K mainGlobals "is_goal" = some (some (.ref f_is_goal)))
    (l_is_goal : K.lookup f_is_goal = some ⟨oc_is_goal, od_is_goal, .func (PySem.W.fnOf "is_goal" "is_goal" (defArgs s_is_goal) (defBody s_is_goal) (defScope s_is_goal) .none kV_is_goal dc_is_goal pm_is_goal an_is_goal cd_is_goal ct_is_goal), sl_is_goal⟩)
    (c_is_goal : PySem.W.codeIn K cd_is_goal "is_goal" = true)
    (k_is_goal : PySem.W.keepIn K (.ref f_is_goal) = true)
    (a_are_steps : PySem.W.nsIn K mainGlobals "are_steps" = some (some (.ref f_are_steps)))
    (l_are_steps : K.lookup f_are_steps = some ⟨oc_are_steps, od_are_steps, .func (PySem.W.fnOf "are_steps" "are_steps" (defArgs s_are_steps) (defBody s_are_steps) (defScope s_are_steps) .none kV_are_steps dc_are_steps pm_are_steps an_are_steps cd_are_steps ct_are_steps), sl_are_steps⟩)
    (c_are_steps : PySem.W.codeIn K cd_are_steps "are_steps" = true)
    (k_are_steps : PySem.W.keepIn K (.ref f_are_steps) = true)
    (a_are_tells : PySem.W.nsIn K mainGlobals "are_tells" = some (some (.ref f_are_tells)))
    (l_are_tells : K.lookup f_are_tells = some ⟨oc_are_tells, od_are_tells, .func (PySem.W.fnOf "are_tells" "are_tells" (defArgs s_are_tells) (defBody s_are_tells) (defScope s_are_tells) .none kV_are_tells dc_are_tells pm_are_tells an_are_tells cd_are_tells ct_are_tells), sl_are_tells⟩)
    (c_are_tells : PySem.W.codeIn K cd_are_tells "are_tells" = true)
    (k_are_tells : PySem.W.keepIn K (.ref f_are_tells) = true)
    (a_need_row : PySem.W.nsIn K mainGlobals "need_row" = some (some (.ref f_need_row)))
    (l_need_row : K.lookup f_need_row = some ⟨oc_need_row, od_need_row, .func (PySem.W.fnOf "need_row" "need_row" (defArgs s_need_row) (defBody s_need_row) (defScope s_need_row) .none kV_need_row dc_need_row pm_need_row an_need_row cd_need_row ct_need_row), sl_need_row⟩)
    (c_need_row : PySem.W.codeIn K cd_need_row "need_row" = true)
    (k_need_row : PySem.W.keepIn K (.ref f_need_row) = true)
    (a_need_state : PySem.W.nsIn K mainGlobals "need_state" = some (some (.ref f_need_state)))
    (l_need_state : K.lookup f_need_state = some ⟨oc_need_state, od_need_state, .func (PySem.W.fnOf "need_state" "need_state" (defArgs s_need_state) (defBody s_need_state) (defScope s_need_state) .none kV_need_state dc_need_state pm_need_state an_need_state cd_need_state ct_need_state), sl_need_state⟩)
    (c_need_state : PySem.W.codeIn K cd_need_state "need_state" = true)
    (k_need_state : PySem.W.keepIn K (.ref f_need_state) = true)
    (a_l_begun : PySem.W.nsIn K mainGlobals "_law_begun" = some (some (.ref f_l_begun)))
    (l_l_begun : K.lookup f_l_begun = some ⟨oc_l_begun, od_l_begun, .func (PySem.W.fnOf "_law_begun" "_law_begun" (defArgs s_l_begun) (defBody s_l_begun) (defScope s_l_begun) .none kV_l_begun dc_l_begun pm_l_begun an_l_begun cd_l_begun ct_l_begun), sl_l_begun⟩)
    (c_l_begun : PySem.W.codeIn K cd_l_begun "_law_begun" = true)
    (k_l_begun : PySem.W.keepIn K (.ref f_l_begun) = true)
    (a_l_draw : PySem.W.nsIn K mainGlobals "_law_draw" = some (some (.ref f_l_draw)))
    (l_l_draw : K.lookup f_l_draw = some ⟨oc_l_draw, od_l_draw, .func (PySem.W.fnOf "_law_draw" "_law_draw" (defArgs s_l_draw) (defBody s_l_draw) (defScope s_l_draw) .none kV_l_draw dc_l_draw pm_l_draw an_l_draw cd_l_draw ct_l_draw), sl_l_draw⟩)
    (c_l_draw : PySem.W.codeIn K cd_l_draw "_law_draw" = true)
    (k_l_draw : PySem.W.keepIn K (.ref f_l_draw) = true)
    (a_l_pick : PySem.W.nsIn K mainGlobals "_law_pick" = some (some (.ref f_l_pick)))
    (l_l_pick : K.lookup f_l_pick = some ⟨oc_l_pick, od_l_pick, .func (PySem.W.fnOf "_law_pick" "_law_pick" (defArgs s_l_pick) (defBody s_l_pick) (defScope s_l_pick) .none kV_l_pick dc_l_pick pm_l_pick an_l_pick cd_l_pick ct_l_pick), sl_l_pick⟩)
    (c_l_pick : PySem.W.codeIn K cd_l_pick "_law_pick" = true)
    (k_l_pick : PySem.W.keepIn K (.ref f_l_pick) = true)
    (a_l_words : PySem.W.nsIn K mainGlobals "_law_words" = some (some (.ref f_l_words)))
    (l_l_words : K.lookup f_l_words = some ⟨oc_l_words, od_l_words, .func (PySem.W.fnOf "_law_words" "_law_words" (defArgs s_l_words) (defBody s_l_words) (defScope s_l_words) .none kV_l_words dc_l_words pm_l_words an_l_words cd_l_words ct_l_words), sl_l_words⟩)
    (c_l_words : PySem.W.codeIn K cd_l_words "_law_words" = true)
    (k_l_words : PySem.W.keepIn K (.ref f_l_words) = true)
    (a_l_row : PySem.W.nsIn K mainGlobals "_law_row" = some (some (.ref f_l_row)))
    (l_l_row : K.lookup f_l_row = some ⟨oc_l_row, od_l_row, .func (PySem.W.fnOf "_law_row" "_law_row" (defArgs s_l_row) (defBody s_l_row) (defScope s_l_row) .none kV_l_row dc_l_row pm_l_row an_l_row cd_l_row ct_l_row), sl_l_row⟩)
    (c_l_row : PySem.W.codeIn K cd_l_row "_law_row" = true)
    (k_l_row : PySem.W.keepIn K (.ref f_l_row) = true)
    (a_l_led : PySem.W.nsIn K mainGlobals "_law_led" = some (some (.ref f_l_led)))
    (l_l_led : K.lookup f_l_led = some ⟨oc_l_led, od_l_led, .func (PySem.W.fnOf "_law_led" "_law_led" (defArgs s_l_led) (defBody s_l_led) (defScope s_l_led) .none kV_l_led dc_l_led pm_l_led an_l_led cd_l_led ct_l_led), sl_l_led⟩)
    (c_l_led : PySem.W.codeIn K cd_l_led "_law_led" = true)
    (k_l_led : PySem.W.keepIn K (.ref f_l_led) = true)
    (a_l_kinds : PySem.W.nsIn K mainGlobals "_law_kinds" = some (some (.ref f_l_kinds)))
    (l_l_kinds : K.lookup f_l_kinds = some ⟨oc_l_kinds, od_l_kinds, .func (PySem.W.fnOf "_law_kinds" "_law_kinds" (defArgs s_l_kinds) (defBody s_l_kinds) (defScope s_l_kinds) .none kV_l_kinds dc_l_kinds pm_l_kinds an_l_kinds cd_l_kinds ct_l_kinds), sl_l_kinds⟩)
    (c_l_kinds : PySem.W.codeIn K cd_l_kinds "_law_kinds" = true)
    (k_l_kinds : PySem.W.keepIn K (.ref f_l_kinds) = true)
    (a_l_any_told : PySem.W.nsIn K mainGlobals "_law_any_told" = some (some (.ref f_l_any_told)))
    (l_l_any_told : K.lookup f_l_any_told = some ⟨oc_l_any_told, od_l_any_told, .func (PySem.W.fnOf "_law_any_told" "_law_any_told" (defArgs s_l_any_told) (defBody s_l_any_told) (defScope s_l_any_told) .none kV_l_any_told dc_l_any_told pm_l_any_told an_l_any_told cd_l_any_told ct_l_any_told), sl_l_any_told⟩)
    (c_l_any_told : PySem.W.codeIn K cd_l_any_told "_law_any_told" = true)
    (k_l_any_told : PySem.W.keepIn K (.ref f_l_any_told) = true)
    (a_l_edition : PySem.W.nsIn K mainGlobals "_law_edition" = some (some (.ref f_l_edition)))
    (l_l_edition : K.lookup f_l_edition = some ⟨oc_l_edition, od_l_edition, .func (PySem.W.fnOf "_law_edition" "_law_edition" (defArgs s_l_edition) (defBody s_l_edition) (defScope s_l_edition) .none kV_l_edition dc_l_edition pm_l_edition an_l_edition cd_l_edition ct_l_edition), sl_l_edition⟩)
    (c_l_edition : PySem.W.codeIn K cd_l_edition "_law_edition" = true)
    (k_l_edition : PySem.W.keepIn K (.ref f_l_edition) = true)
    (a_l_heard : PySem.W.nsIn K mainGlobals "_law_heard" = some (some (.ref f_l_heard)))
    (l_l_heard : K.lookup f_l_heard = some ⟨oc_l_heard, od_l_heard, .func (PySem.W.fnOf "_law_heard" "_law_heard" (defArgs s_l_heard) (defBody s_l_heard) (defScope s_l_heard) .none kV_l_heard dc_l_heard pm_l_heard an_l_heard cd_l_heard ct_l_heard), sl_l_heard⟩)
    (c_l_heard : PySem.W.codeIn K cd_l_heard "_law_heard" = true)
    (k_l_heard : PySem.W.keepIn K (.ref f_l_heard) = true)
    (a_l_refused_right : PySem.W.nsIn K mainGlobals "_law_refused_right" = some (some (.ref f_l_refused_right)))
    (l_l_refused_right : K.lookup f_l_refused_right = some ⟨oc_l_refused_right, od_l_refused_right, .func (PySem.W.fnOf "_law_refused_right" "_law_refused_right" (defArgs s_l_refused_right) (defBody s_l_refused_right) (defScope s_l_refused_right) .none kV_l_refused_right dc_l_refused_right pm_l_refused_right an_l_refused_right (.ref cd_l_refused_right) ct_l_refused_right), sl_l_refused_right⟩)
    (c_l_refused_right : PySem.W.codeIn K (.ref cd_l_refused_right) "_law_refused_right" = true)
    (k_l_refused_right : PySem.W.keepIn K (.ref f_l_refused_right) = true)
    (t_l_refused_right : PySem.W.codeHdIn K cd_l_refused_right P_l_refused_right = true)
    (u_l_refused_right : K.lookup P_l_refused_right = none)
    (a_law : PySem.W.nsIn K mainGlobals "law" = some (some (.ref f_law)))
    (l_law : K.lookup f_law = some ⟨oc_law, od_law, .func (PySem.W.fnOf "law" "law" (defArgs s_law) (defBody s_law) (defScope s_law) .none kV_law dc_law pm_law an_law cd_law ct_law), sl_law⟩)
    (c_law : PySem.W.codeIn K cd_law "law" = true)
    (k_law : PySem.W.keepIn K (.ref f_law) = true)
    : LawAtS l w K CX0 9 63 "_law_script" mg fa h := by
  subst hP
  have q_law := hfa.symm.trans (PySem.W.mg_of X G a_law)
  cases q_law
  have B : Bt mg := ⟨PySem.W.mg_none_of X G b_len, PySem.W.mg_none_of X G b_int, PySem.W.mg_none_of X G b_abs, PySem.W.mg_none_of X G b_range, PySem.W.mg_none_of X G b_min, PySem.W.mg_none_of X G b_max, PySem.W.mg_none_of X G b_dict, PySem.W.mg_none_of X G b_tuple, PySem.W.mg_none_of X G b_list, PySem.W.mg_none_of X G b_set, PySem.W.mg_none_of X G b_sorted, PySem.W.mg_none_of X G b_all, PySem.W.mg_none_of X G b_any, PySem.W.mg_none_of X G b_isinstance, PySem.W.mg_none_of X G b_enumerate, PySem.W.mg_none_of X G b_str, PySem.W.mg_none_of X G b_bool, PySem.W.mg_none_of X G b_zip, PySem.W.mg_none_of X G b_sum, PySem.W.mg_none_of X G b_repr, PySem.W.mg_none_of X G b_ValueError, PySem.W.mg_none_of X G b_super⟩
  have C : Cst mg := ⟨⟨_, by rw [← zL_]; exact PySem.W.mg_of X G cs_LETTERS⟩, ⟨_, PySem.W.mg_of X G cs_MOST_LETTERS⟩, ⟨_, PySem.W.mg_of X G cs_MOST_KINDS⟩, ⟨_, PySem.W.mg_of X G cs_MOST_STATES⟩⟩
  let e : Nat → Addr := fun i => match i with | 0 => e0 | 1 => e1 | 2 => e2 | 3 => e3 | 4 => e4 | 5 => e5 | 6 => e6 | 7 => e7 | 8 => e8 | 9 => e9 | 10 => e10 | 11 => e11 | 12 => e12 | _ => e13
  have er : ErrF K mg e CS [1, 11] :=
    { nm := fun i hi => match i, hi with | 0, _ => PySem.W.mg_of X G n_e0 | 1, _ => PySem.W.mg_of X G n_e1 | 2, _ => PySem.W.mg_of X G n_e2 | 3, _ => PySem.W.mg_of X G n_e3 | 4, _ => PySem.W.mg_of X G n_e4 | 5, _ => PySem.W.mg_of X G n_e5 | 6, _ => PySem.W.mg_of X G n_e6 | 7, _ => PySem.W.mg_of X G n_e7 | 8, _ => PySem.W.mg_of X G n_e8 | 9, _ => PySem.W.mg_of X G n_e9 | 10, _ => PySem.W.mg_of X G n_e10 | 11, _ => PySem.W.mg_of X G n_e11 | 12, _ => PySem.W.mg_of X G n_e12 | 13, _ => PySem.W.mg_of X G n_e13 | (n + 14), hi => absurd hi (by omega)
      snap := PySem.W.mg_of X G n_snap
      lt := by decide
      is := fun i hi j hj => by
        simp only [List.mem_cons, List.not_mem_nil, or_false] at hi
        rcases hi with rfl | rfl
        · match j, hj with | 0, _ => exact is_1_0 | 1, _ => exact is_1_1 | 2, _ => exact is_1_2 | 3, _ => exact is_1_3 | 4, _ => exact is_1_4 | 5, _ => exact is_1_5 | 6, _ => exact is_1_6 | 7, _ => exact is_1_7 | 8, _ => exact is_1_8 | 9, _ => exact is_1_9 | 10, _ => exact is_1_10 | 11, _ => exact is_1_11 | 12, _ => exact is_1_12 | 13, _ => exact is_1_13 | (n + 14), hj => exact absurd hj (by omega)
        · match j, hj with | 0, _ => exact is_11_0 | 1, _ => exact is_11_1 | 2, _ => exact is_11_2 | 3, _ => exact is_11_3 | 4, _ => exact is_11_4 | 5, _ => exact is_11_5 | 6, _ => exact is_11_6 | 7, _ => exact is_11_7 | 8, _ => exact is_11_8 | 9, _ => exact is_11_9 | 10, _ => exact is_11_10 | 11, _ => exact is_11_11 | 12, _ => exact is_11_12 | 13, _ => exact is_11_13 | (n + 14), hj => exact absurd hj (by omega)
      ve := fun i hi => by
        simp only [List.mem_cons, List.not_mem_nil, or_false] at hi
        rcases hi with rfl | rfl
        · exact ve_1
        · exact ve_11
      sn := fun i hi => by
        simp only [List.mem_cons, List.not_mem_nil, or_false] at hi
        rcases hi with rfl | rfl
        · exact sn_1
        · exact sn_11
      ec := fun i hi => by
        simp only [List.mem_cons, List.not_mem_nil, or_false] at hi
        rcases hi with rfl | rfl
        · exact ⟨hg_1, hk_1, hs_1, hd_1, ha_1, hn, htk, hm_1⟩
        · exact ⟨hg_11, hk_11, hs_11, hd_11, ha_11, hn, htk, hm_11⟩
      xf := fun i hi h11 => by
        simp only [List.mem_cons, List.not_mem_nil, or_false] at hi
        rcases hi with rfl | rfl
        · exact absurd h11 (by decide)
        · exact ⟨hg_11, hk_11, hs_11, hd_11⟩
      at11 := fun _ => at11
      at12 := fun z => by simp at z
      at13 := fun z => by simp at z }
  have R0 : Raise0 K mg (e 0) "NoEdition" := ⟨⟨_, _, _, _, PySem.F.excBase_ValueError, x0⟩, PySem.W.mg_of X G n_e0, ke_0, hs_0, ty_0⟩
  have R1 : Raise0 K mg (e 1) "NoState" := ⟨⟨_, _, _, _, PySem.F.excBase_ValueError, x1⟩, PySem.W.mg_of X G n_e1, ke_1, hs_1, ty_1⟩
  have ox_K : OexC K (e 11) := ⟨⟨_, _, _, _, _, _, _, _, _, _, _, _, _, _, _, oxK, rvK⟩, saK, hs_11, ty_11, ke_11⟩
  have SIK : SupI l.prog K mg "NoKind.__init__" s_NoKind___init "at" (e 11) fK _ := { ex := ⟨_, _, _, _, _, _, _, _, _, _, _, _, _, _, _, _, _, _, _, _, rfl, lK, cK, lcK, fiK, pfK, ceK⟩, along := alK, op := opK, self := moK, subVE := svK, top := tpK, mgs := B.super, T := ox_K, no := at11 }
  have L : EdC K CE := ⟨⟨pgCE, hdCE, poCE, saCE⟩, f0CE, f1CE, f2CE⟩
  have I : InsI K CE := ⟨⟨pgCE, hdCE, poCE, saCE⟩, haCE, hn, htk, hmCE, ksCE, ktCE⟩
  have F_init := fun_mk (st := s_Edition___init) l_init c_init k_init
  have F_led := fun_mk (st := s_Edition_led) l_led c_led k_led
  have F_told := fun_mk (st := s_Edition_told) l_told c_told k_told
  have F_call : FunD K "__call__" "Edition.__call__" (defArgs s_Edition___call) (defBody s_Edition___call) (defScope s_Edition___call) [.non] [] f_call _ := ⟨⟨_, _, _, _, _, _, _, _, _, _, rfl, l_call, c_call, .inr ⟨by simp, _, _, _, _, rfl, x_call, y_call, .cons rfl .nil⟩, .inl rfl⟩, k_call⟩
  have F_states := fun_mk (st := s_Edition_states) l_states c_states k_states
  have F_is_word := fun_mk (st := s_is_word) l_is_word c_is_word k_is_word
  have F_are_words := fun_mk (st := s_are_words) l_are_words c_are_words k_are_words
  have F_is_goal := fun_mk (st := s_is_goal) l_is_goal c_is_goal k_is_goal
  have F_are_steps := fun_mk (st := s_are_steps) l_are_steps c_are_steps k_are_steps
  have F_are_tells := fun_mk (st := s_are_tells) l_are_tells c_are_tells k_are_tells
  have F_need_row := fun_mk (st := s_need_row) l_need_row c_need_row k_need_row
  have F_need_state := fun_mk (st := s_need_state) l_need_state c_need_state k_need_state
  have F_l_begun := fun_mk (st := s_l_begun) l_l_begun c_l_begun k_l_begun
  have F_l_draw := fun_mk (st := s_l_draw) l_l_draw c_l_draw k_l_draw
  have F_l_pick := fun_mk (st := s_l_pick) l_l_pick c_l_pick k_l_pick
  have F_l_words := fun_mk (st := s_l_words) l_l_words c_l_words k_l_words
  have F_l_row := fun_mk (st := s_l_row) l_l_row c_l_row k_l_row
  have F_l_led := fun_mk (st := s_l_led) l_l_led c_l_led k_l_led
  have F_l_kinds := fun_mk (st := s_l_kinds) l_l_kinds c_l_kinds k_l_kinds
  have F_l_any_told := fun_mk (st := s_l_any_told) l_l_any_told c_l_any_told k_l_any_told
  have F_l_edition := fun_mk (st := s_l_edition) l_l_edition c_l_edition k_l_edition
  have F_l_heard := fun_mk (st := s_l_heard) l_l_heard c_l_heard k_l_heard
  have F_l_refused_right : FunT K "_law_refused_right" "_law_refused_right" s_l_refused_right _ _ cd_l_refused_right := ⟨⟨_, _, _, _, _, _, _, _, rfl, l_l_refused_right, c_l_refused_right⟩, k_l_refused_right⟩
  have F_law := fun_mk (st := s_law) l_law c_law k_law
  let Ts : List (Addr × Str) := [(P_l_refused_right, "_law_refused_right.<locals>.<lambda>")]
  refine ⟨PySem.W.fnOf "law" "law" (defArgs s_law) (defBody s_law) (defScope s_law) .none kV_law dc_law pm_law an_law cd_law ct_law, [(cd_l_refused_right, P_l_refused_right)], spLaw K Ts, ?_, ?_, ?_, fun s u => .of_eq rfl, fun H a ns hl _ hH hS => ⟨a, ns, rfl, hS, hl, ?_, fun _ => rfl⟩, fun base KB GB TB => ?_⟩
  · intro q hq; simp only [List.mem_cons, List.not_mem_nil, or_false] at hq; rcases hq with rfl
    · exact hT.1
  · intro q hq; simp only [List.mem_cons, List.not_mem_nil, or_false] at hq; rcases hq with rfl
    · exact u_l_refused_right
  · intro q hq; simp only [List.mem_cons, List.not_mem_nil, or_false] at hq; rcases hq with rfl
    · exact PySem.W.codeHd_of_K X t_l_refused_right
  · intro q hq; simp only [Ts, List.mem_cons, List.not_mem_nil, or_false] at hq; rcases hq with rfl
    · exact TabS.none (hH _ (by simp : (cd_l_refused_right, P_l_refused_right) ∈ _))
  have T_l_refused_right := TB (cd_l_refused_right, P_l_refused_right) (by simp)
  have RKK : RaiseK l.prog w K mg base (e 11) "NoKind" "at" := ⟨⟨fK, _, ox_K, inK, tiK, SupI.ok SIK supS_NoKind, .all (fun us hl => match us, hl with | [_, _], _ => rfl), PySem.W.mg_of X G n_e11⟩⟩
  have draw : Cal l.prog w K mg base CX0 1 "_law_draw" ["_law_state", "_law_size"] spDraw := ⟨⟨_, _, ok_draw F_l_draw B, F_l_draw.binds (ps := ["_law_state", "_law_size"]) (fun _ _ _ _ _ _ us hl => match us, hl with | [_, _], _ => rfl), PySem.W.mg_of X G a_l_draw, k_l_draw⟩⟩
  have pick : Cal l.prog w K mg base CX0 2 "_law_pick" ["_law_state", "_law_several"] (spPick K) := ⟨⟨_, _, ok_pick F_l_pick B draw, F_l_pick.binds (ps := ["_law_state", "_law_several"]) (fun _ _ _ _ _ _ us hl => match us, hl with | [_, _], _ => rfl), PySem.W.mg_of X G a_l_pick, k_l_pick⟩⟩
  have words : Cal l.prog w K mg base CX0 3 "_law_words" ["_law_state", "_law_many"] spWords := ⟨⟨_, _, ok_words F_l_words B draw pick, F_l_words.binds (ps := ["_law_state", "_law_many"]) (fun _ _ _ _ _ _ us hl => match us, hl with | [_, _], _ => rfl), PySem.W.mg_of X G a_l_words, k_l_words⟩⟩
  have row : Cal l.prog w K mg base CX0 3 "_law_row" ["_law_state", "_law_kinds_here", "_law_most"] (spRow K) := ⟨⟨_, _, ok_row F_l_row B draw pick, F_l_row.binds (ps := ["_law_state", "_law_kinds_here", "_law_most"]) (fun _ _ _ _ _ _ us hl => match us, hl with | [_, _, _], _ => rfl), PySem.W.mg_of X G a_l_row, k_l_row⟩⟩
  have begun : Cal l.prog w K mg base CX0 1 "_law_begun" ["_law_script"] (spBegun K) := ⟨⟨_, _, ok_begun F_l_begun B, F_l_begun.binds (ps := ["_law_script"]) (fun _ _ _ _ _ _ us hl => match us, hl with | [_], _ => rfl), PySem.W.mg_of X G a_l_begun, k_l_begun⟩⟩
  have isw : Cal l.prog w K mg base CX0 1 "is_word" ["thing"] (spIsWord K) := ⟨⟨_, _, ok_is_word F_is_word B C, F_is_word.binds (ps := ["thing"]) (fun _ _ _ _ _ _ us hl => match us, hl with | [_], _ => rfl), PySem.W.mg_of X G a_is_word, k_is_word⟩⟩
  have arew : Cal l.prog w K mg base CX0 2 "are_words" ["some", "most"] (spAreWords K) := ⟨⟨_, _, ok_are_words F_are_words B isw, F_are_words.binds (ps := ["some", "most"]) (fun _ _ _ _ _ _ us hl => match us, hl with | [_, _], _ => rfl), PySem.W.mg_of X G a_are_words, k_are_words⟩⟩
  have isg : Cal l.prog w K mg base CX0 2 "is_goal" ["thing", "states"] (spIsGoal K) := ⟨⟨_, _, ok_is_goal F_is_goal isw, F_is_goal.binds (ps := ["thing", "states"]) (fun _ _ _ _ _ _ us hl => match us, hl with | [_, _], _ => rfl), PySem.W.mg_of X G a_is_goal, k_is_goal⟩⟩
  have ares : Cal l.prog w K mg base CX0 3 "are_steps" ["steps"] (spAreSteps K) := ⟨⟨_, _, ok_are_steps F_are_steps B C arew isg, F_are_steps.binds (ps := ["steps"]) (fun _ _ _ _ _ _ us hl => match us, hl with | [_], _ => rfl), PySem.W.mg_of X G a_are_steps, k_are_steps⟩⟩
  have aret : Cal l.prog w K mg base CX0 2 "are_tells" ["tells", "steps"] (spAreTells K) := ⟨⟨_, _, ok_are_tells F_are_tells B isw, F_are_tells.binds (ps := ["tells", "steps"]) (fun _ _ _ _ _ _ us hl => match us, hl with | [_, _], _ => rfl), PySem.W.mg_of X G a_are_tells, k_are_tells⟩⟩
  have nrow : Cal l.prog w K mg base (L2.CX l.prog w) 2 "need_row" ["row", "kinds"] (spNeedRow K (e 11)) := ⟨⟨_, _, ok_need_row F_need_row B RKK, F_need_row.binds (ps := ["row", "kinds"]) (fun _ _ _ _ _ _ us hl => match us, hl with | [_, _], _ => rfl), PySem.W.mg_of X G a_need_row, k_need_row⟩⟩
  have nstate : Cal l.prog w K mg base (L2.CX l.prog w) 3 "need_state" ["edition", "state"] (spNeedState K CE (e 1)) := ⟨⟨_, _, ok_need_state F_need_state L R1 isg ⟨p_states, f_states, _, ⟨a_states, g_states, q_states, ⟨_, r_states⟩⟩, ok_states F_states B L, F_states.binds (ps := ["self"]) (fun _ _ _ _ _ _ us hl => match us, hl with | [_], _ => rfl)⟩, F_need_state.binds (ps := ["edition", "state"]) (fun _ _ _ _ _ _ us hl => match us, hl with | [_, _], _ => rfl), PySem.W.mg_of X G a_need_state, k_need_state⟩⟩
  have mled : CalM l.prog w K mg base CX0 1 CE "led" ["self", "state", "row"] (spLed K CE) := ⟨⟨_, _, ⟨a_led, i_led, k_led⟩, ok_led F_led L, F_led.binds (ps := ["self", "state", "row"]) (fun _ _ _ _ _ _ us hl => match us, hl with | [_, _, _], _ => rfl)⟩⟩
  have FC := ok_callE F_call L nrow nstate mled
  obtain ⟨ds1, v1, bC1⟩ := F_call.binds1 (ps := ["self", "row", "at"]) 2 0 (by simp) rfl (fun _ _ _ _ _ _ _ us its hl hi => match us, its, hl, hi with | [_, _], [_], _, _ => ⟨_, rfl, rfl⟩)
  obtain rfl : ds1 = [Value.none] := by
    cases v1 with
    | cons a b => cases b; first | (cases a; rfl) | (rw [show _ = Value.none from a]) | (rw [show Value.none = _ from a])
  obtain ⟨ds2, v2, bC2⟩ := F_call.binds1 (ps := ["self", "row", "at"]) 3 1 (by simp) rfl (fun _ _ _ _ _ _ _ us its hl hi => match us, its, hl, hi with | [_, _, _], [_], _, _ => ⟨_, rfl, rfl⟩)
  obtain rfl : ds2 = [] := by
    cases v2; rfl
  have mtold : CalM l.prog w K mg base (L2.CX l.prog w) 5 CE "told" ["self", "row"] (spTold K CE (e 11)) := ⟨⟨_, _, ⟨a_told, i_told, k_told⟩, ok_told F_told L ⟨a_call, i_call, fi_call⟩ FC bC1, F_told.binds (ps := ["self", "row"]) (fun _ _ _ _ _ _ us hl => match us, hl with | [_, _], _ => rfl)⟩⟩
  have M : MakE l.prog w K mg base CE := ⟨⟨_, _, ⟨mkCE_, a_init, i_init, kpCE⟩, ok_initE F_init B L R0 ares aret isg, F_init.binds (ps := ["self", "steps", "tells", "start"]) (fun _ _ _ _ _ _ us hl => match us, hl with | [_, _, _, _], _ => rfl), PySem.W.mg_of X G n_Edition⟩⟩
  have anyt : Cal l.prog w K mg base CX0 4 "_law_any_told" ["_law_state", "_law_most_states", "_law_most_kinds"] spAnyTold := ⟨⟨_, _, ok_any_told F_l_any_told B draw pick words, F_l_any_told.binds (ps := ["_law_state", "_law_most_states", "_law_most_kinds"]) (fun _ _ _ _ _ _ us hl => match us, hl with | [_, _, _], _ => rfl), PySem.W.mg_of X G a_l_any_told, k_l_any_told⟩⟩
  have lled : Cal l.prog w K mg base CX0 1 "_law_led" ["_law_told", "_law_place", "_law_row_here"] (spLLed K) := ⟨⟨_, _, ok_lled F_l_led, F_l_led.binds (ps := ["_law_told", "_law_place", "_law_row_here"]) (fun _ _ _ _ _ _ us hl => match us, hl with | [_, _, _], _ => rfl), PySem.W.mg_of X G a_l_led, k_l_led⟩⟩
  have lkinds : Cal l.prog w K mg base CX0 1 "_law_kinds" ["_law_told"] spLKinds := ⟨⟨_, _, ok_lkinds F_l_kinds B, F_l_kinds.binds (ps := ["_law_told"]) (fun _ _ _ _ _ _ us hl => match us, hl with | [_], _ => rfl), PySem.W.mg_of X G a_l_kinds, k_l_kinds⟩⟩
  have led : Cal l.prog w K mg base CX0 6 "_law_edition" ["_law_told"] (spLEd CE) := ⟨⟨_, _, ok_lEd F_l_edition B M, F_l_edition.binds (ps := ["_law_told"]) (fun _ _ _ _ _ _ us hl => match us, hl with | [_], _ => rfl), PySem.W.mg_of X G a_l_edition, k_l_edition⟩⟩
  have W3 : L3 l.prog w K mg base e CS CE := { B := B, er := er, hd := ⟨_, _, F_l_heard, PySem.W.mg_of X G a_l_heard⟩, L := L, I := I, call := ⟨f_call, _, ⟨a_call, i_call, fi_call⟩, FC, bC1, bC2⟩, told := mtold, draw := draw, pick := pick, row := row, any := anyt, led := lled, kinds := lkinds, ed := led, begun := begun }
  have rr : Cal l.prog w K mg base CX0 8 "_law_refused_right" ["_law_state", "_law_fold", "_law_trail"] (spRefused CE Ts) := ⟨⟨_, _, ok_refused F_l_refused_right W3 T_l_refused_right (by simp [Ts]) (by intro q hq hz; simp only [Ts, List.mem_cons, List.not_mem_nil, or_false] at hq; rcases hq with rfl <;> first | rfl | (exact absurd hz (by first | exact nd.1 | exact nd.1.symm))), F_l_refused_right.binds (ps := ["_law_state", "_law_fold", "_law_trail"]) (fun _ _ _ _ _ _ us hl => match us, hl with | [_, _, _], _ => rfl), PySem.W.mg_of X G a_l_refused_right, k_l_refused_right⟩⟩
  exact ok_law F_law W3 rr
end Sn
open PySem PySem.W PyProof.Rows
set_option maxRecDepth 100000 in
set_option maxHeartbeats 0 in
theorem PySem.Challenge.cw_snaplifts_k03_rows_led_holds : PySem.Challenge.rw_snaplifts_k03_rows_led.Holds := by
  w_on; o_law; k_head; (case hw => w_witness2)
  k_fill
  refine LamX.walk_ofTs (l := PySem.Challenge.rw_snaplifts_k03_rows_led) (n := 63) (k := 9) (x := "_law_script") (CX := fun _ => L2.CX0) rfl (by decide) (by rfl) ⟨rfl, by decide, by decide⟩ (fun w h Y => PySem.W.km_in_of Y) ?F (fun _ _ _ _ _ z => z)
  intro w mg fa h Y KX G hmg
  have TT := PySem.W.km_tabs_of Y
  refine' Sn.ends (P := PySem.Challenge.rw_snaplifts_k03_rows_led.prog) (P_l_refused_right := 462) rfl KX G hmg (by decide) ⟨TT _ (by decide), trivial⟩ ?h_b_len ?h_b_int ?h_b_abs ?h_b_range ?h_b_min ?h_b_max ?h_b_dict ?h_b_tuple ?h_b_list ?h_b_set ?h_b_sorted ?h_b_all ?h_b_any ?h_b_isinstance ?h_b_enumerate ?h_b_str ?h_b_bool ?h_b_zip ?h_b_sum ?h_b_repr ?h_b_ValueError ?h_b_super ?h_cs_LETTERS ?h_cs_MOST_LETTERS ?h_cs_MOST_KINDS ?h_cs_MOST_STATES ?h_zL_ ?h_n_snap ?h_n_e0 ?h_n_e1 ?h_n_e2 ?h_n_e3 ?h_n_e4 ?h_n_e5 ?h_n_e6 ?h_n_e7 ?h_n_e8 ?h_n_e9 ?h_n_e10 ?h_n_e11 ?h_n_e12 ?h_n_e13 ?h_is_1_0 ?h_is_1_1 ?h_is_1_2 ?h_is_1_3 ?h_is_1_4 ?h_is_1_5 ?h_is_1_6 ?h_is_1_7 ?h_is_1_8 ?h_is_1_9 ?h_is_1_10 ?h_is_1_11 ?h_is_1_12 ?h_is_1_13 ?h_ve_1 ?h_sn_1 ?h_hg_1 ?h_hk_1 ?h_hd_1 ?h_ha_1 ?h_hm_1 ?h_is_11_0 ?h_is_11_1 ?h_is_11_2 ?h_is_11_3 ?h_is_11_4 ?h_is_11_5 ?h_is_11_6 ?h_is_11_7 ?h_is_11_8 ?h_is_11_9 ?h_is_11_10 ?h_is_11_11 ?h_is_11_12 ?h_is_11_13 ?h_ve_11 ?h_sn_11 ?h_hg_11 ?h_hk_11 ?h_hd_11 ?h_ha_11 ?h_hm_11 ?h_hs_0 ?h_ke_0 ?h_ty_0 ?h_x0 ?h_hs_1 ?h_ke_1 ?h_ty_1 ?h_x1 ?h_hs_11 ?h_ke_11 ?h_ty_11 ?h_hn ?h_htk ?h_at11 ?h_oxK ?h_rvK ?h_saK ?h_inK ?h_tiK ?h_lK ?h_cK ?h_lcK ?h_fiK ?h_pfK ?h_ceK ?h_alK ?h_opK ?h_moK ?h_svK ?h_tpK ?h_n_Edition ?h_pgCE ?h_hdCE ?h_poCE ?h_saCE ?h_f0CE ?h_f1CE ?h_f2CE ?h_haCE ?h_hmCE ?h_isCE ?h_mkCE_ ?h_kpCE ?h_ktCE ?h_ksCE ?h_a_init ?h_l_init ?h_c_init ?h_k_init ?h_i_init ?h_a_led ?h_l_led ?h_c_led ?h_k_led ?h_i_led ?h_a_told ?h_l_told ?h_c_told ?h_k_told ?h_i_told ?h_a_call ?h_l_call ?h_c_call ?h_k_call ?h_x_call ?h_y_call ?h_i_call ?h_fi_call ?h_a_states ?h_g_states ?h_q_states ?h_r_states ?h_l_states ?h_c_states ?h_k_states ?h_a_is_word ?h_l_is_word ?h_c_is_word ?h_k_is_word ?h_a_are_words ?h_l_are_words ?h_c_are_words ?h_k_are_words ?h_a_is_goal ?h_l_is_goal ?h_c_is_goal ?h_k_is_goal ?h_a_are_steps ?h_l_are_steps ?h_c_are_steps ?h_k_are_steps ?h_a_are_tells ?h_l_are_tells ?h_c_are_tells ?h_k_are_tells ?h_a_need_row ?h_l_need_row ?h_c_need_row ?h_k_need_row ?h_a_need_state ?h_l_need_state ?h_c_need_state ?h_k_need_state ?h_a_l_begun ?h_l_l_begun ?h_c_l_begun ?h_k_l_begun ?h_a_l_draw ?h_l_l_draw ?h_c_l_draw ?h_k_l_draw ?h_a_l_pick ?h_l_l_pick ?h_c_l_pick ?h_k_l_pick ?h_a_l_words ?h_l_l_words ?h_c_l_words ?h_k_l_words ?h_a_l_row ?h_l_l_row ?h_c_l_row ?h_k_l_row ?h_a_l_led ?h_l_l_led ?h_c_l_led ?h_k_l_led ?h_a_l_kinds ?h_l_l_kinds ?h_c_l_kinds ?h_k_l_kinds ?h_a_l_any_told ?h_l_l_any_told ?h_c_l_any_told ?h_k_l_any_told ?h_a_l_edition ?h_l_l_edition ?h_c_l_edition ?h_k_l_edition ?h_a_l_heard ?h_l_l_heard ?h_c_l_heard ?h_k_l_heard ?h_a_l_refused_right ?h_l_l_refused_right ?h_c_l_refused_right ?h_k_l_refused_right ?h_t_l_refused_right ?h_u_l_refused_right ?h_a_law ?h_l_law ?h_c_law ?h_k_law
  case h_b_len => k_is
  case h_b_int => k_is
  case h_b_abs => k_is
  case h_b_range => k_is
  case h_b_min => k_is
  case h_b_max => k_is
  case h_b_dict => k_is
  case h_b_tuple => k_is
  case h_b_list => k_is
  case h_b_set => k_is
  case h_b_sorted => k_is
  case h_b_all => k_is
  case h_b_any => k_is
  case h_b_isinstance => k_is
  case h_b_enumerate => k_is
  case h_b_str => k_is
  case h_b_bool => k_is
  case h_b_zip => k_is
  case h_b_sum => k_is
  case h_b_repr => k_is
  case h_b_ValueError => k_is
  case h_b_super => k_is
  case h_cs_LETTERS => k_is
  case h_cs_MOST_LETTERS => k_is
  case h_cs_MOST_KINDS => k_is
  case h_cs_MOST_STATES => k_is
  case h_zL_ => decide +kernel
  case h_n_snap => k_is
  case h_n_e0 => k_is
  case h_n_e1 => k_is
  case h_n_e2 => k_is
  case h_n_e3 => k_is
  case h_n_e4 => k_is
  case h_n_e5 => k_is
  case h_n_e6 => k_is
  case h_n_e7 => k_is
  case h_n_e8 => k_is
  case h_n_e9 => k_is
  case h_n_e10 => k_is
  case h_n_e11 => k_is
  case h_n_e12 => k_is
  case h_n_e13 => k_is
  case h_is_1_0 => kernel_rfl
  case h_is_1_1 => kernel_rfl
  case h_is_1_2 => kernel_rfl
  case h_is_1_3 => kernel_rfl
  case h_is_1_4 => kernel_rfl
  case h_is_1_5 => kernel_rfl
  case h_is_1_6 => kernel_rfl
  case h_is_1_7 => kernel_rfl
  case h_is_1_8 => kernel_rfl
  case h_is_1_9 => kernel_rfl
  case h_is_1_10 => kernel_rfl
  case h_is_1_11 => kernel_rfl
  case h_is_1_12 => kernel_rfl
  case h_is_1_13 => kernel_rfl
  case h_ve_1 => kernel_rfl
  case h_sn_1 => kernel_rfl
  case h_hg_1 => k_is
  case h_hk_1 => k_is
  case h_hd_1 => k_is
  case h_ha_1 => k_is
  case h_hm_1 => k_is
  case h_is_11_0 => kernel_rfl
  case h_is_11_1 => kernel_rfl
  case h_is_11_2 => kernel_rfl
  case h_is_11_3 => kernel_rfl
  case h_is_11_4 => kernel_rfl
  case h_is_11_5 => kernel_rfl
  case h_is_11_6 => kernel_rfl
  case h_is_11_7 => kernel_rfl
  case h_is_11_8 => kernel_rfl
  case h_is_11_9 => kernel_rfl
  case h_is_11_10 => kernel_rfl
  case h_is_11_11 => kernel_rfl
  case h_is_11_12 => kernel_rfl
  case h_is_11_13 => kernel_rfl
  case h_ve_11 => kernel_rfl
  case h_sn_11 => kernel_rfl
  case h_hg_11 => k_is
  case h_hk_11 => k_is
  case h_hd_11 => k_is
  case h_ha_11 => k_is
  case h_hm_11 => k_is
  case h_hs_0 => k_is
  case h_ke_0 => k_is
  case h_ty_0 => k_is
  case h_x0 => k_exc
  case h_hs_1 => k_is
  case h_ke_1 => k_is
  case h_ty_1 => k_is
  case h_x1 => k_exc
  case h_hs_11 => k_is
  case h_ke_11 => k_is
  case h_ty_11 => k_is
  case h_hn => k_is
  case h_htk => k_is
  case h_at11 => k_is
  case h_oxK => k_is
  case h_rvK => decide +kernel
  case h_saK => k_is
  case h_inK => k_is
  case h_tiK => k_is
  case h_lK => k_is
  case h_cK => k_is
  case h_lcK => k_is
  case h_fiK => rfl
  case h_pfK => first | rfl | kernel_rfl | decide +kernel
  case h_ceK => k_is
  case h_alK => first | k_is | kernel_rfl
  case h_opK => k_is
  case h_moK => k_is
  case h_svK => k_is
  case h_tpK => first | rfl | kernel_rfl | decide +kernel
  case h_n_Edition => k_is
  case h_pgCE => k_is
  case h_hdCE => k_is
  case h_poCE => k_is
  case h_saCE => k_is
  case h_f0CE => k_is
  case h_f1CE => k_is
  case h_f2CE => k_is
  case h_haCE => k_is
  case h_hmCE => k_is
  case h_isCE => kernel_rfl
  case h_mkCE_ => k_is
  case h_kpCE => k_is
  case h_ktCE => kernel_rfl
  case h_ksCE => kernel_rfl
  case h_a_init => k_is
  case h_l_init => k_is
  case h_c_init => k_is
  case h_k_init => k_is
  case h_i_init => k_is
  case h_a_led => k_is
  case h_l_led => k_is
  case h_c_led => k_is
  case h_k_led => k_is
  case h_i_led => k_is
  case h_a_told => k_is
  case h_l_told => k_is
  case h_c_told => k_is
  case h_k_told => k_is
  case h_i_told => k_is
  case h_a_call => k_is
  case h_l_call => k_is
  case h_c_call => k_is
  case h_k_call => k_is
  case h_x_call => k_is
  case h_y_call => rfl
  case h_i_call => k_is
  case h_fi_call => k_is
  case h_a_states => k_is
  case h_g_states => k_is
  case h_q_states => k_is
  case h_r_states => k_is
  case h_l_states => k_is
  case h_c_states => k_is
  case h_k_states => k_is
  case h_a_is_word => k_is
  case h_l_is_word => k_is
  case h_c_is_word => k_is
  case h_k_is_word => k_is
  case h_a_are_words => k_is
  case h_l_are_words => k_is
  case h_c_are_words => k_is
  case h_k_are_words => k_is
  case h_a_is_goal => k_is
  case h_l_is_goal => k_is
  case h_c_is_goal => k_is
  case h_k_is_goal => k_is
  case h_a_are_steps => k_is
  case h_l_are_steps => k_is
  case h_c_are_steps => k_is
  case h_k_are_steps => k_is
  case h_a_are_tells => k_is
  case h_l_are_tells => k_is
  case h_c_are_tells => k_is
  case h_k_are_tells => k_is
  case h_a_need_row => k_is
  case h_l_need_row => k_is
  case h_c_need_row => k_is
  case h_k_need_row => k_is
  case h_a_need_state => k_is
  case h_l_need_state => k_is
  case h_c_need_state => k_is
  case h_k_need_state => k_is
  case h_a_l_begun => k_is
  case h_l_l_begun => k_is
  case h_c_l_begun => k_is
  case h_k_l_begun => k_is
  case h_a_l_draw => k_is
  case h_l_l_draw => k_is
  case h_c_l_draw => k_is
  case h_k_l_draw => k_is
  case h_a_l_pick => k_is
  case h_l_l_pick => k_is
  case h_c_l_pick => k_is
  case h_k_l_pick => k_is
  case h_a_l_words => k_is
  case h_l_l_words => k_is
  case h_c_l_words => k_is
  case h_k_l_words => k_is
  case h_a_l_row => k_is
  case h_l_l_row => k_is
  case h_c_l_row => k_is
  case h_k_l_row => k_is
  case h_a_l_led => k_is
  case h_l_l_led => k_is
  case h_c_l_led => k_is
  case h_k_l_led => k_is
  case h_a_l_kinds => k_is
  case h_l_l_kinds => k_is
  case h_c_l_kinds => k_is
  case h_k_l_kinds => k_is
  case h_a_l_any_told => k_is
  case h_l_l_any_told => k_is
  case h_c_l_any_told => k_is
  case h_k_l_any_told => k_is
  case h_a_l_edition => k_is
  case h_l_l_edition => k_is
  case h_c_l_edition => k_is
  case h_k_l_edition => k_is
  case h_a_l_heard => k_is
  case h_l_l_heard => k_is
  case h_c_l_heard => k_is
  case h_k_l_heard => k_is
  case h_a_l_refused_right => k_is
  case h_l_l_refused_right => k_is
  case h_c_l_refused_right => k_is
  case h_k_l_refused_right => k_is
  case h_t_l_refused_right => kernel_rfl
  case h_u_l_refused_right => kernel_rfl
  case h_a_law => k_is
  case h_l_law => k_is
  case h_c_law => k_is
  case h_k_law => k_is
