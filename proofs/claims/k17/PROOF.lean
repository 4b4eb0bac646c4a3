import PyProof.Rows.All
import Wide.All
import OpenK.AllK
import Wide.FinOn
import HandS.ForMost
import HandS.Wide
import HandS.Codes
import HandS.OwnEq
import PyProof.InstNe
import HandS.Exc
import HandS.ExcOwn
import HandS.ExcInit
import HandS.ExcField
import HandS.CallSlots
import HandS.Defaults
import HandS.WordsExc
import HandS.Flow
import HandS.IsInst
import HandS.RaiseMore
import HandS.Walk
import HandS.Text
import HandS.TupAny
import HandS.TupMul
import HandS.WideBits
import HandS.NoneIn
import HandS.More
import KE.GoesMore
import PyProof.Draws
import HandS.Zip
import HandS.Style
import HandS.Star
import HandS.ClsMeth
import KE.KUnpackStar
import KE.KExcIs
import HandS.ExcIs
import PyProof.ReprRoads
import PyProof.CallFns
import HandS.Replace
import PyProof.MeetsStr3
import PyProof.FitsReplace
import PyProof.CallStr
import PyProof.ExcClass3
import PyProof.ExcBaseAll.LookupError
import KE.KExcMake
import HandS.Conv
import HandS.GenList
import KE.KTupSum
import KE.KRevSl
import PyProof.ReprLen
import HandS.Rev
import HandS.ExcValue
import PySem.Challenge.RW_lowsure_k17_vectors_and_points
set_option Elab.async false
set_option linter.all false
set_option maxRecDepth 100000
set_option maxHeartbeats 4000000
/-! LB: own words over the hand layer -/
namespace LB
open PySem PySem.Spec PyProof.Rows L2
open C8 (pss_cut tCut)
/-- the def x of the top keeps the promise sp -/
structure DefOk (P : Program) (w : World) (K : PySem.W.Frag) (mg : Str → Option Value) (base : Heap) (k : Nat) (x : Str) (ps : List Str) (sp : Sp) : Prop where
  ex : ∃ (f : Addr) (fd : FuncData), FnOk P w K mg base CX0 k f fd ps sp ∧ mg x = some (.ref f) ∧ PySem.W.keepIn K (.ref f) = true ∧ Binds K fd ps []
/-- the def x stands at the top as st -/
structure TopFn (K : PySem.W.Frag) (mg : Str → Option Value) (x : Str) (st : Stmt) (ps : List Str) : Prop where
  ex : ∃ (f : Addr) (fd : FuncData), Fun K x x st f fd ∧ mg x = some (.ref f) ∧ Binds K fd ps []
section
variable {P : Program} {w : World} {K : PySem.W.Frag} {mg : Str → Option Value} {base : Heap}
theorem TopFn.ok {x : Str} {st : Stmt} {N ps : List Str} {k : Nat} {sp : Sp} (F : TopFn K mg x st ps) (S : FnScope N ps (defScope st)) (len : ∀ vs H Q E, sp vs H Q E → vs.length = ps.length)
    (hbody : ∀ (f : Addr) (cdv : Value) (A : Around) (outer : List Env) (s : Shared) (H : Hp) (vs : List V) (Q : VK) (E : XK), Room k (A.deeper (envOfC x (defScope st) s.heap.objs.size f cdv)) → sp vs H Q E →
      ∃ t, PSs (cxOf CX0 P w K mg base N x (defScope st) f cdv A outer s H E).nox (defBody st) t ∧ t { nx := fun _ H' => Q .non H', rt := Q } (start N vs) H) : DefOk P w K mg base (k + 1) x ps sp := by
  obtain ⟨f, fd, F, hm, b⟩ := F.ex
  exact ⟨f, fd, F.ok S len (hbody f), hm, F.kp, b⟩
theorem topFn_mk {h : Heap} {x : Str} {st : Stmt} {ps : List Str} {f : Addr} {oc : Value} {od an : Option Addr} {osl : Array (Option Value)} {kV doc pm cdv ct : Value} (X : K.In h) (G : h.Ns mainGlobals mg)
    (hb : ∀ (kV doc pm : Value) (an : Option Addr) (cdv ct : Value) (us : List Value), us.length = ps.length → bindArgs (PySem.W.fnOf x x (defArgs st) (defBody st) (defScope st) .none kV doc pm an cdv ct) ⟨us, []⟩ = pure (ps.zip us))
    (a : PySem.W.nsIn K mainGlobals x = some (some (.ref f))) (l : K.lookup f = some ⟨oc, od, .func (PySem.W.fnOf x x (defArgs st) (defBody st) (defScope st) .none kV doc pm an cdv ct), osl⟩)
    (c : PySem.W.codeIn K cdv x = true) (k : PySem.W.keepIn K (.ref f) = true) : TopFn K mg x st ps :=
  have F := fun_mk (st := st) l c k
  ⟨f, _, F, PySem.W.mg_of X G a, F.binds hb⟩
end
section
variable {X : Cx} {k : Nat} {x : Str} {ps : List Str} {sp : Sp} {e : Expr} {es : List Expr} {t : TA} {p pos : Pos}
theorem pe_fn (D : DefOk X.prog X.w X.K X.mg X.base k x ps sp) (hr : Room k X.A) (hg : Gl X x) (ha : PA X (e :: es) t) (hdb : (x == ("__debug__" : Str)) = false := by decide)
    (he : starEach (e :: es) X.env = (false, eval e X.env) :: starEach es X.env := by rfl) (hpl : (backTo pos (starEach es X.env)).any (·.1) = false := by rfl) :
    PE X (.Call (.Name x p) (e :: es) [] pos) (tCall sp [] E0 t) := by
  obtain ⟨f, fd, F, hm, hk, hb⟩ := D.ex
  exact pe_call F hr hg hm hk hb .nil pass0 ha hdb he hpl
theorem pe_fn0 (D : DefOk X.prog X.w X.K X.mg X.base k x ps sp) (hr : Room k X.A) (hg : Gl X x) (hdb : (x == ("__debug__" : Str)) = false := by decide) :
    PE X (.Call (.Name x p) [] [] pos) (tCall sp [] E0 tNil) := by
  obtain ⟨f, fd, F, hm, hk, hb⟩ := D.ex
  exact pe_call0 F hr hg hm hk hb .nil pass0 hdb
end
/-- a constant of the module -/
theorem pe_gint {X : Cx} {x : Str} {i : Int} {pos : Pos} (hg : Gl X x) (hm : ∃ t, X.mg x = some (.int i t)) (hdb : (x == ("__debug__" : Str)) = false := by decide) : PE X (.Name x pos) (tC (.int i)) := by
  obtain ⟨t, hm⟩ := hm
  exact pe_glob hg hm ⟨t, rfl⟩ hdb
theorem pe_gref {X : Cx} {x : Str} {a : Addr} {pos : Pos} (hg : Gl X x) (hm : X.mg x = some (.ref a)) (hdb : (x == ("__debug__" : Str)) = false := by decide) : PE X (.Name x pos) (tC (.ref a)) :=
  pe_glob hg hm rfl hdb
/-- the built-ins are what they are -/
structure Txt (K : PySem.W.Frag) (mg : Str → Option Value) : Prop where
  b_len : mg "len" = none
  b_max : mg "max" = none
  b_min : mg "min" = none
  b_abs : mg "abs" = none
  b_list : mg "list" = none
  b_tuple : mg "tuple" = none
  b_reversed : mg "reversed" = none
  b_str : mg "str" = none
  b_repr : mg "repr" = none
  b_sum : mg "sum" = none
  b_all : mg "all" = none
  b_any : mg "any" = none
  b_zip : mg "zip" = none
  b_enumerate : mg "enumerate" = none
  b_int : mg "int" = none
  b_bool : mg "bool" = none
  b_sorted : mg "sorted" = none
  b_isinstance : mg "isinstance" = none
  b_range : mg "range" = none
  b_set : mg "set" = none
  b_dict : mg "dict" = none
  b_divmod : mg "divmod" = none
  b_ord : mg "ord" = none
  b_chr : mg "chr" = none
  b_type : mg "type" = none
/-! ### lists -/
theorem map_get {α : Type} {f : α → V} {ms : List α} {i : Nat} {x : V} (h : (ms.map f)[i]? = some x) : ∃ m, ms[i]? = some m ∧ x = f m := by
  rw [List.getElem?_map] at h
  cases e : ms[i]? with
  | none => rw [e] at h; cases h
  | some m => rw [e] at h; exact ⟨m, rfl, (Option.some.inj h).symm⟩
theorem take_more {α : Type} : ∀ {l : List α} {i : Nat} {x : α}, l[i]? = some x → l.take (i + 1) = l.take i ++ [x]
  | [], i, x, h => by simp at h
  | a :: l, 0, x, h => by
    have e : a = x := Option.some.inj h
    subst e
    rfl
  | a :: l, i + 1, x, h => by
    have ih := take_more (l := l) (i := i) (x := x) h
    show a :: l.take (i + 1) = a :: l.take i ++ [x]
    rw [ih]
    rfl
theorem cut_ints (ns : List Int) (lo hi : Option Int) : ∃ ms : List Int, cutV (ns.map V.int) lo hi = ms.map V.int ∧ ms.length ≤ ns.length ∧ ∀ m ∈ ms, m ∈ ns := by
  unfold cutV
  rw [← List.map_drop, ← List.map_take]
  refine ⟨_, rfl, ?_, fun m h => List.mem_of_mem_drop (List.mem_of_mem_take h)⟩
  rw [List.length_take, List.length_drop]
  omega
theorem ifF {c : Bool} {A B : Prop} (hc : c = false) (h : B) : if c = true then A else B := by
  rw [hc, if_neg Bool.false_ne_true]
  exact h
theorem ifT {c : Bool} {A B : Prop} (hc : c = true) (h : A) : if c = true then A else B := by
  rw [if_pos hc]
  exact h
/-- xs[k:] and xs[:k] -/
theorem cut_from (xs : List V) (k : Nat) (hk : k ≤ xs.length) : cutV xs (some (k : Int)) none = xs.drop k := by
  unfold cutV
  rw [HT.sIx_nat, HT.sIx_none, Nat.min_eq_left hk, List.take_of_length_le]
  rw [List.length_drop]
  omega
theorem cut_to (xs : List V) (k : Nat) (hk : k ≤ xs.length) : cutV xs none (some (k : Int)) = xs.take k := by
  unfold cutV
  rw [HT.sIx_nat, HT.sIx_none, Nat.min_eq_left hk, List.drop_zero, Nat.sub_zero]
theorem part_from {xs : List V} {k : Nat} (h0 : 0 < k) (hk : k ≤ xs.length) : ¬ (HT.sIx xs.length 0 (some (k : Int)) = 0 ∧ HT.sIx xs.length xs.length none = xs.length) := by
  rw [HT.sIx_nat]
  omega
theorem part_to {xs : List V} {k : Nat} (hk : k < xs.length) : ¬ (HT.sIx xs.length 0 none = 0 ∧ HT.sIx xs.length xs.length (some (k : Int)) = xs.length) := by
  rw [HT.sIx_nat]
  omega
theorem sz63 {n : Nat} (h : n ≤ 63) : n < sizeLine := Nat.lt_of_le_of_lt h (by decide)
theorem szK {n : Nat} (h : n ≤ 100000) : n < sizeLine := Nat.lt_of_le_of_lt h (by decide)
theorem szL {n : Nat} (h : n ≤ 100000) : n ≤ sizeLine := Nat.le_of_lt (szK h)
theorem lt_of_get {α : Type} {l : List α} {i : Nat} {x : α} (h : l[i]? = some x) : i < l.length := (List.getElem?_eq_some_iff.mp h).1
theorem same_new {H : Hp} {p : Addr} {o : HO} (h : H p = none) : Same H (upd H p o) := fun b u e => by
  rw [upd_ne (ne_of_none e h)]
  exact e
theorem same_mut {H H' : Hp} {p : Addr} {o : HO} (s : Same H H') (h : H p = none) : Same H (upd H' p o) := fun b u e => by
  rw [upd_ne (ne_of_none e h)]
  exact s b u e
/-! ### the deal: the law's own source of draws -/
def dkv (s n : Int) (l : Addr) : List (Key × V) := [(.inr "seed", .int s), (.inr "number", .int n), (.inr "left", .ref l)]
theorem t_sn : ¬ ("seed" : Str) = "number" := by decide +kernel
theorem t_sl : ¬ ("seed" : Str) = "left" := by decide +kernel
theorem t_nl : ¬ ("number" : Str) = "left" := by decide +kernel
theorem t_ns : ¬ ("number" : Str) = "seed" := by decide +kernel
theorem t_ls : ¬ ("left" : Str) = "seed" := by decide +kernel
theorem t_ln : ¬ ("left" : Str) = "number" := by decide +kernel
theorem kne {a b : Str} (h : ¬ a = b) : ¬ (Sum.inr a : Key) = Sum.inr b := fun e => h (Sum.inr.inj e)
theorem dkv_seed {s n : Int} {l : Addr} : valV (dkv s n l) (.inr "seed") = some (.int s) := valV_pos rfl
theorem dkv_number {s n : Int} {l : Addr} : valV (dkv s n l) (.inr "number") = some (.int n) := (valV_neg (kne t_sn)).trans (valV_pos rfl)
theorem dkv_left {s n : Int} {l : Addr} : valV (dkv s n l) (.inr "left") = some (.ref l) := (valV_neg (kne t_sl)).trans ((valV_neg (kne t_nl)).trans (valV_pos rfl))
theorem dkv_putN {s n m : Int} {l : Addr} : putK (dkv s n l) (.inr "number") (.int m) = dkv s m l := by
  unfold putK dkv
  simp [t_sn, t_ln]
theorem dkv_putS {s n m : Int} {l : Addr} : putK (dkv s n l) (.inr "seed") (.int m) = dkv m n l := by
  unfold putK dkv
  simp [t_ns, t_ls]
theorem dkv_merge {s n : Int} {l : Addr} : mergeK [] [(.inr "seed", .int s), (.inr "number", .int n), (.inr "left", .ref l)] = dkv s n l := by
  unfold mergeK dkv
  simp [putK, t_sn, t_sl, t_nl, t_ns, t_ls, t_ln]
/-- the deal stands at d, its list of great numbers at l -/
structure DealC (d l : Addr) (s n : Int) (left : List Int) (H : Hp) : Prop where
  hd : H d = some (.dK (dkv s n l))
  hl : H l = some (.lst (left.map V.int))
  s0 : 0 ≤ s
  s1 : s < 2147483647
  n0 : 0 ≤ n
  l0 : ∀ m ∈ left, 0 ≤ m
  l1 : left.length ≤ 63
theorem DealC.ne {d l : Addr} {s n : Int} {left : List Int} {H : Hp} (C : DealC d l s n left H) : d ≠ l := ne_of C.hd C.hl (by intro z; cases z)
theorem DealC.number {d l : Addr} {s n : Int} {left : List Int} {H : Hp} (C : DealC d l s n left H) : DGet H d (.str "number") (some (.int n)) := by
  have g := DGet.k (k := Sum.inr "number") C.hd
  rw [dkv_number] at g
  exact g
theorem DealC.left {d l : Addr} {s n : Int} {left : List Int} {H : Hp} (C : DealC d l s n left H) : DGet H d (.str "left") (some (.ref l)) := by
  have g := DGet.k (k := Sum.inr "left") C.hd
  rw [dkv_left] at g
  exact g
theorem DealC.seed {d l : Addr} {s n : Int} {left : List Int} {H : Hp} (C : DealC d l s n left H) : DGet H d (.str "seed") (some (.int s)) := by
  have g := DGet.k (k := Sum.inr "seed") C.hd
  rw [dkv_seed] at g
  exact g
theorem DealC.putN {d l : Addr} {s n m : Int} {left : List Int} {H : Hp} (C : DealC d l s n left H) : DPut H d (.str "number") (.int m) (upd H d (.dK (dkv s m l))) := by
  have g := DPut.k (k := Sum.inr "number") (v := .int m) C.hd (show 3 < sizeLine by decide)
  rw [dkv_putN] at g
  exact g
theorem DealC.putS {d l : Addr} {s n m : Int} {left : List Int} {H : Hp} (C : DealC d l s n left H) : DPut H d (.str "seed") (.int m) (upd H d (.dK (dkv m n l))) := by
  have g := DPut.k (k := Sum.inr "seed") (v := .int m) C.hd (show 3 < sizeLine by decide)
  rw [dkv_putS] at g
  exact g
theorem DealC.withN {d l : Addr} {s n m : Int} {left : List Int} {H : Hp} (C : DealC d l s n left H) (hm : 0 ≤ m) : DealC d l s m left (upd H d (.dK (dkv s m l))) :=
  ⟨upd_same, by rw [upd_ne C.ne.symm]; exact C.hl, C.s0, C.s1, hm, C.l0, C.l1⟩
theorem DealC.withS {d l : Addr} {s n m : Int} {left : List Int} {H : Hp} (C : DealC d l s n left H) (h0 : 0 ≤ m) (h1 : m < 2147483647) : DealC d l m n left (upd H d (.dK (dkv m n l))) :=
  ⟨upd_same, by rw [upd_ne C.ne.symm]; exact C.hl, h0, h1, C.n0, C.l0, C.l1⟩
theorem DealC.popped {d l : Addr} {s n : Int} {left : List Int} {H : Hp} (C : DealC d l s n left H) : DealC d l s n left.dropLast (upd H l (.lst (left.dropLast.map V.int))) :=
  ⟨by rw [upd_ne C.ne]; exact C.hd, upd_same, C.s0, C.s1, C.n0, fun m h => C.l0 m (List.dropLast_subset _ h), by rw [List.length_dropLast]; have := C.l1; omega⟩
def Deal (d l : Addr) (H : Hp) : Prop := ∃ s n left, DealC d l s n left H
/-- all but the deal is kept -/
def Keep (d l : Addr) (H H' : Hp) : Prop := ∀ a o, H a = some o → a ≠ d → a ≠ l → H' a = some o
theorem Keep.refl {d l : Addr} {H : Hp} : Keep d l H H := fun _ _ h _ _ => h
theorem Keep.trans {d l : Addr} {H H1 H2 : Hp} (a : Keep d l H H1) (b : Keep d l H1 H2) : Keep d l H H2 := fun x o h n1 n2 => b x o (a x o h n1 n2) n1 n2
theorem Keep.updD {d l : Addr} {H H1 : Hp} {o : HO} (a : Keep d l H H1) : Keep d l H (upd H1 d o) := fun x u h n1 n2 => by rw [upd_ne n1]; exact a x u h n1 n2
theorem Keep.updL {d l : Addr} {H H1 : Hp} {o : HO} (a : Keep d l H H1) : Keep d l H (upd H1 l o) := fun x u h n1 n2 => by rw [upd_ne n2]; exact a x u h n1 n2
theorem Keep.same {d l : Addr} {H H' : Hp} (h : Same H H') : Keep d l H H' := fun a o e _ _ => h a o e
theorem Keep.new {d l p : Addr} {H H1 : Hp} {o : HO} (a : Keep d l H H1) (hp : H1 p = none) : Keep d l H (upd H1 p o) := fun x u h n1 n2 => by
  rw [upd_ne (ne_of_none (a x u h n1 n2) hp)]
  exact a x u h n1 n2
theorem Deal.fresh {d l p : Addr} {H : Hp} (D : Deal d l H) (hp : H p = none) : p ≠ d ∧ p ≠ l := by
  obtain ⟨s, n, left, C⟩ := D
  exact ⟨(ne_of_none C.hd hp).symm, (ne_of_none C.hl hp).symm⟩
theorem Deal.new {d l p : Addr} {H : Hp} {o : HO} (D : Deal d l H) (hp : H p = none) : Deal d l (upd H p o) := by
  obtain ⟨s, n, left, C⟩ := D
  exact ⟨s, n, left, (same_new hp) _ _ C.hd, (same_new hp) _ _ C.hl, C.s0, C.s1, C.n0, C.l0, C.l1⟩
theorem Deal.same {d l : Addr} {H H' : Hp} (D : Deal d l H) (h : Same H H') : Deal d l H' := by
  obtain ⟨s, n, left, C⟩ := D
  exact ⟨s, n, left, h _ _ C.hd, h _ _ C.hl, C.s0, C.s1, C.n0, C.l0, C.l1⟩
theorem Deal.upd {d l p : Addr} {H : Hp} {o : HO} (D : Deal d l H) (h1 : p ≠ d) (h2 : p ≠ l) : Deal d l (L2.upd H p o) := by
  obtain ⟨s, n, left, C⟩ := D
  exact ⟨s, n, left, by rw [upd_ne h1.symm]; exact C.hd, by rw [upd_ne h2.symm]; exact C.hl, C.s0, C.s1, C.n0, C.l0, C.l1⟩
/-- what H does not know may change -/
theorem Keep.mut {d l p : Addr} {H H1 : Hp} {o : HO} (a : Keep d l H H1) (hp : H p = none) : Keep d l H (L2.upd H1 p o) := fun x u h n1 n2 => by
  rw [upd_ne (ne_of_none h hp)]
  exact a x u h n1 n2
theorem Keep.free {d l p : Addr} {H H1 : Hp} (a : Keep d l H H1) (h1 : p ≠ d) (h2 : p ≠ l) (hp : H1 p = none) : H p = none := by
  cases e : H p with
  | none => rfl
  | some o =>
    rw [a p o e h1 h2] at hp
    cases hp
/-- a tuple is kept by draws -/
theorem Keep.tup {d l a : Addr} {H H' : Hp} {xs : List V} (k : Keep d l H H') (D : Deal d l H) (h : H a = some (.tup xs)) : H' a = some (.tup xs) := by
  obtain ⟨s, n, left, C⟩ := D
  exact k _ _ h (ne_of h C.hd (by intro q; cases q)) (ne_of h C.hl (by intro q; cases q))
def spDraw : Sp := fun vs H Q _ => ∃ (d l : Addr) (many : Int), vs = [.ref d, .int many] ∧ Deal d l H ∧ 0 < many ∧ many ≤ 340282366920938463463374607431768211456 ∧
  ∀ (r : Int) (H' : Hp), 0 ≤ r → r < many → Deal d l H' → Keep d l H H' → Q (.int r) H'
def spDeal (K : PySem.W.Frag) : Sp := fun vs H Q _ => ∃ (a : Addr) (ns : List Int) (base : Int), vs = [.ref a, .int base] ∧ SqL K H a (ns.map V.int) ∧ ns.length ≤ 63 ∧ 0 ≤ base ∧ base ≤ 1000 ∧
  ∀ (d l : Addr) (H' : Hp), H d = none → H l = none → Deal d l H' → Same H H' → Q (.ref d) H'
end LB
set_option Elab.async false
set_option linter.all false
set_option maxRecDepth 100000
set_option maxHeartbeats 4000000
namespace LB
open PySem PySem.Spec PyProof.Rows L2
/-! ### own classes: methods, ==, !=, len -/
structure MethOk (P : Program) (w : World) (K : PySem.W.Frag) (mg : Str → Option Value) (base : Heap) (k : Nat) (C : Addr) (m : Str) (ps : List Str) (sp : Sp) : Prop where
  ex : ∃ (f : Addr) (fd : FuncData), FnOk P w K mg base CX0 k f fd ps sp ∧ PySem.W.findIn K (.ref C) m = some (some (.ref f)) ∧ PySem.W.isFn K (.ref f) = true ∧ PySem.W.keepIn K (.ref f) = true ∧ Binds K fd ps []
structure TopMeth (K : PySem.W.Frag) (C : Addr) (m qual : Str) (st : Stmt) (ps : List Str) : Prop where
  ex : ∃ (f : Addr) (fd : FuncData), Fun K m qual st f fd ∧ PySem.W.findIn K (.ref C) m = some (some (.ref f)) ∧ PySem.W.isFn K (.ref f) = true ∧ Binds K fd ps []
section
variable {P : Program} {w : World} {K : PySem.W.Frag} {mg : Str → Option Value} {base : Heap}
theorem TopMeth.ok {C : Addr} {m qual : Str} {st : Stmt} {N ps : List Str} {k : Nat} {sp : Sp} (F : TopMeth K C m qual st ps) (S : FnScope N ps (defScope st)) (len : ∀ vs H Q E, sp vs H Q E → vs.length = ps.length)
    (hbody : ∀ (f : Addr) (cdv : Value) (A : Around) (outer : List Env) (s : Shared) (H : Hp) (vs : List V) (Q : VK) (E : XK), Room k (A.deeper (envOfC qual (defScope st) s.heap.objs.size f cdv)) → sp vs H Q E →
      ∃ t, PSs (cxOf CX0 P w K mg base N qual (defScope st) f cdv A outer s H E).nox (defBody st) t ∧ t { nx := fun _ H' => Q .non H', rt := Q } (start N vs) H) : MethOk P w K mg base (k + 1) C m ps sp := by
  obtain ⟨f, fd, F, hm, hi, b⟩ := F.ex
  exact ⟨f, fd, F.ok S len (hbody f), hm, hi, F.kp, b⟩
theorem topMeth_mk {C : Addr} {m qual : Str} {st : Stmt} {ps : List Str} {f : Addr} {oc : Value} {od an : Option Addr} {osl : Array (Option Value)} {kV doc pm cdv ct : Value}
    (hb : ∀ (kV doc pm : Value) (an : Option Addr) (cdv ct : Value) (us : List Value), us.length = ps.length → bindArgs (PySem.W.fnOf m qual (defArgs st) (defBody st) (defScope st) .none kV doc pm an cdv ct) ⟨us, []⟩ = pure (ps.zip us))
    (a : PySem.W.findIn K (.ref C) m = some (some (.ref f))) (i : PySem.W.isFn K (.ref f) = true) (l : K.lookup f = some ⟨oc, od, .func (PySem.W.fnOf m qual (defArgs st) (defBody st) (defScope st) .none kV doc pm an cdv ct), osl⟩)
    (c : PySem.W.codeIn K cdv qual = true) (k : PySem.W.keepIn K (.ref f) = true) : TopMeth K C m qual st ps :=
  have F := fun_mk (st := st) l c k
  ⟨f, _, F, a, i, F.binds hb⟩
end
/-- a class of one's own at C, by the name x -/
structure OwnCls (K : PySem.W.Frag) (mg : Str → Option Value) (x : Str) (C : Addr) : Prop where
  g : mg x = some (.ref C)
  cl : Cls K C
  makes : PySem.W.makesIn K C = true
  kp : PySem.W.keepIn K (.ref C) = true
section
variable {X : Cx} {k : Nat} {x m : Str} {ps : List Str} {sp : Sp} {o e : Expr} {es : List Expr} {ta : TE} {t : TA} {p pos apos : Pos} {C : Addr}
theorem pe_mk (c : OwnCls X.K X.mg x C) (D : MethOk X.prog X.w X.K X.mg X.base k C "__init__" ps sp) (hr : Room (k + 1) X.A) (hg : Gl X x) (ha : PA X (e :: es) t) (hdb : (x == ("__debug__" : Str)) = false := by decide)
    (he : starEach (e :: es) X.env = (false, eval e X.env) :: starEach es X.env := by rfl) (hpl : (backTo pos (starEach es X.env)).any (·.1) = false := by rfl) :
    PE X (.Call (.Name x p) (e :: es) [] pos) (tMake C sp [] E0 t) := by
  obtain ⟨f, fd, F, hm, hi, hk, hb⟩ := D.ex
  exact pe_make ⟨c.makes, hm, hi, c.kp⟩ F hr hg c.g hb .nil pass0 ha hdb he hpl
theorem pe_mk0 (c : OwnCls X.K X.mg x C) (D : MethOk X.prog X.w X.K X.mg X.base k C "__init__" ps sp) (hr : Room (k + 1) X.A) (hg : Gl X x) (hdb : (x == ("__debug__" : Str)) = false := by decide) :
    PE X (.Call (.Name x p) [] [] pos) (tMake C sp [] E0 tNil) := by
  obtain ⟨f, fd, F, hm, hi, hk, hb⟩ := D.ex
  exact pe_make0 ⟨c.makes, hm, hi, c.kp⟩ F hr hg c.g hb .nil pass0 hdb
theorem pe_mth {pl : Sem Bool} (c : Cls X.K C) (D : MethOk X.prog X.w X.K X.mg X.base k C m ps sp) (hr : Room k X.A) (he : PE X o ta) (ha : PA X (e :: es) t)
    (hst : starEach (e :: es) X.env = (false, eval e X.env) :: starEach es X.env := by rfl) (hpl : (backTo pos (starEach es X.env)).any (·.1) = false := by rfl)
    (ht : eval (.Call (.Attribute o m apos) (e :: es) [] pos) X.env = (do
      let ov ← eval o X.env
      standAt apos.atName
      let (f, first) ← holding [ov] (getMethod ov m pl)
      callWith pos f first (backTo pos (starEach (e :: es) X.env)) (backToKw pos (keywordEach [] X.env))) := by rfl) :
    PE X (.Call (.Attribute o m apos) (e :: es) [] pos) (tMeth C m sp [] E0 ta t) := by
  obtain ⟨f, fd, F, hm, hi, hk, hb⟩ := D.ex
  exact pe_meth he c ⟨hm, hi, hk⟩ F hr hb .nil pass0 ha hst hpl ht
theorem pe_mth0 {pl : Sem Bool} (c : Cls X.K C) (D : MethOk X.prog X.w X.K X.mg X.base k C m ps sp) (hr : Room k X.A) (he : PE X o ta)
    (ht : eval (.Call (.Attribute o m apos) [] [] pos) X.env = (do
      let ov ← eval o X.env
      standAt apos.atName
      let (f, first) ← holding [ov] (getMethod ov m pl)
      callWith pos f first (backTo pos (starEach [] X.env)) (backToKw pos (keywordEach [] X.env))) := by rfl) :
    PE X (.Call (.Attribute o m apos) [] [] pos) (tMeth C m sp [] E0 ta tNil) := by
  obtain ⟨f, fd, F, hm, hi, hk, hb⟩ := D.ex
  exact pe_meth0 he c ⟨hm, hi, hk⟩ F hr hb .nil pass0 ht
/-- a def is run somewhere below the running body -/
theorem run_sub {A : Around} {f : Addr} {fd : FuncData} {pins : List (Addr × Obj)} {σ : L2.St} {H : Hp} {s : Shared} {Q : VK} {us : List Value} {vs : List V} (F : FnOk X.prog X.w X.K X.mg X.base CX0 k f fd ps sp) (sb : Sub X k A) (hb : Binds X.K fd ps [])
    (I : Inv X pins σ H s) (r : Vals vs us) (h : sp vs H Q E0) : wpAny (model X.prog X.w) A (call (.ref f) us) (EP X pins σ Q) X.xe s := by
  have e0 : Env0 X.prog X.w X.K X.mg X.base A X.stack s H := by
    have e := I.env0
    exact ⟨by rw [sb.fr]; exact e.frames, e.mod, e.bs, e.bsz, e.funs, e.frf, e.hok, e.bare⟩
  have hl := F.len _ _ _ _ h
  refine wpAny_call (codeAny_mono (F.run A X.stack s H ⟨us, []⟩ us vs Q E0 sb.room e0 (by
    have := hb s us I.kIn (by rw [List.append_nil, ← r.length]; exact hl)
    simpa using this) r h) fun r s' hq => ?_)
  cases r with
  | error e => exact False.elim hq
  | ok fl =>
    cases fl with
    | ret u => exact I.after hq
    | next => exact False.elim hq
    | brk => exact False.elim hq
    | cont => exact False.elim hq
/-- len(o) by an own __len__ -/
def rLenC (C : Addr) (sp : Sp) : List V → Hp → VK → Prop := fun xs H Q => ∃ a dx fs, xs = [.ref a] ∧ H a = some (.ins C dx fs) ∧ sp [.ref a] H (fun v H' => ∃ n : Int, v = .int n ∧ 0 ≤ n ∧ n < 2 ^ 63 ∧ Q (.int n) H') E0
theorem call_lenC (D : MethOk X.prog X.w X.K X.mg X.base k C "__len__" ps sp) (hr : Room (k + 1) X.A) : CallR X (.builtin "len") (rLenC C sp) := by
  intro pins s σ H xs us Q I r h
  obtain ⟨f, fd, F, hm, hi, hk, hb⟩ := D.ex
  obtain ⟨a, dx, fs, rfl, ha, q⟩ := h
  obtain ⟨u, rfl, ru⟩ := vals1 r
  cases ru
  obtain ⟨mA, J, _⟩ := ins_get I.hok ha
  obtain ⟨od, J, _⟩ := J.look
  obtain ⟨m', hF⟩ := I.fr
  refine PySem.W.len_K hF I.ok.mod.kin J hm hi ?_
  refine wpAny_mono (run_sub (vs := [V.ref a]) F ⟨hr.in1, rfl⟩ hb I (.cons rfl .nil) q) (fun v s' z => ?_) fun _ _ z => z
  obtain ⟨x, H', I', rx, n, ex, h0, h1, q⟩ := z
  subst ex
  obtain ⟨t, rfl⟩ := rx
  exact ⟨⟨h0, h1⟩, .int n, H', I'.tok _, ⟨_, rfl⟩, q⟩
/-- x == y by an own __eq__ -/
def rEqC (C : Addr) (sp : Sp) : R2 := fun x y H Q => ∃ a b dx dy fs gs, x = .ref a ∧ y = .ref b ∧ H a = some (.ins C dx fs) ∧ H b = some (.ins C dy gs) ∧ sp [.ref a, .ref b] H (fun v H' => ∃ r, v = .bl r ∧ Q (.bl r) H') E0
theorem op_eqC (D : MethOk X.prog X.w X.K X.mg X.base k C "__eq__" ps sp) (hr : Room k X.A) : OpR X (compareOp .Eq) (rEqC C sp) := by
  intro pins s σ H x y v u Q I rx ry h
  obtain ⟨f, fd, F, hm, hi, hk, hb⟩ := D.ex
  obtain ⟨a, b, dx, dy, fs, gs, rfl, rfl, ha, hb', q⟩ := h
  cases rx
  cases ry
  obtain ⟨mA, J, _⟩ := ins_get I.hok ha
  obtain ⟨mB, J', _⟩ := ins_get I.hok hb'
  obtain ⟨od, J, _⟩ := J.look
  obtain ⟨od', J', _⟩ := J'.look
  obtain ⟨m', hF⟩ := I.fr
  show wpAny (model X.prog X.w) X.A (richCompare .Eq (.ref a) (.ref b)) _ _ _
  refine PySem.W.cmp_K (op := .Eq) (tb := .ref C) hr.units0 hF I.ok.mod.kin J J'.type (by simp [PySem.W.notFirst]) hm hi ?_
  refine wpAny_mono (run_sub (vs := [V.ref a, V.ref b]) F ⟨hr, rfl⟩ hb I (.cons rfl (.cons rfl .nil)) q) (fun v s' z => ?_) fun _ _ z => z
  obtain ⟨x, H', I', rx, r, ex, q⟩ := z
  subst ex
  cases rx
  exact ⟨.bl r, H', I', rfl, q⟩
end
/-- what != by an own __eq__ wants of the class -/
structure NeCls (K : PySem.W.Frag) (C : Addr) : Prop where
  ex : ∃ (nm q : Str) (N : Addr) (bs : List Value) (hdct : Bool) (sn : List Str) (sub : List Value) (ab : Bool) (col : Option Bool) (dd : Option Addr) (k0 k1 k2 k3 k5 : Option Value) (newId : String) (f : Addr) (of : Obj),
    K.lookup C = some (excClassObj nm q C N bs [.type "object"] hdct sn sub ab col dd k0 k1 k2 k3 k5 newId) ∧ PySem.W.nsOkIn K N = true ∧ PySem.W.nsIn K N "__eq__" = some (some (.ref f)) ∧ PySem.W.nsIn K N "__ne__" = some none ∧
    PySem.W.findIn K (.ref C) "__eq__" = some (some (.ref f)) ∧ K.lookup f = some of ∧ of.cls = .type "function"
theorem ns_some_of {K : PySem.W.Frag} {h : Heap} {N : Addr} {mg : Str → Option Value} {n : Str} {v : Value} (X : K.In h) (G : h.Ns N mg) (e : PySem.W.nsIn K N n = some (some v)) : mg n = some v := by
  obtain ⟨o, es, ep, ho, hd, _, hf⟩ := G
  unfold PySem.W.nsIn at e
  split at e
  · rename_i c d es' n' sl q
    have := X _ _ q
    rw [ho] at this
    cases this
    cases hd
    split at e
    · rename_i en he
      cases e
      rw [← hf]
      unfold nsFind findBy
      rw [← Array.find?_toList, he]
      rfl
    · split at e <;> cases e
  · cases e
section
variable {X : Cx} {k : Nat} {ps : List Str} {sp : Sp} {C : Addr}
def rNeC (C : Addr) (sp : Sp) : R2 := fun x y H Q => ∃ a b dx dy fs gs, x = .ref a ∧ y = .ref b ∧ H a = some (.ins C dx fs) ∧ H b = some (.ins C dy gs) ∧ sp [.ref a, .ref b] H (fun v H' => ∃ r, v = .bl r ∧ Q (.bl (!r)) H') E0
theorem op_neC (T : NeCls X.K C) (D : MethOk X.prog X.w X.K X.mg X.base k C "__eq__" ps sp) (hr : Room (k + 1) X.A) : OpR X (compareOp .NotEq) (rNeC C sp) := by
  intro pins s σ H x y v u Q I rx ry h
  obtain ⟨f, fd, F, hm, hi, hk, hb⟩ := D.ex
  obtain ⟨a, b, dx, dy, fs, gs, rfl, rfl, ha, hb', q⟩ := h
  cases rx
  cases ry
  obtain ⟨nm, qn, N, bs, hdct, sn, sub, ab, col, dd, k0, k1, k2, k3, k5, newId, f', of, lC, nk, ne, nn, fe, lf, cf⟩ := T.ex
  rw [hm] at fe
  cases fe
  obtain ⟨mA, J, _⟩ := ins_get I.hok ha
  obtain ⟨mB, J', _⟩ := ins_get I.hok hb'
  have KX := I.kIn
  have hns : s.heap.Ns N (s.heap.nsMap N) := .of_isNs (PySem.W.isNs_of_in KX nk)
  obtain ⟨hp, g, d, t, os⟩ := s
  have OE : Heap.OwnEqNoNe hp a C f "object" [.type "object"] := ⟨_, of, nm, qn, N, bs, hdct, sn, sub, ab, col, dd, k0, k1, k2, k3, k5, newId, _, _, J.obj, rfl, KX _ _ lC, hns, ns_some_of KX hns ne, KX _ _ lf, cf, PySem.F.cmp_object.mro, PySem.F.cmp_object.eq.lookup, PySem.W.ns_none_of KX hns nn⟩
  refine compareOp_ne_ownEq PySem.F.cmp_object OE J'.obj rfl (by have := hr.units; omega) ?_
  refine wpAny_mono (run_sub (vs := [V.ref a, V.ref b]) F ⟨hr.in1, rfl⟩ hb I (.cons rfl (.cons rfl .nil)) q) (fun v s' z => ?_) fun _ _ z => z
  obtain ⟨x, H', I', rx, r, ex, q⟩ := z
  subst ex
  cases rx
  exact ⟨r, rfl, .bl (!r), H', I', rfl, q⟩
end
end LB
set_option Elab.async false
set_option linter.all false
set_option maxRecDepth 100000
set_option maxHeartbeats 4000000
namespace LB
open PySem PySem.Spec PyProof.Rows L2
/-! ### defs that raise -/
/-- the def x keeps the promise sp, exceptions and all; dvs its defaults that fill up -/
structure DefX (P : Program) (w : World) (K : PySem.W.Frag) (mg : Str → Option Value) (base : Heap) (k : Nat) (x : Str) (ps : List Str) (dvs : List V) (sp : Sp) : Prop where
  ex : ∃ (f : Addr) (fd : FuncData) (ds : List Value), FnOk P w K mg base (L2.CX P w) k f fd ps sp ∧ mg x = some (.ref f) ∧ PySem.W.keepIn K (.ref f) = true ∧ Binds K fd ps ds ∧ Vals dvs ds
section
variable {P : Program} {w : World} {K : PySem.W.Frag} {mg : Str → Option Value} {base : Heap}
theorem TopFn.okX {x : Str} {st : Stmt} {N ps : List Str} {k : Nat} {sp : Sp} (F : TopFn K mg x st ps) (S : FnScope N ps (defScope st)) (len : ∀ vs H Q E, sp vs H Q E → vs.length = ps.length)
    (hbody : ∀ (f : Addr) (cdv : Value) (A : Around) (outer : List Env) (s : Shared) (H : Hp) (vs : List V) (Q : VK) (E : XK), Room k (A.deeper (envOfC x (defScope st) s.heap.objs.size f cdv)) → sp vs H Q E →
      ∃ t, PSs (cxOf (L2.CX P w) P w K mg base N x (defScope st) f cdv A outer s H E) (defBody st) t ∧ t { nx := fun _ H' => Q .non H', rt := Q } (start N vs) H) : DefX P w K mg base (k + 1) x ps [] sp := by
  obtain ⟨f, fd, F, hm, b⟩ := F.ex
  exact ⟨f, fd, [], F.okX S len (hbody f), hm, F.kp, b, .nil⟩
/-- a def with defaults dvs; every argument may be written, or all but those -/
structure TopFnD (K : PySem.W.Frag) (mg : Str → Option Value) (x : Str) (st : Stmt) (ps : List Str) (dvs : List V) : Prop where
  ex : ∃ (f : Addr) (fd : FuncData) (ds : List Value), FunD K x x (defArgs st) (defBody st) (defScope st) dvs [] f fd ∧ mg x = some (.ref f) ∧ Binds K fd ps [] ∧ Binds K fd ps ds ∧ Vals dvs ds
theorem TopFnD.okX {x : Str} {st : Stmt} {N ps : List Str} {dvs : List V} {k : Nat} {sp : Sp} (F : TopFnD K mg x st ps dvs) (S : FnScope N ps (defScope st)) (len : ∀ vs H Q E, sp vs H Q E → vs.length = ps.length)
    (hbody : ∀ (f : Addr) (cdv : Value) (A : Around) (outer : List Env) (s : Shared) (H : Hp) (vs : List V) (Q : VK) (E : XK), Room k (A.deeper (envOfC x (defScope st) s.heap.objs.size f cdv)) → sp vs H Q E →
      ∃ t, PSs (cxOf (L2.CX P w) P w K mg base N x (defScope st) f cdv A outer s H E) (defBody st) t ∧ t { nx := fun _ H' => Q .non H', rt := Q } (start N vs) H) : DefX P w K mg base (k + 1) x ps [] sp ∧ DefX P w K mg base (k + 1) x ps dvs sp := by
  obtain ⟨f, fd, ds, F, hm, b0, b1, hv⟩ := F.ex
  exact ⟨⟨f, fd, [], F.ok S len (hbody f), hm, F.kp, b0, .nil⟩, ⟨f, fd, ds, F.ok S len (hbody f), hm, F.kp, b1, hv⟩⟩
end
section
variable {X : Cx} {k : Nat} {x : Str} {ps : List Str} {dvs : List V} {sp : Sp} {e : Expr} {es : List Expr} {t : TA} {p pos : Pos} {W : WX}
/-- such a def is called where its exceptions are taken -/
theorem pe_fnX (D : DefX X.prog X.w X.K X.mg X.base k x ps dvs sp) (tk : Takes X W) (hr : Room k X.A) (hg : Gl X x) (ha : PA X (e :: es) t) (hdb : (x == ("__debug__" : Str)) = false := by decide)
    (he : starEach (e :: es) X.env = (false, eval e X.env) :: starEach es X.env := by rfl) (hpl : (backTo pos (starEach es X.env)).any (·.1) = false := by rfl) :
    PE X (.Call (.Name x p) (e :: es) [] pos) (tCallSD sp dvs (WE W) t) := by
  obtain ⟨f, fd, ds, F, hm, hk, hb, hv⟩ := D.ex
  exact pe_callSD F hr hg hm hk hb hv (fun σ => passAt tk σ) ha hdb he hpl
/-- .. where it raises none -/
theorem pe_fnE (D : DefX X.prog X.w X.K X.mg X.base k x ps dvs sp) (hr : Room k X.A) (hg : Gl X x) (ha : PA X (e :: es) t) (hdb : (x == ("__debug__" : Str)) = false := by decide)
    (he : starEach (e :: es) X.env = (false, eval e X.env) :: starEach es X.env := by rfl) (hpl : (backTo pos (starEach es X.env)).any (·.1) = false := by rfl) :
    PE X (.Call (.Name x p) (e :: es) [] pos) (tCall sp dvs E0 t) := by
  obtain ⟨f, fd, ds, F, hm, hk, hb, hv⟩ := D.ex
  exact pe_call F hr hg hm hk hb hv passL ha hdb he hpl
end
/-! ### try: the body's and the suite's terms are given where the reading is answered -/
def tbE (X : Cx) (body : List Stmt) : WX → TS := fun W D σ H => ∀ (pn : List (Addr × Obj)) (xe : Value → Shared → Prop), Takes (X.tr pn xe) W → PassesOwn (model X.prog X.w) X.A X.env xe → ∃ t, PSs (X.tr pn xe) body t ∧ t D σ H
def tsE (X : Cx) (suite : List Stmt) : Addr → Value → Option Addr → TS := fun a cls d D σ H => ∀ (oe : Obj) (pn : List (Addr × Obj)), Zc cls d oe → (∃ vs, oe.data = .fields vs) → ∃ t, PSs (X.suite a ((a, oe) :: pn)) suite t ∧ t D σ H
theorem ps_tryE {X : Cx} {x n : Str} {c : Value} {i : Nat} {body suite : List Stmt} {b₀ : Stmt} {np pos pos' : Pos} {Wout : WX} (hs : X.stack = X.env :: X.outer) (hf : X.env.frame = some X.env.locals) (hN : X.N.Nodup) (hi : X.N[i]? = some n) (hln : X.env.kindOf n = some .local) (hc : Names X x c) (tk : Takes X Wout) :
    PS X (.Try body [.ExceptHandler (some (.Name x np)) (some n) (b₀ :: suite) pos'] [] [] pos) (fun D σ H => tbE X body (wAs X.K c i (tsE X (b₀ :: suite)) Wout D) D σ H) := by
  refine ps_try_as (tb := tbE X body) (ts := tsE X (b₀ :: suite)) hs hf hN hi hln hc tk (fun W pn xe tk' po => ⟨fun pins s σ H D I h => ?_⟩) (fun a oe cls d pn hz hd => ⟨fun pins s σ H D I h => ?_⟩)
  · obtain ⟨t, ht, q⟩ := h pn xe tk' po
    exact ht.run pins s σ H D I q
  · obtain ⟨t, ht, q⟩ := h oe pn hz hd
    exact ht.run pins s σ H D I q
/-! ### LowError and what is over it -/
structure LowTxt (K : PySem.W.Frag) (mg : Str → Option Value) (L : Addr) : Prop where
  g : mg "LowError" = some (.ref L)
  sp : PySem.W.specialIn K (.ref L) "__getattribute__" = some (some (.builtin "type.__getattribute__"))
  ty : PySem.W.typeIn K (.ref L) = some (.type "type")
  rd : PySem.W.readsIn K L (.type "type") = true
  fi : PySem.W.findCls K (.ref L) (.type "type") "__init__" = some (.val (.builtin "ValueError.__init__"))
/-- LowError.__init__(self, ..) -/
theorem pe_loinit {X : Cx} {L : Addr} {e : Expr} {es : List Expr} {ta : TA} {p1 p2 pos : Pos} {pl : Sem Bool} (T : LowTxt X.K X.mg L) (hg : Gl X "LowError") (ha : PA X (e :: es) ta)
    (hc : eval (.Call (.Attribute (.Name "LowError" p1) "__init__" p2) (e :: es) [] pos) X.env = (do
      let ov ← eval (.Name "LowError" p1) X.env
      standAt p2.atName
      let (f, first) ← holding [ov] (getMethod ov "__init__" pl)
      callWith pos f first (backTo pos (starEach (e :: es) X.env)) (backToKw pos (keywordEach [] X.env))) := by rfl)
    (he : starEach (e :: es) X.env = (false, eval e X.env) :: starEach es X.env := by rfl) (hpl : (backTo pos (starEach es X.env)).any (·.1) = false := by rfl) :
    PE X (.Call (.Attribute (.Name "LowError" p1) "__init__" p2) (e :: es) [] pos) (tVeI X.K ta) := by
  refine ⟨fun pins s σ H Q I h => ?_⟩
  refine PySem.W.methodCall_KW (ld_glob I hg T.g ?_ (by decide)) hc
  obtain ⟨m, fr⟩ := I.fr
  refine PySem.W.method_of_cls fr I.ok.mod.kin T.sp (PySem.W.cls_val fr I.ok.mod.kin T.ty T.rd T.fi (by decide +kernel) ?_)
  show wpAny _ _ (callWith pos (Value.builtin "ValueError.__init__") [] (backTo pos (starEach (e :: es) X.env)) []) _ _ _
  refine PyProof.Rows.callWith_method1 (thn (ha.run pos pins _ σ H _ (I.tok _) h) fun us s1 ⟨vs, H1, I1, r1, a, C, ws, ev, hl, T, ea, q⟩ => ?_) he hpl
  subst ev
  cases r1 with
  | @cons _ u0 _ ur ra rw' =>
    obtain rfl : u0 = Value.ref a := ra
    have hlen : ur.length ≤ sizeLine := by
      rw [← Paired.length rw', sizeLine_eq]
      omega
    exact oinit_ok T I1 ea hlen fun s' J => ⟨.non, H1, J, rfl, q⟩
/-- an own exception's class at C, by the name x -/
structure ExcCls (K : PySem.W.Frag) (mg : Str → Option Value) (x : Str) (C : Addr) : Prop where
  g : mg x = some (.ref C)
  oex : OexC K C
  xf : XfC K C
  me : PySem.W.exmOne K (.ref C) (.ref C) = some true
/-- its __init__ with two fields -/
def spExc2 (K : PySem.W.Frag) (C : Addr) (f g : Str) : Sp := fun vs H Q _ => ∃ (a : Addr) (x y : V), vs = [.ref a, x, y] ∧ H a = some (exo a C none) ∧ ∀ dx, H dx = none → dx ≠ a → Q .non (upd (upd (upd H dx (exd dx [(f, x)])) a (exo a C (some dx))) dx (exd dx [(g, y), (f, x)]))
section
variable {X : Cx} {k : Nat} {x : Str} {ps : List Str} {sp : Sp} {e : Expr} {es : List Expr} {t : TA} {p pos pos' : Pos} {C : Addr} {W : WX}
theorem ps_raiseO (c : ExcCls X.K X.mg x C) (D : MethOk X.prog X.w X.K X.mg X.base k C "__init__" ps sp) (hc : X.calm = true) (tk : Takes X W) (hr : Room (k + 1) X.A) (hg : Gl X x) (ha : PA X (e :: es) t) (hdb : (x == ("__debug__" : Str)) = false := by decide)
    (he : starEach (e :: es) X.env = (false, eval e X.env) :: starEach es X.env := by rfl) (hpl : (backTo pos (starEach es X.env)).any (·.1) = false := by rfl) :
    PS X (.Raise (some (.Call (.Name x p) (e :: es) [] pos)) none pos') (fun _ σ H => tMkO C sp [] t σ H fun cls d H' => W cls d σ H') := by
  obtain ⟨f, fd, F, hm, hi, hk, hb⟩ := D.ex
  exact ps_raise hc tk (pmk_oex c.oex hm (by simpa [PySem.W.isFn] using hi) F hr hb .nil pass0 hg c.g ha hdb he hpl)
end
end LB
set_option Elab.async false
set_option linter.all false
set_option autoImplicit false
set_option maxRecDepth 100000
set_option maxHeartbeats 4000000
/-! PD: data in place of the heap. What never changes is a tree; what changes is kept in a small store of its own. -/
namespace PD
open PySem PySem.Spec PyProof.Rows L2
inductive D where
  | non | bl (b : Bool) | int (i : Int) | str (s : Str) | ty (n : String)
  | tup (xs : List D) | lst (xs : List D) | obj (C : Str) (fs : List (Str × D)) | dct (kvs : List (Str × D)) | ptr (a : Addr) | scr (ns : List Int) | cls (n : Str)
  | exc (a : Addr) (dd : Option Addr) (C : Str) (fs : List (Str × D)) | xob (C : Str) (fs : List (Str × D))
/-- what changes -/
inductive MO where
  | lst (ds : List D) | dic (kvs : List (Key × D)) | ins (C : Str) (fs : List (Str × D)) | deal (l : Addr)
abbrev Mu := Addr → Option MO
def Mu.set (μ : Mu) (a : Addr) (m : MO) : Mu := fun b => if b = a then some m else μ b
def Mu.inter (μ' μ : Mu) : Mu := fun b => if (μ b).isSome then μ' b else none
theorem Mu.set_same {μ : Mu} {a : Addr} {m : MO} : (μ.set a m) a = some m := if_pos rfl
theorem Mu.set_ne {μ : Mu} {a b : Addr} {m : MO} (h : b ≠ a) : (μ.set a m) b = μ b := if_neg h
theorem Mu.set_set {μ : Mu} {a : Addr} {m m' : MO} : (μ.set a m).set a m' = μ.set a m' := by
  funext b
  unfold Mu.set
  split <;> rfl
theorem Mu.inter_self {μ : Mu} : μ.inter μ = μ := by
  funext b
  unfold Mu.inter
  cases μ b <;> rfl
theorem Mu.inter_new {μ μ' : Mu} {p : Addr} {m : MO} (h : μ p = none) : (μ'.set p m).inter μ = μ'.inter μ := by
  funext b
  unfold Mu.inter
  by_cases e : b = p
  · subst e
    rw [h]
    rfl
  · rw [Mu.set_ne e]
theorem Mu.inter_set {μ μ' : Mu} {p : Addr} {m : MO} (h : (μ p).isSome = true) : (μ'.set p m).inter μ = (μ'.inter μ).set p m := by
  funext b
  unfold Mu.inter
  by_cases e : b = p
  · subst e
    rw [Mu.set_same, Mu.set_same, if_pos h]
  · rw [Mu.set_ne e, Mu.set_ne e]
/-- neither kept in the store nor the inner list of a deal -/
def Im (μ : Mu) (a : Addr) : Prop := μ a = none ∧ ∀ d, μ d ≠ some (.deal a)
/-- what the text gives: the written part, the classes by name, the written dicts -/
structure Wo where
  K : PySem.W.Frag
  cl : Str → Addr
  kd : Addr → List (Str × D) → Prop
  /-- the own classes, the names of their instances' attributes -/
  cok : Str → Prop
  fok : Str → Str → Prop
def KTup (K : PySem.W.Frag) (a : Addr) (xs : List V) : Prop := ∃ (o : Obj) (its : Array Value) (n : Nat), K.lookup a = some o ∧ o.cls = .type "tuple" ∧ o.data = .seq its n ∧ its.size ≤ sizeLine ∧ Vals xs its.toList
abbrev Hid := Addr → Prop
mutual
inductive Rep (W : Wo) (hid : Hid) (H : Hp) (μ : Mu) : V → D → Prop
  | non : Rep W hid H μ .non .non
  | bl (b : Bool) : Rep W hid H μ (.bl b) (.bl b)
  | int (i : Int) : Rep W hid H μ (.int i) (.int i)
  | str (s : Str) : Rep W hid H μ (.str s) (.str s)
  | ty (n : String) : Rep W hid H μ (.ty n) (.ty n)
  | ptr (a : Addr) : Rep W hid H μ (.ref a) (.ptr a)
  | tup {a : Addr} {vs : List V} {ds : List D} : Rd H a (.tup vs) → Im μ a → ¬ hid a → Reps W hid H μ vs ds → Rep W hid H μ (.ref a) (.tup ds)
  | tupK {a : Addr} {vs : List V} {ds : List D} : KTup W.K a vs → Reps W hid H μ vs ds → Rep W hid H μ (.ref a) (.tup ds)
  | lst {a : Addr} {vs : List V} {ds : List D} : H a = some (.lst vs) → Im μ a → ¬ hid a → Reps W hid H μ vs ds → Rep W hid H μ (.ref a) (.lst ds)
  | obj {a dx : Addr} {C : Str} {fs : List (Str × V)} {gs : List (Str × D)} : H a = some (.ins (W.cl C) dx fs) → Im μ a → ¬ hid a → W.cok C → (∀ p ∈ gs, W.fok C p.1) → RepF W hid H μ fs gs → Rep W hid H μ (.ref a) (.obj C gs)
  | dct {a : Addr} {kvs : List (Str × D)} : W.kd a kvs → Rep W hid H μ (.ref a) (.dct kvs)
  | scr {a : Addr} {ns : List Int} : Rd H a (.lst (ns.map V.int)) → Im μ a → ¬ hid a → Rep W hid H μ (.ref a) (.scr ns)
  | cls (n : Str) : Rep W hid H μ (.ref (W.cl n)) (.cls n)
  | scrK {a : Addr} {ns : List Int} : (∀ H, SqL W.K H a (ns.map V.int)) → Rep W hid H μ (.ref a) (.scr ns)
  /-- an exception that is held in a suite: of its object only the fields are told -/
  | exc {a dd : Addr} {C : Str} {fs : List (Str × V)} {gs : List (Str × D)} : H dd = some (.xd fs) → Im μ dd → ¬ hid dd → RepF W hid H μ fs gs → Rep W hid H μ (.ref a) (.exc a (some dd) C gs)
  | exc0 {a : Addr} {C : Str} : Rep W hid H μ (.ref a) (.exc a none C [])
  /-- an exception that was made and not raised -/
  | xob {a dx : Addr} {C : Str} {fs : List (Str × V)} {gs : List (Str × D)} : H a = some (exo a (W.cl C) (some dx)) → Im μ a → ¬ hid a → H dx = some (exd dx fs) → Im μ dx → ¬ hid dx → RepF W hid H μ fs gs → Rep W hid H μ (.ref a) (.xob C gs)
  | xob0 {a : Addr} {C : Str} : H a = some (exo a (W.cl C) none) → Im μ a → ¬ hid a → Rep W hid H μ (.ref a) (.xob C [])
inductive Reps (W : Wo) (hid : Hid) (H : Hp) (μ : Mu) : List V → List D → Prop
  | nil : Reps W hid H μ [] []
  | cons {v : V} {vs : List V} {d : D} {ds : List D} : Rep W hid H μ v d → Reps W hid H μ vs ds → Reps W hid H μ (v :: vs) (d :: ds)
inductive RepF (W : Wo) (hid : Hid) (H : Hp) (μ : Mu) : List (Str × V) → List (Str × D) → Prop
  | nil : RepF W hid H μ [] []
  | cons {f : Str} {v : V} {vs : List (Str × V)} {d : D} {ds : List (Str × D)} : Rep W hid H μ v d → RepF W hid H μ vs ds → RepF W hid H μ ((f, v) :: vs) ((f, d) :: ds)
end
/-- what stands and cannot change stands on -/
def Ok (hid : Hid) (H : Hp) (μ : Mu) (hid' : Hid) (H' : Hp) (μ' : Mu) : Prop := ∀ a o, H a = some o → Im μ a → ¬ hid a → H' a = some o ∧ Im μ' a ∧ ¬ hid' a
section
variable {W : Wo} {hid hid' : Hid} {H H' : Hp} {μ μ' : Mu}
theorem Ok.rd {a : Addr} {u : HO} (k : Ok hid H μ hid' H' μ') (h : Rd H a u) (i : Im μ a) (n : ¬ hid a) : Rd H' a u ∧ Im μ' a ∧ ¬ hid' a := by
  rcases h with h | ⟨o, h⟩
  · obtain ⟨h1, h2, h3⟩ := k a _ h i n
    exact ⟨.inl h1, h2, h3⟩
  · obtain ⟨h1, h2, h3⟩ := k a _ h i n
    exact ⟨.inr ⟨o, h1⟩, h2, h3⟩
mutual
theorem Rep.mono (k : Ok hid H μ hid' H' μ') : ∀ {v : V} {d : D}, Rep W hid H μ v d → Rep W hid' H' μ' v d
  | _, _, .non => .non
  | _, _, .bl b => .bl b
  | _, _, .int i => .int i
  | _, _, .str s => .str s
  | _, _, .ty n => .ty n
  | _, _, .ptr a => .ptr a
  | _, _, .tup h i n r =>
    let ⟨h1, h2, h3⟩ := k.rd h i n
    .tup h1 h2 h3 (Reps.mono k r)
  | _, _, .tupK h r => .tupK h (Reps.mono k r)
  | _, _, .lst h i n r =>
    let ⟨h1, h2, h3⟩ := k _ _ h i n
    .lst h1 h2 h3 (Reps.mono k r)
  | _, _, .obj h i n c f r =>
    let ⟨h1, h2, h3⟩ := k _ _ h i n
    .obj h1 h2 h3 c f (RepF.mono k r)
  | _, _, .cls n => .cls n
  | _, _, .dct h => .dct h
  | _, _, .scr h i n =>
    let ⟨h1, h2, h3⟩ := k.rd h i n
    .scr h1 h2 h3
  | _, _, .scrK h => .scrK h
  | _, _, .exc h i n r =>
    let ⟨h1, h2, h3⟩ := k _ _ h i n
    .exc h1 h2 h3 (RepF.mono k r)
  | _, _, .exc0 => .exc0
  | _, _, .xob h i n h' i' n' r =>
    let ⟨h1, h2, h3⟩ := k _ _ h i n
    let ⟨g1, g2, g3⟩ := k _ _ h' i' n'
    .xob h1 h2 h3 g1 g2 g3 (RepF.mono k r)
  | _, _, .xob0 h i n =>
    let ⟨h1, h2, h3⟩ := k _ _ h i n
    .xob0 h1 h2 h3
theorem Reps.mono (k : Ok hid H μ hid' H' μ') : ∀ {vs : List V} {ds : List D}, Reps W hid H μ vs ds → Reps W hid' H' μ' vs ds
  | _, _, .nil => .nil
  | _, _, .cons h r => .cons (Rep.mono k h) (Reps.mono k r)
theorem RepF.mono (k : Ok hid H μ hid' H' μ') : ∀ {vs : List (Str × V)} {ds : List (Str × D)}, RepF W hid H μ vs ds → RepF W hid' H' μ' vs ds
  | _, _, .nil => .nil
  | _, _, .cons h r => .cons (Rep.mono k h) (RepF.mono k r)
end
end
/-- from (H, μ) one may come to (H', μ') -/
def St (H : Hp) (μ : Mu) (H' : Hp) (μ' : Mu) : Prop := ∀ a o, H a = some o → Im μ a → H' a = some o ∧ Im μ' a
theorem St.refl {H : Hp} {μ : Mu} : St H μ H μ := fun _ _ h i => ⟨h, i⟩
theorem St.trans {H H1 H2 : Hp} {μ μ1 μ2 : Mu} (a : St H μ H1 μ1) (b : St H1 μ1 H2 μ2) : St H μ H2 μ2 := fun x o h i => let ⟨h1, i1⟩ := a x o h i; b x o h1 i1
theorem St.ok {hid : Hid} {H H' : Hp} {μ μ' : Mu} (s : St H μ H' μ') : Ok hid H μ hid H' μ' := fun a o h i n => let ⟨h1, i1⟩ := s a o h i; ⟨h1, i1, n⟩
/-- entries of a dict -/
inductive RepK (W : Wo) (hid : Hid) (H : Hp) (μ : Mu) : List (Key × V) → List (Key × D) → Prop
  | nil : RepK W hid H μ [] []
  | cons {k : Key} {v : V} {vs : List (Key × V)} {d : D} {ds : List (Key × D)} : Rep W hid H μ v d → RepK W hid H μ vs ds → RepK W hid H μ ((k, v) :: vs) ((k, d) :: ds)
theorem RepK.mono {W : Wo} {hid hid' : Hid} {H H' : Hp} {μ μ' : Mu} (k : Ok hid H μ hid' H' μ') : ∀ {vs : List (Key × V)} {ds : List (Key × D)}, RepK W hid H μ vs ds → RepK W hid' H' μ' vs ds
  | _, _, .nil => .nil
  | _, _, .cons h r => .cons (h.mono k) (RepK.mono k r)
def MRep (W : Wo) (hid : Hid) (H : Hp) (μ : Mu) (a : Addr) : MO → Prop
  | .lst ds => ∃ vs, H a = some (.lst vs) ∧ Reps W hid H μ vs ds
  | .dic kvs => ∃ es, H a = some (.dK es) ∧ RepK W hid H μ es kvs
  | .ins C fs => ∃ dx gs, H a = some (.ins (W.cl C) dx gs) ∧ RepF W hid H μ gs fs ∧ W.cok C ∧ ∀ p ∈ fs, W.fok C p.1
  | .deal l => LB.Deal a l H
/-- the store is borne by the heap -/
structure SR (W : Wo) (hid : Hid) (H : Hp) (μ : Mu) : Prop where
  at_ : ∀ a m, μ a = some m → ¬ hid a ∧ MRep W hid H μ a m
  inn : ∀ d l, μ d = some (.deal l) → μ l = none ∧ ¬ hid l
  one : ∀ d d' l, μ d = some (.deal l) → μ d' = some (.deal l) → d = d'
  hk : ∀ a, hid a → ∃ o, H a = some o
section
variable {W : Wo} {hid : Hid} {H : Hp} {μ : Mu}
theorem SR.known (s : SR W hid H μ) {a : Addr} {m : MO} (h : μ a = some m) : ∃ o, H a = some o := by
  have q := (s.at_ a m h).2
  cases m with
  | lst ds => obtain ⟨vs, e, _⟩ := q; exact ⟨_, e⟩
  | dic kvs => obtain ⟨vs, e, _⟩ := q; exact ⟨_, e⟩
  | ins C fs => obtain ⟨dx, gs, e, _⟩ := q; exact ⟨_, e⟩
  | deal l => obtain ⟨s, n, left, C⟩ := q; exact ⟨_, C.hd⟩
theorem SR.inner (s : SR W hid H μ) {d l : Addr} (h : μ d = some (.deal l)) : ∃ o, H l = some o := by
  obtain ⟨_, _, _, C⟩ := (s.at_ d _ h).2
  exact ⟨_, C.hl⟩
/-- what is new is not in the store -/
theorem SR.fresh (s : SR W hid H μ) {p : Addr} (hp : H p = none) : Im μ p := by
  refine ⟨?_, fun d e => ?_⟩
  · cases e : μ p with
    | none => rfl
    | some m =>
      obtain ⟨o, q⟩ := s.known e
      rw [hp] at q
      cases q
  · obtain ⟨o, q⟩ := s.inner e
    rw [hp] at q
    cases q
theorem SR.nhid (s : SR W hid H μ) {p : Addr} (hp : H p = none) : ¬ hid p := fun h => by
  obtain ⟨o, q⟩ := s.hk p h
  rw [hp] at q
  cases q
theorem SR.him (s : SR W hid H μ) {a : Addr} (h : hid a) : Im μ a := by
  refine ⟨?_, fun d e => (s.inn d a e).2 h⟩
  cases e : μ a with
  | none => rfl
  | some m => exact ((s.at_ a m e).1 h).elim
theorem SR.hst (s : SR W hid H μ) {H' : Hp} {μ' : Mu} (k : St H μ H' μ') : ∀ a, hid a → ∃ o, H' a = some o := fun a h => by
  obtain ⟨o, q⟩ := s.hk a h
  exact ⟨o, (k a o q (s.him h)).1⟩
theorem St.new {p : Addr} {o : HO} (hp : H p = none) : St H μ (upd H p o) μ := fun a u h i => ⟨by rw [upd_ne (ne_of_none h hp)]; exact h, i⟩
theorem MRep.new {p a : Addr} {o : HO} {m : MO} (hp : H p = none) (h : MRep W hid H μ a m) : MRep W hid (upd H p o) μ a m := by
  have k : Ok hid H μ hid (upd H p o) μ := (St.new hp).ok
  have g : ∀ {b u}, H b = some u → upd H p o b = some u := fun e => by rw [upd_ne (ne_of_none e hp)]; exact e
  cases m with
  | lst ds => obtain ⟨vs, e, r⟩ := h; exact ⟨vs, g e, r.mono k⟩
  | dic kvs => obtain ⟨vs, e, r⟩ := h; exact ⟨vs, g e, r.mono k⟩
  | ins C fs => obtain ⟨dx, gs, e, r, c⟩ := h; exact ⟨dx, gs, g e, r.mono k, c⟩
  | deal l => exact LB.Deal.new h hp
theorem SR.new (s : SR W hid H μ) {p : Addr} {o : HO} (hp : H p = none) : SR W hid (upd H p o) μ :=
  ⟨fun a m h => ⟨(s.at_ a m h).1, (s.at_ a m h).2.new hp⟩, s.inn, s.one, s.hst (St.new hp)⟩
/-- a new thing that changes -/
theorem St.add {p : Addr} {o : HO} {m : MO} (hp : H p = none) (hm : ∀ l, m ≠ .deal l) : St H μ (upd H p o) (μ.set p m) := fun a u h i => by
  have ne := ne_of_none h hp
  refine ⟨by rw [upd_ne ne]; exact h, by rw [Mu.set_ne ne]; exact i.1, fun d e => ?_⟩
  by_cases hd : d = p
  · subst hd
    rw [Mu.set_same] at e
    exact hm _ (Option.some.inj e)
  · rw [Mu.set_ne hd] at e
    exact i.2 d e
theorem MRep.mono {hid hid' : Hid} {H' : Hp} {μ' : Mu} {a : Addr} {m : MO} (k : Ok hid H μ hid' H' μ') (g : H' a = H a) (gd : ∀ l, m = .deal l → H' l = H l) (h : MRep W hid H μ a m) : MRep W hid' H' μ' a m := by
  cases m with
  | lst ds => obtain ⟨vs, e, r⟩ := h; exact ⟨vs, g.trans e, r.mono k⟩
  | dic kvs => obtain ⟨vs, e, r⟩ := h; exact ⟨vs, g.trans e, r.mono k⟩
  | ins C fs => obtain ⟨dx, gs, e, r, c⟩ := h; exact ⟨dx, gs, g.trans e, r.mono k, c⟩
  | deal l =>
    obtain ⟨s, n, left, C⟩ := h
    exact ⟨s, n, left, g.trans C.hd, (gd l rfl).trans C.hl, C.s0, C.s1, C.n0, C.l0, C.l1⟩
theorem SR.add (s : SR W hid H μ) {p : Addr} {o : HO} {m : MO} (hp : H p = none) (hm : ∀ l, m ≠ .deal l) (hr : MRep W hid (upd H p o) (μ.set p m) p m) : SR W hid (upd H p o) (μ.set p m) := by
  have k : Ok hid H μ hid (upd H p o) (μ.set p m) := (St.add hp hm).ok
  have hh := s.nhid hp
  refine ⟨fun a n h => ?_, fun d l h => ?_, fun d d' l h h' => ?_, s.hst (St.add hp hm)⟩
  · by_cases e : a = p
    · subst e
      rw [Mu.set_same] at h
      cases h
      exact ⟨hh, hr⟩
    · rw [Mu.set_ne e] at h
      refine ⟨(s.at_ a n h).1, (s.at_ a n h).2.mono k (by rw [upd_ne e]) fun l e2 => ?_⟩
      subst e2
      obtain ⟨o', q⟩ := s.inner h
      rw [upd_ne (ne_of_none q hp)]
  · have hd : d ≠ p := fun e => by
      subst e
      rw [Mu.set_same] at h
      exact hm _ (Option.some.inj h)
    rw [Mu.set_ne hd] at h
    obtain ⟨o', q⟩ := s.inner h
    rw [Mu.set_ne (ne_of_none q hp)]
    exact s.inn d l h
  · have hd : d ≠ p := fun e => by
      subst e
      rw [Mu.set_same] at h
      exact hm _ (Option.some.inj h)
    have hd' : d' ≠ p := fun e => by
      subst e
      rw [Mu.set_same] at h'
      exact hm _ (Option.some.inj h')
    rw [Mu.set_ne hd] at h
    rw [Mu.set_ne hd'] at h'
    exact s.one d d' l h h'
/-- a thing of the store changes -/
def MO.plain : MO → Prop
  | .lst _ => True
  | .dic _ => True
  | .ins _ _ => True
  | _ => False
theorem MO.plain.nd {m : MO} (h : m.plain) : ∀ l, m ≠ .deal l := fun l e => by subst e; exact h
theorem St.put {x : Addr} {o : HO} {m m' : MO} (hx : μ x = some m) (hm' : m'.plain) : St H μ (upd H x o) (μ.set x m') := fun a u h i => by
  have ne : a ≠ x := fun e => by
    subst e
    have q := i.1
    rw [hx] at q
    cases q
  refine ⟨by rw [upd_ne ne]; exact h, by rw [Mu.set_ne ne]; exact i.1, fun d e => ?_⟩
  by_cases hd : d = x
  · subst hd
    rw [Mu.set_same] at e
    exact hm'.nd _ (Option.some.inj e)
  · rw [Mu.set_ne hd] at e
    exact i.2 d e
theorem SR.put (s : SR W hid H μ) {x : Addr} {o : HO} {m m' : MO} (hx : μ x = some m) (hm' : m'.plain) (hr : MRep W hid (upd H x o) (μ.set x m') x m') : SR W hid (upd H x o) (μ.set x m') := by
  have k : Ok hid H μ hid (upd H x o) (μ.set x m') := (St.put hx hm').ok
  refine ⟨fun a n h => ?_, fun d l h => ?_, fun d d' l h h' => ?_, s.hst (St.put hx hm')⟩
  · by_cases e : a = x
    · subst e
      rw [Mu.set_same] at h
      cases h
      exact ⟨(s.at_ a m hx).1, hr⟩
    · rw [Mu.set_ne e] at h
      refine ⟨(s.at_ a n h).1, (s.at_ a n h).2.mono k (by rw [upd_ne e]) fun l e2 => ?_⟩
      subst e2
      have q := (s.inn a l h).1
      have ne : l ≠ x := fun z => by subst z; rw [hx] at q; cases q
      rw [upd_ne ne]
  · have hd : d ≠ x := fun e => by
      subst e
      rw [Mu.set_same] at h
      exact hm'.nd _ (Option.some.inj h)
    rw [Mu.set_ne hd] at h
    have q := s.inn d l h
    have ne : l ≠ x := fun z => by subst z; rw [hx] at q; exact nomatch q.1
    rw [Mu.set_ne ne]
    exact q
  · have hd : d ≠ x := fun e => by
      subst e
      rw [Mu.set_same] at h
      exact hm'.nd _ (Option.some.inj h)
    have hd' : d' ≠ x := fun e => by
      subst e
      rw [Mu.set_same] at h'
      exact hm'.nd _ (Option.some.inj h')
    rw [Mu.set_ne hd] at h
    rw [Mu.set_ne hd'] at h'
    exact s.one d d' l h h'
/-- a smaller store -/
def Le (μ' μ : Mu) : Prop := ∀ a, μ' a = none ∨ μ' a = μ a
theorem Le.im {μ' : Mu} (h : Le μ' μ) {a : Addr} (i : Im μ a) : Im μ' a := by
  refine ⟨?_, fun d e => ?_⟩
  · rcases h a with q | q
    · exact q
    · exact q.trans i.1
  · rcases h d with q | q
    · rw [q] at e
      cases e
    · exact i.2 d (q.symm.trans e)
theorem Le.st {μ' : Mu} (h : Le μ' μ) : St H μ H μ' := fun a o e i => ⟨e, h.im i⟩
theorem SR.le {μ' : Mu} (s : SR W hid H μ) (h : Le μ' μ) : SR W hid H μ' := by
  have up : ∀ {a m}, μ' a = some m → μ a = some m := fun {a m} e => by
    rcases h a with q | q
    · rw [q] at e
      cases e
    · exact q.symm.trans e
  refine ⟨fun a m e => ⟨(s.at_ a m (up e)).1, (s.at_ a m (up e)).2.mono h.st.ok rfl fun _ _ => rfl⟩, fun d l e => ⟨?_, (s.inn d l (up e)).2⟩, fun d d' l e e' => s.one d d' l (up e) (up e'), s.hk⟩
  rcases h l with q | q
  · exact q
  · exact q.trans (s.inn d l (up e)).1
theorem Mu.inter_le {μ' μ : Mu} : Le (μ'.inter μ) μ' := fun a => by
  unfold Mu.inter
  split
  · exact .inr rfl
  · exact .inl rfl
end
/-! ### slots -/
abbrev Env := List (Option D)
inductive RepO (W : Wo) (hid : Hid) (H : Hp) (μ : Mu) : Option V → Option D → Prop
  | none : RepO W hid H μ none none
  | some {v : V} {d : D} : Rep W hid H μ v d → RepO W hid H μ (some v) (some d)
abbrev Rel (W : Wo) (hid : Hid) (H : Hp) (μ : Mu) : L2.St → Env → Prop := Paired (RepO W hid H μ)
theorem RepO.mono {W : Wo} {hid hid' : Hid} {H H' : Hp} {μ μ' : Mu} (k : Ok hid H μ hid' H' μ') {v : Option V} {d : Option D} : RepO W hid H μ v d → RepO W hid' H' μ' v d
  | .none => .none
  | .some h => .some (h.mono k)
theorem rel_mono {W : Wo} {hid hid' : Hid} {H H' : Hp} {μ μ' : Mu} {σ : L2.St} {ρ : Env} (k : Ok hid H μ hid' H' μ') (h : Rel W hid H μ σ ρ) : Rel W hid' H' μ' σ ρ := Paired.mono (fun _ _ q => q.mono k) h
theorem rel_get {W : Wo} {hid : Hid} {H : Hp} {μ : Mu} : ∀ {σ : L2.St} {ρ : Env} {i : Nat} {d : D}, Rel W hid H μ σ ρ → ρ[i]? = some (some d) → ∃ v, σ[i]? = some (some v) ∧ Rep W hid H μ v d
  | _, _, _, _, .nil, e => by simp at e
  | _, _, 0, d, .cons r _, e => by
    have e1 := Option.some.inj e
    subst e1
    cases r with
    | some q => exact ⟨_, rfl, q⟩
  | _, _, i + 1, d, .cons _ t, e => rel_get (i := i) t (by simpa using e)
theorem rel_set {W : Wo} {hid : Hid} {H : Hp} {μ : Mu} {v : Option V} {d : Option D} (r : RepO W hid H μ v d) : ∀ {σ : L2.St} {ρ : Env} (i : Nat), Rel W hid H μ σ ρ → Rel W hid H μ (σ.set i v) (ρ.set i d)
  | _, _, _, .nil => .nil
  | _, _, 0, .cons _ t => .cons r t
  | _, _, i + 1, .cons q t => .cons q (rel_set r i t)
/-- lists -/
theorem Reps.length {W : Wo} {hid : Hid} {H : Hp} {μ : Mu} : ∀ {vs : List V} {ds : List D}, Reps W hid H μ vs ds → vs.length = ds.length
  | _, _, .nil => rfl
  | _, _, .cons _ r => by rw [List.length_cons, List.length_cons, Reps.length r]
theorem Reps.get {W : Wo} {hid : Hid} {H : Hp} {μ : Mu} : ∀ {vs : List V} {ds : List D} {i : Nat} {d : D}, Reps W hid H μ vs ds → ds[i]? = some d → ∃ v, vs[i]? = some v ∧ Rep W hid H μ v d
  | _, _, _, _, .nil, e => by simp at e
  | _, _, 0, d, .cons r _, e => by
    have e1 := Option.some.inj e
    subst e1
    exact ⟨_, rfl, r⟩
  | _, _, i + 1, d, .cons _ t, e => Reps.get (i := i) t (by simpa using e)
theorem Reps.get' {W : Wo} {hid : Hid} {H : Hp} {μ : Mu} : ∀ {vs : List V} {ds : List D} {i : Nat} {v : V}, Reps W hid H μ vs ds → vs[i]? = some v → ∃ d, ds[i]? = some d ∧ Rep W hid H μ v d
  | _, _, _, _, .nil, e => by simp at e
  | _, _, 0, d, .cons r _, e => by
    have e1 := Option.some.inj e
    subst e1
    exact ⟨_, rfl, r⟩
  | _, _, i + 1, d, .cons _ t, e => Reps.get' (i := i) t (by simpa using e)
theorem Reps.append {W : Wo} {hid : Hid} {H : Hp} {μ : Mu} : ∀ {vs us : List V} {ds es : List D}, Reps W hid H μ vs ds → Reps W hid H μ us es → Reps W hid H μ (vs ++ us) (ds ++ es)
  | _, _, _, _, .nil, q => q
  | _, _, _, _, .cons h r, q => .cons h (Reps.append r q)
theorem Reps.set {W : Wo} {hid : Hid} {H : Hp} {μ : Mu} {v : V} {d : D} (r : Rep W hid H μ v d) : ∀ {vs : List V} {ds : List D} (i : Nat), Reps W hid H μ vs ds → Reps W hid H μ (vs.set i v) (ds.set i d)
  | _, _, _, .nil => .nil
  | _, _, 0, .cons _ t => .cons r t
  | _, _, i + 1, .cons q t => .cons q (Reps.set r i t)
theorem Reps.take {W : Wo} {hid : Hid} {H : Hp} {μ : Mu} : ∀ {vs : List V} {ds : List D} (n : Nat), Reps W hid H μ vs ds → Reps W hid H μ (vs.take n) (ds.take n)
  | _, _, 0, _ => .nil
  | _, _, _ + 1, .nil => .nil
  | _, _, n + 1, .cons h r => .cons h (Reps.take n r)
theorem Reps.drop {W : Wo} {hid : Hid} {H : Hp} {μ : Mu} : ∀ {vs : List V} {ds : List D} (n : Nat), Reps W hid H μ vs ds → Reps W hid H μ (vs.drop n) (ds.drop n)
  | _, _, 0, r => r
  | _, _, _ + 1, .nil => .nil
  | _, _, n + 1, .cons _ r => Reps.drop n r
theorem Reps.slots {W : Wo} {hid : Hid} {H : Hp} {μ : Mu} : ∀ {vs : List V} {ds : List D}, Reps W hid H μ vs ds → Rel W hid H μ (vs.map some) (ds.map some)
  | _, _, .nil => .nil
  | _, _, .cons h r => .cons (.some h) (Reps.slots r)
theorem rel_none {W : Wo} {hid : Hid} {H : Hp} {μ : Mu} : ∀ (n : Nat), Rel W hid H μ (List.replicate n none) (List.replicate n none)
  | 0 => .nil
  | n + 1 => .cons .none (rel_none n)
theorem rel_app {W : Wo} {hid : Hid} {H : Hp} {μ : Mu} : ∀ {σ τ : L2.St} {ρ π : Env}, Rel W hid H μ σ ρ → Rel W hid H μ τ π → Rel W hid H μ (σ ++ τ) (ρ ++ π)
  | _, _, _, _, .nil, q => q
  | _, _, _, _, .cons h r, q => .cons h (rel_app r q)
def startD (n : Nat) (ds : List D) : Env := ds.map some ++ List.replicate (n - ds.length) none
theorem rel_start {W : Wo} {hid : Hid} {H : Hp} {μ : Mu} {N : List Str} {vs : List V} {ds : List D} (r : Reps W hid H μ vs ds) : Rel W hid H μ (L2.start N vs) (startD N.length ds) := by
  unfold L2.start startD
  rw [r.length]
  exact rel_app r.slots (rel_none _)
/-- exact rows of ints, texts, bools -/
theorem reps_ints {W : Wo} {hid : Hid} {H : Hp} {μ : Mu} : ∀ {vs : List V} {ns : List Int}, Reps W hid H μ vs (ns.map D.int) → vs = ns.map V.int
  | _, [], h => by cases h; rfl
  | _, n :: ns, h => by
    cases h with
    | cons a b =>
      cases a
      rw [reps_ints b]
      rfl
theorem ints_reps {W : Wo} {hid : Hid} {H : Hp} {μ : Mu} : ∀ {ns : List Int}, Reps W hid H μ (ns.map V.int) (ns.map D.int)
  | [] => .nil
  | n :: ns => .cons (.int n) ints_reps
theorem reps_strs {W : Wo} {hid : Hid} {H : Hp} {μ : Mu} : ∀ {vs : List V} {ns : List Str}, Reps W hid H μ vs (ns.map D.str) → vs = ns.map V.str
  | _, [], h => by cases h; rfl
  | _, n :: ns, h => by
    cases h with
    | cons a b =>
      cases a
      rw [reps_strs b]
      rfl
theorem strs_reps {W : Wo} {hid : Hid} {H : Hp} {μ : Mu} : ∀ {ns : List Str}, Reps W hid H μ (ns.map V.str) (ns.map D.str)
  | [] => .nil
  | n :: ns => .cons (.str n) strs_reps
theorem reps_bls {W : Wo} {hid : Hid} {H : Hp} {μ : Mu} : ∀ {vs : List V} {ns : List Bool}, Reps W hid H μ vs (ns.map D.bl) → vs = ns.map V.bl
  | _, [], h => by cases h; rfl
  | _, n :: ns, h => by
    cases h with
    | cons a b =>
      cases a
      rw [reps_bls b]
      rfl
end PD
set_option Elab.async false
set_option linter.all false
set_option autoImplicit false
set_option maxRecDepth 100000
set_option maxHeartbeats 4000000
namespace PD
open PySem PySem.Spec PyProof.Rows L2
/-! ### judgements over data -/
/-- an exception: its class and its fields -/
structure XD where
  C : Str
  fs : List (Str × D)
abbrev XE := XD → Env → Mu → Prop
abbrev QD := D → Mu → Prop
abbrev TDE := XE → Env → Mu → QD → Prop
abbrev TDT := XE → Env → Mu → (Bool → Mu → Prop) → Prop
abbrev TDA := XE → Env → Mu → (List D → Mu → Prop) → Prop
/-- an exception has come -/
def XRep (W : Wo) (hid : Hid) (H : Hp) (μ : Mu) (x : XD) (cls : Value) (dd : Option Addr) : Prop :=
  cls = .ref (W.cl x.C) ∧ ((x.fs = [] ∧ dd = none) ∨ ∃ a fs, dd = some a ∧ H a = some (.xd fs) ∧ Im μ a ∧ ¬ hid a ∧ RepF W hid H μ fs x.fs)
def PQ (W : Wo) (hid : Hid) (H : Hp) (μ : Mu) (Qd : QD) (Q : VK) : Prop := ∀ v d H' μ', St H μ H' μ' → SR W hid H' μ' → Rep W hid H' μ' v d → Qd d μ' → Q v H'
def PX (W : Wo) (hid : Hid) (H : Hp) (μ : Mu) (σ : L2.St) (ρ : Env) (Xd : XE) (Wk : WX) : Prop := ∀ x cls dd H' μ', St H μ H' μ' → SR W hid H' μ' → XRep W hid H' μ' x cls dd → Xd x ρ μ' → Wk cls dd σ H'
def PB (W : Wo) (hid : Hid) (H : Hp) (μ : Mu) (Qd : Bool → Mu → Prop) (Q : Bool → Hp → Prop) : Prop := ∀ b H' μ', St H μ H' μ' → SR W hid H' μ' → Qd b μ' → Q b H'
def PL (W : Wo) (hid : Hid) (H : Hp) (μ : Mu) (Qd : List D → Mu → Prop) (Q : List V → Hp → Prop) : Prop := ∀ vs ds H' μ', St H μ H' μ' → SR W hid H' μ' → Reps W hid H' μ' vs ds → Qd ds μ' → Q vs H'
def TD (W : Wo) (Wk : WX) (td : TDE) : TE := fun σ H Q => ∃ hid ρ μ Xd Qd, Rel W hid H μ σ ρ ∧ SR W hid H μ ∧ td Xd ρ μ Qd ∧ PQ W hid H μ Qd Q ∧ PX W hid H μ σ ρ Xd Wk
def TDt (W : Wo) (Wk : WX) (td : TDT) : TT := fun σ H Q => ∃ hid ρ μ Xd Qd, Rel W hid H μ σ ρ ∧ SR W hid H μ ∧ td Xd ρ μ Qd ∧ PB W hid H μ Qd Q ∧ PX W hid H μ σ ρ Xd Wk
def TDa (W : Wo) (Wk : WX) (td : TDA) : TA := fun σ H Q => ∃ hid ρ μ Xd Qd, Rel W hid H μ σ ρ ∧ SR W hid H μ ∧ td Xd ρ μ Qd ∧ PL W hid H μ Qd Q ∧ PX W hid H μ σ ρ Xd Wk
abbrev BE (X : Cx) (W : Wo) (Wk : WX) (e : Expr) (td : TDE) : Prop := PE X e (TD W Wk td)
abbrev BT (X : Cx) (W : Wo) (Wk : WX) (e : Expr) (td : TDT) : Prop := PT X e (TDt W Wk td)
abbrev BW (X : Cx) (W : Wo) (Wk : WX) (e : Expr) (td : TDT) : Prop := PW X e (TDt W Wk td)
abbrev BA (X : Cx) (W : Wo) (Wk : WX) (es : List Expr) (td : TDA) : Prop := PA X es (TDa W Wk td)
theorem PE.weak {X : Cx} {e : Expr} {t t' : TE} (h : PE X e t) (k : ∀ σ H Q, t' σ H Q → t σ H Q) : PE X e t' := ⟨fun pins s σ H Q I q => h.run pins s σ H Q I (k σ H Q q)⟩
theorem PT.weak {X : Cx} {e : Expr} {t t' : TT} (h : PT X e t) (k : ∀ σ H Q, t' σ H Q → t σ H Q) : PT X e t' := ⟨fun pins s σ H Q I q => h.run pins s σ H Q I (k σ H Q q)⟩
theorem PW.weak {X : Cx} {e : Expr} {t t' : TT} (h : PW X e t) (k : ∀ σ H Q, t' σ H Q → t σ H Q) : PW X e t' := ⟨fun w pins s σ H Q I q => h.run w pins s σ H Q I (k σ H Q q)⟩
theorem PA.weak {X : Cx} {e : List Expr} {t t' : TA} (h : PA X e t) (k : ∀ σ H Q, t' σ H Q → t σ H Q) : PA X e t' := ⟨fun p pins s σ H Q I q => h.run p pins s σ H Q I (k σ H Q q)⟩
section
variable {W : Wo} {hid : Hid} {H H1 : Hp} {μ μ1 : Mu}
theorem PQ.st {Qd : QD} {Q : VK} (p : PQ W hid H μ Qd Q) (s : St H μ H1 μ1) : PQ W hid H1 μ1 Qd Q := fun v d H' μ' s' => p v d H' μ' (s.trans s')
theorem PX.st {σ : L2.St} {ρ : Env} {Xd : XE} {Wk : WX} (p : PX W hid H μ σ ρ Xd Wk) (s : St H μ H1 μ1) : PX W hid H1 μ1 σ ρ Xd Wk := fun x c d H' μ' s' => p x c d H' μ' (s.trans s')
theorem PB.st {Qd : Bool → Mu → Prop} {Q : Bool → Hp → Prop} (p : PB W hid H μ Qd Q) (s : St H μ H1 μ1) : PB W hid H1 μ1 Qd Q := fun b H' μ' s' => p b H' μ' (s.trans s')
theorem PL.st {Qd : List D → Mu → Prop} {Q : List V → Hp → Prop} (p : PL W hid H μ Qd Q) (s : St H μ H1 μ1) : PL W hid H1 μ1 Qd Q := fun v d H' μ' s' => p v d H' μ' (s.trans s')
end
/-! ### names and constants -/
def eVar (i : Nat) : TDE := fun _ ρ μ Q => match ρ[i]? with | some (some d) => Q d μ | _ => False
def eC (d : D) : TDE := fun _ _ μ Q => Q d μ
section
variable {X : Cx} {W : Wo} {Wk : WX}
theorem be_of_var {e : Expr} {i : Nat} (h : PE X e (tVar i)) : BE X W Wk e (eVar i) := PE.weak h fun σ H Q ⟨hid, ρ, μ, Xd, Qd, rel, sr, q, pq, px⟩ => by
  unfold eVar at q
  split at q
  · rename_i d hd
    obtain ⟨v, hv, r⟩ := rel_get rel hd
    exact ⟨v, hv, pq v d H μ .refl sr r q⟩
  · exact q.elim
theorem be_of_c {e : Expr} {v : V} {d : D} (h : PE X e (tC v)) (r : ∀ hid H μ, Rep W hid H μ v d) : BE X W Wk e (eC d) := PE.weak h fun σ H Q ⟨hid, ρ, μ, Xd, Qd, rel, sr, q, pq, px⟩ => pq v d H μ .refl sr (r _ _ _) q
theorem bv (i : Nat) {x : Str} {pos : Pos} (hN : X.N[i]? = some x := by rfl) (hv : Vis X.env.scope x := by first | exact Or.inl rfl | exact Or.inr (Or.inl rfl) | exact Or.inr (Or.inr rfl)) (hd : (x == ("__debug__" : Str)) = false := by decide)
    (hcd : (x == ("__classdict__" : Str)) = false := by decide) : BE X W Wk (.Name x pos) (eVar i) := be_of_var (pe_var hN hv hd hcd)
theorem be_int {i j pos} : BE X W Wk (.Constant (.int i) j pos) (eC (.int i)) := be_of_c pe_int fun _ _ _ => .int i
theorem be_bl {b j pos} : BE X W Wk (.Constant (.bool b) j pos) (eC (.bl b)) := be_of_c pe_bl fun _ _ _ => .bl b
theorem be_non {j pos} : BE X W Wk (.Constant .none j pos) (eC .non) := be_of_c pe_non fun _ _ _ => .non
theorem be_str {x j pos} : BE X W Wk (.Constant (.str x) j pos) (eC (.str x)) := be_of_c pe_str fun _ _ _ => .str x
theorem be_gint {x : Str} {i : Int} {pos : Pos} (hg : Gl X x) (hm : ∃ t, X.mg x = some (.int i t)) (hdb : (x == ("__debug__" : Str)) = false := by decide) : BE X W Wk (.Name x pos) (eC (.int i)) := be_of_c (LB.pe_gint hg hm hdb) fun _ _ _ => .int i
/-- a written thing by its name: d its data -/
structure GTxt (W : Wo) (mg : Str → Option Value) (x : Str) (d : D) : Prop where
  ex : ∃ u v, mg x = some u ∧ RelV v u ∧ ∀ hid H μ, Rep W hid H μ v d
theorem be_glob {x : Str} {d : D} {pos : Pos} (hg : Gl X x) (hm : GTxt W X.mg x d) (hdb : (x == ("__debug__" : Str)) = false := by decide) : BE X W Wk (.Name x pos) (eC d) := by
  obtain ⟨u, v, h1, h2, h3⟩ := hm.ex
  exact be_of_c (pe_glob hg h1 h2 hdb) h3
/-! ### operators -/
abbrev OD := D → D → Mu → QD → Prop
def rD (W : Wo) (o : OD) : R2 := fun x y H Q => ∃ hid μ d e Qd, SR W hid H μ ∧ Rep W hid H μ x d ∧ Rep W hid H μ y e ∧ o d e μ Qd ∧ PQ W hid H μ Qd Q
def eBin (o : OD) (ta tb : TDE) : TDE := fun Xd ρ μ Q => ta Xd ρ μ fun d μ1 => tb Xd ρ μ1 fun e μ2 => o d e μ2 Q
theorem bin_td {o : OD} {ta tb : TDE} {σ : L2.St} {H : Hp} {Q : VK} (h : TD W Wk (eBin o ta tb) σ H Q) : tOp (rD W o) (TD W Wk ta) (TD W Wk tb) σ H Q := by
  obtain ⟨hid, ρ, μ, Xd, Qd, rel, sr, q, pq, px⟩ := h
  refine ⟨hid, ρ, μ, Xd, _, rel, sr, q, fun v d H1 μ1 s1 sr1 r1 q1 => ?_, px⟩
  refine ⟨hid, ρ, μ1, Xd, _, rel_mono s1.ok rel, sr1, q1, fun w e H2 μ2 s2 sr2 r2 q2 => ?_, px.st s1⟩
  exact ⟨hid, μ2, d, e, Qd, sr2, r1.mono s2.ok, r2, q2, pq.st (s1.trans s2)⟩
theorem be_op {op : Operator} {o : OD} {a b : Expr} {ta tb : TDE} {pos : Pos} (ho : OpR X (binaryOp op) (rD W o)) (ha : BE X W Wk a ta) (hb : BE X W Wk b tb) : BE X W Wk (.BinOp a op b pos) (eBin o ta tb) :=
  PE.weak (pe_op ho ha hb) fun _ _ _ h => bin_td h
theorem be_cmp {op : CmpOp} {o : OD} {a b : Expr} {ta tb : TDE} {pos : Pos} (ho : OpR X (compareOp op) (rD W o)) (ha : BE X W Wk a ta) (hb : BE X W Wk b tb) (hm : behindInMarks op b = false) : BE X W Wk (.Compare a [op] [b] pos) (eBin o ta tb) :=
  PE.weak (pe_cmpR ho ha hb hm) fun _ _ _ h => bin_td h
theorem be_ix {o : OD} {a b : Expr} {ta tb : TDE} {pos : Pos} (ho : IxR X (rD W o)) (ha : BE X W Wk a ta) (hb : BE X W Wk b tb) (hs : PlainIx b) : BE X W Wk (.Subscript a b pos) (eBin o ta tb) :=
  PE.weak (pe_ix ho ha hb hs) fun _ _ _ h => bin_td h
abbrev UD := D → Mu → QD → Prop
def rUD (W : Wo) (o : UD) : V → Hp → VK → Prop := fun x H Q => ∃ hid μ d Qd, SR W hid H μ ∧ Rep W hid H μ x d ∧ o d μ Qd ∧ PQ W hid H μ Qd Q
def eUn (o : UD) (ta : TDE) : TDE := fun Xd ρ μ Q => ta Xd ρ μ fun d μ1 => o d μ1 Q
theorem be_un {op : UnaryOp} {o : UD} {a : Expr} {ta : TDE} {pos : Pos} (ho : UnR X (unaryOp op) (rUD W o)) (ha : BE X W Wk a ta) : BE X W Wk (.UnaryOp op a pos) (eUn o ta) :=
  PE.weak (pe_un ho ha) fun σ H Q ⟨hid, ρ, μ, Xd, Qd, rel, sr, q, pq, px⟩ => ⟨hid, ρ, μ, Xd, _, rel, sr, q, fun v d H1 μ1 s1 sr1 r1 q1 => ⟨hid, μ1, d, Qd, sr1, r1, q1, pq.st s1⟩, px⟩
/-! ### arguments, tuples, lists -/
def aNil : TDA := fun _ _ μ Q => Q [] μ
def aCons (te : TDE) (tr : TDA) : TDA := fun Xd ρ μ Q => te Xd ρ μ fun d μ1 => tr Xd ρ μ1 fun ds μ2 => Q (d :: ds) μ2
theorem ba_nil : BA X W Wk [] aNil := PA.weak pa_nil fun σ H Q ⟨hid, ρ, μ, Xd, Qd, rel, sr, q, pq, px⟩ => pq [] [] H μ .refl sr .nil q
theorem ba_cons {e : Expr} {es : List Expr} {te : TDE} {tr : TDA} (ha : BE X W Wk e te) (hr : BA X W Wk es tr) (hs : starEach (e :: es) X.env = (false, eval e X.env) :: starEach es X.env := by rfl) : BA X W Wk (e :: es) (aCons te tr) :=
  PA.weak (pa_cons ha hr hs) fun σ H Q ⟨hid, ρ, μ, Xd, Qd, rel, sr, q, pq, px⟩ => by
    refine ⟨hid, ρ, μ, Xd, _, rel, sr, q, fun v d H1 μ1 s1 sr1 r1 q1 => ?_, px⟩
    refine ⟨hid, ρ, μ1, Xd, _, rel_mono s1.ok rel, sr1, q1, fun vs ds H2 μ2 s2 sr2 r2 q2 => ?_, px.st s1⟩
    exact pq _ _ H2 μ2 (s1.trans s2) sr2 (.cons (r1.mono s2.ok) r2) q2
def eTup (ta : TDA) : TDE := fun Xd ρ μ Q => ta Xd ρ μ fun ds μ1 => ds.length ≤ sizeLine ∧ Q (.tup ds) μ1
/-- a new list: a tree, or a thing of the store -/
def newL (m : Bool) (ds : List D) (μ : Mu) (Q : QD) : Prop := match m with
  | false => Q (.lst ds) μ
  | true => ∀ p, μ p = none → Q (.ptr p) (μ.set p (.lst ds))
def eLst (m : Bool) (ta : TDA) : TDE := fun Xd ρ μ Q => ta Xd ρ μ fun ds μ1 => ds.length ≤ sizeLine ∧ newL m ds μ1 Q
/-- hidden things are known -/
theorem newL_ok {m : Bool} {hid : Hid} {H : Hp} {μ : Mu} {ds : List D} {vs : List V} {Qd : QD} {Q : VK} {p : Addr} (sr : SR W hid H μ) (r : Reps W hid H μ vs ds) (hp : H p = none) (q : newL m ds μ Qd) (pq : PQ W hid H μ Qd Q) : Q (.ref p) (upd H p (.lst vs)) := by
  cases m with
  | false => exact pq _ _ _ μ (St.new hp) (sr.new hp) (.lst upd_same (sr.fresh hp) (sr.nhid hp) (r.mono (St.new hp).ok)) q
  | true =>
    have hn : ∀ l, MO.lst ds ≠ .deal l := fun l e => by cases e
    exact pq _ _ _ _ (St.add hp hn) (sr.add hp hn ⟨vs, upd_same, r.mono (St.add hp hn).ok⟩) (.ptr p) (q p (sr.fresh hp).1)
end
end PD
set_option Elab.async false
set_option linter.all false
set_option autoImplicit false
set_option maxRecDepth 100000
set_option maxHeartbeats 4000000
namespace PD
open PySem PySem.Spec PyProof.Rows L2
/-! ### what a datum is as a list -/
def lstOf (d : D) (μ : Mu) : Option (List D) := match d with
  | .lst ds => some ds
  | .scr ns => some (ns.map D.int)
  | .ptr a => match μ a with
    | some (.lst ds) => some ds
    | _ => none
  | _ => none
def lstW (d : D) (μ : Mu) : Option (List D) := match d with
  | .lst ds => some ds
  | .ptr a => match μ a with
    | some (.lst ds) => some ds
    | _ => none
  | _ => none
def seqOf (d : D) (μ : Mu) : Option (List D) := match d with
  | .tup ds => some ds
  | d => lstOf d μ
section
variable {W : Wo} {hid : Hid} {H : Hp} {μ : Mu}
theorem lstOf_ok {v : V} {d : D} {ds : List D} (e : lstOf d μ = some ds) (sr : SR W hid H μ) (r : Rep W hid H μ v d) : ∃ a vs, v = .ref a ∧ SqL W.K H a vs ∧ Reps W hid H μ vs ds := by
  cases r with
  | lst h _ _ q =>
    cases e
    exact ⟨_, _, rfl, SqL.of h, q⟩
  | ptr a =>
    unfold lstOf at e
    dsimp only at e
    cases hm : μ a with
    | none => rw [hm] at e; cases e
    | some m =>
      rw [hm] at e
      cases m with
      | lst zs =>
        cases e
        obtain ⟨vs, h, q⟩ := (sr.at_ a _ hm).2
        exact ⟨a, vs, rfl, SqL.of h, q⟩
      | dic _ => cases e
      | ins _ _ => cases e
      | deal _ => cases e
  | scr h _ _ =>
    cases e
    exact ⟨_, _, rfl, .inl h, ints_reps⟩
  | scrK h =>
    cases e
    exact ⟨_, _, rfl, h _, ints_reps⟩
  | _ => cases e
theorem lstW_ok {v : V} {d : D} {ds : List D} (e : lstW d μ = some ds) (sr : SR W hid H μ) (r : Rep W hid H μ v d) : ∃ a vs, v = .ref a ∧ H a = some (.lst vs) ∧ Reps W hid H μ vs ds := by
  cases r with
  | lst h _ _ q =>
    cases e
    exact ⟨_, _, rfl, h, q⟩
  | ptr a =>
    unfold lstW at e
    dsimp only at e
    cases hm : μ a with
    | none => rw [hm] at e; cases e
    | some m =>
      rw [hm] at e
      cases m with
      | lst zs =>
        cases e
        obtain ⟨vs, h, q⟩ := (sr.at_ a _ hm).2
        exact ⟨a, vs, rfl, h, q⟩
      | _ => cases e
  | _ => cases e
theorem tup_ok {v : V} {ds : List D} (r : Rep W hid H μ v (.tup ds)) : ∃ a vs, v = .ref a ∧ SqT W.K H a vs ∧ Reps W hid H μ vs ds := by
  cases r with
  | tup h _ _ q => exact ⟨_, _, rfl, .inl h, q⟩
  | tupK h q => exact ⟨_, _, rfl, .inr h, q⟩
theorem seqOf_ok {v : V} {d : D} {ds : List D} (e : seqOf d μ = some ds) (sr : SR W hid H μ) (r : Rep W hid H μ v d) : ∃ a vs, v = .ref a ∧ (SqL W.K H a vs ∨ SqT W.K H a vs) ∧ Reps W hid H μ vs ds := by
  cases d with
  | tup xs =>
    cases e
    obtain ⟨a, vs, e1, h, q⟩ := tup_ok r
    exact ⟨a, vs, e1, .inr h, q⟩
  | _ =>
    have k := fun e' => lstOf_ok (ds := ds) e' sr r
    obtain ⟨a, vs, e1, h, q⟩ := k e
    exact ⟨a, vs, e1, .inl h, q⟩
end
/-! ### operators over data -/
def oAdd (m : Bool) : OD := fun d e μ Q => match d, e with
  | .int i, .int j => Q (.int (i + j)) μ
  | .str a, .str b => a.length + b.length ≤ sizeLine ∧ Q (.str (a ++ b)) μ
  | .tup a, .tup b => a.length + b.length ≤ sizeLine ∧ Q (.tup (a ++ b)) μ
  | d, e => match lstW d μ, lstW e μ with
    | some a, some b => a.length + b.length ≤ sizeLine ∧ newL m (a ++ b) μ Q
    | _, _ => False
theorem OpR.or {X : Cx} {f : Value → Value → Sem Value} {r q : R2} (h : OpR X f r) (k : OpR X f q) : OpR X f (fun x y H Q => r x y H Q ∨ q x y H Q) := fun pins s σ H x y v u Q I rx ry z => z.elim (h pins s σ H x y v u Q I rx ry) (k pins s σ H x y v u Q I rx ry)
theorem OpR.weak {X : Cx} {f : Value → Value → Sem Value} {r q : R2} (h : OpR X f r) (k : ∀ x y H Q, q x y H Q → r x y H Q) : OpR X f q := fun pins s σ H x y v u Q I rx ry z => h pins s σ H x y v u Q I rx ry (k x y H Q z)
section
variable {X : Cx} {W : Wo} {Wk : WX}
/-- a new tuple -/
theorem newT_ok {hid : Hid} {H : Hp} {μ : Mu} {ds : List D} {vs : List V} {Qd : QD} {Q : VK} {p : Addr} (sr : SR W hid H μ) (r : Reps W hid H μ vs ds) (hp : H p = none) (q : Qd (.tup ds) μ) (pq : PQ W hid H μ Qd Q) : Q (.ref p) (upd H p (.tup vs)) :=
  pq _ _ _ μ (St.new hp) (sr.new hp) (.tup (.inl upd_same) (sr.fresh hp) (sr.nhid hp) (r.mono (St.new hp).ok)) q
theorem od_add {m : Bool} (hK : X.K = W.K) : OpR X (binaryOp .Add) (rD W (oAdd m)) := by
  refine OpR.weak (OpR.or op_add (OpR.or op_add_str (OpR.or op_catA op_cat))) fun x y H Q ⟨hid, μ, d, e, Qd, sr, rx, ry, h, pq⟩ => ?_
  have lists : ∀ a b, lstW d μ = some a → lstW e μ = some b → a.length + b.length ≤ sizeLine → newL m (a ++ b) μ Qd → rCat x y H Q := fun a b ea eb hl hn => by
    obtain ⟨pa, va, rfl, ha, qa⟩ := lstW_ok ea sr rx
    obtain ⟨pb, vb, rfl, hb, qb⟩ := lstW_ok eb sr ry
    exact ⟨pa, pb, va, vb, rfl, rfl, ha, hb, by rw [qa.length, qb.length]; exact hl, fun p hp => newL_ok sr (qa.append qb) hp hn pq⟩
  unfold oAdd at h
  split at h
  · cases rx
    cases ry
    exact .inl ⟨_, _, rfl, rfl, pq _ _ H μ .refl sr (.int _) h⟩
  · cases rx
    cases ry
    exact .inr (.inl ⟨_, _, rfl, rfl, h.1, pq _ _ H μ .refl sr (.str _) h.2⟩)
  · rename_i a b
    obtain ⟨pa, va, rfl, ha, qa⟩ := tup_ok rx
    obtain ⟨pb, vb, rfl, hb, qb⟩ := tup_ok ry
    rw [← hK] at ha hb
    refine .inr (.inr (.inl ⟨pa, pb, va, vb, rfl, rfl, ha, hb, by rw [qa.length, qb.length]; exact h.1, fun e1 => ?_, fun _ e1 => ?_, fun _ _ p hp => newT_ok sr (qa.append qb) hp h.2 pq⟩))
    · subst e1
      cases qa
      exact pq _ _ H μ .refl sr ry h.2
    · subst e1
      cases qb
      have h2 := h.2
      rw [List.append_nil] at h2
      exact pq _ _ H μ .refl sr rx h2
  · split at h
    · rename_i a b ea eb
      exact .inr (.inr (.inr (lists a b ea eb h.1 h.2)))
    · exact h.elim
/-- two ints -/
def oI (C : Int → Int → Prop) (g : Int → Int → D) : OD := fun d e μ Q => match d, e with
  | .int i, .int j => C i j ∧ Q (g i j) μ
  | _, _ => False
theorem od_I {f : Value → Value → Sem Value} {C : Int → Int → Prop} {g : Int → Int → V} {gd : Int → Int → D} (h : OpR X f (rI C g)) (hg : ∀ i j hid H μ, Rep W hid H μ (g i j) (gd i j)) : OpR X f (rD W (oI C gd)) :=
  OpR.weak h fun x y H Q ⟨hid, μ, d, e, Qd, sr, rx, ry, h, pq⟩ => by
    unfold oI at h
    split at h
    · cases rx
      cases ry
      exact ⟨_, _, rfl, rfl, h.1, pq _ _ H μ .refl sr (hg _ _ _ _ _) h.2⟩
    · exact h.elim
def oI0 (g : Int → Int → D) : OD := fun d e μ Q => match d, e with
  | .int i, .int j => Q (g i j) μ
  | _, _ => False
theorem od_I0 {f : Value → Value → Sem Value} {g : Int → Int → V} {gd : Int → Int → D} (h : OpR X f (rI0 g)) (hg : ∀ i j hid H μ, Rep W hid H μ (g i j) (gd i j)) : OpR X f (rD W (oI0 gd)) :=
  OpR.weak h fun x y H Q ⟨hid, μ, d, e, Qd, sr, rx, ry, h, pq⟩ => by
    unfold oI0 at h
    split at h
    · cases rx
      cases ry
      exact ⟨_, _, rfl, rfl, pq _ _ H μ .refl sr (hg _ _ _ _ _) h⟩
    · exact h.elim
abbrev oSub : OD := oI0 fun i j => .int (i - j)
theorem od_sub : OpR X (binaryOp .Sub) (rD W oSub) := od_I0 op_sub fun _ _ _ _ _ => .int _
abbrev oDiv : OD := oI CDivW fun i j => .int (i / j)
theorem od_div : OpR X (binaryOp .FloorDiv) (rD W oDiv) := od_I op_fdivW fun _ _ _ _ _ => .int _
abbrev oMod : OD := oI (fun _ j => 0 < j) fun i j => .int (i % j)
theorem od_mod : OpR X (binaryOp .Mod) (rD W oMod) := od_I op_mod fun _ _ _ _ _ => .int _
abbrev oPow : OD := oI CPow fun i j => .int (i ^ j.toNat)
theorem od_pow : OpR X (binaryOp .Pow) (rD W oPow) := od_I op_pow fun _ _ _ _ _ => .int _
abbrev oShl : OD := oI CShl fun i j => .int (i * 2 ^ j.toNat)
theorem od_shl : OpR X (binaryOp .LShift) (rD W oShl) := od_I op_shlW fun _ _ _ _ _ => .int _
abbrev oShr : OD := oI (fun _ j => 0 ≤ j) fun i j => .int (i / 2 ^ j.toNat)
theorem od_shr : OpR X (binaryOp .RShift) (rD W oShr) := od_I op_shr fun _ _ _ _ _ => .int _
abbrev oAnd : OD := oI0 fun i j => .int (Builtin.bitAnd i j)
theorem od_and : OpR X (binaryOp .BitAnd) (rD W oAnd) := od_I0 op_and fun _ _ _ _ _ => .int _
abbrev oOr : OD := oI0 fun i j => .int (Builtin.bitOr i j)
theorem od_or : OpR X (binaryOp .BitOr) (rD W oOr) := od_I0 op_or fun _ _ _ _ _ => .int _
abbrev oXor : OD := oI0 fun i j => .int (Builtin.bitXor i j)
theorem od_xor : OpR X (binaryOp .BitXor) (rD W oXor) := od_I0 op_xor fun _ _ _ _ _ => .int _
abbrev oLt : OD := oI0 fun i j => .bl (decide (i < j))
theorem od_lt : OpR X (compareOp .Lt) (rD W oLt) := od_I0 op_lt fun _ _ _ _ _ => .bl _
abbrev oLe : OD := oI0 fun i j => .bl (decide (i ≤ j))
theorem od_le : OpR X (compareOp .LtE) (rD W oLe) := od_I0 op_le fun _ _ _ _ _ => .bl _
abbrev oGt : OD := oI0 fun i j => .bl (decide (i > j))
theorem od_gt : OpR X (compareOp .Gt) (rD W oGt) := od_I0 op_gt fun _ _ _ _ _ => .bl _
abbrev oGe : OD := oI0 fun i j => .bl (decide (i ≥ j))
theorem od_ge : OpR X (compareOp .GtE) (rD W oGe) := od_I0 op_ge fun _ _ _ _ _ => .bl _
theorem op_mulG : OpR X (binaryOp .Mult) (rI IntMulOk fun i j => .int (i * j)) := opI fun _ _ _ _ _ _ _ hc q => mul_int q hc
def oMul (m : Bool) : OD := fun d e μ Q => match d, e with
  | .int i, .int j => IntMulOk i j ∧ Q (.int (i * j)) μ
  | d, .int k => match lstW d μ with
    | some a => -(2 ^ 63) ≤ k ∧ k < 2 ^ 63 ∧ a.length * k.toNat ≤ sizeLine ∧ newL m (List.replicate k.toNat a).flatten μ Q
    | _ => False
  | _, _ => False
theorem Reps.rep {W : Wo} {hid : Hid} {H : Hp} {μ : Mu} {vs : List V} {ds : List D} (r : Reps W hid H μ vs ds) : ∀ (n : Nat), Reps W hid H μ (List.replicate n vs).flatten (List.replicate n ds).flatten
  | 0 => .nil
  | n + 1 => r.append (Reps.rep r n)
theorem od_mul {m : Bool} : OpR X (binaryOp .Mult) (rD W (oMul m)) := by
  refine OpR.weak (OpR.or op_mulG op_rep) fun x y H Q ⟨hid, μ, d, e, Qd, sr, rx, ry, h, pq⟩ => ?_
  unfold oMul at h
  split at h
  · cases rx
    cases ry
    exact .inl ⟨_, _, rfl, rfl, h.1, pq _ _ H μ .refl sr (.int _) h.2⟩
  · split at h
    · rename_i a ea
      obtain ⟨pa, va, rfl, ha, qa⟩ := lstW_ok ea sr rx
      cases ry
      exact .inr ⟨pa, _, va, rfl, rfl, ha, h.1, h.2.1, by rw [qa.length]; exact h.2.2.1, fun p hp => newL_ok sr (qa.rep _) hp h.2.2.2 pq⟩
    · exact h.elim
  · exact h.elim
def uNeg : UD := fun d μ Q => match d with
  | .int i => Q (.int (-i)) μ
  | _ => False
theorem ud_neg : UnR X (unaryOp .USub) (rUD W uNeg) := fun pins s σ H x v Q I rx ⟨hid, μ, d, Qd, sr, r, h, pq⟩ => un_neg pins s σ H x v Q I rx (by
  unfold uNeg at h
  split at h
  · cases r
    exact ⟨_, rfl, pq _ _ H μ .refl sr (.int _) h⟩
  · exact h.elim)
/-! ### is None -/
def isN : D → Bool
  | .non => true
  | _ => false
theorem isN_ok {hid : Hid} {H : Hp} {μ : Mu} {v : V} {d : D} (r : Rep W hid H μ v d) : decide (v = .non) = isN d := by
  cases r <;> simp [isN]
def oIs : OD := fun d e μ Q => match e with
  | .non => Q (.bl (isN d)) μ
  | _ => False
def oIsNot : OD := fun d e μ Q => match e with
  | .non => Q (.bl (!isN d)) μ
  | _ => False
theorem od_is : OpR X (compareOp .Is) (rD W oIs) := OpR.weak op_isN fun x y H Q ⟨hid, μ, d, e, Qd, sr, rx, ry, h, pq⟩ => by
  unfold oIs at h
  split at h
  · cases ry
    exact ⟨rfl, by rw [isN_ok rx]; exact pq _ _ H μ .refl sr (.bl _) h⟩
  · exact h.elim
theorem od_isNot : OpR X (compareOp .IsNot) (rD W oIsNot) := OpR.weak op_notN fun x y H Q ⟨hid, μ, d, e, Qd, sr, rx, ry, h, pq⟩ => by
  unfold oIsNot at h
  split at h
  · cases ry
    exact ⟨rfl, by rw [isN_ok rx]; exact pq _ _ H μ .refl sr (.bl _) h⟩
  · exact h.elim
/-! ### == of plain data -/
mutual
/-- a datum as plain data -/
def pyD (μ : Mu) : D → Option PyData
  | .non => some .none
  | .bl b => some (.bool b)
  | .int i => some (.int i)
  | .str s => some (.str s)
  | .tup xs => (pyDs μ xs).map .tuple
  | .lst xs => (pyDs μ xs).map .list
  | .ptr a => match μ a with
    | some (.lst ds) => (flatDs ds).map .list
    | _ => none
  | .ty _ => none
  | .obj _ _ => none
  | .dct _ => none
  | .scr _ => none
  | .cls _ => none
  | .exc _ _ _ _ => none
  | .xob _ _ => none
def pyDs (μ : Mu) : List D → Option (List PyData)
  | [] => some []
  | d :: ds => match pyD μ d, pyDs μ ds with
    | some x, some xs => some (x :: xs)
    | _, _ => none
/-- without things of the store -/
def flatD : D → Option PyData
  | .non => some .none
  | .bl b => some (.bool b)
  | .int i => some (.int i)
  | .str s => some (.str s)
  | .tup xs => (flatDs xs).map .tuple
  | .lst xs => (flatDs xs).map .list
  | .ptr _ => none
  | .ty _ => none
  | .obj _ _ => none
  | .dct _ => none
  | .scr _ => none
  | .cls _ => none
  | .exc _ _ _ _ => none
  | .xob _ _ => none
def flatDs : List D → Option (List PyData)
  | [] => some []
  | d :: ds => match flatD d, flatDs ds with
    | some x, some xs => some (x :: xs)
    | _, _ => none
end
end
end PD
set_option Elab.async false
set_option linter.all false
set_option autoImplicit false
set_option maxRecDepth 100000
set_option maxHeartbeats 4000000
namespace PD
open PySem PySem.Spec PyProof.Rows L2
section
variable {W : Wo} {hid : Hid} {H : Hp} {μ : Mu}
mutual
theorem dp_flat : ∀ {d : D} {x : PyData} {v : V}, flatD d = some x → Rep W hid H μ v d → Dp W.K H v x
  | .non, x, v, e, r => by
    cases r
    cases (Option.some.inj (show some PyData.none = some x from e))
    exact .non
  | .bl b, x, v, e, r => by
    cases r
    cases (Option.some.inj (show some (PyData.bool b) = some x from e))
    exact .bl b
  | .int b, x, v, e, r => by
    cases r
    cases (Option.some.inj (show some (PyData.int b) = some x from e))
    exact .int b
  | .str b, x, v, e, r => by
    cases r
    cases (Option.some.inj (show some (PyData.str b) = some x from e))
    exact .str b
  | .tup xs, x, v, e, r => by
    have e' : (flatDs xs).map PyData.tuple = some x := by simpa only [flatD] using e
    cases h : flatDs xs with
    | none => rw [h] at e'; cases e'
    | some ys =>
      rw [h] at e'
      cases e'
      obtain ⟨a, vs, rfl, ha, q⟩ := tup_ok r
      exact .tup ha (dps_flat h q)
  | .lst xs, x, v, e, r => by
    have e' : (flatDs xs).map PyData.list = some x := by simpa only [flatD] using e
    cases h : flatDs xs with
    | none => rw [h] at e'; cases e'
    | some ys =>
      rw [h] at e'
      cases e'
      cases r with
      | lst ha _ _ q => exact .lst (SqL.of ha) (dps_flat h q)
  | .ptr _, x, v, e, r => by simp only [flatD] at e; cases e
  | .ty _, x, v, e, r => by simp only [flatD] at e; cases e
  | .obj _ _, x, v, e, r => by simp only [flatD] at e; cases e
  | .dct _, x, v, e, r => by simp only [flatD] at e; cases e
  | .scr _, x, v, e, r => by simp only [flatD] at e; cases e
  | .cls _, x, v, e, r => by simp only [flatD] at e; cases e
  | .exc _ _ _ _, x, v, e, r => by simp only [flatD] at e; cases e
  | .xob _ _, x, v, e, r => by simp only [flatD] at e; cases e
theorem dps_flat : ∀ {ds : List D} {xs : List PyData} {vs : List V}, flatDs ds = some xs → Reps W hid H μ vs ds → DpAll W.K H vs xs
  | [], xs, vs, e, r => by
    cases r
    cases (Option.some.inj (show some [] = some xs from by simpa only [flatDs] using e))
    exact .nil
  | d :: ds, xs, vs, e, r => by
    cases r with
    | cons h q =>
      simp only [flatDs] at e
      split at e
      · rename_i x ys e1 e2
        cases e
        exact .cons (dp_flat e1 h) (dps_flat e2 q)
      · cases e
end
mutual
theorem dp_of (sr : SR W hid H μ) : ∀ {d : D} {x : PyData} {v : V}, pyD μ d = some x → Rep W hid H μ v d → Dp W.K H v x
  | .non, x, v, e, r => by
    cases r
    cases (Option.some.inj (show some PyData.none = some x from by simpa only [pyD] using e))
    exact .non
  | .bl b, x, v, e, r => by
    cases r
    cases (Option.some.inj (show some (PyData.bool b) = some x from by simpa only [pyD] using e))
    exact .bl b
  | .int b, x, v, e, r => by
    cases r
    cases (Option.some.inj (show some (PyData.int b) = some x from by simpa only [pyD] using e))
    exact .int b
  | .str b, x, v, e, r => by
    cases r
    cases (Option.some.inj (show some (PyData.str b) = some x from by simpa only [pyD] using e))
    exact .str b
  | .tup xs, x, v, e, r => by
    have e' : (pyDs μ xs).map PyData.tuple = some x := by simpa only [pyD] using e
    cases h : pyDs μ xs with
    | none => rw [h] at e'; cases e'
    | some ys =>
      rw [h] at e'
      cases e'
      obtain ⟨a, vs, rfl, ha, q⟩ := tup_ok r
      exact .tup ha (dps_of sr h q)
  | .lst xs, x, v, e, r => by
    have e' : (pyDs μ xs).map PyData.list = some x := by simpa only [pyD] using e
    cases h : pyDs μ xs with
    | none => rw [h] at e'; cases e'
    | some ys =>
      rw [h] at e'
      cases e'
      cases r with
      | lst ha _ _ q => exact .lst (SqL.of ha) (dps_of sr h q)
  | .ptr a, x, v, e, r => by
    cases r
    simp only [pyD] at e
    split at e
    · rename_i ds hm
      cases h : flatDs ds with
      | none => rw [h] at e; cases e
      | some ys =>
        rw [h] at e
        cases e
        obtain ⟨vs, ha, q⟩ := (sr.at_ a _ hm).2
        exact .lst (SqL.of ha) (dps_flat h q)
    · cases e
  | .ty _, x, v, e, r => by simp only [pyD] at e; cases e
  | .obj _ _, x, v, e, r => by simp only [pyD] at e; cases e
  | .dct _, x, v, e, r => by simp only [pyD] at e; cases e
  | .scr _, x, v, e, r => by simp only [pyD] at e; cases e
  | .cls _, x, v, e, r => by simp only [pyD] at e; cases e
  | .exc _ _ _ _, x, v, e, r => by simp only [pyD] at e; cases e
  | .xob _ _, x, v, e, r => by simp only [pyD] at e; cases e
theorem dps_of (sr : SR W hid H μ) : ∀ {ds : List D} {xs : List PyData} {vs : List V}, pyDs μ ds = some xs → Reps W hid H μ vs ds → DpAll W.K H vs xs
  | [], xs, vs, e, r => by
    cases r
    cases (Option.some.inj (show some [] = some xs from by simpa only [pyDs] using e))
    exact .nil
  | d :: ds, xs, vs, e, r => by
    cases r with
    | cons h q =>
      simp only [pyDs] at e
      split at e
      · rename_i x ys e1 e2
        cases e
        exact .cons (dp_of sr e1 h) (dps_of sr e2 q)
      · cases e
end
end
/-- == and != : plain scalars at once, nested data by shape -/
def oEqG (g : Bool → Bool) : OD := fun d e μ Q => match d, e with
  | .int i, .int j => Q (.bl (g (decide (i = j)))) μ
  | .str i, .str j => Q (.bl (g (decide (i = j)))) μ
  | .bl i, .bl j => Q (.bl (g (decide (i = j)))) μ
  | .non, .non => Q (.bl (g true)) μ
  | d, e => match pyD μ d, pyD μ e with
    | some x, some y => SeqAt.shaped x = true ∧ SeqAt.shaped y = true ∧ Q (.bl (g (PyData.eqv x y))) μ
    | _, _ => False
abbrev oEq : OD := oEqG id
abbrev oNe : OD := oEqG not
section
variable {X : Cx} {W : Wo} {Wk : WX}
theorem dec_v {α : Type} [DecidableEq α] {f : α → V} (hf : ∀ a b, f a = f b → a = b) (a b : α) : decide (f a = f b) = decide (a = b) := decide_eq_decide.mpr ⟨hf a b, fun e => by rw [e]⟩
theorem od_eq (hK : X.K = W.K) (hu : X.A.units + 64 < cLine) : OpR X (compareOp .Eq) (rD W oEq) := OpR.weak (OpR.or op_eq (op_eqD hu)) fun x y H Q ⟨hid, μ, d, e, Qd, sr, rx, ry, h, pq⟩ => by
  unfold oEq oEqG at h
  split at h
  · cases rx; cases ry
    exact .inl ⟨rfl, by rw [dec_v (fun _ _ => V.int.inj)]; exact pq _ _ H μ .refl sr (.bl _) h⟩
  · cases rx; cases ry
    exact .inl ⟨rfl, by rw [dec_v (fun _ _ => V.str.inj)]; exact pq _ _ H μ .refl sr (.bl _) h⟩
  · cases rx; cases ry
    exact .inl ⟨rfl, by rw [dec_v (fun _ _ => V.bl.inj)]; exact pq _ _ H μ .refl sr (.bl _) h⟩
  · cases rx; cases ry
    exact .inl ⟨rfl, pq _ _ H μ .refl sr (.bl _) h⟩
  · split at h
    · rename_i a b ea eb
      exact .inr ⟨a, b, by rw [hK]; exact dp_of sr ea rx, by rw [hK]; exact dp_of sr eb ry, h.1, h.2.1, pq _ _ H μ .refl sr (.bl _) h.2.2⟩
    · exact h.elim
theorem od_ne (hK : X.K = W.K) (hu : X.A.units + 64 < cLine) : OpR X (compareOp .NotEq) (rD W oNe) := OpR.weak (OpR.or op_ne (op_neD hu)) fun x y H Q ⟨hid, μ, d, e, Qd, sr, rx, ry, h, pq⟩ => by
  unfold oNe oEqG at h
  split at h
  · cases rx; cases ry
    exact .inl ⟨rfl, by rw [dec_v (fun _ _ => V.int.inj)]; exact pq _ _ H μ .refl sr (.bl _) h⟩
  · cases rx; cases ry
    exact .inl ⟨rfl, by rw [dec_v (fun _ _ => V.str.inj)]; exact pq _ _ H μ .refl sr (.bl _) h⟩
  · cases rx; cases ry
    exact .inl ⟨rfl, by rw [dec_v (fun _ _ => V.bl.inj)]; exact pq _ _ H μ .refl sr (.bl _) h⟩
  · cases rx; cases ry
    exact .inl ⟨rfl, pq _ _ H μ .refl sr (.bl _) h⟩
  · split at h
    · rename_i a b ea eb
      exact .inr ⟨a, b, by rw [hK]; exact dp_of sr ea rx, by rw [hK]; exact dp_of sr eb ry, h.1, h.2.1, pq _ _ H μ .refl sr (.bl _) h.2.2⟩
    · exact h.elim
/-! ### x in xs -/
def flD : D → Bool
  | .non => true
  | .bl _ => true
  | .int _ => true
  | .str _ => true
  | _ => false
def eqS : D → D → Bool
  | .non, .non => true
  | .bl a, .bl b => a == b
  | .int a, .int b => a == b
  | .str a, .str b => a == b
  | .bl a, .int b => b2i a == b
  | .int a, .bl b => a == b2i b
  | _, _ => false
def inD (x : D) (xs : List D) : Bool := xs.any fun y => eqS y x
def inStr (c s : Str) : Bool := !(Builtin.Str.occurrences s c 0 s.length 1).isEmpty
def keyOf : D → Option Key
  | .int i => some (.inl i)
  | .str s => some (.inr s)
  | _ => none
def valD (kvs : List (Key × D)) (k : Key) : Option D := (kvs.find? fun kv => decide (kv.1 = k)).map (·.2)
def putD (kvs : List (Key × D)) (k : Key) (v : D) : List (Key × D) := if (kvs.any fun kv => decide (kv.1 = k)) = true then kvs.map fun kv => if kv.1 = k then (kv.1, v) else kv else kvs ++ [(k, v)]
def dicOf (d : D) (μ : Mu) : Option (List (Key × D)) := match d with
  | .ptr a => match μ a with
    | some (.dic kvs) => some kvs
    | _ => none
  | _ => none
def oIn (g : Bool → Bool) : OD := fun d e μ Q => match d, e with
  | .str c, .str s => Q (.bl (g (inStr c s))) μ
  | .str k, .dct kvs => Q (.bl (g ((kvs.lookup k).isSome))) μ
  | d, e => match dicOf e μ with
    | some kvs => (match keyOf d with | some k => Q (.bl (g (valD kvs k).isSome)) μ | none => False)
    | none => match seqOf e μ with
      | some xs => flD d = true ∧ xs.all flD = true ∧ Q (.bl (g (inD d xs))) μ
      | none => False
end
end PD
set_option Elab.async false
set_option linter.all false
set_option maxRecDepth 100000
set_option maxHeartbeats 4000000
namespace LB
open PySem PySem.Spec PyProof.Rows L2
def spLaw (K : PySem.W.Frag) : Sp := fun vs H Q _ => ∃ (a : Addr) (ns : List Int), vs = [.ref a] ∧ SqL K H a (ns.map V.int) ∧ ns.length ≤ 63 ∧ ∀ H', Q (.bl true) H'
/-- the law's own def at the top -/
structure LawFn (K : PySem.W.Frag) (mg : Str → Option Value) (fa : Addr) (st : Stmt) : Prop where
  ex : ∃ (fd : FuncData), Fun K "law" "law" st fa fd ∧ ∀ (s : Shared) (v : Value), BindsTo s fd ⟨[v], []⟩ [("_law_script", v)]
theorem lawFn_mk {K : PySem.W.Frag} {mg : Str → Option Value} {h : Heap} {st : Stmt} {f fa : Addr} {oc : Value} {od an : Option Addr} {osl : Array (Option Value)} {kV doc pm cdv ct : Value} (X : K.In h) (G : h.Ns mainGlobals mg) (hfa : mg "law" = some (.ref fa))
    (hb : ∀ (kV doc pm : Value) (an : Option Addr) (cdv ct : Value) (v : Value), bindArgs (PySem.W.fnOf "law" "law" (defArgs st) (defBody st) (defScope st) .none kV doc pm an cdv ct) ⟨[v], []⟩ = pure [(("_law_script" : Str), v)])
    (a : PySem.W.nsIn K mainGlobals "law" = some (some (.ref f))) (l : K.lookup f = some ⟨oc, od, .func (PySem.W.fnOf "law" "law" (defArgs st) (defBody st) (defScope st) .none kV doc pm an cdv ct), osl⟩)
    (c : PySem.W.codeIn K cdv "law" = true) (k : PySem.W.keepIn K (.ref f) = true) : LawFn K mg fa st := by
  have e := hfa.symm.trans (PySem.W.mg_of X G a)
  cases e
  exact ⟨_, fun_mk (st := st) l c k, fun s v => .of_eq (hb _ _ _ _ _ _ v)⟩
theorem LawFn.ok {P : Program} {w : World} {K : PySem.W.Frag} {mg : Str → Option Value} {fa : Addr} {st : Stmt} {N : List Str} {k : Nat} (F : LawFn K mg fa st) (S : FnScope N ["_law_script"] (defScope st))
    (hbody : ∀ (base : Heap), K.In base → base.Ns mainGlobals mg → ∀ (cdv : Value) (A : Around) (outer : List Env) (s : Shared) (H : Hp) (vs : List V) (Q : VK) (E : XK), Room k (A.deeper (envOfC "law" (defScope st) s.heap.objs.size fa cdv)) → spLaw K vs H Q E →
      ∃ t, PSs (cxOf CX0 P w K mg base N "law" (defScope st) fa cdv A outer s H E).nox (defBody st) t ∧ t { nx := fun _ H' => Q .non H', rt := Q } (start N vs) H) :
    ∃ fd : FuncData, (∀ (s : Shared) (u : Value), BindsTo s fd ⟨[u], []⟩ [("_law_script", u)]) ∧ ∀ base : Heap, K.In base → base.Ns mainGlobals mg → FnOk P w K mg base CX0 (k + 1) fa fd ["_law_script"] (spLaw K) := by
  obtain ⟨fd, F, hb⟩ := F.ex
  refine ⟨fd, hb, fun base h1 h2 => F.ok S (fun vs H Q E h => ?_) (hbody base h1 h2)⟩
  obtain ⟨a, ns, rfl, _⟩ := h
  rfl
theorem walk {l : PySem.W.OpenLaw} {q : Program} {loose : List Str} {XP : (Str → Option Value) → Heap → Prop} {YP : World → Heap → Prop} {d : DefRec} {K : Params → PySem.W.Frag} {k : Nat} (hr : Room k callerA) (hn : l.most = some 63) (hdf : d.params.defaults = [])
    (hY : ∀ (w : World) (h : Heap), YP w h → (K w.params).In h)
    (F : ∀ (w : World) (mg : Str → Option Value) (fa : Addr) (h : Heap), (K w.params).In h → h.Ns mainGlobals mg → mg d.name = some (.ref fa) →
      ∃ fd : FuncData, (∀ (s : Shared) (u : Value), BindsTo s fd ⟨[u], []⟩ [("_law_script", u)]) ∧ ∀ base : Heap, (K w.params).In base → base.Ns mainGlobals mg → FnOk l.prog w (K w.params) mg base CX0 k fa fd ["_law_script"] (spLaw (K w.params))) :
    PySem.W.WalkO q loose XP YP l.row.toRowW d [] (fun f vs => PySem.call f vs) :=
  L2.walk_of (n := 63) (k := k) (x := "_law_script") (CX := fun _ => CX0) (sp := fun w => spLaw (K w.params)) hn (by decide) hdf hr hY F (fun _ _ a ns hl _ hS => ⟨a, ns, rfl, hS, hl, fun _ => rfl⟩) fun _ _ _ _ _ z => z
end LB
set_option Elab.async false
set_option linter.all false
set_option autoImplicit false
set_option maxRecDepth 100000
set_option maxHeartbeats 4000000
namespace LB
open PySem PySem.Spec PyProof.Rows L2
/-! ### what the top has written: making the facts -/
theorem own_mk {K : PySem.W.Frag} {mg : Str → Option Value} {h : Heap} {C : Addr} {x : Str} (X : K.In h) (G : h.Ns mainGlobals mg) (a : PySem.W.nsIn K mainGlobals x = some (some (.ref C)))
    (pg : PySem.W.plainGet K C Str.empty = true) (hd : PySem.W.hasDictIn K C = true) (po : PySem.W.plainOver K C = true) (sa : PySem.W.findIn K (.ref C) "__setattr__" = some (some (.builtin "object.__setattr__"))) (mk : PySem.W.makesIn K C = true) (kc : PySem.W.keepIn K (.ref C) = true) : OwnCls K mg x C :=
  ⟨PySem.W.mg_of X G a, ⟨pg, hd, po, sa⟩, mk, kc⟩
theorem nsOk_of {K : PySem.W.Frag} {N : Addr} {c : Value} {od : Option Addr} {es : Array DictEntry} {n : Nat} {sl : Array (Option Value)} (l : K.lookup N = some ⟨c, od, .dict es n, sl⟩) (h : (es.toList.all fun e => match e.key with | .str _ _ => true | _ => false) = true) : PySem.W.nsOkIn K N = true := by
  unfold PySem.W.nsOkIn
  rw [l]
  rw [Array.all_toList] at h
  exact h
theorem ne_mk {K : PySem.W.Frag} {C N f : Addr} {nm q : Str} {bs : List Value} {hdct : Bool} {sn : List Str} {sub : List Value} {ab : Bool} {col : Option Bool} {dd : Option Addr} {k0 k1 k2 k3 k5 : Option Value} {newId : String} {of : Obj} {cN : Value} {odN : Option Addr} {esN : Array DictEntry} {nN : Nat} {slN : Array (Option Value)}
    (lC : K.lookup C = some (excClassObj nm q C N bs [.type "object"] hdct sn sub ab col dd k0 k1 k2 k3 k5 newId)) (lN : K.lookup N = some ⟨cN, odN, .dict esN nN, slN⟩) (nk : (esN.toList.all fun e => match e.key with | .str _ _ => true | _ => false) = true) (ne : PySem.W.nsIn K N "__eq__" = some (some (.ref f))) (nn : PySem.W.nsIn K N "__ne__" = some none)
    (fe : PySem.W.findIn K (.ref C) "__eq__" = some (some (.ref f))) (lf : K.lookup f = some of) (cf : of.cls = .type "function") : NeCls K C :=
  ⟨_, _, _, _, _, _, _, _, _, _, _, _, _, _, _, _, _, _, lC, nsOk_of lN nk, ne, nn, fe, lf, cf⟩
/-- a class's instances know their class -/
structure IsiCls (K : PySem.W.Frag) (C : Addr) : Prop where
  ha : PySem.W.findIn K (.ref C) "__class__" = some (some (.builtin "object.__class__"))
  hn : PySem.W.specialIn K (.builtin "object.__class__") "__get__" = some (some (.builtin "getset_descriptor.__get__"))
  htk : PySem.W.takesIn K (.builtin "object.__class__") = some true
  hm : PySem.W.mroIn K C (.type "object") = some true
  me : PySem.W.kitOne K (.ref C) (.ref C) = some true
theorem exc_mk {K : PySem.W.Frag} {mg : Str → Option Value} {h : Heap} {C N : Addr} {x nm q : Str} {bs bm : List Value} {sn : List Str} {sub : List Value} {ab : Bool} {col : Option Bool} {dd : Option Addr} {k0 k1 k2 k3 k5 : Option Value} (X : K.In h) (G : h.Ns mainGlobals mg) (a : PySem.W.nsIn K mainGlobals x = some (some (.ref C)))
    (lC : K.lookup C = some (excClassObj nm q C N bs bm true sn sub ab col dd k0 k1 k2 k3 k5 "ValueError.__new__")) (rb : PySem.HandSPX.refsVE bm = true) (sa : PySem.W.findIn K (.ref C) "__setattr__" = some (some (.builtin "object.__setattr__")))
    (ex : PySem.W.subIn K (.ref C) (.type "BaseException") = some true) (ty : PySem.W.typeIn K (.ref C) = some (.type "type")) (kc : PySem.W.keepIn K (.ref C) = true)
    (ga : PySem.W.findIn K (.ref C) "__getattribute__" = some (some (.builtin "BaseException.__getattribute__"))) (gg : PySem.W.findIn K (.ref C) "__getattr__" = some none) (hd : PySem.W.hasDictIn K C = true) (me : PySem.W.exmOne K (.ref C) (.ref C) = some true) : ExcCls K mg x C :=
  ⟨PySem.W.mg_of X G a, ⟨⟨_, _, _, _, _, _, _, _, _, _, _, _, _, _, _, lC, rb⟩, sa, ex, ty, kc⟩, ⟨ga, gg, ex, hd⟩, me⟩
theorem low_mk {K : PySem.W.Frag} {mg : Str → Option Value} {h : Heap} {L : Addr} (X : K.In h) (G : h.Ns mainGlobals mg) (a : PySem.W.nsIn K mainGlobals "LowError" = some (some (.ref L)))
    (sp : PySem.W.specialIn K (.ref L) "__getattribute__" = some (some (.builtin "type.__getattribute__"))) (ty : PySem.W.typeIn K (.ref L) = some (.type "type")) (rd : PySem.W.readsIn K L (.type "type") = true) (fi : PySem.W.findCls K (.ref L) (.type "type") "__init__" = some (.val (.builtin "ValueError.__init__"))) : LowTxt K mg L :=
  ⟨PySem.W.mg_of X G a, sp, ty, rd, fi⟩
/-- a def with one default, an empty tuple of the written part -/
theorem topFnD_mk {K : PySem.W.Frag} {mg : Str → Option Value} {h : Heap} {x : Str} {st : Stmt} {ps : List Str} {f T : Addr} {oc oT : Value} {od an oD : Option Addr} {osl slT : Array (Option Value)} {kV doc pm cdv ct : Value} {its : Array Value} {nT : Nat} {dvs : List V} (X : K.In h) (G : h.Ns mainGlobals mg)
    (a : PySem.W.nsIn K mainGlobals x = some (some (.ref f))) (l : K.lookup f = some ⟨oc, od, .func (PySem.W.fnOf x x (defArgs st) (defBody st) (defScope st) (.ref T) kV doc pm an cdv ct), osl⟩)
    (c : PySem.W.codeIn K cdv x = true) (k : PySem.W.keepIn K (.ref f) = true) (lT : K.lookup T = some ⟨oT, oD, .seq its nT, slT⟩) (v : Vals dvs its.toList) (hd : dvs ≠ [])
    (n0 : Nat) (hn0 : n0 + dvs.length = ps.length)
    (hb : ∀ (T : Addr) (kV doc pm : Value) (an : Option Addr) (cdv ct : Value) (us its : List Value), us.length = n0 → its.length = dvs.length →
      ∃ k, bindArgs (PySem.W.fnOf x x (defArgs st) (defBody st) (defScope st) (.ref T) kV doc pm an cdv ct) ⟨us, []⟩ = seqItems? (.ref T) >>= k ∧ k (some its.toArray) = pure (ps.zip (us ++ its.drop 0)))
    (hb0 : ∀ (T : Addr) (kV doc pm : Value) (an : Option Addr) (cdv ct : Value) (us its : List Value), us.length = ps.length → its.length = dvs.length →
      ∃ k, bindArgs (PySem.W.fnOf x x (defArgs st) (defBody st) (defScope st) (.ref T) kV doc pm an cdv ct) ⟨us, []⟩ = seqItems? (.ref T) >>= k ∧ k (some its.toArray) = pure (ps.zip (us ++ its.drop dvs.length))) : TopFnD K mg x st ps dvs := by
  have F : FunD K x x (defArgs st) (defBody st) (defScope st) dvs [] f _ := ⟨⟨oc, od, _, kV, doc, pm, an, cdv, ct, osl, rfl, l, c, .inr ⟨hd, T, _, its.toList, nT, rfl, lT, rfl, v⟩, .inl rfl⟩, k⟩
  obtain ⟨ds, v1, b1⟩ := F.binds1 n0 0 hd (by omega) hb
  obtain ⟨ds0, v0, b0⟩ := F.binds1 ps.length dvs.length hd (by omega) hb0
  have e0 : ds0 = [] := by
    have := v0.length
    rw [List.drop_length] at this
    exact List.length_eq_zero_iff.mp this.symm
  rw [e0] at b0
  exact ⟨f, _, ds, F, PySem.W.mg_of X G a, b0, b1, v1⟩
theorem vals_ref {a : Addr} : Vals [V.ref a] [Value.ref a] := .cons rfl .nil
theorem emptyT_mk {K : PySem.W.Frag} {t : Addr} {od : Option Addr} {n : Nat} {sl : Array (Option Value)} (l : K.lookup t = some ⟨.type "tuple", od, .seq #[] n, sl⟩) : ∀ H, SqT K H t [] :=
  fun H => .inr ⟨_, #[], n, l, rfl, rfl, by decide, .nil⟩
end LB
set_option Elab.async false
set_option linter.all false
set_option autoImplicit false
set_option maxRecDepth 100000
set_option maxHeartbeats 4000000
namespace PD
open PySem PySem.Spec PyProof.Rows L2
/-- what is known of the written dicts -/
structure TW (K : PySem.W.Frag) (w : World) (W : Wo) : Prop where
  hK : K = W.K
  own : ∀ C, W.cok C → Cls K (W.cl C) ∧ LB.IsiCls K (W.cl C)
  fld : ∀ C f, W.fok C f → NoAttr K (W.cl C) f
  kd : ∀ a kvs, W.kd a kvs → (∃ es n, KDict K w a es n) ∧ (∀ z d, kvs.lookup z = some d → ∃ u v, PySem.W.nsIn K a z = some (some u) ∧ RelV v u ∧ ∀ hid H μ, Rep W hid H μ v d) ∧ ∀ z, kvs.lookup z = none → PySem.W.nsIn K a z = some none
section
variable {X : Cx} {W : Wo} {Wk : WX}
theorem flat_ok {hid : Hid} {H : Hp} {μ : Mu} {v : V} {d : D} (r : Rep W hid H μ v d) (f : flD d = true) : flatV v = true := by
  cases r <;> first | rfl | cases f
theorem flats_ok {hid : Hid} {H : Hp} {μ : Mu} : ∀ {vs : List V} {ds : List D}, Reps W hid H μ vs ds → ds.all flD = true → vs.all flatV = true
  | _, _, .nil, _ => rfl
  | _, _, .cons h r, f => by
    rw [List.all_cons, Bool.and_eq_true_iff] at f ⊢
    exact ⟨flat_ok h f.1, flats_ok r f.2⟩
theorem eqS_ok {hid : Hid} {H : Hp} {μ : Mu} {v w : V} {d e : D} (r : Rep W hid H μ v d) (q : Rep W hid H μ w e) : flD d = true → flD e = true → eqV v w = eqS d e := by
  intro f g
  cases r <;> first | (cases f; done) | (cases q <;> first | (cases g; done) | rfl | (rename_i b; cases b <;> rfl) | (rename_i b _; cases b <;> rfl) | (rename_i _ b; cases b <;> rfl))
theorem inD_ok {hid : Hid} {H : Hp} {μ : Mu} {v : V} {d : D} (r : Rep W hid H μ v d) (f : flD d = true) : ∀ {vs : List V} {ds : List D}, Reps W hid H μ vs ds → ds.all flD = true → inV v vs = inD d ds
  | _, _, .nil, _ => rfl
  | _, _, .cons h q, g => by
    rw [List.all_cons, Bool.and_eq_true_iff] at g
    have ih := inD_ok r f q g.2
    unfold inV inD at ih ⊢
    rw [List.any_cons, List.any_cons, ih, eqS_ok h r g.1 f]
theorem keyOf_ok {hid : Hid} {H : Hp} {μ : Mu} {v : V} {d : D} {k : Key} (r : Rep W hid H μ v d) (e : keyOf d = some k) : v = kV k := by
  cases r <;> first | (cases e; rfl) | cases e
theorem valD_ok {hid : Hid} {H : Hp} {μ : Mu} {k : Key} : ∀ {es : List (Key × V)} {kvs : List (Key × D)}, RepK W hid H μ es kvs → RepO W hid H μ (valV es k) (valD kvs k)
  | _, _, .nil => .none
  | _, _, .cons (k := j) h r => by
    unfold valV valD
    by_cases e : j = k
    · rw [List.find?_cons_of_pos (by simpa using e), List.find?_cons_of_pos (by simpa using e)]
      exact .some h
    · rw [List.find?_cons_of_neg (by simpa using e), List.find?_cons_of_neg (by simpa using e)]
      exact valD_ok r
theorem dicOf_at {d : D} {μ : Mu} {kvs : List (Key × D)} (e : dicOf d μ = some kvs) : ∃ a, d = .ptr a ∧ μ a = some (.dic kvs) := by
  unfold dicOf at e
  split at e
  · rename_i a
    cases hm : μ a with
    | none => rw [hm] at e; cases e
    | some m =>
      rw [hm] at e
      cases m <;> first | (cases e; exact ⟨a, rfl, hm⟩) | cases e
  · cases e
theorem dicOf_ok {hid : Hid} {H : Hp} {μ : Mu} {v : V} {d : D} {kvs : List (Key × D)} (sr : SR W hid H μ) (e : dicOf d μ = some kvs) (r : Rep W hid H μ v d) : ∃ a es, v = .ref a ∧ H a = some (.dK es) ∧ RepK W hid H μ es kvs := by
  obtain ⟨a, rfl, hm⟩ := dicOf_at e
  cases r
  obtain ⟨es, h, r⟩ := (sr.at_ a _ hm).2
  exact ⟨a, es, rfl, h, r⟩
theorem repO_isSome {hid : Hid} {H : Hp} {μ : Mu} {o : Option V} {q : Option D} (r : RepO W hid H μ o q) : o.isSome = q.isSome := by cases r <;> rfl
theorem od_in (C : TW X.K X.w W) (hu : X.A.units + 1 < cLine) : OpR X (compareOp .In) (rD W (oIn id)) := by
  intro pins s σ H x y v u Q I rx ry ⟨hid, μ, d, e, Qd, sr, r1, r2, h, pq⟩
  unfold oIn at h
  split at h
  · cases r1; cases r2
    exact op_in_str pins s σ H _ _ v u Q I rx ry ⟨_, _, rfl, rfl, pq _ _ H μ .refl sr (.bl _) h⟩
  · rename_i k kvs
    cases r1
    cases r2 with
    | dct hk =>
      rename_i a
      obtain ⟨⟨es, n, kd⟩, h1, h2⟩ := C.kd a kvs hk
      cases e1 : kvs.lookup k with
      | none =>
        rw [e1] at h
        exact op_in_kd kd pins s σ H _ _ v u Q I rx ry ⟨k, none, rfl, rfl, h2 k e1, pq _ _ H μ .refl sr (.bl _) h⟩
      | some z =>
        rw [e1] at h
        obtain ⟨u', v', g1, _⟩ := h1 k z e1
        exact op_in_kd kd pins s σ H _ _ v u Q I rx ry ⟨k, some u', rfl, rfl, g1, pq _ _ H μ .refl sr (.bl _) h⟩
  · split at h
    · rename_i kvs ek
      obtain ⟨a, es, rfl, ha, q⟩ := dicOf_ok sr ek r2
      split at h
      · rename_i k hk
        obtain rfl := keyOf_ok r1 hk
        cases ry
        have ro := valD_ok (k := k) q
        refine d_in hu I (DGet.k (k := k) ha) rx fun s' I' => ⟨.bl _, H, I', rfl, ?_⟩
        rw [repO_isSome ro]
        exact pq _ _ H μ .refl sr (.bl _) h
      · exact h.elim
    split at h
    · rename_i xs es
      obtain ⟨p, vs, rfl, hs, q⟩ := seqOf_ok es sr r2
      rw [← C.hK] at hs
      exact op_in_seq pins s σ H _ _ v u Q I rx ry ⟨p, vs, rfl, hs, flat_ok r1 h.1, flats_ok q h.2.1, by rw [inD_ok r1 h.1 q h.2.1]; exact pq _ _ H μ .refl sr (.bl _) h.2.2⟩
    · exact h.elim
theorem od_notIn (C : TW X.K X.w W) (hu : X.A.units + 1 < cLine) : OpR X (compareOp .NotIn) (rD W (oIn not)) := by
  intro pins s σ H x y v u Q I rx ry ⟨hid, μ, d, e, Qd, sr, r1, r2, h, pq⟩
  unfold oIn at h
  split at h
  · cases r1; cases r2
    exact op_notIn_str pins s σ H _ _ v u Q I rx ry ⟨_, _, rfl, rfl, pq _ _ H μ .refl sr (.bl _) h⟩
  · rename_i k kvs
    cases r1
    cases r2 with
    | dct hk =>
      rename_i a
      obtain ⟨⟨es, n, kd⟩, h1, h2⟩ := C.kd a kvs hk
      cases e1 : kvs.lookup k with
      | none =>
        rw [e1] at h
        exact op_notIn_kd kd pins s σ H _ _ v u Q I rx ry ⟨k, none, rfl, rfl, h2 k e1, pq _ _ H μ .refl sr (.bl _) h⟩
      | some z =>
        rw [e1] at h
        obtain ⟨u', v', g1, _⟩ := h1 k z e1
        exact op_notIn_kd kd pins s σ H _ _ v u Q I rx ry ⟨k, some u', rfl, rfl, g1, pq _ _ H μ .refl sr (.bl _) h⟩
  · split at h
    · rename_i kvs ek
      obtain ⟨a, es, rfl, ha, q⟩ := dicOf_ok sr ek r2
      split at h
      · rename_i k hk
        obtain rfl := keyOf_ok r1 hk
        cases ry
        have ro := valD_ok (k := k) q
        refine d_notIn hu I (DGet.k (k := k) ha) rx fun s' I' => ⟨.bl _, H, I', rfl, ?_⟩
        rw [repO_isSome ro]
        exact pq _ _ H μ .refl sr (.bl _) h
      · exact h.elim
    split at h
    · rename_i xs es
      obtain ⟨p, vs, rfl, hs, q⟩ := seqOf_ok es sr r2
      rw [← C.hK] at hs
      exact op_notIn_seq pins s σ H _ _ v u Q I rx ry ⟨p, vs, rfl, hs, flat_ok r1 h.1, flats_ok q h.2.1, by rw [inD_ok r1 h.1 q h.2.1]; exact pq _ _ H μ .refl sr (.bl _) h.2.2⟩
    · exact h.elim
/-! ### items -/
def oIx : OD := fun d e μ Q => match d, e with
  | .str z, .int i => z.length ≤ sizeLine ∧ (match atI z.cps.toList i with | some c => Q (.str ⟨#[c]⟩) μ | none => False)
  | .dct kvs, .str k => (match kvs.lookup k with | some v => Q v μ | none => False)
  | d, e => match dicOf d μ with
    | some kvs => (match keyOf e with | some k => (match valD kvs k with | some v => Q v μ | none => False) | none => False)
    | none => match e with
      | .int i => (match seqOf d μ with | some xs => (match atI xs i with | some v => Q v μ | none => False) | none => False)
      | _ => False
theorem atI_ok {hid : Hid} {H : Hp} {μ : Mu} {vs : List V} {ds : List D} {i : Int} {d : D} (r : Reps W hid H μ vs ds) (e : atI ds i = some d) : ∃ v, atI vs i = some v ∧ Rep W hid H μ v d := by
  unfold atI at e ⊢
  rw [r.length]
  cases h : ixN ds.length i with
  | none => rw [h] at e; cases e
  | some j =>
    rw [h] at e
    exact r.get e
theorem IxR.weak {r q : R2} (h : IxR X r) (k : ∀ x y H Q, q x y H Q → r x y H Q) : IxR X q := fun value slice pins s σ H x y v u Q I rx ry z hs => h value slice pins s σ H x y v u Q I rx ry (k x y H Q z) hs
theorem ix_dic (hu : X.A.units + 1 < cLine) : IxR X (fun x y H Q => ∃ a v, x = .ref a ∧ DGet H a y (some v) ∧ Q v H) := by
  intro value slice pins s σ H x y v u Q I rx ry ⟨a, z, ex, g, q⟩ hs
  subst ex
  cases rx
  exact tail_any (dict_typeIs I g) PySem.F.slot_dict_getitem.lookup (d_getItem hu I g ry fun w' s3 I3 rw' => ⟨z, H, I3, rw', q⟩) hs
theorem id_ix (C : TW X.K X.w W) (hu : X.A.units + 1 < cLine) : IxR X (rD W oIx) := IxR.weak ((ix_seq.or ix_kdict).or (ix_dic hu)) fun x y H Q ⟨hid, μ, d, e, Qd, sr, rx, ry, h, pq⟩ => by
  unfold oIx at h
  split at h
  · cases rx; cases ry
    obtain ⟨hz, h⟩ := h
    split at h
    · rename_i c hc
      exact .inl (.inl (.inr (.inr ⟨_, _, c, rfl, rfl, hz, hc, pq _ _ H μ .refl sr (.str _) h⟩)))
    · exact h.elim
  · rename_i kvs k
    cases ry
    cases rx with
    | @dct a _ hk =>
      obtain ⟨⟨es, n, kd⟩, h1, _⟩ := C.kd a kvs hk
      split at h
      · rename_i v hv
        obtain ⟨u, v', g1, g2, g3⟩ := h1 k v hv
        exact .inl (.inr ⟨a, k, v', rfl, rfl, ⟨es, n, u, kd.at_, kd.lit, g1, g2⟩, pq _ _ H μ .refl sr (g3 _ _ _) h⟩)
      · exact h.elim
  · split at h
    · rename_i kvs ek
      obtain ⟨a, es, rfl, ha, q⟩ := dicOf_ok sr ek rx
      split at h
      · rename_i k hk
        obtain rfl := keyOf_ok ry hk
        have ro := valD_ok (k := k) q
        split at h
        · rename_i v hv
          rw [hv] at ro
          cases e1 : valV es k with
          | none => rw [e1] at ro; cases ro
          | some z =>
            rw [e1] at ro
            cases ro with
            | some rz =>
              have g := DGet.k (k := k) ha
              rw [e1] at g
              exact .inr ⟨a, z, rfl, g, pq _ _ H μ .refl sr rz h⟩
        · exact h.elim
      · exact h.elim
    · split at h
      · cases ry
        split at h
        · rename_i xs es
          split at h
          · rename_i v hv
            obtain ⟨p, vs, rfl, hs, q⟩ := seqOf_ok es sr rx
            obtain ⟨v', hv', r'⟩ := atI_ok q hv
            rw [← C.hK] at hs
            rcases hs with hs | hs
            · exact .inl (.inl (.inl ⟨p, vs, _, v', rfl, rfl, hs, hv', pq _ _ H μ .refl sr r' h⟩))
            · exact .inl (.inl (.inr (.inl ⟨p, vs, _, v', rfl, rfl, hs, hv', pq _ _ H μ .refl sr r' h⟩)))
          · exact h.elim
        · exact h.elim
      · exact h.elim
/-! ### parts -/
abbrev TDO := XE → Env → Mu → (Option Int → Mu → Prop) → Prop
def PI_ (W : Wo) (hid : Hid) (H : Hp) (μ : Mu) (Qd : Option Int → Mu → Prop) (Q : Option Int → Hp → Prop) : Prop := ∀ o H' μ', St H μ H' μ' → SR W hid H' μ' → Qd o μ' → Q o H'
def TDo (W : Wo) (Wk : WX) (td : TDO) : TO := fun σ H Q => ∃ hid ρ μ Xd Qd, Rel W hid H μ σ ρ ∧ SR W hid H μ ∧ td Xd ρ μ Qd ∧ PI_ W hid H μ Qd Q ∧ PX W hid H μ σ ρ Xd Wk
abbrev BO (X : Cx) (W : Wo) (Wk : WX) (e : Option Expr) (td : TDO) : Prop := PO X e (TDo W Wk td)
theorem PO.weak {e : Option Expr} {t t' : TO} (h : PO X e t) (k : ∀ σ H Q, t' σ H Q → t σ H Q) : PO X e t' := ⟨fun pins s σ H Q I q => h.run pins s σ H Q I (k σ H Q q)⟩
def pNone : TDO := fun _ _ μ Q => Q none μ
def pSome (te : TDE) : TDO := fun Xd ρ μ Q => te Xd ρ μ fun d μ1 => match d with | .int i => Q (some i) μ1 | _ => False
theorem bo_none : BO X W Wk none pNone := PO.weak po_none fun σ H Q ⟨hid, ρ, μ, Xd, Qd, rel, sr, q, pq, px⟩ => pq none H μ .refl sr q
theorem bo_some {e : Expr} {te : TDE} (h : BE X W Wk e te) : BO X W Wk (some e) (pSome te) := PO.weak (po_some h) fun σ H Q ⟨hid, ρ, μ, Xd, Qd, rel, sr, q, pq, px⟩ => by
  refine ⟨hid, ρ, μ, Xd, _, rel, sr, q, fun v d H1 μ1 s1 sr1 r1 q1 => ?_, px⟩
  dsimp only at q1
  split at q1
  · cases r1
    exact ⟨_, rfl, pq _ H1 μ1 s1 sr1 q1⟩
  · exact q1.elim
def cutD (xs : List D) (lo hi : Option Int) : List D := (xs.drop (HT.sIx xs.length 0 lo)).take (HT.sIx xs.length xs.length hi - HT.sIx xs.length 0 lo)
theorem cut_ok {hid : Hid} {H : Hp} {μ : Mu} {vs : List V} {ds : List D} (r : Reps W hid H μ vs ds) (lo hi : Option Int) : Reps W hid H μ (cutV vs lo hi) (cutD ds lo hi) := by
  unfold cutV cutD
  rw [r.length]
  exact (r.drop _).take _
def oSl (m : Bool) (d : D) (lo hi : Option Int) (μ : Mu) (Q : QD) : Prop := match d with
  | .str z => z.length ≤ sizeLine ∧ Q (.str (cutS z lo hi)) μ
  | .tup xs => Q (.tup (cutD xs lo hi)) μ
  | d => match lstOf d μ with
    | some xs => newL m (cutD xs lo hi) μ Q
    | none => False
def eSl (m : Bool) (te : TDE) (tl th : TDO) : TDE := fun Xd ρ μ Q => te Xd ρ μ fun d μ1 => tl Xd ρ μ1 fun l μ2 => th Xd ρ μ2 fun u μ3 => oSl m d l u μ3 Q
theorem cut_whole {xs : List D} {lo hi : Option Int} (h : HT.sIx xs.length 0 lo = 0 ∧ HT.sIx xs.length xs.length hi = xs.length) : cutD xs lo hi = xs := by
  unfold cutD
  rw [h.1, h.2]
  simp
theorem be_slice {m : Bool} {e : Expr} {lo hi : Option Expr} {te : TDE} {tl th : TDO} {p2 pos : Pos} (C : TW X.K X.w W) (he : BE X W Wk e te) (hl : BO X W Wk lo tl) (hu : BO X W Wk hi th) : BE X W Wk (.Subscript e (.Slice lo hi none p2) pos) (eSl m te tl th) := by
  refine PE.weak (pe_slice (sl_list.or (sl_tupA.or sl_str)) he hl hu) fun σ H Q ⟨hid, ρ, μ, Xd, Qd, rel, sr, q, pq, px⟩ => ?_
  refine ⟨hid, ρ, μ, Xd, _, rel, sr, q, fun v d H1 μ1 s1 sr1 r1 q1 => ?_, px⟩
  refine ⟨hid, ρ, μ1, Xd, _, rel_mono s1.ok rel, sr1, q1, fun l H2 μ2 s2 sr2 q2 => ?_, px.st s1⟩
  refine ⟨hid, ρ, μ2, Xd, _, rel_mono (s1.trans s2).ok rel, sr2, q2, fun u H3 μ3 s3 sr3 q3 => ?_, px.st (s1.trans s2)⟩
  have r3 := r1.mono (s2.trans s3).ok
  have pq3 := pq.st ((s1.trans s2).trans s3)
  unfold oSl at q3
  split at q3
  · cases r3
    exact .inr (.inr ⟨_, rfl, q3.1, pq3 _ _ H3 μ3 .refl sr3 (.str _) q3.2⟩)
  · rename_i xs
    obtain ⟨a, vs, rfl, ha, qa⟩ := tup_ok r3
    rw [← C.hK] at ha
    refine .inr (.inl ⟨a, vs, rfl, ha, fun w => ?_, fun _ p hp => newT_ok sr3 (cut_ok qa l u) hp q3 pq3⟩)
    rw [qa.length] at w
    rw [cut_whole w] at q3
    exact pq3 _ _ H3 μ3 .refl sr3 r3 q3
  · split at q3
    · rename_i xs es
      obtain ⟨a, vs, rfl, ha, qa⟩ := lstOf_ok es sr3 r3
      rw [← C.hK] at ha
      exact .inl ⟨a, vs, rfl, ha, fun p hp => newL_ok sr3 (cut_ok qa l u) hp q3 pq3⟩
    · exact q3.elim
/-! ### tests -/
/-- both ways of a test -/
@[irreducible] def dIf (b : Bool) (A B : Prop) : Prop := match b with | true => A | false => B
theorem dIf_true {A B : Prop} : dIf true A B = A := by unfold dIf; rfl
theorem dIf_false {A B : Prop} : dIf false A B = B := by unfold dIf; rfl
theorem dIf_tt {A B : Prop} (h : dIf true A B) : A := by rw [dIf_true] at h; exact h
theorem dIf_ff {A B : Prop} (h : dIf false A B) : B := by rw [dIf_false] at h; exact h
theorem dIf_of {b : Bool} {A B : Prop} (h1 : b = true → A) (h2 : b = false → B) : dIf b A B := by
  cases b with
  | true => rw [dIf_true]; exact h1 rfl
  | false => rw [dIf_false]; exact h2 rfl
def tVal (te : TDE) : TDT := fun Xd ρ μ Q => te Xd ρ μ fun d μ1 => match d with | .bl b => Q b μ1 | _ => False
def truD (d : D) (μ : Mu) : Option Bool := match d with
  | .non => some false
  | .bl b => some b
  | .int i => some (i != 0)
  | d => (seqOf d μ).map fun xs => !xs.isEmpty
def tTru (te : TDE) : TDT := fun Xd ρ μ Q => te Xd ρ μ fun d μ1 => match truD d μ1 with | some b => Q b μ1 | none => False
theorem bt_val {e : Expr} {te : TDE} (h : BE X W Wk e te) (he : ∀ whole, isTrue e X.env whole = (do let v ← whole; standAt e.pos; holding [v] (truthy v)) := by intro _; rfl) : BT X W Wk e (tVal te) := PT.weak (pt_val h he) fun σ H Q ⟨hid, ρ, μ, Xd, Qd, rel, sr, q, pq, px⟩ => by
  refine ⟨hid, ρ, μ, Xd, _, rel, sr, q, fun v d H1 μ1 s1 sr1 r1 q1 => ?_, px⟩
  dsimp only at q1
  split at q1
  · cases r1
    exact ⟨_, rfl, pq _ H1 μ1 s1 sr1 q1⟩
  · exact q1.elim
theorem empty_ok {hid : Hid} {H : Hp} {μ : Mu} {vs : List V} {ds : List D} (r : Reps W hid H μ vs ds) : (!ds.isEmpty) = !vs.isEmpty := by
  cases r <;> rfl
theorem bt_tru {e : Expr} {te : TDE} (C : TW X.K X.w W) (h : BE X W Wk e te) (he : ∀ whole, isTrue e X.env whole = (do let v ← whole; standAt e.pos; holding [v] (truthy v))) : BT X W Wk e (tTru te) := PT.weak (pt_truth h he) fun σ H Q ⟨hid, ρ, μ, Xd, Qd, rel, sr, q, pq, px⟩ => by
  refine ⟨hid, ρ, μ, Xd, _, rel, sr, q, fun v d H1 μ1 s1 sr1 r1 q1 => ?_, px⟩
  dsimp only at q1
  split at q1
  · rename_i b hb
    refine ⟨b, ?_, pq _ H1 μ1 s1 sr1 q1⟩
    unfold truD at hb
    split at hb
    · cases r1; cases hb; rfl
    · cases r1; cases hb; rfl
    · cases r1; cases hb; rfl
    · cases hs : seqOf d μ1 with
      | none => rw [hs] at hb; cases hb
      | some xs =>
        rw [hs] at hb
        cases hb
        obtain ⟨a, vs, rfl, ha, qa⟩ := seqOf_ok hs sr1 r1
        rw [← C.hK] at ha
        rcases ha with ha | ha
        · exact .inl ⟨vs, ha, empty_ok qa⟩
        · exact .inr (.inl ⟨vs, ha, empty_ok qa⟩)
  · exact q1.elim
def tNo (t : TDT) : TDT := fun Xd ρ μ Q => t Xd ρ μ fun b μ1 => Q (!b) μ1
def tAn (t u : TDT) : TDT := fun Xd ρ μ Q => t Xd ρ μ fun b μ1 => dIf b (u Xd ρ μ1 Q) (Q false μ1)
def tOn (t u : TDT) : TDT := fun Xd ρ μ Q => t Xd ρ μ fun b μ1 => dIf b (Q true μ1) (u Xd ρ μ1 Q)
theorem bt_not {a : Expr} {t : TDT} {pos : Pos} (h : BT X W Wk a t) : BT X W Wk (.UnaryOp .Not a pos) (tNo t) := PT.weak (pt_not h) fun σ H Q ⟨hid, ρ, μ, Xd, Qd, rel, sr, q, pq, px⟩ =>
  ⟨hid, ρ, μ, Xd, _, rel, sr, q, fun b H1 μ1 s1 sr1 q1 => pq _ H1 μ1 s1 sr1 q1, px⟩
theorem bw_and1 {a : Expr} {t : TDT} {pos : Pos} (h : BT X W Wk a t) : BW X W Wk (.BoolOp .And [a] pos) t := pw_and1 h
theorem bw_or1 {a : Expr} {t : TDT} {pos : Pos} (h : BT X W Wk a t) : BW X W Wk (.BoolOp .Or [a] pos) t := pw_or1 h
theorem bw_and {a b : Expr} {rest : List Expr} {t u : TDT} {pos : Pos} (h : BT X W Wk a t) (k : BW X W Wk (.BoolOp .And (b :: rest) pos) u) : BW X W Wk (.BoolOp .And (a :: b :: rest) pos) (tAn t u) := PW.weak (pw_and h k) fun σ H Q ⟨hid, ρ, μ, Xd, Qd, rel, sr, q, pq, px⟩ =>
  ⟨hid, ρ, μ, Xd, _, rel, sr, q, fun b H1 μ1 s1 sr1 q1 => by
    cases b with
    | true => exact ⟨hid, ρ, μ1, Xd, Qd, rel_mono s1.ok rel, sr1, (dIf_tt q1), pq.st s1, px.st s1⟩
    | false => exact pq _ H1 μ1 s1 sr1 (dIf_ff q1), px⟩
theorem bw_or {a b : Expr} {rest : List Expr} {t u : TDT} {pos : Pos} (h : BT X W Wk a t) (k : BW X W Wk (.BoolOp .Or (b :: rest) pos) u) : BW X W Wk (.BoolOp .Or (a :: b :: rest) pos) (tOn t u) := PW.weak (pw_or h k) fun σ H Q ⟨hid, ρ, μ, Xd, Qd, rel, sr, q, pq, px⟩ =>
  ⟨hid, ρ, μ, Xd, _, rel, sr, q, fun b H1 μ1 s1 sr1 q1 => by
    cases b with
    | false => exact ⟨hid, ρ, μ1, Xd, Qd, rel_mono s1.ok rel, sr1, (dIf_ff q1), pq.st s1, px.st s1⟩
    | true => exact pq _ H1 μ1 s1 sr1 (dIf_tt q1), px⟩
theorem BW.bt {e : Expr} {t : TDT} (h : BW X W Wk e t) : BT X W Wk e t := PW.pt h
def eIf (t : TDT) (ta tb : TDE) : TDE := fun Xd ρ μ Q => t Xd ρ μ fun b μ1 => dIf b (ta Xd ρ μ1 Q) (tb Xd ρ μ1 Q)
theorem be_if {c a b : Expr} {t : TDT} {ta tb : TDE} {pos : Pos} (hc : BT X W Wk c t) (ha : BE X W Wk a ta) (hb : BE X W Wk b tb) : BE X W Wk (.IfExp c a b pos) (eIf t ta tb) := PE.weak (pe_ifExp hc ha hb) fun σ H Q ⟨hid, ρ, μ, Xd, Qd, rel, sr, q, pq, px⟩ =>
  ⟨hid, ρ, μ, Xd, _, rel, sr, q, fun b H1 μ1 s1 sr1 q1 => by
    cases b with
    | true => exact ⟨hid, ρ, μ1, Xd, Qd, rel_mono s1.ok rel, sr1, (dIf_tt q1), pq.st s1, px.st s1⟩
    | false => exact ⟨hid, ρ, μ1, Xd, Qd, rel_mono s1.ok rel, sr1, (dIf_ff q1), pq.st s1, px.st s1⟩, px⟩
/-- and, or, not as values (bools ahead of the last) -/
def eAn (ta tb : TDE) : TDE := fun Xd ρ μ Q => ta Xd ρ μ fun d μ1 => match d with | .bl b => dIf b (tb Xd ρ μ1 Q) (Q (.bl false) μ1) | _ => False
def eOn (ta tb : TDE) : TDE := fun Xd ρ μ Q => ta Xd ρ μ fun d μ1 => match d with | .bl b => dIf b (Q (.bl true) μ1) (tb Xd ρ μ1 Q) | _ => False
def eNo (ta : TDE) : TDE := fun Xd ρ μ Q => ta Xd ρ μ fun d μ1 => match d with | .bl b => Q (.bl (!b)) μ1 | _ => False
theorem be_one {op : BoolOp} {a : Expr} {t : TDE} {pos : Pos} (h : BE X W Wk a t) : BE X W Wk (.BoolOp op [a] pos) t := pe_one h
theorem be_and {a b : Expr} {rest : List Expr} {ta tb : TDE} {pos : Pos} (ha : BE X W Wk a ta) (hb : BE X W Wk (.BoolOp .And (b :: rest) pos) tb) : BE X W Wk (.BoolOp .And (a :: b :: rest) pos) (eAn ta tb) := PE.weak (pe_and ha hb) fun σ H Q ⟨hid, ρ, μ, Xd, Qd, rel, sr, q, pq, px⟩ =>
  ⟨hid, ρ, μ, Xd, _, rel, sr, q, fun v d H1 μ1 s1 sr1 r1 q1 => by
    dsimp only at q1
    split at q1
    · rename_i b
      cases r1
      cases b with
      | true => exact ⟨_, rfl, hid, ρ, μ1, Xd, Qd, rel_mono s1.ok rel, sr1, (dIf_tt q1), pq.st s1, px.st s1⟩
      | false => exact ⟨_, rfl, pq _ _ H1 μ1 s1 sr1 (.bl _) (dIf_ff q1)⟩
    · exact q1.elim, px⟩
theorem be_or {a b : Expr} {rest : List Expr} {ta tb : TDE} {pos : Pos} (ha : BE X W Wk a ta) (hb : BE X W Wk (.BoolOp .Or (b :: rest) pos) tb) : BE X W Wk (.BoolOp .Or (a :: b :: rest) pos) (eOn ta tb) := PE.weak (pe_or ha hb) fun σ H Q ⟨hid, ρ, μ, Xd, Qd, rel, sr, q, pq, px⟩ =>
  ⟨hid, ρ, μ, Xd, _, rel, sr, q, fun v d H1 μ1 s1 sr1 r1 q1 => by
    dsimp only at q1
    split at q1
    · rename_i b
      cases r1
      cases b with
      | false => exact ⟨_, rfl, hid, ρ, μ1, Xd, Qd, rel_mono s1.ok rel, sr1, (dIf_ff q1), pq.st s1, px.st s1⟩
      | true => exact ⟨_, rfl, pq _ _ H1 μ1 s1 sr1 (.bl _) (dIf_tt q1)⟩
    · exact q1.elim, px⟩
theorem be_not {a : Expr} {ta : TDE} {pos : Pos} (ha : BE X W Wk a ta) : BE X W Wk (.UnaryOp .Not a pos) (eNo ta) := PE.weak (pe_not ha) fun σ H Q ⟨hid, ρ, μ, Xd, Qd, rel, sr, q, pq, px⟩ =>
  ⟨hid, ρ, μ, Xd, _, rel, sr, q, fun v d H1 μ1 s1 sr1 r1 q1 => by
    dsimp only at q1
    split at q1
    · cases r1
      exact ⟨_, rfl, pq _ _ H1 μ1 s1 sr1 (.bl _) q1⟩
    · exact q1.elim, px⟩
/-- a < b < c -/
def eCh (o o' : OD) (ta tb tc : TDE) : TDE := fun Xd ρ μ Q => ta Xd ρ μ fun x μ1 => tb Xd ρ μ1 fun y μ2 => o x y μ2 fun z μ3 => match z with | .bl k => dIf k (tc Xd ρ μ3 fun w μ4 => o' y w μ4 Q) (Q (.bl false) μ3) | _ => False
theorem ch_td {o o' : OD} {ta tb tc : TDE} {σ : L2.St} {H : Hp} {Q : VK} (h : TD W Wk (eCh o o' ta tb tc) σ H Q) : tChain (rD W o) (rD W o') (TD W Wk ta) (TD W Wk tb) (TD W Wk tc) σ H Q := by
  obtain ⟨hid, ρ, μ, Xd, Qd, rel, sr, q, pq, px⟩ := h
  refine ⟨hid, ρ, μ, Xd, _, rel, sr, q, fun v d H1 μ1 s1 sr1 r1 q1 => ?_, px⟩
  refine ⟨hid, ρ, μ1, Xd, _, rel_mono s1.ok rel, sr1, q1, fun w e H2 μ2 s2 sr2 r2 q2 => ?_, px.st s1⟩
  have s12 := s1.trans s2
  refine ⟨hid, μ2, d, e, _, sr2, r1.mono s2.ok, r2, q2, fun z f H3 μ3 s3 sr3 r3 q3 => ?_⟩
  split at q3
  · rename_i k
    cases r3
    refine ⟨k, rfl, ?_⟩
    have s13 := s12.trans s3
    cases k with
    | true =>
      refine ⟨hid, ρ, μ3, Xd, _, rel_mono s13.ok rel, sr3, (dIf_tt q3), fun u g H4 μ4 s4 sr4 r4 q4 => ?_, px.st s13⟩
      exact ⟨hid, μ4, e, g, Qd, sr4, r2.mono (s3.trans s4).ok, r4, q4, pq.st (s13.trans s4)⟩
    | false => exact pq _ _ H3 μ3 s13 sr3 (.bl _) (dIf_ff q3)
  · exact q3.elim
theorem be_chain {op op' : CmpOp} {o o' : OD} {a b c : Expr} {ta tb tc : TDE} {pos : Pos} (ho : OpR X (compareOp op) (rD W o)) (ho' : OpR X (compareOp op') (rD W o')) (ha : BE X W Wk a ta) (hb : BE X W Wk b tb) (hc : BE X W Wk c tc)
    (hm : lastMarks [op, op'] [b, c] = false := by with_unfolding_all rfl) : BE X W Wk (.Compare a [op, op'] [b, c] pos) (eCh o o' ta tb tc) := PE.weak (pe_chain ho ho' ha hb hc hm) fun _ _ _ h => ch_td h
theorem tTest_of {t : TDE} {u : TE} (hu : ∀ σ H Q, TD W Wk t σ H Q → u σ H Q) {σ : L2.St} {H : Hp} {Q : Bool → Hp → Prop} (h : TDt W Wk (tVal t) σ H Q) : tTest u σ H Q := by
  obtain ⟨hid, ρ, μ, Xd, Qd, rel, sr, q, pq, px⟩ := h
  refine hu σ H _ ⟨hid, ρ, μ, Xd, _, rel, sr, q, fun v d H1 μ1 s1 sr1 r1 q1 => ?_, px⟩
  dsimp only at q1
  split at q1
  · cases r1
    exact ⟨_, rfl, pq _ H1 μ1 s1 sr1 q1⟩
  · exact q1.elim
theorem bt_chain {op op' : CmpOp} {o o' : OD} {a b c : Expr} {ta tb tc : TDE} {pos : Pos} (ho : OpR X (compareOp op) (rD W o)) (ho' : OpR X (compareOp op') (rD W o')) (ha : BE X W Wk a ta) (hb : BE X W Wk b tb) (hc : BE X W Wk c tc)
    (hm : lastMarks [op, op'] [b, c] = false := by with_unfolding_all rfl) : BT X W Wk (.Compare a [op, op'] [b, c] pos) (tVal (eCh o o' ta tb tc)) := PT.weak (pt_chain ho ho' ha hb hc hm) fun _ _ _ h => tTest_of (fun _ _ _ => ch_td) h
theorem bt_cmp {op : CmpOp} {o : OD} {a b : Expr} {ta tb : TDE} {pos : Pos} (ho : OpR X (compareOp op) (rD W o)) (ha : BE X W Wk a ta) (hb : BE X W Wk b tb) (hm : behindInMarks op b = false) : BT X W Wk (.Compare a [op] [b] pos) (tVal (eBin o ta tb)) :=
  PT.weak (pt_cmpR ho ha hb hm) fun _ _ _ h => tTest_of (fun _ _ _ => bin_td) h
end
end PD
set_option Elab.async false
set_option linter.all false
set_option maxRecDepth 100000
set_option maxHeartbeats 4000000
namespace PySem
open Sem (wp)
open AutoSeq1 (wpAny_loadPart')
theorem meets_enumerate_newT (l : Addr) (items : Array Value) :
    Meets (Builtin.«enumerate.__new__» ⟨[.type "enumerate", .ref l], []⟩) (fun _ R s => s.heap.IsTuple l items ∧
      R (.ok (.ret (.ref (s.heap.push { cls := .type "tuple_iterator", data := .fields #[.ref l, .int 0 0] }).objs.size)))
        { s with heap := (s.heap.push { cls := .type "tuple_iterator", data := .fields #[.ref l, .int 0 0] }).push { cls := .type "enumerate", data := .fields #[.none, .bool false, .ref s.heap.objs.size, rawInt 0, .none, .none] } }) :=
  .of_wp fun prog w A R s h => by
    obtain ⟨hp, g, d, tk, os⟩ := s; obtain ⟨hL, h⟩ := h
    have hsub := sub_enumerate
    wp_walk
    refine wpAny_stack_any fun st => wpAny_pure ?_
    split
    · rename_i c _ _ _ _ _
      cases (c == Value.type "enumerate")
      · wp_walk using wpAny_pyIter_tuple hL
        exact ⟨_, rfl, h⟩
      · wp_walk using wpAny_pyIter_tuple hL
        exact ⟨_, rfl, h⟩
    · wp_walk using wpAny_pyIter_tuple hL
      exact ⟨_, rfl, h⟩
section
variable {prog : Program} {w : World} {A : Around} {E : Value → Shared → Prop} {s : Shared}
theorem call_enumerate_tup {l : Addr} {items : Array Value} {Q : Value → Shared → Prop} (hL : s.heap.IsTuple l items)
    (h : ∀ h', IsEnum h' (s.heap.objs.size + 1) s.heap.objs.size 0 .none → h'.IsTupleIter s.heap.objs.size l 0 → h'.objs.size = s.heap.objs.size + 2 →
      (∀ b o, s.heap.get? b = some o → h'.get? b = some o) → Q (.ref (s.heap.objs.size + 1)) { s with heap := h' }) :
    wpAny (model prog w) A (call (.type "enumerate") [.ref l]) Q E s := by
  refine callType_new F.called_enumerate (by decide) (F.typeCall_enumerate_1 _) (F.newCall_enumerate_1 _) (fun obj => F.args_object_init_2 obj _) F.entry_enumerate_new
    (meets_enumerate_newT l items) ⟨hL, ?_⟩
  have hz : (s.heap.push { cls := .type "tuple_iterator", data := .fields #[.ref l, .int 0 0] }).objs.size = s.heap.objs.size + 1 := Heap.size_push ..
  show _ ∧ _
  rw [hz]
  have he : IsEnum ((s.heap.push { cls := .type "tuple_iterator", data := .fields #[.ref l, .int 0 0] }).push
      { cls := .type "enumerate", data := .fields #[.none, .bool false, .ref s.heap.objs.size, rawInt 0, .none, .none] }) (s.heap.objs.size + 1) s.heap.objs.size 0 .none := by
    have := Heap.get?_push_size (s.heap.push { cls := .type "tuple_iterator", data := .fields #[.ref l, .int 0 0] })
      (o := { cls := .type "enumerate", data := .fields #[.none, .bool false, .ref s.heap.objs.size, rawInt 0, .none, .none] }) rfl
    rw [hz] at this; exact this
  refine ⟨⟨_, he, rfl⟩, h _ he ⟨_, Heap.get?_push_of_some _ (Heap.get?_push_size _ rfl), rfl, rfl⟩ (by rw [Heap.size_push, hz]) fun b o x => Heap.get?_push_of_some _ (Heap.get?_push_of_some _ x)⟩
end
end PySem
namespace LB
open PySem PySem.Spec PyProof.Rows L2
/-! ### enumerate(tuple) -/
def IteT (K : PySem.W.Frag) (a : Addr) : It :=
  ⟨fun i H => ∃ (xs : List V) (x : V), SqT K H a xs ∧ xs[i]? = some x, fun i H v H' => ∃ T x, v = .ref T ∧ H T = none ∧ H' = upd H T (.tup [.int (i : Nat), x]) ∧ ∀ xs, SqT K H a xs → xs[i]? = some x, fun i H => ∃ xs : List V, SqT K H a xs ∧ xs.length = i⟩
theorem turn_enumT {P : Program} {w : World} {K : PySem.W.Frag} {elts : List Expr} {kk : Nat} {tpos : Pos} (a e it : Addr) (hai : a ≠ it) (hae : e ≠ a) :
    Turn P w K (.Tuple elts kk tpos) (IteT K a) [e, it] e (fun i h => (∃ old, IsEnum h e it ((i : Nat) : Int) old) ∧ h.IsTupleIter it a i ∧ e ≠ it) where
  mem := by simp
  obj := fun i h st b hb => by
    obtain ⟨⟨old, he⟩, ⟨o, ho, hc, hd⟩, _⟩ := st
    have e' : b = e ∨ b = it := by simpa using hb
    rcases e' with z | z
    · rw [z]; exact ⟨_, he, fun v q => nomatch q⟩
    · rw [z]; exact ⟨o, ho, fun v q => by rw [hd] at q; cases q⟩
  keep := fun i h h' st k => let ⟨⟨old, he⟩, hi, hne⟩ := st; ⟨⟨old, k e (by simp) _ he⟩, hi.at fun o q => k it (by simp) o q, hne⟩
  item := by
    intro X hP hw hK hc i pins s σ H E I hf st hg
    subst hP hw hK
    obtain ⟨⟨old, he⟩, hit, hne⟩ := st
    obtain ⟨xs, x, hq, hx⟩ := hg
    obtain ⟨its, rv, p, hz⟩ := I.tuple hq
    obtain ⟨u, hu, ru⟩ := rv.get hx
    have hel : e < s.heap.objs.size := Heap.lt_size he
    have hil : it < s.heap.objs.size := by obtain ⟨_, q, _⟩ := hit; exact Heap.lt_size q
    have hlt : i < its.toArray.size := by
      have := lt_of_get hx
      rw [List.size_toArray, ← rv.length]
      exact this
    refine wpAny_pyNext_enum_itemD (Draws.tuple (prog := X.prog) (w := X.w) (A := X.A.in1) (I.ok.hd hc) it a hai its.toArray) he ⟨hit, p⟩ hlt hne (by simp; exact ⟨hne, hae⟩) fun x' h' tk hP ho hst hT hsz hk => ?_
    have ex : x' = u := by
      have : its.toArray[i]? = some u := by simpa using hu
      rw [this] at hP
      exact (Option.some.inj hP).symm
    subst ex
    refine ⟨_, rfl, wpAny_letOwnedTupleGo_enum (s := { s with heap := h', toks := tk + 1 }) ho fun h'' he' sb => ?_⟩
    have hT2 : h''.get? s.heap.objs.size = some { cls := .type "tuple", data := .seq #[.int i tk, x'] } := (sb.2 _ (Nat.ne_of_gt hel)).trans hT
    have new : ObjOk X.prog X.w (upd H s.heap.objs.size (.tup [.int (i : Nat), x])) h'' s.heap.objs.size (.tup [.int (i : Nat), x]) :=
      ⟨by show 2 ≤ sizeLine; decide, [.int i tk, x'], .cons ⟨_, rfl⟩ (.cons ru .nil), ⟨_, hT2, rfl, _, rfl⟩⟩
    have I1 : Inv X pins σ (upd H s.heap.objs.size (.tup [.int (i : Nat), x])) { s with heap := h'', toks := tk + 1 } :=
      I.turnedNew (ch := [e, it]) (fun b ob hb q => (sb.2 b (fun z => hb (by simp [z]))).trans (hk b ob (fun z => hb (by simp [z])) (fun z => hb (by simp [z])) q)) hf (Nat.le_refl _) new
    refine ⟨.ref s.heap.objs.size, _, I1, rfl, ⟨_, x, rfl, I.hok.fresh (Nat.le_refl _), rfl, fun ys hy => by rw [I.tuple_inj hy hq]; exact hx⟩, ⟨⟨x', ?_⟩, hst.1.at fun o q => (sb.2 it (Ne.symm hne)).trans q, hne⟩, fun b hb => ?_⟩
    · have e1 : ((i + 1 : Nat) : Int) = (i : Int) + 1 := by omega
      rw [e1]; exact he'
    · have hb' : b < s.heap.objs.size := by
        have e' : b = e ∨ b = it := by simpa using hb
        rcases e' with z | z
        · rw [z]; exact hel
        · rw [z]; exact hil
      rw [upd_ne (Nat.ne_of_lt hb')]
      exact (hf b hb).1
  done := by
    intro X hP hw hK hc i pins s σ H E I hf st hg
    subst hP hw hK
    obtain ⟨⟨old, he⟩, hit, hne⟩ := st
    obtain ⟨xs, hq, hx⟩ := hg
    obtain ⟨its, rv, p, hz⟩ := I.tuple hq
    obtain ⟨f0, f1, f2, f3, f4, f5⟩ := hf it (by simp)
    have hl : its.toArray.size = i := by rw [List.size_toArray, ← rv.length]; exact hx
    have hit' : s.heap.IsTupleIter it a its.toArray.size := by rw [hl]; exact hit
    exact wpAny_pyNext_enum_endD (Draws.tuple (prog := X.prog) (w := X.w) (A := X.A.in1) (I.ok.hd hc) it a hai its.toArray) he ⟨hit', p⟩ fun h' eb => ⟨rfl, I.turned (t' := s.toks) (fun b o hb q => eb b o hb q) f0 f1 f3 f4 f5⟩
  self := fun A i s Q E st h => let ⟨⟨_, he⟩, _⟩ := st; wpAny_pyIter_enum he h
def iEnumA (K : PySem.W.Frag) (ta : TA) : TI := fun σ H R => ta σ H fun vs H1 => ∃ a xs, vs = [.ref a] ∧ ((SqL K H1 a xs ∧ R (Ite K a) H1) ∨ (SqT K H1 a xs ∧ R (IteT K a) H1))
theorem pi_enumA {X : Cx} {e : Expr} {ta : TA} {p pos tpos : Pos} {elts : List Expr} {kk : Nat} (hg : Gl X "enumerate") (hm : X.mg "enumerate" = none) (ha : PA X [e] ta) (hs : starEach [e] X.env = [(false, eval e X.env)] := by rfl) :
    PI X (.Tuple elts kk tpos) (.Call (.Name "enumerate" p) [e] [] pos) (iEnumA X.K ta) := by
  refine ⟨fun pins s σ H R I h => ?_⟩
  refine Call_ (ld_blt I hg hm boot_enumerate (PyProof.Rows.callWith_type1 (thn (ha.run pos pins s σ H _ I h) fun us s1 ⟨vs, H1, I1, r1, q1⟩ => ?_) hs rfl))
  obtain ⟨a, xs, ex, q1⟩ := q1
  subst ex
  cases r1 with
  | cons r rr =>
    cases rr
    cases r
    rcases q1 with ⟨hq, q⟩ | ⟨hq, q⟩
    · obtain ⟨its, rv, p', hz⟩ := I1.list hq
      refine call_enumerate_list p'.isList fun h' he hit hsz hk => wpAny_pyIter_enum he ?_
      have I2 : Inv X pins σ H1 { s1 with heap := h' } := I1.kept (t' := s1.toks) hk
      refine ⟨s1.heap.objs.size + 1, [s1.heap.objs.size + 1, s1.heap.objs.size], _, _, H1, rfl, I2, turn_enum a (s1.heap.objs.size + 1) s1.heap.objs.size, ⟨⟨.none, he⟩, hit, Nat.succ_ne_self _⟩, fun b hb => ?_, q⟩
      have e' : b = s1.heap.objs.size + 1 ∨ b = s1.heap.objs.size := by simpa using hb
      have hle : s1.heap.objs.size ≤ b := by
        rcases e' with z | z
        · rw [z]; exact Nat.le_add_right _ _
        · rw [z]; exact Nat.le_refl _
      exact I1.fpOk hle (I1.hok.fresh hle)
    · obtain ⟨its, rv, p', hz⟩ := I1.tuple hq
      have hal : a < s1.heap.objs.size := p'.lt
      refine call_enumerate_tup p' fun h' he hit hsz hk => wpAny_pyIter_enum he ?_
      have I2 : Inv X pins σ H1 { s1 with heap := h' } := I1.kept (t' := s1.toks) hk
      refine ⟨s1.heap.objs.size + 1, [s1.heap.objs.size + 1, s1.heap.objs.size], _, _, H1, rfl, I2, turn_enumT a (s1.heap.objs.size + 1) s1.heap.objs.size (Nat.ne_of_lt hal) (Nat.ne_of_gt (Nat.lt_succ_of_lt hal)), ⟨⟨.none, he⟩, hit, Nat.succ_ne_self _⟩, fun b hb => ?_, q⟩
      have e' : b = s1.heap.objs.size + 1 ∨ b = s1.heap.objs.size := by simpa using hb
      have hle : s1.heap.objs.size ≤ b := by
        rcases e' with z | z
        · rw [z]; exact Nat.le_add_right _ _
        · rw [z]; exact Nat.le_refl _
      exact I1.fpOk hle (I1.hok.fresh hle)
theorem walk_enumT {K : PySem.W.Frag} {a : Addr} {xs : List V} : Walk (IteT K a) xs.length (fun H => SqT K H a xs) (YPair (fun i => some (.int (i : Nat))) (fun i => xs[i]?)) := by
  refine ⟨fun i _ hi q => ⟨xs, xs[i], q, by simp [hi]⟩, fun _ q => ⟨xs, q, rfl⟩, fun i H v H' _ q y => ?_⟩
  obtain ⟨T, x, h1, h2, h3, h4⟩ := y
  exact ⟨T, .int (i : Nat), x, h1, h2, h3, rfl, h4 xs q⟩
end LB
set_option Elab.async false
set_option linter.all false
set_option autoImplicit false
set_option maxRecDepth 100000
set_option maxHeartbeats 4000000
namespace PD
open PySem PySem.Spec PyProof.Rows L2
/-! ### statements -/
structure EndsD where
  nx : Env → Mu → Prop
  rt : QD := fun _ _ => False
  bk : Env → Mu → Prop := fun _ _ => False
  ct : Env → Mu → Prop := fun _ _ => False
abbrev TDS := EndsD → XE → Env → Mu → Prop
def PN (W : Wo) (hid : Hid) (H : Hp) (μ : Mu) (Nd : Env → Mu → Prop) (N : L2.St → Hp → Prop) : Prop := ∀ σ' ρ' H' μ', St H μ H' μ' → SR W hid H' μ' → Rel W hid H' μ' σ' ρ' → Nd ρ' μ' → N σ' H'
def PXs (W : Wo) (hid : Hid) (H : Hp) (μ : Mu) (Xd : XE) (Wk : WX) : Prop := ∀ x cls dd σ' ρ' H' μ', St H μ H' μ' → SR W hid H' μ' → Rel W hid H' μ' σ' ρ' → XRep W hid H' μ' x cls dd → Xd x ρ' μ' → Wk cls dd σ' H'
structure PEnds (W : Wo) (hid : Hid) (H : Hp) (μ : Mu) (Dd : EndsD) (E : Ends) : Prop where
  nx : PN W hid H μ Dd.nx E.nx
  rt : PQ W hid H μ Dd.rt E.rt
  bk : PN W hid H μ Dd.bk E.bk
  ct : PN W hid H μ Dd.ct E.ct
def TDs (W : Wo) (Wk : WX) (ts : TDS) : TS := fun E σ H => ∃ hid ρ μ Xd Dd, Rel W hid H μ σ ρ ∧ SR W hid H μ ∧ ts Dd Xd ρ μ ∧ PEnds W hid H μ Dd E ∧ PXs W hid H μ Xd Wk
abbrev BS (X : Cx) (W : Wo) (Wk : WX) (st : Stmt) (t : TDS) : Prop := PS X st (TDs W Wk t)
abbrev BSs (X : Cx) (W : Wo) (Wk : WX) (sts : List Stmt) (t : TDS) : Prop := PSs X sts (TDs W Wk t)
theorem PS.weak {X : Cx} {e : Stmt} {t t' : TS} (h : PS X e t) (k : ∀ E σ H, t' E σ H → t E σ H) : PS X e t' := ⟨fun pins s σ H E I q => h.run pins s σ H E I (k E σ H q)⟩
theorem PSs.weak {X : Cx} {e : List Stmt} {t t' : TS} (h : PSs X e t) (k : ∀ E σ H, t' E σ H → t E σ H) : PSs X e t' := ⟨fun pins s σ H E I q => h.run pins s σ H E I (k E σ H q)⟩
section
variable {W : Wo} {hid : Hid} {H H1 : Hp} {μ μ1 : Mu}
theorem PN.st {Nd : Env → Mu → Prop} {N : L2.St → Hp → Prop} (p : PN W hid H μ Nd N) (s : St H μ H1 μ1) : PN W hid H1 μ1 Nd N := fun σ ρ H' μ' s' => p σ ρ H' μ' (s.trans s')
theorem PXs.st {Xd : XE} {Wk : WX} (p : PXs W hid H μ Xd Wk) (s : St H μ H1 μ1) : PXs W hid H1 μ1 Xd Wk := fun x c d σ ρ H' μ' s' => p x c d σ ρ H' μ' (s.trans s')
theorem PXs.at_ {Xd : XE} {Wk : WX} {σ : L2.St} {ρ : Env} (p : PXs W hid H μ Xd Wk) (rel : Rel W hid H μ σ ρ) : PX W hid H μ σ ρ Xd Wk := fun x c d H' μ' s' sr r q => p x c d σ ρ H' μ' s' sr (rel_mono s'.ok rel) r q
theorem PEnds.st {Dd : EndsD} {E : Ends} (p : PEnds W hid H μ Dd E) (s : St H μ H1 μ1) : PEnds W hid H1 μ1 Dd E := ⟨p.nx.st s, p.rt.st s, p.bk.st s, p.ct.st s⟩
end
section
variable {X : Cx} {W : Wo} {Wk : WX}
def sNil : TDS := fun E _ ρ μ => E.nx ρ μ
def sSeq (t u : TDS) : TDS := fun E Xd ρ μ => t { E with nx := fun ρ' μ' => u E Xd ρ' μ' } Xd ρ μ
theorem bss_nil : BSs X W Wk [] sNil := PSs.weak pss_nil fun E σ H ⟨hid, ρ, μ, Xd, Dd, rel, sr, q, pe, px⟩ => pe.nx σ ρ H μ .refl sr rel q
theorem bss_one {st : Stmt} {t : TDS} (h : BS X W Wk st t) : BSs X W Wk [st] t := pss_one h
theorem bss_cons {st : Stmt} {rest : List Stmt} {t u : TDS} (h : BS X W Wk st t) (k : BSs X W Wk rest u) : BSs X W Wk (st :: rest) (sSeq t u) := PSs.weak (pss_cons h k) fun E σ H ⟨hid, ρ, μ, Xd, Dd, rel, sr, q, pe, px⟩ =>
  ⟨hid, ρ, μ, Xd, _, rel, sr, q, ⟨fun σ' ρ' H' μ' s' sr' rel' q' => ⟨hid, ρ', μ', Xd, Dd, rel', sr', q', pe.st s', px.st s'⟩, pe.rt, pe.bk, pe.ct⟩, px⟩
/-- the ways meet: M is what holds there -/
def sCut (t u : TDS) : TDS := fun E Xd ρ μ => ∃ M : PD.Env → Mu → Prop, t { E with nx := M } Xd ρ μ ∧ ∀ ρ' μ', M ρ' μ' → u E Xd ρ' μ'
theorem bss_cut {st : Stmt} {rest : List Stmt} {t u : TDS} (h : BS X W Wk st t) (k : BSs X W Wk rest u) : BSs X W Wk (st :: rest) (sCut t u) := PSs.weak (pss_cons h k) fun E σ H ⟨hid, ρ, μ, Xd, Dd, rel, sr, ⟨M, q, q2⟩, pe, px⟩ =>
  ⟨hid, ρ, μ, Xd, _, rel, sr, q, ⟨fun σ' ρ' H' μ' s' sr' rel' m => ⟨hid, ρ', μ', Xd, Dd, rel', sr', q2 ρ' μ' m, pe.st s', px.st s'⟩, pe.rt, pe.bk, pe.ct⟩, px⟩
theorem bs_pass {pos : Pos} : BS X W Wk (.Pass pos) sNil := PS.weak ps_pass fun E σ H ⟨hid, ρ, μ, Xd, Dd, rel, sr, q, pe, px⟩ => pe.nx σ ρ H μ .refl sr rel q
def sBrk : TDS := fun E _ ρ μ => E.bk ρ μ
def sCnt : TDS := fun E _ ρ μ => E.ct ρ μ
theorem bs_break {pos : Pos} : BS X W Wk (.Break pos) sBrk := PS.weak ps_break fun E σ H ⟨hid, ρ, μ, Xd, Dd, rel, sr, q, pe, px⟩ => pe.bk σ ρ H μ .refl sr rel q
theorem bs_continue {pos : Pos} : BS X W Wk (.Continue pos) sCnt := PS.weak ps_continue fun E σ H ⟨hid, ρ, μ, Xd, Dd, rel, sr, q, pe, px⟩ => pe.ct σ ρ H μ .refl sr rel q
theorem bs_doc {x j pos pos'} : BS X W Wk (.Expr (.Constant (.str x) j pos) pos') sNil := PS.weak ps_doc fun E σ H ⟨hid, ρ, μ, Xd, Dd, rel, sr, q, pe, px⟩ => pe.nx σ ρ H μ .refl sr rel q
def sExpr (te : TDE) : TDS := fun E Xd ρ μ => te Xd ρ μ fun _ μ1 => E.nx ρ μ1
theorem bs_expr {e : Expr} {te : TDE} {pos : Pos} (he : BE X W Wk e te) (hs : swapsWith e none pos.line X.env = pure false := by rfl) : BS X W Wk (.Expr e pos) (sExpr te) := PS.weak (ps_expr he hs) fun E σ H ⟨hid, ρ, μ, Xd, Dd, rel, sr, q, pe, px⟩ =>
  ⟨hid, ρ, μ, Xd, _, rel, sr, q, fun v d H1 μ1 s1 sr1 r1 q1 => pe.nx σ ρ H1 μ1 s1 sr1 (rel_mono s1.ok rel) q1, px.at_ rel⟩
def sRet (te : TDE) : TDS := fun E Xd ρ μ => te Xd ρ μ E.rt
theorem bs_ret {e : Expr} {te : TDE} {pos : Pos} (he : BE X W Wk e te) : BS X W Wk (.Return (some e) pos) (sRet te) := PS.weak (ps_ret he) fun E σ H ⟨hid, ρ, μ, Xd, Dd, rel, sr, q, pe, px⟩ =>
  ⟨hid, ρ, μ, Xd, _, rel, sr, q, fun v d H1 μ1 s1 sr1 r1 q1 => pe.rt v d H1 μ1 s1 sr1 r1 q1, px.at_ rel⟩
def sRetN : TDS := fun E _ _ μ => E.rt .non μ
theorem bs_retN {pos : Pos} : BS X W Wk (.Return none pos) sRetN := PS.weak ps_retN fun E σ H ⟨hid, ρ, μ, Xd, Dd, rel, sr, q, pe, px⟩ => pe.rt .non .non H μ .refl sr .non q
def sIf (c : TDT) (t u : TDS) : TDS := fun E Xd ρ μ => c Xd ρ μ fun b μ1 => dIf b (t E Xd ρ μ1) (u E Xd ρ μ1)
theorem bs_if {c : Expr} {a b : List Stmt} {tc : TDT} {t u : TDS} {pos : Pos} (hc : BT X W Wk c tc) (ha : BSs X W Wk a t) (hb : BSs X W Wk b u) : BS X W Wk (.If c a b pos) (sIf tc t u) := PS.weak (ps_if hc ha hb) fun E σ H ⟨hid, ρ, μ, Xd, Dd, rel, sr, q, pe, px⟩ =>
  ⟨hid, ρ, μ, Xd, _, rel, sr, q, fun b H1 μ1 s1 sr1 q1 => by
    cases b with
    | true => exact ⟨hid, ρ, μ1, Xd, Dd, rel_mono s1.ok rel, sr1, (dIf_tt q1), pe.st s1, px.st s1⟩
    | false => exact ⟨hid, ρ, μ1, Xd, Dd, rel_mono s1.ok rel, sr1, (dIf_ff q1), pe.st s1, px.st s1⟩, px.at_ rel⟩
/-! ### targets -/
abbrev TDG := D → XE → Env → Mu → (Env → Mu → Prop) → Prop
abbrev TDGs := List D → XE → Env → Mu → (Env → Mu → Prop) → Prop
def TDg (W : Wo) (Wk : WX) (g : TDG) : TG := fun v σ H Q => ∃ hid ρ μ Xd d Nd, Rel W hid H μ σ ρ ∧ SR W hid H μ ∧ Rep W hid H μ v d ∧ g d Xd ρ μ Nd ∧ PN W hid H μ Nd Q ∧ PXs W hid H μ Xd Wk
def TDgs (W : Wo) (Wk : WX) (g : TDGs) : TGs := fun vs σ H Q => ∃ hid ρ μ Xd ds Nd, Rel W hid H μ σ ρ ∧ SR W hid H μ ∧ Reps W hid H μ vs ds ∧ g ds Xd ρ μ Nd ∧ PN W hid H μ Nd Q ∧ PXs W hid H μ Xd Wk
abbrev BG (X : Cx) (W : Wo) (Wk : WX) (t : Expr) (g : TDG) : Prop := PG X t (TDg W Wk g)
abbrev BGs (X : Cx) (W : Wo) (Wk : WX) (t : List Expr) (g : TDGs) : Prop := PGs X t (TDgs W Wk g)
theorem PG.weak {e : Expr} {t t' : TG} (h : PG X e t) (k : ∀ v σ H Q, t' v σ H Q → t v σ H Q) : PG X e t' := ⟨fun pins s σ H v u Q I r q => h.run pins s σ H v u Q I r (k v σ H Q q)⟩
theorem PGs.weak {e : List Expr} {t t' : TGs} (h : PGs X e t) (k : ∀ v σ H Q, t' v σ H Q → t v σ H Q) : PGs X e t' := ⟨fun pins s σ H v u Q I r q => h.run pins s σ H v u Q I r (k v σ H Q q)⟩
theorem PG.or {e : Expr} {t t' : TG} (h : PG X e t) (h' : PG X e t') : PG X e (fun v σ H Q => t v σ H Q ∨ t' v σ H Q) := ⟨fun pins s σ H v u Q I r q => q.elim (h.run pins s σ H v u Q I r) (h'.run pins s σ H v u Q I r)⟩
def gN (i : Nat) : TDG := fun d _ ρ μ Q => Q (ρ.set i (some d)) μ
theorem bg_name {i : Nat} {x : Str} {pos : Pos} (hN : X.N.Nodup) (hi : X.N[i]? = some x) (hx : Loc X.env.scope x) (hf : X.fn x = true ∨ X.env.scope.names.lookup x = some .local := by first | exact .inl rfl | exact .inr rfl | assumption) : BG X W Wk (.Name x pos) (gN i) :=
  PG.weak (pg_name hN hi hx hf) fun v σ H Q ⟨hid, ρ, μ, Xd, d, Nd, rel, sr, r, q, pn, px⟩ => pn _ _ H μ .refl sr (rel_set (.some r) i rel) q
def gNi : TDGs := fun ds _ ρ μ Q => match ds with | [] => Q ρ μ | _ => False
def gCo (t : TDG) (u : TDGs) : TDGs := fun ds Xd ρ μ Q => match ds with | d :: r => t d Xd ρ μ fun ρ' μ' => u r Xd ρ' μ' Q | [] => False
theorem bgs_nil : BGs X W Wk [] gNi := PGs.weak pgs_nil fun v σ H Q ⟨hid, ρ, μ, Xd, ds, Nd, rel, sr, r, q, pn, px⟩ => by
  cases r with
  | nil => exact ⟨rfl, pn _ _ H μ .refl sr rel q⟩
  | cons _ _ => exact q.elim
theorem bgs_cons {e : Expr} {es : List Expr} {t : TDG} {u : TDGs} (h : BG X W Wk e t) (k : BGs X W Wk es u) (hs : (assignEach (e :: es) X.env).map (·.2) = assign e X.env :: (assignEach es X.env).map (·.2) := by rfl) : BGs X W Wk (e :: es) (gCo t u) :=
  PGs.weak (pgs_cons h k hs) fun v σ H Q ⟨hid, ρ, μ, Xd, ds, Nd, rel, sr, r, q, pn, px⟩ => by
    cases r with
    | nil => exact q.elim
    | cons r1 rr =>
      refine ⟨_, _, rfl, hid, ρ, μ, Xd, _, _, rel, sr, r1, q, fun σ' ρ' H' μ' s' sr' rel' q' => ?_, px⟩
      exact ⟨hid, ρ', μ', Xd, _, Nd, rel', sr', rr.mono s'.ok, q', pn.st s', px.st s'⟩
def gTu (n : Nat) (u : TDGs) : TDG := fun d Xd ρ μ Q => match seqOf d μ with | some xs => xs.length = n ∧ u xs Xd ρ μ Q | none => False
theorem bg_tup {es : List Expr} {k : Nat} {u : TDGs} {n : Nat} {pos : Pos} (C : TW X.K X.w W) (hc : X.calm = true) (h : BGs X W Wk es u) (hn : (assignEach es X.env).length = n := by rfl) (hst : (assignEach es X.env).findIdx? (·.1) = none := by rfl) : BG X W Wk (.Tuple es k pos) (gTu n u) :=
  PG.weak (PG.or (pg_tup hc h hn hst) (pg_unl hc h hn hst)) fun v σ H Q ⟨hid, ρ, μ, Xd, d, Nd, rel, sr, r, q, pn, px⟩ => by
    unfold gTu at q
    split at q
    · rename_i xs es
      obtain ⟨a, vs, rfl, hs, rs⟩ := seqOf_ok es sr r
      rw [← C.hK] at hs
      rcases hs with hs | hs
      · exact .inr ⟨a, vs, rfl, hs, by rw [rs.length]; exact q.1, hid, ρ, μ, Xd, xs, Nd, rel, sr, rs, q.2, pn, px⟩
      · exact .inl ⟨a, vs, rfl, hs, by rw [rs.length]; exact q.1, hid, ρ, μ, Xd, xs, Nd, rel, sr, rs, q.2, pn, px⟩
    · exact q.elim
/-! ### stores -/
/-- o[i] = v -/
def oSet (d e v : D) (μ : Mu) (N : Mu → Prop) : Prop := match d with
  | .ptr a => match μ a with
    | some (.lst xs) => (match e with | .int i => (match ixN xs.length i with | some j => N (μ.set a (.lst (xs.set j v))) | none => False) | _ => False)
    | some (.dic kvs) => (match keyOf e with | some k => kvs.length < sizeLine ∧ N (μ.set a (.dic (putD kvs k v))) | none => False)
    | _ => False
  | _ => False
theorem repK_len {hid : Hid} {H : Hp} {μ : Mu} : ∀ {es : List (Key × V)} {kvs : List (Key × D)}, RepK W hid H μ es kvs → es.length = kvs.length
  | _, _, .nil => rfl
  | _, _, .cons _ r => by rw [List.length_cons, List.length_cons, repK_len r]
theorem repK_any {hid : Hid} {H : Hp} {μ : Mu} {k : Key} : ∀ {es : List (Key × V)} {kvs : List (Key × D)}, RepK W hid H μ es kvs → (es.any fun kv => decide (kv.1 = k)) = kvs.any fun kv => decide (kv.1 = k)
  | _, _, .nil => rfl
  | _, _, .cons _ r => by rw [List.any_cons, List.any_cons, repK_any r]
theorem repK_map {hid : Hid} {H : Hp} {μ : Mu} {k : Key} {v : V} {d : D} (h : Rep W hid H μ v d) : ∀ {es : List (Key × V)} {kvs : List (Key × D)}, RepK W hid H μ es kvs → RepK W hid H μ (es.map fun kv => if kv.1 = k then (kv.1, v) else kv) (kvs.map fun kv => if kv.1 = k then (kv.1, d) else kv)
  | _, _, .nil => .nil
  | _, _, .cons (k := j) h1 r => by
    rw [List.map_cons, List.map_cons]
    by_cases e : j = k
    · rw [if_pos e, if_pos e]
      exact .cons h (repK_map h r)
    · rw [if_neg e, if_neg e]
      exact .cons h1 (repK_map h r)
theorem repK_app {hid : Hid} {H : Hp} {μ : Mu} {k : Key} {v : V} {d : D} (h : Rep W hid H μ v d) : ∀ {es : List (Key × V)} {kvs : List (Key × D)}, RepK W hid H μ es kvs → RepK W hid H μ (es ++ [(k, v)]) (kvs ++ [(k, d)])
  | _, _, .nil => .cons h .nil
  | _, _, .cons h1 r => .cons h1 (repK_app h r)
end
end PD
set_option Elab.async false
set_option linter.all false
set_option autoImplicit false
set_option maxRecDepth 100000
set_option maxHeartbeats 4000000
namespace PD
open PySem PySem.Spec PyProof.Rows L2
section
variable {X : Cx} {W : Wo} {Wk : WX}
theorem putD_ok {hid : Hid} {H : Hp} {μ : Mu} {k : Key} {v : V} {d : D} {es : List (Key × V)} {kvs : List (Key × D)} (r : RepK W hid H μ es kvs) (h : Rep W hid H μ v d) : RepK W hid H μ (putK es k v) (putD kvs k d) := by
  unfold putK putD
  rw [repK_any r]
  split
  · exact repK_map h r
  · exact repK_app h r
def rSetD (W : Wo) : V → V → V → Hp → (Hp → Prop) → Prop := fun o i v H Q => ∃ hid μ d e z Nd, SR W hid H μ ∧ Rep W hid H μ o d ∧ Rep W hid H μ i e ∧ Rep W hid H μ v z ∧ oSet d e z μ Nd ∧ ∀ H' μ', St H μ H' μ' → SR W hid H' μ' → Nd μ' → Q H'
theorem set_ok (hu : X.A.units + 1 < cLine) : PSet X (rSetD W) := by
  intro pins s σ H o i v ov iv u Q I ro ri rv ⟨hid, μ, d, e, z, Nd, sr, r1, r2, r3, h, k⟩
  unfold oSet at h
  split at h
  · rename_i a
    cases r1
    split at h
    · rename_i xs hm
      obtain ⟨vs, ha, q⟩ := (sr.at_ a _ hm).2
      split at h
      · cases r2
        split at h
        · rename_i i j hj
          have hp : MO.plain (.lst (xs.set j z)) := True.intro
          refine set_list pins s σ H _ _ v ov iv u Q I ro ri rv ⟨a, vs, _, j, rfl, rfl, ha, by rw [q.length]; exact hj, ?_⟩
          exact k _ _ (St.put hm hp) (sr.put hm hp ⟨_, upd_same, ((q.set r3 j).mono (St.put hm hp).ok)⟩) h
        · exact h.elim
      · exact h.elim
    · rename_i kvs hm
      obtain ⟨es, ha, q⟩ := (sr.at_ a _ hm).2
      split at h
      · rename_i kk hk
        obtain rfl := keyOf_ok r2 hk
        cases ro
        have hp : MO.plain (.dic (putD kvs kk z)) := True.intro
        refine d_setItem hu I (DPut.k (k := kk) (v := v) ha (by rw [repK_len q]; exact h.1)) ri rv fun s' I' => ⟨_, I', ?_⟩
        exact k _ _ (St.put hm hp) (sr.put hm hp ⟨_, upd_same, (putD_ok q r3).mono (St.put hm hp).ok⟩) h.2
      · exact h.elim
    · exact h.elim
  · exact h.elim
def gSu (to ti : TDE) : TDG := fun v Xd ρ μ Q => to Xd ρ μ fun d μ1 => ti Xd ρ μ1 fun e μ2 => oSet d e v μ2 fun μ3 => Q ρ μ3
theorem bg_sub {o i : Expr} {to ti : TDE} {pos : Pos} (hu : X.A.units + 1 < cLine) (ho : BE X W Wk o to) (hi : BE X W Wk i ti)
    (ha : ∀ v, assign (.Subscript o i pos) X.env v = (do
      let ov ← holding [v] (eval o X.env)
      let iv ← holding [v, ov] (eval i X.env)
      standAt pos
      holding [v, ov, iv] (setItem ov iv v)
      release [v, ov, iv] []) := by intro _; rfl) : BG X W Wk (.Subscript o i pos) (gSu to ti) :=
  PG.weak (pg_sub ho hi (set_ok (W := W) hu) ha) fun v σ H Q ⟨hid, ρ, μ, Xd, d, Nd, rel, sr, r, q, pn, px⟩ => by
    refine ⟨hid, ρ, μ, Xd, _, rel, sr, q, fun v1 d1 H1 μ1 s1 sr1 r1 q1 => ?_, px.at_ rel⟩
    refine ⟨hid, ρ, μ1, Xd, _, rel_mono s1.ok rel, sr1, q1, fun v2 d2 H2 μ2 s2 sr2 r2 q2 => ?_, (px.st s1).at_ (rel_mono s1.ok rel)⟩
    have s12 := s1.trans s2
    refine ⟨hid, μ2, d1, d2, d, _, sr2, r1.mono s2.ok, r2, r.mono s12.ok, q2, fun H3 μ3 s3 sr3 q3 => ?_⟩
    exact pn σ ρ H3 μ3 (s12.trans s3) sr3 (rel_mono (s12.trans s3).ok rel) q3
/-! ### assignments -/
def sAsg (te : TDE) (g : TDG) : TDS := fun E Xd ρ μ => te Xd ρ μ fun d μ1 => g d Xd ρ μ1 E.nx
theorem asg_td {te : TDE} {g : TDG} {E : Ends} {σ : L2.St} {H : Hp} (h : TDs W Wk (sAsg te g) E σ H) : tAsg (TD W Wk te) (TDg W Wk g) E σ H := by
  obtain ⟨hid, ρ, μ, Xd, Dd, rel, sr, q, pe, px⟩ := h
  exact ⟨hid, ρ, μ, Xd, _, rel, sr, q, fun v d H1 μ1 s1 sr1 r1 q1 => ⟨hid, ρ, μ1, Xd, d, Dd.nx, rel_mono s1.ok rel, sr1, r1, q1, pe.nx.st s1, px.st s1⟩, px.at_ rel⟩
theorem bs_asg {tg e : Expr} {te : TDE} {g : TDG} {pos : Pos} (he : BE X W Wk e te) (hg : BG X W Wk tg g) (hs : swapsWithSole [tg] e pos.line X.env = pure false := by rfl) (hw : swappedStores [tg] e X.env = pure none := by rfl)
    (h1 : (assignEach [tg] X.env).map (·.2) = [assign tg X.env] := by rfl) : BS X W Wk (.Assign [tg] e pos) (sAsg te g) := PS.weak (ps_asg he hg hs hw h1) fun _ _ _ h => asg_td h
theorem bs_set {i : Nat} {x : Str} {e : Expr} {te : TDE} {pos pos' : Pos} (hN : X.N.Nodup) (hi : X.N[i]? = some x) (hx : Loc X.env.scope x) (he : BE X W Wk e te) (hs : swapsWith e (some (.Name x pos')) pos.line X.env = pure false := by rfl) (hf : X.fn x = true ∨ X.env.scope.names.lookup x = some .local := by first | exact .inl rfl | exact .inr rfl | assumption) :
    BS X W Wk (.Assign [.Name x pos'] e pos) (sAsg te (gN i)) := PS.weak (ps_set hN hi hx he hs hf) fun E σ H ⟨hid, ρ, μ, Xd, Dd, rel, sr, q, pe, px⟩ =>
  ⟨hid, ρ, μ, Xd, _, rel, sr, q, fun v d H1 μ1 s1 sr1 r1 q1 => pe.nx _ _ H1 μ1 s1 sr1 (rel_set (.some r1) i (rel_mono s1.ok rel)) q1, px.at_ rel⟩
def sPar (i j : Nat) (ta : TDA) : TDS := fun E Xd ρ μ => ta Xd ρ μ fun ds μ1 => match ds with | [a, b] => E.nx ((ρ.set i (some a)).set j (some b)) μ1 | _ => False
theorem bs_par {i j : Nat} {x y : Str} {a b : Expr} {ta : TDA} {px py pt pos : Pos} {kt k2 pt2} (hc : X.calm = true) (hN : X.N.Nodup) (hi : X.N[i]? = some x) (hj : X.N[j]? = some y) (hij : i ≠ j)
    (hx : X.env.scope.names.lookup x = some .local) (hy : X.env.scope.names.lookup y = some .local) (ha : BA X W Wk [a, b] ta) (h : PS X (.Assign [.Tuple [.Name x px, .Name y py] kt pt] (.Tuple [a, b] k2 pt2) pos) (tPar i j (TDa W Wk ta))) :
    BS X W Wk (.Assign [.Tuple [.Name x px, .Name y py] kt pt] (.Tuple [a, b] k2 pt2) pos) (sPar i j ta) := PS.weak h fun E σ H ⟨hid, ρ, μ, Xd, Dd, rel, sr, q, pe, px⟩ => by
  refine ⟨hid, ρ, μ, Xd, _, rel, sr, q, fun vs ds H1 μ1 s1 sr1 r1 q1 => ?_, px.at_ rel⟩
  dsimp only at q1
  split at q1
  · cases r1 with
    | cons ra rr =>
      cases rr with
      | cons rb rr =>
        cases rr
        exact ⟨_, _, rfl, pe.nx _ _ H1 μ1 s1 sr1 (rel_set (.some rb) j (rel_set (.some ra) i (rel_mono s1.ok rel))) q1⟩
  · exact q1.elim
def sPar3 (i j l : Nat) (ta : TDA) : TDS := fun E Xd ρ μ => ta Xd ρ μ fun ds μ1 => match ds with | [a, b, c] => E.nx (((ρ.set i (some a)).set j (some b)).set l (some c)) μ1 | _ => False
theorem par3_td {i j l : Nat} {ta : TDA} {E : Ends} {σ : L2.St} {H : Hp} (h : TDs W Wk (sPar3 i j l ta) E σ H) : tPar3 i j l (TDa W Wk ta) E σ H := by
  obtain ⟨hid, ρ, μ, Xd, Dd, rel, sr, q, pe, px⟩ := h
  refine ⟨hid, ρ, μ, Xd, _, rel, sr, q, fun vs ds H1 μ1 s1 sr1 r1 q1 => ?_, px.at_ rel⟩
  dsimp only at q1
  split at q1
  · cases r1 with
    | cons ra rr =>
      cases rr with
      | cons rb rr =>
        cases rr with
        | cons rc rr =>
          cases rr
          exact ⟨_, _, _, rfl, pe.nx _ _ H1 μ1 s1 sr1 (rel_set (.some rc) l (rel_set (.some rb) j (rel_set (.some ra) i (rel_mono s1.ok rel)))) q1⟩
  · exact q1.elim
/-- x op= e, ints -/
def sAug (i : Nat) (te : TDE) (g : Int → Int → Int) : TDS := fun E Xd ρ μ => match ρ[i]? with
  | some (some (.int a)) => te Xd ρ μ fun d μ1 => (match d with | .int b => E.nx (ρ.set i (some (.int (g a b)))) μ1 | _ => False)
  | _ => False
theorem aug_td {i : Nat} {te : TDE} {g : Int → Int → Int} {E : Ends} {σ : L2.St} {H : Hp} (h : TDs W Wk (sAug i te g) E σ H) : tAug i (TD W Wk te) (ipI g) E σ H := by
  obtain ⟨hid, ρ, μ, Xd, Dd, rel, sr, q, pe, px⟩ := h
  unfold sAug at q
  split at q
  · rename_i a ha
    obtain ⟨v, hv, r⟩ := rel_get rel ha
    cases r
    refine ⟨_, hv, hid, ρ, μ, Xd, _, rel, sr, q, fun v d H1 μ1 s1 sr1 r1 q1 => ?_, px.at_ rel⟩
    dsimp only at q1
    split at q1
    · cases r1
      exact ⟨_, _, rfl, rfl, pe.nx _ _ H1 μ1 s1 sr1 (rel_set (.some (.int _)) i (rel_mono s1.ok rel)) q1⟩
    · exact q1.elim
  · exact q.elim
theorem bs_augadd {i : Nat} {x : Str} {e : Expr} {te : TDE} {pos pos' : Pos} (hN : X.N.Nodup) (hi : X.N[i]? = some x) (hx : Loc X.env.scope x) (he : BE X W Wk e te) (hf : X.fn x = true ∨ X.env.scope.names.lookup x = some .local := by first | exact .inl rfl | exact .inr rfl | assumption) :
    BS X W Wk (.AugAssign (.Name x pos') .Add e pos) (sAug i te fun a b => a + b) := PS.weak (ps_aug hN hi hx he ip_add hf) fun _ _ _ h => aug_td h
theorem bs_augsub {i : Nat} {x : Str} {e : Expr} {te : TDE} {pos pos' : Pos} (hN : X.N.Nodup) (hi : X.N[i]? = some x) (hx : Loc X.env.scope x) (he : BE X W Wk e te) (hf : X.fn x = true ∨ X.env.scope.names.lookup x = some .local := by first | exact .inl rfl | exact .inr rfl | assumption) :
    BS X W Wk (.AugAssign (.Name x pos') .Sub e pos) (sAug i te fun a b => a - b) := PS.weak (ps_aug hN hi hx he ip_sub hf) fun _ _ _ h => aug_td h
/-! ### while -/
def sWhileN (c : TDT) (b : TDS) : Nat → TDS
  | 0 => fun _ _ _ _ => False
  | n + 1 => fun E Xd ρ μ => c Xd ρ μ fun t μ1 => dIf t (b { E with nx := sWhileN c b n E Xd, ct := sWhileN c b n E Xd, bk := E.nx } Xd ρ μ1) (E.nx ρ μ1)
def sWhile (c : TDT) (b : TDS) : TDS := fun E Xd ρ μ => ∃ n, sWhileN c b n E Xd ρ μ
theorem while_td {c : TDT} {b : TDS} {E : Ends} {σ : L2.St} {H : Hp} (h : TDs W Wk (sWhile c b) E σ H) : tWhile (TDt W Wk c) (TDs W Wk b) E σ H := by
  obtain ⟨hid, ρ, μ, Xd, Dd, rel, sr, ⟨n, q⟩, pe, px⟩ := h
  refine ⟨fun m σ' H' => ∃ ρ' μ', Rel W hid H' μ' σ' ρ' ∧ SR W hid H' μ' ∧ St H μ H' μ' ∧ sWhileN c b m Dd Xd ρ' μ', ⟨n, ρ, μ, rel, sr, .refl, q⟩, ?_⟩
  rintro m σ1 H1 ⟨ρ1, μ1, rel1, sr1, s1, q1⟩
  cases m with
  | zero => exact q1.elim
  | succ m =>
    refine ⟨hid, ρ1, μ1, Xd, _, rel1, sr1, q1, fun t H2 μ2 s2 sr2 q2 => ?_, (px.st s1).at_ rel1⟩
    have s12 := s1.trans s2
    have rel2 := rel_mono s2.ok rel1
    cases t with
    | false => exact pe.nx σ1 ρ1 H2 μ2 s12 sr2 rel2 (dIf_ff q2)
    | true =>
      refine ⟨fun σ' H' => ∃ ρ' μ', Rel W hid H' μ' σ' ρ' ∧ SR W hid H' μ' ∧ St H μ H' μ' ∧ sWhileN c b m Dd Xd ρ' μ', fun σ' H' z => ⟨m, Nat.lt_succ_self _, z⟩, ?_⟩
      refine ⟨hid, ρ1, μ2, Xd, _, rel2, sr2, (dIf_tt q2), ⟨?_, pe.rt.st s12, pe.nx.st s12, ?_⟩, px.st s12⟩
      · exact fun σ' ρ' H' μ' s' sr' rel' q' => ⟨ρ', μ', rel', sr', s12.trans s', q'⟩
      · exact fun σ' ρ' H' μ' s' sr' rel' q' => ⟨ρ', μ', rel', sr', s12.trans s', q'⟩
theorem bs_while {c : Expr} {body : List Stmt} {tc : TDT} {tb : TDS} {pos : Pos} (hp : PassesOwn (model X.prog X.w) X.A X.env X.xe) (hc : BT X W Wk c tc) (hb : BSs X W Wk body tb) : BS X W Wk (.While c body [] pos) (sWhile tc tb) := PS.weak (ps_while hp hc hb) fun _ _ _ h => while_td h
end
end PD
set_option Elab.async false
set_option linter.all false
set_option autoImplicit false
set_option maxRecDepth 100000
set_option maxHeartbeats 4000000
namespace PD
open PySem PySem.Spec PyProof.Rows L2
/-! ### what is walked -/
/-- lists of the store that are walked: they must stay as they are -/
abbrev Cks := List (Addr × List D)
def CK (o : Cks) (μ : Mu) : Prop := ∀ p ∈ o, lstOf (.ptr p.1) μ = some p.2
def chk (o : Cks) (μ : Mu) (P : Prop) : Prop := match o with
  | [] => P
  | o => CK o μ ∧ P
theorem chk_ck {o : Cks} {μ : Mu} {P : Prop} (h : chk o μ P) : CK o μ := by
  cases o with
  | nil => exact fun p hp => by cases hp
  | cons _ _ => exact h.1
theorem chk_p {o : Cks} {μ : Mu} {P : Prop} (h : chk o μ P) : P := by
  cases o with
  | nil => exact h
  | cons _ _ => exact h.2
structure WalkD (W : Wo) (hid : Hid) (H1 : Hp) (μ1 : Mu) (J : It) (o : Cks) (ds : List D) : Prop where
  goes : ∀ hid' i H μ, i < ds.length → Ok hid H1 μ1 hid' H μ → SR W hid' H μ → CK o μ → J.go i H
  stops : ∀ hid' H μ, Ok hid H1 μ1 hid' H μ → SR W hid' H μ → CK o μ → J.stop ds.length H
  yields : ∀ hid' i d H μ x H', ds[i]? = some d → Ok hid H1 μ1 hid' H μ → SR W hid' H μ → CK o μ → J.yld i H x H' → St H μ H' μ ∧ SR W hid' H' μ ∧ Rep W hid' H' μ x d
abbrev TDI := XE → PD.Env → Mu → (Cks → List D → Mu → Prop) → Prop
def TDi (W : Wo) (Wk : WX) (ti : TDI) : TI := fun σ H R => ∃ hid ρ μ Xd Rd, Rel W hid H μ σ ρ ∧ SR W hid H μ ∧ ti Xd ρ μ Rd ∧ (∀ J H' μ' o ds, St H μ H' μ' → SR W hid H' μ' → WalkD W hid H' μ' J o ds → Rd o ds μ' → R J H') ∧ PX W hid H μ σ ρ Xd Wk
abbrev BI (X : Cx) (W : Wo) (Wk : WX) (tg iter : Expr) (ti : TDI) : Prop := PI X tg iter (TDi W Wk ti)
theorem PI.weak {X : Cx} {tg e : Expr} {t t' : TI} (h : PI X tg e t) (k : ∀ σ H R, t' σ H R → t σ H R) : PI X tg e t' := ⟨fun pins s σ H R I q => h.run pins s σ H R I (k σ H R q)⟩
section
variable {X : Cx} {W : Wo} {Wk : WX}
def iSeqA (K : PySem.W.Frag) (tl : TE) : TI := fun σ H R => tl σ H fun x H1 => (∃ a, x = .ref a ∧ (∃ xs, SqL K H1 a xs) ∧ R (Itl K a) H1) ∨ (∃ a, x = .ref a ∧ (∃ xs, SqT K H1 a xs) ∧ R (Itt K a) H1) ∨ ∃ z, x = .str z ∧ R (Its z) H1
theorem pi_seqA {tg l : Expr} {tl : TE} (hl : PE X l tl) : PI X tg l (iSeqA X.K tl) := by
  refine ⟨fun pins s σ H R I h => thn (hl.run pins s σ H _ I h) fun v s1 ⟨x, H1, I1, r1, q1⟩ => ?_⟩
  rcases q1 with ⟨a, rfl, ⟨xs, hq⟩, q⟩ | ⟨a, rfl, ⟨xs, hq⟩, q⟩ | ⟨z, rfl, q⟩
  · obtain rfl : v = Value.ref a := r1
    obtain ⟨its, rv, pl, _⟩ := I1.list hq
    exact wpAny_pyIter_list pl.isList (pi_one (tk := s1.toks) I1 _ (turn_list a _) ⟨_, Heap.get?_push_size _ rfl, rfl, rfl⟩ q)
  · obtain rfl : v = Value.ref a := r1
    obtain ⟨its, rv, pl, _⟩ := I1.tuple hq
    exact wpAny_pyIter_tuple (show s1.heap.IsTuple a its.toArray from pl) (pi_one (tk := s1.toks) I1 _ (turn_tuple a _) ⟨_, Heap.get?_push_size _ rfl, rfl, rfl⟩ q)
  · obtain ⟨t, rfl⟩ : ∃ t, v = Value.str z t := r1
    by_cases ha : z.cps.all (· < 128) = true
    · exact wpAny_pyIter_ascii ha (pi_one (tk := s1.toks) I1 _ (turn_str _ z t "str_ascii_iterator" (.inl rfl)) ⟨_, Heap.get?_push_size _ rfl, rfl, rfl⟩ q)
    · exact wpAny_pyIter_wide (Bool.eq_false_iff.mpr ha) (pi_one (tk := s1.toks) I1 _ (turn_str _ z t "str_iterator" (.inr rfl)) ⟨_, Heap.get?_push_size _ rfl, rfl, rfl⟩ q)
def signs (z : Str) : List D := z.cps.toList.map fun c => .str ⟨#[c]⟩
def seqI (d : D) (μ : Mu) (R : Cks → List D → Prop) : Prop := match d with
  | .tup xs => R [] xs
  | .lst xs => R [] xs
  | .str z => R [] (signs z)
  | .scr ns => R [] (ns.map D.int)
  | .ptr a => (match lstOf (.ptr a) μ with | some xs => R [(a, xs)] xs | none => False)
  | _ => False
def iSeq (te : TDE) : TDI := fun Xd ρ μ R => te Xd ρ μ fun d μ1 => seqI d μ1 fun o xs => R o xs μ1
/-- a list that stands: tracked, or of the store -/
theorem lst_stands {hid hid' : Hid} {H1 H : Hp} {μ1 μ : Mu} {a : Addr} {d : D} {ds : List D} (r : Rep W hid H1 μ1 (.ref a) d) (hd : d = .lst ds ∨ (d = .ptr a) ∨ ∃ ns, d = .scr ns ∧ ds = ns.map D.int) (k : Ok hid H1 μ1 hid' H μ) (sr : SR W hid' H μ) (ck : d = .ptr a → lstOf (.ptr a) μ = some ds) : ∃ vs, SqL W.K H a vs ∧ Reps W hid' H μ vs ds := by
  rcases hd with rfl | rfl | ⟨ns, rfl, rfl⟩
  · cases r.mono k with
    | lst h _ _ q => exact ⟨_, SqL.of h, q⟩
  rotate_left
  · obtain ⟨a', vs, e, h, q⟩ := lstOf_ok (ds := ns.map D.int) rfl sr (r.mono k)
    cases e
    exact ⟨vs, h, q⟩
  · obtain ⟨a', vs, e, h, q⟩ := lstOf_ok (ck rfl) sr (.ptr (W := W) (hid := hid') (H := H) (μ := μ) a)
    cases e
    exact ⟨vs, h, q⟩
theorem walkL {hid : Hid} {H1 : Hp} {μ1 : Mu} {a : Addr} {d : D} {ds : List D} {o : Cks} (hK : X.K = W.K) (r : Rep W hid H1 μ1 (.ref a) d) (hd : d = .lst ds ∨ (d = .ptr a) ∨ ∃ ns, d = .scr ns ∧ ds = ns.map D.int) (ho : ∀ μ, CK o μ → d = .ptr a → lstOf (.ptr a) μ = some ds) : WalkD W hid H1 μ1 (Itl X.K a) o ds := by
  rw [hK]
  refine ⟨fun hid' i H μ hi k sr ck => ?_, fun hid' H μ k sr ck => ?_, fun hid' i d H μ x H' hi k sr ck y => ?_⟩
  · obtain ⟨vs, h, q⟩ := lst_stands r hd k sr (ho μ ck)
    obtain ⟨v, hv, _⟩ := q.get (List.getElem?_eq_getElem hi)
    exact ⟨vs, v, h, hv⟩
  · obtain ⟨vs, h, q⟩ := lst_stands r hd k sr (ho μ ck)
    exact ⟨vs, h, by rw [q.length]; exact Nat.le_refl _⟩
  · obtain ⟨vs, h, q⟩ := lst_stands r hd k sr (ho μ ck)
    obtain ⟨rfl, y⟩ := y
    obtain ⟨v, hv, rv⟩ := q.get hi
    rw [y vs h] at hv
    cases hv
    exact ⟨.refl, sr, rv⟩
theorem tup_stands {hid hid' : Hid} {H1 H : Hp} {μ1 μ : Mu} {a : Addr} {ds : List D} (r : Rep W hid H1 μ1 (.ref a) (.tup ds)) (k : Ok hid H1 μ1 hid' H μ) : ∃ vs, SqT W.K H a vs ∧ Reps W hid' H μ vs ds := by
  obtain ⟨a', vs, e, h, q⟩ := tup_ok (r.mono k)
  cases e
  exact ⟨vs, h, q⟩
theorem walkT {hid : Hid} {H1 : Hp} {μ1 : Mu} {a : Addr} {ds : List D} {o : Cks} (hK : X.K = W.K) (r : Rep W hid H1 μ1 (.ref a) (.tup ds)) : WalkD W hid H1 μ1 (Itt X.K a) o ds := by
  rw [hK]
  refine ⟨fun hid' i H μ hi k sr ck => ?_, fun hid' H μ k sr ck => ?_, fun hid' i d H μ x H' hi k sr ck y => ?_⟩
  · obtain ⟨vs, h, q⟩ := tup_stands r k
    obtain ⟨v, hv, _⟩ := q.get (List.getElem?_eq_getElem hi)
    exact ⟨vs, v, h, hv⟩
  · obtain ⟨vs, h, q⟩ := tup_stands r k
    exact ⟨vs, h, by rw [q.length]; exact Nat.le_refl _⟩
  · obtain ⟨vs, h, q⟩ := tup_stands r k
    obtain ⟨rfl, y⟩ := y
    obtain ⟨v, hv, rv⟩ := q.get hi
    rw [y vs h] at hv
    cases hv
    exact ⟨.refl, sr, rv⟩
theorem walkS {hid : Hid} {H1 : Hp} {μ1 : Mu} {z : Str} {o : Cks} : WalkD W hid H1 μ1 (Its z) o (signs z) := by
  have hl : (signs z).length = z.cps.size := by unfold signs; rw [List.length_map, Array.length_toList]
  refine ⟨fun hid' i H μ hi k sr ck => ?_, fun hid' H μ k sr ck => ?_, fun hid' i d H μ x H' hi k sr ck y => ?_⟩
  · exact walk_str.goes i H (by rw [← hl]; exact hi) trivial
  · rw [hl]
    exact walk_str.stops H trivial
  · have hi2 := LB.lt_of_get hi
    obtain ⟨rfl, c, hc, rfl⟩ := walk_str.yields i H x H' (by rw [← hl]; exact hi2) trivial y
    unfold signs at hi
    rw [List.getElem?_map, Array.getElem?_toList, hc] at hi
    cases hi
    exact ⟨.refl, sr, .str _⟩
theorem bi_seq {tg l : Expr} {te : TDE} (C : TW X.K X.w W) (hl : BE X W Wk l te) : BI X W Wk tg l (iSeq te) := PI.weak (pi_seqA hl) fun σ H R ⟨hid, ρ, μ, Xd, Rd, rel, sr, q, pr, px⟩ => by
  refine ⟨hid, ρ, μ, Xd, _, rel, sr, q, fun v d H1 μ1 s1 sr1 r1 q1 => ?_, px⟩
  unfold seqI at q1
  dsimp only at q1
  split at q1
  · rename_i xs
    obtain ⟨a, vs, rfl, ha, _⟩ := tup_ok r1
    exact .inr (.inl ⟨a, rfl, ⟨vs, by rw [C.hK]; exact ha⟩, pr _ H1 μ1 [] xs s1 sr1 (walkT C.hK r1) q1⟩)
  · rename_i xs
    obtain ⟨a, vs, rfl, ha, _⟩ := lstOf_ok (ds := xs) rfl sr1 r1
    exact .inl ⟨a, rfl, ⟨vs, by rw [C.hK]; exact ha⟩, pr _ H1 μ1 [] xs s1 sr1 (walkL C.hK r1 (.inl rfl) fun _ _ e => by cases e) q1⟩
  · cases r1
    exact .inr (.inr ⟨_, rfl, pr _ H1 μ1 [] _ s1 sr1 walkS q1⟩)
  · rename_i ns
    obtain ⟨a, vs, rfl, ha, _⟩ := lstOf_ok (ds := ns.map D.int) rfl sr1 r1
    exact .inl ⟨a, rfl, ⟨vs, by rw [C.hK]; exact ha⟩, pr _ H1 μ1 [] _ s1 sr1 (walkL C.hK r1 (.inr (.inr ⟨ns, rfl, rfl⟩)) fun _ _ e => by cases e) q1⟩
  · rename_i a
    cases r1
    split at q1
    · rename_i xs hx
      obtain ⟨a', vs, e, ha, _⟩ := lstOf_ok hx sr1 (.ptr a)
      cases e
      exact .inl ⟨a, rfl, ⟨vs, by rw [C.hK]; exact ha⟩, pr _ H1 μ1 [(a, xs)] xs s1 sr1 (walkL C.hK (.ptr a) (.inr (.inl rfl)) fun μ ck _ => ck (a, xs) (by simp)) q1⟩
    · exact q1.elim
  · exact q1.elim
/-- range(n), range(a, b) -/
def rangeL (lo : Int) (n : Nat) : List D := (List.range n).map fun i => D.int (lo + (i : Nat))
theorem walkR {hid : Hid} {H1 : Hp} {μ1 : Mu} {lo : Int} {n : Nat} {o : Cks} : WalkD W hid H1 μ1 (Itr lo n) o (rangeL lo n) := by
  have hl : (rangeL lo n).length = n := by simp [rangeL]
  refine ⟨fun hid' i H μ hi k sr ck => by rw [hl] at hi; exact hi, fun hid' H μ k sr ck => by rw [hl]; exact Nat.le_refl _, fun hid' i d H μ x H' hi k sr ck y => ?_⟩
  have hi2 := LB.lt_of_get hi
  rw [hl] at hi2
  obtain ⟨rfl, rfl⟩ := y
  unfold rangeL at hi
  rw [List.getElem?_map, List.getElem?_range hi2] at hi
  cases hi
  exact ⟨.refl, sr, .int _⟩
def iRange1 (ta : TDA) : TDI := fun Xd ρ μ R => ta Xd ρ μ fun ds μ1 => match ds with
  | [.int j] => (-(2 ^ 62) ≤ j ∧ j < 2 ^ 62) ∧ R [] (rangeL 0 j.toNat) μ1
  | _ => False
theorem bi_range1 {tg e : Expr} {ta : TDA} {p pos : Pos} (h : PI X tg (.Call (.Name "range" p) [e] [] pos) (iRng1 (TDa W Wk ta))) : BI X W Wk tg (.Call (.Name "range" p) [e] [] pos) (iRange1 ta) := PI.weak h fun σ H R ⟨hid, ρ, μ, Xd, Rd, rel, sr, q, pr, px⟩ => by
  refine ⟨hid, ρ, μ, Xd, _, rel, sr, q, fun vs ds H1 μ1 s1 sr1 r1 q1 => ?_, px⟩
  dsimp only at q1
  split at q1
  · cases r1 with
    | cons ra rr =>
      cases rr
      cases ra
      exact ⟨_, rfl, q1.1.1, q1.1.2, pr _ H1 μ1 [] _ s1 sr1 walkR q1.2⟩
  · exact q1.elim
def iRange2 (ta : TDA) : TDI := fun Xd ρ μ R => ta Xd ρ μ fun ds μ1 => match ds with
  | [.int i, .int j] => (-(2 ^ 62) ≤ i ∧ i < 2 ^ 62 ∧ -(2 ^ 62) ≤ j ∧ j < 2 ^ 62) ∧ R [] (rangeL i (j - i).toNat) μ1
  | _ => False
theorem bi_range2 {tg e e2 : Expr} {ta : TDA} {p pos : Pos} (h : PI X tg (.Call (.Name "range" p) [e, e2] [] pos) (iRng2 (TDa W Wk ta))) : BI X W Wk tg (.Call (.Name "range" p) [e, e2] [] pos) (iRange2 ta) := PI.weak h fun σ H R ⟨hid, ρ, μ, Xd, Rd, rel, sr, q, pr, px⟩ => by
  refine ⟨hid, ρ, μ, Xd, _, rel, sr, q, fun vs ds H1 μ1 s1 sr1 r1 q1 => ?_, px⟩
  dsimp only at q1
  split at q1
  · cases r1 with
    | cons ra rr =>
      cases rr with
      | cons rb rr =>
        cases rr
        cases ra
        cases rb
        exact ⟨_, _, rfl, q1.1, pr _ H1 μ1 [] _ s1 sr1 walkR q1.2⟩
  · exact q1.elim
/-! ### for -/
def forL (g : TDG) (b : TDS) (E : EndsD) (Xd : XE) (o : Cks) : List D → PD.Env → Mu → Prop
  | [], ρ, μ => chk o μ (E.nx ρ μ)
  | x :: xs, ρ, μ => chk o μ (g x Xd ρ μ fun ρ' μ' => b { E with nx := forL g b E Xd o xs, ct := forL g b E Xd o xs, bk := E.nx } Xd ρ' μ')
def sFor (ti : TDI) (g : TDG) (b : TDS) : TDS := fun E Xd ρ μ => ti Xd ρ μ fun o ds μ1 => forL g b E Xd o ds ρ μ1
theorem for_td {ti : TDI} {g : TDG} {b : TDS} {E : Ends} {σ : L2.St} {H : Hp} (h : TDs W Wk (sFor ti g b) E σ H) : tFor (TDi W Wk ti) (TDg W Wk g) (TDs W Wk b) E σ H := by
  obtain ⟨hid, ρ, μ, Xd, Dd, rel, sr, q, pe, px⟩ := h
  refine ⟨hid, ρ, μ, Xd, _, rel, sr, q, fun J H1 μ1 o ds s1 sr1 w q1 => ?_, px.at_ rel⟩
  have rel1 := rel_mono s1.ok rel
  refine ⟨fun i m σ' H' => m = ds.length - i ∧ i ≤ ds.length ∧ ∃ ρ' μ', Rel W hid H' μ' σ' ρ' ∧ SR W hid H' μ' ∧ St H1 μ1 H' μ' ∧ forL g b Dd Xd o (ds.drop i) ρ' μ', ⟨_, rfl, Nat.zero_le _, ρ, μ1, rel1, sr1, .refl, q1⟩, ?_⟩
  rintro i m σ2 H2 ⟨rfl, hi, ρ2, μ2, rel2, sr2, s2, q2⟩
  have k2 : Ok hid H1 μ1 hid H2 μ2 := s2.ok
  by_cases hlt : i < ds.length
  · refine .inr ⟨?_, ?_⟩
    · rw [List.drop_eq_getElem_cons hlt] at q2
      exact w.goes hid i H2 μ2 hlt k2 sr2 (chk_ck q2)
    · rw [List.drop_eq_getElem_cons hlt] at q2
      have ck := chk_ck q2
      have q3 := chk_p q2
      refine ⟨fun σ' H' => ∃ ρ' μ', Rel W hid H' μ' σ' ρ' ∧ SR W hid H' μ' ∧ St H1 μ1 H' μ' ∧ forL g b Dd Xd o (ds.drop (i + 1)) ρ' μ', fun σ' H' z => ⟨ds.length - (i + 1), by omega, rfl, hlt, z⟩, fun x H3 y => ?_⟩
      obtain ⟨s3, sr3, r3⟩ := w.yields hid i _ H2 μ2 x H3 (List.getElem?_eq_getElem hlt) k2 sr2 ck y
      have s23 := s2.trans s3
      refine ⟨hid, ρ2, μ2, Xd, _, _, rel_mono s3.ok rel2, sr3, r3, q3, fun σ4 ρ4 H4 μ4 s4 sr4 rel4 q4 => ?_, (px.st s1).st s23⟩
      have s24 := s23.trans s4
      refine ⟨hid, ρ4, μ4, Xd, _, rel4, sr4, q4, ⟨?_, (pe.rt.st s1).st s24, (pe.nx.st s1).st s24, ?_⟩, (px.st s1).st s24⟩
      · exact fun σ' ρ' H' μ' s' sr' rel' q' => ⟨ρ', μ', rel', sr', s24.trans s', q'⟩
      · exact fun σ' ρ' H' μ' s' sr' rel' q' => ⟨ρ', μ', rel', sr', s24.trans s', q'⟩
  · have e : i = ds.length := by omega
    subst e
    rw [List.drop_length] at q2
    exact .inl ⟨w.stops hid H2 μ2 k2 sr2 (chk_ck q2), pe.nx σ2 ρ2 H2 μ2 (s1.trans s2) sr2 rel2 (chk_p q2)⟩
theorem bs_for {tg iter : Expr} {body : List Stmt} {ti : TDI} {g : TDG} {tb : TDS} {pos : Pos} (hp : PassesOwn (model X.prog X.w) X.A X.env X.xe) (hc : X.calm = true) (hi : BI X W Wk tg iter ti) (hg : BG X W Wk tg g) (hb : BSs X W Wk body tb)
    (hs : ∀ x, foldedSetIterable iter X.env x = pure x := by intro _; rfl) : BS X W Wk (.For tg iter body [] pos) (sFor ti g tb) := PS.weak (ps_for hp hc hi hg hb hs) fun _ _ _ h => for_td h
end
end PD
set_option Elab.async false
set_option linter.all false
set_option autoImplicit false
set_option maxRecDepth 100000
set_option maxHeartbeats 4000000
namespace PD
open PySem PySem.Spec PyProof.Rows L2
/-! ### comprehensions -/
def xF : XE := fun _ _ _ => False
def WF : WX := fun _ _ _ _ => False
def lcL (o : Cks) (en : D → Mu → (PD.Env → Prop) → Prop) (tt : TDT) (te : TDE) (Q : List D → Mu → Prop) : List D → List D → Mu → Prop
  | [], acc, μ => chk o μ (Q acc μ)
  | x :: xs, acc, μ => chk o μ (en x μ fun ρ' => tt xF ρ' μ fun b μ2 => dIf b (te xF ρ' μ2 fun d μ3 => acc.length < sizeLine ∧ lcL o en tt te Q xs (acc ++ [d]) μ3) (lcL o en tt te Q xs acc μ2))
def wipeD (ρ : PD.Env) : List Nat → PD.Env
  | [] => ρ
  | v :: vs => (wipeD ρ vs).set v none
def en1 (vs : List Nat) (i : Nat) (ρ : PD.Env) : D → Mu → (PD.Env → Prop) → Prop := fun x _ k => k ((wipeD ρ vs).set i (some x))
def en2 (vs : List Nat) (i j : Nat) (ρ : PD.Env) : D → Mu → (PD.Env → Prop) → Prop := fun x _ k => match x with
  | .tup [a, b] => k (((wipeD ρ vs).set i (some a)).set j (some b))
  | _ => False
def eLc (m : Bool) (ti : TDI) (en : PD.Env → D → Mu → (PD.Env → Prop) → Prop) (tt : TDT) (te : TDE) : TDE := fun Xd ρ μ Q => ti Xd ρ μ fun o ds μ1 => lcL o (en ρ) tt te (fun acc μ2 => newL m acc μ2 Q) ds [] μ1
section
variable {X : Cx} {W : Wo} {Wk : WX}
theorem rel_wipe {hid : Hid} {H : Hp} {μ : Mu} {σ : L2.St} {ρ : PD.Env} (rel : Rel W hid H μ σ ρ) : ∀ vs : List Nat, Rel W hid H μ (wipe σ vs) (wipeD ρ vs)
  | [] => rel
  | v :: vs => rel_set .none v (rel_wipe rel vs)
/-- how the target of a comprehension is stored -/
structure EnOk (W : Wo) (K : PySem.W.Frag) (g : TG) (vs : List Nat) (en : PD.Env → D → Mu → (PD.Env → Prop) → Prop) : Prop where
  ok : ∀ hid H μ σ ρ v d k Q, Rel W hid H μ σ ρ → SR W hid H μ → Rep W hid H μ v d → en ρ d μ k → (∀ σ2 ρ2, Rel W hid H μ σ2 ρ2 → wipe σ2 vs = wipe σ vs → k ρ2 → Q σ2 H) → g v (wipe σ vs) H Q
theorem en1_ok {K : PySem.W.Frag} {i : Nat} : EnOk W K (gName i) [i] (en1 [i] i) := ⟨fun hid H μ σ ρ v d k Q rel sr r h q => by
  refine q _ _ (rel_set (.some r) i (rel_wipe rel [i])) ?_ h
  show ((σ.set i none).set i (some v)).set i none = σ.set i none
  rw [List.set_set, List.set_set]⟩
theorem en2_ok {K : PySem.W.Frag} {i j : Nat} (hK : K = W.K) (hij : i ≠ j) : EnOk W K (gTup K 2 (gCons (gName i) (gCons (gName j) gNil))) [i, j] (en2 [i, j] i j) := ⟨fun hid H μ σ ρ v d k Q rel sr r h q => by
  unfold en2 at h
  split at h
  · rename_i a b
    obtain ⟨p, vs, rfl, hs, rs⟩ := tup_ok r
    cases rs with
    | cons ra rr =>
      cases rr with
      | cons rb rr =>
        cases rr
        rename_i va vb
        refine ⟨p, _, rfl, by rw [hK]; exact hs, rfl, _, _, rfl, _, _, rfl, rfl, ?_⟩
        refine q _ _ (rel_set (.some rb) j (rel_set (.some ra) i (rel_wipe rel [i, j]))) ?_ h
        show ((((((σ.set j none).set i none).set i (some va)).set j (some vb))).set j none).set i none = (σ.set j none).set i none
        rw [List.set_set, List.set_set, List.set_comm (some va) none hij, List.set_set, List.set_set]
  · exact h.elim⟩
/-- a store with one thing more hidden -/
def hidA (hid : Hid) (p : Addr) : Hid := fun a => hid a ∨ a = p
theorem ok_hide {hid : Hid} {H H' : Hp} {μ μ' : Mu} {p : Addr} (s : St H μ H' μ') (hp : H p = none) : Ok hid H μ (hidA hid p) H' μ' := fun a o h i n => by
  obtain ⟨h1, i1⟩ := s a o h i
  exact ⟨h1, i1, fun z => z.elim n fun e => by subst e; rw [hp] at h; cases h⟩
theorem SR.hide {hid : Hid} {H : Hp} {μ : Mu} {p : Addr} {o : HO} (sr : SR W hid H μ) (hp : H p = none) : SR W (hidA hid p) (upd H p o) μ := by
  have k : Ok hid H μ (hidA hid p) (upd H p o) μ := ok_hide (St.new hp) hp
  refine ⟨fun a m h => ⟨?_, ?_⟩, fun d l h => ⟨(sr.inn d l h).1, ?_⟩, sr.one, fun a h => ?_⟩
  · rintro (z | rfl)
    · exact (sr.at_ a m h).1 z
    · have := (sr.fresh hp).1
      rw [h] at this
      cases this
  · have q := (sr.at_ a m h).2
    have ne : ∀ {b u}, H b = some u → upd H p o b = H b := fun e => by rw [upd_ne (ne_of_none e hp)]
    cases m with
    | lst ds => obtain ⟨vs, e, r⟩ := q; exact ⟨vs, (ne e).trans e, r.mono k⟩
    | dic kvs => obtain ⟨vs, e, r⟩ := q; exact ⟨vs, (ne e).trans e, r.mono k⟩
    | ins C fs => obtain ⟨dx, gs, e, r, c⟩ := q; exact ⟨dx, gs, (ne e).trans e, r.mono k, c⟩
    | deal l => exact LB.Deal.new q hp
  · rintro (z | rfl)
    · exact (sr.inn d l h).2 z
    · obtain ⟨o', e⟩ := sr.inner h
      rw [hp] at e
      cases e
  · rcases h with h | rfl
    · obtain ⟨o', e⟩ := sr.hk a h
      exact ⟨o', by rw [upd_ne (ne_of_none e hp)]; exact e⟩
    · exact ⟨o, upd_same⟩
/-- what is hidden may change -/
theorem nh_ne {hid : Hid} {a p : Addr} (n : ¬ hid a) (hh : hid p) : a ≠ p := fun e => n (by rw [e]; exact hh)
theorem ok_hmod {hid : Hid} {H : Hp} {μ : Mu} {p : Addr} {o : HO} (hh : hid p) : Ok hid H μ hid (upd H p o) μ := fun a u h i n => ⟨by rw [upd_ne (nh_ne n hh)]; exact h, i, n⟩
theorem SR.hmod {hid : Hid} {H : Hp} {μ : Mu} {p : Addr} {o : HO} (sr : SR W hid H μ) (hh : hid p) : SR W hid (upd H p o) μ := by
  refine ⟨fun a m h => ⟨(sr.at_ a m h).1, (sr.at_ a m h).2.mono (ok_hmod hh) ?_ fun l e => ?_⟩, sr.inn, sr.one, fun a h => ?_⟩
  · rw [upd_ne (nh_ne (sr.at_ a m h).1 hh)]
  · subst e
    rw [upd_ne (nh_ne (sr.inn a l h).2 hh)]
  · by_cases e : a = p
    · subst e
      exact ⟨o, upd_same⟩
    · obtain ⟨o', q⟩ := sr.hk a h
      exact ⟨o', by rw [upd_ne e]; exact q⟩
theorem ok_unhide {hid : Hid} {H : Hp} {μ : Mu} {p : Addr} : Ok (hidA hid p) H μ hid H μ := fun a o h i n => ⟨h, i, fun z => n (.inl z)⟩
theorem SR.unhide {hid : Hid} {H : Hp} {μ : Mu} {p : Addr} (sr : SR W (hidA hid p) H μ) : SR W hid H μ :=
  ⟨fun a m h => ⟨fun z => (sr.at_ a m h).1 (.inl z), (sr.at_ a m h).2.mono ok_unhide rfl fun _ _ => rfl⟩, fun d l h => ⟨(sr.inn d l h).1, fun z => (sr.inn d l h).2 (.inl z)⟩, sr.one, fun a h => sr.hk a (.inl h)⟩
theorem im_set {μ : Mu} {p a : Addr} {m : MO} (hm : ∀ l, m ≠ .deal l) (ne : a ≠ p) (i : Im μ a) : Im (μ.set p m) a := by
  refine ⟨by rw [Mu.set_ne ne]; exact i.1, fun d e => ?_⟩
  by_cases hd : d = p
  · subst hd
    rw [Mu.set_same] at e
    exact hm _ (Option.some.inj e)
  · rw [Mu.set_ne hd] at e
    exact i.2 d e
theorem ok_adopt {hid : Hid} {H : Hp} {μ : Mu} {p : Addr} {m : MO} (hm : ∀ l, m ≠ .deal l) : Ok (hidA hid p) H μ hid H (μ.set p m) := fun a o h i n => ⟨h, im_set hm (fun e => n (.inr e)) i, fun z => n (.inl z)⟩
theorem SR.adopt {hid : Hid} {H : Hp} {μ : Mu} {p : Addr} {vs : List V} {ds : List D} (sr : SR W (hidA hid p) H μ) (hp : H p = some (.lst vs)) (r : Reps W (hidA hid p) H μ vs ds) (nh : ¬ hid p) : SR W hid H (μ.set p (.lst ds)) := by
  have hm : ∀ l, MO.lst ds ≠ .deal l := fun l e => by cases e
  have him := sr.him (a := p) (.inr rfl)
  refine ⟨fun a m h => ?_, fun d l h => ?_, fun d d' l h h' => ?_, fun a h => sr.hk a (.inl h)⟩
  · by_cases e : a = p
    · subst e
      rw [Mu.set_same] at h
      cases h
      exact ⟨nh, vs, hp, r.mono (ok_adopt hm)⟩
    · rw [Mu.set_ne e] at h
      exact ⟨fun z => (sr.at_ a m h).1 (.inl z), (sr.at_ a m h).2.mono (ok_adopt hm) rfl fun _ _ => rfl⟩
  · have hd : d ≠ p := fun e => by
      subst e
      rw [Mu.set_same] at h
      exact hm _ (Option.some.inj h)
    rw [Mu.set_ne hd] at h
    have q := sr.inn d l h
    have ne : l ≠ p := fun e => q.2 (.inr e)
    rw [Mu.set_ne ne]
    exact ⟨q.1, fun z => q.2 (.inl z)⟩
  · have hd : d ≠ p := fun e => by
      subst e
      rw [Mu.set_same] at h
      exact hm _ (Option.some.inj h)
    have hd' : d' ≠ p := fun e => by
      subst e
      rw [Mu.set_same] at h'
      exact hm _ (Option.some.inj h')
    rw [Mu.set_ne hd] at h
    rw [Mu.set_ne hd'] at h'
    exact sr.one d d' l h h'
theorem lc_td {m : Bool} {ti : TDI} {g : TG} {vs : List Nat} {en : PD.Env → D → Mu → (PD.Env → Prop) → Prop} {tt : TDT} {te : TDE} {K : PySem.W.Frag} (ek : EnOk W K g vs en) {σ : L2.St} {H : Hp} {Q : VK} (h : TD W Wk (eLc m ti en tt te) σ H Q) : tLc (TDi W Wk ti) g (TDt W WF tt) (TD W WF te) vs σ H Q := by
  obtain ⟨hid, ρ, μ, Xd, Qd, rel, sr, q, pq, px⟩ := h
  refine ⟨hid, ρ, μ, Xd, _, rel, sr, q, fun J H1 μ1 o ds s1 sr1 w q1 => ?_, px⟩
  intro D0 hD
  have nh := sr1.nhid hD
  let Iv : Nat → Hp → Prop := fun i H2 => ∃ μ2 acc dacc, H2 D0 = some (.lst acc) ∧ SR W (hidA hid D0) H2 μ2 ∧ St H1 μ1 H2 μ2 ∧ Reps W (hidA hid D0) H2 μ2 acc dacc ∧ Rel W (hidA hid D0) H2 μ2 σ ρ ∧ lcL o (en ρ) tt te (fun acc μ2 => newL m acc μ2 Qd) (ds.drop i) dacc μ2
  refine ⟨fun i n H2 => n = ds.length - i ∧ i ≤ ds.length ∧ Iv i H2, ⟨_, rfl, Nat.zero_le _, μ1, [], [], upd_same, sr1.hide hD, St.new hD, .nil, rel_mono (ok_hide (St.new hD) hD) (rel_mono s1.ok rel), q1⟩, ?_⟩
  rintro i n H2 ⟨rfl, hi, μ2, acc, dacc, hacc, sr2, s2, racc, rel2, q2⟩
  have k2 : Ok hid H1 μ1 (hidA hid D0) H2 μ2 := ok_hide s2 hD
  have him2 := sr2.him (a := D0) (.inr rfl)
  by_cases hlt : i < ds.length
  · rw [List.drop_eq_getElem_cons hlt] at q2
    have ck := chk_ck q2
    have q3 := chk_p q2
    refine .inr ⟨w.goes _ i H2 μ2 hlt k2 sr2 ck, Iv (i + 1), fun H' z => ⟨ds.length - (i + 1), by omega, rfl, hlt, z⟩, fun x H3 y => ?_⟩
    obtain ⟨s3, sr3, r3⟩ := w.yields _ i _ H2 μ2 x H3 (List.getElem?_eq_getElem hlt) k2 sr2 ck y
    refine ek.ok _ H3 μ2 σ ρ x _ _ _ (rel_mono s3.ok rel2) sr3 r3 q3 fun σ4 ρ4 rel4 hw q4 => ⟨hw, ?_⟩
    refine ⟨_, ρ4, μ2, xF, _, rel4, sr3, q4, fun b H5 μ5 s5 sr5 q5 => ?_, fun _ _ _ _ _ _ _ _ z => z.elim⟩
    have s25 := s3.trans s5
    cases b with
    | false => exact ⟨μ5, acc, dacc, (s25 D0 _ hacc him2).1, sr5, s2.trans s25, racc.mono s25.ok, rel_mono s25.ok rel2, (dIf_ff q5)⟩
    | true =>
      refine ⟨_, ρ4, μ5, xF, _, rel_mono s5.ok rel4, sr5, (dIf_tt q5), fun y d H6 μ6 s6 sr6 r6 q6 => ?_, fun _ _ _ _ _ _ _ _ z => z.elim⟩
      have s26 := s25.trans s6
      refine ⟨acc, (s26 D0 _ hacc him2).1, by rw [racc.length]; exact q6.1, ?_⟩
      have km : Ok (hidA hid D0) H6 μ6 (hidA hid D0) (upd H6 D0 (.lst (acc ++ [y]))) μ6 := ok_hmod (.inr rfl)
      refine ⟨μ6, _, dacc ++ [d], upd_same, sr6.hmod (.inr rfl), fun a u ha ia => ?_, ((racc.mono s26.ok).append (.cons r6 .nil)).mono km, rel_mono km (rel_mono s26.ok rel2), q6.2⟩
      obtain ⟨h1, i1⟩ := (s2.trans s26) a u ha ia
      exact ⟨by rw [upd_ne (ne_of_none ha hD)]; exact h1, i1⟩
  · have e : i = ds.length := by omega
    subst e
    rw [List.drop_length] at q2
    refine .inl ⟨w.stops _ H2 μ2 k2 sr2 (chk_ck q2), ?_⟩
    have q3 := chk_p q2
    have s12 := s1.trans s2
    cases m with
    | false => exact pq _ _ H2 μ2 s12 sr2.unhide (.lst hacc him2 nh (racc.mono ok_unhide)) q3
    | true =>
      have hm : ∀ l, MO.lst dacc ≠ .deal l := fun l e => by cases e
      refine pq _ _ H2 (μ2.set D0 (.lst dacc)) (fun a u ha ia => ?_) (sr2.adopt hacc racc nh) (.ptr D0) (q3 D0 him2.1)
      obtain ⟨h1, i1⟩ := s1 a u ha ia
      obtain ⟨h2, i2⟩ := s2 a u h1 i1
      exact ⟨h2, im_set hm (ne_of_none h1 hD) i2⟩
abbrev BTs (X : Cx) (W : Wo) (Wk : WX) (ifs : List Expr) (td : TDT) : Prop := PTs X ifs (TDt W Wk td)
def tYe : TDT := fun _ _ μ Q => Q true μ
theorem bts_nil : BTs X W Wk [] tYe := ⟨fun pins s σ H Q I ⟨hid, ρ, μ, Xd, Qd, rel, sr, q, pq, px⟩ => pts_nil.run pins s σ H Q I (pq true H μ .refl sr q)⟩
theorem bts_one {c : Expr} {t : TDT} (h : BT X W Wk c t) : BTs X W Wk [c] t := pts_one h
theorem be_lc {m : Bool} {elt tg iter : Expr} {ifs : List Expr} {scope : Scope} {own : List (Str × Nat)} {pos : Pos} {ti : TDI} {g : TG} {en : PD.Env → D → Mu → (PD.Env → Prop) → Prop} {tt : TDT} {te : TDE} (ek : EnOk W X.K g (own.map (·.2)) en) (hc : X.calm = true) (hN : X.N.Nodup) (hi : BI X W Wk tg iter ti) (ok : BlkOk X.N X.env.scope scope own)
    (hg : ∀ (s : Shared) (H : Hp) (C : Addr) (cl : List (Str × Addr)) (fp : List Addr), PG (X.blk s H scope (compEnvC scope cl C X.env) fp) tg g) (ht : ∀ (s : Shared) (H : Hp) (C : Addr) (cl : List (Str × Addr)) (fp : List Addr), BTs (X.blk s H scope (compEnvC scope cl C X.env) fp) W WF ifs tt)
    (he : ∀ (s : Shared) (H : Hp) (C : Addr) (cl : List (Str × Addr)) (fp : List Addr), BE (X.blk s H scope (compEnvC scope cl C X.env) fp) W WF elt te) (hs : ∀ x, foldedSetIterable iter X.env x = pure x := by intro _; rfl) :
    BE X W Wk (.ListComp elt [⟨tg, iter, ifs, 0⟩] scope pos) (eLc m ti en tt te) := PE.weak (pe_lc hc hN hi ok hg ht he hs) fun _ _ _ h => lc_td ek h
theorem bs_setLc {m : Bool} {i : Nat} {y : Str} {py : Pos} {elt tg iter : Expr} {ifs : List Expr} {scope : Scope} {own : List (Str × Nat)} {pos spos : Pos} {ti : TDI} {g : TG} {en : PD.Env → D → Mu → (PD.Env → Prop) → Prop} {tt : TDT} {te : TDE} (ek : EnOk W X.K g (own.map (·.2)) en) (hc : X.calm = true) (hN : X.N.Nodup) (hy : X.N[i]? = some y) (hyl : X.env.scope.names.lookup y = some .local)
    (hsw : swapsWith (.ListComp elt [⟨tg, iter, ifs, 0⟩] scope pos) (some (.Name y py)) spos.line X.env = pure true) (hi : BI X W Wk tg iter ti) (ok : BlkOk X.N X.env.scope scope own)
    (hg : ∀ (s : Shared) (H : Hp) (C : Addr) (cl : List (Str × Addr)) (fp : List Addr), PG (X.blk s H scope (compEnvC scope cl C X.env) fp) tg g) (ht : ∀ (s : Shared) (H : Hp) (C : Addr) (cl : List (Str × Addr)) (fp : List Addr), BTs (X.blk s H scope (compEnvC scope cl C X.env) fp) W WF ifs tt)
    (he : ∀ (s : Shared) (H : Hp) (C : Addr) (cl : List (Str × Addr)) (fp : List Addr), BE (X.blk s H scope (compEnvC scope cl C X.env) fp) W WF elt te) (hs : ∀ x, foldedSetIterable iter X.env x = pure x := by intro _; rfl) :
    BS X W Wk (.Assign [.Name y py] (.ListComp elt [⟨tg, iter, ifs, 0⟩] scope pos) spos) (sAsg (eLc m ti en tt te) (gN i)) := PS.weak (ps_setLc hc hN hy hyl hsw hi ok hg ht he hs) fun E σ H ⟨hid, ρ, μ, Xd, Dd, rel, sr, q, pe, px⟩ =>
  lc_td ek (m := m) ⟨hid, ρ, μ, Xd, _, rel, sr, q, fun v d H1 μ1 s1 sr1 r1 q1 => pe.nx _ _ H1 μ1 s1 sr1 (rel_set (.some r1) i (rel_mono s1.ok rel)) q1, px.at_ rel⟩
end
end PD
set_option Elab.async false
set_option linter.all false
set_option autoImplicit false
set_option maxRecDepth 100000
set_option maxHeartbeats 4000000
namespace PD
open PySem PySem.Spec PyProof.Rows L2
/-! ### defs -/
abbrev FD := List D → Mu → QD → (XD → Mu → Prop) → Prop
def PF (W : Wo) (hid : Hid) (H : Hp) (μ : Mu) (Xd : XD → Mu → Prop) (E : XK) : Prop := ∀ x cls dd H' μ', St H μ H' μ' → SR W hid H' μ' → XRep W hid H' μ' x cls dd → Xd x μ' → E cls dd H'
def spD (W : Wo) (n : Nat) (F : FD) : Sp := fun vs H Q E => ∃ hid ds μ Qd Xd, ds.length = n ∧ Reps W hid H μ vs ds ∧ SR W hid H μ ∧ F ds μ Qd Xd ∧ PQ W hid H μ Qd Q ∧ PF W hid H μ Xd E
/-- a def by its body -/
def fnD (n : Nat) (ts : TDS) : FD := fun ds μ Q Xd => ts { nx := fun _ μ' => Q .non (μ'.inter μ), rt := fun d μ' => Q d (μ'.inter μ) } (fun x _ μ' => Xd x (μ'.inter μ)) (startD n ds) μ
def eCall (n : Nat) (F : FD) (dds : List D) (ta : TDA) : TDE := fun Xd ρ μ Q => ta Xd ρ μ fun ds μ1 => (ds ++ dds).length = n ∧ F (ds ++ dds) μ1 Q fun x μ2 => Xd x ρ μ2
section
variable {P : Program} {w : World} {K : PySem.W.Frag} {mg : Str → Option Value} {base : Heap} {W : Wo}
theorem body_ok {N : List Str} {ts : TDS} {E : XK} {vs : List V} {H : Hp} {Q : VK} {n : Nat} (h : spD W n (fnD N.length ts) vs H Q E) : TDs W (fun cls d _ H => E cls d H) ts { nx := fun _ H' => Q .non H', rt := Q } (L2.start N vs) H := by
  obtain ⟨hid, ds, μ, Qd, Xd, hn, r, sr, q, pq, pf⟩ := h
  have cut : ∀ {H' μ'}, St H μ H' μ' → St H μ H' (μ'.inter μ) := fun s => s.trans Mu.inter_le.st
  refine ⟨hid, startD N.length ds, μ, _, _, rel_start r, sr, q, ⟨?_, ?_, fun _ _ _ _ _ _ _ z => z.elim, fun _ _ _ _ _ _ _ z => z.elim⟩, ?_⟩
  · exact fun σ' ρ' H' μ' s' sr' _ q' => pq .non .non H' _ (cut s') (sr'.le Mu.inter_le) .non q'
  · exact fun v d H' μ' s' sr' r' q' => pq v d H' _ (cut s') (sr'.le Mu.inter_le) (r'.mono Mu.inter_le.st.ok) q'
  · intro x cls dd σ' ρ' H' μ' s' sr' _ xr q'
    refine pf x cls dd H' _ (cut s') (sr'.le Mu.inter_le) ⟨xr.1, ?_⟩ q'
    rcases xr.2 with z | ⟨a, fs, e1, e2, i, n, e3⟩
    · exact .inl z
    · exact .inr ⟨a, fs, e1, e2, Mu.inter_le.im i, n, e3.mono Mu.inter_le.st.ok⟩
theorem TopFn_okD {x : Str} {st : Stmt} {N ps : List Str} {k : Nat} {ts : TDS} (F : LB.TopFn K mg x st ps) (S : FnScope N ps (defScope st))
    (hbody : ∀ (f : Addr) (cdv : Value) (A : Around) (outer : List PySem.Env) (s : Shared) (H : Hp) (E : XK), Room k (A.deeper (envOfC x (defScope st) s.heap.objs.size f cdv)) →
      BSs (cxOf (L2.CX P w) P w K mg base N x (defScope st) f cdv A outer s H E) W (fun cls d _ H => E cls d H) (defBody st) ts) : LB.DefX P w K mg base (k + 1) x ps [] (spD W ps.length (fnD N.length ts)) := by
  refine F.okX S (fun vs H Q E h => ?_) fun f cdv A outer s H vs Q E hr h => ⟨_, hbody f cdv A outer s H E hr, body_ok h⟩
  obtain ⟨hid, ds, μ, Qd, Xd, hn, r, _⟩ := h
  rw [r.length]
  exact hn
theorem TopFnD_okD {x : Str} {st : Stmt} {N ps : List Str} {dvs : List V} {k : Nat} {ts : TDS} (F : LB.TopFnD K mg x st ps dvs) (S : FnScope N ps (defScope st))
    (hbody : ∀ (f : Addr) (cdv : Value) (A : Around) (outer : List PySem.Env) (s : Shared) (H : Hp) (E : XK), Room k (A.deeper (envOfC x (defScope st) s.heap.objs.size f cdv)) →
      BSs (cxOf (L2.CX P w) P w K mg base N x (defScope st) f cdv A outer s H E) W (fun cls d _ H => E cls d H) (defBody st) ts) : LB.DefX P w K mg base (k + 1) x ps [] (spD W ps.length (fnD N.length ts)) ∧ LB.DefX P w K mg base (k + 1) x ps dvs (spD W ps.length (fnD N.length ts)) := by
  refine F.okX S (fun vs H Q E h => ?_) fun f cdv A outer s H vs Q E hr h => ⟨_, hbody f cdv A outer s H E hr, body_ok h⟩
  obtain ⟨hid, ds, μ, Qd, Xd, hn, r, _⟩ := h
  rw [r.length]
  exact hn
end
/-- the law itself -/
theorem law_ok {K : PySem.W.Frag} {W : Wo} {N : List Str} {ts : TDS} {vs : List V} {H : Hp} {Q : VK} {E : XK} (hK : K = W.K) (hsp : LB.spLaw K vs H Q E)
    (h : ∀ (ns : List Int), ns.length ≤ 63 → fnD N.length ts [.scr ns] (fun _ => none) (fun d _ => d = .bl true) fun _ _ => False) : TDs W WF ts { nx := fun _ H' => Q .non H', rt := Q } (L2.start N vs) H := by
  obtain ⟨a, ns, rfl, hS, hl, k⟩ := hsp
  have sr : SR W (fun _ => False) H (fun _ => none) := ⟨fun a m e => (by cases e), fun d l e => (by cases e), fun d d' l e => (by cases e), fun a e => e.elim⟩
  have r : Rep W (fun _ => False) H (fun _ => none) (.ref a) (.scr ns) := by
    rw [hK] at hS
    rcases hS with hS | hS
    · exact .scr hS ⟨rfl, fun d e => by cases e⟩ id
    · exact .scrK fun H' => .inr hS
  refine body_ok (E := fun _ _ _ => False) ⟨_, [.scr ns], _, _, _, rfl, .cons r .nil, sr, h ns hl, fun v d H' μ' _ _ r' e => ?_, fun _ _ _ _ _ _ _ _ z => z⟩
  subst e
  cases r'
  exact k H'
section
variable {X : Cx} {W : Wo} {Wk : WX} {k n : Nat} {x : Str} {ps : List Str} {dvs : List V} {dds : List D} {F : FD} {e : Expr} {es : List Expr} {ta : TDA} {p pos : Pos}
theorem be_fn (D : LB.DefX X.prog X.w X.K X.mg X.base k x ps dvs (spD W n F)) (hv : ∀ hid H μ, Reps W hid H μ dvs dds) (tk : Takes X Wk) (hr : Room k X.A) (hg : Gl X x) (ha : BA X W Wk (e :: es) ta) (hdb : (x == ("__debug__" : Str)) = false := by decide)
    (he : starEach (e :: es) X.env = (false, eval e X.env) :: starEach es X.env := by rfl) (hpl : (backTo pos (starEach es X.env)).any (·.1) = false := by rfl) : BE X W Wk (.Call (.Name x p) (e :: es) [] pos) (eCall n F dds ta) :=
  PE.weak (LB.pe_fnX D tk hr hg ha hdb he hpl) fun σ H Q ⟨hid, ρ, μ, Xd, Qd, rel, sr, q, pq, px⟩ =>
    ⟨hid, ρ, μ, Xd, _, rel, sr, q, fun vs ds H1 μ1 s1 sr1 r1 q1 => ⟨hid, ds ++ dds, μ1, Qd, _, q1.1, r1.append (hv _ _ _), sr1, q1.2, pq.st s1, fun y cls dd H' μ' s' sr' xr q' => px y cls dd H' μ' (s1.trans s') sr' xr q'⟩, px⟩
/-- where nothing may be raised -/
theorem be_fnE (D : LB.DefX X.prog X.w X.K X.mg X.base k x ps dvs (spD W n F)) (hv : ∀ hid H μ, Reps W hid H μ dvs dds) (hr : Room k X.A) (hg : Gl X x) (ha : BA X W WF (e :: es) ta) (hdb : (x == ("__debug__" : Str)) = false := by decide)
    (he : starEach (e :: es) X.env = (false, eval e X.env) :: starEach es X.env := by rfl) (hpl : (backTo pos (starEach es X.env)).any (·.1) = false := by rfl) : BE X W WF (.Call (.Name x p) (e :: es) [] pos) (eCall n F dds ta) :=
  PE.weak (LB.pe_fnE D hr hg ha hdb he hpl) fun σ H Q ⟨hid, ρ, μ, Xd, Qd, rel, sr, q, pq, px⟩ =>
    ⟨hid, ρ, μ, Xd, _, rel, sr, q, fun vs ds H1 μ1 s1 sr1 r1 q1 => ⟨hid, ds ++ dds, μ1, Qd, _, q1.1, r1.append (hv _ _ _), sr1, q1.2, pq.st s1, fun y cls dd H' μ' s' sr' xr q' => px y cls dd H' μ' (s1.trans s') sr' xr q'⟩, px⟩
/-! ### built-ins -/
abbrev CD := List D → Mu → QD → Prop
def rCD (W : Wo) (o : CD) : List V → Hp → VK → Prop := fun vs H Q => ∃ hid μ ds Qd, SR W hid H μ ∧ Reps W hid H μ vs ds ∧ o ds μ Qd ∧ PQ W hid H μ Qd Q
def eB (o : CD) (ta : TDA) : TDE := fun Xd ρ μ Q => ta Xd ρ μ fun ds μ1 => o ds μ1 Q
theorem cb_td {o : CD} {ta : TDA} {σ : L2.St} {H : Hp} {Q : VK} (h : TD W Wk (eB o ta) σ H Q) : tCB (rCD W o) (TDa W Wk ta) σ H Q := by
  obtain ⟨hid, ρ, μ, Xd, Qd, rel, sr, q, pq, px⟩ := h
  exact ⟨hid, ρ, μ, Xd, _, rel, sr, q, fun vs ds H1 μ1 s1 sr1 r1 q1 => ⟨hid, μ1, ds, Qd, sr1, r1, q1, pq.st s1⟩, px⟩
theorem be_callB {id : String} {o : CD} (hc : CallR X (.builtin id) (rCD W o)) (hg : Gl X x) (hm : X.mg x = none) (hv : bootBuiltins x = some (.builtin id)) (ha : BA X W Wk (e :: es) ta) (hn : x ≠ "__name__" := by decide) (hdb : (x == ("__debug__" : Str)) = false := by decide)
    (he : starEach (e :: es) X.env = (false, eval e X.env) :: starEach es X.env := by rfl) (hpl : (backTo pos (starEach es X.env)).any (·.1) = false := by rfl) : BE X W Wk (.Call (.Name x p) (e :: es) [] pos) (eB o ta) := PE.weak (pe_callB hc hg hm hv ha hn hdb he hpl) fun _ _ _ h => cb_td h
theorem be_callTy {T : String} {o : CD} (hc : CallR X (.type T) (rCD W o)) (hg : Gl X x) (hm : X.mg x = none) (hv : bootBuiltins x = some (.type T)) (ha : BA X W Wk (e :: es) ta) (hn : x ≠ "__name__" := by decide) (hdb : (x == ("__debug__" : Str)) = false := by decide)
    (he : starEach (e :: es) X.env = (false, eval e X.env) :: starEach es X.env := by rfl) (hpl : (backTo pos (starEach es X.env)).any (·.1) = false := by rfl) : BE X W Wk (.Call (.Name x p) (e :: es) [] pos) (eB o ta) := PE.weak (pe_callTy hc hg hm hv ha hn hdb he hpl) fun _ _ _ h => cb_td h
end
end PD
set_option Elab.async false
set_option linter.all false
set_option autoImplicit false
set_option maxRecDepth 100000
set_option maxHeartbeats 4000000
namespace PD
open PySem PySem.Spec PyProof.Rows L2
theorem CallR.weak {X : Cx} {f : Value} {r q : List V → Hp → VK → Prop} (h : CallR X f r) (k : ∀ x H Q, q x H Q → r x H Q) : CallR X f q := fun pins s σ H x v Q I rx z => h pins s σ H x v Q I rx (k x H Q z)
theorem CallR.or {X : Cx} {f : Value} {r q : List V → Hp → VK → Prop} (h : CallR X f r) (k : CallR X f q) : CallR X f (fun x H Q => r x H Q ∨ q x H Q) := fun pins s σ H x v Q I rx z => z.elim (h pins s σ H x v Q I rx) (k pins s σ H x v Q I rx)
def intsOf : List D → Option (List Int)
  | [] => some []
  | .int i :: ds => (intsOf ds).map (i :: ·)
  | _ :: _ => none
def strsOf : List D → Option (List Str)
  | [] => some []
  | .str i :: ds => (strsOf ds).map (i :: ·)
  | _ :: _ => none
def blsOf : List D → Option (List Bool)
  | [] => some []
  | .bl i :: ds => (blsOf ds).map (i :: ·)
  | _ :: _ => none
theorem intsOf_eq : ∀ {ds : List D} {ns : List Int}, intsOf ds = some ns → ds = ns.map D.int
  | [], ns, e => by cases e; rfl
  | d :: ds, ns, e => by
    cases d with
    | int i =>
      cases h : intsOf ds with
      | none => simp [intsOf, h] at e
      | some ms =>
        simp [intsOf, h] at e
        subst e
        rw [intsOf_eq h]
        rfl
    | _ => cases e
theorem intsOf_map (ns : List Int) : intsOf (ns.map D.int) = some ns := by
  induction ns with
  | nil => rfl
  | cons n ns ih => simp [intsOf, ih]
theorem strsOf_eq : ∀ {ds : List D} {ns : List Str}, strsOf ds = some ns → ds = ns.map D.str
  | [], ns, e => by cases e; rfl
  | d :: ds, ns, e => by
    cases d with
    | str i =>
      cases h : strsOf ds with
      | none => simp [strsOf, h] at e
      | some ms =>
        simp [strsOf, h] at e
        subst e
        rw [strsOf_eq h]
        rfl
    | _ => cases e
theorem strsOf_map (ns : List Str) : strsOf (ns.map D.str) = some ns := by
  induction ns with
  | nil => rfl
  | cons n ns ih => simp [strsOf, ih]
theorem blsOf_eq : ∀ {ds : List D} {ns : List Bool}, blsOf ds = some ns → ds = ns.map D.bl
  | [], ns, e => by cases e; rfl
  | d :: ds, ns, e => by
    cases d with
    | bl i =>
      cases h : blsOf ds with
      | none => simp [blsOf, h] at e
      | some ms =>
        simp [blsOf, h] at e
        subst e
        rw [blsOf_eq h]
        rfl
    | _ => cases e
theorem blsOf_map (ns : List Bool) : blsOf (ns.map D.bl) = some ns := by
  induction ns with
  | nil => rfl
  | cons n ns ih => simp [blsOf, ih]
section
variable {X : Cx} {W : Wo} {Wk : WX}
/-- len -/
def cLen : CD := fun ds μ Q => match ds with
  | [.str z] => z.length ≤ sizeLine ∧ Q (.int z.length) μ
  | [d] => (match seqOf d μ with | some xs => Q (.int xs.length) μ | none => False)
  | _ => False
theorem cd_len (C : TW X.K X.w W) : CallR X (.builtin "len") (rCD W cLen) := CallR.weak (CallR.or call_len_seq call_len_str) fun x H Q ⟨hid, μ, ds, Qd, sr, r, h, pq⟩ => by
  unfold cLen at h
  split at h
  · cases r with
    | cons ra rr =>
      cases rr
      cases ra
      exact .inr ⟨_, rfl, h.1, pq _ _ H μ .refl sr (.int _) h.2⟩
  · split at h
    · rename_i xs es
      cases r with
      | cons ra rr =>
        cases rr
        obtain ⟨a, vs, rfl, ha, q⟩ := seqOf_ok es sr ra
        rw [← C.hK] at ha
        exact .inl ⟨a, vs, rfl, ha, by rw [q.length]; exact pq _ _ H μ .refl sr (.int _) h⟩
    · exact h.elim
  · exact h.elim
/-- max, min of two; abs -/
def cI2 (g : Int → Int → Int) : CD := fun ds μ Q => match ds with
  | [.int i, .int j] => Q (.int (g i j)) μ
  | _ => False
theorem cd_I2 {f : Value} {g : Int → Int → Int} (h : CallR X f (fun xs H Q => ∃ i j, xs = [.int i, .int j] ∧ Q (.int (g i j)) H)) : CallR X f (rCD W (cI2 g)) := CallR.weak h fun x H Q ⟨hid, μ, ds, Qd, sr, r, h, pq⟩ => by
  unfold cI2 at h
  split at h
  · cases r with
    | cons ra rr =>
      cases rr with
      | cons rb rr =>
        cases rr
        cases ra
        cases rb
        exact ⟨_, _, rfl, pq _ _ H μ .refl sr (.int _) h⟩
  · exact h.elim
abbrev cMax2 : CD := cI2 fun i j => if j > i then j else i
abbrev cMin2 : CD := cI2 fun i j => if j < i then j else i
theorem cd_max2 (hc : X.calm = true) : CallR X (.builtin "max") (rCD W cMax2) := cd_I2 (call_max2 hc)
theorem cd_min2 (hc : X.calm = true) : CallR X (.builtin "min") (rCD W cMin2) := cd_I2 (call_min2 hc)
def cAbs : CD := fun ds μ Q => match ds with
  | [.int i] => Q (.int (if i < 0 then -i else i)) μ
  | _ => False
theorem cd_abs : CallR X (.builtin "abs") (rCD W cAbs) := CallR.weak call_abs fun x H Q ⟨hid, μ, ds, Qd, sr, r, h, pq⟩ => by
  unfold cAbs at h
  split at h
  · cases r with
    | cons ra rr =>
      cases rr
      cases ra
      exact ⟨_, rfl, pq _ _ H μ .refl sr (.int _) h⟩
  · exact h.elim
/-- str(int); int(bool), int(int), int(text) -/
def cStr : CD := fun ds μ Q => match ds with
  | [.int i] => i.natAbs.log2 < 1920 ∧ Q (.str (toString i)) μ
  | [.str a] => Q (.str a) μ
  | _ => False
theorem cd_str : CallR X (.type "str") (rCD W cStr) := CallR.weak (CallR.or call_str_int SkE.call_str_str) fun x H Q ⟨hid, μ, ds, Qd, sr, r, h, pq⟩ => by
  unfold cStr at h
  split at h
  · cases r with
    | cons ra rr =>
      cases rr
      cases ra
      exact .inl ⟨_, rfl, h.1, pq _ _ H μ .refl sr (.str _) h.2⟩
  · cases r with
    | cons ra rr =>
      cases rr
      cases ra
      exact .inr ⟨_, rfl, pq _ _ H μ .refl sr (.str _) h⟩
  · exact h.elim
def cInt : CD := fun ds μ Q => match ds with
  | [.int i] => Q (.int i) μ
  | [.bl b] => Q (.int (if b then 1 else 0)) μ
  | [.str a] => a.length ≤ 640 ∧ (match PySem.intText? a with | some n => Q (.int n) μ | none => False)
  | _ => False
theorem cd_int : CallR X (.type "int") (rCD W cInt) := CallR.weak (CallR.or call_int1 call_int_str) fun x H Q ⟨hid, μ, ds, Qd, sr, r, h, pq⟩ => by
  unfold cInt at h
  split at h
  · cases r with
    | cons ra rr =>
      cases rr
      cases ra
      exact .inl (.inl ⟨_, rfl, pq _ _ H μ .refl sr (.int _) h⟩)
  · cases r with
    | cons ra rr =>
      cases rr
      cases ra
      exact .inl (.inr ⟨_, rfl, pq _ _ H μ .refl sr (.int _) h⟩)
  · cases r with
    | cons ra rr =>
      cases rr
      cases ra
      obtain ⟨hl, h⟩ := h
      split at h
      · rename_i n hn
        exact .inr ⟨_, n, rfl, hn, hl, pq _ _ H μ .refl sr (.int _) h⟩
      · exact h.elim
  · exact h.elim
/-- list(x), tuple(x) -/
def cList (m : Bool) : CD := fun ds μ Q => match ds with
  | [d] => (match seqOf d μ with | some xs => newL m xs μ Q | none => False)
  | _ => False
theorem cd_list {m : Bool} (C : TW X.K X.w W) : CallR X (.type "list") (rCD W (cList m)) := CallR.weak call_list_of fun x H Q ⟨hid, μ, ds, Qd, sr, r, h, pq⟩ => by
  unfold cList at h
  split at h
  · split at h
    · rename_i xs es
      cases r with
      | cons ra rr =>
        cases rr
        obtain ⟨a, vs, rfl, ha, q⟩ := seqOf_ok es sr ra
        rw [← C.hK] at ha
        exact ⟨a, vs, rfl, ha, fun l hl => newL_ok sr q hl h pq⟩
    · exact h.elim
  · exact h.elim
def cTuple : CD := fun ds μ Q => match ds with
  | [d] => (match seqOf d μ with | some xs => Q (.tup xs) μ | none => False)
  | _ => False
theorem cd_tuple (C : TW X.K X.w W) : CallR X (.type "tuple") (rCD W cTuple) := CallR.weak call_tuple_of fun x H Q ⟨hid, μ, ds, Qd, sr, r, h, pq⟩ => by
  unfold cTuple at h
  split at h
  · rename_i d
    split at h
    · rename_i xs es
      cases r with
      | cons ra rr =>
        cases rr
        by_cases ht : ∃ ys, d = .tup ys
        · obtain ⟨ys, rfl⟩ := ht
          cases es
          obtain ⟨a, vs, rfl, ha, q⟩ := tup_ok ra
          rw [← C.hK] at ha
          exact ⟨a, vs, rfl, .inr ⟨ha, pq _ _ H μ .refl sr ra h⟩⟩
        · have el : lstOf d μ = some xs := by
            cases d <;> first | exact es | exact absurd ⟨_, rfl⟩ ht
          obtain ⟨a, vs, rfl, ha, q⟩ := lstOf_ok el sr ra
          rw [← C.hK] at ha
          exact ⟨a, vs, rfl, .inl ⟨ha, fun l hl => newT_ok sr q hl h pq⟩⟩
    · exact h.elim
  · exact h.elim
/-- sum, max, min, all, any of a list -/
def cSum : CD := fun ds μ Q => match ds with
  | [d] => (match (lstOf d μ).bind intsOf with | some ns => Q (.int ns.sum) μ | none => False)
  | _ => False
theorem bind_ints {d : D} {μ : Mu} {ns : List Int} (e : (lstOf d μ).bind intsOf = some ns) : lstOf d μ = some (ns.map D.int) := by
  cases h : lstOf d μ with
  | none => rw [h] at e; cases e
  | some xs =>
    rw [h] at e
    rw [intsOf_eq e]
theorem bind_bls {d : D} {μ : Mu} {ns : List Bool} (e : (lstOf d μ).bind blsOf = some ns) : lstOf d μ = some (ns.map D.bl) := by
  cases h : lstOf d μ with
  | none => rw [h] at e; cases e
  | some xs =>
    rw [h] at e
    rw [blsOf_eq e]
theorem bind_strs {d : D} {μ : Mu} {ns : List Str} (e : (seqOf d μ).bind strsOf = some ns) : seqOf d μ = some (ns.map D.str) := by
  cases h : seqOf d μ with
  | none => rw [h] at e; cases e
  | some xs =>
    rw [h] at e
    rw [strsOf_eq e]
theorem cd_sum (C : TW X.K X.w W) (hc : X.calm = true) : CallR X (.builtin "sum") (rCD W cSum) := CallR.weak (cr_sum hc) fun x H Q ⟨hid, μ, ds, Qd, sr, r, h, pq⟩ => by
  unfold cSum at h
  split at h
  · split at h
    · rename_i ns es
      cases r with
      | cons ra rr =>
        cases rr
        obtain ⟨a, vs, rfl, ha, q⟩ := lstOf_ok (bind_ints es) sr ra
        rw [← C.hK] at ha
        rw [reps_ints q] at ha
        exact ⟨a, ns, rfl, ha, pq _ _ H μ .refl sr (.int _) h⟩
    · exact h.elim
  · exact h.elim
def cMaxL : CD := fun ds μ Q => match ds with
  | [d] => (match (lstOf d μ).bind intsOf with | some ns => 0 < ns.length ∧ ∀ m, m ∈ ns → (∀ y, y ∈ ns → y ≤ m) → Q (.int m) μ | none => False)
  | _ => False
theorem cd_maxL (C : TW X.K X.w W) (hc : X.calm = true) : CallR X (.builtin "max") (rCD W cMaxL) := CallR.weak (cr_max hc) fun x H Q ⟨hid, μ, ds, Qd, sr, r, h, pq⟩ => by
  unfold cMaxL at h
  split at h
  · split at h
    · rename_i ns es
      cases r with
      | cons ra rr =>
        cases rr
        obtain ⟨a, vs, rfl, ha, q⟩ := lstOf_ok (bind_ints es) sr ra
        rw [← C.hK] at ha
        rw [reps_ints q] at ha
        exact ⟨a, ns, rfl, ha, h.1, fun m h1 h2 => pq _ _ H μ .refl sr (.int _) (h.2 m h1 h2)⟩
    · exact h.elim
  · exact h.elim
def cAll (g : List Bool → Bool) : CD := fun ds μ Q => match ds with
  | [d] => (match (lstOf d μ).bind blsOf with | some ns => Q (.bl (g ns)) μ | none => False)
  | _ => False
theorem cd_all (C : TW X.K X.w W) (hc : X.calm = true) : CallR X (.builtin "all") (rCD W (cAll fun bs => bs.all id)) := CallR.weak (cr_all hc) fun x H Q ⟨hid, μ, ds, Qd, sr, r, h, pq⟩ => by
  unfold cAll at h
  split at h
  · split at h
    · rename_i ns es
      cases r with
      | cons ra rr =>
        cases rr
        obtain ⟨a, vs, rfl, ha, q⟩ := lstOf_ok (bind_bls es) sr ra
        rw [← C.hK] at ha
        rw [reps_bls q] at ha
        exact ⟨a, ns, rfl, ha, pq _ _ H μ .refl sr (.bl _) h⟩
    · exact h.elim
  · exact h.elim
theorem cd_any (C : TW X.K X.w W) (hc : X.calm = true) : CallR X (.builtin "any") (rCD W (cAll fun bs => bs.any id)) := CallR.weak (cr_any hc) fun x H Q ⟨hid, μ, ds, Qd, sr, r, h, pq⟩ => by
  unfold cAll at h
  split at h
  · split at h
    · rename_i ns es
      cases r with
      | cons ra rr =>
        cases rr
        obtain ⟨a, vs, rfl, ha, q⟩ := lstOf_ok (bind_bls es) sr ra
        rw [← C.hK] at ha
        rw [reps_bls q] at ha
        exact ⟨a, ns, rfl, ha, pq _ _ H μ .refl sr (.bl _) h⟩
    · exact h.elim
  · exact h.elim
/-! ### methods of built-in types -/
abbrev MD := D → List D → Mu → QD → Prop
def rMD (W : Wo) (o : MD) : V → List V → Hp → VK → Prop := fun x vs H Q => ∃ hid μ d ds Qd, SR W hid H μ ∧ Rep W hid H μ x d ∧ Reps W hid H μ vs ds ∧ o d ds μ Qd ∧ PQ W hid H μ Qd Q
def tyD (T : String) (d : D) (μ : Mu) : Prop := match d with
  | .str _ => T = "str"
  | .int _ => T = "int"
  | d => (T = "list" ∧ (lstOf d μ).isSome = true) ∨ (T = "dict" ∧ (dicOf d μ).isSome = true)
theorem tyD_ok {T : String} {hid : Hid} {H : Hp} {μ : Mu} {v : V} {d : D} (C : TW X.K X.w W) (sr : SR W hid H μ) (r : Rep W hid H μ v d) (h : tyD T d μ) : tyV X.K T v H := by
  unfold tyD at h
  split at h
  · cases r; exact h
  · cases r; exact h
  · rcases h with ⟨rfl, h⟩ | ⟨rfl, h⟩
    · obtain ⟨xs, e⟩ := Option.isSome_iff_exists.mp h
      obtain ⟨a, vs, rfl, ha, _⟩ := lstOf_ok e sr r
      rw [← C.hK] at ha
      exact .inl ⟨rfl, vs, ha⟩
    · obtain ⟨xs, e⟩ := Option.isSome_iff_exists.mp h
      obtain ⟨a, es, rfl, ha, _⟩ := dicOf_ok sr e r
      exact .inr (.inr (.inl ⟨rfl, .inl ⟨es, ha⟩⟩))
def eM (T : String) (o : MD) (td : TDE) (ta : TDA) : TDE := fun Xd ρ μ Q => td Xd ρ μ fun d μ1 => tyD T d μ1 ∧ ta Xd ρ μ1 fun ds μ2 => o d ds μ2 Q
theorem be_bm {T id : String} {name : Str} {o : MD} {ob e : Expr} {es : List Expr} {td : TDE} {ta : TDA} {apos cpos : Pos} (C : TW X.K X.w W) (pa : PlainAttrs T) (slot : Slot T name id) (hty : typeOf (.builtin id) = pure (.type "method_descriptor")) (hm : MtR X id (rMD W o)) (ho : BE X W Wk ob td) (ha : BA X W Wk (e :: es) ta)
    (hb : attributeBase ob name X.env (eval ob X.env) = eval ob X.env := by rfl)
    (hfew : ((backTo cpos (starEach (e :: es) X.env)).all (fun x => !x.1) && (backToKw cpos (keywordEach [] X.env)).all (fun x => x.1.isSome) && decide ((e :: es).length + ([] : List Keyword).length + (if ([] : List Keyword).isEmpty then 0 else 1) < 30)) = true := by rfl)
    (hline : (apos.endLine == cpos.line) = true := by rfl) (hs : starEach (e :: es) X.env = (false, eval e X.env) :: starEach es X.env := by rfl) (hpl : (backTo cpos (starEach es X.env)).any (·.1) = false := by rfl) :
    BE X W Wk (.Call (.Attribute ob name apos) (e :: es) [] cpos) (eM T o td ta) := PE.weak (pe_bm pa slot hty hm ho ha hb hfew hline hs hpl) fun σ H Q ⟨hid, ρ, μ, Xd, Qd, rel, sr, q, pq, px⟩ => by
  refine ⟨hid, ρ, μ, Xd, _, rel, sr, q, fun v d H1 μ1 s1 sr1 r1 q1 => ⟨tyD_ok C sr1 r1 q1.1, ?_⟩, px⟩
  refine ⟨hid, ρ, μ1, Xd, _, rel_mono s1.ok rel, sr1, q1.2, fun vs ds H2 μ2 s2 sr2 r2 q2 => ?_, px.st s1⟩
  exact ⟨hid, μ2, d, ds, Qd, sr2, r1.mono s2.ok, r2, q2, pq.st (s1.trans s2)⟩
theorem be_bm0 {T id : String} {name : Str} {o : MD} {ob : Expr} {td : TDE} {apos cpos : Pos} (C : TW X.K X.w W) (pa : PlainAttrs T) (slot : Slot T name id) (hty : typeOf (.builtin id) = pure (.type "method_descriptor")) (hm : MtR X id (rMD W o)) (ho : BE X W Wk ob td)
    (hb : attributeBase ob name X.env (eval ob X.env) = eval ob X.env := by rfl) (hline : (apos.endLine == cpos.line) = true := by rfl) :
    BE X W Wk (.Call (.Attribute ob name apos) [] [] cpos) (eM T o td aNil) := PE.weak (pe_bm0 pa slot hty hm ho hb hline) fun σ H Q ⟨hid, ρ, μ, Xd, Qd, rel, sr, q, pq, px⟩ =>
  ⟨hid, ρ, μ, Xd, _, rel, sr, q, fun v d H1 μ1 s1 sr1 r1 q1 => ⟨tyD_ok C sr1 r1 q1.1, hid, μ1, d, [], Qd, sr1, r1, .nil, q1.2, pq.st s1⟩, px⟩
theorem MtR.weak {id : String} {r q : V → List V → Hp → VK → Prop} (h : MtR X id r) (k : ∀ x vs H Q, q x vs H Q → r x vs H Q) : MtR X id q := fun pins s σ H x xs v us Q I rx rs z => h pins s σ H x xs v us Q I rx rs (k x xs H Q z)
/-- a list of the store -/
def lstS (d : D) (μ : Mu) (k : Addr → List D → Prop) : Prop := match d with
  | .ptr a => (match μ a with | some (.lst xs) => k a xs | _ => False)
  | _ => False
theorem lstS_ok {hid : Hid} {H : Hp} {μ : Mu} {v : V} {d : D} {k : Addr → List D → Prop} (sr : SR W hid H μ) (r : Rep W hid H μ v d) (h : lstS d μ k) : ∃ a xs vs, v = .ref a ∧ μ a = some (.lst xs) ∧ H a = some (.lst vs) ∧ Reps W hid H μ vs xs ∧ k a xs := by
  unfold lstS at h
  split at h
  · rename_i a
    cases r
    split at h
    · rename_i xs hm
      obtain ⟨vs, ha, q⟩ := (sr.at_ a _ hm).2
      exact ⟨a, xs, vs, rfl, hm, ha, q, h⟩
    · exact h.elim
  · exact h.elim
/-- it becomes another list -/
theorem put_lst {hid : Hid} {H : Hp} {μ : Mu} {a : Addr} {m : MO} {vs : List V} {ds : List D} {Qd : QD} {Q : VK} {u : V} {z : D} (sr : SR W hid H μ) (hm : μ a = some m) (r : Reps W hid H μ vs ds) (ru : Rep W hid H μ u z) (q : Qd z (μ.set a (.lst ds))) (pq : PQ W hid H μ Qd Q) : Q u (upd H a (.lst vs)) :=
  have hp : MO.plain (.lst ds) := True.intro
  pq _ _ _ _ (St.put hm hp) (sr.put hm hp ⟨_, upd_same, r.mono (St.put hm hp).ok⟩) (ru.mono (St.put hm hp).ok) q
def mAppend : MD := fun d ds μ Q => match ds with
  | [y] => lstS d μ fun a xs => xs.length < sizeLine ∧ Q .non (μ.set a (.lst (xs ++ [y])))
  | _ => False
theorem md_append : MtR X "list.append" (rMD W mAppend) := MtR.weak mt_append fun x vs H Q ⟨hid, μ, d, ds, Qd, sr, r, rs, h, pq⟩ => by
  unfold mAppend at h
  split at h
  · cases rs with
    | cons ra rr =>
      cases rr
      obtain ⟨a, xs, us, rfl, hm, ha, q, h⟩ := lstS_ok sr r h
      exact ⟨a, us, _, rfl, rfl, ha, by rw [q.length]; exact h.1, put_lst sr hm (q.append (.cons ra .nil)) .non h.2 pq⟩
  · exact h.elim
def mExtend : MD := fun d ds μ Q => match ds with
  | [e] => lstS d μ fun a xs => (match lstW e μ with | some ys => xs.length + ys.length ≤ sizeLine ∧ Q .non (μ.set a (.lst (xs ++ ys))) | none => False)
  | _ => False
theorem md_extend : MtR X "list.extend" (rMD W mExtend) := MtR.weak mt_extend fun x vs H Q ⟨hid, μ, d, ds, Qd, sr, r, rs, h, pq⟩ => by
  unfold mExtend at h
  split at h
  · cases rs with
    | cons ra rr =>
      cases rr
      obtain ⟨a, xs, us, rfl, hm, ha, q, h⟩ := lstS_ok sr r h
      split at h
      · rename_i ys ey
        obtain ⟨b, ws, rfl, hb, qb⟩ := lstW_ok ey sr ra
        exact ⟨a, b, us, ws, rfl, rfl, ha, hb, by rw [q.length, qb.length]; exact h.1, put_lst sr hm (q.append qb) .non h.2 pq⟩
      · exact h.elim
  · exact h.elim
/-- text.join, text.split -/
def mJoin : MD := fun d ds μ Q => match d, ds with
  | .str a, [e] => (match (seqOf e μ).bind strsOf with | some ys => (ys.map (·.length)).sum + ys.length * a.length ≤ 16777216 ∧ Q (.str (Txt.join a ys)) μ | none => False)
  | _, _ => False
theorem md_join (C : TW X.K X.w W) : MtR X "str.join" (rMD W mJoin) := MtR.weak mt_join fun x vs H Q ⟨hid, μ, d, ds, Qd, sr, r, rs, h, pq⟩ => by
  unfold mJoin at h
  split at h
  · cases r
    cases rs with
    | cons ra rr =>
      cases rr
      split at h
      · rename_i ys ey
        obtain ⟨p, us, rfl, hp, q⟩ := seqOf_ok (bind_strs ey) sr ra
        rw [reps_strs q, ← C.hK] at hp
        exact ⟨_, p, ys, rfl, rfl, hp, h.1, pq _ _ H μ .refl sr (.str _) h.2⟩
      · exact h.elim
  · exact h.elim
def mSplit (m : Bool) : MD := fun d ds μ Q => match d, ds with
  | .str a, [.str b] => (b.length == 0) = false ∧ a.length + 2 ≤ sizeLine ∧ newL m ((Txt.split a b).map D.str) μ Q
  | _, _ => False
theorem md_split {m : Bool} : MtR X "str.split" (rMD W (mSplit m)) := MtR.weak mt_split fun x vs H Q ⟨hid, μ, d, ds, Qd, sr, r, rs, h, pq⟩ => by
  unfold mSplit at h
  split at h
  · cases r
    cases rs with
    | cons ra rr =>
      cases rr
      cases ra
      exact ⟨_, _, rfl, rfl, h.1, h.2.1, fun p hp => newL_ok sr strs_reps hp h.2.2 pq⟩
  · exact h.elim
end
end PD
set_option Elab.async false
set_option linter.all false
set_option autoImplicit false
set_option maxRecDepth 100000
set_option maxHeartbeats 4000000
namespace PD
open PySem PySem.Spec PyProof.Rows L2
section
variable {X : Cx} {W : Wo} {Wk : WX}
theorem be_tup {es : List Expr} {ta : TDA} {x1} {pos : Pos} (h : BA X W Wk es ta) : BE X W Wk (.Tuple es x1 pos) (eTup ta) := PE.weak (pe_tup h) fun σ H Q ⟨hid, ρ, μ, Xd, Qd, rel, sr, q, pq, px⟩ =>
  ⟨hid, ρ, μ, Xd, _, rel, sr, q, fun vs ds H1 μ1 s1 sr1 r1 q1 => ⟨by rw [r1.length]; exact q1.1, fun p hp => newT_ok sr1 r1 hp q1.2 (pq.st s1)⟩, px⟩
theorem be_lst {m : Bool} {es : List Expr} {ta : TDA} {pos : Pos} (h : BA X W Wk es ta) : BE X W Wk (.List es pos) (eLst m ta) := PE.weak (pe_lst h) fun σ H Q ⟨hid, ρ, μ, Xd, Qd, rel, sr, q, pq, px⟩ =>
  ⟨hid, ρ, μ, Xd, _, rel, sr, q, fun vs ds H1 μ1 s1 sr1 r1 q1 => ⟨by rw [r1.length]; exact q1.1, fun p hp => newL_ok sr1 r1 hp q1.2 (pq.st s1)⟩, px⟩
/-! ### a thing of the store becomes a tree -/
def Mu.del (μ : Mu) (a : Addr) : Mu := fun b => if b = a then none else μ b
theorem Mu.del_le {μ : Mu} {a : Addr} : Le (μ.del a) μ := fun b => by
  unfold Mu.del
  split
  · exact .inl rfl
  · exact .inr rfl
theorem Mu.del_same {μ : Mu} {a : Addr} : (μ.del a) a = none := if_pos rfl
theorem Mu.del_ne {μ : Mu} {a b : Addr} (h : b ≠ a) : (μ.del a) b = μ b := if_neg h
theorem Mu.inter_del {μ μ' : Mu} {p : Addr} (h : μ p = none) : (μ'.del p).inter μ = μ'.inter μ := by
  funext b
  unfold Mu.inter
  by_cases e : b = p
  · subst e
    rw [h]
    rfl
  · rw [Mu.del_ne e]
def frz1 (d : D) (μ : Mu) (k : D → Mu → Prop) : Prop := match d with
  | .ptr a => (match μ a with | some (.lst ds) => k (.lst ds) (μ.del a) | _ => k d μ)
  | d => k d μ
def frzL : List D → Mu → (List D → Mu → Prop) → Prop
  | [], μ, k => k [] μ
  | d :: ds, μ, k => frz1 d μ fun d' μ1 => frzL ds μ1 fun ds' μ2 => k (d' :: ds') μ2
def frz (d : D) (μ : Mu) (k : D → Mu → Prop) : Prop := match d with
  | .tup ds => frzL ds μ fun ds' μ1 => k (.tup ds') μ1
  | d => frz1 d μ k
theorem deal_l {μ : Mu} {hid : Hid} {H : Hp} {a d : Addr} {xs : List D} (sr : SR W hid H μ) (hm : μ a = some (.lst xs)) : μ d ≠ some (.deal a) := fun e => by
  have := (sr.inn d a e).1
  rw [hm] at this
  cases this
theorem frz1_ok {hid : Hid} {H : Hp} {μ : Mu} {v : V} {d : D} {k : D → Mu → Prop} (sr : SR W hid H μ) (r : Rep W hid H μ v d) (h : frz1 d μ k) : ∃ d' μ', Le μ' μ ∧ Rep W hid H μ' v d' ∧ k d' μ' := by
  unfold frz1 at h
  split at h
  · rename_i a
    split at h
    · rename_i ds hm
      cases r
      obtain ⟨vs, ha, q⟩ := (sr.at_ a _ hm).2
      refine ⟨_, _, Mu.del_le, .lst ha ⟨Mu.del_same, fun e' e2 => ?_⟩ (sr.at_ a _ hm).1 (q.mono Mu.del_le.st.ok), h⟩
      have : μ e' = some (.deal a) := by
        unfold Mu.del at e2
        split at e2
        · cases e2
        · exact e2
      exact deal_l sr hm this
    · exact ⟨_, _, fun _ => .inr rfl, r, h⟩
  · exact ⟨_, _, fun _ => .inr rfl, r, h⟩
theorem Le.trans {μ μ1 μ2 : Mu} (a : Le μ1 μ) (b : Le μ2 μ1) : Le μ2 μ := fun x => by
  rcases b x with h | h
  · exact .inl h
  · rw [h]
    exact a x
theorem frzL_ok {hid : Hid} {H : Hp} : ∀ {μ : Mu} {vs : List V} {ds : List D} {k : List D → Mu → Prop}, SR W hid H μ → Reps W hid H μ vs ds → frzL ds μ k → ∃ ds' μ', Le μ' μ ∧ Reps W hid H μ' vs ds' ∧ k ds' μ'
  | μ, _, _, k, sr, .nil, h => ⟨[], μ, fun _ => .inr rfl, .nil, h⟩
  | μ, _, _, k, sr, .cons r rs, h => by
    obtain ⟨d', μ1, l1, r1, h1⟩ := frz1_ok sr r h
    obtain ⟨ds', μ2, l2, r2, h2⟩ := frzL_ok (sr.le l1) (rs.mono l1.st.ok) h1
    exact ⟨d' :: ds', μ2, l1.trans l2, .cons (r1.mono l2.st.ok) r2, h2⟩
theorem frz_ok {hid : Hid} {H : Hp} {μ : Mu} {v : V} {d : D} {k : D → Mu → Prop} (sr : SR W hid H μ) (r : Rep W hid H μ v d) (h : frz d μ k) : ∃ d' μ', Le μ' μ ∧ Rep W hid H μ' v d' ∧ k d' μ' := by
  unfold frz at h
  split at h
  · cases r with
    | tup h0 i n q =>
      obtain ⟨ds', μ1, l1, r1, h1⟩ := frzL_ok sr q h
      exact ⟨_, μ1, l1, .tup h0 (l1.im i) n r1, h1⟩
    | tupK h0 q =>
      obtain ⟨ds', μ1, l1, r1, h1⟩ := frzL_ok sr q h
      exact ⟨_, μ1, l1, .tupK h0 r1, h1⟩
  · exact frz1_ok sr r h
def sRetF (te : TDE) : TDS := fun E Xd ρ μ => te Xd ρ μ fun d μ1 => frz d μ1 E.rt
theorem bs_retF {e : Expr} {te : TDE} {pos : Pos} (he : BE X W Wk e te) : BS X W Wk (.Return (some e) pos) (sRetF te) := PS.weak (ps_ret he) fun E σ H ⟨hid, ρ, μ, Xd, Dd, rel, sr, q, pe, px⟩ =>
  ⟨hid, ρ, μ, Xd, _, rel, sr, q, fun v d H1 μ1 s1 sr1 r1 q1 => by
    obtain ⟨d', μ2, l2, r2, q2⟩ := frz_ok sr1 r1 q1
    exact pe.rt v d' H1 μ2 (s1.trans l2.st) (sr1.le l2) r2 q2, px.at_ rel⟩
/-! ### the law's draws -/
def F_draw : FD := fun ds μ Q _ => match ds with
  | [.ptr d, .int many] => (∃ l, μ d = some (.deal l)) ∧ 0 < many ∧ many ≤ 340282366920938463463374607431768211456 ∧ ∀ r : Int, 0 ≤ r → r < many → Q (.int r) μ
  | _ => False
theorem keep_ok {hid : Hid} {H H' : Hp} {μ : Mu} {d l : Addr} (sr : SR W hid H μ) (hm : μ d = some (.deal l)) (D' : LB.Deal d l H') (K : LB.Keep d l H H') : St H μ H' μ ∧ SR W hid H' μ := by
  have st : St H μ H' μ := fun a o h i => by
    have n1 : a ≠ d := fun e => by
      subst e
      have := i.1
      rw [hm] at this
      cases this
    have n2 : a ≠ l := fun e => by
      subst e
      exact i.2 d hm
    exact ⟨K a o h n1 n2, i⟩
  refine ⟨st, ⟨fun a m h => ⟨(sr.at_ a m h).1, ?_⟩, sr.inn, sr.one, sr.hst st⟩⟩
  by_cases e : a = d
  · subst e
    rw [hm] at h
    cases h
    exact D'
  · have nl : a ≠ l := fun z => by
      subst z
      have := (sr.inn d a hm).1
      rw [h] at this
      cases this
    obtain ⟨o, ho⟩ := sr.known h
    refine (sr.at_ a m h).2.mono st.ok ((K a o ho e nl).trans ho.symm) fun l' e2 => ?_
    subst e2
    have n1 : l' ≠ d := fun z => by
      subst z
      have := (sr.inn a l' h).1
      rw [hm] at this
      cases this
    have n2 : l' ≠ l := fun z => by
      subst z
      exact e (sr.one a d l' h hm)
    obtain ⟨o', ho'⟩ := sr.inner h
    exact (K l' o' ho' n1 n2).trans ho'.symm
theorem draw_sp {vs : List V} {H : Hp} {Q : VK} {E : XK} (h : spD W 2 F_draw vs H Q E) : LB.spDraw vs H Q E := by
  obtain ⟨hid, ds, μ, Qd, Xd, hn, r, sr, q, pq, pf⟩ := h
  unfold F_draw at q
  split at q
  · rename_i d many
    obtain ⟨⟨l, hm⟩, h0, h1, q⟩ := q
    cases r with
    | cons ra rr =>
      cases rr with
      | cons rb rr =>
        cases rr
        cases ra
        cases rb
        refine ⟨d, l, many, rfl, (sr.at_ d _ hm).2, h0, h1, fun r H' r0 r1 D' K' => ?_⟩
        obtain ⟨st, sr'⟩ := keep_ok sr hm D' K'
        exact pq _ _ H' μ st sr' (.int _) (q r r0 r1)
  · exact q.elim
end
section
variable {P : Program} {w : World} {K : PySem.W.Frag} {mg : Str → Option Value} {base : Heap} {W : Wo}
/-- a def that raises nothing, as one that might -/
theorem DefOk_sp {k : Nat} {x : Str} {ps : List Str} {sp sp' : Sp} (D : LB.DefOk P w K mg base k x ps sp) (h : ∀ vs H Q E, sp' vs H Q E → sp vs H Q E) : LB.DefOk P w K mg base k x ps sp' := by
  obtain ⟨f, fd, F, h1, h2, h3⟩ := D.ex
  exact ⟨f, fd, F.imp h, h1, h2, h3⟩
theorem DefOk_x {k : Nat} {x : Str} {ps : List Str} {sp : Sp} (D : LB.DefOk P w K mg base k x ps sp) : LB.DefX P w K mg base k x ps [] sp := by
  obtain ⟨f, fd, F, h1, h2, h3⟩ := D.ex
  refine ⟨f, fd, [], ⟨F.len, fun A outer s H args us vs Q E hr he hb hv hs => ?_⟩, h1, h2, h3, .nil⟩
  refine codeAny_mono (F.run A outer s H args us vs Q E hr he hb hv hs) fun r s' hq => ?_
  cases r with
  | error e => exact hq.elim
  | ok fl => cases fl <;> exact hq
theorem ok_draw {k : Nat} {ps : List Str} (D : LB.DefOk P w K mg base k "_law_draw" ps LB.spDraw) : LB.DefX P w K mg base k "_law_draw" ps [] (spD W 2 F_draw) := DefOk_x (DefOk_sp D fun _ _ _ _ h => draw_sp h)
def F_deal : FD := fun ds μ Q _ => match ds with
  | [.scr ns, .int b] => ns.length ≤ 63 ∧ 0 ≤ b ∧ b ≤ 1000 ∧ ∀ d l, Im μ d → Im μ l → d ≠ l → Q (.ptr d) (μ.set d (.deal l))
  | _ => False
theorem deal_new {hid : Hid} {H H' : Hp} {μ : Mu} {d l : Addr} (sr : SR W hid H μ) (hd : H d = none) (hl : H l = none) (D' : LB.Deal d l H') (K : Same H H') : St H μ H' (μ.set d (.deal l)) ∧ SR W hid H' (μ.set d (.deal l)) := by
  have ndl : d ≠ l := by
    obtain ⟨_, _, _, C⟩ := D'
    exact C.ne
  have st : St H μ H' (μ.set d (.deal l)) := fun a o h i => by
    have n1 := ne_of_none h hd
    have n2 := ne_of_none h hl
    refine ⟨K a o h, by rw [Mu.set_ne n1]; exact i.1, fun e z => ?_⟩
    by_cases q : e = d
    · subst q
      rw [Mu.set_same] at z
      cases z
      exact n2 rfl
    · rw [Mu.set_ne q] at z
      exact i.2 e z
  have fl := sr.fresh hl
  have fd := sr.fresh hd
  refine ⟨st, ⟨fun a m h => ?_, fun e l' h => ?_, fun e e' l' h h' => ?_, sr.hst st⟩⟩
  · by_cases e : a = d
    · subst e
      rw [Mu.set_same] at h
      cases h
      exact ⟨sr.nhid hd, D'⟩
    · rw [Mu.set_ne e] at h
      obtain ⟨o, ho⟩ := sr.known h
      refine ⟨(sr.at_ a m h).1, (sr.at_ a m h).2.mono st.ok ((K a o ho).trans ho.symm) fun l' e2 => ?_⟩
      subst e2
      obtain ⟨o', ho'⟩ := sr.inner h
      exact (K l' o' ho').trans ho'.symm
  · by_cases q : e = d
    · subst q
      rw [Mu.set_same] at h
      cases h
      exact ⟨by rw [Mu.set_ne (Ne.symm ndl)]; exact fl.1, sr.nhid hl⟩
    · rw [Mu.set_ne q] at h
      obtain ⟨o', ho'⟩ := sr.inner h
      rw [Mu.set_ne (ne_of_none ho' hd)]
      exact sr.inn e l' h
  · by_cases q : e = d
    · by_cases q' : e' = d
      · rw [q, q']
      · rw [q, Mu.set_same] at h
        cases h
        rw [Mu.set_ne q'] at h'
        exact absurd h' (fl.2 e')
    · rw [Mu.set_ne q] at h
      by_cases q' : e' = d
      · rw [q', Mu.set_same] at h'
        cases h'
        exact absurd h (fl.2 e)
      · rw [Mu.set_ne q'] at h'
        exact sr.one e e' l' h h'
theorem deal_sp {vs : List V} {H : Hp} {Q : VK} {E : XK} (hK : K = W.K) (h : spD W 2 F_deal vs H Q E) : LB.spDeal K vs H Q E := by
  obtain ⟨hid, ds, μ, Qd, Xd, hn, r, sr, q, pq, pf⟩ := h
  unfold F_deal at q
  split at q
  · rename_i ns b
    obtain ⟨h0, h1, h2, q⟩ := q
    cases r with
    | cons ra rr =>
      cases rr with
      | cons rb rr =>
        cases rr
        cases rb
        have key : ∃ a, (V.ref a) = (V.ref a) ∧ True := ⟨0, rfl, trivial⟩
        obtain ⟨a, vs', e, ha, qa⟩ := lstOf_ok (ds := ns.map D.int) rfl sr ra
        rw [reps_ints qa] at ha
        refine ⟨a, ns, b, by rw [e], by rw [hK]; exact ha, h0, h1, h2, fun d l H' hd hl D' s' => ?_⟩
        obtain ⟨st, sr'⟩ := deal_new sr hd hl D' s'
        have ndl : d ≠ l := by
          obtain ⟨_, _, _, C⟩ := D'
          exact C.ne
        exact pq _ _ H' _ st sr' (.ptr d) (q d l (sr.fresh hd) (sr.fresh hl) ndl)
  · exact q.elim
theorem ok_deal {k : Nat} {ps : List Str} (hK : K = W.K) (D : LB.DefOk P w K mg base k "_law_deal" ps (LB.spDeal K)) : LB.DefX P w K mg base k "_law_deal" ps [] (spD W 2 F_deal) := DefOk_x (DefOk_sp D fun _ _ _ _ h => deal_sp hK h)
end
end PD
set_option Elab.async false
set_option linter.all false
set_option autoImplicit false
set_option maxRecDepth 100000
set_option maxHeartbeats 4000000
namespace PD
open PySem PySem.Spec PyProof.Rows L2
/-! ### own classes -/
structure MethX (P : Program) (w : World) (K : PySem.W.Frag) (mg : Str → Option Value) (base : Heap) (k : Nat) (C : Addr) (m : Str) (ps : List Str) (dvs : List V) (sp : Sp) : Prop where
  ex : ∃ (f : Addr) (fd : FuncData) (ds : List Value), FnOk P w K mg base (L2.CX P w) k f fd ps sp ∧ PySem.W.findIn K (.ref C) m = some (some (.ref f)) ∧ PySem.W.isFn K (.ref f) = true ∧ PySem.W.keepIn K (.ref f) = true ∧ Binds K fd ps ds ∧ Vals dvs ds
section
variable {P : Program} {w : World} {K : PySem.W.Frag} {mg : Str → Option Value} {base : Heap} {W : Wo}
theorem TopMeth_okD {C : Addr} {m qual : Str} {st : Stmt} {N ps : List Str} {k : Nat} {ts : TDS} (F : LB.TopMeth K C m qual st ps) (S : FnScope N ps (defScope st))
    (hbody : ∀ (f : Addr) (cdv : Value) (A : Around) (outer : List PySem.Env) (s : Shared) (H : Hp) (E : XK), Room k (A.deeper (envOfC qual (defScope st) s.heap.objs.size f cdv)) →
      BSs (cxOf (L2.CX P w) P w K mg base N qual (defScope st) f cdv A outer s H E) W (fun cls d _ H => E cls d H) (defBody st) ts) : MethX P w K mg base (k + 1) C m ps [] (spD W ps.length (fnD N.length ts)) := by
  obtain ⟨f, fd, F, hm, hi, b⟩ := F.ex
  refine ⟨f, fd, [], F.okX S (fun vs H Q E h => ?_) fun cdv A outer s H vs Q E hr h => ⟨_, hbody f cdv A outer s H E hr, body_ok h⟩, hm, hi, F.kp, b, .nil⟩
  obtain ⟨hid, ds, μ, Qd, Xd, hn, r, _⟩ := h
  rw [r.length]
  exact hn
/-- a method that raises nothing -/
theorem MethOk_x {C : Addr} {m : Str} {k : Nat} {ps : List Str} {sp sp' : Sp} (D : LB.MethOk P w K mg base k C m ps sp) (h : ∀ vs H Q E, sp' vs H Q E → sp vs H Q E) : MethX P w K mg base k C m ps [] sp' := by
  obtain ⟨f, fd, F, h1, h2, h3, h4⟩ := D.ex
  refine ⟨f, fd, [], ⟨fun vs H Q E q => F.len _ _ _ _ (h _ _ _ _ q), fun A outer s H args us vs Q E hr he hb hv hs => ?_⟩, h1, h2, h3, h4, .nil⟩
  refine codeAny_mono (F.run A outer s H args us vs Q E hr he hb hv (h _ _ _ _ hs)) fun r s' hq => ?_
  cases r with
  | error e => exact hq.elim
  | ok fl => cases fl <;> exact hq
end
section
variable {X : Cx} {W : Wo} {Wk : WX}
/-! ### attributes -/
theorem lookF_ok {hid : Hid} {H : Hp} {μ : Mu} {f : Str} : ∀ {fs : List (Str × V)} {gs : List (Str × D)}, RepF W hid H μ fs gs → RepO W hid H μ (fs.lookup f) (gs.lookup f)
  | _, _, .nil => .none
  | _, _, .cons (f := g) h r => by
    rw [List.lookup_cons, List.lookup_cons]
    cases e : f == g with
    | true => exact .some h
    | false => exact lookF_ok r
def insOf (d : D) (μ : Mu) : Option (Str × List (Str × D)) := match d with
  | .obj C fs => some (C, fs)
  | .ptr a => match μ a with
    | some (.ins C fs) => some (C, fs)
    | _ => none
  | _ => none
theorem insOf_ok {hid : Hid} {H : Hp} {μ : Mu} {v : V} {d : D} {C : Str} {gs : List (Str × D)} (e : insOf d μ = some (C, gs)) (sr : SR W hid H μ) (r : Rep W hid H μ v d) : ∃ a dx fs, v = .ref a ∧ H a = some (.ins (W.cl C) dx fs) ∧ RepF W hid H μ fs gs ∧ W.cok C ∧ ∀ p ∈ gs, W.fok C p.1 := by
  cases r with
  | obj h _ _ c f q =>
    cases e
    exact ⟨_, _, _, rfl, h, q, c, f⟩
  | ptr a =>
    unfold insOf at e
    dsimp only at e
    cases hm : μ a with
    | none => rw [hm] at e; cases e
    | some m =>
      rw [hm] at e
      cases m with
      | ins C' fs =>
        cases e
        obtain ⟨dx, fs', h, q, c, f⟩ := (sr.at_ a _ hm).2
        exact ⟨a, dx, fs', rfl, h, q, c, f⟩
      | _ => cases e
  | _ => cases e
theorem lookup_mem {f : Str} {d : D} : ∀ {gs : List (Str × D)}, gs.lookup f = some d → ∃ p ∈ gs, p.1 = f
  | [], e => by cases e
  | (g, x) :: gs, e => by
    rw [List.lookup_cons] at e
    cases h : f == g with
    | true => exact ⟨(g, x), List.mem_cons_self .., (beq_iff_eq.mp h).symm⟩
    | false =>
      rw [h] at e
      obtain ⟨p, hp, e1⟩ := lookup_mem (gs := gs) e
      exact ⟨p, List.mem_cons_of_mem _ hp, e1⟩
def eFld (f : Str) (td : TDE) : TDE := fun Xd ρ μ Q => td Xd ρ μ fun d μ1 => match insOf d μ1 with
  | some (_, gs) => (match gs.lookup f with | some v => Q v μ1 | none => False)
  | none => False
theorem be_fld {e : Expr} {f : Str} {td : TDE} {pos : Pos} (C : TW X.K X.w W) (he : BE X W Wk e td) (hb : attributeBase e f X.env (eval e X.env) = eval e X.env) : BE X W Wk (.Attribute e f pos) (eFld f td) := PE.weak (pe_fld he hb) fun σ H Q ⟨hid, ρ, μ, Xd, Qd, rel, sr, q, pq, px⟩ => by
  refine ⟨hid, ρ, μ, Xd, _, rel, sr, q, fun v d H1 μ1 s1 sr1 r1 q1 => ?_, px⟩
  dsimp only at q1
  split at q1
  · rename_i C0 gs eg
    split at q1
    · rename_i z hz
      obtain ⟨a, dx, fs, rfl, ha, q, c, fo⟩ := insOf_ok eg sr1 r1
      have ro := lookF_ok (f := f) q
      rw [hz] at ro
      obtain ⟨p, hp, rfl⟩ := lookup_mem hz
      cases e1 : fs.lookup p.1 with
      | none => rw [e1] at ro; cases ro
      | some y =>
        rw [e1] at ro
        cases ro with
        | some ry => exact ⟨a, _, dx, fs, y, rfl, ha, (C.own C0 c).1, C.fld C0 _ (fo p hp), e1, pq _ _ H1 μ1 s1 sr1 ry q1⟩
    · exact q1.elim
  · exact q1.elim
def putG (f : Str) (v : D) : List (Str × D) → List (Str × D)
  | [] => [(f, v)]
  | (g, x) :: r => if g = f then (g, v) :: r else (g, x) :: putG f v r
theorem putG_ok {hid : Hid} {H : Hp} {μ : Mu} {f : Str} {v : V} {d : D} (h : Rep W hid H μ v d) : ∀ {fs : List (Str × V)} {gs : List (Str × D)}, RepF W hid H μ fs gs → RepF W hid H μ (putF f v fs) (putG f d gs)
  | _, _, .nil => .cons h .nil
  | _, _, .cons (f := g) h1 r => by
    unfold putF putG
    by_cases e : g = f
    · rw [if_pos e, if_pos e]
      exact .cons h r
    · rw [if_neg e, if_neg e]
      exact .cons h1 (putG_ok h r)
theorem putG_mem {f : Str} {d : D} : ∀ {gs : List (Str × D)} {p : Str × D}, p ∈ putG f d gs → p.1 = f ∨ ∃ q ∈ gs, q.1 = p.1
  | [], p, h => by
    rw [List.mem_singleton.mp h]
    exact .inl rfl
  | (g, x) :: gs, p, h => by
    unfold putG at h
    split at h
    · rename_i e
      rcases List.mem_cons.mp h with rfl | h
      · exact .inl e
      · exact .inr ⟨p, List.mem_cons_of_mem _ h, rfl⟩
    · rcases List.mem_cons.mp h with rfl | h
      · exact .inr ⟨(g, x), List.mem_cons_self .., rfl⟩
      · rcases putG_mem h with z | ⟨q, hq, e⟩
        · exact .inl z
        · exact .inr ⟨q, List.mem_cons_of_mem _ hq, e⟩
theorem repF_len {hid : Hid} {H : Hp} {μ : Mu} : ∀ {fs : List (Str × V)} {gs : List (Str × D)}, RepF W hid H μ fs gs → fs.length = gs.length
  | _, _, .nil => rfl
  | _, _, .cons _ r => by rw [List.length_cons, List.length_cons, repF_len r]
/-- an instance of the store, of the class C -/
def insS (C : Str) (d : D) (μ : Mu) (k : Addr → List (Str × D) → Prop) : Prop := match d with
  | .ptr a => (match μ a with | some (.ins C' gs) => C' = C ∧ k a gs | _ => False)
  | _ => False
def sFld (C f : Str) (td tv : TDE) : TDS := fun E Xd ρ μ => tv Xd ρ μ fun v μ1 => td Xd ρ μ1 fun d μ2 => insS C d μ2 fun a gs => gs.length < 1000 ∧ E.nx ρ (μ2.set a (.ins C (putG f v gs)))
theorem insS_ok {hid : Hid} {H : Hp} {μ : Mu} {v : V} {d : D} {C : Str} {k : Addr → List (Str × D) → Prop} (sr : SR W hid H μ) (r : Rep W hid H μ v d) (h : insS C d μ k) : ∃ a gs dx fs, v = .ref a ∧ μ a = some (.ins C gs) ∧ H a = some (.ins (W.cl C) dx fs) ∧ RepF W hid H μ fs gs ∧ W.cok C ∧ (∀ p ∈ gs, W.fok C p.1) ∧ k a gs := by
  unfold insS at h
  split at h
  · rename_i a
    cases r
    split at h
    · rename_i C' gs hm
      obtain ⟨rfl, h⟩ := h
      obtain ⟨dx, fs, ha, q, c, f⟩ := (sr.at_ a _ hm).2
      exact ⟨a, gs, dx, fs, rfl, hm, ha, q, c, f, h⟩
    · exact h.elim
  · exact h.elim
theorem put_fld {hid : Hid} {H : Hp} {μ : Mu} {a dx : Addr} {C f : Str} {fs : List (Str × V)} {gs : List (Str × D)} {y : V} {z : D} (fo : W.fok C f) (sr : SR W hid H μ) (hm : μ a = some (.ins C gs)) (q : RepF W hid H μ fs gs) (c : W.cok C) (fa : ∀ p ∈ gs, W.fok C p.1) (ry : Rep W hid H μ y z) :
    St H μ (upd H a (.ins (W.cl C) dx (putF f y fs))) (μ.set a (.ins C (putG f z gs))) ∧ SR W hid (upd H a (.ins (W.cl C) dx (putF f y fs))) (μ.set a (.ins C (putG f z gs))) := by
  have hp : MO.plain (.ins C (putG f z gs)) := True.intro
  refine ⟨St.put hm hp, sr.put hm hp ⟨dx, _, upd_same, (putG_ok ry q).mono (St.put hm hp).ok, c, fun p hp => ?_⟩⟩
  rcases putG_mem hp with e | ⟨q, hq, e⟩
  · rw [e]
    exact fo
  · rw [← e]
    exact fa q hq
theorem bs_fld {C0 f : Str} {o value : Expr} {td tv : TDE} {pos pos' : Pos} (C : TW X.K X.w W) (fo : W.fok C0 f) (ho : BE X W Wk o td) (hv : BE X W Wk value tv) (hs : swapsWith value (some (.Attribute o f pos')) pos.line X.env = pure false) : BS X W Wk (.Assign [.Attribute o f pos'] value pos) (sFld C0 f td tv) := PS.weak (ps_fld ho hv hs) fun E σ H ⟨hid, ρ, μ, Xd, Dd, rel, sr, q, pe, px⟩ => by
  refine ⟨hid, ρ, μ, Xd, _, rel, sr, q, fun y z H1 μ1 s1 sr1 r1 q1 => ?_, px.at_ rel⟩
  refine ⟨hid, ρ, μ1, Xd, _, rel_mono s1.ok rel, sr1, q1, fun v d H2 μ2 s2 sr2 r2 q2 => ?_, (px.at_ rel).st s1⟩
  obtain ⟨a, gs, dx, fs, rfl, hm, ha, qf, c, fa, hl, q3⟩ := insS_ok sr2 r2 q2
  have s12 := s1.trans s2
  obtain ⟨st, sr3⟩ := put_fld (dx := dx) fo sr2 hm qf c fa (r1.mono s2.ok)
  refine ⟨a, _, dx, fs, rfl, ha, (C.own C0 c).1, C.fld C0 f fo, by rw [repF_len qf]; exact hl, ?_⟩
  exact pe.nx σ ρ _ _ (s12.trans st) sr3 (rel_mono (s12.trans st).ok rel) q3
def sFldAug (C f : Str) (td tv : TDE) (g : Int → Int → Int) : TDS := fun E Xd ρ μ => td Xd ρ μ fun d μ1 => insS C d μ1 fun a gs => (match gs.lookup f with
  | some (.int i) => tv Xd ρ μ1 fun y μ2 => (match y with | .int j => (match μ2 a with | some (.ins C' gs') => C' = C ∧ gs'.length < 1000 ∧ E.nx ρ (μ2.set a (.ins C (putG f (.int (g i j)) gs'))) | _ => False) | _ => False)
  | _ => False)
theorem fldaug_td {C0 f : Str} {td tv : TDE} {g : Int → Int → Int} {rd : V → V → Hp → VK → Prop} (hrd : ∀ i j H Q, Q (.int (g i j)) H → rd (.int i) (.int j) H Q) (C : TW X.K X.w W) (fo : W.fok C0 f) {E : Ends} {σ : L2.St} {H : Hp} (h : TDs W Wk (sFldAug C0 f td tv g) E σ H) : L2.sFldAug X.K (TD W Wk td) (TD W Wk tv) rd f E σ H := by
  obtain ⟨hid, ρ, μ, Xd, Dd, rel, sr, q, pe, px⟩ := h
  refine ⟨hid, ρ, μ, Xd, _, rel, sr, q, fun v d H1 μ1 s1 sr1 r1 q1 => ?_, px.at_ rel⟩
  obtain ⟨a, gs, dx, fs, rfl, hm, ha, qf, c, fa, q2⟩ := insS_ok sr1 r1 q1
  split at q2
  · rename_i i hi
    have ro := lookF_ok (f := f) qf
    rw [hi] at ro
    cases e1 : fs.lookup f with
    | none => rw [e1] at ro; cases ro
    | some y =>
      rw [e1] at ro
      cases ro with
      | some ry =>
        cases ry
        refine ⟨a, _, dx, fs, _, rfl, ha, (C.own C0 c).1, C.fld C0 f fo, e1, ?_⟩
        refine ⟨hid, ρ, μ1, Xd, _, rel_mono s1.ok rel, sr1, q2, fun y z H2 μ2 s2 sr2 r2 q3 => ?_, (px.at_ rel).st s1⟩
        dsimp only at q3
        split at q3
        · cases r2
          split at q3
          · rename_i C' gs' hm2
            obtain ⟨rfl, hl, q3⟩ := q3
            obtain ⟨dx', fs', ha', qf', c', fa'⟩ := (sr2.at_ a _ hm2).2
            have s12 := s1.trans s2
            obtain ⟨st, sr3⟩ := put_fld (dx := dx') fo sr2 hm2 qf' c' fa' (.int (g i _))
            exact hrd _ _ _ _ ⟨dx', fs', ha', by rw [repF_len qf']; exact hl, pe.nx σ ρ _ _ (s12.trans st) sr3 (rel_mono (s12.trans st).ok rel) q3⟩
          · exact q3.elim
        · exact q3.elim
  · exact q2.elim
theorem bs_fldaugadd {C0 f : Str} {o value : Expr} {td tv : TDE} {pos tpos : Pos} (C : TW X.K X.w W) (fo : W.fok C0 f) (ho : BE X W Wk o td) (hv : BE X W Wk value tv) : BS X W Wk (.AugAssign (.Attribute o f tpos) .Add value pos) (sFldAug C0 f td tv fun a b => a + b) := PS.weak (ps_fldaug ho hv in_add) fun _ _ _ h => fldaug_td (fun i j _ _ z => ⟨i, j, rfl, rfl, z⟩) C fo h
theorem bs_fldaugsub {C0 f : Str} {o value : Expr} {td tv : TDE} {pos tpos : Pos} (C : TW X.K X.w W) (fo : W.fok C0 f) (ho : BE X W Wk o td) (hv : BE X W Wk value tv) : BS X W Wk (.AugAssign (.Attribute o f tpos) .Sub value pos) (sFldAug C0 f td tv fun a b => a - b) := PS.weak (ps_fldaug ho hv in_sub) fun _ _ _ h => fldaug_td (fun i j _ _ z => ⟨i, j, rfl, rfl, z⟩) C fo h
end
end PD
set_option Elab.async false
set_option linter.all false
set_option autoImplicit false
set_option maxRecDepth 100000
set_option maxHeartbeats 4000000
namespace PD
open PySem PySem.Spec PyProof.Rows L2
section
variable {X : Cx} {W : Wo} {Wk : WX}
/-! ### methods -/
section
variable {C : Addr} {k : Nat} {m : Str} {ps : List Str} {dvs : List V} {sp : Sp} {o e : Expr} {es : List Expr} {ta : TE} {t : TA} {apos pos p : Pos} {x : Str}
def tMethX (C : Addr) (m : Str) (sp : Sp) (dvs : List V) (Wk : WX) (ta : TE) (t : TA) : TE := fun σ H Q => ta σ H fun y H1 => ∃ a dx fs, y = .ref a ∧ H1 a = some (.ins C dx fs) ∧ fs.lookup m = none ∧ t σ H1 fun vs H2 => sp (.ref a :: (vs ++ dvs)) H2 Q (WE Wk σ)
theorem pe_mthX {pl : Sem Bool} (c : Cls X.K C) (D : MethX X.prog X.w X.K X.mg X.base k C m ps dvs sp) (tk : Takes X Wk) (hr : Room k X.A) (he : PE X o ta) (ha : PA X (e :: es) t)
    (hst : starEach (e :: es) X.env = (false, eval e X.env) :: starEach es X.env := by rfl) (hpl : (backTo pos (starEach es X.env)).any (·.1) = false := by rfl)
    (ht : eval (.Call (.Attribute o m apos) (e :: es) [] pos) X.env = (eval o X.env >>= fun ov => standAt apos.atName >>= fun _ => holding [ov] (getMethod ov m pl) >>= fun fa => callWith pos fa.1 fa.2 (backTo pos (starEach (e :: es) X.env)) (backToKw pos (keywordEach [] X.env))) := by rfl) :
    PE X (.Call (.Attribute o m apos) (e :: es) [] pos) (tMethX C m sp dvs Wk ta t) := by
  obtain ⟨f, fd, ds, F, hm, hi, hk, hb, hd⟩ := D.ex
  refine ⟨fun pins s σ H Q I h => PySem.W.methodCall_KW (pl := pl) (thn (he.run pins s σ H _ I h) fun u s1 ⟨y, H1, I1, ry, a, dx, fs, ey, ea, l, q⟩ => ?_) ht⟩
  subst ey
  cases (show u = Value.ref a from ry)
  refine getmeth_ok I1 ea c ⟨hm, hi, hk⟩ l (PySem.W.callWith_K (first := [.ref a]) (h₀ := X.base) I.ok.mod.kin hk (thn (ha.run pos pins s1 σ H1 _ I1 q) fun us s2 ⟨vs, H2, I2, r, q2⟩ => ⟨I2.kIn, ?_⟩) hst hpl)
  exact run_fnSD (E := WE Wk) (us := .ref a :: us) (vs := .ref a :: vs) F hr hb hd (passAt tk σ) I2 (.cons rfl r) q2
theorem pe_mthX0 {pl : Sem Bool} (c : Cls X.K C) (D : MethX X.prog X.w X.K X.mg X.base k C m ps dvs sp) (tk : Takes X Wk) (hr : Room k X.A) (he : PE X o ta)
    (ht : eval (.Call (.Attribute o m apos) [] [] pos) X.env = (eval o X.env >>= fun ov => standAt apos.atName >>= fun _ => holding [ov] (getMethod ov m pl) >>= fun fa => callWith pos fa.1 fa.2 (backTo pos (starEach [] X.env)) (backToKw pos (keywordEach [] X.env))) := by rfl) :
    PE X (.Call (.Attribute o m apos) [] [] pos) (tMethX C m sp dvs Wk ta tNil) := by
  obtain ⟨f, fd, ds, F, hm, hi, hk, hb, hd⟩ := D.ex
  refine ⟨fun pins s σ H Q I h => PySem.W.methodCall_KW (pl := pl) (thn (he.run pins s σ H _ I h) fun u s1 ⟨y, H1, I1, ry, a, dx, fs, ey, ea, l, q⟩ => ?_) ht⟩
  subst ey
  cases (show u = Value.ref a from ry)
  exact getmeth_ok I1 ea c ⟨hm, hi, hk⟩ l (PySem.W.callWith_K0 (first := [.ref a]) I1.kIn hk (run_fnSD (E := WE Wk) (us := [.ref a]) (vs := [.ref a]) F hr hb hd (passAt tk σ) I1 (.cons rfl .nil) q))
/-- nothing is raised: any wish is met -/
theorem takes_none {X : Cx} : ∀ σ, PassesAt (L2.CX X.prog X.w) X σ (WE WF σ) := fun σ _ _ _ _ _ _ h => by
  obtain ⟨_, _, _, _, _, _, _, _, _, _, _, _, z⟩ := h
  exact z.elim
theorem pe_mthE {pl : Sem Bool} (c : Cls X.K C) (D : MethX X.prog X.w X.K X.mg X.base k C m ps dvs sp) (hr : Room k X.A) (he : PE X o ta) (ha : PA X (e :: es) t)
    (hst : starEach (e :: es) X.env = (false, eval e X.env) :: starEach es X.env := by rfl) (hpl : (backTo pos (starEach es X.env)).any (·.1) = false := by rfl)
    (ht : eval (.Call (.Attribute o m apos) (e :: es) [] pos) X.env = (eval o X.env >>= fun ov => standAt apos.atName >>= fun _ => holding [ov] (getMethod ov m pl) >>= fun fa => callWith pos fa.1 fa.2 (backTo pos (starEach (e :: es) X.env)) (backToKw pos (keywordEach [] X.env))) := by rfl) :
    PE X (.Call (.Attribute o m apos) (e :: es) [] pos) (tMethX C m sp dvs WF ta t) := by
  obtain ⟨f, fd, ds, F, hm, hi, hk, hb, hd⟩ := D.ex
  refine ⟨fun pins s σ H Q I h => PySem.W.methodCall_KW (pl := pl) (thn (he.run pins s σ H _ I h) fun u s1 ⟨y, H1, I1, ry, a, dx, fs, ey, ea, l, q⟩ => ?_) ht⟩
  subst ey
  cases (show u = Value.ref a from ry)
  refine getmeth_ok I1 ea c ⟨hm, hi, hk⟩ l (PySem.W.callWith_K (first := [.ref a]) (h₀ := X.base) I.ok.mod.kin hk (thn (ha.run pos pins s1 σ H1 _ I1 q) fun us s2 ⟨vs, H2, I2, r, q2⟩ => ⟨I2.kIn, ?_⟩) hst hpl)
  exact run_fnSD (E := WE WF) (us := .ref a :: us) (vs := .ref a :: vs) F hr hb hd (takes_none σ) I2 (.cons rfl r) q2
theorem pe_mthE0 {pl : Sem Bool} (c : Cls X.K C) (D : MethX X.prog X.w X.K X.mg X.base k C m ps dvs sp) (hr : Room k X.A) (he : PE X o ta)
    (ht : eval (.Call (.Attribute o m apos) [] [] pos) X.env = (eval o X.env >>= fun ov => standAt apos.atName >>= fun _ => holding [ov] (getMethod ov m pl) >>= fun fa => callWith pos fa.1 fa.2 (backTo pos (starEach [] X.env)) (backToKw pos (keywordEach [] X.env))) := by rfl) :
    PE X (.Call (.Attribute o m apos) [] [] pos) (tMethX C m sp dvs WF ta tNil) := by
  obtain ⟨f, fd, ds, F, hm, hi, hk, hb, hd⟩ := D.ex
  refine ⟨fun pins s σ H Q I h => PySem.W.methodCall_KW (pl := pl) (thn (he.run pins s σ H _ I h) fun u s1 ⟨y, H1, I1, ry, a, dx, fs, ey, ea, l, q⟩ => ?_) ht⟩
  subst ey
  cases (show u = Value.ref a from ry)
  exact getmeth_ok I1 ea c ⟨hm, hi, hk⟩ l (PySem.W.callWith_K0 (first := [.ref a]) I1.kIn hk (run_fnSD (E := WE WF) (us := [.ref a]) (vs := [.ref a]) F hr hb hd (takes_none σ) I1 (.cons rfl .nil) q))
/-! ### instances are made -/
def tMakeX (C : Addr) (sp : Sp) (dvs : List V) (E : L2.St → XK) (t : TA) : TE := fun σ H Q => t σ H fun vs H1 => ∀ x dx, H1 x = none → H1 dx = none → dx ≠ x → sp (.ref x :: (vs ++ dvs)) (upd (upd H1 dx (.own x)) x (.ins C dx [])) (fun v H2 => v = .non ∧ Q (.ref x) H2) (E σ)
theorem run_makeX {E : L2.St → XK} {f : Addr} {fd : FuncData} {ds : List Value} {pins : List (Addr × Obj)} {σ : L2.St} {H : Hp} {s : Shared} {Q : VK} {us : List Value} {vs : List V} (M : Mk X.K C f) (F : FnOk X.prog X.w X.K X.mg X.base (L2.CX X.prog X.w) k f fd ps sp) (hr : Room (k + 1) X.A) (hb : Binds X.K fd ps ds) (hd : Vals dvs ds)
    (hx : PassesAt (L2.CX X.prog X.w) X σ (E σ)) (I : Inv X pins σ H s) (r : Vals vs us) (h : ∀ x dx, H x = none → H dx = none → dx ≠ x → sp (.ref x :: (vs ++ dvs)) (upd (upd H dx (.own x)) x (.ins C dx [])) (fun v H2 => v = .non ∧ Q (.ref x) H2) (E σ)) :
    wpAny (model X.prog X.w) X.A (call (.ref C) us) (EP X pins σ Q) X.xe s := by
  have q0 := h (s.heap.objs.size + 1) s.heap.objs.size (I.hok.fresh (Nat.le_succ _)) (I.hok.fresh (Nat.le_refl _)) (Nat.ne_of_lt (Nat.lt_succ_self _))
  have I2 := Inv.made (C := C) I
  have r2 : Vals (V.ref (s.heap.objs.size + 1) :: (vs ++ dvs)) (Value.ref (s.heap.objs.size + 1) :: (us ++ ds)) := .cons rfl (r.append hd)
  have hl : (Value.ref (s.heap.objs.size + 1) :: us ++ ds).length = ps.length := (r2.length.symm.trans (F.len _ _ _ _ q0))
  have run := F.run _ X.stack _ _ ⟨Value.ref (s.heap.objs.size + 1) :: us, []⟩ (Value.ref (s.heap.objs.size + 1) :: (us ++ ds)) _ _ (E σ) (hr.make C us []) (I2.env0.make C us []) (hb _ (Value.ref (s.heap.objs.size + 1) :: us) I2.kIn hl) r2 q0
  refine wpAny_call (make_map (f := f) I.kIn M.makes M.init (beq_iff_eq.mp M.fn) (codeAny_mono run fun r s' hq => ?_))
  cases r with
  | error e => exact hx pins _ _ e s' I2 hq
  | ok fl =>
    cases fl with
    | ret u =>
      obtain ⟨v, H', I3, rv, ev, q3⟩ := I2.after hq
      subst ev
      exact ⟨rv, V.ref (s.heap.objs.size + 1), H', I3, rfl, q3⟩
    | next => exact hq.elim
    | brk => exact hq.elim
    | cont => exact hq.elim
theorem pe_mkX {E : L2.St → XK} (c : LB.OwnCls X.K X.mg x C) (D : MethX X.prog X.w X.K X.mg X.base k C "__init__" ps dvs sp) (hx : ∀ σ, PassesAt (L2.CX X.prog X.w) X σ (E σ)) (hr : Room (k + 1) X.A) (hg : Gl X x) (ha : PA X (e :: es) t) (hdb : (x == ("__debug__" : Str)) = false := by decide)
    (he : starEach (e :: es) X.env = (false, eval e X.env) :: starEach es X.env := by rfl) (hpl : (backTo pos (starEach es X.env)).any (·.1) = false := by rfl) : PE X (.Call (.Name x p) (e :: es) [] pos) (tMakeX C sp dvs E t) := by
  obtain ⟨f, fd, ds, F, hm, hi, hk, hb, hd⟩ := D.ex
  refine ⟨fun pins s σ H Q I h => wpAny_Call_Name_kw (ld_glob I hg c.g (PySem.W.callWith_K (h₀ := X.base) I.ok.mod.kin c.kp (thn (ha.run pos pins s σ H _ I h) fun us s1 ⟨vs, H1, I1, r, q⟩ => ⟨I1.kIn, ?_⟩) he hpl) hdb)⟩
  exact run_makeX ⟨c.makes, hm, hi, c.kp⟩ F hr hb hd (hx σ) I1 r q
theorem pe_mkX0 {E : L2.St → XK} (c : LB.OwnCls X.K X.mg x C) (D : MethX X.prog X.w X.K X.mg X.base k C "__init__" ps dvs sp) (hx : ∀ σ, PassesAt (L2.CX X.prog X.w) X σ (E σ)) (hr : Room (k + 1) X.A) (hg : Gl X x) (hdb : (x == ("__debug__" : Str)) = false := by decide) : PE X (.Call (.Name x p) [] [] pos) (tMakeX C sp dvs E tNil) := by
  obtain ⟨f, fd, ds, F, hm, hi, hk, hb, hd⟩ := D.ex
  exact ⟨fun pins s σ H Q I h => wpAny_Call_Name_kw (ld_glob I hg c.g (PySem.W.callWith_K0 I.kIn c.kp (run_makeX (us := []) ⟨c.makes, hm, hi, c.kp⟩ F hr hb hd (hx σ) I .nil h)) hdb)⟩
end
/-! ### .. over data -/
section
variable {C0 : Str} {k n : Nat} {m : Str} {ps : List Str} {dvs : List V} {dds : List D} {F : FD} {o e : Expr} {es : List Expr} {td : TDE} {ta : TDA} {apos pos p : Pos}
def eMeth (C m : Str) (n : Nat) (F : FD) (dds : List D) (td : TDE) (ta : TDA) : TDE := fun Xd ρ μ Q => td Xd ρ μ fun d μ1 => (match insOf d μ1 with | some (C', gs) => C' = C ∧ gs.lookup m = none ∧ ta Xd ρ μ1 (fun ds μ2 => (d :: (ds ++ dds)).length = n ∧ F (d :: (ds ++ dds)) μ2 Q fun x μ3 => Xd x ρ μ3) | none => False)
theorem meth_td (hv : ∀ hid H μ, Reps W hid H μ dvs dds) {σ : L2.St} {H : Hp} {Q : VK} (h : TD W Wk (eMeth C0 m n F dds td ta) σ H Q) : tMethX (W.cl C0) m (spD W n F) dvs Wk (TD W Wk td) (TDa W Wk ta) σ H Q := by
  obtain ⟨hid, ρ, μ, Xd, Qd, rel, sr, q, pq, px⟩ := h
  refine ⟨hid, ρ, μ, Xd, _, rel, sr, q, fun v d H1 μ1 s1 sr1 r1 q1 => ?_, px⟩
  dsimp only at q1
  split at q1
  · rename_i C' gs eg
    obtain ⟨rfl, hl, q1⟩ := q1
    obtain ⟨a, dx, fs, rfl, ha, qf, c, fo⟩ := insOf_ok eg sr1 r1
    have ro := lookF_ok (f := m) qf
    rw [hl] at ro
    have hl2 : fs.lookup m = none := by
      cases e1 : fs.lookup m with
      | none => rfl
      | some y => rw [e1] at ro; cases ro
    refine ⟨a, dx, fs, rfl, ha, hl2, hid, ρ, μ1, Xd, _, rel_mono s1.ok rel, sr1, q1, fun vs ds H2 μ2 s2 sr2 r2 q2 => ?_, px.st s1⟩
    exact ⟨hid, _, μ2, Qd, _, q2.1, .cons (r1.mono s2.ok) (r2.append (hv _ _ _)), sr2, q2.2, pq.st (s1.trans s2), fun y cls dd H' μ' s' sr' xr q' => px y cls dd H' μ' ((s1.trans s2).trans s') sr' xr q'⟩
  · exact q1.elim
theorem be_meth (C : TW X.K X.w W) (co : W.cok C0) (D : MethX X.prog X.w X.K X.mg X.base k (W.cl C0) m ps dvs (spD W n F)) (hv : ∀ hid H μ, Reps W hid H μ dvs dds) (tk : Takes X Wk) (hr : Room k X.A) (ho : BE X W Wk o td) (ha : BA X W Wk (e :: es) ta)
    (h : PE X (.Call (.Attribute o m apos) (e :: es) [] pos) (tMethX (W.cl C0) m (spD W n F) dvs Wk (TD W Wk td) (TDa W Wk ta))) : BE X W Wk (.Call (.Attribute o m apos) (e :: es) [] pos) (eMeth C0 m n F dds td ta) := PE.weak h fun _ _ _ h => meth_td hv h
/-- C(..): mu: it goes on to change -/
@[irreducible] def mkD (mu : Bool) (C : Str) (n : Nat) (F : FD) (ds : List D) (μ1 : Mu) (Q : QD) (X : XD → Mu → Prop) : Prop := ∀ x, μ1 x = none → ((.ptr x : D) :: ds).length = n ∧ F (.ptr x :: ds) (μ1.set x (.ins C []))
  (fun d μ2 => match d with | .non => (match mu with | true => Q (.ptr x) μ2 | false => (match μ2 x with | some (.ins C' gs) => C' = C ∧ Q (.obj C gs) (μ2.del x) | _ => False)) | _ => False) X
def eMk (mu : Bool) (C : Str) (n : Nat) (F : FD) (dds : List D) (ta : TDA) : TDE := fun Xd ρ μ Q => ta Xd ρ μ fun ds μ1 => mkD mu C n F (ds ++ dds) μ1 Q fun y μ3 => Xd y ρ μ3
theorem mk_td {mu : Bool} (co : W.cok C0) (hv : ∀ hid H μ, Reps W hid H μ dvs dds) {σ : L2.St} {H : Hp} {Q : VK} (h : TD W Wk (eMk mu C0 n F dds ta) σ H Q) : tMakeX (W.cl C0) (spD W n F) dvs (WE Wk) (TDa W Wk ta) σ H Q := by
  obtain ⟨hid, ρ, μ, Xd, Qd, rel, sr, q, pq, px⟩ := h
  refine ⟨hid, ρ, μ, Xd, _, rel, sr, q, fun vs ds H1 μ1 s1 sr1 r1 q1 => ?_, px⟩
  dsimp only at q1
  unfold mkD at q1
  intro x dx hx hdx ne
  have hx' : upd H1 dx (.own x) x = none := by rw [upd_ne (Ne.symm ne)]; exact hx
  have nd : ∀ l, MO.ins C0 [] ≠ .deal l := fun l e => by cases e
  have s2 : St H1 μ1 (upd (upd H1 dx (.own x)) x (.ins (W.cl C0) dx [])) (μ1.set x (.ins C0 [])) := (St.new hdx).trans (St.add hx' nd)
  have sr2 : SR W hid (upd (upd H1 dx (.own x)) x (.ins (W.cl C0) dx [])) (μ1.set x (.ins C0 [])) := (sr1.new hdx).add hx' nd ⟨dx, [], upd_same, .nil, co, fun p hp => by cases hp⟩
  have s12 := s1.trans s2
  obtain ⟨hn, q2⟩ := q1 x (sr1.fresh hx).1
  refine ⟨hid, _, _, _, _, hn, .cons (.ptr x) ((r1.append (hv _ _ _)).mono s2.ok), sr2, q2, fun v d H3 μ3 s3 sr3 r3 q3 => ?_, fun y cls dd H' μ' s' sr' xr q' => px y cls dd H' μ' (s12.trans s') sr' xr q'⟩
  dsimp only at q3
  split at q3
  · cases r3
    refine ⟨rfl, ?_⟩
    cases mu with
    | true => exact pq _ _ H3 μ3 (s12.trans s3) sr3 (.ptr x) q3
    | false =>
      dsimp only at q3
      split at q3
      · rename_i C' gs hm
        obtain ⟨rfl, q3⟩ := q3
        obtain ⟨dx', fs, ha, qf, c, fo⟩ := (sr3.at_ x _ hm).2
        refine pq _ _ H3 (μ3.del x) ((s12.trans s3).trans Mu.del_le.st) (sr3.le Mu.del_le) (.obj ha ⟨Mu.del_same, fun e' e2 => ?_⟩ (sr3.at_ x _ hm).1 c fo (qf.mono Mu.del_le.st.ok)) q3
        have e3 : μ3 e' = some (.deal x) := by
          unfold Mu.del at e2
          split at e2
          · cases e2
          · exact e2
        have := (sr3.inn e' x e3).1
        rw [hm] at this
        cases this
      · exact q3.elim
  · exact q3.elim
end
end
end PD
set_option Elab.async false
set_option linter.all false
set_option maxRecDepth 100000
set_option maxHeartbeats 4000000
namespace LB
open PySem PySem.Spec PyProof.Rows L2
/-! ### match over texts -/
structure PM (X : Cx) (cases : List MatchCase) (t : V → TS) : Prop where
  run : ∀ (pins : List (Addr × Obj)) (s : Shared) (σ : L2.St) (H : Hp) (D : Ends) (x : V) (u : Value) (first : Bool), Inv X pins σ H s → RelV x u → t x D σ H →
    wpAny (model X.prog X.w) X.A (matchCases cases X.env u first) (SP X pins D) X.xe s
def mStr (lit : Str) (tb : TS) (tr : V → TS) : V → TS := fun x D σ H => ∃ z, x = .str z ∧ if z = lit then tb D σ H else tr x D σ H
def mStr2 (lit lit2 : Str) (tb : TS) (tr : V → TS) : V → TS := fun x D σ H => ∃ z, x = .str z ∧ if z = lit ∨ z = lit2 then tb D σ H else tr x D σ H
section
variable {X : Cx} {body : List Stmt} {rest : List MatchCase} {tb : TS} {tr : V → TS} {p p2 p3 p4 p5 : Pos}
theorem match_lit {lit z : Str} {u : Value} {pins : List (Addr × Obj)} {s : Shared} {σ : L2.St} {H : Hp} {Q : Option (List (Str × Value)) → Shared → Prop} (I : Inv X pins σ H s) (r : RelV (.str z) u)
    (h : ∀ s', Inv X pins σ H s' → if z = lit then Q (some []) s' else Q none s') : wpAny (model X.prog X.w) X.A (matchPattern (.MatchValue (.Constant (.str lit) 0 p) p2) X.env u) Q X.xe s := by
  refine wpAny_matchPattern_Value ?_
  refine thn ((pe_str (X := X) (x := lit) (j := 0) (pos := p)).run pins s σ H (fun x H' => x = .str lit ∧ H' = H) I ⟨rfl, rfl⟩) fun v s1 ⟨x, H1, I1, rx, ex, eH⟩ => ?_
  subst ex
  subst eH
  refine thn (op_eq pins s1 σ H1 (.str z) (.str lit) u v (fun x H' => x = .bl (decide (V.str z = V.str lit)) ∧ H' = H1) I1 r rx ⟨rfl, rfl, rfl⟩) fun c s2 ⟨y, H2, I2, ry, ey, eH2⟩ => ?_
  subst ey
  subst eH2
  cases ry
  refine wpAny_truthy_bool ?_
  have q := h s2 I2
  by_cases e : z = lit
  · rw [if_pos e] at q
    rw [if_pos (decide_eq_true (by rw [e]))]
    exact q
  · rw [if_neg e] at q
    rw [if_neg (by rw [decide_eq_false (fun z' => e (V.str.inj z'))]; exact Bool.false_ne_true)]
    exact q
theorem pm_str {lit : Str} (hb : PSs X body tb) (hr : PM X rest tr) : PM X (⟨.MatchValue (.Constant (.str lit) 0 p) p2, none, body⟩ :: rest) (mStr lit tb tr) := by
  refine ⟨fun pins s σ H D x u first I r h => ?_⟩
  obtain ⟨z, rfl, h⟩ := h
  refine wpAny_matchCases_cons (match_lit I r fun s' I' => ?_)
  by_cases e : z = lit
  · rw [if_pos e] at h
    rw [if_pos e]
    exact wpAny_assignInOrder_none (hb.run pins s' σ H D I' h)
  · rw [if_neg e] at h
    rw [if_neg e]
    exact hr.run pins s' σ H D _ u false I' r h
theorem pm_any (hb : PSs X body tb) : PM X [⟨.MatchAs none none p, none, body⟩] (fun _ => tb) := by
  refine ⟨fun pins s σ H D x u first I r h => ?_⟩
  exact wpAny_matchCases_cons (wpAny_matchPattern_Capture (wpAny_assignInOrder_none (hb.run pins s σ H D I h)))
theorem pm_str2 {lit lit2 : Str} (hb : PSs X body tb) (hr : PM X rest tr) : PM X (⟨.MatchOr [.MatchValue (.Constant (.str lit) 0 p) p2, .MatchValue (.Constant (.str lit2) 0 p3) p4] p5, none, body⟩ :: rest) (mStr2 lit lit2 tb tr) := by
  refine ⟨fun pins s σ H D x u first I r h => ?_⟩
  obtain ⟨z, rfl, h⟩ := h
  refine wpAny_matchCases_cons (wpAny_matchPattern_Or (wpAny_matchFirst_cons (match_lit I r fun s' I' => ?_)))
  by_cases e : z = lit
  · rw [if_pos (.inl e)] at h
    rw [if_pos e]
    exact wpAny_assignInOrder_none (hb.run pins s' σ H D I' h)
  · rw [if_neg e]
    refine wpAny_matchFirst_cons (match_lit I' r fun s2 I2 => ?_)
    by_cases e2 : z = lit2
    · rw [if_pos (.inr e2)] at h
      rw [if_pos e2]
      exact wpAny_assignInOrder_none (hb.run pins s2 σ H D I2 h)
    · rw [if_neg (fun q => q.elim e e2)] at h
      rw [if_neg e2]
      exact wpAny_matchFirst_nil (hr.run pins s2 σ H D _ u false I2 r h)
def tMatch (ts : TE) (tm : V → TS) : TS := fun D σ H => ts σ H fun x H1 => tm x D σ H1
theorem ps_match {subject : Expr} {cases : List MatchCase} {ts : TE} {tm : V → TS} (hs : PE X subject ts) (hm : PM X cases tm) : PS X (.Match subject cases p) (tMatch ts tm) := by
  refine ⟨fun pins s σ H D I h => ?_⟩
  exact wpAny_Match (thn (hs.run pins s σ H _ I h) fun u s1 ⟨x, H1, I1, rx, q⟩ => hm.run pins s1 σ H1 D x u true I1 rx q)
end
end LB
set_option Elab.async false
set_option linter.all false
set_option autoImplicit false
set_option maxRecDepth 100000
set_option maxHeartbeats 4000000
namespace PD
open PySem PySem.Spec PyProof.Rows L2
section
variable {X : Cx} {W : Wo} {Wk : WX}
section
variable {C0 : Str} {k n : Nat} {m : Str} {ps : List Str} {dvs : List V} {dds : List D} {F : FD} {o e : Expr} {es : List Expr} {td : TDE} {ta : TDA} {apos pos p : Pos} {mu : Bool} {pl : Sem Bool}
theorem be_methX (C : TW X.K X.w W) (co : W.cok C0) (D : MethX X.prog X.w X.K X.mg X.base k (W.cl C0) m ps dvs (spD W n F)) (hv : ∀ hid H μ, Reps W hid H μ dvs dds) (tk : Takes X Wk) (hr : Room k X.A) (ho : BE X W Wk o td) (ha : BA X W Wk (e :: es) ta)
    (hst : starEach (e :: es) X.env = (false, eval e X.env) :: starEach es X.env := by rfl) (hpl : (backTo pos (starEach es X.env)).any (·.1) = false := by rfl)
    (ht : eval (.Call (.Attribute o m apos) (e :: es) [] pos) X.env = (eval o X.env >>= fun ov => standAt apos.atName >>= fun _ => holding [ov] (getMethod ov m pl) >>= fun fa => callWith pos fa.1 fa.2 (backTo pos (starEach (e :: es) X.env)) (backToKw pos (keywordEach [] X.env))) := by rfl) :
    BE X W Wk (.Call (.Attribute o m apos) (e :: es) [] pos) (eMeth C0 m n F dds td ta) := PE.weak (pe_mthX (C.own C0 co).1 D tk hr ho ha hst hpl ht) fun _ _ _ h => meth_td hv h
theorem be_methX0 (C : TW X.K X.w W) (co : W.cok C0) (D : MethX X.prog X.w X.K X.mg X.base k (W.cl C0) m ps dvs (spD W n F)) (hv : ∀ hid H μ, Reps W hid H μ dvs dds) (tk : Takes X Wk) (hr : Room k X.A) (ho : BE X W Wk o td)
    (ht : eval (.Call (.Attribute o m apos) [] [] pos) X.env = (eval o X.env >>= fun ov => standAt apos.atName >>= fun _ => holding [ov] (getMethod ov m pl) >>= fun fa => callWith pos fa.1 fa.2 (backTo pos (starEach [] X.env)) (backToKw pos (keywordEach [] X.env))) := by rfl) :
    BE X W Wk (.Call (.Attribute o m apos) [] [] pos) (eMeth C0 m n F dds td aNil) := PE.weak (pe_mthX0 (C.own C0 co).1 D tk hr ho ht) fun σ H Q h => by
  obtain ⟨hid, ρ, μ, Xd, Qd, rel, sr, q, pq, px⟩ := meth_td hv h
  refine ⟨hid, ρ, μ, Xd, Qd, rel, sr, q, fun v d H' μ' s' sr' r' q' => ?_, px⟩
  obtain ⟨a, dx, fs, h1, h2, h3, hid, ρ, μ, Xd, Qd, rel, sr, q, pq, px⟩ := pq v d H' μ' s' sr' r' q'
  exact ⟨a, dx, fs, h1, h2, h3, pq [] [] H' μ .refl sr .nil q⟩
theorem be_methE (C : TW X.K X.w W) (co : W.cok C0) (D : MethX X.prog X.w X.K X.mg X.base k (W.cl C0) m ps dvs (spD W n F)) (hv : ∀ hid H μ, Reps W hid H μ dvs dds) (hr : Room k X.A) (ho : BE X W WF o td) (ha : BA X W WF (e :: es) ta)
    (hst : starEach (e :: es) X.env = (false, eval e X.env) :: starEach es X.env := by rfl) (hpl : (backTo pos (starEach es X.env)).any (·.1) = false := by rfl)
    (ht : eval (.Call (.Attribute o m apos) (e :: es) [] pos) X.env = (eval o X.env >>= fun ov => standAt apos.atName >>= fun _ => holding [ov] (getMethod ov m pl) >>= fun fa => callWith pos fa.1 fa.2 (backTo pos (starEach (e :: es) X.env)) (backToKw pos (keywordEach [] X.env))) := by rfl) :
    BE X W WF (.Call (.Attribute o m apos) (e :: es) [] pos) (eMeth C0 m n F dds td ta) := PE.weak (pe_mthE (C.own C0 co).1 D hr ho ha hst hpl ht) fun _ _ _ h => meth_td hv h
theorem be_methE0 (C : TW X.K X.w W) (co : W.cok C0) (D : MethX X.prog X.w X.K X.mg X.base k (W.cl C0) m ps dvs (spD W n F)) (hv : ∀ hid H μ, Reps W hid H μ dvs dds) (hr : Room k X.A) (ho : BE X W WF o td)
    (ht : eval (.Call (.Attribute o m apos) [] [] pos) X.env = (eval o X.env >>= fun ov => standAt apos.atName >>= fun _ => holding [ov] (getMethod ov m pl) >>= fun fa => callWith pos fa.1 fa.2 (backTo pos (starEach [] X.env)) (backToKw pos (keywordEach [] X.env))) := by rfl) :
    BE X W WF (.Call (.Attribute o m apos) [] [] pos) (eMeth C0 m n F dds td aNil) := PE.weak (pe_mthE0 (C.own C0 co).1 D hr ho ht) fun σ H Q h => by
  obtain ⟨hid, ρ, μ, Xd, Qd, rel, sr, q, pq, px⟩ := meth_td hv h
  refine ⟨hid, ρ, μ, Xd, Qd, rel, sr, q, fun v d H' μ' s' sr' r' q' => ?_, px⟩
  obtain ⟨a, dx, fs, h1, h2, h3, hid, ρ, μ, Xd, Qd, rel, sr, q, pq, px⟩ := pq v d H' μ' s' sr' r' q'
  exact ⟨a, dx, fs, h1, h2, h3, pq [] [] H' μ .refl sr .nil q⟩
theorem be_mk (co : W.cok C0) (c : LB.OwnCls X.K X.mg C0 (W.cl C0)) (D : MethX X.prog X.w X.K X.mg X.base k (W.cl C0) "__init__" ps dvs (spD W n F)) (hv : ∀ hid H μ, Reps W hid H μ dvs dds) (tk : Takes X Wk) (hr : Room (k + 1) X.A) (hg : Gl X C0) (ha : BA X W Wk (e :: es) ta) (hdb : (C0 == ("__debug__" : Str)) = false := by decide)
    (he : starEach (e :: es) X.env = (false, eval e X.env) :: starEach es X.env := by rfl) (hpl : (backTo pos (starEach es X.env)).any (·.1) = false := by rfl) : BE X W Wk (.Call (.Name C0 p) (e :: es) [] pos) (eMk mu C0 n F dds ta) := PE.weak (pe_mkX (E := WE Wk) c D (fun σ => passAt tk σ) hr hg ha hdb he hpl) fun _ _ _ h => mk_td co hv h
theorem be_mkE (co : W.cok C0) (c : LB.OwnCls X.K X.mg C0 (W.cl C0)) (D : MethX X.prog X.w X.K X.mg X.base k (W.cl C0) "__init__" ps dvs (spD W n F)) (hv : ∀ hid H μ, Reps W hid H μ dvs dds) (hr : Room (k + 1) X.A) (hg : Gl X C0) (ha : BA X W WF (e :: es) ta) (hdb : (C0 == ("__debug__" : Str)) = false := by decide)
    (he : starEach (e :: es) X.env = (false, eval e X.env) :: starEach es X.env := by rfl) (hpl : (backTo pos (starEach es X.env)).any (·.1) = false := by rfl) : BE X W WF (.Call (.Name C0 p) (e :: es) [] pos) (eMk mu C0 n F dds ta) := PE.weak (pe_mkX (E := WE WF) c D takes_none hr hg ha hdb he hpl) fun _ _ _ h => mk_td co hv h
end
/-! ### a, b = x, y -/
theorem bs_par2 {i j : Nat} {x y : Str} {a b : Expr} {ta : TDA} {px py pt pos : Pos} {kt k2 pt2} (hc : X.calm = true) (hN : X.N.Nodup) (hi : X.N[i]? = some x) (hj : X.N[j]? = some y) (hij : i ≠ j) (hx : X.env.scope.names.lookup x = some .local) (hy : X.env.scope.names.lookup y = some .local) (ha : BA X W Wk [a, b] ta)
    (hw : swappedStores [.Tuple [.Name x px, .Name y py] kt pt] (.Tuple [a, b] k2 pt2) X.env = pure (some [x, y])) (hs : swapsWithSole [.Tuple [.Name x px, .Name y py] kt pt] (.Tuple [a, b] k2 pt2) pos.line X.env = pure false := by rfl) :
    BS X W Wk (.Assign [.Tuple [.Name x px, .Name y py] kt pt] (.Tuple [a, b] k2 pt2) pos) (sPar i j ta) := bs_par hc hN hi hj hij hx hy ha (ps_par hc hN hi hj hij hx hy ha hw hs)
theorem bs_par3 {i j l : Nat} {x y z : Str} {a b c : Expr} {ta : TDA} {px py pz pt pos : Pos} {kt k2 pt2} (hc : X.calm = true) (hN : X.N.Nodup) (hi : X.N[i]? = some x) (hj : X.N[j]? = some y) (hl : X.N[l]? = some z) (hij : i ≠ j) (hil : i ≠ l) (hjl : j ≠ l) (hx : X.env.scope.names.lookup x = some .local) (hy : X.env.scope.names.lookup y = some .local)
    (hz : X.env.scope.names.lookup z = some .local) (ha : BA X W Wk [a, b, c] ta) (hw : swappedStores [.Tuple [.Name x px, .Name y py, .Name z pz] kt pt] (.Tuple [a, b, c] k2 pt2) X.env = pure (some [x, y, z])) (hs : swapsWithSole [.Tuple [.Name x px, .Name y py, .Name z pz] kt pt] (.Tuple [a, b, c] k2 pt2) pos.line X.env = pure false := by rfl) :
    BS X W Wk (.Assign [.Tuple [.Name x px, .Name y py, .Name z pz] kt pt] (.Tuple [a, b, c] k2 pt2) pos) (sPar3 i j l ta) := PS.weak (ps_par3 hc hN hi hj hl hij hil hjl hx hy hz ha hw hs) fun _ _ _ h => par3_td h
/-- xs[::-1] -/
def eRevL (m : Bool) (td : TDE) : TDE := fun Xd ρ μ Q => td Xd ρ μ fun d μ1 => match lstOf d μ1 with | some xs => newL m xs.reverse μ1 Q | none => False
theorem Reps.reverse {hid : Hid} {H : Hp} {μ : Mu} : ∀ {vs : List V} {ds : List D}, Reps W hid H μ vs ds → Reps W hid H μ vs.reverse ds.reverse
  | _, _, .nil => .nil
  | _, _, .cons h r => by
    rw [List.reverse_cons, List.reverse_cons]
    exact (Reps.reverse r).append (.cons h .nil)
theorem be_revL {m : Bool} {e : Expr} {td : TDE} {k : Nat} {p1 p2 p3 pos : Pos} (C : TW X.K X.w W) (he : BE X W Wk e td) : BE X W Wk (.Subscript e (.Slice none none (some (.UnaryOp .USub (.Constant (.int 1) k p1) p2)) p3) pos) (eRevL m td) := PE.weak (pe_revL he) fun σ H Q ⟨hid, ρ, μ, Xd, Qd, rel, sr, q, pq, px⟩ => by
  refine ⟨hid, ρ, μ, Xd, _, rel, sr, q, fun v d H1 μ1 s1 sr1 r1 q1 => ?_, px⟩
  dsimp only at q1
  split at q1
  · rename_i xs es
    obtain ⟨a, vs, rfl, ha, qa⟩ := lstOf_ok es sr1 r1
    rw [← C.hK] at ha
    exact ⟨a, vs, rfl, ha, fun p hp => newL_ok sr1 qa.reverse hp q1 (pq.st s1)⟩
  · exact q1.elim
/-! ### dicts -/
def eDNew : TDE := fun _ _ μ Q => ∀ p, μ p = none → Q (.ptr p) (μ.set p (.dic []))
theorem newD_ok {hid : Hid} {H : Hp} {μ : Mu} {kvs : List (Key × D)} {es : List (Key × V)} {Qd : QD} {Q : VK} {p : Addr} (sr : SR W hid H μ) (r : RepK W hid H μ es kvs) (hp : H p = none) (q : ∀ p, μ p = none → Qd (.ptr p) (μ.set p (.dic kvs))) (pq : PQ W hid H μ Qd Q) : Q (.ref p) (upd H p (.dK es)) := by
  have hn : ∀ l, MO.dic kvs ≠ .deal l := fun l e => by cases e
  exact pq _ _ _ _ (St.add hp hn) (sr.add hp hn ⟨es, upd_same, r.mono (St.add hp hn).ok⟩) (.ptr p) (q p (sr.fresh hp).1)
theorem be_dnew {pos : Pos} : BE X W Wk (.Dict [] [] pos) eDNew := PE.weak pe_dnewK fun σ H Q ⟨hid, ρ, μ, Xd, Qd, rel, sr, q, pq, px⟩ => fun p hp => newD_ok sr .nil hp q pq
abbrev TDP := List (TDE × TDE)
def dPairs : TDP → XE → PD.Env → Mu → (List (D × D) → Mu → Prop) → Prop
  | [], _, _, μ, Q => Q [] μ
  | (tk, tv) :: r, Xd, ρ, μ, Q => tk Xd ρ μ fun x μ1 => tv Xd ρ μ1 fun y μ2 => dPairs r Xd ρ μ2 fun ps μ3 => Q ((x, y) :: ps) μ3
abbrev dpNil : TDP := []
abbrev dpCons (tk tv : TDE) (r : TDP) : TDP := (tk, tv) :: r
def tPs (W : Wo) (Wk : WX) (l : TDP) : List (TE × TE) := l.map fun p => (TD W Wk p.1, TD W Wk p.2)
abbrev BPs (X : Cx) (W : Wo) (Wk : WX) (pos : Pos) (keys : List (Option Expr)) (values : List Expr) (l : TDP) : Prop := PPs X pos keys values (tPs W Wk l)
theorem bps_nil {pos : Pos} : BPs X W Wk pos [] [] dpNil := pps_nil
theorem bps_cons {pos : Pos} {k v : Expr} {ks : List (Option Expr)} {vs : List Expr} {tk tv : TDE} {r : TDP} (hk : BE X W Wk k tk) (hv : BE X W Wk v tv) (hr : BPs X W Wk pos ks vs r) : BPs X W Wk pos (some k :: ks) (v :: vs) (dpCons tk tv r) := pps_cons hk hv hr
inductive RepPs (W : Wo) (hid : Hid) (H : Hp) (μ : Mu) : List (V × V) → List (D × D) → Prop
  | nil : RepPs W hid H μ [] []
  | cons {x y : V} {d e : D} {ps : List (V × V)} {qs : List (D × D)} : Rep W hid H μ x d → Rep W hid H μ y e → RepPs W hid H μ ps qs → RepPs W hid H μ ((x, y) :: ps) ((d, e) :: qs)
theorem RepPs.mono {hid hid' : Hid} {H H' : Hp} {μ μ' : Mu} (k : Ok hid H μ hid' H' μ') : ∀ {ps : List (V × V)} {qs : List (D × D)}, RepPs W hid H μ ps qs → RepPs W hid' H' μ' ps qs
  | _, _, .nil => .nil
  | _, _, .cons a b r => .cons (a.mono k) (b.mono k) (RepPs.mono k r)
theorem pairs_td {hid : Hid} {σ : L2.St} {ρ : PD.Env} {Xd : XE} : ∀ {l : TDP} {H : Hp} {μ : Mu} {Qd : List (D × D) → Mu → Prop} {Q : List (V × V) → Hp → Prop}, Rel W hid H μ σ ρ → SR W hid H μ → dPairs l Xd ρ μ Qd → (∀ ps qs H' μ', St H μ H' μ' → SR W hid H' μ' → RepPs W hid H' μ' ps qs → Qd qs μ' → Q ps H') → PX W hid H μ σ ρ Xd Wk → tPairs (tPs W Wk l) σ H Q
  | [], H, μ, Qd, Q, rel, sr, q, pq, px => pq [] [] H μ .refl sr .nil q
  | (tk, tv) :: l, H, μ, Qd, Q, rel, sr, q, pq, px => by
    refine ⟨hid, ρ, μ, Xd, _, rel, sr, q, fun v d H1 μ1 s1 sr1 r1 q1 => ?_, px⟩
    refine ⟨hid, ρ, μ1, Xd, _, rel_mono s1.ok rel, sr1, q1, fun w e H2 μ2 s2 sr2 r2 q2 => ?_, px.st s1⟩
    have s12 := s1.trans s2
    exact pairs_td (rel_mono s12.ok rel) sr2 q2 (fun ps qs H' μ' s' sr' r' q' => pq _ _ H' μ' (s12.trans s') sr' (.cons (r1.mono (s2.trans s').ok) (r2.mono s'.ok) r') q') (px.st s12)
def kvsOf : List (D × D) → Option (List (Key × D))
  | [] => some []
  | (x, y) :: r => match keyOf x, kvsOf r with
    | some k, some l => some ((k, y) :: l)
    | _, _ => none
theorem kvsOf_ok {hid : Hid} {H : Hp} {μ : Mu} : ∀ {ps : List (V × V)} {qs : List (D × D)} {kvs : List (Key × D)}, RepPs W hid H μ ps qs → kvsOf qs = some kvs → ∃ es : List (Key × V), ps = es.map (fun kv => (kV kv.1, kv.2)) ∧ RepK W hid H μ es kvs
  | _, _, kvs, .nil, e => by
    cases e
    exact ⟨[], rfl, .nil⟩
  | _, _, kvs, .cons a b r, e => by
    unfold kvsOf at e
    split at e
    · rename_i k l hk hl
      cases e
      obtain ⟨es, rfl, re⟩ := kvsOf_ok r hl
      obtain rfl := keyOf_ok a hk
      exact ⟨(k, _) :: es, rfl, .cons b re⟩
    · cases e
def mergeD (kvs more : List (Key × D)) : List (Key × D) := more.foldl (fun acc kv => putD acc kv.1 kv.2) kvs
theorem mergeD_ok {hid : Hid} {H : Hp} {μ : Mu} : ∀ {es : List (Key × V)} {kvs : List (Key × D)} {es0 : List (Key × V)} {kvs0 : List (Key × D)}, RepK W hid H μ es0 kvs0 → RepK W hid H μ es kvs → RepK W hid H μ (mergeK es0 es) (mergeD kvs0 kvs)
  | _, _, _, _, r0, .nil => r0
  | _, _, es0, kvs0, r0, .cons (k := k) (v := v) (d := d) h r => (mergeD_ok (es0 := putK es0 k v) (kvs0 := putD kvs0 k d) (putD_ok r0 h) r : _)
def eDisp (l : TDP) : TDE := fun Xd ρ μ Q => dPairs l Xd ρ μ fun qs μ1 => match kvsOf qs with | some kvs => kvs.length ≤ 15 ∧ ∀ p, μ1 p = none → Q (.ptr p) (μ1.set p (.dic (mergeD [] kvs))) | none => False
theorem SR.adoptG {hid : Hid} {H : Hp} {μ : Mu} {p : Addr} {m : MO} (sr : SR W (hidA hid p) H μ) (hm : ∀ l, m ≠ .deal l) (r : MRep W hid H (μ.set p m) p m) (nh : ¬ hid p) : SR W hid H (μ.set p m) := by
  refine ⟨fun a n h => ?_, fun d l h => ?_, fun d d' l h h' => ?_, fun a h => sr.hk a (.inl h)⟩
  · by_cases e : a = p
    · subst e
      rw [Mu.set_same] at h
      cases h
      exact ⟨nh, r⟩
    · rw [Mu.set_ne e] at h
      exact ⟨fun z => (sr.at_ a n h).1 (.inl z), (sr.at_ a n h).2.mono (ok_adopt hm) rfl fun _ _ => rfl⟩
  · have hd : d ≠ p := fun e => by
      subst e
      rw [Mu.set_same] at h
      exact hm _ (Option.some.inj h)
    rw [Mu.set_ne hd] at h
    have q := sr.inn d l h
    rw [Mu.set_ne (fun e => q.2 (.inr e))]
    exact ⟨q.1, fun z => q.2 (.inl z)⟩
  · have hd : d ≠ p := fun e => by
      subst e
      rw [Mu.set_same] at h
      exact hm _ (Option.some.inj h)
    have hd' : d' ≠ p := fun e => by
      subst e
      rw [Mu.set_same] at h'
      exact hm _ (Option.some.inj h')
    rw [Mu.set_ne hd] at h
    rw [Mu.set_ne hd'] at h'
    exact sr.one d d' l h h'
theorem be_disp {pos : Pos} {keys : List (Option Expr)} {values : List Expr} {l : TDP} (h : BPs X W Wk pos keys values l) (hall : keys.all (·.isSome) = true) (hl : keys.length = values.length) (h0 : keys ≠ []) (h15 : keys.length ≤ 15) : BE X W Wk (.Dict keys values pos) (eDisp l) := PE.weak (pe_disp h hall hl h0 h15) fun σ H Q ⟨hid, ρ, μ, Xd, Qd, rel, sr, q, pq, px⟩ => by
  intro p hp
  have nh := sr.nhid hp
  refine pairs_td (hid := hidA hid p) (ρ := ρ) (Xd := Xd) (rel_mono (ok_hide (St.new hp) hp) rel) (sr.hide hp) q (fun ps qs H2 μ2 s2 sr2 r2 q2 => ?_) fun x cls dd H' μ' s' sr' xr q' => ?_
  · have hp2 := (s2 p _ upd_same (sr.fresh hp)).1
    split at q2
    · rename_i kvs ek
      obtain ⟨es, rfl, re⟩ := kvsOf_ok r2 ek
      have hl2 : es.length = kvs.length := repK_len re
      refine ⟨hp2, es, rfl, by rw [hl2]; exact q2.1, ?_⟩
      have him := sr2.him (a := p) (.inr rfl)
      have hm : ∀ l, MO.dic (mergeD [] kvs) ≠ .deal l := fun l e => by cases e
      have sr3 := sr2.hmod (o := .dK (mergeK [] es)) (p := p) (.inr rfl)
      have r3 : RepK W hid (upd H2 p (.dK (mergeK [] es))) (μ2.set p (.dic (mergeD [] kvs))) (mergeK [] es) (mergeD [] kvs) := (mergeD_ok .nil re).mono fun a o h i n => by
        obtain ⟨h1, i1, n1⟩ := (ok_hmod (o := HO.dK (mergeK [] es)) (H := H2) (μ := μ2) (hid := hidA hid p) (p := p) (.inr rfl)) a o h i n
        exact ok_adopt hm a o h1 i1 n1
      refine pq _ _ _ _ (fun a u ha ia => ?_) (sr3.adoptG hm ⟨_, upd_same, r3⟩ nh) (.ptr p) (q2.2 p him.1)
      have ne := ne_of_none ha hp
      obtain ⟨h2, i2⟩ := s2 a u (by rw [upd_ne ne]; exact ha) ia
      exact ⟨by rw [upd_ne ne]; exact h2, im_set hm ne i2⟩
    · exact q2.elim
  · refine px x cls dd H' μ' (fun a u ha ia => ?_) sr'.unhide ⟨xr.1, ?_⟩ q'
    · exact s' a u (by rw [upd_ne (ne_of_none ha hp)]; exact ha) ia
    · rcases xr.2 with z | ⟨a, fs, e1, e2, i, n, e3⟩
      · exact .inl z
      · exact .inr ⟨a, fs, e1, e2, i, fun z => n (.inl z), e3.mono ok_unhide⟩
/-- d.get(k), d.get(k, x) -/
def mGet : MD := fun d ds μ Q => match dicOf d μ with
  | some kvs => (match ds with
    | [k] => (match keyOf k with | some k => Q ((valD kvs k).getD .non) μ | none => False)
    | [k, x] => (match keyOf k with | some k => Q ((valD kvs k).getD x) μ | none => False)
    | _ => False)
  | none => False
theorem md_get (hu : X.A.units + 1 < cLine) : MtR X "dict.get" (rMD W mGet) := by
  intro pins s σ H x xs v us Q I rx rs ⟨hid, μ, d, ds, Qd, sr, r, rr, h, pq⟩
  unfold mGet at h
  split at h
  · rename_i kvs ek
    obtain ⟨a, es, rfl, ha, q⟩ := dicOf_ok sr ek r
    cases (show v = Value.ref a from rx)
    split at h
    · split at h
      · rename_i k hk
        cases rr with
        | cons ra rr =>
          cases rr
          obtain rfl := keyOf_ok ra hk
          obtain ⟨u, rfl, ru⟩ := Vals.one rs
          have ro := valD_ok (k := k) q
          refine d_get1 hu I (DGet.k (k := k) ha) ru fun w' s' I' rw' => ⟨_, H, I', rw', ?_⟩
          generalize valV es k = o1 at ro
          generalize valD kvs k = o2 at ro h
          cases ro with
          | none => exact pq _ _ H μ .refl sr .non h
          | some z => exact pq _ _ H μ .refl sr z h
      · exact h.elim
    · split at h
      · rename_i k hk
        cases rr with
        | cons ra rr =>
          cases rr with
          | cons rb rr =>
            cases rr
            obtain rfl := keyOf_ok ra hk
            obtain ⟨u, u2, rfl, ru, ru2⟩ := Vals.two rs
            have ro := valD_ok (k := k) q
            refine d_get2 hu I (DGet.k (k := k) ha) ru ru2 fun w' s' I' rw' => ⟨_, H, I', rw', ?_⟩
            generalize valV es k = o1 at ro
            generalize valD kvs k = o2 at ro h
            cases ro with
            | none => exact pq _ _ H μ .refl sr rb h
            | some z => exact pq _ _ H μ .refl sr z h
      · exact h.elim
    · exact h.elim
  · exact h.elim
end
end PD
set_option Elab.async false
set_option linter.all false
set_option autoImplicit false
set_option maxRecDepth 100000
set_option maxHeartbeats 4000000
namespace PD
open PySem PySem.Spec PyProof.Rows L2
section
variable {X : Cx} {W : Wo} {Wk : WX}
/-! ### enumerate, zip -/
def enumL (xs : List D) : List D := (List.range xs.length).zipWith (fun i x => .tup [.int (i : Nat), x]) xs
theorem enumL_get {xs : List D} {i : Nat} {d : D} (h : (enumL xs)[i]? = some d) : ∃ x, xs[i]? = some x ∧ d = .tup [.int (i : Nat), x] := by
  unfold enumL at h
  rw [List.getElem?_zipWith] at h
  cases e : xs[i]? with
  | none =>
    rw [e] at h
    split at h
    · rename_i e1 e2
      cases e2
    · cases h
  | some x =>
    have hi := LB.lt_of_get e
    rw [e, List.getElem?_range hi] at h
    cases h
    exact ⟨x, rfl, rfl⟩
theorem enumL_len (xs : List D) : (enumL xs).length = xs.length := by simp [enumL]
def iEnum (ta : TDA) : TDI := fun Xd ρ μ R => ta Xd ρ μ fun ds μ1 => match ds with
  | [.tup xs] => R [] (enumL xs) μ1
  | [.lst xs] => R [] (enumL xs) μ1
  | [.ptr a] => (match lstOf (.ptr a) μ1 with | some xs => R [(a, xs)] (enumL xs) μ1 | none => False)
  | _ => False
/-- a pair is given out -/
theorem pair_ok {hid : Hid} {H : Hp} {μ : Mu} {T : Addr} {x y : V} {d e : D} (sr : SR W hid H μ) (hT : H T = none) (rx : Rep W hid H μ x d) (ry : Rep W hid H μ y e) : St H μ (upd H T (.tup [x, y])) μ ∧ SR W hid (upd H T (.tup [x, y])) μ ∧ Rep W hid (upd H T (.tup [x, y])) μ (.ref T) (.tup [d, e]) :=
  ⟨St.new hT, sr.new hT, .tup (.inl upd_same) (sr.fresh hT) (sr.nhid hT) (.cons (rx.mono (St.new hT).ok) (.cons (ry.mono (St.new hT).ok) .nil))⟩
theorem walkEL {hid : Hid} {H1 : Hp} {μ1 : Mu} {a : Addr} {d : D} {ds : List D} {o : Cks} (hK : X.K = W.K) (r : Rep W hid H1 μ1 (.ref a) d) (hd : d = .lst ds ∨ (d = .ptr a) ∨ ∃ ns, d = .scr ns ∧ ds = ns.map D.int) (ho : ∀ μ, CK o μ → d = .ptr a → lstOf (.ptr a) μ = some ds) : WalkD W hid H1 μ1 (Ite X.K a) o (enumL ds) := by
  rw [hK]
  refine ⟨fun hid' i H μ hi k sr ck => ?_, fun hid' H μ k sr ck => ?_, fun hid' i e H μ x H' hi k sr ck y => ?_⟩
  · obtain ⟨vs, h, q⟩ := lst_stands r hd k sr (ho μ ck)
    exact walk_enum.goes i H (by rw [q.length, ← enumL_len]; exact hi) h
  · obtain ⟨vs, h, q⟩ := lst_stands r hd k sr (ho μ ck)
    rw [enumL_len, ← q.length]
    exact walk_enum.stops H h
  · obtain ⟨vs, h, q⟩ := lst_stands r hd k sr (ho μ ck)
    obtain ⟨z, hz, rfl⟩ := enumL_get hi
    obtain ⟨v, hv, rv⟩ := q.get hz
    obtain ⟨T, x1, y1, rfl, hT, rfl, e1, e2⟩ := walk_enum.yields i H x H' (LB.lt_of_get hv) h y
    cases e1
    cases (hv.symm.trans e2)
    exact pair_ok sr hT (.int _) rv
theorem walkET {hid : Hid} {H1 : Hp} {μ1 : Mu} {a : Addr} {ds : List D} {o : Cks} (hK : X.K = W.K) (r : Rep W hid H1 μ1 (.ref a) (.tup ds)) : WalkD W hid H1 μ1 (LB.IteT X.K a) o (enumL ds) := by
  rw [hK]
  refine ⟨fun hid' i H μ hi k sr ck => ?_, fun hid' H μ k sr ck => ?_, fun hid' i e H μ x H' hi k sr ck y => ?_⟩
  · obtain ⟨vs, h, q⟩ := tup_stands r k
    exact LB.walk_enumT.goes i H (by rw [q.length, ← enumL_len]; exact hi) h
  · obtain ⟨vs, h, q⟩ := tup_stands r k
    rw [enumL_len, ← q.length]
    exact LB.walk_enumT.stops H h
  · obtain ⟨vs, h, q⟩ := tup_stands r k
    obtain ⟨z, hz, rfl⟩ := enumL_get hi
    obtain ⟨v, hv, rv⟩ := q.get hz
    obtain ⟨T, x1, y1, rfl, hT, rfl, e1, e2⟩ := LB.walk_enumT.yields i H x H' (LB.lt_of_get hv) h y
    cases e1
    cases (hv.symm.trans e2)
    exact pair_ok sr hT (.int _) rv
theorem bi_enum {tg e : Expr} {ta : TDA} {p pos : Pos} (C : TW X.K X.w W) (h : PI X tg (.Call (.Name "enumerate" p) [e] [] pos) (LB.iEnumA X.K (TDa W Wk ta))) : BI X W Wk tg (.Call (.Name "enumerate" p) [e] [] pos) (iEnum ta) := PI.weak h fun σ H R ⟨hid, ρ, μ, Xd, Rd, rel, sr, q, pr, px⟩ => by
  refine ⟨hid, ρ, μ, Xd, _, rel, sr, q, fun vs ds H1 μ1 s1 sr1 r1 q1 => ?_, px⟩
  dsimp only at q1
  split at q1
  · rename_i xs
    cases r1 with
    | cons ra rr =>
      cases rr
      obtain ⟨a, vs, rfl, ha, _⟩ := tup_ok ra
      exact ⟨a, vs, rfl, .inr ⟨by rw [C.hK]; exact ha, pr _ H1 μ1 [] _ s1 sr1 (walkET C.hK ra) q1⟩⟩
  · rename_i xs
    cases r1 with
    | cons ra rr =>
      cases rr
      obtain ⟨a, vs, rfl, ha, _⟩ := lstOf_ok (ds := xs) rfl sr1 ra
      exact ⟨a, vs, rfl, .inl ⟨by rw [C.hK]; exact ha, pr _ H1 μ1 [] _ s1 sr1 (walkEL C.hK ra (.inl rfl) fun _ _ e => by cases e) q1⟩⟩
  · rename_i a
    cases r1 with
    | cons ra rr =>
      cases rr
      cases ra
      split at q1
      · rename_i xs hx
        obtain ⟨a', vs, e, ha, _⟩ := lstOf_ok hx sr1 (.ptr a)
        cases e
        exact ⟨a, vs, rfl, .inl ⟨by rw [C.hK]; exact ha, pr _ H1 μ1 [(a, xs)] _ s1 sr1 (walkEL C.hK (.ptr a) (.inr (.inl rfl)) fun μ ck _ => ck (a, xs) (by simp)) q1⟩⟩
      · exact q1.elim
  · exact q1.elim
def zipL (xs ys : List D) : List D := xs.zipWith (fun x y => .tup [x, y]) ys
theorem zipL_get {xs ys : List D} {i : Nat} {d : D} (h : (zipL xs ys)[i]? = some d) : ∃ x y, xs[i]? = some x ∧ ys[i]? = some y ∧ d = .tup [x, y] := by
  unfold zipL at h
  rw [List.getElem?_zipWith] at h
  split at h
  · rename_i x y e1 e2
    cases h
    exact ⟨x, y, e1, e2, rfl⟩
  · cases h
theorem zipL_len (xs ys : List D) : (zipL xs ys).length = min xs.length ys.length := by simp [zipL]
def iZip (ta : TDA) : TDI := fun Xd ρ μ R => ta Xd ρ μ fun ds μ1 => match ds with
  | [.tup xs, .tup ys] => R [] (zipL xs ys) μ1
  | [d, e] => (match lstW d μ1, lstW e μ1 with
    | some xs, some ys => R ((match d with | .ptr a => [(a, xs)] | _ => []) ++ (match e with | .ptr b => [(b, ys)] | _ => [])) (zipL xs ys) μ1
    | _, _ => False)
  | _ => False
theorem walk_zipT {K : PySem.W.Frag} {a b : Addr} {xs ys : List V} {n : Nat} (hn : n = min xs.length ys.length) : Walk (RZ.ItzT K a b) n (fun H => SqT K H a xs ∧ SqT K H b ys) (YPair (fun i => xs[i]?) (fun i => ys[i]?)) := by
  subst hn
  refine ⟨fun i _ hi q => ?_, fun _ q => ⟨xs, ys, q.1, q.2, by omega⟩, fun i H v H' _ q y => ?_⟩
  · have h1 : i < xs.length := by omega
    have h2 : i < ys.length := by omega
    exact ⟨xs, ys, xs[i], ys[i], q.1, q.2, by simp [h1], by simp [h2]⟩
  · obtain ⟨T, x, z, h1, h2, h3, h4, h5⟩ := y
    exact ⟨T, x, z, h1, h2, h3, h4 xs q.1, h5 ys q.2⟩
theorem walkZ {hid : Hid} {H1 : Hp} {μ1 : Mu} {J : It} {xs ys : List D} {o : Cks} (st : ∀ hid' H μ, Ok hid H1 μ1 hid' H μ → SR W hid' H μ → CK o μ → ∃ vs us, Reps W hid' H μ vs xs ∧ Reps W hid' H μ us ys ∧ ∃ G : Hp → Prop, G H ∧ Walk J (min vs.length us.length) G (YPair (fun i => vs[i]?) (fun i => us[i]?))) : WalkD W hid H1 μ1 J o (zipL xs ys) := by
  refine ⟨fun hid' i H μ hi k sr ck => ?_, fun hid' H μ k sr ck => ?_, fun hid' i e H μ x H' hi k sr ck y => ?_⟩
  · obtain ⟨vs, us, q1, q2, G, g, w⟩ := st hid' H μ k sr ck
    exact w.goes i H (by rw [q1.length, q2.length, ← zipL_len]; exact hi) g
  · obtain ⟨vs, us, q1, q2, G, g, w⟩ := st hid' H μ k sr ck
    rw [zipL_len, ← q1.length, ← q2.length]
    exact w.stops H g
  · obtain ⟨vs, us, q1, q2, G, g, w⟩ := st hid' H μ k sr ck
    obtain ⟨z1, z2, hz1, hz2, rfl⟩ := zipL_get hi
    obtain ⟨v, hv, rv⟩ := q1.get hz1
    obtain ⟨u, hu, ru⟩ := q2.get hz2
    have l1 := LB.lt_of_get hv
    have l2 := LB.lt_of_get hu
    obtain ⟨T, x1, y1, rfl, hT, rfl, e1, e2⟩ := w.yields i H x H' (by omega) g y
    cases (hv.symm.trans e1)
    cases (hu.symm.trans e2)
    exact pair_ok sr hT rv ru
theorem lstW_stands {hid hid' : Hid} {H1 H : Hp} {μ1 μ : Mu} {a : Addr} {d : D} {ds : List D} (r : Rep W hid H1 μ1 (.ref a) d) (e : lstW d μ1 = some ds) (k : Ok hid H1 μ1 hid' H μ) (sr : SR W hid' H μ) (ck : ∀ b, d = .ptr b → lstOf (.ptr b) μ = some ds) : ∃ vs, SqL W.K H a vs ∧ Reps W hid' H μ vs ds := by
  cases r with
  | lst h i n q =>
    cases e
    exact lst_stands (.lst h i n q) (.inl rfl) k sr fun z => by cases z
  | ptr => exact lst_stands (.ptr a) (.inr (.inl rfl)) k sr fun _ => ck a rfl
  | _ => cases e
theorem bi_zip {tg e e2 : Expr} {ta : TDA} {p pos : Pos} (C : TW X.K X.w W) (h : PI X tg (.Call (.Name "zip" p) [e, e2] [] pos) (RZ.iZipA X.K (TDa W Wk ta))) : BI X W Wk tg (.Call (.Name "zip" p) [e, e2] [] pos) (iZip ta) := PI.weak h fun σ H R ⟨hid, ρ, μ, Xd, Rd, rel, sr, q, pr, px⟩ => by
  refine ⟨hid, ρ, μ, Xd, _, rel, sr, q, fun vs ds H1 μ1 s1 sr1 r1 q1 => ?_, px⟩
  dsimp only at q1
  split at q1
  · rename_i xs ys
    cases r1 with
    | cons ra rr =>
      cases rr with
      | cons rb rr =>
        cases rr
        obtain ⟨a, vs, rfl, ha, _⟩ := tup_ok ra
        obtain ⟨b, us, rfl, hb, _⟩ := tup_ok rb
        refine ⟨a, b, vs, us, rfl, .inr ⟨by rw [C.hK]; exact ha, by rw [C.hK]; exact hb, pr _ H1 μ1 [] _ s1 sr1 (walkZ fun hid' H μ k sr ck => ?_) q1⟩⟩
        obtain ⟨v1, h1, k1⟩ := tup_stands ra k
        obtain ⟨v2, h2, k2⟩ := tup_stands rb k
        rw [← C.hK] at h1 h2
        exact ⟨v1, v2, k1, k2, _, ⟨h1, h2⟩, walk_zipT rfl⟩
  · rename_i d e _
    cases r1 with
    | cons ra rr =>
      cases rr with
      | cons rb rr =>
        cases rr
        split at q1
        · rename_i xs ys ex ey
          obtain ⟨a, vs, rfl, ha, _⟩ := lstW_ok ex sr1 ra
          obtain ⟨b, us, rfl, hb, _⟩ := lstW_ok ey sr1 rb
          refine ⟨a, b, vs, us, rfl, .inl ⟨SqL.of ha, SqL.of hb, pr _ H1 μ1 _ _ s1 sr1 (walkZ fun hid' H μ k sr ck => ?_) q1⟩⟩
          obtain ⟨v1, h1, k1⟩ := lstW_stands ra ex k sr fun b' eb => ck (b', xs) (by subst eb; simp)
          obtain ⟨v2, h2, k2⟩ := lstW_stands rb ey k sr fun b' eb => ck (b', ys) (by subst eb; simp)
          rw [← C.hK] at h1 h2
          exact ⟨v1, v2, k1, k2, _, ⟨h1, h2⟩, walk_zip rfl⟩
        · exact q1.elim
  · exact q1.elim
/-! ### built-in classes as values -/
theorem be_ty {x : Str} {n : String} {pos : Pos} (hg : Gl X x) (hm : X.mg x = none) (hv : bootBuiltins x = some (.type n)) (hn : x ≠ "__name__" := by decide) (hd : (x == ("__debug__" : Str)) = false := by decide) : BE X W Wk (.Name x pos) (eC (.ty n)) := be_of_c (pe_bltn (v := .ty n) hg hm hv rfl hn hd) fun _ _ _ => .ty n
/-! ### match over texts -/
abbrev BM (X : Cx) (W : Wo) (Wk : WX) (cases : List MatchCase) (t : Str → TDS) : Prop := LB.PM X cases (fun v E σ H => ∃ z, v = .str z ∧ TDs W Wk (t z) E σ H)
def mS (lit : Str) (tb : TDS) (tr : Str → TDS) : Str → TDS := fun z E Xd ρ μ => dIf (decide (z = lit)) (tb E Xd ρ μ) (tr z E Xd ρ μ)
theorem PM.weak {cases : List MatchCase} {t t' : V → TS} (h : LB.PM X cases t) (k : ∀ v E σ H, t' v E σ H → t v E σ H) : LB.PM X cases t' := ⟨fun pins s σ H D x u first I r q => h.run pins s σ H D x u first I r (k x D σ H q)⟩
theorem bm_str {lit : Str} {body : List Stmt} {rest : List MatchCase} {tb : TDS} {tr : Str → TDS} {p p2 : Pos} (hb : BSs X W Wk body tb) (hr : BM X W Wk rest tr) : BM X W Wk (⟨.MatchValue (.Constant (.str lit) 0 p) p2, none, body⟩ :: rest) (mS lit tb tr) := PM.weak (LB.pm_str hb hr) fun v E σ H ⟨z, ez, hid, ρ, μ, Xd, Dd, rel, sr, q, pe, px⟩ => by
  refine ⟨z, ez, ?_⟩
  unfold mS at q
  by_cases e : z = lit
  · rw [if_pos e]
    rw [decide_eq_true e, dIf_true] at q
    exact ⟨hid, ρ, μ, Xd, Dd, rel, sr, q, pe, px⟩
  · rw [if_neg e]
    rw [decide_eq_false e, dIf_false] at q
    exact ⟨z, ez, hid, ρ, μ, Xd, Dd, rel, sr, q, pe, px⟩
theorem bm_any {body : List Stmt} {tb : TDS} {p : Pos} (hb : BSs X W Wk body tb) : BM X W Wk [⟨.MatchAs none none p, none, body⟩] (fun _ => tb) := PM.weak (LB.pm_any hb) fun v E σ H ⟨z, ez, q⟩ => q
def sMatch (td : TDE) (t : Str → TDS) : TDS := fun E Xd ρ μ => td Xd ρ μ fun d μ1 => match d with | .str z => t z E Xd ρ μ1 | _ => False
theorem bs_match {subject : Expr} {cases : List MatchCase} {td : TDE} {t : Str → TDS} {p : Pos} (hs : BE X W Wk subject td) (hm : BM X W Wk cases t) : BS X W Wk (.Match subject cases p) (sMatch td t) := PS.weak (LB.ps_match hs hm) fun E σ H ⟨hid, ρ, μ, Xd, Dd, rel, sr, q, pe, px⟩ => by
  refine ⟨hid, ρ, μ, Xd, _, rel, sr, q, fun v d H1 μ1 s1 sr1 r1 q1 => ?_, px.at_ rel⟩
  dsimp only at q1
  split at q1
  · cases r1
    exact ⟨_, rfl, hid, ρ, μ1, Xd, Dd, rel_mono s1.ok rel, sr1, q1, pe.st s1, px.st s1⟩
  · exact q1.elim
end
end PD
set_option Elab.async false
set_option linter.all false
set_option autoImplicit false
set_option maxRecDepth 100000
set_option maxHeartbeats 4000000
namespace PD
open PySem PySem.Spec PyProof.Rows L2
/-! ### plain words over data -/
theorem draw_ok {μ : Mu} {d l : Addr} {many : Int} {Q : QD} {Xd : XD → Mu → Prop} (hm : μ d = some (.deal l)) (h0 : 0 < many) (h1 : many ≤ 340282366920938463463374607431768211456) (h : ∀ r : Int, 0 ≤ r → r < many → Q (.int r) μ) : F_draw [.ptr d, .int many] μ Q Xd := ⟨⟨l, hm⟩, h0, h1, h⟩
theorem dIf_t {b : Bool} {A B : Prop} (e : b = true) (h : A) : dIf b A B := by rw [e, dIf_true]; exact h
theorem dIf_f {b : Bool} {A B : Prop} (e : b = false) (h : B) : dIf b A B := by rw [e, dIf_false]; exact h
end PD
set_option Elab.async false
set_option linter.all false
set_option autoImplicit false
set_option maxRecDepth 100000
set_option maxHeartbeats 4000000
namespace PD
open PySem PySem.Spec PyProof.Rows L2
section
variable {X : Cx} {W : Wo} {Wk : WX}
/-! ### a, *b = a list -/
theorem unpack_star {pins : List (Addr × Obj)} {σ : L2.St} {H : Hp} {s : Shared} {a : Addr} {x : V} {rest : List V} {E : Value → Shared → Prop} {Q : List Value → Shared → Prop} (hc : X.calm = true) (I : Inv X pins σ H s) (hq : SqL X.K H a (x :: rest)) (hz : rest.length ≤ 16000)
    (h : ∀ D u us s', H D = none → Inv X pins σ (upd H D (.lst rest)) s' → RelV x u → us = [u, .ref D] → Q us s') : wpAny (model X.prog X.w) X.A (unpackItems (.ref a) 2 (some 1)) Q E s := by
  obtain ⟨its, rv, pl, hz'⟩ := I.list hq
  cases rv with
  | @cons _ u _ us ru rus =>
    have hl : s.heap.IsList a (u :: us).toArray := pl.isList
    have hll : a < s.heap.objs.size := by obtain ⟨o, ho, _⟩ := hl; exact Heap.lt_size ho
    have hlt : a ≠ s.heap.objs.size := Nat.ne_of_lt hll
    have hus : us.length ≤ 16000 := by rw [← rus.length]; exact hz
    unfold unpackItems notIterableAtAll
    refine wpAny_bind (wpAny_bind (wpAny_specialOf hl.typeIs PySem.F.slot_list_iter.lookup (wpAny_pure ?_)))
    simp only [Bool.false_eq_true, if_false]
    refine wpAny_bind (wpAny_holding (wpAny_pyIter_list hl ?_))
    refine wpAny_bind (wpAny_holding (PySem.W.kun_draw hlt 1 0 _ _ ⟨_, Heap.get?_push_size _ rfl, rfl, rfl⟩ (hl.push _) (by simp) fun h1 hit1 hs1 => ?_))
    have hl1 : h1.IsList a (u :: us).toArray := (hl.push _).extBut hs1.extBut hlt
    rw [Nat.zero_add] at hit1
    obtain ⟨oi, hoi, _⟩ := id hit1
    obtain ⟨ol, hol, _⟩ := id hl1
    have ed : ((u :: us).toArray.toList.drop 0).take 1 = [u] := by simp
    rw [ed]
    rw [if_neg (show ¬ (([u] : List Value).length < 1) by simp)]
    refine wpAny_bind (wpAny_holding (PySem.W.kun_collect (s := { s with heap := h1 }) (T := "list_iterator") (.inr (.inr (.inl rfl))) (Walks.list (A := X.A.in1) (I.ok.hd hc) s.heap.objs.size a hlt (u :: us).toArray) (fun j u st => st.1.typeIs) (k := 1) (by simp) ⟨hit1, hl1⟩ (Heap.lt_size hoi) (Heap.lt_size hol) (fun h2 tk hk => ?_) (by rw [sizeLine_eq]; simp; omega)))
    have er : (u :: us).toArray.toList.drop 1 = us := by simp
    rw [er]
    show wpAny _ _ (if us.length < 2 - 1 - 1 then _ else _) _ _ _
    rw [if_neg (by omega)]
    show wpAny _ _ (newList (us.take (us.length - (2 - 1 - 1))) >>= fun d => pure ([u] ++ [d] ++ us.drop (us.length - (2 - 1 - 1)))) _ _ _
    have e0 : us.length - (2 - 1 - 1) = us.length := by omega
    rw [e0, List.take_length, List.drop_length]
    have keep : ∀ b o, s.heap.get? b = some o → h2.get? b = some o := fun b o e => hk b o (Nat.ne_of_lt (Heap.lt_size e)) (hs1.extBut b o (Nat.ne_of_lt (Heap.lt_size e)) (Heap.get?_push_of_some _ e))
    have I2 : Inv X pins σ H { s with heap := h2, toks := tk } := I.kept keep
    refine wpAny_bind (wpAny_newList (s := { s with heap := h2, toks := tk }) (wpAny_pure ?_) (by rw [sizeLine_eq]; omega))
    have hf : H h2.objs.size = none := I2.hok.fresh (Nat.le_refl _)
    refine h h2.objs.size u _ _ hf (I2.laid (t' := tk) (fun b u e => Heap.get?_push_of_some _ e) (Nat.le_refl _) ?_) ru rfl
    exact ⟨by rw [rus.length, sizeLine_eq]; omega, us, 0, rus, Heap.get?_push_size _ rfl⟩
def gStar (K : PySem.W.Frag) (t : TGs) : TG := fun v σ H Q => ∃ a x rest, v = .ref a ∧ SqL K H a (x :: rest) ∧ rest.length ≤ 16000 ∧ ∀ D, H D = none → t [x, .ref D] σ (upd H D (.lst rest)) Q
theorem pg_star {e f : Expr} {k : Nat} {p pos : Pos} {t : TGs} (hc : X.calm = true) (h : PGs X [e, f] t) (hn : (assignEach [e, .Starred f p] X.env).length = 2 := by rfl) (hst : (assignEach [e, .Starred f p] X.env).findIdx? (·.1) = some 1 := by rfl)
    (hm : (assignEach [e, .Starred f p] X.env).map (·.2) = (assignEach [e, f] X.env).map (·.2) := by rfl) : PG X (.Tuple [e, .Starred f p] k pos) (gStar X.K t) := by
  refine ⟨fun pins s σ H v u Q I r ⟨a, x, rest, ev, hq, hz, hw⟩ => ?_⟩
  subst ev
  cases (show u = Value.ref a from r)
  rw [PyProof.Rows.assign_Tuple]
  refine wpAny_bind (wpAny_standAt ?_)
  unfold unpack
  rw [hn, hst, hm]
  refine wpAny_bind (wpAny_holding (unpack_star hc I hq hz fun D u us s' hD I' ru e => ?_))
  subst e
  exact h.run pins s' σ _ [x, .ref D] [u, .ref D] Q I' (.cons ru (.cons rfl .nil)) (hw D hD)
def gSt (m : Bool) (u : TDGs) : TDG := fun d Xd ρ μ Q => match lstOf d μ with
  | some (x :: rest) => rest.length ≤ 16000 ∧ newL m rest μ fun r μ1 => u [x, r] Xd ρ μ1 Q
  | _ => False
theorem bg_star {m : Bool} {e f : Expr} {k : Nat} {p pos : Pos} {u : TDGs} (C : TW X.K X.w W) (hc : X.calm = true) (h : BGs X W Wk [e, f] u) (hn : (assignEach [e, .Starred f p] X.env).length = 2 := by rfl) (hst : (assignEach [e, .Starred f p] X.env).findIdx? (·.1) = some 1 := by rfl)
    (hm : (assignEach [e, .Starred f p] X.env).map (·.2) = (assignEach [e, f] X.env).map (·.2) := by rfl) : BG X W Wk (.Tuple [e, .Starred f p] k pos) (gSt m u) := PG.weak (pg_star hc h hn hst hm) fun v σ H Q ⟨hid, ρ, μ, Xd, d, Nd, rel, sr, r, q, pn, px⟩ => by
  unfold gSt at q
  split at q
  · rename_i x rest el
    obtain ⟨a, vs, rfl, ha, ra⟩ := lstOf_ok el sr r
    rw [← C.hK] at ha
    cases ra with
    | @cons v1 vs _ _ rx rr =>
      refine ⟨a, v1, vs, rfl, ha, by rw [rr.length]; exact q.1, fun D hD => ?_⟩
      refine newL_ok (Q := fun y H' => TDgs W Wk u [v1, y] σ H' Q) sr rr hD q.2 fun y z H1 μ1 s1 sr1 r1 q1 => ?_
      exact ⟨hid, ρ, μ1, Xd, [x, z], Nd, rel_mono s1.ok rel, sr1, .cons (rx.mono s1.ok) (.cons r1 .nil), q1, pn.st s1, px.st s1⟩
  · exact q.elim
/-! ### f(*xs), (a, *xs) -/
def aStar (te : TDE) (tr : TDA) : TDA := fun Xd ρ μ Q => te Xd ρ μ fun d μ1 => match seqOf d μ1 with | some xs => tr Xd ρ μ1 (fun ds μ2 => Q (xs ++ ds) μ2) | none => False
theorem ba_star {e : Expr} {es : List Expr} {te : TDE} {tr : TDA} {p : Pos} (C : TW X.K X.w W) (he : BE X W Wk e te) (hr : BA X W Wk es tr) (hs : starEach (.Starred e p :: es) X.env = (true, eval e X.env) :: starEach es X.env := by rfl) : BA X W Wk (.Starred e p :: es) (aStar te tr) :=
  PA.weak (StX.pa_star he hr hs) fun σ H Q ⟨hid, ρ, μ, Xd, Qd, rel, sr, q, pq, px⟩ => by
    refine ⟨hid, ρ, μ, Xd, _, rel, sr, q, fun v d H1 μ1 s1 sr1 r1 q1 => ?_, px⟩
    dsimp only at q1
    split at q1
    · rename_i xs es
      obtain ⟨a, vs, rfl, ha, ra⟩ := seqOf_ok es sr1 r1
      rw [← C.hK] at ha
      refine ⟨a, vs, rfl, ha.symm, hid, ρ, μ1, Xd, _, rel_mono s1.ok rel, sr1, q1, fun us ds H2 μ2 s2 sr2 r2 q2 => ?_, px.st s1⟩
      exact pq _ _ H2 μ2 (s1.trans s2) sr2 ((ra.mono s2.ok).append r2) q2
    · exact q1.elim
end
end PD
set_option Elab.async false
set_option linter.all false
set_option autoImplicit false
set_option maxRecDepth 100000
set_option maxHeartbeats 4000000
/-! zip of two things, each a list or a tuple -/
namespace LB
open PySem PySem.Spec PyProof.Rows L2
/-- true: a tuple -/
def ItS (b : Bool) (h : Heap) (it l : Addr) (k : Nat) : Prop := match b with | true => h.IsTupleIter it l k | false => h.IsListIter it l k
def SqS (b : Bool) (h : Heap) (l : Addr) (xs : Array Value) : Prop := match b with | true => h.IsTuple l xs | false => h.IsList l xs
def itN (b : Bool) : String := match b with | true => "tuple_iterator" | false => "list_iterator"
theorem ItS.extBut {b : Bool} {h h' : Heap} {a c l : Addr} {i : Nat} (x : ItS b h a l i) (hs : Heap.ExtBut c h h') (n : a ≠ c) : ItS b h' a l i := by
  cases b
  · exact Heap.IsListIter.extBut x hs n
  · exact Heap.IsTupleIter.extBut x hs n
theorem ItS.at {b : Bool} {h h' : Heap} {a l : Addr} {i : Nat} (x : ItS b h a l i) (e : ∀ o, h.get? a = some o → h'.get? a = some o) : ItS b h' a l i := by
  cases b
  · exact Heap.IsListIter.at x e
  · exact Heap.IsTupleIter.at x e
theorem SqS.extBut {b : Bool} {h h' : Heap} {a c : Addr} {xs : Array Value} (x : SqS b h a xs) (hs : Heap.ExtBut c h h') (n : a ≠ c) : SqS b h' a xs := by
  cases b
  · exact Heap.IsList.extBut x hs n
  · exact Heap.IsTuple.extBut x hs n
theorem ItS.obj {b : Bool} {h : Heap} {a l : Addr} {i : Nat} (x : ItS b h a l i) : ∃ o, h.get? a = some o ∧ ∀ v, o.data ≠ .cell v := by
  cases b
  · obtain ⟨o, e, _, d⟩ := x
    exact ⟨o, e, fun v q => by rw [d] at q; cases q⟩
  · obtain ⟨o, e, _, d⟩ := x
    exact ⟨o, e, fun v q => by rw [d] at q; cases q⟩
theorem SqS.lt {b : Bool} {h : Heap} {a : Addr} {xs : Array Value} (x : SqS b h a xs) : a < h.objs.size := by
  cases b
  · obtain ⟨o, e, _⟩ := x; exact Heap.lt_size e
  · obtain ⟨o, e, _⟩ := x; exact Heap.lt_size e
section
variable {prog : Program} {w : World} {A : Around} {E : Value → Shared → Prop} {s : Shared}
theorem next_item {b : Bool} {it l : Addr} {i : Nat} {items : Array Value} {x : Value} {Q : Value → Shared → Prop} (hit : ItS b s.heap it l i) (hl : SqS b s.heap l items) (hx : items[i]? = some x)
    (hQ : ∀ h', ItS b h' it l (i + 1) → Heap.SameBut it s.heap h' → Q x { s with heap := h' }) : wpAny (model prog w) A (Builtin.SmallTypes.nextOf (.ref it)) Q E s := by
  cases b
  · exact wpAny_nextOf_list_item hit hl hx hQ
  · exact RZ.nextOf_tuple_item hit hl hx hQ
theorem next_end {b : Bool} {it l : Addr} {i : Nat} {items : Array Value} {Q : Value → Shared → Prop} (hh : A.handled = none) (hit : ItS b s.heap it l i) (hl : SqS b s.heap l items) (hx : items[i]? = none)
    (hE : ∀ h' e, Heap.ExtBut it s.heap h' → (∃ o, h'.get? e = some o ∧ o.cls = .type "StopIteration") → E (.ref e) { s with heap := h' }) : wpAny (model prog w) A (Builtin.SmallTypes.nextOf (.ref it)) Q E s := by
  cases b
  · exact wpAny_nextOf_list_end hh hit hl hx hE
  · exact RZ.nextOf_tuple_end hh hit hl hx hE
end
end LB
set_option Elab.async false
set_option linter.all false
set_option autoImplicit false
set_option maxRecDepth 100000
set_option maxHeartbeats 4000000
namespace LB
open PySem PySem.Spec PyProof.Rows L2
/-! zip of any number of lists and tuples: one turn -/
structure Sd where
  b : Bool
  it : Addr
  l : Addr
abbrev IsTup (h : Heap) (T : Addr) (vs : Array Value) : Prop := h.get? T = some { cls := .type "tuple", data := .seq vs }
structure Aps (ss : List Sd) (z TI TO : Addr) : Prop where
  TIz : TI ≠ z
  TOz : TO ≠ z
  IO : TI ≠ TO
  it : ∀ s ∈ ss, s.it ≠ z ∧ s.it ≠ TI ∧ s.it ≠ TO
  l : ∀ s ∈ ss, s.l ≠ z ∧ s.l ≠ TO ∧ ∀ t ∈ ss, s.l ≠ t.it
  nd : ∀ (i j : Nat) (s t : Sd), ss[i]? = some s → ss[j]? = some t → i ≠ j → s.it ≠ t.it
section
variable {prog : Program} {w : World} {A : Around} {E : Value → Shared → Prop} {s : Shared}
theorem upd_tup {T : Addr} {vs : Array Value} {k : Nat} {x : Value} {Q : Unit → Shared → Prop} (hT : IsTup s.heap T vs) (hz : vs.size ≤ 100)
    (h : ∀ h', IsTup h' T (vs.setIfInBounds k x) → Heap.SameBut T s.heap h' → Q () { s with heap := h' }) : wpAny (model prog w) A (updateSeq T (·.setIfInBounds k x)) Q E s := by
  refine wpAny_updateSeq hT rfl (h _ ?_ (Heap.SameBut.update ..)) (Nat.le_trans hz (by decide)) (by rw [Array.size_setIfInBounds]; exact Nat.le_trans hz (by decide))
  show (s.heap.update T _).get? T = _
  rw [Heap.get?_update_self _ hT rfl]
  simp [Obj.mapSeq]
/-- the heap when j of the iterators have been drawn from -/
structure Mid (ss : List Sd) (xss : List (Array Value)) (k : Nat) (z TI TO : Addr) (h0 : Heap) (xs : List Value) (j : Nat) (h : Heap) : Prop where
  zz : IsZip h z TI TO .ellipsis
  ti : IsTup h TI (ss.map fun s => Value.ref s.it).toArray
  to : ∃ vs : List Value, IsTup h TO vs.toArray ∧ vs.length = ss.length ∧ ∀ i, i < j → vs[i]? = xs[i]?
  its : ∀ (i : Nat) (s : Sd), ss[i]? = some s → ItS s.b h s.it s.l (if i < j then k + 1 else k)
  ls : ∀ (i : Nat) (s : Sd) (vs : Array Value), ss[i]? = some s → xss[i]? = some vs → SqS s.b h s.l vs
  sz : h.objs.size = h0.objs.size
  kept : ∀ c o, c ≠ z → c ≠ TO → (∀ s ∈ ss, c ≠ s.it) → h0.get? c = some o → h.get? c = some o
/-- one iterator moves on -/
theorem Mid.draw {ss : List Sd} {xss : List (Array Value)} {k : Nat} {z TI TO : Addr} {h0 h h1 : Heap} {xs : List Value} {j : Nat} {sd : Sd} (D : Aps ss z TI TO) (M : Mid ss xss k z TI TO h0 xs j h) (hj : ss[j]? = some sd) (hs : Heap.SameBut sd.it h h1) (hi : ItS sd.b h1 sd.it sd.l (k + 1)) :
    ∃ vs : List Value, IsTup h1 TO vs.toArray ∧ vs.length = ss.length ∧ (∀ i, i < j → vs[i]? = xs[i]?) ∧ ∀ h2 x, xs[j]? = some x → Heap.SameBut TO h1 h2 → IsTup h2 TO (vs.set j x).toArray → Mid ss xss k z TI TO h0 xs (j + 1) h2 := by
  have hm := List.mem_of_getElem? hj
  have d := D.it sd hm
  obtain ⟨vs, h2, h3, h4⟩ := M.to
  refine ⟨vs, hs.extBut _ _ d.2.2.symm h2, h3, h4, fun h2' x hx hs2 ht => ⟨?_, ?_, ⟨vs.set j x, ht, by rw [List.length_set]; exact h3, fun i hi => ?_⟩, fun i s e => ?_, fun i s v e ev => ?_, ?_, fun c o c1 c2 c3 e => ?_⟩⟩
  · exact hs2.extBut _ _ D.TOz.symm (hs.extBut _ _ d.1.symm M.zz)
  · exact hs2.extBut _ _ D.IO (hs.extBut _ _ d.2.1.symm M.ti)
  · by_cases e : i = j
    · subst e
      rw [List.getElem?_set_self (by rw [h3]; exact lt_of_get hj), hx]
    · rw [List.getElem?_set_ne (Ne.symm e)]
      exact h4 i (by omega)
  · have hms := List.mem_of_getElem? e
    by_cases q : i = j
    · subst q
      rw [hj] at e
      cases e
      rw [if_pos (Nat.lt_succ_self _)]
      exact hi.extBut hs2.extBut d.2.2
    · have := (M.its i s e)
      have e2 : (if i < j + 1 then k + 1 else k) = (if i < j then k + 1 else k) := by
        by_cases q2 : i < j
        · rw [if_pos q2, if_pos (by omega)]
        · rw [if_neg q2, if_neg (by omega)]
      rw [e2]
      exact (this.extBut hs.extBut (D.nd i j s sd e hj q)).extBut hs2.extBut (D.it s hms).2.2
  · have hms := List.mem_of_getElem? e
    exact ((M.ls i s v e ev).extBut hs.extBut ((D.l s hms).2.2 sd hm)).extBut hs2.extBut (D.l s hms).2.1
  · rw [hs2.1, hs.1]
    exact M.sz
  · exact hs2.extBut _ _ c2 (hs.extBut _ _ (c3 sd hm) (M.kept c o c1 c2 c3 e))
theorem drop_cons {α : Type} {l r : List α} {x : α} {j : Nat} (h : x :: r = l.drop j) : l[j]? = some x ∧ r = l.drop (j + 1) := by
  have hlt : j < l.length := by
    refine Decidable.byContradiction fun q => ?_
    rw [List.drop_of_length_le (by omega)] at h
    cases h
  rw [List.drop_eq_getElem_cons hlt] at h
  cases h
  exact ⟨List.getElem?_eq_getElem hlt, rfl⟩
theorem zi_get {ss : List Sd} {j : Nat} {x : Value × Nat} (h : ((ss.map fun s => Value.ref s.it).zipIdx)[j]? = some x) : ∃ sd, ss[j]? = some sd ∧ x = (.ref sd.it, j) := by
  rw [List.getElem?_zipIdx, List.getElem?_map] at h
  cases e : ss[j]? with
  | none => rw [e] at h; cases h
  | some sd =>
    rw [e] at h
    cases h
    exact ⟨sd, rfl, by simp⟩
theorem zip_next_item {ss : List Sd} {xss : List (Array Value)} {xs : List Value} {k : Nat} {z TI TO : Addr} {v0 : List Value} {Q : Value → Shared → Prop} (D : Aps ss z TI TO) (h0 : ss ≠ []) (hn : ss.length ≤ 100)
    (hz : IsZip s.heap z TI TO .none) (hTI : IsTup s.heap TI (ss.map fun s => Value.ref s.it).toArray) (hTO : IsTup s.heap TO v0.toArray) (hv0 : v0.length = ss.length)
    (hit : ∀ (i : Nat) (sd : Sd), ss[i]? = some sd → ItS sd.b s.heap sd.it sd.l k) (hls : ∀ (i : Nat) (sd : Sd) (vs : Array Value), ss[i]? = some sd → xss[i]? = some vs → SqS sd.b s.heap sd.l vs)
    (hlen : xs.length = ss.length) (hx : ∀ (i : Nat) (x : Value), xs[i]? = some x → ∃ vs, xss[i]? = some vs ∧ vs[k]? = some x)
    (hQ : ∀ h', IsZip h' z TI TO (rawInt s.heap.objs.size) → (∃ vs : List Value, IsTup h' TO vs.toArray ∧ vs.length = ss.length) → (∀ (i : Nat) (sd : Sd), ss[i]? = some sd → ItS sd.b h' sd.it sd.l (k + 1)) → IsTup h' s.heap.objs.size xs.toArray → h'.objs.size = s.heap.objs.size + 1 →
      (∀ c o, c ≠ z → c ≠ TO → (∀ sd ∈ ss, c ≠ sd.it) → s.heap.get? c = some o → h'.get? c = some o) → Q (.ref s.heap.objs.size) { s with heap := h' }) :
    wpAny (model prog w) A (Builtin.«zip.__next__» ⟨[.ref z], []⟩) (fun fin s' => ∃ v, fin = .done (.ret v) ∧ Q v s') E s := by
  show wpAny _ _ (field (.ref z) 2 >>= _) _ _ _
  refine wpAny_bind (wpAny_field hz rfl (x := .bool false) rfl ?_)
  show wpAny _ _ (field (.ref z) 3 >>= _) _ _ _
  refine wpAny_bind (wpAny_field hz rfl (x := .ref TI) rfl ?_)
  refine wpAny_bind (wpAny_seqItems hTI rfl ?_)
  have hne : ((ss.map fun s => Value.ref s.it).toArray.isEmpty) = false := by
    cases ss with
    | nil => exact absurd rfl h0
    | cons a r => rfl
  show wpAny _ _ (if ((ss.map fun s => Value.ref s.it).toArray.isEmpty) = true then _ else _) _ _ _
  rw [hne, if_neg Bool.false_ne_true]
  show wpAny _ _ (Builtin.SmallTypes.ownedTupleIsFree (.ref z) >>= _) _ _ _
  refine wpAny_bind ?_
  unfold Builtin.SmallTypes.ownedTupleIsFree
  refine wpAny_bind (wpAny_field hz rfl (x := .none) rfl (wpAny_pure ?_))
  simp only [if_true]
  refine wpAny_bind (wpAny_rule ?_)
  refine wpAny_bind (wpAny_field hz rfl (x := .ref TO) rfl ?_)
  refine wpAny_bind (wpAny_setField_rec hz (by simp) fun h₁ hz₁ hs₁ => ?_)
  replace hz₁ : IsZip h₁ z TI TO .ellipsis := hz₁
  have M0 : Mid ss xss k z TI TO s.heap xs 0 h₁ := by
    refine ⟨hz₁, hs₁.extBut _ _ D.TIz hTI, ⟨v0, hs₁.extBut _ _ D.TOz hTO, hv0, fun i hi => absurd hi (Nat.not_lt_zero _)⟩, fun i sd e => ?_, fun i sd vs e ev => ?_, hs₁.1, fun c o c1 _ _ e => hs₁.extBut _ _ c1 e⟩
    · rw [if_neg (Nat.not_lt_zero _)]
      exact (hit i sd e).extBut hs₁.extBut (D.it sd (List.mem_of_getElem? e)).1
    · exact (hls i sd vs e ev).extBut hs₁.extBut (D.l sd (List.mem_of_getElem? e)).1
  refine wpAny_bind ?_
  refine wpAny_forIn_list _ (fun rest b st => ∃ j h, rest = ((ss.map fun s => Value.ref s.it).zipIdx.drop j) ∧ j ≤ ss.length ∧ b = (none, ()) ∧ st = { s with heap := h } ∧ Mid ss xss k z TI TO s.heap xs j h) _ (fun x rest b st hI => ?_) (fun b st hI => ?_) _ _ ⟨0, h₁, by simp, Nat.zero_le _, rfl, rfl, M0⟩
  · obtain ⟨j, h, er, hj, rfl, rfl, M⟩ := hI
    obtain ⟨e1, rfl⟩ := drop_cons er
    obtain ⟨sd, hsd, rfl⟩ := zi_get e1
    have hjl := lt_of_get hsd
    obtain ⟨x, ex⟩ : ∃ x, xs[j]? = some x := ⟨xs[j], List.getElem?_eq_getElem (by omega)⟩
    obtain ⟨vs, ev, ek⟩ := hx j x ex
    refine wpAny_bind (wpAny_onRaise ?_)
    show wpAny _ _ (Builtin.SmallTypes.nextOf (.ref sd.it) >>= _) _ _ _
    have hi := M.its j sd hsd
    rw [if_neg (Nat.lt_irrefl _)] at hi
    refine wpAny_bind (next_item (s := { s with heap := h }) hi (M.ls j sd vs hsd ev) ek fun h1 hi1 hs1 => wpAny_pure ?_)
    obtain ⟨ws, w1, w2, w3, w4⟩ := M.draw D hsd hs1 hi1
    refine wpAny_bind (wpAny_seqItems (s := { s with heap := h1 }) w1 rfl ?_)
    refine wpAny_bind (upd_tup (s := { s with heap := h1 }) w1 (by rw [List.size_toArray, w2]; exact hn) fun h2 t2 hs2 => ?_)
    refine wpAny_bind (wpAny_letGo (wpAny_pure ⟨j + 1, h2, rfl, hjl, rfl, rfl, w4 h2 x ex hs2 ?_⟩))
    rw [List.setIfInBounds_toArray] at t2
    exact t2
  · obtain ⟨j, h, er, hj, rfl, rfl, M⟩ := hI
    have ej : j = ss.length := by
      refine Nat.le_antisymm hj (Nat.le_of_not_lt fun q => ?_)
      have := congrArg List.length er
      rw [List.length_drop, List.length_zipIdx, List.length_map, List.length_nil] at this
      omega
    subst ej
    obtain ⟨vs, t1, t2, t3⟩ := M.to
    have evs : vs = xs := by
      refine List.ext_getElem? fun i => ?_
      by_cases q : i < ss.length
      · exact t3 i q
      · rw [List.getElem?_eq_none (by omega), List.getElem?_eq_none (by omega)]
    subst evs
    refine wpAny_bind (wpAny_seqItems (s := { s with heap := h }) t1 rfl ?_)
    refine wpAny_bind (wpAny_newTuple (s := { s with heap := h }) ?_ (by show vs.toArray.toList.length ≤ _; simp only [List.toList_toArray]; rw [t2]; exact Nat.le_trans hn (by decide)))
    have hzlt : z < h.objs.size := Heap.lt_size M.zz
    refine wpAny_bind ?_
    unfold Builtin.SmallTypes.ownedTupleHandOut
    have hz6 : IsZip (h.push { cls := .type "tuple", data := .seq vs.toArray }) z TI TO .ellipsis := Heap.get?_push_of_some _ M.zz
    refine wpAny_bind (wpAny_setField_rec hz6 (by simp) fun h7 hz7 hs7 => ?_)
    replace hz7 : IsZip h7 z TI TO (rawInt h.objs.size) := hz7
    refine wpAny_setField_rec hz7 (by simp) fun h8 hz8 hs8 => ?_
    replace hz8 : IsZip h8 z TI TO (rawInt h.objs.size) := hz8
    have up : ∀ c o, c ≠ z → h.get? c = some o → h8.get? c = some o := fun c o c1 e => hs8.extBut _ _ c1 (hs7.extBut _ _ c1 (Heap.get?_push_of_some _ e))
    have hT : IsTup h8 h.objs.size vs.toArray := hs8.extBut _ _ (Nat.ne_of_gt hzlt) (hs7.extBut _ _ (Nat.ne_of_gt hzlt) (Heap.get?_push_size _ rfl))
    have hsz : h8.objs.size = h.objs.size + 1 := by rw [hs8.1, hs7.1, Heap.size_push]
    rw [M.sz] at hz8 hT hsz
    refine wpAny_pure ⟨_, rfl, ?_⟩
    show Q (.ref h.objs.size) _
    rw [M.sz]
    refine hQ h8 hz8 ⟨vs, up _ _ D.TOz t1, t2⟩ (fun i sd e => ?_) hT hsz fun c o c1 c2 c3 e => up c o c1 (M.kept c o c1 c2 c3 e)
    have := M.its i sd e
    rw [if_pos (lt_of_get e)] at this
    exact this.at fun o q => up _ o (D.it sd (List.mem_of_getElem? e)).1 q
end
end LB
set_option Elab.async false
set_option linter.all false
set_option autoImplicit false
set_option maxRecDepth 100000
set_option maxHeartbeats 4000000
namespace LB
open PySem PySem.Spec PyProof.Rows L2
section
variable {prog : Program} {w : World} {A : Around} {E : Value → Shared → Prop} {s : Shared}
theorem zip_next_end {ss : List Sd} {xss : List (Array Value)} {k m : Nat} {z TI TO : Addr} {v0 : List Value} {Q : PySem.Fin → Shared → Prop} (hh : A.handled = none) (D : Aps ss z TI TO) (hn : ss.length ≤ 100)
    (hz : IsZip s.heap z TI TO .none) (hTI : IsTup s.heap TI (ss.map fun s => Value.ref s.it).toArray) (hTO : IsTup s.heap TO v0.toArray) (hv0 : v0.length = ss.length)
    (hit : ∀ (i : Nat) (sd : Sd), ss[i]? = some sd → ItS sd.b s.heap sd.it sd.l k) (hls : ∀ (i : Nat) (sd : Sd) (vs : Array Value), ss[i]? = some sd → xss[i]? = some vs → SqS sd.b s.heap sd.l vs)
    (hm : m < ss.length) (hxm : ∃ vs, xss[m]? = some vs ∧ vs[k]? = none) (hx : ∀ i, i < m → ∃ vs x, xss[i]? = some vs ∧ vs[k]? = some x)
    (hE : ∀ h' e, (∀ c o, c ≠ z → c ≠ TO → (∀ sd ∈ ss, c ≠ sd.it) → s.heap.get? c = some o → h'.get? c = some o) → (∃ o, h'.get? e = some o ∧ o.cls = .type "StopIteration") → E (.ref e) { s with heap := h' }) :
    wpAny (model prog w) A (Builtin.«zip.__next__» ⟨[.ref z], []⟩) Q E s := by
  show wpAny _ _ (field (.ref z) 2 >>= _) _ _ _
  refine wpAny_bind (wpAny_field hz rfl (x := .bool false) rfl ?_)
  show wpAny _ _ (field (.ref z) 3 >>= _) _ _ _
  refine wpAny_bind (wpAny_field hz rfl (x := .ref TI) rfl ?_)
  refine wpAny_bind (wpAny_seqItems hTI rfl ?_)
  have hne : ((ss.map fun s => Value.ref s.it).toArray.isEmpty) = false := by
    cases ss with
    | nil => exact absurd hm (Nat.not_lt_zero _)
    | cons a r => rfl
  show wpAny _ _ (if ((ss.map fun s => Value.ref s.it).toArray.isEmpty) = true then _ else _) _ _ _
  rw [hne, if_neg Bool.false_ne_true]
  show wpAny _ _ (Builtin.SmallTypes.ownedTupleIsFree (.ref z) >>= _) _ _ _
  refine wpAny_bind ?_
  unfold Builtin.SmallTypes.ownedTupleIsFree
  refine wpAny_bind (wpAny_field hz rfl (x := .none) rfl (wpAny_pure ?_))
  simp only [if_true]
  refine wpAny_bind (wpAny_rule ?_)
  refine wpAny_bind (wpAny_field hz rfl (x := .ref TO) rfl ?_)
  refine wpAny_bind (wpAny_setField_rec hz (by simp) fun h₁ hz₁ hs₁ => ?_)
  replace hz₁ : IsZip h₁ z TI TO .ellipsis := hz₁
  let xs : List Value := xss.map fun vs => vs[k]?.getD .none
  have M0 : Mid ss xss k z TI TO s.heap xs 0 h₁ := by
    refine ⟨hz₁, hs₁.extBut _ _ D.TIz hTI, ⟨v0, hs₁.extBut _ _ D.TOz hTO, hv0, fun i hi => absurd hi (Nat.not_lt_zero _)⟩, fun i sd e => ?_, fun i sd vs e ev => ?_, hs₁.1, fun c o c1 _ _ e => hs₁.extBut _ _ c1 e⟩
    · rw [if_neg (Nat.not_lt_zero _)]
      exact (hit i sd e).extBut hs₁.extBut (D.it sd (List.mem_of_getElem? e)).1
    · exact (hls i sd vs e ev).extBut hs₁.extBut (D.l sd (List.mem_of_getElem? e)).1
  refine wpAny_bind ?_
  refine wpAny_forIn_list _ (fun rest b st => ∃ j h, rest = ((ss.map fun s => Value.ref s.it).zipIdx.drop j) ∧ j ≤ m ∧ b = (none, ()) ∧ st = { s with heap := h } ∧ Mid ss xss k z TI TO s.heap xs j h) _ (fun x rest b st hI => ?_) (fun b st hI => ?_) _ _ ⟨0, h₁, by simp, Nat.zero_le _, rfl, rfl, M0⟩
  · obtain ⟨j, h, er, hj, rfl, rfl, M⟩ := hI
    obtain ⟨e1, rfl⟩ := drop_cons er
    obtain ⟨sd, hsd, rfl⟩ := zi_get e1
    have hd := D.it sd (List.mem_of_getElem? hsd)
    refine wpAny_bind (wpAny_onRaise ?_)
    show wpAny _ _ (Builtin.SmallTypes.nextOf (.ref sd.it) >>= _) _ _ _
    have hi := M.its j sd hsd
    rw [if_neg (Nat.lt_irrefl _)] at hi
    by_cases q : j = m
    · subst q
      obtain ⟨vs, ev, ek⟩ := hxm
      refine wpAny_bind (next_end (s := { s with heap := h }) hh hi (M.ls j sd vs hsd ev) ek fun h2 e hs2 he => ?_)
      obtain ⟨oe, hoe, hce⟩ := he
      have hz2 : IsZip h2 z TI TO .ellipsis := hs2 _ _ hd.1.symm M.zz
      have hez : e ≠ z := fun x => by subst x; rw [hz2] at hoe; cases hoe; simp at hce
      exact wpAny_setField_rec (s := { s with heap := h2 }) hz2 (by simp) fun h3 _ hs3 => hE h3 e (fun c o c1 c2 c3 x => hs3.extBut _ _ c1 (hs2 _ _ (c3 sd (List.mem_of_getElem? hsd)) (M.kept c o c1 c2 c3 x))) ⟨oe, hs3.extBut _ _ hez hoe, hce⟩
    · obtain ⟨vs, x, ev, ek⟩ := hx j (by omega)
      have ex : xs[j]? = some x := by
        show (xss.map _)[j]? = _
        rw [List.getElem?_map, ev]
        show some (vs[k]?.getD .none) = _
        rw [ek] <;> rfl
      refine wpAny_bind (next_item (s := { s with heap := h }) hi (M.ls j sd vs hsd ev) ek fun h1 hi1 hs1 => wpAny_pure ?_)
      obtain ⟨ws, w1, w2, w3, w4⟩ := M.draw D hsd hs1 hi1
      refine wpAny_bind (wpAny_seqItems (s := { s with heap := h1 }) w1 rfl ?_)
      refine wpAny_bind (upd_tup (s := { s with heap := h1 }) w1 (by rw [List.size_toArray, w2]; exact hn) fun h2 t2 hs2 => ?_)
      refine wpAny_bind (wpAny_letGo (wpAny_pure ⟨j + 1, h2, rfl, by omega, rfl, rfl, w4 h2 x ex hs2 ?_⟩))
      rw [List.setIfInBounds_toArray] at t2
      exact t2
  · obtain ⟨j, h, er, hj, rfl, rfl, M⟩ := hI
    have := congrArg List.length er
    rw [List.length_drop, List.length_zipIdx, List.length_map, List.length_nil] at this
    omega
/-- one turn of a zip -/
theorem pyNext_zip_item {ss : List Sd} {xss : List (Array Value)} {xs : List Value} {k : Nat} {z TI TO : Addr} {v0 : List Value} {Q : Option Value → Shared → Prop} (D : Aps ss z TI TO) (h0 : ss ≠ []) (hn : ss.length ≤ 100)
    (hz : IsZip s.heap z TI TO .none) (hTI : IsTup s.heap TI (ss.map fun s => Value.ref s.it).toArray) (hTO : IsTup s.heap TO v0.toArray) (hv0 : v0.length = ss.length)
    (hit : ∀ (i : Nat) (sd : Sd), ss[i]? = some sd → ItS sd.b s.heap sd.it sd.l k) (hls : ∀ (i : Nat) (sd : Sd) (vs : Array Value), ss[i]? = some sd → xss[i]? = some vs → SqS sd.b s.heap sd.l vs)
    (hlen : xs.length = ss.length) (hx : ∀ (i : Nat) (x : Value), xs[i]? = some x → ∃ vs, xss[i]? = some vs ∧ vs[k]? = some x)
    (hQ : ∀ h', IsZip h' z TI TO (rawInt s.heap.objs.size) → (∃ vs : List Value, IsTup h' TO vs.toArray ∧ vs.length = ss.length) → (∀ (i : Nat) (sd : Sd), ss[i]? = some sd → ItS sd.b h' sd.it sd.l (k + 1)) → IsTup h' s.heap.objs.size xs.toArray → h'.objs.size = s.heap.objs.size + 1 →
      (∀ c o, c ≠ z → c ≠ TO → (∀ sd ∈ ss, c ≠ sd.it) → s.heap.get? c = some o → h'.get? c = some o) → Q (some (.ref s.heap.objs.size)) { s with heap := h' }) : wpAny (model prog w) A (pyNext (.ref z)) Q E s := by
  have hT : s.TypeIs (.ref z) "zip" := ⟨_, hz, rfl⟩
  unfold pyNext
  exact wpAny_bind (wpAny_attempt (wpAny_callSpecial?_slot (name := Str.ofString "__next__") hT F.slot_zip_next
    (wpAny_call_entry F.slot_zip_next hT F.entry_zip_next
      (zip_next_item D h0 hn hz hTI hTO hv0 hit hls hlen hx fun h' a1 a2 a3 a4 a5 a6 => wpAny_pure (hQ h' a1 a2 a3 a4 a5 a6)) (F.args_zip_next_1 _))))
theorem pyNext_zip_end {ss : List Sd} {xss : List (Array Value)} {k m : Nat} {z TI TO : Addr} {v0 : List Value} {Q : Option Value → Shared → Prop} (hh : A.handled = none) (D : Aps ss z TI TO) (hn : ss.length ≤ 100)
    (hz : IsZip s.heap z TI TO .none) (hTI : IsTup s.heap TI (ss.map fun s => Value.ref s.it).toArray) (hTO : IsTup s.heap TO v0.toArray) (hv0 : v0.length = ss.length)
    (hit : ∀ (i : Nat) (sd : Sd), ss[i]? = some sd → ItS sd.b s.heap sd.it sd.l k) (hls : ∀ (i : Nat) (sd : Sd) (vs : Array Value), ss[i]? = some sd → xss[i]? = some vs → SqS sd.b s.heap sd.l vs)
    (hm : m < ss.length) (hxm : ∃ vs, xss[m]? = some vs ∧ vs[k]? = none) (hx : ∀ i, i < m → ∃ vs x, xss[i]? = some vs ∧ vs[k]? = some x)
    (hQ : ∀ h', (∀ c o, c ≠ z → c ≠ TO → (∀ sd ∈ ss, c ≠ sd.it) → s.heap.get? c = some o → h'.get? c = some o) → Q none { s with heap := h' }) : wpAny (model prog w) A (pyNext (.ref z)) Q E s := by
  have hT : s.TypeIs (.ref z) "zip" := ⟨_, hz, rfl⟩
  unfold pyNext
  refine wpAny_bind (wpAny_attempt (wpAny_callSpecial?_slot (name := Str.ofString "__next__") hT F.slot_zip_next
    (wpAny_call_entry F.slot_zip_next hT F.entry_zip_next (zip_next_end hh D hn hz hTI hTO hv0 hit hls hm hxm hx fun h' e hk he => ?_) (F.args_zip_next_1 _))))
  obtain ⟨o, ho, hc⟩ := he
  refine wpAny_bind (wpAny_isInstance (T := "StopIteration") (b := true) ⟨o, ho, hc⟩ isSubtype_stop ?_)
  exact wpAny_pure (hQ _ hk)
end
end LB
set_option Elab.async false
set_option linter.all false
set_option autoImplicit false
set_option maxRecDepth 100000
set_option maxHeartbeats 4000000
namespace LB
open PySem PySem.Spec PyProof.Rows L2
def SqB (K : PySem.W.Frag) (H : Hp) (b : Bool) (a : Addr) (xs : List V) : Prop := match b with | true => SqT K H a xs | false => SqL K H a xs
/-- what stands at each turn, the items in new tuples -/
def ItzN (K : PySem.W.Frag) (ss : List (Bool × Addr)) : It :=
  ⟨fun i H => ∀ p ∈ ss, ∃ xs x, SqB K H p.1 p.2 xs ∧ xs[i]? = some x,
    fun i H v H' => ∃ T ys, v = .ref T ∧ H T = none ∧ H' = upd H T (.tup ys) ∧ ys.length = ss.length ∧ ∀ (j : Nat) p xs, ss[j]? = some p → SqB K H p.1 p.2 xs → ys[j]? = xs[i]?,
    fun i H => (∀ p ∈ ss, ∃ xs, SqB K H p.1 p.2 xs) ∧ ∃ p ∈ ss, ∃ xs, SqB K H p.1 p.2 xs ∧ xs.length ≤ i⟩
theorem choose_list {α β : Type} {P : α → β → Prop} : ∀ {l : List α}, (∀ x ∈ l, ∃ y, P x y) → ∃ r : List β, r.length = l.length ∧ ∀ (i : Nat) x y, l[i]? = some x → r[i]? = some y → P x y
  | [], _ => ⟨[], rfl, fun i x y h => by cases h⟩
  | x :: l, h => by
    obtain ⟨y, hy⟩ := h x List.mem_cons_self
    obtain ⟨r, h1, h2⟩ := choose_list (l := l) fun z hz => h z (List.mem_cons_of_mem _ hz)
    refine ⟨y :: r, by simp [h1], fun i a b ha hb => ?_⟩
    cases i with
    | zero => cases ha; cases hb; exact hy
    | succ i => exact h2 i a b ha hb
section
variable {X : Cx} {pins : List (Addr × Obj)} {σ : L2.St} {H : Hp} {s : Shared}
theorem sqB_inj {b : Bool} {a : Addr} {xs ys : List V} (I : Inv X pins σ H s) (h : SqB X.K H b a xs) (k : SqB X.K H b a ys) : xs = ys := by
  cases b
  · exact I.list_inj h k
  · exact I.tuple_inj h k
theorem sqB_at {b : Bool} {a : Addr} {xs : List V} (I : Inv X pins σ H s) (h : SqB X.K H b a xs) : ∃ its : List Value, Vals xs its ∧ SqS b s.heap a its.toArray := by
  cases b
  · obtain ⟨its, rv, p, _⟩ := I.list h
    exact ⟨its, rv, p.isList⟩
  · obtain ⟨its, rv, p, _⟩ := I.tuple h
    exact ⟨its, rv, p⟩
end
theorem ap_lt {ss : List Sd} {j : Nat} {sd : Sd} {xss : List (Array Value)} (hl : xss.length = ss.length) (h : ss[j]? = some sd) : ∃ vs, xss[j]? = some vs := ⟨xss[j]'(by rw [hl]; exact lt_of_get h), List.getElem?_eq_getElem _⟩
def fpN (ss : List Sd) (z TI TO : Addr) : List Addr := z :: TI :: TO :: ss.map (·.it)
def kds (ss : List Sd) : List (Bool × Addr) := ss.map fun s => (s.b, s.l)
theorem vals_mk {us : List Value} {xs : List V} : us.length = xs.length → (∀ (i : Nat) u x, us[i]? = some u → xs[i]? = some x → RelV x u) → Vals xs us := by
  induction xs generalizing us with
  | nil =>
    intro h _
    cases us with
    | nil => exact .nil
    | cons _ _ => cases h
  | cons x xs ih =>
    intro h k
    cases us with
    | nil => cases h
    | cons u us => exact .cons (k 0 u x rfl rfl) (ih (by simpa using h) fun i u x h1 h2 => k (i + 1) u x h1 h2)
theorem turn_zipN {P : Program} {w : World} {K : PySem.W.Frag} {elts : List Expr} {kk : Nat} {tpos : Pos} {ss : List Sd} {z TI TO : Addr} (D : Aps ss z TI TO) (h0 : ss ≠ []) (hn : ss.length ≤ 100) :
    Turn P w K (.Tuple elts kk tpos) (ItzN K (kds ss)) (fpN ss z TI TO) z (fun i h => IsZip h z TI TO .none ∧ IsTup h TI (ss.map fun s => Value.ref s.it).toArray ∧ (∃ v0 : List Value, IsTup h TO v0.toArray ∧ v0.length = ss.length) ∧ ∀ (j : Nat) (sd : Sd), ss[j]? = some sd → ItS sd.b h sd.it sd.l i) where
  mem := List.mem_cons_self
  obj := fun i h st c hc => by
    obtain ⟨hz, hTI, ⟨v0, hTO, _⟩, hi⟩ := st
    rcases List.mem_cons.mp hc with rfl | hc
    · exact ⟨_, hz, fun v q => nomatch q⟩
    rcases List.mem_cons.mp hc with rfl | hc
    · exact ⟨_, hTI, fun v q => nomatch q⟩
    rcases List.mem_cons.mp hc with rfl | hc
    · exact ⟨_, hTO, fun v q => nomatch q⟩
    obtain ⟨sd, hs, rfl⟩ := List.mem_map.mp hc
    obtain ⟨j, hj⟩ := List.getElem?_of_mem hs
    exact (hi j sd hj).obj
  keep := fun i h h' st k => by
    obtain ⟨hz, hTI, ⟨v0, hTO, hv⟩, hi⟩ := st
    refine ⟨k z (by simp [fpN]) _ hz, k TI (by simp [fpN]) _ hTI, ⟨v0, k TO (by simp [fpN]) _ hTO, hv⟩, fun j sd e => (hi j sd e).at fun o q => k sd.it ?_ o q⟩
    have := List.mem_of_getElem? e
    unfold fpN
    exact List.mem_cons_of_mem _ (List.mem_cons_of_mem _ (List.mem_cons_of_mem _ (List.mem_map_of_mem this)))
  item := by
    intro X hP hw hK hc i pins s σ H E I hf st hg
    subst hP hw hK
    obtain ⟨hz, hTI, ⟨v0, hTO, hv0⟩, hi⟩ := st
    obtain ⟨R, hR, hRp⟩ := choose_list (l := ss) (β := Array Value × Value × V) (P := fun sd y => SqS sd.b s.heap sd.l y.1 ∧ y.1[i]? = some y.2.1 ∧ RelV y.2.2 y.2.1 ∧ ∀ xs, SqB X.K H sd.b sd.l xs → xs[i]? = some y.2.2) fun sd hs => by
      obtain ⟨xs, x, h1, h2⟩ := hg (sd.b, sd.l) (List.mem_map.mpr ⟨sd, hs, rfl⟩)
      obtain ⟨its, rv, p⟩ := sqB_at I h1
      obtain ⟨u, hu, ru⟩ := rv.get h2
      exact ⟨(its.toArray, u, x), p, by simpa using hu, ru, fun xs' h' => by rw [sqB_inj I h' h1]; exact h2⟩
    have hzl : z < s.heap.objs.size := Heap.lt_size hz
    have gt : ∀ (j : Nat) sd, ss[j]? = some sd → ∃ y, R[j]? = some y ∧ SqS sd.b s.heap sd.l y.1 ∧ y.1[i]? = some y.2.1 ∧ RelV y.2.2 y.2.1 ∧ ∀ xs, SqB X.K H sd.b sd.l xs → xs[i]? = some y.2.2 := fun j sd e => by
      have hlt : j < R.length := by rw [hR]; exact lt_of_get e
      exact ⟨R[j], List.getElem?_eq_getElem hlt, hRp j sd _ e (List.getElem?_eq_getElem hlt)⟩
    refine pyNext_zip_item (xss := R.map (·.1)) (xs := R.map (·.2.1)) D h0 hn hz hTI hTO hv0 hi (fun j sd vs e ev => ?_) (by rw [List.length_map]; exact hR) (fun j x e => ?_) fun h' z' TO' hi' hT hsz hk => ?_
    · obtain ⟨y, ey, h1, _⟩ := gt j sd e
      rw [List.getElem?_map, ey] at ev
      cases ev
      exact h1
    · rw [List.getElem?_map] at e
      cases ey : R[j]? with
      | none => rw [ey] at e; cases e
      | some y =>
        rw [ey] at e
        cases e
        have hlt : j < ss.length := by rw [← hR]; exact lt_of_get ey
        obtain ⟨y', ey', _, h2, _⟩ := gt j ss[j] (List.getElem?_eq_getElem hlt)
        rw [ey] at ey'
        cases ey'
        exact ⟨y.1, by rw [List.getElem?_map, ey] <;> rfl, h2⟩
    refine ⟨_, rfl, wpAny_letOwnedTupleGo_zip (s := { s with heap := h' }) z' fun h'' z'' sb => ?_⟩
    have hT2 : h''.get? s.heap.objs.size = some { cls := .type "tuple", data := .seq (R.map (·.2.1)).toArray } := (sb.2 _ (Nat.ne_of_gt hzl)).trans hT
    have rv : Vals (R.map (·.2.2)) (R.map (·.2.1)) := vals_mk (by simp) fun j u x h1 h2 => by
      rw [List.getElem?_map] at h1 h2
      cases ey : R[j]? with
      | none => rw [ey] at h1; cases h1
      | some y =>
        rw [ey] at h1 h2
        cases h1
        cases h2
        have hlt : j < ss.length := by rw [← hR]; exact lt_of_get ey
        obtain ⟨y', ey', _, _, h3, _⟩ := gt j ss[j] (List.getElem?_eq_getElem hlt)
        rw [ey] at ey'
        cases ey'
        exact h3
    have new : ObjOk X.prog X.w (upd H s.heap.objs.size (.tup (R.map (·.2.2)))) h'' s.heap.objs.size (.tup (R.map (·.2.2))) :=
      ⟨by rw [List.length_map, hR]; exact Nat.le_trans hn (by decide), R.map (·.2.1), rv, ⟨_, hT2, rfl, _, rfl⟩⟩
    have mem3 : ∀ c, c ∉ fpN ss z TI TO → c ≠ z ∧ c ≠ TO ∧ ∀ sd ∈ ss, c ≠ sd.it := fun c hc => ⟨fun e => hc (by simp [fpN, e]), fun e => hc (by simp [fpN, e]), fun sd hs e => hc (by
      subst e
      unfold fpN
      exact List.mem_cons_of_mem _ (List.mem_cons_of_mem _ (List.mem_cons_of_mem _ (List.mem_map_of_mem hs))))⟩
    have I1 : Inv X pins σ (upd H s.heap.objs.size (.tup (R.map (·.2.2)))) { s with heap := h'' } :=
      I.turnedNew (t' := s.toks) (ch := fpN ss z TI TO) (fun c o hb q => (sb.2 c (mem3 c hb).1).trans (hk c o (mem3 c hb).1 (mem3 c hb).2.1 (mem3 c hb).2.2 q)) hf (Nat.le_refl _) new
    refine ⟨.ref s.heap.objs.size, _, I1, rfl, ⟨_, R.map (·.2.2), rfl, I.hok.fresh (Nat.le_refl _), rfl, by simp [kds, hR], fun j p xs e hq => ?_⟩, ⟨z'', ?_, ?_, fun j sd e => ?_⟩, fun c hcm => ?_⟩
    · unfold kds at e
      rw [List.getElem?_map] at e
      cases es : ss[j]? with
      | none => rw [es] at e; cases e
      | some sd =>
        rw [es] at e
        cases e
        obtain ⟨y, ey, _, _, _, h4⟩ := gt j sd es
        rw [List.getElem?_map, ey, h4 xs hq] <;> rfl
    · exact (sb.2 _ D.TIz).trans (hk _ _ D.TIz D.IO (fun sd hs => (D.it sd hs).2.1.symm) hTI)
    · obtain ⟨vs, h1, h2⟩ := TO'
      exact ⟨vs, (sb.2 _ D.TOz).trans h1, h2⟩
    · exact (hi' j sd e).at fun o q => (sb.2 _ (D.it sd (List.mem_of_getElem? e)).1).trans q
    · have hlt : c < s.heap.objs.size := by
        rcases List.mem_cons.mp hcm with rfl | hcm
        · exact hzl
        rcases List.mem_cons.mp hcm with rfl | hcm
        · exact Heap.lt_size hTI
        rcases List.mem_cons.mp hcm with rfl | hcm
        · exact Heap.lt_size hTO
        obtain ⟨sd, hs, rfl⟩ := List.mem_map.mp hcm
        obtain ⟨j, hj⟩ := List.getElem?_of_mem hs
        obtain ⟨o, ho, _⟩ := (hi j sd hj).obj
        exact Heap.lt_size ho
      rw [upd_ne (Nat.ne_of_lt hlt)]
      exact (hf c hcm).1
  done := by
    intro X hP hw hK hc i pins s σ H E I hf st hg
    subst hP hw hK
    obtain ⟨hz, hTI, ⟨v0, hTO, hv0⟩, hi⟩ := st
    obtain ⟨hall, p0, hp0, xs0, hq0, hle0⟩ := hg
    obtain ⟨R, hR, hRp⟩ := choose_list (l := ss) (β := Array Value) (P := fun sd y => SqS sd.b s.heap sd.l y ∧ ∃ xs, SqB X.K H sd.b sd.l xs ∧ y.size = xs.length) fun sd hs => by
      obtain ⟨xs, h1⟩ := hall (sd.b, sd.l) (List.mem_map.mpr ⟨sd, hs, rfl⟩)
      obtain ⟨its, rv, p⟩ := sqB_at I h1
      exact ⟨its.toArray, p, xs, h1, by rw [List.size_toArray]; exact rv.length.symm⟩
    obtain ⟨sd0, hs0, e0⟩ := List.mem_map.mp hp0
    obtain ⟨m0, hm0⟩ := List.getElem?_of_mem hs0
    have gt : ∀ (j : Nat) sd, ss[j]? = some sd → ∃ y, R[j]? = some y ∧ SqS sd.b s.heap sd.l y ∧ ∃ xs, SqB X.K H sd.b sd.l xs ∧ y.size = xs.length := fun j sd e => by
      have hlt : j < R.length := by rw [hR]; exact lt_of_get e
      exact ⟨R[j], List.getElem?_eq_getElem hlt, hRp j sd _ e (List.getElem?_eq_getElem hlt)⟩
    have stop : ∃ m, m < ss.length ∧ (∃ y, R[m]? = some y ∧ y.size ≤ i) ∧ ∀ j, j < m → ∃ y, R[j]? = some y ∧ i < y.size := by
      have ex : ∃ m, m < ss.length ∧ ∃ y, R[m]? = some y ∧ y.size ≤ i := by
        obtain ⟨y, ey, _, xs, h1, h2⟩ := gt m0 sd0 hm0
        refine ⟨m0, lt_of_get hm0, y, ey, ?_⟩
        subst e0
        rw [sqB_inj I h1 hq0] at h2
        omega
      obtain ⟨m, hm⟩ := ex
      induction m using Nat.strongRecOn with
      | _ m ih =>
        by_cases q : ∃ j, j < m ∧ ∃ y, R[j]? = some y ∧ y.size ≤ i
        · obtain ⟨j, hj, y, ey, hy⟩ := q
          exact ih j hj ⟨by omega, y, ey, hy⟩
        · refine ⟨m, hm.1, hm.2, fun j hj => ?_⟩
          have hlt : j < R.length := by rw [hR]; omega
          refine ⟨R[j], List.getElem?_eq_getElem hlt, Nat.lt_of_not_le fun z => q ⟨j, hj, _, List.getElem?_eq_getElem hlt, z⟩⟩
    obtain ⟨m, hm, ⟨y, ey, hy⟩, hlt⟩ := stop
    refine pyNext_zip_end (xss := R) (m := m) (I.ok.hd hc) D hn hz hTI hTO hv0 hi (fun j sd vs e ev => ?_) hm ⟨y, ey, by rw [Array.getElem?_eq_none (by omega)]⟩ (fun j hj => ?_) fun h' hk => ⟨rfl, I.turnedL (t' := s.toks) (ch := fpN ss z TI TO) (fun c o hb q => hk c o (fun e => hb (by simp [fpN, e])) (fun e => hb (by simp [fpN, e])) (fun sd hs e => hb (by
      subst e
      unfold fpN
      exact List.mem_cons_of_mem _ (List.mem_cons_of_mem _ (List.mem_cons_of_mem _ (List.mem_map_of_mem hs))))) q) hf⟩
    · obtain ⟨y', ey', h1, _⟩ := gt j sd e
      rw [ev] at ey'
      cases ey'
      exact h1
    · obtain ⟨y', ey', h1⟩ := hlt j hj
      exact ⟨y', y'[i], ey', Array.getElem?_eq_getElem h1⟩
  self := fun A i s Q E st h => wpAny_pyIter_zip st.1 h
end LB
set_option Elab.async false
set_option linter.all false
set_option autoImplicit false
set_option maxRecDepth 100000
set_option maxHeartbeats 4000000
namespace LB
open PySem PySem.Spec PyProof.Rows L2
abbrev itO (b : Bool) (l : Addr) : Obj := { cls := .type (itN b), data := .fields #[.ref l, .int 0 0] }
theorem iter_ok {prog : Program} {w : World} {A : Around} {E : Value → Shared → Prop} {s : Shared} {b : Bool} {l : Addr} {xs : Array Value} {Q : Value → Shared → Prop} (hl : SqS b s.heap l xs) (hQ : Q (.ref s.heap.objs.size) { s with heap := s.heap.push (itO b l) }) : wpAny (model prog w) A (pyIter (.ref l)) Q E s := by
  cases b
  · exact wpAny_pyIter_list hl hQ
  · exact wpAny_pyIter_tuple hl hQ
theorem SqS.push {b : Bool} {h : Heap} {l : Addr} {xs : Array Value} (x : SqS b h l xs) (o : Obj) : SqS b (h.push o) l xs := by
  cases b
  · exact Heap.IsList.push x o
  · exact Heap.IsTuple.push x o
abbrev zp1 (h : Heap) (b1 : Bool) (l1 : Addr) : Heap := h.push (itO b1 l1)
abbrev zp2 (h : Heap) (b1 b2 : Bool) (l1 l2 : Addr) : Heap := (zp1 h b1 l1).push (itO b2 l2)
abbrev zp3 (h : Heap) (b1 b2 : Bool) (l1 l2 : Addr) : Heap := (zp2 h b1 b2 l1 l2).push { cls := .type "tuple", data := .seq #[.ref h.objs.size, .ref (zp1 h b1 l1).objs.size] }
abbrev zp4 (h : Heap) (b1 b2 : Bool) (l1 l2 : Addr) : Heap := (zp3 h b1 b2 l1 l2).push { cls := .type "tuple", data := .seq #[.none, .none] }
abbrev zp5 (h : Heap) (b1 b2 : Bool) (l1 l2 : Addr) : Heap := (zp4 h b1 b2 l1 l2).push { cls := .type "zip", data := .fields #[.none, .bool false, .bool false, .ref (zp2 h b1 b2 l1 l2).objs.size, .ref (zp3 h b1 b2 l1 l2).objs.size] }
theorem zip2_new (b1 b2 : Bool) (l1 l2 : Addr) (xs ys : Array Value) :
    Meets (Builtin.«zip.__new__» ⟨[.type "zip", .ref l1, .ref l2], []⟩) (fun _ R s => SqS b1 s.heap l1 xs ∧ SqS b2 s.heap l2 ys ∧
      R (.ok (.ret (.ref (zp4 s.heap b1 b2 l1 l2).objs.size))) { s with heap := zp5 s.heap b1 b2 l1 l2 }) :=
  .of_wp fun prog w A R s h => by
    obtain ⟨hp, g, d, tk, os⟩ := s; obtain ⟨hl1, hl2, h⟩ := h
    have hsub := sub_zip
    have hL1 : SqS b1 (Shared.heap ⟨hp, g, d, tk, os⟩) l1 xs := hl1
    have hL2 : SqS b2 (Shared.heap ⟨hp.push (itO b1 l1), g, d, tk, os⟩) l2 ys := SqS.push hl2 _
    wp_walk using iter_ok hL1, iter_ok hL2
    exact ⟨_, rfl, h⟩
abbrev zq3 (h : Heap) (b1 b2 b3 : Bool) (l1 l2 l3 : Addr) : Heap := (zp2 h b1 b2 l1 l2).push (itO b3 l3)
abbrev zq4 (h : Heap) (b1 b2 b3 : Bool) (l1 l2 l3 : Addr) : Heap := (zq3 h b1 b2 b3 l1 l2 l3).push { cls := .type "tuple", data := .seq #[.ref h.objs.size, .ref (zp1 h b1 l1).objs.size, .ref (zp2 h b1 b2 l1 l2).objs.size] }
abbrev zq5 (h : Heap) (b1 b2 b3 : Bool) (l1 l2 l3 : Addr) : Heap := (zq4 h b1 b2 b3 l1 l2 l3).push { cls := .type "tuple", data := .seq #[.none, .none, .none] }
abbrev zq6 (h : Heap) (b1 b2 b3 : Bool) (l1 l2 l3 : Addr) : Heap := (zq5 h b1 b2 b3 l1 l2 l3).push { cls := .type "zip", data := .fields #[.none, .bool false, .bool false, .ref (zq3 h b1 b2 b3 l1 l2 l3).objs.size, .ref (zq4 h b1 b2 b3 l1 l2 l3).objs.size] }
theorem zip3_new (b1 b2 b3 : Bool) (l1 l2 l3 : Addr) (xs ys zs : Array Value) :
    Meets (Builtin.«zip.__new__» ⟨[.type "zip", .ref l1, .ref l2, .ref l3], []⟩) (fun _ R s => SqS b1 s.heap l1 xs ∧ SqS b2 s.heap l2 ys ∧ SqS b3 s.heap l3 zs ∧
      R (.ok (.ret (.ref (zq5 s.heap b1 b2 b3 l1 l2 l3).objs.size))) { s with heap := zq6 s.heap b1 b2 b3 l1 l2 l3 }) :=
  .of_wp fun prog w A R s h => by
    obtain ⟨hp, g, d, tk, os⟩ := s; obtain ⟨hl1, hl2, hl3, h⟩ := h
    have hsub := sub_zip
    have hL1 : SqS b1 (Shared.heap ⟨hp, g, d, tk, os⟩) l1 xs := hl1
    have hL2 : SqS b2 (Shared.heap ⟨hp.push (itO b1 l1), g, d, tk, os⟩) l2 ys := SqS.push hl2 _
    have hL3 : SqS b3 (Shared.heap ⟨(hp.push (itO b1 l1)).push (itO b2 l2), g, d, tk, os⟩) l3 zs := SqS.push (SqS.push hl3 _) _
    wp_walk using iter_ok hL1, iter_ok hL2, iter_ok hL3
    exact ⟨_, rfl, h⟩
end LB
set_option Elab.async false
set_option linter.all false
set_option autoImplicit false
set_option maxRecDepth 100000
set_option maxHeartbeats 4000000
namespace LB
open PySem PySem.Spec PyProof.Rows L2
theorem itO_it {b : Bool} {h : Heap} {a l : Addr} (e : h.get? a = some (itO b l)) : ItS b h a l 0 := by
  cases b
  · exact ⟨_, e, rfl, rfl⟩
  · exact ⟨_, e, rfl, rfl⟩
section
variable {prog : Program} {w : World} {A : Around} {E : Value → Shared → Prop} {s : Shared}
theorem call_zip2 {b1 b2 : Bool} {l1 l2 : Addr} {xs ys : Array Value} {Q : Value → Shared → Prop} (hl1 : SqS b1 s.heap l1 xs) (hl2 : SqS b2 s.heap l2 ys)
    (h : ∀ h', IsZip h' (s.heap.objs.size + 4) (s.heap.objs.size + 2) (s.heap.objs.size + 3) .none → IsTup h' (s.heap.objs.size + 2) #[.ref s.heap.objs.size, .ref (s.heap.objs.size + 1)] →
      IsTup h' (s.heap.objs.size + 3) #[.none, .none] → ItS b1 h' s.heap.objs.size l1 0 → ItS b2 h' (s.heap.objs.size + 1) l2 0 →
      (∀ c o, s.heap.get? c = some o → h'.get? c = some o) → Q (.ref (s.heap.objs.size + 4)) { s with heap := h' }) :
    wpAny (model prog w) A (call (.type "zip") [.ref l1, .ref l2]) Q E s := by
  refine callType_new F.called_zip (by decide) (F.typeCall_zip_2 _ _) (F.newCall_zip_2 _ _) (fun obj => F.args_object_init_3 obj _ _) F.entry_zip_new (zip2_new b1 b2 l1 l2 xs ys) ⟨hl1, hl2, ?_⟩
  have z1 : (zp1 s.heap b1 l1).objs.size = s.heap.objs.size + 1 := Heap.size_push ..
  have z2 : (zp2 s.heap b1 b2 l1 l2).objs.size = s.heap.objs.size + 2 := by rw [Heap.size_push, z1]
  have z3 : (zp3 s.heap b1 b2 l1 l2).objs.size = s.heap.objs.size + 3 := by rw [Heap.size_push, z2]
  have z4 : (zp4 s.heap b1 b2 l1 l2).objs.size = s.heap.objs.size + 4 := by rw [Heap.size_push, z3]
  have g5 : (zp5 s.heap b1 b2 l1 l2).get? (zp4 s.heap b1 b2 l1 l2).objs.size = some _ := Heap.get?_push_size _ rfl
  have g4 : (zp5 s.heap b1 b2 l1 l2).get? (zp3 s.heap b1 b2 l1 l2).objs.size = some _ := Heap.get?_push_of_some _ (Heap.get?_push_size _ rfl)
  have g3 : (zp5 s.heap b1 b2 l1 l2).get? (zp2 s.heap b1 b2 l1 l2).objs.size = some _ := Heap.get?_push_of_some _ (Heap.get?_push_of_some _ (Heap.get?_push_size _ rfl))
  have g2 : (zp5 s.heap b1 b2 l1 l2).get? (zp1 s.heap b1 l1).objs.size = some _ := Heap.get?_push_of_some _ (Heap.get?_push_of_some _ (Heap.get?_push_of_some _ (Heap.get?_push_size _ rfl)))
  have g1 : (zp5 s.heap b1 b2 l1 l2).get? s.heap.objs.size = some _ := Heap.get?_push_of_some _ (Heap.get?_push_of_some _ (Heap.get?_push_of_some _ (Heap.get?_push_of_some _ (Heap.get?_push_size _ rfl))))
  show _ ∧ _
  rw [z2, z3, z4] at g5
  rw [z1, z2] at g3
  rw [z3] at g4
  rw [z1] at g2
  rw [z4]
  exact ⟨⟨_, g5, rfl⟩, h _ g5 g3 g4 (itO_it g1) (itO_it g2) fun c o x =>
    Heap.get?_push_of_some _ (Heap.get?_push_of_some _ (Heap.get?_push_of_some _ (Heap.get?_push_of_some _ (Heap.get?_push_of_some _ x))))⟩
theorem call_zip3 {b1 b2 b3 : Bool} {l1 l2 l3 : Addr} {xs ys zs : Array Value} {Q : Value → Shared → Prop} (hl1 : SqS b1 s.heap l1 xs) (hl2 : SqS b2 s.heap l2 ys) (hl3 : SqS b3 s.heap l3 zs)
    (h : ∀ h', IsZip h' (s.heap.objs.size + 5) (s.heap.objs.size + 3) (s.heap.objs.size + 4) .none → IsTup h' (s.heap.objs.size + 3) #[.ref s.heap.objs.size, .ref (s.heap.objs.size + 1), .ref (s.heap.objs.size + 2)] →
      IsTup h' (s.heap.objs.size + 4) #[.none, .none, .none] → ItS b1 h' s.heap.objs.size l1 0 → ItS b2 h' (s.heap.objs.size + 1) l2 0 → ItS b3 h' (s.heap.objs.size + 2) l3 0 →
      (∀ c o, s.heap.get? c = some o → h'.get? c = some o) → Q (.ref (s.heap.objs.size + 5)) { s with heap := h' }) :
    wpAny (model prog w) A (call (.type "zip") [.ref l1, .ref l2, .ref l3]) Q E s := by
  refine callType_new F.called_zip (by decide) (F.typeCall_zip_3 _ _ _) (F.newCall_zip_3 _ _ _) (fun obj => F.args_object_init_4 obj _ _ _) F.entry_zip_new (zip3_new b1 b2 b3 l1 l2 l3 xs ys zs) ⟨hl1, hl2, hl3, ?_⟩
  have z1 : (zp1 s.heap b1 l1).objs.size = s.heap.objs.size + 1 := Heap.size_push ..
  have z2 : (zp2 s.heap b1 b2 l1 l2).objs.size = s.heap.objs.size + 2 := by rw [Heap.size_push, z1]
  have z3 : (zq3 s.heap b1 b2 b3 l1 l2 l3).objs.size = s.heap.objs.size + 3 := by rw [Heap.size_push, z2]
  have z4 : (zq4 s.heap b1 b2 b3 l1 l2 l3).objs.size = s.heap.objs.size + 4 := by rw [Heap.size_push, z3]
  have z5 : (zq5 s.heap b1 b2 b3 l1 l2 l3).objs.size = s.heap.objs.size + 5 := by rw [Heap.size_push, z4]
  have g6 : (zq6 s.heap b1 b2 b3 l1 l2 l3).get? (zq5 s.heap b1 b2 b3 l1 l2 l3).objs.size = some _ := Heap.get?_push_size _ rfl
  have g5 : (zq6 s.heap b1 b2 b3 l1 l2 l3).get? (zq4 s.heap b1 b2 b3 l1 l2 l3).objs.size = some _ := Heap.get?_push_of_some _ (Heap.get?_push_size _ rfl)
  have g4 : (zq6 s.heap b1 b2 b3 l1 l2 l3).get? (zq3 s.heap b1 b2 b3 l1 l2 l3).objs.size = some _ := Heap.get?_push_of_some _ (Heap.get?_push_of_some _ (Heap.get?_push_size _ rfl))
  have g3 : (zq6 s.heap b1 b2 b3 l1 l2 l3).get? (zp2 s.heap b1 b2 l1 l2).objs.size = some _ := Heap.get?_push_of_some _ (Heap.get?_push_of_some _ (Heap.get?_push_of_some _ (Heap.get?_push_size _ rfl)))
  have g2 : (zq6 s.heap b1 b2 b3 l1 l2 l3).get? (zp1 s.heap b1 l1).objs.size = some _ := Heap.get?_push_of_some _ (Heap.get?_push_of_some _ (Heap.get?_push_of_some _ (Heap.get?_push_of_some _ (Heap.get?_push_size _ rfl))))
  have g1 : (zq6 s.heap b1 b2 b3 l1 l2 l3).get? s.heap.objs.size = some _ := Heap.get?_push_of_some _ (Heap.get?_push_of_some _ (Heap.get?_push_of_some _ (Heap.get?_push_of_some _ (Heap.get?_push_of_some _ (Heap.get?_push_size _ rfl)))))
  show _ ∧ _
  rw [z3, z4, z5] at g6
  rw [z4] at g5
  rw [z1, z2, z3] at g4
  rw [z2] at g3
  rw [z1] at g2
  rw [z5]
  exact ⟨⟨_, g6, rfl⟩, h _ g6 g4 g5 (itO_it g1) (itO_it g2) (itO_it g3) fun c o x =>
    Heap.get?_push_of_some _ (Heap.get?_push_of_some _ (Heap.get?_push_of_some _ (Heap.get?_push_of_some _ (Heap.get?_push_of_some _ (Heap.get?_push_of_some _ x)))))⟩
end
theorem addr_ne {a b : Nat} (h : a < b ∨ b < a) : ¬ ((a : Addr) = (b : Addr)) := fun e => by
  have e' : a = b := e
  omega
theorem aps2 {n : Nat} {b1 b2 : Bool} {l1 l2 : Nat} (h1 : l1 < n) (h2 : l2 < n) : Aps [⟨b1, n, l1⟩, ⟨b2, n + 1, l2⟩] (n + 4) (n + 2) (n + 3) := by
  refine ⟨addr_ne (by omega), addr_ne (by omega), addr_ne (by omega), fun s hs => ?_, fun s hs => ?_, fun i j s t hi hj e => ?_⟩
  · simp only [List.mem_cons, List.not_mem_nil, or_false] at hs
    rcases hs with rfl | rfl <;> exact ⟨addr_ne (by dsimp only; omega), addr_ne (by dsimp only; omega), addr_ne (by dsimp only; omega)⟩
  · simp only [List.mem_cons, List.not_mem_nil, or_false] at hs
    refine ⟨?_, ?_, fun t ht => ?_⟩
    · rcases hs with rfl | rfl <;> exact addr_ne (by dsimp only; omega)
    · rcases hs with rfl | rfl <;> exact addr_ne (by dsimp only; omega)
    · simp only [List.mem_cons, List.not_mem_nil, or_false] at ht
      rcases hs with rfl | rfl <;> rcases ht with rfl | rfl <;> exact addr_ne (by dsimp only; omega)
  · have hi' : i = 0 ∨ i = 1 := by have := lt_of_get hi; simp at this; omega
    have hj' : j = 0 ∨ j = 1 := by have := lt_of_get hj; simp at this; omega
    rcases hi' with rfl | rfl <;> rcases hj' with rfl | rfl <;> first | exact absurd rfl e | (cases hi; cases hj; exact addr_ne (by dsimp only; omega))
theorem aps3 {n : Nat} {b1 b2 b3 : Bool} {l1 l2 l3 : Nat} (h1 : l1 < n) (h2 : l2 < n) (h3 : l3 < n) : Aps [⟨b1, n, l1⟩, ⟨b2, n + 1, l2⟩, ⟨b3, n + 2, l3⟩] (n + 5) (n + 3) (n + 4) := by
  refine ⟨addr_ne (by omega), addr_ne (by omega), addr_ne (by omega), fun s hs => ?_, fun s hs => ?_, fun i j s t hi hj e => ?_⟩
  · simp only [List.mem_cons, List.not_mem_nil, or_false] at hs
    rcases hs with rfl | rfl | rfl <;> exact ⟨addr_ne (by dsimp only; omega), addr_ne (by dsimp only; omega), addr_ne (by dsimp only; omega)⟩
  · simp only [List.mem_cons, List.not_mem_nil, or_false] at hs
    refine ⟨?_, ?_, fun t ht => ?_⟩
    · rcases hs with rfl | rfl | rfl <;> exact addr_ne (by dsimp only; omega)
    · rcases hs with rfl | rfl | rfl <;> exact addr_ne (by dsimp only; omega)
    · simp only [List.mem_cons, List.not_mem_nil, or_false] at ht
      rcases hs with rfl | rfl | rfl <;> rcases ht with rfl | rfl | rfl <;> exact addr_ne (by dsimp only; omega)
  · have hi' : i = 0 ∨ i = 1 ∨ i = 2 := by have := lt_of_get hi; simp at this; omega
    have hj' : j = 0 ∨ j = 1 ∨ j = 2 := by have := lt_of_get hj; simp at this; omega
    rcases hi' with rfl | rfl | rfl <;> rcases hj' with rfl | rfl | rfl <;> first | exact absurd rfl e | (cases hi; cases hj; exact addr_ne (by dsimp only; omega))
theorem fresh_fp {X : Cx} {pins : List (Addr × Obj)} {σ : L2.St} {H : Hp} {s : Shared} {ss : List Sd} {z TI TO : Addr} (I : Inv X pins σ H s) (h : ∀ c ∈ fpN ss z TI TO, s.heap.objs.size ≤ c) : ∀ c ∈ fpN ss z TI TO, FpOk X pins H c := fun c hc => I.fpOk (h c hc) (I.hok.fresh (h c hc))
theorem pi_zip2 {X : Cx} {e e2 : Expr} {ta : TA} {p pos tpos : Pos} {elts : List Expr} {kk : Nat} (hg : Gl X "zip") (hm : X.mg "zip" = none) (ha : PA X [e, e2] ta)
    (hs : starEach [e, e2] X.env = (false, eval e X.env) :: starEach [e2] X.env := by rfl) (hpl : (backTo pos (starEach [e2] X.env)).any (·.1) = false := by rfl) :
    PI X (.Tuple elts kk tpos) (.Call (.Name "zip" p) [e, e2] [] pos) (fun σ H R => ta σ H fun vs H1 => ∃ b1 l1 b2 l2 xs ys, vs = [.ref l1, .ref l2] ∧ SqB X.K H1 b1 l1 xs ∧ SqB X.K H1 b2 l2 ys ∧ R (ItzN X.K [(b1, l1), (b2, l2)]) H1) := by
  refine ⟨fun pins s σ H R I h => ?_⟩
  refine Call_ (ld_blt I hg hm PyProof.Rows.boot_zip (PyProof.Rows.callWith_type1 (thn (ha.run pos pins s σ H _ I h) fun us s1 ⟨vs, H1, I1, r1, q1⟩ => ?_) hs hpl))
  obtain ⟨b1, l1, b2, l2, xs, ys, ex, h1, h2, q⟩ := q1
  subst ex
  obtain ⟨u1, u2, rfl, ru1, ru2⟩ := Vals.two r1
  cases (show u1 = Value.ref l1 from ru1)
  cases (show u2 = Value.ref l2 from ru2)
  obtain ⟨its1, rv1, p1⟩ := sqB_at I1 h1
  obtain ⟨its2, rv2, p2⟩ := sqB_at I1 h2
  refine call_zip2 p1 p2 fun h' hz hTI hTO i1 i2 hk => wpAny_pyIter_zip hz ?_
  have I2 : Inv X pins σ H1 { s1 with heap := h' } := I1.kept (t' := s1.toks) hk
  have hge : ∀ c ∈ fpN [⟨b1, s1.heap.objs.size, l1⟩, ⟨b2, s1.heap.objs.size + 1, l2⟩] (s1.heap.objs.size + 4) (s1.heap.objs.size + 2) (s1.heap.objs.size + 3), s1.heap.objs.size ≤ c := fun c hc => by
    simp only [fpN, List.map_cons, List.map_nil, List.mem_cons, List.not_mem_nil, or_false] at hc
    rcases hc with rfl | rfl | rfl | rfl | rfl <;> first | exact Nat.le_refl _ | exact Nat.le_add_right _ _
  refine ⟨_, _, _, _, H1, rfl, I2, turn_zipN (aps2 p1.lt p2.lt) (List.cons_ne_nil _ _) (by show 2 ≤ 100; decide), ⟨hz, hTI, ⟨[.none, .none], hTO, rfl⟩, fun j sd e => ?_⟩, fresh_fp I1 hge, q⟩
  match j, e with
  | 0, e => cases e; exact i1
  | 1, e => cases e; exact i2
  | j + 2, e => simp at e
theorem pi_zip3 {X : Cx} {e e2 e3 : Expr} {ta : TA} {p pos tpos : Pos} {elts : List Expr} {kk : Nat} (hg : Gl X "zip") (hm : X.mg "zip" = none) (ha : PA X [e, e2, e3] ta)
    (hs : starEach [e, e2, e3] X.env = (false, eval e X.env) :: starEach [e2, e3] X.env := by rfl) (hpl : (backTo pos (starEach [e2, e3] X.env)).any (·.1) = false := by rfl) :
    PI X (.Tuple elts kk tpos) (.Call (.Name "zip" p) [e, e2, e3] [] pos) (fun σ H R => ta σ H fun vs H1 => ∃ b1 l1 b2 l2 b3 l3 xs ys zs, vs = [.ref l1, .ref l2, .ref l3] ∧ SqB X.K H1 b1 l1 xs ∧ SqB X.K H1 b2 l2 ys ∧ SqB X.K H1 b3 l3 zs ∧ R (ItzN X.K [(b1, l1), (b2, l2), (b3, l3)]) H1) := by
  refine ⟨fun pins s σ H R I h => ?_⟩
  refine Call_ (ld_blt I hg hm PyProof.Rows.boot_zip (PyProof.Rows.callWith_type1 (thn (ha.run pos pins s σ H _ I h) fun us s1 ⟨vs, H1, I1, r1, q1⟩ => ?_) hs hpl))
  obtain ⟨b1, l1, b2, l2, b3, l3, xs, ys, zs, ex, h1, h2, h3, q⟩ := q1
  subst ex
  cases r1 with
  | @cons _ u1 _ _ ru1 rr =>
    obtain ⟨u2, u3, rfl, ru2, ru3⟩ := Vals.two rr
    cases (show u1 = Value.ref l1 from ru1)
    cases (show u2 = Value.ref l2 from ru2)
    cases (show u3 = Value.ref l3 from ru3)
    obtain ⟨its1, rv1, p1⟩ := sqB_at I1 h1
    obtain ⟨its2, rv2, p2⟩ := sqB_at I1 h2
    obtain ⟨its3, rv3, p3⟩ := sqB_at I1 h3
    refine call_zip3 p1 p2 p3 fun h' hz hTI hTO i1 i2 i3 hk => wpAny_pyIter_zip hz ?_
    have I2 : Inv X pins σ H1 { s1 with heap := h' } := I1.kept (t' := s1.toks) hk
    have hge : ∀ c ∈ fpN [⟨b1, s1.heap.objs.size, l1⟩, ⟨b2, s1.heap.objs.size + 1, l2⟩, ⟨b3, s1.heap.objs.size + 2, l3⟩] (s1.heap.objs.size + 5) (s1.heap.objs.size + 3) (s1.heap.objs.size + 4), s1.heap.objs.size ≤ c := fun c hc => by
      simp only [fpN, List.map_cons, List.map_nil, List.mem_cons, List.not_mem_nil, or_false] at hc
      rcases hc with rfl | rfl | rfl | rfl | rfl | rfl <;> first | exact Nat.le_refl _ | exact Nat.le_add_right _ _
    refine ⟨_, _, _, _, H1, rfl, I2, turn_zipN (aps3 p1.lt p2.lt p3.lt) (List.cons_ne_nil _ _) (by show 3 ≤ 100; decide), ⟨hz, hTI, ⟨[.none, .none, .none], hTO, rfl⟩, fun j sd e => ?_⟩, fresh_fp I1 hge, q⟩
    match j, e with
    | 0, e => cases e; exact i1
    | 1, e => cases e; exact i2
    | 2, e => cases e; exact i3
    | j + 3, e => simp at e
end LB
set_option Elab.async false
set_option linter.all false
set_option autoImplicit false
set_option maxRecDepth 100000
set_option maxHeartbeats 4000000
namespace PD
open PySem PySem.Spec PyProof.Rows L2
/-! ### zip over data: two or three, each a list or a tuple -/
section
variable {X : Cx} {W : Wo} {Wk : WX}
/-- the items, and what must stand while the loop goes on -/
def zsd (d : D) (μ : Mu) : Option (List D × Cks) := match d with
  | .tup xs => some (xs, [])
  | .lst xs => some (xs, [])
  | .ptr a => (match μ a with | some (.lst xs) => some (xs, [(a, xs)]) | _ => none)
  | _ => none
theorem zsd_ok {hid : Hid} {H1 : Hp} {μ1 : Mu} {v : V} {d : D} {xs : List D} {o : Cks} (sr : SR W hid H1 μ1) (r : Rep W hid H1 μ1 v d) (e : zsd d μ1 = some (xs, o)) : ∃ b a, v = .ref a ∧ (∃ vs, LB.SqB W.K H1 b a vs) ∧
    ∀ hid' H μ, Ok hid H1 μ1 hid' H μ → SR W hid' H μ → CK o μ → ∃ vs, LB.SqB W.K H b a vs ∧ Reps W hid' H μ vs xs := by
  unfold zsd at e
  split at e
  · cases e
    obtain ⟨a, vs, rfl, ha, _⟩ := tup_ok r
    refine ⟨true, a, rfl, ⟨vs, ha⟩, fun hid' H μ k _ _ => ?_⟩
    obtain ⟨v1, h1, k1⟩ := tup_stands r k
    exact ⟨v1, h1, k1⟩
  · cases e
    obtain ⟨a, vs, rfl, ha, _⟩ := lstW_ok (ds := xs) rfl sr r
    refine ⟨false, a, rfl, ⟨vs, SqL.of ha⟩, fun hid' H μ k sr' _ => ?_⟩
    obtain ⟨v1, h1, k1⟩ := lstW_stands r rfl k sr' fun b eb => by cases eb
    exact ⟨v1, h1, k1⟩
  · rename_i a
    split at e
    · rename_i xs' hm
      cases e
      have el : lstW (.ptr a) μ1 = some xs := by
        unfold lstW
        dsimp only
        rw [hm]
      obtain ⟨a', vs, rfl, ha, _⟩ := lstW_ok el sr r
      refine ⟨false, a', rfl, ⟨vs, SqL.of ha⟩, fun hid' H μ k sr' ck => ?_⟩
      obtain ⟨v1, h1, k1⟩ := lstW_stands r el k sr' fun b eb => by
        cases eb
        exact ck (a, xs) List.mem_cons_self
      exact ⟨v1, h1, k1⟩
    · cases e
  · cases e
def zip3L : List D → List D → List D → List D
  | x :: xs, y :: ys, z :: zs => .tup [x, y, z] :: zip3L xs ys zs
  | _, _, _ => []
theorem zip3L_get : ∀ {xs ys zs : List D} {i : Nat} {d : D}, (zip3L xs ys zs)[i]? = some d → ∃ x y z, xs[i]? = some x ∧ ys[i]? = some y ∧ zs[i]? = some z ∧ d = .tup [x, y, z]
  | x :: xs, y :: ys, z :: zs, i, d, h => by
    cases i with
    | zero => cases h; exact ⟨x, y, z, rfl, rfl, rfl, rfl⟩
    | succ i => exact zip3L_get (xs := xs) (ys := ys) (zs := zs) (i := i) h
  | [], _, _, i, d, h => by simp [zip3L] at h
  | _ :: _, [], _, i, d, h => by simp [zip3L] at h
  | _ :: _, _ :: _, [], i, d, h => by simp [zip3L] at h
theorem zip3L_len : ∀ (xs ys zs : List D), (zip3L xs ys zs).length = min xs.length (min ys.length zs.length)
  | x :: xs, y :: ys, z :: zs => by
    show (zip3L xs ys zs).length + 1 = _
    rw [zip3L_len xs ys zs]
    simp only [List.length_cons]
    omega
  | [], _, _ => by simp [zip3L]
  | _ :: _, [], _ => by simp [zip3L]
  | _ :: _, _ :: _, [] => by simp [zip3L]
def iZip2 (ta : TDA) : TDI := fun Xd ρ μ R => ta Xd ρ μ fun ds μ1 => match ds with
  | [d, e] => (match zsd d μ1, zsd e μ1 with | some (xs, o1), some (ys, o2) => R (o1 ++ o2) (zipL xs ys) μ1 | _, _ => False)
  | _ => False
def iZip3 (ta : TDA) : TDI := fun Xd ρ μ R => ta Xd ρ μ fun ds μ1 => match ds with
  | [d, e, f] => (match zsd d μ1, zsd e μ1, zsd f μ1 with | some (xs, o1), some (ys, o2), some (zs, o3) => R (o1 ++ (o2 ++ o3)) (zip3L xs ys zs) μ1 | _, _, _ => False)
  | _ => False
theorem ck_l {o p : Cks} {μ : Mu} (h : CK (o ++ p) μ) : CK o μ := fun q hq => h q (List.mem_append_left _ hq)
theorem ck_r {o p : Cks} {μ : Mu} (h : CK (o ++ p) μ) : CK p μ := fun q hq => h q (List.mem_append_right _ hq)
theorem tupn_ok {hid : Hid} {H : Hp} {μ : Mu} {T : Addr} {vs : List V} {ds : List D} (sr : SR W hid H μ) (hT : H T = none) (r : Reps W hid H μ vs ds) : St H μ (upd H T (.tup vs)) μ ∧ SR W hid (upd H T (.tup vs)) μ ∧ Rep W hid (upd H T (.tup vs)) μ (.ref T) (.tup ds) :=
  ⟨St.new hT, sr.new hT, .tup (.inl upd_same) (sr.fresh hT) (sr.nhid hT) (r.mono (St.new hT).ok)⟩
theorem bi_zip2 {tg e e2 : Expr} {ta : TDA} {p pos : Pos} (C : TW X.K X.w W) (h : PI X tg (.Call (.Name "zip" p) [e, e2] [] pos) (fun σ H R => (TDa W Wk ta) σ H fun vs H1 => ∃ b1 l1 b2 l2 xs ys, vs = [.ref l1, .ref l2] ∧ LB.SqB X.K H1 b1 l1 xs ∧ LB.SqB X.K H1 b2 l2 ys ∧ R (LB.ItzN X.K [(b1, l1), (b2, l2)]) H1)) :
    BI X W Wk tg (.Call (.Name "zip" p) [e, e2] [] pos) (iZip2 ta) := PI.weak h fun σ H R ⟨hid, ρ, μ, Xd, Rd, rel, sr, q, pr, px⟩ => by
  refine ⟨hid, ρ, μ, Xd, _, rel, sr, q, fun vs ds H1 μ1 s1 sr1 r1 q1 => ?_, px⟩
  dsimp only at q1
  split at q1
  · rename_i d e
    cases r1 with
    | cons ra rr =>
      cases rr with
      | cons rb rr =>
        cases rr
        split at q1
        · rename_i xs o1 ys o2 e1 e2
          obtain ⟨b1, l1, rfl, ⟨v1, a1⟩, st1⟩ := zsd_ok sr1 ra e1
          obtain ⟨b2, l2, rfl, ⟨v2, a2⟩, st2⟩ := zsd_ok sr1 rb e2
          refine ⟨b1, l1, b2, l2, v1, v2, rfl, by rw [C.hK]; exact a1, by rw [C.hK]; exact a2, pr _ H1 μ1 _ _ s1 sr1 ?_ q1⟩
          refine ⟨fun hid' i H μ hi k sr ck => ?_, fun hid' H μ k sr ck => ?_, fun hid' i f H μ x H' hi k sr ck y => ?_⟩
          · obtain ⟨u1, g1, k1⟩ := st1 hid' H μ k sr (ck_l ck)
            obtain ⟨u2, g2, k2⟩ := st2 hid' H μ k sr (ck_r ck)
            rw [← C.hK] at g1 g2
            rw [zipL_len, ← k1.length, ← k2.length] at hi
            intro q hq
            simp only [List.mem_cons, List.not_mem_nil, or_false] at hq
            rcases hq with rfl | rfl
            · exact ⟨u1, _, g1, List.getElem?_eq_getElem (by omega)⟩
            · exact ⟨u2, _, g2, List.getElem?_eq_getElem (by omega)⟩
          · obtain ⟨u1, g1, k1⟩ := st1 hid' H μ k sr (ck_l ck)
            obtain ⟨u2, g2, k2⟩ := st2 hid' H μ k sr (ck_r ck)
            rw [← C.hK] at g1 g2
            rw [zipL_len, ← k1.length, ← k2.length]
            refine ⟨fun q hq => ?_, ?_⟩
            · simp only [List.mem_cons, List.not_mem_nil, or_false] at hq
              rcases hq with rfl | rfl
              · exact ⟨u1, g1⟩
              · exact ⟨u2, g2⟩
            · by_cases hl : u1.length ≤ u2.length
              · exact ⟨_, List.mem_cons_self, u1, g1, by omega⟩
              · exact ⟨_, List.mem_cons_of_mem _ List.mem_cons_self, u2, g2, by omega⟩
          · obtain ⟨u1, g1, k1⟩ := st1 hid' H μ k sr (ck_l ck)
            obtain ⟨u2, g2, k2⟩ := st2 hid' H μ k sr (ck_r ck)
            rw [← C.hK] at g1 g2
            obtain ⟨z1, z2, hz1, hz2, rfl⟩ := zipL_get hi
            obtain ⟨w1, hw1, rw1⟩ := k1.get hz1
            obtain ⟨w2, hw2, rw2⟩ := k2.get hz2
            obtain ⟨T, ws, rfl, hT, rfl, hl, hy⟩ := y
            have y1 := hy 0 _ u1 rfl g1
            have y2 := hy 1 _ u2 rfl g2
            rw [hw1] at y1
            rw [hw2] at y2
            have ew : ws = [w1, w2] := by
              match ws, hl, y1, y2 with
              | [a, b], _, y1, y2 => cases y1; cases y2; rfl
            subst ew
            exact tupn_ok sr hT (.cons rw1 (.cons rw2 .nil))
        · exact q1.elim
  · exact q1.elim
theorem bi_zip3 {tg e e2 e3 : Expr} {ta : TDA} {p pos : Pos} (C : TW X.K X.w W) (h : PI X tg (.Call (.Name "zip" p) [e, e2, e3] [] pos) (fun σ H R => (TDa W Wk ta) σ H fun vs H1 => ∃ b1 l1 b2 l2 b3 l3 xs ys zs, vs = [.ref l1, .ref l2, .ref l3] ∧ LB.SqB X.K H1 b1 l1 xs ∧ LB.SqB X.K H1 b2 l2 ys ∧ LB.SqB X.K H1 b3 l3 zs ∧ R (LB.ItzN X.K [(b1, l1), (b2, l2), (b3, l3)]) H1)) :
    BI X W Wk tg (.Call (.Name "zip" p) [e, e2, e3] [] pos) (iZip3 ta) := PI.weak h fun σ H R ⟨hid, ρ, μ, Xd, Rd, rel, sr, q, pr, px⟩ => by
  refine ⟨hid, ρ, μ, Xd, _, rel, sr, q, fun vs ds H1 μ1 s1 sr1 r1 q1 => ?_, px⟩
  dsimp only at q1
  split at q1
  · rename_i d e f
    cases r1 with
    | cons ra rr =>
      cases rr with
      | cons rb rr =>
        cases rr with
        | cons rc rr =>
          cases rr
          split at q1
          · rename_i xs o1 ys o2 zs o3 e1 e2 e3
            obtain ⟨b1, l1, rfl, ⟨v1, a1⟩, st1⟩ := zsd_ok sr1 ra e1
            obtain ⟨b2, l2, rfl, ⟨v2, a2⟩, st2⟩ := zsd_ok sr1 rb e2
            obtain ⟨b3, l3, rfl, ⟨v3, a3⟩, st3⟩ := zsd_ok sr1 rc e3
            refine ⟨b1, l1, b2, l2, b3, l3, v1, v2, v3, rfl, by rw [C.hK]; exact a1, by rw [C.hK]; exact a2, by rw [C.hK]; exact a3, pr _ H1 μ1 _ _ s1 sr1 ?_ q1⟩
            refine ⟨fun hid' i H μ hi k sr ck => ?_, fun hid' H μ k sr ck => ?_, fun hid' i f H μ x H' hi k sr ck y => ?_⟩
            · obtain ⟨u1, g1, k1⟩ := st1 hid' H μ k sr (ck_l ck)
              obtain ⟨u2, g2, k2⟩ := st2 hid' H μ k sr (ck_l (ck_r ck))
              obtain ⟨u3, g3, k3⟩ := st3 hid' H μ k sr (ck_r (ck_r ck))
              rw [← C.hK] at g1 g2 g3
              rw [zip3L_len, ← k1.length, ← k2.length, ← k3.length] at hi
              intro q hq
              simp only [List.mem_cons, List.not_mem_nil, or_false] at hq
              rcases hq with rfl | rfl | rfl
              · exact ⟨u1, _, g1, List.getElem?_eq_getElem (by omega)⟩
              · exact ⟨u2, _, g2, List.getElem?_eq_getElem (by omega)⟩
              · exact ⟨u3, _, g3, List.getElem?_eq_getElem (by omega)⟩
            · obtain ⟨u1, g1, k1⟩ := st1 hid' H μ k sr (ck_l ck)
              obtain ⟨u2, g2, k2⟩ := st2 hid' H μ k sr (ck_l (ck_r ck))
              obtain ⟨u3, g3, k3⟩ := st3 hid' H μ k sr (ck_r (ck_r ck))
              rw [← C.hK] at g1 g2 g3
              rw [zip3L_len, ← k1.length, ← k2.length, ← k3.length]
              refine ⟨fun q hq => ?_, ?_⟩
              · simp only [List.mem_cons, List.not_mem_nil, or_false] at hq
                rcases hq with rfl | rfl | rfl
                · exact ⟨u1, g1⟩
                · exact ⟨u2, g2⟩
                · exact ⟨u3, g3⟩
              · by_cases hl : u1.length ≤ u2.length ∧ u1.length ≤ u3.length
                · exact ⟨_, List.mem_cons_self, u1, g1, by omega⟩
                · by_cases hl2 : u2.length ≤ u3.length
                  · exact ⟨_, List.mem_cons_of_mem _ List.mem_cons_self, u2, g2, by omega⟩
                  · exact ⟨_, List.mem_cons_of_mem _ (List.mem_cons_of_mem _ List.mem_cons_self), u3, g3, by omega⟩
            · obtain ⟨u1, g1, k1⟩ := st1 hid' H μ k sr (ck_l ck)
              obtain ⟨u2, g2, k2⟩ := st2 hid' H μ k sr (ck_l (ck_r ck))
              obtain ⟨u3, g3, k3⟩ := st3 hid' H μ k sr (ck_r (ck_r ck))
              rw [← C.hK] at g1 g2 g3
              obtain ⟨z1, z2, z3, hz1, hz2, hz3, rfl⟩ := zip3L_get hi
              obtain ⟨w1, hw1, rw1⟩ := k1.get hz1
              obtain ⟨w2, hw2, rw2⟩ := k2.get hz2
              obtain ⟨w3, hw3, rw3⟩ := k3.get hz3
              obtain ⟨T, ws, rfl, hT, rfl, hl, hy⟩ := y
              have y1 := hy 0 _ u1 rfl g1
              have y2 := hy 1 _ u2 rfl g2
              have y3 := hy 2 _ u3 rfl g3
              rw [hw1] at y1
              rw [hw2] at y2
              rw [hw3] at y3
              have ew : ws = [w1, w2, w3] := by
                match ws, hl, y1, y2, y3 with
                | [a, b, c], _, y1, y2, y3 => cases y1; cases y2; cases y3; rfl
              subst ew
              exact tupn_ok sr hT (.cons rw1 (.cons rw2 (.cons rw3 .nil)))
          · exact q1.elim
  · exact q1.elim
end
end PD
set_option Elab.async false
set_option linter.all false
set_option autoImplicit false
set_option maxRecDepth 100000
set_option maxHeartbeats 4000000
namespace PD
open PySem PySem.Spec PyProof.Rows L2
section
variable {X : Cx} {W : Wo} {Wk : WX}
/-! ### what is never reached -/
def sBad : TDS := fun _ _ _ _ => False
def eBad : TDE := fun _ _ _ _ => False
theorem bs_bad {st : Stmt} : BS X W Wk st sBad := ⟨fun pins s σ H E I q => by obtain ⟨_, _, _, _, _, _, _, z, _⟩ := q; exact z.elim⟩
theorem bss_bad {sts : List Stmt} : BSs X W Wk sts sBad := ⟨fun pins s σ H E I q => by obtain ⟨_, _, _, _, _, _, _, z, _⟩ := q; exact z.elim⟩
theorem be_bad {e : Expr} : BE X W Wk e eBad := ⟨fun pins s σ H Q I q => by obtain ⟨_, _, _, _, _, _, _, z, _⟩ := q; exact z.elim⟩
/-! ### isinstance -/
abbrev Tab := D → D → Option Bool
def cval (W : Wo) : D → Value
  | .ty n => .type n
  | .cls C => .ref (W.cl C)
  | _ => .none
/-- what the text tells of its types -/
structure KIs (K : PySem.W.Frag) (W : Wo) (tab : Tab) : Prop where
  ok : ∀ t c b, tab t c = some b → PySem.W.kitOne K (cval W t) (cval W c) = some b
def tyI (d : D) (μ : Mu) : Option D := match d with
  | .non => some (.ty "NoneType")
  | .bl _ => some (.ty "bool")
  | .int _ => some (.ty "int")
  | .str _ => some (.ty "str")
  | .tup _ => some (.ty "tuple")
  | .lst _ => some (.ty "list")
  | .dct _ => some (.ty "dict")
  | .obj C _ => some (.cls C)
  | .ptr a => (match μ a with
    | some (.lst _) => some (.ty "list")
    | some (.dic _) => some (.ty "dict")
    | some (.ins C _) => some (.cls C)
    | _ => none)
  | _ => none
theorem tyI_ok {hid : Hid} {H : Hp} {μ : Mu} {v : V} {d t : D} (C : TW X.K X.w W) (sr : SR W hid H μ) (r : Rep W hid H μ v d) (e : tyI d μ = some t) : TyX X.K H v (cval W t) := by
  cases r with
  | non => cases e; exact .base .non
  | bl b => cases e; exact .base (.bl b)
  | int i => cases e; exact .base (.int i)
  | str s => cases e; exact .base (.str s)
  | ty n => cases e
  | cls n => cases e
  | scr _ _ _ => cases e
  | scrK _ => cases e
  | exc _ _ _ _ => cases e
  | exc0 => cases e
  | xob _ _ _ _ _ _ _ => cases e
  | xob0 _ _ _ => cases e
  | lst h _ _ _ => cases e; exact .base (.lst h)
  | tup h _ _ _ =>
    cases e
    rcases h with h | ⟨o, h⟩
    · exact .base (.tup h)
    · exact .fTuple h
  | tupK h _ =>
    cases e
    obtain ⟨o, its, n, h1, h2, _⟩ := h
    rw [← C.hK] at h1
    exact .kTuple h1 h2
  | @dct a kvs h =>
    cases e
    obtain ⟨⟨es, n, kd⟩, _⟩ := C.kd a kvs h
    exact .kDict kd.at_ rfl
  | @obj a dx C0 fs gs h _ _ c _ _ =>
    cases e
    have z := (C.own C0 c)
    exact .base (.ins h z.1 z.2.ha z.2.hn z.2.htk z.2.hm)
  | ptr a =>
    unfold tyI at e
    dsimp only at e
    split at e
    · rename_i ds hm
      cases e
      obtain ⟨vs, h, _⟩ := (sr.at_ a _ hm).2
      exact .base (.lst h)
    · rename_i ds hm
      cases e
      obtain ⟨vs, h, _⟩ := (sr.at_ a _ hm).2
      exact .base (.dK h)
    · rename_i C0 fs hm
      cases e
      obtain ⟨dx, gs, h, _, c, _⟩ := (sr.at_ a _ hm).2
      have z := (C.own C0 c)
      exact .base (.ins h z.1 z.2.ha z.2.hn z.2.htk z.2.hm)
    · cases e
def isC : D → Bool
  | .ty _ => true
  | .cls _ => true
  | _ => false
def cIsi (tab : Tab) : CD := fun ds μ Q => match ds with
  | [d, c] => isC c = true ∧ (match tyI d μ with
    | some t => (match tab t c with | some b => Q (.bl b) μ | none => False)
    | none => False)
  | _ => False
theorem clsV_of {hid : Hid} {H : Hp} {μ : Mu} {v : V} {c : D} (r : Rep W hid H μ v c) (h : isC c = true) : ClsV v (cval W c) := by
  cases r <;> first | exact .ty _ | exact .own _ | cases h
theorem cd_isi {tab : Tab} (C : TW X.K X.w W) (T : KIs X.K W tab) : CallR X (.builtin "isinstance") (rCD W (cIsi tab)) := CallR.weak call_isi fun xs H Q ⟨hid, μ, ds, Qd, sr, r, h, pq⟩ => by
  unfold cIsi at h
  split at h
  · obtain ⟨hc, h⟩ := h
    split at h
    · rename_i t et
      split at h
      · rename_i b eb
        cases r with
        | cons rx r =>
          cases r with
          | cons ry r =>
            cases r
            exact ⟨_, _, _, _, b, rfl, clsV_of ry hc, tyI_ok C sr rx et, T.ok _ _ _ eb, pq _ _ H μ .refl sr (.bl b) h⟩
      · exact h.elim
    · exact h.elim
  · exact h.elim
/-! ### own ==, !=, len -/
theorem MethX.ok0 {P : Program} {w : World} {K : PySem.W.Frag} {mg : Str → Option Value} {base : Heap} {C : Addr} {m : Str} {k : Nat} {ps : List Str} {sp : Sp} (D : MethX P w K mg base k C m ps [] sp) : LB.MethOk P w K mg base k C m ps (fun vs H Q _ => sp vs H Q E0) := by
  obtain ⟨f, fd, ds, F, h1, h2, h3, h4, h5⟩ := D.ex
  cases h5
  refine ⟨f, fd, ⟨fun vs H Q E q => F.len _ _ _ _ q, fun A outer s H args us vs Q E hr he hb hv hs => ?_⟩, h1, h2, h3, h4⟩
  refine codeAny_mono (F.run A outer s H args us vs Q E0 hr he hb hv hs) fun r s' hq => ?_
  cases r with
  | error e =>
    obtain ⟨_, _, _, _, _, _, _, _, _, _, _, _, z⟩ := hq
    exact z.elim
  | ok fl => cases fl <;> exact hq
def xN : XD → Mu → Prop := fun _ _ => False
def oEqC (C : Str) (F : FD) (g : Bool → Bool) : OD := fun d e μ Q => match insOf d μ, insOf e μ with
  | some (C1, _), some (C2, _) => C1 = C ∧ C2 = C ∧ F [d, e] μ (fun r μ' => match r with | .bl b => Q (.bl (g b)) μ' | _ => False) xN
  | _, _ => False
section
variable {C0 : Str} {k : Nat} {ps : List Str} {F : FD}
theorem eqC_td {g : Bool → Bool} {x y : V} {H : Hp} {Q : VK} (h : rD W (oEqC C0 F g) x y H Q) : ∃ a b dx dy fs gs, x = .ref a ∧ y = .ref b ∧ H a = some (.ins (W.cl C0) dx fs) ∧ H b = some (.ins (W.cl C0) dy gs) ∧ spD W 2 F [.ref a, .ref b] H (fun v H' => ∃ r, v = .bl r ∧ Q (.bl (g r)) H') E0 := by
  obtain ⟨hid, μ, d, e, Qd, sr, rx, ry, h, pq⟩ := h
  unfold oEqC at h
  split at h
  · rename_i C1 g1 C2 g2 e1 e2
    obtain ⟨rfl, rfl, h⟩ := h
    obtain ⟨a, dx, fs, rfl, ha, _⟩ := insOf_ok e1 sr rx
    obtain ⟨b, dy, gs, rfl, hb, _⟩ := insOf_ok e2 sr ry
    refine ⟨a, b, dx, dy, fs, gs, rfl, rfl, ha, hb, hid, [d, e], μ, _, _, rfl, .cons rx (.cons ry .nil), sr, h, fun v z H' μ' s' sr' r' q' => ?_, fun y cls dd H' μ' s' sr' xr q' => q'.elim⟩
    dsimp only at q'
    split at q'
    · cases r'
      exact ⟨_, rfl, pq _ _ H' μ' s' sr' (.bl _) q'⟩
    · exact q'.elim
  · exact h.elim
theorem od_eqC (D : MethX X.prog X.w X.K X.mg X.base k (W.cl C0) "__eq__" ps [] (spD W 2 F)) (hr : Room k X.A) : OpR X (compareOp .Eq) (rD W (oEqC C0 F id)) := OpR.weak (LB.op_eqC D.ok0 hr) fun _ _ _ _ h => eqC_td h
theorem od_neC (T : LB.NeCls X.K (W.cl C0)) (D : MethX X.prog X.w X.K X.mg X.base k (W.cl C0) "__eq__" ps [] (spD W 2 F)) (hr : Room (k + 1) X.A) : OpR X (compareOp .NotEq) (rD W (oEqC C0 F not)) := OpR.weak (LB.op_neC T D.ok0 hr) fun _ _ _ _ h => eqC_td h
def cLenC (C : Str) (F : FD) : CD := fun ds μ Q => match ds with
  | [d] => (match insOf d μ with
    | some (C1, _) => C1 = C ∧ F [d] μ (fun r μ' => match r with | .int n => 0 ≤ n ∧ n < 2 ^ 63 ∧ Q (.int n) μ' | _ => False) xN
    | none => False)
  | _ => False
theorem cd_lenC (D : MethX X.prog X.w X.K X.mg X.base k (W.cl C0) "__len__" ps [] (spD W 1 F)) (hr : Room (k + 1) X.A) : CallR X (.builtin "len") (rCD W (cLenC C0 F)) := CallR.weak (LB.call_lenC D.ok0 hr) fun xs H Q ⟨hid, μ, ds, Qd, sr, r, h, pq⟩ => by
  unfold cLenC at h
  split at h
  · split at h
    · rename_i C1 g1 e1
      obtain ⟨rfl, h⟩ := h
      cases r with
      | cons rx r =>
        cases r
        obtain ⟨a, dx, fs, rfl, ha, _⟩ := insOf_ok e1 sr rx
        refine ⟨a, dx, fs, rfl, ha, hid, [_], μ, _, _, rfl, .cons rx .nil, sr, h, fun v z H' μ' s' sr' r' q' => ?_, fun y cls dd H' μ' s' sr' xr q' => q'.elim⟩
        dsimp only at q'
        split at q'
        · cases r'
          exact ⟨_, rfl, q'.1, q'.2.1, pq _ _ H' μ' s' sr' (.int _) q'.2.2⟩
        · exact q'.elim
    · exact h.elim
  · exact h.elim
end
/-! ### classmethods -/
structure CMethX (P : Program) (w : World) (K : PySem.W.Frag) (mg : Str → Option Value) (base : Heap) (k : Nat) (C : Addr) (m : Str) (ps : List Str) (sp : Sp) : Prop where
  ex : ∃ (f p : Addr) (mc : Value) (fd : FuncData), FnOk P w K mg base (L2.CX P w) k f fd ps sp ∧ ClX.CRead K C mc ∧ ClX.CMet K C mc m p f ∧ Binds K fd ps []
structure TopCMeth (K : PySem.W.Frag) (C : Addr) (m qual : Str) (st : Stmt) (ps : List Str) : Prop where
  ex : ∃ (f p : Addr) (mc : Value) (fd : FuncData), Fun K m qual st f fd ∧ ClX.CRead K C mc ∧ ClX.CMet K C mc m p f ∧ Binds K fd ps []
theorem TopCMeth_okD {P : Program} {w : World} {K : PySem.W.Frag} {mg : Str → Option Value} {base : Heap} {C : Addr} {m qual : Str} {st : Stmt} {N ps : List Str} {k : Nat} {ts : TDS} (F : TopCMeth K C m qual st ps) (S : FnScope N ps (defScope st))
    (hbody : ∀ (f : Addr) (cdv : Value) (A : Around) (outer : List PySem.Env) (s : Shared) (H : Hp) (E : XK), Room k (A.deeper (envOfC qual (defScope st) s.heap.objs.size f cdv)) →
      BSs (cxOf (L2.CX P w) P w K mg base N qual (defScope st) f cdv A outer s H E) W (fun cls d _ H => E cls d H) (defBody st) ts) : CMethX P w K mg base (k + 1) C m ps (spD W ps.length (fnD N.length ts)) := by
  obtain ⟨f, p, mc, fd, F, h1, h2, b⟩ := F.ex
  refine ⟨f, p, mc, fd, F.okX S (fun vs H Q E h => ?_) fun cdv A outer s H vs Q E hr h => ⟨_, hbody f cdv A outer s H E hr, body_ok h⟩, h1, h2, b⟩
  obtain ⟨hid, ds, μ, Qd, Xd, hn, r, _⟩ := h
  rw [r.length]
  exact hn
section
variable {C0 : Str} {k n : Nat} {m : Str} {ps : List Str} {F : FD} {o e : Expr} {es : List Expr} {td : TDE} {ta : TDA} {apos pos p : Pos} {pl : Sem Bool} {C : Addr} {sp : Sp} {t : TA} {tn : TE}
def tCMethX (C : Addr) (sp : Sp) (E : L2.St → XK) (ta : TE) (t : TA) : TE := fun σ H Q => ta σ H fun x H1 => x = .ref C ∧ t σ H1 fun vs H2 => sp (.ref C :: vs) H2 Q (E σ)
theorem run_fnC {E : L2.St → XK} {f : Addr} {fd : FuncData} {pins : List (Addr × Obj)} {σ : L2.St} {H : Hp} {s : Shared} {Q : VK} {us : List Value} {vs : List V} (F : FnOk X.prog X.w X.K X.mg X.base (L2.CX X.prog X.w) k f fd ps sp) (hr : Room k X.A) (hb : Binds X.K fd ps []) (hx : PassesAt (L2.CX X.prog X.w) X σ (E σ))
    (I : Inv X pins σ H s) (r : Vals vs us) (h : sp vs H Q (E σ)) : codeAny (model X.prog X.w) X.A (.call (.ref f) ⟨us, []⟩) (fun r s' => match r with | .ok (.ret v) => EP X pins σ Q v s' | .ok _ => False | .error e => X.xe e s') s := by
  have hl : (us ++ []).length = ps.length := by rw [List.append_nil, ← r.length]; exact F.len _ _ _ _ h
  refine codeAny_mono (F.run X.A X.stack s H ⟨us, []⟩ us vs Q (E σ) hr I.env0 (by have := hb s us I.kIn hl; simpa using this) r h) fun r s' hq => ?_
  cases r with
  | error e => exact hx pins H s e s' I hq
  | ok fl =>
    cases fl with
    | ret u => exact I.after hq
    | next => exact False.elim hq
    | brk => exact False.elim hq
    | cont => exact False.elim hq
theorem pe_cmX {E : L2.St → XK} (D : CMethX X.prog X.w X.K X.mg X.base k C m ps sp) (hx : ∀ σ, PassesAt (L2.CX X.prog X.w) X σ (E σ)) (hr : Room k X.A) (he : PE X o tn) (ha : PA X (e :: es) t)
    (hst : starEach (e :: es) X.env = (false, eval e X.env) :: starEach es X.env := by rfl) (hpl : (backTo pos (starEach es X.env)).any (·.1) = false := by rfl)
    (ht : eval (.Call (.Attribute o m apos) (e :: es) [] pos) X.env = (eval o X.env >>= fun ov => standAt apos.atName >>= fun _ => holding [ov] (getMethod ov m pl) >>= fun fa => callWith pos fa.1 fa.2 (backTo pos (starEach (e :: es) X.env)) (backToKw pos (keywordEach [] X.env))) := by rfl) :
    PE X (.Call (.Attribute o m apos) (e :: es) [] pos) (tCMethX C sp E tn t) := by
  obtain ⟨f, p, mc, fd, F, r, c, hb⟩ := D.ex
  refine ⟨fun pins s σ H Q I h => ?_⟩
  refine PySem.W.methodCall_KW (pl := pl) (thn (he.run pins s σ H _ I h) fun u s1 ⟨x, H1, I1, rx, ex, q⟩ => ?_) ht
  subst ex
  obtain rfl : u = Value.ref C := rx
  refine ClX.getmethcm_ok I1 r c fun s2 I2 => ?_
  refine ClX.callwith_cm I2 (ClX.base_none I1 (Nat.le_refl _)) c.fi (thn (ha.run pos _ s2 σ H1 _ I2 q) fun us s3 ⟨vs, H2, I3, rv, q2⟩ => ⟨⟨ClX.pin_at I3, I3.kIn⟩, ?_⟩) hst hpl
  have z : wpAny (model X.prog X.w) X.A (call (.ref s1.heap.objs.size) us) (EP X ((s1.heap.objs.size, PySem.W.methodObj (.ref f) (.ref C)) :: pins) σ Q) X.xe s3 :=
    wpAny_call (PySem.W.method_call (ClX.pin_at I3) (run_fnC (E := E) (us := .ref C :: us) (vs := .ref C :: vs) F hr hb (hx σ) I3 (.cons rfl rv) q2))
  exact thn z fun _ _ y => ClX.unpinE y
def eCM (C : Str) (n : Nat) (F : FD) (td : TDE) (ta : TDA) : TDE := fun Xd ρ μ Q => td Xd ρ μ fun d μ1 => match d with
  | .cls C' => C' = C ∧ ta Xd ρ μ1 fun ds μ2 => (d :: ds).length = n ∧ F (d :: ds) μ2 Q fun x μ3 => Xd x ρ μ3
  | _ => False
theorem cm_td {σ : L2.St} {H : Hp} {Q : VK} (h : TD W Wk (eCM C0 n F td ta) σ H Q) : tCMethX (W.cl C0) (spD W n F) (WE Wk) (TD W Wk td) (TDa W Wk ta) σ H Q := by
  obtain ⟨hid, ρ, μ, Xd, Qd, rel, sr, q, pq, px⟩ := h
  refine ⟨hid, ρ, μ, Xd, _, rel, sr, q, fun v d H1 μ1 s1 sr1 r1 q1 => ?_, px⟩
  dsimp only at q1
  split at q1
  · obtain ⟨rfl, q1⟩ := q1
    cases r1
    refine ⟨rfl, hid, ρ, μ1, Xd, _, rel_mono s1.ok rel, sr1, q1, fun vs ds H2 μ2 s2 sr2 r2 q2 => ?_, px.st s1⟩
    exact ⟨hid, _, μ2, Qd, _, q2.1, .cons (.cls _) r2, sr2, q2.2, pq.st (s1.trans s2), fun y cls dd H' μ' s' sr' xr q' => px y cls dd H' μ' ((s1.trans s2).trans s') sr' xr q'⟩
  · exact q1.elim
theorem be_cmX (D : CMethX X.prog X.w X.K X.mg X.base k (W.cl C0) m ps (spD W n F)) (tk : Takes X Wk) (hr : Room k X.A) (he : BE X W Wk o td) (ha : BA X W Wk (e :: es) ta)
    (hst : starEach (e :: es) X.env = (false, eval e X.env) :: starEach es X.env := by rfl) (hpl : (backTo pos (starEach es X.env)).any (·.1) = false := by rfl)
    (ht : eval (.Call (.Attribute o m apos) (e :: es) [] pos) X.env = (eval o X.env >>= fun ov => standAt apos.atName >>= fun _ => holding [ov] (getMethod ov m pl) >>= fun fa => callWith pos fa.1 fa.2 (backTo pos (starEach (e :: es) X.env)) (backToKw pos (keywordEach [] X.env))) := by rfl) :
    BE X W Wk (.Call (.Attribute o m apos) (e :: es) [] pos) (eCM C0 n F td ta) := PE.weak (pe_cmX (E := WE Wk) D (fun σ => passAt tk σ) hr he ha hst hpl ht) fun _ _ _ h => cm_td h
theorem be_cmE (D : CMethX X.prog X.w X.K X.mg X.base k (W.cl C0) m ps (spD W n F)) (hr : Room k X.A) (he : BE X W WF o td) (ha : BA X W WF (e :: es) ta)
    (hst : starEach (e :: es) X.env = (false, eval e X.env) :: starEach es X.env := by rfl) (hpl : (backTo pos (starEach es X.env)).any (·.1) = false := by rfl)
    (ht : eval (.Call (.Attribute o m apos) (e :: es) [] pos) X.env = (eval o X.env >>= fun ov => standAt apos.atName >>= fun _ => holding [ov] (getMethod ov m pl) >>= fun fa => callWith pos fa.1 fa.2 (backTo pos (starEach (e :: es) X.env)) (backToKw pos (keywordEach [] X.env))) := by rfl) :
    BE X W WF (.Call (.Attribute o m apos) (e :: es) [] pos) (eCM C0 n F td ta) := PE.weak (pe_cmX (E := WE WF) D takes_none hr he ha hst hpl ht) fun _ _ _ h => cm_td h
/-! ### cls(..), cls a name of the def -/
def tMakeL (C : Addr) (sp : Sp) (dvs : List V) (E : L2.St → XK) (tn : TE) (t : TA) : TE := fun σ H Q => tn σ H fun v H0 => v = .ref C ∧ tMakeX C sp dvs E t σ H0 Q
theorem pe_mkL {E : L2.St → XK} {x x0 : Str} {dvs : List V} (c : LB.OwnCls X.K X.mg x0 C) (D : MethX X.prog X.w X.K X.mg X.base k C "__init__" ps dvs sp) (hx : ∀ σ, PassesAt (L2.CX X.prog X.w) X σ (E σ)) (hr : Room (k + 1) X.A) (hn : PE X (.Name x p) tn) (ha : PA X (e :: es) t)
    (he : starEach (e :: es) X.env = (false, eval e X.env) :: starEach es X.env := by rfl) (hpl : (backTo pos (starEach es X.env)).any (·.1) = false := by rfl) : PE X (.Call (.Name x p) (e :: es) [] pos) (tMakeL C sp dvs E tn t) := by
  obtain ⟨f, fd, ds, F, hm, hi, hk, hb, hd⟩ := D.ex
  refine ⟨fun pins s σ H Q I h => wpAny_Call_Name_kw (thn (hn.run pins s σ H _ I h) fun u s0 ⟨v, H0, I0, rv, ev, q0⟩ => ?_)⟩
  subst ev
  cases (show u = Value.ref C from rv)
  refine PySem.W.callWith_K (h₀ := X.base) I.ok.mod.kin c.kp (thn (ha.run pos pins s0 σ H0 _ I0 q0) fun us s1 ⟨vs, H1, I1, r, q⟩ => ⟨I1.kIn, ?_⟩) he hpl
  exact run_makeX ⟨c.makes, hm, hi, c.kp⟩ F hr hb hd (hx σ) I1 r q
def eMkL (mu : Bool) (C : Str) (n : Nat) (F : FD) (dds : List D) (td : TDE) (ta : TDA) : TDE := fun Xd ρ μ Q => td Xd ρ μ fun d μ1 => match d with
  | .cls C' => C' = C ∧ eMk mu C n F dds ta Xd ρ μ1 Q
  | _ => False
theorem mkL_td {mu : Bool} {dvs : List V} {dds : List D} (co : W.cok C0) (hv : ∀ hid H μ, Reps W hid H μ dvs dds) {σ : L2.St} {H : Hp} {Q : VK} (h : TD W Wk (eMkL mu C0 n F dds td ta) σ H Q) : tMakeL (W.cl C0) (spD W n F) dvs (WE Wk) (TD W Wk td) (TDa W Wk ta) σ H Q := by
  obtain ⟨hid, ρ, μ, Xd, Qd, rel, sr, q, pq, px⟩ := h
  refine ⟨hid, ρ, μ, Xd, _, rel, sr, q, fun v d H1 μ1 s1 sr1 r1 q1 => ?_, px⟩
  dsimp only at q1
  split at q1
  · obtain ⟨rfl, q1⟩ := q1
    cases r1
    exact ⟨rfl, mk_td co hv ⟨hid, ρ, μ1, Xd, Qd, rel_mono s1.ok rel, sr1, q1, pq.st s1, px.st s1⟩⟩
  · exact q1.elim
theorem be_mkL {mu : Bool} {x : Str} {dvs : List V} {dds : List D} (co : W.cok C0) (c : LB.OwnCls X.K X.mg C0 (W.cl C0)) (D : MethX X.prog X.w X.K X.mg X.base k (W.cl C0) "__init__" ps dvs (spD W n F)) (hv : ∀ hid H μ, Reps W hid H μ dvs dds) (tk : Takes X Wk) (hr : Room (k + 1) X.A) (hn : BE X W Wk (.Name x p) td) (ha : BA X W Wk (e :: es) ta)
    (he : starEach (e :: es) X.env = (false, eval e X.env) :: starEach es X.env := by rfl) (hpl : (backTo pos (starEach es X.env)).any (·.1) = false := by rfl) : BE X W Wk (.Call (.Name x p) (e :: es) [] pos) (eMkL mu C0 n F dds td ta) := PE.weak (pe_mkL (E := WE Wk) c D (fun σ => passAt tk σ) hr hn ha he hpl) fun _ _ _ h => mkL_td co hv h
end
end
end PD
namespace PD
open PySem PySem.Spec PyProof.Rows L2
def btys : List String := ["NoneType", "bool", "int", "str", "tuple", "list", "dict"]
/-- pairs: what is known of own classes; types: own classes that are told apart from built-in types -/
def tabOf (pairs : List (Str × Str × Bool)) (types : List (Str × String)) (cl : List Str) : Tab := fun t c => match t, c with
  | .ty a, .ty b => if a ∈ btys ∧ b ∈ btys then some (a == b || (a == "bool" && b == "int")) else none
  | .ty a, .cls c => if a ∈ btys ∧ c ∈ cl then some false else none
  | .cls c, .ty b => if (c, b) ∈ types then some false else none
  | .cls c, .cls e => (pairs.find? fun p => p.1 == c && p.2.1 == e).map (·.2.2)
  | _, _ => none
end PD
set_option Elab.async false
set_option linter.all false
set_option autoImplicit false
set_option maxRecDepth 100000
set_option maxHeartbeats 4000000
namespace PD
open PySem PySem.Spec PyProof.Rows L2
/-! ### laws over data: loops -/
theorem chk_mk {o : Cks} {μ : Mu} {P : Prop} (c : CK o μ) (h : P) : chk o μ P := by
  cases o with
  | nil => exact h
  | cons _ _ => exact ⟨c, h⟩
theorem ck_nil {μ : Mu} : CK [] μ := fun p hp => by cases hp
/-- a comprehension that changes nothing -/
theorem lcL_map {o : Cks} {en : D → Mu → (PD.Env → Prop) → Prop} {te : TDE} {Q : List D → Mu → Prop} {μ : Mu} (f : D → D) (c : CK o μ) : ∀ (ds acc : List D), (∀ x ∈ ds, ∀ (R : QD) (B : Prop), R (f x) μ → en x μ fun ρ' => dIf true (te xF ρ' μ R) B) → acc.length + ds.length ≤ sizeLine → Q (acc ++ ds.map f) μ → lcL o en tYe te Q ds acc μ
  | [], acc, _, _, hq => by
    rw [List.map_nil, List.append_nil] at hq
    exact chk_mk c hq
  | x :: ds, acc, h, hl, hq => by
    refine chk_mk c (h x List.mem_cons_self _ _ ⟨?_, lcL_map f c ds (acc ++ [f x]) (fun y hy => h y (List.mem_cons_of_mem _ hy)) ?_ ?_⟩)
    · rw [List.length_cons] at hl
      omega
    · rw [List.length_append, List.length_singleton]
      rw [List.length_cons] at hl
      omega
    · rw [List.append_assoc]
      exact hq
/-- .. that may change the store -/
theorem lcL_inv {o : Cks} {en : D → Mu → (PD.Env → Prop) → Prop} {tt : TDT} {te : TDE} {Q : List D → Mu → Prop} (I : Nat → List D → Mu → Prop) {ds : List D} {μ : Mu} (h0 : I 0 [] μ) (hck : ∀ i acc μ, I i acc μ → CK o μ)
    (hs : ∀ i x acc μ, ds[i]? = some x → I i acc μ → ∀ (A : D → Mu → Prop) (B : Mu → Prop), (∀ d μ', acc.length < sizeLine → I (i + 1) (acc ++ [d]) μ' → A d μ') → (∀ μ', I (i + 1) acc μ' → B μ') → en x μ fun ρ' => tt xF ρ' μ fun b μ2 => dIf b (te xF ρ' μ2 A) (B μ2))
    (hl : ds.length ≤ sizeLine) (hn : ∀ i acc μ, I i acc μ → acc.length ≤ i) (hq : ∀ acc μ, I ds.length acc μ → Q acc μ) : lcL o en tt te Q ds [] μ := by
  suffices H : ∀ (n i : Nat) (acc : List D) (μ : Mu), i + n = ds.length → I i acc μ → lcL o en tt te Q (ds.drop i) acc μ from by
    have := H ds.length 0 [] μ (by omega) h0
    rwa [List.drop_zero] at this
  intro n
  induction n with
  | zero =>
    intro i acc μ e hi
    have e2 : i = ds.length := by omega
    subst e2
    rw [List.drop_length]
    exact chk_mk (hck _ _ _ hi) (hq _ _ hi)
  | succ n ih =>
    intro i acc μ e hi
    have hlt : i < ds.length := by omega
    rw [List.drop_eq_getElem_cons hlt]
    refine chk_mk (hck _ _ _ hi) (hs i _ acc μ (List.getElem?_eq_getElem hlt) hi _ _ (fun d μ' h1 h2 => ⟨h1, ih (i + 1) _ μ' (by omega) h2⟩) fun μ' h2 => ih (i + 1) _ μ' (by omega) h2)
/-- a for -/
theorem forL_inv {g : TDG} {b : TDS} {E : EndsD} {Xd : XE} {o : Cks} (I : Nat → PD.Env → Mu → Prop) {ds : List D} {ρ : PD.Env} {μ : Mu} (h0 : I 0 ρ μ) (hck : ∀ i ρ μ, I i ρ μ → CK o μ)
    (hs : ∀ i x ρ μ, ds[i]? = some x → I i ρ μ → ∀ N : PD.Env → Mu → Prop, (∀ ρ' μ', I (i + 1) ρ' μ' → N ρ' μ') → g x Xd ρ μ fun ρ' μ' => b { E with nx := N, ct := N, bk := E.nx } Xd ρ' μ') (hq : ∀ ρ μ, I ds.length ρ μ → E.nx ρ μ) : forL g b E Xd o ds ρ μ := by
  suffices H : ∀ (n i : Nat) (ρ : PD.Env) (μ : Mu), i + n = ds.length → I i ρ μ → forL g b E Xd o (ds.drop i) ρ μ from by
    have := H ds.length 0 ρ μ (by omega) h0
    rwa [List.drop_zero] at this
  intro n
  induction n with
  | zero =>
    intro i ρ μ e hi
    have e2 : i = ds.length := by omega
    subst e2
    rw [List.drop_length]
    exact chk_mk (hck _ _ _ hi) (hq _ _ hi)
  | succ n ih =>
    intro i ρ μ e hi
    have hlt : i < ds.length := by omega
    rw [List.drop_eq_getElem_cons hlt]
    exact chk_mk (hck _ _ _ hi) (hs i _ ρ μ (List.getElem?_eq_getElem hlt) hi _ fun ρ' μ' h2 => ih (i + 1) _ μ' (by omega) h2)
/-- .. to a given list -/
theorem lcL_to {o : Cks} {en : D → Mu → (PD.Env → Prop) → Prop} {te : TDE} {Q : List D → Mu → Prop} {μ : Mu} (c : CK o μ) : ∀ (ds ys acc : List D), ds.length = ys.length → (∀ (i : Nat) x y, ds[i]? = some x → ys[i]? = some y → ∀ (R : QD) (B : Prop), R y μ → en x μ fun ρ' => dIf true (te xF ρ' μ R) B) → acc.length + ds.length ≤ sizeLine → Q (acc ++ ys) μ → lcL o en tYe te Q ds acc μ
  | [], ys, acc, hn, _, _, hq => by
    cases ys with
    | nil =>
      rw [List.append_nil] at hq
      exact chk_mk c hq
    | cons _ _ => cases hn
  | x :: ds, ys, acc, hn, h, hl, hq => by
    cases ys with
    | nil => cases hn
    | cons y ys =>
      refine chk_mk c (h 0 x y rfl rfl _ _ ⟨?_, lcL_to c ds ys (acc ++ [y]) (by simpa using hn) (fun i a b ha hb => h (i + 1) a b ha hb) ?_ ?_⟩)
      · rw [List.length_cons] at hl
        omega
      · rw [List.length_append, List.length_singleton]
        rw [List.length_cons] at hl
        omega
      · rw [List.append_assoc]
        exact hq
theorem ex_draw : ∃ F : FD, F = F_draw := ⟨_, rfl⟩
noncomputable def F_drawO : FD := Classical.choose ex_draw
theorem F_drawO_eq : F_drawO = F_draw := Classical.choose_spec ex_draw
theorem ex_deal : ∃ F : FD, F = F_deal := ⟨_, rfl⟩
noncomputable def F_dealO : FD := Classical.choose ex_deal
theorem F_dealO_eq : F_dealO = F_deal := Classical.choose_spec ex_deal
theorem drawn {μ : Mu} {d l : Addr} {many : Int} {Q : QD} {Xd : XD → Mu → Prop} (hm : μ d = some (.deal l)) (h0 : 0 < many) (h1 : many ≤ 340282366920938463463374607431768211456) (h : ∀ r : Int, 0 ≤ r → r < many → Q (.int r) μ) : F_drawO [.ptr d, .int many] μ Q Xd := by
  rw [F_drawO_eq]
  exact draw_ok hm h0 h1 h
theorem dealt {μ : Mu} {ns : List Int} {b : Int} {Q : QD} {Xd : XD → Mu → Prop} (hn : ns.length ≤ 63) (h0 : 0 ≤ b) (h1 : b ≤ 1000) (h : ∀ d l, Im μ d → Im μ l → d ≠ l → Q (.ptr d) (μ.set d (.deal l))) : F_dealO [.scr ns, .int b] μ Q Xd := by
  rw [F_dealO_eq]
  exact ⟨hn, h0, h1, h⟩
end PD
set_option Elab.async false
set_option linter.all false
set_option maxRecDepth 100000
set_option maxHeartbeats 4000000
/-! the law's def where the surroundings are known: nothing is being shown (guards), so nested data may be shown -/
namespace LB
open PySem PySem.Spec PyProof.Rows L2
/-- the def at f, called as the claim calls it, keeps the promise sp -/
def RunsC (P : Program) (w : World) (K : PySem.W.Frag) (mg : Str → Option Value) (base : Heap) (f : Addr) (fd : FuncData) (ps : List Str) (sp : Sp) : Prop :=
  ∀ (s : Shared) (H : Hp) (args : Args) (us : List Value) (vs : List V) (Q : VK) (E : XK), Env0 P w K mg base callerA [] s H → BindsTo s fd args (ps.zip us) → Vals vs us → sp vs H Q E → codeAny (model P w) callerA (.call (.ref f) args) (CR CX0 [] P w H s Q E) s
section
variable {P : Program} {w : World} {K : PySem.W.Frag} {mg : Str → Option Value} {base : Heap}
theorem runsC_of {k : Nat} {x qual : Str} {st : Stmt} {f : Addr} {fd : FuncData} {N ps : List Str} {sp : Sp} (room : Room (k + 1) callerA) (G : Fun K x qual st f fd) (S : FnScope N ps (defScope st)) (len : ∀ vs H Q E, sp vs H Q E → vs.length = ps.length)
    (hb : ∀ (cdv : Value) (s : Shared) (H : Hp) (vs : List V) (Q : VK) (E : XK), Room k (callerA.deeper (envOfC qual (defScope st) s.heap.objs.size f cdv)) → sp vs H Q E →
      ∃ t, PSs (cxOf CX0 P w K mg base N qual (defScope st) f cdv callerA [] s H E).nox (defBody st) t ∧ t { nx := fun _ H' => Q .non H', rt := Q } (start N vs) H) : RunsC P w K mg base f fd ps sp := by
  obtain ⟨oc, od, kV, doc, pm, an, cdv, ct, osl, rfl, look, code⟩ := G.ex
  intro s H args us vs Q E env bd rel wish
  have same := len _ _ _ _ wish
  have stay := fun (b : Addr) (o : Obj) (e : base.get? b = some o) => (env.bs b o e).1
  have kin := env.mod.kin.keeps stay
  have free := env.mod.nolimit.keeps stay
  refine codeAny_call_function room.depth (kin _ _ look) rfl S.co S.gen rfl (PySem.W.codeRec_of kin code) (bd _ _ _ _ ?_)
  refine wpAny_newFunctionEnv_cells S.kind (fun y hy => ?_) fun env1 same1 s1 news => ?_
  · obtain ⟨n, v⟩ := y
    refine (S.par n (List.of_mem_zip hy).1).imp id fun q => ?_
    exact ⟨q, PySem.W.cellsFrom_some _ _ _ (.inl q)⟩
  · subst same1
    refine ⟨free.keeps news.toInCall.keep, codeAny_func ?_⟩
    obtain ⟨t, ht, here⟩ := hb cdv s H vs Q E (room.deeper _) wish
    have J0 := inv_start (CX := CX0) (E := E) (N := N) (P := P) (w := w) (K := K) (mg := mg) (base := base) S room.hd env same rel news
    refine wpAny_mono (ht.nox.run [] s1 (start N vs) H _ J0 here) (fun fl s' way => ?_) fun _ _ z => z
    cases fl with
    | ret u => exact let ⟨v, _, H', J, rv, q⟩ := way; ⟨v, H', J.os, J.bare, J.base, J.hok, rv, q⟩
    | next => exact let ⟨_, H', J, q⟩ := way; ⟨V.non, H', J.os, J.bare, J.base, J.hok, rfl, q⟩
    | brk => exact let ⟨_, _, _, q⟩ := way; False.elim q
    | cont => exact let ⟨_, _, _, q⟩ := way; False.elim q
end
/-- the claim's call, from such a promise -/
theorem lawC_call {P : Program} {w : World} {K : PySem.W.Frag} {mg mb : Str → Option Value} {f a : Addr} {fd : FuncData} {x : Str} {s : Shared} {vals : List Value} {ns : List Int} (kin : K.In s.heap) (gl : s.heap.Ns mainGlobals mg) (bn : s.heap.Ns builtinsNs mb)
    (bb : ∀ y : Str, y ≠ "__name__" → mb y = bootBuiltins y) (lim : s.heap.NoLimit) (gens : s.gens = #[]) (at_ : s.heap.get? a = some { cls := .type "list", data := .seq vals.toArray }) (nums : IntsAre vals ns) (short : ns.length ≤ 63)
    (run : ∀ base : Heap, K.In base → base.Ns mainGlobals mg → RunsC P w K mg base f fd [x] (spLaw K)) (bind : ∀ (s : Shared) (u : Value), BindsTo s fd ⟨[u], []⟩ [(x, u)]) :
    codeAny (model P w) callerA (.call (.ref f) ⟨[.ref a], []⟩) (fun r s' => r = .ok (.ret (.bool true)) ∧ OldK s.heap s'.heap ∧ s'.os = s.os ∧ AllBare s'.gens) s := by
  have small : ns.length ≤ sizeLine := Nat.le_trans short (by decide)
  let scr : HO := .frz { cls := .type "list", data := .seq vals.toArray } (.lst (ns.map V.int))
  -- T: what is tracked, the script or nothing
  suffices go : ∀ T : Hp, (∀ b, T b = none ∨ (b = a ∧ T b = some scr)) → SqL K T a (ns.map V.int) → HOk P w T s.heap → (T a ≠ none → K.lookup a = none) →
      codeAny (model P w) callerA (.call (.ref f) ⟨[.ref a], []⟩) (fun r s' => r = .ok (.ret (.bool true)) ∧ OldK s.heap s'.heap ∧ s'.os = s.os ∧ AllBare s'.gens) s by
    rcases hk : K.lookup a with _ | o
    · refine go (fun b => if b = a then some scr else none) (fun b => ?_) (.inl (.inr ⟨_, if_pos rfl⟩)) (fun b u z => ?_) fun _ => hk
      · by_cases e : b = a
        · exact .inr ⟨e, if_pos e⟩
        · exact .inl (if_neg e)
      · by_cases e : b = a
        · subst e
          cases (if_pos rfl).symm.trans z
          exact ⟨at_, by rw [List.length_map]; exact small, vals, _, vals_ints nums, at_⟩
        · cases (if_neg e).symm.trans z
    · have here := kin a o hk
      rw [at_] at here
      cases here
      exact go (fun _ => none) (fun _ => .inl rfl) (.inr ⟨_, vals.toArray, _, hk, rfl, rfl, rfl, by rw [List.size_toArray, nums.length]; exact small, by simpa using vals_ints nums⟩) (fun b u z => nomatch z) fun z => absurd rfl z
  intro T only seq ok out
  have noDict : ∀ {b : Addr} {o : Obj} {es : Array DictEntry} {ep : Nat}, s.heap.get? b = some o → o.data = .dict es ep → T b = none := fun {b o es ep} e d => (only b).elim id fun ⟨eq, _⟩ => by
    subst eq
    cases at_.symm.trans e
    cases d
  have over : ∀ {b : Addr} {m : Str → Option Value}, s.heap.Ns b m → (hidT s.heap T).Ns b m := fun {b m} ⟨o, es, ep, e, d, r⟩ => ⟨o, es, ep, hidT_get e (noDict e d), d, r⟩
  have kin0 : K.In (hidT s.heap T) := fun b o e => hidT_get (kin b o e) ((only b).elim id fun ⟨eq, z⟩ => by
    subst eq
    have no := out (by rw [z]; simp)
    rw [no] at e
    cases e)
  have mod : Mod K mg (hidT s.heap T) := ⟨kin0, over gl, ⟨mb, over bn, bb⟩, by obtain ⟨m, p, q⟩ := lim; exact ⟨m, over p, q⟩⟩
  have env : Env0 P w K mg (hidT s.heap T) callerA [] s T := ⟨rfl, mod, fun b o e => of_hidT e, Nat.le_of_eq (hidT_size _ _), trivial, fun b z => absurd (show b ∈ ([] : List Addr) from z) (by simp), ok, .of_eq gens⟩
  refine codeAny_mono (run _ kin0 (over gl) s T ⟨[.ref a], []⟩ [.ref a] [.ref a] (fun v _ => v = .bl true) (fun _ _ _ => False) env (bind s (.ref a)) (.cons rfl .nil) ⟨a, ns, rfl, seq, short, fun _ => rfl⟩) fun r s' end_ => ?_
  rcases r with e | fl
  · exact False.elim end_
  · cases fl with
    | next => exact False.elim end_
    | brk => exact False.elim end_
    | cont => exact False.elim end_
    | ret u =>
      obtain ⟨v, T', os, bare, un, ok', rv, is⟩ := end_
      subst is
      obtain rfl : u = Value.bool true := rv
      refine ⟨rfl, OldK.of_keep fun b o e => ?_, os, bare⟩
      rcases only b with no | ⟨_, yes⟩
      · exact un.keep b o e no (fun z => absurd (show b ∈ ([] : List Addr) from z) (by simp)) (by simp)
      · have same := (ok b _ yes).1
        have then_ := (ok' b _ (un.frzs b _ _ yes)).1
        rw [e] at same
        cases same
        exact then_
/-- the law's walk, from such a promise -/
theorem walkC {l : PySem.W.OpenLaw} {q : Program} {loose : List Str} {XP : (Str → Option Value) → Heap → Prop} {YP : World → Heap → Prop} {d : DefRec} {K : Params → PySem.W.Frag} (hn : l.most = some 63) (hdf : d.params.defaults = [])
    (hY : ∀ (w : World) (h : Heap), YP w h → (K w.params).In h)
    (F : ∀ (w : World) (mg : Str → Option Value) (fa : Addr) (h : Heap), (K w.params).In h → h.Ns mainGlobals mg → mg d.name = some (.ref fa) →
      ∃ fd : FuncData, (∀ (s : Shared) (u : Value), BindsTo s fd ⟨[u], []⟩ [("_law_script", u)]) ∧ ∀ base : Heap, (K w.params).In base → base.Ns mainGlobals mg → RunsC l.prog w (K w.params) mg base fa fd ["_law_script"] (spLaw (K w.params))) :
    PySem.W.WalkO q loose XP YP l.row.toRowW d [] (fun f vs => PySem.call f vs) := by
  refine Att.attach_call hn hdf fun w _ s mg mb fa _ _ _ _ a vals ns ground y _ _ _ named at_ nums short gens => ?_
  have kin := hY w _ y
  obtain ⟨fd, bind, run⟩ := F w mg fa _ kin ground.T.g named
  exact lawC_call kin ground.T.g ground.T.b ground.T.builtins ground.T.nolimit gens at_ nums short run bind
theorem LawFn.okC {P : Program} {w : World} {K : PySem.W.Frag} {mg : Str → Option Value} {fa : Addr} {st : Stmt} {N : List Str} {k : Nat} (F : LawFn K mg fa st) (room : Room (k + 1) callerA) (S : FnScope N ["_law_script"] (defScope st))
    (body : ∀ (base : Heap), K.In base → base.Ns mainGlobals mg → ∀ (cdv : Value) (s : Shared) (H : Hp) (vs : List V) (Q : VK) (E : XK), Room k (callerA.deeper (envOfC "law" (defScope st) s.heap.objs.size fa cdv)) → spLaw K vs H Q E →
      ∃ t, PSs (cxOf CX0 P w K mg base N "law" (defScope st) fa cdv callerA [] s H E).nox (defBody st) t ∧ t { nx := fun _ H' => Q .non H', rt := Q } (start N vs) H) :
    ∃ fd : FuncData, (∀ (s : Shared) (u : Value), BindsTo s fd ⟨[u], []⟩ [("_law_script", u)]) ∧ ∀ base : Heap, K.In base → base.Ns mainGlobals mg → RunsC P w K mg base fa fd ["_law_script"] (spLaw K) := by
  obtain ⟨fd, G, bind⟩ := F.ex
  refine ⟨fd, bind, fun base h1 h2 => runsC_of room G S (fun vs H Q E h => ?_) (body base h1 h2)⟩
  obtain ⟨a, ns, rfl, _⟩ := h
  rfl
end LB
set_option Elab.async false
set_option linter.all false
set_option autoImplicit false
set_option maxRecDepth 100000
set_option maxHeartbeats 4000000
namespace PD
open PySem PySem.Spec PyProof.Rows L2
/-! ### raise -/
section
variable {W : Wo} {hid : Hid} {H H' : Hp} {μ : Mu}
theorem St.ext (g : ∀ b o, H b = some o → H' b = some o) : St H μ H' μ := fun b o e i => ⟨g b o e, i⟩
theorem SR.ext (s : SR W hid H μ) (g : ∀ b o, H b = some o → H' b = some o) : SR W hid H' μ := by
  have same : ∀ {b o}, H b = some o → H' b = H b := fun {b o} e => (g b o e).trans e.symm
  refine ⟨fun a m h => ⟨(s.at_ a m h).1, (s.at_ a m h).2.mono (St.ext g).ok ?_ fun l e => ?_⟩, s.inn, s.one, s.hst (St.ext g)⟩
  · obtain ⟨o, q⟩ := s.known h
    exact same q
  · subst e
    obtain ⟨o, q⟩ := s.inner h
    exact same q
theorem repF_zip : ∀ {fs : List Str} {vs : List V} {ds : List D}, Reps W hid H μ vs ds → RepF W hid H μ (fs.zip vs) (fs.zip ds)
  | [], _, _, _ => .nil
  | _ :: _, _, _, .nil => .nil
  | _ :: _, _, _, .cons h r => .cons h (repF_zip r)
theorem repF_app : ∀ {fs fs' : List (Str × V)} {gs gs' : List (Str × D)}, RepF W hid H μ fs gs → RepF W hid H μ fs' gs' → RepF W hid H μ (fs ++ fs') (gs ++ gs')
  | _, _, _, _, .nil, q => q
  | _, _, _, _, .cons h r, q => .cons h (repF_app r q)
theorem repF_rev : ∀ {fs : List (Str × V)} {gs : List (Str × D)}, RepF W hid H μ fs gs → RepF W hid H μ fs.reverse gs.reverse
  | _, _, .nil => .nil
  | _, _, .cons h r => by
    rw [List.reverse_cons, List.reverse_cons]
    exact repF_app (repF_rev r) (.cons h .nil)
end
/-- the promise of an exception's __init__: its arguments are kept in the fields fs -/
def spExcN (C : Addr) (fs : List Str) : Sp := fun vs H Q _ => ∃ (a : Addr) (xs : List V), vs = .ref a :: xs ∧ xs.length = fs.length ∧ H a = some (exo a C none) ∧
  ∀ dx H', H dx = none → dx ≠ a → (∀ b, b ≠ a → b ≠ dx → H' b = H b) → H' a = some (exo a C (some dx)) → H' dx = some (exd dx (fs.zip xs).reverse) → Q .non H'
def sRaise (C : Str) (fs : List Str) (ta : TDA) : TDS := fun _ Xd ρ μ => ta Xd ρ μ fun ds μ1 => ds.length = fs.length ∧ Xd ⟨C, (fs.zip ds).reverse⟩ ρ μ1
section
variable {X : Cx} {W : Wo} {Wk : WX} {k : Nat} {C0 : Str} {ps fs : List Str} {e : Expr} {es : List Expr} {ta : TDA} {p pos pos' : Pos}
theorem bs_raise (c : LB.ExcCls X.K X.mg C0 (W.cl C0)) (D : LB.MethOk X.prog X.w X.K X.mg X.base k (W.cl C0) "__init__" ps (spExcN (W.cl C0) fs)) (hc : X.calm = true) (tk : Takes X Wk) (hr : Room (k + 1) X.A) (hg : Gl X C0) (ha : BA X W Wk (e :: es) ta) (hl : fs.length ≤ 1000 := by decide)
    (hdb : (C0 == ("__debug__" : Str)) = false := by decide) (he : starEach (e :: es) X.env = (false, eval e X.env) :: starEach es X.env := by rfl) (hpl : (backTo pos (starEach es X.env)).any (·.1) = false := by rfl) :
    BS X W Wk (.Raise (some (.Call (.Name C0 p) (e :: es) [] pos)) none pos') (sRaise C0 fs ta) :=
  PS.weak (LB.ps_raiseO c D hc tk hr hg ha hdb he hpl) fun E σ H ⟨hid, ρ, μ, Xd, Dd, rel, sr, q, pe, px⟩ => by
    refine ⟨hid, ρ, μ, Xd, _, rel, sr, q, fun vs ds H1 μ1 s1 sr1 r1 ⟨hn, q1⟩ => ?_, px.at_ rel⟩
    refine ⟨by rw [r1.length, hn]; exact hl, fun a ha => ⟨a, vs, by rw [List.append_nil], by rw [r1.length, hn], upd_same, fun dx H' h1 h2 h3 h4 h5 => ?_⟩⟩
    have hd : H1 dx = none := by
      rw [upd_ne h2] at h1
      exact h1
    have g : ∀ b o, H1 b = some o → upd (del H' a) dx (.xd (fs.zip vs).reverse) b = some o := fun b o e => by
      have n1 := ne_of_none e hd
      have n2 := ne_of_none e ha
      rw [upd_ne n1, del_ne n2, h3 b n2 n1, upd_ne n2]
      exact e
    have st := s1.trans (St.ext (μ := μ1) g)
    exact ⟨rfl, dx, _, h4, h5, hd, px _ _ _ σ ρ _ μ1 st (sr1.ext g) (rel_mono st.ok rel) ⟨rfl, .inr ⟨dx, _, rfl, upd_same, (sr1.fresh hd), sr1.nhid hd, (repF_rev (repF_zip r1)).mono (St.ext g).ok⟩⟩ q1⟩
/-! ### try, except C as e -/
/-- which classes the clause takes -/
structure Cats (K : PySem.W.Frag) (W : Wo) (c : Value) (cat : Str → Option Bool) : Prop where
  ok : ∀ C b, cat C = some b → PySem.W.exmOne K (.ref (W.cl C)) c = some b
def sTryAs (i : Nat) (cat : Str → Option Bool) (tb : TDS) (ts : Addr → Option Addr → Str → TDS) : TDS := fun E Xd ρ μ =>
  tb E (fun x ρ' μ' => match cat x.C with
    | some true => ∀ a dd, ts a dd x.C { nx := fun ρ1 μ1 => E.nx (ρ1.set i none) μ1, rt := E.rt, bk := fun ρ1 μ1 => E.bk (ρ1.set i none) μ1, ct := fun ρ1 μ1 => E.ct (ρ1.set i none) μ1 } (fun _ _ _ => False) (ρ'.set i (some (.exc a dd x.C x.fs))) μ'
    | some false => Xd x ρ' μ'
    | none => False) ρ μ
theorem bs_tryAs {x n : Str} {c : Value} {i : Nat} {body suite : List Stmt} {b₀ : Stmt} {np : Pos} {cat : Str → Option Bool} {tb : TDS} {ts : Addr → Option Addr → Str → TDS} (ct : Cats X.K W c cat) (hN : X.N.Nodup) (hi : X.N[i]? = some n) (hln : X.env.kindOf n = some .local) (hc : Names X x c) (tk : Takes X Wk)
    (hb : ∀ (Wb : WX) (pn : List (Addr × Obj)) (xe : Value → Shared → Prop), Takes (X.tr pn xe) Wb → PassesOwn (model X.prog X.w) X.A X.env xe → BSs (X.tr pn xe) W Wb body tb)
    (hsu : ∀ (a : Addr) (oe : Obj) (C : Str) (dd : Option Addr) (pn : List (Addr × Obj)), Zc (.ref (W.cl C)) dd oe → (∃ vs, oe.data = .fields vs) → BSs (X.suite a ((a, oe) :: pn)) W WF (b₀ :: suite) (ts a dd C))
    (hs : X.stack = X.env :: X.outer := by rfl) (hf : X.env.frame = some X.env.locals := by rfl) :
    BS X W Wk (.Try body [.ExceptHandler (some (.Name x np)) (some n) (b₀ :: suite) pos'] [] [] pos) (sTryAs i cat tb ts) :=
  PS.weak (LB.ps_tryE hs hf hN hi hln hc tk) fun E σ H ⟨hid, ρ, μ, Xd, Dd, rel, sr, q, pe, px⟩ => fun pn xe tk' po => by
    refine ⟨_, hb _ pn xe tk' po, hid, ρ, μ, _, Dd, rel, sr, q, pe, fun x cls dd σ' ρ' H' μ' s' sr' rel' xr q' => ?_⟩
    obtain ⟨C1, fs1⟩ := x
    obtain ⟨rfl, xr⟩ := xr
    dsimp only at q' xr
    split at q'
    · rename_i hcat
      refine ⟨true, ct.ok _ _ hcat, fun _ a ha oe pn' hz hd => ⟨_, hsu a oe C1 dd pn' hz hd, hid, ρ'.set i (some (.exc a dd C1 fs1)), μ', _, _, rel_set (.some ?_) i rel', sr', q' a dd, ?_, fun _ _ _ _ _ _ _ _ _ _ _ z => z.elim⟩, fun z => nomatch z⟩
      · rcases xr with ⟨rfl, rfl⟩ | ⟨d, fs, rfl, h1, h2, h3, h4⟩
        · exact .exc0
        · exact .exc h1 h2 h3 h4
      · have pe' := pe.st s'
        exact ⟨fun σ1 ρ1 H1 μ1 s1 sr1 rel1 q1 => pe'.nx _ _ H1 μ1 s1 sr1 (rel_set .none i rel1) q1, pe'.rt, fun σ1 ρ1 H1 μ1 s1 sr1 rel1 q1 => pe'.bk _ _ H1 μ1 s1 sr1 (rel_set .none i rel1) q1, fun σ1 ρ1 H1 μ1 s1 sr1 rel1 q1 => pe'.ct _ _ H1 μ1 s1 sr1 (rel_set .none i rel1) q1⟩
    · rename_i hcat
      exact ⟨false, ct.ok _ _ hcat, (fun z => nomatch z), fun _ => px _ _ dd σ' ρ' H' μ' s' sr' rel' ⟨rfl, xr⟩ q'⟩
    · exact q'.elim
/-! ### in the suite -/
/-- what the text says of its exceptions: the classes with the names of their fields -/
structure XOk (K : PySem.W.Frag) (W : Wo) (fls : List (Str × List Str)) : Prop where
  ok : ∀ C fs, fls.lookup C = some fs → ExcC K (W.cl C) ∧ (PySem.W.clsIn K (W.cl C)).isSome = true ∧ ∀ f ∈ fs, PySem.W.findIn K (.ref (W.cl C)) f = some none
theorem ExcC.xf {K : PySem.W.Frag} {C : Addr} (h : ExcC K C) : XfC K C := ⟨h.hg, h.hk, h.hs, h.hd⟩
def eXf (fls : List (Str × List Str)) (a : Addr) (dd : Option Addr) (C : Str) (f : Str) (te : TDE) : TDE := fun Xd ρ μ Q => te Xd ρ μ fun d μ1 => match d with
  | .exc a' dd' C' gs => a' = a ∧ dd' = dd ∧ C' = C ∧ (match fls.lookup C with | some fs => f ∈ fs | none => False) ∧ (match gs.lookup f with | some v => Q v μ1 | none => False)
  | _ => False
theorem attr_never {X : Cx} {e : Expr} {f : Str} {te t' : TE} {pos : Pos} (he : PE X e te) (k : ∀ σ H Q, t' σ H Q → te σ H fun _ _ => False) (hb : attributeBase e f X.env (eval e X.env) = eval e X.env := by rfl) : PE X (.Attribute e f pos) t' :=
  ⟨fun pins s σ H Q I h => attr_of hb (thn (he.run pins s σ H _ I (k σ H Q h)) fun _ _ ⟨_, _, _, _, z⟩ => z.elim)⟩
theorem be_xf {fls : List (Str × List Str)} {a : Addr} {C : Str} {dd : Option Addr} {oe : Obj} {pn : List (Addr × Obj)} {f : Str} {te : TDE} (T : XOk X.K W fls) (hz : Zc (.ref (W.cl C)) dd oe) (hf : ∃ vs, oe.data = .fields vs) (he : BE (X.suite a ((a, oe) :: pn)) W Wk e te) (hb : attributeBase e f X.env (eval e X.env) = eval e X.env := by rfl) :
    BE (X.suite a ((a, oe) :: pn)) W Wk (.Attribute e f pos) (eXf fls a dd C f te) := by
  by_cases hx : ∃ fs, fls.lookup C = some fs ∧ f ∈ fs
  · obtain ⟨fs, h1, h2⟩ := hx
    obtain ⟨c, _, no⟩ := T.ok C fs h1
    refine PE.weak (pe_xf (ExcC.xf c) (no f h2) hz hf he hb) fun σ H Q ⟨hid, ρ, μ, Xd, Qd, rel, sr, q, pq, px⟩ => ?_
    refine ⟨hid, ρ, μ, Xd, _, rel, sr, q, fun v d H1 μ1 s1 sr1 r1 q1 => ?_, px⟩
    dsimp only at q1
    split at q1
    · rename_i gs
      obtain ⟨rfl, rfl, rfl, _, q1⟩ := q1
      split at q1
      · rename_i z hz1
        cases r1 with
        | exc g1 _ _ g4 =>
          have ro := lookF_ok (f := f) g4
          rw [hz1] at ro
          generalize hl : List.lookup f _ = o at ro
          cases ro with
          | some r => exact ⟨rfl, rfl, _, _, _, rfl, g1, hl, pq _ _ H1 μ1 s1 sr1 r q1⟩
        | exc0 => cases hz1
      · exact q1.elim
    · exact q1.elim
  · refine attr_never he (fun σ H Q ⟨hid, ρ, μ, Xd, Qd, rel, sr, q, pq, px⟩ => ⟨hid, ρ, μ, Xd, _, rel, sr, q, fun v d H1 μ1 s1 sr1 r1 q1 => ?_, px⟩) hb
    dsimp only at q1
    split at q1
    · obtain ⟨_, _, _, h4, _⟩ := q1
      split at h4
      · rename_i fs h1
        exact hx ⟨fs, h1, h4⟩
      · exact h4
    · exact q1
/-- a tuple of classes -/
def tabAny (tab : Tab) (t : D) : List D → Option Bool
  | [] => some false
  | c :: r => match tab t c with
    | some true => some true
    | some false => tabAny tab t r
    | none => none
theorem tabAny_ok {K : PySem.W.Frag} {tab : Tab} (T : KIs K W tab) {t : D} : ∀ {cs : List D} {b : Bool}, tabAny tab t cs = some b → PySem.W.kitAny K (cval W t) (cs.map (cval W)) = some b
  | [], b, e => e
  | c :: r, b, e => by
    unfold tabAny at e
    show (match PySem.W.kitOne K (cval W t) (cval W c) with | some true => some true | some false => PySem.W.kitAny K (cval W t) (r.map (cval W)) | none => none) = some b
    split at e
    · rename_i h
      rw [T.ok _ _ _ h]
      exact e
    · rename_i h
      rw [T.ok _ _ _ h]
      exact tabAny_ok T e
    · cases e
theorem clsVs_of {hid : Hid} {H : Hp} {μ : Mu} : ∀ {vs : List V} {cs : List D} {us : List Value}, Reps W hid H μ vs cs → cs.all isC = true → Vals vs us → us = cs.map (cval W)
  | _, _, _, .nil, _, h => by
    cases h
    rfl
  | _, _, _, .cons r rr, a, h => by
    rw [List.all_cons, Bool.and_eq_true_iff] at a
    cases h with
    | cons h1 h2 => rw [clsVs_of rr a.2 h2, (clsV_of r a.1).eq h1, List.map_cons]
/-- isinstance(e, ..), e the exception that is held -/
def cIsE (fls : List (Str × List Str)) (tab : Tab) (a : Addr) (dd : Option Addr) (C : Str) : CD := fun ds μ Q => match ds with
  | [.exc a' dd' C' _, c] => a' = a ∧ dd' = dd ∧ C' = C ∧ (fls.lookup C).isSome = true ∧ (match c with
    | .tup cs => cs.all isC = true ∧ (match tabAny tab (.cls C) cs with | some b => Q (.bl b) μ | none => False)
    | c => isC c = true ∧ (match tab (.cls C) c with | some b => Q (.bl b) μ | none => False))
  | _ => False
theorem kitE_at {K : PySem.W.Frag} {C x : Addr} {ox : Obj} {od : Option Obj} (h : ExcC K C) (hc : (PySem.W.clsIn K C).isSome = true) : PySem.W.KitX K (.ref x) (.ref C) (fun h => PySem.W.InstAt h x ox C od) := PySem.W.kitx_exc hc h.hg h.hk h.hs h.ha h.hn h.ht h.hm
theorem cd_isE {fls : List (Str × List Str)} {tab : Tab} {a : Addr} {C : Str} {dd : Option Addr} {oe : Obj} {pn : List (Addr × Obj)} (CW : TW X.K X.w W) (T : XOk X.K W fls) (KI : KIs X.K W tab) (hz : Zc (.ref (W.cl C)) dd oe) (hf : ∃ vs, oe.data = .fields vs) :
    CallR (X.suite a ((a, oe) :: pn)) (.builtin "isinstance") (rCD W (cIsE fls tab a dd C)) := by
  intro pins s σ H xs us Q I rv ⟨hid, μ, ds, Qd, sr, r, h, pq⟩
  unfold cIsE at h
  split at h
  · rename_i a' dd' C' gs c
    obtain ⟨rfl, rfl, rfl, hfl, h⟩ := h
    obtain ⟨fs, hfl⟩ := Option.isSome_iff_exists.mp hfl
    obtain ⟨ec, cl, _⟩ := T.ok _ _ hfl
    cases r with
    | cons re r =>
      cases r with
      | cons rc r =>
        cases r
        obtain ⟨u1, u2, rfl, rv1, rv2⟩ := vals2 rv
        obtain ⟨hget, _⟩ := I.pin (_, oe) (List.mem_append.mpr (.inl List.mem_cons_self))
        obtain ⟨vs, hv⟩ := hf
        obtain ⟨od, J⟩ : ∃ od, PySem.W.InstAt s.heap _ oe (W.cl _) od := by
          cases re with
          | exc g1 _ _ _ =>
            obtain ⟨mA, hns, _⟩ := (show ObjOk X.prog X.w H s.heap _ (.xd _) from I.hok _ _ g1)
            obtain ⟨od, ho, _⟩ := lookIn_ns hns
            exact ⟨some od, hget, hz.1, by unfold PySem.W.notCls; rw [hv] <;> rfl, by rw [hz.2]; exact ho⟩
          | exc0 => exact ⟨none, hget, hz.1, by unfold PySem.W.notCls; rw [hv] <;> rfl, by rw [hz.2]; trivial⟩
        have ev : u1 = Value.ref a' := by
          cases re <;> exact rv1
        subst ev
        split at h
        · rename_i cs
          obtain ⟨hall, h⟩ := h
          split at h
          · rename_i b hb
            obtain ⟨ta, vs1, rfl, hs, rs⟩ := tup_ok rc
            rw [← CW.hK] at hs
            obtain ⟨its, hv1, ⟨o, i1, i2, n, i3⟩, _⟩ := I.tuple hs
            cases (show u2 = Value.ref ta from rv2)
            have ei := clsVs_of rs hall hv1
            subst ei
            obtain ⟨oc, odd, dt, sl⟩ := o
            simp only at i2 i3
            subst i2 i3
            exact PySem.W.kia_tup (kitE_at ec cl) I.kIn J i1 (tabAny_ok KI hb) (fun z => nomatch z) fun tk => ⟨.bl b, H, I.tok tk, rfl, pq _ _ H μ .refl sr (.bl b) h⟩
          · exact h.elim
        · obtain ⟨hc, h⟩ := h
          split at h
          · rename_i b hb
            have eu := (clsV_of rc hc).eq rv2
            subst eu
            exact PySem.W.kia_one (kitE_at ec cl) I.kIn J (KI.ok _ _ _ hb) (fun z => nomatch z) fun tk => ⟨.bl b, H, I.tok tk, rfl, pq _ _ H μ .refl sr (.bl b) h⟩
          · exact h.elim
  · exact h.elim
end
end PD
set_option Elab.async false
set_option linter.all false
set_option autoImplicit false
set_option maxRecDepth 100000
set_option maxHeartbeats 4000000
namespace PD
open PySem PySem.Spec PyProof.Rows L2
/-! ### repr of nested data, where nothing is being shown -/
def cRepr : CD := fun ds μ Q => match ds with
  | [d] => (match pyD μ d with
    | some x => x.showable = true ∧ x.depth ≤ 60 ∧ x.shown.length ≤ sizeLine ∧ Q (.str x.shown) μ
    | none => False)
  | _ => False
section
variable {X : Cx} {W : Wo} {Wk : WX}
mutual
theorem noDict_py {μ : Mu} : ∀ {d : D} {x : PyData}, pyD μ d = some x → x.hasDict = false
  | .non, x, e => by
    cases (Option.some.inj (show some PyData.none = some x from by simpa only [pyD] using e))
    simp only [PyData.hasDict]
  | .bl b, x, e => by
    cases (Option.some.inj (show some (PyData.bool b) = some x from by simpa only [pyD] using e))
    simp only [PyData.hasDict]
  | .int b, x, e => by
    cases (Option.some.inj (show some (PyData.int b) = some x from by simpa only [pyD] using e))
    simp only [PyData.hasDict]
  | .str b, x, e => by
    cases (Option.some.inj (show some (PyData.str b) = some x from by simpa only [pyD] using e))
    simp only [PyData.hasDict]
  | .tup xs, x, e => by
    have e' : (pyDs μ xs).map PyData.tuple = some x := by simpa only [pyD] using e
    cases h : pyDs μ xs with
    | none => rw [h] at e'; cases e'
    | some ys =>
      rw [h] at e'
      cases e'
      simp only [PyData.hasDict]
      exact noDict_pys h
  | .lst xs, x, e => by
    have e' : (pyDs μ xs).map PyData.list = some x := by simpa only [pyD] using e
    cases h : pyDs μ xs with
    | none => rw [h] at e'; cases e'
    | some ys =>
      rw [h] at e'
      cases e'
      simp only [PyData.hasDict]
      exact noDict_pys h
  | .ptr a, x, e => by
    simp only [pyD] at e
    split at e
    · rename_i ds hm
      cases h : flatDs ds with
      | none => rw [h] at e; cases e
      | some ys =>
        rw [h] at e
        cases e
        simp only [PyData.hasDict]
        exact noDict_fls h
    · cases e
  | .ty _, x, e => by simp only [pyD] at e; cases e
  | .obj _ _, x, e => by simp only [pyD] at e; cases e
  | .dct _, x, e => by simp only [pyD] at e; cases e
  | .scr _, x, e => by simp only [pyD] at e; cases e
  | .cls _, x, e => by simp only [pyD] at e; cases e
  | .exc _ _ _ _, x, e => by simp only [pyD] at e; cases e
  | .xob _ _, x, e => by simp only [pyD] at e; cases e
theorem noDict_pys {μ : Mu} : ∀ {ds : List D} {xs : List PyData}, pyDs μ ds = some xs → PyData.hasDictAll xs = false
  | [], xs, e => by
    cases (Option.some.inj (show some [] = some xs from by simpa only [pyDs] using e))
    simp only [PyData.hasDictAll]
  | d :: ds, xs, e => by
    simp only [pyDs] at e
    split at e
    · rename_i x ys e1 e2
      cases e
      simp only [PyData.hasDictAll, noDict_py e1, noDict_pys e2]
      rfl
    · cases e
theorem noDict_fl : ∀ {d : D} {x : PyData}, flatD d = some x → x.hasDict = false
  | .non, x, e => by
    cases (Option.some.inj (show some PyData.none = some x from by simpa only [flatD] using e))
    simp only [PyData.hasDict]
  | .bl b, x, e => by
    cases (Option.some.inj (show some (PyData.bool b) = some x from by simpa only [flatD] using e))
    simp only [PyData.hasDict]
  | .int b, x, e => by
    cases (Option.some.inj (show some (PyData.int b) = some x from by simpa only [flatD] using e))
    simp only [PyData.hasDict]
  | .str b, x, e => by
    cases (Option.some.inj (show some (PyData.str b) = some x from by simpa only [flatD] using e))
    simp only [PyData.hasDict]
  | .tup xs, x, e => by
    have e' : (flatDs xs).map PyData.tuple = some x := by simpa only [flatD] using e
    cases h : flatDs xs with
    | none => rw [h] at e'; cases e'
    | some ys =>
      rw [h] at e'
      cases e'
      simp only [PyData.hasDict]
      exact noDict_fls h
  | .lst xs, x, e => by
    have e' : (flatDs xs).map PyData.list = some x := by simpa only [flatD] using e
    cases h : flatDs xs with
    | none => rw [h] at e'; cases e'
    | some ys =>
      rw [h] at e'
      cases e'
      simp only [PyData.hasDict]
      exact noDict_fls h
  | .ptr _, x, e => by simp only [flatD] at e; cases e
  | .ty _, x, e => by simp only [flatD] at e; cases e
  | .obj _ _, x, e => by simp only [flatD] at e; cases e
  | .dct _, x, e => by simp only [flatD] at e; cases e
  | .scr _, x, e => by simp only [flatD] at e; cases e
  | .cls _, x, e => by simp only [flatD] at e; cases e
  | .exc _ _ _ _, x, e => by simp only [flatD] at e; cases e
  | .xob _ _, x, e => by simp only [flatD] at e; cases e
theorem noDict_fls : ∀ {ds : List D} {xs : List PyData}, flatDs ds = some xs → PyData.hasDictAll xs = false
  | [], xs, e => by
    cases (Option.some.inj (show some [] = some xs from by simpa only [flatDs] using e))
    simp only [PyData.hasDictAll]
  | d :: ds, xs, e => by
    simp only [flatDs] at e
    split at e
    · rename_i x ys e1 e2
      cases e
      simp only [PyData.hasDictAll, noDict_fl e1, noDict_fls e2]
      rfl
    · cases e
end
theorem cd_repr (C : TW X.K X.w W) (hg : X.A.guards = some []) (hu : X.A.units + 64 < cLine) : CallR X (.builtin "repr") (rCD W cRepr) := by
  intro pins s σ H xs us Q I rv ⟨hid, μ, ds, Qd, sr, r, h, pq⟩
  unfold cRepr at h
  split at h
  · rename_i d
    split at h
    · rename_i x hx
      obtain ⟨h1, h2, h3, h⟩ := h
      cases r with
      | cons r1 r =>
        cases r
        obtain ⟨u, eu, rv1⟩ := vals1 rv
        subst eu
        have dp := dp_of sr hx r1
        rw [← C.hK] at dp
        have no := noDict_py hx
        have fin : ∀ (h' : Heap) (u : Tok) (tk : Nat), (∀ b o, s.heap.get? b = some o → h'.get? b = some o) → EP X pins σ Q (.str x.shown u) { s with heap := h', toks := tk } := fun h' u tk k => ⟨.str _, H, I.kept k, ⟨u, rfl⟩, pq _ _ H μ .refl sr (.str _) h⟩
        obtain ⟨as, rd⟩ := dp.reads I _ _ _ rv1
        cases rd with
        | none =>
          have e : PyData.shown .none = "None" := by simp only [PyData.shown]
          rw [e] at fin
          exact P.repr_of_none (fin s.heap s.toks (s.toks + 1) fun _ _ z => z)
        | bool b =>
          have e : PyData.shown (.bool b) = if b then Str.ofString "True" else Str.ofString "False" := by simp only [PyData.shown]
          rw [e] at fin
          exact P.repr_of_bool (fin s.heap s.toks (s.toks + 1) fun _ _ z => z)
        | int i t =>
          have e : PyData.shown (.int i) = toString i := by simp only [PyData.shown]
          rw [e] at fin
          simp only [PyData.showable] at h1
          exact P.repr_of_int (of_decide_eq_true h1) (fin s.heap s.toks (s.toks + 1) fun _ _ z => z)
        | str z t =>
          have e : PyData.shown (.str z) = reprText z := by simp only [PyData.shown]
          rw [e] at fin h3
          exact P.repr_of_str (fin s.heap s.toks (s.toks + 1) fun _ _ z => z) h3
        | list a b c e => exact repr_of_reads' (.list a b c e) h1 (fun z => by rw [no] at z; cases z) hg (by omega) (fun _ _ z => z) fin h3
        | tuple a b c e => exact repr_of_reads' (.tuple a b c e) h1 (fun z => by rw [no] at z; cases z) hg (by omega) (fun _ _ z => z) fin h3
        | dict _ _ _ _ _ => simp only [PyData.hasDict] at no; cases no
    · exact h.elim
  · exact h.elim
end
end PD
set_option Elab.async false
set_option linter.all false
set_option autoImplicit false
set_option maxRecDepth 100000
set_option maxHeartbeats 4000000
namespace PD
open PySem PySem.Spec PyProof.Rows L2
section
variable {X : Cx} {W : Wo} {Wk : WX}
def mUpper : MD := fun d ds μ Q => match d, ds with
  | .str a, [] => a.length ≤ 5592405 ∧ Q (.str (Txt.upper a)) μ
  | _, _ => False
theorem md_upper : MtR X "str.upper" (rMD W mUpper) := MtR.weak mt_upper fun x vs H Q ⟨hid, μ, d, ds, Qd, sr, r, rs, h, pq⟩ => by
  unfold mUpper at h
  split at h
  · cases r
    cases rs
    exact ⟨_, rfl, rfl, h.1, pq _ _ H μ .refl sr (.str _) h.2⟩
  · exact h.elim
end
end PD
set_option Elab.async false
set_option linter.all false
set_option autoImplicit false
set_option maxRecDepth 100000
set_option maxHeartbeats 4000000
/-! x.replace(y, z, 1) of written texts y, z: some text, not much longer -/
namespace PD
open PySem PySem.Spec PyProof.Rows L2 Builtin Builtin.Str
section
variable {prog : Program} {w : World} {A : Around} {E : Value → Shared → Prop} {s : Shared} {x y z : Str} {t u v n : Tok} {Q : Value → Shared → Prop}
theorem gives_once (x y z : Str) (t u v n : Tok) (cuts : List Nat) (ec : occurrences x y 0 x.length 1 = cuts) (hs : isSame (.str y u) (.str z v) = pure false) (hl : tooLong (x.length + cuts.length * z.length) = false) :
    Gives («str.replace» ⟨[.str x t, .str y u, .str z v, .int 1 n], []⟩) (if (cuts.isEmpty || (y.length == 0 && z.length == 0)) = true then .val (.str x t) else .str (glued z (partsBetween x cuts y.length))) := by
  have e : «str.replace» ⟨[.str x t, .str y u, .str z v, .int 1 n], []⟩ = (countLimit "str.replace" (some (.int 1 n)) (x.length + 1) >>= fun most => (
      if ((occurrences x y 0 x.length most).isEmpty || (y.length == 0 && z.length == 0)) = true then rule "str.replace.nothing" >>= fun _ => ret (.str x t) else
        isSame (.str y u) (.str z v) >>= fun same => if same = true then rule "str.replace.old-is-new" >>= fun _ => ret (.str x t) else
          if tooLong (x.length + (occurrences x y 0 x.length most).length * z.length) = true then unsupported "str.replace:memory" else retStr (glued z (partsBetween x (occurrences x y 0 x.length most) y.length)))) := rfl
  rw [e, countLimit_int _ _ _ _ (by decide), pure_bind]
  have e1 : (if (1 : Int) < 0 then x.length + 1 else Int.toNat 1) = 1 := rfl
  rw [e1, ec, hs, pure_bind, hl]
  cases (cuts.isEmpty || (y.length == 0 && z.length == 0))
  · exact .of_eq rfl
  · exact .rule (.of_eq rfl)
theorem joinL_mem {y : List Nat} {c : Nat} : ∀ {ps : List (List Nat)}, c ∈ TL.joinL y ps → c ∈ y ∨ ∃ p ∈ ps, c ∈ p
  | [], h => by simp [TL.joinL] at h
  | [p], h => by
    simp [TL.joinL] at h
    exact .inr ⟨p, by simp, h⟩
  | p :: q :: r, h => by
    have h' : c ∈ p ++ (y ++ TL.joinL y (q :: r)) := h
    rcases List.mem_append.mp h' with z | z
    · exact .inr ⟨p, by simp, z⟩
    · rcases List.mem_append.mp z with z | z
      · exact .inl z
      · rcases joinL_mem z with z | ⟨u, hu, hc⟩
        · exact .inl z
        · exact .inr ⟨u, List.mem_cons_of_mem _ hu, hc⟩
/-- the signs of a text behind replace -/
theorem glued_mem {x z : Str} {cuts : List Nat} {n c : Nat} (h : c ∈ (glued z (partsBetween x cuts n)).cps.toList) : c ∈ x.cps.toList ∨ c ∈ z.cps.toList := by
  rw [StrLaws.glued_eq_join] at h
  have h' : c ∈ TL.tl (Str.join z (partsBetween x cuts n)) := h
  rw [TL.tl_join] at h'
  rcases joinL_mem h' with h' | ⟨p, hp, hc⟩
  · exact .inr h'
  · refine .inl ?_
    obtain ⟨q, hq, rfl⟩ := List.mem_map.mp hp
    unfold partsBetween at hq
    obtain ⟨⟨i, j⟩, _, rfl⟩ := List.mem_map.mp hq
    rw [TL.tl_strSub] at hc
    exact List.mem_of_mem_drop (List.mem_of_mem_take hc)
theorem replace_once (hu : u ≠ 0) (hv : v ≠ 0) (huv : u ≠ v) (hyz : (y == z) = false) (hb : x.length + 2 * z.length ≤ 16777216) (hq : ∀ (r : Str) t' k, r.length ≤ x.length + 2 * z.length → (∀ c ∈ r.cps.toList, c ∈ x.cps.toList ∨ c ∈ z.cps.toList) → Q (.str r t') { s with toks := k }) :
    wpAny (model prog w) A (call (.builtin "str.replace") [.str x t, .str y u, .str z v, .int 1 n]) Q E s := by
  obtain ⟨cuts, ec⟩ : ∃ c, occurrences x y 0 x.length 1 = c := ⟨_, rfl⟩
  have few : cuts.length ≤ 1 := by
    rw [← ec]
    exact StrLaws.occ_length_le x y 0 x.length 1
  have m : cuts.length * z.length ≤ 1 * z.length := Nat.mul_le_mul_right _ few
  have hl : tooLong (x.length + cuts.length * z.length) = false := by
    unfold tooLong
    rw [sizeLine_eq]
    exact decide_eq_false (by omega)
  have long : (glued z (partsBetween x cuts y.length)).length ≤ x.length + 2 * z.length := by
    have h1 : (glued y (partsBetween x cuts y.length)).length = x.length := by rw [← ec, StrLaws.glued_between_self]
    rw [size_glued, length_partsBetween, Nat.add_sub_cancel] at h1 ⊢
    omega
  refine call_gives F.slot_str_replace (typeIs_str _ _ _) F.entry_str_replace (F.args_str_replace_4 _ _ _ _) (gives_once x y z t u v n cuts ec (isSame_str_other y z u v (by simp [hu, hv]) (by simp [huv]) hyz) hl) ?_
  cases (cuts.isEmpty || (y.length == 0 && z.length == 0))
  · simp only [Bool.false_eq_true, if_false]
    exact ⟨by rw [sizeLine_eq]; omega, hq _ _ _ long fun c hc => glued_mem hc⟩
  · simp only [if_true]
    exact hq x t s.toks (by omega) fun c hc => .inl hc
end
section
variable {X : Cx} {W : Wo} {Wk : WX} {o e : Expr} {es : List Expr} {td : TDE} {tr : TDA} {y z : Str} {j k l : Nat} {c0 c1 c2 apos pos p : Pos}
def eRepl1 (td : TDE) (z : Str) : TDE := fun Xd ρ μ Q => td Xd ρ μ fun d μ1 => match d with
  | .str x => x.length + 2 * z.length ≤ 16777216 ∧ ∀ r : Str, r.length ≤ x.length + 2 * z.length → (∀ c ∈ r.cps.toList, c ∈ x.cps.toList ∨ c ∈ z.cps.toList) → Q (.str r) μ1
  | _ => False
abbrev BET (X : Cx) (W : Wo) (Wk : WX) (e : Expr) (td : TDE) : Prop := PET X e (TD W Wk td)
abbrev BAT (X : Cx) (W : Wo) (Wk : WX) (es : List Expr) (td : TDA) : Prop := PAT X es (TDa W Wk td)
theorem bet_repl1 (ho : BE X W Wk o td) (hyz : (y == z) = false := by decide)
    (hst : starEach [.Constant (.str y) j c0, .Constant (.str z) k c1, .Constant (.int 1) l c2] X.env = [(false, eval (.Constant (.str y) j c0) X.env), (false, eval (.Constant (.str z) k c1) X.env), (false, eval (.Constant (.int 1) l c2) X.env)] := by rfl)
    (hbase : attributeBase o "replace" X.env (eval o X.env) = eval o X.env := by rfl) (hline : (apos.endLine == pos.line) = true := by rfl) :
    BET X W Wk (.Call (.Attribute o "replace" apos) [.Constant (.str y) j c0, .Constant (.str z) k c1, .Constant (.int 1) l c2] [] pos) (eRepl1 td z) := by
  intro pins s σ H Q h0 I ⟨hid, ρ, μ, Xd, Qd, rel, sr, q, pq, px⟩
  refine PySem.wpAny_Call_method_lateS hbase (by rw [hst]; rfl) hline ?_
  rw [hst]
  show wpAny _ _ (eval o X.env) (fun ov s₁ => PySem.MethodOnS X.prog X.w X.A X.xe "replace" ov pos [(false, eval (.Constant (.str y) j c0) X.env), (false, eval (.Constant (.str z) k c1) X.env), (false, eval (.Constant (.int 1) l c2) X.env)] (EP X pins σ Q) s₁) X.xe s
  refine wpAny_mono (PySem.wpAny_toks (ho.run pins s σ H (fun v H1 => ∃ x, v = .str x ∧ x.length + 2 * z.length ≤ 16777216 ∧ ∀ r : Str, r.length ≤ x.length + 2 * z.length → (∀ c ∈ r.cps.toList, c ∈ x.cps.toList ∨ c ∈ z.cps.toList) → Q (.str r) H1) I ⟨hid, ρ, μ, Xd, _, rel, sr, q, fun v d H1 μ1 s1 sr1 r1 q1 => ?_, px⟩)) (fun v s1 q => ?_) fun _ _ z => z.2
  · dsimp only at q1
    split at q1
    · cases r1
      exact ⟨_, rfl, q1.1, fun r hr hm => pq _ _ H1 μ1 s1 sr1 (.str r) (q1.2 r hr hm)⟩
    · exact q1.elim
  · obtain ⟨hk, v', H1, I1, r1, x, rfl, hb, q⟩ := q
    obtain ⟨tx, rfl⟩ := r1
    refine ⟨"str", _, PySem.F.plainAttrs_str, PySem.F.slot_str_replace, PySem.F.type_str_replace, typeIs_str _ _ _, (fun _ e => nomatch e), Calls.callWith_builtin rfl (Calls.evalArgs_plain (Calls.spliced_cons ?_))⟩
    refine Calls.Constant_str ?_
    refine Calls.spliced_cons ?_
    refine Calls.Constant_str ?_
    refine Calls.spliced_cons ?_
    refine wpAny_Constant_int ?_
    refine Calls.spliced_nil ?_
    exact replace_once (by show s1.toks ≠ 0; omega) (by show s1.toks + 1 ≠ 0; omega) (by show s1.toks ≠ s1.toks + 1; omega) hyz hb fun r t' k hr hm => ⟨.str r, H1, I1.tok k, ⟨t', rfl⟩, q r hr hm⟩
theorem BET.of (h : BE X W Wk e td) : BET X W Wk e td := fun pins s σ H Q _ I q => h.run pins s σ H Q I q
theorem bat_nil : BAT X W Wk [] aNil := fun pos pins s σ H Q _ I q => ba_nil.run pos pins s σ H Q I q
theorem consT_td {te : TDE} {σ : L2.St} {H : Hp} {Q : List V → Hp → Prop} (h : TDa W Wk (aCons te tr) σ H Q) : tCons (TD W Wk te) (TDa W Wk tr) σ H Q := by
  obtain ⟨hid, ρ, μ, Xd, Qd, rel, sr, q, pq, px⟩ := h
  refine ⟨hid, ρ, μ, Xd, _, rel, sr, q, fun v d H1 μ1 s1 sr1 r1 q1 => ?_, px⟩
  refine ⟨hid, ρ, μ1, Xd, _, rel_mono s1.ok rel, sr1, q1, fun vs ds H2 μ2 s2 sr2 r2 q2 => ?_, px.st s1⟩
  exact pq _ _ H2 μ2 (s1.trans s2) sr2 (.cons (r1.mono s2.ok) r2) q2
theorem bat_cons {te : TDE} (ha : BET X W Wk e te) (hr : BAT X W Wk es tr) (hs : starEach (e :: es) X.env = (false, eval e X.env) :: starEach es X.env := by rfl) : BAT X W Wk (e :: es) (aCons te tr) :=
  fun pos pins s σ H Q h0 I q => pat_cons ha hr hs pos pins s σ H Q h0 I (consT_td q)
/-- behind a written text a token is out -/
theorem ba_litT {op : Operator} {oo : OD} {a : Expr} {ta : TDE} {c : Str} (ho : OpR X (binaryOp op) (rD W oo)) (ha : BE X W Wk a ta) (hr : BAT X W Wk es tr)
    (hs : starEach (.BinOp a op (.Constant (.str c) j c0) p :: es) X.env = (false, eval (.BinOp a op (.Constant (.str c) j c0) p) X.env) :: starEach es X.env := by rfl) : BA X W Wk (.BinOp a op (.Constant (.str c) j c0) p :: es) (aCons (eBin oo ta (eC (.str c))) tr) := by
  refine ⟨fun pos pins s σ H Q I q => ?_⟩
  have q1 := bin_td (show TD W Wk (eBin oo ta (eC (.str c))) σ H _ from consT_td q)
  rw [hs]
  show wpAny _ _ (spliced ((false, eval (.BinOp a op (.Constant (.str c) j c0) p) X.env) :: backTo pos (starEach es X.env))) _ _ s
  refine Calls.spliced_cons (wpAny_BinOp (thn (ha.run pins s σ H _ I q1) fun v s1 ⟨x, H1, I1, r1, q2⟩ => Calls.Constant_str ?_))
  obtain ⟨hid, ρ, μ, Xd, Qd, rel, sr, q2, pq, px⟩ := q2
  have q3 := pq (.str c) (.str c) H1 μ .refl sr (.str c) q2
  refine wpAny_mono (PySem.wpAny_toks (ho pins _ σ H1 x (.str c) v _ _ (I1.tok (s1.toks + 1)) r1 ⟨s1.toks, rfl⟩ q3)) (fun u s2 q4 => ?_) fun _ _ z => z.2
  obtain ⟨hk, x2, H2, I2, r2, q5⟩ := q4
  have one : 1 ≤ s2.toks := Nat.le_trans (show 1 ≤ s1.toks + 1 by omega) hk
  exact thn (hr pos pins s2 σ H2 _ one I2 q5) fun us s3 ⟨xs, H3, I3, r3, q6⟩ => ⟨x2 :: xs, H3, I3, .cons r2 r3, q6⟩
end
end PD
set_option Elab.async false
set_option linter.all false
set_option autoImplicit false
set_option maxRecDepth 100000
set_option maxHeartbeats 4000000
/-! defs that show nested data: they are called where nothing is being shown -/
namespace LB
open PySem PySem.Spec PyProof.Rows L2
structure FnG (P : Program) (w : World) (K : PySem.W.Frag) (mg : Str → Option Value) (base : Heap) (k : Nat) (f : Addr) (fd : FuncData) (ps : List Str) (sp : Sp) : Prop where
  len : ∀ vs H Q E, sp vs H Q E → vs.length = ps.length
  run : ∀ (A : Around) (outer : List Env) (s : Shared) (H : Hp) (args : Args) (us : List Value) (vs : List V) (Q : VK) (E : XK), Room k A → A.guards = some [] → Env0 P w K mg base A outer s H → BindsTo s fd args (ps.zip us) → Vals vs us → sp vs H Q E →
    codeAny (model P w) A (.call (.ref f) args) (CR (L2.CX P w) outer P w H s Q E) s
structure DefG (P : Program) (w : World) (K : PySem.W.Frag) (mg : Str → Option Value) (base : Heap) (k : Nat) (x : Str) (ps : List Str) (sp : Sp) : Prop where
  ex : ∃ (f : Addr) (fd : FuncData), FnG P w K mg base k f fd ps sp ∧ mg x = some (.ref f) ∧ PySem.W.keepIn K (.ref f) = true ∧ Binds K fd ps []
section
variable {P : Program} {w : World} {K : PySem.W.Frag} {mg : Str → Option Value} {base : Heap}
theorem TopFn.okG {x : Str} {st : Stmt} {N ps : List Str} {k : Nat} {sp : Sp} (F : TopFn K mg x st ps) (S : FnScope N ps (defScope st)) (len : ∀ vs H Q E, sp vs H Q E → vs.length = ps.length)
    (hb : ∀ (f : Addr) (cdv : Value) (A : Around) (outer : List Env) (s : Shared) (H : Hp) (vs : List V) (Q : VK) (E : XK), Room k (A.deeper (envOfC x (defScope st) s.heap.objs.size f cdv)) → (A.deeper (envOfC x (defScope st) s.heap.objs.size f cdv)).guards = some [] → sp vs H Q E →
      ∃ t, PSs (cxOf (L2.CX P w) P w K mg base N x (defScope st) f cdv A outer s H E) (defBody st) t ∧ t { nx := fun _ H' => Q .non H', rt := Q } (start N vs) H) : DefG P w K mg base (k + 1) x ps sp := by
  obtain ⟨f, fd, G, hm, b⟩ := F.ex
  refine ⟨f, fd, ⟨len, ?_⟩, hm, G.kp, b⟩
  obtain ⟨oc, od, kV, doc, pm, an, cdv, ct, osl, rfl, look, code⟩ := G.ex
  intro A outer s H args us vs Q E room gd env bd rel wish
  have same := len _ _ _ _ wish
  have stay := fun (b : Addr) (o : Obj) (e : base.get? b = some o) => (env.bs b o e).1
  have kin := env.mod.kin.keeps stay
  have free := env.mod.nolimit.keeps stay
  refine codeAny_call_function room.depth (kin _ _ look) rfl S.co S.gen rfl (PySem.W.codeRec_of kin code) (bd _ _ _ _ ?_)
  refine wpAny_newFunctionEnv_cells S.kind (fun y hy => ?_) fun env1 same1 s1 news => ?_
  · obtain ⟨n, v⟩ := y
    refine (S.par n (List.of_mem_zip hy).1).imp id fun q => ?_
    exact ⟨q, PySem.W.cellsFrom_some _ _ _ (.inl q)⟩
  · subst same1
    refine ⟨free.keeps news.toInCall.keep, codeAny_func ?_⟩
    obtain ⟨t, ht, here⟩ := hb f cdv A outer s H vs Q E (room.deeper _) gd wish
    have J0 := inv_start (CX := L2.CX P w) (E := E) (N := N) (P := P) (w := w) (K := K) (mg := mg) (base := base) S room.hd env same rel news
    refine wpAny_mono (ht.run [] s1 (start N vs) H _ J0 here) (fun fl s' way => ?_) fun _ _ z => z
    cases fl with
    | ret u => exact let ⟨v, _, H', J, rv, q⟩ := way; ⟨v, H', J.os, J.bare, J.base, J.hok, rv, q⟩
    | next => exact let ⟨_, H', J, q⟩ := way; ⟨V.non, H', J.os, J.bare, J.base, J.hok, rfl, q⟩
    | brk => exact let ⟨_, _, _, q⟩ := way; False.elim q
    | cont => exact let ⟨_, _, _, q⟩ := way; False.elim q
end
section
variable {X : Cx} {k : Nat} {x : Str} {ps : List Str} {sp : Sp} {e : Expr} {es : List Expr} {t : TA} {p pos : Pos} {E : L2.St → XK}
theorem pe_fnG (D : DefG X.prog X.w X.K X.mg X.base k x ps sp) (hx : ∀ σ, PassesAt (L2.CX X.prog X.w) X σ (E σ)) (hr : Room k X.A) (gd : X.A.guards = some []) (hg : Gl X x) (ha : PA X (e :: es) t) (hdb : (x == ("__debug__" : Str)) = false := by decide)
    (he : starEach (e :: es) X.env = (false, eval e X.env) :: starEach es X.env := by rfl) (hpl : (backTo pos (starEach es X.env)).any (·.1) = false := by rfl) : PE X (.Call (.Name x p) (e :: es) [] pos) (tCallSD sp [] E t) := by
  obtain ⟨f, fd, F, hm, hk, hb⟩ := D.ex
  refine ⟨fun pins s σ H Q I h => wpAny_Call_Name_kw (ld_glob I hg hm ?_ hdb)⟩
  refine PySem.W.callWith_K (h₀ := X.base) I.ok.mod.kin hk (thn (ha.run pos pins s σ H _ I h) fun us s1 ⟨vs, H1, I1, r, q⟩ => ⟨I1.kIn, ?_⟩) he hpl
  have q : sp vs H1 Q (E σ) := by have := q; dsimp only at this; rwa [List.append_nil] at this
  have same : us.length = ps.length := by rw [← r.length]; exact F.len _ _ _ _ q
  refine wpAny_call (codeAny_mono (F.run X.A X.stack s1 H1 ⟨us, []⟩ us vs Q (E σ) hr gd I1.env0 (by have := hb s1 us I1.kIn (by rw [List.append_nil]; exact same); rwa [List.append_nil] at this) r q) fun r' s' end_ => ?_)
  rcases r' with er | fl
  · exact hx σ pins H1 s1 er s' I1 end_
  · cases fl with
    | ret u => exact I1.after end_
    | next => exact False.elim end_
    | brk => exact False.elim end_
    | cont => exact False.elim end_
end
end LB
set_option Elab.async false
set_option linter.all false
set_option autoImplicit false
set_option maxRecDepth 100000
set_option maxHeartbeats 4000000
namespace PD
open PySem PySem.Spec PyProof.Rows L2
/-! ### defs that are called where nothing is being shown -/
section
variable {P : Program} {w : World} {K : PySem.W.Frag} {mg : Str → Option Value} {base : Heap} {W : Wo}
theorem TopFn_okG {x : Str} {st : Stmt} {N ps : List Str} {k : Nat} {ts : TDS} (F : LB.TopFn K mg x st ps) (S : FnScope N ps (defScope st))
    (hbody : ∀ (f : Addr) (cdv : Value) (A : Around) (outer : List PySem.Env) (s : Shared) (H : Hp) (E : XK), Room k (A.deeper (envOfC x (defScope st) s.heap.objs.size f cdv)) → (A.deeper (envOfC x (defScope st) s.heap.objs.size f cdv)).guards = some [] →
      BSs (cxOf (L2.CX P w) P w K mg base N x (defScope st) f cdv A outer s H E) W (fun cls d _ H => E cls d H) (defBody st) ts) : LB.DefG P w K mg base (k + 1) x ps (spD W ps.length (fnD N.length ts)) := by
  refine F.okG S (fun vs H Q E h => ?_) fun f cdv A outer s H vs Q E hr hg h => ⟨_, hbody f cdv A outer s H E hr hg, body_ok h⟩
  obtain ⟨hid, ds, μ, Qd, Xd, hn, r, _⟩ := h
  rw [r.length]
  exact hn
/-! ### a def that gives a new list that goes on to change -/
def Mu.keepR (μ' : Mu) (d : D) (μ : Mu) : Mu := match d with
  | .ptr p => fun b => if (μ b).isSome = true ∨ b = p then μ' b else none
  | _ => μ'.inter μ
theorem Mu.keepR_le {μ' μ : Mu} {d : D} : Le (μ'.keepR d μ) μ' := by
  cases d
  case ptr p =>
    intro b
    unfold Mu.keepR
    dsimp only
    split
    · exact .inr rfl
    · exact .inl rfl
  all_goals exact Mu.inter_le
theorem Mu.keepR_new {μ : Mu} {p : Addr} {m : MO} : (μ.set p m).keepR (.ptr p) μ = μ.set p m := by
  funext b
  unfold Mu.keepR
  dsimp only
  by_cases e : b = p
  · rw [if_pos (.inr e)]
  · rw [Mu.set_ne e]
    cases h : μ b with
    | none =>
      rw [if_neg]
      rintro (z | z)
      · cases z
      · exact e z
    | some m => rw [if_pos (.inl rfl)]
def fnDm (n : Nat) (ts : TDS) : FD := fun ds μ Q Xd => ts { nx := fun _ μ' => Q .non (μ'.inter μ), rt := fun d μ' => Q d (μ'.keepR d μ) } (fun x _ μ' => Xd x (μ'.inter μ)) (startD n ds) μ
theorem body_okm {N : List Str} {ts : TDS} {E : XK} {vs : List V} {H : Hp} {Q : VK} {n : Nat} (h : spD W n (fnDm N.length ts) vs H Q E) : TDs W (fun cls d _ H => E cls d H) ts { nx := fun _ H' => Q .non H', rt := Q } (L2.start N vs) H := by
  obtain ⟨hid, ds, μ, Qd, Xd, hn, r, sr, q, pq, pf⟩ := h
  have cut : ∀ {H' μ'}, St H μ H' μ' → St H μ H' (μ'.inter μ) := fun s => s.trans Mu.inter_le.st
  refine ⟨hid, startD N.length ds, μ, _, _, rel_start r, sr, q, ⟨?_, ?_, fun _ _ _ _ _ _ _ z => z.elim, fun _ _ _ _ _ _ _ z => z.elim⟩, ?_⟩
  · exact fun σ' ρ' H' μ' s' sr' _ q' => pq .non .non H' _ (cut s') (sr'.le Mu.inter_le) .non q'
  · exact fun v d H' μ' s' sr' r' q' => pq v d H' _ (s'.trans Mu.keepR_le.st) (sr'.le Mu.keepR_le) (r'.mono Mu.keepR_le.st.ok) q'
  · intro x cls dd σ' ρ' H' μ' s' sr' _ xr q'
    refine pf x cls dd H' _ (cut s') (sr'.le Mu.inter_le) ⟨xr.1, ?_⟩ q'
    rcases xr.2 with z | ⟨a, fs, e1, e2, i, n, e3⟩
    · exact .inl z
    · exact .inr ⟨a, fs, e1, e2, Mu.inter_le.im i, n, e3.mono Mu.inter_le.st.ok⟩
theorem TopFn_okDm {x : Str} {st : Stmt} {N ps : List Str} {k : Nat} {ts : TDS} (F : LB.TopFn K mg x st ps) (S : FnScope N ps (defScope st))
    (hbody : ∀ (f : Addr) (cdv : Value) (A : Around) (outer : List PySem.Env) (s : Shared) (H : Hp) (E : XK), Room k (A.deeper (envOfC x (defScope st) s.heap.objs.size f cdv)) →
      BSs (cxOf (L2.CX P w) P w K mg base N x (defScope st) f cdv A outer s H E) W (fun cls d _ H => E cls d H) (defBody st) ts) : LB.DefX P w K mg base (k + 1) x ps [] (spD W ps.length (fnDm N.length ts)) := by
  refine F.okX S (fun vs H Q E h => ?_) fun f cdv A outer s H vs Q E hr h => ⟨_, hbody f cdv A outer s H E hr, body_okm h⟩
  obtain ⟨hid, ds, μ, Qd, Xd, hn, r, _⟩ := h
  rw [r.length]
  exact hn
end
section
variable {X : Cx} {W : Wo} {Wk : WX} {k n : Nat} {x : Str} {ps : List Str} {F : FD} {e : Expr} {es : List Expr} {ta : TDA} {p pos : Pos} {C0 : Str}
theorem fnG_td {σ : L2.St} {H : Hp} {Q : VK} (h : TD W Wk (eCall n F [] ta) σ H Q) : tCallSD (spD W n F) [] (WE Wk) (TDa W Wk ta) σ H Q := by
  obtain ⟨hid, ρ, μ, Xd, Qd, rel, sr, q, pq, px⟩ := h
  refine ⟨hid, ρ, μ, Xd, _, rel, sr, q, fun vs ds H1 μ1 s1 sr1 r1 q1 => ⟨hid, ds ++ [], μ1, Qd, _, q1.1, r1.append .nil, sr1, q1.2, pq.st s1, fun y cls dd H' μ' s' sr' xr q' => px y cls dd H' μ' (s1.trans s') sr' xr q'⟩, px⟩
theorem be_fnG (D : LB.DefG X.prog X.w X.K X.mg X.base k x ps (spD W n F)) (tk : Takes X Wk) (hr : Room k X.A) (gd : X.A.guards = some []) (hg : Gl X x) (ha : BA X W Wk (e :: es) ta) (hdb : (x == ("__debug__" : Str)) = false := by decide)
    (he : starEach (e :: es) X.env = (false, eval e X.env) :: starEach es X.env := by rfl) (hpl : (backTo pos (starEach es X.env)).any (·.1) = false := by rfl) : BE X W Wk (.Call (.Name x p) (e :: es) [] pos) (eCall n F [] ta) :=
  PE.weak (LB.pe_fnG (E := WE Wk) D (fun σ => passAt tk σ) hr gd hg ha hdb he hpl) fun _ _ _ h => fnG_td h
theorem be_fnGE (D : LB.DefG X.prog X.w X.K X.mg X.base k x ps (spD W n F)) (hr : Room k X.A) (gd : X.A.guards = some []) (hg : Gl X x) (ha : BA X W WF (e :: es) ta) (hdb : (x == ("__debug__" : Str)) = false := by decide)
    (he : starEach (e :: es) X.env = (false, eval e X.env) :: starEach es X.env := by rfl) (hpl : (backTo pos (starEach es X.env)).any (·.1) = false := by rfl) : BE X W WF (.Call (.Name x p) (e :: es) [] pos) (eCall n F [] ta) :=
  PE.weak (LB.pe_fnG (E := WE WF) D takes_none hr gd hg ha hdb he hpl) fun _ _ _ h => fnG_td h
/-! ### str of other data -/
def cStrG : CD := fun ds μ Q => match ds with
  | [.str a] => Q (.str a) μ
  | [d] => (match pyD μ d with
    | some x => x.showable = true ∧ x.depth ≤ 60 ∧ x.shown.length ≤ sizeLine ∧ Q (.str x.shown) μ
    | none => False)
  | _ => False
theorem cd_strG (C : TW X.K X.w W) (hg : X.A.guards = some []) (hu : X.A.units + 64 < cLine) : CallR X (.type "str") (rCD W cStrG) := by
  intro pins s σ H xs us Q I rv ⟨hid, μ, ds, Qd, sr, r, h, pq⟩
  unfold cStrG at h
  split at h
  · cases r with
    | cons r1 r =>
      cases r
      cases r1
      exact SkE.call_str_str pins s σ H _ us Q I rv ⟨_, rfl, pq _ _ H μ .refl sr (.str _) h⟩
  · rename_i d _
    split at h
    · rename_i x hx
      obtain ⟨h1, h2, h3, h⟩ := h
      cases r with
      | cons r1 r =>
        cases r
        obtain ⟨u, eu, rv1⟩ := vals1 rv
        subst eu
        have dp := dp_of sr hx r1
        rw [← C.hK] at dp
        have no := noDict_py hx
        have fin : ∀ (h' : Heap) (u : Tok) (tk : Nat), (∀ b o, s.heap.get? b = some o → h'.get? b = some o) → EP X pins σ Q (.str x.shown u) { s with heap := h', toks := tk } := fun h' u tk k => ⟨.str _, H, I.kept k, ⟨u, rfl⟩, pq _ _ H μ .refl sr (.str _) h⟩
        obtain ⟨as, rd⟩ := dp.reads I _ _ _ rv1
        cases rd with
        | none =>
          have e : PyData.shown .none = "None" := by simp only [PyData.shown]
          rw [e] at fin
          exact P.str_of_none (fin s.heap s.toks (s.toks + 1) fun _ _ z => z)
        | bool b =>
          have e : PyData.shown (.bool b) = if b then Str.ofString "True" else Str.ofString "False" := by simp only [PyData.shown]
          rw [e] at fin
          exact P.str_of_bool (fin s.heap s.toks (s.toks + 1) fun _ _ z => z)
        | int i t =>
          have e : PyData.shown (.int i) = toString i := by simp only [PyData.shown]
          simp only [PyData.showable] at h1
          cases dp
          rw [e] at h
          exact call_str_int pins s σ H _ _ Q I rv ⟨i, rfl, of_decide_eq_true h1, pq _ _ H μ .refl sr (.str _) h⟩
        | str z t =>
          cases dp
          cases r1
          rename_i nz
          exact absurd rfl (nz _)
        | list a b c e => exact str_of_reads (.list a b c e) h1 (fun z => by rw [no] at z; cases z) hg (by omega) (fun _ _ z => z) fin h3
        | tuple a b c e => exact str_of_reads (.tuple a b c e) h1 (fun z => by rw [no] at z; cases z) hg (by omega) (fun _ _ z => z) fin h3
        | dict _ _ _ _ _ => simp only [PyData.hasDict] at no; cases no
    · exact h.elim
  · exact h.elim
/-! ### own == something of a built-in type -/
def oEqX (C : Str) (F : FD) : OD := fun d e μ Q => match insOf d μ, tyI e μ with
  | some (C1, _), some (.ty T) => C1 = C ∧ T ∈ btys ∧ F [d, e] μ (fun r μ' => match r with | .bl b => Q (.bl b) μ' | _ => False) xN
  | _, _ => False
def rEqX (K : PySem.W.Frag) (C : Addr) (sp : Sp) : R2 := fun x y H Q => ∃ a dx fs T, x = .ref a ∧ H a = some (.ins C dx fs) ∧ TyX K H y (.type T) ∧ PySem.W.notFirst K C (.type T) = true ∧ sp [.ref a, y] H (fun v H' => ∃ r, v = .bl r ∧ Q (.bl r) H') E0
theorem op_eqX {C : Addr} {sp : Sp} (D : LB.MethOk X.prog X.w X.K X.mg X.base k C "__eq__" ps sp) (hr : Room k X.A) : OpR X (compareOp .Eq) (rEqX X.K C sp) := by
  intro pins s σ H x y v u Q I rx ry ⟨a, dx, fs, T, ex, ha, ty, nf, q⟩
  subst ex
  obtain ⟨f, fd, F, hm, hi, hk, hb⟩ := D.ex
  cases (show v = Value.ref a from rx)
  obtain ⟨mA, J, _⟩ := ins_get I.hok ha
  obtain ⟨od, J, _⟩ := J.look
  obtain ⟨m', hF⟩ := I.fr
  obtain ⟨Pr, Z, pr, _⟩ := kit_of I ry ty
  show wpAny (model X.prog X.w) X.A (richCompare .Eq (.ref a) u) _ _ _
  refine PySem.W.cmp_K (op := .Eq) (tb := .type T) hr.units0 hF I.ok.mod.kin J (Z.ty _ _ I.kIn pr) nf hm hi ?_
  refine wpAny_mono (LB.run_sub (vs := [V.ref a, y]) F ⟨hr, rfl⟩ hb I (.cons rfl (.cons ry .nil)) q) (fun w s' z => ?_) fun _ _ z => z
  obtain ⟨x, H', I', rx', r, ex, q⟩ := z
  subst ex
  cases rx'
  exact ⟨.bl r, H', I', rfl, q⟩
/-- what the text says: built-in types stand not under the class -/
def NotFirst (K : PySem.W.Frag) (C : Addr) : Prop := ∀ T ∈ btys, PySem.W.notFirst K C (.type T) = true
theorem od_eqX (CW : TW X.K X.w W) (nf : NotFirst X.K (W.cl C0)) (D : MethX X.prog X.w X.K X.mg X.base k (W.cl C0) "__eq__" ps [] (spD W 2 F)) (hr : Room k X.A) : OpR X (compareOp .Eq) (rD W (oEqX C0 F)) :=
  OpR.weak (op_eqX D.ok0 hr) fun x y H Q ⟨hid, μ, d, e, Qd, sr, rx, ry, h, pq⟩ => by
    unfold oEqX at h
    split at h
    · rename_i C1 g1 T e1 e2
      obtain ⟨rfl, hT, h⟩ := h
      obtain ⟨a, dx, fs, rfl, ha, _⟩ := insOf_ok e1 sr rx
      refine ⟨a, dx, fs, T, rfl, ha, tyI_ok CW sr ry e2, nf T hT, hid, [d, e], μ, _, _, rfl, .cons rx (.cons ry .nil), sr, h, fun v z H' μ' s' sr' r' q' => ?_, fun y cls dd H' μ' s' sr' xr q' => q'.elim⟩
      dsimp only at q'
      split at q'
      · cases r'
        exact ⟨_, rfl, pq _ _ H' μ' s' sr' (.bl _) q'⟩
      · exact q'.elim
    · exact h.elim
end
end PD
set_option Elab.async false
set_option linter.all false
set_option autoImplicit false
set_option maxRecDepth 100000
set_option maxHeartbeats 4000000
namespace LB
open PySem PySem.Spec PyProof.Rows L2
/-! ### how a class of exceptions makes its instances -/
structure CallsX (K : PySem.W.Frag) (C : Addr) : Prop where
  run : ∀ (P : Program) (w : World) (A : Around) (R : Result → Shared → Prop) (h : Heap) (g : Array GenState) (d : Drawn) (t : Nat) (os : OsState) (rest : List Value) (fI : Addr), K.In h →
    PySem.W.Looks (model P w) h (typeLookup (.ref C) "__init__") (some (.ref fI)) → (∀ self, PySem.W.Looks (model P w) h (bindSpecial (.ref fI) self) (.ref fI, [self])) → rest.length ≤ sizeLine →
    codeAny (model P w) (A.under (.builtin "type.__call__" ⟨.ref C :: rest, []⟩)) (.call (.ref fI) ⟨.ref (h.objs.size + 1) :: rest, []⟩) (PySem.W.InitBack (h.objs.size + 1) R) ⟨(h.push (PySem.W.kdv_tup rest)).push (PySem.HandSPX.excO C h.objs.size), g, d, t, os⟩ →
    codeAny (model P w) A (.call (.ref C) ⟨rest, []⟩) R ⟨h, g, d, t, os⟩
theorem callsX_oex {K : PySem.W.Frag} {C : Addr} (T : OexC K C) : CallsX K C := ⟨fun P w A R h g d t os rest fI X hi hb hr hq => by
  obtain ⟨nm, q, N, bs, bm, sn, sub, ab, col, dd, k0, k1, k2, k3, k5, hC, hbm⟩ := T.cls
  exact PySem.HandSPX.call_own F.excBase_ValueError (fun Y => PySem.HandSPX.refsVE_contains Y bm hbm) (X _ _ hC) hi hb hr hq⟩
/-! ### a class over KeyError -/
abbrev keTail : List Value := [.type "KeyError", .type "LookupError", .type "Exception", .type "BaseException", .type "object"]
structure OexK (K : PySem.W.Frag) (C : Addr) : Prop where
  cls : ∃ nm q N bs sn sub ab col dd k0 k1 k2 k3 k5, K.lookup C = some (excClassObj nm q C N bs keTail true sn sub ab col dd k0 k1 k2 k3 k5 "LookupError.__new__")
  sa : PySem.W.findIn K (.ref C) "__setattr__" = some (some (.builtin "object.__setattr__"))
section
variable {P : Program} {w : World} {A : Around} {E : Value → Shared → Prop} {R : Result → Shared → Prop} {h : Heap} {g : Array GenState} {d : Drawn} {t : Nat} {os : OsState}
variable {nm q : Str} {C N : Addr} {bs : List Value} {hdct : Bool} {sn : List Str} {sub : List Value} {ab : Bool} {col : Option Bool} {dd : Option Addr} {k0 k1 k2 k3 k5 : Option Value}
theorem key_new {rest : List Value} (hC : h.get? C = some (excClassObj nm q C N bs keTail hdct sn sub ab col dd k0 k1 k2 k3 k5 "LookupError.__new__"))
    (hq : R (.ok (.ret (.ref (h.objs.size + 1)))) ⟨(h.push (PySem.W.kdv_tup rest)).push (PySem.HandSPX.excO C h.objs.size), g, d, t, os⟩) (hrest : rest.length ≤ sizeLine) :
    codeAny (model P w) A (.builtin "LookupError.__new__" ⟨.ref C :: rest, []⟩) R ⟨h, g, d, t, os⟩ := by
  have e0 := F.excBase_LookupError.ends
  have c1 : (Value.ref C :: keTail).contains (.type "LookupError") = true := by rw [List.contains_cons, show keTail.contains (.type "LookupError") = true by decide +kernel, Bool.or_true]
  have c2 : (Value.ref C :: keTail).contains (.type "AttributeError") = false := by rw [List.contains_cons, show keTail.contains (.type "AttributeError") = false by decide +kernel]; rfl
  have c3 : (Value.ref C :: keTail).contains (.type "NameError") = false := by rw [List.contains_cons, show keTail.contains (.type "NameError") = false by decide +kernel]; rfl
  apply codeAny_builtinAt F.excBase_LookupError.entry
  unfold Builtin.«BaseException.__new__»
  apply PySem.wpAt_bind
  show PySem.wpAt _ _ _ (stack >>= _) _ _ _
  refine PySem.wpAt_bind (PySem.wpAt_stack fun _ _ => PySem.wpAt_of_wpAny ?_)
  wp_walk
  apply PySem.wpAt_of_wpAny
  rw [F.excBase_LookupError.owner]
  repeat (first | with_reducible refine wpAny_madeHere_exc F.excBase_LookupError.canon hC ?_ | with_reducible refine wpAny_loadPart_at hC ?_ | (with_reducible refine wpAny_isSubtype_exc hC ?_; first | rw [c1] | rw [c2] | rw [c3]) | wp_step)
  show R _ _
  rw [Heap.size_push]
  exact hq
theorem key_type_call {rest : List Value} {fI : Addr} {Q : Fin → Shared → Prop} (hC : h.get? C = some (excClassObj nm q C N bs keTail hdct sn sub ab col dd k0 k1 k2 k3 k5 "LookupError.__new__"))
    (hi : PySem.W.Looks (model P w) h (typeLookup (.ref C) "__init__") (some (.ref fI))) (hb : ∀ self, PySem.W.Looks (model P w) h (bindSpecial (.ref fI) self) (.ref fI, [self])) (hrest : rest.length ≤ sizeLine)
    (hq : codeAny (model P w) A (.call (.ref fI) ⟨.ref (h.objs.size + 1) :: rest, []⟩) (fun r s' => match r with | .ok (.ret v) => v = .none ∧ Q (.done (.ret (.ref (h.objs.size + 1)))) s' | .ok _ => False | .error e => E e s')
      ⟨(h.push (PySem.W.kdv_tup rest)).push (PySem.HandSPX.excO C h.objs.size), g, d, t, os⟩) : wpAny (model P w) A (Builtin.«type.__call__» ⟨.ref C :: rest, []⟩) Q E ⟨h, g, d, t, os⟩ := by
  repeat (first | with_reducible refine wpAny_loadPart_at hC ?_ | with_reducible refine wpAny_madeBy_exc hC ?_ | wp_step)
  apply codeAny_call_builtin_code (Code.quiet_builtin _ F.excBase_LookupError.quiet)
  refine wpAny_check_new_subU F.excBase_LookupError (bmB := keTail) (by decide +kernel) .base hC ?_
  refine key_new hC ?_ hrest
  show wpAny _ _ _ _ _ _
  have k : ∀ b o, h.get? b = some o → ((h.push (PySem.W.kdv_tup rest)).push (PySem.HandSPX.excO C h.objs.size)).get? b = some o := fun b o z => Heap.get?_push_of_some _ (Heap.get?_push_of_some _ z)
  have hC1 := k _ _ hC
  have hg1 : ((h.push (PySem.W.kdv_tup rest)).push (PySem.HandSPX.excO C h.objs.size)).get? (h.objs.size + 1) = some (PySem.HandSPX.excO C h.objs.size) := by heap_get
  have c4 : (Value.ref C :: keTail).contains (.ref C) = true := by simp
  have j1 := hi.keeps k
  have j2 := (hb (.ref (h.objs.size + 1))).keeps k
  unfold isInstance
  repeat (first | with_reducible refine wpAny_loadPart_at hg1 ?_ | (with_reducible refine wpAny_isSubtype_exc hC1 ?_; rw [c4]) | wp_step)
  show wpAny _ _ (typeLookup (.ref C) _) _ _ _
  apply j1.at
  refine wpAny_holding (wpAny_bind (j2.at ?_))
  refine wpAny_bind (wpAny_call (codeAny_mono hq fun r s1 z => ?_))
  rcases r with e | (v | _ | _ | _) <;> try (first | exact z | exact z.elim)
  obtain ⟨rfl, z⟩ := z
  first | exact wpAny_pure (wpAny_pure z) | (wp_walk; done) | (wp_walk; exact z)
end
theorem callsX_key {K : PySem.W.Frag} {C : Addr} (T : OexK K C) : CallsX K C := ⟨fun P w A R h g d t os rest fI X hi hb hr hq => by
  obtain ⟨nm, q, N, bs, sn, sub, ab, col, dd, k0, k1, k2, k3, k5, hK⟩ := T.cls
  have hC := X _ _ hK
  have f1 := PySem.tc_lookup
  have f2 := PySem.tc_bind (.ref C)
  have f3 : (⟨h, g, d, t, os⟩ : Shared).TypeIs (.ref C) "type" := ⟨_, hC, rfl⟩
  apply codeAny_of_tree
  show wpAny _ _ (callAny (.ref C) _) _ _ _
  repeat (any_goals (first | assumption | with_reducible refine wpAny_loadPart_at hC ?_ | wp_step))
  refine ⟨rfl, codeAny_call_builtin_at (Code.quiet_builtin _ (by decide +kernel)) entry_typeCall (wpAny_check_type_call_sub hC (key_type_call hC hi hb hr (codeAny_mono hq fun r s1 z => ?_)))⟩
  rcases r with e | (v | _ | _ | _) <;> exact z⟩
end LB
set_option Elab.async false
set_option linter.all false
set_option autoImplicit false
set_option maxRecDepth 100000
set_option maxHeartbeats 4000000
namespace LB
open PySem PySem.Spec PyProof.Rows L2
/-! ### C(..) as a value -/
def tMkV (C : Addr) (sp : Sp) (dvs : List V) (ta : TA) : TE := fun σ H Q => ta σ H fun vs H1 => vs.length ≤ 1000 ∧ ∀ a, H1 a = none → sp (.ref a :: (vs ++ dvs)) (upd H1 a (exo a C none)) (fun v H2 => v = .non ∧ Q (.ref a) H2) E0
section
variable {X : Cx} {x : Str} {C fI : Addr} {k : Nat} {fd : FuncData} {ps : List Str} {sp : Sp} {ds : List Value} {dvs : List V} {e : Expr} {es : List Expr} {ta : TA} {p pos : Pos}
theorem run_mkV {pins : List (Addr × Obj)} {σ : L2.St} {H : Hp} {s : Shared} {Q : VK} {us : List Value} {vs : List V} (T : CallsX X.K C) (iC : PySem.W.findIn X.K (.ref C) "__init__" = some (some (.ref fI))) (tI : PySem.W.typeIn X.K (.ref fI) = some (.type "function"))
    (F1 : FnOk X.prog X.w X.K X.mg X.base CX0 k fI fd ps sp) (hr : Room (k + 1) X.A) (hb : Binds X.K fd ps ds) (hd : Vals dvs ds) (I : Inv X pins σ H s) (r : Vals vs us) (hz : vs.length ≤ 1000)
    (h : ∀ a, H a = none → sp (.ref a :: (vs ++ dvs)) (upd H a (exo a C none)) (fun v H2 => v = .non ∧ Q (.ref a) H2) E0) : wpAny (model X.prog X.w) X.A (call (.ref C) us) (EP X pins σ Q) X.xe s := by
  obtain ⟨hp, g, dr, tk, os⟩ := s
  have hsz : hp.objs.size ≤ hp.objs.size + 1 := Nat.le_succ _
  have hq := h (hp.objs.size + 1) (I.hok.fresh hsz)
  have kk : ∀ b o, hp.get? b = some o → ((hp.push (PySem.W.kdv_tup us)).push (PySem.HandSPX.excO C hp.objs.size)).get? b = some o := fun b o z => Heap.get?_push_of_some _ (Heap.get?_push_of_some _ z)
  have hg1 : ((hp.push (PySem.W.kdv_tup us)).push (PySem.HandSPX.excO C hp.objs.size)).get? (hp.objs.size + 1) = some (PySem.HandSPX.excO C hp.objs.size) := by heap_get
  have I2 : Inv X pins σ (upd H (hp.objs.size + 1) (exo (hp.objs.size + 1) C none)) ⟨(hp.push (PySem.W.kdv_tup us)).push (PySem.HandSPX.excO C hp.objs.size), g, dr, tk, os⟩ :=
    I.laid (t' := tk) (a := hp.objs.size + 1) (o := exo (hp.objs.size + 1) C none) (h' := (hp.push (PySem.W.kdv_tup us)).push (PySem.HandSPX.excO C hp.objs.size)) kk hsz (exo_ok hg1)
  have r2 : Vals (V.ref (hp.objs.size + 1) :: (vs ++ dvs)) (Value.ref (hp.objs.size + 1) :: (us ++ ds)) := .cons rfl (r.append hd)
  have hl : (Value.ref (hp.objs.size + 1) :: us ++ ds).length = ps.length := r2.length.symm.trans (F1.len _ _ _ _ hq)
  have hus : us.length ≤ sizeLine := by
    rw [← Paired.length r, sizeLine_eq]
    omega
  have run := F1.run _ X.stack _ _ ⟨Value.ref (hp.objs.size + 1) :: us, []⟩ (Value.ref (hp.objs.size + 1) :: (us ++ ds)) _ _ E0 (hr.make C us []) (I2.env0.make C us []) (hb _ (Value.ref (hp.objs.size + 1) :: us) I2.kIn hl) r2 hq
  refine wpAny_call (T.run _ _ _ _ _ _ _ _ _ us fI I.kIn (PySem.W.looks_findIn I.kIn iC) (fun self => PySem.W.bind_fn I.kIn self tI) hus (codeAny_mono run fun r s1 q1 => ?_))
  cases r with
  | error er => exact pass0 pins σ _ _ er s1 I2 q1
  | ok fl =>
    cases fl with
    | ret u =>
      obtain ⟨v, H2, I3, rv, ev, q3⟩ := I2.after q1
      subst ev
      exact ⟨rv, V.ref (hp.objs.size + 1), H2, I3, rfl, q3⟩
    | next => exact q1.elim
    | brk => exact q1.elim
    | cont => exact q1.elim
theorem pe_mkV (T : CallsX X.K C) (kC : PySem.W.keepIn X.K (.ref C) = true) (hm : X.mg x = some (.ref C)) (D : MethOk X.prog X.w X.K X.mg X.base k C "__init__" ps sp) (hr : Room (k + 1) X.A) (hg : Gl X x) (ha : PA X (e :: es) ta) (hdb : (x == ("__debug__" : Str)) = false := by decide)
    (he : starEach (e :: es) X.env = (false, eval e X.env) :: starEach es X.env := by rfl) (hpl : (backTo pos (starEach es X.env)).any (·.1) = false := by rfl) : PE X (.Call (.Name x p) (e :: es) [] pos) (tMkV C sp [] ta) := by
  obtain ⟨f, fd, F, iC, hi, hk, hb⟩ := D.ex
  refine ⟨fun pins s σ H Q I h => wpAny_Call_Name_kw (ld_glob I hg hm (PySem.W.callWith_K (h₀ := X.base) I.ok.mod.kin kC (thn (ha.run pos pins s σ H _ I h) fun us s1 ⟨vs, H1, I1, r, hz, q⟩ => ⟨I1.kIn, ?_⟩) he hpl) hdb)⟩
  exact run_mkV T iC (by simpa [PySem.W.isFn] using hi) F hr hb .nil I1 r hz q
theorem pe_mkV0 (T : CallsX X.K C) (kC : PySem.W.keepIn X.K (.ref C) = true) (hm : X.mg x = some (.ref C)) (D : MethOk X.prog X.w X.K X.mg X.base k C "__init__" ps sp) (hr : Room (k + 1) X.A) (hg : Gl X x) (hdb : (x == ("__debug__" : Str)) = false := by decide) : PE X (.Call (.Name x p) [] [] pos) (tMkV C sp [] tNil) := by
  obtain ⟨f, fd, F, iC, hi, hk, hb⟩ := D.ex
  refine ⟨fun pins s σ H Q I h => wpAny_Call_Name_kw (ld_glob I hg hm (PySem.W.callWith_K0 I.kIn kC (run_mkV (us := []) T iC (by simpa [PySem.W.isFn] using hi) F hr hb .nil I .nil h.1 h.2)) hdb)⟩
/-- C() of a class whose __init__ is ValueError's -/
def tMkB (C : Addr) : TE := fun _ H Q => ∀ a, H a = none → Q (.ref a) (upd H a (exo a C none))
theorem pe_mkB0 (T : OexC X.K C) (hi : PySem.W.findIn X.K (.ref C) "__init__" = some (some (.builtin "ValueError.__init__"))) (hm : X.mg x = some (.ref C)) (hg : Gl X x) (hdb : (x == ("__debug__" : Str)) = false := by decide) : PE X (.Call (.Name x p) [] [] pos) (tMkB C) := by
  refine ⟨fun pins s σ H Q I h => wpAny_Call_Name_kw (ld_glob I hg hm (PySem.W.callWith_K0 I.kIn T.kC ?_) hdb)⟩
  obtain ⟨nm, q, N, bs, bm, sn, sub, ab, col, dd, k0, k1, k2, k3, k5, hC, hbm⟩ := T.cls
  have X0 := I.kIn
  obtain ⟨hp, g, dr, tk, os⟩ := s
  refine PySem.W.call_B F.excBase_ValueError (fun Y => PySem.HandSPX.refsVE_contains Y bm hbm) (X0 _ _ hC) (PySem.W.looks_findIn X0 hi) (by rw [sizeLine_eq]; decide) fun h' k he ht => ?_
  have hsz : hp.objs.size ≤ hp.objs.size + 1 := Nat.le_succ _
  exact ⟨.ref (hp.objs.size + 1), _, I.laid (t' := tk) (a := hp.objs.size + 1) (o := exo (hp.objs.size + 1) C none) (h' := h') k hsz (exo_ok he), rfl, h _ (I.hok.fresh hsz)⟩
end
end LB
set_option Elab.async false
set_option linter.all false
set_option autoImplicit false
set_option maxRecDepth 100000
set_option maxHeartbeats 4000000
namespace PD
open PySem PySem.Spec PyProof.Rows L2
/-- the world of a text: its classes by name (own classes with the names of their attributes), its written dicts -/
def mkW (K : PySem.W.Frag) (cls : List (Str × Addr)) (own : List (Str × List Str)) (kds : List (Addr × List (Str × D))) : Wo where
  K := K
  cl := fun n => (cls.lookup n).getD 0
  kd := fun a kvs => (a, kvs) ∈ kds
  cok := fun n => n ∈ own.map (·.1)
  fok := fun C f => ∃ fs, (C, fs) ∈ own ∧ f ∈ fs
/-- what the text tells of a written dict -/
structure KdOk (K : PySem.W.Frag) (w : World) (W : Wo) (a : Addr) (kvs : List (Str × D)) : Prop where
  at_ : ∃ es n, KDict K w a es n
  has : ∀ z d, kvs.lookup z = some d → ∃ u v, PySem.W.nsIn K a z = some (some u) ∧ RelV v u ∧ ∀ hid H μ, Rep W hid H μ v d
  not : ∀ z, kvs.lookup z = none → PySem.W.nsIn K a z = some none
structure OwnOk (K : PySem.W.Frag) (a : Addr) (fs : List Str) : Prop where
  cl : Cls K a
  isi : LB.IsiCls K a
  fl : ∀ f ∈ fs, NoAttr K a f
theorem tw_mk {K : PySem.W.Frag} {w : World} {cls : List (Str × Addr)} {own : List (Str × List Str)} {kds : List (Addr × List (Str × D))}
    (h1 : ∀ p ∈ own, OwnOk K ((mkW K cls own kds).cl p.1) p.2) (h2 : ∀ p ∈ kds, KdOk K w (mkW K cls own kds) p.1 p.2) : TW K w (mkW K cls own kds) := by
  refine ⟨rfl, fun C hC => ?_, fun C f hf => ?_, fun a kvs hk => ?_⟩
  · obtain ⟨p, hp, rfl⟩ := List.mem_map.mp hC
    exact ⟨(h1 p hp).cl, (h1 p hp).isi⟩
  · obtain ⟨fs, hp, hf⟩ := hf
    exact (h1 _ hp).fl f hf
  · have q := h2 _ hk
    exact ⟨q.at_, q.has, q.not⟩
theorem g_int {W : Wo} {mg : Str → Option Value} {x : Str} {i : Int} (h : ∃ t, mg x = some (.int i t)) : GTxt W mg x (.int i) := by
  obtain ⟨t, h⟩ := h
  exact ⟨_, .int i, h, ⟨t, rfl⟩, fun _ _ _ => .int i⟩
theorem g_str {W : Wo} {mg : Str → Option Value} {x z : Str} (h : ∃ t, mg x = some (.str z t)) : GTxt W mg x (.str z) := by
  obtain ⟨t, h⟩ := h
  exact ⟨_, .str z, h, ⟨t, rfl⟩, fun _ _ _ => .str z⟩
theorem g_cls {W : Wo} {mg : Str → Option Value} {x : Str} (h : mg x = some (.ref (W.cl x))) : GTxt W mg x (.cls x) := ⟨_, .ref (W.cl x), h, rfl, fun _ _ _ => .cls x⟩
theorem g_dct {W : Wo} {mg : Str → Option Value} {x : Str} {a : Addr} {kvs : List (Str × D)} (h : mg x = some (.ref a)) (k : W.kd a kvs) : GTxt W mg x (.dct kvs) := ⟨_, .ref a, h, rfl, fun _ _ _ => .dct k⟩
end PD
set_option Elab.async false
set_option linter.all false
set_option autoImplicit false
set_option maxRecDepth 100000
set_option maxHeartbeats 4000000
namespace PD
open PySem PySem.Spec PyProof.Rows L2
/-- a class that isinstance may be asked about -/
def KCls (K : PySem.W.Frag) (C : Addr) : Prop := ((PySem.W.clsIn K C).isSome && PySem.W.typeIn K (.ref C) == some (.type "type")) = true
theorem tt_ok (K : PySem.W.Frag) : ∀ a ∈ btys, ∀ b ∈ btys, PySem.W.kitOne K (.type a) (.type b) = some (a == b || (a == "bool" && b == "int")) := by
  intro a ha b hb
  simp only [btys, List.mem_cons, List.not_mem_nil, or_false] at ha hb
  rcases ha with rfl | rfl | rfl | rfl | rfl | rfl | rfl <;> rcases hb with rfl | rfl | rfl | rfl | rfl | rfl | rfl <;> kernel_rfl
theorem tc_ok {K : PySem.W.Frag} {C : Addr} (h : KCls K C) : ∀ a ∈ btys, PySem.W.kitOne K (.type a) (.ref C) = some false := by
  intro a ha
  have e : PySem.W.kitOne K (.type a) (.ref C) = PySem.W.subIn K (.type a) (.ref C) := by
    unfold PySem.W.kitOne PySem.W.kitCls
    rw [if_neg (show ¬ ((Value.type a == Value.ref C) = true) from Bool.false_ne_true)]
    exact if_pos h
  rw [e]
  simp only [btys, List.mem_cons, List.not_mem_nil, or_false] at ha
  rcases ha with rfl | rfl | rfl | rfl | rfl | rfl | rfl <;> kernel_rfl
theorem kis_mk {K : PySem.W.Frag} {W : Wo} {pairs : List (Str × Str × Bool)} {types : List (Str × String)} {cl : List Str} (h1 : ∀ p ∈ pairs, PySem.W.kitOne K (.ref (W.cl p.1)) (.ref (W.cl p.2.1)) = some p.2.2)
    (h2 : ∀ p ∈ types, PySem.W.kitOne K (.ref (W.cl p.1)) (.type p.2) = some false) (h3 : ∀ c ∈ cl, KCls K (W.cl c)) : KIs K W (tabOf pairs types cl) := by
  refine ⟨fun t c b h => ?_⟩
  unfold tabOf at h
  split at h
  · split at h
    · rename_i q
      cases h
      exact tt_ok K _ q.1 _ q.2
    · cases h
  · split at h
    · rename_i q
      cases h
      exact tc_ok (h3 _ q.2) _ q.1
    · cases h
  · split at h
    · rename_i q
      cases h
      exact h2 _ q
    · cases h
  · rename_i c e
    cases hf : pairs.find? fun p => p.1 == c && p.2.1 == e with
    | none => rw [hf] at h; cases h
    | some p =>
      rw [hf] at h
      cases h
      have hm := List.mem_of_find?_eq_some hf
      have hp := List.find?_some hf
      rw [Bool.and_eq_true, beq_iff_eq, beq_iff_eq] at hp
      have := h1 p hm
      rw [hp.1, hp.2] at this
      exact this
  · cases h
theorem topCMeth_mk {K : PySem.W.Frag} {C : Addr} {m qual : Str} {st : Stmt} {ps : List Str} {f p : Addr} {mc : Value} {rest : List Value} {oc : Value} {od an : Option Addr} {osl : Array (Option Value)} {kV doc pm cdv ct : Value}
    (hb : ∀ (kV doc pm : Value) (an : Option Addr) (cdv ct : Value) (us : List Value), us.length = ps.length → bindArgs (PySem.W.fnOf m qual (defArgs st) (defBody st) (defScope st) .none kV doc pm an cdv ct) ⟨us, []⟩ = pure (ps.zip us))
    (rd : PySem.W.readsIn K C mc = true) (ga : PySem.W.specialIn K (.ref C) "__getattribute__" = some (some (.builtin "type.__getattribute__"))) (a : PySem.W.findCls K (.ref C) mc m = some (.get (.builtin "classmethod.__get__") (.ref p) .none (.ref C)))
    (rc : PySem.W.recIn K p "classmethod" = some (.ref f :: rest)) (fi : PySem.W.fnIn K f = true) (l : K.lookup f = some ⟨oc, od, .func (PySem.W.fnOf m qual (defArgs st) (defBody st) (defScope st) .none kV doc pm an cdv ct), osl⟩)
    (c : PySem.W.codeIn K cdv qual = true) (k : PySem.W.keepIn K (.ref f) = true) : TopCMeth K C m qual st ps :=
  have F := fun_mk (st := st) l c k
  ⟨f, p, mc, _, F, ⟨rd, ga⟩, ⟨a, ⟨rest, rc⟩, fi⟩, F.binds hb⟩
end PD
set_option Elab.async false
set_option linter.all false
set_option autoImplicit false
set_option maxRecDepth 100000
set_option maxHeartbeats 4000000
namespace LB
open PySem PySem.Spec PyProof.Rows L2
/-! ### the attributes of an exception that is held -/
def tXo (K : PySem.W.Frag) (n : Str) (te : TE) : TE := fun σ H Q => te σ H fun x H1 => ∃ (a C dx : Addr) (fs : List (Str × V)) (v : V), x = .ref a ∧ XfC K C ∧ PySem.W.findIn K (.ref C) n = some none ∧ H1 a = some (exo a C (some dx)) ∧ H1 dx = some (exd dx fs) ∧ fs.lookup n = some v ∧ Q v H1
theorem xo_inst {X : Cx} {pins : List (Addr × Obj)} {σ : L2.St} {H : Hp} {s : Shared} {a C dx : Addr} {fs : List (Str × V)} (I : Inv X pins σ H s) (ha : H a = some (exo a C (some dx))) (hd : H dx = some (exd dx fs)) :
    ∃ (ox od : Obj) (mA : Str → Option Value), PySem.W.InstAt s.heap a ox C (some od) ∧ (∀ n, PySem.W.lookIn n od = some (mA n)) ∧ ∀ f, RelO (fs.lookup f) (mA f) := by
  obtain ⟨t1, ho⟩ := exo_at I.hok ha
  obtain ⟨mA, hns, hr⟩ := exd_at I.hok hd
  obtain ⟨od, hod, hl⟩ := lookIn_ns hns
  exact ⟨_, od, mA, ⟨ho, rfl, rfl, hod⟩, hl, hr⟩
theorem pe_xo {X : Cx} {e : Expr} {te : TE} {pos : Pos} {n : Str} (he : PE X e te) (hb : attributeBase e n X.env (eval e X.env) = eval e X.env := by rfl) : PE X (.Attribute e n pos) (tXo X.K n te) := by
  refine ⟨fun pins s σ H Q I h => attr_of hb (thn (he.run pins s σ H _ I h) fun u s1 hh => ?_)⟩
  obtain ⟨x, H1, I1, rx, a, C, dx, fs, v, ex, T, hno, ha, hd, l, q⟩ := hh
  subst ex
  obtain rfl : u = Value.ref a := rx
  obtain ⟨ox, od, mA, J, hl, hr⟩ := xo_inst I1 ha hd
  obtain ⟨u, hu, ru⟩ := RelO.some_of (v := v) (o := mA n) (by rw [← l]; exact hr n)
  exact HandSPX.exc_get I1.kIn J T.ga T.gg T.exC (PySem.W.findObj_own T.hdC hno rfl (by rw [hl, hu])) (handed_of ru) ⟨v, H1, I1.tok _, ru, q⟩
end LB
namespace PD
open PySem PySem.Spec PyProof.Rows L2
open LB (CallsX)
/-- of a class without fields -/
def spExc0 (C : Addr) : Sp := fun vs H Q _ => ∃ a : Addr, vs = [.ref a] ∧ H a = some (exo a C none) ∧ Q .non H
/-- the class C0 makes exceptions with the fields fs -/
structure MkX (K : PySem.W.Frag) (mg : Str → Option Value) (W : Wo) (C0 : Str) : Prop where
  g : mg C0 = some (.ref (W.cl C0))
  calls : CallsX K (W.cl C0)
  kp : PySem.W.keepIn K (.ref (W.cl C0)) = true
def eMkX (C : Str) (fs : List Str) (ta : TDA) : TDE := fun Xd ρ μ Q => ta Xd ρ μ fun ds μ1 => ds.length = fs.length ∧ Q (.xob C (fs.zip ds).reverse) μ1
section
variable {X : Cx} {W : Wo} {Wk : WX} {k : Nat} {C0 : Str} {ps fs : List Str} {e : Expr} {es : List Expr} {ta : TDA} {p pos pos' : Pos}
theorem be_mkXv (c : MkX X.K X.mg W C0) (D : LB.MethOk X.prog X.w X.K X.mg X.base k (W.cl C0) "__init__" ps (spExcN (W.cl C0) fs)) (hr : Room (k + 1) X.A) (hg : Gl X C0) (ha : BA X W Wk (e :: es) ta) (hl : fs.length ≤ 1000 := by decide)
    (hdb : (C0 == ("__debug__" : Str)) = false := by decide) (he : starEach (e :: es) X.env = (false, eval e X.env) :: starEach es X.env := by rfl) (hpl : (backTo pos (starEach es X.env)).any (·.1) = false := by rfl) :
    BE X W Wk (.Call (.Name C0 p) (e :: es) [] pos) (eMkX C0 fs ta) :=
  PE.weak (LB.pe_mkV c.calls c.kp c.g D hr hg ha hdb he hpl) fun σ H Q ⟨hid, ρ, μ, Xd, Qd, rel, sr, q, pq, px⟩ => by
    refine ⟨hid, ρ, μ, Xd, _, rel, sr, q, fun vs ds H1 μ1 s1 sr1 r1 ⟨hn, q1⟩ => ?_, px⟩
    refine ⟨by rw [r1.length, hn]; exact hl, fun a ha => ⟨a, vs, by rw [List.append_nil], by rw [r1.length, hn], upd_same, fun dx H' h1 h2 h3 h4 h5 => ⟨rfl, ?_⟩⟩⟩
    have hd : H1 dx = none := by
      rw [upd_ne h2] at h1
      exact h1
    have g : ∀ b o, H1 b = some o → H' b = some o := fun b o e => by
      have n1 := ne_of_none e hd
      have n2 := ne_of_none e ha
      rw [h3 b n2 n1, upd_ne n2]
      exact e
    exact pq _ _ H' μ1 (s1.trans (St.ext g)) (sr1.ext g) (.xob h4 (sr1.fresh ha) (sr1.nhid ha) h5 (sr1.fresh hd) (sr1.nhid hd) ((repF_rev (repF_zip r1)).mono (St.ext g).ok)) q1
theorem be_mkXv0 (c : MkX X.K X.mg W C0) (D : LB.MethOk X.prog X.w X.K X.mg X.base k (W.cl C0) "__init__" ps (spExc0 (W.cl C0))) (hr : Room (k + 1) X.A) (hg : Gl X C0) (hdb : (C0 == ("__debug__" : Str)) = false := by decide) :
    BE X W Wk (.Call (.Name C0 p) [] [] pos) (eC (.xob C0 [])) :=
  PE.weak (LB.pe_mkV0 c.calls c.kp c.g D hr hg hdb) fun σ H Q ⟨hid, ρ, μ, Xd, Qd, rel, sr, q, pq, px⟩ => by
    refine ⟨by decide, fun a ha => ⟨a, rfl, upd_same, rfl, ?_⟩⟩
    exact pq _ _ _ μ (St.new ha) (sr.new ha) (.xob0 upd_same (sr.fresh ha) (sr.nhid ha)) q
theorem be_mkXb (T : OexC X.K (W.cl C0)) (hi : PySem.W.findIn X.K (.ref (W.cl C0)) "__init__" = some (some (.builtin "ValueError.__init__"))) (hm : X.mg C0 = some (.ref (W.cl C0))) (hg : Gl X C0) (hdb : (C0 == ("__debug__" : Str)) = false := by decide) :
    BE X W Wk (.Call (.Name C0 p) [] [] pos) (eC (.xob C0 [])) :=
  PE.weak (LB.pe_mkB0 T hi hm hg hdb) fun σ H Q ⟨hid, ρ, μ, Xd, Qd, rel, sr, q, pq, px⟩ => fun a ha => pq _ _ _ μ (St.new ha) (sr.new ha) (.xob0 upd_same (sr.fresh ha) (sr.nhid ha)) q
/-! ### .. read -/
def eXo (fls : List (Str × List Str)) (f : Str) (te : TDE) : TDE := fun Xd ρ μ Q => te Xd ρ μ fun d μ1 => match d with
  | .xob C gs => (match fls.lookup C with | some fs => fs.contains f | none => false) = true ∧ (match gs.lookup f with | some v => Q v μ1 | none => False)
  | _ => False
theorem be_xo {fls : List (Str × List Str)} {f : Str} {te : TDE} (T : XOk X.K W fls) (he : BE X W Wk e te) (hb : attributeBase e f X.env (eval e X.env) = eval e X.env := by rfl) : BE X W Wk (.Attribute e f pos) (eXo fls f te) :=
  PE.weak (LB.pe_xo he hb) fun σ H Q ⟨hid, ρ, μ, Xd, Qd, rel, sr, q, pq, px⟩ => by
    refine ⟨hid, ρ, μ, Xd, _, rel, sr, q, fun v d H1 μ1 s1 sr1 r1 q1 => ?_, px⟩
    dsimp only at q1
    split at q1
    · rename_i C gs
      obtain ⟨h1, q1⟩ := q1
      split at h1
      · rename_i fs hl
        obtain ⟨c, _, no⟩ := T.ok C fs hl
        split at q1
        · rename_i z hz
          cases r1 with
          | xob g1 _ _ g4 _ _ g7 =>
            have ro := lookF_ok (f := f) g7
            rw [hz] at ro
            generalize hll : List.lookup f _ = o at ro
            cases ro with
            | some r => exact ⟨_, _, _, _, _, rfl, ExcC.xf c, no f (by simpa using h1), g1, g4, hll, pq _ _ H1 μ1 s1 sr1 r q1⟩
          | xob0 => cases hz
        · exact q1.elim
      · cases h1
    · exact q1.elim
/-! ### isinstance(e, ..) -/
@[irreducible] def cIsX (fls : List (Str × List Str)) (tab : Tab) : CD := fun ds μ Q => match ds with
  | [.xob C _, c] => (fls.lookup C).isSome = true ∧ (match c with
    | .tup cs => cs.all isC = true ∧ (match tabAny tab (.cls C) cs with | some b => Q (.bl b) μ | none => False)
    | c => isC c = true ∧ (match tab (.cls C) c with | some b => Q (.bl b) μ | none => False))
  | _ => False
theorem cd_isX {fls : List (Str × List Str)} {tab : Tab} (CW : TW X.K X.w W) (T : XOk X.K W fls) (KI : KIs X.K W tab) : CallR X (.builtin "isinstance") (rCD W (cIsX fls tab)) := by
  intro pins s σ H xs us Q I rv ⟨hid, μ, ds, Qd, sr, r, h, pq⟩
  unfold cIsX at h
  split at h
  · rename_i C gs c
    obtain ⟨hfl, h⟩ := h
    obtain ⟨fs, hfl⟩ := Option.isSome_iff_exists.mp hfl
    obtain ⟨ec, cl, _⟩ := T.ok _ _ hfl
    cases r with
    | cons re r =>
      cases r with
      | cons rc r =>
        cases r
        obtain ⟨u1, u2, rfl, rv1, rv2⟩ := vals2 rv
        obtain ⟨a, ox, od, ev, J⟩ : ∃ (a : Addr) (ox : Obj) (od : Option Obj), u1 = Value.ref a ∧ PySem.W.InstAt s.heap a ox (W.cl C) od := by
          cases re with
          | xob g1 _ _ g4 _ _ _ =>
            obtain ⟨ox, od, mA, J, _⟩ := LB.xo_inst I g1 g4
            exact ⟨_, _, _, rv1, J⟩
          | xob0 g1 _ _ =>
            obtain ⟨t1, ho⟩ := exo_at I.hok g1
            exact ⟨_, _, none, rv1, ho, rfl, rfl, trivial⟩
        subst ev
        split at h
        · rename_i cs
          obtain ⟨hall, h⟩ := h
          split at h
          · rename_i b hb
            obtain ⟨ta, vs1, rfl, hs, rs⟩ := tup_ok rc
            rw [← CW.hK] at hs
            obtain ⟨its, hv1, ⟨o, i1, i2, n, i3⟩, _⟩ := I.tuple hs
            cases (show u2 = Value.ref ta from rv2)
            have ei := clsVs_of rs hall hv1
            subst ei
            obtain ⟨oc, odd, dt, sl⟩ := o
            simp only at i2 i3
            subst i2 i3
            exact PySem.W.kia_tup (kitE_at ec cl) I.kIn J i1 (tabAny_ok KI hb) (fun z => nomatch z) fun tk => ⟨.bl b, H, I.tok tk, rfl, pq _ _ H μ .refl sr (.bl b) h⟩
          · exact h.elim
        · obtain ⟨hc, h⟩ := h
          split at h
          · rename_i b hb
            have eu := (clsV_of rc hc).eq rv2
            subst eu
            exact PySem.W.kia_one (kitE_at ec cl) I.kIn J (KI.ok _ _ _ hb) (fun z => nomatch z) fun tk => ⟨.bl b, H, I.tok tk, rfl, pq _ _ H μ .refl sr (.bl b) h⟩
          · exact h.elim
  · exact h.elim
/-- a table, with more told of exceptions and built-in types -/
def tabX (tab : Tab) (more : List (Str × String × Bool)) : Tab := fun t c => match t, c with
  | .cls c, .ty b => (match (more.find? fun p => p.1 == c && p.2.1 == b) with | some p => some p.2.2 | none => tab (.cls c) (.ty b))
  | t, c => tab t c
theorem kis_tabX {K : PySem.W.Frag} {tab : Tab} {more : List (Str × String × Bool)} (h : KIs K W tab) (hm : ∀ p ∈ more, PySem.W.kitOne K (.ref (W.cl p.1)) (.type p.2.1) = some p.2.2) : KIs K W (tabX tab more) := ⟨fun t c b e => by
  unfold tabX at e
  split at e
  · rename_i c' b'
    split at e
    · rename_i p hf
      cases e
      have hp := List.find?_some hf
      rw [Bool.and_eq_true, beq_iff_eq, beq_iff_eq] at hp
      have := hm p (List.mem_of_find?_eq_some hf)
      rw [hp.1, hp.2] at this
      exact this
    · exact h.ok _ _ _ e
  · exact h.ok _ _ _ e⟩
end
end PD
set_option Elab.async false
set_option linter.all false
set_option autoImplicit false
set_option maxRecDepth 100000
set_option maxHeartbeats 4000000
namespace LB
open PySem PySem.Spec PyProof.Rows L2
/-! ### KeyError.__init__(self, ..), self.f = v -/
open PySem.F in
theorem key_slot : Slot "KeyError" "__init__" "KeyError.__init__" := by
  refine .of (owner := "KeyError") (n := "__init__") ?_ (by decide +kernel) (by decide +kernel) (by decide +kernel) ?_ ?_
  · rw [typeLookup_type, builtinLookup_eq_fast]; kernel_rfl
  · first | exact .inl (by decide +kernel) | exact .inr (by decide +kernel)
  · rw [isSubtype_type]; kernel_rfl
open PySem.F in
theorem key_entry : entryFor table "KeyError.__init__" = some Builtin.«BaseException.__init__» := by
  refine entryFor_alias (id' := "BaseException.__init__") ?_ (by first | rfl | decide +kernel) (by decide +kernel) ?_ <;> (rw [fastTable_eq_tree]; kernel_rfl)
theorem key_kind : builtinKind "KeyError.__init__" = some .slot := by kernel_rfl
theorem key_split : splitId "KeyError.__init__" = some ("KeyError", "__init__") := by kernel_rfl
theorem key_row : Manifest.signature? "KeyError.__init__" = some ⟨.positional, "*", "KeyError", .self, [⟨"args", .varPos, false⟩]⟩ := by kernel_rfl
section
variable {P : Program} {w : World} {A : Around} {E : Value → Shared → Prop} {R : Result → Shared → Prop} {h : Heap} {g : Array GenState} {d : Drawn} {t : Nat} {os : OsState}
variable {nm q : Str} {C N : Addr} {bs : List Value} {hdct : Bool} {sn : List Str} {sub : List Value} {ab : Bool} {col : Option Bool} {dd : Option Addr} {k0 k1 k2 k3 k5 : Option Value}
theorem key_check {M : Model} {e : Addr} {oe : Obj} {rest : List Value} {Q : Unit → Shared → Prop} (hC : h.get? C = some (excClassObj nm q C N bs keTail hdct sn sub ab col dd k0 k1 k2 k3 k5 "LookupError.__new__")) (he : h.get? e = some oe) (hcls : oe.cls = .ref C) (hq : Q () ⟨h, g, d, t, os⟩) :
    wpAny M A (checkBuiltinCall "KeyError.__init__" ⟨.ref e :: rest, []⟩) Q E ⟨h, g, d, t, os⟩ := by
  have c1 : (Value.ref C :: keTail).contains (.type "KeyError") = true := by rw [List.contains_cons, show keTail.contains (.type "KeyError") = true by decide +kernel, Bool.or_true]
  have c2 : ("KeyError" != "*") = true := by decide +kernel
  simp only [checkBuiltinCall, key_kind, key_split, key_row]
  repeat (first | (with_reducible refine wpAny_loadPart_at he ?_; rw [hcls]) | with_reducible refine wpAny_loadPart_at hC ?_ | (with_reducible refine wpAny_isSubtype_exc hC ?_; rw [c1]) | wp_step)
  apply wpAny_onRaise
  have c3 : ∀ (a b : String) (n : Nat), Bind.check ⟨.positional, "*", "KeyError", .self, [⟨"args", .varPos, false⟩]⟩ a b n (List.map (fun x => x.fst) ({ pos := Value.ref e :: rest } : Args).kw) = pure () := fun a b n => check_star_args _ _ _ _ _ _
  rw [c3]
  exact wpAny_pure hq
theorem key_init {e t0 : Addr} {rest : List Value} (hC : h.get? C = some (excClassObj nm q C N bs keTail hdct sn sub ab col dd k0 k1 k2 k3 k5 "LookupError.__new__")) (he : h.get? e = some (PySem.HandSPX.excO C t0)) (hrest : rest.length ≤ sizeLine)
    (hq : ∀ h' t1, (∀ b o, b ≠ e → h.get? b = some o → h'.get? b = some o) → h'.get? e = some (PySem.HandSPX.excO C t1) → R (.ok (.ret .none)) ⟨h', g, d, t, os⟩) : codeAny (model P w) A (.call (.builtin "KeyError.__init__") ⟨.ref e :: rest, []⟩) R ⟨h, g, d, t, os⟩ := by
  refine codeAny_call_builtin key_slot.plain key_entry (key_check hC he rfl ?_)
  wp_walk
  refine hq _ h.objs.size (fun b o hb ho => ?_) ?_
  · rw [Heap.get?_update_other _ _ (Ne.symm hb)]
    exact Heap.get?_push_of_some _ ho
  · rw [Heap.get?_update_self _ (Heap.get?_push_of_some _ he) rfl]
    rfl
open Builtin Builtin.ObjectAttr in
theorem key_store {K : PySem.W.Frag} {name : Str} {tk : Tok} {v : Value} {x : Addr} {fv : Array Value} {cd : ClassData} (X : K.In h) (hx : h.get? x = some { cls := .ref C, data := .fields fv }) (hcd : PySem.W.clsIn K C = some cd) (hm : cd.mro = .ref C :: keTail) (hh : cd.hasDict = true) (ha : PySem.W.findIn K (.ref C) name = some none)
    (hq : ∀ h' tk' dx, (∀ b o, b ≠ x → h.get? b = some o → h'.get? b = some o) → h.objs.size ≤ dx → dx ≠ x → h'.get? x = some { cls := .ref C, dict := some dx, data := .fields fv } → h'.Ns1 dx (fun y => if y = name then some v else none) → R (.ok (.ret .none)) ⟨h', g, d, tk', os⟩) :
    codeAny (model P w) A (.call (.builtin "object.__setattr__") ⟨[.ref x, .str name tk, v], []⟩) R ⟨h, g, d, t, os⟩ := by
  have I : PySem.W.InstAt h x { cls := .ref C, data := .fields fv } C none := ⟨hx, rfl, rfl, trivial⟩
  have SF := F.store_object
  have c1 : cd.mro.contains (.type "object") = true := by rw [hm, List.contains_cons, show keTail.contains (.type "object") = true by decide +kernel, Bool.or_true]
  have c0 : cd.mro.isEmpty = false := by rw [hm]; rfl
  have nx : x ≠ h.objs.size := Nat.ne_of_lt (Heap.lt_size hx)
  have sub : PySem.W.Looks (model P w) h (isInstance (.ref x) (.type "object")) true := I.type.andThen (PySem.W.looks_mroIn X (by unfold PySem.W.mroIn; rw [hcd, Option.bind_some, if_neg (by rw [c0]; decide), c1]))
  refine codeAny_call_builtin SF.slot.plain SF.entry (@PySem.W.check_slot (model P w) _ _ ⟨h, g, d, t, os⟩ "object.__setattr__" "object" "__setattr__" (.ref x) [.str name tk, v] [] _ SF.kind SF.split sub (SF.args (.ref x) (.str name tk) v) ?_)
  have m1 : PySem.W.Looks (model P w) h (mroOf (.ref C)) cd.mro := (PySem.W.looks_clsIn X hcd).andThen .now
  have m2 : PySem.W.Looks (model P w) h (storeTaker? none) none := .now
  have m3 : PySem.W.Looks (model P w) h (classData C) cd := PySem.W.looks_clsIn X hcd
  have pas : refuseLoop (.ref x) "__setattr__" cd.mro = pure () := by
    rw [hm, refuseLoop_ref]
    kernel_rfl
  rw [PySem.W.osa_eq, refuse_eq]
  refine wpAny_bind (wpAny_bind (I.type.at (wpAny_bind (m1.at ?_))))
  rw [pas]
  refine wpAny_pure (wpAny_bind (I.type.at (wpAny_bind ((PySem.W.looks_findIn X ha).at (wpAny_bind (m2.at ?_))))))
  show wpAny _ _ (storeInOwnDict (.ref x) (.ref C) (.str name tk) name v false) _ _ _
  obtain ⟨nm, bs, mro, ns, qn, hd, sn, sb, ab, col, del⟩ := cd
  dsimp only at hh
  subst hh
  unfold storeInOwnDict ownDictForStores
  repeat (first | with_reducible refine PySem.HandSPX.store_in_new ?_ ?_ | with_reducible refine wpAny_loadPart_at hx ?_ | with_reducible refine m3.at ?_ | wp_step)
  · exact ⟨_, #[], _, (Heap.get?_update_ne _ _ _ _ nx.symm).trans (Heap.get?_push_at rfl rfl), rfl, fun e he => absurd he (by simp), fun _ => rfl⟩
  · intro h' tk' hn' hs
    have hx1 : (h.push { cls := .type "dict", data := .dict #[] }).get? x = some { cls := .ref C, data := .fields fv } := Heap.get?_push_of_some _ hx
    refine hq h' tk' h.objs.size (fun b o hb ho => ?_) (Nat.le_refl _) nx.symm ?_ hn'
    · exact (hs.2 b (Nat.ne_of_lt (Heap.lt_size ho))).trans ((Heap.get?_update_ne _ _ _ _ hb).trans (Heap.get?_push_of_some _ ho))
    · exact (hs.2 x nx).trans (Heap.get?_update_self _ hx1 rfl)
end
end LB
set_option Elab.async false
set_option linter.all false
set_option autoImplicit false
set_option maxRecDepth 100000
set_option maxHeartbeats 4000000
namespace LB
open PySem PySem.Spec PyProof.Rows L2
section
variable {X : Cx} {pins : List (Addr × Obj)} {σ : L2.St} {H : Hp} {s : Shared} {a C : Addr} {f : Str} {y : V} {u : Value} {E : Value → Shared → Prop} {A : Around}
theorem key_ost {Q : Unit → Shared → Prop} (T : OexK X.K C) (I : Inv X pins σ H s) (e : H a = some (exo a C none)) (hno : PySem.W.findIn X.K (.ref C) f = some none) (ry : RelV y u)
    (h : ∀ dx s', H dx = none → dx ≠ a → Inv X pins σ (upd (upd H dx (exd dx [(f, y)])) a (exo a C (some dx))) s' → Q () s') : wpAny (model X.prog X.w) A (setAttr (.ref a) f u) Q E s := by
  obtain ⟨nm, q, N, bs, sn, sub, ab, col, dd, k0, k1, k2, k3, k5, hC⟩ := T.cls
  have hcl : PySem.W.clsIn X.K C = some { name := nm, bases := bs, mro := .ref C :: keTail, ns := N, qualname := q, hasDict := true, slotNames := sn, subclasses := sub, abstract := ab, collection := col, hasDel := false } := by unfold PySem.W.clsIn; rw [hC] <;> rfl
  obtain ⟨t1, ho⟩ := exo_at I.hok e
  obtain ⟨hp, g, d, t, os⟩ := s
  refine PySem.W.set_plain I.kIn (ox := { cls := .ref C, dict := none, data := .fields #[.ref t1, .none, .none, .none, .bool false, .none] }) (od := none) ⟨ho, rfl, rfl, trivial⟩ T.sa ?_
  refine key_store I.kIn ho hcl rfl rfl hno (fun h' tk' dx k dn dne hx hn => ?_)
  have hnd : H dx = none := I.hok.fresh dn
  have nd : ∀ {b : Addr} {o : Obj}, hp.get? b = some o → b ≠ dx := fun {b o} z => Nat.ne_of_lt (Nat.lt_of_lt_of_le (Heap.lt_size z) dn)
  have na : ∀ {b : Addr}, H b = none → b ≠ a := fun {b} n z => by
    rw [z, e] at n
    cases n
  have U : Un X.fs [] H (upd (upd H dx (exd dx [(f, y)])) a (exo a C (some dx))) hp h' := {
    keep := fun b o z n _ _ => k b o (na n) z
    slot := fun b o z n _ _ => ⟨o.slots, k b o (na n) z⟩
    free := fun b o z n _ => by rw [upd_ne (na n), upd_ne (nd z)]; exact n
    there := fun b o z _ => by
      by_cases hb : b = a
      · exact ⟨_, by rw [hb]; exact hx⟩
      · exact ⟨o, k b o hb z⟩
    tups := fun b xs z => by rw [upd_ne (at_ne e z exo_tup), upd_ne (ne_of_none z hnd)]; exact z
    frzs := fun b o v z => by rw [upd_ne (at_ne e z exo_frz), upd_ne (ne_of_none z hnd)]; exact z
    tbls := fun b ps z => ⟨#[], by rw [upd_ne (at_ne e z exo_tbl), upd_ne (ne_of_none z hnd), z]; simp⟩ }
  refine h dx _ hnd dne (I.un (t' := tk') U fun b o z => ?_)
  by_cases hb : b = a
  · subst hb
    rw [upd_same] at z
    cases z
    exact exo_ok hx
  · rw [upd_ne hb] at z
    by_cases hd : b = dx
    · subst hd
      rw [upd_same] at z
      cases z
      exact exd_ok hn (relO_put (fs := []) ry fun g => True.intro)
    · rw [upd_ne hd] at z
      exact (I.hok b o z).stay (fun c v hc w => k c v (by
          rcases hc with hc | hc
          · rw [hc]
            exact hb
          · exact at_ne e hc exo_own) w)
        (fun c hc => by rw [upd_ne (at_ne e hc exo_own), upd_ne (ne_of_none hc hnd)]; exact hc) (fun c xs hc => by rw [upd_ne (at_ne e hc exo_tup), upd_ne (ne_of_none hc hnd)]; exact hc)
theorem key_oinit {us : List Value} {Q : Value → Shared → Prop} (T : OexK X.K C) (I : Inv X pins σ H s) (e : H a = some (exo a C none)) (hl : us.length ≤ sizeLine) (h : ∀ s', Inv X pins σ H s' → Q .none s') :
    wpAny (model X.prog X.w) A (call (.builtin "KeyError.__init__") (.ref a :: us)) Q E s := by
  obtain ⟨nm, q, N, bs, sn, sub, ab, col, dd, k0, k1, k2, k3, k5, hC⟩ := T.cls
  obtain ⟨t1, ho⟩ := exo_at I.hok e
  obtain ⟨hp, g, d, t, os⟩ := s
  refine wpAny_call (key_init (I.kIn _ _ hC) ho hl fun h' t2 k hx => ?_)
  have J := I.write (t' := t) (x := a) (e := a) (o := exo a C none) (by rw [e]; exact True.intro) (.inl rfl) k ⟨_, hx⟩ (exo_ok hx)
  have eu : upd H a (exo a C none) = H := by
    funext b
    by_cases hb : b = a
    · rw [hb, upd_same, e]
    · rw [upd_ne hb]
  rw [eu] at J
  exact h _ J
end
section
variable {X : Cx} {o e : Expr} {es : List Expr} {to te : TE} {ta : TA} {f : Str} {p p' p1 p2 pos : Pos} {C : Addr}
def tKeI (K : PySem.W.Frag) (ta : TA) : TE := fun σ H Q => ta σ H fun vs H1 => ∃ (a C : Addr) (ws : List V), vs = .ref a :: ws ∧ ws.length ≤ 1000 ∧ OexK K C ∧ H1 a = some (exo a C none) ∧ Q .non H1
theorem typ_key : typeOf (.type "KeyError") = pure (.type "type") := by kernel_rfl
theorem pe_keyinit {pl : Sem Bool} (hg : Gl X "KeyError") (hm : X.mg "KeyError" = none) (vV : PySem.W.findCls X.K (.type "KeyError") (.type "type") "__init__" = some (.val (.builtin "KeyError.__init__"))) (ha : PA X (e :: es) ta)
    (hc : eval (.Call (.Attribute (.Name "KeyError" p1) "__init__" p2) (e :: es) [] pos) X.env = (do
      let ov ← eval (.Name "KeyError" p1) X.env
      standAt p2.atName
      let (f, first) ← holding [ov] (getMethod ov "__init__" pl)
      callWith pos f first (backTo pos (starEach (e :: es) X.env)) (backToKw pos (keywordEach [] X.env))) := by rfl)
    (he : starEach (e :: es) X.env = (false, eval e X.env) :: starEach es X.env := by rfl) (hpl : (backTo pos (starEach es X.env)).any (·.1) = false := by rfl) :
    PE X (.Call (.Attribute (.Name "KeyError" p1) "__init__" p2) (e :: es) [] pos) (tKeI X.K ta) := by
  refine ⟨fun pins s σ H Q I h => ?_⟩
  refine PySem.W.methodCall_KW (ld_blt (u := .type "KeyError") I hg hm (by decide +kernel) ?_ (by decide) (by decide)) hc
  obtain ⟨m, fr⟩ := I.fr
  refine PySem.W.method_type fr I.ok.mod.kin typ_key (by decide +kernel) vV (by decide +kernel) ?_
  show wpAny _ _ (callWith pos (Value.builtin "KeyError.__init__") [] (backTo pos (starEach (e :: es) X.env)) []) _ _ _
  refine PyProof.Rows.callWith_method1 (thn (ha.run pos pins _ σ H _ (I.tok _) h) fun us s1 ⟨vs, H1, I1, r1, a, C, ws, ev, hl, T, ea, q⟩ => ?_) he hpl
  subst ev
  cases r1 with
  | @cons _ u0 _ ur ra rw' =>
    obtain rfl : u0 = Value.ref a := ra
    exact key_oinit T I1 ea (by rw [← Paired.length rw', sizeLine_eq]; omega) fun s' J => ⟨.non, H1, J, rfl, q⟩
def tOstK (K : PySem.W.Frag) (f : Str) (to te : TE) : TS := fun D σ H => te σ H fun y H1 => to σ H1 fun x H2 => ∃ a C : Addr, x = .ref a ∧ OexK K C ∧ PySem.W.findIn K (.ref C) f = some none ∧ H2 a = some (exo a C none) ∧ ∀ dx, H2 dx = none → dx ≠ a → D.nx σ (upd (upd H2 dx (exd dx [(f, y)])) a (exo a C (some dx)))
theorem ps_ostK (ho : PE X o to) (he : PE X e te) (hs : swapsWith e (some (.Attribute o f p')) pos.line X.env = pure false := by rfl) : PS X (.Assign [.Attribute o f p'] e pos) (tOstK X.K f to te) := by
  refine ⟨fun pins s σ H D I h => plainObj_wpAny_Assign_Attribute (thn (he.run pins s σ H _ I h) fun v s1 ⟨y, H1, I1, r1, q1⟩ => thn (ho.run pins s1 σ H1 _ I1 q1) fun u s2 ⟨x, H2, I2, r2, a, C, ex, T, hno, ea, q⟩ => ?_) hs⟩
  subst ex
  obtain rfl : u = Value.ref a := r2
  exact key_ost T I2 ea hno r1 fun dx s' n ne J => ⟨σ, _, J, q dx n ne⟩
end
end LB
set_option Elab.async false
set_option linter.all false
set_option autoImplicit false
set_option maxRecDepth 100000
set_option maxHeartbeats 4000000
namespace PD
open PySem PySem.Spec PyProof.Rows L2
/-! ### loops that evaluation leaves alone -/
@[irreducible] def forO (g : TDG) (b : TDS) (E : EndsD) (Xd : XE) (o : Cks) (ds : List D) (ρ : PD.Env) (μ : Mu) : Prop := forL g b E Xd o ds ρ μ
theorem forO_eq : @forO = @forL := by
  funext g b E Xd o ds ρ μ
  unfold forO
  rfl
def sForO (ti : TDI) (g : TDG) (b : TDS) : TDS := fun E Xd ρ μ => ti Xd ρ μ fun o ds μ1 => forO g b E Xd o ds ρ μ1
theorem sForO_eq : sForO = sFor := by
  funext ti g b
  unfold sForO sFor
  rw [forO_eq]
@[irreducible] def lcO (o : Cks) (en : D → Mu → (PD.Env → Prop) → Prop) (tt : TDT) (te : TDE) (Q : List D → Mu → Prop) (ds acc : List D) (μ : Mu) : Prop := lcL o en tt te Q ds acc μ
theorem lcO_eq : @lcO = @lcL := by
  funext o en tt te Q ds acc μ
  unfold lcO
  rfl
def eLcO (m : Bool) (ti : TDI) (en : PD.Env → D → Mu → (PD.Env → Prop) → Prop) (tt : TDT) (te : TDE) : TDE := fun Xd ρ μ Q => ti Xd ρ μ fun o ds μ1 => lcO o (en ρ) tt te (fun acc μ2 => newL m acc μ2 Q) ds [] μ1
theorem eLcO_eq : eLcO = eLc := by
  funext m ti en tt te
  unfold eLcO eLc
  rw [lcO_eq]
section
variable {X : Cx} {W : Wo} {Wk : WX}
theorem bs_O {st : Stmt} {ti : TDI} {g : TDG} {b : TDS} (h : BS X W Wk st (sFor ti g b)) : BS X W Wk st (sForO ti g b) := by rw [sForO_eq]; exact h
theorem be_O {e : Expr} {m : Bool} {ti : TDI} {en : PD.Env → D → Mu → (PD.Env → Prop) → Prop} {tt : TDT} {te : TDE} (h : BE X W Wk e (eLc m ti en tt te)) : BE X W Wk e (eLcO m ti en tt te) := by rw [eLcO_eq]; exact h
theorem bs_OL {st : Stmt} {i : Nat} {m : Bool} {ti : TDI} {en : PD.Env → D → Mu → (PD.Env → Prop) → Prop} {tt : TDT} {te : TDE} (h : BS X W Wk st (sAsg (eLc m ti en tt te) (gN i))) : BS X W Wk st (sAsg (eLcO m ti en tt te) (gN i)) := by rw [eLcO_eq]; exact h
end
theorem forO_inv {g : TDG} {b : TDS} {E : EndsD} {Xd : XE} {o : Cks} (I : Nat → PD.Env → Mu → Prop) {ds : List D} {ρ : PD.Env} {μ : Mu} (h0 : I 0 ρ μ) (hck : ∀ i ρ μ, I i ρ μ → CK o μ)
    (hs : ∀ i x ρ μ, ds[i]? = some x → I i ρ μ → ∀ N : PD.Env → Mu → Prop, (∀ ρ' μ', I (i + 1) ρ' μ' → N ρ' μ') → g x Xd ρ μ fun ρ' μ' => b { E with nx := N, ct := N, bk := E.nx } Xd ρ' μ') (hq : ∀ ρ μ, I ds.length ρ μ → E.nx ρ μ) : forO g b E Xd o ds ρ μ := by
  rw [forO_eq]
  exact forL_inv I h0 hck hs hq
theorem forO_nil {g : TDG} {b : TDS} {E : EndsD} {Xd : XE} {o : Cks} {ρ : PD.Env} {μ : Mu} (c : CK o μ) (h : E.nx ρ μ) : forO g b E Xd o [] ρ μ := by
  rw [forO_eq]
  exact chk_mk c h
theorem forO_cons {g : TDG} {b : TDS} {E : EndsD} {Xd : XE} {o : Cks} {x : D} {xs : List D} {ρ : PD.Env} {μ : Mu} (c : CK o μ) (h : g x Xd ρ μ fun ρ' μ' => b { E with nx := forO g b E Xd o xs, ct := forO g b E Xd o xs, bk := E.nx } Xd ρ' μ') : forO g b E Xd o (x :: xs) ρ μ := by
  rw [forO_eq] at h ⊢
  exact chk_mk c h
theorem newL_f {ds : List D} {μ : Mu} {Q : QD} (h : Q (.lst ds) μ) : newL false ds μ Q := h
theorem lcO_map {o : Cks} {en : D → Mu → (PD.Env → Prop) → Prop} {te : TDE} {Q : List D → Mu → Prop} {μ : Mu} (f : D → D) {ds : List D} (c : CK o μ) (h : ∀ x ∈ ds, ∀ (R : QD) (B : Prop), R (f x) μ → en x μ fun ρ' => dIf true (te xF ρ' μ R) B) (hl : ds.length ≤ sizeLine) (hq : Q (ds.map f) μ) : lcO o en tYe te Q ds [] μ := by
  rw [lcO_eq]
  exact lcL_map f c ds [] h (by simpa using hl) hq
theorem lcO_inv {o : Cks} {en : D → Mu → (PD.Env → Prop) → Prop} {tt : TDT} {te : TDE} {Q : List D → Mu → Prop} (I : Nat → List D → Mu → Prop) {ds : List D} {μ : Mu} (h0 : I 0 [] μ) (hck : ∀ i acc μ, I i acc μ → CK o μ)
    (hs : ∀ i x acc μ, ds[i]? = some x → I i acc μ → ∀ (A : D → Mu → Prop) (B : Mu → Prop), (∀ d μ', acc.length < sizeLine → I (i + 1) (acc ++ [d]) μ' → A d μ') → (∀ μ', I (i + 1) acc μ' → B μ') → en x μ fun ρ' => tt xF ρ' μ fun b μ2 => dIf b (te xF ρ' μ2 A) (B μ2))
    (hl : ds.length ≤ sizeLine) (hn : ∀ i acc μ, I i acc μ → acc.length ≤ i) (hq : ∀ acc μ, I ds.length acc μ → Q acc μ) : lcO o en tt te Q ds [] μ := by
  rw [lcO_eq]
  exact lcL_inv I h0 hck hs hl hn hq
theorem lcO_to {o : Cks} {en : D → Mu → (PD.Env → Prop) → Prop} {te : TDE} {Q : List D → Mu → Prop} {μ : Mu} (c : CK o μ) {ds ys : List D} (hn : ds.length = ys.length) (h : ∀ (i : Nat) x y, ds[i]? = some x → ys[i]? = some y → ∀ (R : QD) (B : Prop), R y μ → en x μ fun ρ' => dIf true (te xF ρ' μ R) B) (hl : ds.length ≤ sizeLine) (hq : Q ys μ) : lcO o en tYe te Q ds [] μ := by
  rw [lcO_eq]
  exact lcL_to c ds ys [] hn h (by simpa using hl) hq
end PD
set_option Elab.async false
set_option linter.all false
set_option autoImplicit false
set_option maxRecDepth 100000
set_option maxHeartbeats 4000000
namespace LB
open PySem PySem.Spec PyProof.Rows L2
/-! ### raise C(), C without fields -/
def tMk0 (C : Addr) (sp : Sp) : L2.St → Hp → XK → Prop := fun _ H Q => ∀ a, H a = none → sp [.ref a] (upd H a (exo a C none)) (fun v H2 => v = .non ∧ H2 a = some (exo a C none) ∧ Q (.ref C) none (del H2 a)) (fun _ _ _ => False)
theorem mk0_end {X : Cx} {pins : List (Addr × Obj)} {σ : L2.St} {H1 H2 : Hp} {Q : XK} {hp hp2 h2 : Heap} {g1 g2 : Array GenState} {d1 d2 : Drawn} {t1 t2 : Nat} {os1 os2 : OsState} {a C : Addr} (T : Raises X (.ref C)) (I1 : Inv X pins σ H1 ⟨hp, g1, d1, t1, os1⟩)
    (ha : hp.objs.size ≤ a) (k : ∀ b o, hp.get? b = some o → hp2.get? b = some o) (un : Un (frs X.stack) [] (upd H1 a (exo a C none)) H2 hp2 h2) (hok : HOk X.prog X.w H2 h2) (ho : os2 = os1) (hb : AllBare g2) (ea : H2 a = some (exo a C none)) (q : Q (.ref C) none (del H2 a)) : MkP X pins σ Q (.ref a) ⟨h2, g2, d2, t2, os2⟩ := by
  obtain ⟨t0, hoe⟩ := exo_at hok ea
  have hn : H1 a = none := I1.hok.fresh ha
  obtain ⟨G, r1, r2⟩ := restrict h2 fun b => decide (b ≠ a)
  have gk : ∀ b, b ≠ a → G.get? b = h2.get? b := fun b z => r1 b (decide_eq_true z)
  have ge : G.get? a = none := r2 a (by simp)
  have nha : ∀ {b : Addr} {o : Obj}, hp.get? b = some o → b ≠ a := fun {b o} z => Nat.ne_of_lt (Nat.lt_of_lt_of_le (Heap.lt_size z) ha)
  have up : ∀ {b : Addr}, b ≠ a → H1 b = none → upd H1 a (exo a C none) b = none := fun {b} z n => by rw [upd_ne z]; exact n
  have U : Un (frs X.stack) [] H1 (del H2 a) hp G := {
    keep := fun b o z n hf hx => by rw [gk b (nha z)]; exact un.keep b o (k b o z) (up (nha z) n) hf hx
    slot := fun b o z n hf hx => by rw [gk b (nha z)]; exact un.slot b o (k b o z) (up (nha z) n) hf hx
    free := fun b o z n hx => by rw [del_ne (nha z)]; exact un.free b o (k b o z) (up (nha z) n) hx
    there := fun b o z hx => by rw [gk b (nha z)]; exact un.there b o (k b o z) hx
    tups := fun b xs z => by rw [del_ne (ne_of_none z hn)]; exact un.tups b xs (by rw [upd_ne (ne_of_none z hn)]; exact z)
    frzs := fun b o v z => by rw [del_ne (ne_of_none z hn)]; exact un.frzs b o v (by rw [upd_ne (ne_of_none z hn)]; exact z)
    tbls := fun b ps z => by rw [del_ne (ne_of_none z hn)]; exact un.tbls b ps (by rw [upd_ne (ne_of_none z hn)]; exact z) }
  have hok3 : HOk X.prog X.w (del H2 a) G := fun b o z => by
    have hba : b ≠ a := fun e => by
      rw [e, del_same] at z
      cases z
    rw [del_ne hba] at z
    have noa : ∀ {c : Addr}, H2 c = some (.own b) → c ≠ a := fun {c} hc => at_ne ea hc exo_own
    exact (hok b o z).stay (fun c v hc y => by
        have hca : c ≠ a := by
          rcases hc with hc | hc
          · rw [hc]
            exact hba
          · exact noa hc
        rw [gk c hca]
        exact y)
      (fun c hc => by rw [del_ne (noa hc)]; exact hc) (fun c xs hc => by rw [del_ne (at_ne ea hc exo_tup)]; exact hc)
  have J : Inv X pins σ (del H2 a) ⟨G, g2, d2, t2, os2⟩ := I1.call' (ch := []) ho U hok3 hb (fun b z => absurd z (by simp))
  refine ⟨a, _, _, ⟨G, g2, d2, t2, os2⟩, _, .ref C, none, rfl, J, fun b o z => ?_, ge, hoe, ⟨rfl, rfl⟩, rfl, rfl, del_same, rfl, hb, T, q⟩
  by_cases hba : b = a
  · rw [hba, ge] at z
    cases z
  · exact (gk b hba).symm.trans z
theorem pmk0 {X : Cx} {x : Str} {C fI : Addr} {k : Nat} {fd : FuncData} {ps : List Str} {sp : Sp} {p pos : Pos} (T : OexC X.K C) (iC : PySem.W.findIn X.K (.ref C) "__init__" = some (some (.ref fI))) (tI : PySem.W.typeIn X.K (.ref fI) = some (.type "function"))
    (F1 : FnOk X.prog X.w X.K X.mg X.base CX0 k fI fd ps sp) (hr : Room (k + 1) X.A) (hb : Binds X.K fd ps []) (hg : Gl X x) (hm : X.mg x = some (.ref C)) (hdb : (x == ("__debug__" : Str)) = false := by decide) : PMk X (.Call (.Name x p) [] [] pos) (tMk0 C sp) := by
  intro pins s σ H Q I h
  refine wpAny_Call_Name_kw (ld_glob I hg hm (PySem.W.callWith_K0 I.kIn T.kC ?_) hdb)
  obtain ⟨hp, g, dr, tk, os⟩ := s
  have hsz : hp.objs.size ≤ hp.objs.size + 1 := Nat.le_succ _
  have hq := h (hp.objs.size + 1) (I.hok.fresh hsz)
  have kk : ∀ b o, hp.get? b = some o → ((hp.push (PySem.W.kdv_tup [])).push (PySem.HandSPX.excO C hp.objs.size)).get? b = some o := fun b o z => Heap.get?_push_of_some _ (Heap.get?_push_of_some _ z)
  have hg1 : ((hp.push (PySem.W.kdv_tup [])).push (PySem.HandSPX.excO C hp.objs.size)).get? (hp.objs.size + 1) = some (PySem.HandSPX.excO C hp.objs.size) := by heap_get
  have I2 : Inv X pins σ (upd H (hp.objs.size + 1) (exo (hp.objs.size + 1) C none)) ⟨(hp.push (PySem.W.kdv_tup [])).push (PySem.HandSPX.excO C hp.objs.size), g, dr, tk, os⟩ :=
    I.laid (t' := tk) (a := hp.objs.size + 1) (o := exo (hp.objs.size + 1) C none) (h' := (hp.push (PySem.W.kdv_tup [])).push (PySem.HandSPX.excO C hp.objs.size)) kk hsz (exo_ok hg1)
  have r2 : Vals [V.ref (hp.objs.size + 1)] [Value.ref (hp.objs.size + 1)] := .cons rfl .nil
  have hl : ([Value.ref (hp.objs.size + 1)] ++ []).length = ps.length := F1.len _ _ _ _ hq
  have run := F1.run _ X.stack _ _ ⟨[Value.ref (hp.objs.size + 1)], []⟩ ([Value.ref (hp.objs.size + 1)] ++ []) _ _ (fun _ _ _ => False) (hr.make C [] []) (I2.env0.make C [] []) (hb _ [Value.ref (hp.objs.size + 1)] I2.kIn hl) r2 hq
  refine wpAny_call ((callsX_oex T).run _ _ _ _ _ _ _ _ _ [] fI I.kIn (PySem.W.looks_findIn I.kIn iC) (fun self => PySem.W.bind_fn I.kIn self tI) (by rw [sizeLine_eq]; decide) (codeAny_mono run fun r s1 q1 => ?_))
  cases r with
  | error er => exact pass0 pins σ _ _ er s1 I2 q1
  | ok fl =>
    cases fl with
    | ret u =>
      obtain ⟨v, H2, os2, bare2, un2, hok2, rv, ev, ea, q2⟩ := q1
      subst ev
      obtain ⟨h2, g2, d2, t2, os'⟩ := s1
      exact ⟨rv, mk0_end (raises_own T.exC T.tyC) I hsz kk un2 hok2 os2 bare2 ea q2⟩
    | next => exact q1.elim
    | brk => exact q1.elim
    | cont => exact q1.elim
end LB
namespace PD
open PySem PySem.Spec PyProof.Rows L2
def sRaise0 (C : Str) : TDS := fun _ Xd ρ μ => Xd ⟨C, []⟩ ρ μ
section
variable {X : Cx} {W : Wo} {Wk : WX} {k : Nat} {C0 : Str} {ps : List Str} {p pos pos' : Pos}
theorem bs_raise0 (c : LB.ExcCls X.K X.mg C0 (W.cl C0)) (D : LB.MethOk X.prog X.w X.K X.mg X.base k (W.cl C0) "__init__" ps (spExc0 (W.cl C0))) (hc : X.calm = true) (tk : Takes X Wk) (hr : Room (k + 1) X.A) (hg : Gl X C0) (hdb : (C0 == ("__debug__" : Str)) = false := by decide) :
    BS X W Wk (.Raise (some (.Call (.Name C0 p) [] [] pos)) none pos') (sRaise0 C0) := by
  obtain ⟨f, fd, F, iC, hi, hk, hb⟩ := D.ex
  refine PS.weak (ps_raise hc tk (LB.pmk0 c.oex iC (by simpa [PySem.W.isFn] using hi) F hr hb hg c.g hdb)) fun E σ H ⟨hid, ρ, μ, Xd, Dd, rel, sr, q, pe, px⟩ => ?_
  intro a ha
  refine ⟨a, rfl, upd_same, rfl, upd_same, ?_⟩
  have e : del (upd H a (exo a (W.cl C0) none)) a = H := by
    funext b
    by_cases z : b = a
    · rw [z, del_same, ha]
    · rw [del_ne z, upd_ne z]
  rw [e]
  exact px _ _ _ σ ρ H μ .refl sr rel ⟨rfl, .inl ⟨rfl, rfl⟩⟩ q
end
end PD
set_option Elab.async false
set_option linter.all false
set_option autoImplicit false
set_option maxRecDepth 100000
set_option maxHeartbeats 4000000
namespace LB
open PySem PySem.Spec PyProof.Rows L2
/-! ### x != y by an __eq__ of the class or of one above it -/
section
variable {P : Program} {w : World} {K : PySem.W.Frag} {A : Around} {E : Value → Shared → Prop} {h : Heap} {g : Array GenState} {d : Drawn} {t : Nat} {os : OsState} {C x f : Addr} {ox : Obj} {od : Option Obj} {y : Value}
theorem ne_bound {M : Model} {args : List Value} {Q : Option Value → Shared → Prop} (X : K.In h) (I : PySem.W.InstAt h x ox C od) (hs : PySem.W.findIn K (.ref C) "__ne__" = some (some (.builtin "object.__ne__")))
    (q : wpAny M A (call (.builtin "object.__ne__") (.ref x :: args)) (fun v => Q (some v)) E ⟨h, g, d, t, os⟩) : wpAny M A (callSpecialIfBound? (.ref x) "__ne__" args) Q E ⟨h, g, d, t, os⟩ := by
  simp only [callSpecialIfBound?, bindSpecialIfBound?]
  refine wpAny_holding (wpAny_bind (wpAny_bind (wpAny_bind (I.type.here ((PySem.W.looks_findIn X hs).here ?_)))))
  refine wpAny_bind (wpAny_askSetting (wpAny_ite ?_))
  have fin : wpAny M A (call (.builtin "object.__ne__") ([.ref x] ++ args) >>= fun v => pure (some v)) Q E ⟨h, g, d, t, os⟩ := wpAny_bind (wpAny_mono q (fun v s' z => wpAny_pure z) fun _ _ z => z)
  split
  · rw [PySem.F.cmp_object.ne.bind (.ref x)]
    exact wpAny_bind (wpAny_pure (wpAny_pure (by exact fin)))
  · rw [PySem.F.cmp_object.ne.bind (.ref x)]
    exact wpAny_tryCatch (wpAny_bind (wpAny_pure (wpAny_pure (by exact fin))))
open Builtin in
theorem ne_entry (X : K.In h) (I : PySem.W.InstAt h x ox C od) (he : PySem.W.findIn K (.ref C) "__eq__" = some (some (.ref f))) (hf : PySem.W.isFn K (.ref f) = true) (hu : A.units < cLine) {Q : Fin → Shared → Prop}
    (q : wpAny (model P w) A (call (.ref f) [.ref x, y]) (fun v s' => ∃ b, v = .bool b ∧ Q (.done (.ret (.bool (!b)))) s') E ⟨h, g, d, t, os⟩) : wpAny (model P w) A (Builtin.«object.__ne__» ⟨[.ref x, y], []⟩) Q E ⟨h, g, d, t, os⟩ := by
  unfold Builtin.«object.__ne__»
  repeat (first
    | with_reducible refine wpAny_cRoomFor hu ?_
    | (refine wpAny_bind (m := callSpecialIfBound? (.ref x) (Str.ofString "__eq__") [y]) (PySem.W.ifBound_K (s := ⟨h, g, d, t, os⟩) X I he hf (wpAny_mono q (fun r s' z => by
          obtain ⟨b, rfl, z⟩ := z
          repeat (first | exact z | exact wpAny_pure z | exact wpAny_truthy_bool z | (refine wpAny_bind (m := truthy (.bool _)) (wpAny_truthy_bool ?_)) | wp_step)) fun _ _ z => z)))
    | wp_step)
theorem ne_K {Q : Value → Shared → Prop} {tb : Value} (X : K.In h) (I : PySem.W.InstAt h x ox C od) (hb : PySem.W.Looks (model P w) h (typeOf y) tb) (hn : PySem.W.notFirst K C tb = true) (hs : PySem.W.findIn K (.ref C) "__ne__" = some (some (.builtin "object.__ne__")))
    (he : PySem.W.findIn K (.ref C) "__eq__" = some (some (.ref f))) (hf : PySem.W.isFn K (.ref f) = true) (hm : PySem.W.mroIn K C (.type "object") = some true) (hu : A.units + 1 < cLine)
    (q : wpAny (model P w) A.in1 (call (.ref f) [.ref x, y]) (fun v s' => ∃ b, v = .bool b ∧ Q (.bool (!b)) s') E ⟨h, g, d, t, os⟩) : wpAny (model P w) A (richCompare .NotEq (.ref x) y) Q E ⟨h, g, d, t, os⟩ := by
  have sub : PySem.W.Looks (model P w) h (isInstance (.ref x) (.type "object")) true := I.type.andThen (PySem.W.looks_mroIn X hm)
  have one : wpAny (model P w) A (tryCompare (.ref x) "__ne__" y) (fun r s' => ∃ v, r = some v ∧ Q v s') E ⟨h, g, d, t, os⟩ := by
    unfold tryCompare
    refine wpAny_bind (ne_bound X I hs (wpAny_call (codeAny_call_builtin PySem.F.cmp_object.ne.plain PySem.F.cmpEntry_ne (@PySem.W.check_slot (model P w) _ _ ⟨h, g, d, t, os⟩ "object.__ne__" "object" "__ne__" (.ref x) [y] [] _ PySem.F.cmpKind_ne PySem.F.cmpSplit_ne sub (PySem.F.cmpArgs_ne _ _) (ne_entry (A := A.in1) X I he hf hu (wpAny_mono q (fun v s' z => ?_) fun _ _ z => z))))))
    obtain ⟨b, rfl, z⟩ := z
    first | exact ⟨b, rfl, wpAny_pure ⟨_, rfl, z⟩⟩ | exact ⟨b, rfl, wpAny_pure (wpAny_pure ⟨_, rfl, z⟩)⟩
  unfold richCompare
  simp only [oneThing_ref]
  refine wpAny_holding (wpAny_bind (wpAny_cRoomFor (Nat.lt_of_succ_lt hu) ?_))
  refine wpAny_bind (I.type.here (wpAny_bind (hb.here ?_)))
  split
  · rename_i z
    have e : PySem.W.subIn K tb (.ref C) = some false := by
      rcases Bool.or_eq_true_iff.mp hn with e | e
      · rw [beq_iff_eq.mp e] at z; simp at z
      · exact beq_iff_eq.mp e
    refine wpAny_bind ((PySem.W.looks_subIn X e).here ?_)
    simp only [Bool.false_eq_true, if_false]
    refine wpAny_bind (wpAny_mono one (fun r s' z => ?_) fun _ _ z => z)
    obtain ⟨v, rfl, z⟩ := z
    exact wpAny_pure z
  · refine wpAny_bind (wpAny_pure ?_)
    simp only [Bool.false_eq_true, if_false]
    refine wpAny_bind (wpAny_mono one (fun r s' z => ?_) fun _ _ z => z)
    obtain ⟨v, rfl, z⟩ := z
    exact wpAny_pure z
end
end LB
set_option Elab.async false
set_option linter.all false
set_option autoImplicit false
set_option maxRecDepth 100000
set_option maxHeartbeats 4000000
namespace PD
open PySem PySem.Spec PyProof.Rows L2
/-! ### trees of nodes: two of the same data are equal -/
abbrev NCs := List (Str × List Str)
inductive Tr (nc : NCs) : Nat → D → Prop
  | int {n : Nat} {i : Int} : Tr nc n (.int i)
  | str {n : Nat} {z : Str} : Tr nc n (.str z)
  | tup {n : Nat} {ds : List D} : (∀ x ∈ ds, Tr nc n x) → Tr nc (n + 1) (.tup ds)
  | obj {n : Nat} {C : Str} {gs : List (Str × D)} : nc.lookup C = some (gs.map (·.1)) → (∀ p ∈ gs, Tr nc n p.2) → Tr nc (n + 1) (.obj C gs)
theorem Tr.up {nc : NCs} {n : Nat} {d : D} (h : Tr nc n d) : Tr nc (n + 1) d := by
  induction h with
  | int => exact .int
  | str => exact .str
  | tup _ ih => exact .tup ih
  | obj e _ ih => exact .obj e ih
theorem Tr.le {nc : NCs} {n m : Nat} {d : D} (h : Tr nc n d) (e : n ≤ m) : Tr nc m d := by
  induction e with
  | refl => exact h
  | step _ ih => exact ih.up
def FEq (nc : NCs) (n : Nat) (C : Str) : FD := fun ds μ Q _ => ∃ gs, ds = [.obj C gs, .obj C gs] ∧ Tr nc n (.obj C gs) ∧ Q (.bl true) μ
def EqM (P : Program) (w : World) (K : PySem.W.Frag) (mg : Str → Option Value) (base : Heap) (W : Wo) (nc : NCs) (k n : Nat) : Prop := ∀ C fs, nc.lookup C = some fs → MethX P w K mg base k (W.cl C) "__eq__" ["self", "other"] [] (spD W 2 (FEq nc n C))
section
variable {X : Cx} {W : Wo} {nc : NCs}
def LpD (X : Cx) (W : Wo) (pins : List (Addr × Obj)) (σ : L2.St) (hid : Hid) (H : Hp) (μ : Mu) (s' : Shared) : Prop := ∃ H', Inv X pins σ H' s' ∧ St H μ H' μ ∧ SR W hid H' μ
def EqD (X : Cx) (W : Wo) (nc : NCs) (m n : Nat) : Prop := ∀ (A : Around) (pins : List (Addr × Obj)) (s : Shared) (σ : L2.St) (H : Hp) (x y : V) (u v : Value) (hid : Hid) (μ : Mu) (d : D), Sub X m A → Inv X pins σ H s → RelV x u → RelV y v → SR W hid H μ → Rep W hid H μ x d → Rep W hid H μ y d → Tr nc n d →
  wpAny (model X.prog X.w) A (eqBool u v) (fun r s' => r = true ∧ LpD X W pins σ hid H μ s') X.xe s
theorem rc_tup {m n : Nat} (hK : X.K = W.K) (h : EqD X W nc m n) {A : Around} {pins : List (Addr × Obj)} {s : Shared} {σ : L2.St} {H : Hp} {x y : V} {u v : Value} {hid : Hid} {μ : Mu} {ds : List D} (sb : Sub X (m + 1) A) (I : Inv X pins σ H s) (rx : RelV x u) (ry : RelV y v) (sr : SR W hid H μ) (px : Rep W hid H μ x (.tup ds)) (py : Rep W hid H μ y (.tup ds)) (tr : ∀ z ∈ ds, Tr nc n z) :
    wpAny (model X.prog X.w) A (richCompare .Eq u v) (fun r s' => r = .bool true ∧ LpD X W pins σ hid H μ s') X.xe s := by
  obtain ⟨a, vs, rfl, ha, pa⟩ := tup_ok px
  obtain ⟨b, ws, rfl, hb, pb⟩ := tup_ok py
  cases rx
  cases ry
  rw [← hK] at ha hb
  obtain ⟨its, r, e, z⟩ := I.tuple ha
  obtain ⟨its2, r2, e2, z2⟩ := I.tuple hb
  have hsz : its.toArray.size = its2.toArray.size := by rw [List.size_toArray, List.size_toArray, ← r.length, ← r2.length, pa.length, pb.length]
  refine GQ.rc_tupG hsz sb.room.units0 (fun _ s' => LpD X W pins σ hid H μ s') e e2 (fun i h1 h2 s' q => ?_) (fun s' q => ⟨rfl, q⟩) ⟨H, I, .refl, sr⟩
  obtain ⟨H1, I1, st, sr1⟩ := q
  have h1' : i < its.length := by simpa using h1
  have h2' : i < its2.length := by simpa using h2
  have k1 : i < vs.length := by rw [r.length]; exact h1'
  have k2 : i < ws.length := by rw [r2.length]; exact h2'
  obtain ⟨u, hu, ru⟩ := r.get (List.getElem?_eq_getElem k1)
  obtain ⟨v, hv, rv⟩ := r2.get (List.getElem?_eq_getElem k2)
  obtain ⟨d, hd, pd⟩ := pa.get' (List.getElem?_eq_getElem k1)
  obtain ⟨d2, hd2, pd2⟩ := pb.get' (List.getElem?_eq_getElem k2)
  rw [hd] at hd2
  cases hd2
  have g1 : its.toArray[i] = u := by
    rw [List.getElem?_eq_getElem h1'] at hu
    rw [← Option.some.inj hu]
    simp
  have g2 : its2.toArray[i] = v := by
    rw [List.getElem?_eq_getElem h2'] at hv
    rw [← Option.some.inj hv]
    simp
  rw [g1, g2]
  refine wpAny_mono (h A.in1 pins s' σ H1 _ _ u v hid μ d sb.in1 I1 ru rv sr1 (pd.mono st.ok) (pd2.mono st.ok) (tr d (List.mem_of_getElem? hd))) (fun r s2 q => ?_) fun _ _ x => x
  obtain ⟨hr, H2, I2, st2, sr2⟩ := q
  exact ⟨hr, H2, I2, st.trans st2, sr2⟩
theorem obj_ok {hid : Hid} {H : Hp} {μ : Mu} {v : V} {C : Str} {gs : List (Str × D)} (r : Rep W hid H μ v (.obj C gs)) : ∃ a dx fs, v = .ref a ∧ H a = some (.ins (W.cl C) dx fs) := by
  cases r with
  | obj h _ _ _ _ _ => exact ⟨_, _, _, rfl, h⟩
theorem run_eq {k n : Nat} {C : Str} {f : Addr} {fd : FuncData} {gs : List (Str × D)} {A : Around} {pins : List (Addr × Obj)} {s : Shared} {σ : L2.St} {H : Hp} {a b : Addr} {hid : Hid} {μ : Mu} (F : FnOk X.prog X.w X.K X.mg X.base (L2.CX X.prog X.w) k f fd ["self", "other"] (spD W 2 (FEq nc n C))) (hb : Binds X.K fd ["self", "other"] [])
    (sb : Sub X k A) (I : Inv X pins σ H s) (sr : SR W hid H μ) (px : Rep W hid H μ (.ref a) (.obj C gs)) (py : Rep W hid H μ (.ref b) (.obj C gs)) (tr : Tr nc n (.obj C gs)) : wpAny (model X.prog X.w) A (call (.ref f) [.ref a, .ref b]) (fun v s' => v = .bool true ∧ LpD X W pins σ hid H μ s') X.xe s := by
  have hsp : spD W 2 (FEq nc n C) [.ref a, .ref b] H (fun v H' => v = .bl true ∧ St H μ H' μ ∧ SR W hid H' μ) E0 := by
    refine ⟨hid, [.obj C gs, .obj C gs], μ, fun d μ' => d = .bl true ∧ μ' = μ, fun _ _ => False, rfl, .cons px (.cons py .nil), sr, ⟨gs, rfl, tr, rfl, rfl⟩, fun v d H' μ' st sr' r q => ?_, fun _ _ _ _ _ _ _ _ z => z.elim⟩
    obtain ⟨rfl, rfl⟩ := q
    cases r
    exact ⟨rfl, st, sr'⟩
  have e0 : Env0 X.prog X.w X.K X.mg X.base A X.stack s H := by
    have e := I.env0
    exact ⟨by rw [sb.fr]; exact e.frames, e.mod, e.bs, e.bsz, e.funs, e.frf, e.hok, e.bare⟩
  have hl := F.len _ _ _ _ hsp
  have r2 : Vals [V.ref a, V.ref b] [Value.ref a, Value.ref b] := .cons rfl (.cons rfl .nil)
  refine wpAny_call (codeAny_mono (F.run A X.stack s H ⟨[.ref a, .ref b], []⟩ [.ref a, .ref b] [.ref a, .ref b] _ E0 sb.room e0 (by
    have := hb s [.ref a, .ref b] I.kIn (by simpa using hl)
    simpa using this) r2 hsp) fun r s' hq => ?_)
  cases r with
  | error e => exact passL pins σ H s e s' I hq
  | ok fl =>
    cases fl with
    | ret w =>
      obtain ⟨z, H', I', rz, ez, st, sr'⟩ := I.after hq
      subst ez
      cases rz
      exact ⟨rfl, H', I', st, sr'⟩
    | next => exact False.elim hq
    | brk => exact False.elim hq
    | cont => exact False.elim hq
theorem rc_obj {k n : Nat} {C : Str} {gs : List (Str × D)} (M : EqM X.prog X.w X.K X.mg X.base W nc k n) {A : Around} {pins : List (Addr × Obj)} {s : Shared} {σ : L2.St} {H : Hp} {x y : V} {u v : Value} {hid : Hid} {μ : Mu} (sb : Sub X k A) (I : Inv X pins σ H s) (rx : RelV x u) (ry : RelV y v) (sr : SR W hid H μ) (px : Rep W hid H μ x (.obj C gs)) (py : Rep W hid H μ y (.obj C gs)) (tr : Tr nc n (.obj C gs)) :
    wpAny (model X.prog X.w) A (richCompare .Eq u v) (fun r s' => r = .bool true ∧ LpD X W pins σ hid H μ s') X.xe s := by
  obtain ⟨a, dx, fs, rfl, ha⟩ := obj_ok px
  obtain ⟨b, dy, fs2, rfl, hb⟩ := obj_ok py
  cases rx
  cases ry
  have hl : ∃ fs, nc.lookup C = some fs := by
    cases tr with
    | obj e _ => exact ⟨_, e⟩
  obtain ⟨fl, hl⟩ := hl
  obtain ⟨f, fd, ds, F, hm, hi, hk, hb2, hd⟩ := (M C fl hl).ex
  cases hd
  obtain ⟨mA, J, _⟩ := ins_get I.hok ha
  obtain ⟨mB, J', _⟩ := ins_get I.hok hb
  obtain ⟨od, J, _⟩ := J.look
  obtain ⟨od', J', _⟩ := J'.look
  obtain ⟨m', hF⟩ := I.fr
  refine PySem.W.cmp_K (op := .Eq) (tb := .ref (W.cl C)) sb.room.units0 hF I.ok.mod.kin J J'.type (by simp [PySem.W.notFirst]) hm hi ?_
  refine wpAny_mono (run_eq F hb2 sb I sr px py tr) (fun v s' z => ?_) fun _ _ z => z
  obtain ⟨rfl, z⟩ := z
  exact ⟨rfl, z⟩
theorem eqD_ref {A : Around} {pins : List (Addr × Obj)} {s : Shared} {σ : L2.St} {H : Hp} {a b : Addr} {hid : Hid} {μ : Mu} (I : Inv X pins σ H s) (sr : SR W hid H μ) (h : wpAny (model X.prog X.w) A (richCompare .Eq (.ref a) (.ref b)) (fun r s' => r = .bool true ∧ LpD X W pins σ hid H μ s') X.xe s) :
    wpAny (model X.prog X.w) A (eqBool (.ref a) (.ref b)) (fun r s' => r = true ∧ LpD X W pins σ hid H μ s') X.xe s := by
  by_cases hab : a = b
  · subst hab
    exact SeqAt.EqAt.same (A := A) (s := s) (.ref a) X.prog X.w X.xe _ ⟨rfl, H, I, .refl, sr⟩
  · refine GQ.eqBool_refG hab (wpAny_mono h (fun r s' q => ?_) fun _ _ x => x)
    obtain ⟨hr', q⟩ := q
    exact ⟨true, hr', rfl, q⟩
theorem eqD_all (hK : X.K = W.K) : ∀ (n : Nat), (∀ m, m ≤ n → EqM X.prog X.w X.K X.mg X.base W nc (2 * m + 3) m) → EqD X W nc (2 * n + 3) n
  | n, M => fun A pins s σ H x y u v hid μ d sb I rx ry sr px py tr => by
    have flat : ∀ {z : V} {t : Value}, True := fun {_ _} => trivial
    cases tr with
    | int =>
      cases px
      cases py
      have q := eqAt_V (A := A) (s := s) rx ry rfl rfl
      rw [show eqV (.int _) (.int _) = true from by simp [eqV]] at q
      exact q X.prog X.w X.xe _ ⟨rfl, H, I, .refl, sr⟩
    | str =>
      cases px
      cases py
      have q := eqAt_V (A := A) (s := s) rx ry rfl rfl
      rw [show eqV (.str _) (.str _) = true from by simp [eqV]] at q
      exact q X.prog X.w X.xe _ ⟨rfl, H, I, .refl, sr⟩
    | @tup m ds h =>
      have ih := eqD_all hK m fun j hj => M j (by omega)
      have q := rc_tup hK ih (sb.mono (by omega)) I rx ry sr px py h
      obtain ⟨a, _, rfl, _⟩ := tup_ok px
      obtain ⟨b, _, rfl, _⟩ := tup_ok py
      cases rx
      cases ry
      exact eqD_ref I sr q
    | @obj m C gs e h =>
      have q := rc_obj (M (m + 1) (Nat.le_refl _)) sb I rx ry sr px py (.obj e h)
      obtain ⟨a, _, _, rfl, _⟩ := obj_ok px
      obtain ⟨b, _, _, rfl, _⟩ := obj_ok py
      cases rx
      cases ry
      exact eqD_ref I sr q
/-! ### the operators -/
def oEqTup (nc : NCs) (n : Nat) : OD := fun d e μ Q => d = e ∧ (match d with | .tup ds => ∀ x ∈ ds, Tr nc n x | _ => False) ∧ Q (.bl true) μ
theorem od_eqTup {n : Nat} (hK : X.K = W.K) (M : ∀ m, m ≤ n → EqM X.prog X.w X.K X.mg X.base W nc (2 * m + 3) m) (hr : Room (2 * n + 4) X.A) : OpR X (compareOp .Eq) (rD W (oEqTup nc n)) := by
  intro pins s σ H x y v u Q I rx ry hh
  obtain ⟨hid, μ, d, e, Qd, sr, px, py, ⟨rfl, hd, q⟩, pq⟩ := hh
  split at hd
  · show wpAny (model X.prog X.w) X.A (richCompare .Eq v u) (EP X pins σ Q) X.xe s
    refine wpAny_mono (rc_tup hK (eqD_all hK n M) ⟨hr, rfl⟩ I rx ry sr px py hd) (fun r s' z => ?_) fun _ _ x => x
    obtain ⟨rfl, H', I', st, sr'⟩ := z
    exact ⟨.bl true, H', I', rfl, pq _ _ H' μ st sr' (.bl true) q⟩
  · exact hd.elim
/-- the kind of a node's class -/
structure KdC (K : PySem.W.Frag) (W : Wo) (C kd : Str) : Prop where
  ex : ∃ u, Con K (W.cl C) "KIND" (.str kd) u
def eKd (C kd : Str) (td : TDE) : TDE := fun Xd ρ μ Q => td Xd ρ μ fun d μ1 => match d with
  | .obj C' gs => C' = C ∧ gs.lookup ("KIND" : Str) = none ∧ Q (.str kd) μ1
  | _ => False
theorem be_kd {Wk : WX} {C kd : Str} {e : Expr} {td : TDE} {pos : Pos} (CW : TW X.K X.w W) (k : KdC X.K W C kd) (he : BE X W Wk e td) (hb : attributeBase e "KIND" X.env (eval e X.env) = eval e X.env := by rfl) : BE X W Wk (.Attribute e "KIND" pos) (eKd C kd td) :=
  PE.weak (pe_con he hb) fun σ H Q ⟨hid, ρ, μ, Xd, Qd, rel, sr, q, pq, px⟩ => by
    refine ⟨hid, ρ, μ, Xd, _, rel, sr, q, fun v d H1 μ1 s1 sr1 r1 q1 => ?_, px⟩
    dsimp only at q1
    split at q1
    · rename_i gs
      obtain ⟨rfl, hl, q1⟩ := q1
      obtain ⟨u, hu⟩ := k.ex
      cases r1 with
      | obj ha _ _ co fo rf =>
        have ro := lookF_ok (f := "KIND") rf
        rw [hl] at ro
        generalize hll : List.lookup ("KIND" : Str) _ = o at ro
        cases ro
        exact ⟨_, _, _, _, _, u, rfl, ha, (CW.own _ co).1, hu, hll, pq _ _ H1 μ1 s1 sr1 (.str _) q1⟩
    · exact q1.elim
theorem MethX.weak {P : Program} {w : World} {K : PySem.W.Frag} {mg : Str → Option Value} {base : Heap} {k n : Nat} {C : Addr} {m : Str} {ps : List Str} {dvs : List V} {F F' : FD} (D : MethX P w K mg base k C m ps dvs (spD W n F)) (h : ∀ ds μ Q Xd, F' ds μ Q Xd → F ds μ Q Xd) : MethX P w K mg base k C m ps dvs (spD W n F') := by
  obtain ⟨f, fd, ds, F1, h1, h2, h3, h4, h5⟩ := D.ex
  have up : ∀ vs H Q E, spD W n F' vs H Q E → spD W n F vs H Q E := fun vs H Q E ⟨hid, ds, μ, Qd, Xd, a, b, c, d, e⟩ => ⟨hid, ds, μ, Qd, Xd, a, b, c, h _ _ _ _ d, e⟩
  exact ⟨f, fd, ds, ⟨fun vs H Q E q => F1.len _ _ _ _ (up _ _ _ _ q), fun A outer s H args us vs Q E hr he hb hv hs => F1.run A outer s H args us vs Q E hr he hb hv (up _ _ _ _ hs)⟩, h1, h2, h3, h4, h5⟩
def oEqTr (nc : NCs) (n : Nat) : OD := fun d e μ Q => d = e ∧ Tr nc n d ∧ (match d with | .tup _ => True | .obj _ _ => True | _ => False) ∧ Q (.bl true) μ
theorem od_eqTr {n : Nat} (hK : X.K = W.K) (M : ∀ m, m ≤ n → EqM X.prog X.w X.K X.mg X.base W nc (2 * m + 3) m) (hr : Room (2 * n + 3) X.A) : OpR X (compareOp .Eq) (rD W (oEqTr nc n)) := by
  intro pins s σ H x y v u Q I rx ry hh
  obtain ⟨hid, μ, d, e, Qd, sr, px, py, ⟨rfl, tr, hd, q⟩, pq⟩ := hh
  have fin : wpAny (model X.prog X.w) X.A (richCompare .Eq v u) (fun r s' => r = .bool true ∧ LpD X W pins σ hid H μ s') X.xe s → wpAny (model X.prog X.w) X.A (compareOp .Eq v u) (EP X pins σ Q) X.xe s := fun h => by
    show wpAny (model X.prog X.w) X.A (richCompare .Eq v u) (EP X pins σ Q) X.xe s
    refine wpAny_mono h (fun r s' z => ?_) fun _ _ x => x
    obtain ⟨rfl, H', I', st, sr'⟩ := z
    exact ⟨.bl true, H', I', rfl, pq _ _ H' μ st sr' (.bl true) q⟩
  cases tr with
  | int => exact hd.elim
  | str => exact hd.elim
  | @tup m ds h => exact fin (rc_tup hK (eqD_all hK m fun j hj => M j (by omega)) (Sub.mono ⟨hr, rfl⟩ (by omega)) I rx ry sr px py h)
  | @obj m C gs e h => exact fin (rc_obj (M (m + 1) (Nat.le_refl _)) ⟨hr, rfl⟩ I rx ry sr px py (.obj e h))
structure NeM (K : PySem.W.Frag) (W : Wo) (nc : NCs) : Prop where
  ok : ∀ C fs, nc.lookup C = some fs → PySem.W.findIn K (.ref (W.cl C)) "__ne__" = some (some (.builtin "object.__ne__")) ∧ PySem.W.mroIn K (W.cl C) (.type "object") = some true
def oNeTr (nc : NCs) (n : Nat) : OD := fun d e μ Q => d = e ∧ Tr nc n d ∧ (match d with | .obj _ _ => True | _ => False) ∧ Q (.bl false) μ
theorem od_neTr {n : Nat} (T : NeM X.K W nc) (M : EqM X.prog X.w X.K X.mg X.base W nc (2 * n + 3) n) (hr : Room (2 * n + 4) X.A) : OpR X (compareOp .NotEq) (rD W (oNeTr nc n)) := by
  intro pins s σ H x y v u Q I rx ry hh
  obtain ⟨hid, μ, d, e, Qd, sr, px, py, ⟨rfl, tr, hd, q⟩, pq⟩ := hh
  cases tr with
  | int => exact hd.elim
  | str => exact hd.elim
  | tup _ => exact hd.elim
  | @obj m C gs e h =>
    obtain ⟨a, dx, fs, rfl, ha⟩ := obj_ok px
    obtain ⟨b, dy, fs2, rfl, hb⟩ := obj_ok py
    cases rx
    cases ry
    obtain ⟨f, fd, ds, F, hm, hi, hk, hb2, hdd⟩ := (M C _ e).ex
    cases hdd
    obtain ⟨t1, t2⟩ := T.ok C _ e
    obtain ⟨mA, J, _⟩ := ins_get I.hok ha
    obtain ⟨mB, J', _⟩ := ins_get I.hok hb
    obtain ⟨od, J, _⟩ := J.look
    obtain ⟨od', J', _⟩ := J'.look
    have KX := I.kIn
    have sb : Sub X (2 * (m + 1) + 3) X.A.in1 := ⟨hr.in1, rfl⟩
    have q2 := run_eq F hb2 sb I sr px py (.obj e h)
    show wpAny (model X.prog X.w) X.A (richCompare .NotEq (.ref a) (.ref b)) (EP X pins σ Q) X.xe s
    have hu := hr.units
    obtain ⟨hp, g, dr, tk, os⟩ := s
    refine LB.ne_K (tb := .ref (W.cl C)) KX J J'.type (by simp [PySem.W.notFirst]) t1 hm hi t2 (by omega) (wpAny_mono q2 (fun v s' z => ?_) fun _ _ z => z)
    obtain ⟨rfl, H', I', st, sr'⟩ := z
    exact ⟨true, rfl, .bl false, H', I', rfl, pq _ _ H' μ st sr' (.bl false) q⟩
end
end PD
set_option Elab.async false
set_option linter.all false
set_option autoImplicit false
set_option maxRecDepth 100000
set_option maxHeartbeats 4000000
namespace PD
open PySem PySem.Spec PyProof.Rows L2
section
variable {X : Cx} {W : Wo} {Wk : WX}
theorem Reps.dropLast {hid : Hid} {H : Hp} {μ : Mu} {vs : List V} {ds : List D} (r : Reps W hid H μ vs ds) : Reps W hid H μ vs.dropLast ds.dropLast := by
  rw [List.dropLast_eq_take, List.dropLast_eq_take, r.length]
  exact r.take _
theorem Reps.erase {hid : Hid} {H : Hp} {μ : Mu} : ∀ {vs : List V} {ds : List D} (k : Nat), Reps W hid H μ vs ds → Reps W hid H μ (vs.eraseIdx k) (ds.eraseIdx k)
  | _, _, _, .nil => .nil
  | _, _, 0, .cons _ t => t
  | _, _, k + 1, .cons h t => .cons h (Reps.erase k t)
def mPop : MD := fun d ds μ Q => match ds with
  | [] => lstS d μ fun a xs => (match xs[xs.length - 1]? with | some y => Q y (μ.set a (.lst xs.dropLast)) | none => False)
  | [.int i] => lstS d μ fun a xs => (-(2 ^ 63) ≤ i ∧ i < 2 ^ 63) ∧ (match seqIndex? i xs.length with | some k => (match xs[k]? with | some y => Q y (μ.set a (.lst (xs.eraseIdx k))) | none => False) | none => False)
  | _ => False
theorem md_pop : MtR X "list.pop" (rMD W mPop) := MtR.weak (fun pins s σ H x xs v us Q I rx rs z => z.elim (fun z => mt_pop pins s σ H x xs v us Q I rx rs z) (fun z => mt_popAt pins s σ H x xs v us Q I rx rs z) : MtR X "list.pop" (fun x vs H Q => rPop x vs H Q ∨ rPopAt x vs H Q)) fun x vs H Q ⟨hid, μ, d, ds, Qd, sr, r, rs, h, pq⟩ => by
  unfold mPop at h
  split at h
  · cases rs
    obtain ⟨a, xs, us, rfl, hm, ha, q, h⟩ := lstS_ok sr r h
    split at h
    · rename_i y hy
      obtain ⟨v, hv, rv⟩ := q.get hy
      rw [← q.length] at hv
      exact .inl ⟨a, us, v, rfl, rfl, ha, hv, put_lst sr hm q.dropLast rv h pq⟩
    · exact h.elim
  · rename_i i
    cases rs with
    | cons ra rr =>
      cases rr
      cases ra
      obtain ⟨a, xs, us, rfl, hm, ha, q, hi, h⟩ := lstS_ok sr r h
      split at h
      · rename_i k hk
        split at h
        · rename_i y hy
          obtain ⟨v, hv, rv⟩ := q.get hy
          exact .inr ⟨a, us, i, k, v, rfl, rfl, ha, hi.1, hi.2, by rw [q.length]; exact hk, hv, put_lst sr hm (q.erase k) rv h pq⟩
        · exact h.elim
      · exact h.elim
  · exact h.elim
def mClear : MD := fun d ds μ Q => match ds with
  | [] => lstS d μ fun a _ => Q .non (μ.set a (.lst []))
  | _ => False
theorem md_clear : MtR X "list.clear" (rMD W mClear) := MtR.weak mt_clear fun x vs H Q ⟨hid, μ, d, ds, Qd, sr, r, rs, h, pq⟩ => by
  unfold mClear at h
  split at h
  · cases rs
    obtain ⟨a, xs, us, rfl, hm, ha, q, h⟩ := lstS_ok sr r h
    exact ⟨a, us, rfl, rfl, ha, put_lst sr hm .nil .non h pq⟩
  · exact h.elim
end
end PD
set_option Elab.async false
set_option linter.all false
set_option autoImplicit false
set_option maxRecDepth 100000
set_option maxHeartbeats 4000000
namespace PD
open PySem PySem.Spec PyProof.Rows L2
open AutoSeq1 (wpAny_loadPart')
open MeetsSeq MeetsSeq2 MeetsSeq3 SeqRoads2
/-! ### x != (), x a tuple of anything -/
theorem tup_ne_nil {P : Program} {w : World} {A : Around} {R : Result → Shared → Prop} (l b : Addr) (items : Array Value) (n n2 : Nat) (dd dd2 : Option Addr) (sl sl2 : Array (Option Value)) {s : Shared} (hl1 : s.heap.get? l = some { cls := .type "tuple", dict := dd, data := .seq items n, slots := sl }) (hb1 : s.heap.get? b = some { cls := .type "tuple", dict := dd2, data := .seq #[] n2, slots := sl2 })
    (h : R (.ok (.ret (.bool (!items.isEmpty)))) s) : wpAny (model P w) A.in1 (Builtin.«tuple.__ne__» ⟨[.ref l, .ref b], []⟩) (GQ.FinOf P w A R) (fun e s' => R (.error e) s') s := by
  have f2 := AutoSeq1.sub_tuple_tuple
  obtain ⟨hp, g, d, tk, os⟩ := s
  have hz : items.toList.zip (#[] : Array Value).toList = [] := by simp
  wp_walk using wpAny_loadPart' hl1, wpAny_loadPart' hb1, wpAny_forIn_list _ (fun rest b s' => rest = [] ∧ b.1 = none ∧ s' = ⟨hp, g, d, tk, os⟩) _
  case turn =>
    rintro x rest b s' ⟨hr, _⟩
    cases hr
  case fin =>
    rintro ⟨b1, b2⟩ s' ⟨_, hb', hs⟩
    simp only at hb'
    subst hb' hs
    wp_walk
    have e : Builtin.Tuple.tupleCompareSizes .NotEq items.size (#[] : Array Value).size = .bool (!items.isEmpty) := by
      simp only [Builtin.Tuple.tupleCompareSizes]
      cases items with
      | mk xs => cases xs <;> simp
    rw [e]
    exact h
  case h => exact ⟨hz, rfl, rfl⟩
def oNeNil : OD := fun d e μ Q => match d, e with
  | .tup ds, .tup [] => Q (.bl (!ds.isEmpty)) μ
  | _, _ => False
theorem od_neNil {X : Cx} {W : Wo} (hK : X.K = W.K) (hu : X.A.units + 1 < cLine) : OpR X (compareOp .NotEq) (rD W oNeNil) := by
  intro pins s σ H x y v u Q I rx ry hh
  obtain ⟨hid, μ, d, e, Qd, sr, px, py, q, pq⟩ := hh
  unfold oNeNil at q
  split at q
  · rename_i ds
    obtain ⟨a, vs, rfl, ha, pa⟩ := tup_ok px
    obtain ⟨b, ws, rfl, hb, pb⟩ := tup_ok py
    cases rx
    cases ry
    cases pb
    rw [← hK] at ha hb
    obtain ⟨its, r, e1, z⟩ := I.tuple ha
    obtain ⟨its2, r2, e2, z2⟩ := I.tuple hb
    cases r2
    have hl : its.toArray.isEmpty = ds.isEmpty := by
      have h1 := r.length
      have h2 := pa.length
      cases its with
      | nil => cases ds with
        | nil => rfl
        | cons _ _ => rw [h2] at h1; cases h1
      | cons _ _ => cases ds with
        | nil => rw [h2] at h1; cases h1
        | cons _ _ => rfl
    obtain ⟨⟨cls, dd, data, sl⟩, ho, hc, n, hd⟩ := id e1
    obtain ⟨⟨cls2, dd2, data2, sl2⟩, ho2, hc2, n2, hd2⟩ := id e2
    simp only at hc hd hc2 hd2
    subst hc hd hc2 hd2
    show wpAny (model X.prog X.w) X.A (richCompare .NotEq (.ref a) (.ref b)) (EP X pins σ Q) X.xe s
    refine wpAny_richCompare_same_room (op := .NotEq) ⟨_, ho, rfl⟩ ⟨_, ho2, rfl⟩ F.slot_tuple_ne (GQ.call_here F.slot_tuple_ne ⟨_, ho, rfl⟩ F.entry_tuple_ne (F.args_tuple_ne_2 _ _) ?_) (Nat.lt_of_succ_lt hu)
    refine tup_ne_nil (R := wants (fun v s' => v ≠ .notImplemented ∧ EP X pins σ Q v s') X.xe) a b its.toArray n n2 dd dd2 sl sl2 ho ho2 ?_
    refine ⟨(fun x => nomatch x), .bl (!ds.isEmpty), H, I, ?_, pq _ _ H μ .refl sr (.bl _) q⟩
    rw [hl]
    rfl
  · exact q.elim
end PD
set_option Elab.async false
set_option linter.all false
set_option autoImplicit false
set_option maxRecDepth 100000
set_option maxHeartbeats 4000000
namespace PD
open PySem PySem.Spec PyProof.Rows L2
/-! ### methods m(self, *words) -/
structure MethV (P : Program) (w : World) (K : PySem.W.Frag) (mg : Str → Option Value) (base : Heap) (k : Nat) (C : Addr) (m : Str) (sp : Sp) : Prop where
  ex : ∃ f : Addr, FnR P w K mg base (L2.CX P w) k f sp ∧ PySem.W.findIn K (.ref C) m = some (some (.ref f)) ∧ PySem.W.isFn K (.ref f) = true ∧ PySem.W.keepIn K (.ref f) = true
structure TopMethV (K : PySem.W.Frag) (C : Addr) (m qual : Str) (st : Stmt) (pa pv : Str) : Prop where
  ex : ∃ (f : Addr) (fd : FuncData), Fun K m qual st f fd ∧ PySem.W.findIn K (.ref C) m = some (some (.ref f)) ∧ PySem.W.isFn K (.ref f) = true ∧ ∀ us rest : List Value, us.length = [pa].length → bindArgs fd ⟨us ++ rest, []⟩ = (newTuple rest >>= fun t => pure ([pa].zip us ++ [(pv, t)]))
def spV (W : Wo) (F : FD) : Sp := fun vs H Q E => ∃ hid d rest μ Qd Xd, Reps W hid H μ vs (d :: rest) ∧ SR W hid H μ ∧ rest.length ≤ sizeLine ∧ F [d, .tup rest] μ Qd Xd ∧ PQ W hid H μ Qd Q ∧ PF W hid H μ Xd E
section
variable {P : Program} {w : World} {K : PySem.W.Frag} {mg : Str → Option Value} {base : Heap} {W : Wo}
theorem TopMethV_okD {C : Addr} {m qual : Str} {st : Stmt} {N : List Str} {pa pv : Str} {k : Nat} {ts : TDS} (F : TopMethV K C m qual st pa pv) (S : FnScope N [pa, pv] (defScope st))
    (hbody : ∀ (f : Addr) (cdv : Value) (A : Around) (outer : List PySem.Env) (s : Shared) (H : Hp) (E : XK), Room k (A.deeper (envOfC qual (defScope st) s.heap.objs.size f cdv)) →
      BSs (cxOf (L2.CX P w) P w K mg base N qual (defScope st) f cdv A outer s H E) W (fun cls d _ H => E cls d H) (defBody st) ts) : MethV P w K mg base (k + 1) C m (spV W (fnD N.length ts)) := by
  obtain ⟨f, fd, F, hm, hi, hb⟩ := F.ex
  obtain ⟨⟨oc, od, kV, doc, pm, an, cdv, ct, osl, rfl, l, c⟩, kp⟩ := F
  refine ⟨f, ?_, hm, hi, kp⟩
  have R := StX.fn_star (k := k) (ps := [pa]) (pv := pv) (P := P) (w := w) (mg := mg) (base := base) (sp := spD W 2 (fnD N.length ts)) l c S StX.cxUp hb (fun A outer s H vs Q E hr h => ⟨_, hbody f cdv A outer s H E hr, body_ok h⟩)
  intro A outer s H us vs Q E hr e0 r hsp
  refine R A outer s H us vs Q E hr e0 r ?_
  obtain ⟨hid, d, rest, μ, Qd, Xd, rp, sr, hz, hf, pq, px⟩ := hsp
  cases rp with
  | @cons v vs' _ _ r1 r2 =>
    refine ⟨[v], vs', rfl, rfl, by rw [r2.length]; exact hz, fun p hp => ?_⟩
    have s1 : St H μ (upd H p (.tup vs')) μ := St.new hp
    have sr1 := sr.new (o := .tup vs') hp
    refine ⟨hid, [d, .tup rest], μ, Qd, Xd, rfl, .cons (r1.mono s1.ok) (.cons (.tup (.inl upd_same) (sr.fresh hp) (sr.nhid hp) (r2.mono s1.ok)) .nil), sr1, hf, pq.st s1, fun y cls dd H' μ' s' sr' xr q' => px y cls dd H' μ' (s1.trans s') sr' xr q'⟩
end
section
variable {X : Cx} {W : Wo} {Wk : WX}
theorem run_fnRA {k : Nat} {f : Addr} {sp : Sp} {E : XK} {Q : VK} {us : List Value} {vs : List V} {pins : List (Addr × Obj)} {σ : L2.St} {H : Hp} {s : Shared} (F : FnR X.prog X.w X.K X.mg X.base (L2.CX X.prog X.w) k f sp) (hr : Room k X.A) (hx : PassesAt (L2.CX X.prog X.w) X σ E) (I : Inv X pins σ H s) (r : Vals vs us) (h : sp vs H Q E) :
    wpAny (model X.prog X.w) X.A (call (.ref f) us) (EP X pins σ Q) X.xe s := by
  refine wpAny_call (codeAny_mono (F X.A X.stack s H us vs Q E hr I.env0 r h) fun r s' hq => ?_)
  cases r with
  | error e => exact hx pins H s e s' I hq
  | ok fl =>
    cases fl with
    | ret u => exact I.after hq
    | next => exact hq.elim
    | brk => exact hq.elim
    | cont => exact hq.elim
section
variable {C : Addr} {k : Nat} {m : Str} {sp : Sp} {o e : Expr} {es : List Expr} {ta : TE} {t : TA} {apos pos p : Pos} {x : Str}
theorem pe_mthV {pl : Sem Bool} (c : Cls X.K C) (D : MethV X.prog X.w X.K X.mg X.base k C m sp) (tk : Takes X Wk) (hr : Room k X.A) (he : PE X o ta) (ha : PA X (e :: es) t)
    (hst : starEach (e :: es) X.env = (false, eval e X.env) :: starEach es X.env := by rfl) (hpl : (backTo pos (starEach es X.env)).any (·.1) = false := by rfl)
    (ht : eval (.Call (.Attribute o m apos) (e :: es) [] pos) X.env = (eval o X.env >>= fun ov => standAt apos.atName >>= fun _ => holding [ov] (getMethod ov m pl) >>= fun fa => callWith pos fa.1 fa.2 (backTo pos (starEach (e :: es) X.env)) (backToKw pos (keywordEach [] X.env))) := by rfl) :
    PE X (.Call (.Attribute o m apos) (e :: es) [] pos) (tMethX C m sp [] Wk ta t) := by
  obtain ⟨f, F, hm, hi, hk⟩ := D.ex
  refine ⟨fun pins s σ H Q I h => PySem.W.methodCall_KW (pl := pl) (thn (he.run pins s σ H _ I h) fun u s1 ⟨y, H1, I1, ry, a, dx, fs, ey, ea, l, q⟩ => ?_) ht⟩
  subst ey
  cases (show u = Value.ref a from ry)
  refine getmeth_ok I1 ea c ⟨hm, hi, hk⟩ l (PySem.W.callWith_K (first := [.ref a]) (h₀ := X.base) I.ok.mod.kin hk (thn (ha.run pos pins s1 σ H1 _ I1 q) fun us s2 ⟨vs, H2, I2, r, q2⟩ => ⟨I2.kIn, ?_⟩) hst hpl)
  dsimp only at q2
  rw [List.append_nil] at q2
  exact run_fnRA (us := .ref a :: us) (vs := .ref a :: vs) F hr (passAt tk σ) I2 (.cons rfl r) q2
theorem pe_mthV0 {pl : Sem Bool} (c : Cls X.K C) (D : MethV X.prog X.w X.K X.mg X.base k C m sp) (tk : Takes X Wk) (hr : Room k X.A) (he : PE X o ta)
    (ht : eval (.Call (.Attribute o m apos) [] [] pos) X.env = (eval o X.env >>= fun ov => standAt apos.atName >>= fun _ => holding [ov] (getMethod ov m pl) >>= fun fa => callWith pos fa.1 fa.2 (backTo pos (starEach [] X.env)) (backToKw pos (keywordEach [] X.env))) := by rfl) :
    PE X (.Call (.Attribute o m apos) [] [] pos) (tMethX C m sp [] Wk ta tNil) := by
  obtain ⟨f, F, hm, hi, hk⟩ := D.ex
  refine ⟨fun pins s σ H Q I h => PySem.W.methodCall_KW (pl := pl) (thn (he.run pins s σ H _ I h) fun u s1 ⟨y, H1, I1, ry, a, dx, fs, ey, ea, l, q⟩ => ?_) ht⟩
  subst ey
  cases (show u = Value.ref a from ry)
  exact getmeth_ok I1 ea c ⟨hm, hi, hk⟩ l (PySem.W.callWith_K0 (first := [.ref a]) I1.kIn hk (run_fnRA (us := [.ref a]) (vs := [.ref a]) F hr (passAt tk σ) I1 (.cons rfl .nil) q))
end
section
variable {C0 : Str} {k : Nat} {m : Str} {F : FD} {o e : Expr} {es : List Expr} {td : TDE} {ta : TDA} {apos pos p : Pos} {pl : Sem Bool}
def eMethV (C m : Str) (F : FD) (td : TDE) (ta : TDA) : TDE := fun Xd ρ μ Q => td Xd ρ μ fun d μ1 => (match insOf d μ1 with | some (C', gs) => C' = C ∧ gs.lookup m = none ∧ ta Xd ρ μ1 (fun ds μ2 => ds.length ≤ sizeLine ∧ F [d, .tup ds] μ2 Q fun x μ3 => Xd x ρ μ3) | none => False)
theorem methV_td {σ : L2.St} {H : Hp} {Q : VK} (h : TD W Wk (eMethV C0 m F td ta) σ H Q) : tMethX (W.cl C0) m (spV W F) [] Wk (TD W Wk td) (TDa W Wk ta) σ H Q := by
  obtain ⟨hid, ρ, μ, Xd, Qd, rel, sr, q, pq, px⟩ := h
  refine ⟨hid, ρ, μ, Xd, _, rel, sr, q, fun v d H1 μ1 s1 sr1 r1 q1 => ?_, px⟩
  dsimp only at q1
  split at q1
  · rename_i C' gs eg
    obtain ⟨rfl, hl, q1⟩ := q1
    obtain ⟨a, dx, fs, rfl, ha, qf, c, fo⟩ := insOf_ok eg sr1 r1
    have ro := lookF_ok (f := m) qf
    rw [hl] at ro
    have hl2 : fs.lookup m = none := by
      cases e1 : fs.lookup m with
      | none => rfl
      | some y => rw [e1] at ro; cases ro
    refine ⟨a, dx, fs, rfl, ha, hl2, hid, ρ, μ1, Xd, _, rel_mono s1.ok rel, sr1, q1, fun vs ds H2 μ2 s2 sr2 r2 q2 => ?_, px.st s1⟩
    dsimp only
    rw [List.append_nil]
    exact ⟨hid, d, ds, μ2, Qd, _, .cons (r1.mono s2.ok) r2, sr2, q2.1, q2.2, pq.st (s1.trans s2), fun y cls dd H' μ' s' sr' xr q' => px y cls dd H' μ' ((s1.trans s2).trans s') sr' xr q'⟩
  · exact q1.elim
theorem be_methV (C : TW X.K X.w W) (co : W.cok C0) (D : MethV X.prog X.w X.K X.mg X.base k (W.cl C0) m (spV W F)) (tk : Takes X Wk) (hr : Room k X.A) (ho : BE X W Wk o td) (ha : BA X W Wk (e :: es) ta)
    (hst : starEach (e :: es) X.env = (false, eval e X.env) :: starEach es X.env := by rfl) (hpl : (backTo pos (starEach es X.env)).any (·.1) = false := by rfl)
    (ht : eval (.Call (.Attribute o m apos) (e :: es) [] pos) X.env = (eval o X.env >>= fun ov => standAt apos.atName >>= fun _ => holding [ov] (getMethod ov m pl) >>= fun fa => callWith pos fa.1 fa.2 (backTo pos (starEach (e :: es) X.env)) (backToKw pos (keywordEach [] X.env))) := by rfl) :
    BE X W Wk (.Call (.Attribute o m apos) (e :: es) [] pos) (eMethV C0 m F td ta) := PE.weak (pe_mthV (C.own C0 co).1 D tk hr ho ha hst hpl ht) fun _ _ _ h => methV_td h
theorem be_methV0 (C : TW X.K X.w W) (co : W.cok C0) (D : MethV X.prog X.w X.K X.mg X.base k (W.cl C0) m (spV W F)) (tk : Takes X Wk) (hr : Room k X.A) (ho : BE X W Wk o td)
    (ht : eval (.Call (.Attribute o m apos) [] [] pos) X.env = (eval o X.env >>= fun ov => standAt apos.atName >>= fun _ => holding [ov] (getMethod ov m pl) >>= fun fa => callWith pos fa.1 fa.2 (backTo pos (starEach [] X.env)) (backToKw pos (keywordEach [] X.env))) := by rfl) :
    BE X W Wk (.Call (.Attribute o m apos) [] [] pos) (eMethV C0 m F td aNil) := PE.weak (pe_mthV0 (C.own C0 co).1 D tk hr ho ht) fun σ H Q h => by
  obtain ⟨hid, ρ, μ, Xd, Qd, rel, sr, q, pq, px⟩ := methV_td h
  refine ⟨hid, ρ, μ, Xd, Qd, rel, sr, q, fun v d H' μ' s' sr' r' q' => ?_, px⟩
  obtain ⟨a, dx, fs, h1, h2, h3, hid, ρ, μ, Xd, Qd, rel, sr, q, pq, px⟩ := pq v d H' μ' s' sr' r' q'
  exact ⟨a, dx, fs, h1, h2, h3, pq [] [] H' μ .refl sr .nil q⟩
end
end
end PD
set_option Elab.async false
set_option linter.all false
set_option autoImplicit false
set_option maxRecDepth 100000
set_option maxHeartbeats 4000000
namespace PD
open PySem PySem.Spec PyProof.Rows L2
/-! ### list(range(n)) -/
section
variable {X : Cx} {W : Wo} {Wk : WX}
def rgD (a b : Int) : List D := (List.range (b - a).toNat).map fun i => D.int (a + (i : Nat))
theorem rg_reps {hid : Hid} {H : Hp} {μ : Mu} (a b : Int) : Reps W hid H μ (rgV a b) (rgD a b) := by
  unfold rgV rgD
  generalize List.range (b - a).toNat = l
  induction l with
  | nil => exact .nil
  | cons x r ih => exact .cons (.int _) ih
def eListR1 (m : Bool) (te : TDE) : TDE := fun Xd ρ μ Q => te Xd ρ μ fun d μ1 => match d with | .int n => RgOk 0 n ∧ newL m (rgD 0 n) μ1 Q | _ => False
theorem be_listR1 {m : Bool} {a : Expr} {te : TDE} {p pos p2 pos2 : Pos} (hc : X.calm = true) (hg : Gl X "list") (hm : X.mg "list" = none) (hg2 : Gl X "range") (hm2 : X.mg "range" = none) (ha : BE X W Wk a te)
    (na : starEach [a] X.env = (false, eval a X.env) :: starEach [] X.env := by rfl) (nb : starEach [.Call (.Name "range" p2) [a] [] pos2] X.env = (false, eval (.Call (.Name "range" p2) [a] [] pos2) X.env) :: starEach [] X.env := by rfl) :
    BE X W Wk (.Call (.Name "list" p) [.Call (.Name "range" p2) [a] [] pos2] [] pos) (eListR1 m te) :=
  PE.weak (pe_listRg hc hg hm (prg_1 hg2 hm2 ha na) nb) fun σ H Q ⟨hid, ρ, μ, Xd, Qd, rel, sr, q, pq, px⟩ => by
    refine ⟨hid, ρ, μ, Xd, _, rel, sr, q, fun v d H1 μ1 s1 sr1 r1 q1 => ?_, px⟩
    cases r1 with
    | int i => exact ⟨i, rfl, q1.1, fun p hp => newL_ok sr1 (rg_reps 0 i) hp q1.2 (pq.st s1)⟩
    | _ => exact q1.elim
/-! ### x or y, by truth -/
theorem truD_ok {hid : Hid} {H : Hp} {μ : Mu} {v : V} {d : D} {b : Bool} (hK : X.K = W.K) (sr : SR W hid H μ) (r : Rep W hid H μ v d) (hb : truD d μ = some b) : TruV X.K v H b := by
  unfold truD at hb
  split at hb
  · cases r; cases hb; rfl
  · cases r; cases hb; rfl
  · cases r; cases hb; rfl
  · cases hs : seqOf d μ with
    | none => rw [hs] at hb; cases hb
    | some xs =>
      rw [hs] at hb
      cases hb
      obtain ⟨a, vs, rfl, ha, qa⟩ := seqOf_ok hs sr r
      rw [← hK] at ha
      rcases ha with ha | ha
      · exact .inl ⟨vs, ha, empty_ok qa⟩
      · exact .inr (.inl ⟨vs, ha, empty_ok qa⟩)
def eOrT (ta tb : TDE) : TDE := fun Xd ρ μ Q => ta Xd ρ μ fun d μ1 => match truD d μ1 with | some b => dIf b (Q d μ1) (tb Xd ρ μ1 Q) | none => False
theorem be_orT {a b : Expr} {rest : List Expr} {ta tb : TDE} {pos : Pos} (C : TW X.K X.w W) (ha : BE X W Wk a ta) (hb : BE X W Wk (.BoolOp .Or (b :: rest) pos) tb) : BE X W Wk (.BoolOp .Or (a :: b :: rest) pos) (eOrT ta tb) := PE.weak (pe_orT ha hb) fun σ H Q ⟨hid, ρ, μ, Xd, Qd, rel, sr, q, pq, px⟩ => by
  refine ⟨hid, ρ, μ, Xd, _, rel, sr, q, fun v d H1 μ1 s1 sr1 r1 q1 => ?_, px⟩
  dsimp only at q1
  split at q1
  · rename_i b hb
    refine ⟨b, truD_ok C.hK sr1 r1 hb, ?_⟩
    cases b with
    | true => exact pq v d H1 μ1 s1 sr1 r1 (dIf_tt q1)
    | false => exact ⟨hid, ρ, μ1, Xd, Qd, rel_mono s1.ok rel, sr1, dIf_ff q1, pq.st s1, px.st s1⟩
  · exact q1.elim
end
end PD
set_option Elab.async false
set_option linter.all false
set_option autoImplicit false
set_option maxRecDepth 100000
set_option maxHeartbeats 4000000
namespace PD
open PySem PySem.Spec PyProof.Rows L2
open AutoSeq1 (wpAny_loadPart')
open MeetsSeq MeetsSeq2 MeetsSeq3 SeqRoads2
/-! ### != of tuples whose items are equal one by one -/
theorem tup_ne_all {P : Program} {w : World} {A : Around} {R : Result → Shared → Prop} (l b : Addr) (xs ys : Array Value) (n n2 : Nat) (dd dd2 : Option Addr) (sl sl2 : Array (Option Value)) (len : xs.size = ys.size) (J : Nat → Shared → Prop)
    (each : ∀ i (k1 : i < xs.size) (k2 : i < ys.size) t, J i t → wpAny (model P w) A.in1 (eqBool xs[i] ys[i]) (fun r t' => r = true ∧ J (i + 1) t') (fun e t' => R (.error e) t') t)
    (last : ∀ t, J xs.size t → R (.ok (.ret (.bool false))) t) {s : Shared} (o1 : s.heap.get? l = some { cls := .type "tuple", dict := dd, data := .seq xs n, slots := sl }) (o2 : s.heap.get? b = some { cls := .type "tuple", dict := dd2, data := .seq ys n2, slots := sl2 }) (j0 : J 0 s) :
    wpAny (model P w) A.in1 (Builtin.«tuple.__ne__» ⟨[.ref l, .ref b], []⟩) (GQ.FinOf P w A R) (fun e t' => R (.error e) t') s := by
  have f2 := AutoSeq1.sub_tuple_tuple
  have zl : (xs.toList.zip ys.toList).length = xs.size := by simp [len]
  have j00 := j0
  obtain ⟨hp, g, d, tk, os⟩ := s
  wp_walk using wpAny_loadPart' o1, wpAny_loadPart' o2, wpAny_forIn_list _ (fun rest c t => c.1 = none ∧ ∃ i, rest = (xs.toList.zip ys.toList).drop i ∧ i ≤ xs.size ∧ J i t) _
  case turn =>
    rintro ⟨y, x⟩ rest c t ⟨hc, i, hz, hi, hJ⟩
    have lt : i < (xs.toList.zip ys.toList).length := Classical.byContradiction fun z => by
      rw [List.drop_of_length_le (Nat.le_of_not_lt z)] at hz
      cases hz
    have k1 : i < xs.size := zl ▸ lt
    have k2 : i < ys.size := len ▸ k1
    rw [List.drop_eq_getElem_cons lt] at hz
    injection hz with e1 e2
    obtain rfl : y = xs[i] := by have := congrArg Prod.fst e1; simpa using this
    obtain rfl : x = ys[i] := by have := congrArg Prod.snd e1; simpa using this
    refine wpAny_bind (wpAny_mono (each i k1 k2 t hJ) (fun r t2 q => ?_) fun _ _ z => z)
    obtain ⟨rfl, q⟩ := q
    wp_walk
    exact ⟨rfl, i + 1, e2, k1, q⟩
  case fin =>
    rintro ⟨c1, c2⟩ t ⟨hc, i, hz, hi, hJ⟩
    simp only at hc
    subst hc
    obtain rfl : i = xs.size := Nat.le_antisymm hi (Classical.byContradiction fun z => by
      rw [List.drop_eq_getElem_cons (by rw [zl]; omega)] at hz
      cases hz)
    have fin := last t hJ
    wp_walk
    simpa [Builtin.Tuple.tupleCompareSizes, len] using fin
  case h => exact ⟨rfl, 0, rfl, Nat.zero_le _, j00⟩
section
variable {X : Cx} {W : Wo} {nc : NCs}
def oNeTup (nc : NCs) (n : Nat) : OD := fun d e μ Q => d = e ∧ (match d with | .tup ds => ∀ x ∈ ds, Tr nc n x | _ => False) ∧ Q (.bl false) μ
theorem od_neTup {n : Nat} (hK : X.K = W.K) (M : ∀ m, m ≤ n → EqM X.prog X.w X.K X.mg X.base W nc (2 * m + 3) m) (hr : Room (2 * n + 4) X.A) : OpR X (compareOp .NotEq) (rD W (oNeTup nc n)) := by
  intro pins s σ H x y v u Q I rx ry hh
  obtain ⟨hid, μ, d, e, Qd, sr, px, py, ⟨rfl, hd, q⟩, pq⟩ := hh
  split at hd
  · rename_i ds
    obtain ⟨a, vs, rfl, ha, pa⟩ := tup_ok px
    obtain ⟨b, ws, rfl, hb, pb⟩ := tup_ok py
    cases rx
    cases ry
    rw [← hK] at ha hb
    obtain ⟨its, r, e1, z⟩ := I.tuple ha
    obtain ⟨its2, r2, e2, z2⟩ := I.tuple hb
    have len : its.toArray.size = its2.toArray.size := by rw [List.size_toArray, List.size_toArray, ← r.length, ← r2.length, pa.length, pb.length]
    obtain ⟨⟨cls, dd, data, sl⟩, ho, hc, nn, hd1⟩ := id e1
    obtain ⟨⟨cls2, dd2, data2, sl2⟩, ho2, hc2, n2, hd2⟩ := id e2
    simp only at hc hd1 hc2 hd2
    subst hc hd1 hc2 hd2
    have sb : Sub X (2 * n + 4) X.A := ⟨hr, rfl⟩
    show wpAny (model X.prog X.w) X.A (richCompare .NotEq (.ref a) (.ref b)) (EP X pins σ Q) X.xe s
    refine wpAny_richCompare_same_room (op := .NotEq) ⟨_, ho, rfl⟩ ⟨_, ho2, rfl⟩ F.slot_tuple_ne (GQ.call_here F.slot_tuple_ne ⟨_, ho, rfl⟩ F.entry_tuple_ne (F.args_tuple_ne_2 _ _) ?_) sb.room.units0
    refine tup_ne_all (R := wants (fun v s' => v ≠ .notImplemented ∧ EP X pins σ Q v s') X.xe) a b its.toArray its2.toArray nn n2 dd dd2 sl sl2 len (fun _ t => LpD X W pins σ hid H μ t) (fun i h1 h2 t q => ?_) (fun t q => ?_) ho ho2 ⟨H, I, .refl, sr⟩
    · obtain ⟨H1, I1, st, sr1⟩ := q
      have h1' : i < its.length := by simpa using h1
      have h2' : i < its2.length := by simpa using h2
      have k1 : i < vs.length := by rw [r.length]; exact h1'
      have k2 : i < ws.length := by rw [r2.length]; exact h2'
      obtain ⟨u, hu, ru⟩ := r.get (List.getElem?_eq_getElem k1)
      obtain ⟨v, hv, rv⟩ := r2.get (List.getElem?_eq_getElem k2)
      obtain ⟨d, hd', pd⟩ := pa.get' (List.getElem?_eq_getElem k1)
      obtain ⟨d2, hd2, pd2⟩ := pb.get' (List.getElem?_eq_getElem k2)
      rw [hd'] at hd2
      cases hd2
      have g1 : its.toArray[i] = u := by
        rw [List.getElem?_eq_getElem h1'] at hu
        rw [← Option.some.inj hu]
        simp
      have g2 : its2.toArray[i] = v := by
        rw [List.getElem?_eq_getElem h2'] at hv
        rw [← Option.some.inj hv]
        simp
      rw [g1, g2]
      refine wpAny_mono (eqD_all hK n M X.A.in1 pins t σ H1 _ _ u v hid μ d sb.in1 I1 ru rv sr1 (pd.mono st.ok) (pd2.mono st.ok) (hd d (List.mem_of_getElem? hd'))) (fun r s2 q => ?_) fun _ _ x => x
      obtain ⟨hr', H2, I2, st2, sr2⟩ := q
      exact ⟨hr', H2, I2, st.trans st2, sr2⟩
    · obtain ⟨H', I', st, sr'⟩ := q
      exact ⟨(fun x => nomatch x), .bl false, H', I', rfl, pq _ _ H' μ st sr' (.bl false) q⟩
  · exact hd.elim
end
end PD
set_option Elab.async false
set_option linter.all false
set_option autoImplicit false
set_option maxRecDepth 100000
set_option maxHeartbeats 4000000
namespace PD
open PySem PySem.Spec PyProof.Rows L2
/-! ### comprehensions with three targets -/
def en3 (vs : List Nat) (i j l : Nat) (ρ : PD.Env) : D → Mu → (PD.Env → Prop) → Prop := fun x _ k => match x with
  | .tup [a, b, c] => k ((((wipeD ρ vs).set i (some a)).set j (some b)).set l (some c))
  | _ => False
section
variable {W : Wo}
theorem en3_ok {K : PySem.W.Frag} {i j l : Nat} (hK : K = W.K) (hij : i ≠ j) (hil : i ≠ l) (hjl : j ≠ l) : EnOk W K (gTup K 3 (gCons (gName i) (gCons (gName j) (gCons (gName l) gNil)))) [i, j, l] (en3 [i, j, l] i j l) := ⟨fun hid H μ σ ρ v d k Q rel sr r h q => by
  unfold en3 at h
  split at h
  · rename_i a b c
    obtain ⟨p, vs, rfl, hs, rs⟩ := tup_ok r
    cases rs with
    | cons ra rr =>
      cases rr with
      | cons rb rr =>
        cases rr with
        | cons rc rr =>
          cases rr
          rename_i va vb vc
          refine ⟨p, _, rfl, by rw [hK]; exact hs, rfl, _, _, rfl, _, _, rfl, _, _, rfl, rfl, ?_⟩
          refine q _ _ (rel_set (.some rc) l (rel_set (.some rb) j (rel_set (.some ra) i (rel_wipe rel [i, j, l])))) ?_ h
          show ((((((((σ.set l none).set j none).set i none).set i (some va)).set j (some vb)).set l (some vc)).set l none).set j none).set i none = ((σ.set l none).set j none).set i none
          have e1 : ∀ (τ : L2.St) (x y : Option V), ((τ.set i x).set j y).set i none = (τ.set i none).set j y := fun τ x y => by
            rw [List.set_comm x y hij, List.set_set, List.set_comm y none (Ne.symm hij)]
          apply List.ext_getElem?
          intro n
          simp only [List.getElem?_set, List.length_set]
          by_cases h1 : i = n
          · subst h1; simp
          · by_cases h2 : j = n
            · subst h2; simp [h1]
            · by_cases h3 : l = n
              · subst h3; simp [h1, h2]
              · simp [h1, h2, h3]
  · exact h.elim⟩
end
end PD
set_option Elab.async false
set_option linter.all false
set_option autoImplicit false
set_option maxRecDepth 100000
set_option maxHeartbeats 4000000
namespace PD
open PySem PySem.Spec PyProof.Rows L2 GenW
/-! ### a stretch of a generator's run, with a wish of its own -/
def Sg (M : Model) (A : Around) (Φ : End → Shared → Prop) (c : Code) (t : Sem PySem.Fin) (fs : List Frame) (s : Shared) : Prop :=
  ∀ Γ p, Γ.code = c → Γ.Woken A → ∃ e s', Runs M Γ p t fs s e s' ∧ Φ e s'
section
variable {M : Model} {A : Around} {Φ : End → Shared → Prop} {c : Code} {fs : List Frame} {s : Shared}
theorem sg_wrap {α : Type} {m : Sem α} {K : α → Sem PySem.Fin} {J : Value → Sem PySem.Fin} {gd : Bool → Bool} {lv : List Value → List Value}
    (h : wpAny M (A.over c fs) m (fun a s' => Sg M A Φ c (K a) fs s') (fun x s' => Sg M A Φ c (J x) fs s') s) : Sg M A Φ c (m.wrap K J gd lv) fs s := by
  rintro Γ p rfl hΓ
  exact runs_wrap_of_wp K J gd lv m (h (Γ.over fs) p (hΓ.over fs)) (fun a p' s' h' => h' Γ p' rfl hΓ) (fun x p' s' h' => h' Γ p' rfl hΓ)
theorem sg_bind {α : Type} {m : Sem α} {K : α → Sem PySem.Fin}
    (h : wpAny M (A.over c fs) m (fun a s' => Sg M A Φ c (K a) fs s') (fun x s' => Sg M A Φ c (.raise x) fs s') s) : Sg M A Φ c (m >>= K) fs s := by
  rw [Sem.bind_eq_wrap']; exact sg_wrap h
/-- the head of a bind under a wrap -/
theorem sg_bindw {α β : Type} {m : Sem α} {f : α → Sem β} {K : β → Sem PySem.Fin} {J : Value → Sem PySem.Fin} {gd : Bool → Bool} {lv : List Value → List Value}
    (h : wpAny M (A.over c fs) m (fun a s' => Sg M A Φ c ((f a).wrap K J gd lv) fs s') (fun x s' => Sg M A Φ c (J x) fs s') s) : Sg M A Φ c ((m >>= f).wrap K J gd lv) fs s := by
  rw [Sem.bind_eq_wrap', Sem.wrap_wrap]
  exact sg_wrap h
theorem sg_at {p' : Pos} {k : Unit → Sem PySem.Fin} (h : Sg M A Φ c (k ()) fs s) : Sg M A Φ c (.at p' k) fs s :=
  sg_wrap (m := standAt p') (K := k) (J := .raise) (gd := id) (lv := id) (wpAny_standAt h)
theorem sg_point {l : List Value} {k : Unit → Sem PySem.Fin} (h : Sg M A Φ c (k ()) fs s) : Sg M A Φ c (.point l k) fs s :=
  sg_wrap (m := point) (K := k) (J := .raise) (gd := id) (lv := fun _ => l) (wpAny_point h)
theorem sg_call {c' : Code} {h : Option Value} {g : Bool} {l : List Value} {k : Result → Sem PySem.Fin} (hc : ∀ p, Sg M A Φ c' (M.den c') (.ret k h g l c p [] :: fs) s) : Sg M A Φ c (.call c' h g l k) fs s := by
  rintro Γ p rfl hΓ
  obtain ⟨e, s', hr, he⟩ := hc p (Γ.goto c') p rfl (hΓ.goto c')
  exact ⟨e, s', runs_call_seg hr, he⟩
theorem sg_leaf {k : Result → Sem PySem.Fin} {h : Option Value} {g : Bool} {l : List Value} {c₁ : Code} {p₁ : Pos} {kp : List Value} (r : Result) (hk : Sg M A Φ c₁ (k r) fs s) : Sg M A Φ c (leafOf r) (.ret k h g l c₁ p₁ kp :: fs) s := by
  rintro Γ p rfl hΓ
  obtain ⟨e, s', hr, he⟩ := hk (Γ.goto c₁) p₁ rfl (hΓ.goto c₁)
  exact ⟨e, s', Runs.pop r hr, he⟩
theorem sg_again {c' : Code} (hq : c'.quiet = true) (hc : Sg M A Φ c' (M.den c') fs s) : Sg M A Φ c (.pure (.again c')) fs s := by
  rintro Γ p rfl hΓ
  obtain ⟨e, s', hr, he⟩ := hc (Γ.goto c') p rfl (hΓ.goto c')
  exact ⟨e, s', Runs.head (c₁ := c') (fun _ _ x => .again hq x) hr, he⟩
theorem sg_end (r : Result) (h : Φ (.ret r) s) : Sg M A Φ c (leafOf r) [] s := by
  rintro Γ p rfl _
  exact ⟨.ret r, s, Runs.leaf r, h⟩
theorem sg_yield {v : Value} {g : Bool} {l : List Value} {k : Resume → Sem PySem.Fin} (hfs : splitAtGen fs = none) (h : ∀ p, Φ (.susp v g l k c p fs) s) : Sg M A Φ c (.yield v g l k) fs s := by
  rintro Γ p rfl _
  exact ⟨_, s, Runs.yield' fs hfs, h p⟩
theorem sg_mono {Φ' : End → Shared → Prop} {t : Sem PySem.Fin} (h : Sg M A Φ c t fs s) (k : ∀ e s', Φ e s' → Φ' e s') : Sg M A Φ' c t fs s := fun Γ p hc hΓ => by
  obtain ⟨e, s', hr, he⟩ := h Γ p hc hΓ
  exact ⟨e, s', hr, k e s' he⟩
/-- what a generator does when it is woken -/
def GoX (M : Model) (A : Around) (Φ : End → Shared → Prop) (gs : GenState) (s : Shared) : Prop := match gs with
  | .fresh c => Sg M A Φ c (M.den c) [] s
  | .suspended k _ c _ fs _ => Sg M A Φ c (k (.send .none)) fs s
  | _ => False
theorem sg_resume {g : Nat} {gs : GenState} {l : List Value} {α : Type} {k : GenResult → Sem α} {Q : α → Shared → Prop} {E : Value → Shared → Prop} (hg : s.gens[g]? = some gs) (hgo : GoX M A Φ gs (s.setGen g .running))
    (hΦ : ∀ e s₁, Φ e s₁ → e.quiet = true ∧ wpAny M A (k e.result) Q E (s₁.setGen g e.genState)) : wpAny M A (.resume g (.send .none) l k) Q E s := by
  intro Γ p hΓ
  rw [Sem.wp_resume]
  have hB : ∀ c, (Γ.wake c p).Woken A := fun c => hΓ.wake c p
  cases gs with
  | fresh c =>
    obtain ⟨e₁, s₁, hr, he⟩ := hgo (Γ.wake c p) p rfl (hB c)
    exact ⟨_, _, by unfold Wakes; rw [hg]; exact ⟨e₁, s₁, hr, (hΦ e₁ s₁ he).1, rfl, rfl⟩, (hΦ e₁ s₁ he).2 Γ p hΓ⟩
  | suspended k₀ l₀ c₀ p₀ fs₀ cl =>
    obtain ⟨e₁, s₁, hr, he⟩ := hgo (Γ.wake c₀ p) p₀ rfl (hB c₀)
    exact ⟨_, _, by unfold Wakes; rw [hg]; exact ⟨e₁, s₁, hr, (hΦ e₁ s₁ he).1, rfl, rfl⟩, (hΦ e₁ s₁ he).2 Γ p hΓ⟩
  | running => exact hgo.elim
  | finished => exact hgo.elim
end
/-- what is asked of a wish where the generator is asked for its next -/
def Wanted (g : Nat) (Q : Option Value → Shared → Prop) (e : End) (s₁ : Shared) : Prop := match e with
  | .ret r => (r = .ok (.ret .none) ∨ r = .ok .next) ∧ ∀ h', (∀ b o, s₁.heap.get? b = some o → h'.get? b = some o) → Q none { s₁.setGen g .finished with heap := h' }
  | .susp v gg l k c p fs => (End.susp v gg l k c p fs).quiet = true ∧ Q (some v) (s₁.setGen g (End.susp v gg l k c p fs).genState)
theorem sg_next {P : Program} {w : World} {A : Around} {E : Value → Shared → Prop} {s : Shared} {a : Addr} {g : Nat} {gs : GenState} {Φ : End → Shared → Prop} {Q : Option Value → Shared → Prop} (hh : A.handled = none)
    (hl : s.heap.NoLimit) (hroom : A.depth < recursionLimit) (hg : s.heap.IsGen a g) (hgs : s.gens[g]? = some gs)
    (hgo : GoX (model P w) A.in1 Φ gs (s.setGen g .running)) (hΦ : ∀ e s₁, Φ e s₁ → Wanted g Q e s₁) :
    wpAny (model P w) A (pyNext (.ref a)) Q E s := by
  unfold pyNext
  refine wpAny_bind (wpAny_attempt (wpAny_callSpecial?_slot (name := Str.ofString "__next__") hg.typeIs slot_gen_next
    (wpAny_call_entry slot_gen_next hg.typeIs entry_gen_next ?_ (args_gen_next _))))
  show wpAny _ A.in1 (Builtin.Generator.genWake (.ref a) (.send .none)) _ _ s
  unfold Builtin.Generator.genWake
  refine wpAny_bind (wpAny_holding (wpAny_genNumber hg (wpAny_bind (wpAny_genState hgs ?_))))
  cases gs with
  | running => exact hgo.elim
  | finished => exact hgo.elim
  | _ =>
    refine wpAny_bind (wpAny_roomToWake hl hroom ?_)
    show wpAny _ A.in1 (.resume g (.send .none) [] _) _ _ s
    refine sg_resume hgs hgo fun e s₁ he => ?_
    have hw := hΦ e s₁ he
    cases e with
    | ret x =>
      obtain ⟨hr, hp⟩ := hw
      refine ⟨rfl, ?_⟩
      have hres : End.result (.ret x) = .returned .none := by
        rcases hr with hr | hr <;> rw [hr] <;> rfl
      first | rw [hres] | simp only [hres]
      show wpAny _ A.in1 (newExc (.type "StopIteration") [] >>= _) _ _ _
      refine wpAny_bind ?_
      simp only [newExc, newTuple]
      refine wpAny_bind (wpAny_newObj_type ?_ (by size_fits))
      refine wpAny_bind (m := firstArgMember _ _) (wpAny_of_eq (a := Value.none) (by first | rfl | (simp only [firstArgMember]; rfl)) ?_)
      refine wpAny_newObj_type ?_ (by size_fits)
      simp only [raiseNew]
      refine wpAny_bind (wpAny_bind (wpAny_handled ?_))
      first | rw [show A.in1.handled = none from hh] | rw [hh]
      refine wpAny_throw ?_
      refine wpAny_bind (wpAny_isInstance (T := "StopIteration") (b := true) ⟨_, Heap.get?_push_size _ rfl, rfl⟩ isSubtype_stop ?_)
      exact wpAny_pure (hp _ fun b o hb => Heap.get?_push_of_some _ (Heap.get?_push_of_some _ hb))
    | susp v gg l k c p fs =>
      exact ⟨hw.1, wpAny_pure ⟨v, rfl, wpAny_pure hw.2⟩⟩
end PD
set_option Elab.async false
set_option linter.all false
set_option autoImplicit false
set_option maxRecDepth 100000
set_option maxHeartbeats 4000000
namespace PD
open PySem PySem.Spec PyProof.Rows L2 GenW
/-! ### the context of a generator's body, laid anew at each wake -/
def cutH (L : Nat) (h : Heap) : Heap := ⟨h.objs.extract 0 L, h.life⟩
theorem cut_lt {L b : Nat} {h : Heap} (hb : b < L) : (cutH L h).get? b = h.get? b := by
  have e : (h.objs.extract 0 L)[b]? = h.objs[b]? := by
    rw [Array.getElem?_extract]
    simp only [Nat.zero_add]
    by_cases hs : b < h.objs.size
    · rw [if_pos (by omega)]
    · rw [if_neg (by omega)]
      exact (Array.getElem?_eq_none (by omega)).symm
  unfold cutH Heap.get?
  simp only
  rw [e]
theorem cut_ge {L b : Nat} {h : Heap} (hb : L ≤ b) : (cutH L h).get? b = none := by
  have e : (h.objs.extract 0 L)[b]? = none := Array.getElem?_eq_none (by rw [Array.size_extract]; omega)
  unfold cutH Heap.get?
  simp only
  rw [e]
theorem cut_some {L b : Nat} {h : Heap} {o : Obj} (e : (cutH L h).get? b = some o) : b < L ∧ h.get? b = some o := by
  by_cases hb : b < L
  · exact ⟨hb, (cut_lt hb).symm.trans e⟩
  · rw [cut_ge (by omega)] at e
    cases e
theorem cut_size {L : Nat} {h : Heap} (hL : L ≤ h.objs.size) : (cutH L h).objs.size = L := by
  show (h.objs.extract 0 L).size = L
  rw [Array.size_extract]
  omega
theorem funs_cut {L : Nat} {h base : Heap} : ∀ {l : List PySem.Env}, h.FunFrames base l → (∀ b ∈ frs l, b < L) → (cutH L h).FunFrames base l
  | [], _, _ => trivial
  | env :: rest, ⟨hk, ⟨L', o, hf, hb, ho, hd⟩, hr⟩, hl => by
    have m : ∀ b, b ∈ frs rest → b ∈ frs (env :: rest) := fun b hb => by
      unfold frs
      rw [List.filterMap_cons, hf]
      exact List.mem_cons_of_mem _ hb
    have m0 : L' ∈ frs (env :: rest) := by
      unfold frs
      rw [List.filterMap_cons, hf]
      exact List.mem_cons_self
    exact ⟨hk, ⟨L', o, hf, hb, (cut_lt (hl L' m0)).trans ho, hd⟩, funs_cut hr fun b hb => hl b (m b hb)⟩
/-- what is fixed of a generator -/
structure Gn where
  P : Program
  w : World
  K : PySem.W.Frag
  mg : Str → Option Value
  base : Heap
  N : List Str
  qual : Str
  scope : Scope
  f : Addr
  cd : Value
  A : Around
  outer : List PySem.Env
  L : Addr
  a : Addr
  go : Obj
namespace Gn
abbrev env (G : Gn) : PySem.Env := envOfC G.qual G.scope G.L G.f G.cd
def X (G : Gn) (s : Shared) (H : Hp) : Cx where
  prog := G.P
  w := G.w
  K := G.K
  mg := G.mg
  base := G.base
  A := G.A.deeper G.env
  N := G.N
  s_0 := { s with heap := cutH G.L s.heap }
  H_0 := H
  env := G.env
  outer := G.outer
  stack := G.env :: G.outer
  ex := []
  calm := true
  fn := fun _ => true
  pn := [(G.a, G.go)]
  xe := fun _ _ => False
structure Ok (G : Gn) : Prop where
  kind : G.scope.kind = .function
  cells : cellsFrom (G.L + 1) G.scope.names [] = []
  nocell : ∀ x, G.scope.names.lookup x ≠ some .cell ∧ G.scope.names.lookup x ≠ some .free
  hd : G.A.handled = none
  bL : G.base.objs.size ≤ G.L
  fL : ∀ b ∈ frs G.outer, b < G.L
section
variable {G : Gn} {s s' s0 : Shared} {H H' H0 : Hp} {ip : List (Addr × Obj)} {σ : L2.St}
theorem inv_in (O : G.Ok) (e0 : Env0 G.P G.w G.K G.mg G.base G.A G.outer s H) (hL : G.L < s.heap.objs.size)
    (loc : ∃ m, s.heap.Ns G.L m ∧ ∀ (i : Nat) (x : Str) (v : V), G.N[i]? = some x → σ[i]? = some (some v) → Vis G.scope x → ∃ u, RelV v u ∧ Look G.env s.heap m x u) (free : H G.L = none)
    (pin : ∀ p ∈ (G.a, G.go) :: ip, s.heap.get? p.1 = some p.2 ∧ H p.1 = none ∧ p.1 ≠ G.L ∧ p.1 ∉ frs G.outer ∧ ∀ v, p.2.data ≠ .cell v) (len : σ.length = G.N.length) : Inv (G.X s H) ip σ H s := by
  have noc : ∀ x c, G.env.cells.lookup x = some c → False := fun x c e => by
    have e' : (cellsFrom (G.L + 1) G.scope.names []).lookup x = some c := e
    rw [O.cells] at e'
    cases e'
  have bs : ∀ b o, G.base.get? b = some o → (cutH G.L s.heap).get? b = some o ∧ H b = none := fun b o e => by
    obtain ⟨h1, h2⟩ := e0.bs b o e
    exact ⟨(cut_lt (Nat.lt_of_lt_of_le (Heap.lt_size e) O.bL)).trans h1, h2⟩
  refine ⟨⟨e0.mod, O.kind, rfl, rfl, ?_, fun x y c h => (noc x c h).elim, fun x h => ?_, fun x c _ h => (noc x c h).elim, fun _ => O.hd, Around.frames_deeper e0.frames, .inr ⟨rfl, rfl⟩, fun b z => (by cases z), bs, ?_, fun b o _ z => (by cases z), fun b z => (by cases z), funs_cut e0.funs O.fL, e0.frf⟩,
    rfl, e0.bare, Un.kept fun b o e => (cut_some e).2, loc, fun x c h => (noc x c h).elim, free, fun x c h => (noc x c h).elim, pin, e0.hok, len⟩
  · show (cutH G.L s.heap).objs.size ≤ G.L
    rw [cut_size (Nat.le_of_lt hL)]
    exact Nat.le_refl _
  · rcases h with h | h
    · exact ((O.nocell x).1 h).elim
    · exact ((O.nocell x).2 h).elim
  · show G.base.objs.size ≤ (cutH G.L s.heap).objs.size
    rw [cut_size (Nat.le_of_lt hL)]
    exact O.bL
/-- its own frame as it stands -/
theorem frame_at (I : Inv (G.X s0 H0) ip σ H s) : ∃ oL, s.heap.get? G.L = some oL ∧ ∀ v, oL.data ≠ .cell v := by
  obtain ⟨m, ⟨o, es, ep, ho, hd, _⟩, _⟩ := I.loc
  exact ⟨o, ho, fun v q => by rw [hd] at q; cases q⟩
/-- it is woken: its own things stand as they stood -/
theorem wake (O : G.Ok) {oL : Obj} (I : Inv (G.X s0 H0) ip σ H s) (hoL : s.heap.get? G.L = some oL) (e0 : Env0 G.P G.w G.K G.mg G.base G.A G.outer s' H')
    (kp : ∀ p ∈ (G.L, oL) :: (G.a, G.go) :: ip, s'.heap.get? p.1 = some p.2 ∧ H' p.1 = none) : Inv (G.X s' H') ip σ H' s' := by
  have hL := kp (G.L, oL) List.mem_cons_self
  refine inv_in O e0 (Heap.lt_size hL.1) ?_ hL.2 (fun p hp => ?_) I.len
  · obtain ⟨m, ⟨o, es, ep, ho, r⟩, lk⟩ := I.loc
    have ho' : s.heap.get? G.L = some o := ho
    rw [hoL] at ho'
    cases ho'
    refine ⟨m, ⟨oL, es, ep, hL.1, r⟩, fun i x v h1 h2 h3 => ?_⟩
    obtain ⟨u, ru, lu⟩ := lk i x v h1 h2 h3
    refine ⟨u, ru, ?_⟩
    rcases lu with lu | ⟨hk, _⟩
    · exact .inl lu
    · rcases hk with hk | hk
      · exact ((O.nocell x).1 hk).elim
      · exact ((O.nocell x).2 hk).elim
  · obtain ⟨h1, h2⟩ := kp p (List.mem_cons_of_mem _ hp)
    obtain ⟨_, _, h3, h4, h5⟩ := I.pin p hp
    exact ⟨h1, h2, h3, h4, h5⟩
/-- back to the caller -/
theorem back {Xc : Cx} {pins : List (Addr × Obj)} {σc : L2.St} (I0 : Inv Xc pins σc H0 s0) (hs : Xc.stack = G.outer) (hP : Xc.prog = G.P) (hw : Xc.w = G.w) (hlt : Xc.env.locals < G.L)
    (hcell : ∀ x c, Xc.env.cells.lookup x = some c → c < G.L) (hpin : ∀ p ∈ Xc.pn ++ pins, p.1 < G.L) (I : Inv (G.X s0 H0) ip σ H s) : Inv Xc pins σc H s := by
  have low : ∀ b o, s0.heap.get? b = some o → b ∉ List.range' G.L (s0.heap.objs.size - G.L) → b < G.L := fun b o e hb => by
    have h1 := Heap.lt_size e
    rw [List.mem_range'] at hb
    rcases Nat.lt_or_ge b G.L with h | h
    · exact h
    · exact (hb ⟨Nat.sub b G.L, Nat.sub_lt_sub_right h h1, by rw [Nat.one_mul]; exact (Nat.add_sub_cancel' h).symm⟩).elim
  have cut : ∀ b o, s0.heap.get? b = some o → b ∉ List.range' G.L (s0.heap.objs.size - G.L) → (cutH G.L s0.heap).get? b = some o := fun b o e hb => (cut_lt (low b o e hb)).trans e
  have nx : ∀ b, b ∉ (G.X s0 H0).ex := fun b z => by cases z
  refine I0.call' (ch := List.range' G.L (s0.heap.objs.size - G.L)) (I.os.trans rfl) ?_ (by rw [hP, hw]; exact I.hok) I.bare fun b hb => ?_
  · rw [hs]
    exact ⟨fun b o e n hf hb => I.base.keep b o (cut b o e hb) n hf (nx b), fun b o e n hf hb => I.base.slot b o (cut b o e hb) n hf (nx b), fun b o e n hb => I.base.free b o (cut b o e hb) n (nx b),
      fun b o e hb => I.base.there b o (cut b o e hb) (nx b), I.base.tups, I.base.frzs, I.base.tbls⟩
  · rw [List.mem_range'] at hb
    obtain ⟨i, hi, rfl⟩ := hb
    have ge : G.L ≤ G.L + 1 * i := Nat.le_add_right _ _
    refine ⟨.inr (Nat.le_trans I0.ok.above (Nat.le_trans (Nat.le_of_lt hlt) ge)), fun z => ?_, fun x c e z => ?_, fun p hp z => ?_⟩
    · exact absurd (Nat.lt_of_lt_of_le hlt ge) (by rw [z]; exact Nat.lt_irrefl _)
    · exact absurd (Nat.lt_of_lt_of_le (hcell x c e) ge) (by rw [z]; exact Nat.lt_irrefl _)
    · exact absurd (Nat.lt_of_lt_of_le (hpin p hp) ge) (by rw [z]; exact Nat.lt_irrefl _)
end
end Gn
end PD
set_option Elab.async false
set_option linter.all false
set_option autoImplicit false
set_option maxRecDepth 100000
set_option maxHeartbeats 4000000
namespace PD
open PySem PySem.Spec PyProof.Rows L2 GenW
/-! ### for and yield, by stretches -/
section
variable {P : Program} {w : World} {A : Around} {Φ : End → Shared → Prop} {c : Code} {fs : List Frame} {s : Shared} {env : PySem.Env} {K : Flow → Sem PySem.Fin} {J : Value → Sem PySem.Fin} {gd : Bool → Bool} {lv : List Value → List Value}
theorem sg_For {target iter : Expr} {body : List Stmt} {pos : Pos} (hs : ∀ x, foldedSetIterable iter env x = pure x)
    (h : wpAny (model P w) (A.over c fs) (eval iter env) (fun x s1 => wpAny (model P w) (A.over c fs) (pyIter x) (fun it s2 => ∀ (k : Result → Sem PySem.Fin) (g : Bool) (l : List Value) (p : Pos), k (.ok .next) = K .next → g = gd false →
      Sg (model P w) A Φ (.forLoop target it body [] env) ((model P w).den (.forLoop target it body [] env)) (.ret k none g l c p [] :: fs) s2) (fun _ _ => False) s1) (fun _ _ => False) s) :
    Sg (model P w) A Φ c ((exec (.For target iter body [] pos) env).wrap K J gd lv) fs s := by
  rw [exec_For]
  refine sg_bindw (wpAny_standAt ?_)
  refine sg_bindw (wpAny_mono h (fun x s1 h1 => ?_) fun _ _ z => z.elim)
  refine sg_bindw (wpAny_of_eq (hs x) ?_)
  refine sg_bindw (wpAny_standAt ?_)
  refine sg_bindw (wpAny_holding (wpAny_mono h1 (fun it s2 h2 => ?_) fun _ _ z => z.elim))
  exact sg_call fun p => h2 _ _ _ _ rfl rfl
theorem sg_forLoop {target : Expr} {it : Value} {body : List Stmt}
    (h : wpAny (model P w) (A.over (.forLoop target it body [] env) fs) (pyNext it) (fun r s1 => match r with
      | none => Sg (model P w) A Φ (.forLoop target it body [] env) (.pure (.again (.block [] env))) fs s1
      | some v => wpAny (model P w) (A.over (.forLoop target it body [] env) fs) (letOwnedTupleGo target it v) (fun _ s2 => wpAny (model P w) (A.over (.forLoop target it body [] env) fs) (assign target env v) (fun _ s3 =>
          ∀ (K' : Flow → Sem PySem.Fin) (J' : Value → Sem PySem.Fin) (gd' : Bool → Bool) (lv' : List Value → List Value), K' .next = .pure (.again (.forLoop target it body [] env)) → gd' false = false →
            Sg (model P w) A Φ (.forLoop target it body [] env) ((execs body env).wrap K' J' gd' lv') fs s3) (fun _ _ => False) s2) (fun _ _ => False) s1) (fun _ _ => False) s) :
    Sg (model P w) A Φ (.forLoop target it body [] env) ((model P w).den (.forLoop target it body [] env)) fs s := by
  show Sg _ A Φ _ ((forTurn target it body [] env).onRaise (fun x => do noteFrame x env; theTreesLotGoes x)) fs s
  unfold forTurn
  rw [Sem.onRaise_eq_wrap]
  refine sg_bindw (wpAny_standAt ?_)
  refine sg_bindw (wpAny_onRaise (wpAny_mono h (fun r s1 h1 => ?_) fun _ _ z => z.elim))
  cases r with
  | none => exact h1
  | some v =>
    refine sg_bindw (wpAny_mono h1 (fun _ s2 h2 => ?_) fun _ _ z => z.elim)
    refine sg_bindw (wpAny_mono h2 (fun _ s3 h3 => ?_) fun _ _ z => z.elim)
    rw [Sem.bind_eq_wrap', Sem.wrap_wrap]
    exact h3 _ _ _ _ rfl rfl
/-- the loop is over -/
theorem sg_forEnd {k : Result → Sem PySem.Fin} {h : Option Value} {g : Bool} {l : List Value} {c₁ : Code} {p₁ : Pos} {kp : List Value} (hk : Sg (model P w) A Φ c₁ (k (.ok .next)) fs s) :
    Sg (model P w) A Φ c (.pure (.again (.block [] env))) (.ret k h g l c₁ p₁ kp :: fs) s := by
  refine sg_again rfl ?_
  show Sg _ A Φ _ (do return Fin.done (← (execs [] env).onRaise (fun x => do noteFrame x env; theTreesLotGoes x))) _ s
  exact sg_leaf (.ok .next) hk
theorem sg_Yield {e : Expr} {ypos pos : Pos} (hfs : splitAtGen fs = none)
    (h : wpAny (model P w) (A.over c fs) (eval e env) (fun v s' => ∀ (g : Bool) (l : List Value) (k : Resume → Sem PySem.Fin) (p : Pos), g = gd false → (∀ (Φ' : End → Shared → Prop) (s'' : Shared), Sg (model P w) A Φ' c (K .next) fs s'' → Sg (model P w) A Φ' c (k (.send .none)) fs s'') → Φ (.susp v g l k c p fs) s') (fun _ _ => False) s)
    (hco : env.scope.isCoroutine = false) (hi : interactive env = false) :
    Sg (model P w) A Φ c ((exec (.Expr (.Yield (some e) ypos) pos) env).wrap K J gd lv) fs s := by
  rw [exec_Expr env _ pos hi rfl]
  show Sg _ A Φ c (.at pos fun _ => ((eval e env >>= fun v => (standAt ypos >>= fun _ => yieldOut env v)) >>= fun x => dropValue (.Yield (some e) ypos) pos x).wrap K J gd lv) fs s
  have hy : ∀ v, yieldOut env v = yieldValue v := fun v => by simp only [yieldOut, hco, Bool.false_eq_true, if_false]
  simp only [hy]
  refine sg_at ?_
  rw [Sem.bind_eq_wrap', Sem.bind_eq_wrap', Sem.wrap_wrap, Sem.wrap_wrap]
  refine sg_wrap (wpAny_mono h (fun v s' h' => ?_) fun _ _ z => z.elim)
  refine sg_at (sg_yield hfs fun p => ?_)
  exact h' _ _ _ _ rfl fun Φ' s'' hx => hx
theorem sg_execs_nil (h : Sg (model P w) A Φ c (K .next) fs s) : Sg (model P w) A Φ c ((execs [] env).wrap K J gd lv) fs s := h
theorem sg_execs_cons {st : Stmt} {rest : List Stmt}
    (h : ∀ K', K' .next = (execs rest env).wrap K J gd lv → Sg (model P w) A Φ c ((exec st env).wrap K' J gd lv) fs s) : Sg (model P w) A Φ c ((execs (st :: rest) env).wrap K J gd lv) fs s := by
  rw [execs_cons_wrap]
  exact h _ rfl
theorem sg_func {body : List Stmt} (h : ∀ (K : Flow → Sem PySem.Fin) (J : Value → Sem PySem.Fin), K .next = .pure (.done (.ret .none)) → Sg (model P w) A Φ (.func body env) ((execs body env).wrap K J id id) fs s) :
    Sg (model P w) A Φ (.func body env) ((model P w).den (.func body env)) fs s := by
  show Sg _ A Φ _ (.point [] fun _ => ((execs body env).onRaise (leaving env)) >>= _) fs s
  refine sg_point ?_
  rw [Sem.onRaise_eq_wrap, Sem.bind_eq_wrap', Sem.wrap_wrap]
  exact h _ _ rfl
end
end PD
set_option Elab.async false
set_option linter.all false
set_option autoImplicit false
set_option maxRecDepth 100000
set_option maxHeartbeats 4000000
namespace PD
open PySem PySem.Spec PyProof.Rows L2 GenW
/-! ### a generator that hands out data -/
theorem Ok.trans {h0 h1 h2 : Hid} {H0 H1 H2 : Hp} {m0 m1 m2 : Mu} (a : Ok h0 H0 m0 h1 H1 m1) (b : Ok h1 H1 m1 h2 H2 m2) : Ok h0 H0 m0 h2 H2 m2 := fun x o e i n => by
  obtain ⟨e1, i1, n1⟩ := a x o e i n
  exact b x o e1 i1 n1
theorem Ok.refl {h : Hid} {H : Hp} {m : Mu} : Ok h H m h H m := fun x o e i n => ⟨e, i, n⟩
/-- what the consumer wishes of a stretch: ds is still to come -/
def Cons (G : Gn) (W : Wo) : List D → (End → Shared → Prop) → Shared → Hid → Hp → Mu → Prop
  | [], Φ, s₀, hid, H0, μ0 => ∀ s σ ip H, Inv (G.X s₀ H0) ip σ H s → St H0 μ0 H μ0 → SR W hid H μ0 → Φ (.ret (.ok (.ret .none))) s
  | d :: ds, Φ, s₀, hid, H0, μ0 => ∀ s σ ip H v x l k c p fs, Inv (G.X s₀ H0) ip σ H s → (∀ q ∈ ip, G.L < q.1) → St H0 μ0 H μ0 → SR W hid H μ0 → RelV x v → Rep W hid H μ0 x d → fs.any Frame.guarded = false →
      (∀ Φ' s₀' hid' H0' μ0', G.L < s₀'.heap.objs.size → Cons G W ds Φ' s₀' hid' H0' μ0' → Inv (G.X s₀' H0') ip σ H0' s₀' → Ok hid H μ0 hid' H0' μ0' → SR W hid' H0' μ0' → Sg (model G.P G.w) G.A Φ' c (k (.send .none)) fs s₀') → Φ (.susp v false l k c p fs) s
/-- where its code stands -/
structure GPos (G : Gn) (c : Code) (fs : List Frame) (gd : Bool → Bool) : Prop where
  over : G.A.over c fs = G.A.deeper G.env
  split : splitAtGen fs = none
  guard : fs.any Frame.guarded = false
  gd : gd false = false
theorem GPos.loop {G : Gn} {c c' : Code} {fs : List Frame} {gd : Bool → Bool} {k : Result → Sem PySem.Fin} {l : List Value} {p : Pos} {g : Bool} (h : GPos G c fs gd) (hg : g = gd false) (hw : c'.weight = 0) (hu : c'.cUnits = 0) : GPos G c' (.ret k none g l c p [] :: fs) id where
  over := (over_loop hw hu).trans h.over
  split := by
    show (splitAtGen fs).map _ = none
    rw [h.split]; rfl
  guard := by
    show (g || fs.any Frame.guarded) = false
    rw [hg, h.gd, h.guard]; rfl
  gd := rfl
abbrev KGD := PD.Env → List D → Prop
abbrev TGD := KGD → PD.Env → List D → Prop
/-- what follows, seen from (hidb, Hb, μb) -/
def GKd (G : Gn) (W : Wo) (ip : List (Addr × Obj)) (c : Code) (fs : List Frame) (t : Sem PySem.Fin) (KD : KGD) (hidb : Hid) (Hb : Hp) (μb : Mu) : Prop :=
  ∀ Φ s₀ hid H0 μ0 s σ ρ H ds, G.L < s₀.heap.objs.size → Inv (G.X s₀ H0) ip σ H s → St H0 μ0 H μ0 → SR W hid H μ0 → Rel W hid H μ0 σ ρ → Ok hidb Hb μb hid H μ0 → Cons G W ds Φ s₀ hid H0 μ0 → KD ρ ds → Sg (model G.P G.w) G.A Φ c t fs s
def GRun (G : Gn) (W : Wo) (m : Sem Flow) (t : TGD) : Prop :=
  ∀ Φ c fs K J gd lv s s₀ hid H0 μ0 σ ρ H ip KD ds, GPos G c fs gd → G.L < s₀.heap.objs.size → (∀ q ∈ ip, G.L < q.1) → GKd G W ip c fs (K .next) KD hid H μ0 → Inv (G.X s₀ H0) ip σ H s → St H0 μ0 H μ0 → SR W hid H μ0 → Rel W hid H μ0 σ ρ → Cons G W ds Φ s₀ hid H0 μ0 → t KD ρ ds →
    Sg (model G.P G.w) G.A Φ c (m.wrap K J gd lv) fs s
section
variable {G : Gn} {W : Wo}
def gNilD : TGD := fun KD ρ ds => KD ρ ds
def gSeqD (t u : TGD) : TGD := fun KD ρ ds => t (fun ρ' ds' => u KD ρ' ds') ρ ds
theorem gr_nil : GRun G W (execs [] G.env) gNilD := fun Φ c fs K J gd lv s s₀ hid H0 μ0 σ ρ H ip KD ds gp hL hip gk I st sr rel co q => sg_execs_nil (gk Φ s₀ hid H0 μ0 s σ ρ H ds hL I st sr rel .refl co q)
theorem gr_cons {st : Stmt} {rest : List Stmt} {t u : TGD} (h : GRun G W (exec st G.env) t) (k : GRun G W (execs rest G.env) u) : GRun G W (execs (st :: rest) G.env) (gSeqD t u) := fun Φ c fs K J gd lv s s₀ hid H0 μ0 σ ρ H ip KD ds gp hL hip gk I st sr rel co q => by
  refine sg_execs_cons fun K' e => ?_
  refine h Φ c fs K' J gd lv s s₀ hid H0 μ0 σ ρ H ip _ ds gp hL hip ?_ I st sr rel co q
  rw [e]
  intro Φ2 s2 hid2 H2 μ2 s2' σ2 ρ2 H2' ds2 hL2 I2 st2 sr2 rel2 ok2 co2 q2
  exact k Φ2 c fs K J gd lv s2' s2 hid2 H2 μ2 σ2 ρ2 H2' ip KD ds2 gp hL2 hip (fun Φ3 s3 hid3 H3 μ3 s3' σ3 ρ3 H3' ds3 hL3 I3 st3 sr3 rel3 ok3 => gk Φ3 s3 hid3 H3 μ3 s3' σ3 ρ3 H3' ds3 hL3 I3 st3 sr3 rel3 (ok2.trans ok3)) I2 st2 sr2 rel2 co2 q2
theorem gr_one {st : Stmt} {t : TGD} (h : GRun G W (exec st G.env) t) : GRun G W (execs [st] G.env) t := fun Φ c fs K J gd lv s s₀ hid H0 μ0 σ ρ H ip KD ds gp hL hip gk I st sr rel co q => gr_cons h gr_nil Φ c fs K J gd lv s s₀ hid H0 μ0 σ ρ H ip KD ds gp hL hip gk I st sr rel co q
/-- a statement that hands out nothing and leaves the store alone -/
def gPl (t : TDS) : TGD := fun KD ρ ds => ∃ ρ', (∀ μ, t { nx := fun ρ1 μ1 => ρ1 = ρ' ∧ μ1 = μ } xF ρ μ) ∧ KD ρ' ds
theorem gr_plain {st : Stmt} {t : TDS} (h : ∀ s H, BS (G.X s H) W WF st t) : GRun G W (exec st G.env) (gPl t) := fun Φ c fs K J gd lv s s₀ hid H0 μ0 σ ρ H ip KD ds gp hL hip gk I st sr rel co q => by
  obtain ⟨ρ', q, kd⟩ := q
  refine sg_wrap ?_
  rw [gp.over]
  refine wpAny_mono ((h s₀ H0).run ip s σ H { nx := fun σ1 H1 => St H μ0 H1 μ0 ∧ SR W hid H1 μ0 ∧ Rel W hid H1 μ0 σ1 ρ', rt := fun _ _ => False, bk := fun _ _ => False, ct := fun _ _ => False } I
    ⟨hid, ρ, μ0, xF, _, rel, sr, q μ0, ⟨?_, ?_, ?_, ?_⟩, fun _ _ _ _ _ _ _ _ _ _ _ z => z.elim⟩) (fun f s' hf => ?_) fun _ _ z => z.elim
  · intro σ1 ρ1 H1 μ1 s1 sr1 rel1 ⟨e1, e2⟩
    subst e1; subst e2
    exact ⟨s1, sr1, rel1⟩
  · exact fun _ _ _ _ _ _ _ z => z.elim
  · exact fun _ _ _ _ _ _ _ z => z.elim
  · exact fun _ _ _ _ _ _ _ z => z.elim
  · cases f with
    | next =>
      obtain ⟨σ1, H1, I1, s1, sr1, rel1⟩ := hf
      exact gk Φ s₀ hid H0 μ0 s' σ1 ρ' H1 ds hL I1 (st.trans s1) sr1 rel1 s1.ok co kd
    | brk => obtain ⟨_, _, _, z⟩ := hf; exact z.elim
    | cont => obtain ⟨_, _, _, z⟩ := hf; exact z.elim
    | ret v => obtain ⟨_, _, _, _, _, z⟩ := hf; exact z.elim
def gYi (te : TDE) : TGD := fun KD ρ ds => ∃ d ds', ds = d :: ds' ∧ (∀ μ, te xF ρ μ fun d1 μ1 => d1 = d ∧ μ1 = μ) ∧ KD ρ ds'
theorem gr_yield {e : Expr} {te : TDE} {yp pos : Pos} (h : ∀ s H, BE (G.X s H) W WF e te) (hco : G.scope.isCoroutine = false) (hi : interactive G.env = false) : GRun G W (exec (.Expr (.Yield (some e) yp) pos) G.env) (gYi te) := fun Φ c fs K J gd lv s s₀ hid H0 μ0 σ ρ H ip KD ds gp hL hip gk I st sr rel co q => by
  obtain ⟨d, ds', rfl, q, kd⟩ := q
  refine sg_Yield gp.split ?_ hco hi
  rw [gp.over]
  refine wpAny_mono ((h s₀ H0).run ip s σ H (fun x H1 => St H μ0 H1 μ0 ∧ SR W hid H1 μ0 ∧ Rep W hid H1 μ0 x d) I ⟨hid, ρ, μ0, xF, _, rel, sr, q μ0, ?_, fun _ _ _ _ _ _ _ _ z => z.elim⟩) (fun v s' hv => ?_) fun _ _ z => z.elim
  · intro x d1 H1 μ1 s1 sr1 r1 ⟨e1, e2⟩
    subst e1; subst e2
    exact ⟨s1, sr1, r1⟩
  · obtain ⟨x, H1, I1, rx, s1, sr1, r1⟩ := hv
    intro g l k p hg hk
    rw [gp.gd] at hg
    subst hg
    refine co s' σ ip H1 v x l k c p fs I1 hip (st.trans s1) sr1 rx r1 gp.guard fun Φ' s₀' hid' H0' μ0' hL' co' I' ok' sr' => hk Φ' s₀' ?_
    exact gk Φ' s₀' hid' H0' μ0' s₀' σ ρ H0' ds' hL' I' .refl sr' (rel_mono ok' (rel_mono s1.ok rel)) (s1.ok.trans ok') co' kd
/-- a loop over data that stays -/
def gForL (i : Nat) (tb : TGD) (KD : KGD) : List D → PD.Env → List D → Prop
  | [], ρ, ds => KD ρ ds
  | x :: xs, ρ, ds => tb (fun ρ' ds' => gForL i tb KD xs ρ' ds') (ρ.set i (some x)) ds
def gFr (ti : TDI) (i : Nat) (tb : TGD) : TGD := fun KD ρ ds => ∃ xs, (∀ μ, ti xF ρ μ fun o xs1 μ1 => o = [] ∧ xs1 = xs ∧ μ1 = μ) ∧ gForL i tb KD xs ρ ds
theorem gr_for {x : Str} {px pos : Pos} {iter : Expr} {body : List Stmt} {ti : TDI} {i : Nat} {tb : TGD} (hs : ∀ v, foldedSetIterable iter G.env v = pure v) (hi : ∀ s H, BI (G.X s H) W WF (.Name x px) iter ti) (hg : ∀ s H, BG (G.X s H) W WF (.Name x px) (gN i))
    (hb : GRun G W (execs body G.env) tb) (hnc : ∀ y k, (cellsFrom (G.L + 1) G.scope.names []).lookup y = some k → False) : GRun G W (exec (.For (.Name x px) iter body [] pos) G.env) (gFr ti i tb) := fun Φ c fs K J gd lv s s₀ hid H0 μ0 σ ρ H ip KD ds gp hL hip gk I st sr rel co q => by
  obtain ⟨xs, q, qf⟩ := q
  refine sg_For hs ?_
  rw [gp.over]
  refine wpAny_mono ((hi s₀ H0).run ip s σ H (fun It H1 => St H μ0 H1 μ0 ∧ SR W hid H1 μ0 ∧ WalkD W hid H1 μ0 It [] xs) I ⟨hid, ρ, μ0, xF, _, rel, sr, q μ0, ?_, fun _ _ _ _ _ _ _ _ z => z.elim⟩) (fun v s1 h1 => wpAny_mono h1 (fun itv s2 h2 => ?_) fun _ _ z => z.elim) fun _ _ z => z.elim
  · intro It H1 μ1 o ds1 s1 sr1 w1 ⟨e1, e2, e3⟩
    subst e1; subst e2; subst e3
    exact ⟨s1, sr1, w1⟩
  obtain ⟨it, fp, tn, It, H2, rfl, I2, T, st2, f2, s2', sr2, wd⟩ := h2
  intro k g l p hk hgd
  have lowL : ∀ b ∈ fp, G.L < b := fun b hb => by
    obtain ⟨_, f1, _, f3, _⟩ := f2 b hb
    have f1' : b ≠ G.L := f1
    rcases f3 with z | z
    · cases z
    · have z' : (cutH G.L s₀.heap).objs.size ≤ b := z
      have hL : G.L ≤ (cutH G.L s₀.heap).objs.size := by
        rw [cut_size]
        · exact Nat.le_refl _
        · exact Nat.le_of_lt hL
      exact Nat.lt_of_le_of_ne (Nat.le_trans hL z') (Ne.symm f1')
  have stat : ∀ (s' : Shared) (H' H1 : Hp), (∀ b ∈ fp, H1 b = none) → ∀ b ∈ fp, FpOk (G.X s' H') ip H1 b := fun s' H' H1 hn b hb => by
    obtain ⟨_, f1, f2', _, _, f5⟩ := f2 b hb
    refine ⟨hn b hb, f1, f2', .inr ?_, fun y k e => (hnc y k e).elim, f5⟩
    have z : (cutH G.L s'.heap).objs.size ≤ G.L := by
      show (s'.heap.objs.extract 0 G.L).size ≤ G.L
      rw [Array.size_extract]
      exact Nat.le_trans (Nat.sub_le _ _) (Nat.min_le_left _ _)
    exact Nat.le_trans z (Nat.le_of_lt (lowL b hb))
  have ckn : ∀ μ, CK [] μ := fun μ p hp => by cases hp
  have main : ∀ (r : List D) (j : Nat), xs.drop j = r → j + r.length = xs.length → ∀ Φ s₀ hid' H0 μ' s σ ρ H ds, G.L < s₀.heap.objs.size → Inv (G.X s₀ H0) ip σ H s → tn j s.heap → (∀ b ∈ fp, H b = none) → St H0 μ' H μ' → SR W hid' H μ' → Rel W hid' H μ' σ ρ → Ok hid H2 μ0 hid' H μ' → Cons G W ds Φ s₀ hid' H0 μ' → gForL i tb KD r ρ ds →
      Sg (model G.P G.w) G.A Φ (.forLoop (.Name x px) (.ref it) body [] G.env) ((model G.P G.w).den (.forLoop (.Name x px) (.ref it) body [] G.env)) (.ret k none g l c p [] :: fs) s := by
    intro r
    induction r with
    | nil =>
      intro j hj hlen Φ s₀ hid' H0 μ' s σ ρ H ds hL I tnj fr st sr rel ok co q
      have ej : j = xs.length := by simpa using hlen
      subst ej
      refine sg_forLoop ?_
      rw [(gp.loop hgd rfl rfl).over]
      refine wpAny_mono (T.done (G.X s₀ H0) rfl rfl rfl rfl xs.length ip s σ H (fun _ _ => False) I (stat s₀ H0 H fr) tnj (wd.stops hid' H μ' ok sr (ckn μ'))) (fun r s1 hr => ?_) fun _ _ z => z.elim
      obtain ⟨rfl, I1⟩ := hr
      refine sg_forEnd ?_
      rw [hk]
      exact gk Φ s₀ hid' H0 μ' s1 σ ρ H ds hL I1 st sr rel (s2'.ok.trans ok) co q
    | cons d r ih =>
      intro j hj hlen Φ s₀ hid' H0 μ' s σ ρ H ds hL I tnj fr st sr rel ok co q
      have hlt : j < xs.length := by simp at hlen; omega
      have hd : xs[j]? = some d := by
        have e := List.getElem?_drop (xs := xs) (i := j) (j := 0)
        rw [hj] at e
        simpa using e.symm
      have hr : xs.drop (j + 1) = r := by
        rw [← List.drop_drop, hj]
        rfl
      refine sg_forLoop ?_
      rw [(gp.loop hgd rfl rfl).over]
      refine wpAny_mono (T.item (G.X s₀ H0) rfl rfl rfl rfl j ip s σ H (fun _ _ => False) I (stat s₀ H0 H fr) tnj (wd.goes hid' j H μ' hlt ok sr (ckn μ'))) (fun r0 s4 h4 => ?_) fun _ _ z => z.elim
      obtain ⟨u, rfl, h4⟩ := h4
      refine wpAny_mono h4 (fun _ s5 h5 => ?_) fun _ _ z => z.elim
      obtain ⟨v, H5, I5, r5, y5, tn5, fr5⟩ := h5
      obtain ⟨st5, sr5, rep5⟩ := wd.yields hid' j d H μ' v H5 hd ok sr (ckn μ') y5
      have I5' := I5.pinned (stat s₀ H0 H5 fr5) (T.obj _ _ tn5)
      refine wpAny_mono ((hg s₀ H0).run _ s5 σ H5 v u (fun σ6 H6 => St H5 μ' H6 μ' ∧ SR W hid' H6 μ' ∧ Rel W hid' H6 μ' σ6 (ρ.set i (some d))) I5' r5 ⟨hid', ρ, μ', xF, d, fun ρ6 μ6 => ρ6 = ρ.set i (some d) ∧ μ6 = μ', rel_mono st5.ok rel, sr5, rep5, ⟨rfl, rfl⟩, ?_, fun _ _ _ _ _ _ _ _ _ _ _ z => z.elim⟩) (fun _ s6 h6 => ?_) fun _ _ z => z.elim
      · intro σ6 ρ6 H6 μ6 s6 sr6 rel6 ⟨e1, e2⟩
        subst e1; subst e2
        exact ⟨s6, sr6, rel6⟩
      obtain ⟨σ6, H6, I6, st6, sr6, rel6⟩ := h6
      intro K' J' gd' lv' hK' hgd'
      have gl := gp.loop (k := k) (c' := .forLoop (.Name x px) (.ref it) body [] G.env) (l := l) (p := p) hgd rfl rfl
      refine hb Φ _ _ K' J' gd' lv' s6 s₀ hid' H0 μ' σ6 (ρ.set i (some d)) H6 (ip ++ pinsAt fp s5.heap) (fun ρ' ds' => gForL i tb KD r ρ' ds') ds ⟨gl.over, gl.split, gl.guard, hgd'⟩ hL (fun q hq => ?_) ?_ I6 ((st.trans st5).trans st6) sr6 rel6 co q
      · rcases List.mem_append.mp hq with z | z
        · exact hip q z
        · exact lowL q.1 (of_pinsAt z).1
      · rw [hK']
        intro Φ3 s3 hid3 H03 μ3 s3' σ3 ρ3 H3 ds3 hL3 I3 st3 sr3 rel3 ok3 co3 q3
        have pn : ∀ b ∈ fp, ∀ o, s5.heap.get? b = some o → s3'.heap.get? b = some o ∧ H3 b = none := fun b hb o e => by
          obtain ⟨h1, h2, _⟩ := I3.pin (b, o) (List.mem_append_right _ (List.mem_append_right _ (mem_pinsAt hb e)))
          exact ⟨h1, h2⟩
        refine sg_again rfl (ih (j + 1) hr (by simp at hlen; omega) Φ3 s3 hid3 H03 μ3 s3' σ3 ρ3 H3 ds3 hL3 I3.unpinned (T.keep _ _ _ tn5 fun b hb o e => (pn b hb o e).1) (fun b hb => ?_) st3 sr3 rel3 ((ok.trans (st5.ok.trans st6.ok)).trans ok3) co3 q3)
        obtain ⟨o, e, _⟩ := T.obj _ _ tn5 b hb
        exact (pn b hb o e).2
  exact main xs 0 rfl (Nat.zero_add _) Φ s₀ hid H0 μ0 s2 σ ρ H2 ds hL I2 st2 (fun b hb => (f2 b hb).1) (st.trans s2') sr2 (rel_mono s2'.ok rel) .refl co qf
end
end PD
set_option Elab.async false
set_option linter.all false
set_option autoImplicit false
set_option maxRecDepth 100000
set_option maxHeartbeats 4000000
namespace PD
open PySem PySem.Spec PyProof.Rows L2 GenW
/-! ### yield from a list -/
section
variable {prog : Program} {w : World} {A : Around} {E : Value → Shared → Prop} {s : Shared}
theorem sp_list_item {it l : Addr} {i : Nat} {items : Array Value} {x : Value} {Q : Option Value → Shared → Prop} (hit : s.heap.IsListIter it l i) (ht : s.heap.IsList l items) (hx : items[i]? = some x)
    (hQ : ∀ h', h'.IsListIter it l (i + 1) → Heap.SameBut it s.heap h' → Q (some x) { s with heap := h' }) : wpAny (model prog w) A (callSpecial? (.ref it) "__next__") Q E s := by
  obtain ⟨o, ho, hc, hd⟩ := id hit
  obtain ⟨ol, hol, _, nl, hdl⟩ := ht
  refine wpAny_callSpecial?_slot (name := Str.ofString "__next__") hit.typeIs slot_listiter_next (wpAny_call_entry slot_listiter_next hit.typeIs entry_listiter_next ?_ (args_listiter_next _))
  show wpAny _ _ (field (.ref it) 0 >>= _) _ _ s
  refine wpAny_bind (wpAny_field ho hd (x := .ref l) rfl ?_)
  show wpAny _ _ (if (Value.ref l == Value.none) = true then _ else _) _ _ s
  rw [if_neg (show ¬ ((Value.ref l == Value.none) = true) from Bool.false_ne_true)]
  show wpAny _ _ (field (.ref it) 1 >>= _) _ _ s
  refine wpAny_bind (wpAny_field ho hd (x := .int i 0) rfl ?_)
  show wpAny _ _ (seqItems? (.ref l) >>= _) _ _ s
  refine wpAny_bind (wpAny_seqItems hol hdl ?_)
  simp only [Int.toNat_natCast, hx]
  refine wpAny_bind (wpAny_setField ho hd (by simp) (wpAny_pure ⟨x, rfl, hQ _ ?_ (Heap.SameBut.update ..)⟩))
  exact ⟨_, Heap.get?_update_self _ ho (Obj.isFreed_of_fields (Obj.data_mapFields hd _)), (Obj.cls_mapFields ..).trans hc, by
    rw [Obj.data_mapFields hd]; simp [rawInt]⟩
theorem sp_list_end {it l : Addr} {i : Nat} {items : Array Value} {Q : Option Value → Shared → Prop} (hh : A.handled = none) (hit : s.heap.IsListIter it l i) (ht : s.heap.IsList l items) (hx : items[i]? = none)
    (hE : ∀ e h', StopX e h' → Heap.ExtBut it s.heap h' → E e { s with heap := h' }) : wpAny (model prog w) A (callSpecial? (.ref it) "__next__") Q E s := by
  obtain ⟨o, ho, hc, hd⟩ := id hit
  obtain ⟨ol, hol, _, nl, hdl⟩ := ht
  refine wpAny_callSpecial?_slot (name := Str.ofString "__next__") hit.typeIs slot_listiter_next (wpAny_call_entry slot_listiter_next hit.typeIs entry_listiter_next ?_ (args_listiter_next _))
  show wpAny _ _ (field (.ref it) 0 >>= _) _ _ s
  refine wpAny_bind (wpAny_field ho hd (x := .ref l) rfl ?_)
  show wpAny _ _ (if (Value.ref l == Value.none) = true then _ else _) _ _ s
  rw [if_neg (show ¬ ((Value.ref l == Value.none) = true) from Bool.false_ne_true)]
  show wpAny _ _ (field (.ref it) 1 >>= _) _ _ s
  refine wpAny_bind (wpAny_field ho hd (x := .int i 0) rfl ?_)
  show wpAny _ _ (seqItems? (.ref l) >>= _) _ _ s
  refine wpAny_bind (wpAny_seqItems hol hdl ?_)
  simp only [Int.toNat_natCast, hx]
  refine wpAny_bind (wpAny_rule (wpAny_bind (wpAny_setField ho hd (by simp) ?_)))
  show wpAny _ _ (newExc (.type "StopIteration") [] >>= _) _ _ _
  refine wpAny_bind ?_
  simp only [newExc, newTuple]
  refine wpAny_bind (wpAny_newObj_type ?_ (by size_fits))
  refine wpAny_bind (m := firstArgMember _ _) (wpAny_of_eq (a := Value.none) (by first | rfl | (simp only [firstArgMember]; rfl)) ?_)
  refine wpAny_newObj_type ?_ (by size_fits)
  simp only [raiseNew]
  refine wpAny_bind (wpAny_handled ?_)
  first | rw [show A.in1.handled = none from hh] | rw [hh]
  refine wpAny_bind (wpAny_pure (wpAny_throw ?_))
  refine hE _ _ ⟨_, _, _, rfl, Heap.get?_push_size _ rfl, rfl, rfl, ?_⟩ (((Heap.SameBut.update ..).extBut.push _).push _)
  first
    | rfl
    | (rw [Array.getElem?_append_left (by decide)]; rfl)
    | kernel_rfl
end
theorem close_lst : typeLookup (.type "list_iterator") "close" = pure none := by rw [typeLookup_type, builtinLookup_eq_fast]; kernel_rfl
theorem den_yf' {P : Program} {w : World} {it : Value} : (model P w).den (.builtin "proto.yield_from" ⟨[it, .bool false, .none], []⟩) = Builtin.«proto.yield_from» ⟨[it, .bool false, .none], []⟩ := by
  show (match entryFor table "proto.yield_from" with | some b => b ⟨[it, .bool false, .none], []⟩ | none => unsupported ((withoutEnding? "proto.yield_from" "#data").getD "proto.yield_from")) = _
  rw [entry_yf]
section
variable {G : Gn} {W : Wo}
def gYf (te : TDE) : TGD := fun KD ρ ds => ∃ xs ds', ds = xs ++ ds' ∧ (∀ μ, te xF ρ μ fun d μ1 => d = .lst xs ∧ μ1 = μ) ∧ KD ρ ds'
theorem gr_yieldFrom {e : Expr} {te : TDE} {yp pos : Pos} (h : ∀ s H, BE (G.X s H) W WF e te) (hK : G.K = W.K) (hh : G.A.handled = none) (hi : interactive G.env = false) (hnc : ∀ y k, (cellsFrom (G.L + 1) G.scope.names []).lookup y = some k → False) :
    GRun G W (exec (.Expr (.YieldFrom e yp) pos) G.env) (gYf te) := fun Φ c fs K J gd lv s s₀ hid H0 μ0 σ ρ H ip KD ds gp hL hip gk I st sr rel co q => by
  obtain ⟨xs, ds', rfl, q, kd⟩ := q
  rw [exec_Expr G.env _ pos hi rfl]
  show Sg _ _ _ c (.at pos fun _ => ((eval e G.env >>= fun v => (standAt yp >>= fun _ => yieldFrom G.env v)) >>= fun x => dropValue (.YieldFrom e yp) pos x).wrap K J gd lv) fs s
  refine sg_at ?_
  rw [Sem.bind_eq_wrap' (eval e G.env >>= _) _, Sem.wrap_wrap]
  refine sg_bindw ?_
  rw [gp.over]
  refine wpAny_mono ((h s₀ H0).run ip s σ H (fun x H1 => St H μ0 H1 μ0 ∧ SR W hid H1 μ0 ∧ Rep W hid H1 μ0 x (.lst xs)) I ⟨hid, ρ, μ0, xF, _, rel, sr, q μ0, ?_, fun _ _ _ _ _ _ _ _ z => z.elim⟩) (fun v s1 hv => ?_) fun _ _ z => z.elim
  · intro x d1 H1 μ1 s1 sr1 r1 ⟨e1, e2⟩
    subst e1; subst e2
    exact ⟨s1, sr1, r1⟩
  obtain ⟨x, H1, I1, rx, s1', sr1, r1⟩ := hv
  have listAt : ∀ {hid' : Hid} {H' H0' : Hp} {μ' : Mu} {s' s₀' : Shared} {ip' : List (Addr × Obj)} {σ' : L2.St}, Inv (G.X s₀' H0') ip' σ' H' s' → SR W hid' H' μ' → Rep W hid' H' μ' x (.lst xs) → ∃ a its, x = .ref a ∧ s'.heap.IsList a its.toArray ∧ ∃ vs, Vals vs its ∧ Reps W hid' H' μ' vs xs := fun {hid' H' H0' μ' s' s₀' ip' σ'} I' sr' r' => by
    obtain ⟨a, vs, rfl, sq, rs⟩ := lstOf_ok (ds := xs) rfl sr' r'
    rw [← hK] at sq
    obtain ⟨its, rv, pl, _⟩ := I'.list sq
    exact ⟨a, its, rfl, pl.isList, vs, rv, rs⟩
  obtain ⟨la, its, rfl, il, vs, rvs, rs⟩ := listAt I1 sr1 r1
  obtain rfl : v = Value.ref la := rx
  refine sg_at ?_
  show Sg _ _ _ c ((yieldFrom G.env (.ref la)).wrap (fun b => (dropValue (.YieldFrom e yp) pos b).wrap K J gd lv) J gd lv) fs s1
  unfold yieldFrom
  refine sg_bindw (wpAny_typeOf il.typeIs ?_)
  rw [if_neg (show ¬ ((Value.type "list" == Value.type "coroutine") = true) by decide)]
  refine sg_bindw (wpAny_holding (wpAny_pyIter_list il ?_))
  refine sg_call fun p => ?_
  let it : Addr := s1.heap.objs.size
  have hitL : G.L < it := I1.lt
  have hn1 : H1 it = none := I1.hok.fresh (Nat.le_refl _)
  have kp : ∀ b o, s1.heap.get? b = some o → (s1.heap.push { cls := .type "list_iterator", data := .fields #[.ref la, .int 0 0] }).get? b = some o := fun b o e => Heap.get?_push_of_some _ e
  have I2 : Inv (G.X s₀ H0) ip σ H1 { s1 with heap := s1.heap.push { cls := .type "list_iterator", data := .fields #[.ref la, .int 0 0] } } := I1.kept (t' := s1.toks) kp
  have fp0 : ∀ q ∈ (G.a, G.go) :: ip, q.1 ≠ it := fun q hq => Nat.ne_of_lt (Heap.lt_size (I1.pin q hq).1)
  have fit : ∀ (s' : Shared) (H' : Hp), it ∉ frs G.outer := fun _ _ => I1.nofs (Nat.le_refl _)
  have turned : ∀ {s₀ s : Shared} {H0 H : Hp} {h' : Heap}, Inv (G.X s₀ H0) ip σ H s → H it = none → (∀ b o, b ≠ it → s.heap.get? b = some o → h'.get? b = some o) → Inv (G.X s₀ H0) ip σ H { s with heap := h' } := fun {s₀ s H0 H h'} I hn hk => by
    refine I.turned (it := it) (t' := s.toks) hk hn (Ne.symm (Nat.ne_of_lt hitL)) (.inr ?_) (fun y k e => (hnc y k e).elim) fp0
    have z : (cutH G.L s₀.heap).objs.size ≤ G.L := by
      show (s₀.heap.objs.extract 0 G.L).size ≤ G.L
      rw [Array.size_extract]
      exact Nat.le_trans (Nat.sub_le _ _) (Nat.min_le_left _ _)
    exact Nat.le_trans z (Nat.le_of_lt hitL)
  have hov : ∀ (k : Result → Sem PySem.Fin) (g : Bool) (l : List Value), (G.A.over (.builtin "proto.yield_from" ⟨[.ref it, .bool false, .none], []⟩) (.ret k none g l c p [] :: fs)).handled = none := fun k g l => by
    show (G.A.over c fs).handled = none
    rw [gp.over]
    exact hh
  have main : ∀ (k : Result → Sem PySem.Fin) (g : Bool) (l : List Value), g = false → k (.ok (.ret .none)) = K .next → ∀ (r : List D) (j : Nat), xs.drop j = r → j + r.length = xs.length → ∀ Φ s₀ hid' H0 μ' s H, G.L < s₀.heap.objs.size → Inv (G.X s₀ H0) ip σ H s → s.heap.IsListIter it la j → H it = none → St H0 μ' H μ' → SR W hid' H μ' → Rel W hid' H μ' σ ρ → Rep W hid' H μ' (.ref la) (.lst xs) → Ok hid H1 μ0 hid' H μ' → Cons G W (r ++ ds') Φ s₀ hid' H0 μ' →
      Sg (model G.P G.w) G.A Φ (.builtin "proto.yield_from" ⟨[.ref it, .bool false, .none], []⟩) ((model G.P G.w).den (.builtin "proto.yield_from" ⟨[.ref it, .bool false, .none], []⟩)) (.ret k none g l c p [] :: fs) s := by
    intro k g l hg hk r
    induction r with
    | nil =>
      intro j hj hlen Φ s₀ hid' H0 μ' s H hL I itr hn st sr rel rep ok co
      have ej : j = xs.length := by simpa using hlen
      subst ej
      obtain ⟨a', its', e', il', vs', rv', rs'⟩ := listAt I sr rep
      cases e'
      rw [den_yf']
      unfold Builtin.«proto.yield_from»
      try dsimp only
      refine sg_bind (wpAny_pure ?_)
      try dsimp only
      refine sg_bind (wpAny_attempt (wpAny_holding ?_))
      rw [if_neg Bool.false_ne_true, if_pos (show (Value.none == Value.none) = true from rfl)]
      refine wpAny_bind (wpAny_rule (wpAny_bind ?_))
      have hnone : its'.toArray[xs.length]? = none := by
        have e1 := rv'.length
        have e2 := rs'.length
        have e3 : its'[xs.length]? = none := List.getElem?_eq_none_iff.mpr (by omega)
        simpa using e3
      refine sp_list_end (hov k g l) itr il' hnone fun e h' hS hk' => ?_
      obtain ⟨a, o, vs, rfl, hoa, hcls, hdat, h5⟩ := hS
      try dsimp only
      refine sg_bind (wpAny_endsTurn hoa hcls ?_)
      try dsimp only
      rw [if_pos rfl]
      first
        | refine sg_bind (wpAny_rule ?_)
        | (rw [if_neg Bool.false_ne_true]; refine sg_bind (wpAny_rule ?_))
        | (rw [if_neg Bool.false_ne_true]; refine sg_bind (wpAny_pure ?_); refine sg_bind (wpAny_rule ?_))
      refine sg_bind (wpAny_field hoa hdat h5 ?_)
      refine sg_leaf (.ok (.ret .none)) ?_
      rw [hk]
      exact gk Φ s₀ hid' H0 μ' _ σ ρ H ds' hL (turned I hn fun b o hb e => hk' b o hb e) st sr rel (s1'.ok.trans ok) co kd
    | cons d r ih =>
      intro j hj hlen Φ s₀ hid' H0 μ' s H hL I itr hn st sr rel rep ok co
      have hlt : j < xs.length := by simp at hlen; omega
      have hd : xs[j]? = some d := by
        have e := List.getElem?_drop (xs := xs) (i := j) (j := 0)
        rw [hj] at e
        simpa using e.symm
      have hr : xs.drop (j + 1) = r := by
        rw [← List.drop_drop, hj]
        rfl
      obtain ⟨a', its', e', il', vs', rv', rs'⟩ := listAt I sr rep
      cases e'
      obtain ⟨y, hy, ry⟩ := rs'.get hd
      obtain ⟨u, hu, ru⟩ := rv'.get hy
      rw [den_yf']
      unfold Builtin.«proto.yield_from»
      try dsimp only
      refine sg_bind (wpAny_pure ?_)
      try dsimp only
      refine sg_bind (wpAny_attempt (wpAny_holding ?_))
      rw [if_neg Bool.false_ne_true, if_pos (show (Value.none == Value.none) = true from rfl)]
      refine wpAny_bind (wpAny_rule (wpAny_bind ?_))
      refine sp_list_item itr il' (x := u) (by simpa using hu) fun h' itr' hs' => ?_
      have I' := turned (h' := h') I hn fun b o hb e => hs'.extBut b o hb e
      obtain ⟨oi, hoi, hoc, hod⟩ := id itr'
      refine wpAny_pure ?_
      try dsimp only
      refine sg_bind (wpAny_typeOf (T := "list_iterator") ⟨oi, hoi, hoc⟩ ?_)
      try dsimp only
      first
        | (refine sg_bind (wpAny_of_eq close_lst ?_); refine sg_bind (wpAny_pure ?_))
        | refine sg_bind (wpAny_bind (wpAny_of_eq close_lst (wpAny_pure ?_)))
        | refine sg_bind (wpAny_of_eq close_lst ?_)
      try dsimp only
      refine sg_bind (wpAny_sleptOver hoi hoc (by decide) ?_)
      have hfs2 : splitAtGen (.ret k none g l c p [] :: fs) = none := by
        show (splitAtGen fs).map _ = none
        rw [gp.split]; rfl
      have hgd2 : (Frame.ret k none g l c p [] :: fs).any Frame.guarded = false := by
        show (g || fs.any Frame.guarded) = false
        rw [hg, gp.guard]; rfl
      refine sg_yield hfs2 fun p2 => ?_
      have Ip : Inv (G.X s₀ H0) (ip ++ [(it, oi)]) σ H { s with heap := h' } := I'.pins_of fun q hq => by
        rcases List.mem_append.mp hq with z | z
        · exact I'.pin q (List.mem_append_right _ z)
        · rw [List.mem_singleton.mp z]
          exact ⟨hoi, hn, Ne.symm (Nat.ne_of_lt hitL), fit s H, fun v z => by rw [hod] at z; cases z⟩
      refine co { s with heap := h' } σ (ip ++ [(it, oi)]) H u y _ _ _ p2 _ Ip (fun q hq => ?_) st sr ru ry hgd2 fun Φ3 s3 hid3 H3 μ3 hL3 co3 I3 ok3 sr3 => ?_
      · rcases List.mem_append.mp hq with z | z
        · exact hip q z
        · rw [List.mem_singleton.mp z]
          exact hitL
      · have pit := I3.pin (it, oi) (List.mem_append_right _ (List.mem_append_right _ (List.mem_singleton.mpr rfl)))
        show Sg _ _ _ _ (Builtin.Generator.sleptOver (.ref it) false >>= fun _ => _) _ s3
        refine sg_bind (wpAny_sleptOver pit.1 hoc (by decide) ?_)
        try dsimp only
        refine sg_bind (wpAny_pure ?_)
        exact sg_again (plainId_quiet plain_yf _) (ih (j + 1) hr (by simp at hlen; omega) Φ3 s3 hid3 H3 μ3 s3 H3 hL3 I3.unpinned ⟨oi, pit.1, hoc, hod⟩ pit.2.1 .refl sr3 (rel_mono ok3 rel) (rep.mono ok3) (ok.trans ok3) co3)
  exact main _ _ _ (by rw [gp.gd]) rfl xs 0 rfl (Nat.zero_add _) Φ s₀ hid H0 μ0 _ H1 hL I2 ⟨_, Heap.get?_push_size _ rfl, rfl, rfl⟩ hn1 (st.trans s1') sr1 (rel_mono s1'.ok rel) r1 .refl co
end
end PD
set_option Elab.async false
set_option linter.all false
set_option autoImplicit false
set_option maxRecDepth 100000
set_option maxHeartbeats 4000000
namespace PD
open PySem PySem.Spec PyProof.Rows L2 GenW
/-! ### the consumer: the next of a generator that sleeps -/
def gOf (X : Cx) (A : Around) (N : List Str) (qual : Str) (scope : Scope) (f : Addr) (cd : Value) (L a : Addr) (go : Obj) : Gn := ⟨X.prog, X.w, X.K, X.mg, X.base, N, qual, scope, f, cd, A, X.stack, L, a, go⟩
/-- what it does when it is woken, its own things (pv) as they stood -/
def GWake (G : Gn) (W : Wo) (ds : List D) (pv : List (Addr × Obj)) (hid : Hid) (H : Hp) (μ : Mu) (gs : GenState) : Prop :=
  ∀ Φ s₀' hid' H' μ', Cons G W ds Φ s₀' hid' H' μ' → (∀ p ∈ pv, s₀'.heap.get? p.1 = some p.2 ∧ H' p.1 = none) → Env0 G.P G.w G.K G.mg G.base G.A G.outer s₀' H' → Ok hid H μ hid' H' μ' → SR W hid' H' μ' → GoX (model G.P G.w) G.A Φ gs s₀'
structure PvOk (G : Gn) (pv : List (Addr × Obj)) : Prop where
  gen : (G.a, G.go) ∈ pv
  low : ∀ p ∈ pv, G.L ≤ p.1
  nc : ∀ p ∈ pv, ∀ v, p.2.data ≠ .cell v
structure IsGo (go : Obj) (g : Nat) : Prop where
  cls : go.cls = .type "generator"
  dat : ∃ nm qn, go.data = .fields #[.int g 0, nm, qn]
  sl : go.slots = #[]
theorem IsGo.nc {go : Obj} {g : Nat} (h : IsGo go g) : ∀ v, go.data ≠ .cell v := fun v z => by
  obtain ⟨nm, qn, e⟩ := h.dat
  rw [e] at z
  cases z
theorem IsGo.isGen {go : Obj} {g : Nat} {a : Addr} {hp : Heap} (h : IsGo go g) (e : hp.get? a = some go) : hp.IsGen a g := by
  obtain ⟨nm, qn, d⟩ := h.dat
  exact ⟨go, nm, qn, e, h.cls, d, h.sl⟩
def Nxt (X : Cx) (pins : List (Addr × Obj)) (σ : L2.St) (G : Gn) (W : Wo) (g : Nat) (hid : Hid) (μ : Mu) (H : Hp) (ds : List D) (r : Option Value) (s1 : Shared) : Prop := match ds with
  | [] => r = none ∧ ∃ H1, Inv X pins σ H1 s1 ∧ St H μ H1 μ ∧ SR W hid H1 μ
  | d :: ds' => ∃ v x H1 pv' gs', r = some v ∧ Inv X (pins ++ pv') σ H1 s1 ∧ St H μ H1 μ ∧ SR W hid H1 μ ∧ RelV x v ∧ Rep W hid H1 μ x d ∧ PvOk G pv' ∧ s1.gens[g]? = some gs' ∧ GWake G W ds' pv' hid H1 μ gs'
theorem asl_next {X : Cx} {Aq : Around} {N : List Str} {qual : Str} {scope : Scope} {f : Addr} {cd : Value} {L a : Addr} {go : Obj} {W : Wo} {g : Nat} {hid0 hid : Hid} {H00 H : Hp} {μ00 μ : Mu} {ds : List D} {pins pv : List (Addr × Obj)} {σ : L2.St} {s : Shared} {gs : GenState} {E : Value → Shared → Prop}
    (O : (gOf X Aq.in1 N qual scope f cd L a go).Ok) (hh : Aq.handled = none) (hdp : Aq.depth < recursionLimit) (hfr : Aq.frames = some X.stack) (hlt : X.env.locals < L) (hcell : ∀ x c, X.env.cells.lookup x = some c → c < L) (hpin : ∀ p ∈ X.pn ++ pins, p.1 < L) (hgo : IsGo go g)
    (hfs : ∀ b ∈ X.fs, b < L) (I : Inv X (pins ++ pv) σ H s) (pvo : PvOk (gOf X Aq.in1 N qual scope f cd L a go) pv) (hgs : s.gens[g]? = some gs) (wk : GWake (gOf X Aq.in1 N qual scope f cd L a go) W ds pv hid0 H00 μ00 gs) (ok : Ok hid0 H00 μ00 hid H μ) (sr : SR W hid H μ) :
    wpAny (model X.prog X.w) Aq (pyNext (.ref a)) (Nxt X pins σ (gOf X Aq.in1 N qual scope f cd L a go) W g hid μ H ds) E s := by
  have ga := I.pin (a, go) (List.mem_append_right _ (List.mem_append_right _ pvo.gen))
  have hgl : g < s.gens.size := (Array.getElem?_eq_some_iff.mp hgs).1
  have b0 : AllBare (s.setGen g .running).gens := allBare_setGen I.bare rfl
  have I0 : Inv X pins σ H (s.setGen g .running) := I.unpinned.call' (ch := []) rfl (Un.kept fun b o e => e) I.hok b0 fun b z => by cases z
  have e0 : Env0 X.prog X.w X.K X.mg X.base Aq.in1 X.stack (s.setGen g .running) H := by
    have z := I0.env0
    exact ⟨hfr, z.mod, z.bs, z.bsz, z.funs, z.frf, z.hok, z.bare⟩
  refine wpAny_gsz (n := g + 1) hgl (sg_next (Φ := Wanted g fun r s1 => g + 1 ≤ s1.gens.size → Nxt X pins σ (gOf X Aq.in1 N qual scope f cd L a go) W g hid μ H ds r s1) hh I.nolimit hdp (hgo.isGen ga.1) hgs
    (wk _ (s.setGen g .running) hid H μ ?_ (fun p hp => ?_) e0 ok sr) fun e s₁ he => ?_)
  · cases ds with
    | nil =>
      intro s2 σ2 ip H1 I1 st1 sr1
      refine ⟨.inl rfl, fun h' hk _ => ⟨rfl, H1, ?_, st1, sr1⟩⟩
      have J := Gn.back (G := gOf X Aq.in1 N qual scope f cd L a go) I0 rfl rfl rfl hlt hcell hpin I1
      exact J.call' (ch := []) rfl (Un.kept hk) (J.hok.kept hk) (allBare_setGen J.bare rfl) fun b z => by cases z
    | cons d ds' =>
      intro s2 σ2 ip H1 v x l k c p fs I1 hip st1 sr1 rx rep hgu cont
      have J := Gn.back (G := gOf X Aq.in1 N qual scope f cd L a go) I0 rfl rfl rfl hlt hcell hpin I1
      obtain ⟨oL, hoL, ncL⟩ := Gn.frame_at I1
      have qt : (End.susp v false l k c p fs).quiet = true := by
        show (!(false || fs.any Frame.guarded)) = true
        rw [hgu]; rfl
      refine ⟨qt, fun hsz => ?_⟩
      have pn1 : ∀ q ∈ (L, oL) :: (a, go) :: ip, s2.heap.get? q.1 = some q.2 ∧ H1 q.1 = none ∧ L ≤ q.1 ∧ ∀ v, q.2.data ≠ .cell v := fun q hq => by
        rcases List.mem_cons.mp hq with rfl | hq
        · exact ⟨hoL, I1.free, Nat.le_refl _, ncL⟩
        · obtain ⟨z1, z2, _, _, z5⟩ := I1.pin q hq
          refine ⟨z1, z2, ?_, z5⟩
          rcases List.mem_cons.mp hq with rfl | hq
          · exact pvo.low (a, go) pvo.gen
          · exact Nat.le_of_lt (hip q hq)
      have hg2 : g < s2.gens.size := by
        have hsz' : g + 1 ≤ (s2.setGen g (End.susp v false l k c p fs).genState).gens.size := hsz
        rw [setGen_size] at hsz'
        exact hsz'
      have J2 : Inv X pins σ H1 (s2.setGen g (End.susp v false l k c p fs).genState) := J.call' (ch := []) rfl (Un.kept fun b o e => e) J.hok (allBare_setGen J.bare (End.bare_of_quiet qt)) fun b z => by cases z
      refine ⟨v, x, H1, (L, oL) :: (a, go) :: ip, _, rfl, J2.pins_of fun q hq => ?_, st1, sr1, rx, rep, ⟨List.mem_cons_of_mem _ List.mem_cons_self, fun q hq => (pn1 q hq).2.2.1, fun q hq => (pn1 q hq).2.2.2⟩, setGen_at hg2, ?_⟩
      · rcases List.mem_append.mp hq with z | z
        · exact J2.pin q (List.mem_append_right _ z)
        · obtain ⟨z1, z2, z3, z4⟩ := pn1 q z
          refine ⟨z1, z2, fun e => ?_, fun e => ?_, z4⟩
          · exact absurd (Nat.lt_of_lt_of_le hlt z3) (by rw [e]; exact Nat.lt_irrefl _)
          · exact absurd (Nat.lt_of_lt_of_le (hfs _ e) z3) (Nat.lt_irrefl _)
      · intro Φ' s₀' hid' H' μ' co' kp' e0' ok' sr'
        have w' := Gn.wake O I1 hoL e0' kp'
        exact cont Φ' s₀' hid' H' μ' (Heap.lt_size (kp' (L, oL) List.mem_cons_self).1) co' w' ok' sr'
  · obtain ⟨z1, z2, _⟩ := I.pin p (List.mem_append_right _ (List.mem_append_right _ hp))
    exact ⟨z1, z2⟩
  · exact he
end PD
set_option Elab.async false
set_option linter.all false
set_option autoImplicit false
set_option maxRecDepth 100000
set_option maxHeartbeats 4000000
namespace PD
open PySem PySem.Spec PyProof.Rows L2 GenW
/-! ### a generator def: what its call gives -/
/-- a generator that has not begun: it will hand out xs -/
def MadeD (P : Program) (w : World) (K : PySem.W.Frag) (mg : Str → Option Value) (base : Heap) (W : Wo) (k : Nat) (outer : List PySem.Env) (hid : Hid) (H : Hp) (μ : Mu) (xs : List D) (s : Shared) (u : Value) (s' : Shared) : Prop :=
  ∃ (N : List Str) (qual : Str) (scope : Scope) (f : Addr) (cd : Value) (a : Addr) (go oL : Obj) (g : Nat) (gs : GenState), u = .ref a ∧ s'.os = s.os ∧ AllBare s'.gens ∧ (∀ b o, s.heap.get? b = some o → s'.heap.get? b = some o) ∧ IsGo go g ∧ s'.gens[g]? = some gs ∧ s.heap.objs.size < a ∧
    s'.heap.get? s.heap.objs.size = some oL ∧ (∀ v, oL.data ≠ .cell v) ∧ s'.heap.get? a = some go ∧
    ∀ A, Room k A → A.frames = some outer → Gn.Ok ⟨P, w, K, mg, base, N, qual, scope, f, cd, A, outer, s.heap.objs.size, a, go⟩ ∧ GWake ⟨P, w, K, mg, base, N, qual, scope, f, cd, A, outer, s.heap.objs.size, a, go⟩ W xs [(s.heap.objs.size, oL), (a, go)] hid H μ gs
/-- F ds xs: called with ds it will hand out xs -/
abbrev GF := List D → List D → Prop
structure GDefD (P : Program) (w : World) (K : PySem.W.Frag) (mg : Str → Option Value) (base : Heap) (W : Wo) (k : Nat) (x : Str) (ps : List Str) (F : GF) : Prop where
  ex : ∃ (f : Addr) (fd : FuncData), mg x = some (.ref f) ∧ PySem.W.keepIn K (.ref f) = true ∧ Binds K fd ps [] ∧
    ∀ (A : Around) (outer : List PySem.Env) (s : Shared) (H : Hp) (args : Args) (us : List Value) (vs : List V) (hid : Hid) (μ : Mu) (ds xs : List D), A.depth < recursionLimit → Env0 P w K mg base A outer s H → BindsTo s fd args (ps.zip us) → Vals vs us → SR W hid H μ → Reps W hid H μ vs ds → ds.length = ps.length → F ds xs →
      codeAny (model P w) A (.call (.ref f) args) (fun r s' => match r with | .ok (.ret u) => MadeD P w K mg base W k outer hid H μ xs s u s' | _ => False) s
/-- the reading of a generator's body -/
def gfnD (n : Nat) (t : TGD) : GF := fun ds xs => t (fun _ zs => zs = []) (startD n ds) xs
section
variable {P : Program} {w : World} {K : PySem.W.Frag} {mg : Str → Option Value} {base : Heap} {W : Wo}
theorem gdef_of {x : Str} {st : Stmt} {N ps : List Str} {k : Nat} {t : TGD} (F : LB.TopFn K mg x st ps) (S : GScope N ps (defScope st)) (hnc : ∀ y ∈ (defScope st).names, y.2 ≠ .cell) (hcl : ∀ L, cellsFrom (L + 1) (defScope st).names [] = [])
    (hbody : ∀ G : Gn, G.P = P → G.w = w → G.K = K → G.mg = mg → G.base = base → G.N = N → G.qual = x → G.scope = defScope st → Room k (G.A.deeper G.env) → G.A.handled = none → GRun G W (execs (defBody st) G.env) t) :
    GDefD P w K mg base W (k + 1) x ps (gfnD N.length t) := by
  obtain ⟨f, fd, F, hm, b⟩ := F.ex
  obtain ⟨oc, od, kV, doc, pm, an, cdv, ct, osl, rfl, lk, hcd⟩ := F.ex
  refine ⟨f, _, hm, F.kp, b, fun A outer s H args us vs hid μ ds xs hdp e0 hb r sr rs hlen hF => ?_⟩
  have hl : vs.length = ps.length := by rw [rs.length]; exact hlen
  have KX : K.In s.heap := e0.mod.kin.keeps fun b o e => (e0.bs b o e).1
  have lim : s.heap.NoLimit := e0.mod.nolimit.keeps fun b o e => (e0.bs b o e).1
  have nocell : ∀ y, (defScope st).names.lookup y ≠ some .cell ∧ (defScope st).names.lookup y ≠ some .free := fun y => ⟨fun e => hnc _ (PySem.mem_of_lookup e) rfl, fun e => S.nofree _ (PySem.mem_of_lookup e) rfl⟩
  have hkind : ∀ y ∈ ps.zip us, (defScope st).names.lookup y.1 = some .local ∨ ((defScope st).names.lookup y.1 = some .cell ∧ ((cellsFrom (s.heap.objs.size + 1) (defScope st).names []).lookup y.1).isSome = true) := fun ⟨n, v⟩ hy => by
    rcases S.par n (List.of_mem_zip hy).1 with q | q
    · exact .inl q
    · exact ((nocell n).1 q).elim
  refine codeAny_call_generator hdp (KX _ _ lk) rfl S.co S.gen rfl (PySem.W.codeRec_of KX hcd) (hb _ _ _ _ ?_)
  refine wpAny_newFunctionEnv_cells S.kind hkind fun env he s1 xc => ?_
  subst he
  have lim1 : s1.heap.NoLimit := lim.keeps xc.toInCall.keep
  refine ⟨lim1, ?_⟩
  obtain ⟨h1, tk, es1, hk1⟩ := xc.done
  have os1 : s1.os = s.os := by rw [es1]
  have gen1 : s1.gens = s.gens := by rw [es1]
  have lt1 : s.heap.objs.size < s1.heap.objs.size := xc.toInCall.ns.lt
  have kp1 : ∀ b o, s.heap.get? b = some o → s1.heap.get? b = some o := xc.toInCall.keep
  have main : ∀ (go : Obj) (tk2 : Nat), IsGo go s1.gens.size → (∀ h : Heap, (h.push go).get? h.objs.size = some go) →
      MadeD P w K mg base W (k + 1) outer hid H μ xs s (.ref s1.heap.objs.size) { s1 with gens := s1.gens.push (.fresh (.func (defBody st) (envOfC x (defScope st) s.heap.objs.size f cdv))), toks := tk2, heap := s1.heap.push go } := by
    intro go tk2 hgo hgp
    obtain ⟨oL, es, ep, hoL, hdL, nsL⟩ := xc.toInCall.ns
    refine ⟨N, x, defScope st, f, cdv, s1.heap.objs.size, go, oL, s1.gens.size, _, rfl, os1, ?_, fun b o e => Heap.get?_push_of_some _ (kp1 b o e), hgo, Array.getElem?_push_size .., lt1, Heap.get?_push_of_some _ hoL, fun v z => (by rw [hdL] at z; cases z), hgp _, fun A2 hr2 hfr2 => ?_⟩
    · exact AllBare.push (by rw [gen1]; exact e0.bare) rfl
    have O : Gn.Ok ⟨P, w, K, mg, base, N, x, defScope st, f, cdv, A2, outer, s.heap.objs.size, s1.heap.objs.size, go⟩ := ⟨S.kind, hcl _, nocell, hr2.hd, e0.bsz, fun b hb => by
      obtain ⟨_, o, ho, _⟩ := e0.funs.mem hb
      exact Heap.lt_size ho⟩
    refine ⟨O, fun Φ s₀ hid' H' μ' co kp e0' ok' sr' => ?_⟩
    have hL := kp (s.heap.objs.size, oL) List.mem_cons_self
    have ha := kp (s1.heap.objs.size, go) (List.mem_cons_of_mem _ List.mem_cons_self)
    have I : Inv (Gn.X ⟨P, w, K, mg, base, N, x, defScope st, f, cdv, A2, outer, s.heap.objs.size, s1.heap.objs.size, go⟩ s₀ H') [] (L2.start N vs) H' s₀ := by
      refine Gn.inv_in O e0' (Heap.lt_size hL.1) ⟨_, ⟨oL, es, ep, hL.1, hdL, nsL⟩, fun i y v hi hv hvis => ?_⟩ hL.2 (fun p hp => ?_) ?_
      · have hpl : ps.length ≤ N.length := by have := congrArg List.length S.pre; rw [List.length_take] at this; omega
        have hi2 : i < vs.length := by
          unfold L2.start at hv
          by_cases hi2 : i < vs.length
          · exact hi2
          · rw [List.getElem?_append_right (by simpa using hi2)] at hv
            rw [List.getElem?_replicate] at hv
            split at hv <;> cases hv
        have hav : vs[i]? = some v := by
          unfold L2.start at hv
          rw [List.getElem?_append_left (by simpa using hi2), List.getElem?_map] at hv
          cases e : vs[i]? with
          | none => rw [e] at hv; cases hv
          | some a => rw [e] at hv; cases hv; rfl
        obtain ⟨u, hu, rv⟩ := r.get hav
        have hp : ps[i]? = some y := by
          rw [← S.pre, List.getElem?_take_of_lt (by omega)]; exact hi
        have ndP : ps.Nodup := by rw [← S.pre]; exact S.nd.sublist (List.take_sublist _ _)
        refine ⟨u, rv, .inl ?_⟩
        rcases S.par y (List.mem_of_getElem? hp) with q | q
        · exact ⟨q, bindL_get ndP hp hu q⟩
        · exact ((nocell y).1 q).elim
      · rw [List.mem_singleton.mp hp]
        refine ⟨ha.1, ha.2, Nat.ne_of_gt lt1, fun z => ?_, hgo.nc⟩
        exact absurd (Nat.lt_trans (O.fL _ z) lt1) (Nat.lt_irrefl _)
      · unfold L2.start
        show _ = N.length
        rw [List.length_append, List.length_map, List.length_replicate]
        have hpl : ps.length ≤ N.length := by have := congrArg List.length S.pre; rw [List.length_take] at this; omega
        omega
    show Sg (model P w) A2 Φ (.func (defBody st) (envOfC x (defScope st) s.heap.objs.size f cdv)) ((model P w).den (.func (defBody st) (envOfC x (defScope st) s.heap.objs.size f cdv))) [] s₀
    refine sg_func fun K2 J2 hK2 => ?_
    have rel0 : Rel W hid' H' μ' (L2.start N vs) (startD N.length ds) := rel_mono ok' (rel_start rs)
    refine hbody ⟨P, w, K, mg, base, N, x, defScope st, f, cdv, A2, outer, s.heap.objs.size, s1.heap.objs.size, go⟩ rfl rfl rfl rfl rfl rfl rfl rfl (hr2.deeper _) hr2.hd Φ _ [] K2 J2 id id s₀ s₀ hid' H' μ' (L2.start N vs) (startD N.length ds) H' [] _ xs ⟨over_func, rfl, rfl, rfl⟩ (Heap.lt_size hL.1) (fun q hq => by cases hq) ?_ I .refl sr' rel0 co hF
    intro Φ3 s3 hid3 H3 μ3 s3' σ3 ρ3 H3' ds3 hL3 I3 st3 sr3 rel3 ok3 co3 e3
    subst e3
    rw [hK2]
    exact sg_end (.ok (.ret .none)) (co3 s3' σ3 [] H3' I3 st3 sr3)
  exact main _ _ ⟨rfl, ⟨_, _, rfl⟩, rfl⟩ fun h => Heap.get?_push_size _ rfl
end
end PD
set_option Elab.async false
set_option linter.all false
set_option autoImplicit false
set_option maxRecDepth 100000
set_option maxHeartbeats 4000000
namespace PD
open PySem PySem.Spec PyProof.Rows L2 GenW
/-! ### steps that leave the table of generators alone -/
section
variable {X : Cx} {pins : List (Addr × Obj)} {σ : L2.St} {H : Hp} {s : Shared} {E : Value → Shared → Prop}
theorem var_g {i : Nat} {x : Str} {pos : Pos} {v : V} {Q : Value → Shared → Prop} (I : Inv X pins σ H s) (hN : X.N[i]? = some x) (hv : Vis X.env.scope x) (e : σ[i]? = some (some v)) (h : ∀ u, RelV v u → Q u s) (hd : (x == ("__debug__" : Str)) = false) (hcd : (x == ("__classdict__" : Str)) = false) :
    wpAny (model X.prog X.w) X.A (eval (.Name x pos) X.env) Q E s := by
  obtain ⟨m, hn, hl⟩ := I.loc
  obtain ⟨u, r, l⟩ := hl i x v hN e hv
  have fin := h u r
  rcases l with ⟨hk, hm⟩ | ⟨hk, c, hc, hcell⟩
  · exact wpAny_Name (wpAny_loadName_local I.ok.kind hk hn hm fin) hd
  · rcases hk with hk | hk
    · exact wpAny_Name (wpAny_loadName_cell I.ok.kind hk hc hcell fin) hd
    · exact wpAny_Name (wpAny_loadName_free I.ok.kind hk hc hcell fin hcd) hd
/-- a local slot is set -/
theorem store_g {i : Nat} {x : Str} {v : V} {u : Value} {pos : Pos} {Q : Unit → Shared → Prop} (I : Inv X pins σ H s) (hN : X.N.Nodup) (hi : X.N[i]? = some x) (hk : X.env.scope.names.lookup x = some .local) (r : RelV v u)
    (h : ∀ s', Inv X pins (σ.set i (some v)) H s' → s'.gens = s.gens → Q () s') : wpAny (model X.prog X.w) X.A (assign (.Name x pos) X.env u) Q E s := by
  refine wpAny_assign_Name ?_
  obtain ⟨m, hn, hl⟩ := id I.loc
  have hcls : (X.env.scope.kind == .class || (X.env.scope.kind == .module && X.env.locals != X.env.globals)) = false := by rw [I.ok.kind]; rfl
  have hiσ : i < σ.length := by rw [I.len]; exact (List.getElem?_eq_some_iff.mp hi).1
  have cne := I.cne
  refine wpAny_storeName_local hk hn (fun h' hn' hs => ?_) hcls
  obtain ⟨oL, _, _, hoL, _⟩ := id hn
  have hb : ∀ b o, X.s_0.heap.get? b = some o → b ≠ X.env.locals := fun b o e => Nat.ne_of_lt (Nat.lt_of_lt_of_le (Heap.lt_size e) I.ok.above)
  refine h _ ⟨I.ok, I.os, I.bare, ⟨fun b o e n hb' hx => (hs.2 b (hb b o e)).trans (I.base.keep b o e n hb' hx), fun b o e n hb' hx => ?_, I.base.free, fun b o e hx => ?_, I.base.tups, I.base.frzs, I.base.tbls⟩, ⟨_, hn', fun j y v' e1 e2 e3 => ?_⟩, fun y c e => ?_, I.free, I.freeC, fun p hp => ?_, fun b ob e => ?_, by simpa using I.len⟩ rfl
  · obtain ⟨sl, e1⟩ := I.base.slot b o e n hb' hx
    exact ⟨sl, (hs.2 b (hb b o e)).trans e1⟩
  · obtain ⟨o', e1⟩ := I.base.there b o e hx
    exact ⟨o', (hs.2 b (hb b o e)).trans e1⟩
  · by_cases hj : j = i
    · subst hj
      rw [hi] at e1; cases e1
      rw [List.getElem?_set_self hiσ] at e2
      cases e2
      exact ⟨u, r, .inl ⟨hk, by simp⟩⟩
    · rw [List.getElem?_set_ne (Ne.symm hj)] at e2
      obtain ⟨u', r', q⟩ := hl j y v' e1 e2 e3
      refine ⟨u', r', ?_⟩
      rcases q with ⟨k, e⟩ | ⟨k, c, e, z⟩
      · refine .inl ⟨k, ?_⟩
        have : y ≠ x := fun e => hj (nodup_ix hN e1 (e ▸ hi))
        simp [this, e]
      · exact .inr ⟨k, c, e, z.sameBut hs (cne y c e)⟩
  · obtain ⟨w', z⟩ := I.cell y c e
    exact ⟨w', z.sameBut hs (cne y c e)⟩
  · obtain ⟨e, n, ne, nf, d⟩ := I.pin p hp
    exact ⟨(hs.2 p.1 ne).trans e, n, ne, nf, d⟩
  · refine (I.hok b ob e).stay (fun c w' hc q => (hs.2 c ?_).trans q) (fun _ q => q) fun _ _ q => q
    rintro rfl
    rcases hc with rfl | hc
    · rw [I.free] at e; cases e
    · rw [I.free] at hc; cases hc
/-- if len(found) == most: return found; found.append(one) -/
abbrev takeB (xf xm xo : Str) (p1 p2 p3 p4 p5 p6 p7 p8 p9 p10 p11 p12 p13 : Pos) : List Stmt :=
  [.If (.Compare (.Call (.Name "len" p1) [.Name xf p2] [] p3) [.Eq] [.Name xm p4] p5) [.Return (some (.Name xf p6)) p7] [] p8, .Expr (.Call (.Attribute (.Name xf p9) "append" p10) [.Name xo p11] [] p12) p13]
theorem take_g {iF iM iO : Nat} {xf xm xo : Str} {p1 p2 p3 p4 p5 p6 p7 p8 p9 p10 p11 p12 p13 : Pos} {l : Addr} {xs : List V} {m : Int} {y : V} (I : Inv X pins σ H s)
    (gl : Gl X "len") (ml : X.mg "len" = none) (bl : bootBuiltins "len" = some (.builtin "len"))
    (nF : X.N[iF]? = some xf) (nM : X.N[iM]? = some xm) (nO : X.N[iO]? = some xo) (vF : X.env.scope.names.lookup xf = some .local) (vM : X.env.scope.names.lookup xm = some .local) (vO : X.env.scope.names.lookup xo = some .local)
    (eF : σ[iF]? = some (some (.ref l))) (hl : H l = some (.lst xs)) (eM : σ[iM]? = some (some (.int m))) (eO : σ[iO]? = some (some y)) (hz : (xs.length : Int) ≠ m → xs.length < sizeLine)
    (d1 : (xf == ("__debug__" : Str)) = false) (d2 : (xf == ("__classdict__" : Str)) = false) (d3 : (xm == ("__debug__" : Str)) = false) (d4 : (xm == ("__classdict__" : Str)) = false) (d5 : (xo == ("__debug__" : Str)) = false) (d6 : (xo == ("__classdict__" : Str)) = false)
    (q1 : interactive X.env = false) (ln : (p10.endLine == p12.line) = true) :
    wpAny (model X.prog X.w) X.A (execs (takeB xf xm xo p1 p2 p3 p4 p5 p6 p7 p8 p9 p10 p11 p12 p13) X.env) (fun f s' => s'.gens = s.gens ∧ (((xs.length : Int) = m ∧ f = .ret (.ref l) ∧ Inv X pins σ H s') ∨ ((xs.length : Int) ≠ m ∧ f = .next ∧ Inv X pins σ (upd H l (.lst (xs ++ [y]))) s'))) E s := by
  refine wpAny_execs_cons (wpAny_If (wpAny_isTrue_Compare1 ?_ rfl))
  refine wpAny_Call_Name_kw (ld_blt I gl ml bl ?_)
  refine PyProof.Rows.callWith_builtin1 ?_ rfl rfl
  show wpAny _ _ (spliced ((false, eval (.Name xf p2) X.env) :: backTo p3 (starEach [] X.env))) _ _ s
  refine Calls.spliced_cons (var_g I nF (.inl vF) eF (fun u ru => ?_) d1 d2)
  refine Calls.spliced_nil ?_
  obtain rfl : u = Value.ref l := ru
  obtain ⟨z, its, n, r, hlz, e⟩ := I.lstM hl
  have hn := line63
  have hlen := r.length
  refine Calls.call_len_list ⟨_, e, rfl, n, rfl⟩ (by simp only [List.size_toArray] <;> omega) ?_
  have I1 := I.tok (s.toks + 1 + 1)
  refine var_g I1 nM (.inl vM) eM (fun u2 ru2 => ?_) d3 d4
  obtain ⟨t2, rfl⟩ := ru2
  refine PyProof.Rows.eq_int ?_
  refine wpAny_truthy_bool ?_
  have hb : ((its.toArray.size : Int) == m) = decide ((xs.length : Int) = m) := by
    rw [List.size_toArray, ← hlen]
    rfl
  rw [hb]
  by_cases hm : (xs.length : Int) = m
  · rw [if_pos (decide_eq_true hm)]
    refine wpAny_execs_cons (wpAny_Return_some (var_g I1 nF (.inl vF) eF (fun u ru => ?_) d1 d2))
    obtain rfl : u = Value.ref l := ru
    exact ⟨rfl, .inl ⟨hm, rfl, I1⟩⟩
  · rw [if_neg (by rw [decide_eq_true_eq]; exact hm)]
    refine wpAny_execs_nil ?_
    refine wpAny_execs_cons (wpAny_Expr_any ?_ I1.quiet rfl)
    refine wpAny_Call_method_late (o := .Name xf p9) rfl rfl ln rfl (var_g I1 nF (.inl vF) eF (fun u ru => ?_) d1 d2)
    obtain rfl : u = Value.ref l := ru
    refine ⟨"list", "list.append", PySem.F.plainAttrs_list, PySem.F.slot_list_append, PySem.F.type_list_append, ⟨_, e, rfl⟩, fun a ea => ?_, ?_⟩
    · cases ea
      exact ⟨_, e, rfl⟩
    refine Calls.callWith_builtin rfl (Calls.evalArgs_plain ?_)
    show wpAny _ _ (spliced ((false, eval (.Name xo p11) X.env) :: backTo p12 (starEach [] X.env))) _ _ _
    refine Calls.spliced_cons (var_g I1 nO (.inl vO) eO (fun v rv => ?_) d5 d6)
    refine Calls.spliced_nil ?_
    have hz' := hz hm
    refine call_meets PySem.F.slot_list_append ⟨_, e, rfl⟩ PySem.F.entry_list_append (PySem.F.args_list_append_2 _ _) (PySem.list_append l its.toArray n v (by rw [List.size_toArray]; omega)) ⟨e, ?_⟩
    refine wpAny_execs_nil ?_
    refine ⟨rfl, .inr ⟨hm, rfl, I1.lset (its' := its ++ [v]) hl e (by simp) (r.append (.cons rv .nil)) ?_⟩⟩
    rw [List.length_append, List.length_singleton]
    omega
end
end PD
set_option Elab.async false
set_option linter.all false
set_option autoImplicit false
set_option maxRecDepth 100000
set_option maxHeartbeats 4000000
namespace PD
open PySem PySem.Spec PyProof.Rows L2 GenW
/-! ### for over a generator -/
/-- the loop that takes at most so many -/
def takeL (E : EndsD) (iF iM iO : Nat) : List D → PD.Env → Mu → Prop
  | [], ρ, μ => E.nx ρ μ
  | x :: xs, ρ, μ => ∃ l m zs, (ρ.set iO (some x))[iF]? = some (some (.ptr l)) ∧ (ρ.set iO (some x))[iM]? = some (some (.int m)) ∧ μ l = some (.lst zs) ∧
      ((zs.length : Int) = m → frz (.ptr l) μ E.rt) ∧ ((zs.length : Int) ≠ m → zs.length < sizeLine ∧ takeL E iF iM iO xs (ρ.set iO (some x)) (μ.set l (.lst (zs ++ [x]))))
def sTake (n : Nat) (F : GF) (ta : TDA) (iF iM iO : Nat) : TDS := fun E Xd ρ μ => ta Xd ρ μ fun ds μ1 => ds.length = n ∧ ∃ xs, F ds xs ∧ takeL E iF iM iO xs ρ μ1
section
variable {X : Cx} {W : Wo} {Wk : WX} {k : Nat} {x : Str} {ps : List Str} {F : GF} {e : Expr} {es : List Expr} {ta : TDA} {p pos pos' : Pos}
/-- the call of a generator def -/
theorem call_gen (DG : GDefD X.prog X.w X.K X.mg X.base W k x ps F) (hdp : X.A.depth < recursionLimit) (hgl : Gl X x) (ha : BA X W Wk (e :: es) ta) (hdb : (x == ("__debug__" : Str)) = false)
    (he : starEach (e :: es) X.env = (false, eval e X.env) :: starEach es X.env) (hpl : (backTo pos (starEach es X.env)).any (·.1) = false)
    {pins : List (Addr × Obj)} {s : Shared} {σ : L2.St} {H : Hp} {hid : Hid} {ρ : PD.Env} {μ : Mu} {Xd : XE} {Qd : List D → Mu → Prop} (I : Inv X pins σ H s) (rel : Rel W hid H μ σ ρ) (sr : SR W hid H μ)
    (h : ta Xd ρ μ fun ds μ1 => ds.length = ps.length ∧ ∃ xs, F ds xs ∧ Qd xs μ1) (px : PX W hid H μ σ ρ Xd Wk) :
    wpAny (model X.prog X.w) X.A (eval (.Call (.Name x p) (e :: es) [] pos) X.env) (fun u s2 => ∃ xs s1 H1 μ1, Inv X pins σ H1 s1 ∧ St H μ H1 μ1 ∧ SR W hid H1 μ1 ∧ Qd xs μ1 ∧ MadeD X.prog X.w X.K X.mg X.base W k X.stack hid H1 μ1 xs s1 u s2) X.xe s := by
  obtain ⟨f, fd, hm, hk, hb, run⟩   := DG.ex
  refine wpAny_Call_Name_kw (ld_glob I hgl hm ?_ hdb)
  refine PySem.W.callWith_K (h₀ := X.base) I.ok.mod.kin hk (thn (ha.run pos pins s σ H (fun vs H1 => ∃ ds μ1 xs, St H μ H1 μ1 ∧ SR W hid H1 μ1 ∧ Reps W hid H1 μ1 vs ds ∧ ds.length = ps.length ∧ F ds xs ∧ Qd xs μ1) I ⟨hid, ρ, μ, Xd, _, rel, sr, h, fun vs ds H1 μ1 s1 sr1 r1 ⟨q1, xs, q2, q3⟩ => ⟨ds, μ1, xs, s1, sr1, r1, q1, q2, q3⟩, px⟩) fun us s1 ⟨vs, H1, I1, r, ds, μ1, xs, st1, sr1, rs, hl, hF, hq⟩ => ⟨I1.kIn, ?_⟩) he hpl
  have hu : (us ++ []).length = ps.length := by rw [List.append_nil, ← r.length, rs.length]; exact hl
  have hbt := hb s1 us I1.kIn hu
  rw [List.append_nil] at hbt
  refine wpAny_call (codeAny_mono (run X.A X.stack s1 H1 ⟨us, []⟩ us vs hid μ1 ds xs hdp I1.env0 hbt r sr1 rs hl hF) fun r s' hq' => ?_)
  cases r with
  | error e => exact False.elim hq'
  | ok fl =>
    cases fl with
    | ret u => exact ⟨xs, s1, H1, μ1, I1, st1, sr1, hq, hq'⟩
    | next => exact False.elim hq'
    | brk => exact False.elim hq'
    | cont => exact False.elim hq'
theorem bs_take {n0 : Nat} {xf xm xo : Str} {px p1 p2 p3 p4 p5 p6 p7 p8 p9 p10 p11 p12 p13 : Pos} {iF iM iO : Nat} (hp : PassesOwn (model X.prog X.w) X.A X.env X.xe) (DG : GDefD X.prog X.w X.K X.mg X.base W k x ps F) (hr : Room (k + 1) X.A) (hgl : Gl X x) (ha : BA X W Wk (e :: es) ta)
    (gl : Gl X "len") (ml : X.mg "len" = none) (hN : X.N.Nodup) (nF : X.N[iF]? = some xf) (nM : X.N[iM]? = some xm) (nO : X.N[iO]? = some xo) (vF : X.env.scope.names.lookup xf = some .local) (vM : X.env.scope.names.lookup xm = some .local) (vO : X.env.scope.names.lookup xo = some .local)
    (bl : bootBuiltins "len" = some (.builtin "len") := by decide +kernel) (d1 : (xf == ("__debug__" : Str)) = false := by decide) (d2 : (xf == ("__classdict__" : Str)) = false := by decide) (d3 : (xm == ("__debug__" : Str)) = false := by decide) (d4 : (xm == ("__classdict__" : Str)) = false := by decide) (d5 : (xo == ("__debug__" : Str)) = false := by decide) (d6 : (xo == ("__classdict__" : Str)) = false := by decide)
    (q1 : interactive X.env = false := by rfl) (ln : (p10.endLine == p12.line) = true := by rfl)
    (hdb : (x == ("__debug__" : Str)) = false := by decide) (he : starEach (e :: es) X.env = (false, eval e X.env) :: starEach es X.env := by rfl) (hpl : (backTo pos' (starEach es X.env)).any (·.1) = false := by rfl)
    (hs : ∀ v, foldedSetIterable (.Call (.Name x p) (e :: es) [] pos') X.env v = pure v := by intro _; rfl) (hn0 : ps.length = n0 := by rfl) :
    BS X W Wk (.For (.Name xo px) (.Call (.Name x p) (e :: es) [] pos') (takeB xf xm xo p1 p2 p3 p4 p5 p6 p7 p8 p9 p10 p11 p12 p13) [] pos) (sTake n0 F ta iF iM iO) := by
  subst hn0
  refine ⟨fun pins s σ H Ed I h => ?_⟩
  obtain ⟨hid, ρ, μ, Xd, Dd, rel, sr, q, pe, pX⟩ := h
  refine wpAny_For (thn (call_gen DG hr.depth hgl ha hdb he hpl I rel sr q (pX.at_ rel)) fun u s2 hu => ?_) hs
  obtain ⟨xs, s1, H1, μ1, I1, st1, sr1, q1', N, qual, scope, f, cd, a, go, oL, gn, gs, rfl, os2, bare2, kp2, hgo, hgs, La, hoL, ncL, hoa, mk⟩ := hu
  obtain ⟨O, wk⟩ := mk X.A.in1 hr.in1 I1.ok.frames
  have I2 : Inv X pins σ H1 s2 := I1.call' (ch := []) os2 (Un.kept kp2) (I1.hok.kept kp2) bare2 fun b z => by cases z
  have hlt : X.env.locals < s1.heap.objs.size := I1.lt
  have hcell : ∀ y c, X.env.cells.lookup y = some c → c < s1.heap.objs.size := fun y c hy => by
    obtain ⟨v, o, ho, _⟩ := I1.cell y c hy
    exact Heap.lt_size ho
  have hpin : ∀ q ∈ X.pn ++ pins, q.1 < s1.heap.objs.size := fun q hq => Heap.lt_size (I1.pin q hq).1
  have hfs : ∀ b ∈ X.fs, b < s1.heap.objs.size := fun b hb => by
    rcases Nat.lt_or_ge b s1.heap.objs.size with z | z
    · exact z
    · exact absurd hb (I1.nofs z)
  have pv0 : PvOk (gOf X X.A.in1 N qual scope f cd s1.heap.objs.size a go) [(s1.heap.objs.size, oL), (a, go)] := ⟨List.mem_cons_of_mem _ List.mem_cons_self, fun q hq => by
    rcases List.mem_cons.mp hq with rfl | hq
    · exact Nat.le_refl _
    · rw [List.mem_singleton.mp hq]; exact Nat.le_of_lt La, fun q hq => by
    rcases List.mem_cons.mp hq with rfl | hq
    · exact ncL
    · rw [List.mem_singleton.mp hq]; exact hgo.nc⟩
  have I3 : Inv X (pins ++ [(s1.heap.objs.size, oL), (a, go)]) σ H1 s2 := I2.pins_of fun q hq => by
    rcases List.mem_append.mp hq with z | z
    · exact I2.pin q (List.mem_append_right _ z)
    · have z3 := pv0.low q z
      have z3' : s1.heap.objs.size ≤ q.1 := z3
      refine ⟨?_, I1.hok.fresh z3', fun e => ?_, fun e => ?_, pv0.nc q z⟩
      · rcases List.mem_cons.mp z with rfl | z
        · exact hoL
        · rw [List.mem_singleton.mp z]; exact hoa
      · exact absurd (Nat.lt_of_lt_of_le hlt z3') (by rw [e]; exact Nat.lt_irrefl _)
      · exact absurd (Nat.lt_of_lt_of_le (hfs _ e) z3') (Nat.lt_irrefl _)
  refine wpAny_pyIter_gen (hgo.isGen hoa) ?_
  refine codeAny_forLoop_any (fun n s' => ∃ rest pv gs hid0 H00 μ00 σ' H' ρ' μ', n = rest.length ∧ Inv X (pins ++ pv) σ' H' s' ∧ PvOk (gOf X X.A.in1 N qual scope f cd s1.heap.objs.size a go) pv ∧ s'.gens[gn]? = some gs ∧
    GWake (gOf X X.A.in1 N qual scope f cd s1.heap.objs.size a go) W rest pv hid0 H00 μ00 gs ∧ Ok hid0 H00 μ00 hid H' μ' ∧ SR W hid H' μ' ∧ Rel W hid H' μ' σ' ρ' ∧ St H1 μ1 H' μ' ∧ takeL Dd iF iM iO rest ρ' μ') ?_ xs.length
    ⟨xs, _, gs, hid, H1, μ1, σ, H1, ρ, μ1, rfl, I3, pv0, hgs, wk, .refl, sr1, rel_mono st1.ok rel, .refl, q1'⟩
  rintro n s3 ⟨rest, pv, gs3, hid0, H00, μ00, σ3, H3, ρ3, μ3, rfl, I3', pvo, hgs3, wk3, ok3, sr3, rel3, st3, q3⟩
  refine wpAny_passesOwn hp (thn (asl_next O hr.hd hr.depth I1.ok.frames hlt hcell hpin hgo hfs I3' pvo hgs3 wk3 ok3 sr3) fun r s4 h4 => ?_)
  cases rest with
  | nil =>
    obtain ⟨rfl, H4, I4, st4, sr4⟩ := h4
    exact wpAny_execs_nil ⟨σ3, H4, I4, ((pe.nx.st st1).st (st3.trans st4)) σ3 ρ3 H4 μ3 .refl sr4 (rel_mono st4.ok rel3) q3⟩
  | cons d ds' =>
    obtain ⟨v, y, H4, pv', gs', rfl, I4, st4, sr4, ry, rep4, pvo', hgs4, wk4⟩ := h4
    have hoa4 := (I4.pin (a, go) (List.mem_append_right _ (List.mem_append_right _ pvo'.gen))).1
    obtain ⟨nm, qn, hdat⟩ := hgo.dat
    refine go_of hoa4 hgo.cls hdat (by decide) ?_
    have st34 := st3.trans st4
    have rel4 := rel_mono st4.ok rel3
    have rel5 := rel_set (.some rep4) iO rel4
    obtain ⟨l, m, zs, eF, eM, hl, qe, qn'⟩ := q3
    obtain ⟨vF', sF, rF⟩ := rel_get rel5 eF
    obtain ⟨vM', sM, rM⟩ := rel_get rel5 eM
    cases rF
    cases rM
    obtain ⟨_, vs, hH, rvs⟩ := sr4.at_ l _ hl
    have sO : (σ3.set iO (some y))[iO]? = some (some y) := by
      rw [List.getElem?_set_self]
      rw [I4.len]
      exact (List.getElem?_eq_some_iff.mp nO).1
    refine wpAny_passesOwn hp (store_g I4 hN nO vO ry fun s5 I5 g5 => ?_)
    refine wpAny_passesOwn hp (thn (take_g I5 gl ml bl nF nM nO vF vM vO sF hH sM sO (fun hne => by rw [rvs.length] at hne ⊢; exact (qn' hne).1) d1 d2 d3 d4 d5 d6 q1 ln) fun fl s6 h6 => ?_)
    obtain ⟨g6, h6⟩ := h6
    rcases h6 with ⟨hm, rfl, I6⟩ | ⟨hm, rfl, I6⟩
    · rw [rvs.length] at hm
      obtain ⟨d', μ2, l2, r2, q2⟩ := frz_ok sr4 (.ptr l) (qe hm)
      exact ⟨.ref l, σ3.set iO (some y), H4, I6.unpinned, rfl, pe.rt _ d' H4 μ2 ((st1.trans st34).trans l2.st) (sr4.le l2) r2 q2⟩
    · rw [rvs.length] at hm
      obtain ⟨hz, q6⟩ := qn' hm
      have st6 : St H4 μ3 (upd H4 l (.lst (vs ++ [y]))) (μ3.set l (.lst (zs ++ [d]))) := St.put hl trivial
      have sr6 : SR W hid (upd H4 l (.lst (vs ++ [y]))) (μ3.set l (.lst (zs ++ [d]))) := sr4.put hl trivial ⟨vs ++ [y], upd_same, (rvs.mono st6.ok).append (.cons (rep4.mono st6.ok) .nil)⟩
      exact ⟨ds'.length, Nat.lt_succ_self _, ds', pv', gs', hid, H4, μ3, σ3.set iO (some y), _, ρ3.set iO (some d), _, rfl, I6, pvo', by rw [g6, g5]; exact hgs4, wk4, st6.ok, sr6, rel_mono st6.ok rel5, st34.trans st6, q6⟩
end
end PD
set_option Elab.async false
set_option linter.all false
set_option autoImplicit false
set_option maxRecDepth 100000
set_option maxHeartbeats 4000000
namespace PD
open PySem PySem.Spec PyProof.Rows L2 GenW
/-! ### list(g) -/
def eListG (m : Bool) (n : Nat) (F : GF) (ta : TDA) : TDE := fun Xd ρ μ Q => ta Xd ρ μ fun ds μ1 => ds.length = n ∧ ∃ xs, F ds xs ∧ xs.length ≤ sizeLine ∧ newL m xs μ1 Q
theorem drainD {X : Cx} {A : Around} {N : List Str} {qual : Str} {scope : Scope} {f : Addr} {cd : Value} {L a S : Addr} {go : Obj} {W : Wo} {g : Nat} {hid : Hid} {μ : Mu} {pins : List (Addr × Obj)} {σ : L2.St} {R : Result → Shared → Prop} {H1 : Hp} {all : List D}
    (O : (gOf X A.in1.in1 N qual scope f cd L a go).Ok) (hh : A.handled = none) (hdp : A.depth < recursionLimit) (hfr : A.frames = some X.stack) (hlt : X.env.locals < L) (hcell : ∀ x c, X.env.cells.lookup x = some c → c < L) (hpin : ∀ p ∈ X.pn ++ pins, p.1 < L) (hgo : IsGo go g) (hfs : ∀ b ∈ X.fs, b < L) (hS1 : H1 S = none) (hsz : all.length ≤ sizeLine)
    (hend : ∀ s' H' vs, Inv X pins σ H' s' → H' S = some (.lst vs) → SR W (hidA hid S) H' μ → Reps W (hidA hid S) H' μ vs all → St H1 μ H' μ → R (.ok (.ret .none)) s') :
    ∀ (rest done_ : List D) (pv : List (Addr × Obj)) (gs : GenState) (hid0 : Hid) (H00 : Hp) (μ00 : Mu) (H : Hp) (s : Shared) (vs : List V), all = done_ ++ rest → Inv X (pins ++ pv) σ H s → PvOk (gOf X A.in1.in1 N qual scope f cd L a go) pv → s.gens[g]? = some gs →
      GWake (gOf X A.in1.in1 N qual scope f cd L a go) W rest pv hid0 H00 μ00 gs → Ok hid0 H00 μ00 (hidA hid S) H μ → SR W (hidA hid S) H μ → H S = some (.lst vs) → Reps W (hidA hid S) H μ vs done_ → St H1 μ H μ →
      codeAny (model X.prog X.w) A (.builtin "list.extend.loop" ⟨[.ref S, .ref a, .none], []⟩) R s := by
  intro rest
  induction rest with
  | nil =>
    intro done_ pv gs hid0 H00 μ00 H s vs ea I pvo hgs wk ok sr hS rs st
    refine codeAny_builtin F.entry_extend_loop ?_
    rw [Around.under_plainId F.plain_extend_loop _]
    show wpAny _ A.in1 (pyNext (.ref a) >>= _) _ _ s
    refine wpAny_bind (wpAny_mono (asl_next (Aq := A.in1) (E := fun _ _ => False) O hh hdp hfr hlt hcell hpin hgo hfs I pvo hgs wk ok sr) (fun r s1 h1 => ?_) fun _ _ z => z.elim)
    obtain ⟨rfl, H2, I2, st2, sr2⟩ := h1
    have him := sr.him (a := S) (.inr rfl)
    rw [List.append_nil] at ea
    subst ea
    exact wpAny_pure (hend s1 H2 vs I2 (st2 S _ hS him).1 sr2 (rs.mono st2.ok) (st.trans st2))
  | cons d rest ih =>
    intro done_ pv gs hid0 H00 μ00 H s vs ea I pvo hgs wk ok sr hS rs st
    refine codeAny_builtin F.entry_extend_loop ?_
    rw [Around.under_plainId F.plain_extend_loop _]
    show wpAny _ A.in1 (pyNext (.ref a) >>= _) _ _ s
    refine wpAny_bind (wpAny_mono (asl_next (Aq := A.in1) (E := fun _ _ => False) O hh hdp hfr hlt hcell hpin hgo hfs I pvo hgs wk ok sr) (fun r s1 h1 => ?_) fun _ _ z => z.elim)
    obtain ⟨v, y, H2, pv', gs', rfl, I2, st2, sr2, ry, rep2, pvo', hgs2, wk2⟩ := h1
    have him := sr.him (a := S) (.inr rfl)
    have hS2 := (st2 S _ hS him).1
    obtain ⟨z, its, n, r, hlz, e⟩ := I2.lstM hS2
    have hdl : done_.length < sizeLine := by
      rw [ea, List.length_append, List.length_cons] at hsz
      omega
    have hvl : vs.length < sizeLine := by rw [rs.length]; exact hdl
    show wpAny _ A.in1 (updateSeq S (·.push v) >>= _) _ _ _
    refine wpAny_bind ?_
    have hl : its.toArray.size = vs.length := by rw [List.size_toArray, hlz]
    refine wpAny_updateSeq e rfl (wpAny_pure ⟨plainId_quiet F.plain_extend_loop _, ?_⟩) (by rw [hl]; omega) (by show (its.toArray.push v).size ≤ sizeLine + 1; rw [Array.size_push, hl]; omega)
    have km : Ok (hidA hid S) H2 μ (hidA hid S) (upd H2 S (.lst (vs ++ [y]))) μ := ok_hmod (.inr rfl)
    refine ih (done_ ++ [d]) pv' gs' (hidA hid S) H2 μ (upd H2 S (.lst (vs ++ [y]))) _ (vs ++ [y]) (by rw [ea, List.append_assoc]; rfl) (I2.lset (t' := s1.toks) (its' := its ++ [v]) hS2 e (by simp) (r.append (.cons ry .nil)) (by rw [List.length_append, List.length_singleton]; omega)) pvo' hgs2 wk2 km (sr2.hmod (.inr rfl)) upd_same (((rs.mono st2.ok).append (.cons rep2 .nil)).mono km) (fun b o hb ib => ?_)
    obtain ⟨h1, i1⟩ := (st.trans st2) b o hb ib
    exact ⟨by rw [upd_ne (ne_of_none hb hS1)]; exact h1, i1⟩
section
variable {X : Cx} {W : Wo} {Wk : WX} {k : Nat} {x : Str} {ps : List Str} {GFn_ : GF} {e : Expr} {es : List Expr} {ta : TDA} {p pos p' pos' : Pos}
theorem be_listG {m : Bool} {n0 : Nat} (DG : GDefD X.prog X.w X.K X.mg X.base W k x ps GFn_) (hr : Room (k + 3) X.A) (hgl : Gl X x) (ha : BA X W Wk (e :: es) ta) (hg : Gl X "list") (hmg : X.mg "list" = none)
    (hv : bootBuiltins "list" = some (.type "list") := by decide +kernel) (hdb : (x == ("__debug__" : Str)) = false := by decide) (he : starEach (e :: es) X.env = (false, eval e X.env) :: starEach es X.env := by rfl) (hpl : (backTo pos' (starEach es X.env)).any (·.1) = false := by rfl)
    (he2 : starEach [.Call (.Name x p') (e :: es) [] pos'] X.env = (false, eval (.Call (.Name x p') (e :: es) [] pos') X.env) :: starEach [] X.env := by rfl) (hn0 : ps.length = n0 := by rfl) :
    BE X W Wk (.Call (.Name "list" p) [.Call (.Name x p') (e :: es) [] pos'] [] pos) (eListG m n0 GFn_ ta) := by
  subst hn0
  refine ⟨fun pins s σ H Q I hq => ?_⟩
  obtain ⟨hid, ρ, μ, Xd, Qd, rel, sr, q, pq, px⟩ := hq
  refine wpAny_Call_Name_kw (ld_blt I hg hmg hv ?_)
  refine PyProof.Rows.callWith_type1 ?_ he2 rfl
  rw [he2]
  show wpAny _ _ (spliced ((false, eval (.Call (.Name x p') (e :: es) [] pos') X.env) :: backTo pos (starEach [] X.env))) _ _ s
  refine Calls.spliced_cons (thn (call_gen (Qd := fun xs μ1 => xs.length ≤ sizeLine ∧ newL m xs μ1 Qd) DG hr.depth hgl ha hdb he hpl I rel sr q px) fun u s2 hu => ?_)
  refine Calls.spliced_nil ?_
  obtain ⟨xs, s1, H1, μ1, I1, st1, sr1, ⟨hsz, q1⟩, N, qual, scope, f, cd, a, go, oL, gn, gs, rfl, os2, bare2, kp2, hgo, hgs, La, hoL, ncL, hoa, mk⟩ := hu
  obtain ⟨O, wk⟩ := mk X.A.in1.in1.in1 ⟨hr.hd, by have := hr.dp; show X.A.depth + 3 * k + 5 < _; omega, by have := hr.un; show X.A.units + 1 + 1 + 1 + 16 * k + 200 < _; omega⟩ I1.ok.frames
  have I2 : Inv X pins σ H1 s2 := I1.call' (ch := []) os2 (Un.kept kp2) (I1.hok.kept kp2) bare2 fun b z => by cases z
  have hlt : X.env.locals < s1.heap.objs.size := I1.lt
  have hcell : ∀ y c, X.env.cells.lookup y = some c → c < s1.heap.objs.size := fun y c hy => by
    obtain ⟨v, o, ho, _⟩ := I1.cell y c hy
    exact Heap.lt_size ho
  have hpin : ∀ q ∈ X.pn ++ pins, q.1 < s1.heap.objs.size := fun q hq => Heap.lt_size (I1.pin q hq).1
  have hfs : ∀ b ∈ X.fs, b < s1.heap.objs.size := fun b hb => by
    rcases Nat.lt_or_ge b s1.heap.objs.size with z | z
    · exact z
    · exact absurd hb (I1.nofs z)
  have pv0 : PvOk (gOf X X.A.in1.in1.in1 N qual scope f cd s1.heap.objs.size a go) [(s1.heap.objs.size, oL), (a, go)] := ⟨List.mem_cons_of_mem _ List.mem_cons_self, fun q hq => by
    rcases List.mem_cons.mp hq with rfl | hq
    · exact Nat.le_refl _
    · rw [List.mem_singleton.mp hq]; exact Nat.le_of_lt La, fun q hq => by
    rcases List.mem_cons.mp hq with rfl | hq
    · exact ncL
    · rw [List.mem_singleton.mp hq]; exact hgo.nc⟩
  have I3 : Inv X (pins ++ [(s1.heap.objs.size, oL), (a, go)]) σ H1 s2 := I2.pins_of fun q hq => by
    rcases List.mem_append.mp hq with z | z
    · exact I2.pin q (List.mem_append_right _ z)
    · have z3 := pv0.low q z
      have z3' : s1.heap.objs.size ≤ q.1 := z3
      refine ⟨?_, I1.hok.fresh z3', fun e => ?_, fun e => ?_, pv0.nc q z⟩
      · rcases List.mem_cons.mp z with rfl | z
        · exact hoL
        · rw [List.mem_singleton.mp z]; exact hoa
      · exact absurd (Nat.lt_of_lt_of_le hlt z3') (by rw [e]; exact Nat.lt_irrefl _)
      · exact absurd (Nat.lt_of_lt_of_le (hfs _ e) z3') (Nat.lt_irrefl _)
  have hg2 : s2.heap.IsGen a gn := hgo.isGen hoa
  have ha2 : a < s2.heap.objs.size := Heap.lt_size hoa
  have hSa : s2.heap.objs.size ≠ a := Nat.ne_of_gt ha2
  refine callType_codes (Q₁ := fun obj s₁ => obj = .ref s2.heap.objs.size ∧ s₁ = { s2 with heap := s2.heap.push { cls := .type "list", data := .seq #[] } }) F.called_list (F.typeCall_list_1 _) F.entry_list_init
    (code_list_new _ ⟨rfl, rfl⟩) fun obj s₁ h₁ => ?_
  obtain ⟨rfl, rfl⟩ := h₁
  have hS : (s2.heap.push { cls := .type "list", data := .seq #[] }).get? s2.heap.objs.size = some { cls := .type "list", data := .seq #[] } := Heap.get?_push_size _ rfl
  refine ⟨⟨_, hS, rfl⟩, F.args_list_init_2 _ _, ?_⟩
  show wpAny _ X.A.in1.in1 (do let old ← Builtin.List.listItems (.ref s2.heap.objs.size); Builtin.List.listUpdate (.ref s2.heap.objs.size) (fun _ => #[]); letGo old.toList.reverse; Builtin.List.listExtendWith (.ref s2.heap.objs.size) (.ref a) .none) _ _ _
  refine wpAny_bind ?_
  unfold Builtin.List.listItems
  refine wpAny_bind (wpAny_seqItems hS rfl (wpAny_pure ?_))
  show wpAny _ X.A.in1.in1 (updateSeq s2.heap.objs.size (fun _ => #[]) >>= fun _ => letGo (#[] : Array Value).toList.reverse >>= fun _ => Builtin.List.listExtendWith (.ref s2.heap.objs.size) (.ref a) .none) _ _ _
  refine wpAny_bind (wpAny_updateSeq hS rfl ?_)
  have hS2 := Heap.get?_update_self (Obj.mapSeq (fun _ => (#[] : Array Value))) hS rfl
  refine wpAny_bind (wpAny_letGo ?_)
  unfold Builtin.List.listExtendWith
  have up : ∀ (h : Heap) (f : Obj → Obj), (∀ b o, s2.heap.get? b = some o → h.get? b = some o) → ∀ b o, s2.heap.get? b = some o → (h.update s2.heap.objs.size f).get? b = some o := fun h f q b o e =>
    (Heap.get?_update_other _ _ (Ne.symm (Nat.ne_of_lt (Heap.lt_size e)))).trans (q b o e)
  have k1 : ∀ b o, s2.heap.get? b = some o → (s2.heap.push { cls := .type "list", data := .seq #[] }).get? b = some o := fun b o e => Heap.get?_push_of_some _ e
  have k2 := up _ (Obj.mapSeq (fun _ => (#[] : Array Value))) k1
  have gty : ∀ {h : Heap}, (∀ b o, s2.heap.get? b = some o → h.get? b = some o) → h.IsGen a gn := fun {h} q => hg2.keeps q
  refine wpAny_bind (wpAny_typeOf (Heap.IsGen.typeIs (s := { s2 with heap := _ }) (gty k2)) ?_)
  have h1 : Builtin.List.listSameRef (.ref s2.heap.objs.size) (.ref a) = false := by simp [Builtin.List.listSameRef, hSa]
  have h2 : (Value.type "generator" == Value.type "list") = false := by decide
  have h3 : (Value.type "generator" == Value.type "tuple") = false := by decide
  simp only [h1, h2, h3, Bool.or_false, Bool.false_eq_true, if_false]
  refine wpAny_bind (wpAny_pyIter_gen (s := { s2 with heap := _ }) (gty k2) ?_)
  refine wpAny_bind (wpAny_holding ?_)
  unfold Builtin.List.listLengthHint
  refine wpAny_bind (wpAny_specialOf (Heap.IsGen.typeIs (s := { s2 with heap := _ }) (gty k2)) F.gen_no_len ?_)
  show wpAny _ X.A.in1.in1 (specialOf (Value.ref a) (Str.ofString "__length_hint__") >>= _) _ _ _
  refine wpAny_bind (wpAny_specialOf (Heap.IsGen.typeIs (s := { s2 with heap := _ }) (gty k2)) F.gen_no_hint ?_)
  refine wpAny_pure ?_
  show wpAny _ X.A.in1.in1 (rule "list.extend.makes-room" >>= fun _ => Builtin.List.listTouch (.ref s2.heap.objs.size) >>= fun _ =>
    again (.builtin "list.extend.loop" ⟨[.ref s2.heap.objs.size, .ref a, .none], []⟩)) _ _ _
  refine wpAny_bind (wpAny_rule ?_)
  refine wpAny_bind ?_
  show wpAny _ X.A.in1.in1 (updateSeq s2.heap.objs.size (·.push .none) >>= fun _ => updateSeq s2.heap.objs.size (·.pop)) _ _ _
  refine wpAny_bind (wpAny_updateSeq hS2 rfl ?_)
  have hS3 := Heap.get?_update_self (Obj.mapSeq (·.push Value.none)) hS2 rfl
  refine wpAny_updateSeq (hz := by seq_fits) hS3 rfl ?_
  have hS4 := Heap.get?_update_self (Obj.mapSeq (·.pop)) hS3 rfl
  have k4 := up _ (Obj.mapSeq (·.pop)) (up _ (Obj.mapSeq (·.push Value.none)) k2)
  refine wpAny_pure ⟨plainId_quiet F.plain_extend_loop _, ?_⟩
  have hn : H1 s2.heap.objs.size = none := I2.hok.fresh (Nat.le_refl _)
  have nh := sr1.nhid hn
  have I4 : Inv X (pins ++ [(s1.heap.objs.size, oL), (a, go)]) σ (upd H1 s2.heap.objs.size (.lst [])) { s2 with heap := _ } := I3.laid (t' := s2.toks) k4 (Nat.le_refl _) ⟨Nat.zero_le _, [], _, .nil, hS4⟩
  refine drainD (X := X) (A := X.A.in1) (S := s2.heap.objs.size) (hid := hid) (μ := μ1) (pins := pins) (σ := σ) (H1 := H1) (all := xs) O hr.hd hr.depth I1.ok.frames hlt hcell hpin hgo hfs hn hsz (fun s' H' vs I' hS' sr' rs' st' => ⟨rfl, ?_⟩) xs [] _ gs hid H1 μ1 _ _ [] rfl I4 pv0 hgs wk (ok_hide (St.new hn) hn) (sr1.hide hn) upd_same .nil (St.new hn)
  have him := sr'.him (a := s2.heap.objs.size) (.inr rfl)
  refine ⟨.ref s2.heap.objs.size, H', I', rfl, ?_⟩
  have s12 := st1.trans st'
  cases m with
  | false => exact pq _ _ H' μ1 s12 sr'.unhide (.lst hS' him nh (rs'.mono ok_unhide)) q1
  | true =>
    have hm : ∀ l, MO.lst xs ≠ .deal l := fun l e => by cases e
    refine pq _ _ H' (μ1.set s2.heap.objs.size (.lst xs)) (fun b u hb ib => ?_) (sr'.adopt hS' rs' nh) (.ptr _) (q1 _ him.1)
    obtain ⟨e1, i1⟩ := st1 b u hb ib
    obtain ⟨e2, i2⟩ := st' b u e1 i1
    exact ⟨e2, im_set hm (ne_of_none e1 hn) i2⟩
end
end PD
set_option Elab.async false
set_option linter.all false
set_option autoImplicit false
set_option maxRecDepth 100000
set_option maxHeartbeats 4000000
namespace PD
open PySem PySem.Spec PyProof.Rows L2
/-! ### sum of a tuple; a tuple turned round -/
section
variable {X : Cx} {W : Wo} {Wk : WX}
def rSumT (K : PySem.W.Frag) : List V → Hp → VK → Prop := fun vs H Q => ∃ (a : Addr) (ns : List Int), vs = [V.ref a] ∧ SqT K H a (ns.map V.int) ∧ Q (.int ns.sum) H
theorem cr_sumT (calm : X.calm = true) : CallR X (.builtin "sum") (rSumT X.K) := by
  intro pins s σ H vs us Q I r h
  obtain ⟨a, ns, rfl, here, q⟩ := h
  obtain ⟨its, rv, tp, _⟩ := I.tuple here
  rw [Vals.ref1 r]
  have hints : IntsAre its ns := intsAre_of rv
  obtain ⟨xs, ex⟩ := hints.allInts.items
  have tot : numsOf (intItems xs).toList = ns := by rw [← ex]; exact hints.numsOf
  rw [nums_intItems] at tot
  rw [ex] at tp
  refine PySem.W.ktm_sumG (I.ok.hd calm) tp fun h' tk t' kept => ?_
  rw [preSum_eq, List.take_of_length_le (by simp), tot]
  exact ⟨.int _, H, I.kept kept, ⟨_, rfl⟩, q⟩
def cSumS : CD := fun ds μ Q => match ds with
  | [d] => (match (seqOf d μ).bind intsOf with | some ns => Q (.int ns.sum) μ | none => False)
  | _ => False
theorem bind_intsS {d : D} {μ : Mu} {ns : List Int} (e : (seqOf d μ).bind intsOf = some ns) : seqOf d μ = some (ns.map D.int) := by
  cases h : seqOf d μ with
  | none => rw [h] at e; cases e
  | some xs =>
    rw [h] at e
    rw [intsOf_eq e]
theorem cd_sumS (C : TW X.K X.w W) (calm : X.calm = true) : CallR X (.builtin "sum") (rCD W cSumS) := CallR.weak ((cr_sum calm).or (cr_sumT calm)) fun x H Q ⟨hid, μ, ds, Qd, sr, r, h, pq⟩ => by
  unfold cSumS at h
  split at h
  · rename_i d
    split at h
    · rename_i ns es
      have es := bind_intsS es
      cases r with
      | cons ra rr =>
        cases rr
        by_cases ht : ∃ ys, d = .tup ys
        · obtain ⟨ys, rfl⟩ := ht
          obtain ⟨a, vs, rfl, ha, q⟩ := tup_ok ra
          have e2 : ys = ns.map D.int := Option.some.inj es
          subst e2
          rw [← C.hK] at ha
          rw [reps_ints q] at ha
          exact .inr ⟨a, ns, rfl, ha, pq _ _ H μ .refl sr (.int _) h⟩
        · have el : lstOf d μ = some (ns.map D.int) := by
            cases d <;> first | exact es | exact absurd ⟨_, rfl⟩ ht
          obtain ⟨a, vs, rfl, ha, q⟩ := lstOf_ok el sr ra
          rw [← C.hK] at ha
          rw [reps_ints q] at ha
          exact .inl ⟨a, ns, rfl, ha, pq _ _ H μ .refl sr (.int _) h⟩
    · exact h.elim
  · exact h.elim
end
section
variable {prog : Program} {w : World} {A : Around} {E : Value → Shared → Prop} {s : Shared}
theorem fm_cong {α β : Type} {f g : α → Option β} : ∀ {l : List α}, (∀ x ∈ l, f x = g x) → l.filterMap f = l.filterMap g
  | [], _ => rfl
  | a :: l, h => by
    rw [List.filterMap_cons, List.filterMap_cons, h a List.mem_cons_self, fm_cong fun x hx => h x (List.mem_cons_of_mem _ hx)]
theorem adj_back (n : Nat) : Builtin.Slice.sliceAdjust none none (-1) (n : Int) = ((n : Int) - 1, -1) := by
  unfold Builtin.Slice.sliceAdjust
  simp
theorem places_back (n : Nat) : Builtin.Slice.slicePlaces ((n : Int) - 1) (-1) (-1) = n := by
  unfold Builtin.Slice.slicePlaces
  rw [if_neg (by decide)]
  by_cases h : (n : Int) - 1 > -1
  · rw [if_pos h, show (- -1 : Int) = 1 by decide, Int.ediv_one]
    omega
  · rw [if_neg h]
    omega
theorem pick_back (xs : Array Value) : ((List.range xs.size).filterMap fun (m : Nat) => xs[((xs.size : Int) - 1 + (m : Int) * (-1)).toNat]?).toArray = xs.toList.reverse.toArray := by
  have e : (List.range xs.size).filterMap (fun (m : Nat) => xs[((xs.size : Int) - 1 + (m : Int) * (-1)).toNat]?) = ((List.range xs.size).map fun k => xs.size - 1 - k).filterMap (xs[·]?) := by
    rw [List.filterMap_map]
    refine fm_cong fun m hm => ?_
    have := List.mem_range.mp hm
    show xs[((xs.size : Int) - 1 + (m : Int) * (-1)).toNat]? = xs[xs.size - 1 - m]?
    rw [show ((xs.size : Int) - 1 + (m : Int) * (-1)).toNat = xs.size - 1 - m by omega]
  rw [e, PySem.W.krv_range, List.filterMap_reverse, PySem.W.krv_all]
theorem applied_back {sl : Addr} {vl vu vs : Value} {n : Nat} {Q : Int × Int × Nat → Shared → Prop} (at_ : s.heap.IsSliceOf sl vl vu vs) (p1 : IsPart vl none) (p2 : IsPart vu none) (p3 : IsPart vs (some (-1)))
    (h : Q ((n : Int) - 1, -1, n) s) : wpAny (model prog w) A (Builtin.Slice.sliceApplied (.ref sl) (pure (n : Int))) Q E s := by
  obtain ⟨ob, look, _, dat⟩ := id at_
  unfold Builtin.Slice.sliceApplied Builtin.Slice.sliceFields
  refine wpAny_bind (wpAny_bind (wpAny_field look dat (x := vl) rfl (wpAny_bind (wpAny_field look dat (x := vu) rfl (wpAny_bind (wpAny_field look dat (x := vs) rfl (wpAny_pure ?_)))))))
  refine wpAny_bind (HT.slicePart_ p3 ?_)
  show wpAny _ _ (if ((-1 : Int) == 0) = true then _ else _) _ _ s
  rw [if_neg (by decide)]
  refine wpAny_bind (HT.slicePart_ p1 (wpAny_bind (HT.slicePart_ p2 (wpAny_bind (wpAny_pure ?_)))))
  show wpAny _ _ (match Builtin.Slice.sliceAdjust none none (-1) (n : Int) with | (lo, hi) => pure (lo, (-1 : Int), Builtin.Slice.slicePlaces lo hi (-1))) _ _ s
  rw [adj_back n]
  show wpAny _ _ (pure ((n : Int) - 1, (-1 : Int), Builtin.Slice.slicePlaces ((n : Int) - 1) (-1) (-1))) _ _ s
  rw [places_back]
  exact wpAny_pure h
theorem getItem_back {t sl : Addr} {items : Array Value} {vl vu vs : Value} {Q : Value → Shared → Prop} (tp : IsTup s.heap t items) (at_ : s.heap.IsSliceOf sl vl vu vs) (p1 : IsPart vl none) (p2 : IsPart vu none) (p3 : IsPart vs (some (-1)))
    (h : Q (.ref s.heap.objs.size) { s with heap := s.heap.push { cls := .type "tuple", data := .seq items.toList.reverse.toArray } }) (big : items.size ≤ sizeLine) : wpAny (model prog w) A (getItem (.ref t) (.ref sl)) Q E s := by
  have fits : sizeOk (.seq items.toList.reverse.toArray) := by
    show items.toList.reverse.toArray.size ≤ sizeLine
    rw [List.size_toArray, List.length_reverse, Array.length_toList]
    exact big
  obtain ⟨ob, look, isS, dat⟩ := id at_
  have tys : s.TypeIs (.ref sl) "slice" := ⟨ob, look, isS⟩
  unfold getItem
  try with_reducible refine wpAny_holding ?_
  first | refine wpAny_bind (wpAny_pure ?_) | skip
  refine wpAny_bind (wpAny_sequenceKey tp.typeIs (by decide) ?_)
  refine wpAny_bind (wpAny_callSpecial?_slot (name := Str.ofString "__getitem__") tp.typeIs PyProof.Rows.slot_tuple_getitem (wpAny_call_entry PyProof.Rows.slot_tuple_getitem tp.typeIs entry_tuple_getitem ?_ (args_tuple_getitem _ _)))
  show wpAny _ _ (Builtin.Tuple.tupleItemsOf (.ref t) >>= _) _ _ s
  refine wpAny_bind (tupleItemsOf_ tp ?_)
  refine wpAny_bind (wpAny_typeOf tys ?_)
  rw [if_pos (by decide)]
  refine wpAny_bind (applied_back at_ p1 p2 p3 ?_)
  have no : ¬ ((((items.size : Int) - 1) == 0 && (-1 : Int) == 1 && items.size == items.size) = true) := by
    intro q
    rw [Bool.and_eq_true, Bool.and_eq_true] at q
    exact absurd q.1.2 (by decide)
  show wpAny _ _ (if (((items.size : Int) - 1) == 0 && (-1 : Int) == 1 && items.size == items.size) = true then _ else _) _ _ s
  rw [if_neg no, pick_back]
  first
    | exact wpAny_bind (m := Builtin.Tuple.tupleExact _) (wpAny_newObj_type (wpAny_pure ⟨_, rfl, wpAny_pure h⟩) fits)
    | exact wpAny_bind (m := Builtin.Tuple.tupleExact _) (wpAny_newObj_type (wpAny_bind (wpAny_pure (wpAny_pure ⟨_, rfl, wpAny_pure h⟩))) fits)
    | exact wpAny_bind (wpAny_bind (m := Builtin.Tuple.tupleExact _) (wpAny_newObj_type (wpAny_pure (wpAny_pure ⟨_, rfl, wpAny_pure h⟩)) fits))
    | exact wpAny_bind (wpAny_bind (m := Builtin.Tuple.tupleExact _) (wpAny_newObj_type (wpAny_pure ⟨_, rfl, wpAny_pure h⟩) fits))
end
section
variable {X : Cx} {W : Wo} {Wk : WX}
def tRevT (K : PySem.W.Frag) (te : TE) : TE := fun σ H Q => te σ H fun x H1 => ∃ a xs, x = .ref a ∧ SqT K H1 a xs ∧ ∀ p, H1 p = none → Q (.ref p) (upd H1 p (.tup xs.reverse))
def tRevA (K : PySem.W.Frag) (te : TE) : TE := fun σ H Q => te σ H fun x H1 => (∃ a xs, x = .ref a ∧ SqL K H1 a xs ∧ ∀ p, H1 p = none → Q (.ref p) (upd H1 p (.lst xs.reverse))) ∨ ∃ a xs, x = .ref a ∧ SqT K H1 a xs ∧ ∀ p, H1 p = none → Q (.ref p) (upd H1 p (.tup xs.reverse))
theorem pe_revA {e : Expr} {te : TE} {k : Nat} {p1 p2 p3 pos : Pos} (he : PE X e te) : PE X (.Subscript e (.Slice none none (some (.UnaryOp .USub (.Constant (.int 1) k p1) p2)) p3) pos) (tRevA X.K te) := by
  refine ⟨fun pins s σ H Q I h => ?_⟩
  refine Subscript_ (thn (he.run pins s σ H _ I h) fun v s1 ⟨x, H1, I1, r1, goal⟩ => ?_)
  have back : PO X (some (.UnaryOp .USub (.Constant (.int 1) k p1) p2)) (tPart (tUn (rU fun i => .int (-i)) (tC (.int 1)))) := po_some (pe_un un_neg pe_int)
  refine wpAny_Slice (thn (po_none.run pins s1 σ H1 (fun o H2 => o = none ∧ H2 = H1) I1 ⟨rfl, rfl⟩) fun vl s2 ⟨l, H2, I2, pl, el, e2⟩ => ?_)
  subst el e2
  refine thn (po_none.run pins s2 σ H2 (fun o H3 => o = none ∧ H3 = H2) I2 ⟨rfl, rfl⟩) fun vu s3 ⟨u, H3, I3, pu, eu, e3⟩ => ?_
  subst eu e3
  refine thn (back.run pins s3 σ H3 (fun o H4 => o = some (-1) ∧ H4 = H3) I3 ⟨1, rfl, -1, rfl, rfl, rfl⟩) fun vs s4 ⟨o, H4, I4, ps, eo, e4⟩ => ?_
  subst eo e4
  have I5 : Inv X pins σ H4 { s4 with heap := s4.heap.push { cls := .type "slice", data := .fields #[vl, vu, vs] } } := I4.kept (t' := s4.toks) fun b ob q => Heap.get?_push_of_some _ q
  rcases goal with ⟨a, xs, ex, hx, q⟩ | ⟨a, xs, ex, hx, q⟩
  · subst ex
    cases r1
    obtain ⟨its, r, lp, hz⟩ := I5.list hx
    have hlen := r.length
    show wpAny (model X.prog X.w) X.A (subscriptTail e (.Slice none none (some (.UnaryOp .USub (.Constant (.int 1) k p1) p2)) p3) (.ref a) (.ref s4.heap.objs.size)) (EP X pins σ Q) X.xe { s4 with heap := s4.heap.push { cls := .type "slice", data := .fields #[vl, vu, vs] } }
    refine tail_any (ops := [.ref a, .ref s4.heap.objs.size]) lp.isList.typeIs (PySem.slot_list_getitem.lookup) ?_ (by with_unfolding_all rfl)
    refine wpAny_getItem_list_slice lp.isList (Heap.IsSliceOf.new _ vl vu vs) pl pu ps (by decide) ?_ (by rw [List.size_toArray]; omega)
    rw [PySem.W.krv_pick]
    exact ⟨.ref _, _, I5.laid (t' := s4.toks) (o := .lst xs.reverse) (fun b ob q => Heap.get?_push_of_some _ q) (Nat.le_refl _) ⟨by rw [List.length_reverse]; exact hz, _, 0, r.reverse, Heap.get?_push_size _ rfl⟩, rfl, q _ (I5.hok.fresh (Nat.le_refl _))⟩
  · subst ex
    cases r1
    obtain ⟨its, r, tp, hz⟩ := I5.tuple hx
    have hlen := r.length
    show wpAny (model X.prog X.w) X.A (subscriptTail e (.Slice none none (some (.UnaryOp .USub (.Constant (.int 1) k p1) p2)) p3) (.ref a) (.ref s4.heap.objs.size)) (EP X pins σ Q) X.xe { s4 with heap := s4.heap.push { cls := .type "slice", data := .fields #[vl, vu, vs] } }
    refine tail_any (ops := [.ref a, .ref s4.heap.objs.size]) tp.typeIs PyProof.Rows.slot_tuple_getitem.lookup ?_ (by with_unfolding_all rfl)
    refine getItem_back tp (Heap.IsSliceOf.new _ vl vu vs) pl pu ps ?_ (by rw [List.size_toArray]; omega)
    exact ⟨.ref _, _, I5.laid (t' := s4.toks) (o := .tup xs.reverse) (fun b ob q => Heap.get?_push_of_some _ q) (Nat.le_refl _) ⟨by rw [List.length_reverse]; exact hz, _, r.reverse, IsTup.new _ _⟩, rfl, q _ (I5.hok.fresh (Nat.le_refl _))⟩
/-- xs[::-1], a list or a tuple -/
def eRevS (m : Bool) (td : TDE) : TDE := fun Xd ρ μ Q => td Xd ρ μ fun d μ1 => match d with
  | .tup xs => Q (.tup xs.reverse) μ1
  | d => (match lstOf d μ1 with | some xs => newL m xs.reverse μ1 Q | none => False)
theorem be_revS {m : Bool} {e : Expr} {td : TDE} {k : Nat} {p1 p2 p3 pos : Pos} (C : TW X.K X.w W) (he : BE X W Wk e td) : BE X W Wk (.Subscript e (.Slice none none (some (.UnaryOp .USub (.Constant (.int 1) k p1) p2)) p3) pos) (eRevS m td) := PE.weak (pe_revA he) fun σ H Q ⟨hid, ρ, μ, Xd, Qd, rel, sr, q, pq, px⟩ => by
  refine ⟨hid, ρ, μ, Xd, _, rel, sr, q, fun v d H1 μ1 s1 sr1 r1 q1 => ?_, px⟩
  dsimp only at q1
  split at q1
  · obtain ⟨a, vs, rfl, ha, qa⟩ := tup_ok r1
    rw [← C.hK] at ha
    exact .inr ⟨a, vs, rfl, ha, fun p hp => newT_ok sr1 qa.reverse hp q1 (pq.st s1)⟩
  · split at q1
    · rename_i xs es
      obtain ⟨a, vs, rfl, ha, qa⟩ := lstOf_ok es sr1 r1
      rw [← C.hK] at ha
      exact .inl ⟨a, vs, rfl, ha, fun p hp => newL_ok sr1 qa.reverse hp q1 (pq.st s1)⟩
    · exact q1.elim
end
end PD
set_option Elab.async false
set_option linter.all false
set_option maxRecDepth 100000
namespace LB
open PySem PySem.Spec PyProof.Rows L2
def top (i : Nat) : Stmt := PySem.Challenge.pw_lowsure_k17_vectors_and_points.main.body.getD i (.Pass ⟨0, 0, 0, 0⟩)
end LB
set_option Elab.async false
set_option linter.all false
set_option autoImplicit false
set_option maxRecDepth 100000
set_option maxHeartbeats 4000000
namespace PD
open PySem PySem.Spec PyProof.Rows L2
open LB (top)
noncomputable abbrev F_law_draw : FD := F_drawO
noncomputable abbrev F_law_deal : FD := F_dealO
def itab : Tab := tabOf [] [] []
def xfls : List (Str × List Str) := []
abbrev s_point_at : Stmt := top 5
theorem sc_point_at : FnScope ["residue", "loss", "vector", "r", "d", "z"] ["residue", "loss", "vector"] (defScope s_point_at) := ⟨rfl, rfl, rfl, by decide +kernel, rfl, by decide +kernel, by decide +kernel⟩
def T_point_at : TDS := (sRet (eB cTuple (aCons (eLc false (iZip3 (aCons (eVar 0) (aCons (eVar 1) (aCons (eVar 2) aNil)))) (en3 [3, 4, 5] 3 4 5) tYe (eBin (oAdd false) (eVar 3) (eBin oShl (eVar 5) (eVar 4)))) aNil)))
theorem ex_point_at : ∃ F : FD, F = fnD 6 T_point_at := ⟨_, rfl⟩
noncomputable def F_point_at : FD := Classical.choose ex_point_at
theorem F_point_at_eq : F_point_at = fnD 6 T_point_at := Classical.choose_spec ex_point_at
abbrev s_residue_at : Stmt := top 4
theorem sc_residue_at : FnScope ["loss", "at", "found", "depth"] ["loss", "at"] (defScope s_residue_at) := ⟨rfl, rfl, rfl, by decide +kernel, rfl, by decide +kernel, by decide +kernel⟩
def T_residue_at : TDS := (sSeq (sAsg (eTup aNil) (gN 2))
  (sCut (sFor (iSeq (eRevS false (eVar 0))) (gN 3)
  (sSeq (sAsg (eTup (aCons (eBin oMod (eVar 1) (eBin oShl (eC (.int 1)) (eVar 3))) (aStar (eVar 2) aNil))) (gN 2))
  (sAsg (eBin oShr (eVar 1) (eVar 3)) (gN 1))))
  (sRet (eVar 2))))
theorem ex_residue_at : ∃ F : FD, F = fnD 4 T_residue_at := ⟨_, rfl⟩
noncomputable def F_residue_at : FD := Classical.choose ex_residue_at
theorem F_residue_at_eq : F_residue_at = fnD 4 T_residue_at := Classical.choose_spec ex_residue_at
abbrev s_twos : Stmt := top 1
theorem sc_twos : FnScope ["n", "total"] ["n"] (defScope s_twos) := ⟨rfl, rfl, rfl, by decide +kernel, rfl, by decide +kernel, by decide +kernel⟩
def T_twos : TDS := (sSeq (sAsg (eC (.int 0)) (gN 1))
  (sCut (sWhile (tVal (eBin oGt (eVar 0) (eC (.int 0)))) (sSeq (sAsg (eBin oDiv (eVar 0) (eC (.int 2))) (gN 0))
  (sAsg (eBin (oAdd false) (eVar 1) (eVar 0)) (gN 1))))
  (sRet (eVar 1))))
theorem ex_twos : ∃ F : FD, F = fnD 2 T_twos := ⟨_, rfl⟩
noncomputable def F_twos : FD := Classical.choose ex_twos
theorem F_twos_eq : F_twos = fnD 2 T_twos := Classical.choose_spec ex_twos
abbrev s_firsts : Stmt := top 2
theorem sc_firsts : FnScope ["bits", "length"] ["bits"] (defScope s_firsts) := ⟨rfl, rfl, rfl, by decide +kernel, rfl, by decide +kernel, by decide +kernel⟩
def T_firsts : TDS := (sSeq (sAsg (eC (.int 0)) (gN 1))
  (sCut (sWhile (tVal (eBin oLt (eCall 1 F_twos [] (aCons (eVar 1) aNil)) (eVar 0))) (sAsg (eBin (oAdd false) (eVar 1) (eC (.int 1))) (gN 1)))
  (sRet (eListR1 false (eVar 1)))))
theorem ex_firsts : ∃ F : FD, F = fnD 2 T_firsts := ⟨_, rfl⟩
noncomputable def F_firsts : FD := Classical.choose ex_firsts
theorem F_firsts_eq : F_firsts = fnD 2 T_firsts := Classical.choose_spec ex_firsts
abbrev s_vector_list : Stmt := top 3
theorem sc_vector_list : FnScope ["count", "bits", "found", "first", "rest"] ["count", "bits"] (defScope s_vector_list) := ⟨rfl, rfl, rfl, by decide +kernel, rfl, by decide +kernel, by decide +kernel⟩
def T_vector_list (F_vector_list : FD) : TDS := (sSeq (sIf (tVal (eBin oEq (eVar 0) (eC (.int 0)))) (sRet (eLst false (aCons (eTup aNil) aNil))) sNil)
  (sSeq (sAsg (eLst false aNil) (gN 2))
  (sCut (sFor (iSeq (eCall 1 F_firsts [] (aCons (eVar 1) aNil))) (gN 3)
  (sAsg (eBin (oAdd false) (eVar 2) (eLc false (iSeq (eCall 2 F_vector_list [] (aCons (eBin oSub (eVar 0) (eC (.int 1))) (aCons (eBin oSub (eVar 1) (eCall 1 F_twos [] (aCons (eVar 3) aNil))) aNil)))) (en1 [4] 4) tYe (eTup (aCons (eVar 3) (aStar (eVar 4) aNil))))) (gN 2)))
  (sRet (eVar 2)))))
def Fr_vector_list : Nat → FD
  | 0 => fnD 5 sBad
  | n + 1 => fnD 5 (T_vector_list (Fr_vector_list n))
theorem ex_vector_list : ∃ F : Nat → FD, F 0 = fnD 5 sBad ∧ ∀ n, F (n + 1) = fnD 5 (T_vector_list (F n)) := ⟨Fr_vector_list, rfl, fun _ => rfl⟩
noncomputable def FR_vector_list : Nat → FD := Classical.choose ex_vector_list
theorem FR_vector_list_0 : FR_vector_list 0 = fnD 5 sBad := (Classical.choose_spec ex_vector_list).1
theorem FR_vector_list_s (n : Nat) : FR_vector_list (n + 1) = fnD 5 (T_vector_list (FR_vector_list n)) := (Classical.choose_spec ex_vector_list).2 n
noncomputable abbrev F_vector_list : FD := FR_vector_list 4
abbrev s_points : Stmt := top 8
theorem sc_points : GScope ["loss", "bits", "inside", "at", "residue", "vector"] ["loss", "bits"] (defScope s_points) := ⟨rfl, rfl, rfl, by decide +kernel, rfl, by decide +kernel, by decide +kernel⟩
def T_points : TGD := (gSeqD (gPl (sAsg (eCall 2 F_vector_list [] (aCons (eB cLen (aCons (eVar 0) aNil)) (aCons (eVar 1) aNil))) (gN 2)))
  (gFr (iRange1 (aCons (eBin oShl (eC (.int 1)) (eB cSumS (aCons (eVar 0) aNil))) aNil)) 3 (gSeqD (gPl (sAsg (eCall 2 F_residue_at [] (aCons (eVar 0) (aCons (eVar 3) aNil))) (gN 4)))
  (gFr (iSeq (eVar 2)) 5 (gYi (eCall 3 F_point_at [] (aCons (eVar 4) (aCons (eVar 0) (aCons (eVar 5) aNil)))))))))
theorem ex_points : ∃ F : GF, F = gfnD 6 T_points := ⟨_, rfl⟩
noncomputable def F_points : GF := Classical.choose ex_points
theorem F_points_eq : F_points = gfnD 6 T_points := Classical.choose_spec ex_points
abbrev s_law_first_points : Stmt := top 18
theorem sc_law_first_points : FnScope ["_law_loss", "_law_bits", "_law_most", "_law_found", "_law_one"] ["_law_loss", "_law_bits", "_law_most"] (defScope s_law_first_points) := ⟨rfl, rfl, rfl, by decide +kernel, rfl, by decide +kernel, by decide +kernel⟩
def T_law_first_points : TDS := (sSeq (sAsg (eLst true aNil) (gN 3))
  (sCut (sTake 2 F_points (aCons (eVar 0) (aCons (eVar 1) aNil)) 3 2 4)
  (sRetF (eVar 3))))
theorem ex_law_first_points : ∃ F : FD, F = fnD 5 T_law_first_points := ⟨_, rfl⟩
noncomputable def F_law_first_points : FD := Classical.choose ex_law_first_points
theorem F_law_first_points_eq : F_law_first_points = fnD 5 T_law_first_points := Classical.choose_spec ex_law_first_points
abbrev s_count_vectors : Stmt := top 7
theorem sc_count_vectors : FnScope ["count", "bits"] ["count", "bits"] (defScope s_count_vectors) := ⟨rfl, rfl, rfl, by decide +kernel, rfl, by decide +kernel, by decide +kernel⟩
def T_count_vectors : TDS := (sRet (eB cLen (aCons (eCall 2 F_vector_list [] (aCons (eVar 0) (aCons (eVar 1) aNil))) aNil)))
theorem ex_count_vectors : ∃ F : FD, F = fnD 2 T_count_vectors := ⟨_, rfl⟩
noncomputable def F_count_vectors : FD := Classical.choose ex_count_vectors
theorem F_count_vectors_eq : F_count_vectors = fnD 2 T_count_vectors := Classical.choose_spec ex_count_vectors
abbrev s_count_points : Stmt := top 9
theorem sc_count_points : FnScope ["loss", "bits"] ["loss", "bits"] (defScope s_count_points) := ⟨rfl, rfl, rfl, by decide +kernel, rfl, by decide +kernel, by decide +kernel⟩
def T_count_points : TDS := (sRet (eBin (oMul false) (eBin oShl (eC (.int 1)) (eB cSumS (aCons (eVar 0) aNil))) (eCall 2 F_count_vectors [] (aCons (eB cLen (aCons (eVar 0) aNil)) (aCons (eVar 1) aNil)))))
theorem ex_count_points : ∃ F : FD, F = fnD 2 T_count_points := ⟨_, rfl⟩
noncomputable def F_count_points : FD := Classical.choose ex_count_points
theorem F_count_points_eq : F_count_points = fnD 2 T_count_points := Classical.choose_spec ex_count_points
abbrev s_law_residues : Stmt := top 15
theorem sc_law_residues : FnScope ["_law_loss", "_law_found", "_law_inner", "_law_first", "_law_rest"] ["_law_loss"] (defScope s_law_residues) := ⟨rfl, rfl, rfl, by decide +kernel, rfl, by decide +kernel, by decide +kernel⟩
def T_law_residues (F_law_residues : FD) : TDS := (sSeq (sIf (tVal (eBin oEq (eB cLen (aCons (eVar 0) aNil)) (eC (.int 0)))) (sRet (eLst false (aCons (eTup aNil) aNil))) sNil)
  (sSeq (sPar 1 2 (aCons (eLst true aNil) (aCons (eCall 1 F_law_residues [] (aCons (eSl false (eVar 0) (pSome (eC (.int 1))) pNone) aNil)) aNil)))
  (sCut (sFor (iRange1 (aCons (eBin oShl (eC (.int 1)) (eBin oIx (eVar 0) (eC (.int 0)))) aNil)) (gN 3)
  (sExpr (eM "list" mExtend (eVar 1) (aCons (eLc false (iSeq (eVar 2)) (en1 [4] 4) tYe (eBin (oAdd false) (eTup (aCons (eVar 3) aNil)) (eVar 4))) aNil))))
  (sRetF (eVar 1)))))
def Fr_law_residues : Nat → FD
  | 0 => fnD 5 sBad
  | n + 1 => fnD 5 (T_law_residues (Fr_law_residues n))
theorem ex_law_residues : ∃ F : Nat → FD, F 0 = fnD 5 sBad ∧ ∀ n, F (n + 1) = fnD 5 (T_law_residues (F n)) := ⟨Fr_law_residues, rfl, fun _ => rfl⟩
noncomputable def FR_law_residues : Nat → FD := Classical.choose ex_law_residues
theorem FR_law_residues_0 : FR_law_residues 0 = fnD 5 sBad := (Classical.choose_spec ex_law_residues).1
theorem FR_law_residues_s (n : Nat) : FR_law_residues (n + 1) = fnD 5 (T_law_residues (FR_law_residues n)) := (Classical.choose_spec ex_law_residues).2 n
noncomputable abbrev F_law_residues : FD := FR_law_residues 4
abbrev s_law_twos : Stmt := top 13
theorem sc_law_twos : FnScope ["_law_number"] ["_law_number"] (defScope s_law_twos) := ⟨rfl, rfl, rfl, by decide +kernel, rfl, by decide +kernel, by decide +kernel⟩
def T_law_twos (F_law_twos : FD) : TDS := (sRet (eIf (tVal (eBin oEq (eVar 0) (eC (.int 0)))) (eC (.int 0)) (eBin (oAdd false) (eBin oDiv (eVar 0) (eC (.int 2))) (eCall 1 F_law_twos [] (aCons (eBin oDiv (eVar 0) (eC (.int 2))) aNil)))))
def Fr_law_twos : Nat → FD
  | 0 => fnD 1 sBad
  | n + 1 => fnD 1 (T_law_twos (Fr_law_twos n))
theorem ex_law_twos : ∃ F : Nat → FD, F 0 = fnD 1 sBad ∧ ∀ n, F (n + 1) = fnD 1 (T_law_twos (F n)) := ⟨Fr_law_twos, rfl, fun _ => rfl⟩
noncomputable def FR_law_twos : Nat → FD := Classical.choose ex_law_twos
theorem FR_law_twos_0 : FR_law_twos 0 = fnD 1 sBad := (Classical.choose_spec ex_law_twos).1
theorem FR_law_twos_s (n : Nat) : FR_law_twos (n + 1) = fnD 1 (T_law_twos (FR_law_twos n)) := (Classical.choose_spec ex_law_twos).2 n
noncomputable abbrev F_law_twos : FD := FR_law_twos 9
abbrev s_law_vectors : Stmt := top 14
theorem sc_law_vectors : FnScope ["_law_many", "_law_bits", "_law_found", "_law_first", "_law_rest"] ["_law_many", "_law_bits"] (defScope s_law_vectors) := ⟨rfl, rfl, rfl, by decide +kernel, rfl, by decide +kernel, by decide +kernel⟩
def T_law_vectors (F_law_vectors : FD) : TDS := (sSeq (sIf (tVal (eBin oEq (eVar 0) (eC (.int 0)))) (sRet (eLst false (aCons (eTup aNil) aNil))) sNil)
  (sSeq (sAsg (eTup (aCons (eLst true aNil) (aCons (eC (.int 0)) aNil))) (gTu 2 (gCo (gN 2) (gCo (gN 3) gNi))))
  (sCut (sWhile (tVal (eBin oLt (eCall 1 F_law_twos [] (aCons (eVar 3) aNil)) (eVar 1))) (sSeq (sExpr (eM "list" mExtend (eVar 2) (aCons (eLc false (iSeq (eCall 2 F_law_vectors [] (aCons (eBin oSub (eVar 0) (eC (.int 1))) (aCons (eBin oSub (eVar 1) (eCall 1 F_law_twos [] (aCons (eVar 3) aNil))) aNil)))) (en1 [4] 4) tYe (eBin (oAdd false) (eTup (aCons (eVar 3) aNil)) (eVar 4))) aNil)))
  (sAsg (eBin (oAdd false) (eVar 3) (eC (.int 1))) (gN 3))))
  (sRetF (eVar 2)))))
def Fr_law_vectors : Nat → FD
  | 0 => fnD 5 sBad
  | n + 1 => fnD 5 (T_law_vectors (Fr_law_vectors n))
theorem ex_law_vectors : ∃ F : Nat → FD, F 0 = fnD 5 sBad ∧ ∀ n, F (n + 1) = fnD 5 (T_law_vectors (F n)) := ⟨Fr_law_vectors, rfl, fun _ => rfl⟩
noncomputable def FR_law_vectors : Nat → FD := Classical.choose ex_law_vectors
theorem FR_law_vectors_0 : FR_law_vectors 0 = fnD 5 sBad := (Classical.choose_spec ex_law_vectors).1
theorem FR_law_vectors_s (n : Nat) : FR_law_vectors (n + 1) = fnD 5 (T_law_vectors (FR_law_vectors n)) := (Classical.choose_spec ex_law_vectors).2 n
noncomputable abbrev F_law_vectors : FD := FR_law_vectors 4
abbrev s_law_points : Stmt := top 16
theorem sc_law_points : FnScope ["_law_loss", "_law_bits", "_law_found", "_law_inside", "_law_residue", "_law_vector", "_law_r", "_law_z", "_law_d"] ["_law_loss", "_law_bits"] (defScope s_law_points) := ⟨rfl, rfl, rfl, by decide +kernel, rfl, by decide +kernel, by decide +kernel⟩
def T_law_points : TDS := (sSeq (sPar 2 3 (aCons (eLst true aNil) (aCons (eCall 2 F_law_vectors [] (aCons (eB cLen (aCons (eVar 0) aNil)) (aCons (eVar 1) aNil))) aNil)))
  (sCut (sFor (iSeq (eCall 1 F_law_residues [] (aCons (eVar 0) aNil))) (gN 4)
  (sFor (iSeq (eVar 3)) (gN 5)
  (sExpr (eM "list" mAppend (eVar 2) (aCons (eB cTuple (aCons (eLc false (iZip3 (aCons (eVar 4) (aCons (eVar 5) (aCons (eVar 0) aNil)))) (en3 [6, 7, 8] 6 7 8) tYe (eBin (oAdd false) (eVar 6) (eBin (oMul false) (eVar 7) (eBin oShl (eC (.int 1)) (eVar 8))))) aNil)) aNil)))))
  (sRetF (eVar 2))))
theorem ex_law_points : ∃ F : FD, F = fnD 9 T_law_points := ⟨_, rfl⟩
noncomputable def F_law_points : FD := Classical.choose ex_law_points
theorem F_law_points_eq : F_law_points = fnD 9 T_law_points := Classical.choose_spec ex_law_points
abbrev s_vectors : Stmt := top 6
theorem sc_vectors : GScope ["count", "bits"] ["count", "bits"] (defScope s_vectors) := ⟨rfl, rfl, rfl, by decide +kernel, rfl, by decide +kernel, by decide +kernel⟩
def T_vectors : TGD := (gYf (eCall 2 F_vector_list [] (aCons (eVar 0) (aCons (eVar 1) aNil))))
theorem ex_vectors : ∃ F : GF, F = gfnD 2 T_vectors := ⟨_, rfl⟩
noncomputable def F_vectors : GF := Classical.choose ex_vectors
theorem F_vectors_eq : F_vectors = gfnD 2 T_vectors := Classical.choose_spec ex_vectors
abbrev s_law_first_vectors : Stmt := top 17
theorem sc_law_first_vectors : FnScope ["_law_many", "_law_bits", "_law_most", "_law_found", "_law_one"] ["_law_many", "_law_bits", "_law_most"] (defScope s_law_first_vectors) := ⟨rfl, rfl, rfl, by decide +kernel, rfl, by decide +kernel, by decide +kernel⟩
def T_law_first_vectors : TDS := (sSeq (sAsg (eLst true aNil) (gN 3))
  (sCut (sTake 2 F_vectors (aCons (eVar 0) (aCons (eVar 1) aNil)) 3 2 4)
  (sRetF (eVar 3))))
theorem ex_law_first_vectors : ∃ F : FD, F = fnD 5 T_law_first_vectors := ⟨_, rfl⟩
noncomputable def F_law_first_vectors : FD := Classical.choose ex_law_first_vectors
theorem F_law_first_vectors_eq : F_law_first_vectors = fnD 5 T_law_first_vectors := Classical.choose_spec ex_law_first_vectors
abbrev s_law_power : Stmt := top 19
theorem sc_law_power : FnScope ["_law_number", "_law_found"] ["_law_number"] (defScope s_law_power) := ⟨rfl, rfl, rfl, by decide +kernel, rfl, by decide +kernel, by decide +kernel⟩
def T_law_power : TDS := (sSeq (sAsg (eC (.int 0)) (gN 1))
  (sCut (sWhile (tVal (eBin oEq (eBin oMod (eVar 0) (eC (.int 2))) (eC (.int 0)))) (sPar 0 1 (aCons (eBin oDiv (eVar 0) (eC (.int 2))) (aCons (eBin (oAdd false) (eVar 1) (eC (.int 1))) aNil))))
  (sRet (eVar 1))))
theorem ex_law_power : ∃ F : FD, F = fnD 2 T_law_power := ⟨_, rfl⟩
noncomputable def F_law_power : FD := Classical.choose ex_law_power
theorem F_law_power_eq : F_law_power = fnD 2 T_law_power := Classical.choose_spec ex_law_power
abbrev s_law : Stmt := top 20
theorem sc_law : FnScope ["_law_script", "_law_deal_here", "_law_total", "_law_top", "_law_number", "_law_turn", "_law_many", "_law_bits", "_law_due", "_law_loss", "_law_at", "_law_listed", "_law_great", "_law_first"] ["_law_script"] (defScope s_law) := ⟨rfl, rfl, rfl, by decide +kernel, rfl, by decide +kernel, by decide +kernel⟩
def T_law : TDS := (sSeq (sAsg (eCall 2 F_law_deal [] (aCons (eVar 0) (aCons (eC (.int 0)) aNil))) (gN 1))
  (sSeq (sPar 2 3 (aCons (eC (.int 0)) (aCons (eCall 2 F_law_draw [] (aCons (eVar 1) (aCons (eC (.int 60)) aNil))) aNil)))
  (sCut (sFor (iRange2 (aCons (eC (.int 1)) (aCons (eBin (oAdd false) (eVar 3) (eC (.int 1))) aNil))) (gN 4)
  (sAsg (eBin (oAdd false) (eVar 2) (eCall 1 F_law_power [] (aCons (eVar 4) aNil))) (gN 2)))
  (sSeq (sIf (tOn (tVal (eBin oNe (eCall 1 F_twos [] (aCons (eVar 3) aNil)) (eVar 2))) (tOn (tVal (eBin oNe (eCall 1 F_twos [] (aCons (eC (.int 0)) aNil)) (eC (.int 0)))) (tVal (eBin oNe (eCall 1 F_twos [] (aCons (eBin oShl (eC (.int 1)) (eC (.int 70))) aNil)) (eBin oSub (eBin oShl (eC (.int 1)) (eC (.int 70))) (eC (.int 1))))))) (sRet (eC (.bl false))) sNil)
  (sCut (sFor (iRange1 (aCons (eC (.int 3)) aNil)) (gN 5)
  (sSeq (sAsg (eBin (oAdd false) (eC (.int 1)) (eCall 2 F_law_draw [] (aCons (eVar 1) (aCons (eC (.int 3)) aNil)))) (gN 6))
  (sSeq (sAsg (eBin (oAdd false) (eC (.int 1)) (eCall 2 F_law_draw [] (aCons (eVar 1) (aCons (eBin oIx (eLst false (aCons (eC (.int 64)) (aCons (eC (.int 16)) (aCons (eC (.int 6)) aNil)))) (eBin oSub (eVar 6) (eC (.int 1)))) aNil)))) (gN 7))
  (sSeq (sAsg (eCall 2 F_law_vectors [] (aCons (eVar 6) (aCons (eVar 7) aNil))) (gN 8))
  (sSeq (sIf (tOn (tVal (eBin oNe (eCall 3 F_law_first_vectors [] (aCons (eVar 6) (aCons (eVar 7) (aCons (eC (.int 2)) aNil)))) (eSl false (eVar 8) pNone (pSome (eC (.int 2)))))) (tVal (eBin oNe (eB cRepr (aCons (eListG false 2 F_vectors (aCons (eVar 6) (aCons (eVar 7) aNil))) aNil)) (eB cRepr (aCons (eVar 8) aNil))))) (sRet (eC (.bl false))) sNil)
  (sSeq (sIf (tVal (eBin oNe (eCall 2 F_count_vectors [] (aCons (eVar 6) (aCons (eVar 7) aNil))) (eB cLen (aCons (eVar 8) aNil)))) (sRet (eC (.bl false))) sNil)
  (sSeq (sAsg (eLc false (iRange1 (aCons (eVar 6) aNil)) (en1 [10] 10) tYe (eCall 2 F_law_draw [] (aCons (eVar 1) (aCons (eC (.int 2)) aNil)))) (gN 9))
  (sSeq (sAsg (eCall 2 F_law_points [] (aCons (eVar 9) (aCons (eVar 7) aNil))) (gN 11))
  (sSeq (sIf (tVal (eBin oNe (eB cRepr (aCons (eListG false 2 F_points (aCons (eBin oIx (eLst false (aCons (eVar 9) (aCons (eB cTuple (aCons (eVar 9) aNil)) aNil))) (eBin oMod (eVar 5) (eC (.int 2)))) (aCons (eVar 7) aNil))) aNil)) (eB cRepr (aCons (eVar 11) aNil)))) (sRet (eC (.bl false))) sNil)
  (sSeq (sIf (tOn (tVal (eBin oNe (eCall 2 F_count_points [] (aCons (eB cTuple (aCons (eVar 9) aNil)) (aCons (eVar 7) aNil))) (eB cLen (aCons (eVar 11) aNil)))) (tVal (eBin oNe (eCall 3 F_law_first_points [] (aCons (eVar 9) (aCons (eVar 7) (aCons (eC (.int 3)) aNil)))) (eSl false (eVar 11) pNone (pSome (eC (.int 3))))))) (sRet (eC (.bl false))) sNil)
  (sSeq (sAsg (eLc false (iRange1 (aCons (eVar 6) aNil)) (en1 [10] 10) tYe (eCall 2 F_law_draw [] (aCons (eVar 1) (aCons (eC (.int 17)) aNil)))) (gN 12))
  (sSeq (sIf (tVal (eBin oNe (eCall 2 F_count_points [] (aCons (eVar 12) (aCons (eVar 7) aNil))) (eBin (oMul false) (eB cLen (aCons (eVar 8) aNil)) (eBin oShl (eC (.int 1)) (eB cSumS (aCons (eVar 12) aNil)))))) (sRet (eC (.bl false))) sNil)
  (sSeq (sAsg (eCall 3 F_law_first_points [] (aCons (eVar 12) (aCons (eVar 7) (aCons (eC (.int 2)) aNil)))) (gN 13))
  (sIf (tVal (eBin oNe (eVar 13) (eLst false (aCons (eB cTuple (aCons (eBin (oMul false) (eLst false (aCons (eC (.int 0)) aNil)) (eVar 6)) aNil)) (aCons (eB cTuple (aCons (eBin (oAdd false) (eBin (oMul false) (eLst false (aCons (eC (.int 0)) aNil)) (eBin oSub (eVar 6) (eC (.int 1)))) (eLst false (aCons (eBin oShl (eC (.int 1)) (eBin oIx (eVar 12) (eUn uNeg (eC (.int 1))))) aNil))) aNil)) aNil))))) (sRet (eC (.bl false))) sNil))))))))))))))
  (sRet (eC (.bl true))))))))
theorem ex_law : ∃ F : FD, F = fnD 14 T_law := ⟨_, rfl⟩
noncomputable def F_law : FD := Classical.choose ex_law
theorem F_law_eq : F_law = fnD 14 T_law := Classical.choose_spec ex_law
end PD
set_option Elab.async false
set_option linter.all false
set_option autoImplicit false
set_option maxRecDepth 100000
set_option maxHeartbeats 4000000
namespace PD
open PySem PySem.Spec PyProof.Rows L2
open LB (top)
section
variable {P : Program} {w : World} {K : PySem.W.Frag} {mg : Str → Option Value} {base : Heap} {W : Wo}
theorem ok_law {fa : Addr} (F : LB.LawFn K mg fa s_law) (T : LB.Txt K mg) (C : TW K w W) (D_law_first_points : ∀ base, LB.DefX P w K mg base 12 "_law_first_points" ["_law_loss", "_law_bits", "_law_most"] [] (spD W 3 F_law_first_points)) (D_count_points : ∀ base, LB.DefX P w K mg base 9 "count_points" ["loss", "bits"] [] (spD W 2 F_count_points)) (D_law_draw : ∀ base, LB.DefX P w K mg base 1 "_law_draw" ["_law_deal_here", "_law_many"] [] (spD W 2 F_law_draw)) (D_points : ∀ base, GDefD P w K mg base W 8 "points" ["loss", "bits"] F_points) (D_law_points : ∀ base, LB.DefX P w K mg base 16 "_law_points" ["_law_loss", "_law_bits"] [] (spD W 2 F_law_points)) (D_count_vectors : ∀ base, LB.DefX P w K mg base 8 "count_vectors" ["count", "bits"] [] (spD W 2 F_count_vectors)) (D_vectors : ∀ base, GDefD P w K mg base W 8 "vectors" ["count", "bits"] F_vectors) (D_law_first_vectors : ∀ base, LB.DefX P w K mg base 12 "_law_first_vectors" ["_law_many", "_law_bits", "_law_most"] [] (spD W 3 F_law_first_vectors)) (D_law_vectors : ∀ base, LB.DefX P w K mg base 15 "_law_vectors" ["_law_many", "_law_bits"] [] (spD W 2 F_law_vectors)) (D_twos : ∀ base, LB.DefX P w K mg base 1 "twos" ["n"] [] (spD W 1 F_twos)) (D_law_power : ∀ base, LB.DefX P w K mg base 1 "_law_power" ["_law_number"] [] (spD W 1 F_law_power)) (D_law_deal : ∀ base, LB.DefX P w K mg base 1 "_law_deal" ["_law_script", "_law_base"] [] (spD W 2 F_law_deal)) (h : ∀ (ns : List Int), ns.length ≤ 63 → F_law [.scr ns] (fun _ => none) (fun d _ => d = .bl true) fun _ _ => False) :
    ∃ fd : FuncData, (∀ (s : Shared) (u : Value), BindsTo s fd ⟨[u], []⟩ [("_law_script", u)]) ∧ ∀ base : Heap, K.In base → base.Ns mainGlobals mg → LB.RunsC P w K mg base fa fd ["_law_script"] (LB.spLaw K) := by
  refine F.okC (k := 16) ⟨rfl, by decide, by decide⟩ sc_law (fun base _ _ cdv s H vs Q E hr hs => ?_)
  replace D_law_first_points := D_law_first_points base
  replace D_count_points := D_count_points base
  replace D_law_draw := D_law_draw base
  replace D_points := D_points base
  replace D_law_points := D_law_points base
  replace D_count_vectors := D_count_vectors base
  replace D_vectors := D_vectors base
  replace D_law_first_vectors := D_law_first_vectors base
  replace D_law_vectors := D_law_vectors base
  replace D_twos := D_twos base
  replace D_law_power := D_law_power base
  replace D_law_deal := D_law_deal base
  refine ⟨TDs W WF T_law,
    (bss_cons (bs_set (i := 1) sc_law.nd rfl (.inr rfl) (be_fnE D_law_deal (fun _ _ _ => .nil) (hr.mono (by decide)) rfl (ba_cons (bv 0) (ba_cons be_int ba_nil))))
    (bss_cons (bs_par2 (i := 2) (j := 3) (by rfl) sc_law.nd rfl rfl (by decide) rfl rfl (ba_cons be_int (ba_cons (be_fnE D_law_draw (fun _ _ _ => .nil) (hr.mono (by decide)) rfl (ba_cons (bv 1) (ba_cons be_int ba_nil))) ba_nil)) (by rfl))
    (bss_cut (bs_for PassesOwn.never rfl (bi_range2 (pi_range2 (by rfl) T.b_range (ba_cons be_int (ba_cons (be_op (od_add C.hK) (bv 3) be_int) ba_nil)))) (bg_name (i := 4) sc_law.nd rfl (.inl rfl))
    (bss_one (bs_set (i := 2) sc_law.nd rfl (.inl rfl) (be_op (od_add C.hK) (bv 2) (be_fnE D_law_power (fun _ _ _ => .nil) (hr.mono (by decide)) rfl (ba_cons (bv 4) ba_nil))))))
    (bss_cons (bs_if (BW.bt (bw_or (bt_cmp (od_ne C.hK hr.units) (be_fnE D_twos (fun _ _ _ => .nil) (hr.mono (by decide)) rfl (ba_cons (bv 3) ba_nil)) (bv 2) (nomark _)) (bw_or (bt_cmp (od_ne C.hK hr.units) (be_fnE D_twos (fun _ _ _ => .nil) (hr.mono (by decide)) rfl (ba_cons be_int ba_nil)) be_int (nomark _)) (bw_or1 (bt_cmp (od_ne C.hK hr.units) (be_fnE D_twos (fun _ _ _ => .nil) (hr.mono (by decide)) rfl (ba_cons (be_op od_shl be_int be_int) ba_nil)) (be_op od_sub (be_op od_shl be_int be_int) be_int) (nomark _)))))) (bss_one (bs_ret be_bl)) bss_nil)
    (bss_cut (bs_for PassesOwn.never rfl (bi_range1 (pi_range1 (by rfl) T.b_range (ba_cons be_int ba_nil))) (bg_name (i := 5) sc_law.nd rfl (.inl rfl))
    (bss_cons (bs_set (i := 6) sc_law.nd rfl (.inl rfl) (be_op (od_add C.hK) be_int (be_fnE D_law_draw (fun _ _ _ => .nil) (hr.mono (by decide)) rfl (ba_cons (bv 1) (ba_cons be_int ba_nil)))))
    (bss_cons (bs_set (i := 7) sc_law.nd rfl (.inl rfl) (be_op (od_add C.hK) be_int (be_fnE D_law_draw (fun _ _ _ => .nil) (hr.mono (by decide)) rfl (ba_cons (bv 1) (ba_cons (be_ix (id_ix C (hu_of hr)) (be_lst (ba_cons be_int (ba_cons be_int (ba_cons be_int ba_nil)))) (be_op od_sub (bv 6) be_int) (fun _ _ => rfl)) ba_nil)))))
    (bss_cons (bs_set (i := 8) sc_law.nd rfl (.inl rfl) (be_fnE D_law_vectors (fun _ _ _ => .nil) (hr.mono (by decide)) rfl (ba_cons (bv 6) (ba_cons (bv 7) ba_nil))))
    (bss_cons (bs_if (BW.bt (bw_or (bt_cmp (od_ne C.hK hr.units) (be_fnE D_law_first_vectors (fun _ _ _ => .nil) (hr.mono (by decide)) rfl (ba_cons (bv 6) (ba_cons (bv 7) (ba_cons be_int ba_nil)))) (be_slice C (bv 8) bo_none (bo_some be_int)) (nomark _)) (bw_or1 (bt_cmp (od_ne C.hK hr.units) (be_callB (cd_repr C rfl hr.units) (by rfl) T.b_repr (by decide +kernel) (ba_cons (be_listG D_vectors (hr.mono (by decide)) (by rfl) (ba_cons (bv 6) (ba_cons (bv 7) ba_nil)) (by rfl) T.b_list) ba_nil)) (be_callB (cd_repr C rfl hr.units) (by rfl) T.b_repr (by decide +kernel) (ba_cons (bv 8) ba_nil)) (nomark _))))) (bss_one (bs_ret be_bl)) bss_nil)
    (bss_cons (bs_if (bt_cmp (od_ne C.hK hr.units) (be_fnE D_count_vectors (fun _ _ _ => .nil) (hr.mono (by decide)) rfl (ba_cons (bv 6) (ba_cons (bv 7) ba_nil))) (be_callB (cd_len C) (by rfl) T.b_len (by decide +kernel) (ba_cons (bv 8) ba_nil)) (nomark _)) (bss_one (bs_ret be_bl)) bss_nil)
    (bss_cons (bs_setLc (i := 9) (own := [("_law_at", 10)]) en1_ok rfl sc_law.nd rfl rfl (sw_true rfl rfl rfl (by decide +kernel)) (bi_range1 (pi_range1 (by rfl) T.b_range (ba_cons (bv 6) ba_nil))) (blkOk_by (own := [("_law_at", 10)]) (N := ["_law_script", "_law_deal_here", "_law_total", "_law_top", "_law_number", "_law_turn", "_law_many", "_law_bits", "_law_due", "_law_loss", "_law_at", "_law_listed", "_law_great", "_law_first"]) (sc := defScope s_law) (by decide +kernel)) (fun _ _ _ _ _ => (pg_name (i := 10) sc_law.nd rfl (.inl rfl))) (fun _ _ _ _ _ => bts_nil) (fun _ _ _ _ _ => (be_fnE D_law_draw (fun _ _ _ => .nil) (hr.mono (by decide)) rfl (ba_cons (bv 1) (ba_cons be_int ba_nil)))))
    (bss_cons (bs_set (i := 11) sc_law.nd rfl (.inl rfl) (be_fnE D_law_points (fun _ _ _ => .nil) (hr.mono (by decide)) rfl (ba_cons (bv 9) (ba_cons (bv 7) ba_nil))))
    (bss_cons (bs_if (bt_cmp (od_ne C.hK hr.units) (be_callB (cd_repr C rfl hr.units) (by rfl) T.b_repr (by decide +kernel) (ba_cons (be_listG D_points (hr.mono (by decide)) (by rfl) (ba_cons (be_ix (id_ix C (hu_of hr)) (be_lst (ba_cons (bv 9) (ba_cons (be_callTy (cd_tuple C) (by rfl) T.b_tuple (by decide +kernel) (ba_cons (bv 9) ba_nil)) ba_nil))) (be_op od_mod (bv 5) be_int) (fun _ _ => rfl)) (ba_cons (bv 7) ba_nil)) (by rfl) T.b_list) ba_nil)) (be_callB (cd_repr C rfl hr.units) (by rfl) T.b_repr (by decide +kernel) (ba_cons (bv 11) ba_nil)) (nomark _)) (bss_one (bs_ret be_bl)) bss_nil)
    (bss_cons (bs_if (BW.bt (bw_or (bt_cmp (od_ne C.hK hr.units) (be_fnE D_count_points (fun _ _ _ => .nil) (hr.mono (by decide)) rfl (ba_cons (be_callTy (cd_tuple C) (by rfl) T.b_tuple (by decide +kernel) (ba_cons (bv 9) ba_nil)) (ba_cons (bv 7) ba_nil))) (be_callB (cd_len C) (by rfl) T.b_len (by decide +kernel) (ba_cons (bv 11) ba_nil)) (nomark _)) (bw_or1 (bt_cmp (od_ne C.hK hr.units) (be_fnE D_law_first_points (fun _ _ _ => .nil) (hr.mono (by decide)) rfl (ba_cons (bv 9) (ba_cons (bv 7) (ba_cons be_int ba_nil)))) (be_slice C (bv 11) bo_none (bo_some be_int)) (nomark _))))) (bss_one (bs_ret be_bl)) bss_nil)
    (bss_cons (bs_setLc (i := 12) (own := [("_law_at", 10)]) en1_ok rfl sc_law.nd rfl rfl (sw_true rfl rfl rfl (by decide +kernel)) (bi_range1 (pi_range1 (by rfl) T.b_range (ba_cons (bv 6) ba_nil))) (blkOk_by (own := [("_law_at", 10)]) (N := ["_law_script", "_law_deal_here", "_law_total", "_law_top", "_law_number", "_law_turn", "_law_many", "_law_bits", "_law_due", "_law_loss", "_law_at", "_law_listed", "_law_great", "_law_first"]) (sc := defScope s_law) (by decide +kernel)) (fun _ _ _ _ _ => (pg_name (i := 10) sc_law.nd rfl (.inl rfl))) (fun _ _ _ _ _ => bts_nil) (fun _ _ _ _ _ => (be_fnE D_law_draw (fun _ _ _ => .nil) (hr.mono (by decide)) rfl (ba_cons (bv 1) (ba_cons be_int ba_nil)))))
    (bss_cons (bs_if (bt_cmp (od_ne C.hK hr.units) (be_fnE D_count_points (fun _ _ _ => .nil) (hr.mono (by decide)) rfl (ba_cons (bv 12) (ba_cons (bv 7) ba_nil))) (be_op od_mul (be_callB (cd_len C) (by rfl) T.b_len (by decide +kernel) (ba_cons (bv 8) ba_nil)) (be_op od_shl be_int (be_callB (cd_sumS C rfl) (by rfl) T.b_sum (by decide +kernel) (ba_cons (bv 12) ba_nil)))) (nomark _)) (bss_one (bs_ret be_bl)) bss_nil)
    (bss_cons (bs_set (i := 13) sc_law.nd rfl (.inl rfl) (be_fnE D_law_first_points (fun _ _ _ => .nil) (hr.mono (by decide)) rfl (ba_cons (bv 12) (ba_cons (bv 7) (ba_cons be_int ba_nil)))))
    (bss_one (bs_if (bt_cmp (od_ne C.hK hr.units) (bv 13) (be_lst (ba_cons (be_callTy (cd_tuple C) (by rfl) T.b_tuple (by decide +kernel) (ba_cons (be_op od_mul (be_lst (ba_cons be_int ba_nil)) (bv 6)) ba_nil)) (ba_cons (be_callTy (cd_tuple C) (by rfl) T.b_tuple (by decide +kernel) (ba_cons (be_op (od_add C.hK) (be_op od_mul (be_lst (ba_cons be_int ba_nil)) (be_op od_sub (bv 6) be_int)) (be_lst (ba_cons (be_op od_shl be_int (be_ix (id_ix C (hu_of hr)) (bv 12) (be_un ud_neg be_int) (fun _ _ => rfl))) ba_nil))) ba_nil)) ba_nil))) (nomark _)) (bss_one (bs_ret be_bl)) bss_nil)))))))))))))))
    (bss_one (bs_ret be_bl))))))), law_ok C.hK hs fun ns hn => ?_⟩
  have := h ns hn
  rw [F_law_eq] at this
  exact this
end
end PD
set_option Elab.async false
set_option linter.all false
set_option autoImplicit false
set_option maxRecDepth 100000
set_option maxHeartbeats 4000000
namespace PD
open PySem PySem.Spec PyProof.Rows L2
open LB (top)
section
variable {P : Program} {w : World} {K : PySem.W.Frag} {mg : Str → Option Value} {base : Heap} {W : Wo}
theorem ok_law_points (t : LB.TopFn K mg "_law_points" s_law_points ["_law_loss", "_law_bits"]) (T : LB.Txt K mg) (C : TW K w W) (D_law_residues : LB.DefX P w K mg base 5 "_law_residues" ["_law_loss"] [] (spD W 1 F_law_residues)) (D_law_vectors : LB.DefX P w K mg base 15 "_law_vectors" ["_law_many", "_law_bits"] [] (spD W 2 F_law_vectors)) : LB.DefX P w K mg base 16 "_law_points" ["_law_loss", "_law_bits"] [] (spD W 2 F_law_points) := by
  rw [F_law_points_eq]
  exact TopFn_okD t sc_law_points (fun f cdv A outer s H E hr =>
    (bss_cons (bs_par2 (i := 2) (j := 3) (by rfl) sc_law_points.nd rfl rfl (by decide) rfl rfl (ba_cons (be_lst ba_nil) (ba_cons (be_fn D_law_vectors (fun _ _ _ => .nil) (takes_of rfl rfl rfl rfl) (hr.mono (by decide)) rfl (ba_cons (be_callB (cd_len C) (by rfl) T.b_len (by decide +kernel) (ba_cons (bv 0) ba_nil)) (ba_cons (bv 1) ba_nil))) ba_nil)) (by rfl))
    (bss_cut (bs_for (passes_of rfl) rfl (bi_seq C (be_fn D_law_residues (fun _ _ _ => .nil) (takes_of rfl rfl rfl rfl) (hr.mono (by decide)) rfl (ba_cons (bv 0) ba_nil))) (bg_name (i := 4) sc_law_points.nd rfl (.inl rfl))
    (bss_one (bs_for (passes_of rfl) rfl (bi_seq C (bv 3)) (bg_name (i := 5) sc_law_points.nd rfl (.inl rfl))
    (bss_one (bs_expr (be_bm C PySem.F.plainAttrs_list PySem.F.slot_list_append PySem.F.type_list_append md_append (bv 2) (ba_cons (be_callTy (cd_tuple C) (by rfl) T.b_tuple (by decide +kernel) (ba_cons (be_lc (own := [("_law_r", 6), ("_law_z", 7), ("_law_d", 8)]) (en3_ok C.hK (by decide) (by decide) (by decide)) rfl sc_law_points.nd (bi_zip3 C (LB.pi_zip3 (by rfl) T.b_zip (ba_cons (bv 4) (ba_cons (bv 5) (ba_cons (bv 0) ba_nil))))) (blkOk_by (own := [("_law_r", 6), ("_law_z", 7), ("_law_d", 8)]) (N := ["_law_loss", "_law_bits", "_law_found", "_law_inside", "_law_residue", "_law_vector", "_law_r", "_law_z", "_law_d"]) (sc := defScope s_law_points) (by decide +kernel)) (fun _ _ _ _ _ => (pg_tup rfl (pgs_cons (pg_name (i := 6) sc_law_points.nd rfl (.inl rfl)) (pgs_cons (pg_name (i := 7) sc_law_points.nd rfl (.inl rfl)) (pgs_cons (pg_name (i := 8) sc_law_points.nd rfl (.inl rfl)) pgs_nil))))) (fun _ _ _ _ _ => bts_nil) (fun _ _ _ _ _ => (be_op (od_add C.hK) (bv 6) (be_op od_mul (bv 7) (be_op od_shl be_int (bv 8)))))) ba_nil)) ba_nil)))))))
    (bss_one (bs_retF (bv 2))))))
theorem ok_residue_at (t : LB.TopFn K mg "residue_at" s_residue_at ["loss", "at"]) (T : LB.Txt K mg) (C : TW K w W) : LB.DefX P w K mg base 1 "residue_at" ["loss", "at"] [] (spD W 2 F_residue_at) := by
  rw [F_residue_at_eq]
  exact TopFn_okD t sc_residue_at (fun f cdv A outer s H E hr =>
    (bss_cons (bs_set (i := 2) sc_residue_at.nd rfl (.inl rfl) (be_tup ba_nil))
    (bss_cut (bs_for (passes_of rfl) rfl (bi_seq C (be_revS C (bv 0))) (bg_name (i := 3) sc_residue_at.nd rfl (.inl rfl))
    (bss_cons (bs_set (i := 2) sc_residue_at.nd rfl (.inl rfl) (be_tup (ba_cons (be_op od_mod (bv 1) (be_op od_shl be_int (bv 3))) (ba_star C (bv 2) ba_nil))))
    (bss_one (bs_set (i := 1) sc_residue_at.nd rfl (.inl rfl) (be_op od_shr (bv 1) (bv 3))))))
    (bss_one (bs_ret (bv 2))))))
theorem ok_count_vectors (t : LB.TopFn K mg "count_vectors" s_count_vectors ["count", "bits"]) (T : LB.Txt K mg) (C : TW K w W) (D_vector_list : LB.DefX P w K mg base 7 "vector_list" ["count", "bits"] [] (spD W 2 F_vector_list)) : LB.DefX P w K mg base 8 "count_vectors" ["count", "bits"] [] (spD W 2 F_count_vectors) := by
  rw [F_count_vectors_eq]
  exact TopFn_okD t sc_count_vectors (fun f cdv A outer s H E hr =>
    (bss_one (bs_ret (be_callB (cd_len C) (by rfl) T.b_len (by decide +kernel) (ba_cons (be_fn D_vector_list (fun _ _ _ => .nil) (takes_of rfl rfl rfl rfl) (hr.mono (by decide)) rfl (ba_cons (bv 0) (ba_cons (bv 1) ba_nil))) ba_nil)))))
end
end PD
set_option Elab.async false
set_option linter.all false
set_option autoImplicit false
set_option maxRecDepth 100000
set_option maxHeartbeats 4000000
namespace PD
open PySem PySem.Spec PyProof.Rows L2
open LB (top)
section
variable {P : Program} {w : World} {K : PySem.W.Frag} {mg : Str → Option Value} {base : Heap} {W : Wo}
theorem ok_law_vectors (t : LB.TopFn K mg "_law_vectors" s_law_vectors ["_law_many", "_law_bits"]) (T : LB.Txt K mg) (C : TW K w W) (D_law_twos : LB.DefX P w K mg base 10 "_law_twos" ["_law_number"] [] (spD W 1 F_law_twos)) : ∀ n : Nat, LB.DefX P w K mg base (11 + n) "_law_vectors" ["_law_many", "_law_bits"] [] (spD W 2 (FR_law_vectors n)) := by
  intro n
  induction n with
  | zero =>
    rw [FR_law_vectors_0]
    exact TopFn_okD (k := 10) t sc_law_vectors (fun f cdv A outer s H E hr => bss_bad)
  | succ n D_law_vectors =>
    rw [FR_law_vectors_s]
    exact TopFn_okD (k := 11 + n) t sc_law_vectors (fun f cdv A outer s H E hr =>
      (bss_cons (bs_if (bt_cmp (od_eq C.hK hr.units) (bv 0) be_int (nomark _)) (bss_one (bs_ret (be_lst (ba_cons (be_tup ba_nil) ba_nil)))) bss_nil)
    (bss_cons (bs_asg (be_tup (ba_cons (be_lst ba_nil) (ba_cons be_int ba_nil))) (bg_tup C rfl (bgs_cons (bg_name (i := 2) sc_law_vectors.nd rfl (.inl rfl)) (bgs_cons (bg_name (i := 3) sc_law_vectors.nd rfl (.inr rfl)) bgs_nil))))
    (bss_cut (bs_while (passes_of rfl) (bt_cmp od_lt (be_fn D_law_twos (fun _ _ _ => .nil) (takes_of rfl rfl rfl rfl) (hr.mono (by omega)) rfl (ba_cons (bv 3) ba_nil)) (bv 1) (nomark _)) (bss_cons (bs_expr (be_bm C PySem.F.plainAttrs_list PySem.F.slot_list_extend PySem.F.type_list_extend md_extend (bv 2) (ba_cons (be_lc (own := [("_law_rest", 4)]) en1_ok rfl sc_law_vectors.nd (bi_seq C (be_fn D_law_vectors (fun _ _ _ => .nil) (takes_of rfl rfl rfl rfl) (hr.mono (by omega)) rfl (ba_cons (be_op od_sub (bv 0) be_int) (ba_cons (be_op od_sub (bv 1) (be_fn D_law_twos (fun _ _ _ => .nil) (takes_of rfl rfl rfl rfl) (hr.mono (by omega)) rfl (ba_cons (bv 3) ba_nil))) ba_nil)))) (blkOk_by (own := [("_law_rest", 4)]) (N := ["_law_many", "_law_bits", "_law_found", "_law_first", "_law_rest"]) (sc := defScope s_law_vectors) (by decide +kernel)) (fun _ _ _ _ _ => (pg_name (i := 4) sc_law_vectors.nd rfl (.inl rfl))) (fun _ _ _ _ _ => bts_nil) (fun _ _ _ _ _ => (be_op (od_add C.hK) (be_tup (ba_cons (bv 3) ba_nil)) (bv 4)))) ba_nil)))
    (bss_one (bs_set (i := 3) sc_law_vectors.nd rfl (.inr rfl) (be_op (od_add C.hK) (bv 3) be_int)))))
    (bss_one (bs_retF (bv 2)))))))
theorem ok_law_first_points (t : LB.TopFn K mg "_law_first_points" s_law_first_points ["_law_loss", "_law_bits", "_law_most"]) (T : LB.Txt K mg) (C : TW K w W) (D_points : GDefD P w K mg base W 8 "points" ["loss", "bits"] F_points) : LB.DefX P w K mg base 12 "_law_first_points" ["_law_loss", "_law_bits", "_law_most"] [] (spD W 3 F_law_first_points) := by
  rw [F_law_first_points_eq]
  exact TopFn_okD t sc_law_first_points (fun f cdv A outer s H E hr =>
    (bss_cons (bs_set (i := 3) sc_law_first_points.nd rfl (.inl rfl) (be_lst ba_nil))
    (bss_cut (bs_take (iF := 3) (iM := 2) (iO := 4) (passes_of rfl) D_points (hr.mono (by decide)) (by rfl) (ba_cons (bv 0) (ba_cons (bv 1) ba_nil)) (by rfl) T.b_len sc_law_first_points.nd (by rfl) (by rfl) (by rfl) (by rfl) (by rfl) (by rfl))
    (bss_one (bs_retF (bv 3))))))
theorem ok_law_power (t : LB.TopFn K mg "_law_power" s_law_power ["_law_number"]) (T : LB.Txt K mg) (C : TW K w W) : LB.DefX P w K mg base 1 "_law_power" ["_law_number"] [] (spD W 1 F_law_power) := by
  rw [F_law_power_eq]
  exact TopFn_okD t sc_law_power (fun f cdv A outer s H E hr =>
    (bss_cons (bs_set (i := 1) sc_law_power.nd rfl (.inl rfl) be_int)
    (bss_cut (bs_while (passes_of rfl) (bt_cmp (od_eq C.hK hr.units) (be_op od_mod (bv 0) be_int) be_int (nomark _)) (bss_one (bs_par2 (i := 0) (j := 1) (by rfl) sc_law_power.nd rfl rfl (by decide) rfl rfl (ba_cons (be_op od_div (bv 0) be_int) (ba_cons (be_op (od_add C.hK) (bv 1) be_int) ba_nil)) (by rfl))))
    (bss_one (bs_ret (bv 1))))))
end
end PD
set_option Elab.async false
set_option linter.all false
set_option autoImplicit false
set_option maxRecDepth 100000
set_option maxHeartbeats 4000000
namespace PD
open PySem PySem.Spec PyProof.Rows L2
open LB (top)
section
variable {P : Program} {w : World} {K : PySem.W.Frag} {mg : Str → Option Value} {base : Heap} {W : Wo}
theorem ok_points (t : LB.TopFn K mg "points" s_points ["loss", "bits"]) (T : LB.Txt K mg) (C : TW K w W) (D_point_at : LB.DefX P w K mg base 1 "point_at" ["residue", "loss", "vector"] [] (spD W 3 F_point_at)) (D_residue_at : LB.DefX P w K mg base 1 "residue_at" ["loss", "at"] [] (spD W 2 F_residue_at)) (D_vector_list : LB.DefX P w K mg base 7 "vector_list" ["count", "bits"] [] (spD W 2 F_vector_list)) : GDefD P w K mg base W 8 "points" ["loss", "bits"] F_points := by
  rw [F_points_eq]
  refine gdef_of (k := 7) t sc_points (by decide +kernel) (fun L => rfl) (fun G e1 e2 e3 e4 e5 e6 e7 e8 hr hh => ?_)
  obtain ⟨P0, w0, K0, mg0, base0, N0, qual0, scope0, f0, cd0, A0, outer0, L0, a0, go0⟩ := G
  cases e1; cases e2; cases e3; cases e4; cases e5; cases e6; cases e7; cases e8
  exact (gr_cons (gr_plain (fun s H => (bs_set (i := 2) sc_points.nd rfl (.inl rfl) (be_fnE D_vector_list (fun _ _ _ => .nil) (hr.mono (by decide)) rfl (ba_cons (be_callB (cd_len C) (by rfl) T.b_len (by decide +kernel) (ba_cons (bv 0) ba_nil)) (ba_cons (bv 1) ba_nil))))))
    (gr_one (gr_for (by intro _; rfl) (fun s H => (bi_range1 (pi_range1 (by rfl) T.b_range (ba_cons (be_op od_shl be_int (be_callB (cd_sumS C rfl) (by rfl) T.b_sum (by decide +kernel) (ba_cons (bv 0) ba_nil))) ba_nil)))) (fun s H => (bg_name (i := 3) sc_points.nd rfl (.inl rfl))) (gr_cons (gr_plain (fun s H => (bs_set (i := 4) sc_points.nd rfl (.inl rfl) (be_fnE D_residue_at (fun _ _ _ => .nil) (hr.mono (by decide)) rfl (ba_cons (bv 0) (ba_cons (bv 3) ba_nil))))))
    (gr_one (gr_for (by intro _; rfl) (fun s H => (bi_seq C (bv 2))) (fun s H => (bg_name (i := 5) sc_points.nd rfl (.inl rfl))) (gr_one (gr_yield (fun s H => (be_fnE D_point_at (fun _ _ _ => .nil) (hr.mono (by decide)) rfl (ba_cons (bv 4) (ba_cons (bv 0) (ba_cons (bv 5) ba_nil))))) rfl rfl)) (fun y k e => by have e0 : (none : Option Addr) = some k := e; cases e0)))) (fun y k e => by have e0 : (none : Option Addr) = some k := e; cases e0))))
theorem ok_vectors (t : LB.TopFn K mg "vectors" s_vectors ["count", "bits"]) (T : LB.Txt K mg) (C : TW K w W) (D_vector_list : LB.DefX P w K mg base 7 "vector_list" ["count", "bits"] [] (spD W 2 F_vector_list)) : GDefD P w K mg base W 8 "vectors" ["count", "bits"] F_vectors := by
  rw [F_vectors_eq]
  refine gdef_of (k := 7) t sc_vectors (by decide +kernel) (fun L => rfl) (fun G e1 e2 e3 e4 e5 e6 e7 e8 hr hh => ?_)
  obtain ⟨P0, w0, K0, mg0, base0, N0, qual0, scope0, f0, cd0, A0, outer0, L0, a0, go0⟩ := G
  cases e1; cases e2; cases e3; cases e4; cases e5; cases e6; cases e7; cases e8
  exact (gr_one (gr_yieldFrom (fun s H => (be_fnE D_vector_list (fun _ _ _ => .nil) (hr.mono (by decide)) rfl (ba_cons (bv 0) (ba_cons (bv 1) ba_nil)))) C.hK hh rfl (fun y k e => by have e0 : (none : Option Addr) = some k := e; cases e0)))
theorem ok_law_twos (t : LB.TopFn K mg "_law_twos" s_law_twos ["_law_number"]) (T : LB.Txt K mg) (C : TW K w W) : ∀ n : Nat, LB.DefX P w K mg base (1 + n) "_law_twos" ["_law_number"] [] (spD W 1 (FR_law_twos n)) := by
  intro n
  induction n with
  | zero =>
    rw [FR_law_twos_0]
    exact TopFn_okD (k := 0) t sc_law_twos (fun f cdv A outer s H E hr => bss_bad)
  | succ n D_law_twos =>
    rw [FR_law_twos_s]
    exact TopFn_okD (k := 1 + n) t sc_law_twos (fun f cdv A outer s H E hr =>
      (bss_one (bs_ret (be_if (bt_cmp (od_eq C.hK hr.units) (bv 0) be_int (nomark _)) be_int (be_op (od_add C.hK) (be_op od_div (bv 0) be_int) (be_fn D_law_twos (fun _ _ _ => .nil) (takes_of rfl rfl rfl rfl) (hr.mono (by omega)) rfl (ba_cons (be_op od_div (bv 0) be_int) ba_nil)))))))
end
end PD
set_option Elab.async false
set_option linter.all false
set_option autoImplicit false
set_option maxRecDepth 100000
set_option maxHeartbeats 4000000
namespace PD
open PySem PySem.Spec PyProof.Rows L2
open LB (top)
section
variable {P : Program} {w : World} {K : PySem.W.Frag} {mg : Str → Option Value} {base : Heap} {W : Wo}
theorem ok_law_residues (t : LB.TopFn K mg "_law_residues" s_law_residues ["_law_loss"]) (T : LB.Txt K mg) (C : TW K w W) : ∀ n : Nat, LB.DefX P w K mg base (1 + n) "_law_residues" ["_law_loss"] [] (spD W 1 (FR_law_residues n)) := by
  intro n
  induction n with
  | zero =>
    rw [FR_law_residues_0]
    exact TopFn_okD (k := 0) t sc_law_residues (fun f cdv A outer s H E hr => bss_bad)
  | succ n D_law_residues =>
    rw [FR_law_residues_s]
    exact TopFn_okD (k := 1 + n) t sc_law_residues (fun f cdv A outer s H E hr =>
      (bss_cons (bs_if (bt_cmp (od_eq C.hK hr.units) (be_callB (cd_len C) (by rfl) T.b_len (by decide +kernel) (ba_cons (bv 0) ba_nil)) be_int (nomark _)) (bss_one (bs_ret (be_lst (ba_cons (be_tup ba_nil) ba_nil)))) bss_nil)
    (bss_cons (bs_par2 (i := 1) (j := 2) (by rfl) sc_law_residues.nd rfl rfl (by decide) rfl rfl (ba_cons (be_lst ba_nil) (ba_cons (be_fn D_law_residues (fun _ _ _ => .nil) (takes_of rfl rfl rfl rfl) (hr.mono (by omega)) rfl (ba_cons (be_slice C (bv 0) (bo_some be_int) bo_none) ba_nil)) ba_nil)) (by rfl))
    (bss_cut (bs_for (passes_of rfl) rfl (bi_range1 (pi_range1 (by rfl) T.b_range (ba_cons (be_op od_shl be_int (be_ix (id_ix C (hu_of hr)) (bv 0) be_int (fun _ _ => rfl))) ba_nil))) (bg_name (i := 3) sc_law_residues.nd rfl (.inr rfl))
    (bss_one (bs_expr (be_bm C PySem.F.plainAttrs_list PySem.F.slot_list_extend PySem.F.type_list_extend md_extend (bv 1) (ba_cons (be_lc (own := [("_law_rest", 4)]) en1_ok rfl sc_law_residues.nd (bi_seq C (bv 2)) (blkOk_by (own := [("_law_rest", 4)]) (N := ["_law_loss", "_law_found", "_law_inner", "_law_first", "_law_rest"]) (sc := defScope s_law_residues) (by decide +kernel)) (fun _ _ _ _ _ => (pg_name (i := 4) sc_law_residues.nd rfl (.inl rfl))) (fun _ _ _ _ _ => bts_nil) (fun _ _ _ _ _ => (be_op (od_add C.hK) (be_tup (ba_cons (bv 3) ba_nil)) (bv 4)))) ba_nil)))))
    (bss_one (bs_retF (bv 1)))))))
theorem ok_law_first_vectors (t : LB.TopFn K mg "_law_first_vectors" s_law_first_vectors ["_law_many", "_law_bits", "_law_most"]) (T : LB.Txt K mg) (C : TW K w W) (D_vectors : GDefD P w K mg base W 8 "vectors" ["count", "bits"] F_vectors) : LB.DefX P w K mg base 12 "_law_first_vectors" ["_law_many", "_law_bits", "_law_most"] [] (spD W 3 F_law_first_vectors) := by
  rw [F_law_first_vectors_eq]
  exact TopFn_okD t sc_law_first_vectors (fun f cdv A outer s H E hr =>
    (bss_cons (bs_set (i := 3) sc_law_first_vectors.nd rfl (.inl rfl) (be_lst ba_nil))
    (bss_cut (bs_take (iF := 3) (iM := 2) (iO := 4) (passes_of rfl) D_vectors (hr.mono (by decide)) (by rfl) (ba_cons (bv 0) (ba_cons (bv 1) ba_nil)) (by rfl) T.b_len sc_law_first_vectors.nd (by rfl) (by rfl) (by rfl) (by rfl) (by rfl) (by rfl))
    (bss_one (bs_retF (bv 3))))))
theorem ok_count_points (t : LB.TopFn K mg "count_points" s_count_points ["loss", "bits"]) (T : LB.Txt K mg) (C : TW K w W) (D_count_vectors : LB.DefX P w K mg base 8 "count_vectors" ["count", "bits"] [] (spD W 2 F_count_vectors)) : LB.DefX P w K mg base 9 "count_points" ["loss", "bits"] [] (spD W 2 F_count_points) := by
  rw [F_count_points_eq]
  exact TopFn_okD t sc_count_points (fun f cdv A outer s H E hr =>
    (bss_one (bs_ret (be_op od_mul (be_op od_shl be_int (be_callB (cd_sumS C rfl) (by rfl) T.b_sum (by decide +kernel) (ba_cons (bv 0) ba_nil))) (be_fn D_count_vectors (fun _ _ _ => .nil) (takes_of rfl rfl rfl rfl) (hr.mono (by decide)) rfl (ba_cons (be_callB (cd_len C) (by rfl) T.b_len (by decide +kernel) (ba_cons (bv 0) ba_nil)) (ba_cons (bv 1) ba_nil)))))))
theorem ok_twos (t : LB.TopFn K mg "twos" s_twos ["n"]) (T : LB.Txt K mg) (C : TW K w W) : LB.DefX P w K mg base 1 "twos" ["n"] [] (spD W 1 F_twos) := by
  rw [F_twos_eq]
  exact TopFn_okD t sc_twos (fun f cdv A outer s H E hr =>
    (bss_cons (bs_set (i := 1) sc_twos.nd rfl (.inl rfl) be_int)
    (bss_cut (bs_while (passes_of rfl) (bt_cmp od_gt (bv 0) be_int (nomark _)) (bss_cons (bs_set (i := 0) sc_twos.nd rfl (.inl rfl) (be_op od_div (bv 0) be_int))
    (bss_one (bs_set (i := 1) sc_twos.nd rfl (.inl rfl) (be_op (od_add C.hK) (bv 1) (bv 0))))))
    (bss_one (bs_ret (bv 1))))))
end
end PD
set_option Elab.async false
set_option linter.all false
set_option autoImplicit false
set_option maxRecDepth 100000
set_option maxHeartbeats 4000000
namespace PD
open PySem PySem.Spec PyProof.Rows L2
open LB (top)
section
variable {P : Program} {w : World} {K : PySem.W.Frag} {mg : Str → Option Value} {base : Heap} {W : Wo}
theorem ok_vector_list (t : LB.TopFn K mg "vector_list" s_vector_list ["count", "bits"]) (T : LB.Txt K mg) (C : TW K w W) (D_firsts : LB.DefX P w K mg base 2 "firsts" ["bits"] [] (spD W 1 F_firsts)) (D_twos : LB.DefX P w K mg base 1 "twos" ["n"] [] (spD W 1 F_twos)) : ∀ n : Nat, LB.DefX P w K mg base (3 + n) "vector_list" ["count", "bits"] [] (spD W 2 (FR_vector_list n)) := by
  intro n
  induction n with
  | zero =>
    rw [FR_vector_list_0]
    exact TopFn_okD (k := 2) t sc_vector_list (fun f cdv A outer s H E hr => bss_bad)
  | succ n D_vector_list =>
    rw [FR_vector_list_s]
    exact TopFn_okD (k := 3 + n) t sc_vector_list (fun f cdv A outer s H E hr =>
      (bss_cons (bs_if (bt_cmp (od_eq C.hK hr.units) (bv 0) be_int (nomark _)) (bss_one (bs_ret (be_lst (ba_cons (be_tup ba_nil) ba_nil)))) bss_nil)
    (bss_cons (bs_set (i := 2) sc_vector_list.nd rfl (.inl rfl) (be_lst ba_nil))
    (bss_cut (bs_for (passes_of rfl) rfl (bi_seq C (be_fn D_firsts (fun _ _ _ => .nil) (takes_of rfl rfl rfl rfl) (hr.mono (by omega)) rfl (ba_cons (bv 1) ba_nil))) (bg_name (i := 3) sc_vector_list.nd rfl (.inr rfl))
    (bss_one (bs_set (i := 2) sc_vector_list.nd rfl (.inl rfl) (be_op (od_add C.hK) (bv 2) (be_lc (own := [("rest", 4)]) en1_ok rfl sc_vector_list.nd (bi_seq C (be_fn D_vector_list (fun _ _ _ => .nil) (takes_of rfl rfl rfl rfl) (hr.mono (by omega)) rfl (ba_cons (be_op od_sub (bv 0) be_int) (ba_cons (be_op od_sub (bv 1) (be_fn D_twos (fun _ _ _ => .nil) (takes_of rfl rfl rfl rfl) (hr.mono (by omega)) rfl (ba_cons (bv 3) ba_nil))) ba_nil)))) (blkOk_by (own := [("rest", 4)]) (N := ["count", "bits", "found", "first", "rest"]) (sc := defScope s_vector_list) (by decide +kernel)) (fun _ _ _ _ _ => (pg_name (i := 4) sc_vector_list.nd rfl (.inl rfl))) (fun _ _ _ _ _ => bts_nil) (fun _ _ _ _ _ => (be_tup (ba_cons (bv 3) (ba_star C (bv 4) ba_nil)))))))))
    (bss_one (bs_ret (bv 2)))))))
theorem ok_point_at (t : LB.TopFn K mg "point_at" s_point_at ["residue", "loss", "vector"]) (T : LB.Txt K mg) (C : TW K w W) : LB.DefX P w K mg base 1 "point_at" ["residue", "loss", "vector"] [] (spD W 3 F_point_at) := by
  rw [F_point_at_eq]
  exact TopFn_okD t sc_point_at (fun f cdv A outer s H E hr =>
    (bss_one (bs_ret (be_callTy (cd_tuple C) (by rfl) T.b_tuple (by decide +kernel) (ba_cons (be_lc (own := [("r", 3), ("d", 4), ("z", 5)]) (en3_ok C.hK (by decide) (by decide) (by decide)) rfl sc_point_at.nd (bi_zip3 C (LB.pi_zip3 (by rfl) T.b_zip (ba_cons (bv 0) (ba_cons (bv 1) (ba_cons (bv 2) ba_nil))))) (blkOk_by (own := [("r", 3), ("d", 4), ("z", 5)]) (N := ["residue", "loss", "vector", "r", "d", "z"]) (sc := defScope s_point_at) (by decide +kernel)) (fun _ _ _ _ _ => (pg_tup rfl (pgs_cons (pg_name (i := 3) sc_point_at.nd rfl (.inl rfl)) (pgs_cons (pg_name (i := 4) sc_point_at.nd rfl (.inl rfl)) (pgs_cons (pg_name (i := 5) sc_point_at.nd rfl (.inl rfl)) pgs_nil))))) (fun _ _ _ _ _ => bts_nil) (fun _ _ _ _ _ => (be_op (od_add C.hK) (bv 3) (be_op od_shl (bv 5) (bv 4))))) ba_nil)))))
theorem ok_firsts (t : LB.TopFn K mg "firsts" s_firsts ["bits"]) (T : LB.Txt K mg) (C : TW K w W) (D_twos : LB.DefX P w K mg base 1 "twos" ["n"] [] (spD W 1 F_twos)) : LB.DefX P w K mg base 2 "firsts" ["bits"] [] (spD W 1 F_firsts) := by
  rw [F_firsts_eq]
  exact TopFn_okD t sc_firsts (fun f cdv A outer s H E hr =>
    (bss_cons (bs_set (i := 1) sc_firsts.nd rfl (.inl rfl) be_int)
    (bss_cut (bs_while (passes_of rfl) (bt_cmp od_lt (be_fn D_twos (fun _ _ _ => .nil) (takes_of rfl rfl rfl rfl) (hr.mono (by decide)) rfl (ba_cons (bv 1) ba_nil)) (bv 0) (nomark _)) (bss_one (bs_set (i := 1) sc_firsts.nd rfl (.inl rfl) (be_op (od_add C.hK) (bv 1) be_int))))
    (bss_one (bs_ret (be_listR1 (by rfl) (by rfl) T.b_list (by rfl) T.b_range (bv 1)))))))
end
end PD
set_option Elab.async false
set_option linter.all false
set_option autoImplicit false
set_option maxRecDepth 100000
set_option maxHeartbeats 4000000
namespace LB
open PySem PySem.Spec PyProof.Rows L2
open C8 (pss_cut tCut)
section
variable {P : Program} {w : World} {K : PySem.W.Frag} {mg : Str → Option Value} {base : Heap}
end
end LB

set_option Elab.async false
set_option linter.all false
set_option autoImplicit false
set_option maxRecDepth 100000
set_option maxHeartbeats 4000000
namespace Vc
/-! ### vectors and points, in plain lists -/
/-- the twos in n! -/
def tw (n : Nat) : Nat := if h : n = 0 then 0 else n / 2 + tw (n / 2)
termination_by n
decreasing_by omega
theorem tw_0 : tw 0 = 0 := by unfold tw; rfl
theorem tw_1 : tw 1 = 0 := by unfold tw; rw [dif_neg (by decide)]; show 0 + tw 0 = 0; rw [tw_0]
theorem tw_s {n : Nat} (h : n ≠ 0) : tw n = n / 2 + tw (n / 2) := by rw [tw, dif_neg h]
theorem tw_mono : ∀ (b a : Nat), a ≤ b → tw a ≤ tw b := by
  intro b
  induction b using Nat.strongRecOn with
  | ind b ih =>
    intro a h
    by_cases h0 : a = 0
    · subst h0; rw [tw_0]; exact Nat.zero_le _
    · have hb : b ≠ 0 := by omega
      rw [tw_s h0, tw_s hb]
      have h1 : a / 2 ≤ b / 2 := Nat.div_le_div_right h
      have h2 := ih (b / 2) (by omega) (a / 2) h1
      omega
theorem tw_two (b : Nat) : b ≤ tw (2 * b) := by
  by_cases h : b = 0
  · subst h; exact Nat.zero_le _
  · rw [tw_s (by omega)]
    have : 2 * b / 2 = b := by omega
    omega
theorem tw_lt {n : Nat} (h : n ≠ 0) : tw n < n := by
  induction n using Nat.strongRecOn with
  | ind n ih =>
    rw [tw_s h]
    by_cases h2 : n / 2 = 0
    · rw [h2, tw_0]; omega
    · have := ih (n / 2) (by omega) h2
      omega
/-- how many numbers have fewer than b twos -/
def fl (b : Nat) : Nat := ((List.range (2 * b + 1)).filter fun n => decide (tw n < b)).length
theorem fl_spec (b : Nat) : ∃ n, n ≤ 2 * b ∧ (∀ i, i < n → tw i < b) ∧ b ≤ tw n ∧ fl b = n := by
  have ex : ∃ n, b ≤ tw n := ⟨2 * b, tw_two b⟩
  have key : ∀ m, b ≤ tw m → ∃ n, n ≤ m ∧ (∀ i, i < n → tw i < b) ∧ b ≤ tw n := by
    intro m
    induction m with
    | zero => intro h; exact ⟨0, Nat.le_refl _, fun i hi => absurd hi (Nat.not_lt_zero _), h⟩
    | succ m ih =>
      intro h
      by_cases hm : b ≤ tw m
      · obtain ⟨n, h1, h2, h3⟩ := ih hm
        exact ⟨n, by omega, h2, h3⟩
      · refine ⟨m + 1, Nat.le_refl _, fun i hi => ?_, h⟩
        have := tw_mono m i (by omega)
        omega
  obtain ⟨n, h1, h2, h3⟩ := key (2 * b) (tw_two b)
  refine ⟨n, h1, h2, h3, ?_⟩
  unfold fl
  have e : (List.range (2 * b + 1)).filter (fun n => decide (tw n < b)) = List.range n := by
    have hs : List.range (2 * b + 1) = List.range n ++ (List.range (2 * b + 1 - n)).map (n + ·) := by
      rw [← List.range_add]
      congr 1
      omega
    rw [hs, List.filter_append, List.filter_eq_self.mpr, List.filter_eq_nil_iff.mpr, List.append_nil]
    · intro a ha
      obtain ⟨i, _, rfl⟩ := List.mem_map.mp ha
      have := tw_mono (n + i) n (by omega)
      simp
      omega
    · intro a ha
      have := h2 a (List.mem_range.mp ha)
      simpa using this
  rw [e, List.length_range]
theorem fl_le (b : Nat) : fl b ≤ 2 * b := by
  obtain ⟨n, h, _, _, e⟩ := fl_spec b
  rw [e]; exact h
theorem fl_lt {b i : Nat} (h : i < fl b) : tw i < b := by
  obtain ⟨n, _, h2, _, e⟩ := fl_spec b
  exact h2 i (by rw [← e]; exact h)
theorem fl_ge {b i : Nat} (h : fl b ≤ i) : b ≤ tw i := by
  obtain ⟨n, _, _, h3, e⟩ := fl_spec b
  exact Nat.le_trans h3 (tw_mono i n (by rw [← e]; exact h))
theorem fl_two {b : Nat} (h : 1 ≤ b) : 2 ≤ fl b := by
  rcases Nat.lt_or_ge (fl b) 2 with z | z
  · have := fl_ge (b := b) (i := 1) (by omega)
    rw [tw_1] at this
    omega
  · exact z
def vecs : Nat → Nat → List (List Nat)
  | 0, _ => [[]]
  | m + 1, b => (List.range (fl b)).flatMap fun f => (vecs m (b - tw f)).map (f :: ·)
theorem vecs_len : ∀ (m b : Nat), (vecs m b).length ≤ (2 * b) ^ m
  | 0, _ => by simp [vecs]
  | m + 1, b => by
    have key : ∀ l : List Nat, (l.flatMap fun f => (vecs m (b - tw f)).map (f :: ·)).length ≤ l.length * (2 * b) ^ m := by
      intro l
      induction l with
      | nil => simp
      | cons f l ih =>
        rw [List.flatMap_cons, List.length_append, List.length_map, List.length_cons, Nat.succ_mul]
        have h1 := vecs_len m (b - tw f)
        have h2 : (2 * (b - tw f)) ^ m ≤ (2 * b) ^ m := Nat.pow_le_pow_left (by omega) m
        omega
    show ((List.range (fl b)).flatMap _).length ≤ _
    refine Nat.le_trans (key _) ?_
    rw [List.length_range, Nat.pow_succ, Nat.mul_comm]
    exact Nat.mul_le_mul_left _ (fl_le b)
end Vc
set_option Elab.async false
set_option linter.all false
set_option autoImplicit false
set_option maxRecDepth 100000
set_option maxHeartbeats 4000000
namespace PD
open PySem PySem.Spec PyProof.Rows L2
open Vc
section
variable {μ : Mu} {Q : QD} {Xd : XD → Mu → Prop}
def c_tw : TDT := tVal (eBin oGt (eVar 0) (eC (.int 0)))
def b_tw : TDS := sSeq (sAsg (eBin oDiv (eVar 0) (eC (.int 2))) (gN 0)) (sAsg (eBin (oAdd false) (eVar 1) (eVar 0)) (gN 1))
theorem twos_loop {E : EndsD} {Xe : XE} : ∀ (n t : Nat), E.nx [some (.int (0 : Nat)), some (.int ((t + tw n : Nat) : Int))] μ → ∃ k, sWhileN c_tw b_tw k E Xe [some (.int (n : Nat)), some (.int (t : Nat))] μ := by
  intro n
  induction n using Nat.strongRecOn with
  | ind n ih =>
    intro t h
    by_cases h0 : n = 0
    · subst h0
      refine ⟨1, ?_⟩
      rw [tw_0, Nat.add_zero] at h
      (conv => whnf)
      exact dIf_f (by decide) h
    · have e := tw_s h0
      obtain ⟨k, hk⟩ := ih (n / 2) (by omega) (t + n / 2) (by rw [Nat.add_assoc, ← e]; exact h)
      refine ⟨k + 1, ?_⟩
      (conv => whnf)
      refine dIf_t (decide_eq_true (by omega)) ?_
      (conv => whnf)
      refine ⟨⟨by decide, by decide⟩, ?_⟩
      have e1 : ((n : Int) / 2) = ((n / 2 : Nat) : Int) := by omega
      have e2 : ((t : Int) + ((n / 2 : Nat) : Int)) = ((t + n / 2 : Nat) : Int) := by omega
      show sWhileN c_tw b_tw k E Xe [some (.int ((n : Int) / 2)), some (.int ((t : Int) + (n : Int) / 2))] μ
      rw [e1, e2]
      exact hk
theorem twos_ok {n : Nat} (hq : Q (.int (tw n : Nat)) μ) : F_twos [.int (n : Nat)] μ Q Xd := by
  have hq' : Q (.int (tw n : Nat)) (μ.inter μ) := by rw [Mu.inter_self]; exact hq
  rw [F_twos_eq]; unfold fnD T_twos
  (conv => whnf)
  refine ⟨fun ρ' μ' => ρ' = [some (.int (0 : Nat)), some (.int (tw n : Nat))] ∧ μ' = μ, ?_, ?_⟩
  · exact twos_loop (E := ⟨fun ρ' μ' => ρ' = [some (.int (0 : Nat)), some (.int (tw n : Nat))] ∧ μ' = μ, _, _, _⟩) n 0 ⟨by rw [Nat.zero_add], rfl⟩
  · rintro ρ' μ' ⟨rfl, rfl⟩
    (conv => whnf)
    exact hq'
theorem law_twos_r : ∀ (m n : Nat), n < 2 ^ m → ∀ {μ : Mu} {Q : QD} {Xd : XD → Mu → Prop}, Q (.int (tw n : Nat)) μ → FR_law_twos (m + 1) [.int (n : Nat)] μ Q Xd := by
  intro m
  induction m with
  | zero =>
    intro n h μ Q Xd hq
    obtain rfl : n = 0 := by simpa using h
    have hq' : Q (.int (tw 0 : Nat)) (μ.inter μ) := by rw [Mu.inter_self]; exact hq
    rw [tw_0] at hq'
    rw [FR_law_twos_s]
    unfold fnD T_law_twos
    (conv => whnf)
    refine dIf_t (by decide) ?_
    exact hq'
  | succ m ih =>
    intro n h μ Q Xd hq
    have hq' : Q (.int (tw n : Nat)) (μ.inter μ) := by rw [Mu.inter_self]; exact hq
    rw [FR_law_twos_s]
    unfold fnD T_law_twos
    (conv => whnf)
    refine dIf_of (fun e => ?_) (fun e => ?_)
    · have e0 : n = 0 := by have := of_decide_eq_true e; omega
      subst e0
      rw [tw_0] at hq'
      exact hq'
    · have e0 : n ≠ 0 := by have := of_decide_eq_false e; omega
      (conv => whnf)
      refine ⟨⟨by decide, by decide⟩, ?_⟩
      (conv => whnf)
      refine ⟨⟨by decide, by decide⟩, ?_⟩
      have e1 : ((n : Int) / 2) = ((n / 2 : Nat) : Int) := by omega
      refine ⟨rfl, ?_⟩
      show FR_law_twos (m + 1) [.int ((n : Int) / 2)] μ _ _
      rw [e1]
      refine ih (n / 2) (by rw [Nat.pow_succ] at h; omega) ?_
      have e2 : ((n : Int) / 2) + ((tw (n / 2) : Nat) : Int) = (tw n : Nat) := by rw [tw_s e0]; omega
      show Q (.int (((n : Int) / 2) + ((tw (n / 2) : Nat) : Int))) (μ.inter μ)
      rw [e2]
      exact hq'
def c_fi : TDT := tVal (eBin oLt (eCall 1 F_twos [] (aCons (eVar 1) aNil)) (eVar 0))
def b_fi : TDS := sAsg (eBin (oAdd false) (eVar 1) (eC (.int 1))) (gN 1)
theorem firsts_loop {E : EndsD} {Xe : XE} {b : Nat} (h : E.nx [some (.int (b : Nat)), some (.int (fl b : Nat))] μ) : ∀ (k i : Nat), i + k = fl b → sWhileN c_fi b_fi (k + 1) E Xe [some (.int (b : Nat)), some (.int (i : Nat))] μ := by
  intro k
  induction k with
  | zero =>
    intro i hi
    (conv => whnf)
    refine ⟨rfl, ?_⟩
    show F_twos [.int (i : Nat)] μ _ _
    refine twos_ok ?_
    (conv => whnf)
    have := fl_ge (b := b) (i := i) (by omega)
    refine dIf_f (decide_eq_false (by omega)) ?_
    obtain rfl : i = fl b := by omega
    exact h
  | succ k ih =>
    intro i hi
    (conv => whnf)
    refine ⟨rfl, ?_⟩
    show F_twos [.int (i : Nat)] μ _ _
    refine twos_ok ?_
    (conv => whnf)
    have := fl_lt (b := b) (i := i) (by omega)
    refine dIf_t (decide_eq_true (by omega)) ?_
    exact ih (i + 1) (by omega)
def nI (l : List Nat) : List D := l.map fun i => D.int (i : Nat)
theorem firsts_ok {b : Nat} (hb : b ≤ 1000) (hq : Q (.lst (nI (List.range (fl b)))) μ) : F_firsts [.int (b : Nat)] μ Q Xd := by
  have hq' : Q (.lst (nI (List.range (fl b)))) (μ.inter μ) := by rw [Mu.inter_self]; exact hq
  rw [F_firsts_eq]; unfold fnD T_firsts
  (conv => whnf)
  refine ⟨fun ρ' μ' => ρ' = [some (.int (b : Nat)), some (.int (fl b : Nat))] ∧ μ' = μ, ⟨fl b + 1, ?_⟩, ?_⟩
  · exact firsts_loop (E := ⟨fun ρ' μ' => ρ' = [some (.int (b : Nat)), some (.int (fl b : Nat))] ∧ μ' = μ, _, _, _⟩) ⟨rfl, rfl⟩ (fl b) 0 (Nat.zero_add _)
  · rintro ρ' μ' ⟨rfl, rfl⟩
    (conv => whnf)
    have := fl_le b
    refine ⟨?_, ?_⟩
    · exact RgOk.of_le (by decide) (by omega) (by decide) (by omega)
    · have e : rgD 0 ((fl b : Nat) : Int) = nI (List.range (fl b)) := by
        unfold rgD nI
        have e1 : (((fl b : Nat) : Int) - 0).toNat = fl b := by omega
        rw [e1]
        refine List.map_congr_left fun i _ => ?_
        rw [Int.zero_add]
      rw [e]
      exact hq'
def vD (l : List Nat) : D := .tup (nI l)
def vsD (ls : List (List Nat)) : List D := ls.map vD
theorem vsz {m b : Nat} (hm : m ≤ 3) (hb : b ≤ 64) : (vecs m b).length ≤ 2097152 := by
  refine Nat.le_trans (vecs_len m b) ?_
  refine Nat.le_trans (Nat.pow_le_pow_left (show 2 * b ≤ 128 by omega) m) ?_
  refine Nat.le_trans (Nat.pow_le_pow_right (by decide) hm) (by decide)
theorem fmap_snoc {α : Type} (f : Nat → List α) (i : Nat) : (List.range (i + 1)).flatMap f = (List.range i).flatMap f ++ f i := by
  rw [List.range_succ, List.flatMap_append, List.flatMap_cons, List.flatMap_nil, List.append_nil]
def part (m b i : Nat) : List (List Nat) := (List.range i).flatMap fun f => (vecs m (b - tw f)).map (f :: ·)
theorem part_s (m b i : Nat) : part m b (i + 1) = part m b i ++ (vecs m (b - tw i)).map (i :: ·) := fmap_snoc _ i
theorem part_all (m b : Nat) : part m b (fl b) = vecs (m + 1) b := rfl
theorem part_len (m b i : Nat) (h : i ≤ fl b) : (part m b i).length ≤ (vecs (m + 1) b).length := by
  show _ ≤ ((List.range (fl b)).flatMap _).length
  have e : List.range (fl b) = List.range i ++ (List.range (fl b - i)).map (i + ·) := by
    rw [← List.range_add]
    congr 1
    omega
  rw [e, List.flatMap_append, List.length_append]
  exact Nat.le_add_right _ _
theorem vsD_app (xs ys : List (List Nat)) : vsD (xs ++ ys) = vsD xs ++ vsD ys := List.map_append
theorem vsD_len (xs : List (List Nat)) : (vsD xs).length = xs.length := List.length_map _
def consD (i : Nat) : D → D
  | .tup l => .tup (.int (i : Nat) :: l)
  | d => d
theorem vsD_cons (i : Nat) (xs : List (List Nat)) : (vsD xs).map (consD i) = vsD (xs.map (i :: ·)) := by
  unfold vsD
  rw [List.map_map, List.map_map]
  exact List.map_congr_left fun l _ => rfl
theorem nI_get {n i : Nat} {x : D} (h : (nI (List.range n))[i]? = some x) : i < n ∧ x = .int (i : Nat) := by
  unfold nI at h
  rw [List.getElem?_map] at h
  by_cases hi : i < n
  · rw [List.getElem?_range hi] at h
    exact ⟨hi, (Option.some.inj h).symm⟩
  · rw [List.getElem?_eq_none (by simpa using hi)] at h
    cases h
theorem nI_len (n : Nat) : (nI (List.range n)).length = n := by unfold nI; rw [List.length_map, List.length_range]
theorem vs_mem {xs : List (List Nat)} {x : D} (h : x ∈ vsD xs) : ∃ l ∈ xs, x = vD l := by
  obtain ⟨l, hl, e⟩ := List.mem_map.mp h
  exact ⟨l, hl, e.symm⟩
theorem vec_len : ∀ (m b : Nat) {l : List Nat}, l ∈ vecs m b → l.length = m
  | 0, b, l, h => by
    have : l ∈ [[]] := h
    rw [List.mem_singleton] at this
    rw [this]; rfl
  | m + 1, b, l, h => by
    obtain ⟨f, _, h2⟩ := List.mem_flatMap.mp (show l ∈ (List.range (fl b)).flatMap _ from h)
    obtain ⟨r, hr, rfl⟩ := List.mem_map.mp h2
    rw [List.length_cons, vec_len m _ hr]
theorem vector_list_r : ∀ (k m b : Nat), m ≤ k → m ≤ 3 → b ≤ 64 → ∀ {μ : Mu} {Q : QD} {Xd : XD → Mu → Prop}, Q (.lst (vsD (vecs m b))) μ → FR_vector_list (k + 1) [.int (m : Nat), .int (b : Nat)] μ Q Xd := by
  intro k
  induction k with
  | zero =>
    intro m b hm _ hb μ Q Xd hq
    obtain rfl : m = 0 := by omega
    have hq' : Q (.lst (vsD (vecs 0 b))) (μ.inter μ) := by rw [Mu.inter_self]; exact hq
    rw [FR_vector_list_s]
    unfold fnD T_vector_list
    (conv => whnf)
    refine dIf_t (by decide) ?_
    (conv => whnf)
    refine ⟨Nat.zero_le _, ?_⟩
    (conv => whnf)
    exact ⟨by show 1 ≤ sizeLine; rw [sizeLine_eq]; decide, hq'⟩
  | succ k ih =>
    intro m b hm hm4 hb μ Q Xd hq
    have hq' : Q (.lst (vsD (vecs m b))) (μ.inter μ) := by rw [Mu.inter_self]; exact hq
    rw [FR_vector_list_s]
    unfold fnD T_vector_list
    (conv => whnf)
    refine dIf_of (fun e => ?_) (fun e => ?_)
    · obtain rfl : m = 0 := by have := of_decide_eq_true e; omega
      (conv => whnf)
      refine ⟨Nat.zero_le _, ?_⟩
      (conv => whnf)
      exact ⟨by show 1 ≤ sizeLine; rw [sizeLine_eq]; decide, hq'⟩
    · obtain ⟨m, rfl⟩ : ∃ j, m = j + 1 := ⟨m - 1, by have := of_decide_eq_false e; omega⟩
      (conv => whnf)
      refine ⟨Nat.zero_le _, ?_⟩
      (conv => whnf)
      refine ⟨fun ρ' μ' => ∃ x3 x4, ρ' = [some (.int ((m + 1 : Nat) : Int)), some (.int (b : Nat)), some (.lst (vsD (vecs (m + 1) b))), x3, x4] ∧ μ' = μ, ?_, ?_⟩
      · (conv => whnf)
        refine ⟨rfl, ?_⟩
        show F_firsts [.int (b : Nat)] μ _ _
        refine firsts_ok (by omega) ?_
        (conv => whnf)
        refine forL_inv (fun i ρ' μ' => μ' = μ ∧ ∃ x3 x4, ρ' = [some (.int ((m + 1 : Nat) : Int)), some (.int (b : Nat)), some (.lst (vsD (part m b i))), x3, x4]) ⟨rfl, _, _, rfl⟩ (fun _ _ _ _ => ck_nil) ?_ ?_
        · rintro i x ρ' μ' hx ⟨rfl, x3, x4, rfl⟩ N hN
          obtain ⟨hi, rfl⟩ := nI_get hx
          have ht := fl_lt hi
          (conv => whnf)
          refine ⟨rfl, ?_⟩
          show F_twos [.int (i : Nat)] _ _ _
          refine twos_ok ?_
          (conv => whnf)
          refine ⟨rfl, ?_⟩
          have e1 : (((m + 1 : Nat) : Int) - 1) = ((m : Nat) : Int) := by omega
          have e2 : ((b : Int) - ((tw i : Nat) : Int)) = ((b - tw i : Nat) : Int) := by omega
          show FR_vector_list (k + 1) [.int (((m + 1 : Nat) : Int) - 1), .int ((b : Int) - ((tw i : Nat) : Int))] _ _ _
          rw [e1, e2]
          refine ih m (b - tw i) (by omega) (by omega) (by omega) ?_
          (conv => whnf)
          have hz := part_len m b (i + 1) hi
          have hz2 := vsz (m := m + 1) (b := b) hm4 hb
          rw [part_s, List.length_append, List.length_map] at hz
          refine lcL_map (consD i) ck_nil _ _ ?_ ?_ ?_
          · intro x hx R B hR
            obtain ⟨l, hl, rfl⟩ := vs_mem hx
            have := vec_len m _ hl
            refine dIf_t rfl ?_
            (conv => whnf)
            refine ⟨?_, by rw [List.append_nil]; exact hR⟩
            show (D.int (i : Nat) :: (nI l ++ [])).length ≤ sizeLine
            rw [sizeLine_eq, List.append_nil, List.length_cons]
            unfold nI
            rw [List.length_map]
            omega
          · rw [vsD_len, sizeLine_eq, List.length_nil]
            omega
          · (conv => whnf)
            rw [List.nil_append, vsD_cons]
            refine ⟨?_, ?_⟩
            · rw [vsD_len, vsD_len, List.length_map, sizeLine_eq]
              omega
            · (conv => whnf)
              rw [← vsD_app, ← part_s]
              exact hN _ _ ⟨rfl, _, _, rfl⟩
        · rintro ρ' μ' ⟨rfl, x3, x4, rfl⟩
          refine ⟨x3, x4, ?_, rfl⟩
          rw [nI_len, part_all]
      · rintro ρ' μ' ⟨x3, x4, rfl, rfl⟩
        (conv => whnf)
        exact hq'
end
end PD
set_option Elab.async false
set_option linter.all false
set_option autoImplicit false
set_option maxRecDepth 100000
set_option maxHeartbeats 4000000
namespace Vc
/-! ### residues and points, in plain lists -/
def rs : List Nat → List (List Nat)
  | [] => [[]]
  | d :: ds => (List.range (2 ^ d)).flatMap fun f => (rs ds).map (f :: ·)
def rF : List Nat → Nat → List Nat × Nat
  | [], a => ([], a)
  | d :: ds, a => ((rF ds a).2 % 2 ^ d :: (rF ds a).1, (rF ds a).2 / 2 ^ d)
def rAt (ds : List Nat) (a : Nat) : List Nat := (rF ds a).1
theorem rF_2 : ∀ (ds : List Nat) (a : Nat), (rF ds a).2 = a / 2 ^ ds.sum
  | [], a => by show a = a / 2 ^ 0; simp
  | d :: ds, a => by
    show (rF ds a).2 / 2 ^ d = _
    rw [rF_2 ds a, Nat.div_div_eq_div_mul, List.sum_cons, Nat.pow_add, Nat.mul_comm]
theorem rF_add : ∀ (ds : List Nat) (q t : Nat), (rF ds (q * 2 ^ ds.sum + t)).1 = (rF ds t).1
  | [], q, t => rfl
  | d :: ds, q, t => by
    show (rF ds _).2 % 2 ^ d :: (rF ds _).1 = (rF ds t).2 % 2 ^ d :: (rF ds t).1
    have e : q * 2 ^ (d :: ds).sum + t = (q * 2 ^ d) * 2 ^ ds.sum + t := by rw [List.sum_cons, Nat.pow_add, Nat.mul_assoc]
    rw [e, rF_add ds, rF_2, rF_2, Nat.add_comm, Nat.add_mul_div_right _ _ (Nat.two_pow_pos _), Nat.add_mul_mod_self_right]
theorem range_mul : ∀ (m n : Nat), List.range (m * n) = (List.range m).flatMap fun f => (List.range n).map (f * n + ·)
  | 0, n => by rw [Nat.zero_mul]; rfl
  | m + 1, n => by
    rw [Nat.succ_mul, List.range_add, range_mul m n, List.range_succ, List.flatMap_append, List.flatMap_cons, List.flatMap_nil, List.append_nil]
theorem fm_congr {α β : Type} : ∀ (l : List α) {f g : α → List β}, (∀ x ∈ l, f x = g x) → l.flatMap f = l.flatMap g
  | [], _, _, _ => rfl
  | a :: l, f, g, h => by
    rw [List.flatMap_cons, List.flatMap_cons, h a List.mem_cons_self, fm_congr l fun x hx => h x (List.mem_cons_of_mem _ hx)]
theorem map_fm {α β γ : Type} (h : β → γ) : ∀ (l : List α) (f : α → List β), (l.flatMap f).map h = l.flatMap fun x => (f x).map h
  | [], _ => rfl
  | a :: l, f => by
    rw [List.flatMap_cons, List.flatMap_cons, List.map_append, map_fm h l f]
theorem rAt_all : ∀ (ds : List Nat), (List.range (2 ^ ds.sum)).map (rAt ds) = rs ds
  | [] => rfl
  | d :: ds => by
    rw [List.sum_cons, Nat.pow_add, range_mul, map_fm]
    show _ = (List.range (2 ^ d)).flatMap _
    refine fm_congr _ fun f hf => ?_
    rw [← rAt_all ds, List.map_map, List.map_map]
    refine List.map_congr_left fun t ht => ?_
    show (rF ds (f * 2 ^ ds.sum + t)).2 % 2 ^ d :: (rF ds (f * 2 ^ ds.sum + t)).1 = f :: (rF ds t).1
    have ht := List.mem_range.mp ht
    have hf := List.mem_range.mp hf
    rw [rF_add, rF_2, Nat.add_comm, Nat.add_mul_div_right _ _ (Nat.two_pow_pos _), Nat.div_eq_of_lt ht, Nat.zero_add, Nat.mod_eq_of_lt hf]
theorem rAt_zero : ∀ (ds : List Nat), rAt ds 0 = List.replicate ds.length 0
  | [] => rfl
  | d :: ds => by
    show (rF ds 0).2 % 2 ^ d :: (rF ds 0).1 = _
    have e : (rF ds 0).1 = List.replicate ds.length 0 := rAt_zero ds
    rw [rF_2, e, Nat.zero_div, Nat.zero_mod]
    rfl
theorem rs_mem : ∀ (ds : List Nat) {r : List Nat}, r ∈ rs ds → r.length = ds.length ∧ ∀ x ∈ r, x < 2 ^ ds.sum
  | [], r, h => by
    rw [List.mem_singleton.mp (show r ∈ [[]] from h)]
    exact ⟨rfl, fun x hx => by cases hx⟩
  | d :: ds, r, h => by
    obtain ⟨f, hf, h2⟩ := List.mem_flatMap.mp (show r ∈ (List.range (2 ^ d)).flatMap _ from h)
    obtain ⟨s, hs, rfl⟩ := List.mem_map.mp h2
    obtain ⟨l, b⟩ := rs_mem ds hs
    have h1 : 2 ^ d ≤ 2 ^ (d + ds.sum) := Nat.pow_le_pow_right (by decide) (by omega)
    have h2 : 2 ^ ds.sum ≤ 2 ^ (d + ds.sum) := Nat.pow_le_pow_right (by decide) (by omega)
    refine ⟨by rw [List.length_cons, List.length_cons, l], fun x hx => ?_⟩
    rw [List.sum_cons]
    rcases List.mem_cons.mp hx with rfl | hx
    · exact Nat.lt_of_lt_of_le (List.mem_range.mp hf) h1
    · exact Nat.lt_of_lt_of_le (b x hx) h2
theorem rs_len : ∀ (ds : List Nat), (rs ds).length = 2 ^ ds.sum := fun ds => by rw [← rAt_all, List.length_map, List.length_range]
theorem rAt_len : ∀ (ds : List Nat) (a : Nat), (rAt ds a).length = ds.length
  | [], a => rfl
  | d :: ds, a => by
    show ((rF ds a).2 % 2 ^ d :: (rF ds a).1).length = _
    have e : (rF ds a).1.length = ds.length := rAt_len ds a
    rw [List.length_cons, List.length_cons, e]
/-- a point -/
def pt : List Nat → List Nat → List Nat → List Nat
  | r :: rs, d :: ds, z :: zs => (r + z * 2 ^ d) :: pt rs ds zs
  | _, _, _ => []
def pts (ds : List Nat) (b : Nat) : List (List Nat) := (rs ds).flatMap fun r => (vecs ds.length b).map (pt r ds ·)
def ptsA (ds : List Nat) (b n : Nat) : List (List Nat) := (List.range n).flatMap fun a => (vecs ds.length b).map (pt (rAt ds a) ds ·)
theorem fm_map {α β γ : Type} (g : α → β) : ∀ (l : List α) (f : β → List γ), (l.map g).flatMap f = l.flatMap fun x => f (g x)
  | [], _ => rfl
  | a :: l, f => by rw [List.map_cons, List.flatMap_cons, List.flatMap_cons, fm_map g l f]
theorem ptsA_all (ds : List Nat) (b : Nat) : ptsA ds b (2 ^ ds.sum) = pts ds b := by
  unfold pts ptsA
  rw [← rAt_all, fm_map]
theorem fm_len {α β : Type} (k : Nat) : ∀ (l : List α) (f : α → List β), (∀ x ∈ l, (f x).length = k) → (l.flatMap f).length = l.length * k
  | [], _, _ => by rw [List.flatMap_nil, List.length_nil, List.length_nil, Nat.zero_mul]
  | a :: l, f, h => by rw [List.flatMap_cons, List.length_append, h a List.mem_cons_self, fm_len k l f (fun x hx => h x (List.mem_cons_of_mem _ hx)), List.length_cons, Nat.succ_mul, Nat.add_comm]
theorem pts_len (ds : List Nat) (b : Nat) : (pts ds b).length = 2 ^ ds.sum * (vecs ds.length b).length := by
  unfold pts
  rw [fm_len (vecs ds.length b).length _ _ (fun x _ => List.length_map _), rs_len]
theorem vecs_two : ∀ (m : Nat) {b : Nat}, 1 ≤ b → ∃ rest, vecs (m + 1) b = List.replicate (m + 1) 0 :: (List.replicate m 0 ++ [1]) :: rest
  | 0, b, h => by
    have := fl_two h
    obtain ⟨k, hk⟩ : ∃ k, fl b = 2 + k := ⟨fl b - 2, by omega⟩
    refine ⟨((List.range k).map (2 + ·)).flatMap fun f => (vecs 0 (b - tw f)).map (f :: ·), ?_⟩
    show (List.range (fl b)).flatMap _ = _
    rw [hk, List.range_add, List.flatMap_append]
    rfl
  | m + 1, b, h => by
    have := fl_two h
    obtain ⟨k, hk⟩ : ∃ k, fl b = 1 + k := ⟨fl b - 1, by omega⟩
    obtain ⟨rest, e⟩ := vecs_two m h
    refine ⟨rest.map (0 :: ·) ++ ((List.range k).map (1 + ·)).flatMap fun f => (vecs (m + 1) (b - tw f)).map (f :: ·), ?_⟩
    show (List.range (fl b)).flatMap _ = _
    rw [hk, List.range_add, List.flatMap_append]
    show ((vecs (m + 1) (b - tw 0)).map (0 :: ·) ++ []) ++ _ = _
    rw [tw_0, Nat.sub_zero, e, List.append_nil]
    rfl
theorem pt_zero : ∀ (ds : List Nat), pt (List.replicate ds.length 0) ds (List.replicate ds.length 0) = List.replicate ds.length 0
  | [] => rfl
  | d :: ds => by
    show (0 + 0 * 2 ^ d) :: pt (List.replicate ds.length 0) ds (List.replicate ds.length 0) = 0 :: List.replicate ds.length 0
    rw [pt_zero ds, Nat.zero_mul]
theorem pt_one : ∀ (m : Nat) (ds : List Nat) (e : Nat), ds.length = m → pt (List.replicate (m + 1) 0) (ds ++ [e]) (List.replicate m 0 ++ [1]) = List.replicate m 0 ++ [2 ^ e]
  | 0, [], e, _ => by
    show [0 + 1 * 2 ^ e] = [2 ^ e]
    rw [Nat.one_mul, Nat.zero_add]
  | m + 1, d :: ds, e, h => by
    show (0 + 0 * 2 ^ d) :: pt (List.replicate (m + 1) 0) (ds ++ [e]) (List.replicate m 0 ++ [1]) = 0 :: (List.replicate m 0 ++ [2 ^ e])
    rw [pt_one m ds e (Nat.succ.inj h), Nat.zero_mul]
theorem pts_two {ds : List Nat} {m e b : Nat} (hd : ds.length = m) (hb : 1 ≤ b) : (pts (ds ++ [e]) b).take 2 = [List.replicate (m + 1) 0, List.replicate m 0 ++ [2 ^ e]] := by
  rw [← ptsA_all]
  obtain ⟨k, hk⟩ : ∃ k, 2 ^ (ds ++ [e]).sum = 1 + k := ⟨2 ^ (ds ++ [e]).sum - 1, by have := Nat.two_pow_pos (ds ++ [e]).sum; omega⟩
  have hl : (ds ++ [e]).length = m + 1 := by rw [List.length_append, hd]; rfl
  obtain ⟨rest, ev⟩ := vecs_two m hb
  unfold ptsA
  rw [hk, List.range_add, List.flatMap_append, hl, ev]
  show List.take 2 ((pt (rAt (ds ++ [e]) 0) (ds ++ [e]) (List.replicate (m + 1) 0) :: pt (rAt (ds ++ [e]) 0) (ds ++ [e]) (List.replicate m 0 ++ [1]) :: _) ++ _ ++ _) = _
  have z := pt_zero (ds ++ [e])
  rw [hl] at z
  rw [rAt_zero, hl, z, pt_one m ds e hd]
  rfl
/-- the twos in n -/
def pw (n : Nat) : Nat := if h : n = 0 then 0 else if n % 2 = 0 then pw (n / 2) + 1 else 0
termination_by n
decreasing_by omega
theorem pw_even {n : Nat} (h : n ≠ 0) (h2 : n % 2 = 0) : pw n = pw (n / 2) + 1 := by
  rw [pw, dif_neg h, if_pos h2]
theorem pw_odd {n : Nat} (h2 : n % 2 = 1) : pw n = 0 := by
  rw [pw, dif_neg (by omega), if_neg (by omega)]
theorem tw_next : ∀ n, tw (n + 1) = tw n + pw (n + 1) := by
  intro n
  induction n using Nat.strongRecOn with
  | ind n ih =>
    rw [tw_s (by omega)]
    by_cases h0 : n = 0
    · subst h0
      rw [pw_odd rfl, tw_0]
    · rw [tw_s h0]
      by_cases h : (n + 1) % 2 = 0
      · rw [pw_even (by omega) h]
        have e : (n + 1) / 2 = n / 2 + 1 := by omega
        rw [e, ih (n / 2) (by omega)]
        omega
      · rw [pw_odd (by omega)]
        have e : (n + 1) / 2 = n / 2 := by omega
        rw [e, Nat.add_zero]
theorem tw_pow : ∀ k, tw (2 ^ k) = 2 ^ k - 1
  | 0 => tw_1
  | k + 1 => by
    rw [tw_s (by have := Nat.two_pow_pos (k + 1); omega)]
    have e : 2 ^ (k + 1) / 2 = 2 ^ k := by rw [Nat.pow_succ]; omega
    rw [e, tw_pow k, Nat.pow_succ]
    have := Nat.two_pow_pos k
    omega
end Vc
set_option Elab.async false
set_option linter.all false
set_option autoImplicit false
set_option maxRecDepth 100000
set_option maxHeartbeats 4000000
namespace PD
open PySem PySem.Spec PyProof.Rows L2
/-! ### common steps: lists of the store, loops that count -/
section
variable {μ μ0 : Mu} {Q : QD} {Xd : XD → Mu → Prop} {p : Addr} {xs ys : List D} {y : D}
theorem whileN_up {c : TDT} {b : TDS} {E : EndsD} {Xe : XE} (N : Nat) (I : Nat → PD.Env → Mu → Prop) {ρ : PD.Env} (h0 : I 0 ρ μ)
    (hs : ∀ i ρ μ, i < N → I i ρ μ → ∀ (K : PD.Env → Mu → Prop) (B : Mu → Prop), (∀ ρ' μ', I (i + 1) ρ' μ' → K ρ' μ') → c Xe ρ μ fun t μ1 => dIf t (b { E with nx := K, ct := K, bk := E.nx } Xe ρ μ1) (B μ1))
    (he : ∀ ρ μ, I N ρ μ → ∀ B : Mu → Prop, c Xe ρ μ fun t μ1 => dIf t (B μ1) (E.nx ρ μ1)) : sWhile c b E Xe ρ μ := by
  suffices H : ∀ (k i : Nat) (ρ : PD.Env) (μ : Mu), i + k = N → I i ρ μ → sWhileN c b (k + 1) E Xe ρ μ from ⟨N + 1, H N 0 ρ μ (Nat.zero_add _) h0⟩
  intro k
  induction k with
  | zero =>
    intro i ρ μ e hi
    have e2 : i = N := by omega
    subst e2
    exact he ρ μ hi _
  | succ k ih =>
    intro i ρ μ e hi
    exact hs i ρ μ (by omega) hi _ _ fun ρ' μ' h => ih (i + 1) ρ' μ' (by omega) h
theorem lst_at (h : μ p = some (.lst xs)) : lstOf (.ptr p) μ = some xs := by
  unfold lstOf
  dsimp only
  rw [h]
theorem seq_at (h : μ p = some (.lst xs)) : seqOf (.ptr p) μ = some xs := lst_at h
theorem ty_at (h : μ p = some (.lst xs)) : tyD "list" (.ptr p) μ := by
  refine .inl ⟨rfl, ?_⟩
  rw [lst_at h]
  rfl
theorem len_at (h : μ p = some (.lst xs)) (hq : Q (.int xs.length) μ) : cLen [.ptr p] μ Q := by
  show (match seqOf (.ptr p) μ with | some xs => Q (.int xs.length) μ | none => False)
  rw [seq_at h]
  exact hq
theorem appd_at (h : μ p = some (.lst xs)) (hn : xs.length < sizeLine) (hq : Q .non (μ.set p (.lst (xs ++ [y])))) : mAppend (.ptr p) [y] μ Q := by
  show (match μ p with | some (.lst xs) => _ | _ => False)
  rw [h]
  exact ⟨hn, hq⟩
theorem ext_at (h : μ p = some (.lst xs)) (hn : xs.length + ys.length ≤ sizeLine) (hq : Q .non (μ.set p (.lst (xs ++ ys)))) : mExtend (.ptr p) [.lst ys] μ Q := by
  show (match μ p with | some (.lst xs) => _ | _ => False)
  rw [h]
  exact ⟨hn, hq⟩
theorem ext_set (hn : xs.length + ys.length ≤ sizeLine) (hq : Q .non (μ.set p (.lst (xs ++ ys)))) : mExtend (.ptr p) [.lst ys] (μ.set p (.lst xs)) Q := by
  refine ext_at Mu.set_same hn ?_
  rw [Mu.set_set]
  exact hq
theorem app_set (hn : xs.length < sizeLine) (hq : Q .non (μ.set p (.lst (xs ++ [y])))) : mAppend (.ptr p) [y] (μ.set p (.lst xs)) Q := by
  refine appd_at Mu.set_same hn ?_
  rw [Mu.set_set]
  exact hq
theorem del_set (h : μ p = none) {m : MO} : (μ.set p m).del p = μ := by
  funext b
  unfold Mu.del Mu.set
  by_cases e : b = p
  · subst e
    rw [if_pos rfl, h]
  · rw [if_neg e, if_neg e]
theorem frz_set {k : D → Mu → Prop} (h : μ p = none) (hq : k (.lst xs) μ) : frz (.ptr p) (μ.set p (.lst xs)) k := by
  show (match (μ.set p (.lst xs)) p with | some (.lst ds) => k (.lst ds) ((μ.set p (.lst xs)).del p) | _ => k (.ptr p) (μ.set p (.lst xs)))
  rw [Mu.set_same]
  show k (.lst xs) ((μ.set p (.lst xs)).del p)
  rw [del_set h]
  exact hq
theorem cshl {i r : Int} {n : Nat} (hi : i.natAbs < 2 ^ n) (hn : n ≤ 200) (h0 : 0 ≤ r) (h1 : r ≤ 1000000) : CShl i r := by
  have := shl_ok (i := i) (j := r.toNat) (n := n) hi (by omega)
  rwa [Int.toNat_of_nonneg h0] at this
theorem cshl1 {r : Int} (h0 : 0 ≤ r) (h1 : r ≤ 1000000) : CShl 1 r := cshl (n := 1) (by decide) (by decide) h0 h1
theorem pw_pos (d : Nat) : (0 : Int) < 1 * 2 ^ ((d : Int).toNat) := by
  have h := Nat.two_pow_pos d
  rw [Int.toNat_natCast, Int.one_mul]
  exact_mod_cast h
theorem pw_cast (d : Nat) : (1 * 2 ^ ((d : Int).toNat) : Int) = ((2 ^ d : Nat) : Int) := by
  rw [Int.toNat_natCast, Int.one_mul]
  norm_cast
theorem cshlN (d : Nat) (h : d ≤ 1000000) : CShl 1 (d : Int) := cshl1 (by omega) (by omega)
theorem eq_lst {g : Bool → Bool} {x : PyData} (e : pyD μ (.lst xs) = some x) (s : SeqAt.shaped x = true) (h : Q (.bl (g true)) μ) : oEqG g (.lst xs) (.lst xs) μ Q := by
  show (match pyD μ (.lst xs), pyD μ (.lst xs) with | some x, some y => _ | _, _ => False)
  rw [e]
  refine ⟨s, s, ?_⟩
  rw [SeqAt.eqv_refl _ (SeqAt.canLay_of_shaped s)]
  exact h
theorem rangeL_at {lo : Int} {n i : Nat} {x : D} (h : (rangeL lo n)[i]? = some x) : i < n ∧ x = .int (lo + (i : Nat)) := by
  unfold rangeL at h
  rw [List.getElem?_map] at h
  by_cases hi : i < n
  · rw [List.getElem?_range hi] at h
    exact ⟨hi, (Option.some.inj h).symm⟩
  · rw [List.getElem?_eq_none (by simpa using hi)] at h
    cases h
theorem szl {n : Nat} (h : n ≤ 16777216) : n ≤ sizeLine := Nat.le_trans h (by decide)
theorem szlt {n : Nat} (h : n < 16777216) : n < sizeLine := Nat.lt_of_lt_of_le h (by decide)
end
end PD
set_option Elab.async false
set_option linter.all false
set_option autoImplicit false
set_option maxRecDepth 100000
set_option maxHeartbeats 4000000
namespace PD
open PySem PySem.Spec PyProof.Rows L2
open Vc
section
variable {μ : Mu} {Q : QD} {Xd : XD → Mu → Prop}
theorem law_twos_ok {n : Nat} (h : n < 256) (hq : Q (.int (tw n : Nat)) μ) : F_law_twos [.int (n : Nat)] μ Q Xd := law_twos_r 8 n h hq
theorem law_vectors_r : ∀ (k m b : Nat), m ≤ k → m ≤ 3 → b ≤ 64 → ∀ {μ : Mu} {Q : QD} {Xd : XD → Mu → Prop}, Q (.lst (vsD (vecs m b))) μ → FR_law_vectors (k + 1) [.int (m : Nat), .int (b : Nat)] μ Q Xd := by
  intro k
  induction k with
  | zero =>
    intro m b hm _ hb μ Q Xd hq
    obtain rfl : m = 0 := by omega
    have hq' : Q (.lst (vsD (vecs 0 b))) (μ.inter μ) := by rw [Mu.inter_self]; exact hq
    rw [FR_law_vectors_s]
    unfold fnD T_law_vectors
    (conv => whnf)
    refine dIf_t (by decide) ?_
    (conv => whnf)
    refine ⟨Nat.zero_le _, ?_⟩
    (conv => whnf)
    exact ⟨by show 1 ≤ sizeLine; rw [sizeLine_eq]; decide, hq'⟩
  | succ k ih =>
    intro m b hm hm4 hb μ Q Xd hq
    have hq' : Q (.lst (vsD (vecs m b))) (μ.inter μ) := by rw [Mu.inter_self]; exact hq
    rw [FR_law_vectors_s]
    unfold fnD T_law_vectors
    (conv => whnf)
    refine dIf_of (fun e => ?_) (fun e => ?_)
    · obtain rfl : m = 0 := by have := of_decide_eq_true e; omega
      (conv => whnf)
      refine ⟨Nat.zero_le _, ?_⟩
      (conv => whnf)
      exact ⟨by show 1 ≤ sizeLine; rw [sizeLine_eq]; decide, hq'⟩
    · obtain ⟨m, rfl⟩ : ∃ j, m = j + 1 := ⟨m - 1, by have := of_decide_eq_false e; omega⟩
      (conv => whnf)
      refine ⟨Nat.zero_le _, ?_⟩
      intro p hp
      (conv => whnf)
      refine ⟨by show 2 ≤ sizeLine; exact szl (by decide), ?_⟩
      (conv => whnf)
      refine ⟨rfl, ?_⟩
      (conv => whnf)
      refine ⟨fun ρ' μ' => ∃ x4, ρ' = [some (.int ((m + 1 : Nat) : Int)), some (.int (b : Nat)), some (.ptr p), some (.int (fl b : Nat)), x4] ∧ μ' = μ.set p (.lst (vsD (vecs (m + 1) b))), ?_, ?_⟩
      · refine whileN_up (fl b) (fun i ρ' μ' => ∃ x4, ρ' = [some (.int ((m + 1 : Nat) : Int)), some (.int (b : Nat)), some (.ptr p), some (.int (i : Nat)), x4] ∧ μ' = μ.set p (.lst (vsD (part m b i)))) ⟨_, rfl, rfl⟩ ?_ ?_
        · rintro i ρ' μ' hi ⟨x4, rfl, rfl⟩ N B hN
          have ht := fl_lt hi
          have hfb := fl_le b
          (conv => whnf)
          refine ⟨rfl, ?_⟩
          show F_law_twos [.int (i : Nat)] _ _ _
          refine law_twos_ok (by omega) ?_
          (conv => whnf)
          refine dIf_t (decide_eq_true (by omega)) ?_
          (conv => whnf)
          refine ⟨ty_at Mu.set_same, ?_⟩
          (conv => whnf)
          refine ⟨rfl, ?_⟩
          show F_law_twos [.int (i : Nat)] _ _ _
          refine law_twos_ok (by omega) ?_
          (conv => whnf)
          refine ⟨rfl, ?_⟩
          have e1 : (((m + 1 : Nat) : Int) - 1) = ((m : Nat) : Int) := by omega
          have e2 : ((b : Int) - ((tw i : Nat) : Int)) = ((b - tw i : Nat) : Int) := by omega
          show FR_law_vectors (k + 1) [.int (((m + 1 : Nat) : Int) - 1), .int ((b : Int) - ((tw i : Nat) : Int))] _ _ _
          rw [e1, e2]
          refine ih m (b - tw i) (by omega) (by omega) (by omega) ?_
          (conv => whnf)
          have hz := part_len m b (i + 1) hi
          have hz2 := vsz (m := m + 1) (b := b) hm4 hb
          rw [part_s, List.length_append, List.length_map] at hz
          refine lcL_map (consD i) ck_nil _ _ ?_ ?_ ?_
          · intro x hx R B hR
            obtain ⟨l, hl, rfl⟩ := vs_mem hx
            refine dIf_t rfl ?_
            (conv => whnf)
            refine ⟨szl (Nat.succ_le_succ (Nat.zero_le _)), ?_⟩
            (conv => whnf)
            have := vec_len m _ hl
            refine ⟨szl ?_, hR⟩
            show [D.int (i : Nat)].length + (nI l).length ≤ _
            unfold nI
            rw [List.length_map, List.length_singleton]
            omega
          · rw [vsD_len]
            exact szl (by show 0 + _ ≤ _; omega)
          · (conv => whnf)
            rw [List.nil_append, vsD_cons]
            rw [Mu.set_same]
            refine And.intro ?_ ?_
            · rw [vsD_len, vsD_len, List.length_map]
              exact szl (by omega)
            rw [Mu.set_set, ← vsD_app, ← part_s]
            exact hN _ _ ⟨_, rfl, rfl⟩
        · rintro ρ' μ' ⟨x4, rfl, rfl⟩ B
          have := fl_ge (b := b) (i := fl b) (Nat.le_refl _)
          have hfb := fl_le b
          (conv => whnf)
          refine ⟨rfl, ?_⟩
          show F_law_twos [.int (fl b : Nat)] _ _ _
          refine law_twos_ok (by omega) ?_
          (conv => whnf)
          refine dIf_f (decide_eq_false (by omega)) ?_
          exact ⟨_, rfl, by rw [part_all]⟩
      · rintro ρ' μ' ⟨x4, rfl, rfl⟩
        (conv => whnf)
        exact frz_set hp hq'
theorem vector_list_ok {m b : Nat} (hm : m ≤ 3) (hb : b ≤ 64) (hq : Q (.lst (vsD (vecs m b))) μ) : F_vector_list [.int (m : Nat), .int (b : Nat)] μ Q Xd := vector_list_r 3 m b hm hm hb hq
theorem law_vectors_ok {m b : Nat} (hm : m ≤ 3) (hb : b ≤ 64) (hq : Q (.lst (vsD (vecs m b))) μ) : F_law_vectors [.int (m : Nat), .int (b : Nat)] μ Q Xd := law_vectors_r 3 m b hm hm hb hq
theorem count_vectors_ok {m b : Nat} (hm : m ≤ 3) (hb : b ≤ 64) (hq : Q (.int ((vecs m b).length : Nat)) μ) : F_count_vectors [.int (m : Nat), .int (b : Nat)] μ Q Xd := by
  rw [F_count_vectors_eq]; unfold fnD T_count_vectors
  (conv => whnf)
  refine ⟨rfl, vector_list_ok hm hb ?_⟩
  (conv => whnf)
  rw [Mu.inter_self, vsD_len]
  exact hq
end
end PD
set_option Elab.async false
set_option linter.all false
set_option autoImplicit false
set_option maxRecDepth 100000
set_option maxHeartbeats 4000000
namespace PD
open PySem PySem.Spec PyProof.Rows L2
/-! ### rows of code, plainly -/
inductive Row where
  | set (r n : Int) | copy (r a : Int) | left (r a : Int) | right (r a : Int) | add (r a b : Int) | sub (r a b : Int) | mul (r a b : Int) | load (r s : Int) | store (s a : Int) | skip (a m c n : Int)
def Row.w : Row → Str
  | .set _ _ => "set" | .copy _ _ => "copy" | .left _ _ => "left" | .right _ _ => "right" | .add _ _ _ => "add" | .sub _ _ _ => "sub" | .mul _ _ _ => "mul" | .load _ _ => "load" | .store _ _ => "store" | .skip _ _ _ _ => "skip"
def Row.ns : Row → List Int
  | .set r n => [r, n] | .copy r a => [r, a] | .left r a => [r, a] | .right r a => [r, a] | .add r a b => [r, a, b] | .sub r a b => [r, a, b] | .mul r a b => [r, a, b] | .load r s => [r, s] | .store s a => [s, a] | .skip a m c n => [a, m, c, n]
def Row.d (r : Row) : D := .tup (.str r.w :: r.ns.map D.int)
abbrev Reg (n : Int) : Prop := 0 ≤ n ∧ n < 8
abbrev Slot (n : Int) : Prop := 0 ≤ n ∧ n < 1000
abbrev Num (n : Int) : Prop := -18446744073709551616 < n ∧ n < 18446744073709551616
def Row.Ok : Row → Prop
  | .set r n => Reg r ∧ Num n
  | .copy r a => Reg r ∧ Reg a | .left r a => Reg r ∧ Reg a | .right r a => Reg r ∧ Reg a
  | .add r a b => Reg r ∧ Reg a ∧ Reg b | .sub r a b => Reg r ∧ Reg a ∧ Reg b | .mul r a b => Reg r ∧ Reg a ∧ Reg b
  | .load r s => Reg r ∧ Slot s | .store s a => Slot s ∧ Reg a
  | .skip a m c n => Reg a ∧ (0 < m ∧ m ≤ 64 ∧ 64 % m = 0) ∧ (0 ≤ c ∧ c < m) ∧ 0 ≤ n ∧ n ≤ 1000
/-- how many rows behind it a row needs -/
def Row.far : Row → Int
  | .skip _ _ _ n => n
  | _ => 0
structure CodeOk (rs : List Row) : Prop where
  few : rs.length ≤ 1000
  row : ∀ r ∈ rs, r.Ok
  far : ∀ (i : Nat) r, rs[i]? = some r → r.w = "skip" → (i : Int) + r.far < rs.length
end PD
set_option Elab.async false
set_option linter.all false
set_option autoImplicit false
set_option maxRecDepth 100000
set_option maxHeartbeats 4000000
namespace PD
open PySem PySem.Spec PyProof.Rows L2
/-! ### rows as plain data: == -/
def Row.py (r : Row) : PyData := .tuple (.str r.w :: r.ns.map .int)
theorem ints_lay : ∀ ns : List Int, PyData.canLayAll0 (ns.map PyData.int) = true
  | [] => rfl
  | n :: ns => by simp [PyData.canLayAll0, PyData.canLay0, ints_lay ns]
theorem ints_depth : ∀ ns : List Int, PyData.depthAll (ns.map PyData.int) = 0
  | [] => rfl
  | n :: ns => by simp [PyData.depthAll, PyData.depth, ints_depth ns]
theorem Row.w_ok (r : Row) : PyData.strOk r.w = true := by cases r <;> (simp only [Row.w]; decide +kernel)
theorem rowD_lay (r : Row) : PyData.canLay0 r.py = true := by
  simp [Row.py, PyData.canLay0, PyData.canLayAll0, Row.w_ok r, ints_lay]
theorem rowD_depth (r : Row) : PyData.depth r.py = 1 := by
  simp [Row.py, PyData.depth, PyData.depthAll, ints_depth]
theorem rowsD_lay : ∀ rs : List Row, PyData.canLayAll0 (rs.map Row.py) = true
  | [] => rfl
  | r :: rs => by simp [PyData.canLayAll0, rowD_lay r, rowsD_lay rs]
theorem rowsD_depth : ∀ rs : List Row, PyData.depthAll (rs.map Row.py) ≤ 1
  | [] => by simp [PyData.depthAll]
  | r :: rs => by
    have h := rowsD_depth rs
    simp only [List.map_cons, PyData.depthAll, rowD_depth]
    omega
theorem shaped_seq {ds : List PyData} (h : PyData.canLayAll0 ds = true) (h1 : PyData.depthAll ds ≤ 60) : SeqAt.shaped (.tuple ds) = true ∧ SeqAt.shaped (.list ds) = true := by
  constructor
  all_goals
    unfold SeqAt.shaped
    simp [PyData.canLay0, h, PyData.depth, PyData.canLay]
    try omega
theorem pyDs_ints (μ : Mu) : ∀ ns : List Int, pyDs μ (ns.map D.int) = some (ns.map PyData.int)
  | [] => rfl
  | n :: ns => by
    have h := pyDs_ints μ ns
    simp only [List.map_cons, pyDs, pyD, h]
theorem row_pyD (μ : Mu) (r : Row) : pyD μ r.d = some r.py := by
  unfold Row.d
  simp only [pyD, pyDs, pyDs_ints]
  rfl
theorem rows_pyDs (μ : Mu) : ∀ rs : List Row, pyDs μ (rs.map Row.d) = some (rs.map Row.py)
  | [] => rfl
  | r :: rs => by
    have h := rows_pyDs μ rs
    simp only [List.map_cons, pyDs, row_pyD, h]
theorem rowsT_pyD (μ : Mu) (rs : List Row) : pyD μ (.tup (rs.map Row.d)) = some (.tuple (rs.map Row.py)) := by
  simp only [pyD, rows_pyDs]
  rfl
theorem rowsL_pyD (μ : Mu) (rs : List Row) : pyD μ (.lst (rs.map Row.d)) = some (.list (rs.map Row.py)) := by
  simp only [pyD, rows_pyDs]
  rfl
theorem rowsT_shaped (rs : List Row) : SeqAt.shaped (.tuple (rs.map Row.py)) = true := (shaped_seq (rowsD_lay rs) (Nat.le_trans (rowsD_depth rs) (by decide))).1
theorem rowsL_shaped (rs : List Row) : SeqAt.shaped (.list (rs.map Row.py)) = true := (shaped_seq (rowsD_lay rs) (Nat.le_trans (rowsD_depth rs) (by decide))).2
theorem rowsT_refl (rs : List Row) : PyData.eqv (.tuple (rs.map Row.py)) (.tuple (rs.map Row.py)) = true := SeqAt.eqv_refl _ (SeqAt.canLay_of_shaped (rowsT_shaped rs))
theorem eq_rowsT {μ : Mu} {Q : QD} {g : Bool → Bool} {rs : List Row} (h : Q (.bl (g true)) μ) : oEqG g (.tup (rs.map Row.d)) (.tup (rs.map Row.d)) μ Q := by
  show (match pyD μ (.tup (rs.map Row.d)), pyD μ (.tup (rs.map Row.d)) with | some x, some y => _ | _, _ => False)
  rw [rowsT_pyD]
  refine ⟨rowsT_shaped rs, rowsT_shaped rs, ?_⟩
  rw [rowsT_refl]
  exact h
end PD
set_option Elab.async false
set_option linter.all false
set_option autoImplicit false
set_option maxRecDepth 100000
set_option maxHeartbeats 4000000
namespace PD
open PySem PySem.Spec PyProof.Rows L2
open Vc
section
variable {μ : Mu} {Q : QD} {Xd : XD → Mu → Prop}
/-- a loss, as a list or as a tuple -/
def sqD (t : Bool) (l : List Nat) : D := if t then .tup (nI l) else .lst (nI l)
theorem nI_len' (l : List Nat) : (nI l).length = l.length := List.length_map _
theorem nI_rev (l : List Nat) : (nI l).reverse = nI l.reverse := List.map_reverse.symm
theorem drop_rev {l : List Nat} {i : Nat} (h : i < l.length) : l.drop (l.length - (i + 1)) = l[l.length - 1 - i]'(by omega) :: l.drop (l.length - i) := by
  rw [List.drop_eq_getElem_cons (by omega : l.length - (i + 1) < l.length)]
  congr 1
  · congr 1
    omega
  · congr 1
    omega
theorem nI_rev_get {l : List Nat} {i : Nat} {x : D} (h : (nI l.reverse)[i]? = some x) : ∃ hi : i < l.length, x = .int ((l[l.length - 1 - i]'(by omega) : Nat) : Int) := by
  unfold nI at h
  rw [List.getElem?_map] at h
  by_cases hi : i < l.length
  · rw [List.getElem?_reverse hi, List.getElem?_eq_getElem (by omega)] at h
    exact ⟨hi, (Option.some.inj h).symm⟩
  · rw [List.getElem?_eq_none (by simpa using hi)] at h
    cases h
def b_res : TDS := sSeq (sAsg (eTup (aCons (eBin oMod (eVar 1) (eBin oShl (eC (.int 1)) (eVar 3))) (aStar (eVar 2) aNil))) (gN 2)) (sAsg (eBin oShr (eVar 1) (eVar 3)) (gN 1))
theorem res_loop {E : EndsD} {Xe : XE} {v : D} {l : List Nat} {a : Nat} (hl : l.length ≤ 3) (hb : ∀ d ∈ l, d ≤ 64) (hE : ∀ x1 x3, E.nx [some v, x1, some (.tup (nI (rAt l a))), x3] μ) : forL (gN 3) b_res E Xe [] (nI l.reverse) [some v, some (.int (a : Nat)), some (.tup []), none] μ := by
  refine forL_inv (fun i ρ' μ' => ∃ x3, ρ' = [some v, some (.int ((rF (l.drop (l.length - i)) a).2 : Nat)), some (.tup (nI (rF (l.drop (l.length - i)) a).1)), x3] ∧ μ' = μ) ⟨none, by rw [Nat.sub_zero, List.drop_length]; rfl, rfl⟩ (fun _ _ _ _ => ck_nil) ?_ ?_
  · rintro i x ρ' μ' hx ⟨x3, rfl, rfl⟩ N hN
    obtain ⟨hi, rfl⟩ := nI_rev_get hx
    have hd := hb _ (List.getElem_mem (by omega : l.length - 1 - i < l.length))
    generalize hdd : l[l.length - 1 - i] = dd at hd
    have e := drop_rev hi
    rw [hdd] at e
    have hr : (rF (l.drop (l.length - i)) a).1.length ≤ 3 := by
      have := rAt_len (l.drop (l.length - i)) a
      unfold rAt at this
      rw [this, List.length_drop]
      omega
    (conv => whnf)
    refine ⟨cshlN dd (by omega), ?_⟩
    (conv => whnf)
    refine ⟨pw_pos dd, ?_⟩
    (conv => whnf)
    refine ⟨?_, ?_⟩
    · show (D.int _ :: (nI (rF (l.drop (l.length - i)) a).1 ++ [])).length ≤ sizeLine
      rw [List.append_nil, List.length_cons, nI_len']
      exact szl (by omega)
    · (conv => whnf)
      refine ⟨by omega, ?_⟩
      (conv => whnf)
      refine hN _ _ ⟨some (.int (dd : Nat)), ?_, rfl⟩
      have e1 : (((rF (l.drop (l.length - i)) a).2 : Nat) : Int) % (1 * 2 ^ ((dd : Int).toNat)) = (((rF (l.drop (l.length - i)) a).2 % 2 ^ dd : Nat) : Int) := by rw [pw_cast]; rfl
      have e2 : (((rF (l.drop (l.length - i)) a).2 : Nat) : Int) / 2 ^ ((dd : Int).toNat) = (((rF (l.drop (l.length - i)) a).2 / 2 ^ dd : Nat) : Int) := by
        rw [Int.toNat_natCast]; norm_cast
      rw [e]
      show _ = [some v, some (D.int (((rF (l.drop (l.length - i)) a).2 / 2 ^ dd : Nat) : Int)), some (D.tup (D.int (((rF (l.drop (l.length - i)) a).2 % 2 ^ dd : Nat) : Int) :: nI (rF (l.drop (l.length - i)) a).1)), some (.int (dd : Nat))]
      rw [← e1, ← e2]
      show [_, _, some (D.tup (_ :: (nI (rF (l.drop (l.length - i)) a).1 ++ []))), _] = _
      rw [List.append_nil]
  · rintro ρ' μ' ⟨x3, rfl, rfl⟩
    rw [nI_len', List.length_reverse, Nat.sub_self, List.drop_zero]
    exact hE _ _
theorem residue_at_ok {t : Bool} {l : List Nat} {a : Nat} (hl : l.length ≤ 3) (hb : ∀ d ∈ l, d ≤ 64) (hq : Q (.tup (nI (rAt l a))) μ) : F_residue_at [sqD t l, .int (a : Nat)] μ Q Xd := by
  have hq' : Q (.tup (nI (rAt l a))) (μ.inter μ) := by rw [Mu.inter_self]; exact hq
  rw [F_residue_at_eq]; unfold fnD T_residue_at
  cases t with
  | true =>
    (conv => whnf)
    refine ⟨szl (Nat.zero_le _), ?_⟩
    refine ⟨fun ρ' μ' => ∃ x1 x3, ρ' = [some (.tup (nI l)), x1, some (.tup (nI (rAt l a))), x3] ∧ μ' = μ, ?_, ?_⟩
    · (conv => whnf)
      rw [nI_rev]
      exact res_loop hl hb fun x1 x3 => ⟨x1, x3, rfl, rfl⟩
    · rintro ρ' μ' ⟨x1, x3, rfl, rfl⟩
      (conv => whnf)
      exact hq'
  | false =>
    (conv => whnf)
    refine ⟨szl (Nat.zero_le _), ?_⟩
    refine ⟨fun ρ' μ' => ∃ x1 x3, ρ' = [some (.lst (nI l)), x1, some (.tup (nI (rAt l a))), x3] ∧ μ' = μ, ?_, ?_⟩
    · (conv => whnf)
      rw [nI_rev]
      exact res_loop hl hb fun x1 x3 => ⟨x1, x3, rfl, rfl⟩
    · rintro ρ' μ' ⟨x1, x3, rfl, rfl⟩
      (conv => whnf)
      exact hq'
def ptF (d : D) : D := match d with
  | .tup [.int r, .int d, .int z] => .int (r + z * 2 ^ d.toNat)
  | d => d
theorem zip3_map : ∀ (r l z : List Nat), (zip3L (nI r) (nI l) (nI z)).map ptF = nI (pt r l z)
  | [], _, _ => rfl
  | _ :: _, [], _ => rfl
  | _ :: _, _ :: _, [] => rfl
  | r :: rs, d :: ds, z :: zs => by
    show ptF (.tup [.int (r : Nat), .int (d : Nat), .int (z : Nat)]) :: (zip3L (nI rs) (nI ds) (nI zs)).map ptF = .int ((r + z * 2 ^ d : Nat) : Int) :: nI (pt rs ds zs)
    rw [zip3_map rs ds zs]
    congr 1
theorem zip3_mem : ∀ {r l z : List Nat} {x : D}, x ∈ zip3L (nI r) (nI l) (nI z) → ∃ a b c : Nat, x = .tup [.int (a : Nat), .int (b : Nat), .int (c : Nat)] ∧ b ∈ l ∧ c ∈ z
  | [], _, _, x, h => by cases h
  | _ :: _, [], _, x, h => by cases h
  | _ :: _, _ :: _, [], x, h => by cases h
  | r :: rs, d :: ds, z :: zs, x, h => by
    rcases List.mem_cons.mp (show x ∈ D.tup [.int (r : Nat), .int (d : Nat), .int (z : Nat)] :: zip3L (nI rs) (nI ds) (nI zs) from h) with rfl | h
    · exact ⟨r, d, z, rfl, List.mem_cons_self, List.mem_cons_self⟩
    · obtain ⟨a, b, c, e, h1, h2⟩ := zip3_mem h
      exact ⟨a, b, c, e, List.mem_cons_of_mem _ h1, List.mem_cons_of_mem _ h2⟩
theorem pt_len : ∀ (r l z : List Nat), (pt r l z).length ≤ l.length
  | [], _, _ => Nat.zero_le _
  | _ :: _, [], _ => Nat.zero_le _
  | _ :: _, _ :: _, [] => Nat.zero_le _
  | r :: rs, d :: ds, z :: zs => Nat.succ_le_succ (pt_len rs ds zs)
theorem zip3_len (r l z : List Nat) : (zip3L (nI r) (nI l) (nI z)).length ≤ l.length := by
  have h := congrArg List.length (zip3_map r l z)
  rw [List.length_map, nI_len'] at h
  rw [h]
  exact pt_len r l z
theorem point_at_ok {t : Bool} {r l z : List Nat} (hl : l.length ≤ 3) (hb : ∀ d ∈ l, d ≤ 64) (hz : ∀ c ∈ z, c ≤ 1000) (hq : Q (vD (pt r l z)) μ) : F_point_at [.tup (nI r), sqD t l, .tup (nI z)] μ Q Xd := by
  have hq' : Q (vD (pt r l z)) (μ.inter μ) := by rw [Mu.inter_self]; exact hq
  rw [F_point_at_eq]; unfold fnD T_point_at
  have key : ∀ x ∈ zip3L (nI r) (nI l) (nI z), ∀ (ρ : PD.Env) (R : QD) (B : Prop), R (ptF x) μ → en3 [3, 4, 5] 3 4 5 [some (.tup (nI r)), some (sqD t l), some (.tup (nI z)), none, none, none] x μ fun ρ' => dIf true (eBin (oAdd false) (eVar 3) (eBin oShl (eVar 5) (eVar 4)) xF ρ' μ R) B := by
    intro x hx ρ R B hR
    obtain ⟨a, b, c, rfl, h1, h2⟩ := zip3_mem hx
    have := hb b h1
    have := hz c h2
    refine dIf_t rfl ?_
    (conv => whnf)
    exact ⟨cshl (n := 20) (by omega) (by decide) (by omega) (by omega), hR⟩
  have hn := zip3_len r l z
  cases t with
  | true =>
    (conv => whnf)
    refine lcL_map ptF ck_nil _ _ (fun x hx R B hR => key x hx [] R B hR) (szl (by show 0 + _ ≤ _; omega)) ?_
    rw [List.nil_append, zip3_map]
    (conv => whnf)
    exact hq'
  | false =>
    (conv => whnf)
    refine lcL_map ptF ck_nil _ _ (fun x hx R B hR => key x hx [] R B hR) (szl (by show 0 + _ ≤ _; omega)) ?_
    rw [List.nil_append, zip3_map]
    (conv => whnf)
    exact hq'
end
end PD
set_option Elab.async false
set_option linter.all false
set_option autoImplicit false
set_option maxRecDepth 100000
set_option maxHeartbeats 4000000
namespace PD
open PySem PySem.Spec PyProof.Rows L2
open Vc
section
variable {μ : Mu} {Q : QD} {Xd : XD → Mu → Prop}
theorem gForL_flat {i : Nat} {tb : TGD} {KD : KGD} (I : PD.Env → Prop) (f : D → List D) : ∀ (xs : List D) (ρ : PD.Env) (ds : List D), I ρ → (∀ x ∈ xs, ∀ ρ, I ρ → ∀ (K : KGD) (ds' : List D), (∀ ρ', I ρ' → K ρ' ds') → tb K (ρ.set i (some x)) (f x ++ ds')) → (∀ ρ', I ρ' → KD ρ' ds) → gForL i tb KD xs ρ (xs.flatMap f ++ ds)
  | [], ρ, ds, h0, hs, hk => hk ρ h0
  | x :: xs, ρ, ds, h0, hs, hk => by
    show tb (fun ρ' ds' => gForL i tb KD xs ρ' ds') (ρ.set i (some x)) _
    rw [List.flatMap_cons, List.append_assoc]
    exact hs x List.mem_cons_self ρ h0 _ _ fun ρ' h => gForL_flat I f xs ρ' ds h (fun y hy => hs y (List.mem_cons_of_mem _ hy)) hk
theorem vec_lt : ∀ (m b : Nat) {l : List Nat}, l ∈ vecs m b → ∀ z ∈ l, z < 2 * b
  | 0, b, l, h => by
    rw [List.mem_singleton.mp (show l ∈ [[]] from h)]
    intro z hz
    cases hz
  | m + 1, b, l, h => by
    obtain ⟨f, hf, h2⟩ := List.mem_flatMap.mp (show l ∈ (List.range (fl b)).flatMap _ from h)
    obtain ⟨r, hr, rfl⟩ := List.mem_map.mp h2
    intro z hz
    have := fl_le b
    have := List.mem_range.mp hf
    rcases List.mem_cons.mp hz with rfl | hz
    · omega
    · have := vec_lt m _ hr z hz
      omega
theorem ints_nI (l : List Nat) : intsOf (nI l) = some (l.map fun i => ((i : Nat) : Int)) := by
  unfold nI
  have e : l.map (fun i => D.int ((i : Nat) : Int)) = (l.map fun i => ((i : Nat) : Int)).map D.int := by rw [List.map_map]; rfl
  rw [e, intsOf_map]
theorem sum_nI : ∀ (l : List Nat), (l.map fun i => ((i : Nat) : Int)).sum = ((l.sum : Nat) : Int)
  | [] => rfl
  | a :: l => by
    rw [List.map_cons, List.sum_cons, List.sum_cons, sum_nI l]
    omega
theorem sum_ok {t : Bool} {l : List Nat} (hq : Q (.int (l.sum : Nat)) μ) : cSumS [sqD t l] μ Q := by
  have e : (seqOf (sqD t l) μ).bind intsOf = some (l.map fun i => ((i : Nat) : Int)) := by
    cases t <;> exact ints_nI l
  show (match (seqOf (sqD t l) μ).bind intsOf with | some ns => Q (.int ns.sum) μ | none => False)
  rw [e]
  show Q (.int (l.map fun i => ((i : Nat) : Int)).sum) μ
  rw [sum_nI]
  exact hq
theorem len_ok {t : Bool} {l : List Nat} (hq : Q (.int (l.length : Nat)) μ) : cLen [sqD t l] μ Q := by
  cases t
  · show Q (.int ((nI l).length : Nat)) μ
    rw [nI_len']; exact hq
  · show Q (.int ((nI l).length : Nat)) μ
    rw [nI_len']; exact hq
theorem rangeL_nI (n : Nat) : rangeL 0 n = nI (List.range n) := by
  unfold rangeL nI
  refine List.map_congr_left fun i _ => ?_
  rw [Int.zero_add]
theorem nI_mem {l : List Nat} {x : D} (h : x ∈ nI l) : ∃ a ∈ l, x = .int ((a : Nat) : Int) := by
  obtain ⟨a, ha, rfl⟩ := List.mem_map.mp h
  exact ⟨a, ha, rfl⟩
/-- the tuple's list as a function of the datum -/
def ptG (r l : List Nat) (d : D) : List D := match d with
  | .tup xs => [vD (pt r l (xs.map fun x => match x with | .int i => i.toNat | _ => 0))]
  | _ => []
theorem ptG_eq (r l z : List Nat) : ptG r l (vD z) = [vD (pt r l z)] := by
  show [vD (pt r l ((nI z).map _))] = _
  unfold nI
  rw [List.map_map]
  have e : z.map ((fun x => match x with | D.int i => i.toNat | _ => 0) ∘ fun i => D.int ((i : Nat) : Int)) = z := by
    conv => rhs; rw [← List.map_id z]
    exact List.map_congr_left fun a _ => rfl
  rw [e]
theorem ptG_all (r l : List Nat) (vs : List (List Nat)) : (vsD vs).flatMap (ptG r l) = vsD (vs.map (pt r l ·)) := by
  unfold vsD
  rw [fm_map, List.map_map]
  induction vs with
  | nil => rfl
  | cons v vs ih => rw [List.flatMap_cons, ih, ptG_eq]; rfl
def ptH (l : List Nat) (b : Nat) (d : D) : List D := match d with
  | .int a => vsD ((vecs l.length b).map (pt (rAt l a.toNat) l ·))
  | _ => []
theorem ptH_all (l : List Nat) (b n : Nat) : (nI (List.range n)).flatMap (ptH l b) = vsD (ptsA l b n) := by
  unfold nI ptsA vsD
  rw [fm_map, map_fm]
  rfl
theorem pow62 {s : Nat} (h : s ≤ 60) : (-(2 ^ 62) : Int) ≤ ((2 ^ s : Nat) : Int) ∧ ((2 ^ s : Nat) : Int) < 2 ^ 62 := by
  have h2 : 2 ^ s ≤ 1152921504606846976 := Nat.pow_le_pow_right (by decide) h
  generalize 2 ^ s = k at h2
  constructor
  · omega
  · omega
theorem points_ok {t : Bool} {l : List Nat} {b : Nat} (hl : l.length ≤ 3) (hb : ∀ d ∈ l, d ≤ 20) (hs : l.sum ≤ 60) (h64 : b ≤ 64) : F_points [sqD t l, .int (b : Nat)] (vsD (pts l b)) := by
  rw [F_points_eq]
  unfold gfnD T_points
  refine ⟨[some (sqD t l), some (.int (b : Nat)), some (.lst (vsD (vecs l.length b))), none, none, none], fun μ => ?_, ?_⟩
  · have e : (nI l).length = l.length := nI_len' l
    cases t
    all_goals
      (conv => whnf)
      refine ⟨rfl, ?_⟩
      rw [e]
      exact vector_list_ok hl h64 ⟨rfl, rfl⟩
  · refine ⟨nI (List.range (2 ^ l.sum)), fun μ => ?_, ?_⟩
    · have key : ∀ {R : Cks → List D → Mu → Prop}, R [] (nI (List.range (2 ^ l.sum))) μ → (CShl 1 ((l.sum : Nat) : Int) ∧ ((-(2 ^ 62) ≤ (1 * 2 ^ (((l.sum : Nat) : Int).toNat) : Int) ∧ (1 * 2 ^ (((l.sum : Nat) : Int).toNat) : Int) < 2 ^ 62) ∧ R [] (rangeL 0 (1 * 2 ^ (((l.sum : Nat) : Int).toNat) : Int).toNat) μ)) := fun {R} h => by
        refine ⟨cshlN _ (by omega), ?_⟩
        rw [pw_cast, Int.toNat_natCast, rangeL_nI]
        exact ⟨pow62 hs, h⟩
      have e : (seqOf (sqD t l) μ).bind intsOf = some (l.map fun i => ((i : Nat) : Int)) := by cases t <;> exact ints_nI l
      cases t
      all_goals
        (conv => whnf)
        rw [e]
        (conv => whnf)
        rw [sum_nI]
        exact key (R := fun o xs1 μ1 => o = [] ∧ xs1 = nI (List.range (2 ^ l.sum)) ∧ μ1 = μ) ⟨rfl, rfl, rfl⟩
    · have := gForL_flat (i := 3) (KD := fun _ zs => zs = []) (tb := gSeqD (gPl (sAsg (eCall 2 F_residue_at [] (aCons (eVar 0) (aCons (eVar 3) aNil))) (gN 4)))
        (gFr (iSeq (eVar 2)) 5 (gYi (eCall 3 F_point_at [] (aCons (eVar 4) (aCons (eVar 0) (aCons (eVar 5) aNil))))))) (fun ρ => ∃ x3 x4 x5, ρ = [some (sqD t l), some (.int (b : Nat)), some (.lst (vsD (vecs l.length b))), x3, x4, x5]) (ptH l b) (nI (List.range (2 ^ l.sum))) [some (sqD t l), some (.int (b : Nat)), some (.lst (vsD (vecs l.length b))), none, none, none] [] ⟨_, _, _, rfl⟩ ?_ (fun _ _ => rfl)
      · rw [List.append_nil, ptH_all, ptsA_all] at this
        exact this
      · rintro x hx ρ ⟨x3, x4, x5, rfl⟩ K ds' hK
        obtain ⟨a, ha, rfl⟩ := nI_mem hx
        refine ⟨[some (sqD t l), some (.int (b : Nat)), some (.lst (vsD (vecs l.length b))), some (.int (a : Nat)), some (.tup (nI (rAt l a))), x5], fun μ => ?_, ?_⟩
        · refine ⟨rfl, residue_at_ok hl (fun d hd => Nat.le_trans (hb d hd) (by decide)) ?_⟩
          exact ⟨rfl, rfl⟩
        · refine ⟨vsD (vecs l.length b), fun μ => ⟨rfl, rfl, rfl⟩, ?_⟩
          show gForL 5 _ K (vsD (vecs l.length b)) _ (vsD ((vecs l.length b).map (pt (rAt l a) l ·)) ++ ds')
          rw [← ptG_all]
          refine gForL_flat (fun ρ => ∃ x5, ρ = [some (sqD t l), some (.int (b : Nat)), some (.lst (vsD (vecs l.length b))), some (.int (a : Nat)), some (.tup (nI (rAt l a))), x5]) (ptG (rAt l a) l) (vsD (vecs l.length b)) _ ds' ⟨_, rfl⟩ ?_ ?_
          · rintro y hy ρ ⟨x5, rfl⟩ K' ds2 hK'
            obtain ⟨z, hz, rfl⟩ := vs_mem hy
            rw [ptG_eq]
            refine ⟨vD (pt (rAt l a) l z), ds2, rfl, fun μ => ?_, hK' _ ⟨_, rfl⟩⟩
            refine ⟨rfl, point_at_ok hl (fun d hd => Nat.le_trans (hb d hd) (by decide)) (fun c hc => ?_) ⟨rfl, rfl⟩⟩
            have := vec_lt _ _ hz c hc
            omega
          · rintro ρ' ⟨x5, rfl⟩
            exact hK _ ⟨_, _, _, rfl⟩
end
end PD
set_option Elab.async false
set_option linter.all false
set_option autoImplicit false
set_option maxRecDepth 100000
set_option maxHeartbeats 4000000
namespace PD
open PySem PySem.Spec PyProof.Rows L2
open Vc
section
variable {μ : Mu} {Q : QD} {Xd : XD → Mu → Prop}
theorem vectors_ok {m b : Nat} (hm : m ≤ 3) (hb : b ≤ 64) : F_vectors [.int (m : Nat), .int (b : Nat)] (vsD (vecs m b)) := by
  rw [F_vectors_eq]
  unfold gfnD T_vectors
  refine ⟨vsD (vecs m b), [], (List.append_nil _).symm, fun μ => ?_, rfl⟩
  exact ⟨rfl, vector_list_ok hm hb ⟨rfl, rfl⟩⟩
theorem mul_small {a : Int} {n : Nat} (h : n ≤ 2097152) : IntMulOk a (n : Int) := IntMulOk.of_right (Nat.le_trans (PyProof.Rows.intBits_le (k := 22) (by show (n : Int).natAbs < 4194304; omega)) (by decide))
theorem count_points_ok {t : Bool} {l : List Nat} {b : Nat} (hl : l.length ≤ 3) (hs : l.sum ≤ 1000) (hb : b ≤ 64) (hq : Q (.int ((2 ^ l.sum * (vecs l.length b).length : Nat) : Int)) μ) : F_count_points [sqD t l, .int (b : Nat)] μ Q Xd := by
  have hq' : Q (.int ((2 ^ l.sum * (vecs l.length b).length : Nat) : Int)) (μ.inter μ) := by rw [Mu.inter_self]; exact hq
  have e : (seqOf (sqD t l) μ).bind intsOf = some (l.map fun i => ((i : Nat) : Int)) := by cases t <;> exact ints_nI l
  have e2 : (nI l).length = l.length := nI_len' l
  have e3 : (1 * 2 ^ (((l.sum : Nat) : Int).toNat) : Int) * (((vecs l.length b).length : Nat) : Int) = ((2 ^ l.sum * (vecs l.length b).length : Nat) : Int) := by
    rw [pw_cast]; norm_cast
  rw [F_count_points_eq]; unfold fnD T_count_points
  cases t
  all_goals
    (conv => whnf)
    rw [e]
    (conv => whnf)
    rw [sum_nI]
    refine ⟨cshlN _ (by omega), ?_⟩
    (conv => whnf)
    refine ⟨rfl, ?_⟩
    rw [e2]
    refine count_vectors_ok hl hb ?_
    (conv => whnf)
    refine ⟨mul_small (vsz hl hb), ?_⟩
    show Q (.int ((1 * 2 ^ (((l.sum : Nat) : Int).toNat) : Int) * (((vecs l.length b).length : Nat) : Int))) (μ.inter μ)
    rw [e3]
    exact hq'
def rpart (d : Nat) (ds : List Nat) (i : Nat) : List (List Nat) := (List.range i).flatMap fun f => (rs ds).map (f :: ·)
theorem rpart_s (d : Nat) (ds : List Nat) (i : Nat) : rpart d ds (i + 1) = rpart d ds i ++ (rs ds).map (i :: ·) := fmap_snoc _ i
theorem rpart_all (d : Nat) (ds : List Nat) : rpart d ds (2 ^ d) = rs (d :: ds) := rfl
theorem rpart_len (d : Nat) (ds : List Nat) (i : Nat) : (rpart d ds i).length = i * 2 ^ ds.sum := by
  unfold rpart
  rw [fm_len (2 ^ ds.sum) _ _ (fun x _ => by rw [List.length_map, rs_len]), List.length_range]
theorem cutD_1 {x : D} {xs : List D} : cutD (x :: xs) (some 1) none = xs := by
  unfold cutD HT.sIx
  simp
theorem rs_in {ds r : List Nat} (h : r ∈ rs ds) : r.length = ds.length := (rs_mem ds h).1
theorem law_residues_r : ∀ (k : Nat) (l : List Nat), l.length ≤ k → l.length ≤ 3 → l.sum ≤ 3 → ∀ {μ : Mu} {Q : QD} {Xd : XD → Mu → Prop}, Q (.lst (vsD (rs l))) μ → FR_law_residues (k + 1) [.lst (nI l)] μ Q Xd := by
  intro k
  induction k with
  | zero =>
    intro l hk _ _ μ Q Xd hq
    obtain rfl : l = [] := List.length_eq_zero_iff.mp (by omega)
    have hq' : Q (.lst (vsD (rs []))) (μ.inter μ) := by rw [Mu.inter_self]; exact hq
    rw [FR_law_residues_s]
    unfold fnD T_law_residues
    (conv => whnf)
    refine dIf_t (by decide) ?_
    (conv => whnf)
    refine ⟨szl (Nat.zero_le _), ?_⟩
    (conv => whnf)
    exact ⟨szl (by decide), hq'⟩
  | succ k ih =>
    intro l hk h3 hs μ Q Xd hq
    have hq' : Q (.lst (vsD (rs l))) (μ.inter μ) := by rw [Mu.inter_self]; exact hq
    rw [FR_law_residues_s]
    unfold fnD T_law_residues
    cases l with
    | nil =>
      (conv => whnf)
      refine dIf_t (by decide) ?_
      (conv => whnf)
      refine ⟨szl (Nat.zero_le _), ?_⟩
      (conv => whnf)
      exact ⟨szl (by decide), hq'⟩
    | cons d ds =>
      rw [List.length_cons] at hk h3
      rw [List.sum_cons] at hs
      (conv => whnf)
      refine dIf_f (decide_eq_false (fun z => by
        have z2 : ((nI (d :: ds)).length : Int) = 0 := z
        rw [nI_len', List.length_cons] at z2
        omega)) ?_
      (conv => whnf)
      refine ⟨szl (Nat.zero_le _), ?_⟩
      intro p hp
      (conv => whnf)
      refine ⟨rfl, ?_⟩
      rw [show cutD (nI (d :: ds)) (some 1) none = nI ds from cutD_1]
      refine ih ds (by omega) (by omega) (by omega) ?_
      (conv => whnf)
      refine ⟨fun ρ' μ' => ∃ x3 x4, ρ' = [some (.lst (nI (d :: ds))), some (.ptr p), some (.lst (vsD (rs ds))), x3, x4] ∧ μ' = μ.set p (.lst (vsD (rs (d :: ds)))), ?_, ?_⟩
      · (conv => whnf)
        rw [show atI (nI (d :: ds)) 0 = some (.int (d : Nat)) from atI_nat (j := 0) rfl]
        refine ⟨cshlN d (by omega), ?_⟩
        (conv => whnf)
        rw [pw_cast, Int.toNat_natCast, rangeL_nI]
        refine ⟨pow62 (by omega), ?_⟩
        refine forL_inv (fun i ρ' μ' => ∃ x3 x4, ρ' = [some (.lst (nI (d :: ds))), some (.ptr p), some (.lst (vsD (rs ds))), x3, x4] ∧ μ' = μ.set p (.lst (vsD (rpart d ds i)))) ⟨_, _, rfl, rfl⟩ (fun _ _ _ _ => ck_nil) ?_ ?_
        · rintro i x ρ' μ' hx ⟨x3, x4, rfl, rfl⟩ N hN
          obtain ⟨hi, rfl⟩ := nI_get hx
          (conv => whnf)
          refine ⟨ty_at Mu.set_same, ?_⟩
          (conv => whnf)
          have hz := rpart_len d ds (i + 1)
          have h8 : 2 ^ d * 2 ^ ds.sum ≤ 2 ^ 3 := by rw [← Nat.pow_add]; exact Nat.pow_le_pow_right (by decide) hs
          have h9 : (i + 1) * 2 ^ ds.sum ≤ 2 ^ d * 2 ^ ds.sum := Nat.mul_le_mul_right _ hi
          rw [rpart_s, List.length_append, List.length_map] at hz
          refine lcL_map (consD i) ck_nil _ _ ?_ ?_ ?_
          · intro x hx R B hR
            obtain ⟨l, hl, rfl⟩ := vs_mem hx
            refine dIf_t rfl ?_
            (conv => whnf)
            refine ⟨szl (Nat.succ_le_succ (Nat.zero_le _)), ?_⟩
            (conv => whnf)
            have := rs_in hl
            refine ⟨szl ?_, hR⟩
            show [D.int (i : Nat)].length + (nI l).length ≤ _
            rw [nI_len', List.length_singleton]
            omega
          · rw [vsD_len]
            exact szl (by show 0 + _ ≤ _; omega)
          · (conv => whnf)
            rw [List.nil_append, vsD_cons, Mu.set_same]
            refine And.intro ?_ ?_
            · rw [vsD_len, vsD_len, List.length_map]
              exact szl (by omega)
            rw [Mu.set_set, ← vsD_app, ← rpart_s]
            exact hN _ _ ⟨_, _, rfl, rfl⟩
        · rintro ρ' μ' ⟨x3, x4, rfl, rfl⟩
          rw [nI_len]
          exact ⟨_, _, rfl, rfl⟩
      · rintro ρ' μ' ⟨x3, x4, rfl, rfl⟩
        (conv => whnf)
        exact frz_set hp hq'
theorem law_residues_ok {l : List Nat} (h3 : l.length ≤ 3) (hs : l.sum ≤ 3) (hq : Q (.lst (vsD (rs l))) μ) : F_law_residues [.lst (nI l)] μ Q Xd := law_residues_r 3 l h3 h3 hs hq
theorem sum_le_mem : ∀ {l : List Nat} {d : Nat}, d ∈ l → d ≤ l.sum
  | a :: l, d, h => by
    rw [List.sum_cons]
    rcases List.mem_cons.mp h with rfl | h
    · omega
    · have := sum_le_mem h
      omega
theorem pm_cast (r z d : Nat) : ((r : Int) + (z : Int) * (1 * 2 ^ ((d : Int).toNat))) = ((r + z * 2 ^ d : Nat) : Int) := by
  rw [pw_cast]; norm_cast
theorem take_succ_fm {α β : Type} (l : List α) (g : α → List β) (i : Nat) (x : α) (h : l[i]? = some x) : (l.take (i + 1)).flatMap g = (l.take i).flatMap g ++ g x := by
  rw [List.take_succ, h, List.flatMap_append]
  show _ ++ ([x].flatMap g) = _
  rw [List.flatMap_cons, List.flatMap_nil, List.append_nil]
theorem vsD_get {ls : List (List Nat)} {i : Nat} {x : D} (h : (vsD ls)[i]? = some x) : ∃ l, ls[i]? = some l ∧ x = vD l := by
  unfold vsD at h
  rw [List.getElem?_map] at h
  cases e : ls[i]? with
  | none => rw [e] at h; cases h
  | some l => rw [e] at h; exact ⟨l, rfl, (Option.some.inj h).symm⟩
def ptE (d : D) : D := match d with
  | .tup [.int r, .int z, .int d] => .int (r + z * (1 * 2 ^ d.toNat))
  | d => d
theorem zipE_map : ∀ (r z l : List Nat), (zip3L (nI r) (nI z) (nI l)).map ptE = nI (pt r l z)
  | [], _, _ => by cases ‹List Nat› <;> rfl
  | _ :: _, [], [] => rfl
  | _ :: _, [], _ :: _ => rfl
  | _ :: _, _ :: _, [] => rfl
  | r :: rs, z :: zs, d :: ds => by
    show ptE (.tup [.int (r : Nat), .int (z : Nat), .int (d : Nat)]) :: (zip3L (nI rs) (nI zs) (nI ds)).map ptE = .int ((r + z * 2 ^ d : Nat) : Int) :: nI (pt rs ds zs)
    rw [zipE_map rs zs ds]
    congr 1
    show D.int ((r : Int) + (z : Int) * (1 * 2 ^ ((d : Int).toNat))) = _
    rw [pm_cast]
theorem law_points_ok {l : List Nat} {b : Nat} (h3 : l.length ≤ 3) (hs : l.sum ≤ 3) (hb : b ≤ 64) (hn : (pts l b).length ≤ 1000000) (hq : Q (.lst (vsD (pts l b))) μ) : F_law_points [.lst (nI l), .int (b : Nat)] μ Q Xd := by
  have hq' : Q (.lst (vsD (pts l b))) (μ.inter μ) := by rw [Mu.inter_self]; exact hq
  have hlb : ∀ d ∈ l, d ≤ 3 := fun d hd => Nat.le_trans (sum_le_mem hd) hs
  rw [F_law_points_eq]; unfold fnD T_law_points
  (conv => whnf)
  refine ⟨szl (Nat.zero_le _), ?_⟩
  intro p hp
  (conv => whnf)
  refine ⟨rfl, ?_⟩
  rw [nI_len']
  refine law_vectors_ok h3 hb ?_
  (conv => whnf)
  refine ⟨fun ρ' μ' => ∃ x4 x5 x6 x7 x8, ρ' = [some (.lst (nI l)), some (.int (b : Nat)), some (.ptr p), some (.lst (vsD (vecs l.length b))), x4, x5, x6, x7, x8] ∧ μ' = μ.set p (.lst (vsD (pts l b))), ?_, ?_⟩
  · (conv => whnf)
    refine ⟨rfl, law_residues_ok h3 hs ?_⟩
    (conv => whnf)
    refine forL_inv (fun i ρ' μ' => ∃ x4 x5 x6 x7 x8, ρ' = [some (.lst (nI l)), some (.int (b : Nat)), some (.ptr p), some (.lst (vsD (vecs l.length b))), x4, x5, x6, x7, x8] ∧ μ' = μ.set p (.lst (vsD (((rs l).take i).flatMap fun r => (vecs l.length b).map (pt r l ·))))) ⟨_, _, _, _, _, rfl, rfl⟩ (fun _ _ _ _ => ck_nil) ?_ ?_
    · rintro i x ρ' μ' hx ⟨x4, x5, x6, x7, x8, rfl, rfl⟩ N hN
      obtain ⟨r, hr, rfl⟩ := vsD_get hx
      have hrl := rs_in (List.mem_of_getElem? hr)
      generalize hbase : ((rs l).take i).flatMap (fun r => (vecs l.length b).map (pt r l ·)) = base
      have hnext : ((rs l).take (i + 1)).flatMap (fun r => (vecs l.length b).map (pt r l ·)) = base ++ (vecs l.length b).map (pt r l ·) := by
        rw [take_succ_fm _ _ _ _ hr, hbase]
      have hle : (base ++ (vecs l.length b).map (pt r l ·)).length ≤ (pts l b).length := by
        rw [← hnext]
        unfold pts
        conv => rhs; rw [← List.take_append_drop (i + 1) (rs l), List.flatMap_append, List.length_append]
        exact Nat.le_add_right _ _
      rw [List.length_append, List.length_map] at hle
      (conv => whnf)
      refine forL_inv (fun j ρ' μ' => ∃ x5 x6 x7 x8, ρ' = [some (.lst (nI l)), some (.int (b : Nat)), some (.ptr p), some (.lst (vsD (vecs l.length b))), some (vD r), x5, x6, x7, x8] ∧ μ' = μ.set p (.lst (vsD (base ++ ((vecs l.length b).take j).map (pt r l ·))))) ⟨x5, x6, x7, x8, rfl, by rw [List.take_zero, List.map_nil, List.append_nil]⟩ (fun _ _ _ _ => ck_nil) ?_ ?_
      · rintro j y ρ' μ' hy ⟨x5, x6, x7, x8, rfl, rfl⟩ N' hN'
        obtain ⟨z, hz, rfl⟩ := vsD_get hy
        have hzm := List.mem_of_getElem? hz
        have hzl := vec_len _ _ hzm
        have hjl : j < (vecs l.length b).length := (List.getElem?_eq_some_iff.mp hz).1
        (conv => whnf)
        refine ⟨ty_at Mu.set_same, ?_⟩
        (conv => whnf)
        refine lcL_map ptE ck_nil _ _ ?_ (szl (by have := zip3_len r z l; rw [hzl] at this; show 0 + _ ≤ _; omega)) ?_
        · intro x hx R B hR
          obtain ⟨a, c, d, rfl, h1, h2⟩ := zip3_mem hx
          have := hlb d h2
          have := vec_lt _ _ hzm c h1
          refine dIf_t rfl ?_
          (conv => whnf)
          refine ⟨cshlN d (by omega), ?_⟩
          (conv => whnf)
          refine ⟨IntMulOk.of_left (Nat.le_trans (PyProof.Rows.intBits_le (k := 22) (by show (c : Int).natAbs < 4194304; omega)) (by decide)), ?_⟩
          (conv => whnf)
          exact hR
        · rw [List.nil_append, zipE_map]
          (conv => whnf)
          rw [Mu.set_same]
          refine And.intro ?_ ?_
          · rw [vsD_len, List.length_append, List.length_map, List.length_take]
            exact szlt (by omega)
          · rw [Mu.set_set]
            refine hN' _ _ ⟨_, _, _, _, rfl, ?_⟩
            rw [List.take_succ, hz, List.map_append, ← List.append_assoc]
            exact congrArg (fun q => μ.set p (.lst q)) (vsD_app _ [pt r l z]).symm
      · rintro ρ' μ' ⟨x5, x6, x7, x8, rfl, rfl⟩
        refine hN _ _ ⟨_, _, _, _, _, rfl, ?_⟩
        rw [vsD_len, List.take_length, hnext]
    · rintro ρ' μ' ⟨x4, x5, x6, x7, x8, rfl, rfl⟩
      rw [vsD_len, List.take_length]
      exact ⟨_, _, _, _, _, rfl, rfl⟩
  · rintro ρ' μ' ⟨x4, x5, x6, x7, x8, rfl, rfl⟩
    (conv => whnf)
    exact frz_set hp hq'
end
end PD
set_option Elab.async false
set_option linter.all false
set_option autoImplicit false
set_option maxRecDepth 100000
set_option maxHeartbeats 4000000
namespace PD
open PySem PySem.Spec PyProof.Rows L2
open SX (S S_len)
/-! ### texts of numbers -/
def iL : Int → List Nat
  | .ofNat m => TL.numL m
  | .negSucc m => 45 :: TL.numL (m + 1)
theorem int_str (n : Int) : (toString n : Str) = S (iL n) := by
  cases n with
  | ofNat m => exact SX.num_S m
  | negSucc m =>
    refine TL.ext_tl ?_
    show (Str.ofString (toString (Int.negSucc m))).cps.toList = 45 :: TL.numL (m + 1)
    rw [PyProof.Rows.signs_ofString]
    have e : toString (Int.negSucc m) = "-" ++ Nat.repr (m + 1) := rfl
    rw [e, String.toList_append, List.map_append]
    show [45] ++ (Nat.repr (m + 1)).toList.map Char.toNat = _
    rw [Nat.toList_repr]
    rfl
theorem iL_free {n : Int} {s : Nat} (h : s < 45 ∨ 57 < s) : s ∉ iL n := by
  cases n with
  | ofNat m => exact TL.numL_free (by omega)
  | negSucc m =>
    intro hm
    rcases List.mem_cons.mp hm with e | e
    · omega
    · exact TL.numL_free (by omega) e
theorem pow20 : 18446744073709551616 < 10 ^ 20 := by decide
theorem iL_len {n : Int} (h1 : -18446744073709551616 < n) (h2 : n < 18446744073709551616) : (iL n).length ≤ 21 := by
  cases n with
  | ofNat m =>
    have : (TL.numL m).length ≤ 20 := TL.numL_len (by decide) (by
      have e : (Int.ofNat m) = (m : Int) := rfl
      rw [e] at h2
      have := pow20
      omega)
    show (TL.numL m).length ≤ 21
    omega
  | negSucc m =>
    have : (TL.numL (m + 1)).length ≤ 20 := TL.numL_len (by decide) (by
      have := pow20
      omega)
    show (TL.numL (m + 1)).length + 1 ≤ 21
    omega
theorem numL_len2 {n : Nat} (h : 10 ≤ n) : 2 ≤ (TL.numL n).length := by
  rw [TL.numL_step h, List.length_append, List.length_singleton]
  have := List.length_pos_iff.mpr (TL.numL_ne (n / 10))
  omega
theorem numL_head : ∀ n : Nat, 0 < n → ∃ c r, TL.numL n = c :: r ∧ c ≠ 48 := by
  intro n
  induction n using Nat.strongRecOn with
  | _ n ih =>
    intro hn
    by_cases h : n < 10
    · exact ⟨48 + n, [], TL.numL_lt h, by omega⟩
    · obtain ⟨c, r, e, hc⟩ := ih (n / 10) (by omega) (by omega)
      exact ⟨c, r ++ [48 + n % 10], by rw [TL.numL_step (by omega), e] <;> rfl, hc⟩
theorem log_ok {n : Int} (h1 : -18446744073709551616 < n) (h2 : n < 18446744073709551616) : n.natAbs.log2 < 1920 := by
  have h : n.natAbs < 2 ^ 64 := by
    have e : (2 : Nat) ^ 64 = 18446744073709551616 := by decide
    rw [e]
    omega
  by_cases hz : n.natAbs = 0
  · rw [hz]
    decide
  · have := (Nat.log2_lt hz).mpr h
    omega
theorem joinL_len (y : List Nat) : ∀ ps : List (List Nat), (TL.joinL y ps).length ≤ (ps.map (·.length)).sum + ps.length * y.length
  | [] => by simp [TL.joinL]
  | [p] => by simp [TL.joinL]
  | p :: q :: r => by
    have ih := joinL_len y (q :: r)
    show (p ++ (y ++ TL.joinL y (q :: r))).length ≤ _
    rw [List.length_append, List.length_append]
    simp only [List.map_cons, List.sum_cons, List.length_cons] at ih ⊢
    have e : (r.length + 1 + 1) * y.length = (r.length + 1) * y.length + y.length := by rw [Nat.succ_mul]
    omega
theorem join_len (y : Str) (ps : List Str) : (Txt.join y ps).length ≤ (ps.map (·.length)).sum + ps.length * y.length := by
  have h := joinL_len (TL.tl y) (ps.map TL.tl)
  rw [← TL.tl_join, List.length_map, List.map_map] at h
  have e : (fun x : List Nat => x.length) ∘ TL.tl = fun x : Str => x.length := by
    funext x
    exact (TL.len_tl x).symm
  rw [show ((fun x : List Nat => x.length) ∘ TL.tl) = fun x : Str => x.length from e, ← TL.len_tl, ← TL.len_tl] at h
  rw [TL.join_eq]
  exact h
theorem sum_le {α : Type} {f : α → Nat} {k : Nat} : ∀ {l : List α}, (∀ x ∈ l, f x ≤ k) → (l.map f).sum ≤ l.length * k
  | [], _ => by simp
  | x :: l, h => by
    have h1 := h x List.mem_cons_self
    have h2 := sum_le (l := l) fun y hy => h y (List.mem_cons_of_mem _ hy)
    rw [List.map_cons, List.sum_cons, List.length_cons, Nat.succ_mul]
    omega
end PD
set_option Elab.async false
set_option linter.all false
set_option autoImplicit false
set_option maxRecDepth 100000
set_option maxHeartbeats 4000000
namespace PD
open PySem PySem.Spec PyProof.Rows L2
/-! ### data whose repr is a short text -/
structure ShX (L k : Nat) (x : PyData) : Prop where
  sh : x.showable = true
  dp : x.depth ≤ k
  ln : x.shown.length ≤ L
def Sh (μ : Mu) (L k : Nat) (d : D) : Prop := ∃ x, pyD μ d = some x ∧ ShX L k x
variable {μ : Mu} {L L' k k' : Nat} {d : D} {ds : List D} {Q : QD}
theorem Sh.le (h : Sh μ L k d) (h1 : L ≤ L' := by decide) (h2 : k ≤ k' := by decide) : Sh μ L' k' d := by
  obtain ⟨x, e, s, p, n⟩ := h
  exact ⟨x, e, s, Nat.le_trans p h2, Nat.le_trans n h1⟩
theorem sh_non : Sh μ 4 0 .non := ⟨.none, by simp only [pyD], by simp only [PyData.showable], by simp only [PyData.depth]; decide, by simp only [PyData.shown]; decide +kernel⟩
theorem sh_bl {b : Bool} : Sh μ 5 0 (.bl b) := ⟨.bool b, by simp only [pyD], by simp only [PyData.showable], by simp only [PyData.depth]; decide, by simp only [PyData.shown]; cases b <;> decide +kernel⟩
theorem sh_str {z : Str} {m : Nat} (h : ∀ c ∈ z.cps.toList, c < 16 ^ 8) (hl : z.length ≤ m) : Sh μ (10 * m + 2) 0 (.str z) := ⟨.str z, by simp only [pyD], by simp only [PyData.showable], by simp only [PyData.depth]; decide, by
  simp only [PyData.shown]
  have := PySem.StrLaws.reprText_len z h
  omega⟩
theorem sh_int {n : Int} (h : Num n) : Sh μ 21 0 (.int n) := ⟨.int n, by simp only [pyD], by simp only [PyData.showable]; exact decide_eq_true (log_ok h.1 h.2), by simp only [PyData.depth]; decide, by
  simp only [PyData.shown]
  rw [int_str, SX.S_len]
  exact iL_len h.1 h.2⟩
theorem sh_istr {n : Int} (h : Num n) : Sh μ 212 0 (.str (toString n : Str)) := sh_str (m := 21) (fun c hc => by
  rw [int_str] at hc
  refine Classical.byContradiction fun z => ?_
  exact iL_free (n := n) (s := c) (.inr (by omega)) hc) (by
  rw [int_str, SX.S_len]
  exact iL_len h.1 h.2)
theorem showAll_mk : ∀ {xs : List PyData}, (∀ x ∈ xs, ShX L k x) → PyData.showableAll xs = true ∧ PyData.depthAll xs ≤ k ∧ ((PyData.shownAll xs).map (·.length)).sum ≤ xs.length * L ∧ (PyData.shownAll xs).length = xs.length
  | [], _ => ⟨by simp only [PyData.showableAll], by simp only [PyData.depthAll]; omega, by simp only [PyData.shownAll, List.map_nil, List.sum_nil]; omega, by simp [PyData.shownAll]⟩
  | x :: xs, h => by
    obtain ⟨s, p, n⟩ := h x List.mem_cons_self
    obtain ⟨s', p', n', l'⟩ := showAll_mk fun y hy => h y (List.mem_cons_of_mem _ hy)
    refine ⟨by simp only [PyData.showableAll, s, s', Bool.and_true], ?_, ?_, ?_⟩
    · simp only [PyData.depthAll]
      omega
    · simp only [PyData.shownAll, List.map_cons, List.sum_cons, List.length_cons]
      rw [Nat.succ_mul]
      omega
    · simp only [PyData.shownAll, List.length_cons, l']
theorem shs_pyDs : ∀ {ds : List D}, (∀ d ∈ ds, Sh μ L k d) → ∃ xs, pyDs μ ds = some xs ∧ xs.length = ds.length ∧ ∀ x ∈ xs, ShX L k x
  | [], _ => ⟨[], by simp only [pyDs], rfl, fun x hx => by cases hx⟩
  | d :: ds, h => by
    obtain ⟨x, e, sx⟩ := h d List.mem_cons_self
    obtain ⟨xs, es, ls, ss⟩ := shs_pyDs fun y hy => h y (List.mem_cons_of_mem _ hy)
    refine ⟨x :: xs, by simp only [pyDs, e, es], by rw [List.length_cons, ls, List.length_cons], fun y hy => ?_⟩
    rcases List.mem_cons.mp hy with rfl | hy
    · exact sx
    · exact ss y hy
theorem sh_tup {n : Nat} (h : ∀ d ∈ ds, Sh μ L k d) (hn : ds.length ≤ n) : Sh μ (n * (L + 2) + 3) (k + 1) (.tup ds) := by
  obtain ⟨xs, e, l, s⟩ := shs_pyDs h
  obtain ⟨a, b, c, m⟩ := showAll_mk s
  refine ⟨.tuple xs, by simp only [pyD, e]; rfl, by simp only [PyData.showable, a], by simp only [PyData.depth]; omega, ?_⟩
  simp only [PyData.shown]
  refine Nat.le_trans (tupleText_len_le _) ?_
  rw [m]
  have h1 : xs.length * L ≤ n * L := Nat.mul_le_mul_right _ (by omega)
  rw [Nat.mul_add]
  omega
theorem sh_lst {n : Nat} (h : ∀ d ∈ ds, Sh μ L k d) (hn : ds.length ≤ n) : Sh μ (n * (L + 2) + 3) (k + 1) (.lst ds) := by
  obtain ⟨xs, e, l, s⟩ := shs_pyDs h
  obtain ⟨a, b, c, m⟩ := showAll_mk s
  refine ⟨.list xs, by simp only [pyD, e]; rfl, by simp only [PyData.showable, a], by simp only [PyData.depth]; omega, ?_⟩
  simp only [PyData.shown]
  refine Nat.le_trans (listText_len_le _) ?_
  rw [m]
  have h1 : xs.length * L ≤ n * L := Nat.mul_le_mul_right _ (by omega)
  rw [Nat.mul_add]
  omega
theorem Sh.repr (h : Sh μ L k d) (hL : L ≤ sizeLine) (hk : k ≤ 60) (hq : ∀ x, pyD μ d = some x → Q (.str x.shown) μ) : cRepr [d] μ Q := by
  obtain ⟨x, e, s, p, n⟩ := h
  show (match pyD μ d with | some x => _ | none => False)
  rw [e]
  exact ⟨s, by omega, by omega, hq x e⟩
end PD
set_option Elab.async false
set_option linter.all false
set_option autoImplicit false
set_option maxRecDepth 100000
set_option maxHeartbeats 4000000
namespace PD
open PySem PySem.Spec PyProof.Rows L2
open Vc
section
variable {μ : Mu} {Q : QD} {Xd : XD → Mu → Prop}
theorem take_ok {E : EndsD} {p : Addr} {a0 a1 : Option D} {m : Nat} (hp : μ p = none) (hm : m ≤ 1000) : ∀ (xs zs : List D) (x4 : Option D), zs.length ≤ m →
    ((zs ++ xs).length ≤ m → ∀ x4, E.nx [a0, a1, some (.int (m : Nat)), some (.ptr p), x4] (μ.set p (.lst (zs ++ xs)))) → E.rt (.lst ((zs ++ xs).take m)) μ →
    takeL E 3 2 4 xs [a0, a1, some (.int (m : Nat)), some (.ptr p), x4] (μ.set p (.lst zs))
  | [], zs, x4, hz, hnx, hrt => by
    rw [List.append_nil] at hnx
    exact hnx hz x4
  | x :: xs, zs, x4, hz, hnx, hrt => by
    refine ⟨p, m, zs, rfl, rfl, Mu.set_same, fun e => ?_, fun ne => ⟨szlt (by omega), ?_⟩⟩
    · have e' : zs.length = m := by omega
      refine frz_set hp ?_
      rw [List.take_append_of_le_length (by omega), List.take_of_length_le (by omega)] at hrt
      exact hrt
    · rw [Mu.set_set]
      have e2 : zs ++ x :: xs = (zs ++ [x]) ++ xs := by rw [List.append_assoc]; rfl
      rw [e2] at hnx hrt
      exact take_ok hp hm xs (zs ++ [x]) (some x) (by rw [List.length_append, List.length_singleton]; omega) hnx hrt
theorem first_vectors_ok {m b k : Nat} (hm : m ≤ 3) (hb : b ≤ 64) (hk : k ≤ 1000) (hq : Q (.lst ((vsD (vecs m b)).take k)) μ) : F_law_first_vectors [.int (m : Nat), .int (b : Nat), .int (k : Nat)] μ Q Xd := by
  have hq' : Q (.lst ((vsD (vecs m b)).take k)) (μ.inter μ) := by rw [Mu.inter_self]; exact hq
  rw [F_law_first_vectors_eq]; unfold fnD T_law_first_vectors
  (conv => whnf)
  refine ⟨szl (Nat.zero_le _), ?_⟩
  intro p hp
  (conv => whnf)
  refine ⟨fun ρ' μ' => ∃ x4, ρ' = [some (.int (m : Nat)), some (.int (b : Nat)), some (.int (k : Nat)), some (.ptr p), x4] ∧ μ' = μ.set p (.lst ((vsD (vecs m b)).take k)), ?_, ?_⟩
  · (conv => whnf)
    refine ⟨rfl, vsD (vecs m b), vectors_ok hm hb, ?_⟩
    refine take_ok hp hk (vsD (vecs m b)) [] none (Nat.zero_le _) (fun h x4 => ⟨x4, rfl, ?_⟩) hq'
    rw [List.nil_append] at h ⊢
    rw [List.take_of_length_le h]
  · rintro ρ' μ' ⟨x4, rfl, rfl⟩
    (conv => whnf)
    exact frz_set hp hq'
theorem first_points_ok {l : List Nat} {b k : Nat} (hl : l.length ≤ 3) (hb : ∀ d ∈ l, d ≤ 20) (hs : l.sum ≤ 60) (h64 : b ≤ 64) (hk : k ≤ 1000) (hq : Q (.lst (vsD ((pts l b).take k))) μ) : F_law_first_points [.lst (nI l), .int (b : Nat), .int (k : Nat)] μ Q Xd := by
  have e0 : vsD ((pts l b).take k) = (vsD (pts l b)).take k := List.map_take
  rw [e0] at hq
  have hq' : Q (.lst ((vsD (pts l b)).take k)) (μ.inter μ) := by rw [Mu.inter_self]; exact hq
  rw [F_law_first_points_eq]; unfold fnD T_law_first_points
  (conv => whnf)
  refine ⟨szl (Nat.zero_le _), ?_⟩
  intro p hp
  (conv => whnf)
  refine ⟨fun ρ' μ' => ∃ x4, ρ' = [some (.lst (nI l)), some (.int (b : Nat)), some (.int (k : Nat)), some (.ptr p), x4] ∧ μ' = μ.set p (.lst ((vsD (pts l b)).take k)), ?_, ?_⟩
  · (conv => whnf)
    refine ⟨rfl, vsD (pts l b), points_ok (t := false) hl hb hs h64, ?_⟩
    refine take_ok hp hk (vsD (pts l b)) [] none (Nat.zero_le _) (fun h x4 => ⟨x4, rfl, ?_⟩) hq'
    rw [List.nil_append] at h ⊢
    rw [List.take_of_length_le h]
  · rintro ρ' μ' ⟨x4, rfl, rfl⟩
    (conv => whnf)
    exact frz_set hp hq'
def c_pw : TDT := tVal (eBin oEq (eBin oMod (eVar 0) (eC (.int 2))) (eC (.int 0)))
def b_pw : TDS := sPar 0 1 (aCons (eBin oDiv (eVar 0) (eC (.int 2))) (aCons (eBin (oAdd false) (eVar 1) (eC (.int 1))) aNil))
theorem power_loop {E : EndsD} {Xe : XE} : ∀ (n t : Nat), n ≠ 0 → (∀ x0, E.nx [x0, some (.int ((t + pw n : Nat) : Int))] μ) → ∃ k, sWhileN c_pw b_pw k E Xe [some (.int (n : Nat)), some (.int (t : Nat))] μ := by
  intro n
  induction n using Nat.strongRecOn with
  | ind n ih =>
    intro t h0 h
    by_cases h2 : n % 2 = 0
    · rw [pw_even h0 h2] at h
      obtain ⟨k, hk⟩ := ih (n / 2) (by omega) (t + 1) (by omega) (fun x0 => by rw [show t + 1 + pw (n / 2) = t + (pw (n / 2) + 1) by omega]; exact h x0)
      refine ⟨k + 1, ?_⟩
      (conv => whnf)
      refine ⟨show (0 : Int) < 2 by decide, ?_⟩
      refine dIf_t (decide_eq_true (show (n : Int) % 2 = 0 by omega)) ?_
      (conv => whnf)
      refine ⟨⟨by decide, by decide⟩, ?_⟩
      have e1 : ((n : Int) / 2) = ((n / 2 : Nat) : Int) := by omega
      show sWhileN c_pw b_pw k E Xe [some (.int ((n : Int) / 2)), some (.int ((t : Int) + 1))] μ
      rw [e1]
      exact hk
    · rw [pw_odd (by omega), Nat.add_zero] at h
      refine ⟨1, ?_⟩
      (conv => whnf)
      refine ⟨show (0 : Int) < 2 by decide, ?_⟩
      exact dIf_f (decide_eq_false (show ¬ (n : Int) % 2 = 0 by omega)) (h _)
theorem law_power_ok {n : Nat} (h0 : n ≠ 0) (hq : Q (.int (pw n : Nat)) μ) : F_law_power [.int (n : Nat)] μ Q Xd := by
  have hq' : Q (.int (pw n : Nat)) (μ.inter μ) := by rw [Mu.inter_self]; exact hq
  rw [F_law_power_eq]; unfold fnD T_law_power
  (conv => whnf)
  refine ⟨fun ρ' μ' => (∃ x0, ρ' = [x0, some (.int (pw n : Nat))]) ∧ μ' = μ, ?_, ?_⟩
  · refine power_loop (E := ⟨fun ρ' μ' => (∃ x0, ρ' = [x0, some (.int (pw n : Nat))]) ∧ μ' = μ, _, _, _⟩) n 0 h0 fun x0 => ⟨⟨x0, by rw [Nat.zero_add]⟩, rfl⟩
  · rintro ρ' μ' ⟨⟨x0, rfl⟩, rfl⟩
    (conv => whnf)
    exact hq'
/-! ### the vectors as plain data -/
def pV (l : List Nat) : PyData := .tuple ((l.map fun i => ((i : Nat) : Int)).map PyData.int)
theorem nI_ints (l : List Nat) : nI l = (l.map fun i => ((i : Nat) : Int)).map D.int := by
  unfold nI
  rw [List.map_map]
  rfl
theorem vD_py (l : List Nat) : pyD μ (vD l) = some (pV l) := by
  unfold vD pV
  rw [nI_ints]
  simp only [pyD, pyDs_ints]
  rfl
theorem vsD_pys : ∀ (ls : List (List Nat)), pyDs μ (vsD ls) = some (ls.map pV)
  | [] => rfl
  | l :: ls => by
    have h := vsD_pys ls
    show pyDs μ (vD l :: vsD ls) = _
    simp only [pyDs, vD_py, h, List.map_cons]
theorem vsD_py (ls : List (List Nat)) : pyD μ (.lst (vsD ls)) = some (.list (ls.map pV)) := by
  simp only [pyD, vsD_pys]
  rfl
theorem pV_lay (l : List Nat) : PyData.canLay0 (pV l) = true := by
  simp only [pV, PyData.canLay0, ints_lay]
theorem pV_depth (l : List Nat) : PyData.depth (pV l) = 1 := by
  simp only [pV, PyData.depth, ints_depth]
theorem pVs_lay : ∀ ls : List (List Nat), PyData.canLayAll0 (ls.map pV) = true
  | [] => rfl
  | r :: rs => by simp [PyData.canLayAll0, pV_lay r, pVs_lay rs]
theorem pVs_depth : ∀ ls : List (List Nat), PyData.depthAll (ls.map pV) ≤ 1
  | [] => by simp [PyData.depthAll]
  | r :: rs => by
    have h := pVs_depth rs
    simp only [List.map_cons, PyData.depthAll, pV_depth]
    omega
theorem vsD_shaped (ls : List (List Nat)) : SeqAt.shaped (.list (ls.map pV)) = true := (shaped_seq (pVs_lay ls) (Nat.le_trans (pVs_depth ls) (by decide))).2
theorem vs_eq {g : Bool → Bool} {ls : List (List Nat)} (h : Q (.bl (g true)) μ) : oEqG g (.lst (vsD ls)) (.lst (vsD ls)) μ Q := eq_lst (vsD_py ls) (vsD_shaped ls) h
theorem vs_refl (ls : List (List Nat)) : PyData.eqv (.list (ls.map pV)) (.list (ls.map pV)) = true := SeqAt.eqv_refl _ (SeqAt.canLay_of_shaped (vsD_shaped ls))
theorem vs_show {ls : List (List Nat)} (hn : ls.length ≤ 20000) (h3 : ∀ l ∈ ls, l.length ≤ 3) (hb : ∀ l ∈ ls, ∀ x ∈ l, x ≤ 100000) : (PyData.list (ls.map pV)).showable = true ∧ (PyData.list (ls.map pV)).depth ≤ 60 ∧ (PyData.list (ls.map pV)).shown.length ≤ sizeLine := by
  have sh : Sh (fun _ => none) (20000 * (3 * (21 + 2) + 3 + 2) + 3) 2 (.lst (vsD ls)) := sh_lst (L := 3 * (21 + 2) + 3) (k := 1) (n := 20000) (fun d hd => by
    obtain ⟨l, hl, rfl⟩ := vs_mem hd
    refine sh_tup (L := 21) (k := 0) (n := 3) (fun x hx => ?_) (by rw [nI_len']; exact h3 l hl)
    obtain ⟨a, ha, rfl⟩ := nI_mem hx
    have := hb l hl a ha
    exact sh_int ⟨by omega, by omega⟩) (by rw [vsD_len]; exact hn)
  obtain ⟨x, e, s, p, n⟩ := sh
  rw [vsD_py] at e
  cases e
  exact ⟨s, by omega, szl (Nat.le_trans n (by decide))⟩
end
end PD
set_option Elab.async false
set_option linter.all false
set_option autoImplicit false
set_option maxRecDepth 100000
set_option maxHeartbeats 4000000
namespace PD
open PySem PySem.Spec PyProof.Rows L2
open Vc
section
variable {μ : Mu} {Q : QD} {Xd : XD → Mu → Prop}
theorem shape_of {r : Int} (h0 : 0 ≤ r) (h1 : r < 3) : ∃ m B : Nat, 1 + r = ((m : Nat) : Int) ∧ atI [D.int 64, D.int 16, D.int 6] (((m : Nat) : Int) - 1) = some (.int (B : Nat)) ∧ ((m = 1 ∧ B = 64) ∨ (m = 2 ∧ B = 16) ∨ (m = 3 ∧ B = 6)) := by
  have hr : r = 0 ∨ r = 1 ∨ r = 2 := by omega
  rcases hr with rfl | rfl | rfl
  · exact ⟨1, 64, rfl, rfl, .inl ⟨rfl, rfl⟩⟩
  · exact ⟨2, 16, rfl, rfl, .inr (.inl ⟨rfl, rfl⟩)⟩
  · exact ⟨3, 6, rfl, rfl, .inr (.inr ⟨rfl, rfl⟩)⟩
theorem vecs_few {m B b : Nat} (h : (m = 1 ∧ B = 64) ∨ (m = 2 ∧ B = 16) ∨ (m = 3 ∧ B = 6)) (hb : b ≤ B) : (vecs m b).length ≤ 1728 := by
  refine Nat.le_trans (vecs_len m b) ?_
  rcases h with ⟨rfl, rfl⟩ | ⟨rfl, rfl⟩ | ⟨rfl, rfl⟩
  · exact Nat.le_trans (Nat.pow_le_pow_left (show 2 * b ≤ 128 by omega) 1) (by decide)
  · exact Nat.le_trans (Nat.pow_le_pow_left (show 2 * b ≤ 32 by omega) 2) (by decide)
  · exact Nat.le_trans (Nat.pow_le_pow_left (show 2 * b ≤ 12 by omega) 3) (by decide)
theorem cutD_take {xs : List D} {k : Nat} : cutD xs none (some ((k : Nat) : Int)) = xs.take k := by
  unfold cutD
  rw [HT.sIx_none, HT.sIx_nat, Nat.sub_zero, List.drop_zero]
  by_cases h : k ≤ xs.length
  · rw [Nat.min_eq_left h]
  · rw [Nat.min_eq_right (by omega), List.take_length, List.take_of_length_le (by omega)]
theorem draws_ok {n : Nat} {B : Nat} {en : D → Mu → (PD.Env → Prop) → Prop} {te : TDE} {R : List D → Mu → Prop} (hn : n ≤ 1000)
    (ht : ∀ x (k : D → Mu → Prop) (B' : Prop), (∀ r : Int, 0 ≤ r → r < (B : Nat) → k (.int r) μ) → en x μ fun ρ' => dIf true (te xF ρ' μ k) B')
    (h : ∀ ls : List Nat, ls.length = n → (∀ a ∈ ls, a < B) → R (nI ls) μ) : lcL [] en tYe te R (rangeL 0 n) [] μ := by
  have hln : (rangeL 0 n).length = n := by simp [rangeL]
  refine lcL_inv (fun i acc μ' => μ' = μ ∧ ∃ ls : List Nat, acc = nI ls ∧ ls.length = i ∧ ∀ a ∈ ls, a < B) ⟨rfl, [], rfl, rfl, fun a ha => by cases ha⟩ (fun _ _ _ _ => ck_nil) ?_ (szl (by omega)) ?_ ?_
  · rintro i x acc μ' hx ⟨rfl, ls, rfl, hl, hb⟩ A B' hA hB
    have hi : i < n := by rw [← hln]; exact (List.getElem?_eq_some_iff.mp hx).1
    refine ht x _ _ fun r r0 r1 => ?_
    obtain ⟨r, rfl⟩ := Int.eq_ofNat_of_zero_le r0
    refine hA _ _ (by rw [nI_len', hl]; exact szlt (by omega)) ⟨rfl, ls ++ [r], ?_, by rw [List.length_append, hl]; rfl, fun a ha => ?_⟩
    · unfold nI
      rw [List.map_append]
      rfl
    · rcases List.mem_append.mp ha with ha | ha
      · exact hb a ha
      · rw [List.mem_singleton.mp ha]
        omega
  · rintro i acc μ' ⟨rfl, ls, rfl, hl, hb⟩
    rw [nI_len', hl]
    exact Nat.le_refl _
  · rintro acc μ' ⟨rfl, ls, rfl, hl, hb⟩
    rw [hln] at hl
    exact h ls hl hb
theorem sum_few : ∀ {l : List Nat} {k : Nat}, (∀ a ∈ l, a ≤ k) → l.sum ≤ l.length * k
  | [], k, _ => Nat.zero_le _
  | a :: l, k, h => by
    have h1 := h a List.mem_cons_self
    have h2 := sum_few fun b hb => h b (List.mem_cons_of_mem _ hb)
    rw [List.sum_cons, List.length_cons, Nat.succ_mul]
    omega
theorem pt_few : ∀ (r l z : List Nat), (∀ a ∈ r, a < 8) → (∀ d ∈ l, d ≤ 1) → (∀ c ∈ z, c < 128) → ∀ x ∈ pt r l z, x ≤ 100000
  | [], _, _, _, _, _, x, hx => by cases hx
  | _ :: _, [], _, _, _, _, x, hx => by cases hx
  | _ :: _, _ :: _, [], _, _, _, x, hx => by cases hx
  | r :: rs, d :: ds, z :: zs, h1, h2, h3, x, hx => by
    rcases List.mem_cons.mp (show x ∈ (r + z * 2 ^ d) :: pt rs ds zs from hx) with rfl | hx
    · have a1 := h1 r List.mem_cons_self
      have a2 := h2 d List.mem_cons_self
      have a3 := h3 z List.mem_cons_self
      have a4 : 2 ^ d ≤ 2 ^ 1 := Nat.pow_le_pow_right (by decide) a2
      have a5 : z * 2 ^ d ≤ 128 * 2 := Nat.mul_le_mul (by omega) a4
      omega
    · exact pt_few rs ds zs (fun a ha => h1 a (List.mem_cons_of_mem _ ha)) (fun a ha => h2 a (List.mem_cons_of_mem _ ha)) (fun a ha => h3 a (List.mem_cons_of_mem _ ha)) x hx
theorem pts_mem {l : List Nat} {b : Nat} {p : List Nat} (h : p ∈ pts l b) : ∃ r z, r ∈ rs l ∧ z ∈ vecs l.length b ∧ p = pt r l z := by
  obtain ⟨r, hr, h2⟩ := List.mem_flatMap.mp h
  obtain ⟨z, hz, rfl⟩ := List.mem_map.mp h2
  exact ⟨r, z, hr, hz, rfl⟩
theorem repl0 (n : Nat) : (List.replicate (((n : Nat) : Int).toNat) [D.int 0]).flatten = nI (List.replicate n 0) := by
  rw [Int.toNat_natCast]
  induction n with
  | zero => rfl
  | succ n ih =>
    rw [List.replicate_succ, List.flatten_cons, ih, List.replicate_succ]
    rfl
theorem law_ok17 (ns : List Int) (hn : ns.length ≤ 63) : F_law [.scr ns] (fun _ => none) (fun d _ => d = .bl true) fun _ _ => False := by
  rw [F_law_eq]; unfold fnD T_law
  (conv => whnf)
  refine ⟨rfl, dealt hn (by decide) (by decide) fun d l hd hl hdl => ?_⟩
  have hm : (Mu.set (fun _ => none) d (.deal l)) d = some (.deal l) := Mu.set_same
  generalize (Mu.set (fun _ => none) d (.deal l)) = μ at hm
  (conv => whnf)
  refine ⟨rfl, drawn hm (by decide) (by decide) fun t t0 t1 => ?_⟩
  obtain ⟨t, rfl⟩ := Int.eq_ofNat_of_zero_le t0
  (conv => whnf)
  refine ⟨fun ρ' μ' => (∃ x4, ρ' = [some (.scr ns), some (.ptr d), some (.int (tw t : Nat)), some (.int (t : Nat)), x4, none, none, none, none, none, none, none, none, none]) ∧ μ' = μ, ?_, ?_⟩
  · (conv => whnf)
    refine ⟨⟨by decide, by decide, by omega, by omega⟩, ?_⟩
    have hln : (rangeL 1 ((t : Int) + 1 - 1).toNat).length = t := by unfold rangeL; rw [List.length_map, List.length_range]; omega
    refine forL_inv (fun i ρ' μ' => (∃ x4, ρ' = [some (.scr ns), some (.ptr d), some (.int (tw i : Nat)), some (.int (t : Nat)), x4, none, none, none, none, none, none, none, none, none]) ∧ μ' = μ) ⟨⟨_, by rw [tw_0]; rfl⟩, rfl⟩ (fun _ _ _ _ => ck_nil) ?_ ?_
    · rintro i x ρ' μ' hx ⟨⟨x4, rfl⟩, rfl⟩ N hN
      obtain ⟨hi, rfl⟩ := rangeL_at hx
      (conv => whnf)
      refine ⟨rfl, ?_⟩
      have e : (1 + (i : Int)) = ((i + 1 : Nat) : Int) := by omega
      show F_law_power [.int (1 + (i : Int))] _ _ _
      rw [e]
      refine law_power_ok (by omega) ?_
      (conv => whnf)
      have e2 : ((tw i : Nat) : Int) + ((pw (i + 1) : Nat) : Int) = ((tw (i + 1) : Nat) : Int) := by rw [tw_next]; omega
      rw [e2]
      exact hN _ _ ⟨⟨_, rfl⟩, rfl⟩
    · rintro ρ' μ' ⟨⟨x4, rfl⟩, rfl⟩
      rw [hln]
      exact ⟨⟨_, rfl⟩, rfl⟩
  · rintro ρ' μ' ⟨⟨x4, rfl⟩, hμ⟩
    obtain hμ := hμ.symm
    subst hμ
    (conv => whnf)
    refine ⟨rfl, twos_ok ?_⟩
    (conv => whnf)
    refine dIf_f (by simp) ?_
    (conv => whnf)
    refine ⟨rfl, ?_⟩
    show F_twos [.int ((0 : Nat) : Int)] _ _ _
    refine twos_ok ?_
    rw [tw_0]
    (conv => whnf)
    refine dIf_f (by decide) ?_
    (conv => whnf)
    refine ⟨cshl1 (by decide) (by decide), ?_⟩
    (conv => whnf)
    refine ⟨rfl, ?_⟩
    have e70 : (1 * 2 ^ ((70 : Int).toNat) : Int) = ((2 ^ 70 : Nat) : Int) := by decide +kernel
    show F_twos [.int (1 * 2 ^ ((70 : Int).toNat) : Int)] _ _ _
    rw [e70]
    refine twos_ok ?_
    rw [tw_pow]
    (conv => whnf)
    refine ⟨cshl1 (by decide) (by decide), ?_⟩
    (conv => whnf)
    refine dIf_f (by decide +kernel) ?_
    (conv => whnf)
    refine ⟨fun ρ' μ' => ∃ r, ρ' = some (.scr ns) :: some (.ptr d) :: r ∧ μ' = μ, ?_, ?_⟩
    · (conv => whnf)
      refine ⟨by decide, ?_⟩
      show forL _ _ _ _ [] (rangeL 0 3) _ _
      refine forL_inv (fun i ρ' μ' => ∃ x4 x5 x6 x7 x8 x9 x10 x11 x12 x13, ρ' = [some (.scr ns), some (.ptr d), some (.int (tw t : Nat)), some (.int (t : Nat)), x4, x5, x6, x7, x8, x9, x10, x11, x12, x13] ∧ μ' = μ) ⟨_, _, _, _, _, _, _, _, _, _, rfl, rfl⟩ (fun _ _ _ _ => ck_nil) ?_ ?_
      · rintro i x ρ' μ' hx ⟨x4, x5, x6, x7, x8, x9, x10, x11, x12, x13, rfl, hμ⟩ N hN
        obtain hμ := hμ.symm
        subst hμ
        obtain ⟨hi, rfl⟩ := rangeL_at hx
        (conv => whnf)
        refine ⟨rfl, drawn hm (by decide) (by decide) fun r r0 r1 => ?_⟩
        obtain ⟨m, B, em, eB, hsh⟩ := shape_of r0 r1
        have hm3 : m ≤ 3 := by omega
        have hm1 : 1 ≤ m := by omega
        (conv => whnf)
        rw [em]
        refine ⟨szl (Nat.le_of_ble_eq_true rfl), ?_⟩
        (conv => whnf)
        rw [eB]
        (conv => whnf)
        refine ⟨rfl, drawn (many := (B : Nat)) hm (by omega) (by omega) fun q q0 q1 => ?_⟩
        obtain ⟨q, rfl⟩ := Int.eq_ofNat_of_zero_le q0
        (conv => whnf)
        obtain ⟨b, eb⟩ : ∃ b : Nat, 1 + (q : Int) = ((b : Nat) : Int) := ⟨1 + q, by omega⟩
        rw [eb]
        have hb1 : 1 ≤ b := by omega
        have hbB : b ≤ B := by omega
        have hb64 : b ≤ 64 := by omega
        have few := vecs_few hsh hbB
        refine ⟨rfl, law_vectors_ok hm3 hb64 ?_⟩
        (conv => whnf)
        refine ⟨rfl, first_vectors_ok (k := 2) hm3 hb64 (by decide) ?_⟩
        (conv => whnf)
        have hvS := vs_show (ls := vecs m b) (by omega) (fun l hl => by rw [vec_len _ _ hl]; exact hm3) (fun l hl x hx => by have := vec_lt _ _ hl x hx; omega)
        have hln : (vecs m b).length ≤ 20000 := by omega
        rw [show ∀ xs : List D, cutD xs none (some 2) = xs.take 2 from fun _ => cutD_take (k := 2), show List.take 2 (vsD (vecs m b)) = vsD ((vecs m b).take 2) from List.map_take.symm, vsD_py]
        refine ⟨vsD_shaped _, vsD_shaped _, ?_⟩
        rw [vs_refl]
        (conv => whnf)
        refine dIf_f rfl ?_
        (conv => whnf)
        refine ⟨rfl, vsD (vecs m b), vectors_ok hm3 hb64, by rw [vsD_len]; exact szl (by omega), ?_⟩
        (conv => whnf)
        rw [vsD_py]
        refine ⟨hvS.1, hvS.2.1, hvS.2.2, ?_⟩
        (conv => whnf)
        rw [vsD_py]
        refine ⟨hvS.1, hvS.2.1, hvS.2.2, ?_⟩
        (conv => whnf)
        refine dIf_f (by simp) ?_
        (conv => whnf)
        refine ⟨rfl, count_vectors_ok hm3 hb64 ?_⟩
        (conv => whnf)
        rw [vsD_len]
        refine dIf_f (by simp) ?_
        (conv => whnf)
        refine ⟨⟨by omega, by omega⟩, ?_⟩
        refine draws_ok (n := m) (B := 2) (by omega) (fun x k B' hk => ?_) fun l hl h2 => ?_
        · refine dIf_t rfl ?_
          (conv => whnf)
          exact ⟨rfl, drawn hm (by decide) (by decide) fun r r0 r1 => hk r r0 r1⟩
        have hl3 : l.length ≤ 3 := by omega
        have hs3 : l.sum ≤ 3 := by have := sum_few (l := l) (k := 1) (fun a ha => by have := h2 a ha; omega); omega
        have hpl : (pts l b).length ≤ 20000 := by
          rw [pts_len, hl]
          have : 2 ^ l.sum ≤ 2 ^ 3 := Nat.pow_le_pow_right (by decide) hs3
          exact Nat.le_trans (Nat.mul_le_mul this few) (by decide)
        have hpS := vs_show (ls := pts l b) hpl (fun p hp => by
          obtain ⟨r, z, _, _, rfl⟩ := pts_mem hp
          exact Nat.le_trans (pt_len r l z) hl3) (fun p hp x hx => by
          obtain ⟨r, z, hr, hz, rfl⟩ := pts_mem hp
          have h8 : 2 ^ l.sum ≤ 2 ^ 3 := Nat.pow_le_pow_right (by decide) hs3
          exact pt_few r l z (fun a ha => Nat.lt_of_lt_of_le ((rs_mem l hr).2 a ha) h8) (fun a ha => by have := h2 a ha; omega) (fun c hc => by have := vec_lt _ _ hz c hc; omega) x hx)
        (conv => whnf)
        refine ⟨rfl, law_points_ok hl3 hs3 hb64 (by omega) ?_⟩
        (conv => whnf)
        refine ⟨szl (Nat.le_of_ble_eq_true rfl), ?_⟩
        (conv => whnf)
        refine ⟨show (0 : Int) < 2 by decide, ?_⟩
        obtain ⟨tt, ht⟩ : ∃ tt : Bool, atI [D.lst (nI l), D.tup (nI l)] ((0 + (i : Int)) % 2) = some (sqD tt l) := by
          have h3i : i < 3 := hi
          have hi3 : i = 0 ∨ i = 1 ∨ i = 2 := by omega
          rcases hi3 with rfl | rfl | rfl
          · exact ⟨false, rfl⟩
          · exact ⟨true, rfl⟩
          · exact ⟨false, rfl⟩
        (conv => whnf)
        rw [ht]
        (conv => whnf)
        have hl20 : ∀ a ∈ l, a ≤ 20 := fun a ha => by have := h2 a ha; omega
        refine ⟨rfl, vsD (pts l b), points_ok hl3 hl20 (by omega) hb64, by rw [vsD_len]; exact szl (by omega), ?_⟩
        (conv => whnf)
        rw [vsD_py]
        refine ⟨hpS.1, hpS.2.1, hpS.2.2, ?_⟩
        (conv => whnf)
        rw [vsD_py]
        refine ⟨hpS.1, hpS.2.1, hpS.2.2, ?_⟩
        (conv => whnf)
        refine dIf_f (by simp) ?_
        (conv => whnf)
        refine ⟨rfl, ?_⟩
        show F_count_points [sqD true l, .int (b : Nat)] _ _ _
        refine count_points_ok hl3 (by omega) hb64 ?_
        (conv => whnf)
        rw [vsD_len, pts_len]
        refine dIf_f (by simp) ?_
        (conv => whnf)
        refine ⟨rfl, first_points_ok (k := 3) hl3 hl20 (by omega) hb64 (by decide) ?_⟩
        (conv => whnf)
        rw [show ∀ xs : List D, cutD xs none (some 3) = xs.take 3 from fun _ => cutD_take (k := 3), show List.take 3 (vsD (pts l b)) = vsD ((pts l b).take 3) from List.map_take.symm, vsD_py]
        refine ⟨vsD_shaped _, vsD_shaped _, ?_⟩
        rw [vs_refl]
        (conv => whnf)
        refine dIf_f rfl ?_
        (conv => whnf)
        refine ⟨⟨by omega, by omega⟩, ?_⟩
        refine draws_ok (n := m) (B := 17) (by omega) (fun x k B' hk => ?_) fun g hg g2 => ?_
        · refine dIf_t rfl ?_
          (conv => whnf)
          exact ⟨rfl, drawn hm (by decide) (by decide) fun r r0 r1 => hk r r0 r1⟩
        have hg3 : g.length ≤ 3 := by omega
        have hg20 : ∀ a ∈ g, a ≤ 20 := fun a ha => by have := g2 a ha; omega
        have hgs : g.sum ≤ 60 := by have := sum_few (l := g) (k := 20) hg20; omega
        have eg : (seqOf (.lst (nI g)) μ).bind intsOf = some (g.map fun i => ((i : Nat) : Int)) := ints_nI g
        (conv => whnf)
        refine ⟨rfl, ?_⟩
        show F_count_points [sqD false g, .int (b : Nat)] _ _ _
        refine count_points_ok hg3 (by omega) hb64 ?_
        (conv => whnf)
        rw [vsD_len, eg]
        (conv => whnf)
        rw [sum_nI]
        refine ⟨cshlN _ (by omega), ?_⟩
        (conv => whnf)
        refine ⟨IntMulOk.of_left (Nat.le_trans (PyProof.Rows.intBits_le (k := 22) (by show (((vecs m b).length : Nat) : Int).natAbs < 4194304; omega)) (by decide)), ?_⟩
        (conv => whnf)
        refine dIf_f (by
          rw [pw_cast, hg, show (((vecs m b).length : Nat) : Int) * ((2 ^ g.sum : Nat) : Int) = ((2 ^ g.sum * (vecs m b).length : Nat) : Int) by rw [Int.natCast_mul, Int.mul_comm]]
          simp) ?_
        (conv => whnf)
        refine ⟨rfl, first_points_ok (k := 2) hg3 hg20 hgs hb64 (by decide) ?_⟩
        obtain ⟨n, rfl⟩ : ∃ n, m = n + 1 := ⟨m - 1, by omega⟩
        obtain ⟨gs, ge, rfl⟩ : ∃ gs ge, g = gs ++ [ge] := by
          have hne : g ≠ [] := fun e => by rw [e] at hg; cases hg
          exact ⟨g.dropLast, g.getLast hne, (List.dropLast_concat_getLast hne).symm⟩
        have hgn : gs.length = n := by rw [List.length_append, List.length_singleton] at hg; omega
        rw [pts_two hgn hb1]
        (conv => whnf)
        refine ⟨szl (Nat.le_of_ble_eq_true rfl), ?_⟩
        (conv => whnf)
        refine ⟨by omega, by omega, szl (by show 1 * _ ≤ _; omega), ?_⟩
        rw [repl0]
        (conv => whnf)
        refine ⟨szl (Nat.le_of_ble_eq_true rfl), ?_⟩
        (conv => whnf)
        have en : (((n + 1 : Nat) : Int) - 1) = ((n : Nat) : Int) := by omega
        rw [en]
        refine ⟨by omega, by omega, szl (by show 1 * _ ≤ _; omega), ?_⟩
        rw [repl0]
        (conv => whnf)
        have ea : atI (nI (gs ++ [ge])) (-1) = some (.int (ge : Nat)) := by
          unfold nI
          rw [List.map_append]
          exact atI_last _ _
        rw [ea]
        have hge := hg20 ge (List.mem_append_right _ List.mem_cons_self)
        refine ⟨cshlN _ (by omega), ?_⟩
        (conv => whnf)
        refine ⟨szl (Nat.le_of_ble_eq_true rfl), ?_⟩
        (conv => whnf)
        refine ⟨szl (by rw [nI_len', List.length_replicate]; show n + 1 ≤ _; omega), ?_⟩
        (conv => whnf)
        refine ⟨szl (Nat.le_of_ble_eq_true rfl), ?_⟩
        have ef : [D.tup (nI (List.replicate (n + 1) 0)), D.tup (nI (List.replicate n 0) ++ [D.int (1 * 2 ^ (((ge : Nat) : Int).toNat))])] = vsD [List.replicate (n + 1) 0, List.replicate n 0 ++ [2 ^ ge]] := by
          rw [pw_cast]
          show _ = [vD _, vD _]
          unfold vD nI
          rw [List.map_append]
          rfl
        rw [ef]
        (conv => whnf)
        rw [vsD_py]
        refine ⟨vsD_shaped _, vsD_shaped _, ?_⟩
        rw [vs_refl]
        (conv => whnf)
        refine dIf_f rfl ?_
        (conv => whnf)
        exact hN _ _ ⟨_, _, _, _, _, _, _, _, _, _, rfl, rfl⟩
      · rintro ρ' μ' ⟨x4, x5, x6, x7, x8, x9, x10, x11, x12, x13, rfl, rfl⟩
        exact ⟨_, rfl, rfl⟩
    · rintro ρ' μ' ⟨r, rfl, rfl⟩
      (conv => whnf)
end
end PD
set_option Elab.async false
set_option linter.all false
set_option autoImplicit false
set_option maxRecDepth 100000
set_option maxHeartbeats 4000000
namespace PD
open PySem PySem.Spec PyProof.Rows L2
/-- a written value -/
def WVal (W : Wo) (u : Value) (d : D) : Prop := ∃ v, RelV v u ∧ ∀ hid H μ, Rep W hid H μ v d
inductive EntOk (W : Wo) : List DictEntry → List (Str × D) → Prop
  | nil : EntOk W [] []
  | cons {e : DictEntry} {es : List DictEntry} {k : Str} {d : D} {kvs : List (Str × D)} (hk : ∃ t, e.key = .str k t) (hv : WVal W e.val d) (h : EntOk W es kvs) : EntOk W (e :: es) ((k, d) :: kvs)
theorem ent_find {W : Wo} : ∀ {es : List DictEntry} {kvs : List (Str × D)}, EntOk W es kvs → ∀ z, (∀ d, kvs.lookup z = some d → ∃ e, es.find? (·.key.isStr z) = some e ∧ WVal W e.val d) ∧ (kvs.lookup z = none → es.find? (·.key.isStr z) = none)
  | _, _, .nil, z => ⟨fun d h => (by cases h), fun _ => rfl⟩
  | _, _, .cons (e := e) (k := k) (d := d) ⟨t, hk⟩ hv h, z => by
    have ih := ent_find h z
    by_cases q : z = k
    · subst q
      have e1 : e.key.isStr z = true := by rw [hk]; exact beq_self_eq_true z
      rw [List.lookup_cons, List.find?_cons, e1, beq_self_eq_true z]
      exact ⟨fun d' h' => by cases h'; exact ⟨e, rfl, hv⟩, fun h' => by cases h'⟩
    · have e1 : e.key.isStr z = false := by
        rw [hk]
        show (k == z) = false
        exact beq_eq_false_iff_ne.mpr (Ne.symm q)
      rw [List.lookup_cons, List.find?_cons, e1, beq_eq_false_iff_ne.mpr q]
      exact ih
theorem ent_any {W : Wo} : ∀ {es : List DictEntry} {kvs : List (Str × D)}, EntOk W es kvs → es.any (·.refKey) = false
  | _, _, .nil => rfl
  | _, _, .cons (e := e) ⟨t, hk⟩ hv h => by
    rw [List.any_cons, ent_any h]
    have : e.refKey = false := by
      obtain ⟨h1, h2, h3⟩ := e
      cases hk
      rfl
    rw [this]
    rfl
theorem kd_mk {K : PySem.W.Frag} {w : World} {W : Wo} {d : Addr} {es : Array DictEntry} {n : Nat} {kvs : List (Str × D)} (l : K.lookup d = some ⟨.type "dict", none, .dict es n, #[]⟩) (lit : PySem.W.KeysLit w.params es.toList) (low : (d == sysModules) = false) (h : EntOk W es.toList kvs) : KdOk K w W d kvs := by
  refine ⟨⟨es, n, l, lit, low⟩, fun z x hz => ?_, fun z hz => ?_⟩
  · obtain ⟨e, he, v, hv⟩ := (ent_find h z).1 x hz
    refine ⟨e.val, v, ?_, hv⟩
    unfold PySem.W.nsIn
    rw [l]
    dsimp only
    rw [he]
  · have he := (ent_find h z).2 hz
    unfold PySem.W.nsIn
    rw [l]
    dsimp only
    rw [he, ent_any h]
    rfl
theorem reps_str {W : Wo} {hid : Hid} {H : Hp} {μ : Mu} : ∀ fs : List Str, Reps W hid H μ (fs.map V.str) (fs.map D.str)
  | [] => .nil
  | f :: fs => .cons (.str f) (reps_str fs)
theorem wv_strs {W : Wo} {t : Addr} {fs : List Str} {od : Option Addr} {its : Array Value} {n : Nat} {sl : Array (Option Value)} (l : W.K.lookup t = some ⟨.type "tuple", od, .seq its n, sl⟩) (hz : its.size ≤ sizeLine) (v : Vals (fs.map V.str) its.toList) : WVal W (.ref t) (.tup (fs.map D.str)) :=
  ⟨.ref t, rfl, fun hid H μ => .tupK ⟨_, its, n, l, rfl, rfl, hz, v⟩ (reps_str fs)⟩
theorem dct_mk {K : PySem.W.Frag} {w : World} {mg : Str → Option Value} {h : Heap} {x : Str} {a : Addr} {es : Array DictEntry} {n : Nat} {kvs : List (Str × D)} (X : K.In h) (G : h.Ns mainGlobals mg) (ha : PySem.W.nsIn K mainGlobals x = some (some (.ref a))) (l : K.lookup a = some ⟨.type "dict", none, .dict es n, #[]⟩) (lit : PySem.W.KeysLit w.params es.toList) (low : (a == sysModules) = false) (ent : ∀ W : Wo, W.K = K → EntOk W es.toList kvs) :
    ∃ a es n, mg x = some (.ref a) ∧ K.lookup a = some ⟨.type "dict", none, .dict es n, #[]⟩ ∧ PySem.W.KeysLit w.params es.toList ∧ (a == sysModules) = false ∧ ∀ W : Wo, W.K = K → EntOk W es.toList kvs := ⟨a, es, n, PySem.W.mg_of X G ha, l, lit, low, ent⟩
end PD
set_option Elab.async false
set_option linter.all false
set_option autoImplicit false
set_option maxRecDepth 100000
set_option maxHeartbeats 4000000
namespace LB
open PySem PySem.Spec PyProof.Rows L2
theorem oexk_mk {K : PySem.W.Frag} {C N : Addr} {nm q : Str} {bs : List Value} {sn : List Str} {sub : List Value} {ab : Bool} {col : Option Bool} {dd : Option Addr} {k0 k1 k2 k3 k5 : Option Value} (lC : K.lookup C = some (excClassObj nm q C N bs keTail true sn sub ab col dd k0 k1 k2 k3 k5 "LookupError.__new__"))
    (sa : PySem.W.findIn K (.ref C) "__setattr__" = some (some (.builtin "object.__setattr__"))) : OexK K C := ⟨⟨_, _, _, _, _, _, _, _, _, _, _, _, _, _, lC⟩, sa⟩
end LB
set_option Elab.async false
set_option linter.all false
set_option autoImplicit false
set_option maxRecDepth 100000
set_option maxHeartbeats 4000000
namespace PD
open PySem PySem.Spec PyProof.Rows L2
/-- facts of a text about two of its classes, and about its written tuples -/
theorem kit_mk {K : PySem.W.Frag} {mg : Str → Option Value} {h : Heap} {a b : Str} {A0 B0 : Addr} {z : Bool} (X : K.In h) (G : h.Ns mainGlobals mg) (ha : PySem.W.nsIn K mainGlobals a = some (some (.ref A0))) (hb : PySem.W.nsIn K mainGlobals b = some (some (.ref B0))) (hk : PySem.W.kitOne K (.ref A0) (.ref B0) = some z) :
    ∀ A B, mg a = some (.ref A) → mg b = some (.ref B) → PySem.W.kitOne K (.ref A) (.ref B) = some z := by
  intro A B h1 h2
  have e1 := (PySem.W.mg_of X G ha).symm.trans h1
  have e2 := (PySem.W.mg_of X G hb).symm.trans h2
  cases e1
  cases e2
  exact hk
theorem reps_int {W : Wo} {hid : Hid} {H : Hp} {μ : Mu} : ∀ fs : List Int, Reps W hid H μ (fs.map V.int) (fs.map D.int)
  | [] => .nil
  | f :: fs => .cons (.int f) (reps_int fs)
theorem wv_ints {W : Wo} {t : Addr} {fs : List Int} {od : Option Addr} {its : Array Value} {n : Nat} {sl : Array (Option Value)} (l : W.K.lookup t = some ⟨.type "tuple", od, .seq its n, sl⟩) (hz : its.size ≤ sizeLine) (v : Vals (fs.map V.int) its.toList) : WVal W (.ref t) (.tup (fs.map D.int)) :=
  ⟨.ref t, rfl, fun hid H μ => .tupK ⟨_, its, n, l, rfl, rfl, hz, v⟩ (reps_int fs)⟩
theorem tup_mk {K : PySem.W.Frag} {mg : Str → Option Value} {h : Heap} {x : Str} {a : Addr} {d : D} (X : K.In h) (G : h.Ns mainGlobals mg) (ha : PySem.W.nsIn K mainGlobals x = some (some (.ref a))) (v : ∀ W : Wo, W.K = K → WVal W (.ref a) d) : ∃ a, mg x = some (.ref a) ∧ ∀ W : Wo, W.K = K → WVal W (.ref a) d := ⟨a, PySem.W.mg_of X G ha, v⟩
theorem g_tup {K : PySem.W.Frag} {W : Wo} {mg : Str → Option Value} {x : Str} {d : D} (eK : W.K = K) (h : ∃ a, mg x = some (.ref a) ∧ ∀ W : Wo, W.K = K → WVal W (.ref a) d) : GTxt W mg x d := by
  obtain ⟨a, h1, h2⟩ := h
  obtain ⟨v, h3, h4⟩ := h2 W eK
  exact ⟨_, v, h1, h3, h4⟩
theorem con_mk {K : PySem.W.Frag} {C : Addr} {f z : Str} {t : Tok} (a : PySem.W.findIn K (.ref C) f = some (some (.str z t))) (g : PySem.W.specialIn K (.str z t) "__get__" = some none) (c : PySem.W.copiedNames.contains f = false) : ∃ u, Con K C f (.str z) u := ⟨_, a, ⟨t, rfl⟩, g, c⟩
end PD
set_option Elab.async false
set_option linter.all false
set_option autoImplicit false
set_option maxRecDepth 100000
set_option maxHeartbeats 4000000
namespace PD
open PySem PySem.Spec PyProof.Rows L2
theorem topMethV_mk {K : PySem.W.Frag} {C : Addr} {m qual : Str} {st : Stmt} {pa pv : Str} {f : Addr} {oc : Value} {od an : Option Addr} {osl : Array (Option Value)} {kV doc pm cdv ct : Value}
    (h0 : ∀ (kV doc pm : Value) (an : Option Addr) (cdv ct : Value) (a : Value), bindArgs (PySem.W.fnOf m qual (defArgs st) (defBody st) (defScope st) .none kV doc pm an cdv ct) ⟨[a], []⟩ = (newTuple [] >>= fun t => pure [(pa, a), (pv, t)]))
    (h1 : ∀ (kV doc pm : Value) (an : Option Addr) (cdv ct : Value) (a r : Value) (rs : List Value), bindArgs (PySem.W.fnOf m qual (defArgs st) (defBody st) (defScope st) .none kV doc pm an cdv ct) ⟨a :: r :: rs, []⟩ = (newTuple (r :: rs) >>= fun t => pure [(pa, a), (pv, t)]))
    (a : PySem.W.findIn K (.ref C) m = some (some (.ref f))) (i : PySem.W.isFn K (.ref f) = true) (l : K.lookup f = some ⟨oc, od, .func (PySem.W.fnOf m qual (defArgs st) (defBody st) (defScope st) .none kV doc pm an cdv ct), osl⟩)
    (c : PySem.W.codeIn K cdv qual = true) (k : PySem.W.keepIn K (.ref f) = true) : TopMethV K C m qual st pa pv :=
  ⟨f, _, fun_mk (st := st) l c k, a, i, StX.bind_star1 (B := fun us => bindArgs (PySem.W.fnOf m qual (defArgs st) (defBody st) (defScope st) .none kV doc pm an cdv ct) ⟨us, []⟩) (fun a => h0 kV doc pm an cdv ct a) (fun a r rs => h1 kV doc pm an cdv ct a r rs)⟩
end PD
set_option Elab.async false
set_option linter.all false
set_option maxRecDepth 100000
set_option maxHeartbeats 4000000
namespace LB
open PySem PySem.Spec PyProof.Rows L2
open C8 (pss_cut tCut)
abbrev s_law_draw : Stmt := top 12
theorem sc_law_draw : FnScope ["_law_deal_here", "_law_many", "_law_number", "_law_one", "_law_other"] ["_law_deal_here", "_law_many"] (defScope s_law_draw) := ⟨rfl, rfl, rfl, by decide +kernel, rfl, by decide +kernel, by decide +kernel⟩
section
variable {P : Program} {w : World} {K : PySem.W.Frag} {mg : Str → Option Value} {base : Heap}
theorem ok_law_draw (F : TopFn K mg "_law_draw" s_law_draw ["_law_deal_here", "_law_many"]) (T : Txt K mg) : DefOk P w K mg base 1 "_law_draw" ["_law_deal_here", "_law_many"] spDraw := by
  refine F.ok sc_law_draw (fun vs H Q E h => ?_) (fun f cdv A outer s H vs Q E hr h => ?_)
  · obtain ⟨d, l, many, rfl, _⟩ := h
    rfl
  · obtain ⟨d, l, many, rfl, ⟨s0, n0, left0, C0⟩, m0, m1, k⟩ := h
    have m1 : many.natAbs.log2 < 9000 := Nat.lt_of_lt_of_le (PySem.Flt.log2_lt_of (k := 129) (by decide) (show many.natAbs < 680564733841876926926749214863536422912 by omega)) (by decide)
    refine ⟨_, (pss_cut (ps_while PassesOwn.never (PW.pt (pw_and (pt_cmpR op_eq (pe_dget (hu_of hr) (pv 0) pe_str (fun _ _ => rfl)) pe_int (nomark _)) (pw_and1 (pt_cmpR op_gt (pe_callB call_len_seq (by rfl) T.b_len (by decide +kernel) (pa_cons (pe_dget (hu_of hr) (pv 0) pe_str (fun _ _ => rfl)) pa_nil)) pe_int (nomark _))))) (pss_one (ps_dput (hu_of hr) (pv 0) pe_str (pe_bm0 PySem.F.plainAttrs_list PySem.F.slot_list_pop PySem.F.type_list_pop mt_pop (pe_dget (hu_of hr) (pv 0) pe_str (fun _ _ => rfl))) rfl)))
    (pss_cons (ps_set (i := 2) sc_law_draw.nd rfl (.inl rfl) (pe_dget (hu_of hr) (pv 0) pe_str (fun _ _ => rfl)))
    (pss_cons (ps_if (pt_cmpR op_gt (pv 2) pe_int (nomark _)) (pss_cons (ps_dput (hu_of hr) (pv 0) pe_str (pe_op op_fdivW (pv 2) (pv 1)) rfl)
    (pss_one (ps_ret (pe_op op_mod (pv 2) (pv 1))))) pss_nil)
    (pss_cons (ps_set (i := 3) sc_law_draw.nd rfl (.inl rfl) (pe_op op_mod (pe_op op_add (pe_op op_mul (pe_dget (hu_of hr) (pv 0) pe_str (fun _ _ => rfl)) pe_int) pe_int) pe_int))
    (pss_cons (ps_dput (hu_of hr) (pv 0) pe_str (pe_op op_mod (pe_op op_add (pe_op op_mul (pv 3) pe_int) pe_int) pe_int) rfl)
    (pss_cons (ps_set (i := 4) sc_law_draw.nd rfl (.inl rfl) (pe_op op_mod (pe_op op_mul (pe_dget (hu_of hr) (pv 0) pe_str (fun _ _ => rfl)) (pe_dget (hu_of hr) (pv 0) pe_str (fun _ _ => rfl))) pe_int))
    (pss_one (ps_ret (pe_op op_mod (pe_op op_add (pe_op op_mul (pe_op op_mod (pe_op op_mul (pv 3) (pv 3)) pe_int) pe_int) (pv 4)) (pv 1)))))))))), ?_⟩
    refine ⟨fun σ H1 => ∃ s n left, σ = [some (.ref d), some (.int many), none, none, none] ∧ DealC d l s n left H1 ∧ Keep d l H H1 ∧ (n = 0 → left = []), ?_, ?_⟩
    · refine ⟨fun m σ H1 => ∃ s n left, σ = [some (.ref d), some (.int many), none, none, none] ∧ DealC d l s n left H1 ∧ Keep d l H H1 ∧ m = left.length, ⟨_, s0, n0, left0, rfl, C0, Keep.refl, rfl⟩, ?_⟩
      rintro m σ H1 ⟨s1, n1, left1, rfl, C1, K1, rfl⟩
      refine ⟨_, rfl, d, _, rfl, C1.number, rfl, _, rfl, ?_⟩
      refine ite2 (fun hn => ?_) (fun hn => ?_)
      · refine ⟨_, rfl, d, _, rfl, C1.left, l, _, rfl, .inl (SqL.of C1.hl), _, _, rfl, rfl, _, rfl, ?_⟩
        refine ite2 (fun hpos => ?_) (fun hpos => ?_)
        · have hpos := of_decide_eq_true hpos
          rw [List.length_map] at hpos
          refine ⟨_, fun _ _ h => h, ?_⟩
          have hne : left1 ≠ [] := fun e => by rw [e] at hpos; exact absurd hpos (by decide)
          refine ⟨_, rfl, d, _, rfl, C1.left, .inl ⟨rfl, _, SqL.of C1.hl⟩, l, _, V.int (left1.getLast hne), rfl, rfl, C1.hl, ?_, ?_⟩
          · rw [List.length_map, List.getElem?_map, List.getElem?_eq_getElem (by omega), List.getLast_eq_getElem] <;> rfl
          · have C2 := C1.popped
            have el : (left1.map V.int).dropLast = left1.dropLast.map V.int := by rw [List.map_dropLast]
            rw [el]
            have hm : 0 ≤ left1.getLast hne := C1.l0 _ (List.getLast_mem hne)
            refine ⟨_, rfl, d, _, rfl, C2.putN, ?_⟩
            exact ⟨_, by rw [List.length_dropLast]; omega, _, _, _, rfl, C2.withN hm, K1.updL.updD, rfl⟩
        · have hpos := of_decide_eq_false (Bool.eq_false_iff.mpr hpos)
          rw [List.length_map] at hpos
          exact ⟨_, _, _, rfl, C1, K1, fun _ => List.length_eq_zero_iff.mp (by omega)⟩
      · exact ⟨_, _, _, rfl, C1, K1, fun e => absurd (decide_eq_true (by rw [e])) hn⟩
    · rintro σ H1 ⟨s1, n1, left1, rfl, C1, K1, hz⟩
      refine ⟨_, rfl, d, _, rfl, C1.number, ?_⟩
      refine ⟨_, rfl, _, _, rfl, rfl, _, rfl, ?_⟩
      refine ite2 (fun hn => ?_) (fun hn => ?_)
      · have hn := of_decide_eq_true hn
        refine ⟨_, rfl, _, rfl, _, _, rfl, rfl, ⟨m0, m1⟩, _, rfl, d, _, rfl, C1.putN, ?_⟩
        refine ⟨_, rfl, _, rfl, _, _, rfl, rfl, m0, ?_⟩
        exact k _ _ (Int.emod_nonneg _ (by omega)) (Int.emod_lt_of_pos _ m0) ⟨_, _, _, C1.withN (Int.ediv_nonneg C1.n0 (by omega))⟩ K1.updD
      · refine ⟨_, rfl, d, _, rfl, C1.seed, _, _, rfl, rfl, .inr ⟨by decide, by decide⟩, _, _, rfl, rfl, _, _, rfl, rfl, (by show (0 : Int) < 2147483647; decide), ?_⟩
        refine ⟨_, rfl, _, _, rfl, rfl, .inr ⟨by decide, by decide⟩, _, _, rfl, rfl, _, _, rfl, rfl, (by show (0 : Int) < 2147483399; decide), _, rfl, d, _, rfl, C1.putS, ?_⟩
        have C2 := C1.withS (m := ((s1 * 48271 + 7919) % 2147483647 * 40692 + 104729) % 2147483399) (Int.emod_nonneg _ (by decide)) (Int.lt_trans (Int.emod_lt_of_pos _ (by decide)) (by decide))
        refine ⟨_, rfl, d, _, rfl, C2.seed, _, rfl, d, _, rfl, C2.seed, _, _, rfl, rfl, .inr ⟨by omega, by omega⟩, _, _, rfl, rfl, (by show (0 : Int) < 2147483563; decide), ?_⟩
        refine ⟨_, rfl, _, rfl, _, _, rfl, rfl, .inr ⟨by omega, by omega⟩, _, _, rfl, rfl, (by show (0 : Int) < 2147483629; decide), _, _, rfl, rfl, .inr ⟨by decide, by decide⟩, _, rfl, _, _, rfl, rfl, _, rfl, _, _, rfl, rfl, m0, ?_⟩
        exact k _ _ (Int.emod_nonneg _ (by omega)) (Int.emod_lt_of_pos _ m0) ⟨_, _, _, C2⟩ K1.updD
end
end LB
set_option Elab.async false
set_option linter.all false
set_option maxRecDepth 100000
set_option maxHeartbeats 4000000
namespace RT
open PySem PySem.Spec PyProof.Rows
section
variable {prog : Program} {w : World} {A : Around} {E : Value → Shared → Prop} {s : Shared} {R : Result → Shared → Prop}
theorem init_rev {it l S : Addr} {items : Array Value} (hh : A.handled = none) (hit : s.heap.IsRevIter it l ((items.size : Int) - 1)) (hl : s.heap.IsList l items) (hne : l ≠ it) (hn : items.size ≤ sizeLine)
    (hSi : S ≠ it) (hSl : S ≠ l) (hS : s.heap.get? S = some { cls := .type "list", data := .seq #[] })
    (hR : ∀ (h' : Heap) (tk : Nat) (acc : Array Value) (c : Nat), (∀ b o, b ≠ it → b ≠ S → s.heap.get? b = some o → h'.get? b = some o) → h'.get? S = some { cls := .type "list", dict := none, data := .seq acc c, slots := #[] } →
      ItemsOf (fun i v => items[items.size - 1 - i]? = some v) acc items.size → R (.ok (.ret .none)) { s with heap := h', toks := tk }) :
    wpAny (model prog w) A.in1 (Builtin.«list.__init__» ⟨[.ref S, .ref it], []⟩)
      (fun fin s' => match fin with | .done f => R (.ok f) s' | .again c' => c'.quiet = true ∧ codeAny (model prog w) A c' R s') (fun e s' => R (.error e) s') s := by
  have W := (Walks.listRev (prog := prog) (w := w) (A := A.in1) hh it l hne items).toS
  have hSf : S ∉ [it, l] := by simp only [List.mem_cons, List.not_mem_nil, or_false, not_or]; exact ⟨hSi, hSl⟩
  show wpAny _ _ (do let old ← Builtin.List.listItems (.ref S); Builtin.List.listUpdate (.ref S) (fun _ => #[]); letGo old.toList.reverse; Builtin.List.listExtendWith (.ref S) (.ref it) .none) _ _ s
  refine wpAny_bind ?_
  unfold Builtin.List.listItems
  refine wpAny_bind (wpAny_seqItems hS rfl (wpAny_pure ?_))
  show wpAny _ _ (updateSeq S (fun _ => #[]) >>= fun _ => letGo (#[] : Array Value).toList.reverse >>= fun _ => Builtin.List.listExtendWith (.ref S) (.ref it) .none) _ _ s
  refine wpAny_bind (wpAny_updateSeq hS rfl ?_)
  have hS₂ := Heap.get?_update_self (Obj.mapSeq (fun _ => (#[] : Array Value))) hS rfl
  have oth : ∀ b o, b ≠ S → s.heap.get? b = some o → (s.heap.update S (Obj.mapSeq (fun _ => (#[] : Array Value)))).get? b = some o :=
    fun b o hb e => (Heap.get?_update_other _ _ (Ne.symm hb)).trans e
  refine wpAny_bind (wpAny_letGo ?_)
  have hit1 : (s.heap.update S (Obj.mapSeq (fun _ => (#[] : Array Value)))).IsRevIter it l ((items.size : Int) - 1) := hit.at fun o e => oth it o (Ne.symm hSi) e
  obtain ⟨ol, hol, rl⟩ := id hl
  have hl1 : (s.heap.update S (Obj.mapSeq (fun _ => (#[] : Array Value)))).IsList l items := ⟨ol, oth l ol (Ne.symm hSl) hol, rl⟩
  have hT : ({ s with heap := s.heap.update S (Obj.mapSeq (fun _ => (#[] : Array Value))) } : Shared).TypeIs (.ref it) "list_reverseiterator" := Heap.IsRevIter.typeIs (s := { s with heap := s.heap.update S (Obj.mapSeq (fun _ => (#[] : Array Value))) }) hit1
  have h1 : Builtin.List.listSameRef (.ref S) (.ref it) = false := by simp [Builtin.List.listSameRef, hSi]
  unfold Builtin.List.listExtendWith
  refine wpAny_bind (wpAny_typeOf hT ?_)
  rw [if_neg (by rw [h1]; decide)]
  refine wpAny_bind (wpAny_pyIter_revIter (s := { s with heap := s.heap.update S (Obj.mapSeq (fun _ => (#[] : Array Value))) }) hit1 ?_)
  refine wpAny_bind (wpAny_holding ?_)
  unfold Builtin.List.listLengthHint
  refine wpAny_bind (wpAny_specialOf hT nolen_lri ?_)
  show wpAny _ A.in1 (specialOf (Value.ref it) (Str.ofString "__length_hint__") >>= _) _ _ _
  refine wpAny_bind (wpAny_specialOf hT hint_lri ?_)
  generalize hid : ("list_reverseiterator.__length_hint__" : String) = id0
  wp_delta
  rw [show splitId id0 = some ("list_reverseiterator", "__length_hint__") from by subst hid; decide +kernel]
  subst hid
  refine wpAny_bind (wpAny_isInstance (b := true) hT (by rw [isSubtype_type]; kernel_rfl) ?_)
  refine wpAny_pure ?_
  rw [if_neg (by decide)]
  have e0 : ((items.size : Nat) : Int) - 1 - ((0 : Nat) : Int) = (items.size : Int) - 1 := by omega
  refine wpAny_pure ⟨plainId_quiet F.plain_extend_loop _, codeAny_extend_loopS W hn _ hSf _ items.size 0 _ _ _ rfl (Nat.zero_le _) ⟨Nat.zero_le _, by rw [e0]; exact hit1, hl1⟩ hS₂ (ItemsOf.nil _) fun s' acc' c' hm hS' hacc => ?_⟩
  rw [Moved.eq_with hm]
  refine hR s'.heap s'.toks acc' c' (fun b o hb hb2 e => hm.heap b o (fun hmem => ?_) (oth b o hb2 e)) hS' hacc
  rcases List.mem_cons.mp hmem with e' | hmem
  · exact hb2 e'
  · exact hb (List.mem_singleton.mp hmem)
theorem call_list_rev {it l : Addr} {items : Array Value} {Q : Value → Shared → Prop} (hh : A.handled = none) (hit : s.heap.IsRevIter it l ((items.size : Int) - 1)) (hl : s.heap.IsList l items) (hne : l ≠ it) (hn : items.size ≤ sizeLine)
    (hQ : ∀ (h' : Heap) (tk : Nat) (acc : Array Value) (c : Nat), (∀ b o, b ≠ it → s.heap.get? b = some o → h'.get? b = some o) → h'.get? s.heap.objs.size = some { cls := .type "list", dict := none, data := .seq acc c, slots := #[] } →
      ItemsOf (fun i v => items[items.size - 1 - i]? = some v) acc items.size → Q (.ref s.heap.objs.size) { s with heap := h', toks := tk }) :
    wpAny (model prog w) A (call (.type "list") [.ref it]) Q E s := by
  obtain ⟨oi, hoi, _⟩ := id hit
  obtain ⟨ol, hol, _⟩ := id hl
  have hSi : s.heap.objs.size ≠ it := Nat.ne_of_gt (Heap.lt_size hoi)
  have hSl : s.heap.objs.size ≠ l := Nat.ne_of_gt (Heap.lt_size hol)
  refine callType_codes (Q₁ := fun obj s₁ => obj = .ref s.heap.objs.size ∧ s₁ = { s with heap := s.heap.push { cls := .type "list", data := .seq #[] } }) F.called_list (F.typeCall_list_1 _) F.entry_list_init
    (code_list_new _ ⟨rfl, rfl⟩) fun obj s₁ h₁ => ?_
  obtain ⟨rfl, rfl⟩ := h₁
  have hS : (s.heap.push { cls := .type "list", data := .seq #[] }).get? s.heap.objs.size = some { cls := .type "list", data := .seq #[] } := Heap.get?_push_size _ rfl
  refine ⟨⟨_, hS, rfl⟩, F.args_list_init_2 _ _, init_rev (A := A.in1) (s := { s with heap := s.heap.push { cls := .type "list", data := .seq #[] } }) hh (hit.at fun o e => Heap.get?_push_of_some _ e) (hl.push _) hne hn hSi hSl hS fun h' tk acc' c' hk hS' hacc => ?_⟩
  exact ⟨rfl, hQ h' tk acc' c' (fun b o hb e => hk b o hb (Nat.ne_of_lt (Heap.lt_size e)) (Heap.get?_push_of_some _ e)) hS' hacc⟩
end
section
variable {X : L2.Cx}
open L2
/-- list(reversed(e)), e a list -/
def tLstRev (K : PySem.W.Frag) (te : TE) : TE := fun σ H Q => te σ H fun v H1 => ∃ (a : Addr) (xs : List V), v = .ref a ∧ SqL K H1 a xs ∧ ∀ q, H1 q = none → Q (.ref q) (upd H1 q (.lst xs.reverse))
theorem pe_listRev {e : Expr} {te : TE} {p p2 pos pos2 : Pos} (hc : X.calm = true) (hg : Gl X "list") (hm : X.mg "list" = none) (hg2 : Gl X "reversed") (hm2 : X.mg "reversed" = none) (he : PE X e te)
    (hs : starEach [e] X.env = (false, eval e X.env) :: starEach [] X.env := by rfl)
    (hs2 : starEach [.Call (.Name "reversed" p2) [e] [] pos2] X.env = (false, eval (.Call (.Name "reversed" p2) [e] [] pos2) X.env) :: starEach [] X.env := by rfl) :
    PE X (.Call (.Name "list" p) [.Call (.Name "reversed" p2) [e] [] pos2] [] pos) (tLstRev X.K te) := by
  refine ⟨fun pins s σ H Q I h => ?_⟩
  refine Call_ (ld_blt I hg hm boot_list (PyProof.Rows.callWith_type1 (args_cons (Call_ (ld_blt I hg2 hm2 PyProof.Rows.boot_reversed (PyProof.Rows.callWith_type1 (args_cons (thn (he.run pins s σ H _ I h) fun u s1 ⟨v, H1, I1, r1, q1⟩ => args_nil ?_) hs) hs rfl))) hs2) hs2 rfl))
  obtain ⟨a, xs, ev, hq, q⟩ := q1
  subst ev
  obtain rfl : u = Value.ref a := r1
  obtain ⟨its, rv, p', hz⟩ := I1.list hq
  refine call_reversed_list p'.isList (args_nil ?_)
  have k0 : ∀ b o, s1.heap.get? b = some o → (s1.heap.push (revObj a ((its.toArray.size : Int) - 1))).get? b = some o := fun b o e => Heap.get?_push_of_some _ e
  have I2 : Inv X pins σ H1 { s1 with heap := s1.heap.push (revObj a ((its.toArray.size : Int) - 1)) } := I1.kept (t' := s1.toks) k0
  obtain ⟨f0, f1, f2, f3, f4, f5⟩ := I1.fpOk (H' := H1) (b := s1.heap.objs.size) (Nat.le_refl _) (I1.hok.fresh (Nat.le_refl _))
  have hl := p'.isList
  obtain ⟨ol, hol, _⟩ := id hl
  have hne : a ≠ s1.heap.objs.size := Nat.ne_of_lt (Heap.lt_size hol)
  have hn : its.toArray.size ≤ sizeLine := by rw [List.size_toArray, ← rv.length]; exact hz
  refine call_list_rev (s := { s1 with heap := s1.heap.push (revObj a ((its.toArray.size : Int) - 1)) }) (I1.ok.hd hc) ⟨_, Heap.get?_push_size _ rfl, rfl, rfl⟩ (hl.push _) hne hn fun h' tk acc c hk hS hi => ?_
  have hS' : h'.get? (s1.heap.objs.size + 1) = some { cls := .type "list", dict := none, data := .seq acc c, slots := #[] } := by
    have z := hS
    rw [show ({ s1 with heap := s1.heap.push (revObj a ((its.toArray.size : Int) - 1)) } : Shared).heap.objs.size = s1.heap.objs.size + 1 from Heap.size_push _ _] at z
    exact z
  have hSn : (s1.heap.push (revObj a ((its.toArray.size : Int) - 1))).get? (s1.heap.objs.size + 1) = none := Heap.get?_none_of_le (by rw [Heap.size_push]; exact Nat.le_refl _)
  obtain ⟨G, g1, g2⟩ := restrict h' fun b => decide (b ≠ s1.heap.objs.size + 1)
  have I3 : Inv X pins σ H1 { s1 with heap := G, toks := tk } := I2.turned (t' := tk) (fun b o hb e => by
    have hb2 : b ≠ s1.heap.objs.size + 1 := fun z => by
      rw [z, hSn] at e
      cases e
    rw [g1 b (decide_eq_true hb2)]
    exact hk b o hb e) f0 f1 f3 f4 f5
  have gS : G.get? (s1.heap.objs.size + 1) = none := g2 _ (by simp)
  have hf : H1 (s1.heap.objs.size + 1) = none := I1.hok.fresh (Nat.le_succ _)
  have J : Inv X pins σ (upd H1 (s1.heap.objs.size + 1) (.lst xs.reverse)) { s1 with heap := h', toks := tk } := I3.laidN (h' := h') (t' := tk) (fun b u e => by
    have hb2 : b ≠ s1.heap.objs.size + 1 := fun z => by
      rw [z, gS] at e
      cases e
    rw [← g1 b (decide_eq_true hb2)]
    exact e) gS hf (show ObjOk X.prog X.w _ _ _ (.lst xs.reverse) from ⟨by rw [List.length_reverse]; exact hz, acc.toList, c, vals_rev rv hi, by rw [Array.toArray_toList]; exact hS'⟩)
  refine ⟨.ref (s1.heap.objs.size + 1), _, J, ?_, q _ hf⟩
  show Value.ref _ = Value.ref _
  rw [show ({ s1 with heap := s1.heap.push (revObj a ((its.toArray.size : Int) - 1)) } : Shared).heap.objs.size = s1.heap.objs.size + 1 from Heap.size_push _ _]
end
end RT
set_option Elab.async false
set_option linter.all false
set_option maxRecDepth 100000
set_option maxHeartbeats 4000000
namespace LB
open PySem PySem.Spec PyProof.Rows L2
open C8 (pss_cut tCut)
abbrev s_law_deal : Stmt := top 11
theorem sc_law_deal : FnScope ["_law_script", "_law_base", "_law_cells", "_law_cell", "_law_number"] ["_law_script", "_law_base"] (defScope s_law_deal) := ⟨rfl, rfl, rfl, by decide +kernel, rfl, by decide +kernel, by decide +kernel⟩
section
variable {P : Program} {w : World} {K : PySem.W.Frag} {mg : Str → Option Value} {base : Heap}
theorem ok_law_deal (F : TopFn K mg "_law_deal" s_law_deal ["_law_script", "_law_base"]) (T : Txt K mg) : DefOk P w K mg base 1 "_law_deal" ["_law_script", "_law_base"] (spDeal K) := by
  refine F.ok sc_law_deal (fun vs H Q E h => ?_) (fun f cdv A outer s H vs Q E hr h => ?_)
  · obtain ⟨a, ns, b, rfl, _⟩ := h
    rfl
  · obtain ⟨a, ns, b, rfl, hS, hlen, b0, b1, k⟩ := h
    refine ⟨_, (pss_cons (ps_setLc (i := 2) (own := [("_law_cell", 3)]) (g := gName 3) (tt := tYes) rfl sc_law_deal.nd rfl rfl (sw_true rfl rfl rfl (by decide +kernel)) (pi_list (pe_slice sl_list (pv 0) (po_some (pv 1)) (po_some pe_int))) (blkOk_by (own := [("_law_cell", 3)]) (N := ["_law_script", "_law_base", "_law_cells", "_law_cell", "_law_number"]) (sc := defScope s_law_deal) (by decide +kernel)) (fun _ _ _ _ _ => (pg_name (i := 3) sc_law_deal.nd rfl (.inl rfl))) (fun _ _ _ _ _ => pts_nil) (fun _ _ _ _ _ => (pe_callB (call_max2 rfl) (by rfl) T.b_max (by decide +kernel) (pa_cons (pv 3) (pa_cons (pe_op op_sub pe_int (pv 3)) pa_nil)))))
    (pss_cons (ps_set (i := 4) sc_law_deal.nd rfl (.inl rfl) (pe_op op_add pe_int (pv 1)))
    (pss_cut (ps_for PassesOwn.never rfl (pi_list (pv 2)) (pg_name (i := 3) sc_law_deal.nd rfl (.inl rfl))
    (pss_one (ps_set (i := 4) sc_law_deal.nd rfl (.inl rfl) (pe_op op_mod (pe_op op_add (pe_op op_mul (pv 4) pe_int) (pe_op op_mod (pv 3) pe_int)) pe_int))))
    (pss_one (ps_ret (pe_disp (pps_cons pe_str (pv 4) (pps_cons pe_str pe_int (pps_cons pe_str (RT.pe_listRev rfl rfl T.b_list rfl T.b_reversed (pe_lc (own := [("_law_cell", 3)]) (g := gName 3) rfl sc_law_deal.nd (pi_list (pv 2)) (blkOk_by (own := [("_law_cell", 3)]) (N := ["_law_script", "_law_base", "_law_cells", "_law_cell", "_law_number"]) (sc := defScope s_law_deal) (by decide +kernel)) (fun _ _ _ _ _ => (pg_name (i := 3) sc_law_deal.nd rfl (.inl rfl))) (fun _ _ _ _ _ => (pts_one (pt_cmpR op_ge (pv 3) (pe_op op_pow pe_int pe_int) (nomark _)))) (fun _ _ _ _ _ => (pv 3)))) pps_nil))) (by rfl) (by rfl) (fun z => by cases z) (by decide))))))), ?_⟩
    obtain ⟨ms, ems, lms, _⟩ := cut_ints ns (some b) (some 63)
    refine ⟨_, rfl, _, rfl, _, rfl, _, rfl, a, _, rfl, hS, fun p hp => ?_⟩
    rw [ems]
    refine ⟨p, rfl, ⟨_, SqL.of upd_same⟩, fun D hD => ?_⟩
    have npD : p ≠ D := fun e => by rw [← e, upd_same] at hD; cases hD
    have hD0 : H D = none := by rw [upd_ne npD.symm] at hD; exact hD
    refine lc_list (K := K) (a := p) (xs := ms.map V.int) (fun i H' => ∃ cs : List Int, H' = upd (upd H p (.lst (ms.map V.int))) D (.lst (cs.map V.int)) ∧ cs.length = i ∧ ∀ c ∈ cs, 0 ≤ c)
      ⟨[], rfl, rfl, fun c h => by cases h⟩ (fun i H' _ ⟨cs, e, _⟩ => by rw [e]; exact SqL.of (by rw [upd_ne npD]; exact upd_same)) ?_ ?_
    · rintro i x H' hi ⟨cs, rfl, hl, h0⟩
      obtain ⟨m, hm, rfl⟩ := map_get hi
      have hlt := lt_of_get hm
      refine ⟨rfl, ?_⟩
      refine ⟨_, rfl, _, rfl, _, _, rfl, rfl, _, _, rfl, _, upd_same, ?_, cs ++ [if 0 - m > m then 0 - m else m], ?_, ?_, ?_⟩
      · rw [List.length_map]; exact sz63 (by omega)
      · rw [upd_upd, List.map_append] <;> rfl
      · rw [List.length_append, hl] <;> rfl
      · intro c hc
        rcases List.mem_append.mp hc with h | h
        · exact h0 c h
        · have e := List.mem_singleton.mp h
          rw [e]
          split <;> omega
    · rintro H' ⟨cs, rfl, hl, h0⟩
      rw [List.length_map] at hl
      have hlc : cs.length ≤ 63 := by omega
      refine ⟨_, rfl, _, _, rfl, rfl, ?_⟩
      have s1 : Same H (upd (upd H p (.lst (ms.map V.int))) D (.lst (cs.map V.int))) := (same_new hp).trans (same_new hD)
      have hH2 : upd (upd H p (.lst (ms.map V.int))) D (.lst (cs.map V.int)) D = some (.lst (cs.map V.int)) := upd_same
      generalize upd (upd H p (.lst (ms.map V.int))) D (.lst (cs.map V.int)) = H2 at s1 hH2
      refine ⟨fun σ H' => ∃ n v, σ = [some (.ref a), some (.int b), some (.ref D), v, some (.int n)] ∧ H' = H2 ∧ 0 ≤ n ∧ n < 2147483647, ?_, ?_⟩
      · refine ⟨_, rfl, D, rfl, ⟨_, SqL.of hH2⟩, for_list (K := K) (a := D) (xs := cs.map V.int) (fun i σ H' => ∃ n v, σ = [some (.ref a), some (.int b), some (.ref D), v, some (.int n)] ∧ H' = H2 ∧ 0 ≤ n ∧ n < 2147483647)
          ⟨6143 + b, none, rfl, rfl, by omega, by omega⟩ (fun i σ H' _ ⟨_, _, _, e, _⟩ => by rw [e]; exact SqL.of hH2) ?_ ?_⟩
        · rintro i x σ H' hi ⟨n, v, rfl, rfl, hn⟩
          obtain ⟨m, hm, rfl⟩ := map_get hi
          refine ⟨_, rfl, _, _, rfl, rfl, .inr ⟨by decide, by decide⟩, _, rfl, _, _, rfl, rfl, (by show (0 : Int) < 2147483629; decide), _, _, rfl, rfl, _, _, rfl, rfl, (by show (0 : Int) < 2147483647; decide), ?_⟩
          exact ⟨_, _, rfl, rfl, Int.emod_nonneg _ (by decide), Int.emod_lt_of_pos _ (by decide)⟩
        · exact fun σ H' h => h
      · rintro σ H' ⟨n, v, rfl, rfl, hn0, hn1⟩
        intro d hd
        have ndD : D ≠ d := ne_of_none hH2 hd
        refine ⟨_, rfl, _, rfl, D, rfl, ⟨_, SqL.of (by rw [upd_ne ndD]; exact hH2)⟩, fun D2 hD2 => ?_⟩
        have nD2d : D2 ≠ d := fun e => by rw [e, upd_same] at hD2; cases hD2
        have hD2' : H' D2 = none := by rw [upd_ne nD2d] at hD2; exact hD2
        have nDD2 : D ≠ D2 := ne_of_none hH2 hD2'
        refine lc_list (K := K) (a := D) (xs := cs.map V.int) (fun i H4 => ∃ gs : List Int, H4 = upd (upd H' d (.dK [])) D2 (.lst (gs.map V.int)) ∧ gs.length ≤ i ∧ ∀ c ∈ gs, 0 ≤ c)
          ⟨[], rfl, Nat.le_refl _, fun c h => by cases h⟩ (fun i H' _ ⟨gs, e, _⟩ => by rw [e]; exact SqL.of (by rw [upd_ne nDD2, upd_ne ndD]; exact hH2)) ?_ ?_
        · rintro i x H2 hi ⟨gs, rfl, hl2, g0⟩
          obtain ⟨m, hm, rfl⟩ := map_get hi
          have hlt := lt_of_get hm
          refine ⟨rfl, _, rfl, _, _, rfl, rfl, ⟨by decide, by decide, by decide⟩, _, _, rfl, rfl, _, rfl, ?_⟩
          refine ite2 (fun hc => ?_) (fun _ => ⟨gs, rfl, Nat.le_succ_of_le hl2, g0⟩)
          refine ⟨_, rfl, _, upd_same, ?_, gs ++ [m], ?_, ?_, ?_⟩
          · rw [List.length_map]; exact sz63 (by omega)
          · rw [upd_upd, List.map_append] <;> rfl
          · rw [List.length_append, List.length_singleton]; omega
          · intro c hc
            rcases List.mem_append.mp hc with h | h
            · exact g0 c h
            · rw [List.mem_singleton.mp h]
              exact h0 m (List.mem_of_getElem? hm)
        · rintro H2 ⟨gs, rfl, hl2, g0⟩
          rw [List.length_map] at hl2
          refine ⟨D2, _, rfl, SqL.of upd_same, fun q hq => ?_⟩
          have nqd : d ≠ q := fun e => by rw [← e, upd_ne nD2d.symm, upd_same] at hq; cases hq
          have nqD2 : q ≠ D2 := fun e => by rw [e, upd_same] at hq; cases hq
          have hq' : H' q = none := by rw [upd_ne nqD2, upd_ne nqd.symm] at hq; exact hq
          refine ⟨by rw [upd_ne nqd, upd_ne nD2d.symm, upd_same], [(.inr "seed", .int n), (.inr "number", .int 0), (.inr "left", .ref q)], rfl, (by show 3 ≤ 15; decide), ?_⟩
          refine k d q _ (s1.free hd) (s1.free hq') ⟨n, 0, gs.reverse, ?_, ?_, hn0, hn1, by decide, fun m h => g0 m (List.mem_reverse.mp h), by rw [List.length_reverse]; omega⟩ ?_
          · rw [upd_same, dkv_merge]
          · rw [upd_ne nqd.symm, upd_same, List.map_reverse]
          · intro b' o e
            have e' := s1 b' o e
            rw [upd_ne (ne_of_none e' hd), upd_ne (ne_of_none e' hq'), upd_ne (ne_of_none e' hD2'), upd_ne (ne_of_none e' hd)]
            exact e'
end
end LB
set_option Elab.async false
set_option linter.all false
set_option autoImplicit false
set_option maxRecDepth 100000
set_option maxHeartbeats 4000000
namespace PD
open PySem PySem.Spec PyProof.Rows L2
open LB (top)
theorem all_mk {P : Program} {w : World} {K : PySem.W.Frag} {mg : Str → Option Value} {fa : Addr} (L : LB.LawFn K mg fa s_law) (T : LB.Txt K mg) (t_point_at : LB.TopFn K mg "point_at" s_point_at ["residue", "loss", "vector"]) (t_residue_at : LB.TopFn K mg "residue_at" s_residue_at ["loss", "at"]) (t_twos : LB.TopFn K mg "twos" s_twos ["n"]) (t_firsts : LB.TopFn K mg "firsts" s_firsts ["bits"]) (t_vector_list : LB.TopFn K mg "vector_list" s_vector_list ["count", "bits"]) (t_points : LB.TopFn K mg "points" s_points ["loss", "bits"]) (t_law_first_points : LB.TopFn K mg "_law_first_points" s_law_first_points ["_law_loss", "_law_bits", "_law_most"]) (t_count_vectors : LB.TopFn K mg "count_vectors" s_count_vectors ["count", "bits"]) (t_count_points : LB.TopFn K mg "count_points" s_count_points ["loss", "bits"]) (t_law_draw : LB.TopFn K mg "_law_draw" LB.s_law_draw ["_law_deal_here", "_law_many"]) (t_law_residues : LB.TopFn K mg "_law_residues" s_law_residues ["_law_loss"]) (t_law_twos : LB.TopFn K mg "_law_twos" s_law_twos ["_law_number"]) (t_law_vectors : LB.TopFn K mg "_law_vectors" s_law_vectors ["_law_many", "_law_bits"]) (t_law_points : LB.TopFn K mg "_law_points" s_law_points ["_law_loss", "_law_bits"]) (t_vectors : LB.TopFn K mg "vectors" s_vectors ["count", "bits"]) (t_law_first_vectors : LB.TopFn K mg "_law_first_vectors" s_law_first_vectors ["_law_many", "_law_bits", "_law_most"]) (t_law_power : LB.TopFn K mg "_law_power" s_law_power ["_law_number"]) (t_law_deal : LB.TopFn K mg "_law_deal" LB.s_law_deal ["_law_script", "_law_base"]) :
    ∃ fd : FuncData, (∀ (s : Shared) (u : Value), BindsTo s fd ⟨[u], []⟩ [("_law_script", u)]) ∧ ∀ base : Heap, K.In base → base.Ns mainGlobals mg → LB.RunsC P w K mg base fa fd ["_law_script"] (LB.spLaw K) := by
  obtain ⟨W, eW⟩ : ∃ W, W = mkW K [] [] [] := ⟨_, rfl⟩
  have eK : W.K = K := by rw [eW]; rfl
  have CT : TW K w W := by
    rw [eW]
    refine tw_mk (fun p hp => ?_) (fun p hp => ?_)
    · cases hp
    · cases hp
  have D_point_at := fun base => ok_point_at (P := P) (w := w) (K := K) (mg := mg) (base := base) (W := W) t_point_at T CT
  have D_residue_at := fun base => ok_residue_at (P := P) (w := w) (K := K) (mg := mg) (base := base) (W := W) t_residue_at T CT
  have D_twos := fun base => ok_twos (P := P) (w := w) (K := K) (mg := mg) (base := base) (W := W) t_twos T CT
  have D_firsts := fun base => ok_firsts (P := P) (w := w) (K := K) (mg := mg) (base := base) (W := W) t_firsts T CT (D_twos base)
  have D_vector_list := fun base => ok_vector_list (P := P) (w := w) (K := K) (mg := mg) (base := base) (W := W) t_vector_list T CT (D_firsts base) (D_twos base) 4
  have D_points := fun base => ok_points (P := P) (w := w) (K := K) (mg := mg) (base := base) (W := W) t_points T CT (D_point_at base) (D_residue_at base) (D_vector_list base)
  have D_law_first_points := fun base => ok_law_first_points (P := P) (w := w) (K := K) (mg := mg) (base := base) (W := W) t_law_first_points T CT (D_points base)
  have D_count_vectors := fun base => ok_count_vectors (P := P) (w := w) (K := K) (mg := mg) (base := base) (W := W) t_count_vectors T CT (D_vector_list base)
  have D_count_points := fun base => ok_count_points (P := P) (w := w) (K := K) (mg := mg) (base := base) (W := W) t_count_points T CT (D_count_vectors base)
  have D_law_draw : ∀ base, LB.DefX P w K mg base 1 "_law_draw" ["_law_deal_here", "_law_many"] [] (spD W 2 F_law_draw) := fun base => by
    show LB.DefX P w K mg base 1 "_law_draw" ["_law_deal_here", "_law_many"] [] (spD W 2 F_drawO)
    rw [F_drawO_eq]
    exact ok_draw (LB.ok_law_draw t_law_draw T)
  have D_law_residues := fun base => ok_law_residues (P := P) (w := w) (K := K) (mg := mg) (base := base) (W := W) t_law_residues T CT 4
  have D_law_twos := fun base => ok_law_twos (P := P) (w := w) (K := K) (mg := mg) (base := base) (W := W) t_law_twos T CT 9
  have D_law_vectors := fun base => ok_law_vectors (P := P) (w := w) (K := K) (mg := mg) (base := base) (W := W) t_law_vectors T CT (D_law_twos base) 4
  have D_law_points := fun base => ok_law_points (P := P) (w := w) (K := K) (mg := mg) (base := base) (W := W) t_law_points T CT (D_law_residues base) (D_law_vectors base)
  have D_vectors := fun base => ok_vectors (P := P) (w := w) (K := K) (mg := mg) (base := base) (W := W) t_vectors T CT (D_vector_list base)
  have D_law_first_vectors := fun base => ok_law_first_vectors (P := P) (w := w) (K := K) (mg := mg) (base := base) (W := W) t_law_first_vectors T CT (D_vectors base)
  have D_law_power := fun base => ok_law_power (P := P) (w := w) (K := K) (mg := mg) (base := base) (W := W) t_law_power T CT
  have D_law_deal : ∀ base, LB.DefX P w K mg base 1 "_law_deal" ["_law_script", "_law_base"] [] (spD W 2 F_law_deal) := fun base => by
    show LB.DefX P w K mg base 1 "_law_deal" ["_law_script", "_law_base"] [] (spD W 2 F_dealO)
    rw [F_dealO_eq]
    exact ok_deal eK.symm (LB.ok_law_deal t_law_deal T)
  exact ok_law (P := P) (w := w) (K := K) (mg := mg) (W := W) L T CT D_law_first_points D_count_points D_law_draw D_points D_law_points D_count_vectors D_vectors D_law_first_vectors D_law_vectors D_twos D_law_power D_law_deal law_ok17
end PD
section
set_option Elab.async false
set_option maxRecDepth 100000
open PySem PySem.W PyProof.Rows
set_option maxHeartbeats 0
open_top head for PySem.Challenge.rw_lowsure_k17_vectors_and_points
end
set_option Elab.async false
set_option linter.all false
set_option maxRecDepth 100000
open PySem PySem.W PyProof.Rows in
set_option maxRecDepth 100000 in
set_option maxHeartbeats 0 in
theorem PySem.Challenge.cw_lowsure_k17_vectors_and_points_holds : PySem.Challenge.rw_lowsure_k17_vectors_and_points.Holds :=
  head (by
    k_fill
    refine LB.walkC (l := PySem.Challenge.rw_lowsure_k17_vectors_and_points) rfl rfl (fun w h Y => PySem.W.kIn_of Y) ?F
    case F =>
      intro w mg fa h KX G hmg
      refine' PD.all_mk ?L ?T ?t_point_at ?t_residue_at ?t_twos ?t_firsts ?t_vector_list ?t_points ?t_law_first_points ?t_count_vectors ?t_count_points ?t_law_draw ?t_law_residues ?t_law_twos ?t_law_vectors ?t_law_points ?t_vectors ?t_law_first_vectors ?t_law_power ?t_law_deal
      case L =>
        refine' LB.lawFn_mk KX G hmg (fun _ _ _ _ _ _ _ => rfl) ?a ?l ?c ?k
        (case a => k_is)
        (case l => k_is)
        (case c => k_is)
        (case k => k_is)
      case T =>
        exact ⟨PySem.W.mg_none_of KX G (by k_is), PySem.W.mg_none_of KX G (by k_is), PySem.W.mg_none_of KX G (by k_is), PySem.W.mg_none_of KX G (by k_is), PySem.W.mg_none_of KX G (by k_is), PySem.W.mg_none_of KX G (by k_is), PySem.W.mg_none_of KX G (by k_is), PySem.W.mg_none_of KX G (by k_is), PySem.W.mg_none_of KX G (by k_is), PySem.W.mg_none_of KX G (by k_is), PySem.W.mg_none_of KX G (by k_is), PySem.W.mg_none_of KX G (by k_is), PySem.W.mg_none_of KX G (by k_is), PySem.W.mg_none_of KX G (by k_is), PySem.W.mg_none_of KX G (by k_is), PySem.W.mg_none_of KX G (by k_is), PySem.W.mg_none_of KX G (by k_is), PySem.W.mg_none_of KX G (by k_is), PySem.W.mg_none_of KX G (by k_is), PySem.W.mg_none_of KX G (by k_is), PySem.W.mg_none_of KX G (by k_is), PySem.W.mg_none_of KX G (by k_is), PySem.W.mg_none_of KX G (by k_is), PySem.W.mg_none_of KX G (by k_is), PySem.W.mg_none_of KX G (by k_is)⟩
      case t_point_at =>
        refine' LB.topFn_mk KX G (fun _ _ _ _ _ _ us hl => match us, hl with | [_, _, _], _ => rfl) ?a ?l ?c ?k
        (case a => k_is)
        (case l => k_is)
        (case c => k_is)
        (case k => k_is)
      case t_residue_at =>
        refine' LB.topFn_mk KX G (fun _ _ _ _ _ _ us hl => match us, hl with | [_, _], _ => rfl) ?a ?l ?c ?k
        (case a => k_is)
        (case l => k_is)
        (case c => k_is)
        (case k => k_is)
      case t_twos =>
        refine' LB.topFn_mk KX G (fun _ _ _ _ _ _ us hl => match us, hl with | [_], _ => rfl) ?a ?l ?c ?k
        (case a => k_is)
        (case l => k_is)
        (case c => k_is)
        (case k => k_is)
      case t_firsts =>
        refine' LB.topFn_mk KX G (fun _ _ _ _ _ _ us hl => match us, hl with | [_], _ => rfl) ?a ?l ?c ?k
        (case a => k_is)
        (case l => k_is)
        (case c => k_is)
        (case k => k_is)
      case t_vector_list =>
        refine' LB.topFn_mk KX G (fun _ _ _ _ _ _ us hl => match us, hl with | [_, _], _ => rfl) ?a ?l ?c ?k
        (case a => k_is)
        (case l => k_is)
        (case c => k_is)
        (case k => k_is)
      case t_points =>
        refine' LB.topFn_mk KX G (fun _ _ _ _ _ _ us hl => match us, hl with | [_, _], _ => rfl) ?a ?l ?c ?k
        (case a => k_is)
        (case l => k_is)
        (case c => k_is)
        (case k => k_is)
      case t_law_first_points =>
        refine' LB.topFn_mk KX G (fun _ _ _ _ _ _ us hl => match us, hl with | [_, _, _], _ => rfl) ?a ?l ?c ?k
        (case a => k_is)
        (case l => k_is)
        (case c => k_is)
        (case k => k_is)
      case t_count_vectors =>
        refine' LB.topFn_mk KX G (fun _ _ _ _ _ _ us hl => match us, hl with | [_, _], _ => rfl) ?a ?l ?c ?k
        (case a => k_is)
        (case l => k_is)
        (case c => k_is)
        (case k => k_is)
      case t_count_points =>
        refine' LB.topFn_mk KX G (fun _ _ _ _ _ _ us hl => match us, hl with | [_, _], _ => rfl) ?a ?l ?c ?k
        (case a => k_is)
        (case l => k_is)
        (case c => k_is)
        (case k => k_is)
      case t_law_draw =>
        refine' LB.topFn_mk KX G (fun _ _ _ _ _ _ us hl => match us, hl with | [_, _], _ => rfl) ?a ?l ?c ?k
        (case a => k_is)
        (case l => k_is)
        (case c => k_is)
        (case k => k_is)
      case t_law_residues =>
        refine' LB.topFn_mk KX G (fun _ _ _ _ _ _ us hl => match us, hl with | [_], _ => rfl) ?a ?l ?c ?k
        (case a => k_is)
        (case l => k_is)
        (case c => k_is)
        (case k => k_is)
      case t_law_twos =>
        refine' LB.topFn_mk KX G (fun _ _ _ _ _ _ us hl => match us, hl with | [_], _ => rfl) ?a ?l ?c ?k
        (case a => k_is)
        (case l => k_is)
        (case c => k_is)
        (case k => k_is)
      case t_law_vectors =>
        refine' LB.topFn_mk KX G (fun _ _ _ _ _ _ us hl => match us, hl with | [_, _], _ => rfl) ?a ?l ?c ?k
        (case a => k_is)
        (case l => k_is)
        (case c => k_is)
        (case k => k_is)
      case t_law_points =>
        refine' LB.topFn_mk KX G (fun _ _ _ _ _ _ us hl => match us, hl with | [_, _], _ => rfl) ?a ?l ?c ?k
        (case a => k_is)
        (case l => k_is)
        (case c => k_is)
        (case k => k_is)
      case t_vectors =>
        refine' LB.topFn_mk KX G (fun _ _ _ _ _ _ us hl => match us, hl with | [_, _], _ => rfl) ?a ?l ?c ?k
        (case a => k_is)
        (case l => k_is)
        (case c => k_is)
        (case k => k_is)
      case t_law_first_vectors =>
        refine' LB.topFn_mk KX G (fun _ _ _ _ _ _ us hl => match us, hl with | [_, _, _], _ => rfl) ?a ?l ?c ?k
        (case a => k_is)
        (case l => k_is)
        (case c => k_is)
        (case k => k_is)
      case t_law_power =>
        refine' LB.topFn_mk KX G (fun _ _ _ _ _ _ us hl => match us, hl with | [_], _ => rfl) ?a ?l ?c ?k
        (case a => k_is)
        (case l => k_is)
        (case c => k_is)
        (case k => k_is)
      case t_law_deal =>
        refine' LB.topFn_mk KX G (fun _ _ _ _ _ _ us hl => match us, hl with | [_, _], _ => rfl) ?a ?l ?c ?k
        (case a => k_is)
        (case l => k_is)
        (case c => k_is)
        (case k => k_is))
#print axioms PySem.Challenge.cw_lowsure_k17_vectors_and_points_holds
