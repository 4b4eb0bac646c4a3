import PyProof.Rows.All
import Wide.All
import OpenK.AllK
import Wide.FinOn
import HandS.ForMost
import HandS.Wide
import HandS.Codes
import HandS.OwnEq
import PyProof.InstNe
import HandS.Exc
import HandS.ExcOwn
import HandS.ExcInit
import HandS.ExcField
import HandS.CallSlots
import HandS.Defaults
import HandS.WordsExc
import HandS.Flow
import HandS.IsInst
import HandS.RaiseMore
import HandS.Walk
import HandS.Text
import HandS.TupAny
import HandS.TupMul
import HandS.WideBits
import HandS.NoneIn
import HandS.More
import KE.GoesMore
import PyProof.Draws
import HandS.Zip
import HandS.Style
import HandS.Star
import HandS.ClsMeth
import KE.KUnpackStar
import KE.KExcIs
import HandS.ExcIs
import PyProof.ReprRoads
import PyProof.CallFns
import HandS.Replace
import PyProof.MeetsStr3
import PyProof.FitsReplace
import PyProof.CallStr
import PyProof.ReprLen
import HandS.Rev
import HandS.ExcValue
import PySem.Challenge.RW_lowsure_k53_code_and_machines
set_option Elab.async false
set_option linter.all false
set_option maxRecDepth 100000
set_option maxHeartbeats 4000000
/-! LB: own words over the hand layer -/
namespace LB
open PySem PySem.Spec PyProof.Rows L2
open C8 (pss_cut tCut)
/-- the def x of the top keeps the promise sp -/
structure DefOk (P : Program) (w : World) (K : PySem.W.Frag) (mg : Str → Option Value) (base : Heap) (k : Nat) (x : Str) (ps : List Str) (sp : Sp) : Prop where
  ex : ∃ (f : Addr) (fd : FuncData), FnOk P w K mg base CX0 k f fd ps sp ∧ mg x = some (.ref f) ∧ PySem.W.keepIn K (.ref f) = true ∧ Binds K fd ps []
/-- the def x stands at the top as st -/
structure TopFn (K : PySem.W.Frag) (mg : Str → Option Value) (x : Str) (st : Stmt) (ps : List Str) : Prop where
  ex : ∃ (f : Addr) (fd : FuncData), Fun K x x st f fd ∧ mg x = some (.ref f) ∧ Binds K fd ps []
section
variable {P : Program} {w : World} {K : PySem.W.Frag} {mg : Str → Option Value} {base : Heap}
theorem TopFn.ok {x : Str} {st : Stmt} {N ps : List Str} {k : Nat} {sp : Sp} (F : TopFn K mg x st ps) (S : FnScope N ps (defScope st)) (len : ∀ vs H Q E, sp vs H Q E → vs.length = ps.length)
    (hbody : ∀ (f : Addr) (cdv : Value) (A : Around) (outer : List Env) (s : Shared) (H : Hp) (vs : List V) (Q : VK) (E : XK), Room k (A.deeper (envOfC x (defScope st) s.heap.objs.size f cdv)) → sp vs H Q E →
      ∃ t, PSs (cxOf CX0 P w K mg base N x (defScope st) f cdv A outer s H E).nox (defBody st) t ∧ t { nx := fun _ H' => Q .non H', rt := Q } (start N vs) H) : DefOk P w K mg base (k + 1) x ps sp := by
  obtain ⟨f, fd, F, hm, b⟩ := F.ex
  exact ⟨f, fd, F.ok S len (hbody f), hm, F.kp, b⟩
theorem topFn_mk {h : Heap} {x : Str} {st : Stmt} {ps : List Str} {f : Addr} {oc : Value} {od an : Option Addr} {osl : Array (Option Value)} {kV doc pm cdv ct : Value} (X : K.In h) (G : h.Ns mainGlobals mg)
    (hb : ∀ (kV doc pm : Value) (an : Option Addr) (cdv ct : Value) (us : List Value), us.length = ps.length → bindArgs (PySem.W.fnOf x x (defArgs st) (defBody st) (defScope st) .none kV doc pm an cdv ct) ⟨us, []⟩ = pure (ps.zip us))
    (a : PySem.W.nsIn K mainGlobals x = some (some (.ref f))) (l : K.lookup f = some ⟨oc, od, .func (PySem.W.fnOf x x (defArgs st) (defBody st) (defScope st) .none kV doc pm an cdv ct), osl⟩)
    (c : PySem.W.codeIn K cdv x = true) (k : PySem.W.keepIn K (.ref f) = true) : TopFn K mg x st ps :=
  have F := fun_mk (st := st) l c k
  ⟨f, _, F, PySem.W.mg_of X G a, F.binds hb⟩
end
section
variable {X : Cx} {k : Nat} {x : Str} {ps : List Str} {sp : Sp} {e : Expr} {es : List Expr} {t : TA} {p pos : Pos}
theorem pe_fn (D : DefOk X.prog X.w X.K X.mg X.base k x ps sp) (hr : Room k X.A) (hg : Gl X x) (ha : PA X (e :: es) t) (hdb : (x == ("__debug__" : Str)) = false := by decide)
    (he : starEach (e :: es) X.env = (false, eval e X.env) :: starEach es X.env := by rfl) (hpl : (backTo pos (starEach es X.env)).any (·.1) = false := by rfl) :
    PE X (.Call (.Name x p) (e :: es) [] pos) (tCall sp [] E0 t) := by
  obtain ⟨f, fd, F, hm, hk, hb⟩ := D.ex
  exact pe_call F hr hg hm hk hb .nil pass0 ha hdb he hpl
theorem pe_fn0 (D : DefOk X.prog X.w X.K X.mg X.base k x ps sp) (hr : Room k X.A) (hg : Gl X x) (hdb : (x == ("__debug__" : Str)) = false := by decide) :
    PE X (.Call (.Name x p) [] [] pos) (tCall sp [] E0 tNil) := by
  obtain ⟨f, fd, F, hm, hk, hb⟩ := D.ex
  exact pe_call0 F hr hg hm hk hb .nil pass0 hdb
end
/-- a constant of the module -/
theorem pe_gint {X : Cx} {x : Str} {i : Int} {pos : Pos} (hg : Gl X x) (hm : ∃ t, X.mg x = some (.int i t)) (hdb : (x == ("__debug__" : Str)) = false := by decide) : PE X (.Name x pos) (tC (.int i)) := by
  obtain ⟨t, hm⟩ := hm
  exact pe_glob hg hm ⟨t, rfl⟩ hdb
theorem pe_gref {X : Cx} {x : Str} {a : Addr} {pos : Pos} (hg : Gl X x) (hm : X.mg x = some (.ref a)) (hdb : (x == ("__debug__" : Str)) = false := by decide) : PE X (.Name x pos) (tC (.ref a)) :=
  pe_glob hg hm rfl hdb
/-- the built-ins are what they are -/
structure Txt (K : PySem.W.Frag) (mg : Str → Option Value) : Prop where
  b_len : mg "len" = none
  b_max : mg "max" = none
  b_min : mg "min" = none
  b_abs : mg "abs" = none
  b_list : mg "list" = none
  b_tuple : mg "tuple" = none
  b_reversed : mg "reversed" = none
  b_str : mg "str" = none
  b_repr : mg "repr" = none
  b_sum : mg "sum" = none
  b_all : mg "all" = none
  b_any : mg "any" = none
  b_zip : mg "zip" = none
  b_enumerate : mg "enumerate" = none
  b_int : mg "int" = none
  b_bool : mg "bool" = none
  b_sorted : mg "sorted" = none
  b_isinstance : mg "isinstance" = none
  b_range : mg "range" = none
  b_set : mg "set" = none
  b_dict : mg "dict" = none
  b_divmod : mg "divmod" = none
  b_ord : mg "ord" = none
  b_chr : mg "chr" = none
  b_type : mg "type" = none
/-! ### lists -/
theorem map_get {α : Type} {f : α → V} {ms : List α} {i : Nat} {x : V} (h : (ms.map f)[i]? = some x) : ∃ m, ms[i]? = some m ∧ x = f m := by
  rw [List.getElem?_map] at h
  cases e : ms[i]? with
  | none => rw [e] at h; cases h
  | some m => rw [e] at h; exact ⟨m, rfl, (Option.some.inj h).symm⟩
theorem take_more {α : Type} : ∀ {l : List α} {i : Nat} {x : α}, l[i]? = some x → l.take (i + 1) = l.take i ++ [x]
  | [], i, x, h => by simp at h
  | a :: l, 0, x, h => by
    have e : a = x := Option.some.inj h
    subst e
    rfl
  | a :: l, i + 1, x, h => by
    have ih := take_more (l := l) (i := i) (x := x) h
    show a :: l.take (i + 1) = a :: l.take i ++ [x]
    rw [ih]
    rfl
theorem cut_ints (ns : List Int) (lo hi : Option Int) : ∃ ms : List Int, cutV (ns.map V.int) lo hi = ms.map V.int ∧ ms.length ≤ ns.length ∧ ∀ m ∈ ms, m ∈ ns := by
  unfold cutV
  rw [← List.map_drop, ← List.map_take]
  refine ⟨_, rfl, ?_, fun m h => List.mem_of_mem_drop (List.mem_of_mem_take h)⟩
  rw [List.length_take, List.length_drop]
  omega
theorem ifF {c : Bool} {A B : Prop} (hc : c = false) (h : B) : if c = true then A else B := by
  rw [hc, if_neg Bool.false_ne_true]
  exact h
theorem ifT {c : Bool} {A B : Prop} (hc : c = true) (h : A) : if c = true then A else B := by
  rw [if_pos hc]
  exact h
/-- xs[k:] and xs[:k] -/
theorem cut_from (xs : List V) (k : Nat) (hk : k ≤ xs.length) : cutV xs (some (k : Int)) none = xs.drop k := by
  unfold cutV
  rw [HT.sIx_nat, HT.sIx_none, Nat.min_eq_left hk, List.take_of_length_le]
  rw [List.length_drop]
  omega
theorem cut_to (xs : List V) (k : Nat) (hk : k ≤ xs.length) : cutV xs none (some (k : Int)) = xs.take k := by
  unfold cutV
  rw [HT.sIx_nat, HT.sIx_none, Nat.min_eq_left hk, List.drop_zero, Nat.sub_zero]
theorem part_from {xs : List V} {k : Nat} (h0 : 0 < k) (hk : k ≤ xs.length) : ¬ (HT.sIx xs.length 0 (some (k : Int)) = 0 ∧ HT.sIx xs.length xs.length none = xs.length) := by
  rw [HT.sIx_nat]
  omega
theorem part_to {xs : List V} {k : Nat} (hk : k < xs.length) : ¬ (HT.sIx xs.length 0 none = 0 ∧ HT.sIx xs.length xs.length (some (k : Int)) = xs.length) := by
  rw [HT.sIx_nat]
  omega
theorem sz63 {n : Nat} (h : n ≤ 63) : n < sizeLine := Nat.lt_of_le_of_lt h (by decide)
theorem szK {n : Nat} (h : n ≤ 100000) : n < sizeLine := Nat.lt_of_le_of_lt h (by decide)
theorem szL {n : Nat} (h : n ≤ 100000) : n ≤ sizeLine := Nat.le_of_lt (szK h)
theorem lt_of_get {α : Type} {l : List α} {i : Nat} {x : α} (h : l[i]? = some x) : i < l.length := (List.getElem?_eq_some_iff.mp h).1
theorem same_new {H : Hp} {p : Addr} {o : HO} (h : H p = none) : Same H (upd H p o) := fun b u e => by
  rw [upd_ne (ne_of_none e h)]
  exact e
theorem same_mut {H H' : Hp} {p : Addr} {o : HO} (s : Same H H') (h : H p = none) : Same H (upd H' p o) := fun b u e => by
  rw [upd_ne (ne_of_none e h)]
  exact s b u e
/-! ### the deal: the law's own source of draws -/
def dkv (s n : Int) (l : Addr) : List (Key × V) := [(.inr "seed", .int s), (.inr "number", .int n), (.inr "left", .ref l)]
theorem t_sn : ¬ ("seed" : Str) = "number" := by decide +kernel
theorem t_sl : ¬ ("seed" : Str) = "left" := by decide +kernel
theorem t_nl : ¬ ("number" : Str) = "left" := by decide +kernel
theorem t_ns : ¬ ("number" : Str) = "seed" := by decide +kernel
theorem t_ls : ¬ ("left" : Str) = "seed" := by decide +kernel
theorem t_ln : ¬ ("left" : Str) = "number" := by decide +kernel
theorem kne {a b : Str} (h : ¬ a = b) : ¬ (Sum.inr a : Key) = Sum.inr b := fun e => h (Sum.inr.inj e)
theorem dkv_seed {s n : Int} {l : Addr} : valV (dkv s n l) (.inr "seed") = some (.int s) := valV_pos rfl
theorem dkv_number {s n : Int} {l : Addr} : valV (dkv s n l) (.inr "number") = some (.int n) := (valV_neg (kne t_sn)).trans (valV_pos rfl)
theorem dkv_left {s n : Int} {l : Addr} : valV (dkv s n l) (.inr "left") = some (.ref l) := (valV_neg (kne t_sl)).trans ((valV_neg (kne t_nl)).trans (valV_pos rfl))
theorem dkv_putN {s n m : Int} {l : Addr} : putK (dkv s n l) (.inr "number") (.int m) = dkv s m l := by
  unfold putK dkv
  simp [t_sn, t_ln]
theorem dkv_putS {s n m : Int} {l : Addr} : putK (dkv s n l) (.inr "seed") (.int m) = dkv m n l := by
  unfold putK dkv
  simp [t_ns, t_ls]
theorem dkv_merge {s n : Int} {l : Addr} : mergeK [] [(.inr "seed", .int s), (.inr "number", .int n), (.inr "left", .ref l)] = dkv s n l := by
  unfold mergeK dkv
  simp [putK, t_sn, t_sl, t_nl, t_ns, t_ls, t_ln]
/-- the deal stands at d, its list of great numbers at l -/
structure DealC (d l : Addr) (s n : Int) (left : List Int) (H : Hp) : Prop where
  hd : H d = some (.dK (dkv s n l))
  hl : H l = some (.lst (left.map V.int))
  s0 : 0 ≤ s
  s1 : s < 2147483647
  n0 : 0 ≤ n
  l0 : ∀ m ∈ left, 0 ≤ m
  l1 : left.length ≤ 63
theorem DealC.ne {d l : Addr} {s n : Int} {left : List Int} {H : Hp} (C : DealC d l s n left H) : d ≠ l := ne_of C.hd C.hl (by intro z; cases z)
theorem DealC.number {d l : Addr} {s n : Int} {left : List Int} {H : Hp} (C : DealC d l s n left H) : DGet H d (.str "number") (some (.int n)) := by
  have g := DGet.k (k := Sum.inr "number") C.hd
  rw [dkv_number] at g
  exact g
theorem DealC.left {d l : Addr} {s n : Int} {left : List Int} {H : Hp} (C : DealC d l s n left H) : DGet H d (.str "left") (some (.ref l)) := by
  have g := DGet.k (k := Sum.inr "left") C.hd
  rw [dkv_left] at g
  exact g
theorem DealC.seed {d l : Addr} {s n : Int} {left : List Int} {H : Hp} (C : DealC d l s n left H) : DGet H d (.str "seed") (some (.int s)) := by
  have g := DGet.k (k := Sum.inr "seed") C.hd
  rw [dkv_seed] at g
  exact g
theorem DealC.putN {d l : Addr} {s n m : Int} {left : List Int} {H : Hp} (C : DealC d l s n left H) : DPut H d (.str "number") (.int m) (upd H d (.dK (dkv s m l))) := by
  have g := DPut.k (k := Sum.inr "number") (v := .int m) C.hd (show 3 < sizeLine by decide)
  rw [dkv_putN] at g
  exact g
theorem DealC.putS {d l : Addr} {s n m : Int} {left : List Int} {H : Hp} (C : DealC d l s n left H) : DPut H d (.str "seed") (.int m) (upd H d (.dK (dkv m n l))) := by
  have g := DPut.k (k := Sum.inr "seed") (v := .int m) C.hd (show 3 < sizeLine by decide)
  rw [dkv_putS] at g
  exact g
theorem DealC.withN {d l : Addr} {s n m : Int} {left : List Int} {H : Hp} (C : DealC d l s n left H) (hm : 0 ≤ m) : DealC d l s m left (upd H d (.dK (dkv s m l))) :=
  ⟨upd_same, by rw [upd_ne C.ne.symm]; exact C.hl, C.s0, C.s1, hm, C.l0, C.l1⟩
theorem DealC.withS {d l : Addr} {s n m : Int} {left : List Int} {H : Hp} (C : DealC d l s n left H) (h0 : 0 ≤ m) (h1 : m < 2147483647) : DealC d l m n left (upd H d (.dK (dkv m n l))) :=
  ⟨upd_same, by rw [upd_ne C.ne.symm]; exact C.hl, h0, h1, C.n0, C.l0, C.l1⟩
theorem DealC.popped {d l : Addr} {s n : Int} {left : List Int} {H : Hp} (C : DealC d l s n left H) : DealC d l s n left.dropLast (upd H l (.lst (left.dropLast.map V.int))) :=
  ⟨by rw [upd_ne C.ne]; exact C.hd, upd_same, C.s0, C.s1, C.n0, fun m h => C.l0 m (List.dropLast_subset _ h), by rw [List.length_dropLast]; have := C.l1; omega⟩
def Deal (d l : Addr) (H : Hp) : Prop := ∃ s n left, DealC d l s n left H
/-- all but the deal is kept -/
def Keep (d l : Addr) (H H' : Hp) : Prop := ∀ a o, H a = some o → a ≠ d → a ≠ l → H' a = some o
theorem Keep.refl {d l : Addr} {H : Hp} : Keep d l H H := fun _ _ h _ _ => h
theorem Keep.trans {d l : Addr} {H H1 H2 : Hp} (a : Keep d l H H1) (b : Keep d l H1 H2) : Keep d l H H2 := fun x o h n1 n2 => b x o (a x o h n1 n2) n1 n2
theorem Keep.updD {d l : Addr} {H H1 : Hp} {o : HO} (a : Keep d l H H1) : Keep d l H (upd H1 d o) := fun x u h n1 n2 => by rw [upd_ne n1]; exact a x u h n1 n2
theorem Keep.updL {d l : Addr} {H H1 : Hp} {o : HO} (a : Keep d l H H1) : Keep d l H (upd H1 l o) := fun x u h n1 n2 => by rw [upd_ne n2]; exact a x u h n1 n2
theorem Keep.same {d l : Addr} {H H' : Hp} (h : Same H H') : Keep d l H H' := fun a o e _ _ => h a o e
theorem Keep.new {d l p : Addr} {H H1 : Hp} {o : HO} (a : Keep d l H H1) (hp : H1 p = none) : Keep d l H (upd H1 p o) := fun x u h n1 n2 => by
  rw [upd_ne (ne_of_none (a x u h n1 n2) hp)]
  exact a x u h n1 n2
theorem Deal.fresh {d l p : Addr} {H : Hp} (D : Deal d l H) (hp : H p = none) : p ≠ d ∧ p ≠ l := by
  obtain ⟨s, n, left, C⟩ := D
  exact ⟨(ne_of_none C.hd hp).symm, (ne_of_none C.hl hp).symm⟩
theorem Deal.new {d l p : Addr} {H : Hp} {o : HO} (D : Deal d l H) (hp : H p = none) : Deal d l (upd H p o) := by
  obtain ⟨s, n, left, C⟩ := D
  exact ⟨s, n, left, (same_new hp) _ _ C.hd, (same_new hp) _ _ C.hl, C.s0, C.s1, C.n0, C.l0, C.l1⟩
theorem Deal.same {d l : Addr} {H H' : Hp} (D : Deal d l H) (h : Same H H') : Deal d l H' := by
  obtain ⟨s, n, left, C⟩ := D
  exact ⟨s, n, left, h _ _ C.hd, h _ _ C.hl, C.s0, C.s1, C.n0, C.l0, C.l1⟩
theorem Deal.upd {d l p : Addr} {H : Hp} {o : HO} (D : Deal d l H) (h1 : p ≠ d) (h2 : p ≠ l) : Deal d l (L2.upd H p o) := by
  obtain ⟨s, n, left, C⟩ := D
  exact ⟨s, n, left, by rw [upd_ne h1.symm]; exact C.hd, by rw [upd_ne h2.symm]; exact C.hl, C.s0, C.s1, C.n0, C.l0, C.l1⟩
/-- what H does not know may change -/
theorem Keep.mut {d l p : Addr} {H H1 : Hp} {o : HO} (a : Keep d l H H1) (hp : H p = none) : Keep d l H (L2.upd H1 p o) := fun x u h n1 n2 => by
  rw [upd_ne (ne_of_none h hp)]
  exact a x u h n1 n2
theorem Keep.free {d l p : Addr} {H H1 : Hp} (a : Keep d l H H1) (h1 : p ≠ d) (h2 : p ≠ l) (hp : H1 p = none) : H p = none := by
  cases e : H p with
  | none => rfl
  | some o =>
    rw [a p o e h1 h2] at hp
    cases hp
/-- a tuple is kept by draws -/
theorem Keep.tup {d l a : Addr} {H H' : Hp} {xs : List V} (k : Keep d l H H') (D : Deal d l H) (h : H a = some (.tup xs)) : H' a = some (.tup xs) := by
  obtain ⟨s, n, left, C⟩ := D
  exact k _ _ h (ne_of h C.hd (by intro q; cases q)) (ne_of h C.hl (by intro q; cases q))
def spDraw : Sp := fun vs H Q _ => ∃ (d l : Addr) (many : Int), vs = [.ref d, .int many] ∧ Deal d l H ∧ 0 < many ∧ many ≤ 340282366920938463463374607431768211456 ∧
  ∀ (r : Int) (H' : Hp), 0 ≤ r → r < many → Deal d l H' → Keep d l H H' → Q (.int r) H'
def spDeal (K : PySem.W.Frag) : Sp := fun vs H Q _ => ∃ (a : Addr) (ns : List Int) (base : Int), vs = [.ref a, .int base] ∧ SqL K H a (ns.map V.int) ∧ ns.length ≤ 63 ∧ 0 ≤ base ∧ base ≤ 1000 ∧
  ∀ (d l : Addr) (H' : Hp), H d = none → H l = none → Deal d l H' → Same H H' → Q (.ref d) H'
end LB
set_option Elab.async false
set_option linter.all false
set_option maxRecDepth 100000
set_option maxHeartbeats 4000000
namespace LB
open PySem PySem.Spec PyProof.Rows L2
/-! ### own classes: methods, ==, !=, len -/
structure MethOk (P : Program) (w : World) (K : PySem.W.Frag) (mg : Str → Option Value) (base : Heap) (k : Nat) (C : Addr) (m : Str) (ps : List Str) (sp : Sp) : Prop where
  ex : ∃ (f : Addr) (fd : FuncData), FnOk P w K mg base CX0 k f fd ps sp ∧ PySem.W.findIn K (.ref C) m = some (some (.ref f)) ∧ PySem.W.isFn K (.ref f) = true ∧ PySem.W.keepIn K (.ref f) = true ∧ Binds K fd ps []
structure TopMeth (K : PySem.W.Frag) (C : Addr) (m qual : Str) (st : Stmt) (ps : List Str) : Prop where
  ex : ∃ (f : Addr) (fd : FuncData), Fun K m qual st f fd ∧ PySem.W.findIn K (.ref C) m = some (some (.ref f)) ∧ PySem.W.isFn K (.ref f) = true ∧ Binds K fd ps []
section
variable {P : Program} {w : World} {K : PySem.W.Frag} {mg : Str → Option Value} {base : Heap}
theorem TopMeth.ok {C : Addr} {m qual : Str} {st : Stmt} {N ps : List Str} {k : Nat} {sp : Sp} (F : TopMeth K C m qual st ps) (S : FnScope N ps (defScope st)) (len : ∀ vs H Q E, sp vs H Q E → vs.length = ps.length)
    (hbody : ∀ (f : Addr) (cdv : Value) (A : Around) (outer : List Env) (s : Shared) (H : Hp) (vs : List V) (Q : VK) (E : XK), Room k (A.deeper (envOfC qual (defScope st) s.heap.objs.size f cdv)) → sp vs H Q E →
      ∃ t, PSs (cxOf CX0 P w K mg base N qual (defScope st) f cdv A outer s H E).nox (defBody st) t ∧ t { nx := fun _ H' => Q .non H', rt := Q } (start N vs) H) : MethOk P w K mg base (k + 1) C m ps sp := by
  obtain ⟨f, fd, F, hm, hi, b⟩ := F.ex
  exact ⟨f, fd, F.ok S len (hbody f), hm, hi, F.kp, b⟩
theorem topMeth_mk {C : Addr} {m qual : Str} {st : Stmt} {ps : List Str} {f : Addr} {oc : Value} {od an : Option Addr} {osl : Array (Option Value)} {kV doc pm cdv ct : Value}
    (hb : ∀ (kV doc pm : Value) (an : Option Addr) (cdv ct : Value) (us : List Value), us.length = ps.length → bindArgs (PySem.W.fnOf m qual (defArgs st) (defBody st) (defScope st) .none kV doc pm an cdv ct) ⟨us, []⟩ = pure (ps.zip us))
    (a : PySem.W.findIn K (.ref C) m = some (some (.ref f))) (i : PySem.W.isFn K (.ref f) = true) (l : K.lookup f = some ⟨oc, od, .func (PySem.W.fnOf m qual (defArgs st) (defBody st) (defScope st) .none kV doc pm an cdv ct), osl⟩)
    (c : PySem.W.codeIn K cdv qual = true) (k : PySem.W.keepIn K (.ref f) = true) : TopMeth K C m qual st ps :=
  have F := fun_mk (st := st) l c k
  ⟨f, _, F, a, i, F.binds hb⟩
end
/-- a class of one's own at C, by the name x -/
structure OwnCls (K : PySem.W.Frag) (mg : Str → Option Value) (x : Str) (C : Addr) : Prop where
  g : mg x = some (.ref C)
  cl : Cls K C
  makes : PySem.W.makesIn K C = true
  kp : PySem.W.keepIn K (.ref C) = true
section
variable {X : Cx} {k : Nat} {x m : Str} {ps : List Str} {sp : Sp} {o e : Expr} {es : List Expr} {ta : TE} {t : TA} {p pos apos : Pos} {C : Addr}
theorem pe_mk (c : OwnCls X.K X.mg x C) (D : MethOk X.prog X.w X.K X.mg X.base k C "__init__" ps sp) (hr : Room (k + 1) X.A) (hg : Gl X x) (ha : PA X (e :: es) t) (hdb : (x == ("__debug__" : Str)) = false := by decide)
    (he : starEach (e :: es) X.env = (false, eval e X.env) :: starEach es X.env := by rfl) (hpl : (backTo pos (starEach es X.env)).any (·.1) = false := by rfl) :
    PE X (.Call (.Name x p) (e :: es) [] pos) (tMake C sp [] E0 t) := by
  obtain ⟨f, fd, F, hm, hi, hk, hb⟩ := D.ex
  exact pe_make ⟨c.makes, hm, hi, c.kp⟩ F hr hg c.g hb .nil pass0 ha hdb he hpl
theorem pe_mk0 (c : OwnCls X.K X.mg x C) (D : MethOk X.prog X.w X.K X.mg X.base k C "__init__" ps sp) (hr : Room (k + 1) X.A) (hg : Gl X x) (hdb : (x == ("__debug__" : Str)) = false := by decide) :
    PE X (.Call (.Name x p) [] [] pos) (tMake C sp [] E0 tNil) := by
  obtain ⟨f, fd, F, hm, hi, hk, hb⟩ := D.ex
  exact pe_make0 ⟨c.makes, hm, hi, c.kp⟩ F hr hg c.g hb .nil pass0 hdb
theorem pe_mth {pl : Sem Bool} (c : Cls X.K C) (D : MethOk X.prog X.w X.K X.mg X.base k C m ps sp) (hr : Room k X.A) (he : PE X o ta) (ha : PA X (e :: es) t)
    (hst : starEach (e :: es) X.env = (false, eval e X.env) :: starEach es X.env := by rfl) (hpl : (backTo pos (starEach es X.env)).any (·.1) = false := by rfl)
    (ht : eval (.Call (.Attribute o m apos) (e :: es) [] pos) X.env = (do
      let ov ← eval o X.env
      standAt apos.atName
      let (f, first) ← holding [ov] (getMethod ov m pl)
      callWith pos f first (backTo pos (starEach (e :: es) X.env)) (backToKw pos (keywordEach [] X.env))) := by rfl) :
    PE X (.Call (.Attribute o m apos) (e :: es) [] pos) (tMeth C m sp [] E0 ta t) := by
  obtain ⟨f, fd, F, hm, hi, hk, hb⟩ := D.ex
  exact pe_meth he c ⟨hm, hi, hk⟩ F hr hb .nil pass0 ha hst hpl ht
theorem pe_mth0 {pl : Sem Bool} (c : Cls X.K C) (D : MethOk X.prog X.w X.K X.mg X.base k C m ps sp) (hr : Room k X.A) (he : PE X o ta)
    (ht : eval (.Call (.Attribute o m apos) [] [] pos) X.env = (do
      let ov ← eval o X.env
      standAt apos.atName
      let (f, first) ← holding [ov] (getMethod ov m pl)
      callWith pos f first (backTo pos (starEach [] X.env)) (backToKw pos (keywordEach [] X.env))) := by rfl) :
    PE X (.Call (.Attribute o m apos) [] [] pos) (tMeth C m sp [] E0 ta tNil) := by
  obtain ⟨f, fd, F, hm, hi, hk, hb⟩ := D.ex
  exact pe_meth0 he c ⟨hm, hi, hk⟩ F hr hb .nil pass0 ht
/-- a def is run somewhere below the running body -/
theorem run_sub {A : Around} {f : Addr} {fd : FuncData} {pins : List (Addr × Obj)} {σ : L2.St} {H : Hp} {s : Shared} {Q : VK} {us : List Value} {vs : List V} (F : FnOk X.prog X.w X.K X.mg X.base CX0 k f fd ps sp) (sb : Sub X k A) (hb : Binds X.K fd ps [])
    (I : Inv X pins σ H s) (r : Vals vs us) (h : sp vs H Q E0) : wpAny (model X.prog X.w) A (call (.ref f) us) (EP X pins σ Q) X.xe s := by
  have e0 : Env0 X.prog X.w X.K X.mg X.base A X.stack s H := by
    have e := I.env0
    exact ⟨by rw [sb.fr]; exact e.frames, e.mod, e.bs, e.bsz, e.funs, e.frf, e.hok, e.bare⟩
  have hl := F.len _ _ _ _ h
  refine wpAny_call (codeAny_mono (F.run A X.stack s H ⟨us, []⟩ us vs Q E0 sb.room e0 (by
    have := hb s us I.kIn (by rw [List.append_nil, ← r.length]; exact hl)
    simpa using this) r h) fun r s' hq => ?_)
  cases r with
  | error e => exact False.elim hq
  | ok fl =>
    cases fl with
    | ret u => exact I.after hq
    | next => exact False.elim hq
    | brk => exact False.elim hq
    | cont => exact False.elim hq
/-- len(o) by an own __len__ -/
def rLenC (C : Addr) (sp : Sp) : List V → Hp → VK → Prop := fun xs H Q => ∃ a dx fs, xs = [.ref a] ∧ H a = some (.ins C dx fs) ∧ sp [.ref a] H (fun v H' => ∃ n : Int, v = .int n ∧ 0 ≤ n ∧ n < 2 ^ 63 ∧ Q (.int n) H') E0
theorem call_lenC (D : MethOk X.prog X.w X.K X.mg X.base k C "__len__" ps sp) (hr : Room (k + 1) X.A) : CallR X (.builtin "len") (rLenC C sp) := by
  intro pins s σ H xs us Q I r h
  obtain ⟨f, fd, F, hm, hi, hk, hb⟩ := D.ex
  obtain ⟨a, dx, fs, rfl, ha, q⟩ := h
  obtain ⟨u, rfl, ru⟩ := vals1 r
  cases ru
  obtain ⟨mA, J, _⟩ := ins_get I.hok ha
  obtain ⟨od, J, _⟩ := J.look
  obtain ⟨m', hF⟩ := I.fr
  refine PySem.W.len_K hF I.ok.mod.kin J hm hi ?_
  refine wpAny_mono (run_sub (vs := [V.ref a]) F ⟨hr.in1, rfl⟩ hb I (.cons rfl .nil) q) (fun v s' z => ?_) fun _ _ z => z
  obtain ⟨x, H', I', rx, n, ex, h0, h1, q⟩ := z
  subst ex
  obtain ⟨t, rfl⟩ := rx
  exact ⟨⟨h0, h1⟩, .int n, H', I'.tok _, ⟨_, rfl⟩, q⟩
/-- x == y by an own __eq__ -/
def rEqC (C : Addr) (sp : Sp) : R2 := fun x y H Q => ∃ a b dx dy fs gs, x = .ref a ∧ y = .ref b ∧ H a = some (.ins C dx fs) ∧ H b = some (.ins C dy gs) ∧ sp [.ref a, .ref b] H (fun v H' => ∃ r, v = .bl r ∧ Q (.bl r) H') E0
theorem op_eqC (D : MethOk X.prog X.w X.K X.mg X.base k C "__eq__" ps sp) (hr : Room k X.A) : OpR X (compareOp .Eq) (rEqC C sp) := by
  intro pins s σ H x y v u Q I rx ry h
  obtain ⟨f, fd, F, hm, hi, hk, hb⟩ := D.ex
  obtain ⟨a, b, dx, dy, fs, gs, rfl, rfl, ha, hb', q⟩ := h
  cases rx
  cases ry
  obtain ⟨mA, J, _⟩ := ins_get I.hok ha
  obtain ⟨mB, J', _⟩ := ins_get I.hok hb'
  obtain ⟨od, J, _⟩ := J.look
  obtain ⟨od', J', _⟩ := J'.look
  obtain ⟨m', hF⟩ := I.fr
  show wpAny (model X.prog X.w) X.A (richCompare .Eq (.ref a) (.ref b)) _ _ _
  refine PySem.W.cmp_K (op := .Eq) (tb := .ref C) hr.units0 hF I.ok.mod.kin J J'.type (by simp [PySem.W.notFirst]) hm hi ?_
  refine wpAny_mono (run_sub (vs := [V.ref a, V.ref b]) F ⟨hr, rfl⟩ hb I (.cons rfl (.cons rfl .nil)) q) (fun v s' z => ?_) fun _ _ z => z
  obtain ⟨x, H', I', rx, r, ex, q⟩ := z
  subst ex
  cases rx
  exact ⟨.bl r, H', I', rfl, q⟩
end
/-- what != by an own __eq__ wants of the class -/
structure NeCls (K : PySem.W.Frag) (C : Addr) : Prop where
  ex : ∃ (nm q : Str) (N : Addr) (bs : List Value) (hdct : Bool) (sn : List Str) (sub : List Value) (ab : Bool) (col : Option Bool) (dd : Option Addr) (k0 k1 k2 k3 k5 : Option Value) (newId : String) (f : Addr) (of : Obj),
    K.lookup C = some (excClassObj nm q C N bs [.type "object"] hdct sn sub ab col dd k0 k1 k2 k3 k5 newId) ∧ PySem.W.nsOkIn K N = true ∧ PySem.W.nsIn K N "__eq__" = some (some (.ref f)) ∧ PySem.W.nsIn K N "__ne__" = some none ∧
    PySem.W.findIn K (.ref C) "__eq__" = some (some (.ref f)) ∧ K.lookup f = some of ∧ of.cls = .type "function"
theorem ns_some_of {K : PySem.W.Frag} {h : Heap} {N : Addr} {mg : Str → Option Value} {n : Str} {v : Value} (X : K.In h) (G : h.Ns N mg) (e : PySem.W.nsIn K N n = some (some v)) : mg n = some v := by
  obtain ⟨o, es, ep, ho, hd, _, hf⟩ := G
  unfold PySem.W.nsIn at e
  split at e
  · rename_i c d es' n' sl q
    have := X _ _ q
    rw [ho] at this
    cases this
    cases hd
    split at e
    · rename_i en he
      cases e
      rw [← hf]
      unfold nsFind findBy
      rw [← Array.find?_toList, he]
      rfl
    · split at e <;> cases e
  · cases e
section
variable {X : Cx} {k : Nat} {ps : List Str} {sp : Sp} {C : Addr}
def rNeC (C : Addr) (sp : Sp) : R2 := fun x y H Q => ∃ a b dx dy fs gs, x = .ref a ∧ y = .ref b ∧ H a = some (.ins C dx fs) ∧ H b = some (.ins C dy gs) ∧ sp [.ref a, .ref b] H (fun v H' => ∃ r, v = .bl r ∧ Q (.bl (!r)) H') E0
theorem op_neC (T : NeCls X.K C) (D : MethOk X.prog X.w X.K X.mg X.base k C "__eq__" ps sp) (hr : Room (k + 1) X.A) : OpR X (compareOp .NotEq) (rNeC C sp) := by
  intro pins s σ H x y v u Q I rx ry h
  obtain ⟨f, fd, F, hm, hi, hk, hb⟩ := D.ex
  obtain ⟨a, b, dx, dy, fs, gs, rfl, rfl, ha, hb', q⟩ := h
  cases rx
  cases ry
  obtain ⟨nm, qn, N, bs, hdct, sn, sub, ab, col, dd, k0, k1, k2, k3, k5, newId, f', of, lC, nk, ne, nn, fe, lf, cf⟩ := T.ex
  rw [hm] at fe
  cases fe
  obtain ⟨mA, J, _⟩ := ins_get I.hok ha
  obtain ⟨mB, J', _⟩ := ins_get I.hok hb'
  have KX := I.kIn
  have hns : s.heap.Ns N (s.heap.nsMap N) := .of_isNs (PySem.W.isNs_of_in KX nk)
  obtain ⟨hp, g, d, t, os⟩ := s
  have OE : Heap.OwnEqNoNe hp a C f "object" [.type "object"] := ⟨_, of, nm, qn, N, bs, hdct, sn, sub, ab, col, dd, k0, k1, k2, k3, k5, newId, _, _, J.obj, rfl, KX _ _ lC, hns, ns_some_of KX hns ne, KX _ _ lf, cf, PySem.F.cmp_object.mro, PySem.F.cmp_object.eq.lookup, PySem.W.ns_none_of KX hns nn⟩
  refine compareOp_ne_ownEq PySem.F.cmp_object OE J'.obj rfl (by have := hr.units; omega) ?_
  refine wpAny_mono (run_sub (vs := [V.ref a, V.ref b]) F ⟨hr.in1, rfl⟩ hb I (.cons rfl (.cons rfl .nil)) q) (fun v s' z => ?_) fun _ _ z => z
  obtain ⟨x, H', I', rx, r, ex, q⟩ := z
  subst ex
  cases rx
  exact ⟨r, rfl, .bl (!r), H', I', rfl, q⟩
end
end LB
set_option Elab.async false
set_option linter.all false
set_option maxRecDepth 100000
set_option maxHeartbeats 4000000
namespace LB
open PySem PySem.Spec PyProof.Rows L2
/-! ### defs that raise -/
/-- the def x keeps the promise sp, exceptions and all; dvs its defaults that fill up -/
structure DefX (P : Program) (w : World) (K : PySem.W.Frag) (mg : Str → Option Value) (base : Heap) (k : Nat) (x : Str) (ps : List Str) (dvs : List V) (sp : Sp) : Prop where
  ex : ∃ (f : Addr) (fd : FuncData) (ds : List Value), FnOk P w K mg base (L2.CX P w) k f fd ps sp ∧ mg x = some (.ref f) ∧ PySem.W.keepIn K (.ref f) = true ∧ Binds K fd ps ds ∧ Vals dvs ds
section
variable {P : Program} {w : World} {K : PySem.W.Frag} {mg : Str → Option Value} {base : Heap}
theorem TopFn.okX {x : Str} {st : Stmt} {N ps : List Str} {k : Nat} {sp : Sp} (F : TopFn K mg x st ps) (S : FnScope N ps (defScope st)) (len : ∀ vs H Q E, sp vs H Q E → vs.length = ps.length)
    (hbody : ∀ (f : Addr) (cdv : Value) (A : Around) (outer : List Env) (s : Shared) (H : Hp) (vs : List V) (Q : VK) (E : XK), Room k (A.deeper (envOfC x (defScope st) s.heap.objs.size f cdv)) → sp vs H Q E →
      ∃ t, PSs (cxOf (L2.CX P w) P w K mg base N x (defScope st) f cdv A outer s H E) (defBody st) t ∧ t { nx := fun _ H' => Q .non H', rt := Q } (start N vs) H) : DefX P w K mg base (k + 1) x ps [] sp := by
  obtain ⟨f, fd, F, hm, b⟩ := F.ex
  exact ⟨f, fd, [], F.okX S len (hbody f), hm, F.kp, b, .nil⟩
/-- a def with defaults dvs; every argument may be written, or all but those -/
structure TopFnD (K : PySem.W.Frag) (mg : Str → Option Value) (x : Str) (st : Stmt) (ps : List Str) (dvs : List V) : Prop where
  ex : ∃ (f : Addr) (fd : FuncData) (ds : List Value), FunD K x x (defArgs st) (defBody st) (defScope st) dvs [] f fd ∧ mg x = some (.ref f) ∧ Binds K fd ps [] ∧ Binds K fd ps ds ∧ Vals dvs ds
theorem TopFnD.okX {x : Str} {st : Stmt} {N ps : List Str} {dvs : List V} {k : Nat} {sp : Sp} (F : TopFnD K mg x st ps dvs) (S : FnScope N ps (defScope st)) (len : ∀ vs H Q E, sp vs H Q E → vs.length = ps.length)
    (hbody : ∀ (f : Addr) (cdv : Value) (A : Around) (outer : List Env) (s : Shared) (H : Hp) (vs : List V) (Q : VK) (E : XK), Room k (A.deeper (envOfC x (defScope st) s.heap.objs.size f cdv)) → sp vs H Q E →
      ∃ t, PSs (cxOf (L2.CX P w) P w K mg base N x (defScope st) f cdv A outer s H E) (defBody st) t ∧ t { nx := fun _ H' => Q .non H', rt := Q } (start N vs) H) : DefX P w K mg base (k + 1) x ps [] sp ∧ DefX P w K mg base (k + 1) x ps dvs sp := by
  obtain ⟨f, fd, ds, F, hm, b0, b1, hv⟩ := F.ex
  exact ⟨⟨f, fd, [], F.ok S len (hbody f), hm, F.kp, b0, .nil⟩, ⟨f, fd, ds, F.ok S len (hbody f), hm, F.kp, b1, hv⟩⟩
end
section
variable {X : Cx} {k : Nat} {x : Str} {ps : List Str} {dvs : List V} {sp : Sp} {e : Expr} {es : List Expr} {t : TA} {p pos : Pos} {W : WX}
/-- such a def is called where its exceptions are taken -/
theorem pe_fnX (D : DefX X.prog X.w X.K X.mg X.base k x ps dvs sp) (tk : Takes X W) (hr : Room k X.A) (hg : Gl X x) (ha : PA X (e :: es) t) (hdb : (x == ("__debug__" : Str)) = false := by decide)
    (he : starEach (e :: es) X.env = (false, eval e X.env) :: starEach es X.env := by rfl) (hpl : (backTo pos (starEach es X.env)).any (·.1) = false := by rfl) :
    PE X (.Call (.Name x p) (e :: es) [] pos) (tCallSD sp dvs (WE W) t) := by
  obtain ⟨f, fd, ds, F, hm, hk, hb, hv⟩ := D.ex
  exact pe_callSD F hr hg hm hk hb hv (fun σ => passAt tk σ) ha hdb he hpl
/-- .. where it raises none -/
theorem pe_fnE (D : DefX X.prog X.w X.K X.mg X.base k x ps dvs sp) (hr : Room k X.A) (hg : Gl X x) (ha : PA X (e :: es) t) (hdb : (x == ("__debug__" : Str)) = false := by decide)
    (he : starEach (e :: es) X.env = (false, eval e X.env) :: starEach es X.env := by rfl) (hpl : (backTo pos (starEach es X.env)).any (·.1) = false := by rfl) :
    PE X (.Call (.Name x p) (e :: es) [] pos) (tCall sp dvs E0 t) := by
  obtain ⟨f, fd, ds, F, hm, hk, hb, hv⟩ := D.ex
  exact pe_call F hr hg hm hk hb hv passL ha hdb he hpl
end
/-! ### try: the body's and the suite's terms are given where the reading is answered -/
def tbE (X : Cx) (body : List Stmt) : WX → TS := fun W D σ H => ∀ (pn : List (Addr × Obj)) (xe : Value → Shared → Prop), Takes (X.tr pn xe) W → PassesOwn (model X.prog X.w) X.A X.env xe → ∃ t, PSs (X.tr pn xe) body t ∧ t D σ H
def tsE (X : Cx) (suite : List Stmt) : Addr → Value → Option Addr → TS := fun a cls d D σ H => ∀ (oe : Obj) (pn : List (Addr × Obj)), Zc cls d oe → (∃ vs, oe.data = .fields vs) → ∃ t, PSs (X.suite a ((a, oe) :: pn)) suite t ∧ t D σ H
theorem ps_tryE {X : Cx} {x n : Str} {c : Value} {i : Nat} {body suite : List Stmt} {b₀ : Stmt} {np pos pos' : Pos} {Wout : WX} (hs : X.stack = X.env :: X.outer) (hf : X.env.frame = some X.env.locals) (hN : X.N.Nodup) (hi : X.N[i]? = some n) (hln : X.env.kindOf n = some .local) (hc : Names X x c) (tk : Takes X Wout) :
    PS X (.Try body [.ExceptHandler (some (.Name x np)) (some n) (b₀ :: suite) pos'] [] [] pos) (fun D σ H => tbE X body (wAs X.K c i (tsE X (b₀ :: suite)) Wout D) D σ H) := by
  refine ps_try_as (tb := tbE X body) (ts := tsE X (b₀ :: suite)) hs hf hN hi hln hc tk (fun W pn xe tk' po => ⟨fun pins s σ H D I h => ?_⟩) (fun a oe cls d pn hz hd => ⟨fun pins s σ H D I h => ?_⟩)
  · obtain ⟨t, ht, q⟩ := h pn xe tk' po
    exact ht.run pins s σ H D I q
  · obtain ⟨t, ht, q⟩ := h oe pn hz hd
    exact ht.run pins s σ H D I q
/-! ### LowError and what is over it -/
structure LowTxt (K : PySem.W.Frag) (mg : Str → Option Value) (L : Addr) : Prop where
  g : mg "LowError" = some (.ref L)
  sp : PySem.W.specialIn K (.ref L) "__getattribute__" = some (some (.builtin "type.__getattribute__"))
  ty : PySem.W.typeIn K (.ref L) = some (.type "type")
  rd : PySem.W.readsIn K L (.type "type") = true
  fi : PySem.W.findCls K (.ref L) (.type "type") "__init__" = some (.val (.builtin "ValueError.__init__"))
/-- LowError.__init__(self, ..) -/
theorem pe_loinit {X : Cx} {L : Addr} {e : Expr} {es : List Expr} {ta : TA} {p1 p2 pos : Pos} {pl : Sem Bool} (T : LowTxt X.K X.mg L) (hg : Gl X "LowError") (ha : PA X (e :: es) ta)
    (hc : eval (.Call (.Attribute (.Name "LowError" p1) "__init__" p2) (e :: es) [] pos) X.env = (do
      let ov ← eval (.Name "LowError" p1) X.env
      standAt p2.atName
      let (f, first) ← holding [ov] (getMethod ov "__init__" pl)
      callWith pos f first (backTo pos (starEach (e :: es) X.env)) (backToKw pos (keywordEach [] X.env))) := by rfl)
    (he : starEach (e :: es) X.env = (false, eval e X.env) :: starEach es X.env := by rfl) (hpl : (backTo pos (starEach es X.env)).any (·.1) = false := by rfl) :
    PE X (.Call (.Attribute (.Name "LowError" p1) "__init__" p2) (e :: es) [] pos) (tVeI X.K ta) := by
  refine ⟨fun pins s σ H Q I h => ?_⟩
  refine PySem.W.methodCall_KW (ld_glob I hg T.g ?_ (by decide)) hc
  obtain ⟨m, fr⟩ := I.fr
  refine PySem.W.method_of_cls fr I.ok.mod.kin T.sp (PySem.W.cls_val fr I.ok.mod.kin T.ty T.rd T.fi (by decide +kernel) ?_)
  show wpAny _ _ (callWith pos (Value.builtin "ValueError.__init__") [] (backTo pos (starEach (e :: es) X.env)) []) _ _ _
  refine PyProof.Rows.callWith_method1 (thn (ha.run pos pins _ σ H _ (I.tok _) h) fun us s1 ⟨vs, H1, I1, r1, a, C, ws, ev, hl, T, ea, q⟩ => ?_) he hpl
  subst ev
  cases r1 with
  | @cons _ u0 _ ur ra rw' =>
    obtain rfl : u0 = Value.ref a := ra
    have hlen : ur.length ≤ sizeLine := by
      rw [← Paired.length rw', sizeLine_eq]
      omega
    exact oinit_ok T I1 ea hlen fun s' J => ⟨.non, H1, J, rfl, q⟩
/-- an own exception's class at C, by the name x -/
structure ExcCls (K : PySem.W.Frag) (mg : Str → Option Value) (x : Str) (C : Addr) : Prop where
  g : mg x = some (.ref C)
  oex : OexC K C
  xf : XfC K C
  me : PySem.W.exmOne K (.ref C) (.ref C) = some true
/-- its __init__ with two fields -/
def spExc2 (K : PySem.W.Frag) (C : Addr) (f g : Str) : Sp := fun vs H Q _ => ∃ (a : Addr) (x y : V), vs = [.ref a, x, y] ∧ H a = some (exo a C none) ∧ ∀ dx, H dx = none → dx ≠ a → Q .non (upd (upd (upd H dx (exd dx [(f, x)])) a (exo a C (some dx))) dx (exd dx [(g, y), (f, x)]))
section
variable {X : Cx} {k : Nat} {x : Str} {ps : List Str} {sp : Sp} {e : Expr} {es : List Expr} {t : TA} {p pos pos' : Pos} {C : Addr} {W : WX}
theorem ps_raiseO (c : ExcCls X.K X.mg x C) (D : MethOk X.prog X.w X.K X.mg X.base k C "__init__" ps sp) (hc : X.calm = true) (tk : Takes X W) (hr : Room (k + 1) X.A) (hg : Gl X x) (ha : PA X (e :: es) t) (hdb : (x == ("__debug__" : Str)) = false := by decide)
    (he : starEach (e :: es) X.env = (false, eval e X.env) :: starEach es X.env := by rfl) (hpl : (backTo pos (starEach es X.env)).any (·.1) = false := by rfl) :
    PS X (.Raise (some (.Call (.Name x p) (e :: es) [] pos)) none pos') (fun _ σ H => tMkO C sp [] t σ H fun cls d H' => W cls d σ H') := by
  obtain ⟨f, fd, F, hm, hi, hk, hb⟩ := D.ex
  exact ps_raise hc tk (pmk_oex c.oex hm (by simpa [PySem.W.isFn] using hi) F hr hb .nil pass0 hg c.g ha hdb he hpl)
end
end LB
set_option Elab.async false
set_option linter.all false
set_option autoImplicit false
set_option maxRecDepth 100000
set_option maxHeartbeats 4000000
/-! PD: data in place of the heap. What never changes is a tree; what changes is kept in a small store of its own. -/
namespace PD
open PySem PySem.Spec PyProof.Rows L2
inductive D where
  | non | bl (b : Bool) | int (i : Int) | str (s : Str) | ty (n : String)
  | tup (xs : List D) | lst (xs : List D) | obj (C : Str) (fs : List (Str × D)) | dct (kvs : List (Str × D)) | ptr (a : Addr) | scr (ns : List Int) | cls (n : Str)
  | exc (a : Addr) (dd : Option Addr) (C : Str) (fs : List (Str × D)) | xob (C : Str) (fs : List (Str × D))
/-- what changes -/
inductive MO where
  | lst (ds : List D) | dic (kvs : List (Key × D)) | ins (C : Str) (fs : List (Str × D)) | deal (l : Addr)
abbrev Mu := Addr → Option MO
def Mu.set (μ : Mu) (a : Addr) (m : MO) : Mu := fun b => if b = a then some m else μ b
def Mu.inter (μ' μ : Mu) : Mu := fun b => if (μ b).isSome then μ' b else none
theorem Mu.set_same {μ : Mu} {a : Addr} {m : MO} : (μ.set a m) a = some m := if_pos rfl
theorem Mu.set_ne {μ : Mu} {a b : Addr} {m : MO} (h : b ≠ a) : (μ.set a m) b = μ b := if_neg h
theorem Mu.set_set {μ : Mu} {a : Addr} {m m' : MO} : (μ.set a m).set a m' = μ.set a m' := by
  funext b
  unfold Mu.set
  split <;> rfl
theorem Mu.inter_self {μ : Mu} : μ.inter μ = μ := by
  funext b
  unfold Mu.inter
  cases μ b <;> rfl
theorem Mu.inter_new {μ μ' : Mu} {p : Addr} {m : MO} (h : μ p = none) : (μ'.set p m).inter μ = μ'.inter μ := by
  funext b
  unfold Mu.inter
  by_cases e : b = p
  · subst e
    rw [h]
    rfl
  · rw [Mu.set_ne e]
theorem Mu.inter_set {μ μ' : Mu} {p : Addr} {m : MO} (h : (μ p).isSome = true) : (μ'.set p m).inter μ = (μ'.inter μ).set p m := by
  funext b
  unfold Mu.inter
  by_cases e : b = p
  · subst e
    rw [Mu.set_same, Mu.set_same, if_pos h]
  · rw [Mu.set_ne e, Mu.set_ne e]
/-- neither kept in the store nor the inner list of a deal -/
def Im (μ : Mu) (a : Addr) : Prop := μ a = none ∧ ∀ d, μ d ≠ some (.deal a)
/-- what the text gives: the written part, the classes by name, the written dicts -/
structure Wo where
  K : PySem.W.Frag
  cl : Str → Addr
  kd : Addr → List (Str × D) → Prop
  /-- the own classes, the names of their instances' attributes -/
  cok : Str → Prop
  fok : Str → Str → Prop
def KTup (K : PySem.W.Frag) (a : Addr) (xs : List V) : Prop := ∃ (o : Obj) (its : Array Value) (n : Nat), K.lookup a = some o ∧ o.cls = .type "tuple" ∧ o.data = .seq its n ∧ its.size ≤ sizeLine ∧ Vals xs its.toList
abbrev Hid := Addr → Prop
mutual
inductive Rep (W : Wo) (hid : Hid) (H : Hp) (μ : Mu) : V → D → Prop
  | non : Rep W hid H μ .non .non
  | bl (b : Bool) : Rep W hid H μ (.bl b) (.bl b)
  | int (i : Int) : Rep W hid H μ (.int i) (.int i)
  | str (s : Str) : Rep W hid H μ (.str s) (.str s)
  | ty (n : String) : Rep W hid H μ (.ty n) (.ty n)
  | ptr (a : Addr) : Rep W hid H μ (.ref a) (.ptr a)
  | tup {a : Addr} {vs : List V} {ds : List D} : Rd H a (.tup vs) → Im μ a → ¬ hid a → Reps W hid H μ vs ds → Rep W hid H μ (.ref a) (.tup ds)
  | tupK {a : Addr} {vs : List V} {ds : List D} : KTup W.K a vs → Reps W hid H μ vs ds → Rep W hid H μ (.ref a) (.tup ds)
  | lst {a : Addr} {vs : List V} {ds : List D} : H a = some (.lst vs) → Im μ a → ¬ hid a → Reps W hid H μ vs ds → Rep W hid H μ (.ref a) (.lst ds)
  | obj {a dx : Addr} {C : Str} {fs : List (Str × V)} {gs : List (Str × D)} : H a = some (.ins (W.cl C) dx fs) → Im μ a → ¬ hid a → W.cok C → (∀ p ∈ gs, W.fok C p.1) → RepF W hid H μ fs gs → Rep W hid H μ (.ref a) (.obj C gs)
  | dct {a : Addr} {kvs : List (Str × D)} : W.kd a kvs → Rep W hid H μ (.ref a) (.dct kvs)
  | scr {a : Addr} {ns : List Int} : Rd H a (.lst (ns.map V.int)) → Im μ a → ¬ hid a → Rep W hid H μ (.ref a) (.scr ns)
  | cls (n : Str) : Rep W hid H μ (.ref (W.cl n)) (.cls n)
  | scrK {a : Addr} {ns : List Int} : (∀ H, SqL W.K H a (ns.map V.int)) → Rep W hid H μ (.ref a) (.scr ns)
  /-- an exception that is held in a suite: of its object only the fields are told -/
  | exc {a dd : Addr} {C : Str} {fs : List (Str × V)} {gs : List (Str × D)} : H dd = some (.xd fs) → Im μ dd → ¬ hid dd → RepF W hid H μ fs gs → Rep W hid H μ (.ref a) (.exc a (some dd) C gs)
  | exc0 {a : Addr} {C : Str} : Rep W hid H μ (.ref a) (.exc a none C [])
  /-- an exception that was made and not raised -/
  | xob {a dx : Addr} {C : Str} {fs : List (Str × V)} {gs : List (Str × D)} : H a = some (exo a (W.cl C) (some dx)) → Im μ a → ¬ hid a → H dx = some (exd dx fs) → Im μ dx → ¬ hid dx → RepF W hid H μ fs gs → Rep W hid H μ (.ref a) (.xob C gs)
  | xob0 {a : Addr} {C : Str} : H a = some (exo a (W.cl C) none) → Im μ a → ¬ hid a → Rep W hid H μ (.ref a) (.xob C [])
inductive Reps (W : Wo) (hid : Hid) (H : Hp) (μ : Mu) : List V → List D → Prop
  | nil : Reps W hid H μ [] []
  | cons {v : V} {vs : List V} {d : D} {ds : List D} : Rep W hid H μ v d → Reps W hid H μ vs ds → Reps W hid H μ (v :: vs) (d :: ds)
inductive RepF (W : Wo) (hid : Hid) (H : Hp) (μ : Mu) : List (Str × V) → List (Str × D) → Prop
  | nil : RepF W hid H μ [] []
  | cons {f : Str} {v : V} {vs : List (Str × V)} {d : D} {ds : List (Str × D)} : Rep W hid H μ v d → RepF W hid H μ vs ds → RepF W hid H μ ((f, v) :: vs) ((f, d) :: ds)
end
/-- what stands and cannot change stands on -/
def Ok (hid : Hid) (H : Hp) (μ : Mu) (hid' : Hid) (H' : Hp) (μ' : Mu) : Prop := ∀ a o, H a = some o → Im μ a → ¬ hid a → H' a = some o ∧ Im μ' a ∧ ¬ hid' a
section
variable {W : Wo} {hid hid' : Hid} {H H' : Hp} {μ μ' : Mu}
theorem Ok.rd {a : Addr} {u : HO} (k : Ok hid H μ hid' H' μ') (h : Rd H a u) (i : Im μ a) (n : ¬ hid a) : Rd H' a u ∧ Im μ' a ∧ ¬ hid' a := by
  rcases h with h | ⟨o, h⟩
  · obtain ⟨h1, h2, h3⟩ := k a _ h i n
    exact ⟨.inl h1, h2, h3⟩
  · obtain ⟨h1, h2, h3⟩ := k a _ h i n
    exact ⟨.inr ⟨o, h1⟩, h2, h3⟩
mutual
theorem Rep.mono (k : Ok hid H μ hid' H' μ') : ∀ {v : V} {d : D}, Rep W hid H μ v d → Rep W hid' H' μ' v d
  | _, _, .non => .non
  | _, _, .bl b => .bl b
  | _, _, .int i => .int i
  | _, _, .str s => .str s
  | _, _, .ty n => .ty n
  | _, _, .ptr a => .ptr a
  | _, _, .tup h i n r =>
    let ⟨h1, h2, h3⟩ := k.rd h i n
    .tup h1 h2 h3 (Reps.mono k r)
  | _, _, .tupK h r => .tupK h (Reps.mono k r)
  | _, _, .lst h i n r =>
    let ⟨h1, h2, h3⟩ := k _ _ h i n
    .lst h1 h2 h3 (Reps.mono k r)
  | _, _, .obj h i n c f r =>
    let ⟨h1, h2, h3⟩ := k _ _ h i n
    .obj h1 h2 h3 c f (RepF.mono k r)
  | _, _, .cls n => .cls n
  | _, _, .dct h => .dct h
  | _, _, .scr h i n =>
    let ⟨h1, h2, h3⟩ := k.rd h i n
    .scr h1 h2 h3
  | _, _, .scrK h => .scrK h
  | _, _, .exc h i n r =>
    let ⟨h1, h2, h3⟩ := k _ _ h i n
    .exc h1 h2 h3 (RepF.mono k r)
  | _, _, .exc0 => .exc0
  | _, _, .xob h i n h' i' n' r =>
    let ⟨h1, h2, h3⟩ := k _ _ h i n
    let ⟨g1, g2, g3⟩ := k _ _ h' i' n'
    .xob h1 h2 h3 g1 g2 g3 (RepF.mono k r)
  | _, _, .xob0 h i n =>
    let ⟨h1, h2, h3⟩ := k _ _ h i n
    .xob0 h1 h2 h3
theorem Reps.mono (k : Ok hid H μ hid' H' μ') : ∀ {vs : List V} {ds : List D}, Reps W hid H μ vs ds → Reps W hid' H' μ' vs ds
  | _, _, .nil => .nil
  | _, _, .cons h r => .cons (Rep.mono k h) (Reps.mono k r)
theorem RepF.mono (k : Ok hid H μ hid' H' μ') : ∀ {vs : List (Str × V)} {ds : List (Str × D)}, RepF W hid H μ vs ds → RepF W hid' H' μ' vs ds
  | _, _, .nil => .nil
  | _, _, .cons h r => .cons (Rep.mono k h) (RepF.mono k r)
end
end
/-- from (H, μ) one may come to (H', μ') -/
def St (H : Hp) (μ : Mu) (H' : Hp) (μ' : Mu) : Prop := ∀ a o, H a = some o → Im μ a → H' a = some o ∧ Im μ' a
theorem St.refl {H : Hp} {μ : Mu} : St H μ H μ := fun _ _ h i => ⟨h, i⟩
theorem St.trans {H H1 H2 : Hp} {μ μ1 μ2 : Mu} (a : St H μ H1 μ1) (b : St H1 μ1 H2 μ2) : St H μ H2 μ2 := fun x o h i => let ⟨h1, i1⟩ := a x o h i; b x o h1 i1
theorem St.ok {hid : Hid} {H H' : Hp} {μ μ' : Mu} (s : St H μ H' μ') : Ok hid H μ hid H' μ' := fun a o h i n => let ⟨h1, i1⟩ := s a o h i; ⟨h1, i1, n⟩
/-- entries of a dict -/
inductive RepK (W : Wo) (hid : Hid) (H : Hp) (μ : Mu) : List (Key × V) → List (Key × D) → Prop
  | nil : RepK W hid H μ [] []
  | cons {k : Key} {v : V} {vs : List (Key × V)} {d : D} {ds : List (Key × D)} : Rep W hid H μ v d → RepK W hid H μ vs ds → RepK W hid H μ ((k, v) :: vs) ((k, d) :: ds)
theorem RepK.mono {W : Wo} {hid hid' : Hid} {H H' : Hp} {μ μ' : Mu} (k : Ok hid H μ hid' H' μ') : ∀ {vs : List (Key × V)} {ds : List (Key × D)}, RepK W hid H μ vs ds → RepK W hid' H' μ' vs ds
  | _, _, .nil => .nil
  | _, _, .cons h r => .cons (h.mono k) (RepK.mono k r)
def MRep (W : Wo) (hid : Hid) (H : Hp) (μ : Mu) (a : Addr) : MO → Prop
  | .lst ds => ∃ vs, H a = some (.lst vs) ∧ Reps W hid H μ vs ds
  | .dic kvs => ∃ es, H a = some (.dK es) ∧ RepK W hid H μ es kvs
  | .ins C fs => ∃ dx gs, H a = some (.ins (W.cl C) dx gs) ∧ RepF W hid H μ gs fs ∧ W.cok C ∧ ∀ p ∈ fs, W.fok C p.1
  | .deal l => LB.Deal a l H
/-- the store is borne by the heap -/
structure SR (W : Wo) (hid : Hid) (H : Hp) (μ : Mu) : Prop where
  at_ : ∀ a m, μ a = some m → ¬ hid a ∧ MRep W hid H μ a m
  inn : ∀ d l, μ d = some (.deal l) → μ l = none ∧ ¬ hid l
  one : ∀ d d' l, μ d = some (.deal l) → μ d' = some (.deal l) → d = d'
  hk : ∀ a, hid a → ∃ o, H a = some o
section
variable {W : Wo} {hid : Hid} {H : Hp} {μ : Mu}
theorem SR.known (s : SR W hid H μ) {a : Addr} {m : MO} (h : μ a = some m) : ∃ o, H a = some o := by
  have q := (s.at_ a m h).2
  cases m with
  | lst ds => obtain ⟨vs, e, _⟩ := q; exact ⟨_, e⟩
  | dic kvs => obtain ⟨vs, e, _⟩ := q; exact ⟨_, e⟩
  | ins C fs => obtain ⟨dx, gs, e, _⟩ := q; exact ⟨_, e⟩
  | deal l => obtain ⟨s, n, left, C⟩ := q; exact ⟨_, C.hd⟩
theorem SR.inner (s : SR W hid H μ) {d l : Addr} (h : μ d = some (.deal l)) : ∃ o, H l = some o := by
  obtain ⟨_, _, _, C⟩ := (s.at_ d _ h).2
  exact ⟨_, C.hl⟩
/-- what is new is not in the store -/
theorem SR.fresh (s : SR W hid H μ) {p : Addr} (hp : H p = none) : Im μ p := by
  refine ⟨?_, fun d e => ?_⟩
  · cases e : μ p with
    | none => rfl
    | some m =>
      obtain ⟨o, q⟩ := s.known e
      rw [hp] at q
      cases q
  · obtain ⟨o, q⟩ := s.inner e
    rw [hp] at q
    cases q
theorem SR.nhid (s : SR W hid H μ) {p : Addr} (hp : H p = none) : ¬ hid p := fun h => by
  obtain ⟨o, q⟩ := s.hk p h
  rw [hp] at q
  cases q
theorem SR.him (s : SR W hid H μ) {a : Addr} (h : hid a) : Im μ a := by
  refine ⟨?_, fun d e => (s.inn d a e).2 h⟩
  cases e : μ a with
  | none => rfl
  | some m => exact ((s.at_ a m e).1 h).elim
theorem SR.hst (s : SR W hid H μ) {H' : Hp} {μ' : Mu} (k : St H μ H' μ') : ∀ a, hid a → ∃ o, H' a = some o := fun a h => by
  obtain ⟨o, q⟩ := s.hk a h
  exact ⟨o, (k a o q (s.him h)).1⟩
theorem St.new {p : Addr} {o : HO} (hp : H p = none) : St H μ (upd H p o) μ := fun a u h i => ⟨by rw [upd_ne (ne_of_none h hp)]; exact h, i⟩
theorem MRep.new {p a : Addr} {o : HO} {m : MO} (hp : H p = none) (h : MRep W hid H μ a m) : MRep W hid (upd H p o) μ a m := by
  have k : Ok hid H μ hid (upd H p o) μ := (St.new hp).ok
  have g : ∀ {b u}, H b = some u → upd H p o b = some u := fun e => by rw [upd_ne (ne_of_none e hp)]; exact e
  cases m with
  | lst ds => obtain ⟨vs, e, r⟩ := h; exact ⟨vs, g e, r.mono k⟩
  | dic kvs => obtain ⟨vs, e, r⟩ := h; exact ⟨vs, g e, r.mono k⟩
  | ins C fs => obtain ⟨dx, gs, e, r, c⟩ := h; exact ⟨dx, gs, g e, r.mono k, c⟩
  | deal l => exact LB.Deal.new h hp
theorem SR.new (s : SR W hid H μ) {p : Addr} {o : HO} (hp : H p = none) : SR W hid (upd H p o) μ :=
  ⟨fun a m h => ⟨(s.at_ a m h).1, (s.at_ a m h).2.new hp⟩, s.inn, s.one, s.hst (St.new hp)⟩
/-- a new thing that changes -/
theorem St.add {p : Addr} {o : HO} {m : MO} (hp : H p = none) (hm : ∀ l, m ≠ .deal l) : St H μ (upd H p o) (μ.set p m) := fun a u h i => by
  have ne := ne_of_none h hp
  refine ⟨by rw [upd_ne ne]; exact h, by rw [Mu.set_ne ne]; exact i.1, fun d e => ?_⟩
  by_cases hd : d = p
  · subst hd
    rw [Mu.set_same] at e
    exact hm _ (Option.some.inj e)
  · rw [Mu.set_ne hd] at e
    exact i.2 d e
theorem MRep.mono {hid hid' : Hid} {H' : Hp} {μ' : Mu} {a : Addr} {m : MO} (k : Ok hid H μ hid' H' μ') (g : H' a = H a) (gd : ∀ l, m = .deal l → H' l = H l) (h : MRep W hid H μ a m) : MRep W hid' H' μ' a m := by
  cases m with
  | lst ds => obtain ⟨vs, e, r⟩ := h; exact ⟨vs, g.trans e, r.mono k⟩
  | dic kvs => obtain ⟨vs, e, r⟩ := h; exact ⟨vs, g.trans e, r.mono k⟩
  | ins C fs => obtain ⟨dx, gs, e, r, c⟩ := h; exact ⟨dx, gs, g.trans e, r.mono k, c⟩
  | deal l =>
    obtain ⟨s, n, left, C⟩ := h
    exact ⟨s, n, left, g.trans C.hd, (gd l rfl).trans C.hl, C.s0, C.s1, C.n0, C.l0, C.l1⟩
theorem SR.add (s : SR W hid H μ) {p : Addr} {o : HO} {m : MO} (hp : H p = none) (hm : ∀ l, m ≠ .deal l) (hr : MRep W hid (upd H p o) (μ.set p m) p m) : SR W hid (upd H p o) (μ.set p m) := by
  have k : Ok hid H μ hid (upd H p o) (μ.set p m) := (St.add hp hm).ok
  have hh := s.nhid hp
  refine ⟨fun a n h => ?_, fun d l h => ?_, fun d d' l h h' => ?_, s.hst (St.add hp hm)⟩
  · by_cases e : a = p
    · subst e
      rw [Mu.set_same] at h
      cases h
      exact ⟨hh, hr⟩
    · rw [Mu.set_ne e] at h
      refine ⟨(s.at_ a n h).1, (s.at_ a n h).2.mono k (by rw [upd_ne e]) fun l e2 => ?_⟩
      subst e2
      obtain ⟨o', q⟩ := s.inner h
      rw [upd_ne (ne_of_none q hp)]
  · have hd : d ≠ p := fun e => by
      subst e
      rw [Mu.set_same] at h
      exact hm _ (Option.some.inj h)
    rw [Mu.set_ne hd] at h
    obtain ⟨o', q⟩ := s.inner h
    rw [Mu.set_ne (ne_of_none q hp)]
    exact s.inn d l h
  · have hd : d ≠ p := fun e => by
      subst e
      rw [Mu.set_same] at h
      exact hm _ (Option.some.inj h)
    have hd' : d' ≠ p := fun e => by
      subst e
      rw [Mu.set_same] at h'
      exact hm _ (Option.some.inj h')
    rw [Mu.set_ne hd] at h
    rw [Mu.set_ne hd'] at h'
    exact s.one d d' l h h'
/-- a thing of the store changes -/
def MO.plain : MO → Prop
  | .lst _ => True
  | .dic _ => True
  | .ins _ _ => True
  | _ => False
theorem MO.plain.nd {m : MO} (h : m.plain) : ∀ l, m ≠ .deal l := fun l e => by subst e; exact h
theorem St.put {x : Addr} {o : HO} {m m' : MO} (hx : μ x = some m) (hm' : m'.plain) : St H μ (upd H x o) (μ.set x m') := fun a u h i => by
  have ne : a ≠ x := fun e => by
    subst e
    have q := i.1
    rw [hx] at q
    cases q
  refine ⟨by rw [upd_ne ne]; exact h, by rw [Mu.set_ne ne]; exact i.1, fun d e => ?_⟩
  by_cases hd : d = x
  · subst hd
    rw [Mu.set_same] at e
    exact hm'.nd _ (Option.some.inj e)
  · rw [Mu.set_ne hd] at e
    exact i.2 d e
theorem SR.put (s : SR W hid H μ) {x : Addr} {o : HO} {m m' : MO} (hx : μ x = some m) (hm' : m'.plain) (hr : MRep W hid (upd H x o) (μ.set x m') x m') : SR W hid (upd H x o) (μ.set x m') := by
  have k : Ok hid H μ hid (upd H x o) (μ.set x m') := (St.put hx hm').ok
  refine ⟨fun a n h => ?_, fun d l h => ?_, fun d d' l h h' => ?_, s.hst (St.put hx hm')⟩
  · by_cases e : a = x
    · subst e
      rw [Mu.set_same] at h
      cases h
      exact ⟨(s.at_ a m hx).1, hr⟩
    · rw [Mu.set_ne e] at h
      refine ⟨(s.at_ a n h).1, (s.at_ a n h).2.mono k (by rw [upd_ne e]) fun l e2 => ?_⟩
      subst e2
      have q := (s.inn a l h).1
      have ne : l ≠ x := fun z => by subst z; rw [hx] at q; cases q
      rw [upd_ne ne]
  · have hd : d ≠ x := fun e => by
      subst e
      rw [Mu.set_same] at h
      exact hm'.nd _ (Option.some.inj h)
    rw [Mu.set_ne hd] at h
    have q := s.inn d l h
    have ne : l ≠ x := fun z => by subst z; rw [hx] at q; exact nomatch q.1
    rw [Mu.set_ne ne]
    exact q
  · have hd : d ≠ x := fun e => by
      subst e
      rw [Mu.set_same] at h
      exact hm'.nd _ (Option.some.inj h)
    have hd' : d' ≠ x := fun e => by
      subst e
      rw [Mu.set_same] at h'
      exact hm'.nd _ (Option.some.inj h')
    rw [Mu.set_ne hd] at h
    rw [Mu.set_ne hd'] at h'
    exact s.one d d' l h h'
/-- a smaller store -/
def Le (μ' μ : Mu) : Prop := ∀ a, μ' a = none ∨ μ' a = μ a
theorem Le.im {μ' : Mu} (h : Le μ' μ) {a : Addr} (i : Im μ a) : Im μ' a := by
  refine ⟨?_, fun d e => ?_⟩
  · rcases h a with q | q
    · exact q
    · exact q.trans i.1
  · rcases h d with q | q
    · rw [q] at e
      cases e
    · exact i.2 d (q.symm.trans e)
theorem Le.st {μ' : Mu} (h : Le μ' μ) : St H μ H μ' := fun a o e i => ⟨e, h.im i⟩
theorem SR.le {μ' : Mu} (s : SR W hid H μ) (h : Le μ' μ) : SR W hid H μ' := by
  have up : ∀ {a m}, μ' a = some m → μ a = some m := fun {a m} e => by
    rcases h a with q | q
    · rw [q] at e
      cases e
    · exact q.symm.trans e
  refine ⟨fun a m e => ⟨(s.at_ a m (up e)).1, (s.at_ a m (up e)).2.mono h.st.ok rfl fun _ _ => rfl⟩, fun d l e => ⟨?_, (s.inn d l (up e)).2⟩, fun d d' l e e' => s.one d d' l (up e) (up e'), s.hk⟩
  rcases h l with q | q
  · exact q
  · exact q.trans (s.inn d l (up e)).1
theorem Mu.inter_le {μ' μ : Mu} : Le (μ'.inter μ) μ' := fun a => by
  unfold Mu.inter
  split
  · exact .inr rfl
  · exact .inl rfl
end
/-! ### slots -/
abbrev Env := List (Option D)
inductive RepO (W : Wo) (hid : Hid) (H : Hp) (μ : Mu) : Option V → Option D → Prop
  | none : RepO W hid H μ none none
  | some {v : V} {d : D} : Rep W hid H μ v d → RepO W hid H μ (some v) (some d)
abbrev Rel (W : Wo) (hid : Hid) (H : Hp) (μ : Mu) : L2.St → Env → Prop := Paired (RepO W hid H μ)
theorem RepO.mono {W : Wo} {hid hid' : Hid} {H H' : Hp} {μ μ' : Mu} (k : Ok hid H μ hid' H' μ') {v : Option V} {d : Option D} : RepO W hid H μ v d → RepO W hid' H' μ' v d
  | .none => .none
  | .some h => .some (h.mono k)
theorem rel_mono {W : Wo} {hid hid' : Hid} {H H' : Hp} {μ μ' : Mu} {σ : L2.St} {ρ : Env} (k : Ok hid H μ hid' H' μ') (h : Rel W hid H μ σ ρ) : Rel W hid' H' μ' σ ρ := Paired.mono (fun _ _ q => q.mono k) h
theorem rel_get {W : Wo} {hid : Hid} {H : Hp} {μ : Mu} : ∀ {σ : L2.St} {ρ : Env} {i : Nat} {d : D}, Rel W hid H μ σ ρ → ρ[i]? = some (some d) → ∃ v, σ[i]? = some (some v) ∧ Rep W hid H μ v d
  | _, _, _, _, .nil, e => by simp at e
  | _, _, 0, d, .cons r _, e => by
    have e1 := Option.some.inj e
    subst e1
    cases r with
    | some q => exact ⟨_, rfl, q⟩
  | _, _, i + 1, d, .cons _ t, e => rel_get (i := i) t (by simpa using e)
theorem rel_set {W : Wo} {hid : Hid} {H : Hp} {μ : Mu} {v : Option V} {d : Option D} (r : RepO W hid H μ v d) : ∀ {σ : L2.St} {ρ : Env} (i : Nat), Rel W hid H μ σ ρ → Rel W hid H μ (σ.set i v) (ρ.set i d)
  | _, _, _, .nil => .nil
  | _, _, 0, .cons _ t => .cons r t
  | _, _, i + 1, .cons q t => .cons q (rel_set r i t)
/-- lists -/
theorem Reps.length {W : Wo} {hid : Hid} {H : Hp} {μ : Mu} : ∀ {vs : List V} {ds : List D}, Reps W hid H μ vs ds → vs.length = ds.length
  | _, _, .nil => rfl
  | _, _, .cons _ r => by rw [List.length_cons, List.length_cons, Reps.length r]
theorem Reps.get {W : Wo} {hid : Hid} {H : Hp} {μ : Mu} : ∀ {vs : List V} {ds : List D} {i : Nat} {d : D}, Reps W hid H μ vs ds → ds[i]? = some d → ∃ v, vs[i]? = some v ∧ Rep W hid H μ v d
  | _, _, _, _, .nil, e => by simp at e
  | _, _, 0, d, .cons r _, e => by
    have e1 := Option.some.inj e
    subst e1
    exact ⟨_, rfl, r⟩
  | _, _, i + 1, d, .cons _ t, e => Reps.get (i := i) t (by simpa using e)
theorem Reps.get' {W : Wo} {hid : Hid} {H : Hp} {μ : Mu} : ∀ {vs : List V} {ds : List D} {i : Nat} {v : V}, Reps W hid H μ vs ds → vs[i]? = some v → ∃ d, ds[i]? = some d ∧ Rep W hid H μ v d
  | _, _, _, _, .nil, e => by simp at e
  | _, _, 0, d, .cons r _, e => by
    have e1 := Option.some.inj e
    subst e1
    exact ⟨_, rfl, r⟩
  | _, _, i + 1, d, .cons _ t, e => Reps.get' (i := i) t (by simpa using e)
theorem Reps.append {W : Wo} {hid : Hid} {H : Hp} {μ : Mu} : ∀ {vs us : List V} {ds es : List D}, Reps W hid H μ vs ds → Reps W hid H μ us es → Reps W hid H μ (vs ++ us) (ds ++ es)
  | _, _, _, _, .nil, q => q
  | _, _, _, _, .cons h r, q => .cons h (Reps.append r q)
theorem Reps.set {W : Wo} {hid : Hid} {H : Hp} {μ : Mu} {v : V} {d : D} (r : Rep W hid H μ v d) : ∀ {vs : List V} {ds : List D} (i : Nat), Reps W hid H μ vs ds → Reps W hid H μ (vs.set i v) (ds.set i d)
  | _, _, _, .nil => .nil
  | _, _, 0, .cons _ t => .cons r t
  | _, _, i + 1, .cons q t => .cons q (Reps.set r i t)
theorem Reps.take {W : Wo} {hid : Hid} {H : Hp} {μ : Mu} : ∀ {vs : List V} {ds : List D} (n : Nat), Reps W hid H μ vs ds → Reps W hid H μ (vs.take n) (ds.take n)
  | _, _, 0, _ => .nil
  | _, _, _ + 1, .nil => .nil
  | _, _, n + 1, .cons h r => .cons h (Reps.take n r)
theorem Reps.drop {W : Wo} {hid : Hid} {H : Hp} {μ : Mu} : ∀ {vs : List V} {ds : List D} (n : Nat), Reps W hid H μ vs ds → Reps W hid H μ (vs.drop n) (ds.drop n)
  | _, _, 0, r => r
  | _, _, _ + 1, .nil => .nil
  | _, _, n + 1, .cons _ r => Reps.drop n r
theorem Reps.slots {W : Wo} {hid : Hid} {H : Hp} {μ : Mu} : ∀ {vs : List V} {ds : List D}, Reps W hid H μ vs ds → Rel W hid H μ (vs.map some) (ds.map some)
  | _, _, .nil => .nil
  | _, _, .cons h r => .cons (.some h) (Reps.slots r)
theorem rel_none {W : Wo} {hid : Hid} {H : Hp} {μ : Mu} : ∀ (n : Nat), Rel W hid H μ (List.replicate n none) (List.replicate n none)
  | 0 => .nil
  | n + 1 => .cons .none (rel_none n)
theorem rel_app {W : Wo} {hid : Hid} {H : Hp} {μ : Mu} : ∀ {σ τ : L2.St} {ρ π : Env}, Rel W hid H μ σ ρ → Rel W hid H μ τ π → Rel W hid H μ (σ ++ τ) (ρ ++ π)
  | _, _, _, _, .nil, q => q
  | _, _, _, _, .cons h r, q => .cons h (rel_app r q)
def startD (n : Nat) (ds : List D) : Env := ds.map some ++ List.replicate (n - ds.length) none
theorem rel_start {W : Wo} {hid : Hid} {H : Hp} {μ : Mu} {N : List Str} {vs : List V} {ds : List D} (r : Reps W hid H μ vs ds) : Rel W hid H μ (L2.start N vs) (startD N.length ds) := by
  unfold L2.start startD
  rw [r.length]
  exact rel_app r.slots (rel_none _)
/-- exact rows of ints, texts, bools -/
theorem reps_ints {W : Wo} {hid : Hid} {H : Hp} {μ : Mu} : ∀ {vs : List V} {ns : List Int}, Reps W hid H μ vs (ns.map D.int) → vs = ns.map V.int
  | _, [], h => by cases h; rfl
  | _, n :: ns, h => by
    cases h with
    | cons a b =>
      cases a
      rw [reps_ints b]
      rfl
theorem ints_reps {W : Wo} {hid : Hid} {H : Hp} {μ : Mu} : ∀ {ns : List Int}, Reps W hid H μ (ns.map V.int) (ns.map D.int)
  | [] => .nil
  | n :: ns => .cons (.int n) ints_reps
theorem reps_strs {W : Wo} {hid : Hid} {H : Hp} {μ : Mu} : ∀ {vs : List V} {ns : List Str}, Reps W hid H μ vs (ns.map D.str) → vs = ns.map V.str
  | _, [], h => by cases h; rfl
  | _, n :: ns, h => by
    cases h with
    | cons a b =>
      cases a
      rw [reps_strs b]
      rfl
theorem strs_reps {W : Wo} {hid : Hid} {H : Hp} {μ : Mu} : ∀ {ns : List Str}, Reps W hid H μ (ns.map V.str) (ns.map D.str)
  | [] => .nil
  | n :: ns => .cons (.str n) strs_reps
theorem reps_bls {W : Wo} {hid : Hid} {H : Hp} {μ : Mu} : ∀ {vs : List V} {ns : List Bool}, Reps W hid H μ vs (ns.map D.bl) → vs = ns.map V.bl
  | _, [], h => by cases h; rfl
  | _, n :: ns, h => by
    cases h with
    | cons a b =>
      cases a
      rw [reps_bls b]
      rfl
end PD
set_option Elab.async false
set_option linter.all false
set_option autoImplicit false
set_option maxRecDepth 100000
set_option maxHeartbeats 4000000
namespace PD
open PySem PySem.Spec PyProof.Rows L2
/-! ### judgements over data -/
/-- an exception: its class and its fields -/
structure XD where
  C : Str
  fs : List (Str × D)
abbrev XE := XD → Env → Mu → Prop
abbrev QD := D → Mu → Prop
abbrev TDE := XE → Env → Mu → QD → Prop
abbrev TDT := XE → Env → Mu → (Bool → Mu → Prop) → Prop
abbrev TDA := XE → Env → Mu → (List D → Mu → Prop) → Prop
/-- an exception has come -/
def XRep (W : Wo) (hid : Hid) (H : Hp) (μ : Mu) (x : XD) (cls : Value) (dd : Option Addr) : Prop :=
  cls = .ref (W.cl x.C) ∧ ((x.fs = [] ∧ dd = none) ∨ ∃ a fs, dd = some a ∧ H a = some (.xd fs) ∧ Im μ a ∧ ¬ hid a ∧ RepF W hid H μ fs x.fs)
def PQ (W : Wo) (hid : Hid) (H : Hp) (μ : Mu) (Qd : QD) (Q : VK) : Prop := ∀ v d H' μ', St H μ H' μ' → SR W hid H' μ' → Rep W hid H' μ' v d → Qd d μ' → Q v H'
def PX (W : Wo) (hid : Hid) (H : Hp) (μ : Mu) (σ : L2.St) (ρ : Env) (Xd : XE) (Wk : WX) : Prop := ∀ x cls dd H' μ', St H μ H' μ' → SR W hid H' μ' → XRep W hid H' μ' x cls dd → Xd x ρ μ' → Wk cls dd σ H'
def PB (W : Wo) (hid : Hid) (H : Hp) (μ : Mu) (Qd : Bool → Mu → Prop) (Q : Bool → Hp → Prop) : Prop := ∀ b H' μ', St H μ H' μ' → SR W hid H' μ' → Qd b μ' → Q b H'
def PL (W : Wo) (hid : Hid) (H : Hp) (μ : Mu) (Qd : List D → Mu → Prop) (Q : List V → Hp → Prop) : Prop := ∀ vs ds H' μ', St H μ H' μ' → SR W hid H' μ' → Reps W hid H' μ' vs ds → Qd ds μ' → Q vs H'
def TD (W : Wo) (Wk : WX) (td : TDE) : TE := fun σ H Q => ∃ hid ρ μ Xd Qd, Rel W hid H μ σ ρ ∧ SR W hid H μ ∧ td Xd ρ μ Qd ∧ PQ W hid H μ Qd Q ∧ PX W hid H μ σ ρ Xd Wk
def TDt (W : Wo) (Wk : WX) (td : TDT) : TT := fun σ H Q => ∃ hid ρ μ Xd Qd, Rel W hid H μ σ ρ ∧ SR W hid H μ ∧ td Xd ρ μ Qd ∧ PB W hid H μ Qd Q ∧ PX W hid H μ σ ρ Xd Wk
def TDa (W : Wo) (Wk : WX) (td : TDA) : TA := fun σ H Q => ∃ hid ρ μ Xd Qd, Rel W hid H μ σ ρ ∧ SR W hid H μ ∧ td Xd ρ μ Qd ∧ PL W hid H μ Qd Q ∧ PX W hid H μ σ ρ Xd Wk
abbrev BE (X : Cx) (W : Wo) (Wk : WX) (e : Expr) (td : TDE) : Prop := PE X e (TD W Wk td)
abbrev BT (X : Cx) (W : Wo) (Wk : WX) (e : Expr) (td : TDT) : Prop := PT X e (TDt W Wk td)
abbrev BW (X : Cx) (W : Wo) (Wk : WX) (e : Expr) (td : TDT) : Prop := PW X e (TDt W Wk td)
abbrev BA (X : Cx) (W : Wo) (Wk : WX) (es : List Expr) (td : TDA) : Prop := PA X es (TDa W Wk td)
theorem PE.weak {X : Cx} {e : Expr} {t t' : TE} (h : PE X e t) (k : ∀ σ H Q, t' σ H Q → t σ H Q) : PE X e t' := ⟨fun pins s σ H Q I q => h.run pins s σ H Q I (k σ H Q q)⟩
theorem PT.weak {X : Cx} {e : Expr} {t t' : TT} (h : PT X e t) (k : ∀ σ H Q, t' σ H Q → t σ H Q) : PT X e t' := ⟨fun pins s σ H Q I q => h.run pins s σ H Q I (k σ H Q q)⟩
theorem PW.weak {X : Cx} {e : Expr} {t t' : TT} (h : PW X e t) (k : ∀ σ H Q, t' σ H Q → t σ H Q) : PW X e t' := ⟨fun w pins s σ H Q I q => h.run w pins s σ H Q I (k σ H Q q)⟩
theorem PA.weak {X : Cx} {e : List Expr} {t t' : TA} (h : PA X e t) (k : ∀ σ H Q, t' σ H Q → t σ H Q) : PA X e t' := ⟨fun p pins s σ H Q I q => h.run p pins s σ H Q I (k σ H Q q)⟩
section
variable {W : Wo} {hid : Hid} {H H1 : Hp} {μ μ1 : Mu}
theorem PQ.st {Qd : QD} {Q : VK} (p : PQ W hid H μ Qd Q) (s : St H μ H1 μ1) : PQ W hid H1 μ1 Qd Q := fun v d H' μ' s' => p v d H' μ' (s.trans s')
theorem PX.st {σ : L2.St} {ρ : Env} {Xd : XE} {Wk : WX} (p : PX W hid H μ σ ρ Xd Wk) (s : St H μ H1 μ1) : PX W hid H1 μ1 σ ρ Xd Wk := fun x c d H' μ' s' => p x c d H' μ' (s.trans s')
theorem PB.st {Qd : Bool → Mu → Prop} {Q : Bool → Hp → Prop} (p : PB W hid H μ Qd Q) (s : St H μ H1 μ1) : PB W hid H1 μ1 Qd Q := fun b H' μ' s' => p b H' μ' (s.trans s')
theorem PL.st {Qd : List D → Mu → Prop} {Q : List V → Hp → Prop} (p : PL W hid H μ Qd Q) (s : St H μ H1 μ1) : PL W hid H1 μ1 Qd Q := fun v d H' μ' s' => p v d H' μ' (s.trans s')
end
/-! ### names and constants -/
def eVar (i : Nat) : TDE := fun _ ρ μ Q => match ρ[i]? with | some (some d) => Q d μ | _ => False
def eC (d : D) : TDE := fun _ _ μ Q => Q d μ
section
variable {X : Cx} {W : Wo} {Wk : WX}
theorem be_of_var {e : Expr} {i : Nat} (h : PE X e (tVar i)) : BE X W Wk e (eVar i) := PE.weak h fun σ H Q ⟨hid, ρ, μ, Xd, Qd, rel, sr, q, pq, px⟩ => by
  unfold eVar at q
  split at q
  · rename_i d hd
    obtain ⟨v, hv, r⟩ := rel_get rel hd
    exact ⟨v, hv, pq v d H μ .refl sr r q⟩
  · exact q.elim
theorem be_of_c {e : Expr} {v : V} {d : D} (h : PE X e (tC v)) (r : ∀ hid H μ, Rep W hid H μ v d) : BE X W Wk e (eC d) := PE.weak h fun σ H Q ⟨hid, ρ, μ, Xd, Qd, rel, sr, q, pq, px⟩ => pq v d H μ .refl sr (r _ _ _) q
theorem bv (i : Nat) {x : Str} {pos : Pos} (hN : X.N[i]? = some x := by rfl) (hv : Vis X.env.scope x := by first | exact Or.inl rfl | exact Or.inr (Or.inl rfl) | exact Or.inr (Or.inr rfl)) (hd : (x == ("__debug__" : Str)) = false := by decide)
    (hcd : (x == ("__classdict__" : Str)) = false := by decide) : BE X W Wk (.Name x pos) (eVar i) := be_of_var (pe_var hN hv hd hcd)
theorem be_int {i j pos} : BE X W Wk (.Constant (.int i) j pos) (eC (.int i)) := be_of_c pe_int fun _ _ _ => .int i
theorem be_bl {b j pos} : BE X W Wk (.Constant (.bool b) j pos) (eC (.bl b)) := be_of_c pe_bl fun _ _ _ => .bl b
theorem be_non {j pos} : BE X W Wk (.Constant .none j pos) (eC .non) := be_of_c pe_non fun _ _ _ => .non
theorem be_str {x j pos} : BE X W Wk (.Constant (.str x) j pos) (eC (.str x)) := be_of_c pe_str fun _ _ _ => .str x
theorem be_gint {x : Str} {i : Int} {pos : Pos} (hg : Gl X x) (hm : ∃ t, X.mg x = some (.int i t)) (hdb : (x == ("__debug__" : Str)) = false := by decide) : BE X W Wk (.Name x pos) (eC (.int i)) := be_of_c (LB.pe_gint hg hm hdb) fun _ _ _ => .int i
/-- a written thing by its name: d its data -/
structure GTxt (W : Wo) (mg : Str → Option Value) (x : Str) (d : D) : Prop where
  ex : ∃ u v, mg x = some u ∧ RelV v u ∧ ∀ hid H μ, Rep W hid H μ v d
theorem be_glob {x : Str} {d : D} {pos : Pos} (hg : Gl X x) (hm : GTxt W X.mg x d) (hdb : (x == ("__debug__" : Str)) = false := by decide) : BE X W Wk (.Name x pos) (eC d) := by
  obtain ⟨u, v, h1, h2, h3⟩ := hm.ex
  exact be_of_c (pe_glob hg h1 h2 hdb) h3
/-! ### operators -/
abbrev OD := D → D → Mu → QD → Prop
def rD (W : Wo) (o : OD) : R2 := fun x y H Q => ∃ hid μ d e Qd, SR W hid H μ ∧ Rep W hid H μ x d ∧ Rep W hid H μ y e ∧ o d e μ Qd ∧ PQ W hid H μ Qd Q
def eBin (o : OD) (ta tb : TDE) : TDE := fun Xd ρ μ Q => ta Xd ρ μ fun d μ1 => tb Xd ρ μ1 fun e μ2 => o d e μ2 Q
theorem bin_td {o : OD} {ta tb : TDE} {σ : L2.St} {H : Hp} {Q : VK} (h : TD W Wk (eBin o ta tb) σ H Q) : tOp (rD W o) (TD W Wk ta) (TD W Wk tb) σ H Q := by
  obtain ⟨hid, ρ, μ, Xd, Qd, rel, sr, q, pq, px⟩ := h
  refine ⟨hid, ρ, μ, Xd, _, rel, sr, q, fun v d H1 μ1 s1 sr1 r1 q1 => ?_, px⟩
  refine ⟨hid, ρ, μ1, Xd, _, rel_mono s1.ok rel, sr1, q1, fun w e H2 μ2 s2 sr2 r2 q2 => ?_, px.st s1⟩
  exact ⟨hid, μ2, d, e, Qd, sr2, r1.mono s2.ok, r2, q2, pq.st (s1.trans s2)⟩
theorem be_op {op : Operator} {o : OD} {a b : Expr} {ta tb : TDE} {pos : Pos} (ho : OpR X (binaryOp op) (rD W o)) (ha : BE X W Wk a ta) (hb : BE X W Wk b tb) : BE X W Wk (.BinOp a op b pos) (eBin o ta tb) :=
  PE.weak (pe_op ho ha hb) fun _ _ _ h => bin_td h
theorem be_cmp {op : CmpOp} {o : OD} {a b : Expr} {ta tb : TDE} {pos : Pos} (ho : OpR X (compareOp op) (rD W o)) (ha : BE X W Wk a ta) (hb : BE X W Wk b tb) (hm : behindInMarks op b = false) : BE X W Wk (.Compare a [op] [b] pos) (eBin o ta tb) :=
  PE.weak (pe_cmpR ho ha hb hm) fun _ _ _ h => bin_td h
theorem be_ix {o : OD} {a b : Expr} {ta tb : TDE} {pos : Pos} (ho : IxR X (rD W o)) (ha : BE X W Wk a ta) (hb : BE X W Wk b tb) (hs : PlainIx b) : BE X W Wk (.Subscript a b pos) (eBin o ta tb) :=
  PE.weak (pe_ix ho ha hb hs) fun _ _ _ h => bin_td h
abbrev UD := D → Mu → QD → Prop
def rUD (W : Wo) (o : UD) : V → Hp → VK → Prop := fun x H Q => ∃ hid μ d Qd, SR W hid H μ ∧ Rep W hid H μ x d ∧ o d μ Qd ∧ PQ W hid H μ Qd Q
def eUn (o : UD) (ta : TDE) : TDE := fun Xd ρ μ Q => ta Xd ρ μ fun d μ1 => o d μ1 Q
theorem be_un {op : UnaryOp} {o : UD} {a : Expr} {ta : TDE} {pos : Pos} (ho : UnR X (unaryOp op) (rUD W o)) (ha : BE X W Wk a ta) : BE X W Wk (.UnaryOp op a pos) (eUn o ta) :=
  PE.weak (pe_un ho ha) fun σ H Q ⟨hid, ρ, μ, Xd, Qd, rel, sr, q, pq, px⟩ => ⟨hid, ρ, μ, Xd, _, rel, sr, q, fun v d H1 μ1 s1 sr1 r1 q1 => ⟨hid, μ1, d, Qd, sr1, r1, q1, pq.st s1⟩, px⟩
/-! ### arguments, tuples, lists -/
def aNil : TDA := fun _ _ μ Q => Q [] μ
def aCons (te : TDE) (tr : TDA) : TDA := fun Xd ρ μ Q => te Xd ρ μ fun d μ1 => tr Xd ρ μ1 fun ds μ2 => Q (d :: ds) μ2
theorem ba_nil : BA X W Wk [] aNil := PA.weak pa_nil fun σ H Q ⟨hid, ρ, μ, Xd, Qd, rel, sr, q, pq, px⟩ => pq [] [] H μ .refl sr .nil q
theorem ba_cons {e : Expr} {es : List Expr} {te : TDE} {tr : TDA} (ha : BE X W Wk e te) (hr : BA X W Wk es tr) (hs : starEach (e :: es) X.env = (false, eval e X.env) :: starEach es X.env := by rfl) : BA X W Wk (e :: es) (aCons te tr) :=
  PA.weak (pa_cons ha hr hs) fun σ H Q ⟨hid, ρ, μ, Xd, Qd, rel, sr, q, pq, px⟩ => by
    refine ⟨hid, ρ, μ, Xd, _, rel, sr, q, fun v d H1 μ1 s1 sr1 r1 q1 => ?_, px⟩
    refine ⟨hid, ρ, μ1, Xd, _, rel_mono s1.ok rel, sr1, q1, fun vs ds H2 μ2 s2 sr2 r2 q2 => ?_, px.st s1⟩
    exact pq _ _ H2 μ2 (s1.trans s2) sr2 (.cons (r1.mono s2.ok) r2) q2
def eTup (ta : TDA) : TDE := fun Xd ρ μ Q => ta Xd ρ μ fun ds μ1 => ds.length ≤ sizeLine ∧ Q (.tup ds) μ1
/-- a new list: a tree, or a thing of the store -/
def newL (m : Bool) (ds : List D) (μ : Mu) (Q : QD) : Prop := match m with
  | false => Q (.lst ds) μ
  | true => ∀ p, μ p = none → Q (.ptr p) (μ.set p (.lst ds))
def eLst (m : Bool) (ta : TDA) : TDE := fun Xd ρ μ Q => ta Xd ρ μ fun ds μ1 => ds.length ≤ sizeLine ∧ newL m ds μ1 Q
/-- hidden things are known -/
theorem newL_ok {m : Bool} {hid : Hid} {H : Hp} {μ : Mu} {ds : List D} {vs : List V} {Qd : QD} {Q : VK} {p : Addr} (sr : SR W hid H μ) (r : Reps W hid H μ vs ds) (hp : H p = none) (q : newL m ds μ Qd) (pq : PQ W hid H μ Qd Q) : Q (.ref p) (upd H p (.lst vs)) := by
  cases m with
  | false => exact pq _ _ _ μ (St.new hp) (sr.new hp) (.lst upd_same (sr.fresh hp) (sr.nhid hp) (r.mono (St.new hp).ok)) q
  | true =>
    have hn : ∀ l, MO.lst ds ≠ .deal l := fun l e => by cases e
    exact pq _ _ _ _ (St.add hp hn) (sr.add hp hn ⟨vs, upd_same, r.mono (St.add hp hn).ok⟩) (.ptr p) (q p (sr.fresh hp).1)
end
end PD
set_option Elab.async false
set_option linter.all false
set_option autoImplicit false
set_option maxRecDepth 100000
set_option maxHeartbeats 4000000
namespace PD
open PySem PySem.Spec PyProof.Rows L2
/-! ### what a datum is as a list -/
def lstOf (d : D) (μ : Mu) : Option (List D) := match d with
  | .lst ds => some ds
  | .scr ns => some (ns.map D.int)
  | .ptr a => match μ a with
    | some (.lst ds) => some ds
    | _ => none
  | _ => none
def lstW (d : D) (μ : Mu) : Option (List D) := match d with
  | .lst ds => some ds
  | .ptr a => match μ a with
    | some (.lst ds) => some ds
    | _ => none
  | _ => none
def seqOf (d : D) (μ : Mu) : Option (List D) := match d with
  | .tup ds => some ds
  | d => lstOf d μ
section
variable {W : Wo} {hid : Hid} {H : Hp} {μ : Mu}
theorem lstOf_ok {v : V} {d : D} {ds : List D} (e : lstOf d μ = some ds) (sr : SR W hid H μ) (r : Rep W hid H μ v d) : ∃ a vs, v = .ref a ∧ SqL W.K H a vs ∧ Reps W hid H μ vs ds := by
  cases r with
  | lst h _ _ q =>
    cases e
    exact ⟨_, _, rfl, SqL.of h, q⟩
  | ptr a =>
    unfold lstOf at e
    dsimp only at e
    cases hm : μ a with
    | none => rw [hm] at e; cases e
    | some m =>
      rw [hm] at e
      cases m with
      | lst zs =>
        cases e
        obtain ⟨vs, h, q⟩ := (sr.at_ a _ hm).2
        exact ⟨a, vs, rfl, SqL.of h, q⟩
      | dic _ => cases e
      | ins _ _ => cases e
      | deal _ => cases e
  | scr h _ _ =>
    cases e
    exact ⟨_, _, rfl, .inl h, ints_reps⟩
  | scrK h =>
    cases e
    exact ⟨_, _, rfl, h _, ints_reps⟩
  | _ => cases e
theorem lstW_ok {v : V} {d : D} {ds : List D} (e : lstW d μ = some ds) (sr : SR W hid H μ) (r : Rep W hid H μ v d) : ∃ a vs, v = .ref a ∧ H a = some (.lst vs) ∧ Reps W hid H μ vs ds := by
  cases r with
  | lst h _ _ q =>
    cases e
    exact ⟨_, _, rfl, h, q⟩
  | ptr a =>
    unfold lstW at e
    dsimp only at e
    cases hm : μ a with
    | none => rw [hm] at e; cases e
    | some m =>
      rw [hm] at e
      cases m with
      | lst zs =>
        cases e
        obtain ⟨vs, h, q⟩ := (sr.at_ a _ hm).2
        exact ⟨a, vs, rfl, h, q⟩
      | _ => cases e
  | _ => cases e
theorem tup_ok {v : V} {ds : List D} (r : Rep W hid H μ v (.tup ds)) : ∃ a vs, v = .ref a ∧ SqT W.K H a vs ∧ Reps W hid H μ vs ds := by
  cases r with
  | tup h _ _ q => exact ⟨_, _, rfl, .inl h, q⟩
  | tupK h q => exact ⟨_, _, rfl, .inr h, q⟩
theorem seqOf_ok {v : V} {d : D} {ds : List D} (e : seqOf d μ = some ds) (sr : SR W hid H μ) (r : Rep W hid H μ v d) : ∃ a vs, v = .ref a ∧ (SqL W.K H a vs ∨ SqT W.K H a vs) ∧ Reps W hid H μ vs ds := by
  cases d with
  | tup xs =>
    cases e
    obtain ⟨a, vs, e1, h, q⟩ := tup_ok r
    exact ⟨a, vs, e1, .inr h, q⟩
  | _ =>
    have k := fun e' => lstOf_ok (ds := ds) e' sr r
    obtain ⟨a, vs, e1, h, q⟩ := k e
    exact ⟨a, vs, e1, .inl h, q⟩
end
/-! ### operators over data -/
def oAdd (m : Bool) : OD := fun d e μ Q => match d, e with
  | .int i, .int j => Q (.int (i + j)) μ
  | .str a, .str b => a.length + b.length ≤ sizeLine ∧ Q (.str (a ++ b)) μ
  | .tup a, .tup b => a.length + b.length ≤ sizeLine ∧ Q (.tup (a ++ b)) μ
  | d, e => match lstW d μ, lstW e μ with
    | some a, some b => a.length + b.length ≤ sizeLine ∧ newL m (a ++ b) μ Q
    | _, _ => False
theorem OpR.or {X : Cx} {f : Value → Value → Sem Value} {r q : R2} (h : OpR X f r) (k : OpR X f q) : OpR X f (fun x y H Q => r x y H Q ∨ q x y H Q) := fun pins s σ H x y v u Q I rx ry z => z.elim (h pins s σ H x y v u Q I rx ry) (k pins s σ H x y v u Q I rx ry)
theorem OpR.weak {X : Cx} {f : Value → Value → Sem Value} {r q : R2} (h : OpR X f r) (k : ∀ x y H Q, q x y H Q → r x y H Q) : OpR X f q := fun pins s σ H x y v u Q I rx ry z => h pins s σ H x y v u Q I rx ry (k x y H Q z)
section
variable {X : Cx} {W : Wo} {Wk : WX}
/-- a new tuple -/
theorem newT_ok {hid : Hid} {H : Hp} {μ : Mu} {ds : List D} {vs : List V} {Qd : QD} {Q : VK} {p : Addr} (sr : SR W hid H μ) (r : Reps W hid H μ vs ds) (hp : H p = none) (q : Qd (.tup ds) μ) (pq : PQ W hid H μ Qd Q) : Q (.ref p) (upd H p (.tup vs)) :=
  pq _ _ _ μ (St.new hp) (sr.new hp) (.tup (.inl upd_same) (sr.fresh hp) (sr.nhid hp) (r.mono (St.new hp).ok)) q
theorem od_add {m : Bool} (hK : X.K = W.K) : OpR X (binaryOp .Add) (rD W (oAdd m)) := by
  refine OpR.weak (OpR.or op_add (OpR.or op_add_str (OpR.or op_catA op_cat))) fun x y H Q ⟨hid, μ, d, e, Qd, sr, rx, ry, h, pq⟩ => ?_
  have lists : ∀ a b, lstW d μ = some a → lstW e μ = some b → a.length + b.length ≤ sizeLine → newL m (a ++ b) μ Qd → rCat x y H Q := fun a b ea eb hl hn => by
    obtain ⟨pa, va, rfl, ha, qa⟩ := lstW_ok ea sr rx
    obtain ⟨pb, vb, rfl, hb, qb⟩ := lstW_ok eb sr ry
    exact ⟨pa, pb, va, vb, rfl, rfl, ha, hb, by rw [qa.length, qb.length]; exact hl, fun p hp => newL_ok sr (qa.append qb) hp hn pq⟩
  unfold oAdd at h
  split at h
  · cases rx
    cases ry
    exact .inl ⟨_, _, rfl, rfl, pq _ _ H μ .refl sr (.int _) h⟩
  · cases rx
    cases ry
    exact .inr (.inl ⟨_, _, rfl, rfl, h.1, pq _ _ H μ .refl sr (.str _) h.2⟩)
  · rename_i a b
    obtain ⟨pa, va, rfl, ha, qa⟩ := tup_ok rx
    obtain ⟨pb, vb, rfl, hb, qb⟩ := tup_ok ry
    rw [← hK] at ha hb
    refine .inr (.inr (.inl ⟨pa, pb, va, vb, rfl, rfl, ha, hb, by rw [qa.length, qb.length]; exact h.1, fun e1 => ?_, fun _ e1 => ?_, fun _ _ p hp => newT_ok sr (qa.append qb) hp h.2 pq⟩))
    · subst e1
      cases qa
      exact pq _ _ H μ .refl sr ry h.2
    · subst e1
      cases qb
      have h2 := h.2
      rw [List.append_nil] at h2
      exact pq _ _ H μ .refl sr rx h2
  · split at h
    · rename_i a b ea eb
      exact .inr (.inr (.inr (lists a b ea eb h.1 h.2)))
    · exact h.elim
/-- two ints -/
def oI (C : Int → Int → Prop) (g : Int → Int → D) : OD := fun d e μ Q => match d, e with
  | .int i, .int j => C i j ∧ Q (g i j) μ
  | _, _ => False
theorem od_I {f : Value → Value → Sem Value} {C : Int → Int → Prop} {g : Int → Int → V} {gd : Int → Int → D} (h : OpR X f (rI C g)) (hg : ∀ i j hid H μ, Rep W hid H μ (g i j) (gd i j)) : OpR X f (rD W (oI C gd)) :=
  OpR.weak h fun x y H Q ⟨hid, μ, d, e, Qd, sr, rx, ry, h, pq⟩ => by
    unfold oI at h
    split at h
    · cases rx
      cases ry
      exact ⟨_, _, rfl, rfl, h.1, pq _ _ H μ .refl sr (hg _ _ _ _ _) h.2⟩
    · exact h.elim
def oI0 (g : Int → Int → D) : OD := fun d e μ Q => match d, e with
  | .int i, .int j => Q (g i j) μ
  | _, _ => False
theorem od_I0 {f : Value → Value → Sem Value} {g : Int → Int → V} {gd : Int → Int → D} (h : OpR X f (rI0 g)) (hg : ∀ i j hid H μ, Rep W hid H μ (g i j) (gd i j)) : OpR X f (rD W (oI0 gd)) :=
  OpR.weak h fun x y H Q ⟨hid, μ, d, e, Qd, sr, rx, ry, h, pq⟩ => by
    unfold oI0 at h
    split at h
    · cases rx
      cases ry
      exact ⟨_, _, rfl, rfl, pq _ _ H μ .refl sr (hg _ _ _ _ _) h⟩
    · exact h.elim
abbrev oSub : OD := oI0 fun i j => .int (i - j)
theorem od_sub : OpR X (binaryOp .Sub) (rD W oSub) := od_I0 op_sub fun _ _ _ _ _ => .int _
abbrev oDiv : OD := oI CDivW fun i j => .int (i / j)
theorem od_div : OpR X (binaryOp .FloorDiv) (rD W oDiv) := od_I op_fdivW fun _ _ _ _ _ => .int _
abbrev oMod : OD := oI (fun _ j => 0 < j) fun i j => .int (i % j)
theorem od_mod : OpR X (binaryOp .Mod) (rD W oMod) := od_I op_mod fun _ _ _ _ _ => .int _
abbrev oPow : OD := oI CPow fun i j => .int (i ^ j.toNat)
theorem od_pow : OpR X (binaryOp .Pow) (rD W oPow) := od_I op_pow fun _ _ _ _ _ => .int _
abbrev oShl : OD := oI CShl fun i j => .int (i * 2 ^ j.toNat)
theorem od_shl : OpR X (binaryOp .LShift) (rD W oShl) := od_I op_shlW fun _ _ _ _ _ => .int _
abbrev oShr : OD := oI (fun _ j => 0 ≤ j) fun i j => .int (i / 2 ^ j.toNat)
theorem od_shr : OpR X (binaryOp .RShift) (rD W oShr) := od_I op_shr fun _ _ _ _ _ => .int _
abbrev oAnd : OD := oI0 fun i j => .int (Builtin.bitAnd i j)
theorem od_and : OpR X (binaryOp .BitAnd) (rD W oAnd) := od_I0 op_and fun _ _ _ _ _ => .int _
abbrev oOr : OD := oI0 fun i j => .int (Builtin.bitOr i j)
theorem od_or : OpR X (binaryOp .BitOr) (rD W oOr) := od_I0 op_or fun _ _ _ _ _ => .int _
abbrev oXor : OD := oI0 fun i j => .int (Builtin.bitXor i j)
theorem od_xor : OpR X (binaryOp .BitXor) (rD W oXor) := od_I0 op_xor fun _ _ _ _ _ => .int _
abbrev oLt : OD := oI0 fun i j => .bl (decide (i < j))
theorem od_lt : OpR X (compareOp .Lt) (rD W oLt) := od_I0 op_lt fun _ _ _ _ _ => .bl _
abbrev oLe : OD := oI0 fun i j => .bl (decide (i ≤ j))
theorem od_le : OpR X (compareOp .LtE) (rD W oLe) := od_I0 op_le fun _ _ _ _ _ => .bl _
abbrev oGt : OD := oI0 fun i j => .bl (decide (i > j))
theorem od_gt : OpR X (compareOp .Gt) (rD W oGt) := od_I0 op_gt fun _ _ _ _ _ => .bl _
abbrev oGe : OD := oI0 fun i j => .bl (decide (i ≥ j))
theorem od_ge : OpR X (compareOp .GtE) (rD W oGe) := od_I0 op_ge fun _ _ _ _ _ => .bl _
theorem op_mulG : OpR X (binaryOp .Mult) (rI IntMulOk fun i j => .int (i * j)) := opI fun _ _ _ _ _ _ _ hc q => mul_int q hc
def oMul (m : Bool) : OD := fun d e μ Q => match d, e with
  | .int i, .int j => IntMulOk i j ∧ Q (.int (i * j)) μ
  | d, .int k => match lstW d μ with
    | some a => -(2 ^ 63) ≤ k ∧ k < 2 ^ 63 ∧ a.length * k.toNat ≤ sizeLine ∧ newL m (List.replicate k.toNat a).flatten μ Q
    | _ => False
  | _, _ => False
theorem Reps.rep {W : Wo} {hid : Hid} {H : Hp} {μ : Mu} {vs : List V} {ds : List D} (r : Reps W hid H μ vs ds) : ∀ (n : Nat), Reps W hid H μ (List.replicate n vs).flatten (List.replicate n ds).flatten
  | 0 => .nil
  | n + 1 => r.append (Reps.rep r n)
theorem od_mul {m : Bool} : OpR X (binaryOp .Mult) (rD W (oMul m)) := by
  refine OpR.weak (OpR.or op_mulG op_rep) fun x y H Q ⟨hid, μ, d, e, Qd, sr, rx, ry, h, pq⟩ => ?_
  unfold oMul at h
  split at h
  · cases rx
    cases ry
    exact .inl ⟨_, _, rfl, rfl, h.1, pq _ _ H μ .refl sr (.int _) h.2⟩
  · split at h
    · rename_i a ea
      obtain ⟨pa, va, rfl, ha, qa⟩ := lstW_ok ea sr rx
      cases ry
      exact .inr ⟨pa, _, va, rfl, rfl, ha, h.1, h.2.1, by rw [qa.length]; exact h.2.2.1, fun p hp => newL_ok sr (qa.rep _) hp h.2.2.2 pq⟩
    · exact h.elim
  · exact h.elim
def uNeg : UD := fun d μ Q => match d with
  | .int i => Q (.int (-i)) μ
  | _ => False
theorem ud_neg : UnR X (unaryOp .USub) (rUD W uNeg) := fun pins s σ H x v Q I rx ⟨hid, μ, d, Qd, sr, r, h, pq⟩ => un_neg pins s σ H x v Q I rx (by
  unfold uNeg at h
  split at h
  · cases r
    exact ⟨_, rfl, pq _ _ H μ .refl sr (.int _) h⟩
  · exact h.elim)
/-! ### is None -/
def isN : D → Bool
  | .non => true
  | _ => false
theorem isN_ok {hid : Hid} {H : Hp} {μ : Mu} {v : V} {d : D} (r : Rep W hid H μ v d) : decide (v = .non) = isN d := by
  cases r <;> simp [isN]
def oIs : OD := fun d e μ Q => match e with
  | .non => Q (.bl (isN d)) μ
  | _ => False
def oIsNot : OD := fun d e μ Q => match e with
  | .non => Q (.bl (!isN d)) μ
  | _ => False
theorem od_is : OpR X (compareOp .Is) (rD W oIs) := OpR.weak op_isN fun x y H Q ⟨hid, μ, d, e, Qd, sr, rx, ry, h, pq⟩ => by
  unfold oIs at h
  split at h
  · cases ry
    exact ⟨rfl, by rw [isN_ok rx]; exact pq _ _ H μ .refl sr (.bl _) h⟩
  · exact h.elim
theorem od_isNot : OpR X (compareOp .IsNot) (rD W oIsNot) := OpR.weak op_notN fun x y H Q ⟨hid, μ, d, e, Qd, sr, rx, ry, h, pq⟩ => by
  unfold oIsNot at h
  split at h
  · cases ry
    exact ⟨rfl, by rw [isN_ok rx]; exact pq _ _ H μ .refl sr (.bl _) h⟩
  · exact h.elim
/-! ### == of plain data -/
mutual
/-- a datum as plain data -/
def pyD (μ : Mu) : D → Option PyData
  | .non => some .none
  | .bl b => some (.bool b)
  | .int i => some (.int i)
  | .str s => some (.str s)
  | .tup xs => (pyDs μ xs).map .tuple
  | .lst xs => (pyDs μ xs).map .list
  | .ptr a => match μ a with
    | some (.lst ds) => (flatDs ds).map .list
    | _ => none
  | .ty _ => none
  | .obj _ _ => none
  | .dct _ => none
  | .scr _ => none
  | .cls _ => none
  | .exc _ _ _ _ => none
  | .xob _ _ => none
def pyDs (μ : Mu) : List D → Option (List PyData)
  | [] => some []
  | d :: ds => match pyD μ d, pyDs μ ds with
    | some x, some xs => some (x :: xs)
    | _, _ => none
/-- without things of the store -/
def flatD : D → Option PyData
  | .non => some .none
  | .bl b => some (.bool b)
  | .int i => some (.int i)
  | .str s => some (.str s)
  | .tup xs => (flatDs xs).map .tuple
  | .lst xs => (flatDs xs).map .list
  | .ptr _ => none
  | .ty _ => none
  | .obj _ _ => none
  | .dct _ => none
  | .scr _ => none
  | .cls _ => none
  | .exc _ _ _ _ => none
  | .xob _ _ => none
def flatDs : List D → Option (List PyData)
  | [] => some []
  | d :: ds => match flatD d, flatDs ds with
    | some x, some xs => some (x :: xs)
    | _, _ => none
end
end
end PD
set_option Elab.async false
set_option linter.all false
set_option autoImplicit false
set_option maxRecDepth 100000
set_option maxHeartbeats 4000000
namespace PD
open PySem PySem.Spec PyProof.Rows L2
section
variable {W : Wo} {hid : Hid} {H : Hp} {μ : Mu}
mutual
theorem dp_flat : ∀ {d : D} {x : PyData} {v : V}, flatD d = some x → Rep W hid H μ v d → Dp W.K H v x
  | .non, x, v, e, r => by
    cases r
    cases (Option.some.inj (show some PyData.none = some x from e))
    exact .non
  | .bl b, x, v, e, r => by
    cases r
    cases (Option.some.inj (show some (PyData.bool b) = some x from e))
    exact .bl b
  | .int b, x, v, e, r => by
    cases r
    cases (Option.some.inj (show some (PyData.int b) = some x from e))
    exact .int b
  | .str b, x, v, e, r => by
    cases r
    cases (Option.some.inj (show some (PyData.str b) = some x from e))
    exact .str b
  | .tup xs, x, v, e, r => by
    have e' : (flatDs xs).map PyData.tuple = some x := by simpa only [flatD] using e
    cases h : flatDs xs with
    | none => rw [h] at e'; cases e'
    | some ys =>
      rw [h] at e'
      cases e'
      obtain ⟨a, vs, rfl, ha, q⟩ := tup_ok r
      exact .tup ha (dps_flat h q)
  | .lst xs, x, v, e, r => by
    have e' : (flatDs xs).map PyData.list = some x := by simpa only [flatD] using e
    cases h : flatDs xs with
    | none => rw [h] at e'; cases e'
    | some ys =>
      rw [h] at e'
      cases e'
      cases r with
      | lst ha _ _ q => exact .lst (SqL.of ha) (dps_flat h q)
  | .ptr _, x, v, e, r => by simp only [flatD] at e; cases e
  | .ty _, x, v, e, r => by simp only [flatD] at e; cases e
  | .obj _ _, x, v, e, r => by simp only [flatD] at e; cases e
  | .dct _, x, v, e, r => by simp only [flatD] at e; cases e
  | .scr _, x, v, e, r => by simp only [flatD] at e; cases e
  | .cls _, x, v, e, r => by simp only [flatD] at e; cases e
  | .exc _ _ _ _, x, v, e, r => by simp only [flatD] at e; cases e
  | .xob _ _, x, v, e, r => by simp only [flatD] at e; cases e
theorem dps_flat : ∀ {ds : List D} {xs : List PyData} {vs : List V}, flatDs ds = some xs → Reps W hid H μ vs ds → DpAll W.K H vs xs
  | [], xs, vs, e, r => by
    cases r
    cases (Option.some.inj (show some [] = some xs from by simpa only [flatDs] using e))
    exact .nil
  | d :: ds, xs, vs, e, r => by
    cases r with
    | cons h q =>
      simp only [flatDs] at e
      split at e
      · rename_i x ys e1 e2
        cases e
        exact .cons (dp_flat e1 h) (dps_flat e2 q)
      · cases e
end
mutual
theorem dp_of (sr : SR W hid H μ) : ∀ {d : D} {x : PyData} {v : V}, pyD μ d = some x → Rep W hid H μ v d → Dp W.K H v x
  | .non, x, v, e, r => by
    cases r
    cases (Option.some.inj (show some PyData.none = some x from by simpa only [pyD] using e))
    exact .non
  | .bl b, x, v, e, r => by
    cases r
    cases (Option.some.inj (show some (PyData.bool b) = some x from by simpa only [pyD] using e))
    exact .bl b
  | .int b, x, v, e, r => by
    cases r
    cases (Option.some.inj (show some (PyData.int b) = some x from by simpa only [pyD] using e))
    exact .int b
  | .str b, x, v, e, r => by
    cases r
    cases (Option.some.inj (show some (PyData.str b) = some x from by simpa only [pyD] using e))
    exact .str b
  | .tup xs, x, v, e, r => by
    have e' : (pyDs μ xs).map PyData.tuple = some x := by simpa only [pyD] using e
    cases h : pyDs μ xs with
    | none => rw [h] at e'; cases e'
    | some ys =>
      rw [h] at e'
      cases e'
      obtain ⟨a, vs, rfl, ha, q⟩ := tup_ok r
      exact .tup ha (dps_of sr h q)
  | .lst xs, x, v, e, r => by
    have e' : (pyDs μ xs).map PyData.list = some x := by simpa only [pyD] using e
    cases h : pyDs μ xs with
    | none => rw [h] at e'; cases e'
    | some ys =>
      rw [h] at e'
      cases e'
      cases r with
      | lst ha _ _ q => exact .lst (SqL.of ha) (dps_of sr h q)
  | .ptr a, x, v, e, r => by
    cases r
    simp only [pyD] at e
    split at e
    · rename_i ds hm
      cases h : flatDs ds with
      | none => rw [h] at e; cases e
      | some ys =>
        rw [h] at e
        cases e
        obtain ⟨vs, ha, q⟩ := (sr.at_ a _ hm).2
        exact .lst (SqL.of ha) (dps_flat h q)
    · cases e
  | .ty _, x, v, e, r => by simp only [pyD] at e; cases e
  | .obj _ _, x, v, e, r => by simp only [pyD] at e; cases e
  | .dct _, x, v, e, r => by simp only [pyD] at e; cases e
  | .scr _, x, v, e, r => by simp only [pyD] at e; cases e
  | .cls _, x, v, e, r => by simp only [pyD] at e; cases e
  | .exc _ _ _ _, x, v, e, r => by simp only [pyD] at e; cases e
  | .xob _ _, x, v, e, r => by simp only [pyD] at e; cases e
theorem dps_of (sr : SR W hid H μ) : ∀ {ds : List D} {xs : List PyData} {vs : List V}, pyDs μ ds = some xs → Reps W hid H μ vs ds → DpAll W.K H vs xs
  | [], xs, vs, e, r => by
    cases r
    cases (Option.some.inj (show some [] = some xs from by simpa only [pyDs] using e))
    exact .nil
  | d :: ds, xs, vs, e, r => by
    cases r with
    | cons h q =>
      simp only [pyDs] at e
      split at e
      · rename_i x ys e1 e2
        cases e
        exact .cons (dp_of sr e1 h) (dps_of sr e2 q)
      · cases e
end
end
/-- == and != : plain scalars at once, nested data by shape -/
def oEqG (g : Bool → Bool) : OD := fun d e μ Q => match d, e with
  | .int i, .int j => Q (.bl (g (decide (i = j)))) μ
  | .str i, .str j => Q (.bl (g (decide (i = j)))) μ
  | .bl i, .bl j => Q (.bl (g (decide (i = j)))) μ
  | .non, .non => Q (.bl (g true)) μ
  | d, e => match pyD μ d, pyD μ e with
    | some x, some y => SeqAt.shaped x = true ∧ SeqAt.shaped y = true ∧ Q (.bl (g (PyData.eqv x y))) μ
    | _, _ => False
abbrev oEq : OD := oEqG id
abbrev oNe : OD := oEqG not
section
variable {X : Cx} {W : Wo} {Wk : WX}
theorem dec_v {α : Type} [DecidableEq α] {f : α → V} (hf : ∀ a b, f a = f b → a = b) (a b : α) : decide (f a = f b) = decide (a = b) := decide_eq_decide.mpr ⟨hf a b, fun e => by rw [e]⟩
theorem od_eq (hK : X.K = W.K) (hu : X.A.units + 64 < cLine) : OpR X (compareOp .Eq) (rD W oEq) := OpR.weak (OpR.or op_eq (op_eqD hu)) fun x y H Q ⟨hid, μ, d, e, Qd, sr, rx, ry, h, pq⟩ => by
  unfold oEq oEqG at h
  split at h
  · cases rx; cases ry
    exact .inl ⟨rfl, by rw [dec_v (fun _ _ => V.int.inj)]; exact pq _ _ H μ .refl sr (.bl _) h⟩
  · cases rx; cases ry
    exact .inl ⟨rfl, by rw [dec_v (fun _ _ => V.str.inj)]; exact pq _ _ H μ .refl sr (.bl _) h⟩
  · cases rx; cases ry
    exact .inl ⟨rfl, by rw [dec_v (fun _ _ => V.bl.inj)]; exact pq _ _ H μ .refl sr (.bl _) h⟩
  · cases rx; cases ry
    exact .inl ⟨rfl, pq _ _ H μ .refl sr (.bl _) h⟩
  · split at h
    · rename_i a b ea eb
      exact .inr ⟨a, b, by rw [hK]; exact dp_of sr ea rx, by rw [hK]; exact dp_of sr eb ry, h.1, h.2.1, pq _ _ H μ .refl sr (.bl _) h.2.2⟩
    · exact h.elim
theorem od_ne (hK : X.K = W.K) (hu : X.A.units + 64 < cLine) : OpR X (compareOp .NotEq) (rD W oNe) := OpR.weak (OpR.or op_ne (op_neD hu)) fun x y H Q ⟨hid, μ, d, e, Qd, sr, rx, ry, h, pq⟩ => by
  unfold oNe oEqG at h
  split at h
  · cases rx; cases ry
    exact .inl ⟨rfl, by rw [dec_v (fun _ _ => V.int.inj)]; exact pq _ _ H μ .refl sr (.bl _) h⟩
  · cases rx; cases ry
    exact .inl ⟨rfl, by rw [dec_v (fun _ _ => V.str.inj)]; exact pq _ _ H μ .refl sr (.bl _) h⟩
  · cases rx; cases ry
    exact .inl ⟨rfl, by rw [dec_v (fun _ _ => V.bl.inj)]; exact pq _ _ H μ .refl sr (.bl _) h⟩
  · cases rx; cases ry
    exact .inl ⟨rfl, pq _ _ H μ .refl sr (.bl _) h⟩
  · split at h
    · rename_i a b ea eb
      exact .inr ⟨a, b, by rw [hK]; exact dp_of sr ea rx, by rw [hK]; exact dp_of sr eb ry, h.1, h.2.1, pq _ _ H μ .refl sr (.bl _) h.2.2⟩
    · exact h.elim
/-! ### x in xs -/
def flD : D → Bool
  | .non => true
  | .bl _ => true
  | .int _ => true
  | .str _ => true
  | _ => false
def eqS : D → D → Bool
  | .non, .non => true
  | .bl a, .bl b => a == b
  | .int a, .int b => a == b
  | .str a, .str b => a == b
  | .bl a, .int b => b2i a == b
  | .int a, .bl b => a == b2i b
  | _, _ => false
def inD (x : D) (xs : List D) : Bool := xs.any fun y => eqS y x
def inStr (c s : Str) : Bool := !(Builtin.Str.occurrences s c 0 s.length 1).isEmpty
def keyOf : D → Option Key
  | .int i => some (.inl i)
  | .str s => some (.inr s)
  | _ => none
def valD (kvs : List (Key × D)) (k : Key) : Option D := (kvs.find? fun kv => decide (kv.1 = k)).map (·.2)
def putD (kvs : List (Key × D)) (k : Key) (v : D) : List (Key × D) := if (kvs.any fun kv => decide (kv.1 = k)) = true then kvs.map fun kv => if kv.1 = k then (kv.1, v) else kv else kvs ++ [(k, v)]
def dicOf (d : D) (μ : Mu) : Option (List (Key × D)) := match d with
  | .ptr a => match μ a with
    | some (.dic kvs) => some kvs
    | _ => none
  | _ => none
def oIn (g : Bool → Bool) : OD := fun d e μ Q => match d, e with
  | .str c, .str s => Q (.bl (g (inStr c s))) μ
  | .str k, .dct kvs => Q (.bl (g ((kvs.lookup k).isSome))) μ
  | d, e => match dicOf e μ with
    | some kvs => (match keyOf d with | some k => Q (.bl (g (valD kvs k).isSome)) μ | none => False)
    | none => match seqOf e μ with
      | some xs => flD d = true ∧ xs.all flD = true ∧ Q (.bl (g (inD d xs))) μ
      | none => False
end
end PD
set_option Elab.async false
set_option linter.all false
set_option maxRecDepth 100000
set_option maxHeartbeats 4000000
namespace LB
open PySem PySem.Spec PyProof.Rows L2
def spLaw (K : PySem.W.Frag) : Sp := fun vs H Q _ => ∃ (a : Addr) (ns : List Int), vs = [.ref a] ∧ SqL K H a (ns.map V.int) ∧ ns.length ≤ 63 ∧ ∀ H', Q (.bl true) H'
/-- the law's own def at the top -/
structure LawFn (K : PySem.W.Frag) (mg : Str → Option Value) (fa : Addr) (st : Stmt) : Prop where
  ex : ∃ (fd : FuncData), Fun K "law" "law" st fa fd ∧ ∀ (s : Shared) (v : Value), BindsTo s fd ⟨[v], []⟩ [("_law_script", v)]
theorem lawFn_mk {K : PySem.W.Frag} {mg : Str → Option Value} {h : Heap} {st : Stmt} {f fa : Addr} {oc : Value} {od an : Option Addr} {osl : Array (Option Value)} {kV doc pm cdv ct : Value} (X : K.In h) (G : h.Ns mainGlobals mg) (hfa : mg "law" = some (.ref fa))
    (hb : ∀ (kV doc pm : Value) (an : Option Addr) (cdv ct : Value) (v : Value), bindArgs (PySem.W.fnOf "law" "law" (defArgs st) (defBody st) (defScope st) .none kV doc pm an cdv ct) ⟨[v], []⟩ = pure [(("_law_script" : Str), v)])
    (a : PySem.W.nsIn K mainGlobals "law" = some (some (.ref f))) (l : K.lookup f = some ⟨oc, od, .func (PySem.W.fnOf "law" "law" (defArgs st) (defBody st) (defScope st) .none kV doc pm an cdv ct), osl⟩)
    (c : PySem.W.codeIn K cdv "law" = true) (k : PySem.W.keepIn K (.ref f) = true) : LawFn K mg fa st := by
  have e := hfa.symm.trans (PySem.W.mg_of X G a)
  cases e
  exact ⟨_, fun_mk (st := st) l c k, fun s v => .of_eq (hb _ _ _ _ _ _ v)⟩
theorem LawFn.ok {P : Program} {w : World} {K : PySem.W.Frag} {mg : Str → Option Value} {fa : Addr} {st : Stmt} {N : List Str} {k : Nat} (F : LawFn K mg fa st) (S : FnScope N ["_law_script"] (defScope st))
    (hbody : ∀ (base : Heap), K.In base → base.Ns mainGlobals mg → ∀ (cdv : Value) (A : Around) (outer : List Env) (s : Shared) (H : Hp) (vs : List V) (Q : VK) (E : XK), Room k (A.deeper (envOfC "law" (defScope st) s.heap.objs.size fa cdv)) → spLaw K vs H Q E →
      ∃ t, PSs (cxOf CX0 P w K mg base N "law" (defScope st) fa cdv A outer s H E).nox (defBody st) t ∧ t { nx := fun _ H' => Q .non H', rt := Q } (start N vs) H) :
    ∃ fd : FuncData, (∀ (s : Shared) (u : Value), BindsTo s fd ⟨[u], []⟩ [("_law_script", u)]) ∧ ∀ base : Heap, K.In base → base.Ns mainGlobals mg → FnOk P w K mg base CX0 (k + 1) fa fd ["_law_script"] (spLaw K) := by
  obtain ⟨fd, F, hb⟩ := F.ex
  refine ⟨fd, hb, fun base h1 h2 => F.ok S (fun vs H Q E h => ?_) (hbody base h1 h2)⟩
  obtain ⟨a, ns, rfl, _⟩ := h
  rfl
theorem walk {l : PySem.W.OpenLaw} {q : Program} {loose : List Str} {XP : (Str → Option Value) → Heap → Prop} {YP : World → Heap → Prop} {d : DefRec} {K : Params → PySem.W.Frag} {k : Nat} (hr : Room k callerA) (hn : l.most = some 63) (hdf : d.params.defaults = [])
    (hY : ∀ (w : World) (h : Heap), YP w h → (K w.params).In h)
    (F : ∀ (w : World) (mg : Str → Option Value) (fa : Addr) (h : Heap), (K w.params).In h → h.Ns mainGlobals mg → mg d.name = some (.ref fa) →
      ∃ fd : FuncData, (∀ (s : Shared) (u : Value), BindsTo s fd ⟨[u], []⟩ [("_law_script", u)]) ∧ ∀ base : Heap, (K w.params).In base → base.Ns mainGlobals mg → FnOk l.prog w (K w.params) mg base CX0 k fa fd ["_law_script"] (spLaw (K w.params))) :
    PySem.W.WalkO q loose XP YP l.row.toRowW d [] (fun f vs => PySem.call f vs) :=
  L2.walk_of (n := 63) (k := k) (x := "_law_script") (CX := fun _ => CX0) (sp := fun w => spLaw (K w.params)) hn (by decide) hdf hr hY F (fun _ _ a ns hl _ hS => ⟨a, ns, rfl, hS, hl, fun _ => rfl⟩) fun _ _ _ _ _ z => z
end LB
set_option Elab.async false
set_option linter.all false
set_option autoImplicit false
set_option maxRecDepth 100000
set_option maxHeartbeats 4000000
namespace LB
open PySem PySem.Spec PyProof.Rows L2
/-! ### what the top has written: making the facts -/
theorem own_mk {K : PySem.W.Frag} {mg : Str → Option Value} {h : Heap} {C : Addr} {x : Str} (X : K.In h) (G : h.Ns mainGlobals mg) (a : PySem.W.nsIn K mainGlobals x = some (some (.ref C)))
    (pg : PySem.W.plainGet K C Str.empty = true) (hd : PySem.W.hasDictIn K C = true) (po : PySem.W.plainOver K C = true) (sa : PySem.W.findIn K (.ref C) "__setattr__" = some (some (.builtin "object.__setattr__"))) (mk : PySem.W.makesIn K C = true) (kc : PySem.W.keepIn K (.ref C) = true) : OwnCls K mg x C :=
  ⟨PySem.W.mg_of X G a, ⟨pg, hd, po, sa⟩, mk, kc⟩
theorem nsOk_of {K : PySem.W.Frag} {N : Addr} {c : Value} {od : Option Addr} {es : Array DictEntry} {n : Nat} {sl : Array (Option Value)} (l : K.lookup N = some ⟨c, od, .dict es n, sl⟩) (h : (es.toList.all fun e => match e.key with | .str _ _ => true | _ => false) = true) : PySem.W.nsOkIn K N = true := by
  unfold PySem.W.nsOkIn
  rw [l]
  rw [Array.all_toList] at h
  exact h
theorem ne_mk {K : PySem.W.Frag} {C N f : Addr} {nm q : Str} {bs : List Value} {hdct : Bool} {sn : List Str} {sub : List Value} {ab : Bool} {col : Option Bool} {dd : Option Addr} {k0 k1 k2 k3 k5 : Option Value} {newId : String} {of : Obj} {cN : Value} {odN : Option Addr} {esN : Array DictEntry} {nN : Nat} {slN : Array (Option Value)}
    (lC : K.lookup C = some (excClassObj nm q C N bs [.type "object"] hdct sn sub ab col dd k0 k1 k2 k3 k5 newId)) (lN : K.lookup N = some ⟨cN, odN, .dict esN nN, slN⟩) (nk : (esN.toList.all fun e => match e.key with | .str _ _ => true | _ => false) = true) (ne : PySem.W.nsIn K N "__eq__" = some (some (.ref f))) (nn : PySem.W.nsIn K N "__ne__" = some none)
    (fe : PySem.W.findIn K (.ref C) "__eq__" = some (some (.ref f))) (lf : K.lookup f = some of) (cf : of.cls = .type "function") : NeCls K C :=
  ⟨_, _, _, _, _, _, _, _, _, _, _, _, _, _, _, _, _, _, lC, nsOk_of lN nk, ne, nn, fe, lf, cf⟩
/-- a class's instances know their class -/
structure IsiCls (K : PySem.W.Frag) (C : Addr) : Prop where
  ha : PySem.W.findIn K (.ref C) "__class__" = some (some (.builtin "object.__class__"))
  hn : PySem.W.specialIn K (.builtin "object.__class__") "__get__" = some (some (.builtin "getset_descriptor.__get__"))
  htk : PySem.W.takesIn K (.builtin "object.__class__") = some true
  hm : PySem.W.mroIn K C (.type "object") = some true
  me : PySem.W.kitOne K (.ref C) (.ref C) = some true
theorem exc_mk {K : PySem.W.Frag} {mg : Str → Option Value} {h : Heap} {C N : Addr} {x nm q : Str} {bs bm : List Value} {sn : List Str} {sub : List Value} {ab : Bool} {col : Option Bool} {dd : Option Addr} {k0 k1 k2 k3 k5 : Option Value} (X : K.In h) (G : h.Ns mainGlobals mg) (a : PySem.W.nsIn K mainGlobals x = some (some (.ref C)))
    (lC : K.lookup C = some (excClassObj nm q C N bs bm true sn sub ab col dd k0 k1 k2 k3 k5 "ValueError.__new__")) (rb : PySem.HandSPX.refsVE bm = true) (sa : PySem.W.findIn K (.ref C) "__setattr__" = some (some (.builtin "object.__setattr__")))
    (ex : PySem.W.subIn K (.ref C) (.type "BaseException") = some true) (ty : PySem.W.typeIn K (.ref C) = some (.type "type")) (kc : PySem.W.keepIn K (.ref C) = true)
    (ga : PySem.W.findIn K (.ref C) "__getattribute__" = some (some (.builtin "BaseException.__getattribute__"))) (gg : PySem.W.findIn K (.ref C) "__getattr__" = some none) (hd : PySem.W.hasDictIn K C = true) (me : PySem.W.exmOne K (.ref C) (.ref C) = some true) : ExcCls K mg x C :=
  ⟨PySem.W.mg_of X G a, ⟨⟨_, _, _, _, _, _, _, _, _, _, _, _, _, _, _, lC, rb⟩, sa, ex, ty, kc⟩, ⟨ga, gg, ex, hd⟩, me⟩
theorem low_mk {K : PySem.W.Frag} {mg : Str → Option Value} {h : Heap} {L : Addr} (X : K.In h) (G : h.Ns mainGlobals mg) (a : PySem.W.nsIn K mainGlobals "LowError" = some (some (.ref L)))
    (sp : PySem.W.specialIn K (.ref L) "__getattribute__" = some (some (.builtin "type.__getattribute__"))) (ty : PySem.W.typeIn K (.ref L) = some (.type "type")) (rd : PySem.W.readsIn K L (.type "type") = true) (fi : PySem.W.findCls K (.ref L) (.type "type") "__init__" = some (.val (.builtin "ValueError.__init__"))) : LowTxt K mg L :=
  ⟨PySem.W.mg_of X G a, sp, ty, rd, fi⟩
/-- a def with one default, an empty tuple of the written part -/
theorem topFnD_mk {K : PySem.W.Frag} {mg : Str → Option Value} {h : Heap} {x : Str} {st : Stmt} {ps : List Str} {f T : Addr} {oc oT : Value} {od an oD : Option Addr} {osl slT : Array (Option Value)} {kV doc pm cdv ct : Value} {its : Array Value} {nT : Nat} {dvs : List V} (X : K.In h) (G : h.Ns mainGlobals mg)
    (a : PySem.W.nsIn K mainGlobals x = some (some (.ref f))) (l : K.lookup f = some ⟨oc, od, .func (PySem.W.fnOf x x (defArgs st) (defBody st) (defScope st) (.ref T) kV doc pm an cdv ct), osl⟩)
    (c : PySem.W.codeIn K cdv x = true) (k : PySem.W.keepIn K (.ref f) = true) (lT : K.lookup T = some ⟨oT, oD, .seq its nT, slT⟩) (v : Vals dvs its.toList) (hd : dvs ≠ [])
    (n0 : Nat) (hn0 : n0 + dvs.length = ps.length)
    (hb : ∀ (T : Addr) (kV doc pm : Value) (an : Option Addr) (cdv ct : Value) (us its : List Value), us.length = n0 → its.length = dvs.length →
      ∃ k, bindArgs (PySem.W.fnOf x x (defArgs st) (defBody st) (defScope st) (.ref T) kV doc pm an cdv ct) ⟨us, []⟩ = seqItems? (.ref T) >>= k ∧ k (some its.toArray) = pure (ps.zip (us ++ its.drop 0)))
    (hb0 : ∀ (T : Addr) (kV doc pm : Value) (an : Option Addr) (cdv ct : Value) (us its : List Value), us.length = ps.length → its.length = dvs.length →
      ∃ k, bindArgs (PySem.W.fnOf x x (defArgs st) (defBody st) (defScope st) (.ref T) kV doc pm an cdv ct) ⟨us, []⟩ = seqItems? (.ref T) >>= k ∧ k (some its.toArray) = pure (ps.zip (us ++ its.drop dvs.length))) : TopFnD K mg x st ps dvs := by
  have F : FunD K x x (defArgs st) (defBody st) (defScope st) dvs [] f _ := ⟨⟨oc, od, _, kV, doc, pm, an, cdv, ct, osl, rfl, l, c, .inr ⟨hd, T, _, its.toList, nT, rfl, lT, rfl, v⟩, .inl rfl⟩, k⟩
  obtain ⟨ds, v1, b1⟩ := F.binds1 n0 0 hd (by omega) hb
  obtain ⟨ds0, v0, b0⟩ := F.binds1 ps.length dvs.length hd (by omega) hb0
  have e0 : ds0 = [] := by
    have := v0.length
    rw [List.drop_length] at this
    exact List.length_eq_zero_iff.mp this.symm
  rw [e0] at b0
  exact ⟨f, _, ds, F, PySem.W.mg_of X G a, b0, b1, v1⟩
theorem vals_ref {a : Addr} : Vals [V.ref a] [Value.ref a] := .cons rfl .nil
theorem emptyT_mk {K : PySem.W.Frag} {t : Addr} {od : Option Addr} {n : Nat} {sl : Array (Option Value)} (l : K.lookup t = some ⟨.type "tuple", od, .seq #[] n, sl⟩) : ∀ H, SqT K H t [] :=
  fun H => .inr ⟨_, #[], n, l, rfl, rfl, by decide, .nil⟩
end LB
set_option Elab.async false
set_option linter.all false
set_option autoImplicit false
set_option maxRecDepth 100000
set_option maxHeartbeats 4000000
namespace PD
open PySem PySem.Spec PyProof.Rows L2
/-- what is known of the written dicts -/
structure TW (K : PySem.W.Frag) (w : World) (W : Wo) : Prop where
  hK : K = W.K
  own : ∀ C, W.cok C → Cls K (W.cl C) ∧ LB.IsiCls K (W.cl C)
  fld : ∀ C f, W.fok C f → NoAttr K (W.cl C) f
  kd : ∀ a kvs, W.kd a kvs → (∃ es n, KDict K w a es n) ∧ (∀ z d, kvs.lookup z = some d → ∃ u v, PySem.W.nsIn K a z = some (some u) ∧ RelV v u ∧ ∀ hid H μ, Rep W hid H μ v d) ∧ ∀ z, kvs.lookup z = none → PySem.W.nsIn K a z = some none
section
variable {X : Cx} {W : Wo} {Wk : WX}
theorem flat_ok {hid : Hid} {H : Hp} {μ : Mu} {v : V} {d : D} (r : Rep W hid H μ v d) (f : flD d = true) : flatV v = true := by
  cases r <;> first | rfl | cases f
theorem flats_ok {hid : Hid} {H : Hp} {μ : Mu} : ∀ {vs : List V} {ds : List D}, Reps W hid H μ vs ds → ds.all flD = true → vs.all flatV = true
  | _, _, .nil, _ => rfl
  | _, _, .cons h r, f => by
    rw [List.all_cons, Bool.and_eq_true_iff] at f ⊢
    exact ⟨flat_ok h f.1, flats_ok r f.2⟩
theorem eqS_ok {hid : Hid} {H : Hp} {μ : Mu} {v w : V} {d e : D} (r : Rep W hid H μ v d) (q : Rep W hid H μ w e) : flD d = true → flD e = true → eqV v w = eqS d e := by
  intro f g
  cases r <;> first | (cases f; done) | (cases q <;> first | (cases g; done) | rfl | (rename_i b; cases b <;> rfl) | (rename_i b _; cases b <;> rfl) | (rename_i _ b; cases b <;> rfl))
theorem inD_ok {hid : Hid} {H : Hp} {μ : Mu} {v : V} {d : D} (r : Rep W hid H μ v d) (f : flD d = true) : ∀ {vs : List V} {ds : List D}, Reps W hid H μ vs ds → ds.all flD = true → inV v vs = inD d ds
  | _, _, .nil, _ => rfl
  | _, _, .cons h q, g => by
    rw [List.all_cons, Bool.and_eq_true_iff] at g
    have ih := inD_ok r f q g.2
    unfold inV inD at ih ⊢
    rw [List.any_cons, List.any_cons, ih, eqS_ok h r g.1 f]
theorem keyOf_ok {hid : Hid} {H : Hp} {μ : Mu} {v : V} {d : D} {k : Key} (r : Rep W hid H μ v d) (e : keyOf d = some k) : v = kV k := by
  cases r <;> first | (cases e; rfl) | cases e
theorem valD_ok {hid : Hid} {H : Hp} {μ : Mu} {k : Key} : ∀ {es : List (Key × V)} {kvs : List (Key × D)}, RepK W hid H μ es kvs → RepO W hid H μ (valV es k) (valD kvs k)
  | _, _, .nil => .none
  | _, _, .cons (k := j) h r => by
    unfold valV valD
    by_cases e : j = k
    · rw [List.find?_cons_of_pos (by simpa using e), List.find?_cons_of_pos (by simpa using e)]
      exact .some h
    · rw [List.find?_cons_of_neg (by simpa using e), List.find?_cons_of_neg (by simpa using e)]
      exact valD_ok r
theorem dicOf_at {d : D} {μ : Mu} {kvs : List (Key × D)} (e : dicOf d μ = some kvs) : ∃ a, d = .ptr a ∧ μ a = some (.dic kvs) := by
  unfold dicOf at e
  split at e
  · rename_i a
    cases hm : μ a with
    | none => rw [hm] at e; cases e
    | some m =>
      rw [hm] at e
      cases m <;> first | (cases e; exact ⟨a, rfl, hm⟩) | cases e
  · cases e
theorem dicOf_ok {hid : Hid} {H : Hp} {μ : Mu} {v : V} {d : D} {kvs : List (Key × D)} (sr : SR W hid H μ) (e : dicOf d μ = some kvs) (r : Rep W hid H μ v d) : ∃ a es, v = .ref a ∧ H a = some (.dK es) ∧ RepK W hid H μ es kvs := by
  obtain ⟨a, rfl, hm⟩ := dicOf_at e
  cases r
  obtain ⟨es, h, r⟩ := (sr.at_ a _ hm).2
  exact ⟨a, es, rfl, h, r⟩
theorem repO_isSome {hid : Hid} {H : Hp} {μ : Mu} {o : Option V} {q : Option D} (r : RepO W hid H μ o q) : o.isSome = q.isSome := by cases r <;> rfl
theorem od_in (C : TW X.K X.w W) (hu : X.A.units + 1 < cLine) : OpR X (compareOp .In) (rD W (oIn id)) := by
  intro pins s σ H x y v u Q I rx ry ⟨hid, μ, d, e, Qd, sr, r1, r2, h, pq⟩
  unfold oIn at h
  split at h
  · cases r1; cases r2
    exact op_in_str pins s σ H _ _ v u Q I rx ry ⟨_, _, rfl, rfl, pq _ _ H μ .refl sr (.bl _) h⟩
  · rename_i k kvs
    cases r1
    cases r2 with
    | dct hk =>
      rename_i a
      obtain ⟨⟨es, n, kd⟩, h1, h2⟩ := C.kd a kvs hk
      cases e1 : kvs.lookup k with
      | none =>
        rw [e1] at h
        exact op_in_kd kd pins s σ H _ _ v u Q I rx ry ⟨k, none, rfl, rfl, h2 k e1, pq _ _ H μ .refl sr (.bl _) h⟩
      | some z =>
        rw [e1] at h
        obtain ⟨u', v', g1, _⟩ := h1 k z e1
        exact op_in_kd kd pins s σ H _ _ v u Q I rx ry ⟨k, some u', rfl, rfl, g1, pq _ _ H μ .refl sr (.bl _) h⟩
  · split at h
    · rename_i kvs ek
      obtain ⟨a, es, rfl, ha, q⟩ := dicOf_ok sr ek r2
      split at h
      · rename_i k hk
        obtain rfl := keyOf_ok r1 hk
        cases ry
        have ro := valD_ok (k := k) q
        refine d_in hu I (DGet.k (k := k) ha) rx fun s' I' => ⟨.bl _, H, I', rfl, ?_⟩
        rw [repO_isSome ro]
        exact pq _ _ H μ .refl sr (.bl _) h
      · exact h.elim
    split at h
    · rename_i xs es
      obtain ⟨p, vs, rfl, hs, q⟩ := seqOf_ok es sr r2
      rw [← C.hK] at hs
      exact op_in_seq pins s σ H _ _ v u Q I rx ry ⟨p, vs, rfl, hs, flat_ok r1 h.1, flats_ok q h.2.1, by rw [inD_ok r1 h.1 q h.2.1]; exact pq _ _ H μ .refl sr (.bl _) h.2.2⟩
    · exact h.elim
theorem od_notIn (C : TW X.K X.w W) (hu : X.A.units + 1 < cLine) : OpR X (compareOp .NotIn) (rD W (oIn not)) := by
  intro pins s σ H x y v u Q I rx ry ⟨hid, μ, d, e, Qd, sr, r1, r2, h, pq⟩
  unfold oIn at h
  split at h
  · cases r1; cases r2
    exact op_notIn_str pins s σ H _ _ v u Q I rx ry ⟨_, _, rfl, rfl, pq _ _ H μ .refl sr (.bl _) h⟩
  · rename_i k kvs
    cases r1
    cases r2 with
    | dct hk =>
      rename_i a
      obtain ⟨⟨es, n, kd⟩, h1, h2⟩ := C.kd a kvs hk
      cases e1 : kvs.lookup k with
      | none =>
        rw [e1] at h
        exact op_notIn_kd kd pins s σ H _ _ v u Q I rx ry ⟨k, none, rfl, rfl, h2 k e1, pq _ _ H μ .refl sr (.bl _) h⟩
      | some z =>
        rw [e1] at h
        obtain ⟨u', v', g1, _⟩ := h1 k z e1
        exact op_notIn_kd kd pins s σ H _ _ v u Q I rx ry ⟨k, some u', rfl, rfl, g1, pq _ _ H μ .refl sr (.bl _) h⟩
  · split at h
    · rename_i kvs ek
      obtain ⟨a, es, rfl, ha, q⟩ := dicOf_ok sr ek r2
      split at h
      · rename_i k hk
        obtain rfl := keyOf_ok r1 hk
        cases ry
        have ro := valD_ok (k := k) q
        refine d_notIn hu I (DGet.k (k := k) ha) rx fun s' I' => ⟨.bl _, H, I', rfl, ?_⟩
        rw [repO_isSome ro]
        exact pq _ _ H μ .refl sr (.bl _) h
      · exact h.elim
    split at h
    · rename_i xs es
      obtain ⟨p, vs, rfl, hs, q⟩ := seqOf_ok es sr r2
      rw [← C.hK] at hs
      exact op_notIn_seq pins s σ H _ _ v u Q I rx ry ⟨p, vs, rfl, hs, flat_ok r1 h.1, flats_ok q h.2.1, by rw [inD_ok r1 h.1 q h.2.1]; exact pq _ _ H μ .refl sr (.bl _) h.2.2⟩
    · exact h.elim
/-! ### items -/
def oIx : OD := fun d e μ Q => match d, e with
  | .str z, .int i => z.length ≤ sizeLine ∧ (match atI z.cps.toList i with | some c => Q (.str ⟨#[c]⟩) μ | none => False)
  | .dct kvs, .str k => (match kvs.lookup k with | some v => Q v μ | none => False)
  | d, e => match dicOf d μ with
    | some kvs => (match keyOf e with | some k => (match valD kvs k with | some v => Q v μ | none => False) | none => False)
    | none => match e with
      | .int i => (match seqOf d μ with | some xs => (match atI xs i with | some v => Q v μ | none => False) | none => False)
      | _ => False
theorem atI_ok {hid : Hid} {H : Hp} {μ : Mu} {vs : List V} {ds : List D} {i : Int} {d : D} (r : Reps W hid H μ vs ds) (e : atI ds i = some d) : ∃ v, atI vs i = some v ∧ Rep W hid H μ v d := by
  unfold atI at e ⊢
  rw [r.length]
  cases h : ixN ds.length i with
  | none => rw [h] at e; cases e
  | some j =>
    rw [h] at e
    exact r.get e
theorem IxR.weak {r q : R2} (h : IxR X r) (k : ∀ x y H Q, q x y H Q → r x y H Q) : IxR X q := fun value slice pins s σ H x y v u Q I rx ry z hs => h value slice pins s σ H x y v u Q I rx ry (k x y H Q z) hs
theorem ix_dic (hu : X.A.units + 1 < cLine) : IxR X (fun x y H Q => ∃ a v, x = .ref a ∧ DGet H a y (some v) ∧ Q v H) := by
  intro value slice pins s σ H x y v u Q I rx ry ⟨a, z, ex, g, q⟩ hs
  subst ex
  cases rx
  exact tail_any (dict_typeIs I g) PySem.F.slot_dict_getitem.lookup (d_getItem hu I g ry fun w' s3 I3 rw' => ⟨z, H, I3, rw', q⟩) hs
theorem id_ix (C : TW X.K X.w W) (hu : X.A.units + 1 < cLine) : IxR X (rD W oIx) := IxR.weak ((ix_seq.or ix_kdict).or (ix_dic hu)) fun x y H Q ⟨hid, μ, d, e, Qd, sr, rx, ry, h, pq⟩ => by
  unfold oIx at h
  split at h
  · cases rx; cases ry
    obtain ⟨hz, h⟩ := h
    split at h
    · rename_i c hc
      exact .inl (.inl (.inr (.inr ⟨_, _, c, rfl, rfl, hz, hc, pq _ _ H μ .refl sr (.str _) h⟩)))
    · exact h.elim
  · rename_i kvs k
    cases ry
    cases rx with
    | @dct a _ hk =>
      obtain ⟨⟨es, n, kd⟩, h1, _⟩ := C.kd a kvs hk
      split at h
      · rename_i v hv
        obtain ⟨u, v', g1, g2, g3⟩ := h1 k v hv
        exact .inl (.inr ⟨a, k, v', rfl, rfl, ⟨es, n, u, kd.at_, kd.lit, g1, g2⟩, pq _ _ H μ .refl sr (g3 _ _ _) h⟩)
      · exact h.elim
  · split at h
    · rename_i kvs ek
      obtain ⟨a, es, rfl, ha, q⟩ := dicOf_ok sr ek rx
      split at h
      · rename_i k hk
        obtain rfl := keyOf_ok ry hk
        have ro := valD_ok (k := k) q
        split at h
        · rename_i v hv
          rw [hv] at ro
          cases e1 : valV es k with
          | none => rw [e1] at ro; cases ro
          | some z =>
            rw [e1] at ro
            cases ro with
            | some rz =>
              have g := DGet.k (k := k) ha
              rw [e1] at g
              exact .inr ⟨a, z, rfl, g, pq _ _ H μ .refl sr rz h⟩
        · exact h.elim
      · exact h.elim
    · split at h
      · cases ry
        split at h
        · rename_i xs es
          split at h
          · rename_i v hv
            obtain ⟨p, vs, rfl, hs, q⟩ := seqOf_ok es sr rx
            obtain ⟨v', hv', r'⟩ := atI_ok q hv
            rw [← C.hK] at hs
            rcases hs with hs | hs
            · exact .inl (.inl (.inl ⟨p, vs, _, v', rfl, rfl, hs, hv', pq _ _ H μ .refl sr r' h⟩))
            · exact .inl (.inl (.inr (.inl ⟨p, vs, _, v', rfl, rfl, hs, hv', pq _ _ H μ .refl sr r' h⟩)))
          · exact h.elim
        · exact h.elim
      · exact h.elim
/-! ### parts -/
abbrev TDO := XE → Env → Mu → (Option Int → Mu → Prop) → Prop
def PI_ (W : Wo) (hid : Hid) (H : Hp) (μ : Mu) (Qd : Option Int → Mu → Prop) (Q : Option Int → Hp → Prop) : Prop := ∀ o H' μ', St H μ H' μ' → SR W hid H' μ' → Qd o μ' → Q o H'
def TDo (W : Wo) (Wk : WX) (td : TDO) : TO := fun σ H Q => ∃ hid ρ μ Xd Qd, Rel W hid H μ σ ρ ∧ SR W hid H μ ∧ td Xd ρ μ Qd ∧ PI_ W hid H μ Qd Q ∧ PX W hid H μ σ ρ Xd Wk
abbrev BO (X : Cx) (W : Wo) (Wk : WX) (e : Option Expr) (td : TDO) : Prop := PO X e (TDo W Wk td)
theorem PO.weak {e : Option Expr} {t t' : TO} (h : PO X e t) (k : ∀ σ H Q, t' σ H Q → t σ H Q) : PO X e t' := ⟨fun pins s σ H Q I q => h.run pins s σ H Q I (k σ H Q q)⟩
def pNone : TDO := fun _ _ μ Q => Q none μ
def pSome (te : TDE) : TDO := fun Xd ρ μ Q => te Xd ρ μ fun d μ1 => match d with | .int i => Q (some i) μ1 | _ => False
theorem bo_none : BO X W Wk none pNone := PO.weak po_none fun σ H Q ⟨hid, ρ, μ, Xd, Qd, rel, sr, q, pq, px⟩ => pq none H μ .refl sr q
theorem bo_some {e : Expr} {te : TDE} (h : BE X W Wk e te) : BO X W Wk (some e) (pSome te) := PO.weak (po_some h) fun σ H Q ⟨hid, ρ, μ, Xd, Qd, rel, sr, q, pq, px⟩ => by
  refine ⟨hid, ρ, μ, Xd, _, rel, sr, q, fun v d H1 μ1 s1 sr1 r1 q1 => ?_, px⟩
  dsimp only at q1
  split at q1
  · cases r1
    exact ⟨_, rfl, pq _ H1 μ1 s1 sr1 q1⟩
  · exact q1.elim
def cutD (xs : List D) (lo hi : Option Int) : List D := (xs.drop (HT.sIx xs.length 0 lo)).take (HT.sIx xs.length xs.length hi - HT.sIx xs.length 0 lo)
theorem cut_ok {hid : Hid} {H : Hp} {μ : Mu} {vs : List V} {ds : List D} (r : Reps W hid H μ vs ds) (lo hi : Option Int) : Reps W hid H μ (cutV vs lo hi) (cutD ds lo hi) := by
  unfold cutV cutD
  rw [r.length]
  exact (r.drop _).take _
def oSl (m : Bool) (d : D) (lo hi : Option Int) (μ : Mu) (Q : QD) : Prop := match d with
  | .str z => z.length ≤ sizeLine ∧ Q (.str (cutS z lo hi)) μ
  | .tup xs => Q (.tup (cutD xs lo hi)) μ
  | d => match lstOf d μ with
    | some xs => newL m (cutD xs lo hi) μ Q
    | none => False
def eSl (m : Bool) (te : TDE) (tl th : TDO) : TDE := fun Xd ρ μ Q => te Xd ρ μ fun d μ1 => tl Xd ρ μ1 fun l μ2 => th Xd ρ μ2 fun u μ3 => oSl m d l u μ3 Q
theorem cut_whole {xs : List D} {lo hi : Option Int} (h : HT.sIx xs.length 0 lo = 0 ∧ HT.sIx xs.length xs.length hi = xs.length) : cutD xs lo hi = xs := by
  unfold cutD
  rw [h.1, h.2]
  simp
theorem be_slice {m : Bool} {e : Expr} {lo hi : Option Expr} {te : TDE} {tl th : TDO} {p2 pos : Pos} (C : TW X.K X.w W) (he : BE X W Wk e te) (hl : BO X W Wk lo tl) (hu : BO X W Wk hi th) : BE X W Wk (.Subscript e (.Slice lo hi none p2) pos) (eSl m te tl th) := by
  refine PE.weak (pe_slice (sl_list.or (sl_tupA.or sl_str)) he hl hu) fun σ H Q ⟨hid, ρ, μ, Xd, Qd, rel, sr, q, pq, px⟩ => ?_
  refine ⟨hid, ρ, μ, Xd, _, rel, sr, q, fun v d H1 μ1 s1 sr1 r1 q1 => ?_, px⟩
  refine ⟨hid, ρ, μ1, Xd, _, rel_mono s1.ok rel, sr1, q1, fun l H2 μ2 s2 sr2 q2 => ?_, px.st s1⟩
  refine ⟨hid, ρ, μ2, Xd, _, rel_mono (s1.trans s2).ok rel, sr2, q2, fun u H3 μ3 s3 sr3 q3 => ?_, px.st (s1.trans s2)⟩
  have r3 := r1.mono (s2.trans s3).ok
  have pq3 := pq.st ((s1.trans s2).trans s3)
  unfold oSl at q3
  split at q3
  · cases r3
    exact .inr (.inr ⟨_, rfl, q3.1, pq3 _ _ H3 μ3 .refl sr3 (.str _) q3.2⟩)
  · rename_i xs
    obtain ⟨a, vs, rfl, ha, qa⟩ := tup_ok r3
    rw [← C.hK] at ha
    refine .inr (.inl ⟨a, vs, rfl, ha, fun w => ?_, fun _ p hp => newT_ok sr3 (cut_ok qa l u) hp q3 pq3⟩)
    rw [qa.length] at w
    rw [cut_whole w] at q3
    exact pq3 _ _ H3 μ3 .refl sr3 r3 q3
  · split at q3
    · rename_i xs es
      obtain ⟨a, vs, rfl, ha, qa⟩ := lstOf_ok es sr3 r3
      rw [← C.hK] at ha
      exact .inl ⟨a, vs, rfl, ha, fun p hp => newL_ok sr3 (cut_ok qa l u) hp q3 pq3⟩
    · exact q3.elim
/-! ### tests -/
/-- both ways of a test -/
@[irreducible] def dIf (b : Bool) (A B : Prop) : Prop := match b with | true => A | false => B
theorem dIf_true {A B : Prop} : dIf true A B = A := by unfold dIf; rfl
theorem dIf_false {A B : Prop} : dIf false A B = B := by unfold dIf; rfl
theorem dIf_tt {A B : Prop} (h : dIf true A B) : A := by rw [dIf_true] at h; exact h
theorem dIf_ff {A B : Prop} (h : dIf false A B) : B := by rw [dIf_false] at h; exact h
theorem dIf_of {b : Bool} {A B : Prop} (h1 : b = true → A) (h2 : b = false → B) : dIf b A B := by
  cases b with
  | true => rw [dIf_true]; exact h1 rfl
  | false => rw [dIf_false]; exact h2 rfl
def tVal (te : TDE) : TDT := fun Xd ρ μ Q => te Xd ρ μ fun d μ1 => match d with | .bl b => Q b μ1 | _ => False
def truD (d : D) (μ : Mu) : Option Bool := match d with
  | .non => some false
  | .bl b => some b
  | .int i => some (i != 0)
  | d => (seqOf d μ).map fun xs => !xs.isEmpty
def tTru (te : TDE) : TDT := fun Xd ρ μ Q => te Xd ρ μ fun d μ1 => match truD d μ1 with | some b => Q b μ1 | none => False
theorem bt_val {e : Expr} {te : TDE} (h : BE X W Wk e te) (he : ∀ whole, isTrue e X.env whole = (do let v ← whole; standAt e.pos; holding [v] (truthy v)) := by intro _; rfl) : BT X W Wk e (tVal te) := PT.weak (pt_val h he) fun σ H Q ⟨hid, ρ, μ, Xd, Qd, rel, sr, q, pq, px⟩ => by
  refine ⟨hid, ρ, μ, Xd, _, rel, sr, q, fun v d H1 μ1 s1 sr1 r1 q1 => ?_, px⟩
  dsimp only at q1
  split at q1
  · cases r1
    exact ⟨_, rfl, pq _ H1 μ1 s1 sr1 q1⟩
  · exact q1.elim
theorem empty_ok {hid : Hid} {H : Hp} {μ : Mu} {vs : List V} {ds : List D} (r : Reps W hid H μ vs ds) : (!ds.isEmpty) = !vs.isEmpty := by
  cases r <;> rfl
theorem bt_tru {e : Expr} {te : TDE} (C : TW X.K X.w W) (h : BE X W Wk e te) (he : ∀ whole, isTrue e X.env whole = (do let v ← whole; standAt e.pos; holding [v] (truthy v))) : BT X W Wk e (tTru te) := PT.weak (pt_truth h he) fun σ H Q ⟨hid, ρ, μ, Xd, Qd, rel, sr, q, pq, px⟩ => by
  refine ⟨hid, ρ, μ, Xd, _, rel, sr, q, fun v d H1 μ1 s1 sr1 r1 q1 => ?_, px⟩
  dsimp only at q1
  split at q1
  · rename_i b hb
    refine ⟨b, ?_, pq _ H1 μ1 s1 sr1 q1⟩
    unfold truD at hb
    split at hb
    · cases r1; cases hb; rfl
    · cases r1; cases hb; rfl
    · cases r1; cases hb; rfl
    · cases hs : seqOf d μ1 with
      | none => rw [hs] at hb; cases hb
      | some xs =>
        rw [hs] at hb
        cases hb
        obtain ⟨a, vs, rfl, ha, qa⟩ := seqOf_ok hs sr1 r1
        rw [← C.hK] at ha
        rcases ha with ha | ha
        · exact .inl ⟨vs, ha, empty_ok qa⟩
        · exact .inr (.inl ⟨vs, ha, empty_ok qa⟩)
  · exact q1.elim
def tNo (t : TDT) : TDT := fun Xd ρ μ Q => t Xd ρ μ fun b μ1 => Q (!b) μ1
def tAn (t u : TDT) : TDT := fun Xd ρ μ Q => t Xd ρ μ fun b μ1 => dIf b (u Xd ρ μ1 Q) (Q false μ1)
def tOn (t u : TDT) : TDT := fun Xd ρ μ Q => t Xd ρ μ fun b μ1 => dIf b (Q true μ1) (u Xd ρ μ1 Q)
theorem bt_not {a : Expr} {t : TDT} {pos : Pos} (h : BT X W Wk a t) : BT X W Wk (.UnaryOp .Not a pos) (tNo t) := PT.weak (pt_not h) fun σ H Q ⟨hid, ρ, μ, Xd, Qd, rel, sr, q, pq, px⟩ =>
  ⟨hid, ρ, μ, Xd, _, rel, sr, q, fun b H1 μ1 s1 sr1 q1 => pq _ H1 μ1 s1 sr1 q1, px⟩
theorem bw_and1 {a : Expr} {t : TDT} {pos : Pos} (h : BT X W Wk a t) : BW X W Wk (.BoolOp .And [a] pos) t := pw_and1 h
theorem bw_or1 {a : Expr} {t : TDT} {pos : Pos} (h : BT X W Wk a t) : BW X W Wk (.BoolOp .Or [a] pos) t := pw_or1 h
theorem bw_and {a b : Expr} {rest : List Expr} {t u : TDT} {pos : Pos} (h : BT X W Wk a t) (k : BW X W Wk (.BoolOp .And (b :: rest) pos) u) : BW X W Wk (.BoolOp .And (a :: b :: rest) pos) (tAn t u) := PW.weak (pw_and h k) fun σ H Q ⟨hid, ρ, μ, Xd, Qd, rel, sr, q, pq, px⟩ =>
  ⟨hid, ρ, μ, Xd, _, rel, sr, q, fun b H1 μ1 s1 sr1 q1 => by
    cases b with
    | true => exact ⟨hid, ρ, μ1, Xd, Qd, rel_mono s1.ok rel, sr1, (dIf_tt q1), pq.st s1, px.st s1⟩
    | false => exact pq _ H1 μ1 s1 sr1 (dIf_ff q1), px⟩
theorem bw_or {a b : Expr} {rest : List Expr} {t u : TDT} {pos : Pos} (h : BT X W Wk a t) (k : BW X W Wk (.BoolOp .Or (b :: rest) pos) u) : BW X W Wk (.BoolOp .Or (a :: b :: rest) pos) (tOn t u) := PW.weak (pw_or h k) fun σ H Q ⟨hid, ρ, μ, Xd, Qd, rel, sr, q, pq, px⟩ =>
  ⟨hid, ρ, μ, Xd, _, rel, sr, q, fun b H1 μ1 s1 sr1 q1 => by
    cases b with
    | false => exact ⟨hid, ρ, μ1, Xd, Qd, rel_mono s1.ok rel, sr1, (dIf_ff q1), pq.st s1, px.st s1⟩
    | true => exact pq _ H1 μ1 s1 sr1 (dIf_tt q1), px⟩
theorem BW.bt {e : Expr} {t : TDT} (h : BW X W Wk e t) : BT X W Wk e t := PW.pt h
def eIf (t : TDT) (ta tb : TDE) : TDE := fun Xd ρ μ Q => t Xd ρ μ fun b μ1 => dIf b (ta Xd ρ μ1 Q) (tb Xd ρ μ1 Q)
theorem be_if {c a b : Expr} {t : TDT} {ta tb : TDE} {pos : Pos} (hc : BT X W Wk c t) (ha : BE X W Wk a ta) (hb : BE X W Wk b tb) : BE X W Wk (.IfExp c a b pos) (eIf t ta tb) := PE.weak (pe_ifExp hc ha hb) fun σ H Q ⟨hid, ρ, μ, Xd, Qd, rel, sr, q, pq, px⟩ =>
  ⟨hid, ρ, μ, Xd, _, rel, sr, q, fun b H1 μ1 s1 sr1 q1 => by
    cases b with
    | true => exact ⟨hid, ρ, μ1, Xd, Qd, rel_mono s1.ok rel, sr1, (dIf_tt q1), pq.st s1, px.st s1⟩
    | false => exact ⟨hid, ρ, μ1, Xd, Qd, rel_mono s1.ok rel, sr1, (dIf_ff q1), pq.st s1, px.st s1⟩, px⟩
/-- and, or, not as values (bools ahead of the last) -/
def eAn (ta tb : TDE) : TDE := fun Xd ρ μ Q => ta Xd ρ μ fun d μ1 => match d with | .bl b => dIf b (tb Xd ρ μ1 Q) (Q (.bl false) μ1) | _ => False
def eOn (ta tb : TDE) : TDE := fun Xd ρ μ Q => ta Xd ρ μ fun d μ1 => match d with | .bl b => dIf b (Q (.bl true) μ1) (tb Xd ρ μ1 Q) | _ => False
def eNo (ta : TDE) : TDE := fun Xd ρ μ Q => ta Xd ρ μ fun d μ1 => match d with | .bl b => Q (.bl (!b)) μ1 | _ => False
theorem be_one {op : BoolOp} {a : Expr} {t : TDE} {pos : Pos} (h : BE X W Wk a t) : BE X W Wk (.BoolOp op [a] pos) t := pe_one h
theorem be_and {a b : Expr} {rest : List Expr} {ta tb : TDE} {pos : Pos} (ha : BE X W Wk a ta) (hb : BE X W Wk (.BoolOp .And (b :: rest) pos) tb) : BE X W Wk (.BoolOp .And (a :: b :: rest) pos) (eAn ta tb) := PE.weak (pe_and ha hb) fun σ H Q ⟨hid, ρ, μ, Xd, Qd, rel, sr, q, pq, px⟩ =>
  ⟨hid, ρ, μ, Xd, _, rel, sr, q, fun v d H1 μ1 s1 sr1 r1 q1 => by
    dsimp only at q1
    split at q1
    · rename_i b
      cases r1
      cases b with
      | true => exact ⟨_, rfl, hid, ρ, μ1, Xd, Qd, rel_mono s1.ok rel, sr1, (dIf_tt q1), pq.st s1, px.st s1⟩
      | false => exact ⟨_, rfl, pq _ _ H1 μ1 s1 sr1 (.bl _) (dIf_ff q1)⟩
    · exact q1.elim, px⟩
theorem be_or {a b : Expr} {rest : List Expr} {ta tb : TDE} {pos : Pos} (ha : BE X W Wk a ta) (hb : BE X W Wk (.BoolOp .Or (b :: rest) pos) tb) : BE X W Wk (.BoolOp .Or (a :: b :: rest) pos) (eOn ta tb) := PE.weak (pe_or ha hb) fun σ H Q ⟨hid, ρ, μ, Xd, Qd, rel, sr, q, pq, px⟩ =>
  ⟨hid, ρ, μ, Xd, _, rel, sr, q, fun v d H1 μ1 s1 sr1 r1 q1 => by
    dsimp only at q1
    split at q1
    · rename_i b
      cases r1
      cases b with
      | false => exact ⟨_, rfl, hid, ρ, μ1, Xd, Qd, rel_mono s1.ok rel, sr1, (dIf_ff q1), pq.st s1, px.st s1⟩
      | true => exact ⟨_, rfl, pq _ _ H1 μ1 s1 sr1 (.bl _) (dIf_tt q1)⟩
    · exact q1.elim, px⟩
theorem be_not {a : Expr} {ta : TDE} {pos : Pos} (ha : BE X W Wk a ta) : BE X W Wk (.UnaryOp .Not a pos) (eNo ta) := PE.weak (pe_not ha) fun σ H Q ⟨hid, ρ, μ, Xd, Qd, rel, sr, q, pq, px⟩ =>
  ⟨hid, ρ, μ, Xd, _, rel, sr, q, fun v d H1 μ1 s1 sr1 r1 q1 => by
    dsimp only at q1
    split at q1
    · cases r1
      exact ⟨_, rfl, pq _ _ H1 μ1 s1 sr1 (.bl _) q1⟩
    · exact q1.elim, px⟩
/-- a < b < c -/
def eCh (o o' : OD) (ta tb tc : TDE) : TDE := fun Xd ρ μ Q => ta Xd ρ μ fun x μ1 => tb Xd ρ μ1 fun y μ2 => o x y μ2 fun z μ3 => match z with | .bl k => dIf k (tc Xd ρ μ3 fun w μ4 => o' y w μ4 Q) (Q (.bl false) μ3) | _ => False
theorem ch_td {o o' : OD} {ta tb tc : TDE} {σ : L2.St} {H : Hp} {Q : VK} (h : TD W Wk (eCh o o' ta tb tc) σ H Q) : tChain (rD W o) (rD W o') (TD W Wk ta) (TD W Wk tb) (TD W Wk tc) σ H Q := by
  obtain ⟨hid, ρ, μ, Xd, Qd, rel, sr, q, pq, px⟩ := h
  refine ⟨hid, ρ, μ, Xd, _, rel, sr, q, fun v d H1 μ1 s1 sr1 r1 q1 => ?_, px⟩
  refine ⟨hid, ρ, μ1, Xd, _, rel_mono s1.ok rel, sr1, q1, fun w e H2 μ2 s2 sr2 r2 q2 => ?_, px.st s1⟩
  have s12 := s1.trans s2
  refine ⟨hid, μ2, d, e, _, sr2, r1.mono s2.ok, r2, q2, fun z f H3 μ3 s3 sr3 r3 q3 => ?_⟩
  split at q3
  · rename_i k
    cases r3
    refine ⟨k, rfl, ?_⟩
    have s13 := s12.trans s3
    cases k with
    | true =>
      refine ⟨hid, ρ, μ3, Xd, _, rel_mono s13.ok rel, sr3, (dIf_tt q3), fun u g H4 μ4 s4 sr4 r4 q4 => ?_, px.st s13⟩
      exact ⟨hid, μ4, e, g, Qd, sr4, r2.mono (s3.trans s4).ok, r4, q4, pq.st (s13.trans s4)⟩
    | false => exact pq _ _ H3 μ3 s13 sr3 (.bl _) (dIf_ff q3)
  · exact q3.elim
theorem be_chain {op op' : CmpOp} {o o' : OD} {a b c : Expr} {ta tb tc : TDE} {pos : Pos} (ho : OpR X (compareOp op) (rD W o)) (ho' : OpR X (compareOp op') (rD W o')) (ha : BE X W Wk a ta) (hb : BE X W Wk b tb) (hc : BE X W Wk c tc)
    (hm : lastMarks [op, op'] [b, c] = false := by with_unfolding_all rfl) : BE X W Wk (.Compare a [op, op'] [b, c] pos) (eCh o o' ta tb tc) := PE.weak (pe_chain ho ho' ha hb hc hm) fun _ _ _ h => ch_td h
theorem tTest_of {t : TDE} {u : TE} (hu : ∀ σ H Q, TD W Wk t σ H Q → u σ H Q) {σ : L2.St} {H : Hp} {Q : Bool → Hp → Prop} (h : TDt W Wk (tVal t) σ H Q) : tTest u σ H Q := by
  obtain ⟨hid, ρ, μ, Xd, Qd, rel, sr, q, pq, px⟩ := h
  refine hu σ H _ ⟨hid, ρ, μ, Xd, _, rel, sr, q, fun v d H1 μ1 s1 sr1 r1 q1 => ?_, px⟩
  dsimp only at q1
  split at q1
  · cases r1
    exact ⟨_, rfl, pq _ H1 μ1 s1 sr1 q1⟩
  · exact q1.elim
theorem bt_chain {op op' : CmpOp} {o o' : OD} {a b c : Expr} {ta tb tc : TDE} {pos : Pos} (ho : OpR X (compareOp op) (rD W o)) (ho' : OpR X (compareOp op') (rD W o')) (ha : BE X W Wk a ta) (hb : BE X W Wk b tb) (hc : BE X W Wk c tc)
    (hm : lastMarks [op, op'] [b, c] = false := by with_unfolding_all rfl) : BT X W Wk (.Compare a [op, op'] [b, c] pos) (tVal (eCh o o' ta tb tc)) := PT.weak (pt_chain ho ho' ha hb hc hm) fun _ _ _ h => tTest_of (fun _ _ _ => ch_td) h
theorem bt_cmp {op : CmpOp} {o : OD} {a b : Expr} {ta tb : TDE} {pos : Pos} (ho : OpR X (compareOp op) (rD W o)) (ha : BE X W Wk a ta) (hb : BE X W Wk b tb) (hm : behindInMarks op b = false) : BT X W Wk (.Compare a [op] [b] pos) (tVal (eBin o ta tb)) :=
  PT.weak (pt_cmpR ho ha hb hm) fun _ _ _ h => tTest_of (fun _ _ _ => bin_td) h
end
end PD
set_option Elab.async false
set_option linter.all false
set_option maxRecDepth 100000
set_option maxHeartbeats 4000000
namespace PySem
open Sem (wp)
open AutoSeq1 (wpAny_loadPart')
theorem meets_enumerate_newT (l : Addr) (items : Array Value) :
    Meets (Builtin.«enumerate.__new__» ⟨[.type "enumerate", .ref l], []⟩) (fun _ R s => s.heap.IsTuple l items ∧
      R (.ok (.ret (.ref (s.heap.push { cls := .type "tuple_iterator", data := .fields #[.ref l, .int 0 0] }).objs.size)))
        { s with heap := (s.heap.push { cls := .type "tuple_iterator", data := .fields #[.ref l, .int 0 0] }).push { cls := .type "enumerate", data := .fields #[.none, .bool false, .ref s.heap.objs.size, rawInt 0, .none, .none] } }) :=
  .of_wp fun prog w A R s h => by
    obtain ⟨hp, g, d, tk, os⟩ := s; obtain ⟨hL, h⟩ := h
    have hsub := sub_enumerate
    wp_walk
    refine wpAny_stack_any fun st => wpAny_pure ?_
    split
    · rename_i c _ _ _ _ _
      cases (c == Value.type "enumerate")
      · wp_walk using wpAny_pyIter_tuple hL
        exact ⟨_, rfl, h⟩
      · wp_walk using wpAny_pyIter_tuple hL
        exact ⟨_, rfl, h⟩
    · wp_walk using wpAny_pyIter_tuple hL
      exact ⟨_, rfl, h⟩
section
variable {prog : Program} {w : World} {A : Around} {E : Value → Shared → Prop} {s : Shared}
theorem call_enumerate_tup {l : Addr} {items : Array Value} {Q : Value → Shared → Prop} (hL : s.heap.IsTuple l items)
    (h : ∀ h', IsEnum h' (s.heap.objs.size + 1) s.heap.objs.size 0 .none → h'.IsTupleIter s.heap.objs.size l 0 → h'.objs.size = s.heap.objs.size + 2 →
      (∀ b o, s.heap.get? b = some o → h'.get? b = some o) → Q (.ref (s.heap.objs.size + 1)) { s with heap := h' }) :
    wpAny (model prog w) A (call (.type "enumerate") [.ref l]) Q E s := by
  refine callType_new F.called_enumerate (by decide) (F.typeCall_enumerate_1 _) (F.newCall_enumerate_1 _) (fun obj => F.args_object_init_2 obj _) F.entry_enumerate_new
    (meets_enumerate_newT l items) ⟨hL, ?_⟩
  have hz : (s.heap.push { cls := .type "tuple_iterator", data := .fields #[.ref l, .int 0 0] }).objs.size = s.heap.objs.size + 1 := Heap.size_push ..
  show _ ∧ _
  rw [hz]
  have he : IsEnum ((s.heap.push { cls := .type "tuple_iterator", data := .fields #[.ref l, .int 0 0] }).push
      { cls := .type "enumerate", data := .fields #[.none, .bool false, .ref s.heap.objs.size, rawInt 0, .none, .none] }) (s.heap.objs.size + 1) s.heap.objs.size 0 .none := by
    have := Heap.get?_push_size (s.heap.push { cls := .type "tuple_iterator", data := .fields #[.ref l, .int 0 0] })
      (o := { cls := .type "enumerate", data := .fields #[.none, .bool false, .ref s.heap.objs.size, rawInt 0, .none, .none] }) rfl
    rw [hz] at this; exact this
  refine ⟨⟨_, he, rfl⟩, h _ he ⟨_, Heap.get?_push_of_some _ (Heap.get?_push_size _ rfl), rfl, rfl⟩ (by rw [Heap.size_push, hz]) fun b o x => Heap.get?_push_of_some _ (Heap.get?_push_of_some _ x)⟩
end
end PySem
namespace LB
open PySem PySem.Spec PyProof.Rows L2
/-! ### enumerate(tuple) -/
def IteT (K : PySem.W.Frag) (a : Addr) : It :=
  ⟨fun i H => ∃ (xs : List V) (x : V), SqT K H a xs ∧ xs[i]? = some x, fun i H v H' => ∃ T x, v = .ref T ∧ H T = none ∧ H' = upd H T (.tup [.int (i : Nat), x]) ∧ ∀ xs, SqT K H a xs → xs[i]? = some x, fun i H => ∃ xs : List V, SqT K H a xs ∧ xs.length = i⟩
theorem turn_enumT {P : Program} {w : World} {K : PySem.W.Frag} {elts : List Expr} {kk : Nat} {tpos : Pos} (a e it : Addr) (hai : a ≠ it) (hae : e ≠ a) :
    Turn P w K (.Tuple elts kk tpos) (IteT K a) [e, it] e (fun i h => (∃ old, IsEnum h e it ((i : Nat) : Int) old) ∧ h.IsTupleIter it a i ∧ e ≠ it) where
  mem := by simp
  obj := fun i h st b hb => by
    obtain ⟨⟨old, he⟩, ⟨o, ho, hc, hd⟩, _⟩ := st
    have e' : b = e ∨ b = it := by simpa using hb
    rcases e' with z | z
    · rw [z]; exact ⟨_, he, fun v q => nomatch q⟩
    · rw [z]; exact ⟨o, ho, fun v q => by rw [hd] at q; cases q⟩
  keep := fun i h h' st k => let ⟨⟨old, he⟩, hi, hne⟩ := st; ⟨⟨old, k e (by simp) _ he⟩, hi.at fun o q => k it (by simp) o q, hne⟩
  item := by
    intro X hP hw hK hc i pins s σ H E I hf st hg
    subst hP hw hK
    obtain ⟨⟨old, he⟩, hit, hne⟩ := st
    obtain ⟨xs, x, hq, hx⟩ := hg
    obtain ⟨its, rv, p, hz⟩ := I.tuple hq
    obtain ⟨u, hu, ru⟩ := rv.get hx
    have hel : e < s.heap.objs.size := Heap.lt_size he
    have hil : it < s.heap.objs.size := by obtain ⟨_, q, _⟩ := hit; exact Heap.lt_size q
    have hlt : i < its.toArray.size := by
      have := lt_of_get hx
      rw [List.size_toArray, ← rv.length]
      exact this
    refine wpAny_pyNext_enum_itemD (Draws.tuple (prog := X.prog) (w := X.w) (A := X.A.in1) (I.ok.hd hc) it a hai its.toArray) he ⟨hit, p⟩ hlt hne (by simp; exact ⟨hne, hae⟩) fun x' h' tk hP ho hst hT hsz hk => ?_
    have ex : x' = u := by
      have : its.toArray[i]? = some u := by simpa using hu
      rw [this] at hP
      exact (Option.some.inj hP).symm
    subst ex
    refine ⟨_, rfl, wpAny_letOwnedTupleGo_enum (s := { s with heap := h', toks := tk + 1 }) ho fun h'' he' sb => ?_⟩
    have hT2 : h''.get? s.heap.objs.size = some { cls := .type "tuple", data := .seq #[.int i tk, x'] } := (sb.2 _ (Nat.ne_of_gt hel)).trans hT
    have new : ObjOk X.prog X.w (upd H s.heap.objs.size (.tup [.int (i : Nat), x])) h'' s.heap.objs.size (.tup [.int (i : Nat), x]) :=
      ⟨by show 2 ≤ sizeLine; decide, [.int i tk, x'], .cons ⟨_, rfl⟩ (.cons ru .nil), ⟨_, hT2, rfl, _, rfl⟩⟩
    have I1 : Inv X pins σ (upd H s.heap.objs.size (.tup [.int (i : Nat), x])) { s with heap := h'', toks := tk + 1 } :=
      I.turnedNew (ch := [e, it]) (fun b ob hb q => (sb.2 b (fun z => hb (by simp [z]))).trans (hk b ob (fun z => hb (by simp [z])) (fun z => hb (by simp [z])) q)) hf (Nat.le_refl _) new
    refine ⟨.ref s.heap.objs.size, _, I1, rfl, ⟨_, x, rfl, I.hok.fresh (Nat.le_refl _), rfl, fun ys hy => by rw [I.tuple_inj hy hq]; exact hx⟩, ⟨⟨x', ?_⟩, hst.1.at fun o q => (sb.2 it (Ne.symm hne)).trans q, hne⟩, fun b hb => ?_⟩
    · have e1 : ((i + 1 : Nat) : Int) = (i : Int) + 1 := by omega
      rw [e1]; exact he'
    · have hb' : b < s.heap.objs.size := by
        have e' : b = e ∨ b = it := by simpa using hb
        rcases e' with z | z
        · rw [z]; exact hel
        · rw [z]; exact hil
      rw [upd_ne (Nat.ne_of_lt hb')]
      exact (hf b hb).1
  done := by
    intro X hP hw hK hc i pins s σ H E I hf st hg
    subst hP hw hK
    obtain ⟨⟨old, he⟩, hit, hne⟩ := st
    obtain ⟨xs, hq, hx⟩ := hg
    obtain ⟨its, rv, p, hz⟩ := I.tuple hq
    obtain ⟨f0, f1, f2, f3, f4, f5⟩ := hf it (by simp)
    have hl : its.toArray.size = i := by rw [List.size_toArray, ← rv.length]; exact hx
    have hit' : s.heap.IsTupleIter it a its.toArray.size := by rw [hl]; exact hit
    exact wpAny_pyNext_enum_endD (Draws.tuple (prog := X.prog) (w := X.w) (A := X.A.in1) (I.ok.hd hc) it a hai its.toArray) he ⟨hit', p⟩ fun h' eb => ⟨rfl, I.turned (t' := s.toks) (fun b o hb q => eb b o hb q) f0 f1 f3 f4 f5⟩
  self := fun A i s Q E st h => let ⟨⟨_, he⟩, _⟩ := st; wpAny_pyIter_enum he h
def iEnumA (K : PySem.W.Frag) (ta : TA) : TI := fun σ H R => ta σ H fun vs H1 => ∃ a xs, vs = [.ref a] ∧ ((SqL K H1 a xs ∧ R (Ite K a) H1) ∨ (SqT K H1 a xs ∧ R (IteT K a) H1))
theorem pi_enumA {X : Cx} {e : Expr} {ta : TA} {p pos tpos : Pos} {elts : List Expr} {kk : Nat} (hg : Gl X "enumerate") (hm : X.mg "enumerate" = none) (ha : PA X [e] ta) (hs : starEach [e] X.env = [(false, eval e X.env)] := by rfl) :
    PI X (.Tuple elts kk tpos) (.Call (.Name "enumerate" p) [e] [] pos) (iEnumA X.K ta) := by
  refine ⟨fun pins s σ H R I h => ?_⟩
  refine Call_ (ld_blt I hg hm boot_enumerate (PyProof.Rows.callWith_type1 (thn (ha.run pos pins s σ H _ I h) fun us s1 ⟨vs, H1, I1, r1, q1⟩ => ?_) hs rfl))
  obtain ⟨a, xs, ex, q1⟩ := q1
  subst ex
  cases r1 with
  | cons r rr =>
    cases rr
    cases r
    rcases q1 with ⟨hq, q⟩ | ⟨hq, q⟩
    · obtain ⟨its, rv, p', hz⟩ := I1.list hq
      refine call_enumerate_list p'.isList fun h' he hit hsz hk => wpAny_pyIter_enum he ?_
      have I2 : Inv X pins σ H1 { s1 with heap := h' } := I1.kept (t' := s1.toks) hk
      refine ⟨s1.heap.objs.size + 1, [s1.heap.objs.size + 1, s1.heap.objs.size], _, _, H1, rfl, I2, turn_enum a (s1.heap.objs.size + 1) s1.heap.objs.size, ⟨⟨.none, he⟩, hit, Nat.succ_ne_self _⟩, fun b hb => ?_, q⟩
      have e' : b = s1.heap.objs.size + 1 ∨ b = s1.heap.objs.size := by simpa using hb
      have hle : s1.heap.objs.size ≤ b := by
        rcases e' with z | z
        · rw [z]; exact Nat.le_add_right _ _
        · rw [z]; exact Nat.le_refl _
      exact I1.fpOk hle (I1.hok.fresh hle)
    · obtain ⟨its, rv, p', hz⟩ := I1.tuple hq
      have hal : a < s1.heap.objs.size := p'.lt
      refine call_enumerate_tup p' fun h' he hit hsz hk => wpAny_pyIter_enum he ?_
      have I2 : Inv X pins σ H1 { s1 with heap := h' } := I1.kept (t' := s1.toks) hk
      refine ⟨s1.heap.objs.size + 1, [s1.heap.objs.size + 1, s1.heap.objs.size], _, _, H1, rfl, I2, turn_enumT a (s1.heap.objs.size + 1) s1.heap.objs.size (Nat.ne_of_lt hal) (Nat.ne_of_gt (Nat.lt_succ_of_lt hal)), ⟨⟨.none, he⟩, hit, Nat.succ_ne_self _⟩, fun b hb => ?_, q⟩
      have e' : b = s1.heap.objs.size + 1 ∨ b = s1.heap.objs.size := by simpa using hb
      have hle : s1.heap.objs.size ≤ b := by
        rcases e' with z | z
        · rw [z]; exact Nat.le_add_right _ _
        · rw [z]; exact Nat.le_refl _
      exact I1.fpOk hle (I1.hok.fresh hle)
theorem walk_enumT {K : PySem.W.Frag} {a : Addr} {xs : List V} : Walk (IteT K a) xs.length (fun H => SqT K H a xs) (YPair (fun i => some (.int (i : Nat))) (fun i => xs[i]?)) := by
  refine ⟨fun i _ hi q => ⟨xs, xs[i], q, by simp [hi]⟩, fun _ q => ⟨xs, q, rfl⟩, fun i H v H' _ q y => ?_⟩
  obtain ⟨T, x, h1, h2, h3, h4⟩ := y
  exact ⟨T, .int (i : Nat), x, h1, h2, h3, rfl, h4 xs q⟩
end LB
set_option Elab.async false
set_option linter.all false
set_option autoImplicit false
set_option maxRecDepth 100000
set_option maxHeartbeats 4000000
namespace PD
open PySem PySem.Spec PyProof.Rows L2
/-! ### statements -/
structure EndsD where
  nx : Env → Mu → Prop
  rt : QD := fun _ _ => False
  bk : Env → Mu → Prop := fun _ _ => False
  ct : Env → Mu → Prop := fun _ _ => False
abbrev TDS := EndsD → XE → Env → Mu → Prop
def PN (W : Wo) (hid : Hid) (H : Hp) (μ : Mu) (Nd : Env → Mu → Prop) (N : L2.St → Hp → Prop) : Prop := ∀ σ' ρ' H' μ', St H μ H' μ' → SR W hid H' μ' → Rel W hid H' μ' σ' ρ' → Nd ρ' μ' → N σ' H'
def PXs (W : Wo) (hid : Hid) (H : Hp) (μ : Mu) (Xd : XE) (Wk : WX) : Prop := ∀ x cls dd σ' ρ' H' μ', St H μ H' μ' → SR W hid H' μ' → Rel W hid H' μ' σ' ρ' → XRep W hid H' μ' x cls dd → Xd x ρ' μ' → Wk cls dd σ' H'
structure PEnds (W : Wo) (hid : Hid) (H : Hp) (μ : Mu) (Dd : EndsD) (E : Ends) : Prop where
  nx : PN W hid H μ Dd.nx E.nx
  rt : PQ W hid H μ Dd.rt E.rt
  bk : PN W hid H μ Dd.bk E.bk
  ct : PN W hid H μ Dd.ct E.ct
def TDs (W : Wo) (Wk : WX) (ts : TDS) : TS := fun E σ H => ∃ hid ρ μ Xd Dd, Rel W hid H μ σ ρ ∧ SR W hid H μ ∧ ts Dd Xd ρ μ ∧ PEnds W hid H μ Dd E ∧ PXs W hid H μ Xd Wk
abbrev BS (X : Cx) (W : Wo) (Wk : WX) (st : Stmt) (t : TDS) : Prop := PS X st (TDs W Wk t)
abbrev BSs (X : Cx) (W : Wo) (Wk : WX) (sts : List Stmt) (t : TDS) : Prop := PSs X sts (TDs W Wk t)
theorem PS.weak {X : Cx} {e : Stmt} {t t' : TS} (h : PS X e t) (k : ∀ E σ H, t' E σ H → t E σ H) : PS X e t' := ⟨fun pins s σ H E I q => h.run pins s σ H E I (k E σ H q)⟩
theorem PSs.weak {X : Cx} {e : List Stmt} {t t' : TS} (h : PSs X e t) (k : ∀ E σ H, t' E σ H → t E σ H) : PSs X e t' := ⟨fun pins s σ H E I q => h.run pins s σ H E I (k E σ H q)⟩
section
variable {W : Wo} {hid : Hid} {H H1 : Hp} {μ μ1 : Mu}
theorem PN.st {Nd : Env → Mu → Prop} {N : L2.St → Hp → Prop} (p : PN W hid H μ Nd N) (s : St H μ H1 μ1) : PN W hid H1 μ1 Nd N := fun σ ρ H' μ' s' => p σ ρ H' μ' (s.trans s')
theorem PXs.st {Xd : XE} {Wk : WX} (p : PXs W hid H μ Xd Wk) (s : St H μ H1 μ1) : PXs W hid H1 μ1 Xd Wk := fun x c d σ ρ H' μ' s' => p x c d σ ρ H' μ' (s.trans s')
theorem PXs.at_ {Xd : XE} {Wk : WX} {σ : L2.St} {ρ : Env} (p : PXs W hid H μ Xd Wk) (rel : Rel W hid H μ σ ρ) : PX W hid H μ σ ρ Xd Wk := fun x c d H' μ' s' sr r q => p x c d σ ρ H' μ' s' sr (rel_mono s'.ok rel) r q
theorem PEnds.st {Dd : EndsD} {E : Ends} (p : PEnds W hid H μ Dd E) (s : St H μ H1 μ1) : PEnds W hid H1 μ1 Dd E := ⟨p.nx.st s, p.rt.st s, p.bk.st s, p.ct.st s⟩
end
section
variable {X : Cx} {W : Wo} {Wk : WX}
def sNil : TDS := fun E _ ρ μ => E.nx ρ μ
def sSeq (t u : TDS) : TDS := fun E Xd ρ μ => t { E with nx := fun ρ' μ' => u E Xd ρ' μ' } Xd ρ μ
theorem bss_nil : BSs X W Wk [] sNil := PSs.weak pss_nil fun E σ H ⟨hid, ρ, μ, Xd, Dd, rel, sr, q, pe, px⟩ => pe.nx σ ρ H μ .refl sr rel q
theorem bss_one {st : Stmt} {t : TDS} (h : BS X W Wk st t) : BSs X W Wk [st] t := pss_one h
theorem bss_cons {st : Stmt} {rest : List Stmt} {t u : TDS} (h : BS X W Wk st t) (k : BSs X W Wk rest u) : BSs X W Wk (st :: rest) (sSeq t u) := PSs.weak (pss_cons h k) fun E σ H ⟨hid, ρ, μ, Xd, Dd, rel, sr, q, pe, px⟩ =>
  ⟨hid, ρ, μ, Xd, _, rel, sr, q, ⟨fun σ' ρ' H' μ' s' sr' rel' q' => ⟨hid, ρ', μ', Xd, Dd, rel', sr', q', pe.st s', px.st s'⟩, pe.rt, pe.bk, pe.ct⟩, px⟩
/-- the ways meet: M is what holds there -/
def sCut (t u : TDS) : TDS := fun E Xd ρ μ => ∃ M : PD.Env → Mu → Prop, t { E with nx := M } Xd ρ μ ∧ ∀ ρ' μ', M ρ' μ' → u E Xd ρ' μ'
theorem bss_cut {st : Stmt} {rest : List Stmt} {t u : TDS} (h : BS X W Wk st t) (k : BSs X W Wk rest u) : BSs X W Wk (st :: rest) (sCut t u) := PSs.weak (pss_cons h k) fun E σ H ⟨hid, ρ, μ, Xd, Dd, rel, sr, ⟨M, q, q2⟩, pe, px⟩ =>
  ⟨hid, ρ, μ, Xd, _, rel, sr, q, ⟨fun σ' ρ' H' μ' s' sr' rel' m => ⟨hid, ρ', μ', Xd, Dd, rel', sr', q2 ρ' μ' m, pe.st s', px.st s'⟩, pe.rt, pe.bk, pe.ct⟩, px⟩
theorem bs_pass {pos : Pos} : BS X W Wk (.Pass pos) sNil := PS.weak ps_pass fun E σ H ⟨hid, ρ, μ, Xd, Dd, rel, sr, q, pe, px⟩ => pe.nx σ ρ H μ .refl sr rel q
def sBrk : TDS := fun E _ ρ μ => E.bk ρ μ
def sCnt : TDS := fun E _ ρ μ => E.ct ρ μ
theorem bs_break {pos : Pos} : BS X W Wk (.Break pos) sBrk := PS.weak ps_break fun E σ H ⟨hid, ρ, μ, Xd, Dd, rel, sr, q, pe, px⟩ => pe.bk σ ρ H μ .refl sr rel q
theorem bs_continue {pos : Pos} : BS X W Wk (.Continue pos) sCnt := PS.weak ps_continue fun E σ H ⟨hid, ρ, μ, Xd, Dd, rel, sr, q, pe, px⟩ => pe.ct σ ρ H μ .refl sr rel q
theorem bs_doc {x j pos pos'} : BS X W Wk (.Expr (.Constant (.str x) j pos) pos') sNil := PS.weak ps_doc fun E σ H ⟨hid, ρ, μ, Xd, Dd, rel, sr, q, pe, px⟩ => pe.nx σ ρ H μ .refl sr rel q
def sExpr (te : TDE) : TDS := fun E Xd ρ μ => te Xd ρ μ fun _ μ1 => E.nx ρ μ1
theorem bs_expr {e : Expr} {te : TDE} {pos : Pos} (he : BE X W Wk e te) (hs : swapsWith e none pos.line X.env = pure false := by rfl) : BS X W Wk (.Expr e pos) (sExpr te) := PS.weak (ps_expr he hs) fun E σ H ⟨hid, ρ, μ, Xd, Dd, rel, sr, q, pe, px⟩ =>
  ⟨hid, ρ, μ, Xd, _, rel, sr, q, fun v d H1 μ1 s1 sr1 r1 q1 => pe.nx σ ρ H1 μ1 s1 sr1 (rel_mono s1.ok rel) q1, px.at_ rel⟩
def sRet (te : TDE) : TDS := fun E Xd ρ μ => te Xd ρ μ E.rt
theorem bs_ret {e : Expr} {te : TDE} {pos : Pos} (he : BE X W Wk e te) : BS X W Wk (.Return (some e) pos) (sRet te) := PS.weak (ps_ret he) fun E σ H ⟨hid, ρ, μ, Xd, Dd, rel, sr, q, pe, px⟩ =>
  ⟨hid, ρ, μ, Xd, _, rel, sr, q, fun v d H1 μ1 s1 sr1 r1 q1 => pe.rt v d H1 μ1 s1 sr1 r1 q1, px.at_ rel⟩
def sRetN : TDS := fun E _ _ μ => E.rt .non μ
theorem bs_retN {pos : Pos} : BS X W Wk (.Return none pos) sRetN := PS.weak ps_retN fun E σ H ⟨hid, ρ, μ, Xd, Dd, rel, sr, q, pe, px⟩ => pe.rt .non .non H μ .refl sr .non q
def sIf (c : TDT) (t u : TDS) : TDS := fun E Xd ρ μ => c Xd ρ μ fun b μ1 => dIf b (t E Xd ρ μ1) (u E Xd ρ μ1)
theorem bs_if {c : Expr} {a b : List Stmt} {tc : TDT} {t u : TDS} {pos : Pos} (hc : BT X W Wk c tc) (ha : BSs X W Wk a t) (hb : BSs X W Wk b u) : BS X W Wk (.If c a b pos) (sIf tc t u) := PS.weak (ps_if hc ha hb) fun E σ H ⟨hid, ρ, μ, Xd, Dd, rel, sr, q, pe, px⟩ =>
  ⟨hid, ρ, μ, Xd, _, rel, sr, q, fun b H1 μ1 s1 sr1 q1 => by
    cases b with
    | true => exact ⟨hid, ρ, μ1, Xd, Dd, rel_mono s1.ok rel, sr1, (dIf_tt q1), pe.st s1, px.st s1⟩
    | false => exact ⟨hid, ρ, μ1, Xd, Dd, rel_mono s1.ok rel, sr1, (dIf_ff q1), pe.st s1, px.st s1⟩, px.at_ rel⟩
/-! ### targets -/
abbrev TDG := D → XE → Env → Mu → (Env → Mu → Prop) → Prop
abbrev TDGs := List D → XE → Env → Mu → (Env → Mu → Prop) → Prop
def TDg (W : Wo) (Wk : WX) (g : TDG) : TG := fun v σ H Q => ∃ hid ρ μ Xd d Nd, Rel W hid H μ σ ρ ∧ SR W hid H μ ∧ Rep W hid H μ v d ∧ g d Xd ρ μ Nd ∧ PN W hid H μ Nd Q ∧ PXs W hid H μ Xd Wk
def TDgs (W : Wo) (Wk : WX) (g : TDGs) : TGs := fun vs σ H Q => ∃ hid ρ μ Xd ds Nd, Rel W hid H μ σ ρ ∧ SR W hid H μ ∧ Reps W hid H μ vs ds ∧ g ds Xd ρ μ Nd ∧ PN W hid H μ Nd Q ∧ PXs W hid H μ Xd Wk
abbrev BG (X : Cx) (W : Wo) (Wk : WX) (t : Expr) (g : TDG) : Prop := PG X t (TDg W Wk g)
abbrev BGs (X : Cx) (W : Wo) (Wk : WX) (t : List Expr) (g : TDGs) : Prop := PGs X t (TDgs W Wk g)
theorem PG.weak {e : Expr} {t t' : TG} (h : PG X e t) (k : ∀ v σ H Q, t' v σ H Q → t v σ H Q) : PG X e t' := ⟨fun pins s σ H v u Q I r q => h.run pins s σ H v u Q I r (k v σ H Q q)⟩
theorem PGs.weak {e : List Expr} {t t' : TGs} (h : PGs X e t) (k : ∀ v σ H Q, t' v σ H Q → t v σ H Q) : PGs X e t' := ⟨fun pins s σ H v u Q I r q => h.run pins s σ H v u Q I r (k v σ H Q q)⟩
theorem PG.or {e : Expr} {t t' : TG} (h : PG X e t) (h' : PG X e t') : PG X e (fun v σ H Q => t v σ H Q ∨ t' v σ H Q) := ⟨fun pins s σ H v u Q I r q => q.elim (h.run pins s σ H v u Q I r) (h'.run pins s σ H v u Q I r)⟩
def gN (i : Nat) : TDG := fun d _ ρ μ Q => Q (ρ.set i (some d)) μ
theorem bg_name {i : Nat} {x : Str} {pos : Pos} (hN : X.N.Nodup) (hi : X.N[i]? = some x) (hx : Loc X.env.scope x) (hf : X.fn x = true ∨ X.env.scope.names.lookup x = some .local := by first | exact .inl rfl | exact .inr rfl | assumption) : BG X W Wk (.Name x pos) (gN i) :=
  PG.weak (pg_name hN hi hx hf) fun v σ H Q ⟨hid, ρ, μ, Xd, d, Nd, rel, sr, r, q, pn, px⟩ => pn _ _ H μ .refl sr (rel_set (.some r) i rel) q
def gNi : TDGs := fun ds _ ρ μ Q => match ds with | [] => Q ρ μ | _ => False
def gCo (t : TDG) (u : TDGs) : TDGs := fun ds Xd ρ μ Q => match ds with | d :: r => t d Xd ρ μ fun ρ' μ' => u r Xd ρ' μ' Q | [] => False
theorem bgs_nil : BGs X W Wk [] gNi := PGs.weak pgs_nil fun v σ H Q ⟨hid, ρ, μ, Xd, ds, Nd, rel, sr, r, q, pn, px⟩ => by
  cases r with
  | nil => exact ⟨rfl, pn _ _ H μ .refl sr rel q⟩
  | cons _ _ => exact q.elim
theorem bgs_cons {e : Expr} {es : List Expr} {t : TDG} {u : TDGs} (h : BG X W Wk e t) (k : BGs X W Wk es u) (hs : (assignEach (e :: es) X.env).map (·.2) = assign e X.env :: (assignEach es X.env).map (·.2) := by rfl) : BGs X W Wk (e :: es) (gCo t u) :=
  PGs.weak (pgs_cons h k hs) fun v σ H Q ⟨hid, ρ, μ, Xd, ds, Nd, rel, sr, r, q, pn, px⟩ => by
    cases r with
    | nil => exact q.elim
    | cons r1 rr =>
      refine ⟨_, _, rfl, hid, ρ, μ, Xd, _, _, rel, sr, r1, q, fun σ' ρ' H' μ' s' sr' rel' q' => ?_, px⟩
      exact ⟨hid, ρ', μ', Xd, _, Nd, rel', sr', rr.mono s'.ok, q', pn.st s', px.st s'⟩
def gTu (n : Nat) (u : TDGs) : TDG := fun d Xd ρ μ Q => match seqOf d μ with | some xs => xs.length = n ∧ u xs Xd ρ μ Q | none => False
theorem bg_tup {es : List Expr} {k : Nat} {u : TDGs} {n : Nat} {pos : Pos} (C : TW X.K X.w W) (hc : X.calm = true) (h : BGs X W Wk es u) (hn : (assignEach es X.env).length = n := by rfl) (hst : (assignEach es X.env).findIdx? (·.1) = none := by rfl) : BG X W Wk (.Tuple es k pos) (gTu n u) :=
  PG.weak (PG.or (pg_tup hc h hn hst) (pg_unl hc h hn hst)) fun v σ H Q ⟨hid, ρ, μ, Xd, d, Nd, rel, sr, r, q, pn, px⟩ => by
    unfold gTu at q
    split at q
    · rename_i xs es
      obtain ⟨a, vs, rfl, hs, rs⟩ := seqOf_ok es sr r
      rw [← C.hK] at hs
      rcases hs with hs | hs
      · exact .inr ⟨a, vs, rfl, hs, by rw [rs.length]; exact q.1, hid, ρ, μ, Xd, xs, Nd, rel, sr, rs, q.2, pn, px⟩
      · exact .inl ⟨a, vs, rfl, hs, by rw [rs.length]; exact q.1, hid, ρ, μ, Xd, xs, Nd, rel, sr, rs, q.2, pn, px⟩
    · exact q.elim
/-! ### stores -/
/-- o[i] = v -/
def oSet (d e v : D) (μ : Mu) (N : Mu → Prop) : Prop := match d with
  | .ptr a => match μ a with
    | some (.lst xs) => (match e with | .int i => (match ixN xs.length i with | some j => N (μ.set a (.lst (xs.set j v))) | none => False) | _ => False)
    | some (.dic kvs) => (match keyOf e with | some k => kvs.length < sizeLine ∧ N (μ.set a (.dic (putD kvs k v))) | none => False)
    | _ => False
  | _ => False
theorem repK_len {hid : Hid} {H : Hp} {μ : Mu} : ∀ {es : List (Key × V)} {kvs : List (Key × D)}, RepK W hid H μ es kvs → es.length = kvs.length
  | _, _, .nil => rfl
  | _, _, .cons _ r => by rw [List.length_cons, List.length_cons, repK_len r]
theorem repK_any {hid : Hid} {H : Hp} {μ : Mu} {k : Key} : ∀ {es : List (Key × V)} {kvs : List (Key × D)}, RepK W hid H μ es kvs → (es.any fun kv => decide (kv.1 = k)) = kvs.any fun kv => decide (kv.1 = k)
  | _, _, .nil => rfl
  | _, _, .cons _ r => by rw [List.any_cons, List.any_cons, repK_any r]
theorem repK_map {hid : Hid} {H : Hp} {μ : Mu} {k : Key} {v : V} {d : D} (h : Rep W hid H μ v d) : ∀ {es : List (Key × V)} {kvs : List (Key × D)}, RepK W hid H μ es kvs → RepK W hid H μ (es.map fun kv => if kv.1 = k then (kv.1, v) else kv) (kvs.map fun kv => if kv.1 = k then (kv.1, d) else kv)
  | _, _, .nil => .nil
  | _, _, .cons (k := j) h1 r => by
    rw [List.map_cons, List.map_cons]
    by_cases e : j = k
    · rw [if_pos e, if_pos e]
      exact .cons h (repK_map h r)
    · rw [if_neg e, if_neg e]
      exact .cons h1 (repK_map h r)
theorem repK_app {hid : Hid} {H : Hp} {μ : Mu} {k : Key} {v : V} {d : D} (h : Rep W hid H μ v d) : ∀ {es : List (Key × V)} {kvs : List (Key × D)}, RepK W hid H μ es kvs → RepK W hid H μ (es ++ [(k, v)]) (kvs ++ [(k, d)])
  | _, _, .nil => .cons h .nil
  | _, _, .cons h1 r => .cons h1 (repK_app h r)
end
end PD
set_option Elab.async false
set_option linter.all false
set_option autoImplicit false
set_option maxRecDepth 100000
set_option maxHeartbeats 4000000
namespace PD
open PySem PySem.Spec PyProof.Rows L2
section
variable {X : Cx} {W : Wo} {Wk : WX}
theorem putD_ok {hid : Hid} {H : Hp} {μ : Mu} {k : Key} {v : V} {d : D} {es : List (Key × V)} {kvs : List (Key × D)} (r : RepK W hid H μ es kvs) (h : Rep W hid H μ v d) : RepK W hid H μ (putK es k v) (putD kvs k d) := by
  unfold putK putD
  rw [repK_any r]
  split
  · exact repK_map h r
  · exact repK_app h r
def rSetD (W : Wo) : V → V → V → Hp → (Hp → Prop) → Prop := fun o i v H Q => ∃ hid μ d e z Nd, SR W hid H μ ∧ Rep W hid H μ o d ∧ Rep W hid H μ i e ∧ Rep W hid H μ v z ∧ oSet d e z μ Nd ∧ ∀ H' μ', St H μ H' μ' → SR W hid H' μ' → Nd μ' → Q H'
theorem set_ok (hu : X.A.units + 1 < cLine) : PSet X (rSetD W) := by
  intro pins s σ H o i v ov iv u Q I ro ri rv ⟨hid, μ, d, e, z, Nd, sr, r1, r2, r3, h, k⟩
  unfold oSet at h
  split at h
  · rename_i a
    cases r1
    split at h
    · rename_i xs hm
      obtain ⟨vs, ha, q⟩ := (sr.at_ a _ hm).2
      split at h
      · cases r2
        split at h
        · rename_i i j hj
          have hp : MO.plain (.lst (xs.set j z)) := True.intro
          refine set_list pins s σ H _ _ v ov iv u Q I ro ri rv ⟨a, vs, _, j, rfl, rfl, ha, by rw [q.length]; exact hj, ?_⟩
          exact k _ _ (St.put hm hp) (sr.put hm hp ⟨_, upd_same, ((q.set r3 j).mono (St.put hm hp).ok)⟩) h
        · exact h.elim
      · exact h.elim
    · rename_i kvs hm
      obtain ⟨es, ha, q⟩ := (sr.at_ a _ hm).2
      split at h
      · rename_i kk hk
        obtain rfl := keyOf_ok r2 hk
        cases ro
        have hp : MO.plain (.dic (putD kvs kk z)) := True.intro
        refine d_setItem hu I (DPut.k (k := kk) (v := v) ha (by rw [repK_len q]; exact h.1)) ri rv fun s' I' => ⟨_, I', ?_⟩
        exact k _ _ (St.put hm hp) (sr.put hm hp ⟨_, upd_same, (putD_ok q r3).mono (St.put hm hp).ok⟩) h.2
      · exact h.elim
    · exact h.elim
  · exact h.elim
def gSu (to ti : TDE) : TDG := fun v Xd ρ μ Q => to Xd ρ μ fun d μ1 => ti Xd ρ μ1 fun e μ2 => oSet d e v μ2 fun μ3 => Q ρ μ3
theorem bg_sub {o i : Expr} {to ti : TDE} {pos : Pos} (hu : X.A.units + 1 < cLine) (ho : BE X W Wk o to) (hi : BE X W Wk i ti)
    (ha : ∀ v, assign (.Subscript o i pos) X.env v = (do
      let ov ← holding [v] (eval o X.env)
      let iv ← holding [v, ov] (eval i X.env)
      standAt pos
      holding [v, ov, iv] (setItem ov iv v)
      release [v, ov, iv] []) := by intro _; rfl) : BG X W Wk (.Subscript o i pos) (gSu to ti) :=
  PG.weak (pg_sub ho hi (set_ok (W := W) hu) ha) fun v σ H Q ⟨hid, ρ, μ, Xd, d, Nd, rel, sr, r, q, pn, px⟩ => by
    refine ⟨hid, ρ, μ, Xd, _, rel, sr, q, fun v1 d1 H1 μ1 s1 sr1 r1 q1 => ?_, px.at_ rel⟩
    refine ⟨hid, ρ, μ1, Xd, _, rel_mono s1.ok rel, sr1, q1, fun v2 d2 H2 μ2 s2 sr2 r2 q2 => ?_, (px.st s1).at_ (rel_mono s1.ok rel)⟩
    have s12 := s1.trans s2
    refine ⟨hid, μ2, d1, d2, d, _, sr2, r1.mono s2.ok, r2, r.mono s12.ok, q2, fun H3 μ3 s3 sr3 q3 => ?_⟩
    exact pn σ ρ H3 μ3 (s12.trans s3) sr3 (rel_mono (s12.trans s3).ok rel) q3
/-! ### assignments -/
def sAsg (te : TDE) (g : TDG) : TDS := fun E Xd ρ μ => te Xd ρ μ fun d μ1 => g d Xd ρ μ1 E.nx
theorem asg_td {te : TDE} {g : TDG} {E : Ends} {σ : L2.St} {H : Hp} (h : TDs W Wk (sAsg te g) E σ H) : tAsg (TD W Wk te) (TDg W Wk g) E σ H := by
  obtain ⟨hid, ρ, μ, Xd, Dd, rel, sr, q, pe, px⟩ := h
  exact ⟨hid, ρ, μ, Xd, _, rel, sr, q, fun v d H1 μ1 s1 sr1 r1 q1 => ⟨hid, ρ, μ1, Xd, d, Dd.nx, rel_mono s1.ok rel, sr1, r1, q1, pe.nx.st s1, px.st s1⟩, px.at_ rel⟩
theorem bs_asg {tg e : Expr} {te : TDE} {g : TDG} {pos : Pos} (he : BE X W Wk e te) (hg : BG X W Wk tg g) (hs : swapsWithSole [tg] e pos.line X.env = pure false := by rfl) (hw : swappedStores [tg] e X.env = pure none := by rfl)
    (h1 : (assignEach [tg] X.env).map (·.2) = [assign tg X.env] := by rfl) : BS X W Wk (.Assign [tg] e pos) (sAsg te g) := PS.weak (ps_asg he hg hs hw h1) fun _ _ _ h => asg_td h
theorem bs_set {i : Nat} {x : Str} {e : Expr} {te : TDE} {pos pos' : Pos} (hN : X.N.Nodup) (hi : X.N[i]? = some x) (hx : Loc X.env.scope x) (he : BE X W Wk e te) (hs : swapsWith e (some (.Name x pos')) pos.line X.env = pure false := by rfl) (hf : X.fn x = true ∨ X.env.scope.names.lookup x = some .local := by first | exact .inl rfl | exact .inr rfl | assumption) :
    BS X W Wk (.Assign [.Name x pos'] e pos) (sAsg te (gN i)) := PS.weak (ps_set hN hi hx he hs hf) fun E σ H ⟨hid, ρ, μ, Xd, Dd, rel, sr, q, pe, px⟩ =>
  ⟨hid, ρ, μ, Xd, _, rel, sr, q, fun v d H1 μ1 s1 sr1 r1 q1 => pe.nx _ _ H1 μ1 s1 sr1 (rel_set (.some r1) i (rel_mono s1.ok rel)) q1, px.at_ rel⟩
def sPar (i j : Nat) (ta : TDA) : TDS := fun E Xd ρ μ => ta Xd ρ μ fun ds μ1 => match ds with | [a, b] => E.nx ((ρ.set i (some a)).set j (some b)) μ1 | _ => False
theorem bs_par {i j : Nat} {x y : Str} {a b : Expr} {ta : TDA} {px py pt pos : Pos} {kt k2 pt2} (hc : X.calm = true) (hN : X.N.Nodup) (hi : X.N[i]? = some x) (hj : X.N[j]? = some y) (hij : i ≠ j)
    (hx : X.env.scope.names.lookup x = some .local) (hy : X.env.scope.names.lookup y = some .local) (ha : BA X W Wk [a, b] ta) (h : PS X (.Assign [.Tuple [.Name x px, .Name y py] kt pt] (.Tuple [a, b] k2 pt2) pos) (tPar i j (TDa W Wk ta))) :
    BS X W Wk (.Assign [.Tuple [.Name x px, .Name y py] kt pt] (.Tuple [a, b] k2 pt2) pos) (sPar i j ta) := PS.weak h fun E σ H ⟨hid, ρ, μ, Xd, Dd, rel, sr, q, pe, px⟩ => by
  refine ⟨hid, ρ, μ, Xd, _, rel, sr, q, fun vs ds H1 μ1 s1 sr1 r1 q1 => ?_, px.at_ rel⟩
  dsimp only at q1
  split at q1
  · cases r1 with
    | cons ra rr =>
      cases rr with
      | cons rb rr =>
        cases rr
        exact ⟨_, _, rfl, pe.nx _ _ H1 μ1 s1 sr1 (rel_set (.some rb) j (rel_set (.some ra) i (rel_mono s1.ok rel))) q1⟩
  · exact q1.elim
def sPar3 (i j l : Nat) (ta : TDA) : TDS := fun E Xd ρ μ => ta Xd ρ μ fun ds μ1 => match ds with | [a, b, c] => E.nx (((ρ.set i (some a)).set j (some b)).set l (some c)) μ1 | _ => False
theorem par3_td {i j l : Nat} {ta : TDA} {E : Ends} {σ : L2.St} {H : Hp} (h : TDs W Wk (sPar3 i j l ta) E σ H) : tPar3 i j l (TDa W Wk ta) E σ H := by
  obtain ⟨hid, ρ, μ, Xd, Dd, rel, sr, q, pe, px⟩ := h
  refine ⟨hid, ρ, μ, Xd, _, rel, sr, q, fun vs ds H1 μ1 s1 sr1 r1 q1 => ?_, px.at_ rel⟩
  dsimp only at q1
  split at q1
  · cases r1 with
    | cons ra rr =>
      cases rr with
      | cons rb rr =>
        cases rr with
        | cons rc rr =>
          cases rr
          exact ⟨_, _, _, rfl, pe.nx _ _ H1 μ1 s1 sr1 (rel_set (.some rc) l (rel_set (.some rb) j (rel_set (.some ra) i (rel_mono s1.ok rel)))) q1⟩
  · exact q1.elim
/-- x op= e, ints -/
def sAug (i : Nat) (te : TDE) (g : Int → Int → Int) : TDS := fun E Xd ρ μ => match ρ[i]? with
  | some (some (.int a)) => te Xd ρ μ fun d μ1 => (match d with | .int b => E.nx (ρ.set i (some (.int (g a b)))) μ1 | _ => False)
  | _ => False
theorem aug_td {i : Nat} {te : TDE} {g : Int → Int → Int} {E : Ends} {σ : L2.St} {H : Hp} (h : TDs W Wk (sAug i te g) E σ H) : tAug i (TD W Wk te) (ipI g) E σ H := by
  obtain ⟨hid, ρ, μ, Xd, Dd, rel, sr, q, pe, px⟩ := h
  unfold sAug at q
  split at q
  · rename_i a ha
    obtain ⟨v, hv, r⟩ := rel_get rel ha
    cases r
    refine ⟨_, hv, hid, ρ, μ, Xd, _, rel, sr, q, fun v d H1 μ1 s1 sr1 r1 q1 => ?_, px.at_ rel⟩
    dsimp only at q1
    split at q1
    · cases r1
      exact ⟨_, _, rfl, rfl, pe.nx _ _ H1 μ1 s1 sr1 (rel_set (.some (.int _)) i (rel_mono s1.ok rel)) q1⟩
    · exact q1.elim
  · exact q.elim
theorem bs_augadd {i : Nat} {x : Str} {e : Expr} {te : TDE} {pos pos' : Pos} (hN : X.N.Nodup) (hi : X.N[i]? = some x) (hx : Loc X.env.scope x) (he : BE X W Wk e te) (hf : X.fn x = true ∨ X.env.scope.names.lookup x = some .local := by first | exact .inl rfl | exact .inr rfl | assumption) :
    BS X W Wk (.AugAssign (.Name x pos') .Add e pos) (sAug i te fun a b => a + b) := PS.weak (ps_aug hN hi hx he ip_add hf) fun _ _ _ h => aug_td h
theorem bs_augsub {i : Nat} {x : Str} {e : Expr} {te : TDE} {pos pos' : Pos} (hN : X.N.Nodup) (hi : X.N[i]? = some x) (hx : Loc X.env.scope x) (he : BE X W Wk e te) (hf : X.fn x = true ∨ X.env.scope.names.lookup x = some .local := by first | exact .inl rfl | exact .inr rfl | assumption) :
    BS X W Wk (.AugAssign (.Name x pos') .Sub e pos) (sAug i te fun a b => a - b) := PS.weak (ps_aug hN hi hx he ip_sub hf) fun _ _ _ h => aug_td h
/-! ### while -/
def sWhileN (c : TDT) (b : TDS) : Nat → TDS
  | 0 => fun _ _ _ _ => False
  | n + 1 => fun E Xd ρ μ => c Xd ρ μ fun t μ1 => dIf t (b { E with nx := sWhileN c b n E Xd, ct := sWhileN c b n E Xd, bk := E.nx } Xd ρ μ1) (E.nx ρ μ1)
def sWhile (c : TDT) (b : TDS) : TDS := fun E Xd ρ μ => ∃ n, sWhileN c b n E Xd ρ μ
theorem while_td {c : TDT} {b : TDS} {E : Ends} {σ : L2.St} {H : Hp} (h : TDs W Wk (sWhile c b) E σ H) : tWhile (TDt W Wk c) (TDs W Wk b) E σ H := by
  obtain ⟨hid, ρ, μ, Xd, Dd, rel, sr, ⟨n, q⟩, pe, px⟩ := h
  refine ⟨fun m σ' H' => ∃ ρ' μ', Rel W hid H' μ' σ' ρ' ∧ SR W hid H' μ' ∧ St H μ H' μ' ∧ sWhileN c b m Dd Xd ρ' μ', ⟨n, ρ, μ, rel, sr, .refl, q⟩, ?_⟩
  rintro m σ1 H1 ⟨ρ1, μ1, rel1, sr1, s1, q1⟩
  cases m with
  | zero => exact q1.elim
  | succ m =>
    refine ⟨hid, ρ1, μ1, Xd, _, rel1, sr1, q1, fun t H2 μ2 s2 sr2 q2 => ?_, (px.st s1).at_ rel1⟩
    have s12 := s1.trans s2
    have rel2 := rel_mono s2.ok rel1
    cases t with
    | false => exact pe.nx σ1 ρ1 H2 μ2 s12 sr2 rel2 (dIf_ff q2)
    | true =>
      refine ⟨fun σ' H' => ∃ ρ' μ', Rel W hid H' μ' σ' ρ' ∧ SR W hid H' μ' ∧ St H μ H' μ' ∧ sWhileN c b m Dd Xd ρ' μ', fun σ' H' z => ⟨m, Nat.lt_succ_self _, z⟩, ?_⟩
      refine ⟨hid, ρ1, μ2, Xd, _, rel2, sr2, (dIf_tt q2), ⟨?_, pe.rt.st s12, pe.nx.st s12, ?_⟩, px.st s12⟩
      · exact fun σ' ρ' H' μ' s' sr' rel' q' => ⟨ρ', μ', rel', sr', s12.trans s', q'⟩
      · exact fun σ' ρ' H' μ' s' sr' rel' q' => ⟨ρ', μ', rel', sr', s12.trans s', q'⟩
theorem bs_while {c : Expr} {body : List Stmt} {tc : TDT} {tb : TDS} {pos : Pos} (hp : PassesOwn (model X.prog X.w) X.A X.env X.xe) (hc : BT X W Wk c tc) (hb : BSs X W Wk body tb) : BS X W Wk (.While c body [] pos) (sWhile tc tb) := PS.weak (ps_while hp hc hb) fun _ _ _ h => while_td h
end
end PD
set_option Elab.async false
set_option linter.all false
set_option autoImplicit false
set_option maxRecDepth 100000
set_option maxHeartbeats 4000000
namespace PD
open PySem PySem.Spec PyProof.Rows L2
/-! ### what is walked -/
/-- lists of the store that are walked: they must stay as they are -/
abbrev Cks := List (Addr × List D)
def CK (o : Cks) (μ : Mu) : Prop := ∀ p ∈ o, lstOf (.ptr p.1) μ = some p.2
def chk (o : Cks) (μ : Mu) (P : Prop) : Prop := match o with
  | [] => P
  | o => CK o μ ∧ P
theorem chk_ck {o : Cks} {μ : Mu} {P : Prop} (h : chk o μ P) : CK o μ := by
  cases o with
  | nil => exact fun p hp => by cases hp
  | cons _ _ => exact h.1
theorem chk_p {o : Cks} {μ : Mu} {P : Prop} (h : chk o μ P) : P := by
  cases o with
  | nil => exact h
  | cons _ _ => exact h.2
structure WalkD (W : Wo) (hid : Hid) (H1 : Hp) (μ1 : Mu) (J : It) (o : Cks) (ds : List D) : Prop where
  goes : ∀ hid' i H μ, i < ds.length → Ok hid H1 μ1 hid' H μ → SR W hid' H μ → CK o μ → J.go i H
  stops : ∀ hid' H μ, Ok hid H1 μ1 hid' H μ → SR W hid' H μ → CK o μ → J.stop ds.length H
  yields : ∀ hid' i d H μ x H', ds[i]? = some d → Ok hid H1 μ1 hid' H μ → SR W hid' H μ → CK o μ → J.yld i H x H' → St H μ H' μ ∧ SR W hid' H' μ ∧ Rep W hid' H' μ x d
abbrev TDI := XE → PD.Env → Mu → (Cks → List D → Mu → Prop) → Prop
def TDi (W : Wo) (Wk : WX) (ti : TDI) : TI := fun σ H R => ∃ hid ρ μ Xd Rd, Rel W hid H μ σ ρ ∧ SR W hid H μ ∧ ti Xd ρ μ Rd ∧ (∀ J H' μ' o ds, St H μ H' μ' → SR W hid H' μ' → WalkD W hid H' μ' J o ds → Rd o ds μ' → R J H') ∧ PX W hid H μ σ ρ Xd Wk
abbrev BI (X : Cx) (W : Wo) (Wk : WX) (tg iter : Expr) (ti : TDI) : Prop := PI X tg iter (TDi W Wk ti)
theorem PI.weak {X : Cx} {tg e : Expr} {t t' : TI} (h : PI X tg e t) (k : ∀ σ H R, t' σ H R → t σ H R) : PI X tg e t' := ⟨fun pins s σ H R I q => h.run pins s σ H R I (k σ H R q)⟩
section
variable {X : Cx} {W : Wo} {Wk : WX}
def iSeqA (K : PySem.W.Frag) (tl : TE) : TI := fun σ H R => tl σ H fun x H1 => (∃ a, x = .ref a ∧ (∃ xs, SqL K H1 a xs) ∧ R (Itl K a) H1) ∨ (∃ a, x = .ref a ∧ (∃ xs, SqT K H1 a xs) ∧ R (Itt K a) H1) ∨ ∃ z, x = .str z ∧ R (Its z) H1
theorem pi_seqA {tg l : Expr} {tl : TE} (hl : PE X l tl) : PI X tg l (iSeqA X.K tl) := by
  refine ⟨fun pins s σ H R I h => thn (hl.run pins s σ H _ I h) fun v s1 ⟨x, H1, I1, r1, q1⟩ => ?_⟩
  rcases q1 with ⟨a, rfl, ⟨xs, hq⟩, q⟩ | ⟨a, rfl, ⟨xs, hq⟩, q⟩ | ⟨z, rfl, q⟩
  · obtain rfl : v = Value.ref a := r1
    obtain ⟨its, rv, pl, _⟩ := I1.list hq
    exact wpAny_pyIter_list pl.isList (pi_one (tk := s1.toks) I1 _ (turn_list a _) ⟨_, Heap.get?_push_size _ rfl, rfl, rfl⟩ q)
  · obtain rfl : v = Value.ref a := r1
    obtain ⟨its, rv, pl, _⟩ := I1.tuple hq
    exact wpAny_pyIter_tuple (show s1.heap.IsTuple a its.toArray from pl) (pi_one (tk := s1.toks) I1 _ (turn_tuple a _) ⟨_, Heap.get?_push_size _ rfl, rfl, rfl⟩ q)
  · obtain ⟨t, rfl⟩ : ∃ t, v = Value.str z t := r1
    by_cases ha : z.cps.all (· < 128) = true
    · exact wpAny_pyIter_ascii ha (pi_one (tk := s1.toks) I1 _ (turn_str _ z t "str_ascii_iterator" (.inl rfl)) ⟨_, Heap.get?_push_size _ rfl, rfl, rfl⟩ q)
    · exact wpAny_pyIter_wide (Bool.eq_false_iff.mpr ha) (pi_one (tk := s1.toks) I1 _ (turn_str _ z t "str_iterator" (.inr rfl)) ⟨_, Heap.get?_push_size _ rfl, rfl, rfl⟩ q)
def signs (z : Str) : List D := z.cps.toList.map fun c => .str ⟨#[c]⟩
def seqI (d : D) (μ : Mu) (R : Cks → List D → Prop) : Prop := match d with
  | .tup xs => R [] xs
  | .lst xs => R [] xs
  | .str z => R [] (signs z)
  | .scr ns => R [] (ns.map D.int)
  | .ptr a => (match lstOf (.ptr a) μ with | some xs => R [(a, xs)] xs | none => False)
  | _ => False
def iSeq (te : TDE) : TDI := fun Xd ρ μ R => te Xd ρ μ fun d μ1 => seqI d μ1 fun o xs => R o xs μ1
/-- a list that stands: tracked, or of the store -/
theorem lst_stands {hid hid' : Hid} {H1 H : Hp} {μ1 μ : Mu} {a : Addr} {d : D} {ds : List D} (r : Rep W hid H1 μ1 (.ref a) d) (hd : d = .lst ds ∨ (d = .ptr a) ∨ ∃ ns, d = .scr ns ∧ ds = ns.map D.int) (k : Ok hid H1 μ1 hid' H μ) (sr : SR W hid' H μ) (ck : d = .ptr a → lstOf (.ptr a) μ = some ds) : ∃ vs, SqL W.K H a vs ∧ Reps W hid' H μ vs ds := by
  rcases hd with rfl | rfl | ⟨ns, rfl, rfl⟩
  · cases r.mono k with
    | lst h _ _ q => exact ⟨_, SqL.of h, q⟩
  rotate_left
  · obtain ⟨a', vs, e, h, q⟩ := lstOf_ok (ds := ns.map D.int) rfl sr (r.mono k)
    cases e
    exact ⟨vs, h, q⟩
  · obtain ⟨a', vs, e, h, q⟩ := lstOf_ok (ck rfl) sr (.ptr (W := W) (hid := hid') (H := H) (μ := μ) a)
    cases e
    exact ⟨vs, h, q⟩
theorem walkL {hid : Hid} {H1 : Hp} {μ1 : Mu} {a : Addr} {d : D} {ds : List D} {o : Cks} (hK : X.K = W.K) (r : Rep W hid H1 μ1 (.ref a) d) (hd : d = .lst ds ∨ (d = .ptr a) ∨ ∃ ns, d = .scr ns ∧ ds = ns.map D.int) (ho : ∀ μ, CK o μ → d = .ptr a → lstOf (.ptr a) μ = some ds) : WalkD W hid H1 μ1 (Itl X.K a) o ds := by
  rw [hK]
  refine ⟨fun hid' i H μ hi k sr ck => ?_, fun hid' H μ k sr ck => ?_, fun hid' i d H μ x H' hi k sr ck y => ?_⟩
  · obtain ⟨vs, h, q⟩ := lst_stands r hd k sr (ho μ ck)
    obtain ⟨v, hv, _⟩ := q.get (List.getElem?_eq_getElem hi)
    exact ⟨vs, v, h, hv⟩
  · obtain ⟨vs, h, q⟩ := lst_stands r hd k sr (ho μ ck)
    exact ⟨vs, h, by rw [q.length]; exact Nat.le_refl _⟩
  · obtain ⟨vs, h, q⟩ := lst_stands r hd k sr (ho μ ck)
    obtain ⟨rfl, y⟩ := y
    obtain ⟨v, hv, rv⟩ := q.get hi
    rw [y vs h] at hv
    cases hv
    exact ⟨.refl, sr, rv⟩
theorem tup_stands {hid hid' : Hid} {H1 H : Hp} {μ1 μ : Mu} {a : Addr} {ds : List D} (r : Rep W hid H1 μ1 (.ref a) (.tup ds)) (k : Ok hid H1 μ1 hid' H μ) : ∃ vs, SqT W.K H a vs ∧ Reps W hid' H μ vs ds := by
  obtain ⟨a', vs, e, h, q⟩ := tup_ok (r.mono k)
  cases e
  exact ⟨vs, h, q⟩
theorem walkT {hid : Hid} {H1 : Hp} {μ1 : Mu} {a : Addr} {ds : List D} {o : Cks} (hK : X.K = W.K) (r : Rep W hid H1 μ1 (.ref a) (.tup ds)) : WalkD W hid H1 μ1 (Itt X.K a) o ds := by
  rw [hK]
  refine ⟨fun hid' i H μ hi k sr ck => ?_, fun hid' H μ k sr ck => ?_, fun hid' i d H μ x H' hi k sr ck y => ?_⟩
  · obtain ⟨vs, h, q⟩ := tup_stands r k
    obtain ⟨v, hv, _⟩ := q.get (List.getElem?_eq_getElem hi)
    exact ⟨vs, v, h, hv⟩
  · obtain ⟨vs, h, q⟩ := tup_stands r k
    exact ⟨vs, h, by rw [q.length]; exact Nat.le_refl _⟩
  · obtain ⟨vs, h, q⟩ := tup_stands r k
    obtain ⟨rfl, y⟩ := y
    obtain ⟨v, hv, rv⟩ := q.get hi
    rw [y vs h] at hv
    cases hv
    exact ⟨.refl, sr, rv⟩
theorem walkS {hid : Hid} {H1 : Hp} {μ1 : Mu} {z : Str} {o : Cks} : WalkD W hid H1 μ1 (Its z) o (signs z) := by
  have hl : (signs z).length = z.cps.size := by unfold signs; rw [List.length_map, Array.length_toList]
  refine ⟨fun hid' i H μ hi k sr ck => ?_, fun hid' H μ k sr ck => ?_, fun hid' i d H μ x H' hi k sr ck y => ?_⟩
  · exact walk_str.goes i H (by rw [← hl]; exact hi) trivial
  · rw [hl]
    exact walk_str.stops H trivial
  · have hi2 := LB.lt_of_get hi
    obtain ⟨rfl, c, hc, rfl⟩ := walk_str.yields i H x H' (by rw [← hl]; exact hi2) trivial y
    unfold signs at hi
    rw [List.getElem?_map, Array.getElem?_toList, hc] at hi
    cases hi
    exact ⟨.refl, sr, .str _⟩
theorem bi_seq {tg l : Expr} {te : TDE} (C : TW X.K X.w W) (hl : BE X W Wk l te) : BI X W Wk tg l (iSeq te) := PI.weak (pi_seqA hl) fun σ H R ⟨hid, ρ, μ, Xd, Rd, rel, sr, q, pr, px⟩ => by
  refine ⟨hid, ρ, μ, Xd, _, rel, sr, q, fun v d H1 μ1 s1 sr1 r1 q1 => ?_, px⟩
  unfold seqI at q1
  dsimp only at q1
  split at q1
  · rename_i xs
    obtain ⟨a, vs, rfl, ha, _⟩ := tup_ok r1
    exact .inr (.inl ⟨a, rfl, ⟨vs, by rw [C.hK]; exact ha⟩, pr _ H1 μ1 [] xs s1 sr1 (walkT C.hK r1) q1⟩)
  · rename_i xs
    obtain ⟨a, vs, rfl, ha, _⟩ := lstOf_ok (ds := xs) rfl sr1 r1
    exact .inl ⟨a, rfl, ⟨vs, by rw [C.hK]; exact ha⟩, pr _ H1 μ1 [] xs s1 sr1 (walkL C.hK r1 (.inl rfl) fun _ _ e => by cases e) q1⟩
  · cases r1
    exact .inr (.inr ⟨_, rfl, pr _ H1 μ1 [] _ s1 sr1 walkS q1⟩)
  · rename_i ns
    obtain ⟨a, vs, rfl, ha, _⟩ := lstOf_ok (ds := ns.map D.int) rfl sr1 r1
    exact .inl ⟨a, rfl, ⟨vs, by rw [C.hK]; exact ha⟩, pr _ H1 μ1 [] _ s1 sr1 (walkL C.hK r1 (.inr (.inr ⟨ns, rfl, rfl⟩)) fun _ _ e => by cases e) q1⟩
  · rename_i a
    cases r1
    split at q1
    · rename_i xs hx
      obtain ⟨a', vs, e, ha, _⟩ := lstOf_ok hx sr1 (.ptr a)
      cases e
      exact .inl ⟨a, rfl, ⟨vs, by rw [C.hK]; exact ha⟩, pr _ H1 μ1 [(a, xs)] xs s1 sr1 (walkL C.hK (.ptr a) (.inr (.inl rfl)) fun μ ck _ => ck (a, xs) (by simp)) q1⟩
    · exact q1.elim
  · exact q1.elim
/-- range(n), range(a, b) -/
def rangeL (lo : Int) (n : Nat) : List D := (List.range n).map fun i => D.int (lo + (i : Nat))
theorem walkR {hid : Hid} {H1 : Hp} {μ1 : Mu} {lo : Int} {n : Nat} {o : Cks} : WalkD W hid H1 μ1 (Itr lo n) o (rangeL lo n) := by
  have hl : (rangeL lo n).length = n := by simp [rangeL]
  refine ⟨fun hid' i H μ hi k sr ck => by rw [hl] at hi; exact hi, fun hid' H μ k sr ck => by rw [hl]; exact Nat.le_refl _, fun hid' i d H μ x H' hi k sr ck y => ?_⟩
  have hi2 := LB.lt_of_get hi
  rw [hl] at hi2
  obtain ⟨rfl, rfl⟩ := y
  unfold rangeL at hi
  rw [List.getElem?_map, List.getElem?_range hi2] at hi
  cases hi
  exact ⟨.refl, sr, .int _⟩
def iRange1 (ta : TDA) : TDI := fun Xd ρ μ R => ta Xd ρ μ fun ds μ1 => match ds with
  | [.int j] => (-(2 ^ 62) ≤ j ∧ j < 2 ^ 62) ∧ R [] (rangeL 0 j.toNat) μ1
  | _ => False
theorem bi_range1 {tg e : Expr} {ta : TDA} {p pos : Pos} (h : PI X tg (.Call (.Name "range" p) [e] [] pos) (iRng1 (TDa W Wk ta))) : BI X W Wk tg (.Call (.Name "range" p) [e] [] pos) (iRange1 ta) := PI.weak h fun σ H R ⟨hid, ρ, μ, Xd, Rd, rel, sr, q, pr, px⟩ => by
  refine ⟨hid, ρ, μ, Xd, _, rel, sr, q, fun vs ds H1 μ1 s1 sr1 r1 q1 => ?_, px⟩
  dsimp only at q1
  split at q1
  · cases r1 with
    | cons ra rr =>
      cases rr
      cases ra
      exact ⟨_, rfl, q1.1.1, q1.1.2, pr _ H1 μ1 [] _ s1 sr1 walkR q1.2⟩
  · exact q1.elim
def iRange2 (ta : TDA) : TDI := fun Xd ρ μ R => ta Xd ρ μ fun ds μ1 => match ds with
  | [.int i, .int j] => (-(2 ^ 62) ≤ i ∧ i < 2 ^ 62 ∧ -(2 ^ 62) ≤ j ∧ j < 2 ^ 62) ∧ R [] (rangeL i (j - i).toNat) μ1
  | _ => False
theorem bi_range2 {tg e e2 : Expr} {ta : TDA} {p pos : Pos} (h : PI X tg (.Call (.Name "range" p) [e, e2] [] pos) (iRng2 (TDa W Wk ta))) : BI X W Wk tg (.Call (.Name "range" p) [e, e2] [] pos) (iRange2 ta) := PI.weak h fun σ H R ⟨hid, ρ, μ, Xd, Rd, rel, sr, q, pr, px⟩ => by
  refine ⟨hid, ρ, μ, Xd, _, rel, sr, q, fun vs ds H1 μ1 s1 sr1 r1 q1 => ?_, px⟩
  dsimp only at q1
  split at q1
  · cases r1 with
    | cons ra rr =>
      cases rr with
      | cons rb rr =>
        cases rr
        cases ra
        cases rb
        exact ⟨_, _, rfl, q1.1, pr _ H1 μ1 [] _ s1 sr1 walkR q1.2⟩
  · exact q1.elim
/-! ### for -/
def forL (g : TDG) (b : TDS) (E : EndsD) (Xd : XE) (o : Cks) : List D → PD.Env → Mu → Prop
  | [], ρ, μ => chk o μ (E.nx ρ μ)
  | x :: xs, ρ, μ => chk o μ (g x Xd ρ μ fun ρ' μ' => b { E with nx := forL g b E Xd o xs, ct := forL g b E Xd o xs, bk := E.nx } Xd ρ' μ')
def sFor (ti : TDI) (g : TDG) (b : TDS) : TDS := fun E Xd ρ μ => ti Xd ρ μ fun o ds μ1 => forL g b E Xd o ds ρ μ1
theorem for_td {ti : TDI} {g : TDG} {b : TDS} {E : Ends} {σ : L2.St} {H : Hp} (h : TDs W Wk (sFor ti g b) E σ H) : tFor (TDi W Wk ti) (TDg W Wk g) (TDs W Wk b) E σ H := by
  obtain ⟨hid, ρ, μ, Xd, Dd, rel, sr, q, pe, px⟩ := h
  refine ⟨hid, ρ, μ, Xd, _, rel, sr, q, fun J H1 μ1 o ds s1 sr1 w q1 => ?_, px.at_ rel⟩
  have rel1 := rel_mono s1.ok rel
  refine ⟨fun i m σ' H' => m = ds.length - i ∧ i ≤ ds.length ∧ ∃ ρ' μ', Rel W hid H' μ' σ' ρ' ∧ SR W hid H' μ' ∧ St H1 μ1 H' μ' ∧ forL g b Dd Xd o (ds.drop i) ρ' μ', ⟨_, rfl, Nat.zero_le _, ρ, μ1, rel1, sr1, .refl, q1⟩, ?_⟩
  rintro i m σ2 H2 ⟨rfl, hi, ρ2, μ2, rel2, sr2, s2, q2⟩
  have k2 : Ok hid H1 μ1 hid H2 μ2 := s2.ok
  by_cases hlt : i < ds.length
  · refine .inr ⟨?_, ?_⟩
    · rw [List.drop_eq_getElem_cons hlt] at q2
      exact w.goes hid i H2 μ2 hlt k2 sr2 (chk_ck q2)
    · rw [List.drop_eq_getElem_cons hlt] at q2
      have ck := chk_ck q2
      have q3 := chk_p q2
      refine ⟨fun σ' H' => ∃ ρ' μ', Rel W hid H' μ' σ' ρ' ∧ SR W hid H' μ' ∧ St H1 μ1 H' μ' ∧ forL g b Dd Xd o (ds.drop (i + 1)) ρ' μ', fun σ' H' z => ⟨ds.length - (i + 1), by omega, rfl, hlt, z⟩, fun x H3 y => ?_⟩
      obtain ⟨s3, sr3, r3⟩ := w.yields hid i _ H2 μ2 x H3 (List.getElem?_eq_getElem hlt) k2 sr2 ck y
      have s23 := s2.trans s3
      refine ⟨hid, ρ2, μ2, Xd, _, _, rel_mono s3.ok rel2, sr3, r3, q3, fun σ4 ρ4 H4 μ4 s4 sr4 rel4 q4 => ?_, (px.st s1).st s23⟩
      have s24 := s23.trans s4
      refine ⟨hid, ρ4, μ4, Xd, _, rel4, sr4, q4, ⟨?_, (pe.rt.st s1).st s24, (pe.nx.st s1).st s24, ?_⟩, (px.st s1).st s24⟩
      · exact fun σ' ρ' H' μ' s' sr' rel' q' => ⟨ρ', μ', rel', sr', s24.trans s', q'⟩
      · exact fun σ' ρ' H' μ' s' sr' rel' q' => ⟨ρ', μ', rel', sr', s24.trans s', q'⟩
  · have e : i = ds.length := by omega
    subst e
    rw [List.drop_length] at q2
    exact .inl ⟨w.stops hid H2 μ2 k2 sr2 (chk_ck q2), pe.nx σ2 ρ2 H2 μ2 (s1.trans s2) sr2 rel2 (chk_p q2)⟩
theorem bs_for {tg iter : Expr} {body : List Stmt} {ti : TDI} {g : TDG} {tb : TDS} {pos : Pos} (hp : PassesOwn (model X.prog X.w) X.A X.env X.xe) (hc : X.calm = true) (hi : BI X W Wk tg iter ti) (hg : BG X W Wk tg g) (hb : BSs X W Wk body tb)
    (hs : ∀ x, foldedSetIterable iter X.env x = pure x := by intro _; rfl) : BS X W Wk (.For tg iter body [] pos) (sFor ti g tb) := PS.weak (ps_for hp hc hi hg hb hs) fun _ _ _ h => for_td h
end
end PD
set_option Elab.async false
set_option linter.all false
set_option autoImplicit false
set_option maxRecDepth 100000
set_option maxHeartbeats 4000000
namespace PD
open PySem PySem.Spec PyProof.Rows L2
/-! ### comprehensions -/
def xF : XE := fun _ _ _ => False
def WF : WX := fun _ _ _ _ => False
def lcL (o : Cks) (en : D → Mu → (PD.Env → Prop) → Prop) (tt : TDT) (te : TDE) (Q : List D → Mu → Prop) : List D → List D → Mu → Prop
  | [], acc, μ => chk o μ (Q acc μ)
  | x :: xs, acc, μ => chk o μ (en x μ fun ρ' => tt xF ρ' μ fun b μ2 => dIf b (te xF ρ' μ2 fun d μ3 => acc.length < sizeLine ∧ lcL o en tt te Q xs (acc ++ [d]) μ3) (lcL o en tt te Q xs acc μ2))
def wipeD (ρ : PD.Env) : List Nat → PD.Env
  | [] => ρ
  | v :: vs => (wipeD ρ vs).set v none
def en1 (vs : List Nat) (i : Nat) (ρ : PD.Env) : D → Mu → (PD.Env → Prop) → Prop := fun x _ k => k ((wipeD ρ vs).set i (some x))
def en2 (vs : List Nat) (i j : Nat) (ρ : PD.Env) : D → Mu → (PD.Env → Prop) → Prop := fun x _ k => match x with
  | .tup [a, b] => k (((wipeD ρ vs).set i (some a)).set j (some b))
  | _ => False
def eLc (m : Bool) (ti : TDI) (en : PD.Env → D → Mu → (PD.Env → Prop) → Prop) (tt : TDT) (te : TDE) : TDE := fun Xd ρ μ Q => ti Xd ρ μ fun o ds μ1 => lcL o (en ρ) tt te (fun acc μ2 => newL m acc μ2 Q) ds [] μ1
section
variable {X : Cx} {W : Wo} {Wk : WX}
theorem rel_wipe {hid : Hid} {H : Hp} {μ : Mu} {σ : L2.St} {ρ : PD.Env} (rel : Rel W hid H μ σ ρ) : ∀ vs : List Nat, Rel W hid H μ (wipe σ vs) (wipeD ρ vs)
  | [] => rel
  | v :: vs => rel_set .none v (rel_wipe rel vs)
/-- how the target of a comprehension is stored -/
structure EnOk (W : Wo) (K : PySem.W.Frag) (g : TG) (vs : List Nat) (en : PD.Env → D → Mu → (PD.Env → Prop) → Prop) : Prop where
  ok : ∀ hid H μ σ ρ v d k Q, Rel W hid H μ σ ρ → SR W hid H μ → Rep W hid H μ v d → en ρ d μ k → (∀ σ2 ρ2, Rel W hid H μ σ2 ρ2 → wipe σ2 vs = wipe σ vs → k ρ2 → Q σ2 H) → g v (wipe σ vs) H Q
theorem en1_ok {K : PySem.W.Frag} {i : Nat} : EnOk W K (gName i) [i] (en1 [i] i) := ⟨fun hid H μ σ ρ v d k Q rel sr r h q => by
  refine q _ _ (rel_set (.some r) i (rel_wipe rel [i])) ?_ h
  show ((σ.set i none).set i (some v)).set i none = σ.set i none
  rw [List.set_set, List.set_set]⟩
theorem en2_ok {K : PySem.W.Frag} {i j : Nat} (hK : K = W.K) (hij : i ≠ j) : EnOk W K (gTup K 2 (gCons (gName i) (gCons (gName j) gNil))) [i, j] (en2 [i, j] i j) := ⟨fun hid H μ σ ρ v d k Q rel sr r h q => by
  unfold en2 at h
  split at h
  · rename_i a b
    obtain ⟨p, vs, rfl, hs, rs⟩ := tup_ok r
    cases rs with
    | cons ra rr =>
      cases rr with
      | cons rb rr =>
        cases rr
        rename_i va vb
        refine ⟨p, _, rfl, by rw [hK]; exact hs, rfl, _, _, rfl, _, _, rfl, rfl, ?_⟩
        refine q _ _ (rel_set (.some rb) j (rel_set (.some ra) i (rel_wipe rel [i, j]))) ?_ h
        show ((((((σ.set j none).set i none).set i (some va)).set j (some vb))).set j none).set i none = (σ.set j none).set i none
        rw [List.set_set, List.set_set, List.set_comm (some va) none hij, List.set_set, List.set_set]
  · exact h.elim⟩
/-- a store with one thing more hidden -/
def hidA (hid : Hid) (p : Addr) : Hid := fun a => hid a ∨ a = p
theorem ok_hide {hid : Hid} {H H' : Hp} {μ μ' : Mu} {p : Addr} (s : St H μ H' μ') (hp : H p = none) : Ok hid H μ (hidA hid p) H' μ' := fun a o h i n => by
  obtain ⟨h1, i1⟩ := s a o h i
  exact ⟨h1, i1, fun z => z.elim n fun e => by subst e; rw [hp] at h; cases h⟩
theorem SR.hide {hid : Hid} {H : Hp} {μ : Mu} {p : Addr} {o : HO} (sr : SR W hid H μ) (hp : H p = none) : SR W (hidA hid p) (upd H p o) μ := by
  have k : Ok hid H μ (hidA hid p) (upd H p o) μ := ok_hide (St.new hp) hp
  refine ⟨fun a m h => ⟨?_, ?_⟩, fun d l h => ⟨(sr.inn d l h).1, ?_⟩, sr.one, fun a h => ?_⟩
  · rintro (z | rfl)
    · exact (sr.at_ a m h).1 z
    · have := (sr.fresh hp).1
      rw [h] at this
      cases this
  · have q := (sr.at_ a m h).2
    have ne : ∀ {b u}, H b = some u → upd H p o b = H b := fun e => by rw [upd_ne (ne_of_none e hp)]
    cases m with
    | lst ds => obtain ⟨vs, e, r⟩ := q; exact ⟨vs, (ne e).trans e, r.mono k⟩
    | dic kvs => obtain ⟨vs, e, r⟩ := q; exact ⟨vs, (ne e).trans e, r.mono k⟩
    | ins C fs => obtain ⟨dx, gs, e, r, c⟩ := q; exact ⟨dx, gs, (ne e).trans e, r.mono k, c⟩
    | deal l => exact LB.Deal.new q hp
  · rintro (z | rfl)
    · exact (sr.inn d l h).2 z
    · obtain ⟨o', e⟩ := sr.inner h
      rw [hp] at e
      cases e
  · rcases h with h | rfl
    · obtain ⟨o', e⟩ := sr.hk a h
      exact ⟨o', by rw [upd_ne (ne_of_none e hp)]; exact e⟩
    · exact ⟨o, upd_same⟩
/-- what is hidden may change -/
theorem nh_ne {hid : Hid} {a p : Addr} (n : ¬ hid a) (hh : hid p) : a ≠ p := fun e => n (by rw [e]; exact hh)
theorem ok_hmod {hid : Hid} {H : Hp} {μ : Mu} {p : Addr} {o : HO} (hh : hid p) : Ok hid H μ hid (upd H p o) μ := fun a u h i n => ⟨by rw [upd_ne (nh_ne n hh)]; exact h, i, n⟩
theorem SR.hmod {hid : Hid} {H : Hp} {μ : Mu} {p : Addr} {o : HO} (sr : SR W hid H μ) (hh : hid p) : SR W hid (upd H p o) μ := by
  refine ⟨fun a m h => ⟨(sr.at_ a m h).1, (sr.at_ a m h).2.mono (ok_hmod hh) ?_ fun l e => ?_⟩, sr.inn, sr.one, fun a h => ?_⟩
  · rw [upd_ne (nh_ne (sr.at_ a m h).1 hh)]
  · subst e
    rw [upd_ne (nh_ne (sr.inn a l h).2 hh)]
  · by_cases e : a = p
    · subst e
      exact ⟨o, upd_same⟩
    · obtain ⟨o', q⟩ := sr.hk a h
      exact ⟨o', by rw [upd_ne e]; exact q⟩
theorem ok_unhide {hid : Hid} {H : Hp} {μ : Mu} {p : Addr} : Ok (hidA hid p) H μ hid H μ := fun a o h i n => ⟨h, i, fun z => n (.inl z)⟩
theorem SR.unhide {hid : Hid} {H : Hp} {μ : Mu} {p : Addr} (sr : SR W (hidA hid p) H μ) : SR W hid H μ :=
  ⟨fun a m h => ⟨fun z => (sr.at_ a m h).1 (.inl z), (sr.at_ a m h).2.mono ok_unhide rfl fun _ _ => rfl⟩, fun d l h => ⟨(sr.inn d l h).1, fun z => (sr.inn d l h).2 (.inl z)⟩, sr.one, fun a h => sr.hk a (.inl h)⟩
theorem im_set {μ : Mu} {p a : Addr} {m : MO} (hm : ∀ l, m ≠ .deal l) (ne : a ≠ p) (i : Im μ a) : Im (μ.set p m) a := by
  refine ⟨by rw [Mu.set_ne ne]; exact i.1, fun d e => ?_⟩
  by_cases hd : d = p
  · subst hd
    rw [Mu.set_same] at e
    exact hm _ (Option.some.inj e)
  · rw [Mu.set_ne hd] at e
    exact i.2 d e
theorem ok_adopt {hid : Hid} {H : Hp} {μ : Mu} {p : Addr} {m : MO} (hm : ∀ l, m ≠ .deal l) : Ok (hidA hid p) H μ hid H (μ.set p m) := fun a o h i n => ⟨h, im_set hm (fun e => n (.inr e)) i, fun z => n (.inl z)⟩
theorem SR.adopt {hid : Hid} {H : Hp} {μ : Mu} {p : Addr} {vs : List V} {ds : List D} (sr : SR W (hidA hid p) H μ) (hp : H p = some (.lst vs)) (r : Reps W (hidA hid p) H μ vs ds) (nh : ¬ hid p) : SR W hid H (μ.set p (.lst ds)) := by
  have hm : ∀ l, MO.lst ds ≠ .deal l := fun l e => by cases e
  have him := sr.him (a := p) (.inr rfl)
  refine ⟨fun a m h => ?_, fun d l h => ?_, fun d d' l h h' => ?_, fun a h => sr.hk a (.inl h)⟩
  · by_cases e : a = p
    · subst e
      rw [Mu.set_same] at h
      cases h
      exact ⟨nh, vs, hp, r.mono (ok_adopt hm)⟩
    · rw [Mu.set_ne e] at h
      exact ⟨fun z => (sr.at_ a m h).1 (.inl z), (sr.at_ a m h).2.mono (ok_adopt hm) rfl fun _ _ => rfl⟩
  · have hd : d ≠ p := fun e => by
      subst e
      rw [Mu.set_same] at h
      exact hm _ (Option.some.inj h)
    rw [Mu.set_ne hd] at h
    have q := sr.inn d l h
    have ne : l ≠ p := fun e => q.2 (.inr e)
    rw [Mu.set_ne ne]
    exact ⟨q.1, fun z => q.2 (.inl z)⟩
  · have hd : d ≠ p := fun e => by
      subst e
      rw [Mu.set_same] at h
      exact hm _ (Option.some.inj h)
    have hd' : d' ≠ p := fun e => by
      subst e
      rw [Mu.set_same] at h'
      exact hm _ (Option.some.inj h')
    rw [Mu.set_ne hd] at h
    rw [Mu.set_ne hd'] at h'
    exact sr.one d d' l h h'
theorem lc_td {m : Bool} {ti : TDI} {g : TG} {vs : List Nat} {en : PD.Env → D → Mu → (PD.Env → Prop) → Prop} {tt : TDT} {te : TDE} {K : PySem.W.Frag} (ek : EnOk W K g vs en) {σ : L2.St} {H : Hp} {Q : VK} (h : TD W Wk (eLc m ti en tt te) σ H Q) : tLc (TDi W Wk ti) g (TDt W WF tt) (TD W WF te) vs σ H Q := by
  obtain ⟨hid, ρ, μ, Xd, Qd, rel, sr, q, pq, px⟩ := h
  refine ⟨hid, ρ, μ, Xd, _, rel, sr, q, fun J H1 μ1 o ds s1 sr1 w q1 => ?_, px⟩
  intro D0 hD
  have nh := sr1.nhid hD
  let Iv : Nat → Hp → Prop := fun i H2 => ∃ μ2 acc dacc, H2 D0 = some (.lst acc) ∧ SR W (hidA hid D0) H2 μ2 ∧ St H1 μ1 H2 μ2 ∧ Reps W (hidA hid D0) H2 μ2 acc dacc ∧ Rel W (hidA hid D0) H2 μ2 σ ρ ∧ lcL o (en ρ) tt te (fun acc μ2 => newL m acc μ2 Qd) (ds.drop i) dacc μ2
  refine ⟨fun i n H2 => n = ds.length - i ∧ i ≤ ds.length ∧ Iv i H2, ⟨_, rfl, Nat.zero_le _, μ1, [], [], upd_same, sr1.hide hD, St.new hD, .nil, rel_mono (ok_hide (St.new hD) hD) (rel_mono s1.ok rel), q1⟩, ?_⟩
  rintro i n H2 ⟨rfl, hi, μ2, acc, dacc, hacc, sr2, s2, racc, rel2, q2⟩
  have k2 : Ok hid H1 μ1 (hidA hid D0) H2 μ2 := ok_hide s2 hD
  have him2 := sr2.him (a := D0) (.inr rfl)
  by_cases hlt : i < ds.length
  · rw [List.drop_eq_getElem_cons hlt] at q2
    have ck := chk_ck q2
    have q3 := chk_p q2
    refine .inr ⟨w.goes _ i H2 μ2 hlt k2 sr2 ck, Iv (i + 1), fun H' z => ⟨ds.length - (i + 1), by omega, rfl, hlt, z⟩, fun x H3 y => ?_⟩
    obtain ⟨s3, sr3, r3⟩ := w.yields _ i _ H2 μ2 x H3 (List.getElem?_eq_getElem hlt) k2 sr2 ck y
    refine ek.ok _ H3 μ2 σ ρ x _ _ _ (rel_mono s3.ok rel2) sr3 r3 q3 fun σ4 ρ4 rel4 hw q4 => ⟨hw, ?_⟩
    refine ⟨_, ρ4, μ2, xF, _, rel4, sr3, q4, fun b H5 μ5 s5 sr5 q5 => ?_, fun _ _ _ _ _ _ _ _ z => z.elim⟩
    have s25 := s3.trans s5
    cases b with
    | false => exact ⟨μ5, acc, dacc, (s25 D0 _ hacc him2).1, sr5, s2.trans s25, racc.mono s25.ok, rel_mono s25.ok rel2, (dIf_ff q5)⟩
    | true =>
      refine ⟨_, ρ4, μ5, xF, _, rel_mono s5.ok rel4, sr5, (dIf_tt q5), fun y d H6 μ6 s6 sr6 r6 q6 => ?_, fun _ _ _ _ _ _ _ _ z => z.elim⟩
      have s26 := s25.trans s6
      refine ⟨acc, (s26 D0 _ hacc him2).1, by rw [racc.length]; exact q6.1, ?_⟩
      have km : Ok (hidA hid D0) H6 μ6 (hidA hid D0) (upd H6 D0 (.lst (acc ++ [y]))) μ6 := ok_hmod (.inr rfl)
      refine ⟨μ6, _, dacc ++ [d], upd_same, sr6.hmod (.inr rfl), fun a u ha ia => ?_, ((racc.mono s26.ok).append (.cons r6 .nil)).mono km, rel_mono km (rel_mono s26.ok rel2), q6.2⟩
      obtain ⟨h1, i1⟩ := (s2.trans s26) a u ha ia
      exact ⟨by rw [upd_ne (ne_of_none ha hD)]; exact h1, i1⟩
  · have e : i = ds.length := by omega
    subst e
    rw [List.drop_length] at q2
    refine .inl ⟨w.stops _ H2 μ2 k2 sr2 (chk_ck q2), ?_⟩
    have q3 := chk_p q2
    have s12 := s1.trans s2
    cases m with
    | false => exact pq _ _ H2 μ2 s12 sr2.unhide (.lst hacc him2 nh (racc.mono ok_unhide)) q3
    | true =>
      have hm : ∀ l, MO.lst dacc ≠ .deal l := fun l e => by cases e
      refine pq _ _ H2 (μ2.set D0 (.lst dacc)) (fun a u ha ia => ?_) (sr2.adopt hacc racc nh) (.ptr D0) (q3 D0 him2.1)
      obtain ⟨h1, i1⟩ := s1 a u ha ia
      obtain ⟨h2, i2⟩ := s2 a u h1 i1
      exact ⟨h2, im_set hm (ne_of_none h1 hD) i2⟩
abbrev BTs (X : Cx) (W : Wo) (Wk : WX) (ifs : List Expr) (td : TDT) : Prop := PTs X ifs (TDt W Wk td)
def tYe : TDT := fun _ _ μ Q => Q true μ
theorem bts_nil : BTs X W Wk [] tYe := ⟨fun pins s σ H Q I ⟨hid, ρ, μ, Xd, Qd, rel, sr, q, pq, px⟩ => pts_nil.run pins s σ H Q I (pq true H μ .refl sr q)⟩
theorem bts_one {c : Expr} {t : TDT} (h : BT X W Wk c t) : BTs X W Wk [c] t := pts_one h
theorem be_lc {m : Bool} {elt tg iter : Expr} {ifs : List Expr} {scope : Scope} {own : List (Str × Nat)} {pos : Pos} {ti : TDI} {g : TG} {en : PD.Env → D → Mu → (PD.Env → Prop) → Prop} {tt : TDT} {te : TDE} (ek : EnOk W X.K g (own.map (·.2)) en) (hc : X.calm = true) (hN : X.N.Nodup) (hi : BI X W Wk tg iter ti) (ok : BlkOk X.N X.env.scope scope own)
    (hg : ∀ (s : Shared) (H : Hp) (C : Addr) (cl : List (Str × Addr)) (fp : List Addr), PG (X.blk s H scope (compEnvC scope cl C X.env) fp) tg g) (ht : ∀ (s : Shared) (H : Hp) (C : Addr) (cl : List (Str × Addr)) (fp : List Addr), BTs (X.blk s H scope (compEnvC scope cl C X.env) fp) W WF ifs tt)
    (he : ∀ (s : Shared) (H : Hp) (C : Addr) (cl : List (Str × Addr)) (fp : List Addr), BE (X.blk s H scope (compEnvC scope cl C X.env) fp) W WF elt te) (hs : ∀ x, foldedSetIterable iter X.env x = pure x := by intro _; rfl) :
    BE X W Wk (.ListComp elt [⟨tg, iter, ifs, 0⟩] scope pos) (eLc m ti en tt te) := PE.weak (pe_lc hc hN hi ok hg ht he hs) fun _ _ _ h => lc_td ek h
theorem bs_setLc {m : Bool} {i : Nat} {y : Str} {py : Pos} {elt tg iter : Expr} {ifs : List Expr} {scope : Scope} {own : List (Str × Nat)} {pos spos : Pos} {ti : TDI} {g : TG} {en : PD.Env → D → Mu → (PD.Env → Prop) → Prop} {tt : TDT} {te : TDE} (ek : EnOk W X.K g (own.map (·.2)) en) (hc : X.calm = true) (hN : X.N.Nodup) (hy : X.N[i]? = some y) (hyl : X.env.scope.names.lookup y = some .local)
    (hsw : swapsWith (.ListComp elt [⟨tg, iter, ifs, 0⟩] scope pos) (some (.Name y py)) spos.line X.env = pure true) (hi : BI X W Wk tg iter ti) (ok : BlkOk X.N X.env.scope scope own)
    (hg : ∀ (s : Shared) (H : Hp) (C : Addr) (cl : List (Str × Addr)) (fp : List Addr), PG (X.blk s H scope (compEnvC scope cl C X.env) fp) tg g) (ht : ∀ (s : Shared) (H : Hp) (C : Addr) (cl : List (Str × Addr)) (fp : List Addr), BTs (X.blk s H scope (compEnvC scope cl C X.env) fp) W WF ifs tt)
    (he : ∀ (s : Shared) (H : Hp) (C : Addr) (cl : List (Str × Addr)) (fp : List Addr), BE (X.blk s H scope (compEnvC scope cl C X.env) fp) W WF elt te) (hs : ∀ x, foldedSetIterable iter X.env x = pure x := by intro _; rfl) :
    BS X W Wk (.Assign [.Name y py] (.ListComp elt [⟨tg, iter, ifs, 0⟩] scope pos) spos) (sAsg (eLc m ti en tt te) (gN i)) := PS.weak (ps_setLc hc hN hy hyl hsw hi ok hg ht he hs) fun E σ H ⟨hid, ρ, μ, Xd, Dd, rel, sr, q, pe, px⟩ =>
  lc_td ek (m := m) ⟨hid, ρ, μ, Xd, _, rel, sr, q, fun v d H1 μ1 s1 sr1 r1 q1 => pe.nx _ _ H1 μ1 s1 sr1 (rel_set (.some r1) i (rel_mono s1.ok rel)) q1, px.at_ rel⟩
end
end PD
set_option Elab.async false
set_option linter.all false
set_option autoImplicit false
set_option maxRecDepth 100000
set_option maxHeartbeats 4000000
namespace PD
open PySem PySem.Spec PyProof.Rows L2
/-! ### defs -/
abbrev FD := List D → Mu → QD → (XD → Mu → Prop) → Prop
def PF (W : Wo) (hid : Hid) (H : Hp) (μ : Mu) (Xd : XD → Mu → Prop) (E : XK) : Prop := ∀ x cls dd H' μ', St H μ H' μ' → SR W hid H' μ' → XRep W hid H' μ' x cls dd → Xd x μ' → E cls dd H'
def spD (W : Wo) (n : Nat) (F : FD) : Sp := fun vs H Q E => ∃ hid ds μ Qd Xd, ds.length = n ∧ Reps W hid H μ vs ds ∧ SR W hid H μ ∧ F ds μ Qd Xd ∧ PQ W hid H μ Qd Q ∧ PF W hid H μ Xd E
/-- a def by its body -/
def fnD (n : Nat) (ts : TDS) : FD := fun ds μ Q Xd => ts { nx := fun _ μ' => Q .non (μ'.inter μ), rt := fun d μ' => Q d (μ'.inter μ) } (fun x _ μ' => Xd x (μ'.inter μ)) (startD n ds) μ
def eCall (n : Nat) (F : FD) (dds : List D) (ta : TDA) : TDE := fun Xd ρ μ Q => ta Xd ρ μ fun ds μ1 => (ds ++ dds).length = n ∧ F (ds ++ dds) μ1 Q fun x μ2 => Xd x ρ μ2
section
variable {P : Program} {w : World} {K : PySem.W.Frag} {mg : Str → Option Value} {base : Heap} {W : Wo}
theorem body_ok {N : List Str} {ts : TDS} {E : XK} {vs : List V} {H : Hp} {Q : VK} {n : Nat} (h : spD W n (fnD N.length ts) vs H Q E) : TDs W (fun cls d _ H => E cls d H) ts { nx := fun _ H' => Q .non H', rt := Q } (L2.start N vs) H := by
  obtain ⟨hid, ds, μ, Qd, Xd, hn, r, sr, q, pq, pf⟩ := h
  have cut : ∀ {H' μ'}, St H μ H' μ' → St H μ H' (μ'.inter μ) := fun s => s.trans Mu.inter_le.st
  refine ⟨hid, startD N.length ds, μ, _, _, rel_start r, sr, q, ⟨?_, ?_, fun _ _ _ _ _ _ _ z => z.elim, fun _ _ _ _ _ _ _ z => z.elim⟩, ?_⟩
  · exact fun σ' ρ' H' μ' s' sr' _ q' => pq .non .non H' _ (cut s') (sr'.le Mu.inter_le) .non q'
  · exact fun v d H' μ' s' sr' r' q' => pq v d H' _ (cut s') (sr'.le Mu.inter_le) (r'.mono Mu.inter_le.st.ok) q'
  · intro x cls dd σ' ρ' H' μ' s' sr' _ xr q'
    refine pf x cls dd H' _ (cut s') (sr'.le Mu.inter_le) ⟨xr.1, ?_⟩ q'
    rcases xr.2 with z | ⟨a, fs, e1, e2, i, n, e3⟩
    · exact .inl z
    · exact .inr ⟨a, fs, e1, e2, Mu.inter_le.im i, n, e3.mono Mu.inter_le.st.ok⟩
theorem TopFn_okD {x : Str} {st : Stmt} {N ps : List Str} {k : Nat} {ts : TDS} (F : LB.TopFn K mg x st ps) (S : FnScope N ps (defScope st))
    (hbody : ∀ (f : Addr) (cdv : Value) (A : Around) (outer : List PySem.Env) (s : Shared) (H : Hp) (E : XK), Room k (A.deeper (envOfC x (defScope st) s.heap.objs.size f cdv)) →
      BSs (cxOf (L2.CX P w) P w K mg base N x (defScope st) f cdv A outer s H E) W (fun cls d _ H => E cls d H) (defBody st) ts) : LB.DefX P w K mg base (k + 1) x ps [] (spD W ps.length (fnD N.length ts)) := by
  refine F.okX S (fun vs H Q E h => ?_) fun f cdv A outer s H vs Q E hr h => ⟨_, hbody f cdv A outer s H E hr, body_ok h⟩
  obtain ⟨hid, ds, μ, Qd, Xd, hn, r, _⟩ := h
  rw [r.length]
  exact hn
theorem TopFnD_okD {x : Str} {st : Stmt} {N ps : List Str} {dvs : List V} {k : Nat} {ts : TDS} (F : LB.TopFnD K mg x st ps dvs) (S : FnScope N ps (defScope st))
    (hbody : ∀ (f : Addr) (cdv : Value) (A : Around) (outer : List PySem.Env) (s : Shared) (H : Hp) (E : XK), Room k (A.deeper (envOfC x (defScope st) s.heap.objs.size f cdv)) →
      BSs (cxOf (L2.CX P w) P w K mg base N x (defScope st) f cdv A outer s H E) W (fun cls d _ H => E cls d H) (defBody st) ts) : LB.DefX P w K mg base (k + 1) x ps [] (spD W ps.length (fnD N.length ts)) ∧ LB.DefX P w K mg base (k + 1) x ps dvs (spD W ps.length (fnD N.length ts)) := by
  refine F.okX S (fun vs H Q E h => ?_) fun f cdv A outer s H vs Q E hr h => ⟨_, hbody f cdv A outer s H E hr, body_ok h⟩
  obtain ⟨hid, ds, μ, Qd, Xd, hn, r, _⟩ := h
  rw [r.length]
  exact hn
end
/-- the law itself -/
theorem law_ok {K : PySem.W.Frag} {W : Wo} {N : List Str} {ts : TDS} {vs : List V} {H : Hp} {Q : VK} {E : XK} (hK : K = W.K) (hsp : LB.spLaw K vs H Q E)
    (h : ∀ (ns : List Int), ns.length ≤ 63 → fnD N.length ts [.scr ns] (fun _ => none) (fun d _ => d = .bl true) fun _ _ => False) : TDs W WF ts { nx := fun _ H' => Q .non H', rt := Q } (L2.start N vs) H := by
  obtain ⟨a, ns, rfl, hS, hl, k⟩ := hsp
  have sr : SR W (fun _ => False) H (fun _ => none) := ⟨fun a m e => (by cases e), fun d l e => (by cases e), fun d d' l e => (by cases e), fun a e => e.elim⟩
  have r : Rep W (fun _ => False) H (fun _ => none) (.ref a) (.scr ns) := by
    rw [hK] at hS
    rcases hS with hS | hS
    · exact .scr hS ⟨rfl, fun d e => by cases e⟩ id
    · exact .scrK fun H' => .inr hS
  refine body_ok (E := fun _ _ _ => False) ⟨_, [.scr ns], _, _, _, rfl, .cons r .nil, sr, h ns hl, fun v d H' μ' _ _ r' e => ?_, fun _ _ _ _ _ _ _ _ z => z⟩
  subst e
  cases r'
  exact k H'
section
variable {X : Cx} {W : Wo} {Wk : WX} {k n : Nat} {x : Str} {ps : List Str} {dvs : List V} {dds : List D} {F : FD} {e : Expr} {es : List Expr} {ta : TDA} {p pos : Pos}
theorem be_fn (D : LB.DefX X.prog X.w X.K X.mg X.base k x ps dvs (spD W n F)) (hv : ∀ hid H μ, Reps W hid H μ dvs dds) (tk : Takes X Wk) (hr : Room k X.A) (hg : Gl X x) (ha : BA X W Wk (e :: es) ta) (hdb : (x == ("__debug__" : Str)) = false := by decide)
    (he : starEach (e :: es) X.env = (false, eval e X.env) :: starEach es X.env := by rfl) (hpl : (backTo pos (starEach es X.env)).any (·.1) = false := by rfl) : BE X W Wk (.Call (.Name x p) (e :: es) [] pos) (eCall n F dds ta) :=
  PE.weak (LB.pe_fnX D tk hr hg ha hdb he hpl) fun σ H Q ⟨hid, ρ, μ, Xd, Qd, rel, sr, q, pq, px⟩ =>
    ⟨hid, ρ, μ, Xd, _, rel, sr, q, fun vs ds H1 μ1 s1 sr1 r1 q1 => ⟨hid, ds ++ dds, μ1, Qd, _, q1.1, r1.append (hv _ _ _), sr1, q1.2, pq.st s1, fun y cls dd H' μ' s' sr' xr q' => px y cls dd H' μ' (s1.trans s') sr' xr q'⟩, px⟩
/-- where nothing may be raised -/
theorem be_fnE (D : LB.DefX X.prog X.w X.K X.mg X.base k x ps dvs (spD W n F)) (hv : ∀ hid H μ, Reps W hid H μ dvs dds) (hr : Room k X.A) (hg : Gl X x) (ha : BA X W WF (e :: es) ta) (hdb : (x == ("__debug__" : Str)) = false := by decide)
    (he : starEach (e :: es) X.env = (false, eval e X.env) :: starEach es X.env := by rfl) (hpl : (backTo pos (starEach es X.env)).any (·.1) = false := by rfl) : BE X W WF (.Call (.Name x p) (e :: es) [] pos) (eCall n F dds ta) :=
  PE.weak (LB.pe_fnE D hr hg ha hdb he hpl) fun σ H Q ⟨hid, ρ, μ, Xd, Qd, rel, sr, q, pq, px⟩ =>
    ⟨hid, ρ, μ, Xd, _, rel, sr, q, fun vs ds H1 μ1 s1 sr1 r1 q1 => ⟨hid, ds ++ dds, μ1, Qd, _, q1.1, r1.append (hv _ _ _), sr1, q1.2, pq.st s1, fun y cls dd H' μ' s' sr' xr q' => px y cls dd H' μ' (s1.trans s') sr' xr q'⟩, px⟩
/-! ### built-ins -/
abbrev CD := List D → Mu → QD → Prop
def rCD (W : Wo) (o : CD) : List V → Hp → VK → Prop := fun vs H Q => ∃ hid μ ds Qd, SR W hid H μ ∧ Reps W hid H μ vs ds ∧ o ds μ Qd ∧ PQ W hid H μ Qd Q
def eB (o : CD) (ta : TDA) : TDE := fun Xd ρ μ Q => ta Xd ρ μ fun ds μ1 => o ds μ1 Q
theorem cb_td {o : CD} {ta : TDA} {σ : L2.St} {H : Hp} {Q : VK} (h : TD W Wk (eB o ta) σ H Q) : tCB (rCD W o) (TDa W Wk ta) σ H Q := by
  obtain ⟨hid, ρ, μ, Xd, Qd, rel, sr, q, pq, px⟩ := h
  exact ⟨hid, ρ, μ, Xd, _, rel, sr, q, fun vs ds H1 μ1 s1 sr1 r1 q1 => ⟨hid, μ1, ds, Qd, sr1, r1, q1, pq.st s1⟩, px⟩
theorem be_callB {id : String} {o : CD} (hc : CallR X (.builtin id) (rCD W o)) (hg : Gl X x) (hm : X.mg x = none) (hv : bootBuiltins x = some (.builtin id)) (ha : BA X W Wk (e :: es) ta) (hn : x ≠ "__name__" := by decide) (hdb : (x == ("__debug__" : Str)) = false := by decide)
    (he : starEach (e :: es) X.env = (false, eval e X.env) :: starEach es X.env := by rfl) (hpl : (backTo pos (starEach es X.env)).any (·.1) = false := by rfl) : BE X W Wk (.Call (.Name x p) (e :: es) [] pos) (eB o ta) := PE.weak (pe_callB hc hg hm hv ha hn hdb he hpl) fun _ _ _ h => cb_td h
theorem be_callTy {T : String} {o : CD} (hc : CallR X (.type T) (rCD W o)) (hg : Gl X x) (hm : X.mg x = none) (hv : bootBuiltins x = some (.type T)) (ha : BA X W Wk (e :: es) ta) (hn : x ≠ "__name__" := by decide) (hdb : (x == ("__debug__" : Str)) = false := by decide)
    (he : starEach (e :: es) X.env = (false, eval e X.env) :: starEach es X.env := by rfl) (hpl : (backTo pos (starEach es X.env)).any (·.1) = false := by rfl) : BE X W Wk (.Call (.Name x p) (e :: es) [] pos) (eB o ta) := PE.weak (pe_callTy hc hg hm hv ha hn hdb he hpl) fun _ _ _ h => cb_td h
end
end PD
set_option Elab.async false
set_option linter.all false
set_option autoImplicit false
set_option maxRecDepth 100000
set_option maxHeartbeats 4000000
namespace PD
open PySem PySem.Spec PyProof.Rows L2
theorem CallR.weak {X : Cx} {f : Value} {r q : List V → Hp → VK → Prop} (h : CallR X f r) (k : ∀ x H Q, q x H Q → r x H Q) : CallR X f q := fun pins s σ H x v Q I rx z => h pins s σ H x v Q I rx (k x H Q z)
theorem CallR.or {X : Cx} {f : Value} {r q : List V → Hp → VK → Prop} (h : CallR X f r) (k : CallR X f q) : CallR X f (fun x H Q => r x H Q ∨ q x H Q) := fun pins s σ H x v Q I rx z => z.elim (h pins s σ H x v Q I rx) (k pins s σ H x v Q I rx)
def intsOf : List D → Option (List Int)
  | [] => some []
  | .int i :: ds => (intsOf ds).map (i :: ·)
  | _ :: _ => none
def strsOf : List D → Option (List Str)
  | [] => some []
  | .str i :: ds => (strsOf ds).map (i :: ·)
  | _ :: _ => none
def blsOf : List D → Option (List Bool)
  | [] => some []
  | .bl i :: ds => (blsOf ds).map (i :: ·)
  | _ :: _ => none
theorem intsOf_eq : ∀ {ds : List D} {ns : List Int}, intsOf ds = some ns → ds = ns.map D.int
  | [], ns, e => by cases e; rfl
  | d :: ds, ns, e => by
    cases d with
    | int i =>
      cases h : intsOf ds with
      | none => simp [intsOf, h] at e
      | some ms =>
        simp [intsOf, h] at e
        subst e
        rw [intsOf_eq h]
        rfl
    | _ => cases e
theorem intsOf_map (ns : List Int) : intsOf (ns.map D.int) = some ns := by
  induction ns with
  | nil => rfl
  | cons n ns ih => simp [intsOf, ih]
theorem strsOf_eq : ∀ {ds : List D} {ns : List Str}, strsOf ds = some ns → ds = ns.map D.str
  | [], ns, e => by cases e; rfl
  | d :: ds, ns, e => by
    cases d with
    | str i =>
      cases h : strsOf ds with
      | none => simp [strsOf, h] at e
      | some ms =>
        simp [strsOf, h] at e
        subst e
        rw [strsOf_eq h]
        rfl
    | _ => cases e
theorem strsOf_map (ns : List Str) : strsOf (ns.map D.str) = some ns := by
  induction ns with
  | nil => rfl
  | cons n ns ih => simp [strsOf, ih]
theorem blsOf_eq : ∀ {ds : List D} {ns : List Bool}, blsOf ds = some ns → ds = ns.map D.bl
  | [], ns, e => by cases e; rfl
  | d :: ds, ns, e => by
    cases d with
    | bl i =>
      cases h : blsOf ds with
      | none => simp [blsOf, h] at e
      | some ms =>
        simp [blsOf, h] at e
        subst e
        rw [blsOf_eq h]
        rfl
    | _ => cases e
theorem blsOf_map (ns : List Bool) : blsOf (ns.map D.bl) = some ns := by
  induction ns with
  | nil => rfl
  | cons n ns ih => simp [blsOf, ih]
section
variable {X : Cx} {W : Wo} {Wk : WX}
/-- len -/
def cLen : CD := fun ds μ Q => match ds with
  | [.str z] => z.length ≤ sizeLine ∧ Q (.int z.length) μ
  | [d] => (match seqOf d μ with | some xs => Q (.int xs.length) μ | none => False)
  | _ => False
theorem cd_len (C : TW X.K X.w W) : CallR X (.builtin "len") (rCD W cLen) := CallR.weak (CallR.or call_len_seq call_len_str) fun x H Q ⟨hid, μ, ds, Qd, sr, r, h, pq⟩ => by
  unfold cLen at h
  split at h
  · cases r with
    | cons ra rr =>
      cases rr
      cases ra
      exact .inr ⟨_, rfl, h.1, pq _ _ H μ .refl sr (.int _) h.2⟩
  · split at h
    · rename_i xs es
      cases r with
      | cons ra rr =>
        cases rr
        obtain ⟨a, vs, rfl, ha, q⟩ := seqOf_ok es sr ra
        rw [← C.hK] at ha
        exact .inl ⟨a, vs, rfl, ha, by rw [q.length]; exact pq _ _ H μ .refl sr (.int _) h⟩
    · exact h.elim
  · exact h.elim
/-- max, min of two; abs -/
def cI2 (g : Int → Int → Int) : CD := fun ds μ Q => match ds with
  | [.int i, .int j] => Q (.int (g i j)) μ
  | _ => False
theorem cd_I2 {f : Value} {g : Int → Int → Int} (h : CallR X f (fun xs H Q => ∃ i j, xs = [.int i, .int j] ∧ Q (.int (g i j)) H)) : CallR X f (rCD W (cI2 g)) := CallR.weak h fun x H Q ⟨hid, μ, ds, Qd, sr, r, h, pq⟩ => by
  unfold cI2 at h
  split at h
  · cases r with
    | cons ra rr =>
      cases rr with
      | cons rb rr =>
        cases rr
        cases ra
        cases rb
        exact ⟨_, _, rfl, pq _ _ H μ .refl sr (.int _) h⟩
  · exact h.elim
abbrev cMax2 : CD := cI2 fun i j => if j > i then j else i
abbrev cMin2 : CD := cI2 fun i j => if j < i then j else i
theorem cd_max2 (hc : X.calm = true) : CallR X (.builtin "max") (rCD W cMax2) := cd_I2 (call_max2 hc)
theorem cd_min2 (hc : X.calm = true) : CallR X (.builtin "min") (rCD W cMin2) := cd_I2 (call_min2 hc)
def cAbs : CD := fun ds μ Q => match ds with
  | [.int i] => Q (.int (if i < 0 then -i else i)) μ
  | _ => False
theorem cd_abs : CallR X (.builtin "abs") (rCD W cAbs) := CallR.weak call_abs fun x H Q ⟨hid, μ, ds, Qd, sr, r, h, pq⟩ => by
  unfold cAbs at h
  split at h
  · cases r with
    | cons ra rr =>
      cases rr
      cases ra
      exact ⟨_, rfl, pq _ _ H μ .refl sr (.int _) h⟩
  · exact h.elim
/-- str(int); int(bool), int(int), int(text) -/
def cStr : CD := fun ds μ Q => match ds with
  | [.int i] => i.natAbs.log2 < 1920 ∧ Q (.str (toString i)) μ
  | [.str a] => Q (.str a) μ
  | _ => False
theorem cd_str : CallR X (.type "str") (rCD W cStr) := CallR.weak (CallR.or call_str_int SkE.call_str_str) fun x H Q ⟨hid, μ, ds, Qd, sr, r, h, pq⟩ => by
  unfold cStr at h
  split at h
  · cases r with
    | cons ra rr =>
      cases rr
      cases ra
      exact .inl ⟨_, rfl, h.1, pq _ _ H μ .refl sr (.str _) h.2⟩
  · cases r with
    | cons ra rr =>
      cases rr
      cases ra
      exact .inr ⟨_, rfl, pq _ _ H μ .refl sr (.str _) h⟩
  · exact h.elim
def cInt : CD := fun ds μ Q => match ds with
  | [.int i] => Q (.int i) μ
  | [.bl b] => Q (.int (if b then 1 else 0)) μ
  | [.str a] => a.length ≤ 640 ∧ (match PySem.intText? a with | some n => Q (.int n) μ | none => False)
  | _ => False
theorem cd_int : CallR X (.type "int") (rCD W cInt) := CallR.weak (CallR.or call_int1 call_int_str) fun x H Q ⟨hid, μ, ds, Qd, sr, r, h, pq⟩ => by
  unfold cInt at h
  split at h
  · cases r with
    | cons ra rr =>
      cases rr
      cases ra
      exact .inl (.inl ⟨_, rfl, pq _ _ H μ .refl sr (.int _) h⟩)
  · cases r with
    | cons ra rr =>
      cases rr
      cases ra
      exact .inl (.inr ⟨_, rfl, pq _ _ H μ .refl sr (.int _) h⟩)
  · cases r with
    | cons ra rr =>
      cases rr
      cases ra
      obtain ⟨hl, h⟩ := h
      split at h
      · rename_i n hn
        exact .inr ⟨_, n, rfl, hn, hl, pq _ _ H μ .refl sr (.int _) h⟩
      · exact h.elim
  · exact h.elim
/-- list(x), tuple(x) -/
def cList (m : Bool) : CD := fun ds μ Q => match ds with
  | [d] => (match seqOf d μ with | some xs => newL m xs μ Q | none => False)
  | _ => False
theorem cd_list {m : Bool} (C : TW X.K X.w W) : CallR X (.type "list") (rCD W (cList m)) := CallR.weak call_list_of fun x H Q ⟨hid, μ, ds, Qd, sr, r, h, pq⟩ => by
  unfold cList at h
  split at h
  · split at h
    · rename_i xs es
      cases r with
      | cons ra rr =>
        cases rr
        obtain ⟨a, vs, rfl, ha, q⟩ := seqOf_ok es sr ra
        rw [← C.hK] at ha
        exact ⟨a, vs, rfl, ha, fun l hl => newL_ok sr q hl h pq⟩
    · exact h.elim
  · exact h.elim
def cTuple : CD := fun ds μ Q => match ds with
  | [d] => (match seqOf d μ with | some xs => Q (.tup xs) μ | none => False)
  | _ => False
theorem cd_tuple (C : TW X.K X.w W) : CallR X (.type "tuple") (rCD W cTuple) := CallR.weak call_tuple_of fun x H Q ⟨hid, μ, ds, Qd, sr, r, h, pq⟩ => by
  unfold cTuple at h
  split at h
  · rename_i d
    split at h
    · rename_i xs es
      cases r with
      | cons ra rr =>
        cases rr
        by_cases ht : ∃ ys, d = .tup ys
        · obtain ⟨ys, rfl⟩ := ht
          cases es
          obtain ⟨a, vs, rfl, ha, q⟩ := tup_ok ra
          rw [← C.hK] at ha
          exact ⟨a, vs, rfl, .inr ⟨ha, pq _ _ H μ .refl sr ra h⟩⟩
        · have el : lstOf d μ = some xs := by
            cases d <;> first | exact es | exact absurd ⟨_, rfl⟩ ht
          obtain ⟨a, vs, rfl, ha, q⟩ := lstOf_ok el sr ra
          rw [← C.hK] at ha
          exact ⟨a, vs, rfl, .inl ⟨ha, fun l hl => newT_ok sr q hl h pq⟩⟩
    · exact h.elim
  · exact h.elim
/-- sum, max, min, all, any of a list -/
def cSum : CD := fun ds μ Q => match ds with
  | [d] => (match (lstOf d μ).bind intsOf with | some ns => Q (.int ns.sum) μ | none => False)
  | _ => False
theorem bind_ints {d : D} {μ : Mu} {ns : List Int} (e : (lstOf d μ).bind intsOf = some ns) : lstOf d μ = some (ns.map D.int) := by
  cases h : lstOf d μ with
  | none => rw [h] at e; cases e
  | some xs =>
    rw [h] at e
    rw [intsOf_eq e]
theorem bind_bls {d : D} {μ : Mu} {ns : List Bool} (e : (lstOf d μ).bind blsOf = some ns) : lstOf d μ = some (ns.map D.bl) := by
  cases h : lstOf d μ with
  | none => rw [h] at e; cases e
  | some xs =>
    rw [h] at e
    rw [blsOf_eq e]
theorem bind_strs {d : D} {μ : Mu} {ns : List Str} (e : (seqOf d μ).bind strsOf = some ns) : seqOf d μ = some (ns.map D.str) := by
  cases h : seqOf d μ with
  | none => rw [h] at e; cases e
  | some xs =>
    rw [h] at e
    rw [strsOf_eq e]
theorem cd_sum (C : TW X.K X.w W) (hc : X.calm = true) : CallR X (.builtin "sum") (rCD W cSum) := CallR.weak (cr_sum hc) fun x H Q ⟨hid, μ, ds, Qd, sr, r, h, pq⟩ => by
  unfold cSum at h
  split at h
  · split at h
    · rename_i ns es
      cases r with
      | cons ra rr =>
        cases rr
        obtain ⟨a, vs, rfl, ha, q⟩ := lstOf_ok (bind_ints es) sr ra
        rw [← C.hK] at ha
        rw [reps_ints q] at ha
        exact ⟨a, ns, rfl, ha, pq _ _ H μ .refl sr (.int _) h⟩
    · exact h.elim
  · exact h.elim
def cMaxL : CD := fun ds μ Q => match ds with
  | [d] => (match (lstOf d μ).bind intsOf with | some ns => 0 < ns.length ∧ ∀ m, m ∈ ns → (∀ y, y ∈ ns → y ≤ m) → Q (.int m) μ | none => False)
  | _ => False
theorem cd_maxL (C : TW X.K X.w W) (hc : X.calm = true) : CallR X (.builtin "max") (rCD W cMaxL) := CallR.weak (cr_max hc) fun x H Q ⟨hid, μ, ds, Qd, sr, r, h, pq⟩ => by
  unfold cMaxL at h
  split at h
  · split at h
    · rename_i ns es
      cases r with
      | cons ra rr =>
        cases rr
        obtain ⟨a, vs, rfl, ha, q⟩ := lstOf_ok (bind_ints es) sr ra
        rw [← C.hK] at ha
        rw [reps_ints q] at ha
        exact ⟨a, ns, rfl, ha, h.1, fun m h1 h2 => pq _ _ H μ .refl sr (.int _) (h.2 m h1 h2)⟩
    · exact h.elim
  · exact h.elim
def cAll (g : List Bool → Bool) : CD := fun ds μ Q => match ds with
  | [d] => (match (lstOf d μ).bind blsOf with | some ns => Q (.bl (g ns)) μ | none => False)
  | _ => False
theorem cd_all (C : TW X.K X.w W) (hc : X.calm = true) : CallR X (.builtin "all") (rCD W (cAll fun bs => bs.all id)) := CallR.weak (cr_all hc) fun x H Q ⟨hid, μ, ds, Qd, sr, r, h, pq⟩ => by
  unfold cAll at h
  split at h
  · split at h
    · rename_i ns es
      cases r with
      | cons ra rr =>
        cases rr
        obtain ⟨a, vs, rfl, ha, q⟩ := lstOf_ok (bind_bls es) sr ra
        rw [← C.hK] at ha
        rw [reps_bls q] at ha
        exact ⟨a, ns, rfl, ha, pq _ _ H μ .refl sr (.bl _) h⟩
    · exact h.elim
  · exact h.elim
theorem cd_any (C : TW X.K X.w W) (hc : X.calm = true) : CallR X (.builtin "any") (rCD W (cAll fun bs => bs.any id)) := CallR.weak (cr_any hc) fun x H Q ⟨hid, μ, ds, Qd, sr, r, h, pq⟩ => by
  unfold cAll at h
  split at h
  · split at h
    · rename_i ns es
      cases r with
      | cons ra rr =>
        cases rr
        obtain ⟨a, vs, rfl, ha, q⟩ := lstOf_ok (bind_bls es) sr ra
        rw [← C.hK] at ha
        rw [reps_bls q] at ha
        exact ⟨a, ns, rfl, ha, pq _ _ H μ .refl sr (.bl _) h⟩
    · exact h.elim
  · exact h.elim
/-! ### methods of built-in types -/
abbrev MD := D → List D → Mu → QD → Prop
def rMD (W : Wo) (o : MD) : V → List V → Hp → VK → Prop := fun x vs H Q => ∃ hid μ d ds Qd, SR W hid H μ ∧ Rep W hid H μ x d ∧ Reps W hid H μ vs ds ∧ o d ds μ Qd ∧ PQ W hid H μ Qd Q
def tyD (T : String) (d : D) (μ : Mu) : Prop := match d with
  | .str _ => T = "str"
  | .int _ => T = "int"
  | d => (T = "list" ∧ (lstOf d μ).isSome = true) ∨ (T = "dict" ∧ (dicOf d μ).isSome = true)
theorem tyD_ok {T : String} {hid : Hid} {H : Hp} {μ : Mu} {v : V} {d : D} (C : TW X.K X.w W) (sr : SR W hid H μ) (r : Rep W hid H μ v d) (h : tyD T d μ) : tyV X.K T v H := by
  unfold tyD at h
  split at h
  · cases r; exact h
  · cases r; exact h
  · rcases h with ⟨rfl, h⟩ | ⟨rfl, h⟩
    · obtain ⟨xs, e⟩ := Option.isSome_iff_exists.mp h
      obtain ⟨a, vs, rfl, ha, _⟩ := lstOf_ok e sr r
      rw [← C.hK] at ha
      exact .inl ⟨rfl, vs, ha⟩
    · obtain ⟨xs, e⟩ := Option.isSome_iff_exists.mp h
      obtain ⟨a, es, rfl, ha, _⟩ := dicOf_ok sr e r
      exact .inr (.inr (.inl ⟨rfl, .inl ⟨es, ha⟩⟩))
def eM (T : String) (o : MD) (td : TDE) (ta : TDA) : TDE := fun Xd ρ μ Q => td Xd ρ μ fun d μ1 => tyD T d μ1 ∧ ta Xd ρ μ1 fun ds μ2 => o d ds μ2 Q
theorem be_bm {T id : String} {name : Str} {o : MD} {ob e : Expr} {es : List Expr} {td : TDE} {ta : TDA} {apos cpos : Pos} (C : TW X.K X.w W) (pa : PlainAttrs T) (slot : Slot T name id) (hty : typeOf (.builtin id) = pure (.type "method_descriptor")) (hm : MtR X id (rMD W o)) (ho : BE X W Wk ob td) (ha : BA X W Wk (e :: es) ta)
    (hb : attributeBase ob name X.env (eval ob X.env) = eval ob X.env := by rfl)
    (hfew : ((backTo cpos (starEach (e :: es) X.env)).all (fun x => !x.1) && (backToKw cpos (keywordEach [] X.env)).all (fun x => x.1.isSome) && decide ((e :: es).length + ([] : List Keyword).length + (if ([] : List Keyword).isEmpty then 0 else 1) < 30)) = true := by rfl)
    (hline : (apos.endLine == cpos.line) = true := by rfl) (hs : starEach (e :: es) X.env = (false, eval e X.env) :: starEach es X.env := by rfl) (hpl : (backTo cpos (starEach es X.env)).any (·.1) = false := by rfl) :
    BE X W Wk (.Call (.Attribute ob name apos) (e :: es) [] cpos) (eM T o td ta) := PE.weak (pe_bm pa slot hty hm ho ha hb hfew hline hs hpl) fun σ H Q ⟨hid, ρ, μ, Xd, Qd, rel, sr, q, pq, px⟩ => by
  refine ⟨hid, ρ, μ, Xd, _, rel, sr, q, fun v d H1 μ1 s1 sr1 r1 q1 => ⟨tyD_ok C sr1 r1 q1.1, ?_⟩, px⟩
  refine ⟨hid, ρ, μ1, Xd, _, rel_mono s1.ok rel, sr1, q1.2, fun vs ds H2 μ2 s2 sr2 r2 q2 => ?_, px.st s1⟩
  exact ⟨hid, μ2, d, ds, Qd, sr2, r1.mono s2.ok, r2, q2, pq.st (s1.trans s2)⟩
theorem be_bm0 {T id : String} {name : Str} {o : MD} {ob : Expr} {td : TDE} {apos cpos : Pos} (C : TW X.K X.w W) (pa : PlainAttrs T) (slot : Slot T name id) (hty : typeOf (.builtin id) = pure (.type "method_descriptor")) (hm : MtR X id (rMD W o)) (ho : BE X W Wk ob td)
    (hb : attributeBase ob name X.env (eval ob X.env) = eval ob X.env := by rfl) (hline : (apos.endLine == cpos.line) = true := by rfl) :
    BE X W Wk (.Call (.Attribute ob name apos) [] [] cpos) (eM T o td aNil) := PE.weak (pe_bm0 pa slot hty hm ho hb hline) fun σ H Q ⟨hid, ρ, μ, Xd, Qd, rel, sr, q, pq, px⟩ =>
  ⟨hid, ρ, μ, Xd, _, rel, sr, q, fun v d H1 μ1 s1 sr1 r1 q1 => ⟨tyD_ok C sr1 r1 q1.1, hid, μ1, d, [], Qd, sr1, r1, .nil, q1.2, pq.st s1⟩, px⟩
theorem MtR.weak {id : String} {r q : V → List V → Hp → VK → Prop} (h : MtR X id r) (k : ∀ x vs H Q, q x vs H Q → r x vs H Q) : MtR X id q := fun pins s σ H x xs v us Q I rx rs z => h pins s σ H x xs v us Q I rx rs (k x xs H Q z)
/-- a list of the store -/
def lstS (d : D) (μ : Mu) (k : Addr → List D → Prop) : Prop := match d with
  | .ptr a => (match μ a with | some (.lst xs) => k a xs | _ => False)
  | _ => False
theorem lstS_ok {hid : Hid} {H : Hp} {μ : Mu} {v : V} {d : D} {k : Addr → List D → Prop} (sr : SR W hid H μ) (r : Rep W hid H μ v d) (h : lstS d μ k) : ∃ a xs vs, v = .ref a ∧ μ a = some (.lst xs) ∧ H a = some (.lst vs) ∧ Reps W hid H μ vs xs ∧ k a xs := by
  unfold lstS at h
  split at h
  · rename_i a
    cases r
    split at h
    · rename_i xs hm
      obtain ⟨vs, ha, q⟩ := (sr.at_ a _ hm).2
      exact ⟨a, xs, vs, rfl, hm, ha, q, h⟩
    · exact h.elim
  · exact h.elim
/-- it becomes another list -/
theorem put_lst {hid : Hid} {H : Hp} {μ : Mu} {a : Addr} {m : MO} {vs : List V} {ds : List D} {Qd : QD} {Q : VK} {u : V} {z : D} (sr : SR W hid H μ) (hm : μ a = some m) (r : Reps W hid H μ vs ds) (ru : Rep W hid H μ u z) (q : Qd z (μ.set a (.lst ds))) (pq : PQ W hid H μ Qd Q) : Q u (upd H a (.lst vs)) :=
  have hp : MO.plain (.lst ds) := True.intro
  pq _ _ _ _ (St.put hm hp) (sr.put hm hp ⟨_, upd_same, r.mono (St.put hm hp).ok⟩) (ru.mono (St.put hm hp).ok) q
def mAppend : MD := fun d ds μ Q => match ds with
  | [y] => lstS d μ fun a xs => xs.length < sizeLine ∧ Q .non (μ.set a (.lst (xs ++ [y])))
  | _ => False
theorem md_append : MtR X "list.append" (rMD W mAppend) := MtR.weak mt_append fun x vs H Q ⟨hid, μ, d, ds, Qd, sr, r, rs, h, pq⟩ => by
  unfold mAppend at h
  split at h
  · cases rs with
    | cons ra rr =>
      cases rr
      obtain ⟨a, xs, us, rfl, hm, ha, q, h⟩ := lstS_ok sr r h
      exact ⟨a, us, _, rfl, rfl, ha, by rw [q.length]; exact h.1, put_lst sr hm (q.append (.cons ra .nil)) .non h.2 pq⟩
  · exact h.elim
def mExtend : MD := fun d ds μ Q => match ds with
  | [e] => lstS d μ fun a xs => (match lstW e μ with | some ys => xs.length + ys.length ≤ sizeLine ∧ Q .non (μ.set a (.lst (xs ++ ys))) | none => False)
  | _ => False
theorem md_extend : MtR X "list.extend" (rMD W mExtend) := MtR.weak mt_extend fun x vs H Q ⟨hid, μ, d, ds, Qd, sr, r, rs, h, pq⟩ => by
  unfold mExtend at h
  split at h
  · cases rs with
    | cons ra rr =>
      cases rr
      obtain ⟨a, xs, us, rfl, hm, ha, q, h⟩ := lstS_ok sr r h
      split at h
      · rename_i ys ey
        obtain ⟨b, ws, rfl, hb, qb⟩ := lstW_ok ey sr ra
        exact ⟨a, b, us, ws, rfl, rfl, ha, hb, by rw [q.length, qb.length]; exact h.1, put_lst sr hm (q.append qb) .non h.2 pq⟩
      · exact h.elim
  · exact h.elim
/-- text.join, text.split -/
def mJoin : MD := fun d ds μ Q => match d, ds with
  | .str a, [e] => (match (seqOf e μ).bind strsOf with | some ys => (ys.map (·.length)).sum + ys.length * a.length ≤ 16777216 ∧ Q (.str (Txt.join a ys)) μ | none => False)
  | _, _ => False
theorem md_join (C : TW X.K X.w W) : MtR X "str.join" (rMD W mJoin) := MtR.weak mt_join fun x vs H Q ⟨hid, μ, d, ds, Qd, sr, r, rs, h, pq⟩ => by
  unfold mJoin at h
  split at h
  · cases r
    cases rs with
    | cons ra rr =>
      cases rr
      split at h
      · rename_i ys ey
        obtain ⟨p, us, rfl, hp, q⟩ := seqOf_ok (bind_strs ey) sr ra
        rw [reps_strs q, ← C.hK] at hp
        exact ⟨_, p, ys, rfl, rfl, hp, h.1, pq _ _ H μ .refl sr (.str _) h.2⟩
      · exact h.elim
  · exact h.elim
def mSplit (m : Bool) : MD := fun d ds μ Q => match d, ds with
  | .str a, [.str b] => (b.length == 0) = false ∧ a.length + 2 ≤ sizeLine ∧ newL m ((Txt.split a b).map D.str) μ Q
  | _, _ => False
theorem md_split {m : Bool} : MtR X "str.split" (rMD W (mSplit m)) := MtR.weak mt_split fun x vs H Q ⟨hid, μ, d, ds, Qd, sr, r, rs, h, pq⟩ => by
  unfold mSplit at h
  split at h
  · cases r
    cases rs with
    | cons ra rr =>
      cases rr
      cases ra
      exact ⟨_, _, rfl, rfl, h.1, h.2.1, fun p hp => newL_ok sr strs_reps hp h.2.2 pq⟩
  · exact h.elim
end
end PD
set_option Elab.async false
set_option linter.all false
set_option autoImplicit false
set_option maxRecDepth 100000
set_option maxHeartbeats 4000000
namespace PD
open PySem PySem.Spec PyProof.Rows L2
section
variable {X : Cx} {W : Wo} {Wk : WX}
theorem be_tup {es : List Expr} {ta : TDA} {x1} {pos : Pos} (h : BA X W Wk es ta) : BE X W Wk (.Tuple es x1 pos) (eTup ta) := PE.weak (pe_tup h) fun σ H Q ⟨hid, ρ, μ, Xd, Qd, rel, sr, q, pq, px⟩ =>
  ⟨hid, ρ, μ, Xd, _, rel, sr, q, fun vs ds H1 μ1 s1 sr1 r1 q1 => ⟨by rw [r1.length]; exact q1.1, fun p hp => newT_ok sr1 r1 hp q1.2 (pq.st s1)⟩, px⟩
theorem be_lst {m : Bool} {es : List Expr} {ta : TDA} {pos : Pos} (h : BA X W Wk es ta) : BE X W Wk (.List es pos) (eLst m ta) := PE.weak (pe_lst h) fun σ H Q ⟨hid, ρ, μ, Xd, Qd, rel, sr, q, pq, px⟩ =>
  ⟨hid, ρ, μ, Xd, _, rel, sr, q, fun vs ds H1 μ1 s1 sr1 r1 q1 => ⟨by rw [r1.length]; exact q1.1, fun p hp => newL_ok sr1 r1 hp q1.2 (pq.st s1)⟩, px⟩
/-! ### a thing of the store becomes a tree -/
def Mu.del (μ : Mu) (a : Addr) : Mu := fun b => if b = a then none else μ b
theorem Mu.del_le {μ : Mu} {a : Addr} : Le (μ.del a) μ := fun b => by
  unfold Mu.del
  split
  · exact .inl rfl
  · exact .inr rfl
theorem Mu.del_same {μ : Mu} {a : Addr} : (μ.del a) a = none := if_pos rfl
theorem Mu.del_ne {μ : Mu} {a b : Addr} (h : b ≠ a) : (μ.del a) b = μ b := if_neg h
theorem Mu.inter_del {μ μ' : Mu} {p : Addr} (h : μ p = none) : (μ'.del p).inter μ = μ'.inter μ := by
  funext b
  unfold Mu.inter
  by_cases e : b = p
  · subst e
    rw [h]
    rfl
  · rw [Mu.del_ne e]
def frz1 (d : D) (μ : Mu) (k : D → Mu → Prop) : Prop := match d with
  | .ptr a => (match μ a with | some (.lst ds) => k (.lst ds) (μ.del a) | _ => k d μ)
  | d => k d μ
def frzL : List D → Mu → (List D → Mu → Prop) → Prop
  | [], μ, k => k [] μ
  | d :: ds, μ, k => frz1 d μ fun d' μ1 => frzL ds μ1 fun ds' μ2 => k (d' :: ds') μ2
def frz (d : D) (μ : Mu) (k : D → Mu → Prop) : Prop := match d with
  | .tup ds => frzL ds μ fun ds' μ1 => k (.tup ds') μ1
  | d => frz1 d μ k
theorem deal_l {μ : Mu} {hid : Hid} {H : Hp} {a d : Addr} {xs : List D} (sr : SR W hid H μ) (hm : μ a = some (.lst xs)) : μ d ≠ some (.deal a) := fun e => by
  have := (sr.inn d a e).1
  rw [hm] at this
  cases this
theorem frz1_ok {hid : Hid} {H : Hp} {μ : Mu} {v : V} {d : D} {k : D → Mu → Prop} (sr : SR W hid H μ) (r : Rep W hid H μ v d) (h : frz1 d μ k) : ∃ d' μ', Le μ' μ ∧ Rep W hid H μ' v d' ∧ k d' μ' := by
  unfold frz1 at h
  split at h
  · rename_i a
    split at h
    · rename_i ds hm
      cases r
      obtain ⟨vs, ha, q⟩ := (sr.at_ a _ hm).2
      refine ⟨_, _, Mu.del_le, .lst ha ⟨Mu.del_same, fun e' e2 => ?_⟩ (sr.at_ a _ hm).1 (q.mono Mu.del_le.st.ok), h⟩
      have : μ e' = some (.deal a) := by
        unfold Mu.del at e2
        split at e2
        · cases e2
        · exact e2
      exact deal_l sr hm this
    · exact ⟨_, _, fun _ => .inr rfl, r, h⟩
  · exact ⟨_, _, fun _ => .inr rfl, r, h⟩
theorem Le.trans {μ μ1 μ2 : Mu} (a : Le μ1 μ) (b : Le μ2 μ1) : Le μ2 μ := fun x => by
  rcases b x with h | h
  · exact .inl h
  · rw [h]
    exact a x
theorem frzL_ok {hid : Hid} {H : Hp} : ∀ {μ : Mu} {vs : List V} {ds : List D} {k : List D → Mu → Prop}, SR W hid H μ → Reps W hid H μ vs ds → frzL ds μ k → ∃ ds' μ', Le μ' μ ∧ Reps W hid H μ' vs ds' ∧ k ds' μ'
  | μ, _, _, k, sr, .nil, h => ⟨[], μ, fun _ => .inr rfl, .nil, h⟩
  | μ, _, _, k, sr, .cons r rs, h => by
    obtain ⟨d', μ1, l1, r1, h1⟩ := frz1_ok sr r h
    obtain ⟨ds', μ2, l2, r2, h2⟩ := frzL_ok (sr.le l1) (rs.mono l1.st.ok) h1
    exact ⟨d' :: ds', μ2, l1.trans l2, .cons (r1.mono l2.st.ok) r2, h2⟩
theorem frz_ok {hid : Hid} {H : Hp} {μ : Mu} {v : V} {d : D} {k : D → Mu → Prop} (sr : SR W hid H μ) (r : Rep W hid H μ v d) (h : frz d μ k) : ∃ d' μ', Le μ' μ ∧ Rep W hid H μ' v d' ∧ k d' μ' := by
  unfold frz at h
  split at h
  · cases r with
    | tup h0 i n q =>
      obtain ⟨ds', μ1, l1, r1, h1⟩ := frzL_ok sr q h
      exact ⟨_, μ1, l1, .tup h0 (l1.im i) n r1, h1⟩
    | tupK h0 q =>
      obtain ⟨ds', μ1, l1, r1, h1⟩ := frzL_ok sr q h
      exact ⟨_, μ1, l1, .tupK h0 r1, h1⟩
  · exact frz1_ok sr r h
def sRetF (te : TDE) : TDS := fun E Xd ρ μ => te Xd ρ μ fun d μ1 => frz d μ1 E.rt
theorem bs_retF {e : Expr} {te : TDE} {pos : Pos} (he : BE X W Wk e te) : BS X W Wk (.Return (some e) pos) (sRetF te) := PS.weak (ps_ret he) fun E σ H ⟨hid, ρ, μ, Xd, Dd, rel, sr, q, pe, px⟩ =>
  ⟨hid, ρ, μ, Xd, _, rel, sr, q, fun v d H1 μ1 s1 sr1 r1 q1 => by
    obtain ⟨d', μ2, l2, r2, q2⟩ := frz_ok sr1 r1 q1
    exact pe.rt v d' H1 μ2 (s1.trans l2.st) (sr1.le l2) r2 q2, px.at_ rel⟩
/-! ### the law's draws -/
def F_draw : FD := fun ds μ Q _ => match ds with
  | [.ptr d, .int many] => (∃ l, μ d = some (.deal l)) ∧ 0 < many ∧ many ≤ 340282366920938463463374607431768211456 ∧ ∀ r : Int, 0 ≤ r → r < many → Q (.int r) μ
  | _ => False
theorem keep_ok {hid : Hid} {H H' : Hp} {μ : Mu} {d l : Addr} (sr : SR W hid H μ) (hm : μ d = some (.deal l)) (D' : LB.Deal d l H') (K : LB.Keep d l H H') : St H μ H' μ ∧ SR W hid H' μ := by
  have st : St H μ H' μ := fun a o h i => by
    have n1 : a ≠ d := fun e => by
      subst e
      have := i.1
      rw [hm] at this
      cases this
    have n2 : a ≠ l := fun e => by
      subst e
      exact i.2 d hm
    exact ⟨K a o h n1 n2, i⟩
  refine ⟨st, ⟨fun a m h => ⟨(sr.at_ a m h).1, ?_⟩, sr.inn, sr.one, sr.hst st⟩⟩
  by_cases e : a = d
  · subst e
    rw [hm] at h
    cases h
    exact D'
  · have nl : a ≠ l := fun z => by
      subst z
      have := (sr.inn d a hm).1
      rw [h] at this
      cases this
    obtain ⟨o, ho⟩ := sr.known h
    refine (sr.at_ a m h).2.mono st.ok ((K a o ho e nl).trans ho.symm) fun l' e2 => ?_
    subst e2
    have n1 : l' ≠ d := fun z => by
      subst z
      have := (sr.inn a l' h).1
      rw [hm] at this
      cases this
    have n2 : l' ≠ l := fun z => by
      subst z
      exact e (sr.one a d l' h hm)
    obtain ⟨o', ho'⟩ := sr.inner h
    exact (K l' o' ho' n1 n2).trans ho'.symm
theorem draw_sp {vs : List V} {H : Hp} {Q : VK} {E : XK} (h : spD W 2 F_draw vs H Q E) : LB.spDraw vs H Q E := by
  obtain ⟨hid, ds, μ, Qd, Xd, hn, r, sr, q, pq, pf⟩ := h
  unfold F_draw at q
  split at q
  · rename_i d many
    obtain ⟨⟨l, hm⟩, h0, h1, q⟩ := q
    cases r with
    | cons ra rr =>
      cases rr with
      | cons rb rr =>
        cases rr
        cases ra
        cases rb
        refine ⟨d, l, many, rfl, (sr.at_ d _ hm).2, h0, h1, fun r H' r0 r1 D' K' => ?_⟩
        obtain ⟨st, sr'⟩ := keep_ok sr hm D' K'
        exact pq _ _ H' μ st sr' (.int _) (q r r0 r1)
  · exact q.elim
end
section
variable {P : Program} {w : World} {K : PySem.W.Frag} {mg : Str → Option Value} {base : Heap} {W : Wo}
/-- a def that raises nothing, as one that might -/
theorem DefOk_sp {k : Nat} {x : Str} {ps : List Str} {sp sp' : Sp} (D : LB.DefOk P w K mg base k x ps sp) (h : ∀ vs H Q E, sp' vs H Q E → sp vs H Q E) : LB.DefOk P w K mg base k x ps sp' := by
  obtain ⟨f, fd, F, h1, h2, h3⟩ := D.ex
  exact ⟨f, fd, F.imp h, h1, h2, h3⟩
theorem DefOk_x {k : Nat} {x : Str} {ps : List Str} {sp : Sp} (D : LB.DefOk P w K mg base k x ps sp) : LB.DefX P w K mg base k x ps [] sp := by
  obtain ⟨f, fd, F, h1, h2, h3⟩ := D.ex
  refine ⟨f, fd, [], ⟨F.len, fun A outer s H args us vs Q E hr he hb hv hs => ?_⟩, h1, h2, h3, .nil⟩
  refine codeAny_mono (F.run A outer s H args us vs Q E hr he hb hv hs) fun r s' hq => ?_
  cases r with
  | error e => exact hq.elim
  | ok fl => cases fl <;> exact hq
theorem ok_draw {k : Nat} {ps : List Str} (D : LB.DefOk P w K mg base k "_law_draw" ps LB.spDraw) : LB.DefX P w K mg base k "_law_draw" ps [] (spD W 2 F_draw) := DefOk_x (DefOk_sp D fun _ _ _ _ h => draw_sp h)
def F_deal : FD := fun ds μ Q _ => match ds with
  | [.scr ns, .int b] => ns.length ≤ 63 ∧ 0 ≤ b ∧ b ≤ 1000 ∧ ∀ d l, Im μ d → Im μ l → d ≠ l → Q (.ptr d) (μ.set d (.deal l))
  | _ => False
theorem deal_new {hid : Hid} {H H' : Hp} {μ : Mu} {d l : Addr} (sr : SR W hid H μ) (hd : H d = none) (hl : H l = none) (D' : LB.Deal d l H') (K : Same H H') : St H μ H' (μ.set d (.deal l)) ∧ SR W hid H' (μ.set d (.deal l)) := by
  have ndl : d ≠ l := by
    obtain ⟨_, _, _, C⟩ := D'
    exact C.ne
  have st : St H μ H' (μ.set d (.deal l)) := fun a o h i => by
    have n1 := ne_of_none h hd
    have n2 := ne_of_none h hl
    refine ⟨K a o h, by rw [Mu.set_ne n1]; exact i.1, fun e z => ?_⟩
    by_cases q : e = d
    · subst q
      rw [Mu.set_same] at z
      cases z
      exact n2 rfl
    · rw [Mu.set_ne q] at z
      exact i.2 e z
  have fl := sr.fresh hl
  have fd := sr.fresh hd
  refine ⟨st, ⟨fun a m h => ?_, fun e l' h => ?_, fun e e' l' h h' => ?_, sr.hst st⟩⟩
  · by_cases e : a = d
    · subst e
      rw [Mu.set_same] at h
      cases h
      exact ⟨sr.nhid hd, D'⟩
    · rw [Mu.set_ne e] at h
      obtain ⟨o, ho⟩ := sr.known h
      refine ⟨(sr.at_ a m h).1, (sr.at_ a m h).2.mono st.ok ((K a o ho).trans ho.symm) fun l' e2 => ?_⟩
      subst e2
      obtain ⟨o', ho'⟩ := sr.inner h
      exact (K l' o' ho').trans ho'.symm
  · by_cases q : e = d
    · subst q
      rw [Mu.set_same] at h
      cases h
      exact ⟨by rw [Mu.set_ne (Ne.symm ndl)]; exact fl.1, sr.nhid hl⟩
    · rw [Mu.set_ne q] at h
      obtain ⟨o', ho'⟩ := sr.inner h
      rw [Mu.set_ne (ne_of_none ho' hd)]
      exact sr.inn e l' h
  · by_cases q : e = d
    · by_cases q' : e' = d
      · rw [q, q']
      · rw [q, Mu.set_same] at h
        cases h
        rw [Mu.set_ne q'] at h'
        exact absurd h' (fl.2 e')
    · rw [Mu.set_ne q] at h
      by_cases q' : e' = d
      · rw [q', Mu.set_same] at h'
        cases h'
        exact absurd h (fl.2 e)
      · rw [Mu.set_ne q'] at h'
        exact sr.one e e' l' h h'
theorem deal_sp {vs : List V} {H : Hp} {Q : VK} {E : XK} (hK : K = W.K) (h : spD W 2 F_deal vs H Q E) : LB.spDeal K vs H Q E := by
  obtain ⟨hid, ds, μ, Qd, Xd, hn, r, sr, q, pq, pf⟩ := h
  unfold F_deal at q
  split at q
  · rename_i ns b
    obtain ⟨h0, h1, h2, q⟩ := q
    cases r with
    | cons ra rr =>
      cases rr with
      | cons rb rr =>
        cases rr
        cases rb
        have key : ∃ a, (V.ref a) = (V.ref a) ∧ True := ⟨0, rfl, trivial⟩
        obtain ⟨a, vs', e, ha, qa⟩ := lstOf_ok (ds := ns.map D.int) rfl sr ra
        rw [reps_ints qa] at ha
        refine ⟨a, ns, b, by rw [e], by rw [hK]; exact ha, h0, h1, h2, fun d l H' hd hl D' s' => ?_⟩
        obtain ⟨st, sr'⟩ := deal_new sr hd hl D' s'
        have ndl : d ≠ l := by
          obtain ⟨_, _, _, C⟩ := D'
          exact C.ne
        exact pq _ _ H' _ st sr' (.ptr d) (q d l (sr.fresh hd) (sr.fresh hl) ndl)
  · exact q.elim
theorem ok_deal {k : Nat} {ps : List Str} (hK : K = W.K) (D : LB.DefOk P w K mg base k "_law_deal" ps (LB.spDeal K)) : LB.DefX P w K mg base k "_law_deal" ps [] (spD W 2 F_deal) := DefOk_x (DefOk_sp D fun _ _ _ _ h => deal_sp hK h)
end
end PD
set_option Elab.async false
set_option linter.all false
set_option autoImplicit false
set_option maxRecDepth 100000
set_option maxHeartbeats 4000000
namespace PD
open PySem PySem.Spec PyProof.Rows L2
/-! ### own classes -/
structure MethX (P : Program) (w : World) (K : PySem.W.Frag) (mg : Str → Option Value) (base : Heap) (k : Nat) (C : Addr) (m : Str) (ps : List Str) (dvs : List V) (sp : Sp) : Prop where
  ex : ∃ (f : Addr) (fd : FuncData) (ds : List Value), FnOk P w K mg base (L2.CX P w) k f fd ps sp ∧ PySem.W.findIn K (.ref C) m = some (some (.ref f)) ∧ PySem.W.isFn K (.ref f) = true ∧ PySem.W.keepIn K (.ref f) = true ∧ Binds K fd ps ds ∧ Vals dvs ds
section
variable {P : Program} {w : World} {K : PySem.W.Frag} {mg : Str → Option Value} {base : Heap} {W : Wo}
theorem TopMeth_okD {C : Addr} {m qual : Str} {st : Stmt} {N ps : List Str} {k : Nat} {ts : TDS} (F : LB.TopMeth K C m qual st ps) (S : FnScope N ps (defScope st))
    (hbody : ∀ (f : Addr) (cdv : Value) (A : Around) (outer : List PySem.Env) (s : Shared) (H : Hp) (E : XK), Room k (A.deeper (envOfC qual (defScope st) s.heap.objs.size f cdv)) →
      BSs (cxOf (L2.CX P w) P w K mg base N qual (defScope st) f cdv A outer s H E) W (fun cls d _ H => E cls d H) (defBody st) ts) : MethX P w K mg base (k + 1) C m ps [] (spD W ps.length (fnD N.length ts)) := by
  obtain ⟨f, fd, F, hm, hi, b⟩ := F.ex
  refine ⟨f, fd, [], F.okX S (fun vs H Q E h => ?_) fun cdv A outer s H vs Q E hr h => ⟨_, hbody f cdv A outer s H E hr, body_ok h⟩, hm, hi, F.kp, b, .nil⟩
  obtain ⟨hid, ds, μ, Qd, Xd, hn, r, _⟩ := h
  rw [r.length]
  exact hn
/-- a method that raises nothing -/
theorem MethOk_x {C : Addr} {m : Str} {k : Nat} {ps : List Str} {sp sp' : Sp} (D : LB.MethOk P w K mg base k C m ps sp) (h : ∀ vs H Q E, sp' vs H Q E → sp vs H Q E) : MethX P w K mg base k C m ps [] sp' := by
  obtain ⟨f, fd, F, h1, h2, h3, h4⟩ := D.ex
  refine ⟨f, fd, [], ⟨fun vs H Q E q => F.len _ _ _ _ (h _ _ _ _ q), fun A outer s H args us vs Q E hr he hb hv hs => ?_⟩, h1, h2, h3, h4, .nil⟩
  refine codeAny_mono (F.run A outer s H args us vs Q E hr he hb hv (h _ _ _ _ hs)) fun r s' hq => ?_
  cases r with
  | error e => exact hq.elim
  | ok fl => cases fl <;> exact hq
end
section
variable {X : Cx} {W : Wo} {Wk : WX}
/-! ### attributes -/
theorem lookF_ok {hid : Hid} {H : Hp} {μ : Mu} {f : Str} : ∀ {fs : List (Str × V)} {gs : List (Str × D)}, RepF W hid H μ fs gs → RepO W hid H μ (fs.lookup f) (gs.lookup f)
  | _, _, .nil => .none
  | _, _, .cons (f := g) h r => by
    rw [List.lookup_cons, List.lookup_cons]
    cases e : f == g with
    | true => exact .some h
    | false => exact lookF_ok r
def insOf (d : D) (μ : Mu) : Option (Str × List (Str × D)) := match d with
  | .obj C fs => some (C, fs)
  | .ptr a => match μ a with
    | some (.ins C fs) => some (C, fs)
    | _ => none
  | _ => none
theorem insOf_ok {hid : Hid} {H : Hp} {μ : Mu} {v : V} {d : D} {C : Str} {gs : List (Str × D)} (e : insOf d μ = some (C, gs)) (sr : SR W hid H μ) (r : Rep W hid H μ v d) : ∃ a dx fs, v = .ref a ∧ H a = some (.ins (W.cl C) dx fs) ∧ RepF W hid H μ fs gs ∧ W.cok C ∧ ∀ p ∈ gs, W.fok C p.1 := by
  cases r with
  | obj h _ _ c f q =>
    cases e
    exact ⟨_, _, _, rfl, h, q, c, f⟩
  | ptr a =>
    unfold insOf at e
    dsimp only at e
    cases hm : μ a with
    | none => rw [hm] at e; cases e
    | some m =>
      rw [hm] at e
      cases m with
      | ins C' fs =>
        cases e
        obtain ⟨dx, fs', h, q, c, f⟩ := (sr.at_ a _ hm).2
        exact ⟨a, dx, fs', rfl, h, q, c, f⟩
      | _ => cases e
  | _ => cases e
theorem lookup_mem {f : Str} {d : D} : ∀ {gs : List (Str × D)}, gs.lookup f = some d → ∃ p ∈ gs, p.1 = f
  | [], e => by cases e
  | (g, x) :: gs, e => by
    rw [List.lookup_cons] at e
    cases h : f == g with
    | true => exact ⟨(g, x), List.mem_cons_self .., (beq_iff_eq.mp h).symm⟩
    | false =>
      rw [h] at e
      obtain ⟨p, hp, e1⟩ := lookup_mem (gs := gs) e
      exact ⟨p, List.mem_cons_of_mem _ hp, e1⟩
def eFld (f : Str) (td : TDE) : TDE := fun Xd ρ μ Q => td Xd ρ μ fun d μ1 => match insOf d μ1 with
  | some (_, gs) => (match gs.lookup f with | some v => Q v μ1 | none => False)
  | none => False
theorem be_fld {e : Expr} {f : Str} {td : TDE} {pos : Pos} (C : TW X.K X.w W) (he : BE X W Wk e td) (hb : attributeBase e f X.env (eval e X.env) = eval e X.env) : BE X W Wk (.Attribute e f pos) (eFld f td) := PE.weak (pe_fld he hb) fun σ H Q ⟨hid, ρ, μ, Xd, Qd, rel, sr, q, pq, px⟩ => by
  refine ⟨hid, ρ, μ, Xd, _, rel, sr, q, fun v d H1 μ1 s1 sr1 r1 q1 => ?_, px⟩
  dsimp only at q1
  split at q1
  · rename_i C0 gs eg
    split at q1
    · rename_i z hz
      obtain ⟨a, dx, fs, rfl, ha, q, c, fo⟩ := insOf_ok eg sr1 r1
      have ro := lookF_ok (f := f) q
      rw [hz] at ro
      obtain ⟨p, hp, rfl⟩ := lookup_mem hz
      cases e1 : fs.lookup p.1 with
      | none => rw [e1] at ro; cases ro
      | some y =>
        rw [e1] at ro
        cases ro with
        | some ry => exact ⟨a, _, dx, fs, y, rfl, ha, (C.own C0 c).1, C.fld C0 _ (fo p hp), e1, pq _ _ H1 μ1 s1 sr1 ry q1⟩
    · exact q1.elim
  · exact q1.elim
def putG (f : Str) (v : D) : List (Str × D) → List (Str × D)
  | [] => [(f, v)]
  | (g, x) :: r => if g = f then (g, v) :: r else (g, x) :: putG f v r
theorem putG_ok {hid : Hid} {H : Hp} {μ : Mu} {f : Str} {v : V} {d : D} (h : Rep W hid H μ v d) : ∀ {fs : List (Str × V)} {gs : List (Str × D)}, RepF W hid H μ fs gs → RepF W hid H μ (putF f v fs) (putG f d gs)
  | _, _, .nil => .cons h .nil
  | _, _, .cons (f := g) h1 r => by
    unfold putF putG
    by_cases e : g = f
    · rw [if_pos e, if_pos e]
      exact .cons h r
    · rw [if_neg e, if_neg e]
      exact .cons h1 (putG_ok h r)
theorem putG_mem {f : Str} {d : D} : ∀ {gs : List (Str × D)} {p : Str × D}, p ∈ putG f d gs → p.1 = f ∨ ∃ q ∈ gs, q.1 = p.1
  | [], p, h => by
    rw [List.mem_singleton.mp h]
    exact .inl rfl
  | (g, x) :: gs, p, h => by
    unfold putG at h
    split at h
    · rename_i e
      rcases List.mem_cons.mp h with rfl | h
      · exact .inl e
      · exact .inr ⟨p, List.mem_cons_of_mem _ h, rfl⟩
    · rcases List.mem_cons.mp h with rfl | h
      · exact .inr ⟨(g, x), List.mem_cons_self .., rfl⟩
      · rcases putG_mem h with z | ⟨q, hq, e⟩
        · exact .inl z
        · exact .inr ⟨q, List.mem_cons_of_mem _ hq, e⟩
theorem repF_len {hid : Hid} {H : Hp} {μ : Mu} : ∀ {fs : List (Str × V)} {gs : List (Str × D)}, RepF W hid H μ fs gs → fs.length = gs.length
  | _, _, .nil => rfl
  | _, _, .cons _ r => by rw [List.length_cons, List.length_cons, repF_len r]
/-- an instance of the store, of the class C -/
def insS (C : Str) (d : D) (μ : Mu) (k : Addr → List (Str × D) → Prop) : Prop := match d with
  | .ptr a => (match μ a with | some (.ins C' gs) => C' = C ∧ k a gs | _ => False)
  | _ => False
def sFld (C f : Str) (td tv : TDE) : TDS := fun E Xd ρ μ => tv Xd ρ μ fun v μ1 => td Xd ρ μ1 fun d μ2 => insS C d μ2 fun a gs => gs.length < 1000 ∧ E.nx ρ (μ2.set a (.ins C (putG f v gs)))
theorem insS_ok {hid : Hid} {H : Hp} {μ : Mu} {v : V} {d : D} {C : Str} {k : Addr → List (Str × D) → Prop} (sr : SR W hid H μ) (r : Rep W hid H μ v d) (h : insS C d μ k) : ∃ a gs dx fs, v = .ref a ∧ μ a = some (.ins C gs) ∧ H a = some (.ins (W.cl C) dx fs) ∧ RepF W hid H μ fs gs ∧ W.cok C ∧ (∀ p ∈ gs, W.fok C p.1) ∧ k a gs := by
  unfold insS at h
  split at h
  · rename_i a
    cases r
    split at h
    · rename_i C' gs hm
      obtain ⟨rfl, h⟩ := h
      obtain ⟨dx, fs, ha, q, c, f⟩ := (sr.at_ a _ hm).2
      exact ⟨a, gs, dx, fs, rfl, hm, ha, q, c, f, h⟩
    · exact h.elim
  · exact h.elim
theorem put_fld {hid : Hid} {H : Hp} {μ : Mu} {a dx : Addr} {C f : Str} {fs : List (Str × V)} {gs : List (Str × D)} {y : V} {z : D} (fo : W.fok C f) (sr : SR W hid H μ) (hm : μ a = some (.ins C gs)) (q : RepF W hid H μ fs gs) (c : W.cok C) (fa : ∀ p ∈ gs, W.fok C p.1) (ry : Rep W hid H μ y z) :
    St H μ (upd H a (.ins (W.cl C) dx (putF f y fs))) (μ.set a (.ins C (putG f z gs))) ∧ SR W hid (upd H a (.ins (W.cl C) dx (putF f y fs))) (μ.set a (.ins C (putG f z gs))) := by
  have hp : MO.plain (.ins C (putG f z gs)) := True.intro
  refine ⟨St.put hm hp, sr.put hm hp ⟨dx, _, upd_same, (putG_ok ry q).mono (St.put hm hp).ok, c, fun p hp => ?_⟩⟩
  rcases putG_mem hp with e | ⟨q, hq, e⟩
  · rw [e]
    exact fo
  · rw [← e]
    exact fa q hq
theorem bs_fld {C0 f : Str} {o value : Expr} {td tv : TDE} {pos pos' : Pos} (C : TW X.K X.w W) (fo : W.fok C0 f) (ho : BE X W Wk o td) (hv : BE X W Wk value tv) (hs : swapsWith value (some (.Attribute o f pos')) pos.line X.env = pure false) : BS X W Wk (.Assign [.Attribute o f pos'] value pos) (sFld C0 f td tv) := PS.weak (ps_fld ho hv hs) fun E σ H ⟨hid, ρ, μ, Xd, Dd, rel, sr, q, pe, px⟩ => by
  refine ⟨hid, ρ, μ, Xd, _, rel, sr, q, fun y z H1 μ1 s1 sr1 r1 q1 => ?_, px.at_ rel⟩
  refine ⟨hid, ρ, μ1, Xd, _, rel_mono s1.ok rel, sr1, q1, fun v d H2 μ2 s2 sr2 r2 q2 => ?_, (px.at_ rel).st s1⟩
  obtain ⟨a, gs, dx, fs, rfl, hm, ha, qf, c, fa, hl, q3⟩ := insS_ok sr2 r2 q2
  have s12 := s1.trans s2
  obtain ⟨st, sr3⟩ := put_fld (dx := dx) fo sr2 hm qf c fa (r1.mono s2.ok)
  refine ⟨a, _, dx, fs, rfl, ha, (C.own C0 c).1, C.fld C0 f fo, by rw [repF_len qf]; exact hl, ?_⟩
  exact pe.nx σ ρ _ _ (s12.trans st) sr3 (rel_mono (s12.trans st).ok rel) q3
def sFldAug (C f : Str) (td tv : TDE) (g : Int → Int → Int) : TDS := fun E Xd ρ μ => td Xd ρ μ fun d μ1 => insS C d μ1 fun a gs => (match gs.lookup f with
  | some (.int i) => tv Xd ρ μ1 fun y μ2 => (match y with | .int j => (match μ2 a with | some (.ins C' gs') => C' = C ∧ gs'.length < 1000 ∧ E.nx ρ (μ2.set a (.ins C (putG f (.int (g i j)) gs'))) | _ => False) | _ => False)
  | _ => False)
theorem fldaug_td {C0 f : Str} {td tv : TDE} {g : Int → Int → Int} {rd : V → V → Hp → VK → Prop} (hrd : ∀ i j H Q, Q (.int (g i j)) H → rd (.int i) (.int j) H Q) (C : TW X.K X.w W) (fo : W.fok C0 f) {E : Ends} {σ : L2.St} {H : Hp} (h : TDs W Wk (sFldAug C0 f td tv g) E σ H) : L2.sFldAug X.K (TD W Wk td) (TD W Wk tv) rd f E σ H := by
  obtain ⟨hid, ρ, μ, Xd, Dd, rel, sr, q, pe, px⟩ := h
  refine ⟨hid, ρ, μ, Xd, _, rel, sr, q, fun v d H1 μ1 s1 sr1 r1 q1 => ?_, px.at_ rel⟩
  obtain ⟨a, gs, dx, fs, rfl, hm, ha, qf, c, fa, q2⟩ := insS_ok sr1 r1 q1
  split at q2
  · rename_i i hi
    have ro := lookF_ok (f := f) qf
    rw [hi] at ro
    cases e1 : fs.lookup f with
    | none => rw [e1] at ro; cases ro
    | some y =>
      rw [e1] at ro
      cases ro with
      | some ry =>
        cases ry
        refine ⟨a, _, dx, fs, _, rfl, ha, (C.own C0 c).1, C.fld C0 f fo, e1, ?_⟩
        refine ⟨hid, ρ, μ1, Xd, _, rel_mono s1.ok rel, sr1, q2, fun y z H2 μ2 s2 sr2 r2 q3 => ?_, (px.at_ rel).st s1⟩
        dsimp only at q3
        split at q3
        · cases r2
          split at q3
          · rename_i C' gs' hm2
            obtain ⟨rfl, hl, q3⟩ := q3
            obtain ⟨dx', fs', ha', qf', c', fa'⟩ := (sr2.at_ a _ hm2).2
            have s12 := s1.trans s2
            obtain ⟨st, sr3⟩ := put_fld (dx := dx') fo sr2 hm2 qf' c' fa' (.int (g i _))
            exact hrd _ _ _ _ ⟨dx', fs', ha', by rw [repF_len qf']; exact hl, pe.nx σ ρ _ _ (s12.trans st) sr3 (rel_mono (s12.trans st).ok rel) q3⟩
          · exact q3.elim
        · exact q3.elim
  · exact q2.elim
theorem bs_fldaugadd {C0 f : Str} {o value : Expr} {td tv : TDE} {pos tpos : Pos} (C : TW X.K X.w W) (fo : W.fok C0 f) (ho : BE X W Wk o td) (hv : BE X W Wk value tv) : BS X W Wk (.AugAssign (.Attribute o f tpos) .Add value pos) (sFldAug C0 f td tv fun a b => a + b) := PS.weak (ps_fldaug ho hv in_add) fun _ _ _ h => fldaug_td (fun i j _ _ z => ⟨i, j, rfl, rfl, z⟩) C fo h
theorem bs_fldaugsub {C0 f : Str} {o value : Expr} {td tv : TDE} {pos tpos : Pos} (C : TW X.K X.w W) (fo : W.fok C0 f) (ho : BE X W Wk o td) (hv : BE X W Wk value tv) : BS X W Wk (.AugAssign (.Attribute o f tpos) .Sub value pos) (sFldAug C0 f td tv fun a b => a - b) := PS.weak (ps_fldaug ho hv in_sub) fun _ _ _ h => fldaug_td (fun i j _ _ z => ⟨i, j, rfl, rfl, z⟩) C fo h
end
end PD
set_option Elab.async false
set_option linter.all false
set_option autoImplicit false
set_option maxRecDepth 100000
set_option maxHeartbeats 4000000
namespace PD
open PySem PySem.Spec PyProof.Rows L2
section
variable {X : Cx} {W : Wo} {Wk : WX}
/-! ### methods -/
section
variable {C : Addr} {k : Nat} {m : Str} {ps : List Str} {dvs : List V} {sp : Sp} {o e : Expr} {es : List Expr} {ta : TE} {t : TA} {apos pos p : Pos} {x : Str}
def tMethX (C : Addr) (m : Str) (sp : Sp) (dvs : List V) (Wk : WX) (ta : TE) (t : TA) : TE := fun σ H Q => ta σ H fun y H1 => ∃ a dx fs, y = .ref a ∧ H1 a = some (.ins C dx fs) ∧ fs.lookup m = none ∧ t σ H1 fun vs H2 => sp (.ref a :: (vs ++ dvs)) H2 Q (WE Wk σ)
theorem pe_mthX {pl : Sem Bool} (c : Cls X.K C) (D : MethX X.prog X.w X.K X.mg X.base k C m ps dvs sp) (tk : Takes X Wk) (hr : Room k X.A) (he : PE X o ta) (ha : PA X (e :: es) t)
    (hst : starEach (e :: es) X.env = (false, eval e X.env) :: starEach es X.env := by rfl) (hpl : (backTo pos (starEach es X.env)).any (·.1) = false := by rfl)
    (ht : eval (.Call (.Attribute o m apos) (e :: es) [] pos) X.env = (eval o X.env >>= fun ov => standAt apos.atName >>= fun _ => holding [ov] (getMethod ov m pl) >>= fun fa => callWith pos fa.1 fa.2 (backTo pos (starEach (e :: es) X.env)) (backToKw pos (keywordEach [] X.env))) := by rfl) :
    PE X (.Call (.Attribute o m apos) (e :: es) [] pos) (tMethX C m sp dvs Wk ta t) := by
  obtain ⟨f, fd, ds, F, hm, hi, hk, hb, hd⟩ := D.ex
  refine ⟨fun pins s σ H Q I h => PySem.W.methodCall_KW (pl := pl) (thn (he.run pins s σ H _ I h) fun u s1 ⟨y, H1, I1, ry, a, dx, fs, ey, ea, l, q⟩ => ?_) ht⟩
  subst ey
  cases (show u = Value.ref a from ry)
  refine getmeth_ok I1 ea c ⟨hm, hi, hk⟩ l (PySem.W.callWith_K (first := [.ref a]) (h₀ := X.base) I.ok.mod.kin hk (thn (ha.run pos pins s1 σ H1 _ I1 q) fun us s2 ⟨vs, H2, I2, r, q2⟩ => ⟨I2.kIn, ?_⟩) hst hpl)
  exact run_fnSD (E := WE Wk) (us := .ref a :: us) (vs := .ref a :: vs) F hr hb hd (passAt tk σ) I2 (.cons rfl r) q2
theorem pe_mthX0 {pl : Sem Bool} (c : Cls X.K C) (D : MethX X.prog X.w X.K X.mg X.base k C m ps dvs sp) (tk : Takes X Wk) (hr : Room k X.A) (he : PE X o ta)
    (ht : eval (.Call (.Attribute o m apos) [] [] pos) X.env = (eval o X.env >>= fun ov => standAt apos.atName >>= fun _ => holding [ov] (getMethod ov m pl) >>= fun fa => callWith pos fa.1 fa.2 (backTo pos (starEach [] X.env)) (backToKw pos (keywordEach [] X.env))) := by rfl) :
    PE X (.Call (.Attribute o m apos) [] [] pos) (tMethX C m sp dvs Wk ta tNil) := by
  obtain ⟨f, fd, ds, F, hm, hi, hk, hb, hd⟩ := D.ex
  refine ⟨fun pins s σ H Q I h => PySem.W.methodCall_KW (pl := pl) (thn (he.run pins s σ H _ I h) fun u s1 ⟨y, H1, I1, ry, a, dx, fs, ey, ea, l, q⟩ => ?_) ht⟩
  subst ey
  cases (show u = Value.ref a from ry)
  exact getmeth_ok I1 ea c ⟨hm, hi, hk⟩ l (PySem.W.callWith_K0 (first := [.ref a]) I1.kIn hk (run_fnSD (E := WE Wk) (us := [.ref a]) (vs := [.ref a]) F hr hb hd (passAt tk σ) I1 (.cons rfl .nil) q))
/-- nothing is raised: any wish is met -/
theorem takes_none {X : Cx} : ∀ σ, PassesAt (L2.CX X.prog X.w) X σ (WE WF σ) := fun σ _ _ _ _ _ _ h => by
  obtain ⟨_, _, _, _, _, _, _, _, _, _, _, _, z⟩ := h
  exact z.elim
theorem pe_mthE {pl : Sem Bool} (c : Cls X.K C) (D : MethX X.prog X.w X.K X.mg X.base k C m ps dvs sp) (hr : Room k X.A) (he : PE X o ta) (ha : PA X (e :: es) t)
    (hst : starEach (e :: es) X.env = (false, eval e X.env) :: starEach es X.env := by rfl) (hpl : (backTo pos (starEach es X.env)).any (·.1) = false := by rfl)
    (ht : eval (.Call (.Attribute o m apos) (e :: es) [] pos) X.env = (eval o X.env >>= fun ov => standAt apos.atName >>= fun _ => holding [ov] (getMethod ov m pl) >>= fun fa => callWith pos fa.1 fa.2 (backTo pos (starEach (e :: es) X.env)) (backToKw pos (keywordEach [] X.env))) := by rfl) :
    PE X (.Call (.Attribute o m apos) (e :: es) [] pos) (tMethX C m sp dvs WF ta t) := by
  obtain ⟨f, fd, ds, F, hm, hi, hk, hb, hd⟩ := D.ex
  refine ⟨fun pins s σ H Q I h => PySem.W.methodCall_KW (pl := pl) (thn (he.run pins s σ H _ I h) fun u s1 ⟨y, H1, I1, ry, a, dx, fs, ey, ea, l, q⟩ => ?_) ht⟩
  subst ey
  cases (show u = Value.ref a from ry)
  refine getmeth_ok I1 ea c ⟨hm, hi, hk⟩ l (PySem.W.callWith_K (first := [.ref a]) (h₀ := X.base) I.ok.mod.kin hk (thn (ha.run pos pins s1 σ H1 _ I1 q) fun us s2 ⟨vs, H2, I2, r, q2⟩ => ⟨I2.kIn, ?_⟩) hst hpl)
  exact run_fnSD (E := WE WF) (us := .ref a :: us) (vs := .ref a :: vs) F hr hb hd (takes_none σ) I2 (.cons rfl r) q2
theorem pe_mthE0 {pl : Sem Bool} (c : Cls X.K C) (D : MethX X.prog X.w X.K X.mg X.base k C m ps dvs sp) (hr : Room k X.A) (he : PE X o ta)
    (ht : eval (.Call (.Attribute o m apos) [] [] pos) X.env = (eval o X.env >>= fun ov => standAt apos.atName >>= fun _ => holding [ov] (getMethod ov m pl) >>= fun fa => callWith pos fa.1 fa.2 (backTo pos (starEach [] X.env)) (backToKw pos (keywordEach [] X.env))) := by rfl) :
    PE X (.Call (.Attribute o m apos) [] [] pos) (tMethX C m sp dvs WF ta tNil) := by
  obtain ⟨f, fd, ds, F, hm, hi, hk, hb, hd⟩ := D.ex
  refine ⟨fun pins s σ H Q I h => PySem.W.methodCall_KW (pl := pl) (thn (he.run pins s σ H _ I h) fun u s1 ⟨y, H1, I1, ry, a, dx, fs, ey, ea, l, q⟩ => ?_) ht⟩
  subst ey
  cases (show u = Value.ref a from ry)
  exact getmeth_ok I1 ea c ⟨hm, hi, hk⟩ l (PySem.W.callWith_K0 (first := [.ref a]) I1.kIn hk (run_fnSD (E := WE WF) (us := [.ref a]) (vs := [.ref a]) F hr hb hd (takes_none σ) I1 (.cons rfl .nil) q))
/-! ### instances are made -/
def tMakeX (C : Addr) (sp : Sp) (dvs : List V) (E : L2.St → XK) (t : TA) : TE := fun σ H Q => t σ H fun vs H1 => ∀ x dx, H1 x = none → H1 dx = none → dx ≠ x → sp (.ref x :: (vs ++ dvs)) (upd (upd H1 dx (.own x)) x (.ins C dx [])) (fun v H2 => v = .non ∧ Q (.ref x) H2) (E σ)
theorem run_makeX {E : L2.St → XK} {f : Addr} {fd : FuncData} {ds : List Value} {pins : List (Addr × Obj)} {σ : L2.St} {H : Hp} {s : Shared} {Q : VK} {us : List Value} {vs : List V} (M : Mk X.K C f) (F : FnOk X.prog X.w X.K X.mg X.base (L2.CX X.prog X.w) k f fd ps sp) (hr : Room (k + 1) X.A) (hb : Binds X.K fd ps ds) (hd : Vals dvs ds)
    (hx : PassesAt (L2.CX X.prog X.w) X σ (E σ)) (I : Inv X pins σ H s) (r : Vals vs us) (h : ∀ x dx, H x = none → H dx = none → dx ≠ x → sp (.ref x :: (vs ++ dvs)) (upd (upd H dx (.own x)) x (.ins C dx [])) (fun v H2 => v = .non ∧ Q (.ref x) H2) (E σ)) :
    wpAny (model X.prog X.w) X.A (call (.ref C) us) (EP X pins σ Q) X.xe s := by
  have q0 := h (s.heap.objs.size + 1) s.heap.objs.size (I.hok.fresh (Nat.le_succ _)) (I.hok.fresh (Nat.le_refl _)) (Nat.ne_of_lt (Nat.lt_succ_self _))
  have I2 := Inv.made (C := C) I
  have r2 : Vals (V.ref (s.heap.objs.size + 1) :: (vs ++ dvs)) (Value.ref (s.heap.objs.size + 1) :: (us ++ ds)) := .cons rfl (r.append hd)
  have hl : (Value.ref (s.heap.objs.size + 1) :: us ++ ds).length = ps.length := (r2.length.symm.trans (F.len _ _ _ _ q0))
  have run := F.run _ X.stack _ _ ⟨Value.ref (s.heap.objs.size + 1) :: us, []⟩ (Value.ref (s.heap.objs.size + 1) :: (us ++ ds)) _ _ (E σ) (hr.make C us []) (I2.env0.make C us []) (hb _ (Value.ref (s.heap.objs.size + 1) :: us) I2.kIn hl) r2 q0
  refine wpAny_call (make_map (f := f) I.kIn M.makes M.init (beq_iff_eq.mp M.fn) (codeAny_mono run fun r s' hq => ?_))
  cases r with
  | error e => exact hx pins _ _ e s' I2 hq
  | ok fl =>
    cases fl with
    | ret u =>
      obtain ⟨v, H', I3, rv, ev, q3⟩ := I2.after hq
      subst ev
      exact ⟨rv, V.ref (s.heap.objs.size + 1), H', I3, rfl, q3⟩
    | next => exact hq.elim
    | brk => exact hq.elim
    | cont => exact hq.elim
theorem pe_mkX {E : L2.St → XK} (c : LB.OwnCls X.K X.mg x C) (D : MethX X.prog X.w X.K X.mg X.base k C "__init__" ps dvs sp) (hx : ∀ σ, PassesAt (L2.CX X.prog X.w) X σ (E σ)) (hr : Room (k + 1) X.A) (hg : Gl X x) (ha : PA X (e :: es) t) (hdb : (x == ("__debug__" : Str)) = false := by decide)
    (he : starEach (e :: es) X.env = (false, eval e X.env) :: starEach es X.env := by rfl) (hpl : (backTo pos (starEach es X.env)).any (·.1) = false := by rfl) : PE X (.Call (.Name x p) (e :: es) [] pos) (tMakeX C sp dvs E t) := by
  obtain ⟨f, fd, ds, F, hm, hi, hk, hb, hd⟩ := D.ex
  refine ⟨fun pins s σ H Q I h => wpAny_Call_Name_kw (ld_glob I hg c.g (PySem.W.callWith_K (h₀ := X.base) I.ok.mod.kin c.kp (thn (ha.run pos pins s σ H _ I h) fun us s1 ⟨vs, H1, I1, r, q⟩ => ⟨I1.kIn, ?_⟩) he hpl) hdb)⟩
  exact run_makeX ⟨c.makes, hm, hi, c.kp⟩ F hr hb hd (hx σ) I1 r q
theorem pe_mkX0 {E : L2.St → XK} (c : LB.OwnCls X.K X.mg x C) (D : MethX X.prog X.w X.K X.mg X.base k C "__init__" ps dvs sp) (hx : ∀ σ, PassesAt (L2.CX X.prog X.w) X σ (E σ)) (hr : Room (k + 1) X.A) (hg : Gl X x) (hdb : (x == ("__debug__" : Str)) = false := by decide) : PE X (.Call (.Name x p) [] [] pos) (tMakeX C sp dvs E tNil) := by
  obtain ⟨f, fd, ds, F, hm, hi, hk, hb, hd⟩ := D.ex
  exact ⟨fun pins s σ H Q I h => wpAny_Call_Name_kw (ld_glob I hg c.g (PySem.W.callWith_K0 I.kIn c.kp (run_makeX (us := []) ⟨c.makes, hm, hi, c.kp⟩ F hr hb hd (hx σ) I .nil h)) hdb)⟩
end
/-! ### .. over data -/
section
variable {C0 : Str} {k n : Nat} {m : Str} {ps : List Str} {dvs : List V} {dds : List D} {F : FD} {o e : Expr} {es : List Expr} {td : TDE} {ta : TDA} {apos pos p : Pos}
def eMeth (C m : Str) (n : Nat) (F : FD) (dds : List D) (td : TDE) (ta : TDA) : TDE := fun Xd ρ μ Q => td Xd ρ μ fun d μ1 => (match insOf d μ1 with | some (C', gs) => C' = C ∧ gs.lookup m = none ∧ ta Xd ρ μ1 (fun ds μ2 => (d :: (ds ++ dds)).length = n ∧ F (d :: (ds ++ dds)) μ2 Q fun x μ3 => Xd x ρ μ3) | none => False)
theorem meth_td (hv : ∀ hid H μ, Reps W hid H μ dvs dds) {σ : L2.St} {H : Hp} {Q : VK} (h : TD W Wk (eMeth C0 m n F dds td ta) σ H Q) : tMethX (W.cl C0) m (spD W n F) dvs Wk (TD W Wk td) (TDa W Wk ta) σ H Q := by
  obtain ⟨hid, ρ, μ, Xd, Qd, rel, sr, q, pq, px⟩ := h
  refine ⟨hid, ρ, μ, Xd, _, rel, sr, q, fun v d H1 μ1 s1 sr1 r1 q1 => ?_, px⟩
  dsimp only at q1
  split at q1
  · rename_i C' gs eg
    obtain ⟨rfl, hl, q1⟩ := q1
    obtain ⟨a, dx, fs, rfl, ha, qf, c, fo⟩ := insOf_ok eg sr1 r1
    have ro := lookF_ok (f := m) qf
    rw [hl] at ro
    have hl2 : fs.lookup m = none := by
      cases e1 : fs.lookup m with
      | none => rfl
      | some y => rw [e1] at ro; cases ro
    refine ⟨a, dx, fs, rfl, ha, hl2, hid, ρ, μ1, Xd, _, rel_mono s1.ok rel, sr1, q1, fun vs ds H2 μ2 s2 sr2 r2 q2 => ?_, px.st s1⟩
    exact ⟨hid, _, μ2, Qd, _, q2.1, .cons (r1.mono s2.ok) (r2.append (hv _ _ _)), sr2, q2.2, pq.st (s1.trans s2), fun y cls dd H' μ' s' sr' xr q' => px y cls dd H' μ' ((s1.trans s2).trans s') sr' xr q'⟩
  · exact q1.elim
theorem be_meth (C : TW X.K X.w W) (co : W.cok C0) (D : MethX X.prog X.w X.K X.mg X.base k (W.cl C0) m ps dvs (spD W n F)) (hv : ∀ hid H μ, Reps W hid H μ dvs dds) (tk : Takes X Wk) (hr : Room k X.A) (ho : BE X W Wk o td) (ha : BA X W Wk (e :: es) ta)
    (h : PE X (.Call (.Attribute o m apos) (e :: es) [] pos) (tMethX (W.cl C0) m (spD W n F) dvs Wk (TD W Wk td) (TDa W Wk ta))) : BE X W Wk (.Call (.Attribute o m apos) (e :: es) [] pos) (eMeth C0 m n F dds td ta) := PE.weak h fun _ _ _ h => meth_td hv h
/-- C(..): mu: it goes on to change -/
@[irreducible] def mkD (mu : Bool) (C : Str) (n : Nat) (F : FD) (ds : List D) (μ1 : Mu) (Q : QD) (X : XD → Mu → Prop) : Prop := ∀ x, μ1 x = none → ((.ptr x : D) :: ds).length = n ∧ F (.ptr x :: ds) (μ1.set x (.ins C []))
  (fun d μ2 => match d with | .non => (match mu with | true => Q (.ptr x) μ2 | false => (match μ2 x with | some (.ins C' gs) => C' = C ∧ Q (.obj C gs) (μ2.del x) | _ => False)) | _ => False) X
def eMk (mu : Bool) (C : Str) (n : Nat) (F : FD) (dds : List D) (ta : TDA) : TDE := fun Xd ρ μ Q => ta Xd ρ μ fun ds μ1 => mkD mu C n F (ds ++ dds) μ1 Q fun y μ3 => Xd y ρ μ3
theorem mk_td {mu : Bool} (co : W.cok C0) (hv : ∀ hid H μ, Reps W hid H μ dvs dds) {σ : L2.St} {H : Hp} {Q : VK} (h : TD W Wk (eMk mu C0 n F dds ta) σ H Q) : tMakeX (W.cl C0) (spD W n F) dvs (WE Wk) (TDa W Wk ta) σ H Q := by
  obtain ⟨hid, ρ, μ, Xd, Qd, rel, sr, q, pq, px⟩ := h
  refine ⟨hid, ρ, μ, Xd, _, rel, sr, q, fun vs ds H1 μ1 s1 sr1 r1 q1 => ?_, px⟩
  dsimp only at q1
  unfold mkD at q1
  intro x dx hx hdx ne
  have hx' : upd H1 dx (.own x) x = none := by rw [upd_ne (Ne.symm ne)]; exact hx
  have nd : ∀ l, MO.ins C0 [] ≠ .deal l := fun l e => by cases e
  have s2 : St H1 μ1 (upd (upd H1 dx (.own x)) x (.ins (W.cl C0) dx [])) (μ1.set x (.ins C0 [])) := (St.new hdx).trans (St.add hx' nd)
  have sr2 : SR W hid (upd (upd H1 dx (.own x)) x (.ins (W.cl C0) dx [])) (μ1.set x (.ins C0 [])) := (sr1.new hdx).add hx' nd ⟨dx, [], upd_same, .nil, co, fun p hp => by cases hp⟩
  have s12 := s1.trans s2
  obtain ⟨hn, q2⟩ := q1 x (sr1.fresh hx).1
  refine ⟨hid, _, _, _, _, hn, .cons (.ptr x) ((r1.append (hv _ _ _)).mono s2.ok), sr2, q2, fun v d H3 μ3 s3 sr3 r3 q3 => ?_, fun y cls dd H' μ' s' sr' xr q' => px y cls dd H' μ' (s12.trans s') sr' xr q'⟩
  dsimp only at q3
  split at q3
  · cases r3
    refine ⟨rfl, ?_⟩
    cases mu with
    | true => exact pq _ _ H3 μ3 (s12.trans s3) sr3 (.ptr x) q3
    | false =>
      dsimp only at q3
      split at q3
      · rename_i C' gs hm
        obtain ⟨rfl, q3⟩ := q3
        obtain ⟨dx', fs, ha, qf, c, fo⟩ := (sr3.at_ x _ hm).2
        refine pq _ _ H3 (μ3.del x) ((s12.trans s3).trans Mu.del_le.st) (sr3.le Mu.del_le) (.obj ha ⟨Mu.del_same, fun e' e2 => ?_⟩ (sr3.at_ x _ hm).1 c fo (qf.mono Mu.del_le.st.ok)) q3
        have e3 : μ3 e' = some (.deal x) := by
          unfold Mu.del at e2
          split at e2
          · cases e2
          · exact e2
        have := (sr3.inn e' x e3).1
        rw [hm] at this
        cases this
      · exact q3.elim
  · exact q3.elim
end
end
end PD
set_option Elab.async false
set_option linter.all false
set_option maxRecDepth 100000
set_option maxHeartbeats 4000000
namespace LB
open PySem PySem.Spec PyProof.Rows L2
/-! ### match over texts -/
structure PM (X : Cx) (cases : List MatchCase) (t : V → TS) : Prop where
  run : ∀ (pins : List (Addr × Obj)) (s : Shared) (σ : L2.St) (H : Hp) (D : Ends) (x : V) (u : Value) (first : Bool), Inv X pins σ H s → RelV x u → t x D σ H →
    wpAny (model X.prog X.w) X.A (matchCases cases X.env u first) (SP X pins D) X.xe s
def mStr (lit : Str) (tb : TS) (tr : V → TS) : V → TS := fun x D σ H => ∃ z, x = .str z ∧ if z = lit then tb D σ H else tr x D σ H
def mStr2 (lit lit2 : Str) (tb : TS) (tr : V → TS) : V → TS := fun x D σ H => ∃ z, x = .str z ∧ if z = lit ∨ z = lit2 then tb D σ H else tr x D σ H
section
variable {X : Cx} {body : List Stmt} {rest : List MatchCase} {tb : TS} {tr : V → TS} {p p2 p3 p4 p5 : Pos}
theorem match_lit {lit z : Str} {u : Value} {pins : List (Addr × Obj)} {s : Shared} {σ : L2.St} {H : Hp} {Q : Option (List (Str × Value)) → Shared → Prop} (I : Inv X pins σ H s) (r : RelV (.str z) u)
    (h : ∀ s', Inv X pins σ H s' → if z = lit then Q (some []) s' else Q none s') : wpAny (model X.prog X.w) X.A (matchPattern (.MatchValue (.Constant (.str lit) 0 p) p2) X.env u) Q X.xe s := by
  refine wpAny_matchPattern_Value ?_
  refine thn ((pe_str (X := X) (x := lit) (j := 0) (pos := p)).run pins s σ H (fun x H' => x = .str lit ∧ H' = H) I ⟨rfl, rfl⟩) fun v s1 ⟨x, H1, I1, rx, ex, eH⟩ => ?_
  subst ex
  subst eH
  refine thn (op_eq pins s1 σ H1 (.str z) (.str lit) u v (fun x H' => x = .bl (decide (V.str z = V.str lit)) ∧ H' = H1) I1 r rx ⟨rfl, rfl, rfl⟩) fun c s2 ⟨y, H2, I2, ry, ey, eH2⟩ => ?_
  subst ey
  subst eH2
  cases ry
  refine wpAny_truthy_bool ?_
  have q := h s2 I2
  by_cases e : z = lit
  · rw [if_pos e] at q
    rw [if_pos (decide_eq_true (by rw [e]))]
    exact q
  · rw [if_neg e] at q
    rw [if_neg (by rw [decide_eq_false (fun z' => e (V.str.inj z'))]; exact Bool.false_ne_true)]
    exact q
theorem pm_str {lit : Str} (hb : PSs X body tb) (hr : PM X rest tr) : PM X (⟨.MatchValue (.Constant (.str lit) 0 p) p2, none, body⟩ :: rest) (mStr lit tb tr) := by
  refine ⟨fun pins s σ H D x u first I r h => ?_⟩
  obtain ⟨z, rfl, h⟩ := h
  refine wpAny_matchCases_cons (match_lit I r fun s' I' => ?_)
  by_cases e : z = lit
  · rw [if_pos e] at h
    rw [if_pos e]
    exact wpAny_assignInOrder_none (hb.run pins s' σ H D I' h)
  · rw [if_neg e] at h
    rw [if_neg e]
    exact hr.run pins s' σ H D _ u false I' r h
theorem pm_any (hb : PSs X body tb) : PM X [⟨.MatchAs none none p, none, body⟩] (fun _ => tb) := by
  refine ⟨fun pins s σ H D x u first I r h => ?_⟩
  exact wpAny_matchCases_cons (wpAny_matchPattern_Capture (wpAny_assignInOrder_none (hb.run pins s σ H D I h)))
theorem pm_str2 {lit lit2 : Str} (hb : PSs X body tb) (hr : PM X rest tr) : PM X (⟨.MatchOr [.MatchValue (.Constant (.str lit) 0 p) p2, .MatchValue (.Constant (.str lit2) 0 p3) p4] p5, none, body⟩ :: rest) (mStr2 lit lit2 tb tr) := by
  refine ⟨fun pins s σ H D x u first I r h => ?_⟩
  obtain ⟨z, rfl, h⟩ := h
  refine wpAny_matchCases_cons (wpAny_matchPattern_Or (wpAny_matchFirst_cons (match_lit I r fun s' I' => ?_)))
  by_cases e : z = lit
  · rw [if_pos (.inl e)] at h
    rw [if_pos e]
    exact wpAny_assignInOrder_none (hb.run pins s' σ H D I' h)
  · rw [if_neg e]
    refine wpAny_matchFirst_cons (match_lit I' r fun s2 I2 => ?_)
    by_cases e2 : z = lit2
    · rw [if_pos (.inr e2)] at h
      rw [if_pos e2]
      exact wpAny_assignInOrder_none (hb.run pins s2 σ H D I2 h)
    · rw [if_neg (fun q => q.elim e e2)] at h
      rw [if_neg e2]
      exact wpAny_matchFirst_nil (hr.run pins s2 σ H D _ u false I2 r h)
def tMatch (ts : TE) (tm : V → TS) : TS := fun D σ H => ts σ H fun x H1 => tm x D σ H1
theorem ps_match {subject : Expr} {cases : List MatchCase} {ts : TE} {tm : V → TS} (hs : PE X subject ts) (hm : PM X cases tm) : PS X (.Match subject cases p) (tMatch ts tm) := by
  refine ⟨fun pins s σ H D I h => ?_⟩
  exact wpAny_Match (thn (hs.run pins s σ H _ I h) fun u s1 ⟨x, H1, I1, rx, q⟩ => hm.run pins s1 σ H1 D x u true I1 rx q)
end
end LB
set_option Elab.async false
set_option linter.all false
set_option autoImplicit false
set_option maxRecDepth 100000
set_option maxHeartbeats 4000000
namespace PD
open PySem PySem.Spec PyProof.Rows L2
section
variable {X : Cx} {W : Wo} {Wk : WX}
section
variable {C0 : Str} {k n : Nat} {m : Str} {ps : List Str} {dvs : List V} {dds : List D} {F : FD} {o e : Expr} {es : List Expr} {td : TDE} {ta : TDA} {apos pos p : Pos} {mu : Bool} {pl : Sem Bool}
theorem be_methX (C : TW X.K X.w W) (co : W.cok C0) (D : MethX X.prog X.w X.K X.mg X.base k (W.cl C0) m ps dvs (spD W n F)) (hv : ∀ hid H μ, Reps W hid H μ dvs dds) (tk : Takes X Wk) (hr : Room k X.A) (ho : BE X W Wk o td) (ha : BA X W Wk (e :: es) ta)
    (hst : starEach (e :: es) X.env = (false, eval e X.env) :: starEach es X.env := by rfl) (hpl : (backTo pos (starEach es X.env)).any (·.1) = false := by rfl)
    (ht : eval (.Call (.Attribute o m apos) (e :: es) [] pos) X.env = (eval o X.env >>= fun ov => standAt apos.atName >>= fun _ => holding [ov] (getMethod ov m pl) >>= fun fa => callWith pos fa.1 fa.2 (backTo pos (starEach (e :: es) X.env)) (backToKw pos (keywordEach [] X.env))) := by rfl) :
    BE X W Wk (.Call (.Attribute o m apos) (e :: es) [] pos) (eMeth C0 m n F dds td ta) := PE.weak (pe_mthX (C.own C0 co).1 D tk hr ho ha hst hpl ht) fun _ _ _ h => meth_td hv h
theorem be_methX0 (C : TW X.K X.w W) (co : W.cok C0) (D : MethX X.prog X.w X.K X.mg X.base k (W.cl C0) m ps dvs (spD W n F)) (hv : ∀ hid H μ, Reps W hid H μ dvs dds) (tk : Takes X Wk) (hr : Room k X.A) (ho : BE X W Wk o td)
    (ht : eval (.Call (.Attribute o m apos) [] [] pos) X.env = (eval o X.env >>= fun ov => standAt apos.atName >>= fun _ => holding [ov] (getMethod ov m pl) >>= fun fa => callWith pos fa.1 fa.2 (backTo pos (starEach [] X.env)) (backToKw pos (keywordEach [] X.env))) := by rfl) :
    BE X W Wk (.Call (.Attribute o m apos) [] [] pos) (eMeth C0 m n F dds td aNil) := PE.weak (pe_mthX0 (C.own C0 co).1 D tk hr ho ht) fun σ H Q h => by
  obtain ⟨hid, ρ, μ, Xd, Qd, rel, sr, q, pq, px⟩ := meth_td hv h
  refine ⟨hid, ρ, μ, Xd, Qd, rel, sr, q, fun v d H' μ' s' sr' r' q' => ?_, px⟩
  obtain ⟨a, dx, fs, h1, h2, h3, hid, ρ, μ, Xd, Qd, rel, sr, q, pq, px⟩ := pq v d H' μ' s' sr' r' q'
  exact ⟨a, dx, fs, h1, h2, h3, pq [] [] H' μ .refl sr .nil q⟩
theorem be_methE (C : TW X.K X.w W) (co : W.cok C0) (D : MethX X.prog X.w X.K X.mg X.base k (W.cl C0) m ps dvs (spD W n F)) (hv : ∀ hid H μ, Reps W hid H μ dvs dds) (hr : Room k X.A) (ho : BE X W WF o td) (ha : BA X W WF (e :: es) ta)
    (hst : starEach (e :: es) X.env = (false, eval e X.env) :: starEach es X.env := by rfl) (hpl : (backTo pos (starEach es X.env)).any (·.1) = false := by rfl)
    (ht : eval (.Call (.Attribute o m apos) (e :: es) [] pos) X.env = (eval o X.env >>= fun ov => standAt apos.atName >>= fun _ => holding [ov] (getMethod ov m pl) >>= fun fa => callWith pos fa.1 fa.2 (backTo pos (starEach (e :: es) X.env)) (backToKw pos (keywordEach [] X.env))) := by rfl) :
    BE X W WF (.Call (.Attribute o m apos) (e :: es) [] pos) (eMeth C0 m n F dds td ta) := PE.weak (pe_mthE (C.own C0 co).1 D hr ho ha hst hpl ht) fun _ _ _ h => meth_td hv h
theorem be_methE0 (C : TW X.K X.w W) (co : W.cok C0) (D : MethX X.prog X.w X.K X.mg X.base k (W.cl C0) m ps dvs (spD W n F)) (hv : ∀ hid H μ, Reps W hid H μ dvs dds) (hr : Room k X.A) (ho : BE X W WF o td)
    (ht : eval (.Call (.Attribute o m apos) [] [] pos) X.env = (eval o X.env >>= fun ov => standAt apos.atName >>= fun _ => holding [ov] (getMethod ov m pl) >>= fun fa => callWith pos fa.1 fa.2 (backTo pos (starEach [] X.env)) (backToKw pos (keywordEach [] X.env))) := by rfl) :
    BE X W WF (.Call (.Attribute o m apos) [] [] pos) (eMeth C0 m n F dds td aNil) := PE.weak (pe_mthE0 (C.own C0 co).1 D hr ho ht) fun σ H Q h => by
  obtain ⟨hid, ρ, μ, Xd, Qd, rel, sr, q, pq, px⟩ := meth_td hv h
  refine ⟨hid, ρ, μ, Xd, Qd, rel, sr, q, fun v d H' μ' s' sr' r' q' => ?_, px⟩
  obtain ⟨a, dx, fs, h1, h2, h3, hid, ρ, μ, Xd, Qd, rel, sr, q, pq, px⟩ := pq v d H' μ' s' sr' r' q'
  exact ⟨a, dx, fs, h1, h2, h3, pq [] [] H' μ .refl sr .nil q⟩
theorem be_mk (co : W.cok C0) (c : LB.OwnCls X.K X.mg C0 (W.cl C0)) (D : MethX X.prog X.w X.K X.mg X.base k (W.cl C0) "__init__" ps dvs (spD W n F)) (hv : ∀ hid H μ, Reps W hid H μ dvs dds) (tk : Takes X Wk) (hr : Room (k + 1) X.A) (hg : Gl X C0) (ha : BA X W Wk (e :: es) ta) (hdb : (C0 == ("__debug__" : Str)) = false := by decide)
    (he : starEach (e :: es) X.env = (false, eval e X.env) :: starEach es X.env := by rfl) (hpl : (backTo pos (starEach es X.env)).any (·.1) = false := by rfl) : BE X W Wk (.Call (.Name C0 p) (e :: es) [] pos) (eMk mu C0 n F dds ta) := PE.weak (pe_mkX (E := WE Wk) c D (fun σ => passAt tk σ) hr hg ha hdb he hpl) fun _ _ _ h => mk_td co hv h
theorem be_mkE (co : W.cok C0) (c : LB.OwnCls X.K X.mg C0 (W.cl C0)) (D : MethX X.prog X.w X.K X.mg X.base k (W.cl C0) "__init__" ps dvs (spD W n F)) (hv : ∀ hid H μ, Reps W hid H μ dvs dds) (hr : Room (k + 1) X.A) (hg : Gl X C0) (ha : BA X W WF (e :: es) ta) (hdb : (C0 == ("__debug__" : Str)) = false := by decide)
    (he : starEach (e :: es) X.env = (false, eval e X.env) :: starEach es X.env := by rfl) (hpl : (backTo pos (starEach es X.env)).any (·.1) = false := by rfl) : BE X W WF (.Call (.Name C0 p) (e :: es) [] pos) (eMk mu C0 n F dds ta) := PE.weak (pe_mkX (E := WE WF) c D takes_none hr hg ha hdb he hpl) fun _ _ _ h => mk_td co hv h
end
/-! ### a, b = x, y -/
theorem bs_par2 {i j : Nat} {x y : Str} {a b : Expr} {ta : TDA} {px py pt pos : Pos} {kt k2 pt2} (hc : X.calm = true) (hN : X.N.Nodup) (hi : X.N[i]? = some x) (hj : X.N[j]? = some y) (hij : i ≠ j) (hx : X.env.scope.names.lookup x = some .local) (hy : X.env.scope.names.lookup y = some .local) (ha : BA X W Wk [a, b] ta)
    (hw : swappedStores [.Tuple [.Name x px, .Name y py] kt pt] (.Tuple [a, b] k2 pt2) X.env = pure (some [x, y])) (hs : swapsWithSole [.Tuple [.Name x px, .Name y py] kt pt] (.Tuple [a, b] k2 pt2) pos.line X.env = pure false := by rfl) :
    BS X W Wk (.Assign [.Tuple [.Name x px, .Name y py] kt pt] (.Tuple [a, b] k2 pt2) pos) (sPar i j ta) := bs_par hc hN hi hj hij hx hy ha (ps_par hc hN hi hj hij hx hy ha hw hs)
theorem bs_par3 {i j l : Nat} {x y z : Str} {a b c : Expr} {ta : TDA} {px py pz pt pos : Pos} {kt k2 pt2} (hc : X.calm = true) (hN : X.N.Nodup) (hi : X.N[i]? = some x) (hj : X.N[j]? = some y) (hl : X.N[l]? = some z) (hij : i ≠ j) (hil : i ≠ l) (hjl : j ≠ l) (hx : X.env.scope.names.lookup x = some .local) (hy : X.env.scope.names.lookup y = some .local)
    (hz : X.env.scope.names.lookup z = some .local) (ha : BA X W Wk [a, b, c] ta) (hw : swappedStores [.Tuple [.Name x px, .Name y py, .Name z pz] kt pt] (.Tuple [a, b, c] k2 pt2) X.env = pure (some [x, y, z])) (hs : swapsWithSole [.Tuple [.Name x px, .Name y py, .Name z pz] kt pt] (.Tuple [a, b, c] k2 pt2) pos.line X.env = pure false := by rfl) :
    BS X W Wk (.Assign [.Tuple [.Name x px, .Name y py, .Name z pz] kt pt] (.Tuple [a, b, c] k2 pt2) pos) (sPar3 i j l ta) := PS.weak (ps_par3 hc hN hi hj hl hij hil hjl hx hy hz ha hw hs) fun _ _ _ h => par3_td h
/-- xs[::-1] -/
def eRevL (m : Bool) (td : TDE) : TDE := fun Xd ρ μ Q => td Xd ρ μ fun d μ1 => match lstOf d μ1 with | some xs => newL m xs.reverse μ1 Q | none => False
theorem Reps.reverse {hid : Hid} {H : Hp} {μ : Mu} : ∀ {vs : List V} {ds : List D}, Reps W hid H μ vs ds → Reps W hid H μ vs.reverse ds.reverse
  | _, _, .nil => .nil
  | _, _, .cons h r => by
    rw [List.reverse_cons, List.reverse_cons]
    exact (Reps.reverse r).append (.cons h .nil)
theorem be_revL {m : Bool} {e : Expr} {td : TDE} {k : Nat} {p1 p2 p3 pos : Pos} (C : TW X.K X.w W) (he : BE X W Wk e td) : BE X W Wk (.Subscript e (.Slice none none (some (.UnaryOp .USub (.Constant (.int 1) k p1) p2)) p3) pos) (eRevL m td) := PE.weak (pe_revL he) fun σ H Q ⟨hid, ρ, μ, Xd, Qd, rel, sr, q, pq, px⟩ => by
  refine ⟨hid, ρ, μ, Xd, _, rel, sr, q, fun v d H1 μ1 s1 sr1 r1 q1 => ?_, px⟩
  dsimp only at q1
  split at q1
  · rename_i xs es
    obtain ⟨a, vs, rfl, ha, qa⟩ := lstOf_ok es sr1 r1
    rw [← C.hK] at ha
    exact ⟨a, vs, rfl, ha, fun p hp => newL_ok sr1 qa.reverse hp q1 (pq.st s1)⟩
  · exact q1.elim
/-! ### dicts -/
def eDNew : TDE := fun _ _ μ Q => ∀ p, μ p = none → Q (.ptr p) (μ.set p (.dic []))
theorem newD_ok {hid : Hid} {H : Hp} {μ : Mu} {kvs : List (Key × D)} {es : List (Key × V)} {Qd : QD} {Q : VK} {p : Addr} (sr : SR W hid H μ) (r : RepK W hid H μ es kvs) (hp : H p = none) (q : ∀ p, μ p = none → Qd (.ptr p) (μ.set p (.dic kvs))) (pq : PQ W hid H μ Qd Q) : Q (.ref p) (upd H p (.dK es)) := by
  have hn : ∀ l, MO.dic kvs ≠ .deal l := fun l e => by cases e
  exact pq _ _ _ _ (St.add hp hn) (sr.add hp hn ⟨es, upd_same, r.mono (St.add hp hn).ok⟩) (.ptr p) (q p (sr.fresh hp).1)
theorem be_dnew {pos : Pos} : BE X W Wk (.Dict [] [] pos) eDNew := PE.weak pe_dnewK fun σ H Q ⟨hid, ρ, μ, Xd, Qd, rel, sr, q, pq, px⟩ => fun p hp => newD_ok sr .nil hp q pq
abbrev TDP := List (TDE × TDE)
def dPairs : TDP → XE → PD.Env → Mu → (List (D × D) → Mu → Prop) → Prop
  | [], _, _, μ, Q => Q [] μ
  | (tk, tv) :: r, Xd, ρ, μ, Q => tk Xd ρ μ fun x μ1 => tv Xd ρ μ1 fun y μ2 => dPairs r Xd ρ μ2 fun ps μ3 => Q ((x, y) :: ps) μ3
abbrev dpNil : TDP := []
abbrev dpCons (tk tv : TDE) (r : TDP) : TDP := (tk, tv) :: r
def tPs (W : Wo) (Wk : WX) (l : TDP) : List (TE × TE) := l.map fun p => (TD W Wk p.1, TD W Wk p.2)
abbrev BPs (X : Cx) (W : Wo) (Wk : WX) (pos : Pos) (keys : List (Option Expr)) (values : List Expr) (l : TDP) : Prop := PPs X pos keys values (tPs W Wk l)
theorem bps_nil {pos : Pos} : BPs X W Wk pos [] [] dpNil := pps_nil
theorem bps_cons {pos : Pos} {k v : Expr} {ks : List (Option Expr)} {vs : List Expr} {tk tv : TDE} {r : TDP} (hk : BE X W Wk k tk) (hv : BE X W Wk v tv) (hr : BPs X W Wk pos ks vs r) : BPs X W Wk pos (some k :: ks) (v :: vs) (dpCons tk tv r) := pps_cons hk hv hr
inductive RepPs (W : Wo) (hid : Hid) (H : Hp) (μ : Mu) : List (V × V) → List (D × D) → Prop
  | nil : RepPs W hid H μ [] []
  | cons {x y : V} {d e : D} {ps : List (V × V)} {qs : List (D × D)} : Rep W hid H μ x d → Rep W hid H μ y e → RepPs W hid H μ ps qs → RepPs W hid H μ ((x, y) :: ps) ((d, e) :: qs)
theorem RepPs.mono {hid hid' : Hid} {H H' : Hp} {μ μ' : Mu} (k : Ok hid H μ hid' H' μ') : ∀ {ps : List (V × V)} {qs : List (D × D)}, RepPs W hid H μ ps qs → RepPs W hid' H' μ' ps qs
  | _, _, .nil => .nil
  | _, _, .cons a b r => .cons (a.mono k) (b.mono k) (RepPs.mono k r)
theorem pairs_td {hid : Hid} {σ : L2.St} {ρ : PD.Env} {Xd : XE} : ∀ {l : TDP} {H : Hp} {μ : Mu} {Qd : List (D × D) → Mu → Prop} {Q : List (V × V) → Hp → Prop}, Rel W hid H μ σ ρ → SR W hid H μ → dPairs l Xd ρ μ Qd → (∀ ps qs H' μ', St H μ H' μ' → SR W hid H' μ' → RepPs W hid H' μ' ps qs → Qd qs μ' → Q ps H') → PX W hid H μ σ ρ Xd Wk → tPairs (tPs W Wk l) σ H Q
  | [], H, μ, Qd, Q, rel, sr, q, pq, px => pq [] [] H μ .refl sr .nil q
  | (tk, tv) :: l, H, μ, Qd, Q, rel, sr, q, pq, px => by
    refine ⟨hid, ρ, μ, Xd, _, rel, sr, q, fun v d H1 μ1 s1 sr1 r1 q1 => ?_, px⟩
    refine ⟨hid, ρ, μ1, Xd, _, rel_mono s1.ok rel, sr1, q1, fun w e H2 μ2 s2 sr2 r2 q2 => ?_, px.st s1⟩
    have s12 := s1.trans s2
    exact pairs_td (rel_mono s12.ok rel) sr2 q2 (fun ps qs H' μ' s' sr' r' q' => pq _ _ H' μ' (s12.trans s') sr' (.cons (r1.mono (s2.trans s').ok) (r2.mono s'.ok) r') q') (px.st s12)
def kvsOf : List (D × D) → Option (List (Key × D))
  | [] => some []
  | (x, y) :: r => match keyOf x, kvsOf r with
    | some k, some l => some ((k, y) :: l)
    | _, _ => none
theorem kvsOf_ok {hid : Hid} {H : Hp} {μ : Mu} : ∀ {ps : List (V × V)} {qs : List (D × D)} {kvs : List (Key × D)}, RepPs W hid H μ ps qs → kvsOf qs = some kvs → ∃ es : List (Key × V), ps = es.map (fun kv => (kV kv.1, kv.2)) ∧ RepK W hid H μ es kvs
  | _, _, kvs, .nil, e => by
    cases e
    exact ⟨[], rfl, .nil⟩
  | _, _, kvs, .cons a b r, e => by
    unfold kvsOf at e
    split at e
    · rename_i k l hk hl
      cases e
      obtain ⟨es, rfl, re⟩ := kvsOf_ok r hl
      obtain rfl := keyOf_ok a hk
      exact ⟨(k, _) :: es, rfl, .cons b re⟩
    · cases e
def mergeD (kvs more : List (Key × D)) : List (Key × D) := more.foldl (fun acc kv => putD acc kv.1 kv.2) kvs
theorem mergeD_ok {hid : Hid} {H : Hp} {μ : Mu} : ∀ {es : List (Key × V)} {kvs : List (Key × D)} {es0 : List (Key × V)} {kvs0 : List (Key × D)}, RepK W hid H μ es0 kvs0 → RepK W hid H μ es kvs → RepK W hid H μ (mergeK es0 es) (mergeD kvs0 kvs)
  | _, _, _, _, r0, .nil => r0
  | _, _, es0, kvs0, r0, .cons (k := k) (v := v) (d := d) h r => (mergeD_ok (es0 := putK es0 k v) (kvs0 := putD kvs0 k d) (putD_ok r0 h) r : _)
def eDisp (l : TDP) : TDE := fun Xd ρ μ Q => dPairs l Xd ρ μ fun qs μ1 => match kvsOf qs with | some kvs => kvs.length ≤ 15 ∧ ∀ p, μ1 p = none → Q (.ptr p) (μ1.set p (.dic (mergeD [] kvs))) | none => False
theorem SR.adoptG {hid : Hid} {H : Hp} {μ : Mu} {p : Addr} {m : MO} (sr : SR W (hidA hid p) H μ) (hm : ∀ l, m ≠ .deal l) (r : MRep W hid H (μ.set p m) p m) (nh : ¬ hid p) : SR W hid H (μ.set p m) := by
  refine ⟨fun a n h => ?_, fun d l h => ?_, fun d d' l h h' => ?_, fun a h => sr.hk a (.inl h)⟩
  · by_cases e : a = p
    · subst e
      rw [Mu.set_same] at h
      cases h
      exact ⟨nh, r⟩
    · rw [Mu.set_ne e] at h
      exact ⟨fun z => (sr.at_ a n h).1 (.inl z), (sr.at_ a n h).2.mono (ok_adopt hm) rfl fun _ _ => rfl⟩
  · have hd : d ≠ p := fun e => by
      subst e
      rw [Mu.set_same] at h
      exact hm _ (Option.some.inj h)
    rw [Mu.set_ne hd] at h
    have q := sr.inn d l h
    rw [Mu.set_ne (fun e => q.2 (.inr e))]
    exact ⟨q.1, fun z => q.2 (.inl z)⟩
  · have hd : d ≠ p := fun e => by
      subst e
      rw [Mu.set_same] at h
      exact hm _ (Option.some.inj h)
    have hd' : d' ≠ p := fun e => by
      subst e
      rw [Mu.set_same] at h'
      exact hm _ (Option.some.inj h')
    rw [Mu.set_ne hd] at h
    rw [Mu.set_ne hd'] at h'
    exact sr.one d d' l h h'
theorem be_disp {pos : Pos} {keys : List (Option Expr)} {values : List Expr} {l : TDP} (h : BPs X W Wk pos keys values l) (hall : keys.all (·.isSome) = true) (hl : keys.length = values.length) (h0 : keys ≠ []) (h15 : keys.length ≤ 15) : BE X W Wk (.Dict keys values pos) (eDisp l) := PE.weak (pe_disp h hall hl h0 h15) fun σ H Q ⟨hid, ρ, μ, Xd, Qd, rel, sr, q, pq, px⟩ => by
  intro p hp
  have nh := sr.nhid hp
  refine pairs_td (hid := hidA hid p) (ρ := ρ) (Xd := Xd) (rel_mono (ok_hide (St.new hp) hp) rel) (sr.hide hp) q (fun ps qs H2 μ2 s2 sr2 r2 q2 => ?_) fun x cls dd H' μ' s' sr' xr q' => ?_
  · have hp2 := (s2 p _ upd_same (sr.fresh hp)).1
    split at q2
    · rename_i kvs ek
      obtain ⟨es, rfl, re⟩ := kvsOf_ok r2 ek
      have hl2 : es.length = kvs.length := repK_len re
      refine ⟨hp2, es, rfl, by rw [hl2]; exact q2.1, ?_⟩
      have him := sr2.him (a := p) (.inr rfl)
      have hm : ∀ l, MO.dic (mergeD [] kvs) ≠ .deal l := fun l e => by cases e
      have sr3 := sr2.hmod (o := .dK (mergeK [] es)) (p := p) (.inr rfl)
      have r3 : RepK W hid (upd H2 p (.dK (mergeK [] es))) (μ2.set p (.dic (mergeD [] kvs))) (mergeK [] es) (mergeD [] kvs) := (mergeD_ok .nil re).mono fun a o h i n => by
        obtain ⟨h1, i1, n1⟩ := (ok_hmod (o := HO.dK (mergeK [] es)) (H := H2) (μ := μ2) (hid := hidA hid p) (p := p) (.inr rfl)) a o h i n
        exact ok_adopt hm a o h1 i1 n1
      refine pq _ _ _ _ (fun a u ha ia => ?_) (sr3.adoptG hm ⟨_, upd_same, r3⟩ nh) (.ptr p) (q2.2 p him.1)
      have ne := ne_of_none ha hp
      obtain ⟨h2, i2⟩ := s2 a u (by rw [upd_ne ne]; exact ha) ia
      exact ⟨by rw [upd_ne ne]; exact h2, im_set hm ne i2⟩
    · exact q2.elim
  · refine px x cls dd H' μ' (fun a u ha ia => ?_) sr'.unhide ⟨xr.1, ?_⟩ q'
    · exact s' a u (by rw [upd_ne (ne_of_none ha hp)]; exact ha) ia
    · rcases xr.2 with z | ⟨a, fs, e1, e2, i, n, e3⟩
      · exact .inl z
      · exact .inr ⟨a, fs, e1, e2, i, fun z => n (.inl z), e3.mono ok_unhide⟩
/-- d.get(k), d.get(k, x) -/
def mGet : MD := fun d ds μ Q => match dicOf d μ with
  | some kvs => (match ds with
    | [k] => (match keyOf k with | some k => Q ((valD kvs k).getD .non) μ | none => False)
    | [k, x] => (match keyOf k with | some k => Q ((valD kvs k).getD x) μ | none => False)
    | _ => False)
  | none => False
theorem md_get (hu : X.A.units + 1 < cLine) : MtR X "dict.get" (rMD W mGet) := by
  intro pins s σ H x xs v us Q I rx rs ⟨hid, μ, d, ds, Qd, sr, r, rr, h, pq⟩
  unfold mGet at h
  split at h
  · rename_i kvs ek
    obtain ⟨a, es, rfl, ha, q⟩ := dicOf_ok sr ek r
    cases (show v = Value.ref a from rx)
    split at h
    · split at h
      · rename_i k hk
        cases rr with
        | cons ra rr =>
          cases rr
          obtain rfl := keyOf_ok ra hk
          obtain ⟨u, rfl, ru⟩ := Vals.one rs
          have ro := valD_ok (k := k) q
          refine d_get1 hu I (DGet.k (k := k) ha) ru fun w' s' I' rw' => ⟨_, H, I', rw', ?_⟩
          generalize valV es k = o1 at ro
          generalize valD kvs k = o2 at ro h
          cases ro with
          | none => exact pq _ _ H μ .refl sr .non h
          | some z => exact pq _ _ H μ .refl sr z h
      · exact h.elim
    · split at h
      · rename_i k hk
        cases rr with
        | cons ra rr =>
          cases rr with
          | cons rb rr =>
            cases rr
            obtain rfl := keyOf_ok ra hk
            obtain ⟨u, u2, rfl, ru, ru2⟩ := Vals.two rs
            have ro := valD_ok (k := k) q
            refine d_get2 hu I (DGet.k (k := k) ha) ru ru2 fun w' s' I' rw' => ⟨_, H, I', rw', ?_⟩
            generalize valV es k = o1 at ro
            generalize valD kvs k = o2 at ro h
            cases ro with
            | none => exact pq _ _ H μ .refl sr rb h
            | some z => exact pq _ _ H μ .refl sr z h
      · exact h.elim
    · exact h.elim
  · exact h.elim
end
end PD
set_option Elab.async false
set_option linter.all false
set_option autoImplicit false
set_option maxRecDepth 100000
set_option maxHeartbeats 4000000
namespace PD
open PySem PySem.Spec PyProof.Rows L2
section
variable {X : Cx} {W : Wo} {Wk : WX}
/-! ### enumerate, zip -/
def enumL (xs : List D) : List D := (List.range xs.length).zipWith (fun i x => .tup [.int (i : Nat), x]) xs
theorem enumL_get {xs : List D} {i : Nat} {d : D} (h : (enumL xs)[i]? = some d) : ∃ x, xs[i]? = some x ∧ d = .tup [.int (i : Nat), x] := by
  unfold enumL at h
  rw [List.getElem?_zipWith] at h
  cases e : xs[i]? with
  | none =>
    rw [e] at h
    split at h
    · rename_i e1 e2
      cases e2
    · cases h
  | some x =>
    have hi := LB.lt_of_get e
    rw [e, List.getElem?_range hi] at h
    cases h
    exact ⟨x, rfl, rfl⟩
theorem enumL_len (xs : List D) : (enumL xs).length = xs.length := by simp [enumL]
def iEnum (ta : TDA) : TDI := fun Xd ρ μ R => ta Xd ρ μ fun ds μ1 => match ds with
  | [.tup xs] => R [] (enumL xs) μ1
  | [.lst xs] => R [] (enumL xs) μ1
  | [.ptr a] => (match lstOf (.ptr a) μ1 with | some xs => R [(a, xs)] (enumL xs) μ1 | none => False)
  | _ => False
/-- a pair is given out -/
theorem pair_ok {hid : Hid} {H : Hp} {μ : Mu} {T : Addr} {x y : V} {d e : D} (sr : SR W hid H μ) (hT : H T = none) (rx : Rep W hid H μ x d) (ry : Rep W hid H μ y e) : St H μ (upd H T (.tup [x, y])) μ ∧ SR W hid (upd H T (.tup [x, y])) μ ∧ Rep W hid (upd H T (.tup [x, y])) μ (.ref T) (.tup [d, e]) :=
  ⟨St.new hT, sr.new hT, .tup (.inl upd_same) (sr.fresh hT) (sr.nhid hT) (.cons (rx.mono (St.new hT).ok) (.cons (ry.mono (St.new hT).ok) .nil))⟩
theorem walkEL {hid : Hid} {H1 : Hp} {μ1 : Mu} {a : Addr} {d : D} {ds : List D} {o : Cks} (hK : X.K = W.K) (r : Rep W hid H1 μ1 (.ref a) d) (hd : d = .lst ds ∨ (d = .ptr a) ∨ ∃ ns, d = .scr ns ∧ ds = ns.map D.int) (ho : ∀ μ, CK o μ → d = .ptr a → lstOf (.ptr a) μ = some ds) : WalkD W hid H1 μ1 (Ite X.K a) o (enumL ds) := by
  rw [hK]
  refine ⟨fun hid' i H μ hi k sr ck => ?_, fun hid' H μ k sr ck => ?_, fun hid' i e H μ x H' hi k sr ck y => ?_⟩
  · obtain ⟨vs, h, q⟩ := lst_stands r hd k sr (ho μ ck)
    exact walk_enum.goes i H (by rw [q.length, ← enumL_len]; exact hi) h
  · obtain ⟨vs, h, q⟩ := lst_stands r hd k sr (ho μ ck)
    rw [enumL_len, ← q.length]
    exact walk_enum.stops H h
  · obtain ⟨vs, h, q⟩ := lst_stands r hd k sr (ho μ ck)
    obtain ⟨z, hz, rfl⟩ := enumL_get hi
    obtain ⟨v, hv, rv⟩ := q.get hz
    obtain ⟨T, x1, y1, rfl, hT, rfl, e1, e2⟩ := walk_enum.yields i H x H' (LB.lt_of_get hv) h y
    cases e1
    cases (hv.symm.trans e2)
    exact pair_ok sr hT (.int _) rv
theorem walkET {hid : Hid} {H1 : Hp} {μ1 : Mu} {a : Addr} {ds : List D} {o : Cks} (hK : X.K = W.K) (r : Rep W hid H1 μ1 (.ref a) (.tup ds)) : WalkD W hid H1 μ1 (LB.IteT X.K a) o (enumL ds) := by
  rw [hK]
  refine ⟨fun hid' i H μ hi k sr ck => ?_, fun hid' H μ k sr ck => ?_, fun hid' i e H μ x H' hi k sr ck y => ?_⟩
  · obtain ⟨vs, h, q⟩ := tup_stands r k
    exact LB.walk_enumT.goes i H (by rw [q.length, ← enumL_len]; exact hi) h
  · obtain ⟨vs, h, q⟩ := tup_stands r k
    rw [enumL_len, ← q.length]
    exact LB.walk_enumT.stops H h
  · obtain ⟨vs, h, q⟩ := tup_stands r k
    obtain ⟨z, hz, rfl⟩ := enumL_get hi
    obtain ⟨v, hv, rv⟩ := q.get hz
    obtain ⟨T, x1, y1, rfl, hT, rfl, e1, e2⟩ := LB.walk_enumT.yields i H x H' (LB.lt_of_get hv) h y
    cases e1
    cases (hv.symm.trans e2)
    exact pair_ok sr hT (.int _) rv
theorem bi_enum {tg e : Expr} {ta : TDA} {p pos : Pos} (C : TW X.K X.w W) (h : PI X tg (.Call (.Name "enumerate" p) [e] [] pos) (LB.iEnumA X.K (TDa W Wk ta))) : BI X W Wk tg (.Call (.Name "enumerate" p) [e] [] pos) (iEnum ta) := PI.weak h fun σ H R ⟨hid, ρ, μ, Xd, Rd, rel, sr, q, pr, px⟩ => by
  refine ⟨hid, ρ, μ, Xd, _, rel, sr, q, fun vs ds H1 μ1 s1 sr1 r1 q1 => ?_, px⟩
  dsimp only at q1
  split at q1
  · rename_i xs
    cases r1 with
    | cons ra rr =>
      cases rr
      obtain ⟨a, vs, rfl, ha, _⟩ := tup_ok ra
      exact ⟨a, vs, rfl, .inr ⟨by rw [C.hK]; exact ha, pr _ H1 μ1 [] _ s1 sr1 (walkET C.hK ra) q1⟩⟩
  · rename_i xs
    cases r1 with
    | cons ra rr =>
      cases rr
      obtain ⟨a, vs, rfl, ha, _⟩ := lstOf_ok (ds := xs) rfl sr1 ra
      exact ⟨a, vs, rfl, .inl ⟨by rw [C.hK]; exact ha, pr _ H1 μ1 [] _ s1 sr1 (walkEL C.hK ra (.inl rfl) fun _ _ e => by cases e) q1⟩⟩
  · rename_i a
    cases r1 with
    | cons ra rr =>
      cases rr
      cases ra
      split at q1
      · rename_i xs hx
        obtain ⟨a', vs, e, ha, _⟩ := lstOf_ok hx sr1 (.ptr a)
        cases e
        exact ⟨a, vs, rfl, .inl ⟨by rw [C.hK]; exact ha, pr _ H1 μ1 [(a, xs)] _ s1 sr1 (walkEL C.hK (.ptr a) (.inr (.inl rfl)) fun μ ck _ => ck (a, xs) (by simp)) q1⟩⟩
      · exact q1.elim
  · exact q1.elim
def zipL (xs ys : List D) : List D := xs.zipWith (fun x y => .tup [x, y]) ys
theorem zipL_get {xs ys : List D} {i : Nat} {d : D} (h : (zipL xs ys)[i]? = some d) : ∃ x y, xs[i]? = some x ∧ ys[i]? = some y ∧ d = .tup [x, y] := by
  unfold zipL at h
  rw [List.getElem?_zipWith] at h
  split at h
  · rename_i x y e1 e2
    cases h
    exact ⟨x, y, e1, e2, rfl⟩
  · cases h
theorem zipL_len (xs ys : List D) : (zipL xs ys).length = min xs.length ys.length := by simp [zipL]
def iZip (ta : TDA) : TDI := fun Xd ρ μ R => ta Xd ρ μ fun ds μ1 => match ds with
  | [.tup xs, .tup ys] => R [] (zipL xs ys) μ1
  | [d, e] => (match lstW d μ1, lstW e μ1 with
    | some xs, some ys => R ((match d with | .ptr a => [(a, xs)] | _ => []) ++ (match e with | .ptr b => [(b, ys)] | _ => [])) (zipL xs ys) μ1
    | _, _ => False)
  | _ => False
theorem walk_zipT {K : PySem.W.Frag} {a b : Addr} {xs ys : List V} {n : Nat} (hn : n = min xs.length ys.length) : Walk (RZ.ItzT K a b) n (fun H => SqT K H a xs ∧ SqT K H b ys) (YPair (fun i => xs[i]?) (fun i => ys[i]?)) := by
  subst hn
  refine ⟨fun i _ hi q => ?_, fun _ q => ⟨xs, ys, q.1, q.2, by omega⟩, fun i H v H' _ q y => ?_⟩
  · have h1 : i < xs.length := by omega
    have h2 : i < ys.length := by omega
    exact ⟨xs, ys, xs[i], ys[i], q.1, q.2, by simp [h1], by simp [h2]⟩
  · obtain ⟨T, x, z, h1, h2, h3, h4, h5⟩ := y
    exact ⟨T, x, z, h1, h2, h3, h4 xs q.1, h5 ys q.2⟩
theorem walkZ {hid : Hid} {H1 : Hp} {μ1 : Mu} {J : It} {xs ys : List D} {o : Cks} (st : ∀ hid' H μ, Ok hid H1 μ1 hid' H μ → SR W hid' H μ → CK o μ → ∃ vs us, Reps W hid' H μ vs xs ∧ Reps W hid' H μ us ys ∧ ∃ G : Hp → Prop, G H ∧ Walk J (min vs.length us.length) G (YPair (fun i => vs[i]?) (fun i => us[i]?))) : WalkD W hid H1 μ1 J o (zipL xs ys) := by
  refine ⟨fun hid' i H μ hi k sr ck => ?_, fun hid' H μ k sr ck => ?_, fun hid' i e H μ x H' hi k sr ck y => ?_⟩
  · obtain ⟨vs, us, q1, q2, G, g, w⟩ := st hid' H μ k sr ck
    exact w.goes i H (by rw [q1.length, q2.length, ← zipL_len]; exact hi) g
  · obtain ⟨vs, us, q1, q2, G, g, w⟩ := st hid' H μ k sr ck
    rw [zipL_len, ← q1.length, ← q2.length]
    exact w.stops H g
  · obtain ⟨vs, us, q1, q2, G, g, w⟩ := st hid' H μ k sr ck
    obtain ⟨z1, z2, hz1, hz2, rfl⟩ := zipL_get hi
    obtain ⟨v, hv, rv⟩ := q1.get hz1
    obtain ⟨u, hu, ru⟩ := q2.get hz2
    have l1 := LB.lt_of_get hv
    have l2 := LB.lt_of_get hu
    obtain ⟨T, x1, y1, rfl, hT, rfl, e1, e2⟩ := w.yields i H x H' (by omega) g y
    cases (hv.symm.trans e1)
    cases (hu.symm.trans e2)
    exact pair_ok sr hT rv ru
theorem lstW_stands {hid hid' : Hid} {H1 H : Hp} {μ1 μ : Mu} {a : Addr} {d : D} {ds : List D} (r : Rep W hid H1 μ1 (.ref a) d) (e : lstW d μ1 = some ds) (k : Ok hid H1 μ1 hid' H μ) (sr : SR W hid' H μ) (ck : ∀ b, d = .ptr b → lstOf (.ptr b) μ = some ds) : ∃ vs, SqL W.K H a vs ∧ Reps W hid' H μ vs ds := by
  cases r with
  | lst h i n q =>
    cases e
    exact lst_stands (.lst h i n q) (.inl rfl) k sr fun z => by cases z
  | ptr => exact lst_stands (.ptr a) (.inr (.inl rfl)) k sr fun _ => ck a rfl
  | _ => cases e
theorem bi_zip {tg e e2 : Expr} {ta : TDA} {p pos : Pos} (C : TW X.K X.w W) (h : PI X tg (.Call (.Name "zip" p) [e, e2] [] pos) (RZ.iZipA X.K (TDa W Wk ta))) : BI X W Wk tg (.Call (.Name "zip" p) [e, e2] [] pos) (iZip ta) := PI.weak h fun σ H R ⟨hid, ρ, μ, Xd, Rd, rel, sr, q, pr, px⟩ => by
  refine ⟨hid, ρ, μ, Xd, _, rel, sr, q, fun vs ds H1 μ1 s1 sr1 r1 q1 => ?_, px⟩
  dsimp only at q1
  split at q1
  · rename_i xs ys
    cases r1 with
    | cons ra rr =>
      cases rr with
      | cons rb rr =>
        cases rr
        obtain ⟨a, vs, rfl, ha, _⟩ := tup_ok ra
        obtain ⟨b, us, rfl, hb, _⟩ := tup_ok rb
        refine ⟨a, b, vs, us, rfl, .inr ⟨by rw [C.hK]; exact ha, by rw [C.hK]; exact hb, pr _ H1 μ1 [] _ s1 sr1 (walkZ fun hid' H μ k sr ck => ?_) q1⟩⟩
        obtain ⟨v1, h1, k1⟩ := tup_stands ra k
        obtain ⟨v2, h2, k2⟩ := tup_stands rb k
        rw [← C.hK] at h1 h2
        exact ⟨v1, v2, k1, k2, _, ⟨h1, h2⟩, walk_zipT rfl⟩
  · rename_i d e _
    cases r1 with
    | cons ra rr =>
      cases rr with
      | cons rb rr =>
        cases rr
        split at q1
        · rename_i xs ys ex ey
          obtain ⟨a, vs, rfl, ha, _⟩ := lstW_ok ex sr1 ra
          obtain ⟨b, us, rfl, hb, _⟩ := lstW_ok ey sr1 rb
          refine ⟨a, b, vs, us, rfl, .inl ⟨SqL.of ha, SqL.of hb, pr _ H1 μ1 _ _ s1 sr1 (walkZ fun hid' H μ k sr ck => ?_) q1⟩⟩
          obtain ⟨v1, h1, k1⟩ := lstW_stands ra ex k sr fun b' eb => ck (b', xs) (by subst eb; simp)
          obtain ⟨v2, h2, k2⟩ := lstW_stands rb ey k sr fun b' eb => ck (b', ys) (by subst eb; simp)
          rw [← C.hK] at h1 h2
          exact ⟨v1, v2, k1, k2, _, ⟨h1, h2⟩, walk_zip rfl⟩
        · exact q1.elim
  · exact q1.elim
/-! ### built-in classes as values -/
theorem be_ty {x : Str} {n : String} {pos : Pos} (hg : Gl X x) (hm : X.mg x = none) (hv : bootBuiltins x = some (.type n)) (hn : x ≠ "__name__" := by decide) (hd : (x == ("__debug__" : Str)) = false := by decide) : BE X W Wk (.Name x pos) (eC (.ty n)) := be_of_c (pe_bltn (v := .ty n) hg hm hv rfl hn hd) fun _ _ _ => .ty n
/-! ### match over texts -/
abbrev BM (X : Cx) (W : Wo) (Wk : WX) (cases : List MatchCase) (t : Str → TDS) : Prop := LB.PM X cases (fun v E σ H => ∃ z, v = .str z ∧ TDs W Wk (t z) E σ H)
def mS (lit : Str) (tb : TDS) (tr : Str → TDS) : Str → TDS := fun z E Xd ρ μ => dIf (decide (z = lit)) (tb E Xd ρ μ) (tr z E Xd ρ μ)
theorem PM.weak {cases : List MatchCase} {t t' : V → TS} (h : LB.PM X cases t) (k : ∀ v E σ H, t' v E σ H → t v E σ H) : LB.PM X cases t' := ⟨fun pins s σ H D x u first I r q => h.run pins s σ H D x u first I r (k x D σ H q)⟩
theorem bm_str {lit : Str} {body : List Stmt} {rest : List MatchCase} {tb : TDS} {tr : Str → TDS} {p p2 : Pos} (hb : BSs X W Wk body tb) (hr : BM X W Wk rest tr) : BM X W Wk (⟨.MatchValue (.Constant (.str lit) 0 p) p2, none, body⟩ :: rest) (mS lit tb tr) := PM.weak (LB.pm_str hb hr) fun v E σ H ⟨z, ez, hid, ρ, μ, Xd, Dd, rel, sr, q, pe, px⟩ => by
  refine ⟨z, ez, ?_⟩
  unfold mS at q
  by_cases e : z = lit
  · rw [if_pos e]
    rw [decide_eq_true e, dIf_true] at q
    exact ⟨hid, ρ, μ, Xd, Dd, rel, sr, q, pe, px⟩
  · rw [if_neg e]
    rw [decide_eq_false e, dIf_false] at q
    exact ⟨z, ez, hid, ρ, μ, Xd, Dd, rel, sr, q, pe, px⟩
theorem bm_any {body : List Stmt} {tb : TDS} {p : Pos} (hb : BSs X W Wk body tb) : BM X W Wk [⟨.MatchAs none none p, none, body⟩] (fun _ => tb) := PM.weak (LB.pm_any hb) fun v E σ H ⟨z, ez, q⟩ => q
def sMatch (td : TDE) (t : Str → TDS) : TDS := fun E Xd ρ μ => td Xd ρ μ fun d μ1 => match d with | .str z => t z E Xd ρ μ1 | _ => False
theorem bs_match {subject : Expr} {cases : List MatchCase} {td : TDE} {t : Str → TDS} {p : Pos} (hs : BE X W Wk subject td) (hm : BM X W Wk cases t) : BS X W Wk (.Match subject cases p) (sMatch td t) := PS.weak (LB.ps_match hs hm) fun E σ H ⟨hid, ρ, μ, Xd, Dd, rel, sr, q, pe, px⟩ => by
  refine ⟨hid, ρ, μ, Xd, _, rel, sr, q, fun v d H1 μ1 s1 sr1 r1 q1 => ?_, px.at_ rel⟩
  dsimp only at q1
  split at q1
  · cases r1
    exact ⟨_, rfl, hid, ρ, μ1, Xd, Dd, rel_mono s1.ok rel, sr1, q1, pe.st s1, px.st s1⟩
  · exact q1.elim
end
end PD
set_option Elab.async false
set_option linter.all false
set_option autoImplicit false
set_option maxRecDepth 100000
set_option maxHeartbeats 4000000
namespace PD
open PySem PySem.Spec PyProof.Rows L2
/-! ### plain words over data -/
theorem draw_ok {μ : Mu} {d l : Addr} {many : Int} {Q : QD} {Xd : XD → Mu → Prop} (hm : μ d = some (.deal l)) (h0 : 0 < many) (h1 : many ≤ 340282366920938463463374607431768211456) (h : ∀ r : Int, 0 ≤ r → r < many → Q (.int r) μ) : F_draw [.ptr d, .int many] μ Q Xd := ⟨⟨l, hm⟩, h0, h1, h⟩
theorem dIf_t {b : Bool} {A B : Prop} (e : b = true) (h : A) : dIf b A B := by rw [e, dIf_true]; exact h
theorem dIf_f {b : Bool} {A B : Prop} (e : b = false) (h : B) : dIf b A B := by rw [e, dIf_false]; exact h
end PD
set_option Elab.async false
set_option linter.all false
set_option autoImplicit false
set_option maxRecDepth 100000
set_option maxHeartbeats 4000000
namespace PD
open PySem PySem.Spec PyProof.Rows L2
section
variable {X : Cx} {W : Wo} {Wk : WX}
/-! ### a, *b = a list -/
theorem unpack_star {pins : List (Addr × Obj)} {σ : L2.St} {H : Hp} {s : Shared} {a : Addr} {x : V} {rest : List V} {E : Value → Shared → Prop} {Q : List Value → Shared → Prop} (hc : X.calm = true) (I : Inv X pins σ H s) (hq : SqL X.K H a (x :: rest)) (hz : rest.length ≤ 16000)
    (h : ∀ D u us s', H D = none → Inv X pins σ (upd H D (.lst rest)) s' → RelV x u → us = [u, .ref D] → Q us s') : wpAny (model X.prog X.w) X.A (unpackItems (.ref a) 2 (some 1)) Q E s := by
  obtain ⟨its, rv, pl, hz'⟩ := I.list hq
  cases rv with
  | @cons _ u _ us ru rus =>
    have hl : s.heap.IsList a (u :: us).toArray := pl.isList
    have hll : a < s.heap.objs.size := by obtain ⟨o, ho, _⟩ := hl; exact Heap.lt_size ho
    have hlt : a ≠ s.heap.objs.size := Nat.ne_of_lt hll
    have hus : us.length ≤ 16000 := by rw [← rus.length]; exact hz
    unfold unpackItems notIterableAtAll
    refine wpAny_bind (wpAny_bind (wpAny_specialOf hl.typeIs PySem.F.slot_list_iter.lookup (wpAny_pure ?_)))
    simp only [Bool.false_eq_true, if_false]
    refine wpAny_bind (wpAny_holding (wpAny_pyIter_list hl ?_))
    refine wpAny_bind (wpAny_holding (PySem.W.kun_draw hlt 1 0 _ _ ⟨_, Heap.get?_push_size _ rfl, rfl, rfl⟩ (hl.push _) (by simp) fun h1 hit1 hs1 => ?_))
    have hl1 : h1.IsList a (u :: us).toArray := (hl.push _).extBut hs1.extBut hlt
    rw [Nat.zero_add] at hit1
    obtain ⟨oi, hoi, _⟩ := id hit1
    obtain ⟨ol, hol, _⟩ := id hl1
    have ed : ((u :: us).toArray.toList.drop 0).take 1 = [u] := by simp
    rw [ed]
    rw [if_neg (show ¬ (([u] : List Value).length < 1) by simp)]
    refine wpAny_bind (wpAny_holding (PySem.W.kun_collect (s := { s with heap := h1 }) (T := "list_iterator") (.inr (.inr (.inl rfl))) (Walks.list (A := X.A.in1) (I.ok.hd hc) s.heap.objs.size a hlt (u :: us).toArray) (fun j u st => st.1.typeIs) (k := 1) (by simp) ⟨hit1, hl1⟩ (Heap.lt_size hoi) (Heap.lt_size hol) (fun h2 tk hk => ?_) (by rw [sizeLine_eq]; simp; omega)))
    have er : (u :: us).toArray.toList.drop 1 = us := by simp
    rw [er]
    show wpAny _ _ (if us.length < 2 - 1 - 1 then _ else _) _ _ _
    rw [if_neg (by omega)]
    show wpAny _ _ (newList (us.take (us.length - (2 - 1 - 1))) >>= fun d => pure ([u] ++ [d] ++ us.drop (us.length - (2 - 1 - 1)))) _ _ _
    have e0 : us.length - (2 - 1 - 1) = us.length := by omega
    rw [e0, List.take_length, List.drop_length]
    have keep : ∀ b o, s.heap.get? b = some o → h2.get? b = some o := fun b o e => hk b o (Nat.ne_of_lt (Heap.lt_size e)) (hs1.extBut b o (Nat.ne_of_lt (Heap.lt_size e)) (Heap.get?_push_of_some _ e))
    have I2 : Inv X pins σ H { s with heap := h2, toks := tk } := I.kept keep
    refine wpAny_bind (wpAny_newList (s := { s with heap := h2, toks := tk }) (wpAny_pure ?_) (by rw [sizeLine_eq]; omega))
    have hf : H h2.objs.size = none := I2.hok.fresh (Nat.le_refl _)
    refine h h2.objs.size u _ _ hf (I2.laid (t' := tk) (fun b u e => Heap.get?_push_of_some _ e) (Nat.le_refl _) ?_) ru rfl
    exact ⟨by rw [rus.length, sizeLine_eq]; omega, us, 0, rus, Heap.get?_push_size _ rfl⟩
def gStar (K : PySem.W.Frag) (t : TGs) : TG := fun v σ H Q => ∃ a x rest, v = .ref a ∧ SqL K H a (x :: rest) ∧ rest.length ≤ 16000 ∧ ∀ D, H D = none → t [x, .ref D] σ (upd H D (.lst rest)) Q
theorem pg_star {e f : Expr} {k : Nat} {p pos : Pos} {t : TGs} (hc : X.calm = true) (h : PGs X [e, f] t) (hn : (assignEach [e, .Starred f p] X.env).length = 2 := by rfl) (hst : (assignEach [e, .Starred f p] X.env).findIdx? (·.1) = some 1 := by rfl)
    (hm : (assignEach [e, .Starred f p] X.env).map (·.2) = (assignEach [e, f] X.env).map (·.2) := by rfl) : PG X (.Tuple [e, .Starred f p] k pos) (gStar X.K t) := by
  refine ⟨fun pins s σ H v u Q I r ⟨a, x, rest, ev, hq, hz, hw⟩ => ?_⟩
  subst ev
  cases (show u = Value.ref a from r)
  rw [PyProof.Rows.assign_Tuple]
  refine wpAny_bind (wpAny_standAt ?_)
  unfold unpack
  rw [hn, hst, hm]
  refine wpAny_bind (wpAny_holding (unpack_star hc I hq hz fun D u us s' hD I' ru e => ?_))
  subst e
  exact h.run pins s' σ _ [x, .ref D] [u, .ref D] Q I' (.cons ru (.cons rfl .nil)) (hw D hD)
def gSt (m : Bool) (u : TDGs) : TDG := fun d Xd ρ μ Q => match lstOf d μ with
  | some (x :: rest) => rest.length ≤ 16000 ∧ newL m rest μ fun r μ1 => u [x, r] Xd ρ μ1 Q
  | _ => False
theorem bg_star {m : Bool} {e f : Expr} {k : Nat} {p pos : Pos} {u : TDGs} (C : TW X.K X.w W) (hc : X.calm = true) (h : BGs X W Wk [e, f] u) (hn : (assignEach [e, .Starred f p] X.env).length = 2 := by rfl) (hst : (assignEach [e, .Starred f p] X.env).findIdx? (·.1) = some 1 := by rfl)
    (hm : (assignEach [e, .Starred f p] X.env).map (·.2) = (assignEach [e, f] X.env).map (·.2) := by rfl) : BG X W Wk (.Tuple [e, .Starred f p] k pos) (gSt m u) := PG.weak (pg_star hc h hn hst hm) fun v σ H Q ⟨hid, ρ, μ, Xd, d, Nd, rel, sr, r, q, pn, px⟩ => by
  unfold gSt at q
  split at q
  · rename_i x rest el
    obtain ⟨a, vs, rfl, ha, ra⟩ := lstOf_ok el sr r
    rw [← C.hK] at ha
    cases ra with
    | @cons v1 vs _ _ rx rr =>
      refine ⟨a, v1, vs, rfl, ha, by rw [rr.length]; exact q.1, fun D hD => ?_⟩
      refine newL_ok (Q := fun y H' => TDgs W Wk u [v1, y] σ H' Q) sr rr hD q.2 fun y z H1 μ1 s1 sr1 r1 q1 => ?_
      exact ⟨hid, ρ, μ1, Xd, [x, z], Nd, rel_mono s1.ok rel, sr1, .cons (rx.mono s1.ok) (.cons r1 .nil), q1, pn.st s1, px.st s1⟩
  · exact q.elim
/-! ### f(*xs), (a, *xs) -/
def aStar (te : TDE) (tr : TDA) : TDA := fun Xd ρ μ Q => te Xd ρ μ fun d μ1 => match seqOf d μ1 with | some xs => tr Xd ρ μ1 (fun ds μ2 => Q (xs ++ ds) μ2) | none => False
theorem ba_star {e : Expr} {es : List Expr} {te : TDE} {tr : TDA} {p : Pos} (C : TW X.K X.w W) (he : BE X W Wk e te) (hr : BA X W Wk es tr) (hs : starEach (.Starred e p :: es) X.env = (true, eval e X.env) :: starEach es X.env := by rfl) : BA X W Wk (.Starred e p :: es) (aStar te tr) :=
  PA.weak (StX.pa_star he hr hs) fun σ H Q ⟨hid, ρ, μ, Xd, Qd, rel, sr, q, pq, px⟩ => by
    refine ⟨hid, ρ, μ, Xd, _, rel, sr, q, fun v d H1 μ1 s1 sr1 r1 q1 => ?_, px⟩
    dsimp only at q1
    split at q1
    · rename_i xs es
      obtain ⟨a, vs, rfl, ha, ra⟩ := seqOf_ok es sr1 r1
      rw [← C.hK] at ha
      refine ⟨a, vs, rfl, ha.symm, hid, ρ, μ1, Xd, _, rel_mono s1.ok rel, sr1, q1, fun us ds H2 μ2 s2 sr2 r2 q2 => ?_, px.st s1⟩
      exact pq _ _ H2 μ2 (s1.trans s2) sr2 ((ra.mono s2.ok).append r2) q2
    · exact q1.elim
end
end PD
set_option Elab.async false
set_option linter.all false
set_option autoImplicit false
set_option maxRecDepth 100000
set_option maxHeartbeats 4000000
/-! zip of two things, each a list or a tuple -/
namespace LB
open PySem PySem.Spec PyProof.Rows L2
/-- true: a tuple -/
def ItS (b : Bool) (h : Heap) (it l : Addr) (k : Nat) : Prop := match b with | true => h.IsTupleIter it l k | false => h.IsListIter it l k
def SqS (b : Bool) (h : Heap) (l : Addr) (xs : Array Value) : Prop := match b with | true => h.IsTuple l xs | false => h.IsList l xs
def itN (b : Bool) : String := match b with | true => "tuple_iterator" | false => "list_iterator"
theorem ItS.extBut {b : Bool} {h h' : Heap} {a c l : Addr} {i : Nat} (x : ItS b h a l i) (hs : Heap.ExtBut c h h') (n : a ≠ c) : ItS b h' a l i := by
  cases b
  · exact Heap.IsListIter.extBut x hs n
  · exact Heap.IsTupleIter.extBut x hs n
theorem ItS.at {b : Bool} {h h' : Heap} {a l : Addr} {i : Nat} (x : ItS b h a l i) (e : ∀ o, h.get? a = some o → h'.get? a = some o) : ItS b h' a l i := by
  cases b
  · exact Heap.IsListIter.at x e
  · exact Heap.IsTupleIter.at x e
theorem SqS.extBut {b : Bool} {h h' : Heap} {a c : Addr} {xs : Array Value} (x : SqS b h a xs) (hs : Heap.ExtBut c h h') (n : a ≠ c) : SqS b h' a xs := by
  cases b
  · exact Heap.IsList.extBut x hs n
  · exact Heap.IsTuple.extBut x hs n
theorem ItS.obj {b : Bool} {h : Heap} {a l : Addr} {i : Nat} (x : ItS b h a l i) : ∃ o, h.get? a = some o ∧ ∀ v, o.data ≠ .cell v := by
  cases b
  · obtain ⟨o, e, _, d⟩ := x
    exact ⟨o, e, fun v q => by rw [d] at q; cases q⟩
  · obtain ⟨o, e, _, d⟩ := x
    exact ⟨o, e, fun v q => by rw [d] at q; cases q⟩
theorem SqS.lt {b : Bool} {h : Heap} {a : Addr} {xs : Array Value} (x : SqS b h a xs) : a < h.objs.size := by
  cases b
  · obtain ⟨o, e, _⟩ := x; exact Heap.lt_size e
  · obtain ⟨o, e, _⟩ := x; exact Heap.lt_size e
section
variable {prog : Program} {w : World} {A : Around} {E : Value → Shared → Prop} {s : Shared}
theorem next_item {b : Bool} {it l : Addr} {i : Nat} {items : Array Value} {x : Value} {Q : Value → Shared → Prop} (hit : ItS b s.heap it l i) (hl : SqS b s.heap l items) (hx : items[i]? = some x)
    (hQ : ∀ h', ItS b h' it l (i + 1) → Heap.SameBut it s.heap h' → Q x { s with heap := h' }) : wpAny (model prog w) A (Builtin.SmallTypes.nextOf (.ref it)) Q E s := by
  cases b
  · exact wpAny_nextOf_list_item hit hl hx hQ
  · exact RZ.nextOf_tuple_item hit hl hx hQ
theorem next_end {b : Bool} {it l : Addr} {i : Nat} {items : Array Value} {Q : Value → Shared → Prop} (hh : A.handled = none) (hit : ItS b s.heap it l i) (hl : SqS b s.heap l items) (hx : items[i]? = none)
    (hE : ∀ h' e, Heap.ExtBut it s.heap h' → (∃ o, h'.get? e = some o ∧ o.cls = .type "StopIteration") → E (.ref e) { s with heap := h' }) : wpAny (model prog w) A (Builtin.SmallTypes.nextOf (.ref it)) Q E s := by
  cases b
  · exact wpAny_nextOf_list_end hh hit hl hx hE
  · exact RZ.nextOf_tuple_end hh hit hl hx hE
end
end LB
set_option Elab.async false
set_option linter.all false
set_option autoImplicit false
set_option maxRecDepth 100000
set_option maxHeartbeats 4000000
namespace LB
open PySem PySem.Spec PyProof.Rows L2
/-! zip of any number of lists and tuples: one turn -/
structure Sd where
  b : Bool
  it : Addr
  l : Addr
abbrev IsTup (h : Heap) (T : Addr) (vs : Array Value) : Prop := h.get? T = some { cls := .type "tuple", data := .seq vs }
structure Aps (ss : List Sd) (z TI TO : Addr) : Prop where
  TIz : TI ≠ z
  TOz : TO ≠ z
  IO : TI ≠ TO
  it : ∀ s ∈ ss, s.it ≠ z ∧ s.it ≠ TI ∧ s.it ≠ TO
  l : ∀ s ∈ ss, s.l ≠ z ∧ s.l ≠ TO ∧ ∀ t ∈ ss, s.l ≠ t.it
  nd : ∀ (i j : Nat) (s t : Sd), ss[i]? = some s → ss[j]? = some t → i ≠ j → s.it ≠ t.it
section
variable {prog : Program} {w : World} {A : Around} {E : Value → Shared → Prop} {s : Shared}
theorem upd_tup {T : Addr} {vs : Array Value} {k : Nat} {x : Value} {Q : Unit → Shared → Prop} (hT : IsTup s.heap T vs) (hz : vs.size ≤ 100)
    (h : ∀ h', IsTup h' T (vs.setIfInBounds k x) → Heap.SameBut T s.heap h' → Q () { s with heap := h' }) : wpAny (model prog w) A (updateSeq T (·.setIfInBounds k x)) Q E s := by
  refine wpAny_updateSeq hT rfl (h _ ?_ (Heap.SameBut.update ..)) (Nat.le_trans hz (by decide)) (by rw [Array.size_setIfInBounds]; exact Nat.le_trans hz (by decide))
  show (s.heap.update T _).get? T = _
  rw [Heap.get?_update_self _ hT rfl]
  simp [Obj.mapSeq]
/-- the heap when j of the iterators have been drawn from -/
structure Mid (ss : List Sd) (xss : List (Array Value)) (k : Nat) (z TI TO : Addr) (h0 : Heap) (xs : List Value) (j : Nat) (h : Heap) : Prop where
  zz : IsZip h z TI TO .ellipsis
  ti : IsTup h TI (ss.map fun s => Value.ref s.it).toArray
  to : ∃ vs : List Value, IsTup h TO vs.toArray ∧ vs.length = ss.length ∧ ∀ i, i < j → vs[i]? = xs[i]?
  its : ∀ (i : Nat) (s : Sd), ss[i]? = some s → ItS s.b h s.it s.l (if i < j then k + 1 else k)
  ls : ∀ (i : Nat) (s : Sd) (vs : Array Value), ss[i]? = some s → xss[i]? = some vs → SqS s.b h s.l vs
  sz : h.objs.size = h0.objs.size
  kept : ∀ c o, c ≠ z → c ≠ TO → (∀ s ∈ ss, c ≠ s.it) → h0.get? c = some o → h.get? c = some o
/-- one iterator moves on -/
theorem Mid.draw {ss : List Sd} {xss : List (Array Value)} {k : Nat} {z TI TO : Addr} {h0 h h1 : Heap} {xs : List Value} {j : Nat} {sd : Sd} (D : Aps ss z TI TO) (M : Mid ss xss k z TI TO h0 xs j h) (hj : ss[j]? = some sd) (hs : Heap.SameBut sd.it h h1) (hi : ItS sd.b h1 sd.it sd.l (k + 1)) :
    ∃ vs : List Value, IsTup h1 TO vs.toArray ∧ vs.length = ss.length ∧ (∀ i, i < j → vs[i]? = xs[i]?) ∧ ∀ h2 x, xs[j]? = some x → Heap.SameBut TO h1 h2 → IsTup h2 TO (vs.set j x).toArray → Mid ss xss k z TI TO h0 xs (j + 1) h2 := by
  have hm := List.mem_of_getElem? hj
  have d := D.it sd hm
  obtain ⟨vs, h2, h3, h4⟩ := M.to
  refine ⟨vs, hs.extBut _ _ d.2.2.symm h2, h3, h4, fun h2' x hx hs2 ht => ⟨?_, ?_, ⟨vs.set j x, ht, by rw [List.length_set]; exact h3, fun i hi => ?_⟩, fun i s e => ?_, fun i s v e ev => ?_, ?_, fun c o c1 c2 c3 e => ?_⟩⟩
  · exact hs2.extBut _ _ D.TOz.symm (hs.extBut _ _ d.1.symm M.zz)
  · exact hs2.extBut _ _ D.IO (hs.extBut _ _ d.2.1.symm M.ti)
  · by_cases e : i = j
    · subst e
      rw [List.getElem?_set_self (by rw [h3]; exact lt_of_get hj), hx]
    · rw [List.getElem?_set_ne (Ne.symm e)]
      exact h4 i (by omega)
  · have hms := List.mem_of_getElem? e
    by_cases q : i = j
    · subst q
      rw [hj] at e
      cases e
      rw [if_pos (Nat.lt_succ_self _)]
      exact hi.extBut hs2.extBut d.2.2
    · have := (M.its i s e)
      have e2 : (if i < j + 1 then k + 1 else k) = (if i < j then k + 1 else k) := by
        by_cases q2 : i < j
        · rw [if_pos q2, if_pos (by omega)]
        · rw [if_neg q2, if_neg (by omega)]
      rw [e2]
      exact (this.extBut hs.extBut (D.nd i j s sd e hj q)).extBut hs2.extBut (D.it s hms).2.2
  · have hms := List.mem_of_getElem? e
    exact ((M.ls i s v e ev).extBut hs.extBut ((D.l s hms).2.2 sd hm)).extBut hs2.extBut (D.l s hms).2.1
  · rw [hs2.1, hs.1]
    exact M.sz
  · exact hs2.extBut _ _ c2 (hs.extBut _ _ (c3 sd hm) (M.kept c o c1 c2 c3 e))
theorem drop_cons {α : Type} {l r : List α} {x : α} {j : Nat} (h : x :: r = l.drop j) : l[j]? = some x ∧ r = l.drop (j + 1) := by
  have hlt : j < l.length := by
    refine Decidable.byContradiction fun q => ?_
    rw [List.drop_of_length_le (by omega)] at h
    cases h
  rw [List.drop_eq_getElem_cons hlt] at h
  cases h
  exact ⟨List.getElem?_eq_getElem hlt, rfl⟩
theorem zi_get {ss : List Sd} {j : Nat} {x : Value × Nat} (h : ((ss.map fun s => Value.ref s.it).zipIdx)[j]? = some x) : ∃ sd, ss[j]? = some sd ∧ x = (.ref sd.it, j) := by
  rw [List.getElem?_zipIdx, List.getElem?_map] at h
  cases e : ss[j]? with
  | none => rw [e] at h; cases h
  | some sd =>
    rw [e] at h
    cases h
    exact ⟨sd, rfl, by simp⟩
theorem zip_next_item {ss : List Sd} {xss : List (Array Value)} {xs : List Value} {k : Nat} {z TI TO : Addr} {v0 : List Value} {Q : Value → Shared → Prop} (D : Aps ss z TI TO) (h0 : ss ≠ []) (hn : ss.length ≤ 100)
    (hz : IsZip s.heap z TI TO .none) (hTI : IsTup s.heap TI (ss.map fun s => Value.ref s.it).toArray) (hTO : IsTup s.heap TO v0.toArray) (hv0 : v0.length = ss.length)
    (hit : ∀ (i : Nat) (sd : Sd), ss[i]? = some sd → ItS sd.b s.heap sd.it sd.l k) (hls : ∀ (i : Nat) (sd : Sd) (vs : Array Value), ss[i]? = some sd → xss[i]? = some vs → SqS sd.b s.heap sd.l vs)
    (hlen : xs.length = ss.length) (hx : ∀ (i : Nat) (x : Value), xs[i]? = some x → ∃ vs, xss[i]? = some vs ∧ vs[k]? = some x)
    (hQ : ∀ h', IsZip h' z TI TO (rawInt s.heap.objs.size) → (∃ vs : List Value, IsTup h' TO vs.toArray ∧ vs.length = ss.length) → (∀ (i : Nat) (sd : Sd), ss[i]? = some sd → ItS sd.b h' sd.it sd.l (k + 1)) → IsTup h' s.heap.objs.size xs.toArray → h'.objs.size = s.heap.objs.size + 1 →
      (∀ c o, c ≠ z → c ≠ TO → (∀ sd ∈ ss, c ≠ sd.it) → s.heap.get? c = some o → h'.get? c = some o) → Q (.ref s.heap.objs.size) { s with heap := h' }) :
    wpAny (model prog w) A (Builtin.«zip.__next__» ⟨[.ref z], []⟩) (fun fin s' => ∃ v, fin = .done (.ret v) ∧ Q v s') E s := by
  show wpAny _ _ (field (.ref z) 2 >>= _) _ _ _
  refine wpAny_bind (wpAny_field hz rfl (x := .bool false) rfl ?_)
  show wpAny _ _ (field (.ref z) 3 >>= _) _ _ _
  refine wpAny_bind (wpAny_field hz rfl (x := .ref TI) rfl ?_)
  refine wpAny_bind (wpAny_seqItems hTI rfl ?_)
  have hne : ((ss.map fun s => Value.ref s.it).toArray.isEmpty) = false := by
    cases ss with
    | nil => exact absurd rfl h0
    | cons a r => rfl
  show wpAny _ _ (if ((ss.map fun s => Value.ref s.it).toArray.isEmpty) = true then _ else _) _ _ _
  rw [hne, if_neg Bool.false_ne_true]
  show wpAny _ _ (Builtin.SmallTypes.ownedTupleIsFree (.ref z) >>= _) _ _ _
  refine wpAny_bind ?_
  unfold Builtin.SmallTypes.ownedTupleIsFree
  refine wpAny_bind (wpAny_field hz rfl (x := .none) rfl (wpAny_pure ?_))
  simp only [if_true]
  refine wpAny_bind (wpAny_rule ?_)
  refine wpAny_bind (wpAny_field hz rfl (x := .ref TO) rfl ?_)
  refine wpAny_bind (wpAny_setField_rec hz (by simp) fun h₁ hz₁ hs₁ => ?_)
  replace hz₁ : IsZip h₁ z TI TO .ellipsis := hz₁
  have M0 : Mid ss xss k z TI TO s.heap xs 0 h₁ := by
    refine ⟨hz₁, hs₁.extBut _ _ D.TIz hTI, ⟨v0, hs₁.extBut _ _ D.TOz hTO, hv0, fun i hi => absurd hi (Nat.not_lt_zero _)⟩, fun i sd e => ?_, fun i sd vs e ev => ?_, hs₁.1, fun c o c1 _ _ e => hs₁.extBut _ _ c1 e⟩
    · rw [if_neg (Nat.not_lt_zero _)]
      exact (hit i sd e).extBut hs₁.extBut (D.it sd (List.mem_of_getElem? e)).1
    · exact (hls i sd vs e ev).extBut hs₁.extBut (D.l sd (List.mem_of_getElem? e)).1
  refine wpAny_bind ?_
  refine wpAny_forIn_list _ (fun rest b st => ∃ j h, rest = ((ss.map fun s => Value.ref s.it).zipIdx.drop j) ∧ j ≤ ss.length ∧ b = (none, ()) ∧ st = { s with heap := h } ∧ Mid ss xss k z TI TO s.heap xs j h) _ (fun x rest b st hI => ?_) (fun b st hI => ?_) _ _ ⟨0, h₁, by simp, Nat.zero_le _, rfl, rfl, M0⟩
  · obtain ⟨j, h, er, hj, rfl, rfl, M⟩ := hI
    obtain ⟨e1, rfl⟩ := drop_cons er
    obtain ⟨sd, hsd, rfl⟩ := zi_get e1
    have hjl := lt_of_get hsd
    obtain ⟨x, ex⟩ : ∃ x, xs[j]? = some x := ⟨xs[j], List.getElem?_eq_getElem (by omega)⟩
    obtain ⟨vs, ev, ek⟩ := hx j x ex
    refine wpAny_bind (wpAny_onRaise ?_)
    show wpAny _ _ (Builtin.SmallTypes.nextOf (.ref sd.it) >>= _) _ _ _
    have hi := M.its j sd hsd
    rw [if_neg (Nat.lt_irrefl _)] at hi
    refine wpAny_bind (next_item (s := { s with heap := h }) hi (M.ls j sd vs hsd ev) ek fun h1 hi1 hs1 => wpAny_pure ?_)
    obtain ⟨ws, w1, w2, w3, w4⟩ := M.draw D hsd hs1 hi1
    refine wpAny_bind (wpAny_seqItems (s := { s with heap := h1 }) w1 rfl ?_)
    refine wpAny_bind (upd_tup (s := { s with heap := h1 }) w1 (by rw [List.size_toArray, w2]; exact hn) fun h2 t2 hs2 => ?_)
    refine wpAny_bind (wpAny_letGo (wpAny_pure ⟨j + 1, h2, rfl, hjl, rfl, rfl, w4 h2 x ex hs2 ?_⟩))
    rw [List.setIfInBounds_toArray] at t2
    exact t2
  · obtain ⟨j, h, er, hj, rfl, rfl, M⟩ := hI
    have ej : j = ss.length := by
      refine Nat.le_antisymm hj (Nat.le_of_not_lt fun q => ?_)
      have := congrArg List.length er
      rw [List.length_drop, List.length_zipIdx, List.length_map, List.length_nil] at this
      omega
    subst ej
    obtain ⟨vs, t1, t2, t3⟩ := M.to
    have evs : vs = xs := by
      refine List.ext_getElem? fun i => ?_
      by_cases q : i < ss.length
      · exact t3 i q
      · rw [List.getElem?_eq_none (by omega), List.getElem?_eq_none (by omega)]
    subst evs
    refine wpAny_bind (wpAny_seqItems (s := { s with heap := h }) t1 rfl ?_)
    refine wpAny_bind (wpAny_newTuple (s := { s with heap := h }) ?_ (by show vs.toArray.toList.length ≤ _; simp only [List.toList_toArray]; rw [t2]; exact Nat.le_trans hn (by decide)))
    have hzlt : z < h.objs.size := Heap.lt_size M.zz
    refine wpAny_bind ?_
    unfold Builtin.SmallTypes.ownedTupleHandOut
    have hz6 : IsZip (h.push { cls := .type "tuple", data := .seq vs.toArray }) z TI TO .ellipsis := Heap.get?_push_of_some _ M.zz
    refine wpAny_bind (wpAny_setField_rec hz6 (by simp) fun h7 hz7 hs7 => ?_)
    replace hz7 : IsZip h7 z TI TO (rawInt h.objs.size) := hz7
    refine wpAny_setField_rec hz7 (by simp) fun h8 hz8 hs8 => ?_
    replace hz8 : IsZip h8 z TI TO (rawInt h.objs.size) := hz8
    have up : ∀ c o, c ≠ z → h.get? c = some o → h8.get? c = some o := fun c o c1 e => hs8.extBut _ _ c1 (hs7.extBut _ _ c1 (Heap.get?_push_of_some _ e))
    have hT : IsTup h8 h.objs.size vs.toArray := hs8.extBut _ _ (Nat.ne_of_gt hzlt) (hs7.extBut _ _ (Nat.ne_of_gt hzlt) (Heap.get?_push_size _ rfl))
    have hsz : h8.objs.size = h.objs.size + 1 := by rw [hs8.1, hs7.1, Heap.size_push]
    rw [M.sz] at hz8 hT hsz
    refine wpAny_pure ⟨_, rfl, ?_⟩
    show Q (.ref h.objs.size) _
    rw [M.sz]
    refine hQ h8 hz8 ⟨vs, up _ _ D.TOz t1, t2⟩ (fun i sd e => ?_) hT hsz fun c o c1 c2 c3 e => up c o c1 (M.kept c o c1 c2 c3 e)
    have := M.its i sd e
    rw [if_pos (lt_of_get e)] at this
    exact this.at fun o q => up _ o (D.it sd (List.mem_of_getElem? e)).1 q
end
end LB
set_option Elab.async false
set_option linter.all false
set_option autoImplicit false
set_option maxRecDepth 100000
set_option maxHeartbeats 4000000
namespace LB
open PySem PySem.Spec PyProof.Rows L2
section
variable {prog : Program} {w : World} {A : Around} {E : Value → Shared → Prop} {s : Shared}
theorem zip_next_end {ss : List Sd} {xss : List (Array Value)} {k m : Nat} {z TI TO : Addr} {v0 : List Value} {Q : PySem.Fin → Shared → Prop} (hh : A.handled = none) (D : Aps ss z TI TO) (hn : ss.length ≤ 100)
    (hz : IsZip s.heap z TI TO .none) (hTI : IsTup s.heap TI (ss.map fun s => Value.ref s.it).toArray) (hTO : IsTup s.heap TO v0.toArray) (hv0 : v0.length = ss.length)
    (hit : ∀ (i : Nat) (sd : Sd), ss[i]? = some sd → ItS sd.b s.heap sd.it sd.l k) (hls : ∀ (i : Nat) (sd : Sd) (vs : Array Value), ss[i]? = some sd → xss[i]? = some vs → SqS sd.b s.heap sd.l vs)
    (hm : m < ss.length) (hxm : ∃ vs, xss[m]? = some vs ∧ vs[k]? = none) (hx : ∀ i, i < m → ∃ vs x, xss[i]? = some vs ∧ vs[k]? = some x)
    (hE : ∀ h' e, (∀ c o, c ≠ z → c ≠ TO → (∀ sd ∈ ss, c ≠ sd.it) → s.heap.get? c = some o → h'.get? c = some o) → (∃ o, h'.get? e = some o ∧ o.cls = .type "StopIteration") → E (.ref e) { s with heap := h' }) :
    wpAny (model prog w) A (Builtin.«zip.__next__» ⟨[.ref z], []⟩) Q E s := by
  show wpAny _ _ (field (.ref z) 2 >>= _) _ _ _
  refine wpAny_bind (wpAny_field hz rfl (x := .bool false) rfl ?_)
  show wpAny _ _ (field (.ref z) 3 >>= _) _ _ _
  refine wpAny_bind (wpAny_field hz rfl (x := .ref TI) rfl ?_)
  refine wpAny_bind (wpAny_seqItems hTI rfl ?_)
  have hne : ((ss.map fun s => Value.ref s.it).toArray.isEmpty) = false := by
    cases ss with
    | nil => exact absurd hm (Nat.not_lt_zero _)
    | cons a r => rfl
  show wpAny _ _ (if ((ss.map fun s => Value.ref s.it).toArray.isEmpty) = true then _ else _) _ _ _
  rw [hne, if_neg Bool.false_ne_true]
  show wpAny _ _ (Builtin.SmallTypes.ownedTupleIsFree (.ref z) >>= _) _ _ _
  refine wpAny_bind ?_
  unfold Builtin.SmallTypes.ownedTupleIsFree
  refine wpAny_bind (wpAny_field hz rfl (x := .none) rfl (wpAny_pure ?_))
  simp only [if_true]
  refine wpAny_bind (wpAny_rule ?_)
  refine wpAny_bind (wpAny_field hz rfl (x := .ref TO) rfl ?_)
  refine wpAny_bind (wpAny_setField_rec hz (by simp) fun h₁ hz₁ hs₁ => ?_)
  replace hz₁ : IsZip h₁ z TI TO .ellipsis := hz₁
  let xs : List Value := xss.map fun vs => vs[k]?.getD .none
  have M0 : Mid ss xss k z TI TO s.heap xs 0 h₁ := by
    refine ⟨hz₁, hs₁.extBut _ _ D.TIz hTI, ⟨v0, hs₁.extBut _ _ D.TOz hTO, hv0, fun i hi => absurd hi (Nat.not_lt_zero _)⟩, fun i sd e => ?_, fun i sd vs e ev => ?_, hs₁.1, fun c o c1 _ _ e => hs₁.extBut _ _ c1 e⟩
    · rw [if_neg (Nat.not_lt_zero _)]
      exact (hit i sd e).extBut hs₁.extBut (D.it sd (List.mem_of_getElem? e)).1
    · exact (hls i sd vs e ev).extBut hs₁.extBut (D.l sd (List.mem_of_getElem? e)).1
  refine wpAny_bind ?_
  refine wpAny_forIn_list _ (fun rest b st => ∃ j h, rest = ((ss.map fun s => Value.ref s.it).zipIdx.drop j) ∧ j ≤ m ∧ b = (none, ()) ∧ st = { s with heap := h } ∧ Mid ss xss k z TI TO s.heap xs j h) _ (fun x rest b st hI => ?_) (fun b st hI => ?_) _ _ ⟨0, h₁, by simp, Nat.zero_le _, rfl, rfl, M0⟩
  · obtain ⟨j, h, er, hj, rfl, rfl, M⟩ := hI
    obtain ⟨e1, rfl⟩ := drop_cons er
    obtain ⟨sd, hsd, rfl⟩ := zi_get e1
    have hd := D.it sd (List.mem_of_getElem? hsd)
    refine wpAny_bind (wpAny_onRaise ?_)
    show wpAny _ _ (Builtin.SmallTypes.nextOf (.ref sd.it) >>= _) _ _ _
    have hi := M.its j sd hsd
    rw [if_neg (Nat.lt_irrefl _)] at hi
    by_cases q : j = m
    · subst q
      obtain ⟨vs, ev, ek⟩ := hxm
      refine wpAny_bind (next_end (s := { s with heap := h }) hh hi (M.ls j sd vs hsd ev) ek fun h2 e hs2 he => ?_)
      obtain ⟨oe, hoe, hce⟩ := he
      have hz2 : IsZip h2 z TI TO .ellipsis := hs2 _ _ hd.1.symm M.zz
      have hez : e ≠ z := fun x => by subst x; rw [hz2] at hoe; cases hoe; simp at hce
      exact wpAny_setField_rec (s := { s with heap := h2 }) hz2 (by simp) fun h3 _ hs3 => hE h3 e (fun c o c1 c2 c3 x => hs3.extBut _ _ c1 (hs2 _ _ (c3 sd (List.mem_of_getElem? hsd)) (M.kept c o c1 c2 c3 x))) ⟨oe, hs3.extBut _ _ hez hoe, hce⟩
    · obtain ⟨vs, x, ev, ek⟩ := hx j (by omega)
      have ex : xs[j]? = some x := by
        show (xss.map _)[j]? = _
        rw [List.getElem?_map, ev]
        show some (vs[k]?.getD .none) = _
        rw [ek] <;> rfl
      refine wpAny_bind (next_item (s := { s with heap := h }) hi (M.ls j sd vs hsd ev) ek fun h1 hi1 hs1 => wpAny_pure ?_)
      obtain ⟨ws, w1, w2, w3, w4⟩ := M.draw D hsd hs1 hi1
      refine wpAny_bind (wpAny_seqItems (s := { s with heap := h1 }) w1 rfl ?_)
      refine wpAny_bind (upd_tup (s := { s with heap := h1 }) w1 (by rw [List.size_toArray, w2]; exact hn) fun h2 t2 hs2 => ?_)
      refine wpAny_bind (wpAny_letGo (wpAny_pure ⟨j + 1, h2, rfl, by omega, rfl, rfl, w4 h2 x ex hs2 ?_⟩))
      rw [List.setIfInBounds_toArray] at t2
      exact t2
  · obtain ⟨j, h, er, hj, rfl, rfl, M⟩ := hI
    have := congrArg List.length er
    rw [List.length_drop, List.length_zipIdx, List.length_map, List.length_nil] at this
    omega
/-- one turn of a zip -/
theorem pyNext_zip_item {ss : List Sd} {xss : List (Array Value)} {xs : List Value} {k : Nat} {z TI TO : Addr} {v0 : List Value} {Q : Option Value → Shared → Prop} (D : Aps ss z TI TO) (h0 : ss ≠ []) (hn : ss.length ≤ 100)
    (hz : IsZip s.heap z TI TO .none) (hTI : IsTup s.heap TI (ss.map fun s => Value.ref s.it).toArray) (hTO : IsTup s.heap TO v0.toArray) (hv0 : v0.length = ss.length)
    (hit : ∀ (i : Nat) (sd : Sd), ss[i]? = some sd → ItS sd.b s.heap sd.it sd.l k) (hls : ∀ (i : Nat) (sd : Sd) (vs : Array Value), ss[i]? = some sd → xss[i]? = some vs → SqS sd.b s.heap sd.l vs)
    (hlen : xs.length = ss.length) (hx : ∀ (i : Nat) (x : Value), xs[i]? = some x → ∃ vs, xss[i]? = some vs ∧ vs[k]? = some x)
    (hQ : ∀ h', IsZip h' z TI TO (rawInt s.heap.objs.size) → (∃ vs : List Value, IsTup h' TO vs.toArray ∧ vs.length = ss.length) → (∀ (i : Nat) (sd : Sd), ss[i]? = some sd → ItS sd.b h' sd.it sd.l (k + 1)) → IsTup h' s.heap.objs.size xs.toArray → h'.objs.size = s.heap.objs.size + 1 →
      (∀ c o, c ≠ z → c ≠ TO → (∀ sd ∈ ss, c ≠ sd.it) → s.heap.get? c = some o → h'.get? c = some o) → Q (some (.ref s.heap.objs.size)) { s with heap := h' }) : wpAny (model prog w) A (pyNext (.ref z)) Q E s := by
  have hT : s.TypeIs (.ref z) "zip" := ⟨_, hz, rfl⟩
  unfold pyNext
  exact wpAny_bind (wpAny_attempt (wpAny_callSpecial?_slot (name := Str.ofString "__next__") hT F.slot_zip_next
    (wpAny_call_entry F.slot_zip_next hT F.entry_zip_next
      (zip_next_item D h0 hn hz hTI hTO hv0 hit hls hlen hx fun h' a1 a2 a3 a4 a5 a6 => wpAny_pure (hQ h' a1 a2 a3 a4 a5 a6)) (F.args_zip_next_1 _))))
theorem pyNext_zip_end {ss : List Sd} {xss : List (Array Value)} {k m : Nat} {z TI TO : Addr} {v0 : List Value} {Q : Option Value → Shared → Prop} (hh : A.handled = none) (D : Aps ss z TI TO) (hn : ss.length ≤ 100)
    (hz : IsZip s.heap z TI TO .none) (hTI : IsTup s.heap TI (ss.map fun s => Value.ref s.it).toArray) (hTO : IsTup s.heap TO v0.toArray) (hv0 : v0.length = ss.length)
    (hit : ∀ (i : Nat) (sd : Sd), ss[i]? = some sd → ItS sd.b s.heap sd.it sd.l k) (hls : ∀ (i : Nat) (sd : Sd) (vs : Array Value), ss[i]? = some sd → xss[i]? = some vs → SqS sd.b s.heap sd.l vs)
    (hm : m < ss.length) (hxm : ∃ vs, xss[m]? = some vs ∧ vs[k]? = none) (hx : ∀ i, i < m → ∃ vs x, xss[i]? = some vs ∧ vs[k]? = some x)
    (hQ : ∀ h', (∀ c o, c ≠ z → c ≠ TO → (∀ sd ∈ ss, c ≠ sd.it) → s.heap.get? c = some o → h'.get? c = some o) → Q none { s with heap := h' }) : wpAny (model prog w) A (pyNext (.ref z)) Q E s := by
  have hT : s.TypeIs (.ref z) "zip" := ⟨_, hz, rfl⟩
  unfold pyNext
  refine wpAny_bind (wpAny_attempt (wpAny_callSpecial?_slot (name := Str.ofString "__next__") hT F.slot_zip_next
    (wpAny_call_entry F.slot_zip_next hT F.entry_zip_next (zip_next_end hh D hn hz hTI hTO hv0 hit hls hm hxm hx fun h' e hk he => ?_) (F.args_zip_next_1 _))))
  obtain ⟨o, ho, hc⟩ := he
  refine wpAny_bind (wpAny_isInstance (T := "StopIteration") (b := true) ⟨o, ho, hc⟩ isSubtype_stop ?_)
  exact wpAny_pure (hQ _ hk)
end
end LB
set_option Elab.async false
set_option linter.all false
set_option autoImplicit false
set_option maxRecDepth 100000
set_option maxHeartbeats 4000000
namespace LB
open PySem PySem.Spec PyProof.Rows L2
def SqB (K : PySem.W.Frag) (H : Hp) (b : Bool) (a : Addr) (xs : List V) : Prop := match b with | true => SqT K H a xs | false => SqL K H a xs
/-- what stands at each turn, the items in new tuples -/
def ItzN (K : PySem.W.Frag) (ss : List (Bool × Addr)) : It :=
  ⟨fun i H => ∀ p ∈ ss, ∃ xs x, SqB K H p.1 p.2 xs ∧ xs[i]? = some x,
    fun i H v H' => ∃ T ys, v = .ref T ∧ H T = none ∧ H' = upd H T (.tup ys) ∧ ys.length = ss.length ∧ ∀ (j : Nat) p xs, ss[j]? = some p → SqB K H p.1 p.2 xs → ys[j]? = xs[i]?,
    fun i H => (∀ p ∈ ss, ∃ xs, SqB K H p.1 p.2 xs) ∧ ∃ p ∈ ss, ∃ xs, SqB K H p.1 p.2 xs ∧ xs.length ≤ i⟩
theorem choose_list {α β : Type} {P : α → β → Prop} : ∀ {l : List α}, (∀ x ∈ l, ∃ y, P x y) → ∃ r : List β, r.length = l.length ∧ ∀ (i : Nat) x y, l[i]? = some x → r[i]? = some y → P x y
  | [], _ => ⟨[], rfl, fun i x y h => by cases h⟩
  | x :: l, h => by
    obtain ⟨y, hy⟩ := h x List.mem_cons_self
    obtain ⟨r, h1, h2⟩ := choose_list (l := l) fun z hz => h z (List.mem_cons_of_mem _ hz)
    refine ⟨y :: r, by simp [h1], fun i a b ha hb => ?_⟩
    cases i with
    | zero => cases ha; cases hb; exact hy
    | succ i => exact h2 i a b ha hb
section
variable {X : Cx} {pins : List (Addr × Obj)} {σ : L2.St} {H : Hp} {s : Shared}
theorem sqB_inj {b : Bool} {a : Addr} {xs ys : List V} (I : Inv X pins σ H s) (h : SqB X.K H b a xs) (k : SqB X.K H b a ys) : xs = ys := by
  cases b
  · exact I.list_inj h k
  · exact I.tuple_inj h k
theorem sqB_at {b : Bool} {a : Addr} {xs : List V} (I : Inv X pins σ H s) (h : SqB X.K H b a xs) : ∃ its : List Value, Vals xs its ∧ SqS b s.heap a its.toArray := by
  cases b
  · obtain ⟨its, rv, p, _⟩ := I.list h
    exact ⟨its, rv, p.isList⟩
  · obtain ⟨its, rv, p, _⟩ := I.tuple h
    exact ⟨its, rv, p⟩
end
theorem ap_lt {ss : List Sd} {j : Nat} {sd : Sd} {xss : List (Array Value)} (hl : xss.length = ss.length) (h : ss[j]? = some sd) : ∃ vs, xss[j]? = some vs := ⟨xss[j]'(by rw [hl]; exact lt_of_get h), List.getElem?_eq_getElem _⟩
def fpN (ss : List Sd) (z TI TO : Addr) : List Addr := z :: TI :: TO :: ss.map (·.it)
def kds (ss : List Sd) : List (Bool × Addr) := ss.map fun s => (s.b, s.l)
theorem vals_mk {us : List Value} {xs : List V} : us.length = xs.length → (∀ (i : Nat) u x, us[i]? = some u → xs[i]? = some x → RelV x u) → Vals xs us := by
  induction xs generalizing us with
  | nil =>
    intro h _
    cases us with
    | nil => exact .nil
    | cons _ _ => cases h
  | cons x xs ih =>
    intro h k
    cases us with
    | nil => cases h
    | cons u us => exact .cons (k 0 u x rfl rfl) (ih (by simpa using h) fun i u x h1 h2 => k (i + 1) u x h1 h2)
theorem turn_zipN {P : Program} {w : World} {K : PySem.W.Frag} {elts : List Expr} {kk : Nat} {tpos : Pos} {ss : List Sd} {z TI TO : Addr} (D : Aps ss z TI TO) (h0 : ss ≠ []) (hn : ss.length ≤ 100) :
    Turn P w K (.Tuple elts kk tpos) (ItzN K (kds ss)) (fpN ss z TI TO) z (fun i h => IsZip h z TI TO .none ∧ IsTup h TI (ss.map fun s => Value.ref s.it).toArray ∧ (∃ v0 : List Value, IsTup h TO v0.toArray ∧ v0.length = ss.length) ∧ ∀ (j : Nat) (sd : Sd), ss[j]? = some sd → ItS sd.b h sd.it sd.l i) where
  mem := List.mem_cons_self
  obj := fun i h st c hc => by
    obtain ⟨hz, hTI, ⟨v0, hTO, _⟩, hi⟩ := st
    rcases List.mem_cons.mp hc with rfl | hc
    · exact ⟨_, hz, fun v q => nomatch q⟩
    rcases List.mem_cons.mp hc with rfl | hc
    · exact ⟨_, hTI, fun v q => nomatch q⟩
    rcases List.mem_cons.mp hc with rfl | hc
    · exact ⟨_, hTO, fun v q => nomatch q⟩
    obtain ⟨sd, hs, rfl⟩ := List.mem_map.mp hc
    obtain ⟨j, hj⟩ := List.getElem?_of_mem hs
    exact (hi j sd hj).obj
  keep := fun i h h' st k => by
    obtain ⟨hz, hTI, ⟨v0, hTO, hv⟩, hi⟩ := st
    refine ⟨k z (by simp [fpN]) _ hz, k TI (by simp [fpN]) _ hTI, ⟨v0, k TO (by simp [fpN]) _ hTO, hv⟩, fun j sd e => (hi j sd e).at fun o q => k sd.it ?_ o q⟩
    have := List.mem_of_getElem? e
    unfold fpN
    exact List.mem_cons_of_mem _ (List.mem_cons_of_mem _ (List.mem_cons_of_mem _ (List.mem_map_of_mem this)))
  item := by
    intro X hP hw hK hc i pins s σ H E I hf st hg
    subst hP hw hK
    obtain ⟨hz, hTI, ⟨v0, hTO, hv0⟩, hi⟩ := st
    obtain ⟨R, hR, hRp⟩ := choose_list (l := ss) (β := Array Value × Value × V) (P := fun sd y => SqS sd.b s.heap sd.l y.1 ∧ y.1[i]? = some y.2.1 ∧ RelV y.2.2 y.2.1 ∧ ∀ xs, SqB X.K H sd.b sd.l xs → xs[i]? = some y.2.2) fun sd hs => by
      obtain ⟨xs, x, h1, h2⟩ := hg (sd.b, sd.l) (List.mem_map.mpr ⟨sd, hs, rfl⟩)
      obtain ⟨its, rv, p⟩ := sqB_at I h1
      obtain ⟨u, hu, ru⟩ := rv.get h2
      exact ⟨(its.toArray, u, x), p, by simpa using hu, ru, fun xs' h' => by rw [sqB_inj I h' h1]; exact h2⟩
    have hzl : z < s.heap.objs.size := Heap.lt_size hz
    have gt : ∀ (j : Nat) sd, ss[j]? = some sd → ∃ y, R[j]? = some y ∧ SqS sd.b s.heap sd.l y.1 ∧ y.1[i]? = some y.2.1 ∧ RelV y.2.2 y.2.1 ∧ ∀ xs, SqB X.K H sd.b sd.l xs → xs[i]? = some y.2.2 := fun j sd e => by
      have hlt : j < R.length := by rw [hR]; exact lt_of_get e
      exact ⟨R[j], List.getElem?_eq_getElem hlt, hRp j sd _ e (List.getElem?_eq_getElem hlt)⟩
    refine pyNext_zip_item (xss := R.map (·.1)) (xs := R.map (·.2.1)) D h0 hn hz hTI hTO hv0 hi (fun j sd vs e ev => ?_) (by rw [List.length_map]; exact hR) (fun j x e => ?_) fun h' z' TO' hi' hT hsz hk => ?_
    · obtain ⟨y, ey, h1, _⟩ := gt j sd e
      rw [List.getElem?_map, ey] at ev
      cases ev
      exact h1
    · rw [List.getElem?_map] at e
      cases ey : R[j]? with
      | none => rw [ey] at e; cases e
      | some y =>
        rw [ey] at e
        cases e
        have hlt : j < ss.length := by rw [← hR]; exact lt_of_get ey
        obtain ⟨y', ey', _, h2, _⟩ := gt j ss[j] (List.getElem?_eq_getElem hlt)
        rw [ey] at ey'
        cases ey'
        exact ⟨y.1, by rw [List.getElem?_map, ey] <;> rfl, h2⟩
    refine ⟨_, rfl, wpAny_letOwnedTupleGo_zip (s := { s with heap := h' }) z' fun h'' z'' sb => ?_⟩
    have hT2 : h''.get? s.heap.objs.size = some { cls := .type "tuple", data := .seq (R.map (·.2.1)).toArray } := (sb.2 _ (Nat.ne_of_gt hzl)).trans hT
    have rv : Vals (R.map (·.2.2)) (R.map (·.2.1)) := vals_mk (by simp) fun j u x h1 h2 => by
      rw [List.getElem?_map] at h1 h2
      cases ey : R[j]? with
      | none => rw [ey] at h1; cases h1
      | some y =>
        rw [ey] at h1 h2
        cases h1
        cases h2
        have hlt : j < ss.length := by rw [← hR]; exact lt_of_get ey
        obtain ⟨y', ey', _, _, h3, _⟩ := gt j ss[j] (List.getElem?_eq_getElem hlt)
        rw [ey] at ey'
        cases ey'
        exact h3
    have new : ObjOk X.prog X.w (upd H s.heap.objs.size (.tup (R.map (·.2.2)))) h'' s.heap.objs.size (.tup (R.map (·.2.2))) :=
      ⟨by rw [List.length_map, hR]; exact Nat.le_trans hn (by decide), R.map (·.2.1), rv, ⟨_, hT2, rfl, _, rfl⟩⟩
    have mem3 : ∀ c, c ∉ fpN ss z TI TO → c ≠ z ∧ c ≠ TO ∧ ∀ sd ∈ ss, c ≠ sd.it := fun c hc => ⟨fun e => hc (by simp [fpN, e]), fun e => hc (by simp [fpN, e]), fun sd hs e => hc (by
      subst e
      unfold fpN
      exact List.mem_cons_of_mem _ (List.mem_cons_of_mem _ (List.mem_cons_of_mem _ (List.mem_map_of_mem hs))))⟩
    have I1 : Inv X pins σ (upd H s.heap.objs.size (.tup (R.map (·.2.2)))) { s with heap := h'' } :=
      I.turnedNew (t' := s.toks) (ch := fpN ss z TI TO) (fun c o hb q => (sb.2 c (mem3 c hb).1).trans (hk c o (mem3 c hb).1 (mem3 c hb).2.1 (mem3 c hb).2.2 q)) hf (Nat.le_refl _) new
    refine ⟨.ref s.heap.objs.size, _, I1, rfl, ⟨_, R.map (·.2.2), rfl, I.hok.fresh (Nat.le_refl _), rfl, by simp [kds, hR], fun j p xs e hq => ?_⟩, ⟨z'', ?_, ?_, fun j sd e => ?_⟩, fun c hcm => ?_⟩
    · unfold kds at e
      rw [List.getElem?_map] at e
      cases es : ss[j]? with
      | none => rw [es] at e; cases e
      | some sd =>
        rw [es] at e
        cases e
        obtain ⟨y, ey, _, _, _, h4⟩ := gt j sd es
        rw [List.getElem?_map, ey, h4 xs hq] <;> rfl
    · exact (sb.2 _ D.TIz).trans (hk _ _ D.TIz D.IO (fun sd hs => (D.it sd hs).2.1.symm) hTI)
    · obtain ⟨vs, h1, h2⟩ := TO'
      exact ⟨vs, (sb.2 _ D.TOz).trans h1, h2⟩
    · exact (hi' j sd e).at fun o q => (sb.2 _ (D.it sd (List.mem_of_getElem? e)).1).trans q
    · have hlt : c < s.heap.objs.size := by
        rcases List.mem_cons.mp hcm with rfl | hcm
        · exact hzl
        rcases List.mem_cons.mp hcm with rfl | hcm
        · exact Heap.lt_size hTI
        rcases List.mem_cons.mp hcm with rfl | hcm
        · exact Heap.lt_size hTO
        obtain ⟨sd, hs, rfl⟩ := List.mem_map.mp hcm
        obtain ⟨j, hj⟩ := List.getElem?_of_mem hs
        obtain ⟨o, ho, _⟩ := (hi j sd hj).obj
        exact Heap.lt_size ho
      rw [upd_ne (Nat.ne_of_lt hlt)]
      exact (hf c hcm).1
  done := by
    intro X hP hw hK hc i pins s σ H E I hf st hg
    subst hP hw hK
    obtain ⟨hz, hTI, ⟨v0, hTO, hv0⟩, hi⟩ := st
    obtain ⟨hall, p0, hp0, xs0, hq0, hle0⟩ := hg
    obtain ⟨R, hR, hRp⟩ := choose_list (l := ss) (β := Array Value) (P := fun sd y => SqS sd.b s.heap sd.l y ∧ ∃ xs, SqB X.K H sd.b sd.l xs ∧ y.size = xs.length) fun sd hs => by
      obtain ⟨xs, h1⟩ := hall (sd.b, sd.l) (List.mem_map.mpr ⟨sd, hs, rfl⟩)
      obtain ⟨its, rv, p⟩ := sqB_at I h1
      exact ⟨its.toArray, p, xs, h1, by rw [List.size_toArray]; exact rv.length.symm⟩
    obtain ⟨sd0, hs0, e0⟩ := List.mem_map.mp hp0
    obtain ⟨m0, hm0⟩ := List.getElem?_of_mem hs0
    have gt : ∀ (j : Nat) sd, ss[j]? = some sd → ∃ y, R[j]? = some y ∧ SqS sd.b s.heap sd.l y ∧ ∃ xs, SqB X.K H sd.b sd.l xs ∧ y.size = xs.length := fun j sd e => by
      have hlt : j < R.length := by rw [hR]; exact lt_of_get e
      exact ⟨R[j], List.getElem?_eq_getElem hlt, hRp j sd _ e (List.getElem?_eq_getElem hlt)⟩
    have stop : ∃ m, m < ss.length ∧ (∃ y, R[m]? = some y ∧ y.size ≤ i) ∧ ∀ j, j < m → ∃ y, R[j]? = some y ∧ i < y.size := by
      have ex : ∃ m, m < ss.length ∧ ∃ y, R[m]? = some y ∧ y.size ≤ i := by
        obtain ⟨y, ey, _, xs, h1, h2⟩ := gt m0 sd0 hm0
        refine ⟨m0, lt_of_get hm0, y, ey, ?_⟩
        subst e0
        rw [sqB_inj I h1 hq0] at h2
        omega
      obtain ⟨m, hm⟩ := ex
      induction m using Nat.strongRecOn with
      | _ m ih =>
        by_cases q : ∃ j, j < m ∧ ∃ y, R[j]? = some y ∧ y.size ≤ i
        · obtain ⟨j, hj, y, ey, hy⟩ := q
          exact ih j hj ⟨by omega, y, ey, hy⟩
        · refine ⟨m, hm.1, hm.2, fun j hj => ?_⟩
          have hlt : j < R.length := by rw [hR]; omega
          refine ⟨R[j], List.getElem?_eq_getElem hlt, Nat.lt_of_not_le fun z => q ⟨j, hj, _, List.getElem?_eq_getElem hlt, z⟩⟩
    obtain ⟨m, hm, ⟨y, ey, hy⟩, hlt⟩ := stop
    refine pyNext_zip_end (xss := R) (m := m) (I.ok.hd hc) D hn hz hTI hTO hv0 hi (fun j sd vs e ev => ?_) hm ⟨y, ey, by rw [Array.getElem?_eq_none (by omega)]⟩ (fun j hj => ?_) fun h' hk => ⟨rfl, I.turnedL (t' := s.toks) (ch := fpN ss z TI TO) (fun c o hb q => hk c o (fun e => hb (by simp [fpN, e])) (fun e => hb (by simp [fpN, e])) (fun sd hs e => hb (by
      subst e
      unfold fpN
      exact List.mem_cons_of_mem _ (List.mem_cons_of_mem _ (List.mem_cons_of_mem _ (List.mem_map_of_mem hs))))) q) hf⟩
    · obtain ⟨y', ey', h1, _⟩ := gt j sd e
      rw [ev] at ey'
      cases ey'
      exact h1
    · obtain ⟨y', ey', h1⟩ := hlt j hj
      exact ⟨y', y'[i], ey', Array.getElem?_eq_getElem h1⟩
  self := fun A i s Q E st h => wpAny_pyIter_zip st.1 h
end LB
set_option Elab.async false
set_option linter.all false
set_option autoImplicit false
set_option maxRecDepth 100000
set_option maxHeartbeats 4000000
namespace LB
open PySem PySem.Spec PyProof.Rows L2
abbrev itO (b : Bool) (l : Addr) : Obj := { cls := .type (itN b), data := .fields #[.ref l, .int 0 0] }
theorem iter_ok {prog : Program} {w : World} {A : Around} {E : Value → Shared → Prop} {s : Shared} {b : Bool} {l : Addr} {xs : Array Value} {Q : Value → Shared → Prop} (hl : SqS b s.heap l xs) (hQ : Q (.ref s.heap.objs.size) { s with heap := s.heap.push (itO b l) }) : wpAny (model prog w) A (pyIter (.ref l)) Q E s := by
  cases b
  · exact wpAny_pyIter_list hl hQ
  · exact wpAny_pyIter_tuple hl hQ
theorem SqS.push {b : Bool} {h : Heap} {l : Addr} {xs : Array Value} (x : SqS b h l xs) (o : Obj) : SqS b (h.push o) l xs := by
  cases b
  · exact Heap.IsList.push x o
  · exact Heap.IsTuple.push x o
abbrev zp1 (h : Heap) (b1 : Bool) (l1 : Addr) : Heap := h.push (itO b1 l1)
abbrev zp2 (h : Heap) (b1 b2 : Bool) (l1 l2 : Addr) : Heap := (zp1 h b1 l1).push (itO b2 l2)
abbrev zp3 (h : Heap) (b1 b2 : Bool) (l1 l2 : Addr) : Heap := (zp2 h b1 b2 l1 l2).push { cls := .type "tuple", data := .seq #[.ref h.objs.size, .ref (zp1 h b1 l1).objs.size] }
abbrev zp4 (h : Heap) (b1 b2 : Bool) (l1 l2 : Addr) : Heap := (zp3 h b1 b2 l1 l2).push { cls := .type "tuple", data := .seq #[.none, .none] }
abbrev zp5 (h : Heap) (b1 b2 : Bool) (l1 l2 : Addr) : Heap := (zp4 h b1 b2 l1 l2).push { cls := .type "zip", data := .fields #[.none, .bool false, .bool false, .ref (zp2 h b1 b2 l1 l2).objs.size, .ref (zp3 h b1 b2 l1 l2).objs.size] }
theorem zip2_new (b1 b2 : Bool) (l1 l2 : Addr) (xs ys : Array Value) :
    Meets (Builtin.«zip.__new__» ⟨[.type "zip", .ref l1, .ref l2], []⟩) (fun _ R s => SqS b1 s.heap l1 xs ∧ SqS b2 s.heap l2 ys ∧
      R (.ok (.ret (.ref (zp4 s.heap b1 b2 l1 l2).objs.size))) { s with heap := zp5 s.heap b1 b2 l1 l2 }) :=
  .of_wp fun prog w A R s h => by
    obtain ⟨hp, g, d, tk, os⟩ := s; obtain ⟨hl1, hl2, h⟩ := h
    have hsub := sub_zip
    have hL1 : SqS b1 (Shared.heap ⟨hp, g, d, tk, os⟩) l1 xs := hl1
    have hL2 : SqS b2 (Shared.heap ⟨hp.push (itO b1 l1), g, d, tk, os⟩) l2 ys := SqS.push hl2 _
    wp_walk using iter_ok hL1, iter_ok hL2
    exact ⟨_, rfl, h⟩
abbrev zq3 (h : Heap) (b1 b2 b3 : Bool) (l1 l2 l3 : Addr) : Heap := (zp2 h b1 b2 l1 l2).push (itO b3 l3)
abbrev zq4 (h : Heap) (b1 b2 b3 : Bool) (l1 l2 l3 : Addr) : Heap := (zq3 h b1 b2 b3 l1 l2 l3).push { cls := .type "tuple", data := .seq #[.ref h.objs.size, .ref (zp1 h b1 l1).objs.size, .ref (zp2 h b1 b2 l1 l2).objs.size] }
abbrev zq5 (h : Heap) (b1 b2 b3 : Bool) (l1 l2 l3 : Addr) : Heap := (zq4 h b1 b2 b3 l1 l2 l3).push { cls := .type "tuple", data := .seq #[.none, .none, .none] }
abbrev zq6 (h : Heap) (b1 b2 b3 : Bool) (l1 l2 l3 : Addr) : Heap := (zq5 h b1 b2 b3 l1 l2 l3).push { cls := .type "zip", data := .fields #[.none, .bool false, .bool false, .ref (zq3 h b1 b2 b3 l1 l2 l3).objs.size, .ref (zq4 h b1 b2 b3 l1 l2 l3).objs.size] }
theorem zip3_new (b1 b2 b3 : Bool) (l1 l2 l3 : Addr) (xs ys zs : Array Value) :
    Meets (Builtin.«zip.__new__» ⟨[.type "zip", .ref l1, .ref l2, .ref l3], []⟩) (fun _ R s => SqS b1 s.heap l1 xs ∧ SqS b2 s.heap l2 ys ∧ SqS b3 s.heap l3 zs ∧
      R (.ok (.ret (.ref (zq5 s.heap b1 b2 b3 l1 l2 l3).objs.size))) { s with heap := zq6 s.heap b1 b2 b3 l1 l2 l3 }) :=
  .of_wp fun prog w A R s h => by
    obtain ⟨hp, g, d, tk, os⟩ := s; obtain ⟨hl1, hl2, hl3, h⟩ := h
    have hsub := sub_zip
    have hL1 : SqS b1 (Shared.heap ⟨hp, g, d, tk, os⟩) l1 xs := hl1
    have hL2 : SqS b2 (Shared.heap ⟨hp.push (itO b1 l1), g, d, tk, os⟩) l2 ys := SqS.push hl2 _
    have hL3 : SqS b3 (Shared.heap ⟨(hp.push (itO b1 l1)).push (itO b2 l2), g, d, tk, os⟩) l3 zs := SqS.push (SqS.push hl3 _) _
    wp_walk using iter_ok hL1, iter_ok hL2, iter_ok hL3
    exact ⟨_, rfl, h⟩
end LB
set_option Elab.async false
set_option linter.all false
set_option autoImplicit false
set_option maxRecDepth 100000
set_option maxHeartbeats 4000000
namespace LB
open PySem PySem.Spec PyProof.Rows L2
theorem itO_it {b : Bool} {h : Heap} {a l : Addr} (e : h.get? a = some (itO b l)) : ItS b h a l 0 := by
  cases b
  · exact ⟨_, e, rfl, rfl⟩
  · exact ⟨_, e, rfl, rfl⟩
section
variable {prog : Program} {w : World} {A : Around} {E : Value → Shared → Prop} {s : Shared}
theorem call_zip2 {b1 b2 : Bool} {l1 l2 : Addr} {xs ys : Array Value} {Q : Value → Shared → Prop} (hl1 : SqS b1 s.heap l1 xs) (hl2 : SqS b2 s.heap l2 ys)
    (h : ∀ h', IsZip h' (s.heap.objs.size + 4) (s.heap.objs.size + 2) (s.heap.objs.size + 3) .none → IsTup h' (s.heap.objs.size + 2) #[.ref s.heap.objs.size, .ref (s.heap.objs.size + 1)] →
      IsTup h' (s.heap.objs.size + 3) #[.none, .none] → ItS b1 h' s.heap.objs.size l1 0 → ItS b2 h' (s.heap.objs.size + 1) l2 0 →
      (∀ c o, s.heap.get? c = some o → h'.get? c = some o) → Q (.ref (s.heap.objs.size + 4)) { s with heap := h' }) :
    wpAny (model prog w) A (call (.type "zip") [.ref l1, .ref l2]) Q E s := by
  refine callType_new F.called_zip (by decide) (F.typeCall_zip_2 _ _) (F.newCall_zip_2 _ _) (fun obj => F.args_object_init_3 obj _ _) F.entry_zip_new (zip2_new b1 b2 l1 l2 xs ys) ⟨hl1, hl2, ?_⟩
  have z1 : (zp1 s.heap b1 l1).objs.size = s.heap.objs.size + 1 := Heap.size_push ..
  have z2 : (zp2 s.heap b1 b2 l1 l2).objs.size = s.heap.objs.size + 2 := by rw [Heap.size_push, z1]
  have z3 : (zp3 s.heap b1 b2 l1 l2).objs.size = s.heap.objs.size + 3 := by rw [Heap.size_push, z2]
  have z4 : (zp4 s.heap b1 b2 l1 l2).objs.size = s.heap.objs.size + 4 := by rw [Heap.size_push, z3]
  have g5 : (zp5 s.heap b1 b2 l1 l2).get? (zp4 s.heap b1 b2 l1 l2).objs.size = some _ := Heap.get?_push_size _ rfl
  have g4 : (zp5 s.heap b1 b2 l1 l2).get? (zp3 s.heap b1 b2 l1 l2).objs.size = some _ := Heap.get?_push_of_some _ (Heap.get?_push_size _ rfl)
  have g3 : (zp5 s.heap b1 b2 l1 l2).get? (zp2 s.heap b1 b2 l1 l2).objs.size = some _ := Heap.get?_push_of_some _ (Heap.get?_push_of_some _ (Heap.get?_push_size _ rfl))
  have g2 : (zp5 s.heap b1 b2 l1 l2).get? (zp1 s.heap b1 l1).objs.size = some _ := Heap.get?_push_of_some _ (Heap.get?_push_of_some _ (Heap.get?_push_of_some _ (Heap.get?_push_size _ rfl)))
  have g1 : (zp5 s.heap b1 b2 l1 l2).get? s.heap.objs.size = some _ := Heap.get?_push_of_some _ (Heap.get?_push_of_some _ (Heap.get?_push_of_some _ (Heap.get?_push_of_some _ (Heap.get?_push_size _ rfl))))
  show _ ∧ _
  rw [z2, z3, z4] at g5
  rw [z1, z2] at g3
  rw [z3] at g4
  rw [z1] at g2
  rw [z4]
  exact ⟨⟨_, g5, rfl⟩, h _ g5 g3 g4 (itO_it g1) (itO_it g2) fun c o x =>
    Heap.get?_push_of_some _ (Heap.get?_push_of_some _ (Heap.get?_push_of_some _ (Heap.get?_push_of_some _ (Heap.get?_push_of_some _ x))))⟩
theorem call_zip3 {b1 b2 b3 : Bool} {l1 l2 l3 : Addr} {xs ys zs : Array Value} {Q : Value → Shared → Prop} (hl1 : SqS b1 s.heap l1 xs) (hl2 : SqS b2 s.heap l2 ys) (hl3 : SqS b3 s.heap l3 zs)
    (h : ∀ h', IsZip h' (s.heap.objs.size + 5) (s.heap.objs.size + 3) (s.heap.objs.size + 4) .none → IsTup h' (s.heap.objs.size + 3) #[.ref s.heap.objs.size, .ref (s.heap.objs.size + 1), .ref (s.heap.objs.size + 2)] →
      IsTup h' (s.heap.objs.size + 4) #[.none, .none, .none] → ItS b1 h' s.heap.objs.size l1 0 → ItS b2 h' (s.heap.objs.size + 1) l2 0 → ItS b3 h' (s.heap.objs.size + 2) l3 0 →
      (∀ c o, s.heap.get? c = some o → h'.get? c = some o) → Q (.ref (s.heap.objs.size + 5)) { s with heap := h' }) :
    wpAny (model prog w) A (call (.type "zip") [.ref l1, .ref l2, .ref l3]) Q E s := by
  refine callType_new F.called_zip (by decide) (F.typeCall_zip_3 _ _ _) (F.newCall_zip_3 _ _ _) (fun obj => F.args_object_init_4 obj _ _ _) F.entry_zip_new (zip3_new b1 b2 b3 l1 l2 l3 xs ys zs) ⟨hl1, hl2, hl3, ?_⟩
  have z1 : (zp1 s.heap b1 l1).objs.size = s.heap.objs.size + 1 := Heap.size_push ..
  have z2 : (zp2 s.heap b1 b2 l1 l2).objs.size = s.heap.objs.size + 2 := by rw [Heap.size_push, z1]
  have z3 : (zq3 s.heap b1 b2 b3 l1 l2 l3).objs.size = s.heap.objs.size + 3 := by rw [Heap.size_push, z2]
  have z4 : (zq4 s.heap b1 b2 b3 l1 l2 l3).objs.size = s.heap.objs.size + 4 := by rw [Heap.size_push, z3]
  have z5 : (zq5 s.heap b1 b2 b3 l1 l2 l3).objs.size = s.heap.objs.size + 5 := by rw [Heap.size_push, z4]
  have g6 : (zq6 s.heap b1 b2 b3 l1 l2 l3).get? (zq5 s.heap b1 b2 b3 l1 l2 l3).objs.size = some _ := Heap.get?_push_size _ rfl
  have g5 : (zq6 s.heap b1 b2 b3 l1 l2 l3).get? (zq4 s.heap b1 b2 b3 l1 l2 l3).objs.size = some _ := Heap.get?_push_of_some _ (Heap.get?_push_size _ rfl)
  have g4 : (zq6 s.heap b1 b2 b3 l1 l2 l3).get? (zq3 s.heap b1 b2 b3 l1 l2 l3).objs.size = some _ := Heap.get?_push_of_some _ (Heap.get?_push_of_some _ (Heap.get?_push_size _ rfl))
  have g3 : (zq6 s.heap b1 b2 b3 l1 l2 l3).get? (zp2 s.heap b1 b2 l1 l2).objs.size = some _ := Heap.get?_push_of_some _ (Heap.get?_push_of_some _ (Heap.get?_push_of_some _ (Heap.get?_push_size _ rfl)))
  have g2 : (zq6 s.heap b1 b2 b3 l1 l2 l3).get? (zp1 s.heap b1 l1).objs.size = some _ := Heap.get?_push_of_some _ (Heap.get?_push_of_some _ (Heap.get?_push_of_some _ (Heap.get?_push_of_some _ (Heap.get?_push_size _ rfl))))
  have g1 : (zq6 s.heap b1 b2 b3 l1 l2 l3).get? s.heap.objs.size = some _ := Heap.get?_push_of_some _ (Heap.get?_push_of_some _ (Heap.get?_push_of_some _ (Heap.get?_push_of_some _ (Heap.get?_push_of_some _ (Heap.get?_push_size _ rfl)))))
  show _ ∧ _
  rw [z3, z4, z5] at g6
  rw [z4] at g5
  rw [z1, z2, z3] at g4
  rw [z2] at g3
  rw [z1] at g2
  rw [z5]
  exact ⟨⟨_, g6, rfl⟩, h _ g6 g4 g5 (itO_it g1) (itO_it g2) (itO_it g3) fun c o x =>
    Heap.get?_push_of_some _ (Heap.get?_push_of_some _ (Heap.get?_push_of_some _ (Heap.get?_push_of_some _ (Heap.get?_push_of_some _ (Heap.get?_push_of_some _ x)))))⟩
end
theorem addr_ne {a b : Nat} (h : a < b ∨ b < a) : ¬ ((a : Addr) = (b : Addr)) := fun e => by
  have e' : a = b := e
  omega
theorem aps2 {n : Nat} {b1 b2 : Bool} {l1 l2 : Nat} (h1 : l1 < n) (h2 : l2 < n) : Aps [⟨b1, n, l1⟩, ⟨b2, n + 1, l2⟩] (n + 4) (n + 2) (n + 3) := by
  refine ⟨addr_ne (by omega), addr_ne (by omega), addr_ne (by omega), fun s hs => ?_, fun s hs => ?_, fun i j s t hi hj e => ?_⟩
  · simp only [List.mem_cons, List.not_mem_nil, or_false] at hs
    rcases hs with rfl | rfl <;> exact ⟨addr_ne (by dsimp only; omega), addr_ne (by dsimp only; omega), addr_ne (by dsimp only; omega)⟩
  · simp only [List.mem_cons, List.not_mem_nil, or_false] at hs
    refine ⟨?_, ?_, fun t ht => ?_⟩
    · rcases hs with rfl | rfl <;> exact addr_ne (by dsimp only; omega)
    · rcases hs with rfl | rfl <;> exact addr_ne (by dsimp only; omega)
    · simp only [List.mem_cons, List.not_mem_nil, or_false] at ht
      rcases hs with rfl | rfl <;> rcases ht with rfl | rfl <;> exact addr_ne (by dsimp only; omega)
  · have hi' : i = 0 ∨ i = 1 := by have := lt_of_get hi; simp at this; omega
    have hj' : j = 0 ∨ j = 1 := by have := lt_of_get hj; simp at this; omega
    rcases hi' with rfl | rfl <;> rcases hj' with rfl | rfl <;> first | exact absurd rfl e | (cases hi; cases hj; exact addr_ne (by dsimp only; omega))
theorem aps3 {n : Nat} {b1 b2 b3 : Bool} {l1 l2 l3 : Nat} (h1 : l1 < n) (h2 : l2 < n) (h3 : l3 < n) : Aps [⟨b1, n, l1⟩, ⟨b2, n + 1, l2⟩, ⟨b3, n + 2, l3⟩] (n + 5) (n + 3) (n + 4) := by
  refine ⟨addr_ne (by omega), addr_ne (by omega), addr_ne (by omega), fun s hs => ?_, fun s hs => ?_, fun i j s t hi hj e => ?_⟩
  · simp only [List.mem_cons, List.not_mem_nil, or_false] at hs
    rcases hs with rfl | rfl | rfl <;> exact ⟨addr_ne (by dsimp only; omega), addr_ne (by dsimp only; omega), addr_ne (by dsimp only; omega)⟩
  · simp only [List.mem_cons, List.not_mem_nil, or_false] at hs
    refine ⟨?_, ?_, fun t ht => ?_⟩
    · rcases hs with rfl | rfl | rfl <;> exact addr_ne (by dsimp only; omega)
    · rcases hs with rfl | rfl | rfl <;> exact addr_ne (by dsimp only; omega)
    · simp only [List.mem_cons, List.not_mem_nil, or_false] at ht
      rcases hs with rfl | rfl | rfl <;> rcases ht with rfl | rfl | rfl <;> exact addr_ne (by dsimp only; omega)
  · have hi' : i = 0 ∨ i = 1 ∨ i = 2 := by have := lt_of_get hi; simp at this; omega
    have hj' : j = 0 ∨ j = 1 ∨ j = 2 := by have := lt_of_get hj; simp at this; omega
    rcases hi' with rfl | rfl | rfl <;> rcases hj' with rfl | rfl | rfl <;> first | exact absurd rfl e | (cases hi; cases hj; exact addr_ne (by dsimp only; omega))
theorem fresh_fp {X : Cx} {pins : List (Addr × Obj)} {σ : L2.St} {H : Hp} {s : Shared} {ss : List Sd} {z TI TO : Addr} (I : Inv X pins σ H s) (h : ∀ c ∈ fpN ss z TI TO, s.heap.objs.size ≤ c) : ∀ c ∈ fpN ss z TI TO, FpOk X pins H c := fun c hc => I.fpOk (h c hc) (I.hok.fresh (h c hc))
theorem pi_zip2 {X : Cx} {e e2 : Expr} {ta : TA} {p pos tpos : Pos} {elts : List Expr} {kk : Nat} (hg : Gl X "zip") (hm : X.mg "zip" = none) (ha : PA X [e, e2] ta)
    (hs : starEach [e, e2] X.env = (false, eval e X.env) :: starEach [e2] X.env := by rfl) (hpl : (backTo pos (starEach [e2] X.env)).any (·.1) = false := by rfl) :
    PI X (.Tuple elts kk tpos) (.Call (.Name "zip" p) [e, e2] [] pos) (fun σ H R => ta σ H fun vs H1 => ∃ b1 l1 b2 l2 xs ys, vs = [.ref l1, .ref l2] ∧ SqB X.K H1 b1 l1 xs ∧ SqB X.K H1 b2 l2 ys ∧ R (ItzN X.K [(b1, l1), (b2, l2)]) H1) := by
  refine ⟨fun pins s σ H R I h => ?_⟩
  refine Call_ (ld_blt I hg hm PyProof.Rows.boot_zip (PyProof.Rows.callWith_type1 (thn (ha.run pos pins s σ H _ I h) fun us s1 ⟨vs, H1, I1, r1, q1⟩ => ?_) hs hpl))
  obtain ⟨b1, l1, b2, l2, xs, ys, ex, h1, h2, q⟩ := q1
  subst ex
  obtain ⟨u1, u2, rfl, ru1, ru2⟩ := Vals.two r1
  cases (show u1 = Value.ref l1 from ru1)
  cases (show u2 = Value.ref l2 from ru2)
  obtain ⟨its1, rv1, p1⟩ := sqB_at I1 h1
  obtain ⟨its2, rv2, p2⟩ := sqB_at I1 h2
  refine call_zip2 p1 p2 fun h' hz hTI hTO i1 i2 hk => wpAny_pyIter_zip hz ?_
  have I2 : Inv X pins σ H1 { s1 with heap := h' } := I1.kept (t' := s1.toks) hk
  have hge : ∀ c ∈ fpN [⟨b1, s1.heap.objs.size, l1⟩, ⟨b2, s1.heap.objs.size + 1, l2⟩] (s1.heap.objs.size + 4) (s1.heap.objs.size + 2) (s1.heap.objs.size + 3), s1.heap.objs.size ≤ c := fun c hc => by
    simp only [fpN, List.map_cons, List.map_nil, List.mem_cons, List.not_mem_nil, or_false] at hc
    rcases hc with rfl | rfl | rfl | rfl | rfl <;> first | exact Nat.le_refl _ | exact Nat.le_add_right _ _
  refine ⟨_, _, _, _, H1, rfl, I2, turn_zipN (aps2 p1.lt p2.lt) (List.cons_ne_nil _ _) (by show 2 ≤ 100; decide), ⟨hz, hTI, ⟨[.none, .none], hTO, rfl⟩, fun j sd e => ?_⟩, fresh_fp I1 hge, q⟩
  match j, e with
  | 0, e => cases e; exact i1
  | 1, e => cases e; exact i2
  | j + 2, e => simp at e
theorem pi_zip3 {X : Cx} {e e2 e3 : Expr} {ta : TA} {p pos tpos : Pos} {elts : List Expr} {kk : Nat} (hg : Gl X "zip") (hm : X.mg "zip" = none) (ha : PA X [e, e2, e3] ta)
    (hs : starEach [e, e2, e3] X.env = (false, eval e X.env) :: starEach [e2, e3] X.env := by rfl) (hpl : (backTo pos (starEach [e2, e3] X.env)).any (·.1) = false := by rfl) :
    PI X (.Tuple elts kk tpos) (.Call (.Name "zip" p) [e, e2, e3] [] pos) (fun σ H R => ta σ H fun vs H1 => ∃ b1 l1 b2 l2 b3 l3 xs ys zs, vs = [.ref l1, .ref l2, .ref l3] ∧ SqB X.K H1 b1 l1 xs ∧ SqB X.K H1 b2 l2 ys ∧ SqB X.K H1 b3 l3 zs ∧ R (ItzN X.K [(b1, l1), (b2, l2), (b3, l3)]) H1) := by
  refine ⟨fun pins s σ H R I h => ?_⟩
  refine Call_ (ld_blt I hg hm PyProof.Rows.boot_zip (PyProof.Rows.callWith_type1 (thn (ha.run pos pins s σ H _ I h) fun us s1 ⟨vs, H1, I1, r1, q1⟩ => ?_) hs hpl))
  obtain ⟨b1, l1, b2, l2, b3, l3, xs, ys, zs, ex, h1, h2, h3, q⟩ := q1
  subst ex
  cases r1 with
  | @cons _ u1 _ _ ru1 rr =>
    obtain ⟨u2, u3, rfl, ru2, ru3⟩ := Vals.two rr
    cases (show u1 = Value.ref l1 from ru1)
    cases (show u2 = Value.ref l2 from ru2)
    cases (show u3 = Value.ref l3 from ru3)
    obtain ⟨its1, rv1, p1⟩ := sqB_at I1 h1
    obtain ⟨its2, rv2, p2⟩ := sqB_at I1 h2
    obtain ⟨its3, rv3, p3⟩ := sqB_at I1 h3
    refine call_zip3 p1 p2 p3 fun h' hz hTI hTO i1 i2 i3 hk => wpAny_pyIter_zip hz ?_
    have I2 : Inv X pins σ H1 { s1 with heap := h' } := I1.kept (t' := s1.toks) hk
    have hge : ∀ c ∈ fpN [⟨b1, s1.heap.objs.size, l1⟩, ⟨b2, s1.heap.objs.size + 1, l2⟩, ⟨b3, s1.heap.objs.size + 2, l3⟩] (s1.heap.objs.size + 5) (s1.heap.objs.size + 3) (s1.heap.objs.size + 4), s1.heap.objs.size ≤ c := fun c hc => by
      simp only [fpN, List.map_cons, List.map_nil, List.mem_cons, List.not_mem_nil, or_false] at hc
      rcases hc with rfl | rfl | rfl | rfl | rfl | rfl <;> first | exact Nat.le_refl _ | exact Nat.le_add_right _ _
    refine ⟨_, _, _, _, H1, rfl, I2, turn_zipN (aps3 p1.lt p2.lt p3.lt) (List.cons_ne_nil _ _) (by show 3 ≤ 100; decide), ⟨hz, hTI, ⟨[.none, .none, .none], hTO, rfl⟩, fun j sd e => ?_⟩, fresh_fp I1 hge, q⟩
    match j, e with
    | 0, e => cases e; exact i1
    | 1, e => cases e; exact i2
    | 2, e => cases e; exact i3
    | j + 3, e => simp at e
end LB
set_option Elab.async false
set_option linter.all false
set_option autoImplicit false
set_option maxRecDepth 100000
set_option maxHeartbeats 4000000
namespace PD
open PySem PySem.Spec PyProof.Rows L2
/-! ### zip over data: two or three, each a list or a tuple -/
section
variable {X : Cx} {W : Wo} {Wk : WX}
/-- the items, and what must stand while the loop goes on -/
def zsd (d : D) (μ : Mu) : Option (List D × Cks) := match d with
  | .tup xs => some (xs, [])
  | .lst xs => some (xs, [])
  | .ptr a => (match μ a with | some (.lst xs) => some (xs, [(a, xs)]) | _ => none)
  | _ => none
theorem zsd_ok {hid : Hid} {H1 : Hp} {μ1 : Mu} {v : V} {d : D} {xs : List D} {o : Cks} (sr : SR W hid H1 μ1) (r : Rep W hid H1 μ1 v d) (e : zsd d μ1 = some (xs, o)) : ∃ b a, v = .ref a ∧ (∃ vs, LB.SqB W.K H1 b a vs) ∧
    ∀ hid' H μ, Ok hid H1 μ1 hid' H μ → SR W hid' H μ → CK o μ → ∃ vs, LB.SqB W.K H b a vs ∧ Reps W hid' H μ vs xs := by
  unfold zsd at e
  split at e
  · cases e
    obtain ⟨a, vs, rfl, ha, _⟩ := tup_ok r
    refine ⟨true, a, rfl, ⟨vs, ha⟩, fun hid' H μ k _ _ => ?_⟩
    obtain ⟨v1, h1, k1⟩ := tup_stands r k
    exact ⟨v1, h1, k1⟩
  · cases e
    obtain ⟨a, vs, rfl, ha, _⟩ := lstW_ok (ds := xs) rfl sr r
    refine ⟨false, a, rfl, ⟨vs, SqL.of ha⟩, fun hid' H μ k sr' _ => ?_⟩
    obtain ⟨v1, h1, k1⟩ := lstW_stands r rfl k sr' fun b eb => by cases eb
    exact ⟨v1, h1, k1⟩
  · rename_i a
    split at e
    · rename_i xs' hm
      cases e
      have el : lstW (.ptr a) μ1 = some xs := by
        unfold lstW
        dsimp only
        rw [hm]
      obtain ⟨a', vs, rfl, ha, _⟩ := lstW_ok el sr r
      refine ⟨false, a', rfl, ⟨vs, SqL.of ha⟩, fun hid' H μ k sr' ck => ?_⟩
      obtain ⟨v1, h1, k1⟩ := lstW_stands r el k sr' fun b eb => by
        cases eb
        exact ck (a, xs) List.mem_cons_self
      exact ⟨v1, h1, k1⟩
    · cases e
  · cases e
def zip3L : List D → List D → List D → List D
  | x :: xs, y :: ys, z :: zs => .tup [x, y, z] :: zip3L xs ys zs
  | _, _, _ => []
theorem zip3L_get : ∀ {xs ys zs : List D} {i : Nat} {d : D}, (zip3L xs ys zs)[i]? = some d → ∃ x y z, xs[i]? = some x ∧ ys[i]? = some y ∧ zs[i]? = some z ∧ d = .tup [x, y, z]
  | x :: xs, y :: ys, z :: zs, i, d, h => by
    cases i with
    | zero => cases h; exact ⟨x, y, z, rfl, rfl, rfl, rfl⟩
    | succ i => exact zip3L_get (xs := xs) (ys := ys) (zs := zs) (i := i) h
  | [], _, _, i, d, h => by simp [zip3L] at h
  | _ :: _, [], _, i, d, h => by simp [zip3L] at h
  | _ :: _, _ :: _, [], i, d, h => by simp [zip3L] at h
theorem zip3L_len : ∀ (xs ys zs : List D), (zip3L xs ys zs).length = min xs.length (min ys.length zs.length)
  | x :: xs, y :: ys, z :: zs => by
    show (zip3L xs ys zs).length + 1 = _
    rw [zip3L_len xs ys zs]
    simp only [List.length_cons]
    omega
  | [], _, _ => by simp [zip3L]
  | _ :: _, [], _ => by simp [zip3L]
  | _ :: _, _ :: _, [] => by simp [zip3L]
def iZip2 (ta : TDA) : TDI := fun Xd ρ μ R => ta Xd ρ μ fun ds μ1 => match ds with
  | [d, e] => (match zsd d μ1, zsd e μ1 with | some (xs, o1), some (ys, o2) => R (o1 ++ o2) (zipL xs ys) μ1 | _, _ => False)
  | _ => False
def iZip3 (ta : TDA) : TDI := fun Xd ρ μ R => ta Xd ρ μ fun ds μ1 => match ds with
  | [d, e, f] => (match zsd d μ1, zsd e μ1, zsd f μ1 with | some (xs, o1), some (ys, o2), some (zs, o3) => R (o1 ++ (o2 ++ o3)) (zip3L xs ys zs) μ1 | _, _, _ => False)
  | _ => False
theorem ck_l {o p : Cks} {μ : Mu} (h : CK (o ++ p) μ) : CK o μ := fun q hq => h q (List.mem_append_left _ hq)
theorem ck_r {o p : Cks} {μ : Mu} (h : CK (o ++ p) μ) : CK p μ := fun q hq => h q (List.mem_append_right _ hq)
theorem tupn_ok {hid : Hid} {H : Hp} {μ : Mu} {T : Addr} {vs : List V} {ds : List D} (sr : SR W hid H μ) (hT : H T = none) (r : Reps W hid H μ vs ds) : St H μ (upd H T (.tup vs)) μ ∧ SR W hid (upd H T (.tup vs)) μ ∧ Rep W hid (upd H T (.tup vs)) μ (.ref T) (.tup ds) :=
  ⟨St.new hT, sr.new hT, .tup (.inl upd_same) (sr.fresh hT) (sr.nhid hT) (r.mono (St.new hT).ok)⟩
theorem bi_zip2 {tg e e2 : Expr} {ta : TDA} {p pos : Pos} (C : TW X.K X.w W) (h : PI X tg (.Call (.Name "zip" p) [e, e2] [] pos) (fun σ H R => (TDa W Wk ta) σ H fun vs H1 => ∃ b1 l1 b2 l2 xs ys, vs = [.ref l1, .ref l2] ∧ LB.SqB X.K H1 b1 l1 xs ∧ LB.SqB X.K H1 b2 l2 ys ∧ R (LB.ItzN X.K [(b1, l1), (b2, l2)]) H1)) :
    BI X W Wk tg (.Call (.Name "zip" p) [e, e2] [] pos) (iZip2 ta) := PI.weak h fun σ H R ⟨hid, ρ, μ, Xd, Rd, rel, sr, q, pr, px⟩ => by
  refine ⟨hid, ρ, μ, Xd, _, rel, sr, q, fun vs ds H1 μ1 s1 sr1 r1 q1 => ?_, px⟩
  dsimp only at q1
  split at q1
  · rename_i d e
    cases r1 with
    | cons ra rr =>
      cases rr with
      | cons rb rr =>
        cases rr
        split at q1
        · rename_i xs o1 ys o2 e1 e2
          obtain ⟨b1, l1, rfl, ⟨v1, a1⟩, st1⟩ := zsd_ok sr1 ra e1
          obtain ⟨b2, l2, rfl, ⟨v2, a2⟩, st2⟩ := zsd_ok sr1 rb e2
          refine ⟨b1, l1, b2, l2, v1, v2, rfl, by rw [C.hK]; exact a1, by rw [C.hK]; exact a2, pr _ H1 μ1 _ _ s1 sr1 ?_ q1⟩
          refine ⟨fun hid' i H μ hi k sr ck => ?_, fun hid' H μ k sr ck => ?_, fun hid' i f H μ x H' hi k sr ck y => ?_⟩
          · obtain ⟨u1, g1, k1⟩ := st1 hid' H μ k sr (ck_l ck)
            obtain ⟨u2, g2, k2⟩ := st2 hid' H μ k sr (ck_r ck)
            rw [← C.hK] at g1 g2
            rw [zipL_len, ← k1.length, ← k2.length] at hi
            intro q hq
            simp only [List.mem_cons, List.not_mem_nil, or_false] at hq
            rcases hq with rfl | rfl
            · exact ⟨u1, _, g1, List.getElem?_eq_getElem (by omega)⟩
            · exact ⟨u2, _, g2, List.getElem?_eq_getElem (by omega)⟩
          · obtain ⟨u1, g1, k1⟩ := st1 hid' H μ k sr (ck_l ck)
            obtain ⟨u2, g2, k2⟩ := st2 hid' H μ k sr (ck_r ck)
            rw [← C.hK] at g1 g2
            rw [zipL_len, ← k1.length, ← k2.length]
            refine ⟨fun q hq => ?_, ?_⟩
            · simp only [List.mem_cons, List.not_mem_nil, or_false] at hq
              rcases hq with rfl | rfl
              · exact ⟨u1, g1⟩
              · exact ⟨u2, g2⟩
            · by_cases hl : u1.length ≤ u2.length
              · exact ⟨_, List.mem_cons_self, u1, g1, by omega⟩
              · exact ⟨_, List.mem_cons_of_mem _ List.mem_cons_self, u2, g2, by omega⟩
          · obtain ⟨u1, g1, k1⟩ := st1 hid' H μ k sr (ck_l ck)
            obtain ⟨u2, g2, k2⟩ := st2 hid' H μ k sr (ck_r ck)
            rw [← C.hK] at g1 g2
            obtain ⟨z1, z2, hz1, hz2, rfl⟩ := zipL_get hi
            obtain ⟨w1, hw1, rw1⟩ := k1.get hz1
            obtain ⟨w2, hw2, rw2⟩ := k2.get hz2
            obtain ⟨T, ws, rfl, hT, rfl, hl, hy⟩ := y
            have y1 := hy 0 _ u1 rfl g1
            have y2 := hy 1 _ u2 rfl g2
            rw [hw1] at y1
            rw [hw2] at y2
            have ew : ws = [w1, w2] := by
              match ws, hl, y1, y2 with
              | [a, b], _, y1, y2 => cases y1; cases y2; rfl
            subst ew
            exact tupn_ok sr hT (.cons rw1 (.cons rw2 .nil))
        · exact q1.elim
  · exact q1.elim
theorem bi_zip3 {tg e e2 e3 : Expr} {ta : TDA} {p pos : Pos} (C : TW X.K X.w W) (h : PI X tg (.Call (.Name "zip" p) [e, e2, e3] [] pos) (fun σ H R => (TDa W Wk ta) σ H fun vs H1 => ∃ b1 l1 b2 l2 b3 l3 xs ys zs, vs = [.ref l1, .ref l2, .ref l3] ∧ LB.SqB X.K H1 b1 l1 xs ∧ LB.SqB X.K H1 b2 l2 ys ∧ LB.SqB X.K H1 b3 l3 zs ∧ R (LB.ItzN X.K [(b1, l1), (b2, l2), (b3, l3)]) H1)) :
    BI X W Wk tg (.Call (.Name "zip" p) [e, e2, e3] [] pos) (iZip3 ta) := PI.weak h fun σ H R ⟨hid, ρ, μ, Xd, Rd, rel, sr, q, pr, px⟩ => by
  refine ⟨hid, ρ, μ, Xd, _, rel, sr, q, fun vs ds H1 μ1 s1 sr1 r1 q1 => ?_, px⟩
  dsimp only at q1
  split at q1
  · rename_i d e f
    cases r1 with
    | cons ra rr =>
      cases rr with
      | cons rb rr =>
        cases rr with
        | cons rc rr =>
          cases rr
          split at q1
          · rename_i xs o1 ys o2 zs o3 e1 e2 e3
            obtain ⟨b1, l1, rfl, ⟨v1, a1⟩, st1⟩ := zsd_ok sr1 ra e1
            obtain ⟨b2, l2, rfl, ⟨v2, a2⟩, st2⟩ := zsd_ok sr1 rb e2
            obtain ⟨b3, l3, rfl, ⟨v3, a3⟩, st3⟩ := zsd_ok sr1 rc e3
            refine ⟨b1, l1, b2, l2, b3, l3, v1, v2, v3, rfl, by rw [C.hK]; exact a1, by rw [C.hK]; exact a2, by rw [C.hK]; exact a3, pr _ H1 μ1 _ _ s1 sr1 ?_ q1⟩
            refine ⟨fun hid' i H μ hi k sr ck => ?_, fun hid' H μ k sr ck => ?_, fun hid' i f H μ x H' hi k sr ck y => ?_⟩
            · obtain ⟨u1, g1, k1⟩ := st1 hid' H μ k sr (ck_l ck)
              obtain ⟨u2, g2, k2⟩ := st2 hid' H μ k sr (ck_l (ck_r ck))
              obtain ⟨u3, g3, k3⟩ := st3 hid' H μ k sr (ck_r (ck_r ck))
              rw [← C.hK] at g1 g2 g3
              rw [zip3L_len, ← k1.length, ← k2.length, ← k3.length] at hi
              intro q hq
              simp only [List.mem_cons, List.not_mem_nil, or_false] at hq
              rcases hq with rfl | rfl | rfl
              · exact ⟨u1, _, g1, List.getElem?_eq_getElem (by omega)⟩
              · exact ⟨u2, _, g2, List.getElem?_eq_getElem (by omega)⟩
              · exact ⟨u3, _, g3, List.getElem?_eq_getElem (by omega)⟩
            · obtain ⟨u1, g1, k1⟩ := st1 hid' H μ k sr (ck_l ck)
              obtain ⟨u2, g2, k2⟩ := st2 hid' H μ k sr (ck_l (ck_r ck))
              obtain ⟨u3, g3, k3⟩ := st3 hid' H μ k sr (ck_r (ck_r ck))
              rw [← C.hK] at g1 g2 g3
              rw [zip3L_len, ← k1.length, ← k2.length, ← k3.length]
              refine ⟨fun q hq => ?_, ?_⟩
              · simp only [List.mem_cons, List.not_mem_nil, or_false] at hq
                rcases hq with rfl | rfl | rfl
                · exact ⟨u1, g1⟩
                · exact ⟨u2, g2⟩
                · exact ⟨u3, g3⟩
              · by_cases hl : u1.length ≤ u2.length ∧ u1.length ≤ u3.length
                · exact ⟨_, List.mem_cons_self, u1, g1, by omega⟩
                · by_cases hl2 : u2.length ≤ u3.length
                  · exact ⟨_, List.mem_cons_of_mem _ List.mem_cons_self, u2, g2, by omega⟩
                  · exact ⟨_, List.mem_cons_of_mem _ (List.mem_cons_of_mem _ List.mem_cons_self), u3, g3, by omega⟩
            · obtain ⟨u1, g1, k1⟩ := st1 hid' H μ k sr (ck_l ck)
              obtain ⟨u2, g2, k2⟩ := st2 hid' H μ k sr (ck_l (ck_r ck))
              obtain ⟨u3, g3, k3⟩ := st3 hid' H μ k sr (ck_r (ck_r ck))
              rw [← C.hK] at g1 g2 g3
              obtain ⟨z1, z2, z3, hz1, hz2, hz3, rfl⟩ := zip3L_get hi
              obtain ⟨w1, hw1, rw1⟩ := k1.get hz1
              obtain ⟨w2, hw2, rw2⟩ := k2.get hz2
              obtain ⟨w3, hw3, rw3⟩ := k3.get hz3
              obtain ⟨T, ws, rfl, hT, rfl, hl, hy⟩ := y
              have y1 := hy 0 _ u1 rfl g1
              have y2 := hy 1 _ u2 rfl g2
              have y3 := hy 2 _ u3 rfl g3
              rw [hw1] at y1
              rw [hw2] at y2
              rw [hw3] at y3
              have ew : ws = [w1, w2, w3] := by
                match ws, hl, y1, y2, y3 with
                | [a, b, c], _, y1, y2, y3 => cases y1; cases y2; cases y3; rfl
              subst ew
              exact tupn_ok sr hT (.cons rw1 (.cons rw2 (.cons rw3 .nil)))
          · exact q1.elim
  · exact q1.elim
end
end PD
set_option Elab.async false
set_option linter.all false
set_option autoImplicit false
set_option maxRecDepth 100000
set_option maxHeartbeats 4000000
namespace PD
open PySem PySem.Spec PyProof.Rows L2
section
variable {X : Cx} {W : Wo} {Wk : WX}
/-! ### what is never reached -/
def sBad : TDS := fun _ _ _ _ => False
def eBad : TDE := fun _ _ _ _ => False
theorem bs_bad {st : Stmt} : BS X W Wk st sBad := ⟨fun pins s σ H E I q => by obtain ⟨_, _, _, _, _, _, _, z, _⟩ := q; exact z.elim⟩
theorem bss_bad {sts : List Stmt} : BSs X W Wk sts sBad := ⟨fun pins s σ H E I q => by obtain ⟨_, _, _, _, _, _, _, z, _⟩ := q; exact z.elim⟩
theorem be_bad {e : Expr} : BE X W Wk e eBad := ⟨fun pins s σ H Q I q => by obtain ⟨_, _, _, _, _, _, _, z, _⟩ := q; exact z.elim⟩
/-! ### isinstance -/
abbrev Tab := D → D → Option Bool
def cval (W : Wo) : D → Value
  | .ty n => .type n
  | .cls C => .ref (W.cl C)
  | _ => .none
/-- what the text tells of its types -/
structure KIs (K : PySem.W.Frag) (W : Wo) (tab : Tab) : Prop where
  ok : ∀ t c b, tab t c = some b → PySem.W.kitOne K (cval W t) (cval W c) = some b
def tyI (d : D) (μ : Mu) : Option D := match d with
  | .non => some (.ty "NoneType")
  | .bl _ => some (.ty "bool")
  | .int _ => some (.ty "int")
  | .str _ => some (.ty "str")
  | .tup _ => some (.ty "tuple")
  | .lst _ => some (.ty "list")
  | .dct _ => some (.ty "dict")
  | .obj C _ => some (.cls C)
  | .ptr a => (match μ a with
    | some (.lst _) => some (.ty "list")
    | some (.dic _) => some (.ty "dict")
    | some (.ins C _) => some (.cls C)
    | _ => none)
  | _ => none
theorem tyI_ok {hid : Hid} {H : Hp} {μ : Mu} {v : V} {d t : D} (C : TW X.K X.w W) (sr : SR W hid H μ) (r : Rep W hid H μ v d) (e : tyI d μ = some t) : TyX X.K H v (cval W t) := by
  cases r with
  | non => cases e; exact .base .non
  | bl b => cases e; exact .base (.bl b)
  | int i => cases e; exact .base (.int i)
  | str s => cases e; exact .base (.str s)
  | ty n => cases e
  | cls n => cases e
  | scr _ _ _ => cases e
  | scrK _ => cases e
  | exc _ _ _ _ => cases e
  | exc0 => cases e
  | xob _ _ _ _ _ _ _ => cases e
  | xob0 _ _ _ => cases e
  | lst h _ _ _ => cases e; exact .base (.lst h)
  | tup h _ _ _ =>
    cases e
    rcases h with h | ⟨o, h⟩
    · exact .base (.tup h)
    · exact .fTuple h
  | tupK h _ =>
    cases e
    obtain ⟨o, its, n, h1, h2, _⟩ := h
    rw [← C.hK] at h1
    exact .kTuple h1 h2
  | @dct a kvs h =>
    cases e
    obtain ⟨⟨es, n, kd⟩, _⟩ := C.kd a kvs h
    exact .kDict kd.at_ rfl
  | @obj a dx C0 fs gs h _ _ c _ _ =>
    cases e
    have z := (C.own C0 c)
    exact .base (.ins h z.1 z.2.ha z.2.hn z.2.htk z.2.hm)
  | ptr a =>
    unfold tyI at e
    dsimp only at e
    split at e
    · rename_i ds hm
      cases e
      obtain ⟨vs, h, _⟩ := (sr.at_ a _ hm).2
      exact .base (.lst h)
    · rename_i ds hm
      cases e
      obtain ⟨vs, h, _⟩ := (sr.at_ a _ hm).2
      exact .base (.dK h)
    · rename_i C0 fs hm
      cases e
      obtain ⟨dx, gs, h, _, c, _⟩ := (sr.at_ a _ hm).2
      have z := (C.own C0 c)
      exact .base (.ins h z.1 z.2.ha z.2.hn z.2.htk z.2.hm)
    · cases e
def isC : D → Bool
  | .ty _ => true
  | .cls _ => true
  | _ => false
def cIsi (tab : Tab) : CD := fun ds μ Q => match ds with
  | [d, c] => isC c = true ∧ (match tyI d μ with
    | some t => (match tab t c with | some b => Q (.bl b) μ | none => False)
    | none => False)
  | _ => False
theorem clsV_of {hid : Hid} {H : Hp} {μ : Mu} {v : V} {c : D} (r : Rep W hid H μ v c) (h : isC c = true) : ClsV v (cval W c) := by
  cases r <;> first | exact .ty _ | exact .own _ | cases h
theorem cd_isi {tab : Tab} (C : TW X.K X.w W) (T : KIs X.K W tab) : CallR X (.builtin "isinstance") (rCD W (cIsi tab)) := CallR.weak call_isi fun xs H Q ⟨hid, μ, ds, Qd, sr, r, h, pq⟩ => by
  unfold cIsi at h
  split at h
  · obtain ⟨hc, h⟩ := h
    split at h
    · rename_i t et
      split at h
      · rename_i b eb
        cases r with
        | cons rx r =>
          cases r with
          | cons ry r =>
            cases r
            exact ⟨_, _, _, _, b, rfl, clsV_of ry hc, tyI_ok C sr rx et, T.ok _ _ _ eb, pq _ _ H μ .refl sr (.bl b) h⟩
      · exact h.elim
    · exact h.elim
  · exact h.elim
/-! ### own ==, !=, len -/
theorem MethX.ok0 {P : Program} {w : World} {K : PySem.W.Frag} {mg : Str → Option Value} {base : Heap} {C : Addr} {m : Str} {k : Nat} {ps : List Str} {sp : Sp} (D : MethX P w K mg base k C m ps [] sp) : LB.MethOk P w K mg base k C m ps (fun vs H Q _ => sp vs H Q E0) := by
  obtain ⟨f, fd, ds, F, h1, h2, h3, h4, h5⟩ := D.ex
  cases h5
  refine ⟨f, fd, ⟨fun vs H Q E q => F.len _ _ _ _ q, fun A outer s H args us vs Q E hr he hb hv hs => ?_⟩, h1, h2, h3, h4⟩
  refine codeAny_mono (F.run A outer s H args us vs Q E0 hr he hb hv hs) fun r s' hq => ?_
  cases r with
  | error e =>
    obtain ⟨_, _, _, _, _, _, _, _, _, _, _, _, z⟩ := hq
    exact z.elim
  | ok fl => cases fl <;> exact hq
def xN : XD → Mu → Prop := fun _ _ => False
def oEqC (C : Str) (F : FD) (g : Bool → Bool) : OD := fun d e μ Q => match insOf d μ, insOf e μ with
  | some (C1, _), some (C2, _) => C1 = C ∧ C2 = C ∧ F [d, e] μ (fun r μ' => match r with | .bl b => Q (.bl (g b)) μ' | _ => False) xN
  | _, _ => False
section
variable {C0 : Str} {k : Nat} {ps : List Str} {F : FD}
theorem eqC_td {g : Bool → Bool} {x y : V} {H : Hp} {Q : VK} (h : rD W (oEqC C0 F g) x y H Q) : ∃ a b dx dy fs gs, x = .ref a ∧ y = .ref b ∧ H a = some (.ins (W.cl C0) dx fs) ∧ H b = some (.ins (W.cl C0) dy gs) ∧ spD W 2 F [.ref a, .ref b] H (fun v H' => ∃ r, v = .bl r ∧ Q (.bl (g r)) H') E0 := by
  obtain ⟨hid, μ, d, e, Qd, sr, rx, ry, h, pq⟩ := h
  unfold oEqC at h
  split at h
  · rename_i C1 g1 C2 g2 e1 e2
    obtain ⟨rfl, rfl, h⟩ := h
    obtain ⟨a, dx, fs, rfl, ha, _⟩ := insOf_ok e1 sr rx
    obtain ⟨b, dy, gs, rfl, hb, _⟩ := insOf_ok e2 sr ry
    refine ⟨a, b, dx, dy, fs, gs, rfl, rfl, ha, hb, hid, [d, e], μ, _, _, rfl, .cons rx (.cons ry .nil), sr, h, fun v z H' μ' s' sr' r' q' => ?_, fun y cls dd H' μ' s' sr' xr q' => q'.elim⟩
    dsimp only at q'
    split at q'
    · cases r'
      exact ⟨_, rfl, pq _ _ H' μ' s' sr' (.bl _) q'⟩
    · exact q'.elim
  · exact h.elim
theorem od_eqC (D : MethX X.prog X.w X.K X.mg X.base k (W.cl C0) "__eq__" ps [] (spD W 2 F)) (hr : Room k X.A) : OpR X (compareOp .Eq) (rD W (oEqC C0 F id)) := OpR.weak (LB.op_eqC D.ok0 hr) fun _ _ _ _ h => eqC_td h
theorem od_neC (T : LB.NeCls X.K (W.cl C0)) (D : MethX X.prog X.w X.K X.mg X.base k (W.cl C0) "__eq__" ps [] (spD W 2 F)) (hr : Room (k + 1) X.A) : OpR X (compareOp .NotEq) (rD W (oEqC C0 F not)) := OpR.weak (LB.op_neC T D.ok0 hr) fun _ _ _ _ h => eqC_td h
def cLenC (C : Str) (F : FD) : CD := fun ds μ Q => match ds with
  | [d] => (match insOf d μ with
    | some (C1, _) => C1 = C ∧ F [d] μ (fun r μ' => match r with | .int n => 0 ≤ n ∧ n < 2 ^ 63 ∧ Q (.int n) μ' | _ => False) xN
    | none => False)
  | _ => False
theorem cd_lenC (D : MethX X.prog X.w X.K X.mg X.base k (W.cl C0) "__len__" ps [] (spD W 1 F)) (hr : Room (k + 1) X.A) : CallR X (.builtin "len") (rCD W (cLenC C0 F)) := CallR.weak (LB.call_lenC D.ok0 hr) fun xs H Q ⟨hid, μ, ds, Qd, sr, r, h, pq⟩ => by
  unfold cLenC at h
  split at h
  · split at h
    · rename_i C1 g1 e1
      obtain ⟨rfl, h⟩ := h
      cases r with
      | cons rx r =>
        cases r
        obtain ⟨a, dx, fs, rfl, ha, _⟩ := insOf_ok e1 sr rx
        refine ⟨a, dx, fs, rfl, ha, hid, [_], μ, _, _, rfl, .cons rx .nil, sr, h, fun v z H' μ' s' sr' r' q' => ?_, fun y cls dd H' μ' s' sr' xr q' => q'.elim⟩
        dsimp only at q'
        split at q'
        · cases r'
          exact ⟨_, rfl, q'.1, q'.2.1, pq _ _ H' μ' s' sr' (.int _) q'.2.2⟩
        · exact q'.elim
    · exact h.elim
  · exact h.elim
end
/-! ### classmethods -/
structure CMethX (P : Program) (w : World) (K : PySem.W.Frag) (mg : Str → Option Value) (base : Heap) (k : Nat) (C : Addr) (m : Str) (ps : List Str) (sp : Sp) : Prop where
  ex : ∃ (f p : Addr) (mc : Value) (fd : FuncData), FnOk P w K mg base (L2.CX P w) k f fd ps sp ∧ ClX.CRead K C mc ∧ ClX.CMet K C mc m p f ∧ Binds K fd ps []
structure TopCMeth (K : PySem.W.Frag) (C : Addr) (m qual : Str) (st : Stmt) (ps : List Str) : Prop where
  ex : ∃ (f p : Addr) (mc : Value) (fd : FuncData), Fun K m qual st f fd ∧ ClX.CRead K C mc ∧ ClX.CMet K C mc m p f ∧ Binds K fd ps []
theorem TopCMeth_okD {P : Program} {w : World} {K : PySem.W.Frag} {mg : Str → Option Value} {base : Heap} {C : Addr} {m qual : Str} {st : Stmt} {N ps : List Str} {k : Nat} {ts : TDS} (F : TopCMeth K C m qual st ps) (S : FnScope N ps (defScope st))
    (hbody : ∀ (f : Addr) (cdv : Value) (A : Around) (outer : List PySem.Env) (s : Shared) (H : Hp) (E : XK), Room k (A.deeper (envOfC qual (defScope st) s.heap.objs.size f cdv)) →
      BSs (cxOf (L2.CX P w) P w K mg base N qual (defScope st) f cdv A outer s H E) W (fun cls d _ H => E cls d H) (defBody st) ts) : CMethX P w K mg base (k + 1) C m ps (spD W ps.length (fnD N.length ts)) := by
  obtain ⟨f, p, mc, fd, F, h1, h2, b⟩ := F.ex
  refine ⟨f, p, mc, fd, F.okX S (fun vs H Q E h => ?_) fun cdv A outer s H vs Q E hr h => ⟨_, hbody f cdv A outer s H E hr, body_ok h⟩, h1, h2, b⟩
  obtain ⟨hid, ds, μ, Qd, Xd, hn, r, _⟩ := h
  rw [r.length]
  exact hn
section
variable {C0 : Str} {k n : Nat} {m : Str} {ps : List Str} {F : FD} {o e : Expr} {es : List Expr} {td : TDE} {ta : TDA} {apos pos p : Pos} {pl : Sem Bool} {C : Addr} {sp : Sp} {t : TA} {tn : TE}
def tCMethX (C : Addr) (sp : Sp) (E : L2.St → XK) (ta : TE) (t : TA) : TE := fun σ H Q => ta σ H fun x H1 => x = .ref C ∧ t σ H1 fun vs H2 => sp (.ref C :: vs) H2 Q (E σ)
theorem run_fnC {E : L2.St → XK} {f : Addr} {fd : FuncData} {pins : List (Addr × Obj)} {σ : L2.St} {H : Hp} {s : Shared} {Q : VK} {us : List Value} {vs : List V} (F : FnOk X.prog X.w X.K X.mg X.base (L2.CX X.prog X.w) k f fd ps sp) (hr : Room k X.A) (hb : Binds X.K fd ps []) (hx : PassesAt (L2.CX X.prog X.w) X σ (E σ))
    (I : Inv X pins σ H s) (r : Vals vs us) (h : sp vs H Q (E σ)) : codeAny (model X.prog X.w) X.A (.call (.ref f) ⟨us, []⟩) (fun r s' => match r with | .ok (.ret v) => EP X pins σ Q v s' | .ok _ => False | .error e => X.xe e s') s := by
  have hl : (us ++ []).length = ps.length := by rw [List.append_nil, ← r.length]; exact F.len _ _ _ _ h
  refine codeAny_mono (F.run X.A X.stack s H ⟨us, []⟩ us vs Q (E σ) hr I.env0 (by have := hb s us I.kIn hl; simpa using this) r h) fun r s' hq => ?_
  cases r with
  | error e => exact hx pins H s e s' I hq
  | ok fl =>
    cases fl with
    | ret u => exact I.after hq
    | next => exact False.elim hq
    | brk => exact False.elim hq
    | cont => exact False.elim hq
theorem pe_cmX {E : L2.St → XK} (D : CMethX X.prog X.w X.K X.mg X.base k C m ps sp) (hx : ∀ σ, PassesAt (L2.CX X.prog X.w) X σ (E σ)) (hr : Room k X.A) (he : PE X o tn) (ha : PA X (e :: es) t)
    (hst : starEach (e :: es) X.env = (false, eval e X.env) :: starEach es X.env := by rfl) (hpl : (backTo pos (starEach es X.env)).any (·.1) = false := by rfl)
    (ht : eval (.Call (.Attribute o m apos) (e :: es) [] pos) X.env = (eval o X.env >>= fun ov => standAt apos.atName >>= fun _ => holding [ov] (getMethod ov m pl) >>= fun fa => callWith pos fa.1 fa.2 (backTo pos (starEach (e :: es) X.env)) (backToKw pos (keywordEach [] X.env))) := by rfl) :
    PE X (.Call (.Attribute o m apos) (e :: es) [] pos) (tCMethX C sp E tn t) := by
  obtain ⟨f, p, mc, fd, F, r, c, hb⟩ := D.ex
  refine ⟨fun pins s σ H Q I h => ?_⟩
  refine PySem.W.methodCall_KW (pl := pl) (thn (he.run pins s σ H _ I h) fun u s1 ⟨x, H1, I1, rx, ex, q⟩ => ?_) ht
  subst ex
  obtain rfl : u = Value.ref C := rx
  refine ClX.getmethcm_ok I1 r c fun s2 I2 => ?_
  refine ClX.callwith_cm I2 (ClX.base_none I1 (Nat.le_refl _)) c.fi (thn (ha.run pos _ s2 σ H1 _ I2 q) fun us s3 ⟨vs, H2, I3, rv, q2⟩ => ⟨⟨ClX.pin_at I3, I3.kIn⟩, ?_⟩) hst hpl
  have z : wpAny (model X.prog X.w) X.A (call (.ref s1.heap.objs.size) us) (EP X ((s1.heap.objs.size, PySem.W.methodObj (.ref f) (.ref C)) :: pins) σ Q) X.xe s3 :=
    wpAny_call (PySem.W.method_call (ClX.pin_at I3) (run_fnC (E := E) (us := .ref C :: us) (vs := .ref C :: vs) F hr hb (hx σ) I3 (.cons rfl rv) q2))
  exact thn z fun _ _ y => ClX.unpinE y
def eCM (C : Str) (n : Nat) (F : FD) (td : TDE) (ta : TDA) : TDE := fun Xd ρ μ Q => td Xd ρ μ fun d μ1 => match d with
  | .cls C' => C' = C ∧ ta Xd ρ μ1 fun ds μ2 => (d :: ds).length = n ∧ F (d :: ds) μ2 Q fun x μ3 => Xd x ρ μ3
  | _ => False
theorem cm_td {σ : L2.St} {H : Hp} {Q : VK} (h : TD W Wk (eCM C0 n F td ta) σ H Q) : tCMethX (W.cl C0) (spD W n F) (WE Wk) (TD W Wk td) (TDa W Wk ta) σ H Q := by
  obtain ⟨hid, ρ, μ, Xd, Qd, rel, sr, q, pq, px⟩ := h
  refine ⟨hid, ρ, μ, Xd, _, rel, sr, q, fun v d H1 μ1 s1 sr1 r1 q1 => ?_, px⟩
  dsimp only at q1
  split at q1
  · obtain ⟨rfl, q1⟩ := q1
    cases r1
    refine ⟨rfl, hid, ρ, μ1, Xd, _, rel_mono s1.ok rel, sr1, q1, fun vs ds H2 μ2 s2 sr2 r2 q2 => ?_, px.st s1⟩
    exact ⟨hid, _, μ2, Qd, _, q2.1, .cons (.cls _) r2, sr2, q2.2, pq.st (s1.trans s2), fun y cls dd H' μ' s' sr' xr q' => px y cls dd H' μ' ((s1.trans s2).trans s') sr' xr q'⟩
  · exact q1.elim
theorem be_cmX (D : CMethX X.prog X.w X.K X.mg X.base k (W.cl C0) m ps (spD W n F)) (tk : Takes X Wk) (hr : Room k X.A) (he : BE X W Wk o td) (ha : BA X W Wk (e :: es) ta)
    (hst : starEach (e :: es) X.env = (false, eval e X.env) :: starEach es X.env := by rfl) (hpl : (backTo pos (starEach es X.env)).any (·.1) = false := by rfl)
    (ht : eval (.Call (.Attribute o m apos) (e :: es) [] pos) X.env = (eval o X.env >>= fun ov => standAt apos.atName >>= fun _ => holding [ov] (getMethod ov m pl) >>= fun fa => callWith pos fa.1 fa.2 (backTo pos (starEach (e :: es) X.env)) (backToKw pos (keywordEach [] X.env))) := by rfl) :
    BE X W Wk (.Call (.Attribute o m apos) (e :: es) [] pos) (eCM C0 n F td ta) := PE.weak (pe_cmX (E := WE Wk) D (fun σ => passAt tk σ) hr he ha hst hpl ht) fun _ _ _ h => cm_td h
theorem be_cmE (D : CMethX X.prog X.w X.K X.mg X.base k (W.cl C0) m ps (spD W n F)) (hr : Room k X.A) (he : BE X W WF o td) (ha : BA X W WF (e :: es) ta)
    (hst : starEach (e :: es) X.env = (false, eval e X.env) :: starEach es X.env := by rfl) (hpl : (backTo pos (starEach es X.env)).any (·.1) = false := by rfl)
    (ht : eval (.Call (.Attribute o m apos) (e :: es) [] pos) X.env = (eval o X.env >>= fun ov => standAt apos.atName >>= fun _ => holding [ov] (getMethod ov m pl) >>= fun fa => callWith pos fa.1 fa.2 (backTo pos (starEach (e :: es) X.env)) (backToKw pos (keywordEach [] X.env))) := by rfl) :
    BE X W WF (.Call (.Attribute o m apos) (e :: es) [] pos) (eCM C0 n F td ta) := PE.weak (pe_cmX (E := WE WF) D takes_none hr he ha hst hpl ht) fun _ _ _ h => cm_td h
/-! ### cls(..), cls a name of the def -/
def tMakeL (C : Addr) (sp : Sp) (dvs : List V) (E : L2.St → XK) (tn : TE) (t : TA) : TE := fun σ H Q => tn σ H fun v H0 => v = .ref C ∧ tMakeX C sp dvs E t σ H0 Q
theorem pe_mkL {E : L2.St → XK} {x x0 : Str} {dvs : List V} (c : LB.OwnCls X.K X.mg x0 C) (D : MethX X.prog X.w X.K X.mg X.base k C "__init__" ps dvs sp) (hx : ∀ σ, PassesAt (L2.CX X.prog X.w) X σ (E σ)) (hr : Room (k + 1) X.A) (hn : PE X (.Name x p) tn) (ha : PA X (e :: es) t)
    (he : starEach (e :: es) X.env = (false, eval e X.env) :: starEach es X.env := by rfl) (hpl : (backTo pos (starEach es X.env)).any (·.1) = false := by rfl) : PE X (.Call (.Name x p) (e :: es) [] pos) (tMakeL C sp dvs E tn t) := by
  obtain ⟨f, fd, ds, F, hm, hi, hk, hb, hd⟩ := D.ex
  refine ⟨fun pins s σ H Q I h => wpAny_Call_Name_kw (thn (hn.run pins s σ H _ I h) fun u s0 ⟨v, H0, I0, rv, ev, q0⟩ => ?_)⟩
  subst ev
  cases (show u = Value.ref C from rv)
  refine PySem.W.callWith_K (h₀ := X.base) I.ok.mod.kin c.kp (thn (ha.run pos pins s0 σ H0 _ I0 q0) fun us s1 ⟨vs, H1, I1, r, q⟩ => ⟨I1.kIn, ?_⟩) he hpl
  exact run_makeX ⟨c.makes, hm, hi, c.kp⟩ F hr hb hd (hx σ) I1 r q
def eMkL (mu : Bool) (C : Str) (n : Nat) (F : FD) (dds : List D) (td : TDE) (ta : TDA) : TDE := fun Xd ρ μ Q => td Xd ρ μ fun d μ1 => match d with
  | .cls C' => C' = C ∧ eMk mu C n F dds ta Xd ρ μ1 Q
  | _ => False
theorem mkL_td {mu : Bool} {dvs : List V} {dds : List D} (co : W.cok C0) (hv : ∀ hid H μ, Reps W hid H μ dvs dds) {σ : L2.St} {H : Hp} {Q : VK} (h : TD W Wk (eMkL mu C0 n F dds td ta) σ H Q) : tMakeL (W.cl C0) (spD W n F) dvs (WE Wk) (TD W Wk td) (TDa W Wk ta) σ H Q := by
  obtain ⟨hid, ρ, μ, Xd, Qd, rel, sr, q, pq, px⟩ := h
  refine ⟨hid, ρ, μ, Xd, _, rel, sr, q, fun v d H1 μ1 s1 sr1 r1 q1 => ?_, px⟩
  dsimp only at q1
  split at q1
  · obtain ⟨rfl, q1⟩ := q1
    cases r1
    exact ⟨rfl, mk_td co hv ⟨hid, ρ, μ1, Xd, Qd, rel_mono s1.ok rel, sr1, q1, pq.st s1, px.st s1⟩⟩
  · exact q1.elim
theorem be_mkL {mu : Bool} {x : Str} {dvs : List V} {dds : List D} (co : W.cok C0) (c : LB.OwnCls X.K X.mg C0 (W.cl C0)) (D : MethX X.prog X.w X.K X.mg X.base k (W.cl C0) "__init__" ps dvs (spD W n F)) (hv : ∀ hid H μ, Reps W hid H μ dvs dds) (tk : Takes X Wk) (hr : Room (k + 1) X.A) (hn : BE X W Wk (.Name x p) td) (ha : BA X W Wk (e :: es) ta)
    (he : starEach (e :: es) X.env = (false, eval e X.env) :: starEach es X.env := by rfl) (hpl : (backTo pos (starEach es X.env)).any (·.1) = false := by rfl) : BE X W Wk (.Call (.Name x p) (e :: es) [] pos) (eMkL mu C0 n F dds td ta) := PE.weak (pe_mkL (E := WE Wk) c D (fun σ => passAt tk σ) hr hn ha he hpl) fun _ _ _ h => mkL_td co hv h
end
end
end PD
namespace PD
open PySem PySem.Spec PyProof.Rows L2
def btys : List String := ["NoneType", "bool", "int", "str", "tuple", "list", "dict"]
/-- pairs: what is known of own classes; types: own classes that are told apart from built-in types -/
def tabOf (pairs : List (Str × Str × Bool)) (types : List (Str × String)) (cl : List Str) : Tab := fun t c => match t, c with
  | .ty a, .ty b => if a ∈ btys ∧ b ∈ btys then some (a == b || (a == "bool" && b == "int")) else none
  | .ty a, .cls c => if a ∈ btys ∧ c ∈ cl then some false else none
  | .cls c, .ty b => if (c, b) ∈ types then some false else none
  | .cls c, .cls e => (pairs.find? fun p => p.1 == c && p.2.1 == e).map (·.2.2)
  | _, _ => none
end PD
set_option Elab.async false
set_option linter.all false
set_option autoImplicit false
set_option maxRecDepth 100000
set_option maxHeartbeats 4000000
namespace PD
open PySem PySem.Spec PyProof.Rows L2
/-! ### laws over data: loops -/
theorem chk_mk {o : Cks} {μ : Mu} {P : Prop} (c : CK o μ) (h : P) : chk o μ P := by
  cases o with
  | nil => exact h
  | cons _ _ => exact ⟨c, h⟩
theorem ck_nil {μ : Mu} : CK [] μ := fun p hp => by cases hp
/-- a comprehension that changes nothing -/
theorem lcL_map {o : Cks} {en : D → Mu → (PD.Env → Prop) → Prop} {te : TDE} {Q : List D → Mu → Prop} {μ : Mu} (f : D → D) (c : CK o μ) : ∀ (ds acc : List D), (∀ x ∈ ds, ∀ (R : QD) (B : Prop), R (f x) μ → en x μ fun ρ' => dIf true (te xF ρ' μ R) B) → acc.length + ds.length ≤ sizeLine → Q (acc ++ ds.map f) μ → lcL o en tYe te Q ds acc μ
  | [], acc, _, _, hq => by
    rw [List.map_nil, List.append_nil] at hq
    exact chk_mk c hq
  | x :: ds, acc, h, hl, hq => by
    refine chk_mk c (h x List.mem_cons_self _ _ ⟨?_, lcL_map f c ds (acc ++ [f x]) (fun y hy => h y (List.mem_cons_of_mem _ hy)) ?_ ?_⟩)
    · rw [List.length_cons] at hl
      omega
    · rw [List.length_append, List.length_singleton]
      rw [List.length_cons] at hl
      omega
    · rw [List.append_assoc]
      exact hq
/-- .. that may change the store -/
theorem lcL_inv {o : Cks} {en : D → Mu → (PD.Env → Prop) → Prop} {tt : TDT} {te : TDE} {Q : List D → Mu → Prop} (I : Nat → List D → Mu → Prop) {ds : List D} {μ : Mu} (h0 : I 0 [] μ) (hck : ∀ i acc μ, I i acc μ → CK o μ)
    (hs : ∀ i x acc μ, ds[i]? = some x → I i acc μ → ∀ (A : D → Mu → Prop) (B : Mu → Prop), (∀ d μ', acc.length < sizeLine → I (i + 1) (acc ++ [d]) μ' → A d μ') → (∀ μ', I (i + 1) acc μ' → B μ') → en x μ fun ρ' => tt xF ρ' μ fun b μ2 => dIf b (te xF ρ' μ2 A) (B μ2))
    (hl : ds.length ≤ sizeLine) (hn : ∀ i acc μ, I i acc μ → acc.length ≤ i) (hq : ∀ acc μ, I ds.length acc μ → Q acc μ) : lcL o en tt te Q ds [] μ := by
  suffices H : ∀ (n i : Nat) (acc : List D) (μ : Mu), i + n = ds.length → I i acc μ → lcL o en tt te Q (ds.drop i) acc μ from by
    have := H ds.length 0 [] μ (by omega) h0
    rwa [List.drop_zero] at this
  intro n
  induction n with
  | zero =>
    intro i acc μ e hi
    have e2 : i = ds.length := by omega
    subst e2
    rw [List.drop_length]
    exact chk_mk (hck _ _ _ hi) (hq _ _ hi)
  | succ n ih =>
    intro i acc μ e hi
    have hlt : i < ds.length := by omega
    rw [List.drop_eq_getElem_cons hlt]
    refine chk_mk (hck _ _ _ hi) (hs i _ acc μ (List.getElem?_eq_getElem hlt) hi _ _ (fun d μ' h1 h2 => ⟨h1, ih (i + 1) _ μ' (by omega) h2⟩) fun μ' h2 => ih (i + 1) _ μ' (by omega) h2)
/-- a for -/
theorem forL_inv {g : TDG} {b : TDS} {E : EndsD} {Xd : XE} {o : Cks} (I : Nat → PD.Env → Mu → Prop) {ds : List D} {ρ : PD.Env} {μ : Mu} (h0 : I 0 ρ μ) (hck : ∀ i ρ μ, I i ρ μ → CK o μ)
    (hs : ∀ i x ρ μ, ds[i]? = some x → I i ρ μ → ∀ N : PD.Env → Mu → Prop, (∀ ρ' μ', I (i + 1) ρ' μ' → N ρ' μ') → g x Xd ρ μ fun ρ' μ' => b { E with nx := N, ct := N, bk := E.nx } Xd ρ' μ') (hq : ∀ ρ μ, I ds.length ρ μ → E.nx ρ μ) : forL g b E Xd o ds ρ μ := by
  suffices H : ∀ (n i : Nat) (ρ : PD.Env) (μ : Mu), i + n = ds.length → I i ρ μ → forL g b E Xd o (ds.drop i) ρ μ from by
    have := H ds.length 0 ρ μ (by omega) h0
    rwa [List.drop_zero] at this
  intro n
  induction n with
  | zero =>
    intro i ρ μ e hi
    have e2 : i = ds.length := by omega
    subst e2
    rw [List.drop_length]
    exact chk_mk (hck _ _ _ hi) (hq _ _ hi)
  | succ n ih =>
    intro i ρ μ e hi
    have hlt : i < ds.length := by omega
    rw [List.drop_eq_getElem_cons hlt]
    exact chk_mk (hck _ _ _ hi) (hs i _ ρ μ (List.getElem?_eq_getElem hlt) hi _ fun ρ' μ' h2 => ih (i + 1) _ μ' (by omega) h2)
/-- .. to a given list -/
theorem lcL_to {o : Cks} {en : D → Mu → (PD.Env → Prop) → Prop} {te : TDE} {Q : List D → Mu → Prop} {μ : Mu} (c : CK o μ) : ∀ (ds ys acc : List D), ds.length = ys.length → (∀ (i : Nat) x y, ds[i]? = some x → ys[i]? = some y → ∀ (R : QD) (B : Prop), R y μ → en x μ fun ρ' => dIf true (te xF ρ' μ R) B) → acc.length + ds.length ≤ sizeLine → Q (acc ++ ys) μ → lcL o en tYe te Q ds acc μ
  | [], ys, acc, hn, _, _, hq => by
    cases ys with
    | nil =>
      rw [List.append_nil] at hq
      exact chk_mk c hq
    | cons _ _ => cases hn
  | x :: ds, ys, acc, hn, h, hl, hq => by
    cases ys with
    | nil => cases hn
    | cons y ys =>
      refine chk_mk c (h 0 x y rfl rfl _ _ ⟨?_, lcL_to c ds ys (acc ++ [y]) (by simpa using hn) (fun i a b ha hb => h (i + 1) a b ha hb) ?_ ?_⟩)
      · rw [List.length_cons] at hl
        omega
      · rw [List.length_append, List.length_singleton]
        rw [List.length_cons] at hl
        omega
      · rw [List.append_assoc]
        exact hq
theorem ex_draw : ∃ F : FD, F = F_draw := ⟨_, rfl⟩
noncomputable def F_drawO : FD := Classical.choose ex_draw
theorem F_drawO_eq : F_drawO = F_draw := Classical.choose_spec ex_draw
theorem ex_deal : ∃ F : FD, F = F_deal := ⟨_, rfl⟩
noncomputable def F_dealO : FD := Classical.choose ex_deal
theorem F_dealO_eq : F_dealO = F_deal := Classical.choose_spec ex_deal
theorem drawn {μ : Mu} {d l : Addr} {many : Int} {Q : QD} {Xd : XD → Mu → Prop} (hm : μ d = some (.deal l)) (h0 : 0 < many) (h1 : many ≤ 340282366920938463463374607431768211456) (h : ∀ r : Int, 0 ≤ r → r < many → Q (.int r) μ) : F_drawO [.ptr d, .int many] μ Q Xd := by
  rw [F_drawO_eq]
  exact draw_ok hm h0 h1 h
theorem dealt {μ : Mu} {ns : List Int} {b : Int} {Q : QD} {Xd : XD → Mu → Prop} (hn : ns.length ≤ 63) (h0 : 0 ≤ b) (h1 : b ≤ 1000) (h : ∀ d l, Im μ d → Im μ l → d ≠ l → Q (.ptr d) (μ.set d (.deal l))) : F_dealO [.scr ns, .int b] μ Q Xd := by
  rw [F_dealO_eq]
  exact ⟨hn, h0, h1, h⟩
end PD
set_option Elab.async false
set_option linter.all false
set_option maxRecDepth 100000
set_option maxHeartbeats 4000000
/-! the law's def where the surroundings are known: nothing is being shown (guards), so nested data may be shown -/
namespace LB
open PySem PySem.Spec PyProof.Rows L2
/-- the def at f, called as the claim calls it, keeps the promise sp -/
def RunsC (P : Program) (w : World) (K : PySem.W.Frag) (mg : Str → Option Value) (base : Heap) (f : Addr) (fd : FuncData) (ps : List Str) (sp : Sp) : Prop :=
  ∀ (s : Shared) (H : Hp) (args : Args) (us : List Value) (vs : List V) (Q : VK) (E : XK), Env0 P w K mg base callerA [] s H → BindsTo s fd args (ps.zip us) → Vals vs us → sp vs H Q E → codeAny (model P w) callerA (.call (.ref f) args) (CR CX0 [] P w H s Q E) s
section
variable {P : Program} {w : World} {K : PySem.W.Frag} {mg : Str → Option Value} {base : Heap}
theorem runsC_of {k : Nat} {x qual : Str} {st : Stmt} {f : Addr} {fd : FuncData} {N ps : List Str} {sp : Sp} (room : Room (k + 1) callerA) (G : Fun K x qual st f fd) (S : FnScope N ps (defScope st)) (len : ∀ vs H Q E, sp vs H Q E → vs.length = ps.length)
    (hb : ∀ (cdv : Value) (s : Shared) (H : Hp) (vs : List V) (Q : VK) (E : XK), Room k (callerA.deeper (envOfC qual (defScope st) s.heap.objs.size f cdv)) → sp vs H Q E →
      ∃ t, PSs (cxOf CX0 P w K mg base N qual (defScope st) f cdv callerA [] s H E).nox (defBody st) t ∧ t { nx := fun _ H' => Q .non H', rt := Q } (start N vs) H) : RunsC P w K mg base f fd ps sp := by
  obtain ⟨oc, od, kV, doc, pm, an, cdv, ct, osl, rfl, look, code⟩ := G.ex
  intro s H args us vs Q E env bd rel wish
  have same := len _ _ _ _ wish
  have stay := fun (b : Addr) (o : Obj) (e : base.get? b = some o) => (env.bs b o e).1
  have kin := env.mod.kin.keeps stay
  have free := env.mod.nolimit.keeps stay
  refine codeAny_call_function room.depth (kin _ _ look) rfl S.co S.gen rfl (PySem.W.codeRec_of kin code) (bd _ _ _ _ ?_)
  refine wpAny_newFunctionEnv_cells S.kind (fun y hy => ?_) fun env1 same1 s1 news => ?_
  · obtain ⟨n, v⟩ := y
    refine (S.par n (List.of_mem_zip hy).1).imp id fun q => ?_
    exact ⟨q, PySem.W.cellsFrom_some _ _ _ (.inl q)⟩
  · subst same1
    refine ⟨free.keeps news.toInCall.keep, codeAny_func ?_⟩
    obtain ⟨t, ht, here⟩ := hb cdv s H vs Q E (room.deeper _) wish
    have J0 := inv_start (CX := CX0) (E := E) (N := N) (P := P) (w := w) (K := K) (mg := mg) (base := base) S room.hd env same rel news
    refine wpAny_mono (ht.nox.run [] s1 (start N vs) H _ J0 here) (fun fl s' way => ?_) fun _ _ z => z
    cases fl with
    | ret u => exact let ⟨v, _, H', J, rv, q⟩ := way; ⟨v, H', J.os, J.bare, J.base, J.hok, rv, q⟩
    | next => exact let ⟨_, H', J, q⟩ := way; ⟨V.non, H', J.os, J.bare, J.base, J.hok, rfl, q⟩
    | brk => exact let ⟨_, _, _, q⟩ := way; False.elim q
    | cont => exact let ⟨_, _, _, q⟩ := way; False.elim q
end
/-- the claim's call, from such a promise -/
theorem lawC_call {P : Program} {w : World} {K : PySem.W.Frag} {mg mb : Str → Option Value} {f a : Addr} {fd : FuncData} {x : Str} {s : Shared} {vals : List Value} {ns : List Int} (kin : K.In s.heap) (gl : s.heap.Ns mainGlobals mg) (bn : s.heap.Ns builtinsNs mb)
    (bb : ∀ y : Str, y ≠ "__name__" → mb y = bootBuiltins y) (lim : s.heap.NoLimit) (gens : s.gens = #[]) (at_ : s.heap.get? a = some { cls := .type "list", data := .seq vals.toArray }) (nums : IntsAre vals ns) (short : ns.length ≤ 63)
    (run : ∀ base : Heap, K.In base → base.Ns mainGlobals mg → RunsC P w K mg base f fd [x] (spLaw K)) (bind : ∀ (s : Shared) (u : Value), BindsTo s fd ⟨[u], []⟩ [(x, u)]) :
    codeAny (model P w) callerA (.call (.ref f) ⟨[.ref a], []⟩) (fun r s' => r = .ok (.ret (.bool true)) ∧ OldK s.heap s'.heap ∧ s'.os = s.os ∧ AllBare s'.gens) s := by
  have small : ns.length ≤ sizeLine := Nat.le_trans short (by decide)
  let scr : HO := .frz { cls := .type "list", data := .seq vals.toArray } (.lst (ns.map V.int))
  -- T: what is tracked, the script or nothing
  suffices go : ∀ T : Hp, (∀ b, T b = none ∨ (b = a ∧ T b = some scr)) → SqL K T a (ns.map V.int) → HOk P w T s.heap → (T a ≠ none → K.lookup a = none) →
      codeAny (model P w) callerA (.call (.ref f) ⟨[.ref a], []⟩) (fun r s' => r = .ok (.ret (.bool true)) ∧ OldK s.heap s'.heap ∧ s'.os = s.os ∧ AllBare s'.gens) s by
    rcases hk : K.lookup a with _ | o
    · refine go (fun b => if b = a then some scr else none) (fun b => ?_) (.inl (.inr ⟨_, if_pos rfl⟩)) (fun b u z => ?_) fun _ => hk
      · by_cases e : b = a
        · exact .inr ⟨e, if_pos e⟩
        · exact .inl (if_neg e)
      · by_cases e : b = a
        · subst e
          cases (if_pos rfl).symm.trans z
          exact ⟨at_, by rw [List.length_map]; exact small, vals, _, vals_ints nums, at_⟩
        · cases (if_neg e).symm.trans z
    · have here := kin a o hk
      rw [at_] at here
      cases here
      exact go (fun _ => none) (fun _ => .inl rfl) (.inr ⟨_, vals.toArray, _, hk, rfl, rfl, rfl, by rw [List.size_toArray, nums.length]; exact small, by simpa using vals_ints nums⟩) (fun b u z => nomatch z) fun z => absurd rfl z
  intro T only seq ok out
  have noDict : ∀ {b : Addr} {o : Obj} {es : Array DictEntry} {ep : Nat}, s.heap.get? b = some o → o.data = .dict es ep → T b = none := fun {b o es ep} e d => (only b).elim id fun ⟨eq, _⟩ => by
    subst eq
    cases at_.symm.trans e
    cases d
  have over : ∀ {b : Addr} {m : Str → Option Value}, s.heap.Ns b m → (hidT s.heap T).Ns b m := fun {b m} ⟨o, es, ep, e, d, r⟩ => ⟨o, es, ep, hidT_get e (noDict e d), d, r⟩
  have kin0 : K.In (hidT s.heap T) := fun b o e => hidT_get (kin b o e) ((only b).elim id fun ⟨eq, z⟩ => by
    subst eq
    have no := out (by rw [z]; simp)
    rw [no] at e
    cases e)
  have mod : Mod K mg (hidT s.heap T) := ⟨kin0, over gl, ⟨mb, over bn, bb⟩, by obtain ⟨m, p, q⟩ := lim; exact ⟨m, over p, q⟩⟩
  have env : Env0 P w K mg (hidT s.heap T) callerA [] s T := ⟨rfl, mod, fun b o e => of_hidT e, Nat.le_of_eq (hidT_size _ _), trivial, fun b z => absurd (show b ∈ ([] : List Addr) from z) (by simp), ok, .of_eq gens⟩
  refine codeAny_mono (run _ kin0 (over gl) s T ⟨[.ref a], []⟩ [.ref a] [.ref a] (fun v _ => v = .bl true) (fun _ _ _ => False) env (bind s (.ref a)) (.cons rfl .nil) ⟨a, ns, rfl, seq, short, fun _ => rfl⟩) fun r s' end_ => ?_
  rcases r with e | fl
  · exact False.elim end_
  · cases fl with
    | next => exact False.elim end_
    | brk => exact False.elim end_
    | cont => exact False.elim end_
    | ret u =>
      obtain ⟨v, T', os, bare, un, ok', rv, is⟩ := end_
      subst is
      obtain rfl : u = Value.bool true := rv
      refine ⟨rfl, OldK.of_keep fun b o e => ?_, os, bare⟩
      rcases only b with no | ⟨_, yes⟩
      · exact un.keep b o e no (fun z => absurd (show b ∈ ([] : List Addr) from z) (by simp)) (by simp)
      · have same := (ok b _ yes).1
        have then_ := (ok' b _ (un.frzs b _ _ yes)).1
        rw [e] at same
        cases same
        exact then_
/-- the law's walk, from such a promise -/
theorem walkC {l : PySem.W.OpenLaw} {q : Program} {loose : List Str} {XP : (Str → Option Value) → Heap → Prop} {YP : World → Heap → Prop} {d : DefRec} {K : Params → PySem.W.Frag} (hn : l.most = some 63) (hdf : d.params.defaults = [])
    (hY : ∀ (w : World) (h : Heap), YP w h → (K w.params).In h)
    (F : ∀ (w : World) (mg : Str → Option Value) (fa : Addr) (h : Heap), (K w.params).In h → h.Ns mainGlobals mg → mg d.name = some (.ref fa) →
      ∃ fd : FuncData, (∀ (s : Shared) (u : Value), BindsTo s fd ⟨[u], []⟩ [("_law_script", u)]) ∧ ∀ base : Heap, (K w.params).In base → base.Ns mainGlobals mg → RunsC l.prog w (K w.params) mg base fa fd ["_law_script"] (spLaw (K w.params))) :
    PySem.W.WalkO q loose XP YP l.row.toRowW d [] (fun f vs => PySem.call f vs) := by
  refine Att.attach_call hn hdf fun w _ s mg mb fa _ _ _ _ a vals ns ground y _ _ _ named at_ nums short gens => ?_
  have kin := hY w _ y
  obtain ⟨fd, bind, run⟩ := F w mg fa _ kin ground.T.g named
  exact lawC_call kin ground.T.g ground.T.b ground.T.builtins ground.T.nolimit gens at_ nums short run bind
theorem LawFn.okC {P : Program} {w : World} {K : PySem.W.Frag} {mg : Str → Option Value} {fa : Addr} {st : Stmt} {N : List Str} {k : Nat} (F : LawFn K mg fa st) (room : Room (k + 1) callerA) (S : FnScope N ["_law_script"] (defScope st))
    (body : ∀ (base : Heap), K.In base → base.Ns mainGlobals mg → ∀ (cdv : Value) (s : Shared) (H : Hp) (vs : List V) (Q : VK) (E : XK), Room k (callerA.deeper (envOfC "law" (defScope st) s.heap.objs.size fa cdv)) → spLaw K vs H Q E →
      ∃ t, PSs (cxOf CX0 P w K mg base N "law" (defScope st) fa cdv callerA [] s H E).nox (defBody st) t ∧ t { nx := fun _ H' => Q .non H', rt := Q } (start N vs) H) :
    ∃ fd : FuncData, (∀ (s : Shared) (u : Value), BindsTo s fd ⟨[u], []⟩ [("_law_script", u)]) ∧ ∀ base : Heap, K.In base → base.Ns mainGlobals mg → RunsC P w K mg base fa fd ["_law_script"] (spLaw K) := by
  obtain ⟨fd, G, bind⟩ := F.ex
  refine ⟨fd, bind, fun base h1 h2 => runsC_of room G S (fun vs H Q E h => ?_) (body base h1 h2)⟩
  obtain ⟨a, ns, rfl, _⟩ := h
  rfl
end LB
set_option Elab.async false
set_option linter.all false
set_option autoImplicit false
set_option maxRecDepth 100000
set_option maxHeartbeats 4000000
namespace PD
open PySem PySem.Spec PyProof.Rows L2
/-! ### raise -/
section
variable {W : Wo} {hid : Hid} {H H' : Hp} {μ : Mu}
theorem St.ext (g : ∀ b o, H b = some o → H' b = some o) : St H μ H' μ := fun b o e i => ⟨g b o e, i⟩
theorem SR.ext (s : SR W hid H μ) (g : ∀ b o, H b = some o → H' b = some o) : SR W hid H' μ := by
  have same : ∀ {b o}, H b = some o → H' b = H b := fun {b o} e => (g b o e).trans e.symm
  refine ⟨fun a m h => ⟨(s.at_ a m h).1, (s.at_ a m h).2.mono (St.ext g).ok ?_ fun l e => ?_⟩, s.inn, s.one, s.hst (St.ext g)⟩
  · obtain ⟨o, q⟩ := s.known h
    exact same q
  · subst e
    obtain ⟨o, q⟩ := s.inner h
    exact same q
theorem repF_zip : ∀ {fs : List Str} {vs : List V} {ds : List D}, Reps W hid H μ vs ds → RepF W hid H μ (fs.zip vs) (fs.zip ds)
  | [], _, _, _ => .nil
  | _ :: _, _, _, .nil => .nil
  | _ :: _, _, _, .cons h r => .cons h (repF_zip r)
theorem repF_app : ∀ {fs fs' : List (Str × V)} {gs gs' : List (Str × D)}, RepF W hid H μ fs gs → RepF W hid H μ fs' gs' → RepF W hid H μ (fs ++ fs') (gs ++ gs')
  | _, _, _, _, .nil, q => q
  | _, _, _, _, .cons h r, q => .cons h (repF_app r q)
theorem repF_rev : ∀ {fs : List (Str × V)} {gs : List (Str × D)}, RepF W hid H μ fs gs → RepF W hid H μ fs.reverse gs.reverse
  | _, _, .nil => .nil
  | _, _, .cons h r => by
    rw [List.reverse_cons, List.reverse_cons]
    exact repF_app (repF_rev r) (.cons h .nil)
end
/-- the promise of an exception's __init__: its arguments are kept in the fields fs -/
def spExcN (C : Addr) (fs : List Str) : Sp := fun vs H Q _ => ∃ (a : Addr) (xs : List V), vs = .ref a :: xs ∧ xs.length = fs.length ∧ H a = some (exo a C none) ∧
  ∀ dx H', H dx = none → dx ≠ a → (∀ b, b ≠ a → b ≠ dx → H' b = H b) → H' a = some (exo a C (some dx)) → H' dx = some (exd dx (fs.zip xs).reverse) → Q .non H'
def sRaise (C : Str) (fs : List Str) (ta : TDA) : TDS := fun _ Xd ρ μ => ta Xd ρ μ fun ds μ1 => ds.length = fs.length ∧ Xd ⟨C, (fs.zip ds).reverse⟩ ρ μ1
section
variable {X : Cx} {W : Wo} {Wk : WX} {k : Nat} {C0 : Str} {ps fs : List Str} {e : Expr} {es : List Expr} {ta : TDA} {p pos pos' : Pos}
theorem bs_raise (c : LB.ExcCls X.K X.mg C0 (W.cl C0)) (D : LB.MethOk X.prog X.w X.K X.mg X.base k (W.cl C0) "__init__" ps (spExcN (W.cl C0) fs)) (hc : X.calm = true) (tk : Takes X Wk) (hr : Room (k + 1) X.A) (hg : Gl X C0) (ha : BA X W Wk (e :: es) ta) (hl : fs.length ≤ 1000 := by decide)
    (hdb : (C0 == ("__debug__" : Str)) = false := by decide) (he : starEach (e :: es) X.env = (false, eval e X.env) :: starEach es X.env := by rfl) (hpl : (backTo pos (starEach es X.env)).any (·.1) = false := by rfl) :
    BS X W Wk (.Raise (some (.Call (.Name C0 p) (e :: es) [] pos)) none pos') (sRaise C0 fs ta) :=
  PS.weak (LB.ps_raiseO c D hc tk hr hg ha hdb he hpl) fun E σ H ⟨hid, ρ, μ, Xd, Dd, rel, sr, q, pe, px⟩ => by
    refine ⟨hid, ρ, μ, Xd, _, rel, sr, q, fun vs ds H1 μ1 s1 sr1 r1 ⟨hn, q1⟩ => ?_, px.at_ rel⟩
    refine ⟨by rw [r1.length, hn]; exact hl, fun a ha => ⟨a, vs, by rw [List.append_nil], by rw [r1.length, hn], upd_same, fun dx H' h1 h2 h3 h4 h5 => ?_⟩⟩
    have hd : H1 dx = none := by
      rw [upd_ne h2] at h1
      exact h1
    have g : ∀ b o, H1 b = some o → upd (del H' a) dx (.xd (fs.zip vs).reverse) b = some o := fun b o e => by
      have n1 := ne_of_none e hd
      have n2 := ne_of_none e ha
      rw [upd_ne n1, del_ne n2, h3 b n2 n1, upd_ne n2]
      exact e
    have st := s1.trans (St.ext (μ := μ1) g)
    exact ⟨rfl, dx, _, h4, h5, hd, px _ _ _ σ ρ _ μ1 st (sr1.ext g) (rel_mono st.ok rel) ⟨rfl, .inr ⟨dx, _, rfl, upd_same, (sr1.fresh hd), sr1.nhid hd, (repF_rev (repF_zip r1)).mono (St.ext g).ok⟩⟩ q1⟩
/-! ### try, except C as e -/
/-- which classes the clause takes -/
structure Cats (K : PySem.W.Frag) (W : Wo) (c : Value) (cat : Str → Option Bool) : Prop where
  ok : ∀ C b, cat C = some b → PySem.W.exmOne K (.ref (W.cl C)) c = some b
def sTryAs (i : Nat) (cat : Str → Option Bool) (tb : TDS) (ts : Addr → Option Addr → Str → TDS) : TDS := fun E Xd ρ μ =>
  tb E (fun x ρ' μ' => match cat x.C with
    | some true => ∀ a dd, ts a dd x.C { nx := fun ρ1 μ1 => E.nx (ρ1.set i none) μ1, rt := E.rt, bk := fun ρ1 μ1 => E.bk (ρ1.set i none) μ1, ct := fun ρ1 μ1 => E.ct (ρ1.set i none) μ1 } (fun _ _ _ => False) (ρ'.set i (some (.exc a dd x.C x.fs))) μ'
    | some false => Xd x ρ' μ'
    | none => False) ρ μ
theorem bs_tryAs {x n : Str} {c : Value} {i : Nat} {body suite : List Stmt} {b₀ : Stmt} {np : Pos} {cat : Str → Option Bool} {tb : TDS} {ts : Addr → Option Addr → Str → TDS} (ct : Cats X.K W c cat) (hN : X.N.Nodup) (hi : X.N[i]? = some n) (hln : X.env.kindOf n = some .local) (hc : Names X x c) (tk : Takes X Wk)
    (hb : ∀ (Wb : WX) (pn : List (Addr × Obj)) (xe : Value → Shared → Prop), Takes (X.tr pn xe) Wb → PassesOwn (model X.prog X.w) X.A X.env xe → BSs (X.tr pn xe) W Wb body tb)
    (hsu : ∀ (a : Addr) (oe : Obj) (C : Str) (dd : Option Addr) (pn : List (Addr × Obj)), Zc (.ref (W.cl C)) dd oe → (∃ vs, oe.data = .fields vs) → BSs (X.suite a ((a, oe) :: pn)) W WF (b₀ :: suite) (ts a dd C))
    (hs : X.stack = X.env :: X.outer := by rfl) (hf : X.env.frame = some X.env.locals := by rfl) :
    BS X W Wk (.Try body [.ExceptHandler (some (.Name x np)) (some n) (b₀ :: suite) pos'] [] [] pos) (sTryAs i cat tb ts) :=
  PS.weak (LB.ps_tryE hs hf hN hi hln hc tk) fun E σ H ⟨hid, ρ, μ, Xd, Dd, rel, sr, q, pe, px⟩ => fun pn xe tk' po => by
    refine ⟨_, hb _ pn xe tk' po, hid, ρ, μ, _, Dd, rel, sr, q, pe, fun x cls dd σ' ρ' H' μ' s' sr' rel' xr q' => ?_⟩
    obtain ⟨C1, fs1⟩ := x
    obtain ⟨rfl, xr⟩ := xr
    dsimp only at q' xr
    split at q'
    · rename_i hcat
      refine ⟨true, ct.ok _ _ hcat, fun _ a ha oe pn' hz hd => ⟨_, hsu a oe C1 dd pn' hz hd, hid, ρ'.set i (some (.exc a dd C1 fs1)), μ', _, _, rel_set (.some ?_) i rel', sr', q' a dd, ?_, fun _ _ _ _ _ _ _ _ _ _ _ z => z.elim⟩, fun z => nomatch z⟩
      · rcases xr with ⟨rfl, rfl⟩ | ⟨d, fs, rfl, h1, h2, h3, h4⟩
        · exact .exc0
        · exact .exc h1 h2 h3 h4
      · have pe' := pe.st s'
        exact ⟨fun σ1 ρ1 H1 μ1 s1 sr1 rel1 q1 => pe'.nx _ _ H1 μ1 s1 sr1 (rel_set .none i rel1) q1, pe'.rt, fun σ1 ρ1 H1 μ1 s1 sr1 rel1 q1 => pe'.bk _ _ H1 μ1 s1 sr1 (rel_set .none i rel1) q1, fun σ1 ρ1 H1 μ1 s1 sr1 rel1 q1 => pe'.ct _ _ H1 μ1 s1 sr1 (rel_set .none i rel1) q1⟩
    · rename_i hcat
      exact ⟨false, ct.ok _ _ hcat, (fun z => nomatch z), fun _ => px _ _ dd σ' ρ' H' μ' s' sr' rel' ⟨rfl, xr⟩ q'⟩
    · exact q'.elim
/-! ### in the suite -/
/-- what the text says of its exceptions: the classes with the names of their fields -/
structure XOk (K : PySem.W.Frag) (W : Wo) (fls : List (Str × List Str)) : Prop where
  ok : ∀ C fs, fls.lookup C = some fs → ExcC K (W.cl C) ∧ (PySem.W.clsIn K (W.cl C)).isSome = true ∧ ∀ f ∈ fs, PySem.W.findIn K (.ref (W.cl C)) f = some none
theorem ExcC.xf {K : PySem.W.Frag} {C : Addr} (h : ExcC K C) : XfC K C := ⟨h.hg, h.hk, h.hs, h.hd⟩
def eXf (fls : List (Str × List Str)) (a : Addr) (dd : Option Addr) (C : Str) (f : Str) (te : TDE) : TDE := fun Xd ρ μ Q => te Xd ρ μ fun d μ1 => match d with
  | .exc a' dd' C' gs => a' = a ∧ dd' = dd ∧ C' = C ∧ (match fls.lookup C with | some fs => f ∈ fs | none => False) ∧ (match gs.lookup f with | some v => Q v μ1 | none => False)
  | _ => False
theorem attr_never {X : Cx} {e : Expr} {f : Str} {te t' : TE} {pos : Pos} (he : PE X e te) (k : ∀ σ H Q, t' σ H Q → te σ H fun _ _ => False) (hb : attributeBase e f X.env (eval e X.env) = eval e X.env := by rfl) : PE X (.Attribute e f pos) t' :=
  ⟨fun pins s σ H Q I h => attr_of hb (thn (he.run pins s σ H _ I (k σ H Q h)) fun _ _ ⟨_, _, _, _, z⟩ => z.elim)⟩
theorem be_xf {fls : List (Str × List Str)} {a : Addr} {C : Str} {dd : Option Addr} {oe : Obj} {pn : List (Addr × Obj)} {f : Str} {te : TDE} (T : XOk X.K W fls) (hz : Zc (.ref (W.cl C)) dd oe) (hf : ∃ vs, oe.data = .fields vs) (he : BE (X.suite a ((a, oe) :: pn)) W Wk e te) (hb : attributeBase e f X.env (eval e X.env) = eval e X.env := by rfl) :
    BE (X.suite a ((a, oe) :: pn)) W Wk (.Attribute e f pos) (eXf fls a dd C f te) := by
  by_cases hx : ∃ fs, fls.lookup C = some fs ∧ f ∈ fs
  · obtain ⟨fs, h1, h2⟩ := hx
    obtain ⟨c, _, no⟩ := T.ok C fs h1
    refine PE.weak (pe_xf (ExcC.xf c) (no f h2) hz hf he hb) fun σ H Q ⟨hid, ρ, μ, Xd, Qd, rel, sr, q, pq, px⟩ => ?_
    refine ⟨hid, ρ, μ, Xd, _, rel, sr, q, fun v d H1 μ1 s1 sr1 r1 q1 => ?_, px⟩
    dsimp only at q1
    split at q1
    · rename_i gs
      obtain ⟨rfl, rfl, rfl, _, q1⟩ := q1
      split at q1
      · rename_i z hz1
        cases r1 with
        | exc g1 _ _ g4 =>
          have ro := lookF_ok (f := f) g4
          rw [hz1] at ro
          generalize hl : List.lookup f _ = o at ro
          cases ro with
          | some r => exact ⟨rfl, rfl, _, _, _, rfl, g1, hl, pq _ _ H1 μ1 s1 sr1 r q1⟩
        | exc0 => cases hz1
      · exact q1.elim
    · exact q1.elim
  · refine attr_never he (fun σ H Q ⟨hid, ρ, μ, Xd, Qd, rel, sr, q, pq, px⟩ => ⟨hid, ρ, μ, Xd, _, rel, sr, q, fun v d H1 μ1 s1 sr1 r1 q1 => ?_, px⟩) hb
    dsimp only at q1
    split at q1
    · obtain ⟨_, _, _, h4, _⟩ := q1
      split at h4
      · rename_i fs h1
        exact hx ⟨fs, h1, h4⟩
      · exact h4
    · exact q1
/-- a tuple of classes -/
def tabAny (tab : Tab) (t : D) : List D → Option Bool
  | [] => some false
  | c :: r => match tab t c with
    | some true => some true
    | some false => tabAny tab t r
    | none => none
theorem tabAny_ok {K : PySem.W.Frag} {tab : Tab} (T : KIs K W tab) {t : D} : ∀ {cs : List D} {b : Bool}, tabAny tab t cs = some b → PySem.W.kitAny K (cval W t) (cs.map (cval W)) = some b
  | [], b, e => e
  | c :: r, b, e => by
    unfold tabAny at e
    show (match PySem.W.kitOne K (cval W t) (cval W c) with | some true => some true | some false => PySem.W.kitAny K (cval W t) (r.map (cval W)) | none => none) = some b
    split at e
    · rename_i h
      rw [T.ok _ _ _ h]
      exact e
    · rename_i h
      rw [T.ok _ _ _ h]
      exact tabAny_ok T e
    · cases e
theorem clsVs_of {hid : Hid} {H : Hp} {μ : Mu} : ∀ {vs : List V} {cs : List D} {us : List Value}, Reps W hid H μ vs cs → cs.all isC = true → Vals vs us → us = cs.map (cval W)
  | _, _, _, .nil, _, h => by
    cases h
    rfl
  | _, _, _, .cons r rr, a, h => by
    rw [List.all_cons, Bool.and_eq_true_iff] at a
    cases h with
    | cons h1 h2 => rw [clsVs_of rr a.2 h2, (clsV_of r a.1).eq h1, List.map_cons]
/-- isinstance(e, ..), e the exception that is held -/
def cIsE (fls : List (Str × List Str)) (tab : Tab) (a : Addr) (dd : Option Addr) (C : Str) : CD := fun ds μ Q => match ds with
  | [.exc a' dd' C' _, c] => a' = a ∧ dd' = dd ∧ C' = C ∧ (fls.lookup C).isSome = true ∧ (match c with
    | .tup cs => cs.all isC = true ∧ (match tabAny tab (.cls C) cs with | some b => Q (.bl b) μ | none => False)
    | c => isC c = true ∧ (match tab (.cls C) c with | some b => Q (.bl b) μ | none => False))
  | _ => False
theorem kitE_at {K : PySem.W.Frag} {C x : Addr} {ox : Obj} {od : Option Obj} (h : ExcC K C) (hc : (PySem.W.clsIn K C).isSome = true) : PySem.W.KitX K (.ref x) (.ref C) (fun h => PySem.W.InstAt h x ox C od) := PySem.W.kitx_exc hc h.hg h.hk h.hs h.ha h.hn h.ht h.hm
theorem cd_isE {fls : List (Str × List Str)} {tab : Tab} {a : Addr} {C : Str} {dd : Option Addr} {oe : Obj} {pn : List (Addr × Obj)} (CW : TW X.K X.w W) (T : XOk X.K W fls) (KI : KIs X.K W tab) (hz : Zc (.ref (W.cl C)) dd oe) (hf : ∃ vs, oe.data = .fields vs) :
    CallR (X.suite a ((a, oe) :: pn)) (.builtin "isinstance") (rCD W (cIsE fls tab a dd C)) := by
  intro pins s σ H xs us Q I rv ⟨hid, μ, ds, Qd, sr, r, h, pq⟩
  unfold cIsE at h
  split at h
  · rename_i a' dd' C' gs c
    obtain ⟨rfl, rfl, rfl, hfl, h⟩ := h
    obtain ⟨fs, hfl⟩ := Option.isSome_iff_exists.mp hfl
    obtain ⟨ec, cl, _⟩ := T.ok _ _ hfl
    cases r with
    | cons re r =>
      cases r with
      | cons rc r =>
        cases r
        obtain ⟨u1, u2, rfl, rv1, rv2⟩ := vals2 rv
        obtain ⟨hget, _⟩ := I.pin (_, oe) (List.mem_append.mpr (.inl List.mem_cons_self))
        obtain ⟨vs, hv⟩ := hf
        obtain ⟨od, J⟩ : ∃ od, PySem.W.InstAt s.heap _ oe (W.cl _) od := by
          cases re with
          | exc g1 _ _ _ =>
            obtain ⟨mA, hns, _⟩ := (show ObjOk X.prog X.w H s.heap _ (.xd _) from I.hok _ _ g1)
            obtain ⟨od, ho, _⟩ := lookIn_ns hns
            exact ⟨some od, hget, hz.1, by unfold PySem.W.notCls; rw [hv] <;> rfl, by rw [hz.2]; exact ho⟩
          | exc0 => exact ⟨none, hget, hz.1, by unfold PySem.W.notCls; rw [hv] <;> rfl, by rw [hz.2]; trivial⟩
        have ev : u1 = Value.ref a' := by
          cases re <;> exact rv1
        subst ev
        split at h
        · rename_i cs
          obtain ⟨hall, h⟩ := h
          split at h
          · rename_i b hb
            obtain ⟨ta, vs1, rfl, hs, rs⟩ := tup_ok rc
            rw [← CW.hK] at hs
            obtain ⟨its, hv1, ⟨o, i1, i2, n, i3⟩, _⟩ := I.tuple hs
            cases (show u2 = Value.ref ta from rv2)
            have ei := clsVs_of rs hall hv1
            subst ei
            obtain ⟨oc, odd, dt, sl⟩ := o
            simp only at i2 i3
            subst i2 i3
            exact PySem.W.kia_tup (kitE_at ec cl) I.kIn J i1 (tabAny_ok KI hb) (fun z => nomatch z) fun tk => ⟨.bl b, H, I.tok tk, rfl, pq _ _ H μ .refl sr (.bl b) h⟩
          · exact h.elim
        · obtain ⟨hc, h⟩ := h
          split at h
          · rename_i b hb
            have eu := (clsV_of rc hc).eq rv2
            subst eu
            exact PySem.W.kia_one (kitE_at ec cl) I.kIn J (KI.ok _ _ _ hb) (fun z => nomatch z) fun tk => ⟨.bl b, H, I.tok tk, rfl, pq _ _ H μ .refl sr (.bl b) h⟩
          · exact h.elim
  · exact h.elim
end
end PD
set_option Elab.async false
set_option linter.all false
set_option autoImplicit false
set_option maxRecDepth 100000
set_option maxHeartbeats 4000000
namespace PD
open PySem PySem.Spec PyProof.Rows L2
/-! ### repr of nested data, where nothing is being shown -/
def cRepr : CD := fun ds μ Q => match ds with
  | [d] => (match pyD μ d with
    | some x => x.showable = true ∧ x.depth ≤ 60 ∧ x.shown.length ≤ sizeLine ∧ Q (.str x.shown) μ
    | none => False)
  | _ => False
section
variable {X : Cx} {W : Wo} {Wk : WX}
mutual
theorem noDict_py {μ : Mu} : ∀ {d : D} {x : PyData}, pyD μ d = some x → x.hasDict = false
  | .non, x, e => by
    cases (Option.some.inj (show some PyData.none = some x from by simpa only [pyD] using e))
    simp only [PyData.hasDict]
  | .bl b, x, e => by
    cases (Option.some.inj (show some (PyData.bool b) = some x from by simpa only [pyD] using e))
    simp only [PyData.hasDict]
  | .int b, x, e => by
    cases (Option.some.inj (show some (PyData.int b) = some x from by simpa only [pyD] using e))
    simp only [PyData.hasDict]
  | .str b, x, e => by
    cases (Option.some.inj (show some (PyData.str b) = some x from by simpa only [pyD] using e))
    simp only [PyData.hasDict]
  | .tup xs, x, e => by
    have e' : (pyDs μ xs).map PyData.tuple = some x := by simpa only [pyD] using e
    cases h : pyDs μ xs with
    | none => rw [h] at e'; cases e'
    | some ys =>
      rw [h] at e'
      cases e'
      simp only [PyData.hasDict]
      exact noDict_pys h
  | .lst xs, x, e => by
    have e' : (pyDs μ xs).map PyData.list = some x := by simpa only [pyD] using e
    cases h : pyDs μ xs with
    | none => rw [h] at e'; cases e'
    | some ys =>
      rw [h] at e'
      cases e'
      simp only [PyData.hasDict]
      exact noDict_pys h
  | .ptr a, x, e => by
    simp only [pyD] at e
    split at e
    · rename_i ds hm
      cases h : flatDs ds with
      | none => rw [h] at e; cases e
      | some ys =>
        rw [h] at e
        cases e
        simp only [PyData.hasDict]
        exact noDict_fls h
    · cases e
  | .ty _, x, e => by simp only [pyD] at e; cases e
  | .obj _ _, x, e => by simp only [pyD] at e; cases e
  | .dct _, x, e => by simp only [pyD] at e; cases e
  | .scr _, x, e => by simp only [pyD] at e; cases e
  | .cls _, x, e => by simp only [pyD] at e; cases e
  | .exc _ _ _ _, x, e => by simp only [pyD] at e; cases e
  | .xob _ _, x, e => by simp only [pyD] at e; cases e
theorem noDict_pys {μ : Mu} : ∀ {ds : List D} {xs : List PyData}, pyDs μ ds = some xs → PyData.hasDictAll xs = false
  | [], xs, e => by
    cases (Option.some.inj (show some [] = some xs from by simpa only [pyDs] using e))
    simp only [PyData.hasDictAll]
  | d :: ds, xs, e => by
    simp only [pyDs] at e
    split at e
    · rename_i x ys e1 e2
      cases e
      simp only [PyData.hasDictAll, noDict_py e1, noDict_pys e2]
      rfl
    · cases e
theorem noDict_fl : ∀ {d : D} {x : PyData}, flatD d = some x → x.hasDict = false
  | .non, x, e => by
    cases (Option.some.inj (show some PyData.none = some x from by simpa only [flatD] using e))
    simp only [PyData.hasDict]
  | .bl b, x, e => by
    cases (Option.some.inj (show some (PyData.bool b) = some x from by simpa only [flatD] using e))
    simp only [PyData.hasDict]
  | .int b, x, e => by
    cases (Option.some.inj (show some (PyData.int b) = some x from by simpa only [flatD] using e))
    simp only [PyData.hasDict]
  | .str b, x, e => by
    cases (Option.some.inj (show some (PyData.str b) = some x from by simpa only [flatD] using e))
    simp only [PyData.hasDict]
  | .tup xs, x, e => by
    have e' : (flatDs xs).map PyData.tuple = some x := by simpa only [flatD] using e
    cases h : flatDs xs with
    | none => rw [h] at e'; cases e'
    | some ys =>
      rw [h] at e'
      cases e'
      simp only [PyData.hasDict]
      exact noDict_fls h
  | .lst xs, x, e => by
    have e' : (flatDs xs).map PyData.list = some x := by simpa only [flatD] using e
    cases h : flatDs xs with
    | none => rw [h] at e'; cases e'
    | some ys =>
      rw [h] at e'
      cases e'
      simp only [PyData.hasDict]
      exact noDict_fls h
  | .ptr _, x, e => by simp only [flatD] at e; cases e
  | .ty _, x, e => by simp only [flatD] at e; cases e
  | .obj _ _, x, e => by simp only [flatD] at e; cases e
  | .dct _, x, e => by simp only [flatD] at e; cases e
  | .scr _, x, e => by simp only [flatD] at e; cases e
  | .cls _, x, e => by simp only [flatD] at e; cases e
  | .exc _ _ _ _, x, e => by simp only [flatD] at e; cases e
  | .xob _ _, x, e => by simp only [flatD] at e; cases e
theorem noDict_fls : ∀ {ds : List D} {xs : List PyData}, flatDs ds = some xs → PyData.hasDictAll xs = false
  | [], xs, e => by
    cases (Option.some.inj (show some [] = some xs from by simpa only [flatDs] using e))
    simp only [PyData.hasDictAll]
  | d :: ds, xs, e => by
    simp only [flatDs] at e
    split at e
    · rename_i x ys e1 e2
      cases e
      simp only [PyData.hasDictAll, noDict_fl e1, noDict_fls e2]
      rfl
    · cases e
end
theorem cd_repr (C : TW X.K X.w W) (hg : X.A.guards = some []) (hu : X.A.units + 64 < cLine) : CallR X (.builtin "repr") (rCD W cRepr) := by
  intro pins s σ H xs us Q I rv ⟨hid, μ, ds, Qd, sr, r, h, pq⟩
  unfold cRepr at h
  split at h
  · rename_i d
    split at h
    · rename_i x hx
      obtain ⟨h1, h2, h3, h⟩ := h
      cases r with
      | cons r1 r =>
        cases r
        obtain ⟨u, eu, rv1⟩ := vals1 rv
        subst eu
        have dp := dp_of sr hx r1
        rw [← C.hK] at dp
        have no := noDict_py hx
        have fin : ∀ (h' : Heap) (u : Tok) (tk : Nat), (∀ b o, s.heap.get? b = some o → h'.get? b = some o) → EP X pins σ Q (.str x.shown u) { s with heap := h', toks := tk } := fun h' u tk k => ⟨.str _, H, I.kept k, ⟨u, rfl⟩, pq _ _ H μ .refl sr (.str _) h⟩
        obtain ⟨as, rd⟩ := dp.reads I _ _ _ rv1
        cases rd with
        | none =>
          have e : PyData.shown .none = "None" := by simp only [PyData.shown]
          rw [e] at fin
          exact P.repr_of_none (fin s.heap s.toks (s.toks + 1) fun _ _ z => z)
        | bool b =>
          have e : PyData.shown (.bool b) = if b then Str.ofString "True" else Str.ofString "False" := by simp only [PyData.shown]
          rw [e] at fin
          exact P.repr_of_bool (fin s.heap s.toks (s.toks + 1) fun _ _ z => z)
        | int i t =>
          have e : PyData.shown (.int i) = toString i := by simp only [PyData.shown]
          rw [e] at fin
          simp only [PyData.showable] at h1
          exact P.repr_of_int (of_decide_eq_true h1) (fin s.heap s.toks (s.toks + 1) fun _ _ z => z)
        | str z t =>
          have e : PyData.shown (.str z) = reprText z := by simp only [PyData.shown]
          rw [e] at fin h3
          exact P.repr_of_str (fin s.heap s.toks (s.toks + 1) fun _ _ z => z) h3
        | list a b c e => exact repr_of_reads' (.list a b c e) h1 (fun z => by rw [no] at z; cases z) hg (by omega) (fun _ _ z => z) fin h3
        | tuple a b c e => exact repr_of_reads' (.tuple a b c e) h1 (fun z => by rw [no] at z; cases z) hg (by omega) (fun _ _ z => z) fin h3
        | dict _ _ _ _ _ => simp only [PyData.hasDict] at no; cases no
    · exact h.elim
  · exact h.elim
end
end PD
set_option Elab.async false
set_option linter.all false
set_option autoImplicit false
set_option maxRecDepth 100000
set_option maxHeartbeats 4000000
namespace PD
open PySem PySem.Spec PyProof.Rows L2
section
variable {X : Cx} {W : Wo} {Wk : WX}
def mUpper : MD := fun d ds μ Q => match d, ds with
  | .str a, [] => a.length ≤ 5592405 ∧ Q (.str (Txt.upper a)) μ
  | _, _ => False
theorem md_upper : MtR X "str.upper" (rMD W mUpper) := MtR.weak mt_upper fun x vs H Q ⟨hid, μ, d, ds, Qd, sr, r, rs, h, pq⟩ => by
  unfold mUpper at h
  split at h
  · cases r
    cases rs
    exact ⟨_, rfl, rfl, h.1, pq _ _ H μ .refl sr (.str _) h.2⟩
  · exact h.elim
end
end PD
set_option Elab.async false
set_option linter.all false
set_option autoImplicit false
set_option maxRecDepth 100000
set_option maxHeartbeats 4000000
/-! x.replace(y, z, 1) of written texts y, z: some text, not much longer -/
namespace PD
open PySem PySem.Spec PyProof.Rows L2 Builtin Builtin.Str
section
variable {prog : Program} {w : World} {A : Around} {E : Value → Shared → Prop} {s : Shared} {x y z : Str} {t u v n : Tok} {Q : Value → Shared → Prop}
theorem gives_once (x y z : Str) (t u v n : Tok) (cuts : List Nat) (ec : occurrences x y 0 x.length 1 = cuts) (hs : isSame (.str y u) (.str z v) = pure false) (hl : tooLong (x.length + cuts.length * z.length) = false) :
    Gives («str.replace» ⟨[.str x t, .str y u, .str z v, .int 1 n], []⟩) (if (cuts.isEmpty || (y.length == 0 && z.length == 0)) = true then .val (.str x t) else .str (glued z (partsBetween x cuts y.length))) := by
  have e : «str.replace» ⟨[.str x t, .str y u, .str z v, .int 1 n], []⟩ = (countLimit "str.replace" (some (.int 1 n)) (x.length + 1) >>= fun most => (
      if ((occurrences x y 0 x.length most).isEmpty || (y.length == 0 && z.length == 0)) = true then rule "str.replace.nothing" >>= fun _ => ret (.str x t) else
        isSame (.str y u) (.str z v) >>= fun same => if same = true then rule "str.replace.old-is-new" >>= fun _ => ret (.str x t) else
          if tooLong (x.length + (occurrences x y 0 x.length most).length * z.length) = true then unsupported "str.replace:memory" else retStr (glued z (partsBetween x (occurrences x y 0 x.length most) y.length)))) := rfl
  rw [e, countLimit_int _ _ _ _ (by decide), pure_bind]
  have e1 : (if (1 : Int) < 0 then x.length + 1 else Int.toNat 1) = 1 := rfl
  rw [e1, ec, hs, pure_bind, hl]
  cases (cuts.isEmpty || (y.length == 0 && z.length == 0))
  · exact .of_eq rfl
  · exact .rule (.of_eq rfl)
theorem joinL_mem {y : List Nat} {c : Nat} : ∀ {ps : List (List Nat)}, c ∈ TL.joinL y ps → c ∈ y ∨ ∃ p ∈ ps, c ∈ p
  | [], h => by simp [TL.joinL] at h
  | [p], h => by
    simp [TL.joinL] at h
    exact .inr ⟨p, by simp, h⟩
  | p :: q :: r, h => by
    have h' : c ∈ p ++ (y ++ TL.joinL y (q :: r)) := h
    rcases List.mem_append.mp h' with z | z
    · exact .inr ⟨p, by simp, z⟩
    · rcases List.mem_append.mp z with z | z
      · exact .inl z
      · rcases joinL_mem z with z | ⟨u, hu, hc⟩
        · exact .inl z
        · exact .inr ⟨u, List.mem_cons_of_mem _ hu, hc⟩
/-- the signs of a text behind replace -/
theorem glued_mem {x z : Str} {cuts : List Nat} {n c : Nat} (h : c ∈ (glued z (partsBetween x cuts n)).cps.toList) : c ∈ x.cps.toList ∨ c ∈ z.cps.toList := by
  rw [StrLaws.glued_eq_join] at h
  have h' : c ∈ TL.tl (Str.join z (partsBetween x cuts n)) := h
  rw [TL.tl_join] at h'
  rcases joinL_mem h' with h' | ⟨p, hp, hc⟩
  · exact .inr h'
  · refine .inl ?_
    obtain ⟨q, hq, rfl⟩ := List.mem_map.mp hp
    unfold partsBetween at hq
    obtain ⟨⟨i, j⟩, _, rfl⟩ := List.mem_map.mp hq
    rw [TL.tl_strSub] at hc
    exact List.mem_of_mem_drop (List.mem_of_mem_take hc)
theorem replace_once (hu : u ≠ 0) (hv : v ≠ 0) (huv : u ≠ v) (hyz : (y == z) = false) (hb : x.length + 2 * z.length ≤ 16777216) (hq : ∀ (r : Str) t' k, r.length ≤ x.length + 2 * z.length → (∀ c ∈ r.cps.toList, c ∈ x.cps.toList ∨ c ∈ z.cps.toList) → Q (.str r t') { s with toks := k }) :
    wpAny (model prog w) A (call (.builtin "str.replace") [.str x t, .str y u, .str z v, .int 1 n]) Q E s := by
  obtain ⟨cuts, ec⟩ : ∃ c, occurrences x y 0 x.length 1 = c := ⟨_, rfl⟩
  have few : cuts.length ≤ 1 := by
    rw [← ec]
    exact StrLaws.occ_length_le x y 0 x.length 1
  have m : cuts.length * z.length ≤ 1 * z.length := Nat.mul_le_mul_right _ few
  have hl : tooLong (x.length + cuts.length * z.length) = false := by
    unfold tooLong
    rw [sizeLine_eq]
    exact decide_eq_false (by omega)
  have long : (glued z (partsBetween x cuts y.length)).length ≤ x.length + 2 * z.length := by
    have h1 : (glued y (partsBetween x cuts y.length)).length = x.length := by rw [← ec, StrLaws.glued_between_self]
    rw [size_glued, length_partsBetween, Nat.add_sub_cancel] at h1 ⊢
    omega
  refine call_gives F.slot_str_replace (typeIs_str _ _ _) F.entry_str_replace (F.args_str_replace_4 _ _ _ _) (gives_once x y z t u v n cuts ec (isSame_str_other y z u v (by simp [hu, hv]) (by simp [huv]) hyz) hl) ?_
  cases (cuts.isEmpty || (y.length == 0 && z.length == 0))
  · simp only [Bool.false_eq_true, if_false]
    exact ⟨by rw [sizeLine_eq]; omega, hq _ _ _ long fun c hc => glued_mem hc⟩
  · simp only [if_true]
    exact hq x t s.toks (by omega) fun c hc => .inl hc
end
section
variable {X : Cx} {W : Wo} {Wk : WX} {o e : Expr} {es : List Expr} {td : TDE} {tr : TDA} {y z : Str} {j k l : Nat} {c0 c1 c2 apos pos p : Pos}
def eRepl1 (td : TDE) (z : Str) : TDE := fun Xd ρ μ Q => td Xd ρ μ fun d μ1 => match d with
  | .str x => x.length + 2 * z.length ≤ 16777216 ∧ ∀ r : Str, r.length ≤ x.length + 2 * z.length → (∀ c ∈ r.cps.toList, c ∈ x.cps.toList ∨ c ∈ z.cps.toList) → Q (.str r) μ1
  | _ => False
abbrev BET (X : Cx) (W : Wo) (Wk : WX) (e : Expr) (td : TDE) : Prop := PET X e (TD W Wk td)
abbrev BAT (X : Cx) (W : Wo) (Wk : WX) (es : List Expr) (td : TDA) : Prop := PAT X es (TDa W Wk td)
theorem bet_repl1 (ho : BE X W Wk o td) (hyz : (y == z) = false := by decide)
    (hst : starEach [.Constant (.str y) j c0, .Constant (.str z) k c1, .Constant (.int 1) l c2] X.env = [(false, eval (.Constant (.str y) j c0) X.env), (false, eval (.Constant (.str z) k c1) X.env), (false, eval (.Constant (.int 1) l c2) X.env)] := by rfl)
    (hbase : attributeBase o "replace" X.env (eval o X.env) = eval o X.env := by rfl) (hline : (apos.endLine == pos.line) = true := by rfl) :
    BET X W Wk (.Call (.Attribute o "replace" apos) [.Constant (.str y) j c0, .Constant (.str z) k c1, .Constant (.int 1) l c2] [] pos) (eRepl1 td z) := by
  intro pins s σ H Q h0 I ⟨hid, ρ, μ, Xd, Qd, rel, sr, q, pq, px⟩
  refine PySem.wpAny_Call_method_lateS hbase (by rw [hst]; rfl) hline ?_
  rw [hst]
  show wpAny _ _ (eval o X.env) (fun ov s₁ => PySem.MethodOnS X.prog X.w X.A X.xe "replace" ov pos [(false, eval (.Constant (.str y) j c0) X.env), (false, eval (.Constant (.str z) k c1) X.env), (false, eval (.Constant (.int 1) l c2) X.env)] (EP X pins σ Q) s₁) X.xe s
  refine wpAny_mono (PySem.wpAny_toks (ho.run pins s σ H (fun v H1 => ∃ x, v = .str x ∧ x.length + 2 * z.length ≤ 16777216 ∧ ∀ r : Str, r.length ≤ x.length + 2 * z.length → (∀ c ∈ r.cps.toList, c ∈ x.cps.toList ∨ c ∈ z.cps.toList) → Q (.str r) H1) I ⟨hid, ρ, μ, Xd, _, rel, sr, q, fun v d H1 μ1 s1 sr1 r1 q1 => ?_, px⟩)) (fun v s1 q => ?_) fun _ _ z => z.2
  · dsimp only at q1
    split at q1
    · cases r1
      exact ⟨_, rfl, q1.1, fun r hr hm => pq _ _ H1 μ1 s1 sr1 (.str r) (q1.2 r hr hm)⟩
    · exact q1.elim
  · obtain ⟨hk, v', H1, I1, r1, x, rfl, hb, q⟩ := q
    obtain ⟨tx, rfl⟩ := r1
    refine ⟨"str", _, PySem.F.plainAttrs_str, PySem.F.slot_str_replace, PySem.F.type_str_replace, typeIs_str _ _ _, (fun _ e => nomatch e), Calls.callWith_builtin rfl (Calls.evalArgs_plain (Calls.spliced_cons ?_))⟩
    refine Calls.Constant_str ?_
    refine Calls.spliced_cons ?_
    refine Calls.Constant_str ?_
    refine Calls.spliced_cons ?_
    refine wpAny_Constant_int ?_
    refine Calls.spliced_nil ?_
    exact replace_once (by show s1.toks ≠ 0; omega) (by show s1.toks + 1 ≠ 0; omega) (by show s1.toks ≠ s1.toks + 1; omega) hyz hb fun r t' k hr hm => ⟨.str r, H1, I1.tok k, ⟨t', rfl⟩, q r hr hm⟩
theorem BET.of (h : BE X W Wk e td) : BET X W Wk e td := fun pins s σ H Q _ I q => h.run pins s σ H Q I q
theorem bat_nil : BAT X W Wk [] aNil := fun pos pins s σ H Q _ I q => ba_nil.run pos pins s σ H Q I q
theorem consT_td {te : TDE} {σ : L2.St} {H : Hp} {Q : List V → Hp → Prop} (h : TDa W Wk (aCons te tr) σ H Q) : tCons (TD W Wk te) (TDa W Wk tr) σ H Q := by
  obtain ⟨hid, ρ, μ, Xd, Qd, rel, sr, q, pq, px⟩ := h
  refine ⟨hid, ρ, μ, Xd, _, rel, sr, q, fun v d H1 μ1 s1 sr1 r1 q1 => ?_, px⟩
  refine ⟨hid, ρ, μ1, Xd, _, rel_mono s1.ok rel, sr1, q1, fun vs ds H2 μ2 s2 sr2 r2 q2 => ?_, px.st s1⟩
  exact pq _ _ H2 μ2 (s1.trans s2) sr2 (.cons (r1.mono s2.ok) r2) q2
theorem bat_cons {te : TDE} (ha : BET X W Wk e te) (hr : BAT X W Wk es tr) (hs : starEach (e :: es) X.env = (false, eval e X.env) :: starEach es X.env := by rfl) : BAT X W Wk (e :: es) (aCons te tr) :=
  fun pos pins s σ H Q h0 I q => pat_cons ha hr hs pos pins s σ H Q h0 I (consT_td q)
/-- behind a written text a token is out -/
theorem ba_litT {op : Operator} {oo : OD} {a : Expr} {ta : TDE} {c : Str} (ho : OpR X (binaryOp op) (rD W oo)) (ha : BE X W Wk a ta) (hr : BAT X W Wk es tr)
    (hs : starEach (.BinOp a op (.Constant (.str c) j c0) p :: es) X.env = (false, eval (.BinOp a op (.Constant (.str c) j c0) p) X.env) :: starEach es X.env := by rfl) : BA X W Wk (.BinOp a op (.Constant (.str c) j c0) p :: es) (aCons (eBin oo ta (eC (.str c))) tr) := by
  refine ⟨fun pos pins s σ H Q I q => ?_⟩
  have q1 := bin_td (show TD W Wk (eBin oo ta (eC (.str c))) σ H _ from consT_td q)
  rw [hs]
  show wpAny _ _ (spliced ((false, eval (.BinOp a op (.Constant (.str c) j c0) p) X.env) :: backTo pos (starEach es X.env))) _ _ s
  refine Calls.spliced_cons (wpAny_BinOp (thn (ha.run pins s σ H _ I q1) fun v s1 ⟨x, H1, I1, r1, q2⟩ => Calls.Constant_str ?_))
  obtain ⟨hid, ρ, μ, Xd, Qd, rel, sr, q2, pq, px⟩ := q2
  have q3 := pq (.str c) (.str c) H1 μ .refl sr (.str c) q2
  refine wpAny_mono (PySem.wpAny_toks (ho pins _ σ H1 x (.str c) v _ _ (I1.tok (s1.toks + 1)) r1 ⟨s1.toks, rfl⟩ q3)) (fun u s2 q4 => ?_) fun _ _ z => z.2
  obtain ⟨hk, x2, H2, I2, r2, q5⟩ := q4
  have one : 1 ≤ s2.toks := Nat.le_trans (show 1 ≤ s1.toks + 1 by omega) hk
  exact thn (hr pos pins s2 σ H2 _ one I2 q5) fun us s3 ⟨xs, H3, I3, r3, q6⟩ => ⟨x2 :: xs, H3, I3, .cons r2 r3, q6⟩
end
end PD
set_option Elab.async false
set_option linter.all false
set_option autoImplicit false
set_option maxRecDepth 100000
set_option maxHeartbeats 4000000
/-! defs that show nested data: they are called where nothing is being shown -/
namespace LB
open PySem PySem.Spec PyProof.Rows L2
structure FnG (P : Program) (w : World) (K : PySem.W.Frag) (mg : Str → Option Value) (base : Heap) (k : Nat) (f : Addr) (fd : FuncData) (ps : List Str) (sp : Sp) : Prop where
  len : ∀ vs H Q E, sp vs H Q E → vs.length = ps.length
  run : ∀ (A : Around) (outer : List Env) (s : Shared) (H : Hp) (args : Args) (us : List Value) (vs : List V) (Q : VK) (E : XK), Room k A → A.guards = some [] → Env0 P w K mg base A outer s H → BindsTo s fd args (ps.zip us) → Vals vs us → sp vs H Q E →
    codeAny (model P w) A (.call (.ref f) args) (CR (L2.CX P w) outer P w H s Q E) s
structure DefG (P : Program) (w : World) (K : PySem.W.Frag) (mg : Str → Option Value) (base : Heap) (k : Nat) (x : Str) (ps : List Str) (sp : Sp) : Prop where
  ex : ∃ (f : Addr) (fd : FuncData), FnG P w K mg base k f fd ps sp ∧ mg x = some (.ref f) ∧ PySem.W.keepIn K (.ref f) = true ∧ Binds K fd ps []
section
variable {P : Program} {w : World} {K : PySem.W.Frag} {mg : Str → Option Value} {base : Heap}
theorem TopFn.okG {x : Str} {st : Stmt} {N ps : List Str} {k : Nat} {sp : Sp} (F : TopFn K mg x st ps) (S : FnScope N ps (defScope st)) (len : ∀ vs H Q E, sp vs H Q E → vs.length = ps.length)
    (hb : ∀ (f : Addr) (cdv : Value) (A : Around) (outer : List Env) (s : Shared) (H : Hp) (vs : List V) (Q : VK) (E : XK), Room k (A.deeper (envOfC x (defScope st) s.heap.objs.size f cdv)) → (A.deeper (envOfC x (defScope st) s.heap.objs.size f cdv)).guards = some [] → sp vs H Q E →
      ∃ t, PSs (cxOf (L2.CX P w) P w K mg base N x (defScope st) f cdv A outer s H E) (defBody st) t ∧ t { nx := fun _ H' => Q .non H', rt := Q } (start N vs) H) : DefG P w K mg base (k + 1) x ps sp := by
  obtain ⟨f, fd, G, hm, b⟩ := F.ex
  refine ⟨f, fd, ⟨len, ?_⟩, hm, G.kp, b⟩
  obtain ⟨oc, od, kV, doc, pm, an, cdv, ct, osl, rfl, look, code⟩ := G.ex
  intro A outer s H args us vs Q E room gd env bd rel wish
  have same := len _ _ _ _ wish
  have stay := fun (b : Addr) (o : Obj) (e : base.get? b = some o) => (env.bs b o e).1
  have kin := env.mod.kin.keeps stay
  have free := env.mod.nolimit.keeps stay
  refine codeAny_call_function room.depth (kin _ _ look) rfl S.co S.gen rfl (PySem.W.codeRec_of kin code) (bd _ _ _ _ ?_)
  refine wpAny_newFunctionEnv_cells S.kind (fun y hy => ?_) fun env1 same1 s1 news => ?_
  · obtain ⟨n, v⟩ := y
    refine (S.par n (List.of_mem_zip hy).1).imp id fun q => ?_
    exact ⟨q, PySem.W.cellsFrom_some _ _ _ (.inl q)⟩
  · subst same1
    refine ⟨free.keeps news.toInCall.keep, codeAny_func ?_⟩
    obtain ⟨t, ht, here⟩ := hb f cdv A outer s H vs Q E (room.deeper _) gd wish
    have J0 := inv_start (CX := L2.CX P w) (E := E) (N := N) (P := P) (w := w) (K := K) (mg := mg) (base := base) S room.hd env same rel news
    refine wpAny_mono (ht.run [] s1 (start N vs) H _ J0 here) (fun fl s' way => ?_) fun _ _ z => z
    cases fl with
    | ret u => exact let ⟨v, _, H', J, rv, q⟩ := way; ⟨v, H', J.os, J.bare, J.base, J.hok, rv, q⟩
    | next => exact let ⟨_, H', J, q⟩ := way; ⟨V.non, H', J.os, J.bare, J.base, J.hok, rfl, q⟩
    | brk => exact let ⟨_, _, _, q⟩ := way; False.elim q
    | cont => exact let ⟨_, _, _, q⟩ := way; False.elim q
end
section
variable {X : Cx} {k : Nat} {x : Str} {ps : List Str} {sp : Sp} {e : Expr} {es : List Expr} {t : TA} {p pos : Pos} {E : L2.St → XK}
theorem pe_fnG (D : DefG X.prog X.w X.K X.mg X.base k x ps sp) (hx : ∀ σ, PassesAt (L2.CX X.prog X.w) X σ (E σ)) (hr : Room k X.A) (gd : X.A.guards = some []) (hg : Gl X x) (ha : PA X (e :: es) t) (hdb : (x == ("__debug__" : Str)) = false := by decide)
    (he : starEach (e :: es) X.env = (false, eval e X.env) :: starEach es X.env := by rfl) (hpl : (backTo pos (starEach es X.env)).any (·.1) = false := by rfl) : PE X (.Call (.Name x p) (e :: es) [] pos) (tCallSD sp [] E t) := by
  obtain ⟨f, fd, F, hm, hk, hb⟩ := D.ex
  refine ⟨fun pins s σ H Q I h => wpAny_Call_Name_kw (ld_glob I hg hm ?_ hdb)⟩
  refine PySem.W.callWith_K (h₀ := X.base) I.ok.mod.kin hk (thn (ha.run pos pins s σ H _ I h) fun us s1 ⟨vs, H1, I1, r, q⟩ => ⟨I1.kIn, ?_⟩) he hpl
  have q : sp vs H1 Q (E σ) := by have := q; dsimp only at this; rwa [List.append_nil] at this
  have same : us.length = ps.length := by rw [← r.length]; exact F.len _ _ _ _ q
  refine wpAny_call (codeAny_mono (F.run X.A X.stack s1 H1 ⟨us, []⟩ us vs Q (E σ) hr gd I1.env0 (by have := hb s1 us I1.kIn (by rw [List.append_nil]; exact same); rwa [List.append_nil] at this) r q) fun r' s' end_ => ?_)
  rcases r' with er | fl
  · exact hx σ pins H1 s1 er s' I1 end_
  · cases fl with
    | ret u => exact I1.after end_
    | next => exact False.elim end_
    | brk => exact False.elim end_
    | cont => exact False.elim end_
end
end LB
set_option Elab.async false
set_option linter.all false
set_option autoImplicit false
set_option maxRecDepth 100000
set_option maxHeartbeats 4000000
namespace PD
open PySem PySem.Spec PyProof.Rows L2
/-! ### defs that are called where nothing is being shown -/
section
variable {P : Program} {w : World} {K : PySem.W.Frag} {mg : Str → Option Value} {base : Heap} {W : Wo}
theorem TopFn_okG {x : Str} {st : Stmt} {N ps : List Str} {k : Nat} {ts : TDS} (F : LB.TopFn K mg x st ps) (S : FnScope N ps (defScope st))
    (hbody : ∀ (f : Addr) (cdv : Value) (A : Around) (outer : List PySem.Env) (s : Shared) (H : Hp) (E : XK), Room k (A.deeper (envOfC x (defScope st) s.heap.objs.size f cdv)) → (A.deeper (envOfC x (defScope st) s.heap.objs.size f cdv)).guards = some [] →
      BSs (cxOf (L2.CX P w) P w K mg base N x (defScope st) f cdv A outer s H E) W (fun cls d _ H => E cls d H) (defBody st) ts) : LB.DefG P w K mg base (k + 1) x ps (spD W ps.length (fnD N.length ts)) := by
  refine F.okG S (fun vs H Q E h => ?_) fun f cdv A outer s H vs Q E hr hg h => ⟨_, hbody f cdv A outer s H E hr hg, body_ok h⟩
  obtain ⟨hid, ds, μ, Qd, Xd, hn, r, _⟩ := h
  rw [r.length]
  exact hn
/-! ### a def that gives a new list that goes on to change -/
def Mu.keepR (μ' : Mu) (d : D) (μ : Mu) : Mu := match d with
  | .ptr p => fun b => if (μ b).isSome = true ∨ b = p then μ' b else none
  | _ => μ'.inter μ
theorem Mu.keepR_le {μ' μ : Mu} {d : D} : Le (μ'.keepR d μ) μ' := by
  cases d
  case ptr p =>
    intro b
    unfold Mu.keepR
    dsimp only
    split
    · exact .inr rfl
    · exact .inl rfl
  all_goals exact Mu.inter_le
theorem Mu.keepR_new {μ : Mu} {p : Addr} {m : MO} : (μ.set p m).keepR (.ptr p) μ = μ.set p m := by
  funext b
  unfold Mu.keepR
  dsimp only
  by_cases e : b = p
  · rw [if_pos (.inr e)]
  · rw [Mu.set_ne e]
    cases h : μ b with
    | none =>
      rw [if_neg]
      rintro (z | z)
      · cases z
      · exact e z
    | some m => rw [if_pos (.inl rfl)]
def fnDm (n : Nat) (ts : TDS) : FD := fun ds μ Q Xd => ts { nx := fun _ μ' => Q .non (μ'.inter μ), rt := fun d μ' => Q d (μ'.keepR d μ) } (fun x _ μ' => Xd x (μ'.inter μ)) (startD n ds) μ
theorem body_okm {N : List Str} {ts : TDS} {E : XK} {vs : List V} {H : Hp} {Q : VK} {n : Nat} (h : spD W n (fnDm N.length ts) vs H Q E) : TDs W (fun cls d _ H => E cls d H) ts { nx := fun _ H' => Q .non H', rt := Q } (L2.start N vs) H := by
  obtain ⟨hid, ds, μ, Qd, Xd, hn, r, sr, q, pq, pf⟩ := h
  have cut : ∀ {H' μ'}, St H μ H' μ' → St H μ H' (μ'.inter μ) := fun s => s.trans Mu.inter_le.st
  refine ⟨hid, startD N.length ds, μ, _, _, rel_start r, sr, q, ⟨?_, ?_, fun _ _ _ _ _ _ _ z => z.elim, fun _ _ _ _ _ _ _ z => z.elim⟩, ?_⟩
  · exact fun σ' ρ' H' μ' s' sr' _ q' => pq .non .non H' _ (cut s') (sr'.le Mu.inter_le) .non q'
  · exact fun v d H' μ' s' sr' r' q' => pq v d H' _ (s'.trans Mu.keepR_le.st) (sr'.le Mu.keepR_le) (r'.mono Mu.keepR_le.st.ok) q'
  · intro x cls dd σ' ρ' H' μ' s' sr' _ xr q'
    refine pf x cls dd H' _ (cut s') (sr'.le Mu.inter_le) ⟨xr.1, ?_⟩ q'
    rcases xr.2 with z | ⟨a, fs, e1, e2, i, n, e3⟩
    · exact .inl z
    · exact .inr ⟨a, fs, e1, e2, Mu.inter_le.im i, n, e3.mono Mu.inter_le.st.ok⟩
theorem TopFn_okDm {x : Str} {st : Stmt} {N ps : List Str} {k : Nat} {ts : TDS} (F : LB.TopFn K mg x st ps) (S : FnScope N ps (defScope st))
    (hbody : ∀ (f : Addr) (cdv : Value) (A : Around) (outer : List PySem.Env) (s : Shared) (H : Hp) (E : XK), Room k (A.deeper (envOfC x (defScope st) s.heap.objs.size f cdv)) →
      BSs (cxOf (L2.CX P w) P w K mg base N x (defScope st) f cdv A outer s H E) W (fun cls d _ H => E cls d H) (defBody st) ts) : LB.DefX P w K mg base (k + 1) x ps [] (spD W ps.length (fnDm N.length ts)) := by
  refine F.okX S (fun vs H Q E h => ?_) fun f cdv A outer s H vs Q E hr h => ⟨_, hbody f cdv A outer s H E hr, body_okm h⟩
  obtain ⟨hid, ds, μ, Qd, Xd, hn, r, _⟩ := h
  rw [r.length]
  exact hn
end
section
variable {X : Cx} {W : Wo} {Wk : WX} {k n : Nat} {x : Str} {ps : List Str} {F : FD} {e : Expr} {es : List Expr} {ta : TDA} {p pos : Pos} {C0 : Str}
theorem fnG_td {σ : L2.St} {H : Hp} {Q : VK} (h : TD W Wk (eCall n F [] ta) σ H Q) : tCallSD (spD W n F) [] (WE Wk) (TDa W Wk ta) σ H Q := by
  obtain ⟨hid, ρ, μ, Xd, Qd, rel, sr, q, pq, px⟩ := h
  refine ⟨hid, ρ, μ, Xd, _, rel, sr, q, fun vs ds H1 μ1 s1 sr1 r1 q1 => ⟨hid, ds ++ [], μ1, Qd, _, q1.1, r1.append .nil, sr1, q1.2, pq.st s1, fun y cls dd H' μ' s' sr' xr q' => px y cls dd H' μ' (s1.trans s') sr' xr q'⟩, px⟩
theorem be_fnG (D : LB.DefG X.prog X.w X.K X.mg X.base k x ps (spD W n F)) (tk : Takes X Wk) (hr : Room k X.A) (gd : X.A.guards = some []) (hg : Gl X x) (ha : BA X W Wk (e :: es) ta) (hdb : (x == ("__debug__" : Str)) = false := by decide)
    (he : starEach (e :: es) X.env = (false, eval e X.env) :: starEach es X.env := by rfl) (hpl : (backTo pos (starEach es X.env)).any (·.1) = false := by rfl) : BE X W Wk (.Call (.Name x p) (e :: es) [] pos) (eCall n F [] ta) :=
  PE.weak (LB.pe_fnG (E := WE Wk) D (fun σ => passAt tk σ) hr gd hg ha hdb he hpl) fun _ _ _ h => fnG_td h
theorem be_fnGE (D : LB.DefG X.prog X.w X.K X.mg X.base k x ps (spD W n F)) (hr : Room k X.A) (gd : X.A.guards = some []) (hg : Gl X x) (ha : BA X W WF (e :: es) ta) (hdb : (x == ("__debug__" : Str)) = false := by decide)
    (he : starEach (e :: es) X.env = (false, eval e X.env) :: starEach es X.env := by rfl) (hpl : (backTo pos (starEach es X.env)).any (·.1) = false := by rfl) : BE X W WF (.Call (.Name x p) (e :: es) [] pos) (eCall n F [] ta) :=
  PE.weak (LB.pe_fnG (E := WE WF) D takes_none hr gd hg ha hdb he hpl) fun _ _ _ h => fnG_td h
/-! ### str of other data -/
def cStrG : CD := fun ds μ Q => match ds with
  | [.str a] => Q (.str a) μ
  | [d] => (match pyD μ d with
    | some x => x.showable = true ∧ x.depth ≤ 60 ∧ x.shown.length ≤ sizeLine ∧ Q (.str x.shown) μ
    | none => False)
  | _ => False
theorem cd_strG (C : TW X.K X.w W) (hg : X.A.guards = some []) (hu : X.A.units + 64 < cLine) : CallR X (.type "str") (rCD W cStrG) := by
  intro pins s σ H xs us Q I rv ⟨hid, μ, ds, Qd, sr, r, h, pq⟩
  unfold cStrG at h
  split at h
  · cases r with
    | cons r1 r =>
      cases r
      cases r1
      exact SkE.call_str_str pins s σ H _ us Q I rv ⟨_, rfl, pq _ _ H μ .refl sr (.str _) h⟩
  · rename_i d _
    split at h
    · rename_i x hx
      obtain ⟨h1, h2, h3, h⟩ := h
      cases r with
      | cons r1 r =>
        cases r
        obtain ⟨u, eu, rv1⟩ := vals1 rv
        subst eu
        have dp := dp_of sr hx r1
        rw [← C.hK] at dp
        have no := noDict_py hx
        have fin : ∀ (h' : Heap) (u : Tok) (tk : Nat), (∀ b o, s.heap.get? b = some o → h'.get? b = some o) → EP X pins σ Q (.str x.shown u) { s with heap := h', toks := tk } := fun h' u tk k => ⟨.str _, H, I.kept k, ⟨u, rfl⟩, pq _ _ H μ .refl sr (.str _) h⟩
        obtain ⟨as, rd⟩ := dp.reads I _ _ _ rv1
        cases rd with
        | none =>
          have e : PyData.shown .none = "None" := by simp only [PyData.shown]
          rw [e] at fin
          exact P.str_of_none (fin s.heap s.toks (s.toks + 1) fun _ _ z => z)
        | bool b =>
          have e : PyData.shown (.bool b) = if b then Str.ofString "True" else Str.ofString "False" := by simp only [PyData.shown]
          rw [e] at fin
          exact P.str_of_bool (fin s.heap s.toks (s.toks + 1) fun _ _ z => z)
        | int i t =>
          have e : PyData.shown (.int i) = toString i := by simp only [PyData.shown]
          simp only [PyData.showable] at h1
          cases dp
          rw [e] at h
          exact call_str_int pins s σ H _ _ Q I rv ⟨i, rfl, of_decide_eq_true h1, pq _ _ H μ .refl sr (.str _) h⟩
        | str z t =>
          cases dp
          cases r1
          rename_i nz
          exact absurd rfl (nz _)
        | list a b c e => exact str_of_reads (.list a b c e) h1 (fun z => by rw [no] at z; cases z) hg (by omega) (fun _ _ z => z) fin h3
        | tuple a b c e => exact str_of_reads (.tuple a b c e) h1 (fun z => by rw [no] at z; cases z) hg (by omega) (fun _ _ z => z) fin h3
        | dict _ _ _ _ _ => simp only [PyData.hasDict] at no; cases no
    · exact h.elim
  · exact h.elim
/-! ### own == something of a built-in type -/
def oEqX (C : Str) (F : FD) : OD := fun d e μ Q => match insOf d μ, tyI e μ with
  | some (C1, _), some (.ty T) => C1 = C ∧ T ∈ btys ∧ F [d, e] μ (fun r μ' => match r with | .bl b => Q (.bl b) μ' | _ => False) xN
  | _, _ => False
def rEqX (K : PySem.W.Frag) (C : Addr) (sp : Sp) : R2 := fun x y H Q => ∃ a dx fs T, x = .ref a ∧ H a = some (.ins C dx fs) ∧ TyX K H y (.type T) ∧ PySem.W.notFirst K C (.type T) = true ∧ sp [.ref a, y] H (fun v H' => ∃ r, v = .bl r ∧ Q (.bl r) H') E0
theorem op_eqX {C : Addr} {sp : Sp} (D : LB.MethOk X.prog X.w X.K X.mg X.base k C "__eq__" ps sp) (hr : Room k X.A) : OpR X (compareOp .Eq) (rEqX X.K C sp) := by
  intro pins s σ H x y v u Q I rx ry ⟨a, dx, fs, T, ex, ha, ty, nf, q⟩
  subst ex
  obtain ⟨f, fd, F, hm, hi, hk, hb⟩ := D.ex
  cases (show v = Value.ref a from rx)
  obtain ⟨mA, J, _⟩ := ins_get I.hok ha
  obtain ⟨od, J, _⟩ := J.look
  obtain ⟨m', hF⟩ := I.fr
  obtain ⟨Pr, Z, pr, _⟩ := kit_of I ry ty
  show wpAny (model X.prog X.w) X.A (richCompare .Eq (.ref a) u) _ _ _
  refine PySem.W.cmp_K (op := .Eq) (tb := .type T) hr.units0 hF I.ok.mod.kin J (Z.ty _ _ I.kIn pr) nf hm hi ?_
  refine wpAny_mono (LB.run_sub (vs := [V.ref a, y]) F ⟨hr, rfl⟩ hb I (.cons rfl (.cons ry .nil)) q) (fun w s' z => ?_) fun _ _ z => z
  obtain ⟨x, H', I', rx', r, ex, q⟩ := z
  subst ex
  cases rx'
  exact ⟨.bl r, H', I', rfl, q⟩
/-- what the text says: built-in types stand not under the class -/
def NotFirst (K : PySem.W.Frag) (C : Addr) : Prop := ∀ T ∈ btys, PySem.W.notFirst K C (.type T) = true
theorem od_eqX (CW : TW X.K X.w W) (nf : NotFirst X.K (W.cl C0)) (D : MethX X.prog X.w X.K X.mg X.base k (W.cl C0) "__eq__" ps [] (spD W 2 F)) (hr : Room k X.A) : OpR X (compareOp .Eq) (rD W (oEqX C0 F)) :=
  OpR.weak (op_eqX D.ok0 hr) fun x y H Q ⟨hid, μ, d, e, Qd, sr, rx, ry, h, pq⟩ => by
    unfold oEqX at h
    split at h
    · rename_i C1 g1 T e1 e2
      obtain ⟨rfl, hT, h⟩ := h
      obtain ⟨a, dx, fs, rfl, ha, _⟩ := insOf_ok e1 sr rx
      refine ⟨a, dx, fs, T, rfl, ha, tyI_ok CW sr ry e2, nf T hT, hid, [d, e], μ, _, _, rfl, .cons rx (.cons ry .nil), sr, h, fun v z H' μ' s' sr' r' q' => ?_, fun y cls dd H' μ' s' sr' xr q' => q'.elim⟩
      dsimp only at q'
      split at q'
      · cases r'
        exact ⟨_, rfl, pq _ _ H' μ' s' sr' (.bl _) q'⟩
      · exact q'.elim
    · exact h.elim
end
end PD
set_option Elab.async false
set_option linter.all false
set_option maxRecDepth 100000
namespace LB
open PySem PySem.Spec PyProof.Rows L2
def top (i : Nat) : Stmt := PySem.Challenge.pw_lowsure_k53_code_and_machines.main.body.getD i (.Pass ⟨0, 0, 0, 0⟩)
end LB
set_option Elab.async false
set_option linter.all false
set_option autoImplicit false
set_option maxRecDepth 100000
set_option maxHeartbeats 4000000
namespace PD
open PySem PySem.Spec PyProof.Rows L2
open LB (top)
noncomputable abbrev F_law_draw : FD := F_drawO
noncomputable abbrev F_law_deal : FD := F_dealO
def itab : Tab := tabOf [("Code", "Code", true), ("Machine", "Machine", true), ("InvalidCode", "InvalidCode", true), ("InvalidCode", "InvalidNode", false), ("InvalidCode", "InvalidText", false), ("InvalidCode", "Mismatch", false)] [] ["Code", "Machine"]
def xfls : List (Str × List Str) := [("InvalidCode", ["word", "row"])]
def cat_LowError : Str → Option Bool := fun C => ([("InvalidCode", true)] : List (Str × Bool)).lookup C
abbrev g_MOST_MODULUS : D := (.int 64)
abbrev g_MOST_REGISTERS : D := (.int 8)
abbrev g_MOST_SLOTS : D := (.int 1000)
abbrev g_LIMIT : D := (.int 18446744073709551616)
abbrev g_MOST_ROWS : D := (.int 1000)
abbrev g_FORMS : D := (.dct [("set", (.tup [(.str "register"), (.str "number")])), ("copy", (.tup [(.str "register"), (.str "register")])), ("add", (.tup [(.str "register"), (.str "register"), (.str "register")])), ("sub", (.tup [(.str "register"), (.str "register"), (.str "register")])), ("mul", (.tup [(.str "register"), (.str "register"), (.str "register")])), ("left", (.tup [(.str "register"), (.str "register")])), ("right", (.tup [(.str "register"), (.str "register")])), ("load", (.tup [(.str "register"), (.str "slot")])), ("store", (.tup [(.str "slot"), (.str "register")])), ("skip", (.tup [(.str "register"), (.str "modulus"), (.str "rest"), (.str "count")]))])
abbrev s_is_modulus : Stmt := top 11
theorem sc_is_modulus : FnScope ["number"] ["number"] (defScope s_is_modulus) := ⟨rfl, rfl, rfl, by decide +kernel, rfl, by decide +kernel, by decide +kernel⟩
def T_is_modulus : TDS := (sRet (eAn (eCh oLt oLe (eC (.int 0)) (eVar 0) (eC g_MOST_MODULUS)) (eBin oEq (eBin oMod (eC g_MOST_MODULUS) (eVar 0)) (eC (.int 0)))))
theorem ex_is_modulus : ∃ F : FD, F = fnD 1 T_is_modulus := ⟨_, rfl⟩
noncomputable def F_is_modulus : FD := Classical.choose ex_is_modulus
theorem F_is_modulus_eq : F_is_modulus = fnD 1 T_is_modulus := Classical.choose_spec ex_is_modulus
abbrev s_is_within : Stmt := top 12
theorem sc_is_within : FnScope ["form", "number"] ["form", "number"] (defScope s_is_within) := ⟨rfl, rfl, rfl, by decide +kernel, rfl, by decide +kernel, by decide +kernel⟩
def T_is_within : TDS := (sMatch (eVar 0) (mS "register" (sRet (eCh oLe oLt (eC (.int 0)) (eVar 1) (eC g_MOST_REGISTERS))) (mS "slot" (sRet (eCh oLe oLt (eC (.int 0)) (eVar 1) (eC g_MOST_SLOTS))) (mS "number" (sRet (eCh oLt oLt (eBin oSub (eC (.int 0)) (eC g_LIMIT)) (eVar 1) (eC g_LIMIT))) (mS "modulus" (sRet (eCall 1 F_is_modulus [] (aCons (eVar 1) aNil))) (mS "rest" (sRet (eCh oLe oLt (eC (.int 0)) (eVar 1) (eC g_MOST_MODULUS))) (fun _ => (sRet (eCh oLe oLe (eC (.int 0)) (eVar 1) (eC g_MOST_ROWS))))))))))
theorem ex_is_within : ∃ F : FD, F = fnD 2 T_is_within := ⟨_, rfl⟩
noncomputable def F_is_within : FD := Classical.choose ex_is_within
theorem F_is_within_eq : F_is_within = fnD 2 T_is_within := Classical.choose_spec ex_is_within
abbrev s_is_integer : Stmt := top 3
theorem sc_is_integer : FnScope ["value"] ["value"] (defScope s_is_integer) := ⟨rfl, rfl, rfl, by decide +kernel, rfl, by decide +kernel, by decide +kernel⟩
def T_is_integer : TDS := (sRet (eAn (eB (cIsi itab) (aCons (eVar 0) (aCons (eC (.ty "int")) aNil))) (eNo (eB (cIsi itab) (aCons (eVar 0) (aCons (eC (.ty "bool")) aNil))))))
theorem ex_is_integer : ∃ F : FD, F = fnD 1 T_is_integer := ⟨_, rfl⟩
noncomputable def F_is_integer : FD := Classical.choose ex_is_integer
theorem F_is_integer_eq : F_is_integer = fnD 1 T_is_integer := Classical.choose_spec ex_is_integer
abbrev s_is_row : Stmt := top 13
theorem sc_is_row : FnScope ["row", "forms", "items", "form", "item"] ["row"] (defScope s_is_row) := ⟨rfl, rfl, rfl, by decide +kernel, rfl, by decide +kernel, by decide +kernel⟩
def T_is_row : TDS := (sSeq (sIf (tOn (tNo (tVal (eB (cIsi itab) (aCons (eVar 0) (aCons (eC (.ty "tuple")) aNil))))) (tOn (tVal (eBin oEq (eB cLen (aCons (eVar 0) aNil)) (eC (.int 0)))) (tOn (tNo (tVal (eB (cIsi itab) (aCons (eBin oIx (eVar 0) (eC (.int 0))) (aCons (eC (.ty "str")) aNil))))) (tVal (eBin (oIn not) (eBin oIx (eVar 0) (eC (.int 0))) (eC g_FORMS)))))) (sRet (eC (.bl false))) sNil)
  (sSeq (sPar 1 2 (aCons (eBin oIx (eC g_FORMS) (eBin oIx (eVar 0) (eC (.int 0)))) (aCons (eSl false (eVar 0) (pSome (eC (.int 1))) pNone) aNil)))
  (sSeq (sIf (tVal (eBin oNe (eB cLen (aCons (eVar 2) aNil)) (eB cLen (aCons (eVar 1) aNil)))) (sRet (eC (.bl false))) sNil)
  (sSeq (sFor (iZip2 (aCons (eVar 1) (aCons (eVar 2) aNil))) (gTu 2 (gCo (gN 3) (gCo (gN 4) gNi)))
  (sIf (tOn (tNo (tVal (eCall 1 F_is_integer [] (aCons (eVar 4) aNil)))) (tNo (tVal (eCall 2 F_is_within [] (aCons (eVar 3) (aCons (eVar 4) aNil)))))) (sRet (eC (.bl false))) sNil))
  (sRet (eOn (eBin oNe (eBin oIx (eVar 0) (eC (.int 0))) (eC (.str "skip"))) (eBin oLt (eBin oIx (eVar 0) (eC (.int 3))) (eBin oIx (eVar 0) (eC (.int 2))))))))))
theorem ex_is_row : ∃ F : FD, F = fnD 5 T_is_row := ⟨_, rfl⟩
noncomputable def F_is_row : FD := Classical.choose ex_is_row
theorem F_is_row_eq : F_is_row = fnD 5 T_is_row := Classical.choose_spec ex_is_row
abbrev s_check_rows : Stmt := top 25
theorem sc_check_rows : FnScope ["rows", "at", "row"] ["rows"] (defScope s_check_rows) := ⟨rfl, rfl, rfl, by decide +kernel, rfl, by decide +kernel, by decide +kernel⟩
def T_check_rows : TDS := (sSeq (sIf (tVal (eBin oGt (eB cLen (aCons (eVar 0) aNil)) (eC g_MOST_ROWS))) (sRaise "InvalidCode" ["word", "row"] (aCons (eC (.str "count")) (aCons (eUn uNeg (eC (.int 1))) aNil))) sNil)
  (sFor (iEnum (aCons (eVar 0) aNil)) (gTu 2 (gCo (gN 1) (gCo (gN 2) gNi)))
  (sSeq (sIf (tNo (tVal (eCall 1 F_is_row [] (aCons (eVar 2) aNil)))) (sRaise "InvalidCode" ["word", "row"] (aCons (eC (.str "row")) (aCons (eVar 1) aNil))) sNil)
  (sIf (tAn (tVal (eBin oEq (eBin oIx (eVar 2) (eC (.int 0))) (eC (.str "skip")))) (tVal (eBin oGe (eBin (oAdd false) (eVar 1) (eBin oIx (eVar 2) (eC (.int 4)))) (eB cLen (aCons (eVar 0) aNil))))) (sRaise "InvalidCode" ["word", "row"] (aCons (eC (.str "skip")) (aCons (eVar 1) aNil))) sNil))))
theorem ex_check_rows : ∃ F : FD, F = fnD 3 T_check_rows := ⟨_, rfl⟩
noncomputable def F_check_rows : FD := Classical.choose ex_check_rows
theorem F_check_rows_eq : F_check_rows = fnD 3 T_check_rows := Classical.choose_spec ex_check_rows
abbrev s_Code_init : Stmt := inClass (top 26) 0
theorem sc_Code_init : FnScope ["self", "rows"] ["self", "rows"] (defScope s_Code_init) := ⟨rfl, rfl, rfl, by decide +kernel, rfl, by decide +kernel, by decide +kernel⟩
def T_Code_init : TDS := (sSeq (sExpr (eCall 1 F_check_rows [] (aCons (eVar 1) aNil)))
  (sFld "Code" "rows" (eVar 0) (eB cTuple (aCons (eVar 1) aNil))))
theorem ex_Code_init : ∃ F : FD, F = fnD 2 T_Code_init := ⟨_, rfl⟩
noncomputable def F_Code_init : FD := Classical.choose ex_Code_init
theorem F_Code_init_eq : F_Code_init = fnD 2 T_Code_init := Classical.choose_spec ex_Code_init
abbrev s_law_told : Stmt := top 38
theorem sc_law_told : FnScope ["_law_rows", "_law_found", "e"] ["_law_rows"] (defScope s_law_told) := ⟨rfl, rfl, rfl, by decide +kernel, rfl, by decide +kernel, by decide +kernel⟩
def T_law_told : TDS := (sSeq (sAsg (eC .non) (gN 1))
  (sSeq (sTryAs 2 cat_LowError (sAsg (eMk false "Code" 2 F_Code_init [] (aCons (eVar 0) aNil)) (gN 1))
  (fun xa xd xc => (sIf (tAn (tVal (eB (cIsE xfls itab xa xd xc) (aCons (eVar 2) (aCons (eC (.cls "InvalidCode")) aNil)))) (tNo (tVal (eB (cIsE xfls itab xa xd xc) (aCons (eVar 2) (aCons (eTup (aCons (eC (.cls "InvalidNode")) (aCons (eC (.cls "InvalidText")) (aCons (eC (.cls "Mismatch")) aNil)))) aNil)))))) (sRet (eTup (aCons (eXf xfls xa xd xc "word" (eVar 2)) (aCons (eXf xfls xa xd xc "row" (eVar 2)) aNil)))) sNil)))
  (sRet (eIf (tVal (eBin oIsNot (eVar 1) (eC .non))) (eC .non) (eC (.str "other"))))))
theorem ex_law_told : ∃ F : FD, F = fnD 3 T_law_told := ⟨_, rfl⟩
noncomputable def F_law_told : FD := Classical.choose ex_law_told
theorem F_law_told_eq : F_law_told = fnD 3 T_law_told := Classical.choose_spec ex_law_told
abbrev s_law_is_whole : Stmt := top 34
theorem sc_law_is_whole : FnScope ["_law_value"] ["_law_value"] (defScope s_law_is_whole) := ⟨rfl, rfl, rfl, by decide +kernel, rfl, by decide +kernel, by decide +kernel⟩
def T_law_is_whole : TDS := (sRet (eAn (eB (cIsi itab) (aCons (eVar 0) (aCons (eC (.ty "int")) aNil))) (eNo (eB (cIsi itab) (aCons (eVar 0) (aCons (eC (.ty "bool")) aNil))))))
theorem ex_law_is_whole : ∃ F : FD, F = fnD 1 T_law_is_whole := ⟨_, rfl⟩
noncomputable def F_law_is_whole : FD := Classical.choose ex_law_is_whole
theorem F_law_is_whole_eq : F_law_is_whole = fnD 1 T_law_is_whole := Classical.choose_spec ex_law_is_whole
abbrev s_law_item_fits : Stmt := top 35
theorem sc_law_item_fits : FnScope ["_law_form", "_law_value", "_law_row_here"] ["_law_form", "_law_value", "_law_row_here"] (defScope s_law_item_fits) := ⟨rfl, rfl, rfl, by decide +kernel, rfl, by decide +kernel, by decide +kernel⟩
def T_law_item_fits : TDS := (sSeq (sIf (tNo (tVal (eCall 1 F_law_is_whole [] (aCons (eVar 1) aNil)))) (sRet (eC (.bl false))) sNil)
  (sSeq (sIf (tVal (eBin oEq (eVar 0) (eC (.str "R")))) (sRet (eCh oLe oLe (eC (.int 0)) (eVar 1) (eC (.int 7)))) sNil)
  (sSeq (sIf (tVal (eBin oEq (eVar 0) (eC (.str "N")))) (sRet (eCh oLt oLt (eUn uNeg (eBin oShl (eC (.int 1)) (eC (.int 64)))) (eVar 1) (eBin oShl (eC (.int 1)) (eC (.int 64))))) sNil)
  (sSeq (sIf (tVal (eBin oEq (eVar 0) (eC (.str "S")))) (sRet (eCh oLe oLe (eC (.int 0)) (eVar 1) (eC (.int 999)))) sNil)
  (sSeq (sIf (tVal (eBin oEq (eVar 0) (eC (.str "M")))) (sRet (eBin (oIn id) (eVar 1) (eTup (aCons (eC (.int 1)) (aCons (eC (.int 2)) (aCons (eC (.int 4)) (aCons (eC (.int 8)) (aCons (eC (.int 16)) (aCons (eC (.int 32)) (aCons (eC (.int 64)) aNil)))))))))) sNil)
  (sSeq (sIf (tVal (eBin oEq (eVar 0) (eC (.str "C")))) (sRet (eAn (eCall 1 F_law_is_whole [] (aCons (eBin oIx (eVar 2) (eC (.int 2))) aNil)) (eCh oLe oLt (eC (.int 0)) (eVar 1) (eBin oIx (eVar 2) (eC (.int 2)))))) sNil)
  (sRet (eCh oLe oLe (eC (.int 0)) (eVar 1) (eC (.int 1000))))))))))
theorem ex_law_item_fits : ∃ F : FD, F = fnD 3 T_law_item_fits := ⟨_, rfl⟩
noncomputable def F_law_item_fits : FD := Classical.choose ex_law_item_fits
theorem F_law_item_fits_eq : F_law_item_fits = fnD 3 T_law_item_fits := Classical.choose_spec ex_law_item_fits
abbrev s_law_row_fits : Stmt := top 36
theorem sc_law_row_fits : FnScope ["_law_row_here", "_law_forms", "_law_form", "_law_at"] ["_law_row_here"] (defScope s_law_row_fits) := ⟨rfl, rfl, rfl, by decide +kernel, rfl, by decide +kernel, by decide +kernel⟩
def T_law_row_fits : TDS := (sSeq (sAsg (eDisp (dpCons (eC (.str "set")) (eC (.str "RN")) (dpCons (eC (.str "copy")) (eC (.str "RR")) (dpCons (eC (.str "add")) (eC (.str "RRR")) (dpCons (eC (.str "sub")) (eC (.str "RRR")) (dpCons (eC (.str "mul")) (eC (.str "RRR")) (dpCons (eC (.str "left")) (eC (.str "RR")) (dpCons (eC (.str "right")) (eC (.str "RR")) dpNil)))))))) (gN 1))
  (sSeq (sAsg (eTup (aCons (eC (.str "RS")) (aCons (eC (.str "SR")) (aCons (eC (.str "RMCK")) aNil)))) (gTu 3 (gCo (gSu (eVar 1) (eC (.str "load"))) (gCo (gSu (eVar 1) (eC (.str "store"))) (gCo (gSu (eVar 1) (eC (.str "skip"))) gNi)))))
  (sSeq (sIf (tOn (tNo (tVal (eB (cIsi itab) (aCons (eVar 0) (aCons (eC (.ty "tuple")) aNil))))) (tOn (tVal (eBin oEq (eB cLen (aCons (eVar 0) aNil)) (eC (.int 0)))) (tOn (tNo (tVal (eB (cIsi itab) (aCons (eBin oIx (eVar 0) (eC (.int 0))) (aCons (eC (.ty "str")) aNil))))) (tVal (eBin (oIn not) (eBin oIx (eVar 0) (eC (.int 0))) (eVar 1)))))) (sRet (eC (.bl false))) sNil)
  (sSeq (sAsg (eBin oIx (eVar 1) (eBin oIx (eVar 0) (eC (.int 0)))) (gN 2))
  (sSeq (sIf (tVal (eBin oNe (eB cLen (aCons (eVar 0) aNil)) (eBin (oAdd false) (eB cLen (aCons (eVar 2) aNil)) (eC (.int 1))))) (sRet (eC (.bl false))) sNil)
  (sRet (eBin oEq (eLc false (iRange1 (aCons (eB cLen (aCons (eVar 2) aNil)) aNil)) (en1 [3] 3) (tNo (tVal (eCall 3 F_law_item_fits [] (aCons (eBin oIx (eVar 2) (eVar 3)) (aCons (eBin oIx (eVar 0) (eBin (oAdd false) (eVar 3) (eC (.int 1)))) (aCons (eVar 0) aNil)))))) (eVar 3)) (eLst false aNil))))))))
theorem ex_law_row_fits : ∃ F : FD, F = fnD 4 T_law_row_fits := ⟨_, rfl⟩
noncomputable def F_law_row_fits : FD := Classical.choose ex_law_row_fits
theorem F_law_row_fits_eq : F_law_row_fits = fnD 4 T_law_row_fits := Classical.choose_spec ex_law_row_fits
abbrev s_law_due : Stmt := top 37
theorem sc_law_due : FnScope ["_law_rows", "_law_at", "_law_row_here"] ["_law_rows"] (defScope s_law_due) := ⟨rfl, rfl, rfl, by decide +kernel, rfl, by decide +kernel, by decide +kernel⟩
def T_law_due : TDS := (sSeq (sIf (tVal (eBin oGt (eB cLen (aCons (eVar 0) aNil)) (eC (.int 1000)))) (sRet (eTup (aCons (eC (.str "count")) (aCons (eBin oSub (eC (.int 0)) (eC (.int 1))) aNil)))) sNil)
  (sCut (sFor (iEnum (aCons (eVar 0) aNil)) (gTu 2 (gCo (gN 1) (gCo (gN 2) gNi)))
  (sSeq (sIf (tNo (tVal (eCall 1 F_law_row_fits [] (aCons (eVar 2) aNil)))) (sRet (eTup (aCons (eC (.str "row")) (aCons (eVar 1) aNil)))) sNil)
  (sIf (tAn (tVal (eBin oEq (eBin oIx (eVar 2) (eC (.int 0))) (eC (.str "skip")))) (tVal (eBin oGt (eBin (oAdd false) (eVar 1) (eBin oIx (eVar 2) (eC (.int 4)))) (eBin oSub (eB cLen (aCons (eVar 0) aNil)) (eC (.int 1)))))) (sRet (eTup (aCons (eC (.str "skip")) (aCons (eVar 1) aNil)))) sNil)))
  (sRet (eC .non))))
theorem ex_law_due : ∃ F : FD, F = fnD 3 T_law_due := ⟨_, rfl⟩
noncomputable def F_law_due : FD := Classical.choose ex_law_due
theorem F_law_due_eq : F_law_due = fnD 3 T_law_due := Classical.choose_spec ex_law_due
abbrev s_Machine_eq : Stmt := inClass (top 24) 1
theorem sc_Machine_eq : FnScope ["self", "other"] ["self", "other"] (defScope s_Machine_eq) := ⟨rfl, rfl, rfl, by decide +kernel, rfl, by decide +kernel, by decide +kernel⟩
def T_Machine_eq : TDS := (sRet (eAn (eB (cIsi itab) (aCons (eVar 1) (aCons (eC (.cls "Machine")) aNil))) (eAn (eBin oEq (eFld "width" (eVar 0)) (eFld "width" (eVar 1))) (eBin oEq (eFld "registers" (eVar 0)) (eFld "registers" (eVar 1))))))
theorem ex_Machine_eq : ∃ F : FD, F = fnD 2 T_Machine_eq := ⟨_, rfl⟩
noncomputable def F_Machine_eq : FD := Classical.choose ex_Machine_eq
theorem F_Machine_eq_eq : F_Machine_eq = fnD 2 T_Machine_eq := Classical.choose_spec ex_Machine_eq
abbrev s_Machine_init : Stmt := inClass (top 24) 0
theorem sc_Machine_init : FnScope ["self", "width", "registers"] ["self", "width", "registers"] (defScope s_Machine_init) := ⟨rfl, rfl, rfl, by decide +kernel, rfl, by decide +kernel, by decide +kernel⟩
def T_Machine_init : TDS := (sSeq (sFld "Machine" "width" (eVar 0) (eVar 1))
  (sFld "Machine" "registers" (eVar 0) (eVar 2)))
theorem ex_Machine_init : ∃ F : FD, F = fnD 3 T_Machine_init := ⟨_, rfl⟩
noncomputable def F_Machine_init : FD := Classical.choose ex_Machine_init
theorem F_Machine_init_eq : F_Machine_init = fnD 3 T_Machine_init := Classical.choose_spec ex_Machine_init
abbrev s_law_machines_right : Stmt := top 41
theorem sc_law_machines_right : FnScope ["_law_deal_here", "_law_a", "_law_b", "_law_one", "_law_other"] ["_law_deal_here"] (defScope s_law_machines_right) := ⟨rfl, rfl, rfl, by decide +kernel, rfl, by decide +kernel, by decide +kernel⟩
def T_law_machines_right : TDS := (sSeq (sPar 1 2 (aCons (eBin (oAdd false) (eC (.int 4)) (eCall 2 F_law_draw [] (aCons (eVar 0) (aCons (eC (.int 61)) aNil)))) (aCons (eBin (oAdd false) (eC (.int 3)) (eCall 2 F_law_draw [] (aCons (eVar 0) (aCons (eC (.int 6)) aNil)))) aNil)))
  (sSeq (sPar 3 4 (aCons (eMk false "Machine" 3 F_Machine_init [] (aCons (eVar 1) (aCons (eVar 2) aNil))) (aCons (eMk false "Machine" 3 F_Machine_init [] (aCons (eBin (oAdd false) (eC (.int 4)) (eBin oMod (eBin oSub (eVar 1) (eC (.int 3))) (eC (.int 61)))) (aCons (eVar 2) aNil))) aNil)))
  (sSeq (sIf (tOn (tVal (eBin oNe (eTup (aCons (eFld "width" (eVar 3)) (aCons (eFld "registers" (eVar 3)) aNil))) (eTup (aCons (eVar 1) (aCons (eVar 2) aNil))))) (tOn (tVal (eBin (oEqC "Machine" F_Machine_eq not) (eVar 3) (eMk false "Machine" 3 F_Machine_init [] (aCons (eVar 1) (aCons (eVar 2) aNil))))) (tOn (tVal (eBin (oEqC "Machine" F_Machine_eq id) (eVar 3) (eVar 4))) (tVal (eBin (oEqX "Machine" F_Machine_eq) (eVar 3) (eTup (aCons (eVar 1) (aCons (eVar 2) aNil)))))))) (sRet (eC (.bl false))) sNil)
  (sRet (eBin (oEqC "Machine" F_Machine_eq not) (eVar 3) (eMk false "Machine" 3 F_Machine_init [] (aCons (eVar 1) (aCons (eBin (oAdd false) (eC (.int 3)) (eBin oMod (eBin oSub (eVar 2) (eC (.int 2))) (eC (.int 6)))) aNil))))))))
theorem ex_law_machines_right : ∃ F : FD, F = fnD 5 T_law_machines_right := ⟨_, rfl⟩
noncomputable def F_law_machines_right : FD := Classical.choose ex_law_machines_right
theorem F_law_machines_right_eq : F_law_machines_right = fnD 5 T_law_machines_right := Classical.choose_spec ex_law_machines_right
abbrev s_Code_len : Stmt := inClass (top 26) 3
theorem sc_Code_len : FnScope ["self"] ["self"] (defScope s_Code_len) := ⟨rfl, rfl, rfl, by decide +kernel, rfl, by decide +kernel, by decide +kernel⟩
def T_Code_len : TDS := (sRet (eB cLen (aCons (eFld "rows" (eVar 0)) aNil)))
theorem ex_Code_len : ∃ F : FD, F = fnD 1 T_Code_len := ⟨_, rfl⟩
noncomputable def F_Code_len : FD := Classical.choose ex_Code_len
theorem F_Code_len_eq : F_Code_len = fnD 1 T_Code_len := Classical.choose_spec ex_Code_len
abbrev s_Code_eq : Stmt := inClass (top 26) 4
theorem sc_Code_eq : FnScope ["self", "other"] ["self", "other"] (defScope s_Code_eq) := ⟨rfl, rfl, rfl, by decide +kernel, rfl, by decide +kernel, by decide +kernel⟩
def T_Code_eq : TDS := (sRet (eAn (eB (cIsi itab) (aCons (eVar 1) (aCons (eC (.cls "Code")) aNil))) (eBin oEq (eFld "rows" (eVar 0)) (eFld "rows" (eVar 1)))))
theorem ex_Code_eq : ∃ F : FD, F = fnD 2 T_Code_eq := ⟨_, rfl⟩
noncomputable def F_Code_eq : FD := Classical.choose ex_Code_eq
theorem F_Code_eq_eq : F_Code_eq = fnD 2 T_Code_eq := Classical.choose_spec ex_Code_eq
abbrev s_law_odd_item : Stmt := top 39
theorem sc_law_odd_item : FnScope ["_law_deal_here", "_law_item", "_law_some", "_law_near"] ["_law_deal_here", "_law_item"] (defScope s_law_odd_item) := ⟨rfl, rfl, rfl, by decide +kernel, rfl, by decide +kernel, by decide +kernel⟩
def T_law_odd_item : TDS := (sSeq (sAsg (eLst false (aCons (eC (.int 8)) (aCons (eC (.int 999)) (aCons (eC (.int 1000)) (aCons (eC (.int 1001)) (aCons (eUn uNeg (eC (.int 1))) (aCons (eC (.int 0)) (aCons (eC (.int 1)) (aCons (eC (.int 3)) (aCons (eC (.int 64)) (aCons (eC (.int 128)) (aCons (eBin oSub (eBin oShl (eC (.int 1)) (eC (.int 64))) (eC (.int 1))) (aCons (eBin oShl (eC (.int 1)) (eC (.int 64))) (aCons (eBin oSub (eC (.int 0)) (eBin oShl (eC (.int 1)) (eC (.int 64)))) (aCons (eC (.bl true)) (aCons (eC .non) (aCons (eC (.str "0")) (aCons (eC (.str "add")) (aCons (eTup aNil) aNil))))))))))))))))))) (gN 2))
  (sSeq (sAsg (eIf (tVal (eCall 1 F_law_is_whole [] (aCons (eVar 1) aNil))) (eLst false (aCons (eBin (oAdd false) (eVar 1) (eC (.int 1))) (aCons (eBin oSub (eVar 1) (eC (.int 1))) aNil))) (eLst false (aCons (eC (.str "set")) (aCons (eC (.str "Set")) (aCons (eC (.str "ad")) (aCons (eC (.str "store ")) (aCons (eC (.str " skip")) (aCons (eC (.str "wait")) aNil)))))))) (gN 3))
  (sRet (eBin oIx (eBin (oAdd false) (eVar 2) (eBin (oMul false) (eVar 3) (eC (.int 4)))) (eCall 2 F_law_draw [] (aCons (eVar 0) (aCons (eBin (oAdd false) (eB cLen (aCons (eVar 2) aNil)) (eBin (oMul false) (eC (.int 4)) (eB cLen (aCons (eVar 3) aNil)))) aNil)))))))
theorem ex_law_odd_item : ∃ F : FD, F = fnD 4 T_law_odd_item := ⟨_, rfl⟩
noncomputable def F_law_odd_item : FD := Classical.choose ex_law_odd_item
theorem F_law_odd_item_eq : F_law_odd_item = fnD 4 T_law_odd_item := Classical.choose_spec ex_law_odd_item
abbrev s_law_spoilt : Stmt := top 40
theorem sc_law_spoilt : FnScope ["_law_deal_here", "_law_rows", "_law_at", "_law_form", "_law_found", "_law_row_here", "_law_place", "_law_text", "_law_one"] ["_law_deal_here", "_law_rows"] (defScope s_law_spoilt) := ⟨rfl, rfl, rfl, by decide +kernel, rfl, by decide +kernel, by decide +kernel⟩
def T_law_spoilt : TDS := (sSeq (sIf (tVal (eBin oEq (eVar 1) (eLst false aNil))) (sRet (eSl false (eSl false (eLst false (aCons (eLst false aNil) (aCons (eTup aNil) (aCons (eC .non) (aCons (eC (.str "add")) (aCons (eTup (aCons (eC (.str "skip")) (aCons (eC (.int 0)) (aCons (eC (.int 1)) (aCons (eC (.int 0)) (aCons (eC (.int 0)) aNil)))))) (aCons (eTup (aCons (eC (.str "set")) (aCons (eC (.int 0)) (aCons (eC (.int 5)) aNil)))) aNil))))))) (pSome (eCall 2 F_law_draw [] (aCons (eVar 0) (aCons (eC (.int 6)) aNil)))) pNone) pNone (pSome (eC (.int 1))))) sNil)
  (sSeq (sPar3 2 3 4 (aCons (eCall 2 F_law_draw [] (aCons (eVar 0) (aCons (eB cLen (aCons (eVar 1) aNil)) aNil))) (aCons (eCall 2 F_law_draw [] (aCons (eVar 0) (aCons (eC (.int 8)) aNil))) (aCons (eB (cList true) (aCons (eVar 1) aNil)) aNil))))
  (sSeq (sAsg (eBin oIx (eVar 4) (eVar 2)) (gN 5))
  (sSeq (sIf (tVal (eBin oEq (eVar 3) (eC (.int 0)))) (sRet (eBin (oAdd false) (eSl false (eVar 4) pNone (pSome (eVar 2))) (eSl false (eVar 4) (pSome (eBin (oAdd false) (eVar 2) (eC (.int 1)))) pNone))) sNil)
  (sSeq (sIf (tVal (eBin oEq (eVar 3) (eC (.int 1)))) (sRet (eBin (oAdd false) (eBin (oAdd false) (eSl false (eVar 4) pNone (pSome (eVar 2))) (eLst false (aCons (eVar 5) aNil))) (eSl false (eVar 4) (pSome (eVar 2)) pNone))) sNil)
  (sSeq (sIf (tOn (tNo (tVal (eB (cIsi itab) (aCons (eVar 5) (aCons (eC (.ty "tuple")) aNil))))) (tVal (eBin oEq (eVar 5) (eTup aNil)))) (sRet (eBin (oAdd false) (eBin (oAdd false) (eSl false (eVar 4) pNone (pSome (eVar 2))) (eLst false (aCons (eTup (aCons (eC (.str "left")) (aCons (eC (.int 0)) (aCons (eC (.int 0)) aNil)))) aNil))) (eSl false (eVar 4) (pSome (eBin (oAdd false) (eVar 2) (eC (.int 1)))) pNone))) sNil)
  (sSeq (sAsg (eCall 2 F_law_draw [] (aCons (eVar 0) (aCons (eB cLen (aCons (eVar 5) aNil)) aNil))) (gN 6))
  (sCut (sIf (tVal (eBin oEq (eVar 3) (eC (.int 2)))) (sSeq (sAsg (eM "str" mJoin (eC (.str " ")) (aCons (eLc false (iSeq (eVar 5)) (en1 [8] 8) tYe (eB cStrG (aCons (eVar 8) aNil))) aNil)) (gN 7))
  (sAsg (eBin oIx (eLst false (aCons (eB (cList false) (aCons (eVar 5) aNil)) (aCons (eSl false (eVar 5) pNone (pSome (eUn uNeg (eC (.int 1))))) (aCons (eBin (oAdd false) (eVar 5) (eTup (aCons (eC (.int 0)) aNil))) (aCons (eTup aNil) (aCons (eBin oIx (eVar 5) (eC (.int 0))) (aCons (eC .non) (aCons (eC (.int 7)) (aCons (eVar 7) aNil))))))))) (eCall 2 F_law_draw [] (aCons (eVar 0) (aCons (eC (.int 8)) aNil)))) (gSu (eVar 4) (eVar 2)))) (sIf (tVal (eBin oEq (eVar 3) (eC (.int 3)))) (sAsg (eBin (oAdd false) (eSl false (eVar 5) pNone (pSome (eUn uNeg (eC (.int 1))))) (eTup (aCons (eCall 2 F_law_odd_item [] (aCons (eVar 0) (aCons (eBin oIx (eVar 5) (eUn uNeg (eC (.int 1)))) aNil))) aNil))) (gSu (eVar 4) (eVar 2))) (sAsg (eBin (oAdd false) (eBin (oAdd false) (eSl false (eVar 5) pNone (pSome (eVar 6))) (eTup (aCons (eCall 2 F_law_odd_item [] (aCons (eVar 0) (aCons (eBin oIx (eVar 5) (eVar 6)) aNil))) aNil))) (eSl false (eVar 5) (pSome (eBin (oAdd false) (eVar 6) (eC (.int 1)))) pNone)) (gSu (eVar 4) (eVar 2)))))
  (sRetF (eVar 4))))))))))
theorem ex_law_spoilt : ∃ F : FD, F = fnD 9 T_law_spoilt := ⟨_, rfl⟩
noncomputable def F_law_spoilt : FD := Classical.choose ex_law_spoilt
theorem F_law_spoilt_eq : F_law_spoilt = fnD 9 T_law_spoilt := Classical.choose_spec ex_law_spoilt
abbrev s_law_number : Stmt := top 30
theorem sc_law_number : FnScope ["_law_deal_here", "_law_form", "_law_number_here"] ["_law_deal_here"] (defScope s_law_number) := ⟨rfl, rfl, rfl, by decide +kernel, rfl, by decide +kernel, by decide +kernel⟩
def T_law_number : TDS := (sSeq (sAsg (eCall 2 F_law_draw [] (aCons (eVar 0) (aCons (eC (.int 6)) aNil))) (gN 1))
  (sSeq (sAsg (eCall 2 F_law_draw [] (aCons (eVar 0) (aCons (eC (.int 6)) aNil))) (gN 2))
  (sCut (sIf (tVal (eBin oEq (eVar 1) (eC (.int 4)))) (sAsg (eBin oSub (eBin oShl (eC (.int 1)) (eCall 2 F_law_draw [] (aCons (eVar 0) (aCons (eC (.int 64)) aNil)))) (eCall 2 F_law_draw [] (aCons (eVar 0) (aCons (eC (.int 2)) aNil)))) (gN 2)) sNil)
  (sCut (sIf (tVal (eBin oEq (eVar 1) (eC (.int 5)))) (sAsg (eCall 2 F_law_draw [] (aCons (eVar 0) (aCons (eBin oShl (eC (.int 1)) (eC (.int 64))) aNil))) (gN 2)) sNil)
  (sRet (eBin oIx (eLst false (aCons (eVar 2) (aCons (eBin oSub (eC (.int 0)) (eVar 2)) aNil))) (eCall 2 F_law_draw [] (aCons (eVar 0) (aCons (eC (.int 2)) aNil)))))))))
theorem ex_law_number : ∃ F : FD, F = fnD 3 T_law_number := ⟨_, rfl⟩
noncomputable def F_law_number : FD := Classical.choose ex_law_number
theorem F_law_number_eq : F_law_number = fnD 3 T_law_number := Classical.choose_spec ex_law_number
abbrev s_law_row : Stmt := top 31
theorem sc_law_row : FnScope ["_law_deal_here", "_law_registers", "_law_left", "_law_words", "_law_word", "_law_r", "_law_a", "_law_b", "_law_turn", "_law_modulus"] ["_law_deal_here", "_law_registers", "_law_left"] (defScope s_law_row) := ⟨rfl, rfl, rfl, by decide +kernel, rfl, by decide +kernel, by decide +kernel⟩
def T_law_row : TDS := (sSeq (sAsg (eTup (aCons (eC (.str "set")) (aCons (eC (.str "copy")) (aCons (eC (.str "add")) (aCons (eC (.str "sub")) (aCons (eC (.str "mul")) (aCons (eC (.str "add")) (aCons (eC (.str "mul")) (aCons (eC (.str "left")) (aCons (eC (.str "right")) (aCons (eC (.str "right")) (aCons (eC (.str "load")) (aCons (eC (.str "store")) (aCons (eC (.str "skip")) aNil)))))))))))))) (gN 3))
  (sSeq (sAsg (eBin oIx (eVar 3) (eCall 2 F_law_draw [] (aCons (eVar 0) (aCons (eC (.int 13)) aNil)))) (gN 4))
  (sSeq (sAsg (eLc false (iRange1 (aCons (eC (.int 3)) aNil)) (en1 [8] 8) tYe (eCall 2 F_law_draw [] (aCons (eVar 0) (aCons (eVar 1) aNil)))) (gTu 3 (gCo (gN 5) (gCo (gN 6) (gCo (gN 7) gNi)))))
  (sSeq (sIf (tVal (eBin oEq (eVar 4) (eC (.str "set")))) (sRet (eTup (aCons (eVar 4) (aCons (eVar 5) (aCons (eCall 1 F_law_number [] (aCons (eVar 0) aNil)) aNil))))) sNil)
  (sSeq (sIf (tVal (eBin (oIn id) (eVar 4) (eTup (aCons (eC (.str "copy")) (aCons (eC (.str "left")) (aCons (eC (.str "right")) aNil)))))) (sRet (eTup (aCons (eVar 4) (aCons (eVar 5) (aCons (eVar 6) aNil))))) sNil)
  (sSeq (sIf (tVal (eBin oEq (eVar 4) (eC (.str "load")))) (sRet (eTup (aCons (eVar 4) (aCons (eVar 5) (aCons (eBin oIx (eLst false (aCons (eC (.int 0)) (aCons (eC (.int 7)) (aCons (eC (.int 999)) aNil)))) (eCall 2 F_law_draw [] (aCons (eVar 0) (aCons (eC (.int 3)) aNil)))) aNil))))) sNil)
  (sSeq (sIf (tVal (eBin oEq (eVar 4) (eC (.str "store")))) (sRet (eTup (aCons (eVar 4) (aCons (eBin oIx (eLst false (aCons (eC (.int 0)) (aCons (eC (.int 7)) (aCons (eC (.int 999)) aNil)))) (eCall 2 F_law_draw [] (aCons (eVar 0) (aCons (eC (.int 3)) aNil)))) (aCons (eVar 6) aNil))))) sNil)
  (sSeq (sIf (tVal (eBin oEq (eVar 4) (eC (.str "skip")))) (sSeq (sAsg (eBin oShl (eC (.int 1)) (eCall 2 F_law_draw [] (aCons (eVar 0) (aCons (eC (.int 3)) aNil)))) (gN 9))
  (sRet (eTup (aCons (eVar 4) (aCons (eVar 6) (aCons (eVar 9) (aCons (eCall 2 F_law_draw [] (aCons (eVar 0) (aCons (eVar 9) aNil))) (aCons (eCall 2 F_law_draw [] (aCons (eVar 0) (aCons (eBin (oAdd false) (eVar 2) (eC (.int 1))) aNil))) aNil)))))))) sNil)
  (sRet (eTup (aCons (eVar 4) (aCons (eVar 5) (aCons (eVar 6) (aCons (eVar 7) aNil))))))))))))))
theorem ex_law_row : ∃ F : FD, F = fnD 10 T_law_row := ⟨_, rfl⟩
noncomputable def F_law_row : FD := Classical.choose ex_law_row
theorem F_law_row_eq : F_law_row = fnD 10 T_law_row := Classical.choose_spec ex_law_row
abbrev s_law_far_row : Stmt := top 32
theorem sc_law_far_row : FnScope ["_law_deal_here", "_law_registers", "_law_left", "_law_row_here", "_law_modulus"] ["_law_deal_here", "_law_registers", "_law_left"] (defScope s_law_far_row) := ⟨rfl, rfl, rfl, by decide +kernel, rfl, by decide +kernel, by decide +kernel⟩
def T_law_far_row : TDS := (sSeq (sAsg (eCall 3 F_law_row [] (aCons (eVar 0) (aCons (eVar 1) (aCons (eVar 2) aNil)))) (gN 3))
  (sSeq (sIf (tVal (eBin oEq (eBin oIx (eVar 3) (eC (.int 0))) (eC (.str "load")))) (sRet (eBin (oAdd false) (eSl false (eVar 3) pNone (pSome (eC (.int 2)))) (eTup (aCons (eCall 2 F_law_draw [] (aCons (eVar 0) (aCons (eC (.int 1000)) aNil))) aNil)))) sNil)
  (sSeq (sIf (tVal (eBin oEq (eBin oIx (eVar 3) (eC (.int 0))) (eC (.str "store")))) (sRet (eTup (aCons (eBin oIx (eVar 3) (eC (.int 0))) (aCons (eCall 2 F_law_draw [] (aCons (eVar 0) (aCons (eC (.int 1000)) aNil))) (aCons (eBin oIx (eVar 3) (eC (.int 2))) aNil))))) sNil)
  (sSeq (sIf (tVal (eBin oEq (eBin oIx (eVar 3) (eC (.int 0))) (eC (.str "skip")))) (sSeq (sAsg (eBin oShl (eC (.int 1)) (eCall 2 F_law_draw [] (aCons (eVar 0) (aCons (eC (.int 7)) aNil)))) (gN 4))
  (sRet (eBin (oAdd false) (eSl false (eVar 3) pNone (pSome (eC (.int 2)))) (eTup (aCons (eVar 4) (aCons (eCall 2 F_law_draw [] (aCons (eVar 0) (aCons (eVar 4) aNil))) (aCons (eBin oIx (eVar 3) (eC (.int 4))) aNil))))))) sNil)
  (sRet (eVar 3))))))
theorem ex_law_far_row : ∃ F : FD, F = fnD 5 T_law_far_row := ⟨_, rfl⟩
noncomputable def F_law_far_row : FD := Classical.choose ex_law_far_row
theorem F_law_far_row_eq : F_law_far_row = fnD 5 T_law_far_row := Classical.choose_spec ex_law_far_row
abbrev s_law_far_rows : Stmt := top 33
theorem sc_law_far_rows : FnScope ["_law_deal_here", "_law_registers", "_law_many", "_law_at"] ["_law_deal_here", "_law_registers", "_law_many"] (defScope s_law_far_rows) := ⟨rfl, rfl, rfl, by decide +kernel, rfl, by decide +kernel, by decide +kernel⟩
def T_law_far_rows : TDS := (sRet (eLc true (iRange1 (aCons (eVar 2) aNil)) (en1 [3] 3) tYe (eCall 3 F_law_far_row [] (aCons (eVar 0) (aCons (eVar 1) (aCons (eBin oSub (eBin oSub (eVar 2) (eVar 3)) (eC (.int 1))) aNil))))))
theorem ex_law_far_rows : ∃ F : FD, F = fnDm 4 T_law_far_rows := ⟨_, rfl⟩
noncomputable def F_law_far_rows : FD := Classical.choose ex_law_far_rows
theorem F_law_far_rows_eq : F_law_far_rows = fnDm 4 T_law_far_rows := Classical.choose_spec ex_law_far_rows
abbrev s_law : Stmt := top 42
theorem sc_law : FnScope ["_law_script", "_law_deal_here", "_law_rows", "_law_turn", "_law_some", "_law_spoil", "_law_kept", "_law_given", "_law_code", "_law_near", "_law_other", "_law_many", "_law_long", "_law_at"] ["_law_script"] (defScope s_law) := ⟨rfl, rfl, rfl, by decide +kernel, rfl, by decide +kernel, by decide +kernel⟩
def T_law : TDS := (sSeq (sAsg (eCall 2 F_law_deal [] (aCons (eVar 0) (aCons (eC (.int 0)) aNil))) (gN 1))
  (sSeq (sAsg (eCall 3 F_law_far_rows [] (aCons (eVar 1) (aCons (eC (.int 8)) (aCons (eCall 2 F_law_draw [] (aCons (eVar 1) (aCons (eC (.int 13)) aNil))) aNil)))) (gN 2))
  (sCut (sFor (iRange1 (aCons (eC (.int 12)) aNil)) (gN 3)
  (sSeq (sAsg (eB (cList false) (aCons (eVar 2) aNil)) (gN 4))
  (sCut (sFor (iRange1 (aCons (eCall 2 F_law_draw [] (aCons (eVar 1) (aCons (eC (.int 4)) aNil))) aNil)) (gN 5)
  (sAsg (eCall 2 F_law_spoilt [] (aCons (eVar 1) (aCons (eVar 4) aNil))) (gN 4)))
  (sSeq (sAsg (eB (cList false) (aCons (eVar 4) aNil)) (gN 6))
  (sFor (iSeq (eTup (aCons (eVar 4) (aCons (eB cTuple (aCons (eVar 4) aNil)) aNil)))) (gN 7)
  (sIf (tOn (tVal (eBin oNe (eB cRepr (aCons (eCall 1 F_law_told [] (aCons (eVar 7) aNil)) aNil)) (eB cRepr (aCons (eCall 1 F_law_due [] (aCons (eVar 4) aNil)) aNil)))) (tVal (eBin oNe (eVar 4) (eVar 6)))) (sRet (eC (.bl false))) sNil))))))
  (sSeq (sAsg (eMk false "Code" 2 F_Code_init [] (aCons (eVar 2) aNil)) (gN 8))
  (sSeq (sIf (tOn (tVal (eBin oNe (eFld "rows" (eVar 8)) (eB cTuple (aCons (eVar 2) aNil)))) (tOn (tNo (tVal (eB (cIsi itab) (aCons (eFld "rows" (eVar 8)) (aCons (eC (.ty "tuple")) aNil))))) (tVal (eBin oNe (eB (cLenC "Code" F_Code_len) (aCons (eVar 8) aNil)) (eB cLen (aCons (eVar 2) aNil)))))) (sRet (eC (.bl false))) sNil)
  (sSeq (sIf (tOn (tVal (eBin (oEqC "Code" F_Code_eq not) (eVar 8) (eMk false "Code" 2 F_Code_init [] (aCons (eB cTuple (aCons (eVar 2) aNil)) aNil)))) (tOn (tVal (eBin (oEqX "Code" F_Code_eq) (eVar 8) (eB cTuple (aCons (eVar 2) aNil)))) (tVal (eBin (oEqX "Code" F_Code_eq) (eVar 8) (eC (.int 3)))))) (sRet (eC (.bl false))) sNil)
  (sSeq (sAsg (eLc false (iSeq (eLst false (aCons (eSl false (eVar 2) pNone (pSome (eUn uNeg (eC (.int 1))))) (aCons (eSl false (eVar 2) (pSome (eC (.int 1))) pNone) (aCons (eRevL false (eVar 2)) (aCons (eBin (oAdd false) (eVar 2) (eLst false (aCons (eTup (aCons (eC (.str "left")) (aCons (eC (.int 0)) (aCons (eC (.int 0)) aNil)))) aNil))) aNil)))))) (en1 [10] 10) (tVal (eBin oIs (eCall 1 F_law_due [] (aCons (eVar 10) aNil)) (eC .non))) (eVar 10)) (gN 9))
  (sSeq (sIf (tVal (eBin oNe (eLc false (iSeq (eVar 9)) (en1 [10] 10) (tVal (eBin oNe (eBin (oEqC "Code" F_Code_eq id) (eMk false "Code" 2 F_Code_init [] (aCons (eVar 10) aNil)) (eVar 8)) (eBin oEq (eVar 10) (eVar 2)))) (eVar 10)) (eLst false aNil))) (sRet (eC (.bl false))) sNil)
  (sSeq (sExpr (eM "list" mAppend (eVar 2) (aCons (eTup (aCons (eC (.str "left")) (aCons (eC (.int 0)) (aCons (eC (.int 0)) aNil)))) aNil)))
  (sSeq (sIf (tOn (tVal (eBin oNe (eB (cLenC "Code" F_Code_len) (aCons (eVar 8) aNil)) (eBin oSub (eB cLen (aCons (eVar 2) aNil)) (eC (.int 1))))) (tNo (tVal (eCall 1 F_law_machines_right [] (aCons (eVar 1) aNil))))) (sRet (eC (.bl false))) sNil)
  (sSeq (sAsg (eBin (oAdd false) (eC (.int 999)) (eCall 2 F_law_draw [] (aCons (eVar 1) (aCons (eC (.int 4)) aNil)))) (gN 11))
  (sSeq (sAsg (eBin (oMul true) (eLst false (aCons (eTup (aCons (eC (.str "left")) (aCons (eC (.int 0)) (aCons (eC (.int 1)) aNil)))) aNil)) (eVar 11)) (gN 12))
  (sSeq (sIf (tVal (eBin oNe (eB cRepr (aCons (eCall 1 F_law_told [] (aCons (eVar 12) aNil)) aNil)) (eB cRepr (aCons (eIf (tVal (eBin oLt (eVar 11) (eC (.int 1001)))) (eC .non) (eTup (aCons (eC (.str "count")) (aCons (eBin oSub (eC (.int 0)) (eC (.int 1))) aNil)))) aNil)))) (sRet (eC (.bl false))) sNil)
  (sSeq (sAsg (eCall 2 F_law_draw [] (aCons (eVar 1) (aCons (eVar 11) aNil))) (gN 13))
  (sSeq (sAsg (eBin oIx (eLst false (aCons (eTup (aCons (eC (.str "left")) (aCons (eC (.int 9)) (aCons (eC (.int 1)) aNil)))) (aCons (eTup (aCons (eC (.str "skip")) (aCons (eC (.int 0)) (aCons (eC (.int 1)) (aCons (eC (.int 0)) (aCons (eC (.int 1000)) aNil)))))) (aCons (eC (.str "left")) (aCons (eTup (aCons (eC (.str "left")) (aCons (eC (.int 0)) aNil))) aNil))))) (eCall 2 F_law_draw [] (aCons (eVar 1) (aCons (eC (.int 4)) aNil)))) (gSu (eVar 12) (eVar 13)))
  (sRet (eBin oEq (eB cRepr (aCons (eCall 1 F_law_told [] (aCons (eVar 12) aNil)) aNil)) (eB cRepr (aCons (eCall 1 F_law_due [] (aCons (eVar 12) aNil)) aNil)))))))))))))))))))
theorem ex_law : ∃ F : FD, F = fnD 14 T_law := ⟨_, rfl⟩
noncomputable def F_law : FD := Classical.choose ex_law
theorem F_law_eq : F_law = fnD 14 T_law := Classical.choose_spec ex_law
end PD
set_option Elab.async false
set_option linter.all false
set_option autoImplicit false
set_option maxRecDepth 100000
set_option maxHeartbeats 4000000
namespace PD
open PySem PySem.Spec PyProof.Rows L2
open LB (top)
section
variable {P : Program} {w : World} {K : PySem.W.Frag} {mg : Str → Option Value} {base : Heap} {W : Wo}
theorem ok_law {fa : Addr} (F : LB.LawFn K mg fa s_law) (T : LB.Txt K mg) (C : TW K w W) (D_law_told : ∀ base, LB.DefX P w K mg base 7 "_law_told" ["_law_rows"] [] (spD W 1 F_law_told)) (D_law_due : ∀ base, LB.DefX P w K mg base 4 "_law_due" ["_law_rows"] [] (spD W 1 F_law_due)) (D_law_draw : ∀ base, LB.DefX P w K mg base 1 "_law_draw" ["_law_deal_here", "_law_many"] [] (spD W 2 F_law_draw)) (D_law_machines_right : ∀ base, LB.DefX P w K mg base 3 "_law_machines_right" ["_law_deal_here"] [] (spD W 1 F_law_machines_right)) (D_Code_len : ∀ base, MethX P w K mg base 1 (W.cl "Code") "__len__" ["self"] [] (spD W 1 F_Code_len)) (D_Code_init : ∀ base, MethX P w K mg base 5 (W.cl "Code") "__init__" ["self", "rows"] [] (spD W 2 F_Code_init)) (D_Code_eq : ∀ base, MethX P w K mg base 1 (W.cl "Code") "__eq__" ["self", "other"] [] (spD W 2 F_Code_eq)) (D_law_spoilt : ∀ base, LB.DefG P w K mg base 3 "_law_spoilt" ["_law_deal_here", "_law_rows"] (spD W 2 F_law_spoilt)) (D_law_far_rows : ∀ base, LB.DefX P w K mg base 5 "_law_far_rows" ["_law_deal_here", "_law_registers", "_law_many"] [] (spD W 3 F_law_far_rows)) (D_law_deal : ∀ base, LB.DefX P w K mg base 1 "_law_deal" ["_law_script", "_law_base"] [] (spD W 2 F_law_deal)) (co_Code : W.cok "Code") (O_Code : LB.OwnCls K mg "Code" (W.cl "Code")) (KI : KIs K W itab) (nf_Code : NotFirst K (W.cl "Code")) (ne_Code : LB.NeCls K (W.cl "Code")) (h : ∀ (ns : List Int), ns.length ≤ 63 → F_law [.scr ns] (fun _ => none) (fun d _ => d = .bl true) fun _ _ => False) :
    ∃ fd : FuncData, (∀ (s : Shared) (u : Value), BindsTo s fd ⟨[u], []⟩ [("_law_script", u)]) ∧ ∀ base : Heap, K.In base → base.Ns mainGlobals mg → LB.RunsC P w K mg base fa fd ["_law_script"] (LB.spLaw K) := by
  refine F.okC (k := 7) ⟨rfl, by decide, by decide⟩ sc_law (fun base _ _ cdv s H vs Q E hr hs => ?_)
  replace D_law_told := D_law_told base
  replace D_law_due := D_law_due base
  replace D_law_draw := D_law_draw base
  replace D_law_machines_right := D_law_machines_right base
  replace D_Code_len := D_Code_len base
  replace D_Code_init := D_Code_init base
  replace D_Code_eq := D_Code_eq base
  replace D_law_spoilt := D_law_spoilt base
  replace D_law_far_rows := D_law_far_rows base
  replace D_law_deal := D_law_deal base
  refine ⟨TDs W WF T_law,
    (bss_cons (bs_set (i := 1) sc_law.nd rfl (.inl rfl) (be_fnE D_law_deal (fun _ _ _ => .nil) (hr.mono (by decide)) rfl (ba_cons (bv 0) (ba_cons be_int ba_nil))))
    (bss_cons (bs_set (i := 2) sc_law.nd rfl (.inr rfl) (be_fnE D_law_far_rows (fun _ _ _ => .nil) (hr.mono (by decide)) rfl (ba_cons (bv 1) (ba_cons be_int (ba_cons (be_fnE D_law_draw (fun _ _ _ => .nil) (hr.mono (by decide)) rfl (ba_cons (bv 1) (ba_cons be_int ba_nil))) ba_nil)))))
    (bss_cut (bs_for PassesOwn.never rfl (bi_range1 (pi_range1 (by rfl) T.b_range (ba_cons be_int ba_nil))) (bg_name (i := 3) sc_law.nd rfl (.inl rfl))
    (bss_cons (bs_set (i := 4) sc_law.nd rfl (.inl rfl) (be_callTy (cd_list C) (by rfl) T.b_list (by decide +kernel) (ba_cons (bv 2) ba_nil)))
    (bss_cut (bs_for PassesOwn.never rfl (bi_range1 (pi_range1 (by rfl) T.b_range (ba_cons (be_fnE D_law_draw (fun _ _ _ => .nil) (hr.mono (by decide)) rfl (ba_cons (bv 1) (ba_cons be_int ba_nil))) ba_nil))) (bg_name (i := 5) sc_law.nd rfl (.inl rfl))
    (bss_one (bs_set (i := 4) sc_law.nd rfl (.inl rfl) (be_fnGE D_law_spoilt (hr.mono (by decide)) rfl rfl (ba_cons (bv 1) (ba_cons (bv 4) ba_nil))))))
    (bss_cons (bs_set (i := 6) sc_law.nd rfl (.inl rfl) (be_callTy (cd_list C) (by rfl) T.b_list (by decide +kernel) (ba_cons (bv 4) ba_nil)))
    (bss_one (bs_for PassesOwn.never rfl (bi_seq C (be_tup (ba_cons (bv 4) (ba_cons (be_callTy (cd_tuple C) (by rfl) T.b_tuple (by decide +kernel) (ba_cons (bv 4) ba_nil)) ba_nil)))) (bg_name (i := 7) sc_law.nd rfl (.inl rfl))
    (bss_one (bs_if (BW.bt (bw_or (bt_cmp (od_ne C.hK hr.units) (be_callB (cd_repr C rfl hr.units) (by rfl) T.b_repr (by decide +kernel) (ba_cons (be_fnE D_law_told (fun _ _ _ => .nil) (hr.mono (by decide)) rfl (ba_cons (bv 7) ba_nil)) ba_nil)) (be_callB (cd_repr C rfl hr.units) (by rfl) T.b_repr (by decide +kernel) (ba_cons (be_fnE D_law_due (fun _ _ _ => .nil) (hr.mono (by decide)) rfl (ba_cons (bv 4) ba_nil)) ba_nil)) (nomark _)) (bw_or1 (bt_cmp (od_ne C.hK hr.units) (bv 4) (bv 6) (nomark _))))) (bss_one (bs_ret be_bl)) bss_nil))))))))
    (bss_cons (bs_set (i := 8) sc_law.nd rfl (.inr rfl) (be_mkE co_Code O_Code D_Code_init (fun _ _ _ => .nil) (hr.mono (by decide)) rfl (ba_cons (bv 2) ba_nil)))
    (bss_cons (bs_if (BW.bt (bw_or (bt_cmp (od_ne C.hK hr.units) (be_fld C (bv 8) (by rfl)) (be_callTy (cd_tuple C) (by rfl) T.b_tuple (by decide +kernel) (ba_cons (bv 2) ba_nil)) (nomark _)) (bw_or (bt_not (bt_val (be_callB (cd_isi C KI) (by rfl) T.b_isinstance (by decide +kernel) (ba_cons (be_fld C (bv 8) (by rfl)) (ba_cons (be_ty (by rfl) T.b_tuple (by decide +kernel)) ba_nil))))) (bw_or1 (bt_cmp (od_ne C.hK hr.units) (be_callB (cd_lenC D_Code_len (hr.mono (by decide))) (by rfl) T.b_len (by decide +kernel) (ba_cons (bv 8) ba_nil)) (be_callB (cd_len C) (by rfl) T.b_len (by decide +kernel) (ba_cons (bv 2) ba_nil)) (nomark _)))))) (bss_one (bs_ret be_bl)) bss_nil)
    (bss_cons (bs_if (BW.bt (bw_or (bt_cmp (od_neC ne_Code D_Code_eq (hr.mono (by decide))) (bv 8) (be_mkE co_Code O_Code D_Code_init (fun _ _ _ => .nil) (hr.mono (by decide)) rfl (ba_cons (be_callTy (cd_tuple C) (by rfl) T.b_tuple (by decide +kernel) (ba_cons (bv 2) ba_nil)) ba_nil)) (nomark _)) (bw_or (bt_cmp (od_eqX C nf_Code D_Code_eq (hr.mono (by decide))) (bv 8) (be_callTy (cd_tuple C) (by rfl) T.b_tuple (by decide +kernel) (ba_cons (bv 2) ba_nil)) (nomark _)) (bw_or1 (bt_cmp (od_eqX C nf_Code D_Code_eq (hr.mono (by decide))) (bv 8) be_int (nomark _)))))) (bss_one (bs_ret be_bl)) bss_nil)
    (bss_cons (bs_setLc (i := 9) (own := [("_law_other", 10)]) en1_ok rfl sc_law.nd rfl rfl (sw_true rfl rfl rfl (by decide +kernel)) (bi_seq C (be_lst (ba_cons (be_slice C (bv 2) bo_none (bo_some (be_un ud_neg be_int))) (ba_cons (be_slice C (bv 2) (bo_some be_int) bo_none) (ba_cons (be_revL C (bv 2)) (ba_cons (be_op (od_add C.hK) (bv 2) (be_lst (ba_cons (be_tup (ba_cons be_str (ba_cons be_int (ba_cons be_int ba_nil)))) ba_nil))) ba_nil)))))) (blkOk_by (own := [("_law_other", 10)]) (N := ["_law_script", "_law_deal_here", "_law_rows", "_law_turn", "_law_some", "_law_spoil", "_law_kept", "_law_given", "_law_code", "_law_near", "_law_other", "_law_many", "_law_long", "_law_at"]) (sc := defScope s_law) (by decide +kernel)) (fun _ _ _ _ _ => (pg_name (i := 10) sc_law.nd rfl (.inl rfl))) (fun _ _ _ _ _ => (bts_one (bt_cmp od_is (be_fnE D_law_due (fun _ _ _ => .nil) (hr.mono (by decide)) rfl (ba_cons (bv 10) ba_nil)) be_non (nomark _)))) (fun _ _ _ _ _ => (bv 10)))
    (bss_cons (bs_if (bt_cmp (od_ne C.hK hr.units) (be_lc (own := [("_law_other", 10)]) en1_ok rfl sc_law.nd (bi_seq C (bv 9)) (blkOk_by (own := [("_law_other", 10)]) (N := ["_law_script", "_law_deal_here", "_law_rows", "_law_turn", "_law_some", "_law_spoil", "_law_kept", "_law_given", "_law_code", "_law_near", "_law_other", "_law_many", "_law_long", "_law_at"]) (sc := defScope s_law) (by decide +kernel)) (fun _ _ _ _ _ => (pg_name (i := 10) sc_law.nd rfl (.inl rfl))) (fun _ _ _ _ _ => (bts_one (bt_cmp (od_ne C.hK hr.units) (be_cmp (od_eqC D_Code_eq (hr.mono (by decide))) (be_mkE co_Code O_Code D_Code_init (fun _ _ _ => .nil) (hr.mono (by decide)) rfl (ba_cons (bv 10) ba_nil)) (bv 8) (nomark _)) (be_cmp (od_eq C.hK hr.units) (bv 10) (bv 2) (nomark _)) (nomark _)))) (fun _ _ _ _ _ => (bv 10))) (be_lst ba_nil) (nomark _)) (bss_one (bs_ret be_bl)) bss_nil)
    (bss_cons (bs_expr (be_bm C PySem.F.plainAttrs_list PySem.F.slot_list_append PySem.F.type_list_append md_append (bv 2) (ba_cons (be_tup (ba_cons be_str (ba_cons be_int (ba_cons be_int ba_nil)))) ba_nil)))
    (bss_cons (bs_if (BW.bt (bw_or (bt_cmp (od_ne C.hK hr.units) (be_callB (cd_lenC D_Code_len (hr.mono (by decide))) (by rfl) T.b_len (by decide +kernel) (ba_cons (bv 8) ba_nil)) (be_op od_sub (be_callB (cd_len C) (by rfl) T.b_len (by decide +kernel) (ba_cons (bv 2) ba_nil)) be_int) (nomark _)) (bw_or1 (bt_not (bt_val (be_fnE D_law_machines_right (fun _ _ _ => .nil) (hr.mono (by decide)) rfl (ba_cons (bv 1) ba_nil))))))) (bss_one (bs_ret be_bl)) bss_nil)
    (bss_cons (bs_set (i := 11) sc_law.nd rfl (.inl rfl) (be_op (od_add C.hK) be_int (be_fnE D_law_draw (fun _ _ _ => .nil) (hr.mono (by decide)) rfl (ba_cons (bv 1) (ba_cons be_int ba_nil)))))
    (bss_cons (bs_set (i := 12) sc_law.nd rfl (.inl rfl) (be_op od_mul (be_lst (ba_cons (be_tup (ba_cons be_str (ba_cons be_int (ba_cons be_int ba_nil)))) ba_nil)) (bv 11)))
    (bss_cons (bs_if (bt_cmp (od_ne C.hK hr.units) (be_callB (cd_repr C rfl hr.units) (by rfl) T.b_repr (by decide +kernel) (ba_cons (be_fnE D_law_told (fun _ _ _ => .nil) (hr.mono (by decide)) rfl (ba_cons (bv 12) ba_nil)) ba_nil)) (be_callB (cd_repr C rfl hr.units) (by rfl) T.b_repr (by decide +kernel) (ba_cons (be_if (bt_cmp od_lt (bv 11) be_int (nomark _)) be_non (be_tup (ba_cons be_str (ba_cons (be_op od_sub be_int be_int) ba_nil)))) ba_nil)) (nomark _)) (bss_one (bs_ret be_bl)) bss_nil)
    (bss_cons (bs_set (i := 13) sc_law.nd rfl (.inl rfl) (be_fnE D_law_draw (fun _ _ _ => .nil) (hr.mono (by decide)) rfl (ba_cons (bv 1) (ba_cons (bv 11) ba_nil))))
    (bss_cons (bs_asg (be_ix (id_ix C (hu_of hr)) (be_lst (ba_cons (be_tup (ba_cons be_str (ba_cons be_int (ba_cons be_int ba_nil)))) (ba_cons (be_tup (ba_cons be_str (ba_cons be_int (ba_cons be_int (ba_cons be_int (ba_cons be_int ba_nil)))))) (ba_cons be_str (ba_cons (be_tup (ba_cons be_str (ba_cons be_int ba_nil))) ba_nil))))) (be_fnE D_law_draw (fun _ _ _ => .nil) (hr.mono (by decide)) rfl (ba_cons (bv 1) (ba_cons be_int ba_nil))) (fun _ _ => rfl)) (bg_sub (hu_of hr) (bv 12) (bv 13)))
    (bss_one (bs_ret (be_cmp (od_eq C.hK hr.units) (be_callB (cd_repr C rfl hr.units) (by rfl) T.b_repr (by decide +kernel) (ba_cons (be_fnE D_law_told (fun _ _ _ => .nil) (hr.mono (by decide)) rfl (ba_cons (bv 12) ba_nil)) ba_nil)) (be_callB (cd_repr C rfl hr.units) (by rfl) T.b_repr (by decide +kernel) (ba_cons (be_fnE D_law_due (fun _ _ _ => .nil) (hr.mono (by decide)) rfl (ba_cons (bv 12) ba_nil)) ba_nil)) (nomark _))))))))))))))))))), law_ok C.hK hs fun ns hn => ?_⟩
  have := h ns hn
  rw [F_law_eq] at this
  exact this
theorem ok_Code_init (t : LB.TopMeth K (W.cl "Code") "__init__" "Code.__init__" s_Code_init ["self", "rows"]) (T : LB.Txt K mg) (C : TW K w W) (D_check_rows : LB.DefX P w K mg base 4 "check_rows" ["rows"] [] (spD W 1 F_check_rows)) (fo_Code__rows : W.fok "Code" "rows") : MethX P w K mg base 5 (W.cl "Code") "__init__" ["self", "rows"] [] (spD W 2 F_Code_init) := by
  rw [F_Code_init_eq]
  exact TopMeth_okD t sc_Code_init (fun f cdv A outer s H E hr =>
    (bss_cons (bs_expr (be_fn D_check_rows (fun _ _ _ => .nil) (takes_of rfl rfl rfl rfl) (hr.mono (by decide)) rfl (ba_cons (bv 1) ba_nil)))
    (bss_one (bs_fld C fo_Code__rows (bv 0) (be_callTy (cd_tuple C) (by rfl) T.b_tuple (by decide +kernel) (ba_cons (bv 1) ba_nil)) rfl))))
theorem ok_Code_len (t : LB.TopMeth K (W.cl "Code") "__len__" "Code.__len__" s_Code_len ["self"]) (T : LB.Txt K mg) (C : TW K w W) : MethX P w K mg base 1 (W.cl "Code") "__len__" ["self"] [] (spD W 1 F_Code_len) := by
  rw [F_Code_len_eq]
  exact TopMeth_okD t sc_Code_len (fun f cdv A outer s H E hr =>
    (bss_one (bs_ret (be_callB (cd_len C) (by rfl) T.b_len (by decide +kernel) (ba_cons (be_fld C (bv 0) (by rfl)) ba_nil)))))
end
end PD
set_option Elab.async false
set_option linter.all false
set_option autoImplicit false
set_option maxRecDepth 100000
set_option maxHeartbeats 4000000
namespace PD
open PySem PySem.Spec PyProof.Rows L2
open LB (top)
section
variable {P : Program} {w : World} {K : PySem.W.Frag} {mg : Str → Option Value} {base : Heap} {W : Wo}
theorem ok_law_spoilt (t : LB.TopFn K mg "_law_spoilt" s_law_spoilt ["_law_deal_here", "_law_rows"]) (T : LB.Txt K mg) (C : TW K w W) (D_law_draw : LB.DefX P w K mg base 1 "_law_draw" ["_law_deal_here", "_law_many"] [] (spD W 2 F_law_draw)) (D_law_odd_item : LB.DefX P w K mg base 2 "_law_odd_item" ["_law_deal_here", "_law_item"] [] (spD W 2 F_law_odd_item)) (KI : KIs K W itab) : LB.DefG P w K mg base 3 "_law_spoilt" ["_law_deal_here", "_law_rows"] (spD W 2 F_law_spoilt) := by
  rw [F_law_spoilt_eq]
  exact TopFn_okG t sc_law_spoilt (fun f cdv A outer s H E hr hgd =>
    (bss_cons (bs_if (bt_cmp (od_eq C.hK hr.units) (bv 1) (be_lst ba_nil) (nomark _)) (bss_one (bs_ret (be_slice C (be_slice C (be_lst (ba_cons (be_lst ba_nil) (ba_cons (be_tup ba_nil) (ba_cons be_non (ba_cons be_str (ba_cons (be_tup (ba_cons be_str (ba_cons be_int (ba_cons be_int (ba_cons be_int (ba_cons be_int ba_nil)))))) (ba_cons (be_tup (ba_cons be_str (ba_cons be_int (ba_cons be_int ba_nil)))) ba_nil))))))) (bo_some (be_fn D_law_draw (fun _ _ _ => .nil) (takes_of rfl rfl rfl rfl) (hr.mono (by decide)) rfl (ba_cons (bv 0) (ba_cons be_int ba_nil)))) bo_none) bo_none (bo_some be_int)))) bss_nil)
    (bss_cons (bs_par3 (i := 2) (j := 3) (l := 4) (by rfl) sc_law_spoilt.nd rfl rfl rfl (by decide) (by decide) (by decide) rfl rfl rfl (ba_cons (be_fn D_law_draw (fun _ _ _ => .nil) (takes_of rfl rfl rfl rfl) (hr.mono (by decide)) rfl (ba_cons (bv 0) (ba_cons (be_callB (cd_len C) (by rfl) T.b_len (by decide +kernel) (ba_cons (bv 1) ba_nil)) ba_nil))) (ba_cons (be_fn D_law_draw (fun _ _ _ => .nil) (takes_of rfl rfl rfl rfl) (hr.mono (by decide)) rfl (ba_cons (bv 0) (ba_cons be_int ba_nil))) (ba_cons (be_callTy (cd_list C) (by rfl) T.b_list (by decide +kernel) (ba_cons (bv 1) ba_nil)) ba_nil))) (by rfl))
    (bss_cons (bs_set (i := 5) sc_law_spoilt.nd rfl (.inl rfl) (be_ix (id_ix C (hu_of hr)) (bv 4) (bv 2) (fun _ _ => rfl)))
    (bss_cons (bs_if (bt_cmp (od_eq C.hK hr.units) (bv 3) be_int (nomark _)) (bss_one (bs_ret (be_op (od_add C.hK) (be_slice C (bv 4) bo_none (bo_some (bv 2))) (be_slice C (bv 4) (bo_some (be_op (od_add C.hK) (bv 2) be_int)) bo_none)))) bss_nil)
    (bss_cons (bs_if (bt_cmp (od_eq C.hK hr.units) (bv 3) be_int (nomark _)) (bss_one (bs_ret (be_op (od_add C.hK) (be_op (od_add C.hK) (be_slice C (bv 4) bo_none (bo_some (bv 2))) (be_lst (ba_cons (bv 5) ba_nil))) (be_slice C (bv 4) (bo_some (bv 2)) bo_none)))) bss_nil)
    (bss_cons (bs_if (BW.bt (bw_or (bt_not (bt_val (be_callB (cd_isi C KI) (by rfl) T.b_isinstance (by decide +kernel) (ba_cons (bv 5) (ba_cons (be_ty (by rfl) T.b_tuple (by decide +kernel)) ba_nil))))) (bw_or1 (bt_cmp (od_eq C.hK hr.units) (bv 5) (be_tup ba_nil) (nomark _))))) (bss_one (bs_ret (be_op (od_add C.hK) (be_op (od_add C.hK) (be_slice C (bv 4) bo_none (bo_some (bv 2))) (be_lst (ba_cons (be_tup (ba_cons be_str (ba_cons be_int (ba_cons be_int ba_nil)))) ba_nil))) (be_slice C (bv 4) (bo_some (be_op (od_add C.hK) (bv 2) be_int)) bo_none)))) bss_nil)
    (bss_cons (bs_set (i := 6) sc_law_spoilt.nd rfl (.inl rfl) (be_fn D_law_draw (fun _ _ _ => .nil) (takes_of rfl rfl rfl rfl) (hr.mono (by decide)) rfl (ba_cons (bv 0) (ba_cons (be_callB (cd_len C) (by rfl) T.b_len (by decide +kernel) (ba_cons (bv 5) ba_nil)) ba_nil))))
    (bss_cut (bs_if (bt_cmp (od_eq C.hK hr.units) (bv 3) be_int (nomark _)) (bss_cons (bs_set (i := 7) sc_law_spoilt.nd rfl (.inl rfl) (be_bm C PySem.F.plainAttrs_str PySem.F.slot_str_join PySem.F.type_str_join (md_join C) be_str (ba_cons (be_lc (own := [("_law_one", 8)]) en1_ok rfl sc_law_spoilt.nd (bi_seq C (bv 5)) (blkOk_by (own := [("_law_one", 8)]) (N := ["_law_deal_here", "_law_rows", "_law_at", "_law_form", "_law_found", "_law_row_here", "_law_place", "_law_text", "_law_one"]) (sc := defScope s_law_spoilt) (by decide +kernel)) (fun _ _ _ _ _ => (pg_name (i := 8) sc_law_spoilt.nd rfl (.inl rfl))) (fun _ _ _ _ _ => bts_nil) (fun _ _ _ _ _ => (be_callTy (cd_strG C hgd hr.units) (by rfl) T.b_str (by decide +kernel) (ba_cons (bv 8) ba_nil)))) ba_nil)))
    (bss_one (bs_asg (be_ix (id_ix C (hu_of hr)) (be_lst (ba_cons (be_callTy (cd_list C) (by rfl) T.b_list (by decide +kernel) (ba_cons (bv 5) ba_nil)) (ba_cons (be_slice C (bv 5) bo_none (bo_some (be_un ud_neg be_int))) (ba_cons (be_op (od_add C.hK) (bv 5) (be_tup (ba_cons be_int ba_nil))) (ba_cons (be_tup ba_nil) (ba_cons (be_ix (id_ix C (hu_of hr)) (bv 5) be_int (fun _ _ => rfl)) (ba_cons be_non (ba_cons be_int (ba_cons (bv 7) ba_nil))))))))) (be_fn D_law_draw (fun _ _ _ => .nil) (takes_of rfl rfl rfl rfl) (hr.mono (by decide)) rfl (ba_cons (bv 0) (ba_cons be_int ba_nil))) (fun _ _ => rfl)) (bg_sub (hu_of hr) (bv 4) (bv 2))))) (bss_one (bs_if (bt_cmp (od_eq C.hK hr.units) (bv 3) be_int (nomark _)) (bss_one (bs_asg (be_op (od_add C.hK) (be_slice C (bv 5) bo_none (bo_some (be_un ud_neg be_int))) (be_tup (ba_cons (be_fn D_law_odd_item (fun _ _ _ => .nil) (takes_of rfl rfl rfl rfl) (hr.mono (by decide)) rfl (ba_cons (bv 0) (ba_cons (be_ix (id_ix C (hu_of hr)) (bv 5) (be_un ud_neg be_int) (fun _ _ => rfl)) ba_nil))) ba_nil))) (bg_sub (hu_of hr) (bv 4) (bv 2)))) (bss_one (bs_asg (be_op (od_add C.hK) (be_op (od_add C.hK) (be_slice C (bv 5) bo_none (bo_some (bv 6))) (be_tup (ba_cons (be_fn D_law_odd_item (fun _ _ _ => .nil) (takes_of rfl rfl rfl rfl) (hr.mono (by decide)) rfl (ba_cons (bv 0) (ba_cons (be_ix (id_ix C (hu_of hr)) (bv 5) (bv 6) (fun _ _ => rfl)) ba_nil))) ba_nil))) (be_slice C (bv 5) (bo_some (be_op (od_add C.hK) (bv 6) be_int)) bo_none)) (bg_sub (hu_of hr) (bv 4) (bv 2)))))))
    (bss_one (bs_retF (bv 4))))))))))))
theorem ok_law_item_fits (t : LB.TopFn K mg "_law_item_fits" s_law_item_fits ["_law_form", "_law_value", "_law_row_here"]) (T : LB.Txt K mg) (C : TW K w W) (D_law_is_whole : LB.DefX P w K mg base 1 "_law_is_whole" ["_law_value"] [] (spD W 1 F_law_is_whole)) : LB.DefX P w K mg base 2 "_law_item_fits" ["_law_form", "_law_value", "_law_row_here"] [] (spD W 3 F_law_item_fits) := by
  rw [F_law_item_fits_eq]
  exact TopFn_okD t sc_law_item_fits (fun f cdv A outer s H E hr =>
    (bss_cons (bs_if (bt_not (bt_val (be_fn D_law_is_whole (fun _ _ _ => .nil) (takes_of rfl rfl rfl rfl) (hr.mono (by decide)) rfl (ba_cons (bv 1) ba_nil)))) (bss_one (bs_ret be_bl)) bss_nil)
    (bss_cons (bs_if (bt_cmp (od_eq C.hK hr.units) (bv 0) be_str (nomark _)) (bss_one (bs_ret (be_chain od_le od_le be_int (bv 1) be_int))) bss_nil)
    (bss_cons (bs_if (bt_cmp (od_eq C.hK hr.units) (bv 0) be_str (nomark _)) (bss_one (bs_ret (be_chain od_lt od_lt (be_un ud_neg (be_op od_shl be_int be_int)) (bv 1) (be_op od_shl be_int be_int)))) bss_nil)
    (bss_cons (bs_if (bt_cmp (od_eq C.hK hr.units) (bv 0) be_str (nomark _)) (bss_one (bs_ret (be_chain od_le od_le be_int (bv 1) be_int))) bss_nil)
    (bss_cons (bs_if (bt_cmp (od_eq C.hK hr.units) (bv 0) be_str (nomark _)) (bss_one (bs_ret (be_cmp (od_in C (hu_of hr)) (bv 1) (be_tup (ba_cons be_int (ba_cons be_int (ba_cons be_int (ba_cons be_int (ba_cons be_int (ba_cons be_int (ba_cons be_int ba_nil)))))))) (by rfl)))) bss_nil)
    (bss_cons (bs_if (bt_cmp (od_eq C.hK hr.units) (bv 0) be_str (nomark _)) (bss_one (bs_ret (be_and (be_fn D_law_is_whole (fun _ _ _ => .nil) (takes_of rfl rfl rfl rfl) (hr.mono (by decide)) rfl (ba_cons (be_ix (id_ix C (hu_of hr)) (bv 2) be_int (fun _ _ => rfl)) ba_nil)) (be_one (be_chain od_le od_lt be_int (bv 1) (be_ix (id_ix C (hu_of hr)) (bv 2) be_int (fun _ _ => rfl))))))) bss_nil)
    (bss_one (bs_ret (be_chain od_le od_le be_int (bv 1) be_int))))))))))
theorem ok_Machine_eq (t : LB.TopMeth K (W.cl "Machine") "__eq__" "Machine.__eq__" s_Machine_eq ["self", "other"]) (T : LB.Txt K mg) (C : TW K w W) (KI : KIs K W itab) (G_Machine : GTxt W mg "Machine" (.cls "Machine")) : MethX P w K mg base 1 (W.cl "Machine") "__eq__" ["self", "other"] [] (spD W 2 F_Machine_eq) := by
  rw [F_Machine_eq_eq]
  exact TopMeth_okD t sc_Machine_eq (fun f cdv A outer s H E hr =>
    (bss_one (bs_ret (be_and (be_callB (cd_isi C KI) (by rfl) T.b_isinstance (by decide +kernel) (ba_cons (bv 1) (ba_cons (be_glob rfl G_Machine) ba_nil))) (be_and (be_cmp (od_eq C.hK hr.units) (be_fld C (bv 0) (by rfl)) (be_fld C (bv 1) (by rfl)) (nomark _)) (be_one (be_cmp (od_eq C.hK hr.units) (be_fld C (bv 0) (by rfl)) (be_fld C (bv 1) (by rfl)) (nomark _))))))))
theorem ok_is_modulus (t : LB.TopFn K mg "is_modulus" s_is_modulus ["number"]) (T : LB.Txt K mg) (C : TW K w W) (G_MOST_MODULUS : GTxt W mg "MOST_MODULUS" g_MOST_MODULUS) : LB.DefX P w K mg base 1 "is_modulus" ["number"] [] (spD W 1 F_is_modulus) := by
  rw [F_is_modulus_eq]
  exact TopFn_okD t sc_is_modulus (fun f cdv A outer s H E hr =>
    (bss_one (bs_ret (be_and (be_chain od_lt od_le be_int (bv 0) (be_glob rfl G_MOST_MODULUS)) (be_one (be_cmp (od_eq C.hK hr.units) (be_op od_mod (be_glob rfl G_MOST_MODULUS) (bv 0)) be_int (nomark _)))))))
end
end PD
set_option Elab.async false
set_option linter.all false
set_option autoImplicit false
set_option maxRecDepth 100000
set_option maxHeartbeats 4000000
namespace PD
open PySem PySem.Spec PyProof.Rows L2
open LB (top)
section
variable {P : Program} {w : World} {K : PySem.W.Frag} {mg : Str → Option Value} {base : Heap} {W : Wo}
theorem ok_law_row (t : LB.TopFn K mg "_law_row" s_law_row ["_law_deal_here", "_law_registers", "_law_left"]) (T : LB.Txt K mg) (C : TW K w W) (D_law_draw : LB.DefX P w K mg base 1 "_law_draw" ["_law_deal_here", "_law_many"] [] (spD W 2 F_law_draw)) (D_law_number : LB.DefX P w K mg base 2 "_law_number" ["_law_deal_here"] [] (spD W 1 F_law_number)) : LB.DefX P w K mg base 3 "_law_row" ["_law_deal_here", "_law_registers", "_law_left"] [] (spD W 3 F_law_row) := by
  rw [F_law_row_eq]
  exact TopFn_okD t sc_law_row (fun f cdv A outer s H E hr =>
    (bss_cons (bs_set (i := 3) sc_law_row.nd rfl (.inl rfl) (be_tup (ba_cons be_str (ba_cons be_str (ba_cons be_str (ba_cons be_str (ba_cons be_str (ba_cons be_str (ba_cons be_str (ba_cons be_str (ba_cons be_str (ba_cons be_str (ba_cons be_str (ba_cons be_str (ba_cons be_str ba_nil)))))))))))))))
    (bss_cons (bs_set (i := 4) sc_law_row.nd rfl (.inl rfl) (be_ix (id_ix C (hu_of hr)) (bv 3) (be_fn D_law_draw (fun _ _ _ => .nil) (takes_of rfl rfl rfl rfl) (hr.mono (by decide)) rfl (ba_cons (bv 0) (ba_cons be_int ba_nil))) (fun _ _ => rfl)))
    (bss_cons (bs_asg (be_lc (own := [("_law_turn", 8)]) en1_ok rfl sc_law_row.nd (bi_range1 (pi_range1 (by rfl) T.b_range (ba_cons be_int ba_nil))) (blkOk_by (own := [("_law_turn", 8)]) (N := ["_law_deal_here", "_law_registers", "_law_left", "_law_words", "_law_word", "_law_r", "_law_a", "_law_b", "_law_turn", "_law_modulus"]) (sc := defScope s_law_row) (by decide +kernel)) (fun _ _ _ _ _ => (pg_name (i := 8) sc_law_row.nd rfl (.inl rfl))) (fun _ _ _ _ _ => bts_nil) (fun _ _ _ _ _ => (be_fnE D_law_draw (fun _ _ _ => .nil) (hr.mono (by decide)) rfl (ba_cons (bv 0) (ba_cons (bv 1) ba_nil))))) (bg_tup C rfl (bgs_cons (bg_name (i := 5) sc_law_row.nd rfl (.inl rfl)) (bgs_cons (bg_name (i := 6) sc_law_row.nd rfl (.inl rfl)) (bgs_cons (bg_name (i := 7) sc_law_row.nd rfl (.inl rfl)) bgs_nil)))))
    (bss_cons (bs_if (bt_cmp (od_eq C.hK hr.units) (bv 4) be_str (nomark _)) (bss_one (bs_ret (be_tup (ba_cons (bv 4) (ba_cons (bv 5) (ba_cons (be_fn D_law_number (fun _ _ _ => .nil) (takes_of rfl rfl rfl rfl) (hr.mono (by decide)) rfl (ba_cons (bv 0) ba_nil)) ba_nil)))))) bss_nil)
    (bss_cons (bs_if (bt_cmp (od_in C (hu_of hr)) (bv 4) (be_tup (ba_cons be_str (ba_cons be_str (ba_cons be_str ba_nil)))) (by rfl)) (bss_one (bs_ret (be_tup (ba_cons (bv 4) (ba_cons (bv 5) (ba_cons (bv 6) ba_nil)))))) bss_nil)
    (bss_cons (bs_if (bt_cmp (od_eq C.hK hr.units) (bv 4) be_str (nomark _)) (bss_one (bs_ret (be_tup (ba_cons (bv 4) (ba_cons (bv 5) (ba_cons (be_ix (id_ix C (hu_of hr)) (be_lst (ba_cons be_int (ba_cons be_int (ba_cons be_int ba_nil)))) (be_fn D_law_draw (fun _ _ _ => .nil) (takes_of rfl rfl rfl rfl) (hr.mono (by decide)) rfl (ba_cons (bv 0) (ba_cons be_int ba_nil))) (fun _ _ => rfl)) ba_nil)))))) bss_nil)
    (bss_cons (bs_if (bt_cmp (od_eq C.hK hr.units) (bv 4) be_str (nomark _)) (bss_one (bs_ret (be_tup (ba_cons (bv 4) (ba_cons (be_ix (id_ix C (hu_of hr)) (be_lst (ba_cons be_int (ba_cons be_int (ba_cons be_int ba_nil)))) (be_fn D_law_draw (fun _ _ _ => .nil) (takes_of rfl rfl rfl rfl) (hr.mono (by decide)) rfl (ba_cons (bv 0) (ba_cons be_int ba_nil))) (fun _ _ => rfl)) (ba_cons (bv 6) ba_nil)))))) bss_nil)
    (bss_cons (bs_if (bt_cmp (od_eq C.hK hr.units) (bv 4) be_str (nomark _)) (bss_cons (bs_set (i := 9) sc_law_row.nd rfl (.inl rfl) (be_op od_shl be_int (be_fn D_law_draw (fun _ _ _ => .nil) (takes_of rfl rfl rfl rfl) (hr.mono (by decide)) rfl (ba_cons (bv 0) (ba_cons be_int ba_nil)))))
    (bss_one (bs_ret (be_tup (ba_cons (bv 4) (ba_cons (bv 6) (ba_cons (bv 9) (ba_cons (be_fn D_law_draw (fun _ _ _ => .nil) (takes_of rfl rfl rfl rfl) (hr.mono (by decide)) rfl (ba_cons (bv 0) (ba_cons (bv 9) ba_nil))) (ba_cons (be_fn D_law_draw (fun _ _ _ => .nil) (takes_of rfl rfl rfl rfl) (hr.mono (by decide)) rfl (ba_cons (bv 0) (ba_cons (be_op (od_add C.hK) (bv 2) be_int) ba_nil))) ba_nil))))))))) bss_nil)
    (bss_one (bs_ret (be_tup (ba_cons (bv 4) (ba_cons (bv 5) (ba_cons (bv 6) (ba_cons (bv 7) ba_nil))))))))))))))))
theorem ok_law_told (t : LB.TopFn K mg "_law_told" s_law_told ["_law_rows"]) (T : LB.Txt K mg) (C : TW K w W) (D_Code_init : MethX P w K mg base 5 (W.cl "Code") "__init__" ["self", "rows"] [] (spD W 2 F_Code_init)) (co_Code : W.cok "Code") (O_Code : LB.OwnCls K mg "Code" (W.cl "Code")) (CT_LowError : Cats K W (.ref (W.cl "LowError")) cat_LowError) (gc_LowError : mg "LowError" = some (.ref (W.cl "LowError"))) (XO : XOk K W xfls) (KI : KIs K W itab) (G_InvalidCode : GTxt W mg "InvalidCode" (.cls "InvalidCode")) (G_InvalidNode : GTxt W mg "InvalidNode" (.cls "InvalidNode")) (G_InvalidText : GTxt W mg "InvalidText" (.cls "InvalidText")) (G_Mismatch : GTxt W mg "Mismatch" (.cls "Mismatch")) : LB.DefX P w K mg base 7 "_law_told" ["_law_rows"] [] (spD W 1 F_law_told) := by
  rw [F_law_told_eq]
  exact TopFn_okD t sc_law_told (fun f cdv A outer s H E hr =>
    (bss_cons (bs_set (i := 1) sc_law_told.nd rfl (.inl rfl) be_non)
    (bss_cons (bs_tryAs (i := 2) CT_LowError sc_law_told.nd rfl rfl ⟨rfl, by decide, .inl gc_LowError⟩ (takes_of rfl rfl rfl rfl) (fun Wb pn xe tkT poT => (bss_one (bs_set (i := 1) sc_law_told.nd rfl (.inl rfl) (be_mk co_Code O_Code D_Code_init (fun _ _ _ => .nil) tkT (hr.mono (by decide)) rfl (ba_cons (bv 0) ba_nil)))))
    (fun xa oe xc xd pn hz hf => (bss_one (bs_if (BW.bt (bw_and (bt_val (be_callB (cd_isE C XO KI hz hf) (by rfl) T.b_isinstance (by decide +kernel) (ba_cons (bv 2) (ba_cons (be_glob rfl G_InvalidCode) ba_nil)))) (bw_and1 (bt_not (bt_val (be_callB (cd_isE C XO KI hz hf) (by rfl) T.b_isinstance (by decide +kernel) (ba_cons (bv 2) (ba_cons (be_tup (ba_cons (be_glob rfl G_InvalidNode) (ba_cons (be_glob rfl G_InvalidText) (ba_cons (be_glob rfl G_Mismatch) ba_nil)))) ba_nil)))))))) (bss_one (bs_ret (be_tup (ba_cons (be_xf XO hz hf (bv 2)) (ba_cons (be_xf XO hz hf (bv 2)) ba_nil))))) bss_nil))))
    (bss_one (bs_ret (be_if (bt_cmp od_isNot (bv 1) be_non (nomark _)) be_non be_str))))))
theorem ok_law_far_rows (t : LB.TopFn K mg "_law_far_rows" s_law_far_rows ["_law_deal_here", "_law_registers", "_law_many"]) (T : LB.Txt K mg) (C : TW K w W) (D_law_far_row : LB.DefX P w K mg base 4 "_law_far_row" ["_law_deal_here", "_law_registers", "_law_left"] [] (spD W 3 F_law_far_row)) : LB.DefX P w K mg base 5 "_law_far_rows" ["_law_deal_here", "_law_registers", "_law_many"] [] (spD W 3 F_law_far_rows) := by
  rw [F_law_far_rows_eq]
  exact TopFn_okDm t sc_law_far_rows (fun f cdv A outer s H E hr =>
    (bss_one (bs_ret (be_lc (own := [("_law_at", 3)]) en1_ok rfl sc_law_far_rows.nd (bi_range1 (pi_range1 (by rfl) T.b_range (ba_cons (bv 2) ba_nil))) (blkOk_by (own := [("_law_at", 3)]) (N := ["_law_deal_here", "_law_registers", "_law_many", "_law_at"]) (sc := defScope s_law_far_rows) (by decide +kernel)) (fun _ _ _ _ _ => (pg_name (i := 3) sc_law_far_rows.nd rfl (.inl rfl))) (fun _ _ _ _ _ => bts_nil) (fun _ _ _ _ _ => (be_fnE D_law_far_row (fun _ _ _ => .nil) (hr.mono (by decide)) rfl (ba_cons (bv 0) (ba_cons (bv 1) (ba_cons (be_op od_sub (be_op od_sub (bv 2) (bv 3)) be_int) ba_nil)))))))))
theorem ok_Machine_init (t : LB.TopMeth K (W.cl "Machine") "__init__" "Machine.__init__" s_Machine_init ["self", "width", "registers"]) (T : LB.Txt K mg) (C : TW K w W) (fo_Machine__registers : W.fok "Machine" "registers") (fo_Machine__width : W.fok "Machine" "width") : MethX P w K mg base 1 (W.cl "Machine") "__init__" ["self", "width", "registers"] [] (spD W 3 F_Machine_init) := by
  rw [F_Machine_init_eq]
  exact TopMeth_okD t sc_Machine_init (fun f cdv A outer s H E hr =>
    (bss_cons (bs_fld C fo_Machine__width (bv 0) (bv 1) rfl)
    (bss_one (bs_fld C fo_Machine__registers (bv 0) (bv 2) rfl))))
end
end PD
set_option Elab.async false
set_option linter.all false
set_option autoImplicit false
set_option maxRecDepth 100000
set_option maxHeartbeats 4000000
namespace PD
open PySem PySem.Spec PyProof.Rows L2
open LB (top)
section
variable {P : Program} {w : World} {K : PySem.W.Frag} {mg : Str → Option Value} {base : Heap} {W : Wo}
theorem ok_law_row_fits (t : LB.TopFn K mg "_law_row_fits" s_law_row_fits ["_law_row_here"]) (T : LB.Txt K mg) (C : TW K w W) (D_law_item_fits : LB.DefX P w K mg base 2 "_law_item_fits" ["_law_form", "_law_value", "_law_row_here"] [] (spD W 3 F_law_item_fits)) (KI : KIs K W itab) : LB.DefX P w K mg base 3 "_law_row_fits" ["_law_row_here"] [] (spD W 1 F_law_row_fits) := by
  rw [F_law_row_fits_eq]
  exact TopFn_okD t sc_law_row_fits (fun f cdv A outer s H E hr =>
    (bss_cons (bs_set (i := 1) sc_law_row_fits.nd rfl (.inl rfl) (be_disp (bps_cons be_str be_str (bps_cons be_str be_str (bps_cons be_str be_str (bps_cons be_str be_str (bps_cons be_str be_str (bps_cons be_str be_str (bps_cons be_str be_str bps_nil))))))) (by rfl) (by rfl) (fun z => by cases z) (by decide)))
    (bss_cons (bs_asg (be_tup (ba_cons be_str (ba_cons be_str (ba_cons be_str ba_nil)))) (bg_tup C rfl (bgs_cons (bg_sub (hu_of hr) (bv 1) be_str) (bgs_cons (bg_sub (hu_of hr) (bv 1) be_str) (bgs_cons (bg_sub (hu_of hr) (bv 1) be_str) bgs_nil)))))
    (bss_cons (bs_if (BW.bt (bw_or (bt_not (bt_val (be_callB (cd_isi C KI) (by rfl) T.b_isinstance (by decide +kernel) (ba_cons (bv 0) (ba_cons (be_ty (by rfl) T.b_tuple (by decide +kernel)) ba_nil))))) (bw_or (bt_cmp (od_eq C.hK hr.units) (be_callB (cd_len C) (by rfl) T.b_len (by decide +kernel) (ba_cons (bv 0) ba_nil)) be_int (nomark _)) (bw_or (bt_not (bt_val (be_callB (cd_isi C KI) (by rfl) T.b_isinstance (by decide +kernel) (ba_cons (be_ix (id_ix C (hu_of hr)) (bv 0) be_int (fun _ _ => rfl)) (ba_cons (be_ty (by rfl) T.b_str (by decide +kernel)) ba_nil))))) (bw_or1 (bt_cmp (od_notIn C (hu_of hr)) (be_ix (id_ix C (hu_of hr)) (bv 0) be_int (fun _ _ => rfl)) (bv 1) (by rfl))))))) (bss_one (bs_ret be_bl)) bss_nil)
    (bss_cons (bs_set (i := 2) sc_law_row_fits.nd rfl (.inr rfl) (be_ix (id_ix C (hu_of hr)) (bv 1) (be_ix (id_ix C (hu_of hr)) (bv 0) be_int (fun _ _ => rfl)) (fun _ _ => rfl)))
    (bss_cons (bs_if (bt_cmp (od_ne C.hK hr.units) (be_callB (cd_len C) (by rfl) T.b_len (by decide +kernel) (ba_cons (bv 0) ba_nil)) (be_op (od_add C.hK) (be_callB (cd_len C) (by rfl) T.b_len (by decide +kernel) (ba_cons (bv 2) ba_nil)) be_int) (nomark _)) (bss_one (bs_ret be_bl)) bss_nil)
    (bss_one (bs_ret (be_cmp (od_eq C.hK hr.units) (be_lc (own := [("_law_at", 3)]) en1_ok rfl sc_law_row_fits.nd (bi_range1 (pi_range1 (by rfl) T.b_range (ba_cons (be_callB (cd_len C) (by rfl) T.b_len (by decide +kernel) (ba_cons (bv 2) ba_nil)) ba_nil))) (blkOk_by (own := [("_law_at", 3)]) (N := ["_law_row_here", "_law_forms", "_law_form", "_law_at"]) (sc := defScope s_law_row_fits) (by decide +kernel)) (fun _ _ _ _ _ => (pg_name (i := 3) sc_law_row_fits.nd rfl (.inl rfl))) (fun _ _ _ _ _ => (bts_one (bt_not (bt_val (be_fnE D_law_item_fits (fun _ _ _ => .nil) (hr.mono (by decide)) rfl (ba_cons (be_ix (id_ix C (hu_of hr)) (bv 2) (bv 3) (fun _ _ => rfl)) (ba_cons (be_ix (id_ix C (hu_of hr)) (bv 0) (be_op (od_add C.hK) (bv 3) be_int) (fun _ _ => rfl)) (ba_cons (bv 0) ba_nil)))))))) (fun _ _ _ _ _ => (bv 3))) (be_lst ba_nil) (nomark _))))))))))
theorem ok_law_odd_item (t : LB.TopFn K mg "_law_odd_item" s_law_odd_item ["_law_deal_here", "_law_item"]) (T : LB.Txt K mg) (C : TW K w W) (D_law_draw : LB.DefX P w K mg base 1 "_law_draw" ["_law_deal_here", "_law_many"] [] (spD W 2 F_law_draw)) (D_law_is_whole : LB.DefX P w K mg base 1 "_law_is_whole" ["_law_value"] [] (spD W 1 F_law_is_whole)) : LB.DefX P w K mg base 2 "_law_odd_item" ["_law_deal_here", "_law_item"] [] (spD W 2 F_law_odd_item) := by
  rw [F_law_odd_item_eq]
  exact TopFn_okD t sc_law_odd_item (fun f cdv A outer s H E hr =>
    (bss_cons (bs_set (i := 2) sc_law_odd_item.nd rfl (.inl rfl) (be_lst (ba_cons be_int (ba_cons be_int (ba_cons be_int (ba_cons be_int (ba_cons (be_un ud_neg be_int) (ba_cons be_int (ba_cons be_int (ba_cons be_int (ba_cons be_int (ba_cons be_int (ba_cons (be_op od_sub (be_op od_shl be_int be_int) be_int) (ba_cons (be_op od_shl be_int be_int) (ba_cons (be_op od_sub be_int (be_op od_shl be_int be_int)) (ba_cons be_bl (ba_cons be_non (ba_cons be_str (ba_cons be_str (ba_cons (be_tup ba_nil) ba_nil))))))))))))))))))))
    (bss_cons (bs_set (i := 3) sc_law_odd_item.nd rfl (.inl rfl) (be_if (bt_val (be_fn D_law_is_whole (fun _ _ _ => .nil) (takes_of rfl rfl rfl rfl) (hr.mono (by decide)) rfl (ba_cons (bv 1) ba_nil))) (be_lst (ba_cons (be_op (od_add C.hK) (bv 1) be_int) (ba_cons (be_op od_sub (bv 1) be_int) ba_nil))) (be_lst (ba_cons be_str (ba_cons be_str (ba_cons be_str (ba_cons be_str (ba_cons be_str (ba_cons be_str ba_nil)))))))))
    (bss_one (bs_ret (be_ix (id_ix C (hu_of hr)) (be_op (od_add C.hK) (bv 2) (be_op od_mul (bv 3) be_int)) (be_fn D_law_draw (fun _ _ _ => .nil) (takes_of rfl rfl rfl rfl) (hr.mono (by decide)) rfl (ba_cons (bv 0) (ba_cons (be_op (od_add C.hK) (be_callB (cd_len C) (by rfl) T.b_len (by decide +kernel) (ba_cons (bv 2) ba_nil)) (be_op od_mul be_int (be_callB (cd_len C) (by rfl) T.b_len (by decide +kernel) (ba_cons (bv 3) ba_nil)))) ba_nil))) (fun _ _ => rfl)))))))
theorem ok_law_due (t : LB.TopFn K mg "_law_due" s_law_due ["_law_rows"]) (T : LB.Txt K mg) (C : TW K w W) (D_law_row_fits : LB.DefX P w K mg base 3 "_law_row_fits" ["_law_row_here"] [] (spD W 1 F_law_row_fits)) : LB.DefX P w K mg base 4 "_law_due" ["_law_rows"] [] (spD W 1 F_law_due) := by
  rw [F_law_due_eq]
  exact TopFn_okD t sc_law_due (fun f cdv A outer s H E hr =>
    (bss_cons (bs_if (bt_cmp od_gt (be_callB (cd_len C) (by rfl) T.b_len (by decide +kernel) (ba_cons (bv 0) ba_nil)) be_int (nomark _)) (bss_one (bs_ret (be_tup (ba_cons be_str (ba_cons (be_op od_sub be_int be_int) ba_nil))))) bss_nil)
    (bss_cut (bs_for (passes_of rfl) rfl (bi_enum C (LB.pi_enumA (by rfl) T.b_enumerate (ba_cons (bv 0) ba_nil))) (bg_tup C rfl (bgs_cons (bg_name (i := 1) sc_law_due.nd rfl (.inl rfl)) (bgs_cons (bg_name (i := 2) sc_law_due.nd rfl (.inl rfl)) bgs_nil)))
    (bss_cons (bs_if (bt_not (bt_val (be_fn D_law_row_fits (fun _ _ _ => .nil) (takes_of rfl rfl rfl rfl) (hr.mono (by decide)) rfl (ba_cons (bv 2) ba_nil)))) (bss_one (bs_ret (be_tup (ba_cons be_str (ba_cons (bv 1) ba_nil))))) bss_nil)
    (bss_one (bs_if (BW.bt (bw_and (bt_cmp (od_eq C.hK hr.units) (be_ix (id_ix C (hu_of hr)) (bv 2) be_int (fun _ _ => rfl)) be_str (nomark _)) (bw_and1 (bt_cmp od_gt (be_op (od_add C.hK) (bv 1) (be_ix (id_ix C (hu_of hr)) (bv 2) be_int (fun _ _ => rfl))) (be_op od_sub (be_callB (cd_len C) (by rfl) T.b_len (by decide +kernel) (ba_cons (bv 0) ba_nil)) be_int) (nomark _))))) (bss_one (bs_ret (be_tup (ba_cons be_str (ba_cons (bv 1) ba_nil))))) bss_nil))))
    (bss_one (bs_ret be_non)))))
theorem ok_is_integer (t : LB.TopFn K mg "is_integer" s_is_integer ["value"]) (T : LB.Txt K mg) (C : TW K w W) (KI : KIs K W itab) : LB.DefX P w K mg base 1 "is_integer" ["value"] [] (spD W 1 F_is_integer) := by
  rw [F_is_integer_eq]
  exact TopFn_okD t sc_is_integer (fun f cdv A outer s H E hr =>
    (bss_one (bs_ret (be_and (be_callB (cd_isi C KI) (by rfl) T.b_isinstance (by decide +kernel) (ba_cons (bv 0) (ba_cons (be_ty (by rfl) T.b_int (by decide +kernel)) ba_nil))) (be_one (be_not (be_callB (cd_isi C KI) (by rfl) T.b_isinstance (by decide +kernel) (ba_cons (bv 0) (ba_cons (be_ty (by rfl) T.b_bool (by decide +kernel)) ba_nil)))))))))
end
end PD
set_option Elab.async false
set_option linter.all false
set_option autoImplicit false
set_option maxRecDepth 100000
set_option maxHeartbeats 4000000
namespace PD
open PySem PySem.Spec PyProof.Rows L2
open LB (top)
section
variable {P : Program} {w : World} {K : PySem.W.Frag} {mg : Str → Option Value} {base : Heap} {W : Wo}
theorem ok_law_machines_right (t : LB.TopFn K mg "_law_machines_right" s_law_machines_right ["_law_deal_here"]) (T : LB.Txt K mg) (C : TW K w W) (D_Machine_eq : MethX P w K mg base 1 (W.cl "Machine") "__eq__" ["self", "other"] [] (spD W 2 F_Machine_eq)) (D_Machine_init : MethX P w K mg base 1 (W.cl "Machine") "__init__" ["self", "width", "registers"] [] (spD W 3 F_Machine_init)) (D_law_draw : LB.DefX P w K mg base 1 "_law_draw" ["_law_deal_here", "_law_many"] [] (spD W 2 F_law_draw)) (co_Machine : W.cok "Machine") (O_Machine : LB.OwnCls K mg "Machine" (W.cl "Machine")) (nf_Machine : NotFirst K (W.cl "Machine")) (ne_Machine : LB.NeCls K (W.cl "Machine")) : LB.DefX P w K mg base 3 "_law_machines_right" ["_law_deal_here"] [] (spD W 1 F_law_machines_right) := by
  rw [F_law_machines_right_eq]
  exact TopFn_okD t sc_law_machines_right (fun f cdv A outer s H E hr =>
    (bss_cons (bs_par2 (i := 1) (j := 2) (by rfl) sc_law_machines_right.nd rfl rfl (by decide) rfl rfl (ba_cons (be_op (od_add C.hK) be_int (be_fn D_law_draw (fun _ _ _ => .nil) (takes_of rfl rfl rfl rfl) (hr.mono (by decide)) rfl (ba_cons (bv 0) (ba_cons be_int ba_nil)))) (ba_cons (be_op (od_add C.hK) be_int (be_fn D_law_draw (fun _ _ _ => .nil) (takes_of rfl rfl rfl rfl) (hr.mono (by decide)) rfl (ba_cons (bv 0) (ba_cons be_int ba_nil)))) ba_nil)) (by rfl))
    (bss_cons (bs_par2 (i := 3) (j := 4) (by rfl) sc_law_machines_right.nd rfl rfl (by decide) rfl rfl (ba_cons (be_mk co_Machine O_Machine D_Machine_init (fun _ _ _ => .nil) (takes_of rfl rfl rfl rfl) (hr.mono (by decide)) rfl (ba_cons (bv 1) (ba_cons (bv 2) ba_nil))) (ba_cons (be_mk co_Machine O_Machine D_Machine_init (fun _ _ _ => .nil) (takes_of rfl rfl rfl rfl) (hr.mono (by decide)) rfl (ba_cons (be_op (od_add C.hK) be_int (be_op od_mod (be_op od_sub (bv 1) be_int) be_int)) (ba_cons (bv 2) ba_nil))) ba_nil)) (by rfl))
    (bss_cons (bs_if (BW.bt (bw_or (bt_cmp (od_ne C.hK hr.units) (be_tup (ba_cons (be_fld C (bv 3) (by rfl)) (ba_cons (be_fld C (bv 3) (by rfl)) ba_nil))) (be_tup (ba_cons (bv 1) (ba_cons (bv 2) ba_nil))) (nomark _)) (bw_or (bt_cmp (od_neC ne_Machine D_Machine_eq (hr.mono (by decide))) (bv 3) (be_mk co_Machine O_Machine D_Machine_init (fun _ _ _ => .nil) (takes_of rfl rfl rfl rfl) (hr.mono (by decide)) rfl (ba_cons (bv 1) (ba_cons (bv 2) ba_nil))) (nomark _)) (bw_or (bt_cmp (od_eqC D_Machine_eq (hr.mono (by decide))) (bv 3) (bv 4) (nomark _)) (bw_or1 (bt_cmp (od_eqX C nf_Machine D_Machine_eq (hr.mono (by decide))) (bv 3) (be_tup (ba_cons (bv 1) (ba_cons (bv 2) ba_nil))) (nomark _))))))) (bss_one (bs_ret be_bl)) bss_nil)
    (bss_one (bs_ret (be_cmp (od_neC ne_Machine D_Machine_eq (hr.mono (by decide))) (bv 3) (be_mk co_Machine O_Machine D_Machine_init (fun _ _ _ => .nil) (takes_of rfl rfl rfl rfl) (hr.mono (by decide)) rfl (ba_cons (bv 1) (ba_cons (be_op (od_add C.hK) be_int (be_op od_mod (be_op od_sub (bv 2) be_int) be_int)) ba_nil))) (nomark _))))))))
theorem ok_check_rows (t : LB.TopFn K mg "check_rows" s_check_rows ["rows"]) (T : LB.Txt K mg) (C : TW K w W) (D_InvalidCode_init : LB.MethOk P w K mg base 1 (W.cl "InvalidCode") "__init__" ["self", "word", "row"] (spExcN (W.cl "InvalidCode") ["word", "row"])) (D_is_row : LB.DefX P w K mg base 3 "is_row" ["row"] [] (spD W 1 F_is_row)) (XC_InvalidCode : LB.ExcCls K mg "InvalidCode" (W.cl "InvalidCode")) (G_MOST_ROWS : GTxt W mg "MOST_ROWS" g_MOST_ROWS) : LB.DefX P w K mg base 4 "check_rows" ["rows"] [] (spD W 1 F_check_rows) := by
  rw [F_check_rows_eq]
  exact TopFn_okD t sc_check_rows (fun f cdv A outer s H E hr =>
    (bss_cons (bs_if (bt_cmp od_gt (be_callB (cd_len C) (by rfl) T.b_len (by decide +kernel) (ba_cons (bv 0) ba_nil)) (be_glob rfl G_MOST_ROWS) (nomark _)) (bss_one (bs_raise XC_InvalidCode D_InvalidCode_init (by rfl) (takes_of rfl rfl rfl rfl) (hr.mono (by decide)) rfl (ba_cons be_str (ba_cons (be_un ud_neg be_int) ba_nil)))) bss_nil)
    (bss_one (bs_for (passes_of rfl) rfl (bi_enum C (LB.pi_enumA (by rfl) T.b_enumerate (ba_cons (bv 0) ba_nil))) (bg_tup C rfl (bgs_cons (bg_name (i := 1) sc_check_rows.nd rfl (.inl rfl)) (bgs_cons (bg_name (i := 2) sc_check_rows.nd rfl (.inl rfl)) bgs_nil)))
    (bss_cons (bs_if (bt_not (bt_val (be_fn D_is_row (fun _ _ _ => .nil) (takes_of rfl rfl rfl rfl) (hr.mono (by decide)) rfl (ba_cons (bv 2) ba_nil)))) (bss_one (bs_raise XC_InvalidCode D_InvalidCode_init (by rfl) (takes_of rfl rfl rfl rfl) (hr.mono (by decide)) rfl (ba_cons be_str (ba_cons (bv 1) ba_nil)))) bss_nil)
    (bss_one (bs_if (BW.bt (bw_and (bt_cmp (od_eq C.hK hr.units) (be_ix (id_ix C (hu_of hr)) (bv 2) be_int (fun _ _ => rfl)) be_str (nomark _)) (bw_and1 (bt_cmp od_ge (be_op (od_add C.hK) (bv 1) (be_ix (id_ix C (hu_of hr)) (bv 2) be_int (fun _ _ => rfl))) (be_callB (cd_len C) (by rfl) T.b_len (by decide +kernel) (ba_cons (bv 0) ba_nil)) (nomark _))))) (bss_one (bs_raise XC_InvalidCode D_InvalidCode_init (by rfl) (takes_of rfl rfl rfl rfl) (hr.mono (by decide)) rfl (ba_cons be_str (ba_cons (bv 1) ba_nil)))) bss_nil)))))))
theorem ok_law_number (t : LB.TopFn K mg "_law_number" s_law_number ["_law_deal_here"]) (T : LB.Txt K mg) (C : TW K w W) (D_law_draw : LB.DefX P w K mg base 1 "_law_draw" ["_law_deal_here", "_law_many"] [] (spD W 2 F_law_draw)) : LB.DefX P w K mg base 2 "_law_number" ["_law_deal_here"] [] (spD W 1 F_law_number) := by
  rw [F_law_number_eq]
  exact TopFn_okD t sc_law_number (fun f cdv A outer s H E hr =>
    (bss_cons (bs_set (i := 1) sc_law_number.nd rfl (.inl rfl) (be_fn D_law_draw (fun _ _ _ => .nil) (takes_of rfl rfl rfl rfl) (hr.mono (by decide)) rfl (ba_cons (bv 0) (ba_cons be_int ba_nil))))
    (bss_cons (bs_set (i := 2) sc_law_number.nd rfl (.inl rfl) (be_fn D_law_draw (fun _ _ _ => .nil) (takes_of rfl rfl rfl rfl) (hr.mono (by decide)) rfl (ba_cons (bv 0) (ba_cons be_int ba_nil))))
    (bss_cut (bs_if (bt_cmp (od_eq C.hK hr.units) (bv 1) be_int (nomark _)) (bss_one (bs_set (i := 2) sc_law_number.nd rfl (.inl rfl) (be_op od_sub (be_op od_shl be_int (be_fn D_law_draw (fun _ _ _ => .nil) (takes_of rfl rfl rfl rfl) (hr.mono (by decide)) rfl (ba_cons (bv 0) (ba_cons be_int ba_nil)))) (be_fn D_law_draw (fun _ _ _ => .nil) (takes_of rfl rfl rfl rfl) (hr.mono (by decide)) rfl (ba_cons (bv 0) (ba_cons be_int ba_nil)))))) bss_nil)
    (bss_cut (bs_if (bt_cmp (od_eq C.hK hr.units) (bv 1) be_int (nomark _)) (bss_one (bs_set (i := 2) sc_law_number.nd rfl (.inl rfl) (be_fn D_law_draw (fun _ _ _ => .nil) (takes_of rfl rfl rfl rfl) (hr.mono (by decide)) rfl (ba_cons (bv 0) (ba_cons (be_op od_shl be_int be_int) ba_nil))))) bss_nil)
    (bss_one (bs_ret (be_ix (id_ix C (hu_of hr)) (be_lst (ba_cons (bv 2) (ba_cons (be_op od_sub be_int (bv 2)) ba_nil))) (be_fn D_law_draw (fun _ _ _ => .nil) (takes_of rfl rfl rfl rfl) (hr.mono (by decide)) rfl (ba_cons (bv 0) (ba_cons be_int ba_nil))) (fun _ _ => rfl)))))))))
theorem ok_Code_eq (t : LB.TopMeth K (W.cl "Code") "__eq__" "Code.__eq__" s_Code_eq ["self", "other"]) (T : LB.Txt K mg) (C : TW K w W) (KI : KIs K W itab) (G_Code : GTxt W mg "Code" (.cls "Code")) : MethX P w K mg base 1 (W.cl "Code") "__eq__" ["self", "other"] [] (spD W 2 F_Code_eq) := by
  rw [F_Code_eq_eq]
  exact TopMeth_okD t sc_Code_eq (fun f cdv A outer s H E hr =>
    (bss_one (bs_ret (be_and (be_callB (cd_isi C KI) (by rfl) T.b_isinstance (by decide +kernel) (ba_cons (bv 1) (ba_cons (be_glob rfl G_Code) ba_nil))) (be_one (be_cmp (od_eq C.hK hr.units) (be_fld C (bv 0) (by rfl)) (be_fld C (bv 1) (by rfl)) (nomark _)))))))
end
end PD
set_option Elab.async false
set_option linter.all false
set_option autoImplicit false
set_option maxRecDepth 100000
set_option maxHeartbeats 4000000
namespace PD
open PySem PySem.Spec PyProof.Rows L2
open LB (top)
section
variable {P : Program} {w : World} {K : PySem.W.Frag} {mg : Str → Option Value} {base : Heap} {W : Wo}
theorem ok_is_row (t : LB.TopFn K mg "is_row" s_is_row ["row"]) (T : LB.Txt K mg) (C : TW K w W) (D_is_within : LB.DefX P w K mg base 2 "is_within" ["form", "number"] [] (spD W 2 F_is_within)) (D_is_integer : LB.DefX P w K mg base 1 "is_integer" ["value"] [] (spD W 1 F_is_integer)) (KI : KIs K W itab) (G_FORMS : GTxt W mg "FORMS" g_FORMS) : LB.DefX P w K mg base 3 "is_row" ["row"] [] (spD W 1 F_is_row) := by
  rw [F_is_row_eq]
  exact TopFn_okD t sc_is_row (fun f cdv A outer s H E hr =>
    (bss_cons (bs_if (BW.bt (bw_or (bt_not (bt_val (be_callB (cd_isi C KI) (by rfl) T.b_isinstance (by decide +kernel) (ba_cons (bv 0) (ba_cons (be_ty (by rfl) T.b_tuple (by decide +kernel)) ba_nil))))) (bw_or (bt_cmp (od_eq C.hK hr.units) (be_callB (cd_len C) (by rfl) T.b_len (by decide +kernel) (ba_cons (bv 0) ba_nil)) be_int (nomark _)) (bw_or (bt_not (bt_val (be_callB (cd_isi C KI) (by rfl) T.b_isinstance (by decide +kernel) (ba_cons (be_ix (id_ix C (hu_of hr)) (bv 0) be_int (fun _ _ => rfl)) (ba_cons (be_ty (by rfl) T.b_str (by decide +kernel)) ba_nil))))) (bw_or1 (bt_cmp (od_notIn C (hu_of hr)) (be_ix (id_ix C (hu_of hr)) (bv 0) be_int (fun _ _ => rfl)) (be_glob rfl G_FORMS) (by rfl))))))) (bss_one (bs_ret be_bl)) bss_nil)
    (bss_cons (bs_par2 (i := 1) (j := 2) (by rfl) sc_is_row.nd rfl rfl (by decide) rfl rfl (ba_cons (be_ix (id_ix C (hu_of hr)) (be_glob rfl G_FORMS) (be_ix (id_ix C (hu_of hr)) (bv 0) be_int (fun _ _ => rfl)) (fun _ _ => rfl)) (ba_cons (be_slice C (bv 0) (bo_some be_int) bo_none) ba_nil)) (by rfl))
    (bss_cons (bs_if (bt_cmp (od_ne C.hK hr.units) (be_callB (cd_len C) (by rfl) T.b_len (by decide +kernel) (ba_cons (bv 2) ba_nil)) (be_callB (cd_len C) (by rfl) T.b_len (by decide +kernel) (ba_cons (bv 1) ba_nil)) (nomark _)) (bss_one (bs_ret be_bl)) bss_nil)
    (bss_cons (bs_for (passes_of rfl) rfl (bi_zip2 C (LB.pi_zip2 (by rfl) T.b_zip (ba_cons (bv 1) (ba_cons (bv 2) ba_nil)))) (bg_tup C rfl (bgs_cons (bg_name (i := 3) sc_is_row.nd rfl (.inl rfl)) (bgs_cons (bg_name (i := 4) sc_is_row.nd rfl (.inl rfl)) bgs_nil)))
    (bss_one (bs_if (BW.bt (bw_or (bt_not (bt_val (be_fn D_is_integer (fun _ _ _ => .nil) (takes_of rfl rfl rfl rfl) (hr.mono (by decide)) rfl (ba_cons (bv 4) ba_nil)))) (bw_or1 (bt_not (bt_val (be_fn D_is_within (fun _ _ _ => .nil) (takes_of rfl rfl rfl rfl) (hr.mono (by decide)) rfl (ba_cons (bv 3) (ba_cons (bv 4) ba_nil)))))))) (bss_one (bs_ret be_bl)) bss_nil)))
    (bss_one (bs_ret (be_or (be_cmp (od_ne C.hK hr.units) (be_ix (id_ix C (hu_of hr)) (bv 0) be_int (fun _ _ => rfl)) be_str (nomark _)) (be_one (be_cmp od_lt (be_ix (id_ix C (hu_of hr)) (bv 0) be_int (fun _ _ => rfl)) (be_ix (id_ix C (hu_of hr)) (bv 0) be_int (fun _ _ => rfl)) (nomark _)))))))))))
theorem ok_law_far_row (t : LB.TopFn K mg "_law_far_row" s_law_far_row ["_law_deal_here", "_law_registers", "_law_left"]) (T : LB.Txt K mg) (C : TW K w W) (D_law_draw : LB.DefX P w K mg base 1 "_law_draw" ["_law_deal_here", "_law_many"] [] (spD W 2 F_law_draw)) (D_law_row : LB.DefX P w K mg base 3 "_law_row" ["_law_deal_here", "_law_registers", "_law_left"] [] (spD W 3 F_law_row)) : LB.DefX P w K mg base 4 "_law_far_row" ["_law_deal_here", "_law_registers", "_law_left"] [] (spD W 3 F_law_far_row) := by
  rw [F_law_far_row_eq]
  exact TopFn_okD t sc_law_far_row (fun f cdv A outer s H E hr =>
    (bss_cons (bs_set (i := 3) sc_law_far_row.nd rfl (.inl rfl) (be_fn D_law_row (fun _ _ _ => .nil) (takes_of rfl rfl rfl rfl) (hr.mono (by decide)) rfl (ba_cons (bv 0) (ba_cons (bv 1) (ba_cons (bv 2) ba_nil)))))
    (bss_cons (bs_if (bt_cmp (od_eq C.hK hr.units) (be_ix (id_ix C (hu_of hr)) (bv 3) be_int (fun _ _ => rfl)) be_str (nomark _)) (bss_one (bs_ret (be_op (od_add C.hK) (be_slice C (bv 3) bo_none (bo_some be_int)) (be_tup (ba_cons (be_fn D_law_draw (fun _ _ _ => .nil) (takes_of rfl rfl rfl rfl) (hr.mono (by decide)) rfl (ba_cons (bv 0) (ba_cons be_int ba_nil))) ba_nil))))) bss_nil)
    (bss_cons (bs_if (bt_cmp (od_eq C.hK hr.units) (be_ix (id_ix C (hu_of hr)) (bv 3) be_int (fun _ _ => rfl)) be_str (nomark _)) (bss_one (bs_ret (be_tup (ba_cons (be_ix (id_ix C (hu_of hr)) (bv 3) be_int (fun _ _ => rfl)) (ba_cons (be_fn D_law_draw (fun _ _ _ => .nil) (takes_of rfl rfl rfl rfl) (hr.mono (by decide)) rfl (ba_cons (bv 0) (ba_cons be_int ba_nil))) (ba_cons (be_ix (id_ix C (hu_of hr)) (bv 3) be_int (fun _ _ => rfl)) ba_nil)))))) bss_nil)
    (bss_cons (bs_if (bt_cmp (od_eq C.hK hr.units) (be_ix (id_ix C (hu_of hr)) (bv 3) be_int (fun _ _ => rfl)) be_str (nomark _)) (bss_cons (bs_set (i := 4) sc_law_far_row.nd rfl (.inl rfl) (be_op od_shl be_int (be_fn D_law_draw (fun _ _ _ => .nil) (takes_of rfl rfl rfl rfl) (hr.mono (by decide)) rfl (ba_cons (bv 0) (ba_cons be_int ba_nil)))))
    (bss_one (bs_ret (be_op (od_add C.hK) (be_slice C (bv 3) bo_none (bo_some be_int)) (be_tup (ba_cons (bv 4) (ba_cons (be_fn D_law_draw (fun _ _ _ => .nil) (takes_of rfl rfl rfl rfl) (hr.mono (by decide)) rfl (ba_cons (bv 0) (ba_cons (bv 4) ba_nil))) (ba_cons (be_ix (id_ix C (hu_of hr)) (bv 3) be_int (fun _ _ => rfl)) ba_nil)))))))) bss_nil)
    (bss_one (bs_ret (bv 3))))))))
theorem ok_is_within (t : LB.TopFn K mg "is_within" s_is_within ["form", "number"]) (T : LB.Txt K mg) (C : TW K w W) (D_is_modulus : LB.DefX P w K mg base 1 "is_modulus" ["number"] [] (spD W 1 F_is_modulus)) (G_MOST_REGISTERS : GTxt W mg "MOST_REGISTERS" g_MOST_REGISTERS) (G_MOST_SLOTS : GTxt W mg "MOST_SLOTS" g_MOST_SLOTS) (G_LIMIT : GTxt W mg "LIMIT" g_LIMIT) (G_MOST_MODULUS : GTxt W mg "MOST_MODULUS" g_MOST_MODULUS) (G_MOST_ROWS : GTxt W mg "MOST_ROWS" g_MOST_ROWS) : LB.DefX P w K mg base 2 "is_within" ["form", "number"] [] (spD W 2 F_is_within) := by
  rw [F_is_within_eq]
  exact TopFn_okD t sc_is_within (fun f cdv A outer s H E hr =>
    (bss_one (bs_match (bv 0) (bm_str (bss_one (bs_ret (be_chain od_le od_lt be_int (bv 1) (be_glob rfl G_MOST_REGISTERS))))
    (bm_str (bss_one (bs_ret (be_chain od_le od_lt be_int (bv 1) (be_glob rfl G_MOST_SLOTS))))
    (bm_str (bss_one (bs_ret (be_chain od_lt od_lt (be_op od_sub be_int (be_glob rfl G_LIMIT)) (bv 1) (be_glob rfl G_LIMIT))))
    (bm_str (bss_one (bs_ret (be_fn D_is_modulus (fun _ _ _ => .nil) (takes_of rfl rfl rfl rfl) (hr.mono (by decide)) rfl (ba_cons (bv 1) ba_nil))))
    (bm_str (bss_one (bs_ret (be_chain od_le od_lt be_int (bv 1) (be_glob rfl G_MOST_MODULUS))))
    (bm_any (bss_one (bs_ret (be_chain od_le od_le be_int (bv 1) (be_glob rfl G_MOST_ROWS)))))))))))))
theorem ok_law_is_whole (t : LB.TopFn K mg "_law_is_whole" s_law_is_whole ["_law_value"]) (T : LB.Txt K mg) (C : TW K w W) (KI : KIs K W itab) : LB.DefX P w K mg base 1 "_law_is_whole" ["_law_value"] [] (spD W 1 F_law_is_whole) := by
  rw [F_law_is_whole_eq]
  exact TopFn_okD t sc_law_is_whole (fun f cdv A outer s H E hr =>
    (bss_one (bs_ret (be_and (be_callB (cd_isi C KI) (by rfl) T.b_isinstance (by decide +kernel) (ba_cons (bv 0) (ba_cons (be_ty (by rfl) T.b_int (by decide +kernel)) ba_nil))) (be_one (be_not (be_callB (cd_isi C KI) (by rfl) T.b_isinstance (by decide +kernel) (ba_cons (bv 0) (ba_cons (be_ty (by rfl) T.b_bool (by decide +kernel)) ba_nil)))))))))
end
end PD
set_option Elab.async false
set_option linter.all false
set_option autoImplicit false
set_option maxRecDepth 100000
set_option maxHeartbeats 4000000
namespace LB
open PySem PySem.Spec PyProof.Rows L2
open C8 (pss_cut tCut)
section
variable {P : Program} {w : World} {K : PySem.W.Frag} {mg : Str → Option Value} {base : Heap}
abbrev s_InvalidCode_init : Stmt := inClass (top 22) 0
theorem sc_InvalidCode_init : FnScope ["self", "word", "row"] ["self", "word", "row"] (defScope s_InvalidCode_init) := ⟨rfl, rfl, rfl, by decide +kernel, rfl, by decide +kernel, by decide +kernel⟩
theorem ok_InvalidCode_init {C L : Addr} (F : TopMeth K C "__init__" "InvalidCode.__init__" s_InvalidCode_init ["self", "word", "row"]) (LT : LowTxt K mg L) (xc : ExcCls K mg "InvalidCode" C) (n0 : PySem.W.findIn K (.ref C) "word" = some none) (n1 : PySem.W.findIn K (.ref C) "row" = some none) : MethOk P w K mg base 1 C "__init__" ["self", "word", "row"] (PD.spExcN C ["word", "row"]) := by
  refine F.ok sc_InvalidCode_init (fun vs H Q E h => ?_) (fun f cdv A outer s H vs Q E hr h => ?_)
  · obtain ⟨a, xs, rfl, hl, _⟩ := h
    exact congrArg Nat.succ hl
  · obtain ⟨a, xs, rfl, hl, ha, k⟩ := h
    obtain ⟨x0, x1, rfl⟩ : ∃ x0 x1, xs = [x0, x1] := match xs, hl with | [_, _], _ => ⟨_, _, rfl⟩
    refine ⟨_, (pss_cons (ps_expr (pe_loinit LT rfl (pa_cons (pv 0) (pa_cons pe_str pa_nil))))
    (pss_cons (ps_ost (pv 0) (pv 1))
    (pss_one (ps_ost (pv 0) (pv 2))))), ?_⟩
    refine ⟨_, rfl, a, C, _, rfl, (by show 1 ≤ 1000; decide), xc.oex, ha, ?_⟩
    refine ⟨_, rfl, _, rfl, a, C, rfl, xc.oex, n0, .inl ⟨ha, fun dx hd hne => ?_⟩⟩
    refine ⟨_, rfl, _, rfl, a, C, rfl, xc.oex, n1, .inr ⟨dx, _, upd_same, (by rw [upd_ne hne, upd_same]), (by show 1 ≤ 900; decide), ?_⟩⟩
    exact k dx _ hd hne (fun b h1 h2 => by rw [upd_ne h2, upd_ne h1, upd_ne h2]) (by rw [upd_ne hne.symm, upd_same]) (by rw [upd_same]; rfl)
end
end LB

set_option Elab.async false
set_option linter.all false
set_option autoImplicit false
set_option maxRecDepth 100000
set_option maxHeartbeats 4000000
namespace PD
open PySem PySem.Spec PyProof.Rows L2
open SX (S S_len)
/-! ### texts of numbers -/
def iL : Int → List Nat
  | .ofNat m => TL.numL m
  | .negSucc m => 45 :: TL.numL (m + 1)
theorem int_str (n : Int) : (toString n : Str) = S (iL n) := by
  cases n with
  | ofNat m => exact SX.num_S m
  | negSucc m =>
    refine TL.ext_tl ?_
    show (Str.ofString (toString (Int.negSucc m))).cps.toList = 45 :: TL.numL (m + 1)
    rw [PyProof.Rows.signs_ofString]
    have e : toString (Int.negSucc m) = "-" ++ Nat.repr (m + 1) := rfl
    rw [e, String.toList_append, List.map_append]
    show [45] ++ (Nat.repr (m + 1)).toList.map Char.toNat = _
    rw [Nat.toList_repr]
    rfl
theorem iL_free {n : Int} {s : Nat} (h : s < 45 ∨ 57 < s) : s ∉ iL n := by
  cases n with
  | ofNat m => exact TL.numL_free (by omega)
  | negSucc m =>
    intro hm
    rcases List.mem_cons.mp hm with e | e
    · omega
    · exact TL.numL_free (by omega) e
theorem pow20 : 18446744073709551616 < 10 ^ 20 := by decide
theorem iL_len {n : Int} (h1 : -18446744073709551616 < n) (h2 : n < 18446744073709551616) : (iL n).length ≤ 21 := by
  cases n with
  | ofNat m =>
    have : (TL.numL m).length ≤ 20 := TL.numL_len (by decide) (by
      have e : (Int.ofNat m) = (m : Int) := rfl
      rw [e] at h2
      have := pow20
      omega)
    show (TL.numL m).length ≤ 21
    omega
  | negSucc m =>
    have : (TL.numL (m + 1)).length ≤ 20 := TL.numL_len (by decide) (by
      have := pow20
      omega)
    show (TL.numL (m + 1)).length + 1 ≤ 21
    omega
theorem numL_len2 {n : Nat} (h : 10 ≤ n) : 2 ≤ (TL.numL n).length := by
  rw [TL.numL_step h, List.length_append, List.length_singleton]
  have := List.length_pos_iff.mpr (TL.numL_ne (n / 10))
  omega
theorem numL_head : ∀ n : Nat, 0 < n → ∃ c r, TL.numL n = c :: r ∧ c ≠ 48 := by
  intro n
  induction n using Nat.strongRecOn with
  | _ n ih =>
    intro hn
    by_cases h : n < 10
    · exact ⟨48 + n, [], TL.numL_lt h, by omega⟩
    · obtain ⟨c, r, e, hc⟩ := ih (n / 10) (by omega) (by omega)
      exact ⟨c, r ++ [48 + n % 10], by rw [TL.numL_step (by omega), e] <;> rfl, hc⟩
theorem log_ok {n : Int} (h1 : -18446744073709551616 < n) (h2 : n < 18446744073709551616) : n.natAbs.log2 < 1920 := by
  have h : n.natAbs < 2 ^ 64 := by
    have e : (2 : Nat) ^ 64 = 18446744073709551616 := by decide
    rw [e]
    omega
  by_cases hz : n.natAbs = 0
  · rw [hz]
    decide
  · have := (Nat.log2_lt hz).mpr h
    omega
theorem joinL_len (y : List Nat) : ∀ ps : List (List Nat), (TL.joinL y ps).length ≤ (ps.map (·.length)).sum + ps.length * y.length
  | [] => by simp [TL.joinL]
  | [p] => by simp [TL.joinL]
  | p :: q :: r => by
    have ih := joinL_len y (q :: r)
    show (p ++ (y ++ TL.joinL y (q :: r))).length ≤ _
    rw [List.length_append, List.length_append]
    simp only [List.map_cons, List.sum_cons, List.length_cons] at ih ⊢
    have e : (r.length + 1 + 1) * y.length = (r.length + 1) * y.length + y.length := by rw [Nat.succ_mul]
    omega
theorem join_len (y : Str) (ps : List Str) : (Txt.join y ps).length ≤ (ps.map (·.length)).sum + ps.length * y.length := by
  have h := joinL_len (TL.tl y) (ps.map TL.tl)
  rw [← TL.tl_join, List.length_map, List.map_map] at h
  have e : (fun x : List Nat => x.length) ∘ TL.tl = fun x : Str => x.length := by
    funext x
    exact (TL.len_tl x).symm
  rw [show ((fun x : List Nat => x.length) ∘ TL.tl) = fun x : Str => x.length from e, ← TL.len_tl, ← TL.len_tl] at h
  rw [TL.join_eq]
  exact h
theorem sum_le {α : Type} {f : α → Nat} {k : Nat} : ∀ {l : List α}, (∀ x ∈ l, f x ≤ k) → (l.map f).sum ≤ l.length * k
  | [], _ => by simp
  | x :: l, h => by
    have h1 := h x List.mem_cons_self
    have h2 := sum_le (l := l) fun y hy => h y (List.mem_cons_of_mem _ hy)
    rw [List.map_cons, List.sum_cons, List.length_cons, Nat.succ_mul]
    omega
end PD
set_option Elab.async false
set_option linter.all false
set_option autoImplicit false
set_option maxRecDepth 100000
set_option maxHeartbeats 4000000
namespace PD
open PySem PySem.Spec PyProof.Rows L2
open SX (S S_len)
/-! ### which words write a number -/
theorem numL_of : ∀ (k : Nat) (l : List Nat), l.length = k → l ≠ [] → (∀ c ∈ l, 48 ≤ c ∧ c ≤ 57) → (∀ c r, l = c :: r → r ≠ [] → c ≠ 48) → ∃ n, n < 10 ^ l.length ∧ TL.numL n = l := by
  intro k
  induction k with
  | zero =>
    intro l hk hne _ _
    exact absurd (List.length_eq_zero_iff.mp hk) hne
  | succ k ih =>
    intro l hk hne hd hz
    rcases List.eq_nil_or_concat l with e | ⟨l', c, e⟩
    · exact absurd e hne
    · rw [List.concat_eq_append] at e
      subst e
      have hc := hd c (by simp)
      by_cases h0 : l' = []
      · subst h0
        refine ⟨c - 48, ?_, ?_⟩
        · show c - 48 < 10 ^ 1
          omega
        · rw [TL.numL_lt (by omega)]
          show [48 + (c - 48)] = [c]
          rw [show 48 + (c - 48) = c by omega]
      · have hl : l'.length = k := by
          rw [List.length_append, List.length_singleton] at hk
          omega
        obtain ⟨n, h1, h2⟩ := ih l' hl h0 (fun c hc => hd c (by simp [hc])) fun a r e hr => hz a (r ++ [c]) (by rw [e]; rfl) (by simp)
        have pos : 0 < n := by
          rcases Nat.eq_zero_or_pos n with e | e
          · subst e
            rw [TL.numL_lt (by decide)] at h2
            exact absurd rfl (hz 48 [c] (by rw [← h2]; rfl) (by simp))
          · exact e
        refine ⟨10 * n + (c - 48), ?_, ?_⟩
        · rw [List.length_append, List.length_singleton, Nat.pow_succ]
          omega
        · rw [TL.numL_step (by omega), show (10 * n + (c - 48)) / 10 = n by omega, h2, show 48 + (10 * n + (c - 48)) % 10 = c by omega]
theorem S_of (w : Str) : ∃ l, w = S l := ⟨w.cps.toList, TL.ext_tl rfl⟩
open Classical in
/-- the number that a word writes -/
noncomputable def natW (w : Str) : Option Nat := if h : ∃ n, n < 100000000000000000000 ∧ w = S (TL.numL n) then some (Classical.choose h) else none
theorem natW_some {w : Str} {n : Nat} (h : natW w = some n) : n < 100000000000000000000 ∧ w = S (TL.numL n) := by
  unfold natW at h
  split at h
  · rename_i hx
    cases h
    exact Classical.choose_spec hx
  · cases h
theorem natW_num {n : Nat} (h : n < 100000000000000000000) : natW (S (TL.numL n)) = some n := by
  unfold natW
  rw [dif_pos ⟨n, h, rfl⟩]
  have q := Classical.choose_spec (⟨n, h, rfl⟩ : ∃ m, m < 100000000000000000000 ∧ S (TL.numL n) = S (TL.numL m))
  exact congrArg some (TL.numL_inj (SX.S_inj q.2)).symm
theorem natW_none {l : List Nat} (h : natW (S l) = none) (h1 : l ≠ []) (h2 : l.length ≤ 20) (h3 : ∀ c r, l = c :: r → r ≠ [] → c ≠ 48) : ∃ c ∈ l, ¬ (48 ≤ c ∧ c ≤ 57) := by
  refine Classical.byContradiction fun hx => ?_
  obtain ⟨n, q1, q2⟩ := numL_of l.length l rfl h1 (fun c hc => Classical.byContradiction fun z => hx ⟨c, hc, z⟩) h3
  have : n < 100000000000000000000 := Nat.lt_of_lt_of_le q1 (Nat.le_trans (Nat.pow_le_pow_right (by decide) h2) (by decide))
  have e := natW_num this
  rw [q2, h] at e
  cases e
theorem natW_free {w : Str} {n : Nat} (h : natW w = some n) : 45 ∉ w.cps.toList := by
  obtain ⟨_, rfl⟩ := natW_some h
  exact TL.numL_free (.inl (by decide))
theorem dig_in (c : Nat) : inStr (S [c]) "0123456789" = decide (48 ≤ c ∧ c ≤ 57) := by
  show (!(Builtin.Str.occurrences (S [48, 49, 50, 51, 52, 53, 54, 55, 56, 57]) (S [c]) 0 (S [48, 49, 50, 51, 52, 53, 54, 55, 56, 57]).length 1).isEmpty) = _
  rw [SX.in_one]
  refine decide_eq_decide.mpr ⟨fun h => ?_, fun h => ?_⟩
  · simp at h
    omega
  · have : c = 48 ∨ c = 49 ∨ c = 50 ∨ c = 51 ∨ c = 52 ∨ c = 53 ∨ c = 54 ∨ c = 55 ∨ c = 56 ∨ c = 57 := by omega
    simpa using this
def optD : Option Int → D
  | some n => .int n
  | none => .non
noncomputable def natD (w : Str) : D := optD ((natW w).map fun n => (n : Int))
/-- the integer that a word writes at a place of the form f -/
noncomputable def intW (f w : Str) : Option Int := if f = "number" ∧ cutS w none (some 1) = "-" then (match natW (cutS w (some 1) none) with | some n => if n = 0 then none else some (-(n : Int)) | none => none) else (natW w).map fun n => (n : Int)
end PD
set_option Elab.async false
set_option linter.all false
set_option autoImplicit false
set_option maxRecDepth 100000
set_option maxHeartbeats 4000000
namespace PD
open PySem PySem.Spec PyProof.Rows L2
/-! ### rows of code, plainly -/
inductive Row where
  | set (r n : Int) | copy (r a : Int) | left (r a : Int) | right (r a : Int) | add (r a b : Int) | sub (r a b : Int) | mul (r a b : Int) | load (r s : Int) | store (s a : Int) | skip (a m c n : Int)
def Row.w : Row → Str
  | .set _ _ => "set" | .copy _ _ => "copy" | .left _ _ => "left" | .right _ _ => "right" | .add _ _ _ => "add" | .sub _ _ _ => "sub" | .mul _ _ _ => "mul" | .load _ _ => "load" | .store _ _ => "store" | .skip _ _ _ _ => "skip"
def Row.ns : Row → List Int
  | .set r n => [r, n] | .copy r a => [r, a] | .left r a => [r, a] | .right r a => [r, a] | .add r a b => [r, a, b] | .sub r a b => [r, a, b] | .mul r a b => [r, a, b] | .load r s => [r, s] | .store s a => [s, a] | .skip a m c n => [a, m, c, n]
def Row.d (r : Row) : D := .tup (.str r.w :: r.ns.map D.int)
abbrev Reg (n : Int) : Prop := 0 ≤ n ∧ n < 8
abbrev Slot (n : Int) : Prop := 0 ≤ n ∧ n < 1000
abbrev Num (n : Int) : Prop := -18446744073709551616 < n ∧ n < 18446744073709551616
def Row.Ok : Row → Prop
  | .set r n => Reg r ∧ Num n
  | .copy r a => Reg r ∧ Reg a | .left r a => Reg r ∧ Reg a | .right r a => Reg r ∧ Reg a
  | .add r a b => Reg r ∧ Reg a ∧ Reg b | .sub r a b => Reg r ∧ Reg a ∧ Reg b | .mul r a b => Reg r ∧ Reg a ∧ Reg b
  | .load r s => Reg r ∧ Slot s | .store s a => Slot s ∧ Reg a
  | .skip a m c n => Reg a ∧ (0 < m ∧ m ≤ 64 ∧ 64 % m = 0) ∧ (0 ≤ c ∧ c < m) ∧ 0 ≤ n ∧ n ≤ 1000
/-- how many rows behind it a row needs -/
def Row.far : Row → Int
  | .skip _ _ _ n => n
  | _ => 0
structure CodeOk (rs : List Row) : Prop where
  few : rs.length ≤ 1000
  row : ∀ r ∈ rs, r.Ok
  far : ∀ (i : Nat) r, rs[i]? = some r → r.w = "skip" → (i : Int) + r.far < rs.length
end PD
set_option Elab.async false
set_option linter.all false
set_option autoImplicit false
set_option maxRecDepth 100000
set_option maxHeartbeats 4000000
namespace PD
open PySem PySem.Spec PyProof.Rows L2
/-! ### rows as plain data: == -/
def Row.py (r : Row) : PyData := .tuple (.str r.w :: r.ns.map .int)
theorem ints_lay : ∀ ns : List Int, PyData.canLayAll0 (ns.map PyData.int) = true
  | [] => rfl
  | n :: ns => by simp [PyData.canLayAll0, PyData.canLay0, ints_lay ns]
theorem ints_depth : ∀ ns : List Int, PyData.depthAll (ns.map PyData.int) = 0
  | [] => rfl
  | n :: ns => by simp [PyData.depthAll, PyData.depth, ints_depth ns]
theorem Row.w_ok (r : Row) : PyData.strOk r.w = true := by cases r <;> (simp only [Row.w]; decide +kernel)
theorem rowD_lay (r : Row) : PyData.canLay0 r.py = true := by
  simp [Row.py, PyData.canLay0, PyData.canLayAll0, Row.w_ok r, ints_lay]
theorem rowD_depth (r : Row) : PyData.depth r.py = 1 := by
  simp [Row.py, PyData.depth, PyData.depthAll, ints_depth]
theorem rowsD_lay : ∀ rs : List Row, PyData.canLayAll0 (rs.map Row.py) = true
  | [] => rfl
  | r :: rs => by simp [PyData.canLayAll0, rowD_lay r, rowsD_lay rs]
theorem rowsD_depth : ∀ rs : List Row, PyData.depthAll (rs.map Row.py) ≤ 1
  | [] => by simp [PyData.depthAll]
  | r :: rs => by
    have h := rowsD_depth rs
    simp only [List.map_cons, PyData.depthAll, rowD_depth]
    omega
theorem shaped_seq {ds : List PyData} (h : PyData.canLayAll0 ds = true) (h1 : PyData.depthAll ds ≤ 60) : SeqAt.shaped (.tuple ds) = true ∧ SeqAt.shaped (.list ds) = true := by
  constructor
  all_goals
    unfold SeqAt.shaped
    simp [PyData.canLay0, h, PyData.depth, PyData.canLay]
    try omega
theorem pyDs_ints (μ : Mu) : ∀ ns : List Int, pyDs μ (ns.map D.int) = some (ns.map PyData.int)
  | [] => rfl
  | n :: ns => by
    have h := pyDs_ints μ ns
    simp only [List.map_cons, pyDs, pyD, h]
theorem row_pyD (μ : Mu) (r : Row) : pyD μ r.d = some r.py := by
  unfold Row.d
  simp only [pyD, pyDs, pyDs_ints]
  rfl
theorem rows_pyDs (μ : Mu) : ∀ rs : List Row, pyDs μ (rs.map Row.d) = some (rs.map Row.py)
  | [] => rfl
  | r :: rs => by
    have h := rows_pyDs μ rs
    simp only [List.map_cons, pyDs, row_pyD, h]
theorem rowsT_pyD (μ : Mu) (rs : List Row) : pyD μ (.tup (rs.map Row.d)) = some (.tuple (rs.map Row.py)) := by
  simp only [pyD, rows_pyDs]
  rfl
theorem rowsL_pyD (μ : Mu) (rs : List Row) : pyD μ (.lst (rs.map Row.d)) = some (.list (rs.map Row.py)) := by
  simp only [pyD, rows_pyDs]
  rfl
theorem rowsT_shaped (rs : List Row) : SeqAt.shaped (.tuple (rs.map Row.py)) = true := (shaped_seq (rowsD_lay rs) (Nat.le_trans (rowsD_depth rs) (by decide))).1
theorem rowsL_shaped (rs : List Row) : SeqAt.shaped (.list (rs.map Row.py)) = true := (shaped_seq (rowsD_lay rs) (Nat.le_trans (rowsD_depth rs) (by decide))).2
theorem rowsT_refl (rs : List Row) : PyData.eqv (.tuple (rs.map Row.py)) (.tuple (rs.map Row.py)) = true := SeqAt.eqv_refl _ (SeqAt.canLay_of_shaped (rowsT_shaped rs))
theorem eq_rowsT {μ : Mu} {Q : QD} {g : Bool → Bool} {rs : List Row} (h : Q (.bl (g true)) μ) : oEqG g (.tup (rs.map Row.d)) (.tup (rs.map Row.d)) μ Q := by
  show (match pyD μ (.tup (rs.map Row.d)), pyD μ (.tup (rs.map Row.d)) with | some x, some y => _ | _, _ => False)
  rw [rowsT_pyD]
  refine ⟨rowsT_shaped rs, rowsT_shaped rs, ?_⟩
  rw [rowsT_refl]
  exact h
end PD
set_option Elab.async false
set_option linter.all false
set_option autoImplicit false
set_option maxRecDepth 100000
set_option maxHeartbeats 4000000
namespace PD
open PySem PySem.Spec PyProof.Rows L2
/-- a comprehension with a test -/
theorem lcL_fil {o : Cks} {en : D → Mu → (PD.Env → Prop) → Prop} {tt : TDT} {te : TDE} {Q : List D → Mu → Prop} {μ : Mu} (f : D → D) (p : D → Bool) (c : CK o μ) : ∀ (ds acc : List D), (∀ x ∈ ds, ∀ (R : QD) (B : Mu → Prop), (p x = true → R (f x) μ) → (p x = false → B μ) → en x μ fun ρ' => tt xF ρ' μ fun b μ2 => dIf b (te xF ρ' μ2 R) (B μ2)) →
    acc.length + ds.length ≤ sizeLine → Q (acc ++ (ds.filter p).map f) μ → lcL o en tt te Q ds acc μ
  | [], acc, _, _, hq => by
    rw [List.filter_nil, List.map_nil, List.append_nil] at hq
    exact chk_mk c hq
  | x :: xs, acc, h, hl, hq => by
    refine chk_mk c (h x List.mem_cons_self _ _ (fun hp => ⟨?_, ?_⟩) fun hp => ?_)
    · rw [List.length_cons] at hl
      omega
    · refine lcL_fil f p c xs _ (fun y hy => h y (List.mem_cons_of_mem _ hy)) ?_ ?_
      · rw [List.length_append, List.length_singleton]
        rw [List.length_cons] at hl
        omega
      · rw [List.filter_cons_of_pos hp, List.map_cons] at hq
        rw [List.append_assoc]
        exact hq
    · refine lcL_fil f p c xs _ (fun y hy => h y (List.mem_cons_of_mem _ hy)) ?_ ?_
      · rw [List.length_cons] at hl
        omega
      · rw [List.filter_cons_of_neg (by rw [hp]; exact Bool.false_ne_true)] at hq
        exact hq
theorem pyDs_strs (μ : Mu) : ∀ zs : List Str, pyDs μ (zs.map D.str) = some (zs.map PyData.str)
  | [] => by simp only [List.map_nil, pyDs]
  | z :: zs => by
    have h := pyDs_strs μ zs
    simp only [List.map_cons, pyDs, pyD, h]
def Asc (w : Str) : Prop := ∀ c ∈ w.cps.toList, c < 128
theorem Asc.ok {w : Str} (h : Asc w) : PyData.strOk w = true := by
  unfold PyData.strOk
  rw [← Array.all_toList, List.all_eq_true]
  exact fun c hc => decide_eq_true (Nat.lt_trans (h c hc) (by decide))
theorem strs_lay : ∀ zs : List Str, (∀ z ∈ zs, Asc z) → PyData.canLayAll0 (zs.map PyData.str) = true
  | [], _ => by simp [PyData.canLayAll0]
  | z :: zs, h => by simp [PyData.canLayAll0, PyData.canLay0, strs_lay zs fun y hy => h y (List.mem_cons_of_mem _ hy), (h z List.mem_cons_self).ok]
theorem strs_depth : ∀ zs : List Str, PyData.depthAll (zs.map PyData.str) ≤ 0
  | [] => by simp [PyData.depthAll]
  | z :: zs => by
    have := strs_depth zs
    simp only [List.map_cons, PyData.depthAll, PyData.depth]
    omega
theorem strsL_shaped (zs : List Str) (h : ∀ z ∈ zs, Asc z) : SeqAt.shaped (.list (zs.map PyData.str)) = true := (shaped_seq (strs_lay zs h) (Nat.le_trans (strs_depth zs) (by decide))).2
/-- xs != [], xs a list of texts -/
theorem ne_nil_strs {μ : Mu} {Q : QD} (g : Bool → Bool) {zs : List Str} (ha : ∀ z ∈ zs, Asc z) (h : Q (.bl (g zs.isEmpty)) μ) : oEqG g (.lst (zs.map D.str)) (.lst []) μ Q := by
  show (match pyD μ (.lst (zs.map D.str)), pyD μ (.lst []) with | some x, some y => _ | _, _ => False)
  have e1 : pyD μ (.lst (zs.map D.str)) = some (.list (zs.map PyData.str)) := by
    simp only [pyD, pyDs_strs]
    rfl
  have e2 : pyD μ (.lst []) = some (.list []) := by
    simp only [pyD, pyDs]
    rfl
  rw [e1, e2]
  refine ⟨strsL_shaped zs ha, strsL_shaped [] (by simp), ?_⟩
  cases zs with
  | nil =>
    rw [show PyData.eqv (.list (([] : List Str).map PyData.str)) (.list []) = true by simp [PyData.eqv, PyData.eqvAll]]
    exact h
  | cons z zs =>
    rw [show PyData.eqv (.list ((z :: zs).map PyData.str)) (.list []) = false by simp [PyData.eqv, PyData.eqvAll]]
    exact h
end PD
set_option Elab.async false
set_option linter.all false
set_option autoImplicit false
set_option maxRecDepth 100000
set_option maxHeartbeats 4000000
namespace PD
open PySem PySem.Spec PyProof.Rows L2
open SX (S S_len)
/-! ### texts and their parts -/
theorem spl_ok (s : List Nat) : ∀ (l acc : List Nat) (k : Nat), TL.spl s k acc l ≠ [] ∧ (TL.spl s k acc l).length ≤ l.length + 1 ∧ ∀ p ∈ TL.spl s k acc l, p.length ≤ acc.length + l.length ∧ ∀ c ∈ p, c ∈ acc ∨ c ∈ l
  | [], acc, k => by
    rw [TL.spl_nil]
    refine ⟨by simp, by simp, fun p hp => ?_⟩
    rw [List.mem_singleton] at hp
    subst hp
    exact ⟨by simp, fun c hc => .inl hc⟩
  | c :: r, acc, k + 1 => by
    obtain ⟨h1, h2, h3⟩ := spl_ok s r acc k
    refine ⟨h1, Nat.le_trans h2 (by simp), fun p hp => ⟨Nat.le_trans (h3 p hp).1 (by simp), fun d hd => ?_⟩⟩
    exact ((h3 p hp).2 d hd).imp id fun z => List.mem_cons_of_mem _ z
  | c :: r, acc, 0 => by
    by_cases h : TL.pre s (c :: r) = true
    · rw [TL.spl_hit h]
      obtain ⟨h1, h2, h3⟩ := spl_ok s r [] (s.length - 1)
      refine ⟨by simp, ?_, fun p hp => ?_⟩
      · rw [List.length_cons, List.length_cons]
        omega
      · rcases List.mem_cons.mp hp with rfl | hp
        · exact ⟨Nat.le_add_right _ _, fun d hd => .inl hd⟩
        · have q := h3 p hp
          refine ⟨by rw [List.length_cons]; have := q.1; rw [List.length_nil] at this; omega, fun d hd => ?_⟩
          rcases q.2 d hd with z | z
          · cases z
          · exact .inr (List.mem_cons_of_mem _ z)
    · rw [TL.spl_miss (by simpa using h)]
      obtain ⟨h1, h2, h3⟩ := spl_ok s r (acc ++ [c]) 0
      refine ⟨h1, Nat.le_trans h2 (by simp), fun p hp => ?_⟩
      have q := h3 p hp
      refine ⟨by have := q.1; rw [List.length_append, List.length_singleton] at this; rw [List.length_cons]; omega, fun d hd => ?_⟩
      rcases q.2 d hd with z | z
      · rcases List.mem_append.mp z with z | z
        · exact .inl z
        · rw [List.mem_singleton] at z
          subst z
          exact .inr List.mem_cons_self
      · exact .inr (List.mem_cons_of_mem _ z)
/-- a text of at most n plain signs -/
structure Tx (n : Nat) (w : Str) : Prop where
  len : w.length ≤ n
  asc : Asc w
theorem Tx.mono {n m : Nat} {w : Str} (h : Tx n w) (hm : n ≤ m) : Tx m w := ⟨Nat.le_trans h.len hm, h.asc⟩
theorem split_ok {n c : Nat} {w : Str} (hc : c < 256) (h : Tx n w) : Txt.split w (S [c]) ≠ [] ∧ (Txt.split w (S [c])).length ≤ n + 1 ∧ ∀ p ∈ Txt.split w (S [c]), Tx n p := by
  obtain ⟨l, rfl⟩ := S_of w
  rw [SX.split_S (by simp) (by simpa using hc)]
  obtain ⟨h1, h2, h3⟩ := spl_ok [c] l [] 0
  have hl : l.length ≤ n := by
    have := h.len
    rw [S_len] at this
    exact this
  refine ⟨fun e => h1 (List.map_eq_nil_iff.mp e), by rw [List.length_map]; omega, fun p hp => ?_⟩
  obtain ⟨q, hq, rfl⟩ := List.mem_map.mp hp
  refine ⟨?_, fun d hd => ?_⟩
  · rw [S_len]
    have := (h3 q hq).1
    rw [List.length_nil] at this
    omega
  · rcases (h3 q hq).2 d hd with z | z
    · cases z
    · exact h.asc d z
theorem cut_from {w : Str} : ∃ r : List Nat, cutS w (some 1) none = S r ∧ r.length ≤ w.length ∧ ∀ c ∈ r, c ∈ w.cps.toList := by
  obtain ⟨l, rfl⟩ := S_of w
  cases l with
  | nil => exact ⟨[], by decide +kernel, by simp, fun c hc => by cases hc⟩
  | cons c r =>
    refine ⟨r, ?_, by rw [S_len, List.length_cons]; omega, fun d hd => List.mem_cons_of_mem _ hd⟩
    rw [C8.cutS_slice, SX.slice_from (by decide)]
    rfl
theorem Tx.cut {n : Nat} {w : Str} (h : Tx n w) : Tx n (cutS w (some 1) none) := by
  obtain ⟨r, e, h1, h2⟩ := cut_from (w := w)
  rw [e]
  exact ⟨by rw [S_len]; exact Nat.le_trans h1 h.len, fun c hc => h.asc c (h2 c hc)⟩
/-! ### the forms of rows -/
def keys : List (Str × List Str) := [("set", ["register", "number"]), ("copy", ["register", "register"]), ("add", ["register", "register", "register"]), ("sub", ["register", "register", "register"]), ("mul", ["register", "register", "register"]), ("left", ["register", "register"]), ("right", ["register", "register"]), ("load", ["register", "slot"]), ("store", ["slot", "register"]), ("skip", ["register", "modulus", "rest", "count"])]
def rowR (w : Str) (os : List (Option Int)) : D := if os.any Option.isNone = true then .non else .tup (.str w :: os.map optD)
/-- the row that the words have the form of, or None -/
noncomputable def readR (ws : List Str) : D := match ws with
  | [] => .non
  | w :: rest => (match keys.lookup w with
    | some fs => if rest.length = fs.length then rowR w (List.zipWith intW fs rest) else .non
    | none => .non)
theorem look_map {α β : Type} (g : α → β) (w : Str) : ∀ l : List (Str × α), (l.map fun p => (p.1, g p.2)).lookup w = (l.lookup w).map g
  | [] => rfl
  | (k, v) :: l => by
    by_cases h : w = k
    · subst h
      simp
    · have e : (w == k) = false := by simpa using h
      simp only [List.map_cons, List.lookup, e]
      exact look_map g w l
theorem val_map {α : Type} (g : α → D) (w : Str) : ∀ l : List (Str × α), valD (l.map fun p => ((.inr p.1 : Key), g p.2)) (.inr w) = (l.lookup w).map g
  | [] => rfl
  | (k, v) :: l => by
    unfold valD
    by_cases h : k = w
    · subst h
      simp
    · have e : (w == k) = false := by simpa using fun z : w = k => h z.symm
      rw [List.map_cons, List.find?_cons_of_neg (by simpa using h)]
      simp only [List.lookup, e]
      exact val_map g w l
theorem inD_opt : ∀ os : List (Option Int), inD .non (os.map optD) = os.any Option.isNone
  | [] => rfl
  | o :: os => by
    have := inD_opt os
    unfold inD at this ⊢
    rw [List.map_cons, List.any_cons, List.any_cons, this]
    cases o <;> rfl
theorem flD_opt (os : List (Option Int)) : (os.map optD).all flD = true := by
  rw [List.all_map, List.all_eq_true]
  intro o _
  cases o <;> rfl
end PD
set_option Elab.async false
set_option linter.all false
set_option autoImplicit false
set_option maxRecDepth 100000
set_option maxHeartbeats 4000000
namespace PD
open PySem PySem.Spec PyProof.Rows L2
open SX (S S_len)
instance : DecidablePred Row.Ok := fun r => by cases r <;> unfold Row.Ok <;> infer_instance
/-- an integer that a word may write -/
abbrev Wn (n : Int) : Prop := -100000000000000000000 < n ∧ n < 100000000000000000000
abbrev Wp (n : Int) : Prop := 0 ≤ n ∧ n < 100000000000000000000
def Row.Wide : Row → Prop
  | .set r n => Wp r ∧ Wn n
  | .copy r a => Wp r ∧ Wp a | .left r a => Wp r ∧ Wp a | .right r a => Wp r ∧ Wp a
  | .add r a b => Wp r ∧ Wp a ∧ Wp b | .sub r a b => Wp r ∧ Wp a ∧ Wp b | .mul r a b => Wp r ∧ Wp a ∧ Wp b
  | .load r s => Wp r ∧ Wp s | .store s a => Wp s ∧ Wp a
  | .skip a m c n => Wp a ∧ Wp m ∧ Wp c ∧ Wp n
theorem intW_wn {f w : Str} {n : Int} (h : intW f w = some n) : Wn n ∧ (f ≠ "number" → Wp n) := by
  unfold intW at h
  split at h
  · rename_i hf
    split at h
    · rename_i m hm
      have := (natW_some hm).1
      split at h
      · cases h
      · cases h
        exact ⟨⟨by omega, by omega⟩, fun z => absurd hf.1 z⟩
    · cases h
  · cases hm : natW w with
    | none => rw [hm] at h; cases h
    | some m =>
      rw [hm] at h
      have e : n = (m : Int) := (Option.some.inj h).symm
      subst e
      have := (natW_some hm).1
      exact ⟨⟨by omega, by omega⟩, fun _ => ⟨by omega, by omega⟩⟩
def rowO : Option Row → D
  | some r => r.d
  | none => .non
theorem key_mem {w : Str} {fs : List Str} : ∀ l : List (Str × List Str), l.lookup w = some fs → (w, fs) ∈ l
  | [], h => by cases h
  | (k, v) :: l, h => by
    by_cases e : w = k
    · subst e
      simp at h
      subst h
      exact List.mem_cons_self
    · have e' : (w == k) = false := by simpa using e
      simp only [List.lookup, e'] at h
      exact List.mem_cons_of_mem _ (key_mem l h)
theorem readR_row (ws : List Str) : readR ws = .non ∨ ∃ r : Row, readR ws = r.d ∧ r.Wide := by
  unfold readR
  cases ws with
  | nil => exact .inl rfl
  | cons w rest =>
    dsimp only
    cases hk : keys.lookup w with
    | none => exact .inl rfl
    | some fs =>
      dsimp only
      by_cases hn : rest.length = fs.length
      · rw [if_pos hn]
        unfold rowR
        by_cases ha : (List.zipWith intW fs rest).any Option.isNone = true
        · rw [if_pos ha]
          exact .inl rfl
        · rw [if_neg ha]
          refine .inr ?_
          have hm := key_mem keys hk
          have no : ∀ o ∈ List.zipWith intW fs rest, ∃ n, o = some n := fun o ho => by
            cases o with
            | some n => exact ⟨n, rfl⟩
            | none => exact absurd (List.any_eq_true.mpr ⟨none, ho, rfl⟩) ha
          simp only [keys, List.mem_cons, List.not_mem_nil, or_false, Prod.mk.injEq] at hm
          rcases hm with ⟨rfl, rfl⟩ | ⟨rfl, rfl⟩ | ⟨rfl, rfl⟩ | ⟨rfl, rfl⟩ | ⟨rfl, rfl⟩ | ⟨rfl, rfl⟩ | ⟨rfl, rfl⟩ | ⟨rfl, rfl⟩ | ⟨rfl, rfl⟩ | ⟨rfl, rfl⟩
          · obtain ⟨x0, x1, rfl⟩ : ∃ x0 x1, rest = [x0, x1] := by
              match rest, hn with
              | [x0, x1], _ => exact ⟨_, _, rfl⟩
            obtain ⟨n0, e0⟩ := no (intW "register" x0) (by simp)
            obtain ⟨n1, e1⟩ := no (intW "number" x1) (by simp)
            refine ⟨.set n0 n1, ?_, ?_⟩
            · show D.tup (.str "set" :: [intW "register" x0, intW "number" x1].map optD) = _
              rw [e0, e1]
              rfl
            · exact ⟨(intW_wn e0).2 (by decide +kernel), (intW_wn e1).1⟩
          · obtain ⟨x0, x1, rfl⟩ : ∃ x0 x1, rest = [x0, x1] := by
              match rest, hn with
              | [x0, x1], _ => exact ⟨_, _, rfl⟩
            obtain ⟨n0, e0⟩ := no (intW "register" x0) (by simp)
            obtain ⟨n1, e1⟩ := no (intW "register" x1) (by simp)
            refine ⟨.copy n0 n1, ?_, ?_⟩
            · show D.tup (.str "copy" :: [intW "register" x0, intW "register" x1].map optD) = _
              rw [e0, e1]
              rfl
            · exact ⟨(intW_wn e0).2 (by decide +kernel), (intW_wn e1).2 (by decide +kernel)⟩
          · obtain ⟨x0, x1, x2, rfl⟩ : ∃ x0 x1 x2, rest = [x0, x1, x2] := by
              match rest, hn with
              | [x0, x1, x2], _ => exact ⟨_, _, _, rfl⟩
            obtain ⟨n0, e0⟩ := no (intW "register" x0) (by simp)
            obtain ⟨n1, e1⟩ := no (intW "register" x1) (by simp)
            obtain ⟨n2, e2⟩ := no (intW "register" x2) (by simp)
            refine ⟨.add n0 n1 n2, ?_, ?_⟩
            · show D.tup (.str "add" :: [intW "register" x0, intW "register" x1, intW "register" x2].map optD) = _
              rw [e0, e1, e2]
              rfl
            · exact ⟨(intW_wn e0).2 (by decide +kernel), (intW_wn e1).2 (by decide +kernel), (intW_wn e2).2 (by decide +kernel)⟩
          · obtain ⟨x0, x1, x2, rfl⟩ : ∃ x0 x1 x2, rest = [x0, x1, x2] := by
              match rest, hn with
              | [x0, x1, x2], _ => exact ⟨_, _, _, rfl⟩
            obtain ⟨n0, e0⟩ := no (intW "register" x0) (by simp)
            obtain ⟨n1, e1⟩ := no (intW "register" x1) (by simp)
            obtain ⟨n2, e2⟩ := no (intW "register" x2) (by simp)
            refine ⟨.sub n0 n1 n2, ?_, ?_⟩
            · show D.tup (.str "sub" :: [intW "register" x0, intW "register" x1, intW "register" x2].map optD) = _
              rw [e0, e1, e2]
              rfl
            · exact ⟨(intW_wn e0).2 (by decide +kernel), (intW_wn e1).2 (by decide +kernel), (intW_wn e2).2 (by decide +kernel)⟩
          · obtain ⟨x0, x1, x2, rfl⟩ : ∃ x0 x1 x2, rest = [x0, x1, x2] := by
              match rest, hn with
              | [x0, x1, x2], _ => exact ⟨_, _, _, rfl⟩
            obtain ⟨n0, e0⟩ := no (intW "register" x0) (by simp)
            obtain ⟨n1, e1⟩ := no (intW "register" x1) (by simp)
            obtain ⟨n2, e2⟩ := no (intW "register" x2) (by simp)
            refine ⟨.mul n0 n1 n2, ?_, ?_⟩
            · show D.tup (.str "mul" :: [intW "register" x0, intW "register" x1, intW "register" x2].map optD) = _
              rw [e0, e1, e2]
              rfl
            · exact ⟨(intW_wn e0).2 (by decide +kernel), (intW_wn e1).2 (by decide +kernel), (intW_wn e2).2 (by decide +kernel)⟩
          · obtain ⟨x0, x1, rfl⟩ : ∃ x0 x1, rest = [x0, x1] := by
              match rest, hn with
              | [x0, x1], _ => exact ⟨_, _, rfl⟩
            obtain ⟨n0, e0⟩ := no (intW "register" x0) (by simp)
            obtain ⟨n1, e1⟩ := no (intW "register" x1) (by simp)
            refine ⟨.left n0 n1, ?_, ?_⟩
            · show D.tup (.str "left" :: [intW "register" x0, intW "register" x1].map optD) = _
              rw [e0, e1]
              rfl
            · exact ⟨(intW_wn e0).2 (by decide +kernel), (intW_wn e1).2 (by decide +kernel)⟩
          · obtain ⟨x0, x1, rfl⟩ : ∃ x0 x1, rest = [x0, x1] := by
              match rest, hn with
              | [x0, x1], _ => exact ⟨_, _, rfl⟩
            obtain ⟨n0, e0⟩ := no (intW "register" x0) (by simp)
            obtain ⟨n1, e1⟩ := no (intW "register" x1) (by simp)
            refine ⟨.right n0 n1, ?_, ?_⟩
            · show D.tup (.str "right" :: [intW "register" x0, intW "register" x1].map optD) = _
              rw [e0, e1]
              rfl
            · exact ⟨(intW_wn e0).2 (by decide +kernel), (intW_wn e1).2 (by decide +kernel)⟩
          · obtain ⟨x0, x1, rfl⟩ : ∃ x0 x1, rest = [x0, x1] := by
              match rest, hn with
              | [x0, x1], _ => exact ⟨_, _, rfl⟩
            obtain ⟨n0, e0⟩ := no (intW "register" x0) (by simp)
            obtain ⟨n1, e1⟩ := no (intW "slot" x1) (by simp)
            refine ⟨.load n0 n1, ?_, ?_⟩
            · show D.tup (.str "load" :: [intW "register" x0, intW "slot" x1].map optD) = _
              rw [e0, e1]
              rfl
            · exact ⟨(intW_wn e0).2 (by decide +kernel), (intW_wn e1).2 (by decide +kernel)⟩
          · obtain ⟨x0, x1, rfl⟩ : ∃ x0 x1, rest = [x0, x1] := by
              match rest, hn with
              | [x0, x1], _ => exact ⟨_, _, rfl⟩
            obtain ⟨n0, e0⟩ := no (intW "slot" x0) (by simp)
            obtain ⟨n1, e1⟩ := no (intW "register" x1) (by simp)
            refine ⟨.store n0 n1, ?_, ?_⟩
            · show D.tup (.str "store" :: [intW "slot" x0, intW "register" x1].map optD) = _
              rw [e0, e1]
              rfl
            · exact ⟨(intW_wn e0).2 (by decide +kernel), (intW_wn e1).2 (by decide +kernel)⟩
          · obtain ⟨x0, x1, x2, x3, rfl⟩ : ∃ x0 x1 x2 x3, rest = [x0, x1, x2, x3] := by
              match rest, hn with
              | [x0, x1, x2, x3], _ => exact ⟨_, _, _, _, rfl⟩
            obtain ⟨n0, e0⟩ := no (intW "register" x0) (by simp)
            obtain ⟨n1, e1⟩ := no (intW "modulus" x1) (by simp)
            obtain ⟨n2, e2⟩ := no (intW "rest" x2) (by simp)
            obtain ⟨n3, e3⟩ := no (intW "count" x3) (by simp)
            refine ⟨.skip n0 n1 n2 n3, ?_, ?_⟩
            · show D.tup (.str "skip" :: [intW "register" x0, intW "modulus" x1, intW "rest" x2, intW "count" x3].map optD) = _
              rw [e0, e1, e2, e3]
              rfl
            · exact ⟨(intW_wn e0).2 (by decide +kernel), (intW_wn e1).2 (by decide +kernel), (intW_wn e2).2 (by decide +kernel), (intW_wn e3).2 (by decide +kernel)⟩
      · rw [if_neg hn]
        exact .inl rfl
/-- the row of a line -/
noncomputable def lineR (z : Str) : Option Row := open Classical in if h : ∃ r : Row, readR (Txt.split z " ") = r.d ∧ r.Wide then some (Classical.choose h) else none
theorem lineR_d (z : Str) : readR (Txt.split z " ") = rowO (lineR z) := by
  unfold lineR
  split
  · rename_i h
    exact (Classical.choose_spec h).1
  · rename_i h
    exact (readR_row _).resolve_right h
theorem lineR_wide {z : Str} {r : Row} (h : lineR z = some r) : r.Wide := by
  unfold lineR at h
  split at h
  · rename_i hx
    cases h
    exact (Classical.choose_spec hx).2
  · cases h
/-! ### what is wrong first -/
def Fine (rs : List Row) (j : Nat) : Prop := ∀ r, rs[j]? = some r → r.Ok ∧ (r.w = "skip" → (j : Int) + r.far < rs.length)
structure FirstBad (rs : List Row) (w : Str) (i : Nat) : Prop where
  at_ : ∃ r, rs[i]? = some r ∧ ((w = "row" ∧ ¬ r.Ok) ∨ (w = "skip" ∧ r.Ok ∧ r.w = "skip" ∧ (rs.length : Int) ≤ i + r.far))
  pre : ∀ j, j < i → Fine rs j
theorem FirstBad.inj {rs : List Row} {w v : Str} {i j : Nat} (a : FirstBad rs w i) (b : FirstBad rs v j) : w = v ∧ i = j := by
  obtain ⟨r, h1, h2⟩ := a.at_
  obtain ⟨q, g1, g2⟩ := b.at_
  have bad : ∀ {rs : List Row} {w : Str} {i : Nat} {r : Row}, rs[i]? = some r → ((w = "row" ∧ ¬ r.Ok) ∨ (w = "skip" ∧ r.Ok ∧ r.w = "skip" ∧ (rs.length : Int) ≤ i + r.far)) → ¬ Fine rs i := fun {rs w i r} e h f => by
    obtain ⟨f1, f2⟩ := f r e
    rcases h with ⟨_, h⟩ | ⟨_, _, h3, h4⟩
    · exact h f1
    · have := f2 h3
      omega
  have e : i = j := by
    rcases Nat.lt_trichotomy i j with z | z | z
    · exact absurd (b.pre i z) (bad h1 h2)
    · exact z
    · exact absurd (a.pre j z) (bad g1 g2)
  subst e
  rw [h1] at g1
  cases g1
  refine ⟨?_, rfl⟩
  rcases h2 with ⟨rfl, h⟩ | ⟨rfl, h, _⟩
  · rcases g2 with ⟨rfl, _⟩ | ⟨_, g, _⟩
    · rfl
    · exact absurd g h
  · rcases g2 with ⟨_, g⟩ | ⟨rfl, _⟩
    · exact absurd h g
    · rfl
/-- the answer to lines -/
inductive Ans (os : List (Option Row)) : D → Prop
  | text (i : Nat) : os[i]? = some none → (∀ j, j < i → ∃ r, os[j]? = some (some r)) → Ans os (.tup [.str "text", .int (i : Nat)])
  | bad (rs : List Row) (w : Str) (i : Nat) : os = rs.map some → FirstBad rs w i → Ans os (.tup [.str w, .int (i : Nat)])
  | ok (rs : List Row) : os = rs.map some → (∀ i, Fine rs i) → Ans os (.tup (rs.map Row.d))
theorem map_some_inj {rs qs : List Row} (h : rs.map some = qs.map some) : rs = qs := by
  have := congrArg (List.filterMap id) h
  simpa using this
theorem Ans.inj {os : List (Option Row)} {d e : D} (a : Ans os d) (b : Ans os e) : d = e := by
  have notext : ∀ {i : Nat} {rs : List Row}, os[i]? = some none → os = rs.map some → False := fun {i rs} h1 h2 => by
    rw [h2, List.getElem?_map] at h1
    cases e : rs[i]? with
    | none => rw [e] at h1; cases h1
    | some r => rw [e] at h1; cases h1
  have nobad : ∀ {rs qs : List Row} {w : Str} {i : Nat}, os = rs.map some → os = qs.map some → FirstBad rs w i → (∀ i, Fine qs i) → False := fun {rs qs w i} h1 h2 h3 h4 => by
    have e := map_some_inj (h1.symm.trans h2)
    subst e
    obtain ⟨r, g1, g2⟩ := h3.at_
    obtain ⟨f1, f2⟩ := h4 i r g1
    rcases g2 with ⟨_, g⟩ | ⟨_, _, g3, g4⟩
    · exact g f1
    · have := f2 g3
      omega
  cases a with
  | text i h1 h2 =>
    cases b with
    | text j g1 g2 =>
      have e : i = j := by
        rcases Nat.lt_trichotomy i j with z | z | z
        · obtain ⟨r, e⟩ := g2 i z
          rw [h1] at e
          cases e
        · exact z
        · obtain ⟨r, e⟩ := h2 j z
          rw [g1] at e
          cases e
      rw [e]
    | bad rs w j g1 g2 => exact (notext h1 g1).elim
    | ok rs g1 g2 => exact (notext h1 g1).elim
  | bad rs w i h1 h2 =>
    cases b with
    | text j g1 g2 => exact (notext g1 h1).elim
    | bad qs v j g1 g2 =>
      have e := map_some_inj (h1.symm.trans g1)
      subst e
      obtain ⟨rfl, rfl⟩ := h2.inj g2
      rfl
    | ok qs g1 g2 => exact (nobad h1 g1 h2 g2).elim
  | ok rs h1 h2 =>
    cases b with
    | text j g1 g2 => exact (notext g1 h1).elim
    | bad qs v j g1 g2 => exact (nobad g1 h1 g2 h2).elim
    | ok qs g1 g2 =>
      have e := map_some_inj (h1.symm.trans g1)
      rw [e]
theorem mod_in (m : Int) : inD (.int m) [.int 1, .int 2, .int 4, .int 8, .int 16, .int 32, .int 64] = decide (0 < m ∧ m ≤ 64 ∧ 64 % m = 0) := by
  by_cases h : 0 < m ∧ m ≤ 64
  · obtain ⟨k, rfl⟩ : ∃ k : Nat, m = k := ⟨m.toNat, by omega⟩
    have key : ∀ k : Fin 65, 0 < k.val → inD (.int (k.val : Int)) [.int 1, .int 2, .int 4, .int 8, .int 16, .int 32, .int 64] = decide (64 % (k.val : Int) = 0) := by decide +kernel
    rw [key ⟨k, by omega⟩ (by show 0 < k; omega)]
    exact decide_eq_decide.mpr ⟨fun z => ⟨h.1, h.2, z⟩, fun z => z.2.2⟩
  · rw [decide_eq_false fun z => h ⟨z.1, z.2.1⟩]
    simp only [inD, List.any_cons, List.any_nil, eqS, Bool.or_false, Bool.or_eq_false_iff, beq_eq_false_iff_ne, ne_eq]
    omega
end PD
set_option Elab.async false
set_option linter.all false
set_option autoImplicit false
set_option maxRecDepth 100000
set_option maxHeartbeats 4000000
namespace PD
open PySem PySem.Spec PyProof.Rows L2
open SX (S S_len)
/-! ### the text of a row -/
def Row.ts (r : Row) : List Str := r.w :: r.ns.map fun n => (toString n : Str)
def Row.t (r : Row) : Str := Txt.join " " r.ts
theorem Row.Ok.num {r : Row} (h : r.Ok) : ∀ n ∈ r.ns, Num n := by
  cases r with
  | skip a m c n =>
    obtain ⟨h1, ⟨h2, h3, h4⟩, ⟨h5, h6⟩, h7, h8⟩ := h
    intro n hn
    simp only [Row.ns, List.mem_cons, List.not_mem_nil, or_false] at hn
    unfold Num
    rcases hn with rfl | rfl | rfl | rfl <;> omega
  | set r n =>
    obtain ⟨h1, h2⟩ := h
    intro n hn
    simp only [Row.ns, List.mem_cons, List.not_mem_nil, or_false] at hn
    unfold Num
    rcases hn with rfl | rfl <;> omega
  | load r n =>
    obtain ⟨h1, h2⟩ := h
    intro n hn
    simp only [Row.ns, List.mem_cons, List.not_mem_nil, or_false] at hn
    unfold Num
    rcases hn with rfl | rfl <;> omega
  | store r n =>
    obtain ⟨h1, h2⟩ := h
    intro n hn
    simp only [Row.ns, List.mem_cons, List.not_mem_nil, or_false] at hn
    unfold Num
    rcases hn with rfl | rfl <;> omega
  | _ =>
    first
    | obtain ⟨h1, h2, h3⟩ := h
      intro n hn
      simp only [Row.ns, List.mem_cons, List.not_mem_nil, or_false] at hn
      unfold Num
      rcases hn with rfl | rfl | rfl <;> omega
    | obtain ⟨h1, h2⟩ := h
      intro n hn
      simp only [Row.ns, List.mem_cons, List.not_mem_nil, or_false] at hn
      unfold Num
      rcases hn with rfl | rfl <;> omega
theorem Row.w_free (r : Row) : 32 ∉ TL.tl r.w ∧ 10 ∉ TL.tl r.w ∧ r.w.length ≤ 5 := by
  cases r <;> (simp only [Row.w]; exact ⟨by decide +kernel, by decide +kernel, by decide +kernel⟩)
theorem str_free {n : Int} {s : Nat} (h : s < 45) : s ∉ TL.tl (toString n : Str) := by
  rw [int_str]
  exact iL_free (.inl h)
theorem Row.ns_len (r : Row) : r.ns.length ≤ 4 := by cases r <;> (simp [Row.ns])
theorem Row.split (r : Row) : Txt.split r.t " " = r.ts := by
  refine TL.split_join (s := 32) (S := []) rfl (by decide +kernel) (List.cons_ne_nil _ _) fun p hp => ?_
  rcases List.mem_cons.mp hp with rfl | hp
  · exact r.w_free.1
  · obtain ⟨n, hn, rfl⟩ := List.mem_map.mp hp
    exact str_free (by decide)
theorem joinL_free {s : Nat} {y : List Nat} (hy : s ∉ y) : ∀ {ps : List (List Nat)}, (∀ p ∈ ps, s ∉ p) → s ∉ TL.joinL y ps
  | [], _ => by simp [TL.joinL]
  | [p], h => h p (List.mem_singleton.mpr rfl)
  | p :: q :: r, h => by
    show s ∉ p ++ (y ++ TL.joinL y (q :: r))
    intro hm
    rcases List.mem_append.mp hm with e | e
    · exact h p List.mem_cons_self e
    · rcases List.mem_append.mp e with e | e
      · exact hy e
      · exact joinL_free hy (fun z hz => h z (List.mem_cons_of_mem _ hz)) e
theorem Row.t_free (r : Row) : 10 ∉ TL.tl r.t := by
  unfold Row.t
  rw [TL.join_eq, TL.tl_join]
  refine joinL_free (by decide +kernel) fun p hp => ?_
  obtain ⟨z, hz, rfl⟩ := List.mem_map.mp hp
  rcases List.mem_cons.mp hz with rfl | hz
  · exact r.w_free.2.1
  · obtain ⟨n, hn, rfl⟩ := List.mem_map.mp hz
    exact str_free (by decide)
theorem Row.ts_sum {r : Row} (h : r.Ok) : (r.ts.map (·.length)).sum ≤ 89 ∧ r.ts.length ≤ 5 := by
  have h1 := r.w_free.2.2
  have h2 := r.ns_len
  have h3 : ((r.ns.map fun n => (toString n : Str)).map (·.length)).sum ≤ (r.ns.map fun n => (toString n : Str)).length * 21 := sum_le fun z hz => by
    obtain ⟨n, hn, rfl⟩ := List.mem_map.mp hz
    have := h.num n hn
    rw [int_str, S_len]
    exact iL_len this.1 this.2
  rw [List.length_map] at h3
  unfold Row.ts
  rw [List.map_cons, List.sum_cons, List.length_cons, List.length_map]
  omega
theorem Row.t_len {r : Row} (h : r.Ok) : r.t.length ≤ 94 := by
  have h1 := join_len " " r.ts
  have h2 := Row.ts_sum h
  have e : (" " : Str).length = 1 := by decide +kernel
  rw [e] at h1
  unfold Row.t
  omega
end PD
set_option Elab.async false
set_option linter.all false
set_option autoImplicit false
set_option maxRecDepth 100000
set_option maxHeartbeats 4000000
namespace PD
open PySem PySem.Spec PyProof.Rows L2
open SX (S S_len)
theorem cutD_to {xs : List D} {k : Nat} (h : k ≤ xs.length) : cutD xs none (some (k : Int)) = xs.take k := by
  have e1 : HT.sIx xs.length 0 none = 0 := rfl
  have e2 : HT.sIx xs.length xs.length (some (k : Int)) = k := by
    rw [HT.sIx_nat]
    omega
  unfold cutD
  rw [e1, e2]
  simp
theorem cutD_from {xs : List D} {k : Nat} (h : k ≤ xs.length) : cutD xs (some (k : Int)) none = xs.drop k := by
  have e1 : HT.sIx xs.length 0 (some (k : Int)) = k := by
    rw [HT.sIx_nat]
    omega
  have e2 : HT.sIx xs.length xs.length none = xs.length := rfl
  unfold cutD
  rw [e1, e2, List.take_of_length_le (by rw [List.length_drop]; omega)]
theorem spl_sum (s : List Nat) : ∀ (l acc : List Nat) (k : Nat), ((TL.spl s k acc l).map (·.length)).sum + (TL.spl s k acc l).length ≤ acc.length + l.length + 1
  | [], acc, k => by
    rw [TL.spl_nil]
    simp
  | c :: r, acc, k + 1 => by
    have := spl_sum s r acc k
    show ((TL.spl s k acc r).map (·.length)).sum + (TL.spl s k acc r).length ≤ _
    rw [List.length_cons]
    omega
  | c :: r, acc, 0 => by
    by_cases h : TL.pre s (c :: r) = true
    · rw [TL.spl_hit h]
      have := spl_sum s r [] (s.length - 1)
      rw [List.map_cons, List.sum_cons, List.length_cons, List.length_cons]
      rw [List.length_nil] at this
      omega
    · rw [TL.spl_miss (by simpa using h)]
      have := spl_sum s r (acc ++ [c]) 0
      rw [List.length_append, List.length_singleton] at this
      rw [List.length_cons]
      omega
theorem split_sum (w : Str) {c : Nat} (hc : c < 256) : ((Txt.split w (S [c])).map (·.length)).sum + (Txt.split w (S [c])).length ≤ w.length + 1 := by
  obtain ⟨l, rfl⟩ := S_of w
  rw [SX.split_S (by simp) (by simpa using hc), S_len, List.length_map, List.map_map]
  have := spl_sum [c] l [] 0
  have e : ((fun x : Str => x.length) ∘ S) = fun x : List Nat => x.length := by
    funext x
    exact S_len x
  rw [e]
  rw [List.length_nil] at this
  omega
theorem asc_join {y : Str} {ps : List Str} (hy : Asc y) (hp : ∀ p ∈ ps, Asc p) : Asc (Txt.join y ps) := by
  intro c hc
  refine Classical.byContradiction fun h => ?_
  have e : TL.tl (Txt.join y ps) = TL.joinL (TL.tl y) (ps.map TL.tl) := by rw [TL.join_eq, TL.tl_join]
  have hc' : c ∈ TL.joinL (TL.tl y) (ps.map TL.tl) := by
    rw [← e]
    exact hc
  refine joinL_free (s := c) (fun z => h (hy c z)) (fun p hp' => ?_) hc'
  obtain ⟨q, hq, rfl⟩ := List.mem_map.mp hp'
  exact fun z => h (hp q hq c z)
theorem asc_lit {w : Str} (h : w.cps.toList.all (· < 128) = true) : Asc w := fun c hc => of_decide_eq_true (List.all_eq_true.mp h c hc)
theorem asc_app {a b : Str} (ha : Asc a) (hb : Asc b) : Asc (a ++ b) := fun c hc => by
  have e : (a ++ b).cps.toList = a.cps.toList ++ b.cps.toList := TL.tl_append a b
  rw [e] at hc
  exact (List.mem_append.mp hc).elim (ha c) (hb c)
theorem len_app (a b : Str) : (a ++ b).length = a.length + b.length := by
  rw [TL.len_tl, TL.tl_append, List.length_append, ← TL.len_tl, ← TL.len_tl]
theorem Tx.app {n m : Nat} {a b : Str} (ha : Tx n a) (hb : Tx m b) : Tx (n + m) (a ++ b) := ⟨by rw [len_app]; have := ha.len; have := hb.len; omega, asc_app ha.asc hb.asc⟩
theorem join_tx {ws : List Str} {m : Nat} {y : Str} (hy : Asc y) (h1 : y.length = 1) (hs : (ws.map (·.length)).sum + ws.length ≤ m) (ha : ∀ z ∈ ws, Asc z) : Tx m (Txt.join y ws) := by
  refine ⟨?_, asc_join hy ha⟩
  have := join_len y ws
  rw [h1] at this
  omega
theorem cut_to {w : Str} {k : Nat} : ∃ r, cutS w none (some (k : Int)) = S r ∧ r = w.cps.toList.take k := by
  obtain ⟨l, rfl⟩ := S_of w
  refine ⟨l.take k, ?_, rfl⟩
  rw [C8.cutS_slice, SX.slice_to (by omega)]
  rfl
theorem cut_fr {w : Str} {k : Nat} : ∃ r, cutS w (some (k : Int)) none = S r ∧ r = w.cps.toList.drop k := by
  obtain ⟨l, rfl⟩ := S_of w
  refine ⟨l.drop k, ?_, rfl⟩
  rw [C8.cutS_slice, SX.slice_from (by omega)]
  rfl
theorem cut_two {w : Str} {n j k : Nat} (h : Tx n w) (hjk : j ≤ k) : Asc (cutS w none (some (j : Int))) ∧ Asc (cutS w (some (k : Int)) none) ∧ (cutS w none (some (j : Int))).length + (cutS w (some (k : Int)) none).length ≤ n := by
  obtain ⟨a, e1, f1⟩ := cut_to (w := w) (k := j)
  obtain ⟨b, e2, f2⟩ := cut_fr (w := w) (k := k)
  rw [e1, e2, S_len, S_len]
  subst f1 f2
  have hl := h.len
  rw [TL.len_tl] at hl
  change w.cps.toList.length ≤ n at hl
  refine ⟨fun c hc => h.asc c (List.mem_of_mem_take hc), fun c hc => h.asc c (List.mem_of_mem_drop hc), ?_⟩
  rw [List.length_take, List.length_drop]
  omega
theorem up_tx {n : Nat} {w : Str} (h : Tx n w) : Tx n (Txt.upper w) := by
  obtain ⟨l, rfl⟩ := S_of w
  have ha : l.all (· < 128) = true := List.all_eq_true.mpr fun c hc => decide_eq_true (h.asc c hc)
  rw [SX.upper_S ha]
  refine ⟨?_, fun c hc => ?_⟩
  · rw [S_len, List.length_map, ← S_len]
    exact h.len
  · obtain ⟨d, hd, rfl⟩ := List.mem_map.mp hc
    have hlt := h.asc d hd
    revert hlt
    clear hc hd
    intro hlt
    have key : ∀ d : Fin 128, PyProof.Rows.up1 d.val < 128 := by decide +kernel
    exact key ⟨d, hlt⟩
/-! ### the texts of rows are short -/
theorem iL_small {n : Int} {k : Nat} (hk : 0 < k) (h0 : 0 ≤ n) (h1 : n < (10 : Int) ^ k) : (toString n : Str).length ≤ k := by
  rw [int_str, S_len]
  obtain ⟨m, rfl⟩ := Int.eq_ofNat_of_zero_le h0
  show (TL.numL m).length ≤ k
  refine TL.numL_len hk ?_
  have e : ((10 ^ k : Nat) : Int) = (10 : Int) ^ k := by simp
  omega
theorem iL_num {n : Int} (h : Num n) : (toString n : Str).length ≤ 21 := by
  rw [int_str, S_len]
  exact iL_len h.1 h.2
theorem row_asc (r : Row) : Asc r.t := by
  refine asc_join (asc_lit (by decide +kernel)) fun p hp => ?_
  unfold Row.ts at hp
  rcases List.mem_cons.mp hp with rfl | hp
  · cases r <;> exact asc_lit (by simp only [Row.w]; decide +kernel)
  · obtain ⟨n, _, rfl⟩ := List.mem_map.mp hp
    rw [int_str]
    intro c hc
    refine Classical.byContradiction fun h => ?_
    exact iL_free (n := n) (s := c) (.inr (by omega)) hc
theorem row_short {r : Row} (h : r.Ok) : r.t.length ≤ 28 := by
  have hj := join_len " " r.ts
  have e : (" " : Str).length = 1 := by decide +kernel
  rw [e] at hj
  refine Nat.le_trans hj ?_
  cases r with
  | set x0 x1 =>
    obtain ⟨h0, h1⟩ := h
    have l0 := iL_small (n := x0) (k := 1) (by decide) (by omega) (by omega)
    have l1 := iL_num h1
    have w : ("set" : Str).length = 3 := by decide +kernel
    show ([("set" : Str).length, (toString x0 : Str).length, (toString x1 : Str).length] : List Nat).sum + 3 * 1 ≤ 28
    simp only [List.sum_cons, List.sum_nil]
    omega
  | copy x0 x1 =>
    obtain ⟨h0, h1⟩ := h
    have l0 := iL_small (n := x0) (k := 1) (by decide) (by omega) (by omega)
    have l1 := iL_small (n := x1) (k := 1) (by decide) (by omega) (by omega)
    have w : ("copy" : Str).length = 4 := by decide +kernel
    show ([("copy" : Str).length, (toString x0 : Str).length, (toString x1 : Str).length] : List Nat).sum + 3 * 1 ≤ 28
    simp only [List.sum_cons, List.sum_nil]
    omega
  | add x0 x1 x2 =>
    obtain ⟨h0, h1, h2⟩ := h
    have l0 := iL_small (n := x0) (k := 1) (by decide) (by omega) (by omega)
    have l1 := iL_small (n := x1) (k := 1) (by decide) (by omega) (by omega)
    have l2 := iL_small (n := x2) (k := 1) (by decide) (by omega) (by omega)
    have w : ("add" : Str).length = 3 := by decide +kernel
    show ([("add" : Str).length, (toString x0 : Str).length, (toString x1 : Str).length, (toString x2 : Str).length] : List Nat).sum + 4 * 1 ≤ 28
    simp only [List.sum_cons, List.sum_nil]
    omega
  | sub x0 x1 x2 =>
    obtain ⟨h0, h1, h2⟩ := h
    have l0 := iL_small (n := x0) (k := 1) (by decide) (by omega) (by omega)
    have l1 := iL_small (n := x1) (k := 1) (by decide) (by omega) (by omega)
    have l2 := iL_small (n := x2) (k := 1) (by decide) (by omega) (by omega)
    have w : ("sub" : Str).length = 3 := by decide +kernel
    show ([("sub" : Str).length, (toString x0 : Str).length, (toString x1 : Str).length, (toString x2 : Str).length] : List Nat).sum + 4 * 1 ≤ 28
    simp only [List.sum_cons, List.sum_nil]
    omega
  | mul x0 x1 x2 =>
    obtain ⟨h0, h1, h2⟩ := h
    have l0 := iL_small (n := x0) (k := 1) (by decide) (by omega) (by omega)
    have l1 := iL_small (n := x1) (k := 1) (by decide) (by omega) (by omega)
    have l2 := iL_small (n := x2) (k := 1) (by decide) (by omega) (by omega)
    have w : ("mul" : Str).length = 3 := by decide +kernel
    show ([("mul" : Str).length, (toString x0 : Str).length, (toString x1 : Str).length, (toString x2 : Str).length] : List Nat).sum + 4 * 1 ≤ 28
    simp only [List.sum_cons, List.sum_nil]
    omega
  | left x0 x1 =>
    obtain ⟨h0, h1⟩ := h
    have l0 := iL_small (n := x0) (k := 1) (by decide) (by omega) (by omega)
    have l1 := iL_small (n := x1) (k := 1) (by decide) (by omega) (by omega)
    have w : ("left" : Str).length = 4 := by decide +kernel
    show ([("left" : Str).length, (toString x0 : Str).length, (toString x1 : Str).length] : List Nat).sum + 3 * 1 ≤ 28
    simp only [List.sum_cons, List.sum_nil]
    omega
  | right x0 x1 =>
    obtain ⟨h0, h1⟩ := h
    have l0 := iL_small (n := x0) (k := 1) (by decide) (by omega) (by omega)
    have l1 := iL_small (n := x1) (k := 1) (by decide) (by omega) (by omega)
    have w : ("right" : Str).length = 5 := by decide +kernel
    show ([("right" : Str).length, (toString x0 : Str).length, (toString x1 : Str).length] : List Nat).sum + 3 * 1 ≤ 28
    simp only [List.sum_cons, List.sum_nil]
    omega
  | load x0 x1 =>
    obtain ⟨h0, h1⟩ := h
    have l0 := iL_small (n := x0) (k := 1) (by decide) (by omega) (by omega)
    have l1 := iL_small (n := x1) (k := 3) (by decide) (by omega) (by omega)
    have w : ("load" : Str).length = 4 := by decide +kernel
    show ([("load" : Str).length, (toString x0 : Str).length, (toString x1 : Str).length] : List Nat).sum + 3 * 1 ≤ 28
    simp only [List.sum_cons, List.sum_nil]
    omega
  | store x0 x1 =>
    obtain ⟨h0, h1⟩ := h
    have l0 := iL_small (n := x0) (k := 3) (by decide) (by omega) (by omega)
    have l1 := iL_small (n := x1) (k := 1) (by decide) (by omega) (by omega)
    have w : ("store" : Str).length = 5 := by decide +kernel
    show ([("store" : Str).length, (toString x0 : Str).length, (toString x1 : Str).length] : List Nat).sum + 3 * 1 ≤ 28
    simp only [List.sum_cons, List.sum_nil]
    omega
  | skip x0 x1 x2 x3 =>
    obtain ⟨h0, ⟨h1, h2, _⟩, ⟨h3, h4⟩, h5, h6⟩ := h
    have l0 := iL_small (n := x0) (k := 1) (by decide) (by omega) (by omega)
    have l1 := iL_small (n := x1) (k := 2) (by decide) (by omega) (by omega)
    have l2 := iL_small (n := x2) (k := 2) (by decide) (by omega) (by omega)
    have l3 := iL_small (n := x3) (k := 4) (by decide) (by omega) (by omega)
    have w : ("skip" : Str).length = 4 := by decide +kernel
    show ([("skip" : Str).length, (toString x0 : Str).length, (toString x1 : Str).length, (toString x2 : Str).length, (toString x3 : Str).length] : List Nat).sum + 5 * 1 ≤ 28
    simp only [List.sum_cons, List.sum_nil]
    omega
theorem row_tx {r : Row} (h : r.Ok) : Tx 28 r.t := ⟨row_short h, row_asc r⟩
end PD
set_option Elab.async false
set_option linter.all false
set_option autoImplicit false
set_option maxRecDepth 100000
set_option maxHeartbeats 4000000
namespace PD
open PySem PySem.Spec PyProof.Rows L2
open SX (S S_len)
/-! ### rows of any items -/
abbrev Wd (n : Int) : Prop := -73786976294838206464 < n ∧ n < 73786976294838206464
/-- an item of a row -/
inductive It : D → Prop
  | int (n : Int) : Wd n → It (.int n)
  | bl : It (.bl true)
  | non : It .non
  | str (z : Str) : Tx 20 z → It (.str z)
  | nil : It (.tup [])
/-- what stands in the place of a row -/
inductive Rw : D → Prop
  | tup (xs : List D) : (∀ x ∈ xs, It x) → xs.length ≤ 9 → Rw (.tup xs)
  | lst (xs : List D) : (∀ x ∈ xs, It x) → xs.length ≤ 9 → Rw (.lst xs)
  | str (z : Str) : Tx 300 z → Rw (.str z)
  | non : Rw .non
  | bl : Rw (.bl true)
  | int (n : Int) : Wd n → Rw (.int n)
/-- items and rows behind k changes -/
def Bd (k : Nat) (d : D) : Prop := ∀ n, d = .int n → -(18446744073709551616 + (k : Int)) ≤ n ∧ n ≤ 18446744073709551616 + (k : Int)
def ItK (k : Nat) (d : D) : Prop := It d ∧ Bd k d
def RwK (k : Nat) (d : D) : Prop := Rw d ∧ ∀ xs, d = .tup xs → xs.length ≤ 5 + k ∧ ∀ x ∈ xs, ItK k x
theorem ItK.mono {k j : Nat} {d : D} (h : ItK k d) (hj : k ≤ j) : ItK j d := ⟨h.1, fun n e => by have := h.2 n e; omega⟩
theorem RwK.mono {k j : Nat} {d : D} (h : RwK k d) (hj : k ≤ j) : RwK j d := ⟨h.1, fun xs e => ⟨by have := (h.2 xs e).1; omega, fun x hx => ((h.2 xs e).2 x hx).mono hj⟩⟩
theorem itk_int {k : Nat} {n : Int} (hk : k ≤ 10) (h : -(18446744073709551616 + (k : Int)) ≤ n ∧ n ≤ 18446744073709551616 + (k : Int)) : ItK k (.int n) := ⟨.int n ⟨by omega, by omega⟩, fun m e => by cases e; exact h⟩
theorem rwk_tup {k : Nat} {xs : List D} (hk : k ≤ 4) (hl : xs.length ≤ 5 + k) (h : ∀ x ∈ xs, ItK k x) : RwK k (.tup xs) := ⟨.tup xs (fun x hx => (h x hx).1) (by omega), fun ys e => by cases e; exact ⟨hl, h⟩⟩
theorem rwk_it {k : Nat} {x : D} (h : ItK k x) : RwK k x := by
  obtain ⟨h1, h2⟩ := h
  cases h1 with
  | int n hn => exact ⟨.int n hn, fun xs e => by cases e⟩
  | bl => exact ⟨.bl, fun xs e => by cases e⟩
  | non => exact ⟨.non, fun xs e => by cases e⟩
  | str z hz => exact ⟨.str z (hz.mono (by decide)), fun xs e => by cases e⟩
  | nil => exact ⟨.tup [] (fun x hx => by cases hx) (by simp), fun xs e => by cases e; exact ⟨by simp, fun x hx => by cases hx⟩⟩
def isW : D → Bool
  | .int _ => true
  | _ => false
def withinB (f : Str) (n : Int) : Bool :=
  if f = "register" then decide (0 ≤ n ∧ n < 8) else if f = "slot" then decide (0 ≤ n ∧ n < 1000) else if f = "number" then decide (-18446744073709551616 < n ∧ n < 18446744073709551616)
  else if f = "modulus" then decide (0 < n ∧ n ≤ 64 ∧ 64 % n = 0) else if f = "rest" then decide (0 ≤ n ∧ n < 64) else decide (0 ≤ n ∧ n ≤ 1000)
def fitI (f : Str) : D → Bool
  | .int n => withinB f n
  | _ => false
/-- rest below modulus -/
def restB : List D → Bool
  | [_, .int m, .int c, _] => decide (c < m)
  | _ => false
def fitsD : D → Bool
  | .tup (.str w :: items) => (match keys.lookup w with
    | some fs => decide (items.length = fs.length) && ((List.zipWith fitI fs items).all id && (decide (w ≠ "skip") || restB items))
    | none => false)
  | _ => false
/-- the number of rows that a skip skips -/
def skipN : D → Int
  | .tup [.str w, _, _, _, .int n] => if w = "skip" then n else -1
  | _ => -1
def isSkip : D → Bool
  | .tup (.str w :: _) => decide (w = "skip")
  | _ => false
/-- what the law asks of an item -/
def fitL (f : Str) (row : List D) (x : D) : Bool := if f = "rest" then (match x, row with | .int c, _ :: _ :: .int m :: _ => decide (0 ≤ c ∧ c < m) | _, _ => false) else fitI f x
end PD
set_option Elab.async false
set_option linter.all false
set_option autoImplicit false
set_option maxRecDepth 100000
set_option maxHeartbeats 4000000
namespace PD
open PySem PySem.Spec PyProof.Rows L2
open SX (S S_len)
variable {μ : Mu} {Q : QD} {Xd : XD → Mu → Prop}
theorem is_integer_any {x : D} (h : It x) (hq : Q (.bl (isW x)) μ) : F_is_integer [x] μ Q Xd := by
  rw [F_is_integer_eq]; unfold fnD T_is_integer
  cases h
  all_goals
    (conv => whnf); repeat ((first | refine dIf_t (by first | rfl | decide +kernel) ?_ | refine dIf_f (by first | rfl | decide +kernel) ?_ | refine And.intro (by first | rfl | exact Nat.le_of_ble_eq_true rfl | decide +kernel) ?_ | refine dIf_t (decide_eq_true (by omega)) ?_ | refine dIf_f (decide_eq_false (by omega)) ?_ | refine And.intro (by omega) ?_); (conv => whnf))
    rw [Mu.inter_self]
    exact hq
theorem is_whole_any {x : D} (h : It x) (hq : Q (.bl (isW x)) μ) : F_law_is_whole [x] μ Q Xd := by
  rw [F_law_is_whole_eq]; unfold fnD T_law_is_whole
  cases h
  all_goals
    (conv => whnf); repeat ((first | refine dIf_t (by first | rfl | decide +kernel) ?_ | refine dIf_f (by first | rfl | decide +kernel) ?_ | refine And.intro (by first | rfl | exact Nat.le_of_ble_eq_true rfl | decide +kernel) ?_ | refine dIf_t (decide_eq_true (by omega)) ?_ | refine dIf_f (decide_eq_false (by omega)) ?_ | refine And.intro (by omega) ?_); (conv => whnf))
    rw [Mu.inter_self]
    exact hq
theorem shl64 : CShl 1 64 := by
  unfold CShl
  decide
theorem two64 : (1 : Int) * 2 ^ (64 : Int).toNat = 18446744073709551616 := by decide
theorem is_modulus_any {m : Int} (hq : Q (.bl (decide (0 < m ∧ m ≤ 64 ∧ 64 % m = 0))) μ) : F_is_modulus [.int m] μ Q Xd := by
  rw [F_is_modulus_eq]; unfold fnD T_is_modulus
  by_cases h2 : 0 < m
  · by_cases h3 : m ≤ 64
    · (conv => whnf); repeat ((first | refine dIf_t (by first | rfl | decide +kernel) ?_ | refine dIf_f (by first | rfl | decide +kernel) ?_ | refine And.intro (by first | rfl | exact Nat.le_of_ble_eq_true rfl | decide +kernel) ?_ | refine dIf_t (decide_eq_true (by omega)) ?_ | refine dIf_f (decide_eq_false (by omega)) ?_ | refine And.intro (by omega) ?_); (conv => whnf))
      show Q (.bl (decide (64 % m = 0))) _
      rw [Mu.inter_self, show decide (64 % m = 0) = decide (0 < m ∧ m ≤ 64 ∧ 64 % m = 0) from decide_eq_decide.mpr ⟨fun z => ⟨h2, h3, z⟩, fun z => z.2.2⟩]
      exact hq
    · rw [decide_eq_false fun z => h3 z.2.1] at hq
      (conv => whnf); repeat ((first | refine dIf_t (by first | rfl | decide +kernel) ?_ | refine dIf_f (by first | rfl | decide +kernel) ?_ | refine And.intro (by first | rfl | exact Nat.le_of_ble_eq_true rfl | decide +kernel) ?_ | refine dIf_t (decide_eq_true (by omega)) ?_ | refine dIf_f (decide_eq_false (by omega)) ?_ | refine And.intro (by omega) ?_); (conv => whnf))
      rw [Mu.inter_self]
      exact hq
  · rw [decide_eq_false fun z => h2 z.1] at hq
    (conv => whnf); repeat ((first | refine dIf_t (by first | rfl | decide +kernel) ?_ | refine dIf_f (by first | rfl | decide +kernel) ?_ | refine And.intro (by first | rfl | exact Nat.le_of_ble_eq_true rfl | decide +kernel) ?_ | refine dIf_t (decide_eq_true (by omega)) ?_ | refine dIf_f (decide_eq_false (by omega)) ?_ | refine And.intro (by omega) ?_); (conv => whnf))
    rw [Mu.inter_self]
    exact hq
theorem within_register_any {n : Int} (hq : Q (.bl (decide (0 ≤ n ∧ n < 8))) μ) : F_is_within [.str "register", .int n] μ Q Xd := by
  rw [F_is_within_eq]; unfold fnD T_is_within
  by_cases h0 : 0 ≤ n
  · (conv => whnf); repeat ((first | refine dIf_t (by first | rfl | decide +kernel) ?_ | refine dIf_f (by first | rfl | decide +kernel) ?_ | refine And.intro (by first | rfl | exact Nat.le_of_ble_eq_true rfl | decide +kernel) ?_ | refine dIf_t (decide_eq_true (by omega)) ?_ | refine dIf_f (decide_eq_false (by omega)) ?_ | refine And.intro (by omega) ?_); (conv => whnf))
    show Q (.bl (decide (n < 8))) _
    rw [Mu.inter_self, show decide (n < 8) = decide (0 ≤ n ∧ n < 8) from decide_eq_decide.mpr ⟨fun z => ⟨h0, z⟩, fun z => z.2⟩]
    exact hq
  · rw [decide_eq_false fun z => h0 z.1] at hq
    (conv => whnf); repeat ((first | refine dIf_t (by first | rfl | decide +kernel) ?_ | refine dIf_f (by first | rfl | decide +kernel) ?_ | refine And.intro (by first | rfl | exact Nat.le_of_ble_eq_true rfl | decide +kernel) ?_ | refine dIf_t (decide_eq_true (by omega)) ?_ | refine dIf_f (decide_eq_false (by omega)) ?_ | refine And.intro (by omega) ?_); (conv => whnf))
    rw [Mu.inter_self]
    exact hq
theorem within_slot_any {n : Int} (hq : Q (.bl (decide (0 ≤ n ∧ n < 1000))) μ) : F_is_within [.str "slot", .int n] μ Q Xd := by
  rw [F_is_within_eq]; unfold fnD T_is_within
  by_cases h0 : 0 ≤ n
  · (conv => whnf); repeat ((first | refine dIf_t (by first | rfl | decide +kernel) ?_ | refine dIf_f (by first | rfl | decide +kernel) ?_ | refine And.intro (by first | rfl | exact Nat.le_of_ble_eq_true rfl | decide +kernel) ?_ | refine dIf_t (decide_eq_true (by omega)) ?_ | refine dIf_f (decide_eq_false (by omega)) ?_ | refine And.intro (by omega) ?_); (conv => whnf))
    show Q (.bl (decide (n < 1000))) _
    rw [Mu.inter_self, show decide (n < 1000) = decide (0 ≤ n ∧ n < 1000) from decide_eq_decide.mpr ⟨fun z => ⟨h0, z⟩, fun z => z.2⟩]
    exact hq
  · rw [decide_eq_false fun z => h0 z.1] at hq
    (conv => whnf); repeat ((first | refine dIf_t (by first | rfl | decide +kernel) ?_ | refine dIf_f (by first | rfl | decide +kernel) ?_ | refine And.intro (by first | rfl | exact Nat.le_of_ble_eq_true rfl | decide +kernel) ?_ | refine dIf_t (decide_eq_true (by omega)) ?_ | refine dIf_f (decide_eq_false (by omega)) ?_ | refine And.intro (by omega) ?_); (conv => whnf))
    rw [Mu.inter_self]
    exact hq
theorem within_rest_any {n : Int} (hq : Q (.bl (decide (0 ≤ n ∧ n < 64))) μ) : F_is_within [.str "rest", .int n] μ Q Xd := by
  rw [F_is_within_eq]; unfold fnD T_is_within
  by_cases h0 : 0 ≤ n
  · (conv => whnf); repeat ((first | refine dIf_t (by first | rfl | decide +kernel) ?_ | refine dIf_f (by first | rfl | decide +kernel) ?_ | refine And.intro (by first | rfl | exact Nat.le_of_ble_eq_true rfl | decide +kernel) ?_ | refine dIf_t (decide_eq_true (by omega)) ?_ | refine dIf_f (decide_eq_false (by omega)) ?_ | refine And.intro (by omega) ?_); (conv => whnf))
    show Q (.bl (decide (n < 64))) _
    rw [Mu.inter_self, show decide (n < 64) = decide (0 ≤ n ∧ n < 64) from decide_eq_decide.mpr ⟨fun z => ⟨h0, z⟩, fun z => z.2⟩]
    exact hq
  · rw [decide_eq_false fun z => h0 z.1] at hq
    (conv => whnf); repeat ((first | refine dIf_t (by first | rfl | decide +kernel) ?_ | refine dIf_f (by first | rfl | decide +kernel) ?_ | refine And.intro (by first | rfl | exact Nat.le_of_ble_eq_true rfl | decide +kernel) ?_ | refine dIf_t (decide_eq_true (by omega)) ?_ | refine dIf_f (decide_eq_false (by omega)) ?_ | refine And.intro (by omega) ?_); (conv => whnf))
    rw [Mu.inter_self]
    exact hq
theorem within_count_any {n : Int} (hq : Q (.bl (decide (0 ≤ n ∧ n ≤ 1000))) μ) : F_is_within [.str "count", .int n] μ Q Xd := by
  rw [F_is_within_eq]; unfold fnD T_is_within
  by_cases h0 : 0 ≤ n
  · (conv => whnf); repeat ((first | refine dIf_t (by first | rfl | decide +kernel) ?_ | refine dIf_f (by first | rfl | decide +kernel) ?_ | refine And.intro (by first | rfl | exact Nat.le_of_ble_eq_true rfl | decide +kernel) ?_ | refine dIf_t (decide_eq_true (by omega)) ?_ | refine dIf_f (decide_eq_false (by omega)) ?_ | refine And.intro (by omega) ?_); (conv => whnf))
    show Q (.bl (decide (n ≤ 1000))) _
    rw [Mu.inter_self, show decide (n ≤ 1000) = decide (0 ≤ n ∧ n ≤ 1000) from decide_eq_decide.mpr ⟨fun z => ⟨h0, z⟩, fun z => z.2⟩]
    exact hq
  · rw [decide_eq_false fun z => h0 z.1] at hq
    (conv => whnf); repeat ((first | refine dIf_t (by first | rfl | decide +kernel) ?_ | refine dIf_f (by first | rfl | decide +kernel) ?_ | refine And.intro (by first | rfl | exact Nat.le_of_ble_eq_true rfl | decide +kernel) ?_ | refine dIf_t (decide_eq_true (by omega)) ?_ | refine dIf_f (decide_eq_false (by omega)) ?_ | refine And.intro (by omega) ?_); (conv => whnf))
    rw [Mu.inter_self]
    exact hq
theorem within_number_any {n : Int} (hq : Q (.bl (decide (-18446744073709551616 < n ∧ n < 18446744073709551616))) μ) : F_is_within [.str "number", .int n] μ Q Xd := by
  rw [F_is_within_eq]; unfold fnD T_is_within
  by_cases h0 : -18446744073709551616 < n
  · (conv => whnf); repeat ((first | refine dIf_t (by first | rfl | decide +kernel) ?_ | refine dIf_f (by first | rfl | decide +kernel) ?_ | refine And.intro (by first | rfl | exact Nat.le_of_ble_eq_true rfl | decide +kernel) ?_ | refine dIf_t (decide_eq_true (by omega)) ?_ | refine dIf_f (decide_eq_false (by omega)) ?_ | refine And.intro (by omega) ?_); (conv => whnf))
    show Q (.bl (decide (n < 18446744073709551616))) _
    rw [Mu.inter_self, show decide (n < 18446744073709551616) = decide (-18446744073709551616 < n ∧ n < 18446744073709551616) from decide_eq_decide.mpr ⟨fun z => ⟨h0, z⟩, fun z => z.2⟩]
    exact hq
  · rw [decide_eq_false fun z => h0 z.1] at hq
    (conv => whnf); repeat ((first | refine dIf_t (by first | rfl | decide +kernel) ?_ | refine dIf_f (by first | rfl | decide +kernel) ?_ | refine And.intro (by first | rfl | exact Nat.le_of_ble_eq_true rfl | decide +kernel) ?_ | refine dIf_t (decide_eq_true (by omega)) ?_ | refine dIf_f (decide_eq_false (by omega)) ?_ | refine And.intro (by omega) ?_); (conv => whnf))
    rw [Mu.inter_self]
    exact hq
theorem within_modulus_any {n : Int} (hq : Q (.bl (decide (0 < n ∧ n ≤ 64 ∧ 64 % n = 0))) μ) : F_is_within [.str "modulus", .int n] μ Q Xd := by
  rw [F_is_within_eq]; unfold fnD T_is_within
  (conv => whnf); repeat ((first | refine dIf_t (by first | rfl | decide +kernel) ?_ | refine dIf_f (by first | rfl | decide +kernel) ?_ | refine And.intro (by first | rfl | exact Nat.le_of_ble_eq_true rfl | decide +kernel) ?_ | refine dIf_t (decide_eq_true (by omega)) ?_ | refine dIf_f (decide_eq_false (by omega)) ?_ | refine And.intro (by omega) ?_); (conv => whnf))
  refine is_modulus_any ?_
  show Q _ _
  rw [Mu.inter_self]
  exact hq
def sixF : List Str := ["register", "slot", "number", "modulus", "rest", "count"]
theorem is_within_any {f : Str} {n : Int} (hf : f ∈ sixF) (hq : Q (.bl (withinB f n)) μ) : F_is_within [.str f, .int n] μ Q Xd := by
  simp only [sixF, List.mem_cons, List.not_mem_nil, or_false] at hf
  rcases hf with rfl | rfl | rfl | rfl | rfl | rfl
  · exact within_register_any hq
  · exact within_slot_any hq
  · exact within_number_any hq
  · exact within_modulus_any hq
  · exact within_rest_any hq
  · exact within_count_any hq
theorem keys_six {w : Str} {fs : List Str} (h : keys.lookup w = some fs) : ∀ f ∈ fs, f ∈ sixF := by
  have hm := key_mem keys h
  have all : ∀ p ∈ keys, ∀ f ∈ p.2, f ∈ sixF := by decide +kernel
  exact all _ hm
theorem item_register {n : Int} {row : D} (hn : Wd n) (hq : Q (.bl (decide (0 ≤ n ∧ n < 8))) μ) : F_law_item_fits [.str "R", .int n, row] μ Q Xd := by
  rw [F_law_item_fits_eq]; unfold fnD T_law_item_fits
  by_cases h0 : 0 ≤ n
  · (conv => whnf); repeat ((first | (first | refine dIf_t (by first | rfl | decide +kernel) ?_ | refine dIf_f (by first | rfl | decide +kernel) ?_ | refine And.intro (by first | rfl | exact Nat.le_of_ble_eq_true rfl | decide +kernel) ?_ | refine dIf_t (decide_eq_true (by omega)) ?_ | refine dIf_f (decide_eq_false (by omega)) ?_ | refine And.intro (by omega) ?_) | refine is_whole_any (.int n hn) ?_); (conv => whnf))
    show Q (.bl (decide (n ≤ 7))) _
    rw [Mu.inter_self, show decide (n ≤ 7) = decide (0 ≤ n ∧ n < 8) from decide_eq_decide.mpr ⟨fun z => ⟨h0, by omega⟩, fun z => by omega⟩]
    exact hq
  · rw [decide_eq_false fun z => h0 z.1] at hq
    (conv => whnf); repeat ((first | (first | refine dIf_t (by first | rfl | decide +kernel) ?_ | refine dIf_f (by first | rfl | decide +kernel) ?_ | refine And.intro (by first | rfl | exact Nat.le_of_ble_eq_true rfl | decide +kernel) ?_ | refine dIf_t (decide_eq_true (by omega)) ?_ | refine dIf_f (decide_eq_false (by omega)) ?_ | refine And.intro (by omega) ?_) | refine is_whole_any (.int n hn) ?_); (conv => whnf))
    rw [Mu.inter_self]
    exact hq
theorem item_slot {n : Int} {row : D} (hn : Wd n) (hq : Q (.bl (decide (0 ≤ n ∧ n < 1000))) μ) : F_law_item_fits [.str "S", .int n, row] μ Q Xd := by
  rw [F_law_item_fits_eq]; unfold fnD T_law_item_fits
  by_cases h0 : 0 ≤ n
  · (conv => whnf); repeat ((first | (first | refine dIf_t (by first | rfl | decide +kernel) ?_ | refine dIf_f (by first | rfl | decide +kernel) ?_ | refine And.intro (by first | rfl | exact Nat.le_of_ble_eq_true rfl | decide +kernel) ?_ | refine dIf_t (decide_eq_true (by omega)) ?_ | refine dIf_f (decide_eq_false (by omega)) ?_ | refine And.intro (by omega) ?_) | refine is_whole_any (.int n hn) ?_); (conv => whnf))
    show Q (.bl (decide (n ≤ 999))) _
    rw [Mu.inter_self, show decide (n ≤ 999) = decide (0 ≤ n ∧ n < 1000) from decide_eq_decide.mpr ⟨fun z => ⟨h0, by omega⟩, fun z => by omega⟩]
    exact hq
  · rw [decide_eq_false fun z => h0 z.1] at hq
    (conv => whnf); repeat ((first | (first | refine dIf_t (by first | rfl | decide +kernel) ?_ | refine dIf_f (by first | rfl | decide +kernel) ?_ | refine And.intro (by first | rfl | exact Nat.le_of_ble_eq_true rfl | decide +kernel) ?_ | refine dIf_t (decide_eq_true (by omega)) ?_ | refine dIf_f (decide_eq_false (by omega)) ?_ | refine And.intro (by omega) ?_) | refine is_whole_any (.int n hn) ?_); (conv => whnf))
    rw [Mu.inter_self]
    exact hq
theorem item_count {n : Int} {row : D} (hn : Wd n) (hq : Q (.bl (decide (0 ≤ n ∧ n ≤ 1000))) μ) : F_law_item_fits [.str "K", .int n, row] μ Q Xd := by
  rw [F_law_item_fits_eq]; unfold fnD T_law_item_fits
  by_cases h0 : 0 ≤ n
  · (conv => whnf); repeat ((first | (first | refine dIf_t (by first | rfl | decide +kernel) ?_ | refine dIf_f (by first | rfl | decide +kernel) ?_ | refine And.intro (by first | rfl | exact Nat.le_of_ble_eq_true rfl | decide +kernel) ?_ | refine dIf_t (decide_eq_true (by omega)) ?_ | refine dIf_f (decide_eq_false (by omega)) ?_ | refine And.intro (by omega) ?_) | refine is_whole_any (.int n hn) ?_); (conv => whnf))
    show Q (.bl (decide (n ≤ 1000))) _
    rw [Mu.inter_self, show decide (n ≤ 1000) = decide (0 ≤ n ∧ n ≤ 1000) from decide_eq_decide.mpr ⟨fun z => ⟨h0, by omega⟩, fun z => by omega⟩]
    exact hq
  · rw [decide_eq_false fun z => h0 z.1] at hq
    (conv => whnf); repeat ((first | (first | refine dIf_t (by first | rfl | decide +kernel) ?_ | refine dIf_f (by first | rfl | decide +kernel) ?_ | refine And.intro (by first | rfl | exact Nat.le_of_ble_eq_true rfl | decide +kernel) ?_ | refine dIf_t (decide_eq_true (by omega)) ?_ | refine dIf_f (decide_eq_false (by omega)) ?_ | refine And.intro (by omega) ?_) | refine is_whole_any (.int n hn) ?_); (conv => whnf))
    rw [Mu.inter_self]
    exact hq
theorem item_number {n : Int} {row : D} (hn : Wd n) (hq : Q (.bl (decide (-18446744073709551616 < n ∧ n < 18446744073709551616))) μ) : F_law_item_fits [.str "N", .int n, row] μ Q Xd := by
  rw [F_law_item_fits_eq]; unfold fnD T_law_item_fits
  (conv => whnf); repeat ((first | (first | refine dIf_t (by first | rfl | decide +kernel) ?_ | refine dIf_f (by first | rfl | decide +kernel) ?_ | refine And.intro (by first | rfl | exact Nat.le_of_ble_eq_true rfl | decide +kernel) ?_ | refine dIf_t (decide_eq_true (by omega)) ?_ | refine dIf_f (decide_eq_false (by omega)) ?_ | refine And.intro (by omega) ?_) | refine is_whole_any (.int n hn) ?_); (conv => whnf))
  refine ⟨shl64, ?_⟩
  (conv => whnf)
  rw [two64]
  by_cases c1 : -18446744073709551616 < n
  · refine dIf_t (decide_eq_true c1) ?_
    (conv => whnf)
    refine ⟨shl64, ?_⟩
    show Q (.bl (decide (n < 1 * 2 ^ (64 : Int).toNat))) _
    rw [two64, Mu.inter_self, show decide (n < 18446744073709551616) = decide (-18446744073709551616 < n ∧ n < 18446744073709551616) from decide_eq_decide.mpr ⟨fun z => ⟨c1, z⟩, fun z => z.2⟩]
    exact hq
  · rw [decide_eq_false fun z => c1 z.1] at hq
    refine dIf_f (decide_eq_false c1) ?_
    show Q _ _
    rw [Mu.inter_self]
    exact hq
theorem item_modulus {n : Int} {row : D} (hn : Wd n) (hq : Q (.bl (decide (0 < n ∧ n ≤ 64 ∧ 64 % n = 0))) μ) : F_law_item_fits [.str "M", .int n, row] μ Q Xd := by
  rw [F_law_item_fits_eq]; unfold fnD T_law_item_fits
  (conv => whnf); repeat ((first | (first | refine dIf_t (by first | rfl | decide +kernel) ?_ | refine dIf_f (by first | rfl | decide +kernel) ?_ | refine And.intro (by first | rfl | exact Nat.le_of_ble_eq_true rfl | decide +kernel) ?_ | refine dIf_t (decide_eq_true (by omega)) ?_ | refine dIf_f (decide_eq_false (by omega)) ?_ | refine And.intro (by omega) ?_) | refine is_whole_any (.int n hn) ?_); (conv => whnf))
  show Q (.bl (id (inD (.int n) [.int 1, .int 2, .int 4, .int 8, .int 16, .int 32, .int 64]))) _
  rw [mod_in, id, Mu.inter_self]
  exact hq
theorem item_rest {n : Int} {a b m : D} {xs : List D} (hn : Wd n) (hm : It m) (hq : Q (.bl (fitL "rest" (a :: b :: m :: xs) (.int n))) μ) : F_law_item_fits [.str "C", .int n, .tup (a :: b :: m :: xs)] μ Q Xd := by
  have at2 : atI (a :: b :: m :: xs) 2 = some m := atI_nat (j := 2) rfl
  rw [F_law_item_fits_eq]; unfold fnD T_law_item_fits
  (conv => whnf); repeat ((first | (first | refine dIf_t (by first | rfl | decide +kernel) ?_ | refine dIf_f (by first | rfl | decide +kernel) ?_ | refine And.intro (by first | rfl | exact Nat.le_of_ble_eq_true rfl | decide +kernel) ?_ | refine dIf_t (decide_eq_true (by omega)) ?_ | refine dIf_f (decide_eq_false (by omega)) ?_ | refine And.intro (by omega) ?_) | refine is_whole_any (.int n hn) ?_); (conv => whnf))
  rw [at2]
  (conv => whnf)
  refine ⟨rfl, is_whole_any hm ?_⟩
  cases hm with
  | int k hk =>
    (conv => whnf); repeat ((first | refine dIf_t (by first | rfl | decide +kernel) ?_ | refine dIf_f (by first | rfl | decide +kernel) ?_ | refine And.intro (by first | rfl | exact Nat.le_of_ble_eq_true rfl | decide +kernel) ?_ | refine dIf_t (decide_eq_true (by omega)) ?_ | refine dIf_f (decide_eq_false (by omega)) ?_ | refine And.intro (by omega) ?_); (conv => whnf))
    by_cases c1 : 0 ≤ n
    · refine dIf_t (decide_eq_true c1) ?_
      (conv => whnf)
      rw [at2]
      show Q (.bl (decide (n < k))) _
      have e : decide (n < k) = fitL "rest" (a :: b :: .int k :: xs) (.int n) := decide_eq_decide.mpr ⟨fun z => ⟨c1, z⟩, fun z => z.2⟩
      rw [Mu.inter_self, e]
      exact hq
    · refine dIf_f (decide_eq_false c1) ?_
      have e : fitL "rest" (a :: b :: .int k :: xs) (.int n) = false := decide_eq_false fun z => c1 z.1
      rw [e] at hq
      show Q _ _
      rw [Mu.inter_self]
      exact hq
  | _ =>
    (conv => whnf); repeat ((first | refine dIf_t (by first | rfl | decide +kernel) ?_ | refine dIf_f (by first | rfl | decide +kernel) ?_ | refine And.intro (by first | rfl | exact Nat.le_of_ble_eq_true rfl | decide +kernel) ?_ | refine dIf_t (decide_eq_true (by omega)) ?_ | refine dIf_f (decide_eq_false (by omega)) ?_ | refine And.intro (by omega) ?_); (conv => whnf))
    show Q (.bl false) _
    rw [Mu.inter_self]
    exact hq
theorem item_not {l : Str} {x row : D} (hx : It x) (hw : isW x = false) (hq : Q (.bl false) μ) : F_law_item_fits [.str l, x, row] μ Q Xd := by
  rw [F_law_item_fits_eq]; unfold fnD T_law_item_fits
  cases hx with
  | int n hn => cases hw
  | bl =>
    (conv => whnf); repeat ((first | (first | refine dIf_t (by first | rfl | decide +kernel) ?_ | refine dIf_f (by first | rfl | decide +kernel) ?_ | refine And.intro (by first | rfl | exact Nat.le_of_ble_eq_true rfl | decide +kernel) ?_ | refine dIf_t (decide_eq_true (by omega)) ?_ | refine dIf_f (decide_eq_false (by omega)) ?_ | refine And.intro (by omega) ?_) | refine is_whole_any .bl ?_); (conv => whnf))
    rw [Mu.inter_self]
    exact hq
  | non =>
    (conv => whnf); repeat ((first | (first | refine dIf_t (by first | rfl | decide +kernel) ?_ | refine dIf_f (by first | rfl | decide +kernel) ?_ | refine And.intro (by first | rfl | exact Nat.le_of_ble_eq_true rfl | decide +kernel) ?_ | refine dIf_t (decide_eq_true (by omega)) ?_ | refine dIf_f (decide_eq_false (by omega)) ?_ | refine And.intro (by omega) ?_) | refine is_whole_any .non ?_); (conv => whnf))
    rw [Mu.inter_self]
    exact hq
  | str z hz =>
    (conv => whnf); repeat ((first | (first | refine dIf_t (by first | rfl | decide +kernel) ?_ | refine dIf_f (by first | rfl | decide +kernel) ?_ | refine And.intro (by first | rfl | exact Nat.le_of_ble_eq_true rfl | decide +kernel) ?_ | refine dIf_t (decide_eq_true (by omega)) ?_ | refine dIf_f (decide_eq_false (by omega)) ?_ | refine And.intro (by omega) ?_) | refine is_whole_any (.str z hz) ?_); (conv => whnf))
    rw [Mu.inter_self]
    exact hq
  | nil =>
    (conv => whnf); repeat ((first | (first | refine dIf_t (by first | rfl | decide +kernel) ?_ | refine dIf_f (by first | rfl | decide +kernel) ?_ | refine And.intro (by first | rfl | exact Nat.le_of_ble_eq_true rfl | decide +kernel) ?_ | refine dIf_t (decide_eq_true (by omega)) ?_ | refine dIf_f (decide_eq_false (by omega)) ?_ | refine And.intro (by omega) ?_) | refine is_whole_any .nil ?_); (conv => whnf))
    rw [Mu.inter_self]
    exact hq
def letter (f : Str) : Nat := if f = "register" then 82 else if f = "slot" then 83 else if f = "number" then 78 else if f = "modulus" then 77 else if f = "rest" then 67 else 75
theorem fitL_not {f : Str} {row : List D} {x : D} (hx : It x) (hw : isW x = false) : fitL f row x = false := by
  cases hx with
  | int n hn => cases hw
  | _ =>
    unfold fitL
    split
    · rfl
    · rfl
theorem item_fits_any {f : Str} {x : D} {row : List D} (hf : f ∈ sixF) (hx : It x) (hr : f = "rest" → ∃ a b m xs, row = a :: b :: m :: xs ∧ It m) (hq : Q (.bl (fitL f row x)) μ) : F_law_item_fits [.str (S [letter f]), x, .tup row] μ Q Xd := by
  cases hw : isW x with
  | false =>
    rw [fitL_not hx hw] at hq
    exact item_not hx hw hq
  | true =>
    cases hx with
    | int n hn =>
      simp only [sixF, List.mem_cons, List.not_mem_nil, or_false] at hf
      rcases hf with rfl | rfl | rfl | rfl | rfl | rfl
      · exact item_register hn hq
      · exact item_slot hn hq
      · exact item_number hn hq
      · exact item_modulus hn hq
      · obtain ⟨a, b, m, xs, rfl, hm⟩ := hr rfl
        exact item_rest hn hm hq
      · exact item_count hn hq
    | bl => cases hw
    | non => cases hw
    | str _ _ => cases hw
    | nil => cases hw
end PD
set_option Elab.async false
set_option linter.all false
set_option autoImplicit false
set_option maxRecDepth 100000
set_option maxHeartbeats 4000000
namespace PD
open PySem PySem.Spec PyProof.Rows L2
open SX (S S_len)
variable {μ : Mu} {Q : QD} {Xd : XD → Mu → Prop}
theorem at_hd {x : D} {xs : List D} : atI (x :: xs) 0 = some x := atI_nat (j := 0) rfl
theorem cutD_tl {x : D} {xs : List D} : cutD (x :: xs) (some 1) none = xs := by
  unfold cutD HT.sIx
  simp
theorem formsG_eq : g_FORMS = .dct (keys.map fun p => (p.1, .tup (p.2.map D.str))) := rfl
theorem skip_items {fs : List Str} {items : List D} (hk : keys.lookup ("skip" : Str) = some fs) (hl : items.length = fs.length) (hw : (List.zipWith fitI fs items).all id = true) : ∃ a m c n, items = [.int a, .int m, .int c, .int n] := by
  have e : fs = [("register" : Str), "modulus", "rest", "count"] := Option.some.inj (hk.symm.trans (by decide +kernel : keys.lookup ("skip" : Str) = some [("register" : Str), "modulus", "rest", "count"]))
  subst e
  match items, hl with
  | [x0, x1, x2, x3], _ =>
    simp only [List.zipWith_cons_cons, List.zipWith_nil_right, List.all_cons, List.all_nil, id, Bool.and_true, Bool.and_eq_true] at hw
    obtain ⟨h0, h1, h2, h3⟩ := hw
    have key : ∀ {f : Str} {x : D}, fitI f x = true → ∃ n, x = .int n := fun {f x} h => by
      cases x with
      | int n => exact ⟨n, rfl⟩
      | _ => cases h
    obtain ⟨a, rfl⟩ := key h0
    obtain ⟨m, rfl⟩ := key h1
    obtain ⟨c, rfl⟩ := key h2
    obtain ⟨n, rfl⟩ := key h3
    exact ⟨a, m, c, n, rfl⟩
theorem is_row_gen {d : D} (h : Rw d) (hq : Q (.bl (fitsD d)) μ) : F_is_row [d] μ Q Xd := by
  have hq' : Q (.bl (fitsD d)) (μ.inter μ) := by rw [Mu.inter_self]; exact hq
  rw [F_is_row_eq]; unfold fnD T_is_row
  rw [formsG_eq]
  have hk := look_map (fun fs : List Str => D.tup (fs.map D.str)) (l := keys)
  generalize (keys.map fun p : Str × List Str => (p.1, D.tup (p.2.map D.str))) = kvs at hk
  cases h with
  | lst xs _ _ =>
    (conv => whnf); repeat ((first | refine dIf_t (by first | rfl | decide +kernel) ?_ | refine dIf_f (by first | rfl | decide +kernel) ?_ | refine And.intro (by first | rfl | exact Nat.le_of_ble_eq_true rfl | decide +kernel) ?_ | refine dIf_t (decide_eq_true (by omega)) ?_ | refine dIf_f (decide_eq_false (by omega)) ?_ | refine And.intro (by omega) ?_); (conv => whnf))
    exact hq'
  | str z _ =>
    (conv => whnf); repeat ((first | refine dIf_t (by first | rfl | decide +kernel) ?_ | refine dIf_f (by first | rfl | decide +kernel) ?_ | refine And.intro (by first | rfl | exact Nat.le_of_ble_eq_true rfl | decide +kernel) ?_ | refine dIf_t (decide_eq_true (by omega)) ?_ | refine dIf_f (decide_eq_false (by omega)) ?_ | refine And.intro (by omega) ?_); (conv => whnf))
    exact hq'
  | non =>
    (conv => whnf); repeat ((first | refine dIf_t (by first | rfl | decide +kernel) ?_ | refine dIf_f (by first | rfl | decide +kernel) ?_ | refine And.intro (by first | rfl | exact Nat.le_of_ble_eq_true rfl | decide +kernel) ?_ | refine dIf_t (decide_eq_true (by omega)) ?_ | refine dIf_f (decide_eq_false (by omega)) ?_ | refine And.intro (by omega) ?_); (conv => whnf))
    exact hq'
  | bl =>
    (conv => whnf); repeat ((first | refine dIf_t (by first | rfl | decide +kernel) ?_ | refine dIf_f (by first | rfl | decide +kernel) ?_ | refine And.intro (by first | rfl | exact Nat.le_of_ble_eq_true rfl | decide +kernel) ?_ | refine dIf_t (decide_eq_true (by omega)) ?_ | refine dIf_f (decide_eq_false (by omega)) ?_ | refine And.intro (by omega) ?_); (conv => whnf))
    exact hq'
  | int n _ =>
    (conv => whnf); repeat ((first | refine dIf_t (by first | rfl | decide +kernel) ?_ | refine dIf_f (by first | rfl | decide +kernel) ?_ | refine And.intro (by first | rfl | exact Nat.le_of_ble_eq_true rfl | decide +kernel) ?_ | refine dIf_t (decide_eq_true (by omega)) ?_ | refine dIf_f (decide_eq_false (by omega)) ?_ | refine And.intro (by omega) ?_); (conv => whnf))
    exact hq'
  | tup xs hx hl =>
    cases xs with
    | nil =>
      (conv => whnf); repeat ((first | refine dIf_t (by first | rfl | decide +kernel) ?_ | refine dIf_f (by first | rfl | decide +kernel) ?_ | refine And.intro (by first | rfl | exact Nat.le_of_ble_eq_true rfl | decide +kernel) ?_ | refine dIf_t (decide_eq_true (by omega)) ?_ | refine dIf_f (decide_eq_false (by omega)) ?_ | refine And.intro (by omega) ?_); (conv => whnf))
      exact hq'
    | cons x items =>
      have l0 : ((x :: items).length : Int) ≠ 0 := by
        rw [List.length_cons]
        omega
      (conv => whnf); repeat ((first | refine dIf_t (by first | rfl | decide +kernel) ?_ | refine dIf_f (by first | rfl | decide +kernel) ?_ | refine And.intro (by first | rfl | exact Nat.le_of_ble_eq_true rfl | decide +kernel) ?_ | refine dIf_t (decide_eq_true (by omega)) ?_ | refine dIf_f (decide_eq_false (by omega)) ?_ | refine And.intro (by omega) ?_); (conv => whnf))
      rw [at_hd]
      (conv => whnf)
      have hx0 := hx x List.mem_cons_self
      cases hx0 with
      | int n hn =>
        (conv => whnf); repeat ((first | refine dIf_t (by first | rfl | decide +kernel) ?_ | refine dIf_f (by first | rfl | decide +kernel) ?_ | refine And.intro (by first | rfl | exact Nat.le_of_ble_eq_true rfl | decide +kernel) ?_ | refine dIf_t (decide_eq_true (by omega)) ?_ | refine dIf_f (decide_eq_false (by omega)) ?_ | refine And.intro (by omega) ?_); (conv => whnf))
        exact hq'
      | bl =>
        (conv => whnf); repeat ((first | refine dIf_t (by first | rfl | decide +kernel) ?_ | refine dIf_f (by first | rfl | decide +kernel) ?_ | refine And.intro (by first | rfl | exact Nat.le_of_ble_eq_true rfl | decide +kernel) ?_ | refine dIf_t (decide_eq_true (by omega)) ?_ | refine dIf_f (decide_eq_false (by omega)) ?_ | refine And.intro (by omega) ?_); (conv => whnf))
        exact hq'
      | non =>
        (conv => whnf); repeat ((first | refine dIf_t (by first | rfl | decide +kernel) ?_ | refine dIf_f (by first | rfl | decide +kernel) ?_ | refine And.intro (by first | rfl | exact Nat.le_of_ble_eq_true rfl | decide +kernel) ?_ | refine dIf_t (decide_eq_true (by omega)) ?_ | refine dIf_f (decide_eq_false (by omega)) ?_ | refine And.intro (by omega) ?_); (conv => whnf))
        exact hq'
      | nil =>
        (conv => whnf); repeat ((first | refine dIf_t (by first | rfl | decide +kernel) ?_ | refine dIf_f (by first | rfl | decide +kernel) ?_ | refine And.intro (by first | rfl | exact Nat.le_of_ble_eq_true rfl | decide +kernel) ?_ | refine dIf_t (decide_eq_true (by omega)) ?_ | refine dIf_f (decide_eq_false (by omega)) ?_ | refine And.intro (by omega) ?_); (conv => whnf))
        exact hq'
      | str w hw =>
        (conv => whnf); repeat ((first | refine dIf_t (by first | rfl | decide +kernel) ?_ | refine dIf_f (by first | rfl | decide +kernel) ?_ | refine And.intro (by first | rfl | exact Nat.le_of_ble_eq_true rfl | decide +kernel) ?_ | refine dIf_t (decide_eq_true (by omega)) ?_ | refine dIf_f (decide_eq_false (by omega)) ?_ | refine And.intro (by omega) ?_); (conv => whnf))
        rw [at_hd]
        (conv => whnf)
        unfold fitsD at hq'
        dsimp only at hq'
        cases hkw : keys.lookup w with
        | none =>
          rw [hkw] at hq'
          rw [hk, hkw]
          refine dIf_t rfl ?_
          exact hq'
        | some fs =>
          rw [hkw] at hq'
          dsimp only at hq'
          rw [hk, hkw]
          refine dIf_f rfl ?_
          (conv => whnf)
          rw [at_hd]
          (conv => whnf)
          rw [hk, hkw]
          (conv => whnf)
          rw [cutD_tl]
          have hi : ∀ y ∈ items, It y := fun y hy => hx y (List.mem_cons_of_mem _ hy)
          have hil : items.length ≤ 8 := by
            rw [List.length_cons] at hl
            omega
          by_cases hn : items.length = fs.length
          · rw [decide_eq_true hn, Bool.true_and] at hq'
            refine dIf_f (by rw [List.length_map, hn, decide_eq_true rfl]; rfl) ?_
            (conv => whnf)
            show forL _ _ _ _ [] (zipL (fs.map D.str) items) _ _
            refine forL_inv (fun i ρ' μ' => (∃ a b, ρ' = [some (.tup (.str w :: items)), some (.tup (fs.map D.str)), some (.tup items), a, b]) ∧ μ' = μ ∧ ((List.zipWith fitI fs items).take i).all id = true) ⟨⟨_, _, rfl⟩, rfl, rfl⟩ (fun _ _ _ _ => ck_nil) (fun i x ρ' μ' hxi hiv N hN => ?_) (fun ρ' μ' hiv => ?_)
            · obtain ⟨⟨a, b, rfl⟩, rfl, hall⟩ := hiv
              obtain ⟨f', y, hf', hy, rfl⟩ := zipL_get hxi
              rw [List.getElem?_map] at hf'
              cases hf : fs[i]? with
              | none => rw [hf] at hf'; cases hf'
              | some f =>
                rw [hf] at hf'
                cases hf'
                have six := keys_six hkw f (List.mem_of_getElem? hf)
                have iy := hi y (List.mem_of_getElem? hy)
                have hz : (List.zipWith fitI fs items)[i]? = some (fitI f y) := by rw [List.getElem?_zipWith, hf, hy]
                have bad : fitI f y = false → Q (.bl false) (μ'.inter μ') := fun e => by
                  have : (List.zipWith fitI fs items).all id = false := by
                    rw [List.all_eq_false]
                    exact ⟨_, List.mem_of_getElem? hz, by rw [e]; exact Bool.false_ne_true⟩
                  rw [this, Bool.false_and] at hq'
                  exact hq'
                have good : fitI f y = true → ∀ a b, N [some (.tup (.str w :: items)), some (.tup (fs.map D.str)), some (.tup items), a, b] μ' := fun e a b => hN _ _ ⟨⟨_, _, rfl⟩, rfl, by rw [List.take_succ, hz, List.all_append, hall, e]; rfl⟩
                (conv => whnf); repeat ((first | (first | refine dIf_t (by first | rfl | decide +kernel) ?_ | refine dIf_f (by first | rfl | decide +kernel) ?_ | refine And.intro (by first | rfl | exact Nat.le_of_ble_eq_true rfl | decide +kernel) ?_ | refine dIf_t (decide_eq_true (by omega)) ?_ | refine dIf_f (decide_eq_false (by omega)) ?_ | refine And.intro (by omega) ?_) | refine is_integer_any iy ?_); (conv => whnf))
                cases iy with
                | int n hn' =>
                  refine dIf_f rfl ?_
                  (conv => whnf)
                  refine ⟨rfl, is_within_any six ?_⟩
                  (conv => whnf)
                  cases hb : withinB f n with
                  | true => exact dIf_f rfl (good hb _ _)
                  | false => exact dIf_t rfl (bad hb)
                | bl => exact dIf_t rfl (dIf_t rfl (bad rfl))
                | non => exact dIf_t rfl (dIf_t rfl (bad rfl))
                | str _ _ => exact dIf_t rfl (dIf_t rfl (bad rfl))
                | nil => exact dIf_t rfl (dIf_t rfl (bad rfl))
            · obtain ⟨⟨a, b, rfl⟩, rfl, hall⟩ := hiv
              have e : (List.zipWith fitI fs items).take (zipL (fs.map D.str) items).length = List.zipWith fitI fs items := List.take_of_length_le (by rw [zipL_len, List.length_map, List.length_zipWith]; omega)
              rw [e] at hall
              rw [hall, Bool.true_and] at hq'
              (conv => whnf)
              rw [at_hd]
              (conv => whnf)
              by_cases hs : w = "skip"
              · subst hs
                obtain ⟨a, m, c, n, rfl⟩ := skip_items hkw hn hall
                refine dIf_f rfl ?_
                (conv => whnf); repeat ((first | refine dIf_t (by first | rfl | decide +kernel) ?_ | refine dIf_f (by first | rfl | decide +kernel) ?_ | refine And.intro (by first | rfl | exact Nat.le_of_ble_eq_true rfl | decide +kernel) ?_ | refine dIf_t (decide_eq_true (by omega)) ?_ | refine dIf_f (decide_eq_false (by omega)) ?_ | refine And.intro (by omega) ?_); (conv => whnf))
                exact hq'
              · refine dIf_t (by rw [decide_eq_false hs]; rfl) ?_
                rw [decide_eq_true hs, Bool.true_or] at hq'
                exact hq'
          · rw [decide_eq_false hn, Bool.false_and] at hq'
            refine dIf_t (by rw [List.length_map, decide_eq_false (by omega)]; rfl) ?_
            exact hq'
end PD
set_option Elab.async false
set_option linter.all false
set_option autoImplicit false
set_option maxRecDepth 100000
set_option maxHeartbeats 4000000
namespace PD
open PySem PySem.Spec PyProof.Rows L2
open SX (S S_len)
variable {μ : Mu} {Q : QD} {Xd : XD → Mu → Prop}
def lets (fs : List Str) : Str := S (fs.map letter)
def frms : List (Key × D) := keys.map fun q => ((.inr q.1 : Key), .str (lets q.2))
theorem dicOf_set {p : Addr} {kv : List (Key × D)} : dicOf (.ptr p) (μ.set p (.dic kv)) = some kv := by
  unfold dicOf
  dsimp only
  rw [Mu.set_same]
theorem pyDs_ints' (μ : Mu) (ns : List Int) : pyD μ (.lst (ns.map D.int)) = some (.list (ns.map PyData.int)) := by
  simp only [pyD, pyDs_ints]
  rfl
/-- xs == [], xs a list of numbers -/
theorem eq_nil_ints (g : Bool → Bool) {ns : List Int} (h : Q (.bl (g ns.isEmpty)) μ) : oEqG g (.lst (ns.map D.int)) (.lst []) μ Q := by
  show (match pyD μ (.lst (ns.map D.int)), pyD μ (.lst []) with | some x, some y => _ | _, _ => False)
  have e2 : pyD μ (.lst []) = some (.list []) := by
    simp only [pyD, pyDs]
    rfl
  have sh : ∀ ns : List Int, SeqAt.shaped (.list (ns.map PyData.int)) = true := fun ns => (shaped_seq (ints_lay ns) (by rw [ints_depth]; decide)).2
  rw [pyDs_ints', e2]
  refine ⟨sh ns, sh [], ?_⟩
  cases ns with
  | nil =>
    rw [show PyData.eqv (.list (([] : List Int).map PyData.int)) (.list []) = true by simp [PyData.eqv, PyData.eqvAll]]
    exact h
  | cons z zs =>
    rw [show PyData.eqv (.list ((z :: zs).map PyData.int)) (.list []) = false by simp [PyData.eqv, PyData.eqvAll]]
    exact h
/-- both readings of a row's items agree -/
theorem fits_agree {w : Str} {fs : List Str} {items : List D} (hk : keys.lookup w = some fs) (hl : items.length = fs.length) (hi : ∀ y ∈ items, It y) :
    (List.zipWith (fun f x => fitL f (.str w :: items) x) fs items).all id = ((List.zipWith fitI fs items).all id && (decide (w ≠ "skip") || restB items)) := by
  have hm := key_mem keys hk
  simp only [keys, List.mem_cons, List.not_mem_nil, or_false, Prod.mk.injEq] at hm
  have nr : ∀ {f : Str} {x : D} {row : List D}, f ≠ "rest" → fitL f row x = fitI f x := fun h => by
    unfold fitL
    rw [if_neg h]
  have two : ∀ {a b : Str}, a ≠ "rest" → b ≠ "rest" → items.length = 2 → w ≠ "skip" → (List.zipWith (fun f x => fitL f (.str w :: items) x) [a, b] items).all id = ((List.zipWith fitI [a, b] items).all id && (decide (w ≠ "skip") || restB items)) := fun {a b} ha hb h2 hw => by
    match items, h2 with
    | [x0, x1], _ => simp [nr ha, nr hb, decide_eq_true hw, hw]
  have three : items.length = 3 → w ≠ "skip" → (List.zipWith (fun f x => fitL f (.str w :: items) x) [("register" : Str), "register", "register"] items).all id = ((List.zipWith fitI [("register" : Str), "register", "register"] items).all id && (decide (w ≠ "skip") || restB items)) := fun h2 hw => by
    have hr : ("register" : Str) ≠ "rest" := by decide +kernel
    match items, h2 with
    | [x0, x1, x2], _ => simp [nr hr, decide_eq_true hw, hw]
  rcases hm with ⟨rfl, rfl⟩ | ⟨rfl, rfl⟩ | ⟨rfl, rfl⟩ | ⟨rfl, rfl⟩ | ⟨rfl, rfl⟩ | ⟨rfl, rfl⟩ | ⟨rfl, rfl⟩ | ⟨rfl, rfl⟩ | ⟨rfl, rfl⟩ | ⟨rfl, rfl⟩
  · exact two (by decide +kernel) (by decide +kernel) hl (by decide +kernel)
  · exact two (by decide +kernel) (by decide +kernel) hl (by decide +kernel)
  · exact three hl (by decide +kernel)
  · exact three hl (by decide +kernel)
  · exact three hl (by decide +kernel)
  · exact two (by decide +kernel) (by decide +kernel) hl (by decide +kernel)
  · exact two (by decide +kernel) (by decide +kernel) hl (by decide +kernel)
  · exact two (by decide +kernel) (by decide +kernel) hl (by decide +kernel)
  · exact two (by decide +kernel) (by decide +kernel) hl (by decide +kernel)
  · match items, hl with
    | [x0, x1, x2, x3], _ =>
      have h1 := hi x1 (by simp)
      have h2 := hi x2 (by simp)
      have e0 : fitL "register" (.str "skip" :: [x0, x1, x2, x3]) x0 = fitI "register" x0 := nr (by decide +kernel)
      have e1 : fitL "modulus" (.str "skip" :: [x0, x1, x2, x3]) x1 = fitI "modulus" x1 := nr (by decide +kernel)
      have e3 : fitL "count" (.str "skip" :: [x0, x1, x2, x3]) x3 = fitI "count" x3 := nr (by decide +kernel)
      have es : decide ((("skip" : Str)) ≠ "skip") = false := by decide +kernel
      show (fitL "register" (.str "skip" :: [x0, x1, x2, x3]) x0 && (fitL "modulus" (.str "skip" :: [x0, x1, x2, x3]) x1 && (fitL "rest" (.str "skip" :: [x0, x1, x2, x3]) x2 && (fitL "count" (.str "skip" :: [x0, x1, x2, x3]) x3 && true)))) = ((fitI "register" x0 && (fitI "modulus" x1 && (fitI "rest" x2 && (fitI "count" x3 && true)))) && (decide ((("skip" : Str)) ≠ "skip") || restB [x0, x1, x2, x3]))
      rw [e0, e1, e3, es, Bool.false_or, Bool.and_true]
      cases fitI "register" x0 with
      | false => rfl
      | true =>
        cases hmf : fitI "modulus" x1 with
        | false => rfl
        | true =>
          cases h1 with
          | int m hm' =>
            have hm2 : 0 < m ∧ m ≤ 64 ∧ 64 % m = 0 := of_decide_eq_true hmf
            cases h2 with
            | int c hc =>
              have r1 : fitL "rest" (.str "skip" :: [x0, .int m, .int c, x3]) (.int c) = decide (0 ≤ c ∧ c < m) := rfl
              have r2 : fitI "rest" (.int c) = decide (0 ≤ c ∧ c < 64) := rfl
              have r3 : restB [x0, .int m, .int c, x3] = decide (c < m) := rfl
              rw [r1, r2, r3]
              cases fitI "count" x3
              · simp
              · simp only [Bool.true_and, Bool.and_true]
                rw [← Bool.decide_and]
                exact decide_eq_decide.mpr ⟨fun z => ⟨⟨z.1, by omega⟩, z.2⟩, fun z => ⟨z.1.1, z.2⟩⟩
            | _ => simp [fitL, fitI]
          | _ => cases hmf
theorem rangeL_get' {lo : Int} {n i : Nat} {x : D} (h : (rangeL lo n)[i]? = some x) : i < n ∧ x = .int (lo + i) := by
  unfold rangeL at h
  rw [List.getElem?_map] at h
  by_cases hi : i < n
  · rw [List.getElem?_range hi] at h
    exact ⟨hi, (Option.some.inj h).symm⟩
  · rw [List.getElem?_eq_none (by rw [List.length_range]; omega)] at h
    cases h
theorem row_fits_gen {d : D} (h : Rw d) (hq : Q (.bl (fitsD d)) μ) : F_law_row_fits [d] μ Q Xd := by
  rw [F_law_row_fits_eq]; unfold fnD T_law_row_fits
  (conv => whnf)
  refine ⟨by decide, fun p hp => ?_⟩
  (conv => whnf)
  refine ⟨by show 3 ≤ sizeLine; decide, ?_⟩
  (conv => whnf)
  refine ⟨rfl, ?_⟩
  (conv => whnf)
  rw [Mu.set_same]
  (conv => whnf)
  refine ⟨by decide +kernel, ?_⟩
  (conv => whnf)
  rw [Mu.set_set, Mu.set_same]
  (conv => whnf)
  refine ⟨by decide +kernel, ?_⟩
  (conv => whnf)
  rw [Mu.set_set, Mu.set_same]
  (conv => whnf)
  refine ⟨by decide +kernel, ?_⟩
  rw [Mu.set_set]
  generalize hK : putD _ _ _ = kv
  have eK : kv = frms := by rw [← hK]; rfl
  clear hK
  subst eK
  have hval : ∀ w, valD frms (.inr w) = (keys.lookup w).map fun fs => D.str (lets fs) := val_map (fun fs : List Str => D.str (lets fs)) (l := keys)
  generalize frms = kv at hval
  have hq' : Q (.bl (fitsD d)) ((μ.set p (.dic kv)).inter μ) := by rw [Mu.inter_new hp, Mu.inter_self]; exact hq
  clear hq
  cases h with
  | lst xs _ _ =>
    (conv => whnf); repeat ((first | refine dIf_t (by first | rfl | decide +kernel) ?_ | refine dIf_f (by first | rfl | decide +kernel) ?_ | refine And.intro (by first | rfl | exact Nat.le_of_ble_eq_true rfl | decide +kernel) ?_ | refine dIf_t (decide_eq_true (by omega)) ?_ | refine dIf_f (decide_eq_false (by omega)) ?_ | refine And.intro (by omega) ?_); (conv => whnf))
    exact hq'
  | str z _ =>
    (conv => whnf); repeat ((first | refine dIf_t (by first | rfl | decide +kernel) ?_ | refine dIf_f (by first | rfl | decide +kernel) ?_ | refine And.intro (by first | rfl | exact Nat.le_of_ble_eq_true rfl | decide +kernel) ?_ | refine dIf_t (decide_eq_true (by omega)) ?_ | refine dIf_f (decide_eq_false (by omega)) ?_ | refine And.intro (by omega) ?_); (conv => whnf))
    exact hq'
  | non =>
    (conv => whnf); repeat ((first | refine dIf_t (by first | rfl | decide +kernel) ?_ | refine dIf_f (by first | rfl | decide +kernel) ?_ | refine And.intro (by first | rfl | exact Nat.le_of_ble_eq_true rfl | decide +kernel) ?_ | refine dIf_t (decide_eq_true (by omega)) ?_ | refine dIf_f (decide_eq_false (by omega)) ?_ | refine And.intro (by omega) ?_); (conv => whnf))
    exact hq'
  | bl =>
    (conv => whnf); repeat ((first | refine dIf_t (by first | rfl | decide +kernel) ?_ | refine dIf_f (by first | rfl | decide +kernel) ?_ | refine And.intro (by first | rfl | exact Nat.le_of_ble_eq_true rfl | decide +kernel) ?_ | refine dIf_t (decide_eq_true (by omega)) ?_ | refine dIf_f (decide_eq_false (by omega)) ?_ | refine And.intro (by omega) ?_); (conv => whnf))
    exact hq'
  | int n _ =>
    (conv => whnf); repeat ((first | refine dIf_t (by first | rfl | decide +kernel) ?_ | refine dIf_f (by first | rfl | decide +kernel) ?_ | refine And.intro (by first | rfl | exact Nat.le_of_ble_eq_true rfl | decide +kernel) ?_ | refine dIf_t (decide_eq_true (by omega)) ?_ | refine dIf_f (decide_eq_false (by omega)) ?_ | refine And.intro (by omega) ?_); (conv => whnf))
    exact hq'
  | tup xs hx hl =>
    cases xs with
    | nil =>
      (conv => whnf); repeat ((first | refine dIf_t (by first | rfl | decide +kernel) ?_ | refine dIf_f (by first | rfl | decide +kernel) ?_ | refine And.intro (by first | rfl | exact Nat.le_of_ble_eq_true rfl | decide +kernel) ?_ | refine dIf_t (decide_eq_true (by omega)) ?_ | refine dIf_f (decide_eq_false (by omega)) ?_ | refine And.intro (by omega) ?_); (conv => whnf))
      exact hq'
    | cons x items =>
      have l0 : ((x :: items).length : Int) ≠ 0 := by
        rw [List.length_cons]
        omega
      (conv => whnf); repeat ((first | refine dIf_t (by first | rfl | decide +kernel) ?_ | refine dIf_f (by first | rfl | decide +kernel) ?_ | refine And.intro (by first | rfl | exact Nat.le_of_ble_eq_true rfl | decide +kernel) ?_ | refine dIf_t (decide_eq_true (by omega)) ?_ | refine dIf_f (decide_eq_false (by omega)) ?_ | refine And.intro (by omega) ?_); (conv => whnf))
      rw [at_hd]
      (conv => whnf)
      have hx0 := hx x List.mem_cons_self
      cases hx0 with
      | int n hn =>
        (conv => whnf); repeat ((first | refine dIf_t (by first | rfl | decide +kernel) ?_ | refine dIf_f (by first | rfl | decide +kernel) ?_ | refine And.intro (by first | rfl | exact Nat.le_of_ble_eq_true rfl | decide +kernel) ?_ | refine dIf_t (decide_eq_true (by omega)) ?_ | refine dIf_f (decide_eq_false (by omega)) ?_ | refine And.intro (by omega) ?_); (conv => whnf))
        exact hq'
      | bl =>
        (conv => whnf); repeat ((first | refine dIf_t (by first | rfl | decide +kernel) ?_ | refine dIf_f (by first | rfl | decide +kernel) ?_ | refine And.intro (by first | rfl | exact Nat.le_of_ble_eq_true rfl | decide +kernel) ?_ | refine dIf_t (decide_eq_true (by omega)) ?_ | refine dIf_f (decide_eq_false (by omega)) ?_ | refine And.intro (by omega) ?_); (conv => whnf))
        exact hq'
      | non =>
        (conv => whnf); repeat ((first | refine dIf_t (by first | rfl | decide +kernel) ?_ | refine dIf_f (by first | rfl | decide +kernel) ?_ | refine And.intro (by first | rfl | exact Nat.le_of_ble_eq_true rfl | decide +kernel) ?_ | refine dIf_t (decide_eq_true (by omega)) ?_ | refine dIf_f (decide_eq_false (by omega)) ?_ | refine And.intro (by omega) ?_); (conv => whnf))
        exact hq'
      | nil =>
        (conv => whnf); repeat ((first | refine dIf_t (by first | rfl | decide +kernel) ?_ | refine dIf_f (by first | rfl | decide +kernel) ?_ | refine And.intro (by first | rfl | exact Nat.le_of_ble_eq_true rfl | decide +kernel) ?_ | refine dIf_t (decide_eq_true (by omega)) ?_ | refine dIf_f (decide_eq_false (by omega)) ?_ | refine And.intro (by omega) ?_); (conv => whnf))
        exact hq'
      | str w hw =>
        (conv => whnf); repeat ((first | refine dIf_t (by first | rfl | decide +kernel) ?_ | refine dIf_f (by first | rfl | decide +kernel) ?_ | refine And.intro (by first | rfl | exact Nat.le_of_ble_eq_true rfl | decide +kernel) ?_ | refine dIf_t (decide_eq_true (by omega)) ?_ | refine dIf_f (decide_eq_false (by omega)) ?_ | refine And.intro (by omega) ?_); (conv => whnf))
        rw [at_hd]
        (conv => whnf)
        rw [dicOf_set]
        (conv => whnf)
        rw [hval]
        unfold fitsD at hq'
        dsimp only at hq'
        cases hkw : keys.lookup w with
        | none =>
          rw [hkw] at hq'
          refine dIf_t rfl ?_
          exact hq'
        | some fs =>
          rw [hkw] at hq'
          dsimp only at hq'
          refine dIf_f rfl ?_
          (conv => whnf)
          rw [at_hd]
          (conv => whnf)
          rw [dicOf_set]
          (conv => whnf)
          rw [hval, hkw]
          have hls : (lets fs).length = fs.length := by
            unfold lets
            rw [S_len, List.length_map]
          have hf4 : fs.length ≤ 4 := by
            have all : ∀ p ∈ keys, p.2.length ≤ 4 := by decide +kernel
            exact all _ (key_mem keys hkw)
          have hlsz : (lets fs).length ≤ sizeLine := by
            rw [hls]
            exact Nat.le_trans hf4 (by decide)
          have hi : ∀ y ∈ items, It y := fun y hy => hx y (List.mem_cons_of_mem _ hy)
          (conv => whnf)
          refine ⟨hlsz, ?_⟩
          (conv => whnf)
          by_cases hn : items.length = fs.length
          · rw [decide_eq_true hn, Bool.true_and, ← fits_agree hkw hn hi] at hq'
            refine dIf_f ?_ ?_
            · show (!decide ((((D.str w :: items).length : Nat) : Int) = (((lets fs).length : Nat) : Int) + 1)) = false
              rw [hls, List.length_cons, decide_eq_true (by omega)]
              rfl
            · (conv => whnf)
              refine ⟨hlsz, ?_⟩
              (conv => whnf)
              refine ⟨⟨by omega, by omega⟩, ?_⟩
              show lcL [] _ _ _ _ (rangeL 0 (lets fs).length) [] _
              rw [hls]
              obtain ⟨zs, hzs⟩ : ∃ zs, List.zipWith (fun f x => fitL f (.str w :: items) x) fs items = zs := ⟨_, rfl⟩
              rw [hzs] at hq'
              refine lcL_fil (fun d => d) (fun d => match d with | .int i => !(zs[i.toNat]?.getD true) | _ => false) ck_nil _ [] (fun x hx R B h1 h2 => ?_) ?_ ?_
              · obtain ⟨i, hi2⟩ := List.getElem?_of_mem hx
                obtain ⟨hin, rfl⟩ := rangeL_get' hi2
                obtain ⟨f, hf⟩ : ∃ f, fs[i]? = some f := ⟨fs[i]'hin, List.getElem?_eq_getElem _⟩
                obtain ⟨y, hy⟩ : ∃ y, items[i]? = some y := ⟨items[i]'(by omega), List.getElem?_eq_getElem _⟩
                have hz : zs[i]? = some (fitL f (.str w :: items) y) := by rw [← hzs, List.getElem?_zipWith, hf, hy]
                have e0 : ((0 : Int) + (i : Int)).toNat = i := by omega
                dsimp only at h1 h2
                rw [e0, hz] at h1 h2
                (conv => whnf)
                refine ⟨hlsz, ?_⟩
                rw [show (0 : Int) + (i : Int) = (i : Int) by omega]
                rw [atI_nat (j := i) (v := letter f) (by show (fs.map letter)[i]? = _; rw [List.getElem?_map, hf]; rfl)]
                (conv => whnf)
                rw [show (i : Int) + 1 = ((i + 1 : Nat) : Int) by omega, atI_nat (j := i + 1) (v := y) (by rw [List.getElem?_cons_succ]; exact hy)]
                (conv => whnf)
                refine ⟨rfl, item_fits_any (keys_six hkw f (List.mem_of_getElem? hf)) (hi y (List.mem_of_getElem? hy)) (fun e => ?_) ?_⟩
                · have h2l : 2 ≤ items.length := by
                    have all : ∀ p ∈ keys, 2 ≤ p.2.length := by decide +kernel
                    have := all _ (key_mem keys hkw)
                    rw [hn]
                    exact this
                  match items, h2l, hi with
                  | y0 :: y1 :: r, _, hi => exact ⟨_, y0, y1, r, rfl, hi y1 (by simp)⟩
                · (conv => whnf)
                  rw [show (0 : Int) + (i : Int) = (i : Int) by omega] at h1
                  exact dIf_of (fun e => h1 e) (fun e => h2 e)
              · show 0 + (rangeL 0 fs.length).length ≤ _
                unfold rangeL
                rw [List.length_map, List.length_range]
                exact Nat.le_trans (by omega : 0 + fs.length ≤ 4) (by decide)
              · have e1 : (rangeL 0 fs.length).filter (fun d => match d with | .int i => !(zs[i.toNat]?.getD true) | _ => false) = (((List.range fs.length).filter fun i => !(zs[i]?.getD true)).map fun i : Nat => (0 : Int) + (i : Int)).map D.int := by
                  unfold rangeL
                  rw [List.filter_map, List.map_map]
                  refine congrArg _ (List.filter_congr fun i _ => ?_)
                  show (!(zs[((0 : Int) + (i : Int)).toNat]?.getD true)) = _
                  rw [show ((0 : Int) + (i : Int)).toNat = i by omega]
                rw [List.nil_append, List.map_id', e1]
                dsimp only [newL, eLst, aNil]
                refine ⟨Nat.zero_le _, ?_⟩
                refine eq_nil_ints id ?_
                have hzl : zs.length = fs.length := by rw [← hzs, List.length_zipWith]; omega
                have e2 : (((List.range fs.length).filter fun i => !(zs[i]?.getD true)).map fun i : Nat => (0 : Int) + (i : Int)).isEmpty = zs.all id := by
                  rw [List.isEmpty_map]
                  cases ha : zs.all id with
                  | true =>
                    rw [List.isEmpty_iff, List.filter_eq_nil_iff]
                    intro i hi3
                    rw [List.mem_range] at hi3
                    rw [List.getElem?_eq_getElem (by omega : i < zs.length)]
                    have := List.all_eq_true.mp ha _ (List.getElem_mem (by omega : i < zs.length))
                    simp only [id] at this
                    simp [this]
                  | false =>
                    rw [List.isEmpty_eq_false_iff]
                    obtain ⟨b, hb, hb2⟩ := List.all_eq_false.mp ha
                    obtain ⟨i, hi3⟩ := List.getElem?_of_mem hb
                    have hlt := (List.getElem?_eq_some_iff.mp hi3).1
                    refine List.ne_nil_of_mem (a := i) (List.mem_filter.mpr ⟨List.mem_range.mpr (by omega), ?_⟩)
                    rw [hi3]
                    simpa using hb2
                rw [e2]
                exact hq'
          · rw [decide_eq_false hn, Bool.false_and] at hq'
            refine dIf_t ?_ hq'
            show (!decide ((((D.str w :: items).length : Nat) : Int) = (((lets fs).length : Nat) : Int) + 1)) = true
            rw [hls, List.length_cons, decide_eq_false (by omega)]
            rfl
end PD
set_option Elab.async false
set_option linter.all false
set_option autoImplicit false
set_option maxRecDepth 100000
set_option maxHeartbeats 4000000
namespace PD
open PySem PySem.Spec PyProof.Rows L2
open SX (S S_len)
/-- a datum whose repr is a text -/
def Shows (μ : Mu) (d : D) : Prop := ∃ x, pyD μ d = some x ∧ x.showable = true ∧ x.depth ≤ 60 ∧ x.shown.length ≤ sizeLine
theorem shownAll_ints : ∀ ns : List Int, PyData.shownAll (ns.map PyData.int) = ns.map fun n => (toString n : Str)
  | [] => by simp only [List.map_nil, PyData.shownAll]
  | n :: ns => by simp only [List.map_cons, PyData.shownAll, PyData.shown, shownAll_ints ns]
theorem showAll_ints : ∀ {ns : List Int}, (∀ n ∈ ns, Num n) → PyData.showableAll (ns.map PyData.int) = true
  | [], _ => by simp only [List.map_nil, PyData.showableAll]
  | n :: ns, h => by
    have h1 := h n List.mem_cons_self
    simp only [List.map_cons, PyData.showableAll, PyData.showable, Bool.and_eq_true, decide_eq_true_eq]
    exact ⟨log_ok h1.1 h1.2, showAll_ints fun m hm => h m (List.mem_cons_of_mem _ hm)⟩
theorem w_repr (r : Row) : (reprText r.w).length ≤ 7 := by cases r <;> (simp only [Row.w]; decide +kernel)
theorem row_showable {r : Row} (h : r.Ok) : r.py.showable = true := by
  unfold Row.py
  simp only [PyData.showable, PyData.showableAll, Bool.true_and]
  exact showAll_ints h.num
theorem row_shown {r : Row} (h : r.Ok) : r.py.shown.length ≤ 120 := by
  unfold Row.py
  simp only [PyData.shown, PyData.shownAll, shownAll_ints]
  refine Nat.le_trans (tupleText_len_le _) ?_
  have h1 := w_repr r
  have h2 : ((r.ns.map fun n => (toString n : Str)).map (·.length)).sum ≤ (r.ns.map fun n => (toString n : Str)).length * 21 := sum_le fun z hz => by
    obtain ⟨n, hn, rfl⟩ := List.mem_map.mp hz
    exact iL_num (h.num n hn)
  have h3 := r.ns_len
  rw [List.length_map] at h2
  rw [List.map_cons, List.sum_cons, List.length_cons, List.length_map]
  omega
theorem rows_showable : ∀ {rs : List Row}, (∀ r ∈ rs, r.Ok) → PyData.showableAll (rs.map Row.py) = true
  | [], _ => by simp only [List.map_nil, PyData.showableAll]
  | r :: rs, h => by
    simp only [List.map_cons, PyData.showableAll, Bool.and_eq_true]
    exact ⟨row_showable (h r List.mem_cons_self), rows_showable fun q hq => h q (List.mem_cons_of_mem _ hq)⟩
theorem shownAll_map : ∀ xs : List PyData, PyData.shownAll xs = xs.map PyData.shown
  | [] => by simp only [PyData.shownAll, List.map_nil]
  | x :: xs => by simp only [PyData.shownAll, List.map_cons, shownAll_map xs]
theorem rows_shows {μ : Mu} {rs : List Row} (h : ∀ r ∈ rs, r.Ok) (hl : rs.length ≤ 1000) : Shows μ (.tup (rs.map Row.d)) := by
  refine ⟨_, rowsT_pyD μ rs, ?_, ?_, ?_⟩
  · simp only [PyData.showable]
    exact rows_showable h
  · simp only [PyData.depth]
    have := rowsD_depth rs
    omega
  · simp only [PyData.shown, shownAll_map]
    refine Nat.le_trans (tupleText_len_le _) ?_
    have h2 : (((rs.map Row.py).map PyData.shown).map (·.length)).sum ≤ ((rs.map Row.py).map PyData.shown).length * 120 := sum_le fun z hz => by
      obtain ⟨q, hq, rfl⟩ := List.mem_map.mp hz
      obtain ⟨r, hr, rfl⟩ := List.mem_map.mp hq
      exact row_shown (h r hr)
    rw [List.length_map, List.length_map] at h2 ⊢
    exact Nat.le_trans (by omega : _ ≤ 200000) (by decide)
theorem pair_shows {μ : Mu} {w : Str} {i : Nat} (hw : (reprText w).length ≤ 20) (hi : i ≤ 1000) : Shows μ (.tup [.str w, .int (i : Nat)]) := by
  refine ⟨.tuple [.str w, .int (i : Nat)], ?_, ?_, ?_, ?_⟩
  · simp only [pyD, pyDs]
    rfl
  · simp only [PyData.showable, PyData.showableAll, Bool.true_and, Bool.and_true, decide_eq_true_eq]
    exact log_ok (by omega) (by omega)
  · simp only [PyData.depth, PyData.depthAll]
    decide
  · simp only [PyData.shown, PyData.shownAll]
    refine Nat.le_trans (tupleText_len_le _) ?_
    have := iL_num (n := (i : Nat)) ⟨by omega, by omega⟩
    simp only [List.map_cons, List.map_nil, List.sum_cons, List.sum_nil, List.length_cons, List.length_nil]
    exact Nat.le_trans (by omega : _ ≤ 200) (by decide)
theorem Ans.shows {μ : Mu} {os : List (Option Row)} {d : D} (h : Ans os d) (hl : os.length ≤ 1000) : Shows μ d := by
  cases h with
  | text i h1 h2 => exact pair_shows (by decide +kernel) (by have := (List.getElem?_eq_some_iff.mp h1).1; omega)
  | bad rs w i h1 h2 =>
    obtain ⟨r, g1, g2⟩ := h2.at_
    have hi := (List.getElem?_eq_some_iff.mp g1).1
    rw [h1, List.length_map] at hl
    rcases g2 with ⟨rfl, _⟩ | ⟨rfl, _⟩
    · exact pair_shows (by decide +kernel) (by omega)
    · exact pair_shows (by decide +kernel) (by omega)
  | ok rs h1 h2 =>
    rw [h1, List.length_map] at hl
    refine rows_shows (fun r hr => ?_) hl
    obtain ⟨i, hi⟩ := List.getElem?_of_mem hr
    exact (h2 i r hi).1
end PD
set_option Elab.async false
set_option linter.all false
set_option autoImplicit false
set_option maxRecDepth 100000
set_option maxHeartbeats 4000000
namespace PD
open PySem PySem.Spec PyProof.Rows L2
def FineD (rs : List D) (j : Nat) : Prop := ∀ d, rs[j]? = some d → fitsD d = true ∧ (isSkip d = true → (j : Int) + skipN d < rs.length)
structure FirstBadD (rs : List D) (w : Str) (i : Nat) : Prop where
  at_ : ∃ d, rs[i]? = some d ∧ ((w = "row" ∧ fitsD d = false) ∨ (w = "skip" ∧ fitsD d = true ∧ isSkip d = true ∧ (rs.length : Int) ≤ i + skipN d))
  pre : ∀ j, j < i → FineD rs j
theorem badD {rs : List D} {w : Str} {i : Nat} {d : D} (e : rs[i]? = some d) (h : (w = "row" ∧ fitsD d = false) ∨ (w = "skip" ∧ fitsD d = true ∧ isSkip d = true ∧ (rs.length : Int) ≤ i + skipN d)) : ¬ FineD rs i := fun f => by
  obtain ⟨f1, f2⟩ := f d e
  rcases h with ⟨_, h⟩ | ⟨_, _, h3, h4⟩
  · rw [h] at f1
    cases f1
  · have := f2 h3
    omega
theorem FirstBadD.inj {rs : List D} {w v : Str} {i j : Nat} (a : FirstBadD rs w i) (b : FirstBadD rs v j) : w = v ∧ i = j := by
  obtain ⟨r, h1, h2⟩ := a.at_
  obtain ⟨q, g1, g2⟩ := b.at_
  have e : i = j := by
    rcases Nat.lt_trichotomy i j with z | z | z
    · exact absurd (b.pre i z) (badD h1 h2)
    · exact z
    · exact absurd (a.pre j z) (badD g1 g2)
  subst e
  rw [h1] at g1
  cases g1
  refine ⟨?_, rfl⟩
  rcases h2 with ⟨rfl, h⟩ | ⟨rfl, h, _⟩
  · rcases g2 with ⟨rfl, _⟩ | ⟨_, g, _⟩
    · rfl
    · rw [h] at g
      cases g
  · rcases g2 with ⟨_, g⟩ | ⟨rfl, _⟩
    · rw [h] at g
      cases g
    · rfl
/-- what is refused, or None -/
inductive AnsD (rs : List D) : D → Prop
  | count : 1000 < rs.length → AnsD rs (.tup [.str "count", .int (-1)])
  | bad (w : Str) (i : Nat) : rs.length ≤ 1000 → FirstBadD rs w i → AnsD rs (.tup [.str w, .int (i : Nat)])
  | ok : rs.length ≤ 1000 → (∀ i, FineD rs i) → AnsD rs .non
theorem AnsD.inj {rs : List D} {d e : D} (a : AnsD rs d) (b : AnsD rs e) : d = e := by
  have nobad : ∀ {w : Str} {i : Nat}, FirstBadD rs w i → (∀ i, FineD rs i) → False := fun h f => by
    obtain ⟨r, h1, h2⟩ := h.at_
    exact badD h1 h2 (f _)
  cases a with
  | count h =>
    cases b with
    | count _ => rfl
    | bad w i g _ => omega
    | ok g _ => omega
  | bad w i h h2 =>
    cases b with
    | count g => omega
    | bad v j g g2 =>
      obtain ⟨rfl, rfl⟩ := h2.inj g2
      rfl
    | ok g g2 => exact (nobad h2 g2).elim
  | ok h h2 =>
    cases b with
    | count g => omega
    | bad v j g g2 => exact (nobad g2 h2).elim
    | ok _ _ => rfl
theorem non_shows {μ : Mu} : Shows μ .non := ⟨.none, by simp only [pyD], by simp only [PyData.showable], by simp only [PyData.depth]; decide, by
  simp only [PyData.shown]
  decide +kernel⟩
theorem count_shows {μ : Mu} : Shows μ (.tup [.str "count", .int (-1)]) := by
  refine ⟨.tuple [.str "count", .int (-1)], ?_, ?_, ?_, ?_⟩
  · simp only [pyD, pyDs]
    rfl
  · simp only [PyData.showable, PyData.showableAll]
    decide +kernel
  · simp only [PyData.depth, PyData.depthAll]
    decide
  · simp only [PyData.shown, PyData.shownAll]
    decide +kernel
theorem AnsD.shows {μ : Mu} {rs : List D} {d : D} (h : AnsD rs d) : Shows μ d := by
  cases h with
  | count _ => exact count_shows
  | bad w i h1 h2 =>
    obtain ⟨r, g1, g2⟩ := h2.at_
    have hi := (List.getElem?_eq_some_iff.mp g1).1
    rcases g2 with ⟨rfl, _⟩ | ⟨rfl, _⟩
    · exact pair_shows (by decide +kernel) (by omega)
    · exact pair_shows (by decide +kernel) (by omega)
  | ok _ _ => exact non_shows
/-- a row that fits -/
theorem fits_form {d : D} (h : fitsD d = true) : ∃ w items, d = .tup (.str w :: items) ∧ (w = "skip" → ∃ a m c n, items = [.int a, .int m, .int c, .int n]) := by
  unfold fitsD at h
  split at h
  · rename_i w items
    refine ⟨w, items, rfl, fun hs => ?_⟩
    subst hs
    rw [show keys.lookup ("skip" : Str) = some [("register" : Str), "modulus", "rest", "count"] by decide +kernel] at h
    dsimp only at h
    simp only [Bool.and_eq_true, decide_eq_true_eq] at h
    obtain ⟨hl, hw, _⟩ := h
    match items, hl with
    | [x0, x1, x2, x3], _ =>
      simp only [List.zipWith_cons_cons, List.zipWith_nil_right, List.all_cons, List.all_nil, id, Bool.and_true, Bool.and_eq_true] at hw
      obtain ⟨h0, h1, h2, h3⟩ := hw
      have key : ∀ {f : Str} {x : D}, fitI f x = true → ∃ n, x = .int n := fun {f x} h => by
        cases x with
        | int n => exact ⟨n, rfl⟩
        | _ => cases h
      obtain ⟨a, rfl⟩ := key h0
      obtain ⟨m, rfl⟩ := key h1
      obtain ⟨c, rfl⟩ := key h2
      obtain ⟨n, rfl⟩ := key h3
      exact ⟨a, m, c, n, rfl⟩
  · cases h
end PD
set_option Elab.async false
set_option linter.all false
set_option autoImplicit false
set_option maxRecDepth 100000
set_option maxHeartbeats 4000000
namespace PD
open PySem PySem.Spec PyProof.Rows L2
open SX (S S_len)
variable {μ : Mu} {Q : QD} {Xd : XD → Mu → Prop}
def xCode (w : Str) (i : Int) : XD := ⟨"InvalidCode", [("row", .int i), ("word", .str w)]⟩
theorem seqOf_at {p : Addr} {xs : List D} (h : μ p = some (.lst xs)) : seqOf (.ptr p) μ = some xs := by
  show lstOf (.ptr p) μ = some xs
  unfold lstOf
  dsimp only
  rw [h]
theorem lstOf_at {p : Addr} {xs : List D} (h : μ p = some (.lst xs)) : lstOf (.ptr p) μ = some xs := seqOf_at h
theorem at_hd2 {x : D} {xs : List D} : atI (x :: xs) 0 = some x := atI_nat (j := 0) rfl
theorem check_tup {rs : List D} (hw : ∀ r ∈ rs, Rw r) (hq : rs.length ≤ 1000 → (∀ i, FineD rs i) → Q .non μ) (hc : 1000 < rs.length → Xd (xCode "count" (-1)) μ) (hx : rs.length ≤ 1000 → ∀ w i, FirstBadD rs w i → Xd (xCode w i) μ) : F_check_rows [.tup rs] μ Q Xd := by
  rw [F_check_rows_eq]; unfold fnD T_check_rows
  (conv => whnf)
  by_cases hl : 1000 < rs.length
  · refine dIf_t (decide_eq_true (by show ((rs.length : Nat) : Int) > 1000; omega)) ?_
    (conv => whnf); repeat ((first | refine dIf_t (by first | rfl | decide +kernel) ?_ | refine dIf_f (by first | rfl | decide +kernel) ?_ | refine And.intro (by first | rfl | exact Nat.le_of_ble_eq_true rfl | decide +kernel) ?_ | refine dIf_t (decide_eq_true (by omega)) ?_ | refine dIf_f (decide_eq_false (by omega)) ?_ | refine And.intro (by omega) ?_); (conv => whnf))
    show Xd (xCode "count" (-1)) _
    rw [Mu.inter_self]
    exact hc hl
  · have hl' : rs.length ≤ 1000 := by omega
    refine dIf_f (decide_eq_false (by show ¬ ((rs.length : Nat) : Int) > 1000; omega)) ?_
    (conv => whnf)
    show forL _ _ _ _ [] (enumL rs) _ _
    refine forL_inv (fun i ρ' μ' => (∃ x y, ρ' = [some (.tup rs), x, y]) ∧ μ' = μ ∧ ∀ j, j < i → FineD rs j) ⟨⟨_, _, rfl⟩, rfl, fun j hj => absurd hj (Nat.not_lt_zero _)⟩ (fun _ _ _ _ => ck_nil) (fun i x ρ' μ' hx' hi N hN => ?_) (fun ρ' μ' hi => ?_)
    · obtain ⟨⟨y, z, rfl⟩, rfl, pre⟩ := hi
      obtain ⟨r, hr, rfl⟩ := enumL_get hx'
      have rr := hw r (List.mem_of_getElem? hr)
      have step : (fitsD r = true ∧ (isSkip r = true → (i : Int) + skipN r < rs.length)) → ∀ j, j < i + 1 → FineD rs j := fun h j hj => by
        by_cases e : j = i
        · subst e
          intro q hq
          rw [hr] at hq
          cases hq
          exact h
        · exact pre j (by omega)
      (conv => whnf); repeat ((first | (first | refine dIf_t (by first | rfl | decide +kernel) ?_ | refine dIf_f (by first | rfl | decide +kernel) ?_ | refine And.intro (by first | rfl | exact Nat.le_of_ble_eq_true rfl | decide +kernel) ?_ | refine dIf_t (decide_eq_true (by omega)) ?_ | refine dIf_f (decide_eq_false (by omega)) ?_ | refine And.intro (by omega) ?_) | refine is_row_gen rr ?_); (conv => whnf))
      cases hf : fitsD r with
      | false =>
        refine dIf_t rfl ?_
        refine ⟨rfl, ?_⟩
        show Xd (xCode "row" (i : Nat)) _
        rw [Mu.inter_self]
        exact hx hl' _ _ ⟨⟨r, hr, .inl ⟨rfl, hf⟩⟩, pre⟩
      | true =>
        refine dIf_f rfl ?_
        obtain ⟨w, items, rfl, hsk⟩ := fits_form hf
        (conv => whnf)
        rw [at_hd2]
        (conv => whnf)
        by_cases hs : w = "skip"
        · obtain ⟨a0, m, c, n, rfl⟩ := hsk hs
          have e4 : skipN (.tup (.str w :: [.int a0, .int m, .int c, .int n])) = n := if_pos hs
          have es : isSkip (.tup (.str w :: [.int a0, .int m, .int c, .int n])) = true := decide_eq_true hs
          refine dIf_t (decide_eq_true hs) ?_
          (conv => whnf)
          by_cases far : (i : Int) + n < rs.length
          · refine dIf_f (decide_eq_false (by show ¬ ((i : Int) + n ≥ ((rs.length : Nat) : Int)); omega)) ?_
            exact hN _ _ ⟨⟨_, _, rfl⟩, rfl, step ⟨hf, fun _ => by rw [e4]; exact far⟩⟩
          · refine dIf_t (decide_eq_true (by show ((i : Int) + n ≥ ((rs.length : Nat) : Int)); omega)) ?_
            refine ⟨rfl, ?_⟩
            show Xd (xCode "skip" (i : Nat)) _
            rw [Mu.inter_self]
            exact hx hl' _ _ ⟨⟨_, hr, .inr ⟨rfl, hf, es, by rw [e4]; omega⟩⟩, pre⟩
        · refine dIf_f (decide_eq_false hs) ?_
          (conv => whnf)
          refine dIf_f rfl ?_
          exact hN _ _ ⟨⟨_, _, rfl⟩, rfl, step ⟨hf, fun z => absurd (of_decide_eq_true z) hs⟩⟩
    · obtain ⟨_, rfl, all⟩ := hi
      show Q _ _
      rw [Mu.inter_self]
      refine hq hl' fun i r hr => ?_
      refine all i ?_ r hr
      obtain ⟨q, _⟩ := List.getElem?_eq_some_iff.mp hr
      unfold enumL
      rw [List.length_zipWith, List.length_range]
      omega
theorem check_lst {rs : List D} (hw : ∀ r ∈ rs, Rw r) (hq : rs.length ≤ 1000 → (∀ i, FineD rs i) → Q .non μ) (hc : 1000 < rs.length → Xd (xCode "count" (-1)) μ) (hx : rs.length ≤ 1000 → ∀ w i, FirstBadD rs w i → Xd (xCode w i) μ) : F_check_rows [.lst rs] μ Q Xd := by
  rw [F_check_rows_eq]; unfold fnD T_check_rows
  (conv => whnf)
  by_cases hl : 1000 < rs.length
  · refine dIf_t (decide_eq_true (by show ((rs.length : Nat) : Int) > 1000; omega)) ?_
    (conv => whnf); repeat ((first | refine dIf_t (by first | rfl | decide +kernel) ?_ | refine dIf_f (by first | rfl | decide +kernel) ?_ | refine And.intro (by first | rfl | exact Nat.le_of_ble_eq_true rfl | decide +kernel) ?_ | refine dIf_t (decide_eq_true (by omega)) ?_ | refine dIf_f (decide_eq_false (by omega)) ?_ | refine And.intro (by omega) ?_); (conv => whnf))
    show Xd (xCode "count" (-1)) _
    rw [Mu.inter_self]
    exact hc hl
  · have hl' : rs.length ≤ 1000 := by omega
    refine dIf_f (decide_eq_false (by show ¬ ((rs.length : Nat) : Int) > 1000; omega)) ?_
    (conv => whnf)
    show forL _ _ _ _ [] (enumL rs) _ _
    refine forL_inv (fun i ρ' μ' => (∃ x y, ρ' = [some (.lst rs), x, y]) ∧ μ' = μ ∧ ∀ j, j < i → FineD rs j) ⟨⟨_, _, rfl⟩, rfl, fun j hj => absurd hj (Nat.not_lt_zero _)⟩ (fun _ _ _ _ => ck_nil) (fun i x ρ' μ' hx' hi N hN => ?_) (fun ρ' μ' hi => ?_)
    · obtain ⟨⟨y, z, rfl⟩, rfl, pre⟩ := hi
      obtain ⟨r, hr, rfl⟩ := enumL_get hx'
      have rr := hw r (List.mem_of_getElem? hr)
      have step : (fitsD r = true ∧ (isSkip r = true → (i : Int) + skipN r < rs.length)) → ∀ j, j < i + 1 → FineD rs j := fun h j hj => by
        by_cases e : j = i
        · subst e
          intro q hq
          rw [hr] at hq
          cases hq
          exact h
        · exact pre j (by omega)
      (conv => whnf); repeat ((first | (first | refine dIf_t (by first | rfl | decide +kernel) ?_ | refine dIf_f (by first | rfl | decide +kernel) ?_ | refine And.intro (by first | rfl | exact Nat.le_of_ble_eq_true rfl | decide +kernel) ?_ | refine dIf_t (decide_eq_true (by omega)) ?_ | refine dIf_f (decide_eq_false (by omega)) ?_ | refine And.intro (by omega) ?_) | refine is_row_gen rr ?_); (conv => whnf))
      cases hf : fitsD r with
      | false =>
        refine dIf_t rfl ?_
        refine ⟨rfl, ?_⟩
        show Xd (xCode "row" (i : Nat)) _
        rw [Mu.inter_self]
        exact hx hl' _ _ ⟨⟨r, hr, .inl ⟨rfl, hf⟩⟩, pre⟩
      | true =>
        refine dIf_f rfl ?_
        obtain ⟨w, items, rfl, hsk⟩ := fits_form hf
        (conv => whnf)
        rw [at_hd2]
        (conv => whnf)
        by_cases hs : w = "skip"
        · obtain ⟨a0, m, c, n, rfl⟩ := hsk hs
          have e4 : skipN (.tup (.str w :: [.int a0, .int m, .int c, .int n])) = n := if_pos hs
          have es : isSkip (.tup (.str w :: [.int a0, .int m, .int c, .int n])) = true := decide_eq_true hs
          refine dIf_t (decide_eq_true hs) ?_
          (conv => whnf)
          by_cases far : (i : Int) + n < rs.length
          · refine dIf_f (decide_eq_false (by show ¬ ((i : Int) + n ≥ ((rs.length : Nat) : Int)); omega)) ?_
            exact hN _ _ ⟨⟨_, _, rfl⟩, rfl, step ⟨hf, fun _ => by rw [e4]; exact far⟩⟩
          · refine dIf_t (decide_eq_true (by show ((i : Int) + n ≥ ((rs.length : Nat) : Int)); omega)) ?_
            refine ⟨rfl, ?_⟩
            show Xd (xCode "skip" (i : Nat)) _
            rw [Mu.inter_self]
            exact hx hl' _ _ ⟨⟨_, hr, .inr ⟨rfl, hf, es, by rw [e4]; omega⟩⟩, pre⟩
        · refine dIf_f (decide_eq_false hs) ?_
          (conv => whnf)
          refine dIf_f rfl ?_
          exact hN _ _ ⟨⟨_, _, rfl⟩, rfl, step ⟨hf, fun z => absurd (of_decide_eq_true z) hs⟩⟩
    · obtain ⟨_, rfl, all⟩ := hi
      show Q _ _
      rw [Mu.inter_self]
      refine hq hl' fun i r hr => ?_
      refine all i ?_ r hr
      obtain ⟨q, _⟩ := List.getElem?_eq_some_iff.mp hr
      unfold enumL
      rw [List.length_zipWith, List.length_range]
      omega
theorem check_ptr {rs : List D} {a : Addr} (hp : μ a = some (.lst rs)) (hw : ∀ r ∈ rs, Rw r) (hq : rs.length ≤ 1000 → (∀ i, FineD rs i) → Q .non μ) (hc : 1000 < rs.length → Xd (xCode "count" (-1)) μ) (hx : rs.length ≤ 1000 → ∀ w i, FirstBadD rs w i → Xd (xCode w i) μ) : F_check_rows [.ptr a] μ Q Xd := by
  rw [F_check_rows_eq]; unfold fnD T_check_rows
  (conv => whnf)
  rw [seqOf_at hp]
  (conv => whnf)
  by_cases hl : 1000 < rs.length
  · refine dIf_t (decide_eq_true (by show ((rs.length : Nat) : Int) > 1000; omega)) ?_
    (conv => whnf); repeat ((first | refine dIf_t (by first | rfl | decide +kernel) ?_ | refine dIf_f (by first | rfl | decide +kernel) ?_ | refine And.intro (by first | rfl | exact Nat.le_of_ble_eq_true rfl | decide +kernel) ?_ | refine dIf_t (decide_eq_true (by omega)) ?_ | refine dIf_f (decide_eq_false (by omega)) ?_ | refine And.intro (by omega) ?_); (conv => whnf))
    show Xd (xCode "count" (-1)) _
    rw [Mu.inter_self]
    exact hc hl
  · have hl' : rs.length ≤ 1000 := by omega
    refine dIf_f (decide_eq_false (by show ¬ ((rs.length : Nat) : Int) > 1000; omega)) ?_
    (conv => whnf)
    rw [lstOf_at hp]
    (conv => whnf)
    show forL _ _ _ _ [(a, rs)] (enumL rs) _ _
    refine forL_inv (fun i ρ' μ' => (∃ x y, ρ' = [some (.ptr a), x, y]) ∧ μ' = μ ∧ ∀ j, j < i → FineD rs j) ⟨⟨_, _, rfl⟩, rfl, fun j hj => absurd hj (Nat.not_lt_zero _)⟩ (fun _ _ _ hi => by rw [hi.2.1]; exact fun p hp2 => by rw [List.mem_singleton] at hp2; subst hp2; exact lstOf_at hp) (fun i x ρ' μ' hx' hi N hN => ?_) (fun ρ' μ' hi => ?_)
    · obtain ⟨⟨y, z, rfl⟩, rfl, pre⟩ := hi
      obtain ⟨r, hr, rfl⟩ := enumL_get hx'
      have rr := hw r (List.mem_of_getElem? hr)
      have step : (fitsD r = true ∧ (isSkip r = true → (i : Int) + skipN r < rs.length)) → ∀ j, j < i + 1 → FineD rs j := fun h j hj => by
        by_cases e : j = i
        · subst e
          intro q hq
          rw [hr] at hq
          cases hq
          exact h
        · exact pre j (by omega)
      (conv => whnf); repeat ((first | (first | refine dIf_t (by first | rfl | decide +kernel) ?_ | refine dIf_f (by first | rfl | decide +kernel) ?_ | refine And.intro (by first | rfl | exact Nat.le_of_ble_eq_true rfl | decide +kernel) ?_ | refine dIf_t (decide_eq_true (by omega)) ?_ | refine dIf_f (decide_eq_false (by omega)) ?_ | refine And.intro (by omega) ?_) | refine is_row_gen rr ?_); (conv => whnf))
      cases hf : fitsD r with
      | false =>
        refine dIf_t rfl ?_
        refine ⟨rfl, ?_⟩
        show Xd (xCode "row" (i : Nat)) _
        rw [Mu.inter_self]
        exact hx hl' _ _ ⟨⟨r, hr, .inl ⟨rfl, hf⟩⟩, pre⟩
      | true =>
        refine dIf_f rfl ?_
        obtain ⟨w, items, rfl, hsk⟩ := fits_form hf
        (conv => whnf)
        rw [at_hd2]
        (conv => whnf)
        by_cases hs : w = "skip"
        · obtain ⟨a0, m, c, n, rfl⟩ := hsk hs
          have e4 : skipN (.tup (.str w :: [.int a0, .int m, .int c, .int n])) = n := if_pos hs
          have es : isSkip (.tup (.str w :: [.int a0, .int m, .int c, .int n])) = true := decide_eq_true hs
          refine dIf_t (decide_eq_true hs) ?_
          (conv => whnf)
          rw [seqOf_at hp]
          (conv => whnf)
          by_cases far : (i : Int) + n < rs.length
          · refine dIf_f (decide_eq_false (by show ¬ ((i : Int) + n ≥ ((rs.length : Nat) : Int)); omega)) ?_
            exact hN _ _ ⟨⟨_, _, rfl⟩, rfl, step ⟨hf, fun _ => by rw [e4]; exact far⟩⟩
          · refine dIf_t (decide_eq_true (by show ((i : Int) + n ≥ ((rs.length : Nat) : Int)); omega)) ?_
            refine ⟨rfl, ?_⟩
            show Xd (xCode "skip" (i : Nat)) _
            rw [Mu.inter_self]
            exact hx hl' _ _ ⟨⟨_, hr, .inr ⟨rfl, hf, es, by rw [e4]; omega⟩⟩, pre⟩
        · refine dIf_f (decide_eq_false hs) ?_
          (conv => whnf)
          refine dIf_f rfl ?_
          exact hN _ _ ⟨⟨_, _, rfl⟩, rfl, step ⟨hf, fun z => absurd (of_decide_eq_true z) hs⟩⟩
    · obtain ⟨_, rfl, all⟩ := hi
      show Q _ _
      rw [Mu.inter_self]
      refine hq hl' fun i r hr => ?_
      refine all i ?_ r hr
      obtain ⟨q, _⟩ := List.getElem?_eq_some_iff.mp hr
      unfold enumL
      rw [List.length_zipWith, List.length_range]
      omega
theorem due_lst {rs : List D} (hw : ∀ r ∈ rs, Rw r) (hq : ∀ d, AnsD rs d → Q d μ) : F_law_due [.lst rs] μ Q Xd := by
  rw [F_law_due_eq]; unfold fnD T_law_due
  (conv => whnf)
  by_cases hl : 1000 < rs.length
  · refine dIf_t (decide_eq_true (by show ((rs.length : Nat) : Int) > 1000; omega)) ?_
    (conv => whnf); repeat ((first | refine dIf_t (by first | rfl | decide +kernel) ?_ | refine dIf_f (by first | rfl | decide +kernel) ?_ | refine And.intro (by first | rfl | exact Nat.le_of_ble_eq_true rfl | decide +kernel) ?_ | refine dIf_t (decide_eq_true (by omega)) ?_ | refine dIf_f (decide_eq_false (by omega)) ?_ | refine And.intro (by omega) ?_); (conv => whnf))
    show Q (.tup [.str "count", .int (-1)]) _
    rw [Mu.inter_self]
    exact hq _ (.count hl)
  · have hl' : rs.length ≤ 1000 := by omega
    refine dIf_f (decide_eq_false (by show ¬ ((rs.length : Nat) : Int) > 1000; omega)) ?_
    refine ⟨fun ρ' μ' => μ' = μ ∧ ∀ i, FineD rs i, ?_, ?_⟩
    · (conv => whnf)
      show forL _ _ _ _ [] (enumL rs) _ _
      refine forL_inv (fun i ρ' μ' => (∃ x y, ρ' = [some (.lst rs), x, y]) ∧ μ' = μ ∧ ∀ j, j < i → FineD rs j) ⟨⟨_, _, rfl⟩, rfl, fun j hj => absurd hj (Nat.not_lt_zero _)⟩ (fun _ _ _ _ => ck_nil) (fun i x ρ' μ' hx' hi N hN => ?_) (fun ρ' μ' hi => ?_)
      · obtain ⟨⟨y, z, rfl⟩, rfl, pre⟩ := hi
        obtain ⟨r, hr, rfl⟩ := enumL_get hx'
        have rr := hw r (List.mem_of_getElem? hr)
        have hlt := (List.getElem?_eq_some_iff.mp hr).1
        have step : (fitsD r = true ∧ (isSkip r = true → (i : Int) + skipN r < rs.length)) → ∀ j, j < i + 1 → FineD rs j := fun h j hj => by
          by_cases e : j = i
          · subst e
            intro q hq
            rw [hr] at hq
            cases hq
            exact h
          · exact pre j (by omega)
        (conv => whnf); repeat ((first | (first | refine dIf_t (by first | rfl | decide +kernel) ?_ | refine dIf_f (by first | rfl | decide +kernel) ?_ | refine And.intro (by first | rfl | exact Nat.le_of_ble_eq_true rfl | decide +kernel) ?_ | refine dIf_t (decide_eq_true (by omega)) ?_ | refine dIf_f (decide_eq_false (by omega)) ?_ | refine And.intro (by omega) ?_) | refine row_fits_gen rr ?_); (conv => whnf))
        cases hf : fitsD r with
        | false =>
          refine dIf_t rfl ?_
          (conv => whnf); repeat ((first | refine dIf_t (by first | rfl | decide +kernel) ?_ | refine dIf_f (by first | rfl | decide +kernel) ?_ | refine And.intro (by first | rfl | exact Nat.le_of_ble_eq_true rfl | decide +kernel) ?_ | refine dIf_t (decide_eq_true (by omega)) ?_ | refine dIf_f (decide_eq_false (by omega)) ?_ | refine And.intro (by omega) ?_); (conv => whnf))
          show Q (.tup [.str "row", .int (i : Nat)]) _
          rw [Mu.inter_self]
          exact hq _ (.bad _ _ hl' ⟨⟨r, hr, .inl ⟨rfl, hf⟩⟩, pre⟩)
        | true =>
          refine dIf_f rfl ?_
          obtain ⟨w, items, rfl, hsk⟩ := fits_form hf
          (conv => whnf)
          rw [at_hd2]
          (conv => whnf)
          by_cases hs : w = "skip"
          · obtain ⟨a0, m, c, n, rfl⟩ := hsk hs
            have e4 : skipN (.tup (.str w :: [.int a0, .int m, .int c, .int n])) = n := if_pos hs
            have es : isSkip (.tup (.str w :: [.int a0, .int m, .int c, .int n])) = true := decide_eq_true hs
            refine dIf_t (decide_eq_true hs) ?_
            (conv => whnf)
            by_cases far : (i : Int) + n < rs.length
            · refine dIf_f (decide_eq_false (by show ¬ ((i : Int) + n > ((rs.length : Nat) : Int) - 1); omega)) ?_
              exact hN _ _ ⟨⟨_, _, rfl⟩, rfl, step ⟨hf, fun _ => by rw [e4]; exact far⟩⟩
            · refine dIf_t (decide_eq_true (by show ((i : Int) + n > ((rs.length : Nat) : Int) - 1); omega)) ?_
              (conv => whnf); repeat ((first | refine dIf_t (by first | rfl | decide +kernel) ?_ | refine dIf_f (by first | rfl | decide +kernel) ?_ | refine And.intro (by first | rfl | exact Nat.le_of_ble_eq_true rfl | decide +kernel) ?_ | refine dIf_t (decide_eq_true (by omega)) ?_ | refine dIf_f (decide_eq_false (by omega)) ?_ | refine And.intro (by omega) ?_); (conv => whnf))
              show Q (.tup [.str "skip", .int (i : Nat)]) _
              rw [Mu.inter_self]
              exact hq _ (.bad _ _ hl' ⟨⟨_, hr, .inr ⟨rfl, hf, es, by rw [e4]; omega⟩⟩, pre⟩)
          · refine dIf_f (decide_eq_false hs) ?_
            (conv => whnf)
            refine dIf_f rfl ?_
            exact hN _ _ ⟨⟨_, _, rfl⟩, rfl, step ⟨hf, fun z => absurd (of_decide_eq_true z) hs⟩⟩
      · obtain ⟨_, rfl, all⟩ := hi
        refine ⟨rfl, fun i r hr => ?_⟩
        refine all i ?_ r hr
        obtain ⟨q, _⟩ := List.getElem?_eq_some_iff.mp hr
        unfold enumL
        rw [List.length_zipWith, List.length_range]
        omega
    · rintro ρ' μ' ⟨rfl, all⟩
      show Q .non _
      rw [Mu.inter_self]
      exact hq _ (.ok hl' all)
theorem due_ptr {rs : List D} {a : Addr} (hp : μ a = some (.lst rs)) (hw : ∀ r ∈ rs, Rw r) (hq : ∀ d, AnsD rs d → Q d μ) : F_law_due [.ptr a] μ Q Xd := by
  rw [F_law_due_eq]; unfold fnD T_law_due
  (conv => whnf)
  rw [seqOf_at hp]
  (conv => whnf)
  by_cases hl : 1000 < rs.length
  · refine dIf_t (decide_eq_true (by show ((rs.length : Nat) : Int) > 1000; omega)) ?_
    (conv => whnf); repeat ((first | refine dIf_t (by first | rfl | decide +kernel) ?_ | refine dIf_f (by first | rfl | decide +kernel) ?_ | refine And.intro (by first | rfl | exact Nat.le_of_ble_eq_true rfl | decide +kernel) ?_ | refine dIf_t (decide_eq_true (by omega)) ?_ | refine dIf_f (decide_eq_false (by omega)) ?_ | refine And.intro (by omega) ?_); (conv => whnf))
    show Q (.tup [.str "count", .int (-1)]) _
    rw [Mu.inter_self]
    exact hq _ (.count hl)
  · have hl' : rs.length ≤ 1000 := by omega
    refine dIf_f (decide_eq_false (by show ¬ ((rs.length : Nat) : Int) > 1000; omega)) ?_
    refine ⟨fun ρ' μ' => μ' = μ ∧ ∀ i, FineD rs i, ?_, ?_⟩
    · (conv => whnf)
      rw [lstOf_at hp]
      (conv => whnf)
      show forL _ _ _ _ [(a, rs)] (enumL rs) _ _
      refine forL_inv (fun i ρ' μ' => (∃ x y, ρ' = [some (.ptr a), x, y]) ∧ μ' = μ ∧ ∀ j, j < i → FineD rs j) ⟨⟨_, _, rfl⟩, rfl, fun j hj => absurd hj (Nat.not_lt_zero _)⟩ (fun _ _ _ hi => by rw [hi.2.1]; exact fun p hp2 => by rw [List.mem_singleton] at hp2; subst hp2; exact lstOf_at hp) (fun i x ρ' μ' hx' hi N hN => ?_) (fun ρ' μ' hi => ?_)
      · obtain ⟨⟨y, z, rfl⟩, rfl, pre⟩ := hi
        obtain ⟨r, hr, rfl⟩ := enumL_get hx'
        have rr := hw r (List.mem_of_getElem? hr)
        have hlt := (List.getElem?_eq_some_iff.mp hr).1
        have step : (fitsD r = true ∧ (isSkip r = true → (i : Int) + skipN r < rs.length)) → ∀ j, j < i + 1 → FineD rs j := fun h j hj => by
          by_cases e : j = i
          · subst e
            intro q hq
            rw [hr] at hq
            cases hq
            exact h
          · exact pre j (by omega)
        (conv => whnf); repeat ((first | (first | refine dIf_t (by first | rfl | decide +kernel) ?_ | refine dIf_f (by first | rfl | decide +kernel) ?_ | refine And.intro (by first | rfl | exact Nat.le_of_ble_eq_true rfl | decide +kernel) ?_ | refine dIf_t (decide_eq_true (by omega)) ?_ | refine dIf_f (decide_eq_false (by omega)) ?_ | refine And.intro (by omega) ?_) | refine row_fits_gen rr ?_); (conv => whnf))
        cases hf : fitsD r with
        | false =>
          refine dIf_t rfl ?_
          (conv => whnf); repeat ((first | refine dIf_t (by first | rfl | decide +kernel) ?_ | refine dIf_f (by first | rfl | decide +kernel) ?_ | refine And.intro (by first | rfl | exact Nat.le_of_ble_eq_true rfl | decide +kernel) ?_ | refine dIf_t (decide_eq_true (by omega)) ?_ | refine dIf_f (decide_eq_false (by omega)) ?_ | refine And.intro (by omega) ?_); (conv => whnf))
          show Q (.tup [.str "row", .int (i : Nat)]) _
          rw [Mu.inter_self]
          exact hq _ (.bad _ _ hl' ⟨⟨r, hr, .inl ⟨rfl, hf⟩⟩, pre⟩)
        | true =>
          refine dIf_f rfl ?_
          obtain ⟨w, items, rfl, hsk⟩ := fits_form hf
          (conv => whnf)
          rw [at_hd2]
          (conv => whnf)
          by_cases hs : w = "skip"
          · obtain ⟨a0, m, c, n, rfl⟩ := hsk hs
            have e4 : skipN (.tup (.str w :: [.int a0, .int m, .int c, .int n])) = n := if_pos hs
            have es : isSkip (.tup (.str w :: [.int a0, .int m, .int c, .int n])) = true := decide_eq_true hs
            refine dIf_t (decide_eq_true hs) ?_
            (conv => whnf)
            rw [seqOf_at hp]
            (conv => whnf)
            by_cases far : (i : Int) + n < rs.length
            · refine dIf_f (decide_eq_false (by show ¬ ((i : Int) + n > ((rs.length : Nat) : Int) - 1); omega)) ?_
              exact hN _ _ ⟨⟨_, _, rfl⟩, rfl, step ⟨hf, fun _ => by rw [e4]; exact far⟩⟩
            · refine dIf_t (decide_eq_true (by show ((i : Int) + n > ((rs.length : Nat) : Int) - 1); omega)) ?_
              (conv => whnf); repeat ((first | refine dIf_t (by first | rfl | decide +kernel) ?_ | refine dIf_f (by first | rfl | decide +kernel) ?_ | refine And.intro (by first | rfl | exact Nat.le_of_ble_eq_true rfl | decide +kernel) ?_ | refine dIf_t (decide_eq_true (by omega)) ?_ | refine dIf_f (decide_eq_false (by omega)) ?_ | refine And.intro (by omega) ?_); (conv => whnf))
              show Q (.tup [.str "skip", .int (i : Nat)]) _
              rw [Mu.inter_self]
              exact hq _ (.bad _ _ hl' ⟨⟨_, hr, .inr ⟨rfl, hf, es, by rw [e4]; omega⟩⟩, pre⟩)
          · refine dIf_f (decide_eq_false hs) ?_
            (conv => whnf)
            refine dIf_f rfl ?_
            exact hN _ _ ⟨⟨_, _, rfl⟩, rfl, step ⟨hf, fun z => absurd (of_decide_eq_true z) hs⟩⟩
      · obtain ⟨_, rfl, all⟩ := hi
        refine ⟨rfl, fun i r hr => ?_⟩
        refine all i ?_ r hr
        obtain ⟨q, _⟩ := List.getElem?_eq_some_iff.mp hr
        unfold enumL
        rw [List.length_zipWith, List.length_range]
        omega
    · rintro ρ' μ' ⟨rfl, all⟩
      show Q .non _
      rw [Mu.inter_self]
      exact hq _ (.ok hl' all)
theorem Mu.set_del' {m : MO} {x : Addr} (h : μ x = none) : (μ.set x m).del x = μ := by
  funext b
  unfold Mu.del Mu.set
  by_cases e : b = x
  · subst e
    simp [h]
  · simp [e]
def codeX (rs : List D) : D := .obj "Code" [("rows", .tup rs)]
theorem newc_tup {rs : List D} (hw : ∀ r ∈ rs, Rw r) (hq : rs.length ≤ 1000 → (∀ i, FineD rs i) → Q (codeX rs) μ) (hc : 1000 < rs.length → ∀ x, μ x = none → Xd (xCode "count" (-1)) (μ.set x (.ins "Code" []))) (hx : rs.length ≤ 1000 → ∀ w i, FirstBadD rs w i → ∀ x, μ x = none → Xd (xCode w i) (μ.set x (.ins "Code" []))) : mkD false "Code" 2 F_Code_init [.tup rs] μ Q Xd := by
  unfold mkD
  intro x hx0
  refine ⟨rfl, ?_⟩
  rw [F_Code_init_eq]
  unfold fnD T_Code_init
  have fin : rs.length ≤ 1000 → (∀ i, FineD rs i) → (match (μ.set x (.ins "Code" [("rows", .tup rs)])) x with | some (.ins C' gs) => C' = "Code" ∧ Q (.obj "Code" gs) ((μ.set x (.ins "Code" [("rows", .tup rs)])).del x) | _ => False) := fun hl h => by
    rw [Mu.set_same, Mu.set_del' hx0]
    exact ⟨rfl, hq hl h⟩
  (conv => whnf)
  refine ⟨rfl, ?_⟩
  refine check_tup hw (fun hl ok => ?_) (fun hl => ?_) fun hl w i h => ?_
  · (conv => whnf)
    rw [Mu.set_same]
    (conv => whnf); repeat ((first | refine dIf_t (by first | rfl | decide +kernel) ?_ | refine dIf_f (by first | rfl | decide +kernel) ?_ | refine And.intro (by first | rfl | exact Nat.le_of_ble_eq_true rfl | decide +kernel) ?_ | refine dIf_t (decide_eq_true (by omega)) ?_ | refine dIf_f (decide_eq_false (by omega)) ?_ | refine And.intro (by omega) ?_); (conv => whnf))
    rw [Mu.inter_set (by rw [Mu.set_same]; rfl), Mu.inter_self, Mu.set_set]
    exact fin hl ok
  · show Xd _ _
    rw [Mu.inter_self]
    exact hc hl x hx0
  · show Xd _ _
    rw [Mu.inter_self]
    exact hx hl w i h x hx0
theorem newc_lst {rs : List D} (hw : ∀ r ∈ rs, Rw r) (hq : rs.length ≤ 1000 → (∀ i, FineD rs i) → Q (codeX rs) μ) (hc : 1000 < rs.length → ∀ x, μ x = none → Xd (xCode "count" (-1)) (μ.set x (.ins "Code" []))) (hx : rs.length ≤ 1000 → ∀ w i, FirstBadD rs w i → ∀ x, μ x = none → Xd (xCode w i) (μ.set x (.ins "Code" []))) : mkD false "Code" 2 F_Code_init [.lst rs] μ Q Xd := by
  unfold mkD
  intro x hx0
  refine ⟨rfl, ?_⟩
  rw [F_Code_init_eq]
  unfold fnD T_Code_init
  have fin : rs.length ≤ 1000 → (∀ i, FineD rs i) → (match (μ.set x (.ins "Code" [("rows", .tup rs)])) x with | some (.ins C' gs) => C' = "Code" ∧ Q (.obj "Code" gs) ((μ.set x (.ins "Code" [("rows", .tup rs)])).del x) | _ => False) := fun hl h => by
    rw [Mu.set_same, Mu.set_del' hx0]
    exact ⟨rfl, hq hl h⟩
  (conv => whnf)
  refine ⟨rfl, ?_⟩
  refine check_lst hw (fun hl ok => ?_) (fun hl => ?_) fun hl w i h => ?_
  · (conv => whnf)
    rw [Mu.set_same]
    (conv => whnf); repeat ((first | refine dIf_t (by first | rfl | decide +kernel) ?_ | refine dIf_f (by first | rfl | decide +kernel) ?_ | refine And.intro (by first | rfl | exact Nat.le_of_ble_eq_true rfl | decide +kernel) ?_ | refine dIf_t (decide_eq_true (by omega)) ?_ | refine dIf_f (decide_eq_false (by omega)) ?_ | refine And.intro (by omega) ?_); (conv => whnf))
    rw [Mu.inter_set (by rw [Mu.set_same]; rfl), Mu.inter_self, Mu.set_set]
    exact fin hl ok
  · show Xd _ _
    rw [Mu.inter_self]
    exact hc hl x hx0
  · show Xd _ _
    rw [Mu.inter_self]
    exact hx hl w i h x hx0
theorem newc_ptr {rs : List D} {a : Addr} (hp : μ a = some (.lst rs)) (hw : ∀ r ∈ rs, Rw r) (hq : rs.length ≤ 1000 → (∀ i, FineD rs i) → Q (codeX rs) μ) (hc : 1000 < rs.length → ∀ x, μ x = none → Xd (xCode "count" (-1)) (μ.set x (.ins "Code" []))) (hx : rs.length ≤ 1000 → ∀ w i, FirstBadD rs w i → ∀ x, μ x = none → Xd (xCode w i) (μ.set x (.ins "Code" []))) : mkD false "Code" 2 F_Code_init [.ptr a] μ Q Xd := by
  unfold mkD
  intro x hx0
  refine ⟨rfl, ?_⟩
  rw [F_Code_init_eq]
  unfold fnD T_Code_init
  have hp' : (μ.set x (.ins "Code" [])) a = some (.lst rs) := by
    rw [Mu.set_ne (fun e => by rw [e, hx0] at hp; cases hp)]
    exact hp
  have fin : rs.length ≤ 1000 → (∀ i, FineD rs i) → (match (μ.set x (.ins "Code" [("rows", .tup rs)])) x with | some (.ins C' gs) => C' = "Code" ∧ Q (.obj "Code" gs) ((μ.set x (.ins "Code" [("rows", .tup rs)])).del x) | _ => False) := fun hl h => by
    rw [Mu.set_same, Mu.set_del' hx0]
    exact ⟨rfl, hq hl h⟩
  (conv => whnf)
  refine ⟨rfl, ?_⟩
  refine check_ptr hp' hw (fun hl ok => ?_) (fun hl => ?_) fun hl w i h => ?_
  · (conv => whnf)
    rw [seqOf_at hp']
    (conv => whnf)
    rw [Mu.set_same]
    (conv => whnf); repeat ((first | refine dIf_t (by first | rfl | decide +kernel) ?_ | refine dIf_f (by first | rfl | decide +kernel) ?_ | refine And.intro (by first | rfl | exact Nat.le_of_ble_eq_true rfl | decide +kernel) ?_ | refine dIf_t (decide_eq_true (by omega)) ?_ | refine dIf_f (decide_eq_false (by omega)) ?_ | refine And.intro (by omega) ?_); (conv => whnf))
    rw [Mu.inter_set (by rw [Mu.set_same]; rfl), Mu.inter_self, Mu.set_set]
    exact fin hl ok
  · show Xd _ _
    rw [Mu.inter_self]
    exact hc hl x hx0
  · show Xd _ _
    rw [Mu.inter_self]
    exact hx hl w i h x hx0
theorem told_tup {rs : List D} (hw : ∀ r ∈ rs, Rw r) (hq : ∀ d, AnsD rs d → Q d μ) : F_law_told [.tup rs] μ Q Xd := by
  rw [F_law_told_eq]; unfold fnD T_law_told
  (conv => whnf)
  refine newc_tup hw (fun hl ok => ?_) (fun hl x hx => ?_) fun hl w i h x hx => ?_
  · (conv => whnf); repeat ((first | refine dIf_t (by first | rfl | decide +kernel) ?_ | refine dIf_f (by first | rfl | decide +kernel) ?_ | refine And.intro (by first | rfl | exact Nat.le_of_ble_eq_true rfl | decide +kernel) ?_ | refine dIf_t (decide_eq_true (by omega)) ?_ | refine dIf_f (decide_eq_false (by omega)) ?_ | refine And.intro (by omega) ?_); (conv => whnf))
    show Q .non _
    rw [Mu.inter_self]
    exact hq _ (.ok hl ok)
  · (conv => whnf)
    intro xa xd
    (conv => whnf); repeat ((first | refine dIf_t (by first | rfl | decide +kernel) ?_ | refine dIf_f (by first | rfl | decide +kernel) ?_ | refine And.intro (by first | rfl | exact Nat.le_of_ble_eq_true rfl | decide +kernel) ?_ | refine dIf_t (decide_eq_true (by omega)) ?_ | refine dIf_f (decide_eq_false (by omega)) ?_ | refine And.intro (by omega) ?_); (conv => whnf))
    refine ⟨(by show ("word" : Str) ∈ [("word" : Str), "row"]; simp), ?_⟩
    (conv => whnf); repeat ((first | refine dIf_t (by first | rfl | decide +kernel) ?_ | refine dIf_f (by first | rfl | decide +kernel) ?_ | refine And.intro (by first | rfl | exact Nat.le_of_ble_eq_true rfl | decide +kernel) ?_ | refine dIf_t (decide_eq_true (by omega)) ?_ | refine dIf_f (decide_eq_false (by omega)) ?_ | refine And.intro (by omega) ?_); (conv => whnf))
    refine ⟨(by show ("row" : Str) ∈ [("word" : Str), "row"]; simp), ?_⟩
    (conv => whnf); repeat ((first | refine dIf_t (by first | rfl | decide +kernel) ?_ | refine dIf_f (by first | rfl | decide +kernel) ?_ | refine And.intro (by first | rfl | exact Nat.le_of_ble_eq_true rfl | decide +kernel) ?_ | refine dIf_t (decide_eq_true (by omega)) ?_ | refine dIf_f (decide_eq_false (by omega)) ?_ | refine And.intro (by omega) ?_); (conv => whnf))
    show Q (.tup [.str "count", .int (-1)]) _
    rw [Mu.inter_new hx, Mu.inter_self]
    exact hq _ (.count hl)
  · (conv => whnf)
    intro xa xd
    (conv => whnf); repeat ((first | refine dIf_t (by first | rfl | decide +kernel) ?_ | refine dIf_f (by first | rfl | decide +kernel) ?_ | refine And.intro (by first | rfl | exact Nat.le_of_ble_eq_true rfl | decide +kernel) ?_ | refine dIf_t (decide_eq_true (by omega)) ?_ | refine dIf_f (decide_eq_false (by omega)) ?_ | refine And.intro (by omega) ?_); (conv => whnf))
    refine ⟨(by show ("word" : Str) ∈ [("word" : Str), "row"]; simp), ?_⟩
    (conv => whnf); repeat ((first | refine dIf_t (by first | rfl | decide +kernel) ?_ | refine dIf_f (by first | rfl | decide +kernel) ?_ | refine And.intro (by first | rfl | exact Nat.le_of_ble_eq_true rfl | decide +kernel) ?_ | refine dIf_t (decide_eq_true (by omega)) ?_ | refine dIf_f (decide_eq_false (by omega)) ?_ | refine And.intro (by omega) ?_); (conv => whnf))
    refine ⟨(by show ("row" : Str) ∈ [("word" : Str), "row"]; simp), ?_⟩
    (conv => whnf); repeat ((first | refine dIf_t (by first | rfl | decide +kernel) ?_ | refine dIf_f (by first | rfl | decide +kernel) ?_ | refine And.intro (by first | rfl | exact Nat.le_of_ble_eq_true rfl | decide +kernel) ?_ | refine dIf_t (decide_eq_true (by omega)) ?_ | refine dIf_f (decide_eq_false (by omega)) ?_ | refine And.intro (by omega) ?_); (conv => whnf))
    show Q (.tup [.str w, .int (i : Nat)]) _
    rw [Mu.inter_new hx, Mu.inter_self]
    exact hq _ (.bad w i hl h)
theorem told_lst {rs : List D} (hw : ∀ r ∈ rs, Rw r) (hq : ∀ d, AnsD rs d → Q d μ) : F_law_told [.lst rs] μ Q Xd := by
  rw [F_law_told_eq]; unfold fnD T_law_told
  (conv => whnf)
  refine newc_lst hw (fun hl ok => ?_) (fun hl x hx => ?_) fun hl w i h x hx => ?_
  · (conv => whnf); repeat ((first | refine dIf_t (by first | rfl | decide +kernel) ?_ | refine dIf_f (by first | rfl | decide +kernel) ?_ | refine And.intro (by first | rfl | exact Nat.le_of_ble_eq_true rfl | decide +kernel) ?_ | refine dIf_t (decide_eq_true (by omega)) ?_ | refine dIf_f (decide_eq_false (by omega)) ?_ | refine And.intro (by omega) ?_); (conv => whnf))
    show Q .non _
    rw [Mu.inter_self]
    exact hq _ (.ok hl ok)
  · (conv => whnf)
    intro xa xd
    (conv => whnf); repeat ((first | refine dIf_t (by first | rfl | decide +kernel) ?_ | refine dIf_f (by first | rfl | decide +kernel) ?_ | refine And.intro (by first | rfl | exact Nat.le_of_ble_eq_true rfl | decide +kernel) ?_ | refine dIf_t (decide_eq_true (by omega)) ?_ | refine dIf_f (decide_eq_false (by omega)) ?_ | refine And.intro (by omega) ?_); (conv => whnf))
    refine ⟨(by show ("word" : Str) ∈ [("word" : Str), "row"]; simp), ?_⟩
    (conv => whnf); repeat ((first | refine dIf_t (by first | rfl | decide +kernel) ?_ | refine dIf_f (by first | rfl | decide +kernel) ?_ | refine And.intro (by first | rfl | exact Nat.le_of_ble_eq_true rfl | decide +kernel) ?_ | refine dIf_t (decide_eq_true (by omega)) ?_ | refine dIf_f (decide_eq_false (by omega)) ?_ | refine And.intro (by omega) ?_); (conv => whnf))
    refine ⟨(by show ("row" : Str) ∈ [("word" : Str), "row"]; simp), ?_⟩
    (conv => whnf); repeat ((first | refine dIf_t (by first | rfl | decide +kernel) ?_ | refine dIf_f (by first | rfl | decide +kernel) ?_ | refine And.intro (by first | rfl | exact Nat.le_of_ble_eq_true rfl | decide +kernel) ?_ | refine dIf_t (decide_eq_true (by omega)) ?_ | refine dIf_f (decide_eq_false (by omega)) ?_ | refine And.intro (by omega) ?_); (conv => whnf))
    show Q (.tup [.str "count", .int (-1)]) _
    rw [Mu.inter_new hx, Mu.inter_self]
    exact hq _ (.count hl)
  · (conv => whnf)
    intro xa xd
    (conv => whnf); repeat ((first | refine dIf_t (by first | rfl | decide +kernel) ?_ | refine dIf_f (by first | rfl | decide +kernel) ?_ | refine And.intro (by first | rfl | exact Nat.le_of_ble_eq_true rfl | decide +kernel) ?_ | refine dIf_t (decide_eq_true (by omega)) ?_ | refine dIf_f (decide_eq_false (by omega)) ?_ | refine And.intro (by omega) ?_); (conv => whnf))
    refine ⟨(by show ("word" : Str) ∈ [("word" : Str), "row"]; simp), ?_⟩
    (conv => whnf); repeat ((first | refine dIf_t (by first | rfl | decide +kernel) ?_ | refine dIf_f (by first | rfl | decide +kernel) ?_ | refine And.intro (by first | rfl | exact Nat.le_of_ble_eq_true rfl | decide +kernel) ?_ | refine dIf_t (decide_eq_true (by omega)) ?_ | refine dIf_f (decide_eq_false (by omega)) ?_ | refine And.intro (by omega) ?_); (conv => whnf))
    refine ⟨(by show ("row" : Str) ∈ [("word" : Str), "row"]; simp), ?_⟩
    (conv => whnf); repeat ((first | refine dIf_t (by first | rfl | decide +kernel) ?_ | refine dIf_f (by first | rfl | decide +kernel) ?_ | refine And.intro (by first | rfl | exact Nat.le_of_ble_eq_true rfl | decide +kernel) ?_ | refine dIf_t (decide_eq_true (by omega)) ?_ | refine dIf_f (decide_eq_false (by omega)) ?_ | refine And.intro (by omega) ?_); (conv => whnf))
    show Q (.tup [.str w, .int (i : Nat)]) _
    rw [Mu.inter_new hx, Mu.inter_self]
    exact hq _ (.bad w i hl h)
theorem told_ptr {rs : List D} {a : Addr} (hp : μ a = some (.lst rs)) (hw : ∀ r ∈ rs, Rw r) (hq : ∀ d, AnsD rs d → Q d μ) : F_law_told [.ptr a] μ Q Xd := by
  rw [F_law_told_eq]; unfold fnD T_law_told
  (conv => whnf)
  refine newc_ptr hp hw (fun hl ok => ?_) (fun hl x hx => ?_) fun hl w i h x hx => ?_
  · (conv => whnf); repeat ((first | refine dIf_t (by first | rfl | decide +kernel) ?_ | refine dIf_f (by first | rfl | decide +kernel) ?_ | refine And.intro (by first | rfl | exact Nat.le_of_ble_eq_true rfl | decide +kernel) ?_ | refine dIf_t (decide_eq_true (by omega)) ?_ | refine dIf_f (decide_eq_false (by omega)) ?_ | refine And.intro (by omega) ?_); (conv => whnf))
    show Q .non _
    rw [Mu.inter_self]
    exact hq _ (.ok hl ok)
  · (conv => whnf)
    intro xa xd
    (conv => whnf); repeat ((first | refine dIf_t (by first | rfl | decide +kernel) ?_ | refine dIf_f (by first | rfl | decide +kernel) ?_ | refine And.intro (by first | rfl | exact Nat.le_of_ble_eq_true rfl | decide +kernel) ?_ | refine dIf_t (decide_eq_true (by omega)) ?_ | refine dIf_f (decide_eq_false (by omega)) ?_ | refine And.intro (by omega) ?_); (conv => whnf))
    refine ⟨(by show ("word" : Str) ∈ [("word" : Str), "row"]; simp), ?_⟩
    (conv => whnf); repeat ((first | refine dIf_t (by first | rfl | decide +kernel) ?_ | refine dIf_f (by first | rfl | decide +kernel) ?_ | refine And.intro (by first | rfl | exact Nat.le_of_ble_eq_true rfl | decide +kernel) ?_ | refine dIf_t (decide_eq_true (by omega)) ?_ | refine dIf_f (decide_eq_false (by omega)) ?_ | refine And.intro (by omega) ?_); (conv => whnf))
    refine ⟨(by show ("row" : Str) ∈ [("word" : Str), "row"]; simp), ?_⟩
    (conv => whnf); repeat ((first | refine dIf_t (by first | rfl | decide +kernel) ?_ | refine dIf_f (by first | rfl | decide +kernel) ?_ | refine And.intro (by first | rfl | exact Nat.le_of_ble_eq_true rfl | decide +kernel) ?_ | refine dIf_t (decide_eq_true (by omega)) ?_ | refine dIf_f (decide_eq_false (by omega)) ?_ | refine And.intro (by omega) ?_); (conv => whnf))
    show Q (.tup [.str "count", .int (-1)]) _
    rw [Mu.inter_new hx, Mu.inter_self]
    exact hq _ (.count hl)
  · (conv => whnf)
    intro xa xd
    (conv => whnf); repeat ((first | refine dIf_t (by first | rfl | decide +kernel) ?_ | refine dIf_f (by first | rfl | decide +kernel) ?_ | refine And.intro (by first | rfl | exact Nat.le_of_ble_eq_true rfl | decide +kernel) ?_ | refine dIf_t (decide_eq_true (by omega)) ?_ | refine dIf_f (decide_eq_false (by omega)) ?_ | refine And.intro (by omega) ?_); (conv => whnf))
    refine ⟨(by show ("word" : Str) ∈ [("word" : Str), "row"]; simp), ?_⟩
    (conv => whnf); repeat ((first | refine dIf_t (by first | rfl | decide +kernel) ?_ | refine dIf_f (by first | rfl | decide +kernel) ?_ | refine And.intro (by first | rfl | exact Nat.le_of_ble_eq_true rfl | decide +kernel) ?_ | refine dIf_t (decide_eq_true (by omega)) ?_ | refine dIf_f (decide_eq_false (by omega)) ?_ | refine And.intro (by omega) ?_); (conv => whnf))
    refine ⟨(by show ("row" : Str) ∈ [("word" : Str), "row"]; simp), ?_⟩
    (conv => whnf); repeat ((first | refine dIf_t (by first | rfl | decide +kernel) ?_ | refine dIf_f (by first | rfl | decide +kernel) ?_ | refine And.intro (by first | rfl | exact Nat.le_of_ble_eq_true rfl | decide +kernel) ?_ | refine dIf_t (decide_eq_true (by omega)) ?_ | refine dIf_f (decide_eq_false (by omega)) ?_ | refine And.intro (by omega) ?_); (conv => whnf))
    show Q (.tup [.str w, .int (i : Nat)]) _
    rw [Mu.inter_new hx, Mu.inter_self]
    exact hq _ (.bad w i hl h)
end PD
set_option Elab.async false
set_option linter.all false
set_option autoImplicit false
set_option maxRecDepth 100000
set_option maxHeartbeats 4000000
namespace PD
open PySem PySem.Spec PyProof.Rows L2
variable {μ : Mu} {Q : QD} {Xd : XD → Mu → Prop}
theorem is_integer_ok {n : Int} (h : Q (.bl true) μ) : F_is_integer [.int n] μ Q Xd := by
  rw [F_is_integer_eq]; unfold fnD T_is_integer
  (conv => whnf); repeat ((first | refine dIf_t (by first | rfl | decide +kernel) ?_ | refine dIf_f (by first | rfl | decide +kernel) ?_ | refine And.intro (by first | rfl | exact Nat.le_of_ble_eq_true rfl | decide +kernel) ?_ | refine dIf_t (decide_eq_true (by omega)) ?_ | refine dIf_f (decide_eq_false (by omega)) ?_ | refine And.intro (by omega) ?_); (conv => whnf))
  rw [Mu.inter_self]
  exact h
theorem is_modulus_ok {m : Int} (h0 : 0 < m) (h1 : m ≤ 64) (h2 : 64 % m = 0) (h : Q (.bl true) μ) : F_is_modulus [.int m] μ Q Xd := by
  rw [F_is_modulus_eq]; unfold fnD T_is_modulus
  (conv => whnf); repeat ((first | refine dIf_t (by first | rfl | decide +kernel) ?_ | refine dIf_f (by first | rfl | decide +kernel) ?_ | refine And.intro (by first | rfl | exact Nat.le_of_ble_eq_true rfl | decide +kernel) ?_ | refine dIf_t (decide_eq_true (by omega)) ?_ | refine dIf_f (decide_eq_false (by omega)) ?_ | refine And.intro (by omega) ?_); (conv => whnf))
  show Q (.bl (decide (64 % m = 0))) _
  rw [Mu.inter_self, decide_eq_true h2]
  exact h
theorem within_reg {n : Int} (h1 : Reg n) (h : Q (.bl true) μ) : F_is_within [.str "register", .int n] μ Q Xd := by
  obtain ⟨h0, h1⟩ := h1
  rw [F_is_within_eq]; unfold fnD T_is_within
  (conv => whnf); repeat ((first | refine dIf_t (by first | rfl | decide +kernel) ?_ | refine dIf_f (by first | rfl | decide +kernel) ?_ | refine And.intro (by first | rfl | exact Nat.le_of_ble_eq_true rfl | decide +kernel) ?_ | refine dIf_t (decide_eq_true (by omega)) ?_ | refine dIf_f (decide_eq_false (by omega)) ?_ | refine And.intro (by omega) ?_); (conv => whnf))
  show Q (.bl (decide (n < 8))) _
  rw [Mu.inter_self, decide_eq_true h1]
  exact h
theorem within_slot {n : Int} (h1 : Slot n) (h : Q (.bl true) μ) : F_is_within [.str "slot", .int n] μ Q Xd := by
  obtain ⟨h0, h1⟩ := h1
  rw [F_is_within_eq]; unfold fnD T_is_within
  (conv => whnf); repeat ((first | refine dIf_t (by first | rfl | decide +kernel) ?_ | refine dIf_f (by first | rfl | decide +kernel) ?_ | refine And.intro (by first | rfl | exact Nat.le_of_ble_eq_true rfl | decide +kernel) ?_ | refine dIf_t (decide_eq_true (by omega)) ?_ | refine dIf_f (decide_eq_false (by omega)) ?_ | refine And.intro (by omega) ?_); (conv => whnf))
  show Q (.bl (decide (n < 1000))) _
  rw [Mu.inter_self, decide_eq_true h1]
  exact h
theorem within_num {n : Int} (h1 : Num n) (h : Q (.bl true) μ) : F_is_within [.str "number", .int n] μ Q Xd := by
  obtain ⟨h0, h1⟩ := h1
  rw [F_is_within_eq]; unfold fnD T_is_within
  (conv => whnf); repeat ((first | refine dIf_t (by first | rfl | decide +kernel) ?_ | refine dIf_f (by first | rfl | decide +kernel) ?_ | refine And.intro (by first | rfl | exact Nat.le_of_ble_eq_true rfl | decide +kernel) ?_ | refine dIf_t (decide_eq_true (by omega)) ?_ | refine dIf_f (decide_eq_false (by omega)) ?_ | refine And.intro (by omega) ?_); (conv => whnf))
  show Q (.bl (decide (n < 18446744073709551616))) _
  rw [Mu.inter_self, decide_eq_true h1]
  exact h
theorem within_mod {n : Int} (h0 : 0 < n) (h1 : n ≤ 64) (h2 : 64 % n = 0) (h : Q (.bl true) μ) : F_is_within [.str "modulus", .int n] μ Q Xd := by
  rw [F_is_within_eq]; unfold fnD T_is_within
  (conv => whnf); repeat ((first | refine dIf_t (by first | rfl | decide +kernel) ?_ | refine dIf_f (by first | rfl | decide +kernel) ?_ | refine And.intro (by first | rfl | exact Nat.le_of_ble_eq_true rfl | decide +kernel) ?_ | refine dIf_t (decide_eq_true (by omega)) ?_ | refine dIf_f (decide_eq_false (by omega)) ?_ | refine And.intro (by omega) ?_); (conv => whnf))
  refine is_modulus_ok h0 h1 h2 ?_
  show Q _ _
  rw [Mu.inter_self]
  exact h
theorem within_rest {n : Int} (h0 : 0 ≤ n) (h1 : n < 64) (h : Q (.bl true) μ) : F_is_within [.str "rest", .int n] μ Q Xd := by
  rw [F_is_within_eq]; unfold fnD T_is_within
  (conv => whnf); repeat ((first | refine dIf_t (by first | rfl | decide +kernel) ?_ | refine dIf_f (by first | rfl | decide +kernel) ?_ | refine And.intro (by first | rfl | exact Nat.le_of_ble_eq_true rfl | decide +kernel) ?_ | refine dIf_t (decide_eq_true (by omega)) ?_ | refine dIf_f (decide_eq_false (by omega)) ?_ | refine And.intro (by omega) ?_); (conv => whnf))
  show Q (.bl (decide (n < 64))) _
  rw [Mu.inter_self, decide_eq_true h1]
  exact h
theorem within_count {n : Int} (h0 : 0 ≤ n) (h1 : n ≤ 1000) (h : Q (.bl true) μ) : F_is_within [.str "count", .int n] μ Q Xd := by
  rw [F_is_within_eq]; unfold fnD T_is_within
  (conv => whnf); repeat ((first | refine dIf_t (by first | rfl | decide +kernel) ?_ | refine dIf_f (by first | rfl | decide +kernel) ?_ | refine And.intro (by first | rfl | exact Nat.le_of_ble_eq_true rfl | decide +kernel) ?_ | refine dIf_t (decide_eq_true (by omega)) ?_ | refine dIf_f (decide_eq_false (by omega)) ?_ | refine And.intro (by omega) ?_); (conv => whnf))
  show Q (.bl (decide (n ≤ 1000))) _
  rw [Mu.inter_self, decide_eq_true h1]
  exact h
theorem is_row_ok {r : Row} (h : r.Ok) (hq : Q (.bl true) μ) : F_is_row [r.d] μ Q Xd := by
  cases r with
  | skip a m c n =>
    obtain ⟨h1, ⟨h2, h3, h4⟩, ⟨h5, h6⟩, h7, h8⟩ := h
    rw [F_is_row_eq]; unfold fnD T_is_row
    (conv => whnf); repeat ((first | (first | refine dIf_t (by first | rfl | decide +kernel) ?_ | refine dIf_f (by first | rfl | decide +kernel) ?_ | refine And.intro (by first | rfl | exact Nat.le_of_ble_eq_true rfl | decide +kernel) ?_ | refine dIf_t (decide_eq_true (by omega)) ?_ | refine dIf_f (decide_eq_false (by omega)) ?_ | refine And.intro (by omega) ?_) | refine is_integer_ok ?_ | refine within_reg ⟨by omega, by omega⟩ ?_ | refine within_mod (by omega) (by omega) (by omega) ?_ | refine within_rest (by omega) (by omega) ?_ | refine within_count (by omega) (by omega) ?_); (conv => whnf))
    show Q (.bl (decide (c < m))) _
    rw [Mu.inter_self, decide_eq_true h6]
    exact hq
  | set r n =>
    obtain ⟨h1, h2⟩ := h
    rw [F_is_row_eq]; unfold fnD T_is_row
    (conv => whnf); repeat ((first | (first | refine dIf_t (by first | rfl | decide +kernel) ?_ | refine dIf_f (by first | rfl | decide +kernel) ?_ | refine And.intro (by first | rfl | exact Nat.le_of_ble_eq_true rfl | decide +kernel) ?_ | refine dIf_t (decide_eq_true (by omega)) ?_ | refine dIf_f (decide_eq_false (by omega)) ?_ | refine And.intro (by omega) ?_) | refine is_integer_ok ?_ | refine within_reg h1 ?_ | refine within_num h2 ?_); (conv => whnf))
    rw [Mu.inter_self]
    exact hq
  | load r s =>
    obtain ⟨h1, h2⟩ := h
    rw [F_is_row_eq]; unfold fnD T_is_row
    (conv => whnf); repeat ((first | (first | refine dIf_t (by first | rfl | decide +kernel) ?_ | refine dIf_f (by first | rfl | decide +kernel) ?_ | refine And.intro (by first | rfl | exact Nat.le_of_ble_eq_true rfl | decide +kernel) ?_ | refine dIf_t (decide_eq_true (by omega)) ?_ | refine dIf_f (decide_eq_false (by omega)) ?_ | refine And.intro (by omega) ?_) | refine is_integer_ok ?_ | refine within_reg h1 ?_ | refine within_slot h2 ?_); (conv => whnf))
    rw [Mu.inter_self]
    exact hq
  | store s a =>
    obtain ⟨h1, h2⟩ := h
    rw [F_is_row_eq]; unfold fnD T_is_row
    (conv => whnf); repeat ((first | (first | refine dIf_t (by first | rfl | decide +kernel) ?_ | refine dIf_f (by first | rfl | decide +kernel) ?_ | refine And.intro (by first | rfl | exact Nat.le_of_ble_eq_true rfl | decide +kernel) ?_ | refine dIf_t (decide_eq_true (by omega)) ?_ | refine dIf_f (decide_eq_false (by omega)) ?_ | refine And.intro (by omega) ?_) | refine is_integer_ok ?_ | refine within_reg h2 ?_ | refine within_slot h1 ?_); (conv => whnf))
    rw [Mu.inter_self]
    exact hq
  | copy r a =>
    obtain ⟨h1, h2⟩ := h
    rw [F_is_row_eq]; unfold fnD T_is_row
    (conv => whnf); repeat ((first | (first | refine dIf_t (by first | rfl | decide +kernel) ?_ | refine dIf_f (by first | rfl | decide +kernel) ?_ | refine And.intro (by first | rfl | exact Nat.le_of_ble_eq_true rfl | decide +kernel) ?_ | refine dIf_t (decide_eq_true (by omega)) ?_ | refine dIf_f (decide_eq_false (by omega)) ?_ | refine And.intro (by omega) ?_) | refine is_integer_ok ?_ | refine within_reg h1 ?_ | refine within_reg h2 ?_); (conv => whnf))
    rw [Mu.inter_self]
    exact hq
  | left r a =>
    obtain ⟨h1, h2⟩ := h
    rw [F_is_row_eq]; unfold fnD T_is_row
    (conv => whnf); repeat ((first | (first | refine dIf_t (by first | rfl | decide +kernel) ?_ | refine dIf_f (by first | rfl | decide +kernel) ?_ | refine And.intro (by first | rfl | exact Nat.le_of_ble_eq_true rfl | decide +kernel) ?_ | refine dIf_t (decide_eq_true (by omega)) ?_ | refine dIf_f (decide_eq_false (by omega)) ?_ | refine And.intro (by omega) ?_) | refine is_integer_ok ?_ | refine within_reg h1 ?_ | refine within_reg h2 ?_); (conv => whnf))
    rw [Mu.inter_self]
    exact hq
  | right r a =>
    obtain ⟨h1, h2⟩ := h
    rw [F_is_row_eq]; unfold fnD T_is_row
    (conv => whnf); repeat ((first | (first | refine dIf_t (by first | rfl | decide +kernel) ?_ | refine dIf_f (by first | rfl | decide +kernel) ?_ | refine And.intro (by first | rfl | exact Nat.le_of_ble_eq_true rfl | decide +kernel) ?_ | refine dIf_t (decide_eq_true (by omega)) ?_ | refine dIf_f (decide_eq_false (by omega)) ?_ | refine And.intro (by omega) ?_) | refine is_integer_ok ?_ | refine within_reg h1 ?_ | refine within_reg h2 ?_); (conv => whnf))
    rw [Mu.inter_self]
    exact hq
  | add r a b =>
    obtain ⟨h1, h2, h3⟩ := h
    rw [F_is_row_eq]; unfold fnD T_is_row
    (conv => whnf); repeat ((first | (first | refine dIf_t (by first | rfl | decide +kernel) ?_ | refine dIf_f (by first | rfl | decide +kernel) ?_ | refine And.intro (by first | rfl | exact Nat.le_of_ble_eq_true rfl | decide +kernel) ?_ | refine dIf_t (decide_eq_true (by omega)) ?_ | refine dIf_f (decide_eq_false (by omega)) ?_ | refine And.intro (by omega) ?_) | refine is_integer_ok ?_ | refine within_reg h1 ?_ | refine within_reg h2 ?_ | refine within_reg h3 ?_); (conv => whnf))
    rw [Mu.inter_self]
    exact hq
  | sub r a b =>
    obtain ⟨h1, h2, h3⟩ := h
    rw [F_is_row_eq]; unfold fnD T_is_row
    (conv => whnf); repeat ((first | (first | refine dIf_t (by first | rfl | decide +kernel) ?_ | refine dIf_f (by first | rfl | decide +kernel) ?_ | refine And.intro (by first | rfl | exact Nat.le_of_ble_eq_true rfl | decide +kernel) ?_ | refine dIf_t (decide_eq_true (by omega)) ?_ | refine dIf_f (decide_eq_false (by omega)) ?_ | refine And.intro (by omega) ?_) | refine is_integer_ok ?_ | refine within_reg h1 ?_ | refine within_reg h2 ?_ | refine within_reg h3 ?_); (conv => whnf))
    rw [Mu.inter_self]
    exact hq
  | mul r a b =>
    obtain ⟨h1, h2, h3⟩ := h
    rw [F_is_row_eq]; unfold fnD T_is_row
    (conv => whnf); repeat ((first | (first | refine dIf_t (by first | rfl | decide +kernel) ?_ | refine dIf_f (by first | rfl | decide +kernel) ?_ | refine And.intro (by first | rfl | exact Nat.le_of_ble_eq_true rfl | decide +kernel) ?_ | refine dIf_t (decide_eq_true (by omega)) ?_ | refine dIf_f (decide_eq_false (by omega)) ?_ | refine And.intro (by omega) ?_) | refine is_integer_ok ?_ | refine within_reg h1 ?_ | refine within_reg h2 ?_ | refine within_reg h3 ?_); (conv => whnf))
    rw [Mu.inter_self]
    exact hq
end PD
set_option Elab.async false
set_option linter.all false
set_option autoImplicit false
set_option maxRecDepth 100000
set_option maxHeartbeats 4000000
namespace PD
open PySem PySem.Spec PyProof.Rows L2
variable {μ : Mu} {Q : QD} {Xd : XD → Mu → Prop}
abbrev rowsD (rs : List Row) : List D := rs.map Row.d
/-- a list or a tuple -/
def sqD (b : Bool) (xs : List D) : D := match b with | true => .tup xs | false => .lst xs
theorem rows_get {rs : List Row} {i : Nat} {d : D} (h : (rowsD rs)[i]? = some d) : ∃ r, rs[i]? = some r ∧ d = r.d := by
  rw [List.getElem?_map] at h
  cases e : rs[i]? with
  | none => rw [e] at h; cases h
  | some r => rw [e] at h; cases h; exact ⟨r, rfl, rfl⟩
theorem check_rows_ok {b : Bool} {rs : List Row} (h : CodeOk rs) (hq : Q .non μ) : F_check_rows [sqD b (rowsD rs)] μ Q Xd := by
  rw [F_check_rows_eq]; unfold fnD T_check_rows
  have hl : (rowsD rs).length = rs.length := List.length_map ..
  have hf := h.few
  cases b
  all_goals
    (conv => whnf)
    refine dIf_f (decide_eq_false ?_) ?_
    · show ¬ (((rowsD rs).length : Nat) : Int) > 1000
      rw [hl]
      omega
    (conv => whnf)
    show forL _ _ _ _ _ (enumL (rowsD rs)) _ _
    refine forL_inv (fun i ρ' μ' => (∃ x y, ρ' = [some (sqD _ (rowsD rs)), x, y]) ∧ μ' = μ) ⟨⟨_, _, rfl⟩, rfl⟩ (fun _ _ _ _ => ck_nil) (fun i x ρ' μ' hx hi N hN => ?_) (fun ρ' μ' hi => ?_)
    · obtain ⟨⟨y, z, rfl⟩, rfl⟩ := hi
      obtain ⟨x', hx', rfl⟩ := enumL_get hx
      obtain ⟨r, hr, rfl⟩ := rows_get hx'
      have hlt : i < rs.length := by
        obtain ⟨q, _⟩ := List.getElem?_eq_some_iff.mp hr
        exact q
      have far := h.far i r hr
      have rok := h.row r (List.mem_of_getElem? hr)
      (conv => whnf); repeat ((first | (first | refine dIf_t (by first | rfl | decide +kernel) ?_ | refine dIf_f (by first | rfl | decide +kernel) ?_ | refine And.intro (by first | rfl | exact Nat.le_of_ble_eq_true rfl | decide +kernel) ?_ | refine dIf_t (decide_eq_true (by omega)) ?_ | refine dIf_f (decide_eq_false (by omega)) ?_ | refine And.intro (by omega) ?_) | refine is_row_ok rok ?_); (conv => whnf))
      cases r with
      | skip a m c n =>
        (conv => whnf); repeat ((first | refine dIf_t (by first | rfl | decide +kernel) ?_ | refine dIf_f (by first | rfl | decide +kernel) ?_ | refine And.intro (by first | rfl | exact Nat.le_of_ble_eq_true rfl | decide +kernel) ?_ | refine dIf_t (decide_eq_true (by omega)) ?_ | refine dIf_f (decide_eq_false (by omega)) ?_ | refine And.intro (by omega) ?_); (conv => whnf))
        have q : (i : Int) + n < rs.length := far rfl
        refine dIf_f (decide_eq_false ?_) (hN _ _ ⟨⟨_, _, rfl⟩, rfl⟩)
        show ¬ ((i : Int) + n ≥ ((rowsD rs).length : Nat))
        rw [hl]
        omega
      | _ =>
        (conv => whnf); repeat ((first | refine dIf_t (by first | rfl | decide +kernel) ?_ | refine dIf_f (by first | rfl | decide +kernel) ?_ | refine And.intro (by first | rfl | exact Nat.le_of_ble_eq_true rfl | decide +kernel) ?_ | refine dIf_t (decide_eq_true (by omega)) ?_ | refine dIf_f (decide_eq_false (by omega)) ?_ | refine And.intro (by omega) ?_); (conv => whnf))
        exact hN _ _ ⟨⟨_, _, rfl⟩, rfl⟩
    · obtain ⟨_, rfl⟩ := hi
      show Q _ _
      rw [Mu.inter_self]
      exact hq
def codeD (rs : List Row) : D := .obj "Code" [("rows", .tup (rowsD rs))]
theorem code_init_ok {b : Bool} {rs : List Row} {x : Addr} (h : CodeOk rs) (hx : μ x = some (.ins "Code" [])) (hq : Q .non (μ.set x (.ins "Code" [("rows", .tup (rowsD rs))]))) : F_Code_init [.ptr x, sqD b (rowsD rs)] μ Q Xd := by
  rw [F_Code_init_eq]; unfold fnD T_Code_init
  cases b
  all_goals
    (conv => whnf); repeat ((first | (first | refine dIf_t (by first | rfl | decide +kernel) ?_ | refine dIf_f (by first | rfl | decide +kernel) ?_ | refine And.intro (by first | rfl | exact Nat.le_of_ble_eq_true rfl | decide +kernel) ?_ | refine dIf_t (decide_eq_true (by omega)) ?_ | refine dIf_f (decide_eq_false (by omega)) ?_ | refine And.intro (by omega) ?_) | refine check_rows_ok (b := false) h ?_ | refine check_rows_ok (b := true) h ?_); (conv => whnf))
    rw [hx]
    (conv => whnf); repeat ((first | refine dIf_t (by first | rfl | decide +kernel) ?_ | refine dIf_f (by first | rfl | decide +kernel) ?_ | refine And.intro (by first | rfl | exact Nat.le_of_ble_eq_true rfl | decide +kernel) ?_ | refine dIf_t (decide_eq_true (by omega)) ?_ | refine dIf_f (decide_eq_false (by omega)) ?_ | refine And.intro (by omega) ?_); (conv => whnf))
    rw [Mu.inter_set (by rw [hx]; rfl), Mu.inter_self]
    exact hq
theorem Mu.set_del {m : MO} {x : Addr} (h : μ x = none) : (μ.set x m).del x = μ := by
  funext b
  unfold Mu.del Mu.set
  by_cases e : b = x
  · subst e
    simp [h]
  · simp [e]
/-- Code(rows) -/
theorem new_code {b : Bool} {rs : List Row} (h : CodeOk rs) (hq : Q (codeD rs) μ) : mkD false "Code" 2 F_Code_init [sqD b (rowsD rs)] μ Q Xd := by
  unfold mkD
  intro x hx
  refine ⟨rfl, code_init_ok h Mu.set_same ?_⟩
  rw [Mu.set_set]
  show (match (μ.set x _) x with | some (.ins C' gs) => C' = "Code" ∧ Q (.obj "Code" gs) ((μ.set x _).del x) | _ => False)
  rw [Mu.set_same, Mu.set_del hx]
  exact ⟨rfl, hq⟩
end PD
set_option Elab.async false
set_option linter.all false
set_option autoImplicit false
set_option maxRecDepth 100000
set_option maxHeartbeats 4000000
namespace PD
open PySem PySem.Spec PyProof.Rows L2
variable {μ : Mu} {Q : QD} {Xd : XD → Mu → Prop} {d l : Addr}
theorem pow_le64 {r : Int} (h0 : 0 ≤ r) (h1 : r < 64) : (1 : Int) ≤ 2 ^ r.toNat ∧ (2 : Int) ^ r.toNat ≤ 9223372036854775808 := by
  have h : r.toNat ≤ 63 := by omega
  have a : (2 : Nat) ^ r.toNat ≤ 2 ^ 63 := Nat.pow_le_pow_right (by decide) h
  have b : 0 < (2 : Nat) ^ r.toNat := Nat.pow_pos (by decide)
  have c : ((2 : Nat) ^ r.toNat : Int) = (2 : Int) ^ r.toNat := by norm_cast
  constructor
  · rw [← c]; exact_mod_cast b
  · have a' : (2 : Nat) ^ r.toNat ≤ 9223372036854775808 := Nat.le_trans a (by decide)
    rw [← c]
    have := Int.ofNat_le.mpr a'
    simpa using this
theorem shl1 {r : Int} (h0 : 0 ≤ r) (h1 : r ≤ 1000000) : CShl 1 r := by
  have := shl_ok (i := 1) (j := r.toNat) (n := 1) (by decide) (by omega)
  rwa [Int.toNat_of_nonneg h0] at this
theorem number_ok (hm : μ d = some (.deal l)) (h : ∀ n : Int, Num n → Q (.int n) μ) : F_law_number [.ptr d] μ Q Xd := by
  rw [F_law_number_eq]; unfold fnD T_law_number
  conv => whnf
  refine ⟨rfl, drawn hm (by decide) (by decide) fun f f0 f1 => ?_⟩
  conv => whnf
  refine ⟨rfl, drawn hm (by decide) (by decide) fun n n0 n1 => ?_⟩
  let M : PD.Env → Mu → Prop := fun ρ' μ' => ∃ v : Int, 0 ≤ v ∧ v < 18446744073709551616 ∧ ρ' = [some (.ptr d), some (.int f), some (.int v)] ∧ μ' = μ
  refine ⟨M, ?_, ?_⟩
  · conv => whnf
    refine dIf_of (fun e => ?_) (fun e => ⟨n, n0, by omega, rfl, rfl⟩)
    conv => whnf
    refine ⟨rfl, drawn hm (by decide) (by decide) fun r r0 r1 => ?_⟩
    conv => whnf
    refine ⟨shl1 r0 (by omega), ?_⟩
    conv => whnf
    refine ⟨rfl, drawn hm (by decide) (by decide) fun z z0 z1 => ?_⟩
    have p := pow_le64 r0 r1
    exact ⟨1 * 2 ^ r.toNat - z, by omega, by omega, rfl, rfl⟩
  rintro ρ' μ' ⟨v, v0, v1, rfl, rfl⟩
  refine ⟨M, ?_, ?_⟩
  · conv => whnf
    refine dIf_of (fun e => ?_) (fun e => ⟨v, v0, v1, rfl, rfl⟩)
    conv => whnf
    refine ⟨shl1 (by decide) (by decide), ⟨rfl, drawn hm (by decide) (by decide) fun r r0 r1 => ?_⟩⟩
    exact ⟨r, r0, r1, rfl, rfl⟩
  rintro ρ' μ' ⟨v, v0, v1, rfl, rfl⟩
  conv => whnf
  refine ⟨(by show 2 ≤ sizeLine; decide), ?_⟩
  conv => whnf
  refine ⟨rfl, drawn hm (by decide) (by decide) fun z z0 z1 => ?_⟩
  have hz : z = 0 ∨ z = 1 := by omega
  rcases hz with rfl | rfl
  · show Q (.int v) (Mu.inter _ _)
    rw [Mu.inter_self]
    exact h v ⟨by omega, v1⟩
  · show Q (.int (0 - v)) (Mu.inter _ _)
    rw [Mu.inter_self]
    exact h _ ⟨by omega, by omega⟩
/-- a row as the law draws it: registers below R, no more than left rows skipped -/
def Row.Drawn (R left : Int) : Row → Prop
  | .set r n => (0 ≤ r ∧ r < R) ∧ Num n
  | .copy r a => (0 ≤ r ∧ r < R) ∧ 0 ≤ a ∧ a < R | .left r a => (0 ≤ r ∧ r < R) ∧ 0 ≤ a ∧ a < R | .right r a => (0 ≤ r ∧ r < R) ∧ 0 ≤ a ∧ a < R
  | .add r a b => (0 ≤ r ∧ r < R) ∧ (0 ≤ a ∧ a < R) ∧ 0 ≤ b ∧ b < R | .sub r a b => (0 ≤ r ∧ r < R) ∧ (0 ≤ a ∧ a < R) ∧ 0 ≤ b ∧ b < R | .mul r a b => (0 ≤ r ∧ r < R) ∧ (0 ≤ a ∧ a < R) ∧ 0 ≤ b ∧ b < R
  | .load r s => (0 ≤ r ∧ r < R) ∧ Slot s | .store s a => Slot s ∧ 0 ≤ a ∧ a < R
  | .skip a m c n => (0 ≤ a ∧ a < R) ∧ (∃ j : Nat, j ≤ 6 ∧ m = 2 ^ j) ∧ (0 ≤ c ∧ c < m) ∧ 0 ≤ n ∧ n ≤ left
theorem law_row_ok {R left : Int} (hm : μ d = some (.deal l)) (hR : 1 ≤ R ∧ R ≤ 8) (hl : 0 ≤ left ∧ left ≤ 1000) (h : ∀ r : Row, r.Drawn R left → Q r.d μ) : F_law_row [.ptr d, .int R, .int left] μ Q Xd := by
  rw [F_law_row_eq]; unfold fnD T_law_row
  (conv => whnf); repeat ((first | refine dIf_t (by first | rfl | decide +kernel) ?_ | refine dIf_f (by first | rfl | decide +kernel) ?_ | refine And.intro (by first | rfl | exact Nat.le_of_ble_eq_true rfl | decide +kernel) ?_ | refine dIf_t (decide_eq_true (by omega)) ?_ | refine dIf_f (decide_eq_false (by omega)) ?_ | refine And.intro (by omega) ?_); (conv => whnf))
  refine drawn hm (by decide) (by decide) fun w w0 w1 => ?_
  have hw : w = 0 ∨ w = 1 ∨ w = 2 ∨ w = 3 ∨ w = 4 ∨ w = 5 ∨ w = 6 ∨ w = 7 ∨ w = 8 ∨ w = 9 ∨ w = 10 ∨ w = 11 ∨ w = 12 := by omega
  rcases hw with rfl | rfl | rfl | rfl | rfl | rfl | rfl | rfl | rfl | rfl | rfl | rfl | rfl
  · clear w0 w1
    (conv => whnf); repeat ((first | (first | refine dIf_t (by first | rfl | decide +kernel) ?_ | refine dIf_f (by first | rfl | decide +kernel) ?_ | refine And.intro (by first | rfl | exact Nat.le_of_ble_eq_true rfl | decide +kernel) ?_ | refine dIf_t (decide_eq_true (by omega)) ?_ | refine dIf_f (decide_eq_false (by omega)) ?_ | refine And.intro (by omega) ?_) | refine drawn hm (by omega) (by omega) fun r r0 r1 => ?_ | refine number_ok hm fun n hn => ?_); (conv => whnf))
    rw [Mu.inter_self]
    exact h (.set _ _) ⟨⟨by assumption, by assumption⟩, hn⟩
  · clear w0 w1
    (conv => whnf); repeat ((first | (first | refine dIf_t (by first | rfl | decide +kernel) ?_ | refine dIf_f (by first | rfl | decide +kernel) ?_ | refine And.intro (by first | rfl | exact Nat.le_of_ble_eq_true rfl | decide +kernel) ?_ | refine dIf_t (decide_eq_true (by omega)) ?_ | refine dIf_f (decide_eq_false (by omega)) ?_ | refine And.intro (by omega) ?_) | refine drawn hm (by omega) (by omega) fun r r0 r1 => ?_ | refine number_ok hm fun n hn => ?_); (conv => whnf))
    rw [Mu.inter_self]
    exact h (.copy _ _) ⟨⟨by assumption, by assumption⟩, by assumption, by assumption⟩
  · clear w0 w1
    (conv => whnf); repeat ((first | (first | refine dIf_t (by first | rfl | decide +kernel) ?_ | refine dIf_f (by first | rfl | decide +kernel) ?_ | refine And.intro (by first | rfl | exact Nat.le_of_ble_eq_true rfl | decide +kernel) ?_ | refine dIf_t (decide_eq_true (by omega)) ?_ | refine dIf_f (decide_eq_false (by omega)) ?_ | refine And.intro (by omega) ?_) | refine drawn hm (by omega) (by omega) fun r r0 r1 => ?_ | refine number_ok hm fun n hn => ?_); (conv => whnf))
    rw [Mu.inter_self]
    exact h (.add _ _ _) ⟨⟨by assumption, by assumption⟩, ⟨by assumption, by assumption⟩, by assumption, by assumption⟩
  · clear w0 w1
    (conv => whnf); repeat ((first | (first | refine dIf_t (by first | rfl | decide +kernel) ?_ | refine dIf_f (by first | rfl | decide +kernel) ?_ | refine And.intro (by first | rfl | exact Nat.le_of_ble_eq_true rfl | decide +kernel) ?_ | refine dIf_t (decide_eq_true (by omega)) ?_ | refine dIf_f (decide_eq_false (by omega)) ?_ | refine And.intro (by omega) ?_) | refine drawn hm (by omega) (by omega) fun r r0 r1 => ?_ | refine number_ok hm fun n hn => ?_); (conv => whnf))
    rw [Mu.inter_self]
    exact h (.sub _ _ _) ⟨⟨by assumption, by assumption⟩, ⟨by assumption, by assumption⟩, by assumption, by assumption⟩
  · clear w0 w1
    (conv => whnf); repeat ((first | (first | refine dIf_t (by first | rfl | decide +kernel) ?_ | refine dIf_f (by first | rfl | decide +kernel) ?_ | refine And.intro (by first | rfl | exact Nat.le_of_ble_eq_true rfl | decide +kernel) ?_ | refine dIf_t (decide_eq_true (by omega)) ?_ | refine dIf_f (decide_eq_false (by omega)) ?_ | refine And.intro (by omega) ?_) | refine drawn hm (by omega) (by omega) fun r r0 r1 => ?_ | refine number_ok hm fun n hn => ?_); (conv => whnf))
    rw [Mu.inter_self]
    exact h (.mul _ _ _) ⟨⟨by assumption, by assumption⟩, ⟨by assumption, by assumption⟩, by assumption, by assumption⟩
  · clear w0 w1
    (conv => whnf); repeat ((first | (first | refine dIf_t (by first | rfl | decide +kernel) ?_ | refine dIf_f (by first | rfl | decide +kernel) ?_ | refine And.intro (by first | rfl | exact Nat.le_of_ble_eq_true rfl | decide +kernel) ?_ | refine dIf_t (decide_eq_true (by omega)) ?_ | refine dIf_f (decide_eq_false (by omega)) ?_ | refine And.intro (by omega) ?_) | refine drawn hm (by omega) (by omega) fun r r0 r1 => ?_ | refine number_ok hm fun n hn => ?_); (conv => whnf))
    rw [Mu.inter_self]
    exact h (.add _ _ _) ⟨⟨by assumption, by assumption⟩, ⟨by assumption, by assumption⟩, by assumption, by assumption⟩
  · clear w0 w1
    (conv => whnf); repeat ((first | (first | refine dIf_t (by first | rfl | decide +kernel) ?_ | refine dIf_f (by first | rfl | decide +kernel) ?_ | refine And.intro (by first | rfl | exact Nat.le_of_ble_eq_true rfl | decide +kernel) ?_ | refine dIf_t (decide_eq_true (by omega)) ?_ | refine dIf_f (decide_eq_false (by omega)) ?_ | refine And.intro (by omega) ?_) | refine drawn hm (by omega) (by omega) fun r r0 r1 => ?_ | refine number_ok hm fun n hn => ?_); (conv => whnf))
    rw [Mu.inter_self]
    exact h (.mul _ _ _) ⟨⟨by assumption, by assumption⟩, ⟨by assumption, by assumption⟩, by assumption, by assumption⟩
  · clear w0 w1
    (conv => whnf); repeat ((first | (first | refine dIf_t (by first | rfl | decide +kernel) ?_ | refine dIf_f (by first | rfl | decide +kernel) ?_ | refine And.intro (by first | rfl | exact Nat.le_of_ble_eq_true rfl | decide +kernel) ?_ | refine dIf_t (decide_eq_true (by omega)) ?_ | refine dIf_f (decide_eq_false (by omega)) ?_ | refine And.intro (by omega) ?_) | refine drawn hm (by omega) (by omega) fun r r0 r1 => ?_ | refine number_ok hm fun n hn => ?_); (conv => whnf))
    rw [Mu.inter_self]
    exact h (.left _ _) ⟨⟨by assumption, by assumption⟩, by assumption, by assumption⟩
  · clear w0 w1
    (conv => whnf); repeat ((first | (first | refine dIf_t (by first | rfl | decide +kernel) ?_ | refine dIf_f (by first | rfl | decide +kernel) ?_ | refine And.intro (by first | rfl | exact Nat.le_of_ble_eq_true rfl | decide +kernel) ?_ | refine dIf_t (decide_eq_true (by omega)) ?_ | refine dIf_f (decide_eq_false (by omega)) ?_ | refine And.intro (by omega) ?_) | refine drawn hm (by omega) (by omega) fun r r0 r1 => ?_ | refine number_ok hm fun n hn => ?_); (conv => whnf))
    rw [Mu.inter_self]
    exact h (.right _ _) ⟨⟨by assumption, by assumption⟩, by assumption, by assumption⟩
  · clear w0 w1
    (conv => whnf); repeat ((first | (first | refine dIf_t (by first | rfl | decide +kernel) ?_ | refine dIf_f (by first | rfl | decide +kernel) ?_ | refine And.intro (by first | rfl | exact Nat.le_of_ble_eq_true rfl | decide +kernel) ?_ | refine dIf_t (decide_eq_true (by omega)) ?_ | refine dIf_f (decide_eq_false (by omega)) ?_ | refine And.intro (by omega) ?_) | refine drawn hm (by omega) (by omega) fun r r0 r1 => ?_ | refine number_ok hm fun n hn => ?_); (conv => whnf))
    rw [Mu.inter_self]
    exact h (.right _ _) ⟨⟨by assumption, by assumption⟩, by assumption, by assumption⟩
  · clear w0 w1
    (conv => whnf); repeat ((first | (first | refine dIf_t (by first | rfl | decide +kernel) ?_ | refine dIf_f (by first | rfl | decide +kernel) ?_ | refine And.intro (by first | rfl | exact Nat.le_of_ble_eq_true rfl | decide +kernel) ?_ | refine dIf_t (decide_eq_true (by omega)) ?_ | refine dIf_f (decide_eq_false (by omega)) ?_ | refine And.intro (by omega) ?_) | refine drawn hm (by omega) (by omega) fun r r0 r1 => ?_ | refine number_ok hm fun n hn => ?_); (conv => whnf))
    have hr : r = 0 ∨ r = 1 ∨ r = 2 := by omega
    rcases hr with rfl | rfl | rfl
    all_goals
      (conv => whnf); repeat ((first | refine dIf_t (by first | rfl | decide +kernel) ?_ | refine dIf_f (by first | rfl | decide +kernel) ?_ | refine And.intro (by first | rfl | exact Nat.le_of_ble_eq_true rfl | decide +kernel) ?_ | refine dIf_t (decide_eq_true (by omega)) ?_ | refine dIf_f (decide_eq_false (by omega)) ?_ | refine And.intro (by omega) ?_); (conv => whnf))
      rw [Mu.inter_self]
      exact h (.load _ _) ⟨⟨by assumption, by assumption⟩, by decide, by decide⟩
  · clear w0 w1
    (conv => whnf); repeat ((first | (first | refine dIf_t (by first | rfl | decide +kernel) ?_ | refine dIf_f (by first | rfl | decide +kernel) ?_ | refine And.intro (by first | rfl | exact Nat.le_of_ble_eq_true rfl | decide +kernel) ?_ | refine dIf_t (decide_eq_true (by omega)) ?_ | refine dIf_f (decide_eq_false (by omega)) ?_ | refine And.intro (by omega) ?_) | refine drawn hm (by omega) (by omega) fun r r0 r1 => ?_ | refine number_ok hm fun n hn => ?_); (conv => whnf))
    have hr : r = 0 ∨ r = 1 ∨ r = 2 := by omega
    rcases hr with rfl | rfl | rfl
    all_goals
      (conv => whnf); repeat ((first | refine dIf_t (by first | rfl | decide +kernel) ?_ | refine dIf_f (by first | rfl | decide +kernel) ?_ | refine And.intro (by first | rfl | exact Nat.le_of_ble_eq_true rfl | decide +kernel) ?_ | refine dIf_t (decide_eq_true (by omega)) ?_ | refine dIf_f (decide_eq_false (by omega)) ?_ | refine And.intro (by omega) ?_); (conv => whnf))
      rw [Mu.inter_self]
      exact h (.store _ _) ⟨⟨by decide, by decide⟩, by assumption, by assumption⟩
  · clear w0 w1
    (conv => whnf); repeat ((first | (first | refine dIf_t (by first | rfl | decide +kernel) ?_ | refine dIf_f (by first | rfl | decide +kernel) ?_ | refine And.intro (by first | rfl | exact Nat.le_of_ble_eq_true rfl | decide +kernel) ?_ | refine dIf_t (decide_eq_true (by omega)) ?_ | refine dIf_f (decide_eq_false (by omega)) ?_ | refine And.intro (by omega) ?_) | refine drawn hm (by omega) (by omega) fun r r0 r1 => ?_ | refine number_ok hm fun n hn => ?_); (conv => whnf))
    have hr : r = 0 ∨ r = 1 ∨ r = 2 := by omega
    rcases hr with rfl | rfl | rfl
    · refine ⟨shl1 (by decide) (by decide), ?_⟩
      show _
      (conv => whnf)
      refine ⟨rfl, drawn hm (by decide) (by decide) fun c c0 c1 => ?_⟩
      (conv => whnf)
      refine ⟨rfl, drawn hm (by omega) (by omega) fun n n0 n1 => ?_⟩
      (conv => whnf); repeat ((first | refine dIf_t (by first | rfl | decide +kernel) ?_ | refine dIf_f (by first | rfl | decide +kernel) ?_ | refine And.intro (by first | rfl | exact Nat.le_of_ble_eq_true rfl | decide +kernel) ?_ | refine dIf_t (decide_eq_true (by omega)) ?_ | refine dIf_f (decide_eq_false (by omega)) ?_ | refine And.intro (by omega) ?_); (conv => whnf))
      rw [Mu.inter_self]
      exact h (.skip _ (2 ^ 0) c n) ⟨⟨by assumption, by assumption⟩, ⟨0, by decide, rfl⟩, ⟨c0, c1⟩, n0, by omega⟩
    · refine ⟨shl1 (by decide) (by decide), ?_⟩
      show _
      (conv => whnf)
      refine ⟨rfl, drawn hm (by decide) (by decide) fun c c0 c1 => ?_⟩
      (conv => whnf)
      refine ⟨rfl, drawn hm (by omega) (by omega) fun n n0 n1 => ?_⟩
      (conv => whnf); repeat ((first | refine dIf_t (by first | rfl | decide +kernel) ?_ | refine dIf_f (by first | rfl | decide +kernel) ?_ | refine And.intro (by first | rfl | exact Nat.le_of_ble_eq_true rfl | decide +kernel) ?_ | refine dIf_t (decide_eq_true (by omega)) ?_ | refine dIf_f (decide_eq_false (by omega)) ?_ | refine And.intro (by omega) ?_); (conv => whnf))
      rw [Mu.inter_self]
      exact h (.skip _ (2 ^ 1) c n) ⟨⟨by assumption, by assumption⟩, ⟨1, by decide, rfl⟩, ⟨c0, c1⟩, n0, by omega⟩
    · refine ⟨shl1 (by decide) (by decide), ?_⟩
      show _
      (conv => whnf)
      refine ⟨rfl, drawn hm (by decide) (by decide) fun c c0 c1 => ?_⟩
      (conv => whnf)
      refine ⟨rfl, drawn hm (by omega) (by omega) fun n n0 n1 => ?_⟩
      (conv => whnf); repeat ((first | refine dIf_t (by first | rfl | decide +kernel) ?_ | refine dIf_f (by first | rfl | decide +kernel) ?_ | refine And.intro (by first | rfl | exact Nat.le_of_ble_eq_true rfl | decide +kernel) ?_ | refine dIf_t (decide_eq_true (by omega)) ?_ | refine dIf_f (decide_eq_false (by omega)) ?_ | refine And.intro (by omega) ?_); (conv => whnf))
      rw [Mu.inter_self]
      exact h (.skip _ (2 ^ 2) c n) ⟨⟨by assumption, by assumption⟩, ⟨2, by decide, rfl⟩, ⟨c0, c1⟩, n0, by omega⟩
end PD
set_option Elab.async false
set_option linter.all false
set_option autoImplicit false
set_option maxRecDepth 100000
set_option maxHeartbeats 4000000
namespace PD
open PySem PySem.Spec PyProof.Rows L2
variable {μ : Mu} {Q : QD} {Xd : XD → Mu → Prop} {d l : Addr}
theorem law_far_row_ok {R left : Int} (hm : μ d = some (.deal l)) (hR : 1 ≤ R ∧ R ≤ 8) (hl : 0 ≤ left ∧ left ≤ 1000) (h : ∀ r : Row, r.Drawn R left → Q r.d μ) : F_law_far_row [.ptr d, .int R, .int left] μ Q Xd := by
  rw [F_law_far_row_eq]; unfold fnD T_law_far_row
  (conv => whnf)
  refine ⟨rfl, law_row_ok hm hR hl fun r hr => ?_⟩
  cases r with
  | load r s =>
    obtain ⟨h1, h2⟩ := hr
    (conv => whnf); repeat ((first | (first | refine dIf_t (by first | rfl | decide +kernel) ?_ | refine dIf_f (by first | rfl | decide +kernel) ?_ | refine And.intro (by first | rfl | exact Nat.le_of_ble_eq_true rfl | decide +kernel) ?_ | refine dIf_t (decide_eq_true (by omega)) ?_ | refine dIf_f (decide_eq_false (by omega)) ?_ | refine And.intro (by omega) ?_) | refine drawn hm (by omega) (by omega) fun z z0 z1 => ?_); (conv => whnf))
    rw [Mu.inter_self]
    exact h (.load _ _) ⟨h1, z0, z1⟩
  | store s a =>
    obtain ⟨h1, h2⟩ := hr
    (conv => whnf); repeat ((first | (first | refine dIf_t (by first | rfl | decide +kernel) ?_ | refine dIf_f (by first | rfl | decide +kernel) ?_ | refine And.intro (by first | rfl | exact Nat.le_of_ble_eq_true rfl | decide +kernel) ?_ | refine dIf_t (decide_eq_true (by omega)) ?_ | refine dIf_f (decide_eq_false (by omega)) ?_ | refine And.intro (by omega) ?_) | refine drawn hm (by omega) (by omega) fun z z0 z1 => ?_); (conv => whnf))
    rw [Mu.inter_self]
    exact h (.store _ _) ⟨⟨z0, z1⟩, h2⟩
  | skip a m c n =>
    obtain ⟨h1, h2, h3, h4⟩ := hr
    (conv => whnf); repeat ((first | (first | refine dIf_t (by first | rfl | decide +kernel) ?_ | refine dIf_f (by first | rfl | decide +kernel) ?_ | refine And.intro (by first | rfl | exact Nat.le_of_ble_eq_true rfl | decide +kernel) ?_ | refine dIf_t (decide_eq_true (by omega)) ?_ | refine dIf_f (decide_eq_false (by omega)) ?_ | refine And.intro (by omega) ?_) | refine drawn hm (by omega) (by omega) fun z z0 z1 => ?_); (conv => whnf))
    have hz : z = 0 ∨ z = 1 ∨ z = 2 ∨ z = 3 ∨ z = 4 ∨ z = 5 ∨ z = 6 := by omega
    rcases hz with rfl | rfl | rfl | rfl | rfl | rfl | rfl
    · refine ⟨shl1 (by decide) (by decide), ?_⟩
      (conv => whnf)
      refine ⟨rfl, drawn hm (by decide) (by decide) fun c' c0 c1 => ?_⟩
      (conv => whnf); repeat ((first | refine dIf_t (by first | rfl | decide +kernel) ?_ | refine dIf_f (by first | rfl | decide +kernel) ?_ | refine And.intro (by first | rfl | exact Nat.le_of_ble_eq_true rfl | decide +kernel) ?_ | refine dIf_t (decide_eq_true (by omega)) ?_ | refine dIf_f (decide_eq_false (by omega)) ?_ | refine And.intro (by omega) ?_); (conv => whnf))
      rw [Mu.inter_self]
      exact h (.skip _ (2 ^ 0) c' n) ⟨h1, ⟨0, by decide, rfl⟩, ⟨c0, c1⟩, h4⟩
    · refine ⟨shl1 (by decide) (by decide), ?_⟩
      (conv => whnf)
      refine ⟨rfl, drawn hm (by decide) (by decide) fun c' c0 c1 => ?_⟩
      (conv => whnf); repeat ((first | refine dIf_t (by first | rfl | decide +kernel) ?_ | refine dIf_f (by first | rfl | decide +kernel) ?_ | refine And.intro (by first | rfl | exact Nat.le_of_ble_eq_true rfl | decide +kernel) ?_ | refine dIf_t (decide_eq_true (by omega)) ?_ | refine dIf_f (decide_eq_false (by omega)) ?_ | refine And.intro (by omega) ?_); (conv => whnf))
      rw [Mu.inter_self]
      exact h (.skip _ (2 ^ 1) c' n) ⟨h1, ⟨1, by decide, rfl⟩, ⟨c0, c1⟩, h4⟩
    · refine ⟨shl1 (by decide) (by decide), ?_⟩
      (conv => whnf)
      refine ⟨rfl, drawn hm (by decide) (by decide) fun c' c0 c1 => ?_⟩
      (conv => whnf); repeat ((first | refine dIf_t (by first | rfl | decide +kernel) ?_ | refine dIf_f (by first | rfl | decide +kernel) ?_ | refine And.intro (by first | rfl | exact Nat.le_of_ble_eq_true rfl | decide +kernel) ?_ | refine dIf_t (decide_eq_true (by omega)) ?_ | refine dIf_f (decide_eq_false (by omega)) ?_ | refine And.intro (by omega) ?_); (conv => whnf))
      rw [Mu.inter_self]
      exact h (.skip _ (2 ^ 2) c' n) ⟨h1, ⟨2, by decide, rfl⟩, ⟨c0, c1⟩, h4⟩
    · refine ⟨shl1 (by decide) (by decide), ?_⟩
      (conv => whnf)
      refine ⟨rfl, drawn hm (by decide) (by decide) fun c' c0 c1 => ?_⟩
      (conv => whnf); repeat ((first | refine dIf_t (by first | rfl | decide +kernel) ?_ | refine dIf_f (by first | rfl | decide +kernel) ?_ | refine And.intro (by first | rfl | exact Nat.le_of_ble_eq_true rfl | decide +kernel) ?_ | refine dIf_t (decide_eq_true (by omega)) ?_ | refine dIf_f (decide_eq_false (by omega)) ?_ | refine And.intro (by omega) ?_); (conv => whnf))
      rw [Mu.inter_self]
      exact h (.skip _ (2 ^ 3) c' n) ⟨h1, ⟨3, by decide, rfl⟩, ⟨c0, c1⟩, h4⟩
    · refine ⟨shl1 (by decide) (by decide), ?_⟩
      (conv => whnf)
      refine ⟨rfl, drawn hm (by decide) (by decide) fun c' c0 c1 => ?_⟩
      (conv => whnf); repeat ((first | refine dIf_t (by first | rfl | decide +kernel) ?_ | refine dIf_f (by first | rfl | decide +kernel) ?_ | refine And.intro (by first | rfl | exact Nat.le_of_ble_eq_true rfl | decide +kernel) ?_ | refine dIf_t (decide_eq_true (by omega)) ?_ | refine dIf_f (decide_eq_false (by omega)) ?_ | refine And.intro (by omega) ?_); (conv => whnf))
      rw [Mu.inter_self]
      exact h (.skip _ (2 ^ 4) c' n) ⟨h1, ⟨4, by decide, rfl⟩, ⟨c0, c1⟩, h4⟩
    · refine ⟨shl1 (by decide) (by decide), ?_⟩
      (conv => whnf)
      refine ⟨rfl, drawn hm (by decide) (by decide) fun c' c0 c1 => ?_⟩
      (conv => whnf); repeat ((first | refine dIf_t (by first | rfl | decide +kernel) ?_ | refine dIf_f (by first | rfl | decide +kernel) ?_ | refine And.intro (by first | rfl | exact Nat.le_of_ble_eq_true rfl | decide +kernel) ?_ | refine dIf_t (decide_eq_true (by omega)) ?_ | refine dIf_f (decide_eq_false (by omega)) ?_ | refine And.intro (by omega) ?_); (conv => whnf))
      rw [Mu.inter_self]
      exact h (.skip _ (2 ^ 5) c' n) ⟨h1, ⟨5, by decide, rfl⟩, ⟨c0, c1⟩, h4⟩
    · refine ⟨shl1 (by decide) (by decide), ?_⟩
      (conv => whnf)
      refine ⟨rfl, drawn hm (by decide) (by decide) fun c' c0 c1 => ?_⟩
      (conv => whnf); repeat ((first | refine dIf_t (by first | rfl | decide +kernel) ?_ | refine dIf_f (by first | rfl | decide +kernel) ?_ | refine And.intro (by first | rfl | exact Nat.le_of_ble_eq_true rfl | decide +kernel) ?_ | refine dIf_t (decide_eq_true (by omega)) ?_ | refine dIf_f (decide_eq_false (by omega)) ?_ | refine And.intro (by omega) ?_); (conv => whnf))
      rw [Mu.inter_self]
      exact h (.skip _ (2 ^ 6) c' n) ⟨h1, ⟨6, by decide, rfl⟩, ⟨c0, c1⟩, h4⟩
  | set r n =>
    (conv => whnf); repeat ((first | refine dIf_t (by first | rfl | decide +kernel) ?_ | refine dIf_f (by first | rfl | decide +kernel) ?_ | refine And.intro (by first | rfl | exact Nat.le_of_ble_eq_true rfl | decide +kernel) ?_ | refine dIf_t (decide_eq_true (by omega)) ?_ | refine dIf_f (decide_eq_false (by omega)) ?_ | refine And.intro (by omega) ?_); (conv => whnf))
    rw [Mu.inter_self]
    exact h _ hr
  | copy r a =>
    (conv => whnf); repeat ((first | refine dIf_t (by first | rfl | decide +kernel) ?_ | refine dIf_f (by first | rfl | decide +kernel) ?_ | refine And.intro (by first | rfl | exact Nat.le_of_ble_eq_true rfl | decide +kernel) ?_ | refine dIf_t (decide_eq_true (by omega)) ?_ | refine dIf_f (decide_eq_false (by omega)) ?_ | refine And.intro (by omega) ?_); (conv => whnf))
    rw [Mu.inter_self]
    exact h _ hr
  | left r a =>
    (conv => whnf); repeat ((first | refine dIf_t (by first | rfl | decide +kernel) ?_ | refine dIf_f (by first | rfl | decide +kernel) ?_ | refine And.intro (by first | rfl | exact Nat.le_of_ble_eq_true rfl | decide +kernel) ?_ | refine dIf_t (decide_eq_true (by omega)) ?_ | refine dIf_f (decide_eq_false (by omega)) ?_ | refine And.intro (by omega) ?_); (conv => whnf))
    rw [Mu.inter_self]
    exact h _ hr
  | right r a =>
    (conv => whnf); repeat ((first | refine dIf_t (by first | rfl | decide +kernel) ?_ | refine dIf_f (by first | rfl | decide +kernel) ?_ | refine And.intro (by first | rfl | exact Nat.le_of_ble_eq_true rfl | decide +kernel) ?_ | refine dIf_t (decide_eq_true (by omega)) ?_ | refine dIf_f (decide_eq_false (by omega)) ?_ | refine And.intro (by omega) ?_); (conv => whnf))
    rw [Mu.inter_self]
    exact h _ hr
  | add r a b =>
    (conv => whnf); repeat ((first | refine dIf_t (by first | rfl | decide +kernel) ?_ | refine dIf_f (by first | rfl | decide +kernel) ?_ | refine And.intro (by first | rfl | exact Nat.le_of_ble_eq_true rfl | decide +kernel) ?_ | refine dIf_t (decide_eq_true (by omega)) ?_ | refine dIf_f (decide_eq_false (by omega)) ?_ | refine And.intro (by omega) ?_); (conv => whnf))
    rw [Mu.inter_self]
    exact h _ hr
  | sub r a b =>
    (conv => whnf); repeat ((first | refine dIf_t (by first | rfl | decide +kernel) ?_ | refine dIf_f (by first | rfl | decide +kernel) ?_ | refine And.intro (by first | rfl | exact Nat.le_of_ble_eq_true rfl | decide +kernel) ?_ | refine dIf_t (decide_eq_true (by omega)) ?_ | refine dIf_f (decide_eq_false (by omega)) ?_ | refine And.intro (by omega) ?_); (conv => whnf))
    rw [Mu.inter_self]
    exact h _ hr
  | mul r a b =>
    (conv => whnf); repeat ((first | refine dIf_t (by first | rfl | decide +kernel) ?_ | refine dIf_f (by first | rfl | decide +kernel) ?_ | refine And.intro (by first | rfl | exact Nat.le_of_ble_eq_true rfl | decide +kernel) ?_ | refine dIf_t (decide_eq_true (by omega)) ?_ | refine dIf_f (decide_eq_false (by omega)) ?_ | refine And.intro (by omega) ?_); (conv => whnf))
    rw [Mu.inter_self]
    exact h _ hr
/-- rows, each with as many rows behind it as there are -/
def DrawnRows (R : Int) (rs : List Row) : Prop := ∀ (i : Nat) r, rs[i]? = some r → r.Drawn R ((rs.length : Int) - i - 1)
theorem rangeL_get {lo : Int} {n i : Nat} {x : D} (h : (rangeL lo n)[i]? = some x) : i < n ∧ x = .int (lo + i) := by
  have hi2 := LB.lt_of_get h
  have hl : (rangeL lo n).length = n := by simp [rangeL]
  rw [hl] at hi2
  unfold rangeL at h
  rw [List.getElem?_map, List.getElem?_range hi2] at h
  cases h
  exact ⟨hi2, rfl⟩
theorem law_far_rows_ok {R : Int} {many : Nat} (hm : μ d = some (.deal l)) (hR : 1 ≤ R ∧ R ≤ 8) (hl : many ≤ 1000) (h : ∀ p, μ p = none → ∀ rs : List Row, rs.length = many → DrawnRows R rs → Q (.ptr p) (μ.set p (.lst (rowsD rs)))) : F_law_far_rows [.ptr d, .int R, .int many] μ Q Xd := by
  rw [F_law_far_rows_eq]
  unfold fnDm T_law_far_rows
  (conv => whnf)
  refine ⟨by omega, ?_⟩
  show lcL [] _ tYe _ _ (rangeL 0 (many : Int).toNat) [] μ
  have hlen : (rangeL 0 (many : Int).toNat).length = many := by simp [rangeL]
  refine lcL_inv (fun i acc μ' => μ' = μ ∧ ∃ rs : List Row, acc = rowsD rs ∧ rs.length = i ∧ ∀ (j : Nat) r, rs[j]? = some r → r.Drawn R ((many : Int) - j - 1)) ⟨rfl, [], rfl, rfl, fun j r h => by cases h⟩ (fun _ _ _ _ => ck_nil) (fun i x acc μ' hx hI A B hA hB => ?_) (by rw [hlen]; exact Nat.le_trans hl (by decide)) (fun i acc μ' hI => ?_) (fun acc μ' hI => ?_)
  · obtain ⟨rfl, rs, rfl, hi, hd⟩ := hI
    obtain ⟨hlt, rfl⟩ := rangeL_get hx
    refine dIf_t rfl ⟨rfl, ?_⟩
    refine law_far_row_ok hm hR (by omega) fun r hr => ?_
    refine hA _ _ (Nat.lt_of_le_of_lt (by rw [List.length_map]; omega : (rowsD rs).length ≤ 1000) (by decide)) ⟨rfl, rs ++ [r], by simp, by simp [hi], fun j q hq => ?_⟩
    by_cases e : j < rs.length
    · rw [List.getElem?_append_left e] at hq
      exact hd j q hq
    · rw [List.getElem?_append_right (by omega)] at hq
      have e2 : j - rs.length = 0 := by
        have := LB.lt_of_get hq
        simp at this
        omega
      rw [e2] at hq
      cases hq
      have e3 : j = i := by omega
      subst e3
      have e4 : (many : Int) - (0 + (j : Int)) - 1 = (many : Int) - j - 1 := by omega
      rw [e4] at hr
      exact hr
  · obtain ⟨_, rs, rfl, hi, _⟩ := hI
    rw [List.length_map]
    omega
  · obtain ⟨rfl, rs, rfl, hi, hd⟩ := hI
    rw [hlen] at hi
    intro p hp
    show Q _ _
    rw [Mu.keepR_new]
    refine h p hp rs hi fun j r hr => ?_
    rw [hi]
    exact hd j r hr
theorem Row.Drawn.ok {R left : Int} {r : Row} (h : r.Drawn R left) (hR : R ≤ 8) (hl : left ≤ 1000) : r.Ok := by
  cases r with
  | skip a m c n =>
    obtain ⟨h1, ⟨j, hj, rfl⟩, h3, h4⟩ := h
    have hp : (1 : Int) ≤ 2 ^ j ∧ (2 : Int) ^ j ≤ 64 ∧ (64 : Int) % 2 ^ j = 0 := by
      match j, hj with
      | 0, _ => decide
      | 1, _ => decide
      | 2, _ => decide
      | 3, _ => decide
      | 4, _ => decide
      | 5, _ => decide
      | 6, _ => decide
    exact ⟨⟨h1.1, by omega⟩, ⟨by omega, hp.2.1, hp.2.2⟩, h3, h4.1, by omega⟩
  | set r n => exact ⟨⟨h.1.1, by have := h.1.2; omega⟩, h.2⟩
  | load r n => exact ⟨⟨h.1.1, by have := h.1.2; omega⟩, h.2⟩
  | store r n => exact ⟨h.1, ⟨h.2.1, by have := h.2.2; omega⟩⟩
  | copy r n => exact ⟨⟨h.1.1, by have := h.1.2; omega⟩, ⟨h.2.1, by have := h.2.2; omega⟩⟩
  | left r n => exact ⟨⟨h.1.1, by have := h.1.2; omega⟩, ⟨h.2.1, by have := h.2.2; omega⟩⟩
  | right r n => exact ⟨⟨h.1.1, by have := h.1.2; omega⟩, ⟨h.2.1, by have := h.2.2; omega⟩⟩
  | _ => exact ⟨⟨h.1.1, by have := h.1.2; omega⟩, ⟨h.2.1.1, by have := h.2.1.2; omega⟩, ⟨h.2.2.1, by have := h.2.2.2; omega⟩⟩
theorem DrawnRows.code {R : Int} {rs : List Row} (h : DrawnRows R rs) (hR : R ≤ 8) (hl : rs.length ≤ 1000) : CodeOk rs := by
  refine ⟨hl, fun r hr => ?_, fun i r hr hw => ?_⟩
  · obtain ⟨i, hi⟩ := List.getElem?_of_mem hr
    exact (h i r hi).ok hR (by omega)
  · have := h i r hr
    cases r with
    | skip a m c n =>
      show (i : Int) + n < _
      have := this.2.2.2.2
      omega
    | _ => exact absurd hw (by simp only [Row.w]; decide +kernel)
end PD
set_option Elab.async false
set_option linter.all false
set_option autoImplicit false
set_option maxRecDepth 100000
set_option maxHeartbeats 4000000
namespace PD
open PySem PySem.Spec PyProof.Rows L2
open SX (S S_len)
variable {μ : Mu} {Q : QD} {Xd : XD → Mu → Prop} {d l : Addr}
def oddL : List D := [.int 8, .int 999, .int 1000, .int 1001, .int (-1), .int 0, .int 1, .int 3, .int 64, .int 128, .int (18446744073709551616 - 1), .int 18446744073709551616, .int (0 - 18446744073709551616), .bl true, .non, .str "0", .str "add", .tup []]
theorem itk_str {k : Nat} {z : Str} (h : Tx 20 z) : ItK k (.str z) := ⟨.str z h, fun n e => by cases e⟩
theorem tx_lit {n : Nat} {z : Str} (h1 : z.length ≤ n) (h2 : z.cps.toList.all (· < 128) = true) : Tx n z := ⟨h1, asc_lit h2⟩
theorem oddL_ok {k : Nat} (hk : k ≤ 10) : ∀ x ∈ oddL, ItK k x := by
  intro x hx
  simp only [oddL, List.mem_cons, List.not_mem_nil, or_false] at hx
  rcases hx with rfl | rfl | rfl | rfl | rfl | rfl | rfl | rfl | rfl | rfl | rfl | rfl | rfl | rfl | rfl | rfl | rfl | rfl
  any_goals exact itk_int hk (by omega)
  · exact ⟨.bl, fun n e => by cases e⟩
  · exact ⟨.non, fun n e => by cases e⟩
  · exact itk_str (tx_lit (by decide +kernel) (by decide +kernel))
  · exact itk_str (tx_lit (by decide +kernel) (by decide +kernel))
  · exact ⟨.nil, fun n e => by cases e⟩
theorem pick {xs : List D} {m : Nat} {P : D → Prop} (h : m < xs.length) (hp : ∀ x ∈ xs, P x) : ∃ x, atI xs (m : Int) = some x ∧ P x := ⟨xs[m], atI_nat (List.getElem?_eq_getElem h), hp _ (List.getElem_mem h)⟩
def nears : List Str := ["set", "Set", "ad", "store ", " skip", "wait"]
theorem odd_item_ok {k : Nat} {x : D} (hm : μ d = some (.deal l)) (hx : ItK k x) (hk : k ≤ 9) (hq : ∀ y, ItK (k + 1) y → Q y μ) : F_law_odd_item [.ptr d, x] μ Q Xd := by
  have hq' : ∀ y, ItK (k + 1) y → Q y (μ.inter μ) := fun y hy => by rw [Mu.inter_self]; exact hq y hy
  have hk1 : k + 1 ≤ 10 := by omega
  have nears_ok' : ∀ y ∈ oddL ++ ((nears ++ nears ++ nears ++ nears).map D.str), ItK (k + 1) y := fun y hy => by
    rcases List.mem_append.mp hy with hy | hy
    · exact oddL_ok hk1 y hy
    · obtain ⟨z, hz, rfl⟩ := List.mem_map.mp hy
      have all : ∀ z ∈ nears ++ nears ++ nears ++ nears, z.length ≤ 20 ∧ z.cps.toList.all (· < 128) = true := by decide +kernel
      exact itk_str (tx_lit (all z hz).1 (all z hz).2)
  rw [F_law_odd_item_eq]; unfold fnD T_law_odd_item
  (conv => whnf); repeat ((first | refine dIf_t (by first | rfl | decide +kernel) ?_ | refine dIf_f (by first | rfl | decide +kernel) ?_ | refine And.intro (by first | rfl | exact Nat.le_of_ble_eq_true rfl | decide +kernel) ?_ | refine dIf_t (decide_eq_true (by omega)) ?_ | refine dIf_f (decide_eq_false (by omega)) ?_ | refine And.intro (by omega) ?_); (conv => whnf))
  refine ⟨shl64, ?_⟩
  (conv => whnf); repeat ((first | refine dIf_t (by first | rfl | decide +kernel) ?_ | refine dIf_f (by first | rfl | decide +kernel) ?_ | refine And.intro (by first | rfl | exact Nat.le_of_ble_eq_true rfl | decide +kernel) ?_ | refine dIf_t (decide_eq_true (by omega)) ?_ | refine dIf_f (decide_eq_false (by omega)) ?_ | refine And.intro (by omega) ?_); (conv => whnf))
  refine ⟨shl64, ?_⟩
  (conv => whnf); repeat ((first | refine dIf_t (by first | rfl | decide +kernel) ?_ | refine dIf_f (by first | rfl | decide +kernel) ?_ | refine And.intro (by first | rfl | exact Nat.le_of_ble_eq_true rfl | decide +kernel) ?_ | refine dIf_t (decide_eq_true (by omega)) ?_ | refine dIf_f (decide_eq_false (by omega)) ?_ | refine And.intro (by omega) ?_); (conv => whnf))
  refine ⟨shl64, ?_⟩
  (conv => whnf); repeat ((first | refine dIf_t (by first | rfl | decide +kernel) ?_ | refine dIf_f (by first | rfl | decide +kernel) ?_ | refine And.intro (by first | rfl | exact Nat.le_of_ble_eq_true rfl | decide +kernel) ?_ | refine dIf_t (decide_eq_true (by omega)) ?_ | refine dIf_f (decide_eq_false (by omega)) ?_ | refine And.intro (by omega) ?_); (conv => whnf))
  refine is_whole_any hx.1 ?_
  obtain ⟨h1, h2⟩ := hx
  cases h1 with
  | int n hn =>
    have hb := h2 n rfl
    (conv => whnf); repeat ((first | refine dIf_t (by first | rfl | decide +kernel) ?_ | refine dIf_f (by first | rfl | decide +kernel) ?_ | refine And.intro (by first | rfl | exact Nat.le_of_ble_eq_true rfl | decide +kernel) ?_ | refine dIf_t (decide_eq_true (by omega)) ?_ | refine dIf_f (decide_eq_false (by omega)) ?_ | refine And.intro (by omega) ?_); (conv => whnf))
    refine ⟨IntMulOk.of_left (by decide), ?_⟩
    (conv => whnf); repeat ((first | refine dIf_t (by first | rfl | decide +kernel) ?_ | refine dIf_f (by first | rfl | decide +kernel) ?_ | refine And.intro (by first | rfl | exact Nat.le_of_ble_eq_true rfl | decide +kernel) ?_ | refine dIf_t (decide_eq_true (by omega)) ?_ | refine dIf_f (decide_eq_false (by omega)) ?_ | refine And.intro (by omega) ?_); (conv => whnf))
    refine drawn (many := 26) hm (by decide) (by decide) fun r r0 r1 => ?_
    obtain ⟨m, rfl⟩ := Int.eq_ofNat_of_zero_le r0
    show (match atI (oddL ++ [.int (n + 1), .int (n - 1), .int (n + 1), .int (n - 1), .int (n + 1), .int (n - 1), .int (n + 1), .int (n - 1)]) (m : Int) with | some v => _ | none => False)
    obtain ⟨y, e, hy⟩ := pick (xs := oddL ++ [.int (n + 1), .int (n - 1), .int (n + 1), .int (n - 1), .int (n + 1), .int (n - 1), .int (n + 1), .int (n - 1)]) (m := m) (P := ItK (k + 1)) (by show m < 26; omega) (fun y hy => by
      rcases List.mem_append.mp hy with hy | hy
      · exact oddL_ok hk1 y hy
      · simp only [List.mem_cons, List.not_mem_nil, or_false] at hy
        rcases hy with rfl | rfl | rfl | rfl | rfl | rfl | rfl | rfl <;> exact itk_int hk1 (by omega))
    rw [e]
    exact hq' y hy
  | bl =>
    (conv => whnf); repeat ((first | refine dIf_t (by first | rfl | decide +kernel) ?_ | refine dIf_f (by first | rfl | decide +kernel) ?_ | refine And.intro (by first | rfl | exact Nat.le_of_ble_eq_true rfl | decide +kernel) ?_ | refine dIf_t (decide_eq_true (by omega)) ?_ | refine dIf_f (decide_eq_false (by omega)) ?_ | refine And.intro (by omega) ?_); (conv => whnf))
    refine ⟨IntMulOk.of_left (by decide), ?_⟩
    (conv => whnf); repeat ((first | refine dIf_t (by first | rfl | decide +kernel) ?_ | refine dIf_f (by first | rfl | decide +kernel) ?_ | refine And.intro (by first | rfl | exact Nat.le_of_ble_eq_true rfl | decide +kernel) ?_ | refine dIf_t (decide_eq_true (by omega)) ?_ | refine dIf_f (decide_eq_false (by omega)) ?_ | refine And.intro (by omega) ?_); (conv => whnf))
    refine drawn (many := 42) hm (by decide) (by decide) fun r r0 r1 => ?_
    obtain ⟨m, rfl⟩ := Int.eq_ofNat_of_zero_le r0
    show (match atI (oddL ++ ((nears ++ nears ++ nears ++ nears).map D.str)) (m : Int) with | some v => _ | none => False)
    obtain ⟨y, e, hy⟩ := pick (xs := oddL ++ ((nears ++ nears ++ nears ++ nears).map D.str)) (m := m) (P := ItK (k + 1)) (by show m < 42; omega) nears_ok'
    rw [e]
    exact hq' y hy
  | non =>
    (conv => whnf); repeat ((first | refine dIf_t (by first | rfl | decide +kernel) ?_ | refine dIf_f (by first | rfl | decide +kernel) ?_ | refine And.intro (by first | rfl | exact Nat.le_of_ble_eq_true rfl | decide +kernel) ?_ | refine dIf_t (decide_eq_true (by omega)) ?_ | refine dIf_f (decide_eq_false (by omega)) ?_ | refine And.intro (by omega) ?_); (conv => whnf))
    refine ⟨IntMulOk.of_left (by decide), ?_⟩
    (conv => whnf); repeat ((first | refine dIf_t (by first | rfl | decide +kernel) ?_ | refine dIf_f (by first | rfl | decide +kernel) ?_ | refine And.intro (by first | rfl | exact Nat.le_of_ble_eq_true rfl | decide +kernel) ?_ | refine dIf_t (decide_eq_true (by omega)) ?_ | refine dIf_f (decide_eq_false (by omega)) ?_ | refine And.intro (by omega) ?_); (conv => whnf))
    refine drawn (many := 42) hm (by decide) (by decide) fun r r0 r1 => ?_
    obtain ⟨m, rfl⟩ := Int.eq_ofNat_of_zero_le r0
    show (match atI (oddL ++ ((nears ++ nears ++ nears ++ nears).map D.str)) (m : Int) with | some v => _ | none => False)
    obtain ⟨y, e, hy⟩ := pick (xs := oddL ++ ((nears ++ nears ++ nears ++ nears).map D.str)) (m := m) (P := ItK (k + 1)) (by show m < 42; omega) nears_ok'
    rw [e]
    exact hq' y hy
  | str z hz =>
    (conv => whnf); repeat ((first | refine dIf_t (by first | rfl | decide +kernel) ?_ | refine dIf_f (by first | rfl | decide +kernel) ?_ | refine And.intro (by first | rfl | exact Nat.le_of_ble_eq_true rfl | decide +kernel) ?_ | refine dIf_t (decide_eq_true (by omega)) ?_ | refine dIf_f (decide_eq_false (by omega)) ?_ | refine And.intro (by omega) ?_); (conv => whnf))
    refine ⟨IntMulOk.of_left (by decide), ?_⟩
    (conv => whnf); repeat ((first | refine dIf_t (by first | rfl | decide +kernel) ?_ | refine dIf_f (by first | rfl | decide +kernel) ?_ | refine And.intro (by first | rfl | exact Nat.le_of_ble_eq_true rfl | decide +kernel) ?_ | refine dIf_t (decide_eq_true (by omega)) ?_ | refine dIf_f (decide_eq_false (by omega)) ?_ | refine And.intro (by omega) ?_); (conv => whnf))
    refine drawn (many := 42) hm (by decide) (by decide) fun r r0 r1 => ?_
    obtain ⟨m, rfl⟩ := Int.eq_ofNat_of_zero_le r0
    show (match atI (oddL ++ ((nears ++ nears ++ nears ++ nears).map D.str)) (m : Int) with | some v => _ | none => False)
    obtain ⟨y, e, hy⟩ := pick (xs := oddL ++ ((nears ++ nears ++ nears ++ nears).map D.str)) (m := m) (P := ItK (k + 1)) (by show m < 42; omega) nears_ok'
    rw [e]
    exact hq' y hy
  | nil =>
    (conv => whnf); repeat ((first | refine dIf_t (by first | rfl | decide +kernel) ?_ | refine dIf_f (by first | rfl | decide +kernel) ?_ | refine And.intro (by first | rfl | exact Nat.le_of_ble_eq_true rfl | decide +kernel) ?_ | refine dIf_t (decide_eq_true (by omega)) ?_ | refine dIf_f (decide_eq_false (by omega)) ?_ | refine And.intro (by omega) ?_); (conv => whnf))
    refine ⟨IntMulOk.of_left (by decide), ?_⟩
    (conv => whnf); repeat ((first | refine dIf_t (by first | rfl | decide +kernel) ?_ | refine dIf_f (by first | rfl | decide +kernel) ?_ | refine And.intro (by first | rfl | exact Nat.le_of_ble_eq_true rfl | decide +kernel) ?_ | refine dIf_t (decide_eq_true (by omega)) ?_ | refine dIf_f (decide_eq_false (by omega)) ?_ | refine And.intro (by omega) ?_); (conv => whnf))
    refine drawn (many := 42) hm (by decide) (by decide) fun r r0 r1 => ?_
    obtain ⟨m, rfl⟩ := Int.eq_ofNat_of_zero_le r0
    show (match atI (oddL ++ ((nears ++ nears ++ nears ++ nears).map D.str)) (m : Int) with | some v => _ | none => False)
    obtain ⟨y, e, hy⟩ := pick (xs := oddL ++ ((nears ++ nears ++ nears ++ nears).map D.str)) (m := m) (P := ItK (k + 1)) (by show m < 42; omega) nears_ok'
    rw [e]
    exact hq' y hy
end PD
set_option Elab.async false
set_option linter.all false
set_option autoImplicit false
set_option maxRecDepth 100000
set_option maxHeartbeats 4000000
namespace PD
open PySem PySem.Spec PyProof.Rows L2
open SX (S S_len)
/-! ### rows of any items, as plain data -/
theorem log_ok2 {n : Int} (h : Wd n) : n.natAbs.log2 < 1920 := by
  have h : n.natAbs < 2 ^ 66 := by
    have e : (2 : Nat) ^ 66 = 73786976294838206464 := by decide
    rw [e]
    omega
  by_cases hz : n.natAbs = 0
  · rw [hz]
    decide
  · have := (Nat.log2_lt hz).mpr h
    omega
theorem wd_len {n : Int} (h : Wd n) : (toString n : Str).length ≤ 22 := by
  rw [int_str, S_len]
  cases n with
  | ofNat m =>
    show (TL.numL m).length ≤ 22
    have e : (Int.ofNat m) = (m : Int) := rfl
    have : (TL.numL m).length ≤ 20 := TL.numL_len (by decide) (by have : (10 : Nat) ^ 20 = 100000000000000000000 := by decide
                                                                  omega)
    omega
  | negSucc m =>
    show (TL.numL (m + 1)).length + 1 ≤ 22
    have : (TL.numL (m + 1)).length ≤ 20 := TL.numL_len (by decide) (by have : (10 : Nat) ^ 20 = 100000000000000000000 := by decide
                                                                        omega)
    omega
theorem it_py {x : D} (h : It x) (μ : Mu) : ∃ y, pyD μ x = some y ∧ flatD x = some y ∧ y.canLay0 = true ∧ y.depth ≤ 1 ∧ y.showable = true ∧ (y.shown.length ≤ 22 ∨ ∃ z, x = .str z) := by
  cases h with
  | int n hn =>
    refine ⟨.int n, by simp only [pyD], by simp only [flatD], by simp [PyData.canLay0], by simp [PyData.depth], ?_, .inl ?_⟩
    · simp only [PyData.showable]
      exact decide_eq_true (log_ok2 hn)
    · simp only [PyData.shown]
      exact wd_len hn
  | bl => exact ⟨.bool true, by simp only [pyD], by simp only [flatD], by simp [PyData.canLay0], by simp [PyData.depth], by simp [PyData.showable], .inl (by simp only [PyData.shown]; decide +kernel)⟩
  | non => exact ⟨.none, by simp only [pyD], by simp only [flatD], by simp [PyData.canLay0], by simp [PyData.depth], by simp [PyData.showable], .inl (by simp only [PyData.shown]; decide +kernel)⟩
  | str z hz => exact ⟨.str z, by simp only [pyD], by simp only [flatD], by simp [PyData.canLay0, hz.asc.ok], by simp [PyData.depth], by simp [PyData.showable], .inr ⟨z, rfl⟩⟩
  | nil => exact ⟨.tuple [], by simp only [pyD, pyDs]; rfl, by simp only [flatD, flatDs]; rfl, by simp [PyData.canLay0, PyData.canLayAll0], by simp [PyData.depth, PyData.depthAll], by simp [PyData.showable, PyData.showableAll], .inl (by simp only [PyData.shown, PyData.shownAll]; decide +kernel)⟩
theorem its_py (μ : Mu) : ∀ {xs : List D}, (∀ x ∈ xs, It x) → ∃ ys, pyDs μ xs = some ys ∧ flatDs xs = some ys ∧ PyData.canLayAll0 ys = true ∧ PyData.depthAll ys ≤ 1 ∧ ys.length = xs.length
  | [], _ => ⟨[], by simp only [pyDs], by simp only [flatDs], by simp [PyData.canLayAll0], by simp [PyData.depthAll], rfl⟩
  | x :: xs, h => by
    obtain ⟨y, h1, h2, h3, h4, _⟩ := it_py (h x List.mem_cons_self) μ
    obtain ⟨ys, g1, g2, g3, g4, g5⟩ := its_py μ (xs := xs) fun z hz => h z (List.mem_cons_of_mem _ hz)
    refine ⟨y :: ys, by simp only [pyDs, h1, g1], by simp only [flatDs, h2, g2], by simp [PyData.canLayAll0, h3, g3], ?_, by simp [g5]⟩
    simp only [PyData.depthAll]
    omega
theorem rw_py {x : D} (h : Rw x) (μ : Mu) : ∃ y, pyD μ x = some y ∧ flatD x = some y ∧ y.canLay0 = true ∧ y.depth ≤ 2 := by
  cases h with
  | tup xs hx hl =>
    obtain ⟨ys, g1, g2, g3, g4, _⟩ := its_py μ hx
    refine ⟨.tuple ys, by simp only [pyD, g1]; rfl, by simp only [flatD, g2]; rfl, by simp only [PyData.canLay0]; exact g3, ?_⟩
    simp only [PyData.depth]
    omega
  | lst xs hx hl =>
    obtain ⟨ys, g1, g2, g3, g4, _⟩ := its_py μ hx
    refine ⟨.list ys, by simp only [pyD, g1]; rfl, by simp only [flatD, g2]; rfl, by simp only [PyData.canLay0]; exact g3, ?_⟩
    simp only [PyData.depth]
    omega
  | str z hz => exact ⟨.str z, by simp only [pyD], by simp only [flatD], by simp [PyData.canLay0, hz.asc.ok], by simp [PyData.depth]⟩
  | non => exact ⟨.none, by simp only [pyD], by simp only [flatD], by simp [PyData.canLay0], by simp [PyData.depth]⟩
  | bl => exact ⟨.bool true, by simp only [pyD], by simp only [flatD], by simp [PyData.canLay0], by simp [PyData.depth]⟩
  | int n hn => exact ⟨.int n, by simp only [pyD], by simp only [flatD], by simp [PyData.canLay0], by simp [PyData.depth]⟩
theorem rws_py (μ : Mu) : ∀ {xs : List D}, (∀ x ∈ xs, Rw x) → ∃ ys, pyDs μ xs = some ys ∧ flatDs xs = some ys ∧ PyData.canLayAll0 ys = true ∧ PyData.depthAll ys ≤ 2 ∧ ys.length = xs.length
  | [], _ => ⟨[], by simp only [pyDs], by simp only [flatDs], by simp [PyData.canLayAll0], by simp [PyData.depthAll], rfl⟩
  | x :: xs, h => by
    obtain ⟨y, h1, h2, h3, h4⟩ := rw_py (h x List.mem_cons_self) μ
    obtain ⟨ys, g1, g2, g3, g4, g5⟩ := rws_py μ (xs := xs) fun z hz => h z (List.mem_cons_of_mem _ hz)
    refine ⟨y :: ys, by simp only [pyDs, h1, g1], by simp only [flatDs, h2, g2], by simp [PyData.canLayAll0, h3, g3], ?_, by simp [g5]⟩
    simp only [PyData.depthAll]
    omega
/-- rows == [] -/
theorem eq_nil_rows {μ : Mu} {Q : QD} (g : Bool → Bool) {xs : List D} (h : ∀ x ∈ xs, Rw x) (hq : Q (.bl (g xs.isEmpty)) μ) : oEqG g (.lst xs) (.lst []) μ Q := by
  obtain ⟨ys, g1, _, g3, g4, g5⟩ := rws_py μ h
  show (match pyD μ (.lst xs), pyD μ (.lst []) with | some x, some y => _ | _, _ => False)
  have e1 : pyD μ (.lst xs) = some (.list ys) := by simp only [pyD, g1]; rfl
  have e2 : pyD μ (.lst []) = some (.list []) := by simp only [pyD, pyDs]; rfl
  rw [e1, e2]
  refine ⟨(shaped_seq g3 (by omega)).2, strsL_shaped [] (by simp), ?_⟩
  cases xs with
  | nil =>
    have : ys = [] := List.length_eq_zero_iff.mp g5
    subst this
    rw [show PyData.eqv (.list []) (.list []) = true by simp [PyData.eqv, PyData.eqvAll]]
    exact hq
  | cons z zs =>
    cases ys with
    | nil => cases g5
    | cons y ys =>
      rw [show PyData.eqv (.list (y :: ys)) (.list []) = false by simp [PyData.eqv, PyData.eqvAll]]
      exact hq
/-- row == () -/
theorem eq_nil_row {μ : Mu} {Q : QD} {xs : List D} (h : ∀ x ∈ xs, It x) (hq : Q (.bl xs.isEmpty) μ) : oEqG id (.tup xs) (.tup []) μ Q := by
  obtain ⟨ys, g1, _, g3, g4, g5⟩ := its_py μ h
  show (match pyD μ (.tup xs), pyD μ (.tup []) with | some x, some y => _ | _, _ => False)
  have e1 : pyD μ (.tup xs) = some (.tuple ys) := by simp only [pyD, g1]; rfl
  have e2 : pyD μ (.tup []) = some (.tuple []) := by simp only [pyD, pyDs]; rfl
  rw [e1, e2]
  refine ⟨(shaped_seq g3 (by omega)).1, (shaped_seq (ds := []) (by simp [PyData.canLayAll0]) (by simp [PyData.depthAll])).1, ?_⟩
  cases xs with
  | nil =>
    have : ys = [] := List.length_eq_zero_iff.mp g5
    subst this
    rw [show PyData.eqv (.tuple []) (.tuple []) = true by simp [PyData.eqv, PyData.eqvAll]]
    exact hq
  | cons z zs =>
    cases ys with
    | nil => cases g5
    | cons y ys =>
      rw [show PyData.eqv (.tuple (y :: ys)) (.tuple []) = false by simp [PyData.eqv, PyData.eqvAll]]
      exact hq
/-- rows != rows -/
theorem ne_same_rows {μ : Mu} {Q : QD} {xs : List D} (h : ∀ x ∈ xs, Rw x) (hq : Q (.bl false) μ) : oEqG not (.lst xs) (.lst xs) μ Q := by
  obtain ⟨ys, g1, _, g3, g4, g5⟩ := rws_py μ h
  show (match pyD μ (.lst xs), pyD μ (.lst xs) with | some x, some y => _ | _, _ => False)
  have e1 : pyD μ (.lst xs) = some (.list ys) := by simp only [pyD, g1]; rfl
  rw [e1]
  have sh := (shaped_seq g3 (by omega)).2
  refine ⟨sh, sh, ?_⟩
  rw [SeqAt.eqv_refl _ (SeqAt.canLay_of_shaped sh)]
  exact hq
end PD
set_option Elab.async false
set_option linter.all false
set_option autoImplicit false
set_option maxRecDepth 100000
set_option maxHeartbeats 4000000
namespace PD
open PySem PySem.Spec PyProof.Rows L2
open SX (S S_len)
variable {μ : Mu} {Q : QD} {Xd : XD → Mu → Prop} {d l : Addr}
theorem dicOf_lst {p : Addr} {xs : List D} (h : μ p = some (.lst xs)) : dicOf (.ptr p) μ = none := by
  unfold dicOf
  dsimp only
  rw [h]
def firsts : List D := [.lst [], .tup [], .non, .str "add", .tup [.str "skip", .int 0, .int 1, .int 0, .int 0], .tup [.str "set", .int 0, .int 5]]
theorem itk_small {k : Nat} {n : Int} (hk : k ≤ 10) (h : 0 ≤ n ∧ n ≤ 1000) : ItK k (.int n) := itk_int hk (by omega)
theorem left_rwk {k : Nat} (hk : k ≤ 4) : RwK k (.tup [.str "left", .int 0, .int 0]) := rwk_tup hk (by simp; omega) (fun x hx => by
  simp only [List.mem_cons, List.not_mem_nil, or_false] at hx
  rcases hx with rfl | rfl | rfl
  · exact itk_str (tx_lit (by decide +kernel) (by decide +kernel))
  · exact itk_small (by omega) (by decide)
  · exact itk_small (by omega) (by decide))
theorem firsts_ok {k : Nat} (hk : k ≤ 4) : ∀ x ∈ firsts, RwK k x := by
  intro x hx
  simp only [firsts, List.mem_cons, List.not_mem_nil, or_false] at hx
  rcases hx with rfl | rfl | rfl | rfl | rfl | rfl
  · exact ⟨.lst [] (fun x hx => by cases hx) (by simp), fun xs e => by cases e⟩
  · exact rwk_tup hk (by simp) fun x hx => by cases hx
  · exact ⟨.non, fun xs e => by cases e⟩
  · exact ⟨.str _ (tx_lit (by decide +kernel) (by decide +kernel)), fun xs e => by cases e⟩
  · refine rwk_tup hk (by simp) fun x hx => ?_
    simp only [List.mem_cons, List.not_mem_nil, or_false] at hx
    rcases hx with rfl | rfl | rfl | rfl | rfl
    · exact itk_str (tx_lit (by decide +kernel) (by decide +kernel))
    all_goals exact itk_small (by omega) (by decide)
  · refine rwk_tup hk (by simp; omega) fun x hx => ?_
    simp only [List.mem_cons, List.not_mem_nil, or_false] at hx
    rcases hx with rfl | rfl | rfl
    · exact itk_str (tx_lit (by decide +kernel) (by decide +kernel))
    all_goals exact itk_small (by omega) (by decide)
theorem cut_one {xs : List D} {r : Nat} (h : r < xs.length) : ∃ x ∈ xs, cutD (cutD xs (some (r : Int)) none) none (some 1) = [x] := by
  rw [cutD_from (by omega), show (1 : Int) = ((1 : Nat) : Int) from rfl, cutD_to (by rw [List.length_drop]; omega)]
  exact ⟨xs[r], List.getElem_mem h, by rw [List.drop_eq_getElem_cons h]; rfl⟩
def strI : D → Str
  | .str z => z
  | .int n => (toString n : Str)
  | .bl _ => "True"
  | .non => "None"
  | _ => "()"
theorem str_ok {x : D} (h : It x) (hq : Q (.str (strI x)) μ) : cStrG [x] μ Q := by
  cases h with
  | int n hn =>
    show (match pyD μ (.int n) with | some x => _ | none => False)
    simp only [pyD, PyData.showable, PyData.depth, PyData.shown]
    exact ⟨decide_eq_true (log_ok2 hn), by simp [PyData.depth], Nat.le_trans (wd_len hn) (by decide), hq⟩
  | bl =>
    show (match pyD μ (.bl true) with | some x => _ | none => False)
    simp only [pyD, PyData.showable, PyData.depth, PyData.shown]
    exact ⟨rfl, by decide, by decide +kernel, hq⟩
  | non =>
    show (match pyD μ .non with | some x => _ | none => False)
    simp only [pyD, PyData.showable, PyData.depth, PyData.shown]
    exact ⟨rfl, by decide, by decide +kernel, hq⟩
  | str z hz => exact hq
  | nil =>
    show (match pyD μ (.tup []) with | some x => _ | none => False)
    rw [show pyD μ (.tup []) = some (.tuple []) by simp only [pyD, pyDs]; rfl]
    have e : PyData.shown (.tuple []) = "()" := by
      simp only [PyData.shown, PyData.shownAll]
      decide +kernel
    refine ⟨by simp [PyData.showable, PyData.showableAll], by simp [PyData.depth, PyData.depthAll], ?_, ?_⟩
    · rw [e]
      decide +kernel
    · rw [e]
      exact hq
theorem strI_tx {x : D} (h : It x) : Tx 22 (strI x) := by
  cases h with
  | int n hn =>
    refine ⟨wd_len hn, ?_⟩
    show Asc (toString n : Str)
    rw [int_str]
    intro c hc
    refine Classical.byContradiction fun h => ?_
    exact iL_free (n := n) (s := c) (.inr (by omega)) hc
  | bl => exact tx_lit (by decide +kernel) (by decide +kernel)
  | non => exact tx_lit (by decide +kernel) (by decide +kernel)
  | str z hz => exact hz.mono (by decide)
  | nil => exact tx_lit (by decide +kernel) (by decide +kernel)
theorem cutD_init {xs : List D} (h : xs ≠ []) : cutD xs none (some (-1)) = xs.take (xs.length - 1) := by
  have hp : 0 < xs.length := List.length_pos_iff.mpr h
  have e1 : HT.sIx xs.length 0 none = 0 := rfl
  have e2 : HT.sIx xs.length xs.length (some (-1)) = xs.length - 1 := by
    show (if (-1 : Int) < 0 then ((-1 : Int) + (xs.length : Int)).toNat else min (-1 : Int).toNat xs.length) = _
    rw [if_pos (by decide)]
    omega
  unfold cutD
  rw [e1, e2]
  simp
theorem at_last {xs : List D} (h : xs ≠ []) : ∃ x ∈ xs, atI xs (-1) = some x := by
  have hp : 0 < xs.length := List.length_pos_iff.mpr h
  have e : ixN xs.length (-1) = some (xs.length - 1) := by
    unfold ixN
    rw [if_neg (by decide), if_pos (by omega)]
    congr 1
    omega
  refine ⟨xs[xs.length - 1]'(by omega), List.getElem_mem _, ?_⟩
  unfold atI
  rw [e]
  exact List.getElem?_eq_getElem _
theorem join_sp' {ws : List Str} (h : (ws.map (·.length)).sum + ws.length ≤ 10000) (hq : Q (.str (Txt.join " " ws)) μ) : mJoin (.str " ") [.lst (ws.map D.str)] μ Q := by
  show (match strsOf (ws.map D.str) with | some ys => _ | none => False)
  rw [strsOf_map]
  refine ⟨?_, hq⟩
  have e : (" " : Str).length = 1 := by decide +kernel
  rw [e]
  refine Nat.le_trans ?_ (by decide : 10000 ≤ sizeLine)
  omega
theorem spoilt_ok {k : Nat} {ds : List D} (hm : μ d = some (.deal l)) (h : ∀ r ∈ ds, RwK k r) (hl : ds.length ≤ 50) (hk : k ≤ 3) (hq : ∀ es, (∀ r ∈ es, RwK (k + 1) r) → es.length ≤ ds.length + 1 → Q (.lst es) μ) : F_law_spoilt [.ptr d, .lst ds] μ Q Xd := by
  have hk1 : k + 1 ≤ 4 := by omega
  have hrw : ∀ r ∈ ds, Rw r := fun r hr => (h r hr).1
  have h1 : ∀ r ∈ ds, RwK (k + 1) r := fun r hr => (h r hr).mono (by omega)
  rw [F_law_spoilt_eq]; unfold fnD T_law_spoilt
  (conv => whnf)
  refine ⟨Nat.zero_le _, ?_⟩
  dsimp only [newL]
  refine eq_nil_rows id hrw ?_
  (conv => whnf)
  refine dIf_of (fun e => ?_) (fun e => ?_)
  · (conv => whnf); repeat ((first | refine dIf_t (by first | rfl | decide +kernel) ?_ | refine dIf_f (by first | rfl | decide +kernel) ?_ | refine And.intro (by first | rfl | exact Nat.le_of_ble_eq_true rfl | decide +kernel) ?_ | refine dIf_t (decide_eq_true (by omega)) ?_ | refine dIf_f (decide_eq_false (by omega)) ?_ | refine And.intro (by omega) ?_); (conv => whnf))
    refine drawn (many := 6) hm (by decide) (by decide) fun r r0 r1 => ?_
    obtain ⟨r, rfl⟩ := Int.eq_ofNat_of_zero_le r0
    show Q (.lst (cutD (cutD firsts (some (r : Int)) none) none (some 1))) _
    obtain ⟨x, hx, ex⟩ := cut_one (xs := firsts) (r := r) (by show r < 6; omega)
    rw [ex, Mu.inter_self]
    exact hq _ (fun y hy => by rw [List.mem_singleton] at hy; subst hy; exact firsts_ok hk1 _ hx) (by simp)
  · have hpos : 0 < ds.length := by
      cases ds with
      | nil => cases e
      | cons _ _ => simp
    (conv => whnf)
    refine ⟨rfl, drawn hm (by show (0 : Int) < (ds.length : Nat); omega) (by show ((ds.length : Nat) : Int) ≤ _; omega) fun a a0 a1 => ?_⟩
    obtain ⟨a, rfl⟩ := Int.eq_ofNat_of_zero_le a0
    have ha : a < ds.length := by
      have a1' : (a : Int) < ((ds.length : Nat) : Int) := a1
      omega
    (conv => whnf)
    refine ⟨rfl, drawn (many := 8) hm (by decide) (by decide) fun f f0 f1 => ?_⟩
    (conv => whnf)
    intro p hp
    have hpd : d ≠ p := fun z => by rw [← z, hm] at hp; cases hp
    have hm1 : (μ.set p (.lst ds)) d = some (.deal l) := by rw [Mu.set_ne hpd]; exact hm
    have hp1 : (μ.set p (.lst ds)) p = some (.lst ds) := Mu.set_same
    have hq' : ∀ es m, (∀ r ∈ es, RwK (k + 1) r) → es.length ≤ ds.length + 1 → Q (.lst es) ((μ.set p m).inter μ) := fun es m h1 h2 => by
      rw [Mu.inter_new hp, Mu.inter_self]
      exact hq es h1 h2
    have ct : ∀ {j : Nat}, j ≤ ds.length → cutD ds none (some (j : Int)) = ds.take j := fun h => cutD_to h
    have cd : ∀ {j : Nat}, j ≤ ds.length → cutD ds (some (j : Int)) none = ds.drop j := fun h => cutD_from h
    have room : ∀ {x y : List D}, x.length ≤ 300 → y.length ≤ 300 → x.length + y.length ≤ sizeLine := fun h1 h2 => Nat.le_trans (by omega : _ ≤ 600) (by decide)
    have lt : ∀ j, (ds.take j).length ≤ 300 := fun j => by rw [List.length_take]; omega
    have ld : ∀ j, (ds.drop j).length ≤ 300 := fun j => by rw [List.length_drop]; omega
    have app : ∀ {i j : Nat} {us : List D}, i ≤ j → (∀ u ∈ us, RwK (k + 1) u) → ∀ r ∈ ds.take i ++ us ++ ds.drop j, RwK (k + 1) r := fun _ hu r hr => by
      rcases List.mem_append.mp hr with hr | hr
      · rcases List.mem_append.mp hr with hr | hr
        · exact h1 r (List.mem_of_mem_take hr)
        · exact hu r hr
      · exact h1 r (List.mem_of_mem_drop hr)
    (conv => whnf)
    rw [dicOf_lst hp1]
    (conv => whnf)
    rw [seqOf_at hp1]
    (conv => whnf)
    rw [atI_nat (j := a) (List.getElem?_eq_getElem ha)]
    have hr0 := h ds[a] (List.getElem_mem ha)
    generalize hrow : ds[a] = row at hr0
    (conv => whnf)
    refine dIf_of (fun e0 => ?_) (fun e0 => ?_)
    · (conv => whnf)
      rw [lstOf_at hp1]
      (conv => whnf)
      rw [lstOf_at hp1]
      (conv => whnf)
      rw [show (a : Int) + 1 = ((a + 1 : Nat) : Int) by omega, ct (by omega), cd (by omega)]
      refine ⟨room (lt _) (ld _), ?_⟩
      have q := app (i := a) (j := a + 1) (us := []) (by omega) (fun u hu => by cases hu)
      rw [List.append_nil] at q
      exact hq' _ _ q (by rw [List.length_append, List.length_take, List.length_drop]; omega)
    · (conv => whnf)
      refine dIf_of (fun e1 => ?_) (fun e1 => ?_)
      · (conv => whnf)
        rw [lstOf_at hp1]
        (conv => whnf); repeat ((first | refine dIf_t (by first | rfl | decide +kernel) ?_ | refine dIf_f (by first | rfl | decide +kernel) ?_ | refine And.intro (by first | rfl | exact Nat.le_of_ble_eq_true rfl | decide +kernel) ?_ | refine dIf_t (decide_eq_true (by omega)) ?_ | refine dIf_f (decide_eq_false (by omega)) ?_ | refine And.intro (by omega) ?_); (conv => whnf))
        rw [ct (by omega)]
        refine ⟨room (y := [_]) (lt _) (by simp), ?_⟩
        (conv => whnf)
        rw [lstOf_at hp1]
        (conv => whnf)
        rw [cd (by omega)]
        refine ⟨room (by rw [List.length_append, List.length_singleton, List.length_take]; omega) (ld _), ?_⟩
        refine hq' _ _ (app (by omega) fun u hu => ?_) (by rw [List.length_append, List.length_append, List.length_singleton, List.length_take, List.length_drop]; omega)
        rw [List.mem_singleton] at hu
        subst hu
        exact hr0.mono (by omega)
      · obtain ⟨hrr, hrb⟩ := hr0
        cases hrr with
        | lst xs hx hxl =>
          (conv => whnf); repeat ((first | refine dIf_t (by first | rfl | decide +kernel) ?_ | refine dIf_f (by first | rfl | decide +kernel) ?_ | refine And.intro (by first | rfl | exact Nat.le_of_ble_eq_true rfl | decide +kernel) ?_ | refine dIf_t (decide_eq_true (by omega)) ?_ | refine dIf_f (decide_eq_false (by omega)) ?_ | refine And.intro (by omega) ?_); (conv => whnf))
          (conv => whnf)
          rw [lstOf_at hp1]
          (conv => whnf); repeat ((first | refine dIf_t (by first | rfl | decide +kernel) ?_ | refine dIf_f (by first | rfl | decide +kernel) ?_ | refine And.intro (by first | rfl | exact Nat.le_of_ble_eq_true rfl | decide +kernel) ?_ | refine dIf_t (decide_eq_true (by omega)) ?_ | refine dIf_f (decide_eq_false (by omega)) ?_ | refine And.intro (by omega) ?_); (conv => whnf))
          rw [ct (by omega)]
          refine ⟨room (y := [_]) (lt _) (by simp), ?_⟩
          (conv => whnf)
          rw [lstOf_at hp1]
          (conv => whnf)
          rw [show (a : Int) + 1 = ((a + 1 : Nat) : Int) by omega, cd (by omega)]
          refine ⟨room (by rw [List.length_append, List.length_singleton, List.length_take]; omega) (ld _), ?_⟩
          refine hq' _ _ (app (by omega) fun u hu => ?_) (by rw [List.length_append, List.length_append, List.length_singleton, List.length_take, List.length_drop]; omega)
          rw [List.mem_singleton] at hu
          subst hu
          exact left_rwk hk1
        | str z hz =>
          (conv => whnf); repeat ((first | refine dIf_t (by first | rfl | decide +kernel) ?_ | refine dIf_f (by first | rfl | decide +kernel) ?_ | refine And.intro (by first | rfl | exact Nat.le_of_ble_eq_true rfl | decide +kernel) ?_ | refine dIf_t (decide_eq_true (by omega)) ?_ | refine dIf_f (decide_eq_false (by omega)) ?_ | refine And.intro (by omega) ?_); (conv => whnf))
          (conv => whnf)
          rw [lstOf_at hp1]
          (conv => whnf); repeat ((first | refine dIf_t (by first | rfl | decide +kernel) ?_ | refine dIf_f (by first | rfl | decide +kernel) ?_ | refine And.intro (by first | rfl | exact Nat.le_of_ble_eq_true rfl | decide +kernel) ?_ | refine dIf_t (decide_eq_true (by omega)) ?_ | refine dIf_f (decide_eq_false (by omega)) ?_ | refine And.intro (by omega) ?_); (conv => whnf))
          rw [ct (by omega)]
          refine ⟨room (y := [_]) (lt _) (by simp), ?_⟩
          (conv => whnf)
          rw [lstOf_at hp1]
          (conv => whnf)
          rw [show (a : Int) + 1 = ((a + 1 : Nat) : Int) by omega, cd (by omega)]
          refine ⟨room (by rw [List.length_append, List.length_singleton, List.length_take]; omega) (ld _), ?_⟩
          refine hq' _ _ (app (by omega) fun u hu => ?_) (by rw [List.length_append, List.length_append, List.length_singleton, List.length_take, List.length_drop]; omega)
          rw [List.mem_singleton] at hu
          subst hu
          exact left_rwk hk1
        | non =>
          (conv => whnf); repeat ((first | refine dIf_t (by first | rfl | decide +kernel) ?_ | refine dIf_f (by first | rfl | decide +kernel) ?_ | refine And.intro (by first | rfl | exact Nat.le_of_ble_eq_true rfl | decide +kernel) ?_ | refine dIf_t (decide_eq_true (by omega)) ?_ | refine dIf_f (decide_eq_false (by omega)) ?_ | refine And.intro (by omega) ?_); (conv => whnf))
          (conv => whnf)
          rw [lstOf_at hp1]
          (conv => whnf); repeat ((first | refine dIf_t (by first | rfl | decide +kernel) ?_ | refine dIf_f (by first | rfl | decide +kernel) ?_ | refine And.intro (by first | rfl | exact Nat.le_of_ble_eq_true rfl | decide +kernel) ?_ | refine dIf_t (decide_eq_true (by omega)) ?_ | refine dIf_f (decide_eq_false (by omega)) ?_ | refine And.intro (by omega) ?_); (conv => whnf))
          rw [ct (by omega)]
          refine ⟨room (y := [_]) (lt _) (by simp), ?_⟩
          (conv => whnf)
          rw [lstOf_at hp1]
          (conv => whnf)
          rw [show (a : Int) + 1 = ((a + 1 : Nat) : Int) by omega, cd (by omega)]
          refine ⟨room (by rw [List.length_append, List.length_singleton, List.length_take]; omega) (ld _), ?_⟩
          refine hq' _ _ (app (by omega) fun u hu => ?_) (by rw [List.length_append, List.length_append, List.length_singleton, List.length_take, List.length_drop]; omega)
          rw [List.mem_singleton] at hu
          subst hu
          exact left_rwk hk1
        | bl =>
          (conv => whnf); repeat ((first | refine dIf_t (by first | rfl | decide +kernel) ?_ | refine dIf_f (by first | rfl | decide +kernel) ?_ | refine And.intro (by first | rfl | exact Nat.le_of_ble_eq_true rfl | decide +kernel) ?_ | refine dIf_t (decide_eq_true (by omega)) ?_ | refine dIf_f (decide_eq_false (by omega)) ?_ | refine And.intro (by omega) ?_); (conv => whnf))
          (conv => whnf)
          rw [lstOf_at hp1]
          (conv => whnf); repeat ((first | refine dIf_t (by first | rfl | decide +kernel) ?_ | refine dIf_f (by first | rfl | decide +kernel) ?_ | refine And.intro (by first | rfl | exact Nat.le_of_ble_eq_true rfl | decide +kernel) ?_ | refine dIf_t (decide_eq_true (by omega)) ?_ | refine dIf_f (decide_eq_false (by omega)) ?_ | refine And.intro (by omega) ?_); (conv => whnf))
          rw [ct (by omega)]
          refine ⟨room (y := [_]) (lt _) (by simp), ?_⟩
          (conv => whnf)
          rw [lstOf_at hp1]
          (conv => whnf)
          rw [show (a : Int) + 1 = ((a + 1 : Nat) : Int) by omega, cd (by omega)]
          refine ⟨room (by rw [List.length_append, List.length_singleton, List.length_take]; omega) (ld _), ?_⟩
          refine hq' _ _ (app (by omega) fun u hu => ?_) (by rw [List.length_append, List.length_append, List.length_singleton, List.length_take, List.length_drop]; omega)
          rw [List.mem_singleton] at hu
          subst hu
          exact left_rwk hk1
        | int n hn =>
          (conv => whnf); repeat ((first | refine dIf_t (by first | rfl | decide +kernel) ?_ | refine dIf_f (by first | rfl | decide +kernel) ?_ | refine And.intro (by first | rfl | exact Nat.le_of_ble_eq_true rfl | decide +kernel) ?_ | refine dIf_t (decide_eq_true (by omega)) ?_ | refine dIf_f (decide_eq_false (by omega)) ?_ | refine And.intro (by omega) ?_); (conv => whnf))
          (conv => whnf)
          rw [lstOf_at hp1]
          (conv => whnf); repeat ((first | refine dIf_t (by first | rfl | decide +kernel) ?_ | refine dIf_f (by first | rfl | decide +kernel) ?_ | refine And.intro (by first | rfl | exact Nat.le_of_ble_eq_true rfl | decide +kernel) ?_ | refine dIf_t (decide_eq_true (by omega)) ?_ | refine dIf_f (decide_eq_false (by omega)) ?_ | refine And.intro (by omega) ?_); (conv => whnf))
          rw [ct (by omega)]
          refine ⟨room (y := [_]) (lt _) (by simp), ?_⟩
          (conv => whnf)
          rw [lstOf_at hp1]
          (conv => whnf)
          rw [show (a : Int) + 1 = ((a + 1 : Nat) : Int) by omega, cd (by omega)]
          refine ⟨room (by rw [List.length_append, List.length_singleton, List.length_take]; omega) (ld _), ?_⟩
          refine hq' _ _ (app (by omega) fun u hu => ?_) (by rw [List.length_append, List.length_append, List.length_singleton, List.length_take, List.length_drop]; omega)
          rw [List.mem_singleton] at hu
          subst hu
          exact left_rwk hk1
        | tup xs hx hxl =>
          obtain ⟨hxk, hxi⟩ := hrb xs rfl
          (conv => whnf); repeat ((first | refine dIf_t (by first | rfl | decide +kernel) ?_ | refine dIf_f (by first | rfl | decide +kernel) ?_ | refine And.intro (by first | rfl | exact Nat.le_of_ble_eq_true rfl | decide +kernel) ?_ | refine dIf_t (decide_eq_true (by omega)) ?_ | refine dIf_f (decide_eq_false (by omega)) ?_ | refine And.intro (by omega) ?_); (conv => whnf))
          obtain ⟨ys, g1, _, g3, g4, g5⟩ := its_py (μ.set p (.lst ds)) hx
          rw [show pyD (μ.set p (.lst ds)) (.tup xs) = some (.tuple ys) by simp only [pyD, g1]; rfl, show pyD (μ.set p (.lst ds)) (.tup []) = some (.tuple []) by simp only [pyD, pyDs]; rfl]
          refine ⟨(shaped_seq g3 (by omega)).1, (shaped_seq (ds := []) (by simp [PyData.canLayAll0]) (by simp [PyData.depthAll])).1, ?_⟩
          cases xs with
          | nil =>
            have : ys = [] := List.length_eq_zero_iff.mp g5
            subst this
            rw [show PyData.eqv (.tuple []) (.tuple []) = true by simp [PyData.eqv, PyData.eqvAll]]
            (conv => whnf); repeat ((first | refine dIf_t (by first | rfl | decide +kernel) ?_ | refine dIf_f (by first | rfl | decide +kernel) ?_ | refine And.intro (by first | rfl | exact Nat.le_of_ble_eq_true rfl | decide +kernel) ?_ | refine dIf_t (decide_eq_true (by omega)) ?_ | refine dIf_f (decide_eq_false (by omega)) ?_ | refine And.intro (by omega) ?_); (conv => whnf))
            (conv => whnf)
            rw [lstOf_at hp1]
            (conv => whnf); repeat ((first | refine dIf_t (by first | rfl | decide +kernel) ?_ | refine dIf_f (by first | rfl | decide +kernel) ?_ | refine And.intro (by first | rfl | exact Nat.le_of_ble_eq_true rfl | decide +kernel) ?_ | refine dIf_t (decide_eq_true (by omega)) ?_ | refine dIf_f (decide_eq_false (by omega)) ?_ | refine And.intro (by omega) ?_); (conv => whnf))
            rw [ct (by omega)]
            refine ⟨room (y := [_]) (lt _) (by simp), ?_⟩
            (conv => whnf)
            rw [lstOf_at hp1]
            (conv => whnf)
            rw [show (a : Int) + 1 = ((a + 1 : Nat) : Int) by omega, cd (by omega)]
            refine ⟨room (by rw [List.length_append, List.length_singleton, List.length_take]; omega) (ld _), ?_⟩
            refine hq' _ _ (app (by omega) fun u hu => ?_) (by rw [List.length_append, List.length_append, List.length_singleton, List.length_take, List.length_drop]; omega)
            rw [List.mem_singleton] at hu
            subst hu
            exact left_rwk hk1
          | cons x0 xr =>
            rw [show PyData.eqv (.tuple ys) (.tuple []) = false by cases ys with | nil => cases g5 | cons _ _ => simp [PyData.eqv, PyData.eqvAll]]
            clear g1 g3 g4 g5
            refine dIf_f rfl ?_
            (conv => whnf)
            refine ⟨rfl, drawn hm1 (by show (0 : Int) < (((x0 :: xr).length : Nat) : Int); rw [List.length_cons]; omega) (by show (((x0 :: xr).length : Nat) : Int) ≤ _; omega) fun c c0 c1 => ?_⟩
            obtain ⟨c, rfl⟩ := Int.eq_ofNat_of_zero_le c0
            have hc : c < (x0 :: xr).length := by
              have c1' : (c : Int) < (((x0 :: xr).length : Nat) : Int) := c1
              omega
            have put : ∀ y, RwK (k + 1) y → (∀ r ∈ ds.set a y, RwK (k + 1) r) ∧ (ds.set a y).length = ds.length := fun y hy => ⟨fun r hr => by
              rcases List.mem_or_eq_of_mem_set hr with hr | rfl
              · exact h1 r hr
              · exact hy, List.length_set ..⟩
            refine ⟨fun ρ' μ' => ∃ y, RwK (k + 1) y ∧ μ' = (μ.set p (.lst ds)).set p (.lst (ds.set a y)) ∧ ∃ e0 e1 e2 e3 e5 e6 e7 e8, ρ' = [e0, e1, e2, e3, some (.ptr p), e5, e6, e7, e8], ?_, ?_⟩
            · have hne : (x0 :: xr) ≠ [] := by simp
              have hat0 : ∃ x ∈ x0 :: xr, atI (x0 :: xr) 0 = some x := ⟨x0, List.mem_cons_self, atI_nat (j := 0) rfl⟩
              have hatc : ∃ x ∈ x0 :: xr, atI (x0 :: xr) (c : Int) = some x := ⟨_, List.getElem_mem hc, atI_nat (j := c) (List.getElem?_eq_getElem hc)⟩
              generalize x0 :: xr = xs at *
              obtain ⟨xf, hxf, exf⟩ := hat0
              obtain ⟨xl, hxl2, exl⟩ := at_last hne
              obtain ⟨xc, hxc, exc⟩ := hatc
              have ixa : ixN ds.length (a : Int) = some a := by
                unfold ixN
                rw [if_pos (by omega), if_pos (by omega)]
                congr 1
              have hx1 : ∀ x ∈ xs, ItK (k + 1) x := fun x hx => (hxi x hx).mono (by omega)
              (conv => whnf)
              refine dIf_of (fun e2 => ?_) (fun e2 => ?_)
              · (conv => whnf)
                refine ⟨rfl, ?_⟩
                show lcL [] _ tYe _ _ xs [] _
                refine lcL_map (fun d => .str (strI d)) ck_nil xs [] (fun x hx2 R B hR => dIf_t rfl (str_ok (hxi x hx2).1 hR)) (Nat.le_trans (by show 0 + xs.length ≤ 100; omega) (by decide)) ?_
                rw [List.nil_append, show xs.map (fun d => D.str (strI d)) = (xs.map strI).map D.str by rw [List.map_map]; rfl]
                dsimp only [newL, aNil]
                have sum : ((xs.map strI).map (·.length)).sum + (xs.map strI).length ≤ 300 := by
                  have := sum_le (l := xs.map strI) (f := fun z : Str => z.length) (k := 22) fun z hz => by
                    obtain ⟨x, hx2, rfl⟩ := List.mem_map.mp hz
                    exact (strI_tx (hxi x hx2).1).len
                  rw [List.length_map] at this ⊢
                  omega
                have ttx : Tx 300 (Txt.join " " (xs.map strI)) := join_tx (asc_lit (by decide +kernel)) (by decide +kernel) sum fun z hz => by
                  obtain ⟨x, hx2, rfl⟩ := List.mem_map.mp hz
                  exact (strI_tx (hxi x hx2).1).asc
                refine join_sp' (Nat.le_trans sum (by decide)) ?_
                generalize Txt.join " " (xs.map strI) = text at ttx
                (conv => whnf)
                refine ⟨by show 1 ≤ sizeLine; decide, ?_⟩
                (conv => whnf)
                refine ⟨room (y := [_]) (by omega) (by simp), ?_⟩
                (conv => whnf)
                refine ⟨Nat.zero_le _, ?_⟩
                (conv => whnf)
                rw [exf]
                (conv => whnf)
                refine ⟨by show 8 ≤ sizeLine; decide, ?_⟩
                (conv => whnf)
                refine ⟨rfl, drawn (many := 8) hm1 (by decide) (by decide) fun r r0 r1 => ?_⟩
                obtain ⟨r, rfl⟩ := Int.eq_ofNat_of_zero_le r0
                rw [cutD_init hne]
                obtain ⟨y, ey, hy⟩ := pick (xs := [.lst xs, .tup (xs.take (xs.length - 1)), .tup (xs ++ [.int 0]), .tup [], xf, .non, .int 7, .str text]) (m := r) (P := RwK (k + 1)) (by show r < 8; omega) (fun y hy => by
                  simp only [List.mem_cons, List.not_mem_nil, or_false] at hy
                  rcases hy with rfl | rfl | rfl | rfl | rfl | rfl | rfl | rfl
                  · exact ⟨.lst xs (fun x hx2 => (hxi x hx2).1) (by omega), fun zs e => by cases e⟩
                  · exact rwk_tup hk1 (by rw [List.length_take]; omega) fun x hx2 => hx1 x (List.mem_of_mem_take hx2)
                  · refine rwk_tup hk1 (by rw [List.length_append, List.length_singleton]; omega) fun x hx2 => ?_
                    rcases List.mem_append.mp hx2 with hx2 | hx2
                    · exact hx1 x hx2
                    · rw [List.mem_singleton] at hx2
                      subst hx2
                      exact itk_small (by omega) (by decide)
                  · exact rwk_tup hk1 (by simp) fun x hx2 => by cases hx2
                  · exact rwk_it (hx1 _ hxf)
                  · exact ⟨.non, fun zs e => by cases e⟩
                  · exact ⟨.int 7 (by decide), fun zs e => by cases e⟩
                  · exact ⟨.str _ ttx, fun zs e => by cases e⟩)
                show (match atI [.lst xs, .tup (xs.take (xs.length - 1)), .tup (xs ++ [.int 0]), .tup [], xf, .non, .int 7, .str text] (r : Int) with | some v => _ | none => False)
                rw [ey]
                (conv => whnf)
                rw [Mu.set_same]
                (conv => whnf)
                rw [ixa]
                exact ⟨y, hy, rfl, _, _, _, _, _, _, _, _, rfl⟩
              · (conv => whnf)
                refine dIf_of (fun e3 => ?_) (fun e3 => ?_)
                · (conv => whnf)
                  rw [exl]
                  (conv => whnf)
                  refine ⟨rfl, odd_item_ok hm1 (hxi xl hxl2) (by omega) fun y hy => ?_⟩
                  (conv => whnf)
                  refine ⟨by show 1 ≤ sizeLine; decide, ?_⟩
                  (conv => whnf)
                  rw [cutD_init hne]
                  refine ⟨room (y := [_]) (by rw [List.length_take]; omega) (by simp), ?_⟩
                  (conv => whnf)
                  rw [Mu.set_same]
                  (conv => whnf)
                  rw [ixa]
                  refine ⟨_, rwk_tup hk1 ?_ fun x hx2 => ?_, rfl, _, _, _, _, _, _, _, _, rfl⟩
                  · rw [List.length_append, List.length_singleton, List.length_take]
                    omega
                  · rcases List.mem_append.mp hx2 with hx2 | hx2
                    · exact hx1 x (List.mem_of_mem_take hx2)
                    · rw [List.mem_singleton] at hx2
                      subst hx2
                      exact hy
                · (conv => whnf)
                  rw [exc]
                  (conv => whnf)
                  refine ⟨rfl, odd_item_ok hm1 (hxi xc hxc) (by omega) fun y hy => ?_⟩
                  (conv => whnf)
                  refine ⟨by show 1 ≤ sizeLine; decide, ?_⟩
                  (conv => whnf)
                  rw [cutD_to (by omega)]
                  refine ⟨room (y := [_]) (by rw [List.length_take]; omega) (by simp), ?_⟩
                  (conv => whnf)
                  rw [show (c : Int) + 1 = ((c + 1 : Nat) : Int) by omega, cutD_from (by omega)]
                  refine ⟨room (by rw [List.length_append, List.length_singleton, List.length_take]; omega) (by rw [List.length_drop]; omega), ?_⟩
                  (conv => whnf)
                  rw [Mu.set_same]
                  (conv => whnf)
                  rw [ixa]
                  refine ⟨_, rwk_tup hk1 ?_ fun x hx2 => ?_, rfl, _, _, _, _, _, _, _, _, rfl⟩
                  · rw [List.length_append, List.length_append, List.length_singleton, List.length_take, List.length_drop]
                    omega
                  · rcases List.mem_append.mp hx2 with hx2 | hx2
                    · rcases List.mem_append.mp hx2 with hx2 | hx2
                      · exact hx1 x (List.mem_of_mem_take hx2)
                      · rw [List.mem_singleton] at hx2
                        subst hx2
                        exact hy
                    · exact hx1 x (List.mem_of_mem_drop hx2)
            · rintro ρ' μ' ⟨y, hy, rfl, e0, e1, e2, e3, e5, e6, e7, e8, rfl⟩
              rw [Mu.set_set]
              (conv => whnf)
              rw [Mu.set_same]
              show Q (.lst (ds.set a y)) _
              rw [Mu.set_del' hp, Mu.inter_self]
              exact hq _ (put y hy).1 (by rw [(put y hy).2]; omega)
end PD
set_option Elab.async false
set_option linter.all false
set_option autoImplicit false
set_option maxRecDepth 100000
set_option maxHeartbeats 4000000
namespace PD
open PySem PySem.Spec PyProof.Rows L2
open SX (S S_len)
variable {μ : Mu} {Q : QD} {Xd : XD → Mu → Prop} {d l : Addr}
def machD (w r : Int) : D := .obj "Machine" [("width", .int w), ("registers", .int r)]
theorem Mu.inter_ss {x : Addr} {m m' : MO} : (μ.set x m).inter (μ.set x m') = μ.set x m := by
  funext b
  unfold Mu.inter
  by_cases e : b = x
  · subst e
    rw [Mu.set_same]
    rfl
  · rw [Mu.set_ne e, Mu.set_ne e]
    cases μ b <;> rfl
theorem new_mach {w r : Int} (hq : Q (machD w r) μ) : mkD false "Machine" 3 F_Machine_init [.int w, .int r] μ Q Xd := by
  unfold mkD
  intro x hx
  refine ⟨rfl, ?_⟩
  rw [F_Machine_init_eq]
  unfold fnD T_Machine_init
  (conv => whnf)
  rw [Mu.set_same]
  (conv => whnf); repeat ((first | refine dIf_t (by first | rfl | decide +kernel) ?_ | refine dIf_f (by first | rfl | decide +kernel) ?_ | refine And.intro (by first | rfl | exact Nat.le_of_ble_eq_true rfl | decide +kernel) ?_ | refine dIf_t (decide_eq_true (by omega)) ?_ | refine dIf_f (decide_eq_false (by omega)) ?_ | refine And.intro (by omega) ?_); (conv => whnf))
  rw [Mu.set_set, Mu.set_same]
  (conv => whnf); repeat ((first | refine dIf_t (by first | rfl | decide +kernel) ?_ | refine dIf_f (by first | rfl | decide +kernel) ?_ | refine And.intro (by first | rfl | exact Nat.le_of_ble_eq_true rfl | decide +kernel) ?_ | refine dIf_t (decide_eq_true (by omega)) ?_ | refine dIf_f (decide_eq_false (by omega)) ?_ | refine And.intro (by omega) ?_); (conv => whnf))
  rw [Mu.set_set, Mu.inter_ss, Mu.set_same, Mu.set_del' hx]
  exact ⟨rfl, hq⟩
theorem mach_eq {a b c e : Int} (hq : Q (.bl (decide (a = c ∧ b = e))) μ) : F_Machine_eq [machD a b, machD c e] μ Q Xd := by
  rw [F_Machine_eq_eq]; unfold fnD T_Machine_eq
  by_cases h1 : a = c
  · (conv => whnf); repeat ((first | refine dIf_t (by first | rfl | decide +kernel) ?_ | refine dIf_f (by first | rfl | decide +kernel) ?_ | refine And.intro (by first | rfl | exact Nat.le_of_ble_eq_true rfl | decide +kernel) ?_ | refine dIf_t (decide_eq_true (by omega)) ?_ | refine dIf_f (decide_eq_false (by omega)) ?_ | refine And.intro (by omega) ?_); (conv => whnf))
    show Q (.bl (decide (b = e))) _
    rw [Mu.inter_self, show decide (b = e) = decide (a = c ∧ b = e) from decide_eq_decide.mpr ⟨fun z => ⟨h1, z⟩, fun z => z.2⟩]
    exact hq
  · rw [decide_eq_false fun z => h1 z.1] at hq
    (conv => whnf); repeat ((first | refine dIf_t (by first | rfl | decide +kernel) ?_ | refine dIf_f (by first | rfl | decide +kernel) ?_ | refine And.intro (by first | rfl | exact Nat.le_of_ble_eq_true rfl | decide +kernel) ?_ | refine dIf_t (decide_eq_true (by omega)) ?_ | refine dIf_f (decide_eq_false (by omega)) ?_ | refine And.intro (by omega) ?_); (conv => whnf))
    show Q (.bl false) _
    rw [Mu.inter_self]
    exact hq
theorem mach_eq_tup {a b : Int} {xs : List D} (hq : Q (.bl false) μ) : F_Machine_eq [machD a b, .tup xs] μ Q Xd := by
  rw [F_Machine_eq_eq]; unfold fnD T_Machine_eq
  (conv => whnf); repeat ((first | refine dIf_t (by first | rfl | decide +kernel) ?_ | refine dIf_f (by first | rfl | decide +kernel) ?_ | refine And.intro (by first | rfl | exact Nat.le_of_ble_eq_true rfl | decide +kernel) ?_ | refine dIf_t (decide_eq_true (by omega)) ?_ | refine dIf_f (decide_eq_false (by omega)) ?_ | refine And.intro (by omega) ?_); (conv => whnf))
  rw [Mu.inter_self]
  exact hq
theorem machines_ok (hm : μ d = some (.deal l)) (hq : Q (.bl true) μ) : F_law_machines_right [.ptr d] μ Q Xd := by
  rw [F_law_machines_right_eq]; unfold fnD T_law_machines_right
  (conv => whnf); repeat ((first | refine dIf_t (by first | rfl | decide +kernel) ?_ | refine dIf_f (by first | rfl | decide +kernel) ?_ | refine And.intro (by first | rfl | exact Nat.le_of_ble_eq_true rfl | decide +kernel) ?_ | refine dIf_t (decide_eq_true (by omega)) ?_ | refine dIf_f (decide_eq_false (by omega)) ?_ | refine And.intro (by omega) ?_); (conv => whnf))
  refine drawn (many := 61) hm (by decide) (by decide) fun a a0 a1 => ?_
  (conv => whnf); repeat ((first | refine dIf_t (by first | rfl | decide +kernel) ?_ | refine dIf_f (by first | rfl | decide +kernel) ?_ | refine And.intro (by first | rfl | exact Nat.le_of_ble_eq_true rfl | decide +kernel) ?_ | refine dIf_t (decide_eq_true (by omega)) ?_ | refine dIf_f (decide_eq_false (by omega)) ?_ | refine And.intro (by omega) ?_); (conv => whnf))
  refine drawn (many := 6) hm (by decide) (by decide) fun b b0 b1 => ?_
  (conv => whnf); repeat ((first | (first | refine dIf_t (by first | rfl | decide +kernel) ?_ | refine dIf_f (by first | rfl | decide +kernel) ?_ | refine And.intro (by first | rfl | exact Nat.le_of_ble_eq_true rfl | decide +kernel) ?_ | refine dIf_t (decide_eq_true (by omega)) ?_ | refine dIf_f (decide_eq_false (by omega)) ?_ | refine And.intro (by omega) ?_) | refine new_mach ?_); (conv => whnf))
  refine dIf_f (by simp [PyData.eqv, PyData.eqvAll]) ?_
  (conv => whnf); repeat ((first | (first | refine dIf_t (by first | rfl | decide +kernel) ?_ | refine dIf_f (by first | rfl | decide +kernel) ?_ | refine And.intro (by first | rfl | exact Nat.le_of_ble_eq_true rfl | decide +kernel) ?_ | refine dIf_t (decide_eq_true (by omega)) ?_ | refine dIf_f (decide_eq_false (by omega)) ?_ | refine And.intro (by omega) ?_) | refine new_mach ?_); (conv => whnf))
  refine mach_eq ?_
  (conv => whnf); repeat ((first | refine dIf_t (by first | rfl | decide +kernel) ?_ | refine dIf_f (by first | rfl | decide +kernel) ?_ | refine And.intro (by first | rfl | exact Nat.le_of_ble_eq_true rfl | decide +kernel) ?_ | refine dIf_t (decide_eq_true (by omega)) ?_ | refine dIf_f (decide_eq_false (by omega)) ?_ | refine And.intro (by omega) ?_); (conv => whnf))
  refine dIf_f (by simp) ?_
  (conv => whnf); repeat ((first | refine dIf_t (by first | rfl | decide +kernel) ?_ | refine dIf_f (by first | rfl | decide +kernel) ?_ | refine And.intro (by first | rfl | exact Nat.le_of_ble_eq_true rfl | decide +kernel) ?_ | refine dIf_t (decide_eq_true (by omega)) ?_ | refine dIf_f (decide_eq_false (by omega)) ?_ | refine And.intro (by omega) ?_); (conv => whnf))
  refine mach_eq ?_
  (conv => whnf); repeat ((first | refine dIf_t (by first | rfl | decide +kernel) ?_ | refine dIf_f (by first | rfl | decide +kernel) ?_ | refine And.intro (by first | rfl | exact Nat.le_of_ble_eq_true rfl | decide +kernel) ?_ | refine dIf_t (decide_eq_true (by omega)) ?_ | refine dIf_f (decide_eq_false (by omega)) ?_ | refine And.intro (by omega) ?_); (conv => whnf))
  refine mach_eq_tup ?_
  (conv => whnf); repeat ((first | (first | refine dIf_t (by first | rfl | decide +kernel) ?_ | refine dIf_f (by first | rfl | decide +kernel) ?_ | refine And.intro (by first | rfl | exact Nat.le_of_ble_eq_true rfl | decide +kernel) ?_ | refine dIf_t (decide_eq_true (by omega)) ?_ | refine dIf_f (decide_eq_false (by omega)) ?_ | refine And.intro (by omega) ?_) | refine new_mach ?_); (conv => whnf))
  refine mach_eq ?_
  show Q (.bl (!decide (4 + a = 4 + a ∧ 3 + b = 3 + (3 + b - 2) % 6))) _
  rw [Mu.inter_self, decide_eq_false (by omega)]
  exact hq
end PD
set_option Elab.async false
set_option linter.all false
set_option autoImplicit false
set_option maxRecDepth 100000
set_option maxHeartbeats 4000000
namespace PD
open PySem PySem.Spec PyProof.Rows L2
open SX (S S_len)
variable {μ : Mu} {Q : QD} {Xd : XD → Mu → Prop} {d l : Addr}
theorem lstW_at {p : Addr} {xs : List D} (h : μ p = some (.lst xs)) : lstW (.ptr p) μ = some xs := by
  unfold lstW
  dsimp only
  rw [h]
theorem fits_ok {r : Row} (h : r.Ok) : fitsD r.d = true := by
  cases r with
  | set x0 x1 =>
    obtain ⟨h0, h1⟩ := h
    show (true && ((decide (0 ≤ x0 ∧ x0 < 8) && (decide (-18446744073709551616 < x1 ∧ x1 < 18446744073709551616) && true)) && (true || restB [.int x0, .int x1]))) = true
    rw [decide_eq_true (p := (0 ≤ x0 ∧ x0 < 8)) h0, decide_eq_true (p := (-18446744073709551616 < x1 ∧ x1 < 18446744073709551616)) h1]
    rfl
  | copy x0 x1 =>
    obtain ⟨h0, h1⟩ := h
    show (true && ((decide (0 ≤ x0 ∧ x0 < 8) && (decide (0 ≤ x1 ∧ x1 < 8) && true)) && (true || restB [.int x0, .int x1]))) = true
    rw [decide_eq_true (p := (0 ≤ x0 ∧ x0 < 8)) h0, decide_eq_true (p := (0 ≤ x1 ∧ x1 < 8)) h1]
    rfl
  | left x0 x1 =>
    obtain ⟨h0, h1⟩ := h
    show (true && ((decide (0 ≤ x0 ∧ x0 < 8) && (decide (0 ≤ x1 ∧ x1 < 8) && true)) && (true || restB [.int x0, .int x1]))) = true
    rw [decide_eq_true (p := (0 ≤ x0 ∧ x0 < 8)) h0, decide_eq_true (p := (0 ≤ x1 ∧ x1 < 8)) h1]
    rfl
  | right x0 x1 =>
    obtain ⟨h0, h1⟩ := h
    show (true && ((decide (0 ≤ x0 ∧ x0 < 8) && (decide (0 ≤ x1 ∧ x1 < 8) && true)) && (true || restB [.int x0, .int x1]))) = true
    rw [decide_eq_true (p := (0 ≤ x0 ∧ x0 < 8)) h0, decide_eq_true (p := (0 ≤ x1 ∧ x1 < 8)) h1]
    rfl
  | add x0 x1 x2 =>
    obtain ⟨h0, h1, h2⟩ := h
    show (true && ((decide (0 ≤ x0 ∧ x0 < 8) && (decide (0 ≤ x1 ∧ x1 < 8) && (decide (0 ≤ x2 ∧ x2 < 8) && true))) && (true || restB [.int x0, .int x1, .int x2]))) = true
    rw [decide_eq_true (p := (0 ≤ x0 ∧ x0 < 8)) h0, decide_eq_true (p := (0 ≤ x1 ∧ x1 < 8)) h1, decide_eq_true (p := (0 ≤ x2 ∧ x2 < 8)) h2]
    rfl
  | sub x0 x1 x2 =>
    obtain ⟨h0, h1, h2⟩ := h
    show (true && ((decide (0 ≤ x0 ∧ x0 < 8) && (decide (0 ≤ x1 ∧ x1 < 8) && (decide (0 ≤ x2 ∧ x2 < 8) && true))) && (true || restB [.int x0, .int x1, .int x2]))) = true
    rw [decide_eq_true (p := (0 ≤ x0 ∧ x0 < 8)) h0, decide_eq_true (p := (0 ≤ x1 ∧ x1 < 8)) h1, decide_eq_true (p := (0 ≤ x2 ∧ x2 < 8)) h2]
    rfl
  | mul x0 x1 x2 =>
    obtain ⟨h0, h1, h2⟩ := h
    show (true && ((decide (0 ≤ x0 ∧ x0 < 8) && (decide (0 ≤ x1 ∧ x1 < 8) && (decide (0 ≤ x2 ∧ x2 < 8) && true))) && (true || restB [.int x0, .int x1, .int x2]))) = true
    rw [decide_eq_true (p := (0 ≤ x0 ∧ x0 < 8)) h0, decide_eq_true (p := (0 ≤ x1 ∧ x1 < 8)) h1, decide_eq_true (p := (0 ≤ x2 ∧ x2 < 8)) h2]
    rfl
  | load x0 x1 =>
    obtain ⟨h0, h1⟩ := h
    show (true && ((decide (0 ≤ x0 ∧ x0 < 8) && (decide (0 ≤ x1 ∧ x1 < 1000) && true)) && (true || restB [.int x0, .int x1]))) = true
    rw [decide_eq_true (p := (0 ≤ x0 ∧ x0 < 8)) h0, decide_eq_true (p := (0 ≤ x1 ∧ x1 < 1000)) h1]
    rfl
  | store x0 x1 =>
    obtain ⟨h0, h1⟩ := h
    show (true && ((decide (0 ≤ x0 ∧ x0 < 1000) && (decide (0 ≤ x1 ∧ x1 < 8) && true)) && (true || restB [.int x0, .int x1]))) = true
    rw [decide_eq_true (p := (0 ≤ x0 ∧ x0 < 1000)) h0, decide_eq_true (p := (0 ≤ x1 ∧ x1 < 8)) h1]
    rfl
  | skip x0 x1 x2 x3 =>
    obtain ⟨h0, h1, ⟨h2, h3⟩, h4, h5⟩ := h
    show (true && ((decide (0 ≤ x0 ∧ x0 < 8) && (decide (0 < x1 ∧ x1 ≤ 64 ∧ 64 % x1 = 0) && (decide (0 ≤ x2 ∧ x2 < 64) && (decide (0 ≤ x3 ∧ x3 ≤ 1000) && true)))) && (false || decide (x2 < x1)))) = true
    rw [decide_eq_true (p := (0 ≤ x0 ∧ x0 < 8)) h0, decide_eq_true (p := (0 < x1 ∧ x1 ≤ 64 ∧ 64 % x1 = 0)) h1, decide_eq_true (p := (0 ≤ x2 ∧ x2 < 64)) (⟨h2, by omega⟩), decide_eq_true (p := (0 ≤ x3 ∧ x3 ≤ 1000)) (⟨h4, h5⟩)]
    rw [decide_eq_true h3]
    rfl
theorem row_rwk {r : Row} (h : r.Ok) : RwK 0 r.d := by
  have hn := h.num
  have hl := r.ns_len
  have hw : Tx 20 r.w := by cases r <;> exact tx_lit (by simp only [Row.w]; decide +kernel) (by simp only [Row.w]; decide +kernel)
  refine rwk_tup (by decide) (by rw [List.length_cons, List.length_map]; omega) fun x hx => ?_
  rcases List.mem_cons.mp hx with rfl | hx
  · exact itk_str hw
  · obtain ⟨n, hm, rfl⟩ := List.mem_map.mp hx
    have := hn n hm
    exact itk_int (by decide) (by omega)
theorem rows_rwk {rs : List Row} (h : CodeOk rs) : ∀ x ∈ rowsD rs, RwK 0 x := fun x hx => by
  obtain ⟨r, hr, rfl⟩ := List.mem_map.mp hx
  exact row_rwk (h.row r hr)
theorem fine_of {rs : List Row} (h : CodeOk rs) : ∀ i, FineD (rowsD rs) i := fun i x hx => by
  obtain ⟨r, hr, rfl⟩ := rows_get hx
  refine ⟨fits_ok (h.row r (List.mem_of_getElem? hr)), fun hs => ?_⟩
  have far := h.far i r hr
  have hl : (rowsD rs).length = rs.length := List.length_map ..
  rw [hl]
  cases r with
  | skip a m c n => exact far rfl
  | _ => exact nomatch (show false = true from hs)
theorem code_eqX {xs ys : List D} {px py : List PyData} (h1 : pyDs μ xs = some px) (h2 : pyDs μ ys = some py) (s1 : SeqAt.shaped (.tuple px) = true) (s2 : SeqAt.shaped (.tuple py) = true) (hq : Q (.bl (PyData.eqv (.tuple px) (.tuple py))) μ) : F_Code_eq [codeX xs, codeX ys] μ Q Xd := by
  rw [F_Code_eq_eq]; unfold fnD T_Code_eq
  (conv => whnf); repeat ((first | refine dIf_t (by first | rfl | decide +kernel) ?_ | refine dIf_f (by first | rfl | decide +kernel) ?_ | refine And.intro (by first | rfl | exact Nat.le_of_ble_eq_true rfl | decide +kernel) ?_ | refine dIf_t (decide_eq_true (by omega)) ?_ | refine dIf_f (decide_eq_false (by omega)) ?_ | refine And.intro (by omega) ?_); (conv => whnf))
  rw [show pyD μ (.tup xs) = some (.tuple px) by simp only [pyD, h1]; rfl, show pyD μ (.tup ys) = some (.tuple py) by simp only [pyD, h2]; rfl]
  refine ⟨s1, s2, ?_⟩
  show Q _ _
  rw [Mu.inter_self]
  exact hq
theorem code_eq_tup {xs ys : List D} (hq : Q (.bl false) μ) : F_Code_eq [codeX xs, .tup ys] μ Q Xd := by
  rw [F_Code_eq_eq]; unfold fnD T_Code_eq
  (conv => whnf); repeat ((first | refine dIf_t (by first | rfl | decide +kernel) ?_ | refine dIf_f (by first | rfl | decide +kernel) ?_ | refine And.intro (by first | rfl | exact Nat.le_of_ble_eq_true rfl | decide +kernel) ?_ | refine dIf_t (decide_eq_true (by omega)) ?_ | refine dIf_f (decide_eq_false (by omega)) ?_ | refine And.intro (by omega) ?_); (conv => whnf))
  rw [Mu.inter_self]
  exact hq
theorem code_eq_int {xs : List D} {n : Int} (hq : Q (.bl false) μ) : F_Code_eq [codeX xs, .int n] μ Q Xd := by
  rw [F_Code_eq_eq]; unfold fnD T_Code_eq
  (conv => whnf); repeat ((first | refine dIf_t (by first | rfl | decide +kernel) ?_ | refine dIf_f (by first | rfl | decide +kernel) ?_ | refine And.intro (by first | rfl | exact Nat.le_of_ble_eq_true rfl | decide +kernel) ?_ | refine dIf_t (decide_eq_true (by omega)) ?_ | refine dIf_f (decide_eq_false (by omega)) ?_ | refine And.intro (by omega) ?_); (conv => whnf))
  rw [Mu.inter_self]
  exact hq
theorem code_lenX {xs : List D} (hq : Q (.int (xs.length : Nat)) μ) : F_Code_len [codeX xs] μ Q Xd := by
  rw [F_Code_len_eq]; unfold fnD T_Code_len
  (conv => whnf); repeat ((first | refine dIf_t (by first | rfl | decide +kernel) ?_ | refine dIf_f (by first | rfl | decide +kernel) ?_ | refine And.intro (by first | rfl | exact Nat.le_of_ble_eq_true rfl | decide +kernel) ?_ | refine dIf_t (decide_eq_true (by omega)) ?_ | refine dIf_f (decide_eq_false (by omega)) ?_ | refine And.intro (by omega) ?_); (conv => whnf))
  rw [Mu.inter_self]
  exact hq
/-- what the law asks of rows -/
def askR : TDS := (sIf (tOn (tVal (eBin oNe (eB cRepr (aCons (eCall 1 F_law_told [] (aCons (eVar 7) aNil)) aNil)) (eB cRepr (aCons (eCall 1 F_law_due [] (aCons (eVar 4) aNil)) aNil)))) (tVal (eBin oNe (eVar 4) (eVar 6)))) (sRet (eC (.bl false))) sNil)
theorem askR_ok {es : List D} {x : D} {E : EndsD} {Xd : XE} {ρ : PD.Env} (h : ∀ r ∈ es, Rw r) (hx : x = .lst es ∨ x = .tup es) (h7 : ρ[7]? = some (some x)) (h4 : ρ[4]? = some (some (.lst es))) (h6 : ρ[6]? = some (some (.lst es))) (hN : E.nx ρ μ) : askR E Xd ρ μ := by
  have told : ∀ {Q : QD} {Xd : XD → Mu → Prop}, (∀ d, AnsD es d → Q d μ) → F_law_told [x] μ Q Xd := fun hq => by
    rcases hx with rfl | rfl
    · exact told_lst h hq
    · exact told_tup h hq
  unfold askR
  (conv => whnf)
  rw [h7]
  (conv => whnf)
  refine ⟨rfl, told fun d a => ?_⟩
  obtain ⟨y, h1, h2, h3, hs⟩ := a.shows (μ := μ)
  (conv => whnf)
  rw [h1]
  refine ⟨h2, h3, hs, ?_⟩
  (conv => whnf)
  rw [h4]
  (conv => whnf)
  refine ⟨rfl, due_lst h fun e b => ?_⟩
  obtain rfl := a.inj b
  (conv => whnf)
  rw [h1]
  refine ⟨h2, h3, hs, ?_⟩
  (conv => whnf)
  refine dIf_f (by show (!decide (y.shown = y.shown)) = false; rw [decide_eq_true rfl]; rfl) ?_
  (conv => whnf)
  rw [h4]
  (conv => whnf)
  rw [h6]
  obtain ⟨ys, g1, _, g3, g4, g5⟩ := rws_py μ h
  (conv => whnf)
  rw [show pyD μ (.lst es) = some (.list ys) by simp only [pyD, g1]; rfl]
  have sh := (shaped_seq g3 (by omega)).2
  refine ⟨sh, sh, ?_⟩
  rw [SeqAt.eqv_refl _ (SeqAt.canLay_of_shaped sh)]
  (conv => whnf)
  exact dIf_f rfl hN
def left1 : D := .tup [.str "left", .int 0, .int 1]
theorem left1_fits : fitsD left1 = true := by decide +kernel
theorem left1_skip : isSkip left1 = false := by decide +kernel
theorem left1_rw : Rw left1 := (rwk_tup (k := 0) (by decide) (by decide) fun x hx => by
  simp only [List.mem_cons, List.not_mem_nil, or_false] at hx
  rcases hx with rfl | rfl | rfl
  · exact itk_str (tx_lit (by decide +kernel) (by decide +kernel))
  · exact itk_int (by decide) (by decide)
  · exact itk_int (by decide) (by decide)).1
theorem rep_flat {x : D} : ∀ n : Nat, (List.replicate n [x]).flatten = List.replicate n x
  | 0 => rfl
  | n + 1 => by
    rw [List.replicate_succ, List.flatten_cons, rep_flat n]
    rfl
theorem rep_fine (n : Nat) : ∀ i, FineD (List.replicate n left1) i := fun i d hd => by
  obtain ⟨_, rfl⟩ := List.mem_replicate.mp (List.mem_of_getElem? hd)
  exact ⟨left1_fits, fun h => by rw [left1_skip] at h; cases h⟩
theorem rep_ans (n : Nat) : AnsD (List.replicate n left1) (if n < 1001 then .non else .tup [.str "count", .int (-1)]) := by
  have hl : (List.replicate n left1).length = n := List.length_replicate
  by_cases h : n < 1001
  · rw [if_pos h]
    exact .ok (by omega) (rep_fine n)
  · rw [if_neg h]
    exact .count (by omega)
def oddR : List D := [.tup [.str "left", .int 9, .int 1], .tup [.str "skip", .int 0, .int 1, .int 0, .int 1000], .str "left", .tup [.str "left", .int 0]]
/-- the law's end -/
def endR : TDS := (sSeq (sAsg (eCall 2 F_law_draw [] (aCons (eVar 1) (aCons (eVar 11) aNil))) (gN 13))
  (sSeq (sAsg (eBin oIx (eLst false (aCons (eTup (aCons (eC (.str "left")) (aCons (eC (.int 9)) (aCons (eC (.int 1)) aNil)))) (aCons (eTup (aCons (eC (.str "skip")) (aCons (eC (.int 0)) (aCons (eC (.int 1)) (aCons (eC (.int 0)) (aCons (eC (.int 1000)) aNil)))))) (aCons (eC (.str "left")) (aCons (eTup (aCons (eC (.str "left")) (aCons (eC (.int 0)) aNil))) aNil))))) (eCall 2 F_law_draw [] (aCons (eVar 1) (aCons (eC (.int 4)) aNil)))) (gSu (eVar 12) (eVar 13)))
  (sRet (eBin oEq (eB cRepr (aCons (eCall 1 F_law_told [] (aCons (eVar 12) aNil)) aNil)) (eB cRepr (aCons (eCall 1 F_law_due [] (aCons (eVar 12) aNil)) aNil))))))
theorem oddR_rw : ∀ x ∈ oddR, Rw x := fun x hx => by
  simp only [oddR, List.mem_cons, List.not_mem_nil, or_false] at hx
  have sm : ∀ {n : Int}, n.natAbs ≤ 1000 → ItK 0 (.int n) := fun h => itk_int (by decide) (by omega)
  have sl : ∀ {z : Str}, Tx 20 z → ItK 0 (.str z) := fun h => itk_str h
  rcases hx with rfl | rfl | rfl | rfl
  · exact (rwk_tup (k := 0) (by decide) (by decide) fun x hx => by
      simp only [List.mem_cons, List.not_mem_nil, or_false] at hx
      rcases hx with rfl | rfl | rfl
      · exact sl (tx_lit (by decide +kernel) (by decide +kernel))
      · exact sm (by decide)
      · exact sm (by decide)).1
  · exact (rwk_tup (k := 0) (by decide) (by decide) fun x hx => by
      simp only [List.mem_cons, List.not_mem_nil, or_false] at hx
      rcases hx with rfl | rfl | rfl | rfl | rfl
      · exact sl (tx_lit (by decide +kernel) (by decide +kernel))
      · exact sm (by decide)
      · exact sm (by decide)
      · exact sm (by decide)
      · exact sm (by decide)).1
  · exact .str _ (tx_lit (by decide +kernel) (by decide +kernel))
  · exact (rwk_tup (k := 0) (by decide) (by decide) fun x hx => by
      simp only [List.mem_cons, List.not_mem_nil, or_false] at hx
      rcases hx with rfl | rfl
      · exact sl (tx_lit (by decide +kernel) (by decide +kernel))
      · exact sm (by decide)).1
theorem endR_ok {q : Addr} {N : Nat} {L : List D} {E : EndsD} {Xd : XE} {x0 x2 x3 x4 x5 x6 x7 x8 x9 x10 x13 : Option D} (hm : μ d = some (.deal l)) (hp : μ q = some (.lst L)) (h : ∀ r ∈ L, Rw r) (hl : L.length = N) (hN0 : 999 ≤ N) (hN1 : N ≤ 1002) (hdq : d ≠ q) (hN : ∀ μ, E.rt (.bl true) μ) : endR E Xd [x0, some (.ptr d), x2, x3, x4, x5, x6, x7, x8, x9, x10, some (.int (N : Nat)), some (.ptr q), x13] μ := by
  unfold endR
  (conv => whnf)
  refine ⟨rfl, drawn hm (by omega) (by omega) fun k k0 k1 => ?_⟩
  obtain ⟨k, rfl⟩ := Int.eq_ofNat_of_zero_le k0
  (conv => whnf)
  refine ⟨by decide, ?_⟩
  (conv => whnf)
  refine ⟨by decide, ?_⟩
  (conv => whnf)
  refine ⟨by decide, ?_⟩
  (conv => whnf)
  refine ⟨by decide, ?_⟩
  (conv => whnf)
  refine ⟨rfl, drawn hm (by decide) (by decide) fun j j0 j1 => ?_⟩
  obtain ⟨j, rfl⟩ := Int.eq_ofNat_of_zero_le j0
  obtain ⟨x, hx⟩ : ∃ x, oddR[j]? = some x := ⟨_, List.getElem?_eq_getElem (by show j < 4; omega)⟩
  have hxr := oddR_rw x (List.mem_of_getElem? hx)
  (conv => whnf)
  have e : atI oddR (j : Nat) = some x := atI_nat hx
  unfold oddR at e
  rw [e]
  (conv => whnf)
  rw [hp]
  (conv => whnf)
  rw [show ixN L.length (k : Int) = some k by
    unfold ixN
    rw [if_pos (by omega), if_pos (by omega)]
    rfl]
  (conv => whnf)
  have hL2 : ∀ r ∈ L.set k x, Rw r := fun r hr => by
    rcases List.mem_or_eq_of_mem_set hr with hr | rfl
    · exact h r hr
    · exact hxr
  have hp2 : (μ.set q (.lst (L.set k x))) q = some (.lst (L.set k x)) := Mu.set_same
  generalize L.set k x = L2 at hL2 hp2
  generalize hμ2 : μ.set q (.lst L2) = μ2 at hp2
  (conv => whnf)
  refine ⟨rfl, told_ptr hp2 hL2 fun dd a => ?_⟩
  obtain ⟨y, z1, z2, z3, zs⟩ := a.shows (μ := μ2)
  (conv => whnf)
  rw [z1]
  refine ⟨z2, z3, zs, ?_⟩
  (conv => whnf)
  refine ⟨rfl, due_ptr hp2 hL2 fun ee b => ?_⟩
  obtain rfl := a.inj b
  (conv => whnf)
  rw [z1]
  refine ⟨z2, z3, zs, ?_⟩
  (conv => whnf)
  show E.rt (.bl (decide (y.shown = y.shown))) _
  rw [decide_eq_true rfl]
  exact hN _
theorem law_ok53 (ns : List Int) (hn : ns.length ≤ 63) : F_law [.scr ns] (fun _ => none) (fun d _ => d = .bl true) fun _ _ => False := by
  rw [F_law_eq]; unfold fnD T_law
  (conv => whnf)
  refine ⟨rfl, dealt hn (by decide) (by decide) fun d l hd hl hdl => ?_⟩
  have hm : (Mu.set (fun _ => none) d (.deal l)) d = some (.deal l) := Mu.set_same
  generalize (Mu.set (fun _ => none) d (.deal l)) = μ0 at hm
  clear hd hl hdl
  (conv => whnf); repeat ((first | refine dIf_t (by first | rfl | decide +kernel) ?_ | refine dIf_f (by first | rfl | decide +kernel) ?_ | refine And.intro (by first | rfl | exact Nat.le_of_ble_eq_true rfl | decide +kernel) ?_ | refine dIf_t (decide_eq_true (by omega)) ?_ | refine dIf_f (decide_eq_false (by omega)) ?_ | refine And.intro (by omega) ?_); (conv => whnf))
  refine drawn (many := 13) hm (by decide) (by decide) fun r r0 r1 => ?_
  obtain ⟨m, rfl⟩ := Int.eq_ofNat_of_zero_le r0
  (conv => whnf)
  refine ⟨rfl, law_far_rows_ok hm (by decide) (by omega) fun p hp rs hl hd => ?_⟩
  have hc : CodeOk rs := hd.code (by decide) (by omega)
  have hlen : (rowsD rs).length = rs.length := List.length_map ..
  have hfew : rs.length ≤ 12 := by
    rw [hl]
    have r1' : (m : Int) < 13 := r1
    omega
  have hpd : d ≠ p := fun e => by rw [← e, hm] at hp; cases hp
  have hm1 : (μ0.set p (.lst (rowsD rs))) d = some (.deal l) := by rw [Mu.set_ne hpd]; exact hm
  have hp1 : (μ0.set p (.lst (rowsD rs))) p = some (.lst (rowsD rs)) := Mu.set_same
  generalize (μ0.set p (.lst (rowsD rs))) = μ at hm1 hp1
  have hrk := rows_rwk hc
  clear hm hp r0 r1 hl hd
  refine ⟨fun ρ' μ' => (∃ e3 e4 e5 e6 e7 e8 e9 e10 e11 e12 e13, ρ' = [some (.scr ns), some (.ptr d), some (.ptr p), e3, e4, e5, e6, e7, e8, e9, e10, e11, e12, e13]) ∧ μ' = μ, ?_, ?_⟩
  · (conv => whnf)
    refine ⟨by decide, ?_⟩
    show forL _ _ _ _ [] (rangeL 0 12) _ _
    refine forL_inv (fun i ρ' μ' => (∃ e3 e4 e5 e6 e7 e8 e9 e10 e11 e12 e13, ρ' = [some (.scr ns), some (.ptr d), some (.ptr p), e3, e4, e5, e6, e7, e8, e9, e10, e11, e12, e13]) ∧ μ' = μ) ⟨⟨_, _, _, _, _, _, _, _, _, _, _, rfl⟩, rfl⟩ (fun _ _ _ _ => ck_nil) (fun i x ρ' μ' hx hi N hN => ?_) (fun ρ' μ' hi => hi)
    obtain ⟨⟨e3, e4, e5, e6, e7, e8, e9, e10, e11, e12, e13, rfl⟩, rfl⟩ := hi
    obtain ⟨_, rfl⟩ := rangeL_get hx
    clear hx
    (conv => whnf)
    rw [seqOf_at hp1]
    (conv => whnf)
    refine ⟨fun ρ' μ1 => (∃ es : List D, (∀ r ∈ es, RwK 3 r) ∧ ∃ e3 e5 e6 e7 e8 e9 e10 e11 e12 e13, ρ' = [some (.scr ns), some (.ptr d), some (.ptr p), e3, some (.lst es), e5, e6, e7, e8, e9, e10, e11, e12, e13]) ∧ μ1 = μ', ?_, ?_⟩
    · (conv => whnf)
      refine ⟨rfl, drawn (many := 4) hm1 (by decide) (by decide) fun r r0 r1 => ?_⟩
      obtain ⟨r, rfl⟩ := Int.eq_ofNat_of_zero_le r0
      (conv => whnf)
      refine ⟨⟨by omega, by omega⟩, ?_⟩
      show forL _ _ _ _ [] (rangeL 0 r) _ _
      refine forL_inv (fun i ρ' μ1 => (∃ es : List D, (∀ x ∈ es, RwK i x) ∧ es.length ≤ 12 + i ∧ ∃ e3 e5 e6 e7 e8 e9 e10 e11 e12 e13, ρ' = [some (.scr ns), some (.ptr d), some (.ptr p), e3, some (.lst es), e5, e6, e7, e8, e9, e10, e11, e12, e13]) ∧ μ1 = μ') ⟨⟨rowsD rs, hrk, by rw [hlen]; omega, _, _, _, _, _, _, _, _, _, _, rfl⟩, rfl⟩ (fun _ _ _ _ => ck_nil) (fun j x ρ' μ1 hx hi N2 hN2 => ?_) (fun ρ' μ1 hi => ?_)
      · obtain ⟨⟨es, hes, hel, e3, e5, e6, e7, e8, e9, e10, e11, e12, e13, rfl⟩, rfl⟩ := hi
        obtain ⟨hjr, rfl⟩ := rangeL_get hx
        (conv => whnf)
        refine ⟨rfl, spoilt_ok hm1 hes (by omega) (by omega) fun es' h' hl' => ?_⟩
        exact hN2 _ _ ⟨⟨es', h', by omega, _, _, _, _, _, _, _, _, _, _, rfl⟩, rfl⟩
      · obtain ⟨⟨es, hes, hel, rest⟩, rfl⟩ := hi
        refine ⟨⟨es, fun x hx => (hes x hx).mono ?_, rest⟩, rfl⟩
        unfold rangeL
        rw [List.length_map, List.length_range]
        omega
    · rintro ρ' μ1 ⟨⟨es, hes, e3, e5, e6, e7, e8, e9, e10, e11, e12, e13, rfl⟩, rfl⟩
      (conv => whnf)
      refine ⟨by show 2 ≤ sizeLine; decide, ?_⟩
      show forL _ _ _ _ [] [.lst es, .tup es] _ _
      refine forL_inv (fun i ρ' μ2 => (∃ e3 e5 e7 e8 e9 e10 e11 e12 e13, ρ' = [some (.scr ns), some (.ptr d), some (.ptr p), e3, some (.lst es), e5, some (.lst es), e7, e8, e9, e10, e11, e12, e13]) ∧ μ2 = μ1) ⟨⟨_, _, _, _, _, _, _, _, _, rfl⟩, rfl⟩ (fun _ _ _ _ => ck_nil) (fun j x ρ' μ2 hx hi N2 hN2 => ?_) (fun ρ' μ2 hi => ?_)
      · obtain ⟨⟨e3, e5, e7, e8, e9, e10, e11, e12, e13, rfl⟩, rfl⟩ := hi
        have hx' : x = .lst es ∨ x = .tup es := by
          have := List.mem_of_getElem? hx
          simpa using this
        exact askR_ok (fun r hr => (hes r hr).1) hx' rfl rfl rfl (hN2 _ _ ⟨⟨_, _, _, _, _, _, _, _, _, rfl⟩, rfl⟩)
      · obtain ⟨⟨e3, e5, e7, e8, e9, e10, e11, e12, e13, rfl⟩, rfl⟩ := hi
        exact hN _ _ ⟨⟨_, _, _, _, _, _, _, _, _, _, _, rfl⟩, rfl⟩
  · rintro ρ' μ' ⟨⟨e3, e4, e5, e6, e7, e8, e9, e10, e11, e12, e13, rfl⟩, rfl⟩
    have hrw : ∀ r ∈ rowsD rs, Rw r := fun r hr => (hrk r hr).1
    have hfine := fine_of hc
    generalize hR : rowsD rs = R at *
    (conv => whnf)
    refine newc_ptr hp1 hrw (fun _ _ => ?_) (fun z => absurd z (by omega)) (fun _ w i hb => ?_)
    · obtain ⟨ys, g1, g2, g3, g4, g5⟩ := rws_py μ' hrw
      have shT := (shaped_seq g3 (by omega)).1
      have shL := (shaped_seq g3 (by omega)).2
      have eT : pyD μ' (.tup R) = some (.tuple ys) := by simp only [pyD, g1]; rfl
      have rT : PyData.eqv (.tuple ys) (.tuple ys) = true := SeqAt.eqv_refl _ (SeqAt.canLay_of_shaped shT)
      (conv => whnf)
      rw [seqOf_at hp1]
      (conv => whnf)
      rw [eT]
      refine ⟨shT, shT, ?_⟩
      rw [rT]
      (conv => whnf); repeat ((first | refine dIf_t (by first | rfl | decide +kernel) ?_ | refine dIf_f (by first | rfl | decide +kernel) ?_ | refine And.intro (by first | rfl | exact Nat.le_of_ble_eq_true rfl | decide +kernel) ?_ | refine dIf_t (decide_eq_true (by omega)) ?_ | refine dIf_f (decide_eq_false (by omega)) ?_ | refine And.intro (by omega) ?_); (conv => whnf))
      refine code_lenX ?_
      (conv => whnf)
      refine ⟨by omega, by omega, ?_⟩
      (conv => whnf)
      rw [seqOf_at hp1]
      (conv => whnf)
      refine dIf_f (by show (!decide (((R.length : Nat) : Int) = ((R.length : Nat) : Int))) = false; rw [decide_eq_true rfl]; rfl) ?_
      (conv => whnf)
      rw [seqOf_at hp1]
      (conv => whnf)
      refine newc_tup hrw (fun _ _ => ?_) (fun z => absurd z (by omega)) (fun _ w i hb => ?_)
      · (conv => whnf)
        refine ⟨rfl, rfl, code_eqX g1 g1 shT shT ?_⟩
        rw [rT]
        (conv => whnf)
        refine dIf_f rfl ?_
        (conv => whnf)
        rw [seqOf_at hp1]
        (conv => whnf)
        refine ⟨rfl, by decide, code_eq_tup ?_⟩
        (conv => whnf)
        refine dIf_f rfl ?_
        (conv => whnf)
        refine ⟨rfl, by decide, code_eq_int ?_⟩
        (conv => whnf)
        refine dIf_f rfl ?_
        (conv => whnf)
        rw [lstOf_at hp1]
        (conv => whnf)
        rw [lstOf_at hp1]
        (conv => whnf)
        rw [lstOf_at hp1]
        (conv => whnf); repeat ((first | refine dIf_t (by first | rfl | decide +kernel) ?_ | refine dIf_f (by first | rfl | decide +kernel) ?_ | refine And.intro (by first | rfl | exact Nat.le_of_ble_eq_true rfl | decide +kernel) ?_ | refine dIf_t (decide_eq_true (by omega)) ?_ | refine dIf_f (decide_eq_false (by omega)) ?_ | refine And.intro (by omega) ?_); (conv => whnf))
        rw [lstW_at hp1]
        (conv => whnf)
        refine ⟨Nat.le_trans (by show R.length + 1 ≤ 100; omega) (by decide), ?_⟩
        (conv => whnf)
        refine ⟨by show 4 ≤ sizeLine; decide, ?_⟩
        have hleft : Rw (.tup [.str "left", .int 0, .int 0]) := (left_rwk (k := 0) (by decide)).1
        have four : ∀ x ∈ [D.lst (cutD R none (some (-1))), .lst (cutD R (some 1) none), .lst R.reverse, .lst (R ++ [.tup [.str "left", .int 0, .int 0]])], ∃ xs, x = .lst xs ∧ (∀ r ∈ xs, Rw r) ∧ xs.length ≤ 100 := fun x hx => by
          simp only [List.mem_cons, List.not_mem_nil, or_false] at hx
          rcases hx with rfl | rfl | rfl | rfl
          · refine ⟨_, rfl, fun r hr => hrw r ?_, ?_⟩
            · unfold cutD at hr
              exact List.mem_of_mem_drop (List.mem_of_mem_take hr)
            · unfold cutD
              rw [List.length_take, List.length_drop]
              omega
          · refine ⟨_, rfl, fun r hr => hrw r ?_, ?_⟩
            · unfold cutD at hr
              exact List.mem_of_mem_drop (List.mem_of_mem_take hr)
            · unfold cutD
              rw [List.length_take, List.length_drop]
              omega
          · exact ⟨_, rfl, fun r hr => hrw r (List.mem_reverse.mp hr), by rw [List.length_reverse]; omega⟩
          · refine ⟨_, rfl, fun r hr => ?_, by rw [List.length_append, List.length_singleton]; omega⟩
            rcases List.mem_append.mp hr with hr | hr
            · exact hrw r hr
            · rw [List.mem_singleton] at hr
              subst hr
              exact hleft
        generalize hF : [D.lst (cutD R none (some (-1))), .lst (cutD R (some 1) none), .lst R.reverse, .lst (R ++ [.tup [.str "left", .int 0, .int 0]])] = F4 at four
        have hF4 : F4.length = 4 := by rw [← hF]; rfl
        (conv => whnf)
        refine lcL_inv (fun i acc μ1 => μ1 = μ' ∧ (∀ y ∈ acc, ∃ xs, y = .lst xs ∧ (∀ r ∈ xs, Rw r) ∧ (∀ i, FineD xs i) ∧ xs.length ≤ 100) ∧ acc.length ≤ i) ⟨rfl, by simp, by simp⟩ (fun _ _ _ _ => ck_nil) (fun i x acc μ1 hx hi A B hA hB => ?_) (by rw [hF4]; decide) (fun _ _ _ h => h.2.2) (fun acc μ1 hi => ?_)
        · obtain ⟨rfl, hacc, hal⟩ := hi
          obtain ⟨xs, rfl, hxs, hxl⟩ := four x (List.mem_of_getElem? hx)
          have hil : i < 4 := by rw [← hF4]; exact (List.getElem?_eq_some_iff.mp hx).1
          (conv => whnf)
          refine ⟨rfl, due_lst hxs fun dd a => ?_⟩
          cases a with
          | count h1 =>
            (conv => whnf)
            exact dIf_f rfl (hB _ ⟨rfl, hacc, by omega⟩)
          | bad w j h1 h2 =>
            (conv => whnf)
            exact dIf_f rfl (hB _ ⟨rfl, hacc, by omega⟩)
          | ok h1 h2 =>
            (conv => whnf)
            refine dIf_t rfl (hA _ _ (Nat.lt_of_lt_of_le (m := 4) (by omega) (by decide)) ⟨rfl, fun y hy => ?_, ?_⟩)
            · rcases List.mem_append.mp hy with hy | hy
              · exact hacc y hy
              · rw [List.mem_singleton] at hy
                subst hy
                exact ⟨xs, rfl, hxs, h2, hxl⟩
            · rw [List.length_append, List.length_singleton]
              omega
        · obtain ⟨rfl, hacc, hal⟩ := hi
          rw [hF4] at hal
          (conv => whnf); repeat ((first | refine dIf_t (by first | rfl | decide +kernel) ?_ | refine dIf_f (by first | rfl | decide +kernel) ?_ | refine And.intro (by first | rfl | exact Nat.le_of_ble_eq_true rfl | decide +kernel) ?_ | refine dIf_t (decide_eq_true (by omega)) ?_ | refine dIf_f (decide_eq_false (by omega)) ?_ | refine And.intro (by omega) ?_); (conv => whnf))
          refine lcL_fil id (fun _ => false) ck_nil acc [] (fun x hx A B _ hB => ?_) (by rw [List.length_nil]; exact Nat.le_trans (m := 4) (by omega) (by decide)) ?_
          · obtain ⟨xs, rfl, hxs, hxf, hxl⟩ := hacc x hx
            (conv => whnf)
            refine newc_lst hxs (fun _ _ => ?_) (fun z => absurd z (by omega)) (fun _ w i hb => ?_)
            · obtain ⟨zs, k1, k2, k3, k4, k5⟩ := rws_py μ1 hxs
              have shX := (shaped_seq k3 (by omega)).1
              have shXL := (shaped_seq k3 (by omega)).2
              (conv => whnf)
              refine ⟨rfl, rfl, code_eqX k1 g1 shX shT ?_⟩
              (conv => whnf)
              rw [show pyD μ1 (.lst xs) = some (.list zs) by simp only [pyD, k1]; rfl, show pyD μ1 (.ptr p) = some (.list ys) by simp only [pyD, hp1, g2]; rfl]
              refine ⟨shXL, shL, ?_⟩
              rw [show PyData.eqv (.list zs) (.list ys) = PyData.eqv (.tuple zs) (.tuple ys) by simp only [PyData.eqv]]
              generalize PyData.eqv (.tuple zs) (.tuple ys) = b
              cases b <;> (conv => whnf); repeat ((first | refine dIf_t (by first | rfl | decide +kernel) ?_ | refine dIf_f (by first | rfl | decide +kernel) ?_ | refine And.intro (by first | rfl | exact Nat.le_of_ble_eq_true rfl | decide +kernel) ?_ | refine dIf_t (decide_eq_true (by omega)) ?_ | refine dIf_f (decide_eq_false (by omega)) ?_ | refine And.intro (by omega) ?_); (conv => whnf)) <;> exact hB rfl
            · obtain ⟨r, h1, h2⟩ := hb.at_
              exact (badD h1 h2 (hxf i)).elim
          · rw [List.filter_eq_nil_iff.mpr (by simp)]
            (conv => whnf)
            refine ⟨by decide, ?_⟩
            unfold newL
            dsimp only [List.map_nil, List.append_nil]
            refine eq_nil_rows not (xs := []) (by simp) ?_
            (conv => whnf)
            refine dIf_f rfl ?_
            (conv => whnf)
            refine ⟨.inl ⟨rfl, by rw [lstOf_at hp1]; rfl⟩, ?_⟩
            (conv => whnf)
            refine ⟨by decide, ?_⟩
            (conv => whnf)
            rw [hp1]
            (conv => whnf)
            refine ⟨Nat.lt_of_lt_of_le (m := 100) (by omega) (by decide), ?_⟩
            have hl2 : (R ++ [D.tup [.str "left", .int 0, .int 0]]).length = R.length + 1 := by rw [List.length_append, List.length_singleton]
            generalize hR2 : R ++ [D.tup [.str "left", .int 0, .int 0]] = R2 at hl2
            have hm2 : (μ1.set p (.lst R2)) d = some (.deal l) := by rw [Mu.set_ne hpd]; exact hm1
            have hp2 : (μ1.set p (.lst R2)) p = some (.lst R2) := Mu.set_same
            generalize hμ2 : (μ1.set p (.lst R2)) = μ2 at hm2 hp2
            (conv => whnf)
            refine ⟨rfl, code_lenX ?_⟩
            (conv => whnf)
            refine ⟨by omega, by omega, ?_⟩
            (conv => whnf)
            rw [seqOf_at hp2]
            (conv => whnf)
            refine dIf_f (by show (!decide (((R.length : Nat) : Int) = ((R2.length : Nat) : Int) - 1)) = false; rw [decide_eq_true (by omega)]; rfl) ?_
            (conv => whnf)
            refine ⟨rfl, machines_ok hm2 ?_⟩
            (conv => whnf)
            refine dIf_f rfl ?_
            (conv => whnf)
            refine ⟨rfl, drawn (many := 4) hm2 (by decide) (by decide) fun k k0 k1 => ?_⟩
            obtain ⟨k, rfl⟩ := Int.eq_ofNat_of_zero_le k0
            (conv => whnf)
            obtain ⟨N, hN, hN0, hN1⟩ : ∃ N : Nat, (999 + (k : Int)) = N ∧ 999 ≤ N ∧ N ≤ 1002 := ⟨999 + k, by omega, by omega, by omega⟩
            rw [hN]
            refine ⟨by decide, ?_⟩
            (conv => whnf)
            refine ⟨by decide, ?_⟩
            (conv => whnf)
            refine ⟨by omega, by omega, Nat.le_trans (m := 1002) (by show 1 * N ≤ 1002; omega) (by decide), fun q hq => ?_⟩
            have hqd : d ≠ q := fun e => by rw [← e, hm2] at hq; cases hq
            rw [show (List.replicate (N : Int).toNat [D.tup [.str "left", .int 0, .int 1]]).flatten = List.replicate N left1 from rep_flat N]
            have hL : (List.replicate N left1).length = N := List.length_replicate
            have hLr : ∀ r ∈ List.replicate N left1, Rw r := fun r hr => by
              obtain ⟨_, rfl⟩ := List.mem_replicate.mp hr
              exact left1_rw
            have hans := rep_ans N
            generalize List.replicate N left1 = L at hL hLr hans
            have hm3 : (μ2.set q (.lst L)) d = some (.deal l) := by rw [Mu.set_ne hqd]; exact hm2
            have hp3 : (μ2.set q (.lst L)) q = some (.lst L) := Mu.set_same
            generalize hμ3 : (μ2.set q (.lst L)) = μ3 at hm3 hp3
            (conv => whnf)
            refine ⟨rfl, told_ptr hp3 hLr fun dd a => ?_⟩
            obtain rfl := a.inj hans
            obtain ⟨y, z1, z2, z3, zs⟩ := hans.shows (μ := μ3)
            (conv => whnf)
            rw [z1]
            refine ⟨z2, z3, zs, ?_⟩
            (conv => whnf)
            have rest : ∀ {E : EndsD} {Xd : XE}, (∀ μ, E.rt (.bl true) μ) → endR E Xd [some (.scr ns), some (.ptr d), some (.ptr p), e3, e4, e5, e6, e7, some (codeX R), some (.lst acc), e10, some (.int (N : Nat)), some (.ptr q), e13] μ3 := fun hrt => endR_ok hm3 hp3 hLr hL hN0 hN1 hqd hrt
            have hb : (decide ((N : Int) < 1001) = true ∧ pyD μ3 .non = some y) ∨ (decide ((N : Int) < 1001) = false ∧ pyD μ3 (.tup [.str "count", .int (-1)]) = some y) := by
              by_cases hn : N < 1001
              · rw [if_pos hn] at z1
                exact .inl ⟨decide_eq_true (by omega), z1⟩
              · rw [if_neg hn] at z1
                exact .inr ⟨decide_eq_false (by omega), z1⟩
            rcases hb with ⟨hb, z1⟩ | ⟨hb, z1⟩
            · obtain rfl : PyData.none = y := Option.some.inj (by rw [← z1]; simp only [pyD])
              refine dIf_t hb ?_
              (conv => whnf)
              refine ⟨z2, z3, zs, ?_⟩
              (conv => whnf)
              refine dIf_f (by show (!decide (_ = _)) = false; rw [decide_eq_true rfl]; rfl) (rest fun _ => rfl)
            · obtain rfl : PyData.tuple [.str "count", .int (-1)] = y := Option.some.inj (by rw [← z1]; simp only [pyD, pyDs]; rfl)
              refine dIf_f hb ?_
              (conv => whnf)
              refine ⟨by decide, ?_⟩
              (conv => whnf)
              refine ⟨z2, z3, zs, ?_⟩
              (conv => whnf)
              refine dIf_f (by show (!decide ((PyData.tuple [.str "count", .int (-1)]).shown = (PyData.tuple [.str "count", .int (-1)]).shown)) = false; rw [decide_eq_true rfl]; rfl) (rest fun _ => rfl)
      · obtain ⟨r, h1, h2⟩ := hb.at_
        exact (badD h1 h2 (hfine i)).elim
    · obtain ⟨r, h1, h2⟩ := hb.at_
      exact (badD h1 h2 (hfine i)).elim
end PD
set_option Elab.async false
set_option linter.all false
set_option autoImplicit false
set_option maxRecDepth 100000
set_option maxHeartbeats 4000000
namespace PD
open PySem PySem.Spec PyProof.Rows L2
/-- the world of a text: its classes by name (own classes with the names of their attributes), its written dicts -/
def mkW (K : PySem.W.Frag) (cls : List (Str × Addr)) (own : List (Str × List Str)) (kds : List (Addr × List (Str × D))) : Wo where
  K := K
  cl := fun n => (cls.lookup n).getD 0
  kd := fun a kvs => (a, kvs) ∈ kds
  cok := fun n => n ∈ own.map (·.1)
  fok := fun C f => ∃ fs, (C, fs) ∈ own ∧ f ∈ fs
/-- what the text tells of a written dict -/
structure KdOk (K : PySem.W.Frag) (w : World) (W : Wo) (a : Addr) (kvs : List (Str × D)) : Prop where
  at_ : ∃ es n, KDict K w a es n
  has : ∀ z d, kvs.lookup z = some d → ∃ u v, PySem.W.nsIn K a z = some (some u) ∧ RelV v u ∧ ∀ hid H μ, Rep W hid H μ v d
  not : ∀ z, kvs.lookup z = none → PySem.W.nsIn K a z = some none
structure OwnOk (K : PySem.W.Frag) (a : Addr) (fs : List Str) : Prop where
  cl : Cls K a
  isi : LB.IsiCls K a
  fl : ∀ f ∈ fs, NoAttr K a f
theorem tw_mk {K : PySem.W.Frag} {w : World} {cls : List (Str × Addr)} {own : List (Str × List Str)} {kds : List (Addr × List (Str × D))}
    (h1 : ∀ p ∈ own, OwnOk K ((mkW K cls own kds).cl p.1) p.2) (h2 : ∀ p ∈ kds, KdOk K w (mkW K cls own kds) p.1 p.2) : TW K w (mkW K cls own kds) := by
  refine ⟨rfl, fun C hC => ?_, fun C f hf => ?_, fun a kvs hk => ?_⟩
  · obtain ⟨p, hp, rfl⟩ := List.mem_map.mp hC
    exact ⟨(h1 p hp).cl, (h1 p hp).isi⟩
  · obtain ⟨fs, hp, hf⟩ := hf
    exact (h1 _ hp).fl f hf
  · have q := h2 _ hk
    exact ⟨q.at_, q.has, q.not⟩
theorem g_int {W : Wo} {mg : Str → Option Value} {x : Str} {i : Int} (h : ∃ t, mg x = some (.int i t)) : GTxt W mg x (.int i) := by
  obtain ⟨t, h⟩ := h
  exact ⟨_, .int i, h, ⟨t, rfl⟩, fun _ _ _ => .int i⟩
theorem g_str {W : Wo} {mg : Str → Option Value} {x z : Str} (h : ∃ t, mg x = some (.str z t)) : GTxt W mg x (.str z) := by
  obtain ⟨t, h⟩ := h
  exact ⟨_, .str z, h, ⟨t, rfl⟩, fun _ _ _ => .str z⟩
theorem g_cls {W : Wo} {mg : Str → Option Value} {x : Str} (h : mg x = some (.ref (W.cl x))) : GTxt W mg x (.cls x) := ⟨_, .ref (W.cl x), h, rfl, fun _ _ _ => .cls x⟩
theorem g_dct {W : Wo} {mg : Str → Option Value} {x : Str} {a : Addr} {kvs : List (Str × D)} (h : mg x = some (.ref a)) (k : W.kd a kvs) : GTxt W mg x (.dct kvs) := ⟨_, .ref a, h, rfl, fun _ _ _ => .dct k⟩
end PD
set_option Elab.async false
set_option linter.all false
set_option autoImplicit false
set_option maxRecDepth 100000
set_option maxHeartbeats 4000000
namespace PD
open PySem PySem.Spec PyProof.Rows L2
/-- a class that isinstance may be asked about -/
def KCls (K : PySem.W.Frag) (C : Addr) : Prop := ((PySem.W.clsIn K C).isSome && PySem.W.typeIn K (.ref C) == some (.type "type")) = true
theorem tt_ok (K : PySem.W.Frag) : ∀ a ∈ btys, ∀ b ∈ btys, PySem.W.kitOne K (.type a) (.type b) = some (a == b || (a == "bool" && b == "int")) := by
  intro a ha b hb
  simp only [btys, List.mem_cons, List.not_mem_nil, or_false] at ha hb
  rcases ha with rfl | rfl | rfl | rfl | rfl | rfl | rfl <;> rcases hb with rfl | rfl | rfl | rfl | rfl | rfl | rfl <;> kernel_rfl
theorem tc_ok {K : PySem.W.Frag} {C : Addr} (h : KCls K C) : ∀ a ∈ btys, PySem.W.kitOne K (.type a) (.ref C) = some false := by
  intro a ha
  have e : PySem.W.kitOne K (.type a) (.ref C) = PySem.W.subIn K (.type a) (.ref C) := by
    unfold PySem.W.kitOne PySem.W.kitCls
    rw [if_neg (show ¬ ((Value.type a == Value.ref C) = true) from Bool.false_ne_true)]
    exact if_pos h
  rw [e]
  simp only [btys, List.mem_cons, List.not_mem_nil, or_false] at ha
  rcases ha with rfl | rfl | rfl | rfl | rfl | rfl | rfl <;> kernel_rfl
theorem kis_mk {K : PySem.W.Frag} {W : Wo} {pairs : List (Str × Str × Bool)} {types : List (Str × String)} {cl : List Str} (h1 : ∀ p ∈ pairs, PySem.W.kitOne K (.ref (W.cl p.1)) (.ref (W.cl p.2.1)) = some p.2.2)
    (h2 : ∀ p ∈ types, PySem.W.kitOne K (.ref (W.cl p.1)) (.type p.2) = some false) (h3 : ∀ c ∈ cl, KCls K (W.cl c)) : KIs K W (tabOf pairs types cl) := by
  refine ⟨fun t c b h => ?_⟩
  unfold tabOf at h
  split at h
  · split at h
    · rename_i q
      cases h
      exact tt_ok K _ q.1 _ q.2
    · cases h
  · split at h
    · rename_i q
      cases h
      exact tc_ok (h3 _ q.2) _ q.1
    · cases h
  · split at h
    · rename_i q
      cases h
      exact h2 _ q
    · cases h
  · rename_i c e
    cases hf : pairs.find? fun p => p.1 == c && p.2.1 == e with
    | none => rw [hf] at h; cases h
    | some p =>
      rw [hf] at h
      cases h
      have hm := List.mem_of_find?_eq_some hf
      have hp := List.find?_some hf
      rw [Bool.and_eq_true, beq_iff_eq, beq_iff_eq] at hp
      have := h1 p hm
      rw [hp.1, hp.2] at this
      exact this
  · cases h
theorem topCMeth_mk {K : PySem.W.Frag} {C : Addr} {m qual : Str} {st : Stmt} {ps : List Str} {f p : Addr} {mc : Value} {rest : List Value} {oc : Value} {od an : Option Addr} {osl : Array (Option Value)} {kV doc pm cdv ct : Value}
    (hb : ∀ (kV doc pm : Value) (an : Option Addr) (cdv ct : Value) (us : List Value), us.length = ps.length → bindArgs (PySem.W.fnOf m qual (defArgs st) (defBody st) (defScope st) .none kV doc pm an cdv ct) ⟨us, []⟩ = pure (ps.zip us))
    (rd : PySem.W.readsIn K C mc = true) (ga : PySem.W.specialIn K (.ref C) "__getattribute__" = some (some (.builtin "type.__getattribute__"))) (a : PySem.W.findCls K (.ref C) mc m = some (.get (.builtin "classmethod.__get__") (.ref p) .none (.ref C)))
    (rc : PySem.W.recIn K p "classmethod" = some (.ref f :: rest)) (fi : PySem.W.fnIn K f = true) (l : K.lookup f = some ⟨oc, od, .func (PySem.W.fnOf m qual (defArgs st) (defBody st) (defScope st) .none kV doc pm an cdv ct), osl⟩)
    (c : PySem.W.codeIn K cdv qual = true) (k : PySem.W.keepIn K (.ref f) = true) : TopCMeth K C m qual st ps :=
  have F := fun_mk (st := st) l c k
  ⟨f, p, mc, _, F, ⟨rd, ga⟩, ⟨a, ⟨rest, rc⟩, fi⟩, F.binds hb⟩
end PD
set_option Elab.async false
set_option linter.all false
set_option autoImplicit false
set_option maxRecDepth 100000
set_option maxHeartbeats 4000000
namespace PD
open PySem PySem.Spec PyProof.Rows L2
/-- a written value -/
def WVal (W : Wo) (u : Value) (d : D) : Prop := ∃ v, RelV v u ∧ ∀ hid H μ, Rep W hid H μ v d
inductive EntOk (W : Wo) : List DictEntry → List (Str × D) → Prop
  | nil : EntOk W [] []
  | cons {e : DictEntry} {es : List DictEntry} {k : Str} {d : D} {kvs : List (Str × D)} (hk : ∃ t, e.key = .str k t) (hv : WVal W e.val d) (h : EntOk W es kvs) : EntOk W (e :: es) ((k, d) :: kvs)
theorem ent_find {W : Wo} : ∀ {es : List DictEntry} {kvs : List (Str × D)}, EntOk W es kvs → ∀ z, (∀ d, kvs.lookup z = some d → ∃ e, es.find? (·.key.isStr z) = some e ∧ WVal W e.val d) ∧ (kvs.lookup z = none → es.find? (·.key.isStr z) = none)
  | _, _, .nil, z => ⟨fun d h => (by cases h), fun _ => rfl⟩
  | _, _, .cons (e := e) (k := k) (d := d) ⟨t, hk⟩ hv h, z => by
    have ih := ent_find h z
    by_cases q : z = k
    · subst q
      have e1 : e.key.isStr z = true := by rw [hk]; exact beq_self_eq_true z
      rw [List.lookup_cons, List.find?_cons, e1, beq_self_eq_true z]
      exact ⟨fun d' h' => by cases h'; exact ⟨e, rfl, hv⟩, fun h' => by cases h'⟩
    · have e1 : e.key.isStr z = false := by
        rw [hk]
        show (k == z) = false
        exact beq_eq_false_iff_ne.mpr (Ne.symm q)
      rw [List.lookup_cons, List.find?_cons, e1, beq_eq_false_iff_ne.mpr q]
      exact ih
theorem ent_any {W : Wo} : ∀ {es : List DictEntry} {kvs : List (Str × D)}, EntOk W es kvs → es.any (·.refKey) = false
  | _, _, .nil => rfl
  | _, _, .cons (e := e) ⟨t, hk⟩ hv h => by
    rw [List.any_cons, ent_any h]
    have : e.refKey = false := by
      obtain ⟨h1, h2, h3⟩ := e
      cases hk
      rfl
    rw [this]
    rfl
theorem kd_mk {K : PySem.W.Frag} {w : World} {W : Wo} {d : Addr} {es : Array DictEntry} {n : Nat} {kvs : List (Str × D)} (l : K.lookup d = some ⟨.type "dict", none, .dict es n, #[]⟩) (lit : PySem.W.KeysLit w.params es.toList) (low : (d == sysModules) = false) (h : EntOk W es.toList kvs) : KdOk K w W d kvs := by
  refine ⟨⟨es, n, l, lit, low⟩, fun z x hz => ?_, fun z hz => ?_⟩
  · obtain ⟨e, he, v, hv⟩ := (ent_find h z).1 x hz
    refine ⟨e.val, v, ?_, hv⟩
    unfold PySem.W.nsIn
    rw [l]
    dsimp only
    rw [he]
  · have he := (ent_find h z).2 hz
    unfold PySem.W.nsIn
    rw [l]
    dsimp only
    rw [he, ent_any h]
    rfl
theorem reps_str {W : Wo} {hid : Hid} {H : Hp} {μ : Mu} : ∀ fs : List Str, Reps W hid H μ (fs.map V.str) (fs.map D.str)
  | [] => .nil
  | f :: fs => .cons (.str f) (reps_str fs)
theorem wv_strs {W : Wo} {t : Addr} {fs : List Str} {od : Option Addr} {its : Array Value} {n : Nat} {sl : Array (Option Value)} (l : W.K.lookup t = some ⟨.type "tuple", od, .seq its n, sl⟩) (hz : its.size ≤ sizeLine) (v : Vals (fs.map V.str) its.toList) : WVal W (.ref t) (.tup (fs.map D.str)) :=
  ⟨.ref t, rfl, fun hid H μ => .tupK ⟨_, its, n, l, rfl, rfl, hz, v⟩ (reps_str fs)⟩
theorem dct_mk {K : PySem.W.Frag} {w : World} {mg : Str → Option Value} {h : Heap} {x : Str} {a : Addr} {es : Array DictEntry} {n : Nat} {kvs : List (Str × D)} (X : K.In h) (G : h.Ns mainGlobals mg) (ha : PySem.W.nsIn K mainGlobals x = some (some (.ref a))) (l : K.lookup a = some ⟨.type "dict", none, .dict es n, #[]⟩) (lit : PySem.W.KeysLit w.params es.toList) (low : (a == sysModules) = false) (ent : ∀ W : Wo, W.K = K → EntOk W es.toList kvs) :
    ∃ a es n, mg x = some (.ref a) ∧ K.lookup a = some ⟨.type "dict", none, .dict es n, #[]⟩ ∧ PySem.W.KeysLit w.params es.toList ∧ (a == sysModules) = false ∧ ∀ W : Wo, W.K = K → EntOk W es.toList kvs := ⟨a, es, n, PySem.W.mg_of X G ha, l, lit, low, ent⟩
end PD
set_option Elab.async false
set_option linter.all false
set_option maxRecDepth 100000
set_option maxHeartbeats 4000000
namespace LB
open PySem PySem.Spec PyProof.Rows L2
open C8 (pss_cut tCut)
abbrev s_law_draw : Stmt := top 29
theorem sc_law_draw : FnScope ["_law_deal_here", "_law_many", "_law_number_here", "_law_one", "_law_other"] ["_law_deal_here", "_law_many"] (defScope s_law_draw) := ⟨rfl, rfl, rfl, by decide +kernel, rfl, by decide +kernel, by decide +kernel⟩
section
variable {P : Program} {w : World} {K : PySem.W.Frag} {mg : Str → Option Value} {base : Heap}
theorem ok_law_draw (F : TopFn K mg "_law_draw" s_law_draw ["_law_deal_here", "_law_many"]) (T : Txt K mg) : DefOk P w K mg base 1 "_law_draw" ["_law_deal_here", "_law_many"] spDraw := by
  refine F.ok sc_law_draw (fun vs H Q E h => ?_) (fun f cdv A outer s H vs Q E hr h => ?_)
  · obtain ⟨d, l, many, rfl, _⟩ := h
    rfl
  · obtain ⟨d, l, many, rfl, ⟨s0, n0, left0, C0⟩, m0, m1, k⟩ := h
    have m1 : many.natAbs.log2 < 9000 := Nat.lt_of_lt_of_le (PySem.Flt.log2_lt_of (k := 129) (by decide) (show many.natAbs < 680564733841876926926749214863536422912 by omega)) (by decide)
    refine ⟨_, (pss_cut (ps_while PassesOwn.never (PW.pt (pw_and (pt_cmpR op_eq (pe_dget (hu_of hr) (pv 0) pe_str (fun _ _ => rfl)) pe_int (nomark _)) (pw_and1 (pt_cmpR op_gt (pe_callB call_len_seq (by rfl) T.b_len (by decide +kernel) (pa_cons (pe_dget (hu_of hr) (pv 0) pe_str (fun _ _ => rfl)) pa_nil)) pe_int (nomark _))))) (pss_one (ps_dput (hu_of hr) (pv 0) pe_str (pe_bm0 PySem.F.plainAttrs_list PySem.F.slot_list_pop PySem.F.type_list_pop mt_pop (pe_dget (hu_of hr) (pv 0) pe_str (fun _ _ => rfl))) rfl)))
    (pss_cons (ps_set (i := 2) sc_law_draw.nd rfl (.inl rfl) (pe_dget (hu_of hr) (pv 0) pe_str (fun _ _ => rfl)))
    (pss_cons (ps_if (pt_cmpR op_gt (pv 2) pe_int (nomark _)) (pss_cons (ps_dput (hu_of hr) (pv 0) pe_str (pe_op op_fdivW (pv 2) (pv 1)) rfl)
    (pss_one (ps_ret (pe_op op_mod (pv 2) (pv 1))))) pss_nil)
    (pss_cons (ps_set (i := 3) sc_law_draw.nd rfl (.inl rfl) (pe_op op_mod (pe_op op_add (pe_op op_mul (pe_dget (hu_of hr) (pv 0) pe_str (fun _ _ => rfl)) pe_int) pe_int) pe_int))
    (pss_cons (ps_dput (hu_of hr) (pv 0) pe_str (pe_op op_mod (pe_op op_add (pe_op op_mul (pv 3) pe_int) pe_int) pe_int) rfl)
    (pss_cons (ps_set (i := 4) sc_law_draw.nd rfl (.inl rfl) (pe_op op_mod (pe_op op_mul (pe_dget (hu_of hr) (pv 0) pe_str (fun _ _ => rfl)) (pe_dget (hu_of hr) (pv 0) pe_str (fun _ _ => rfl))) pe_int))
    (pss_one (ps_ret (pe_op op_mod (pe_op op_add (pe_op op_mul (pe_op op_mod (pe_op op_mul (pv 3) (pv 3)) pe_int) pe_int) (pv 4)) (pv 1)))))))))), ?_⟩
    refine ⟨fun σ H1 => ∃ s n left, σ = [some (.ref d), some (.int many), none, none, none] ∧ DealC d l s n left H1 ∧ Keep d l H H1 ∧ (n = 0 → left = []), ?_, ?_⟩
    · refine ⟨fun m σ H1 => ∃ s n left, σ = [some (.ref d), some (.int many), none, none, none] ∧ DealC d l s n left H1 ∧ Keep d l H H1 ∧ m = left.length, ⟨_, s0, n0, left0, rfl, C0, Keep.refl, rfl⟩, ?_⟩
      rintro m σ H1 ⟨s1, n1, left1, rfl, C1, K1, rfl⟩
      refine ⟨_, rfl, d, _, rfl, C1.number, rfl, _, rfl, ?_⟩
      refine ite2 (fun hn => ?_) (fun hn => ?_)
      · refine ⟨_, rfl, d, _, rfl, C1.left, l, _, rfl, .inl (SqL.of C1.hl), _, _, rfl, rfl, _, rfl, ?_⟩
        refine ite2 (fun hpos => ?_) (fun hpos => ?_)
        · have hpos := of_decide_eq_true hpos
          rw [List.length_map] at hpos
          refine ⟨_, fun _ _ h => h, ?_⟩
          have hne : left1 ≠ [] := fun e => by rw [e] at hpos; exact absurd hpos (by decide)
          refine ⟨_, rfl, d, _, rfl, C1.left, .inl ⟨rfl, _, SqL.of C1.hl⟩, l, _, V.int (left1.getLast hne), rfl, rfl, C1.hl, ?_, ?_⟩
          · rw [List.length_map, List.getElem?_map, List.getElem?_eq_getElem (by omega), List.getLast_eq_getElem] <;> rfl
          · have C2 := C1.popped
            have el : (left1.map V.int).dropLast = left1.dropLast.map V.int := by rw [List.map_dropLast]
            rw [el]
            have hm : 0 ≤ left1.getLast hne := C1.l0 _ (List.getLast_mem hne)
            refine ⟨_, rfl, d, _, rfl, C2.putN, ?_⟩
            exact ⟨_, by rw [List.length_dropLast]; omega, _, _, _, rfl, C2.withN hm, K1.updL.updD, rfl⟩
        · have hpos := of_decide_eq_false (Bool.eq_false_iff.mpr hpos)
          rw [List.length_map] at hpos
          exact ⟨_, _, _, rfl, C1, K1, fun _ => List.length_eq_zero_iff.mp (by omega)⟩
      · exact ⟨_, _, _, rfl, C1, K1, fun e => absurd (decide_eq_true (by rw [e])) hn⟩
    · rintro σ H1 ⟨s1, n1, left1, rfl, C1, K1, hz⟩
      refine ⟨_, rfl, d, _, rfl, C1.number, ?_⟩
      refine ⟨_, rfl, _, _, rfl, rfl, _, rfl, ?_⟩
      refine ite2 (fun hn => ?_) (fun hn => ?_)
      · have hn := of_decide_eq_true hn
        refine ⟨_, rfl, _, rfl, _, _, rfl, rfl, ⟨m0, m1⟩, _, rfl, d, _, rfl, C1.putN, ?_⟩
        refine ⟨_, rfl, _, rfl, _, _, rfl, rfl, m0, ?_⟩
        exact k _ _ (Int.emod_nonneg _ (by omega)) (Int.emod_lt_of_pos _ m0) ⟨_, _, _, C1.withN (Int.ediv_nonneg C1.n0 (by omega))⟩ K1.updD
      · refine ⟨_, rfl, d, _, rfl, C1.seed, _, _, rfl, rfl, .inr ⟨by decide, by decide⟩, _, _, rfl, rfl, _, _, rfl, rfl, (by show (0 : Int) < 2147483647; decide), ?_⟩
        refine ⟨_, rfl, _, _, rfl, rfl, .inr ⟨by decide, by decide⟩, _, _, rfl, rfl, _, _, rfl, rfl, (by show (0 : Int) < 2147483399; decide), _, rfl, d, _, rfl, C1.putS, ?_⟩
        have C2 := C1.withS (m := ((s1 * 48271 + 7919) % 2147483647 * 40692 + 104729) % 2147483399) (Int.emod_nonneg _ (by decide)) (Int.lt_trans (Int.emod_lt_of_pos _ (by decide)) (by decide))
        refine ⟨_, rfl, d, _, rfl, C2.seed, _, rfl, d, _, rfl, C2.seed, _, _, rfl, rfl, .inr ⟨by omega, by omega⟩, _, _, rfl, rfl, (by show (0 : Int) < 2147483563; decide), ?_⟩
        refine ⟨_, rfl, _, rfl, _, _, rfl, rfl, .inr ⟨by omega, by omega⟩, _, _, rfl, rfl, (by show (0 : Int) < 2147483629; decide), _, _, rfl, rfl, .inr ⟨by decide, by decide⟩, _, rfl, _, _, rfl, rfl, _, rfl, _, _, rfl, rfl, m0, ?_⟩
        exact k _ _ (Int.emod_nonneg _ (by omega)) (Int.emod_lt_of_pos _ m0) ⟨_, _, _, C2⟩ K1.updD
end
end LB
set_option Elab.async false
set_option linter.all false
set_option maxRecDepth 100000
set_option maxHeartbeats 4000000
namespace RT
open PySem PySem.Spec PyProof.Rows
section
variable {prog : Program} {w : World} {A : Around} {E : Value → Shared → Prop} {s : Shared} {R : Result → Shared → Prop}
theorem init_rev {it l S : Addr} {items : Array Value} (hh : A.handled = none) (hit : s.heap.IsRevIter it l ((items.size : Int) - 1)) (hl : s.heap.IsList l items) (hne : l ≠ it) (hn : items.size ≤ sizeLine)
    (hSi : S ≠ it) (hSl : S ≠ l) (hS : s.heap.get? S = some { cls := .type "list", data := .seq #[] })
    (hR : ∀ (h' : Heap) (tk : Nat) (acc : Array Value) (c : Nat), (∀ b o, b ≠ it → b ≠ S → s.heap.get? b = some o → h'.get? b = some o) → h'.get? S = some { cls := .type "list", dict := none, data := .seq acc c, slots := #[] } →
      ItemsOf (fun i v => items[items.size - 1 - i]? = some v) acc items.size → R (.ok (.ret .none)) { s with heap := h', toks := tk }) :
    wpAny (model prog w) A.in1 (Builtin.«list.__init__» ⟨[.ref S, .ref it], []⟩)
      (fun fin s' => match fin with | .done f => R (.ok f) s' | .again c' => c'.quiet = true ∧ codeAny (model prog w) A c' R s') (fun e s' => R (.error e) s') s := by
  have W := (Walks.listRev (prog := prog) (w := w) (A := A.in1) hh it l hne items).toS
  have hSf : S ∉ [it, l] := by simp only [List.mem_cons, List.not_mem_nil, or_false, not_or]; exact ⟨hSi, hSl⟩
  show wpAny _ _ (do let old ← Builtin.List.listItems (.ref S); Builtin.List.listUpdate (.ref S) (fun _ => #[]); letGo old.toList.reverse; Builtin.List.listExtendWith (.ref S) (.ref it) .none) _ _ s
  refine wpAny_bind ?_
  unfold Builtin.List.listItems
  refine wpAny_bind (wpAny_seqItems hS rfl (wpAny_pure ?_))
  show wpAny _ _ (updateSeq S (fun _ => #[]) >>= fun _ => letGo (#[] : Array Value).toList.reverse >>= fun _ => Builtin.List.listExtendWith (.ref S) (.ref it) .none) _ _ s
  refine wpAny_bind (wpAny_updateSeq hS rfl ?_)
  have hS₂ := Heap.get?_update_self (Obj.mapSeq (fun _ => (#[] : Array Value))) hS rfl
  have oth : ∀ b o, b ≠ S → s.heap.get? b = some o → (s.heap.update S (Obj.mapSeq (fun _ => (#[] : Array Value)))).get? b = some o :=
    fun b o hb e => (Heap.get?_update_other _ _ (Ne.symm hb)).trans e
  refine wpAny_bind (wpAny_letGo ?_)
  have hit1 : (s.heap.update S (Obj.mapSeq (fun _ => (#[] : Array Value)))).IsRevIter it l ((items.size : Int) - 1) := hit.at fun o e => oth it o (Ne.symm hSi) e
  obtain ⟨ol, hol, rl⟩ := id hl
  have hl1 : (s.heap.update S (Obj.mapSeq (fun _ => (#[] : Array Value)))).IsList l items := ⟨ol, oth l ol (Ne.symm hSl) hol, rl⟩
  have hT : ({ s with heap := s.heap.update S (Obj.mapSeq (fun _ => (#[] : Array Value))) } : Shared).TypeIs (.ref it) "list_reverseiterator" := Heap.IsRevIter.typeIs (s := { s with heap := s.heap.update S (Obj.mapSeq (fun _ => (#[] : Array Value))) }) hit1
  have h1 : Builtin.List.listSameRef (.ref S) (.ref it) = false := by simp [Builtin.List.listSameRef, hSi]
  unfold Builtin.List.listExtendWith
  refine wpAny_bind (wpAny_typeOf hT ?_)
  rw [if_neg (by rw [h1]; decide)]
  refine wpAny_bind (wpAny_pyIter_revIter (s := { s with heap := s.heap.update S (Obj.mapSeq (fun _ => (#[] : Array Value))) }) hit1 ?_)
  refine wpAny_bind (wpAny_holding ?_)
  unfold Builtin.List.listLengthHint
  refine wpAny_bind (wpAny_specialOf hT nolen_lri ?_)
  show wpAny _ A.in1 (specialOf (Value.ref it) (Str.ofString "__length_hint__") >>= _) _ _ _
  refine wpAny_bind (wpAny_specialOf hT hint_lri ?_)
  generalize hid : ("list_reverseiterator.__length_hint__" : String) = id0
  wp_delta
  rw [show splitId id0 = some ("list_reverseiterator", "__length_hint__") from by subst hid; decide +kernel]
  subst hid
  refine wpAny_bind (wpAny_isInstance (b := true) hT (by rw [isSubtype_type]; kernel_rfl) ?_)
  refine wpAny_pure ?_
  rw [if_neg (by decide)]
  have e0 : ((items.size : Nat) : Int) - 1 - ((0 : Nat) : Int) = (items.size : Int) - 1 := by omega
  refine wpAny_pure ⟨plainId_quiet F.plain_extend_loop _, codeAny_extend_loopS W hn _ hSf _ items.size 0 _ _ _ rfl (Nat.zero_le _) ⟨Nat.zero_le _, by rw [e0]; exact hit1, hl1⟩ hS₂ (ItemsOf.nil _) fun s' acc' c' hm hS' hacc => ?_⟩
  rw [Moved.eq_with hm]
  refine hR s'.heap s'.toks acc' c' (fun b o hb hb2 e => hm.heap b o (fun hmem => ?_) (oth b o hb2 e)) hS' hacc
  rcases List.mem_cons.mp hmem with e' | hmem
  · exact hb2 e'
  · exact hb (List.mem_singleton.mp hmem)
theorem call_list_rev {it l : Addr} {items : Array Value} {Q : Value → Shared → Prop} (hh : A.handled = none) (hit : s.heap.IsRevIter it l ((items.size : Int) - 1)) (hl : s.heap.IsList l items) (hne : l ≠ it) (hn : items.size ≤ sizeLine)
    (hQ : ∀ (h' : Heap) (tk : Nat) (acc : Array Value) (c : Nat), (∀ b o, b ≠ it → s.heap.get? b = some o → h'.get? b = some o) → h'.get? s.heap.objs.size = some { cls := .type "list", dict := none, data := .seq acc c, slots := #[] } →
      ItemsOf (fun i v => items[items.size - 1 - i]? = some v) acc items.size → Q (.ref s.heap.objs.size) { s with heap := h', toks := tk }) :
    wpAny (model prog w) A (call (.type "list") [.ref it]) Q E s := by
  obtain ⟨oi, hoi, _⟩ := id hit
  obtain ⟨ol, hol, _⟩ := id hl
  have hSi : s.heap.objs.size ≠ it := Nat.ne_of_gt (Heap.lt_size hoi)
  have hSl : s.heap.objs.size ≠ l := Nat.ne_of_gt (Heap.lt_size hol)
  refine callType_codes (Q₁ := fun obj s₁ => obj = .ref s.heap.objs.size ∧ s₁ = { s with heap := s.heap.push { cls := .type "list", data := .seq #[] } }) F.called_list (F.typeCall_list_1 _) F.entry_list_init
    (code_list_new _ ⟨rfl, rfl⟩) fun obj s₁ h₁ => ?_
  obtain ⟨rfl, rfl⟩ := h₁
  have hS : (s.heap.push { cls := .type "list", data := .seq #[] }).get? s.heap.objs.size = some { cls := .type "list", data := .seq #[] } := Heap.get?_push_size _ rfl
  refine ⟨⟨_, hS, rfl⟩, F.args_list_init_2 _ _, init_rev (A := A.in1) (s := { s with heap := s.heap.push { cls := .type "list", data := .seq #[] } }) hh (hit.at fun o e => Heap.get?_push_of_some _ e) (hl.push _) hne hn hSi hSl hS fun h' tk acc' c' hk hS' hacc => ?_⟩
  exact ⟨rfl, hQ h' tk acc' c' (fun b o hb e => hk b o hb (Nat.ne_of_lt (Heap.lt_size e)) (Heap.get?_push_of_some _ e)) hS' hacc⟩
end
section
variable {X : L2.Cx}
open L2
/-- list(reversed(e)), e a list -/
def tLstRev (K : PySem.W.Frag) (te : TE) : TE := fun σ H Q => te σ H fun v H1 => ∃ (a : Addr) (xs : List V), v = .ref a ∧ SqL K H1 a xs ∧ ∀ q, H1 q = none → Q (.ref q) (upd H1 q (.lst xs.reverse))
theorem pe_listRev {e : Expr} {te : TE} {p p2 pos pos2 : Pos} (hc : X.calm = true) (hg : Gl X "list") (hm : X.mg "list" = none) (hg2 : Gl X "reversed") (hm2 : X.mg "reversed" = none) (he : PE X e te)
    (hs : starEach [e] X.env = (false, eval e X.env) :: starEach [] X.env := by rfl)
    (hs2 : starEach [.Call (.Name "reversed" p2) [e] [] pos2] X.env = (false, eval (.Call (.Name "reversed" p2) [e] [] pos2) X.env) :: starEach [] X.env := by rfl) :
    PE X (.Call (.Name "list" p) [.Call (.Name "reversed" p2) [e] [] pos2] [] pos) (tLstRev X.K te) := by
  refine ⟨fun pins s σ H Q I h => ?_⟩
  refine Call_ (ld_blt I hg hm boot_list (PyProof.Rows.callWith_type1 (args_cons (Call_ (ld_blt I hg2 hm2 PyProof.Rows.boot_reversed (PyProof.Rows.callWith_type1 (args_cons (thn (he.run pins s σ H _ I h) fun u s1 ⟨v, H1, I1, r1, q1⟩ => args_nil ?_) hs) hs rfl))) hs2) hs2 rfl))
  obtain ⟨a, xs, ev, hq, q⟩ := q1
  subst ev
  obtain rfl : u = Value.ref a := r1
  obtain ⟨its, rv, p', hz⟩ := I1.list hq
  refine call_reversed_list p'.isList (args_nil ?_)
  have k0 : ∀ b o, s1.heap.get? b = some o → (s1.heap.push (revObj a ((its.toArray.size : Int) - 1))).get? b = some o := fun b o e => Heap.get?_push_of_some _ e
  have I2 : Inv X pins σ H1 { s1 with heap := s1.heap.push (revObj a ((its.toArray.size : Int) - 1)) } := I1.kept (t' := s1.toks) k0
  obtain ⟨f0, f1, f2, f3, f4, f5⟩ := I1.fpOk (H' := H1) (b := s1.heap.objs.size) (Nat.le_refl _) (I1.hok.fresh (Nat.le_refl _))
  have hl := p'.isList
  obtain ⟨ol, hol, _⟩ := id hl
  have hne : a ≠ s1.heap.objs.size := Nat.ne_of_lt (Heap.lt_size hol)
  have hn : its.toArray.size ≤ sizeLine := by rw [List.size_toArray, ← rv.length]; exact hz
  refine call_list_rev (s := { s1 with heap := s1.heap.push (revObj a ((its.toArray.size : Int) - 1)) }) (I1.ok.hd hc) ⟨_, Heap.get?_push_size _ rfl, rfl, rfl⟩ (hl.push _) hne hn fun h' tk acc c hk hS hi => ?_
  have hS' : h'.get? (s1.heap.objs.size + 1) = some { cls := .type "list", dict := none, data := .seq acc c, slots := #[] } := by
    have z := hS
    rw [show ({ s1 with heap := s1.heap.push (revObj a ((its.toArray.size : Int) - 1)) } : Shared).heap.objs.size = s1.heap.objs.size + 1 from Heap.size_push _ _] at z
    exact z
  have hSn : (s1.heap.push (revObj a ((its.toArray.size : Int) - 1))).get? (s1.heap.objs.size + 1) = none := Heap.get?_none_of_le (by rw [Heap.size_push]; exact Nat.le_refl _)
  obtain ⟨G, g1, g2⟩ := restrict h' fun b => decide (b ≠ s1.heap.objs.size + 1)
  have I3 : Inv X pins σ H1 { s1 with heap := G, toks := tk } := I2.turned (t' := tk) (fun b o hb e => by
    have hb2 : b ≠ s1.heap.objs.size + 1 := fun z => by
      rw [z, hSn] at e
      cases e
    rw [g1 b (decide_eq_true hb2)]
    exact hk b o hb e) f0 f1 f3 f4 f5
  have gS : G.get? (s1.heap.objs.size + 1) = none := g2 _ (by simp)
  have hf : H1 (s1.heap.objs.size + 1) = none := I1.hok.fresh (Nat.le_succ _)
  have J : Inv X pins σ (upd H1 (s1.heap.objs.size + 1) (.lst xs.reverse)) { s1 with heap := h', toks := tk } := I3.laidN (h' := h') (t' := tk) (fun b u e => by
    have hb2 : b ≠ s1.heap.objs.size + 1 := fun z => by
      rw [z, gS] at e
      cases e
    rw [← g1 b (decide_eq_true hb2)]
    exact e) gS hf (show ObjOk X.prog X.w _ _ _ (.lst xs.reverse) from ⟨by rw [List.length_reverse]; exact hz, acc.toList, c, vals_rev rv hi, by rw [Array.toArray_toList]; exact hS'⟩)
  refine ⟨.ref (s1.heap.objs.size + 1), _, J, ?_, q _ hf⟩
  show Value.ref _ = Value.ref _
  rw [show ({ s1 with heap := s1.heap.push (revObj a ((its.toArray.size : Int) - 1)) } : Shared).heap.objs.size = s1.heap.objs.size + 1 from Heap.size_push _ _]
end
end RT
set_option Elab.async false
set_option linter.all false
set_option maxRecDepth 100000
set_option maxHeartbeats 4000000
namespace LB
open PySem PySem.Spec PyProof.Rows L2
open C8 (pss_cut tCut)
abbrev s_law_deal : Stmt := top 28
theorem sc_law_deal : FnScope ["_law_script", "_law_base", "_law_cells", "_law_cell", "_law_number_here"] ["_law_script", "_law_base"] (defScope s_law_deal) := ⟨rfl, rfl, rfl, by decide +kernel, rfl, by decide +kernel, by decide +kernel⟩
section
variable {P : Program} {w : World} {K : PySem.W.Frag} {mg : Str → Option Value} {base : Heap}
theorem ok_law_deal (F : TopFn K mg "_law_deal" s_law_deal ["_law_script", "_law_base"]) (T : Txt K mg) : DefOk P w K mg base 1 "_law_deal" ["_law_script", "_law_base"] (spDeal K) := by
  refine F.ok sc_law_deal (fun vs H Q E h => ?_) (fun f cdv A outer s H vs Q E hr h => ?_)
  · obtain ⟨a, ns, b, rfl, _⟩ := h
    rfl
  · obtain ⟨a, ns, b, rfl, hS, hlen, b0, b1, k⟩ := h
    refine ⟨_, (pss_cons (ps_setLc (i := 2) (own := [("_law_cell", 3)]) (g := gName 3) (tt := tYes) rfl sc_law_deal.nd rfl rfl (sw_true rfl rfl rfl (by decide +kernel)) (pi_list (pe_slice sl_list (pv 0) (po_some (pv 1)) (po_some pe_int))) (blkOk_by (own := [("_law_cell", 3)]) (N := ["_law_script", "_law_base", "_law_cells", "_law_cell", "_law_number_here"]) (sc := defScope s_law_deal) (by decide +kernel)) (fun _ _ _ _ _ => (pg_name (i := 3) sc_law_deal.nd rfl (.inl rfl))) (fun _ _ _ _ _ => pts_nil) (fun _ _ _ _ _ => (pe_callB (call_max2 rfl) (by rfl) T.b_max (by decide +kernel) (pa_cons (pv 3) (pa_cons (pe_op op_sub pe_int (pv 3)) pa_nil)))))
    (pss_cons (ps_set (i := 4) sc_law_deal.nd rfl (.inl rfl) (pe_op op_add pe_int (pv 1)))
    (pss_cut (ps_for PassesOwn.never rfl (pi_list (pv 2)) (pg_name (i := 3) sc_law_deal.nd rfl (.inl rfl))
    (pss_one (ps_set (i := 4) sc_law_deal.nd rfl (.inl rfl) (pe_op op_mod (pe_op op_add (pe_op op_mul (pv 4) pe_int) (pe_op op_mod (pv 3) pe_int)) pe_int))))
    (pss_one (ps_ret (pe_disp (pps_cons pe_str (pv 4) (pps_cons pe_str pe_int (pps_cons pe_str (RT.pe_listRev rfl rfl T.b_list rfl T.b_reversed (pe_lc (own := [("_law_cell", 3)]) (g := gName 3) rfl sc_law_deal.nd (pi_list (pv 2)) (blkOk_by (own := [("_law_cell", 3)]) (N := ["_law_script", "_law_base", "_law_cells", "_law_cell", "_law_number_here"]) (sc := defScope s_law_deal) (by decide +kernel)) (fun _ _ _ _ _ => (pg_name (i := 3) sc_law_deal.nd rfl (.inl rfl))) (fun _ _ _ _ _ => (pts_one (pt_cmpR op_ge (pv 3) (pe_op op_pow pe_int pe_int) (nomark _)))) (fun _ _ _ _ _ => (pv 3)))) pps_nil))) (by rfl) (by rfl) (fun z => by cases z) (by decide))))))), ?_⟩
    obtain ⟨ms, ems, lms, _⟩ := cut_ints ns (some b) (some 63)
    refine ⟨_, rfl, _, rfl, _, rfl, _, rfl, a, _, rfl, hS, fun p hp => ?_⟩
    rw [ems]
    refine ⟨p, rfl, ⟨_, SqL.of upd_same⟩, fun D hD => ?_⟩
    have npD : p ≠ D := fun e => by rw [← e, upd_same] at hD; cases hD
    have hD0 : H D = none := by rw [upd_ne npD.symm] at hD; exact hD
    refine lc_list (K := K) (a := p) (xs := ms.map V.int) (fun i H' => ∃ cs : List Int, H' = upd (upd H p (.lst (ms.map V.int))) D (.lst (cs.map V.int)) ∧ cs.length = i ∧ ∀ c ∈ cs, 0 ≤ c)
      ⟨[], rfl, rfl, fun c h => by cases h⟩ (fun i H' _ ⟨cs, e, _⟩ => by rw [e]; exact SqL.of (by rw [upd_ne npD]; exact upd_same)) ?_ ?_
    · rintro i x H' hi ⟨cs, rfl, hl, h0⟩
      obtain ⟨m, hm, rfl⟩ := map_get hi
      have hlt := lt_of_get hm
      refine ⟨rfl, ?_⟩
      refine ⟨_, rfl, _, rfl, _, _, rfl, rfl, _, _, rfl, _, upd_same, ?_, cs ++ [if 0 - m > m then 0 - m else m], ?_, ?_, ?_⟩
      · rw [List.length_map]; exact sz63 (by omega)
      · rw [upd_upd, List.map_append] <;> rfl
      · rw [List.length_append, hl] <;> rfl
      · intro c hc
        rcases List.mem_append.mp hc with h | h
        · exact h0 c h
        · have e := List.mem_singleton.mp h
          rw [e]
          split <;> omega
    · rintro H' ⟨cs, rfl, hl, h0⟩
      rw [List.length_map] at hl
      have hlc : cs.length ≤ 63 := by omega
      refine ⟨_, rfl, _, _, rfl, rfl, ?_⟩
      have s1 : Same H (upd (upd H p (.lst (ms.map V.int))) D (.lst (cs.map V.int))) := (same_new hp).trans (same_new hD)
      have hH2 : upd (upd H p (.lst (ms.map V.int))) D (.lst (cs.map V.int)) D = some (.lst (cs.map V.int)) := upd_same
      generalize upd (upd H p (.lst (ms.map V.int))) D (.lst (cs.map V.int)) = H2 at s1 hH2
      refine ⟨fun σ H' => ∃ n v, σ = [some (.ref a), some (.int b), some (.ref D), v, some (.int n)] ∧ H' = H2 ∧ 0 ≤ n ∧ n < 2147483647, ?_, ?_⟩
      · refine ⟨_, rfl, D, rfl, ⟨_, SqL.of hH2⟩, for_list (K := K) (a := D) (xs := cs.map V.int) (fun i σ H' => ∃ n v, σ = [some (.ref a), some (.int b), some (.ref D), v, some (.int n)] ∧ H' = H2 ∧ 0 ≤ n ∧ n < 2147483647)
          ⟨6143 + b, none, rfl, rfl, by omega, by omega⟩ (fun i σ H' _ ⟨_, _, _, e, _⟩ => by rw [e]; exact SqL.of hH2) ?_ ?_⟩
        · rintro i x σ H' hi ⟨n, v, rfl, rfl, hn⟩
          obtain ⟨m, hm, rfl⟩ := map_get hi
          refine ⟨_, rfl, _, _, rfl, rfl, .inr ⟨by decide, by decide⟩, _, rfl, _, _, rfl, rfl, (by show (0 : Int) < 2147483629; decide), _, _, rfl, rfl, _, _, rfl, rfl, (by show (0 : Int) < 2147483647; decide), ?_⟩
          exact ⟨_, _, rfl, rfl, Int.emod_nonneg _ (by decide), Int.emod_lt_of_pos _ (by decide)⟩
        · exact fun σ H' h => h
      · rintro σ H' ⟨n, v, rfl, rfl, hn0, hn1⟩
        intro d hd
        have ndD : D ≠ d := ne_of_none hH2 hd
        refine ⟨_, rfl, _, rfl, D, rfl, ⟨_, SqL.of (by rw [upd_ne ndD]; exact hH2)⟩, fun D2 hD2 => ?_⟩
        have nD2d : D2 ≠ d := fun e => by rw [e, upd_same] at hD2; cases hD2
        have hD2' : H' D2 = none := by rw [upd_ne nD2d] at hD2; exact hD2
        have nDD2 : D ≠ D2 := ne_of_none hH2 hD2'
        refine lc_list (K := K) (a := D) (xs := cs.map V.int) (fun i H4 => ∃ gs : List Int, H4 = upd (upd H' d (.dK [])) D2 (.lst (gs.map V.int)) ∧ gs.length ≤ i ∧ ∀ c ∈ gs, 0 ≤ c)
          ⟨[], rfl, Nat.le_refl _, fun c h => by cases h⟩ (fun i H' _ ⟨gs, e, _⟩ => by rw [e]; exact SqL.of (by rw [upd_ne nDD2, upd_ne ndD]; exact hH2)) ?_ ?_
        · rintro i x H2 hi ⟨gs, rfl, hl2, g0⟩
          obtain ⟨m, hm, rfl⟩ := map_get hi
          have hlt := lt_of_get hm
          refine ⟨rfl, _, rfl, _, _, rfl, rfl, ⟨by decide, by decide, by decide⟩, _, _, rfl, rfl, _, rfl, ?_⟩
          refine ite2 (fun hc => ?_) (fun _ => ⟨gs, rfl, Nat.le_succ_of_le hl2, g0⟩)
          refine ⟨_, rfl, _, upd_same, ?_, gs ++ [m], ?_, ?_, ?_⟩
          · rw [List.length_map]; exact sz63 (by omega)
          · rw [upd_upd, List.map_append] <;> rfl
          · rw [List.length_append, List.length_singleton]; omega
          · intro c hc
            rcases List.mem_append.mp hc with h | h
            · exact g0 c h
            · rw [List.mem_singleton.mp h]
              exact h0 m (List.mem_of_getElem? hm)
        · rintro H2 ⟨gs, rfl, hl2, g0⟩
          rw [List.length_map] at hl2
          refine ⟨D2, _, rfl, SqL.of upd_same, fun q hq => ?_⟩
          have nqd : d ≠ q := fun e => by rw [← e, upd_ne nD2d.symm, upd_same] at hq; cases hq
          have nqD2 : q ≠ D2 := fun e => by rw [e, upd_same] at hq; cases hq
          have hq' : H' q = none := by rw [upd_ne nqD2, upd_ne nqd.symm] at hq; exact hq
          refine ⟨by rw [upd_ne nqd, upd_ne nD2d.symm, upd_same], [(.inr "seed", .int n), (.inr "number", .int 0), (.inr "left", .ref q)], rfl, (by show 3 ≤ 15; decide), ?_⟩
          refine k d q _ (s1.free hd) (s1.free hq') ⟨n, 0, gs.reverse, ?_, ?_, hn0, hn1, by decide, fun m h => g0 m (List.mem_reverse.mp h), by rw [List.length_reverse]; omega⟩ ?_
          · rw [upd_same, dkv_merge]
          · rw [upd_ne nqd.symm, upd_same, List.map_reverse]
          · intro b' o e
            have e' := s1 b' o e
            rw [upd_ne (ne_of_none e' hd), upd_ne (ne_of_none e' hq'), upd_ne (ne_of_none e' hD2'), upd_ne (ne_of_none e' hd)]
            exact e'
end
end LB
set_option Elab.async false
set_option linter.all false
set_option autoImplicit false
set_option maxRecDepth 100000
set_option maxHeartbeats 4000000
namespace PD
open PySem PySem.Spec PyProof.Rows L2
open LB (top)
structure TC_Code (K : PySem.W.Frag) (mg : Str → Option Value) (C : Addr) : Prop where
  own : LB.OwnCls K mg "Code" C
  isi : LB.IsiCls K C
  kc : KCls K C
  n_rows : PySem.W.findIn K (.ref C) "rows" = some none
  ne : LB.NeCls K C
  nf : NotFirst K C
  m_init : LB.TopMeth K C "__init__" "Code.__init__" s_Code_init ["self", "rows"]
  m_len : LB.TopMeth K C "__len__" "Code.__len__" s_Code_len ["self"]
  m_eq : LB.TopMeth K C "__eq__" "Code.__eq__" s_Code_eq ["self", "other"]
structure TC_Machine (K : PySem.W.Frag) (mg : Str → Option Value) (C : Addr) : Prop where
  own : LB.OwnCls K mg "Machine" C
  isi : LB.IsiCls K C
  kc : KCls K C
  n_width : PySem.W.findIn K (.ref C) "width" = some none
  n_registers : PySem.W.findIn K (.ref C) "registers" = some none
  ne : LB.NeCls K C
  nf : NotFirst K C
  m_eq : LB.TopMeth K C "__eq__" "Machine.__eq__" s_Machine_eq ["self", "other"]
  m_init : LB.TopMeth K C "__init__" "Machine.__init__" s_Machine_init ["self", "width", "registers"]
structure TX (K : PySem.W.Frag) (mg : Str → Option Value) (A_InvalidCode A_InvalidNode A_InvalidText A_Mismatch A_LowError : Addr) : Prop where
  g_InvalidCode : mg "InvalidCode" = some (.ref A_InvalidCode)
  g_InvalidNode : mg "InvalidNode" = some (.ref A_InvalidNode)
  g_InvalidText : mg "InvalidText" = some (.ref A_InvalidText)
  g_Mismatch : mg "Mismatch" = some (.ref A_Mismatch)
  g_LowError : mg "LowError" = some (.ref A_LowError)
  low : LB.LowTxt K mg A_LowError
  xc_InvalidCode : LB.ExcCls K mg "InvalidCode" A_InvalidCode
  ec_InvalidCode : ExcC K A_InvalidCode
  cl_InvalidCode : (PySem.W.clsIn K A_InvalidCode).isSome = true
  n_InvalidCode_word : PySem.W.findIn K (.ref A_InvalidCode) "word" = some none
  n_InvalidCode_row : PySem.W.findIn K (.ref A_InvalidCode) "row" = some none
  m_InvalidCode : LB.TopMeth K A_InvalidCode "__init__" "InvalidCode.__init__" LB.s_InvalidCode_init ["self", "word", "row"]
  k_InvalidCode_InvalidCode : PySem.W.kitOne K (.ref A_InvalidCode) (.ref A_InvalidCode) = some true
  k_InvalidCode_InvalidNode : PySem.W.kitOne K (.ref A_InvalidCode) (.ref A_InvalidNode) = some false
  k_InvalidCode_InvalidText : PySem.W.kitOne K (.ref A_InvalidCode) (.ref A_InvalidText) = some false
  k_InvalidCode_Mismatch : PySem.W.kitOne K (.ref A_InvalidCode) (.ref A_Mismatch) = some false
  x_InvalidCode_LowError : PySem.W.exmOne K (.ref A_InvalidCode) (.ref A_LowError) = some true
theorem all_mk {P : Program} {w : World} {K : PySem.W.Frag} {mg : Str → Option Value} {fa : Addr} (L : LB.LawFn K mg fa s_law) (T : LB.Txt K mg) (E_X : ∃ A_InvalidCode A_InvalidNode A_InvalidText A_Mismatch A_LowError, TX K mg A_InvalidCode A_InvalidNode A_InvalidText A_Mismatch A_LowError) (E_Code : ∃ C, TC_Code K mg C) (E_Machine : ∃ C, TC_Machine K mg C) (I_MOST_MODULUS : ∃ t, mg "MOST_MODULUS" = some (.int 64 t)) (I_MOST_REGISTERS : ∃ t, mg "MOST_REGISTERS" = some (.int 8 t)) (I_MOST_SLOTS : ∃ t, mg "MOST_SLOTS" = some (.int 1000 t)) (I_LIMIT : ∃ t, mg "LIMIT" = some (.int 18446744073709551616 t)) (I_MOST_ROWS : ∃ t, mg "MOST_ROWS" = some (.int 1000 t)) (I_FORMS : ∃ a es n, mg "FORMS" = some (.ref a) ∧ K.lookup a = some ⟨.type "dict", none, .dict es n, #[]⟩ ∧ PySem.W.KeysLit w.params es.toList ∧ (a == sysModules) = false ∧ ∀ W : Wo, W.K = K → EntOk W es.toList [("set", (.tup [(.str "register"), (.str "number")])), ("copy", (.tup [(.str "register"), (.str "register")])), ("add", (.tup [(.str "register"), (.str "register"), (.str "register")])), ("sub", (.tup [(.str "register"), (.str "register"), (.str "register")])), ("mul", (.tup [(.str "register"), (.str "register"), (.str "register")])), ("left", (.tup [(.str "register"), (.str "register")])), ("right", (.tup [(.str "register"), (.str "register")])), ("load", (.tup [(.str "register"), (.str "slot")])), ("store", (.tup [(.str "slot"), (.str "register")])), ("skip", (.tup [(.str "register"), (.str "modulus"), (.str "rest"), (.str "count")]))]) (t_is_modulus : LB.TopFn K mg "is_modulus" s_is_modulus ["number"]) (t_is_within : LB.TopFn K mg "is_within" s_is_within ["form", "number"]) (t_is_integer : LB.TopFn K mg "is_integer" s_is_integer ["value"]) (t_is_row : LB.TopFn K mg "is_row" s_is_row ["row"]) (t_check_rows : LB.TopFn K mg "check_rows" s_check_rows ["rows"]) (t_law_told : LB.TopFn K mg "_law_told" s_law_told ["_law_rows"]) (t_law_is_whole : LB.TopFn K mg "_law_is_whole" s_law_is_whole ["_law_value"]) (t_law_item_fits : LB.TopFn K mg "_law_item_fits" s_law_item_fits ["_law_form", "_law_value", "_law_row_here"]) (t_law_row_fits : LB.TopFn K mg "_law_row_fits" s_law_row_fits ["_law_row_here"]) (t_law_due : LB.TopFn K mg "_law_due" s_law_due ["_law_rows"]) (t_law_draw : LB.TopFn K mg "_law_draw" LB.s_law_draw ["_law_deal_here", "_law_many"]) (t_law_machines_right : LB.TopFn K mg "_law_machines_right" s_law_machines_right ["_law_deal_here"]) (t_law_odd_item : LB.TopFn K mg "_law_odd_item" s_law_odd_item ["_law_deal_here", "_law_item"]) (t_law_spoilt : LB.TopFn K mg "_law_spoilt" s_law_spoilt ["_law_deal_here", "_law_rows"]) (t_law_number : LB.TopFn K mg "_law_number" s_law_number ["_law_deal_here"]) (t_law_row : LB.TopFn K mg "_law_row" s_law_row ["_law_deal_here", "_law_registers", "_law_left"]) (t_law_far_row : LB.TopFn K mg "_law_far_row" s_law_far_row ["_law_deal_here", "_law_registers", "_law_left"]) (t_law_far_rows : LB.TopFn K mg "_law_far_rows" s_law_far_rows ["_law_deal_here", "_law_registers", "_law_many"]) (t_law_deal : LB.TopFn K mg "_law_deal" LB.s_law_deal ["_law_script", "_law_base"]) :
    ∃ fd : FuncData, (∀ (s : Shared) (u : Value), BindsTo s fd ⟨[u], []⟩ [("_law_script", u)]) ∧ ∀ base : Heap, K.In base → base.Ns mainGlobals mg → LB.RunsC P w K mg base fa fd ["_law_script"] (LB.spLaw K) := by
  obtain ⟨A_Code, c_Code⟩ := E_Code
  obtain ⟨A_Machine, c_Machine⟩ := E_Machine
  obtain ⟨A_InvalidCode, A_InvalidNode, A_InvalidText, A_Mismatch, A_LowError, X⟩ := E_X
  obtain ⟨a_FORMS, es_FORMS, n_FORMS, m_FORMS, l_FORMS, lit_FORMS, low_FORMS, ent_FORMS⟩ := I_FORMS
  obtain ⟨W, eW⟩ : ∃ W, W = mkW K [("Code", A_Code), ("Machine", A_Machine), ("InvalidCode", A_InvalidCode), ("InvalidNode", A_InvalidNode), ("InvalidText", A_InvalidText), ("Mismatch", A_Mismatch), ("LowError", A_LowError)] [("Code", ["rows"]), ("Machine", ["width", "registers"])] [(a_FORMS, [("set", (.tup [(.str "register"), (.str "number")])), ("copy", (.tup [(.str "register"), (.str "register")])), ("add", (.tup [(.str "register"), (.str "register"), (.str "register")])), ("sub", (.tup [(.str "register"), (.str "register"), (.str "register")])), ("mul", (.tup [(.str "register"), (.str "register"), (.str "register")])), ("left", (.tup [(.str "register"), (.str "register")])), ("right", (.tup [(.str "register"), (.str "register")])), ("load", (.tup [(.str "register"), (.str "slot")])), ("store", (.tup [(.str "slot"), (.str "register")])), ("skip", (.tup [(.str "register"), (.str "modulus"), (.str "rest"), (.str "count")]))])] := ⟨_, rfl⟩
  have eK : W.K = K := by rw [eW]; rfl
  have e_Code : W.cl "Code" = A_Code := by rw [eW]; rfl
  have e_Machine : W.cl "Machine" = A_Machine := by rw [eW]; rfl
  have e_InvalidCode : W.cl "InvalidCode" = A_InvalidCode := by rw [eW]; rfl
  have e_InvalidNode : W.cl "InvalidNode" = A_InvalidNode := by rw [eW]; rfl
  have e_InvalidText : W.cl "InvalidText" = A_InvalidText := by rw [eW]; rfl
  have e_Mismatch : W.cl "Mismatch" = A_Mismatch := by rw [eW]; rfl
  have e_LowError : W.cl "LowError" = A_LowError := by rw [eW]; rfl
  have CT : TW K w W := by
    rw [eW]
    refine tw_mk (fun p hp => ?_) (fun p hp => ?_)
    · simp only [List.mem_cons, List.not_mem_nil, or_false] at hp
      rcases hp with rfl | rfl
      · exact ⟨c_Code.own.cl, c_Code.isi, fun f hf => by
          simp only [List.mem_cons, List.not_mem_nil, or_false] at hf
          rcases hf with rfl
          · exact c_Code.n_rows⟩
      · exact ⟨c_Machine.own.cl, c_Machine.isi, fun f hf => by
          simp only [List.mem_cons, List.not_mem_nil, or_false] at hf
          rcases hf with rfl | rfl
          · exact c_Machine.n_width
          · exact c_Machine.n_registers⟩
    · simp only [List.mem_cons, List.not_mem_nil, or_false] at hp
      subst hp
      exact kd_mk l_FORMS lit_FORMS low_FORMS (ent_FORMS _ rfl)
  have KI : KIs K W itab := by
    unfold itab
    refine kis_mk (fun p hp => ?_) (fun p hp => ?_) (fun c hc => ?_)
    · simp only [List.mem_cons, List.not_mem_nil, or_false] at hp
      rcases hp with rfl | rfl | rfl | rfl | rfl | rfl
      · show PySem.W.kitOne K (.ref (W.cl "Code")) (.ref (W.cl "Code")) = some true
        rw [e_Code]; exact c_Code.isi.me
      · show PySem.W.kitOne K (.ref (W.cl "Machine")) (.ref (W.cl "Machine")) = some true
        rw [e_Machine]; exact c_Machine.isi.me
      · show PySem.W.kitOne K (.ref (W.cl "InvalidCode")) (.ref (W.cl "InvalidCode")) = some true
        rw [e_InvalidCode]; exact X.k_InvalidCode_InvalidCode
      · show PySem.W.kitOne K (.ref (W.cl "InvalidCode")) (.ref (W.cl "InvalidNode")) = some false
        rw [e_InvalidCode, e_InvalidNode]; exact X.k_InvalidCode_InvalidNode
      · show PySem.W.kitOne K (.ref (W.cl "InvalidCode")) (.ref (W.cl "InvalidText")) = some false
        rw [e_InvalidCode, e_InvalidText]; exact X.k_InvalidCode_InvalidText
      · show PySem.W.kitOne K (.ref (W.cl "InvalidCode")) (.ref (W.cl "Mismatch")) = some false
        rw [e_InvalidCode, e_Mismatch]; exact X.k_InvalidCode_Mismatch
    · cases hp
    · simp only [List.mem_cons, List.not_mem_nil, or_false] at hc
      rcases hc with rfl | rfl
      · rw [e_Code]; exact c_Code.kc
      · rw [e_Machine]; exact c_Machine.kc
  have G_MOST_MODULUS : GTxt W mg "MOST_MODULUS" g_MOST_MODULUS := g_int I_MOST_MODULUS
  have G_MOST_REGISTERS : GTxt W mg "MOST_REGISTERS" g_MOST_REGISTERS := g_int I_MOST_REGISTERS
  have G_MOST_SLOTS : GTxt W mg "MOST_SLOTS" g_MOST_SLOTS := g_int I_MOST_SLOTS
  have G_LIMIT : GTxt W mg "LIMIT" g_LIMIT := g_int I_LIMIT
  have G_MOST_ROWS : GTxt W mg "MOST_ROWS" g_MOST_ROWS := g_int I_MOST_ROWS
  have G_FORMS : GTxt W mg "FORMS" g_FORMS := g_dct m_FORMS (by rw [eW]; show _ ∈ _; simp)
  have G_Code : GTxt W mg "Code" (.cls "Code") := g_cls (by rw [e_Code]; exact c_Code.own.g)
  have co_Code : W.cok "Code" := by rw [eW]; show _ ∈ _; simp
  have O_Code : LB.OwnCls K mg "Code" (W.cl "Code") := by rw [e_Code]; exact c_Code.own
  have ne_Code : LB.NeCls K (W.cl "Code") := by rw [e_Code]; exact c_Code.ne
  have nf_Code : NotFirst K (W.cl "Code") := by rw [e_Code]; exact c_Code.nf
  have fo_Code__rows : W.fok "Code" "rows" := by rw [eW]; exact ⟨["rows"], by simp, by simp⟩
  have G_Machine : GTxt W mg "Machine" (.cls "Machine") := g_cls (by rw [e_Machine]; exact c_Machine.own.g)
  have co_Machine : W.cok "Machine" := by rw [eW]; show _ ∈ _; simp
  have O_Machine : LB.OwnCls K mg "Machine" (W.cl "Machine") := by rw [e_Machine]; exact c_Machine.own
  have ne_Machine : LB.NeCls K (W.cl "Machine") := by rw [e_Machine]; exact c_Machine.ne
  have nf_Machine : NotFirst K (W.cl "Machine") := by rw [e_Machine]; exact c_Machine.nf
  have fo_Machine__width : W.fok "Machine" "width" := by rw [eW]; exact ⟨["width", "registers"], by simp, by simp⟩
  have fo_Machine__registers : W.fok "Machine" "registers" := by rw [eW]; exact ⟨["width", "registers"], by simp, by simp⟩
  have gc_InvalidCode : mg "InvalidCode" = some (.ref (W.cl "InvalidCode")) := by rw [e_InvalidCode]; exact X.g_InvalidCode
  have G_InvalidCode : GTxt W mg "InvalidCode" (.cls "InvalidCode") := g_cls gc_InvalidCode
  have gc_InvalidNode : mg "InvalidNode" = some (.ref (W.cl "InvalidNode")) := by rw [e_InvalidNode]; exact X.g_InvalidNode
  have G_InvalidNode : GTxt W mg "InvalidNode" (.cls "InvalidNode") := g_cls gc_InvalidNode
  have gc_InvalidText : mg "InvalidText" = some (.ref (W.cl "InvalidText")) := by rw [e_InvalidText]; exact X.g_InvalidText
  have G_InvalidText : GTxt W mg "InvalidText" (.cls "InvalidText") := g_cls gc_InvalidText
  have gc_Mismatch : mg "Mismatch" = some (.ref (W.cl "Mismatch")) := by rw [e_Mismatch]; exact X.g_Mismatch
  have G_Mismatch : GTxt W mg "Mismatch" (.cls "Mismatch") := g_cls gc_Mismatch
  have gc_LowError : mg "LowError" = some (.ref (W.cl "LowError")) := by rw [e_LowError]; exact X.g_LowError
  have G_LowError : GTxt W mg "LowError" (.cls "LowError") := g_cls gc_LowError
  have XC_InvalidCode : LB.ExcCls K mg "InvalidCode" (W.cl "InvalidCode") := by rw [e_InvalidCode]; exact X.xc_InvalidCode
  have XO : XOk K W xfls := by
    refine ⟨fun C fs h => ?_⟩
    unfold xfls at h
    simp only [List.lookup] at h
    have ok : ∀ (c : Str) (fs0 : List Str), (ExcC K (W.cl c) ∧ (PySem.W.clsIn K (W.cl c)).isSome = true ∧ ∀ f ∈ fs0, PySem.W.findIn K (.ref (W.cl c)) f = some none) → C = c → fs = fs0 → ExcC K (W.cl C) ∧ (PySem.W.clsIn K (W.cl C)).isSome = true ∧ ∀ f ∈ fs, PySem.W.findIn K (.ref (W.cl C)) f = some none := fun c fs0 h e1 e2 => by
      subst e1 e2
      exact h
    split at h
    · rename_i hc
      refine ok "InvalidCode" ["word", "row"] ?_ (beq_iff_eq.mp hc) (Option.some.inj h).symm
      rw [e_InvalidCode]
      refine ⟨X.ec_InvalidCode, X.cl_InvalidCode, fun f hf => ?_⟩
      simp only [List.mem_cons, List.not_mem_nil, or_false] at hf
      rcases hf with rfl | rfl
      · exact X.n_InvalidCode_word
      · exact X.n_InvalidCode_row
    · cases h
  have CT_LowError : Cats K W (.ref (W.cl "LowError")) cat_LowError := by
    refine ⟨fun C v h => ?_⟩
    unfold cat_LowError at h
    simp only [List.lookup] at h
    have ok : ∀ (c : Str) (v0 : Bool), PySem.W.exmOne K (.ref (W.cl c)) (.ref (W.cl "LowError")) = some v0 → C = c → v = v0 → PySem.W.exmOne K (.ref (W.cl C)) (.ref (W.cl "LowError")) = some v := fun c v0 h e1 e2 => by
      subst e1 e2
      exact h
    split at h
    · rename_i hc
      refine ok "InvalidCode" true ?_ (beq_iff_eq.mp hc) (Option.some.inj h).symm
      rw [e_InvalidCode, e_LowError]
      exact X.x_InvalidCode_LowError
    · cases h
  have D_InvalidCode_init : ∀ base, LB.MethOk P w K mg base 1 (W.cl "InvalidCode") "__init__" ["self", "word", "row"] (spExcN (W.cl "InvalidCode") ["word", "row"]) := fun base => by
    rw [e_InvalidCode]
    exact LB.ok_InvalidCode_init X.m_InvalidCode X.low X.xc_InvalidCode X.n_InvalidCode_word X.n_InvalidCode_row
  have D_is_modulus := fun base => ok_is_modulus (P := P) (w := w) (K := K) (mg := mg) (base := base) (W := W) t_is_modulus T CT G_MOST_MODULUS
  have D_is_within := fun base => ok_is_within (P := P) (w := w) (K := K) (mg := mg) (base := base) (W := W) t_is_within T CT (D_is_modulus base) G_MOST_REGISTERS G_MOST_SLOTS G_LIMIT G_MOST_MODULUS G_MOST_ROWS
  have D_is_integer := fun base => ok_is_integer (P := P) (w := w) (K := K) (mg := mg) (base := base) (W := W) t_is_integer T CT KI
  have D_is_row := fun base => ok_is_row (P := P) (w := w) (K := K) (mg := mg) (base := base) (W := W) t_is_row T CT (D_is_within base) (D_is_integer base) KI G_FORMS
  have D_check_rows := fun base => ok_check_rows (P := P) (w := w) (K := K) (mg := mg) (base := base) (W := W) t_check_rows T CT (D_InvalidCode_init base) (D_is_row base) XC_InvalidCode G_MOST_ROWS
  have D_Code_init := fun base => ok_Code_init (P := P) (w := w) (K := K) (mg := mg) (base := base) (W := W) (by rw [e_Code]; exact c_Code.m_init) T CT (D_check_rows base) fo_Code__rows
  have D_law_told := fun base => ok_law_told (P := P) (w := w) (K := K) (mg := mg) (base := base) (W := W) t_law_told T CT (D_Code_init base) co_Code O_Code CT_LowError gc_LowError XO KI G_InvalidCode G_InvalidNode G_InvalidText G_Mismatch
  have D_law_is_whole := fun base => ok_law_is_whole (P := P) (w := w) (K := K) (mg := mg) (base := base) (W := W) t_law_is_whole T CT KI
  have D_law_item_fits := fun base => ok_law_item_fits (P := P) (w := w) (K := K) (mg := mg) (base := base) (W := W) t_law_item_fits T CT (D_law_is_whole base)
  have D_law_row_fits := fun base => ok_law_row_fits (P := P) (w := w) (K := K) (mg := mg) (base := base) (W := W) t_law_row_fits T CT (D_law_item_fits base) KI
  have D_law_due := fun base => ok_law_due (P := P) (w := w) (K := K) (mg := mg) (base := base) (W := W) t_law_due T CT (D_law_row_fits base)
  have D_law_draw : ∀ base, LB.DefX P w K mg base 1 "_law_draw" ["_law_deal_here", "_law_many"] [] (spD W 2 F_law_draw) := fun base => by
    show LB.DefX P w K mg base 1 "_law_draw" ["_law_deal_here", "_law_many"] [] (spD W 2 F_drawO)
    rw [F_drawO_eq]
    exact ok_draw (LB.ok_law_draw t_law_draw T)
  have D_Machine_eq := fun base => ok_Machine_eq (P := P) (w := w) (K := K) (mg := mg) (base := base) (W := W) (by rw [e_Machine]; exact c_Machine.m_eq) T CT KI G_Machine
  have D_Machine_init := fun base => ok_Machine_init (P := P) (w := w) (K := K) (mg := mg) (base := base) (W := W) (by rw [e_Machine]; exact c_Machine.m_init) T CT fo_Machine__registers fo_Machine__width
  have D_law_machines_right := fun base => ok_law_machines_right (P := P) (w := w) (K := K) (mg := mg) (base := base) (W := W) t_law_machines_right T CT (D_Machine_eq base) (D_Machine_init base) (D_law_draw base) co_Machine O_Machine nf_Machine ne_Machine
  have D_Code_len := fun base => ok_Code_len (P := P) (w := w) (K := K) (mg := mg) (base := base) (W := W) (by rw [e_Code]; exact c_Code.m_len) T CT
  have D_Code_eq := fun base => ok_Code_eq (P := P) (w := w) (K := K) (mg := mg) (base := base) (W := W) (by rw [e_Code]; exact c_Code.m_eq) T CT KI G_Code
  have D_law_odd_item := fun base => ok_law_odd_item (P := P) (w := w) (K := K) (mg := mg) (base := base) (W := W) t_law_odd_item T CT (D_law_draw base) (D_law_is_whole base)
  have D_law_spoilt := fun base => ok_law_spoilt (P := P) (w := w) (K := K) (mg := mg) (base := base) (W := W) t_law_spoilt T CT (D_law_draw base) (D_law_odd_item base) KI
  have D_law_number := fun base => ok_law_number (P := P) (w := w) (K := K) (mg := mg) (base := base) (W := W) t_law_number T CT (D_law_draw base)
  have D_law_row := fun base => ok_law_row (P := P) (w := w) (K := K) (mg := mg) (base := base) (W := W) t_law_row T CT (D_law_draw base) (D_law_number base)
  have D_law_far_row := fun base => ok_law_far_row (P := P) (w := w) (K := K) (mg := mg) (base := base) (W := W) t_law_far_row T CT (D_law_draw base) (D_law_row base)
  have D_law_far_rows := fun base => ok_law_far_rows (P := P) (w := w) (K := K) (mg := mg) (base := base) (W := W) t_law_far_rows T CT (D_law_far_row base)
  have D_law_deal : ∀ base, LB.DefX P w K mg base 1 "_law_deal" ["_law_script", "_law_base"] [] (spD W 2 F_law_deal) := fun base => by
    show LB.DefX P w K mg base 1 "_law_deal" ["_law_script", "_law_base"] [] (spD W 2 F_dealO)
    rw [F_dealO_eq]
    exact ok_deal eK.symm (LB.ok_law_deal t_law_deal T)
  exact ok_law (P := P) (w := w) (K := K) (mg := mg) (W := W) L T CT D_law_told D_law_due D_law_draw D_law_machines_right D_Code_len D_Code_init D_Code_eq D_law_spoilt D_law_far_rows D_law_deal co_Code O_Code KI nf_Code ne_Code law_ok53
end PD
section
set_option Elab.async false
set_option maxRecDepth 100000
open PySem PySem.W PyProof.Rows
set_option maxHeartbeats 0
open_top head for PySem.Challenge.rw_lowsure_k53_code_and_machines
end
set_option Elab.async false
set_option linter.all false
set_option maxRecDepth 100000
open PySem PySem.W PyProof.Rows in
set_option maxRecDepth 100000 in
set_option maxHeartbeats 0 in
theorem PySem.Challenge.cw_lowsure_k53_code_and_machines_holds : PySem.Challenge.rw_lowsure_k53_code_and_machines.Holds :=
  head (by
    k_fill
    refine LB.walkC (l := PySem.Challenge.rw_lowsure_k53_code_and_machines) rfl rfl (fun w h Y => PySem.W.kIn_of Y) ?F
    case F =>
      intro w mg fa h KX G hmg
      refine' PD.all_mk ?L ?T ?E_X ?E_Code ?E_Machine ?I_MOST_MODULUS ?I_MOST_REGISTERS ?I_MOST_SLOTS ?I_LIMIT ?I_MOST_ROWS ?I_FORMS ?t_is_modulus ?t_is_within ?t_is_integer ?t_is_row ?t_check_rows ?t_law_told ?t_law_is_whole ?t_law_item_fits ?t_law_row_fits ?t_law_due ?t_law_draw ?t_law_machines_right ?t_law_odd_item ?t_law_spoilt ?t_law_number ?t_law_row ?t_law_far_row ?t_law_far_rows ?t_law_deal
      case L =>
        refine' LB.lawFn_mk KX G hmg (fun _ _ _ _ _ _ _ => rfl) ?a ?l ?c ?k
        (case a => k_is)
        (case l => k_is)
        (case c => k_is)
        (case k => k_is)
      case T =>
        exact ⟨PySem.W.mg_none_of KX G (by k_is), PySem.W.mg_none_of KX G (by k_is), PySem.W.mg_none_of KX G (by k_is), PySem.W.mg_none_of KX G (by k_is), PySem.W.mg_none_of KX G (by k_is), PySem.W.mg_none_of KX G (by k_is), PySem.W.mg_none_of KX G (by k_is), PySem.W.mg_none_of KX G (by k_is), PySem.W.mg_none_of KX G (by k_is), PySem.W.mg_none_of KX G (by k_is), PySem.W.mg_none_of KX G (by k_is), PySem.W.mg_none_of KX G (by k_is), PySem.W.mg_none_of KX G (by k_is), PySem.W.mg_none_of KX G (by k_is), PySem.W.mg_none_of KX G (by k_is), PySem.W.mg_none_of KX G (by k_is), PySem.W.mg_none_of KX G (by k_is), PySem.W.mg_none_of KX G (by k_is), PySem.W.mg_none_of KX G (by k_is), PySem.W.mg_none_of KX G (by k_is), PySem.W.mg_none_of KX G (by k_is), PySem.W.mg_none_of KX G (by k_is), PySem.W.mg_none_of KX G (by k_is), PySem.W.mg_none_of KX G (by k_is), PySem.W.mg_none_of KX G (by k_is)⟩
      case E_X =>
        refine' ⟨_, _, _, _, _, ?g_InvalidCode, ?g_InvalidNode, ?g_InvalidText, ?g_Mismatch, ?g_LowError, ?low, ?xc_InvalidCode, ?ec_InvalidCode, ?cl_InvalidCode, ?n_InvalidCode_word, ?n_InvalidCode_row, ?m_InvalidCode, ?k_InvalidCode_InvalidCode, ?k_InvalidCode_InvalidNode, ?k_InvalidCode_InvalidText, ?k_InvalidCode_Mismatch, ?x_InvalidCode_LowError⟩
        case g_InvalidCode =>
          exact PySem.W.mg_of KX G (by k_is)
        case g_InvalidNode =>
          exact PySem.W.mg_of KX G (by k_is)
        case g_InvalidText =>
          exact PySem.W.mg_of KX G (by k_is)
        case g_Mismatch =>
          exact PySem.W.mg_of KX G (by k_is)
        case g_LowError =>
          exact PySem.W.mg_of KX G (by k_is)
        case low =>
          refine' LB.low_mk KX G ?a ?sp ?ty ?rd ?fi
          (case a => k_is)
          (case sp => k_is)
          (case ty => k_is)
          (case rd => k_is)
          (case fi => k_is)
        case xc_InvalidCode =>
          refine' LB.exc_mk KX G ?a ?lC ?rb ?sa ?ex ?ty ?kc ?ga ?gg ?hd ?me
          (case a => k_is)
          (case lC => k_is)
          (case rb => first | rfl | decide +kernel)
          (case sa => k_is)
          (case ex => k_is)
          (case ty => k_is)
          (case kc => k_is)
          (case ga => k_is)
          (case gg => k_is)
          (case hd => k_is)
          (case me => first | k_is | rfl)
        case ec_InvalidCode =>
          refine' ⟨?q1, ?q2, ?q3, ?q4, ?q5, ?q6, ?q7, ?q8⟩
          (case q1 => k_is)
          (case q2 => k_is)
          (case q3 => k_is)
          (case q4 => k_is)
          (case q5 => k_is)
          (case q6 => k_is)
          (case q7 => k_is)
          (case q8 => k_is)
        case cl_InvalidCode =>
          first | k_is | rfl | decide +kernel
        case n_InvalidCode_word =>
          k_is
        case n_InvalidCode_row =>
          k_is
        case m_InvalidCode =>
          refine' LB.topMeth_mk (fun _ _ _ _ _ _ us hl => match us, hl with | [_, _, _], _ => rfl) ?a ?i ?l ?c ?k
          (case a => k_is)
          (case i => k_is)
          (case l => k_is)
          (case c => k_is)
          (case k => k_is)
        case k_InvalidCode_InvalidCode =>
          first | k_is | rfl | decide +kernel
        case k_InvalidCode_InvalidNode =>
          first | k_is | rfl | decide +kernel
        case k_InvalidCode_InvalidText =>
          first | k_is | rfl | decide +kernel
        case k_InvalidCode_Mismatch =>
          first | k_is | rfl | decide +kernel
        case x_InvalidCode_LowError =>
          first | k_is | rfl | decide +kernel
      case E_Code =>
        refine' ⟨_, ?own, ?isi, ?kcl, ?n_rows, ?ne, ?nf, ?m_init, ?m_len, ?m_eq⟩
        case own =>
          refine' LB.own_mk KX G ?a ?pg ?hd ?po ?sa ?mk ?kc
          (case a => k_is)
          (case pg => k_is)
          (case hd => k_is)
          (case po => k_is)
          (case sa => k_is)
          (case mk => k_is)
          (case kc => k_is)
        case isi =>
          refine' ⟨?ha, ?hn, ?htk, ?hm, ?me⟩
          (case ha => k_is)
          (case hn => k_is)
          (case htk => k_is)
          (case hm => k_is)
          (case me => first | k_is | rfl)
        case kcl =>
          show _ = true
          first | k_is | rfl | decide +kernel
        case n_rows =>
          k_is
        case ne =>
          refine' LB.ne_mk ?lC ?lN ?nk ?ne ?nn ?fe ?lf ?cf
          (case lC => k_is)
          (case lN => k_is)
          (case nk => first | rfl | decide +kernel)
          (case ne => k_is)
          (case nn => k_is)
          (case fe => k_is)
          (case lf => k_is)
          (case cf => rfl)
        case nf =>
          intro T hT
          simp only [PD.btys, List.mem_cons, List.not_mem_nil, or_false] at hT
          rcases hT with rfl | rfl | rfl | rfl | rfl | rfl | rfl <;> first | k_is | rfl | decide +kernel
        case m_init =>
          refine' LB.topMeth_mk (fun _ _ _ _ _ _ us hl => match us, hl with | [_, _], _ => rfl) ?a ?i ?l ?c ?k
          (case a => k_is)
          (case i => k_is)
          (case l => k_is)
          (case c => k_is)
          (case k => k_is)
        case m_len =>
          refine' LB.topMeth_mk (fun _ _ _ _ _ _ us hl => match us, hl with | [_], _ => rfl) ?a ?i ?l ?c ?k
          (case a => k_is)
          (case i => k_is)
          (case l => k_is)
          (case c => k_is)
          (case k => k_is)
        case m_eq =>
          refine' LB.topMeth_mk (fun _ _ _ _ _ _ us hl => match us, hl with | [_, _], _ => rfl) ?a ?i ?l ?c ?k
          (case a => k_is)
          (case i => k_is)
          (case l => k_is)
          (case c => k_is)
          (case k => k_is)
      case E_Machine =>
        refine' ⟨_, ?own, ?isi, ?kcl, ?n_width, ?n_registers, ?ne, ?nf, ?m_eq, ?m_init⟩
        case own =>
          refine' LB.own_mk KX G ?a ?pg ?hd ?po ?sa ?mk ?kc
          (case a => k_is)
          (case pg => k_is)
          (case hd => k_is)
          (case po => k_is)
          (case sa => k_is)
          (case mk => k_is)
          (case kc => k_is)
        case isi =>
          refine' ⟨?ha, ?hn, ?htk, ?hm, ?me⟩
          (case ha => k_is)
          (case hn => k_is)
          (case htk => k_is)
          (case hm => k_is)
          (case me => first | k_is | rfl)
        case kcl =>
          show _ = true
          first | k_is | rfl | decide +kernel
        case n_width =>
          k_is
        case n_registers =>
          k_is
        case ne =>
          refine' LB.ne_mk ?lC ?lN ?nk ?ne ?nn ?fe ?lf ?cf
          (case lC => k_is)
          (case lN => k_is)
          (case nk => first | rfl | decide +kernel)
          (case ne => k_is)
          (case nn => k_is)
          (case fe => k_is)
          (case lf => k_is)
          (case cf => rfl)
        case nf =>
          intro T hT
          simp only [PD.btys, List.mem_cons, List.not_mem_nil, or_false] at hT
          rcases hT with rfl | rfl | rfl | rfl | rfl | rfl | rfl <;> first | k_is | rfl | decide +kernel
        case m_eq =>
          refine' LB.topMeth_mk (fun _ _ _ _ _ _ us hl => match us, hl with | [_, _], _ => rfl) ?a ?i ?l ?c ?k
          (case a => k_is)
          (case i => k_is)
          (case l => k_is)
          (case c => k_is)
          (case k => k_is)
        case m_init =>
          refine' LB.topMeth_mk (fun _ _ _ _ _ _ us hl => match us, hl with | [_, _, _], _ => rfl) ?a ?i ?l ?c ?k
          (case a => k_is)
          (case i => k_is)
          (case l => k_is)
          (case c => k_is)
          (case k => k_is)
      case I_MOST_MODULUS =>
        exact ⟨_, PySem.W.mg_of KX G (by k_is)⟩
      case I_MOST_REGISTERS =>
        exact ⟨_, PySem.W.mg_of KX G (by k_is)⟩
      case I_MOST_SLOTS =>
        exact ⟨_, PySem.W.mg_of KX G (by k_is)⟩
      case I_LIMIT =>
        exact ⟨_, PySem.W.mg_of KX G (by k_is)⟩
      case I_MOST_ROWS =>
        exact ⟨_, PySem.W.mg_of KX G (by k_is)⟩
      case I_FORMS =>
        refine' PD.dct_mk KX G ?a ?l ?lit ?low (fun W eW => ?ent)
        (case a => k_is)
        (case l => k_is)
        (case lit => repeat (first | exact trivial | refine ⟨⟨_, _, rfl, rfl⟩, ?_⟩))
        (case low => rfl)
        case ent =>
          refine' (.cons ⟨_, rfl⟩ ?v0 (.cons ⟨_, rfl⟩ ?v1 (.cons ⟨_, rfl⟩ ?v2 (.cons ⟨_, rfl⟩ ?v3 (.cons ⟨_, rfl⟩ ?v4 (.cons ⟨_, rfl⟩ ?v5 (.cons ⟨_, rfl⟩ ?v6 (.cons ⟨_, rfl⟩ ?v7 (.cons ⟨_, rfl⟩ ?v8 (.cons ⟨_, rfl⟩ ?v9 .nil))))))))))
          case v0 =>
            refine' PD.wv_strs (fs := ["register", "number"]) ?l ?z ?v
            (case l => rw [eW]; k_is)
            (case z => decide)
            (case v => exact (.cons ⟨_, rfl⟩ (.cons ⟨_, rfl⟩ .nil)))
          case v1 =>
            refine' PD.wv_strs (fs := ["register", "register"]) ?l ?z ?v
            (case l => rw [eW]; k_is)
            (case z => decide)
            (case v => exact (.cons ⟨_, rfl⟩ (.cons ⟨_, rfl⟩ .nil)))
          case v2 =>
            refine' PD.wv_strs (fs := ["register", "register", "register"]) ?l ?z ?v
            (case l => rw [eW]; k_is)
            (case z => decide)
            (case v => exact (.cons ⟨_, rfl⟩ (.cons ⟨_, rfl⟩ (.cons ⟨_, rfl⟩ .nil))))
          case v3 =>
            refine' PD.wv_strs (fs := ["register", "register", "register"]) ?l ?z ?v
            (case l => rw [eW]; k_is)
            (case z => decide)
            (case v => exact (.cons ⟨_, rfl⟩ (.cons ⟨_, rfl⟩ (.cons ⟨_, rfl⟩ .nil))))
          case v4 =>
            refine' PD.wv_strs (fs := ["register", "register", "register"]) ?l ?z ?v
            (case l => rw [eW]; k_is)
            (case z => decide)
            (case v => exact (.cons ⟨_, rfl⟩ (.cons ⟨_, rfl⟩ (.cons ⟨_, rfl⟩ .nil))))
          case v5 =>
            refine' PD.wv_strs (fs := ["register", "register"]) ?l ?z ?v
            (case l => rw [eW]; k_is)
            (case z => decide)
            (case v => exact (.cons ⟨_, rfl⟩ (.cons ⟨_, rfl⟩ .nil)))
          case v6 =>
            refine' PD.wv_strs (fs := ["register", "register"]) ?l ?z ?v
            (case l => rw [eW]; k_is)
            (case z => decide)
            (case v => exact (.cons ⟨_, rfl⟩ (.cons ⟨_, rfl⟩ .nil)))
          case v7 =>
            refine' PD.wv_strs (fs := ["register", "slot"]) ?l ?z ?v
            (case l => rw [eW]; k_is)
            (case z => decide)
            (case v => exact (.cons ⟨_, rfl⟩ (.cons ⟨_, rfl⟩ .nil)))
          case v8 =>
            refine' PD.wv_strs (fs := ["slot", "register"]) ?l ?z ?v
            (case l => rw [eW]; k_is)
            (case z => decide)
            (case v => exact (.cons ⟨_, rfl⟩ (.cons ⟨_, rfl⟩ .nil)))
          case v9 =>
            refine' PD.wv_strs (fs := ["register", "modulus", "rest", "count"]) ?l ?z ?v
            (case l => rw [eW]; k_is)
            (case z => decide)
            (case v => exact (.cons ⟨_, rfl⟩ (.cons ⟨_, rfl⟩ (.cons ⟨_, rfl⟩ (.cons ⟨_, rfl⟩ .nil)))))
      case t_is_modulus =>
        refine' LB.topFn_mk KX G (fun _ _ _ _ _ _ us hl => match us, hl with | [_], _ => rfl) ?a ?l ?c ?k
        (case a => k_is)
        (case l => k_is)
        (case c => k_is)
        (case k => k_is)
      case t_is_within =>
        refine' LB.topFn_mk KX G (fun _ _ _ _ _ _ us hl => match us, hl with | [_, _], _ => rfl) ?a ?l ?c ?k
        (case a => k_is)
        (case l => k_is)
        (case c => k_is)
        (case k => k_is)
      case t_is_integer =>
        refine' LB.topFn_mk KX G (fun _ _ _ _ _ _ us hl => match us, hl with | [_], _ => rfl) ?a ?l ?c ?k
        (case a => k_is)
        (case l => k_is)
        (case c => k_is)
        (case k => k_is)
      case t_is_row =>
        refine' LB.topFn_mk KX G (fun _ _ _ _ _ _ us hl => match us, hl with | [_], _ => rfl) ?a ?l ?c ?k
        (case a => k_is)
        (case l => k_is)
        (case c => k_is)
        (case k => k_is)
      case t_check_rows =>
        refine' LB.topFn_mk KX G (fun _ _ _ _ _ _ us hl => match us, hl with | [_], _ => rfl) ?a ?l ?c ?k
        (case a => k_is)
        (case l => k_is)
        (case c => k_is)
        (case k => k_is)
      case t_law_told =>
        refine' LB.topFn_mk KX G (fun _ _ _ _ _ _ us hl => match us, hl with | [_], _ => rfl) ?a ?l ?c ?k
        (case a => k_is)
        (case l => k_is)
        (case c => k_is)
        (case k => k_is)
      case t_law_is_whole =>
        refine' LB.topFn_mk KX G (fun _ _ _ _ _ _ us hl => match us, hl with | [_], _ => rfl) ?a ?l ?c ?k
        (case a => k_is)
        (case l => k_is)
        (case c => k_is)
        (case k => k_is)
      case t_law_item_fits =>
        refine' LB.topFn_mk KX G (fun _ _ _ _ _ _ us hl => match us, hl with | [_, _, _], _ => rfl) ?a ?l ?c ?k
        (case a => k_is)
        (case l => k_is)
        (case c => k_is)
        (case k => k_is)
      case t_law_row_fits =>
        refine' LB.topFn_mk KX G (fun _ _ _ _ _ _ us hl => match us, hl with | [_], _ => rfl) ?a ?l ?c ?k
        (case a => k_is)
        (case l => k_is)
        (case c => k_is)
        (case k => k_is)
      case t_law_due =>
        refine' LB.topFn_mk KX G (fun _ _ _ _ _ _ us hl => match us, hl with | [_], _ => rfl) ?a ?l ?c ?k
        (case a => k_is)
        (case l => k_is)
        (case c => k_is)
        (case k => k_is)
      case t_law_draw =>
        refine' LB.topFn_mk KX G (fun _ _ _ _ _ _ us hl => match us, hl with | [_, _], _ => rfl) ?a ?l ?c ?k
        (case a => k_is)
        (case l => k_is)
        (case c => k_is)
        (case k => k_is)
      case t_law_machines_right =>
        refine' LB.topFn_mk KX G (fun _ _ _ _ _ _ us hl => match us, hl with | [_], _ => rfl) ?a ?l ?c ?k
        (case a => k_is)
        (case l => k_is)
        (case c => k_is)
        (case k => k_is)
      case t_law_odd_item =>
        refine' LB.topFn_mk KX G (fun _ _ _ _ _ _ us hl => match us, hl with | [_, _], _ => rfl) ?a ?l ?c ?k
        (case a => k_is)
        (case l => k_is)
        (case c => k_is)
        (case k => k_is)
      case t_law_spoilt =>
        refine' LB.topFn_mk KX G (fun _ _ _ _ _ _ us hl => match us, hl with | [_, _], _ => rfl) ?a ?l ?c ?k
        (case a => k_is)
        (case l => k_is)
        (case c => k_is)
        (case k => k_is)
      case t_law_number =>
        refine' LB.topFn_mk KX G (fun _ _ _ _ _ _ us hl => match us, hl with | [_], _ => rfl) ?a ?l ?c ?k
        (case a => k_is)
        (case l => k_is)
        (case c => k_is)
        (case k => k_is)
      case t_law_row =>
        refine' LB.topFn_mk KX G (fun _ _ _ _ _ _ us hl => match us, hl with | [_, _, _], _ => rfl) ?a ?l ?c ?k
        (case a => k_is)
        (case l => k_is)
        (case c => k_is)
        (case k => k_is)
      case t_law_far_row =>
        refine' LB.topFn_mk KX G (fun _ _ _ _ _ _ us hl => match us, hl with | [_, _, _], _ => rfl) ?a ?l ?c ?k
        (case a => k_is)
        (case l => k_is)
        (case c => k_is)
        (case k => k_is)
      case t_law_far_rows =>
        refine' LB.topFn_mk KX G (fun _ _ _ _ _ _ us hl => match us, hl with | [_, _, _], _ => rfl) ?a ?l ?c ?k
        (case a => k_is)
        (case l => k_is)
        (case c => k_is)
        (case k => k_is)
      case t_law_deal =>
        refine' LB.topFn_mk KX G (fun _ _ _ _ _ _ us hl => match us, hl with | [_, _], _ => rfl) ?a ?l ?c ?k
        (case a => k_is)
        (case l => k_is)
        (case c => k_is)
        (case k => k_is))
#print axioms PySem.Challenge.cw_lowsure_k53_code_and_machines_holds
