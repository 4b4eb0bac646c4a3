import PyProof.Rows.All
import Wide.All
import OpenK.AllK
import Wide.FinOn
import HandS.ForMost
import HandS.Wide
import HandS.Codes
import HandS.OwnEq
import PyProof.InstNe
import HandS.Exc
import HandS.ExcOwn
import HandS.ExcInit
import HandS.ExcField
import HandS.CallSlots
import HandS.Defaults
import HandS.WordsExc
import HandS.Walk
import KE.GoesMore
import PyProof.Draws
import HandS.IsInst
import HandS.Zip
import HandS.More
import HandS.NoneIn
import HandS.Rev
import HandS.ExcValue
import HandS.RaiseMore
import PySem.Challenge.RW_lowsure_k57_code_that_is_run
set_option Elab.async false
set_option linter.all false
set_option maxRecDepth 100000
set_option maxHeartbeats 4000000
/-! LB: own words over the hand layer -/
namespace LB
open PySem PySem.Spec PyProof.Rows L2
open C8 (pss_cut tCut)
/-- the def x of the top keeps the promise sp -/
structure DefOk (P : Program) (w : World) (K : PySem.W.Frag) (mg : Str → Option Value) (base : Heap) (k : Nat) (x : Str) (ps : List Str) (sp : Sp) : Prop where
  ex : ∃ (f : Addr) (fd : FuncData), FnOk P w K mg base CX0 k f fd ps sp ∧ mg x = some (.ref f) ∧ PySem.W.keepIn K (.ref f) = true ∧ Binds K fd ps []
/-- the def x stands at the top as st -/
structure TopFn (K : PySem.W.Frag) (mg : Str → Option Value) (x : Str) (st : Stmt) (ps : List Str) : Prop where
  ex : ∃ (f : Addr) (fd : FuncData), Fun K x x st f fd ∧ mg x = some (.ref f) ∧ Binds K fd ps []
section
variable {P : Program} {w : World} {K : PySem.W.Frag} {mg : Str → Option Value} {base : Heap}
theorem TopFn.ok {x : Str} {st : Stmt} {N ps : List Str} {k : Nat} {sp : Sp} (F : TopFn K mg x st ps) (S : FnScope N ps (defScope st)) (len : ∀ vs H Q E, sp vs H Q E → vs.length = ps.length)
    (hbody : ∀ (f : Addr) (cdv : Value) (A : Around) (outer : List Env) (s : Shared) (H : Hp) (vs : List V) (Q : VK) (E : XK), Room k (A.deeper (envOfC x (defScope st) s.heap.objs.size f cdv)) → sp vs H Q E →
      ∃ t, PSs (cxOf CX0 P w K mg base N x (defScope st) f cdv A outer s H E).nox (defBody st) t ∧ t { nx := fun _ H' => Q .non H', rt := Q } (start N vs) H) : DefOk P w K mg base (k + 1) x ps sp := by
  obtain ⟨f, fd, F, hm, b⟩ := F.ex
  exact ⟨f, fd, F.ok S len (hbody f), hm, F.kp, b⟩
theorem topFn_mk {h : Heap} {x : Str} {st : Stmt} {ps : List Str} {f : Addr} {oc : Value} {od an : Option Addr} {osl : Array (Option Value)} {kV doc pm cdv ct : Value} (X : K.In h) (G : h.Ns mainGlobals mg)
    (hb : ∀ (kV doc pm : Value) (an : Option Addr) (cdv ct : Value) (us : List Value), us.length = ps.length → bindArgs (PySem.W.fnOf x x (defArgs st) (defBody st) (defScope st) .none kV doc pm an cdv ct) ⟨us, []⟩ = pure (ps.zip us))
    (a : PySem.W.nsIn K mainGlobals x = some (some (.ref f))) (l : K.lookup f = some ⟨oc, od, .func (PySem.W.fnOf x x (defArgs st) (defBody st) (defScope st) .none kV doc pm an cdv ct), osl⟩)
    (c : PySem.W.codeIn K cdv x = true) (k : PySem.W.keepIn K (.ref f) = true) : TopFn K mg x st ps :=
  have F := fun_mk (st := st) l c k
  ⟨f, _, F, PySem.W.mg_of X G a, F.binds hb⟩
end
section
variable {X : Cx} {k : Nat} {x : Str} {ps : List Str} {sp : Sp} {e : Expr} {es : List Expr} {t : TA} {p pos : Pos}
theorem pe_fn (D : DefOk X.prog X.w X.K X.mg X.base k x ps sp) (hr : Room k X.A) (hg : Gl X x) (ha : PA X (e :: es) t) (hdb : (x == ("__debug__" : Str)) = false := by decide)
    (he : starEach (e :: es) X.env = (false, eval e X.env) :: starEach es X.env := by rfl) (hpl : (backTo pos (starEach es X.env)).any (·.1) = false := by rfl) :
    PE X (.Call (.Name x p) (e :: es) [] pos) (tCall sp [] E0 t) := by
  obtain ⟨f, fd, F, hm, hk, hb⟩ := D.ex
  exact pe_call F hr hg hm hk hb .nil pass0 ha hdb he hpl
theorem pe_fn0 (D : DefOk X.prog X.w X.K X.mg X.base k x ps sp) (hr : Room k X.A) (hg : Gl X x) (hdb : (x == ("__debug__" : Str)) = false := by decide) :
    PE X (.Call (.Name x p) [] [] pos) (tCall sp [] E0 tNil) := by
  obtain ⟨f, fd, F, hm, hk, hb⟩ := D.ex
  exact pe_call0 F hr hg hm hk hb .nil pass0 hdb
end
/-- a constant of the module -/
theorem pe_gint {X : Cx} {x : Str} {i : Int} {pos : Pos} (hg : Gl X x) (hm : ∃ t, X.mg x = some (.int i t)) (hdb : (x == ("__debug__" : Str)) = false := by decide) : PE X (.Name x pos) (tC (.int i)) := by
  obtain ⟨t, hm⟩ := hm
  exact pe_glob hg hm ⟨t, rfl⟩ hdb
theorem pe_gref {X : Cx} {x : Str} {a : Addr} {pos : Pos} (hg : Gl X x) (hm : X.mg x = some (.ref a)) (hdb : (x == ("__debug__" : Str)) = false := by decide) : PE X (.Name x pos) (tC (.ref a)) :=
  pe_glob hg hm rfl hdb
/-- the built-ins are what they are -/
structure Txt (K : PySem.W.Frag) (mg : Str → Option Value) : Prop where
  b_len : mg "len" = none
  b_max : mg "max" = none
  b_min : mg "min" = none
  b_abs : mg "abs" = none
  b_list : mg "list" = none
  b_tuple : mg "tuple" = none
  b_reversed : mg "reversed" = none
  b_str : mg "str" = none
  b_repr : mg "repr" = none
  b_sum : mg "sum" = none
  b_all : mg "all" = none
  b_any : mg "any" = none
  b_zip : mg "zip" = none
  b_enumerate : mg "enumerate" = none
  b_int : mg "int" = none
  b_bool : mg "bool" = none
  b_sorted : mg "sorted" = none
  b_isinstance : mg "isinstance" = none
  b_range : mg "range" = none
  b_set : mg "set" = none
  b_dict : mg "dict" = none
  b_divmod : mg "divmod" = none
  b_ord : mg "ord" = none
  b_chr : mg "chr" = none
  b_type : mg "type" = none
/-! ### lists -/
theorem map_get {α : Type} {f : α → V} {ms : List α} {i : Nat} {x : V} (h : (ms.map f)[i]? = some x) : ∃ m, ms[i]? = some m ∧ x = f m := by
  rw [List.getElem?_map] at h
  cases e : ms[i]? with
  | none => rw [e] at h; cases h
  | some m => rw [e] at h; exact ⟨m, rfl, (Option.some.inj h).symm⟩
theorem take_more {α : Type} : ∀ {l : List α} {i : Nat} {x : α}, l[i]? = some x → l.take (i + 1) = l.take i ++ [x]
  | [], i, x, h => by simp at h
  | a :: l, 0, x, h => by
    have e : a = x := Option.some.inj h
    subst e
    rfl
  | a :: l, i + 1, x, h => by
    have ih := take_more (l := l) (i := i) (x := x) h
    show a :: l.take (i + 1) = a :: l.take i ++ [x]
    rw [ih]
    rfl
theorem cut_ints (ns : List Int) (lo hi : Option Int) : ∃ ms : List Int, cutV (ns.map V.int) lo hi = ms.map V.int ∧ ms.length ≤ ns.length ∧ ∀ m ∈ ms, m ∈ ns := by
  unfold cutV
  rw [← List.map_drop, ← List.map_take]
  refine ⟨_, rfl, ?_, fun m h => List.mem_of_mem_drop (List.mem_of_mem_take h)⟩
  rw [List.length_take, List.length_drop]
  omega
theorem ifF {c : Bool} {A B : Prop} (hc : c = false) (h : B) : if c = true then A else B := by
  rw [hc, if_neg Bool.false_ne_true]
  exact h
theorem ifT {c : Bool} {A B : Prop} (hc : c = true) (h : A) : if c = true then A else B := by
  rw [if_pos hc]
  exact h
/-- xs[k:] and xs[:k] -/
theorem cut_from (xs : List V) (k : Nat) (hk : k ≤ xs.length) : cutV xs (some (k : Int)) none = xs.drop k := by
  unfold cutV
  rw [HT.sIx_nat, HT.sIx_none, Nat.min_eq_left hk, List.take_of_length_le]
  rw [List.length_drop]
  omega
theorem cut_to (xs : List V) (k : Nat) (hk : k ≤ xs.length) : cutV xs none (some (k : Int)) = xs.take k := by
  unfold cutV
  rw [HT.sIx_nat, HT.sIx_none, Nat.min_eq_left hk, List.drop_zero, Nat.sub_zero]
theorem part_from {xs : List V} {k : Nat} (h0 : 0 < k) (hk : k ≤ xs.length) : ¬ (HT.sIx xs.length 0 (some (k : Int)) = 0 ∧ HT.sIx xs.length xs.length none = xs.length) := by
  rw [HT.sIx_nat]
  omega
theorem part_to {xs : List V} {k : Nat} (hk : k < xs.length) : ¬ (HT.sIx xs.length 0 none = 0 ∧ HT.sIx xs.length xs.length (some (k : Int)) = xs.length) := by
  rw [HT.sIx_nat]
  omega
theorem sz63 {n : Nat} (h : n ≤ 63) : n < sizeLine := Nat.lt_of_le_of_lt h (by decide)
theorem szK {n : Nat} (h : n ≤ 100000) : n < sizeLine := Nat.lt_of_le_of_lt h (by decide)
theorem szL {n : Nat} (h : n ≤ 100000) : n ≤ sizeLine := Nat.le_of_lt (szK h)
theorem lt_of_get {α : Type} {l : List α} {i : Nat} {x : α} (h : l[i]? = some x) : i < l.length := (List.getElem?_eq_some_iff.mp h).1
theorem same_new {H : Hp} {p : Addr} {o : HO} (h : H p = none) : Same H (upd H p o) := fun b u e => by
  rw [upd_ne (ne_of_none e h)]
  exact e
theorem same_mut {H H' : Hp} {p : Addr} {o : HO} (s : Same H H') (h : H p = none) : Same H (upd H' p o) := fun b u e => by
  rw [upd_ne (ne_of_none e h)]
  exact s b u e
/-! ### the deal: the law's own source of draws -/
def dkv (s n : Int) (l : Addr) : List (Key × V) := [(.inr "seed", .int s), (.inr "number", .int n), (.inr "left", .ref l)]
theorem t_sn : ¬ ("seed" : Str) = "number" := by decide +kernel
theorem t_sl : ¬ ("seed" : Str) = "left" := by decide +kernel
theorem t_nl : ¬ ("number" : Str) = "left" := by decide +kernel
theorem t_ns : ¬ ("number" : Str) = "seed" := by decide +kernel
theorem t_ls : ¬ ("left" : Str) = "seed" := by decide +kernel
theorem t_ln : ¬ ("left" : Str) = "number" := by decide +kernel
theorem kne {a b : Str} (h : ¬ a = b) : ¬ (Sum.inr a : Key) = Sum.inr b := fun e => h (Sum.inr.inj e)
theorem dkv_seed {s n : Int} {l : Addr} : valV (dkv s n l) (.inr "seed") = some (.int s) := valV_pos rfl
theorem dkv_number {s n : Int} {l : Addr} : valV (dkv s n l) (.inr "number") = some (.int n) := (valV_neg (kne t_sn)).trans (valV_pos rfl)
theorem dkv_left {s n : Int} {l : Addr} : valV (dkv s n l) (.inr "left") = some (.ref l) := (valV_neg (kne t_sl)).trans ((valV_neg (kne t_nl)).trans (valV_pos rfl))
theorem dkv_putN {s n m : Int} {l : Addr} : putK (dkv s n l) (.inr "number") (.int m) = dkv s m l := by
  unfold putK dkv
  simp [t_sn, t_ln]
theorem dkv_putS {s n m : Int} {l : Addr} : putK (dkv s n l) (.inr "seed") (.int m) = dkv m n l := by
  unfold putK dkv
  simp [t_ns, t_ls]
theorem dkv_merge {s n : Int} {l : Addr} : mergeK [] [(.inr "seed", .int s), (.inr "number", .int n), (.inr "left", .ref l)] = dkv s n l := by
  unfold mergeK dkv
  simp [putK, t_sn, t_sl, t_nl, t_ns, t_ls, t_ln]
/-- the deal stands at d, its list of great numbers at l -/
structure DealC (d l : Addr) (s n : Int) (left : List Int) (H : Hp) : Prop where
  hd : H d = some (.dK (dkv s n l))
  hl : H l = some (.lst (left.map V.int))
  s0 : 0 ≤ s
  s1 : s < 2147483647
  n0 : 0 ≤ n
  l0 : ∀ m ∈ left, 0 ≤ m
  l1 : left.length ≤ 63
theorem DealC.ne {d l : Addr} {s n : Int} {left : List Int} {H : Hp} (C : DealC d l s n left H) : d ≠ l := ne_of C.hd C.hl (by intro z; cases z)
theorem DealC.number {d l : Addr} {s n : Int} {left : List Int} {H : Hp} (C : DealC d l s n left H) : DGet H d (.str "number") (some (.int n)) := by
  have g := DGet.k (k := Sum.inr "number") C.hd
  rw [dkv_number] at g
  exact g
theorem DealC.left {d l : Addr} {s n : Int} {left : List Int} {H : Hp} (C : DealC d l s n left H) : DGet H d (.str "left") (some (.ref l)) := by
  have g := DGet.k (k := Sum.inr "left") C.hd
  rw [dkv_left] at g
  exact g
theorem DealC.seed {d l : Addr} {s n : Int} {left : List Int} {H : Hp} (C : DealC d l s n left H) : DGet H d (.str "seed") (some (.int s)) := by
  have g := DGet.k (k := Sum.inr "seed") C.hd
  rw [dkv_seed] at g
  exact g
theorem DealC.putN {d l : Addr} {s n m : Int} {left : List Int} {H : Hp} (C : DealC d l s n left H) : DPut H d (.str "number") (.int m) (upd H d (.dK (dkv s m l))) := by
  have g := DPut.k (k := Sum.inr "number") (v := .int m) C.hd (show 3 < sizeLine by decide)
  rw [dkv_putN] at g
  exact g
theorem DealC.putS {d l : Addr} {s n m : Int} {left : List Int} {H : Hp} (C : DealC d l s n left H) : DPut H d (.str "seed") (.int m) (upd H d (.dK (dkv m n l))) := by
  have g := DPut.k (k := Sum.inr "seed") (v := .int m) C.hd (show 3 < sizeLine by decide)
  rw [dkv_putS] at g
  exact g
theorem DealC.withN {d l : Addr} {s n m : Int} {left : List Int} {H : Hp} (C : DealC d l s n left H) (hm : 0 ≤ m) : DealC d l s m left (upd H d (.dK (dkv s m l))) :=
  ⟨upd_same, by rw [upd_ne C.ne.symm]; exact C.hl, C.s0, C.s1, hm, C.l0, C.l1⟩
theorem DealC.withS {d l : Addr} {s n m : Int} {left : List Int} {H : Hp} (C : DealC d l s n left H) (h0 : 0 ≤ m) (h1 : m < 2147483647) : DealC d l m n left (upd H d (.dK (dkv m n l))) :=
  ⟨upd_same, by rw [upd_ne C.ne.symm]; exact C.hl, h0, h1, C.n0, C.l0, C.l1⟩
theorem DealC.popped {d l : Addr} {s n : Int} {left : List Int} {H : Hp} (C : DealC d l s n left H) : DealC d l s n left.dropLast (upd H l (.lst (left.dropLast.map V.int))) :=
  ⟨by rw [upd_ne C.ne]; exact C.hd, upd_same, C.s0, C.s1, C.n0, fun m h => C.l0 m (List.dropLast_subset _ h), by rw [List.length_dropLast]; have := C.l1; omega⟩
def Deal (d l : Addr) (H : Hp) : Prop := ∃ s n left, DealC d l s n left H
/-- all but the deal is kept -/
def Keep (d l : Addr) (H H' : Hp) : Prop := ∀ a o, H a = some o → a ≠ d → a ≠ l → H' a = some o
theorem Keep.refl {d l : Addr} {H : Hp} : Keep d l H H := fun _ _ h _ _ => h
theorem Keep.trans {d l : Addr} {H H1 H2 : Hp} (a : Keep d l H H1) (b : Keep d l H1 H2) : Keep d l H H2 := fun x o h n1 n2 => b x o (a x o h n1 n2) n1 n2
theorem Keep.updD {d l : Addr} {H H1 : Hp} {o : HO} (a : Keep d l H H1) : Keep d l H (upd H1 d o) := fun x u h n1 n2 => by rw [upd_ne n1]; exact a x u h n1 n2
theorem Keep.updL {d l : Addr} {H H1 : Hp} {o : HO} (a : Keep d l H H1) : Keep d l H (upd H1 l o) := fun x u h n1 n2 => by rw [upd_ne n2]; exact a x u h n1 n2
theorem Keep.same {d l : Addr} {H H' : Hp} (h : Same H H') : Keep d l H H' := fun a o e _ _ => h a o e
theorem Keep.new {d l p : Addr} {H H1 : Hp} {o : HO} (a : Keep d l H H1) (hp : H1 p = none) : Keep d l H (upd H1 p o) := fun x u h n1 n2 => by
  rw [upd_ne (ne_of_none (a x u h n1 n2) hp)]
  exact a x u h n1 n2
theorem Deal.fresh {d l p : Addr} {H : Hp} (D : Deal d l H) (hp : H p = none) : p ≠ d ∧ p ≠ l := by
  obtain ⟨s, n, left, C⟩ := D
  exact ⟨(ne_of_none C.hd hp).symm, (ne_of_none C.hl hp).symm⟩
theorem Deal.new {d l p : Addr} {H : Hp} {o : HO} (D : Deal d l H) (hp : H p = none) : Deal d l (upd H p o) := by
  obtain ⟨s, n, left, C⟩ := D
  exact ⟨s, n, left, (same_new hp) _ _ C.hd, (same_new hp) _ _ C.hl, C.s0, C.s1, C.n0, C.l0, C.l1⟩
theorem Deal.same {d l : Addr} {H H' : Hp} (D : Deal d l H) (h : Same H H') : Deal d l H' := by
  obtain ⟨s, n, left, C⟩ := D
  exact ⟨s, n, left, h _ _ C.hd, h _ _ C.hl, C.s0, C.s1, C.n0, C.l0, C.l1⟩
theorem Deal.upd {d l p : Addr} {H : Hp} {o : HO} (D : Deal d l H) (h1 : p ≠ d) (h2 : p ≠ l) : Deal d l (L2.upd H p o) := by
  obtain ⟨s, n, left, C⟩ := D
  exact ⟨s, n, left, by rw [upd_ne h1.symm]; exact C.hd, by rw [upd_ne h2.symm]; exact C.hl, C.s0, C.s1, C.n0, C.l0, C.l1⟩
/-- what H does not know may change -/
theorem Keep.mut {d l p : Addr} {H H1 : Hp} {o : HO} (a : Keep d l H H1) (hp : H p = none) : Keep d l H (L2.upd H1 p o) := fun x u h n1 n2 => by
  rw [upd_ne (ne_of_none h hp)]
  exact a x u h n1 n2
theorem Keep.free {d l p : Addr} {H H1 : Hp} (a : Keep d l H H1) (h1 : p ≠ d) (h2 : p ≠ l) (hp : H1 p = none) : H p = none := by
  cases e : H p with
  | none => rfl
  | some o =>
    rw [a p o e h1 h2] at hp
    cases hp
/-- a tuple is kept by draws -/
theorem Keep.tup {d l a : Addr} {H H' : Hp} {xs : List V} (k : Keep d l H H') (D : Deal d l H) (h : H a = some (.tup xs)) : H' a = some (.tup xs) := by
  obtain ⟨s, n, left, C⟩ := D
  exact k _ _ h (ne_of h C.hd (by intro q; cases q)) (ne_of h C.hl (by intro q; cases q))
def spDraw : Sp := fun vs H Q _ => ∃ (d l : Addr) (many : Int), vs = [.ref d, .int many] ∧ Deal d l H ∧ 0 < many ∧ many ≤ 340282366920938463463374607431768211456 ∧
  ∀ (r : Int) (H' : Hp), 0 ≤ r → r < many → Deal d l H' → Keep d l H H' → Q (.int r) H'
end LB
set_option Elab.async false
set_option linter.all false
set_option maxRecDepth 100000
set_option maxHeartbeats 4000000
/-! LBmach: the machine that runs rows, in plain words -/
namespace LB
open PySem PySem.Spec PyProof.Rows L2
structure Mc where
  regs : List Int
  kv : List (Key × V)
  at_ : Nat
  rg : Nat
def nA (ns : List Int) (i : Nat) : Int := (ns[i]?).getD 0
def Mc.rv (s : Mc) (i : Int) : Int := (s.regs[i.toNat]?).getD 0
def slotV (kv : List (Key × V)) (k : Int) : Int := match valV kv (.inl k) with
  | some (.int i) => i
  | _ => 0
def fillV (fl : List Int) (i : Nat) : Int := (fl[i]?).getD 0
/-- what Runner.computed gives -/
def rowVal (m : Int) (fl : List Int) (s : Mc) (z : Str) (ns : List Int) : Int :=
  if z = "set" then nA ns 1 else
  if z = "copy" then s.rv (nA ns 1) else
  if z = "add" then s.rv (nA ns 1) + s.rv (nA ns 2) else
  if z = "sub" then s.rv (nA ns 1) - s.rv (nA ns 2) else
  if z = "mul" then s.rv (nA ns 1) * s.rv (nA ns 2) else
  if z = "left" then 2 * s.rv (nA ns 1) else
  if z = "load" then slotV s.kv (nA ns 1) else s.rv (nA ns 1) / 2 + fillV fl s.rg * (m / 2)
/-- one row is done -/
def stepM (m : Int) (fl : List Int) (s : Mc) (z : Str) (ns : List Int) : Mc :=
  if z = "store" then { s with kv := putK s.kv (.inl (nA ns 0)) (.int (s.rv (nA ns 1))), at_ := s.at_ + 1 } else
  if z = "skip" then { s with at_ := s.at_ + 1 + (if s.rv (nA ns 0) % nA ns 1 = nA ns 2 then (nA ns 3).toNat else 0) } else
  { s with regs := s.regs.set (nA ns 0).toNat (rowVal m fl s z ns % m), at_ := s.at_ + 1, rg := if z = "right" then s.rg + 1 else s.rg }
def nxt (m : Int) (fl : List Int) (rs : List (Str × List Int)) (s : Mc) : Mc := match rs[s.at_]? with
  | none => s
  | some r => stepM m fl s r.1 r.2
def runM (m : Int) (fl : List Int) (rs : List (Str × List Int)) : Nat → Mc → Mc
  | 0, s => s
  | n + 1, s => if s.at_ < rs.length then runM m fl rs n (nxt m fl rs s) else s
section
variable {m : Int} {fl : List Int} {rs : List (Str × List Int)}
theorem stepM_at (s : Mc) (z : Str) (ns : List Int) : s.at_ < (stepM m fl s z ns).at_ := by
  unfold stepM
  split
  · show s.at_ < s.at_ + 1
    omega
  · split
    · show s.at_ < s.at_ + 1 + _
      omega
    · show s.at_ < s.at_ + 1
      omega
theorem nxt_at {s : Mc} (h : s.at_ < rs.length) : s.at_ < (nxt m fl rs s).at_ := by
  unfold nxt
  rw [List.getElem?_eq_getElem h]
  exact stepM_at _ _ _
theorem runM_stop {n : Nat} {s : Mc} (h : ¬ s.at_ < rs.length) : runM m fl rs n s = s := by
  cases n with
  | zero => rfl
  | succ n =>
    unfold runM
    rw [if_neg h]
theorem runM_more : ∀ (n k : Nat) (s : Mc), rs.length ≤ s.at_ + n → rs.length ≤ s.at_ + k → runM m fl rs n s = runM m fl rs k s
  | 0, k, s, h, h' => by rw [runM_stop (by omega), runM_stop (by omega)]
  | n + 1, 0, s, h, h' => by rw [runM_stop (by omega), runM_stop (by omega)]
  | n + 1, k + 1, s, h, h' => by
    by_cases hl : s.at_ < rs.length
    · have := nxt_at (m := m) (fl := fl) hl
      unfold runM
      rw [if_pos hl, if_pos hl]
      exact runM_more n k _ (by omega) (by omega)
    · rw [runM_stop hl, runM_stop hl]
/-- where it ends -/
def finM (m : Int) (fl : List Int) (rs : List (Str × List Int)) (s : Mc) : Mc := runM m fl rs rs.length s
theorem finM_stop {s : Mc} (h : ¬ s.at_ < rs.length) : finM m fl rs s = s := runM_stop h
theorem finM_nxt {s : Mc} (h : s.at_ < rs.length) : finM m fl rs (nxt m fl rs s) = finM m fl rs s := by
  unfold finM
  have := nxt_at (m := m) (fl := fl) h
  rw [runM_more rs.length (rs.length + 1) s (by omega) (by omega)]
  show _ = if s.at_ < rs.length then runM m fl rs rs.length (nxt m fl rs s) else s
  rw [if_pos h]
end
/-! ### rows that a machine of R registers can run -/
def InR (R : Nat) (i : Int) : Prop := 0 ≤ i ∧ i < R
structure Fit (R : Nat) (z : Str) (ns : List Int) : Prop where
  sh : (z = "set" ∧ ∃ r n, ns = [r, n] ∧ InR R r) ∨ ((z = "copy" ∨ z = "left" ∨ z = "right") ∧ ∃ r a, ns = [r, a] ∧ InR R r ∧ InR R a) ∨
    ((z = "add" ∨ z = "sub" ∨ z = "mul") ∧ ∃ r a b, ns = [r, a, b] ∧ InR R r ∧ InR R a ∧ InR R b) ∨ (z = "load" ∧ ∃ r s, ns = [r, s] ∧ InR R r) ∨ (z = "store" ∧ ∃ s a, ns = [s, a] ∧ InR R a) ∨
    (z = "skip" ∧ ∃ a m c n, ns = [a, m, c, n] ∧ InR R a ∧ 0 < m ∧ 0 ≤ n)
section
variable {R : Nat} {z : Str} {ns : List Int}
theorem Fit.set (f : Fit R z ns) (h : z = "set") : ∃ r n, ns = [r, n] ∧ InR R r := by
  subst h
  rcases f.sh with ⟨_, q⟩ | ⟨e, _⟩ | ⟨e, _⟩ | ⟨e, _⟩ | ⟨e, _⟩ | ⟨e, _⟩
  · exact q
  · exact absurd e (by decide +kernel)
  · exact absurd e (by decide +kernel)
  · exact absurd e (by decide +kernel)
  · exact absurd e (by decide +kernel)
  · exact absurd e (by decide +kernel)
theorem Fit.two (f : Fit R z ns) (h : z = "copy" ∨ z = "left" ∨ z = "right") : ∃ r a, ns = [r, a] ∧ InR R r ∧ InR R a := by
  rcases f.sh with ⟨e, _⟩ | ⟨_, q⟩ | ⟨e, _⟩ | ⟨e, _⟩ | ⟨e, _⟩ | ⟨e, _⟩
  · subst e; exact absurd h (by decide +kernel)
  · exact q
  · rcases e with rfl | rfl | rfl <;> exact absurd h (by decide +kernel)
  · subst e; exact absurd h (by decide +kernel)
  · subst e; exact absurd h (by decide +kernel)
  · subst e; exact absurd h (by decide +kernel)
theorem Fit.three (f : Fit R z ns) (h : z = "add" ∨ z = "sub" ∨ z = "mul") : ∃ r a b, ns = [r, a, b] ∧ InR R r ∧ InR R a ∧ InR R b := by
  rcases f.sh with ⟨e, _⟩ | ⟨e, _⟩ | ⟨_, q⟩ | ⟨e, _⟩ | ⟨e, _⟩ | ⟨e, _⟩
  · subst e; exact absurd h (by decide +kernel)
  · rcases e with rfl | rfl | rfl <;> exact absurd h (by decide +kernel)
  · exact q
  · subst e; exact absurd h (by decide +kernel)
  · subst e; exact absurd h (by decide +kernel)
  · subst e; exact absurd h (by decide +kernel)
theorem Fit.load (f : Fit R z ns) (h : z = "load") : ∃ r s, ns = [r, s] ∧ InR R r := by
  subst h
  rcases f.sh with ⟨e, _⟩ | ⟨e, _⟩ | ⟨e, _⟩ | ⟨_, q⟩ | ⟨e, _⟩ | ⟨e, _⟩
  · exact absurd e (by decide +kernel)
  · exact absurd e (by decide +kernel)
  · exact absurd e (by decide +kernel)
  · exact q
  · exact absurd e (by decide +kernel)
  · exact absurd e (by decide +kernel)
theorem Fit.store (f : Fit R z ns) (h : z = "store") : ∃ s a, ns = [s, a] ∧ InR R a := by
  subst h
  rcases f.sh with ⟨e, _⟩ | ⟨e, _⟩ | ⟨e, _⟩ | ⟨e, _⟩ | ⟨_, q⟩ | ⟨e, _⟩
  · exact absurd e (by decide +kernel)
  · exact absurd e (by decide +kernel)
  · exact absurd e (by decide +kernel)
  · exact absurd e (by decide +kernel)
  · exact q
  · exact absurd e (by decide +kernel)
theorem Fit.skip (f : Fit R z ns) (h : z = "skip") : ∃ a m c n, ns = [a, m, c, n] ∧ InR R a ∧ 0 < m ∧ 0 ≤ n := by
  subst h
  rcases f.sh with ⟨e, _⟩ | ⟨e, _⟩ | ⟨e, _⟩ | ⟨e, _⟩ | ⟨e, _⟩ | ⟨_, q⟩
  · exact absurd e (by decide +kernel)
  · exact absurd e (by decide +kernel)
  · exact absurd e (by decide +kernel)
  · exact absurd e (by decide +kernel)
  · exact absurd e (by decide +kernel)
  · exact q
/-- what stays behind the named words -/
theorem Fit.rest (f : Fit R z ns) (h1 : ¬ z = "set") (h2 : ¬ z = "copy") (h3 : ¬ z = "add") (h4 : ¬ z = "sub") (h5 : ¬ z = "mul") (h6 : ¬ z = "left") (h7 : ¬ z = "load") (h8 : ¬ z = "store") (h9 : ¬ z = "skip") : z = "right" := by
  rcases f.sh with ⟨e, _⟩ | ⟨e, _⟩ | ⟨e, _⟩ | ⟨e, _⟩ | ⟨e, _⟩ | ⟨e, _⟩
  · exact absurd e h1
  · rcases e with e | e | e
    · exact absurd e h2
    · exact absurd e h6
    · exact e
  · rcases e with e | e | e
    · exact absurd e h3
    · exact absurd e h4
    · exact absurd e h5
  · exact absurd e h7
  · exact absurd e h8
  · exact absurd e h9
/-- the register that is set -/
theorem Fit.into (f : Fit R z ns) (h8 : ¬ z = "store") (h9 : ¬ z = "skip") : ∃ r a t, ns = r :: a :: t ∧ InR R r := by
  rcases f.sh with ⟨_, r, n, e, h⟩ | ⟨_, r, a, e, h, _⟩ | ⟨_, r, a, b, e, h, _⟩ | ⟨_, r, s, e, h⟩ | ⟨e, _⟩ | ⟨e, _⟩
  · exact ⟨r, n, _, e, h⟩
  · exact ⟨r, a, _, e, h⟩
  · exact ⟨r, a, _, e, h⟩
  · exact ⟨r, s, _, e, h⟩
  · exact absurd e h8
  · exact absurd e h9
end
/-! ### what stays true -/
structure Good (m : Int) (R : Nat) (s : Mc) : Prop where
  len : s.regs.length = R
  reg : ∀ r ∈ s.regs, 0 ≤ r ∧ r < m
  slot : ∀ k v, valV s.kv k = some v → ∃ i, v = .int i ∧ 0 ≤ i ∧ i < m
  few : s.kv.length ≤ s.at_
theorem Good.rv {m : Int} {R : Nat} {s : Mc} (g : Good m R s) {i : Int} (h : InR R i) : s.regs[i.toNat]? = some (s.rv i) ∧ 0 ≤ s.rv i ∧ s.rv i < m := by
  have hl : i.toNat < s.regs.length := by rw [g.len]; have := h.1; have := h.2; omega
  have e := List.getElem?_eq_getElem hl
  unfold Mc.rv
  rw [e]
  exact ⟨rfl, g.reg _ (List.getElem_mem hl)⟩
theorem Good.slotV {m : Int} {R : Nat} {s : Mc} (g : Good m R s) (hm : 0 < m) (k : Int) : 0 ≤ LB.slotV s.kv k ∧ LB.slotV s.kv k < m ∧ (valV s.kv (.inl k)).getD (.int 0) = .int (LB.slotV s.kv k) := by
  unfold LB.slotV
  cases e : valV s.kv (.inl k) with
  | none => exact ⟨Int.le_refl _, hm, rfl⟩
  | some v =>
    obtain ⟨i, rfl, h0, h1⟩ := g.slot _ _ e
    exact ⟨h0, h1, rfl⟩
theorem putK_len' {kv : List (Key × V)} {k : Key} {v : V} : (putK kv k v).length ≤ kv.length + 1 := by
  cases e : valV kv k with
  | none =>
    rw [putK_new v e]
    simp
  | some u =>
    unfold putK
    split
    · rw [List.length_map]
      omega
    · simp
theorem Good.step {m : Int} {R : Nat} {fl : List Int} {s : Mc} {z : Str} {ns : List Int} (g : Good m R s) (hm : 0 < m) (f : Fit R z ns) : Good m R (stepM m fl s z ns) := by
  unfold stepM
  split
  · rename_i h
    obtain ⟨s0, a, rfl, ha⟩ := f.store h
    refine ⟨g.len, g.reg, fun k v hv => ?_, ?_⟩
    · show ∃ i, v = V.int i ∧ 0 ≤ i ∧ i < m
      have hv' : valV (putK s.kv (.inl (nA [s0, a] 0)) (.int (s.rv (nA [s0, a] 1)))) k = some v := hv
      rw [valV_put] at hv'
      split at hv'
      · have e : V.int (s.rv (nA [s0, a] 1)) = v := Option.some.inj hv'
        exact ⟨_, e.symm, (g.rv ha).2⟩
      · exact g.slot k v hv'
    · show (putK _ _ _).length ≤ s.at_ + 1
      have := putK_len' (kv := s.kv) (k := .inl (nA [s0, a] 0)) (v := .int (s.rv (nA [s0, a] 1)))
      have := g.few
      omega
  · split
    · exact ⟨g.len, g.reg, g.slot, by show s.kv.length ≤ s.at_ + 1 + _; have := g.few; omega⟩
    · refine ⟨by show (s.regs.set _ _).length = R; rw [List.length_set]; exact g.len, fun r hr => ?_, g.slot, by show s.kv.length ≤ s.at_ + 1; have := g.few; omega⟩
      rcases List.mem_or_eq_of_mem_set hr with q | q
      · exact g.reg r q
      · rw [q]
        exact ⟨Int.emod_nonneg _ (by omega), Int.emod_lt_of_pos _ hm⟩
end LB
set_option Elab.async false
set_option linter.all false
set_option maxRecDepth 100000
set_option maxHeartbeats 4000000
namespace LB
open PySem PySem.Spec PyProof.Rows L2
/-! ### own classes: methods, ==, !=, len -/
structure MethOk (P : Program) (w : World) (K : PySem.W.Frag) (mg : Str → Option Value) (base : Heap) (k : Nat) (C : Addr) (m : Str) (ps : List Str) (sp : Sp) : Prop where
  ex : ∃ (f : Addr) (fd : FuncData), FnOk P w K mg base CX0 k f fd ps sp ∧ PySem.W.findIn K (.ref C) m = some (some (.ref f)) ∧ PySem.W.isFn K (.ref f) = true ∧ PySem.W.keepIn K (.ref f) = true ∧ Binds K fd ps []
structure TopMeth (K : PySem.W.Frag) (C : Addr) (m qual : Str) (st : Stmt) (ps : List Str) : Prop where
  ex : ∃ (f : Addr) (fd : FuncData), Fun K m qual st f fd ∧ PySem.W.findIn K (.ref C) m = some (some (.ref f)) ∧ PySem.W.isFn K (.ref f) = true ∧ Binds K fd ps []
section
variable {P : Program} {w : World} {K : PySem.W.Frag} {mg : Str → Option Value} {base : Heap}
theorem TopMeth.ok {C : Addr} {m qual : Str} {st : Stmt} {N ps : List Str} {k : Nat} {sp : Sp} (F : TopMeth K C m qual st ps) (S : FnScope N ps (defScope st)) (len : ∀ vs H Q E, sp vs H Q E → vs.length = ps.length)
    (hbody : ∀ (f : Addr) (cdv : Value) (A : Around) (outer : List Env) (s : Shared) (H : Hp) (vs : List V) (Q : VK) (E : XK), Room k (A.deeper (envOfC qual (defScope st) s.heap.objs.size f cdv)) → sp vs H Q E →
      ∃ t, PSs (cxOf CX0 P w K mg base N qual (defScope st) f cdv A outer s H E).nox (defBody st) t ∧ t { nx := fun _ H' => Q .non H', rt := Q } (start N vs) H) : MethOk P w K mg base (k + 1) C m ps sp := by
  obtain ⟨f, fd, F, hm, hi, b⟩ := F.ex
  exact ⟨f, fd, F.ok S len (hbody f), hm, hi, F.kp, b⟩
theorem topMeth_mk {C : Addr} {m qual : Str} {st : Stmt} {ps : List Str} {f : Addr} {oc : Value} {od an : Option Addr} {osl : Array (Option Value)} {kV doc pm cdv ct : Value}
    (hb : ∀ (kV doc pm : Value) (an : Option Addr) (cdv ct : Value) (us : List Value), us.length = ps.length → bindArgs (PySem.W.fnOf m qual (defArgs st) (defBody st) (defScope st) .none kV doc pm an cdv ct) ⟨us, []⟩ = pure (ps.zip us))
    (a : PySem.W.findIn K (.ref C) m = some (some (.ref f))) (i : PySem.W.isFn K (.ref f) = true) (l : K.lookup f = some ⟨oc, od, .func (PySem.W.fnOf m qual (defArgs st) (defBody st) (defScope st) .none kV doc pm an cdv ct), osl⟩)
    (c : PySem.W.codeIn K cdv qual = true) (k : PySem.W.keepIn K (.ref f) = true) : TopMeth K C m qual st ps :=
  have F := fun_mk (st := st) l c k
  ⟨f, _, F, a, i, F.binds hb⟩
end
/-- a class of one's own at C, by the name x -/
structure OwnCls (K : PySem.W.Frag) (mg : Str → Option Value) (x : Str) (C : Addr) : Prop where
  g : mg x = some (.ref C)
  cl : Cls K C
  makes : PySem.W.makesIn K C = true
  kp : PySem.W.keepIn K (.ref C) = true
section
variable {X : Cx} {k : Nat} {x m : Str} {ps : List Str} {sp : Sp} {o e : Expr} {es : List Expr} {ta : TE} {t : TA} {p pos apos : Pos} {C : Addr}
theorem pe_mk (c : OwnCls X.K X.mg x C) (D : MethOk X.prog X.w X.K X.mg X.base k C "__init__" ps sp) (hr : Room (k + 1) X.A) (hg : Gl X x) (ha : PA X (e :: es) t) (hdb : (x == ("__debug__" : Str)) = false := by decide)
    (he : starEach (e :: es) X.env = (false, eval e X.env) :: starEach es X.env := by rfl) (hpl : (backTo pos (starEach es X.env)).any (·.1) = false := by rfl) :
    PE X (.Call (.Name x p) (e :: es) [] pos) (tMake C sp [] E0 t) := by
  obtain ⟨f, fd, F, hm, hi, hk, hb⟩ := D.ex
  exact pe_make ⟨c.makes, hm, hi, c.kp⟩ F hr hg c.g hb .nil pass0 ha hdb he hpl
theorem pe_mk0 (c : OwnCls X.K X.mg x C) (D : MethOk X.prog X.w X.K X.mg X.base k C "__init__" ps sp) (hr : Room (k + 1) X.A) (hg : Gl X x) (hdb : (x == ("__debug__" : Str)) = false := by decide) :
    PE X (.Call (.Name x p) [] [] pos) (tMake C sp [] E0 tNil) := by
  obtain ⟨f, fd, F, hm, hi, hk, hb⟩ := D.ex
  exact pe_make0 ⟨c.makes, hm, hi, c.kp⟩ F hr hg c.g hb .nil pass0 hdb
theorem pe_mth {pl : Sem Bool} (c : Cls X.K C) (D : MethOk X.prog X.w X.K X.mg X.base k C m ps sp) (hr : Room k X.A) (he : PE X o ta) (ha : PA X (e :: es) t)
    (hst : starEach (e :: es) X.env = (false, eval e X.env) :: starEach es X.env := by rfl) (hpl : (backTo pos (starEach es X.env)).any (·.1) = false := by rfl)
    (ht : eval (.Call (.Attribute o m apos) (e :: es) [] pos) X.env = (do
      let ov ← eval o X.env
      standAt apos.atName
      let (f, first) ← holding [ov] (getMethod ov m pl)
      callWith pos f first (backTo pos (starEach (e :: es) X.env)) (backToKw pos (keywordEach [] X.env))) := by rfl) :
    PE X (.Call (.Attribute o m apos) (e :: es) [] pos) (tMeth C m sp [] E0 ta t) := by
  obtain ⟨f, fd, F, hm, hi, hk, hb⟩ := D.ex
  exact pe_meth he c ⟨hm, hi, hk⟩ F hr hb .nil pass0 ha hst hpl ht
theorem pe_mth0 {pl : Sem Bool} (c : Cls X.K C) (D : MethOk X.prog X.w X.K X.mg X.base k C m ps sp) (hr : Room k X.A) (he : PE X o ta)
    (ht : eval (.Call (.Attribute o m apos) [] [] pos) X.env = (do
      let ov ← eval o X.env
      standAt apos.atName
      let (f, first) ← holding [ov] (getMethod ov m pl)
      callWith pos f first (backTo pos (starEach [] X.env)) (backToKw pos (keywordEach [] X.env))) := by rfl) :
    PE X (.Call (.Attribute o m apos) [] [] pos) (tMeth C m sp [] E0 ta tNil) := by
  obtain ⟨f, fd, F, hm, hi, hk, hb⟩ := D.ex
  exact pe_meth0 he c ⟨hm, hi, hk⟩ F hr hb .nil pass0 ht
/-- a def is run somewhere below the running body -/
theorem run_sub {A : Around} {f : Addr} {fd : FuncData} {pins : List (Addr × Obj)} {σ : L2.St} {H : Hp} {s : Shared} {Q : VK} {us : List Value} {vs : List V} (F : FnOk X.prog X.w X.K X.mg X.base CX0 k f fd ps sp) (sb : Sub X k A) (hb : Binds X.K fd ps [])
    (I : Inv X pins σ H s) (r : Vals vs us) (h : sp vs H Q E0) : wpAny (model X.prog X.w) A (call (.ref f) us) (EP X pins σ Q) X.xe s := by
  have e0 : Env0 X.prog X.w X.K X.mg X.base A X.stack s H := by
    have e := I.env0
    exact ⟨by rw [sb.fr]; exact e.frames, e.mod, e.bs, e.bsz, e.funs, e.frf, e.hok, e.bare⟩
  have hl := F.len _ _ _ _ h
  refine wpAny_call (codeAny_mono (F.run A X.stack s H ⟨us, []⟩ us vs Q E0 sb.room e0 (by
    have := hb s us I.kIn (by rw [List.append_nil, ← r.length]; exact hl)
    simpa using this) r h) fun r s' hq => ?_)
  cases r with
  | error e => exact False.elim hq
  | ok fl =>
    cases fl with
    | ret u => exact I.after hq
    | next => exact False.elim hq
    | brk => exact False.elim hq
    | cont => exact False.elim hq
/-- len(o) by an own __len__ -/
def rLenC (C : Addr) (sp : Sp) : List V → Hp → VK → Prop := fun xs H Q => ∃ a dx fs, xs = [.ref a] ∧ H a = some (.ins C dx fs) ∧ sp [.ref a] H (fun v H' => ∃ n : Int, v = .int n ∧ 0 ≤ n ∧ n < 2 ^ 63 ∧ Q (.int n) H') E0
theorem call_lenC (D : MethOk X.prog X.w X.K X.mg X.base k C "__len__" ps sp) (hr : Room (k + 1) X.A) : CallR X (.builtin "len") (rLenC C sp) := by
  intro pins s σ H xs us Q I r h
  obtain ⟨f, fd, F, hm, hi, hk, hb⟩ := D.ex
  obtain ⟨a, dx, fs, rfl, ha, q⟩ := h
  obtain ⟨u, rfl, ru⟩ := vals1 r
  cases ru
  obtain ⟨mA, J, _⟩ := ins_get I.hok ha
  obtain ⟨od, J, _⟩ := J.look
  obtain ⟨m', hF⟩ := I.fr
  refine PySem.W.len_K hF I.ok.mod.kin J hm hi ?_
  refine wpAny_mono (run_sub (vs := [V.ref a]) F ⟨hr.in1, rfl⟩ hb I (.cons rfl .nil) q) (fun v s' z => ?_) fun _ _ z => z
  obtain ⟨x, H', I', rx, n, ex, h0, h1, q⟩ := z
  subst ex
  obtain ⟨t, rfl⟩ := rx
  exact ⟨⟨h0, h1⟩, .int n, H', I'.tok _, ⟨_, rfl⟩, q⟩
/-- x == y by an own __eq__ -/
def rEqC (C : Addr) (sp : Sp) : R2 := fun x y H Q => ∃ a b dx dy fs gs, x = .ref a ∧ y = .ref b ∧ H a = some (.ins C dx fs) ∧ H b = some (.ins C dy gs) ∧ sp [.ref a, .ref b] H (fun v H' => ∃ r, v = .bl r ∧ Q (.bl r) H') E0
theorem op_eqC (D : MethOk X.prog X.w X.K X.mg X.base k C "__eq__" ps sp) (hr : Room k X.A) : OpR X (compareOp .Eq) (rEqC C sp) := by
  intro pins s σ H x y v u Q I rx ry h
  obtain ⟨f, fd, F, hm, hi, hk, hb⟩ := D.ex
  obtain ⟨a, b, dx, dy, fs, gs, rfl, rfl, ha, hb', q⟩ := h
  cases rx
  cases ry
  obtain ⟨mA, J, _⟩ := ins_get I.hok ha
  obtain ⟨mB, J', _⟩ := ins_get I.hok hb'
  obtain ⟨od, J, _⟩ := J.look
  obtain ⟨od', J', _⟩ := J'.look
  obtain ⟨m', hF⟩ := I.fr
  show wpAny (model X.prog X.w) X.A (richCompare .Eq (.ref a) (.ref b)) _ _ _
  refine PySem.W.cmp_K (op := .Eq) (tb := .ref C) hr.units0 hF I.ok.mod.kin J J'.type (by simp [PySem.W.notFirst]) hm hi ?_
  refine wpAny_mono (run_sub (vs := [V.ref a, V.ref b]) F ⟨hr, rfl⟩ hb I (.cons rfl (.cons rfl .nil)) q) (fun v s' z => ?_) fun _ _ z => z
  obtain ⟨x, H', I', rx, r, ex, q⟩ := z
  subst ex
  cases rx
  exact ⟨.bl r, H', I', rfl, q⟩
end
/-- what != by an own __eq__ wants of the class -/
structure NeCls (K : PySem.W.Frag) (C : Addr) : Prop where
  ex : ∃ (nm q : Str) (N : Addr) (bs : List Value) (hdct : Bool) (sn : List Str) (sub : List Value) (ab : Bool) (col : Option Bool) (dd : Option Addr) (k0 k1 k2 k3 k5 : Option Value) (newId : String) (f : Addr) (of : Obj),
    K.lookup C = some (excClassObj nm q C N bs [.type "object"] hdct sn sub ab col dd k0 k1 k2 k3 k5 newId) ∧ PySem.W.nsOkIn K N = true ∧ PySem.W.nsIn K N "__eq__" = some (some (.ref f)) ∧ PySem.W.nsIn K N "__ne__" = some none ∧
    PySem.W.findIn K (.ref C) "__eq__" = some (some (.ref f)) ∧ K.lookup f = some of ∧ of.cls = .type "function"
theorem ns_some_of {K : PySem.W.Frag} {h : Heap} {N : Addr} {mg : Str → Option Value} {n : Str} {v : Value} (X : K.In h) (G : h.Ns N mg) (e : PySem.W.nsIn K N n = some (some v)) : mg n = some v := by
  obtain ⟨o, es, ep, ho, hd, _, hf⟩ := G
  unfold PySem.W.nsIn at e
  split at e
  · rename_i c d es' n' sl q
    have := X _ _ q
    rw [ho] at this
    cases this
    cases hd
    split at e
    · rename_i en he
      cases e
      rw [← hf]
      unfold nsFind findBy
      rw [← Array.find?_toList, he]
      rfl
    · split at e <;> cases e
  · cases e
section
variable {X : Cx} {k : Nat} {ps : List Str} {sp : Sp} {C : Addr}
def rNeC (C : Addr) (sp : Sp) : R2 := fun x y H Q => ∃ a b dx dy fs gs, x = .ref a ∧ y = .ref b ∧ H a = some (.ins C dx fs) ∧ H b = some (.ins C dy gs) ∧ sp [.ref a, .ref b] H (fun v H' => ∃ r, v = .bl r ∧ Q (.bl (!r)) H') E0
theorem op_neC (T : NeCls X.K C) (D : MethOk X.prog X.w X.K X.mg X.base k C "__eq__" ps sp) (hr : Room (k + 1) X.A) : OpR X (compareOp .NotEq) (rNeC C sp) := by
  intro pins s σ H x y v u Q I rx ry h
  obtain ⟨f, fd, F, hm, hi, hk, hb⟩ := D.ex
  obtain ⟨a, b, dx, dy, fs, gs, rfl, rfl, ha, hb', q⟩ := h
  cases rx
  cases ry
  obtain ⟨nm, qn, N, bs, hdct, sn, sub, ab, col, dd, k0, k1, k2, k3, k5, newId, f', of, lC, nk, ne, nn, fe, lf, cf⟩ := T.ex
  rw [hm] at fe
  cases fe
  obtain ⟨mA, J, _⟩ := ins_get I.hok ha
  obtain ⟨mB, J', _⟩ := ins_get I.hok hb'
  have KX := I.kIn
  have hns : s.heap.Ns N (s.heap.nsMap N) := .of_isNs (PySem.W.isNs_of_in KX nk)
  obtain ⟨hp, g, d, t, os⟩ := s
  have OE : Heap.OwnEqNoNe hp a C f "object" [.type "object"] := ⟨_, of, nm, qn, N, bs, hdct, sn, sub, ab, col, dd, k0, k1, k2, k3, k5, newId, _, _, J.obj, rfl, KX _ _ lC, hns, ns_some_of KX hns ne, KX _ _ lf, cf, PySem.F.cmp_object.mro, PySem.F.cmp_object.eq.lookup, PySem.W.ns_none_of KX hns nn⟩
  refine compareOp_ne_ownEq PySem.F.cmp_object OE J'.obj rfl (by have := hr.units; omega) ?_
  refine wpAny_mono (run_sub (vs := [V.ref a, V.ref b]) F ⟨hr.in1, rfl⟩ hb I (.cons rfl (.cons rfl .nil)) q) (fun v s' z => ?_) fun _ _ z => z
  obtain ⟨x, H', I', rx, r, ex, q⟩ := z
  subst ex
  cases rx
  exact ⟨r, rfl, .bl (!r), H', I', rfl, q⟩
end
end LB
set_option Elab.async false
set_option linter.all false
set_option maxRecDepth 100000
set_option maxHeartbeats 4000000
namespace LB
open PySem PySem.Spec PyProof.Rows L2
/-! ### defs that raise -/
/-- the def x keeps the promise sp, exceptions and all; dvs its defaults that fill up -/
structure DefX (P : Program) (w : World) (K : PySem.W.Frag) (mg : Str → Option Value) (base : Heap) (k : Nat) (x : Str) (ps : List Str) (dvs : List V) (sp : Sp) : Prop where
  ex : ∃ (f : Addr) (fd : FuncData) (ds : List Value), FnOk P w K mg base (L2.CX P w) k f fd ps sp ∧ mg x = some (.ref f) ∧ PySem.W.keepIn K (.ref f) = true ∧ Binds K fd ps ds ∧ Vals dvs ds
section
variable {P : Program} {w : World} {K : PySem.W.Frag} {mg : Str → Option Value} {base : Heap}
theorem TopFn.okX {x : Str} {st : Stmt} {N ps : List Str} {k : Nat} {sp : Sp} (F : TopFn K mg x st ps) (S : FnScope N ps (defScope st)) (len : ∀ vs H Q E, sp vs H Q E → vs.length = ps.length)
    (hbody : ∀ (f : Addr) (cdv : Value) (A : Around) (outer : List Env) (s : Shared) (H : Hp) (vs : List V) (Q : VK) (E : XK), Room k (A.deeper (envOfC x (defScope st) s.heap.objs.size f cdv)) → sp vs H Q E →
      ∃ t, PSs (cxOf (L2.CX P w) P w K mg base N x (defScope st) f cdv A outer s H E) (defBody st) t ∧ t { nx := fun _ H' => Q .non H', rt := Q } (start N vs) H) : DefX P w K mg base (k + 1) x ps [] sp := by
  obtain ⟨f, fd, F, hm, b⟩ := F.ex
  exact ⟨f, fd, [], F.okX S len (hbody f), hm, F.kp, b, .nil⟩
/-- a def with defaults dvs; every argument may be written, or all but those -/
structure TopFnD (K : PySem.W.Frag) (mg : Str → Option Value) (x : Str) (st : Stmt) (ps : List Str) (dvs : List V) : Prop where
  ex : ∃ (f : Addr) (fd : FuncData) (ds : List Value), FunD K x x (defArgs st) (defBody st) (defScope st) dvs [] f fd ∧ mg x = some (.ref f) ∧ Binds K fd ps [] ∧ Binds K fd ps ds ∧ Vals dvs ds
theorem TopFnD.okX {x : Str} {st : Stmt} {N ps : List Str} {dvs : List V} {k : Nat} {sp : Sp} (F : TopFnD K mg x st ps dvs) (S : FnScope N ps (defScope st)) (len : ∀ vs H Q E, sp vs H Q E → vs.length = ps.length)
    (hbody : ∀ (f : Addr) (cdv : Value) (A : Around) (outer : List Env) (s : Shared) (H : Hp) (vs : List V) (Q : VK) (E : XK), Room k (A.deeper (envOfC x (defScope st) s.heap.objs.size f cdv)) → sp vs H Q E →
      ∃ t, PSs (cxOf (L2.CX P w) P w K mg base N x (defScope st) f cdv A outer s H E) (defBody st) t ∧ t { nx := fun _ H' => Q .non H', rt := Q } (start N vs) H) : DefX P w K mg base (k + 1) x ps [] sp ∧ DefX P w K mg base (k + 1) x ps dvs sp := by
  obtain ⟨f, fd, ds, F, hm, b0, b1, hv⟩ := F.ex
  exact ⟨⟨f, fd, [], F.ok S len (hbody f), hm, F.kp, b0, .nil⟩, ⟨f, fd, ds, F.ok S len (hbody f), hm, F.kp, b1, hv⟩⟩
end
section
variable {X : Cx} {k : Nat} {x : Str} {ps : List Str} {dvs : List V} {sp : Sp} {e : Expr} {es : List Expr} {t : TA} {p pos : Pos} {W : WX}
/-- such a def is called where its exceptions are taken -/
theorem pe_fnX (D : DefX X.prog X.w X.K X.mg X.base k x ps dvs sp) (tk : Takes X W) (hr : Room k X.A) (hg : Gl X x) (ha : PA X (e :: es) t) (hdb : (x == ("__debug__" : Str)) = false := by decide)
    (he : starEach (e :: es) X.env = (false, eval e X.env) :: starEach es X.env := by rfl) (hpl : (backTo pos (starEach es X.env)).any (·.1) = false := by rfl) :
    PE X (.Call (.Name x p) (e :: es) [] pos) (tCallSD sp dvs (WE W) t) := by
  obtain ⟨f, fd, ds, F, hm, hk, hb, hv⟩ := D.ex
  exact pe_callSD F hr hg hm hk hb hv (fun σ => passAt tk σ) ha hdb he hpl
/-- .. where it raises none -/
theorem pe_fnE (D : DefX X.prog X.w X.K X.mg X.base k x ps dvs sp) (hr : Room k X.A) (hg : Gl X x) (ha : PA X (e :: es) t) (hdb : (x == ("__debug__" : Str)) = false := by decide)
    (he : starEach (e :: es) X.env = (false, eval e X.env) :: starEach es X.env := by rfl) (hpl : (backTo pos (starEach es X.env)).any (·.1) = false := by rfl) :
    PE X (.Call (.Name x p) (e :: es) [] pos) (tCall sp dvs E0 t) := by
  obtain ⟨f, fd, ds, F, hm, hk, hb, hv⟩ := D.ex
  exact pe_call F hr hg hm hk hb hv passL ha hdb he hpl
end
/-! ### try: the body's and the suite's terms are given where the reading is answered -/
def tbE (X : Cx) (body : List Stmt) : WX → TS := fun W D σ H => ∀ (pn : List (Addr × Obj)) (xe : Value → Shared → Prop), Takes (X.tr pn xe) W → PassesOwn (model X.prog X.w) X.A X.env xe → ∃ t, PSs (X.tr pn xe) body t ∧ t D σ H
def tsE (X : Cx) (suite : List Stmt) : Addr → Value → Option Addr → TS := fun a cls d D σ H => ∀ (oe : Obj) (pn : List (Addr × Obj)), Zc cls d oe → (∃ vs, oe.data = .fields vs) → ∃ t, PSs (X.suite a ((a, oe) :: pn)) suite t ∧ t D σ H
theorem ps_tryE {X : Cx} {x n : Str} {c : Value} {i : Nat} {body suite : List Stmt} {b₀ : Stmt} {np pos pos' : Pos} {Wout : WX} (hs : X.stack = X.env :: X.outer) (hf : X.env.frame = some X.env.locals) (hN : X.N.Nodup) (hi : X.N[i]? = some n) (hln : X.env.kindOf n = some .local) (hc : Names X x c) (tk : Takes X Wout) :
    PS X (.Try body [.ExceptHandler (some (.Name x np)) (some n) (b₀ :: suite) pos'] [] [] pos) (fun D σ H => tbE X body (wAs X.K c i (tsE X (b₀ :: suite)) Wout D) D σ H) := by
  refine ps_try_as (tb := tbE X body) (ts := tsE X (b₀ :: suite)) hs hf hN hi hln hc tk (fun W pn xe tk' po => ⟨fun pins s σ H D I h => ?_⟩) (fun a oe cls d pn hz hd => ⟨fun pins s σ H D I h => ?_⟩)
  · obtain ⟨t, ht, q⟩ := h pn xe tk' po
    exact ht.run pins s σ H D I q
  · obtain ⟨t, ht, q⟩ := h oe pn hz hd
    exact ht.run pins s σ H D I q
/-! ### LowError and what is over it -/
structure LowTxt (K : PySem.W.Frag) (mg : Str → Option Value) (L : Addr) : Prop where
  g : mg "LowError" = some (.ref L)
  sp : PySem.W.specialIn K (.ref L) "__getattribute__" = some (some (.builtin "type.__getattribute__"))
  ty : PySem.W.typeIn K (.ref L) = some (.type "type")
  rd : PySem.W.readsIn K L (.type "type") = true
  fi : PySem.W.findCls K (.ref L) (.type "type") "__init__" = some (.val (.builtin "ValueError.__init__"))
/-- LowError.__init__(self, ..) -/
theorem pe_loinit {X : Cx} {L : Addr} {e : Expr} {es : List Expr} {ta : TA} {p1 p2 pos : Pos} {pl : Sem Bool} (T : LowTxt X.K X.mg L) (hg : Gl X "LowError") (ha : PA X (e :: es) ta)
    (hc : eval (.Call (.Attribute (.Name "LowError" p1) "__init__" p2) (e :: es) [] pos) X.env = (do
      let ov ← eval (.Name "LowError" p1) X.env
      standAt p2.atName
      let (f, first) ← holding [ov] (getMethod ov "__init__" pl)
      callWith pos f first (backTo pos (starEach (e :: es) X.env)) (backToKw pos (keywordEach [] X.env))) := by rfl)
    (he : starEach (e :: es) X.env = (false, eval e X.env) :: starEach es X.env := by rfl) (hpl : (backTo pos (starEach es X.env)).any (·.1) = false := by rfl) :
    PE X (.Call (.Attribute (.Name "LowError" p1) "__init__" p2) (e :: es) [] pos) (tVeI X.K ta) := by
  refine ⟨fun pins s σ H Q I h => ?_⟩
  refine PySem.W.methodCall_KW (ld_glob I hg T.g ?_ (by decide)) hc
  obtain ⟨m, fr⟩ := I.fr
  refine PySem.W.method_of_cls fr I.ok.mod.kin T.sp (PySem.W.cls_val fr I.ok.mod.kin T.ty T.rd T.fi (by decide +kernel) ?_)
  show wpAny _ _ (callWith pos (Value.builtin "ValueError.__init__") [] (backTo pos (starEach (e :: es) X.env)) []) _ _ _
  refine PyProof.Rows.callWith_method1 (thn (ha.run pos pins _ σ H _ (I.tok _) h) fun us s1 ⟨vs, H1, I1, r1, a, C, ws, ev, hl, T, ea, q⟩ => ?_) he hpl
  subst ev
  cases r1 with
  | @cons _ u0 _ ur ra rw' =>
    obtain rfl : u0 = Value.ref a := ra
    have hlen : ur.length ≤ sizeLine := by
      rw [← Paired.length rw', sizeLine_eq]
      omega
    exact oinit_ok T I1 ea hlen fun s' J => ⟨.non, H1, J, rfl, q⟩
/-- an own exception's class at C, by the name x -/
structure ExcCls (K : PySem.W.Frag) (mg : Str → Option Value) (x : Str) (C : Addr) : Prop where
  g : mg x = some (.ref C)
  oex : OexC K C
  xf : XfC K C
  me : PySem.W.exmOne K (.ref C) (.ref C) = some true
/-- its __init__ with two fields -/
def spExc2 (K : PySem.W.Frag) (C : Addr) (f g : Str) : Sp := fun vs H Q _ => ∃ (a : Addr) (x y : V), vs = [.ref a, x, y] ∧ H a = some (exo a C none) ∧ ∀ dx, H dx = none → dx ≠ a → Q .non (upd (upd (upd H dx (exd dx [(f, x)])) a (exo a C (some dx))) dx (exd dx [(g, y), (f, x)]))
section
variable {X : Cx} {k : Nat} {x : Str} {ps : List Str} {sp : Sp} {e : Expr} {es : List Expr} {t : TA} {p pos pos' : Pos} {C : Addr} {W : WX}
theorem ps_raiseO (c : ExcCls X.K X.mg x C) (D : MethOk X.prog X.w X.K X.mg X.base k C "__init__" ps sp) (hc : X.calm = true) (tk : Takes X W) (hr : Room (k + 1) X.A) (hg : Gl X x) (ha : PA X (e :: es) t) (hdb : (x == ("__debug__" : Str)) = false := by decide)
    (he : starEach (e :: es) X.env = (false, eval e X.env) :: starEach es X.env := by rfl) (hpl : (backTo pos (starEach es X.env)).any (·.1) = false := by rfl) :
    PS X (.Raise (some (.Call (.Name x p) (e :: es) [] pos)) none pos') (fun _ σ H => tMkO C sp [] t σ H fun cls d H' => W cls d σ H') := by
  obtain ⟨f, fd, F, hm, hi, hk, hb⟩ := D.ex
  exact ps_raise hc tk (pmk_oex c.oex hm (by simpa [PySem.W.isFn] using hi) F hr hb .nil pass0 hg c.g ha hdb he hpl)
end
end LB
set_option Elab.async false
set_option linter.all false
set_option maxRecDepth 100000
set_option maxHeartbeats 4000000
namespace LB
open PySem PySem.Spec PyProof.Rows L2
/-! ### match over texts -/
structure PM (X : Cx) (cases : List MatchCase) (t : V → TS) : Prop where
  run : ∀ (pins : List (Addr × Obj)) (s : Shared) (σ : L2.St) (H : Hp) (D : Ends) (x : V) (u : Value) (first : Bool), Inv X pins σ H s → RelV x u → t x D σ H →
    wpAny (model X.prog X.w) X.A (matchCases cases X.env u first) (SP X pins D) X.xe s
def mStr (lit : Str) (tb : TS) (tr : V → TS) : V → TS := fun x D σ H => ∃ z, x = .str z ∧ if z = lit then tb D σ H else tr x D σ H
def mStr2 (lit lit2 : Str) (tb : TS) (tr : V → TS) : V → TS := fun x D σ H => ∃ z, x = .str z ∧ if z = lit ∨ z = lit2 then tb D σ H else tr x D σ H
section
variable {X : Cx} {body : List Stmt} {rest : List MatchCase} {tb : TS} {tr : V → TS} {p p2 p3 p4 p5 : Pos}
theorem match_lit {lit z : Str} {u : Value} {pins : List (Addr × Obj)} {s : Shared} {σ : L2.St} {H : Hp} {Q : Option (List (Str × Value)) → Shared → Prop} (I : Inv X pins σ H s) (r : RelV (.str z) u)
    (h : ∀ s', Inv X pins σ H s' → if z = lit then Q (some []) s' else Q none s') : wpAny (model X.prog X.w) X.A (matchPattern (.MatchValue (.Constant (.str lit) 0 p) p2) X.env u) Q X.xe s := by
  refine wpAny_matchPattern_Value ?_
  refine thn ((pe_str (X := X) (x := lit) (j := 0) (pos := p)).run pins s σ H (fun x H' => x = .str lit ∧ H' = H) I ⟨rfl, rfl⟩) fun v s1 ⟨x, H1, I1, rx, ex, eH⟩ => ?_
  subst ex
  subst eH
  refine thn (op_eq pins s1 σ H1 (.str z) (.str lit) u v (fun x H' => x = .bl (decide (V.str z = V.str lit)) ∧ H' = H1) I1 r rx ⟨rfl, rfl, rfl⟩) fun c s2 ⟨y, H2, I2, ry, ey, eH2⟩ => ?_
  subst ey
  subst eH2
  cases ry
  refine wpAny_truthy_bool ?_
  have q := h s2 I2
  by_cases e : z = lit
  · rw [if_pos e] at q
    rw [if_pos (decide_eq_true (by rw [e]))]
    exact q
  · rw [if_neg e] at q
    rw [if_neg (by rw [decide_eq_false (fun z' => e (V.str.inj z'))]; exact Bool.false_ne_true)]
    exact q
theorem pm_str {lit : Str} (hb : PSs X body tb) (hr : PM X rest tr) : PM X (⟨.MatchValue (.Constant (.str lit) 0 p) p2, none, body⟩ :: rest) (mStr lit tb tr) := by
  refine ⟨fun pins s σ H D x u first I r h => ?_⟩
  obtain ⟨z, rfl, h⟩ := h
  refine wpAny_matchCases_cons (match_lit I r fun s' I' => ?_)
  by_cases e : z = lit
  · rw [if_pos e] at h
    rw [if_pos e]
    exact wpAny_assignInOrder_none (hb.run pins s' σ H D I' h)
  · rw [if_neg e] at h
    rw [if_neg e]
    exact hr.run pins s' σ H D _ u false I' r h
theorem pm_any (hb : PSs X body tb) : PM X [⟨.MatchAs none none p, none, body⟩] (fun _ => tb) := by
  refine ⟨fun pins s σ H D x u first I r h => ?_⟩
  exact wpAny_matchCases_cons (wpAny_matchPattern_Capture (wpAny_assignInOrder_none (hb.run pins s σ H D I h)))
theorem pm_str2 {lit lit2 : Str} (hb : PSs X body tb) (hr : PM X rest tr) : PM X (⟨.MatchOr [.MatchValue (.Constant (.str lit) 0 p) p2, .MatchValue (.Constant (.str lit2) 0 p3) p4] p5, none, body⟩ :: rest) (mStr2 lit lit2 tb tr) := by
  refine ⟨fun pins s σ H D x u first I r h => ?_⟩
  obtain ⟨z, rfl, h⟩ := h
  refine wpAny_matchCases_cons (wpAny_matchPattern_Or (wpAny_matchFirst_cons (match_lit I r fun s' I' => ?_)))
  by_cases e : z = lit
  · rw [if_pos (.inl e)] at h
    rw [if_pos e]
    exact wpAny_assignInOrder_none (hb.run pins s' σ H D I' h)
  · rw [if_neg e]
    refine wpAny_matchFirst_cons (match_lit I' r fun s2 I2 => ?_)
    by_cases e2 : z = lit2
    · rw [if_pos (.inr e2)] at h
      rw [if_pos e2]
      exact wpAny_assignInOrder_none (hb.run pins s2 σ H D I2 h)
    · rw [if_neg (fun q => q.elim e e2)] at h
      rw [if_neg e2]
      exact wpAny_matchFirst_nil (hr.run pins s2 σ H D _ u false I2 r h)
def tMatch (ts : TE) (tm : V → TS) : TS := fun D σ H => ts σ H fun x H1 => tm x D σ H1
theorem ps_match {subject : Expr} {cases : List MatchCase} {ts : TE} {tm : V → TS} (hs : PE X subject ts) (hm : PM X cases tm) : PS X (.Match subject cases p) (tMatch ts tm) := by
  refine ⟨fun pins s σ H D I h => ?_⟩
  exact wpAny_Match (thn (hs.run pins s σ H _ I h) fun u s1 ⟨x, H1, I1, rx, q⟩ => hm.run pins s1 σ H1 D x u true I1 rx q)
end
end LB
set_option Elab.async false
set_option linter.all false
set_option maxRecDepth 100000
set_option maxHeartbeats 4000000
namespace PySem
open Sem (wp)
open AutoSeq1 (wpAny_loadPart')
theorem meets_enumerate_newT (l : Addr) (items : Array Value) :
    Meets (Builtin.«enumerate.__new__» ⟨[.type "enumerate", .ref l], []⟩) (fun _ R s => s.heap.IsTuple l items ∧
      R (.ok (.ret (.ref (s.heap.push { cls := .type "tuple_iterator", data := .fields #[.ref l, .int 0 0] }).objs.size)))
        { s with heap := (s.heap.push { cls := .type "tuple_iterator", data := .fields #[.ref l, .int 0 0] }).push { cls := .type "enumerate", data := .fields #[.none, .bool false, .ref s.heap.objs.size, rawInt 0, .none, .none] } }) :=
  .of_wp fun prog w A R s h => by
    obtain ⟨hp, g, d, tk, os⟩ := s; obtain ⟨hL, h⟩ := h
    have hsub := sub_enumerate
    wp_walk
    refine wpAny_stack_any fun st => wpAny_pure ?_
    split
    · rename_i c _ _ _ _ _
      cases (c == Value.type "enumerate")
      · wp_walk using wpAny_pyIter_tuple hL
        exact ⟨_, rfl, h⟩
      · wp_walk using wpAny_pyIter_tuple hL
        exact ⟨_, rfl, h⟩
    · wp_walk using wpAny_pyIter_tuple hL
      exact ⟨_, rfl, h⟩
section
variable {prog : Program} {w : World} {A : Around} {E : Value → Shared → Prop} {s : Shared}
theorem call_enumerate_tup {l : Addr} {items : Array Value} {Q : Value → Shared → Prop} (hL : s.heap.IsTuple l items)
    (h : ∀ h', IsEnum h' (s.heap.objs.size + 1) s.heap.objs.size 0 .none → h'.IsTupleIter s.heap.objs.size l 0 → h'.objs.size = s.heap.objs.size + 2 →
      (∀ b o, s.heap.get? b = some o → h'.get? b = some o) → Q (.ref (s.heap.objs.size + 1)) { s with heap := h' }) :
    wpAny (model prog w) A (call (.type "enumerate") [.ref l]) Q E s := by
  refine callType_new F.called_enumerate (by decide) (F.typeCall_enumerate_1 _) (F.newCall_enumerate_1 _) (fun obj => F.args_object_init_2 obj _) F.entry_enumerate_new
    (meets_enumerate_newT l items) ⟨hL, ?_⟩
  have hz : (s.heap.push { cls := .type "tuple_iterator", data := .fields #[.ref l, .int 0 0] }).objs.size = s.heap.objs.size + 1 := Heap.size_push ..
  show _ ∧ _
  rw [hz]
  have he : IsEnum ((s.heap.push { cls := .type "tuple_iterator", data := .fields #[.ref l, .int 0 0] }).push
      { cls := .type "enumerate", data := .fields #[.none, .bool false, .ref s.heap.objs.size, rawInt 0, .none, .none] }) (s.heap.objs.size + 1) s.heap.objs.size 0 .none := by
    have := Heap.get?_push_size (s.heap.push { cls := .type "tuple_iterator", data := .fields #[.ref l, .int 0 0] })
      (o := { cls := .type "enumerate", data := .fields #[.none, .bool false, .ref s.heap.objs.size, rawInt 0, .none, .none] }) rfl
    rw [hz] at this; exact this
  refine ⟨⟨_, he, rfl⟩, h _ he ⟨_, Heap.get?_push_of_some _ (Heap.get?_push_size _ rfl), rfl, rfl⟩ (by rw [Heap.size_push, hz]) fun b o x => Heap.get?_push_of_some _ (Heap.get?_push_of_some _ x)⟩
end
end PySem
namespace LB
open PySem PySem.Spec PyProof.Rows L2
/-! ### enumerate(tuple) -/
def IteT (K : PySem.W.Frag) (a : Addr) : It :=
  ⟨fun i H => ∃ (xs : List V) (x : V), SqT K H a xs ∧ xs[i]? = some x, fun i H v H' => ∃ T x, v = .ref T ∧ H T = none ∧ H' = upd H T (.tup [.int (i : Nat), x]) ∧ ∀ xs, SqT K H a xs → xs[i]? = some x, fun i H => ∃ xs : List V, SqT K H a xs ∧ xs.length = i⟩
theorem turn_enumT {P : Program} {w : World} {K : PySem.W.Frag} {elts : List Expr} {kk : Nat} {tpos : Pos} (a e it : Addr) (hai : a ≠ it) (hae : e ≠ a) :
    Turn P w K (.Tuple elts kk tpos) (IteT K a) [e, it] e (fun i h => (∃ old, IsEnum h e it ((i : Nat) : Int) old) ∧ h.IsTupleIter it a i ∧ e ≠ it) where
  mem := by simp
  obj := fun i h st b hb => by
    obtain ⟨⟨old, he⟩, ⟨o, ho, hc, hd⟩, _⟩ := st
    have e' : b = e ∨ b = it := by simpa using hb
    rcases e' with z | z
    · rw [z]; exact ⟨_, he, fun v q => nomatch q⟩
    · rw [z]; exact ⟨o, ho, fun v q => by rw [hd] at q; cases q⟩
  keep := fun i h h' st k => let ⟨⟨old, he⟩, hi, hne⟩ := st; ⟨⟨old, k e (by simp) _ he⟩, hi.at fun o q => k it (by simp) o q, hne⟩
  item := by
    intro X hP hw hK hc i pins s σ H E I hf st hg
    subst hP hw hK
    obtain ⟨⟨old, he⟩, hit, hne⟩ := st
    obtain ⟨xs, x, hq, hx⟩ := hg
    obtain ⟨its, rv, p, hz⟩ := I.tuple hq
    obtain ⟨u, hu, ru⟩ := rv.get hx
    have hel : e < s.heap.objs.size := Heap.lt_size he
    have hil : it < s.heap.objs.size := by obtain ⟨_, q, _⟩ := hit; exact Heap.lt_size q
    have hlt : i < its.toArray.size := by
      have := lt_of_get hx
      rw [List.size_toArray, ← rv.length]
      exact this
    refine wpAny_pyNext_enum_itemD (Draws.tuple (prog := X.prog) (w := X.w) (A := X.A.in1) (I.ok.hd hc) it a hai its.toArray) he ⟨hit, p⟩ hlt hne (by simp; exact ⟨hne, hae⟩) fun x' h' tk hP ho hst hT hsz hk => ?_
    have ex : x' = u := by
      have : its.toArray[i]? = some u := by simpa using hu
      rw [this] at hP
      exact (Option.some.inj hP).symm
    subst ex
    refine ⟨_, rfl, wpAny_letOwnedTupleGo_enum (s := { s with heap := h', toks := tk + 1 }) ho fun h'' he' sb => ?_⟩
    have hT2 : h''.get? s.heap.objs.size = some { cls := .type "tuple", data := .seq #[.int i tk, x'] } := (sb.2 _ (Nat.ne_of_gt hel)).trans hT
    have new : ObjOk X.prog X.w (upd H s.heap.objs.size (.tup [.int (i : Nat), x])) h'' s.heap.objs.size (.tup [.int (i : Nat), x]) :=
      ⟨by show 2 ≤ sizeLine; decide, [.int i tk, x'], .cons ⟨_, rfl⟩ (.cons ru .nil), ⟨_, hT2, rfl, _, rfl⟩⟩
    have I1 : Inv X pins σ (upd H s.heap.objs.size (.tup [.int (i : Nat), x])) { s with heap := h'', toks := tk + 1 } :=
      I.turnedNew (ch := [e, it]) (fun b ob hb q => (sb.2 b (fun z => hb (by simp [z]))).trans (hk b ob (fun z => hb (by simp [z])) (fun z => hb (by simp [z])) q)) hf (Nat.le_refl _) new
    refine ⟨.ref s.heap.objs.size, _, I1, rfl, ⟨_, x, rfl, I.hok.fresh (Nat.le_refl _), rfl, fun ys hy => by rw [I.tuple_inj hy hq]; exact hx⟩, ⟨⟨x', ?_⟩, hst.1.at fun o q => (sb.2 it (Ne.symm hne)).trans q, hne⟩, fun b hb => ?_⟩
    · have e1 : ((i + 1 : Nat) : Int) = (i : Int) + 1 := by omega
      rw [e1]; exact he'
    · have hb' : b < s.heap.objs.size := by
        have e' : b = e ∨ b = it := by simpa using hb
        rcases e' with z | z
        · rw [z]; exact hel
        · rw [z]; exact hil
      rw [upd_ne (Nat.ne_of_lt hb')]
      exact (hf b hb).1
  done := by
    intro X hP hw hK hc i pins s σ H E I hf st hg
    subst hP hw hK
    obtain ⟨⟨old, he⟩, hit, hne⟩ := st
    obtain ⟨xs, hq, hx⟩ := hg
    obtain ⟨its, rv, p, hz⟩ := I.tuple hq
    obtain ⟨f0, f1, f2, f3, f4, f5⟩ := hf it (by simp)
    have hl : its.toArray.size = i := by rw [List.size_toArray, ← rv.length]; exact hx
    have hit' : s.heap.IsTupleIter it a its.toArray.size := by rw [hl]; exact hit
    exact wpAny_pyNext_enum_endD (Draws.tuple (prog := X.prog) (w := X.w) (A := X.A.in1) (I.ok.hd hc) it a hai its.toArray) he ⟨hit', p⟩ fun h' eb => ⟨rfl, I.turned (t' := s.toks) (fun b o hb q => eb b o hb q) f0 f1 f3 f4 f5⟩
  self := fun A i s Q E st h => let ⟨⟨_, he⟩, _⟩ := st; wpAny_pyIter_enum he h
def iEnumA (K : PySem.W.Frag) (ta : TA) : TI := fun σ H R => ta σ H fun vs H1 => ∃ a xs, vs = [.ref a] ∧ ((SqL K H1 a xs ∧ R (Ite K a) H1) ∨ (SqT K H1 a xs ∧ R (IteT K a) H1))
theorem pi_enumA {X : Cx} {e : Expr} {ta : TA} {p pos tpos : Pos} {elts : List Expr} {kk : Nat} (hg : Gl X "enumerate") (hm : X.mg "enumerate" = none) (ha : PA X [e] ta) (hs : starEach [e] X.env = [(false, eval e X.env)] := by rfl) :
    PI X (.Tuple elts kk tpos) (.Call (.Name "enumerate" p) [e] [] pos) (iEnumA X.K ta) := by
  refine ⟨fun pins s σ H R I h => ?_⟩
  refine Call_ (ld_blt I hg hm boot_enumerate (PyProof.Rows.callWith_type1 (thn (ha.run pos pins s σ H _ I h) fun us s1 ⟨vs, H1, I1, r1, q1⟩ => ?_) hs rfl))
  obtain ⟨a, xs, ex, q1⟩ := q1
  subst ex
  cases r1 with
  | cons r rr =>
    cases rr
    cases r
    rcases q1 with ⟨hq, q⟩ | ⟨hq, q⟩
    · obtain ⟨its, rv, p', hz⟩ := I1.list hq
      refine call_enumerate_list p'.isList fun h' he hit hsz hk => wpAny_pyIter_enum he ?_
      have I2 : Inv X pins σ H1 { s1 with heap := h' } := I1.kept (t' := s1.toks) hk
      refine ⟨s1.heap.objs.size + 1, [s1.heap.objs.size + 1, s1.heap.objs.size], _, _, H1, rfl, I2, turn_enum a (s1.heap.objs.size + 1) s1.heap.objs.size, ⟨⟨.none, he⟩, hit, Nat.succ_ne_self _⟩, fun b hb => ?_, q⟩
      have e' : b = s1.heap.objs.size + 1 ∨ b = s1.heap.objs.size := by simpa using hb
      have hle : s1.heap.objs.size ≤ b := by
        rcases e' with z | z
        · rw [z]; exact Nat.le_add_right _ _
        · rw [z]; exact Nat.le_refl _
      exact I1.fpOk hle (I1.hok.fresh hle)
    · obtain ⟨its, rv, p', hz⟩ := I1.tuple hq
      have hal : a < s1.heap.objs.size := p'.lt
      refine call_enumerate_tup p' fun h' he hit hsz hk => wpAny_pyIter_enum he ?_
      have I2 : Inv X pins σ H1 { s1 with heap := h' } := I1.kept (t' := s1.toks) hk
      refine ⟨s1.heap.objs.size + 1, [s1.heap.objs.size + 1, s1.heap.objs.size], _, _, H1, rfl, I2, turn_enumT a (s1.heap.objs.size + 1) s1.heap.objs.size (Nat.ne_of_lt hal) (Nat.ne_of_gt (Nat.lt_succ_of_lt hal)), ⟨⟨.none, he⟩, hit, Nat.succ_ne_self _⟩, fun b hb => ?_, q⟩
      have e' : b = s1.heap.objs.size + 1 ∨ b = s1.heap.objs.size := by simpa using hb
      have hle : s1.heap.objs.size ≤ b := by
        rcases e' with z | z
        · rw [z]; exact Nat.le_add_right _ _
        · rw [z]; exact Nat.le_refl _
      exact I1.fpOk hle (I1.hok.fresh hle)
theorem walk_enumT {K : PySem.W.Frag} {a : Addr} {xs : List V} : Walk (IteT K a) xs.length (fun H => SqT K H a xs) (YPair (fun i => some (.int (i : Nat))) (fun i => xs[i]?)) := by
  refine ⟨fun i _ hi q => ⟨xs, xs[i], q, by simp [hi]⟩, fun _ q => ⟨xs, q, rfl⟩, fun i H v H' _ q y => ?_⟩
  obtain ⟨T, x, h1, h2, h3, h4⟩ := y
  exact ⟨T, .int (i : Nat), x, h1, h2, h3, rfl, h4 xs q⟩
end LB
set_option Elab.async false
set_option linter.all false
set_option maxRecDepth 100000
set_option maxHeartbeats 4000000
namespace LB
open PySem PySem.Spec PyProof.Rows L2
def spLaw (K : PySem.W.Frag) : Sp := fun vs H Q _ => ∃ (a : Addr) (ns : List Int), vs = [.ref a] ∧ SqL K H a (ns.map V.int) ∧ ns.length ≤ 63 ∧ ∀ H', Q (.bl true) H'
/-- the law's own def at the top -/
structure LawFn (K : PySem.W.Frag) (mg : Str → Option Value) (fa : Addr) (st : Stmt) : Prop where
  ex : ∃ (fd : FuncData), Fun K "law" "law" st fa fd ∧ ∀ (s : Shared) (v : Value), BindsTo s fd ⟨[v], []⟩ [("_law_script", v)]
theorem lawFn_mk {K : PySem.W.Frag} {mg : Str → Option Value} {h : Heap} {st : Stmt} {f fa : Addr} {oc : Value} {od an : Option Addr} {osl : Array (Option Value)} {kV doc pm cdv ct : Value} (X : K.In h) (G : h.Ns mainGlobals mg) (hfa : mg "law" = some (.ref fa))
    (hb : ∀ (kV doc pm : Value) (an : Option Addr) (cdv ct : Value) (v : Value), bindArgs (PySem.W.fnOf "law" "law" (defArgs st) (defBody st) (defScope st) .none kV doc pm an cdv ct) ⟨[v], []⟩ = pure [(("_law_script" : Str), v)])
    (a : PySem.W.nsIn K mainGlobals "law" = some (some (.ref f))) (l : K.lookup f = some ⟨oc, od, .func (PySem.W.fnOf "law" "law" (defArgs st) (defBody st) (defScope st) .none kV doc pm an cdv ct), osl⟩)
    (c : PySem.W.codeIn K cdv "law" = true) (k : PySem.W.keepIn K (.ref f) = true) : LawFn K mg fa st := by
  have e := hfa.symm.trans (PySem.W.mg_of X G a)
  cases e
  exact ⟨_, fun_mk (st := st) l c k, fun s v => .of_eq (hb _ _ _ _ _ _ v)⟩
theorem LawFn.ok {P : Program} {w : World} {K : PySem.W.Frag} {mg : Str → Option Value} {fa : Addr} {st : Stmt} {N : List Str} {k : Nat} (F : LawFn K mg fa st) (S : FnScope N ["_law_script"] (defScope st))
    (hbody : ∀ (base : Heap), K.In base → base.Ns mainGlobals mg → ∀ (cdv : Value) (A : Around) (outer : List Env) (s : Shared) (H : Hp) (vs : List V) (Q : VK) (E : XK), Room k (A.deeper (envOfC "law" (defScope st) s.heap.objs.size fa cdv)) → spLaw K vs H Q E →
      ∃ t, PSs (cxOf CX0 P w K mg base N "law" (defScope st) fa cdv A outer s H E).nox (defBody st) t ∧ t { nx := fun _ H' => Q .non H', rt := Q } (start N vs) H) :
    ∃ fd : FuncData, (∀ (s : Shared) (u : Value), BindsTo s fd ⟨[u], []⟩ [("_law_script", u)]) ∧ ∀ base : Heap, K.In base → base.Ns mainGlobals mg → FnOk P w K mg base CX0 (k + 1) fa fd ["_law_script"] (spLaw K) := by
  obtain ⟨fd, F, hb⟩ := F.ex
  refine ⟨fd, hb, fun base h1 h2 => F.ok S (fun vs H Q E h => ?_) (hbody base h1 h2)⟩
  obtain ⟨a, ns, rfl, _⟩ := h
  rfl
theorem walk {l : PySem.W.OpenLaw} {q : Program} {loose : List Str} {XP : (Str → Option Value) → Heap → Prop} {YP : World → Heap → Prop} {d : DefRec} {K : Params → PySem.W.Frag} {k : Nat} (hr : Room k callerA) (hn : l.most = some 63) (hdf : d.params.defaults = [])
    (hY : ∀ (w : World) (h : Heap), YP w h → (K w.params).In h)
    (F : ∀ (w : World) (mg : Str → Option Value) (fa : Addr) (h : Heap), (K w.params).In h → h.Ns mainGlobals mg → mg d.name = some (.ref fa) →
      ∃ fd : FuncData, (∀ (s : Shared) (u : Value), BindsTo s fd ⟨[u], []⟩ [("_law_script", u)]) ∧ ∀ base : Heap, (K w.params).In base → base.Ns mainGlobals mg → FnOk l.prog w (K w.params) mg base CX0 k fa fd ["_law_script"] (spLaw (K w.params))) :
    PySem.W.WalkO q loose XP YP l.row.toRowW d [] (fun f vs => PySem.call f vs) :=
  L2.walk_of (n := 63) (k := k) (x := "_law_script") (CX := fun _ => CX0) (sp := fun w => spLaw (K w.params)) hn (by decide) hdf hr hY F (fun _ _ a ns hl _ hS => ⟨a, ns, rfl, hS, hl, fun _ => rfl⟩) fun _ _ _ _ _ z => z
end LB
set_option Elab.async false
set_option linter.all false
set_option autoImplicit false
set_option maxRecDepth 100000
set_option maxHeartbeats 4000000
namespace LB
open PySem PySem.Spec PyProof.Rows L2
/-! ### what the top has written: making the facts -/
theorem own_mk {K : PySem.W.Frag} {mg : Str → Option Value} {h : Heap} {C : Addr} {x : Str} (X : K.In h) (G : h.Ns mainGlobals mg) (a : PySem.W.nsIn K mainGlobals x = some (some (.ref C)))
    (pg : PySem.W.plainGet K C Str.empty = true) (hd : PySem.W.hasDictIn K C = true) (po : PySem.W.plainOver K C = true) (sa : PySem.W.findIn K (.ref C) "__setattr__" = some (some (.builtin "object.__setattr__"))) (mk : PySem.W.makesIn K C = true) (kc : PySem.W.keepIn K (.ref C) = true) : OwnCls K mg x C :=
  ⟨PySem.W.mg_of X G a, ⟨pg, hd, po, sa⟩, mk, kc⟩
theorem nsOk_of {K : PySem.W.Frag} {N : Addr} {c : Value} {od : Option Addr} {es : Array DictEntry} {n : Nat} {sl : Array (Option Value)} (l : K.lookup N = some ⟨c, od, .dict es n, sl⟩) (h : (es.toList.all fun e => match e.key with | .str _ _ => true | _ => false) = true) : PySem.W.nsOkIn K N = true := by
  unfold PySem.W.nsOkIn
  rw [l]
  rw [Array.all_toList] at h
  exact h
theorem ne_mk {K : PySem.W.Frag} {C N f : Addr} {nm q : Str} {bs : List Value} {hdct : Bool} {sn : List Str} {sub : List Value} {ab : Bool} {col : Option Bool} {dd : Option Addr} {k0 k1 k2 k3 k5 : Option Value} {newId : String} {of : Obj} {cN : Value} {odN : Option Addr} {esN : Array DictEntry} {nN : Nat} {slN : Array (Option Value)}
    (lC : K.lookup C = some (excClassObj nm q C N bs [.type "object"] hdct sn sub ab col dd k0 k1 k2 k3 k5 newId)) (lN : K.lookup N = some ⟨cN, odN, .dict esN nN, slN⟩) (nk : (esN.toList.all fun e => match e.key with | .str _ _ => true | _ => false) = true) (ne : PySem.W.nsIn K N "__eq__" = some (some (.ref f))) (nn : PySem.W.nsIn K N "__ne__" = some none)
    (fe : PySem.W.findIn K (.ref C) "__eq__" = some (some (.ref f))) (lf : K.lookup f = some of) (cf : of.cls = .type "function") : NeCls K C :=
  ⟨_, _, _, _, _, _, _, _, _, _, _, _, _, _, _, _, _, _, lC, nsOk_of lN nk, ne, nn, fe, lf, cf⟩
/-- a class's instances know their class -/
structure IsiCls (K : PySem.W.Frag) (C : Addr) : Prop where
  ha : PySem.W.findIn K (.ref C) "__class__" = some (some (.builtin "object.__class__"))
  hn : PySem.W.specialIn K (.builtin "object.__class__") "__get__" = some (some (.builtin "getset_descriptor.__get__"))
  htk : PySem.W.takesIn K (.builtin "object.__class__") = some true
  hm : PySem.W.mroIn K C (.type "object") = some true
  me : PySem.W.kitOne K (.ref C) (.ref C) = some true
theorem exc_mk {K : PySem.W.Frag} {mg : Str → Option Value} {h : Heap} {C N : Addr} {x nm q : Str} {bs bm : List Value} {sn : List Str} {sub : List Value} {ab : Bool} {col : Option Bool} {dd : Option Addr} {k0 k1 k2 k3 k5 : Option Value} (X : K.In h) (G : h.Ns mainGlobals mg) (a : PySem.W.nsIn K mainGlobals x = some (some (.ref C)))
    (lC : K.lookup C = some (excClassObj nm q C N bs bm true sn sub ab col dd k0 k1 k2 k3 k5 "ValueError.__new__")) (rb : PySem.HandSPX.refsVE bm = true) (sa : PySem.W.findIn K (.ref C) "__setattr__" = some (some (.builtin "object.__setattr__")))
    (ex : PySem.W.subIn K (.ref C) (.type "BaseException") = some true) (ty : PySem.W.typeIn K (.ref C) = some (.type "type")) (kc : PySem.W.keepIn K (.ref C) = true)
    (ga : PySem.W.findIn K (.ref C) "__getattribute__" = some (some (.builtin "BaseException.__getattribute__"))) (gg : PySem.W.findIn K (.ref C) "__getattr__" = some none) (hd : PySem.W.hasDictIn K C = true) (me : PySem.W.exmOne K (.ref C) (.ref C) = some true) : ExcCls K mg x C :=
  ⟨PySem.W.mg_of X G a, ⟨⟨_, _, _, _, _, _, _, _, _, _, _, _, _, _, _, lC, rb⟩, sa, ex, ty, kc⟩, ⟨ga, gg, ex, hd⟩, me⟩
theorem low_mk {K : PySem.W.Frag} {mg : Str → Option Value} {h : Heap} {L : Addr} (X : K.In h) (G : h.Ns mainGlobals mg) (a : PySem.W.nsIn K mainGlobals "LowError" = some (some (.ref L)))
    (sp : PySem.W.specialIn K (.ref L) "__getattribute__" = some (some (.builtin "type.__getattribute__"))) (ty : PySem.W.typeIn K (.ref L) = some (.type "type")) (rd : PySem.W.readsIn K L (.type "type") = true) (fi : PySem.W.findCls K (.ref L) (.type "type") "__init__" = some (.val (.builtin "ValueError.__init__"))) : LowTxt K mg L :=
  ⟨PySem.W.mg_of X G a, sp, ty, rd, fi⟩
/-- a def with one default, an empty tuple of the written part -/
theorem topFnD_mk {K : PySem.W.Frag} {mg : Str → Option Value} {h : Heap} {x : Str} {st : Stmt} {ps : List Str} {f T : Addr} {oc oT : Value} {od an oD : Option Addr} {osl slT : Array (Option Value)} {kV doc pm cdv ct : Value} {its : Array Value} {nT : Nat} {dvs : List V} (X : K.In h) (G : h.Ns mainGlobals mg)
    (a : PySem.W.nsIn K mainGlobals x = some (some (.ref f))) (l : K.lookup f = some ⟨oc, od, .func (PySem.W.fnOf x x (defArgs st) (defBody st) (defScope st) (.ref T) kV doc pm an cdv ct), osl⟩)
    (c : PySem.W.codeIn K cdv x = true) (k : PySem.W.keepIn K (.ref f) = true) (lT : K.lookup T = some ⟨oT, oD, .seq its nT, slT⟩) (v : Vals dvs its.toList) (hd : dvs ≠ [])
    (n0 : Nat) (hn0 : n0 + dvs.length = ps.length)
    (hb : ∀ (T : Addr) (kV doc pm : Value) (an : Option Addr) (cdv ct : Value) (us its : List Value), us.length = n0 → its.length = dvs.length →
      ∃ k, bindArgs (PySem.W.fnOf x x (defArgs st) (defBody st) (defScope st) (.ref T) kV doc pm an cdv ct) ⟨us, []⟩ = seqItems? (.ref T) >>= k ∧ k (some its.toArray) = pure (ps.zip (us ++ its.drop 0)))
    (hb0 : ∀ (T : Addr) (kV doc pm : Value) (an : Option Addr) (cdv ct : Value) (us its : List Value), us.length = ps.length → its.length = dvs.length →
      ∃ k, bindArgs (PySem.W.fnOf x x (defArgs st) (defBody st) (defScope st) (.ref T) kV doc pm an cdv ct) ⟨us, []⟩ = seqItems? (.ref T) >>= k ∧ k (some its.toArray) = pure (ps.zip (us ++ its.drop dvs.length))) : TopFnD K mg x st ps dvs := by
  have F : FunD K x x (defArgs st) (defBody st) (defScope st) dvs [] f _ := ⟨⟨oc, od, _, kV, doc, pm, an, cdv, ct, osl, rfl, l, c, .inr ⟨hd, T, _, its.toList, nT, rfl, lT, rfl, v⟩, .inl rfl⟩, k⟩
  obtain ⟨ds, v1, b1⟩ := F.binds1 n0 0 hd (by omega) hb
  obtain ⟨ds0, v0, b0⟩ := F.binds1 ps.length dvs.length hd (by omega) hb0
  have e0 : ds0 = [] := by
    have := v0.length
    rw [List.drop_length] at this
    exact List.length_eq_zero_iff.mp this.symm
  rw [e0] at b0
  exact ⟨f, _, ds, F, PySem.W.mg_of X G a, b0, b1, v1⟩
theorem vals_ref {a : Addr} : Vals [V.ref a] [Value.ref a] := .cons rfl .nil
theorem emptyT_mk {K : PySem.W.Frag} {t : Addr} {od : Option Addr} {n : Nat} {sl : Array (Option Value)} (l : K.lookup t = some ⟨.type "tuple", od, .seq #[] n, sl⟩) : ∀ H, SqT K H t [] :=
  fun H => .inr ⟨_, #[], n, l, rfl, rfl, by decide, .nil⟩
end LB
set_option Elab.async false
set_option linter.all false
set_option maxRecDepth 100000
namespace LB
open PySem PySem.Spec PyProof.Rows L2
def top (i : Nat) : Stmt := PySem.Challenge.pw_lowsure_k57_code_that_is_run.main.body.getD i (.Pass ⟨0, 0, 0, 0⟩)
end LB
set_option Elab.async false
set_option linter.all false
set_option maxRecDepth 100000
set_option maxHeartbeats 4000000
namespace LB
open PySem PySem.Spec PyProof.Rows L2
open C8 (pss_cut tCut)
open RZ (pi_zipA iZipA ItzT for_zipT)
/-! ### rows of code -/
def isMod (n : Int) : Bool := (decide (0 < n) && decide (n ≤ 64)) && decide (64 % n = 0)
def within (form : Str) (n : Int) : Bool :=
  if form = "register" then decide (0 ≤ n) && decide (n < 8) else
  if form = "slot" then decide (0 ≤ n) && decide (n < 1000) else
  if form = "number" then decide (-18446744073709551616 < n) && decide (n < 18446744073709551616) else
  if form = "modulus" then isMod n else
  if form = "rest" then decide (0 ≤ n) && decide (n < 64) else decide (0 ≤ n) && decide (n ≤ 1000)
structure TxtR (K : PySem.W.Frag) (mg : Str → Option Value) : Prop extends Txt K mg where
  g_LIMIT : ∃ t, mg "LIMIT" = some (.int 18446744073709551616 t)
  g_MOST_ROWS : ∃ t, mg "MOST_ROWS" = some (.int 1000 t)
  g_MOST_REGISTERS : ∃ t, mg "MOST_REGISTERS" = some (.int 8 t)
  g_MOST_SLOTS : ∃ t, mg "MOST_SLOTS" = some (.int 1000 t)
  g_MOST_MODULUS : ∃ t, mg "MOST_MODULUS" = some (.int 64 t)
section
variable {P : Program} {w : World} {K : PySem.W.Frag} {mg : Str → Option Value} {base : Heap}
abbrev s_is_integer : Stmt := top 3
theorem sc_is_integer : FnScope ["value"] ["value"] (defScope s_is_integer) := ⟨rfl, rfl, rfl, by decide +kernel, rfl, by decide +kernel, by decide +kernel⟩
/-- of an int -/
def spIsInteger : Sp := fun vs H Q _ => ∃ (n : Int), vs = [.int n] ∧ Q (.bl true) H
theorem ok_is_integer (F : TopFn K mg "is_integer" s_is_integer ["value"]) (T : TxtR K mg) : DefOk P w K mg base 1 "is_integer" ["value"] spIsInteger := by
  refine F.ok sc_is_integer (fun vs H Q E h => ?_) (fun f cdv A outer s H vs Q E hr h => ?_)
  · obtain ⟨n, rfl, _⟩ := h
    rfl
  · obtain ⟨n, rfl, k⟩ := h
    refine ⟨_, (pss_one (ps_ret (pe_and (pe_callB call_isi (by rfl) T.b_isinstance (by decide +kernel) (pa_cons (pv 0) (pa_cons (pe_bltn (v := .ty "int") (by rfl) T.b_int (by decide +kernel) rfl) pa_nil))) (pe_one (pe_not (pe_callB call_isi (by rfl) T.b_isinstance (by decide +kernel) (pa_cons (pv 0) (pa_cons (pe_bltn (v := .ty "bool") (by rfl) T.b_bool (by decide +kernel) rfl) pa_nil)))))))), ?_⟩
    refine ⟨_, rfl, _, _, _, _, true, rfl, .ty _, .base (.int _), kit_ty (by decide +kernel), _, rfl, ?_⟩
    refine ⟨_, rfl, _, _, _, _, false, rfl, .ty _, .base (.int _), kit_ty (by decide +kernel), _, rfl, k⟩
abbrev s_is_modulus : Stmt := top 11
theorem sc_is_modulus : FnScope ["number"] ["number"] (defScope s_is_modulus) := ⟨rfl, rfl, rfl, by decide +kernel, rfl, by decide +kernel, by decide +kernel⟩
def spIsModulus : Sp := fun vs H Q _ => ∃ (n : Int), vs = [.int n] ∧ Q (.bl (isMod n)) H
theorem ok_is_modulus (F : TopFn K mg "is_modulus" s_is_modulus ["number"]) (T : TxtR K mg) : DefOk P w K mg base 1 "is_modulus" ["number"] spIsModulus := by
  refine F.ok sc_is_modulus (fun vs H Q E h => ?_) (fun f cdv A outer s H vs Q E hr h => ?_)
  · obtain ⟨n, rfl, _⟩ := h
    rfl
  · obtain ⟨n, rfl, k⟩ := h
    refine ⟨_, (pss_one (ps_ret (pe_and (pe_chain op_lt op_le pe_int (pv 0) (pe_gint rfl T.g_MOST_MODULUS)) (pe_one (pe_cmpR op_eq (pe_op op_mod (pe_gint rfl T.g_MOST_MODULUS) (pv 0)) pe_int (nomark _)))))), ?_⟩
    refine ⟨_, rfl, _, _, rfl, rfl, _, rfl, ?_⟩
    refine ite2 (fun h0 => ?_) (fun h0 => ?_)
    · have h0 := of_decide_eq_true h0
      refine ⟨_, _, rfl, rfl, _, rfl, ?_⟩
      refine ite2 (fun h1 => ?_) (fun h1 => ?_)
      · refine ⟨_, rfl, _, _, rfl, rfl, h0, rfl, ?_⟩
        have e : isMod n = decide (V.int (64 % n) = V.int 0) := by
          unfold isMod
          rw [decide_eq_true h0, h1]
          exact decide_eq_decide.mpr ⟨fun z => by rw [z], fun z => V.int.inj z⟩
        rw [e] at k
        exact k
      · have e : isMod n = false := by
          unfold isMod
          rw [Bool.eq_false_iff.mpr h1, Bool.and_false, Bool.false_and]
        rw [e] at k
        exact k
    · have e : isMod n = false := by
        unfold isMod
        rw [Bool.eq_false_iff.mpr h0, Bool.false_and, Bool.false_and]
      rw [e] at k
      exact ⟨_, rfl, k⟩
abbrev s_is_within : Stmt := top 12
theorem sc_is_within : FnScope ["form", "number"] ["form", "number"] (defScope s_is_within) := ⟨rfl, rfl, rfl, by decide +kernel, rfl, by decide +kernel, by decide +kernel⟩
def spIsWithin : Sp := fun vs H Q _ => ∃ (z : Str) (n : Int), vs = [.str z, .int n] ∧ Q (.bl (within z n)) H
theorem chain_k {p q : Bool} {H : Hp} {Q : VK} {R : Prop} (k : Q (.bl (p && q)) H) (h1 : p = true → R → Q (.bl q) H) : True := trivial
theorem ok_is_within (F : TopFn K mg "is_within" s_is_within ["form", "number"]) (T : TxtR K mg) (D_is_modulus : DefOk P w K mg base 1 "is_modulus" ["number"] spIsModulus) : DefOk P w K mg base 2 "is_within" ["form", "number"] spIsWithin := by
  refine F.ok sc_is_within (fun vs H Q E h => ?_) (fun f cdv A outer s H vs Q E hr h => ?_)
  · obtain ⟨z, n, rfl, _⟩ := h
    rfl
  · obtain ⟨z, n, rfl, k⟩ := h
    refine ⟨_, (pss_one (ps_match (pv 0) (pm_str (pss_one (ps_ret (pe_chain op_le op_lt pe_int (pv 1) (pe_gint rfl T.g_MOST_REGISTERS))))
    (pm_str (pss_one (ps_ret (pe_chain op_le op_lt pe_int (pv 1) (pe_gint rfl T.g_MOST_SLOTS))))
    (pm_str (pss_one (ps_ret (pe_chain op_lt op_lt (pe_op op_sub pe_int (pe_gint rfl T.g_LIMIT)) (pv 1) (pe_gint rfl T.g_LIMIT))))
    (pm_str (pss_one (ps_ret (pe_fn D_is_modulus (hr.mono (by decide)) rfl (pa_cons (pv 1) pa_nil))))
    (pm_str (pss_one (ps_ret (pe_chain op_le op_lt pe_int (pv 1) (pe_gint rfl T.g_MOST_MODULUS))))
    (pm_any (pss_one (ps_ret (pe_chain op_le op_le pe_int (pv 1) (pe_gint rfl T.g_MOST_ROWS)))))))))))), ?_⟩
    unfold within at k
    refine ⟨_, rfl, _, rfl, ?_⟩
    refine ite2 (fun h => ?_) (fun h => ?_)
    · rw [if_pos h] at k
      refine ⟨_, rfl, _, _, rfl, rfl, _, rfl, ?_⟩
      refine ite2 (fun h0 => ?_) (fun h0 => ?_)
      · rw [h0, Bool.true_and] at k
        exact ⟨_, _, rfl, rfl, k⟩
      · rw [Bool.eq_false_iff.mpr h0, Bool.false_and] at k
        exact k
    rw [if_neg h] at k
    refine ⟨_, rfl, ?_⟩
    refine ite2 (fun h => ?_) (fun h => ?_)
    · rw [if_pos h] at k
      refine ⟨_, rfl, _, _, rfl, rfl, _, rfl, ?_⟩
      refine ite2 (fun h0 => ?_) (fun h0 => ?_)
      · rw [h0, Bool.true_and] at k
        exact ⟨_, _, rfl, rfl, k⟩
      · rw [Bool.eq_false_iff.mpr h0, Bool.false_and] at k
        exact k
    rw [if_neg h] at k
    refine ⟨_, rfl, ?_⟩
    refine ite2 (fun h => ?_) (fun h => ?_)
    · rw [if_pos h] at k
      refine ⟨_, _, rfl, rfl, _, rfl, _, _, rfl, rfl, _, rfl, ?_⟩
      refine ite2 (fun h0 => ?_) (fun h0 => ?_)
      · have e : decide ((0 : Int) - 18446744073709551616 < n) = decide (-18446744073709551616 < n) := rfl
        rw [← e, h0, Bool.true_and] at k
        exact ⟨_, _, rfl, rfl, k⟩
      · have e : decide ((0 : Int) - 18446744073709551616 < n) = decide (-18446744073709551616 < n) := rfl
        rw [← e, Bool.eq_false_iff.mpr h0, Bool.false_and] at k
        exact k
    rw [if_neg h] at k
    refine ⟨_, rfl, ?_⟩
    refine ite2 (fun h => ?_) (fun h => ?_)
    · rw [if_pos h] at k
      exact ⟨_, rfl, n, rfl, k⟩
    rw [if_neg h] at k
    refine ⟨_, rfl, ?_⟩
    refine ite2 (fun h => ?_) (fun h => ?_)
    · rw [if_pos h] at k
      refine ⟨_, rfl, _, _, rfl, rfl, _, rfl, ?_⟩
      refine ite2 (fun h0 => ?_) (fun h0 => ?_)
      · rw [h0, Bool.true_and] at k
        exact ⟨_, _, rfl, rfl, k⟩
      · rw [Bool.eq_false_iff.mpr h0, Bool.false_and] at k
        exact k
    rw [if_neg h] at k
    refine ⟨_, rfl, _, _, rfl, rfl, _, rfl, ?_⟩
    refine ite2 (fun h0 => ?_) (fun h0 => ?_)
    · rw [h0, Bool.true_and] at k
      exact ⟨_, _, rfl, rfl, k⟩
    · rw [Bool.eq_false_iff.mpr h0, Bool.false_and] at k
      exact k
def forms : List (Str × List Str) := [("set", ["register", "number"]), ("copy", ["register", "register"]), ("add", ["register", "register", "register"]), ("sub", ["register", "register", "register"]), ("mul", ["register", "register", "register"]),
  ("left", ["register", "register"]), ("right", ["register", "register"]), ("load", ["register", "slot"]), ("store", ["slot", "register"]), ("skip", ["register", "modulus", "rest", "count"])]
structure FormsAt (K : PySem.W.Frag) (w : World) (mg : Str → Option Value) (d : Addr) (es : Array DictEntry) (n : Nat) : Prop where
  g : mg "FORMS" = some (.ref d)
  kd : KDict K w d es n
  all : ∀ p ∈ forms, ∃ t, PySem.W.nsIn K d p.1 = some (some (.ref t)) ∧ ∀ H, SqT K H t (p.2.map V.str)
structure RowOk (z : Str) (ns : List Int) : Prop where
  ex : ∃ fs, (z, fs) ∈ forms ∧ fs.length = ns.length ∧ ∀ (i : Nat) f n, fs[i]? = some f → ns[i]? = some n → within f n = true
  sk : z = "skip" → ∃ a m c n, ns = [a, m, c, n] ∧ c < m
/-- a row stands at a -/
def rowL (z : Str) (ns : List Int) : List V := .str z :: ns.map V.int
def spIsRow : Sp := fun vs H Q _ => ∃ (a : Addr) (z : Str) (ns : List Int), vs = [.ref a] ∧ H a = some (.tup (rowL z ns)) ∧ RowOk z ns ∧ ns.length ≤ 10 ∧ ∀ H', Same H H' → Q (.bl true) H'
abbrev s_is_row : Stmt := top 13
theorem sc_is_row : FnScope ["row", "forms", "items", "form", "item"] ["row"] (defScope s_is_row) := ⟨rfl, rfl, rfl, by decide +kernel, rfl, by decide +kernel, by decide +kernel⟩
theorem ok_is_row {d : Addr} {es : Array DictEntry} {n : Nat} (F : TopFn K mg "is_row" s_is_row ["row"]) (T : TxtR K mg) (FA : FormsAt K w mg d es n) (D_is_integer : DefOk P w K mg base 1 "is_integer" ["value"] spIsInteger)
    (D_is_within : DefOk P w K mg base 2 "is_within" ["form", "number"] spIsWithin) : DefOk P w K mg base 3 "is_row" ["row"] spIsRow := by
  refine F.ok sc_is_row (fun vs H Q E h => ?_) (fun f cdv A outer s H vs Q E hr h => ?_)
  · obtain ⟨a, z, ns, rfl, _⟩ := h
    rfl
  · obtain ⟨a, z, ns, rfl, ha, ok, hlen, k⟩ := h
    obtain ⟨fs, hfs, lfs, hw⟩ := ok.ex
    obtain ⟨t, ht, hT⟩ := FA.all _ hfs
    refine ⟨_, (pss_cons (ps_if (PW.pt (pw_or (pt_not (pt_val (pe_callB call_isi (by rfl) T.b_isinstance (by decide +kernel) (pa_cons (pv 0) (pa_cons (pe_bltn (v := .ty "tuple") (by rfl) T.b_tuple (by decide +kernel) rfl) pa_nil))))) (pw_or (pt_cmpR op_eq (pe_callB call_len_seq (by rfl) T.b_len (by decide +kernel) (pa_cons (pv 0) pa_nil)) pe_int (nomark _)) (pw_or (pt_not (pt_val (pe_callB call_isi (by rfl) T.b_isinstance (by decide +kernel) (pa_cons (pe_ix ix_tup (pv 0) pe_int (fun _ _ => rfl)) (pa_cons (pe_bltn (v := .ty "str") (by rfl) T.b_str (by decide +kernel) rfl) pa_nil))))) (pw_or1 (pt_cmpR (op_notIn_kd FA.kd) (pe_ix ix_tup (pv 0) pe_int (fun _ _ => rfl)) (pe_gref rfl FA.g) (by rfl))))))) (pss_one (ps_ret pe_bl)) pss_nil)
    (pss_cons (ps_par (i := 1) (j := 2) (by rfl) sc_is_row.nd rfl rfl (by decide) rfl rfl (pa_cons (pe_ix ix_kdict (pe_gref rfl FA.g) (pe_ix ix_tup (pv 0) pe_int (fun _ _ => rfl)) (fun _ _ => rfl)) (pa_cons (pe_slice sl_tup (pv 0) (po_some pe_int) po_none) pa_nil)) (by rfl))
    (pss_cons (ps_if (pt_cmpR op_ne (pe_callB call_len_seq (by rfl) T.b_len (by decide +kernel) (pa_cons (pv 2) pa_nil)) (pe_callB call_len_seq (by rfl) T.b_len (by decide +kernel) (pa_cons (pv 1) pa_nil)) (nomark _)) (pss_one (ps_ret pe_bl)) pss_nil)
    (pss_cut (ps_for PassesOwn.never rfl (pi_zipA (by rfl) T.b_zip (pa_cons (pv 1) (pa_cons (pv 2) pa_nil))) (pg_tup rfl (pgs_cons (pg_name (i := 3) sc_is_row.nd rfl (.inl rfl)) (pgs_cons (pg_name (i := 4) sc_is_row.nd rfl (.inl rfl)) pgs_nil)))
    (pss_one (ps_if (PW.pt (pw_or (pt_not (pt_val (pe_fn D_is_integer (hr.mono (by decide)) rfl (pa_cons (pv 4) pa_nil)))) (pw_or1 (pt_not (pt_val (pe_fn D_is_within (hr.mono (by decide)) rfl (pa_cons (pv 3) (pa_cons (pv 4) pa_nil)))))))) (pss_one (ps_ret pe_bl)) pss_nil)))
    (pss_one (ps_ret (pe_or (pe_cmpR op_ne (pe_ix ix_tup (pv 0) pe_int (fun _ _ => rfl)) pe_str (nomark _)) (pe_one (pe_cmpR op_lt (pe_ix ix_tup (pv 0) pe_int (fun _ _ => rfl)) (pe_ix ix_tup (pv 0) pe_int (fun _ _ => rfl)) (nomark _)))))))))), ?_⟩
    have h0 : atI (rowL z ns) 0 = some (.str z) := atI_nat (j := 0) rfl
    have hne : decide (V.int ((rowL z ns).length : Nat) = V.int 0) = false := decide_eq_false fun e => by
      have := V.int.inj e
      unfold rowL at this
      rw [List.length_cons] at this
      omega
    refine ⟨_, rfl, _, _, _, _, true, rfl, .ty _, .base (.tup ha), kit_ty (by decide +kernel), _, rfl, ?_⟩
    refine ⟨_, rfl, a, _, rfl, .inr (SqT.of ha), rfl, _, rfl, ?_⟩
    refine ifF hne ?_
    refine ⟨_, rfl, a, _, _, _, rfl, rfl, SqT.of ha, h0, _, _, _, _, true, rfl, .ty _, .base (.str _), kit_ty (by decide +kernel), _, rfl, ?_⟩
    refine ⟨_, rfl, a, _, _, _, rfl, rfl, SqT.of ha, h0, z, some (.ref t), rfl, rfl, ht, _, rfl, ?_⟩
    refine ⟨_, rfl, a, _, _, _, rfl, rfl, SqT.of ha, h0, d, z, .ref t, rfl, rfl, ⟨es, n, _, FA.kd.at_, FA.kd.lit, ht, rfl⟩, ?_⟩
    refine ⟨_, rfl, _, rfl, a, _, rfl, SqT.of ha, part_from (k := 1) (by decide) (by unfold rowL; rw [List.length_cons]; omega), fun p hp => ?_⟩
    rw [show cutV (rowL z ns) (some 1) none = ns.map V.int from cut_from (rowL z ns) 1 (by unfold rowL; rw [List.length_cons]; omega)]
    refine ⟨_, _, rfl, ?_⟩
    refine ⟨_, rfl, p, _, rfl, .inr (SqT.of upd_same), _, rfl, t, _, rfl, .inr (hT _), rfl, _, rfl, ?_⟩
    have hle : (!decide (V.int (((ns.map V.int).length : Nat) : Int) = V.int (((fs.map V.str).length : Nat) : Int))) = false := by
      rw [List.length_map, List.length_map, lfs, decide_eq_true rfl] <;> rfl
    refine ifF hle ?_
    have s1 : Same H (upd H p (.tup (ns.map V.int))) := same_new hp
    have hp1 : upd H p (.tup (ns.map V.int)) p = some (.tup (ns.map V.int)) := upd_same
    generalize upd H p (.tup (ns.map V.int)) = H1 at s1 hp1
    refine ⟨fun σ H' => ∃ v3 v4, σ = [some (.ref a), some (.ref t), some (.ref p), v3, v4] ∧ Same H1 H', ?_, ?_⟩
    · refine ⟨_, rfl, _, rfl, t, p, _, _, rfl, .inr ⟨hT _, SqT.of hp1, for_zipT (K := K) (a := t) (b := p) (xs := fs.map V.str) (ys := ns.map V.int) (by rw [List.length_map, List.length_map, lfs]) (fun i σ H' => ∃ v3 v4, σ = [some (.ref a), some (.ref t), some (.ref p), v3, v4] ∧ Same H1 H')
        ⟨none, none, rfl, Same.refl _⟩ (fun i σ H' ⟨_, _, _, s2⟩ => ⟨hT _, SqT.of (s2 _ _ hp1)⟩) ?_ ?_⟩⟩
      · rintro i x y T σ H2 hx hy ⟨v3, v4, rfl, s2⟩ hTn
        obtain ⟨f1, hf1, rfl⟩ := map_get hx
        obtain ⟨m, hm, rfl⟩ := map_get hy
        have hwm := hw i f1 m hf1 hm
        refine ⟨T, _, rfl, SqT.of upd_same, rfl, _, _, rfl, _, _, rfl, rfl, ?_⟩
        refine ⟨_, rfl, m, rfl, _, rfl, ?_⟩
        refine ⟨_, rfl, _, rfl, f1, m, rfl, _, rfl, ?_⟩
        refine ifF (by rw [hwm]; rfl) ?_
        exact ⟨_, _, rfl, s2.trans (same_new hTn)⟩
      · rintro σ H2 h
        exact h
    · rintro σ H2 ⟨v3, v4, rfl, s2⟩
      have ha2 : H2 a = some (.tup (rowL z ns)) := s2 _ _ (s1 _ _ ha)
      refine ⟨_, rfl, a, _, _, _, rfl, rfl, SqT.of ha2, h0, rfl, _, rfl, ?_⟩
      refine ite2 (fun _ => k _ (s1.trans s2)) (fun h => ?_)
      have ez : z = "skip" := by
        have q : decide (V.str z = V.str "skip") = true := by simpa using h
        exact V.str.inj (of_decide_eq_true q)
      obtain ⟨b1, m1, c1, n1, rfl, hcm⟩ := ok.sk ez
      refine ⟨_, rfl, a, _, _, _, rfl, rfl, SqT.of ha2, atI_nat (j := 3) rfl, _, rfl, a, _, _, _, rfl, rfl, SqT.of ha2, atI_nat (j := 2) rfl, _, _, rfl, rfl, ?_⟩
      have e : decide (c1 < m1) = true := decide_eq_true hcm
      show Q (V.bl (decide (c1 < m1))) _
      rw [e]
      exact k _ (s1.trans s2)
/-! ### rows, one after another -/
abbrev Rw := Str × List Int
def RowAt (H : Hp) (v : V) (r : Rw) : Prop := ∃ a, v = .ref a ∧ H a = some (.tup (rowL r.1 r.2))
structure RowsAt (H : Hp) (vs : List V) (rs : List Rw) : Prop where
  len : vs.length = rs.length
  get : ∀ (i : Nat) v r, vs[i]? = some v → rs[i]? = some r → RowAt H v r
theorem RowAt.same {H H' : Hp} {v : V} {r : Rw} (s : Same H H') (h : RowAt H v r) : RowAt H' v r := let ⟨a, e, q⟩ := h; ⟨a, e, s _ _ q⟩
theorem RowsAt.same {H H' : Hp} {vs : List V} {rs : List Rw} (s : Same H H') (h : RowsAt H vs rs) : RowsAt H' vs rs := ⟨h.len, fun i v r h1 h2 => (h.get i v r h1 h2).same s⟩
theorem RowsAt.nil {H : Hp} : RowsAt H [] [] := ⟨rfl, fun i v r h => by simp at h⟩
theorem RowsAt.snoc {H : Hp} {vs : List V} {rs : List Rw} {v : V} {r : Rw} (h : RowsAt H vs rs) (hv : RowAt H v r) : RowsAt H (vs ++ [v]) (rs ++ [r]) := by
  refine ⟨by rw [List.length_append, List.length_append, h.len] <;> rfl, fun i v' r' h1 h2 => ?_⟩
  by_cases hi : i < vs.length
  · rw [List.getElem?_append_left hi] at h1
    rw [List.getElem?_append_left (by rw [← h.len]; exact hi)] at h2
    exact h.get i v' r' h1 h2
  · have hi2 : ¬ i < rs.length := by rw [← h.len]; exact hi
    rw [List.getElem?_append_right (by omega)] at h1 h2
    have e1 : i - vs.length = 0 := by
      have := lt_of_get h1
      simp at this
      omega
    have e2 : i - rs.length = 0 := by rw [← h.len]; exact e1
    rw [e1] at h1
    rw [e2] at h2
    cases h1
    cases h2
    exact hv
theorem RowsAt.row {H : Hp} {vs : List V} {rs : List Rw} {i : Nat} {v : V} (h : RowsAt H vs rs) (hv : vs[i]? = some v) : ∃ r, rs[i]? = some r ∧ RowAt H v r := by
  have hi := lt_of_get hv
  rw [h.len] at hi
  exact ⟨rs[i], List.getElem?_eq_getElem hi, h.get i v _ hv (List.getElem?_eq_getElem hi)⟩
structure CodeOk (rs : List Rw) : Prop where
  few : rs.length ≤ 1000
  row : ∀ (i : Nat) r, rs[i]? = some r → RowOk r.1 r.2 ∧ r.2.length ≤ 10
  skip : ∀ (i : Nat) r n, rs[i]? = some r → r.1 = "skip" → r.2[3]? = some n → (i : Int) + n < rs.length
def Seq (K : PySem.W.Frag) (H : Hp) (l : Addr) (xs : List V) : Prop := SqL K H l xs ∨ SqT K H l xs
theorem sqT_same {K : PySem.W.Frag} {H H' : Hp} {l : Addr} {xs : List V} (s : Same H H') (h : SqT K H l xs) : SqT K H' l xs := by
  rcases h with (h | ⟨o, h⟩) | h
  · exact .inl (.inl (s _ _ h))
  · exact .inl (.inr ⟨o, s _ _ h⟩)
  · exact .inr h
theorem Seq.same {K : PySem.W.Frag} {H H' : Hp} {l : Addr} {xs : List V} (s : Same H H') (h : Seq K H l xs) : Seq K H' l xs := by
  rcases h with h | h
  · exact .inl (s.seq h)
  · rcases h with (h | ⟨o, h⟩) | h
    · exact .inr (.inl (.inl (s _ _ h)))
    · exact .inr (.inl (.inr ⟨o, s _ _ h⟩))
    · exact .inr (.inr h)
def spCheckRows (K : PySem.W.Frag) : Sp := fun vs H Q _ => ∃ (l : Addr) (xs : List V) (rs : List Rw), vs = [.ref l] ∧ Seq K H l xs ∧ RowsAt H xs rs ∧ CodeOk rs ∧ ∀ H', Same H H' → Q .non H'
abbrev s_check_rows : Stmt := top 28
theorem sc_check_rows : FnScope ["rows", "at", "row"] ["rows"] (defScope s_check_rows) := ⟨rfl, rfl, rfl, by decide +kernel, rfl, by decide +kernel, by decide +kernel⟩
theorem ok_check_rows (F : TopFn K mg "check_rows" s_check_rows ["rows"]) (T : TxtR K mg) (D_is_row : DefOk P w K mg base 3 "is_row" ["row"] spIsRow) : DefOk P w K mg base 4 "check_rows" ["rows"] (spCheckRows K) := by
  refine F.ok sc_check_rows (fun vs H Q E h => ?_) (fun f cdv A outer s H vs Q E hr h => ?_)
  · obtain ⟨l, xs, rs, rfl, _⟩ := h
    rfl
  · obtain ⟨l, xs, rs, rfl, hS, hR, ok, k⟩ := h
    refine ⟨_, (pss_cons (ps_if (pt_cmpR op_gt (pe_callB call_len_seq (by rfl) T.b_len (by decide +kernel) (pa_cons (pv 0) pa_nil)) (pe_gint rfl T.g_MOST_ROWS) (nomark _)) (pss_one ps_never) pss_nil)
    (pss_one (ps_for PassesOwn.never rfl (pi_enumA (by rfl) T.b_enumerate (pa_cons (pv 0) pa_nil)) (pg_tup rfl (pgs_cons (pg_name (i := 1) sc_check_rows.nd rfl (.inl rfl)) (pgs_cons (pg_name (i := 2) sc_check_rows.nd rfl (.inl rfl)) pgs_nil)))
    (pss_cons (ps_if (pt_not (pt_val (pe_fn D_is_row (hr.mono (by decide)) rfl (pa_cons (pv 2) pa_nil)))) (pss_one ps_never) pss_nil)
    (pss_one (ps_if (PW.pt (pw_and (pt_cmpR op_eq (pe_ix ix_tup (pv 2) pe_int (fun _ _ => rfl)) pe_str (nomark _)) (pw_and1 (pt_cmpR op_ge (pe_op op_add (pv 1) (pe_ix ix_tup (pv 2) pe_int (fun _ _ => rfl))) (pe_callB call_len_seq (by rfl) T.b_len (by decide +kernel) (pa_cons (pv 0) pa_nil)) (nomark _))))) (pss_one ps_never) pss_nil)))))), ?_⟩
    refine ⟨_, rfl, l, _, rfl, hS, _, _, rfl, rfl, _, rfl, ?_⟩
    refine ifF (decide_eq_false (by rw [hR.len]; have := ok.few; omega)) ?_
    refine ⟨_, rfl, l, xs, rfl, ?_⟩
    rcases hS with hq | hq
    all_goals (
      first
        | refine .inl ⟨hq, for_it (walk_enum (xs := xs)) (fun i σ H' => ∃ v1 v2, σ = [some (.ref l), v1, v2] ∧ Same H H') ?_ ?_ ?_ ?_⟩
        | refine .inr ⟨hq, for_it (walk_enumT (xs := xs)) (fun i σ H' => ∃ v1 v2, σ = [some (.ref l), v1, v2] ∧ Same H H') ?_ ?_ ?_ ?_⟩
      · exact ⟨none, none, rfl, Same.refl _⟩
      · rintro i σ H' _ ⟨_, _, _, s1⟩
        first
          | exact s1.seq hq
          | exact sqT_same s1 hq
      · rintro i x σ H1 H2 hi ⟨v1, v2, rfl, s1⟩ ⟨T, x1, y1, rfl, hTn, rfl, e1, hy⟩
        obtain rfl := Option.some.inj e1
        obtain ⟨r, hr1, ra, rfl, hra⟩ := hR.row hy
        have s2 : Same H (upd H1 T (.tup [.int (i : Nat), .ref ra])) := s1.trans (same_new hTn)
        have hR2 := ok.row i r hr1
        refine ⟨T, _, rfl, SqT.of upd_same, rfl, _, _, rfl, _, _, rfl, rfl, ?_⟩
        refine ⟨_, rfl, ra, r.1, r.2, rfl, s2 _ _ hra, hR2.1, hR2.2, fun H3 s3 => ?_⟩
        refine ⟨_, rfl, ?_⟩
        have hra3 := s3 _ _ (s2 _ _ hra)
        refine ⟨_, rfl, ra, _, _, _, rfl, rfl, SqT.of hra3, atI_nat (j := 0) rfl, rfl, _, rfl, ?_⟩
        refine ite2 (fun h => ?_) (fun h => ?_)
        · have ez : r.1 = "skip" := V.str.inj (of_decide_eq_true h)
          obtain ⟨b1, m1, c1, n1, e2, _⟩ := hR2.1.sk ez
          have hskip := ok.skip i r n1 hr1 ez (by rw [e2]; rfl)
          have hS3 : Seq K H3 l xs := Seq.same (s2.trans s3) (by first | exact .inl hq | exact .inr hq)
          refine ⟨_, rfl, _, rfl, ra, _, _, .int n1, rfl, rfl, SqT.of hra3, atI_nat (j := 4) (by rw [e2]; rfl), _, _, rfl, rfl, _, rfl, l, _, rfl, hS3, _, _, rfl, rfl, _, rfl, ?_⟩
          refine ifF (decide_eq_false (by rw [hR.len]; omega)) ?_
          exact ⟨_, _, rfl, s2.trans s3⟩
        · exact ⟨_, _, rfl, s2.trans s3⟩
      · rintro σ H' ⟨_, _, rfl, s1⟩
        exact k _ s1)
/-! ### the class Code -/
def codeF (p : Addr) : List (Str × V) := [("rows", .ref p)]
theorem codeF_put (p : Addr) : putF "rows" (.ref p) [] = codeF p := rfl
theorem codeF_rows (p : Addr) : (codeF p).lookup ("rows" : Str) = some (.ref p) := by
  unfold codeF
  rw [List.lookup_cons_self]
theorem codeF_no (p : Addr) {m : Str} (h : ¬ m = "rows") : (codeF p).lookup m = none := by
  unfold codeF
  rw [List.lookup_cons, show (m == ("rows" : Str)) = false by simpa using h]
  rfl
/-- a code with the rows rs stands at v -/
def CodeAt (K : PySem.W.Frag) (C : Addr) (H : Hp) (a p : Addr) (rs : List Rw) : Prop := ∃ dx xs, H a = some (.ins C dx (codeF p)) ∧ SqT K H p xs ∧ RowsAt H xs rs
theorem CodeAt.same {K : PySem.W.Frag} {C a p : Addr} {H H' : Hp} {rs : List Rw} (s : Same H H') (h : CodeAt K C H a p rs) : CodeAt K C H' a p rs := by
  obtain ⟨dx, xs, h1, h2, h3⟩ := h
  exact ⟨dx, xs, s _ _ h1, sqT_same s h2, h3.same s⟩
structure CodeCls (K : PySem.W.Frag) (mg : Str → Option Value) (C : Addr) : Prop where
  own : OwnCls K mg "Code" C
  nR : NoAttr K C "rows"
def spCodeInit (K : PySem.W.Frag) (C : Addr) : Sp := fun vs H Q _ => ∃ (x dx l : Addr) (xs : List V) (rs : List Rw), vs = [.ref x, .ref l] ∧ H x = some (.ins C dx []) ∧ Seq K H l xs ∧ RowsAt H xs rs ∧ CodeOk rs ∧
  ∀ H' p, (∀ b o, H b = some o → b ≠ x → H' b = some o) → H' x = some (.ins C dx (codeF p)) → SqT K H' p xs → Q .non H'
abbrev s_Code_init : Stmt := inClass (top 29) 0
theorem sc_Code_init : FnScope ["self", "rows"] ["self", "rows"] (defScope s_Code_init) := ⟨rfl, rfl, rfl, by decide +kernel, rfl, by decide +kernel, by decide +kernel⟩
theorem ok_Code_init {C : Addr} (F : TopMeth K C "__init__" "Code.__init__" s_Code_init ["self", "rows"]) (T : TxtR K mg) (cc : CodeCls K mg C) (D_check_rows : DefOk P w K mg base 4 "check_rows" ["rows"] (spCheckRows K)) :
    MethOk P w K mg base 5 C "__init__" ["self", "rows"] (spCodeInit K C) := by
  refine F.ok sc_Code_init (fun vs H Q E h => ?_) (fun f cdv A outer s H vs Q E hr h => ?_)
  · obtain ⟨x, dx, l, xs, rs, rfl, _⟩ := h
    rfl
  · obtain ⟨x, dx, l, xs, rs, rfl, hx, hS, hR, ok, k⟩ := h
    refine ⟨_, (pss_cons (ps_expr (pe_fn D_check_rows (hr.mono (by decide)) rfl (pa_cons (pv 1) pa_nil)))
    (pss_one (ps_fld (pv 0) (pe_callTy call_tuple_of (by rfl) T.b_tuple (by decide +kernel) (pa_cons (pv 1) pa_nil)) rfl))), ?_⟩
    refine ⟨_, rfl, l, xs, rs, rfl, hS, hR, ok, fun H1 s1 => ?_⟩
    have hx1 := s1 _ _ hx
    have hfew : xs.length ≤ sizeLine := by rw [hR.len]; exact szL (Nat.le_trans ok.few (by decide))
    refine ⟨_, rfl, l, xs, rfl, ?_⟩
    rcases hS with hq | hq
    · refine .inl ⟨s1.seq hq, fun q hqn => ?_⟩
      have nxq : x ≠ q := ne_of_none hx1 hqn
      refine ⟨_, rfl, x, C, dx, [], rfl, (by rw [upd_ne nxq]; exact hx1), cc.own.cl, cc.nR, (by decide), ?_⟩
      refine k _ q (fun b o e hb => ?_) upd_same (SqT.of (by rw [upd_ne nxq.symm]; exact upd_same))
      rw [upd_ne hb, upd_ne (ne_of_none (s1 _ _ e) hqn)]
      exact s1 _ _ e
    · refine .inr ⟨sqT_same s1 hq, ?_⟩
      refine ⟨_, rfl, x, C, dx, [], rfl, hx1, cc.own.cl, cc.nR, (by decide), ?_⟩
      refine k _ l (fun b o e hb => ?_) upd_same ?_
      · rw [upd_ne hb]
        exact s1 _ _ e
      · rcases sqT_same s1 hq with (z | ⟨o, z⟩) | z
        · exact SqT.of (by rw [upd_ne (ne_of z hx1 (by intro q; cases q))]; exact z)
        · exact .inl (.inr ⟨o, by rw [upd_ne (ne_of z hx1 (by intro q; cases q))]; exact z⟩)
        · exact .inr z
end
end LB
set_option Elab.async false
set_option linter.all false
set_option maxRecDepth 100000
set_option maxHeartbeats 4000000
namespace LB
open PySem PySem.Spec PyProof.Rows L2
open C8 (pss_cut tCut)
/-! ### rows as data -/
def rowD (r : Rw) : PyData := .tuple (.str r.1 :: r.2.map .int)
def rowsD (rs : List Rw) : PyData := .tuple (rs.map rowD)
theorem ints_lay : ∀ ns : List Int, PyData.canLayAll0 (ns.map PyData.int) = true
  | [] => by rw [List.map_nil]; simp [PyData.canLayAll0]
  | n :: ns => by rw [List.map_cons]; simp [PyData.canLayAll0, PyData.canLay0, ints_lay ns]
theorem ints_depth : ∀ ns : List Int, PyData.depthAll (ns.map PyData.int) = 0
  | [] => by rw [List.map_nil]; simp [PyData.depthAll]
  | n :: ns => by rw [List.map_cons]; simp [PyData.depthAll, PyData.depth, ints_depth ns]
theorem rowD_lay {r : Rw} (h : PyData.strOk r.1 = true) : PyData.canLay0 (rowD r) = true := by
  simp [rowD, PyData.canLay0, PyData.canLayAll0, h, ints_lay]
theorem rowD_depth (r : Rw) : PyData.depth (rowD r) = 1 := by
  simp [rowD, PyData.depth, PyData.depthAll, ints_depth]
def WordsOk (rs : List Rw) : Prop := ∀ r ∈ rs, PyData.strOk r.1 = true
theorem rowsD_lay : ∀ {rs : List Rw}, WordsOk rs → PyData.canLayAll0 (rs.map rowD) = true
  | [], _ => by rw [List.map_nil]; simp [PyData.canLayAll0]
  | r :: rs, h => by
    rw [List.map_cons]
    simp [PyData.canLayAll0, rowD_lay (h r List.mem_cons_self), rowsD_lay (fun q hq => h q (List.mem_cons_of_mem _ hq))]
theorem rowsD_depth : ∀ rs : List Rw, PyData.depthAll (rs.map rowD) ≤ 1
  | [] => by rw [List.map_nil]; simp [PyData.depthAll]
  | r :: rs => by
    rw [List.map_cons]
    have := rowsD_depth rs
    simp only [PyData.depthAll, rowD_depth]
    omega
theorem shaped_seq {ds : List PyData} (h : PyData.canLayAll0 ds = true) (h1 : PyData.depthAll ds ≤ 60) : SeqAt.shaped (.tuple ds) = true ∧ SeqAt.shaped (.list ds) = true := by
  have e1 : PyData.depth (.tuple ds) = PyData.depthAll ds + 1 := by simp [PyData.depth]
  have e2 : PyData.depth (.list ds) = PyData.depthAll ds + 1 := by simp [PyData.depth]
  have c1 : PyData.canLay0 (.tuple ds) = true := by simp [PyData.canLay0, h]
  have c2 : PyData.canLay0 (.list ds) = true := by simp [PyData.canLay0, h]
  unfold SeqAt.shaped
  rw [e1, e2, c1, c2]
  exact ⟨by simp; omega, by simp; omega⟩
theorem rowsD_shaped {rs : List Rw} (h : WordsOk rs) : SeqAt.shaped (rowsD rs) = true := (shaped_seq (rowsD_lay h) (Nat.le_trans (rowsD_depth rs) (by decide))).1
theorem rowsDL_shaped {rs : List Rw} (h : WordsOk rs) : SeqAt.shaped (.list (rs.map rowD)) = true := (shaped_seq (rowsD_lay h) (Nat.le_trans (rowsD_depth rs) (by decide))).2
theorem rowsD_refl {rs : List Rw} (h : WordsOk rs) : PyData.eqv (rowsD rs) (rowsD rs) = true := SeqAt.eqv_refl _ (SeqAt.canLay_of_shaped (rowsD_shaped h))
theorem dp_ints {K : PySem.W.Frag} {H : Hp} : ∀ ns : List Int, DpAll K H (ns.map V.int) (ns.map PyData.int)
  | [] => .nil
  | n :: ns => .cons (.int n) (dp_ints ns)
theorem dp_row {K : PySem.W.Frag} {H : Hp} {v : V} {r : Rw} (h : RowAt H v r) : Dp K H v (rowD r) := by
  obtain ⟨a, rfl, ha⟩ := h
  exact .tup (SqT.of ha) (.cons (.str _) (dp_ints _))
theorem dp_rows {K : PySem.W.Frag} {H : Hp} : ∀ {vs : List V} {rs : List Rw}, RowsAt H vs rs → DpAll K H vs (rs.map rowD)
  | [], [], _ => .nil
  | [], _ :: _, h => by have := h.len; simp at this
  | _ :: _, [], h => by have := h.len; simp at this
  | v :: vs, r :: rs, h => .cons (dp_row (h.get 0 v r rfl rfl)) (dp_rows ⟨by have := h.len; simp at this; exact this, fun i v' r' h1 h2 => h.get (i + 1) v' r' h1 h2⟩)
theorem forms_ok : ∀ p ∈ forms, PyData.strOk p.1 = true := by decide +kernel
theorem CodeOk.words {rs : List Rw} (h : CodeOk rs) : WordsOk rs := fun r hr => by
  obtain ⟨i, hi⟩ := List.getElem?_of_mem hr
  obtain ⟨fs, hfs, _⟩ := (h.row i r hi).1.ex
  exact forms_ok _ hfs
theorem RowAt.mut {H : Hp} {v : V} {r : Rw} {D : Addr} {ys : List V} {o : HO} (h : RowAt H v r) (hD : H D = some (.lst ys)) : RowAt (upd H D o) v r := by
  obtain ⟨a, rfl, ha⟩ := h
  exact ⟨a, rfl, by rw [upd_ne (ne_of ha hD (by intro q; cases q))]; exact ha⟩
theorem RowsAt.mut {H : Hp} {vs : List V} {rs : List Rw} {D : Addr} {ys : List V} {o : HO} (h : RowsAt H vs rs) (hD : H D = some (.lst ys)) : RowsAt (upd H D o) vs rs :=
  ⟨h.len, fun i v r h1 h2 => (h.get i v r h1 h2).mut hD⟩
/-! ### a row is left out -/
def lessRow (at_ here : Nat) (r : Rw) : Rw := match r.2 with
  | [a, m, c, n] => if r.1 = "skip" ∧ here < at_ ∧ (at_ : Int) ≤ here + n then (r.1, [a, m, c, n - 1]) else r
  | _ => r
def wo (at_ : Nat) (rs : List Rw) : Nat → List Rw
  | 0 => []
  | i + 1 => wo at_ rs i ++ (match rs[i]? with | none => [] | some r => if i = at_ then [] else [lessRow at_ i r])
def withoutRow (rs : List Rw) (at_ : Nat) : List Rw := wo at_ rs rs.length
theorem wo_skip {at_ i : Nat} {rs : List Rw} {r : Rw} (h : rs[i]? = some r) (e : i = at_) : wo at_ rs (i + 1) = wo at_ rs i := by
  show wo at_ rs i ++ (match rs[i]? with | none => [] | some r => if i = at_ then [] else [lessRow at_ i r]) = _
  rw [h]
  simp [e]
theorem wo_more {at_ i : Nat} {rs : List Rw} {r : Rw} (h : rs[i]? = some r) (e : ¬ i = at_) : wo at_ rs (i + 1) = wo at_ rs i ++ [lessRow at_ i r] := by
  show wo at_ rs i ++ (match rs[i]? with | none => [] | some r => if i = at_ then [] else [lessRow at_ i r]) = _
  rw [h]
  simp [e]
theorem wo_len {at_ : Nat} {rs : List Rw} : ∀ i, i ≤ rs.length → (wo at_ rs i).length = if at_ < i then i - 1 else i
  | 0, _ => by simp [wo]
  | i + 1, h => by
    have hr := List.getElem?_eq_getElem (show i < rs.length by omega)
    have ih := wo_len (at_ := at_) (rs := rs) i (by omega)
    by_cases e : i = at_
    · rw [wo_skip hr e, ih]
      subst e
      simp
    · rw [wo_more hr e, List.length_append, ih, List.length_singleton]
      split <;> split <;> omega
/-- the rows by their places -/
theorem wo_get {at_ : Nat} {rs : List Rw} : ∀ i, i ≤ rs.length → ∀ j r, (wo at_ rs i)[j]? = some r → ∃ q, r = lessRow at_ (if j < at_ then j else j + 1) q ∧ rs[if j < at_ then j else j + 1]? = some q
  | 0, _, j, r, h => by simp [wo] at h
  | i + 1, hi, j, r, h => by
    have hr := List.getElem?_eq_getElem (show i < rs.length by omega)
    by_cases e : i = at_
    · rw [wo_skip hr e] at h
      exact wo_get i (by omega) j r h
    · rw [wo_more hr e] at h
      by_cases hj : j < (wo at_ rs i).length
      · rw [List.getElem?_append_left hj] at h
        exact wo_get i (by omega) j r h
      · rw [List.getElem?_append_right (by omega)] at h
        have hl := wo_len (at_ := at_) (rs := rs) i (by omega)
        have e0 : j - (wo at_ rs i).length = 0 := by
          have := lt_of_get h
          simp at this
          omega
        rw [e0] at h
        have er : lessRow at_ i rs[i] = r := Option.some.inj h
        have ej : (if j < at_ then j else j + 1) = i := by
          split at hl <;> split <;> omega
        rw [ej]
        exact ⟨rs[i], er.symm, hr⟩
theorem lessRow_fst (at_ here : Nat) (r : Rw) : (lessRow at_ here r).1 = r.1 := by
  unfold lessRow
  split
  · split <;> rfl
  · rfl
theorem within_count {n : Int} (h0 : 0 ≤ n) (h1 : n ≤ 1000) : within "count" n = true := by
  unfold within
  rw [if_neg (by decide +kernel), if_neg (by decide +kernel), if_neg (by decide +kernel), if_neg (by decide +kernel), if_neg (by decide +kernel)]
  simp [h0, h1]
theorem count_within {n : Int} (h : within "count" n = true) : 0 ≤ n ∧ n ≤ 1000 := by
  unfold within at h
  rw [if_neg (by decide +kernel), if_neg (by decide +kernel), if_neg (by decide +kernel), if_neg (by decide +kernel), if_neg (by decide +kernel)] at h
  simpa using h
theorem forms_skip : ∀ p ∈ forms, p.1 = "skip" → p.2 = (["register", "modulus", "rest", "count"] : List Str) := by decide +kernel
theorem skip_mem : (("skip" : Str), (["register", "modulus", "rest", "count"] : List Str)) ∈ forms := by decide +kernel
theorem lessRow_ok {at_ here : Nat} {r : Rw} (h : RowOk r.1 r.2) : RowOk (lessRow at_ here r).1 (lessRow at_ here r).2 := by
  unfold lessRow
  split
  · rename_i a m c n e
    split
    · rename_i hc
      obtain ⟨hz, h1, h2⟩ := hc
      obtain ⟨fs, hfs, hl, hw⟩ := h.ex
      have efs : fs = (["register", "modulus", "rest", "count"] : List Str) := forms_skip _ hfs hz
      subst efs
      rw [e] at hw
      have hn := count_within (hw 3 _ n rfl rfl)
      refine ⟨⟨_, hfs, rfl, fun i f k hf hk => ?_⟩, fun _ => ?_⟩
      · match i, hf, hk with
        | 0, hf, hk => exact hw 0 f k hf hk
        | 1, hf, hk => exact hw 1 f k hf hk
        | 2, hf, hk => exact hw 2 f k hf hk
        | 3, hf, hk =>
          have e1 : ("count" : Str) = f := Option.some.inj hf
          have e2 : n - 1 = k := Option.some.inj hk
          subst e1
          subst e2
          exact within_count (by omega) (by omega)
        | i + 4, hf, hk => simp at hf
      · obtain ⟨a', m', c', n', e', hcm⟩ := h.sk hz
        rw [e] at e'
        cases e'
        exact ⟨a, m, c, n - 1, rfl, hcm⟩
    · exact h
  · exact h
theorem lessRow_len (at_ here : Nat) (r : Rw) : (lessRow at_ here r).2.length = r.2.length := by
  unfold lessRow
  split
  · rename_i e
    split
    · rw [e] <;> rfl
    · rfl
  · rfl
theorem without_ok {rs : List Rw} {at_ : Nat} (h : CodeOk rs) (ha : at_ < rs.length) : CodeOk (withoutRow rs at_) := by
  have hl : (withoutRow rs at_).length = rs.length - 1 := by
    unfold withoutRow
    rw [wo_len _ (Nat.le_refl _), if_pos ha]
  refine ⟨by rw [hl]; have := h.few; omega, fun i r hr => ?_, fun i r n hr hz hn => ?_⟩
  · obtain ⟨q, rfl, hq⟩ := wo_get _ (Nat.le_refl _) i r hr
    have := h.row _ _ hq
    exact ⟨lessRow_ok this.1, by rw [lessRow_len]; exact this.2⟩
  · have hi := lt_of_get hr
    rw [hl] at hi
    obtain ⟨q, rfl, hq⟩ := wo_get _ (Nat.le_refl _) i r hr
    rw [lessRow_fst] at hz
    obtain ⟨a, m, c, n0, e, _⟩ := (h.row _ _ hq).1.sk hz
    have hs := h.skip _ q n0 hq hz (by rw [e]; rfl)
    obtain ⟨fs, hfs, hl2, hw⟩ := (h.row _ _ hq).1.ex
    have efs : fs = (["register", "modulus", "rest", "count"] : List Str) := forms_skip _ hfs hz
    subst efs
    have hn0 := count_within (hw 3 _ n0 rfl (by rw [e]; rfl))
    rw [hl]
    unfold lessRow at hn
    rw [e] at hn
    dsimp only at hn
    by_cases hj : i < at_
    · rw [if_pos hj] at hn hs
      by_cases hc : (at_ : Int) ≤ i + n0
      · rw [if_pos ⟨hz, hj, hc⟩] at hn
        have en : n0 - 1 = n := Option.some.inj hn
        omega
      · rw [if_neg (fun q => hc q.2.2), e] at hn
        have en : n0 = n := Option.some.inj hn
        omega
    · rw [if_neg hj] at hn hs
      rw [if_neg (fun q => by omega), e] at hn
      have en : n0 = n := Option.some.inj hn
      omega
section
variable {P : Program} {w : World} {K : PySem.W.Frag} {mg : Str → Option Value} {base : Heap}
/-- every row is well made -/
def RowsOk (rs : List Rw) : Prop := ∀ (i : Nat) r, rs[i]? = some r → RowOk r.1 r.2
theorem CodeOk.rows {rs : List Rw} (h : CodeOk rs) : RowsOk rs := fun i r hr => (h.row i r hr).1
def spWithoutRow (K : PySem.W.Frag) : Sp := fun vs H Q _ => ∃ (l : Addr) (at_ : Nat) (xs : List V) (rs : List Rw), vs = [.ref l, .int at_] ∧ Seq K H l xs ∧ RowsAt H xs rs ∧ RowsOk rs ∧ rs.length ≤ 1000 ∧
  ∀ H' p ys, Same H H' → H p = none → H' p = some (.tup ys) → RowsAt H' ys (withoutRow rs at_) → Q (.ref p) H'
abbrev s_without_row : Stmt := top 17
theorem sc_without_row : FnScope ["rows", "at", "found", "here", "row"] ["rows", "at"] (defScope s_without_row) := ⟨rfl, rfl, rfl, by decide +kernel, rfl, by decide +kernel, by decide +kernel⟩
theorem ok_without_row (F : TopFn K mg "without_row" s_without_row ["rows", "at"]) (T : TxtR K mg) : DefOk P w K mg base 1 "without_row" ["rows", "at"] (spWithoutRow K) := by
  refine F.ok sc_without_row (fun vs H Q E h => ?_) (fun f cdv A outer s H vs Q E hr h => ?_)
  · obtain ⟨l, at_, xs, rs, rfl, _⟩ := h
    rfl
  · obtain ⟨l, at_, xs, rs, rfl, hS, hR, ok, hfew, k⟩ := h
    refine ⟨_, (pss_cons (ps_set (i := 2) sc_without_row.nd rfl (.inl rfl) (pe_lst pa_nil))
    (pss_cut (ps_for PassesOwn.never rfl (pi_enumA (by rfl) T.b_enumerate (pa_cons (pv 0) pa_nil)) (pg_tup rfl (pgs_cons (pg_name (i := 3) sc_without_row.nd rfl (.inl rfl)) (pgs_cons (pg_name (i := 4) sc_without_row.nd rfl (.inl rfl)) pgs_nil)))
    (pss_cut (ps_if (PW.pt (pw_and (pt_cmpR op_eq (pe_ix ix_tup (pv 4) pe_int (fun _ _ => rfl)) pe_str (nomark _)) (pw_and1 (pt_chain op_lt op_le (pv 3) (pv 1) (pe_op op_add (pv 3) (pe_ix ix_tup (pv 4) pe_int (fun _ _ => rfl))))))) (pss_one (ps_set (i := 4) sc_without_row.nd rfl (.inl rfl) (pe_op op_catT (pe_slice sl_tup (pv 4) po_none (po_some pe_int)) (pe_tup (pa_cons (pe_op op_sub (pe_ix ix_tup (pv 4) pe_int (fun _ _ => rfl)) pe_int) pa_nil))))) pss_nil)
    (pss_one (ps_if (pt_cmpR op_ne (pv 3) (pv 1) (nomark _)) (pss_one (ps_expr (pe_bm PySem.F.plainAttrs_list PySem.F.slot_list_append PySem.F.type_list_append mt_append (pv 2) (pa_cons (pv 4) pa_nil)))) pss_nil))))
    (pss_one (ps_ret (pe_callTy call_tuple_of (by rfl) T.b_tuple (by decide +kernel) (pa_cons (pv 2) pa_nil)))))), ?_⟩
    refine ⟨Nat.zero_le _, fun D hD => ?_⟩
    have s0 : Same H (upd H D (.lst [])) := same_new hD
    have hD0 : upd H D (.lst []) D = some (.lst []) := upd_same
    generalize upd H D (.lst []) = H0 at s0 hD0
    refine ⟨fun σ H' => ∃ v3 v4 ys, σ = [some (.ref l), some (.int at_), some (.ref D), v3, v4] ∧ Same H H' ∧ H' D = some (.lst ys) ∧ RowsAt H' ys (withoutRow rs at_), ?_, ?_⟩
    · refine ⟨_, rfl, l, xs, rfl, ?_⟩
      have key : ∀ i σ H', (∃ v3 v4 ys, σ = [some (V.ref l), some (.int at_), some (.ref D), v3, v4] ∧ Same H H' ∧ H' D = some (HO.lst ys) ∧ RowsAt H' ys (wo at_ rs i)) → Same H H' := fun i σ H' ⟨_, _, _, _, s1, _⟩ => s1
      rcases hS with hq | hq
      all_goals (
        first
          | refine .inl ⟨s0.seq hq, for_it (walk_enum (xs := xs)) (fun i σ H' => ∃ v3 v4 ys, σ = [some (V.ref l), some (.int at_), some (.ref D), v3, v4] ∧ Same H H' ∧ H' D = some (HO.lst ys) ∧ RowsAt H' ys (wo at_ rs i)) ?_ ?_ ?_ ?_⟩
          | refine .inr ⟨sqT_same s0 hq, for_it (walk_enumT (xs := xs)) (fun i σ H' => ∃ v3 v4 ys, σ = [some (V.ref l), some (.int at_), some (.ref D), v3, v4] ∧ Same H H' ∧ H' D = some (HO.lst ys) ∧ RowsAt H' ys (wo at_ rs i)) ?_ ?_ ?_ ?_⟩
        · exact ⟨none, none, [], rfl, s0, hD0, RowsAt.nil⟩
        · intro i σ H' _ hP
          first
            | exact (key i σ H' hP).seq hq
            | exact sqT_same (key i σ H' hP) hq
        · rintro i x σ H1 H2 hi ⟨v3, v4, ys, rfl, s1, hD1, hY⟩ ⟨T', x1, y1, rfl, hTn, rfl, e1, hy⟩
          obtain rfl := Option.some.inj e1
          obtain ⟨r, hr1, ra, rfl, hra⟩ := hR.row hy
          have nDT : D ≠ T' := ne_of_none hD1 hTn
          have s2 : Same H (upd H1 T' (.tup [.int (i : Nat), .ref ra])) := s1.trans (same_new hTn)
          have hD2 : upd H1 T' (.tup [.int (i : Nat), .ref ra]) D = some (.lst ys) := by rw [upd_ne nDT]; exact hD1
          have hY2 := hY.same (same_new (o := .tup [.int (i : Nat), .ref ra]) hTn)
          refine ⟨T', _, rfl, SqT.of upd_same, rfl, _, _, rfl, _, _, rfl, rfl, ?_⟩
          generalize upd H1 T' (.tup [.int (i : Nat), .ref ra]) = H2 at s2 hD2 hY2
          have hra2 := s2 _ _ hra
          refine ⟨fun σ H' => ∃ v, σ = [some (V.ref l), some (.int at_), some (.ref D), some (.int (i : Nat)), some v] ∧ Same H H' ∧ H' D = some (HO.lst ys) ∧ RowsAt H' ys (wo at_ rs i) ∧ RowAt H' v (lessRow at_ i r), ?_, ?_⟩
          · refine ⟨_, rfl, ra, _, _, _, rfl, rfl, SqT.of hra2, atI_nat (j := 0) rfl, rfl, _, rfl, ?_⟩
            refine ite2 (fun h => ?_) (fun h => ?_)
            · have ez : r.1 = "skip" := V.str.inj (of_decide_eq_true h)
              obtain ⟨b1, m1, c1, n1, e2, _⟩ := (ok i r hr1).sk ez
              have hra3 : H2 ra = some (.tup [.str r.1, .int b1, .int m1, .int c1, .int n1]) := by rw [hra2, e2]; rfl
              have el0 : lessRow at_ i r = if r.1 = "skip" ∧ i < at_ ∧ (at_ : Int) ≤ i + n1 then (r.1, [b1, m1, c1, n1 - 1]) else r := by
                unfold lessRow
                rw [e2]
              have same : ¬ (i < at_ ∧ (at_ : Int) ≤ i + n1) → RowAt H2 (.ref ra) (lessRow at_ i r) := fun q => by
                rw [el0, if_neg (fun z => q z.2)]
                exact ⟨ra, rfl, hra2⟩
              refine ⟨_, rfl, _, rfl, _, _, rfl, rfl, _, rfl, ?_⟩
              refine ite2 (fun h1 => ?_) (fun h1 => ?_)
              · have h1 : i < at_ := by have := of_decide_eq_true h1; omega
                refine ⟨_, rfl, _, rfl, ra, _, _, _, rfl, rfl, SqT.of hra3, atI_nat (j := 4) rfl, _, _, rfl, rfl, _, _, rfl, rfl, _, rfl, ?_⟩
                refine ite2 (fun h2 => ?_) (fun h2 => ?_)
                · have h2 : (at_ : Int) ≤ i + n1 := of_decide_eq_true h2
                  refine ⟨_, rfl, _, rfl, ra, _, rfl, SqT.of hra3, part_to (k := 4) (show 4 < 5 by decide), fun p1 hp1 => ?_⟩
                  have t1 : Same H2 (upd H2 p1 (.tup [.str r.1, .int b1, .int m1, .int c1])) := same_new hp1
                  have g1 : upd H2 p1 (.tup [.str r.1, .int b1, .int m1, .int c1]) p1 = some (.tup [.str r.1, .int b1, .int m1, .int c1]) := upd_same
                  show tTup _ _ (upd H2 p1 (.tup [.str r.1, .int b1, .int m1, .int c1])) _
                  generalize upd H2 p1 (.tup [.str r.1, .int b1, .int m1, .int c1]) = H3 at t1 g1
                  refine ⟨_, rfl, ra, _, _, _, rfl, rfl, SqT.of (t1 _ _ hra3), atI_nat (j := 4) rfl, _, _, rfl, rfl, (by show 1 ≤ sizeLine; decide), fun p2 hp2 => ?_⟩
                  have t2 : Same H3 (upd H3 p2 (.tup [.int (n1 - 1)])) := same_new hp2
                  refine ⟨p1, p2, _, _, rfl, rfl, SqT.of (t2 _ _ g1), SqT.of upd_same, (by intro q; cases q), (by show 5 ≤ sizeLine; decide), (fun q => by cases q), fun _ p3 hp3 => ?_⟩
                  have t4 := (t1.trans t2).trans (same_new (o := .tup ([V.str r.1, .int b1, .int m1, .int c1] ++ [V.int (n1 - 1)])) hp3)
                  refine ⟨_, rfl, s2.trans t4, t4 _ _ hD2, hY2.same t4, ?_⟩
                  rw [el0, if_pos ⟨ez, h1, h2⟩]
                  exact ⟨p3, rfl, upd_same⟩
                · exact ⟨_, rfl, s2, hD2, hY2, same fun q => h2 (decide_eq_true q.2)⟩
              · refine ⟨_, rfl, ?_⟩
                exact ⟨_, rfl, s2, hD2, hY2, same fun q => h1 (decide_eq_true (by omega))⟩
            · have el : lessRow at_ i r = r := by
                unfold lessRow
                split
                · rw [if_neg (fun q => h (decide_eq_true (by rw [q.1])))]
                · rfl
              exact ⟨_, rfl, s2, hD2, hY2, by rw [el]; exact ⟨ra, rfl, hra2⟩⟩
          · rintro σ H3 ⟨v, rfl, s3, hD3, hY3, hv⟩
            refine ⟨_, rfl, _, rfl, rfl, _, rfl, ?_⟩
            refine ite2 (fun h => ?_) (fun h => ?_)
            · have hne : ¬ i = at_ := fun e => by
                rw [e, decide_eq_true rfl] at h
                cases h
              refine ⟨_, rfl, .inl ⟨rfl, _, SqL.of hD3⟩, _, rfl, D, _, _, rfl, rfl, hD3, ?_, ?_⟩
              · rw [hY3.len]
                have hlt := lt_of_get hr1
                have := wo_len (at_ := at_) (rs := rs) i (by omega)
                exact szK (by split at this <;> omega)
              · have s4 : Same H (upd H3 D (.lst (ys ++ [v]))) := same_mut s3 hD
                refine ⟨_, _, _, rfl, s4, upd_same, ?_⟩
                rw [wo_more hr1 hne]
                exact (hY3.snoc hv).mut hD3
            · have he : i = at_ := by
                have q : decide (V.int (i : Nat) = V.int (at_ : Nat)) = true := by simpa using h
                have := V.int.inj (of_decide_eq_true q)
                omega
              refine ⟨_, _, _, rfl, s3, hD3, ?_⟩
              rw [wo_skip hr1 he]
              exact hY3
        · rintro σ H' ⟨v3, v4, ys, rfl, s1, hD1, hY⟩
          rw [hR.len] at hY
          exact ⟨_, _, _, rfl, s1, hD1, hY⟩)
    · rintro σ H' ⟨v3, v4, ys, rfl, s1, hD1, hY⟩
      refine ⟨_, rfl, D, ys, rfl, .inl ⟨SqL.of hD1, fun q hq => ?_⟩⟩
      exact k _ q ys (s1.trans (same_new hq)) (s1.free hq) upd_same (hY.same (same_new hq))
def spCodeWithout (K : PySem.W.Frag) (C : Addr) : Sp := fun vs H Q _ => ∃ (c p : Addr) (at_ : Nat) (rs : List Rw), vs = [.ref c, .int at_] ∧ CodeAt K C H c p rs ∧ CodeOk rs ∧ at_ < rs.length ∧
  ∀ H' c' p', Same H H' → H c' = none → CodeAt K C H' c' p' (withoutRow rs at_) → Q (.ref c') H'
abbrev s_Code_without : Stmt := inClass (top 29) 2
theorem sc_Code_without : FnScope ["self", "at"] ["self", "at"] (defScope s_Code_without) := ⟨rfl, rfl, rfl, by decide +kernel, rfl, by decide +kernel, by decide +kernel⟩
theorem ok_Code_without {C : Addr} (F : TopMeth K C "without" "Code.without" s_Code_without ["self", "at"]) (cc : CodeCls K mg C) (C_Code : OwnCls K mg "Code" C) (D_Code_init : MethOk P w K mg base 5 C "__init__" ["self", "rows"] (spCodeInit K C))
    (D_without_row : DefOk P w K mg base 1 "without_row" ["rows", "at"] (spWithoutRow K)) : MethOk P w K mg base 7 C "without" ["self", "at"] (spCodeWithout K C) := by
  refine F.ok sc_Code_without (fun vs H Q E h => ?_) (fun f cdv A outer s H vs Q E hr h => ?_)
  · obtain ⟨c, p, at_, rs, rfl, _⟩ := h
    rfl
  · obtain ⟨c, p, at_, rs, rfl, ⟨dx, xs, hc, hp, hR⟩, ok, hat, k⟩ := h
    refine ⟨_, (pss_one (ps_ret (pe_mk C_Code D_Code_init (hr.mono (by decide)) rfl (pa_cons (pe_fn D_without_row (hr.mono (by decide)) rfl (pa_cons (pe_fld (pv 0) (by rfl)) (pa_cons (pv 1) pa_nil))) pa_nil)))), ?_⟩
    refine ⟨_, rfl, c, C, dx, _, _, rfl, hc, cc.own.cl, cc.nR, codeF_rows p, _, rfl, p, at_, xs, rs, rfl, .inr hp, hR, ok.rows, ok.few, fun H1 q ys s1 hq hq1 hY => ?_⟩
    intro x dx2 hx hdx hne
    have s2 : Same H1 (upd (upd H1 dx2 (.own x)) x (.ins C dx2 [])) := fun b o e => by
      rw [upd_ne (ne_of_none e hx), upd_ne (ne_of_none e hdx)]
      exact e
    refine ⟨x, dx2, q, ys, _, rfl, upd_same, .inr (SqT.of (s2 _ _ hq1)), hY.same s2, without_ok ok hat, fun H2 p2 s3 hx2 hp2 => ⟨rfl, ?_⟩⟩
    have s4 : Same H1 H2 := Same.made hx hdx s3
    exact k H2 x p2 (s1.trans s4) (s1.free hx) ⟨dx2, ys, hx2, hp2, hY.same s4⟩
def spCodeLen (K : PySem.W.Frag) (C : Addr) : Sp := fun vs H Q _ => ∃ (c p : Addr) (rs : List Rw), vs = [.ref c] ∧ CodeAt K C H c p rs ∧ Q (.int (rs.length : Nat)) H
abbrev s_Code_len : Stmt := inClass (top 29) 3
theorem sc_Code_len : FnScope ["self"] ["self"] (defScope s_Code_len) := ⟨rfl, rfl, rfl, by decide +kernel, rfl, by decide +kernel, by decide +kernel⟩
theorem ok_Code_len {C : Addr} (F : TopMeth K C "__len__" "Code.__len__" s_Code_len ["self"]) (T : TxtR K mg) (cc : CodeCls K mg C) : MethOk P w K mg base 1 C "__len__" ["self"] (spCodeLen K C) := by
  refine F.ok sc_Code_len (fun vs H Q E h => ?_) (fun f cdv A outer s H vs Q E hr h => ?_)
  · obtain ⟨c, p, rs, rfl, _⟩ := h
    rfl
  · obtain ⟨c, p, rs, rfl, ⟨dx, xs, hc, hp, hR⟩, k⟩ := h
    refine ⟨_, (pss_one (ps_ret (pe_callB call_len_seq (by rfl) T.b_len (by decide +kernel) (pa_cons (pe_fld (pv 0) (by rfl)) pa_nil)))), ?_⟩
    refine ⟨_, rfl, c, C, dx, _, _, rfl, hc, cc.own.cl, cc.nR, codeF_rows p, p, xs, rfl, .inr hp, ?_⟩
    rw [hR.len]
    exact k
def spCodeEq (K : PySem.W.Frag) (C : Addr) : Sp := fun vs H Q _ => ∃ (c p c2 p2 : Addr) (rs rs2 : List Rw), vs = [.ref c, .ref c2] ∧ CodeAt K C H c p rs ∧ CodeAt K C H c2 p2 rs2 ∧ WordsOk rs ∧ WordsOk rs2 ∧ Q (.bl (PyData.eqv (rowsD rs) (rowsD rs2))) H
abbrev s_Code_eq : Stmt := inClass (top 29) 4
theorem sc_Code_eq : FnScope ["self", "other"] ["self", "other"] (defScope s_Code_eq) := ⟨rfl, rfl, rfl, by decide +kernel, rfl, by decide +kernel, by decide +kernel⟩
theorem ok_Code_eq {C : Addr} (F : TopMeth K C "__eq__" "Code.__eq__" s_Code_eq ["self", "other"]) (T : TxtR K mg) (cc : CodeCls K mg C) (ic : IsiCls K C) : MethOk P w K mg base 1 C "__eq__" ["self", "other"] (spCodeEq K C) := by
  refine F.ok sc_Code_eq (fun vs H Q E h => ?_) (fun f cdv A outer s H vs Q E hr h => ?_)
  · obtain ⟨c, p, c2, p2, rs, rs2, rfl, _⟩ := h
    rfl
  · obtain ⟨c, p, c2, p2, rs, rs2, rfl, ⟨dx, xs, hc, hp, hR⟩, ⟨dx2, xs2, hc2, hp2, hR2⟩, w1, w2, k⟩ := h
    refine ⟨_, (pss_one (ps_ret (pe_and (pe_callB call_isi (by rfl) T.b_isinstance (by decide +kernel) (pa_cons (pv 1) (pa_cons (pe_gref rfl cc.own.g) pa_nil))) (pe_one (pe_cmpR (op_eqD hr.units) (pe_fld (pv 0) (by rfl)) (pe_fld (pv 1) (by rfl)) (nomark _)))))), ?_⟩
    refine ⟨_, rfl, _, _, _, _, true, rfl, .own C, .base (.ins hc2 cc.own.cl ic.ha ic.hn ic.htk ic.hm), ic.me, _, rfl, ?_⟩
    refine ⟨_, rfl, c, C, dx, _, _, rfl, hc, cc.own.cl, cc.nR, codeF_rows p, _, rfl, c2, C, dx2, _, _, rfl, hc2, cc.own.cl, cc.nR, codeF_rows p2, ?_⟩
    exact ⟨_, _, .tup hp (dp_rows hR), .tup hp2 (dp_rows hR2), rowsD_shaped w1, rowsD_shaped w2, k⟩
end
end LB
set_option Elab.async false
set_option linter.all false
set_option maxRecDepth 100000
set_option maxHeartbeats 4000000
namespace LB
open PySem PySem.Spec PyProof.Rows L2
open C8 (pss_cut tCut)
open RZ (pi_zipA iZipA ItzT for_zipT)
/-! ### max(xs) of a list of ints -/
def rMaxL (K : PySem.W.Frag) : List V → Hp → VK → Prop := fun vs H Q => ∃ (p : Addr) (ns : List Int), vs = [.ref p] ∧ SqL K H p (ns.map V.int) ∧ 0 < ns.length ∧ ∀ M, M ∈ ns → (∀ a ∈ ns, a ≤ M) → Q (.int M) H
theorem vals_ints : ∀ {ns : List Int} {us : List Value}, Vals (ns.map V.int) us → IntsAre us ns
  | [], us, h => by
    cases h
    exact .nil
  | n :: ns, us, h => by
    cases h with
    | cons r rr =>
      obtain ⟨t, rfl⟩ := r
      exact .cons _ _ (vals_ints rr)
theorem call_maxL {X : Cx} (hc : X.calm = true) : CallR X (.builtin "max") (rMaxL X.K) := by
  intro pins s σ H vs us Q I r h
  obtain ⟨p, ns, rfl, hs, hne, q⟩ := h
  obtain ⟨its, rv, hl, _⟩ := I.list hs
  rw [Vals.ref1 r]
  have hi := vals_ints rv
  obtain ⟨xs, e⟩ := hi.allInts.items
  have hns : ns = xs.toList.map (·.1) := by
    rw [← hi.numsOf, ← nums_intItems, ← e]
  have hsz : 0 < xs.size := by
    have h3 := hne; rw [hns, List.length_map, Array.length_toList] at h3; exact h3
  have hl2 := hl.isList
  rw [e] at hl2
  refine max_intList (I.ok.hd hc) hl2 hsz fun v h' tk hv hk => ?_
  obtain ⟨t, rfl⟩ := intItems_at hv
  obtain ⟨h1, h2⟩ := argBest_gt (numAt xs) (xs.size - 1)
  refine ⟨V.int _, H, I.kept (t' := tk) hk, ⟨t, rfl⟩, q _ ?_ fun a ha => ?_⟩
  · rw [hns, numAt_eq]; exact getD_mem (by rw [List.length_map, Array.length_toList]; omega)
  · rw [hns] at ha
    obtain ⟨j, hj, rfl⟩ := mem_getD ha
    rw [List.length_map, Array.length_toList] at hj
    rw [← numAt_eq]; exact h2 j (by omega)
theorem walk_zipT {K : PySem.W.Frag} {a b : Addr} {xs ys : List V} {n : Nat} (hn : n = min xs.length ys.length) : Walk (ItzT K a b) n (fun H => SqT K H a xs ∧ SqT K H b ys) (YPair (fun i => xs[i]?) (fun i => ys[i]?)) := by
  subst hn
  refine ⟨fun i _ hi q => ?_, fun _ q => ⟨xs, ys, q.1, q.2, by omega⟩, fun i H v H' _ q y => ?_⟩
  · have h1 : i < xs.length := by omega
    have h2 : i < ys.length := by omega
    exact ⟨xs, ys, xs[i], ys[i], q.1, q.2, by simp [h1], by simp [h2]⟩
  · obtain ⟨T, x, z, h1, h2, h3, h4, h5⟩ := y
    exact ⟨T, x, z, h1, h2, h3, h4 xs q.1, h5 ys q.2⟩
/-! ### the registers of a row -/
def regsF : List Str → List Int → List Int
  | f :: fs, n :: ns => (if f = "register" then [n] else []) ++ regsF fs ns
  | _, _ => []
theorem regsF_more : ∀ {i : Nat} {fs : List Str} {ns : List Int} {f : Str} {n : Int}, fs[i]? = some f → ns[i]? = some n → regsF (fs.take (i + 1)) (ns.take (i + 1)) = regsF (fs.take i) (ns.take i) ++ (if f = "register" then [n] else [])
  | i, [], ns, f, n, h1, h2 => by simp at h1
  | i, g :: fs, [], f, n, h1, h2 => by simp at h2
  | 0, g :: fs, m :: ns, f, n, h1, h2 => by
    have e1 : g = f := Option.some.inj h1
    have e2 : m = n := Option.some.inj h2
    subst e1
    subst e2
    simp [regsF]
  | i + 1, g :: fs, m :: ns, f, n, h1, h2 => by
    have ih := regsF_more (i := i) (fs := fs) (ns := ns) h1 h2
    simp only [List.take_succ_cons, regsF, ih, List.append_assoc]
theorem regsF_ne : ∀ {fs : List Str} {ns : List Int}, ("register" : Str) ∈ fs → fs.length = ns.length → 0 < (regsF fs ns).length
  | [], ns, h, _ => by simp at h
  | f :: fs, [], h, e => by simp at e
  | f :: fs, n :: ns, h, e => by
    unfold regsF
    rw [List.length_append]
    by_cases hf : f = "register"
    · rw [if_pos hf]
      simp
      omega
    · rcases List.mem_cons.mp h with q | q
      · exact absurd q.symm hf
      · have := regsF_ne (fs := fs) (ns := ns) q (by simpa using e)
        omega
theorem regsF_len : ∀ {fs : List Str} {ns : List Int}, (regsF fs ns).length ≤ ns.length
  | [], ns => by simp [regsF]
  | f :: fs, [] => by simp [regsF]
  | f :: fs, n :: ns => by
    have := regsF_len (fs := fs) (ns := ns)
    unfold regsF
    rw [List.length_append, List.length_cons]
    split <;> simp <;> omega
def formOf (z : Str) : List Str := ((forms.find? fun p => decide (p.1 = z)).map (·.2)).getD []
theorem formOf_of : ∀ p ∈ forms, formOf p.1 = p.2 := by decide +kernel
theorem form_reg : ∀ p ∈ forms, ("register" : Str) ∈ p.2 := by decide +kernel
def regsR (r : Rw) : List Int := regsF (formOf r.1) r.2
/-- some register of the row is not one of the first R -/
def big (R : Int) (r : Rw) : Bool := (regsR r).any fun n => decide (R ≤ n)
theorem big_max {R M : Int} {r : Rw} (h1 : M ∈ regsR r) (h2 : ∀ a ∈ regsR r, a ≤ M) : decide (M ≥ R) = big R r := by
  unfold big
  by_cases h : R ≤ M
  · rw [decide_eq_true h, eq_comm, List.any_eq_true]
    exact ⟨M, h1, decide_eq_true h⟩
  · rw [decide_eq_false h, eq_comm, List.any_eq_false]
    intro a ha
    have := h2 a ha
    simp
    omega
theorem RowOk.regs {r : Rw} (ok : RowOk r.1 r.2) : 0 < (regsR r).length := by
  obtain ⟨fs, hfs, lfs, _⟩ := ok.ex
  unfold regsR
  rw [formOf_of _ hfs]
  exact regsF_ne (form_reg _ hfs) lfs
section
variable {P : Program} {w : World} {K : PySem.W.Frag} {mg : Str → Option Value} {base : Heap}
def spRegistersOf : Sp := fun vs H Q _ => ∃ (a : Addr) (r : Rw), vs = [.ref a] ∧ H a = some (.tup (rowL r.1 r.2)) ∧ RowOk r.1 r.2 ∧ r.2.length ≤ 10 ∧
  ∀ H' D, Same H H' → H' D = some (.lst ((regsR r).map V.int)) → Q (.ref D) H'
abbrev s_registers_of : Stmt := top 14
theorem sc_registers_of : FnScope ["row", "form", "item"] ["row"] (defScope s_registers_of) := ⟨rfl, rfl, rfl, by decide +kernel, rfl, by decide +kernel, by decide +kernel⟩
theorem ok_registers_of {d : Addr} {es : Array DictEntry} {n : Nat} (F : TopFn K mg "registers_of" s_registers_of ["row"]) (T : TxtR K mg) (FA : FormsAt K w mg d es n) :
    DefOk P w K mg base 1 "registers_of" ["row"] spRegistersOf := by
  refine F.ok sc_registers_of (fun vs H Q E h => ?_) (fun f cdv A outer s H vs Q E hr h => ?_)
  · obtain ⟨a, r, rfl, _⟩ := h
    rfl
  · obtain ⟨a, r, rfl, ha, ok, hlen, k⟩ := h
    obtain ⟨z, ns⟩ := r
    obtain ⟨fs, hfs, lfs, hw⟩ := ok.ex
    obtain ⟨t, ht, hT⟩ := FA.all _ hfs
    have h0 : atI (rowL z ns) 0 = some (.str z) := atI_nat (j := 0) rfl
    have lfs : fs.length = ns.length := lfs
    have er : regsR (z, ns) = regsF fs ns := by
      unfold regsR
      rw [formOf_of _ hfs]
    rw [er] at k
    refine ⟨_, (pss_one (ps_ret (pe_lc (own := [("form", 1), ("item", 2)]) (g := gTup K 2 (gCons (gName 1) (gCons (gName 2) gNil))) rfl sc_registers_of.nd (pi_zipA (by rfl) T.b_zip (pa_cons (pe_ix ix_kdict (pe_gref rfl FA.g) (pe_ix ix_tup (pv 0) pe_int (fun _ _ => rfl)) (fun _ _ => rfl)) (pa_cons (pe_slice sl_tup (pv 0) (po_some pe_int) po_none) pa_nil))) (blkOk_by (own := [("form", 1), ("item", 2)]) (N := ["row", "form", "item"]) (sc := defScope s_registers_of) (by decide +kernel)) (fun _ _ _ _ _ => (pg_tup rfl (pgs_cons (pg_name (i := 1) sc_registers_of.nd rfl (.inl rfl)) (pgs_cons (pg_name (i := 2) sc_registers_of.nd rfl (.inl rfl)) pgs_nil)))) (fun _ _ _ _ _ => (pts_one (pt_cmpR op_eq (pv 1) pe_str (nomark _)))) (fun _ _ _ _ _ => (pv 2))))), ?_⟩
    refine ⟨_, rfl, a, _, _, _, rfl, rfl, SqT.of ha, h0, d, z, .ref t, rfl, rfl, ⟨es, n, _, FA.kd.at_, FA.kd.lit, ht, rfl⟩, ?_⟩
    refine ⟨_, rfl, _, rfl, a, _, rfl, SqT.of ha, part_from (k := 1) (by decide) (by unfold rowL; rw [List.length_cons]; omega), fun p hp => ?_⟩
    rw [show cutV (rowL z ns) (some 1) none = ns.map V.int from cut_from (rowL z ns) 1 (by unfold rowL; rw [List.length_cons]; omega)]
    have s1 : Same H (upd H p (.tup (ns.map V.int))) := same_new hp
    have hp1 : upd H p (.tup (ns.map V.int)) p = some (.tup (ns.map V.int)) := upd_same
    generalize upd H p (.tup (ns.map V.int)) = H1 at s1 hp1
    refine ⟨t, p, _, _, rfl, .inr ⟨hT _, SqT.of hp1, fun D hD => ?_⟩⟩
    refine lc_it (walk_zipT (xs := fs.map V.str) (ys := ns.map V.int) (n := ns.length) (by rw [List.length_map, List.length_map, lfs, Nat.min_self])) (fun i H' => Same H1 H' ∧ H' D = some (.lst ((regsF (fs.take i) (ns.take i)).map V.int)))
      ⟨same_new hD, upd_same⟩ (fun i H' _ ⟨s2, _⟩ => ⟨hT _, SqT.of (s2 _ _ hp1)⟩) ?_ ?_
    · rintro i x H2 H3 hi ⟨s2, hD2⟩ ⟨T', x1, y1, rfl, hTn, rfl, hx, hy⟩
      obtain ⟨f1, hf1, rfl⟩ := map_get hx
      obtain ⟨m, hm, rfl⟩ := map_get hy
      have more := regsF_more hf1 hm
      have nD : D ≠ T' := ne_of_none hD2 hTn
      refine ⟨T', _, rfl, SqT.of upd_same, rfl, _, _, rfl, _, _, rfl, rfl, rfl, ?_⟩
      refine ⟨_, rfl, rfl, _, rfl, ?_⟩
      refine ite2 (fun h => ?_) (fun h => ?_)
      · have ef : f1 = "register" := V.str.inj (of_decide_eq_true h)
        rw [if_pos ef] at more
        refine ⟨_, rfl, _, (by rw [upd_ne nD]; exact hD2), ?_, ?_, ?_⟩
        · have := regsF_len (fs := fs.take i) (ns := ns.take i)
          rw [List.length_take] at this
          exact szK (by rw [List.length_map]; omega)
        · exact same_mut (s2.trans (same_new hTn)) hD
        · rw [upd_same, more, List.map_append]
          rfl
      · have ef : ¬ f1 = "register" := fun e => h (decide_eq_true (by rw [e]))
        rw [if_neg ef, List.append_nil] at more
        rw [more]
        exact ⟨s2.trans (same_new hTn), by rw [upd_ne nD]; exact hD2⟩
    · rintro H2 ⟨s2, hD2⟩
      rw [List.take_of_length_le (by omega), List.take_of_length_le (by omega)] at hD2
      exact k H2 D (s1.trans s2) hD2
end
end LB
set_option Elab.async false
set_option linter.all false
set_option maxRecDepth 100000
set_option maxHeartbeats 4000000
namespace LB
open PySem PySem.Spec PyProof.Rows L2
open C8 (pss_cut tCut)
/-! ### what an exception with two fields leaves -/
theorem raise2 {K : PySem.W.Frag} {C : Addr} {f g : Str} {x y : V} {H1 : Hp} {W : Value → Option Addr → Hp → Prop} (k : ∀ d H', Same H1 H' → H1 d = none → H' d = some (.xd [(g, y), (f, x)]) → W (.ref C) (some d) H') :
    ∀ a, H1 a = none → spExc2 K C f g [.ref a, x, y] (upd H1 a (exo a C none)) (fun v H2 => v = .non ∧ ∃ (d : Addr) (fs : List (Str × V)), H2 a = some (exo a C (some d)) ∧ H2 d = some (exd d fs) ∧ H1 d = none ∧ W (.ref C) (some d) (upd (del H2 a) d (.xd fs))) (fun _ _ _ => False) := by
  intro a ha
  refine ⟨a, x, y, rfl, upd_same, fun dx h1 h2 => ⟨rfl, dx, [(g, y), (f, x)], ?_, upd_same, ?_, ?_⟩⟩
  · rw [upd_ne h2.symm, upd_same]
  · rw [upd_ne h2] at h1
    exact h1
  · rw [upd_ne h2] at h1
    refine k dx _ (fun b o e => ?_) h1 upd_same
    have n1 : b ≠ dx := ne_of_none e h1
    have n2 : b ≠ a := ne_of_none e ha
    rw [upd_ne n1, del_ne n2, upd_ne n1, upd_ne n2, upd_ne n1, upd_ne n2]
    exact e
section
variable {P : Program} {w : World} {K : PySem.W.Frag} {mg : Str → Option Value} {base : Heap}
abbrev s_InvalidCode_init : Stmt := inClass (top 21) 0
theorem sc_InvalidCode_init : FnScope ["self", "word", "row"] ["self", "word", "row"] (defScope s_InvalidCode_init) := ⟨rfl, rfl, rfl, by decide +kernel, rfl, by decide +kernel, by decide +kernel⟩
theorem ok_InvalidCode_init {C L : Addr} (F : TopMeth K C "__init__" "InvalidCode.__init__" s_InvalidCode_init ["self", "word", "row"]) (LT : LowTxt K mg L) (xc : ExcCls K mg "InvalidCode" C)
    (nW : PySem.W.findIn K (.ref C) "word" = some none) (nR : PySem.W.findIn K (.ref C) "row" = some none) : MethOk P w K mg base 1 C "__init__" ["self", "word", "row"] (spExc2 K C "word" "row") := by
  refine F.ok sc_InvalidCode_init (fun vs H Q E h => ?_) (fun f cdv A outer s H vs Q E hr h => ?_)
  · obtain ⟨a, x, y, rfl, _⟩ := h
    rfl
  · obtain ⟨a, x, y, rfl, ha, k⟩ := h
    refine ⟨_, (pss_cons (ps_expr (pe_loinit LT rfl (pa_cons (pv 0) (pa_cons pe_str pa_nil))))
    (pss_cons (ps_ost (pv 0) (pv 1))
    (pss_one (ps_ost (pv 0) (pv 2))))), ?_⟩
    refine ⟨_, rfl, a, C, _, rfl, (by show 1 ≤ 1000; decide), xc.oex, ha, ?_⟩
    refine ⟨_, rfl, _, rfl, a, C, rfl, xc.oex, nW, .inl ⟨ha, fun dx hd hne => ?_⟩⟩
    refine ⟨_, rfl, _, rfl, a, C, rfl, xc.oex, nR, .inr ⟨dx, _, upd_same, (by rw [upd_ne hne, upd_same]), (by show 1 ≤ 900; decide), ?_⟩⟩
    exact k dx hd hne
/-! ### the class Machine -/
def machF (W R : Int) : List (Str × V) := [("width", .int W), ("registers", .int R)]
theorem machF_put (W R : Int) : putF "registers" (.int R) [("width", .int W)] = machF W R := by kernel_rfl
theorem machF_w (W R : Int) : (machF W R).lookup ("width" : Str) = some (.int W) := by kernel_rfl
theorem machF_r (W R : Int) : (machF W R).lookup ("registers" : Str) = some (.int R) := by kernel_rfl
def MachAt (C : Addr) (H : Hp) (a : Addr) (W R : Int) : Prop := ∃ dx, H a = some (.ins C dx (machF W R))
structure MachCls (K : PySem.W.Frag) (mg : Str → Option Value) (C : Addr) : Prop where
  own : OwnCls K mg "Machine" C
  nW : NoAttr K C "width"
  nR : NoAttr K C "registers"
theorem MachAt.same {C a : Addr} {H H' : Hp} {W R : Int} (s : Same H H') (h : MachAt C H a W R) : MachAt C H' a W R := let ⟨dx, e⟩ := h; ⟨dx, s _ _ e⟩
def spMachInit (C : Addr) : Sp := fun vs H Q _ => ∃ (x dx : Addr) (W R : Int), vs = [.ref x, .int W, .int R] ∧ H x = some (.ins C dx []) ∧
  ∀ H', (∀ b o, H b = some o → b ≠ x → H' b = some o) → H' x = some (.ins C dx (machF W R)) → Q .non H'
abbrev s_Machine_init : Stmt := inClass (top 27) 0
theorem sc_Machine_init : FnScope ["self", "width", "registers"] ["self", "width", "registers"] (defScope s_Machine_init) := ⟨rfl, rfl, rfl, by decide +kernel, rfl, by decide +kernel, by decide +kernel⟩
theorem ok_Machine_init {C : Addr} (F : TopMeth K C "__init__" "Machine.__init__" s_Machine_init ["self", "width", "registers"]) (mc : MachCls K mg C) : MethOk P w K mg base 1 C "__init__" ["self", "width", "registers"] (spMachInit C) := by
  refine F.ok sc_Machine_init (fun vs H Q E h => ?_) (fun f cdv A outer s H vs Q E hr h => ?_)
  · obtain ⟨x, dx, W, R, rfl, _⟩ := h
    rfl
  · obtain ⟨x, dx, W, R, rfl, hx, k⟩ := h
    refine ⟨_, (pss_cons (ps_fld (pv 0) (pv 1) rfl)
    (pss_one (ps_fld (pv 0) (pv 2) rfl))), ?_⟩
    refine ⟨_, rfl, _, rfl, x, C, dx, _, rfl, hx, mc.own.cl, mc.nW, (by decide), ?_⟩
    refine ⟨_, rfl, _, rfl, x, C, dx, _, rfl, upd_same, mc.own.cl, mc.nR, (by show 1 < 1000; decide), ?_⟩
    refine k _ (fun b o e hb => ?_) ?_
    · rw [upd_ne hb, upd_ne hb]
      exact e
    · rw [upd_same]
      show some (HO.ins C dx (putF "registers" (.int R) [("width", .int W)])) = _
      rw [machF_put]
/-! ### need_registers -/
def spNeed (K : PySem.W.Frag) (CM CC CI : Addr) : Sp := fun vs H Q E => ∃ (m c p : Addr) (W R : Int) (rs : List Rw), vs = [.ref m, .ref c] ∧ MachAt CM H m W R ∧ CodeAt K CC H c p rs ∧ CodeOk rs ∧
  ((∀ (i : Nat) r, rs[i]? = some r → big R r = false) → ∀ H', Same H H' → Q .non H') ∧
  (∀ (i : Nat) r, rs[i]? = some r → big R r = true → (∀ (j : Nat) q, j < i → rs[j]? = some q → big R q = false) → ∀ d H', Same H H' → H d = none → H' d = some (.xd [("row", .int i), ("word", .str "register")]) → E (.ref CI) (some d) H')
abbrev s_need_registers : Stmt := top 23
theorem sc_need_registers : FnScope ["machine", "code", "at", "row"] ["machine", "code"] (defScope s_need_registers) := ⟨rfl, rfl, rfl, by decide +kernel, rfl, by decide +kernel, by decide +kernel⟩
theorem ok_need_registers {CM CC CI : Addr} (F : TopFn K mg "need_registers" s_need_registers ["machine", "code"]) (T : TxtR K mg) (mc : MachCls K mg CM) (cc : CodeCls K mg CC) (XC_InvalidCode : ExcCls K mg "InvalidCode" CI)
    (D_InvalidCode_init : MethOk P w K mg base 1 CI "__init__" ["self", "word", "row"] (spExc2 K CI "word" "row")) (D_registers_of : DefOk P w K mg base 1 "registers_of" ["row"] spRegistersOf) :
    DefX P w K mg base 3 "need_registers" ["machine", "code"] [] (spNeed K CM CC CI) := by
  refine F.okX sc_need_registers (fun vs H Q E h => ?_) (fun f cdv A outer s H vs Q E hr h => ?_)
  · obtain ⟨m, c, p, W, R, rs, rfl, _⟩ := h
    rfl
  · obtain ⟨m, c, p, W, R, rs, rfl, hM, hC, ok, k1, k2⟩ := h
    obtain ⟨dxm, hM⟩ := hM
    obtain ⟨dxc, xs, hc, hT, hR⟩ := hC
    refine ⟨_, (pss_one (ps_for (passes_of rfl) rfl (pi_enumA (by rfl) T.b_enumerate (pa_cons (pe_fld (pv 1) (by rfl)) pa_nil)) (pg_tup rfl (pgs_cons (pg_name (i := 2) sc_need_registers.nd rfl (.inl rfl)) (pgs_cons (pg_name (i := 3) sc_need_registers.nd rfl (.inl rfl)) pgs_nil)))
    (pss_one (ps_if (pt_cmpR op_ge (pe_callB (call_maxL rfl) (by rfl) T.b_max (by decide +kernel) (pa_cons (pe_fn D_registers_of (hr.mono (by decide)) rfl (pa_cons (pv 3) pa_nil)) pa_nil)) (pe_fld (pv 0) (by rfl)) (nomark _)) (pss_one (ps_raiseO XC_InvalidCode D_InvalidCode_init rfl (takes_of rfl rfl rfl rfl) (hr.mono (by decide)) rfl (pa_cons pe_str (pa_cons (pv 2) pa_nil)))) pss_nil)))), ?_⟩
    refine ⟨_, rfl, c, CC, dxc, _, _, rfl, hc, cc.own.cl, cc.nR, codeF_rows p, p, xs, rfl, .inr ⟨hT, ?_⟩⟩
    refine for_it (walk_enumT (xs := xs)) (fun i σ H' => ∃ v1 v2, σ = [some (.ref m), some (.ref c), v1, v2] ∧ Same H H' ∧ ∀ (j : Nat) q, j < i → rs[j]? = some q → big R q = false) ⟨none, none, rfl, Same.refl _, fun j q h => absurd h (Nat.not_lt_zero _)⟩ (fun i σ H' _ ⟨_, _, _, s1, _⟩ => sqT_same s1 hT) ?_ ?_
    · rintro i x σ H1 H2 hi ⟨v1, v2, rfl, s1, hj⟩ ⟨T', x1, y1, rfl, hTn, rfl, e1, hy⟩
      obtain rfl := Option.some.inj e1
      obtain ⟨r, hr1, ra, rfl, hra⟩ := hR.row hy
      have s2 : Same H (upd H1 T' (.tup [.int (i : Nat), .ref ra])) := s1.trans (same_new hTn)
      have hR2 := ok.row i r hr1
      refine ⟨T', _, rfl, SqT.of upd_same, rfl, _, _, rfl, _, _, rfl, rfl, ?_⟩
      generalize upd H1 T' (.tup [.int (i : Nat), .ref ra]) = H2 at s2
      refine ⟨_, rfl, ra, r, rfl, s2 _ _ hra, hR2.1, hR2.2, fun H3 D s3 hD => ?_⟩
      have s4 := s2.trans s3
      refine ⟨D, _, rfl, SqL.of hD, hR2.1.regs, fun M hm1 hm2 => ?_⟩
      refine ⟨_, rfl, m, CM, dxm, _, _, rfl, s4 _ _ hM, mc.own.cl, mc.nR, machF_r W R, _, _, rfl, rfl, _, rfl, ?_⟩
      have eb := big_max (R := R) hm1 hm2
      refine ite2 (fun h => ?_) (fun h => ?_)
      · have hb : big R r = true := by rw [← eb]; exact h
        refine ⟨_, rfl, (by show 2 ≤ 1000; decide), ?_⟩
        exact raise2 (K := K) (C := CI) (W := fun c d H' => E c d H') fun d H' s5 hd hx => k2 i r hr1 hb hj d H' (s4.trans s5) (by
          cases e : H d with
          | none => rfl
          | some o =>
            rw [s4 _ _ e] at hd
            cases hd) hx
      · have hb : big R r = false := by rw [← eb]; exact Bool.eq_false_iff.mpr h
        refine ⟨_, _, rfl, s4, fun j q hji hq => ?_⟩
        by_cases e : j = i
        · subst e
          rw [hr1] at hq
          cases hq
          exact hb
        · exact hj j q (by omega) hq
    · rintro σ H' ⟨v1, v2, rfl, s1, hj⟩
      exact k1 (fun i r hi => hj i r (by have := lt_of_get hi; rw [hR.len]; exact this) hi) H' s1
end
end LB
set_option Elab.async false
set_option linter.all false
set_option maxRecDepth 100000
set_option maxHeartbeats 4000000
namespace LB
open PySem PySem.Spec PyProof.Rows L2
open C8 (pss_cut tCut)
/-! ### heaps -/
def But (S : List Addr) (H H' : Hp) : Prop := ∀ b o, H b = some o → b ∉ S → H' b = some o
theorem But.refl {S : List Addr} {H : Hp} : But S H H := fun _ _ h _ => h
theorem But.trans {S : List Addr} {H H1 H2 : Hp} (a : But S H H1) (b : But S H1 H2) : But S H H2 := fun x o h n => b x o (a x o h n) n
theorem But.sub {S S' : List Addr} {H H' : Hp} (a : But S H H') (h : ∀ x ∈ S, x ∈ S') : But S' H H' := fun x o e n => a x o e fun q => n (h x q)
theorem But.upd {S : List Addr} {H H' : Hp} {p : Addr} {o : HO} (a : But S H H') (h : p ∈ S) : But S H (L2.upd H' p o) := fun x u e n => by
  rw [upd_ne (fun q => n (by rw [q]; exact h))]
  exact a x u e n
theorem But.of_same {S : List Addr} {H H' : Hp} (s : Same H H') : But S H H' := fun b o e _ => s b o e
/-- what stands at a is no tuple -/
def NoTup (o : HO) : Prop := (∀ u, o ≠ .tup u) ∧ ∀ q u, o ≠ .frz q u
theorem sqT_upd {K : PySem.W.Frag} {H : Hp} {a p : Addr} {o o' : HO} {xs : List V} (h : SqT K H p xs) (ha : H a = some o) (k : NoTup o) : SqT K (upd H a o') p xs := by
  rcases h with (h | ⟨q, h⟩) | h
  · exact .inl (.inl (by rw [upd_ne (ne_of h ha (fun z => k.1 _ z.symm))]; exact h))
  · exact .inl (.inr ⟨q, by rw [upd_ne (ne_of h ha (fun z => k.2 _ _ z.symm))]; exact h⟩)
  · exact .inr h
theorem rowsAt_upd {H : Hp} {a : Addr} {o o' : HO} {vs : List V} {rs : List Rw} (h : RowsAt H vs rs) (ha : H a = some o) (k : NoTup o) : RowsAt (upd H a o') vs rs :=
  ⟨h.len, fun i v r h1 h2 => by
    obtain ⟨b, rfl, hb⟩ := h.get i v r h1 h2
    exact ⟨b, rfl, by rw [upd_ne (ne_of hb ha (fun z => k.1 _ z.symm))]; exact hb⟩⟩
theorem seq_upd {K : PySem.W.Frag} {H : Hp} {a p : Addr} {o o' : HO} {xs : List V} (h : Seq K H p xs) (ha : H a = some o) (k : NoTup o) (hp : p ≠ a ∨ ∀ u, o ≠ .lst u) : Seq K (upd H a o') p xs := by
  rcases h with h | h
  · refine .inl ?_
    rcases h with (h | ⟨q, h⟩) | h
    · refine .inl (.inl ?_)
      rw [upd_ne (hp.elim id fun z => ne_of h ha (fun q => z _ q.symm))]
      exact h
    · exact .inl (.inr ⟨q, by rw [upd_ne (ne_of h ha (fun z => k.2 _ _ z.symm))]; exact h⟩)
    · exact .inr h
  · exact .inr (sqT_upd h ha k)
theorem noTup_ins {C dx : Addr} {fs : List (Str × V)} : NoTup (.ins C dx fs) := ⟨fun _ z => (by cases z), fun _ _ z => (by cases z)⟩
theorem noTup_lst {xs : List V} : NoTup (.lst xs) := ⟨fun _ z => (by cases z), fun _ _ z => (by cases z)⟩
theorem noTup_dK {xs : List (Key × V)} : NoTup (.dK xs) := ⟨fun _ z => (by cases z), fun _ _ z => (by cases z)⟩
theorem sqT_but {K : PySem.W.Frag} {H H' : Hp} {S : List Addr} {p : Addr} {xs : List V} (h : SqT K H p xs) (b : But S H H') (k : ∀ a ∈ S, ∃ o, H a = some o ∧ NoTup o) : SqT K H' p xs := by
  rcases h with (h | ⟨q, h⟩) | h
  · exact .inl (.inl (b _ _ h fun z => by
      obtain ⟨o, e, n⟩ := k _ z
      rw [h] at e
      cases e
      exact n.1 _ rfl))
  · exact .inl (.inr ⟨q, b _ _ h fun z => by
      obtain ⟨o, e, n⟩ := k _ z
      rw [h] at e
      cases e
      exact n.2 _ _ rfl⟩)
  · exact .inr h
/-! ### the class Runner -/
def runF (m : Int) (pr pf ra sa : Addr) (at_ rg : Nat) : List (Str × V) := [("modulus", .int m), ("rows", .ref pr), ("fills", .ref pf), ("registers", .ref ra), ("slots", .ref sa), ("at", .int at_), ("rights", .int rg)]
section
variable (m : Int) (pr pf ra sa : Addr) (at_ rg n : Nat)
theorem runF_modulus : (runF m pr pf ra sa at_ rg).lookup ("modulus" : Str) = some (.int m) := by kernel_rfl
theorem runF_rows : (runF m pr pf ra sa at_ rg).lookup ("rows" : Str) = some (.ref pr) := by kernel_rfl
theorem runF_fills : (runF m pr pf ra sa at_ rg).lookup ("fills" : Str) = some (.ref pf) := by kernel_rfl
theorem runF_registers : (runF m pr pf ra sa at_ rg).lookup ("registers" : Str) = some (.ref ra) := by kernel_rfl
theorem runF_slots : (runF m pr pf ra sa at_ rg).lookup ("slots" : Str) = some (.ref sa) := by kernel_rfl
theorem runF_at : (runF m pr pf ra sa at_ rg).lookup ("at" : Str) = some (.int at_) := by kernel_rfl
theorem runF_rights : (runF m pr pf ra sa at_ rg).lookup ("rights" : Str) = some (.int rg) := by kernel_rfl
theorem runF_fill : (runF m pr pf ra sa at_ rg).lookup ("fill" : Str) = none := by kernel_rfl
theorem runF_computed : (runF m pr pf ra sa at_ rg).lookup ("computed" : Str) = none := by kernel_rfl
theorem runF_advance : (runF m pr pf ra sa at_ rg).lookup ("advance" : Str) = none := by kernel_rfl
theorem runF_put_at : putF "at" (.int n) (runF m pr pf ra sa at_ rg) = runF m pr pf ra sa n rg := by kernel_rfl
theorem runF_put_rg : putF "rights" (.int n) (runF m pr pf ra sa at_ rg) = runF m pr pf ra sa at_ n := by kernel_rfl
end
structure RunCls (K : PySem.W.Frag) (mg : Str → Option Value) (C : Addr) : Prop where
  own : OwnCls K mg "Runner" C
  n_modulus : NoAttr K C "modulus"
  n_rows : NoAttr K C "rows"
  n_fills : NoAttr K C "fills"
  n_registers : NoAttr K C "registers"
  n_slots : NoAttr K C "slots"
  n_at : NoAttr K C "at"
  n_rights : NoAttr K C "rights"
structure Fx where
  pr : Addr
  pf : Addr
  ra : Addr
  sa : Addr
  xs : List V
  rs : List Rw
  fl : List Int
  m : Int
/-- a runner stands at x -/
structure RunAt (K : PySem.W.Frag) (C x : Addr) (g : Fx) (s : Mc) (H : Hp) : Prop where
  hx : ∃ dx, H x = some (.ins C dx (runF g.m g.pr g.pf g.ra g.sa s.at_ s.rg))
  hra : H g.ra = some (.lst (s.regs.map V.int))
  hsa : H g.sa = some (.dK s.kv)
  hp : SqT K H g.pr g.xs
  hR : RowsAt H g.xs g.rs
  hf : Seq K H g.pf (g.fl.map V.int)
  ne : g.pf ≠ g.ra ∨ ∀ H', Seq K H' g.pf (g.fl.map V.int)
section
variable {P : Program} {w : World} {K : PySem.W.Frag} {mg : Str → Option Value} {base : Heap} {C x : Addr} {g : Fx} {s : Mc} {H : Hp}
theorem RunAt.same {H' : Hp} (r : RunAt K C x g s H) (h : Same H H') : RunAt K C x g s H' :=
  let ⟨dx, hx⟩ := r.hx
  ⟨⟨dx, h _ _ hx⟩, h _ _ r.hra, h _ _ r.hsa, sqT_same h r.hp, r.hR.same h, r.hf.same h, r.ne⟩
theorem RunAt.put {dx : Addr} {at_ rg : Nat} (r : RunAt K C x g s H) : RunAt K C x g { s with at_ := at_, rg := rg } (upd H x (.ins C dx (runF g.m g.pr g.pf g.ra g.sa at_ rg))) := by
  obtain ⟨dx0, hx⟩ := r.hx
  refine ⟨⟨dx, upd_same⟩, ?_, ?_, sqT_upd r.hp hx noTup_ins, rowsAt_upd r.hR hx noTup_ins, seq_upd r.hf hx noTup_ins (.inr fun _ z => by cases z), r.ne⟩
  · rw [upd_ne (ne_of r.hra hx (by intro q; cases q))]
    exact r.hra
  · rw [upd_ne (ne_of r.hsa hx (by intro q; cases q))]
    exact r.hsa
theorem RunAt.regs {l : List Int} (r : RunAt K C x g s H) : RunAt K C x g { s with regs := l } (upd H g.ra (.lst (l.map V.int))) := by
  obtain ⟨dx0, hx⟩ := r.hx
  refine ⟨⟨dx0, ?_⟩, upd_same, ?_, sqT_upd r.hp r.hra noTup_lst, rowsAt_upd r.hR r.hra noTup_lst, r.ne.elim (fun n => seq_upd r.hf r.hra noTup_lst (.inl n)) (fun st => st _), r.ne⟩
  · rw [upd_ne (ne_of hx r.hra (by intro q; cases q))]
    exact hx
  · rw [upd_ne (ne_of r.hsa r.hra (by intro q; cases q))]
    exact r.hsa
theorem RunAt.slots {kv : List (Key × V)} (r : RunAt K C x g s H) : RunAt K C x g { s with kv := kv } (upd H g.sa (.dK kv)) := by
  obtain ⟨dx0, hx⟩ := r.hx
  refine ⟨⟨dx0, ?_⟩, ?_, upd_same, sqT_upd r.hp r.hsa noTup_dK, rowsAt_upd r.hR r.hsa noTup_dK, seq_upd r.hf r.hsa noTup_dK (.inr fun _ z => by cases z), r.ne⟩
  · rw [upd_ne (ne_of hx r.hsa (by intro q; cases q))]
    exact hx
  · rw [upd_ne (ne_of r.hra r.hsa (by intro q; cases q))]
    exact r.hra
/-! ### fill -/
def Fills (fl : List Int) : Prop := ∀ f ∈ fl, f = 0 ∨ f = 1
def spFill (K : PySem.W.Frag) (C : Addr) : Sp := fun vs H Q _ => ∃ (x : Addr) (g : Fx) (s : Mc), vs = [.ref x] ∧ RunAt K C x g s H ∧
  ∀ H', RunAt K C x g { s with rg := s.rg + 1 } H' → But [x] H H' → Q (.int (fillV g.fl s.rg)) H'
abbrev s_Runner_fill : Stmt := inClass (top 24) 1
theorem sc_Runner_fill : FnScope ["self"] ["self"] (defScope s_Runner_fill) := ⟨rfl, rfl, rfl, by decide +kernel, rfl, by decide +kernel, by decide +kernel⟩
theorem ok_Runner_fill (F : TopMeth K C "fill" "Runner.fill" s_Runner_fill ["self"]) (T : TxtR K mg) (rc : RunCls K mg C) : MethOk P w K mg base 1 C "fill" ["self"] (spFill K C) := by
  refine F.ok sc_Runner_fill (fun vs H Q E h => ?_) (fun f cdv A outer s H vs Q E hr h => ?_)
  · obtain ⟨x, g, s, rfl, _⟩ := h
    rfl
  · obtain ⟨x, g, s, rfl, ra, k⟩ := h
    obtain ⟨dx, hx⟩ := ra.hx
    refine ⟨_, (pss_cons (ps_fldaug (pv 0) pe_int in_add)
    (pss_one (ps_ret (pe_ifExp (pt_cmpR op_le (pe_fld (pv 0) (by rfl)) (pe_callB call_len_seq (by rfl) T.b_len (by decide +kernel) (pa_cons (pe_fld (pv 0) (by rfl)) pa_nil)) (nomark _)) (pe_ix ix_seq (pe_fld (pv 0) (by rfl)) (pe_op op_sub (pe_fld (pv 0) (by rfl)) pe_int) (fun _ _ => rfl)) pe_int)))), ?_⟩
    refine ⟨_, rfl, x, C, dx, _, _, rfl, hx, rc.own.cl, rc.n_rights, runF_rights .., _, _, rfl, rfl, dx, _, hx, (by show 7 < 1000; decide), ?_⟩
    have ep : putF "rights" (.int ((s.rg : Int) + 1)) (runF g.m g.pr g.pf g.ra g.sa s.at_ s.rg) = runF g.m g.pr g.pf g.ra g.sa s.at_ (s.rg + 1) := runF_put_rg ..
    rw [ep]
    have ra1 := ra.put (dx := dx) (at_ := s.at_) (rg := s.rg + 1)
    have b1 : But [x] H (upd H x (.ins C dx (runF g.m g.pr g.pf g.ra g.sa s.at_ (s.rg + 1)))) := But.refl.upd (by simp)
    have hx1 : upd H x (.ins C dx (runF g.m g.pr g.pf g.ra g.sa s.at_ (s.rg + 1))) x = some (.ins C dx (runF g.m g.pr g.pf g.ra g.sa s.at_ (s.rg + 1))) := upd_same
    generalize upd H x (.ins C dx (runF g.m g.pr g.pf g.ra g.sa s.at_ (s.rg + 1))) = H1 at ra1 b1 hx1
    have fin := k H1 ra1 b1
    refine ⟨_, rfl, x, C, dx, _, _, rfl, hx1, rc.own.cl, rc.n_rights, runF_rights .., _, rfl, x, C, dx, _, _, rfl, hx1, rc.own.cl, rc.n_fills, runF_fills .., g.pf, _, rfl, ra1.hf, _, _, rfl, rfl, _, rfl, ?_⟩
    refine ite2 (fun h => ?_) (fun h => ?_)
    · have h := of_decide_eq_true h
      rw [List.length_map] at h
      have hl : s.rg < g.fl.length := by omega
      have ev : g.fl[s.rg]? = some (fillV g.fl s.rg) := by
        unfold fillV
        rw [List.getElem?_eq_getElem hl] <;> rfl
      have ei : ((s.rg + 1 : Nat) : Int) - 1 = (s.rg : Nat) := by omega
      refine ⟨_, rfl, x, C, dx, _, _, rfl, hx1, rc.own.cl, rc.n_fills, runF_fills .., _, rfl, x, C, dx, _, _, rfl, hx1, rc.own.cl, rc.n_rights, runF_rights .., _, _, rfl, rfl, ?_⟩
      have ea : atI (g.fl.map V.int) (((s.rg + 1 : Nat) : Int) - 1) = some (.int (fillV g.fl s.rg)) := by
        rw [ei]
        exact atI_nat (by rw [List.getElem?_map, ev] <;> rfl)
      rcases ra1.hf with q | q
      · exact .inl ⟨g.pf, _, _, _, rfl, rfl, q, ea, fin⟩
      · exact .inr (.inl ⟨g.pf, _, _, _, rfl, rfl, q, ea, fin⟩)
    · have h := of_decide_eq_false (Bool.eq_false_iff.mpr h)
      rw [List.length_map] at h
      have ev : fillV g.fl s.rg = 0 := by
        unfold fillV
        rw [List.getElem?_eq_none (by omega)] <;> rfl
      rw [ev] at fin
      exact fin
end
end LB
set_option Elab.async false
set_option linter.all false
set_option maxRecDepth 100000
set_option maxHeartbeats 4000000
namespace LB
open PySem PySem.Spec PyProof.Rows L2
open C8 (pss_cut tCut)
theorem inR_at {R : Nat} {i : Int} {xs : List V} {v : V} (h : InR R i) (hv : xs[i.toNat]? = some v) : atI xs i = some v := by
  have e : ((i.toNat : Nat) : Int) = i := Int.toNat_of_nonneg h.1
  rw [← e]
  exact atI_nat (by simpa using hv)
theorem Good.at_ {m : Int} {R : Nat} {s : Mc} (g : Good m R s) {i : Int} (h : InR R i) : atI (s.regs.map V.int) i = some (.int (s.rv i)) :=
  inR_at h (by rw [List.getElem?_map, (g.rv h).1] <;> rfl)
section
variable {P : Program} {w : World} {K : PySem.W.Frag} {mg : Str → Option Value} {base : Heap} {C : Addr}
def spComputed (K : PySem.W.Frag) (C : Addr) : Sp := fun vs H Q _ => ∃ (x a : Addr) (g : Fx) (s : Mc) (R : Nat) (z : Str) (ns : List Int), vs = [.ref x, .ref a] ∧ RunAt K C x g s H ∧ Good g.m R s ∧ (0 < g.m ∧ g.m ≤ 18446744073709551616) ∧ Fills g.fl ∧
  H a = some (.tup (rowL z ns)) ∧ Fit R z ns ∧ ¬ z = "store" ∧ ¬ z = "skip" ∧
  ∀ H', RunAt K C x g { s with rg := if z = "right" then s.rg + 1 else s.rg } H' → But [x] H H' → Q (.int (rowVal g.m g.fl s z ns)) H'
abbrev s_Runner_computed : Stmt := inClass (top 24) 2
theorem sc_Runner_computed : FnScope ["self", "row", "registers"] ["self", "row"] (defScope s_Runner_computed) := ⟨rfl, rfl, rfl, by decide +kernel, rfl, by decide +kernel, by decide +kernel⟩
theorem ok_Runner_computed (F : TopMeth K C "computed" "Runner.computed" s_Runner_computed ["self", "row"]) (T : TxtR K mg) (rc : RunCls K mg C) (C_Runner : OwnCls K mg "Runner" C) (D_Runner_fill : MethOk P w K mg base 1 C "fill" ["self"] (spFill K C)) :
    MethOk P w K mg base 2 C "computed" ["self", "row"] (spComputed K C) := by
  refine F.ok sc_Runner_computed (fun vs H Q E h => ?_) (fun f cdv A outer s H vs Q E hr h => ?_)
  · obtain ⟨x, a, g, s, R, z, ns, rfl, _⟩ := h
    rfl
  · obtain ⟨x, a, g, s, R, z, ns, rfl, ra, gd, hm, hfl, ha, fit, n1, n2, k⟩ := h
    obtain ⟨dx, hx⟩ := ra.hx
    refine ⟨_, (pss_cons (ps_set (i := 2) sc_Runner_computed.nd rfl (.inl rfl) (pe_fld (pv 0) (by rfl)))
    (pss_one (ps_match (pe_ix ix_tup (pv 1) pe_int (fun _ _ => rfl)) (pm_str (pss_one (ps_ret (pe_ix ix_tup (pv 1) pe_int (fun _ _ => rfl))))
    (pm_str (pss_one (ps_ret (pe_ix ix_list (pv 2) (pe_ix ix_tup (pv 1) pe_int (fun _ _ => rfl)) (fun _ _ => rfl))))
    (pm_str (pss_one (ps_ret (pe_op op_add (pe_ix ix_list (pv 2) (pe_ix ix_tup (pv 1) pe_int (fun _ _ => rfl)) (fun _ _ => rfl)) (pe_ix ix_list (pv 2) (pe_ix ix_tup (pv 1) pe_int (fun _ _ => rfl)) (fun _ _ => rfl)))))
    (pm_str (pss_one (ps_ret (pe_op op_sub (pe_ix ix_list (pv 2) (pe_ix ix_tup (pv 1) pe_int (fun _ _ => rfl)) (fun _ _ => rfl)) (pe_ix ix_list (pv 2) (pe_ix ix_tup (pv 1) pe_int (fun _ _ => rfl)) (fun _ _ => rfl)))))
    (pm_str (pss_one (ps_ret (pe_op op_mul (pe_ix ix_list (pv 2) (pe_ix ix_tup (pv 1) pe_int (fun _ _ => rfl)) (fun _ _ => rfl)) (pe_ix ix_list (pv 2) (pe_ix ix_tup (pv 1) pe_int (fun _ _ => rfl)) (fun _ _ => rfl)))))
    (pm_str (pss_one (ps_ret (pe_op op_mul pe_int (pe_ix ix_list (pv 2) (pe_ix ix_tup (pv 1) pe_int (fun _ _ => rfl)) (fun _ _ => rfl)))))
    (pm_str (pss_one (ps_ret (pe_dget2 (hu_of hr) (pe_fld (pv 0) (by rfl)) (pe_ix ix_tup (pv 1) pe_int (fun _ _ => rfl)) pe_int ⟨rfl, rfl, rfl, rfl⟩)))
    (pm_any (pss_one (ps_ret (pe_op op_add (pe_op op_fdivW (pe_ix ix_list (pv 2) (pe_ix ix_tup (pv 1) pe_int (fun _ _ => rfl)) (fun _ _ => rfl)) pe_int) (pe_op op_mul (pe_mth0 C_Runner.cl D_Runner_fill (hr.mono (by decide)) (pv 0)) (pe_op op_fdivW (pe_fld (pv 0) (by rfl)) pe_int)))))))))))))))), ?_⟩
    have hL := SqL.of (K := K) ra.hra
    have hRow := SqT.of (K := K) ha
    have plain : ¬ z = "right" → Q (.int (rowVal g.m g.fl s z ns)) H := fun hz => by
      have := k H
      rw [if_neg hz] at this
      exact this ra But.refl
    unfold rowVal at k plain
    refine ⟨_, rfl, x, C, dx, _, _, rfl, hx, rc.own.cl, rc.n_registers, runF_registers .., ?_⟩
    refine ⟨_, rfl, a, _, _, _, rfl, rfl, hRow, atI_nat (j := 0) rfl, _, rfl, ?_⟩
    refine ite2 (fun h => ?_) (fun h1 => ?_)
    · obtain ⟨r, n, rfl, hr⟩ := fit.set h
      rw [if_pos h] at plain
      exact ⟨_, rfl, a, _, _, _, rfl, rfl, hRow, atI_nat (j := 2) rfl, plain (by rw [h]; decide +kernel)⟩
    rw [if_neg h1] at k plain
    refine ⟨_, rfl, ?_⟩
    refine ite2 (fun h => ?_) (fun h2 => ?_)
    · obtain ⟨r, b, rfl, hr, hb⟩ := fit.two (.inl h)
      rw [if_pos h] at plain
      exact ⟨_, rfl, _, rfl, a, _, _, _, rfl, rfl, hRow, atI_nat (j := 2) rfl, g.ra, _, _, _, rfl, rfl, hL, gd.at_ hb, plain (by rw [h]; decide +kernel)⟩
    rw [if_neg h2] at k plain
    refine ⟨_, rfl, ?_⟩
    refine ite2 (fun h => ?_) (fun h3 => ?_)
    · obtain ⟨r, b, c, rfl, hr, hb, hc⟩ := fit.three (.inl h)
      rw [if_pos h] at plain
      exact ⟨_, rfl, _, rfl, a, _, _, _, rfl, rfl, hRow, atI_nat (j := 2) rfl, g.ra, _, _, _, rfl, rfl, hL, gd.at_ hb, _, rfl, _, rfl, a, _, _, _, rfl, rfl, hRow, atI_nat (j := 3) rfl, g.ra, _, _, _, rfl, rfl, hL, gd.at_ hc, _, _, rfl, rfl, plain (by rw [h]; decide +kernel)⟩
    rw [if_neg h3] at k plain
    refine ⟨_, rfl, ?_⟩
    refine ite2 (fun h => ?_) (fun h4 => ?_)
    · obtain ⟨r, b, c, rfl, hr, hb, hc⟩ := fit.three (.inr (.inl h))
      rw [if_pos h] at plain
      exact ⟨_, rfl, _, rfl, a, _, _, _, rfl, rfl, hRow, atI_nat (j := 2) rfl, g.ra, _, _, _, rfl, rfl, hL, gd.at_ hb, _, rfl, _, rfl, a, _, _, _, rfl, rfl, hRow, atI_nat (j := 3) rfl, g.ra, _, _, _, rfl, rfl, hL, gd.at_ hc, _, _, rfl, rfl, plain (by rw [h]; decide +kernel)⟩
    rw [if_neg h4] at k plain
    refine ⟨_, rfl, ?_⟩
    refine ite2 (fun h => ?_) (fun h5 => ?_)
    · obtain ⟨r, b, c, rfl, hr, hb, hc⟩ := fit.three (.inr (.inr h))
      rw [if_pos h] at plain
      have q := gd.rv hb
      exact ⟨_, rfl, _, rfl, a, _, _, _, rfl, rfl, hRow, atI_nat (j := 2) rfl, g.ra, _, _, _, rfl, rfl, hL, gd.at_ hb, _, rfl, _, rfl, a, _, _, _, rfl, rfl, hRow, atI_nat (j := 3) rfl, g.ra, _, _, _, rfl, rfl, hL, gd.at_ hc, _, _, rfl, rfl, .inl ⟨by omega, by omega⟩, plain (by rw [h]; decide +kernel)⟩
    rw [if_neg h5] at k plain
    refine ⟨_, rfl, ?_⟩
    refine ite2 (fun h => ?_) (fun h6 => ?_)
    · obtain ⟨r, b, rfl, hr, hb⟩ := fit.two (.inr (.inl h))
      rw [if_pos h] at plain
      exact ⟨_, rfl, _, rfl, a, _, _, _, rfl, rfl, hRow, atI_nat (j := 2) rfl, g.ra, _, _, _, rfl, rfl, hL, gd.at_ hb, _, _, rfl, rfl, .inl ⟨by decide, by decide⟩, plain (by rw [h]; decide +kernel)⟩
    rw [if_neg h6] at k plain
    refine ⟨_, rfl, ?_⟩
    refine ite2 (fun h => ?_) (fun h7 => ?_)
    · obtain ⟨r, b, rfl, hr⟩ := fit.load h
      rw [if_pos h] at plain
      refine ⟨_, rfl, x, C, dx, _, _, rfl, hx, rc.own.cl, rc.n_slots, runF_slots .., g.sa, rfl, .inl ⟨_, .inl ra.hsa⟩, _, rfl, a, _, _, _, rfl, rfl, hRow, atI_nat (j := 2) rfl, _, DGet.k (k := .inl b) ra.hsa, ?_⟩
      rw [(gd.slotV hm.1 b).2.2]
      exact plain (by rw [h]; decide +kernel)
    rw [if_neg h7] at k plain
    have hz := fit.rest h1 h2 h3 h4 h5 h6 h7 n1 n2
    obtain ⟨r, b, rfl, hr, hb⟩ := fit.two (.inr (.inr hz))
    rw [if_pos hz] at k
    have q := gd.rv hb
    refine ⟨_, rfl, _, rfl, a, _, _, _, rfl, rfl, hRow, atI_nat (j := 2) rfl, g.ra, _, _, _, rfl, rfl, hL, gd.at_ hb, _, _, rfl, rfl, ⟨by decide, by decide⟩, ?_⟩
    refine ⟨_, rfl, x, dx, _, rfl, hx, runF_fill .., x, g, s, rfl, ra, fun H1 ra1 b1 => ?_⟩
    obtain ⟨dx1, hx1⟩ := ra1.hx
    have hf01 : fillV g.fl s.rg = 0 ∨ fillV g.fl s.rg = 1 := by
      unfold fillV
      cases e : g.fl[s.rg]? with
      | none => exact .inl rfl
      | some v => exact hfl v (List.mem_of_getElem? e)
    refine ⟨_, rfl, x, C, dx1, _, _, rfl, hx1, rc.own.cl, rc.n_modulus, runF_modulus .., _, _, rfl, rfl, ⟨by decide, by decide⟩, _, _, rfl, rfl, .inl ⟨by rcases hf01 with e | e <;> rw [e] <;> decide, by rcases hf01 with e | e <;> rw [e] <;> decide⟩, _, _, rfl, rfl, ?_⟩
    exact k H1 ra1 b1
end
end LB
set_option Elab.async false
set_option linter.all false
set_option maxRecDepth 100000
set_option maxHeartbeats 4000000
namespace LB
open PySem PySem.Spec PyProof.Rows L2
open C8 (pss_cut tCut)
/-! ### over a list or a tuple -/
def iSeq (K : PySem.W.Frag) (tl : TE) : TI := fun σ H R => tl σ H fun x H1 => ∃ a xs, x = .ref a ∧ Seq K H1 a xs ∧ ∀ (J : It) (G : Hp → Prop), (∀ H', (∀ o, H1 a = some o → H' a = some o) → G H') → Walk J xs.length G (YAt xs) → R J H1
theorem pi_seq {X : Cx} {tg l : Expr} {tl : TE} (hl : PE X l tl) : PI X tg l (iSeq X.K tl) := by
  refine ⟨fun pins s σ H R I h => ?_⟩
  refine thn (hl.run pins s σ H _ I h) fun v s1 ⟨x, H1, I1, r1, q1⟩ => ?_
  obtain ⟨a, xs, e, hq, q⟩ := q1
  subst e
  cases r1
  rcases hq with hq | hq
  · obtain ⟨its, rv, p, hz⟩ := I1.list hq
    refine wpAny_pyIter_list p.isList ?_
    refine ⟨s1.heap.objs.size, [s1.heap.objs.size], _, _, H1, rfl, I1.kept (t' := s1.toks) fun b o e => Heap.get?_push_of_some _ e, turn_list a _, ⟨_, Heap.get?_push_size _ rfl, rfl, rfl⟩, fun b hb => ?_, q _ (fun H' => SqL X.K H' a xs) (fun H' hs => ?_) walk_list⟩
    · have e : b = s1.heap.objs.size := by simpa using hb
      subst e
      exact I1.fpOk (Nat.le_refl _) (I1.hok.fresh (Nat.le_refl _))
    · rcases hq with (z | ⟨o, z⟩) | z
      · exact .inl (.inl (hs _ z))
      · exact .inl (.inr ⟨o, hs _ z⟩)
      · exact .inr z
  · obtain ⟨its, rv, p, hz⟩ := I1.tuple hq
    refine wpAny_pyIter_tuple (show s1.heap.IsTuple a its.toArray from p) ?_
    refine ⟨s1.heap.objs.size, [s1.heap.objs.size], _, _, H1, rfl, I1.kept (t' := s1.toks) fun b o e => Heap.get?_push_of_some _ e, turn_tuple a _, ⟨_, Heap.get?_push_size _ rfl, rfl, rfl⟩, fun b hb => ?_, q _ (fun H' => SqT X.K H' a xs) (fun H' hs => ?_) walk_tup⟩
    · have e : b = s1.heap.objs.size := by simpa using hb
      subst e
      exact I1.fpOk (Nat.le_refl _) (I1.hok.fresh (Nat.le_refl _))
    · rcases hq with (z | ⟨o, z⟩) | z
      · exact .inl (.inl (hs _ z))
      · exact .inl (.inr ⟨o, hs _ z⟩)
      · exact .inr z
theorem Good.nxt {m : Int} {R : Nat} {fl : List Int} {rs : List Rw} {s : Mc} (g : Good m R s) (hm : 0 < m) (f : ∀ (i : Nat) r, rs[i]? = some r → Fit R r.1 r.2) : Good m R (nxt m fl rs s) := by
  unfold LB.nxt
  split
  · exact g
  · rename_i r e
    exact g.step hm (f _ r e)
section
variable {P : Program} {w : World} {K : PySem.W.Frag} {mg : Str → Option Value} {base : Heap} {C : Addr}
def Fits (R : Nat) (rs : List Rw) : Prop := ∀ (i : Nat) r, rs[i]? = some r → Fit R r.1 r.2
def spAdvance (K : PySem.W.Frag) (C : Addr) : Sp := fun vs H Q _ => ∃ (x : Addr) (g : Fx) (s : Mc) (R : Nat), vs = [.ref x] ∧ RunAt K C x g s H ∧ Good g.m R s ∧ (0 < g.m ∧ g.m ≤ 18446744073709551616) ∧ Fills g.fl ∧ Fits R g.rs ∧ s.at_ < g.rs.length ∧ g.rs.length ≤ 1000 ∧
  ∀ H', RunAt K C x g (nxt g.m g.fl g.rs s) H' → But [x, g.ra, g.sa] H H' → Q .non H'
abbrev s_Runner_advance : Stmt := inClass (top 24) 3
theorem sc_Runner_advance : FnScope ["self", "row"] ["self"] (defScope s_Runner_advance) := ⟨rfl, rfl, rfl, by decide +kernel, rfl, by decide +kernel, by decide +kernel⟩
theorem ok_Runner_advance (F : TopMeth K C "advance" "Runner.advance" s_Runner_advance ["self"]) (rc : RunCls K mg C) (C_Runner : OwnCls K mg "Runner" C) (D_Runner_computed : MethOk P w K mg base 2 C "computed" ["self", "row"] (spComputed K C)) :
    MethOk P w K mg base 3 C "advance" ["self"] (spAdvance K C) := by
  refine F.ok sc_Runner_advance (fun vs H Q E h => ?_) (fun f cdv A outer s H vs Q E hr h => ?_)
  · obtain ⟨x, g, s, R, rfl, _⟩ := h
    rfl
  · obtain ⟨x, g, s, R, rfl, ra, gd, hm, hfl, hfit, hat, hfew, k⟩ := h
    obtain ⟨dx, hx⟩ := ra.hx
    have hrow := List.getElem?_eq_getElem hat
    have en : nxt g.m g.fl g.rs s = stepM g.m g.fl s (g.rs[s.at_]'hat).1 (g.rs[s.at_]'hat).2 := by
      unfold nxt
      rw [hrow]
    rw [en] at k
    have fit := hfit _ _ hrow
    have hxs : s.at_ < g.xs.length := by rw [ra.hR.len]; exact hat
    obtain ⟨a, ea, ha⟩ := ra.hR.get s.at_ _ _ (List.getElem?_eq_getElem hxs) hrow
    generalize (g.rs[s.at_]'hat) = r at *
    obtain ⟨z, ns⟩ := r
    have hv : atI g.xs ((s.at_ : Nat) : Int) = some (.ref a) := atI_nat (by rw [List.getElem?_eq_getElem hxs, ea])
    refine ⟨_, (pss_cons (ps_set (i := 1) sc_Runner_advance.nd rfl (.inl rfl) (pe_ix ix_tup (pe_fld (pv 0) (by rfl)) (pe_fld (pv 0) (by rfl)) (fun _ _ => rfl)))
    (pss_cons (ps_fldaug (pv 0) pe_int in_add)
    (pss_one (ps_if (pt_cmpR op_eq (pe_ix ix_tup (pv 1) pe_int (fun _ _ => rfl)) pe_str (nomark _)) (pss_one (ps_dput (hu_of hr) (pe_fld (pv 0) (by rfl)) (pe_ix ix_tup (pv 1) pe_int (fun _ _ => rfl)) (pe_ix ix_list (pe_fld (pv 0) (by rfl)) (pe_ix ix_tup (pv 1) pe_int (fun _ _ => rfl)) (fun _ _ => rfl)) rfl)) (pss_one (ps_if (pt_cmpR op_eq (pe_ix ix_tup (pv 1) pe_int (fun _ _ => rfl)) pe_str (nomark _)) (pss_one (ps_if (pt_cmpR op_eq (pe_op op_mod (pe_ix ix_list (pe_fld (pv 0) (by rfl)) (pe_ix ix_tup (pv 1) pe_int (fun _ _ => rfl)) (fun _ _ => rfl)) (pe_ix ix_tup (pv 1) pe_int (fun _ _ => rfl))) (pe_ix ix_tup (pv 1) pe_int (fun _ _ => rfl)) (nomark _)) (pss_one (ps_fldaug (pv 0) (pe_ix ix_tup (pv 1) pe_int (fun _ _ => rfl)) in_add)) pss_nil)) (pss_one (ps_asg (pe_op op_mod (pe_mth C_Runner.cl D_Runner_computed (hr.mono (by decide)) (pv 0) (pa_cons (pv 1) pa_nil)) (pe_fld (pv 0) (by rfl))) (pg_sub (pe_fld (pv 0) (by rfl)) (pe_ix ix_tup (pv 1) pe_int (fun _ _ => rfl)) set_list))))))))), ?_⟩
    refine ⟨_, rfl, x, C, dx, _, _, rfl, hx, rc.own.cl, rc.n_rows, runF_rows .., _, rfl, x, C, dx, _, _, rfl, hx, rc.own.cl, rc.n_at, runF_at .., g.pr, g.xs, _, _, rfl, rfl, ra.hp, hv, ?_⟩
    refine ⟨_, rfl, x, C, dx, _, _, rfl, hx, rc.own.cl, rc.n_at, runF_at .., _, _, rfl, rfl, dx, _, hx, (by show 7 < 1000; decide), ?_⟩
    have ep : putF "at" (.int ((s.at_ : Int) + 1)) (runF g.m g.pr g.pf g.ra g.sa s.at_ s.rg) = runF g.m g.pr g.pf g.ra g.sa (s.at_ + 1) s.rg := runF_put_at ..
    rw [ep]
    have ra1 := ra.put (dx := dx) (at_ := s.at_ + 1) (rg := s.rg)
    have b1 : But [x, g.ra, g.sa] H (upd H x (.ins C dx (runF g.m g.pr g.pf g.ra g.sa (s.at_ + 1) s.rg))) := But.refl.upd (by simp)
    have hx1 : upd H x (.ins C dx (runF g.m g.pr g.pf g.ra g.sa (s.at_ + 1) s.rg)) x = some (.ins C dx (runF g.m g.pr g.pf g.ra g.sa (s.at_ + 1) s.rg)) := upd_same
    have ha1 : upd H x (.ins C dx (runF g.m g.pr g.pf g.ra g.sa (s.at_ + 1) s.rg)) a = some (.tup (rowL z ns)) := by
      rw [upd_ne (ne_of ha hx (by intro q; cases q))]
      exact ha
    generalize upd H x (.ins C dx (runF g.m g.pr g.pf g.ra g.sa (s.at_ + 1) s.rg)) = H1 at ra1 b1 hx1 ha1
    have gd1 : Good g.m R { s with at_ := s.at_ + 1 } := ⟨gd.len, gd.reg, gd.slot, Nat.le_succ_of_le gd.few⟩
    have hRow := SqT.of (K := K) ha1
    have hL := SqL.of (K := K) ra1.hra
    unfold stepM at k
    refine ⟨_, rfl, a, _, _, _, rfl, rfl, hRow, atI_nat (j := 0) rfl, rfl, _, rfl, ?_⟩
    refine ite2 (fun h => ?_) (fun h1 => ?_)
    · have hz : z = "store" := V.str.inj (of_decide_eq_true h)
      rw [if_pos hz] at k
      obtain ⟨s0, b, rfl, hb⟩ := fit.store hz
      refine ⟨_, rfl, x, C, dx, _, _, rfl, hx1, rc.own.cl, rc.n_registers, runF_registers .., _, rfl, a, _, _, _, rfl, rfl, hRow, atI_nat (j := 2) rfl, g.ra, _, _, _, rfl, rfl, hL, gd.at_ hb, ?_⟩
      refine ⟨_, rfl, x, C, dx, _, _, rfl, hx1, rc.own.cl, rc.n_slots, runF_slots .., _, rfl, a, _, _, _, rfl, rfl, hRow, atI_nat (j := 1) rfl, g.sa, _, rfl, DPut.k (k := .inl s0) ra1.hsa (szK (by show s.kv.length ≤ 100000; have := gd.few; omega)), ?_⟩
      exact k _ ra1.slots (b1.upd (by simp))
    have hz1 : ¬ z = "store" := fun e => h1 (decide_eq_true (by rw [e]))
    rw [if_neg hz1] at k
    refine ⟨_, rfl, a, _, _, _, rfl, rfl, hRow, atI_nat (j := 0) rfl, rfl, _, rfl, ?_⟩
    refine ite2 (fun h => ?_) (fun h2 => ?_)
    · have hz : z = "skip" := V.str.inj (of_decide_eq_true h)
      rw [if_pos hz] at k
      obtain ⟨b, m, c, n, rfl, hb, hm0, hn⟩ := fit.skip hz
      refine ⟨_, rfl, x, C, dx, _, _, rfl, hx1, rc.own.cl, rc.n_registers, runF_registers .., _, rfl, a, _, _, _, rfl, rfl, hRow, atI_nat (j := 1) rfl, g.ra, _, _, _, rfl, rfl, hL, gd.at_ hb, _, rfl, a, _, _, _, rfl, rfl, hRow, atI_nat (j := 2) rfl, _, _, rfl, rfl, hm0, _, rfl, a, _, _, _, rfl, rfl, hRow, atI_nat (j := 3) rfl, rfl, _, rfl, ?_⟩
      refine ite2 (fun h => ?_) (fun h3 => ?_)
      · have hc : s.rv b % m = c := V.int.inj (of_decide_eq_true h)
        have hc' : s.rv (nA [b, m, c, n] 0) % nA [b, m, c, n] 1 = nA [b, m, c, n] 2 := hc
        rw [if_pos hc'] at k
        refine ⟨_, rfl, x, C, dx, _, _, rfl, hx1, rc.own.cl, rc.n_at, runF_at .., _, rfl, a, _, _, _, rfl, rfl, hRow, atI_nat (j := 4) rfl, _, _, rfl, rfl, dx, _, hx1, (by show 7 < 1000; decide), ?_⟩
        have en : (((s.at_ + 1 : Nat) : Int) + n) = ((s.at_ + 1 + (nA [b, m, c, n] 3).toNat : Nat) : Int) := by
          have : nA [b, m, c, n] 3 = n := rfl
          rw [this]
          omega
        rw [en, runF_put_at]
        exact k _ ra1.put (b1.upd (by simp))
      · have hc : ¬ s.rv (nA [b, m, c, n] 0) % nA [b, m, c, n] 1 = nA [b, m, c, n] 2 := fun e => h3 (decide_eq_true (by
          have e' : s.rv b % m = c := e
          exact congrArg V.int e'))
        rw [if_neg hc] at k
        exact k _ ra1 b1
    have hz2 : ¬ z = "skip" := fun e => h2 (decide_eq_true (by rw [e]))
    rw [if_neg hz2] at k
    obtain ⟨i, b, t, rfl, hi⟩ := fit.into hz1 hz2
    refine ⟨_, rfl, x, dx, _, rfl, hx1, runF_computed .., _, rfl, x, a, g, _, R, z, _, rfl, ra1, gd1, hm, hfl, ha1, fit, hz1, hz2, fun H2 ra2 b2 => ?_⟩
    obtain ⟨dx2, hx2⟩ := ra2.hx
    have nax : a ≠ x := ne_of ha1 hx1 (by intro q; cases q)
    have ha2 : H2 a = some (.tup (rowL z (i :: b :: t))) := b2 _ _ ha1 (by simpa using nax)
    refine ⟨_, rfl, x, C, dx2, _, _, rfl, hx2, rc.own.cl, rc.n_modulus, runF_modulus .., _, _, rfl, rfl, hm.1, ?_⟩
    have hj : ixN (List.map V.int s.regs).length i = some i.toNat := by
      unfold ixN
      rw [if_pos hi.1, if_pos (by rw [List.length_map, gd.len]; exact hi.2)]
    refine ⟨_, rfl, x, C, dx2, _, _, rfl, hx2, rc.own.cl, rc.n_registers, runF_registers .., _, rfl, a, _, _, _, rfl, rfl, SqT.of ha2, atI_nat (j := 1) rfl, g.ra, _, _, _, rfl, rfl, ra2.hra, hj, ?_⟩
    have es : (List.map V.int s.regs).set i.toNat (.int (rowVal g.m g.fl { s with at_ := s.at_ + 1 } z (i :: b :: t) % g.m)) = (s.regs.set i.toNat (rowVal g.m g.fl { s with at_ := s.at_ + 1 } z (i :: b :: t) % g.m)).map V.int := by rw [List.map_set]
    show Q V.non (upd H2 g.ra (.lst ((List.map V.int s.regs).set i.toNat (.int (rowVal g.m g.fl { s with at_ := s.at_ + 1 } z (i :: b :: t) % g.m)))))
    rw [es]
    exact k _ ra2.regs ((b1.trans (b2.sub (by simp))).upd (by simp))
end
end LB
set_option Elab.async false
set_option linter.all false
set_option maxRecDepth 100000
set_option maxHeartbeats 4000000
namespace LB
open PySem PySem.Spec PyProof.Rows L2
open C8 (pss_cut tCut)
section
variable (m : Int) (pr pf ra sa : Addr)
def ra1 : List (Str × V) := [("modulus", .int m)]
def ra2 : List (Str × V) := [("modulus", .int m), ("rows", .ref pr)]
def ra3 : List (Str × V) := [("modulus", .int m), ("rows", .ref pr), ("fills", .ref pf)]
def ra4 : List (Str × V) := [("modulus", .int m), ("rows", .ref pr), ("fills", .ref pf), ("registers", .ref ra)]
def ra5 : List (Str × V) := [("modulus", .int m), ("rows", .ref pr), ("fills", .ref pf), ("registers", .ref ra), ("slots", .ref sa)]
theorem rf1 : putF "modulus" (.int m) [] = ra1 m := by kernel_rfl
theorem rf2 : putF "rows" (.ref pr) (ra1 m) = ra2 m pr := by kernel_rfl
theorem rf3 : putF "fills" (.ref pf) (ra2 m pr) = ra3 m pr pf := by kernel_rfl
theorem rf4 : putF "registers" (.ref ra) (ra3 m pr pf) = ra4 m pr pf ra := by kernel_rfl
theorem rf5 : putF "slots" (.ref sa) (ra4 m pr pf ra) = ra5 m pr pf ra sa := by kernel_rfl
theorem rf7 : putF "rights" (.int 0) (putF "at" (.int 0) (ra5 m pr pf ra sa)) = runF m pr pf ra sa 0 0 := by kernel_rfl
theorem rf3m : (ra3 m pr pf).lookup ("modulus" : Str) = some (.int m) := by kernel_rfl
end
/-- the machine's beginning -/
def startM (m : Int) (R : Nat) (inp : List Int) : Mc := ⟨inp.map (· % m) ++ List.replicate (R - inp.length) 0, [], 0, 0⟩
theorem startM_good {m : Int} {R : Nat} {inp : List Int} (hm : 0 < m) (hl : inp.length ≤ R) : Good m R (startM m R inp) := by
  refine ⟨?_, fun r hr => ?_, fun k v hv => ?_, Nat.le_refl _⟩
  · show (inp.map (· % m) ++ List.replicate (R - inp.length) 0).length = R
    rw [List.length_append, List.length_map, List.length_replicate]
    omega
  · have hr : r ∈ inp.map (· % m) ++ List.replicate (R - inp.length) 0 := hr
    rcases List.mem_append.mp hr with q | q
    · obtain ⟨a, _, rfl⟩ := List.mem_map.mp q
      exact ⟨Int.emod_nonneg _ (by omega), Int.emod_lt_of_pos _ hm⟩
    · rw [List.eq_of_mem_replicate q]
      exact ⟨Int.le_refl _, hm⟩
  · have hv : valV ([] : List (Key × V)) k = some v := hv
    simp [valV] at hv
theorem flat_zero (n : Nat) : (List.replicate n [V.int 0]).flatten = (List.replicate n (0 : Int)).map V.int := by
  induction n with
  | zero => rfl
  | succ n ih =>
    rw [List.replicate_succ, List.replicate_succ, List.flatten_cons, ih]
    rfl
section
variable {P : Program} {w : World} {K : PySem.W.Frag} {mg : Str → Option Value} {base : Heap} {C CM : Addr}
theorem seq_but {H H' : Hp} {x p : Addr} {o : HO} {xs : List V} (h : Seq K H p xs) (hx : H x = some o) (k : NoTup o) (kl : ∀ u, o ≠ .lst u) (b : ∀ a o, H a = some o → a ≠ x → H' a = some o) : Seq K H' p xs := by
  rcases h with ((h | ⟨q, h⟩) | h) | ((h | ⟨q, h⟩) | h)
  · exact .inl (.inl (.inl (b _ _ h (ne_of h hx fun z => kl _ z.symm))))
  · exact .inl (.inl (.inr ⟨q, b _ _ h (ne_of h hx fun z => k.2 _ _ z.symm)⟩))
  · exact .inl (.inr h)
  · exact .inr (.inl (.inl (b _ _ h (ne_of h hx fun z => k.1 _ z.symm))))
  · exact .inr (.inl (.inr ⟨q, b _ _ h (ne_of h hx fun z => k.2 _ _ z.symm)⟩))
  · exact .inr (.inr h)
def spRunnerInit (K : PySem.W.Frag) (C CM : Addr) : Sp := fun vs H Q _ => ∃ (x dx mc pr pin pf : Addr) (W : Nat) (R : Nat) (xs : List V) (rs : List Rw) (inp fl : List Int), vs = [.ref x, .ref mc, .ref pr, .ref pin, .ref pf] ∧ H x = some (.ins C dx []) ∧ MachAt CM H mc W R ∧ W ≤ 64 ∧ R ≤ 100 ∧
  SqT K H pr xs ∧ RowsAt H xs rs ∧ Seq K H pin (inp.map V.int) ∧ inp.length ≤ R ∧ Seq K H pf (fl.map V.int) ∧
  ∀ H' ra sa, H ra = none → H sa = none → But [x] H H' → RunAt K C x ⟨pr, pf, ra, sa, xs, rs, fl, 2 ^ W⟩ (startM (2 ^ W) R inp) H' → Q .non H'
abbrev s_Runner_init : Stmt := inClass (top 24) 0
theorem sc_Runner_init : FnScope ["self", "machine", "rows", "inputs", "fills", "number"] ["self", "machine", "rows", "inputs", "fills"] (defScope s_Runner_init) := ⟨rfl, rfl, rfl, by decide +kernel, rfl, by decide +kernel, by decide +kernel⟩
theorem ok_Runner_init (F : TopMeth K C "__init__" "Runner.__init__" s_Runner_init ["self", "machine", "rows", "inputs", "fills"]) (T : TxtR K mg) (rc : RunCls K mg C) (mk : MachCls K mg CM) : MethOk P w K mg base 1 C "__init__" ["self", "machine", "rows", "inputs", "fills"] (spRunnerInit K C CM) := by
  refine F.ok sc_Runner_init (fun vs H Q E h => ?_) (fun f cdv A outer s H vs Q E hr h => ?_)
  · obtain ⟨x, dx, mc, pr, pin, pf, W, R, xs, rs, inp, fl, rfl, _⟩ := h
    rfl
  · obtain ⟨x, dx, mc, pr, pin, pf, W, R, xs, rs, inp, fl, rfl, hx, ⟨dm, hM⟩, hW, hR100, hp, hR, hin, hil, hf, k⟩ := h
    refine ⟨_, (pss_cons (ps_fld (pv 0) (pe_op op_shl pe_int (pe_fld (pv 1) (by rfl))) rfl)
    (pss_cons (ps_fld (pv 0) (pv 2) rfl)
    (pss_cons (ps_fld (pv 0) (pv 4) rfl)
    (pss_cons (ps_fld (pv 0) (pe_op op_cat (pe_lc (own := [("number", 5)]) (g := gName 5) (te := tOp (rI (fun _ j => 0 < j) fun i j => .int (i % j)) (tVar 5) (tFld K (tVar 0) "modulus")) (tt := tYes) rfl sc_Runner_init.nd (pi_seq (pv 3)) (blkOk_by (own := [("number", 5)]) (N := ["self", "machine", "rows", "inputs", "fills", "number"]) (sc := defScope s_Runner_init) (by decide +kernel)) (fun _ _ _ _ _ => (pg_name (i := 5) sc_Runner_init.nd rfl (.inl rfl))) (fun _ _ _ _ _ => pts_nil) (fun _ _ _ _ _ => (pe_op op_mod (pv 5) (pe_fld (pv 0) (by rfl))))) (pe_op op_rep (pe_lst (pa_cons pe_int pa_nil)) (pe_op op_sub (pe_fld (pv 1) (by rfl)) (pe_callB call_len_seq (by rfl) T.b_len (by decide +kernel) (pa_cons (pv 3) pa_nil))))) rfl)
    (pss_cons (ps_fld (pv 0) pe_dnewK rfl)
    (pss_cons (ps_fld (pv 0) pe_int rfl)
    (pss_one (ps_fld (pv 0) pe_int rfl)))))))), ?_⟩
    have eW : ((W : Int)).toNat = W := Int.toNat_natCast W
    have em : (1 : Int) * 2 ^ (W : Int).toNat = 2 ^ W := by rw [eW, Int.one_mul]
    have hm0 : (0 : Int) < 2 ^ W := by exact_mod_cast Nat.pos_of_ne_zero (by simp)
    refine ⟨_, rfl, mc, CM, dm, _, _, rfl, hM, mk.own.cl, mk.nW, machF_w .., _, _, rfl, rfl, ⟨by omega, by omega, by decide⟩, ?_⟩
    refine ⟨_, rfl, x, C, dx, _, rfl, hx, rc.own.cl, rc.n_modulus, (by decide), ?_⟩
    have e1 : putF "modulus" ((fun i j : Int => V.int (i * 2 ^ j.toNat)) 1 (W : Int)) [] = ra1 (2 ^ W) := by
      show putF "modulus" (V.int (1 * 2 ^ (W : Int).toNat)) [] = _
      rw [em, rf1]
    rw [e1]
    have nmx : mc ≠ x := fun e => by
      rw [e, hx] at hM
      have := HO.ins.inj (Option.some.inj hM)
      exact absurd this.2.2 (by intro z; cases z)
    refine ⟨_, rfl, _, rfl, x, C, dx, _, rfl, upd_same, rc.own.cl, rc.n_rows, (by show 1 < 1000; decide), ?_⟩
    rw [rf2]
    refine ⟨_, rfl, _, rfl, x, C, dx, _, rfl, upd_same, rc.own.cl, rc.n_fills, (by show 2 < 1000; decide), ?_⟩
    rw [rf3]
    have b3 : But [x] H (upd (upd (upd H x (.ins C dx (ra1 (2 ^ W)))) x (.ins C dx (ra2 (2 ^ W) pr))) x (.ins C dx (ra3 (2 ^ W) pr pf))) := ((But.refl.upd (by simp)).upd (by simp)).upd (by simp)
    have hx3 : (upd (upd (upd H x (.ins C dx (ra1 (2 ^ W)))) x (.ins C dx (ra2 (2 ^ W) pr))) x (.ins C dx (ra3 (2 ^ W) pr pf))) x = some (.ins C dx (ra3 (2 ^ W) pr pf)) := upd_same
    generalize (upd (upd (upd H x (.ins C dx (ra1 (2 ^ W)))) x (.ins C dx (ra2 (2 ^ W) pr))) x (.ins C dx (ra3 (2 ^ W) pr pf))) = H3 at b3 hx3
    have bx : ∀ {H' : Hp}, But [x] H H' → ∀ a o, H a = some o → a ≠ x → H' a = some o := fun b a o e n => b a o e (by simpa using n)
    have sq : ∀ {H' : Hp} {p : Addr} {ys : List V}, But [x] H H' → Seq K H p ys → Seq K H' p ys := fun b h => seq_but h hx noTup_ins (fun _ z => by cases z) (bx b)
    refine ⟨_, rfl, pin, inp.map V.int, rfl, sq b3 hin, fun J G hG wk D hD => ?_⟩
    have fr : ∀ {H' : Hp} {p : Addr}, But [x] H H' → p ≠ x → H' p = none → H p = none := fun {H' p} b n e => by
      cases e' : H p with
      | none => rfl
      | some o =>
        rw [bx b p o e' n] at e
        cases e
    have nDx : D ≠ x := fun e => by
      rw [e, hx3] at hD
      cases hD
    have hDH := fr b3 nDx hD
    have eP : List.length (List.map V.int inp) = inp.length := List.length_map ..
    refine lc_it wk (fun i H' => But [x] H H' ∧ H' x = H3 x ∧ (∀ o, H3 pin = some o → H' pin = some o) ∧ Same H3 H' ∧ H' D = some (.lst ((inp.take i).map fun n => V.int (n % 2 ^ W)))) ⟨?_, ?_, ?_, same_new hD, upd_same⟩ (fun i H' _ q => hG H' q.2.2.1) ?_ ?_
    · exact b3.trans (But.of_same (same_new hD))
    · rw [upd_ne nDx.symm]
    · intro o e
      exact (same_new hD) _ _ e
    · rintro i v H4 H5 hi ⟨b4, x4, p4, s4, d4⟩ ⟨rfl, hv⟩
      obtain ⟨n, hn, rfl⟩ := map_get hv
      refine ⟨rfl, ?_⟩
      refine ⟨_, rfl, _, rfl, x, C, dx, _, _, rfl, (x4.trans hx3), rc.own.cl, rc.n_modulus, rf3m .., _, _, rfl, rfl, hm0, _, d4, szK (by rw [List.length_map, List.length_take]; omega), ?_, ?_, ?_, ?_, ?_⟩
      · intro a o e n
        have na : a ≠ D := ne_of_none e hDH
        rw [upd_ne na]
        exact b4 a o e n
      · rw [upd_ne nDx.symm]
        exact x4
      · intro o e
        rw [upd_ne (ne_of_none e hD)]
        exact p4 o e
      · exact same_mut s4 hD
      · rw [upd_same, take_more hn, List.map_append]
        rfl
    · rintro H4 ⟨b4, x4, p4, s4, d4⟩
      rw [eP, List.take_length] at d4
      have hx4 := x4.trans hx3
      refine ⟨(by show 1 ≤ sizeLine; decide), fun L1 hL1 => ?_⟩
      have nL1x : L1 ≠ x := fun e => by
        rw [e, hx4] at hL1
        cases hL1
      have b5 := b4.trans (But.of_same (S := [x]) (same_new (o := .lst [.int 0]) hL1))
      have hx5 : upd H4 L1 (.lst [.int 0]) x = _ := (same_new (o := .lst [.int 0]) hL1) _ _ hx4
      have d5 : upd H4 L1 (.lst [.int 0]) D = _ := (same_new (o := .lst [.int 0]) hL1) _ _ d4
      have l5 : upd H4 L1 (.lst [.int 0]) L1 = some (.lst [.int 0]) := upd_same
      generalize upd H4 L1 (.lst [.int 0]) = H5 at b5 hx5 d5 l5
      refine ⟨_, rfl, mc, CM, dm, _, _, rfl, b5 _ _ hM (by simpa using nmx), mk.own.cl, mk.nR, machF_r .., _, rfl, pin, _, rfl, sq b5 hin, _, _, rfl, rfl, L1, _, _, rfl, rfl, l5, (by rw [eP]; omega), (by rw [eP]; omega), (by rw [eP]; exact szL (by show 1 * _ ≤ 100000; omega)), fun L2 hL2 => ?_⟩
      rw [eP]
      have eN : ((R : Int) - (inp.length : Nat)).toNat = R - inp.length := by omega
      rw [eN, flat_zero]
      have b6 := b5.trans (But.of_same (S := [x]) (same_new (o := .lst ((List.replicate (R - inp.length) (0 : Int)).map V.int)) hL2))
      have hx6 : upd H5 L2 (.lst ((List.replicate (R - inp.length) (0 : Int)).map V.int)) x = _ := (same_new hL2) _ _ hx5
      have d6 : upd H5 L2 (.lst ((List.replicate (R - inp.length) (0 : Int)).map V.int)) D = _ := (same_new hL2) _ _ d5
      have l6 : upd H5 L2 (.lst ((List.replicate (R - inp.length) (0 : Int)).map V.int)) L2 = some (.lst ((List.replicate (R - inp.length) (0 : Int)).map V.int)) := upd_same
      generalize upd H5 L2 (.lst ((List.replicate (R - inp.length) (0 : Int)).map V.int)) = H6 at b6 hx6 d6 l6
      refine ⟨D, L2, _, _, rfl, rfl, d6, l6, ?_, fun ra hra => ?_⟩
      · rw [List.length_map, List.length_map, List.length_replicate]
        exact szL (by omega)
      have er : (inp.map fun n => V.int (n % 2 ^ W)) ++ (List.replicate (R - inp.length) (0 : Int)).map V.int = (startM (2 ^ W) R inp).regs.map V.int := by
        show _ = (inp.map (· % 2 ^ W) ++ List.replicate (R - inp.length) 0).map V.int
        rw [List.map_append, List.map_map]
        rfl
      rw [er]
      have nrx : ra ≠ x := fun e => by
        rw [e, hx6] at hra
        cases hra
      have hraH := fr b6 nrx hra
      refine ⟨_, rfl, x, C, dx, _, rfl, ((same_new hra) _ _ hx6), rc.own.cl, rc.n_registers, (by show 3 < 1000; decide), ?_⟩
      rw [rf4]
      have b7 := (b6.trans (But.of_same (S := [x]) (same_new (o := .lst ((startM (2 ^ W) R inp).regs.map V.int)) hra))).upd (p := x) (o := .ins C dx (ra4 (2 ^ W) pr pf ra)) (by simp)
      have r7 : upd (upd H6 ra (.lst ((startM (2 ^ W) R inp).regs.map V.int))) x (.ins C dx (ra4 (2 ^ W) pr pf ra)) ra = some (.lst ((startM (2 ^ W) R inp).regs.map V.int)) := by
        rw [upd_ne nrx, upd_same]
      have hx7 : upd (upd H6 ra (.lst ((startM (2 ^ W) R inp).regs.map V.int))) x (.ins C dx (ra4 (2 ^ W) pr pf ra)) x = _ := upd_same
      generalize upd (upd H6 ra (.lst ((startM (2 ^ W) R inp).regs.map V.int))) x (.ins C dx (ra4 (2 ^ W) pr pf ra)) = H7 at b7 r7 hx7
      refine fun sa hsa => ?_
      have nsx : sa ≠ x := fun e => by
        rw [e, hx7] at hsa
        cases hsa
      have hsaH := fr b7 nsx hsa
      have nrs : ra ≠ sa := fun e => by
        rw [e, hsa] at r7
        cases r7
      refine ⟨_, rfl, x, C, dx, _, rfl, ((same_new hsa) _ _ hx7), rc.own.cl, rc.n_slots, (by show 4 < 1000; decide), ?_⟩
      rw [rf5]
      refine ⟨_, rfl, x, C, dx, _, rfl, upd_same, rc.own.cl, rc.n_at, (by show 5 < 1000; decide), ?_⟩
      refine ⟨_, rfl, x, C, dx, _, rfl, upd_same, rc.own.cl, rc.n_rights, ?_, ?_⟩
      · have : ∀ (f : Str) (v : V) (fs : List (Str × V)), (putF f v fs).length ≤ fs.length + 1 := fun f v fs => by
          induction fs with
          | nil => simp [putF]
          | cons q r ih =>
            obtain ⟨a, b⟩ := q
            unfold putF
            split
            · simp
            · simp
              omega
        refine Nat.lt_of_le_of_lt (this _ _ _) ?_
        show 6 < 1000
        decide
      rw [rf7]
      have bf := (((b7.trans (But.of_same (S := [x]) (same_new (o := .dK []) hsa))).upd (p := x) (o := .ins C dx (ra5 (2 ^ W) pr pf ra sa)) (by simp)).upd (p := x) (o := .ins C dx (putF "at" (.int 0) (ra5 (2 ^ W) pr pf ra sa))) (by simp)).upd (p := x) (o := .ins C dx (runF (2 ^ W) pr pf ra sa 0 0)) (by simp)
      refine k _ ra sa hraH hsaH bf ⟨⟨dx, upd_same⟩, ?_, ?_, ?_, ?_, ?_, ?_⟩
      · show upd _ _ _ ra = _
        rw [upd_ne nrx, upd_ne nrx, upd_ne nrx, upd_ne nrs]
        exact r7
      · show upd _ _ _ sa = _
        rw [upd_ne nsx, upd_ne nsx, upd_ne nsx, upd_same]
        rfl
      · exact sqT_but hp bf fun a ha => ⟨.ins C dx [], (by have e := List.mem_singleton.mp ha; subst e; exact hx), noTup_ins⟩
      · exact ⟨hR.len, fun i v r h1 h2 => by
          obtain ⟨b, rfl, hb⟩ := hR.get i v r h1 h2
          exact ⟨b, rfl, bf _ _ hb (by simpa using ne_of hb hx (by intro q; cases q))⟩⟩
      · exact sq bf hf
      · show pf ≠ ra ∨ ∀ H', Seq K H' pf (fl.map V.int)
        rcases hf with ((h | ⟨q, h⟩) | h) | ((h | ⟨q, h⟩) | h)
        · exact .inl (ne_of_none h hraH)
        · exact .inl (ne_of_none h hraH)
        · exact .inr fun H' => .inl (.inr h)
        · exact .inl (ne_of_none h hraH)
        · exact .inl (ne_of_none h hraH)
        · exact .inr fun H' => .inr (.inr h)
/-! ### run -/
def outM (W R : Nat) (rs : List Rw) (inp fl : List Int) : Int := (finM (2 ^ W) fl rs (startM (2 ^ W) R inp)).rv 0
def spRun (K : PySem.W.Frag) (CM CC CI : Addr) : Sp := fun vs H Q E => ∃ (mc c p pin pf : Addr) (W R : Nat) (rs : List Rw), vs = [.ref mc, .ref c, .ref pin, .ref pf] ∧ MachAt CM H mc W R ∧ CodeAt K CC H c p rs ∧ CodeOk rs ∧ W ≤ 64 ∧ (0 < R ∧ R ≤ 100) ∧
  ((Fits R rs ∧ (∀ (i : Nat) r, rs[i]? = some r → big R r = false) ∧ ∃ inp fl : List Int, Seq K H pin (inp.map V.int) ∧ inp.length ≤ R ∧ Seq K H pf (fl.map V.int) ∧ Fills fl ∧ ∀ H', Same H H' → Q (.int (outM W R rs inp fl)) H') ∨
  ∃ (i : Nat) (r : Rw), rs[i]? = some r ∧ big R r = true ∧ (∀ (j : Nat) q, j < i → rs[j]? = some q → big R q = false) ∧ ∀ d H', Same H H' → H d = none → H' d = some (.xd [("row", .int i), ("word", .str "register")]) → E (.ref CI) (some d) H')
abbrev s_run : Stmt := top 25
theorem sc_run : FnScope ["machine", "code", "inputs", "fills", "runner"] ["machine", "code", "inputs", "fills"] (defScope s_run) := ⟨rfl, rfl, rfl, by decide +kernel, rfl, by decide +kernel, by decide +kernel⟩
theorem ok_run {CC CI : Addr} {dvs : List V} (F : TopFnD K mg "run" s_run ["machine", "code", "inputs", "fills"] dvs) (T : TxtR K mg) (mk : MachCls K mg CM) (cc : CodeCls K mg CC) (rc : RunCls K mg C) (C_Runner : OwnCls K mg "Runner" C) (D_need_registers : DefX P w K mg base 3 "need_registers" ["machine", "code"] [] (spNeed K CM CC CI))
    (D_Runner_init : MethOk P w K mg base 1 C "__init__" ["self", "machine", "rows", "inputs", "fills"] (spRunnerInit K C CM)) (D_Runner_advance : MethOk P w K mg base 3 C "advance" ["self"] (spAdvance K C)) :
    DefX P w K mg base 5 "run" ["machine", "code", "inputs", "fills"] [] (spRun K CM CC CI) ∧ DefX P w K mg base 5 "run" ["machine", "code", "inputs", "fills"] dvs (spRun K CM CC CI) := by
  refine F.okX sc_run (fun vs H Q E h => ?_) (fun f cdv A outer s H vs Q E hr h => ?_)
  · obtain ⟨mc, c, p, pin, pf, W, R, rs, rfl, _⟩ := h
    rfl
  · obtain ⟨mc, c, p, pin, pf, W, R, rs, rfl, hM, hC, ok, hW, hR1, h⟩ := h
    refine ⟨_, (pss_cons (ps_expr (pe_fnX D_need_registers (takes_of rfl rfl rfl rfl) (hr.mono (by decide)) rfl (pa_cons (pv 0) (pa_cons (pv 1) pa_nil))))
    (pss_cons (ps_set (i := 4) sc_run.nd rfl (.inl rfl) (pe_mk C_Runner D_Runner_init (hr.mono (by decide)) rfl (pa_cons (pv 0) (pa_cons (pe_fld (pv 1) (by rfl)) (pa_cons (pv 2) (pa_cons (pv 3) pa_nil))))))
    (pss_cut (ps_while (passes_of rfl) (pt_cmpR op_lt (pe_fld (pv 4) (by rfl)) (pe_callB call_len_seq (by rfl) T.b_len (by decide +kernel) (pa_cons (pe_fld (pv 1) (by rfl)) pa_nil)) (nomark _)) (pss_one (ps_expr (pe_mth0 C_Runner.cl D_Runner_advance (hr.mono (by decide)) (pv 4)))))
    (pss_one (ps_ret (pe_ix ix_list (pe_fld (pv 4) (by rfl)) pe_int (fun _ _ => rfl))))))), ?_⟩
    rcases h with ⟨fits, nobig, inp, fl, hin, hil, hf, hfl, k⟩ | ⟨i, r, hi, hb, hj, k⟩
    · refine ⟨_, rfl, _, rfl, mc, c, p, W, R, rs, rfl, hM, hC, ok, fun _ H1 s1 => ?_, fun i r hi hb => ?_⟩
      · obtain ⟨dxc, xs, hc, hT, hR⟩ := hC
        have hc1 := s1 _ _ hc
        refine ⟨_, rfl, _, rfl, c, CC, dxc, _, _, rfl, hc1, cc.own.cl, cc.nR, codeF_rows p, _, rfl, _, rfl, ?_⟩
        intro x dx hx hdx ndx
        have s2 : Same H1 (upd (upd H1 dx (.own x)) x (.ins C dx [])) := fun b o e => by
          rw [upd_ne (ne_of_none e hx), upd_ne (ne_of_none e hdx)]
          exact e
        have hx2 : upd (upd H1 dx (.own x)) x (.ins C dx []) x = some (.ins C dx []) := upd_same
        generalize upd (upd H1 dx (.own x)) x (.ins C dx []) = H2 at s2 hx2
        have s3 := s1.trans s2
        refine ⟨x, dx, mc, p, pin, pf, W, R, xs, rs, inp, fl, rfl, hx2, hM.same s3, hW, hR1.2, sqT_same s3 hT, hR.same s3, hin.same s3, hil, hf.same s3, fun H3 ra sa hra hsa b3 ru3 => ⟨rfl, ?_⟩⟩
        have hxH : H x = none := by
          cases e : H x with
          | none => rfl
          | some o =>
            rw [s1 _ _ e] at hx
            cases hx
        have fr : ∀ {q : Addr}, H2 q = none → H q = none := fun {q} e => by
          cases e' : H q with
          | none => rfl
          | some o =>
            rw [s3 _ _ e'] at e
            cases e
        have s4 : Same H H3 := fun b o e => b3 b o (s3 _ _ e) (by simpa using ne_of_none e hxH)
        have hm0 : (0 : Int) < 2 ^ W := by exact_mod_cast Nat.pos_of_ne_zero (by simp)
        have hm1 : (2 : Int) ^ W ≤ 18446744073709551616 := by
          have : (2 : Nat) ^ W ≤ 2 ^ 64 := Nat.pow_le_pow_right (by decide) hW
          exact (by exact_mod_cast this : (2 : Int) ^ W ≤ 2 ^ 64)
        refine ⟨fun σ H' => σ = [some (.ref mc), some (.ref c), some (.ref pin), some (.ref pf), some (.ref x)] ∧ Same H H' ∧ RunAt K C x ⟨p, pf, ra, sa, xs, rs, fl, 2 ^ W⟩ (finM (2 ^ W) fl rs (startM (2 ^ W) R inp)) H' ∧ Good (2 ^ W) R (finM (2 ^ W) fl rs (startM (2 ^ W) R inp)), ?_, ?_⟩
        · refine ⟨fun n σ H' => ∃ st : Mc, σ = [some (.ref mc), some (.ref c), some (.ref pin), some (.ref pf), some (.ref x)] ∧ n = rs.length - st.at_ ∧ Same H H' ∧ RunAt K C x ⟨p, pf, ra, sa, xs, rs, fl, 2 ^ W⟩ st H' ∧ Good (2 ^ W) R st ∧ finM (2 ^ W) fl rs st = finM (2 ^ W) fl rs (startM (2 ^ W) R inp),
            ⟨_, _, rfl, rfl, s4, ru3, startM_good hm0 hil, rfl⟩, ?_⟩
          rintro n σ H4 ⟨st, rfl, rfl, s5, ru, gd, ef⟩
          obtain ⟨dx4, hx4⟩ := ru.hx
          refine ⟨_, rfl, x, C, dx4, _, _, rfl, hx4, rc.own.cl, rc.n_at, runF_at .., _, rfl, c, CC, dxc, _, _, rfl, s5 _ _ hc, cc.own.cl, cc.nR, codeF_rows p, p, _, rfl, .inr (sqT_same s5 hT), _, _, rfl, rfl, _, rfl, ?_⟩
          refine ite2 (fun h => ?_) (fun h => ?_)
          · have h := of_decide_eq_true h
            rw [hR.len] at h
            have hat : st.at_ < rs.length := by omega
            refine ⟨_, fun _ _ h => h, ?_⟩
            refine ⟨_, rfl, x, dx4, _, rfl, hx4, runF_advance .., x, _, st, R, rfl, ru, gd, ⟨hm0, hm1⟩, hfl, fits, hat, ok.few, fun H5 ru5 b5 => ?_⟩
            have := nxt_at (m := 2 ^ W) (fl := fl) hat
            refine ⟨_, ?_, _, rfl, rfl, fun b o e => b5 b o (s5 _ _ e) ?_, ru5, gd.nxt hm0 fits, (finM_nxt hat).trans ef⟩
            · show rs.length - (nxt (2 ^ W) fl rs st).at_ < rs.length - st.at_
              omega
            · have n1 := ne_of_none e hxH
              have n2 := ne_of_none e (fr hra)
              have n3 := ne_of_none e (fr hsa)
              simp [n1, n2, n3]
          · have h := of_decide_eq_false (Bool.eq_false_iff.mpr h)
            rw [hR.len] at h
            have hat : ¬ st.at_ < rs.length := by omega
            rw [finM_stop hat] at ef
            rw [← ef]
            exact ⟨rfl, s5, ru, gd⟩
        · rintro σ H4 ⟨rfl, s5, ru, gd⟩
          obtain ⟨dx4, hx4⟩ := ru.hx
          refine ⟨_, rfl, x, C, dx4, _, _, rfl, hx4, rc.own.cl, rc.n_registers, runF_registers .., ra, _, _, _, rfl, rfl, SqL.of ru.hra, gd.at_ ⟨Int.le_refl _, by omega⟩, ?_⟩
          exact k H4 s5
      · rw [nobig i r hi] at hb
        cases hb
    · refine ⟨_, rfl, _, rfl, mc, c, p, W, R, rs, rfl, hM, hC, ok, fun hn => ?_, fun i' r' hi' hb' hj' d H' s1 hd hx => ?_⟩
      · rw [hn i r hi] at hb
        cases hb
      · have e : i' = i := by
          rcases Nat.lt_trichotomy i' i with q | q | q
          · rw [hj i' r' q hi'] at hb'
            cases hb'
          · exact q
          · rw [hj' i r q hi] at hb
            cases hb
        subst e
        exact k d H' s1 hd hx
end
end LB
set_option Elab.async false
set_option linter.all false
set_option maxRecDepth 100000
set_option maxHeartbeats 4000000
namespace LB
open PySem PySem.Spec PyProof.Rows L2
open C8 (pss_cut tCut)
section
variable {P : Program} {w : World} {K : PySem.W.Frag} {mg : Str → Option Value} {base : Heap}
/-- a number of either sign -/
def spNumber : Sp := fun vs H Q _ => ∃ (d l : Addr), vs = [.ref d] ∧ Deal d l H ∧
  ∀ (n : Int) (H' : Hp), -18446744073709551616 < n → n < 18446744073709551616 → Deal d l H' → Keep d l H H' → Q (.int n) H'
theorem pow_le63 {r : Int} (h : r < 64) : (2 : Int) ^ r.toNat ≤ 9223372036854775808 := by
  have e : r.toNat ≤ 63 := by omega
  have : (2 : Nat) ^ r.toNat ≤ 2 ^ 63 := Nat.pow_le_pow_right (by decide) e
  have q : ((2 ^ r.toNat : Nat) : Int) ≤ ((2 ^ 63 : Nat) : Int) := Int.ofNat_le.mpr this
  rw [Int.natCast_pow] at q
  exact q
theorem pow_pos2 (n : Nat) : (0 : Int) < 2 ^ n := Int.pow_pos (by decide)
abbrev s_law_number : Stmt := top 33
theorem sc_law_number : FnScope ["_law_deal_here", "_law_form", "_law_number_here"] ["_law_deal_here"] (defScope s_law_number) := ⟨rfl, rfl, rfl, by decide +kernel, rfl, by decide +kernel, by decide +kernel⟩
theorem ok_law_number (F : TopFn K mg "_law_number" s_law_number ["_law_deal_here"]) (D_law_draw : DefOk P w K mg base 1 "_law_draw" ["_law_deal_here", "_law_many"] spDraw) : DefOk P w K mg base 2 "_law_number" ["_law_deal_here"] spNumber := by
  refine F.ok sc_law_number (fun vs H Q E h => ?_) (fun f cdv A outer s H vs Q E hr h => ?_)
  · obtain ⟨d, l, rfl, _⟩ := h
    rfl
  · obtain ⟨d, l, rfl, hd, k⟩ := h
    refine ⟨_, (pss_cons (ps_set (i := 1) sc_law_number.nd rfl (.inl rfl) (pe_fn D_law_draw (hr.mono (by decide)) rfl (pa_cons (pv 0) (pa_cons pe_int pa_nil))))
    (pss_cons (ps_set (i := 2) sc_law_number.nd rfl (.inl rfl) (pe_fn D_law_draw (hr.mono (by decide)) rfl (pa_cons (pv 0) (pa_cons pe_int pa_nil))))
    (pss_cut (ps_if (pt_cmpR op_eq (pv 1) pe_int (nomark _)) (pss_one (ps_set (i := 2) sc_law_number.nd rfl (.inl rfl) (pe_op op_sub (pe_op op_shl pe_int (pe_fn D_law_draw (hr.mono (by decide)) rfl (pa_cons (pv 0) (pa_cons pe_int pa_nil)))) (pe_fn D_law_draw (hr.mono (by decide)) rfl (pa_cons (pv 0) (pa_cons pe_int pa_nil)))))) pss_nil)
    (pss_cut (ps_if (pt_cmpR op_eq (pv 1) pe_int (nomark _)) (pss_one (ps_set (i := 2) sc_law_number.nd rfl (.inl rfl) (pe_fn D_law_draw (hr.mono (by decide)) rfl (pa_cons (pv 0) (pa_cons (pe_op op_shl pe_int pe_int) pa_nil))))) pss_nil)
    (pss_one (ps_ret (pe_ix ix_list (pe_lst (pa_cons (pv 2) (pa_cons (pe_op op_sub pe_int (pv 2)) pa_nil))) (pe_fn D_law_draw (hr.mono (by decide)) rfl (pa_cons (pv 0) (pa_cons pe_int pa_nil))) (fun _ _ => rfl)))))))), ?_⟩
    refine ⟨_, rfl, d, l, 6, rfl, hd, by decide, by decide, fun r1 H1 a0 a1 D1 K1 => ?_⟩
    refine ⟨_, rfl, d, l, 6, rfl, D1, by decide, by decide, fun r2 H2 b0 b1 D2 K2 => ?_⟩
    refine ⟨fun σ H' => ∃ n, σ = [some (.ref d), some (.int r1), some (.int n)] ∧ 0 ≤ n ∧ n < 18446744073709551616 ∧ Deal d l H' ∧ Keep d l H H', ?_, ?_⟩
    · refine ⟨_, rfl, rfl, _, rfl, ?_⟩
      refine ite2 (fun _ => ?_) (fun _ => ⟨_, rfl, b0, by omega, D2, K1.trans K2⟩)
      refine ⟨_, rfl, d, l, 64, rfl, D2, by decide, by decide, fun r3 H3 c0 c1 D3 K3 => ?_⟩
      refine ⟨_, _, rfl, rfl, ⟨c0, by omega, by decide⟩, ?_⟩
      refine ⟨_, rfl, d, l, 2, rfl, D3, by decide, by decide, fun r4 H4 e0 e1 D4 K4 => ?_⟩
      refine ⟨_, _, rfl, rfl, ?_⟩
      have h1 := pow_le63 c1
      have h2 := pow_pos2 r3.toNat
      exact ⟨_, rfl, by omega, by omega, D4, ((K1.trans K2).trans K3).trans K4⟩
    rintro σ H3 ⟨n3, rfl, n0, n1, D3, K3⟩
    refine ⟨fun σ H' => ∃ n, σ = [some (.ref d), some (.int r1), some (.int n)] ∧ 0 ≤ n ∧ n < 18446744073709551616 ∧ Deal d l H' ∧ Keep d l H H', ?_, ?_⟩
    · refine ⟨_, rfl, rfl, _, rfl, ?_⟩
      refine ite2 (fun _ => ?_) (fun _ => ⟨_, rfl, n0, n1, D3, K3⟩)
      refine ⟨_, rfl, _, _, rfl, rfl, ⟨by decide, by decide, by decide⟩, d, l, _, rfl, D3, by decide, by decide, fun r4 H4 c0 c1 D4 K4 => ?_⟩
      exact ⟨_, rfl, c0, c1, D4, K3.trans K4⟩
    rintro σ H4 ⟨n4, rfl, m0, m1, D4, K4⟩
    refine ⟨_, rfl, _, rfl, _, _, rfl, rfl, (by show 2 ≤ sizeLine; decide), fun p hp => ?_⟩
    have K5 : Keep d l H (upd H4 p (.lst [.int n4, .int (0 - n4)])) := K4.new hp
    refine ⟨_, rfl, d, l, 2, rfl, D4.new hp, by decide, by decide, fun r5 H5 c0 c1 D5 K6 => ?_⟩
    have hne := D4.fresh hp
    have h5 : H5 p = some (.lst [.int n4, .int (0 - n4)]) := K6 _ _ upd_same hne.1 hne.2
    have hr : r5 = 0 ∨ r5 = 1 := by omega
    rcases hr with rfl | rfl
    · exact ⟨p, _, _, _, rfl, rfl, SqL.of h5, atI_nat (j := 0) rfl, k _ _ (by omega) m1 D5 (K5.trans K6)⟩
    · exact ⟨p, _, _, _, rfl, rfl, SqL.of h5, atI_nat (j := 1) rfl, k _ _ (by omega) (by omega) D5 (K5.trans K6)⟩
end
end LB
set_option Elab.async false
set_option linter.all false
set_option maxRecDepth 100000
set_option maxHeartbeats 4000000
namespace LB
open PySem PySem.Spec PyProof.Rows L2
open C8 (pss_cut tCut)
/-! ### rows that are drawn -/
inductive DrawnRow (R left : Int) : Rw → Prop
  | set (r n : Int) (h1 : 0 ≤ r ∧ r < R) (h2 : -18446744073709551616 < n ∧ n < 18446744073709551616) : DrawnRow R left ("set", [r, n])
  | two (z : Str) (r a : Int) (hz : z = "copy" ∨ z = "left" ∨ z = "right") (h1 : 0 ≤ r ∧ r < R) (h2 : 0 ≤ a ∧ a < R) : DrawnRow R left (z, [r, a])
  | three (z : Str) (r a b : Int) (hz : z = "add" ∨ z = "sub" ∨ z = "mul") (h1 : 0 ≤ r ∧ r < R) (h2 : 0 ≤ a ∧ a < R) (h3 : 0 ≤ b ∧ b < R) : DrawnRow R left (z, [r, a, b])
  | load (r s : Int) (h1 : 0 ≤ r ∧ r < R) (h2 : 0 ≤ s ∧ s < 1000) : DrawnRow R left ("load", [r, s])
  | store (s a : Int) (h1 : 0 ≤ s ∧ s < 1000) (h2 : 0 ≤ a ∧ a < R) : DrawnRow R left ("store", [s, a])
  | skip (a : Int) (j : Nat) (c n : Int) (h1 : 0 ≤ a ∧ a < R) (h2 : j ≤ 6) (h3 : 0 ≤ c ∧ c < 2 ^ j) (h4 : 0 ≤ n ∧ n ≤ left) : DrawnRow R left ("skip", [a, 2 ^ j, c, n])
theorem within_reg {n : Int} (h : 0 ≤ n ∧ n < 8) : within "register" n = true := by
  unfold within
  rw [if_pos rfl]
  simp [h.1, h.2]
theorem within_slot {n : Int} (h : 0 ≤ n ∧ n < 1000) : within "slot" n = true := by
  unfold within
  rw [if_neg (by decide +kernel), if_pos rfl]
  simp [h.1, h.2]
theorem within_num {n : Int} (h : -18446744073709551616 < n ∧ n < 18446744073709551616) : within "number" n = true := by
  unfold within
  rw [if_neg (by decide +kernel), if_neg (by decide +kernel), if_pos rfl]
  simp [h.1, h.2]
theorem within_mod {j : Nat} (h : j ≤ 6) : within "modulus" (2 ^ j) = true := by
  unfold within
  rw [if_neg (by decide +kernel), if_neg (by decide +kernel), if_neg (by decide +kernel), if_pos rfl]
  match j, h with
  | 0, _ => decide
  | 1, _ => decide
  | 2, _ => decide
  | 3, _ => decide
  | 4, _ => decide
  | 5, _ => decide
  | 6, _ => decide
theorem within_rest {n : Int} (h : 0 ≤ n ∧ n < 64) : within "rest" n = true := by
  unfold within
  rw [if_neg (by decide +kernel), if_neg (by decide +kernel), if_neg (by decide +kernel), if_neg (by decide +kernel), if_pos rfl]
  simp [h.1, h.2]
theorem pow_le6 {j : Nat} (h : j ≤ 6) : (2 : Int) ^ j ≤ 64 := by
  match j, h with
  | 0, _ => decide
  | 1, _ => decide
  | 2, _ => decide
  | 3, _ => decide
  | 4, _ => decide
  | 5, _ => decide
  | 6, _ => decide
theorem rowOk2 {z f g : Str} {a b : Int} (hz : (z, [f, g]) ∈ forms) (hs : ¬ z = "skip") (h1 : within f a = true) (h2 : within g b = true) : RowOk z [a, b] := by
  refine ⟨⟨_, hz, rfl, fun i f' n hf hn => ?_⟩, fun e => absurd e hs⟩
  match i, hf, hn with
  | 0, hf, hn => cases hf; cases hn; exact h1
  | 1, hf, hn => cases hf; cases hn; exact h2
  | i + 2, hf, hn => simp at hf
theorem rowOk3 {z f g k : Str} {a b c : Int} (hz : (z, [f, g, k]) ∈ forms) (hs : ¬ z = "skip") (h1 : within f a = true) (h2 : within g b = true) (h3 : within k c = true) : RowOk z [a, b, c] := by
  refine ⟨⟨_, hz, rfl, fun i f' n hf hn => ?_⟩, fun e => absurd e hs⟩
  match i, hf, hn with
  | 0, hf, hn => cases hf; cases hn; exact h1
  | 1, hf, hn => cases hf; cases hn; exact h2
  | 2, hf, hn => cases hf; cases hn; exact h3
  | i + 3, hf, hn => simp at hf
theorem mem_set : (("set" : Str), (["register", "number"] : List Str)) ∈ forms := by decide +kernel
theorem mem_load : (("load" : Str), (["register", "slot"] : List Str)) ∈ forms := by decide +kernel
theorem mem_store : (("store" : Str), (["slot", "register"] : List Str)) ∈ forms := by decide +kernel
theorem mem_two {z : Str} (h : z = "copy" ∨ z = "left" ∨ z = "right") : (z, (["register", "register"] : List Str)) ∈ forms ∧ ¬ z = "skip" := by
  rcases h with rfl | rfl | rfl <;> exact ⟨by decide +kernel, by decide +kernel⟩
theorem mem_three {z : Str} (h : z = "add" ∨ z = "sub" ∨ z = "mul") : (z, (["register", "register", "register"] : List Str)) ∈ forms ∧ ¬ z = "skip" := by
  rcases h with rfl | rfl | rfl <;> exact ⟨by decide +kernel, by decide +kernel⟩
theorem ns_set : ¬ ("set" : Str) = "skip" := by decide +kernel
theorem ns_load : ¬ ("load" : Str) = "skip" := by decide +kernel
theorem ns_store : ¬ ("store" : Str) = "skip" := by decide +kernel
theorem DrawnRow.ok {R left : Int} {r : Rw} (h : DrawnRow R left r) (hR : R ≤ 8) (hl : left ≤ 1000) : RowOk r.1 r.2 ∧ r.2.length ≤ 10 := by
  cases h with
  | set r n h1 h2 => exact ⟨rowOk2 mem_set ns_set (within_reg ⟨h1.1, by omega⟩) (within_num h2), (by show 2 ≤ 10; decide)⟩
  | two z r a hz h1 h2 => exact ⟨rowOk2 (mem_two hz).1 (mem_two hz).2 (within_reg ⟨h1.1, by omega⟩) (within_reg ⟨h2.1, by omega⟩), (by show 2 ≤ 10; decide)⟩
  | three z r a b hz h1 h2 h3 => exact ⟨rowOk3 (mem_three hz).1 (mem_three hz).2 (within_reg ⟨h1.1, by omega⟩) (within_reg ⟨h2.1, by omega⟩) (within_reg ⟨h3.1, by omega⟩), (by show 3 ≤ 10; decide)⟩
  | load r s h1 h2 => exact ⟨rowOk2 mem_load ns_load (within_reg ⟨h1.1, by omega⟩) (within_slot h2), (by show 2 ≤ 10; decide)⟩
  | store s a h1 h2 => exact ⟨rowOk2 mem_store ns_store (within_slot h1) (within_reg ⟨h2.1, by omega⟩), (by show 2 ≤ 10; decide)⟩
  | skip a j c n h1 h2 h3 h4 =>
    have hp := pow_le6 h2
    refine ⟨⟨⟨_, skip_mem, rfl, fun i f' m hf hn => ?_⟩, fun _ => ⟨a, 2 ^ j, c, n, rfl, h3.2⟩⟩, by show 4 ≤ 10; decide⟩
    match i, hf, hn with
    | 0, hf, hn => cases hf; cases hn; exact within_reg ⟨h1.1, by omega⟩
    | 1, hf, hn => cases hf; cases hn; exact within_mod h2
    | 2, hf, hn => cases hf; cases hn; exact within_rest ⟨h3.1, by omega⟩
    | 3, hf, hn => cases hf; cases hn; exact within_count h4.1 (by omega)
    | i + 4, hf, hn => simp at hf
section
variable {P : Program} {w : World} {K : PySem.W.Frag} {mg : Str → Option Value} {base : Heap}
def spLawRow : Sp := fun vs H Q _ => ∃ (d l : Addr) (R left : Int), vs = [.ref d, .int R, .int left] ∧ Deal d l H ∧ (1 ≤ R ∧ R ≤ 8) ∧ (0 ≤ left ∧ left ≤ 1000) ∧
  ∀ r H' p, DrawnRow R left r → Deal d l H' → Keep d l H H' → H' p = some (.tup (rowL r.1 r.2)) → Q (.ref p) H'
def wordsL : List Str := ["set", "copy", "add", "sub", "mul", "add", "mul", "left", "right", "right", "load", "store", "skip"]
def cwL : List Str := ["copy", "left", "right"]
theorem slots_at {r : Int} (h0 : 0 ≤ r) (h1 : r < 3) : ∃ s : Int, atI [V.int 0, .int 7, .int 999] r = some (.int s) ∧ 0 ≤ s ∧ s < 1000 := by
  have h : r = 0 ∨ r = 1 ∨ r = 2 := by omega
  rcases h with rfl | rfl | rfl
  · exact ⟨0, atI_nat (j := 0) rfl, by decide, by decide⟩
  · exact ⟨7, atI_nat (j := 1) rfl, by decide, by decide⟩
  · exact ⟨999, atI_nat (j := 2) rfl, by decide, by decide⟩
theorem words_at {r : Int} (h0 : 0 ≤ r) (h1 : r < 13) : ∃ z, atI (wordsL.map V.str) r = some (.str z) ∧ z ∈ wordsL := by
  have hlt : r.toNat < wordsL.length := by
    show r.toNat < 13
    omega
  have e : ((r.toNat : Nat) : Int) = r := by omega
  refine ⟨wordsL[r.toNat], ?_, List.getElem_mem hlt⟩
  have q := atI_nat (xs := wordsL.map V.str) (j := r.toNat) (v := .str wordsL[r.toNat]) (by rw [List.getElem?_map, List.getElem?_eq_getElem hlt] <;> rfl)
  rw [e] at q
  exact q
theorem in_strs {z : Str} : ∀ zs : List Str, inV (.str z) (zs.map V.str) = decide (z ∈ zs)
  | [] => by simp [inV]
  | y :: zs => by
    have ih := in_strs (z := z) zs
    unfold inV at ih ⊢
    rw [List.map_cons, List.any_cons, ih]
    by_cases e : y = z
    · subst e
      simp [eqV]
    · have e2 : ¬ z = y := fun q => e q.symm
      simp [eqV, e, e2]
theorem flat_strs : ∀ zs : List Str, (zs.map V.str).all flatV = true
  | [] => rfl
  | y :: zs => by rw [List.map_cons, List.all_cons, flat_strs zs] <;> rfl
/-- three draws in a list -/
abbrev s_law_row : Stmt := top 37
theorem sc_law_row : FnScope ["_law_deal_here", "_law_registers", "_law_left", "_law_words", "_law_word", "_law_r", "_law_a", "_law_b", "_law_turn", "_law_modulus"] ["_law_deal_here", "_law_registers", "_law_left"] (defScope s_law_row) := ⟨rfl, rfl, rfl, by decide +kernel, rfl, by decide +kernel, by decide +kernel⟩
theorem ok_law_row (F : TopFn K mg "_law_row" s_law_row ["_law_deal_here", "_law_registers", "_law_left"]) (T : Txt K mg) (D_law_draw : DefOk P w K mg base 1 "_law_draw" ["_law_deal_here", "_law_many"] spDraw) (D_law_number : DefOk P w K mg base 2 "_law_number" ["_law_deal_here"] spNumber) :
    DefOk P w K mg base 3 "_law_row" ["_law_deal_here", "_law_registers", "_law_left"] spLawRow := by
  refine F.ok sc_law_row (fun vs H Q E h => ?_) (fun f cdv A outer s H vs Q E hr h => ?_)
  · obtain ⟨d, l, R, left, rfl, _⟩ := h
    rfl
  · obtain ⟨d, l, R, left, rfl, hd, ⟨hR0, hR1⟩, ⟨hl0, hl1⟩, k⟩ := h
    refine ⟨_, (pss_cons (ps_set (i := 3) sc_law_row.nd rfl (.inl rfl) (pe_tup (pa_cons pe_str (pa_cons pe_str (pa_cons pe_str (pa_cons pe_str (pa_cons pe_str (pa_cons pe_str (pa_cons pe_str (pa_cons pe_str (pa_cons pe_str (pa_cons pe_str (pa_cons pe_str (pa_cons pe_str (pa_cons pe_str pa_nil)))))))))))))))
    (pss_cons (ps_set (i := 4) sc_law_row.nd rfl (.inl rfl) (pe_ix ix_tup (pv 3) (pe_fn D_law_draw (hr.mono (by decide)) rfl (pa_cons (pv 0) (pa_cons pe_int pa_nil))) (fun _ _ => rfl)))
    (pss_cons (ps_asg (pe_lc (own := [("_law_turn", 8)]) (g := gName 8) (tt := tYes) rfl sc_law_row.nd (pi_range1 (by rfl) T.b_range (pa_cons pe_int pa_nil)) (blkOk_by (own := [("_law_turn", 8)]) (N := ["_law_deal_here", "_law_registers", "_law_left", "_law_words", "_law_word", "_law_r", "_law_a", "_law_b", "_law_turn", "_law_modulus"]) (sc := defScope s_law_row) (by decide +kernel)) (fun _ _ _ _ _ => (pg_name (i := 8) sc_law_row.nd rfl (.inl rfl))) (fun _ _ _ _ _ => pts_nil) (fun _ _ _ _ _ => (pe_fn D_law_draw (hr.mono (by decide)) rfl (pa_cons (pv 0) (pa_cons (pv 1) pa_nil))))) (pg_unl rfl (pgs_cons (pg_name (i := 5) sc_law_row.nd rfl (.inl rfl)) (pgs_cons (pg_name (i := 6) sc_law_row.nd rfl (.inl rfl)) (pgs_cons (pg_name (i := 7) sc_law_row.nd rfl (.inl rfl)) pgs_nil)))))
    (pss_cons (ps_if (pt_cmpR op_eq (pv 4) pe_str (nomark _)) (pss_one (ps_ret (pe_tup (pa_cons (pv 4) (pa_cons (pv 5) (pa_cons (pe_fn D_law_number (hr.mono (by decide)) rfl (pa_cons (pv 0) pa_nil)) pa_nil)))))) pss_nil)
    (pss_cons (ps_if (pt_cmpR op_in_seq (pv 4) (pe_tup (pa_cons pe_str (pa_cons pe_str (pa_cons pe_str pa_nil)))) (by rfl)) (pss_one (ps_ret (pe_tup (pa_cons (pv 4) (pa_cons (pv 5) (pa_cons (pv 6) pa_nil)))))) pss_nil)
    (pss_cons (ps_if (pt_cmpR op_eq (pv 4) pe_str (nomark _)) (pss_one (ps_ret (pe_tup (pa_cons (pv 4) (pa_cons (pv 5) (pa_cons (pe_ix ix_list (pe_lst (pa_cons pe_int (pa_cons pe_int (pa_cons pe_int pa_nil)))) (pe_fn D_law_draw (hr.mono (by decide)) rfl (pa_cons (pv 0) (pa_cons pe_int pa_nil))) (fun _ _ => rfl)) pa_nil)))))) pss_nil)
    (pss_cons (ps_if (pt_cmpR op_eq (pv 4) pe_str (nomark _)) (pss_one (ps_ret (pe_tup (pa_cons (pv 4) (pa_cons (pe_ix ix_list (pe_lst (pa_cons pe_int (pa_cons pe_int (pa_cons pe_int pa_nil)))) (pe_fn D_law_draw (hr.mono (by decide)) rfl (pa_cons (pv 0) (pa_cons pe_int pa_nil))) (fun _ _ => rfl)) (pa_cons (pv 6) pa_nil)))))) pss_nil)
    (pss_cons (ps_if (pt_cmpR op_eq (pv 4) pe_str (nomark _)) (pss_cons (ps_set (i := 9) sc_law_row.nd rfl (.inl rfl) (pe_op op_shl pe_int (pe_fn D_law_draw (hr.mono (by decide)) rfl (pa_cons (pv 0) (pa_cons pe_int pa_nil)))))
    (pss_one (ps_ret (pe_tup (pa_cons (pv 4) (pa_cons (pv 6) (pa_cons (pv 9) (pa_cons (pe_fn D_law_draw (hr.mono (by decide)) rfl (pa_cons (pv 0) (pa_cons (pv 9) pa_nil))) (pa_cons (pe_fn D_law_draw (hr.mono (by decide)) rfl (pa_cons (pv 0) (pa_cons (pe_op op_add (pv 2) pe_int) pa_nil))) pa_nil))))))))) pss_nil)
    (pss_one (ps_ret (pe_tup (pa_cons (pv 4) (pa_cons (pv 5) (pa_cons (pv 6) (pa_cons (pv 7) pa_nil))))))))))))))), ?_⟩
    refine ⟨(by show 13 ≤ sizeLine; decide), fun p hp => ?_⟩
    have D1 : Deal d l (upd H p (.tup (wordsL.map V.str))) := hd.new hp
    have K1 : Keep d l H (upd H p (.tup (wordsL.map V.str))) := Keep.refl.new hp
    have hp1 : upd H p (.tup (wordsL.map V.str)) p = some (.tup (wordsL.map V.str)) := upd_same
    show tSeq _ _ _ _ (upd H p (.tup (wordsL.map V.str)))
    generalize upd H p (.tup (wordsL.map V.str)) = H1 at D1 K1 hp1
    refine ⟨_, rfl, _, rfl, d, l, 13, rfl, D1, by decide, by decide, fun r1 H2 a0 a1 D2 K2 => ?_⟩
    obtain ⟨z, hz, hzm⟩ := words_at a0 a1
    refine ⟨p, _, _, _, rfl, rfl, SqT.of (K2.tup D1 hp1), hz, ?_⟩
    refine ⟨3, rfl, by decide, by decide, fun D hD => ?_⟩
    obtain ⟨nDd, nDl⟩ := D2.fresh hD
    refine lc_range (lo := 0) (n := 3) (fun i H' => ∃ ms : List Int, H' D = some (.lst (ms.map V.int)) ∧ ms.length = i ∧ (∀ m ∈ ms, 0 ≤ m ∧ m < R) ∧ Deal d l H' ∧ Keep d l H2 H')
      ⟨[], upd_same, rfl, (fun m h => by cases h), D2.new hD, Keep.refl.new hD⟩ ?_ ?_
    · rintro i H3 hi ⟨ms, hDD, hml, hmb, D3, K3⟩
      refine ⟨rfl, ?_⟩
      refine ⟨_, rfl, _, rfl, d, l, R, rfl, D3, by omega, by omega, fun r H4 c0 c1 D4 K4 => ?_⟩
      refine ⟨_, K4 _ _ hDD nDd nDl, ?_, ms ++ [r], ?_, ?_, ?_, D4.upd nDd nDl, (K3.trans K4).mut hD⟩
      · rw [List.length_map]; exact szK (by omega)
      · rw [upd_same, List.map_append] <;> rfl
      · rw [List.length_append, hml] <;> rfl
      · intro m hm
        rcases List.mem_append.mp hm with h | h
        · exact hmb m h
        · rw [List.mem_singleton.mp h]
          exact ⟨c0, c1⟩
    · rintro H3 ⟨ms, hDD, hml, hmb, D3, K3⟩
      obtain ⟨rr, ra, rb, rfl⟩ : ∃ x y u, ms = [x, y, u] := by
        match ms, hml with
        | [x, y, u], _ => exact ⟨x, y, u, rfl⟩
      have hr := hmb rr (by simp)
      have ha := hmb ra (by simp)
      have hb := hmb rb (by simp)
      have K13 : Keep d l H H3 := (K1.trans K2).trans K3
      refine ⟨D, _, rfl, SqL.of hDD, rfl, _, _, rfl, _, _, rfl, _, _, rfl, rfl, ?_⟩
      refine ⟨_, rfl, rfl, _, rfl, ?_⟩
      refine ite2 (fun h => ?_) (fun h1 => ?_)
      · have ez : z = "set" := V.str.inj (of_decide_eq_true h)
        subst ez
        refine ⟨_, rfl, _, rfl, _, rfl, d, l, rfl, D3, fun n H4 n0 n1 D4 K4 => ?_⟩
        refine ⟨(by show 3 ≤ sizeLine; decide), fun q hq => ?_⟩
        exact k ("set", [rr, n]) _ q (.set rr n hr ⟨n0, n1⟩) (D4.new hq) ((K13.trans K4).new hq) upd_same
      refine ⟨_, rfl, (by show 3 ≤ sizeLine; decide), fun q hq => ?_⟩
      have D4 := D3.new (o := .tup (cwL.map V.str)) hq
      have K14 := K13.new (o := .tup (cwL.map V.str)) hq
      have hq4 : upd H3 q (.tup (cwL.map V.str)) q = some (.tup (cwL.map V.str)) := upd_same
      show rIn _ _ _ _ (upd H3 q (.tup (cwL.map V.str))) _
      generalize upd H3 q (.tup (cwL.map V.str)) = H4 at D4 K14 hq4
      refine ⟨q, _, rfl, .inr (SqT.of hq4), rfl, flat_strs _, _, rfl, ?_⟩
      refine ite2 (fun h => ?_) (fun h2 => ?_)
      · have hm : z ∈ cwL := by
          have q : inV (.str z) (cwL.map V.str) = true := h
          rw [in_strs] at q
          exact of_decide_eq_true q
        have hz3 : z = "copy" ∨ z = "left" ∨ z = "right" := by simpa [cwL] using hm
        refine ⟨_, rfl, _, rfl, _, rfl, (by show 3 ≤ sizeLine; decide), fun q2 hq2 => ?_⟩
        exact k (z, [rr, ra]) _ q2 (.two z rr ra hz3 hr ha) (D4.new hq2) (K14.new hq2) upd_same
      have hnc : ¬ z ∈ cwL := fun hm => h2 (by
        show inV (.str z) (cwL.map V.str) = true
        rw [in_strs]
        exact decide_eq_true hm)
      refine ⟨_, rfl, rfl, _, rfl, ?_⟩
      refine ite2 (fun h => ?_) (fun h3 => ?_)
      · have ez : z = "load" := V.str.inj (of_decide_eq_true h)
        subst ez
        refine ⟨_, rfl, _, rfl, (by show 3 ≤ sizeLine; decide), fun q2 hq2 => ?_⟩
        have D5 := D4.new (o := .lst [.int 0, .int 7, .int 999]) hq2
        refine ⟨_, rfl, d, l, 3, rfl, D5, by decide, by decide, fun r5 H6 c0 c1 D6 K6 => ?_⟩
        obtain ⟨sl, hsl, sl0, sl1⟩ := slots_at c0 c1
        have hne := D4.fresh hq2
        refine ⟨q2, _, _, _, rfl, rfl, SqL.of (K6 _ _ upd_same hne.1 hne.2), hsl, (by show 3 ≤ sizeLine; decide), fun q3 hq3 => ?_⟩
        exact k ("load", [rr, sl]) _ q3 (.load rr sl hr ⟨sl0, sl1⟩) (D6.new hq3) (((K14.new hq2).trans K6).new hq3) upd_same
      refine ⟨_, rfl, rfl, _, rfl, ?_⟩
      refine ite2 (fun h => ?_) (fun h4 => ?_)
      · have ez : z = "store" := V.str.inj (of_decide_eq_true h)
        subst ez
        refine ⟨_, rfl, (by show 3 ≤ sizeLine; decide), fun q2 hq2 => ?_⟩
        have D5 := D4.new (o := .lst [.int 0, .int 7, .int 999]) hq2
        refine ⟨_, rfl, d, l, 3, rfl, D5, by decide, by decide, fun r5 H6 c0 c1 D6 K6 => ?_⟩
        obtain ⟨sl, hsl, sl0, sl1⟩ := slots_at c0 c1
        have hne := D4.fresh hq2
        refine ⟨q2, _, _, _, rfl, rfl, SqL.of (K6 _ _ upd_same hne.1 hne.2), hsl, _, rfl, (by show 3 ≤ sizeLine; decide), fun q3 hq3 => ?_⟩
        exact k ("store", [sl, ra]) _ q3 (.store sl ra ⟨sl0, sl1⟩ ha) (D6.new hq3) (((K14.new hq2).trans K6).new hq3) upd_same
      refine ⟨_, rfl, rfl, _, rfl, ?_⟩
      refine ite2 (fun h => ?_) (fun h5 => ?_)
      · have ez : z = "skip" := V.str.inj (of_decide_eq_true h)
        subst ez
        refine ⟨_, rfl, d, l, 3, rfl, D4, by decide, by decide, fun j H5 c0 c1 D5 K5 => ?_⟩
        refine ⟨_, _, rfl, rfl, ⟨c0, by omega, by decide⟩, ?_⟩
        have hj : j.toNat ≤ 6 := by omega
        have hp6 := pow_le6 hj
        have hp0 := pow_pos2 j.toNat
        have em : (1 : Int) * 2 ^ j.toNat = 2 ^ j.toNat := Int.one_mul _
        refine ⟨_, rfl, _, rfl, _, rfl, _, rfl, _, rfl, d, l, 1 * 2 ^ j.toNat, rfl, D5, by omega, by omega, fun c H6 e0 e1 D6 K6 => ?_⟩
        refine ⟨_, rfl, _, rfl, _, _, rfl, rfl, d, l, _, rfl, D6, by omega, by omega, fun n H7 f0 f1 D7 K7 => ?_⟩
        refine ⟨(by show 5 ≤ sizeLine; decide), fun q3 hq3 => ?_⟩
        exact k ("skip", [ra, 1 * 2 ^ j.toNat, c, n]) _ q3 (by rw [em]; exact .skip ra j.toNat c n ha hj ⟨e0, by omega⟩ ⟨f0, by omega⟩) (D7.new hq3) ((((K14.trans K5).trans K6).trans K7).new hq3) upd_same
      have hz3 : z = "add" ∨ z = "sub" ∨ z = "mul" := by
        have q1 : ¬ z = "set" := fun e => h1 (decide_eq_true (by rw [e]))
        have q3 : ¬ z = "load" := fun e => h3 (decide_eq_true (by rw [e]))
        have q4 : ¬ z = "store" := fun e => h4 (decide_eq_true (by rw [e]))
        have q5 : ¬ z = "skip" := fun e => h5 (decide_eq_true (by rw [e]))
        simp only [wordsL, cwL, List.mem_cons, List.not_mem_nil, or_false, not_or] at hzm hnc
        rcases hzm with h | h | h | h | h | h | h | h | h | h | h | h | h
        all_goals first | exact .inl h | exact .inr (.inl h) | exact .inr (.inr h) | exact absurd h q1 | exact absurd h q3 | exact absurd h q4 | exact absurd h q5 | exact absurd h hnc.1 | exact absurd h hnc.2.1 | exact absurd h hnc.2.2
      refine ⟨_, rfl, _, rfl, _, rfl, _, rfl, (by show 4 ≤ sizeLine; decide), fun q3 hq3 => ?_⟩
      exact k (z, [rr, ra, rb]) _ q3 (.three z rr ra rb hz3 hr ha hb) (D4.new hq3) (K14.new hq3) upd_same
end
end LB
set_option Elab.async false
set_option linter.all false
set_option maxRecDepth 100000
set_option maxHeartbeats 4000000
namespace LB
open PySem PySem.Spec PyProof.Rows L2
open C8 (pss_cut tCut)
section
variable {P : Program} {w : World} {K : PySem.W.Frag} {mg : Str → Option Value} {base : Heap}
/-- a new list of so many numbers -/
def spPoint : Sp := fun vs H Q _ => ∃ (d l : Addr) (many : Nat), vs = [.ref d, .int many] ∧ Deal d l H ∧ many ≤ 1000 ∧
  ∀ (ns : List Int) H' D, ns.length = many → (∀ n ∈ ns, -(10 ^ 30) < n ∧ n < 10 ^ 30) → Deal d l H' → Keep d l H H' → H D = none → H' D = some (.lst (ns.map V.int)) → Q (.ref D) H'
abbrev s_law_point : Stmt := top 34
theorem sc_law_point : FnScope ["_law_deal_here", "_law_many", "_law_found", "_law_at", "_law_number_here"] ["_law_deal_here", "_law_many"] (defScope s_law_point) := ⟨rfl, rfl, rfl, by decide +kernel, rfl, by decide +kernel, by decide +kernel⟩
theorem ok_law_point (F : TopFn K mg "_law_point" s_law_point ["_law_deal_here", "_law_many"]) (T : Txt K mg) (D_law_draw : DefOk P w K mg base 1 "_law_draw" ["_law_deal_here", "_law_many"] spDraw) : DefOk P w K mg base 2 "_law_point" ["_law_deal_here", "_law_many"] spPoint := by
  refine F.ok sc_law_point (fun vs H Q E h => ?_) (fun f cdv A outer s H vs Q E hr h => ?_)
  · obtain ⟨d, l, many, rfl, _⟩ := h
    rfl
  · obtain ⟨d, l, many, rfl, hd, hm, k⟩ := h
    refine ⟨_, (pss_cons (ps_set (i := 2) sc_law_point.nd rfl (.inl rfl) (pe_lst pa_nil))
    (pss_cut (ps_for PassesOwn.never rfl (pi_range1 (by rfl) T.b_range (pa_cons (pv 1) pa_nil)) (pg_name (i := 3) sc_law_point.nd rfl (.inl rfl))
    (pss_cons (ps_set (i := 4) sc_law_point.nd rfl (.inl rfl) (pe_ix ix_list (pe_lst (pa_cons (pe_fn D_law_draw (hr.mono (by decide)) rfl (pa_cons (pv 0) (pa_cons pe_int pa_nil))) (pa_cons (pe_fn D_law_draw (hr.mono (by decide)) rfl (pa_cons (pv 0) (pa_cons pe_int pa_nil))) (pa_cons (pe_fn D_law_draw (hr.mono (by decide)) rfl (pa_cons (pv 0) (pa_cons (pe_op op_pow pe_int pe_int) pa_nil))) pa_nil)))) (pe_fn D_law_draw (hr.mono (by decide)) rfl (pa_cons (pv 0) (pa_cons pe_int pa_nil))) (fun _ _ => rfl)))
    (pss_one (ps_expr (pe_bm PySem.F.plainAttrs_list PySem.F.slot_list_append PySem.F.type_list_append mt_append (pv 2) (pa_cons (pe_ix ix_list (pe_lst (pa_cons (pv 4) (pa_cons (pe_op op_sub pe_int (pv 4)) pa_nil))) (pe_fn D_law_draw (hr.mono (by decide)) rfl (pa_cons (pv 0) (pa_cons pe_int pa_nil))) (fun _ _ => rfl)) pa_nil))))))
    (pss_one (ps_ret (pv 2))))), ?_⟩
    refine ⟨Nat.zero_le _, fun D hD => ?_⟩
    obtain ⟨nDd, nDl⟩ := hd.fresh hD
    have d0 := hd.new (o := .lst []) hD
    have k0 : Keep d l H (upd H D (.lst [])) := Keep.refl.new hD
    have hD0 : upd H D (.lst []) D = some (.lst []) := upd_same
    generalize upd H D (.lst []) = H0 at d0 k0 hD0
    refine ⟨fun σ H' => ∃ (v3 v4 : Option V) (ns : List Int), σ = [some (.ref d), some (.int many), some (.ref D), v3, v4] ∧ ns.length = many ∧ (∀ n ∈ ns, -(10 ^ 30) < n ∧ n < 10 ^ 30) ∧ Deal d l H' ∧ Keep d l H H' ∧ H' D = some (.lst (ns.map V.int)), ?_, ?_⟩
    · refine ⟨_, rfl, (many : Int), rfl, by omega, by omega, ?_⟩
      rw [show (many : Int).toNat = many from Int.toNat_natCast many]
      refine for_range (fun i σ H' => ∃ (v3 v4 : Option V) (ns : List Int), σ = [some (V.ref d), some (.int many), some (.ref D), v3, v4] ∧ ns.length = i ∧ (∀ n ∈ ns, -(10 ^ 30) < n ∧ n < 10 ^ 30) ∧ Deal d l H' ∧ Keep d l H H' ∧ H' D = some (.lst (ns.map V.int)))
        ⟨none, none, [], rfl, rfl, (fun n h => by simp at h), d0, k0, hD0⟩ ?_ ?_
      · rintro i σ H1 hi ⟨v3, v4, ns, rfl, hl, hb, D1, K1, g1⟩
        refine ⟨_, rfl, d, l, 9, rfl, D1, by decide, by decide, fun a H2 a0 a1 D2 K2 => ?_⟩
        refine ⟨_, rfl, d, l, 300, rfl, D2, by decide, by decide, fun b H3 b0 b1 D3 K3 => ?_⟩
        refine ⟨_, rfl, _, _, rfl, rfl, ⟨by decide, by decide, by decide⟩, d, l, _, rfl, D3, by decide, by decide, fun c H4 c0 c1 D4 K4 => ?_⟩
        refine ⟨(by show 3 ≤ sizeLine; decide), fun L1 hL1 => ?_⟩
        have D5 := D4.new (o := .lst [.int a, .int b, .int c]) hL1
        have n1 := D4.fresh hL1
        have g4 := K4 _ _ (K3 _ _ (K2 _ _ g1 nDd nDl) nDd nDl) nDd nDl
        have K5 : Keep d l H (upd H4 L1 (.lst [.int a, .int b, .int c])) := (((K1.trans K2).trans K3).trans K4).new hL1
        have g5 : upd H4 L1 (.lst [.int a, .int b, .int c]) D = _ := (same_new hL1) _ _ g4
        refine ⟨_, rfl, d, l, 3, rfl, D5, by decide, by decide, fun e H6 e0 e1 D6 K6 => ?_⟩
        have l6 : H6 L1 = some (.lst [.int a, .int b, .int c]) := K6 _ _ upd_same n1.1 n1.2
        have g6 := K6 _ _ g5 nDd nDl
        have K7 := K5.trans K6
        obtain ⟨x, hx, hx0, hx1⟩ : ∃ x, atI [V.int a, V.int b, V.int c] e = some (.int x) ∧ 0 ≤ x ∧ x < 10 ^ 30 := by
          have h3 : e = 0 ∨ e = 1 ∨ e = 2 := by omega
          rcases h3 with rfl | rfl | rfl
          · exact ⟨a, rfl, a0, Int.lt_trans a1 (by decide)⟩
          · exact ⟨b, rfl, b0, Int.lt_trans b1 (by decide)⟩
          · exact ⟨c, rfl, c0, c1⟩
        refine ⟨L1, _, _, _, rfl, rfl, SqL.of l6, hx, ?_⟩
        refine ⟨_, rfl, .inl ⟨rfl, _, SqL.of g6⟩, ?_⟩
        refine ⟨_, rfl, _, rfl, _, _, rfl, rfl, (by show 2 ≤ sizeLine; decide), fun L2 hL2 => ?_⟩
        have D8 := D6.new (o := .lst [.int x, .int (0 - x)]) hL2
        have n2 := D6.fresh hL2
        have g8 : upd H6 L2 (.lst [.int x, .int (0 - x)]) D = _ := (same_new hL2) _ _ g6
        have K8 : Keep d l H (upd H6 L2 (.lst [.int x, .int (0 - x)])) := K7.new hL2
        refine ⟨_, rfl, d, l, 2, rfl, D8, by decide, by decide, fun u H9 u0 u1 D9 K9 => ?_⟩
        have l9 : H9 L2 = some (.lst [.int x, .int (0 - x)]) := K9 _ _ upd_same n2.1 n2.2
        have g9 := K9 _ _ g8 nDd nDl
        obtain ⟨y, hy, hy0, hy1⟩ : ∃ y, atI [V.int x, V.int (0 - x)] u = some (.int y) ∧ -(10 ^ 30) < y ∧ y < 10 ^ 30 := by
          have h3 : u = 0 ∨ u = 1 := by omega
          rcases h3 with rfl | rfl
          · exact ⟨x, rfl, by omega, hx1⟩
          · exact ⟨0 - x, rfl, by omega, by omega⟩
        refine ⟨L2, _, _, _, rfl, rfl, SqL.of l9, hy, D, _, _, rfl, rfl, g9, szK (by rw [List.length_map]; omega), ?_⟩
        refine ⟨_, _, ns ++ [y], rfl, by rw [List.length_append, hl] <;> rfl, fun n hn => ?_, D9.upd nDd nDl, (K8.trans K9).mut hD, ?_⟩
        · rcases List.mem_append.mp hn with q | q
          · exact hb n q
          · rw [List.mem_singleton.mp q]
            exact ⟨hy0, hy1⟩
        · rw [upd_same, List.map_append]
          rfl
      · rintro σ H1 ⟨v3, v4, ns, rfl, hl, hb, D1, K1, g1⟩
        exact ⟨v3, v4, ns, rfl, hl, hb, D1, K1, g1⟩
    · rintro σ H1 ⟨v3, v4, ns, rfl, hl, hb, D1, K1, g1⟩
      exact ⟨_, rfl, k ns H1 D hl hb D1 K1 hD g1⟩
end
end LB
set_option Elab.async false
set_option linter.all false
set_option maxRecDepth 100000
set_option maxHeartbeats 4000000
namespace LB
open PySem PySem.Spec PyProof.Rows L2
open C8 (pss_cut tCut)
section
variable {m : Int} {fl : List Int} {s : Mc} {z : Str} {ns : List Int}
theorem rowVal_set (h : z = "set") : rowVal m fl s z ns = nA ns 1 := by
  subst h; unfold rowVal; rw [if_pos rfl]
theorem rowVal_copy (h : z = "copy") : rowVal m fl s z ns = s.rv (nA ns 1) := by
  subst h; unfold rowVal; rw [if_neg (by decide +kernel), if_pos rfl]
theorem rowVal_add (h : z = "add") : rowVal m fl s z ns = s.rv (nA ns 1) + s.rv (nA ns 2) := by
  subst h; unfold rowVal; rw [if_neg (by decide +kernel), if_neg (by decide +kernel), if_pos rfl]
theorem rowVal_sub (h : z = "sub") : rowVal m fl s z ns = s.rv (nA ns 1) - s.rv (nA ns 2) := by
  subst h; unfold rowVal; rw [if_neg (by decide +kernel), if_neg (by decide +kernel), if_neg (by decide +kernel), if_pos rfl]
theorem rowVal_mul (h : z = "mul") : rowVal m fl s z ns = s.rv (nA ns 1) * s.rv (nA ns 2) := by
  subst h; unfold rowVal; rw [if_neg (by decide +kernel), if_neg (by decide +kernel), if_neg (by decide +kernel), if_neg (by decide +kernel), if_pos rfl]
theorem rowVal_left (h : z = "left") : rowVal m fl s z ns = 2 * s.rv (nA ns 1) := by
  subst h; unfold rowVal; rw [if_neg (by decide +kernel), if_neg (by decide +kernel), if_neg (by decide +kernel), if_neg (by decide +kernel), if_neg (by decide +kernel), if_pos rfl]
theorem rowVal_load (h : z = "load") : rowVal m fl s z ns = slotV s.kv (nA ns 1) := by
  subst h; unfold rowVal; rw [if_neg (by decide +kernel), if_neg (by decide +kernel), if_neg (by decide +kernel), if_neg (by decide +kernel), if_neg (by decide +kernel), if_neg (by decide +kernel), if_pos rfl]
theorem rowVal_right (h : z = "right") : rowVal m fl s z ns = s.rv (nA ns 1) / 2 + fillV fl s.rg * (m / 2) := by
  subst h; unfold rowVal; rw [if_neg (by decide +kernel), if_neg (by decide +kernel), if_neg (by decide +kernel), if_neg (by decide +kernel), if_neg (by decide +kernel), if_neg (by decide +kernel), if_neg (by decide +kernel)]
end
theorem fill01 {fl : List Int} (h : Fills fl) (i : Nat) : fillV fl i = 0 ∨ fillV fl i = 1 := by
  unfold fillV
  cases e : fl[i]? with
  | none => exact .inl rfl
  | some v => exact h v (List.mem_of_getElem? e)
def k3 (a b c : Int) : List (Key × V) := [(.inr "add", .int a), (.inr "sub", .int b), (.inr "mul", .int c)]
theorem k3_merge (a b c : Int) : mergeK [] [(.inr "add", .int a), (.inr "sub", .int b), (.inr "mul", .int c)] = k3 a b c := by kernel_rfl
theorem k3_add (a b c : Int) : valV (k3 a b c) (.inr "add") = some (.int a) := by kernel_rfl
theorem k3_sub (a b c : Int) : valV (k3 a b c) (.inr "sub") = some (.int b) := by kernel_rfl
theorem k3_mul (a b c : Int) : valV (k3 a b c) (.inr "mul") = some (.int c) := by kernel_rfl
theorem half_pow {W : Nat} (h : 1 ≤ W) : (2 : Int) ^ W = 2 * 2 ^ (W - 1) := by
  obtain ⟨n, rfl⟩ : ∃ n, W = n + 1 := ⟨W - 1, by omega⟩
  rw [Int.pow_succ, Nat.add_sub_cancel, Int.mul_comm]
section
variable {P : Program} {w : World} {K : PySem.W.Frag} {mg : Str → Option Value} {base : Heap} {C CM : Addr}
def spLawComputed : Sp := fun vs H Q _ => ∃ (a na sa : Addr) (W R : Nat) (s : Mc) (z : Str) (ns fl : List Int) (fill : Int), vs = [.ref a, .ref na, .ref sa, .int fill, .int W] ∧ H a = some (.tup (rowL z ns)) ∧ H na = some (.lst (s.regs.map V.int)) ∧ H sa = some (.dK s.kv) ∧
  Good (2 ^ W) R s ∧ (1 ≤ W ∧ W ≤ 64) ∧ Fills fl ∧ Fit R z ns ∧ ¬ z = "store" ∧ ¬ z = "skip" ∧ (z = "right" → fill = fillV fl s.rg) ∧ ∀ H', Same H H' → Q (.int (rowVal (2 ^ W) fl s z ns % 2 ^ W)) H'
abbrev s_law_computed : Stmt := top 35
theorem sc_law_computed : FnScope ["_law_row_here", "_law_numbers_here", "_law_slots", "_law_fill", "_law_width", "_law_word", "_law_one", "_law_other", "_law_made"] ["_law_row_here", "_law_numbers_here", "_law_slots", "_law_fill", "_law_width"] (defScope s_law_computed) := ⟨rfl, rfl, rfl, by decide +kernel, rfl, by decide +kernel, by decide +kernel⟩
theorem ok_law_computed (F : TopFn K mg "_law_computed" s_law_computed ["_law_row_here", "_law_numbers_here", "_law_slots", "_law_fill", "_law_width"]) : DefOk P w K mg base 1 "_law_computed" ["_law_row_here", "_law_numbers_here", "_law_slots", "_law_fill", "_law_width"] spLawComputed := by
  refine F.ok sc_law_computed (fun vs H Q E h => ?_) (fun f cdv A outer s H vs Q E hr h => ?_)
  · obtain ⟨a, na, sa, W, R, s, z, ns, fl, fill, rfl, _⟩ := h
    rfl
  · obtain ⟨a, na, sa, W, R, s, z, ns, fl, fill, rfl, ha, hn, hs, gd, hW, hfl, fit, n1, n2, hfill, k⟩ := h
    refine ⟨_, (pss_cons (ps_set (i := 5) sc_law_computed.nd rfl (.inl rfl) (pe_ix ix_tup (pv 0) pe_int (fun _ _ => rfl)))
    (pss_cons (ps_if (pt_cmpR op_eq (pv 5) pe_str (nomark _)) (pss_one (ps_ret (pe_op op_mod (pe_ix ix_tup (pv 0) pe_int (fun _ _ => rfl)) (pe_op op_shl pe_int (pv 4))))) pss_nil)
    (pss_cons (ps_if (pt_cmpR op_eq (pv 5) pe_str (nomark _)) (pss_one (ps_ret (pe_dget2 (hu_of hr) (pv 2) (pe_ix ix_tup (pv 0) pe_int (fun _ _ => rfl)) pe_int ⟨rfl, rfl, rfl, rfl⟩))) pss_nil)
    (pss_cons (ps_set (i := 6) sc_law_computed.nd rfl (.inl rfl) (pe_ix ix_list (pv 1) (pe_ix ix_tup (pv 0) pe_int (fun _ _ => rfl)) (fun _ _ => rfl)))
    (pss_cons (ps_if (pt_cmpR op_eq (pv 5) pe_str (nomark _)) (pss_one (ps_ret (pv 6))) pss_nil)
    (pss_cons (ps_if (pt_cmpR op_eq (pv 5) pe_str (nomark _)) (pss_one (ps_ret (pe_op op_mod (pe_op op_mul pe_int (pv 6)) (pe_op op_shl pe_int (pv 4))))) pss_nil)
    (pss_cons (ps_if (pt_cmpR op_eq (pv 5) pe_str (nomark _)) (pss_one (ps_ret (pe_op op_add (pe_op op_fdivW (pv 6) pe_int) (pe_op op_mul (pv 3) (pe_op op_shl pe_int (pe_op op_sub (pv 4) pe_int)))))) pss_nil)
    (pss_cons (ps_set (i := 7) sc_law_computed.nd rfl (.inl rfl) (pe_ix ix_list (pv 1) (pe_ix ix_tup (pv 0) pe_int (fun _ _ => rfl)) (fun _ _ => rfl)))
    (pss_cons (ps_set (i := 8) sc_law_computed.nd rfl (.inl rfl) (pe_dget (hu_of hr) (pe_disp (pps_cons pe_str (pe_op op_add (pv 6) (pv 7)) (pps_cons pe_str (pe_op op_sub (pv 6) (pv 7)) (pps_cons pe_str (pe_op op_mul (pv 6) (pv 7)) pps_nil))) (by rfl) (by rfl) (fun z => by cases z) (by decide)) (pv 5) (fun _ _ => rfl)))
    (pss_one (ps_ret (pe_op op_mod (pv 8) (pe_op op_shl pe_int (pv 4)))))))))))))), ?_⟩
    have hRow := SqT.of (K := K) ha
    have hL := SqL.of (K := K) hn
    have eW : ((W : Int)).toNat = W := Int.toNat_natCast W
    have em : (1 : Int) * 2 ^ (W : Int).toNat = 2 ^ W := by rw [eW, Int.one_mul]
    have hm0 : (0 : Int) < 2 ^ W := by exact_mod_cast Nat.pos_of_ne_zero (by simp)
    have hm1 : (2 : Int) ^ W ≤ 18446744073709551616 := by
      have : (2 : Nat) ^ W ≤ 2 ^ 64 := Nat.pow_le_pow_right (by decide) hW.2
      exact (by exact_mod_cast this : (2 : Int) ^ W ≤ 2 ^ 64)
    have sh : CPow 1 (W : Int) := ⟨by omega, by omega, by decide⟩
    have hp : (0 : Int) < (fun i j : Int => i * 2 ^ j.toNat) 1 W := by
      show (0 : Int) < 1 * 2 ^ (W : Int).toNat
      rw [em]
      exact hm0
    have k0 := k H (Same.refl _)
    refine ⟨_, rfl, a, _, _, _, rfl, rfl, hRow, atI_nat (j := 0) rfl, ?_⟩
    refine ⟨_, rfl, rfl, _, rfl, ?_⟩
    refine ite2 (fun h => ?_) (fun h1 => ?_)
    · have hz : z = "set" := V.str.inj (of_decide_eq_true h)
      obtain ⟨r, n, rfl, hr⟩ := fit.set hz
      rw [rowVal_set hz] at k0
      refine ⟨_, rfl, a, _, _, _, rfl, rfl, hRow, atI_nat (j := 2) rfl, _, rfl, _, _, rfl, rfl, sh, _, _, rfl, rfl, hp, ?_⟩
      show Q (.int (n % (1 * 2 ^ (W : Int).toNat))) H
      rw [em]
      exact k0
    have hz1 : ¬ z = "set" := fun e => h1 (decide_eq_true (by rw [e]))
    refine ⟨_, rfl, rfl, _, rfl, ?_⟩
    refine ite2 (fun h => ?_) (fun h2 => ?_)
    · have hz : z = "load" := V.str.inj (of_decide_eq_true h)
      obtain ⟨r, b, rfl, hr⟩ := fit.load hz
      have q := gd.slotV hm0 b
      have e : rowVal (2 ^ W) fl s z [r, b] % 2 ^ W = slotV s.kv b := by
        rw [rowVal_load hz]
        exact Int.emod_eq_of_lt q.1 q.2.1
      rw [e] at k0
      refine ⟨_, rfl, sa, rfl, .inl ⟨_, .inl hs⟩, _, rfl, a, _, _, _, rfl, rfl, hRow, atI_nat (j := 2) rfl, _, DGet.k (k := .inl b) hs, ?_⟩
      rw [q.2.2]
      exact k0
    have hz2 : ¬ z = "load" := fun e => h2 (decide_eq_true (by rw [e]))
    have two : (z = "copy" ∨ z = "left" ∨ z = "right") ∨ (z = "add" ∨ z = "sub" ∨ z = "mul") := by
      rcases fit.sh with ⟨e, _⟩ | ⟨e, _⟩ | ⟨e, _⟩ | ⟨e, _⟩ | ⟨e, _⟩ | ⟨e, _⟩
      · exact absurd e hz1
      · exact .inl e
      · exact .inr e
      · exact absurd e hz2
      · exact absurd e n1
      · exact absurd e n2
    rcases two with two | three
    · obtain ⟨r, b, rfl, hr, hb⟩ := fit.two two
      have q := gd.rv hb
      refine ⟨_, rfl, _, rfl, a, _, _, _, rfl, rfl, hRow, atI_nat (j := 2) rfl, na, _, _, _, rfl, rfl, hL, gd.at_ hb, ?_⟩
      refine ⟨_, rfl, rfl, _, rfl, ?_⟩
      refine ite2 (fun h => ?_) (fun h3 => ?_)
      · have hz : z = "copy" := V.str.inj (of_decide_eq_true h)
        have e : rowVal (2 ^ W) fl s z [r, b] % 2 ^ W = s.rv b := by
          rw [rowVal_copy hz]
          exact Int.emod_eq_of_lt q.2.1 q.2.2
        rw [e] at k0
        exact ⟨_, rfl, k0⟩
      have hz3 : ¬ z = "copy" := fun e => h3 (decide_eq_true (by rw [e]))
      refine ⟨_, rfl, rfl, _, rfl, ?_⟩
      refine ite2 (fun h => ?_) (fun h4 => ?_)
      · have hz : z = "left" := V.str.inj (of_decide_eq_true h)
        rw [rowVal_left hz] at k0
        refine ⟨_, rfl, _, _, rfl, rfl, .inl ⟨by decide, by decide⟩, _, rfl, _, _, rfl, rfl, sh, _, _, rfl, rfl, hp, ?_⟩
        show Q (.int (2 * s.rv b % (1 * 2 ^ (W : Int).toNat))) H
        rw [em]
        exact k0
      have hz4 : ¬ z = "left" := fun e => h4 (decide_eq_true (by rw [e]))
      have hz : z = "right" := by
        rcases two with e | e | e
        · exact absurd e hz3
        · exact absurd e hz4
        · exact e
      refine ⟨_, rfl, rfl, _, rfl, ?_⟩
      refine ite2 (fun h => ?_) (fun h5 => absurd (decide_eq_true (by rw [hz])) h5)
      have ef := hfill hz
      have hf := fill01 hfl s.rg
      have e1 : (((W : Int) - 1)).toNat = W - 1 := by omega
      have hh := half_pow hW.1
      have hq0 : (0 : Int) < 2 ^ (W - 1) := by exact_mod_cast Nat.pos_of_ne_zero (by simp)
      have e : rowVal (2 ^ W) fl s z [r, b] % 2 ^ W = s.rv b / 2 + fill * 2 ^ (W - 1) := by
        rw [rowVal_right hz, ef]
        show (s.rv b / 2 + fillV fl s.rg * (2 ^ W / 2)) % 2 ^ W = _
        have e2 : (2 : Int) ^ W / 2 = 2 ^ (W - 1) := by omega
        rw [e2]
        refine Int.emod_eq_of_lt ?_ ?_
        · rcases hf with e | e <;> rw [e] <;> omega
        · rcases hf with e | e <;> rw [e] <;> omega
      rw [e] at k0
      refine ⟨_, rfl, _, _, rfl, rfl, ⟨by decide, by decide⟩, _, rfl, _, rfl, _, _, rfl, rfl, _, _, rfl, rfl, ⟨by omega, by omega, by decide⟩, _, _, rfl, rfl, .inl ⟨by rw [ef]; rcases hf with e | e <;> rw [e] <;> decide, by rw [ef]; rcases hf with e | e <;> rw [e] <;> decide⟩, _, _, rfl, rfl, ?_⟩
      show Q (.int (s.rv b / 2 + fill * (1 * 2 ^ ((W : Int) - 1).toNat))) H
      rw [e1, Int.one_mul]
      exact k0
    · obtain ⟨r, b, c, rfl, hr, hb, hc⟩ := fit.three three
      have q := gd.rv hb
      have n3 : ¬ z = "copy" := by rcases three with rfl | rfl | rfl <;> decide +kernel
      have n4 : ¬ z = "left" := by rcases three with rfl | rfl | rfl <;> decide +kernel
      have n5 : ¬ z = "right" := by rcases three with rfl | rfl | rfl <;> decide +kernel
      refine ⟨_, rfl, _, rfl, a, _, _, _, rfl, rfl, hRow, atI_nat (j := 2) rfl, na, _, _, _, rfl, rfl, hL, gd.at_ hb, ?_⟩
      refine ⟨_, rfl, rfl, _, rfl, ifF (decide_eq_false fun e => n3 (V.str.inj e)) ?_⟩
      refine ⟨_, rfl, rfl, _, rfl, ifF (decide_eq_false fun e => n4 (V.str.inj e)) ?_⟩
      refine ⟨_, rfl, rfl, _, rfl, ifF (decide_eq_false fun e => n5 (V.str.inj e)) ?_⟩
      refine ⟨_, rfl, _, rfl, a, _, _, _, rfl, rfl, hRow, atI_nat (j := 3) rfl, na, _, _, _, rfl, rfl, hL, gd.at_ hc, ?_⟩
      refine fun D hD => ?_
      refine ⟨_, rfl, _, rfl, _, _, rfl, rfl, _, rfl, _, rfl, _, _, rfl, rfl, _, rfl, _, rfl, _, _, rfl, rfl, .inl ⟨by omega, by omega⟩, upd_same, [(.inr "add", .int (s.rv b + s.rv c)), (.inr "sub", .int (s.rv b - s.rv c)), (.inr "mul", .int (s.rv b * s.rv c))], rfl, (by show 3 ≤ 15; decide), ?_⟩
      rw [k3_merge]
      have hD2 : upd (upd H D (.dK [])) D (.dK (k3 (s.rv b + s.rv c) (s.rv b - s.rv c) (s.rv b * s.rv c))) D = some (.dK (k3 (s.rv b + s.rv c) (s.rv b - s.rv c) (s.rv b * s.rv c))) := upd_same
      have s2 : Same H (upd (upd H D (.dK [])) D (.dK (k3 (s.rv b + s.rv c) (s.rv b - s.rv c) (s.rv b * s.rv c)))) := same_mut (same_new hD) hD
      generalize upd (upd H D (.dK [])) D (.dK (k3 (s.rv b + s.rv c) (s.rv b - s.rv c) (s.rv b * s.rv c))) = H2 at hD2 s2
      have k2 := k H2 s2
      have g := DGet.k (k := Sum.inr z) hD2
      have fin : ∀ v : Int, rowVal (2 ^ W) fl s z [r, b, c] = v → valV (k3 (s.rv b + s.rv c) (s.rv b - s.rv c) (s.rv b * s.rv c)) (.inr z) = some (.int v) → Q (.int (v % 2 ^ W)) H2 ∧ DGet H2 D (.str z) (some (.int v)) := fun v e1 e2 => by
        rw [e1] at k2
        rw [e2] at g
        exact ⟨k2, g⟩
      obtain ⟨v, e1, e2⟩ : ∃ v, rowVal (2 ^ W) fl s z [r, b, c] = v ∧ valV (k3 (s.rv b + s.rv c) (s.rv b - s.rv c) (s.rv b * s.rv c)) (.inr z) = some (.int v) := by
        rcases three with e | e | e
        · exact ⟨_, rowVal_add e, by subst e; exact k3_add ..⟩
        · exact ⟨_, rowVal_sub e, by subst e; exact k3_sub ..⟩
        · exact ⟨_, rowVal_mul e, by subst e; exact k3_mul ..⟩
      obtain ⟨f1, f2⟩ := fin v e1 e2
      refine ⟨_, rfl, D, _, rfl, f2, ?_⟩
      refine ⟨_, rfl, _, rfl, _, _, rfl, rfl, sh, _, _, rfl, rfl, hp, ?_⟩
      show Q (.int (v % (1 * 2 ^ (W : Int).toNat))) H2
      rw [em]
      exact f1
end
end LB
set_option Elab.async false
set_option linter.all false
set_option maxRecDepth 100000
set_option maxHeartbeats 4000000
namespace LB
open PySem PySem.Spec PyProof.Rows L2
open C8 (pss_cut tCut)
/-- the first i inputs are laid in -/
def laid (m : Int) (R : Nat) (inp : List Int) (i : Nat) : List Int := (inp.take i).map (· % m) ++ List.replicate (R - i) 0
theorem laid_zero {m : Int} {R : Nat} {inp : List Int} : laid m R inp 0 = List.replicate R 0 := by simp [laid]
theorem laid_all {m : Int} {R : Nat} {inp : List Int} : laid m R inp inp.length = (startM m R inp).regs := by
  unfold laid
  rw [List.take_length]
  rfl
theorem set_at {A B : List Int} {x y : Int} : (A ++ x :: B).set A.length y = A ++ y :: B := by
  induction A with
  | nil => rfl
  | cons a A ih =>
    show a :: (A ++ x :: B).set A.length y = _
    rw [ih]
    rfl
theorem laid_more {m : Int} {R : Nat} {inp : List Int} {i : Nat} {n : Int} (h : inp[i]? = some n) (hR : inp.length ≤ R) : (laid m R inp i).set i (n % m) = laid m R inp (i + 1) := by
  have hi := lt_of_get h
  unfold laid
  rw [take_more h, List.map_append, List.append_assoc]
  obtain ⟨q, e⟩ : ∃ q, R - i = q + 1 := ⟨R - i - 1, by omega⟩
  have e' : R - (i + 1) = q := by omega
  rw [e, e', List.replicate_succ]
  have el : ((inp.take i).map (· % m)).length = i := by
    rw [List.length_map, List.length_take]
    omega
  have := set_at (A := (inp.take i).map (· % m)) (B := List.replicate q 0) (x := 0) (y := n % m)
  rw [el] at this
  exact this
theorem laid_len {m : Int} {R : Nat} {inp : List Int} {i : Nat} (hi : i ≤ inp.length) (hR : inp.length ≤ R) : (laid m R inp i).length = R := by
  unfold laid
  rw [List.length_append, List.length_map, List.length_take, List.length_replicate]
  omega
section
variable {P : Program} {w : World} {K : PySem.W.Frag} {mg : Str → Option Value} {base : Heap}
def spRan (K : PySem.W.Frag) : Sp := fun vs H Q _ => ∃ (lr li pf : Addr) (W R : Nat) (xs : List V) (rs : List Rw) (inp fl : List Int), vs = [.ref lr, .int W, .int R, .ref li, .ref pf] ∧ SqL K H lr xs ∧ RowsAt H xs rs ∧ (1 ≤ W ∧ W ≤ 64) ∧ (0 < R ∧ R ≤ 100) ∧ inp.length ≤ R ∧
  SqL K H li (inp.map V.int) ∧ Seq K H pf (fl.map V.int) ∧ Fills fl ∧ Fits R rs ∧ rs.length ≤ 1000 ∧ ∀ H' p n, Same H H' → H p = none → H' p = some (.tup [.int (outM W R rs inp fl), .int n]) → Q (.ref p) H'
abbrev s_law_ran : Stmt := top 36
theorem sc_law_ran : FnScope ["_law_rows_here", "_law_width", "_law_registers", "_law_inputs", "_law_fills", "_law_numbers_here", "_law_slots", "_law_at", "_law_rights", "_law_place", "_law_row_here", "_law_fill"] ["_law_rows_here", "_law_width", "_law_registers", "_law_inputs", "_law_fills"] (defScope s_law_ran) := ⟨rfl, rfl, rfl, by decide +kernel, rfl, by decide +kernel, by decide +kernel⟩
theorem ok_law_ran (F : TopFn K mg "_law_ran" s_law_ran ["_law_rows_here", "_law_width", "_law_registers", "_law_inputs", "_law_fills"]) (T : Txt K mg) (D_law_computed : DefOk P w K mg base 1 "_law_computed" ["_law_row_here", "_law_numbers_here", "_law_slots", "_law_fill", "_law_width"] spLawComputed) : DefOk P w K mg base 2 "_law_ran" ["_law_rows_here", "_law_width", "_law_registers", "_law_inputs", "_law_fills"] (spRan K) := by
  refine F.ok sc_law_ran (fun vs H Q E h => ?_) (fun f cdv A outer s H vs Q E hr h => ?_)
  · obtain ⟨lr, li, pf, W, R, xs, rs, inp, fl, rfl, _⟩ := h
    rfl
  · obtain ⟨lr, li, pf, W, R, xs, rs, inp, fl, rfl, hr1, hR, hW, hR1, hil, hin, hf, hfl, fits, few, k⟩ := h
    refine ⟨_, (pss_cons (ps_asg (pe_tup (pa_cons (pe_op op_rep (pe_lst (pa_cons pe_int pa_nil)) (pv 2)) (pa_cons pe_dnewK (pa_cons pe_int (pa_cons pe_int pa_nil))))) (pg_tup rfl (pgs_cons (pg_name (i := 5) sc_law_ran.nd rfl (.inl rfl)) (pgs_cons (pg_name (i := 6) sc_law_ran.nd rfl (.inl rfl)) (pgs_cons (pg_name (i := 7) sc_law_ran.nd rfl (.inl rfl)) (pgs_cons (pg_name (i := 8) sc_law_ran.nd rfl (.inl rfl)) pgs_nil))))))
    (pss_cut (ps_for PassesOwn.never rfl (pi_range1 (by rfl) T.b_range (pa_cons (pe_callB call_len_seq (by rfl) T.b_len (by decide +kernel) (pa_cons (pv 3) pa_nil)) pa_nil)) (pg_name (i := 9) sc_law_ran.nd rfl (.inl rfl))
    (pss_one (ps_asg (pe_op op_mod (pe_ix ix_list (pv 3) (pv 9) (fun _ _ => rfl)) (pe_op op_shl pe_int (pv 1))) (pg_sub (pv 5) (pv 9) set_list))))
    (pss_cut (ps_while PassesOwn.never (pt_cmpR op_lt (pv 7) (pe_callB call_len_seq (by rfl) T.b_len (by decide +kernel) (pa_cons (pv 0) pa_nil)) (nomark _)) (pss_cons (ps_par (i := 10) (j := 7) (by rfl) sc_law_ran.nd rfl rfl (by decide) rfl rfl (pa_cons (pe_ix ix_list (pv 0) (pv 7) (fun _ _ => rfl)) (pa_cons (pe_op op_add (pv 7) pe_int) pa_nil)) (by rfl))
    (pss_one (ps_if (pt_cmpR op_eq (pe_ix ix_tup (pv 10) pe_int (fun _ _ => rfl)) pe_str (nomark _)) (pss_one (ps_if (pt_cmpR op_eq (pe_op op_mod (pe_ix ix_list (pv 5) (pe_ix ix_tup (pv 10) pe_int (fun _ _ => rfl)) (fun _ _ => rfl)) (pe_ix ix_tup (pv 10) pe_int (fun _ _ => rfl))) (pe_ix ix_tup (pv 10) pe_int (fun _ _ => rfl)) (nomark _)) (pss_one (ps_set (i := 7) sc_law_ran.nd rfl (.inl rfl) (pe_op op_add (pv 7) (pe_ix ix_tup (pv 10) pe_int (fun _ _ => rfl))))) pss_nil)) (pss_one (ps_if (pt_cmpR op_eq (pe_ix ix_tup (pv 10) pe_int (fun _ _ => rfl)) pe_str (nomark _)) (pss_one (ps_dput (hu_of hr) (pv 6) (pe_ix ix_tup (pv 10) pe_int (fun _ _ => rfl)) (pe_ix ix_list (pv 5) (pe_ix ix_tup (pv 10) pe_int (fun _ _ => rfl)) (fun _ _ => rfl)) rfl)) (pss_cons (ps_set (i := 11) sc_law_ran.nd rfl (.inl rfl) pe_int)
    (pss_cut (ps_if (pt_cmpR op_eq (pe_ix ix_tup (pv 10) pe_int (fun _ _ => rfl)) pe_str (nomark _)) (pss_cons (ps_set (i := 11) sc_law_ran.nd rfl (.inl rfl) (pe_ifExp (pt_cmpR op_lt (pv 8) (pe_callB call_len_seq (by rfl) T.b_len (by decide +kernel) (pa_cons (pv 4) pa_nil)) (nomark _)) (pe_ix ix_seq (pv 4) (pv 8) (fun _ _ => rfl)) pe_int))
    (pss_one (ps_set (i := 8) sc_law_ran.nd rfl (.inl rfl) (pe_op op_add (pv 8) pe_int)))) pss_nil)
    (pss_one (ps_asg (pe_fn D_law_computed (hr.mono (by decide)) rfl (pa_cons (pv 10) (pa_cons (pv 5) (pa_cons (pv 6) (pa_cons (pv 11) (pa_cons (pv 1) pa_nil)))))) (pg_sub (pv 5) (pe_ix ix_tup (pv 10) pe_int (fun _ _ => rfl)) set_list)))))))))))
    (pss_one (ps_ret (pe_tup (pa_cons (pe_ix ix_list (pv 5) pe_int (fun _ _ => rfl)) (pa_cons (pv 8) pa_nil)))))))), ?_⟩
    have eW : ((W : Int)).toNat = W := Int.toNat_natCast W
    have em : (1 : Int) * 2 ^ (W : Int).toNat = 2 ^ W := by rw [eW, Int.one_mul]
    have hm0 : (0 : Int) < 2 ^ W := by exact_mod_cast Nat.pos_of_ne_zero (by simp)
    have sh : CPow 1 (W : Int) := ⟨by omega, by omega, by decide⟩
    have hp : (0 : Int) < (fun i j : Int => i * 2 ^ j.toNat) 1 W := by
      show (0 : Int) < 1 * 2 ^ (W : Int).toNat
      rw [em]
      exact hm0
    refine ⟨(by show 1 ≤ sizeLine; decide), fun L1 hL1 => ?_⟩
    refine ⟨_, rfl, L1, _, _, rfl, rfl, upd_same, (by omega), (by omega), szL (by show 1 * _ ≤ 100000; omega), fun na hna => ?_⟩
    rw [show ((R : Int)).toNat = R from Int.toNat_natCast R, flat_zero]
    have s2 : Same H (upd (upd H L1 (.lst [.int 0])) na (.lst ((List.replicate R (0 : Int)).map V.int))) := (same_new hL1).trans (same_new hna)
    have hnaH : H na = none := by
      cases e : H na with
      | none => rfl
      | some o =>
        rw [(same_new (o := .lst [.int 0]) hL1) _ _ e] at hna
        cases hna
    have n2 : (upd (upd H L1 (.lst [.int 0])) na (.lst ((List.replicate R (0 : Int)).map V.int))) na = some (.lst ((List.replicate R (0 : Int)).map V.int)) := upd_same
    generalize (upd (upd H L1 (.lst [.int 0])) na (.lst ((List.replicate R (0 : Int)).map V.int))) = H2 at s2 n2
    refine fun sa hsa => ?_
    have hsaH : H sa = none := by
      cases e : H sa with
      | none => rfl
      | some o =>
        rw [s2 _ _ e] at hsa
        cases hsa
    have s3 := s2.trans (same_new (o := .dK []) hsa)
    have n3 : upd H2 sa (.dK []) na = _ := (same_new hsa) _ _ n2
    have d3 : upd H2 sa (.dK []) sa = some (.dK []) := upd_same
    generalize upd H2 sa (.dK []) = H3 at s3 n3 d3
    refine ⟨(by show 4 ≤ sizeLine; decide), fun p hp1 => ?_⟩
    refine ⟨p, _, rfl, SqT.of upd_same, rfl, _, _, rfl, _, _, rfl, _, _, rfl, _, _, rfl, rfl, ?_⟩
    have s4 := s3.trans (same_new (o := .tup [.ref na, .ref sa, .int 0, .int 0]) hp1)
    have n4 : upd H3 p (.tup [.ref na, .ref sa, .int 0, .int 0]) na = _ := (same_new hp1) _ _ n3
    have d4 : upd H3 p (.tup [.ref na, .ref sa, .int 0, .int 0]) sa = _ := (same_new hp1) _ _ d3
    generalize upd H3 p (.tup [.ref na, .ref sa, .int 0, .int 0]) = H4 at s4 n4 d4
    have nns : na ≠ sa := ne_of n4 d4 (by intro q; cases q)
    rw [← laid_zero (m := 2 ^ W) (inp := inp)] at n4
    refine ⟨fun σ H' => ∃ v9 v10 v11, σ = [some (.ref lr), some (.int W), some (.int R), some (.ref li), some (.ref pf), some (.ref na), some (.ref sa), some (.int 0), some (.int 0), v9, v10, v11] ∧ Same H H' ∧ H' na = some (.lst ((startM (2 ^ W) R inp).regs.map V.int)) ∧ H' sa = some (.dK []), ?_, ?_⟩
    · refine ⟨_, rfl, li, _, rfl, .inl (s4.seq hin), _, rfl, by omega, by rw [List.length_map]; omega, ?_⟩
      rw [show (((inp.map V.int).length : Nat) : Int).toNat = inp.length by rw [List.length_map]; omega]
      refine for_range (fun i σ H' => ∃ v9 v10 v11, σ = [some (V.ref lr), some (.int W), some (.int R), some (.ref li), some (.ref pf), some (.ref na), some (.ref sa), some (.int 0), some (.int 0), v9, v10, v11] ∧ Same H H' ∧ H' na = some (.lst ((laid (2 ^ W) R inp i).map V.int)) ∧ H' sa = some (.dK []))
        ⟨none, none, none, rfl, s4, n4, d4⟩ ?_ ?_
      · rintro i σ H5 hi ⟨v9, v10, v11, rfl, s5, n5, d5⟩
        have e0 : (0 : Int) + i = (i : Nat) := by omega
        have hv := List.getElem?_eq_getElem hi
        have ha : atI (inp.map V.int) (0 + i) = some (.int inp[i]) := by
          rw [e0]
          exact atI_nat (by rw [List.getElem?_map, hv] <;> rfl)
        have hj : ixN ((laid (2 ^ W) R inp i).map V.int).length (0 + i) = some i := by
          unfold ixN
          rw [List.length_map, laid_len (by omega) hil, if_pos (by omega), if_pos (by omega)]
          congr 1
          omega
        refine ⟨_, rfl, _, rfl, li, _, _, _, rfl, rfl, s5.seq hin, ha, _, rfl, _, _, rfl, rfl, sh, _, _, rfl, rfl, hp, _, rfl, _, rfl, na, _, _, _, rfl, rfl, n5, hj, ?_⟩
        refine ⟨_, _, _, rfl, same_mut s5 hnaH, ?_, by rw [upd_ne nns.symm]; exact d5⟩
        rw [upd_same]
        show some (HO.lst (((laid (2 ^ W) R inp i).map V.int).set i (.int (inp[i] % (1 * 2 ^ (W : Int).toNat))))) = _
        rw [em, ← List.map_set, laid_more hv hil]
      · rintro σ H5 ⟨v9, v10, v11, rfl, s5, n5, d5⟩
        rw [laid_all] at n5
        exact ⟨v9, v10, v11, rfl, s5, n5, d5⟩
    rintro σ H5 ⟨v9, v10, v11, rfl, s5, n5, d5⟩
    refine ⟨fun σ H' => ∃ v9 v10 v11 at_, σ = [some (.ref lr), some (.int W), some (.int R), some (.ref li), some (.ref pf), some (.ref na), some (.ref sa), some (.int at_), some (.int (finM (2 ^ W) fl rs (startM (2 ^ W) R inp)).rg), v9, v10, v11] ∧ Same H H' ∧ H' na = some (.lst ((finM (2 ^ W) fl rs (startM (2 ^ W) R inp)).regs.map V.int)) ∧ Good (2 ^ W) R (finM (2 ^ W) fl rs (startM (2 ^ W) R inp)), ?_, ?_⟩
    · refine ⟨fun n σ H' => ∃ (st : Mc) (v9 v10 v11 : Option V), σ = [some (.ref lr), some (.int W), some (.int R), some (.ref li), some (.ref pf), some (.ref na), some (.ref sa), some (.int st.at_), some (.int st.rg), v9, v10, v11] ∧ n = rs.length - st.at_ ∧ Same H H' ∧ H' na = some (.lst (st.regs.map V.int)) ∧ H' sa = some (.dK st.kv) ∧ Good (2 ^ W) R st ∧ finM (2 ^ W) fl rs st = finM (2 ^ W) fl rs (startM (2 ^ W) R inp),
        ⟨_, _, v9, v10, v11, rfl, rfl, s5, n5, d5, startM_good hm0 hil, rfl⟩, ?_⟩
      rintro n σ H6 ⟨st, v9, v10, v11, rfl, rfl, s6, n6, d6, gd, ef⟩
      refine ⟨_, rfl, _, rfl, lr, _, rfl, .inl (s6.seq hr1), _, _, rfl, rfl, _, rfl, ?_⟩
      refine ite2 (fun h => ?_) (fun h => ?_)
      · have h := of_decide_eq_true h
        rw [hR.len] at h
        have hat : st.at_ < rs.length := by omega
        have hrow := List.getElem?_eq_getElem hat
        have en : nxt (2 ^ W) fl rs st = stepM (2 ^ W) fl st (rs[st.at_]'hat).1 (rs[st.at_]'hat).2 := by
          unfold nxt
          rw [hrow]
        have hlt := nxt_at (m := 2 ^ W) (fl := fl) hat
        have g2 := gd.nxt (fl := fl) hm0 fits
        have ef2 := (finM_nxt (m := 2 ^ W) (fl := fl) hat).trans ef
        have hdec : rs.length - (nxt (2 ^ W) fl rs st).at_ < rs.length - st.at_ := by omega
        rw [en] at hdec g2 ef2
        have fit := fits _ _ hrow
        have hxs : st.at_ < xs.length := by rw [hR.len]; exact hat
        obtain ⟨a, ea, ha⟩ := hR.get st.at_ _ _ (List.getElem?_eq_getElem hxs) hrow
        generalize (rs[st.at_]'hat) = r at *
        obtain ⟨z, ns⟩ := r
        have hv : atI xs ((st.at_ : Nat) : Int) = some (.ref a) := atI_nat (by rw [List.getElem?_eq_getElem hxs, ea])
        have ha6 := s6 _ _ ha
        have hRow := SqT.of (K := K) ha6
        have hL := SqL.of (K := K) n6
        unfold stepM at hdec g2 ef2
        refine ⟨_, fun _ _ h => h, ?_⟩
        refine ⟨_, rfl, _, rfl, lr, _, _, _, rfl, rfl, s6.seq hr1, hv, _, rfl, _, _, rfl, rfl, _, _, rfl, ?_⟩
        refine ⟨_, rfl, a, _, _, _, rfl, rfl, hRow, atI_nat (j := 0) rfl, rfl, _, rfl, ?_⟩
        refine ite2 (fun h => ?_) (fun h1 => ?_)
        · have hz : z = "skip" := V.str.inj (of_decide_eq_true h)
          have hzs : ¬ z = "store" := by rw [hz]; decide +kernel
          obtain ⟨b, m, c, n, rfl, hb, hm1, hn⟩ := fit.skip hz
          rw [if_neg hzs, if_pos hz] at hdec g2 ef2
          refine ⟨_, rfl, _, rfl, a, _, _, _, rfl, rfl, hRow, atI_nat (j := 1) rfl, na, _, _, _, rfl, rfl, hL, gd.at_ hb, _, rfl, a, _, _, _, rfl, rfl, hRow, atI_nat (j := 2) rfl, _, _, rfl, rfl, hm1, _, rfl, a, _, _, _, rfl, rfl, hRow, atI_nat (j := 3) rfl, rfl, _, rfl, ?_⟩
          refine ite2 (fun h => ?_) (fun h3 => ?_)
          · have hc : st.rv b % m = c := V.int.inj (of_decide_eq_true h)
            have hc' : st.rv (nA [b, m, c, n] 0) % nA [b, m, c, n] 1 = nA [b, m, c, n] 2 := hc
            rw [if_pos hc'] at hdec g2 ef2
            refine ⟨_, rfl, _, rfl, a, _, _, _, rfl, rfl, hRow, atI_nat (j := 4) rfl, _, _, rfl, rfl, ?_⟩
            have en : (((st.at_ : Nat) : Int) + 1 + n) = ((st.at_ + 1 + (nA [b, m, c, n] 3).toNat : Nat) : Int) := by
              have : nA [b, m, c, n] 3 = n := rfl
              rw [this]
              omega
            refine ⟨_, hdec, _, v9, some (.ref a), v11, ?_, rfl, s6, n6, d6, g2, ef2⟩
            show [some (V.ref lr), some (.int W), some (.int R), some (.ref li), some (.ref pf), some (.ref na), some (.ref sa), some (.int ((st.at_ : Int) + 1 + n)), some (.int st.rg), v9, some (.ref a), v11] = _
            rw [en]
          · have hc : ¬ st.rv (nA [b, m, c, n] 0) % nA [b, m, c, n] 1 = nA [b, m, c, n] 2 := fun e => h3 (decide_eq_true (by
              have e' : st.rv b % m = c := e
              exact congrArg V.int e'))
            rw [if_neg hc] at hdec g2 ef2
            exact ⟨_, hdec, _, _, _, _, rfl, rfl, s6, n6, d6, g2, ef2⟩
        have hz1 : ¬ z = "skip" := fun e => h1 (decide_eq_true (by rw [e]))
        refine ⟨_, rfl, a, _, _, _, rfl, rfl, hRow, atI_nat (j := 0) rfl, rfl, _, rfl, ?_⟩
        refine ite2 (fun h => ?_) (fun h2 => ?_)
        · have hz : z = "store" := V.str.inj (of_decide_eq_true h)
          rw [if_pos hz] at hdec g2 ef2
          obtain ⟨s0, b, rfl, hb⟩ := fit.store hz
          refine ⟨_, rfl, _, rfl, a, _, _, _, rfl, rfl, hRow, atI_nat (j := 2) rfl, na, _, _, _, rfl, rfl, hL, gd.at_ hb, ?_⟩
          refine ⟨_, rfl, _, rfl, a, _, _, _, rfl, rfl, hRow, atI_nat (j := 1) rfl, sa, _, rfl, DPut.k (k := .inl s0) d6 (szK (by have := gd.few; omega)), ?_⟩
          exact ⟨_, hdec, _, _, _, _, rfl, rfl, same_mut s6 hsaH, by rw [upd_ne nns]; exact n6, upd_same, g2, ef2⟩
        have hz2 : ¬ z = "store" := fun e => h2 (decide_eq_true (by rw [e]))
        rw [if_neg hz2, if_neg hz1] at hdec g2 ef2
        obtain ⟨i, b, t, rfl, hi⟩ := fit.into hz2 hz1
        refine ⟨fun σ H' => ∃ (v9 : Option V) (fv : Int), σ = [some (.ref lr), some (.int W), some (.int R), some (.ref li), some (.ref pf), some (.ref na), some (.ref sa), some (.int ((st.at_ : Int) + 1)), some (.int ((if z = "right" then st.rg + 1 else st.rg : Nat))), v9, some (.ref a), some (.int fv)] ∧ H' = H6 ∧ (z = "right" → fv = fillV fl st.rg), ?_, ?_⟩
        · refine ⟨_, rfl, a, _, _, _, rfl, rfl, hRow, atI_nat (j := 0) rfl, rfl, _, rfl, ?_⟩
          refine ite2 (fun h => ?_) (fun h3 => ?_)
          · have hz : z = "right" := V.str.inj (of_decide_eq_true h)
            have hF := hf.same s6
            refine ⟨_, rfl, _, rfl, pf, _, rfl, hF, _, _, rfl, rfl, _, rfl, ?_⟩
            refine ite2 (fun h => ?_) (fun h => ?_)
            · have h := of_decide_eq_true h
              rw [List.length_map] at h
              have hl : st.rg < fl.length := by omega
              have ev : fl[st.rg]? = some (fillV fl st.rg) := by
                unfold fillV
                rw [List.getElem?_eq_getElem hl] <;> rfl
              have ea : atI (fl.map V.int) ((st.rg : Nat) : Int) = some (.int (fillV fl st.rg)) := atI_nat (by rw [List.getElem?_map, ev] <;> rfl)
              refine ⟨_, rfl, _, rfl, ?_⟩
              rcases hF with q | q
              · exact .inl ⟨pf, _, _, _, rfl, rfl, q, ea, _, rfl, _, _, rfl, rfl, v9, _, by rw [if_pos hz]; rfl, rfl, fun _ => rfl⟩
              · exact .inr (.inl ⟨pf, _, _, _, rfl, rfl, q, ea, _, rfl, _, _, rfl, rfl, v9, _, by rw [if_pos hz]; rfl, rfl, fun _ => rfl⟩)
            · have h := of_decide_eq_false (Bool.eq_false_iff.mpr h)
              rw [List.length_map] at h
              have ev : fillV fl st.rg = 0 := by
                unfold fillV
                rw [List.getElem?_eq_none (by omega)] <;> rfl
              exact ⟨_, rfl, _, _, rfl, rfl, v9, 0, by rw [if_pos hz]; rfl, rfl, fun _ => ev.symm⟩
          · have hz : ¬ z = "right" := fun e => h3 (decide_eq_true (by rw [e]))
            exact ⟨_, _, by rw [if_neg hz]; rfl, rfl, fun e => absurd e hz⟩
        · rintro σ H7 ⟨v9', fv, rfl, rfl, hfv⟩
          refine ⟨_, rfl, _, rfl, _, rfl, _, rfl, _, rfl, a, na, sa, W, R, st, z, _, fl, fv, rfl, ha6, n6, d6, gd, hW, hfl, fit, hz2, hz1, hfv, fun H8 s8 => ?_⟩
          have n8 := s8 _ _ n6
          have hj : ixN (List.map V.int st.regs).length i = some i.toNat := by
            unfold ixN
            rw [if_pos hi.1, if_pos (by rw [List.length_map, gd.len]; exact hi.2)]
          refine ⟨_, rfl, _, rfl, a, _, _, _, rfl, rfl, SqT.of (s8 _ _ ha6), atI_nat (j := 1) rfl, na, _, _, _, rfl, rfl, n8, hj, ?_⟩
          refine ⟨_, hdec, _, v9', some (.ref a), some (.int fv), rfl, rfl, same_mut (s6.trans s8) hnaH, ?_, by rw [upd_ne nns.symm]; exact s8 _ _ d6, g2, ef2⟩
          rw [upd_same]
          show some (HO.lst ((List.map V.int st.regs).set i.toNat (.int (rowVal (2 ^ W) fl st z (i :: b :: t) % 2 ^ W)))) = some (HO.lst ((st.regs.set i.toNat (rowVal (2 ^ W) fl st z (i :: b :: t) % 2 ^ W)).map V.int))
          rw [List.map_set]
      · have h := of_decide_eq_false (Bool.eq_false_iff.mpr h)
        rw [hR.len] at h
        have hat : ¬ st.at_ < rs.length := by omega
        rw [finM_stop hat] at ef
        rw [← ef]
        exact ⟨_, _, _, _, rfl, s6, n6, gd⟩
    rintro σ H6 ⟨v9, v10, v11, at_, rfl, s6, n6, gd⟩
    refine ⟨_, rfl, na, _, _, _, rfl, rfl, SqL.of n6, gd.at_ ⟨Int.le_refl _, by omega⟩, _, rfl, (by show 2 ≤ sizeLine; decide), fun p hp => ?_⟩
    refine k _ p _ (s6.trans (same_new hp)) ?_ upd_same
    cases e : H p with
    | none => rfl
    | some o =>
      rw [s6 _ _ e] at hp
      cases hp
end
end LB
set_option Elab.async false
set_option linter.all false
set_option maxRecDepth 100000
set_option maxHeartbeats 4000000
namespace LB
open PySem PySem.Spec PyProof.Rows L2
open C8 (pss_cut tCut)
theorem Deal.kinds {d l a : Addr} {H : Hp} {o : HO} (D : Deal d l H) (h : H a = some o) (h1 : ∀ kvs, o ≠ .dK kvs) (h2 : ∀ xs, o ≠ .lst xs) : a ≠ d ∧ a ≠ l := by
  obtain ⟨s, n, left, C⟩ := D
  exact ⟨ne_of h C.hd (h1 _), ne_of h C.hl (h2 _)⟩
theorem RowAt.keep {d l : Addr} {H H' : Hp} {v : V} {r : Rw} (k : Keep d l H H') (D : Deal d l H) (h : RowAt H v r) : RowAt H' v r := let ⟨a, e, q⟩ := h; ⟨a, e, k.tup D q⟩
theorem RowsAt.keep {d l : Addr} {H H' : Hp} {vs : List V} {rs : List Rw} (k : Keep d l H H') (D : Deal d l H) (h : RowsAt H vs rs) : RowsAt H' vs rs := ⟨h.len, fun i v r h1 h2 => (h.get i v r h1 h2).keep k D⟩
theorem Keep.sqT {d l a : Addr} {K : PySem.W.Frag} {H H' : Hp} {xs : List V} (k : Keep d l H H') (D : Deal d l H) (h : SqT K H a xs) : SqT K H' a xs := by
  rcases h with (h | ⟨o, h⟩) | h
  · exact .inl (.inl (k.tup D h))
  · have q := D.kinds h (fun _ z => by cases z) (fun _ z => by cases z)
    exact .inl (.inr ⟨o, k _ _ h q.1 q.2⟩)
  · exact .inr h
theorem CodeAt.keep {d l : Addr} {K : PySem.W.Frag} {C a p : Addr} {H H' : Hp} {rs : List Rw} (k : Keep d l H H') (D : Deal d l H) (h : CodeAt K C H a p rs) : CodeAt K C H' a p rs := by
  obtain ⟨dx, xs, h1, h2, h3⟩ := h
  have q := D.kinds h1 (fun _ z => by cases z) (fun _ z => by cases z)
  exact ⟨dx, xs, k _ _ h1 q.1 q.2, k.sqT D h2, h3.keep k D⟩
/-- rows, each with as many rows behind it as there are -/
def DrawnRows (R : Int) (rs : List Rw) : Prop := ∀ (i : Nat) r, rs[i]? = some r → DrawnRow R ((rs.length : Int) - i - 1) r
theorem DrawnRow.isLoad {R left : Int} {r : Rw} (h : DrawnRow R left r) (ez : r.1 = "load") : ∃ rr s0, (0 ≤ rr ∧ rr < R) ∧ r = (("load" : Str), [rr, s0]) := by
  cases h with
  | set r n h1 h2 => exact absurd (show ("set" : Str) = "load" from ez) (by decide +kernel)
  | two z r a hz h1 h2 =>
    have q : z = "load" := ez
    rcases hz with rfl | rfl | rfl <;> exact absurd q (by decide +kernel)
  | three z r a b hz h1 h2 h3 =>
    have q : z = "load" := ez
    rcases hz with rfl | rfl | rfl <;> exact absurd q (by decide +kernel)
  | load r s h1 h2 => exact ⟨r, s, h1, rfl⟩
  | store s a h1 h2 => exact absurd (show ("store" : Str) = "load" from ez) (by decide +kernel)
  | skip a j c n h1 h2 h3 h4 => exact absurd (show ("skip" : Str) = "load" from ez) (by decide +kernel)
theorem DrawnRow.isStore {R left : Int} {r : Rw} (h : DrawnRow R left r) (ez : r.1 = "store") : ∃ s0 a, (0 ≤ a ∧ a < R) ∧ r = (("store" : Str), [s0, a]) := by
  cases h with
  | set r n h1 h2 => exact absurd (show ("set" : Str) = "store" from ez) (by decide +kernel)
  | two z r a hz h1 h2 =>
    have q : z = "store" := ez
    rcases hz with rfl | rfl | rfl <;> exact absurd q (by decide +kernel)
  | three z r a b hz h1 h2 h3 =>
    have q : z = "store" := ez
    rcases hz with rfl | rfl | rfl <;> exact absurd q (by decide +kernel)
  | load r s h1 h2 => exact absurd (show ("load" : Str) = "store" from ez) (by decide +kernel)
  | store s a h1 h2 => exact ⟨s, a, h2, rfl⟩
  | skip a j c n h1 h2 h3 h4 => exact absurd (show ("skip" : Str) = "store" from ez) (by decide +kernel)
theorem DrawnRow.isSkip {R left : Int} {r : Rw} (h : DrawnRow R left r) (ez : r.1 = "skip") : ∃ a m0 c0 n, (0 ≤ a ∧ a < R) ∧ (0 ≤ n ∧ n ≤ left) ∧ r = (("skip" : Str), [a, m0, c0, n]) := by
  cases h with
  | set r n h1 h2 => exact absurd (show ("set" : Str) = "skip" from ez) (by decide +kernel)
  | two z r a hz h1 h2 =>
    have q : z = "skip" := ez
    rcases hz with rfl | rfl | rfl <;> exact absurd q (by decide +kernel)
  | three z r a b hz h1 h2 h3 =>
    have q : z = "skip" := ez
    rcases hz with rfl | rfl | rfl <;> exact absurd q (by decide +kernel)
  | load r s h1 h2 => exact absurd (show ("load" : Str) = "skip" from ez) (by decide +kernel)
  | store s a h1 h2 => exact absurd (show ("store" : Str) = "skip" from ez) (by decide +kernel)
  | skip a j c n h1 h2 h3 h4 => exact ⟨a, _, c, n, h1, h4, rfl⟩
theorem DrawnRow.skipN {R left : Int} {r : Rw} {n : Int} (h : DrawnRow R left r) (hz : r.1 = "skip") (hn : r.2[3]? = some n) : n ≤ left := by
  obtain ⟨a, m0, c0, n', _, h4, rfl⟩ := h.isSkip hz
  have e : n' = n := Option.some.inj hn
  omega
theorem DrawnRows.code {R : Int} {rs : List Rw} (h : DrawnRows R rs) (hR : R ≤ 8) (hl : rs.length ≤ 1000) : CodeOk rs := by
  refine ⟨hl, fun i r hr => (h i r hr).ok hR (by omega), fun i r n hr hz hn => ?_⟩
  have := (h i r hr).skipN hz hn
  omega
section
variable {P : Program} {w : World} {K : PySem.W.Frag} {mg : Str → Option Value} {base : Heap}
abbrev s_law_far_row : Stmt := top 39
theorem sc_law_far_row : FnScope ["_law_deal_here", "_law_registers", "_law_left", "_law_row_here", "_law_modulus"] ["_law_deal_here", "_law_registers", "_law_left"] (defScope s_law_far_row) := ⟨rfl, rfl, rfl, by decide +kernel, rfl, by decide +kernel, by decide +kernel⟩
theorem ok_law_far_row (F : TopFn K mg "_law_far_row" s_law_far_row ["_law_deal_here", "_law_registers", "_law_left"]) (D_law_draw : DefOk P w K mg base 1 "_law_draw" ["_law_deal_here", "_law_many"] spDraw) (D_law_row : DefOk P w K mg base 3 "_law_row" ["_law_deal_here", "_law_registers", "_law_left"] spLawRow) :
    DefOk P w K mg base 4 "_law_far_row" ["_law_deal_here", "_law_registers", "_law_left"] spLawRow := by
  refine F.ok sc_law_far_row (fun vs H Q E h => ?_) (fun f cdv A outer s H vs Q E hr h => ?_)
  · obtain ⟨d, l, R, left, rfl, _⟩ := h
    rfl
  · obtain ⟨d, l, R, left, rfl, hd, hR, hl, k⟩ := h
    refine ⟨_, (pss_cons (ps_set (i := 3) sc_law_far_row.nd rfl (.inl rfl) (pe_fn D_law_row (hr.mono (by decide)) rfl (pa_cons (pv 0) (pa_cons (pv 1) (pa_cons (pv 2) pa_nil)))))
    (pss_cons (ps_if (pt_cmpR op_eq (pe_ix ix_tup (pv 3) pe_int (fun _ _ => rfl)) pe_str (nomark _)) (pss_one (ps_ret (pe_op op_catT (pe_slice sl_tup (pv 3) po_none (po_some pe_int)) (pe_tup (pa_cons (pe_fn D_law_draw (hr.mono (by decide)) rfl (pa_cons (pv 0) (pa_cons pe_int pa_nil))) pa_nil))))) pss_nil)
    (pss_cons (ps_if (pt_cmpR op_eq (pe_ix ix_tup (pv 3) pe_int (fun _ _ => rfl)) pe_str (nomark _)) (pss_one (ps_ret (pe_tup (pa_cons (pe_ix ix_tup (pv 3) pe_int (fun _ _ => rfl)) (pa_cons (pe_fn D_law_draw (hr.mono (by decide)) rfl (pa_cons (pv 0) (pa_cons pe_int pa_nil))) (pa_cons (pe_ix ix_tup (pv 3) pe_int (fun _ _ => rfl)) pa_nil)))))) pss_nil)
    (pss_cons (ps_if (pt_cmpR op_eq (pe_ix ix_tup (pv 3) pe_int (fun _ _ => rfl)) pe_str (nomark _)) (pss_cons (ps_set (i := 4) sc_law_far_row.nd rfl (.inl rfl) (pe_op op_shl pe_int (pe_fn D_law_draw (hr.mono (by decide)) rfl (pa_cons (pv 0) (pa_cons pe_int pa_nil)))))
    (pss_one (ps_ret (pe_op op_catT (pe_slice sl_tup (pv 3) po_none (po_some pe_int)) (pe_tup (pa_cons (pv 4) (pa_cons (pe_fn D_law_draw (hr.mono (by decide)) rfl (pa_cons (pv 0) (pa_cons (pv 4) pa_nil))) (pa_cons (pe_ix ix_tup (pv 3) pe_int (fun _ _ => rfl)) pa_nil)))))))) pss_nil)
    (pss_one (ps_ret (pv 3))))))), ?_⟩
    refine ⟨_, rfl, _, rfl, _, rfl, d, l, R, left, rfl, hd, hR, hl, fun r H1 p hr1 D1 K1 hp => ?_⟩
    have h0 : atI (rowL r.1 r.2) 0 = some (.str r.1) := atI_nat (j := 0) rfl
    refine ⟨_, rfl, p, _, _, _, rfl, rfl, SqT.of hp, h0, rfl, _, rfl, ?_⟩
    refine ite2 (fun h => ?_) (fun h1 => ?_)
    · have ez : r.1 = "load" := V.str.inj (of_decide_eq_true h)
      obtain ⟨rr, s0, hrr, e⟩ := hr1.isLoad ez
      subst e
      refine ⟨_, rfl, _, rfl, p, _, rfl, SqT.of hp, part_to (k := 2) (show 2 < 3 by decide), fun p1 hp1 => ?_⟩
      have D2 := D1.new (o := .tup [.str "load", .int rr]) hp1
      have K2 := K1.new (o := .tup [.str "load", .int rr]) hp1
      refine ⟨_, rfl, d, l, 1000, rfl, D2, by decide, by decide, fun s1 H3 c0 c1 D3 K3 => ?_⟩
      have g3 : H3 p1 = some (.tup [.str "load", .int rr]) := K3.tup D2 upd_same
      refine ⟨(by show 1 ≤ sizeLine; decide), fun p2 hp2 => ?_⟩
      refine ⟨p1, p2, _, _, rfl, rfl, SqT.of ((same_new hp2) _ _ g3), SqT.of upd_same, (by intro q; cases q), (by show 3 ≤ sizeLine; decide), (fun q => by cases q), fun _ p3 hp3 => ?_⟩
      exact k ("load", [rr, s1]) _ p3 (.load rr s1 hrr ⟨c0, c1⟩) ((D3.new hp2).new hp3) (((K2.trans K3).new hp2).new hp3) upd_same
    refine ⟨_, rfl, p, _, _, _, rfl, rfl, SqT.of hp, h0, rfl, _, rfl, ?_⟩
    refine ite2 (fun h => ?_) (fun h2 => ?_)
    · have ez : r.1 = "store" := V.str.inj (of_decide_eq_true h)
      obtain ⟨s0, a, ha, e⟩ := hr1.isStore ez
      subst e
      refine ⟨_, rfl, p, _, _, _, rfl, rfl, SqT.of hp, h0, ?_⟩
      refine ⟨_, rfl, d, l, 1000, rfl, D1, by decide, by decide, fun s1 H3 c0 c1 D3 K3 => ?_⟩
      have g3 := K3.tup D1 hp
      refine ⟨_, rfl, p, _, _, _, rfl, rfl, SqT.of g3, atI_nat (j := 2) rfl, (by show 3 ≤ sizeLine; decide), fun p2 hp2 => ?_⟩
      exact k ("store", [s1, a]) _ p2 (.store s1 a ⟨c0, c1⟩ ha) (D3.new hp2) ((K1.trans K3).new hp2) upd_same
    refine ⟨_, rfl, p, _, _, _, rfl, rfl, SqT.of hp, h0, rfl, _, rfl, ?_⟩
    refine ite2 (fun h => ?_) (fun h3 => ?_)
    · have ez : r.1 = "skip" := V.str.inj (of_decide_eq_true h)
      obtain ⟨a, m0, c0, n, ha, hn, e⟩ := hr1.isSkip ez
      subst e
      refine ⟨_, rfl, d, l, 7, rfl, D1, by decide, by decide, fun j H2 c0 c1 D2 K2 => ?_⟩
      refine ⟨_, _, rfl, rfl, ⟨c0, by omega, by decide⟩, ?_⟩
      have hj : j.toNat ≤ 6 := by omega
      have hp6 := pow_le6 hj
      have hp0 := pow_pos2 j.toNat
      have em : (1 : Int) * 2 ^ j.toNat = 2 ^ j.toNat := Int.one_mul _
      have g2 := K2.tup D1 hp
      refine ⟨_, rfl, _, rfl, p, _, rfl, SqT.of g2, part_to (k := 2) (show 2 < 5 by decide), fun p1 hp1 => ?_⟩
      have D3 := D2.new (o := .tup [.str "skip", .int a]) hp1
      have K3 := (K1.trans K2).new (o := .tup [.str "skip", .int a]) hp1
      refine ⟨_, rfl, _, rfl, _, rfl, d, l, 1 * 2 ^ j.toNat, rfl, D3, by omega, by omega, fun c H4 e0 e1 D4 K4 => ?_⟩
      have g4 : H4 p1 = some (.tup [.str "skip", .int a]) := K4.tup D3 upd_same
      have g4' := K4.tup D3 ((same_new (o := .tup [.str "skip", .int a]) hp1) _ _ g2)
      refine ⟨_, rfl, p, _, _, _, rfl, rfl, SqT.of g4', atI_nat (j := 4) rfl, (by show 3 ≤ sizeLine; decide), fun p2 hp2 => ?_⟩
      refine ⟨p1, p2, _, _, rfl, rfl, SqT.of ((same_new hp2) _ _ g4), SqT.of upd_same, (by intro q; cases q), (by show 5 ≤ sizeLine; decide), (fun q => by cases q), fun _ p3 hp3 => ?_⟩
      exact k ("skip", [a, 1 * 2 ^ j.toNat, c, n]) _ p3 (by rw [em]; exact .skip a j.toNat c n ha hj ⟨e0, by omega⟩ hn) ((D4.new hp2).new hp3) (((K3.trans K4).new hp2).new hp3) upd_same
    exact ⟨_, rfl, k r _ p hr1 D1 K1 hp⟩
end
end LB
set_option Elab.async false
set_option linter.all false
set_option maxRecDepth 100000
set_option maxHeartbeats 4000000
namespace LB
open PySem PySem.Spec PyProof.Rows L2
open C8 (pss_cut tCut)
section
variable {P : Program} {w : World} {K : PySem.W.Frag} {mg : Str → Option Value} {base : Heap}
/-- many rows in a new list -/
def spFarRows : Sp := fun vs H Q _ => ∃ (d l : Addr) (R : Int) (many : Nat), vs = [.ref d, .int R, .int many] ∧ Deal d l H ∧ (1 ≤ R ∧ R ≤ 8) ∧ many ≤ 1000 ∧
  ∀ rs H' D ys, rs.length = many → DrawnRows R rs → Deal d l H' → Keep d l H H' → H D = none → H' D = some (.lst ys) → RowsAt H' ys rs → Q (.ref D) H'
/-- so many of them -/
structure Part (R : Int) (many : Nat) (rs : List Rw) (i : Nat) : Prop where
  len : rs.length = i
  row : ∀ (j : Nat) r, rs[j]? = some r → DrawnRow R ((many : Int) - j - 1) r
theorem Part.snoc {R : Int} {many i : Nat} {rs : List Rw} {r : Rw} (h : Part R many rs i) (hr : DrawnRow R ((many : Int) - i - 1) r) : Part R many (rs ++ [r]) (i + 1) := by
  refine ⟨by rw [List.length_append, h.len] <;> rfl, fun j q hq => ?_⟩
  by_cases hj : j < rs.length
  · rw [List.getElem?_append_left hj] at hq
    exact h.row j q hq
  · rw [List.getElem?_append_right (by omega)] at hq
    have e : j - rs.length = 0 := by
      have := lt_of_get hq
      simp at this
      omega
    rw [e] at hq
    cases hq
    have ej : j = i := by rw [← h.len]; omega
    rw [ej]
    exact hr
theorem Part.all {R : Int} {many : Nat} {rs : List Rw} (h : Part R many rs many) : DrawnRows R rs := fun i r hr => by
  rw [h.len]
  exact h.row i r hr
abbrev s_law_far_rows : Stmt := top 40
theorem sc_law_far_rows : FnScope ["_law_deal_here", "_law_registers", "_law_many", "_law_at"] ["_law_deal_here", "_law_registers", "_law_many"] (defScope s_law_far_rows) := ⟨rfl, rfl, rfl, by decide +kernel, rfl, by decide +kernel, by decide +kernel⟩
theorem ok_law_far_rows (F : TopFn K mg "_law_far_rows" s_law_far_rows ["_law_deal_here", "_law_registers", "_law_many"]) (T : Txt K mg) (D_law_far_row : DefOk P w K mg base 4 "_law_far_row" ["_law_deal_here", "_law_registers", "_law_left"] spLawRow) :
    DefOk P w K mg base 5 "_law_far_rows" ["_law_deal_here", "_law_registers", "_law_many"] spFarRows := by
  refine F.ok sc_law_far_rows (fun vs H Q E h => ?_) (fun f cdv A outer s H vs Q E hr h => ?_)
  · obtain ⟨d, l, R, many, rfl, _⟩ := h
    rfl
  · obtain ⟨d, l, R, many, rfl, hd, hR, hm, k⟩ := h
    refine ⟨_, (pss_one (ps_ret (pe_lc (own := [("_law_at", 3)]) (g := gName 3) (tt := tYes) rfl sc_law_far_rows.nd (pi_range1 (by rfl) T.b_range (pa_cons (pv 2) pa_nil)) (blkOk_by (own := [("_law_at", 3)]) (N := ["_law_deal_here", "_law_registers", "_law_many", "_law_at"]) (sc := defScope s_law_far_rows) (by decide +kernel)) (fun _ _ _ _ _ => (pg_name (i := 3) sc_law_far_rows.nd rfl (.inl rfl))) (fun _ _ _ _ _ => pts_nil) (fun _ _ _ _ _ => (pe_fn D_law_far_row (hr.mono (by decide)) rfl (pa_cons (pv 0) (pa_cons (pv 1) (pa_cons (pe_op op_sub (pe_op op_sub (pv 2) (pv 3)) pe_int) pa_nil)))))))), ?_⟩
    refine ⟨_, rfl, (many : Int), rfl, by omega, by omega, fun D hD => ?_⟩
    obtain ⟨nDd, nDl⟩ := hd.fresh hD
    have em : (many : Int).toNat = many := Int.toNat_natCast many
    rw [em]
    refine lc_range (lo := 0) (n := many) (fun i H' => ∃ rs ys, Part R many rs i ∧ H' D = some (.lst ys) ∧ RowsAt H' ys rs ∧ Deal d l H' ∧ Keep d l H H')
      ⟨[], [], ⟨rfl, fun j r h => by simp at h⟩, upd_same, RowsAt.nil, hd.new hD, Keep.refl.new hD⟩ ?_ ?_
    · rintro i H1 hi ⟨rs, ys, hp, hDD, hY, D1, K1⟩
      refine ⟨rfl, ?_⟩
      refine ⟨_, rfl, _, rfl, _, rfl, _, rfl, _, _, rfl, rfl, _, _, rfl, rfl, d, l, R, _, rfl, D1, hR, ⟨by omega, by omega⟩, fun r H2 p hr2 D2 K2 hp2 => ?_⟩
      have g2 := K2 _ _ hDD nDd nDl
      refine ⟨_, g2, ?_, rs ++ [r], ys ++ [.ref p], hp.snoc ?_, upd_same, ?_, D2.upd nDd nDl, (K1.trans K2).mut hD⟩
      · rw [hY.len, hp.len]; exact szK (by omega)
      · rw [show (many : Int) - i - 1 = many - (0 + i) - 1 by omega]
        exact hr2
      · exact ((hY.keep K2 D1).snoc ⟨p, rfl, hp2⟩).mut g2
    · rintro H1 ⟨rs, ys, hp, hDD, hY, D1, K1⟩
      exact k rs H1 D ys hp.len hp.all D1 K1 hD hDD hY
end
end LB
set_option Elab.async false
set_option linter.all false
set_option maxRecDepth 100000
set_option maxHeartbeats 4000000
namespace LB
open PySem PySem.Spec PyProof.Rows L2
open C8 (pss_cut tCut)
/-! ### rows, tested -/
def skOk : List Int → Bool
  | [_, m, c, _] => decide (c < m)
  | _ => false
theorem skOk_of {ns : List Int} (h : skOk ns = true) : ∃ a m c n, ns = [a, m, c, n] ∧ c < m := by
  unfold skOk at h
  split at h
  · exact ⟨_, _, _, _, rfl, of_decide_eq_true h⟩
  · cases h
def rowOkB (z : Str) (ns : List Int) : Bool := match forms.find? fun p => decide (p.1 = z) with
  | none => false
  | some p => decide (p.2.length = ns.length) && ((p.2.zip ns).all fun q => within q.1 q.2) && (!decide (z = "skip") || skOk ns)
theorem rowOk_of {z : Str} {ns : List Int} (h : rowOkB z ns = true) : RowOk z ns := by
  unfold rowOkB at h
  split at h
  · cases h
  · rename_i p e
    obtain ⟨h, h3⟩ := Bool.and_eq_true_iff.mp h
    obtain ⟨h1, h2⟩ := Bool.and_eq_true_iff.mp h
    have hp : p ∈ forms := List.mem_of_find?_eq_some e
    have hz : p.1 = z := by simpa using List.find?_some e
    subst hz
    refine ⟨⟨p.2, hp, of_decide_eq_true h1, fun i f n hf hn => ?_⟩, fun hs => ?_⟩
    · have := List.all_eq_true.mp h2 (f, n) (List.mem_of_getElem? (i := i) (by rw [List.getElem?_zip_eq_some]; exact ⟨hf, hn⟩))
      exact this
    · rw [decide_eq_true hs] at h3
      exact skOk_of (by simpa using h3)
/-! ### the registers of rows -/
theorem regs_set (r n : Int) : regsR ("set", [r, n]) = [r] := by kernel_rfl
theorem regs_copy (r a : Int) : regsR ("copy", [r, a]) = [r, a] := by kernel_rfl
theorem regs_left (r a : Int) : regsR ("left", [r, a]) = [r, a] := by kernel_rfl
theorem regs_right (r a : Int) : regsR ("right", [r, a]) = [r, a] := by kernel_rfl
theorem regs_add (r a b : Int) : regsR ("add", [r, a, b]) = [r, a, b] := by kernel_rfl
theorem regs_sub (r a b : Int) : regsR ("sub", [r, a, b]) = [r, a, b] := by kernel_rfl
theorem regs_mul (r a b : Int) : regsR ("mul", [r, a, b]) = [r, a, b] := by kernel_rfl
theorem regs_load (r s : Int) : regsR ("load", [r, s]) = [r] := by kernel_rfl
theorem regs_store (s a : Int) : regsR ("store", [s, a]) = [a] := by kernel_rfl
theorem regs_skip (a m c n : Int) : regsR ("skip", [a, m, c, n]) = [a] := by kernel_rfl
theorem DrawnRow.fit {R : Nat} {left : Int} {r : Rw} (h : DrawnRow R left r) : Fit R r.1 r.2 := by
  cases h with
  | set r n h1 h2 => exact ⟨.inl ⟨rfl, r, n, rfl, h1⟩⟩
  | two z r a hz h1 h2 => exact ⟨.inr (.inl ⟨hz, r, a, rfl, h1, h2⟩)⟩
  | three z r a b hz h1 h2 h3 => exact ⟨.inr (.inr (.inl ⟨hz, r, a, b, rfl, h1, h2, h3⟩))⟩
  | load r s h1 h2 => exact ⟨.inr (.inr (.inr (.inl ⟨rfl, r, s, rfl, h1⟩)))⟩
  | store s a h1 h2 => exact ⟨.inr (.inr (.inr (.inr (.inl ⟨rfl, s, a, rfl, h2⟩))))⟩
  | skip a j c n h1 h2 h3 h4 => exact ⟨.inr (.inr (.inr (.inr (.inr ⟨rfl, a, 2 ^ j, c, n, rfl, h1, pow_pos2 j, h4.1⟩))))⟩
theorem Fit.regs {R : Nat} {z : Str} {ns : List Int} (f : Fit R z ns) : ∀ i ∈ regsR (z, ns), InR R i := by
  rcases f.sh with ⟨rfl, r, n, rfl, h⟩ | ⟨e, r, a, rfl, h, h2⟩ | ⟨e, r, a, b, rfl, h, h2, h3⟩ | ⟨rfl, r, s, rfl, h⟩ | ⟨rfl, s, a, rfl, h⟩ | ⟨rfl, a, m, c, n, rfl, h, _⟩
  · rw [regs_set]
    intro i hi
    rw [List.mem_singleton.mp hi]
    exact h
  · have e2 : regsR (z, [r, a]) = [r, a] := by
      rcases e with rfl | rfl | rfl
      · exact regs_copy r a
      · exact regs_left r a
      · exact regs_right r a
    rw [e2]
    intro i hi
    have : i = r ∨ i = a := by simpa using hi
    rcases this with rfl | rfl
    · exact h
    · exact h2
  · have e2 : regsR (z, [r, a, b]) = [r, a, b] := by
      rcases e with rfl | rfl | rfl
      · exact regs_add r a b
      · exact regs_sub r a b
      · exact regs_mul r a b
    rw [e2]
    intro i hi
    have : i = r ∨ i = a ∨ i = b := by simpa using hi
    rcases this with rfl | rfl | rfl
    · exact h
    · exact h2
    · exact h3
  · rw [regs_load]
    intro i hi
    rw [List.mem_singleton.mp hi]
    exact h
  · rw [regs_store]
    intro i hi
    rw [List.mem_singleton.mp hi]
    exact h
  · rw [regs_skip]
    intro i hi
    rw [List.mem_singleton.mp hi]
    exact h
theorem Fit.small {R : Nat} {r : Rw} (f : Fit R r.1 r.2) : big R r = false := by
  unfold big
  rw [List.any_eq_false]
  intro i hi
  have := f.regs i hi
  have := this.2
  simp
  omega
def swL : List Str := ["set", "load", "skip"]
section
variable {P : Program} {w : World} {K : PySem.W.Frag} {mg : Str → Option Value} {base : Heap}
def spNumbers : Sp := fun vs H Q _ => ∃ (a : Addr) (R : Nat) (z : Str) (ns : List Int), vs = [.ref a] ∧ H a = some (.tup (rowL z ns)) ∧ Fit R z ns ∧ ∀ H' D, Same H H' → H' D = some (.lst ((regsR (z, ns)).map V.int)) → Q (.ref D) H'
abbrev s_law_numbers : Stmt := top 44
theorem sc_law_numbers : FnScope ["_law_row_here"] ["_law_row_here"] (defScope s_law_numbers) := ⟨rfl, rfl, rfl, by decide +kernel, rfl, by decide +kernel, by decide +kernel⟩
theorem ok_law_numbers (F : TopFn K mg "_law_numbers" s_law_numbers ["_law_row_here"]) (T : Txt K mg) : DefOk P w K mg base 1 "_law_numbers" ["_law_row_here"] spNumbers := by
  refine F.ok sc_law_numbers (fun vs H Q E h => ?_) (fun f cdv A outer s H vs Q E hr h => ?_)
  · obtain ⟨a, R, z, ns, rfl, _⟩ := h
    rfl
  · obtain ⟨a, R, z, ns, rfl, ha, fit, k⟩ := h
    refine ⟨_, (pss_cons (ps_if (pt_cmpR op_in_seq (pe_ix ix_tup (pv 0) pe_int (fun _ _ => rfl)) (pe_tup (pa_cons pe_str (pa_cons pe_str (pa_cons pe_str pa_nil)))) (by rfl)) (pss_one (ps_ret (pe_lst (pa_cons (pe_ix ix_tup (pv 0) pe_int (fun _ _ => rfl)) pa_nil)))) pss_nil)
    (pss_one (ps_ret (pe_ifExp (pt_cmpR op_eq (pe_ix ix_tup (pv 0) pe_int (fun _ _ => rfl)) pe_str (nomark _)) (pe_lst (pa_cons (pe_ix ix_tup (pv 0) pe_int (fun _ _ => rfl)) pa_nil)) (pe_callTy call_list_of (by rfl) T.b_list (by decide +kernel) (pa_cons (pe_slice sl_tup (pv 0) (po_some pe_int) po_none) pa_nil)))))), ?_⟩
    have h0 : atI (rowL z ns) 0 = some (.str z) := atI_nat (j := 0) rfl
    refine ⟨_, rfl, a, _, _, _, rfl, rfl, SqT.of ha, h0, (by show 3 ≤ sizeLine; decide), fun q hq => ?_⟩
    have s1 : Same H (upd H q (.tup (swL.map V.str))) := same_new hq
    have hq1 : upd H q (.tup (swL.map V.str)) q = some (.tup (swL.map V.str)) := upd_same
    show rIn _ _ _ _ (upd H q (.tup (swL.map V.str))) _
    generalize upd H q (.tup (swL.map V.str)) = H1 at s1 hq1
    have ha1 := s1 _ _ ha
    have hRow := SqT.of (K := K) ha1
    refine ⟨q, _, rfl, .inr (SqT.of hq1), rfl, flat_strs _, _, rfl, ?_⟩
    have one : ∀ (i : Int), regsR (z, ns) = [i] → ∀ p, H1 p = none → Q (.ref p) (upd H1 p (.lst [.int i])) := fun i e p hp => k _ p (s1.trans (same_new hp)) (by rw [upd_same, e] <;> rfl)
    refine ite2 (fun h => ?_) (fun h1 => ?_)
    · have hm : z ∈ swL := by
        have q : inV (.str z) (swL.map V.str) = true := h
        rw [in_strs] at q
        exact of_decide_eq_true q
      have hz3 : z = "set" ∨ z = "load" ∨ z = "skip" := by simpa [swL] using hm
      have key : ∃ i t, ns = i :: t ∧ regsR (z, ns) = [i] := by
        rcases hz3 with hz | hz | hz
        · obtain ⟨r, n, rfl, _⟩ := fit.set hz
          subst hz
          exact ⟨r, _, rfl, regs_set r n⟩
        · obtain ⟨r, n, rfl, _⟩ := fit.load hz
          subst hz
          exact ⟨r, _, rfl, regs_load r n⟩
        · obtain ⟨b, m, c, n, rfl, _⟩ := fit.skip hz
          subst hz
          exact ⟨b, _, rfl, regs_skip b m c n⟩
      obtain ⟨i, t, rfl, e⟩ := key
      exact ⟨_, rfl, a, _, _, _, rfl, rfl, hRow, atI_nat (j := 1) rfl, (by show 1 ≤ sizeLine; decide), one i e⟩
    have hnc : ¬ z ∈ swL := fun hm => h1 (by
      show inV (.str z) (swL.map V.str) = true
      rw [in_strs]
      exact decide_eq_true hm)
    have hnc : ¬ (z = "set" ∨ z = "load" ∨ z = "skip") := fun e => hnc (by simpa [swL] using e)
    refine ⟨_, rfl, a, _, _, _, rfl, rfl, hRow, h0, rfl, _, rfl, ?_⟩
    refine ite2 (fun h => ?_) (fun h2 => ?_)
    · have hz : z = "store" := V.str.inj (of_decide_eq_true h)
      obtain ⟨s0, b, rfl, _⟩ := fit.store hz
      subst hz
      exact ⟨_, rfl, a, _, _, _, rfl, rfl, hRow, atI_nat (j := 2) rfl, (by show 1 ≤ sizeLine; decide), one b (regs_store s0 b)⟩
    have hz2 : ¬ z = "store" := fun e => h2 (decide_eq_true (by rw [e]))
    have key : regsR (z, ns) = ns ∧ 0 < ns.length := by
      rcases fit.sh with ⟨e, _⟩ | ⟨e, r, b, rfl, _⟩ | ⟨e, r, b, c, rfl, _⟩ | ⟨e, _⟩ | ⟨e, _⟩ | ⟨e, _⟩
      · exact absurd (.inl e) hnc
      · rcases e with rfl | rfl | rfl
        · exact ⟨regs_copy r b, by simp⟩
        · exact ⟨regs_left r b, by simp⟩
        · exact ⟨regs_right r b, by simp⟩
      · rcases e with rfl | rfl | rfl
        · exact ⟨regs_add r b c, by simp⟩
        · exact ⟨regs_sub r b c, by simp⟩
        · exact ⟨regs_mul r b c, by simp⟩
      · exact absurd (.inr (.inl e)) hnc
      · exact absurd e hz2
      · exact absurd (.inr (.inr e)) hnc
    refine ⟨_, rfl, _, rfl, a, _, rfl, hRow, part_from (k := 1) (by decide) (by unfold rowL; rw [List.length_cons]; omega), fun p hp => ?_⟩
    rw [show cutV (rowL z ns) (some 1) none = ns.map V.int from cut_from (rowL z ns) 1 (by unfold rowL; rw [List.length_cons]; omega)]
    refine ⟨p, _, rfl, .inr (SqT.of upd_same), fun q2 hq2 => ?_⟩
    exact k _ q2 ((s1.trans (same_new hp)).trans (same_new hq2)) (by rw [upd_same, key.1])
/-! ### _law_rows -/
def spLawRows : Sp := fun vs H Q _ => ∃ (d l : Addr) (R : Int) (many : Nat) (sk : Int), vs = [.ref d, .int R, .int many, .int sk] ∧ Deal d l H ∧ (1 ≤ R ∧ R ≤ 8) ∧ many ≤ 1000 ∧
  ∀ rs H' D ys, rs.length = many → DrawnRows R rs → Deal d l H' → Keep d l H H' → H D = none → H' D = some (.lst ys) → RowsAt H' ys rs → Q (.ref D) H'
abbrev s_law_rows : Stmt := top 38
theorem sc_law_rows : FnScope ["_law_deal_here", "_law_registers", "_law_many", "_law_skips", "_law_found", "_law_seen", "_law_at", "_law_row_here"] ["_law_deal_here", "_law_registers", "_law_many", "_law_skips"] (defScope s_law_rows) := ⟨rfl, rfl, rfl, by decide +kernel, rfl, by decide +kernel, by decide +kernel⟩
theorem ok_law_rows (F : TopFn K mg "_law_rows" s_law_rows ["_law_deal_here", "_law_registers", "_law_many", "_law_skips"]) (T : Txt K mg) (D_law_row : DefOk P w K mg base 3 "_law_row" ["_law_deal_here", "_law_registers", "_law_left"] spLawRow) : DefOk P w K mg base 4 "_law_rows" ["_law_deal_here", "_law_registers", "_law_many", "_law_skips"] spLawRows := by
  refine F.ok sc_law_rows (fun vs H Q E h => ?_) (fun f cdv A outer s H vs Q E hr h => ?_)
  · obtain ⟨d, l, R, many, sk, rfl, _⟩ := h
    rfl
  · obtain ⟨d, l, R, many, sk, rfl, hd, hR, hm, k⟩ := h
    refine ⟨_, (pss_cons (ps_par (i := 4) (j := 5) (by rfl) sc_law_rows.nd rfl rfl (by decide) rfl rfl (pa_cons (pe_lst pa_nil) (pa_cons pe_int pa_nil)) (by rfl))
    (pss_cut (ps_for PassesOwn.never rfl (pi_range1 (by rfl) T.b_range (pa_cons (pv 2) pa_nil)) (pg_name (i := 6) sc_law_rows.nd rfl (.inl rfl))
    (pss_cons (ps_set (i := 7) sc_law_rows.nd rfl (.inl rfl) (pe_fn D_law_row (hr.mono (by decide)) rfl (pa_cons (pv 0) (pa_cons (pv 1) (pa_cons (pe_op op_sub (pe_op op_sub (pv 2) (pv 6)) pe_int) pa_nil)))))
    (pss_cut (ps_if (pt_cmpR op_eq (pe_ix ix_tup (pv 7) pe_int (fun _ _ => rfl)) pe_str (nomark _)) (pss_cons (ps_set (i := 5) sc_law_rows.nd rfl (.inl rfl) (pe_op op_add (pv 5) pe_int))
    (pss_one (ps_if (pt_cmpR op_gt (pv 5) (pv 3) (nomark _)) (pss_one (ps_set (i := 7) sc_law_rows.nd rfl (.inl rfl) (pe_tup (pa_cons pe_str (pa_cons pe_int (pa_cons (pe_ix ix_tup (pv 7) pe_int (fun _ _ => rfl)) (pa_cons pe_int pa_nil))))))) pss_nil))) pss_nil)
    (pss_one (ps_expr (pe_bm PySem.F.plainAttrs_list PySem.F.slot_list_append PySem.F.type_list_append mt_append (pv 4) (pa_cons (pv 7) pa_nil)))))))
    (pss_one (ps_ret (pv 4))))), ?_⟩
    refine ⟨Nat.zero_le _, fun D hD => ?_⟩
    obtain ⟨nDd, nDl⟩ := hd.fresh hD
    have d0 := hd.new (o := .lst []) hD
    have k0 : Keep d l H (upd H D (.lst [])) := Keep.refl.new hD
    have hD0 : upd H D (.lst []) D = some (.lst []) := upd_same
    generalize upd H D (.lst []) = H0 at d0 k0 hD0
    refine ⟨_, _, rfl, ?_⟩
    refine ⟨fun σ H' => ∃ (v5 v6 v7 : Option V) (rs : List Rw) (ys : List V), σ = [some (.ref d), some (.int R), some (.int many), some (.int sk), some (.ref D), v5, v6, v7] ∧ Part R many rs many ∧ Deal d l H' ∧ Keep d l H H' ∧ H' D = some (.lst ys) ∧ RowsAt H' ys rs, ?_, ?_⟩
    · refine ⟨_, rfl, (many : Int), rfl, by omega, by omega, ?_⟩
      rw [show (many : Int).toNat = many from Int.toNat_natCast many]
      refine for_range (fun i σ H' => ∃ (v6 v7 : Option V) (sn : Int) (rs : List Rw) (ys : List V), σ = [some (V.ref d), some (.int R), some (.int many), some (.int sk), some (.ref D), some (.int sn), v6, v7] ∧ Part R many rs i ∧ Deal d l H' ∧ Keep d l H H' ∧ H' D = some (.lst ys) ∧ RowsAt H' ys rs)
        ⟨none, none, 0, [], [], rfl, ⟨rfl, fun j r h => by simp at h⟩, d0, k0, hD0, RowsAt.nil⟩ ?_ ?_
      · rintro i σ H1 hi ⟨v6, v7, sn, rs, ys, rfl, hp, D1, K1, g1, hY⟩
        refine ⟨_, rfl, _, rfl, _, rfl, _, rfl, _, _, rfl, rfl, _, _, rfl, rfl, d, l, R, _, rfl, D1, hR, ⟨by omega, by omega⟩, fun r H2 p hr2 D2 K2 hp2 => ?_⟩
        have g2 := K2 _ _ g1 nDd nDl
        have hY2 := hY.keep K2 D1
        have K12 := K1.trans K2
        have el : (many : Int) - (0 + i) - 1 = (many : Int) - i - 1 := by omega
        rw [el] at hr2
        have h0 : atI (rowL r.1 r.2) 0 = some (.str r.1) := atI_nat (j := 0) rfl
        refine ⟨fun σ H' => ∃ (sn : Int) (r' : Rw) (q : Addr), σ = [some (V.ref d), some (.int R), some (.int many), some (.int sk), some (.ref D), some (.int sn), some (.int (0 + i)), some (.ref q)] ∧ DrawnRow R ((many : Int) - i - 1) r' ∧ H' q = some (.tup (rowL r'.1 r'.2)) ∧ Deal d l H' ∧ Keep d l H H' ∧ H' D = some (.lst ys) ∧ RowsAt H' ys rs, ?_, ?_⟩
        · refine ⟨_, rfl, p, _, _, _, rfl, rfl, SqT.of hp2, h0, rfl, _, rfl, ?_⟩
          refine ite2 (fun h => ?_) (fun h1 => ?_)
          · have hz : r.1 = "skip" := V.str.inj (of_decide_eq_true h)
            obtain ⟨a, m0, c0, n, ha, hn, e⟩ := hr2.isSkip hz
            subst e
            refine ⟨_, rfl, _, _, rfl, rfl, ?_⟩
            refine ⟨_, rfl, _, rfl, _, _, rfl, rfl, _, rfl, ?_⟩
            refine ite2 (fun h => ?_) (fun h2 => ?_)
            · refine ⟨_, rfl, p, _, _, _, rfl, rfl, SqT.of hp2, atI_nat (j := 1) rfl, (by show 4 ≤ sizeLine; decide), fun q hq => ?_⟩
              exact ⟨_, ("add", [0, a, 0]), q, rfl, .three "add" 0 a 0 (.inl rfl) ⟨Int.le_refl _, by omega⟩ ha ⟨Int.le_refl _, by omega⟩, upd_same, D2.new hq, K12.new hq, (same_new hq) _ _ g2, hY2.same (same_new hq)⟩
            · exact ⟨_, _, p, rfl, hr2, hp2, D2, K12, g2, hY2⟩
          · exact ⟨_, r, p, rfl, hr2, hp2, D2, K12, g2, hY2⟩
        · rintro σ H3 ⟨sn', r', q, rfl, hr3, hq3, D3, K3, g3, hY3⟩
          refine ⟨_, rfl, .inl ⟨rfl, _, SqL.of g3⟩, _, rfl, D, _, _, rfl, rfl, g3, szK (by rw [hY3.len, hp.len]; omega), ?_⟩
          exact ⟨_, _, sn', rs ++ [r'], ys ++ [.ref q], rfl, hp.snoc hr3, D3.upd nDd nDl, K3.mut hD, upd_same, (hY3.snoc ⟨q, rfl, hq3⟩).mut g3⟩
      · rintro σ H1 ⟨v6, v7, sn, rs, ys, rfl, hp, D1, K1, g1, hY⟩
        exact ⟨_, v6, v7, rs, ys, rfl, hp, D1, K1, g1, hY⟩
    · rintro σ H1 ⟨v5, v6, v7, rs, ys, rfl, hp, D1, K1, g1, hY⟩
      exact ⟨_, rfl, k rs H1 D ys hp.len hp.all D1 K1 hD g1 hY⟩
end
end LB
set_option Elab.async false
set_option linter.all false
set_option maxRecDepth 100000
set_option maxHeartbeats 4000000
namespace LB
open PySem PySem.Spec PyProof.Rows L2
open C8 (pss_cut tCut)
/-- rows laid one after another -/
structure Rs (Hb H : Hp) (vs : List V) (rs : List Rw) : Prop where
  s : Same Hb H
  r : RowsAt H vs rs
theorem Rs.nil {H : Hp} : Rs H H [] [] := ⟨Same.refl _, RowsAt.nil⟩
theorem Rs.row {Hb H : Hp} {vs : List V} {rs : List Rw} {p : Addr} {z : Str} {ns : List Int} (h : Rs Hb H vs rs) (hp : H p = none) : Rs Hb (upd H p (.tup (rowL z ns))) (vs ++ [.ref p]) (rs ++ [(z, ns)]) :=
  ⟨h.s.trans (same_new hp), (h.r.same (same_new hp)).snoc ⟨p, rfl, upd_same⟩⟩
theorem RowsAt.app {H : Hp} : ∀ {vs us : List V} {rs qs : List Rw}, RowsAt H vs rs → RowsAt H us qs → RowsAt H (vs ++ us) (rs ++ qs) := fun {vs us rs qs} h1 h2 => by
  refine ⟨by rw [List.length_append, List.length_append, h1.len, h2.len], fun i v r e1 e2 => ?_⟩
  by_cases hi : i < vs.length
  · rw [List.getElem?_append_left hi] at e1
    rw [List.getElem?_append_left (by rw [← h1.len]; exact hi)] at e2
    exact h1.get i v r e1 e2
  · rw [List.getElem?_append_right (by omega)] at e1
    rw [List.getElem?_append_right (by rw [← h1.len]; omega), ← h1.len] at e2
    exact h2.get _ v r e1 e2
def strangeL (cn : Int) (zw : Str) : List Rw := [(("copy" : Str), [0, cn]), (("copy" : Str), [cn, 0]), (("store" : Str), [9, 7]), (("load" : Str), [7, 0]), (("set" : Str), [cn, 1])] ++ [(("right" : Str), [cn, 0]), (("right" : Str), [0, 7]), (("left" : Str), [7, 0]), (("left" : Str), [1, cn]), (("skip" : Str), [7, 2, 1, 0])] ++ [(zw, [7, 0, 1]), (zw, [0, cn, 1]), (zw, [1, 0, 7])]
/-- what is asked of a strange row -/
def oddB (cn : Int) (r : Rw) : Bool := rowOkB r.1 r.2 && big cn r && decide (r.2.length ≤ 10) && (!decide (r.1 = "skip") || decide (r.2[3]? = some 0))
theorem strange_all : ∀ cn ∈ ([3, 4, 5, 6, 7] : List Int), ∀ zw ∈ (["add", "sub", "mul"] : List Str), ∀ r ∈ strangeL cn zw, oddB cn r = true := by decide +kernel
structure Odd (cn : Int) (r : Rw) : Prop where
  ok : RowOk r.1 r.2
  big : big cn r = true
  few : r.2.length ≤ 10
  skip : ∀ n, r.1 = "skip" → r.2[3]? = some n → n = 0
theorem odd_of {cn : Int} {r : Rw} (h : oddB cn r = true) : Odd cn r := by
  unfold oddB at h
  obtain ⟨h, h4⟩ := Bool.and_eq_true_iff.mp h
  obtain ⟨h, h3⟩ := Bool.and_eq_true_iff.mp h
  obtain ⟨h1, h2⟩ := Bool.and_eq_true_iff.mp h
  refine ⟨rowOk_of h1, h2, of_decide_eq_true h3, fun n hz hn => ?_⟩
  rw [decide_eq_true hz] at h4
  have h5 : r.2[3]? = some 0 := by simpa using h4
  rw [h5] at hn
  exact (Option.some.inj hn).symm
section
variable {P : Program} {w : World} {K : PySem.W.Frag} {mg : Str → Option Value} {base : Heap}
def spStrange : Sp := fun vs H Q _ => ∃ (d l : Addr) (cn : Int), vs = [.ref d, .int cn] ∧ Deal d l H ∧ (3 ≤ cn ∧ cn ≤ 7) ∧ ∀ r H' p, Odd cn r → Deal d l H' → Keep d l H H' → H' p = some (.tup (rowL r.1 r.2)) → Q (.ref p) H'
abbrev s_law_strange : Stmt := top 42
theorem sc_law_strange : FnScope ["_law_deal_here", "_law_count", "_law_some", "_law_word"] ["_law_deal_here", "_law_count"] (defScope s_law_strange) := ⟨rfl, rfl, rfl, by decide +kernel, rfl, by decide +kernel, by decide +kernel⟩
theorem ok_law_strange (F : TopFn K mg "_law_strange" s_law_strange ["_law_deal_here", "_law_count"]) (D_law_draw : DefOk P w K mg base 1 "_law_draw" ["_law_deal_here", "_law_many"] spDraw) : DefOk P w K mg base 2 "_law_strange" ["_law_deal_here", "_law_count"] spStrange := by
  refine F.ok sc_law_strange (fun vs H Q E h => ?_) (fun f cdv A outer s H vs Q E hr h => ?_)
  · obtain ⟨d, l, cn, rfl, _⟩ := h
    rfl
  · obtain ⟨d, l, cn, rfl, hd, hcn, k⟩ := h
    refine ⟨_, (pss_cons (ps_set (i := 2) sc_law_strange.nd rfl (.inl rfl) (pe_lst (pa_cons (pe_tup (pa_cons pe_str (pa_cons pe_int (pa_cons (pv 1) pa_nil)))) (pa_cons (pe_tup (pa_cons pe_str (pa_cons (pv 1) (pa_cons pe_int pa_nil)))) (pa_cons (pe_tup (pa_cons pe_str (pa_cons pe_int (pa_cons pe_int pa_nil)))) (pa_cons (pe_tup (pa_cons pe_str (pa_cons pe_int (pa_cons pe_int pa_nil)))) (pa_cons (pe_tup (pa_cons pe_str (pa_cons (pv 1) (pa_cons pe_int pa_nil)))) pa_nil)))))))
    (pss_cons (ps_set (i := 2) sc_law_strange.nd rfl (.inl rfl) (pe_op op_cat (pv 2) (pe_lst (pa_cons (pe_tup (pa_cons pe_str (pa_cons (pv 1) (pa_cons pe_int pa_nil)))) (pa_cons (pe_tup (pa_cons pe_str (pa_cons pe_int (pa_cons pe_int pa_nil)))) (pa_cons (pe_tup (pa_cons pe_str (pa_cons pe_int (pa_cons pe_int pa_nil)))) (pa_cons (pe_tup (pa_cons pe_str (pa_cons pe_int (pa_cons (pv 1) pa_nil)))) (pa_cons (pe_tup (pa_cons pe_str (pa_cons pe_int (pa_cons pe_int (pa_cons pe_int (pa_cons pe_int pa_nil)))))) pa_nil))))))))
    (pss_cons (ps_set (i := 3) sc_law_strange.nd rfl (.inl rfl) (pe_ix ix_list (pe_lst (pa_cons pe_str (pa_cons pe_str (pa_cons pe_str pa_nil)))) (pe_fn D_law_draw (hr.mono (by decide)) rfl (pa_cons (pv 0) (pa_cons pe_int pa_nil))) (fun _ _ => rfl)))
    (pss_one (ps_ret (pe_ix ix_list (pe_op op_cat (pv 2) (pe_lst (pa_cons (pe_tup (pa_cons (pv 3) (pa_cons pe_int (pa_cons pe_int (pa_cons pe_int pa_nil))))) (pa_cons (pe_tup (pa_cons (pv 3) (pa_cons pe_int (pa_cons (pv 1) (pa_cons pe_int pa_nil))))) (pa_cons (pe_tup (pa_cons (pv 3) (pa_cons pe_int (pa_cons pe_int (pa_cons pe_int pa_nil))))) pa_nil))))) (pe_fn D_law_draw (hr.mono (by decide)) rfl (pa_cons (pv 0) (pa_cons pe_int pa_nil))) (fun _ _ => rfl))))))), ?_⟩
    refine ⟨_, rfl, (by show 3 ≤ sizeLine; decide), fun p1 h1 => ?_⟩
    have S1 : Rs H (upd H p1 (.tup [.str "copy", .int 0, .int cn])) [.ref p1] [(("copy" : Str), [0, cn])] := Rs.row (z := "copy") (ns := [0, cn]) (Rs.nil : Rs H H [] []) h1
    generalize upd H p1 (.tup [.str "copy", .int 0, .int cn]) = G1 at S1
    refine ⟨_, rfl, (by show 3 ≤ sizeLine; decide), fun p2 h2 => ?_⟩
    have S2 : Rs H (upd G1 p2 (.tup [.str "copy", .int cn, .int 0])) [.ref p1, .ref p2] [(("copy" : Str), [0, cn]), (("copy" : Str), [cn, 0])] := Rs.row (z := "copy") (ns := [cn, 0]) S1 h2
    generalize upd G1 p2 (.tup [.str "copy", .int cn, .int 0]) = G2 at S2
    refine ⟨(by show 3 ≤ sizeLine; decide), fun p3 h3 => ?_⟩
    have S3 : Rs H (upd G2 p3 (.tup [.str "store", .int 9, .int 7])) [.ref p1, .ref p2, .ref p3] [(("copy" : Str), [0, cn]), (("copy" : Str), [cn, 0]), (("store" : Str), [9, 7])] := Rs.row (z := "store") (ns := [9, 7]) S2 h3
    generalize upd G2 p3 (.tup [.str "store", .int 9, .int 7]) = G3 at S3
    refine ⟨(by show 3 ≤ sizeLine; decide), fun p4 h4 => ?_⟩
    have S4 : Rs H (upd G3 p4 (.tup [.str "load", .int 7, .int 0])) [.ref p1, .ref p2, .ref p3, .ref p4] [(("copy" : Str), [0, cn]), (("copy" : Str), [cn, 0]), (("store" : Str), [9, 7]), (("load" : Str), [7, 0])] := Rs.row (z := "load") (ns := [7, 0]) S3 h4
    generalize upd G3 p4 (.tup [.str "load", .int 7, .int 0]) = G4 at S4
    refine ⟨_, rfl, (by show 3 ≤ sizeLine; decide), fun p5 h5 => ?_⟩
    have S5 : Rs H (upd G4 p5 (.tup [.str "set", .int cn, .int 1])) [.ref p1, .ref p2, .ref p3, .ref p4, .ref p5] [(("copy" : Str), [0, cn]), (("copy" : Str), [cn, 0]), (("store" : Str), [9, 7]), (("load" : Str), [7, 0]), (("set" : Str), [cn, 1])] := Rs.row (z := "set") (ns := [cn, 1]) S4 h5
    generalize upd G4 p5 (.tup [.str "set", .int cn, .int 1]) = G5 at S5
    refine ⟨(by show 5 ≤ sizeLine; decide), fun L1 hL1 => ?_⟩
    have s1 : Same H (upd G5 L1 (.lst [V.ref p1, V.ref p2, V.ref p3, V.ref p4, V.ref p5])) := S5.s.trans (same_new hL1)
    have r1 : RowsAt (upd G5 L1 (.lst [V.ref p1, V.ref p2, V.ref p3, V.ref p4, V.ref p5])) [V.ref p1, V.ref p2, V.ref p3, V.ref p4, V.ref p5] [(("copy" : Str), [0, cn]), (("copy" : Str), [cn, 0]), (("store" : Str), [9, 7]), (("load" : Str), [7, 0]), (("set" : Str), [cn, 1])] := S5.r.same (same_new hL1)
    have g1 : upd G5 L1 (.lst [V.ref p1, V.ref p2, V.ref p3, V.ref p4, V.ref p5]) L1 = some (.lst [V.ref p1, V.ref p2, V.ref p3, V.ref p4, V.ref p5]) := upd_same
    generalize upd G5 L1 (.lst [V.ref p1, V.ref p2, V.ref p3, V.ref p4, V.ref p5]) = H1 at s1 r1 g1
    refine ⟨_, rfl, ?_⟩
    refine ⟨_, rfl, (by show 3 ≤ sizeLine; decide), fun p6 h6 => ?_⟩
    have S6 : Rs H1 (upd H1 p6 (.tup [.str "right", .int cn, .int 0])) [.ref p6] [(("right" : Str), [cn, 0])] := Rs.row (z := "right") (ns := [cn, 0]) (Rs.nil : Rs H1 H1 [] []) h6
    generalize upd H1 p6 (.tup [.str "right", .int cn, .int 0]) = G6 at S6
    refine ⟨(by show 3 ≤ sizeLine; decide), fun p7 h7 => ?_⟩
    have S7 : Rs H1 (upd G6 p7 (.tup [.str "right", .int 0, .int 7])) [.ref p6, .ref p7] [(("right" : Str), [cn, 0]), (("right" : Str), [0, 7])] := Rs.row (z := "right") (ns := [0, 7]) S6 h7
    generalize upd G6 p7 (.tup [.str "right", .int 0, .int 7]) = G7 at S7
    refine ⟨(by show 3 ≤ sizeLine; decide), fun p8 h8 => ?_⟩
    have S8 : Rs H1 (upd G7 p8 (.tup [.str "left", .int 7, .int 0])) [.ref p6, .ref p7, .ref p8] [(("right" : Str), [cn, 0]), (("right" : Str), [0, 7]), (("left" : Str), [7, 0])] := Rs.row (z := "left") (ns := [7, 0]) S7 h8
    generalize upd G7 p8 (.tup [.str "left", .int 7, .int 0]) = G8 at S8
    refine ⟨_, rfl, (by show 3 ≤ sizeLine; decide), fun p9 h9 => ?_⟩
    have S9 : Rs H1 (upd G8 p9 (.tup [.str "left", .int 1, .int cn])) [.ref p6, .ref p7, .ref p8, .ref p9] [(("right" : Str), [cn, 0]), (("right" : Str), [0, 7]), (("left" : Str), [7, 0]), (("left" : Str), [1, cn])] := Rs.row (z := "left") (ns := [1, cn]) S8 h9
    generalize upd G8 p9 (.tup [.str "left", .int 1, .int cn]) = G9 at S9
    refine ⟨(by show 5 ≤ sizeLine; decide), fun p10 h10 => ?_⟩
    have S10 : Rs H1 (upd G9 p10 (.tup [.str "skip", .int 7, .int 2, .int 1, .int 0])) [.ref p6, .ref p7, .ref p8, .ref p9, .ref p10] [(("right" : Str), [cn, 0]), (("right" : Str), [0, 7]), (("left" : Str), [7, 0]), (("left" : Str), [1, cn]), (("skip" : Str), [7, 2, 1, 0])] := Rs.row (z := "skip") (ns := [7, 2, 1, 0]) S9 h10
    generalize upd G9 p10 (.tup [.str "skip", .int 7, .int 2, .int 1, .int 0]) = G10 at S10
    refine ⟨(by show 5 ≤ sizeLine; decide), fun L2 hL2 => ?_⟩
    have s2 : Same H1 (upd G10 L2 (.lst [V.ref p6, V.ref p7, V.ref p8, V.ref p9, V.ref p10])) := S10.s.trans (same_new hL2)
    have r2 : RowsAt (upd G10 L2 (.lst [V.ref p6, V.ref p7, V.ref p8, V.ref p9, V.ref p10])) [V.ref p6, V.ref p7, V.ref p8, V.ref p9, V.ref p10] [(("right" : Str), [cn, 0]), (("right" : Str), [0, 7]), (("left" : Str), [7, 0]), (("left" : Str), [1, cn]), (("skip" : Str), [7, 2, 1, 0])] := S10.r.same (same_new hL2)
    have g2 : upd G10 L2 (.lst [V.ref p6, V.ref p7, V.ref p8, V.ref p9, V.ref p10]) L2 = some (.lst [V.ref p6, V.ref p7, V.ref p8, V.ref p9, V.ref p10]) := upd_same
    generalize upd G10 L2 (.lst [V.ref p6, V.ref p7, V.ref p8, V.ref p9, V.ref p10]) = H2 at s2 r2 g2
    refine ⟨L1, L2, _, _, rfl, rfl, s2 _ _ g1, g2, (by show 10 ≤ sizeLine; decide), fun L3 hL3 => ?_⟩
    have s3 : Same H (upd H2 L3 (.lst ([V.ref p1, V.ref p2, V.ref p3, V.ref p4, V.ref p5] ++ [V.ref p6, V.ref p7, V.ref p8, V.ref p9, V.ref p10]))) := (s1.trans s2).trans (same_new hL3)
    have r3 := ((r1.same s2).app r2).same (same_new (o := .lst ([V.ref p1, V.ref p2, V.ref p3, V.ref p4, V.ref p5] ++ [V.ref p6, V.ref p7, V.ref p8, V.ref p9, V.ref p10])) hL3)
    have g3 : upd H2 L3 (.lst ([V.ref p1, V.ref p2, V.ref p3, V.ref p4, V.ref p5] ++ [V.ref p6, V.ref p7, V.ref p8, V.ref p9, V.ref p10])) L3 = some (.lst ([V.ref p1, V.ref p2, V.ref p3, V.ref p4, V.ref p5] ++ [V.ref p6, V.ref p7, V.ref p8, V.ref p9, V.ref p10])) := upd_same
    generalize upd H2 L3 (.lst ([V.ref p1, V.ref p2, V.ref p3, V.ref p4, V.ref p5] ++ [V.ref p6, V.ref p7, V.ref p8, V.ref p9, V.ref p10])) = H3 at s3 r3 g3
    have D3 := hd.same s3
    refine ⟨(by show 3 ≤ sizeLine; decide), fun L4 hL4 => ?_⟩
    have n4 := D3.fresh hL4
    have D4 := D3.new (o := .lst ((["add", "sub", "mul"] : List Str).map V.str)) hL4
    have K4 : Keep d l H (upd H3 L4 (.lst ((["add", "sub", "mul"] : List Str).map V.str))) := (Keep.same s3).new hL4
    have r4 := r3.same (same_new (o := .lst ((["add", "sub", "mul"] : List Str).map V.str)) hL4)
    have g4 : upd H3 L4 (.lst ((["add", "sub", "mul"] : List Str).map V.str)) L3 = _ := (same_new hL4) _ _ g3
    have w4 : upd H3 L4 (.lst ((["add", "sub", "mul"] : List Str).map V.str)) L4 = some (.lst ((["add", "sub", "mul"] : List Str).map V.str)) := upd_same
    have nL3 : L3 ≠ d ∧ L3 ≠ l := by
      have hL3H : H L3 = none := by
        cases e : H L3 with
        | none => rfl
        | some o =>
          rw [(s1.trans s2) _ _ e] at hL3
          cases hL3
      exact hd.fresh hL3H
    show tCall _ _ _ _ _ (upd H3 L4 (.lst ((["add", "sub", "mul"] : List Str).map V.str))) _
    generalize upd H3 L4 (.lst ((["add", "sub", "mul"] : List Str).map V.str)) = H4 at D4 K4 r4 g4 w4
    refine ⟨_, rfl, d, l, 3, rfl, D4, by decide, by decide, fun u H6 u0 u1 D6 K6 => ?_⟩
    have w6 := K6 _ _ w4 n4.1 n4.2
    have g6 := K6 _ _ g4 nL3.1 nL3.2
    have r6 := r4.keep K6 D4
    obtain ⟨zw, hzw, hzm⟩ : ∃ zw : Str, atI ((["add", "sub", "mul"] : List Str).map V.str) u = some (.str zw) ∧ zw ∈ (["add", "sub", "mul"] : List Str) := by
      have h3 : u = 0 ∨ u = 1 ∨ u = 2 := by omega
      rcases h3 with rfl | rfl | rfl
      · exact ⟨"add", rfl, by decide +kernel⟩
      · exact ⟨"sub", rfl, by decide +kernel⟩
      · exact ⟨"mul", rfl, by decide +kernel⟩
    refine ⟨L4, _, _, _, rfl, rfl, SqL.of w6, hzw, ?_⟩
    refine ⟨_, rfl, ?_⟩
    refine ⟨_, rfl, (by show 4 ≤ sizeLine; decide), fun p11 h11 => ?_⟩
    have S11 : Rs H6 (upd H6 p11 (.tup [.str zw, .int 7, .int 0, .int 1])) [.ref p11] [(zw, [7, 0, 1])] := Rs.row (z := zw) (ns := [7, 0, 1]) (Rs.nil : Rs H6 H6 [] []) h11
    generalize upd H6 p11 (.tup [.str zw, .int 7, .int 0, .int 1]) = G11 at S11
    refine ⟨_, rfl, _, rfl, (by show 4 ≤ sizeLine; decide), fun p12 h12 => ?_⟩
    have S12 : Rs H6 (upd G11 p12 (.tup [.str zw, .int 0, .int cn, .int 1])) [.ref p11, .ref p12] [(zw, [7, 0, 1]), (zw, [0, cn, 1])] := Rs.row (z := zw) (ns := [0, cn, 1]) S11 h12
    generalize upd G11 p12 (.tup [.str zw, .int 0, .int cn, .int 1]) = G12 at S12
    refine ⟨_, rfl, (by show 4 ≤ sizeLine; decide), fun p13 h13 => ?_⟩
    have S13 : Rs H6 (upd G12 p13 (.tup [.str zw, .int 1, .int 0, .int 7])) [.ref p11, .ref p12, .ref p13] [(zw, [7, 0, 1]), (zw, [0, cn, 1]), (zw, [1, 0, 7])] := Rs.row (z := zw) (ns := [1, 0, 7]) S12 h13
    generalize upd G12 p13 (.tup [.str zw, .int 1, .int 0, .int 7]) = G13 at S13
    refine ⟨(by show 3 ≤ sizeLine; decide), fun L5 hL5 => ?_⟩
    have s7 : Same H6 (upd G13 L5 (.lst [V.ref p11, V.ref p12, V.ref p13])) := S13.s.trans (same_new hL5)
    have r7 : RowsAt (upd G13 L5 (.lst [V.ref p11, V.ref p12, V.ref p13])) [V.ref p11, V.ref p12, V.ref p13] [(zw, [7, 0, 1]), (zw, [0, cn, 1]), (zw, [1, 0, 7])] := S13.r.same (same_new hL5)
    have g7 : upd G13 L5 (.lst [V.ref p11, V.ref p12, V.ref p13]) L5 = some (.lst [V.ref p11, V.ref p12, V.ref p13]) := upd_same
    generalize upd G13 L5 (.lst [V.ref p11, V.ref p12, V.ref p13]) = H7 at s7 r7 g7
    refine ⟨L3, L5, _, _, rfl, rfl, s7 _ _ g6, g7, (by show 13 ≤ sizeLine; decide), fun L6 hL6 => ?_⟩
    have s8 : Same H6 (upd H7 L6 (.lst ([V.ref p1, V.ref p2, V.ref p3, V.ref p4, V.ref p5] ++ [V.ref p6, V.ref p7, V.ref p8, V.ref p9, V.ref p10] ++ [V.ref p11, V.ref p12, V.ref p13]))) := s7.trans (same_new hL6)
    have r8 := ((r6.same s7).app r7).same (same_new (o := .lst ([V.ref p1, V.ref p2, V.ref p3, V.ref p4, V.ref p5] ++ [V.ref p6, V.ref p7, V.ref p8, V.ref p9, V.ref p10] ++ [V.ref p11, V.ref p12, V.ref p13])) hL6)
    have g8 : upd H7 L6 (.lst ([V.ref p1, V.ref p2, V.ref p3, V.ref p4, V.ref p5] ++ [V.ref p6, V.ref p7, V.ref p8, V.ref p9, V.ref p10] ++ [V.ref p11, V.ref p12, V.ref p13])) L6 = some (.lst ([V.ref p1, V.ref p2, V.ref p3, V.ref p4, V.ref p5] ++ [V.ref p6, V.ref p7, V.ref p8, V.ref p9, V.ref p10] ++ [V.ref p11, V.ref p12, V.ref p13])) := upd_same
    generalize upd H7 L6 (.lst ([V.ref p1, V.ref p2, V.ref p3, V.ref p4, V.ref p5] ++ [V.ref p6, V.ref p7, V.ref p8, V.ref p9, V.ref p10] ++ [V.ref p11, V.ref p12, V.ref p13])) = H8 at s8 r8 g8
    have D8 := D6.same s8
    have K8 : Keep d l H H8 := (K4.trans K6).trans (Keep.same s8)
    have nL6 : L6 ≠ d ∧ L6 ≠ l := by
      have hL6H : H6 L6 = none := by
        cases e : H6 L6 with
        | none => rfl
        | some o =>
          rw [s7 _ _ e] at hL6
          cases hL6
      exact D6.fresh hL6H
    refine ⟨_, rfl, d, l, 13, rfl, D8, by decide, by decide, fun e H9 e0 e1 D9 K9 => ?_⟩
    have g9 := K9 _ _ g8 nL6.1 nL6.2
    have r9 := r8.keep K9 D8
    have hlt : e.toNat < 13 := by omega
    obtain ⟨v, hv⟩ : ∃ v, ([V.ref p1, V.ref p2, V.ref p3, V.ref p4, V.ref p5] ++ [V.ref p6, V.ref p7, V.ref p8, V.ref p9, V.ref p10] ++ [V.ref p11, V.ref p12, V.ref p13])[e.toNat]? = some v := ⟨_, List.getElem?_eq_getElem (show e.toNat < ([V.ref p1, V.ref p2, V.ref p3, V.ref p4, V.ref p5] ++ [V.ref p6, V.ref p7, V.ref p8, V.ref p9, V.ref p10] ++ [V.ref p11, V.ref p12, V.ref p13]).length from hlt)⟩
    obtain ⟨r, hr1, a, rfl, ha⟩ := r9.row hv
    have hmem : r ∈ strangeL cn zw := List.mem_of_getElem? hr1
    have hc5 : cn ∈ ([3, 4, 5, 6, 7] : List Int) := by
      have : cn = 3 ∨ cn = 4 ∨ cn = 5 ∨ cn = 6 ∨ cn = 7 := by omega
      simpa using this
    have odd := odd_of (strange_all cn hc5 zw hzm r hmem)
    have ei : ((e.toNat : Nat) : Int) = e := Int.toNat_of_nonneg e0
    refine ⟨L6, _, _, _, rfl, rfl, SqL.of g9, by rw [← ei]; exact atI_nat hv, ?_⟩
    exact k r H9 a odd D9 (K8.trans K9) ha
end
end LB
set_option Elab.async false
set_option linter.all false
set_option maxRecDepth 100000
set_option maxHeartbeats 4000000
namespace LB
open PySem PySem.Spec PyProof.Rows L2
theorem mkCode {K : PySem.W.Frag} {C l x dx : Addr} {H : Hp} {xs : List V} {rs : List Rw} {Q : VK} (hx : H x = none) (hdx : H dx = none) (hS : Seq K H l xs) (hR : RowsAt H xs rs) (ok : CodeOk rs)
    (k : ∀ H' p, Same H H' → CodeAt K C H' x p rs → Q .non H') : spCodeInit K C (.ref x :: ([.ref l] ++ [])) (upd (upd H dx (.own x)) x (.ins C dx [])) Q E0 := by
  have s2 : Same H (upd (upd H dx (.own x)) x (.ins C dx [])) := fun b o e => by
    rw [upd_ne (ne_of_none e hx), upd_ne (ne_of_none e hdx)]
    exact e
  refine ⟨x, dx, l, xs, rs, rfl, upd_same, hS.same s2, hR.same s2, ok, fun H2 p2 s3 hx2 hp2 => ?_⟩
  have s4 : Same H H2 := Same.made hx hdx s3
  exact k H2 p2 s4 ⟨dx, xs, hx2, hp2, hR.same s4⟩
theorem mkMach {C x dx : Addr} {H : Hp} {W R : Int} {Q : VK} (hx : H x = none) (hdx : H dx = none) (k : ∀ H', Same H H' → MachAt C H' x W R → Q .non H') : spMachInit C (.ref x :: ([.int W, .int R] ++ [])) (upd (upd H dx (.own x)) x (.ins C dx [])) Q E0 :=
  ⟨x, dx, W, R, rfl, upd_same, fun H2 s3 hx2 => k H2 (Same.made hx hdx s3) ⟨dx, hx2⟩⟩
theorem codeOk_nil : CodeOk [] := ⟨by decide, fun i r h => by simp at h, fun i r n h => by simp at h⟩
end LB
set_option Elab.async false
set_option linter.all false
set_option maxRecDepth 100000
set_option maxHeartbeats 4000000
namespace LB
open PySem PySem.Spec PyProof.Rows L2
open C8 (pss_cut tCut)
/-! ### max of a new list -/
def rMaxT : List V → Hp → VK → Prop := fun vs H Q => ∃ (p : Addr) (ns : List Int), vs = [.ref p] ∧ H p = some (.lst (ns.map V.int)) ∧ 0 < ns.length ∧ ∀ M, M ∈ ns → (∀ a ∈ ns, a ≤ M) → Q (.int M) H
theorem call_maxT {X : Cx} (hc : X.calm = true) : CallR X (.builtin "max") rMaxT := fun pins s σ H vs us Q I r h => by
  obtain ⟨p, ns, e, hp, hne, q⟩ := h
  exact call_maxL hc pins s σ H vs us Q I r ⟨p, ns, e, SqL.of hp, hne, q⟩
theorem xd_word (i : Int) : ([(("row" : Str), V.int i), (("word" : Str), V.str "register")] : List (Str × V)).lookup ("word" : Str) = some (.str "register") := by kernel_rfl
theorem xd_row (i : Int) : ([(("row" : Str), V.int i), (("word" : Str), V.str "register")] : List (Str × V)).lookup ("row" : Str) = some (.int i) := by kernel_rfl
section
variable {P : Program} {w : World} {K : PySem.W.Frag} {mg : Str → Option Value} {base : Heap}
/-- the first row that does not fit R registers -/
def Wrong (R : Int) (rs : List Rw) (i : Nat) : Prop := ∃ r, rs[i]? = some r ∧ big R r = true ∧ ∀ (j : Nat) q, j < i → rs[j]? = some q → big R q = false
def spTold (K : PySem.W.Frag) (CM CC : Addr) : Sp := fun vs H Q _ => ∃ (mc c p pin pf : Addr) (W R : Nat) (rs : List Rw) (i : Nat), vs = [.ref mc, .ref c, .ref pin, .ref pf] ∧ MachAt CM H mc W R ∧ CodeAt K CC H c p rs ∧ CodeOk rs ∧ W ≤ 64 ∧ (0 < R ∧ R ≤ 100) ∧ Wrong R rs i ∧
  ∀ H' p, Same H H' → H' p = some (.tup [.str "register", .int i]) → Q (.ref p) H'
abbrev s_law_told : Stmt := top 41
theorem sc_law_told : FnScope ["_law_machine", "_law_code", "_law_inputs", "_law_fills", "_law_found", "e"] ["_law_machine", "_law_code", "_law_inputs", "_law_fills"] (defScope s_law_told) := ⟨rfl, rfl, rfl, by decide +kernel, rfl, by decide +kernel, by decide +kernel⟩
theorem ok_law_told {CM CC CI : Addr} (F : TopFn K mg "_law_told" s_law_told ["_law_machine", "_law_code", "_law_inputs", "_law_fills"]) (xc : ExcCls K mg "InvalidCode" CI) (nW : PySem.W.findIn K (.ref CI) "word" = some none) (nR : PySem.W.findIn K (.ref CI) "row" = some none)
    (D_run : DefX P w K mg base 5 "run" ["machine", "code", "inputs", "fills"] [] (spRun K CM CC CI)) : DefOk P w K mg base 6 "_law_told" ["_law_machine", "_law_code", "_law_inputs", "_law_fills"] (spTold K CM CC) := by
  refine F.ok sc_law_told (fun vs H Q E h => ?_) (fun f cdv A outer s H vs Q E hr h => ?_)
  · obtain ⟨mc, c, p, pin, pf, W, R, rs, i, rfl, _⟩ := h
    rfl
  · obtain ⟨mc, c, p, pin, pf, W, R, rs, i, rfl, hM, hC, ok, hW, hR1, ⟨r, hr1, hb, hj⟩, k⟩ := h
    refine ⟨_, (pss_cons (ps_set (i := 4) sc_law_told.nd rfl (.inl rfl) pe_non)
    (pss_cons (ps_tryE (i := 5) (Wout := fun _ _ _ _ => False) rfl rfl sc_law_told.nd rfl rfl ⟨rfl, by decide, Or.inl xc.g⟩ takes0)
    (pss_one (ps_ret (pv 4))))), ?_⟩
    refine fun pn xe tk po => ⟨_, (pss_one (ps_set (i := 4) sc_law_told.nd rfl (.inl rfl) (pe_fnX D_run tk (hr.mono (by decide)) rfl (pa_cons (pv 0) (pa_cons (pv 1) (pa_cons (pv 2) (pa_cons (pv 3) pa_nil))))))), ?_⟩
    refine ⟨_, rfl, _, rfl, _, rfl, _, rfl, mc, c, p, pin, pf, W, R, rs, rfl, hM, hC, ok, hW, hR1, .inr ⟨i, r, hr1, hb, hj, fun d H1 s1 hd hx => ?_⟩⟩
    refine ⟨true, xc.me, fun _ a ha oe pn' hz hf => ⟨_, (pss_one (ps_ret (pe_tup (pa_cons (pe_xf xc.xf nW hz hf (pv 5)) (pa_cons (pe_xf xc.xf nR hz hf (pv 5)) pa_nil))))), ?_⟩, fun q => by cases q⟩
    refine ⟨_, rfl, rfl, rfl, d, _, _, rfl, hx, xd_word _, _, rfl, rfl, rfl, d, _, _, rfl, hx, xd_row _, (by show 2 ≤ sizeLine; decide), fun p2 hp2 => ?_⟩
    exact k _ p2 (s1.trans (same_new hp2)) upd_same
/-! ### rows that are spoilt -/
structure Fine (cn : Int) (r : Rw) : Prop where
  ok : RowOk r.1 r.2
  few : r.2.length ≤ 10
  small : big cn r = false
structure Fine0 (cn : Int) (r : Rw) : Prop extends Fine cn r where
  skip : ∀ n, r.1 = "skip" → r.2[3]? = some n → n = 0
def noSkip (r : Rw) : Rw := if r.1 = "skip" then (r.1, r.2.take 3 ++ [0]) else r
theorem noSkip_fine {cn : Int} {r : Rw} (h : Fine cn r) : Fine0 cn (noSkip r) := by
  unfold noSkip
  split
  · rename_i hz
    obtain ⟨z, ns⟩ := r
    have hz : z = "skip" := hz
    subst hz
    obtain ⟨a, m, c, n, e, hc⟩ := h.ok.sk rfl
    have e : ns = [a, m, c, n] := e
    subst e
    obtain ⟨fs, hfs, lfs, hw⟩ := h.ok.ex
    have efs : fs = (["register", "modulus", "rest", "count"] : List Str) := forms_skip _ hfs rfl
    subst efs
    refine ⟨⟨⟨⟨_, hfs, rfl, fun i f k hf hk => ?_⟩, fun _ => ⟨a, m, c, 0, rfl, hc⟩⟩, (by show 4 ≤ 10; decide), ?_⟩, fun n' _ hn => (Option.some.inj hn).symm⟩
    · match i, hf, hk with
      | 0, hf, hk => exact hw 0 f k hf hk
      | 1, hf, hk => exact hw 1 f k hf hk
      | 2, hf, hk => exact hw 2 f k hf hk
      | 3, hf, hk =>
        have e1 : ("count" : Str) = f := Option.some.inj hf
        have e2 : (0 : Int) = k := Option.some.inj hk
        subst e1
        subst e2
        exact within_count (by omega) (by omega)
      | i + 4, hf, hk => simp at hf
    · have := h.small
      unfold big at this ⊢
      have e1 : regsR (("skip" : Str), [a, m, c, n]) = [a] := regs_skip a m c n
      have e2 : regsR (("skip" : Str), [a, m, c, n].take 3 ++ [0]) = [a] := regs_skip a m c 0
      rw [e1] at this
      rw [e2]
      exact this
  · rename_i hz
    exact ⟨h, fun n e => absurd e hz⟩
/-- the rows with two strange ones within -/
def wrongL (less : List Rw) (at_ : Nat) (odd : Rw) : List Rw := less.take at_ ++ [odd, ("set", [7, 1])] ++ less.drop at_
def hiddenL (wr : List Rw) : List Rw := [(("skip" : Str), [0, 1, 0, (wr.length : Int)])] ++ wr ++ [(("left" : Str), [0, 0])]
theorem set7_ok : RowOk "set" [7, 1] := rowOk_of (by decide +kernel)
theorem left0_ok : RowOk "left" [0, 0] := rowOk_of (by decide +kernel)
theorem wrong_mem {less : List Rw} {at_ : Nat} {odd r : Rw} {cn : Int} (hl : ∀ q ∈ less, Fine0 cn q) (ho : Odd cn odd) (h : r ∈ wrongL less at_ odd) : RowOk r.1 r.2 ∧ r.2.length ≤ 10 ∧ ∀ n, r.1 = "skip" → r.2[3]? = some n → n = 0 := by
  unfold wrongL at h
  rcases List.mem_append.mp h with h | h
  · rcases List.mem_append.mp h with h | h
    · have q := hl r (List.mem_of_mem_take h)
      exact ⟨q.ok, q.few, q.skip⟩
    · have : r = odd ∨ r = (("set" : Str), [(7 : Int), 1]) := by simpa using h
      rcases this with rfl | rfl
      · exact ⟨ho.ok, ho.few, ho.skip⟩
      · exact ⟨set7_ok, (by show 2 ≤ 10; decide), fun n e => absurd e (by decide +kernel)⟩
  · have q := hl r (List.mem_of_mem_drop h)
    exact ⟨q.ok, q.few, q.skip⟩
theorem wrong_len {less : List Rw} {at_ : Nat} {odd : Rw} (h : at_ ≤ less.length) : (wrongL less at_ odd).length = less.length + 2 := by
  unfold wrongL
  rw [List.length_append, List.length_append, List.length_take, List.length_drop]
  simp
  omega
theorem wrong_code {less : List Rw} {at_ : Nat} {odd : Rw} {cn : Int} (hl : ∀ q ∈ less, Fine0 cn q) (ho : Odd cn odd) (ha : at_ ≤ less.length) (hf : less.length ≤ 900) : CodeOk (wrongL less at_ odd) := by
  refine ⟨by rw [wrong_len ha]; omega, fun i r hr => ?_, fun i r n hr hz hn => ?_⟩
  · have := wrong_mem hl ho (List.mem_of_getElem? hr)
    exact ⟨this.1, this.2.1⟩
  · have := (wrong_mem hl ho (List.mem_of_getElem? hr)).2.2 n hz hn
    have := lt_of_get hr
    omega
theorem wrong_at {less : List Rw} {at_ : Nat} {odd : Rw} {cn : Int} (hl : ∀ q ∈ less, Fine0 cn q) (ho : Odd cn odd) (ha : at_ ≤ less.length) : Wrong cn (wrongL less at_ odd) at_ := by
  have el : (less.take at_).length = at_ := by rw [List.length_take]; omega
  refine ⟨odd, ?_, ho.big, fun j q hj hq => ?_⟩
  · unfold wrongL
    rw [List.append_assoc, List.getElem?_append_right (by omega), el, Nat.sub_self]
    rfl
  · unfold wrongL at hq
    rw [List.append_assoc, List.getElem?_append_left (by omega)] at hq
    exact (hl q (List.mem_of_mem_take (List.mem_of_getElem? hq))).small
theorem skip_ok {n : Int} (h0 : 0 ≤ n) (h1 : n ≤ 1000) : RowOk "skip" [0, 1, 0, n] := by
  refine ⟨⟨_, skip_mem, rfl, fun i f k hf hk => ?_⟩, fun _ => ⟨0, 1, 0, n, rfl, by decide⟩⟩
  match i, hf, hk with
  | 0, hf, hk => cases hf; cases hk; decide +kernel
  | 1, hf, hk => cases hf; cases hk; decide +kernel
  | 2, hf, hk => cases hf; cases hk; decide +kernel
  | 3, hf, hk => cases hf; cases hk; exact within_count h0 h1
  | i + 4, hf, hk => simp at hf
theorem hidden_code {less : List Rw} {at_ : Nat} {odd : Rw} {cn : Int} (hl : ∀ q ∈ less, Fine0 cn q) (ho : Odd cn odd) (ha : at_ ≤ less.length) (hf : less.length ≤ 900) : CodeOk (hiddenL (wrongL less at_ odd)) := by
  have wl := wrong_len (odd := odd) ha
  have hll : (hiddenL (wrongL less at_ odd)).length = less.length + 4 := by
    unfold hiddenL
    rw [List.length_append, List.length_append, wl]
    simp
    omega
  have mem : ∀ (i : Nat) r, (hiddenL (wrongL less at_ odd))[i]? = some r → (i = 0 ∧ r = (("skip" : Str), [0, 1, 0, ((wrongL less at_ odd).length : Int)])) ∨ (RowOk r.1 r.2 ∧ r.2.length ≤ 10 ∧ ∀ n, r.1 = "skip" → r.2[3]? = some n → n = 0) := fun i r hr => by
    cases i with
    | zero => exact .inl ⟨rfl, (Option.some.inj hr).symm⟩
    | succ i =>
      have hr : (wrongL less at_ odd ++ [(("left" : Str), [(0 : Int), 0])])[i]? = some r := hr
      rcases List.mem_append.mp (List.mem_of_getElem? hr) with h | h
      · exact .inr (wrong_mem hl ho h)
      · rw [List.mem_singleton.mp h]
        exact .inr ⟨left0_ok, (by show 2 ≤ 10; decide), fun n e => absurd e (by decide +kernel)⟩
  refine ⟨by rw [hll]; omega, fun i r hr => ?_, fun i r n hr hz hn => ?_⟩
  · rcases mem i r hr with ⟨_, rfl⟩ | q
    · exact ⟨skip_ok (by omega) (by rw [wl]; omega), (by show 4 ≤ 10; decide)⟩
    · exact ⟨q.1, q.2.1⟩
  · rcases mem i r hr with ⟨rfl, rfl⟩ | q
    · have e : ((wrongL less at_ odd).length : Int) = n := Option.some.inj hn
      rw [hll]
      rw [wl] at e
      omega
    · have := q.2.2 n hz hn
      have := lt_of_get hr
      omega
theorem hidden_at {less : List Rw} {at_ : Nat} {odd : Rw} {cn : Int} (hl : ∀ q ∈ less, Fine0 cn q) (ho : Odd cn odd) (ha : at_ ≤ less.length) (hc : 3 ≤ cn) : Wrong cn (hiddenL (wrongL less at_ odd)) (at_ + 1) := by
  obtain ⟨r, h1, h2, h3⟩ := wrong_at hl ho ha
  refine ⟨r, ?_, h2, fun j q hj hq => ?_⟩
  · show (wrongL less at_ odd ++ [(("left" : Str), [(0 : Int), 0])])[at_]? = some r
    rw [List.getElem?_append_left (lt_of_get h1)]
    exact h1
  · cases j with
    | zero =>
      have e : (("skip" : Str), [0, 1, 0, ((wrongL less at_ odd).length : Int)]) = q := Option.some.inj hq
      subst e
      unfold big
      rw [regs_skip]
      simp
      omega
    | succ j =>
      have hq : (wrongL less at_ odd ++ [(("left" : Str), [(0 : Int), 0])])[j]? = some q := hq
      rw [List.getElem?_append_left (by have := lt_of_get h1; omega)] at hq
      exact h3 j q (by omega) hq
theorem RowsAt.take {H : Hp} {vs : List V} {rs : List Rw} (h : RowsAt H vs rs) (k : Nat) : RowsAt H (vs.take k) (rs.take k) := by
  refine ⟨by rw [List.length_take, List.length_take, h.len], fun i v r h1 h2 => ?_⟩
  rw [List.getElem?_take] at h1 h2
  split at h1
  · rename_i hi
    rw [if_pos hi] at h2
    exact h.get i v r h1 h2
  · cases h1
theorem RowsAt.drop {H : Hp} {vs : List V} {rs : List Rw} (h : RowsAt H vs rs) (k : Nat) : RowsAt H (vs.drop k) (rs.drop k) := by
  refine ⟨by rw [List.length_drop, List.length_drop, h.len], fun i v r h1 h2 => ?_⟩
  rw [List.getElem?_drop] at h1 h2
  exact h.get _ v r h1 h2
end
end LB
set_option Elab.async false
set_option linter.all false
set_option maxRecDepth 100000
set_option maxHeartbeats 4000000
namespace LB
open PySem PySem.Spec PyProof.Rows L2
open C8 (pss_cut tCut)
theorem dp_reg {K : PySem.W.Frag} {H : Hp} {p : Addr} {i : Int} (h : H p = some (.tup [.str "register", .int i])) : Dp K H (.ref p) (.tuple [.str "register", .int i]) := .tup (SqT.of h) (.cons (.str _) (.cons (.int _) .nil))
theorem shaped_reg (i : Int) : SeqAt.shaped (.tuple [.str "register", .int i]) = true := by
  refine (shaped_seq ?_ ?_).1
  · simp [PyData.canLayAll0, PyData.canLay0]
    decide +kernel
  · simp [PyData.depthAll, PyData.depth]
theorem eqv_reg (i : Int) : PyData.eqv (.tuple [.str "register", .int i]) (.tuple [.str "register", .int i]) = true := SeqAt.eqv_refl _ (SeqAt.canLay_of_shaped (shaped_reg i))
theorem noSkip_not {r : Rw} (h : ¬ r.1 = "skip") : noSkip r = r := if_neg h
section
variable {P : Program} {w : World} {K : PySem.W.Frag} {mg : Str → Option Value} {base : Heap}
def spStrangeRight (K : PySem.W.Frag) : Sp := fun vs H Q _ => ∃ (d l lr : Addr) (W R : Nat) (xs : List V) (rs : List Rw), vs = [.ref d, .ref lr, .int W] ∧ Deal d l H ∧ (lr ≠ d ∧ lr ≠ l) ∧ H lr = some (.lst xs) ∧ RowsAt H xs rs ∧ DrawnRows R rs ∧ R ≤ 8 ∧ rs.length ≤ 900 ∧ W ≤ 64 ∧
  ∀ H', Deal d l H' → Keep d l H H' → Q (.bl true) H'
abbrev s_law_strange_right : Stmt := top 43
theorem sc_law_strange_right : FnScope ["_law_deal_here", "_law_rows_here", "_law_wide", "_law_count", "_law_some", "_law_row_here", "_law_at", "_law_less", "_law_wrong", "_law_hidden", "_law_machine"] ["_law_deal_here", "_law_rows_here", "_law_wide"] (defScope s_law_strange_right) := ⟨rfl, rfl, rfl, by decide +kernel, rfl, by decide +kernel, by decide +kernel⟩
theorem ok_law_strange_right {CM CC : Addr} (F : TopFn K mg "_law_strange_right" s_law_strange_right ["_law_deal_here", "_law_rows_here", "_law_wide"]) (T : Txt K mg) (C_Machine : OwnCls K mg "Machine" CM) (C_Code : OwnCls K mg "Code" CC)
    (D_law_draw : DefOk P w K mg base 1 "_law_draw" ["_law_deal_here", "_law_many"] spDraw) (D_law_numbers : DefOk P w K mg base 1 "_law_numbers" ["_law_row_here"] spNumbers) (D_law_strange : DefOk P w K mg base 2 "_law_strange" ["_law_deal_here", "_law_count"] spStrange)
    (D_law_told : DefOk P w K mg base 6 "_law_told" ["_law_machine", "_law_code", "_law_inputs", "_law_fills"] (spTold K CM CC)) (D_Machine_init : MethOk P w K mg base 1 CM "__init__" ["self", "width", "registers"] (spMachInit CM)) (D_Code_init : MethOk P w K mg base 5 CC "__init__" ["self", "rows"] (spCodeInit K CC)) :
    DefOk P w K mg base 7 "_law_strange_right" ["_law_deal_here", "_law_rows_here", "_law_wide"] (spStrangeRight K) := by
  refine F.ok sc_law_strange_right (fun vs H Q E h => ?_) (fun f cdv A outer s H vs Q E hr h => ?_)
  · obtain ⟨d, l, lr, W, R, xs, rs, rfl, _⟩ := h
    rfl
  · obtain ⟨d, l, lr, W, R, xs, rs, rfl, hd, nlr, hlr, hR, hdr, hR8, few, hW, k⟩ := h
    refine ⟨_, (pss_cons (ps_set (i := 3) sc_law_strange_right.nd rfl (.inr rfl) (pe_op op_add pe_int (pe_fn D_law_draw (hr.mono (by decide)) rfl (pa_cons (pv 0) (pa_cons pe_int pa_nil)))))
    (pss_cons (ps_setLc (i := 4) (own := [("_law_row_here", 5)]) (g := gName 5) rfl sc_law_strange_right.nd rfl rfl (sw_true rfl rfl rfl (by decide +kernel)) (pi_list (pv 1)) (blkOk_by (own := [("_law_row_here", 5)]) (N := ["_law_deal_here", "_law_rows_here", "_law_wide", "_law_count", "_law_some", "_law_row_here", "_law_at", "_law_less", "_law_wrong", "_law_hidden", "_law_machine"]) (sc := defScope s_law_strange_right) (by decide +kernel)) (fun _ _ _ _ _ => (pg_name (i := 5) sc_law_strange_right.nd rfl (.inl rfl))) (fun _ _ _ _ _ => (pts_one (pt_cmpR op_lt (pe_callB (call_maxT rfl) (by rfl) T.b_max (by decide +kernel) (pa_cons (pe_fn D_law_numbers (hr.mono (by decide)) rfl (pa_cons (pv 5) pa_nil)) pa_nil)) (pv 3) (nomark _)))) (fun _ _ _ _ _ => (pv 5)))
    (pss_cons (ps_set (i := 6) sc_law_strange_right.nd rfl (.inl rfl) (pe_fn D_law_draw (hr.mono (by decide)) rfl (pa_cons (pv 0) (pa_cons (pe_op op_add (pe_callB call_len_seq (by rfl) T.b_len (by decide +kernel) (pa_cons (pv 4) pa_nil)) pe_int) pa_nil))))
    (pss_cons (ps_setLc (i := 7) (own := [("_law_row_here", 5)]) (g := gName 5) (te := tIf (tTest (tOp rEq (tOp (rIxT K) (tVar 5) (tC (.int 0))) (tC (.str "skip")))) (tOp (rCatT K) (tSl (rSlT K) (tVar 5) tNoPart (tPart (tC (.int 4)))) (tTup (tCons (tC (.int 0)) tNil))) (tVar 5)) (tt := tYes) rfl sc_law_strange_right.nd rfl rfl (sw_true rfl rfl rfl (by decide +kernel)) (pi_list (pv 4)) (blkOk_by (own := [("_law_row_here", 5)]) (N := ["_law_deal_here", "_law_rows_here", "_law_wide", "_law_count", "_law_some", "_law_row_here", "_law_at", "_law_less", "_law_wrong", "_law_hidden", "_law_machine"]) (sc := defScope s_law_strange_right) (by decide +kernel)) (fun _ _ _ _ _ => (pg_name (i := 5) sc_law_strange_right.nd rfl (.inl rfl))) (fun _ _ _ _ _ => pts_nil) (fun _ _ _ _ _ => (pe_ifExp (pt_cmpR op_eq (pe_ix ix_tup (pv 5) pe_int (fun _ _ => rfl)) pe_str (nomark _)) (pe_op op_catT (pe_slice sl_tup (pv 5) po_none (po_some pe_int)) (pe_tup (pa_cons pe_int pa_nil))) (pv 5))))
    (pss_cons (ps_set (i := 8) sc_law_strange_right.nd rfl (.inl rfl) (pe_op op_cat (pe_op op_cat (pe_slice sl_list (pv 7) po_none (po_some (pv 6))) (pe_lst (pa_cons (pe_fn D_law_strange (hr.mono (by decide)) rfl (pa_cons (pv 0) (pa_cons (pv 3) pa_nil))) (pa_cons (pe_tup (pa_cons pe_str (pa_cons pe_int (pa_cons pe_int pa_nil)))) pa_nil)))) (pe_slice sl_list (pv 7) (po_some (pv 6)) po_none)))
    (pss_cons (ps_set (i := 9) sc_law_strange_right.nd rfl (.inl rfl) (pe_op op_cat (pe_op op_cat (pe_lst (pa_cons (pe_tup (pa_cons pe_str (pa_cons pe_int (pa_cons pe_int (pa_cons pe_int (pa_cons (pe_callB call_len_seq (by rfl) T.b_len (by decide +kernel) (pa_cons (pv 8) pa_nil)) pa_nil)))))) pa_nil)) (pv 8)) (pe_lst (pa_cons (pe_tup (pa_cons pe_str (pa_cons pe_int (pa_cons pe_int pa_nil)))) pa_nil))))
    (pss_cons (ps_set (i := 10) sc_law_strange_right.nd rfl (.inl rfl) (pe_mk C_Machine D_Machine_init (hr.mono (by decide)) rfl (pa_cons (pv 2) (pa_cons (pv 3) pa_nil))))
    (pss_cons (ps_if (pt_cmpR (op_neD hr.units) (pe_fn D_law_told (hr.mono (by decide)) rfl (pa_cons (pv 10) (pa_cons (pe_mk C_Code D_Code_init (hr.mono (by decide)) rfl (pa_cons (pv 8) pa_nil)) (pa_cons (pe_lst (pa_cons pe_int pa_nil)) (pa_cons (pe_tup pa_nil) pa_nil))))) (pe_tup (pa_cons pe_str (pa_cons (pv 6) pa_nil))) (nomark _)) (pss_one (ps_ret pe_bl)) pss_nil)
    (pss_one (ps_ret (pe_cmpR (op_eqD hr.units) (pe_fn D_law_told (hr.mono (by decide)) rfl (pa_cons (pv 10) (pa_cons (pe_mk C_Code D_Code_init (hr.mono (by decide)) rfl (pa_cons (pv 9) pa_nil)) (pa_cons (pe_lst (pa_cons pe_int pa_nil)) (pa_cons (pe_tup pa_nil) pa_nil))))) (pe_tup (pa_cons pe_str (pa_cons (pe_op op_add (pv 6) pe_int) pa_nil))) (nomark _)))))))))))), ?_⟩
    refine ⟨_, rfl, d, l, 5, rfl, hd, by decide, by decide, fun u H1 u0 u1 D1 K1 => ⟨_, _, rfl, rfl, ?_⟩⟩
    obtain ⟨cn, ecn, hcn⟩ : ∃ cn : Nat, ((cn : Nat) : Int) = 3 + u ∧ (3 ≤ (cn : Int) ∧ (cn : Int) ≤ 7) := ⟨(3 + u).toNat, by omega, by omega⟩
    have lr1 := K1 _ _ hlr nlr.1 nlr.2
    have hR1 := hR.keep K1 hd
    -- the rows that fit
    refine ⟨_, rfl, lr, rfl, ⟨_, SqL.of lr1⟩, fun D2 hD2 => ?_⟩
    refine lc_list (K := K) (a := lr) (xs := xs) (fun i H' => ∃ (ys : List V) (qs : List Rw), Same H1 H' ∧ H' D2 = some (.lst ys) ∧ RowsAt H' ys qs ∧ qs.length ≤ i ∧ ∀ q ∈ qs, Fine cn q) ⟨[], [], same_new hD2, upd_same, RowsAt.nil, Nat.zero_le _, fun q hq => by simp at hq⟩ (fun i H' _ ⟨_, _, s2, _⟩ => s2.seq (SqL.of lr1)) ?_ ?_
    · rintro i x H2 hi ⟨ys, qs, s2, d2, r2, l2, f2⟩
      obtain ⟨r, hr1, a, rfl, ha⟩ := hR1.row hi
      have hdw := hdr i r hr1
      have hok := hdw.ok (by omega) (by omega)
      have fit : Fit R r.1 r.2 := hdw.fit
      refine ⟨rfl, ?_⟩
      refine ⟨_, rfl, a, R, r.1, r.2, rfl, s2 _ _ ha, fit, fun H3 D3 s3 hD3 => ?_⟩
      refine ⟨D3, _, rfl, hD3, hok.1.regs, fun M hm1 hm2 => ?_⟩
      refine ⟨_, rfl, _, _, rfl, rfl, _, rfl, ?_⟩
      have eb := big_max (R := (cn : Int)) hm1 hm2
      have s23 := s2.trans s3
      refine ite2 (fun h => ?_) (fun h => ?_)
      · have h : M < 3 + u := of_decide_eq_true h
        have hs : big (cn : Int) r = false := by
          rw [← eb]
          exact decide_eq_false (by omega)
        refine ⟨_, rfl, ys, s3 _ _ d2, szK (by rw [r2.len]; have := lt_of_get hr1; omega), ys ++ [.ref a], qs ++ [r], same_mut s23 hD2, upd_same, ((r2.same s3).snoc ⟨a, rfl, s23 _ _ ha⟩).mut (s3 _ _ d2), ?_, fun q hq => ?_⟩
        · rw [List.length_append]
          exact Nat.succ_le_succ l2
        · rcases List.mem_append.mp hq with z | z
          · exact f2 q z
          · rw [List.mem_singleton.mp z]
            exact ⟨hok.1, hok.2, hs⟩
      · exact ⟨ys, qs, s23, s3 _ _ d2, r2.same s3, Nat.le_succ_of_le l2, f2⟩
    rintro H2 ⟨ys, qs, s2, d2, r2, l2, f2⟩
    rw [hR.len] at l2
    have D2' := D1.same s2
    have K2 := K1.trans (Keep.same s2)
    have nD2 := D1.fresh hD2
    -- at
    refine ⟨_, rfl, _, rfl, D2, _, rfl, .inl (SqL.of d2), _, _, rfl, rfl, d, l, _, rfl, D2', by omega, by rw [r2.len]; omega, fun at0 H3 a0 a1 D3 K3 => ?_⟩
    rw [r2.len] at a1
    obtain ⟨at_, rfl⟩ : ∃ at_ : Nat, at0 = at_ := ⟨at0.toNat, by omega⟩
    have d3 := K3 _ _ d2 nD2.1 nD2.2
    have r3 := r2.keep K3 D2'
    have K13 := K2.trans K3
    -- the rows without skips
    refine ⟨_, rfl, D2, rfl, ⟨_, SqL.of d3⟩, fun D4 hD4 => ?_⟩
    refine lc_list (K := K) (a := D2) (xs := ys) (fun i H' => ∃ (zs : List V), Same H3 H' ∧ H' D4 = some (.lst zs) ∧ RowsAt H' zs ((qs.take i).map noSkip)) ⟨[], same_new hD4, upd_same, by simpa using RowsAt.nil⟩ (fun i H' _ ⟨_, s4, _⟩ => s4.seq (SqL.of d3)) ?_ ?_
    · rintro i x H4 hi ⟨zs, s4, d4, r4⟩
      obtain ⟨r, hr1, a, rfl, ha⟩ := r3.row hi
      have fr := f2 r (List.mem_of_getElem? hr1)
      have h0 : atI (rowL r.1 r.2) 0 = some (.str r.1) := atI_nat (j := 0) rfl
      have ha4 := s4 _ _ ha
      have hzl : zs.length < sizeLine := szK (by rw [r4.len, List.length_map, List.length_take]; omega)
      refine ⟨rfl, ?_⟩
      refine ⟨_, rfl, a, _, _, _, rfl, rfl, SqT.of ha4, h0, rfl, _, rfl, ?_⟩
      refine ite2 (fun h => ?_) (fun h => ?_)
      · have hz : r.1 = "skip" := V.str.inj (of_decide_eq_true h)
        obtain ⟨z, ns⟩ := r
        have hz : z = "skip" := hz
        subst hz
        obtain ⟨b, m, c, n, e, hc⟩ := fr.ok.sk rfl
        have e : ns = [b, m, c, n] := e
        subst e
        refine ⟨_, rfl, _, rfl, a, _, rfl, SqT.of ha4, part_to (k := 4) (show 4 < 5 by decide), fun p1 hp1 => ?_⟩
        rw [show cutV (rowL "skip" [b, m, c, n]) none (some 4) = [.str "skip", .int b, .int m, .int c] from cut_to (rowL "skip" [b, m, c, n]) 4 (show 4 ≤ 5 by decide)]
        have s5 := s4.trans (same_new (o := .tup [.str "skip", .int b, .int m, .int c]) hp1)
        have g5 : upd H4 p1 (.tup [.str "skip", .int b, .int m, .int c]) p1 = some (.tup [.str "skip", .int b, .int m, .int c]) := upd_same
        have d5 : upd H4 p1 (.tup [.str "skip", .int b, .int m, .int c]) D4 = _ := (same_new hp1) _ _ d4
        have r5 := r4.same (same_new (o := .tup [.str "skip", .int b, .int m, .int c]) hp1)
        generalize upd H4 p1 (.tup [.str "skip", .int b, .int m, .int c]) = H5 at s5 g5 d5 r5
        refine ⟨(by show 1 ≤ sizeLine; decide), fun p2 hp2 => ?_⟩
        refine ⟨p1, p2, _, _, rfl, rfl, SqT.of ((same_new hp2) _ _ g5), SqT.of upd_same, (by intro q; cases q), (by show 5 ≤ sizeLine; decide), (fun q => by cases q), fun _ p3 hp3 => ?_⟩
        have t6 := (same_new (o := .tup [.int 0]) hp2).trans (same_new (o := .tup ([.str "skip", .int b, .int m, .int c] ++ [.int 0])) hp3)
        refine ⟨zs, t6 _ _ d5, hzl, zs ++ [.ref p3], same_mut (s5.trans t6) hD4, upd_same, ?_⟩
        have en : (qs.take (i + 1)).map noSkip = (qs.take i).map noSkip ++ [(("skip" : Str), [b, m, c, 0])] := by
          rw [take_more hr1, List.map_append]
          rfl
        rw [en]
        exact ((r5.same t6).snoc ⟨p3, rfl, upd_same⟩).mut (t6 _ _ d5)
      · have hz : ¬ r.1 = "skip" := fun e => h (decide_eq_true (by rw [e]))
        have en : (qs.take (i + 1)).map noSkip = (qs.take i).map noSkip ++ [r] := by
          rw [take_more hr1, List.map_append, List.map_singleton, noSkip_not hz]
        refine ⟨_, rfl, zs, d4, hzl, zs ++ [.ref a], same_mut s4 hD4, upd_same, ?_⟩
        rw [en]
        exact (r4.snoc ⟨a, rfl, ha4⟩).mut d4
    rintro H4 ⟨zs, s4, d4, r4⟩
    rw [r3.len, List.take_length] at r4
    have D4' := D3.same s4
    have K4 := K13.trans (Keep.same s4)
    have nD4 := D3.fresh hD4
    have fl : ∀ q ∈ qs.map noSkip, Fine0 cn q := fun q hq => by
      obtain ⟨r, hr, rfl⟩ := List.mem_map.mp hq
      exact noSkip_fine (f2 r hr)
    have ll : (qs.map noSkip).length = qs.length := List.length_map ..
    generalize qs.map noSkip = ls at r4 fl ll
    have hat : at_ ≤ ls.length := by omega
    have hzl : at_ ≤ zs.length := by rw [r4.len]; exact hat
    -- wrong
    refine ⟨_, rfl, _, rfl, _, rfl, D4, _, rfl, SqL.of d4, fun L1 hL1 => ?_⟩
    rw [cut_to zs at_ hzl]
    have s5 := same_new (o := .lst (zs.take at_)) hL1
    have D5 := D4'.same s5
    have K5 := K4.trans (Keep.same s5)
    have nL1 := D4'.fresh hL1
    have g5 : upd H4 L1 (.lst (zs.take at_)) L1 = some (.lst (zs.take at_)) := upd_same
    have d5 := s5 _ _ d4
    have r5 := r4.same s5
    generalize upd H4 L1 (.lst (zs.take at_)) = H5 at D5 K5 g5 d5 r5
    refine ⟨_, rfl, _, rfl, d, l, (cn : Int), (by rw [ecn]; rfl), D5, hcn, fun od H6 po odd D6 K6 hpo => ?_⟩
    have g6 := K6 _ _ g5 nL1.1 nL1.2
    have d6 := K6 _ _ d5 nD4.1 nD4.2
    have r6 := r5.keep K6 D5
    have K6' := K5.trans K6
    refine ⟨(by show 3 ≤ sizeLine; decide), fun p7 hp7 => ?_⟩
    refine ⟨(by show 2 ≤ sizeLine; decide), fun L8 hL8 => ?_⟩
    have s8 := (same_new (o := .tup [.str "set", .int 7, .int 1]) hp7).trans (same_new (o := .lst [.ref po, .ref p7]) hL8)
    have g8 : upd (upd H6 p7 (.tup [.str "set", .int 7, .int 1])) L8 (.lst [.ref po, .ref p7]) L8 = some (.lst [.ref po, .ref p7]) := upd_same
    have q8 : RowsAt (upd (upd H6 p7 (.tup [.str "set", .int 7, .int 1])) L8 (.lst [.ref po, .ref p7])) [.ref po, .ref p7] [od, (("set" : Str), [(7 : Int), 1])] := by
      have a1 : RowsAt (upd H6 p7 (.tup [.str "set", .int 7, .int 1])) ([] ++ [.ref po]) ([] ++ [od]) := RowsAt.nil.snoc ⟨po, rfl, (same_new hp7) _ _ hpo⟩
      have a2 := a1.snoc (v := .ref p7) (r := (("set" : Str), [(7 : Int), 1])) ⟨p7, rfl, upd_same⟩
      exact a2.same (same_new hL8)
    have D8 := D6.same s8
    have K8 := K6'.trans (Keep.same s8)
    have e8 := s8 _ _ g6
    have d8 := s8 _ _ d6
    have r8 := r6.same s8
    generalize upd (upd H6 p7 (.tup [.str "set", .int 7, .int 1])) L8 (.lst [.ref po, .ref p7]) = H8 at g8 q8 D8 K8 e8 d8 r8
    refine ⟨L1, L8, _, _, rfl, rfl, e8, g8, szL (by rw [List.length_take]; show _ + 2 ≤ 100000; omega), fun L9 hL9 => ?_⟩
    have s9 := same_new (o := .lst (zs.take at_ ++ [.ref po, .ref p7])) hL9
    have g9 : upd H8 L9 (.lst (zs.take at_ ++ [.ref po, .ref p7])) L9 = some (.lst (zs.take at_ ++ [.ref po, .ref p7])) := upd_same
    have d9 := s9 _ _ d8
    have r9 := r8.same s9
    have q9 := q8.same s9
    have D9 := D8.same s9
    have K9 := K8.trans (Keep.same s9)
    generalize upd H8 L9 (.lst (zs.take at_ ++ [.ref po, .ref p7])) = H9 at g9 d9 r9 q9 D9 K9
    refine ⟨_, rfl, _, rfl, _, rfl, D4, _, rfl, SqL.of d9, fun L10 hL10 => ?_⟩
    rw [cut_from zs at_ hzl]
    have s10 := same_new (o := .lst (zs.drop at_)) hL10
    have g10 : upd H9 L10 (.lst (zs.drop at_)) L10 = some (.lst (zs.drop at_)) := upd_same
    have e10 := s10 _ _ g9
    have r10 := r9.same s10
    have q10 := q9.same s10
    have D10 := D9.same s10
    have K10 := K9.trans (Keep.same s10)
    generalize upd H9 L10 (.lst (zs.drop at_)) = H10 at g10 e10 r10 q10 D10 K10
    refine ⟨L9, L10, _, _, rfl, rfl, e10, g10, szL (by rw [List.length_append, List.length_take, List.length_drop]; show _ + 2 + _ ≤ 100000; rw [r4.len]; omega), fun LW hLW => ?_⟩
    have rw0 : RowsAt H10 (zs.take at_ ++ [.ref po, .ref p7] ++ zs.drop at_) (wrongL ls at_ od) := ((r10.take at_).app q10).app (r10.drop at_)
    generalize zs.take at_ ++ [.ref po, .ref p7] ++ zs.drop at_ = ws at rw0
    have s11 := same_new (o := .lst ws) hLW
    have g11 : upd H10 LW (.lst ws) LW = some (.lst ws) := upd_same
    have rw1 := rw0.same s11
    have D11 := D10.same s11
    have K11 := K10.trans (Keep.same s11)
    generalize upd H10 LW (.lst ws) = H11 at g11 rw1 D11 K11
    have okw := wrong_code fl odd hat (by omega)
    have okh := hidden_code fl odd hat (by omega)
    have atw := wrong_at fl odd hat
    have ath := hidden_at fl odd hat hcn.1
    have wlen : ws.length = (wrongL ls at_ od).length := rw1.len
    have wl2 := wrong_len (odd := od) hat
    generalize wrongL ls at_ od = wr at rw1 okw okh atw ath wlen wl2
    -- hidden
    refine ⟨_, rfl, LW, _, rfl, .inl (SqL.of g11), (by show 5 ≤ sizeLine; decide), fun p12 hp12 => ?_⟩
    refine ⟨(by show 1 ≤ sizeLine; decide), fun L12 hL12 => ?_⟩
    have s12 := (same_new (o := .tup [.str "skip", .int 0, .int 1, .int 0, .int (ws.length : Nat)]) hp12).trans (same_new (o := .lst [.ref p12]) hL12)
    have g12 : upd (upd H11 p12 (.tup [.str "skip", .int 0, .int 1, .int 0, .int (ws.length : Nat)])) L12 (.lst [.ref p12]) L12 = some (.lst [.ref p12]) := upd_same
    have q12 : RowsAt (upd (upd H11 p12 (.tup [.str "skip", .int 0, .int 1, .int 0, .int (ws.length : Nat)])) L12 (.lst [.ref p12])) [.ref p12] [(("skip" : Str), [(0 : Int), 1, 0, (wr.length : Int)])] := by
      have a1 : RowsAt (upd H11 p12 (.tup [.str "skip", .int 0, .int 1, .int 0, .int (ws.length : Nat)])) ([] ++ [.ref p12]) ([] ++ [(("skip" : Str), [(0 : Int), 1, 0, (wr.length : Int)])]) := RowsAt.nil.snoc ⟨p12, rfl, by rw [upd_same, wlen] <;> rfl⟩
      exact a1.same (same_new hL12)
    have e12 := s12 _ _ g11
    have rw2 := rw1.same s12
    have D12 := D11.same s12
    have K12 := K11.trans (Keep.same s12)
    generalize upd (upd H11 p12 (.tup [.str "skip", .int 0, .int 1, .int 0, .int (ws.length : Nat)])) L12 (.lst [.ref p12]) = H12 at g12 q12 e12 rw2 D12 K12
    refine ⟨_, rfl, L12, LW, _, _, rfl, rfl, g12, e12, szL (by show 1 + _ ≤ 100000; omega), fun L13 hL13 => ?_⟩
    have s13 := same_new (o := .lst ([.ref p12] ++ ws)) hL13
    have g13 : upd H12 L13 (.lst ([.ref p12] ++ ws)) L13 = some (.lst ([.ref p12] ++ ws)) := upd_same
    have e13 := s13 _ _ e12
    have rw3 := rw2.same s13
    have q13 := q12.same s13
    have D13 := D12.same s13
    have K13' := K12.trans (Keep.same s13)
    generalize upd H12 L13 (.lst ([.ref p12] ++ ws)) = H13 at g13 e13 rw3 q13 D13 K13'
    refine ⟨(by show 3 ≤ sizeLine; decide), fun p14 hp14 => ?_⟩
    refine ⟨(by show 1 ≤ sizeLine; decide), fun L14 hL14 => ?_⟩
    have s14 := (same_new (o := .tup [.str "left", .int 0, .int 0]) hp14).trans (same_new (o := .lst [.ref p14]) hL14)
    have g14 : upd (upd H13 p14 (.tup [.str "left", .int 0, .int 0])) L14 (.lst [.ref p14]) L14 = some (.lst [.ref p14]) := upd_same
    have q14 : RowsAt (upd (upd H13 p14 (.tup [.str "left", .int 0, .int 0])) L14 (.lst [.ref p14])) [.ref p14] [(("left" : Str), [(0 : Int), 0])] := by
      have a1 : RowsAt (upd H13 p14 (.tup [.str "left", .int 0, .int 0])) ([] ++ [.ref p14]) ([] ++ [(("left" : Str), [(0 : Int), 0])]) := RowsAt.nil.snoc ⟨p14, rfl, upd_same⟩
      exact a1.same (same_new hL14)
    have f14 := s14 _ _ g13
    have e14 := s14 _ _ e13
    have rw4 := rw3.same s14
    have rh4 := ((q13.same s14).app rw4).app q14
    have D14 := D13.same s14
    have K14 := K13'.trans (Keep.same s14)
    generalize upd (upd H13 p14 (.tup [.str "left", .int 0, .int 0])) L14 (.lst [.ref p14]) = H14 at g14 f14 e14 rw4 rh4 D14 K14
    refine ⟨L13, L14, _, _, rfl, rfl, f14, g14, szL (by rw [List.length_append]; show 1 + _ + 1 ≤ 100000; omega), fun LH hLH => ?_⟩
    have s15 := same_new (o := .lst ([.ref p12] ++ ws ++ [.ref p14])) hLH
    have g15 : upd H14 LH (.lst ([.ref p12] ++ ws ++ [.ref p14])) LH = some (.lst ([.ref p12] ++ ws ++ [.ref p14])) := upd_same
    have e15 := s15 _ _ e14
    have rw5 := rw4.same s15
    have rh5 : RowsAt (upd H14 LH (.lst ([.ref p12] ++ ws ++ [.ref p14]))) ([.ref p12] ++ ws ++ [.ref p14]) (hiddenL wr) := rh4.same s15
    have D15 := D14.same s15
    have K15 := K14.trans (Keep.same s15)
    generalize [V.ref p12] ++ ws ++ [.ref p14] = hs at g15 rh5 s15 e15 rw5 D15 K15
    generalize upd H14 LH (.lst hs) = H15 at g15 e15 rw5 rh5 D15 K15
    -- the machine
    refine ⟨_, rfl, _, rfl, ?_⟩
    intro mc dm hmc hdm _
    have ecn' : (3 : Int) + u = (cn : Nat) := ecn.symm
    show spMachInit CM (.ref mc :: ([.int (W : Nat), .int (3 + u)] ++ [])) _ _ _
    rw [ecn']
    refine mkMach hmc hdm fun H16 s16 hM16 => ⟨rfl, ?_⟩
    -- the first
    refine ⟨_, rfl, _, rfl, ?_⟩
    intro c1 dc1 hc1 hdc1 _
    refine mkCode hc1 hdc1 (.inl (SqL.of (s16 _ _ e15))) (rw5.same s16) okw fun H17 p17 s17 hC17 => ⟨rfl, ?_⟩
    refine ⟨(by show 1 ≤ sizeLine; decide), fun L18 hL18 => ?_⟩
    refine ⟨(by show 0 ≤ sizeLine; decide), fun L19 hL19 => ?_⟩
    have s19 := (same_new (o := .lst [.int 1]) hL18).trans (same_new (o := .tup []) hL19)
    generalize upd (upd H17 L18 (.lst [.int 1])) L19 (.tup []) = H19 at s19
    refine ⟨mc, c1, p17, L18, L19, W, cn, wr, at_, rfl, hM16.same (s17.trans s19), hC17.same s19, okw, hW, ⟨by omega, by omega⟩, atw, fun H20 p20 s20 hp20 => ?_⟩
    refine ⟨_, rfl, (by show 2 ≤ sizeLine; decide), fun p21 hp21 => ?_⟩
    have s21 := s20.trans (same_new (o := .tup [.str "register", .int (at_ : Nat)]) hp21)
    refine ⟨_, _, dp_reg ((same_new hp21) _ _ hp20), dp_reg upd_same, shaped_reg _, shaped_reg _, _, rfl, ?_⟩
    refine ifF (by rw [eqv_reg]; rfl) ?_
    have s15' := (s16.trans s17).trans (s19.trans s21)
    have sM := (s17.trans s19).trans s21
    generalize upd H20 p21 (.tup [.str "register", .int (at_ : Nat)]) = H21 at s15' sM
    -- the second
    refine ⟨_, rfl, _, rfl, ?_⟩
    intro c2 dc2 hc2 hdc2 _
    refine mkCode hc2 hdc2 (.inl (SqL.of (s15' _ _ g15))) (rh5.same s15') okh fun H22 p22 s22 hC22 => ⟨rfl, ?_⟩
    refine ⟨(by show 1 ≤ sizeLine; decide), fun L23 hL23 => ?_⟩
    refine ⟨(by show 0 ≤ sizeLine; decide), fun L24 hL24 => ?_⟩
    have s24 := (same_new (o := .lst [.int 1]) hL23).trans (same_new (o := .tup []) hL24)
    generalize upd (upd H22 L23 (.lst [.int 1])) L24 (.tup []) = H24 at s24
    refine ⟨mc, c2, p22, L23, L24, W, cn, _, at_ + 1, rfl, hM16.same ((sM.trans s22).trans s24), hC22.same s24, okh, hW, ⟨by omega, by omega⟩, ath, fun H25 p25 s25 hp25 => ?_⟩
    refine ⟨_, rfl, _, _, rfl, rfl, (by show 2 ≤ sizeLine; decide), fun p26 hp26 => ?_⟩
    have s26 := s25.trans (same_new (o := .tup [.str "register", .int ((at_ : Int) + 1)]) hp26)
    have ee : ((at_ + 1 : Nat) : Int) = (at_ : Int) + 1 := rfl
    rw [ee] at hp25
    refine ⟨_, _, dp_reg ((same_new hp26) _ _ hp25), dp_reg upd_same, shaped_reg _, shaped_reg _, ?_⟩
    rw [eqv_reg]
    have sF := ((s15'.trans s22).trans s24).trans s26
    exact k _ (D15.same sF) (K15.trans (Keep.same sF))
end
end LB
set_option Elab.async false
set_option linter.all false
set_option maxRecDepth 100000
set_option maxHeartbeats 4000000
namespace RT
open PySem PySem.Spec PyProof.Rows
section
variable {prog : Program} {w : World} {A : Around} {E : Value → Shared → Prop} {s : Shared} {R : Result → Shared → Prop}
theorem init_rev {it l S : Addr} {items : Array Value} (hh : A.handled = none) (hit : s.heap.IsRevIter it l ((items.size : Int) - 1)) (hl : s.heap.IsList l items) (hne : l ≠ it) (hn : items.size ≤ sizeLine)
    (hSi : S ≠ it) (hSl : S ≠ l) (hS : s.heap.get? S = some { cls := .type "list", data := .seq #[] })
    (hR : ∀ (h' : Heap) (tk : Nat) (acc : Array Value) (c : Nat), (∀ b o, b ≠ it → b ≠ S → s.heap.get? b = some o → h'.get? b = some o) → h'.get? S = some { cls := .type "list", dict := none, data := .seq acc c, slots := #[] } →
      ItemsOf (fun i v => items[items.size - 1 - i]? = some v) acc items.size → R (.ok (.ret .none)) { s with heap := h', toks := tk }) :
    wpAny (model prog w) A.in1 (Builtin.«list.__init__» ⟨[.ref S, .ref it], []⟩)
      (fun fin s' => match fin with | .done f => R (.ok f) s' | .again c' => c'.quiet = true ∧ codeAny (model prog w) A c' R s') (fun e s' => R (.error e) s') s := by
  have W := (Walks.listRev (prog := prog) (w := w) (A := A.in1) hh it l hne items).toS
  have hSf : S ∉ [it, l] := by simp only [List.mem_cons, List.not_mem_nil, or_false, not_or]; exact ⟨hSi, hSl⟩
  show wpAny _ _ (do let old ← Builtin.List.listItems (.ref S); Builtin.List.listUpdate (.ref S) (fun _ => #[]); letGo old.toList.reverse; Builtin.List.listExtendWith (.ref S) (.ref it) .none) _ _ s
  refine wpAny_bind ?_
  unfold Builtin.List.listItems
  refine wpAny_bind (wpAny_seqItems hS rfl (wpAny_pure ?_))
  show wpAny _ _ (updateSeq S (fun _ => #[]) >>= fun _ => letGo (#[] : Array Value).toList.reverse >>= fun _ => Builtin.List.listExtendWith (.ref S) (.ref it) .none) _ _ s
  refine wpAny_bind (wpAny_updateSeq hS rfl ?_)
  have hS₂ := Heap.get?_update_self (Obj.mapSeq (fun _ => (#[] : Array Value))) hS rfl
  have oth : ∀ b o, b ≠ S → s.heap.get? b = some o → (s.heap.update S (Obj.mapSeq (fun _ => (#[] : Array Value)))).get? b = some o :=
    fun b o hb e => (Heap.get?_update_other _ _ (Ne.symm hb)).trans e
  refine wpAny_bind (wpAny_letGo ?_)
  have hit1 : (s.heap.update S (Obj.mapSeq (fun _ => (#[] : Array Value)))).IsRevIter it l ((items.size : Int) - 1) := hit.at fun o e => oth it o (Ne.symm hSi) e
  obtain ⟨ol, hol, rl⟩ := id hl
  have hl1 : (s.heap.update S (Obj.mapSeq (fun _ => (#[] : Array Value)))).IsList l items := ⟨ol, oth l ol (Ne.symm hSl) hol, rl⟩
  have hT : ({ s with heap := s.heap.update S (Obj.mapSeq (fun _ => (#[] : Array Value))) } : Shared).TypeIs (.ref it) "list_reverseiterator" := Heap.IsRevIter.typeIs (s := { s with heap := s.heap.update S (Obj.mapSeq (fun _ => (#[] : Array Value))) }) hit1
  have h1 : Builtin.List.listSameRef (.ref S) (.ref it) = false := by simp [Builtin.List.listSameRef, hSi]
  unfold Builtin.List.listExtendWith
  refine wpAny_bind (wpAny_typeOf hT ?_)
  rw [if_neg (by rw [h1]; decide)]
  refine wpAny_bind (wpAny_pyIter_revIter (s := { s with heap := s.heap.update S (Obj.mapSeq (fun _ => (#[] : Array Value))) }) hit1 ?_)
  refine wpAny_bind (wpAny_holding ?_)
  unfold Builtin.List.listLengthHint
  refine wpAny_bind (wpAny_specialOf hT nolen_lri ?_)
  show wpAny _ A.in1 (specialOf (Value.ref it) (Str.ofString "__length_hint__") >>= _) _ _ _
  refine wpAny_bind (wpAny_specialOf hT hint_lri ?_)
  generalize hid : ("list_reverseiterator.__length_hint__" : String) = id0
  wp_delta
  rw [show splitId id0 = some ("list_reverseiterator", "__length_hint__") from by subst hid; decide +kernel]
  subst hid
  refine wpAny_bind (wpAny_isInstance (b := true) hT (by rw [isSubtype_type]; kernel_rfl) ?_)
  refine wpAny_pure ?_
  rw [if_neg (by decide)]
  have e0 : ((items.size : Nat) : Int) - 1 - ((0 : Nat) : Int) = (items.size : Int) - 1 := by omega
  refine wpAny_pure ⟨plainId_quiet F.plain_extend_loop _, codeAny_extend_loopS W hn _ hSf _ items.size 0 _ _ _ rfl (Nat.zero_le _) ⟨Nat.zero_le _, by rw [e0]; exact hit1, hl1⟩ hS₂ (ItemsOf.nil _) fun s' acc' c' hm hS' hacc => ?_⟩
  rw [Moved.eq_with hm]
  refine hR s'.heap s'.toks acc' c' (fun b o hb hb2 e => hm.heap b o (fun hmem => ?_) (oth b o hb2 e)) hS' hacc
  rcases List.mem_cons.mp hmem with e' | hmem
  · exact hb2 e'
  · exact hb (List.mem_singleton.mp hmem)
theorem call_list_rev {it l : Addr} {items : Array Value} {Q : Value → Shared → Prop} (hh : A.handled = none) (hit : s.heap.IsRevIter it l ((items.size : Int) - 1)) (hl : s.heap.IsList l items) (hne : l ≠ it) (hn : items.size ≤ sizeLine)
    (hQ : ∀ (h' : Heap) (tk : Nat) (acc : Array Value) (c : Nat), (∀ b o, b ≠ it → s.heap.get? b = some o → h'.get? b = some o) → h'.get? s.heap.objs.size = some { cls := .type "list", dict := none, data := .seq acc c, slots := #[] } →
      ItemsOf (fun i v => items[items.size - 1 - i]? = some v) acc items.size → Q (.ref s.heap.objs.size) { s with heap := h', toks := tk }) :
    wpAny (model prog w) A (call (.type "list") [.ref it]) Q E s := by
  obtain ⟨oi, hoi, _⟩ := id hit
  obtain ⟨ol, hol, _⟩ := id hl
  have hSi : s.heap.objs.size ≠ it := Nat.ne_of_gt (Heap.lt_size hoi)
  have hSl : s.heap.objs.size ≠ l := Nat.ne_of_gt (Heap.lt_size hol)
  refine callType_codes (Q₁ := fun obj s₁ => obj = .ref s.heap.objs.size ∧ s₁ = { s with heap := s.heap.push { cls := .type "list", data := .seq #[] } }) F.called_list (F.typeCall_list_1 _) F.entry_list_init
    (code_list_new _ ⟨rfl, rfl⟩) fun obj s₁ h₁ => ?_
  obtain ⟨rfl, rfl⟩ := h₁
  have hS : (s.heap.push { cls := .type "list", data := .seq #[] }).get? s.heap.objs.size = some { cls := .type "list", data := .seq #[] } := Heap.get?_push_size _ rfl
  refine ⟨⟨_, hS, rfl⟩, F.args_list_init_2 _ _, init_rev (A := A.in1) (s := { s with heap := s.heap.push { cls := .type "list", data := .seq #[] } }) hh (hit.at fun o e => Heap.get?_push_of_some _ e) (hl.push _) hne hn hSi hSl hS fun h' tk acc' c' hk hS' hacc => ?_⟩
  exact ⟨rfl, hQ h' tk acc' c' (fun b o hb e => hk b o hb (Nat.ne_of_lt (Heap.lt_size e)) (Heap.get?_push_of_some _ e)) hS' hacc⟩
end
section
variable {X : L2.Cx}
open L2
/-- list(reversed(e)), e a list -/
def tLstRev (K : PySem.W.Frag) (te : TE) : TE := fun σ H Q => te σ H fun v H1 => ∃ (a : Addr) (xs : List V), v = .ref a ∧ SqL K H1 a xs ∧ ∀ q, H1 q = none → Q (.ref q) (upd H1 q (.lst xs.reverse))
theorem pe_listRev {e : Expr} {te : TE} {p p2 pos pos2 : Pos} (hc : X.calm = true) (hg : Gl X "list") (hm : X.mg "list" = none) (hg2 : Gl X "reversed") (hm2 : X.mg "reversed" = none) (he : PE X e te)
    (hs : starEach [e] X.env = (false, eval e X.env) :: starEach [] X.env := by rfl)
    (hs2 : starEach [.Call (.Name "reversed" p2) [e] [] pos2] X.env = (false, eval (.Call (.Name "reversed" p2) [e] [] pos2) X.env) :: starEach [] X.env := by rfl) :
    PE X (.Call (.Name "list" p) [.Call (.Name "reversed" p2) [e] [] pos2] [] pos) (tLstRev X.K te) := by
  refine ⟨fun pins s σ H Q I h => ?_⟩
  refine Call_ (ld_blt I hg hm boot_list (PyProof.Rows.callWith_type1 (args_cons (Call_ (ld_blt I hg2 hm2 PyProof.Rows.boot_reversed (PyProof.Rows.callWith_type1 (args_cons (thn (he.run pins s σ H _ I h) fun u s1 ⟨v, H1, I1, r1, q1⟩ => args_nil ?_) hs) hs rfl))) hs2) hs2 rfl))
  obtain ⟨a, xs, ev, hq, q⟩ := q1
  subst ev
  obtain rfl : u = Value.ref a := r1
  obtain ⟨its, rv, p', hz⟩ := I1.list hq
  refine call_reversed_list p'.isList (args_nil ?_)
  have k0 : ∀ b o, s1.heap.get? b = some o → (s1.heap.push (revObj a ((its.toArray.size : Int) - 1))).get? b = some o := fun b o e => Heap.get?_push_of_some _ e
  have I2 : Inv X pins σ H1 { s1 with heap := s1.heap.push (revObj a ((its.toArray.size : Int) - 1)) } := I1.kept (t' := s1.toks) k0
  obtain ⟨f0, f1, f2, f3, f4, f5⟩ := I1.fpOk (H' := H1) (b := s1.heap.objs.size) (Nat.le_refl _) (I1.hok.fresh (Nat.le_refl _))
  have hl := p'.isList
  obtain ⟨ol, hol, _⟩ := id hl
  have hne : a ≠ s1.heap.objs.size := Nat.ne_of_lt (Heap.lt_size hol)
  have hn : its.toArray.size ≤ sizeLine := by rw [List.size_toArray, ← rv.length]; exact hz
  refine call_list_rev (s := { s1 with heap := s1.heap.push (revObj a ((its.toArray.size : Int) - 1)) }) (I1.ok.hd hc) ⟨_, Heap.get?_push_size _ rfl, rfl, rfl⟩ (hl.push _) hne hn fun h' tk acc c hk hS hi => ?_
  have hS' : h'.get? (s1.heap.objs.size + 1) = some { cls := .type "list", dict := none, data := .seq acc c, slots := #[] } := by
    have z := hS
    rw [show ({ s1 with heap := s1.heap.push (revObj a ((its.toArray.size : Int) - 1)) } : Shared).heap.objs.size = s1.heap.objs.size + 1 from Heap.size_push _ _] at z
    exact z
  have hSn : (s1.heap.push (revObj a ((its.toArray.size : Int) - 1))).get? (s1.heap.objs.size + 1) = none := Heap.get?_none_of_le (by rw [Heap.size_push]; exact Nat.le_refl _)
  obtain ⟨G, g1, g2⟩ := restrict h' fun b => decide (b ≠ s1.heap.objs.size + 1)
  have I3 : Inv X pins σ H1 { s1 with heap := G, toks := tk } := I2.turned (t' := tk) (fun b o hb e => by
    have hb2 : b ≠ s1.heap.objs.size + 1 := fun z => by
      rw [z, hSn] at e
      cases e
    rw [g1 b (decide_eq_true hb2)]
    exact hk b o hb e) f0 f1 f3 f4 f5
  have gS : G.get? (s1.heap.objs.size + 1) = none := g2 _ (by simp)
  have hf : H1 (s1.heap.objs.size + 1) = none := I1.hok.fresh (Nat.le_succ _)
  have J : Inv X pins σ (upd H1 (s1.heap.objs.size + 1) (.lst xs.reverse)) { s1 with heap := h', toks := tk } := I3.laidN (h' := h') (t' := tk) (fun b u e => by
    have hb2 : b ≠ s1.heap.objs.size + 1 := fun z => by
      rw [z, gS] at e
      cases e
    rw [← g1 b (decide_eq_true hb2)]
    exact e) gS hf (show ObjOk X.prog X.w _ _ _ (.lst xs.reverse) from ⟨by rw [List.length_reverse]; exact hz, acc.toList, c, vals_rev rv hi, by rw [Array.toArray_toList]; exact hS'⟩)
  refine ⟨.ref (s1.heap.objs.size + 1), _, J, ?_, q _ hf⟩
  show Value.ref _ = Value.ref _
  rw [show ({ s1 with heap := s1.heap.push (revObj a ((its.toArray.size : Int) - 1)) } : Shared).heap.objs.size = s1.heap.objs.size + 1 from Heap.size_push _ _]
end
end RT
set_option Elab.async false
set_option linter.all false
set_option maxRecDepth 100000
set_option maxHeartbeats 4000000
namespace LB
open PySem PySem.Spec PyProof.Rows L2
open C8 (pss_cut tCut)
abbrev s_law_deal : Stmt := top 31
theorem sc_law_deal : FnScope ["_law_script", "_law_base", "_law_cells", "_law_cell", "_law_number_here"] ["_law_script", "_law_base"] (defScope s_law_deal) := ⟨rfl, rfl, rfl, by decide +kernel, rfl, by decide +kernel, by decide +kernel⟩
def spDeal (K : PySem.W.Frag) : Sp := fun vs H Q _ => ∃ (a : Addr) (ns : List Int) (base : Int), vs = [.ref a, .int base] ∧ SqL K H a (ns.map V.int) ∧ ns.length ≤ 63 ∧ 0 ≤ base ∧ base ≤ 1000 ∧
  ∀ (d l : Addr) (H' : Hp), H d = none → H l = none → Deal d l H' → Same H H' → Q (.ref d) H'
section
variable {P : Program} {w : World} {K : PySem.W.Frag} {mg : Str → Option Value} {base : Heap}
theorem ok_law_deal (F : TopFn K mg "_law_deal" s_law_deal ["_law_script", "_law_base"]) (T : Txt K mg) : DefOk P w K mg base 1 "_law_deal" ["_law_script", "_law_base"] (spDeal K) := by
  refine F.ok sc_law_deal (fun vs H Q E h => ?_) (fun f cdv A outer s H vs Q E hr h => ?_)
  · obtain ⟨a, ns, b, rfl, _⟩ := h
    rfl
  · obtain ⟨a, ns, b, rfl, hS, hlen, b0, b1, k⟩ := h
    refine ⟨_, (pss_cons (ps_setLc (i := 2) (own := [("_law_cell", 3)]) (g := gName 3) (tt := tYes) rfl sc_law_deal.nd rfl rfl (sw_true rfl rfl rfl (by decide +kernel)) (pi_list (pe_slice sl_list (pv 0) (po_some (pv 1)) (po_some pe_int))) (blkOk_by (own := [("_law_cell", 3)]) (N := ["_law_script", "_law_base", "_law_cells", "_law_cell", "_law_number_here"]) (sc := defScope s_law_deal) (by decide +kernel)) (fun _ _ _ _ _ => (pg_name (i := 3) sc_law_deal.nd rfl (.inl rfl))) (fun _ _ _ _ _ => pts_nil) (fun _ _ _ _ _ => (pe_callB (call_max2 rfl) (by rfl) T.b_max (by decide +kernel) (pa_cons (pv 3) (pa_cons (pe_op op_sub pe_int (pv 3)) pa_nil)))))
    (pss_cons (ps_set (i := 4) sc_law_deal.nd rfl (.inl rfl) (pe_op op_add pe_int (pv 1)))
    (pss_cut (ps_for PassesOwn.never rfl (pi_list (pv 2)) (pg_name (i := 3) sc_law_deal.nd rfl (.inl rfl))
    (pss_one (ps_set (i := 4) sc_law_deal.nd rfl (.inl rfl) (pe_op op_mod (pe_op op_add (pe_op op_mul (pv 4) pe_int) (pe_op op_mod (pv 3) pe_int)) pe_int))))
    (pss_one (ps_ret (pe_disp (pps_cons pe_str (pv 4) (pps_cons pe_str pe_int (pps_cons pe_str (RT.pe_listRev rfl rfl T.b_list rfl T.b_reversed (pe_lc (own := [("_law_cell", 3)]) (g := gName 3) rfl sc_law_deal.nd (pi_list (pv 2)) (blkOk_by (own := [("_law_cell", 3)]) (N := ["_law_script", "_law_base", "_law_cells", "_law_cell", "_law_number_here"]) (sc := defScope s_law_deal) (by decide +kernel)) (fun _ _ _ _ _ => (pg_name (i := 3) sc_law_deal.nd rfl (.inl rfl))) (fun _ _ _ _ _ => (pts_one (pt_cmpR op_ge (pv 3) (pe_op op_pow pe_int pe_int) (nomark _)))) (fun _ _ _ _ _ => (pv 3)))) pps_nil))) (by rfl) (by rfl) (fun z => by cases z) (by decide))))))), ?_⟩
    obtain ⟨ms, ems, lms, _⟩ := cut_ints ns (some b) (some 63)
    refine ⟨_, rfl, _, rfl, _, rfl, _, rfl, a, _, rfl, hS, fun p hp => ?_⟩
    rw [ems]
    refine ⟨p, rfl, ⟨_, SqL.of upd_same⟩, fun D hD => ?_⟩
    have npD : p ≠ D := fun e => by rw [← e, upd_same] at hD; cases hD
    have hD0 : H D = none := by rw [upd_ne npD.symm] at hD; exact hD
    refine lc_list (K := K) (a := p) (xs := ms.map V.int) (fun i H' => ∃ cs : List Int, H' = upd (upd H p (.lst (ms.map V.int))) D (.lst (cs.map V.int)) ∧ cs.length = i ∧ ∀ c ∈ cs, 0 ≤ c)
      ⟨[], rfl, rfl, fun c h => by cases h⟩ (fun i H' _ ⟨cs, e, _⟩ => by rw [e]; exact SqL.of (by rw [upd_ne npD]; exact upd_same)) ?_ ?_
    · rintro i x H' hi ⟨cs, rfl, hl, h0⟩
      obtain ⟨m, hm, rfl⟩ := map_get hi
      have hlt := lt_of_get hm
      refine ⟨rfl, ?_⟩
      refine ⟨_, rfl, _, rfl, _, _, rfl, rfl, _, _, rfl, _, upd_same, ?_, cs ++ [if 0 - m > m then 0 - m else m], ?_, ?_, ?_⟩
      · rw [List.length_map]; exact sz63 (by omega)
      · rw [upd_upd, List.map_append] <;> rfl
      · rw [List.length_append, hl] <;> rfl
      · intro c hc
        rcases List.mem_append.mp hc with h | h
        · exact h0 c h
        · have e := List.mem_singleton.mp h
          rw [e]
          split <;> omega
    · rintro H' ⟨cs, rfl, hl, h0⟩
      rw [List.length_map] at hl
      have hlc : cs.length ≤ 63 := by omega
      refine ⟨_, rfl, _, _, rfl, rfl, ?_⟩
      have s1 : Same H (upd (upd H p (.lst (ms.map V.int))) D (.lst (cs.map V.int))) := (same_new hp).trans (same_new hD)
      have hH2 : upd (upd H p (.lst (ms.map V.int))) D (.lst (cs.map V.int)) D = some (.lst (cs.map V.int)) := upd_same
      generalize upd (upd H p (.lst (ms.map V.int))) D (.lst (cs.map V.int)) = H2 at s1 hH2
      refine ⟨fun σ H' => ∃ n v, σ = [some (.ref a), some (.int b), some (.ref D), v, some (.int n)] ∧ H' = H2 ∧ 0 ≤ n ∧ n < 2147483647, ?_, ?_⟩
      · refine ⟨_, rfl, D, rfl, ⟨_, SqL.of hH2⟩, for_list (K := K) (a := D) (xs := cs.map V.int) (fun i σ H' => ∃ n v, σ = [some (.ref a), some (.int b), some (.ref D), v, some (.int n)] ∧ H' = H2 ∧ 0 ≤ n ∧ n < 2147483647)
          ⟨6143 + b, none, rfl, rfl, by omega, by omega⟩ (fun i σ H' _ ⟨_, _, _, e, _⟩ => by rw [e]; exact SqL.of hH2) ?_ ?_⟩
        · rintro i x σ H' hi ⟨n, v, rfl, rfl, hn⟩
          obtain ⟨m, hm, rfl⟩ := map_get hi
          refine ⟨_, rfl, _, _, rfl, rfl, .inr ⟨by decide, by decide⟩, _, rfl, _, _, rfl, rfl, (by show (0 : Int) < 2147483629; decide), _, _, rfl, rfl, _, _, rfl, rfl, (by show (0 : Int) < 2147483647; decide), ?_⟩
          exact ⟨_, _, rfl, rfl, Int.emod_nonneg _ (by decide), Int.emod_lt_of_pos _ (by decide)⟩
        · exact fun σ H' h => h
      · rintro σ H' ⟨n, v, rfl, rfl, hn0, hn1⟩
        intro d hd
        have ndD : D ≠ d := ne_of_none hH2 hd
        refine ⟨_, rfl, _, rfl, D, rfl, ⟨_, SqL.of (by rw [upd_ne ndD]; exact hH2)⟩, fun D2 hD2 => ?_⟩
        have nD2d : D2 ≠ d := fun e => by rw [e, upd_same] at hD2; cases hD2
        have hD2' : H' D2 = none := by rw [upd_ne nD2d] at hD2; exact hD2
        have nDD2 : D ≠ D2 := ne_of_none hH2 hD2'
        refine lc_list (K := K) (a := D) (xs := cs.map V.int) (fun i H4 => ∃ gs : List Int, H4 = upd (upd H' d (.dK [])) D2 (.lst (gs.map V.int)) ∧ gs.length ≤ i ∧ ∀ c ∈ gs, 0 ≤ c)
          ⟨[], rfl, Nat.le_refl _, fun c h => by cases h⟩ (fun i H' _ ⟨gs, e, _⟩ => by rw [e]; exact SqL.of (by rw [upd_ne nDD2, upd_ne ndD]; exact hH2)) ?_ ?_
        · rintro i x H2 hi ⟨gs, rfl, hl2, g0⟩
          obtain ⟨m, hm, rfl⟩ := map_get hi
          have hlt := lt_of_get hm
          refine ⟨rfl, _, rfl, _, _, rfl, rfl, ⟨by decide, by decide, by decide⟩, _, _, rfl, rfl, _, rfl, ?_⟩
          refine ite2 (fun hc => ?_) (fun _ => ⟨gs, rfl, Nat.le_succ_of_le hl2, g0⟩)
          refine ⟨_, rfl, _, upd_same, ?_, gs ++ [m], ?_, ?_, ?_⟩
          · rw [List.length_map]; exact sz63 (by omega)
          · rw [upd_upd, List.map_append] <;> rfl
          · rw [List.length_append, List.length_singleton]; omega
          · intro c hc
            rcases List.mem_append.mp hc with h | h
            · exact g0 c h
            · rw [List.mem_singleton.mp h]
              exact h0 m (List.mem_of_getElem? hm)
        · rintro H2 ⟨gs, rfl, hl2, g0⟩
          rw [List.length_map] at hl2
          refine ⟨D2, _, rfl, SqL.of upd_same, fun q hq => ?_⟩
          have nqd : d ≠ q := fun e => by rw [← e, upd_ne nD2d.symm, upd_same] at hq; cases hq
          have nqD2 : q ≠ D2 := fun e => by rw [e, upd_same] at hq; cases hq
          have hq' : H' q = none := by rw [upd_ne nqD2, upd_ne nqd.symm] at hq; exact hq
          refine ⟨by rw [upd_ne nqd, upd_ne nD2d.symm, upd_same], [(.inr "seed", .int n), (.inr "number", .int 0), (.inr "left", .ref q)], rfl, (by show 3 ≤ 15; decide), ?_⟩
          refine k d q _ (s1.free hd) (s1.free hq') ⟨n, 0, gs.reverse, ?_, ?_, hn0, hn1, by decide, fun m h => g0 m (List.mem_reverse.mp h), by rw [List.length_reverse]; omega⟩ ?_
          · rw [upd_same, dkv_merge]
          · rw [upd_ne nqd.symm, upd_same, List.map_reverse]
          · intro b' o e
            have e' := s1 b' o e
            rw [upd_ne (ne_of_none e' hd), upd_ne (ne_of_none e' hq'), upd_ne (ne_of_none e' hD2'), upd_ne (ne_of_none e' hd)]
            exact e'
end
end LB
set_option Elab.async false
set_option linter.all false
set_option maxRecDepth 100000
set_option maxHeartbeats 4000000
namespace LB
open PySem PySem.Spec PyProof.Rows L2
open C8 (pss_cut tCut)
abbrev s_law_draw : Stmt := top 32
theorem sc_law_draw : FnScope ["_law_deal_here", "_law_many", "_law_number_here", "_law_one", "_law_other"] ["_law_deal_here", "_law_many"] (defScope s_law_draw) := ⟨rfl, rfl, rfl, by decide +kernel, rfl, by decide +kernel, by decide +kernel⟩
section
variable {P : Program} {w : World} {K : PySem.W.Frag} {mg : Str → Option Value} {base : Heap}
theorem ok_law_draw (F : TopFn K mg "_law_draw" s_law_draw ["_law_deal_here", "_law_many"]) (T : Txt K mg) : DefOk P w K mg base 1 "_law_draw" ["_law_deal_here", "_law_many"] spDraw := by
  refine F.ok sc_law_draw (fun vs H Q E h => ?_) (fun f cdv A outer s H vs Q E hr h => ?_)
  · obtain ⟨d, l, many, rfl, _⟩ := h
    rfl
  · obtain ⟨d, l, many, rfl, ⟨s0, n0, left0, C0⟩, m0, m1, k⟩ := h
    have m1 : many.natAbs.log2 < 9000 := Nat.lt_of_lt_of_le (PySem.Flt.log2_lt_of (k := 129) (by decide) (show many.natAbs < 680564733841876926926749214863536422912 by omega)) (by decide)
    refine ⟨_, (pss_cut (ps_while PassesOwn.never (PW.pt (pw_and (pt_cmpR op_eq (pe_dget (hu_of hr) (pv 0) pe_str (fun _ _ => rfl)) pe_int (nomark _)) (pw_and1 (pt_cmpR op_gt (pe_callB call_len_seq (by rfl) T.b_len (by decide +kernel) (pa_cons (pe_dget (hu_of hr) (pv 0) pe_str (fun _ _ => rfl)) pa_nil)) pe_int (nomark _))))) (pss_one (ps_dput (hu_of hr) (pv 0) pe_str (pe_bm0 PySem.F.plainAttrs_list PySem.F.slot_list_pop PySem.F.type_list_pop mt_pop (pe_dget (hu_of hr) (pv 0) pe_str (fun _ _ => rfl))) rfl)))
    (pss_cons (ps_set (i := 2) sc_law_draw.nd rfl (.inl rfl) (pe_dget (hu_of hr) (pv 0) pe_str (fun _ _ => rfl)))
    (pss_cons (ps_if (pt_cmpR op_gt (pv 2) pe_int (nomark _)) (pss_cons (ps_dput (hu_of hr) (pv 0) pe_str (pe_op op_fdivW (pv 2) (pv 1)) rfl)
    (pss_one (ps_ret (pe_op op_mod (pv 2) (pv 1))))) pss_nil)
    (pss_cons (ps_set (i := 3) sc_law_draw.nd rfl (.inl rfl) (pe_op op_mod (pe_op op_add (pe_op op_mul (pe_dget (hu_of hr) (pv 0) pe_str (fun _ _ => rfl)) pe_int) pe_int) pe_int))
    (pss_cons (ps_dput (hu_of hr) (pv 0) pe_str (pe_op op_mod (pe_op op_add (pe_op op_mul (pv 3) pe_int) pe_int) pe_int) rfl)
    (pss_cons (ps_set (i := 4) sc_law_draw.nd rfl (.inl rfl) (pe_op op_mod (pe_op op_mul (pe_dget (hu_of hr) (pv 0) pe_str (fun _ _ => rfl)) (pe_dget (hu_of hr) (pv 0) pe_str (fun _ _ => rfl))) pe_int))
    (pss_one (ps_ret (pe_op op_mod (pe_op op_add (pe_op op_mul (pe_op op_mod (pe_op op_mul (pv 3) (pv 3)) pe_int) pe_int) (pv 4)) (pv 1)))))))))), ?_⟩
    refine ⟨fun σ H1 => ∃ s n left, σ = [some (.ref d), some (.int many), none, none, none] ∧ DealC d l s n left H1 ∧ Keep d l H H1 ∧ (n = 0 → left = []), ?_, ?_⟩
    · refine ⟨fun m σ H1 => ∃ s n left, σ = [some (.ref d), some (.int many), none, none, none] ∧ DealC d l s n left H1 ∧ Keep d l H H1 ∧ m = left.length, ⟨_, s0, n0, left0, rfl, C0, Keep.refl, rfl⟩, ?_⟩
      rintro m σ H1 ⟨s1, n1, left1, rfl, C1, K1, rfl⟩
      refine ⟨_, rfl, d, _, rfl, C1.number, rfl, _, rfl, ?_⟩
      refine ite2 (fun hn => ?_) (fun hn => ?_)
      · refine ⟨_, rfl, d, _, rfl, C1.left, l, _, rfl, .inl (SqL.of C1.hl), _, _, rfl, rfl, _, rfl, ?_⟩
        refine ite2 (fun hpos => ?_) (fun hpos => ?_)
        · have hpos := of_decide_eq_true hpos
          rw [List.length_map] at hpos
          refine ⟨_, fun _ _ h => h, ?_⟩
          have hne : left1 ≠ [] := fun e => by rw [e] at hpos; exact absurd hpos (by decide)
          refine ⟨_, rfl, d, _, rfl, C1.left, .inl ⟨rfl, _, SqL.of C1.hl⟩, l, _, V.int (left1.getLast hne), rfl, rfl, C1.hl, ?_, ?_⟩
          · rw [List.length_map, List.getElem?_map, List.getElem?_eq_getElem (by omega), List.getLast_eq_getElem] <;> rfl
          · have C2 := C1.popped
            have el : (left1.map V.int).dropLast = left1.dropLast.map V.int := by rw [List.map_dropLast]
            rw [el]
            have hm : 0 ≤ left1.getLast hne := C1.l0 _ (List.getLast_mem hne)
            refine ⟨_, rfl, d, _, rfl, C2.putN, ?_⟩
            exact ⟨_, by rw [List.length_dropLast]; omega, _, _, _, rfl, C2.withN hm, K1.updL.updD, rfl⟩
        · have hpos := of_decide_eq_false (Bool.eq_false_iff.mpr hpos)
          rw [List.length_map] at hpos
          exact ⟨_, _, _, rfl, C1, K1, fun _ => List.length_eq_zero_iff.mp (by omega)⟩
      · exact ⟨_, _, _, rfl, C1, K1, fun e => absurd (decide_eq_true (by rw [e])) hn⟩
    · rintro σ H1 ⟨s1, n1, left1, rfl, C1, K1, hz⟩
      refine ⟨_, rfl, d, _, rfl, C1.number, ?_⟩
      refine ⟨_, rfl, _, _, rfl, rfl, _, rfl, ?_⟩
      refine ite2 (fun hn => ?_) (fun hn => ?_)
      · have hn := of_decide_eq_true hn
        refine ⟨_, rfl, _, rfl, _, _, rfl, rfl, ⟨m0, m1⟩, _, rfl, d, _, rfl, C1.putN, ?_⟩
        refine ⟨_, rfl, _, rfl, _, _, rfl, rfl, m0, ?_⟩
        exact k _ _ (Int.emod_nonneg _ (by omega)) (Int.emod_lt_of_pos _ m0) ⟨_, _, _, C1.withN (Int.ediv_nonneg C1.n0 (by omega))⟩ K1.updD
      · refine ⟨_, rfl, d, _, rfl, C1.seed, _, _, rfl, rfl, .inr ⟨by decide, by decide⟩, _, _, rfl, rfl, _, _, rfl, rfl, (by show (0 : Int) < 2147483647; decide), ?_⟩
        refine ⟨_, rfl, _, _, rfl, rfl, .inr ⟨by decide, by decide⟩, _, _, rfl, rfl, _, _, rfl, rfl, (by show (0 : Int) < 2147483399; decide), _, rfl, d, _, rfl, C1.putS, ?_⟩
        have C2 := C1.withS (m := ((s1 * 48271 + 7919) % 2147483647 * 40692 + 104729) % 2147483399) (Int.emod_nonneg _ (by decide)) (Int.lt_trans (Int.emod_lt_of_pos _ (by decide)) (by decide))
        refine ⟨_, rfl, d, _, rfl, C2.seed, _, rfl, d, _, rfl, C2.seed, _, _, rfl, rfl, .inr ⟨by omega, by omega⟩, _, _, rfl, rfl, (by show (0 : Int) < 2147483563; decide), ?_⟩
        refine ⟨_, rfl, _, rfl, _, _, rfl, rfl, .inr ⟨by omega, by omega⟩, _, _, rfl, rfl, (by show (0 : Int) < 2147483629; decide), _, _, rfl, rfl, .inr ⟨by decide, by decide⟩, _, rfl, _, _, rfl, rfl, _, rfl, _, _, rfl, rfl, m0, ?_⟩
        exact k _ _ (Int.emod_nonneg _ (by omega)) (Int.emod_lt_of_pos _ m0) ⟨_, _, _, C2⟩ K1.updD
end
end LB
set_option Elab.async false
set_option linter.all false
set_option autoImplicit false
set_option maxRecDepth 100000
set_option maxHeartbeats 4000000
namespace LB
open PySem PySem.Spec PyProof.Rows L2
open C8 (pss_cut tCut)
theorem runM_good {m : Int} {R : Nat} {fl : List Int} {rs : List Rw} (hm : 0 < m) (f : Fits R rs) : ∀ (n : Nat) (s : Mc), Good m R s → Good m R (runM m fl rs n s)
  | 0, s, g => g
  | n + 1, s, g => by
    unfold runM
    split
    · exact runM_good hm f n _ (g.nxt hm f)
    · exact g
theorem outM_range {W R : Nat} {rs : List Rw} {inp fl : List Int} (hW : W ≤ 64) (hR : 0 < R) (hl : inp.length ≤ R) (f : Fits R rs) : (outM W R rs inp fl).natAbs.log2 < 1920 := by
  have hm0 : (0 : Int) < 2 ^ W := by exact_mod_cast Nat.pos_of_ne_zero (by simp)
  have g := runM_good (fl := fl) hm0 f rs.length _ (startM_good hm0 hl)
  have q := (g.rv (i := 0) ⟨Int.le_refl _, by omega⟩).2
  have hm1 : (2 : Int) ^ W ≤ 18446744073709551616 := by
    have : (2 : Nat) ^ W ≤ 2 ^ 64 := Nat.pow_le_pow_right (by decide) hW
    exact (by exact_mod_cast this : (2 : Int) ^ W ≤ 2 ^ 64)
  have h0 : 0 ≤ outM W R rs inp fl := q.1
  have h1 : outM W R rs inp fl < 2 ^ W := q.2
  exact Nat.lt_of_lt_of_le (PySem.Flt.log2_lt_of (k := 65) (by decide) (show (outM W R rs inp fl).natAbs < 36893488147419103232 by omega)) (by decide)
/-- only the fills' values count -/
theorem fillV_more (fl : List Int) (i : Nat) : fillV (fl ++ [0, 0]) i = fillV fl i := by
  unfold fillV
  by_cases h : i < fl.length
  · rw [List.getElem?_append_left h]
  · rw [List.getElem?_append_right (by omega), List.getElem?_eq_none (by omega : fl.length ≤ i)]
    match i - fl.length with
    | 0 => rfl
    | 1 => rfl
    | j + 2 => rfl
theorem nxt_fills {m : Int} {fl fl' : List Int} {rs : List Rw} (h : ∀ i, fillV fl' i = fillV fl i) (s : Mc) : nxt m fl' rs s = nxt m fl rs s := by
  have e : ∀ z ns, rowVal m fl' s z ns = rowVal m fl s z ns := fun z ns => by
    unfold rowVal
    rw [h]
  unfold nxt
  split
  · rfl
  · unfold stepM
    rw [e]
theorem runM_fills {m : Int} {fl fl' : List Int} {rs : List Rw} (h : ∀ i, fillV fl' i = fillV fl i) : ∀ (n : Nat) (s : Mc), runM m fl' rs n s = runM m fl rs n s
  | 0, s => rfl
  | n + 1, s => by
    unfold runM
    rw [nxt_fills h, runM_fills h n]
theorem outM_more {W R : Nat} {rs : List Rw} {inp fl : List Int} : outM W R rs inp (fl ++ [0, 0]) = outM W R rs inp fl := by
  unfold outM finM
  rw [runM_fills (fillV_more fl)]
theorem MachAt.keep {d l C a : Addr} {H H' : Hp} {W R : Int} (k : Keep d l H H') (D : Deal d l H) (h : MachAt C H a W R) : MachAt C H' a W R := by
  obtain ⟨dx, e⟩ := h
  have q := D.kinds e (fun _ z => by cases z) (fun _ z => by cases z)
  exact ⟨dx, k _ _ e q.1 q.2⟩
def pairD (a b : List Int) : PyData := .tuple [.list (a.map .int), .list (b.map .int)]
theorem pairD_shaped (a b : List Int) : SeqAt.shaped (pairD a b) = true := by
  refine (shaped_seq ?_ ?_).1
  · simp [PyData.canLayAll0, PyData.canLay0, ints_lay]
  · simp [PyData.depthAll, PyData.depth, ints_depth]
theorem pairD_refl (a b : List Int) : PyData.eqv (pairD a b) (pairD a b) = true := SeqAt.eqv_refl _ (SeqAt.canLay_of_shaped (pairD_shaped a b))
theorem dp_pair {K : PySem.W.Frag} {H : Hp} {p x y : Addr} {a b : List Int} (hp : H p = some (.tup [.ref x, .ref y])) (hx : H x = some (.lst (a.map V.int))) (hy : H y = some (.lst (b.map V.int))) : Dp K H (.ref p) (pairD a b) :=
  .tup (SqT.of hp) (.cons (.lst (SqL.of hx) (dp_ints _)) (.cons (.lst (SqL.of hy) (dp_ints _)) .nil))
theorem DrawnRows.fits {R : Nat} {rs : List Rw} (h : DrawnRows R rs) : Fits R rs := fun i r hr => (h i r hr).fit
section
variable {P : Program} {w : World} {K : PySem.W.Frag} {mg : Str → Option Value}
abbrev s_law : Stmt := top 45
theorem sc_law : FnScope ["_law_script", "_law_deal_here", "_law_turn", "_law_wide", "_law_registers", "_law_rows_here", "_law_machine", "_law_code", "_law_again", "_law_inputs", "_law_fills", "_law_at", "_law_kept", "_law_due", "_law_plain"] ["_law_script"] (defScope s_law) := ⟨rfl, rfl, rfl, by decide +kernel, rfl, by decide +kernel, by decide +kernel⟩
theorem ok_law {fa CM CC CI e0 : Addr} (F : LawFn K mg fa s_law) (T : Txt K mg) (cc : CodeCls K mg CC) (C_Code : OwnCls K mg "Code" CC) (C_Machine : OwnCls K mg "Machine" CM) (he0 : ∀ H, SqT K H e0 [])
    (D_law_deal : ∀ base, DefOk P w K mg base 1 "_law_deal" ["_law_script", "_law_base"] (spDeal K)) (D_law_draw : ∀ base, DefOk P w K mg base 1 "_law_draw" ["_law_deal_here", "_law_many"] spDraw)
    (D_law_far_rows : ∀ base, DefOk P w K mg base 5 "_law_far_rows" ["_law_deal_here", "_law_registers", "_law_many"] spFarRows) (D_law_rows : ∀ base, DefOk P w K mg base 4 "_law_rows" ["_law_deal_here", "_law_registers", "_law_many", "_law_skips"] spLawRows) (D_law_point : ∀ base, DefOk P w K mg base 2 "_law_point" ["_law_deal_here", "_law_many"] spPoint)
    (D_law_ran : ∀ base, DefOk P w K mg base 2 "_law_ran" ["_law_rows_here", "_law_width", "_law_registers", "_law_inputs", "_law_fills"] (spRan K)) (D_law_strange_right : ∀ base, DefOk P w K mg base 7 "_law_strange_right" ["_law_deal_here", "_law_rows_here", "_law_wide"] (spStrangeRight K))
    (D_Machine_init : ∀ base, MethOk P w K mg base 1 CM "__init__" ["self", "width", "registers"] (spMachInit CM)) (D_Code_init : ∀ base, MethOk P w K mg base 5 CC "__init__" ["self", "rows"] (spCodeInit K CC))
    (D_run : ∀ base, DefX P w K mg base 5 "run" ["machine", "code", "inputs", "fills"] [] (spRun K CM CC CI)) (D_run_d : ∀ base, DefX P w K mg base 5 "run" ["machine", "code", "inputs", "fills"] [.ref e0] (spRun K CM CC CI)) :
    ∃ fd : FuncData, (∀ (s : Shared) (u : Value), BindsTo s fd ⟨[u], []⟩ [("_law_script", u)]) ∧ ∀ base : Heap, K.In base → base.Ns mainGlobals mg → FnOk P w K mg base CX0 13 fa fd ["_law_script"] (spLaw K) := by
  refine F.ok sc_law (fun base _ _ cdv A outer s H vs Q E hr h => ?_)
  replace D_law_deal := D_law_deal base
  replace D_law_draw := D_law_draw base
  replace D_law_far_rows := D_law_far_rows base
  replace D_law_rows := D_law_rows base
  replace D_law_point := D_law_point base
  replace D_law_ran := D_law_ran base
  replace D_law_strange_right := D_law_strange_right base
  replace D_Machine_init := D_Machine_init base
  replace D_Code_init := D_Code_init base
  replace D_run := D_run base
  replace D_run_d := D_run_d base
  obtain ⟨a, ns, rfl, hS, hlen, k⟩ := h
  refine ⟨_, (pss_cons (ps_set (i := 1) sc_law.nd rfl (.inr rfl) (pe_fn D_law_deal (hr.mono (by decide)) rfl (pa_cons (pv 0) (pa_cons pe_int pa_nil))))
    (pss_cut (ps_for PassesOwn.never rfl (pi_range1 (by rfl) T.b_range (pa_cons (pe_op op_add pe_int (pe_callB call_len_seq (by rfl) T.b_len (by decide +kernel) (pa_cons (pe_slice sl_list (pv 0) po_none (po_some pe_int)) pa_nil))) pa_nil)) (pg_name (i := 2) sc_law.nd rfl (.inl rfl))
    (pss_cons (ps_par (i := 3) (j := 4) (by rfl) sc_law.nd rfl rfl (by decide) rfl rfl (pa_cons (pe_op op_add pe_int (pe_fn D_law_draw (hr.mono (by decide)) rfl (pa_cons (pv 1) (pa_cons pe_int pa_nil)))) (pa_cons (pe_op op_add pe_int (pe_fn D_law_draw (hr.mono (by decide)) rfl (pa_cons (pv 1) (pa_cons pe_int pa_nil)))) pa_nil)) (by rfl))
    (pss_cons (ps_set (i := 5) sc_law.nd rfl (.inl rfl) (pe_fn D_law_far_rows (hr.mono (by decide)) rfl (pa_cons (pv 1) (pa_cons (pv 4) (pa_cons (pe_fn D_law_draw (hr.mono (by decide)) rfl (pa_cons (pv 1) (pa_cons pe_int pa_nil))) pa_nil)))))
    (pss_cut (ps_if (pt_cmpR op_eq (pe_fn D_law_draw (hr.mono (by decide)) rfl (pa_cons (pv 1) (pa_cons pe_int pa_nil))) pe_int (nomark _)) (pss_one (ps_set (i := 5) sc_law.nd rfl (.inl rfl) (pe_fn D_law_rows (hr.mono (by decide)) rfl (pa_cons (pv 1) (pa_cons (pv 4) (pa_cons (pe_op op_add pe_int (pe_fn D_law_draw (hr.mono (by decide)) rfl (pa_cons (pv 1) (pa_cons pe_int pa_nil)))) (pa_cons pe_int pa_nil))))))) pss_nil)
    (pss_cons (ps_par (i := 6) (j := 7) (by rfl) sc_law.nd rfl rfl (by decide) rfl rfl (pa_cons (pe_mk C_Machine D_Machine_init (hr.mono (by decide)) rfl (pa_cons (pv 3) (pa_cons (pv 4) pa_nil))) (pa_cons (pe_mk C_Code D_Code_init (hr.mono (by decide)) rfl (pa_cons (pv 5) pa_nil)) pa_nil)) (by rfl))
    (pss_cut (ps_for PassesOwn.never rfl (pi_range1 (by rfl) T.b_range (pa_cons pe_int pa_nil)) (pg_name (i := 8) sc_law.nd rfl (.inl rfl))
    (pss_cons (ps_set (i := 9) sc_law.nd rfl (.inl rfl) (pe_fn D_law_point (hr.mono (by decide)) rfl (pa_cons (pv 1) (pa_cons (pe_op op_add pe_int (pe_fn D_law_draw (hr.mono (by decide)) rfl (pa_cons (pv 1) (pa_cons pe_int pa_nil)))) pa_nil))))
    (pss_cons (ps_setLc (i := 10) (own := [("_law_at", 11)]) (g := gName 11) (tt := tYes) rfl sc_law.nd rfl rfl (sw_true rfl rfl rfl (by decide +kernel)) (pi_range1 (by rfl) T.b_range (pa_cons (pe_fn D_law_draw (hr.mono (by decide)) rfl (pa_cons (pv 1) (pa_cons pe_int pa_nil))) pa_nil)) (blkOk_by (own := [("_law_at", 11)]) (N := ["_law_script", "_law_deal_here", "_law_turn", "_law_wide", "_law_registers", "_law_rows_here", "_law_machine", "_law_code", "_law_again", "_law_inputs", "_law_fills", "_law_at", "_law_kept", "_law_due", "_law_plain"]) (sc := defScope s_law) (by decide +kernel)) (fun _ _ _ _ _ => (pg_name (i := 11) sc_law.nd rfl (.inl rfl))) (fun _ _ _ _ _ => pts_nil) (fun _ _ _ _ _ => (pe_fn D_law_draw (hr.mono (by decide)) rfl (pa_cons (pv 1) (pa_cons pe_int pa_nil)))))
    (pss_cons (ps_set (i := 12) sc_law.nd rfl (.inl rfl) (pe_tup (pa_cons (pe_callTy call_list_of (by rfl) T.b_list (by decide +kernel) (pa_cons (pv 9) pa_nil)) (pa_cons (pe_callTy call_list_of (by rfl) T.b_list (by decide +kernel) (pa_cons (pv 10) pa_nil)) pa_nil))))
    (pss_cons (ps_set (i := 13) sc_law.nd rfl (.inl rfl) (pe_ix ix_tup (pe_fn D_law_ran (hr.mono (by decide)) rfl (pa_cons (pv 5) (pa_cons (pv 3) (pa_cons (pv 4) (pa_cons (pv 9) (pa_cons (pv 10) pa_nil)))))) pe_int (fun _ _ => rfl)))
    (pss_cons (ps_if (PW.pt (pw_or (pt_cmpR op_ne (pe_callB SkE.call_repr_int (by rfl) T.b_repr (by decide +kernel) (pa_cons (pe_fnE D_run (hr.mono (by decide)) rfl (pa_cons (pv 6) (pa_cons (pv 7) (pa_cons (pv 9) (pa_cons (pv 10) pa_nil))))) pa_nil)) (pe_callB SkE.call_repr_int (by rfl) T.b_repr (by decide +kernel) (pa_cons (pv 13) pa_nil)) (nomark _)) (pw_or1 (pt_cmpR op_ne (pe_fnE D_run (hr.mono (by decide)) rfl (pa_cons (pv 6) (pa_cons (pv 7) (pa_cons (pv 9) (pa_cons (pe_callTy call_tuple_of (by rfl) T.b_tuple (by decide +kernel) (pa_cons (pv 10) pa_nil)) pa_nil))))) (pv 13) (nomark _))))) (pss_one (ps_ret pe_bl)) pss_nil)
    (pss_cons (ps_if (PW.pt (pw_or (pt_cmpR op_ne (pe_fnE D_run (hr.mono (by decide)) rfl (pa_cons (pv 6) (pa_cons (pv 7) (pa_cons (pe_callTy call_tuple_of (by rfl) T.b_tuple (by decide +kernel) (pa_cons (pv 9) pa_nil)) (pa_cons (pe_op op_cat (pv 10) (pe_lst (pa_cons pe_int (pa_cons pe_int pa_nil)))) pa_nil))))) (pv 13) (nomark _)) (pw_or1 (pt_cmpR (op_neD hr.units) (pe_tup (pa_cons (pv 9) (pa_cons (pv 10) pa_nil))) (pv 12) (nomark _))))) (pss_one (ps_ret pe_bl)) pss_nil)
    (pss_cons (ps_set (i := 14) sc_law.nd rfl (.inl rfl) (pe_ix ix_tup (pe_fn D_law_ran (hr.mono (by decide)) rfl (pa_cons (pv 5) (pa_cons (pv 3) (pa_cons (pv 4) (pa_cons (pv 9) (pa_cons (pe_tup pa_nil) pa_nil)))))) pe_int (fun _ _ => rfl)))
    (pss_one (ps_if (PW.pt (pw_or (pt_cmpR op_ne (pe_fnE D_run_d (hr.mono (by decide)) rfl (pa_cons (pv 6) (pa_cons (pv 7) (pa_cons (pv 9) pa_nil)))) (pv 14) (nomark _)) (pw_or1 (pt_cmpR (op_neD hr.units) (pe_fld (pv 7) (by rfl)) (pe_callTy call_tuple_of (by rfl) T.b_tuple (by decide +kernel) (pa_cons (pv 5) pa_nil)) (nomark _))))) (pss_one (ps_ret pe_bl)) pss_nil))))))))))
    (pss_one (ps_if (pt_not (pt_val (pe_fn D_law_strange_right (hr.mono (by decide)) rfl (pa_cons (pv 1) (pa_cons (pv 5) (pa_cons (pv 3) pa_nil)))))) (pss_one (ps_ret pe_bl)) pss_nil))))))))
    (pss_one (ps_ret pe_bl)))), ?_⟩
  refine ⟨_, rfl, a, ns, 0, rfl, hS, hlen, by decide, by decide, fun d l H1 hd0 hl0 D1 s1 => ?_⟩
  refine ⟨fun σ H' => True, ?_, fun σ H' _ => k _⟩
  refine ⟨_, rfl, _, rfl, a, _, rfl, s1.seq hS, fun p hp => ?_⟩
  have hcl := Nat.le_trans (cutV_length (ns.map V.int) none (some 2)) (by rw [List.length_map]; exact hlen)
  refine ⟨p, _, rfl, .inl (SqL.of upd_same), _, _, rfl, rfl, _, rfl, by omega, by omega, ?_⟩
  have D2 := D1.new (o := .lst (cutV (ns.map V.int) none (some 2))) hp
  generalize upd H1 p (.lst (cutV (ns.map V.int) none (some 2))) = H2 at D2
  refine for_range (lo := 0) (fun i σ H' => ∃ v2 v3 v4 v5 v6 v7 v8 v9 v10 v11 v12 v13 v14, σ = [some (.ref a), some (.ref d), v2, v3, v4, v5, v6, v7, v8, v9, v10, v11, v12, v13, v14] ∧ Deal d l H') ⟨_, _, _, _, _, _, _, _, _, _, _, _, _, rfl, D2⟩ ?_ (fun σ H' _ => trivial)
  rintro i σ H3 hi ⟨v2, v3, v4, v5, v6, v7, v8, v9, v10, v11, v12, v13, v14, rfl, D3⟩
  refine ⟨_, rfl, d, l, 61, rfl, D3, by decide, by decide, fun w0 H4 w1 w2 D4 K4 => ⟨_, _, rfl, rfl, ?_⟩⟩
  refine ⟨_, rfl, d, l, 6, rfl, D4, by decide, by decide, fun r0 H5 r1 r2 D5 K5 => ⟨_, _, rfl, rfl, _, _, rfl, ?_⟩⟩
  obtain ⟨W, eW, hW⟩ : ∃ W : Nat, (4 : Int) + w0 = (W : Nat) ∧ (1 ≤ W ∧ W ≤ 64) := ⟨(4 + w0).toNat, by omega, by omega⟩
  obtain ⟨R, eR, hR⟩ : ∃ R : Nat, (3 : Int) + r0 = (R : Nat) ∧ (3 ≤ R ∧ R ≤ 8) := ⟨(3 + r0).toNat, by omega, by omega⟩
  have e1 : (fun i j : Int => V.int (i + j)) 4 w0 = V.int (W : Nat) := congrArg V.int eW
  have e2 : (fun i j : Int => V.int (i + j)) 3 r0 = V.int (R : Nat) := congrArg V.int eR
  rw [e1, e2]
  -- rows
  refine ⟨_, rfl, _, rfl, _, rfl, d, l, 15, rfl, D5, by decide, by decide, fun m0 H6 m1 m2 D6 K6 => ?_⟩
  obtain ⟨many, rfl⟩ : ∃ many : Nat, m0 = many := ⟨m0.toNat, by omega⟩
  refine ⟨d, l, R, many, rfl, D6, ⟨by omega, by omega⟩, by omega, fun rs0 H7 L0 ys0 hl0' hdr0 D7 K7 hL0 g0 hY0 => ?_⟩
  have nL0 := D6.fresh hL0
  refine ⟨fun σ H' => ∃ (L : Addr) (ys : List V) (rs : List Rw), σ = [some (.ref a), some (.ref d), some (.int (0 + i)), some (.int W), some (.int R), some (.ref L), v6, v7, v8, v9, v10, v11, v12, v13, v14] ∧ DrawnRows R rs ∧ rs.length ≤ 15 ∧ H' L = some (.lst ys) ∧ RowsAt H' ys rs ∧ Deal d l H' ∧ L ≠ d ∧ L ≠ l, ?_, ?_⟩
  · refine ⟨_, rfl, d, l, 2, rfl, D7, by decide, by decide, fun b0 H8 b1 b2 D8 K8 => ⟨rfl, _, rfl, ?_⟩⟩
    refine ite2 (fun h => ?_) (fun h => ?_)
    · refine ⟨_, rfl, _, rfl, _, rfl, d, l, 14, rfl, D8, by decide, by decide, fun n0 H9 n1 n2 D9 K9 => ⟨_, _, rfl, rfl, ?_⟩⟩
      obtain ⟨many, em⟩ : ∃ many : Nat, (1 : Int) + n0 = many := ⟨(1 + n0).toNat, by omega⟩
      refine ⟨d, l, R, many, 8, (by rw [← em]; rfl), D9, ⟨by omega, by omega⟩, by omega, fun rs H10 L ys hl' hdr D10 K10 hL g hY => ?_⟩
      have nL := D9.fresh hL
      exact ⟨L, ys, rs, rfl, hdr, by omega, g, hY, D10, nL.1, nL.2⟩
    · exact ⟨L0, ys0, rs0, rfl, hdr0, by omega, K8 _ _ g0 nL0.1 nL0.2, hY0.keep K8 D7, D8, nL0.1, nL0.2⟩
  rintro σ H8 ⟨L, ys, rs, rfl, hdr, hfew, g8, hY8, D8, nL1, nL2⟩
  have ok : CodeOk rs := hdr.code (by omega) (by omega)
  have fits := hdr.fits
  have nobig : ∀ (i : Nat) r, rs[i]? = some r → big R r = false := fun i r hr => (fits i r hr).small
  -- machine, code
  refine ⟨_, rfl, _, rfl, ?_⟩
  intro mc dm hmc hdm _
  refine mkMach hmc hdm fun H9 s9 hM9 => ⟨rfl, ?_⟩
  refine ⟨_, rfl, ?_⟩
  intro c dc hc hdc _
  refine mkCode hc hdc (.inl (SqL.of (s9 _ _ g8))) (hY8.same s9) ok fun H10 pc s10 hC10 => ⟨rfl, _, _, rfl, ?_⟩
  have s910 := s9.trans s10
  have g10 := s910 _ _ g8
  have hY10 := hY8.same s910
  have D10 := D8.same s910
  have hM10 := hM9.same s10
  refine ⟨fun σ H' => ∃ v8 v9 v10 v11 v12 v13 v14, σ = [some (.ref a), some (.ref d), some (.int (0 + i)), some (.int W), some (.int R), some (.ref L), some (.ref mc), some (.ref c), v8, v9, v10, v11, v12, v13, v14] ∧ Deal d l H' ∧ H' L = some (.lst ys) ∧ RowsAt H' ys rs, ?_, ?_⟩
  · refine ⟨4, rfl, by decide, by decide, ?_⟩
    refine for_range (lo := 0) (n := 4) (fun j σ H' => ∃ v8 v9 v10 v11 v12 v13 v14, σ = [some (.ref a), some (.ref d), some (.int (0 + i)), some (.int W), some (.int R), some (.ref L), some (.ref mc), some (.ref c), v8, v9, v10, v11, v12, v13, v14] ∧ Deal d l H' ∧ H' L = some (.lst ys) ∧ RowsAt H' ys rs ∧ MachAt CM H' mc W R ∧ CodeAt K CC H' c pc rs)
      ⟨_, _, _, _, _, _, _, rfl, D10, g10, hY10, hM10, hC10⟩ ?_ (fun σ H' ⟨v8, v9, v10, v11, v12, v13, v14, e, D, g, hY, _, _⟩ => ⟨v8, v9, v10, v11, v12, v13, v14, e, D, g, hY⟩)
    rintro j σ H11 hj ⟨u8, u9, u10, u11, u12, u13, u14, rfl, D11, g11, hY11, hM11, hC11⟩
    refine ⟨_, rfl, _, rfl, d, l, 3, rfl, D11, by decide, by decide, fun n0 H12 n1 n2 D12 K12 => ⟨_, _, rfl, rfl, ?_⟩⟩
    obtain ⟨nI, eI⟩ : ∃ nI : Nat, (1 : Int) + n0 = nI := ⟨(1 + n0).toNat, by omega⟩
    refine ⟨d, l, nI, (by rw [← eI]; rfl), D12, by omega, fun inp H13 LI hil hib D13 K13 hLI gI => ?_⟩
    have nLI := D12.fresh hLI
    have K1113 := K12.trans K13
    -- fills
    refine ⟨_, rfl, d, l, 9, rfl, D13, by decide, by decide, fun f0 H14 f1 f2 D14 K14 => ⟨_, rfl, by omega, by omega, fun LF hLF => ?_⟩⟩
    have nLF := D14.fresh hLF
    have K1114 := K1113.trans K14
    refine lc_range (lo := 0) (fun i H' => ∃ fl : List Int, fl.length = i ∧ Fills fl ∧ H' LF = some (.lst (fl.map V.int)) ∧ Deal d l H' ∧ Keep d l H14 H') ⟨[], rfl, fun f h => by simp at h, upd_same, D14.new hLF, Keep.refl.new hLF⟩ ?_ ?_
    · rintro i H15 hi ⟨fl, hl, hf, gF, D15, K15⟩
      refine ⟨rfl, ?_⟩
      refine ⟨_, rfl, d, l, 2, rfl, D15, by decide, by decide, fun x H16 x0 x1 D16 K16 => ?_⟩
      have gF6 := K16 _ _ gF nLF.1 nLF.2
      refine ⟨_, gF6, szK (by rw [List.length_map]; omega), fl ++ [x], by rw [List.length_append, hl] <;> rfl, fun f h => ?_, by rw [upd_same, List.map_append] <;> rfl, D16.upd nLF.1 nLF.2, (K15.trans K16).mut hLF⟩
      rcases List.mem_append.mp h with q | q
      · exact hf f q
      · rw [List.mem_singleton.mp q]
        omega
    rintro H15 ⟨fl, hfl0, hfl, gF, D15, K15⟩
    have K1115 := K1114.trans K15
    have gI15 := (K14.trans K15) _ _ gI nLI.1 nLI.2
    have g15 := K1115 _ _ g11 nL1 nL2
    have hY15 := hY11.keep K1115 D11
    have hM15 := hM11.keep K1115 D11
    have hC15 := hC11.keep K1115 D11
    have hil' : inp.length ≤ R := by omega
    have hrange := fun fl' => outM_range (fl := fl') (rs := rs) hW.2 (by omega : 0 < R) hil' fits
    clear K1115 K1114 K1113 K15 K14 K13 K12
    -- kept
    refine ⟨_, rfl, LI, _, rfl, .inl (SqL.of gI15), fun A1 hA1 => ?_⟩
    refine ⟨_, rfl, LF, _, rfl, .inl (SqL.of ((same_new hA1) _ _ gF)), fun A2 hA2 => ?_⟩
    refine ⟨(by show 2 ≤ sizeLine; decide), fun PK hPK => ?_⟩
    have s16 := ((same_new (o := .lst (inp.map V.int)) hA1).trans (same_new (o := .lst (fl.map V.int)) hA2)).trans (same_new (o := .tup [.ref A1, .ref A2]) hPK)
    have gK : upd (upd (upd H15 A1 (.lst (inp.map V.int))) A2 (.lst (fl.map V.int))) PK (.tup [.ref A1, .ref A2]) PK = some (.tup [.ref A1, .ref A2]) := upd_same
    have gA1 : upd (upd (upd H15 A1 (.lst (inp.map V.int))) A2 (.lst (fl.map V.int))) PK (.tup [.ref A1, .ref A2]) A1 = some (.lst (inp.map V.int)) := (same_new hPK) _ _ ((same_new hA2) _ _ upd_same)
    have gA2 : upd (upd (upd H15 A1 (.lst (inp.map V.int))) A2 (.lst (fl.map V.int))) PK (.tup [.ref A1, .ref A2]) A2 = some (.lst (fl.map V.int)) := (same_new hPK) _ _ upd_same
    have gI16 := s16 _ _ gI15
    have gF16 := s16 _ _ gF
    have g16 := s16 _ _ g15
    have hY16 := hY15.same s16
    have hM16 := hM15.same s16
    have hC16 := hC15.same s16
    have D16 := D15.same s16
    generalize upd (upd (upd H15 A1 (.lst (inp.map V.int))) A2 (.lst (fl.map V.int))) PK (.tup [.ref A1, .ref A2]) = H16 at gK gA1 gA2 gI16 gF16 g16 hY16 hM16 hC16 D16
    -- due
    refine ⟨_, rfl, _, rfl, _, rfl, _, rfl, _, rfl, L, LI, LF, W, R, ys, rs, inp, fl, rfl, SqL.of g16, hY16, hW, ⟨by omega, by omega⟩, hil', SqL.of gI16, .inl (SqL.of gF16), hfl, fits, by omega, fun H17 pd nd s17 hpd gd => ?_⟩
    refine ⟨pd, _, _, _, rfl, rfl, SqT.of gd, atI_nat (j := 0) rfl, ?_⟩
    -- the first tests
    refine ⟨_, rfl, _, rfl, _, rfl, _, rfl, mc, c, pc, LI, LF, W, R, rs, rfl, hM16.same s17, hC16.same s17, ok, hW.2, ⟨by omega, by omega⟩, .inl ⟨fits, nobig, inp, fl, .inl (SqL.of (s17 _ _ gI16)), hil', .inl (SqL.of (s17 _ _ gF16)), hfl, fun H18 s18 => ?_⟩⟩
    refine ⟨_, rfl, hrange fl, ?_⟩
    refine ⟨_, rfl, _, rfl, hrange fl, rfl, _, rfl, ?_⟩
    refine ifF (by simp) ?_
    have s1618 := s17.trans s18
    refine ⟨_, rfl, _, rfl, _, rfl, _, rfl, LF, _, rfl, .inl ⟨SqL.of (s1618 _ _ gF16), fun TF hTF => ?_⟩⟩
    have s19 := s1618.trans (same_new (o := .tup (fl.map V.int)) hTF)
    refine ⟨mc, c, pc, LI, TF, W, R, rs, rfl, hM16.same s19, hC16.same s19, ok, hW.2, ⟨by omega, by omega⟩, .inl ⟨fits, nobig, inp, fl, .inl (SqL.of (s19 _ _ gI16)), hil', .inr (SqT.of upd_same), hfl, fun H20 s20 => ?_⟩⟩
    refine ⟨_, rfl, rfl, _, rfl, ?_⟩
    refine ifF (by simp) ?_
    have s1620 := s19.trans s20
    -- the second tests
    refine ⟨_, rfl, _, rfl, _, rfl, LI, _, rfl, .inl ⟨SqL.of (s1620 _ _ gI16), fun TI hTI => ?_⟩⟩
    have s21 := s1620.trans (same_new (o := .tup (inp.map V.int)) hTI)
    refine ⟨_, rfl, (by show 2 ≤ sizeLine; decide), fun L22 hL22 => ?_⟩
    have s22 := s21.trans (same_new (o := .lst [.int 0, .int 0]) hL22)
    refine ⟨LF, L22, _, _, rfl, rfl, s22 _ _ gF16, upd_same, szL (by rw [List.length_map]; show _ + 2 ≤ 100000; omega), fun L23 hL23 => ?_⟩
    have s23 := s22.trans (same_new (o := .lst (fl.map V.int ++ [.int 0, .int 0])) hL23)
    have gT : upd (upd (upd H20 TI (.tup (inp.map V.int))) L22 (.lst [.int 0, .int 0])) L23 (.lst (fl.map V.int ++ [.int 0, .int 0])) TI = some (.tup (inp.map V.int)) := (same_new hL23) _ _ ((same_new hL22) _ _ upd_same)
    have gL : upd (upd (upd H20 TI (.tup (inp.map V.int))) L22 (.lst [.int 0, .int 0])) L23 (.lst (fl.map V.int ++ [.int 0, .int 0])) L23 = some (.lst ((fl ++ [0, 0]).map V.int)) := by
      rw [upd_same, List.map_append]
      rfl
    generalize upd (upd (upd H20 TI (.tup (inp.map V.int))) L22 (.lst [.int 0, .int 0])) L23 (.lst (fl.map V.int ++ [.int 0, .int 0])) = H23 at s23 gT gL
    have hfl2 : Fills (fl ++ [0, 0]) := fun f h => by
      rcases List.mem_append.mp h with q | q
      · exact hfl f q
      · have : f = 0 ∨ f = 0 := by simpa using q
        exact .inl (this.elim id id)
    refine ⟨mc, c, pc, TI, L23, W, R, rs, rfl, hM16.same s23, hC16.same s23, ok, hW.2, ⟨by omega, by omega⟩, .inl ⟨fits, nobig, inp, fl ++ [0, 0], .inr (SqT.of gT), hil', .inl (SqL.of gL), hfl2, fun H24 s24 => ?_⟩⟩
    rw [outM_more]
    refine ⟨_, rfl, rfl, _, rfl, ?_⟩
    refine ifF (by simp) ?_
    have s1624 := s23.trans s24
    refine ⟨_, rfl, _, rfl, (by show 2 ≤ sizeLine; decide), fun P25 hP25 => ?_⟩
    have s25 := s1624.trans (same_new (o := .tup [.ref LI, .ref LF]) hP25)
    refine ⟨_, rfl, pairD inp fl, pairD inp fl, dp_pair upd_same (s25 _ _ gI16) (s25 _ _ gF16), dp_pair (s25 _ _ gK) (s25 _ _ gA1) (s25 _ _ gA2), pairD_shaped _ _, pairD_shaped _ _, _, rfl, ?_⟩
    refine ifF (by rw [pairD_refl]; rfl) ?_
    generalize upd H24 P25 (.tup [.ref LI, .ref LF]) = H25 at s25
    -- plain
    refine ⟨_, rfl, _, rfl, _, rfl, _, rfl, (by show 0 ≤ sizeLine; decide), fun P26 hP26 => ?_⟩
    have s26 := s25.trans (same_new (o := .tup []) hP26)
    refine ⟨L, LI, P26, W, R, ys, rs, inp, [], rfl, SqL.of (s26 _ _ g16), hY16.same s26, hW, ⟨by omega, by omega⟩, hil', SqL.of (s26 _ _ gI16), .inr (SqT.of upd_same), fun f h => by simp at h, fits, by omega, fun H27 pp np s27 hpp gp => ?_⟩
    have s1627 := s26.trans s27
    refine ⟨pp, _, _, _, rfl, rfl, SqT.of gp, atI_nat (j := 0) rfl, ?_⟩
    refine ⟨_, rfl, _, rfl, _, rfl, mc, c, pc, LI, e0, W, R, rs, rfl, hM16.same s1627, hC16.same s1627, ok, hW.2, ⟨by omega, by omega⟩, .inl ⟨fits, nobig, inp, [], .inl (SqL.of (s1627 _ _ gI16)), hil', .inr (he0 _), fun f h => by simp at h, fun H28 s28 => ?_⟩⟩
    refine ⟨_, rfl, rfl, _, rfl, ?_⟩
    refine ifF (by simp) ?_
    have s1628 := s1627.trans s28
    have hC28 := hC16.same s1628
    obtain ⟨dxc, xc, c1, c2, c3⟩ := id hC28
    refine ⟨_, rfl, c, CC, dxc, _, _, rfl, c1, cc.own.cl, cc.nR, codeF_rows pc, ?_⟩
    refine ⟨_, rfl, L, ys, rfl, .inl ⟨SqL.of (s1628 _ _ g16), fun q hq => ?_⟩⟩
    have t29 := same_new (o := .tup ys) hq
    refine ⟨rowsD _, rowsD _, .tup (sqT_same t29 c2) (dp_rows (c3.same t29)), .tup (SqT.of upd_same) (dp_rows ((hY16.same s1628).same t29)), rowsD_shaped ok.words, rowsD_shaped ok.words, _, rfl, ?_⟩
    refine ifF (by rw [rowsD_refl ok.words]; rfl) ?_
    have s1629 := s1628.trans t29
    exact ⟨_, _, _, _, _, _, _, rfl, D16.same s1629, s1629 _ _ g16, hY16.same s1629, hM16.same s1629, hC16.same s1629⟩
  rintro σ H11 ⟨u8, u9, u10, u11, u12, u13, u14, rfl, D11, g11, hY11⟩
  refine ⟨_, rfl, _, rfl, _, rfl, d, l, L, W, R, ys, rs, rfl, D11, ⟨nL1, nL2⟩, g11, hY11, hdr, by omega, by omega, hW.2, fun H12 D12 K12 => ?_⟩
  refine ⟨_, rfl, ?_⟩
  exact ⟨_, _, _, _, _, _, _, _, _, _, _, _, _, rfl, D12⟩
end
end LB
set_option Elab.async false
set_option linter.all false
set_option autoImplicit false
set_option maxRecDepth 100000
set_option maxHeartbeats 4000000
namespace LB
open PySem PySem.Spec PyProof.Rows L2
def FormIn (K : PySem.W.Frag) (d : Addr) (z : Str) (fs : List Str) : Prop := ∃ t, PySem.W.nsIn K d z = some (some (.ref t)) ∧ ∀ H, SqT K H t (fs.map V.str)
theorem form_mk {K : PySem.W.Frag} {d t : Addr} {z : Str} {fs : List Str} {od : Option Addr} {its : Array Value} {n : Nat} {sl : Array (Option Value)} (g : PySem.W.nsIn K d z = some (some (.ref t)))
    (l : K.lookup t = some ⟨.type "tuple", od, .seq its n, sl⟩) (hz : its.size ≤ sizeLine) (v : Vals (fs.map V.str) its.toList) : FormIn K d z fs :=
  ⟨t, g, fun H => .inr ⟨_, its, n, l, rfl, rfl, hz, v⟩⟩
theorem forms_mk {K : PySem.W.Frag} {w : World} {mg : Str → Option Value} {h : Heap} {d : Addr} {es : Array DictEntry} {n : Nat} (X : K.In h) (G : h.Ns mainGlobals mg) (a : PySem.W.nsIn K mainGlobals "FORMS" = some (some (.ref d)))
    (l : K.lookup d = some ⟨.type "dict", none, .dict es n, #[]⟩) (lit : PySem.W.KeysLit w.params es.toList) (low : (d == sysModules) = false)
    (h1 : FormIn K d "set" ["register", "number"]) (h2 : FormIn K d "copy" ["register", "register"]) (h3 : FormIn K d "add" ["register", "register", "register"]) (h4 : FormIn K d "sub" ["register", "register", "register"]) (h5 : FormIn K d "mul" ["register", "register", "register"])
    (h6 : FormIn K d "left" ["register", "register"]) (h7 : FormIn K d "right" ["register", "register"]) (h8 : FormIn K d "load" ["register", "slot"]) (h9 : FormIn K d "store" ["slot", "register"]) (h10 : FormIn K d "skip" ["register", "modulus", "rest", "count"]) :
    ∃ d es n, FormsAt K w mg d es n := by
  refine ⟨d, es, n, PySem.W.mg_of X G a, ⟨l, lit, low⟩, fun p hp => ?_⟩
  simp only [forms, List.mem_cons, List.not_mem_nil, or_false] at hp
  rcases hp with rfl | rfl | rfl | rfl | rfl | rfl | rfl | rfl | rfl | rfl
  · exact h1
  · exact h2
  · exact h3
  · exact h4
  · exact h5
  · exact h6
  · exact h7
  · exact h8
  · exact h9
  · exact h10
end LB
set_option Elab.async false
set_option linter.all false
set_option autoImplicit false
set_option maxRecDepth 100000
set_option maxHeartbeats 4000000
namespace LB
open PySem PySem.Spec PyProof.Rows L2
structure TC_Code (K : PySem.W.Frag) (mg : Str → Option Value) (C : Addr) : Prop where
  own : OwnCls K mg "Code" C
  n_rows : PySem.W.findIn K (.ref C) "rows" = some none
  m_init : TopMeth K C "__init__" "Code.__init__" s_Code_init ["self", "rows"]
structure TC_Machine (K : PySem.W.Frag) (mg : Str → Option Value) (C : Addr) : Prop where
  own : OwnCls K mg "Machine" C
  n_width : PySem.W.findIn K (.ref C) "width" = some none
  n_registers : PySem.W.findIn K (.ref C) "registers" = some none
  m_init : TopMeth K C "__init__" "Machine.__init__" s_Machine_init ["self", "width", "registers"]
structure TC_Runner (K : PySem.W.Frag) (mg : Str → Option Value) (C : Addr) : Prop where
  own : OwnCls K mg "Runner" C
  n_modulus : PySem.W.findIn K (.ref C) "modulus" = some none
  n_rows : PySem.W.findIn K (.ref C) "rows" = some none
  n_fills : PySem.W.findIn K (.ref C) "fills" = some none
  n_registers : PySem.W.findIn K (.ref C) "registers" = some none
  n_slots : PySem.W.findIn K (.ref C) "slots" = some none
  n_at : PySem.W.findIn K (.ref C) "at" = some none
  n_rights : PySem.W.findIn K (.ref C) "rights" = some none
  m_init : TopMeth K C "__init__" "Runner.__init__" s_Runner_init ["self", "machine", "rows", "inputs", "fills"]
  m_fill : TopMeth K C "fill" "Runner.fill" s_Runner_fill ["self"]
  m_computed : TopMeth K C "computed" "Runner.computed" s_Runner_computed ["self", "row"]
  m_advance : TopMeth K C "advance" "Runner.advance" s_Runner_advance ["self"]
structure TX_InvalidCode (K : PySem.W.Frag) (mg : Str → Option Value) (C : Addr) : Prop where
  xc : ExcCls K mg "InvalidCode" C
  n_word : PySem.W.findIn K (.ref C) "word" = some none
  n_row : PySem.W.findIn K (.ref C) "row" = some none
  m_init : TopMeth K C "__init__" "InvalidCode.__init__" s_InvalidCode_init ["self", "word", "row"]
theorem all_mk {P : Program} {w : World} {K : PySem.W.Frag} {mg : Str → Option Value} {fa : Addr} (L : LawFn K mg fa s_law) (T : TxtR K mg) (FE : ∃ d es n, FormsAt K w mg d es n) (LE : ∃ L, LowTxt K mg L) (E_Code : ∃ C, TC_Code K mg C) (E_Machine : ∃ C, TC_Machine K mg C) (E_Runner : ∃ C, TC_Runner K mg C) (E_InvalidCode : ∃ C, TX_InvalidCode K mg C) (t_is_integer : TopFn K mg "is_integer" s_is_integer ["value"]) (t_is_modulus : TopFn K mg "is_modulus" s_is_modulus ["number"]) (t_is_within : TopFn K mg "is_within" s_is_within ["form", "number"]) (t_is_row : TopFn K mg "is_row" s_is_row ["row"]) (t_check_rows : TopFn K mg "check_rows" s_check_rows ["rows"]) (t_registers_of : TopFn K mg "registers_of" s_registers_of ["row"]) (t_need_registers : TopFn K mg "need_registers" s_need_registers ["machine", "code"]) (t_law_deal : TopFn K mg "_law_deal" s_law_deal ["_law_script", "_law_base"]) (t_law_draw : TopFn K mg "_law_draw" s_law_draw ["_law_deal_here", "_law_many"]) (t_law_number : TopFn K mg "_law_number" s_law_number ["_law_deal_here"]) (t_law_point : TopFn K mg "_law_point" s_law_point ["_law_deal_here", "_law_many"]) (t_law_computed : TopFn K mg "_law_computed" s_law_computed ["_law_row_here", "_law_numbers_here", "_law_slots", "_law_fill", "_law_width"]) (t_law_ran : TopFn K mg "_law_ran" s_law_ran ["_law_rows_here", "_law_width", "_law_registers", "_law_inputs", "_law_fills"]) (t_law_row : TopFn K mg "_law_row" s_law_row ["_law_deal_here", "_law_registers", "_law_left"]) (t_law_rows : TopFn K mg "_law_rows" s_law_rows ["_law_deal_here", "_law_registers", "_law_many", "_law_skips"]) (t_law_far_row : TopFn K mg "_law_far_row" s_law_far_row ["_law_deal_here", "_law_registers", "_law_left"]) (t_law_far_rows : TopFn K mg "_law_far_rows" s_law_far_rows ["_law_deal_here", "_law_registers", "_law_many"]) (t_law_told : TopFn K mg "_law_told" s_law_told ["_law_machine", "_law_code", "_law_inputs", "_law_fills"]) (t_law_strange : TopFn K mg "_law_strange" s_law_strange ["_law_deal_here", "_law_count"]) (t_law_strange_right : TopFn K mg "_law_strange_right" s_law_strange_right ["_law_deal_here", "_law_rows_here", "_law_wide"]) (t_law_numbers : TopFn K mg "_law_numbers" s_law_numbers ["_law_row_here"]) (t_run : ∃ e0, TopFnD K mg "run" s_run ["machine", "code", "inputs", "fills"] [.ref e0] ∧ ∀ H, SqT K H e0 []) :
    ∃ fd : FuncData, (∀ (s : Shared) (u : Value), BindsTo s fd ⟨[u], []⟩ [("_law_script", u)]) ∧ ∀ base : Heap, K.In base → base.Ns mainGlobals mg → FnOk P w K mg base CX0 13 fa fd ["_law_script"] (spLaw K) := by
  obtain ⟨d, es, n, FA⟩ := FE
  obtain ⟨L0, LT⟩ := LE
  obtain ⟨A_Code, c_Code⟩ := E_Code
  obtain ⟨A_Machine, c_Machine⟩ := E_Machine
  obtain ⟨A_Runner, c_Runner⟩ := E_Runner
  obtain ⟨A_InvalidCode, c_InvalidCode⟩ := E_InvalidCode
  obtain ⟨e0, t_run, he0⟩ := t_run
  have CC : CodeCls K mg A_Code := ⟨c_Code.own, c_Code.n_rows⟩
  have MC : MachCls K mg A_Machine := ⟨c_Machine.own, c_Machine.n_width, c_Machine.n_registers⟩
  have RC : RunCls K mg A_Runner := ⟨c_Runner.own, c_Runner.n_modulus, c_Runner.n_rows, c_Runner.n_fills, c_Runner.n_registers, c_Runner.n_slots, c_Runner.n_at, c_Runner.n_rights⟩
  have D1 := fun base => ok_is_integer (P := P) (w := w) (mg := mg) (base := base) t_is_integer T
  have D2 := fun base => ok_is_modulus (P := P) (w := w) (mg := mg) (base := base) t_is_modulus T
  have D3 := fun base => ok_is_within (P := P) (w := w) (mg := mg) (base := base) t_is_within T (D2 base)
  have D4 := fun base => ok_is_row (P := P) (w := w) (mg := mg) (base := base) t_is_row T FA (D1 base) (D3 base)
  have D5 := fun base => ok_check_rows (P := P) (w := w) (mg := mg) (base := base) t_check_rows T (D4 base)
  have D6 := fun base => ok_Code_init (P := P) (w := w) (mg := mg) (base := base) c_Code.m_init T CC (D5 base)
  have D7 := fun base => ok_registers_of (P := P) (w := w) (mg := mg) (base := base) t_registers_of T FA
  have D8 := fun base => ok_InvalidCode_init (P := P) (w := w) (mg := mg) (base := base) c_InvalidCode.m_init LT c_InvalidCode.xc c_InvalidCode.n_word c_InvalidCode.n_row
  have D9 := fun base => ok_Machine_init (P := P) (w := w) (mg := mg) (base := base) c_Machine.m_init MC
  have D10 := fun base => ok_need_registers (P := P) (w := w) (mg := mg) (base := base) t_need_registers T MC CC c_InvalidCode.xc (D8 base) (D7 base)
  have D11 := fun base => ok_Runner_fill (P := P) (w := w) (mg := mg) (base := base) c_Runner.m_fill T RC
  have D12 := fun base => ok_Runner_computed (P := P) (w := w) (mg := mg) (base := base) c_Runner.m_computed T RC RC.own (D11 base)
  have D13 := fun base => ok_Runner_advance (P := P) (w := w) (mg := mg) (base := base) c_Runner.m_advance RC RC.own (D12 base)
  have D14 := fun base => ok_Runner_init (P := P) (w := w) (mg := mg) (base := base) c_Runner.m_init T RC MC
  have D15 := fun base => ok_run (P := P) (w := w) (mg := mg) (base := base) t_run T MC CC RC RC.own (D10 base) (D14 base) (D13 base)
  have E1 := fun base => ok_law_deal (P := P) (w := w) (mg := mg) (base := base) t_law_deal T.toTxt
  have E2 := fun base => ok_law_draw (P := P) (w := w) (mg := mg) (base := base) t_law_draw T.toTxt
  have E3 := fun base => ok_law_number (P := P) (w := w) (mg := mg) (base := base) t_law_number (E2 base)
  have E4 := fun base => ok_law_row (P := P) (w := w) (mg := mg) (base := base) t_law_row T.toTxt (E2 base) (E3 base)
  have E5 := fun base => ok_law_far_row (P := P) (w := w) (mg := mg) (base := base) t_law_far_row (E2 base) (E4 base)
  have E6 := fun base => ok_law_far_rows (P := P) (w := w) (mg := mg) (base := base) t_law_far_rows T.toTxt (E5 base)
  have E7 := fun base => ok_law_point (P := P) (w := w) (mg := mg) (base := base) t_law_point T.toTxt (E2 base)
  have E8 := fun base => ok_law_computed (P := P) (w := w) (mg := mg) (base := base) t_law_computed
  have E9 := fun base => ok_law_ran (P := P) (w := w) (mg := mg) (base := base) t_law_ran T.toTxt (E8 base)
  have E10 := fun base => ok_law_rows (P := P) (w := w) (mg := mg) (base := base) t_law_rows T.toTxt (E4 base)
  have E11 := fun base => ok_law_told (P := P) (w := w) (mg := mg) (base := base) t_law_told c_InvalidCode.xc c_InvalidCode.n_word c_InvalidCode.n_row (D15 base).1
  have E12 := fun base => ok_law_strange (P := P) (w := w) (mg := mg) (base := base) t_law_strange (E2 base)
  have E13 := fun base => ok_law_numbers (P := P) (w := w) (mg := mg) (base := base) t_law_numbers T.toTxt
  have E14 := fun base => ok_law_strange_right (P := P) (w := w) (mg := mg) (base := base) t_law_strange_right T.toTxt MC.own CC.own (E2 base) (E13 base) (E12 base) (E11 base) (D9 base) (D6 base)
  exact ok_law L T.toTxt CC CC.own MC.own he0 E1 E2 E6 E10 E7 E9 E14 D9 D6 (fun base => (D15 base).1) (fun base => (D15 base).2)
end LB
section
set_option Elab.async false
set_option maxRecDepth 100000
open PySem PySem.W PyProof.Rows
set_option maxHeartbeats 0
open_top head for PySem.Challenge.rw_lowsure_k57_code_that_is_run
end
set_option Elab.async false
set_option linter.all false
set_option maxRecDepth 100000
open PySem PySem.W PyProof.Rows in
set_option maxRecDepth 100000 in
set_option maxHeartbeats 0 in
theorem PySem.Challenge.cw_lowsure_k57_code_that_is_run_holds : PySem.Challenge.rw_lowsure_k57_code_that_is_run.Holds :=
  head (by
    k_fill
    refine LB.walk (l := PySem.Challenge.rw_lowsure_k57_code_that_is_run) (k := 13) ⟨rfl, by decide, by decide⟩ rfl rfl (fun w h Y => PySem.W.kIn_of Y) ?F
    case F =>
      intro w mg fa h KX G hmg
      refine' LB.all_mk ?L ⟨?T, ?c1, ?c2, ?c3, ?c4, ?c5⟩ ?FE ?LE ?E_Code ?E_Machine ?E_Runner ?E_InvalidCode ?t_is_integer ?t_is_modulus ?t_is_within ?t_is_row ?t_check_rows ?t_registers_of ?t_need_registers ?t_law_deal ?t_law_draw ?t_law_number ?t_law_point ?t_law_computed ?t_law_ran ?t_law_row ?t_law_rows ?t_law_far_row ?t_law_far_rows ?t_law_told ?t_law_strange ?t_law_strange_right ?t_law_numbers ?t_run
      case L =>
        refine' LB.lawFn_mk KX G hmg (fun _ _ _ _ _ _ _ => rfl) ?a ?l ?c ?k
        (case a => k_is)
        (case l => k_is)
        (case c => k_is)
        (case k => k_is)
      case T =>
        exact ⟨PySem.W.mg_none_of KX G (by k_is), PySem.W.mg_none_of KX G (by k_is), PySem.W.mg_none_of KX G (by k_is), PySem.W.mg_none_of KX G (by k_is), PySem.W.mg_none_of KX G (by k_is), PySem.W.mg_none_of KX G (by k_is), PySem.W.mg_none_of KX G (by k_is), PySem.W.mg_none_of KX G (by k_is), PySem.W.mg_none_of KX G (by k_is), PySem.W.mg_none_of KX G (by k_is), PySem.W.mg_none_of KX G (by k_is), PySem.W.mg_none_of KX G (by k_is), PySem.W.mg_none_of KX G (by k_is), PySem.W.mg_none_of KX G (by k_is), PySem.W.mg_none_of KX G (by k_is), PySem.W.mg_none_of KX G (by k_is), PySem.W.mg_none_of KX G (by k_is), PySem.W.mg_none_of KX G (by k_is), PySem.W.mg_none_of KX G (by k_is), PySem.W.mg_none_of KX G (by k_is), PySem.W.mg_none_of KX G (by k_is), PySem.W.mg_none_of KX G (by k_is), PySem.W.mg_none_of KX G (by k_is), PySem.W.mg_none_of KX G (by k_is), PySem.W.mg_none_of KX G (by k_is)⟩
      case c1 =>
        exact ⟨_, PySem.W.mg_of KX G (by k_is)⟩
      case c2 =>
        exact ⟨_, PySem.W.mg_of KX G (by k_is)⟩
      case c3 =>
        exact ⟨_, PySem.W.mg_of KX G (by k_is)⟩
      case c4 =>
        exact ⟨_, PySem.W.mg_of KX G (by k_is)⟩
      case c5 =>
        exact ⟨_, PySem.W.mg_of KX G (by k_is)⟩
      case FE =>
        refine' LB.forms_mk KX G ?a ?l ?lit ?low ?h1 ?h2 ?h3 ?h4 ?h5 ?h6 ?h7 ?h8 ?h9 ?h10
        (case a => k_is)
        (case l => k_is)
        (case lit => repeat (first | exact trivial | refine ⟨⟨_, _, rfl, rfl⟩, ?_⟩))
        (case low => decide)
        case h1 =>
          refine' LB.form_mk ?g ?l ?z ?v
          (case g => k_is)
          (case l => k_is)
          (case z => decide)
          (case v => exact (.cons ⟨_, rfl⟩ (.cons ⟨_, rfl⟩ .nil)))
        case h2 =>
          refine' LB.form_mk ?g ?l ?z ?v
          (case g => k_is)
          (case l => k_is)
          (case z => decide)
          (case v => exact (.cons ⟨_, rfl⟩ (.cons ⟨_, rfl⟩ .nil)))
        case h3 =>
          refine' LB.form_mk ?g ?l ?z ?v
          (case g => k_is)
          (case l => k_is)
          (case z => decide)
          (case v => exact (.cons ⟨_, rfl⟩ (.cons ⟨_, rfl⟩ (.cons ⟨_, rfl⟩ .nil))))
        case h4 =>
          refine' LB.form_mk ?g ?l ?z ?v
          (case g => k_is)
          (case l => k_is)
          (case z => decide)
          (case v => exact (.cons ⟨_, rfl⟩ (.cons ⟨_, rfl⟩ (.cons ⟨_, rfl⟩ .nil))))
        case h5 =>
          refine' LB.form_mk ?g ?l ?z ?v
          (case g => k_is)
          (case l => k_is)
          (case z => decide)
          (case v => exact (.cons ⟨_, rfl⟩ (.cons ⟨_, rfl⟩ (.cons ⟨_, rfl⟩ .nil))))
        case h6 =>
          refine' LB.form_mk ?g ?l ?z ?v
          (case g => k_is)
          (case l => k_is)
          (case z => decide)
          (case v => exact (.cons ⟨_, rfl⟩ (.cons ⟨_, rfl⟩ .nil)))
        case h7 =>
          refine' LB.form_mk ?g ?l ?z ?v
          (case g => k_is)
          (case l => k_is)
          (case z => decide)
          (case v => exact (.cons ⟨_, rfl⟩ (.cons ⟨_, rfl⟩ .nil)))
        case h8 =>
          refine' LB.form_mk ?g ?l ?z ?v
          (case g => k_is)
          (case l => k_is)
          (case z => decide)
          (case v => exact (.cons ⟨_, rfl⟩ (.cons ⟨_, rfl⟩ .nil)))
        case h9 =>
          refine' LB.form_mk ?g ?l ?z ?v
          (case g => k_is)
          (case l => k_is)
          (case z => decide)
          (case v => exact (.cons ⟨_, rfl⟩ (.cons ⟨_, rfl⟩ .nil)))
        case h10 =>
          refine' LB.form_mk ?g ?l ?z ?v
          (case g => k_is)
          (case l => k_is)
          (case z => decide)
          (case v => exact (.cons ⟨_, rfl⟩ (.cons ⟨_, rfl⟩ (.cons ⟨_, rfl⟩ (.cons ⟨_, rfl⟩ .nil)))))
      case LE =>
        refine' ⟨_, LB.low_mk KX G ?a ?sp ?ty ?rd ?fi⟩
        (case a => k_is)
        (case sp => k_is)
        (case ty => k_is)
        (case rd => k_is)
        (case fi => k_is)
      case E_Code =>
        refine' ⟨_, ?own, ?n_rows, ?m_init⟩
        case own =>
          refine' LB.own_mk KX G ?a ?pg ?hd ?po ?sa ?mk ?kc
          (case a => k_is)
          (case pg => k_is)
          (case hd => k_is)
          (case po => k_is)
          (case sa => k_is)
          (case mk => k_is)
          (case kc => k_is)
        case n_rows =>
          k_is
        case m_init =>
          refine' LB.topMeth_mk (fun _ _ _ _ _ _ us hl => match us, hl with | [_, _], _ => rfl) ?a ?i ?l ?c ?k
          (case a => k_is)
          (case i => k_is)
          (case l => k_is)
          (case c => k_is)
          (case k => k_is)
      case E_Machine =>
        refine' ⟨_, ?own, ?n_width, ?n_registers, ?m_init⟩
        case own =>
          refine' LB.own_mk KX G ?a ?pg ?hd ?po ?sa ?mk ?kc
          (case a => k_is)
          (case pg => k_is)
          (case hd => k_is)
          (case po => k_is)
          (case sa => k_is)
          (case mk => k_is)
          (case kc => k_is)
        case n_width =>
          k_is
        case n_registers =>
          k_is
        case m_init =>
          refine' LB.topMeth_mk (fun _ _ _ _ _ _ us hl => match us, hl with | [_, _, _], _ => rfl) ?a ?i ?l ?c ?k
          (case a => k_is)
          (case i => k_is)
          (case l => k_is)
          (case c => k_is)
          (case k => k_is)
      case E_Runner =>
        refine' ⟨_, ?own, ?n_modulus, ?n_rows, ?n_fills, ?n_registers, ?n_slots, ?n_at, ?n_rights, ?m_init, ?m_fill, ?m_computed, ?m_advance⟩
        case own =>
          refine' LB.own_mk KX G ?a ?pg ?hd ?po ?sa ?mk ?kc
          (case a => k_is)
          (case pg => k_is)
          (case hd => k_is)
          (case po => k_is)
          (case sa => k_is)
          (case mk => k_is)
          (case kc => k_is)
        case n_modulus =>
          k_is
        case n_rows =>
          k_is
        case n_fills =>
          k_is
        case n_registers =>
          k_is
        case n_slots =>
          k_is
        case n_at =>
          k_is
        case n_rights =>
          k_is
        case m_init =>
          refine' LB.topMeth_mk (fun _ _ _ _ _ _ us hl => match us, hl with | [_, _, _, _, _], _ => rfl) ?a ?i ?l ?c ?k
          (case a => k_is)
          (case i => k_is)
          (case l => k_is)
          (case c => k_is)
          (case k => k_is)
        case m_fill =>
          refine' LB.topMeth_mk (fun _ _ _ _ _ _ us hl => match us, hl with | [_], _ => rfl) ?a ?i ?l ?c ?k
          (case a => k_is)
          (case i => k_is)
          (case l => k_is)
          (case c => k_is)
          (case k => k_is)
        case m_computed =>
          refine' LB.topMeth_mk (fun _ _ _ _ _ _ us hl => match us, hl with | [_, _], _ => rfl) ?a ?i ?l ?c ?k
          (case a => k_is)
          (case i => k_is)
          (case l => k_is)
          (case c => k_is)
          (case k => k_is)
        case m_advance =>
          refine' LB.topMeth_mk (fun _ _ _ _ _ _ us hl => match us, hl with | [_], _ => rfl) ?a ?i ?l ?c ?k
          (case a => k_is)
          (case i => k_is)
          (case l => k_is)
          (case c => k_is)
          (case k => k_is)
      case E_InvalidCode =>
        refine' ⟨_, ?own, ?n_word, ?n_row, ?m_init⟩
        case own =>
          refine' LB.exc_mk KX G ?a ?lC ?rb ?sa ?ex ?ty ?kc ?ga ?gg ?hd ?me
          (case a => k_is)
          (case lC => k_is)
          (case rb => first | rfl | decide +kernel)
          (case sa => k_is)
          (case ex => k_is)
          (case ty => k_is)
          (case kc => k_is)
          (case ga => k_is)
          (case gg => k_is)
          (case hd => k_is)
          (case me => first | k_is | rfl)
        case n_word =>
          k_is
        case n_row =>
          k_is
        case m_init =>
          refine' LB.topMeth_mk (fun _ _ _ _ _ _ us hl => match us, hl with | [_, _, _], _ => rfl) ?a ?i ?l ?c ?k
          (case a => k_is)
          (case i => k_is)
          (case l => k_is)
          (case c => k_is)
          (case k => k_is)
      case t_is_integer =>
        refine' LB.topFn_mk KX G (fun _ _ _ _ _ _ us hl => match us, hl with | [_], _ => rfl) ?a ?l ?c ?k
        (case a => k_is)
        (case l => k_is)
        (case c => k_is)
        (case k => k_is)
      case t_is_modulus =>
        refine' LB.topFn_mk KX G (fun _ _ _ _ _ _ us hl => match us, hl with | [_], _ => rfl) ?a ?l ?c ?k
        (case a => k_is)
        (case l => k_is)
        (case c => k_is)
        (case k => k_is)
      case t_is_within =>
        refine' LB.topFn_mk KX G (fun _ _ _ _ _ _ us hl => match us, hl with | [_, _], _ => rfl) ?a ?l ?c ?k
        (case a => k_is)
        (case l => k_is)
        (case c => k_is)
        (case k => k_is)
      case t_is_row =>
        refine' LB.topFn_mk KX G (fun _ _ _ _ _ _ us hl => match us, hl with | [_], _ => rfl) ?a ?l ?c ?k
        (case a => k_is)
        (case l => k_is)
        (case c => k_is)
        (case k => k_is)
      case t_check_rows =>
        refine' LB.topFn_mk KX G (fun _ _ _ _ _ _ us hl => match us, hl with | [_], _ => rfl) ?a ?l ?c ?k
        (case a => k_is)
        (case l => k_is)
        (case c => k_is)
        (case k => k_is)
      case t_registers_of =>
        refine' LB.topFn_mk KX G (fun _ _ _ _ _ _ us hl => match us, hl with | [_], _ => rfl) ?a ?l ?c ?k
        (case a => k_is)
        (case l => k_is)
        (case c => k_is)
        (case k => k_is)
      case t_need_registers =>
        refine' LB.topFn_mk KX G (fun _ _ _ _ _ _ us hl => match us, hl with | [_, _], _ => rfl) ?a ?l ?c ?k
        (case a => k_is)
        (case l => k_is)
        (case c => k_is)
        (case k => k_is)
      case t_law_deal =>
        refine' LB.topFn_mk KX G (fun _ _ _ _ _ _ us hl => match us, hl with | [_, _], _ => rfl) ?a ?l ?c ?k
        (case a => k_is)
        (case l => k_is)
        (case c => k_is)
        (case k => k_is)
      case t_law_draw =>
        refine' LB.topFn_mk KX G (fun _ _ _ _ _ _ us hl => match us, hl with | [_, _], _ => rfl) ?a ?l ?c ?k
        (case a => k_is)
        (case l => k_is)
        (case c => k_is)
        (case k => k_is)
      case t_law_number =>
        refine' LB.topFn_mk KX G (fun _ _ _ _ _ _ us hl => match us, hl with | [_], _ => rfl) ?a ?l ?c ?k
        (case a => k_is)
        (case l => k_is)
        (case c => k_is)
        (case k => k_is)
      case t_law_point =>
        refine' LB.topFn_mk KX G (fun _ _ _ _ _ _ us hl => match us, hl with | [_, _], _ => rfl) ?a ?l ?c ?k
        (case a => k_is)
        (case l => k_is)
        (case c => k_is)
        (case k => k_is)
      case t_law_computed =>
        refine' LB.topFn_mk KX G (fun _ _ _ _ _ _ us hl => match us, hl with | [_, _, _, _, _], _ => rfl) ?a ?l ?c ?k
        (case a => k_is)
        (case l => k_is)
        (case c => k_is)
        (case k => k_is)
      case t_law_ran =>
        refine' LB.topFn_mk KX G (fun _ _ _ _ _ _ us hl => match us, hl with | [_, _, _, _, _], _ => rfl) ?a ?l ?c ?k
        (case a => k_is)
        (case l => k_is)
        (case c => k_is)
        (case k => k_is)
      case t_law_row =>
        refine' LB.topFn_mk KX G (fun _ _ _ _ _ _ us hl => match us, hl with | [_, _, _], _ => rfl) ?a ?l ?c ?k
        (case a => k_is)
        (case l => k_is)
        (case c => k_is)
        (case k => k_is)
      case t_law_rows =>
        refine' LB.topFn_mk KX G (fun _ _ _ _ _ _ us hl => match us, hl with | [_, _, _, _], _ => rfl) ?a ?l ?c ?k
        (case a => k_is)
        (case l => k_is)
        (case c => k_is)
        (case k => k_is)
      case t_law_far_row =>
        refine' LB.topFn_mk KX G (fun _ _ _ _ _ _ us hl => match us, hl with | [_, _, _], _ => rfl) ?a ?l ?c ?k
        (case a => k_is)
        (case l => k_is)
        (case c => k_is)
        (case k => k_is)
      case t_law_far_rows =>
        refine' LB.topFn_mk KX G (fun _ _ _ _ _ _ us hl => match us, hl with | [_, _, _], _ => rfl) ?a ?l ?c ?k
        (case a => k_is)
        (case l => k_is)
        (case c => k_is)
        (case k => k_is)
      case t_law_told =>
        refine' LB.topFn_mk KX G (fun _ _ _ _ _ _ us hl => match us, hl with | [_, _, _, _], _ => rfl) ?a ?l ?c ?k
        (case a => k_is)
        (case l => k_is)
        (case c => k_is)
        (case k => k_is)
      case t_law_strange =>
        refine' LB.topFn_mk KX G (fun _ _ _ _ _ _ us hl => match us, hl with | [_, _], _ => rfl) ?a ?l ?c ?k
        (case a => k_is)
        (case l => k_is)
        (case c => k_is)
        (case k => k_is)
      case t_law_strange_right =>
        refine' LB.topFn_mk KX G (fun _ _ _ _ _ _ us hl => match us, hl with | [_, _, _], _ => rfl) ?a ?l ?c ?k
        (case a => k_is)
        (case l => k_is)
        (case c => k_is)
        (case k => k_is)
      case t_law_numbers =>
        refine' LB.topFn_mk KX G (fun _ _ _ _ _ _ us hl => match us, hl with | [_], _ => rfl) ?a ?l ?c ?k
        (case a => k_is)
        (case l => k_is)
        (case c => k_is)
        (case k => k_is)
      case t_run =>
        refine' ⟨_, LB.topFnD_mk KX G ?a ?l ?c ?k ?lT ?v ?hd 3 rfl ?hb ?hb0, ?em⟩
        (case a => k_is)
        (case l => k_is)
        (case c => k_is)
        (case k => k_is)
        (case lT => k_is)
        (case v => exact LB.vals_ref)
        (case hd => exact List.cons_ne_nil _ _)
        (case hb => exact fun _ _ _ _ _ _ _ us its h1 h2 => match us, its, h1, h2 with | [_, _, _], [_], _, _ => ⟨_, rfl, rfl⟩)
        (case hb0 => exact fun _ _ _ _ _ _ _ us its h1 h2 => match us, its, h1, h2 with | [_, _, _, _], [_], _, _ => ⟨_, rfl, rfl⟩)
        case em =>
          refine' LB.emptyT_mk ?l
          (case l => k_is))
#print axioms PySem.Challenge.cw_lowsure_k57_code_that_is_run_holds
