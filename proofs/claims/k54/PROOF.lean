import PyProof.Rows.All
import Wide.All
import OpenK.AllK
import Wide.FinOn
import HandS.ForMost
import HandS.Wide
import HandS.Codes
import HandS.Rev
import HandS.Exc
import HandS.ExcValue
import HandS.Walk
import KE.GoesMore
import PyProof.Draws
import HandS.OwnEq
import PyProof.InstNe
import HandS.IsInst
import HandS.Zip
import HandS.More
import HandS.NoneIn
import PySem.Challenge.RW_lowsure_k54_code_without_rows
set_option Elab.async false
set_option linter.all false
set_option maxRecDepth 100000
set_option maxHeartbeats 4000000
/-! LB: own words over the hand layer -/
namespace LB
open PySem PySem.Spec PyProof.Rows L2
open C8 (pss_cut tCut)
/-- the def x of the top keeps the promise sp -/
structure DefOk (P : Program) (w : World) (K : PySem.W.Frag) (mg : Str → Option Value) (base : Heap) (k : Nat) (x : Str) (ps : List Str) (sp : Sp) : Prop where
  ex : ∃ (f : Addr) (fd : FuncData), FnOk P w K mg base CX0 k f fd ps sp ∧ mg x = some (.ref f) ∧ PySem.W.keepIn K (.ref f) = true ∧ Binds K fd ps []
/-- the def x stands at the top as st -/
structure TopFn (K : PySem.W.Frag) (mg : Str → Option Value) (x : Str) (st : Stmt) (ps : List Str) : Prop where
  ex : ∃ (f : Addr) (fd : FuncData), Fun K x x st f fd ∧ mg x = some (.ref f) ∧ Binds K fd ps []
section
variable {P : Program} {w : World} {K : PySem.W.Frag} {mg : Str → Option Value} {base : Heap}
theorem TopFn.ok {x : Str} {st : Stmt} {N ps : List Str} {k : Nat} {sp : Sp} (F : TopFn K mg x st ps) (S : FnScope N ps (defScope st)) (len : ∀ vs H Q E, sp vs H Q E → vs.length = ps.length)
    (hbody : ∀ (f : Addr) (cdv : Value) (A : Around) (outer : List Env) (s : Shared) (H : Hp) (vs : List V) (Q : VK) (E : XK), Room k (A.deeper (envOfC x (defScope st) s.heap.objs.size f cdv)) → sp vs H Q E →
      ∃ t, PSs (cxOf CX0 P w K mg base N x (defScope st) f cdv A outer s H E).nox (defBody st) t ∧ t { nx := fun _ H' => Q .non H', rt := Q } (start N vs) H) : DefOk P w K mg base (k + 1) x ps sp := by
  obtain ⟨f, fd, F, hm, b⟩ := F.ex
  exact ⟨f, fd, F.ok S len (hbody f), hm, F.kp, b⟩
theorem topFn_mk {h : Heap} {x : Str} {st : Stmt} {ps : List Str} {f : Addr} {oc : Value} {od an : Option Addr} {osl : Array (Option Value)} {kV doc pm cdv ct : Value} (X : K.In h) (G : h.Ns mainGlobals mg)
    (hb : ∀ (kV doc pm : Value) (an : Option Addr) (cdv ct : Value) (us : List Value), us.length = ps.length → bindArgs (PySem.W.fnOf x x (defArgs st) (defBody st) (defScope st) .none kV doc pm an cdv ct) ⟨us, []⟩ = pure (ps.zip us))
    (a : PySem.W.nsIn K mainGlobals x = some (some (.ref f))) (l : K.lookup f = some ⟨oc, od, .func (PySem.W.fnOf x x (defArgs st) (defBody st) (defScope st) .none kV doc pm an cdv ct), osl⟩)
    (c : PySem.W.codeIn K cdv x = true) (k : PySem.W.keepIn K (.ref f) = true) : TopFn K mg x st ps :=
  have F := fun_mk (st := st) l c k
  ⟨f, _, F, PySem.W.mg_of X G a, F.binds hb⟩
end
section
variable {X : Cx} {k : Nat} {x : Str} {ps : List Str} {sp : Sp} {e : Expr} {es : List Expr} {t : TA} {p pos : Pos}
theorem pe_fn (D : DefOk X.prog X.w X.K X.mg X.base k x ps sp) (hr : Room k X.A) (hg : Gl X x) (ha : PA X (e :: es) t) (hdb : (x == ("__debug__" : Str)) = false := by decide)
    (he : starEach (e :: es) X.env = (false, eval e X.env) :: starEach es X.env := by rfl) (hpl : (backTo pos (starEach es X.env)).any (·.1) = false := by rfl) :
    PE X (.Call (.Name x p) (e :: es) [] pos) (tCall sp [] E0 t) := by
  obtain ⟨f, fd, F, hm, hk, hb⟩ := D.ex
  exact pe_call F hr hg hm hk hb .nil pass0 ha hdb he hpl
theorem pe_fn0 (D : DefOk X.prog X.w X.K X.mg X.base k x ps sp) (hr : Room k X.A) (hg : Gl X x) (hdb : (x == ("__debug__" : Str)) = false := by decide) :
    PE X (.Call (.Name x p) [] [] pos) (tCall sp [] E0 tNil) := by
  obtain ⟨f, fd, F, hm, hk, hb⟩ := D.ex
  exact pe_call0 F hr hg hm hk hb .nil pass0 hdb
end
/-- a constant of the module -/
theorem pe_gint {X : Cx} {x : Str} {i : Int} {pos : Pos} (hg : Gl X x) (hm : ∃ t, X.mg x = some (.int i t)) (hdb : (x == ("__debug__" : Str)) = false := by decide) : PE X (.Name x pos) (tC (.int i)) := by
  obtain ⟨t, hm⟩ := hm
  exact pe_glob hg hm ⟨t, rfl⟩ hdb
theorem pe_gref {X : Cx} {x : Str} {a : Addr} {pos : Pos} (hg : Gl X x) (hm : X.mg x = some (.ref a)) (hdb : (x == ("__debug__" : Str)) = false := by decide) : PE X (.Name x pos) (tC (.ref a)) :=
  pe_glob hg hm rfl hdb
/-- the built-ins are what they are -/
structure Txt (K : PySem.W.Frag) (mg : Str → Option Value) : Prop where
  b_len : mg "len" = none
  b_max : mg "max" = none
  b_min : mg "min" = none
  b_abs : mg "abs" = none
  b_list : mg "list" = none
  b_tuple : mg "tuple" = none
  b_reversed : mg "reversed" = none
  b_str : mg "str" = none
  b_repr : mg "repr" = none
  b_sum : mg "sum" = none
  b_all : mg "all" = none
  b_any : mg "any" = none
  b_zip : mg "zip" = none
  b_enumerate : mg "enumerate" = none
  b_int : mg "int" = none
  b_bool : mg "bool" = none
  b_sorted : mg "sorted" = none
  b_isinstance : mg "isinstance" = none
  b_range : mg "range" = none
  b_set : mg "set" = none
  b_dict : mg "dict" = none
  b_divmod : mg "divmod" = none
  b_ord : mg "ord" = none
  b_chr : mg "chr" = none
  b_type : mg "type" = none
/-! ### lists -/
theorem map_get {α : Type} {f : α → V} {ms : List α} {i : Nat} {x : V} (h : (ms.map f)[i]? = some x) : ∃ m, ms[i]? = some m ∧ x = f m := by
  rw [List.getElem?_map] at h
  cases e : ms[i]? with
  | none => rw [e] at h; cases h
  | some m => rw [e] at h; exact ⟨m, rfl, (Option.some.inj h).symm⟩
theorem take_more {α : Type} : ∀ {l : List α} {i : Nat} {x : α}, l[i]? = some x → l.take (i + 1) = l.take i ++ [x]
  | [], i, x, h => by simp at h
  | a :: l, 0, x, h => by
    have e : a = x := Option.some.inj h
    subst e
    rfl
  | a :: l, i + 1, x, h => by
    have ih := take_more (l := l) (i := i) (x := x) h
    show a :: l.take (i + 1) = a :: l.take i ++ [x]
    rw [ih]
    rfl
theorem cut_ints (ns : List Int) (lo hi : Option Int) : ∃ ms : List Int, cutV (ns.map V.int) lo hi = ms.map V.int ∧ ms.length ≤ ns.length ∧ ∀ m ∈ ms, m ∈ ns := by
  unfold cutV
  rw [← List.map_drop, ← List.map_take]
  refine ⟨_, rfl, ?_, fun m h => List.mem_of_mem_drop (List.mem_of_mem_take h)⟩
  rw [List.length_take, List.length_drop]
  omega
theorem ifF {c : Bool} {A B : Prop} (hc : c = false) (h : B) : if c = true then A else B := by
  rw [hc, if_neg Bool.false_ne_true]
  exact h
theorem ifT {c : Bool} {A B : Prop} (hc : c = true) (h : A) : if c = true then A else B := by
  rw [if_pos hc]
  exact h
/-- xs[k:] and xs[:k] -/
theorem cut_from (xs : List V) (k : Nat) (hk : k ≤ xs.length) : cutV xs (some (k : Int)) none = xs.drop k := by
  unfold cutV
  rw [HT.sIx_nat, HT.sIx_none, Nat.min_eq_left hk, List.take_of_length_le]
  rw [List.length_drop]
  omega
theorem cut_to (xs : List V) (k : Nat) (hk : k ≤ xs.length) : cutV xs none (some (k : Int)) = xs.take k := by
  unfold cutV
  rw [HT.sIx_nat, HT.sIx_none, Nat.min_eq_left hk, List.drop_zero, Nat.sub_zero]
theorem part_from {xs : List V} {k : Nat} (h0 : 0 < k) (hk : k ≤ xs.length) : ¬ (HT.sIx xs.length 0 (some (k : Int)) = 0 ∧ HT.sIx xs.length xs.length none = xs.length) := by
  rw [HT.sIx_nat]
  omega
theorem part_to {xs : List V} {k : Nat} (hk : k < xs.length) : ¬ (HT.sIx xs.length 0 none = 0 ∧ HT.sIx xs.length xs.length (some (k : Int)) = xs.length) := by
  rw [HT.sIx_nat]
  omega
theorem sz63 {n : Nat} (h : n ≤ 63) : n < sizeLine := Nat.lt_of_le_of_lt h (by decide)
theorem szK {n : Nat} (h : n ≤ 100000) : n < sizeLine := Nat.lt_of_le_of_lt h (by decide)
theorem szL {n : Nat} (h : n ≤ 100000) : n ≤ sizeLine := Nat.le_of_lt (szK h)
theorem lt_of_get {α : Type} {l : List α} {i : Nat} {x : α} (h : l[i]? = some x) : i < l.length := (List.getElem?_eq_some_iff.mp h).1
theorem same_new {H : Hp} {p : Addr} {o : HO} (h : H p = none) : Same H (upd H p o) := fun b u e => by
  rw [upd_ne (ne_of_none e h)]
  exact e
theorem same_mut {H H' : Hp} {p : Addr} {o : HO} (s : Same H H') (h : H p = none) : Same H (upd H' p o) := fun b u e => by
  rw [upd_ne (ne_of_none e h)]
  exact s b u e
/-! ### the deal: the law's own source of draws -/
def dkv (s n : Int) (l : Addr) : List (Key × V) := [(.inr "seed", .int s), (.inr "number", .int n), (.inr "left", .ref l)]
theorem t_sn : ¬ ("seed" : Str) = "number" := by decide +kernel
theorem t_sl : ¬ ("seed" : Str) = "left" := by decide +kernel
theorem t_nl : ¬ ("number" : Str) = "left" := by decide +kernel
theorem t_ns : ¬ ("number" : Str) = "seed" := by decide +kernel
theorem t_ls : ¬ ("left" : Str) = "seed" := by decide +kernel
theorem t_ln : ¬ ("left" : Str) = "number" := by decide +kernel
theorem kne {a b : Str} (h : ¬ a = b) : ¬ (Sum.inr a : Key) = Sum.inr b := fun e => h (Sum.inr.inj e)
theorem dkv_seed {s n : Int} {l : Addr} : valV (dkv s n l) (.inr "seed") = some (.int s) := valV_pos rfl
theorem dkv_number {s n : Int} {l : Addr} : valV (dkv s n l) (.inr "number") = some (.int n) := (valV_neg (kne t_sn)).trans (valV_pos rfl)
theorem dkv_left {s n : Int} {l : Addr} : valV (dkv s n l) (.inr "left") = some (.ref l) := (valV_neg (kne t_sl)).trans ((valV_neg (kne t_nl)).trans (valV_pos rfl))
theorem dkv_putN {s n m : Int} {l : Addr} : putK (dkv s n l) (.inr "number") (.int m) = dkv s m l := by
  unfold putK dkv
  simp [t_sn, t_ln]
theorem dkv_putS {s n m : Int} {l : Addr} : putK (dkv s n l) (.inr "seed") (.int m) = dkv m n l := by
  unfold putK dkv
  simp [t_ns, t_ls]
theorem dkv_merge {s n : Int} {l : Addr} : mergeK [] [(.inr "seed", .int s), (.inr "number", .int n), (.inr "left", .ref l)] = dkv s n l := by
  unfold mergeK dkv
  simp [putK, t_sn, t_sl, t_nl, t_ns, t_ls, t_ln]
/-- the deal stands at d, its list of great numbers at l -/
structure DealC (d l : Addr) (s n : Int) (left : List Int) (H : Hp) : Prop where
  hd : H d = some (.dK (dkv s n l))
  hl : H l = some (.lst (left.map V.int))
  s0 : 0 ≤ s
  s1 : s < 2147483647
  n0 : 0 ≤ n
  l0 : ∀ m ∈ left, 0 ≤ m
  l1 : left.length ≤ 63
theorem DealC.ne {d l : Addr} {s n : Int} {left : List Int} {H : Hp} (C : DealC d l s n left H) : d ≠ l := ne_of C.hd C.hl (by intro z; cases z)
theorem DealC.number {d l : Addr} {s n : Int} {left : List Int} {H : Hp} (C : DealC d l s n left H) : DGet H d (.str "number") (some (.int n)) := by
  have g := DGet.k (k := Sum.inr "number") C.hd
  rw [dkv_number] at g
  exact g
theorem DealC.left {d l : Addr} {s n : Int} {left : List Int} {H : Hp} (C : DealC d l s n left H) : DGet H d (.str "left") (some (.ref l)) := by
  have g := DGet.k (k := Sum.inr "left") C.hd
  rw [dkv_left] at g
  exact g
theorem DealC.seed {d l : Addr} {s n : Int} {left : List Int} {H : Hp} (C : DealC d l s n left H) : DGet H d (.str "seed") (some (.int s)) := by
  have g := DGet.k (k := Sum.inr "seed") C.hd
  rw [dkv_seed] at g
  exact g
theorem DealC.putN {d l : Addr} {s n m : Int} {left : List Int} {H : Hp} (C : DealC d l s n left H) : DPut H d (.str "number") (.int m) (upd H d (.dK (dkv s m l))) := by
  have g := DPut.k (k := Sum.inr "number") (v := .int m) C.hd (show 3 < sizeLine by decide)
  rw [dkv_putN] at g
  exact g
theorem DealC.putS {d l : Addr} {s n m : Int} {left : List Int} {H : Hp} (C : DealC d l s n left H) : DPut H d (.str "seed") (.int m) (upd H d (.dK (dkv m n l))) := by
  have g := DPut.k (k := Sum.inr "seed") (v := .int m) C.hd (show 3 < sizeLine by decide)
  rw [dkv_putS] at g
  exact g
theorem DealC.withN {d l : Addr} {s n m : Int} {left : List Int} {H : Hp} (C : DealC d l s n left H) (hm : 0 ≤ m) : DealC d l s m left (upd H d (.dK (dkv s m l))) :=
  ⟨upd_same, by rw [upd_ne C.ne.symm]; exact C.hl, C.s0, C.s1, hm, C.l0, C.l1⟩
theorem DealC.withS {d l : Addr} {s n m : Int} {left : List Int} {H : Hp} (C : DealC d l s n left H) (h0 : 0 ≤ m) (h1 : m < 2147483647) : DealC d l m n left (upd H d (.dK (dkv m n l))) :=
  ⟨upd_same, by rw [upd_ne C.ne.symm]; exact C.hl, h0, h1, C.n0, C.l0, C.l1⟩
theorem DealC.popped {d l : Addr} {s n : Int} {left : List Int} {H : Hp} (C : DealC d l s n left H) : DealC d l s n left.dropLast (upd H l (.lst (left.dropLast.map V.int))) :=
  ⟨by rw [upd_ne C.ne]; exact C.hd, upd_same, C.s0, C.s1, C.n0, fun m h => C.l0 m (List.dropLast_subset _ h), by rw [List.length_dropLast]; have := C.l1; omega⟩
def Deal (d l : Addr) (H : Hp) : Prop := ∃ s n left, DealC d l s n left H
/-- all but the deal is kept -/
def Keep (d l : Addr) (H H' : Hp) : Prop := ∀ a o, H a = some o → a ≠ d → a ≠ l → H' a = some o
theorem Keep.refl {d l : Addr} {H : Hp} : Keep d l H H := fun _ _ h _ _ => h
theorem Keep.trans {d l : Addr} {H H1 H2 : Hp} (a : Keep d l H H1) (b : Keep d l H1 H2) : Keep d l H H2 := fun x o h n1 n2 => b x o (a x o h n1 n2) n1 n2
theorem Keep.updD {d l : Addr} {H H1 : Hp} {o : HO} (a : Keep d l H H1) : Keep d l H (upd H1 d o) := fun x u h n1 n2 => by rw [upd_ne n1]; exact a x u h n1 n2
theorem Keep.updL {d l : Addr} {H H1 : Hp} {o : HO} (a : Keep d l H H1) : Keep d l H (upd H1 l o) := fun x u h n1 n2 => by rw [upd_ne n2]; exact a x u h n1 n2
theorem Keep.same {d l : Addr} {H H' : Hp} (h : Same H H') : Keep d l H H' := fun a o e _ _ => h a o e
theorem Keep.new {d l p : Addr} {H H1 : Hp} {o : HO} (a : Keep d l H H1) (hp : H1 p = none) : Keep d l H (upd H1 p o) := fun x u h n1 n2 => by
  rw [upd_ne (ne_of_none (a x u h n1 n2) hp)]
  exact a x u h n1 n2
theorem Deal.fresh {d l p : Addr} {H : Hp} (D : Deal d l H) (hp : H p = none) : p ≠ d ∧ p ≠ l := by
  obtain ⟨s, n, left, C⟩ := D
  exact ⟨(ne_of_none C.hd hp).symm, (ne_of_none C.hl hp).symm⟩
theorem Deal.new {d l p : Addr} {H : Hp} {o : HO} (D : Deal d l H) (hp : H p = none) : Deal d l (upd H p o) := by
  obtain ⟨s, n, left, C⟩ := D
  exact ⟨s, n, left, (same_new hp) _ _ C.hd, (same_new hp) _ _ C.hl, C.s0, C.s1, C.n0, C.l0, C.l1⟩
theorem Deal.same {d l : Addr} {H H' : Hp} (D : Deal d l H) (h : Same H H') : Deal d l H' := by
  obtain ⟨s, n, left, C⟩ := D
  exact ⟨s, n, left, h _ _ C.hd, h _ _ C.hl, C.s0, C.s1, C.n0, C.l0, C.l1⟩
theorem Deal.upd {d l p : Addr} {H : Hp} {o : HO} (D : Deal d l H) (h1 : p ≠ d) (h2 : p ≠ l) : Deal d l (L2.upd H p o) := by
  obtain ⟨s, n, left, C⟩ := D
  exact ⟨s, n, left, by rw [upd_ne h1.symm]; exact C.hd, by rw [upd_ne h2.symm]; exact C.hl, C.s0, C.s1, C.n0, C.l0, C.l1⟩
/-- what H does not know may change -/
theorem Keep.mut {d l p : Addr} {H H1 : Hp} {o : HO} (a : Keep d l H H1) (hp : H p = none) : Keep d l H (L2.upd H1 p o) := fun x u h n1 n2 => by
  rw [upd_ne (ne_of_none h hp)]
  exact a x u h n1 n2
theorem Keep.free {d l p : Addr} {H H1 : Hp} (a : Keep d l H H1) (h1 : p ≠ d) (h2 : p ≠ l) (hp : H1 p = none) : H p = none := by
  cases e : H p with
  | none => rfl
  | some o =>
    rw [a p o e h1 h2] at hp
    cases hp
/-- a tuple is kept by draws -/
theorem Keep.tup {d l a : Addr} {H H' : Hp} {xs : List V} (k : Keep d l H H') (D : Deal d l H) (h : H a = some (.tup xs)) : H' a = some (.tup xs) := by
  obtain ⟨s, n, left, C⟩ := D
  exact k _ _ h (ne_of h C.hd (by intro q; cases q)) (ne_of h C.hl (by intro q; cases q))
def spDraw : Sp := fun vs H Q _ => ∃ (d l : Addr) (many : Int), vs = [.ref d, .int many] ∧ Deal d l H ∧ 0 < many ∧ many ≤ 18446744073709551616 ∧
  ∀ (r : Int) (H' : Hp), 0 ≤ r → r < many → Deal d l H' → Keep d l H H' → Q (.int r) H'
end LB
set_option Elab.async false
set_option linter.all false
set_option maxRecDepth 100000
set_option maxHeartbeats 4000000
namespace RT
open PySem PySem.Spec PyProof.Rows
section
variable {prog : Program} {w : World} {A : Around} {E : Value → Shared → Prop} {s : Shared} {R : Result → Shared → Prop}
theorem init_rev {it l S : Addr} {items : Array Value} (hh : A.handled = none) (hit : s.heap.IsRevIter it l ((items.size : Int) - 1)) (hl : s.heap.IsList l items) (hne : l ≠ it) (hn : items.size ≤ sizeLine)
    (hSi : S ≠ it) (hSl : S ≠ l) (hS : s.heap.get? S = some { cls := .type "list", data := .seq #[] })
    (hR : ∀ (h' : Heap) (tk : Nat) (acc : Array Value) (c : Nat), (∀ b o, b ≠ it → b ≠ S → s.heap.get? b = some o → h'.get? b = some o) → h'.get? S = some { cls := .type "list", dict := none, data := .seq acc c, slots := #[] } →
      ItemsOf (fun i v => items[items.size - 1 - i]? = some v) acc items.size → R (.ok (.ret .none)) { s with heap := h', toks := tk }) :
    wpAny (model prog w) A.in1 (Builtin.«list.__init__» ⟨[.ref S, .ref it], []⟩)
      (fun fin s' => match fin with | .done f => R (.ok f) s' | .again c' => c'.quiet = true ∧ codeAny (model prog w) A c' R s') (fun e s' => R (.error e) s') s := by
  have W := (Walks.listRev (prog := prog) (w := w) (A := A.in1) hh it l hne items).toS
  have hSf : S ∉ [it, l] := by simp only [List.mem_cons, List.not_mem_nil, or_false, not_or]; exact ⟨hSi, hSl⟩
  show wpAny _ _ (do let old ← Builtin.List.listItems (.ref S); Builtin.List.listUpdate (.ref S) (fun _ => #[]); letGo old.toList.reverse; Builtin.List.listExtendWith (.ref S) (.ref it) .none) _ _ s
  refine wpAny_bind ?_
  unfold Builtin.List.listItems
  refine wpAny_bind (wpAny_seqItems hS rfl (wpAny_pure ?_))
  show wpAny _ _ (updateSeq S (fun _ => #[]) >>= fun _ => letGo (#[] : Array Value).toList.reverse >>= fun _ => Builtin.List.listExtendWith (.ref S) (.ref it) .none) _ _ s
  refine wpAny_bind (wpAny_updateSeq hS rfl ?_)
  have hS₂ := Heap.get?_update_self (Obj.mapSeq (fun _ => (#[] : Array Value))) hS rfl
  have oth : ∀ b o, b ≠ S → s.heap.get? b = some o → (s.heap.update S (Obj.mapSeq (fun _ => (#[] : Array Value)))).get? b = some o :=
    fun b o hb e => (Heap.get?_update_other _ _ (Ne.symm hb)).trans e
  refine wpAny_bind (wpAny_letGo ?_)
  have hit1 : (s.heap.update S (Obj.mapSeq (fun _ => (#[] : Array Value)))).IsRevIter it l ((items.size : Int) - 1) := hit.at fun o e => oth it o (Ne.symm hSi) e
  obtain ⟨ol, hol, rl⟩ := id hl
  have hl1 : (s.heap.update S (Obj.mapSeq (fun _ => (#[] : Array Value)))).IsList l items := ⟨ol, oth l ol (Ne.symm hSl) hol, rl⟩
  have hT : ({ s with heap := s.heap.update S (Obj.mapSeq (fun _ => (#[] : Array Value))) } : Shared).TypeIs (.ref it) "list_reverseiterator" := Heap.IsRevIter.typeIs (s := { s with heap := s.heap.update S (Obj.mapSeq (fun _ => (#[] : Array Value))) }) hit1
  have h1 : Builtin.List.listSameRef (.ref S) (.ref it) = false := by simp [Builtin.List.listSameRef, hSi]
  unfold Builtin.List.listExtendWith
  refine wpAny_bind (wpAny_typeOf hT ?_)
  rw [if_neg (by rw [h1]; decide)]
  refine wpAny_bind (wpAny_pyIter_revIter (s := { s with heap := s.heap.update S (Obj.mapSeq (fun _ => (#[] : Array Value))) }) hit1 ?_)
  refine wpAny_bind (wpAny_holding ?_)
  unfold Builtin.List.listLengthHint
  refine wpAny_bind (wpAny_specialOf hT nolen_lri ?_)
  show wpAny _ A.in1 (specialOf (Value.ref it) (Str.ofString "__length_hint__") >>= _) _ _ _
  refine wpAny_bind (wpAny_specialOf hT hint_lri ?_)
  generalize hid : ("list_reverseiterator.__length_hint__" : String) = id0
  wp_delta
  rw [show splitId id0 = some ("list_reverseiterator", "__length_hint__") from by subst hid; decide +kernel]
  subst hid
  refine wpAny_bind (wpAny_isInstance (b := true) hT (by rw [isSubtype_type]; kernel_rfl) ?_)
  refine wpAny_pure ?_
  rw [if_neg (by decide)]
  have e0 : ((items.size : Nat) : Int) - 1 - ((0 : Nat) : Int) = (items.size : Int) - 1 := by omega
  refine wpAny_pure ⟨plainId_quiet F.plain_extend_loop _, codeAny_extend_loopS W hn _ hSf _ items.size 0 _ _ _ rfl (Nat.zero_le _) ⟨Nat.zero_le _, by rw [e0]; exact hit1, hl1⟩ hS₂ (ItemsOf.nil _) fun s' acc' c' hm hS' hacc => ?_⟩
  rw [Moved.eq_with hm]
  refine hR s'.heap s'.toks acc' c' (fun b o hb hb2 e => hm.heap b o (fun hmem => ?_) (oth b o hb2 e)) hS' hacc
  rcases List.mem_cons.mp hmem with e' | hmem
  · exact hb2 e'
  · exact hb (List.mem_singleton.mp hmem)
theorem call_list_rev {it l : Addr} {items : Array Value} {Q : Value → Shared → Prop} (hh : A.handled = none) (hit : s.heap.IsRevIter it l ((items.size : Int) - 1)) (hl : s.heap.IsList l items) (hne : l ≠ it) (hn : items.size ≤ sizeLine)
    (hQ : ∀ (h' : Heap) (tk : Nat) (acc : Array Value) (c : Nat), (∀ b o, b ≠ it → s.heap.get? b = some o → h'.get? b = some o) → h'.get? s.heap.objs.size = some { cls := .type "list", dict := none, data := .seq acc c, slots := #[] } →
      ItemsOf (fun i v => items[items.size - 1 - i]? = some v) acc items.size → Q (.ref s.heap.objs.size) { s with heap := h', toks := tk }) :
    wpAny (model prog w) A (call (.type "list") [.ref it]) Q E s := by
  obtain ⟨oi, hoi, _⟩ := id hit
  obtain ⟨ol, hol, _⟩ := id hl
  have hSi : s.heap.objs.size ≠ it := Nat.ne_of_gt (Heap.lt_size hoi)
  have hSl : s.heap.objs.size ≠ l := Nat.ne_of_gt (Heap.lt_size hol)
  refine callType_codes (Q₁ := fun obj s₁ => obj = .ref s.heap.objs.size ∧ s₁ = { s with heap := s.heap.push { cls := .type "list", data := .seq #[] } }) F.called_list (F.typeCall_list_1 _) F.entry_list_init
    (code_list_new _ ⟨rfl, rfl⟩) fun obj s₁ h₁ => ?_
  obtain ⟨rfl, rfl⟩ := h₁
  have hS : (s.heap.push { cls := .type "list", data := .seq #[] }).get? s.heap.objs.size = some { cls := .type "list", data := .seq #[] } := Heap.get?_push_size _ rfl
  refine ⟨⟨_, hS, rfl⟩, F.args_list_init_2 _ _, init_rev (A := A.in1) (s := { s with heap := s.heap.push { cls := .type "list", data := .seq #[] } }) hh (hit.at fun o e => Heap.get?_push_of_some _ e) (hl.push _) hne hn hSi hSl hS fun h' tk acc' c' hk hS' hacc => ?_⟩
  exact ⟨rfl, hQ h' tk acc' c' (fun b o hb e => hk b o hb (Nat.ne_of_lt (Heap.lt_size e)) (Heap.get?_push_of_some _ e)) hS' hacc⟩
end
section
variable {X : L2.Cx}
open L2
/-- list(reversed(e)), e a list -/
def tLstRev (K : PySem.W.Frag) (te : TE) : TE := fun σ H Q => te σ H fun v H1 => ∃ (a : Addr) (xs : List V), v = .ref a ∧ SqL K H1 a xs ∧ ∀ q, H1 q = none → Q (.ref q) (upd H1 q (.lst xs.reverse))
theorem pe_listRev {e : Expr} {te : TE} {p p2 pos pos2 : Pos} (hc : X.calm = true) (hg : Gl X "list") (hm : X.mg "list" = none) (hg2 : Gl X "reversed") (hm2 : X.mg "reversed" = none) (he : PE X e te)
    (hs : starEach [e] X.env = (false, eval e X.env) :: starEach [] X.env := by rfl)
    (hs2 : starEach [.Call (.Name "reversed" p2) [e] [] pos2] X.env = (false, eval (.Call (.Name "reversed" p2) [e] [] pos2) X.env) :: starEach [] X.env := by rfl) :
    PE X (.Call (.Name "list" p) [.Call (.Name "reversed" p2) [e] [] pos2] [] pos) (tLstRev X.K te) := by
  refine ⟨fun pins s σ H Q I h => ?_⟩
  refine Call_ (ld_blt I hg hm boot_list (PyProof.Rows.callWith_type1 (args_cons (Call_ (ld_blt I hg2 hm2 PyProof.Rows.boot_reversed (PyProof.Rows.callWith_type1 (args_cons (thn (he.run pins s σ H _ I h) fun u s1 ⟨v, H1, I1, r1, q1⟩ => args_nil ?_) hs) hs rfl))) hs2) hs2 rfl))
  obtain ⟨a, xs, ev, hq, q⟩ := q1
  subst ev
  obtain rfl : u = Value.ref a := r1
  obtain ⟨its, rv, p', hz⟩ := I1.list hq
  refine call_reversed_list p'.isList (args_nil ?_)
  have k0 : ∀ b o, s1.heap.get? b = some o → (s1.heap.push (revObj a ((its.toArray.size : Int) - 1))).get? b = some o := fun b o e => Heap.get?_push_of_some _ e
  have I2 : Inv X pins σ H1 { s1 with heap := s1.heap.push (revObj a ((its.toArray.size : Int) - 1)) } := I1.kept (t' := s1.toks) k0
  obtain ⟨f0, f1, f2, f3, f4, f5⟩ := I1.fpOk (H' := H1) (b := s1.heap.objs.size) (Nat.le_refl _) (I1.hok.fresh (Nat.le_refl _))
  have hl := p'.isList
  obtain ⟨ol, hol, _⟩ := id hl
  have hne : a ≠ s1.heap.objs.size := Nat.ne_of_lt (Heap.lt_size hol)
  have hn : its.toArray.size ≤ sizeLine := by rw [List.size_toArray, ← rv.length]; exact hz
  refine call_list_rev (s := { s1 with heap := s1.heap.push (revObj a ((its.toArray.size : Int) - 1)) }) (I1.ok.hd hc) ⟨_, Heap.get?_push_size _ rfl, rfl, rfl⟩ (hl.push _) hne hn fun h' tk acc c hk hS hi => ?_
  have hS' : h'.get? (s1.heap.objs.size + 1) = some { cls := .type "list", dict := none, data := .seq acc c, slots := #[] } := by
    have z := hS
    rw [show ({ s1 with heap := s1.heap.push (revObj a ((its.toArray.size : Int) - 1)) } : Shared).heap.objs.size = s1.heap.objs.size + 1 from Heap.size_push _ _] at z
    exact z
  have hSn : (s1.heap.push (revObj a ((its.toArray.size : Int) - 1))).get? (s1.heap.objs.size + 1) = none := Heap.get?_none_of_le (by rw [Heap.size_push]; exact Nat.le_refl _)
  obtain ⟨G, g1, g2⟩ := restrict h' fun b => decide (b ≠ s1.heap.objs.size + 1)
  have I3 : Inv X pins σ H1 { s1 with heap := G, toks := tk } := I2.turned (t' := tk) (fun b o hb e => by
    have hb2 : b ≠ s1.heap.objs.size + 1 := fun z => by
      rw [z, hSn] at e
      cases e
    rw [g1 b (decide_eq_true hb2)]
    exact hk b o hb e) f0 f1 f3 f4 f5
  have gS : G.get? (s1.heap.objs.size + 1) = none := g2 _ (by simp)
  have hf : H1 (s1.heap.objs.size + 1) = none := I1.hok.fresh (Nat.le_succ _)
  have J : Inv X pins σ (upd H1 (s1.heap.objs.size + 1) (.lst xs.reverse)) { s1 with heap := h', toks := tk } := I3.laidN (h' := h') (t' := tk) (fun b u e => by
    have hb2 : b ≠ s1.heap.objs.size + 1 := fun z => by
      rw [z, gS] at e
      cases e
    rw [← g1 b (decide_eq_true hb2)]
    exact e) gS hf (show ObjOk X.prog X.w _ _ _ (.lst xs.reverse) from ⟨by rw [List.length_reverse]; exact hz, acc.toList, c, vals_rev rv hi, by rw [Array.toArray_toList]; exact hS'⟩)
  refine ⟨.ref (s1.heap.objs.size + 1), _, J, ?_, q _ hf⟩
  show Value.ref _ = Value.ref _
  rw [show ({ s1 with heap := s1.heap.push (revObj a ((its.toArray.size : Int) - 1)) } : Shared).heap.objs.size = s1.heap.objs.size + 1 from Heap.size_push _ _]
end
end RT
set_option Elab.async false
set_option linter.all false
set_option maxRecDepth 100000
set_option maxHeartbeats 4000000
namespace LB
open PySem PySem.Spec PyProof.Rows L2
/-! ### match over texts -/
structure PM (X : Cx) (cases : List MatchCase) (t : V → TS) : Prop where
  run : ∀ (pins : List (Addr × Obj)) (s : Shared) (σ : L2.St) (H : Hp) (D : Ends) (x : V) (u : Value) (first : Bool), Inv X pins σ H s → RelV x u → t x D σ H →
    wpAny (model X.prog X.w) X.A (matchCases cases X.env u first) (SP X pins D) X.xe s
def mStr (lit : Str) (tb : TS) (tr : V → TS) : V → TS := fun x D σ H => ∃ z, x = .str z ∧ if z = lit then tb D σ H else tr x D σ H
def mStr2 (lit lit2 : Str) (tb : TS) (tr : V → TS) : V → TS := fun x D σ H => ∃ z, x = .str z ∧ if z = lit ∨ z = lit2 then tb D σ H else tr x D σ H
section
variable {X : Cx} {body : List Stmt} {rest : List MatchCase} {tb : TS} {tr : V → TS} {p p2 p3 p4 p5 : Pos}
theorem match_lit {lit z : Str} {u : Value} {pins : List (Addr × Obj)} {s : Shared} {σ : L2.St} {H : Hp} {Q : Option (List (Str × Value)) → Shared → Prop} (I : Inv X pins σ H s) (r : RelV (.str z) u)
    (h : ∀ s', Inv X pins σ H s' → if z = lit then Q (some []) s' else Q none s') : wpAny (model X.prog X.w) X.A (matchPattern (.MatchValue (.Constant (.str lit) 0 p) p2) X.env u) Q X.xe s := by
  refine wpAny_matchPattern_Value ?_
  refine thn ((pe_str (X := X) (x := lit) (j := 0) (pos := p)).run pins s σ H (fun x H' => x = .str lit ∧ H' = H) I ⟨rfl, rfl⟩) fun v s1 ⟨x, H1, I1, rx, ex, eH⟩ => ?_
  subst ex
  subst eH
  refine thn (op_eq pins s1 σ H1 (.str z) (.str lit) u v (fun x H' => x = .bl (decide (V.str z = V.str lit)) ∧ H' = H1) I1 r rx ⟨rfl, rfl, rfl⟩) fun c s2 ⟨y, H2, I2, ry, ey, eH2⟩ => ?_
  subst ey
  subst eH2
  cases ry
  refine wpAny_truthy_bool ?_
  have q := h s2 I2
  by_cases e : z = lit
  · rw [if_pos e] at q
    rw [if_pos (decide_eq_true (by rw [e]))]
    exact q
  · rw [if_neg e] at q
    rw [if_neg (by rw [decide_eq_false (fun z' => e (V.str.inj z'))]; exact Bool.false_ne_true)]
    exact q
theorem pm_str {lit : Str} (hb : PSs X body tb) (hr : PM X rest tr) : PM X (⟨.MatchValue (.Constant (.str lit) 0 p) p2, none, body⟩ :: rest) (mStr lit tb tr) := by
  refine ⟨fun pins s σ H D x u first I r h => ?_⟩
  obtain ⟨z, rfl, h⟩ := h
  refine wpAny_matchCases_cons (match_lit I r fun s' I' => ?_)
  by_cases e : z = lit
  · rw [if_pos e] at h
    rw [if_pos e]
    exact wpAny_assignInOrder_none (hb.run pins s' σ H D I' h)
  · rw [if_neg e] at h
    rw [if_neg e]
    exact hr.run pins s' σ H D _ u false I' r h
theorem pm_any (hb : PSs X body tb) : PM X [⟨.MatchAs none none p, none, body⟩] (fun _ => tb) := by
  refine ⟨fun pins s σ H D x u first I r h => ?_⟩
  exact wpAny_matchCases_cons (wpAny_matchPattern_Capture (wpAny_assignInOrder_none (hb.run pins s σ H D I h)))
theorem pm_str2 {lit lit2 : Str} (hb : PSs X body tb) (hr : PM X rest tr) : PM X (⟨.MatchOr [.MatchValue (.Constant (.str lit) 0 p) p2, .MatchValue (.Constant (.str lit2) 0 p3) p4] p5, none, body⟩ :: rest) (mStr2 lit lit2 tb tr) := by
  refine ⟨fun pins s σ H D x u first I r h => ?_⟩
  obtain ⟨z, rfl, h⟩ := h
  refine wpAny_matchCases_cons (wpAny_matchPattern_Or (wpAny_matchFirst_cons (match_lit I r fun s' I' => ?_)))
  by_cases e : z = lit
  · rw [if_pos (.inl e)] at h
    rw [if_pos e]
    exact wpAny_assignInOrder_none (hb.run pins s' σ H D I' h)
  · rw [if_neg e]
    refine wpAny_matchFirst_cons (match_lit I' r fun s2 I2 => ?_)
    by_cases e2 : z = lit2
    · rw [if_pos (.inr e2)] at h
      rw [if_pos e2]
      exact wpAny_assignInOrder_none (hb.run pins s2 σ H D I2 h)
    · rw [if_neg (fun q => q.elim e e2)] at h
      rw [if_neg e2]
      exact wpAny_matchFirst_nil (hr.run pins s2 σ H D _ u false I2 r h)
def tMatch (ts : TE) (tm : V → TS) : TS := fun D σ H => ts σ H fun x H1 => tm x D σ H1
theorem ps_match {subject : Expr} {cases : List MatchCase} {ts : TE} {tm : V → TS} (hs : PE X subject ts) (hm : PM X cases tm) : PS X (.Match subject cases p) (tMatch ts tm) := by
  refine ⟨fun pins s σ H D I h => ?_⟩
  exact wpAny_Match (thn (hs.run pins s σ H _ I h) fun u s1 ⟨x, H1, I1, rx, q⟩ => hm.run pins s1 σ H1 D x u true I1 rx q)
end
end LB
set_option Elab.async false
set_option linter.all false
set_option maxRecDepth 100000
set_option maxHeartbeats 4000000
namespace PySem
open Sem (wp)
open AutoSeq1 (wpAny_loadPart')
theorem meets_enumerate_newT (l : Addr) (items : Array Value) :
    Meets (Builtin.«enumerate.__new__» ⟨[.type "enumerate", .ref l], []⟩) (fun _ R s => s.heap.IsTuple l items ∧
      R (.ok (.ret (.ref (s.heap.push { cls := .type "tuple_iterator", data := .fields #[.ref l, .int 0 0] }).objs.size)))
        { s with heap := (s.heap.push { cls := .type "tuple_iterator", data := .fields #[.ref l, .int 0 0] }).push { cls := .type "enumerate", data := .fields #[.none, .bool false, .ref s.heap.objs.size, rawInt 0, .none, .none] } }) :=
  .of_wp fun prog w A R s h => by
    obtain ⟨hp, g, d, tk, os⟩ := s; obtain ⟨hL, h⟩ := h
    have hsub := sub_enumerate
    wp_walk
    refine wpAny_stack_any fun st => wpAny_pure ?_
    split
    · rename_i c _ _ _ _ _
      cases (c == Value.type "enumerate")
      · wp_walk using wpAny_pyIter_tuple hL
        exact ⟨_, rfl, h⟩
      · wp_walk using wpAny_pyIter_tuple hL
        exact ⟨_, rfl, h⟩
    · wp_walk using wpAny_pyIter_tuple hL
      exact ⟨_, rfl, h⟩
section
variable {prog : Program} {w : World} {A : Around} {E : Value → Shared → Prop} {s : Shared}
theorem call_enumerate_tup {l : Addr} {items : Array Value} {Q : Value → Shared → Prop} (hL : s.heap.IsTuple l items)
    (h : ∀ h', IsEnum h' (s.heap.objs.size + 1) s.heap.objs.size 0 .none → h'.IsTupleIter s.heap.objs.size l 0 → h'.objs.size = s.heap.objs.size + 2 →
      (∀ b o, s.heap.get? b = some o → h'.get? b = some o) → Q (.ref (s.heap.objs.size + 1)) { s with heap := h' }) :
    wpAny (model prog w) A (call (.type "enumerate") [.ref l]) Q E s := by
  refine callType_new F.called_enumerate (by decide) (F.typeCall_enumerate_1 _) (F.newCall_enumerate_1 _) (fun obj => F.args_object_init_2 obj _) F.entry_enumerate_new
    (meets_enumerate_newT l items) ⟨hL, ?_⟩
  have hz : (s.heap.push { cls := .type "tuple_iterator", data := .fields #[.ref l, .int 0 0] }).objs.size = s.heap.objs.size + 1 := Heap.size_push ..
  show _ ∧ _
  rw [hz]
  have he : IsEnum ((s.heap.push { cls := .type "tuple_iterator", data := .fields #[.ref l, .int 0 0] }).push
      { cls := .type "enumerate", data := .fields #[.none, .bool false, .ref s.heap.objs.size, rawInt 0, .none, .none] }) (s.heap.objs.size + 1) s.heap.objs.size 0 .none := by
    have := Heap.get?_push_size (s.heap.push { cls := .type "tuple_iterator", data := .fields #[.ref l, .int 0 0] })
      (o := { cls := .type "enumerate", data := .fields #[.none, .bool false, .ref s.heap.objs.size, rawInt 0, .none, .none] }) rfl
    rw [hz] at this; exact this
  refine ⟨⟨_, he, rfl⟩, h _ he ⟨_, Heap.get?_push_of_some _ (Heap.get?_push_size _ rfl), rfl, rfl⟩ (by rw [Heap.size_push, hz]) fun b o x => Heap.get?_push_of_some _ (Heap.get?_push_of_some _ x)⟩
end
end PySem
namespace LB
open PySem PySem.Spec PyProof.Rows L2
/-! ### enumerate(tuple) -/
def IteT (K : PySem.W.Frag) (a : Addr) : It :=
  ⟨fun i H => ∃ (xs : List V) (x : V), SqT K H a xs ∧ xs[i]? = some x, fun i H v H' => ∃ T x, v = .ref T ∧ H T = none ∧ H' = upd H T (.tup [.int (i : Nat), x]) ∧ ∀ xs, SqT K H a xs → xs[i]? = some x, fun i H => ∃ xs : List V, SqT K H a xs ∧ xs.length = i⟩
theorem turn_enumT {P : Program} {w : World} {K : PySem.W.Frag} {elts : List Expr} {kk : Nat} {tpos : Pos} (a e it : Addr) (hai : a ≠ it) (hae : e ≠ a) :
    Turn P w K (.Tuple elts kk tpos) (IteT K a) [e, it] e (fun i h => (∃ old, IsEnum h e it ((i : Nat) : Int) old) ∧ h.IsTupleIter it a i ∧ e ≠ it) where
  mem := by simp
  obj := fun i h st b hb => by
    obtain ⟨⟨old, he⟩, ⟨o, ho, hc, hd⟩, _⟩ := st
    have e' : b = e ∨ b = it := by simpa using hb
    rcases e' with z | z
    · rw [z]; exact ⟨_, he, fun v q => nomatch q⟩
    · rw [z]; exact ⟨o, ho, fun v q => by rw [hd] at q; cases q⟩
  keep := fun i h h' st k => let ⟨⟨old, he⟩, hi, hne⟩ := st; ⟨⟨old, k e (by simp) _ he⟩, hi.at fun o q => k it (by simp) o q, hne⟩
  item := by
    intro X hP hw hK hc i pins s σ H E I hf st hg
    subst hP hw hK
    obtain ⟨⟨old, he⟩, hit, hne⟩ := st
    obtain ⟨xs, x, hq, hx⟩ := hg
    obtain ⟨its, rv, p, hz⟩ := I.tuple hq
    obtain ⟨u, hu, ru⟩ := rv.get hx
    have hel : e < s.heap.objs.size := Heap.lt_size he
    have hil : it < s.heap.objs.size := by obtain ⟨_, q, _⟩ := hit; exact Heap.lt_size q
    have hlt : i < its.toArray.size := by
      have := lt_of_get hx
      rw [List.size_toArray, ← rv.length]
      exact this
    refine wpAny_pyNext_enum_itemD (Draws.tuple (prog := X.prog) (w := X.w) (A := X.A.in1) (I.ok.hd hc) it a hai its.toArray) he ⟨hit, p⟩ hlt hne (by simp; exact ⟨hne, hae⟩) fun x' h' tk hP ho hst hT hsz hk => ?_
    have ex : x' = u := by
      have : its.toArray[i]? = some u := by simpa using hu
      rw [this] at hP
      exact (Option.some.inj hP).symm
    subst ex
    refine ⟨_, rfl, wpAny_letOwnedTupleGo_enum (s := { s with heap := h', toks := tk + 1 }) ho fun h'' he' sb => ?_⟩
    have hT2 : h''.get? s.heap.objs.size = some { cls := .type "tuple", data := .seq #[.int i tk, x'] } := (sb.2 _ (Nat.ne_of_gt hel)).trans hT
    have new : ObjOk X.prog X.w (upd H s.heap.objs.size (.tup [.int (i : Nat), x])) h'' s.heap.objs.size (.tup [.int (i : Nat), x]) :=
      ⟨by show 2 ≤ sizeLine; decide, [.int i tk, x'], .cons ⟨_, rfl⟩ (.cons ru .nil), ⟨_, hT2, rfl, _, rfl⟩⟩
    have I1 : Inv X pins σ (upd H s.heap.objs.size (.tup [.int (i : Nat), x])) { s with heap := h'', toks := tk + 1 } :=
      I.turnedNew (ch := [e, it]) (fun b ob hb q => (sb.2 b (fun z => hb (by simp [z]))).trans (hk b ob (fun z => hb (by simp [z])) (fun z => hb (by simp [z])) q)) hf (Nat.le_refl _) new
    refine ⟨.ref s.heap.objs.size, _, I1, rfl, ⟨_, x, rfl, I.hok.fresh (Nat.le_refl _), rfl, fun ys hy => by rw [I.tuple_inj hy hq]; exact hx⟩, ⟨⟨x', ?_⟩, hst.1.at fun o q => (sb.2 it (Ne.symm hne)).trans q, hne⟩, fun b hb => ?_⟩
    · have e1 : ((i + 1 : Nat) : Int) = (i : Int) + 1 := by omega
      rw [e1]; exact he'
    · have hb' : b < s.heap.objs.size := by
        have e' : b = e ∨ b = it := by simpa using hb
        rcases e' with z | z
        · rw [z]; exact hel
        · rw [z]; exact hil
      rw [upd_ne (Nat.ne_of_lt hb')]
      exact (hf b hb).1
  done := by
    intro X hP hw hK hc i pins s σ H E I hf st hg
    subst hP hw hK
    obtain ⟨⟨old, he⟩, hit, hne⟩ := st
    obtain ⟨xs, hq, hx⟩ := hg
    obtain ⟨its, rv, p, hz⟩ := I.tuple hq
    obtain ⟨f0, f1, f2, f3, f4, f5⟩ := hf it (by simp)
    have hl : its.toArray.size = i := by rw [List.size_toArray, ← rv.length]; exact hx
    have hit' : s.heap.IsTupleIter it a its.toArray.size := by rw [hl]; exact hit
    exact wpAny_pyNext_enum_endD (Draws.tuple (prog := X.prog) (w := X.w) (A := X.A.in1) (I.ok.hd hc) it a hai its.toArray) he ⟨hit', p⟩ fun h' eb => ⟨rfl, I.turned (t' := s.toks) (fun b o hb q => eb b o hb q) f0 f1 f3 f4 f5⟩
  self := fun A i s Q E st h => let ⟨⟨_, he⟩, _⟩ := st; wpAny_pyIter_enum he h
def iEnumA (K : PySem.W.Frag) (ta : TA) : TI := fun σ H R => ta σ H fun vs H1 => ∃ a xs, vs = [.ref a] ∧ ((SqL K H1 a xs ∧ R (Ite K a) H1) ∨ (SqT K H1 a xs ∧ R (IteT K a) H1))
theorem pi_enumA {X : Cx} {e : Expr} {ta : TA} {p pos tpos : Pos} {elts : List Expr} {kk : Nat} (hg : Gl X "enumerate") (hm : X.mg "enumerate" = none) (ha : PA X [e] ta) (hs : starEach [e] X.env = [(false, eval e X.env)] := by rfl) :
    PI X (.Tuple elts kk tpos) (.Call (.Name "enumerate" p) [e] [] pos) (iEnumA X.K ta) := by
  refine ⟨fun pins s σ H R I h => ?_⟩
  refine Call_ (ld_blt I hg hm boot_enumerate (PyProof.Rows.callWith_type1 (thn (ha.run pos pins s σ H _ I h) fun us s1 ⟨vs, H1, I1, r1, q1⟩ => ?_) hs rfl))
  obtain ⟨a, xs, ex, q1⟩ := q1
  subst ex
  cases r1 with
  | cons r rr =>
    cases rr
    cases r
    rcases q1 with ⟨hq, q⟩ | ⟨hq, q⟩
    · obtain ⟨its, rv, p', hz⟩ := I1.list hq
      refine call_enumerate_list p'.isList fun h' he hit hsz hk => wpAny_pyIter_enum he ?_
      have I2 : Inv X pins σ H1 { s1 with heap := h' } := I1.kept (t' := s1.toks) hk
      refine ⟨s1.heap.objs.size + 1, [s1.heap.objs.size + 1, s1.heap.objs.size], _, _, H1, rfl, I2, turn_enum a (s1.heap.objs.size + 1) s1.heap.objs.size, ⟨⟨.none, he⟩, hit, Nat.succ_ne_self _⟩, fun b hb => ?_, q⟩
      have e' : b = s1.heap.objs.size + 1 ∨ b = s1.heap.objs.size := by simpa using hb
      have hle : s1.heap.objs.size ≤ b := by
        rcases e' with z | z
        · rw [z]; exact Nat.le_add_right _ _
        · rw [z]; exact Nat.le_refl _
      exact I1.fpOk hle (I1.hok.fresh hle)
    · obtain ⟨its, rv, p', hz⟩ := I1.tuple hq
      have hal : a < s1.heap.objs.size := p'.lt
      refine call_enumerate_tup p' fun h' he hit hsz hk => wpAny_pyIter_enum he ?_
      have I2 : Inv X pins σ H1 { s1 with heap := h' } := I1.kept (t' := s1.toks) hk
      refine ⟨s1.heap.objs.size + 1, [s1.heap.objs.size + 1, s1.heap.objs.size], _, _, H1, rfl, I2, turn_enumT a (s1.heap.objs.size + 1) s1.heap.objs.size (Nat.ne_of_lt hal) (Nat.ne_of_gt (Nat.lt_succ_of_lt hal)), ⟨⟨.none, he⟩, hit, Nat.succ_ne_self _⟩, fun b hb => ?_, q⟩
      have e' : b = s1.heap.objs.size + 1 ∨ b = s1.heap.objs.size := by simpa using hb
      have hle : s1.heap.objs.size ≤ b := by
        rcases e' with z | z
        · rw [z]; exact Nat.le_add_right _ _
        · rw [z]; exact Nat.le_refl _
      exact I1.fpOk hle (I1.hok.fresh hle)
theorem walk_enumT {K : PySem.W.Frag} {a : Addr} {xs : List V} : Walk (IteT K a) xs.length (fun H => SqT K H a xs) (YPair (fun i => some (.int (i : Nat))) (fun i => xs[i]?)) := by
  refine ⟨fun i _ hi q => ⟨xs, xs[i], q, by simp [hi]⟩, fun _ q => ⟨xs, q, rfl⟩, fun i H v H' _ q y => ?_⟩
  obtain ⟨T, x, h1, h2, h3, h4⟩ := y
  exact ⟨T, .int (i : Nat), x, h1, h2, h3, rfl, h4 xs q⟩
end LB
set_option Elab.async false
set_option linter.all false
set_option maxRecDepth 100000
set_option maxHeartbeats 4000000
namespace LB
open PySem PySem.Spec PyProof.Rows L2
/-! ### own classes: methods, ==, !=, len -/
structure MethOk (P : Program) (w : World) (K : PySem.W.Frag) (mg : Str → Option Value) (base : Heap) (k : Nat) (C : Addr) (m : Str) (ps : List Str) (sp : Sp) : Prop where
  ex : ∃ (f : Addr) (fd : FuncData), FnOk P w K mg base CX0 k f fd ps sp ∧ PySem.W.findIn K (.ref C) m = some (some (.ref f)) ∧ PySem.W.isFn K (.ref f) = true ∧ PySem.W.keepIn K (.ref f) = true ∧ Binds K fd ps []
structure TopMeth (K : PySem.W.Frag) (C : Addr) (m qual : Str) (st : Stmt) (ps : List Str) : Prop where
  ex : ∃ (f : Addr) (fd : FuncData), Fun K m qual st f fd ∧ PySem.W.findIn K (.ref C) m = some (some (.ref f)) ∧ PySem.W.isFn K (.ref f) = true ∧ Binds K fd ps []
section
variable {P : Program} {w : World} {K : PySem.W.Frag} {mg : Str → Option Value} {base : Heap}
theorem TopMeth.ok {C : Addr} {m qual : Str} {st : Stmt} {N ps : List Str} {k : Nat} {sp : Sp} (F : TopMeth K C m qual st ps) (S : FnScope N ps (defScope st)) (len : ∀ vs H Q E, sp vs H Q E → vs.length = ps.length)
    (hbody : ∀ (f : Addr) (cdv : Value) (A : Around) (outer : List Env) (s : Shared) (H : Hp) (vs : List V) (Q : VK) (E : XK), Room k (A.deeper (envOfC qual (defScope st) s.heap.objs.size f cdv)) → sp vs H Q E →
      ∃ t, PSs (cxOf CX0 P w K mg base N qual (defScope st) f cdv A outer s H E).nox (defBody st) t ∧ t { nx := fun _ H' => Q .non H', rt := Q } (start N vs) H) : MethOk P w K mg base (k + 1) C m ps sp := by
  obtain ⟨f, fd, F, hm, hi, b⟩ := F.ex
  exact ⟨f, fd, F.ok S len (hbody f), hm, hi, F.kp, b⟩
theorem topMeth_mk {C : Addr} {m qual : Str} {st : Stmt} {ps : List Str} {f : Addr} {oc : Value} {od an : Option Addr} {osl : Array (Option Value)} {kV doc pm cdv ct : Value}
    (hb : ∀ (kV doc pm : Value) (an : Option Addr) (cdv ct : Value) (us : List Value), us.length = ps.length → bindArgs (PySem.W.fnOf m qual (defArgs st) (defBody st) (defScope st) .none kV doc pm an cdv ct) ⟨us, []⟩ = pure (ps.zip us))
    (a : PySem.W.findIn K (.ref C) m = some (some (.ref f))) (i : PySem.W.isFn K (.ref f) = true) (l : K.lookup f = some ⟨oc, od, .func (PySem.W.fnOf m qual (defArgs st) (defBody st) (defScope st) .none kV doc pm an cdv ct), osl⟩)
    (c : PySem.W.codeIn K cdv qual = true) (k : PySem.W.keepIn K (.ref f) = true) : TopMeth K C m qual st ps :=
  have F := fun_mk (st := st) l c k
  ⟨f, _, F, a, i, F.binds hb⟩
end
/-- a class of one's own at C, by the name x -/
structure OwnCls (K : PySem.W.Frag) (mg : Str → Option Value) (x : Str) (C : Addr) : Prop where
  g : mg x = some (.ref C)
  cl : Cls K C
  makes : PySem.W.makesIn K C = true
  kp : PySem.W.keepIn K (.ref C) = true
section
variable {X : Cx} {k : Nat} {x m : Str} {ps : List Str} {sp : Sp} {o e : Expr} {es : List Expr} {ta : TE} {t : TA} {p pos apos : Pos} {C : Addr}
theorem pe_mk (c : OwnCls X.K X.mg x C) (D : MethOk X.prog X.w X.K X.mg X.base k C "__init__" ps sp) (hr : Room (k + 1) X.A) (hg : Gl X x) (ha : PA X (e :: es) t) (hdb : (x == ("__debug__" : Str)) = false := by decide)
    (he : starEach (e :: es) X.env = (false, eval e X.env) :: starEach es X.env := by rfl) (hpl : (backTo pos (starEach es X.env)).any (·.1) = false := by rfl) :
    PE X (.Call (.Name x p) (e :: es) [] pos) (tMake C sp [] E0 t) := by
  obtain ⟨f, fd, F, hm, hi, hk, hb⟩ := D.ex
  exact pe_make ⟨c.makes, hm, hi, c.kp⟩ F hr hg c.g hb .nil pass0 ha hdb he hpl
theorem pe_mk0 (c : OwnCls X.K X.mg x C) (D : MethOk X.prog X.w X.K X.mg X.base k C "__init__" ps sp) (hr : Room (k + 1) X.A) (hg : Gl X x) (hdb : (x == ("__debug__" : Str)) = false := by decide) :
    PE X (.Call (.Name x p) [] [] pos) (tMake C sp [] E0 tNil) := by
  obtain ⟨f, fd, F, hm, hi, hk, hb⟩ := D.ex
  exact pe_make0 ⟨c.makes, hm, hi, c.kp⟩ F hr hg c.g hb .nil pass0 hdb
theorem pe_mth {pl : Sem Bool} (c : Cls X.K C) (D : MethOk X.prog X.w X.K X.mg X.base k C m ps sp) (hr : Room k X.A) (he : PE X o ta) (ha : PA X (e :: es) t)
    (hst : starEach (e :: es) X.env = (false, eval e X.env) :: starEach es X.env := by rfl) (hpl : (backTo pos (starEach es X.env)).any (·.1) = false := by rfl)
    (ht : eval (.Call (.Attribute o m apos) (e :: es) [] pos) X.env = (do
      let ov ← eval o X.env
      standAt apos.atName
      let (f, first) ← holding [ov] (getMethod ov m pl)
      callWith pos f first (backTo pos (starEach (e :: es) X.env)) (backToKw pos (keywordEach [] X.env))) := by rfl) :
    PE X (.Call (.Attribute o m apos) (e :: es) [] pos) (tMeth C m sp [] E0 ta t) := by
  obtain ⟨f, fd, F, hm, hi, hk, hb⟩ := D.ex
  exact pe_meth he c ⟨hm, hi, hk⟩ F hr hb .nil pass0 ha hst hpl ht
theorem pe_mth0 {pl : Sem Bool} (c : Cls X.K C) (D : MethOk X.prog X.w X.K X.mg X.base k C m ps sp) (hr : Room k X.A) (he : PE X o ta)
    (ht : eval (.Call (.Attribute o m apos) [] [] pos) X.env = (do
      let ov ← eval o X.env
      standAt apos.atName
      let (f, first) ← holding [ov] (getMethod ov m pl)
      callWith pos f first (backTo pos (starEach [] X.env)) (backToKw pos (keywordEach [] X.env))) := by rfl) :
    PE X (.Call (.Attribute o m apos) [] [] pos) (tMeth C m sp [] E0 ta tNil) := by
  obtain ⟨f, fd, F, hm, hi, hk, hb⟩ := D.ex
  exact pe_meth0 he c ⟨hm, hi, hk⟩ F hr hb .nil pass0 ht
/-- a def is run somewhere below the running body -/
theorem run_sub {A : Around} {f : Addr} {fd : FuncData} {pins : List (Addr × Obj)} {σ : L2.St} {H : Hp} {s : Shared} {Q : VK} {us : List Value} {vs : List V} (F : FnOk X.prog X.w X.K X.mg X.base CX0 k f fd ps sp) (sb : Sub X k A) (hb : Binds X.K fd ps [])
    (I : Inv X pins σ H s) (r : Vals vs us) (h : sp vs H Q E0) : wpAny (model X.prog X.w) A (call (.ref f) us) (EP X pins σ Q) X.xe s := by
  have e0 : Env0 X.prog X.w X.K X.mg X.base A X.stack s H := by
    have e := I.env0
    exact ⟨by rw [sb.fr]; exact e.frames, e.mod, e.bs, e.bsz, e.funs, e.frf, e.hok, e.bare⟩
  have hl := F.len _ _ _ _ h
  refine wpAny_call (codeAny_mono (F.run A X.stack s H ⟨us, []⟩ us vs Q E0 sb.room e0 (by
    have := hb s us I.kIn (by rw [List.append_nil, ← r.length]; exact hl)
    simpa using this) r h) fun r s' hq => ?_)
  cases r with
  | error e => exact False.elim hq
  | ok fl =>
    cases fl with
    | ret u => exact I.after hq
    | next => exact False.elim hq
    | brk => exact False.elim hq
    | cont => exact False.elim hq
/-- len(o) by an own __len__ -/
def rLenC (C : Addr) (sp : Sp) : List V → Hp → VK → Prop := fun xs H Q => ∃ a dx fs, xs = [.ref a] ∧ H a = some (.ins C dx fs) ∧ sp [.ref a] H (fun v H' => ∃ n : Int, v = .int n ∧ 0 ≤ n ∧ n < 2 ^ 63 ∧ Q (.int n) H') E0
theorem call_lenC (D : MethOk X.prog X.w X.K X.mg X.base k C "__len__" ps sp) (hr : Room (k + 1) X.A) : CallR X (.builtin "len") (rLenC C sp) := by
  intro pins s σ H xs us Q I r h
  obtain ⟨f, fd, F, hm, hi, hk, hb⟩ := D.ex
  obtain ⟨a, dx, fs, rfl, ha, q⟩ := h
  obtain ⟨u, rfl, ru⟩ := vals1 r
  cases ru
  obtain ⟨mA, J, _⟩ := ins_get I.hok ha
  obtain ⟨od, J, _⟩ := J.look
  obtain ⟨m', hF⟩ := I.fr
  refine PySem.W.len_K hF I.ok.mod.kin J hm hi ?_
  refine wpAny_mono (run_sub (vs := [V.ref a]) F ⟨hr.in1, rfl⟩ hb I (.cons rfl .nil) q) (fun v s' z => ?_) fun _ _ z => z
  obtain ⟨x, H', I', rx, n, ex, h0, h1, q⟩ := z
  subst ex
  obtain ⟨t, rfl⟩ := rx
  exact ⟨⟨h0, h1⟩, .int n, H', I'.tok _, ⟨_, rfl⟩, q⟩
/-- x == y by an own __eq__ -/
def rEqC (C : Addr) (sp : Sp) : R2 := fun x y H Q => ∃ a b dx dy fs gs, x = .ref a ∧ y = .ref b ∧ H a = some (.ins C dx fs) ∧ H b = some (.ins C dy gs) ∧ sp [.ref a, .ref b] H (fun v H' => ∃ r, v = .bl r ∧ Q (.bl r) H') E0
theorem op_eqC (D : MethOk X.prog X.w X.K X.mg X.base k C "__eq__" ps sp) (hr : Room k X.A) : OpR X (compareOp .Eq) (rEqC C sp) := by
  intro pins s σ H x y v u Q I rx ry h
  obtain ⟨f, fd, F, hm, hi, hk, hb⟩ := D.ex
  obtain ⟨a, b, dx, dy, fs, gs, rfl, rfl, ha, hb', q⟩ := h
  cases rx
  cases ry
  obtain ⟨mA, J, _⟩ := ins_get I.hok ha
  obtain ⟨mB, J', _⟩ := ins_get I.hok hb'
  obtain ⟨od, J, _⟩ := J.look
  obtain ⟨od', J', _⟩ := J'.look
  obtain ⟨m', hF⟩ := I.fr
  show wpAny (model X.prog X.w) X.A (richCompare .Eq (.ref a) (.ref b)) _ _ _
  refine PySem.W.cmp_K (op := .Eq) (tb := .ref C) hr.units0 hF I.ok.mod.kin J J'.type (by simp [PySem.W.notFirst]) hm hi ?_
  refine wpAny_mono (run_sub (vs := [V.ref a, V.ref b]) F ⟨hr, rfl⟩ hb I (.cons rfl (.cons rfl .nil)) q) (fun v s' z => ?_) fun _ _ z => z
  obtain ⟨x, H', I', rx, r, ex, q⟩ := z
  subst ex
  cases rx
  exact ⟨.bl r, H', I', rfl, q⟩
end
/-- what != by an own __eq__ wants of the class -/
structure NeCls (K : PySem.W.Frag) (C : Addr) : Prop where
  ex : ∃ (nm q : Str) (N : Addr) (bs : List Value) (hdct : Bool) (sn : List Str) (sub : List Value) (ab : Bool) (col : Option Bool) (dd : Option Addr) (k0 k1 k2 k3 k5 : Option Value) (newId : String) (f : Addr) (of : Obj),
    K.lookup C = some (excClassObj nm q C N bs [.type "object"] hdct sn sub ab col dd k0 k1 k2 k3 k5 newId) ∧ PySem.W.nsOkIn K N = true ∧ PySem.W.nsIn K N "__eq__" = some (some (.ref f)) ∧ PySem.W.nsIn K N "__ne__" = some none ∧
    PySem.W.findIn K (.ref C) "__eq__" = some (some (.ref f)) ∧ K.lookup f = some of ∧ of.cls = .type "function"
theorem ns_some_of {K : PySem.W.Frag} {h : Heap} {N : Addr} {mg : Str → Option Value} {n : Str} {v : Value} (X : K.In h) (G : h.Ns N mg) (e : PySem.W.nsIn K N n = some (some v)) : mg n = some v := by
  obtain ⟨o, es, ep, ho, hd, _, hf⟩ := G
  unfold PySem.W.nsIn at e
  split at e
  · rename_i c d es' n' sl q
    have := X _ _ q
    rw [ho] at this
    cases this
    cases hd
    split at e
    · rename_i en he
      cases e
      rw [← hf]
      unfold nsFind findBy
      rw [← Array.find?_toList, he]
      rfl
    · split at e <;> cases e
  · cases e
section
variable {X : Cx} {k : Nat} {ps : List Str} {sp : Sp} {C : Addr}
def rNeC (C : Addr) (sp : Sp) : R2 := fun x y H Q => ∃ a b dx dy fs gs, x = .ref a ∧ y = .ref b ∧ H a = some (.ins C dx fs) ∧ H b = some (.ins C dy gs) ∧ sp [.ref a, .ref b] H (fun v H' => ∃ r, v = .bl r ∧ Q (.bl (!r)) H') E0
theorem op_neC (T : NeCls X.K C) (D : MethOk X.prog X.w X.K X.mg X.base k C "__eq__" ps sp) (hr : Room (k + 1) X.A) : OpR X (compareOp .NotEq) (rNeC C sp) := by
  intro pins s σ H x y v u Q I rx ry h
  obtain ⟨f, fd, F, hm, hi, hk, hb⟩ := D.ex
  obtain ⟨a, b, dx, dy, fs, gs, rfl, rfl, ha, hb', q⟩ := h
  cases rx
  cases ry
  obtain ⟨nm, qn, N, bs, hdct, sn, sub, ab, col, dd, k0, k1, k2, k3, k5, newId, f', of, lC, nk, ne, nn, fe, lf, cf⟩ := T.ex
  rw [hm] at fe
  cases fe
  obtain ⟨mA, J, _⟩ := ins_get I.hok ha
  obtain ⟨mB, J', _⟩ := ins_get I.hok hb'
  have KX := I.kIn
  have hns : s.heap.Ns N (s.heap.nsMap N) := .of_isNs (PySem.W.isNs_of_in KX nk)
  obtain ⟨hp, g, d, t, os⟩ := s
  have OE : Heap.OwnEqNoNe hp a C f "object" [.type "object"] := ⟨_, of, nm, qn, N, bs, hdct, sn, sub, ab, col, dd, k0, k1, k2, k3, k5, newId, _, _, J.obj, rfl, KX _ _ lC, hns, ns_some_of KX hns ne, KX _ _ lf, cf, PySem.F.cmp_object.mro, PySem.F.cmp_object.eq.lookup, PySem.W.ns_none_of KX hns nn⟩
  refine compareOp_ne_ownEq PySem.F.cmp_object OE J'.obj rfl (by have := hr.units; omega) ?_
  refine wpAny_mono (run_sub (vs := [V.ref a, V.ref b]) F ⟨hr.in1, rfl⟩ hb I (.cons rfl (.cons rfl .nil)) q) (fun v s' z => ?_) fun _ _ z => z
  obtain ⟨x, H', I', rx, r, ex, q⟩ := z
  subst ex
  cases rx
  exact ⟨r, rfl, .bl (!r), H', I', rfl, q⟩
end
end LB
set_option Elab.async false
set_option linter.all false
set_option maxRecDepth 100000
namespace LB
open PySem PySem.Spec PyProof.Rows L2
def top (i : Nat) : Stmt := PySem.Challenge.pw_lowsure_k54_code_without_rows.main.body.getD i (.Pass ⟨0, 0, 0, 0⟩)
end LB
set_option Elab.async false
set_option linter.all false
set_option maxRecDepth 100000
set_option maxHeartbeats 4000000
namespace LB
open PySem PySem.Spec PyProof.Rows L2
open C8 (pss_cut tCut)
abbrev s_law_draw : Stmt := top 26
theorem sc_law_draw : FnScope ["_law_deal_here", "_law_many", "_law_number_here", "_law_one", "_law_other"] ["_law_deal_here", "_law_many"] (defScope s_law_draw) := ⟨rfl, rfl, rfl, by decide +kernel, rfl, by decide +kernel, by decide +kernel⟩
section
variable {P : Program} {w : World} {K : PySem.W.Frag} {mg : Str → Option Value} {base : Heap}
theorem ok_law_draw (F : TopFn K mg "_law_draw" s_law_draw ["_law_deal_here", "_law_many"]) (T : Txt K mg) : DefOk P w K mg base 1 "_law_draw" ["_law_deal_here", "_law_many"] spDraw := by
  refine F.ok sc_law_draw (fun vs H Q E h => ?_) (fun f cdv A outer s H vs Q E hr h => ?_)
  · obtain ⟨d, l, many, rfl, _⟩ := h
    rfl
  · obtain ⟨d, l, many, rfl, ⟨s0, n0, left0, C0⟩, m0, m1, k⟩ := h
    have m1 : many.natAbs.log2 < 9000 := Nat.lt_of_lt_of_le (PySem.Flt.log2_lt_of (k := 65) (by decide) (show many.natAbs < 36893488147419103232 by omega)) (by decide)
    refine ⟨_, (pss_cut (ps_while PassesOwn.never (PW.pt (pw_and (pt_cmpR op_eq (pe_dget (hu_of hr) (pv 0) pe_str (fun _ _ => rfl)) pe_int (nomark _)) (pw_and1 (pt_cmpR op_gt (pe_callB call_len_seq (by rfl) T.b_len (by decide +kernel) (pa_cons (pe_dget (hu_of hr) (pv 0) pe_str (fun _ _ => rfl)) pa_nil)) pe_int (nomark _))))) (pss_one (ps_dput (hu_of hr) (pv 0) pe_str (pe_bm0 PySem.F.plainAttrs_list PySem.F.slot_list_pop PySem.F.type_list_pop mt_pop (pe_dget (hu_of hr) (pv 0) pe_str (fun _ _ => rfl))) rfl)))
    (pss_cons (ps_set (i := 2) sc_law_draw.nd rfl (.inl rfl) (pe_dget (hu_of hr) (pv 0) pe_str (fun _ _ => rfl)))
    (pss_cons (ps_if (pt_cmpR op_gt (pv 2) pe_int (nomark _)) (pss_cons (ps_dput (hu_of hr) (pv 0) pe_str (pe_op op_fdivW (pv 2) (pv 1)) rfl)
    (pss_one (ps_ret (pe_op op_mod (pv 2) (pv 1))))) pss_nil)
    (pss_cons (ps_set (i := 3) sc_law_draw.nd rfl (.inl rfl) (pe_op op_mod (pe_op op_add (pe_op op_mul (pe_dget (hu_of hr) (pv 0) pe_str (fun _ _ => rfl)) pe_int) pe_int) pe_int))
    (pss_cons (ps_dput (hu_of hr) (pv 0) pe_str (pe_op op_mod (pe_op op_add (pe_op op_mul (pv 3) pe_int) pe_int) pe_int) rfl)
    (pss_cons (ps_set (i := 4) sc_law_draw.nd rfl (.inl rfl) (pe_op op_mod (pe_op op_mul (pe_dget (hu_of hr) (pv 0) pe_str (fun _ _ => rfl)) (pe_dget (hu_of hr) (pv 0) pe_str (fun _ _ => rfl))) pe_int))
    (pss_one (ps_ret (pe_op op_mod (pe_op op_add (pe_op op_mul (pe_op op_mod (pe_op op_mul (pv 3) (pv 3)) pe_int) pe_int) (pv 4)) (pv 1)))))))))), ?_⟩
    refine ⟨fun σ H1 => ∃ s n left, σ = [some (.ref d), some (.int many), none, none, none] ∧ DealC d l s n left H1 ∧ Keep d l H H1 ∧ (n = 0 → left = []), ?_, ?_⟩
    · refine ⟨fun m σ H1 => ∃ s n left, σ = [some (.ref d), some (.int many), none, none, none] ∧ DealC d l s n left H1 ∧ Keep d l H H1 ∧ m = left.length, ⟨_, s0, n0, left0, rfl, C0, Keep.refl, rfl⟩, ?_⟩
      rintro m σ H1 ⟨s1, n1, left1, rfl, C1, K1, rfl⟩
      refine ⟨_, rfl, d, _, rfl, C1.number, rfl, _, rfl, ?_⟩
      refine ite2 (fun hn => ?_) (fun hn => ?_)
      · refine ⟨_, rfl, d, _, rfl, C1.left, l, _, rfl, .inl (SqL.of C1.hl), _, _, rfl, rfl, _, rfl, ?_⟩
        refine ite2 (fun hpos => ?_) (fun hpos => ?_)
        · have hpos := of_decide_eq_true hpos
          rw [List.length_map] at hpos
          refine ⟨_, fun _ _ h => h, ?_⟩
          have hne : left1 ≠ [] := fun e => by rw [e] at hpos; exact absurd hpos (by decide)
          refine ⟨_, rfl, d, _, rfl, C1.left, .inl ⟨rfl, _, SqL.of C1.hl⟩, l, _, V.int (left1.getLast hne), rfl, rfl, C1.hl, ?_, ?_⟩
          · rw [List.length_map, List.getElem?_map, List.getElem?_eq_getElem (by omega), List.getLast_eq_getElem] <;> rfl
          · have C2 := C1.popped
            have el : (left1.map V.int).dropLast = left1.dropLast.map V.int := by rw [List.map_dropLast]
            rw [el]
            have hm : 0 ≤ left1.getLast hne := C1.l0 _ (List.getLast_mem hne)
            refine ⟨_, rfl, d, _, rfl, C2.putN, ?_⟩
            exact ⟨_, by rw [List.length_dropLast]; omega, _, _, _, rfl, C2.withN hm, K1.updL.updD, rfl⟩
        · have hpos := of_decide_eq_false (Bool.eq_false_iff.mpr hpos)
          rw [List.length_map] at hpos
          exact ⟨_, _, _, rfl, C1, K1, fun _ => List.length_eq_zero_iff.mp (by omega)⟩
      · exact ⟨_, _, _, rfl, C1, K1, fun e => absurd (decide_eq_true (by rw [e])) hn⟩
    · rintro σ H1 ⟨s1, n1, left1, rfl, C1, K1, hz⟩
      refine ⟨_, rfl, d, _, rfl, C1.number, ?_⟩
      refine ⟨_, rfl, _, _, rfl, rfl, _, rfl, ?_⟩
      refine ite2 (fun hn => ?_) (fun hn => ?_)
      · have hn := of_decide_eq_true hn
        refine ⟨_, rfl, _, rfl, _, _, rfl, rfl, ⟨m0, m1⟩, _, rfl, d, _, rfl, C1.putN, ?_⟩
        refine ⟨_, rfl, _, rfl, _, _, rfl, rfl, m0, ?_⟩
        exact k _ _ (Int.emod_nonneg _ (by omega)) (Int.emod_lt_of_pos _ m0) ⟨_, _, _, C1.withN (Int.ediv_nonneg C1.n0 (by omega))⟩ K1.updD
      · refine ⟨_, rfl, d, _, rfl, C1.seed, _, _, rfl, rfl, .inr ⟨by decide, by decide⟩, _, _, rfl, rfl, _, _, rfl, rfl, (by show (0 : Int) < 2147483647; decide), ?_⟩
        refine ⟨_, rfl, _, _, rfl, rfl, .inr ⟨by decide, by decide⟩, _, _, rfl, rfl, _, _, rfl, rfl, (by show (0 : Int) < 2147483399; decide), _, rfl, d, _, rfl, C1.putS, ?_⟩
        have C2 := C1.withS (m := ((s1 * 48271 + 7919) % 2147483647 * 40692 + 104729) % 2147483399) (Int.emod_nonneg _ (by decide)) (Int.lt_trans (Int.emod_lt_of_pos _ (by decide)) (by decide))
        refine ⟨_, rfl, d, _, rfl, C2.seed, _, rfl, d, _, rfl, C2.seed, _, _, rfl, rfl, .inr ⟨by omega, by omega⟩, _, _, rfl, rfl, (by show (0 : Int) < 2147483563; decide), ?_⟩
        refine ⟨_, rfl, _, rfl, _, _, rfl, rfl, .inr ⟨by omega, by omega⟩, _, _, rfl, rfl, (by show (0 : Int) < 2147483629; decide), _, _, rfl, rfl, .inr ⟨by decide, by decide⟩, _, rfl, _, _, rfl, rfl, _, rfl, _, _, rfl, rfl, m0, ?_⟩
        exact k _ _ (Int.emod_nonneg _ (by omega)) (Int.emod_lt_of_pos _ m0) ⟨_, _, _, C2⟩ K1.updD
end
end LB
set_option Elab.async false
set_option linter.all false
set_option maxRecDepth 100000
set_option maxHeartbeats 4000000
namespace LB
open PySem PySem.Spec PyProof.Rows L2
open C8 (pss_cut tCut)
abbrev s_law_deal : Stmt := top 25
theorem sc_law_deal : FnScope ["_law_script", "_law_base", "_law_cells", "_law_cell", "_law_number_here"] ["_law_script", "_law_base"] (defScope s_law_deal) := ⟨rfl, rfl, rfl, by decide +kernel, rfl, by decide +kernel, by decide +kernel⟩
def spDeal (K : PySem.W.Frag) : Sp := fun vs H Q _ => ∃ (a : Addr) (ns : List Int) (base : Int), vs = [.ref a, .int base] ∧ SqL K H a (ns.map V.int) ∧ ns.length ≤ 63 ∧ 0 ≤ base ∧ base ≤ 1000 ∧
  ∀ (d l : Addr) (H' : Hp), H d = none → H l = none → Deal d l H' → Same H H' → Q (.ref d) H'
section
variable {P : Program} {w : World} {K : PySem.W.Frag} {mg : Str → Option Value} {base : Heap}
theorem ok_law_deal (F : TopFn K mg "_law_deal" s_law_deal ["_law_script", "_law_base"]) (T : Txt K mg) : DefOk P w K mg base 1 "_law_deal" ["_law_script", "_law_base"] (spDeal K) := by
  refine F.ok sc_law_deal (fun vs H Q E h => ?_) (fun f cdv A outer s H vs Q E hr h => ?_)
  · obtain ⟨a, ns, b, rfl, _⟩ := h
    rfl
  · obtain ⟨a, ns, b, rfl, hS, hlen, b0, b1, k⟩ := h
    refine ⟨_, (pss_cons (ps_setLc (i := 2) (own := [("_law_cell", 3)]) (g := gName 3) (tt := tYes) rfl sc_law_deal.nd rfl rfl (sw_true rfl rfl rfl (by decide +kernel)) (pi_list (pe_slice sl_list (pv 0) (po_some (pv 1)) (po_some pe_int))) (blkOk_by (own := [("_law_cell", 3)]) (N := ["_law_script", "_law_base", "_law_cells", "_law_cell", "_law_number_here"]) (sc := defScope s_law_deal) (by decide +kernel)) (fun _ _ _ _ _ => (pg_name (i := 3) sc_law_deal.nd rfl (.inl rfl))) (fun _ _ _ _ _ => pts_nil) (fun _ _ _ _ _ => (pe_callB (call_max2 rfl) (by rfl) T.b_max (by decide +kernel) (pa_cons (pv 3) (pa_cons (pe_op op_sub pe_int (pv 3)) pa_nil)))))
    (pss_cons (ps_set (i := 4) sc_law_deal.nd rfl (.inl rfl) (pe_op op_add pe_int (pv 1)))
    (pss_cut (ps_for PassesOwn.never rfl (pi_list (pv 2)) (pg_name (i := 3) sc_law_deal.nd rfl (.inl rfl))
    (pss_one (ps_set (i := 4) sc_law_deal.nd rfl (.inl rfl) (pe_op op_mod (pe_op op_add (pe_op op_mul (pv 4) pe_int) (pe_op op_mod (pv 3) pe_int)) pe_int))))
    (pss_one (ps_ret (pe_disp (pps_cons pe_str (pv 4) (pps_cons pe_str pe_int (pps_cons pe_str (RT.pe_listRev rfl rfl T.b_list rfl T.b_reversed (pe_lc (own := [("_law_cell", 3)]) (g := gName 3) rfl sc_law_deal.nd (pi_list (pv 2)) (blkOk_by (own := [("_law_cell", 3)]) (N := ["_law_script", "_law_base", "_law_cells", "_law_cell", "_law_number_here"]) (sc := defScope s_law_deal) (by decide +kernel)) (fun _ _ _ _ _ => (pg_name (i := 3) sc_law_deal.nd rfl (.inl rfl))) (fun _ _ _ _ _ => (pts_one (pt_cmpR op_ge (pv 3) (pe_op op_pow pe_int pe_int) (nomark _)))) (fun _ _ _ _ _ => (pv 3)))) pps_nil))) (by rfl) (by rfl) (fun z => by cases z) (by decide))))))), ?_⟩
    obtain ⟨ms, ems, lms, _⟩ := cut_ints ns (some b) (some 63)
    refine ⟨_, rfl, _, rfl, _, rfl, _, rfl, a, _, rfl, hS, fun p hp => ?_⟩
    rw [ems]
    refine ⟨p, rfl, ⟨_, SqL.of upd_same⟩, fun D hD => ?_⟩
    have npD : p ≠ D := fun e => by rw [← e, upd_same] at hD; cases hD
    have hD0 : H D = none := by rw [upd_ne npD.symm] at hD; exact hD
    refine lc_list (K := K) (a := p) (xs := ms.map V.int) (fun i H' => ∃ cs : List Int, H' = upd (upd H p (.lst (ms.map V.int))) D (.lst (cs.map V.int)) ∧ cs.length = i ∧ ∀ c ∈ cs, 0 ≤ c)
      ⟨[], rfl, rfl, fun c h => by cases h⟩ (fun i H' _ ⟨cs, e, _⟩ => by rw [e]; exact SqL.of (by rw [upd_ne npD]; exact upd_same)) ?_ ?_
    · rintro i x H' hi ⟨cs, rfl, hl, h0⟩
      obtain ⟨m, hm, rfl⟩ := map_get hi
      have hlt := lt_of_get hm
      refine ⟨rfl, ?_⟩
      refine ⟨_, rfl, _, rfl, _, _, rfl, rfl, _, _, rfl, _, upd_same, ?_, cs ++ [if 0 - m > m then 0 - m else m], ?_, ?_, ?_⟩
      · rw [List.length_map]; exact sz63 (by omega)
      · rw [upd_upd, List.map_append] <;> rfl
      · rw [List.length_append, hl] <;> rfl
      · intro c hc
        rcases List.mem_append.mp hc with h | h
        · exact h0 c h
        · have e := List.mem_singleton.mp h
          rw [e]
          split <;> omega
    · rintro H' ⟨cs, rfl, hl, h0⟩
      rw [List.length_map] at hl
      have hlc : cs.length ≤ 63 := by omega
      refine ⟨_, rfl, _, _, rfl, rfl, ?_⟩
      have s1 : Same H (upd (upd H p (.lst (ms.map V.int))) D (.lst (cs.map V.int))) := (same_new hp).trans (same_new hD)
      have hH2 : upd (upd H p (.lst (ms.map V.int))) D (.lst (cs.map V.int)) D = some (.lst (cs.map V.int)) := upd_same
      generalize upd (upd H p (.lst (ms.map V.int))) D (.lst (cs.map V.int)) = H2 at s1 hH2
      refine ⟨fun σ H' => ∃ n v, σ = [some (.ref a), some (.int b), some (.ref D), v, some (.int n)] ∧ H' = H2 ∧ 0 ≤ n ∧ n < 2147483647, ?_, ?_⟩
      · refine ⟨_, rfl, D, rfl, ⟨_, SqL.of hH2⟩, for_list (K := K) (a := D) (xs := cs.map V.int) (fun i σ H' => ∃ n v, σ = [some (.ref a), some (.int b), some (.ref D), v, some (.int n)] ∧ H' = H2 ∧ 0 ≤ n ∧ n < 2147483647)
          ⟨6143 + b, none, rfl, rfl, by omega, by omega⟩ (fun i σ H' _ ⟨_, _, _, e, _⟩ => by rw [e]; exact SqL.of hH2) ?_ ?_⟩
        · rintro i x σ H' hi ⟨n, v, rfl, rfl, hn⟩
          obtain ⟨m, hm, rfl⟩ := map_get hi
          refine ⟨_, rfl, _, _, rfl, rfl, .inr ⟨by decide, by decide⟩, _, rfl, _, _, rfl, rfl, (by show (0 : Int) < 2147483629; decide), _, _, rfl, rfl, _, _, rfl, rfl, (by show (0 : Int) < 2147483647; decide), ?_⟩
          exact ⟨_, _, rfl, rfl, Int.emod_nonneg _ (by decide), Int.emod_lt_of_pos _ (by decide)⟩
        · exact fun σ H' h => h
      · rintro σ H' ⟨n, v, rfl, rfl, hn0, hn1⟩
        intro d hd
        have ndD : D ≠ d := ne_of_none hH2 hd
        refine ⟨_, rfl, _, rfl, D, rfl, ⟨_, SqL.of (by rw [upd_ne ndD]; exact hH2)⟩, fun D2 hD2 => ?_⟩
        have nD2d : D2 ≠ d := fun e => by rw [e, upd_same] at hD2; cases hD2
        have hD2' : H' D2 = none := by rw [upd_ne nD2d] at hD2; exact hD2
        have nDD2 : D ≠ D2 := ne_of_none hH2 hD2'
        refine lc_list (K := K) (a := D) (xs := cs.map V.int) (fun i H4 => ∃ gs : List Int, H4 = upd (upd H' d (.dK [])) D2 (.lst (gs.map V.int)) ∧ gs.length ≤ i ∧ ∀ c ∈ gs, 0 ≤ c)
          ⟨[], rfl, Nat.le_refl _, fun c h => by cases h⟩ (fun i H' _ ⟨gs, e, _⟩ => by rw [e]; exact SqL.of (by rw [upd_ne nDD2, upd_ne ndD]; exact hH2)) ?_ ?_
        · rintro i x H2 hi ⟨gs, rfl, hl2, g0⟩
          obtain ⟨m, hm, rfl⟩ := map_get hi
          have hlt := lt_of_get hm
          refine ⟨rfl, _, rfl, _, _, rfl, rfl, ⟨by decide, by decide, by decide⟩, _, _, rfl, rfl, _, rfl, ?_⟩
          refine ite2 (fun hc => ?_) (fun _ => ⟨gs, rfl, Nat.le_succ_of_le hl2, g0⟩)
          refine ⟨_, rfl, _, upd_same, ?_, gs ++ [m], ?_, ?_, ?_⟩
          · rw [List.length_map]; exact sz63 (by omega)
          · rw [upd_upd, List.map_append] <;> rfl
          · rw [List.length_append, List.length_singleton]; omega
          · intro c hc
            rcases List.mem_append.mp hc with h | h
            · exact g0 c h
            · rw [List.mem_singleton.mp h]
              exact h0 m (List.mem_of_getElem? hm)
        · rintro H2 ⟨gs, rfl, hl2, g0⟩
          rw [List.length_map] at hl2
          refine ⟨D2, _, rfl, SqL.of upd_same, fun q hq => ?_⟩
          have nqd : d ≠ q := fun e => by rw [← e, upd_ne nD2d.symm, upd_same] at hq; cases hq
          have nqD2 : q ≠ D2 := fun e => by rw [e, upd_same] at hq; cases hq
          have hq' : H' q = none := by rw [upd_ne nqD2, upd_ne nqd.symm] at hq; exact hq
          refine ⟨by rw [upd_ne nqd, upd_ne nD2d.symm, upd_same], [(.inr "seed", .int n), (.inr "number", .int 0), (.inr "left", .ref q)], rfl, (by show 3 ≤ 15; decide), ?_⟩
          refine k d q _ (s1.free hd) (s1.free hq') ⟨n, 0, gs.reverse, ?_, ?_, hn0, hn1, by decide, fun m h => g0 m (List.mem_reverse.mp h), by rw [List.length_reverse]; omega⟩ ?_
          · rw [upd_same, dkv_merge]
          · rw [upd_ne nqd.symm, upd_same, List.map_reverse]
          · intro b' o e
            have e' := s1 b' o e
            rw [upd_ne (ne_of_none e' hd), upd_ne (ne_of_none e' hq'), upd_ne (ne_of_none e' hD2'), upd_ne (ne_of_none e' hd)]
            exact e'
end
end LB
set_option Elab.async false
set_option linter.all false
set_option maxRecDepth 100000
set_option maxHeartbeats 4000000
namespace LB
open PySem PySem.Spec PyProof.Rows L2
open C8 (pss_cut tCut)
open RZ (pi_zipA iZipA ItzT for_zipT)
/-! ### rows of code -/
def isMod (n : Int) : Bool := (decide (0 < n) && decide (n ≤ 64)) && decide (64 % n = 0)
def within (form : Str) (n : Int) : Bool :=
  if form = "register" then decide (0 ≤ n) && decide (n < 8) else
  if form = "slot" then decide (0 ≤ n) && decide (n < 1000) else
  if form = "number" then decide (-18446744073709551616 < n) && decide (n < 18446744073709551616) else
  if form = "modulus" then isMod n else
  if form = "rest" then decide (0 ≤ n) && decide (n < 64) else decide (0 ≤ n) && decide (n ≤ 1000)
structure TxtR (K : PySem.W.Frag) (mg : Str → Option Value) : Prop extends Txt K mg where
  g_LIMIT : ∃ t, mg "LIMIT" = some (.int 18446744073709551616 t)
  g_MOST_ROWS : ∃ t, mg "MOST_ROWS" = some (.int 1000 t)
  g_MOST_REGISTERS : ∃ t, mg "MOST_REGISTERS" = some (.int 8 t)
  g_MOST_SLOTS : ∃ t, mg "MOST_SLOTS" = some (.int 1000 t)
  g_MOST_MODULUS : ∃ t, mg "MOST_MODULUS" = some (.int 64 t)
section
variable {P : Program} {w : World} {K : PySem.W.Frag} {mg : Str → Option Value} {base : Heap}
abbrev s_is_integer : Stmt := top 3
theorem sc_is_integer : FnScope ["value"] ["value"] (defScope s_is_integer) := ⟨rfl, rfl, rfl, by decide +kernel, rfl, by decide +kernel, by decide +kernel⟩
/-- of an int -/
def spIsInteger : Sp := fun vs H Q _ => ∃ (n : Int), vs = [.int n] ∧ Q (.bl true) H
theorem ok_is_integer (F : TopFn K mg "is_integer" s_is_integer ["value"]) (T : TxtR K mg) : DefOk P w K mg base 1 "is_integer" ["value"] spIsInteger := by
  refine F.ok sc_is_integer (fun vs H Q E h => ?_) (fun f cdv A outer s H vs Q E hr h => ?_)
  · obtain ⟨n, rfl, _⟩ := h
    rfl
  · obtain ⟨n, rfl, k⟩ := h
    refine ⟨_, (pss_one (ps_ret (pe_and (pe_callB call_isi (by rfl) T.b_isinstance (by decide +kernel) (pa_cons (pv 0) (pa_cons (pe_bltn (v := .ty "int") (by rfl) T.b_int (by decide +kernel) rfl) pa_nil))) (pe_one (pe_not (pe_callB call_isi (by rfl) T.b_isinstance (by decide +kernel) (pa_cons (pv 0) (pa_cons (pe_bltn (v := .ty "bool") (by rfl) T.b_bool (by decide +kernel) rfl) pa_nil)))))))), ?_⟩
    refine ⟨_, rfl, _, _, _, _, true, rfl, .ty _, .base (.int _), kit_ty (by decide +kernel), _, rfl, ?_⟩
    refine ⟨_, rfl, _, _, _, _, false, rfl, .ty _, .base (.int _), kit_ty (by decide +kernel), _, rfl, k⟩
abbrev s_is_modulus : Stmt := top 11
theorem sc_is_modulus : FnScope ["number"] ["number"] (defScope s_is_modulus) := ⟨rfl, rfl, rfl, by decide +kernel, rfl, by decide +kernel, by decide +kernel⟩
def spIsModulus : Sp := fun vs H Q _ => ∃ (n : Int), vs = [.int n] ∧ Q (.bl (isMod n)) H
theorem ok_is_modulus (F : TopFn K mg "is_modulus" s_is_modulus ["number"]) (T : TxtR K mg) : DefOk P w K mg base 1 "is_modulus" ["number"] spIsModulus := by
  refine F.ok sc_is_modulus (fun vs H Q E h => ?_) (fun f cdv A outer s H vs Q E hr h => ?_)
  · obtain ⟨n, rfl, _⟩ := h
    rfl
  · obtain ⟨n, rfl, k⟩ := h
    refine ⟨_, (pss_one (ps_ret (pe_and (pe_chain op_lt op_le pe_int (pv 0) (pe_gint rfl T.g_MOST_MODULUS)) (pe_one (pe_cmpR op_eq (pe_op op_mod (pe_gint rfl T.g_MOST_MODULUS) (pv 0)) pe_int (nomark _)))))), ?_⟩
    refine ⟨_, rfl, _, _, rfl, rfl, _, rfl, ?_⟩
    refine ite2 (fun h0 => ?_) (fun h0 => ?_)
    · have h0 := of_decide_eq_true h0
      refine ⟨_, _, rfl, rfl, _, rfl, ?_⟩
      refine ite2 (fun h1 => ?_) (fun h1 => ?_)
      · refine ⟨_, rfl, _, _, rfl, rfl, h0, rfl, ?_⟩
        have e : isMod n = decide (V.int (64 % n) = V.int 0) := by
          unfold isMod
          rw [decide_eq_true h0, h1]
          exact decide_eq_decide.mpr ⟨fun z => by rw [z], fun z => V.int.inj z⟩
        rw [e] at k
        exact k
      · have e : isMod n = false := by
          unfold isMod
          rw [Bool.eq_false_iff.mpr h1, Bool.and_false, Bool.false_and]
        rw [e] at k
        exact k
    · have e : isMod n = false := by
        unfold isMod
        rw [Bool.eq_false_iff.mpr h0, Bool.false_and, Bool.false_and]
      rw [e] at k
      exact ⟨_, rfl, k⟩
abbrev s_is_within : Stmt := top 12
theorem sc_is_within : FnScope ["form", "number"] ["form", "number"] (defScope s_is_within) := ⟨rfl, rfl, rfl, by decide +kernel, rfl, by decide +kernel, by decide +kernel⟩
def spIsWithin : Sp := fun vs H Q _ => ∃ (z : Str) (n : Int), vs = [.str z, .int n] ∧ Q (.bl (within z n)) H
theorem chain_k {p q : Bool} {H : Hp} {Q : VK} {R : Prop} (k : Q (.bl (p && q)) H) (h1 : p = true → R → Q (.bl q) H) : True := trivial
theorem ok_is_within (F : TopFn K mg "is_within" s_is_within ["form", "number"]) (T : TxtR K mg) (D_is_modulus : DefOk P w K mg base 1 "is_modulus" ["number"] spIsModulus) : DefOk P w K mg base 2 "is_within" ["form", "number"] spIsWithin := by
  refine F.ok sc_is_within (fun vs H Q E h => ?_) (fun f cdv A outer s H vs Q E hr h => ?_)
  · obtain ⟨z, n, rfl, _⟩ := h
    rfl
  · obtain ⟨z, n, rfl, k⟩ := h
    refine ⟨_, (pss_one (ps_match (pv 0) (pm_str (pss_one (ps_ret (pe_chain op_le op_lt pe_int (pv 1) (pe_gint rfl T.g_MOST_REGISTERS))))
    (pm_str (pss_one (ps_ret (pe_chain op_le op_lt pe_int (pv 1) (pe_gint rfl T.g_MOST_SLOTS))))
    (pm_str (pss_one (ps_ret (pe_chain op_lt op_lt (pe_op op_sub pe_int (pe_gint rfl T.g_LIMIT)) (pv 1) (pe_gint rfl T.g_LIMIT))))
    (pm_str (pss_one (ps_ret (pe_fn D_is_modulus (hr.mono (by decide)) rfl (pa_cons (pv 1) pa_nil))))
    (pm_str (pss_one (ps_ret (pe_chain op_le op_lt pe_int (pv 1) (pe_gint rfl T.g_MOST_MODULUS))))
    (pm_any (pss_one (ps_ret (pe_chain op_le op_le pe_int (pv 1) (pe_gint rfl T.g_MOST_ROWS)))))))))))), ?_⟩
    unfold within at k
    refine ⟨_, rfl, _, rfl, ?_⟩
    refine ite2 (fun h => ?_) (fun h => ?_)
    · rw [if_pos h] at k
      refine ⟨_, rfl, _, _, rfl, rfl, _, rfl, ?_⟩
      refine ite2 (fun h0 => ?_) (fun h0 => ?_)
      · rw [h0, Bool.true_and] at k
        exact ⟨_, _, rfl, rfl, k⟩
      · rw [Bool.eq_false_iff.mpr h0, Bool.false_and] at k
        exact k
    rw [if_neg h] at k
    refine ⟨_, rfl, ?_⟩
    refine ite2 (fun h => ?_) (fun h => ?_)
    · rw [if_pos h] at k
      refine ⟨_, rfl, _, _, rfl, rfl, _, rfl, ?_⟩
      refine ite2 (fun h0 => ?_) (fun h0 => ?_)
      · rw [h0, Bool.true_and] at k
        exact ⟨_, _, rfl, rfl, k⟩
      · rw [Bool.eq_false_iff.mpr h0, Bool.false_and] at k
        exact k
    rw [if_neg h] at k
    refine ⟨_, rfl, ?_⟩
    refine ite2 (fun h => ?_) (fun h => ?_)
    · rw [if_pos h] at k
      refine ⟨_, _, rfl, rfl, _, rfl, _, _, rfl, rfl, _, rfl, ?_⟩
      refine ite2 (fun h0 => ?_) (fun h0 => ?_)
      · have e : decide ((0 : Int) - 18446744073709551616 < n) = decide (-18446744073709551616 < n) := rfl
        rw [← e, h0, Bool.true_and] at k
        exact ⟨_, _, rfl, rfl, k⟩
      · have e : decide ((0 : Int) - 18446744073709551616 < n) = decide (-18446744073709551616 < n) := rfl
        rw [← e, Bool.eq_false_iff.mpr h0, Bool.false_and] at k
        exact k
    rw [if_neg h] at k
    refine ⟨_, rfl, ?_⟩
    refine ite2 (fun h => ?_) (fun h => ?_)
    · rw [if_pos h] at k
      exact ⟨_, rfl, n, rfl, k⟩
    rw [if_neg h] at k
    refine ⟨_, rfl, ?_⟩
    refine ite2 (fun h => ?_) (fun h => ?_)
    · rw [if_pos h] at k
      refine ⟨_, rfl, _, _, rfl, rfl, _, rfl, ?_⟩
      refine ite2 (fun h0 => ?_) (fun h0 => ?_)
      · rw [h0, Bool.true_and] at k
        exact ⟨_, _, rfl, rfl, k⟩
      · rw [Bool.eq_false_iff.mpr h0, Bool.false_and] at k
        exact k
    rw [if_neg h] at k
    refine ⟨_, rfl, _, _, rfl, rfl, _, rfl, ?_⟩
    refine ite2 (fun h0 => ?_) (fun h0 => ?_)
    · rw [h0, Bool.true_and] at k
      exact ⟨_, _, rfl, rfl, k⟩
    · rw [Bool.eq_false_iff.mpr h0, Bool.false_and] at k
      exact k
def forms : List (Str × List Str) := [("set", ["register", "number"]), ("copy", ["register", "register"]), ("add", ["register", "register", "register"]), ("sub", ["register", "register", "register"]), ("mul", ["register", "register", "register"]),
  ("left", ["register", "register"]), ("right", ["register", "register"]), ("load", ["register", "slot"]), ("store", ["slot", "register"]), ("skip", ["register", "modulus", "rest", "count"])]
structure FormsAt (K : PySem.W.Frag) (w : World) (mg : Str → Option Value) (d : Addr) (es : Array DictEntry) (n : Nat) : Prop where
  g : mg "FORMS" = some (.ref d)
  kd : KDict K w d es n
  all : ∀ p ∈ forms, ∃ t, PySem.W.nsIn K d p.1 = some (some (.ref t)) ∧ ∀ H, SqT K H t (p.2.map V.str)
structure RowOk (z : Str) (ns : List Int) : Prop where
  ex : ∃ fs, (z, fs) ∈ forms ∧ fs.length = ns.length ∧ ∀ (i : Nat) f n, fs[i]? = some f → ns[i]? = some n → within f n = true
  sk : z = "skip" → ∃ a m c n, ns = [a, m, c, n] ∧ c < m
/-- a row stands at a -/
def rowL (z : Str) (ns : List Int) : List V := .str z :: ns.map V.int
def spIsRow : Sp := fun vs H Q _ => ∃ (a : Addr) (z : Str) (ns : List Int), vs = [.ref a] ∧ H a = some (.tup (rowL z ns)) ∧ RowOk z ns ∧ ns.length ≤ 10 ∧ ∀ H', Same H H' → Q (.bl true) H'
abbrev s_is_row : Stmt := top 13
theorem sc_is_row : FnScope ["row", "forms", "items", "form", "item"] ["row"] (defScope s_is_row) := ⟨rfl, rfl, rfl, by decide +kernel, rfl, by decide +kernel, by decide +kernel⟩
theorem ok_is_row {d : Addr} {es : Array DictEntry} {n : Nat} (F : TopFn K mg "is_row" s_is_row ["row"]) (T : TxtR K mg) (FA : FormsAt K w mg d es n) (D_is_integer : DefOk P w K mg base 1 "is_integer" ["value"] spIsInteger)
    (D_is_within : DefOk P w K mg base 2 "is_within" ["form", "number"] spIsWithin) : DefOk P w K mg base 3 "is_row" ["row"] spIsRow := by
  refine F.ok sc_is_row (fun vs H Q E h => ?_) (fun f cdv A outer s H vs Q E hr h => ?_)
  · obtain ⟨a, z, ns, rfl, _⟩ := h
    rfl
  · obtain ⟨a, z, ns, rfl, ha, ok, hlen, k⟩ := h
    obtain ⟨fs, hfs, lfs, hw⟩ := ok.ex
    obtain ⟨t, ht, hT⟩ := FA.all _ hfs
    refine ⟨_, (pss_cons (ps_if (PW.pt (pw_or (pt_not (pt_val (pe_callB call_isi (by rfl) T.b_isinstance (by decide +kernel) (pa_cons (pv 0) (pa_cons (pe_bltn (v := .ty "tuple") (by rfl) T.b_tuple (by decide +kernel) rfl) pa_nil))))) (pw_or (pt_cmpR op_eq (pe_callB call_len_seq (by rfl) T.b_len (by decide +kernel) (pa_cons (pv 0) pa_nil)) pe_int (nomark _)) (pw_or (pt_not (pt_val (pe_callB call_isi (by rfl) T.b_isinstance (by decide +kernel) (pa_cons (pe_ix ix_tup (pv 0) pe_int (fun _ _ => rfl)) (pa_cons (pe_bltn (v := .ty "str") (by rfl) T.b_str (by decide +kernel) rfl) pa_nil))))) (pw_or1 (pt_cmpR (op_notIn_kd FA.kd) (pe_ix ix_tup (pv 0) pe_int (fun _ _ => rfl)) (pe_gref rfl FA.g) (by rfl))))))) (pss_one (ps_ret pe_bl)) pss_nil)
    (pss_cons (ps_par (i := 1) (j := 2) (by rfl) sc_is_row.nd rfl rfl (by decide) rfl rfl (pa_cons (pe_ix ix_kdict (pe_gref rfl FA.g) (pe_ix ix_tup (pv 0) pe_int (fun _ _ => rfl)) (fun _ _ => rfl)) (pa_cons (pe_slice sl_tup (pv 0) (po_some pe_int) po_none) pa_nil)) (by rfl))
    (pss_cons (ps_if (pt_cmpR op_ne (pe_callB call_len_seq (by rfl) T.b_len (by decide +kernel) (pa_cons (pv 2) pa_nil)) (pe_callB call_len_seq (by rfl) T.b_len (by decide +kernel) (pa_cons (pv 1) pa_nil)) (nomark _)) (pss_one (ps_ret pe_bl)) pss_nil)
    (pss_cut (ps_for PassesOwn.never rfl (pi_zipA (by rfl) T.b_zip (pa_cons (pv 1) (pa_cons (pv 2) pa_nil))) (pg_tup rfl (pgs_cons (pg_name (i := 3) sc_is_row.nd rfl (.inl rfl)) (pgs_cons (pg_name (i := 4) sc_is_row.nd rfl (.inl rfl)) pgs_nil)))
    (pss_one (ps_if (PW.pt (pw_or (pt_not (pt_val (pe_fn D_is_integer (hr.mono (by decide)) rfl (pa_cons (pv 4) pa_nil)))) (pw_or1 (pt_not (pt_val (pe_fn D_is_within (hr.mono (by decide)) rfl (pa_cons (pv 3) (pa_cons (pv 4) pa_nil)))))))) (pss_one (ps_ret pe_bl)) pss_nil)))
    (pss_one (ps_ret (pe_or (pe_cmpR op_ne (pe_ix ix_tup (pv 0) pe_int (fun _ _ => rfl)) pe_str (nomark _)) (pe_one (pe_cmpR op_lt (pe_ix ix_tup (pv 0) pe_int (fun _ _ => rfl)) (pe_ix ix_tup (pv 0) pe_int (fun _ _ => rfl)) (nomark _)))))))))), ?_⟩
    have h0 : atI (rowL z ns) 0 = some (.str z) := atI_nat (j := 0) rfl
    have hne : decide (V.int ((rowL z ns).length : Nat) = V.int 0) = false := decide_eq_false fun e => by
      have := V.int.inj e
      unfold rowL at this
      rw [List.length_cons] at this
      omega
    refine ⟨_, rfl, _, _, _, _, true, rfl, .ty _, .base (.tup ha), kit_ty (by decide +kernel), _, rfl, ?_⟩
    refine ⟨_, rfl, a, _, rfl, .inr (SqT.of ha), rfl, _, rfl, ?_⟩
    refine ifF hne ?_
    refine ⟨_, rfl, a, _, _, _, rfl, rfl, SqT.of ha, h0, _, _, _, _, true, rfl, .ty _, .base (.str _), kit_ty (by decide +kernel), _, rfl, ?_⟩
    refine ⟨_, rfl, a, _, _, _, rfl, rfl, SqT.of ha, h0, z, some (.ref t), rfl, rfl, ht, _, rfl, ?_⟩
    refine ⟨_, rfl, a, _, _, _, rfl, rfl, SqT.of ha, h0, d, z, .ref t, rfl, rfl, ⟨es, n, _, FA.kd.at_, FA.kd.lit, ht, rfl⟩, ?_⟩
    refine ⟨_, rfl, _, rfl, a, _, rfl, SqT.of ha, part_from (k := 1) (by decide) (by unfold rowL; rw [List.length_cons]; omega), fun p hp => ?_⟩
    rw [show cutV (rowL z ns) (some 1) none = ns.map V.int from cut_from (rowL z ns) 1 (by unfold rowL; rw [List.length_cons]; omega)]
    refine ⟨_, _, rfl, ?_⟩
    refine ⟨_, rfl, p, _, rfl, .inr (SqT.of upd_same), _, rfl, t, _, rfl, .inr (hT _), rfl, _, rfl, ?_⟩
    have hle : (!decide (V.int (((ns.map V.int).length : Nat) : Int) = V.int (((fs.map V.str).length : Nat) : Int))) = false := by
      rw [List.length_map, List.length_map, lfs, decide_eq_true rfl] <;> rfl
    refine ifF hle ?_
    have s1 : Same H (upd H p (.tup (ns.map V.int))) := same_new hp
    have hp1 : upd H p (.tup (ns.map V.int)) p = some (.tup (ns.map V.int)) := upd_same
    generalize upd H p (.tup (ns.map V.int)) = H1 at s1 hp1
    refine ⟨fun σ H' => ∃ v3 v4, σ = [some (.ref a), some (.ref t), some (.ref p), v3, v4] ∧ Same H1 H', ?_, ?_⟩
    · refine ⟨_, rfl, _, rfl, t, p, _, _, rfl, .inr ⟨hT _, SqT.of hp1, for_zipT (K := K) (a := t) (b := p) (xs := fs.map V.str) (ys := ns.map V.int) (by rw [List.length_map, List.length_map, lfs]) (fun i σ H' => ∃ v3 v4, σ = [some (.ref a), some (.ref t), some (.ref p), v3, v4] ∧ Same H1 H')
        ⟨none, none, rfl, Same.refl _⟩ (fun i σ H' ⟨_, _, _, s2⟩ => ⟨hT _, SqT.of (s2 _ _ hp1)⟩) ?_ ?_⟩⟩
      · rintro i x y T σ H2 hx hy ⟨v3, v4, rfl, s2⟩ hTn
        obtain ⟨f1, hf1, rfl⟩ := map_get hx
        obtain ⟨m, hm, rfl⟩ := map_get hy
        have hwm := hw i f1 m hf1 hm
        refine ⟨T, _, rfl, SqT.of upd_same, rfl, _, _, rfl, _, _, rfl, rfl, ?_⟩
        refine ⟨_, rfl, m, rfl, _, rfl, ?_⟩
        refine ⟨_, rfl, _, rfl, f1, m, rfl, _, rfl, ?_⟩
        refine ifF (by rw [hwm]; rfl) ?_
        exact ⟨_, _, rfl, s2.trans (same_new hTn)⟩
      · rintro σ H2 h
        exact h
    · rintro σ H2 ⟨v3, v4, rfl, s2⟩
      have ha2 : H2 a = some (.tup (rowL z ns)) := s2 _ _ (s1 _ _ ha)
      refine ⟨_, rfl, a, _, _, _, rfl, rfl, SqT.of ha2, h0, rfl, _, rfl, ?_⟩
      refine ite2 (fun _ => k _ (s1.trans s2)) (fun h => ?_)
      have ez : z = "skip" := by
        have q : decide (V.str z = V.str "skip") = true := by simpa using h
        exact V.str.inj (of_decide_eq_true q)
      obtain ⟨b1, m1, c1, n1, rfl, hcm⟩ := ok.sk ez
      refine ⟨_, rfl, a, _, _, _, rfl, rfl, SqT.of ha2, atI_nat (j := 3) rfl, _, rfl, a, _, _, _, rfl, rfl, SqT.of ha2, atI_nat (j := 2) rfl, _, _, rfl, rfl, ?_⟩
      have e : decide (c1 < m1) = true := decide_eq_true hcm
      show Q (V.bl (decide (c1 < m1))) _
      rw [e]
      exact k _ (s1.trans s2)
/-! ### rows, one after another -/
abbrev Rw := Str × List Int
def RowAt (H : Hp) (v : V) (r : Rw) : Prop := ∃ a, v = .ref a ∧ H a = some (.tup (rowL r.1 r.2))
structure RowsAt (H : Hp) (vs : List V) (rs : List Rw) : Prop where
  len : vs.length = rs.length
  get : ∀ (i : Nat) v r, vs[i]? = some v → rs[i]? = some r → RowAt H v r
theorem RowAt.same {H H' : Hp} {v : V} {r : Rw} (s : Same H H') (h : RowAt H v r) : RowAt H' v r := let ⟨a, e, q⟩ := h; ⟨a, e, s _ _ q⟩
theorem RowsAt.same {H H' : Hp} {vs : List V} {rs : List Rw} (s : Same H H') (h : RowsAt H vs rs) : RowsAt H' vs rs := ⟨h.len, fun i v r h1 h2 => (h.get i v r h1 h2).same s⟩
theorem RowsAt.nil {H : Hp} : RowsAt H [] [] := ⟨rfl, fun i v r h => by simp at h⟩
theorem RowsAt.snoc {H : Hp} {vs : List V} {rs : List Rw} {v : V} {r : Rw} (h : RowsAt H vs rs) (hv : RowAt H v r) : RowsAt H (vs ++ [v]) (rs ++ [r]) := by
  refine ⟨by rw [List.length_append, List.length_append, h.len] <;> rfl, fun i v' r' h1 h2 => ?_⟩
  by_cases hi : i < vs.length
  · rw [List.getElem?_append_left hi] at h1
    rw [List.getElem?_append_left (by rw [← h.len]; exact hi)] at h2
    exact h.get i v' r' h1 h2
  · have hi2 : ¬ i < rs.length := by rw [← h.len]; exact hi
    rw [List.getElem?_append_right (by omega)] at h1 h2
    have e1 : i - vs.length = 0 := by
      have := lt_of_get h1
      simp at this
      omega
    have e2 : i - rs.length = 0 := by rw [← h.len]; exact e1
    rw [e1] at h1
    rw [e2] at h2
    cases h1
    cases h2
    exact hv
theorem RowsAt.row {H : Hp} {vs : List V} {rs : List Rw} {i : Nat} {v : V} (h : RowsAt H vs rs) (hv : vs[i]? = some v) : ∃ r, rs[i]? = some r ∧ RowAt H v r := by
  have hi := lt_of_get hv
  rw [h.len] at hi
  exact ⟨rs[i], List.getElem?_eq_getElem hi, h.get i v _ hv (List.getElem?_eq_getElem hi)⟩
structure CodeOk (rs : List Rw) : Prop where
  few : rs.length ≤ 1000
  row : ∀ (i : Nat) r, rs[i]? = some r → RowOk r.1 r.2 ∧ r.2.length ≤ 10
  skip : ∀ (i : Nat) r n, rs[i]? = some r → r.1 = "skip" → r.2[3]? = some n → (i : Int) + n < rs.length
def Seq (K : PySem.W.Frag) (H : Hp) (l : Addr) (xs : List V) : Prop := SqL K H l xs ∨ SqT K H l xs
theorem sqT_same {K : PySem.W.Frag} {H H' : Hp} {l : Addr} {xs : List V} (s : Same H H') (h : SqT K H l xs) : SqT K H' l xs := by
  rcases h with (h | ⟨o, h⟩) | h
  · exact .inl (.inl (s _ _ h))
  · exact .inl (.inr ⟨o, s _ _ h⟩)
  · exact .inr h
theorem Seq.same {K : PySem.W.Frag} {H H' : Hp} {l : Addr} {xs : List V} (s : Same H H') (h : Seq K H l xs) : Seq K H' l xs := by
  rcases h with h | h
  · exact .inl (s.seq h)
  · rcases h with (h | ⟨o, h⟩) | h
    · exact .inr (.inl (.inl (s _ _ h)))
    · exact .inr (.inl (.inr ⟨o, s _ _ h⟩))
    · exact .inr (.inr h)
def spCheckRows (K : PySem.W.Frag) : Sp := fun vs H Q _ => ∃ (l : Addr) (xs : List V) (rs : List Rw), vs = [.ref l] ∧ Seq K H l xs ∧ RowsAt H xs rs ∧ CodeOk rs ∧ ∀ H', Same H H' → Q .non H'
abbrev s_check_rows : Stmt := top 22
theorem sc_check_rows : FnScope ["rows", "at", "row"] ["rows"] (defScope s_check_rows) := ⟨rfl, rfl, rfl, by decide +kernel, rfl, by decide +kernel, by decide +kernel⟩
theorem ok_check_rows (F : TopFn K mg "check_rows" s_check_rows ["rows"]) (T : TxtR K mg) (D_is_row : DefOk P w K mg base 3 "is_row" ["row"] spIsRow) : DefOk P w K mg base 4 "check_rows" ["rows"] (spCheckRows K) := by
  refine F.ok sc_check_rows (fun vs H Q E h => ?_) (fun f cdv A outer s H vs Q E hr h => ?_)
  · obtain ⟨l, xs, rs, rfl, _⟩ := h
    rfl
  · obtain ⟨l, xs, rs, rfl, hS, hR, ok, k⟩ := h
    refine ⟨_, (pss_cons (ps_if (pt_cmpR op_gt (pe_callB call_len_seq (by rfl) T.b_len (by decide +kernel) (pa_cons (pv 0) pa_nil)) (pe_gint rfl T.g_MOST_ROWS) (nomark _)) (pss_one ps_never) pss_nil)
    (pss_one (ps_for PassesOwn.never rfl (pi_enumA (by rfl) T.b_enumerate (pa_cons (pv 0) pa_nil)) (pg_tup rfl (pgs_cons (pg_name (i := 1) sc_check_rows.nd rfl (.inl rfl)) (pgs_cons (pg_name (i := 2) sc_check_rows.nd rfl (.inl rfl)) pgs_nil)))
    (pss_cons (ps_if (pt_not (pt_val (pe_fn D_is_row (hr.mono (by decide)) rfl (pa_cons (pv 2) pa_nil)))) (pss_one ps_never) pss_nil)
    (pss_one (ps_if (PW.pt (pw_and (pt_cmpR op_eq (pe_ix ix_tup (pv 2) pe_int (fun _ _ => rfl)) pe_str (nomark _)) (pw_and1 (pt_cmpR op_ge (pe_op op_add (pv 1) (pe_ix ix_tup (pv 2) pe_int (fun _ _ => rfl))) (pe_callB call_len_seq (by rfl) T.b_len (by decide +kernel) (pa_cons (pv 0) pa_nil)) (nomark _))))) (pss_one ps_never) pss_nil)))))), ?_⟩
    refine ⟨_, rfl, l, _, rfl, hS, _, _, rfl, rfl, _, rfl, ?_⟩
    refine ifF (decide_eq_false (by rw [hR.len]; have := ok.few; omega)) ?_
    refine ⟨_, rfl, l, xs, rfl, ?_⟩
    rcases hS with hq | hq
    all_goals (
      first
        | refine .inl ⟨hq, for_it (walk_enum (xs := xs)) (fun i σ H' => ∃ v1 v2, σ = [some (.ref l), v1, v2] ∧ Same H H') ?_ ?_ ?_ ?_⟩
        | refine .inr ⟨hq, for_it (walk_enumT (xs := xs)) (fun i σ H' => ∃ v1 v2, σ = [some (.ref l), v1, v2] ∧ Same H H') ?_ ?_ ?_ ?_⟩
      · exact ⟨none, none, rfl, Same.refl _⟩
      · rintro i σ H' _ ⟨_, _, _, s1⟩
        first
          | exact s1.seq hq
          | exact sqT_same s1 hq
      · rintro i x σ H1 H2 hi ⟨v1, v2, rfl, s1⟩ ⟨T, x1, y1, rfl, hTn, rfl, e1, hy⟩
        obtain rfl := Option.some.inj e1
        obtain ⟨r, hr1, ra, rfl, hra⟩ := hR.row hy
        have s2 : Same H (upd H1 T (.tup [.int (i : Nat), .ref ra])) := s1.trans (same_new hTn)
        have hR2 := ok.row i r hr1
        refine ⟨T, _, rfl, SqT.of upd_same, rfl, _, _, rfl, _, _, rfl, rfl, ?_⟩
        refine ⟨_, rfl, ra, r.1, r.2, rfl, s2 _ _ hra, hR2.1, hR2.2, fun H3 s3 => ?_⟩
        refine ⟨_, rfl, ?_⟩
        have hra3 := s3 _ _ (s2 _ _ hra)
        refine ⟨_, rfl, ra, _, _, _, rfl, rfl, SqT.of hra3, atI_nat (j := 0) rfl, rfl, _, rfl, ?_⟩
        refine ite2 (fun h => ?_) (fun h => ?_)
        · have ez : r.1 = "skip" := V.str.inj (of_decide_eq_true h)
          obtain ⟨b1, m1, c1, n1, e2, _⟩ := hR2.1.sk ez
          have hskip := ok.skip i r n1 hr1 ez (by rw [e2]; rfl)
          have hS3 : Seq K H3 l xs := Seq.same (s2.trans s3) (by first | exact .inl hq | exact .inr hq)
          refine ⟨_, rfl, _, rfl, ra, _, _, .int n1, rfl, rfl, SqT.of hra3, atI_nat (j := 4) (by rw [e2]; rfl), _, _, rfl, rfl, _, rfl, l, _, rfl, hS3, _, _, rfl, rfl, _, rfl, ?_⟩
          refine ifF (decide_eq_false (by rw [hR.len]; omega)) ?_
          exact ⟨_, _, rfl, s2.trans s3⟩
        · exact ⟨_, _, rfl, s2.trans s3⟩
      · rintro σ H' ⟨_, _, rfl, s1⟩
        exact k _ s1)
/-! ### the class Code -/
def codeF (p : Addr) : List (Str × V) := [("rows", .ref p)]
theorem codeF_put (p : Addr) : putF "rows" (.ref p) [] = codeF p := rfl
theorem codeF_rows (p : Addr) : (codeF p).lookup ("rows" : Str) = some (.ref p) := by
  unfold codeF
  rw [List.lookup_cons_self]
theorem codeF_no (p : Addr) {m : Str} (h : ¬ m = "rows") : (codeF p).lookup m = none := by
  unfold codeF
  rw [List.lookup_cons, show (m == ("rows" : Str)) = false by simpa using h]
  rfl
/-- a code with the rows rs stands at v -/
def CodeAt (K : PySem.W.Frag) (C : Addr) (H : Hp) (a p : Addr) (rs : List Rw) : Prop := ∃ dx xs, H a = some (.ins C dx (codeF p)) ∧ SqT K H p xs ∧ RowsAt H xs rs
theorem CodeAt.same {K : PySem.W.Frag} {C a p : Addr} {H H' : Hp} {rs : List Rw} (s : Same H H') (h : CodeAt K C H a p rs) : CodeAt K C H' a p rs := by
  obtain ⟨dx, xs, h1, h2, h3⟩ := h
  exact ⟨dx, xs, s _ _ h1, sqT_same s h2, h3.same s⟩
structure CodeCls (K : PySem.W.Frag) (mg : Str → Option Value) (C : Addr) : Prop where
  own : OwnCls K mg "Code" C
  nR : NoAttr K C "rows"
def spCodeInit (K : PySem.W.Frag) (C : Addr) : Sp := fun vs H Q _ => ∃ (x dx l : Addr) (xs : List V) (rs : List Rw), vs = [.ref x, .ref l] ∧ H x = some (.ins C dx []) ∧ Seq K H l xs ∧ RowsAt H xs rs ∧ CodeOk rs ∧
  ∀ H' p, (∀ b o, H b = some o → b ≠ x → H' b = some o) → H' x = some (.ins C dx (codeF p)) → SqT K H' p xs → Q .non H'
abbrev s_Code_init : Stmt := inClass (top 23) 0
theorem sc_Code_init : FnScope ["self", "rows"] ["self", "rows"] (defScope s_Code_init) := ⟨rfl, rfl, rfl, by decide +kernel, rfl, by decide +kernel, by decide +kernel⟩
theorem ok_Code_init {C : Addr} (F : TopMeth K C "__init__" "Code.__init__" s_Code_init ["self", "rows"]) (T : TxtR K mg) (cc : CodeCls K mg C) (D_check_rows : DefOk P w K mg base 4 "check_rows" ["rows"] (spCheckRows K)) :
    MethOk P w K mg base 5 C "__init__" ["self", "rows"] (spCodeInit K C) := by
  refine F.ok sc_Code_init (fun vs H Q E h => ?_) (fun f cdv A outer s H vs Q E hr h => ?_)
  · obtain ⟨x, dx, l, xs, rs, rfl, _⟩ := h
    rfl
  · obtain ⟨x, dx, l, xs, rs, rfl, hx, hS, hR, ok, k⟩ := h
    refine ⟨_, (pss_cons (ps_expr (pe_fn D_check_rows (hr.mono (by decide)) rfl (pa_cons (pv 1) pa_nil)))
    (pss_one (ps_fld (pv 0) (pe_callTy call_tuple_of (by rfl) T.b_tuple (by decide +kernel) (pa_cons (pv 1) pa_nil)) rfl))), ?_⟩
    refine ⟨_, rfl, l, xs, rs, rfl, hS, hR, ok, fun H1 s1 => ?_⟩
    have hx1 := s1 _ _ hx
    have hfew : xs.length ≤ sizeLine := by rw [hR.len]; exact szL (Nat.le_trans ok.few (by decide))
    refine ⟨_, rfl, l, xs, rfl, ?_⟩
    rcases hS with hq | hq
    · refine .inl ⟨s1.seq hq, fun q hqn => ?_⟩
      have nxq : x ≠ q := ne_of_none hx1 hqn
      refine ⟨_, rfl, x, C, dx, [], rfl, (by rw [upd_ne nxq]; exact hx1), cc.own.cl, cc.nR, (by decide), ?_⟩
      refine k _ q (fun b o e hb => ?_) upd_same (SqT.of (by rw [upd_ne nxq.symm]; exact upd_same))
      rw [upd_ne hb, upd_ne (ne_of_none (s1 _ _ e) hqn)]
      exact s1 _ _ e
    · refine .inr ⟨sqT_same s1 hq, ?_⟩
      refine ⟨_, rfl, x, C, dx, [], rfl, hx1, cc.own.cl, cc.nR, (by decide), ?_⟩
      refine k _ l (fun b o e hb => ?_) upd_same ?_
      · rw [upd_ne hb]
        exact s1 _ _ e
      · rcases sqT_same s1 hq with (z | ⟨o, z⟩) | z
        · exact SqT.of (by rw [upd_ne (ne_of z hx1 (by intro q; cases q))]; exact z)
        · exact .inl (.inr ⟨o, by rw [upd_ne (ne_of z hx1 (by intro q; cases q))]; exact z⟩)
        · exact .inr z
end
end LB
set_option Elab.async false
set_option linter.all false
set_option maxRecDepth 100000
set_option maxHeartbeats 4000000
namespace LB
open PySem PySem.Spec PyProof.Rows L2
open C8 (pss_cut tCut)
/-! ### rows as data -/
def rowD (r : Rw) : PyData := .tuple (.str r.1 :: r.2.map .int)
def rowsD (rs : List Rw) : PyData := .tuple (rs.map rowD)
theorem ints_lay : ∀ ns : List Int, PyData.canLayAll0 (ns.map PyData.int) = true
  | [] => by rw [List.map_nil]; simp [PyData.canLayAll0]
  | n :: ns => by rw [List.map_cons]; simp [PyData.canLayAll0, PyData.canLay0, ints_lay ns]
theorem ints_depth : ∀ ns : List Int, PyData.depthAll (ns.map PyData.int) = 0
  | [] => by rw [List.map_nil]; simp [PyData.depthAll]
  | n :: ns => by rw [List.map_cons]; simp [PyData.depthAll, PyData.depth, ints_depth ns]
theorem rowD_lay {r : Rw} (h : PyData.strOk r.1 = true) : PyData.canLay0 (rowD r) = true := by
  simp [rowD, PyData.canLay0, PyData.canLayAll0, h, ints_lay]
theorem rowD_depth (r : Rw) : PyData.depth (rowD r) = 1 := by
  simp [rowD, PyData.depth, PyData.depthAll, ints_depth]
def WordsOk (rs : List Rw) : Prop := ∀ r ∈ rs, PyData.strOk r.1 = true
theorem rowsD_lay : ∀ {rs : List Rw}, WordsOk rs → PyData.canLayAll0 (rs.map rowD) = true
  | [], _ => by rw [List.map_nil]; simp [PyData.canLayAll0]
  | r :: rs, h => by
    rw [List.map_cons]
    simp [PyData.canLayAll0, rowD_lay (h r List.mem_cons_self), rowsD_lay (fun q hq => h q (List.mem_cons_of_mem _ hq))]
theorem rowsD_depth : ∀ rs : List Rw, PyData.depthAll (rs.map rowD) ≤ 1
  | [] => by rw [List.map_nil]; simp [PyData.depthAll]
  | r :: rs => by
    rw [List.map_cons]
    have := rowsD_depth rs
    simp only [PyData.depthAll, rowD_depth]
    omega
theorem shaped_seq {ds : List PyData} (h : PyData.canLayAll0 ds = true) (h1 : PyData.depthAll ds ≤ 60) : SeqAt.shaped (.tuple ds) = true ∧ SeqAt.shaped (.list ds) = true := by
  have e1 : PyData.depth (.tuple ds) = PyData.depthAll ds + 1 := by simp [PyData.depth]
  have e2 : PyData.depth (.list ds) = PyData.depthAll ds + 1 := by simp [PyData.depth]
  have c1 : PyData.canLay0 (.tuple ds) = true := by simp [PyData.canLay0, h]
  have c2 : PyData.canLay0 (.list ds) = true := by simp [PyData.canLay0, h]
  unfold SeqAt.shaped
  rw [e1, e2, c1, c2]
  exact ⟨by simp; omega, by simp; omega⟩
theorem rowsD_shaped {rs : List Rw} (h : WordsOk rs) : SeqAt.shaped (rowsD rs) = true := (shaped_seq (rowsD_lay h) (Nat.le_trans (rowsD_depth rs) (by decide))).1
theorem rowsDL_shaped {rs : List Rw} (h : WordsOk rs) : SeqAt.shaped (.list (rs.map rowD)) = true := (shaped_seq (rowsD_lay h) (Nat.le_trans (rowsD_depth rs) (by decide))).2
theorem rowsD_refl {rs : List Rw} (h : WordsOk rs) : PyData.eqv (rowsD rs) (rowsD rs) = true := SeqAt.eqv_refl _ (SeqAt.canLay_of_shaped (rowsD_shaped h))
theorem dp_ints {K : PySem.W.Frag} {H : Hp} : ∀ ns : List Int, DpAll K H (ns.map V.int) (ns.map PyData.int)
  | [] => .nil
  | n :: ns => .cons (.int n) (dp_ints ns)
theorem dp_row {K : PySem.W.Frag} {H : Hp} {v : V} {r : Rw} (h : RowAt H v r) : Dp K H v (rowD r) := by
  obtain ⟨a, rfl, ha⟩ := h
  exact .tup (SqT.of ha) (.cons (.str _) (dp_ints _))
theorem dp_rows {K : PySem.W.Frag} {H : Hp} : ∀ {vs : List V} {rs : List Rw}, RowsAt H vs rs → DpAll K H vs (rs.map rowD)
  | [], [], _ => .nil
  | [], _ :: _, h => by have := h.len; simp at this
  | _ :: _, [], h => by have := h.len; simp at this
  | v :: vs, r :: rs, h => .cons (dp_row (h.get 0 v r rfl rfl)) (dp_rows ⟨by have := h.len; simp at this; exact this, fun i v' r' h1 h2 => h.get (i + 1) v' r' h1 h2⟩)
theorem forms_ok : ∀ p ∈ forms, PyData.strOk p.1 = true := by decide +kernel
theorem CodeOk.words {rs : List Rw} (h : CodeOk rs) : WordsOk rs := fun r hr => by
  obtain ⟨i, hi⟩ := List.getElem?_of_mem hr
  obtain ⟨fs, hfs, _⟩ := (h.row i r hi).1.ex
  exact forms_ok _ hfs
theorem RowAt.mut {H : Hp} {v : V} {r : Rw} {D : Addr} {ys : List V} {o : HO} (h : RowAt H v r) (hD : H D = some (.lst ys)) : RowAt (upd H D o) v r := by
  obtain ⟨a, rfl, ha⟩ := h
  exact ⟨a, rfl, by rw [upd_ne (ne_of ha hD (by intro q; cases q))]; exact ha⟩
theorem RowsAt.mut {H : Hp} {vs : List V} {rs : List Rw} {D : Addr} {ys : List V} {o : HO} (h : RowsAt H vs rs) (hD : H D = some (.lst ys)) : RowsAt (upd H D o) vs rs :=
  ⟨h.len, fun i v r h1 h2 => (h.get i v r h1 h2).mut hD⟩
/-! ### a row is left out -/
def lessRow (at_ here : Nat) (r : Rw) : Rw := match r.2 with
  | [a, m, c, n] => if r.1 = "skip" ∧ here < at_ ∧ (at_ : Int) ≤ here + n then (r.1, [a, m, c, n - 1]) else r
  | _ => r
def wo (at_ : Nat) (rs : List Rw) : Nat → List Rw
  | 0 => []
  | i + 1 => wo at_ rs i ++ (match rs[i]? with | none => [] | some r => if i = at_ then [] else [lessRow at_ i r])
def withoutRow (rs : List Rw) (at_ : Nat) : List Rw := wo at_ rs rs.length
theorem wo_skip {at_ i : Nat} {rs : List Rw} {r : Rw} (h : rs[i]? = some r) (e : i = at_) : wo at_ rs (i + 1) = wo at_ rs i := by
  show wo at_ rs i ++ (match rs[i]? with | none => [] | some r => if i = at_ then [] else [lessRow at_ i r]) = _
  rw [h]
  simp [e]
theorem wo_more {at_ i : Nat} {rs : List Rw} {r : Rw} (h : rs[i]? = some r) (e : ¬ i = at_) : wo at_ rs (i + 1) = wo at_ rs i ++ [lessRow at_ i r] := by
  show wo at_ rs i ++ (match rs[i]? with | none => [] | some r => if i = at_ then [] else [lessRow at_ i r]) = _
  rw [h]
  simp [e]
theorem wo_len {at_ : Nat} {rs : List Rw} : ∀ i, i ≤ rs.length → (wo at_ rs i).length = if at_ < i then i - 1 else i
  | 0, _ => by simp [wo]
  | i + 1, h => by
    have hr := List.getElem?_eq_getElem (show i < rs.length by omega)
    have ih := wo_len (at_ := at_) (rs := rs) i (by omega)
    by_cases e : i = at_
    · rw [wo_skip hr e, ih]
      subst e
      simp
    · rw [wo_more hr e, List.length_append, ih, List.length_singleton]
      split <;> split <;> omega
/-- the rows by their places -/
theorem wo_get {at_ : Nat} {rs : List Rw} : ∀ i, i ≤ rs.length → ∀ j r, (wo at_ rs i)[j]? = some r → ∃ q, r = lessRow at_ (if j < at_ then j else j + 1) q ∧ rs[if j < at_ then j else j + 1]? = some q
  | 0, _, j, r, h => by simp [wo] at h
  | i + 1, hi, j, r, h => by
    have hr := List.getElem?_eq_getElem (show i < rs.length by omega)
    by_cases e : i = at_
    · rw [wo_skip hr e] at h
      exact wo_get i (by omega) j r h
    · rw [wo_more hr e] at h
      by_cases hj : j < (wo at_ rs i).length
      · rw [List.getElem?_append_left hj] at h
        exact wo_get i (by omega) j r h
      · rw [List.getElem?_append_right (by omega)] at h
        have hl := wo_len (at_ := at_) (rs := rs) i (by omega)
        have e0 : j - (wo at_ rs i).length = 0 := by
          have := lt_of_get h
          simp at this
          omega
        rw [e0] at h
        have er : lessRow at_ i rs[i] = r := Option.some.inj h
        have ej : (if j < at_ then j else j + 1) = i := by
          split at hl <;> split <;> omega
        rw [ej]
        exact ⟨rs[i], er.symm, hr⟩
theorem lessRow_fst (at_ here : Nat) (r : Rw) : (lessRow at_ here r).1 = r.1 := by
  unfold lessRow
  split
  · split <;> rfl
  · rfl
theorem within_count {n : Int} (h0 : 0 ≤ n) (h1 : n ≤ 1000) : within "count" n = true := by
  unfold within
  rw [if_neg (by decide +kernel), if_neg (by decide +kernel), if_neg (by decide +kernel), if_neg (by decide +kernel), if_neg (by decide +kernel)]
  simp [h0, h1]
theorem count_within {n : Int} (h : within "count" n = true) : 0 ≤ n ∧ n ≤ 1000 := by
  unfold within at h
  rw [if_neg (by decide +kernel), if_neg (by decide +kernel), if_neg (by decide +kernel), if_neg (by decide +kernel), if_neg (by decide +kernel)] at h
  simpa using h
theorem forms_skip : ∀ p ∈ forms, p.1 = "skip" → p.2 = (["register", "modulus", "rest", "count"] : List Str) := by decide +kernel
theorem skip_mem : (("skip" : Str), (["register", "modulus", "rest", "count"] : List Str)) ∈ forms := by decide +kernel
theorem lessRow_ok {at_ here : Nat} {r : Rw} (h : RowOk r.1 r.2) : RowOk (lessRow at_ here r).1 (lessRow at_ here r).2 := by
  unfold lessRow
  split
  · rename_i a m c n e
    split
    · rename_i hc
      obtain ⟨hz, h1, h2⟩ := hc
      obtain ⟨fs, hfs, hl, hw⟩ := h.ex
      have efs : fs = (["register", "modulus", "rest", "count"] : List Str) := forms_skip _ hfs hz
      subst efs
      rw [e] at hw
      have hn := count_within (hw 3 _ n rfl rfl)
      refine ⟨⟨_, hfs, rfl, fun i f k hf hk => ?_⟩, fun _ => ?_⟩
      · match i, hf, hk with
        | 0, hf, hk => exact hw 0 f k hf hk
        | 1, hf, hk => exact hw 1 f k hf hk
        | 2, hf, hk => exact hw 2 f k hf hk
        | 3, hf, hk =>
          have e1 : ("count" : Str) = f := Option.some.inj hf
          have e2 : n - 1 = k := Option.some.inj hk
          subst e1
          subst e2
          exact within_count (by omega) (by omega)
        | i + 4, hf, hk => simp at hf
      · obtain ⟨a', m', c', n', e', hcm⟩ := h.sk hz
        rw [e] at e'
        cases e'
        exact ⟨a, m, c, n - 1, rfl, hcm⟩
    · exact h
  · exact h
theorem lessRow_len (at_ here : Nat) (r : Rw) : (lessRow at_ here r).2.length = r.2.length := by
  unfold lessRow
  split
  · rename_i e
    split
    · rw [e] <;> rfl
    · rfl
  · rfl
theorem without_ok {rs : List Rw} {at_ : Nat} (h : CodeOk rs) (ha : at_ < rs.length) : CodeOk (withoutRow rs at_) := by
  have hl : (withoutRow rs at_).length = rs.length - 1 := by
    unfold withoutRow
    rw [wo_len _ (Nat.le_refl _), if_pos ha]
  refine ⟨by rw [hl]; have := h.few; omega, fun i r hr => ?_, fun i r n hr hz hn => ?_⟩
  · obtain ⟨q, rfl, hq⟩ := wo_get _ (Nat.le_refl _) i r hr
    have := h.row _ _ hq
    exact ⟨lessRow_ok this.1, by rw [lessRow_len]; exact this.2⟩
  · have hi := lt_of_get hr
    rw [hl] at hi
    obtain ⟨q, rfl, hq⟩ := wo_get _ (Nat.le_refl _) i r hr
    rw [lessRow_fst] at hz
    obtain ⟨a, m, c, n0, e, _⟩ := (h.row _ _ hq).1.sk hz
    have hs := h.skip _ q n0 hq hz (by rw [e]; rfl)
    obtain ⟨fs, hfs, hl2, hw⟩ := (h.row _ _ hq).1.ex
    have efs : fs = (["register", "modulus", "rest", "count"] : List Str) := forms_skip _ hfs hz
    subst efs
    have hn0 := count_within (hw 3 _ n0 rfl (by rw [e]; rfl))
    rw [hl]
    unfold lessRow at hn
    rw [e] at hn
    dsimp only at hn
    by_cases hj : i < at_
    · rw [if_pos hj] at hn hs
      by_cases hc : (at_ : Int) ≤ i + n0
      · rw [if_pos ⟨hz, hj, hc⟩] at hn
        have en : n0 - 1 = n := Option.some.inj hn
        omega
      · rw [if_neg (fun q => hc q.2.2), e] at hn
        have en : n0 = n := Option.some.inj hn
        omega
    · rw [if_neg hj] at hn hs
      rw [if_neg (fun q => by omega), e] at hn
      have en : n0 = n := Option.some.inj hn
      omega
section
variable {P : Program} {w : World} {K : PySem.W.Frag} {mg : Str → Option Value} {base : Heap}
/-- every row is well made -/
def RowsOk (rs : List Rw) : Prop := ∀ (i : Nat) r, rs[i]? = some r → RowOk r.1 r.2
theorem CodeOk.rows {rs : List Rw} (h : CodeOk rs) : RowsOk rs := fun i r hr => (h.row i r hr).1
def spWithoutRow (K : PySem.W.Frag) : Sp := fun vs H Q _ => ∃ (l : Addr) (at_ : Nat) (xs : List V) (rs : List Rw), vs = [.ref l, .int at_] ∧ Seq K H l xs ∧ RowsAt H xs rs ∧ RowsOk rs ∧ rs.length ≤ 1000 ∧
  ∀ H' p ys, Same H H' → H p = none → H' p = some (.tup ys) → RowsAt H' ys (withoutRow rs at_) → Q (.ref p) H'
abbrev s_without_row : Stmt := top 16
theorem sc_without_row : FnScope ["rows", "at", "found", "here", "row"] ["rows", "at"] (defScope s_without_row) := ⟨rfl, rfl, rfl, by decide +kernel, rfl, by decide +kernel, by decide +kernel⟩
theorem ok_without_row (F : TopFn K mg "without_row" s_without_row ["rows", "at"]) (T : TxtR K mg) : DefOk P w K mg base 1 "without_row" ["rows", "at"] (spWithoutRow K) := by
  refine F.ok sc_without_row (fun vs H Q E h => ?_) (fun f cdv A outer s H vs Q E hr h => ?_)
  · obtain ⟨l, at_, xs, rs, rfl, _⟩ := h
    rfl
  · obtain ⟨l, at_, xs, rs, rfl, hS, hR, ok, hfew, k⟩ := h
    refine ⟨_, (pss_cons (ps_set (i := 2) sc_without_row.nd rfl (.inl rfl) (pe_lst pa_nil))
    (pss_cut (ps_for PassesOwn.never rfl (pi_enumA (by rfl) T.b_enumerate (pa_cons (pv 0) pa_nil)) (pg_tup rfl (pgs_cons (pg_name (i := 3) sc_without_row.nd rfl (.inl rfl)) (pgs_cons (pg_name (i := 4) sc_without_row.nd rfl (.inl rfl)) pgs_nil)))
    (pss_cut (ps_if (PW.pt (pw_and (pt_cmpR op_eq (pe_ix ix_tup (pv 4) pe_int (fun _ _ => rfl)) pe_str (nomark _)) (pw_and1 (pt_chain op_lt op_le (pv 3) (pv 1) (pe_op op_add (pv 3) (pe_ix ix_tup (pv 4) pe_int (fun _ _ => rfl))))))) (pss_one (ps_set (i := 4) sc_without_row.nd rfl (.inl rfl) (pe_op op_catT (pe_slice sl_tup (pv 4) po_none (po_some pe_int)) (pe_tup (pa_cons (pe_op op_sub (pe_ix ix_tup (pv 4) pe_int (fun _ _ => rfl)) pe_int) pa_nil))))) pss_nil)
    (pss_one (ps_if (pt_cmpR op_ne (pv 3) (pv 1) (nomark _)) (pss_one (ps_expr (pe_bm PySem.F.plainAttrs_list PySem.F.slot_list_append PySem.F.type_list_append mt_append (pv 2) (pa_cons (pv 4) pa_nil)))) pss_nil))))
    (pss_one (ps_ret (pe_callTy call_tuple_of (by rfl) T.b_tuple (by decide +kernel) (pa_cons (pv 2) pa_nil)))))), ?_⟩
    refine ⟨Nat.zero_le _, fun D hD => ?_⟩
    have s0 : Same H (upd H D (.lst [])) := same_new hD
    have hD0 : upd H D (.lst []) D = some (.lst []) := upd_same
    generalize upd H D (.lst []) = H0 at s0 hD0
    refine ⟨fun σ H' => ∃ v3 v4 ys, σ = [some (.ref l), some (.int at_), some (.ref D), v3, v4] ∧ Same H H' ∧ H' D = some (.lst ys) ∧ RowsAt H' ys (withoutRow rs at_), ?_, ?_⟩
    · refine ⟨_, rfl, l, xs, rfl, ?_⟩
      have key : ∀ i σ H', (∃ v3 v4 ys, σ = [some (V.ref l), some (.int at_), some (.ref D), v3, v4] ∧ Same H H' ∧ H' D = some (HO.lst ys) ∧ RowsAt H' ys (wo at_ rs i)) → Same H H' := fun i σ H' ⟨_, _, _, _, s1, _⟩ => s1
      rcases hS with hq | hq
      all_goals (
        first
          | refine .inl ⟨s0.seq hq, for_it (walk_enum (xs := xs)) (fun i σ H' => ∃ v3 v4 ys, σ = [some (V.ref l), some (.int at_), some (.ref D), v3, v4] ∧ Same H H' ∧ H' D = some (HO.lst ys) ∧ RowsAt H' ys (wo at_ rs i)) ?_ ?_ ?_ ?_⟩
          | refine .inr ⟨sqT_same s0 hq, for_it (walk_enumT (xs := xs)) (fun i σ H' => ∃ v3 v4 ys, σ = [some (V.ref l), some (.int at_), some (.ref D), v3, v4] ∧ Same H H' ∧ H' D = some (HO.lst ys) ∧ RowsAt H' ys (wo at_ rs i)) ?_ ?_ ?_ ?_⟩
        · exact ⟨none, none, [], rfl, s0, hD0, RowsAt.nil⟩
        · intro i σ H' _ hP
          first
            | exact (key i σ H' hP).seq hq
            | exact sqT_same (key i σ H' hP) hq
        · rintro i x σ H1 H2 hi ⟨v3, v4, ys, rfl, s1, hD1, hY⟩ ⟨T', x1, y1, rfl, hTn, rfl, e1, hy⟩
          obtain rfl := Option.some.inj e1
          obtain ⟨r, hr1, ra, rfl, hra⟩ := hR.row hy
          have nDT : D ≠ T' := ne_of_none hD1 hTn
          have s2 : Same H (upd H1 T' (.tup [.int (i : Nat), .ref ra])) := s1.trans (same_new hTn)
          have hD2 : upd H1 T' (.tup [.int (i : Nat), .ref ra]) D = some (.lst ys) := by rw [upd_ne nDT]; exact hD1
          have hY2 := hY.same (same_new (o := .tup [.int (i : Nat), .ref ra]) hTn)
          refine ⟨T', _, rfl, SqT.of upd_same, rfl, _, _, rfl, _, _, rfl, rfl, ?_⟩
          generalize upd H1 T' (.tup [.int (i : Nat), .ref ra]) = H2 at s2 hD2 hY2
          have hra2 := s2 _ _ hra
          refine ⟨fun σ H' => ∃ v, σ = [some (V.ref l), some (.int at_), some (.ref D), some (.int (i : Nat)), some v] ∧ Same H H' ∧ H' D = some (HO.lst ys) ∧ RowsAt H' ys (wo at_ rs i) ∧ RowAt H' v (lessRow at_ i r), ?_, ?_⟩
          · refine ⟨_, rfl, ra, _, _, _, rfl, rfl, SqT.of hra2, atI_nat (j := 0) rfl, rfl, _, rfl, ?_⟩
            refine ite2 (fun h => ?_) (fun h => ?_)
            · have ez : r.1 = "skip" := V.str.inj (of_decide_eq_true h)
              obtain ⟨b1, m1, c1, n1, e2, _⟩ := (ok i r hr1).sk ez
              have hra3 : H2 ra = some (.tup [.str r.1, .int b1, .int m1, .int c1, .int n1]) := by rw [hra2, e2]; rfl
              have el0 : lessRow at_ i r = if r.1 = "skip" ∧ i < at_ ∧ (at_ : Int) ≤ i + n1 then (r.1, [b1, m1, c1, n1 - 1]) else r := by
                unfold lessRow
                rw [e2]
              have same : ¬ (i < at_ ∧ (at_ : Int) ≤ i + n1) → RowAt H2 (.ref ra) (lessRow at_ i r) := fun q => by
                rw [el0, if_neg (fun z => q z.2)]
                exact ⟨ra, rfl, hra2⟩
              refine ⟨_, rfl, _, rfl, _, _, rfl, rfl, _, rfl, ?_⟩
              refine ite2 (fun h1 => ?_) (fun h1 => ?_)
              · have h1 : i < at_ := by have := of_decide_eq_true h1; omega
                refine ⟨_, rfl, _, rfl, ra, _, _, _, rfl, rfl, SqT.of hra3, atI_nat (j := 4) rfl, _, _, rfl, rfl, _, _, rfl, rfl, _, rfl, ?_⟩
                refine ite2 (fun h2 => ?_) (fun h2 => ?_)
                · have h2 : (at_ : Int) ≤ i + n1 := of_decide_eq_true h2
                  refine ⟨_, rfl, _, rfl, ra, _, rfl, SqT.of hra3, part_to (k := 4) (show 4 < 5 by decide), fun p1 hp1 => ?_⟩
                  have t1 : Same H2 (upd H2 p1 (.tup [.str r.1, .int b1, .int m1, .int c1])) := same_new hp1
                  have g1 : upd H2 p1 (.tup [.str r.1, .int b1, .int m1, .int c1]) p1 = some (.tup [.str r.1, .int b1, .int m1, .int c1]) := upd_same
                  show tTup _ _ (upd H2 p1 (.tup [.str r.1, .int b1, .int m1, .int c1])) _
                  generalize upd H2 p1 (.tup [.str r.1, .int b1, .int m1, .int c1]) = H3 at t1 g1
                  refine ⟨_, rfl, ra, _, _, _, rfl, rfl, SqT.of (t1 _ _ hra3), atI_nat (j := 4) rfl, _, _, rfl, rfl, (by show 1 ≤ sizeLine; decide), fun p2 hp2 => ?_⟩
                  have t2 : Same H3 (upd H3 p2 (.tup [.int (n1 - 1)])) := same_new hp2
                  refine ⟨p1, p2, _, _, rfl, rfl, SqT.of (t2 _ _ g1), SqT.of upd_same, (by intro q; cases q), (by show 5 ≤ sizeLine; decide), (fun q => by cases q), fun _ p3 hp3 => ?_⟩
                  have t4 := (t1.trans t2).trans (same_new (o := .tup ([V.str r.1, .int b1, .int m1, .int c1] ++ [V.int (n1 - 1)])) hp3)
                  refine ⟨_, rfl, s2.trans t4, t4 _ _ hD2, hY2.same t4, ?_⟩
                  rw [el0, if_pos ⟨ez, h1, h2⟩]
                  exact ⟨p3, rfl, upd_same⟩
                · exact ⟨_, rfl, s2, hD2, hY2, same fun q => h2 (decide_eq_true q.2)⟩
              · refine ⟨_, rfl, ?_⟩
                exact ⟨_, rfl, s2, hD2, hY2, same fun q => h1 (decide_eq_true (by omega))⟩
            · have el : lessRow at_ i r = r := by
                unfold lessRow
                split
                · rw [if_neg (fun q => h (decide_eq_true (by rw [q.1])))]
                · rfl
              exact ⟨_, rfl, s2, hD2, hY2, by rw [el]; exact ⟨ra, rfl, hra2⟩⟩
          · rintro σ H3 ⟨v, rfl, s3, hD3, hY3, hv⟩
            refine ⟨_, rfl, _, rfl, rfl, _, rfl, ?_⟩
            refine ite2 (fun h => ?_) (fun h => ?_)
            · have hne : ¬ i = at_ := fun e => by
                rw [e, decide_eq_true rfl] at h
                cases h
              refine ⟨_, rfl, .inl ⟨rfl, _, SqL.of hD3⟩, _, rfl, D, _, _, rfl, rfl, hD3, ?_, ?_⟩
              · rw [hY3.len]
                have hlt := lt_of_get hr1
                have := wo_len (at_ := at_) (rs := rs) i (by omega)
                exact szK (by split at this <;> omega)
              · have s4 : Same H (upd H3 D (.lst (ys ++ [v]))) := same_mut s3 hD
                refine ⟨_, _, _, rfl, s4, upd_same, ?_⟩
                rw [wo_more hr1 hne]
                exact (hY3.snoc hv).mut hD3
            · have he : i = at_ := by
                have q : decide (V.int (i : Nat) = V.int (at_ : Nat)) = true := by simpa using h
                have := V.int.inj (of_decide_eq_true q)
                omega
              refine ⟨_, _, _, rfl, s3, hD3, ?_⟩
              rw [wo_skip hr1 he]
              exact hY3
        · rintro σ H' ⟨v3, v4, ys, rfl, s1, hD1, hY⟩
          rw [hR.len] at hY
          exact ⟨_, _, _, rfl, s1, hD1, hY⟩)
    · rintro σ H' ⟨v3, v4, ys, rfl, s1, hD1, hY⟩
      refine ⟨_, rfl, D, ys, rfl, .inl ⟨SqL.of hD1, fun q hq => ?_⟩⟩
      exact k _ q ys (s1.trans (same_new hq)) (s1.free hq) upd_same (hY.same (same_new hq))
def spCodeWithout (K : PySem.W.Frag) (C : Addr) : Sp := fun vs H Q _ => ∃ (c p : Addr) (at_ : Nat) (rs : List Rw), vs = [.ref c, .int at_] ∧ CodeAt K C H c p rs ∧ CodeOk rs ∧ at_ < rs.length ∧
  ∀ H' c' p', Same H H' → H c' = none → CodeAt K C H' c' p' (withoutRow rs at_) → Q (.ref c') H'
abbrev s_Code_without : Stmt := inClass (top 23) 2
theorem sc_Code_without : FnScope ["self", "at"] ["self", "at"] (defScope s_Code_without) := ⟨rfl, rfl, rfl, by decide +kernel, rfl, by decide +kernel, by decide +kernel⟩
theorem ok_Code_without {C : Addr} (F : TopMeth K C "without" "Code.without" s_Code_without ["self", "at"]) (cc : CodeCls K mg C) (C_Code : OwnCls K mg "Code" C) (D_Code_init : MethOk P w K mg base 5 C "__init__" ["self", "rows"] (spCodeInit K C))
    (D_without_row : DefOk P w K mg base 1 "without_row" ["rows", "at"] (spWithoutRow K)) : MethOk P w K mg base 7 C "without" ["self", "at"] (spCodeWithout K C) := by
  refine F.ok sc_Code_without (fun vs H Q E h => ?_) (fun f cdv A outer s H vs Q E hr h => ?_)
  · obtain ⟨c, p, at_, rs, rfl, _⟩ := h
    rfl
  · obtain ⟨c, p, at_, rs, rfl, ⟨dx, xs, hc, hp, hR⟩, ok, hat, k⟩ := h
    refine ⟨_, (pss_one (ps_ret (pe_mk C_Code D_Code_init (hr.mono (by decide)) rfl (pa_cons (pe_fn D_without_row (hr.mono (by decide)) rfl (pa_cons (pe_fld (pv 0) rfl) (pa_cons (pv 1) pa_nil))) pa_nil)))), ?_⟩
    refine ⟨_, rfl, c, C, dx, _, _, rfl, hc, cc.own.cl, cc.nR, codeF_rows p, _, rfl, p, at_, xs, rs, rfl, .inr hp, hR, ok.rows, ok.few, fun H1 q ys s1 hq hq1 hY => ?_⟩
    intro x dx2 hx hdx hne
    have s2 : Same H1 (upd (upd H1 dx2 (.own x)) x (.ins C dx2 [])) := fun b o e => by
      rw [upd_ne (ne_of_none e hx), upd_ne (ne_of_none e hdx)]
      exact e
    refine ⟨x, dx2, q, ys, _, rfl, upd_same, .inr (SqT.of (s2 _ _ hq1)), hY.same s2, without_ok ok hat, fun H2 p2 s3 hx2 hp2 => ⟨rfl, ?_⟩⟩
    have s4 : Same H1 H2 := Same.made hx hdx s3
    exact k H2 x p2 (s1.trans s4) (s1.free hx) ⟨dx2, ys, hx2, hp2, hY.same s4⟩
def spCodeLen (K : PySem.W.Frag) (C : Addr) : Sp := fun vs H Q _ => ∃ (c p : Addr) (rs : List Rw), vs = [.ref c] ∧ CodeAt K C H c p rs ∧ Q (.int (rs.length : Nat)) H
abbrev s_Code_len : Stmt := inClass (top 23) 3
theorem sc_Code_len : FnScope ["self"] ["self"] (defScope s_Code_len) := ⟨rfl, rfl, rfl, by decide +kernel, rfl, by decide +kernel, by decide +kernel⟩
theorem ok_Code_len {C : Addr} (F : TopMeth K C "__len__" "Code.__len__" s_Code_len ["self"]) (T : TxtR K mg) (cc : CodeCls K mg C) : MethOk P w K mg base 1 C "__len__" ["self"] (spCodeLen K C) := by
  refine F.ok sc_Code_len (fun vs H Q E h => ?_) (fun f cdv A outer s H vs Q E hr h => ?_)
  · obtain ⟨c, p, rs, rfl, _⟩ := h
    rfl
  · obtain ⟨c, p, rs, rfl, ⟨dx, xs, hc, hp, hR⟩, k⟩ := h
    refine ⟨_, (pss_one (ps_ret (pe_callB call_len_seq (by rfl) T.b_len (by decide +kernel) (pa_cons (pe_fld (pv 0) rfl) pa_nil)))), ?_⟩
    refine ⟨_, rfl, c, C, dx, _, _, rfl, hc, cc.own.cl, cc.nR, codeF_rows p, p, xs, rfl, .inr hp, ?_⟩
    rw [hR.len]
    exact k
/-- a class's instances know their class -/
structure IsiCls (K : PySem.W.Frag) (C : Addr) : Prop where
  ha : PySem.W.findIn K (.ref C) "__class__" = some (some (.builtin "object.__class__"))
  hn : PySem.W.specialIn K (.builtin "object.__class__") "__get__" = some (some (.builtin "getset_descriptor.__get__"))
  htk : PySem.W.takesIn K (.builtin "object.__class__") = some true
  hm : PySem.W.mroIn K C (.type "object") = some true
  me : PySem.W.kitOne K (.ref C) (.ref C) = some true
def spCodeEq (K : PySem.W.Frag) (C : Addr) : Sp := fun vs H Q _ => ∃ (c p c2 p2 : Addr) (rs rs2 : List Rw), vs = [.ref c, .ref c2] ∧ CodeAt K C H c p rs ∧ CodeAt K C H c2 p2 rs2 ∧ WordsOk rs ∧ WordsOk rs2 ∧ Q (.bl (PyData.eqv (rowsD rs) (rowsD rs2))) H
abbrev s_Code_eq : Stmt := inClass (top 23) 4
theorem sc_Code_eq : FnScope ["self", "other"] ["self", "other"] (defScope s_Code_eq) := ⟨rfl, rfl, rfl, by decide +kernel, rfl, by decide +kernel, by decide +kernel⟩
theorem ok_Code_eq {C : Addr} (F : TopMeth K C "__eq__" "Code.__eq__" s_Code_eq ["self", "other"]) (T : TxtR K mg) (cc : CodeCls K mg C) (ic : IsiCls K C) : MethOk P w K mg base 1 C "__eq__" ["self", "other"] (spCodeEq K C) := by
  refine F.ok sc_Code_eq (fun vs H Q E h => ?_) (fun f cdv A outer s H vs Q E hr h => ?_)
  · obtain ⟨c, p, c2, p2, rs, rs2, rfl, _⟩ := h
    rfl
  · obtain ⟨c, p, c2, p2, rs, rs2, rfl, ⟨dx, xs, hc, hp, hR⟩, ⟨dx2, xs2, hc2, hp2, hR2⟩, w1, w2, k⟩ := h
    refine ⟨_, (pss_one (ps_ret (pe_and (pe_callB call_isi (by rfl) T.b_isinstance (by decide +kernel) (pa_cons (pv 1) (pa_cons (pe_gref rfl cc.own.g) pa_nil))) (pe_one (pe_cmpR (op_eqD hr.units) (pe_fld (pv 0) rfl) (pe_fld (pv 1) rfl) (nomark _)))))), ?_⟩
    refine ⟨_, rfl, _, _, _, _, true, rfl, .own C, .base (.ins hc2 cc.own.cl ic.ha ic.hn ic.htk ic.hm), ic.me, _, rfl, ?_⟩
    refine ⟨_, rfl, c, C, dx, _, _, rfl, hc, cc.own.cl, cc.nR, codeF_rows p, _, rfl, c2, C, dx2, _, _, rfl, hc2, cc.own.cl, cc.nR, codeF_rows p2, ?_⟩
    exact ⟨_, _, .tup hp (dp_rows hR), .tup hp2 (dp_rows hR2), rowsD_shaped w1, rowsD_shaped w2, k⟩
end
end LB
set_option Elab.async false
set_option linter.all false
set_option maxRecDepth 100000
set_option maxHeartbeats 4000000
namespace LB
open PySem PySem.Spec PyProof.Rows L2
open C8 (pss_cut tCut)
section
variable {P : Program} {w : World} {K : PySem.W.Frag} {mg : Str → Option Value} {base : Heap}
/-- a number of either sign -/
def spNumber : Sp := fun vs H Q _ => ∃ (d l : Addr), vs = [.ref d] ∧ Deal d l H ∧
  ∀ (n : Int) (H' : Hp), -18446744073709551616 < n → n < 18446744073709551616 → Deal d l H' → Keep d l H H' → Q (.int n) H'
theorem pow_le63 {r : Int} (h : r < 64) : (2 : Int) ^ r.toNat ≤ 9223372036854775808 := by
  have e : r.toNat ≤ 63 := by omega
  have : (2 : Nat) ^ r.toNat ≤ 2 ^ 63 := Nat.pow_le_pow_right (by decide) e
  have q : ((2 ^ r.toNat : Nat) : Int) ≤ ((2 ^ 63 : Nat) : Int) := Int.ofNat_le.mpr this
  rw [Int.natCast_pow] at q
  exact q
theorem pow_pos2 (n : Nat) : (0 : Int) < 2 ^ n := Int.pow_pos (by decide)
abbrev s_law_number : Stmt := top 27
theorem sc_law_number : FnScope ["_law_deal_here", "_law_form", "_law_number_here"] ["_law_deal_here"] (defScope s_law_number) := ⟨rfl, rfl, rfl, by decide +kernel, rfl, by decide +kernel, by decide +kernel⟩
theorem ok_law_number (F : TopFn K mg "_law_number" s_law_number ["_law_deal_here"]) (D_law_draw : DefOk P w K mg base 1 "_law_draw" ["_law_deal_here", "_law_many"] spDraw) : DefOk P w K mg base 2 "_law_number" ["_law_deal_here"] spNumber := by
  refine F.ok sc_law_number (fun vs H Q E h => ?_) (fun f cdv A outer s H vs Q E hr h => ?_)
  · obtain ⟨d, l, rfl, _⟩ := h
    rfl
  · obtain ⟨d, l, rfl, hd, k⟩ := h
    refine ⟨_, (pss_cons (ps_set (i := 1) sc_law_number.nd rfl (.inl rfl) (pe_fn D_law_draw (hr.mono (by decide)) rfl (pa_cons (pv 0) (pa_cons pe_int pa_nil))))
    (pss_cons (ps_set (i := 2) sc_law_number.nd rfl (.inl rfl) (pe_fn D_law_draw (hr.mono (by decide)) rfl (pa_cons (pv 0) (pa_cons pe_int pa_nil))))
    (pss_cut (ps_if (pt_cmpR op_eq (pv 1) pe_int (nomark _)) (pss_one (ps_set (i := 2) sc_law_number.nd rfl (.inl rfl) (pe_op op_sub (pe_op op_shl pe_int (pe_fn D_law_draw (hr.mono (by decide)) rfl (pa_cons (pv 0) (pa_cons pe_int pa_nil)))) (pe_fn D_law_draw (hr.mono (by decide)) rfl (pa_cons (pv 0) (pa_cons pe_int pa_nil)))))) pss_nil)
    (pss_cut (ps_if (pt_cmpR op_eq (pv 1) pe_int (nomark _)) (pss_one (ps_set (i := 2) sc_law_number.nd rfl (.inl rfl) (pe_fn D_law_draw (hr.mono (by decide)) rfl (pa_cons (pv 0) (pa_cons (pe_op op_shl pe_int pe_int) pa_nil))))) pss_nil)
    (pss_one (ps_ret (pe_ix ix_list (pe_lst (pa_cons (pv 2) (pa_cons (pe_op op_sub pe_int (pv 2)) pa_nil))) (pe_fn D_law_draw (hr.mono (by decide)) rfl (pa_cons (pv 0) (pa_cons pe_int pa_nil))) (fun _ _ => rfl)))))))), ?_⟩
    refine ⟨_, rfl, d, l, 6, rfl, hd, by decide, by decide, fun r1 H1 a0 a1 D1 K1 => ?_⟩
    refine ⟨_, rfl, d, l, 6, rfl, D1, by decide, by decide, fun r2 H2 b0 b1 D2 K2 => ?_⟩
    refine ⟨fun σ H' => ∃ n, σ = [some (.ref d), some (.int r1), some (.int n)] ∧ 0 ≤ n ∧ n < 18446744073709551616 ∧ Deal d l H' ∧ Keep d l H H', ?_, ?_⟩
    · refine ⟨_, rfl, rfl, _, rfl, ?_⟩
      refine ite2 (fun _ => ?_) (fun _ => ⟨_, rfl, b0, by omega, D2, K1.trans K2⟩)
      refine ⟨_, rfl, d, l, 64, rfl, D2, by decide, by decide, fun r3 H3 c0 c1 D3 K3 => ?_⟩
      refine ⟨_, _, rfl, rfl, ⟨c0, by omega, by decide⟩, ?_⟩
      refine ⟨_, rfl, d, l, 2, rfl, D3, by decide, by decide, fun r4 H4 e0 e1 D4 K4 => ?_⟩
      refine ⟨_, _, rfl, rfl, ?_⟩
      have h1 := pow_le63 c1
      have h2 := pow_pos2 r3.toNat
      exact ⟨_, rfl, by omega, by omega, D4, ((K1.trans K2).trans K3).trans K4⟩
    rintro σ H3 ⟨n3, rfl, n0, n1, D3, K3⟩
    refine ⟨fun σ H' => ∃ n, σ = [some (.ref d), some (.int r1), some (.int n)] ∧ 0 ≤ n ∧ n < 18446744073709551616 ∧ Deal d l H' ∧ Keep d l H H', ?_, ?_⟩
    · refine ⟨_, rfl, rfl, _, rfl, ?_⟩
      refine ite2 (fun _ => ?_) (fun _ => ⟨_, rfl, n0, n1, D3, K3⟩)
      refine ⟨_, rfl, _, _, rfl, rfl, ⟨by decide, by decide, by decide⟩, d, l, _, rfl, D3, by decide, by decide, fun r4 H4 c0 c1 D4 K4 => ?_⟩
      exact ⟨_, rfl, c0, c1, D4, K3.trans K4⟩
    rintro σ H4 ⟨n4, rfl, m0, m1, D4, K4⟩
    refine ⟨_, rfl, _, rfl, _, _, rfl, rfl, (by show 2 ≤ sizeLine; decide), fun p hp => ?_⟩
    have K5 : Keep d l H (upd H4 p (.lst [.int n4, .int (0 - n4)])) := K4.new hp
    refine ⟨_, rfl, d, l, 2, rfl, D4.new hp, by decide, by decide, fun r5 H5 c0 c1 D5 K6 => ?_⟩
    have hne := D4.fresh hp
    have h5 : H5 p = some (.lst [.int n4, .int (0 - n4)]) := K6 _ _ upd_same hne.1 hne.2
    have hr : r5 = 0 ∨ r5 = 1 := by omega
    rcases hr with rfl | rfl
    · exact ⟨p, _, _, _, rfl, rfl, SqL.of h5, atI_nat (j := 0) rfl, k _ _ (by omega) m1 D5 (K5.trans K6)⟩
    · exact ⟨p, _, _, _, rfl, rfl, SqL.of h5, atI_nat (j := 1) rfl, k _ _ (by omega) (by omega) D5 (K5.trans K6)⟩
end
end LB
set_option Elab.async false
set_option linter.all false
set_option maxRecDepth 100000
set_option maxHeartbeats 4000000
namespace LB
open PySem PySem.Spec PyProof.Rows L2
open C8 (pss_cut tCut)
/-! ### rows that are drawn -/
inductive DrawnRow (R left : Int) : Rw → Prop
  | set (r n : Int) (h1 : 0 ≤ r ∧ r < R) (h2 : -18446744073709551616 < n ∧ n < 18446744073709551616) : DrawnRow R left ("set", [r, n])
  | two (z : Str) (r a : Int) (hz : z = "copy" ∨ z = "left" ∨ z = "right") (h1 : 0 ≤ r ∧ r < R) (h2 : 0 ≤ a ∧ a < R) : DrawnRow R left (z, [r, a])
  | three (z : Str) (r a b : Int) (hz : z = "add" ∨ z = "sub" ∨ z = "mul") (h1 : 0 ≤ r ∧ r < R) (h2 : 0 ≤ a ∧ a < R) (h3 : 0 ≤ b ∧ b < R) : DrawnRow R left (z, [r, a, b])
  | load (r s : Int) (h1 : 0 ≤ r ∧ r < R) (h2 : 0 ≤ s ∧ s < 1000) : DrawnRow R left ("load", [r, s])
  | store (s a : Int) (h1 : 0 ≤ s ∧ s < 1000) (h2 : 0 ≤ a ∧ a < R) : DrawnRow R left ("store", [s, a])
  | skip (a : Int) (j : Nat) (c n : Int) (h1 : 0 ≤ a ∧ a < R) (h2 : j ≤ 6) (h3 : 0 ≤ c ∧ c < 2 ^ j) (h4 : 0 ≤ n ∧ n ≤ left) : DrawnRow R left ("skip", [a, 2 ^ j, c, n])
theorem within_reg {n : Int} (h : 0 ≤ n ∧ n < 8) : within "register" n = true := by
  unfold within
  rw [if_pos rfl]
  simp [h.1, h.2]
theorem within_slot {n : Int} (h : 0 ≤ n ∧ n < 1000) : within "slot" n = true := by
  unfold within
  rw [if_neg (by decide +kernel), if_pos rfl]
  simp [h.1, h.2]
theorem within_num {n : Int} (h : -18446744073709551616 < n ∧ n < 18446744073709551616) : within "number" n = true := by
  unfold within
  rw [if_neg (by decide +kernel), if_neg (by decide +kernel), if_pos rfl]
  simp [h.1, h.2]
theorem within_mod {j : Nat} (h : j ≤ 6) : within "modulus" (2 ^ j) = true := by
  unfold within
  rw [if_neg (by decide +kernel), if_neg (by decide +kernel), if_neg (by decide +kernel), if_pos rfl]
  match j, h with
  | 0, _ => decide
  | 1, _ => decide
  | 2, _ => decide
  | 3, _ => decide
  | 4, _ => decide
  | 5, _ => decide
  | 6, _ => decide
theorem within_rest {n : Int} (h : 0 ≤ n ∧ n < 64) : within "rest" n = true := by
  unfold within
  rw [if_neg (by decide +kernel), if_neg (by decide +kernel), if_neg (by decide +kernel), if_neg (by decide +kernel), if_pos rfl]
  simp [h.1, h.2]
theorem pow_le6 {j : Nat} (h : j ≤ 6) : (2 : Int) ^ j ≤ 64 := by
  match j, h with
  | 0, _ => decide
  | 1, _ => decide
  | 2, _ => decide
  | 3, _ => decide
  | 4, _ => decide
  | 5, _ => decide
  | 6, _ => decide
theorem rowOk2 {z f g : Str} {a b : Int} (hz : (z, [f, g]) ∈ forms) (hs : ¬ z = "skip") (h1 : within f a = true) (h2 : within g b = true) : RowOk z [a, b] := by
  refine ⟨⟨_, hz, rfl, fun i f' n hf hn => ?_⟩, fun e => absurd e hs⟩
  match i, hf, hn with
  | 0, hf, hn => cases hf; cases hn; exact h1
  | 1, hf, hn => cases hf; cases hn; exact h2
  | i + 2, hf, hn => simp at hf
theorem rowOk3 {z f g k : Str} {a b c : Int} (hz : (z, [f, g, k]) ∈ forms) (hs : ¬ z = "skip") (h1 : within f a = true) (h2 : within g b = true) (h3 : within k c = true) : RowOk z [a, b, c] := by
  refine ⟨⟨_, hz, rfl, fun i f' n hf hn => ?_⟩, fun e => absurd e hs⟩
  match i, hf, hn with
  | 0, hf, hn => cases hf; cases hn; exact h1
  | 1, hf, hn => cases hf; cases hn; exact h2
  | 2, hf, hn => cases hf; cases hn; exact h3
  | i + 3, hf, hn => simp at hf
theorem mem_set : (("set" : Str), (["register", "number"] : List Str)) ∈ forms := by decide +kernel
theorem mem_load : (("load" : Str), (["register", "slot"] : List Str)) ∈ forms := by decide +kernel
theorem mem_store : (("store" : Str), (["slot", "register"] : List Str)) ∈ forms := by decide +kernel
theorem mem_two {z : Str} (h : z = "copy" ∨ z = "left" ∨ z = "right") : (z, (["register", "register"] : List Str)) ∈ forms ∧ ¬ z = "skip" := by
  rcases h with rfl | rfl | rfl <;> exact ⟨by decide +kernel, by decide +kernel⟩
theorem mem_three {z : Str} (h : z = "add" ∨ z = "sub" ∨ z = "mul") : (z, (["register", "register", "register"] : List Str)) ∈ forms ∧ ¬ z = "skip" := by
  rcases h with rfl | rfl | rfl <;> exact ⟨by decide +kernel, by decide +kernel⟩
theorem ns_set : ¬ ("set" : Str) = "skip" := by decide +kernel
theorem ns_load : ¬ ("load" : Str) = "skip" := by decide +kernel
theorem ns_store : ¬ ("store" : Str) = "skip" := by decide +kernel
theorem DrawnRow.ok {R left : Int} {r : Rw} (h : DrawnRow R left r) (hR : R ≤ 8) (hl : left ≤ 1000) : RowOk r.1 r.2 ∧ r.2.length ≤ 10 := by
  cases h with
  | set r n h1 h2 => exact ⟨rowOk2 mem_set ns_set (within_reg ⟨h1.1, by omega⟩) (within_num h2), (by show 2 ≤ 10; decide)⟩
  | two z r a hz h1 h2 => exact ⟨rowOk2 (mem_two hz).1 (mem_two hz).2 (within_reg ⟨h1.1, by omega⟩) (within_reg ⟨h2.1, by omega⟩), (by show 2 ≤ 10; decide)⟩
  | three z r a b hz h1 h2 h3 => exact ⟨rowOk3 (mem_three hz).1 (mem_three hz).2 (within_reg ⟨h1.1, by omega⟩) (within_reg ⟨h2.1, by omega⟩) (within_reg ⟨h3.1, by omega⟩), (by show 3 ≤ 10; decide)⟩
  | load r s h1 h2 => exact ⟨rowOk2 mem_load ns_load (within_reg ⟨h1.1, by omega⟩) (within_slot h2), (by show 2 ≤ 10; decide)⟩
  | store s a h1 h2 => exact ⟨rowOk2 mem_store ns_store (within_slot h1) (within_reg ⟨h2.1, by omega⟩), (by show 2 ≤ 10; decide)⟩
  | skip a j c n h1 h2 h3 h4 =>
    have hp := pow_le6 h2
    refine ⟨⟨⟨_, skip_mem, rfl, fun i f' m hf hn => ?_⟩, fun _ => ⟨a, 2 ^ j, c, n, rfl, h3.2⟩⟩, by show 4 ≤ 10; decide⟩
    match i, hf, hn with
    | 0, hf, hn => cases hf; cases hn; exact within_reg ⟨h1.1, by omega⟩
    | 1, hf, hn => cases hf; cases hn; exact within_mod h2
    | 2, hf, hn => cases hf; cases hn; exact within_rest ⟨h3.1, by omega⟩
    | 3, hf, hn => cases hf; cases hn; exact within_count h4.1 (by omega)
    | i + 4, hf, hn => simp at hf
section
variable {P : Program} {w : World} {K : PySem.W.Frag} {mg : Str → Option Value} {base : Heap}
def spLawRow : Sp := fun vs H Q _ => ∃ (d l : Addr) (R left : Int), vs = [.ref d, .int R, .int left] ∧ Deal d l H ∧ (1 ≤ R ∧ R ≤ 8) ∧ (0 ≤ left ∧ left ≤ 1000) ∧
  ∀ r H' p, DrawnRow R left r → Deal d l H' → Keep d l H H' → H' p = some (.tup (rowL r.1 r.2)) → Q (.ref p) H'
def wordsL : List Str := ["set", "copy", "add", "sub", "mul", "add", "mul", "left", "right", "right", "load", "store", "skip"]
def cwL : List Str := ["copy", "left", "right"]
theorem slots_at {r : Int} (h0 : 0 ≤ r) (h1 : r < 3) : ∃ s : Int, atI [V.int 0, .int 7, .int 999] r = some (.int s) ∧ 0 ≤ s ∧ s < 1000 := by
  have h : r = 0 ∨ r = 1 ∨ r = 2 := by omega
  rcases h with rfl | rfl | rfl
  · exact ⟨0, atI_nat (j := 0) rfl, by decide, by decide⟩
  · exact ⟨7, atI_nat (j := 1) rfl, by decide, by decide⟩
  · exact ⟨999, atI_nat (j := 2) rfl, by decide, by decide⟩
theorem words_at {r : Int} (h0 : 0 ≤ r) (h1 : r < 13) : ∃ z, atI (wordsL.map V.str) r = some (.str z) ∧ z ∈ wordsL := by
  have hlt : r.toNat < wordsL.length := by
    show r.toNat < 13
    omega
  have e : ((r.toNat : Nat) : Int) = r := by omega
  refine ⟨wordsL[r.toNat], ?_, List.getElem_mem hlt⟩
  have q := atI_nat (xs := wordsL.map V.str) (j := r.toNat) (v := .str wordsL[r.toNat]) (by rw [List.getElem?_map, List.getElem?_eq_getElem hlt] <;> rfl)
  rw [e] at q
  exact q
theorem in_strs {z : Str} : ∀ zs : List Str, inV (.str z) (zs.map V.str) = decide (z ∈ zs)
  | [] => by simp [inV]
  | y :: zs => by
    have ih := in_strs (z := z) zs
    unfold inV at ih ⊢
    rw [List.map_cons, List.any_cons, ih]
    by_cases e : y = z
    · subst e
      simp [eqV]
    · have e2 : ¬ z = y := fun q => e q.symm
      simp [eqV, e, e2]
theorem flat_strs : ∀ zs : List Str, (zs.map V.str).all flatV = true
  | [] => rfl
  | y :: zs => by rw [List.map_cons, List.all_cons, flat_strs zs] <;> rfl
/-- three draws in a list -/
abbrev s_law_row : Stmt := top 28
theorem sc_law_row : FnScope ["_law_deal_here", "_law_registers", "_law_left", "_law_words", "_law_word", "_law_r", "_law_a", "_law_b", "_law_turn", "_law_modulus"] ["_law_deal_here", "_law_registers", "_law_left"] (defScope s_law_row) := ⟨rfl, rfl, rfl, by decide +kernel, rfl, by decide +kernel, by decide +kernel⟩
theorem ok_law_row (F : TopFn K mg "_law_row" s_law_row ["_law_deal_here", "_law_registers", "_law_left"]) (T : Txt K mg) (D_law_draw : DefOk P w K mg base 1 "_law_draw" ["_law_deal_here", "_law_many"] spDraw) (D_law_number : DefOk P w K mg base 2 "_law_number" ["_law_deal_here"] spNumber) :
    DefOk P w K mg base 3 "_law_row" ["_law_deal_here", "_law_registers", "_law_left"] spLawRow := by
  refine F.ok sc_law_row (fun vs H Q E h => ?_) (fun f cdv A outer s H vs Q E hr h => ?_)
  · obtain ⟨d, l, R, left, rfl, _⟩ := h
    rfl
  · obtain ⟨d, l, R, left, rfl, hd, ⟨hR0, hR1⟩, ⟨hl0, hl1⟩, k⟩ := h
    refine ⟨_, (pss_cons (ps_set (i := 3) sc_law_row.nd rfl (.inl rfl) (pe_tup (pa_cons pe_str (pa_cons pe_str (pa_cons pe_str (pa_cons pe_str (pa_cons pe_str (pa_cons pe_str (pa_cons pe_str (pa_cons pe_str (pa_cons pe_str (pa_cons pe_str (pa_cons pe_str (pa_cons pe_str (pa_cons pe_str pa_nil)))))))))))))))
    (pss_cons (ps_set (i := 4) sc_law_row.nd rfl (.inl rfl) (pe_ix ix_tup (pv 3) (pe_fn D_law_draw (hr.mono (by decide)) rfl (pa_cons (pv 0) (pa_cons pe_int pa_nil))) (fun _ _ => rfl)))
    (pss_cons (ps_asg (pe_lc (own := [("_law_turn", 8)]) (g := gName 8) (tt := tYes) rfl sc_law_row.nd (pi_range1 (by rfl) T.b_range (pa_cons pe_int pa_nil)) (blkOk_by (own := [("_law_turn", 8)]) (N := ["_law_deal_here", "_law_registers", "_law_left", "_law_words", "_law_word", "_law_r", "_law_a", "_law_b", "_law_turn", "_law_modulus"]) (sc := defScope s_law_row) (by decide +kernel)) (fun _ _ _ _ _ => (pg_name (i := 8) sc_law_row.nd rfl (.inl rfl))) (fun _ _ _ _ _ => pts_nil) (fun _ _ _ _ _ => (pe_fn D_law_draw (hr.mono (by decide)) rfl (pa_cons (pv 0) (pa_cons (pv 1) pa_nil))))) (pg_unl rfl (pgs_cons (pg_name (i := 5) sc_law_row.nd rfl (.inl rfl)) (pgs_cons (pg_name (i := 6) sc_law_row.nd rfl (.inl rfl)) (pgs_cons (pg_name (i := 7) sc_law_row.nd rfl (.inl rfl)) pgs_nil)))))
    (pss_cons (ps_if (pt_cmpR op_eq (pv 4) pe_str (nomark _)) (pss_one (ps_ret (pe_tup (pa_cons (pv 4) (pa_cons (pv 5) (pa_cons (pe_fn D_law_number (hr.mono (by decide)) rfl (pa_cons (pv 0) pa_nil)) pa_nil)))))) pss_nil)
    (pss_cons (ps_if (pt_cmpR op_in_seq (pv 4) (pe_tup (pa_cons pe_str (pa_cons pe_str (pa_cons pe_str pa_nil)))) (by rfl)) (pss_one (ps_ret (pe_tup (pa_cons (pv 4) (pa_cons (pv 5) (pa_cons (pv 6) pa_nil)))))) pss_nil)
    (pss_cons (ps_if (pt_cmpR op_eq (pv 4) pe_str (nomark _)) (pss_one (ps_ret (pe_tup (pa_cons (pv 4) (pa_cons (pv 5) (pa_cons (pe_ix ix_list (pe_lst (pa_cons pe_int (pa_cons pe_int (pa_cons pe_int pa_nil)))) (pe_fn D_law_draw (hr.mono (by decide)) rfl (pa_cons (pv 0) (pa_cons pe_int pa_nil))) (fun _ _ => rfl)) pa_nil)))))) pss_nil)
    (pss_cons (ps_if (pt_cmpR op_eq (pv 4) pe_str (nomark _)) (pss_one (ps_ret (pe_tup (pa_cons (pv 4) (pa_cons (pe_ix ix_list (pe_lst (pa_cons pe_int (pa_cons pe_int (pa_cons pe_int pa_nil)))) (pe_fn D_law_draw (hr.mono (by decide)) rfl (pa_cons (pv 0) (pa_cons pe_int pa_nil))) (fun _ _ => rfl)) (pa_cons (pv 6) pa_nil)))))) pss_nil)
    (pss_cons (ps_if (pt_cmpR op_eq (pv 4) pe_str (nomark _)) (pss_cons (ps_set (i := 9) sc_law_row.nd rfl (.inl rfl) (pe_op op_shl pe_int (pe_fn D_law_draw (hr.mono (by decide)) rfl (pa_cons (pv 0) (pa_cons pe_int pa_nil)))))
    (pss_one (ps_ret (pe_tup (pa_cons (pv 4) (pa_cons (pv 6) (pa_cons (pv 9) (pa_cons (pe_fn D_law_draw (hr.mono (by decide)) rfl (pa_cons (pv 0) (pa_cons (pv 9) pa_nil))) (pa_cons (pe_fn D_law_draw (hr.mono (by decide)) rfl (pa_cons (pv 0) (pa_cons (pe_op op_add (pv 2) pe_int) pa_nil))) pa_nil))))))))) pss_nil)
    (pss_one (ps_ret (pe_tup (pa_cons (pv 4) (pa_cons (pv 5) (pa_cons (pv 6) (pa_cons (pv 7) pa_nil))))))))))))))), ?_⟩
    refine ⟨(by show 13 ≤ sizeLine; decide), fun p hp => ?_⟩
    have D1 : Deal d l (upd H p (.tup (wordsL.map V.str))) := hd.new hp
    have K1 : Keep d l H (upd H p (.tup (wordsL.map V.str))) := Keep.refl.new hp
    have hp1 : upd H p (.tup (wordsL.map V.str)) p = some (.tup (wordsL.map V.str)) := upd_same
    show tSeq _ _ _ _ (upd H p (.tup (wordsL.map V.str)))
    generalize upd H p (.tup (wordsL.map V.str)) = H1 at D1 K1 hp1
    refine ⟨_, rfl, _, rfl, d, l, 13, rfl, D1, by decide, by decide, fun r1 H2 a0 a1 D2 K2 => ?_⟩
    obtain ⟨z, hz, hzm⟩ := words_at a0 a1
    refine ⟨p, _, _, _, rfl, rfl, SqT.of (K2.tup D1 hp1), hz, ?_⟩
    refine ⟨3, rfl, by decide, by decide, fun D hD => ?_⟩
    obtain ⟨nDd, nDl⟩ := D2.fresh hD
    refine lc_range (lo := 0) (n := 3) (fun i H' => ∃ ms : List Int, H' D = some (.lst (ms.map V.int)) ∧ ms.length = i ∧ (∀ m ∈ ms, 0 ≤ m ∧ m < R) ∧ Deal d l H' ∧ Keep d l H2 H')
      ⟨[], upd_same, rfl, (fun m h => by cases h), D2.new hD, Keep.refl.new hD⟩ ?_ ?_
    · rintro i H3 hi ⟨ms, hDD, hml, hmb, D3, K3⟩
      refine ⟨rfl, ?_⟩
      refine ⟨_, rfl, _, rfl, d, l, R, rfl, D3, by omega, by omega, fun r H4 c0 c1 D4 K4 => ?_⟩
      refine ⟨_, K4 _ _ hDD nDd nDl, ?_, ms ++ [r], ?_, ?_, ?_, D4.upd nDd nDl, (K3.trans K4).mut hD⟩
      · rw [List.length_map]; exact szK (by omega)
      · rw [upd_same, List.map_append] <;> rfl
      · rw [List.length_append, hml] <;> rfl
      · intro m hm
        rcases List.mem_append.mp hm with h | h
        · exact hmb m h
        · rw [List.mem_singleton.mp h]
          exact ⟨c0, c1⟩
    · rintro H3 ⟨ms, hDD, hml, hmb, D3, K3⟩
      obtain ⟨rr, ra, rb, rfl⟩ : ∃ x y u, ms = [x, y, u] := by
        match ms, hml with
        | [x, y, u], _ => exact ⟨x, y, u, rfl⟩
      have hr := hmb rr (by simp)
      have ha := hmb ra (by simp)
      have hb := hmb rb (by simp)
      have K13 : Keep d l H H3 := (K1.trans K2).trans K3
      refine ⟨D, _, rfl, SqL.of hDD, rfl, _, _, rfl, _, _, rfl, _, _, rfl, rfl, ?_⟩
      refine ⟨_, rfl, rfl, _, rfl, ?_⟩
      refine ite2 (fun h => ?_) (fun h1 => ?_)
      · have ez : z = "set" := V.str.inj (of_decide_eq_true h)
        subst ez
        refine ⟨_, rfl, _, rfl, _, rfl, d, l, rfl, D3, fun n H4 n0 n1 D4 K4 => ?_⟩
        refine ⟨(by show 3 ≤ sizeLine; decide), fun q hq => ?_⟩
        exact k ("set", [rr, n]) _ q (.set rr n hr ⟨n0, n1⟩) (D4.new hq) ((K13.trans K4).new hq) upd_same
      refine ⟨_, rfl, (by show 3 ≤ sizeLine; decide), fun q hq => ?_⟩
      have D4 := D3.new (o := .tup (cwL.map V.str)) hq
      have K14 := K13.new (o := .tup (cwL.map V.str)) hq
      have hq4 : upd H3 q (.tup (cwL.map V.str)) q = some (.tup (cwL.map V.str)) := upd_same
      show rIn _ _ _ _ (upd H3 q (.tup (cwL.map V.str))) _
      generalize upd H3 q (.tup (cwL.map V.str)) = H4 at D4 K14 hq4
      refine ⟨q, _, rfl, .inr (SqT.of hq4), rfl, flat_strs _, _, rfl, ?_⟩
      refine ite2 (fun h => ?_) (fun h2 => ?_)
      · have hm : z ∈ cwL := by
          have q : inV (.str z) (cwL.map V.str) = true := h
          rw [in_strs] at q
          exact of_decide_eq_true q
        have hz3 : z = "copy" ∨ z = "left" ∨ z = "right" := by simpa [cwL] using hm
        refine ⟨_, rfl, _, rfl, _, rfl, (by show 3 ≤ sizeLine; decide), fun q2 hq2 => ?_⟩
        exact k (z, [rr, ra]) _ q2 (.two z rr ra hz3 hr ha) (D4.new hq2) (K14.new hq2) upd_same
      have hnc : ¬ z ∈ cwL := fun hm => h2 (by
        show inV (.str z) (cwL.map V.str) = true
        rw [in_strs]
        exact decide_eq_true hm)
      refine ⟨_, rfl, rfl, _, rfl, ?_⟩
      refine ite2 (fun h => ?_) (fun h3 => ?_)
      · have ez : z = "load" := V.str.inj (of_decide_eq_true h)
        subst ez
        refine ⟨_, rfl, _, rfl, (by show 3 ≤ sizeLine; decide), fun q2 hq2 => ?_⟩
        have D5 := D4.new (o := .lst [.int 0, .int 7, .int 999]) hq2
        refine ⟨_, rfl, d, l, 3, rfl, D5, by decide, by decide, fun r5 H6 c0 c1 D6 K6 => ?_⟩
        obtain ⟨sl, hsl, sl0, sl1⟩ := slots_at c0 c1
        have hne := D4.fresh hq2
        refine ⟨q2, _, _, _, rfl, rfl, SqL.of (K6 _ _ upd_same hne.1 hne.2), hsl, (by show 3 ≤ sizeLine; decide), fun q3 hq3 => ?_⟩
        exact k ("load", [rr, sl]) _ q3 (.load rr sl hr ⟨sl0, sl1⟩) (D6.new hq3) (((K14.new hq2).trans K6).new hq3) upd_same
      refine ⟨_, rfl, rfl, _, rfl, ?_⟩
      refine ite2 (fun h => ?_) (fun h4 => ?_)
      · have ez : z = "store" := V.str.inj (of_decide_eq_true h)
        subst ez
        refine ⟨_, rfl, (by show 3 ≤ sizeLine; decide), fun q2 hq2 => ?_⟩
        have D5 := D4.new (o := .lst [.int 0, .int 7, .int 999]) hq2
        refine ⟨_, rfl, d, l, 3, rfl, D5, by decide, by decide, fun r5 H6 c0 c1 D6 K6 => ?_⟩
        obtain ⟨sl, hsl, sl0, sl1⟩ := slots_at c0 c1
        have hne := D4.fresh hq2
        refine ⟨q2, _, _, _, rfl, rfl, SqL.of (K6 _ _ upd_same hne.1 hne.2), hsl, _, rfl, (by show 3 ≤ sizeLine; decide), fun q3 hq3 => ?_⟩
        exact k ("store", [sl, ra]) _ q3 (.store sl ra ⟨sl0, sl1⟩ ha) (D6.new hq3) (((K14.new hq2).trans K6).new hq3) upd_same
      refine ⟨_, rfl, rfl, _, rfl, ?_⟩
      refine ite2 (fun h => ?_) (fun h5 => ?_)
      · have ez : z = "skip" := V.str.inj (of_decide_eq_true h)
        subst ez
        refine ⟨_, rfl, d, l, 3, rfl, D4, by decide, by decide, fun j H5 c0 c1 D5 K5 => ?_⟩
        refine ⟨_, _, rfl, rfl, ⟨c0, by omega, by decide⟩, ?_⟩
        have hj : j.toNat ≤ 6 := by omega
        have hp6 := pow_le6 hj
        have hp0 := pow_pos2 j.toNat
        have em : (1 : Int) * 2 ^ j.toNat = 2 ^ j.toNat := Int.one_mul _
        refine ⟨_, rfl, _, rfl, _, rfl, _, rfl, _, rfl, d, l, 1 * 2 ^ j.toNat, rfl, D5, by omega, by omega, fun c H6 e0 e1 D6 K6 => ?_⟩
        refine ⟨_, rfl, _, rfl, _, _, rfl, rfl, d, l, _, rfl, D6, by omega, by omega, fun n H7 f0 f1 D7 K7 => ?_⟩
        refine ⟨(by show 5 ≤ sizeLine; decide), fun q3 hq3 => ?_⟩
        exact k ("skip", [ra, 1 * 2 ^ j.toNat, c, n]) _ q3 (by rw [em]; exact .skip ra j.toNat c n ha hj ⟨e0, by omega⟩ ⟨f0, by omega⟩) (D7.new hq3) ((((K14.trans K5).trans K6).trans K7).new hq3) upd_same
      have hz3 : z = "add" ∨ z = "sub" ∨ z = "mul" := by
        have q1 : ¬ z = "set" := fun e => h1 (decide_eq_true (by rw [e]))
        have q3 : ¬ z = "load" := fun e => h3 (decide_eq_true (by rw [e]))
        have q4 : ¬ z = "store" := fun e => h4 (decide_eq_true (by rw [e]))
        have q5 : ¬ z = "skip" := fun e => h5 (decide_eq_true (by rw [e]))
        simp only [wordsL, cwL, List.mem_cons, List.not_mem_nil, or_false, not_or] at hzm hnc
        rcases hzm with h | h | h | h | h | h | h | h | h | h | h | h | h
        all_goals first | exact .inl h | exact .inr (.inl h) | exact .inr (.inr h) | exact absurd h q1 | exact absurd h q3 | exact absurd h q4 | exact absurd h q5 | exact absurd h hnc.1 | exact absurd h hnc.2.1 | exact absurd h hnc.2.2
      refine ⟨_, rfl, _, rfl, _, rfl, _, rfl, (by show 4 ≤ sizeLine; decide), fun q3 hq3 => ?_⟩
      exact k (z, [rr, ra, rb]) _ q3 (.three z rr ra rb hz3 hr ha hb) (D4.new hq3) (K14.new hq3) upd_same
end
end LB
set_option Elab.async false
set_option linter.all false
set_option maxRecDepth 100000
set_option maxHeartbeats 4000000
namespace LB
open PySem PySem.Spec PyProof.Rows L2
open C8 (pss_cut tCut)
theorem Deal.kinds {d l a : Addr} {H : Hp} {o : HO} (D : Deal d l H) (h : H a = some o) (h1 : ∀ kvs, o ≠ .dK kvs) (h2 : ∀ xs, o ≠ .lst xs) : a ≠ d ∧ a ≠ l := by
  obtain ⟨s, n, left, C⟩ := D
  exact ⟨ne_of h C.hd (h1 _), ne_of h C.hl (h2 _)⟩
theorem RowAt.keep {d l : Addr} {H H' : Hp} {v : V} {r : Rw} (k : Keep d l H H') (D : Deal d l H) (h : RowAt H v r) : RowAt H' v r := let ⟨a, e, q⟩ := h; ⟨a, e, k.tup D q⟩
theorem RowsAt.keep {d l : Addr} {H H' : Hp} {vs : List V} {rs : List Rw} (k : Keep d l H H') (D : Deal d l H) (h : RowsAt H vs rs) : RowsAt H' vs rs := ⟨h.len, fun i v r h1 h2 => (h.get i v r h1 h2).keep k D⟩
theorem Keep.sqT {d l a : Addr} {K : PySem.W.Frag} {H H' : Hp} {xs : List V} (k : Keep d l H H') (D : Deal d l H) (h : SqT K H a xs) : SqT K H' a xs := by
  rcases h with (h | ⟨o, h⟩) | h
  · exact .inl (.inl (k.tup D h))
  · have q := D.kinds h (fun _ z => by cases z) (fun _ z => by cases z)
    exact .inl (.inr ⟨o, k _ _ h q.1 q.2⟩)
  · exact .inr h
theorem CodeAt.keep {d l : Addr} {K : PySem.W.Frag} {C a p : Addr} {H H' : Hp} {rs : List Rw} (k : Keep d l H H') (D : Deal d l H) (h : CodeAt K C H a p rs) : CodeAt K C H' a p rs := by
  obtain ⟨dx, xs, h1, h2, h3⟩ := h
  have q := D.kinds h1 (fun _ z => by cases z) (fun _ z => by cases z)
  exact ⟨dx, xs, k _ _ h1 q.1 q.2, k.sqT D h2, h3.keep k D⟩
/-- rows, each with as many rows behind it as there are -/
def DrawnRows (R : Int) (rs : List Rw) : Prop := ∀ (i : Nat) r, rs[i]? = some r → DrawnRow R ((rs.length : Int) - i - 1) r
theorem DrawnRow.isLoad {R left : Int} {r : Rw} (h : DrawnRow R left r) (ez : r.1 = "load") : ∃ rr s0, (0 ≤ rr ∧ rr < R) ∧ r = (("load" : Str), [rr, s0]) := by
  cases h with
  | set r n h1 h2 => exact absurd (show ("set" : Str) = "load" from ez) (by decide +kernel)
  | two z r a hz h1 h2 =>
    have q : z = "load" := ez
    rcases hz with rfl | rfl | rfl <;> exact absurd q (by decide +kernel)
  | three z r a b hz h1 h2 h3 =>
    have q : z = "load" := ez
    rcases hz with rfl | rfl | rfl <;> exact absurd q (by decide +kernel)
  | load r s h1 h2 => exact ⟨r, s, h1, rfl⟩
  | store s a h1 h2 => exact absurd (show ("store" : Str) = "load" from ez) (by decide +kernel)
  | skip a j c n h1 h2 h3 h4 => exact absurd (show ("skip" : Str) = "load" from ez) (by decide +kernel)
theorem DrawnRow.isStore {R left : Int} {r : Rw} (h : DrawnRow R left r) (ez : r.1 = "store") : ∃ s0 a, (0 ≤ a ∧ a < R) ∧ r = (("store" : Str), [s0, a]) := by
  cases h with
  | set r n h1 h2 => exact absurd (show ("set" : Str) = "store" from ez) (by decide +kernel)
  | two z r a hz h1 h2 =>
    have q : z = "store" := ez
    rcases hz with rfl | rfl | rfl <;> exact absurd q (by decide +kernel)
  | three z r a b hz h1 h2 h3 =>
    have q : z = "store" := ez
    rcases hz with rfl | rfl | rfl <;> exact absurd q (by decide +kernel)
  | load r s h1 h2 => exact absurd (show ("load" : Str) = "store" from ez) (by decide +kernel)
  | store s a h1 h2 => exact ⟨s, a, h2, rfl⟩
  | skip a j c n h1 h2 h3 h4 => exact absurd (show ("skip" : Str) = "store" from ez) (by decide +kernel)
theorem DrawnRow.isSkip {R left : Int} {r : Rw} (h : DrawnRow R left r) (ez : r.1 = "skip") : ∃ a m0 c0 n, (0 ≤ a ∧ a < R) ∧ (0 ≤ n ∧ n ≤ left) ∧ r = (("skip" : Str), [a, m0, c0, n]) := by
  cases h with
  | set r n h1 h2 => exact absurd (show ("set" : Str) = "skip" from ez) (by decide +kernel)
  | two z r a hz h1 h2 =>
    have q : z = "skip" := ez
    rcases hz with rfl | rfl | rfl <;> exact absurd q (by decide +kernel)
  | three z r a b hz h1 h2 h3 =>
    have q : z = "skip" := ez
    rcases hz with rfl | rfl | rfl <;> exact absurd q (by decide +kernel)
  | load r s h1 h2 => exact absurd (show ("load" : Str) = "skip" from ez) (by decide +kernel)
  | store s a h1 h2 => exact absurd (show ("store" : Str) = "skip" from ez) (by decide +kernel)
  | skip a j c n h1 h2 h3 h4 => exact ⟨a, _, c, n, h1, h4, rfl⟩
theorem DrawnRow.skipN {R left : Int} {r : Rw} {n : Int} (h : DrawnRow R left r) (hz : r.1 = "skip") (hn : r.2[3]? = some n) : n ≤ left := by
  obtain ⟨a, m0, c0, n', _, h4, rfl⟩ := h.isSkip hz
  have e : n' = n := Option.some.inj hn
  omega
theorem DrawnRows.code {R : Int} {rs : List Rw} (h : DrawnRows R rs) (hR : R ≤ 8) (hl : rs.length ≤ 1000) : CodeOk rs := by
  refine ⟨hl, fun i r hr => (h i r hr).ok hR (by omega), fun i r n hr hz hn => ?_⟩
  have := (h i r hr).skipN hz hn
  omega
section
variable {P : Program} {w : World} {K : PySem.W.Frag} {mg : Str → Option Value} {base : Heap}
abbrev s_law_far_row : Stmt := top 30
theorem sc_law_far_row : FnScope ["_law_deal_here", "_law_registers", "_law_left", "_law_row_here", "_law_modulus"] ["_law_deal_here", "_law_registers", "_law_left"] (defScope s_law_far_row) := ⟨rfl, rfl, rfl, by decide +kernel, rfl, by decide +kernel, by decide +kernel⟩
theorem ok_law_far_row (F : TopFn K mg "_law_far_row" s_law_far_row ["_law_deal_here", "_law_registers", "_law_left"]) (D_law_draw : DefOk P w K mg base 1 "_law_draw" ["_law_deal_here", "_law_many"] spDraw) (D_law_row : DefOk P w K mg base 3 "_law_row" ["_law_deal_here", "_law_registers", "_law_left"] spLawRow) :
    DefOk P w K mg base 4 "_law_far_row" ["_law_deal_here", "_law_registers", "_law_left"] spLawRow := by
  refine F.ok sc_law_far_row (fun vs H Q E h => ?_) (fun f cdv A outer s H vs Q E hr h => ?_)
  · obtain ⟨d, l, R, left, rfl, _⟩ := h
    rfl
  · obtain ⟨d, l, R, left, rfl, hd, hR, hl, k⟩ := h
    refine ⟨_, (pss_cons (ps_set (i := 3) sc_law_far_row.nd rfl (.inl rfl) (pe_fn D_law_row (hr.mono (by decide)) rfl (pa_cons (pv 0) (pa_cons (pv 1) (pa_cons (pv 2) pa_nil)))))
    (pss_cons (ps_if (pt_cmpR op_eq (pe_ix ix_tup (pv 3) pe_int (fun _ _ => rfl)) pe_str (nomark _)) (pss_one (ps_ret (pe_op op_catT (pe_slice sl_tup (pv 3) po_none (po_some pe_int)) (pe_tup (pa_cons (pe_fn D_law_draw (hr.mono (by decide)) rfl (pa_cons (pv 0) (pa_cons pe_int pa_nil))) pa_nil))))) pss_nil)
    (pss_cons (ps_if (pt_cmpR op_eq (pe_ix ix_tup (pv 3) pe_int (fun _ _ => rfl)) pe_str (nomark _)) (pss_one (ps_ret (pe_tup (pa_cons (pe_ix ix_tup (pv 3) pe_int (fun _ _ => rfl)) (pa_cons (pe_fn D_law_draw (hr.mono (by decide)) rfl (pa_cons (pv 0) (pa_cons pe_int pa_nil))) (pa_cons (pe_ix ix_tup (pv 3) pe_int (fun _ _ => rfl)) pa_nil)))))) pss_nil)
    (pss_cons (ps_if (pt_cmpR op_eq (pe_ix ix_tup (pv 3) pe_int (fun _ _ => rfl)) pe_str (nomark _)) (pss_cons (ps_set (i := 4) sc_law_far_row.nd rfl (.inl rfl) (pe_op op_shl pe_int (pe_fn D_law_draw (hr.mono (by decide)) rfl (pa_cons (pv 0) (pa_cons pe_int pa_nil)))))
    (pss_one (ps_ret (pe_op op_catT (pe_slice sl_tup (pv 3) po_none (po_some pe_int)) (pe_tup (pa_cons (pv 4) (pa_cons (pe_fn D_law_draw (hr.mono (by decide)) rfl (pa_cons (pv 0) (pa_cons (pv 4) pa_nil))) (pa_cons (pe_ix ix_tup (pv 3) pe_int (fun _ _ => rfl)) pa_nil)))))))) pss_nil)
    (pss_one (ps_ret (pv 3))))))), ?_⟩
    refine ⟨_, rfl, _, rfl, _, rfl, d, l, R, left, rfl, hd, hR, hl, fun r H1 p hr1 D1 K1 hp => ?_⟩
    have h0 : atI (rowL r.1 r.2) 0 = some (.str r.1) := atI_nat (j := 0) rfl
    refine ⟨_, rfl, p, _, _, _, rfl, rfl, SqT.of hp, h0, rfl, _, rfl, ?_⟩
    refine ite2 (fun h => ?_) (fun h1 => ?_)
    · have ez : r.1 = "load" := V.str.inj (of_decide_eq_true h)
      obtain ⟨rr, s0, hrr, e⟩ := hr1.isLoad ez
      subst e
      refine ⟨_, rfl, _, rfl, p, _, rfl, SqT.of hp, part_to (k := 2) (show 2 < 3 by decide), fun p1 hp1 => ?_⟩
      have D2 := D1.new (o := .tup [.str "load", .int rr]) hp1
      have K2 := K1.new (o := .tup [.str "load", .int rr]) hp1
      refine ⟨_, rfl, d, l, 1000, rfl, D2, by decide, by decide, fun s1 H3 c0 c1 D3 K3 => ?_⟩
      have g3 : H3 p1 = some (.tup [.str "load", .int rr]) := K3.tup D2 upd_same
      refine ⟨(by show 1 ≤ sizeLine; decide), fun p2 hp2 => ?_⟩
      refine ⟨p1, p2, _, _, rfl, rfl, SqT.of ((same_new hp2) _ _ g3), SqT.of upd_same, (by intro q; cases q), (by show 3 ≤ sizeLine; decide), (fun q => by cases q), fun _ p3 hp3 => ?_⟩
      exact k ("load", [rr, s1]) _ p3 (.load rr s1 hrr ⟨c0, c1⟩) ((D3.new hp2).new hp3) (((K2.trans K3).new hp2).new hp3) upd_same
    refine ⟨_, rfl, p, _, _, _, rfl, rfl, SqT.of hp, h0, rfl, _, rfl, ?_⟩
    refine ite2 (fun h => ?_) (fun h2 => ?_)
    · have ez : r.1 = "store" := V.str.inj (of_decide_eq_true h)
      obtain ⟨s0, a, ha, e⟩ := hr1.isStore ez
      subst e
      refine ⟨_, rfl, p, _, _, _, rfl, rfl, SqT.of hp, h0, ?_⟩
      refine ⟨_, rfl, d, l, 1000, rfl, D1, by decide, by decide, fun s1 H3 c0 c1 D3 K3 => ?_⟩
      have g3 := K3.tup D1 hp
      refine ⟨_, rfl, p, _, _, _, rfl, rfl, SqT.of g3, atI_nat (j := 2) rfl, (by show 3 ≤ sizeLine; decide), fun p2 hp2 => ?_⟩
      exact k ("store", [s1, a]) _ p2 (.store s1 a ⟨c0, c1⟩ ha) (D3.new hp2) ((K1.trans K3).new hp2) upd_same
    refine ⟨_, rfl, p, _, _, _, rfl, rfl, SqT.of hp, h0, rfl, _, rfl, ?_⟩
    refine ite2 (fun h => ?_) (fun h3 => ?_)
    · have ez : r.1 = "skip" := V.str.inj (of_decide_eq_true h)
      obtain ⟨a, m0, c0, n, ha, hn, e⟩ := hr1.isSkip ez
      subst e
      refine ⟨_, rfl, d, l, 7, rfl, D1, by decide, by decide, fun j H2 c0 c1 D2 K2 => ?_⟩
      refine ⟨_, _, rfl, rfl, ⟨c0, by omega, by decide⟩, ?_⟩
      have hj : j.toNat ≤ 6 := by omega
      have hp6 := pow_le6 hj
      have hp0 := pow_pos2 j.toNat
      have em : (1 : Int) * 2 ^ j.toNat = 2 ^ j.toNat := Int.one_mul _
      have g2 := K2.tup D1 hp
      refine ⟨_, rfl, _, rfl, p, _, rfl, SqT.of g2, part_to (k := 2) (show 2 < 5 by decide), fun p1 hp1 => ?_⟩
      have D3 := D2.new (o := .tup [.str "skip", .int a]) hp1
      have K3 := (K1.trans K2).new (o := .tup [.str "skip", .int a]) hp1
      refine ⟨_, rfl, _, rfl, _, rfl, d, l, 1 * 2 ^ j.toNat, rfl, D3, by omega, by omega, fun c H4 e0 e1 D4 K4 => ?_⟩
      have g4 : H4 p1 = some (.tup [.str "skip", .int a]) := K4.tup D3 upd_same
      have g4' := K4.tup D3 ((same_new (o := .tup [.str "skip", .int a]) hp1) _ _ g2)
      refine ⟨_, rfl, p, _, _, _, rfl, rfl, SqT.of g4', atI_nat (j := 4) rfl, (by show 3 ≤ sizeLine; decide), fun p2 hp2 => ?_⟩
      refine ⟨p1, p2, _, _, rfl, rfl, SqT.of ((same_new hp2) _ _ g4), SqT.of upd_same, (by intro q; cases q), (by show 5 ≤ sizeLine; decide), (fun q => by cases q), fun _ p3 hp3 => ?_⟩
      exact k ("skip", [a, 1 * 2 ^ j.toNat, c, n]) _ p3 (by rw [em]; exact .skip a j.toNat c n ha hj ⟨e0, by omega⟩ hn) ((D4.new hp2).new hp3) (((K3.trans K4).new hp2).new hp3) upd_same
    exact ⟨_, rfl, k r _ p hr1 D1 K1 hp⟩
end
end LB
set_option Elab.async false
set_option linter.all false
set_option maxRecDepth 100000
set_option maxHeartbeats 4000000
namespace LB
open PySem PySem.Spec PyProof.Rows L2
open C8 (pss_cut tCut)
section
variable {P : Program} {w : World} {K : PySem.W.Frag} {mg : Str → Option Value} {base : Heap}
/-- many rows in a new list -/
def spFarRows : Sp := fun vs H Q _ => ∃ (d l : Addr) (R : Int) (many : Nat), vs = [.ref d, .int R, .int many] ∧ Deal d l H ∧ (1 ≤ R ∧ R ≤ 8) ∧ many ≤ 1000 ∧
  ∀ rs H' D ys, rs.length = many → DrawnRows R rs → Deal d l H' → Keep d l H H' → H D = none → H' D = some (.lst ys) → RowsAt H' ys rs → Q (.ref D) H'
/-- so many of them -/
structure Part (R : Int) (many : Nat) (rs : List Rw) (i : Nat) : Prop where
  len : rs.length = i
  row : ∀ (j : Nat) r, rs[j]? = some r → DrawnRow R ((many : Int) - j - 1) r
theorem Part.snoc {R : Int} {many i : Nat} {rs : List Rw} {r : Rw} (h : Part R many rs i) (hr : DrawnRow R ((many : Int) - i - 1) r) : Part R many (rs ++ [r]) (i + 1) := by
  refine ⟨by rw [List.length_append, h.len] <;> rfl, fun j q hq => ?_⟩
  by_cases hj : j < rs.length
  · rw [List.getElem?_append_left hj] at hq
    exact h.row j q hq
  · rw [List.getElem?_append_right (by omega)] at hq
    have e : j - rs.length = 0 := by
      have := lt_of_get hq
      simp at this
      omega
    rw [e] at hq
    cases hq
    have ej : j = i := by rw [← h.len]; omega
    rw [ej]
    exact hr
theorem Part.all {R : Int} {many : Nat} {rs : List Rw} (h : Part R many rs many) : DrawnRows R rs := fun i r hr => by
  rw [h.len]
  exact h.row i r hr
abbrev s_law_far_rows : Stmt := top 31
theorem sc_law_far_rows : FnScope ["_law_deal_here", "_law_registers", "_law_many", "_law_at"] ["_law_deal_here", "_law_registers", "_law_many"] (defScope s_law_far_rows) := ⟨rfl, rfl, rfl, by decide +kernel, rfl, by decide +kernel, by decide +kernel⟩
theorem ok_law_far_rows (F : TopFn K mg "_law_far_rows" s_law_far_rows ["_law_deal_here", "_law_registers", "_law_many"]) (T : Txt K mg) (D_law_far_row : DefOk P w K mg base 4 "_law_far_row" ["_law_deal_here", "_law_registers", "_law_left"] spLawRow) :
    DefOk P w K mg base 5 "_law_far_rows" ["_law_deal_here", "_law_registers", "_law_many"] spFarRows := by
  refine F.ok sc_law_far_rows (fun vs H Q E h => ?_) (fun f cdv A outer s H vs Q E hr h => ?_)
  · obtain ⟨d, l, R, many, rfl, _⟩ := h
    rfl
  · obtain ⟨d, l, R, many, rfl, hd, hR, hm, k⟩ := h
    refine ⟨_, (pss_one (ps_ret (pe_lc (own := [("_law_at", 3)]) (g := gName 3) (tt := tYes) rfl sc_law_far_rows.nd (pi_range1 (by rfl) T.b_range (pa_cons (pv 2) pa_nil)) (blkOk_by (own := [("_law_at", 3)]) (N := ["_law_deal_here", "_law_registers", "_law_many", "_law_at"]) (sc := defScope s_law_far_rows) (by decide +kernel)) (fun _ _ _ _ _ => (pg_name (i := 3) sc_law_far_rows.nd rfl (.inl rfl))) (fun _ _ _ _ _ => pts_nil) (fun _ _ _ _ _ => (pe_fn D_law_far_row (hr.mono (by decide)) rfl (pa_cons (pv 0) (pa_cons (pv 1) (pa_cons (pe_op op_sub (pe_op op_sub (pv 2) (pv 3)) pe_int) pa_nil)))))))), ?_⟩
    refine ⟨_, rfl, (many : Int), rfl, by omega, by omega, fun D hD => ?_⟩
    obtain ⟨nDd, nDl⟩ := hd.fresh hD
    have em : (many : Int).toNat = many := Int.toNat_natCast many
    rw [em]
    refine lc_range (lo := 0) (n := many) (fun i H' => ∃ rs ys, Part R many rs i ∧ H' D = some (.lst ys) ∧ RowsAt H' ys rs ∧ Deal d l H' ∧ Keep d l H H')
      ⟨[], [], ⟨rfl, fun j r h => by simp at h⟩, upd_same, RowsAt.nil, hd.new hD, Keep.refl.new hD⟩ ?_ ?_
    · rintro i H1 hi ⟨rs, ys, hp, hDD, hY, D1, K1⟩
      refine ⟨rfl, ?_⟩
      refine ⟨_, rfl, _, rfl, _, rfl, _, rfl, _, _, rfl, rfl, _, _, rfl, rfl, d, l, R, _, rfl, D1, hR, ⟨by omega, by omega⟩, fun r H2 p hr2 D2 K2 hp2 => ?_⟩
      have g2 := K2 _ _ hDD nDd nDl
      refine ⟨_, g2, ?_, rs ++ [r], ys ++ [.ref p], hp.snoc ?_, upd_same, ?_, D2.upd nDd nDl, (K1.trans K2).mut hD⟩
      · rw [hY.len, hp.len]; exact szK (by omega)
      · rw [show (many : Int) - i - 1 = many - (0 + i) - 1 by omega]
        exact hr2
      · exact ((hY.keep K2 D1).snoc ⟨p, rfl, hp2⟩).mut g2
    · rintro H1 ⟨rs, ys, hp, hDD, hY, D1, K1⟩
      exact k rs H1 D ys hp.len hp.all D1 K1 hD hDD hY
def spSkipping : Sp := fun vs H Q _ => ∃ (d l : Addr) (many : Nat), vs = [.ref d, .int many] ∧ Deal d l H ∧ many ≤ 1000 ∧
  ∀ rs H' D ys, rs.length = many → DrawnRows 8 rs → Deal d l H' → Keep d l H H' → H D = none → H' D = some (.lst ys) → RowsAt H' ys rs → Q (.ref D) H'
theorem DrawnRows.set {R : Int} {rs : List Rw} {i : Nat} {r : Rw} (h : DrawnRows R rs) (hr : DrawnRow R ((rs.length : Int) - i - 1) r) : DrawnRows R (rs.set i r) := fun j q hq => by
  rw [List.length_set]
  by_cases e : i = j
  · subst e
    rw [List.getElem?_set_self (by have := lt_of_get hq; rw [List.length_set] at this; exact this)] at hq
    cases hq
    exact hr
  · rw [List.getElem?_set_ne e] at hq
    exact h j q hq
theorem RowsAt.set {H : Hp} {vs : List V} {rs : List Rw} {v : V} {r : Rw} {i : Nat} (h : RowsAt H vs rs) (hv : RowAt H v r) : RowsAt H (vs.set i v) (rs.set i r) := by
  refine ⟨by rw [List.length_set, List.length_set, h.len], fun j v' r' h1 h2 => ?_⟩
  by_cases e : i = j
  · subst e
    rw [List.getElem?_set_self (by have := lt_of_get h1; rw [List.length_set] at this; exact this)] at h1
    rw [List.getElem?_set_self (by have := lt_of_get h2; rw [List.length_set] at this; exact this)] at h2
    cases h1
    cases h2
    exact hv
  · rw [List.getElem?_set_ne e] at h1 h2
    exact h.get j v' r' h1 h2
abbrev s_law_skipping : Stmt := top 32
theorem sc_law_skipping : FnScope ["_law_deal_here", "_law_many", "_law_found", "_law_at", "_law_modulus", "_law_length"] ["_law_deal_here", "_law_many"] (defScope s_law_skipping) := ⟨rfl, rfl, rfl, by decide +kernel, rfl, by decide +kernel, by decide +kernel⟩
theorem ok_law_skipping (F : TopFn K mg "_law_skipping" s_law_skipping ["_law_deal_here", "_law_many"]) (T : Txt K mg) (D_law_draw : DefOk P w K mg base 1 "_law_draw" ["_law_deal_here", "_law_many"] spDraw) (D_law_far_rows : DefOk P w K mg base 5 "_law_far_rows" ["_law_deal_here", "_law_registers", "_law_many"] spFarRows) :
    DefOk P w K mg base 6 "_law_skipping" ["_law_deal_here", "_law_many"] spSkipping := by
  refine F.ok sc_law_skipping (fun vs H Q E h => ?_) (fun f cdv A outer s H vs Q E hr h => ?_)
  · obtain ⟨d, l, many, rfl, _⟩ := h
    rfl
  · obtain ⟨d, l, many, rfl, hd, hm, k⟩ := h
    refine ⟨_, (pss_cons (ps_set (i := 2) sc_law_skipping.nd rfl (.inl rfl) (pe_fn D_law_far_rows (hr.mono (by decide)) rfl (pa_cons (pv 0) (pa_cons pe_int (pa_cons (pv 1) pa_nil)))))
    (pss_cut (ps_for PassesOwn.never rfl (pi_range1 (by rfl) T.b_range (pa_cons (pv 1) pa_nil)) (pg_name (i := 3) sc_law_skipping.nd rfl (.inl rfl))
    (pss_one (ps_if (pt_cmpR op_eq (pe_fn D_law_draw (hr.mono (by decide)) rfl (pa_cons (pv 0) (pa_cons pe_int pa_nil))) pe_int (nomark _)) (pss_cons (ps_set (i := 4) sc_law_skipping.nd rfl (.inl rfl) (pe_op op_shl pe_int (pe_fn D_law_draw (hr.mono (by decide)) rfl (pa_cons (pv 0) (pa_cons pe_int pa_nil)))))
    (pss_cons (ps_set (i := 5) sc_law_skipping.nd rfl (.inl rfl) (pe_ix ix_list (pe_lst (pa_cons (pe_op op_sub (pe_op op_sub (pv 1) (pv 3)) pe_int) (pa_cons (pe_fn D_law_draw (hr.mono (by decide)) rfl (pa_cons (pv 0) (pa_cons (pe_op op_sub (pv 1) (pv 3)) pa_nil))) pa_nil))) (pe_fn D_law_draw (hr.mono (by decide)) rfl (pa_cons (pv 0) (pa_cons pe_int pa_nil))) (fun _ _ => rfl)))
    (pss_one (ps_asg (pe_tup (pa_cons pe_str (pa_cons (pe_fn D_law_draw (hr.mono (by decide)) rfl (pa_cons (pv 0) (pa_cons pe_int pa_nil))) (pa_cons (pv 4) (pa_cons (pe_fn D_law_draw (hr.mono (by decide)) rfl (pa_cons (pv 0) (pa_cons (pv 4) pa_nil))) (pa_cons (pv 5) pa_nil)))))) (pg_sub (pv 2) (pv 3) set_list))))) pss_nil)))
    (pss_one (ps_ret (pv 2))))), ?_⟩
    refine ⟨_, rfl, _, rfl, d, l, 8, many, rfl, hd, ⟨by decide, by decide⟩, hm, fun rs0 H1 D ys0 hl0 hdr0 D1 K1 hD hDD0 hY0 => ?_⟩
    have em : (many : Int).toNat = many := Int.toNat_natCast many
    have nDd : D ≠ d := (hd.fresh hD).1
    have nDl : D ≠ l := (hd.fresh hD).2
    refine ⟨fun σ H' => ∃ rs ys v3 v4 v5, σ = [some (.ref d), some (.int many), some (.ref D), v3, v4, v5] ∧ rs.length = many ∧ DrawnRows 8 rs ∧ H' D = some (.lst ys) ∧ RowsAt H' ys rs ∧ Deal d l H' ∧ Keep d l H H', ?_, ?_⟩
    · refine ⟨_, rfl, (many : Int), rfl, by omega, by omega, ?_⟩
      rw [em]
      refine for_range (lo := 0) (n := many) (fun i σ H' => ∃ rs ys v3 v4 v5, σ = [some (.ref d), some (.int many), some (.ref D), v3, v4, v5] ∧ rs.length = many ∧ DrawnRows 8 rs ∧ H' D = some (.lst ys) ∧ RowsAt H' ys rs ∧ Deal d l H' ∧ Keep d l H H')
        ⟨rs0, ys0, none, none, none, rfl, hl0, hdr0, hDD0, hY0, D1, K1⟩ ?_ ?_
      · rintro i σ H2 hi ⟨rs, ys, v3, v4, v5, rfl, hl, hdr, hDD, hY, D2, K2⟩
        refine ⟨_, rfl, d, l, 2, rfl, D2, by decide, by decide, fun r1 H3 a0 a1 D3 K3 => ?_⟩
        refine ⟨rfl, _, rfl, ?_⟩
        refine ite2 (fun _ => ?_) (fun _ => ⟨rs, ys, _, _, _, rfl, hl, hdr, K3 _ _ hDD nDd nDl, hY.keep K3 D2, D3, K2.trans K3⟩)
        refine ⟨_, rfl, d, l, 7, rfl, D3, by decide, by decide, fun j H4 c0 c1 D4 K4 => ?_⟩
        refine ⟨_, _, rfl, rfl, ⟨c0, by omega, by decide⟩, ?_⟩
        have hj : j.toNat ≤ 6 := by omega
        have hp6 := pow_le6 hj
        have hp0 := pow_pos2 j.toNat
        have ej : (1 : Int) * 2 ^ j.toNat = 2 ^ j.toNat := Int.one_mul _
        refine ⟨_, rfl, _, rfl, _, _, rfl, rfl, _, _, rfl, rfl, _, rfl, _, rfl, _, rfl, _, _, rfl, rfl, d, l, _, rfl, D4, by omega, by omega, fun r5 H5 e0 e1 D5 K5 => ?_⟩
        refine ⟨(by show 2 ≤ sizeLine; decide), fun p hp => ?_⟩
        have D6 := D5.new (o := .lst [.int ((many : Int) - (0 + i) - 1), .int r5]) hp
        have n6 := D5.fresh hp
        refine ⟨_, rfl, d, l, 2, rfl, D6, by decide, by decide, fun r6 H7 f0 f1 D7 K7 => ?_⟩
        have g7 := K7 _ _ (upd_same (H := H5) (a := p) (o := .lst [.int ((many : Int) - (0 + i) - 1), .int r5])) n6.1 n6.2
        obtain ⟨len, hlen, len0, len1⟩ : ∃ len : Int, atI [V.int ((many : Int) - (0 + i) - 1), .int r5] r6 = some (.int len) ∧ 0 ≤ len ∧ len ≤ (many : Int) - i - 1 := by
          have h : r6 = 0 ∨ r6 = 1 := by omega
          rcases h with rfl | rfl
          · exact ⟨_, atI_nat (j := 0) rfl, by omega, by omega⟩
          · exact ⟨_, atI_nat (j := 1) rfl, by omega, by omega⟩
        refine ⟨p, _, _, _, rfl, rfl, SqL.of g7, hlen, ?_⟩
        refine ⟨_, rfl, d, l, 8, rfl, D7, by decide, by decide, fun a H8 x0 x1 D8 K8 => ?_⟩
        refine ⟨_, rfl, _, rfl, _, rfl, d, l, 1 * 2 ^ j.toNat, rfl, D8, by omega, by omega, fun c H9 y0 y1 D9 K9 => ?_⟩
        refine ⟨_, rfl, (by show 5 ≤ sizeLine; decide), fun q hq => ?_⟩
        have K29 : Keep d l H2 (upd H9 q (.tup [.str "skip", .int a, .int (1 * 2 ^ j.toNat), .int c, .int len])) := ((((((K3.trans K4).trans K5).new hp).trans K7).trans K8).trans K9).new hq
        have gD := K29 _ _ hDD nDd nDl
        refine ⟨_, rfl, _, rfl, D, ys, _, i, rfl, rfl, gD, ?_, ?_⟩
        · unfold ixN
          rw [hY.len, hl, if_pos (by omega), if_pos (by omega)]
          congr 1
          omega
        · refine ⟨rs.set i ("skip", [a, 1 * 2 ^ j.toNat, c, len]), ys.set i (.ref q), _, _, _, rfl, by rw [List.length_set, hl], hdr.set ?_, upd_same, ?_, (D9.new hq).upd nDd nDl, (K2.trans K29).mut hD⟩
          · rw [hl, ej]
            exact .skip a j.toNat c len ⟨x0, x1⟩ hj ⟨y0, by omega⟩ ⟨len0, len1⟩
          · exact ((hY.keep K29 D2).set ⟨q, rfl, upd_same⟩).mut gD
      · exact fun σ H' h => h
    · rintro σ H2 ⟨rs, ys, v3, v4, v5, rfl, hl, hdr, hDD, hY, D2, K2⟩
      exact ⟨_, rfl, k rs H2 D ys hl hdr D2 K2 hD hDD hY⟩
end
end LB
set_option Elab.async false
set_option linter.all false
set_option maxRecDepth 100000
set_option maxHeartbeats 4000000
namespace LB
open PySem PySem.Spec PyProof.Rows L2
open C8 (pss_cut tCut)
section
variable {P : Program} {w : World} {K : PySem.W.Frag} {mg : Str → Option Value} {base : Heap}
def spLeftOut (K : PySem.W.Frag) : Sp := fun vs H Q _ => ∃ (l : Addr) (at_ : Nat) (xs : List V) (rs : List Rw), vs = [.ref l, .int at_] ∧ SqL K H l xs ∧ RowsAt H xs rs ∧ RowsOk rs ∧ rs.length ≤ 1000 ∧
  ∀ H' D ys, Same H H' → H D = none → H' D = some (.lst ys) → RowsAt H' ys (withoutRow rs at_) → Q (.ref D) H'
abbrev s_law_left_out : Stmt := top 29
theorem sc_law_left_out : FnScope ["_law_rows", "_law_at", "_law_found", "_law_place", "_law_row_here"] ["_law_rows", "_law_at"] (defScope s_law_left_out) := ⟨rfl, rfl, rfl, by decide +kernel, rfl, by decide +kernel, by decide +kernel⟩
theorem ok_law_left_out (F : TopFn K mg "_law_left_out" s_law_left_out ["_law_rows", "_law_at"]) (T : Txt K mg) : DefOk P w K mg base 1 "_law_left_out" ["_law_rows", "_law_at"] (spLeftOut K) := by
  refine F.ok sc_law_left_out (fun vs H Q E h => ?_) (fun f cdv A outer s H vs Q E hr h => ?_)
  · obtain ⟨l, at_, xs, rs, rfl, _⟩ := h
    rfl
  · obtain ⟨l, at_, xs, rs, rfl, hS, hR, ok, hfew, k⟩ := h
    refine ⟨_, (pss_cons (ps_set (i := 2) sc_law_left_out.nd rfl (.inl rfl) (pe_lst pa_nil))
    (pss_cut (ps_for PassesOwn.never rfl (pi_range1 (by rfl) T.b_range (pa_cons (pe_callB call_len_seq (by rfl) T.b_len (by decide +kernel) (pa_cons (pv 0) pa_nil)) pa_nil)) (pg_name (i := 3) sc_law_left_out.nd rfl (.inl rfl))
    (pss_cons (ps_set (i := 4) sc_law_left_out.nd rfl (.inl rfl) (pe_ix ix_list (pv 0) (pv 3) (fun _ _ => rfl)))
    (pss_cut (ps_if (PW.pt (pw_and (pt_cmpR op_eq (pe_ix ix_tup (pv 4) pe_int (fun _ _ => rfl)) pe_str (nomark _)) (pw_and1 (pt_chain op_lt op_le (pv 3) (pv 1) (pe_op op_add (pv 3) (pe_ix ix_tup (pv 4) pe_int (fun _ _ => rfl))))))) (pss_one (ps_set (i := 4) sc_law_left_out.nd rfl (.inl rfl) (pe_op op_catT (pe_slice sl_tup (pv 4) po_none (po_some pe_int)) (pe_tup (pa_cons (pe_op op_sub (pe_ix ix_tup (pv 4) pe_int (fun _ _ => rfl)) pe_int) pa_nil))))) pss_nil)
    (pss_one (ps_if (pt_cmpR op_ne (pv 3) (pv 1) (nomark _)) (pss_one (ps_expr (pe_bm PySem.F.plainAttrs_list PySem.F.slot_list_append PySem.F.type_list_append mt_append (pv 2) (pa_cons (pv 4) pa_nil)))) pss_nil)))))
    (pss_one (ps_ret (pv 2))))), ?_⟩
    refine ⟨Nat.zero_le _, fun D hD => ?_⟩
    have s0 : Same H (upd H D (.lst [])) := same_new hD
    have hD0 : upd H D (.lst []) D = some (.lst []) := upd_same
    generalize upd H D (.lst []) = H0 at s0 hD0
    refine ⟨fun σ H' => ∃ v3 v4 ys, σ = [some (.ref l), some (.int at_), some (.ref D), v3, v4] ∧ Same H H' ∧ H' D = some (.lst ys) ∧ RowsAt H' ys (withoutRow rs at_), ?_, ?_⟩
    · refine ⟨_, rfl, l, xs, rfl, .inl (s0.seq hS), _, rfl, ?_, ?_, ?_⟩
      · omega
      · rw [hR.len]; omega
      rw [Int.toNat_natCast]
      refine for_range (lo := 0) (n := xs.length) (fun i σ H' => ∃ v3 v4 ys, σ = [some (V.ref l), some (.int at_), some (.ref D), v3, v4] ∧ Same H H' ∧ H' D = some (HO.lst ys) ∧ RowsAt H' ys (wo at_ rs i)) ?_ ?_ ?_
      · exact ⟨none, none, [], rfl, s0, hD0, RowsAt.nil⟩
      · rintro i σ H2 hi ⟨v3, v4, ys, rfl, s2, hD2, hY2⟩
        obtain ⟨r, hr1, ra, hy, hra⟩ := hR.row (List.getElem?_eq_getElem hi)
        have hra2 := s2 _ _ hra
        have hat : atI xs (0 + (i : Int)) = some (.ref ra) := by
          rw [Int.zero_add]
          exact atI_nat (by rw [List.getElem?_eq_getElem hi, hy])
        refine ⟨_, rfl, _, rfl, l, xs, _, _, rfl, rfl, s2.seq hS, hat, ?_⟩
        refine ⟨fun σ H' => ∃ v, σ = [some (V.ref l), some (.int at_), some (.ref D), some (.int (0 + i)), some v] ∧ Same H H' ∧ H' D = some (HO.lst ys) ∧ RowsAt H' ys (wo at_ rs i) ∧ RowAt H' v (lessRow at_ i r), ?_, ?_⟩
        · refine ⟨_, rfl, ra, _, _, _, rfl, rfl, SqT.of hra2, atI_nat (j := 0) rfl, rfl, _, rfl, ?_⟩
          refine ite2 (fun h => ?_) (fun h => ?_)
          · have ez : r.1 = "skip" := V.str.inj (of_decide_eq_true h)
            obtain ⟨b1, m1, c1, n1, e2, _⟩ := (ok i r hr1).sk ez
            have hra3 : H2 ra = some (.tup [.str r.1, .int b1, .int m1, .int c1, .int n1]) := by rw [hra2, e2]; rfl
            have el0 : lessRow at_ i r = if r.1 = "skip" ∧ i < at_ ∧ (at_ : Int) ≤ i + n1 then (r.1, [b1, m1, c1, n1 - 1]) else r := by
              unfold lessRow
              rw [e2]
            have same : ¬ (i < at_ ∧ (at_ : Int) ≤ i + n1) → RowAt H2 (.ref ra) (lessRow at_ i r) := fun q => by
              rw [el0, if_neg (fun z => q z.2)]
              exact ⟨ra, rfl, hra2⟩
            refine ⟨_, rfl, _, rfl, _, _, rfl, rfl, _, rfl, ?_⟩
            refine ite2 (fun h1 => ?_) (fun h1 => ?_)
            · have h1 : i < at_ := by have := of_decide_eq_true h1; omega
              refine ⟨_, rfl, _, rfl, ra, _, _, _, rfl, rfl, SqT.of hra3, atI_nat (j := 4) rfl, _, _, rfl, rfl, _, _, rfl, rfl, _, rfl, ?_⟩
              refine ite2 (fun h2 => ?_) (fun h2 => ?_)
              · have h2 : (at_ : Int) ≤ i + n1 := by have := of_decide_eq_true h2; omega
                refine ⟨_, rfl, _, rfl, ra, _, rfl, SqT.of hra3, part_to (k := 4) (show 4 < 5 by decide), fun p1 hp1 => ?_⟩
                have t1 : Same H2 (upd H2 p1 (.tup [.str r.1, .int b1, .int m1, .int c1])) := same_new hp1
                have g1 : upd H2 p1 (.tup [.str r.1, .int b1, .int m1, .int c1]) p1 = some (.tup [.str r.1, .int b1, .int m1, .int c1]) := upd_same
                show tTup _ _ (upd H2 p1 (.tup [.str r.1, .int b1, .int m1, .int c1])) _
                generalize upd H2 p1 (.tup [.str r.1, .int b1, .int m1, .int c1]) = H3 at t1 g1
                refine ⟨_, rfl, ra, _, _, _, rfl, rfl, SqT.of (t1 _ _ hra3), atI_nat (j := 4) rfl, _, _, rfl, rfl, (by show 1 ≤ sizeLine; decide), fun p2 hp2 => ?_⟩
                have t2 : Same H3 (upd H3 p2 (.tup [.int (n1 - 1)])) := same_new hp2
                refine ⟨p1, p2, _, _, rfl, rfl, SqT.of (t2 _ _ g1), SqT.of upd_same, (by intro q; cases q), (by show 5 ≤ sizeLine; decide), (fun q => by cases q), fun _ p3 hp3 => ?_⟩
                have t4 := (t1.trans t2).trans (same_new (o := .tup ([V.str r.1, .int b1, .int m1, .int c1] ++ [V.int (n1 - 1)])) hp3)
                refine ⟨_, rfl, s2.trans t4, t4 _ _ hD2, hY2.same t4, ?_⟩
                rw [el0, if_pos ⟨ez, h1, h2⟩]
                exact ⟨p3, rfl, upd_same⟩
              · exact ⟨_, rfl, s2, hD2, hY2, same fun q => h2 (decide_eq_true (by have := q.2; omega))⟩
            · refine ⟨_, rfl, ?_⟩
              exact ⟨_, rfl, s2, hD2, hY2, same fun q => h1 (decide_eq_true (by omega))⟩
          · have el : lessRow at_ i r = r := by
              unfold lessRow
              split
              · rw [if_neg (fun q => h (decide_eq_true (by rw [q.1])))]
              · rfl
            exact ⟨_, rfl, s2, hD2, hY2, by rw [el]; exact ⟨ra, rfl, hra2⟩⟩
        · rintro σ H3 ⟨v, rfl, s3, hD3, hY3, hv⟩
          refine ⟨_, rfl, _, rfl, rfl, _, rfl, ?_⟩
          refine ite2 (fun h => ?_) (fun h => ?_)
          · have hne : ¬ i = at_ := fun e => by
              rw [decide_eq_true (show V.int (0 + (i : Int)) = V.int (at_ : Nat) by rw [e, Int.zero_add])] at h
              cases h
            refine ⟨_, rfl, .inl ⟨rfl, _, SqL.of hD3⟩, _, rfl, D, _, _, rfl, rfl, hD3, ?_, ?_⟩
            · rw [hY3.len]
              have hlt := lt_of_get hr1
              have := wo_len (at_ := at_) (rs := rs) i (by omega)
              exact szK (by split at this <;> omega)
            · have s4 : Same H (upd H3 D (.lst (ys ++ [v]))) := same_mut s3 hD
              refine ⟨_, _, _, rfl, s4, upd_same, ?_⟩
              rw [wo_more hr1 hne]
              exact (hY3.snoc hv).mut hD3
          · have he : i = at_ := by
              have q : decide (V.int (0 + (i : Int)) = V.int (at_ : Nat)) = true := by simpa using h
              have := V.int.inj (of_decide_eq_true q)
              omega
            refine ⟨_, _, _, rfl, s3, hD3, ?_⟩
            rw [wo_skip hr1 he]
            exact hY3
      · rintro σ H' ⟨v3, v4, ys, rfl, s1, hD1, hY⟩
        rw [hR.len] at hY
        exact ⟨_, _, _, rfl, s1, hD1, hY⟩
    · rintro σ H' ⟨v3, v4, ys, rfl, s1, hD1, hY⟩
      exact ⟨_, rfl, k _ D ys s1 hD hD1 hY⟩
end
end LB
set_option Elab.async false
set_option linter.all false
set_option maxRecDepth 100000
set_option maxHeartbeats 4000000
namespace LB
open PySem PySem.Spec PyProof.Rows L2
def spLaw (K : PySem.W.Frag) : Sp := fun vs H Q _ => ∃ (a : Addr) (ns : List Int), vs = [.ref a] ∧ SqL K H a (ns.map V.int) ∧ ns.length ≤ 63 ∧ ∀ H', Q (.bl true) H'
/-- the law's own def at the top -/
structure LawFn (K : PySem.W.Frag) (mg : Str → Option Value) (fa : Addr) (st : Stmt) : Prop where
  ex : ∃ (fd : FuncData), Fun K "law" "law" st fa fd ∧ ∀ (s : Shared) (v : Value), BindsTo s fd ⟨[v], []⟩ [("_law_script", v)]
theorem lawFn_mk {K : PySem.W.Frag} {mg : Str → Option Value} {h : Heap} {st : Stmt} {f fa : Addr} {oc : Value} {od an : Option Addr} {osl : Array (Option Value)} {kV doc pm cdv ct : Value} (X : K.In h) (G : h.Ns mainGlobals mg) (hfa : mg "law" = some (.ref fa))
    (hb : ∀ (kV doc pm : Value) (an : Option Addr) (cdv ct : Value) (v : Value), bindArgs (PySem.W.fnOf "law" "law" (defArgs st) (defBody st) (defScope st) .none kV doc pm an cdv ct) ⟨[v], []⟩ = pure [(("_law_script" : Str), v)])
    (a : PySem.W.nsIn K mainGlobals "law" = some (some (.ref f))) (l : K.lookup f = some ⟨oc, od, .func (PySem.W.fnOf "law" "law" (defArgs st) (defBody st) (defScope st) .none kV doc pm an cdv ct), osl⟩)
    (c : PySem.W.codeIn K cdv "law" = true) (k : PySem.W.keepIn K (.ref f) = true) : LawFn K mg fa st := by
  have e := hfa.symm.trans (PySem.W.mg_of X G a)
  cases e
  exact ⟨_, fun_mk (st := st) l c k, fun s v => .of_eq (hb _ _ _ _ _ _ v)⟩
theorem LawFn.ok {P : Program} {w : World} {K : PySem.W.Frag} {mg : Str → Option Value} {fa : Addr} {st : Stmt} {N : List Str} {k : Nat} (F : LawFn K mg fa st) (S : FnScope N ["_law_script"] (defScope st))
    (hbody : ∀ (base : Heap), K.In base → base.Ns mainGlobals mg → ∀ (cdv : Value) (A : Around) (outer : List Env) (s : Shared) (H : Hp) (vs : List V) (Q : VK) (E : XK), Room k (A.deeper (envOfC "law" (defScope st) s.heap.objs.size fa cdv)) → spLaw K vs H Q E →
      ∃ t, PSs (cxOf CX0 P w K mg base N "law" (defScope st) fa cdv A outer s H E).nox (defBody st) t ∧ t { nx := fun _ H' => Q .non H', rt := Q } (start N vs) H) :
    ∃ fd : FuncData, (∀ (s : Shared) (u : Value), BindsTo s fd ⟨[u], []⟩ [("_law_script", u)]) ∧ ∀ base : Heap, K.In base → base.Ns mainGlobals mg → FnOk P w K mg base CX0 (k + 1) fa fd ["_law_script"] (spLaw K) := by
  obtain ⟨fd, F, hb⟩ := F.ex
  refine ⟨fd, hb, fun base h1 h2 => F.ok S (fun vs H Q E h => ?_) (hbody base h1 h2)⟩
  obtain ⟨a, ns, rfl, _⟩ := h
  rfl
theorem walk {l : PySem.W.OpenLaw} {q : Program} {loose : List Str} {XP : (Str → Option Value) → Heap → Prop} {YP : World → Heap → Prop} {d : DefRec} {K : Params → PySem.W.Frag} {k : Nat} (hr : Room k callerA) (hn : l.most = some 63) (hdf : d.params.defaults = [])
    (hY : ∀ (w : World) (h : Heap), YP w h → (K w.params).In h)
    (F : ∀ (w : World) (mg : Str → Option Value) (fa : Addr) (h : Heap), (K w.params).In h → h.Ns mainGlobals mg → mg d.name = some (.ref fa) →
      ∃ fd : FuncData, (∀ (s : Shared) (u : Value), BindsTo s fd ⟨[u], []⟩ [("_law_script", u)]) ∧ ∀ base : Heap, (K w.params).In base → base.Ns mainGlobals mg → FnOk l.prog w (K w.params) mg base CX0 k fa fd ["_law_script"] (spLaw (K w.params))) :
    PySem.W.WalkO q loose XP YP l.row.toRowW d [] (fun f vs => PySem.call f vs) :=
  L2.walk_of (n := 63) (k := k) (x := "_law_script") (CX := fun _ => CX0) (sp := fun w => spLaw (K w.params)) hn (by decide) hdf hr hY F (fun _ _ a ns hl _ hS => ⟨a, ns, rfl, hS, hl, fun _ => rfl⟩) fun _ _ _ _ _ z => z
end LB
set_option Elab.async false
set_option linter.all false
set_option autoImplicit false
set_option maxRecDepth 100000
set_option maxHeartbeats 4000000
namespace LB
open PySem PySem.Spec PyProof.Rows L2
open C8 (pss_cut tCut)
theorem mkCode {K : PySem.W.Frag} {C l x dx : Addr} {H : Hp} {xs : List V} {rs : List Rw} {Q : VK} (hx : H x = none) (hdx : H dx = none) (hS : Seq K H l xs) (hR : RowsAt H xs rs) (ok : CodeOk rs)
    (k : ∀ H' p, Same H H' → CodeAt K C H' x p rs → Q .non H') : spCodeInit K C (.ref x :: ([.ref l] ++ [])) (upd (upd H dx (.own x)) x (.ins C dx [])) Q E0 := by
  have s2 : Same H (upd (upd H dx (.own x)) x (.ins C dx [])) := fun b o e => by
    rw [upd_ne (ne_of_none e hx), upd_ne (ne_of_none e hdx)]
    exact e
  refine ⟨x, dx, l, xs, rs, rfl, upd_same, hS.same s2, hR.same s2, ok, fun H2 p2 s3 hx2 hp2 => ?_⟩
  have s4 : Same H H2 := Same.made hx hdx s3
  exact k H2 p2 s4 ⟨dx, xs, hx2, hp2, hR.same s4⟩
theorem no_without : ¬ ("without" : Str) = "rows" := by decide +kernel
theorem codeOk_nil : CodeOk [] := ⟨by decide, fun i r h => by simp at h, fun i r n h => by simp at h⟩
theorem rowsL_nil {r : Rw} {rs : List Rw} : PyData.eqv (.list ((r :: rs).map rowD)) (.list []) = false := by
  rw [List.map_cons]
  simp [PyData.eqv, PyData.eqvAll]
theorem rowsL_nil0 : PyData.eqv (.list (([] : List Rw).map rowD)) (.list []) = true := by
  rw [List.map_nil]
  simp [PyData.eqv, PyData.eqvAll]
theorem shaped_nil : SeqAt.shaped (.list []) = true ∧ SeqAt.shaped (.tuple []) = true := by decide +kernel
section
variable {P : Program} {w : World} {K : PySem.W.Frag} {mg : Str → Option Value}
abbrev s_law : Stmt := top 33
theorem sc_law : FnScope ["_law_script", "_law_deal_here", "_law_turn", "_law_rows", "_law_code", "_law_at", "_law_less", "_law_left"] ["_law_script"] (defScope s_law) := ⟨rfl, rfl, rfl, by decide +kernel, rfl, by decide +kernel, by decide +kernel⟩
theorem ok_law {fa C : Addr} (F : LawFn K mg fa s_law) (T : Txt K mg) (cc : CodeCls K mg C) (C_Code : OwnCls K mg "Code" C) (nc : NeCls K C)
    (D_law_deal : ∀ base, DefOk P w K mg base 1 "_law_deal" ["_law_script", "_law_base"] (spDeal K)) (D_law_draw : ∀ base, DefOk P w K mg base 1 "_law_draw" ["_law_deal_here", "_law_many"] spDraw)
    (D_law_skipping : ∀ base, DefOk P w K mg base 6 "_law_skipping" ["_law_deal_here", "_law_many"] spSkipping) (D_law_left_out : ∀ base, DefOk P w K mg base 1 "_law_left_out" ["_law_rows", "_law_at"] (spLeftOut K))
    (D_Code_init : ∀ base, MethOk P w K mg base 5 C "__init__" ["self", "rows"] (spCodeInit K C)) (D_Code_without : ∀ base, MethOk P w K mg base 7 C "without" ["self", "at"] (spCodeWithout K C))
    (D_Code_len : ∀ base, MethOk P w K mg base 1 C "__len__" ["self"] (spCodeLen K C)) (D_Code_eq : ∀ base, MethOk P w K mg base 1 C "__eq__" ["self", "other"] (spCodeEq K C)) :
    ∃ fd : FuncData, (∀ (s : Shared) (u : Value), BindsTo s fd ⟨[u], []⟩ [("_law_script", u)]) ∧ ∀ base : Heap, K.In base → base.Ns mainGlobals mg → FnOk P w K mg base CX0 13 fa fd ["_law_script"] (spLaw K) := by
  refine F.ok sc_law (fun base _ _ cdv A outer s H vs Q E hr h => ?_)
  replace D_law_deal := D_law_deal base
  replace D_law_draw := D_law_draw base
  replace D_law_skipping := D_law_skipping base
  replace D_law_left_out := D_law_left_out base
  replace D_Code_init := D_Code_init base
  replace D_Code_without := D_Code_without base
  replace D_Code_len := D_Code_len base
  replace D_Code_eq := D_Code_eq base
  obtain ⟨a, ns, rfl, hS, hlen, k⟩ := h
  refine ⟨_, (pss_cons (ps_set (i := 1) sc_law.nd rfl (.inl rfl) (pe_fn D_law_deal (hr.mono (by decide)) rfl (pa_cons (pv 0) (pa_cons pe_int pa_nil))))
    (pss_cut (ps_for PassesOwn.never rfl (pi_range1 (by rfl) T.b_range (pa_cons (pe_op op_add pe_int (pe_callB call_len_seq (by rfl) T.b_len (by decide +kernel) (pa_cons (pe_slice sl_list (pv 0) po_none (po_some pe_int)) pa_nil))) pa_nil)) (pg_name (i := 2) sc_law.nd rfl (.inl rfl))
    (pss_cons (ps_set (i := 3) sc_law.nd rfl (.inl rfl) (pe_fn D_law_skipping (hr.mono (by decide)) rfl (pa_cons (pv 1) (pa_cons (pe_op op_add pe_int (pe_fn D_law_draw (hr.mono (by decide)) rfl (pa_cons (pv 1) (pa_cons pe_int pa_nil)))) pa_nil))))
    (pss_cons (ps_set (i := 4) sc_law.nd rfl (.inl rfl) (pe_mk C_Code D_Code_init (hr.mono (by decide)) rfl (pa_cons (pv 3) pa_nil)))
    (pss_cut (ps_for PassesOwn.never rfl (pi_range1 (by rfl) T.b_range (pa_cons (pe_callB call_len_seq (by rfl) T.b_len (by decide +kernel) (pa_cons (pv 3) pa_nil)) pa_nil)) (pg_name (i := 5) sc_law.nd rfl (.inl rfl))
    (pss_cons (ps_set (i := 6) sc_law.nd rfl (.inl rfl) (pe_mth C_Code.cl D_Code_without (hr.mono (by decide)) (pv 4) (pa_cons (pv 5) pa_nil)))
    (pss_cons (ps_if (PW.pt (pw_or (pt_cmpR (op_neD hr.units) (pe_fld (pv 6) rfl) (pe_callTy call_tuple_of (by rfl) T.b_tuple (by decide +kernel) (pa_cons (pe_fn D_law_left_out (hr.mono (by decide)) rfl (pa_cons (pv 3) (pa_cons (pv 5) pa_nil))) pa_nil)) (nomark _)) (pw_or (pt_cmpR op_ne (pe_callB (call_lenC D_Code_len (hr.mono (by decide))) (by rfl) T.b_len (by decide +kernel) (pa_cons (pv 6) pa_nil)) (pe_op op_sub (pe_callB call_len_seq (by rfl) T.b_len (by decide +kernel) (pa_cons (pv 3) pa_nil)) pe_int) (nomark _)) (pw_or1 (pt_cmpR (op_neD hr.units) (pe_fld (pv 4) rfl) (pe_callTy call_tuple_of (by rfl) T.b_tuple (by decide +kernel) (pa_cons (pv 3) pa_nil)) (nomark _)))))) (pss_one (ps_ret pe_bl)) pss_nil)
    (pss_one (ps_if (pt_cmpR (op_neC nc D_Code_eq (hr.mono (by decide))) (pv 6) (pe_mk C_Code D_Code_init (hr.mono (by decide)) rfl (pa_cons (pe_fn D_law_left_out (hr.mono (by decide)) rfl (pa_cons (pv 3) (pa_cons (pv 5) pa_nil))) pa_nil)) (nomark _)) (pss_one (ps_ret pe_bl)) pss_nil)))))
    (pss_cons (ps_set (i := 7) sc_law.nd rfl (.inl rfl) (pe_callTy call_list_of (by rfl) T.b_list (by decide +kernel) (pa_cons (pv 3) pa_nil)))
    (pss_one (ps_while PassesOwn.never (pt_cmpR (op_neD hr.units) (pv 7) (pe_lst pa_nil) (nomark _)) (pss_cons (ps_set (i := 5) sc_law.nd rfl (.inl rfl) (pe_fn D_law_draw (hr.mono (by decide)) rfl (pa_cons (pv 1) (pa_cons (pe_callB call_len_seq (by rfl) T.b_len (by decide +kernel) (pa_cons (pv 7) pa_nil)) pa_nil))))
    (pss_cons (ps_par (i := 4) (j := 7) (by rfl) sc_law.nd rfl rfl (by decide) rfl rfl (pa_cons (pe_mth C_Code.cl D_Code_without (hr.mono (by decide)) (pv 4) (pa_cons (pv 5) pa_nil)) (pa_cons (pe_fn D_law_left_out (hr.mono (by decide)) rfl (pa_cons (pv 7) (pa_cons (pv 5) pa_nil))) pa_nil)) (by rfl))
    (pss_one (ps_if (PW.pt (pw_or (pt_cmpR (op_neD hr.units) (pe_fld (pv 4) rfl) (pe_callTy call_tuple_of (by rfl) T.b_tuple (by decide +kernel) (pa_cons (pv 7) pa_nil)) (nomark _)) (pw_or1 (pt_cmpR (op_neC nc D_Code_eq (hr.mono (by decide))) (pe_mk C_Code D_Code_init (hr.mono (by decide)) rfl (pa_cons (pe_fld (pv 4) rfl) pa_nil)) (pv 4) (nomark _))))) (pss_one (ps_ret pe_bl)) pss_nil)))))))))))
    (pss_one (ps_ret (pe_and (pe_cmpR op_eq (pe_callB (call_lenC D_Code_len (hr.mono (by decide))) (by rfl) T.b_len (by decide +kernel) (pa_cons (pe_mk C_Code D_Code_init (hr.mono (by decide)) rfl (pa_cons (pe_lst pa_nil) pa_nil)) pa_nil)) pe_int (nomark _)) (pe_one (pe_cmpR (op_eqD hr.units) (pe_fld (pe_mk C_Code D_Code_init (hr.mono (by decide)) rfl (pa_cons (pe_tup pa_nil) pa_nil)) rfl) (pe_tup pa_nil) (nomark _)))))))), ?_⟩
  refine ⟨_, rfl, a, ns, 0, rfl, hS, hlen, by decide, by decide, fun d l H1 hd0 hl0 D1 s1 => ?_⟩
  refine ⟨fun σ H' => ∃ v2 v3 v4 v5 v6 v7, σ = [some (.ref a), some (.ref d), v2, v3, v4, v5, v6, v7] ∧ Deal d l H', ?_, ?_⟩
  · refine ⟨_, rfl, _, rfl, a, _, rfl, s1.seq hS, fun p hp => ?_⟩
    have hcl := Nat.le_trans (cutV_length (ns.map V.int) none (some 2)) (by rw [List.length_map]; exact hlen)
    refine ⟨p, _, rfl, .inl (SqL.of upd_same), _, _, rfl, rfl, _, rfl, by omega, by omega, ?_⟩
    have D2 := D1.new (o := .lst (cutV (ns.map V.int) none (some 2))) hp
    generalize upd H1 p (.lst (cutV (ns.map V.int) none (some 2))) = H2 at D2
    refine for_range (lo := 0) (fun i σ H' => ∃ v2 v3 v4 v5 v6 v7, σ = [some (.ref a), some (.ref d), v2, v3, v4, v5, v6, v7] ∧ Deal d l H') ⟨_, _, _, _, _, _, rfl, D2⟩ ?_ (fun σ H' h => h)
    rintro i σ H3 hi ⟨v2, v3, v4, v5, v6, v7, rfl, D3⟩
    refine ⟨_, rfl, _, rfl, d, l, 14, rfl, D3, by decide, by decide, fun r4 H4 a0 a1 D4 K4 => ?_⟩
    refine ⟨_, _, rfl, rfl, d, l, (1 + r4).toNat, congrArg (fun z => [V.ref d, V.int z]) (Int.toNat_of_nonneg (by omega)).symm, D4, by omega, fun rs H5 D ys hrl hdr D5 K5 hD4 hDD hY => ?_⟩
    have ok : CodeOk rs := hdr.code (by decide) (by omega)
    have nD := D4.fresh hD4
    refine ⟨_, rfl, ?_⟩
    intro c dxc hc5 hdc5 _
    refine mkCode hc5 hdc5 (.inl (SqL.of hDD)) hY ok fun H6 p6 s6 hC6 => ⟨rfl, ?_⟩
    have D6 := D5.same s6
    have hDD6 := s6 _ _ hDD
    have hY6 := hY.same s6
    refine ⟨fun σ H' => ∃ v5 v6, σ = [some (.ref a), some (.ref d), some (.int (0 + i)), some (.ref D), some (.ref c), v5, v6, v7] ∧ Same H6 H', ?_, ?_⟩
    · refine ⟨_, rfl, D, _, rfl, .inl (SqL.of hDD6), _, rfl, by omega, by rw [hY.len]; omega, ?_⟩
      rw [Int.toNat_natCast]
      refine for_range (lo := 0) (n := ys.length) (fun j σ H' => ∃ v5 v6, σ = [some (.ref a), some (.ref d), some (.int (0 + i)), some (.ref D), some (.ref c), v5, v6, v7] ∧ Same H6 H') ⟨_, _, rfl, Same.refl _⟩ ?_ (fun σ H' h => h)
      rintro j σ H7 hj ⟨w5, w6, rfl, s7⟩
      have hjr : j < rs.length := by rw [← hY.len]; exact hj
      have hC7 := hC6.same s7
      obtain ⟨dx, xs, c1, c2, c3⟩ := id hC7
      have ej : ([V.ref c, V.int (0 + (j : Int))] : List V) = [V.ref c, V.int (j : Nat)] := by rw [Int.zero_add]
      have ej2 : ([V.ref D, V.int (0 + (j : Int))] : List V) = [V.ref D, V.int (j : Nat)] := by rw [Int.zero_add]
      refine ⟨_, rfl, c, dx, _, rfl, c1, codeF_no _ no_without, _, rfl, c, p6, j, rs, ej, hC7, ok, hjr, fun H8 c8 p8 s8 hc8 hC8 => ?_⟩
      have ok8 := without_ok ok hjr
      have s78 := s7.trans s8
      obtain ⟨dx8, xs8, e1, e2, e3⟩ := id hC8
      refine ⟨_, rfl, c8, C, dx8, _, _, rfl, e1, cc.own.cl, cc.nR, codeF_rows p8, ?_⟩
      refine ⟨_, rfl, _, rfl, D, j, ys, rs, ej2, SqL.of (s78 _ _ hDD6), hY6.same s78, ok.rows, ok.few, fun H9 D9 ys9 s9 hD9 hDD9 hY9 => ?_⟩
      refine ⟨D9, ys9, rfl, .inl ⟨SqL.of hDD9, fun q hq => ?_⟩⟩
      have s10 := s9.trans (same_new (o := .tup ys9) hq)
      refine ⟨rowsD _, rowsD _, .tup (sqT_same s10 e2) (dp_rows (e3.same s10)), .tup (SqT.of upd_same) (dp_rows (hY9.same (same_new hq))), rowsD_shaped ok8.words, rowsD_shaped ok8.words, _, rfl, ?_⟩
      refine ifF (by rw [rowsD_refl ok8.words]; rfl) ?_
      generalize upd H9 q (.tup ys9) = H10 at s10
      have lw : (withoutRow rs j).length = rs.length - 1 := by
        unfold withoutRow
        rw [wo_len _ (Nat.le_refl _), if_pos hjr]
      have s610 := s78.trans s10
      refine ⟨_, rfl, c8, dx8, _, rfl, s10 _ _ e1, c8, p8, _, rfl, hC8.same s10, _, rfl, by omega, by rw [lw]; have := ok.few; omega, ?_⟩
      refine ⟨_, rfl, D, _, rfl, .inl (SqL.of (s610 _ _ hDD6)), _, _, rfl, rfl, rfl, _, rfl, ?_⟩
      refine ifF (by
        rw [decide_eq_true (show V.int (((withoutRow rs j).length : Nat) : Int) = V.int ((ys.length : Nat) - 1) by rw [lw, hY.len]; congr 1; omega)]
        rfl) ?_
      have hC10 := hC6.same s610
      obtain ⟨dx10, xs10, f1, f2, f3⟩ := id hC10
      refine ⟨_, rfl, c, C, dx10, _, _, rfl, f1, cc.own.cl, cc.nR, codeF_rows p6, ?_⟩
      refine ⟨_, rfl, D, ys, rfl, .inl ⟨SqL.of (s610 _ _ hDD6), fun q2 hq2 => ?_⟩⟩
      have t11 := same_new (o := .tup ys) hq2
      refine ⟨rowsD _, rowsD _, .tup (sqT_same t11 f2) (dp_rows (f3.same t11)), .tup (SqT.of upd_same) (dp_rows ((hY6.same s610).same t11)), rowsD_shaped ok.words, rowsD_shaped ok.words, _, rfl, ?_⟩
      refine ifF (by rw [rowsD_refl ok.words]; rfl) ?_
      have s611 := s610.trans t11
      have s811 := s10.trans t11
      generalize upd H10 q2 (.tup ys) = H11 at s611 s811
      refine ⟨_, rfl, ?_⟩
      refine ⟨_, rfl, _, rfl, D, j, ys, rs, ej2, SqL.of (s611 _ _ hDD6), hY6.same s611, ok.rows, ok.few, fun H12 D12 ys12 s12 hD12 hDD12 hY12 => ?_⟩
      intro x dxx hx hdx _
      refine mkCode hx hdx (.inl (SqL.of hDD12)) hY12 ok8 fun H13 p13 s13 hC13 => ⟨rfl, ?_⟩
      have hC813 := hC8.same ((s811.trans s12).trans s13)
      obtain ⟨dA, xA, gA, _, _⟩ := id hC813
      obtain ⟨dB, xB, gB, _, _⟩ := id hC13
      refine ⟨c8, x, dA, dB, _, _, rfl, rfl, gA, gB, c8, p8, x, p13, _, _, rfl, hC813, hC13, ok8.words, ok8.words, _, rfl, _, rfl, ?_⟩
      refine ifF (by rw [rowsD_refl ok8.words]; rfl) ?_
      exact ⟨_, _, rfl, (s611.trans s12).trans s13⟩
    · rintro σ H7 ⟨w5, w6, rfl, s7⟩
      have hDD7 := s7 _ _ hDD6
      refine ⟨_, rfl, D, ys, rfl, .inl (SqL.of hDD7), fun L hL => ?_⟩
      have t8 := same_new (o := .lst ys) hL
      have D8 := (D6.same s7).same t8
      have nL := (D6.same s7).fresh hL
      have hC8 := (hC6.same s7).same t8
      have hY8 := (hY6.same s7).same t8
      have hL8 : upd H7 L (.lst ys) L = some (.lst ys) := upd_same
      generalize upd H7 L (.lst ys) = H8 at t8 D8 hC8 hY8 hL8
      refine ⟨fun m σ H' => ∃ rs' c' p' L' ys' v5 v6, σ = [some (.ref a), some (.ref d), some (.int (0 + i)), some (.ref D), some (.ref c'), v5, v6, some (.ref L')] ∧ rs'.length = m ∧ CodeOk rs' ∧ CodeAt K C H' c' p' rs' ∧ H' L' = some (.lst ys') ∧ RowsAt H' ys' rs' ∧ Deal d l H' ∧ L' ≠ d ∧ L' ≠ l,
        ⟨_, rs, c, p6, L, ys, _, _, rfl, rfl, ok, hC8, hL8, hY8, D8, nL.1, nL.2⟩, ?_⟩
      rintro m σ H9 ⟨rs', c', p', L', ys', x5, x6, rfl, hm, ok', hC9, hL9, hY9, D9, nd9, nl9⟩
      refine ⟨_, rfl, Nat.zero_le _, fun e he => ?_⟩
      have t10 := same_new (o := .lst []) he
      refine ⟨.list (rs'.map rowD), .list [], .lst (SqL.of (t10 _ _ hL9)) (dp_rows (hY9.same t10)), .lst (SqL.of upd_same) .nil, rowsDL_shaped ok'.words, shaped_nil.1, _, rfl, ?_⟩
      have D10 := D9.same t10
      have hC10 := hC9.same t10
      have hL10 := t10 _ _ hL9
      have hY10 := hY9.same t10
      generalize upd H9 e (.lst []) = H10 at t10 D10 hC10 hL10 hY10
      cases rs' with
      | nil =>
        rw [rowsL_nil0]
        exact ⟨_, _, _, _, _, _, rfl, D10⟩
      | cons r0 rt =>
        rw [rowsL_nil]
        refine ⟨_, fun _ _ h => h, ?_⟩
        have hyl := hY9.len
        rw [List.length_cons] at hyl
        refine ⟨_, rfl, _, rfl, L', ys', rfl, .inl (SqL.of hL10), d, l, _, rfl, D10, by omega, (by rw [hyl]; have := ok'.few; rw [List.length_cons] at this; omega), fun r11 H11 b0 b1 D11 K11 => ?_⟩
        obtain ⟨n11, rfl⟩ : ∃ n : Nat, r11 = n := ⟨r11.toNat, by omega⟩
        have hlt : n11 < (r0 :: rt).length := by rw [List.length_cons]; omega
        have hC11 := hC10.keep K11 D10
        have hL11 := K11 _ _ hL10 nd9 nl9
        have hY11 := hY10.keep K11 D10
        obtain ⟨dx11, xs11, c1, c2, c3⟩ := id hC11
        refine ⟨_, rfl, c', dx11, _, rfl, c1, codeF_no _ no_without, _, rfl, c', p', n11, _, rfl, hC11, ok', hlt, fun H12 c12 p12 s12 hc12 hC12 => ?_⟩
        refine ⟨_, rfl, _, rfl, L', n11, ys', _, rfl, SqL.of (s12 _ _ hL11), hY11.same s12, ok'.rows, ok'.few, fun H13 D13 ys13 s13 hD13 hDD13 hY13 => ?_⟩
        refine ⟨_, _, rfl, ?_⟩
        have ok13 := without_ok ok' hlt
        have hC13 := hC12.same s13
        have D13' := (D11.same s12).same s13
        have nD13 := (D11.same s12).fresh hD13
        obtain ⟨dx13, xs13, e1, e2, e3⟩ := id hC13
        refine ⟨_, rfl, c12, C, dx13, _, _, rfl, e1, cc.own.cl, cc.nR, codeF_rows p12, ?_⟩
        refine ⟨_, rfl, D13, ys13, rfl, .inl ⟨SqL.of hDD13, fun q hq => ?_⟩⟩
        have t14 := same_new (o := .tup ys13) hq
        refine ⟨rowsD _, rowsD _, .tup (sqT_same t14 e2) (dp_rows (e3.same t14)), .tup (SqT.of upd_same) (dp_rows (hY13.same t14)), rowsD_shaped ok13.words, rowsD_shaped ok13.words, _, rfl, ?_⟩
        refine ifF (by rw [rowsD_refl ok13.words]; rfl) ?_
        generalize upd H13 q (.tup ys13) = H14 at t14
        refine ⟨_, rfl, c12, C, dx13, _, _, rfl, t14 _ _ e1, cc.own.cl, cc.nR, codeF_rows p12, ?_⟩
        intro x dxx hx hdx _
        refine mkCode hx hdx (.inr (sqT_same t14 e2)) (e3.same t14) ok13 fun H15 p15 s15 hC15 => ⟨rfl, ?_⟩
        have s1315 := t14.trans s15
        obtain ⟨dA, xA, gA, _, _⟩ := id hC15
        refine ⟨_, rfl, x, c12, dA, dx13, _, _, rfl, rfl, gA, s1315 _ _ e1, x, p15, c12, p12, _, _, rfl, hC15, hC13.same s1315, ok13.words, ok13.words, _, rfl, _, rfl, ?_⟩
        refine ifF (by rw [rowsD_refl ok13.words]; rfl) ?_
        refine ⟨(withoutRow (r0 :: rt) n11).length, ?_, _, c12, p12, D13, ys13, _, _, rfl, rfl, ok13, hC13.same s1315, s1315 _ _ hDD13, hY13.same s1315, D13'.same s1315, nD13.1, nD13.2⟩
        unfold withoutRow
        rw [wo_len _ (Nat.le_refl _), if_pos hlt, ← hm]
        omega
  · rintro σ H2 ⟨v2, v3, v4, v5, v6, v7, rfl, D2⟩
    refine ⟨Nat.zero_le _, fun p hp => ?_⟩
    intro x dxx hx hdx _
    refine mkCode hx hdx (.inl (SqL.of upd_same)) RowsAt.nil codeOk_nil fun H3 p3 s3 hC3 => ⟨rfl, ?_⟩
    obtain ⟨dA, xA, gA, _, _⟩ := id hC3
    refine ⟨x, dA, _, rfl, gA, x, p3, [], rfl, hC3, _, rfl, by decide, by decide, rfl, _, rfl, ?_⟩
    refine ⟨Nat.zero_le _, fun q hq => ?_⟩
    intro y dyy hy hdy _
    refine mkCode hy hdy (.inr (SqT.of upd_same)) RowsAt.nil codeOk_nil fun H4 p4 s4 hC4 => ⟨rfl, ?_⟩
    obtain ⟨dB, xB, gB, gp, gr⟩ := id hC4
    refine ⟨y, C, dB, _, _, rfl, gB, cc.own.cl, cc.nR, codeF_rows p4, Nat.zero_le _, fun e he => ?_⟩
    have t5 := same_new (o := .tup []) he
    refine ⟨.tuple [], .tuple [], .tup (sqT_same t5 gp) (dp_rows (gr.same t5)), .tup (SqT.of upd_same) .nil, shaped_nil.2, shaped_nil.2, ?_⟩
    exact k _
end
end LB
set_option Elab.async false
set_option linter.all false
set_option autoImplicit false
set_option maxRecDepth 100000
set_option maxHeartbeats 4000000
namespace LB
open PySem PySem.Spec PyProof.Rows L2
/-! ### what the top has written -/
def FormIn (K : PySem.W.Frag) (d : Addr) (z : Str) (fs : List Str) : Prop := ∃ t, PySem.W.nsIn K d z = some (some (.ref t)) ∧ ∀ H, SqT K H t (fs.map V.str)
theorem form_mk {K : PySem.W.Frag} {d t : Addr} {z : Str} {fs : List Str} {od : Option Addr} {its : Array Value} {n : Nat} {sl : Array (Option Value)} (g : PySem.W.nsIn K d z = some (some (.ref t)))
    (l : K.lookup t = some ⟨.type "tuple", od, .seq its n, sl⟩) (hz : its.size ≤ sizeLine) (v : Vals (fs.map V.str) its.toList) : FormIn K d z fs :=
  ⟨t, g, fun H => .inr ⟨_, its, n, l, rfl, rfl, hz, v⟩⟩
theorem forms_mk {K : PySem.W.Frag} {w : World} {mg : Str → Option Value} {h : Heap} {d : Addr} {es : Array DictEntry} {n : Nat} (X : K.In h) (G : h.Ns mainGlobals mg) (a : PySem.W.nsIn K mainGlobals "FORMS" = some (some (.ref d)))
    (l : K.lookup d = some ⟨.type "dict", none, .dict es n, #[]⟩) (lit : PySem.W.KeysLit w.params es.toList) (low : (d == sysModules) = false)
    (h1 : FormIn K d "set" ["register", "number"]) (h2 : FormIn K d "copy" ["register", "register"]) (h3 : FormIn K d "add" ["register", "register", "register"]) (h4 : FormIn K d "sub" ["register", "register", "register"]) (h5 : FormIn K d "mul" ["register", "register", "register"])
    (h6 : FormIn K d "left" ["register", "register"]) (h7 : FormIn K d "right" ["register", "register"]) (h8 : FormIn K d "load" ["register", "slot"]) (h9 : FormIn K d "store" ["slot", "register"]) (h10 : FormIn K d "skip" ["register", "modulus", "rest", "count"]) :
    ∃ d es n, FormsAt K w mg d es n := by
  refine ⟨d, es, n, PySem.W.mg_of X G a, ⟨l, lit, low⟩, fun p hp => ?_⟩
  simp only [forms, List.mem_cons, List.not_mem_nil, or_false] at hp
  rcases hp with rfl | rfl | rfl | rfl | rfl | rfl | rfl | rfl | rfl | rfl
  · exact h1
  · exact h2
  · exact h3
  · exact h4
  · exact h5
  · exact h6
  · exact h7
  · exact h8
  · exact h9
  · exact h10
theorem nsOk_of {K : PySem.W.Frag} {N : Addr} {c : Value} {od : Option Addr} {es : Array DictEntry} {n : Nat} {sl : Array (Option Value)} (l : K.lookup N = some ⟨c, od, .dict es n, sl⟩) (h : (es.toList.all fun e => match e.key with | .str _ _ => true | _ => false) = true) : PySem.W.nsOkIn K N = true := by
  unfold PySem.W.nsOkIn
  rw [l]
  rw [Array.all_toList] at h
  exact h
/-- the class Code with its methods -/
structure CodeTxt (K : PySem.W.Frag) (mg : Str → Option Value) (C : Addr) : Prop where
  cc : CodeCls K mg C
  nc : NeCls K C
  ic : IsiCls K C
  init : TopMeth K C "__init__" "Code.__init__" s_Code_init ["self", "rows"]
  without : TopMeth K C "without" "Code.without" s_Code_without ["self", "at"]
  len : TopMeth K C "__len__" "Code.__len__" s_Code_len ["self"]
  eq : TopMeth K C "__eq__" "Code.__eq__" s_Code_eq ["self", "other"]
theorem code_mk {K : PySem.W.Frag} {mg : Str → Option Value} {h : Heap} {C N f : Addr} {nm q : Str} {bs : List Value} {hdct : Bool} {sn : List Str} {sub : List Value} {ab : Bool} {col : Option Bool} {dd : Option Addr} {k0 k1 k2 k3 k5 : Option Value} {newId : String} {of : Obj} {cN : Value} {odN : Option Addr} {esN : Array DictEntry} {nN : Nat} {slN : Array (Option Value)}
    (X : K.In h) (G : h.Ns mainGlobals mg) (a : PySem.W.nsIn K mainGlobals "Code" = some (some (.ref C)))
    (pg : PySem.W.plainGet K C Str.empty = true) (hd : PySem.W.hasDictIn K C = true) (po : PySem.W.plainOver K C = true) (sa : PySem.W.findIn K (.ref C) "__setattr__" = some (some (.builtin "object.__setattr__"))) (mk : PySem.W.makesIn K C = true) (kc : PySem.W.keepIn K (.ref C) = true)
    (nR : PySem.W.findIn K (.ref C) "rows" = some none)
    (lC : K.lookup C = some (excClassObj nm q C N bs [.type "object"] hdct sn sub ab col dd k0 k1 k2 k3 k5 newId)) (lN : K.lookup N = some ⟨cN, odN, .dict esN nN, slN⟩) (nk : (esN.toList.all fun e => match e.key with | .str _ _ => true | _ => false) = true) (ne : PySem.W.nsIn K N "__eq__" = some (some (.ref f))) (nn : PySem.W.nsIn K N "__ne__" = some none)
    (fe : PySem.W.findIn K (.ref C) "__eq__" = some (some (.ref f))) (lf : K.lookup f = some of) (cf : of.cls = .type "function")
    (ha : PySem.W.findIn K (.ref C) "__class__" = some (some (.builtin "object.__class__"))) (hn : PySem.W.specialIn K (.builtin "object.__class__") "__get__" = some (some (.builtin "getset_descriptor.__get__")))
    (htk : PySem.W.takesIn K (.builtin "object.__class__") = some true) (hm : PySem.W.mroIn K C (.type "object") = some true) (me : PySem.W.kitOne K (.ref C) (.ref C) = some true)
    (m1 : TopMeth K C "__init__" "Code.__init__" s_Code_init ["self", "rows"]) (m2 : TopMeth K C "without" "Code.without" s_Code_without ["self", "at"])
    (m3 : TopMeth K C "__len__" "Code.__len__" s_Code_len ["self"]) (m4 : TopMeth K C "__eq__" "Code.__eq__" s_Code_eq ["self", "other"]) : ∃ C, CodeTxt K mg C :=
  ⟨C, ⟨⟨PySem.W.mg_of X G a, ⟨pg, hd, po, sa⟩, mk, kc⟩, nR⟩, ⟨_, _, _, _, _, _, _, _, _, _, _, _, _, _, _, _, _, _, lC, nsOk_of lN nk, ne, nn, fe, lf, cf⟩, ⟨ha, hn, htk, hm, me⟩, m1, m2, m3, m4⟩
theorem all_mk {P : Program} {w : World} {K : PySem.W.Frag} {mg : Str → Option Value} {fa : Addr} (L : LawFn K mg fa s_law) (T : TxtR K mg) (FE : ∃ d es n, FormsAt K w mg d es n) (CE : ∃ C, CodeTxt K mg C)
    (t_is_integer : TopFn K mg "is_integer" s_is_integer ["value"]) (t_is_modulus : TopFn K mg "is_modulus" s_is_modulus ["number"]) (t_is_within : TopFn K mg "is_within" s_is_within ["form", "number"]) (t_is_row : TopFn K mg "is_row" s_is_row ["row"]) (t_without_row : TopFn K mg "without_row" s_without_row ["rows", "at"]) (t_check_rows : TopFn K mg "check_rows" s_check_rows ["rows"]) (t_law_deal : TopFn K mg "_law_deal" s_law_deal ["_law_script", "_law_base"]) (t_law_draw : TopFn K mg "_law_draw" s_law_draw ["_law_deal_here", "_law_many"]) (t_law_number : TopFn K mg "_law_number" s_law_number ["_law_deal_here"]) (t_law_row : TopFn K mg "_law_row" s_law_row ["_law_deal_here", "_law_registers", "_law_left"]) (t_law_left_out : TopFn K mg "_law_left_out" s_law_left_out ["_law_rows", "_law_at"]) (t_law_far_row : TopFn K mg "_law_far_row" s_law_far_row ["_law_deal_here", "_law_registers", "_law_left"]) (t_law_far_rows : TopFn K mg "_law_far_rows" s_law_far_rows ["_law_deal_here", "_law_registers", "_law_many"]) (t_law_skipping : TopFn K mg "_law_skipping" s_law_skipping ["_law_deal_here", "_law_many"]) :
    ∃ fd : FuncData, (∀ (s : Shared) (u : Value), BindsTo s fd ⟨[u], []⟩ [("_law_script", u)]) ∧ ∀ base : Heap, K.In base → base.Ns mainGlobals mg → FnOk P w K mg base CX0 13 fa fd ["_law_script"] (spLaw K) := by
  obtain ⟨d, es, n, FA⟩ := FE
  obtain ⟨C, CT⟩ := CE
  have D1 := fun base => ok_is_integer (P := P) (w := w) (base := base) t_is_integer T
  have D2 := fun base => ok_is_modulus (P := P) (w := w) (base := base) t_is_modulus T
  have D3 := fun base => ok_is_within (P := P) (w := w) (base := base) t_is_within T (D2 base)
  have D4 := fun base => ok_is_row (P := P) (w := w) (base := base) t_is_row T FA (D1 base) (D3 base)
  have D5 := fun base => ok_check_rows (P := P) (w := w) (base := base) t_check_rows T (D4 base)
  have D6 := fun base => ok_Code_init (P := P) (w := w) (base := base) CT.init T CT.cc (D5 base)
  have D7 := fun base => ok_without_row (P := P) (w := w) (base := base) t_without_row T
  have D8 := fun base => ok_Code_without (P := P) (w := w) (base := base) CT.without CT.cc CT.cc.own (D6 base) (D7 base)
  have D9 := fun base => ok_Code_len (P := P) (w := w) (mg := mg) (base := base) CT.len T CT.cc
  have D10 := fun base => ok_Code_eq (P := P) (w := w) (mg := mg) (base := base) CT.eq T CT.cc CT.ic
  have E1 := fun base => ok_law_deal (P := P) (w := w) (base := base) t_law_deal T.toTxt
  have E2 := fun base => ok_law_draw (P := P) (w := w) (base := base) t_law_draw T.toTxt
  have E3 := fun base => ok_law_number (P := P) (w := w) (base := base) t_law_number (E2 base)
  have E4 := fun base => ok_law_row (P := P) (w := w) (base := base) t_law_row T.toTxt (E2 base) (E3 base)
  have E5 := fun base => ok_law_far_row (P := P) (w := w) (base := base) t_law_far_row (E2 base) (E4 base)
  have E6 := fun base => ok_law_far_rows (P := P) (w := w) (base := base) t_law_far_rows T.toTxt (E5 base)
  have E7 := fun base => ok_law_skipping (P := P) (w := w) (base := base) t_law_skipping T.toTxt (E2 base) (E6 base)
  have E8 := fun base => ok_law_left_out (P := P) (w := w) (base := base) t_law_left_out T.toTxt
  exact ok_law L T.toTxt CT.cc CT.cc.own CT.nc E1 E2 E7 E8 D6 D8 D9 D10
end LB
set_option Elab.async false
set_option maxRecDepth 100000
open PySem PySem.W PyProof.Rows
set_option maxHeartbeats 0
open_top head for PySem.Challenge.rw_lowsure_k54_code_without_rows
set_option Elab.async false
set_option linter.all false
set_option maxRecDepth 100000
open PySem PySem.W PyProof.Rows in
set_option maxRecDepth 100000 in
set_option maxHeartbeats 0 in
theorem PySem.Challenge.cw_lowsure_k54_code_without_rows_holds : PySem.Challenge.rw_lowsure_k54_code_without_rows.Holds :=
  head (by
    k_fill
    refine LB.walk (l := PySem.Challenge.rw_lowsure_k54_code_without_rows) (k := 13) ⟨rfl, by decide, by decide⟩ rfl rfl (fun w h Y => PySem.W.kIn_of Y) ?F
    case F =>
      intro w mg fa h KX G hmg
      refine' LB.all_mk ?L ⟨?T, ?c1, ?c2, ?c3, ?c4, ?c5⟩ ?FE ?CE ?d0 ?d1 ?d2 ?d3 ?d4 ?d5 ?d6 ?d7 ?d8 ?d9 ?d10 ?d11 ?d12 ?d13
      case L =>
        refine' LB.lawFn_mk KX G hmg (fun _ _ _ _ _ _ _ => rfl) ?a ?l ?c ?k
        (case a => k_is)
        (case l => k_is)
        (case c => k_is)
        (case k => k_is)
      case T =>
        exact ⟨PySem.W.mg_none_of KX G (by k_is), PySem.W.mg_none_of KX G (by k_is), PySem.W.mg_none_of KX G (by k_is), PySem.W.mg_none_of KX G (by k_is), PySem.W.mg_none_of KX G (by k_is), PySem.W.mg_none_of KX G (by k_is), PySem.W.mg_none_of KX G (by k_is), PySem.W.mg_none_of KX G (by k_is), PySem.W.mg_none_of KX G (by k_is), PySem.W.mg_none_of KX G (by k_is), PySem.W.mg_none_of KX G (by k_is), PySem.W.mg_none_of KX G (by k_is), PySem.W.mg_none_of KX G (by k_is), PySem.W.mg_none_of KX G (by k_is), PySem.W.mg_none_of KX G (by k_is), PySem.W.mg_none_of KX G (by k_is), PySem.W.mg_none_of KX G (by k_is), PySem.W.mg_none_of KX G (by k_is), PySem.W.mg_none_of KX G (by k_is), PySem.W.mg_none_of KX G (by k_is), PySem.W.mg_none_of KX G (by k_is), PySem.W.mg_none_of KX G (by k_is), PySem.W.mg_none_of KX G (by k_is), PySem.W.mg_none_of KX G (by k_is), PySem.W.mg_none_of KX G (by k_is)⟩
      case c1 =>
        exact ⟨_, PySem.W.mg_of KX G (by k_is)⟩
      case c2 =>
        exact ⟨_, PySem.W.mg_of KX G (by k_is)⟩
      case c3 =>
        exact ⟨_, PySem.W.mg_of KX G (by k_is)⟩
      case c4 =>
        exact ⟨_, PySem.W.mg_of KX G (by k_is)⟩
      case c5 =>
        exact ⟨_, PySem.W.mg_of KX G (by k_is)⟩
      case FE =>
        refine' LB.forms_mk KX G ?a ?l ?lit ?low ?h1 ?h2 ?h3 ?h4 ?h5 ?h6 ?h7 ?h8 ?h9 ?h10
        (case a => k_is)
        (case l => k_is)
        (case lit => repeat (first | exact trivial | refine ⟨⟨_, _, rfl, rfl⟩, ?_⟩))
        (case low => decide)
        case h1 =>
          refine' LB.form_mk ?g ?l ?z ?v
          (case g => k_is)
          (case l => k_is)
          (case z => decide)
          (case v => exact (.cons ⟨_, rfl⟩ (.cons ⟨_, rfl⟩ .nil)))
        case h2 =>
          refine' LB.form_mk ?g ?l ?z ?v
          (case g => k_is)
          (case l => k_is)
          (case z => decide)
          (case v => exact (.cons ⟨_, rfl⟩ (.cons ⟨_, rfl⟩ .nil)))
        case h3 =>
          refine' LB.form_mk ?g ?l ?z ?v
          (case g => k_is)
          (case l => k_is)
          (case z => decide)
          (case v => exact (.cons ⟨_, rfl⟩ (.cons ⟨_, rfl⟩ (.cons ⟨_, rfl⟩ .nil))))
        case h4 =>
          refine' LB.form_mk ?g ?l ?z ?v
          (case g => k_is)
          (case l => k_is)
          (case z => decide)
          (case v => exact (.cons ⟨_, rfl⟩ (.cons ⟨_, rfl⟩ (.cons ⟨_, rfl⟩ .nil))))
        case h5 =>
          refine' LB.form_mk ?g ?l ?z ?v
          (case g => k_is)
          (case l => k_is)
          (case z => decide)
          (case v => exact (.cons ⟨_, rfl⟩ (.cons ⟨_, rfl⟩ (.cons ⟨_, rfl⟩ .nil))))
        case h6 =>
          refine' LB.form_mk ?g ?l ?z ?v
          (case g => k_is)
          (case l => k_is)
          (case z => decide)
          (case v => exact (.cons ⟨_, rfl⟩ (.cons ⟨_, rfl⟩ .nil)))
        case h7 =>
          refine' LB.form_mk ?g ?l ?z ?v
          (case g => k_is)
          (case l => k_is)
          (case z => decide)
          (case v => exact (.cons ⟨_, rfl⟩ (.cons ⟨_, rfl⟩ .nil)))
        case h8 =>
          refine' LB.form_mk ?g ?l ?z ?v
          (case g => k_is)
          (case l => k_is)
          (case z => decide)
          (case v => exact (.cons ⟨_, rfl⟩ (.cons ⟨_, rfl⟩ .nil)))
        case h9 =>
          refine' LB.form_mk ?g ?l ?z ?v
          (case g => k_is)
          (case l => k_is)
          (case z => decide)
          (case v => exact (.cons ⟨_, rfl⟩ (.cons ⟨_, rfl⟩ .nil)))
        case h10 =>
          refine' LB.form_mk ?g ?l ?z ?v
          (case g => k_is)
          (case l => k_is)
          (case z => decide)
          (case v => exact (.cons ⟨_, rfl⟩ (.cons ⟨_, rfl⟩ (.cons ⟨_, rfl⟩ (.cons ⟨_, rfl⟩ .nil)))))
      case CE =>
        refine' LB.code_mk KX G ?a ?pg ?hd ?po ?sa ?mk ?kc ?nR ?lC ?lN ?nk ?ne ?nn ?fe ?lf ?cf ?ha ?hn ?htk ?hm ?me ?m0 ?m1 ?m2 ?m3
        (case a => k_is)
        (case pg => k_is)
        (case hd => k_is)
        (case po => k_is)
        (case sa => k_is)
        (case mk => k_is)
        (case kc => k_is)
        (case nR => k_is)
        (case lC => k_is)
        (case lN => k_is)
        (case nk => first | rfl | decide +kernel)
        (case ne => k_is)
        (case nn => k_is)
        (case fe => k_is)
        (case lf => k_is)
        (case cf => rfl)
        (case ha => k_is)
        (case hn => k_is)
        (case htk => k_is)
        (case hm => k_is)
        (case me => first | k_is | rfl)
        case m0 =>
          refine' LB.topMeth_mk (fun _ _ _ _ _ _ us hl => match us, hl with | [_, _], _ => rfl) ?a ?i ?l ?c ?k
          (case a => k_is)
          (case i => k_is)
          (case l => k_is)
          (case c => k_is)
          (case k => k_is)
        case m1 =>
          refine' LB.topMeth_mk (fun _ _ _ _ _ _ us hl => match us, hl with | [_, _], _ => rfl) ?a ?i ?l ?c ?k
          (case a => k_is)
          (case i => k_is)
          (case l => k_is)
          (case c => k_is)
          (case k => k_is)
        case m2 =>
          refine' LB.topMeth_mk (fun _ _ _ _ _ _ us hl => match us, hl with | [_], _ => rfl) ?a ?i ?l ?c ?k
          (case a => k_is)
          (case i => k_is)
          (case l => k_is)
          (case c => k_is)
          (case k => k_is)
        case m3 =>
          refine' LB.topMeth_mk (fun _ _ _ _ _ _ us hl => match us, hl with | [_, _], _ => rfl) ?a ?i ?l ?c ?k
          (case a => k_is)
          (case i => k_is)
          (case l => k_is)
          (case c => k_is)
          (case k => k_is)
      case d0 =>
        refine' LB.topFn_mk KX G (fun _ _ _ _ _ _ us hl => match us, hl with | [_], _ => rfl) ?a ?l ?c ?k
        (case a => k_is)
        (case l => k_is)
        (case c => k_is)
        (case k => k_is)
      case d1 =>
        refine' LB.topFn_mk KX G (fun _ _ _ _ _ _ us hl => match us, hl with | [_], _ => rfl) ?a ?l ?c ?k
        (case a => k_is)
        (case l => k_is)
        (case c => k_is)
        (case k => k_is)
      case d2 =>
        refine' LB.topFn_mk KX G (fun _ _ _ _ _ _ us hl => match us, hl with | [_, _], _ => rfl) ?a ?l ?c ?k
        (case a => k_is)
        (case l => k_is)
        (case c => k_is)
        (case k => k_is)
      case d3 =>
        refine' LB.topFn_mk KX G (fun _ _ _ _ _ _ us hl => match us, hl with | [_], _ => rfl) ?a ?l ?c ?k
        (case a => k_is)
        (case l => k_is)
        (case c => k_is)
        (case k => k_is)
      case d4 =>
        refine' LB.topFn_mk KX G (fun _ _ _ _ _ _ us hl => match us, hl with | [_, _], _ => rfl) ?a ?l ?c ?k
        (case a => k_is)
        (case l => k_is)
        (case c => k_is)
        (case k => k_is)
      case d5 =>
        refine' LB.topFn_mk KX G (fun _ _ _ _ _ _ us hl => match us, hl with | [_], _ => rfl) ?a ?l ?c ?k
        (case a => k_is)
        (case l => k_is)
        (case c => k_is)
        (case k => k_is)
      case d6 =>
        refine' LB.topFn_mk KX G (fun _ _ _ _ _ _ us hl => match us, hl with | [_, _], _ => rfl) ?a ?l ?c ?k
        (case a => k_is)
        (case l => k_is)
        (case c => k_is)
        (case k => k_is)
      case d7 =>
        refine' LB.topFn_mk KX G (fun _ _ _ _ _ _ us hl => match us, hl with | [_, _], _ => rfl) ?a ?l ?c ?k
        (case a => k_is)
        (case l => k_is)
        (case c => k_is)
        (case k => k_is)
      case d8 =>
        refine' LB.topFn_mk KX G (fun _ _ _ _ _ _ us hl => match us, hl with | [_], _ => rfl) ?a ?l ?c ?k
        (case a => k_is)
        (case l => k_is)
        (case c => k_is)
        (case k => k_is)
      case d9 =>
        refine' LB.topFn_mk KX G (fun _ _ _ _ _ _ us hl => match us, hl with | [_, _, _], _ => rfl) ?a ?l ?c ?k
        (case a => k_is)
        (case l => k_is)
        (case c => k_is)
        (case k => k_is)
      case d10 =>
        refine' LB.topFn_mk KX G (fun _ _ _ _ _ _ us hl => match us, hl with | [_, _], _ => rfl) ?a ?l ?c ?k
        (case a => k_is)
        (case l => k_is)
        (case c => k_is)
        (case k => k_is)
      case d11 =>
        refine' LB.topFn_mk KX G (fun _ _ _ _ _ _ us hl => match us, hl with | [_, _, _], _ => rfl) ?a ?l ?c ?k
        (case a => k_is)
        (case l => k_is)
        (case c => k_is)
        (case k => k_is)
      case d12 =>
        refine' LB.topFn_mk KX G (fun _ _ _ _ _ _ us hl => match us, hl with | [_, _, _], _ => rfl) ?a ?l ?c ?k
        (case a => k_is)
        (case l => k_is)
        (case c => k_is)
        (case k => k_is)
      case d13 =>
        refine' LB.topFn_mk KX G (fun _ _ _ _ _ _ us hl => match us, hl with | [_, _], _ => rfl) ?a ?l ?c ?k
        (case a => k_is)
        (case l => k_is)
        (case c => k_is)
        (case k => k_is))
#print axioms PySem.Challenge.cw_lowsure_k54_code_without_rows_holds
