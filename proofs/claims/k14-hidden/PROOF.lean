import PyProof.Rows.All
import Wide.All
import OpenK.AllK
import Wide.FinOn
import HandS.ForMost
import HandS.Codes
import HandS.Wide
import HandS.TupAny
import HandS.Style
import HandS.Zip
import HandS.IsInst
import HandS.SortInts
import HandS.Conv
import HandS.Walk
import HandS.More
import PySem.Challenge.RW_linesync_k14_whole_hidden_lengths
import HandS.Lambda
import HandS.Nested
import HandS.EndTab
import KE.KLam
import KE.KNestM
import HandS.TupSets
set_option Elab.async false
set_option linter.all false
set_option maxRecDepth 100000
set_option maxHeartbeats 4000000
namespace Ls
open PySem PySem.Spec PyProof.Rows L2 RZ
/-! ### sums, greatest and least of a tuple -/
section
variable {prog : Program} {w : World} {A : Around} {E : Value → Shared → Prop} {s : Shared} {l : Addr} {xs : Array (Int × Tok)}
theorem iter_intTup {Q : Value → Shared → Prop} (hl : s.heap.IsTuple l (intItems xs))
    (h : ∀ s₂ : Shared, s₂ = { s with heap := s.heap.push { cls := .type "tuple_iterator", data := .fields #[.ref l, .int 0 0] } } →
      (s₂.heap.IsTupleIter s.heap.objs.size l 0 ∧ s₂.heap.IsTuple l (intItems xs)) → (∀ b ∈ [s.heap.objs.size, l], b < s₂.heap.objs.size) → l ≠ s.heap.objs.size → Q (.ref s.heap.objs.size) s₂) :
    wpAny (model prog w) A (pyIter (.ref l)) Q E s := by
  have hlt : l < s.heap.objs.size := by obtain ⟨_, e, _⟩ := hl; exact Heap.lt_size e
  refine wpAny_pyIter_tuple hl (h _ rfl ⟨⟨_, Heap.get?_push_size _ rfl, rfl, rfl⟩, hl.push _⟩ (fun b hb => ?_) (Nat.ne_of_lt hlt))
  show b < (s.heap.push _).objs.size
  rw [Heap.size_push]
  rcases List.mem_cons.mp hb with rfl | hb
  · exact Nat.lt_succ_self _
  · rcases List.mem_cons.mp hb with rfl | hb
    · exact Nat.lt_succ_of_lt hlt
    · cases hb
theorem old_keptT {h' : Heap} (hk : ∀ b o, b ∉ [s.heap.objs.size] → (s.heap.push { cls := .type "tuple_iterator", data := .fields #[.ref l, .int 0 0] }).get? b = some o → h'.get? b = some o) :
    ∀ b o, s.heap.get? b = some o → h'.get? b = some o := fun b o e => by
  refine hk b o (fun hm => ?_) (Heap.get?_push_of_some _ e)
  rcases List.mem_cons.mp hm with e1 | hm
  · exact absurd (e1 ▸ Heap.lt_size e) (Nat.lt_irrefl _)
  · cases hm
theorem sum_intTup {Q : Value → Shared → Prop} (hh : A.handled = none) (hl : s.heap.IsTuple l (intItems xs))
    (h : ∀ h' tk t', (∀ b o, s.heap.get? b = some o → h'.get? b = some o) → Q (.int (preSum (numAt xs) xs.size) t') { s with heap := h', toks := tk }) :
    wpAny (model prog w) A (call (.builtin "sum") [.ref l]) Q E s := by
  refine call_sum_walkG (iter_intTup hl fun s₂ e st hfp hlI => ?_)
  subst e
  refine ⟨_, _, _, _, _, _, numAt xs, rfl, Walks.tuple (A := A.in1) hh _ l hlI (intItems xs), st, hfp, (fun _ _ => intItems_at), fun h' tk t' hk => ?_⟩
  have := h h' tk t' (old_keptT hk)
  simpa [intItems] using this
theorem max_intTup {Q : Value → Shared → Prop} (hh : A.handled = none) (hl : s.heap.IsTuple l (intItems xs)) (hne : 0 < xs.size)
    (h : ∀ v h' tk, (intItems xs)[argBest (fun i j => decide (numAt xs i > numAt xs j)) (xs.size - 1)]? = some v → (∀ b o, s.heap.get? b = some o → h'.get? b = some o) → Q v { s with heap := h', toks := tk }) :
    wpAny (model prog w) A (call (.builtin "max") [.ref l]) Q E s := by
  refine call_max_walk (iter_intTup hl fun s₂ e st hfp hlI => ?_)
  subst e
  refine ⟨_, _, _, _, _, _, _, rfl, Walks.tuple (A := A.in1) hh _ l hlI (intItems xs), st, hfp, by simpa [intItems] using hne, CmpOf.ints_gt (numAt xs) (fun _ _ => intItems_at), fun v h' tk hP hk => ?_⟩
  exact h v h' tk (by simpa [intItems] using hP) (old_keptT hk)
variable {its : List Value} {ns : List Int}
theorem sum_rawT {Q : Value → Shared → Prop} (hh : A.handled = none) (hl : s.heap.IsTuple l its.toArray) (hi : IntsAre its ns)
    (h : ∀ h' tk t', (∀ b o, s.heap.get? b = some o → h'.get? b = some o) → Q (.int ns.sum t') { s with heap := h', toks := tk }) : wpAny (model prog w) A (call (.builtin "sum") [.ref l]) Q E s := by
  obtain ⟨xs, e⟩ := hi.allInts.items
  have hn : numsOf (intItems xs).toList = ns := by rw [← e]; exact hi.numsOf
  rw [nums_intItems] at hn
  rw [e] at hl
  refine sum_intTup hh hl fun h' tk t' hk => ?_
  have := h h' tk t' hk
  rw [preSum_eq, List.take_of_length_le (by simp), hn]; exact this
theorem max_rawT {Q : Value → Shared → Prop} (hh : A.handled = none) (hl : s.heap.IsTuple l its.toArray) (hi : IntsAre its ns) (hne : 0 < ns.length)
    (h : ∀ h' tk M t', (∀ b o, s.heap.get? b = some o → h'.get? b = some o) → M ∈ ns → (∀ a, a ∈ ns → a ≤ M) → Q (.int M t') { s with heap := h', toks := tk }) : wpAny (model prog w) A (call (.builtin "max") [.ref l]) Q E s := by
  obtain ⟨xs, e⟩ := hi.allInts.items
  have hn : numsOf (intItems xs).toList = ns := by rw [← e]; exact hi.numsOf
  rw [nums_intItems] at hn
  subst hn
  rw [e] at hl
  have hsz : 0 < xs.size := by simpa using hne
  refine max_intTup hh hl hsz fun v h' tk hv hk => ?_
  obtain ⟨t, rfl⟩ := intItems_at hv
  obtain ⟨h1, h2⟩ := argBest_gt (numAt xs) (xs.size - 1)
  refine h h' tk _ t hk ?_ fun a ha => ?_
  · rw [numAt_eq]; exact PySem.getD_mem (by rw [List.length_map, Array.length_toList]; omega)
  · obtain ⟨j, hj, rfl⟩ := mem_getD ha
    rw [List.length_map, Array.length_toList] at hj
    rw [← numAt_eq]; exact h2 j (by omega)
end
section
variable {X : Cx}
def rSumT (K : PySem.W.Frag) : List V → Hp → VK → Prop := fun vs H Q => ∃ (a : Addr) (ns : List Int), vs = [V.ref a] ∧ SqT K H a (ns.map V.int) ∧ Q (.int ns.sum) H
def rMaxT (K : PySem.W.Frag) : List V → Hp → VK → Prop := fun vs H Q => ∃ (a : Addr) (ns : List Int), vs = [V.ref a] ∧ SqT K H a (ns.map V.int) ∧ 0 < ns.length ∧ ∀ m, m ∈ ns → (∀ y, y ∈ ns → y ≤ m) → Q (.int m) H
theorem cr_sumT (hc : X.calm = true) : CallR X (.builtin "sum") (rSumT X.K) := by
  intro pins s σ H vs us Q I r h
  obtain ⟨a, ns, rfl, hs, q⟩ := h
  obtain ⟨its, rv, hl, _⟩ := I.tuple hs
  rw [Vals.ref1 r]
  exact sum_rawT (I.ok.hd hc) hl rv.ints fun h' tk t' hk => ⟨.int _, H, I.kept hk, ⟨_, rfl⟩, q⟩
theorem cr_maxT (hc : X.calm = true) : CallR X (.builtin "max") (rMaxT X.K) := by
  intro pins s σ H vs us Q I r h
  obtain ⟨a, ns, rfl, hs, hne, q⟩ := h
  obtain ⟨its, rv, hl, _⟩ := I.tuple hs
  rw [Vals.ref1 r]
  exact max_rawT (I.ok.hd hc) hl rv.ints hne fun h' tk m t' hk h1 h2 => ⟨.int _, H, I.kept hk, ⟨_, rfl⟩, q m h1 h2⟩
end
/-! ### what the module's names hold -/
structure Bl (mg : Str → Option Value) : Prop where
  len_ : mg "len" = none
  isinstance_ : mg "isinstance" = none
  max_ : mg "max" = none
  min_ : mg "min" = none
  sum_ : mg "sum" = none
  all_ : mg "all" = none
  tuple_ : mg "tuple" = none
  range_ : mg "range" = none
  zip_ : mg "zip" = none
  enumerate_ : mg "enumerate" = none
  sorted_ : mg "sorted" = none
  abs_ : mg "abs" = none
  set_ : mg "set" = none
  list_ : mg "list" = none
  int_ : mg "int" = none
  bool_ : mg "bool" = none
  str_ : mg "str" = none
  ml : ∃ u, mg "MAX_LENGTH" = some u ∧ RelV (.int 40) u
/-- the constants of texts.py that not every text has -/
structure Bw (mg : Str → Option Value) : Prop extends Bl mg where
  mw : ∃ u, mg "MAX_WORDS" = some u ∧ RelV (.int 60) u
structure Bx (mg : Str → Option Value) : Prop extends Bw mg where
  mx : ∃ u, mg "MAX_WIDTH" = some u ∧ RelV (.int 2500) u
structure Br (mg : Str → Option Value) : Prop extends Bx mg where
  mr : ∃ u, mg "MAX_REPETITIONS" = some u ∧ RelV (.int 1000000000000000) u
/-- a def stands under its name, with these parameters -/
def DefAt (K : PySem.W.Frag) (mg : Str → Option Value) (x : Str) (st : Stmt) (ps : List Str) : Prop := ∃ (f : Addr) (fd : FuncData), C8.Def K mg x st f fd ∧ Binds K fd ps []
/-- C8.cal0 over DefAt -/
theorem cal_of {P : Program} {w : World} {K : PySem.W.Frag} {mg : Str → Option Value} {base : Heap} {x : Str} {st : Stmt} {N ps : List Str} {k : Nat} {sp : Sp} (D : DefAt K mg x st ps) (S : FnScope N ps (C8.fnScope st))
    (len : ∀ vs H Q E, sp vs H Q E → vs.length = ps.length)
    (hbody : ∀ (f : Addr) (cdv : Value) (A : Around) (outer : List Env) (s : Shared) (H : Hp) (vs : List V) (Q : VK) (E : XK), Room k (A.deeper (envOfC x (C8.fnScope st) s.heap.objs.size f cdv)) → sp vs H Q E →
      ∃ t, PSs (cxOf CX0 P w K mg base N x (C8.fnScope st) f cdv A outer s H E).nox (C8.fnBody st) t ∧ t { nx := fun _ H' => Q .non H', rt := Q } (start N vs) H) : C8.Cal P w K mg base (k + 1) x sp [] := by
  obtain ⟨f, fd, D, b⟩ := D
  exact C8.cal0 D b .nil S len fun cdv A outer s H vs Q E => hbody f cdv A outer s H vs Q E
/-- a def as it stands behind the top -/
theorem def_at {K : PySem.W.Frag} {mg : Str → Option Value} {h : Heap} (X : K.In h) (G : h.Ns mainGlobals mg) {x : Str} {st : Stmt} {f : Addr} {oc : Value} {od an : Option Addr} {osl : Array (Option Value)} {kV doc pm cdv ct : Value}
    (a : PySem.W.nsIn K mainGlobals x = some (some (.ref f))) (l : K.lookup f = some ⟨oc, od, .func (PySem.W.fnOf x x (C8.fnArgs st) (C8.fnBody st) (C8.fnScope st) .none kV doc pm an cdv ct), osl⟩)
    (c : PySem.W.codeIn K cdv x = true) (k : PySem.W.keepIn K (.ref f) = true) : C8.Def K mg x st f (PySem.W.fnOf x x (C8.fnArgs st) (C8.fnBody st) (C8.fnScope st) .none kV doc pm an cdv ct) :=
  ⟨⟨oc, od, .none, kV, doc, pm, an, cdv, ct, osl, rfl, l, c⟩, PySem.W.mg_of X G a, k⟩
theorem at_of {K : PySem.W.Frag} {mg : Str → Option Value} {x : Str} {st : Stmt} {f : Addr} {kV doc pm cdv ct : Value} {an : Option Addr} {ps : List Str} (D : C8.Def K mg x st f (PySem.W.fnOf x x (C8.fnArgs st) (C8.fnBody st) (C8.fnScope st) .none kV doc pm an cdv ct))
    (hb : ∀ (kV doc pm : Value) (an : Option Addr) (cdv ct : Value) (us : List Value), us.length = ps.length → bindArgs (PySem.W.fnOf x x (C8.fnArgs st) (C8.fnBody st) (C8.fnScope st) .none kV doc pm an cdv ct) ⟨us, []⟩ = pure (ps.zip us)) : DefAt K mg x st ps :=
  ⟨f, _, D, C8.Fun.binds D.fn rfl hb⟩
theorem int_at {K : PySem.W.Frag} {mg : Str → Option Value} {h : Heap} (X : K.In h) (G : h.Ns mainGlobals mg) {x : Str} {i : Int} {t : Tok} (a : PySem.W.nsIn K mainGlobals x = some (some (.int i t))) : ∃ u, mg x = some u ∧ RelV (.int i) u := ⟨_, PySem.W.mg_of X G a, ⟨t, rfl⟩⟩
theorem cal_mono {P : Program} {w : World} {K : PySem.W.Frag} {mg : Str → Option Value} {base : Heap} {x : Str} {j k : Nat} {sp : Sp} (C : C8.Cal P w K mg base j x sp []) (h : j ≤ k) : C8.Cal P w K mg base k x sp [] := by
  obtain ⟨f, fd, ps, ds, F, a, b, c, d⟩ := C.ex
  exact ⟨f, fd, ps, ds, F.mono h, a, b, c, d⟩
/-! ### heaps -/
/-- all that was tracked but a is as it was -/
def But (a : Addr) (H H' : Hp) : Prop := ∀ b o, b ≠ a → H b = some o → H' b = some o
theorem But.refl (a : Addr) (H : Hp) : But a H H := fun _ _ _ h => h
theorem But.trans {a : Addr} {H H1 H2 : Hp} (x : But a H H1) (y : But a H1 H2) : But a H H2 := fun c o n h => y c o n (x c o n h)
theorem But.of {a : Addr} {H H' : Hp} (x : Same H H') : But a H H' := fun b o _ h => x b o h
theorem But.upd {a : Addr} {H : Hp} {o : HO} : But a H (upd H a o) := fun b x n h => by
  rw [upd_ne n]; exact h
theorem cut_full (xs : List V) (n : Nat) : cutV xs none (some (n : Int)) = xs.take n := by
  unfold cutV
  rw [HT.sIx_none, HT.sIx_nat, List.drop_zero, Nat.sub_zero]
  by_cases h : n ≤ xs.length
  · rw [Nat.min_eq_left h]
  · rw [Nat.min_eq_right (by omega), List.take_of_length_le (Nat.le_refl _), List.take_of_length_le (by omega)]
theorem cut_from (xs : List V) (n : Nat) : cutV xs (some (n : Int)) none = xs.drop n := by
  unfold cutV
  rw [HT.sIx_none, HT.sIx_nat]
  by_cases h : n ≤ xs.length
  · rw [Nat.min_eq_left h, List.take_of_length_le (by rw [List.length_drop]; omega)]
  · rw [Nat.min_eq_right (by omega), Nat.sub_self, List.take_zero, List.drop_of_length_le (by omega)]
theorem cut_mid (xs : List V) (i j : Nat) : cutV xs (some (i : Int)) (some (j : Int)) = (xs.drop i).take (j - i) := by
  unfold cutV
  rw [HT.sIx_nat, HT.sIx_nat]
  by_cases h : i ≤ xs.length
  · rw [Nat.min_eq_left h]
    by_cases h2 : j ≤ xs.length
    · rw [Nat.min_eq_left h2]
    · rw [Nat.min_eq_right (by omega), List.take_of_length_le (by rw [List.length_drop]; omega), List.take_of_length_le (by rw [List.length_drop]; omega)]
  · have e1 : xs.drop (min i xs.length) = [] := List.drop_of_length_le (by omega)
    have e2 : xs.drop i = [] := List.drop_of_length_le (by omega)
    rw [e1, e2, List.take_nil, List.take_nil]
theorem same_upd {H : Hp} {p : Addr} {o : HO} (h : H p = none) : Same H (upd H p o) := fun b x e => by
  rw [upd_ne (ne_of_none e h)]
  exact e
/-! ### readings in short -/
def rLenS (K : PySem.W.Frag) : List V → Hp → VK → Prop := fun xs H Q => ∃ p ys, xs = [.ref p] ∧ (SqL K H p ys ∨ SqT K H p ys) ∧ Q (.int ys.length) H
def rTupS (K : PySem.W.Frag) : List V → Hp → VK → Prop := fun xs H Q => ∃ p ys, xs = [.ref p] ∧ ((SqL K H p ys ∧ ∀ l, H l = none → Q (.ref l) (upd H l (.tup ys))) ∨ (SqT K H p ys ∧ Q (.ref p) H))
theorem call_tupS {X : Cx} : CallR X (.type "tuple") (rTupS X.K) := call_tuple_of
def rAbs : List V → Hp → VK → Prop := fun xs H Q => ∃ i, xs = [.int i] ∧ Q (.int (if i < 0 then -i else i)) H
theorem call_absS {X : Cx} : CallR X (.builtin "abs") rAbs := call_abs
def rMax2 : List V → Hp → VK → Prop := fun xs H Q => ∃ i j, xs = [.int i, .int j] ∧ Q (.int (if j > i then j else i)) H
theorem call_max2S {X : Cx} (hc : X.calm = true) : CallR X (.builtin "max") rMax2 := call_max2 hc
def rMin2 : List V → Hp → VK → Prop := fun xs H Q => ∃ i j, xs = [.int i, .int j] ∧ Q (.int (if j < i then j else i)) H
theorem call_min2S {X : Cx} (hc : X.calm = true) : CallR X (.builtin "min") rMin2 := call_min2 hc
theorem s_abs {H : Hp} {Q : VK} {i : Int} : rAbs [.int i] H Q = Q (.int (if i < 0 then -i else i)) H := by
  refine propext ⟨fun ⟨a, h, q⟩ => ?_, fun q => ⟨i, rfl, q⟩⟩
  cases h; exact q
theorem s_max2 {H : Hp} {Q : VK} {i j : Int} : rMax2 [.int i, .int j] H Q = Q (.int (if j > i then j else i)) H := by
  refine propext ⟨fun ⟨a, b, h, q⟩ => ?_, fun q => ⟨i, j, rfl, q⟩⟩
  cases h; exact q
theorem s_min2 {H : Hp} {Q : VK} {i j : Int} : rMin2 [.int i, .int j] H Q = Q (.int (if j < i then j else i)) H := by
  refine propext ⟨fun ⟨a, b, h, q⟩ => ?_, fun q => ⟨i, j, rfl, q⟩⟩
  cases h; exact q
theorem call_lenS {X : Cx} : CallR X (.builtin "len") (rLenS X.K) := call_len_seq
section
variable {K : PySem.W.Frag} {H : Hp} {a : Addr} {xs : List V} {i k : Int} {j : Nat} {v : V} {Q : VK} {R : Hp → Prop}
theorem ixL_of (h : H a = some (.lst xs)) (hv : atI xs i = some v) (q : Q v H) : rIxL K (.ref a) (.int i) H Q := ⟨_, _, _, _, rfl, rfl, .of h, hv, q⟩
theorem s_cons {x : V} {r : List V} {P : V → List V → Prop} : (∃ v r', (x :: r) = v :: r' ∧ P v r') = P x r := by
  refine propext ⟨fun ⟨v, r', h1, q⟩ => ?_, fun q => ⟨x, r, rfl, q⟩⟩
  cases h1; exact q
theorem tupg_of {n : Nat} {xs : List V} {R : List V → Prop} (h : H a = some (.tup xs)) (hn : xs.length = n) (q : R xs) : ∃ b ys, V.ref a = V.ref b ∧ SqT K H b ys ∧ ys.length = n ∧ R ys := ⟨_, _, rfl, .of h, hn, q⟩
theorem ixT_of (h : H a = some (.tup xs)) (hv : atI xs i = some v) (q : Q v H) : rIxT K (.ref a) (.int i) H Q := ⟨_, _, _, _, rfl, rfl, .of h, hv, q⟩
theorem setL_of (h : H a = some (.lst xs)) (hj : ixN xs.length k = some j) (q : R (upd H a (.lst (xs.set j v)))) : rSetL (.ref a) (.int k) v H R := ⟨_, _, _, _, rfl, rfl, h, hj, q⟩
theorem lenT_of (h : H a = some (.tup xs)) (q : Q (.int xs.length) H) : rLenS K [.ref a] H Q := ⟨_, _, rfl, .inr (.of h), q⟩
theorem slL_of {lo hi : Option Int} (h : SqL K H a xs) (q : ∀ p, H p = none → Q (.ref p) (upd H p (.lst (cutV xs lo hi)))) : rSlL K (.ref a) lo hi H Q := ⟨_, _, rfl, h, q⟩
theorem cat_of {b : Addr} {ys : List V} (h : H a = some (.lst xs)) (h2 : H b = some (.lst ys)) (hz : xs.length + ys.length ≤ sizeLine) (q : ∀ p, H p = none → Q (.ref p) (upd H p (.lst (xs ++ ys)))) : rCat (.ref a) (.ref b) H Q := ⟨_, _, _, _, rfl, rfl, h, h2, hz, q⟩
theorem app_of {y : V} (h : H a = some (.lst xs)) (hz : xs.length < sizeLine) (q : Q .non (upd H a (.lst (xs ++ [y])))) : rAppend (.ref a) [y] H Q := ⟨_, _, _, rfl, rfl, h, hz, q⟩
theorem rep_of (h : H a = some (.lst xs)) (h1 : -(2 ^ 63) ≤ k) (h2 : k < 2 ^ 63) (hz : xs.length * k.toNat ≤ sizeLine) (q : ∀ p, H p = none → Q (.ref p) (upd H p (.lst (List.replicate k.toNat xs).flatten))) : rRep (.ref a) (.int k) H Q := ⟨_, _, _, rfl, rfl, h, h1, h2, hz, q⟩
theorem sumT_of {ns : List Int} (h : H a = some (.tup (ns.map V.int))) (q : Q (.int ns.sum) H) : rSumT K [.ref a] H Q := ⟨_, _, rfl, .of h, q⟩
theorem sumL_of {ns : List Int} (h : H a = some (.lst (ns.map V.int))) (q : Q (.int ns.sum) H) : rSum K [.ref a] H Q := ⟨_, _, rfl, .of h, q⟩
theorem maxT_of {ns : List Int} (h : H a = some (.tup (ns.map V.int))) (h0 : 0 < ns.length) (q : ∀ m, m ∈ ns → (∀ y, y ∈ ns → y ≤ m) → Q (.int m) H) : rMaxT K [.ref a] H Q := ⟨_, _, rfl, .of h, h0, q⟩
theorem tupL_of (h : H a = some (.lst xs)) (q : ∀ l, H l = none → Q (.ref l) (upd H l (.tup xs))) : rTupS K [.ref a] H Q := ⟨_, _, rfl, .inl ⟨.of h, q⟩⟩
theorem isi_int (q : Q (.bl true) H) : rIsi K [.int i, .ty "int"] H Q := ⟨_, _, .type "int", .type "int", true, rfl, .ty _, .base (.int i), kit_ty (by decide +kernel), q⟩
theorem isi_int_bool (q : Q (.bl false) H) : rIsi K [.int i, .ty "bool"] H Q := ⟨_, _, .type "int", .type "bool", false, rfl, .ty _, .base (.int i), kit_ty (by decide +kernel), q⟩
theorem isi_tup (h : H a = some (.tup xs)) (q : Q (.bl true) H) : rIsi K [.ref a, .ty "tuple"] H Q := ⟨_, _, .type "tuple", .type "tuple", true, rfl, .ty _, .base (.tup h), kit_ty (by decide +kernel), q⟩
theorem isi_of {x : V} {t c : String} {b : Bool} (h : TyX K H x (.type t)) (hb : kitB t c = some b) (q : Q (.bl b) H) : rIsi K [x, .ty c] H Q := ⟨_, _, .type t, .type c, b, rfl, .ty _, h, kit_ty hb, q⟩
theorem isiT3_of {x : V} {tp : Addr} {t c1 c2 c3 : String} {b1 b2 b3 : Bool} (ht : H tp = some (.tup [.ty c1, .ty c2, .ty c3])) (h : TyX K H x (.type t)) (h1 : kitB t c1 = some b1) (h2 : kitB t c2 = some b2) (h3 : kitB t c3 = some b3) (q : Q (.bl (b1 || (b2 || b3))) H) : rIsiT K [x, .ref tp] H Q := by
  refine ⟨_, _, _, .type t, _, _, rfl, ht, .cons (.ty _) (.cons (.ty _) (.cons (.ty _) .nil)), h, ?_, q⟩
  refine kitAny_cons (kit_ty h1) (fun e => ?_) (fun e => by rw [e]; rfl)
  rw [e, Bool.false_or]
  refine kitAny_cons (kit_ty h2) (fun e => ?_) (fun e => by rw [e]; rfl)
  rw [e, Bool.false_or]
  refine kitAny_cons (kit_ty h3) (fun e => ?_) (fun e => e)
  rw [e]
  exact kitAny_nil
theorem catA_of {b : Addr} {ys : List V} (h : H a = some (.tup xs)) (h2 : H b = some (.tup ys)) (hz : xs.length + ys.length ≤ sizeLine) (q : ∀ p H', Same H H' → H' p = some (.tup (xs ++ ys)) → Q (.ref p) H') : rCatA K (.ref a) (.ref b) H Q :=
  ⟨_, _, _, _, rfl, rfl, .of h, .of h2, hz, fun e => q b H (Same.refl H) (by rw [h2, e]; rfl), fun _ e => q a H (Same.refl H) (by rw [h, e, List.append_nil]), fun _ _ p n => q p _ (same_upd n) upd_same⟩
theorem slA_of {lo hi : Option Int} (h : H a = some (.tup xs)) (q : ∀ p H', Same H H' → H' p = some (.tup (cutV xs lo hi)) → Q (.ref p) H') : rSlA K (.ref a) lo hi H Q := by
  refine ⟨_, _, rfl, .of h, fun e => q a H (Same.refl H) ?_, fun _ p n => q p _ (same_upd n) upd_same⟩
  rw [h]
  unfold cutV
  rw [e.1, e.2, List.drop_zero, Nat.sub_zero, List.take_length]
theorem all_of {bs : List Bool} (h : H a = some (.lst (bs.map V.bl))) (q : Q (.bl (bs.all id)) H) : rAll K [.ref a] H Q := ⟨_, _, rfl, .of h, q⟩
theorem lenL_of (h : H a = some (.lst xs)) (q : Q (.int xs.length) H) : rLenS K [.ref a] H Q := ⟨_, _, rfl, .inl (.of h), q⟩
end
section
variable {H : Hp} {Q : VK} {i j : Int} {g : Int → Int → V} {f : Int → V} {C : Int → Int → Prop}
theorem s_I0 : rI0 g (.int i) (.int j) H Q = Q (g i j) H := by
  unfold rI0
  refine propext ⟨fun ⟨a, b, h1, h2, q⟩ => ?_, fun q => ⟨i, j, rfl, rfl, q⟩⟩
  cases h1; cases h2; exact q
theorem s_I : rI C g (.int i) (.int j) H Q = (C i j ∧ Q (g i j) H) := by
  unfold rI
  refine propext ⟨fun ⟨a, b, h1, h2, c, q⟩ => ?_, fun ⟨c, q⟩ => ⟨i, j, rfl, rfl, c, q⟩⟩
  cases h1; cases h2; exact ⟨c, q⟩
theorem s_U : rU f (.int i) H Q = Q (f i) H := by
  unfold rU
  refine propext ⟨fun ⟨a, h1, q⟩ => ?_, fun q => ⟨i, rfl, q⟩⟩
  cases h1; exact q
theorem s_bl {b : Bool} {P : Bool → Prop} : (∃ k, V.bl b = V.bl k ∧ P k) = P b := by
  refine propext ⟨fun ⟨a, h1, q⟩ => ?_, fun q => ⟨b, rfl, q⟩⟩
  cases h1; exact q
theorem s_int {b : Int} {P : Int → Prop} : (∃ k, V.int b = V.int k ∧ P k) = P b := by
  refine propext ⟨fun ⟨a, h1, q⟩ => ?_, fun q => ⟨b, rfl, q⟩⟩
  cases h1; exact q
theorem s_some {b : V} {P : V → Prop} : (∃ v, some (some b) = some (some v) ∧ P v) = P b := by
  refine propext ⟨fun ⟨a, h1, q⟩ => ?_, fun q => ⟨b, rfl, q⟩⟩
  cases h1; exact q
theorem s_par2 {a b : V} {P : V → V → Prop} : (∃ v w, [a, b] = [v, w] ∧ P v w) = P a b := by
  refine propext ⟨fun ⟨v, w, h1, q⟩ => ?_, fun q => ⟨a, b, rfl, q⟩⟩
  cases h1; exact q
theorem s_par3 {a b c : V} {P : V → V → V → Prop} : (∃ u v w, [a, b, c] = [u, v, w] ∧ P u v w) = P a b c := by
  refine propext ⟨fun ⟨u, v, w, h1, q⟩ => ?_, fun q => ⟨a, b, c, rfl, q⟩⟩
  cases h1; exact q
theorem s_eqI : rEq (.int i) (.int j) H Q = Q (.bl (decide (i = j))) H := by
  unfold rEq
  have e : decide (V.int i = V.int j) = decide (i = j) := decide_eq_decide.mpr ⟨fun h => V.int.inj h, fun h => by rw [h]⟩
  rw [e]
  exact propext ⟨fun h => h.2, fun h => ⟨rfl, h⟩⟩
theorem s_neI : rNe (.int i) (.int j) H Q = Q (.bl (!decide (i = j))) H := by
  unfold rNe
  have e : decide (V.int i = V.int j) = decide (i = j) := decide_eq_decide.mpr ⟨fun h => V.int.inj h, fun h => by rw [h]⟩
  rw [e]
  exact propext ⟨fun h => h.2, fun h => ⟨rfl, h⟩⟩
end
/-! ### dicts with int keys -/
def rDIn (y x : V) (H : Hp) (Q : VK) : Prop := ∃ a o, x = .ref a ∧ DGet H a y o ∧ Q (.bl o.isSome) H
def rDNotIn (y x : V) (H : Hp) (Q : VK) : Prop := ∃ a o, x = .ref a ∧ DGet H a y o ∧ Q (.bl (!o.isSome)) H
def rDGet (x y : V) (H : Hp) (Q : VK) : Prop := ∃ a v, x = .ref a ∧ DGet H a y (some v) ∧ Q v H
def rDPut (x y v : V) (H : Hp) (R : Hp → Prop) : Prop := ∃ a H4, x = .ref a ∧ DPut H a y v H4 ∧ R H4
section
variable {td ty tv : TE} {σ : L2.St} {H : Hp} {Q : VK} {R : Hp → Prop} {D : Ends} {a : Addr} {kvs : List (Key × V)} {i : Int} {v : V}
theorem tDIn_eq : tDIn ty td σ H Q = ty σ H fun y H1 => td σ H1 fun x H2 => rDIn y x H2 Q := rfl
theorem tDNotIn_eq : tDNotIn ty td σ H Q = ty σ H fun y H1 => td σ H1 fun x H2 => rDNotIn y x H2 Q := rfl
theorem tDGet_eq : tDGet td ty σ H Q = td σ H fun x H1 => ty σ H1 fun y H2 => rDGet x y H2 Q := rfl
theorem sDPut_eq : sDPut td ty tv D σ H = tv σ H fun v H1 => td σ H1 fun x H2 => ty σ H2 fun y H3 => rDPut x y v H3 fun H4 => D.nx σ H4 := rfl
theorem din_of (h : H a = some (.dK kvs)) (q : Q (.bl (valV kvs (.inl i)).isSome) H) : rDIn (.int i) (.ref a) H Q := ⟨_, _, rfl, DGet.k (k := .inl i) h, q⟩
theorem dnot_of (h : H a = some (.dK kvs)) (q : Q (.bl (!(valV kvs (.inl i)).isSome)) H) : rDNotIn (.int i) (.ref a) H Q := ⟨_, _, rfl, DGet.k (k := .inl i) h, q⟩
theorem dget_of (h : H a = some (.dK kvs)) (hv : valV kvs (.inl i) = some v) (q : Q v H) : rDGet (.ref a) (.int i) H Q := ⟨_, _, rfl, by rw [← hv]; exact DGet.k (k := .inl i) h, q⟩
theorem dput_of (h : H a = some (.dK kvs)) (hz : kvs.length < sizeLine) (q : R (upd H a (.dK (putK kvs (.inl i) v)))) : rDPut (.ref a) (.int i) v H R := ⟨_, _, rfl, DPut.k (k := .inl i) h hz, q⟩
end
theorem filt_len {α : Type} [DecidableEq α] (a : α) : ∀ l : List α, l.Nodup → l.length ≤ (l.filter fun k => decide (k ≠ a)).length + 1
  | [], _ => Nat.zero_le _
  | x :: l, h => by
    obtain ⟨h1, h2⟩ := List.nodup_cons.mp h
    by_cases e : x = a
    · subst e
      have e2 : l.filter (fun k => decide (k ≠ x)) = l := List.filter_eq_self.mpr fun k hk => decide_eq_true fun z => h1 (z ▸ hk)
      rw [List.filter_cons, if_neg (by simp), e2, List.length_cons]
      exact Nat.le_refl _
    · have ih := filt_len a l h2
      rw [List.filter_cons, if_pos (by simp [e]), List.length_cons, List.length_cons]
      omega
theorem nodup_le : ∀ (n : Nat) (l : List Key), l.Nodup → (∀ k ∈ l, ∃ r : Nat, r < n ∧ k = Sum.inl (r : Int)) → l.length ≤ n
  | 0, [], _, _ => Nat.le_refl _
  | 0, k :: l, _, h => by
    obtain ⟨r, hr, _⟩ := h k List.mem_cons_self
    omega
  | n + 1, l, hn, h => by
    refine Nat.le_trans (filt_len (Sum.inl (n : Int) : Key) l hn) (Nat.succ_le_succ (nodup_le n _ (hn.filter _) fun k hk => ?_))
    obtain ⟨h2, h3⟩ := List.mem_filter.mp hk
    obtain ⟨r, hr, e⟩ := h k h2
    refine ⟨r, ?_, e⟩
    rcases Nat.lt_or_ge r n with g | g
    · exact g
    · have e2 : r = n := by omega
      rw [e2] at e
      exact absurd e (of_decide_eq_true h3)
/-! ### == of tuples of ints -/
theorem dpAll_ints {K : PySem.W.Frag} {H : Hp} : ∀ ns : List Int, DpAll K H (ns.map V.int) (ns.map PyData.int)
  | [] => .nil
  | x :: r => .cons (.int x) (dpAll_ints r)
theorem canLay_ints : ∀ ns : List Int, PyData.canLayAll0 (ns.map PyData.int) = true
  | [] => rfl
  | x :: r => by
    rw [List.map_cons, PyData.canLayAll0, canLay_ints r, PyData.canLay0]
    rfl
theorem depth_ints : ∀ ns : List Int, PyData.depthAll (ns.map PyData.int) = 0
  | [] => rfl
  | x :: r => by
    rw [List.map_cons, PyData.depthAll, depth_ints r, PyData.depth]
    rfl
theorem shaped_tup (ns : List Int) : SeqAt.shaped (.tuple (ns.map PyData.int)) = true := by
  unfold SeqAt.shaped
  rw [PyData.canLay0, canLay_ints, PyData.depth, depth_ints]
  rfl
theorem eqT_of {K : PySem.W.Frag} {H : Hp} {Q : VK} {a b : Addr} {ns ms : List Int} (h : H a = some (.tup (ns.map V.int))) (h2 : H b = some (.tup (ms.map V.int))) (q : Q (.bl (decide (ns = ms))) H) : rEqD K (.ref a) (.ref b) H Q :=
  ⟨_, _, .tup (.of h) (dpAll_ints ns), .tup (.of h2) (dpAll_ints ms), shaped_tup ns, shaped_tup ms, by
    rw [PyData.eqv, PySem.W.ked_eqvAll]
    exact q⟩
theorem neT_of {K : PySem.W.Frag} {H : Hp} {Q : VK} {a b : Addr} {ns ms : List Int} (h : H a = some (.tup (ns.map V.int))) (h2 : H b = some (.tup (ms.map V.int))) (q : Q (.bl (!decide (ns = ms))) H) : rNeD K (.ref a) (.ref b) H Q :=
  ⟨_, _, .tup (.of h) (dpAll_ints ns), .tup (.of h2) (dpAll_ints ms), shaped_tup ns, shaped_tup ms, by
    rw [PyData.eqv, PySem.W.ked_eqvAll]
    exact q⟩
/-! ### == of lists -/
theorem shaped_of {ds : List PyData} (h1 : PyData.canLayAll0 ds = true) (h2 : PyData.depthAll ds ≤ 60) : SeqAt.shaped (.list ds) = true := by
  unfold SeqAt.shaped
  rw [PyData.canLay0, h1, PyData.depth, Bool.true_and]
  exact decide_eq_true (by omega)
theorem eqLnil_of {K : PySem.W.Frag} {H : Hp} {Q : VK} {a b : Addr} {xs : List V} {ds : List PyData} (h : H a = some (.lst xs)) (hd : DpAll K H xs ds) (h1 : PyData.canLayAll0 ds = true) (h2 : PyData.depthAll ds ≤ 60) (hb : H b = some (.lst [])) (q : Q (.bl (decide (xs = []))) H) : rEqD K (.ref a) (.ref b) H Q :=
  ⟨_, _, .lst (.of h) hd, .lst (.of hb) .nil, shaped_of h1 h2, rfl, by
    rw [PyData.eqv]
    cases hd with
    | nil => exact q
    | cons _ _ => exact q⟩
theorem neLnil_of {K : PySem.W.Frag} {H : Hp} {Q : VK} {a b : Addr} {xs : List V} {ds : List PyData} (h : H a = some (.lst xs)) (hd : DpAll K H xs ds) (h1 : PyData.canLayAll0 ds = true) (h2 : PyData.depthAll ds ≤ 60) (hb : H b = some (.lst [])) (q : Q (.bl (!decide (xs = []))) H) : rNeD K (.ref a) (.ref b) H Q :=
  ⟨_, _, .lst (.of h) hd, .lst (.of hb) .nil, shaped_of h1 h2, rfl, by
    rw [PyData.eqv]
    cases hd with
    | nil => exact q
    | cons _ _ => exact q⟩
/-! ### a dict under a lock; sorted of a dict -/
def rKeysI (x : V) (H : Hp) (R : It → Hp → Prop) : Prop := ∃ d o, x = .ref d ∧ ((∃ kvs, H d = some (.frz o (.dK kvs)) ∧ R (Itk d o kvs) H) ∨ ∃ kvs, H d = some (.frz o (.dT kvs)) ∧ R (Itkt d o kvs) H)
theorem iKeys_eq {te : TE} {σ : L2.St} {H : Hp} {R : It → Hp → Prop} : iKeys te σ H R = te σ H fun x H1 => rKeysI x H1 R := rfl
theorem keys_of {H : Hp} {R : It → Hp → Prop} {d : Addr} {o : Obj} {kvs : List (Key × V)} (h : H d = some (.frz o (.dK kvs))) (q : R (Itk d o kvs) H) : rKeysI (.ref d) H R := ⟨_, _, rfl, .inl ⟨_, h, q⟩⟩
theorem dgetF_of {H : Hp} {Q : VK} {a : Addr} {o : Obj} {kvs : List (Key × V)} {i : Int} {v : V} (h : H a = some (.frz o (.dK kvs))) (hv : valV kvs (.inl i) = some v) (q : Q v H) : rDGet (.ref a) (.int i) H Q := ⟨_, _, rfl, .inl ⟨kvs, .inl i, .inr ⟨o, h⟩, rfl, hv.symm⟩, q⟩
theorem lockE_of {t : TE} {σ : L2.St} {H : Hp} {Q : VK} {d : Addr} {kvs : List (Key × V)} (h : H d = some (.dK kvs)) (q : ∀ od, t σ (upd H d (.frz od (.dK kvs))) fun v H' => H' d = some (.frz od (.dK kvs)) ∧ Q v (upd H' d (.dK kvs))) : tLockE t σ H Q := ⟨d, _, h, True.intro, q⟩
def rSortedD (vs : List V) (H : Hp) (Q : VK) : Prop := ∃ (a : Addr) (kvs : List (Key × V)) (ks : List Int), vs = [.ref a] ∧ Rd H a (.dK kvs) ∧ kvs.map (·.1) = ks.map Sum.inl ∧
  ∀ (ys : List Int) (p : Addr), ys.Perm ks → ys.Pairwise (· ≤ ·) → H p = none → Q (.ref p) (upd H p (.lst (ys.map V.int)))
/-- the ints that a dict's keys are, collected -/
theorem keys_ints {prog : Program} {w : World} {ks : List Int} {vs : List (Key × Value)} (hk : vs.map (·.1) = ks.map Sum.inl) {out : List Value} (hl : out.length = vs.length)
    (h : ∀ (j : Nat) (v : Value), out[j]? = some v → ∃ k x, vs[j]? = some (k, x) ∧ (mixKind prog w).is k v = true) : IntsAre out ks := by
  have hl2 : out.length = ks.length := by
    have := congrArg List.length hk
    rw [List.length_map, List.length_map] at this
    omega
  refine ints_each hl2 fun j v e => ?_
  obtain ⟨k, x, e1, e2⟩ := h j v e
  have e3 : (ks.map (Sum.inl : Int → Key))[j]? = some k := by
    rw [← hk, List.getElem?_map, e1]
    rfl
  rw [List.getElem?_map] at e3
  obtain ⟨y, hy, e4⟩ := Option.map_eq_some_iff.mp e3
  subst e4
  rcases keyIs_shape (show keyIs (Sum.inl y) v = true from e2) with ⟨i, t, ek, ev⟩ | ⟨z, t, ek, ev⟩
  · cases ek
    exact ⟨y, t, hy, ev⟩
  · cases ek
theorem cr_sortedD {X : Cx} (hcalm : X.calm = true) : CallR X (.builtin "sorted") rSortedD := by
  rintro pins s σ H vs us Q I r ⟨a, kvs, ks, rfl, hd, hks, q⟩
  rw [Vals.ref1 r]
  obtain ⟨hz, ls, ws, rel, dd⟩ := dk_rd I.hok hd
  obtain ⟨ep, hat⟩ := dd.dictAt
  have hws : ws.map (·.1) = ks.map Sum.inl := rel.keys.symm.trans hks
  have hlen : ws.length = kvs.length := by
    have := congrArg List.length rel.keys
    rw [List.length_map, List.length_map] at this
    exact this.symm
  refine Calls.call_function_entry PyProof.Rows.kind_sorted PyProof.Rows.plain_sorted PyProof.Rows.entry_sorted (PyProof.Rows.args_sorted1 _) ?_
  unfold Builtin.«sorted»
  refine wpAny_bind (m := checkCount "sorted" 1 1 _) (wpAny_pure ?_)
  refine wpAny_bind (PySem.W.kdu_collect (A := X.A.in1) (PySem.W.kdl_dict (knd := mixKind X.prog X.w) (kvs := ws) (ep := ep) ls) (I.ok.hd hcalm) hat (by rw [hlen]; exact hz) fun g tk acc hk hacc => ?_)
  have hsz : acc.toList.length = ws.length := by rw [Array.length_toList, hacc.1]
  have hI : IntsAre acc.toList ks := keys_ints (prog := X.prog) (w := X.w) hws hsz fun j v e => hacc.2 j v (by rw [← Array.getElem?_toList]; exact e)
  have hac : acc.toList.length ≤ sizeLine := by rw [hsz, hlen]; exact hz
  have I1 : Inv X pins σ H { s with heap := g, toks := tk } := I.kept hk
  refine wpAny_bind (wpAny_newList ?_ hac)
  have ho : (g.push (seqObj "list" acc.toList.toArray 0)).get? g.objs.size = some (seqObj "list" acc.toList.toArray 0) := Heap.get?_push_size _ rfl
  show wpAny _ _ _ _ _ { s with heap := g.push (seqObj "list" acc.toList.toArray 0), toks := tk }
  refine wpAny_bind (wpAny_holding (wpAny_call_entry PyProof.Rows.slot_list_sort ⟨_, ho, rfl⟩ PyProof.Rows.entry_list_sort
    (SrtO.list_sort_ord (s := { s with heap := g.push (seqObj "list" acc.toList.toArray 0), toks := tk }) SrtO.swo_int ho hac (fun h2 => SrtO.ints_sortable hI h2) fun out o1 o2 => ⟨_, rfl, ?_⟩) (PyProof.Rows.args_list_sort _)))
  obtain ⟨k1, k2, k3⟩ := SrtO.ints_out hI o1 o2
  obtain ⟨e', he'⟩ := PyProof.Rows.sortedHeap_at (vs := acc.toList) (out := out.toArray) ho
  have hol : ((out.map SrtO.iv).map V.int).length ≤ sizeLine := by
    rw [List.length_map, k2.length_eq]
    have := congrArg List.length hws
    rw [List.length_map, List.length_map] at this
    omega
  refine wpAny_pure ⟨_, rfl, .ref g.objs.size, upd H g.objs.size (.lst ((out.map SrtO.iv).map V.int)), I1.laid (t' := tk) (fun b u e => ?_) (Nat.le_refl _) ⟨hol, out, e', vals_of_ints k1, he'⟩, rfl, q _ _ k2 k3 (I1.hok.fresh (Nat.le_refl _))⟩
  have hb : b < g.objs.size := Heap.lt_size e
  rw [PyProof.Rows.sortedHeap_old (Nat.ne_of_lt hb) (by rw [size_push']; exact Nat.lt_succ_of_lt hb)]
  exact Heap.get?_push_of_some _ e
theorem sortedD_of {H : Hp} {Q : VK} {a : Addr} {kvs : List (Key × V)} {ks : List Int} (h : H a = some (.dK kvs)) (hk : kvs.map (·.1) = ks.map Sum.inl) (hs : ks.Pairwise (· ≤ ·)) (q : ∀ p, H p = none → Q (.ref p) (upd H p (.lst (ks.map V.int)))) : rSortedD [.ref a] H Q :=
  ⟨_, _, _, rfl, .inl h, hk, fun ys p h1 h2 h3 => by
    have e := PySem.W.ksm_same h1 h2 hs
    subst e
    exact q p h3⟩
theorem minL_of {K : PySem.W.Frag} {H : Hp} {Q : VK} {a : Addr} {ns : List Int} (h : H a = some (.lst (ns.map V.int))) (h0 : 0 < ns.length) (q : ∀ m, m ∈ ns → (∀ y, y ∈ ns → m ≤ y) → Q (.int m) H) : rMin K [.ref a] H Q := ⟨_, _, rfl, .of h, h0, q⟩
/-! ### what is walked -/
def rEnumI (K : PySem.W.Frag) (vs : List V) (H : Hp) (R : It → Hp → Prop) : Prop := ∃ a xs, vs = [.ref a] ∧ SqL K H a xs ∧ R (Ite K a) H
def rListI (K : PySem.W.Frag) (x : V) (H : Hp) (R : It → Hp → Prop) : Prop := ∃ a, x = .ref a ∧ (∃ xs, SqL K H a xs) ∧ R (Itl K a) H
def rTupI (K : PySem.W.Frag) (x : V) (H : Hp) (R : It → Hp → Prop) : Prop := ∃ a, x = .ref a ∧ (∃ xs, SqT K H a xs) ∧ R (Itt K a) H
def rRng1 (vs : List V) (H : Hp) (R : It → Hp → Prop) : Prop := ∃ j : Int, vs = [.int j] ∧ -(2 ^ 62) ≤ j ∧ j < 2 ^ 62 ∧ R (Itr 0 j.toNat) H
def rRng2 (vs : List V) (H : Hp) (R : It → Hp → Prop) : Prop := ∃ i j : Int, vs = [.int i, .int j] ∧ (-(2 ^ 62) ≤ i ∧ i < 2 ^ 62 ∧ -(2 ^ 62) ≤ j ∧ j < 2 ^ 62) ∧ R (Itr i (j - i).toNat) H
def rZipI (K : PySem.W.Frag) (vs : List V) (H : Hp) (R : It → Hp → Prop) : Prop := ∃ a b xs ys, vs = [.ref a, .ref b] ∧ ((SqL K H a xs ∧ SqL K H b ys ∧ R (Itz K a b) H) ∨ (SqT K H a xs ∧ SqT K H b ys ∧ R (ItzT K a b) H))
section
variable {K : PySem.W.Frag} {ta : TA} {te : TE} {σ : L2.St} {H : Hp} {R : It → Hp → Prop} {a b : Addr} {xs ys : List V} {i j : Int}
theorem iEnum_eq : iEnum K ta σ H R = ta σ H fun vs H1 => rEnumI K vs H1 R := rfl
theorem iList_eq : iList K te σ H R = te σ H fun x H1 => rListI K x H1 R := rfl
theorem iTup_eq : iTup K te σ H R = te σ H fun x H1 => rTupI K x H1 R := rfl
theorem iRng1_eq : iRng1 ta σ H R = ta σ H fun vs H1 => rRng1 vs H1 R := rfl
theorem iRng2_eq : iRng2 ta σ H R = ta σ H fun vs H1 => rRng2 vs H1 R := rfl
theorem iZipA_eq : iZipA K ta σ H R = ta σ H fun vs H1 => rZipI K vs H1 R := rfl
theorem enum_of (h : SqL K H a xs) (q : R (Ite K a) H) : rEnumI K [.ref a] H R := ⟨_, _, rfl, h, q⟩
theorem list_of (h : SqL K H a xs) (q : R (Itl K a) H) : rListI K (.ref a) H R := ⟨_, rfl, ⟨_, h⟩, q⟩
theorem tup_of (h : SqT K H a xs) (q : R (Itt K a) H) : rTupI K (.ref a) H R := ⟨_, rfl, ⟨_, h⟩, q⟩
theorem rng1_of (h1 : -(2 ^ 62) ≤ j) (h2 : j < 2 ^ 62) (q : R (Itr 0 j.toNat) H) : rRng1 [.int j] H R := ⟨_, rfl, h1, h2, q⟩
theorem rng2_of (h1 : -(2 ^ 62) ≤ i ∧ i < 2 ^ 62 ∧ -(2 ^ 62) ≤ j ∧ j < 2 ^ 62) (q : R (Itr i (j - i).toNat) H) : rRng2 [.int i, .int j] H R := ⟨_, _, rfl, h1, q⟩
theorem zipL_of (h : SqL K H a xs) (h2 : SqL K H b ys) (q : R (Itz K a b) H) : rZipI K [.ref a, .ref b] H R := ⟨_, _, _, _, rfl, .inl ⟨h, h2, q⟩⟩
theorem zipT_of (h : SqT K H a xs) (h2 : SqT K H b ys) (q : R (ItzT K a b) H) : rZipI K [.ref a, .ref b] H R := ⟨_, _, _, _, rfl, .inr ⟨h, h2, q⟩⟩
end
/-! ### loops and comprehensions -/
def WhG (W : Nat → L2.St → Hp → Prop) (m : Nat) (tb : TS) (D : Ends) (σ : L2.St) (H : Hp) : Prop := ∃ N : L2.St → Hp → Prop, (∀ σ' H', N σ' H' → ∃ m', m' < m ∧ W m' σ' H') ∧ tb { D with nx := N, ct := N, bk := D.nx } σ H
theorem whG_of {W : Nat → L2.St → Hp → Prop} {m : Nat} {tb : TS} {D : Ends} {σ : L2.St} {H : Hp} (h : tb { D with nx := fun σ' H' => ∃ m', m' < m ∧ W m' σ' H', ct := fun σ' H' => ∃ m', m' < m ∧ W m' σ' H', bk := D.nx } σ H) : WhG W m tb D σ H := ⟨_, fun _ _ h => h, h⟩
def LcB (J : It) (g : TG) (tt : TT) (te : TE) (vs : List Nat) (σ : L2.St) (H1 : Hp) (Q : VK) : Prop := ∀ D, H1 D = none → ∃ W : Nat → Nat → Hp → Prop, (∃ m, W 0 m (upd H1 D (.lst []))) ∧ ∀ i m H, W i m H →
  (J.stop i H ∧ Q (.ref D) H) ∨ (J.go i H ∧ ∃ Nx : Hp → Prop, (∀ H', Nx H' → ∃ m', m' < m ∧ W (i + 1) m' H') ∧ ∀ x H', J.yld i H x H' → g x (wipe σ vs) H' fun σ2 H2 => wipe σ2 vs = wipe σ vs ∧ tt σ2 H2 fun b H3 =>
    if b = true then te σ2 H3 fun y H4 => ∃ acc, H4 D = some (.lst acc) ∧ acc.length < sizeLine ∧ Nx (upd H4 D (.lst (acc ++ [y]))) else Nx H3)
def ForB (J : It) (g : TG) (tb : TS) (D : Ends) (H1 : Hp) (σ0 : L2.St) : Prop := ∃ W : Nat → Nat → L2.St → Hp → Prop, (∃ m, W 0 m σ0 H1) ∧ ∀ i m σ H, W i m σ H →
  (J.stop i H ∧ D.nx σ H) ∨ (J.go i H ∧ ∃ N : L2.St → Hp → Prop, (∀ σ' H', N σ' H' → ∃ m', m' < m ∧ W (i + 1) m' σ' H') ∧ ∀ x H', J.yld i H x H' → g x σ H' fun σ2 H2 => tb { D with nx := N, ct := N, bk := D.nx } σ2 H2)
section
variable {J : It} {n : Nat} {G : Hp → Prop} {Y : Nat → Hp → V → Hp → Prop} {wi : TI} {g : TG} {tt : TT} {te : TE} {tb : TS} {vs : List Nat} {σ : L2.St} {H : Hp} {Q : VK} {D : Ends}
theorem tLc_eq : tLc wi g tt te vs σ H Q = wi σ H fun J H1 => LcB J g tt te vs σ H1 Q := rfl
theorem tFor_eq : tFor wi g tb D σ H = wi σ H fun J H1 => ForB J g tb D H1 σ := rfl
theorem lcB_of (w : Walk J n G Y) (h : ∀ D, H D = none → ∃ Pv : Nat → Hp → Prop, Pv 0 (upd H D (.lst [])) ∧ (∀ i H, i ≤ n → Pv i H → G H) ∧ (∀ i x H H', i < n → Pv i H → Y i H x H' → g x (wipe σ vs) H' fun σ2 H2 => wipe σ2 vs = wipe σ vs ∧ tt σ2 H2 fun b H3 =>
      if b = true then te σ2 H3 fun y H4 => ∃ acc, H4 D = some (.lst acc) ∧ acc.length < sizeLine ∧ Pv (i + 1) (upd H4 D (.lst (acc ++ [y]))) else Pv (i + 1) H3) ∧ ∀ H, Pv n H → Q (.ref D) H) : LcB J g tt te vs σ H Q := fun D hD => by
  obtain ⟨Pv, h0, hG, hs, hd⟩ := h D hD
  exact lc_it w Pv h0 hG hs hd
theorem forB_of (w : Walk J n G Y) (Pv : Nat → L2.St → Hp → Prop) (h0 : Pv 0 σ H) (hG : ∀ i σ H, i ≤ n → Pv i σ H → G H)
    (hs : ∀ i x σ H H', i < n → Pv i σ H → Y i H x H' → g x σ H' fun σ2 H2 => tb { D with nx := Pv (i + 1), ct := Pv (i + 1), bk := D.nx } σ2 H2) (hd : ∀ σ H, Pv n σ H → D.nx σ H) : ForB J g tb D H σ := for_it w Pv h0 hG hs hd
/-- a while, by a word with a number that falls -/
theorem while_of {c : TT} (W : Nat → L2.St → Hp → Prop) (m0 : Nat) (h0 : W m0 σ H) (hs : ∀ m σ H, W m σ H → c σ H fun b H1 => if b = true then WhG W m tb D σ H1 else D.nx σ H1) : tWhile c tb D σ H := ⟨W, ⟨m0, h0⟩, hs⟩
end
theorem walk_zipT {K : PySem.W.Frag} {a b : Addr} {xs ys : List V} {n : Nat} (hn : n = min xs.length ys.length) : Walk (ItzT K a b) n (fun H => SqT K H a xs ∧ SqT K H b ys) (YPair (fun i => xs[i]?) (fun i => ys[i]?)) := by
  subst hn
  refine ⟨fun i _ hi q => ?_, fun _ q => ⟨xs, ys, q.1, q.2, by omega⟩, fun i H v H' _ q y => ?_⟩
  · have h1 : i < xs.length := by omega
    have h2 : i < ys.length := by omega
    exact ⟨xs, ys, xs[i], ys[i], q.1, q.2, by simp [h1], by simp [h2]⟩
  · obtain ⟨T, x, z, h1, h2, h3, h4, h5⟩ := y
    exact ⟨T, x, z, h1, h2, h3, h4 xs q.1, h5 ys q.2⟩
theorem same_of {H H1 : Hp} {p : Addr} {o : HO} (e : upd H p o = H1) (n : H p = none) : Same H H1 := by subst e; exact same_upd n
theorem but_of {H H1 : Hp} {p : Addr} {o : HO} (e : upd H p o = H1) : But p H H1 := by subst e; exact But.upd
theorem there {H H1 : Hp} {p : Addr} {o : HO} (e : upd H p o = H1) : H1 p = some o := by subst e; exact upd_same
theorem cut_to (xs : List V) {m : Int} (h : 0 ≤ m) : cutV xs none (some m) = xs.take m.toNat := by
  have e := cut_full xs m.toNat
  rw [Int.toNat_of_nonneg h] at e
  exact e
theorem cut_of (xs : List V) {m : Int} (h : 0 ≤ m) : cutV xs (some m) none = xs.drop m.toNat := by
  have e := cut_from xs m.toNat
  rw [Int.toNat_of_nonneg h] at e
  exact e
theorem cut_in (xs : List V) {i j : Int} (h : 0 ≤ i) (h2 : 0 ≤ j) : cutV xs (some i) (some j) = (xs.drop i.toNat).take (j.toNat - i.toNat) := by
  have e := cut_mid xs i.toNat j.toNat
  rw [Int.toNat_of_nonneg h, Int.toNat_of_nonneg h2] at e
  exact e
/-- what was not tracked may change -/
theorem same_mut {H H1 : Hp} {p : Addr} {o : HO} (e : Same H H1) (h : H p = none) : Same H (upd H1 p o) := fun b x hb => by
  rw [upd_ne (ne_of_none hb h)]
  exact e b x hb
theorem fresh_back {H H1 : Hp} {p : Addr} (e : Same H H1) (h : H1 p = none) : H p = none := e.free h
theorem sz_of {n : Nat} (h : n ≤ 100000) : n ≤ sizeLine := Nat.le_trans h (by decide)
theorem sz_lt {n : Nat} (h : n < 100000) : n < sizeLine := Nat.lt_of_lt_of_le h (by decide)
theorem ty_tup {K : PySem.W.Frag} {H : Hp} {a : Addr} {xs : List V} (h : SqT K H a xs) : TyX K H (.ref a) (.type "tuple") := by
  rcases h with (h | ⟨o, h⟩) | ⟨o, its, n, h, hc, _⟩
  · exact .base (.tup h)
  · exact .fTuple h
  · exact .kTuple h hc
theorem Same.sqt {K : PySem.W.Frag} {H H' : Hp} {a : Addr} {xs : List V} (e : Same H H') (h : SqT K H a xs) : SqT K H' a xs := by
  rcases h with (h | ⟨o, h⟩) | h
  · exact .inl (.inl (e _ _ h))
  · exact .inl (.inr ⟨o, e _ _ h⟩)
  · exact .inr h
end Ls
namespace Ls
open PySem PySem.Spec PyProof.Rows L2 RZ
def topS (i : Nat) : Stmt := PySem.Challenge.pw_linesync_k14_whole_hidden_lengths.main.body.getD i (.Pass ⟨0, 0, 0, 0⟩)
end Ls
namespace Ls
open PySem PySem.Spec PyProof.Rows L2 RZ
local macro_rules | `(tactic| walk_at "cond") => `(tactic| first
  | exact (by decide)
  | exact (Nat.le_of_ble_eq_true rfl)
  | exact ⟨by decide, by decide, by decide⟩
  | exact ⟨by decide, by decide⟩
  | (with_reducible assumption)
  | exact Or.inl ⟨by omega, by omega⟩
  | exact Or.inr ⟨by omega, by omega⟩
  | exact ⟨by omega, by omega, by omega⟩
  | exact wide_div (b := 61) (by omega) (by omega) (by decide) (by decide)
  | (with_reducible omega))
local macro_rules | `(tactic| walk_at "at") => `(tactic| first | assumption | exact upd_same)
local macro_rules | `(tactic| walk_at "sim") => `(tactic| simp only [tSeq, tAsg, gName, tOp, tC, tVar, tRet, tRetN, tIfS, tTest, tB, tNext, tDrop, tNever, tCons, tNil, tTup, tLst, tUn, tAnd, tOr, tNot, tAndV, tOrV, tNotV, tIf, tCB, tCall, gSub, gTup, gCons, gNil, tPar, tPar3,
  tSl, tPart, tLc_eq, tFor_eq, tDIn_eq, tDNotIn_eq, tDGet_eq, sDPut_eq, tDNewK, C8.tCut, tYes, iEnum_eq, iList_eq, iTup_eq, iRng1_eq, iRng2_eq, iZipA_eq, iKeys_eq, wipe, tBM, List.map_cons, List.map_nil, List.length_map,  tNoPart, tChain, List.getElem?_cons_zero, List.getElem?_cons_succ, List.set_cons_zero, List.set_cons_succ, List.append_nil,
  s_I0, s_I, s_U, s_bl, s_int, s_some, s_eqI, s_neI, s_par2, s_par3, s_abs, s_max2, s_min2, s_cons, true_and, decide_eq_true_eq, Bool.not_eq_true', decide_eq_false_iff_not, if_true, Bool.true_eq_false, reduceCtorEq, reduceIte, Bool.false_eq_true, if_false, ite_true, ite_false])
local macro_rules | `(tactic| walk_at "go1") => `(tactic| first
  | ((with_reducible refine' And.intro ?k1 ?_); (case k1 => walk_at "cond"))
  | ((with_reducible refine' ixL_of ?k1 ?k2 ?_); (case k1 => walk_at "at"); (case k2 => rfl))
  | ((with_reducible refine' ixT_of ?k1 ?k2 ?_); (case k1 => walk_at "at"); (case k2 => rfl))
  | ((with_reducible refine' setL_of ?k1 ?k2 ?_); (case k1 => walk_at "at"); (case k2 => rfl))
  | ((with_reducible refine' lenT_of ?k1 ?_); (case k1 => walk_at "at"))
  | ((with_reducible refine' lenL_of ?k1 ?_); (case k1 => walk_at "at"))
  | (with_reducible refine isi_int ?_)
  | (with_reducible refine isi_int_bool ?_)
  | ((with_reducible refine' isi_tup ?k1 ?_); (case k1 => walk_at "at"))
  | walk_at "sim")
local macro_rules | `(tactic| walk_at "go") => `(tactic| repeat (walk_at "go1"))
section
variable {P : Program} {w : World} {K : PySem.W.Frag} {mg : Str → Option Value} {base : Heap}
/-! ### a source of draws -/
abbrev st_law_well : Stmt := topS 26
abbrev N_law_well : List Str := ["_law_cell", "_law_turn"]
theorem sc_law_well : FnScope N_law_well ["_law_cell", "_law_turn"] (C8.fnScope st_law_well) := C8.fnScope_by (by decide +kernel)
theorem start_law_well {v0 v1 : V} : L2.start N_law_well [v0, v1] = [some v0, some v1] := rfl
def spWell : Sp := fun vs H Q _ => ∃ c t : Int, vs = [.int c, .int t] ∧ ∀ (H' : Hp) (p : Addr) (x y : Int), Same H H' → H p = none → H' p = some (.lst [.int x, .int y, .int t]) → Q (.ref p) H'
theorem ok_law_well (D : DefAt K mg "_law_well" st_law_well ["_law_cell", "_law_turn"]) : C8.Cal P w K mg base 1 "_law_well" spWell [] := by
  refine cal_of D sc_law_well (fun vs H Q E h => ?_) (fun f cdv A outer s H vs Q E hr h => ?_)
  · obtain ⟨c, t, rfl, _⟩ := h
    rfl
  · obtain ⟨c, t, rfl, q⟩ := h
    refine ⟨_, (pss_cons (ps_if (pt_cmpR op_ge (pv 0) (pe_op op_pow pe_int pe_int) (nomark _)) (pss_one (ps_ret (pe_lst (pa_cons (pe_op op_sub (pv 0) (pe_op op_pow pe_int pe_int)) (pa_cons (pe_op op_mod (pv 0) pe_int) (pa_cons (pv 1) pa_nil)))))) pss_nil)
  (pss_one (ps_ret (pe_lst (pa_cons pe_int (pa_cons (pe_op op_mod (pv 0) pe_int) (pa_cons (pv 1) pa_nil))))))), ?_⟩
    rw [start_law_well]
    walk_at "go"
    refine ite2 (fun e => ?_) (fun e => ?_)
    · walk_at "go"
      exact fun p hp => q _ p _ _ (same_upd hp) hp upd_same
    · walk_at "go"
      exact fun p hp => q _ p _ _ (same_upd hp) hp upd_same
/-- what a source of draws holds: its counter at most m -/
def Bag (H : Hp) (a : Addr) (m : Int) : Prop := ∃ x y z : Int, H a = some (.lst [.int x, .int y, .int z]) ∧ 0 ≤ z ∧ z ≤ m
theorem Bag.mono {H : Hp} {a : Addr} {m n : Int} (h : Bag H a m) (e : m ≤ n) : Bag H a n := by
  obtain ⟨x, y, z, h1, h2, h3⟩ := h
  exact ⟨x, y, z, h1, h2, by omega⟩
theorem Bag.to {H H' : Hp} {a : Addr} {m : Int} (h : Bag H a m) (e : Same H H') : Bag H' a m := by
  obtain ⟨x, y, z, h1, h2, h3⟩ := h
  exact ⟨x, y, z, e _ _ h1, h2, h3⟩
abbrev st_law_take : Stmt := topS 27
abbrev N_law_take : List Str := ["_law_bag", "_law_many", "_law_found", "_law_p", "_law_n"]
theorem sc_law_take : FnScope N_law_take ["_law_bag", "_law_many"] (C8.fnScope st_law_take) := C8.fnScope_by (by decide +kernel)
theorem start_law_take {v0 v1 : V} : L2.start N_law_take [v0, v1] = [some v0, some v1, none, none, none] := rfl
def spTake : Sp := fun vs H Q _ => ∃ (a : Addr) (n m : Int), vs = [.ref a, .int n] ∧ Bag H a m ∧ m < 2 ^ 60 ∧ 0 < n ∧ n.natAbs < 2 ^ 200 ∧ ∀ (H' : Hp) (r : Int), But a H H' → Bag H' a (m + 1) → 0 ≤ r → r < n → Q (.int r) H'
theorem ok_law_take (D : DefAt K mg "_law_take" st_law_take ["_law_bag", "_law_many"]) : C8.Cal P w K mg base 1 "_law_take" spTake [] := by
  refine cal_of D sc_law_take (fun vs H Q E h => ?_) (fun f cdv A outer s H vs Q E hr h => ?_)
  · obtain ⟨a, n, m, rfl, _⟩ := h
    rfl
  · obtain ⟨a, n, m, rfl, ⟨x, y, z, ha, hz0, hzm⟩, hm, hn0, hn, q⟩ := h
    refine ⟨_, (pss_cons (ps_if (pt_cmpR op_gt (pe_ix ix_list (pv 0) pe_int (fun _ _ => rfl)) pe_int (nomark _)) (pss_cons (ps_set (i := 2) sc_law_take.nd rfl (Or.inl rfl) (pe_op op_mod (pe_ix ix_list (pv 0) pe_int (fun _ _ => rfl)) (pv 1)))
  (pss_cons (ps_asg (pe_op op_fdivW (pe_ix ix_list (pv 0) pe_int (fun _ _ => rfl)) (pv 1)) (pg_sub (pv 0) pe_int set_list))
  (pss_one (ps_ret (pv 2))))) pss_nil)
  (pss_cons (ps_asg (pe_op op_add (pe_ix ix_list (pv 0) pe_int (fun _ _ => rfl)) pe_int) (pg_sub (pv 0) pe_int set_list))
  (pss_cons (ps_set (i := 3) sc_law_take.nd rfl (Or.inl rfl) pe_int)
  (pss_cons (ps_set (i := 4) sc_law_take.nd rfl (Or.inl rfl) (pe_op op_mod (pe_op op_add (pe_ix ix_list (pv 0) pe_int (fun _ _ => rfl)) (pe_op op_mul pe_int (pe_ix ix_list (pv 0) pe_int (fun _ _ => rfl)))) (pv 3)))
  (pss_cons (ps_set (i := 4) sc_law_take.nd rfl (Or.inl rfl) (pe_op op_mod (pe_op op_add (pe_op op_add (pe_op op_mul (pv 4) (pv 4)) (pe_op op_mul pe_int (pe_op op_pow (pe_ix ix_list (pv 0) pe_int (fun _ _ => rfl)) pe_int))) pe_int) (pv 3)))
  (pss_one (ps_ret (pe_op op_mod (pe_op op_fdivW (pe_op op_mod (pe_op op_pow (pv 4) pe_int) (pv 3)) pe_int) (pv 1))))))))), ?_⟩
    rw [start_law_take]
    walk_at "go"
    refine ite2 (fun e => ?_) (fun e => ?_)
    · walk_at "go"
      refine ⟨wide_div hn0 hn (by decide) (by decide), setL_of ha rfl (q _ _ But.upd ⟨_, y, z, upd_same, hz0, by omega⟩ (Int.emod_nonneg _ (by omega)) (Int.emod_lt_of_pos _ hn0))⟩
    · walk_at "go"
      exact q _ _ But.upd ⟨x, y, z + 1, upd_same, by omega, by omega⟩ (Int.emod_nonneg _ (by omega)) (Int.emod_lt_of_pos _ hn0)
abbrev st_law_bags : Stmt := topS 28
abbrev N_law_bags : List Str := ["_law_script", "_law_most", "_law_k", "_law_cell"]
theorem sc_law_bags : FnScope N_law_bags ["_law_script", "_law_most"] (C8.fnScope st_law_bags) := C8.fnScope_by (by decide +kernel)
theorem start_law_bags {v0 v1 : V} : L2.start N_law_bags [v0, v1] = [some v0, some v1, none, none] := rfl
def spBags (K : PySem.W.Frag) : Sp := fun vs H Q _ => ∃ (a : Addr) (ns : List Int) (m : Int), vs = [.ref a, .int m] ∧ SqL K H a (ns.map V.int) ∧ ns.length ≤ 63 ∧ 0 ≤ m ∧ m ≤ 10 ∧ 
  ∀ (H' : Hp) (p : Addr) (bs : List Addr), Same H H' → H p = none → H' p = some (.lst (bs.map V.ref)) → bs.Nodup → (∀ b ∈ bs, Bag H' b 100000 ∧ H b = none) → Q (.ref p) H'
theorem ok_law_bags (T : Bl mg) (D : DefAt K mg "_law_bags" st_law_bags ["_law_script", "_law_most"]) (C_law_well : C8.Cal P w K mg base 1 "_law_well" spWell []) : C8.Cal P w K mg base 2 "_law_bags" (spBags K) [] := by
  refine cal_of D sc_law_bags (fun vs H Q E h => ?_) (fun f cdv A outer s H vs Q E hr h => ?_)
  · obtain ⟨a, ns, m, rfl, _⟩ := h
    rfl
  · obtain ⟨a, ns, m, rfl, hS, hlen, hm0, hm, q⟩ := h
    refine ⟨_, (pss_one (ps_ret (pe_lc (own := [("_law_k", 2), ("_law_cell", 3)]) (g := gTup K 2 (gCons (gName 2) (gCons (gName 3) gNil))) rfl sc_law_bags.nd (pi_enum (by rfl) T.enumerate_ (pa_cons (pe_op op_cat (pe_slice sl_list (pv 0) po_none (po_some (pv 1))) (pe_lst (pa_cons pe_int pa_nil))) pa_nil)) (blkOk_by (own := [("_law_k", 2), ("_law_cell", 3)]) (N := N_law_bags) (sc := (C8.fnScope st_law_bags)) (by decide +kernel)) (fun _ _ _ _ _ => (pg_tup rfl (pgs_cons (pg_name (i := 2) sc_law_bags.nd rfl (Or.inl rfl) (Or.inr rfl)) (pgs_cons (pg_name (i := 3) sc_law_bags.nd rfl (Or.inl rfl) (Or.inr rfl)) pgs_nil)))) (fun _ _ _ _ _ => pts_nil) (fun _ _ _ _ _ => (C8.pe_c C_law_well hr (by decide) rfl (pa_cons (pv 3) (pa_cons (pe_op op_mul pe_int (pv 2)) pa_nil))))))), ?_⟩
    rw [start_law_bags]
    walk_at "go"
    refine slL_of hS fun p1 n1 => ?_
    rw [cut_to _ hm0]
    generalize e1 : upd H p1 _ = H1
    walk_at "go"
    intro p2 n2
    generalize e2 : upd H1 p2 _ = H2
    have l1 : ((ns.map V.int).take m.toNat).length ≤ 63 := by rw [List.length_take, List.length_map]; omega
    refine cat_of (same_of e2 n2 _ _ (there e1)) (there e2) (sz_of (by rw [List.length_singleton]; omega)) fun p3 n3 => ?_
    have s2 : Same H H2 := (same_of e1 n1).trans (same_of e2 n2)
    generalize e3 : upd H2 p3 _ = H3
    walk_at "go"
    have s3 : Same H H3 := s2.trans (same_of e3 n3)
    refine enum_of (.of (there e3)) ?_
    refine lcB_of (walk_enum (xs := (ns.map V.int).take m.toNat ++ [V.int 0])) fun D hD => ?_
    refine ⟨fun i H' => ∃ bs : List Addr, bs.length = i ∧ Same H3 H' ∧ H' D = some (.lst (bs.map V.ref)) ∧ bs.Nodup ∧ ∀ b ∈ bs, Bag H' b 100000 ∧ H3 b = none ∧ b ≠ D, ⟨[], rfl, same_upd hD, upd_same, List.nodup_nil, fun b hb => nomatch hb⟩, ?_, ?_, ?_⟩
    · intro i H' hi ⟨bs, _, s, _⟩
      exact .of (s _ _ (there e3))
    · intro i x H' H'' hi ⟨bs, hl, sm, hD', hnd, hb⟩ ⟨T, x1, x2, ev, nT, eH, f1, f2⟩
      subst ev eH
      rw [List.length_append, List.length_singleton] at hi
      have ex1 : x1 = .int (i : Nat) := (Option.some.inj f1).symm
      subst ex1
      obtain ⟨c, rfl⟩ : ∃ c : Int, x2 = .int c := by
        have := List.mem_of_getElem? f2
        rcases List.mem_append.mp this with h | h
        · obtain ⟨c, _, e⟩ := List.mem_map.mp (List.mem_of_mem_take h)
          exact ⟨c, e.symm⟩
        · exact ⟨0, List.mem_singleton.mp h⟩
      walk_at "go"
      refine tupg_of upd_same rfl ?_
      generalize e5 : upd H' T _ = H5
      have s5 : Same H' H5 := same_of e5 nT
      walk_at "go"
      refine ⟨c, 977 * (i : Int), rfl, fun H6 p x y s6 n6 h6 => ?_⟩
      have hp : p ≠ D := fun z => by rw [z, s5 _ _ hD'] at n6; cases n6
      refine ⟨bs.map V.ref, s6 _ _ (s5 _ _ hD'), sz_lt (by rw [List.length_map]; omega), bs ++ [p], by rw [List.length_append, List.length_singleton, hl], same_mut (sm.trans (s5.trans s6)) hD, by rw [upd_same, List.map_append]; rfl, ?_, fun b hbm => ?_⟩
      · rw [List.nodup_append]
        refine ⟨hnd, List.nodup_cons.mpr ⟨fun h => (nomatch h), List.nodup_nil⟩, fun b hb1 b2 hb2 e => ?_⟩
        rw [List.mem_singleton.mp hb2] at e
        obtain ⟨⟨_, _, _, h, _⟩, _⟩ := hb b hb1
        rw [e] at h
        rw [s5 _ _ h] at n6
        cases n6
      · rcases List.mem_append.mp hbm with h | h
        · obtain ⟨⟨u1, u2, u3, h1, h2, h3⟩, h4, h5⟩ := hb b h
          exact ⟨⟨u1, u2, u3, by rw [upd_ne h5]; exact s6 _ _ (s5 _ _ h1), h2, h3⟩, h4, h5⟩
        · rw [List.mem_singleton.mp h]
          exact ⟨⟨x, y, 977 * (i : Int), by rw [upd_ne hp]; exact h6, by omega, by omega⟩, fresh_back (sm.trans s5) n6, hp⟩
    · intro H' ⟨bs, hl, sm, hD', hnd, hb⟩
      exact q H' D bs (s3.trans sm) (fresh_back s3 hD) hD' hnd fun b h => ⟨(hb b h).1, fresh_back s3 (hb b h).2.1⟩
abbrev st_law_words : Stmt := topS 30
abbrev N_law_words : List Str := ["_law_bag", "_law_most", "_law_longest", "_law_turn"]
theorem sc_law_words : FnScope N_law_words ["_law_bag", "_law_most"] (C8.fnScope st_law_words) := C8.fnScope_by (by decide +kernel)
theorem start_law_words {v0 v1 : V} : L2.start N_law_words [v0, v1] = [some v0, some v1, none, none] := rfl
def spWords : Sp := fun vs H Q _ => ∃ (a : Addr) (m k : Int), vs = [.ref a, .int m] ∧ Bag H a k ∧ k < 2 ^ 50 ∧ 1 ≤ m ∧ m ≤ 60 ∧
  ∀ (H' : Hp) (p : Addr) (ws : List Int), But a H H' → H p = none → H' p = some (.tup (ws.map V.int)) → Bag H' a (k + 100) → 1 ≤ ws.length → (ws.length : Int) ≤ m → (∀ x ∈ ws, 1 ≤ x ∧ x ≤ 40) → Q (.ref p) H'
theorem menu3 {r : Int} (h0 : 0 ≤ r) (h1 : r < 3) : ∃ L : Int, atI [V.int 3, V.int 12, V.int 40] r = some (.int L) ∧ 1 ≤ L ∧ L ≤ 40 := by
  have h : r = 0 ∨ r = 1 ∨ r = 2 := by omega
  rcases h with rfl | rfl | rfl
  · exact ⟨3, rfl, by decide, by decide⟩
  · exact ⟨12, rfl, by decide, by decide⟩
  · exact ⟨40, rfl, by decide, by decide⟩
theorem ok_law_words (T : Bl mg) (D : DefAt K mg "_law_words" st_law_words ["_law_bag", "_law_most"]) (C_law_take : C8.Cal P w K mg base 1 "_law_take" spTake []) : C8.Cal P w K mg base 2 "_law_words" spWords [] := by
  refine cal_of D sc_law_words (fun vs H Q E h => ?_) (fun f cdv A outer s H vs Q E hr h => ?_)
  · obtain ⟨a, m, k, rfl, _⟩ := h
    rfl
  · obtain ⟨a, m, k, rfl, hB, hk, hm1, hm, q⟩ := h
    refine ⟨_, (pss_cons (ps_set (i := 2) sc_law_words.nd rfl (Or.inr rfl) (pe_ix ix_list (pe_lst (pa_cons pe_int (pa_cons pe_int (pa_cons pe_int pa_nil)))) (C8.pe_c C_law_take hr (by decide) rfl (pa_cons (pv 0) (pa_cons pe_int pa_nil))) (fun _ _ => rfl)))
  (pss_one (ps_ret (pe_callTy call_tupS (by rfl) T.tuple_ (by decide +kernel) (pa_cons (pe_lc (own := [("_law_turn", 3)]) (g := gName 3) rfl sc_law_words.nd (pi_range1 (by rfl) T.range_ (pa_cons (pe_op op_add pe_int (C8.pe_c C_law_take hr (by decide) rfl (pa_cons (pv 0) (pa_cons (pv 1) pa_nil)))) pa_nil)) (blkOk_by (own := [("_law_turn", 3)]) (N := N_law_words) (sc := (C8.fnScope st_law_words)) (by decide +kernel)) (fun _ _ _ _ _ => (pg_name (i := 3) sc_law_words.nd rfl (Or.inl rfl) (Or.inr rfl))) (fun _ _ _ _ _ => pts_nil) (fun _ _ _ _ _ => (pe_op op_add pe_int (C8.pe_c C_law_take hr (by decide) rfl (pa_cons (pv 0) (pa_cons (pv 2) pa_nil)))))) pa_nil))))), ?_⟩
    rw [start_law_words]
    walk_at "go"
    intro p1 n1
    generalize e1 : upd H p1 _ = H1
    have s1 := same_of e1 n1
    have h1 := there e1
    refine ⟨a, 3, k, rfl, hB.to s1, by omega, by decide, by decide, fun H2 r b2 B2 hr0 hr1 => ?_⟩
    have hap : p1 ≠ a := fun z => by
      obtain ⟨_, _, _, h, _⟩ := hB
      rw [z, h] at n1
      cases n1
    obtain ⟨L, hL, hL1, hL40⟩ := menu3 hr0 hr1
    refine ixL_of (b2 _ _ hap h1) hL ?_
    walk_at "go"
    refine ⟨a, m, k + 1, rfl, B2, by omega, by omega, by omega, fun H3 r2 b3 B3 hr20 hr21 => ?_⟩
    walk_at "go"
    refine rng1_of (by omega) (by omega) ?_
    refine lcB_of walk_range fun D hD => ?_
    have b03 : But a H H3 := (But.of s1).trans (b2.trans b3)
    have haD : D ≠ a := fun z => by
      obtain ⟨_, _, _, h, _⟩ := B3
      rw [z, h] at hD
      cases hD
    refine ⟨fun i H' => ∃ ws : List Int, ws.length = i ∧ But a H3 H' ∧ H' D = some (.lst (ws.map V.int)) ∧ Bag H' a (k + 2 + i) ∧ ∀ x ∈ ws, 1 ≤ x ∧ x ≤ 40, ⟨[], rfl, But.of (same_upd hD), upd_same, ?_, fun b hb => nomatch hb⟩, fun _ _ _ _ => True.intro, ?_, ?_⟩
    · exact (B3.to (same_upd hD)).mono (by omega)
    · intro i x H' H'' hi ⟨ws, hl, bm, hD', hB', hw⟩ ⟨eH, ex⟩
      subst eH ex
      walk_at "go"
      refine ⟨a, L, k + 2 + i, rfl, hB', by omega, by omega, by omega, fun H4 r3 b4 B4 hr30 hr31 => ?_⟩
      walk_at "go"
      refine ⟨ws.map V.int, b4 _ _ haD hD', sz_lt (by rw [List.length_map]; omega), ws ++ [1 + r3], by rw [List.length_append, List.length_singleton, hl], ?_, by rw [upd_same, List.map_append]; rfl, ?_, fun b hbm => ?_⟩
      · exact fun b o hb ho => by
          rw [upd_ne (ne_of_none ho hD)]
          exact b4 _ _ hb (bm _ _ hb ho)
      · obtain ⟨u1, u2, u3, h1, h2, h3⟩ := B4
        exact ⟨u1, u2, u3, by rw [upd_ne (Ne.symm haD)]; exact h1, h2, by omega⟩
      · rcases List.mem_append.mp hbm with h | h
        · exact hw b h
        · rw [List.mem_singleton.mp h]
          omega
    · intro H' ⟨ws, hl, bm, hD', hB', hw⟩
      refine tupL_of hD' fun p n => ?_
      have hpa : p ≠ a := fun z => by
        obtain ⟨_, _, _, h, _⟩ := hB'
        rw [z, h] at n
        cases n
      refine q _ p ws (b03.trans (bm.trans (But.of (same_upd n)))) ?_ upd_same ((hB'.to (same_upd n)).mono (by omega)) (by omega) (by omega) hw
      cases hn : H p with
      | none => rfl
      | some o =>
        rw [bm _ _ hpa (b03 _ _ hpa hn)] at n
        cases n
/-- words: up to sixty lengths from 1 to 40 -/
def Wd (ws : List Int) : Prop := ws.length ≤ 60 ∧ ∀ x ∈ ws, 1 ≤ x ∧ x ≤ 40
theorem sum_wd : ∀ {ws : List Int}, (∀ x ∈ ws, 1 ≤ x ∧ x ≤ 40) → (ws.length : Int) ≤ ws.sum ∧ ws.sum ≤ 40 * ws.length
  | [], _ => by simp
  | x :: r, h => by
    have h1 := h x List.mem_cons_self
    have h2 := sum_wd (ws := r) fun y hy => h y (List.mem_cons_of_mem _ hy)
    rw [List.sum_cons, List.length_cons]
    omega
abbrev st_law_width : Stmt := topS 31
abbrev N_law_width : List Str := ["_law_bag", "_law_words_here", "_law_wide"]
theorem sc_law_width : FnScope N_law_width ["_law_bag", "_law_words_here"] (C8.fnScope st_law_width) := C8.fnScope_by (by decide +kernel)
theorem start_law_width {v0 v1 : V} : L2.start N_law_width [v0, v1] = [some v0, some v1, none] := rfl
def spWidth : Sp := fun vs H Q _ => ∃ (a p : Addr) (k : Int) (ws : List Int), vs = [.ref a, .ref p] ∧ Bag H a k ∧ k < 2 ^ 50 ∧ H p = some (.tup (ws.map V.int)) ∧ Wd ws ∧ 1 ≤ ws.length ∧
  ∀ (H' : Hp) (v : Int), But a H H' → Bag H' a (k + 2) → (∀ x ∈ ws, x ≤ v) → 1 ≤ v → v ≤ 2500 → Q (.int v) H'
theorem menu4 {r s : Int} (h0 : 0 ≤ r) (h1 : r < 4) (hs : 1 ≤ s) (hs2 : s ≤ 2460) : ∃ L : Int, atI [V.int 1, V.int 6, V.int 30, V.int s] r = some (.int L) ∧ 1 ≤ L ∧ L ≤ 2460 := by
  have h : r = 0 ∨ r = 1 ∨ r = 2 ∨ r = 3 := by omega
  rcases h with rfl | rfl | rfl | rfl
  · exact ⟨1, rfl, by decide, by decide⟩
  · exact ⟨6, rfl, by decide, by decide⟩
  · exact ⟨30, rfl, by decide, by decide⟩
  · exact ⟨s, rfl, hs, hs2⟩
theorem ok_law_width (T : Bl mg) (D : DefAt K mg "_law_width" st_law_width ["_law_bag", "_law_words_here"]) (C_law_take : C8.Cal P w K mg base 1 "_law_take" spTake []) : C8.Cal P w K mg base 2 "_law_width" spWidth [] := by
  refine cal_of D sc_law_width (fun vs H Q E h => ?_) (fun f cdv A outer s H vs Q E hr h => ?_)
  · obtain ⟨a, p, k, ws, rfl, _⟩ := h
    rfl
  · obtain ⟨a, p, k, ws, rfl, hB, hk, hp, ⟨hl, hw⟩, hl1, q⟩ := h
    have hpa : p ≠ a := by
      obtain ⟨_, _, _, h, _⟩ := hB
      exact ne_of hp h (by intro z; cases z)
    obtain ⟨g1, g2⟩ := sum_wd hw
    refine ⟨_, (pss_cons (ps_set (i := 2) sc_law_width.nd rfl (Or.inl rfl) (pe_ix ix_list (pe_lst (pa_cons pe_int (pa_cons pe_int (pa_cons pe_int (pa_cons (pe_op op_add (pe_callB (cr_sumT rfl) (by rfl) T.sum_ (by decide +kernel) (pa_cons (pv 1) pa_nil)) (pe_callB call_lenS (by rfl) T.len_ (by decide +kernel) (pa_cons (pv 1) pa_nil))) pa_nil))))) (C8.pe_c C_law_take hr (by decide) rfl (pa_cons (pv 0) (pa_cons pe_int pa_nil))) (fun _ _ => rfl)))
  (pss_one (ps_ret (pe_op op_add (pe_callB (cr_maxT rfl) (by rfl) T.max_ (by decide +kernel) (pa_cons (pv 1) pa_nil)) (C8.pe_c C_law_take hr (by decide) rfl (pa_cons (pv 0) (pa_cons (pv 2) pa_nil))))))), ?_⟩
    rw [start_law_width]
    walk_at "go"
    refine sumT_of hp ?_
    walk_at "go"
    intro p1 n1
    generalize e1 : upd H p1 _ = H1
    have s1 := same_of e1 n1
    have h1 := there e1
    refine ⟨a, 4, k, rfl, hB.to s1, by omega, by decide, by decide, fun H2 r b2 B2 hr0 hr1 => ?_⟩
    have hap : p1 ≠ a := fun z => by
      obtain ⟨_, _, _, h, _⟩ := hB
      rw [z, h] at n1
      cases n1
    obtain ⟨L, hL, hL1, hL40⟩ := menu4 (s := ws.sum + (ws.length : Int)) hr0 hr1 (by omega) (by omega)
    refine ixL_of (b2 _ _ hap h1) hL ?_
    walk_at "go"
    refine maxT_of (b2 _ _ hpa (s1 _ _ hp)) (by omega) fun m hm hmx => ?_
    walk_at "go"
    refine ⟨a, L, k + 1, rfl, B2, by omega, by omega, by omega, fun H3 r2 b3 B3 hr20 hr21 => ?_⟩
    walk_at "go"
    have := hw m hm
    exact q H3 _ ((But.of s1).trans (b2.trans b3)) (B3.mono (by omega)) (fun x hx => by have := hmx x hx; omega) (by omega) (by omega)
end
end Ls
namespace Ls
open PySem PySem.Spec PyProof.Rows L2 RZ
local macro_rules | `(tactic| walk_at "cond") => `(tactic| first
  | exact (by decide)
  | exact (Nat.le_of_ble_eq_true rfl)
  | exact ⟨by decide, by decide, by decide⟩
  | exact ⟨by decide, by decide⟩
  | (with_reducible assumption)
  | exact Or.inl ⟨by omega, by omega⟩
  | exact Or.inr ⟨by omega, by omega⟩
  | exact ⟨by omega, by omega, by omega⟩
  | exact wide_div (b := 61) (by omega) (by omega) (by decide) (by decide)
  | (with_reducible omega))
local macro_rules | `(tactic| walk_at "at") => `(tactic| first | assumption | exact upd_same)
local macro_rules | `(tactic| walk_at "sim") => `(tactic| simp only [tSeq, tAsg, gName, tOp, tC, tVar, tRet, tRetN, tIfS, tTest, tB, tNext, tDrop, tNever, tCons, tNil, tTup, tLst, tUn, tAnd, tOr, tNot, tAndV, tOrV, tNotV, tIf, tCB, tCall, gSub, gTup, gCons, gNil, tPar, tPar3,
  tSl, tPart, tLc_eq, tFor_eq, tDIn_eq, tDNotIn_eq, tDGet_eq, sDPut_eq, tDNewK, C8.tCut, tYes, iEnum_eq, iList_eq, iTup_eq, iRng1_eq, iRng2_eq, iZipA_eq, iKeys_eq, wipe, tBM, List.map_cons, List.map_nil, List.length_map,  tNoPart, tChain, List.getElem?_cons_zero, List.getElem?_cons_succ, List.set_cons_zero, List.set_cons_succ, List.append_nil,
  s_I0, s_I, s_U, s_bl, s_int, s_some, s_eqI, s_neI, s_par2, s_par3, s_abs, s_max2, s_min2, s_cons, true_and, decide_eq_true_eq, Bool.not_eq_true', decide_eq_false_iff_not, if_true, Bool.true_eq_false, reduceCtorEq, reduceIte, Bool.false_eq_true, if_false, ite_true, ite_false])
local macro_rules | `(tactic| walk_at "go1") => `(tactic| first
  | ((with_reducible refine' And.intro ?k1 ?_); (case k1 => walk_at "cond"))
  | ((with_reducible refine' ixL_of ?k1 ?k2 ?_); (case k1 => walk_at "at"); (case k2 => rfl))
  | ((with_reducible refine' ixT_of ?k1 ?k2 ?_); (case k1 => walk_at "at"); (case k2 => rfl))
  | ((with_reducible refine' setL_of ?k1 ?k2 ?_); (case k1 => walk_at "at"); (case k2 => rfl))
  | ((with_reducible refine' lenT_of ?k1 ?_); (case k1 => walk_at "at"))
  | ((with_reducible refine' lenL_of ?k1 ?_); (case k1 => walk_at "at"))
  | (with_reducible refine isi_int ?_)
  | (with_reducible refine isi_int_bool ?_)
  | ((with_reducible refine' isi_tup ?k1 ?_); (case k1 => walk_at "at"))
  | walk_at "sim")
local macro_rules | `(tactic| walk_at "go") => `(tactic| repeat (walk_at "go1"))
section
variable {P : Program} {w : World} {K : PySem.W.Frag} {mg : Str → Option Value} {base : Heap}
/-! ### texts.py -/
abbrev st_is_integer : Stmt := topS 10
abbrev N_is_integer : List Str := ["value"]
theorem sc_is_integer : FnScope N_is_integer ["value"] (C8.fnScope st_is_integer) := C8.fnScope_by (by decide +kernel)
theorem start_is_integer {v0 : V} : L2.start N_is_integer [v0] = [some v0] := rfl
def spIsInt : Sp := fun vs H Q _ => ∃ i : Int, vs = [.int i] ∧ Q (.bl true) H
theorem ok_is_integer (T : Bl mg) (D : DefAt K mg "is_integer" st_is_integer ["value"]) : C8.Cal P w K mg base 1 "is_integer" spIsInt [] := by
  refine cal_of D sc_is_integer (fun vs H Q E h => ?_) (fun f cdv A outer s H vs Q E hr h => ?_)
  · obtain ⟨i, rfl, _⟩ := h
    rfl
  · obtain ⟨i, rfl, q⟩ := h
    refine ⟨_, (pss_one (ps_ret (pe_and (pe_callB call_isi (by rfl) T.isinstance_ (by decide +kernel) (pa_cons (pv 0) (pa_cons (pe_bltn (v := .ty "int") (by rfl) T.int_ (by decide +kernel) rfl) pa_nil))) (pe_one (pe_not (pe_callB call_isi (by rfl) T.isinstance_ (by decide +kernel) (pa_cons (pv 0) (pa_cons (pe_bltn (v := .ty "bool") (by rfl) T.bool_ (by decide +kernel) rfl) pa_nil)))))))), ?_⟩
    rw [start_is_integer]
    walk_at "go"
    exact q
abbrev st_in_range : Stmt := topS 11
abbrev N_in_range : List Str := ["value", "low", "high"]
theorem sc_in_range : FnScope N_in_range ["value", "low", "high"] (C8.fnScope st_in_range) := C8.fnScope_by (by decide +kernel)
theorem start_in_range {v0 v1 v2 : V} : L2.start N_in_range [v0, v1, v2] = [some v0, some v1, some v2] := rfl
def spInRange : Sp := fun vs H Q _ => ∃ v l h : Int, vs = [.int v, .int l, .int h] ∧ Q (.bl (decide (l ≤ v ∧ v ≤ h))) H
theorem ok_in_range (T : Bl mg) (D : DefAt K mg "in_range" st_in_range ["value", "low", "high"]) (C_is_integer : C8.Cal P w K mg base 1 "is_integer" spIsInt []) : C8.Cal P w K mg base 2 "in_range" spInRange [] := by
  refine cal_of D sc_in_range (fun vs H Q E h => ?_) (fun f cdv A outer s H vs Q E hr h => ?_)
  · obtain ⟨v, l, h, rfl, _⟩ := h
    rfl
  · obtain ⟨v, l, h, rfl, q⟩ := h
    refine ⟨_, (pss_one (ps_ret (pe_and (C8.pe_c C_is_integer hr (by decide) rfl (pa_cons (pv 0) pa_nil)) (pe_one (pe_chain op_le op_le (pv 1) (pv 0) (pv 2)))))), ?_⟩
    rw [start_in_range]
    walk_at "go"
    refine ⟨v, rfl, ?_⟩
    walk_at "go"
    by_cases h1 : l ≤ v
    · rw [if_pos h1]
      rw [show decide (l ≤ v ∧ v ≤ h) = decide (v ≤ h) from decide_eq_decide.mpr ⟨fun z => z.2, fun z => ⟨h1, z⟩⟩] at q
      exact q
    · rw [if_neg h1]
      rw [show decide (l ≤ v ∧ v ≤ h) = false from decide_eq_false fun z => h1 z.1] at q
      exact q
theorem in_yes {v l h : Int} (h1 : l ≤ v) (h2 : v ≤ h) {H : Hp} {Q : VK} {E : XK} (q : Q (.bl true) H) : spInRange [.int v, .int l, .int h] H Q E := ⟨v, l, h, rfl, by rw [decide_eq_true ⟨h1, h2⟩]; exact q⟩
abbrev st_is_words : Stmt := topS 12
abbrev N_is_words : List Str := ["value", "length"]
theorem sc_is_words : FnScope N_is_words ["value"] (C8.fnScope st_is_words) := C8.fnScope_by (by decide +kernel)
theorem start_is_words {v0 : V} : L2.start N_is_words [v0] = [some v0, none] := rfl
def spIsWords : Sp := fun vs H Q _ => ∃ (p : Addr) (ws : List Int), vs = [.ref p] ∧ H p = some (.tup (ws.map V.int)) ∧ Wd ws ∧ ∀ H', Same H H' → Q (.bl true) H'
theorem ok_is_words (T : Bw mg) (D : DefAt K mg "is_words" st_is_words ["value"]) (C_in_range : C8.Cal P w K mg base 2 "in_range" spInRange []) : C8.Cal P w K mg base 3 "is_words" spIsWords [] := by
  refine cal_of D sc_is_words (fun vs H Q E h => ?_) (fun f cdv A outer s H vs Q E hr h => ?_)
  · obtain ⟨p, ws, rfl, _⟩ := h
    rfl
  · obtain ⟨p, ws, rfl, hp, ⟨hl, hw⟩, q⟩ := h
    refine ⟨_, (pss_cons (ps_if (PW.pt (pw_or (pt_not (pt_val (pe_callB call_isi (by rfl) T.isinstance_ (by decide +kernel) (pa_cons (pv 0) (pa_cons (pe_bltn (v := .ty "tuple") (by rfl) T.tuple_ (by decide +kernel) rfl) pa_nil))))) (pw_or1 (pt_cmpR op_gt (pe_callB call_lenS (by rfl) T.len_ (by decide +kernel) (pa_cons (pv 0) pa_nil)) (C8.pe_gc rfl T.mw) (nomark _))))) (pss_one (ps_ret pe_bl)) pss_nil)
  (pss_one (ps_ret (pe_callB (cr_all rfl) (by rfl) T.all_ (by decide +kernel) (pa_cons (pe_lc (own := [("length", 1)]) (g := gName 1) rfl sc_is_words.nd (pi_tup (pv 0)) (blkOk_by (own := [("length", 1)]) (N := N_is_words) (sc := (C8.fnScope st_is_words)) (by decide +kernel)) (fun _ _ _ _ _ => (pg_name (i := 1) sc_is_words.nd rfl (Or.inl rfl) (Or.inr rfl))) (fun _ _ _ _ _ => pts_nil) (fun _ _ _ _ _ => (C8.pe_c C_in_range hr (by decide) rfl (pa_cons (pv 1) (pa_cons pe_int (pa_cons (C8.pe_gc rfl T.ml) pa_nil)))))) pa_nil))))), ?_⟩
    rw [start_is_words]
    walk_at "go"
    refine ite2 (fun e => ?_) (fun e => ?_)
    · omega
    · walk_at "go"
      refine tup_of (.of hp) ?_
      refine lcB_of (walk_tup (xs := ws.map V.int)) fun D hD => ?_
      refine ⟨fun i H' => Same H H' ∧ H' D = some (.lst ((List.replicate i true).map V.bl)), ⟨same_upd hD, upd_same⟩, fun i H' hi h => .of (h.1 _ _ hp), ?_, ?_⟩
      · intro i x H' H'' hi ⟨sm, hD'⟩ ⟨eH, ex⟩
        subst eH
        rw [List.getElem?_map] at ex
        obtain ⟨y, hy, rfl⟩ := Option.map_eq_some_iff.mp ex
        have hy2 := hw y (List.mem_of_getElem? hy)
        rw [List.length_map] at hi
        walk_at "go"
        refine in_yes hy2.1 hy2.2 ⟨_, hD', sz_lt (by simp; omega), same_mut sm hD, ?_⟩
        rw [upd_same, List.replicate_succ', List.map_append]
        rfl
      · intro H' ⟨sm, hD'⟩
        refine all_of hD' ?_
        rw [show (List.replicate (ws.map V.int).length true).all id = true by simp]
        exact q _ sm
/-- a width of words -/
def Fit (ws : List Int) (v : Int) : Prop := (∀ x ∈ ws, x ≤ v) ∧ 1 ≤ v ∧ v ≤ 2500
abbrev st_check_count : Stmt := topS 13
abbrev N_check_count : List Str := ["value", "low", "high"]
theorem sc_check_count : FnScope N_check_count ["value", "low", "high"] (C8.fnScope st_check_count) := C8.fnScope_by (by decide +kernel)
theorem start_check_count {v0 v1 v2 : V} : L2.start N_check_count [v0, v1, v2] = [some v0, some v1, some v2] := rfl
def spChkCount : Sp := fun vs H Q _ => ∃ v l h : Int, vs = [.int v, .int l, .int h] ∧ l ≤ v ∧ v ≤ h ∧ Q .non H
theorem ok_check_count (D : DefAt K mg "check_count" st_check_count ["value", "low", "high"]) (C_in_range : C8.Cal P w K mg base 2 "in_range" spInRange []) : C8.Cal P w K mg base 3 "check_count" spChkCount [] := by
  refine cal_of D sc_check_count (fun vs H Q E h => ?_) (fun f cdv A outer s H vs Q E hr h => ?_)
  · obtain ⟨v, l, h, rfl, _⟩ := h
    rfl
  · obtain ⟨v, l, h, rfl, h1, h2, q⟩ := h
    refine ⟨_, (pss_one (ps_if (pt_not (pt_val (C8.pe_c C_in_range hr (by decide) rfl (pa_cons (pv 0) (pa_cons (pv 1) (pa_cons (pv 2) pa_nil)))))) (pss_one ps_never) pss_nil)), ?_⟩
    rw [start_check_count]
    walk_at "go"
    refine in_yes h1 h2 ?_
    walk_at "go"
    exact q
end
end Ls
namespace Ls
/-! ### greedy layouts: the mathematics -/
def lastLe (f : Nat → Int) (b : Int) : Nat → Nat
  | 0 => 0
  | n + 1 => if f (n + 1) ≤ b then n + 1 else lastLe f b n
theorem lastLe_spec (f : Nat → Int) (b : Int) (h0 : f 0 ≤ b) : ∀ n : Nat, lastLe f b n ≤ n ∧ f (lastLe f b n) ≤ b ∧ ∀ k, lastLe f b n < k → k ≤ n → b < f k
  | 0 => ⟨Nat.le_refl _, h0, fun k h1 h2 => by have : lastLe f b 0 = 0 := rfl; omega⟩
  | n + 1 => by
    obtain ⟨h1, h2, h3⟩ := lastLe_spec f b h0 n
    unfold lastLe
    split
    · exact ⟨Nat.le_refl _, by assumption, fun k h4 h5 => by omega⟩
    · refine ⟨by omega, h2, fun k h4 h5 => ?_⟩
      rcases Nat.lt_or_ge n k with g | g
      · have e : k = n + 1 := by omega
        rw [e]
        omega
      · exact h3 k h4 g
/-- the place behind the first i words, each with a blank -/
def pf (ws : List Int) (i : Nat) : Int := (ws.take i).sum + i
theorem pf_zero (ws : List Int) : pf ws 0 = 0 := rfl
theorem sum_take_succ {ws : List Int} {i : Nat} {x : Int} (h : ws[i]? = some x) : (ws.take (i + 1)).sum = (ws.take i).sum + x := by
  rw [List.take_add_one, h, List.sum_append]
  show _ + (x + 0) = _
  omega
theorem pf_succ {ws : List Int} {i : Nat} {x : Int} (h : ws[i]? = some x) : pf ws (i + 1) = pf ws i + x + 1 := by
  unfold pf
  rw [sum_take_succ h]
  omega
theorem pf_last (ws : List Int) : pf ws ws.length = ws.sum + ws.length := by
  unfold pf
  rw [List.take_length]
/-- the lengths are positive and fit -/
structure Tx (ws : List Int) (w : Int) : Prop where
  lo : ∀ x ∈ ws, 1 ≤ x
  hi : ∀ x ∈ ws, x ≤ w
theorem Tx.wide {ws : List Int} {w w' : Int} (R : Tx ws w) (h : w ≤ w') : Tx ws w' := ⟨R.lo, fun x hx => by have := R.hi x hx; omega⟩
section
variable {ws : List Int} {w : Int} (R : Tx ws w)
include R
theorem pf_step {i : Nat} (h : i < ws.length) : pf ws i + 2 ≤ pf ws (i + 1) ∧ pf ws (i + 1) ≤ pf ws i + w + 1 := by
  have e := List.getElem?_eq_getElem h
  have h1 := R.lo _ (List.getElem_mem h)
  have h2 := R.hi _ (List.getElem_mem h)
  rw [pf_succ e]
  omega
theorem pf_mono {i : Nat} : ∀ {j : Nat}, i ≤ j → j ≤ ws.length → pf ws i + 2 * (j - i : Nat) ≤ pf ws j
  | 0, h, _ => by
    have e : i = 0 := by omega
    rw [e]
    simp
  | j + 1, h, hj => by
    rcases Nat.lt_or_ge j i with g | g
    · have e : i = j + 1 := by omega
      rw [e, Nat.sub_self]
      simp
    · have h1 := pf_mono g (by omega)
      have h2 := (pf_step R (i := j) (by omega)).1
      omega
theorem pf_lt {i j : Nat} (hi : i ≤ ws.length) (h : pf ws i < pf ws j) : i < j := by
  rcases Nat.lt_or_ge i j with g | g
  · exact g
  · have := pf_mono R g hi
    omega
end
/-- where the following line starts -/
def nx (ws : List Int) (w : Int) (i : Nat) : Nat := lastLe (pf ws) (pf ws i + w + 1) ws.length
section
variable {ws : List Int} {w : Int} (R : Tx ws w)
include R
theorem nx_spec {i : Nat} (h : i < ws.length) : i < nx ws w i ∧ nx ws w i ≤ ws.length ∧ pf ws (nx ws w i) ≤ pf ws i + w + 1 ∧ ∀ k, nx ws w i < k → k ≤ ws.length → pf ws i + w + 1 < pf ws k := by
  have hs := pf_step R h
  have h0 : pf ws 0 ≤ pf ws i + w + 1 := by
    have := pf_mono R (Nat.zero_le i) (by omega)
    omega
  obtain ⟨h1, h2, h3⟩ := lastLe_spec (pf ws) (pf ws i + w + 1) h0 ws.length
  refine ⟨?_, h1, h2, h3⟩
  rcases Nat.lt_or_ge i (nx ws w i) with g | g
  · exact g
  · have := h3 (i + 1) (by show nx ws w i < _; omega) (by omega)
    omega
theorem nx_gt {i : Nat} (h : i < ws.length) : i < nx ws w i := (nx_spec R h).1
theorem nx_le {i : Nat} (h : i < ws.length) : nx ws w i ≤ ws.length := (nx_spec R h).2.1
theorem nx_eq {i j : Nat} (h : i < ws.length) (h1 : j ≤ ws.length) (h2 : pf ws j ≤ pf ws i + w + 1) (h3 : j = ws.length ∨ pf ws i + w + 1 < pf ws (j + 1)) : nx ws w i = j := by
  obtain ⟨a1, a2, a3, a4⟩ := nx_spec R h
  rcases Nat.lt_trichotomy (nx ws w i) j with g | g | g
  · have := a4 j g h1
    omega
  · exact g
  · rcases h3 with e | e
    · omega
    · have := pf_mono R (i := j + 1) (j := nx ws w i) g a2
      omega
theorem nx_mono {w' : Int} (hw : w ≤ w') {i j : Nat} (hij : i ≤ j) (h : j < ws.length) : nx ws w i ≤ nx ws w' j := by
  obtain ⟨a1, a2, a3, a4⟩ := nx_spec R (i := i) (by omega)
  obtain ⟨b1, b2, b3, b4⟩ := nx_spec (R.wide hw) h
  rcases Nat.lt_or_ge (nx ws w' j) (nx ws w i) with g | g
  · have := b4 _ g a2
    have := pf_mono R hij (by omega)
    omega
  · exact g
end
/-- the line starts from i, f lines at most -/
def stf (ws : List Int) (w : Int) : Nat → Nat → List Int
  | 0, _ => []
  | f + 1, i => if i < ws.length then (i : Int) :: stf ws w f (nx ws w i) else []
def sts (ws : List Int) (w : Int) (i : Nat) : List Int := stf ws w ws.length i
theorem sts_end {ws : List Int} {w : Int} {i : Nat} (h : ws.length ≤ i) : sts ws w i = [] := by
  unfold sts
  cases hn : ws.length with
  | zero => rfl
  | succ n =>
    unfold stf
    rw [if_neg (by omega)]
section
variable {ws : List Int} {w : Int} (R : Tx ws w)
include R
theorem stf_more {i : Nat} : ∀ {f g : Nat}, ws.length ≤ i + f → ws.length ≤ i + g → stf ws w f i = stf ws w g i := by
  intro f
  induction f generalizing i with
  | zero =>
    intro g h1 h2
    cases g with
    | zero => rfl
    | succ g => unfold stf; rw [if_neg (by omega)]
  | succ f ih =>
    intro g h1 h2
    cases g with
    | zero => unfold stf; rw [if_neg (by omega)]
    | succ g =>
      unfold stf
      by_cases h : i < ws.length
      · rw [if_pos h, if_pos h, ih (i := nx ws w i) (g := g) (by have := nx_gt R h; omega) (by have := nx_gt R h; omega)]
      · rw [if_neg h, if_neg h]
theorem sts_cons {i : Nat} (h : i < ws.length) : sts ws w i = (i : Int) :: sts ws w (nx ws w i) := by
  have e : sts ws w i = stf ws w (ws.length + 1) i := stf_more R (by omega) (by omega)
  rw [e]
  show (if i < ws.length then (i : Int) :: stf ws w ws.length (nx ws w i) else []) = _
  rw [if_pos h]
  rfl
omit R
/-- how many lines from i -/
def cnt (ws : List Int) (w : Int) (i : Nat) : Nat := (sts ws w i).length
theorem cnt_end {i : Nat} (h : ws.length ≤ i) : cnt ws w i = 0 := by
  unfold cnt
  rw [sts_end h]
  rfl
include R
theorem cnt_cons {i : Nat} (h : i < ws.length) : cnt ws w i = cnt ws w (nx ws w i) + 1 := by
  unfold cnt
  rw [sts_cons R h]
  rfl
theorem cnt_le : ∀ (d i : Nat), d = ws.length - i → cnt ws w i ≤ d
  | d, i, hd => by
    rcases Nat.lt_or_ge i ws.length with h | h
    · have g := nx_gt R h
      have := cnt_le (ws.length - nx ws w i) (nx ws w i) rfl
      rw [cnt_cons R h]
      omega
    · rw [cnt_end h]
      exact Nat.zero_le _
  termination_by d => d
theorem cnt_pos {i : Nat} (h : i < ws.length) : 1 ≤ cnt ws w i := by
  rw [cnt_cons R h]
  omega
theorem cnt_mono {w' : Int} (hw : w ≤ w') : ∀ (d i j : Nat), d = ws.length - i → i ≤ j → cnt ws w' j ≤ cnt ws w i
  | d, i, j, hd, hij => by
    rcases Nat.lt_or_ge j ws.length with h | h
    · rw [cnt_cons R (i := i) (by omega), cnt_cons (R.wide hw) h]
      have g := nx_gt R (i := i) (by omega)
      have := cnt_mono hw (ws.length - nx ws w i) (nx ws w i) (nx ws w' j) rfl (nx_mono R hw hij h)
      omega
    · rw [cnt_end h]
      exact Nat.zero_le _
  termination_by d => d
theorem cnt_anti {w' : Int} (hw : w ≤ w') (i : Nat) : cnt ws w' i ≤ cnt ws w i := cnt_mono R hw _ i i rfl (Nat.le_refl i)
/-- one line holds all -/
theorem cnt_one (h : 0 < ws.length) (hw : ws.sum + ws.length ≤ w + 1) : cnt ws w 0 = 1 := by
  rw [cnt_cons R h, nx_eq R h (Nat.le_refl _) (by rw [pf_last, pf_zero]; omega) (.inl rfl), cnt_end (Nat.le_refl _)]
end
end Ls
namespace Ls
open PySem PySem.Spec PyProof.Rows L2 RZ
local macro_rules | `(tactic| walk_at "cond") => `(tactic| first
  | exact (by decide)
  | exact (Nat.le_of_ble_eq_true rfl)
  | exact ⟨by decide, by decide, by decide⟩
  | exact ⟨by decide, by decide⟩
  | (with_reducible assumption)
  | exact Or.inl ⟨by omega, by omega⟩
  | exact Or.inr ⟨by omega, by omega⟩
  | exact ⟨by omega, by omega, by omega⟩
  | exact wide_div (b := 61) (by omega) (by omega) (by decide) (by decide)
  | (with_reducible omega))
local macro_rules | `(tactic| walk_at "at") => `(tactic| first | assumption | exact upd_same)
local macro_rules | `(tactic| walk_at "sim") => `(tactic| simp only [tSeq, tAsg, gName, tOp, tC, tVar, tRet, tRetN, tIfS, tTest, tB, tNext, tDrop, tNever, tCons, tNil, tTup, tLst, tUn, tAnd, tOr, tNot, tAndV, tOrV, tNotV, tIf, tCB, tCall, gSub, gTup, gCons, gNil, tPar, tPar3,
  tSl, tPart, tLc_eq, tFor_eq, tDIn_eq, tDNotIn_eq, tDGet_eq, sDPut_eq, tDNewK, C8.tCut, tYes, iEnum_eq, iList_eq, iTup_eq, iRng1_eq, iRng2_eq, iZipA_eq, iKeys_eq, wipe, tBM, List.map_cons, List.map_nil, List.length_map,  tNoPart, tChain, List.getElem?_cons_zero, List.getElem?_cons_succ, List.set_cons_zero, List.set_cons_succ, List.append_nil,
  s_I0, s_I, s_U, s_bl, s_int, s_some, s_eqI, s_neI, s_par2, s_par3, s_abs, s_max2, s_min2, s_cons, true_and, decide_eq_true_eq, Bool.not_eq_true', decide_eq_false_iff_not, if_true, Bool.true_eq_false, reduceCtorEq, reduceIte, Bool.false_eq_true, if_false, ite_true, ite_false])
local macro_rules | `(tactic| walk_at "go1") => `(tactic| first
  | ((with_reducible refine' And.intro ?k1 ?_); (case k1 => walk_at "cond"))
  | ((with_reducible refine' ixL_of ?k1 ?k2 ?_); (case k1 => walk_at "at"); (case k2 => rfl))
  | ((with_reducible refine' ixT_of ?k1 ?k2 ?_); (case k1 => walk_at "at"); (case k2 => rfl))
  | ((with_reducible refine' setL_of ?k1 ?k2 ?_); (case k1 => walk_at "at"); (case k2 => rfl))
  | ((with_reducible refine' lenT_of ?k1 ?_); (case k1 => walk_at "at"))
  | ((with_reducible refine' lenL_of ?k1 ?_); (case k1 => walk_at "at"))
  | (with_reducible refine isi_int ?_)
  | (with_reducible refine isi_int_bool ?_)
  | ((with_reducible refine' isi_tup ?k1 ?_); (case k1 => walk_at "at"))
  | walk_at "sim")
local macro_rules | `(tactic| walk_at "go") => `(tactic| repeat (walk_at "go1"))
section
variable {P : Program} {w : World} {K : PySem.W.Frag} {mg : Str → Option Value} {base : Heap}
theorem tx_of {ws : List Int} {v : Int} (hw : Wd ws) (hf : Fit ws v) : Tx ws v := ⟨fun x hx => (hw.2 x hx).1, hf.1⟩
theorem sum_cut (ws : List Int) {s e : Nat} (h : s ≤ e) : ((ws.drop s).take (e - s)).sum = (ws.take e).sum - (ws.take s).sum := by
  have h1 : ws.take e = ws.take s ++ (ws.drop s).take (e - s) := by
    rw [← List.take_add, Nat.add_sub_cancel' h]
  rw [h1, List.sum_append]
  omega
theorem map_cut (ws : List Int) (s e : Nat) : ((ws.map V.int).drop s).take (e - s) = ((ws.drop s).take (e - s)).map V.int := by rw [List.map_take, List.map_drop]
abbrev st_next_index : Stmt := topS 14
abbrev N_next_index : List Str := ["words", "width", "index", "used"]
theorem sc_next_index : FnScope N_next_index ["words", "width", "index"] (C8.fnScope st_next_index) := C8.fnScope_by (by decide +kernel)
theorem start_next_index {v0 v1 v2 : V} : L2.start N_next_index [v0, v1, v2] = [some v0, some v1, some v2, none] := rfl
def spNext : Sp := fun vs H Q _ => ∃ (p : Addr) (ws : List Int) (v : Int) (i : Nat), vs = [.ref p, .int v, .int i] ∧ H p = some (.tup (ws.map V.int)) ∧ Tx ws v ∧ i < ws.length ∧ Q (.int (nx ws v i : Nat)) H
theorem at_word {ws : List Int} {i : Nat} (h : i < ws.length) : atI (ws.map V.int) ((i : Nat) : Int) = some (.int ws[i]) := atI_nat (by rw [List.getElem?_map, List.getElem?_eq_getElem h]; rfl)
theorem ok_next_index (T : Bl mg) (D : DefAt K mg "next_index" st_next_index ["words", "width", "index"]) : C8.Cal P w K mg base 1 "next_index" spNext [] := by
  refine cal_of D sc_next_index (fun vs H Q E h => ?_) (fun f cdv A outer s H vs Q E hr h => ?_)
  · obtain ⟨p, ws, v, i, rfl, _⟩ := h
    rfl
  · obtain ⟨p, ws, v, i, rfl, hp, R, hi, q⟩ := h
    refine ⟨_, (pss_cons (ps_set (i := 3) sc_next_index.nd rfl (Or.inl rfl) (pe_ix ix_tup (pv 0) (pv 2) (fun _ _ => rfl)))
  (pss_cons (ps_set (i := 2) sc_next_index.nd rfl (Or.inl rfl) (pe_op op_add (pv 2) pe_int))
  (pss_cons (ps_while PassesOwn.never (PW.pt (pw_and (pt_cmpR op_lt (pv 2) (pe_callB call_lenS (by rfl) T.len_ (by decide +kernel) (pa_cons (pv 0) pa_nil)) (nomark _)) (pw_and1 (pt_cmpR op_le (pe_op op_add (pe_op op_add (pv 3) pe_int) (pe_ix ix_tup (pv 0) (pv 2) (fun _ _ => rfl))) (pv 1) (nomark _))))) (pss_cons (ps_set (i := 3) sc_next_index.nd rfl (Or.inl rfl) (pe_op op_add (pe_op op_add (pv 3) pe_int) (pe_ix ix_tup (pv 0) (pv 2) (fun _ _ => rfl))))
  (pss_one (ps_set (i := 2) sc_next_index.nd rfl (Or.inl rfl) (pe_op op_add (pv 2) pe_int)))))
  (pss_one (ps_ret (pv 2)))))), ?_⟩
    rw [start_next_index]
    walk_at "go"
    refine ixT_of hp (at_word hi) ?_
    walk_at "go"
    have e1 := pf_succ (List.getElem?_eq_getElem hi)
    have hs := (pf_step R hi).2
    refine while_of (fun m σ H' => ∃ j : Nat, H' = H ∧ i < j ∧ j ≤ ws.length ∧ pf ws j ≤ pf ws i + v + 1 ∧ m = ws.length - j ∧ σ = [some (.ref p), some (.int v), some (.int (j : Nat)), some (.int (pf ws j - pf ws i - 1))])
      _ ⟨i + 1, rfl, Nat.lt_succ_self _, hi, hs, rfl, ?_⟩ ?_
    · rw [show pf ws (i + 1) - pf ws i - 1 = ws[i] by omega]
      rfl
    · rintro m σ H' ⟨j, rfl, hij, hjn, hle, hm, rfl⟩
      walk_at "go"
      refine ite2 (fun e => ?_) (fun e => ?_)
      · have hj : j < ws.length := by omega
        have e2 := pf_succ (List.getElem?_eq_getElem hj)
        refine ixT_of hp (at_word hj) ?_
        walk_at "go"
        refine ite2 (fun e3 => ?_) (fun e3 => ?_)
        · refine whG_of ?_
          walk_at "go"
          refine ixT_of hp (at_word hj) ?_
          walk_at "go"
          refine ⟨_, ?_, j + 1, by omega, by omega, by omega, rfl, ?_⟩
          · omega
          · rw [show pf ws j - pf ws i - 1 + 1 + ws[j] = pf ws (j + 1) - pf ws i - 1 by omega]
            rfl
        · rw [nx_eq R hi hjn hle (.inr (by omega))] at q
          exact q
      · rw [nx_eq R hi hjn hle (.inl (by omega))] at q
        walk_at "go"
        exact q
abbrev st_starts_of : Stmt := topS 16
abbrev N_starts_of : List Str := ["words", "width", "index", "starts"]
theorem sc_starts_of : FnScope N_starts_of ["words", "width", "index"] (C8.fnScope st_starts_of) := C8.fnScope_by (by decide +kernel)
theorem start_starts_of {v0 v1 v2 : V} : L2.start N_starts_of [v0, v1, v2] = [some v0, some v1, some v2, none] := rfl
def spStarts : Sp := fun vs H Q _ => ∃ (p : Addr) (ws : List Int) (v : Int) (i : Nat), vs = [.ref p, .int v, .int i] ∧ H p = some (.tup (ws.map V.int)) ∧ Tx ws v ∧ ws.length ≤ 60 ∧ ∀ (H' : Hp) (a : Addr), Same H H' → H' a = some (.tup ((sts ws v i).map V.int)) → Q (.ref a) H'
theorem sts_len {ws : List Int} {v : Int} (R : Tx ws v) (i : Nat) : (sts ws v i).length ≤ ws.length - i := cnt_le R _ i rfl
theorem ok_starts_of (T : Bl mg) (D : DefAt K mg "starts_of" st_starts_of ["words", "width", "index"]) (C_next_index : C8.Cal P w K mg base 1 "next_index" spNext []) : C8.Cal P w K mg base 2 "starts_of" spStarts [] := by
  refine cal_of D sc_starts_of (fun vs H Q E h => ?_) (fun f cdv A outer s H vs Q E hr h => ?_)
  · obtain ⟨p, ws, v, i, rfl, _⟩ := h
    rfl
  · obtain ⟨p, ws, v, i, rfl, hp, R, hl60, q⟩ := h
    refine ⟨_, (pss_cons (ps_set (i := 3) sc_starts_of.nd rfl (Or.inl rfl) (pe_lst pa_nil))
  (pss_cons (ps_while PassesOwn.never (pt_cmpR op_lt (pv 2) (pe_callB call_lenS (by rfl) T.len_ (by decide +kernel) (pa_cons (pv 0) pa_nil)) (nomark _)) (pss_cons (ps_expr (pe_bm PySem.F.plainAttrs_list PySem.F.slot_list_append PySem.F.type_list_append mt_append (pv 3) (pa_cons (pv 2) pa_nil)))
  (pss_one (ps_set (i := 2) sc_starts_of.nd rfl (Or.inl rfl) (C8.pe_c C_next_index hr (by decide) rfl (pa_cons (pv 0) (pa_cons (pv 1) (pa_cons (pv 2) pa_nil))))))))
  (pss_one (ps_ret (pe_callTy call_tupS (by rfl) T.tuple_ (by decide +kernel) (pa_cons (pv 3) pa_nil)))))), ?_⟩
    rw [start_starts_of]
    walk_at "go"
    intro d n1
    generalize e1 : upd H d _ = H1
    have s1 := same_of e1 n1
    refine while_of (fun m σ H' => ∃ (j : Nat) (pr : List Int), Same H H' ∧ H' d = some (.lst (pr.map V.int)) ∧ pr ++ sts ws v j = sts ws v i ∧ m = ws.length - j ∧ σ = [some (.ref p), some (.int v), some (.int (j : Nat)), some (.ref d)])
      _ ⟨i, [], s1, there e1, rfl, rfl, rfl⟩ ?_
    rintro m σ H2 ⟨j, pr, sm, hd, he, hm, rfl⟩
    have hp2 := sm _ _ hp
    walk_at "go"
    refine ite2 (fun e => ?_) (fun e => ?_)
    · refine whG_of ?_
      have hj : j < ws.length := by omega
      have hlen : pr.length ≤ 60 := by
        have h1 := congrArg List.length he
        rw [List.length_append] at h1
        have := sts_len R i
        omega
      walk_at "go"
      refine ⟨.inl ⟨rfl, _, .inl (.inl hd)⟩, app_of hd (sz_lt (by rw [List.length_map]; omega)) ?_⟩
      generalize e3 : upd H2 d _ = H3
      have b3 := but_of e3
      have hp3 := b3 _ _ (ne_of hp2 hd (by intro z; cases z)) hp2
      walk_at "go"
      refine ⟨p, ws, v, j, rfl, hp3, R, hj, ?_⟩
      walk_at "go"
      refine ⟨ws.length - nx ws v j, ?_, nx ws v j, pr ++ [(j : Int)], ?_, ?_, ?_, rfl, rfl⟩
      · have := nx_gt R hj
        omega
      · subst e3
        exact same_mut sm n1
      · rw [there e3, List.map_append]
        rfl
      · rw [List.append_assoc, ← he, sts_cons R hj]
        rfl
    · rw [sts_end (by omega), List.append_nil] at he
      subst he
      walk_at "go"
      refine tupL_of hd fun a na => ?_
      exact q _ a (sm.trans (same_upd na)) upd_same
abbrev st_law_fit : Stmt := topS 32
abbrev N_law_fit : List Str := ["_law_words_here", "_law_width_here", "_law_start", "_law_end_here"]
theorem sc_law_fit : FnScope N_law_fit ["_law_words_here", "_law_width_here", "_law_start", "_law_end_here"] (C8.fnScope st_law_fit) := C8.fnScope_by (by decide +kernel)
theorem start_law_fit {v0 v1 v2 v3 : V} : L2.start N_law_fit [v0, v1, v2, v3] = [some v0, some v1, some v2, some v3] := rfl
def spLFit : Sp := fun vs H Q _ => ∃ (p : Addr) (ws : List Int) (v : Int) (s e : Nat), vs = [.ref p, .int v, .int s, .int e] ∧ H p = some (.tup (ws.map V.int)) ∧ s ≤ e ∧ ∀ (H' : Hp), Same H H' → Q (.bl (decide (pf ws e - pf ws s - 1 ≤ v))) H'
theorem ok_law_fit (T : Bl mg) (D : DefAt K mg "_law_fit" st_law_fit ["_law_words_here", "_law_width_here", "_law_start", "_law_end_here"]) : C8.Cal P w K mg base 1 "_law_fit" spLFit [] := by
  refine cal_of D sc_law_fit (fun vs H Q E h => ?_) (fun f cdv A outer s0 H vs Q E hr h => ?_)
  · obtain ⟨p, ws, v, s, e, rfl, _⟩ := h
    rfl
  · obtain ⟨p, ws, v, s, e, rfl, hp, hse, q⟩ := h
    refine ⟨_, (pss_one (ps_ret (pe_cmpR op_le (pe_op op_sub (pe_op op_sub (pe_op op_add (pe_callB (cr_sumT rfl) (by rfl) T.sum_ (by decide +kernel) (pa_cons (pe_slice sl_tupA (pv 0) (po_some (pv 2)) (po_some (pv 3))) pa_nil)) (pv 3)) (pv 2)) pe_int) (pv 1) (nomark _)))), ?_⟩
    rw [start_law_fit]
    walk_at "go"
    refine slA_of hp fun p2 H2 s2 h2 => ?_
    rw [cut_in _ (by omega) (by omega), Int.toNat_natCast, Int.toNat_natCast, map_cut] at h2
    refine sumT_of h2 ?_
    walk_at "go"
    rw [sum_cut ws hse]
    have := q H2 s2
    unfold pf at this
    rw [show (ws.take e).sum - (ws.take s).sum + (e : Int) - (s : Int) - 1 = (ws.take e).sum + (e : Int) - ((ws.take s).sum + (s : Int)) - 1 by omega]
    exact this
abbrev st_law_end : Stmt := topS 33
abbrev N_law_end : List Str := ["_law_words_here", "_law_width_here", "_law_start", "_law_end_here"]
theorem sc_law_end : FnScope N_law_end ["_law_words_here", "_law_width_here", "_law_start"] (C8.fnScope st_law_end) := C8.fnScope_by (by decide +kernel)
theorem start_law_end {v0 v1 v2 : V} : L2.start N_law_end [v0, v1, v2] = [some v0, some v1, some v2, none] := rfl
def spLEnd : Sp := fun vs H Q _ => ∃ (p : Addr) (ws : List Int) (v : Int) (i : Nat), vs = [.ref p, .int v, .int i] ∧ H p = some (.tup (ws.map V.int)) ∧ Tx ws v ∧ i < ws.length ∧ ∀ (H' : Hp), Same H H' → Q (.int (nx ws v i : Nat)) H'
theorem ok_law_end (T : Bl mg) (D : DefAt K mg "_law_end" st_law_end ["_law_words_here", "_law_width_here", "_law_start"]) (C_law_fit : C8.Cal P w K mg base 1 "_law_fit" spLFit []) : C8.Cal P w K mg base 2 "_law_end" spLEnd [] := by
  refine cal_of D sc_law_end (fun vs H Q E h => ?_) (fun f cdv A outer s0 H vs Q E hr h => ?_)
  · obtain ⟨p, ws, v, i, rfl, _⟩ := h
    rfl
  · obtain ⟨p, ws, v, i, rfl, hp, R, hi, q⟩ := h
    refine ⟨_, (pss_cons (ps_set (i := 3) sc_law_end.nd rfl (Or.inl rfl) (pe_op op_add (pv 2) pe_int))
  (pss_cons (ps_while PassesOwn.never (PW.pt (pw_and (pt_cmpR op_lt (pv 3) (pe_callB call_lenS (by rfl) T.len_ (by decide +kernel) (pa_cons (pv 0) pa_nil)) (nomark _)) (pw_and1 (pt_val (C8.pe_c C_law_fit hr (by decide) rfl (pa_cons (pv 0) (pa_cons (pv 1) (pa_cons (pv 2) (pa_cons (pe_op op_add (pv 3) pe_int) pa_nil))))))))) (pss_one (ps_set (i := 3) sc_law_end.nd rfl (Or.inl rfl) (pe_op op_add (pv 3) pe_int))))
  (pss_one (ps_ret (pv 3))))), ?_⟩
    rw [start_law_end]
    walk_at "go"
    refine while_of (fun m σ H' => ∃ j : Nat, Same H H' ∧ i < j ∧ j ≤ ws.length ∧ pf ws j ≤ pf ws i + v + 1 ∧ m = ws.length - j ∧ σ = [some (.ref p), some (.int v), some (.int (i : Nat)), some (.int (j : Nat))])
      _ ⟨i + 1, Same.refl H, Nat.lt_succ_self _, hi, (pf_step R hi).2, rfl, rfl⟩ ?_
    rintro m σ H2 ⟨j, sm, hij, hjn, hle, hm, rfl⟩
    have hp2 := sm _ _ hp
    walk_at "go"
    refine ite2 (fun e => ?_) (fun e => ?_)
    · have hj : j < ws.length := by omega
      refine ⟨p, ws, v, i, j + 1, rfl, hp2, by omega, fun H3 s3 => ?_⟩
      walk_at "go"
      refine ite2 (fun e3 => ?_) (fun e3 => ?_)
      · refine whG_of ?_
        walk_at "go"
        exact ⟨ws.length - (j + 1), by omega, j + 1, sm.trans s3, by omega, by omega, by omega, rfl, rfl⟩
      · rw [← nx_eq R hi hjn hle (.inr (by omega))]
        exact q H3 (sm.trans s3)
    · walk_at "go"
      rw [← nx_eq R hi hjn hle (.inl (by omega))]
      exact q H2 sm
abbrev st_law_greedy : Stmt := topS 34
abbrev N_law_greedy : List Str := ["_law_words_here", "_law_width_here", "_law_start", "_law_found"]
theorem sc_law_greedy : FnScope N_law_greedy ["_law_words_here", "_law_width_here", "_law_start"] (C8.fnScope st_law_greedy) := C8.fnScope_by (by decide +kernel)
theorem start_law_greedy {v0 v1 v2 : V} : L2.start N_law_greedy [v0, v1, v2] = [some v0, some v1, some v2, none] := rfl
theorem ok_law_greedy (T : Bl mg) (D : DefAt K mg "_law_greedy" st_law_greedy ["_law_words_here", "_law_width_here", "_law_start"]) (C_law_end : C8.Cal P w K mg base 2 "_law_end" spLEnd []) : C8.Cal P w K mg base 3 "_law_greedy" spStarts [] := by
  refine cal_of D sc_law_greedy (fun vs H Q E h => ?_) (fun f cdv A outer s H vs Q E hr h => ?_)
  · obtain ⟨p, ws, v, i, rfl, _⟩ := h
    rfl
  · obtain ⟨p, ws, v, i, rfl, hp, R, hl60, q⟩ := h
    refine ⟨_, (pss_cons (ps_set (i := 3) sc_law_greedy.nd rfl (Or.inl rfl) (pe_lst pa_nil))
  (pss_cons (ps_while PassesOwn.never (pt_cmpR op_lt (pv 2) (pe_callB call_lenS (by rfl) T.len_ (by decide +kernel) (pa_cons (pv 0) pa_nil)) (nomark _)) (pss_cons (ps_expr (pe_bm PySem.F.plainAttrs_list PySem.F.slot_list_append PySem.F.type_list_append mt_append (pv 3) (pa_cons (pv 2) pa_nil)))
  (pss_one (ps_set (i := 2) sc_law_greedy.nd rfl (Or.inl rfl) (C8.pe_c C_law_end hr (by decide) rfl (pa_cons (pv 0) (pa_cons (pv 1) (pa_cons (pv 2) pa_nil))))))))
  (pss_one (ps_ret (pe_callTy call_tupS (by rfl) T.tuple_ (by decide +kernel) (pa_cons (pv 3) pa_nil)))))), ?_⟩
    rw [start_law_greedy]
    walk_at "go"
    intro d n1
    generalize e1 : upd H d _ = H1
    have s1 := same_of e1 n1
    refine while_of (fun m σ H' => ∃ (j : Nat) (pr : List Int), Same H H' ∧ H' d = some (.lst (pr.map V.int)) ∧ pr ++ sts ws v j = sts ws v i ∧ m = ws.length - j ∧ σ = [some (.ref p), some (.int v), some (.int (j : Nat)), some (.ref d)])
      _ ⟨i, [], s1, there e1, rfl, rfl, rfl⟩ ?_
    rintro m σ H2 ⟨j, pr, sm, hd, he, hm, rfl⟩
    have hp2 := sm _ _ hp
    walk_at "go"
    refine ite2 (fun e => ?_) (fun e => ?_)
    · refine whG_of ?_
      have hj : j < ws.length := by omega
      have hlen : pr.length ≤ 60 := by
        have h1 := congrArg List.length he
        rw [List.length_append] at h1
        have := sts_len R i
        omega
      walk_at "go"
      refine ⟨.inl ⟨rfl, _, .inl (.inl hd)⟩, app_of hd (sz_lt (by rw [List.length_map]; omega)) ?_⟩
      generalize e3 : upd H2 d _ = H3
      have b3 := but_of e3
      have hp3 := b3 _ _ (ne_of hp2 hd (by intro z; cases z)) hp2
      walk_at "go"
      refine ⟨p, ws, v, j, rfl, hp3, R, hj, fun H4 s4 => ?_⟩
      walk_at "go"
      refine ⟨ws.length - nx ws v j, ?_, nx ws v j, pr ++ [(j : Int)], ?_, ?_, ?_, rfl, rfl⟩
      · have := nx_gt R hj
        omega
      · subst e3
        exact (same_mut sm n1).trans s4
      · rw [s4 _ _ (there e3), List.map_append]
        rfl
      · rw [List.append_assoc, ← he, sts_cons R hj]
        rfl
    · rw [sts_end (by omega), List.append_nil] at he
      subst he
      walk_at "go"
      refine tupL_of hd fun a na => ?_
      exact q _ a (sm.trans (same_upd na)) upd_same
end
end Ls
namespace Ls
open PySem PySem.Spec PyProof.Rows L2 RZ LamX NdefX
/-! ### a lambda with one parameter, handed to a def and called there -/
theorem cells_un {cl : List (Str × Addr)} {fr : List Str} {ws : List (Option V)} {h h1 : Heap} {H H1 : Hp} {fs : List Addr} (C : CellsAt cl fr ws h H) (un : Un fs [] H H1 h h1) : CellsAt cl fr ws h1 H1 := by
  have kp : ∀ {c : Addr} {v : Option Value}, H c = none → h.IsCell c v → h1.IsCell c v := fun {c v} n ⟨o, ho, hd⟩ => by
    obtain ⟨sl, q⟩ := un.any ho n (by simp)
    exact ⟨_, q, hd⟩
  refine ⟨C.len, fun y c e => ?_, C.inj, fun i y e => ?_⟩
  · obtain ⟨n, v, z⟩ := C.all y c e
    refine ⟨?_, v, kp n z⟩
    obtain ⟨o, ho, _⟩ := z
    exact un.free c o ho n (by simp)
  · obtain ⟨c, hc, hv⟩ := C.has i y e
    refine ⟨c, hc, fun v ev => ?_⟩
    obtain ⟨u, r, z⟩ := hv v ev
    exact ⟨u, r, kp (C.all y c hc).1 z⟩
/-- the words of a lambda, for the entry of its body -/
abbrev lamF (q : Str) (params : Arguments) (scope : Scope) (cl : List (Str × Addr)) (c' : Addr) : NF := ⟨"<lambda>", q, params, [], scope, cl, c'⟩
/-- a(e), a the name of the lambda, within the def that got it -/
theorem pe_act1 {Z : Cx} {f c' : Addr} {q : Str} {params : Arguments} {body : Expr} {scope : Scope} {cl : List (Str × Addr)} {pm ctv : Value} {fr N' : List Str} {ws : List (Option V)} {a y : Str} {i k : Nat} {e : Expr} {t : TE} {tb : TE} {p1 p2 : Pos}
    (hex : Z.ex = []) (hcalm : Z.calm = true) (hf : Z.s_0.heap.get? f = some (PySem.W.kla_obj "<lambda>" q params body scope cl pm c' ctv)) (hfn : Z.H_0 f = none) (hfs : f ∉ Z.fs)
    (C : CellsAt cl fr ws Z.s_0.heap Z.H_0) (S : NScope N' [y] fr scope) (hbind : ∀ u, bindArgs (PySem.W.kla_fn "<lambda>" q params body scope cl pm (.ref c') ctv) ⟨[u], []⟩ = pure [(y, u)]) (hr : Room (k + 1) Z.A)
    (hbody : ∀ (A : Around) (outer : List Env) (s : Shared) (H : Hp), Room k (A.deeper (envF (lamF q params scope cl c') f s.heap.objs.size)) → PE (ncx C8.CX0 Z.prog Z.w Z.K Z.mg Z.base N' (lamF q params scope cl c') f A outer s H C8.E0) body tb)
    (he : PE Z e t) (hN : Z.N[i]? = some a) (hv : Vis Z.env.scope a) (hd : (a == ("__debug__" : Str)) = false := by decide) (hcd : (a == ("__classdict__" : Str)) = false := by decide)
    (hst : starEach [e] Z.env = (false, eval e Z.env) :: starEach [] Z.env := by rfl) :
    PE Z (.Call (.Name a p1) [e] [] p2) (fun σ H Q => σ[i]? = some (some (.ref f)) ∧ tCons t tNil σ H fun vs H1 => vs.length = 1 ∧ H1 c' = some (CodeO c' q) ∧ tb (startF N' vs ws) H1 Q) := by
  refine ⟨fun pins s1 σ H1 Q I h => ?_⟩
  obtain ⟨hs, ht⟩ := h
  refine wpAny_Call_Name_kw (thn ((pe_var (pos := p1) hN hv hd hcd).run pins s1 σ H1 (fun v H2 => v = .ref f ∧ H2 = H1) I ⟨.ref f, hs, rfl, rfl⟩) fun u s2 ⟨v, H2, I2, r2, q2⟩ => ?_)
  obtain ⟨rfl, rfl⟩ := q2
  obtain rfl : u = Value.ref f := r2
  have hex' : ∀ b : Addr, b ∉ Z.ex := fun b z => by
    rw [hex] at z
    exact nomatch z
  have at_ : ∀ {pins : List (Addr × Obj)} {σ : L2.St} {H : Hp} {s : Shared}, Inv Z pins σ H s → s.heap.get? f = some (PySem.W.kla_obj "<lambda>" q params body scope cl pm c' ctv) := fun J => J.base.keep f _ hf hfn hfs (hex' f)
  refine PySem.W.callWith_F (first := []) ⟨_, _, _, _, at_ I2⟩ (thn ((pa_cons he pa_nil hst).run p2 pins s2 σ H2 _ I2 ht) fun us s3 ⟨vs, H3, I3, r, hl, hc, hq⟩ => ⟨⟨_, _, _, _, at_ I3⟩, ?_⟩) hst
  show wpAny _ _ (call (.ref f) us) _ _ _
  have un : Un Z.fs [] Z.H_0 H3 Z.s_0.heap s3.heap := by
    have := I3.base
    rw [hex] at this
    exact this
  have C3 := cells_un C un
  obtain ⟨⟨oc, vs', tt, hoc, hdc, hvc⟩, _, _⟩ := I3.hok c' _ hc
  obtain ⟨u, rfl⟩ : ∃ u, us = [u] := List.length_eq_one_iff.mp (by rw [← r.length]; exact hl)
  have rc : codeAny (model Z.prog Z.w) Z.A (.call (.ref f) ⟨[u], []⟩) (CR C8.CX0 Z.stack Z.prog Z.w H3 s3 Q C8.E0) s3 := by
    refine PySem.W.kla_callFunE hr.depth (at_ I3) rfl S.co S.gen rfl ⟨c', oc, vs', tt, rfl, hoc, hdc, hvc⟩ ?_
    rw [hbind]
    refine wpAny_pure (wpAny_newFunctionEnv S.nocell (fun p hy => ?_) (fun h₁ hns hsb => ⟨I3.nolimit.fresh _ hsb, ?_⟩) S.kind)
    · rw [List.mem_singleton.mp hy]
      exact S.par y List.mem_cons_self
    · show codeAny _ _ (.expr body (envF (lamF q params scope cl c') f s3.heap.objs.size)) _ _
      have kp : ∀ b o, s3.heap.get? b = some o → h₁.get? b = some o := fun b o e => hsb.extBut b o (Nat.ne_of_lt (Heap.lt_size e)) (Heap.get?_push_of_some _ e)
      have J := inv_startN (CX := C8.CX0) (F := lamF q params scope cl c') (f := f) (E := C8.E0) (tk := s3.toks + 1) S hr.hd I3.env0 hl r C3 hns kp
      refine PySem.W.kla_codeExpr (wpAny_mono ((hbody _ _ s3 H3 (hr.deeper _)).run [] _ _ H3 Q J hq) (fun v s' hq => ?_) fun e s' hq => hq)
      obtain ⟨w', H', J', rv, q⟩ := hq
      exact ⟨w', H', J'.os, J'.bare, J'.base, J'.hok, rv, q⟩
  refine wpAny_call (codeAny_mono rc fun r s' hq => ?_)
  cases r with
  | error e => exact (show False from hq).elim
  | ok fl =>
    cases fl with
    | ret u => exact I3.after hq
    | next => exact False.elim hq
    | brk => exact False.elim hq
    | cont => exact False.elim hq
/-- what a call of the handed lambda reads as -/
def tAct (f c' : Addr) (q : Str) (i : Nat) (N' : List Str) (ws : List (Option V)) (tb : TE) (t : TE) : TE := fun σ H Q => σ[i]? = some (some (.ref f)) ∧ tCons t tNil σ H fun vs H1 => vs.length = 1 ∧ H1 c' = some (CodeO c' q) ∧ tb (startF N' vs ws) H1 Q
/-- x(a1, a2, a3, lambda y: ..) -/
def tLam4 (T : List (Addr × Str)) (i1 i2 i3 : Nat) (js : List Nat) (TT : List (Option V) → List V → Hp → VK → Prop) : TE := fun σ H Q => ∃ v1 v2 v3, σ[i1]? = some (some v1) ∧ σ[i2]? = some (some v2) ∧ σ[i3]? = some (some v3) ∧ Tabs T H ∧
  ∀ H1, ExtN H H1 → Tabs T H1 → TT (js.map (slotAt σ)) [v1, v2, v3] H1 Q
theorem pe_lamcall4 {X : Cx} {T : List (Addr × Str)} {TT : List (Option V) → List V → Hp → VK → Prop} {x a y a1 a2 a3 : Str} {st : Stmt} {c P : Addr} {k i1 i2 i3 : Nat} {js : List Nat} {b1 b2 b3 : Str} {Ng fr N' : List Str} {params : Arguments} {body : Expr} {scope : Scope} {tb : TE} {p p1 p2 p3 lpos pos : Pos}
    (D : DefAt X.K X.mg x st [b1, b2, b3, a]) (Sg : FnScope Ng [b1, b2, b3, a] (C8.fnScope st)) (hNg : Ng[3]? = some a) (hva : Vis (C8.fnScope st) a) (hg : Gl X x)
    (TB : TabB X.base X.mg c P) (hcode : X.env.code = .ref c) (hmT : (P, X.env.qual ++ "<lambda>") ∈ T) (hu : ∀ p ∈ T, p.1 = P → p.2 = X.env.qual ++ "<lambda>") (hr : Room (k + 2) X.A) (hdef : defaultsOf params X.env = ([], []))
    (hfree : ∀ y ∈ scope.names, y.2 = .free → X.env.scope.names.lookup y.1 = some .cell ∨ X.env.scope.names.lookup y.1 = some .free) (hfr : ∀ y ∈ fr, (y, NameKind.free) ∈ scope.names) (hjs : js.map (fun j => X.N[j]?) = fr.map some)
    (S : NScope N' [y] fr scope)
    (hbind : ∀ (q : Str) (cl : List (Str × Addr)) (pm cv ctv u : Value), bindArgs (PySem.W.kla_fn "<lambda>" q params body scope cl pm cv ctv) ⟨[u], []⟩ = pure [(y, u)])
    (hbody : ∀ (cl : List (Str × Addr)) (c' f : Addr) (A : Around) (outer : List Env) (s : Shared) (H : Hp), Room k (A.deeper (envF (lamF (X.env.qual ++ "<lambda>") params scope cl c') f s.heap.objs.size)) →
      PE (ncx C8.CX0 X.prog X.w X.K X.mg X.base N' (lamF (X.env.qual ++ "<lambda>") params scope cl c') f A outer s H C8.E0) body tb)
    (hG : ∀ (g : Addr) (cdv : Value) (f c' : Addr) (s : Shared) (H : Hp) (ws : List (Option V)) (v1 v2 v3 : V) (Q : VK), Room (k + 1) (X.A.deeper (envOfC x (C8.fnScope st) s.heap.objs.size g cdv)) → H c' = some (CodeO c' (X.env.qual ++ "<lambda>")) →
      (∀ (e : Expr) (t : TE) (p1 p2 : Pos), PE (cxOf C8.CX0 X.prog X.w X.K X.mg X.base Ng x (C8.fnScope st) g cdv X.A X.stack s H C8.E0).nox e t →
        starEach [e] (cxOf C8.CX0 X.prog X.w X.K X.mg X.base Ng x (C8.fnScope st) g cdv X.A X.stack s H C8.E0).nox.env = (false, eval e (cxOf C8.CX0 X.prog X.w X.K X.mg X.base Ng x (C8.fnScope st) g cdv X.A X.stack s H C8.E0).nox.env) :: starEach [] (cxOf C8.CX0 X.prog X.w X.K X.mg X.base Ng x (C8.fnScope st) g cdv X.A X.stack s H C8.E0).nox.env →
        PE (cxOf C8.CX0 X.prog X.w X.K X.mg X.base Ng x (C8.fnScope st) g cdv X.A X.stack s H C8.E0).nox (.Call (.Name a p1) [e] [] p2) (tAct f c' (X.env.qual ++ "<lambda>") 3 N' ws tb t)) →
      TT ws [v1, v2, v3] H Q → ∃ t, PSs (cxOf C8.CX0 X.prog X.w X.K X.mg X.base Ng x (C8.fnScope st) g cdv X.A X.stack s H C8.E0).nox (C8.fnBody st) t ∧ t { nx := fun _ H' => Q .non H', rt := Q } (L2.start Ng [v1, v2, v3, .ref f]) H)
    (hN1 : X.N[i1]? = some a1) (hv1 : Vis X.env.scope a1) (hN2 : X.N[i2]? = some a2) (hv2 : Vis X.env.scope a2) (hN3 : X.N[i3]? = some a3) (hv3 : Vis X.env.scope a3)
    (g1 : ((a1 == ("__debug__" : Str)) = false ∧ (a1 == ("__classdict__" : Str)) = false) ∧ ((a2 == ("__debug__" : Str)) = false ∧ (a2 == ("__classdict__" : Str)) = false) ∧ ((a3 == ("__debug__" : Str)) = false ∧ (a3 == ("__classdict__" : Str)) = false) := by decide)
    (hdb : (x == ("__debug__" : Str)) = false := by decide) (hda : (a == ("__debug__" : Str)) = false ∧ (a == ("__classdict__" : Str)) = false := by decide) :
    PE X (.Call (.Name x p) [.Name a1 p1, .Name a2 p2, .Name a3 p3, .Lambda params body scope lpos] [] pos) (tLam4 T i1 i2 i3 js TT) := by
  refine ⟨fun pins s σ H Q I h => ?_⟩
  obtain ⟨v1, v2, v3, e1, e2, e3, hT, h⟩ := h
  obtain ⟨g, fd, ⟨⟨oc, od, dV, kV, doc, pm, an, cdv, ct, osl, rfl, lk, hcd⟩, hm, hk⟩, hb⟩ := D
  refine wpAny_Call_Name_kw (ld_glob I hg hm ?_ hdb)
  refine PySem.W.callWith_K (h₀ := X.base) I.ok.mod.kin hk ?_ (by rfl) (by rfl)
  show wpAny _ _ (spliced ((false, eval (.Name a1 p1) X.env) :: (false, eval (.Name a2 p2) X.env) :: (false, eval (.Name a3 p3) X.env) :: (false, eval (.Lambda params body scope lpos) X.env) :: backTo pos (starEach [] X.env))) _ _ s
  refine Calls.spliced_cons (thn ((pe_var (pos := p1) hN1 hv1 g1.1.1 g1.1.2).run pins s σ H (fun v H2 => v = v1 ∧ H2 = H) I ⟨v1, e1, rfl, rfl⟩) fun u1 s1 ⟨_, _, I1, r1, q1⟩ => ?_)
  obtain ⟨rfl, rfl⟩ := q1
  refine Calls.spliced_cons (thn ((pe_var (pos := p2) hN2 hv2 g1.2.1.1 g1.2.1.2).run pins s1 σ _ (fun v H2 => v = v2 ∧ H2 = _) I1 ⟨v2, e2, rfl, rfl⟩) fun u2 s2 ⟨_, _, I2, r2, q2⟩ => ?_)
  obtain ⟨rfl, rfl⟩ := q2
  refine Calls.spliced_cons (thn ((pe_var (pos := p3) hN3 hv3 g1.2.2.1 g1.2.2.2).run pins s2 σ _ (fun v H2 => v = v3 ∧ H2 = _) I2 ⟨v3, e3, rfl, rfl⟩) fun u3 s3 ⟨_, _, I3, r3, q3⟩ => ?_)
  obtain ⟨rfl, rfl⟩ := q3
  have hfree' : ∀ y ∈ scope.names, y.2 = .free → ∃ c, X.env.cells.lookup y.1 = some c := fun y hy e => (hfree y hy e).elim (fun k => I3.ok.has _ (.inl k)) fun k => I3.ok.has _ (.inr k)
  refine Calls.spliced_cons (lam_make2 I3 TB hcode hmT hu hT hdef hfree' fun f c' pm' ctv H1 s' I4 eN T1 hf hfn hfr' hco => ?_)
  refine Calls.spliced_nil ⟨I4.kIn, ?_⟩
  have C4 := cells_of I4 (Caps.made (scope := scope) I4.ok hfree hfr hjs)
  have rc : codeAny (model X.prog X.w) X.A (.call (.ref g) ⟨[u1, u2, u3, .ref f], []⟩) (CR C8.CX0 X.stack X.prog X.w H1 s' Q C8.E0) s' := by
    refine run_ofS (N := Ng) (ps := [b1, b2, b3, a]) (us := [u1, u2, u3, .ref f]) (vs := [_, _, _, .ref f]) lk hcd Sg hr I4.env0 (by
      have := hb s' [u1, u2, u3, .ref f] I4.kIn rfl
      exact this) (.cons r1 (.cons r2 (.cons r3 (.cons rfl .nil)))) rfl fun hr' => ?_
    obtain ⟨t', ht', hq'⟩ := hG g cdv f c' s' H1 (js.map (slotAt σ)) _ _ _ Q hr' hco (fun e t p1 p2 he hst =>
      pe_act1 (Z := (cxOf C8.CX0 X.prog X.w X.K X.mg X.base Ng x (C8.fnScope st) g cdv X.A X.stack s' H1 C8.E0).nox) rfl rfl hf hfn hfr' C4 S (fun u => hbind _ _ _ _ _ u) hr' (fun A outer s H hr2 => hbody _ c' f A outer s H hr2) he hNg hva hda.1 hda.2 hst) (h H1 eN T1)
    exact ⟨t', ht'.nox, hq'⟩
  refine wpAny_call (codeAny_mono rc fun r s2 hq => ?_)
  cases r with
  | error e => exact (show False from hq).elim
  | ok fl =>
    cases fl with
    | ret u => exact I4.after hq
    | next => exact False.elim hq
    | brk => exact False.elim hq
    | cont => exact False.elim hq
/-! ### a chain of four comparisons -/
def tChain4 (r1 r2 r3 r4 : R2) (ta tb tc td te : TE) : TE := fun σ H Q => ta σ H fun x1 H1 => tb σ H1 fun x2 H2 => r1 x1 x2 H2 fun z H3 => ∃ k, z = .bl k ∧ (if k = true then tc σ H3 fun x3 H4 => r2 x2 x3 H4 fun z H5 => ∃ k, z = .bl k ∧
  (if k = true then td σ H5 fun x4 H6 => r3 x3 x4 H6 fun z H7 => ∃ k, z = .bl k ∧ (if k = true then te σ H7 fun x5 H8 => r4 x4 x5 H8 Q else Q (.bl false) H7) else Q (.bl false) H5) else Q (.bl false) H3)
theorem pe_chain4 {X : Cx} {o1 o2 o3 o4 : CmpOp} {r1 r2 r3 r4 : R2} {a b c d e : Expr} {ta tb tc td te : TE} {pos : Pos} (h1 : OpR X (compareOp o1) r1) (h2 : OpR X (compareOp o2) r2) (h3 : OpR X (compareOp o3) r3) (h4 : OpR X (compareOp o4) r4)
    (ha : PE X a ta) (hb : PE X b tb) (hc : PE X c tc) (hd : PE X d td) (he : PE X e te) (hm : lastMarks [o1, o2, o3, o4] [b, c, d, e] = false := by with_unfolding_all rfl) : PE X (.Compare a [o1, o2, o3, o4] [b, c, d, e] pos) (tChain4 r1 r2 r3 r4 ta tb tc td te) := by
  refine ⟨fun pins s σ H Q I h => ?_⟩
  refine Compare_chain (thn (ha.run pins s σ H _ I h) fun v s1 ⟨x, H1, I1, p1, q1⟩ => chain_link (thn (hb.run pins s1 σ H1 _ I1 q1) fun u s2 ⟨y, H2, I2, p2, q2⟩ =>
    thn (h1 pins s2 σ H2 x y v u _ I2 p1 p2 q2) fun d1 s3 ⟨z, H3, I3, p3, k, e, q3⟩ => ?_)) hm
  subst e
  cases p3
  refine wpAny_truthy_bool ?_
  cases k with
  | false => exact ite_ff ⟨.bl false, H3, I3, rfl, q3⟩
  | true =>
    refine ite_tt (chain_link (thn (hc.run pins s3 σ H3 _ I3 q3) fun u4 s4 ⟨y4, H4, I4, p4, q4⟩ => thn (h2 pins s4 σ H4 y y4 u u4 _ I4 p2 p4 q4) fun d5 s5 ⟨z5, H5, I5, p5, k5, e5, q5⟩ => ?_))
    subst e5
    cases p5
    refine wpAny_truthy_bool ?_
    cases k5 with
    | false => exact ite_ff ⟨.bl false, H5, I5, rfl, q5⟩
    | true =>
      refine ite_tt (chain_link (thn (hd.run pins s5 σ H5 _ I5 q5) fun u6 s6 ⟨y6, H6, I6, p6, q6⟩ => thn (h3 pins s6 σ H6 y4 y6 u4 u6 _ I6 p4 p6 q6) fun d7 s7 ⟨z7, H7, I7, p7, k7, e7, q7⟩ => ?_))
      subst e7
      cases p7
      refine wpAny_truthy_bool ?_
      cases k7 with
      | false => exact ite_ff ⟨.bl false, H7, I7, rfl, q7⟩
      | true => exact ite_tt (chain_last (thn (he.run pins s7 σ H7 _ I7 q7) fun u8 s8 ⟨y8, H8, I8, p8, q8⟩ => h4 pins s8 σ H8 y6 y8 u6 u8 Q I8 p6 p8 q8))
theorem pt_chain4 {X : Cx} {o1 o2 o3 o4 : CmpOp} {r1 r2 r3 r4 : R2} {a b c d e : Expr} {ta tb tc td te : TE} {pos : Pos} (h1 : OpR X (compareOp o1) r1) (h2 : OpR X (compareOp o2) r2) (h3 : OpR X (compareOp o3) r3) (h4 : OpR X (compareOp o4) r4)
    (ha : PE X a ta) (hb : PE X b tb) (hc : PE X c tc) (hd : PE X d td) (he : PE X e te) (hm : lastMarks [o1, o2, o3, o4] [b, c, d, e] = false := by with_unfolding_all rfl) : PT X (.Compare a [o1, o2, o3, o4] [b, c, d, e] pos) (tTest (tChain4 r1 r2 r3 r4 ta tb tc td te)) := by
  refine ⟨fun pins s σ H Q I h => ?_⟩
  refine isTrue_chain (thn (ha.run pins s σ H _ I h) fun v s1 ⟨x, H1, I1, p1, q1⟩ => test_link (thn (hb.run pins s1 σ H1 _ I1 q1) fun u s2 ⟨y, H2, I2, p2, q2⟩ =>
    thn (h1 pins s2 σ H2 x y v u _ I2 p1 p2 q2) fun d1 s3 ⟨z, H3, I3, p3, k, e, q3⟩ => ?_)) hm
  subst e
  cases p3
  refine wpAny_truthy_bool ?_
  cases k with
  | false => exact (by obtain ⟨k', e', q'⟩ := q3; cases e'; exact ite_ff ⟨H3, I3, q'⟩)
  | true =>
    refine ite_tt (test_link (thn (hc.run pins s3 σ H3 _ I3 q3) fun u4 s4 ⟨y4, H4, I4, p4, q4⟩ => thn (h2 pins s4 σ H4 y y4 u u4 _ I4 p2 p4 q4) fun d5 s5 ⟨z5, H5, I5, p5, k5, e5, q5⟩ => ?_))
    subst e5
    cases p5
    refine wpAny_truthy_bool ?_
    cases k5 with
    | false => exact (by obtain ⟨k', e', q'⟩ := q5; cases e'; exact ite_ff ⟨H5, I5, q'⟩)
    | true =>
      refine ite_tt (test_link (thn (hd.run pins s5 σ H5 _ I5 q5) fun u6 s6 ⟨y6, H6, I6, p6, q6⟩ => thn (h3 pins s6 σ H6 y4 y6 u4 u6 _ I6 p4 p6 q6) fun d7 s7 ⟨z7, H7, I7, p7, k7, e7, q7⟩ => ?_))
      subst e7
      cases p7
      refine wpAny_truthy_bool ?_
      cases k7 with
      | false => exact (by obtain ⟨k', e', q'⟩ := q7; cases e'; exact ite_ff ⟨H7, I7, q'⟩)
      | true => 
        refine ite_tt (test_last (thn (he.run pins s7 σ H7 _ I7 q7) fun u8 s8 ⟨y8, H8, I8, p8, q8⟩ => thn (h4 pins s8 σ H8 y6 y8 u6 u8 _ I8 p6 p8 q8) fun d9 s9 ⟨z9, H9, I9, p9, k9, e9, q9⟩ => ?_))
        subst e9
        cases p9
        exact wpAny_truthy_bool ⟨H9, I9, q9⟩
/-! ### a def whose code object is told -/
def DefC (K : PySem.W.Frag) (mg : Str → Option Value) (x : Str) (st : Stmt) (ps : List Str) (c : Addr) : Prop := ∃ (f : Addr) (fd : FuncData), (∃ (oc : Value) (od : Option Addr) (kV doc pm : Value) (an : Option Addr) (ct : Value) (osl : Array (Option Value)),
  fd = PySem.W.fnOf x x (C8.fnArgs st) (C8.fnBody st) (C8.fnScope st) .none kV doc pm an (.ref c) ct ∧ K.lookup f = some ⟨oc, od, .func fd, osl⟩ ∧ PySem.W.codeIn K (.ref c) x = true) ∧ mg x = some (.ref f) ∧ PySem.W.keepIn K (.ref f) = true ∧ Binds K fd ps []
theorem cal_ofC {P : Program} {w : World} {K : PySem.W.Frag} {mg : Str → Option Value} {base : Heap} {x : Str} {st : Stmt} {N ps : List Str} {k : Nat} {sp : Sp} {c : Addr} (D : DefC K mg x st ps c) (S : FnScope N ps (C8.fnScope st))
    (len : ∀ vs H Q E, sp vs H Q E → vs.length = ps.length)
    (hbody : ∀ (f : Addr) (A : Around) (outer : List Env) (s : Shared) (H : Hp) (vs : List V) (Q : VK) (E : XK), Room k (A.deeper (envOfC x (C8.fnScope st) s.heap.objs.size f (.ref c))) → sp vs H Q E →
      ∃ t, PSs (cxOf C8.CX0 P w K mg base N x (C8.fnScope st) f (.ref c) A outer s H E).nox (C8.fnBody st) t ∧ t { nx := fun _ H' => Q .non H', rt := Q } (L2.start N vs) H) : C8.Cal P w K mg base (k + 1) x sp [] := by
  obtain ⟨f, fd, ⟨oc, od, kV, doc, pm, an, ct, osl, rfl, lk, hcd⟩, hm, hk, hb⟩ := D
  refine ⟨f, _, ps, [], fn_of lk hcd S len fun A outer s H vs Q E hr hsp => ?_, hm, hk, hb, .nil⟩
  obtain ⟨t, h, q⟩ := hbody f A outer s H vs Q E hr hsp
  exact ⟨t, h.nox, q⟩
end Ls
namespace Ls
open PySem PySem.Spec PyProof.Rows L2 RZ LamX NdefX
local macro_rules | `(tactic| walk_at "cond") => `(tactic| first
  | exact (by decide)
  | exact (Nat.le_of_ble_eq_true rfl)
  | exact ⟨by decide, by decide, by decide⟩
  | exact ⟨by decide, by decide⟩
  | (with_reducible assumption)
  | exact Or.inl ⟨by omega, by omega⟩
  | exact Or.inr ⟨by omega, by omega⟩
  | exact ⟨by omega, by omega, by omega⟩
  | exact wide_div (b := 61) (by omega) (by omega) (by decide) (by decide)
  | (with_reducible omega))
local macro_rules | `(tactic| walk_at "at") => `(tactic| first | assumption | exact upd_same)
local macro_rules | `(tactic| walk_at "sim") => `(tactic| simp only [tSeq, tAsg, gName, tOp, tC, tVar, tRet, tRetN, tIfS, tTest, tB, tNext, tDrop, tNever, tCons, tNil, tTup, tLst, tUn, tAnd, tOr, tNot, tAndV, tOrV, tNotV, tIf, tCB, tCall, gSub, gTup, gCons, gNil, tPar, tPar3,
  tSl, tPart, tLc_eq, tFor_eq, tDIn_eq, tDNotIn_eq, tDGet_eq, sDPut_eq, tDNewK, C8.tCut, tYes, iEnum_eq, iList_eq, iTup_eq, iRng1_eq, iRng2_eq, iZipA_eq, iKeys_eq, wipe, tBM, List.map_cons, List.map_nil, List.length_map,  tNoPart, tChain, List.getElem?_cons_zero, List.getElem?_cons_succ, List.set_cons_zero, List.set_cons_succ, List.append_nil,
  s_I0, s_I, s_U, s_bl, s_int, s_some, s_eqI, s_neI, s_par2, s_par3, s_abs, s_max2, s_min2, s_cons, true_and, decide_eq_true_eq, Bool.not_eq_true', decide_eq_false_iff_not, if_true, Bool.true_eq_false, reduceCtorEq, reduceIte, Bool.false_eq_true, if_false, ite_true, ite_false])
local macro_rules | `(tactic| walk_at "go1") => `(tactic| first
  | ((with_reducible refine' And.intro ?k1 ?_); (case k1 => walk_at "cond"))
  | ((with_reducible refine' ixL_of ?k1 ?k2 ?_); (case k1 => walk_at "at"); (case k2 => rfl))
  | ((with_reducible refine' ixT_of ?k1 ?k2 ?_); (case k1 => walk_at "at"); (case k2 => rfl))
  | ((with_reducible refine' setL_of ?k1 ?k2 ?_); (case k1 => walk_at "at"); (case k2 => rfl))
  | ((with_reducible refine' lenT_of ?k1 ?_); (case k1 => walk_at "at"))
  | ((with_reducible refine' lenL_of ?k1 ?_); (case k1 => walk_at "at"))
  | (with_reducible refine isi_int ?_)
  | (with_reducible refine isi_int_bool ?_)
  | ((with_reducible refine' isi_tup ?k1 ?_); (case k1 => walk_at "at"))
  | walk_at "sim")
local macro_rules | `(tactic| walk_at "go") => `(tactic| repeat (walk_at "go1"))
section
variable {P : Program} {w : World} {K : PySem.W.Frag} {mg : Str → Option Value} {base : Heap}
/-! ### line starts -/
/-- line starts of n words -/
structure VS (n : Nat) (S : List Int) : Prop where
  first : S[0]? = some 0
  mem : ∀ x ∈ S, 0 ≤ x ∧ x < n
  lt : S.Pairwise (· < ·)
  len : S.length ≤ 60
theorem VS.last {n : Nat} {S : List Int} (h : VS n S) : ∃ (r : List Int) (x : Int), S = r ++ [x] ∧ x < n := by
  rcases List.eq_nil_or_concat S with e | ⟨r, x, e⟩
  · have := h.first
    rw [e] at this
    cases this
  · rw [List.concat_eq_append] at e
    exact ⟨r, x, e, (h.mem x (by rw [e]; exact List.mem_append_right _ List.mem_cons_self)).2⟩
theorem sts_mem {ws : List Int} {v : Int} (R : Tx ws v) : ∀ (d i : Nat), d = ws.length - i → (∀ x ∈ sts ws v i, (i : Int) ≤ x ∧ x < ws.length) ∧ (sts ws v i).Pairwise (· < ·)
  | d, i, hd => by
    rcases Nat.lt_or_ge i ws.length with h | h
    · have g := nx_gt R h
      obtain ⟨h1, h2⟩ := sts_mem R (ws.length - nx ws v i) (nx ws v i) rfl
      rw [sts_cons R h]
      refine ⟨fun x hx => ?_, List.pairwise_cons.mpr ⟨fun x hx => ?_, h2⟩⟩
      · rcases List.mem_cons.mp hx with rfl | hx
        · omega
        · have := h1 x hx
          omega
      · have := h1 x hx
        omega
    · rw [sts_end h]
      exact ⟨fun x hx => (nomatch hx), List.Pairwise.nil⟩
  termination_by d => d
theorem sts_vs {ws : List Int} {v : Int} (R : Tx ws v) (h : 0 < ws.length) (hl : ws.length ≤ 60) : VS ws.length (sts ws v 0) := by
  obtain ⟨h1, h2⟩ := sts_mem R _ 0 rfl
  refine ⟨by rw [sts_cons R h]; rfl, fun x hx => ⟨by have := (h1 x hx).1; omega, (h1 x hx).2⟩, h2, ?_⟩
  have := cnt_le R _ 0 rfl
  exact Nat.le_trans this (by omega)
/-- the words, one of them perhaps odd -/
structure Hid (K : PySem.W.Frag) (H : Hp) (p : Addr) (ws : List Int) (i : Nat) (o : V) : Prop where
  at_ : H p = some (.tup ((ws.map V.int).set i o))
  wd : Wd ws
  lt : i < ws.length
  flat : ∃ d : PyData, (∀ H : Hp, Dp K H o d) ∧ PyData.canLay0 d = true ∧ PyData.depth d = 0
theorem Hid.to {K : PySem.W.Frag} {H H' : Hp} {p : Addr} {ws : List Int} {i : Nat} {o : V} (h : Hid K H p ws i o) (e : Same H H') : Hid K H' p ws i o := ⟨e _ _ h.at_, h.wd, h.lt, h.flat⟩
theorem dpAll_set {K : PySem.W.Frag} {H : Hp} {o : V} {d : PyData} (hd : Dp K H o d) : ∀ (ws : List Int) (i : Nat), DpAll K H ((ws.map V.int).set i o) ((ws.map PyData.int).set i d)
  | [], _ => .nil
  | x :: r, 0 => .cons hd (dpAll_ints r)
  | x :: r, i + 1 => .cons (.int x) (dpAll_set hd r i)
theorem lay_set {d : PyData} (h : PyData.canLay0 d = true) : ∀ (ws : List Int) (i : Nat), PyData.canLayAll0 ((ws.map PyData.int).set i d) = true
  | [], _ => rfl
  | x :: r, 0 => by
    rw [List.map_cons, List.set_cons_zero, PyData.canLayAll0, canLay_ints r, h]
    rfl
  | x :: r, i + 1 => by
    rw [List.map_cons, List.set_cons_succ, PyData.canLayAll0, lay_set h r i, PyData.canLay0]
    rfl
theorem depth_set {d : PyData} (h : PyData.depth d = 0) : ∀ (ws : List Int) (i : Nat), PyData.depthAll ((ws.map PyData.int).set i d) = 0
  | [], _ => rfl
  | x :: r, 0 => by
    rw [List.map_cons, List.set_cons_zero, PyData.depthAll, depth_ints r, h]
    rfl
  | x :: r, i + 1 => by
    rw [List.map_cons, List.set_cons_succ, PyData.depthAll, depth_set h r i, PyData.depth]
    rfl
theorem shaped_tup_of {ds : List PyData} (h1 : PyData.canLayAll0 ds = true) (h2 : PyData.depthAll ds = 0) : SeqAt.shaped (.tuple ds) = true := by
  unfold SeqAt.shaped
  rw [PyData.canLay0, h1, PyData.depth, h2]
  rfl
theorem eqTnil_of {Q : VK} {H : Hp} {a b : Addr} {xs : List V} {ds : List PyData} (h : H a = some (.tup xs)) (hd : DpAll K H xs ds) (h1 : PyData.canLayAll0 ds = true) (h2 : PyData.depthAll ds = 0) (h0 : 0 < xs.length) (hb : H b = some (.tup [])) (q : Q (.bl false) H) : rEqD K (.ref a) (.ref b) H Q :=
  ⟨_, _, .tup (.of h) hd, .tup (.of hb) .nil, shaped_tup_of h1 h2, rfl, by
    rw [PyData.eqv]
    cases hd with
    | nil => exact absurd h0 (Nat.lt_irrefl 0)
    | cons _ _ => exact q⟩
theorem Hid.eqnil {Q : VK} {H : Hp} {p b : Addr} {ws : List Int} {i : Nat} {o : V} (h : Hid K H p ws i o) (hb : H b = some (.tup [])) (q : Q (.bl false) H) : rEqD K (.ref p) (.ref b) H Q := by
  obtain ⟨d, h1, h2, h3⟩ := h.flat
  exact eqTnil_of h.at_ (dpAll_set (h1 H) ws i) (lay_set h2 ws i) (depth_set h3 ws i) (by rw [List.length_set, List.length_map]; have := h.lt; omega) hb q
abbrev st_are_starts : Stmt := topS 18
abbrev N_are_starts : List Str := ["words", "value", "start", "following"]
theorem sc_are_starts : FnScope N_are_starts ["words", "value"] (C8.fnScope st_are_starts) := C8.fnScope_by (by decide +kernel)
theorem start_are_starts {v0 v1 : V} : L2.start N_are_starts [v0, v1] = [some v0, some v1, none, none] := rfl
def spAreStarts (K : PySem.W.Frag) : Sp := fun vs H Q _ => ∃ (p ps : Addr) (ws : List Int) (i : Nat) (o : V) (S : List Int), vs = [.ref p, .ref ps] ∧ Hid K H p ws i o ∧ H ps = some (.tup (S.map V.int)) ∧ VS ws.length S ∧ ∀ H', Same H H' → Q (.bl true) H'
theorem ok_are_starts (T : Bl mg) (D : DefAt K mg "are_starts" st_are_starts ["words", "value"]) (C_is_integer : C8.Cal P w K mg base 1 "is_integer" spIsInt []) : C8.Cal P w K mg base 2 "are_starts" (spAreStarts K) [] := by
  refine cal_of D sc_are_starts (fun vs H Q E h => ?_) (fun f cdv A outer s H vs Q E hr h => ?_)
  · obtain ⟨p, ps, ws, i, o, S, rfl, _⟩ := h
    rfl
  · obtain ⟨p, ps, ws, i, o, S, rfl, hp, hs, hv, q⟩ := h
    refine ⟨_, (pss_cons (ps_if (PW.pt (pw_or (pt_not (pt_val (pe_callB call_isi (by rfl) T.isinstance_ (by decide +kernel) (pa_cons (pv 1) (pa_cons (pe_bltn (v := .ty "tuple") (by rfl) T.tuple_ (by decide +kernel) rfl) pa_nil))))) (pw_or1 (pt_not (pt_val (pe_callB (cr_all rfl) (by rfl) T.all_ (by decide +kernel) (pa_cons (pe_lc (own := [("start", 2)]) (g := gName 2) rfl sc_are_starts.nd (pi_tup (pv 1)) (blkOk_by (own := [("start", 2)]) (N := N_are_starts) (sc := (C8.fnScope st_are_starts)) (by decide +kernel)) (fun _ _ _ _ _ => (pg_name (i := 2) sc_are_starts.nd rfl (Or.inl rfl) (Or.inr rfl))) (fun _ _ _ _ _ => pts_nil) (fun _ _ _ _ _ => (C8.pe_c C_is_integer hr (by decide) rfl (pa_cons (pv 2) pa_nil)))) pa_nil))))))) (pss_one (ps_ret pe_bl)) pss_nil)
  (pss_cons (ps_if (PW.pt (pw_or (pt_cmpR (op_eqD hr.units) (pv 0) (pe_tup pa_nil) (nomark _)) (pw_or1 (pt_cmpR (op_eqD hr.units) (pv 1) (pe_tup pa_nil) (nomark _))))) (pss_one (ps_ret (pe_cmpR (op_eqD hr.units) (pv 0) (pv 1) (nomark _)))) pss_nil)
  (pss_cons (ps_if (PW.pt (pw_or (pt_cmpR op_ne (pe_ix ix_tup (pv 1) pe_int (fun _ _ => rfl)) pe_int (nomark _)) (pw_or1 (pt_cmpR op_ge (pe_ix ix_tup (pv 1) (pe_un un_neg pe_int) (fun _ _ => rfl)) (pe_callB call_lenS (by rfl) T.len_ (by decide +kernel) (pa_cons (pv 0) pa_nil)) (nomark _))))) (pss_one (ps_ret pe_bl)) pss_nil)
  (pss_one (ps_ret (pe_callB (cr_all rfl) (by rfl) T.all_ (by decide +kernel) (pa_cons (pe_lc (own := [("start", 2), ("following", 3)]) (g := gTup K 2 (gCons (gName 2) (gCons (gName 3) gNil))) rfl sc_are_starts.nd (pi_zipA (by rfl) T.zip_ (pa_cons (pv 1) (pa_cons (pe_slice sl_tupA (pv 1) (po_some pe_int) po_none) pa_nil))) (blkOk_by (own := [("start", 2), ("following", 3)]) (N := N_are_starts) (sc := (C8.fnScope st_are_starts)) (by decide +kernel)) (fun _ _ _ _ _ => (pg_tup rfl (pgs_cons (pg_name (i := 2) sc_are_starts.nd rfl (Or.inl rfl) (Or.inr rfl)) (pgs_cons (pg_name (i := 3) sc_are_starts.nd rfl (Or.inl rfl) (Or.inr rfl)) pgs_nil)))) (fun _ _ _ _ _ => pts_nil) (fun _ _ _ _ _ => (pe_cmpR op_lt (pv 2) (pv 3) (nomark _)))) pa_nil))))))), ?_⟩
    have hlen := hv.len
    rw [start_are_starts]
    walk_at "go"
    refine tup_of (.of hs) ?_
    refine lcB_of (walk_tup (xs := S.map V.int)) fun D hD => ?_
    refine ⟨fun i H' => Same H H' ∧ H' D = some (.lst ((List.replicate i true).map V.bl)), ⟨same_upd hD, upd_same⟩, fun i H' hi h => .of (h.1 _ _ hs), ?_, ?_⟩
    · rintro k x H' H'' hk ⟨sm, hD'⟩ ⟨rfl, hx⟩
      rw [List.length_map] at hk
      rw [List.getElem?_map] at hx
      obtain ⟨z, hz, rfl⟩ := Option.map_eq_some_iff.mp hx
      walk_at "go"
      refine ⟨z, rfl, ?_⟩
      refine ⟨_, hD', sz_lt (by rw [List.length_map, List.length_replicate]; omega), same_mut sm hD, ?_⟩
      rw [upd_same, List.replicate_succ', List.map_append]
      rfl
    · rintro H1 ⟨s1, hD'⟩
      refine all_of hD' ?_
      rw [List.length_map, show (List.replicate S.length true).all id = true by simp]
      walk_at "go"
      intro p2 n2
      generalize e2 : upd H1 p2 _ = H2
      have s2 := same_of e2 n2
      refine (hp.to (s1.trans s2)).eqnil (there e2) ?_
      walk_at "go"
      intro p3 n3
      generalize e3 : upd H2 p3 _ = H3
      have s3 := same_of e3 n3
      have s13 := s1.trans (s2.trans s3)
      have hs3 := s13 _ _ hs
      have hp3 := (hp.to s13).at_
      refine eqT_of (ns := S) (ms := []) hs3 (there e3) ?_
      obtain ⟨r, x, er, hx⟩ := hv.last
      rw [decide_eq_false (by rw [er]; simp)]
      walk_at "go"
      refine ixT_of hs3 (atI_nat (j := 0) (by rw [List.getElem?_map, hv.first]; rfl)) ?_
      walk_at "go"
      rw [if_neg (not_not_intro trivial)]
      refine ixT_of hs3 (by rw [er, List.map_append]; exact atI_last _ _) ?_
      walk_at "go"
      rw [List.length_set, List.length_map, if_neg (by omega)]
      refine slA_of hs3 fun p4 H4 s4 h4 => ?_
      rw [cut_of _ (by decide)] at h4
      have hs4 := s4 _ _ hs3
      refine zipT_of (.of hs4) (.of h4) ?_
      refine lcB_of (walk_zipT (xs := S.map V.int) (ys := (S.map V.int).drop 1) (n := S.length - 1) (by rw [List.length_drop, List.length_map]; omega)) fun D hD => ?_
      refine ⟨fun i H' => Same H4 H' ∧ H' D = some (.lst ((List.replicate i true).map V.bl)), ⟨same_upd hD, upd_same⟩, fun i H' hi h => ⟨.of (h.1 _ _ hs4), .of (h.1 _ _ h4)⟩, ?_, ?_⟩
      · rintro k x H' H'' hk ⟨sm, hD'⟩ ⟨t, x1, x2, ev, nT, eH, f1, f2⟩
        subst ev eH
        have f1 : (S.map V.int)[k]? = some x1 := f1
        have f2 : ((S.map V.int).drop 1)[k]? = some x2 := f2
        rw [List.getElem?_drop, Nat.add_comm 1 k, List.getElem?_map] at f2
        rw [List.getElem?_map] at f1
        obtain ⟨z1, g1, rfl⟩ := Option.map_eq_some_iff.mp f1
        obtain ⟨z2, g2, rfl⟩ := Option.map_eq_some_iff.mp f2
        obtain ⟨i1, j1⟩ := List.getElem?_eq_some_iff.mp g1
        obtain ⟨i2, j2⟩ := List.getElem?_eq_some_iff.mp g2
        have hlt := List.pairwise_iff_getElem.mp hv.lt k (k + 1) i1 i2 (by omega)
        rw [j1, j2] at hlt
        walk_at "go"
        refine tupg_of upd_same rfl ?_
        generalize e5 : upd H' t _ = H5
        have s5 := same_of e5 nT
        walk_at "go"
        rw [decide_eq_true hlt]
        refine ⟨_, s5 _ _ hD', sz_lt (by rw [List.length_map, List.length_replicate]; omega), same_mut (sm.trans s5) hD, ?_⟩
        rw [upd_same, List.replicate_succ', List.map_append]
        rfl
      · rintro H5 ⟨s5, hD'⟩
        refine all_of hD' ?_
        rw [show (List.replicate (S.length - 1) true).all id = true by simp]
        exact q H5 (s13.trans (s4.trans s5))
theorem set_cut {α : Type} (xs : List α) {i : Nat} (x : α) (h : i < xs.length) : xs.take i ++ [x] ++ xs.drop (i + 1) = xs.set i x := by
  rw [List.set_eq_take_append_cons_drop, if_pos h, List.append_assoc]
  rfl
theorem hid_cut {ws : List Int} {i : Nat} {o : V} (h : i < ws.length) (l : Int) : ((ws.map V.int).set i o).take i ++ [V.int l] ++ ((ws.map V.int).set i o).drop (i + 1) = (ws.set i l).map V.int := by
  rw [set_cut _ _ (by rw [List.length_set, List.length_map]; exact h), List.set_set, List.map_set]
theorem hid_rest {ws : List Int} {i : Nat} {o : V} : [V.int 1] ++ ((ws.map V.int).set i o).take i ++ ((ws.map V.int).set i o).drop (i + 1) = (1 :: (ws.take i ++ ws.drop (i + 1))).map V.int := by
  rw [List.take_set_of_le (Nat.le_refl i), List.drop_set_of_lt (Nat.lt_succ_self i), List.map_cons, List.map_append, List.map_take, List.map_drop]
  rfl
theorem set_wd {ws : List Int} (h : Wd ws) (i : Nat) {l : Int} (h1 : 1 ≤ l) (h2 : l ≤ 40) : Wd (ws.set i l) := by
  refine ⟨by rw [List.length_set]; exact h.1, fun x hx => ?_⟩
  rcases List.mem_or_eq_of_mem_set hx with g | g
  · exact h.2 x g
  · omega
/-- the width holds the other words -/
def HFit (ws : List Int) (i : Nat) (v : Int) : Prop := 1 ≤ v ∧ v ≤ 2500 ∧ ∀ x ∈ ws.take i ++ ws.drop (i + 1), x ≤ v
theorem hid_tx {ws : List Int} {i : Nat} {v l : Int} (h : Wd ws) (hi : i < ws.length) (hf : HFit ws i v) (h1 : 1 ≤ l) (h2 : l ≤ v) : Tx (ws.set i l) v := by
  refine ⟨fun x hx => ?_, fun x hx => ?_⟩
  · rcases List.mem_or_eq_of_mem_set hx with g | g
    · exact (h.2 x g).1
    · omega
  · rw [← set_cut _ _ hi, List.append_assoc] at hx
    rcases List.mem_append.mp hx with g | g
    · exact hf.2.2 x (List.mem_append_left _ g)
    · rcases List.mem_append.mp g with g | g
      · rw [List.mem_singleton.mp g]
        exact h2
      · exact hf.2.2 x (List.mem_append_right _ g)
abbrev st_check_hidden : Stmt := topS 20
abbrev N_check_hidden : List Str := ["words", "index", "width"]
theorem sc_check_hidden : FnScope N_check_hidden ["words", "index", "width"] (C8.fnScope st_check_hidden) := C8.fnScope_by (by decide +kernel)
theorem start_check_hidden {v0 v1 v2 : V} : L2.start N_check_hidden [v0, v1, v2] = [some v0, some v1, some v2] := rfl
def spChkHid (K : PySem.W.Frag) : Sp := fun vs H Q _ => ∃ (p : Addr) (ws : List Int) (i : Nat) (o : V) (v : Int), vs = [.ref p, .int i, .int v] ∧ Hid K H p ws i o ∧ HFit ws i v ∧ ∀ H', Same H H' → Q .non H'
theorem ok_check_hidden (T : Bl mg) (D : DefAt K mg "check_hidden" st_check_hidden ["words", "index", "width"]) (C_in_range : C8.Cal P w K mg base 2 "in_range" spInRange []) (C_is_words : C8.Cal P w K mg base 3 "is_words" spIsWords []) : C8.Cal P w K mg base 4 "check_hidden" (spChkHid K) [] := by
  refine cal_of D sc_check_hidden (fun vs H Q E h => ?_) (fun f cdv A outer s H vs Q E hr h => ?_)
  · obtain ⟨p, ws, i, o, v, rfl, _⟩ := h
    rfl
  · obtain ⟨p, ws, i, o, v, rfl, hp, hf, q⟩ := h
    have hlt := hp.lt
    have hwd := hp.wd.1
    refine ⟨_, (pss_cons (ps_if (PW.pt (pw_or (pt_not (pt_val (pe_callB call_isi (by rfl) T.isinstance_ (by decide +kernel) (pa_cons (pv 0) (pa_cons (pe_bltn (v := .ty "tuple") (by rfl) T.tuple_ (by decide +kernel) rfl) pa_nil))))) (pw_or1 (pt_cmpR (op_eqD hr.units) (pv 0) (pe_tup pa_nil) (nomark _))))) (pss_one ps_never) pss_nil)
  (pss_cons (ps_if (pt_not (pt_val (C8.pe_c C_in_range hr (by decide) rfl (pa_cons (pv 1) (pa_cons pe_int (pa_cons (pe_op op_sub (pe_callB call_lenS (by rfl) T.len_ (by decide +kernel) (pa_cons (pv 0) pa_nil)) pe_int) pa_nil)))))) (pss_one ps_never) pss_nil)
  (pss_cons (ps_if (pt_not (pt_val (C8.pe_c C_is_words hr (by decide) rfl (pa_cons (pe_op op_catA (pe_op op_catA (pe_slice sl_tupA (pv 0) po_none (po_some (pv 1))) (pe_tup (pa_cons pe_int pa_nil))) (pe_slice sl_tupA (pv 0) (po_some (pe_op op_add (pv 1) pe_int)) po_none)) pa_nil)))) (pss_one ps_never) pss_nil)
  (pss_one (ps_if (pt_not (pt_val (C8.pe_c C_in_range hr (by decide) rfl (pa_cons (pv 2) (pa_cons (pe_callB (cr_maxT rfl) (by rfl) T.max_ (by decide +kernel) (pa_cons (pe_op op_catA (pe_op op_catA (pe_tup (pa_cons pe_int pa_nil)) (pe_slice sl_tupA (pv 0) po_none (po_some (pv 1)))) (pe_slice sl_tupA (pv 0) (po_some (pe_op op_add (pv 1) pe_int)) po_none)) pa_nil)) (pa_cons pe_int pa_nil)))))) (pss_one ps_never) pss_nil))))), ?_⟩
    rw [start_check_hidden]
    have hp0 := hp.at_
    walk_at "go"
    intro p1 n1
    generalize e1 : upd H p1 _ = H1
    have s1 := same_of e1 n1
    refine (hp.to s1).eqnil (there e1) ?_
    have hp1 := (hp.to s1).at_
    walk_at "go"
    rw [List.length_set, List.length_map]
    refine in_yes (by omega) (by omega) ?_
    walk_at "go"
    refine slA_of hp1 fun a2 H2 s2 h2 => ?_
    rw [cut_to _ (by omega), Int.toNat_natCast] at h2
    walk_at "go"
    intro a3 n3
    generalize e3 : upd H2 a3 _ = H3
    have s3 := same_of e3 n3
    refine catA_of (s3 _ _ h2) (there e3) (sz_of (by rw [List.length_take, List.length_set, List.length_map, List.length_singleton]; omega)) fun a4 H4 s4 h4 => ?_
    have hp4 := s4 _ _ (s3 _ _ (s2 _ _ hp1))
    walk_at "go"
    refine slA_of hp4 fun a5 H5 s5 h5 => ?_
    rw [cut_of _ (by omega), show ((i : Int) + 1).toNat = i + 1 by omega] at h5
    refine catA_of (s5 _ _ h4) h5 (sz_of (by simp; omega)) fun a6 H6 s6 h6 => ?_
    rw [hid_cut hlt] at h6
    refine ⟨a6, _, rfl, h6, set_wd hp.wd i (by decide) (by decide), fun H7 s7 => ?_⟩
    have hp7 := s7 _ _ (s6 _ _ (s5 _ _ hp4))
    walk_at "go"
    intro a8 n8
    generalize e8 : upd H7 a8 _ = H8
    have s8 := same_of e8 n8
    have hp8 := s8 _ _ hp7
    refine slA_of hp8 fun a9 H9 s9 h9 => ?_
    rw [cut_to _ (by omega), Int.toNat_natCast] at h9
    refine catA_of (s9 _ _ (there e8)) h9 (sz_of (by simp; omega)) fun b1 G1 t1 k1 => ?_
    have hpb := t1 _ _ (s9 _ _ hp8)
    walk_at "go"
    refine slA_of hpb fun b2 G2 t2 k2 => ?_
    rw [cut_of _ (by omega), show ((i : Int) + 1).toNat = i + 1 by omega] at k2
    refine catA_of (t2 _ _ k1) k2 (sz_of (by simp; omega)) fun b3 G3 t3 k3 => ?_
    rw [hid_rest] at k3
    refine maxT_of k3 (Nat.succ_pos _) fun m hm hmx => ?_
    walk_at "go"
    refine in_yes ?_ hf.2.1 ?_
    · rcases List.mem_cons.mp hm with rfl | hm
      · exact hf.1
      · exact hf.2.2 m hm
    · walk_at "go"
      exact q _ (s1.trans (s2.trans (s3.trans (s4.trans (s5.trans (s6.trans (s7.trans (s8.trans (s9.trans (t1.trans (t2.trans t3)))))))))))
abbrev st_with_length : Stmt := topS 21
abbrev N_with_length : List Str := ["words", "index", "length"]
theorem sc_with_length : FnScope N_with_length ["words", "index", "length"] (C8.fnScope st_with_length) := C8.fnScope_by (by decide +kernel)
theorem start_with_length {v0 v1 v2 : V} : L2.start N_with_length [v0, v1, v2] = [some v0, some v1, some v2] := rfl
def spWithLen (K : PySem.W.Frag) : Sp := fun vs H Q _ => ∃ (p : Addr) (ws : List Int) (i : Nat) (o : V) (l : Int), vs = [.ref p, .int i, .int l] ∧ Hid K H p ws i o ∧ ∀ H' a, Same H H' → H' a = some (.tup ((ws.set i l).map V.int)) → Q (.ref a) H'
theorem ok_with_length (D : DefAt K mg "with_length" st_with_length ["words", "index", "length"]) : C8.Cal P w K mg base 1 "with_length" (spWithLen K) [] := by
  refine cal_of D sc_with_length (fun vs H Q E h => ?_) (fun f cdv A outer s H vs Q E hr h => ?_)
  · obtain ⟨p, ws, i, o, l, rfl, _⟩ := h
    rfl
  · obtain ⟨p, ws, i, o, l, rfl, hp, q⟩ := h
    have hlt := hp.lt
    have hwd := hp.wd.1
    refine ⟨_, (pss_one (ps_ret (pe_op op_catA (pe_op op_catA (pe_slice sl_tupA (pv 0) po_none (po_some (pv 1))) (pe_tup (pa_cons (pv 2) pa_nil))) (pe_slice sl_tupA (pv 0) (po_some (pe_op op_add (pv 1) pe_int)) po_none)))), ?_⟩
    rw [start_with_length]
    walk_at "go"
    refine slA_of hp.at_ fun a2 H2 s2 h2 => ?_
    rw [cut_to _ (by omega), Int.toNat_natCast] at h2
    walk_at "go"
    intro a3 n3
    generalize e3 : upd H2 a3 _ = H3
    have s3 := same_of e3 n3
    refine catA_of (s3 _ _ h2) (there e3) (sz_of (by rw [List.length_take, List.length_set, List.length_map, List.length_singleton]; omega)) fun a4 H4 s4 h4 => ?_
    have hp4 := s4 _ _ (s3 _ _ (s2 _ _ hp.at_))
    walk_at "go"
    refine slA_of hp4 fun a5 H5 s5 h5 => ?_
    rw [cut_of _ (by omega), show ((i : Int) + 1).toNat = i + 1 by omega] at h5
    refine catA_of (s5 _ _ h4) h5 (sz_of (by simp; omega)) fun a6 H6 s6 h6 => ?_
    rw [hid_cut hlt] at h6
    exact q H6 a6 (s2.trans (s3.trans (s4.trans (s5.trans s6)))) h6
end
end Ls
namespace Ls
/-! ### the numbers below n where p holds -/
/-- the numbers below n where p holds -/
def sel (p : Nat → Bool) (n : Nat) : List Nat := (List.range n).filter p
theorem sel_lt (p : Nat → Bool) (n : Nat) : (sel p n).Pairwise (· < ·) := (List.pairwise_lt_range (n := n)).filter p
theorem sel_mem {p : Nat → Bool} {n j : Nat} : j ∈ sel p n ↔ j < n ∧ p j = true := by
  unfold sel
  rw [List.mem_filter, List.mem_range]
theorem sel_zero (p : Nat → Bool) : sel p 0 = [] := rfl
theorem sel_yes {p : Nat → Bool} {n : Nat} (h : p n = true) : sel p (n + 1) = sel p n ++ [n] := by
  unfold sel
  rw [List.range_succ, List.filter_append, List.filter_cons, if_pos h]
  rfl
theorem sel_no {p : Nat → Bool} {n : Nat} (h : p n = false) : sel p (n + 1) = sel p n := by
  unfold sel
  rw [List.range_succ, List.filter_append, List.filter_cons, if_neg (by rw [h]; decide)]
  exact List.append_nil _
theorem sel_len (p : Nat → Bool) (n : Nat) : (sel p n).length ≤ n := by
  unfold sel
  have := List.length_filter_le p (List.range n)
  rw [List.length_range] at this
  exact this
theorem sel_first {p : Nat → Bool} {n a : Nat} {r : List Nat} (e : sel p n = a :: r) {m : Nat} (h : m < n) (hp : p m = true) : a ≤ m := by
  have hs := sel_lt p n
  rw [e] at hs
  have hm : m ∈ sel p n := sel_mem.mpr ⟨h, hp⟩
  rw [e] at hm
  rcases List.mem_cons.mp hm with rfl | hm
  · exact Nat.le_refl _
  · exact Nat.le_of_lt ((List.pairwise_cons.mp hs).1 m hm)
theorem sel_last {p : Nat → Bool} {n b : Nat} {r : List Nat} (e : sel p n = r ++ [b]) {m : Nat} (h : m < n) (hp : p m = true) : m ≤ b := by
  have hs := sel_lt p n
  rw [e] at hs
  have hm : m ∈ sel p n := sel_mem.mpr ⟨h, hp⟩
  rw [e] at hm
  rcases List.mem_append.mp hm with hm | hm
  · exact Nat.le_of_lt ((List.pairwise_append.mp hs).2.2 m hm b List.mem_cons_self)
  · rw [List.mem_singleton.mp hm]
    exact Nat.le_refl _
/-- between two that follow each other p holds nowhere -/
theorem sel_next {p : Nat → Bool} {n i a b : Nat} (ha : (sel p n)[i]? = some a) (hb : (sel p n)[i + 1]? = some b) : a < b ∧ ∀ m, a < m → m < b → p m = false := by
  have hs := List.pairwise_iff_getElem.mp (sel_lt p n)
  obtain ⟨h1, e1⟩ := List.getElem?_eq_some_iff.mp ha
  obtain ⟨h2, e2⟩ := List.getElem?_eq_some_iff.mp hb
  have hab := hs i (i + 1) h1 h2 (by omega)
  rw [e1, e2] at hab
  refine ⟨hab, fun m g1 g2 => ?_⟩
  have hbm := sel_mem.mp (List.mem_of_getElem? hb)
  cases hm : p m with
  | false => rfl
  | true =>
    obtain ⟨t, ht, et⟩ := List.getElem_of_mem (sel_mem.mpr ⟨by omega, hm⟩ : m ∈ sel p n)
    rcases Nat.lt_or_ge i t with g | g
    · rcases Nat.lt_or_ge (i + 1) t with g' | g'
      · have := hs (i + 1) t h2 ht g'
        omega
      · have e3 : t = i + 1 := by omega
        subst e3
        omega
    · rcases Nat.lt_or_ge t i with g' | g'
      · have := hs t i ht h1 g'
        omega
      · have e3 : t = i := by omega
        subst e3
        omega
end Ls
namespace Ls
open PySem PySem.Spec PyProof.Rows L2 RZ LamX NdefX
local macro_rules | `(tactic| walk_at "cond") => `(tactic| first
  | exact (by decide)
  | exact (Nat.le_of_ble_eq_true rfl)
  | exact ⟨by decide, by decide, by decide⟩
  | exact ⟨by decide, by decide⟩
  | (with_reducible assumption)
  | exact Or.inl ⟨by omega, by omega⟩
  | exact Or.inr ⟨by omega, by omega⟩
  | exact ⟨by omega, by omega, by omega⟩
  | exact wide_div (b := 61) (by omega) (by omega) (by decide) (by decide)
  | (with_reducible omega))
local macro_rules | `(tactic| walk_at "at") => `(tactic| first | assumption | exact upd_same)
local macro_rules | `(tactic| walk_at "sim") => `(tactic| simp only [tSeq, tAsg, gName, tOp, tC, tVar, tRet, tRetN, tIfS, tTest, tB, tNext, tDrop, tNever, tCons, tNil, tTup, tLst, tUn, tAnd, tOr, tNot, tAndV, tOrV, tNotV, tIf, tCB, tCall, gSub, gTup, gCons, gNil, tPar, tPar3,
  tSl, tPart, tLc_eq, tFor_eq, tDIn_eq, tDNotIn_eq, tDGet_eq, sDPut_eq, tDNewK, C8.tCut, tYes, iEnum_eq, iList_eq, iTup_eq, iRng1_eq, iRng2_eq, iZipA_eq, iKeys_eq, wipe, tBM, List.map_cons, List.map_nil, List.length_map,  tNoPart, tChain, List.getElem?_cons_zero, List.getElem?_cons_succ, List.set_cons_zero, List.set_cons_succ, List.append_nil,
  s_I0, s_I, s_U, s_bl, s_int, s_some, s_eqI, s_neI, s_par2, s_par3, s_abs, s_max2, s_min2, s_cons, true_and, decide_eq_true_eq, Bool.not_eq_true', decide_eq_false_iff_not, if_true, Bool.true_eq_false, reduceCtorEq, reduceIte, Bool.false_eq_true, if_false, ite_true, ite_false])
local macro_rules | `(tactic| walk_at "go1") => `(tactic| first
  | ((with_reducible refine' And.intro ?k1 ?_); (case k1 => walk_at "cond"))
  | ((with_reducible refine' ixL_of ?k1 ?k2 ?_); (case k1 => walk_at "at"); (case k2 => rfl))
  | ((with_reducible refine' ixT_of ?k1 ?k2 ?_); (case k1 => walk_at "at"); (case k2 => rfl))
  | ((with_reducible refine' setL_of ?k1 ?k2 ?_); (case k1 => walk_at "at"); (case k2 => rfl))
  | ((with_reducible refine' lenT_of ?k1 ?_); (case k1 => walk_at "at"))
  | ((with_reducible refine' lenL_of ?k1 ?_); (case k1 => walk_at "at"))
  | (with_reducible refine isi_int ?_)
  | (with_reducible refine isi_int_bool ?_)
  | ((with_reducible refine' isi_tup ?k1 ?_); (case k1 => walk_at "at"))
  | walk_at "sim")
local macro_rules | `(tactic| walk_at "go") => `(tactic| repeat (walk_at "go1"))
section
variable {P : Program} {w : World} {K : PySem.W.Frag} {mg : Str → Option Value} {base : Heap}
/-! ### hidden lengths -/
/-- the lengths, less one, whose line starts are good -/
def lens (g : List Int → Bool) (ws : List Int) (i : Nat) (v : Int) : List Nat := sel (fun j => g (sts (ws.set i (1 + (j : Int))) v 0)) (if v < 40 then v else 40).toNat
/-- what is promised of the ends of those lengths -/
def EndsQ (L : List Nat) (H : Hp) (Q : VK) : Prop := (L = [] → ∀ H', Same H H' → Q .non H') ∧ ∀ (a b : Nat) (r r' : List Nat), L = a :: r → L = r' ++ [b] → ∀ H' t, Same H H' → H' t = some (.tup [.int (1 + (a : Int)), .int (1 + (b : Int))]) → Q (.ref t) H'
theorem EndsQ.mono {L : List Nat} {H H' : Hp} {Q : VK} (h : EndsQ L H Q) (s : Same H H') : EndsQ L H' Q := ⟨fun e H2 s2 => h.1 e H2 (s.trans s2), fun a b r r' e e' H2 t s2 h2 => h.2 a b r r' e e' H2 t (s.trans s2) h2⟩
abbrev st_lengths_that : Stmt := topS 22
abbrev N_lengths_that : List Str := ["words", "index", "width", "good", "found", "length"]
theorem sc_lengths_that : FnScope N_lengths_that ["words", "index", "width", "good"] (C8.fnScope st_lengths_that) := C8.fnScope_by (by decide +kernel)
theorem start_lengths_that {v0 v1 v2 v3 : V} : L2.start N_lengths_that [v0, v1, v2, v3] = [some v0, some v1, some v2, some v3, none, none] := rfl
theorem lengths_walk (T : Bl mg) (C_starts_of : C8.Cal P w K mg base 2 "starts_of" spStarts []) (C_with_length : C8.Cal P w K mg base 1 "with_length" (spWithLen K) [])
    {g0 : Addr} {cdv : Value} {A : Around} {outer : List Env} {s : Shared} {H : Hp} {Q : VK} {f c' : Addr} {q : Str} {N' : List Str} {wsv : List (Option V)} {tb : TE} {j : Nat} {p : Addr} {ws : List Int} {i : Nat} {o : V} {v : Int} {g : List Int → Bool}
    (hr : Room j (A.deeper (envOfC "lengths_that" (C8.fnScope st_lengths_that) s.heap.objs.size g0 cdv))) (hj : 2 ≤ j) (hc : H c' = some (CodeO c' q))
    (act : ∀ (e : Expr) (t : TE) (p1 p2 : Pos), PE (cxOf C8.CX0 P w K mg base N_lengths_that "lengths_that" (C8.fnScope st_lengths_that) g0 cdv A outer s H C8.E0).nox e t →
      starEach [e] (cxOf C8.CX0 P w K mg base N_lengths_that "lengths_that" (C8.fnScope st_lengths_that) g0 cdv A outer s H C8.E0).nox.env = (false, eval e (cxOf C8.CX0 P w K mg base N_lengths_that "lengths_that" (C8.fnScope st_lengths_that) g0 cdv A outer s H C8.E0).nox.env) :: starEach [] (cxOf C8.CX0 P w K mg base N_lengths_that "lengths_that" (C8.fnScope st_lengths_that) g0 cdv A outer s H C8.E0).nox.env →
      PE (cxOf C8.CX0 P w K mg base N_lengths_that "lengths_that" (C8.fnScope st_lengths_that) g0 cdv A outer s H C8.E0).nox (.Call (.Name "good" p1) [e] [] p2) (tAct f c' q 3 N' wsv tb t))
    (K1 : Hp → Prop) (k1 : ∀ H H', Same H H' → K1 H → K1 H') (hK : K1 H) (hgood : ∀ L a H Q, K1 H → H a = some (.tup (L.map V.int)) → Q (.bl (g L)) H → tb (startF N' [.ref a] wsv) H Q)
    (hp : Hid K H p ws i o) (hf : HFit ws i v) (hq : EndsQ (lens g ws i v) H Q) :
    ∃ t, PSs (cxOf C8.CX0 P w K mg base N_lengths_that "lengths_that" (C8.fnScope st_lengths_that) g0 cdv A outer s H C8.E0).nox (C8.fnBody st_lengths_that) t ∧ t { nx := fun _ H' => Q .non H', rt := Q } (L2.start N_lengths_that [.ref p, .int i, .int v, .ref f]) H := by
  refine ⟨_, (pss_cons (ps_set (i := 4) sc_lengths_that.nd rfl (Or.inl rfl) (pe_lst pa_nil))
  (pss_cons (ps_for (g := gName 5) PassesOwn.never rfl (pi_range2 (by rfl) T.range_ (pa_cons pe_int (pa_cons (pe_op op_add (pe_callB (call_min2S rfl) (by rfl) T.min_ (by decide +kernel) (pa_cons (C8.pe_gc rfl T.ml) (pa_cons (pv 2) pa_nil))) pe_int) pa_nil))) (pg_name (i := 5) sc_lengths_that.nd rfl (Or.inl rfl) (Or.inr rfl)) (pss_one (ps_if (pt_val (act _ _ _ _ (C8.pe_c C_starts_of hr (by omega) rfl (pa_cons (C8.pe_c C_with_length hr (by omega) rfl (pa_cons (pv 0) (pa_cons (pv 1) (pa_cons (pv 5) pa_nil)))) (pa_cons (pv 2) (pa_cons pe_int pa_nil)))) rfl)) (pss_one (ps_expr (pe_bm PySem.F.plainAttrs_list PySem.F.slot_list_append PySem.F.type_list_append mt_append (pv 4) (pa_cons (pv 5) pa_nil)))) pss_nil)))
  (pss_one (ps_ret (pe_ifExp (pt_cmpR (op_neD hr.units) (pv 4) (pe_lst pa_nil) (nomark _)) (pe_tup (pa_cons (pe_ix ix_list (pv 4) pe_int (fun _ _ => rfl)) (pa_cons (pe_ix ix_list (pv 4) (pe_un un_neg pe_int) (fun _ _ => rfl)) pa_nil))) pe_non))))), ?_⟩
  rw [start_lengths_that]
  have hf1 := hf.1
  have hf2 := hf.2.1
  walk_at "go"
  intro d n1
  generalize e1 : upd H d _ = H1
  have s1 := same_of e1 n1
  walk_at "go"
  refine rng2_of (by split <;> omega) ?_
  rw [show ((if v < 40 then v else 40) + 1 - 1 : Int) = if v < 40 then v else 40 by omega]
  refine forB_of walk_range (fun k σ H' => ∃ y : Option V, σ = [some (.ref p), some (.int i), some (.int v), some (.ref f), some (.ref d), y] ∧ Same H H' ∧ H' d = some (.lst (((sel (fun j => g (sts (ws.set i (1 + (j : Int))) v 0)) k).map fun (j : Nat) => 1 + (j : Int)).map V.int)))
    ⟨none, rfl, s1, there e1⟩ (fun _ _ _ _ _ => True.intro) ?_ ?_
  · rintro k x σ H2 H2' hk ⟨y, rfl, sm, hd⟩ ⟨rfl, rfl⟩
    have hkv : 1 + (k : Int) ≤ v ∧ 1 + (k : Int) ≤ 40 := by
      split at hk <;> omega
    have hlen : (sel (fun j => g (sts (ws.set i (1 + (j : Int))) v 0)) k).length ≤ k := sel_len _ _
    walk_at "go"
    unfold tAct
    refine ⟨rfl, ?_⟩
    walk_at "go"
    refine ⟨p, ws, i, o, _, rfl, hp.to sm, fun H3 a3 s3 h3 => ?_⟩
    walk_at "go"
    refine ⟨a3, _, v, 0, rfl, h3, hid_tx hp.wd hp.lt hf (by omega) (by omega), by rw [List.length_set]; exact hp.wd.1, fun H4 a4 s4 h4 => ?_⟩
    have sm4 := sm.trans (s3.trans s4)
    have hc4 := sm4 _ _ hc
    refine ⟨rfl, hc4, hgood _ a4 H4 _ (k1 _ _ sm4 hK) h4 ?_⟩
    have hd4 := s4 _ _ (s3 _ _ hd)
    walk_at "go"
    cases hg : g (sts (ws.set i (1 + (k : Int))) v 0) with
    | true =>
      walk_at "go"
      refine ⟨.inl ⟨rfl, _, .inl (.inl hd4)⟩, app_of hd4 (sz_lt (by rw [List.length_map, List.length_map]; omega)) ?_⟩
      generalize e5 : upd H4 d _ = H5
      walk_at "go"
      refine ⟨_, rfl, ?_, ?_⟩
      · subst e5
        exact same_mut sm4 n1
      · rw [there e5, sel_yes hg, List.map_append, List.map_append]
        rfl
    | false =>
      walk_at "go"
      refine ⟨_, rfl, sm4, ?_⟩
      rw [sel_no hg]
      exact hd4
  · rintro σ H2 ⟨y, rfl, sm, hd⟩
    walk_at "go"
    intro pe n3
    generalize e3 : upd H2 pe _ = H3
    have s3 := same_of e3 n3
    have hd3 := s3 _ _ hd
    have sm3 := sm.trans s3
    refine neLnil_of hd3 (dpAll_ints _) (canLay_ints _) (by rw [depth_ints]; decide) (there e3) ?_
    rcases hl : sel (fun j => g (sts (ws.set i (1 + (j : Int))) v 0)) (if v < 40 then v else 40).toNat with _ | ⟨a0, r0⟩
    · rw [show List.map V.int (List.map (fun (j : Nat) => 1 + (j : Int)) []) = [] from rfl]
      walk_at "go"
      rw [if_neg (not_not_intro trivial)]
      exact hq.1 hl H3 sm3
    · rcases List.eq_nil_or_concat (a0 :: r0) with e0 | ⟨r1, b0, e0⟩
      · cases e0
      rw [List.concat_eq_append] at e0
      rw [hl] at hd3
      rw [decide_eq_false (by simp)]
      walk_at "go"
      refine ixL_of hd3 (atI_nat (j := 0) rfl) ?_
      walk_at "go"
      have hd3' := hd3
      rw [e0, List.map_append, List.map_append] at hd3'
      refine ixL_of hd3' (atI_last _ _) ?_
      walk_at "go"
      intro tp n4
      exact hq.2 a0 b0 r0 r1 hl (hl.trans e0) _ tp (sm3.trans (same_upd n4)) upd_same
end
end Ls
namespace Ls
open PySem PySem.Spec PyProof.Rows L2 RZ LamX NdefX
local macro_rules | `(tactic| walk_at "cond") => `(tactic| first
  | exact (by decide)
  | exact (Nat.le_of_ble_eq_true rfl)
  | exact ⟨by decide, by decide, by decide⟩
  | exact ⟨by decide, by decide⟩
  | (with_reducible assumption)
  | exact Or.inl ⟨by omega, by omega⟩
  | exact Or.inr ⟨by omega, by omega⟩
  | exact ⟨by omega, by omega, by omega⟩
  | exact wide_div (b := 61) (by omega) (by omega) (by decide) (by decide)
  | (with_reducible omega))
local macro_rules | `(tactic| walk_at "at") => `(tactic| first | assumption | exact upd_same)
local macro_rules | `(tactic| walk_at "sim") => `(tactic| simp only [tSeq, tAsg, gName, tOp, tC, tVar, tRet, tRetN, tIfS, tTest, tB, tNext, tDrop, tNever, tCons, tNil, tTup, tLst, tUn, tAnd, tOr, tNot, tAndV, tOrV, tNotV, tIf, tCB, tCall, gSub, gTup, gCons, gNil, tPar, tPar3,
  tSl, tPart, tLc_eq, tFor_eq, tDIn_eq, tDNotIn_eq, tDGet_eq, sDPut_eq, tDNewK, C8.tCut, tYes, iEnum_eq, iList_eq, iTup_eq, iRng1_eq, iRng2_eq, iZipA_eq, iKeys_eq, wipe, tBM, List.map_cons, List.map_nil, List.length_map,  tNoPart, tChain, List.getElem?_cons_zero, List.getElem?_cons_succ, List.set_cons_zero, List.set_cons_succ, List.append_nil,
  s_I0, s_I, s_U, s_bl, s_int, s_some, s_eqI, s_neI, s_par2, s_par3, s_abs, s_max2, s_min2, s_cons, true_and, decide_eq_true_eq, Bool.not_eq_true', decide_eq_false_iff_not, if_true, Bool.true_eq_false, reduceCtorEq, reduceIte, Bool.false_eq_true, if_false, ite_true, ite_false])
local macro_rules | `(tactic| walk_at "go1") => `(tactic| first
  | ((with_reducible refine' And.intro ?k1 ?_); (case k1 => walk_at "cond"))
  | ((with_reducible refine' ixL_of ?k1 ?k2 ?_); (case k1 => walk_at "at"); (case k2 => rfl))
  | ((with_reducible refine' ixT_of ?k1 ?k2 ?_); (case k1 => walk_at "at"); (case k2 => rfl))
  | ((with_reducible refine' setL_of ?k1 ?k2 ?_); (case k1 => walk_at "at"); (case k2 => rfl))
  | ((with_reducible refine' lenT_of ?k1 ?_); (case k1 => walk_at "at"))
  | ((with_reducible refine' lenL_of ?k1 ?_); (case k1 => walk_at "at"))
  | (with_reducible refine isi_int ?_)
  | (with_reducible refine isi_int_bool ?_)
  | ((with_reducible refine' isi_tup ?k1 ?_); (case k1 => walk_at "at"))
  | walk_at "sim")
local macro_rules | `(tactic| walk_at "go") => `(tactic| repeat (walk_at "go1"))
section
variable {P : Program} {w : World} {K : PySem.W.Frag} {mg : Str → Option Value} {base : Heap}
/-! ### the defs that hand a lambda over -/
/-- what the last statement returns -/
def lastRet : List Stmt → Expr
  | [] => .Name "x" ⟨0, 0, 0, 0⟩
  | [.Return (some e) _] => e
  | _ :: r => lastRet r
def subOf : Expr → Expr
  | .Subscript e _ _ => e
  | e => e
def callIn (st : Stmt) : Expr := subOf (lastRet (C8.fnBody st))
/-- all that is tracked stays, but for the tables of code objects, which stay good -/
def Ext (T : List (Addr × Str)) (H H' : Hp) : Prop := ExtN H H' ∧ Tabs T H'
theorem Ext.lst {T : List (Addr × Str)} {H H' : Hp} (e : Ext T H H') {a : Addr} {xs : List V} (h : H a = some (.lst xs)) : H' a = some (.lst xs) := e.1 _ _ h fun ps z => by cases z
theorem Ext.tup {T : List (Addr × Str)} {H H' : Hp} (e : Ext T H H') {a : Addr} {xs : List V} (h : H a = some (.tup xs)) : H' a = some (.tup xs) := e.1 _ _ h fun ps z => by cases z
theorem Ext.same {T : List (Addr × Str)} {H H' H2 : Hp} (e : Ext T H H') (s : Same H' H2) : Ext T H H2 := ⟨e.1.trans (.of s), e.2.ext s⟩
theorem Ext.of {T : List (Addr × Str)} {H H' : Hp} (h : Tabs T H) (s : Same H H') : Ext T H H' := ⟨.of s, h.ext s⟩
theorem Ext.trans {T : List (Addr × Str)} {H H' H2 : Hp} (e : Ext T H H') (e2 : Ext T H' H2) : Ext T H H2 := ⟨e.1.trans e2.1, e2.2⟩
def EndsT (T : List (Addr × Str)) (L : List Nat) (H : Hp) (Q : VK) : Prop := (L = [] → ∀ H', Ext T H H' → Q .non H') ∧ ∀ (a b : Nat) (r r' : List Nat), L = a :: r → L = r' ++ [b] → ∀ H' t, Ext T H H' → H' t = some (.tup [.int (1 + (a : Int)), .int (1 + (b : Int))]) → Q (.ref t) H'
theorem EndsT.ends {T : List (Addr × Str)} {L : List Nat} {H H' : Hp} {Q : VK} (h : EndsT T L H Q) (e : Ext T H H') : EndsQ L H' Q :=
  ⟨fun z H2 s2 => h.1 z H2 (e.same s2), fun a b r r' z z' H2 t s2 h2 => h.2 a b r r' z z' H2 t (e.same s2) h2⟩
abbrev st_lengths_of_starts : Stmt := topS 23
abbrev N_lengths_of_starts : List Str := ["words", "index", "width", "starts"]
theorem sc_lengths_of_starts : FnScope N_lengths_of_starts ["words", "index", "width", "starts"] (C8.fnScope st_lengths_of_starts) := C8.fnScope_by (by decide +kernel)
theorem start_lengths_of_starts {v0 v1 v2 v3 : V} : L2.start N_lengths_of_starts [v0, v1, v2, v3] = [some v0, some v1, some v2, some v3] := rfl
def spLos (K : PySem.W.Frag) (T : List (Addr × Str)) : Sp := fun vs H Q _ => ∃ (p ps : Addr) (ws : List Int) (i : Nat) (o : V) (v : Int) (S : List Int), vs = [.ref p, .int i, .int v, .ref ps] ∧ Hid K H p ws i o ∧ HFit ws i v ∧ H ps = some (.tup (S.map V.int)) ∧ VS ws.length S ∧ Tabs T H ∧
  EndsT T (lens (fun L => decide (L = S)) ws i v) H Q
theorem ok_lengths_of_starts {c Pt : Addr} {Tb : List (Addr × Str)} (T : Bl mg) (D : DefC K mg "lengths_of_starts" st_lengths_of_starts ["words", "index", "width", "starts"] c) (DL : DefAt K mg "lengths_that" st_lengths_that ["words", "index", "width", "good"]) (TB : TabB base mg c Pt) (hmT : (Pt, ("lengths_of_starts" : Str) ++ ".<locals>." ++ "<lambda>") ∈ Tb) (hu : ∀ p ∈ Tb, p.1 = Pt → p.2 = ("lengths_of_starts" : Str) ++ ".<locals>." ++ "<lambda>")
    (C_check_hidden : C8.Cal P w K mg base 4 "check_hidden" (spChkHid K) []) (C_are_starts : C8.Cal P w K mg base 2 "are_starts" (spAreStarts K) []) (C_starts_of : C8.Cal P w K mg base 2 "starts_of" spStarts []) (C_with_length : C8.Cal P w K mg base 1 "with_length" (spWithLen K) []) :
    C8.Cal P w K mg base 5 "lengths_of_starts" (spLos K Tb) [] := by
  refine cal_ofC D sc_lengths_of_starts (fun vs H Q E h => ?_) (fun f A outer s H vs Q E hr h => ?_)
  · obtain ⟨p, ps, ws, i, o, v, S, rfl, _⟩ := h
    rfl
  · obtain ⟨p, ps, ws, i, o, v, S, rfl, hp, hf, hs, hv, hT, hq⟩ := h
    have lam : PE (cxOf C8.CX0 P w K mg base N_lengths_of_starts "lengths_of_starts" (C8.fnScope st_lengths_of_starts) f (.ref c) A outer s H E).nox (callIn st_lengths_of_starts) (tLam4 Tb 0 1 2 [3] fun wsv vs H Q => ∃ (p ps : Addr) (ws : List Int) (i : Nat) (o : V) (v : Int) (S : List Int), wsv = [some (.ref ps)] ∧ vs = [.ref p, .int i, .int v] ∧ Hid K H p ws i o ∧ HFit ws i v ∧ H ps = some (.tup (S.map V.int)) ∧ EndsQ (lens (fun L => decide (L = S)) ws i v) H Q) := by
      refine pe_lamcall4 (k := 2) (fr := ["starts"]) (N' := ["told", "starts"]) (y := "told") (tb := tOp (rEqD K) (tVar 0) (tVar 1)) DL sc_lengths_that rfl (Or.inl rfl) rfl TB rfl hmT hu hr rfl (ndef_free (sc := C8.fnScope st_lengths_of_starts) (fr := ["starts"]) (by decide +kernel)) (ndef_fr (sc := C8.fnScope st_lengths_of_starts) (by decide +kernel)) rfl (nscope_by (by decide +kernel)) (fun _ _ _ _ _ _ => rfl)
        (fun cl c' f' A' o' s' H' hr2 => pe_cmpR (op_eqD hr2.units) (pv 0) (pv 1) (nomark _)) (fun g0 cdv f' c' s' H' wsv v1 v2 v3 Q' hr2 hc act h => ?_) rfl (Or.inl rfl) rfl (Or.inl rfl) rfl (Or.inl rfl)
      obtain ⟨p, ps, ws, i, o, v, S, rfl, e, hp, hf, hs, hq⟩ := h
      cases e
      exact lengths_walk T C_starts_of C_with_length hr2 (by omega) hc act (fun H => H ps = some (.tup (S.map V.int))) (fun _ _ s h => s _ _ h) hs (fun L a H Q h1 h2 q => by
        refine ⟨_, rfl, _, rfl, ?_⟩
        exact eqT_of h2 h1 q) hp hf hq
    refine ⟨_, (pss_cons (ps_expr (C8.pe_c C_check_hidden hr (by decide) rfl (pa_cons (pv 0) (pa_cons (pv 1) (pa_cons (pv 2) pa_nil)))))
  (pss_cons (ps_if (pt_not (pt_val (C8.pe_c C_are_starts hr (by decide) rfl (pa_cons (pv 0) (pa_cons (pv 3) pa_nil))))) (pss_one ps_never) pss_nil)
  (pss_one (ps_ret lam)))), ?_⟩
    rw [start_lengths_of_starts]
    walk_at "go"
    refine ⟨p, ws, i, o, v, rfl, hp, hf, fun H1 s1 => ?_⟩
    walk_at "go"
    refine ⟨p, ps, ws, i, o, S, rfl, hp.to s1, s1 _ _ hs, hv, fun H2 s2 => ?_⟩
    walk_at "go"
    have e2 : Ext Tb H H2 := .of hT (s1.trans s2)
    refine ⟨_, _, _, rfl, rfl, rfl, e2.2, fun H3 x3 T3 => ?_⟩
    have e3 : Ext Tb H H3 := ⟨e2.1.trans x3, T3⟩
    exact ⟨p, ps, ws, i, o, v, S, rfl, rfl, ⟨e3.tup hp.at_, hp.wd, hp.lt, hp.flat⟩, hf, e3.tup hs, hq.ends e3⟩
abbrev st_lengths_of_count : Stmt := topS 24
abbrev N_lengths_of_count : List Str := ["words", "index", "width", "lines"]
theorem sc_lengths_of_count : FnScope N_lengths_of_count ["words", "index", "width", "lines"] (C8.fnScope st_lengths_of_count) := C8.fnScope_by (by decide +kernel)
theorem start_lengths_of_count {v0 v1 v2 v3 : V} : L2.start N_lengths_of_count [v0, v1, v2, v3] = [some v0, some v1, some v2, some v3] := rfl
def spLoc (K : PySem.W.Frag) (T : List (Addr × Str)) : Sp := fun vs H Q _ => ∃ (p : Addr) (ws : List Int) (i : Nat) (o : V) (v l : Int), vs = [.ref p, .int i, .int v, .int l] ∧ Hid K H p ws i o ∧ HFit ws i v ∧ 1 ≤ l ∧ l ≤ ws.length ∧ Tabs T H ∧
  EndsT T (lens (fun L => decide ((L.length : Int) = l)) ws i v) H Q
theorem ok_lengths_of_count {c Pt : Addr} {Tb : List (Addr × Str)} (T : Bl mg) (D : DefC K mg "lengths_of_count" st_lengths_of_count ["words", "index", "width", "lines"] c) (DL : DefAt K mg "lengths_that" st_lengths_that ["words", "index", "width", "good"]) (TB : TabB base mg c Pt) (hmT : (Pt, ("lengths_of_count" : Str) ++ ".<locals>." ++ "<lambda>") ∈ Tb) (hu : ∀ p ∈ Tb, p.1 = Pt → p.2 = ("lengths_of_count" : Str) ++ ".<locals>." ++ "<lambda>")
    (C_check_hidden : C8.Cal P w K mg base 4 "check_hidden" (spChkHid K) []) (C_check_count : C8.Cal P w K mg base 3 "check_count" spChkCount []) (C_starts_of : C8.Cal P w K mg base 2 "starts_of" spStarts []) (C_with_length : C8.Cal P w K mg base 1 "with_length" (spWithLen K) []) :
    C8.Cal P w K mg base 5 "lengths_of_count" (spLoc K Tb) [] := by
  refine cal_ofC D sc_lengths_of_count (fun vs H Q E h => ?_) (fun f A outer s H vs Q E hr h => ?_)
  · obtain ⟨p, ws, i, o, v, l, rfl, _⟩ := h
    rfl
  · obtain ⟨p, ws, i, o, v, l, rfl, hp, hf, hl1, hl2, hT, hq⟩ := h
    have lam : PE (cxOf C8.CX0 P w K mg base N_lengths_of_count "lengths_of_count" (C8.fnScope st_lengths_of_count) f (.ref c) A outer s H E).nox (callIn st_lengths_of_count) (tLam4 Tb 0 1 2 [3] fun wsv vs H Q => ∃ (p : Addr) (ws : List Int) (i : Nat) (o : V) (v l : Int), wsv = [some (.int l)] ∧ vs = [.ref p, .int i, .int v] ∧ Hid K H p ws i o ∧ HFit ws i v ∧ EndsQ (lens (fun L => decide ((L.length : Int) = l)) ws i v) H Q) := by
      refine pe_lamcall4 (k := 2) (fr := ["lines"]) (N' := ["told", "lines"]) (y := "told") (tb := tOp rEq (tCB (rLenS K) (tCons (tVar 0) tNil)) (tVar 1)) DL sc_lengths_that rfl (Or.inl rfl) rfl TB rfl hmT hu hr rfl (ndef_free (sc := C8.fnScope st_lengths_of_count) (fr := ["lines"]) (by decide +kernel)) (ndef_fr (sc := C8.fnScope st_lengths_of_count) (by decide +kernel)) rfl (nscope_by (by decide +kernel)) (fun _ _ _ _ _ _ => rfl)
        (fun cl c' f' A' o' s' H' hr2 => pe_cmpR op_eq (pe_callB call_lenS (by rfl) T.len_ (by decide +kernel) (pa_cons (pv 0) pa_nil)) (pv 1) (nomark _)) (fun g0 cdv f' c' s' H' wsv v1 v2 v3 Q' hr2 hc act h => ?_) rfl (Or.inl rfl) rfl (Or.inl rfl) rfl (Or.inl rfl)
      obtain ⟨p, ws, i, o, v, l, rfl, e, hp, hf, hq⟩ := h
      cases e
      exact lengths_walk T C_starts_of C_with_length hr2 (by omega) hc act (fun _ => True) (fun _ _ _ h => h) True.intro (fun L a H Q h1 h2 q => by
        refine ⟨_, rfl, ?_⟩
        show rLenS K [V.ref a] H fun x H1 => tVar 1 (startF ["told", "lines"] [V.ref a] [some (V.int l)]) H1 fun y H2 => rEq x y H2 Q
        refine lenT_of h2 ⟨_, rfl, ?_⟩
        show rEq _ _ H Q
        rw [s_eqI, List.length_map]
        exact q) hp hf hq
    refine ⟨_, (pss_cons (ps_expr (C8.pe_c C_check_hidden hr (by decide) rfl (pa_cons (pv 0) (pa_cons (pv 1) (pa_cons (pv 2) pa_nil)))))
  (pss_cons (ps_expr (C8.pe_c C_check_count hr (by decide) rfl (pa_cons (pv 3) (pa_cons pe_int (pa_cons (pe_callB call_lenS (by rfl) T.len_ (by decide +kernel) (pa_cons (pv 0) pa_nil)) pa_nil)))))
  (pss_one (ps_ret lam)))), ?_⟩
    rw [start_lengths_of_count]
    walk_at "go"
    refine ⟨p, ws, i, o, v, rfl, hp, hf, fun H1 s1 => ?_⟩
    have hp1 := (hp.to s1).at_
    walk_at "go"
    rw [List.length_set, List.length_map]
    refine ⟨_, _, _, rfl, hl1, hl2, ?_⟩
    walk_at "go"
    have e2 : Ext Tb H H1 := .of hT s1
    refine ⟨_, _, _, rfl, rfl, rfl, e2.2, fun H3 x3 T3 => ?_⟩
    have e3 : Ext Tb H H3 := ⟨e2.1.trans x3, T3⟩
    exact ⟨p, ws, i, o, v, l, rfl, rfl, ⟨e3.tup hp.at_, hp.wd, hp.lt, hp.flat⟩, hf, hq.ends e3⟩
/-- the words as they are -/
theorem hid_true {K : PySem.W.Frag} {H : Hp} {p : Addr} {ws : List Int} {i : Nat} {x : Int} (hp : H p = some (.tup (ws.map V.int))) (hw : Wd ws) (hx : ws[i]? = some x) : Hid K H p ws i (.int x) := by
  obtain ⟨h, e⟩ := List.getElem?_eq_some_iff.mp hx
  refine ⟨?_, hw, h, .int x, fun H => .int x, rfl, rfl⟩
  rw [hp, ← List.map_set, ← e, List.set_getElem_self]
theorem set_true {ws : List Int} {i : Nat} {x : Int} (hx : ws[i]? = some x) : ws.set i x = ws := by
  obtain ⟨h, e⟩ := List.getElem?_eq_some_iff.mp hx
  rw [← e, List.set_getElem_self]
theorem hfit_true {ws : List Int} {v : Int} (hf : Fit ws v) (i : Nat) : HFit ws i v := ⟨hf.2.1, hf.2.2, fun x hx => by
  rcases List.mem_append.mp hx with h | h
  · exact hf.1 x (List.mem_of_mem_take h)
  · exact hf.1 x (List.mem_of_mem_drop h)⟩
/-- the true length is among those whose line starts are good -/
theorem lens_true {g : List Int → Bool} {ws : List Int} {v : Int} {i : Nat} {x : Int} (hw : Wd ws) (hf : Fit ws v) (hx : ws[i]? = some x) (hg : g (sts ws v 0) = true) : ∃ j : Nat, j ∈ lens g ws i v ∧ x = 1 + (j : Int) := by
  have h1 := hw.2 x (List.mem_of_getElem? hx)
  have h2 := hf.1 x (List.mem_of_getElem? hx)
  have e : 1 + (((x - 1).toNat : Nat) : Int) = x := by omega
  refine ⟨(x - 1).toNat, sel_mem.mpr ⟨by split <;> omega, ?_⟩, e.symm⟩
  rw [e, set_true hx]
  exact hg
end
end Ls
namespace Ls
/-! ### line starts against the length of one word: the mathematics -/
theorem sum_set : ∀ (ws : List Int) (i k : Nat) (l x : Int), ws[i]? = some x → ((ws.set i l).take k).sum = (ws.take k).sum + (if i < k then l - x else 0)
  | [], _, _, _, _, h => by cases h
  | y :: r, 0, k, l, x, h => by
    cases h
    cases k with
    | zero => simp
    | succ k =>
      rw [List.set_cons_zero, List.take_succ_cons, List.take_succ_cons, List.sum_cons, List.sum_cons, if_pos (Nat.succ_pos k)]
      omega
  | y :: r, i + 1, k, l, x, h => by
    cases k with
    | zero => simp
    | succ k =>
      rw [List.set_cons_succ, List.take_succ_cons, List.take_succ_cons, List.sum_cons, List.sum_cons, sum_set r i k l x h]
      split <;> split <;> omega
theorem pf_set {ws : List Int} {i : Nat} {x : Int} (h : ws[i]? = some x) (l : Int) (k : Nat) : pf (ws.set i l) k = pf ws k + (if i < k then l - x else 0) := by
  unfold pf
  rw [sum_set ws i k l x h]
  omega
section
variable {ws : List Int} {i : Nat} {v l l' : Int} (hi : i < ws.length) (hl : l ≤ l') (R : Tx (ws.set i l) v) (R' : Tx (ws.set i l') v)
include hi hl R R'
theorem nx_len {a b : Nat} (hab : b ≤ a) (ha : a < ws.length) : nx (ws.set i l') v b ≤ nx (ws.set i l) v a := by
  have e := List.getElem?_eq_getElem hi
  have ha1 : a < (ws.set i l).length := by rw [List.length_set]; exact ha
  have hb1 : b < (ws.set i l').length := by rw [List.length_set]; omega
  obtain ⟨a1, a2, a3, a4⟩ := nx_spec R ha1
  obtain ⟨b1, b2, b3, b4⟩ := nx_spec R' hb1
  rw [List.length_set] at b2
  rcases Nat.lt_or_ge (nx (ws.set i l) v a) (nx (ws.set i l') v b) with g | g
  · have h1 := a4 _ g (by rw [List.length_set]; exact b2)
    have h2 := pf_mono R hab (Nat.le_of_lt ha1)
    rw [pf_set e, pf_set e] at h1 h2 b3
    split at h1 <;> split at h1 <;> split at h2 <;> split at b3 <;> omega
  · exact g
theorem sts_len_front : ∀ (d a b : Nat), d = ws.length - a → b ≤ a → ∀ (j : Nat) (x y : Int), (sts (ws.set i l) v a)[j]? = some x → (sts (ws.set i l') v b)[j]? = some y → y ≤ x
  | d, a, b, hd, hab, j, x, y, hx, hy => by
    have e1 : (ws.set i l).length = ws.length := List.length_set
    have e2 : (ws.set i l').length = ws.length := List.length_set
    rcases Nat.lt_or_ge a ws.length with g | g
    · rw [sts_cons R (by omega)] at hx
      rw [sts_cons R' (by omega)] at hy
      cases j with
      | zero =>
        cases hx
        cases hy
        omega
      | succ j =>
        have := nx_gt R (i := a) (by omega)
        exact sts_len_front (ws.length - nx (ws.set i l) v a) (nx (ws.set i l) v a) (nx (ws.set i l') v b) rfl (nx_len hi hl R R' hab g) j x y hx hy
    · rw [sts_end (by omega)] at hx
      cases hx
  termination_by d => d
theorem cnt_len : ∀ (d a b : Nat), d = ws.length - a → b ≤ a → cnt (ws.set i l) v a ≤ cnt (ws.set i l') v b
  | d, a, b, hd, hab => by
    have e1 : (ws.set i l).length = ws.length := List.length_set
    have e2 : (ws.set i l').length = ws.length := List.length_set
    rcases Nat.lt_or_ge a ws.length with g | g
    · rw [cnt_cons R (i := a) (by omega), cnt_cons R' (i := b) (by omega)]
      have := nx_gt R (i := a) (by omega)
      have := cnt_len (ws.length - nx (ws.set i l) v a) (nx (ws.set i l) v a) (nx (ws.set i l') v b) rfl (nx_len hi hl R R' hab g)
      omega
    · rw [cnt_end (by omega)]
      exact Nat.zero_le _
  termination_by d => d
end
/-- without gaps -/
def Conv (p : Nat → Bool) (n : Nat) : Prop := ∀ a m b, a ≤ m → m ≤ b → b < n → p a = true → p b = true → p m = true
theorem conv_sel {p : Nat → Bool} : ∀ n : Nat, Conv p n → sel p n = [] ∨ ∃ a m : Nat, sel p n = (List.range (m + 1)).map fun j => a + j
  | 0, _ => .inl rfl
  | n + 1, h => by
    have hc : Conv p n := fun a m b h1 h2 h3 => h a m b h1 h2 (by omega)
    cases hp : p n with
    | false =>
      rw [sel_no hp]
      exact conv_sel n hc
    | true =>
      rw [sel_yes hp]
      rcases conv_sel n hc with e | ⟨a, m, e⟩
      · rw [e]
        exact .inr ⟨n, 0, rfl⟩
      · have ma : a ∈ sel p n := by
          rw [e]
          exact List.mem_map.mpr ⟨0, List.mem_range.mpr (Nat.succ_pos m), rfl⟩
        have mm : a + m ∈ sel p n := by
          rw [e]
          exact List.mem_map.mpr ⟨m, List.mem_range.mpr (Nat.lt_succ_self m), rfl⟩
        have h1 := sel_mem.mp ma
        have h2 := sel_mem.mp mm
        have e2 : n = a + (m + 1) := by
          rcases Nat.lt_or_ge (a + (m + 1)) n with g | g
          · have h3 := h a (a + (m + 1)) n (by omega) (by omega) (by omega) h1.2 hp
            have h4 : a + (m + 1) ∈ sel p n := sel_mem.mpr ⟨g, h3⟩
            rw [e] at h4
            obtain ⟨j, hj, ej⟩ := List.mem_map.mp h4
            have := List.mem_range.mp hj
            omega
          · omega
        refine .inr ⟨a, m + 1, ?_⟩
        rw [e, List.range_succ (n := m + 1), List.map_append]
        show _ ++ [n] = _ ++ [a + (m + 1)]
        rw [← e2]
theorem lens_conv_starts {ws : List Int} {i : Nat} {v : Int} (h : Wd ws) (hi : i < ws.length) (hf : HFit ws i v) (S : List Int) : Conv (fun j => decide (sts (ws.set i (1 + (j : Int))) v 0 = S)) (if v < 40 then v else 40).toNat := by
  intro a m b h1 h2 h3 ha hb
  have hv := hf.1
  have hb' : 1 + (b : Int) ≤ v := by split at h3 <;> omega
  have T : ∀ j : Nat, j ≤ b → Tx (ws.set i (1 + (j : Int))) v := fun j hj => hid_tx h hi hf (by omega) (by omega)
  have ea := of_decide_eq_true ha
  have eb := of_decide_eq_true hb
  refine decide_eq_true ?_
  have c1 := cnt_len hi (show (1 : Int) + a ≤ 1 + m by omega) (T a (by omega)) (T m h2) _ 0 0 rfl (Nat.le_refl _)
  have c2 := cnt_len hi (show (1 : Int) + m ≤ 1 + b by omega) (T m h2) (T b (Nat.le_refl _)) _ 0 0 rfl (Nat.le_refl _)
  unfold cnt at c1 c2
  rw [ea] at c1
  rw [eb] at c2
  have el : (sts (ws.set i (1 + (m : Int))) v 0).length = S.length := by omega
  refine List.ext_getElem el fun j j1 j2 => ?_
  have f1 := sts_len_front hi (show (1 : Int) + a ≤ 1 + m by omega) (T a (by omega)) (T m h2) _ 0 0 rfl (Nat.le_refl _) j S[j] (sts (ws.set i (1 + (m : Int))) v 0)[j] (by rw [ea]; exact List.getElem?_eq_getElem j2) (List.getElem?_eq_getElem j1)
  have f2 := sts_len_front hi (show (1 : Int) + m ≤ 1 + b by omega) (T m h2) (T b (Nat.le_refl _)) _ 0 0 rfl (Nat.le_refl _) j (sts (ws.set i (1 + (m : Int))) v 0)[j] S[j] (List.getElem?_eq_getElem j1) (by rw [eb]; exact List.getElem?_eq_getElem j2)
  omega
theorem lens_conv_count {ws : List Int} {i : Nat} {v : Int} (h : Wd ws) (hi : i < ws.length) (hf : HFit ws i v) (n : Int) : Conv (fun j => decide (((sts (ws.set i (1 + (j : Int))) v 0).length : Int) = n)) (if v < 40 then v else 40).toNat := by
  intro a m b h1 h2 h3 ha hb
  have hv := hf.1
  have hb' : 1 + (b : Int) ≤ v := by split at h3 <;> omega
  have T : ∀ j : Nat, j ≤ b → Tx (ws.set i (1 + (j : Int))) v := fun j hj => hid_tx h hi hf (by omega) (by omega)
  have ea := of_decide_eq_true ha
  have eb := of_decide_eq_true hb
  refine decide_eq_true ?_
  have c1 := cnt_len hi (show (1 : Int) + a ≤ 1 + m by omega) (T a (by omega)) (T m h2) _ 0 0 rfl (Nat.le_refl _)
  have c2 := cnt_len hi (show (1 : Int) + m ≤ 1 + b by omega) (T m h2) (T b (Nat.le_refl _)) _ 0 0 rfl (Nat.le_refl _)
  unfold cnt at c1 c2
  omega
end Ls
namespace Ls
open PySem PySem.Spec PyProof.Rows L2 RZ
/-! ### sorted of a set of tuples of ints, of any lengths -/
section
variable {prog : Program} {w : World} {A : Around} {E : Value → Shared → Prop} {s : Shared}
/-- a tuple of ints, one at least -/
def IsTp (h : Heap) (v : Value) : Prop := ∃ (a : Addr) (o : Obj) (vs : List Value) (ns : List Int) (n : Nat), v = .ref a ∧ h.get? a = some o ∧ o.cls = .type "tuple" ∧ o.data = .seq vs.toArray n ∧ IntsAre vs ns ∧ 0 < ns.length
theorem IsTp.keeps {h h' : Heap} {v : Value} (p : IsTp h v) (k : ∀ b o, h.get? b = some o → o.cls = .type "tuple" → h'.get? b = some o) : IsTp h' v := by
  obtain ⟨a, o, vs, ns, n, e, ho, hc, r⟩ := p
  exact ⟨a, o, vs, ns, n, e, k _ _ ho hc, hc, r⟩
theorem lex_any {b fin : Bool} : ∀ (l : List (Value × Value)) (i : Nat), (∀ p ∈ l, ∃ x t y u, p = (Value.int x t, Value.int y u)) → ∃ c : Bool, PySem.W.KatLex prog w A b fin (fun r s' => s' = s ∧ r = c) l i s
  | [], _, _ => ⟨fin, PySem.W.kat_nil ⟨rfl, rfl⟩⟩
  | p :: r, i, h => by
    obtain ⟨x, t, y, u, rfl⟩ := h p List.mem_cons_self
    by_cases e : x = y
    · obtain ⟨c, hc⟩ := lex_any r (i + 1) fun q hq => h q (List.mem_cons_of_mem _ hq)
      refine ⟨c, PySem.W.kat_cons (SeqAt.EqAt.int_int x t y u prog w _ _ (PySem.W.kat_go (fun _ => PySem.W.kat_yes hc) fun e1 => ?_))⟩
      exact absurd e (by simpa using e1)
    · refine ⟨decide (x < y), PySem.W.kat_cons (SeqAt.EqAt.int_int x t y u prog w _ _ (PySem.W.kat_go (fun e1 => ?_) fun _ => PySem.W.kat_no (TS.oneLt_ints _ ⟨rfl, rfl⟩)))⟩
      exact absurd (by simpa using e1) e
theorem tup_tot {vs : List Value} (hp : ∀ v ∈ vs, IsTp s.heap v) : Srt.Tot prog w A s (tuples' true) (fun p => p.1 ∈ vs) := by
  intro p q hm hm'
  obtain ⟨a, o, us, ns, n, e, ho, hc, hd, hi, _⟩ := hp _ hm
  obtain ⟨a', o', us', ns', n', e', ho', hc', hd', hi', _⟩ := hp _ hm'
  rw [e, e']
  obtain ⟨c, h⟩ := lex_any (prog := prog) (w := w) (A := A) (s := s) (b := true) (fin := decide (us.toArray.size < us'.toArray.size)) (us.toArray.toList.zip us'.toArray.toList) 0 fun z hz => by
    obtain ⟨i1, i2⟩ := List.of_mem_zip (a := z.1) (b := z.2) hz
    obtain ⟨x, t, e1⟩ := hi.all z.1 i1
    obtain ⟨y, u, e2⟩ := hi'.all z.2 i2
    exact ⟨x, t, y, u, Prod.ext e1 e2⟩
  exact ⟨c, PySem.W.kat_lt ho hd ho' hd' h⟩
theorem tp_firsts {h : Heap} : ∀ {vs : List Value}, (∀ v ∈ vs, IsTp h v) → ∃ fs : List Value, PySem.W.KatTups h vs fs ∧ fs.length = vs.length ∧ ∀ f ∈ fs, ∃ x t, f = Value.int x t
  | [], _ => ⟨[], PySem.W.KatTups.nil, rfl, fun _ hm => by simp at hm⟩
  | v :: vs, hp => by
    obtain ⟨fs, h1, h2, h3⟩ := tp_firsts (vs := vs) fun v' hm => hp v' (List.mem_cons_of_mem _ hm)
    obtain ⟨a, o, us, ns, n, e, ho, hc, hd, hi, h0⟩ := hp v List.mem_cons_self
    subst e
    cases ns with
    | nil => exact absurd h0 (Nat.lt_irrefl 0)
    | cons x ns' =>
      obtain ⟨t, us', rfl, hi'⟩ := hi.cons_inv
      refine ⟨.int x t :: fs, PySem.W.KatTups.cons ho hc hd rfl h1, by rw [List.length_cons, List.length_cons, h2], fun f hm => ?_⟩
      rcases List.mem_cons.mp hm with rfl | hm
      · exact ⟨_, _, rfl⟩
      · exact h3 f hm
theorem tups_sortable {a : Addr} {vs : List Value} (h0 : 0 < vs.length) (hp : ∀ v ∈ vs, IsTp s.heap v) (ha : ∀ o, s.heap.get? a = some o → o.cls ≠ .type "tuple") : Srt.Sortable prog w A s a vs := by
  intro h' keep
  have hp' : ∀ v ∈ vs, IsTp h' v := fun v hm => (hp v hm).keeps fun b o e c => keep b o (fun z => by subst z; exact ha o e c) e
  obtain ⟨fs, h1, h2, h3⟩ := tp_firsts hp'
  refine ⟨tuples' true, fun Q E hq => ?_, tup_tot hp'⟩
  refine PySem.W.kat_kind (T := .type "int") h1 (by omega) (fun f hm => ?_) (by rfl) ?_
  · obtain ⟨x, t, rfl⟩ := h3 f hm
    exact PySem.W.Looks.now
  · have e : (Value.type "int" != Value.type "tuple") = true := by first | decide +kernel | rfl | decide
    rw [e]
    exact hq
end
section
variable {X : Cx}
/-- sorted(a set of tuples of ints): a list of some of them -/
def rSortedU (K : PySem.W.Frag) (P : Program) (w : World) : List V → Hp → VK → Prop := fun vs H Q => ∃ (a : Addr) (L : List (Addr × List Int)), vs = [V.ref a] ∧ H a = some (SetTO P w a L) ∧ (∀ p ∈ L, SqT K H p.1 (p.2.map V.int) ∧ 0 < p.2.length) ∧
  ∀ (L' : List (Addr × List Int)) (p : Addr), (∀ q ∈ L', q ∈ L) → L'.length < 64 → H p = none → Q (.ref p) (upd H p (.lst (L'.map fun q => V.ref q.1)))
theorem cr_sortedU (hc : X.calm = true) : CallR X (.builtin "sorted") (rSortedU X.K X.prog X.w) := by
  intro pins s σ H vs us Q I r h
  obtain ⟨a, L, rfl, ha, hk, q⟩ := h
  have R0 : SetT0 X.prog X.w s.heap a L := (I.hok a _ ha).1
  obtain ⟨es, ep, t, R⟩ := R0.full fun p hp => I.isT (hk p hp).1
  rw [Vals.ref1 r]
  obtain ⟨o, ho, hex, hd⟩ := R.ob
  have hsz := R.size
  have hfew := R.few
  refine Calls.call_function_entry PyProof.Rows.kind_sorted PyProof.Rows.plain_sorted PyProof.Rows.entry_sorted (PyProof.Rows.args_sorted1 _) ?_
  unfold Builtin.«sorted»
  refine wpAny_bind (m := checkCount "sorted" 1 1 _) (wpAny_pure ?_)
  refine wpAny_bind (collect_set (A := X.A.in1) (I.ok.hd hc) ⟨o, ho, hex.1, hd⟩ R.fits (by unfold scanBound; omega) R.tab.ris R.led fun s1 vs k1 hz g1 o1 pm => ?_)
  have hes : es.toList.map (·.2) = L.map fun q => Value.ref q.1 := by
    rw [R.rows]
    unfold rowsOf
    rw [List.map_map] <;> rfl
  rw [hes] at pm
  have ord : ∀ us : List Value, (∀ v ∈ us, ∃ q ∈ L, v = Value.ref q.1) → ∃ L1 : List (Addr × List Int), us = L1.map (fun q => Value.ref q.1) ∧ ∀ q ∈ L1, q ∈ L := by
    intro us
    induction us with
    | nil => exact fun _ => ⟨[], rfl, fun q hq => (nomatch hq)⟩
    | cons v us ih =>
      intro hv
      obtain ⟨q, hq, e⟩ := hv v List.mem_cons_self
      obtain ⟨L1, e1, hs⟩ := ih fun u hu => hv u (List.mem_cons_of_mem _ hu)
      refine ⟨q :: L1, by rw [List.map_cons, e, e1], fun r hr => ?_⟩
      rcases List.mem_cons.mp hr with z | z
      · rw [z]; exact hq
      · exact hs r z
  have hvl : vs.length < 64 := by rw [pm.length_eq, List.length_map]; exact hfew
  refine wpAny_bind (wpAny_newList ?_ (by rw [sizeLine_eq]; omega))
  have hoL : (s1.heap.push (seqObj "list" vs.toArray 0)).get? s1.heap.objs.size = some (seqObj "list" vs.toArray 0) := Heap.get?_push_size _ rfl
  have tp : ∀ v ∈ vs, IsTp (s1.heap.push (seqObj "list" vs.toArray 0)) v := fun v hv => by
    obtain ⟨q, hq, e⟩ := List.mem_map.mp (pm.mem_iff.mp hv)
    obtain ⟨h1, h2⟩ := hk q hq
    obtain ⟨b, xs, e2, ⟨ob, hob, hcb, nb, hdb⟩, hi⟩ := tupInts_of (P := X.prog) (w := X.w) (isT_keep (I.isT h1) fun b u e => Heap.get?_push_of_some _ (k1 b u e))
    rw [← e]
    exact ⟨b, ob, xs.toList, q.2, nb, e2, hob, hcb, by simpa using hdb, hi, h2⟩
  refine wpAny_bind (wpAny_holding (wpAny_call_entry PyProof.Rows.slot_list_sort ⟨_, hoL, rfl⟩ PyProof.Rows.entry_list_sort
    (Srt.list_sort_any (s := { s1 with heap := s1.heap.push (seqObj "list" vs.toArray 0) }) hoL (by rw [sizeLine_eq]; omega) (fun h2 => tups_sortable (by omega) tp fun o e => ?_) fun out po => ⟨_, rfl, ?_⟩) (PyProof.Rows.args_list_sort _)))
  · have e' : some o = some (seqObj "list" vs.toArray 0) := e.symm.trans hoL
    cases e'
    intro c
    exact absurd (Value.type.inj c) (by decide)
  obtain ⟨c, hc'⟩ := PyProof.Rows.sortedHeap_at (vs := vs) (out := out.toArray) hoL
  obtain ⟨L', e', hs'⟩ := ord out fun v hv => by
    obtain ⟨q, hq, e⟩ := List.mem_map.mp (pm.mem_iff.mp (po.mem_iff.mp hv))
    exact ⟨q, hq, e.symm⟩
  have hlen : L'.length < 64 := by
    have := congrArg List.length e'
    rw [List.length_map, po.length_eq] at this
    omega
  have hlen2 : (L'.map fun q => V.ref q.1).length ≤ sizeLine := by rw [List.length_map, sizeLine_eq]; omega
  have kk : ∀ b u, s.heap.get? b = some u → (sortedHeap (s1.heap.push (seqObj "list" vs.toArray 0)) s1.heap.objs.size vs out.toArray).get? b = some u := fun b u e => by
    have q := k1 b u e
    have hlt := Heap.lt_size q
    rw [PyProof.Rows.sortedHeap_old (Nat.ne_of_lt hlt) (by rw [size_push']; exact Nat.lt_succ_of_lt hlt)]
    exact Heap.get?_push_of_some _ q
  have hn : H s1.heap.objs.size = none := I.hok.fresh hz
  have J : Inv X pins σ (upd H s1.heap.objs.size (.lst (L'.map fun q => V.ref q.1))) { s with heap := sortedHeap (s1.heap.push (seqObj "list" vs.toArray 0)) s1.heap.objs.size vs out.toArray, gens := s1.gens, drawn := s1.drawn, toks := s1.toks } :=
    I.call (ch := []) (Un.laid kk hz hn) (I.hok.laid kk hz ⟨hlen2, out, c, by rw [e']; exact vals_of_refs L', hc'⟩) (by rw [g1]; exact I.bare) (fun _ z => nomatch z)
  refine wpAny_pure ⟨_, rfl, ?_⟩
  have e : ({ s1 with heap := sortedHeap (s1.heap.push (seqObj "list" vs.toArray 0)) s1.heap.objs.size vs out.toArray } : Shared) = { s with heap := sortedHeap (s1.heap.push (seqObj "list" vs.toArray 0)) s1.heap.objs.size vs out.toArray, gens := s1.gens, drawn := s1.drawn, toks := s1.toks } := by
    cases s1
    cases s
    cases o1
    rfl
  refine (congrArg _ e).mpr ?_
  exact ⟨.ref s1.heap.objs.size, _, J, rfl, q L' _ hs' hlen hn⟩
end
end Ls
namespace Ls
open PySem PySem.Spec PyProof.Rows L2 RZ
local macro_rules | `(tactic| walk_at "cond") => `(tactic| first
  | exact (by decide)
  | exact (Nat.le_of_ble_eq_true rfl)
  | exact ⟨by decide, by decide, by decide⟩
  | exact ⟨by decide, by decide⟩
  | (with_reducible assumption)
  | exact Or.inl ⟨by omega, by omega⟩
  | exact Or.inr ⟨by omega, by omega⟩
  | exact ⟨by omega, by omega, by omega⟩
  | exact wide_div (b := 61) (by omega) (by omega) (by decide) (by decide)
  | (with_reducible omega))
local macro_rules | `(tactic| walk_at "at") => `(tactic| first | assumption | exact upd_same)
local macro_rules | `(tactic| walk_at "sim") => `(tactic| simp only [tSeq, tAsg, gName, tOp, tC, tVar, tRet, tRetN, tIfS, tTest, tB, tNext, tDrop, tNever, tCons, tNil, tTup, tLst, tUn, tAnd, tOr, tNot, tAndV, tOrV, tNotV, tIf, tCB, tCall, gSub, gTup, gCons, gNil, tPar, tPar3,
  tSl, tPart, tLc_eq, tFor_eq, tDIn_eq, tDNotIn_eq, tDGet_eq, sDPut_eq, tDNewK, C8.tCut, tYes, iEnum_eq, iList_eq, iTup_eq, iRng1_eq, iRng2_eq, iZipA_eq, iKeys_eq, wipe, tBM, List.map_cons, List.map_nil, List.length_map,  tNoPart, tChain, List.getElem?_cons_zero, List.getElem?_cons_succ, List.set_cons_zero, List.set_cons_succ, List.append_nil,
  s_I0, s_I, s_U, s_bl, s_int, s_some, s_eqI, s_neI, s_par2, s_par3, s_abs, s_max2, s_min2, s_cons, true_and, decide_eq_true_eq, Bool.not_eq_true', decide_eq_false_iff_not, if_true, Bool.true_eq_false, reduceCtorEq, reduceIte, Bool.false_eq_true, if_false, ite_true, ite_false])
local macro_rules | `(tactic| walk_at "go1") => `(tactic| first
  | ((with_reducible refine' And.intro ?k1 ?_); (case k1 => walk_at "cond"))
  | ((with_reducible refine' ixL_of ?k1 ?k2 ?_); (case k1 => walk_at "at"); (case k2 => rfl))
  | ((with_reducible refine' ixT_of ?k1 ?k2 ?_); (case k1 => walk_at "at"); (case k2 => rfl))
  | ((with_reducible refine' setL_of ?k1 ?k2 ?_); (case k1 => walk_at "at"); (case k2 => rfl))
  | ((with_reducible refine' lenT_of ?k1 ?_); (case k1 => walk_at "at"))
  | ((with_reducible refine' lenL_of ?k1 ?_); (case k1 => walk_at "at"))
  | (with_reducible refine isi_int ?_)
  | (with_reducible refine isi_int_bool ?_)
  | ((with_reducible refine' isi_tup ?k1 ?_); (case k1 => walk_at "at"))
  | walk_at "sim")
local macro_rules | `(tactic| walk_at "go") => `(tactic| repeat (walk_at "go1"))
section
variable {P : Program} {w : World} {K : PySem.W.Frag} {mg : Str → Option Value} {base : Heap}
/-! ### equal data -/
/-- two values of the same data, n deep at most -/
def SameD (H : Hp) : Nat → V → V → Prop
  | 0, a, b => (∃ i, a = .int i ∧ b = .int i) ∨ (a = .non ∧ b = .non)
  | n + 1, a, b => ((∃ i, a = .int i ∧ b = .int i) ∨ (a = .non ∧ b = .non)) ∨ ∃ p q xs ys, a = .ref p ∧ b = .ref q ∧ ((H p = some (.lst xs) ∧ H q = some (.lst ys)) ∨ (H p = some (.tup xs) ∧ H q = some (.tup ys))) ∧ xs.length = ys.length ∧ xs.length ≤ 10000 ∧
    ∀ (i : Nat) x y, xs[i]? = some x → ys[i]? = some y → SameD H n x y
theorem SameD.to {H H' : Hp} (e : Same H H') : ∀ (n : Nat) {a b : V}, SameD H n a b → SameD H' n a b
  | 0, _, _, h => h
  | n + 1, _, _, h => by
    rcases h with h | ⟨p, q, xs, ys, h1, h2, h3, h4, h5, h6⟩
    · exact .inl h
    · refine .inr ⟨p, q, xs, ys, h1, h2, ?_, h4, h5, fun i x y hx hy => SameD.to e n (h6 i x y hx hy)⟩
      rcases h3 with ⟨g1, g2⟩ | ⟨g1, g2⟩
      · exact .inl ⟨e _ _ g1, e _ _ g2⟩
      · exact .inr ⟨e _ _ g1, e _ _ g2⟩
theorem SameD.flat {H : Hp} {n : Nat} {a b : V} (h : (∃ i, a = .int i ∧ b = .int i) ∨ (a = .non ∧ b = .non)) : SameD H n a b := by
  cases n with
  | zero => exact h
  | succ n => exact .inl h
def spSame (n : Nat) : Sp := fun vs H Q _ => ∃ a b, vs = [a, b] ∧ SameD H n a b ∧ ∀ H', Same H H' → Q (.bl true) H'
abbrev st_law_same : Stmt := topS 29
abbrev N_law_same : List Str := ["_law_a", "_law_b", "_law_x", "_law_y"]
theorem sc_law_same : FnScope N_law_same ["_law_a", "_law_b"] (C8.fnScope st_law_same) := C8.fnScope_by (by decide +kernel)
theorem start_law_same {v0 v1 : V} : L2.start N_law_same [v0, v1] = [some v0, some v1, none, none] := rfl
theorem ok_same0 (T : Bl mg) (D : DefAt K mg "_law_same" st_law_same ["_law_a", "_law_b"]) : C8.Cal P w K mg base 1 "_law_same" (spSame 0) [] := by
  refine cal_of D sc_law_same (fun vs H Q E h => ?_) (fun f cdv A outer s H vs Q E hr h => ?_)
  · obtain ⟨a, b, rfl, _⟩ := h
    rfl
  · obtain ⟨a, b, rfl, h, q⟩ := h
    refine ⟨_, (pss_cons (ps_if (PW.pt (pw_or (PW.pt (pw_and (pt_val (pe_callB call_isi (by rfl) T.isinstance_ (by decide +kernel) (pa_cons (pv 0) (pa_cons (pe_bltn (v := .ty "list") (by rfl) T.list_ (by decide +kernel) rfl) pa_nil)))) (pw_and1 (pt_val (pe_callB call_isi (by rfl) T.isinstance_ (by decide +kernel) (pa_cons (pv 1) (pa_cons (pe_bltn (v := .ty "list") (by rfl) T.list_ (by decide +kernel) rfl) pa_nil))))))) (pw_or1 (PW.pt (pw_and (pt_val (pe_callB call_isi (by rfl) T.isinstance_ (by decide +kernel) (pa_cons (pv 0) (pa_cons (pe_bltn (v := .ty "tuple") (by rfl) T.tuple_ (by decide +kernel) rfl) pa_nil)))) (pw_and1 (pt_val (pe_callB call_isi (by rfl) T.isinstance_ (by decide +kernel) (pa_cons (pv 1) (pa_cons (pe_bltn (v := .ty "tuple") (by rfl) T.tuple_ (by decide +kernel) rfl) pa_nil)))))))))) (pss_one ps_never) pss_nil)
  (pss_cons (ps_if (PW.pt (pw_or (pt_val (pe_callB call_isiT (by rfl) T.isinstance_ (by decide +kernel) (pa_cons (pv 0) (pa_cons (pe_tup (pa_cons (pe_bltn (v := .ty "bool") (by rfl) T.bool_ (by decide +kernel) rfl) (pa_cons (pe_bltn (v := .ty "list") (by rfl) T.list_ (by decide +kernel) rfl) (pa_cons (pe_bltn (v := .ty "tuple") (by rfl) T.tuple_ (by decide +kernel) rfl) pa_nil)))) pa_nil)))) (pw_or1 (pt_val (pe_callB call_isiT (by rfl) T.isinstance_ (by decide +kernel) (pa_cons (pv 1) (pa_cons (pe_tup (pa_cons (pe_bltn (v := .ty "bool") (by rfl) T.bool_ (by decide +kernel) rfl) (pa_cons (pe_bltn (v := .ty "list") (by rfl) T.list_ (by decide +kernel) rfl) (pa_cons (pe_bltn (v := .ty "tuple") (by rfl) T.tuple_ (by decide +kernel) rfl) pa_nil)))) pa_nil))))))) (pss_one ps_never) pss_nil)
  (pss_cons (ps_if (PW.pt (pw_or (pt_val (pe_callB call_isi (by rfl) T.isinstance_ (by decide +kernel) (pa_cons (pv 0) (pa_cons (pe_bltn (v := .ty "int") (by rfl) T.int_ (by decide +kernel) rfl) pa_nil)))) (pw_or1 (pt_val (pe_callB call_isi (by rfl) T.isinstance_ (by decide +kernel) (pa_cons (pv 1) (pa_cons (pe_bltn (v := .ty "int") (by rfl) T.int_ (by decide +kernel) rfl) pa_nil))))))) (pss_one (ps_ret (pe_and (pe_callB call_isi (by rfl) T.isinstance_ (by decide +kernel) (pa_cons (pv 0) (pa_cons (pe_bltn (v := .ty "int") (by rfl) T.int_ (by decide +kernel) rfl) pa_nil))) (pe_and (pe_callB call_isi (by rfl) T.isinstance_ (by decide +kernel) (pa_cons (pv 1) (pa_cons (pe_bltn (v := .ty "int") (by rfl) T.int_ (by decide +kernel) rfl) pa_nil))) (pe_one (pe_cmpR op_eq (pv 0) (pv 1) (nomark _))))))) pss_nil)
  (pss_cons (ps_if (PW.pt (pw_or (pt_val (pe_callB call_isi (by rfl) T.isinstance_ (by decide +kernel) (pa_cons (pv 0) (pa_cons (pe_bltn (v := .ty "str") (by rfl) T.str_ (by decide +kernel) rfl) pa_nil)))) (pw_or1 (pt_val (pe_callB call_isi (by rfl) T.isinstance_ (by decide +kernel) (pa_cons (pv 1) (pa_cons (pe_bltn (v := .ty "str") (by rfl) T.str_ (by decide +kernel) rfl) pa_nil))))))) (pss_one ps_never) pss_nil)
  (pss_one (ps_ret (pe_and (pe_cmpR op_isN (pv 0) pe_non (nomark _)) (pe_one (pe_cmpR op_isN (pv 1) pe_non (nomark _)))))))))), ?_⟩
    rw [start_law_same]
    walk_at "go"
    rcases h with ⟨i, rfl, rfl⟩ | ⟨rfl, rfl⟩
    · have ty : ∀ H, TyX K H (.int i) (.type "int") := fun _ => .base (.int i)
      refine isi_of (b := false) (ty _) (by decide +kernel) ?_
      walk_at "go"
      refine isi_of (b := false) (ty _) (by decide +kernel) ?_
      walk_at "go"
      intro p1 n1
      refine isiT3_of (b1 := false) (b2 := false) (b3 := false) upd_same (ty _) (by decide +kernel) (by decide +kernel) (by decide +kernel) ?_
      generalize e1 : upd H p1 _ = H1
      have s1 := same_of e1 n1
      simp only [Bool.or_false]
      walk_at "go"
      intro p2 n2
      refine isiT3_of (b1 := false) (b2 := false) (b3 := false) upd_same (ty _) (by decide +kernel) (by decide +kernel) (by decide +kernel) ?_
      generalize e2 : upd H1 p2 _ = H2
      have s2 := same_of e2 n2
      simp only [Bool.or_false]
      walk_at "go"
      exact q _ (s1.trans s2)
    · have ty : ∀ H, TyX K H .non (.type "NoneType") := fun _ => .base .non
      refine isi_of (b := false) (ty _) (by decide +kernel) ?_
      walk_at "go"
      refine isi_of (b := false) (ty _) (by decide +kernel) ?_
      walk_at "go"
      intro p1 n1
      refine isiT3_of (b1 := false) (b2 := false) (b3 := false) upd_same (ty _) (by decide +kernel) (by decide +kernel) (by decide +kernel) ?_
      generalize e1 : upd H p1 _ = H1
      have s1 := same_of e1 n1
      simp only [Bool.or_false]
      walk_at "go"
      intro p2 n2
      refine isiT3_of (b1 := false) (b2 := false) (b3 := false) upd_same (ty _) (by decide +kernel) (by decide +kernel) (by decide +kernel) ?_
      generalize e2 : upd H1 p2 _ = H2
      have s2 := same_of e2 n2
      simp only [Bool.or_false]
      walk_at "go"
      refine isi_of (b := false) (ty _) (by decide +kernel) ?_
      walk_at "go"
      refine isi_of (b := false) (ty _) (by decide +kernel) ?_
      walk_at "go"
      refine isi_of (b := false) (ty _) (by decide +kernel) ?_
      walk_at "go"
      refine isi_of (b := false) (ty _) (by decide +kernel) ?_
      walk_at "go"
      exact q _ (s1.trans s2)
theorem ok_sameS (T : Bl mg) (D : DefAt K mg "_law_same" st_law_same ["_law_a", "_law_b"]) (n : Nat) (C_law_same : C8.Cal P w K mg base (n + 1) "_law_same" (spSame n) []) : C8.Cal P w K mg base (n + 2) "_law_same" (spSame (n + 1)) [] := by
  refine cal_of D sc_law_same (fun vs H Q E h => ?_) (fun f cdv A outer s H vs Q E hr h => ?_)
  · obtain ⟨a, b, rfl, _⟩ := h
    rfl
  · obtain ⟨a, b, rfl, h, q⟩ := h
    refine ⟨_, (pss_cons (ps_if (PW.pt (pw_or (PW.pt (pw_and (pt_val (pe_callB call_isi (by rfl) T.isinstance_ (by decide +kernel) (pa_cons (pv 0) (pa_cons (pe_bltn (v := .ty "list") (by rfl) T.list_ (by decide +kernel) rfl) pa_nil)))) (pw_and1 (pt_val (pe_callB call_isi (by rfl) T.isinstance_ (by decide +kernel) (pa_cons (pv 1) (pa_cons (pe_bltn (v := .ty "list") (by rfl) T.list_ (by decide +kernel) rfl) pa_nil))))))) (pw_or1 (PW.pt (pw_and (pt_val (pe_callB call_isi (by rfl) T.isinstance_ (by decide +kernel) (pa_cons (pv 0) (pa_cons (pe_bltn (v := .ty "tuple") (by rfl) T.tuple_ (by decide +kernel) rfl) pa_nil)))) (pw_and1 (pt_val (pe_callB call_isi (by rfl) T.isinstance_ (by decide +kernel) (pa_cons (pv 1) (pa_cons (pe_bltn (v := .ty "tuple") (by rfl) T.tuple_ (by decide +kernel) rfl) pa_nil)))))))))) (pss_one (ps_ret (pe_and (pe_cmpR op_eq (pe_callB call_lenS (by rfl) T.len_ (by decide +kernel) (pa_cons (pv 0) pa_nil)) (pe_callB call_lenS (by rfl) T.len_ (by decide +kernel) (pa_cons (pv 1) pa_nil)) (nomark _)) (pe_one (pe_callB (cr_all rfl) (by rfl) T.all_ (by decide +kernel) (pa_cons (pe_lc (own := [("_law_x", 2), ("_law_y", 3)]) (g := gTup K 2 (gCons (gName 2) (gCons (gName 3) gNil))) rfl sc_law_same.nd (pi_zipA (by rfl) T.zip_ (pa_cons (pv 0) (pa_cons (pv 1) pa_nil))) (blkOk_by (own := [("_law_x", 2), ("_law_y", 3)]) (N := N_law_same) (sc := (C8.fnScope st_law_same)) (by decide +kernel)) (fun _ _ _ _ _ => (pg_tup rfl (pgs_cons (pg_name (i := 2) sc_law_same.nd rfl (Or.inl rfl) (Or.inr rfl)) (pgs_cons (pg_name (i := 3) sc_law_same.nd rfl (Or.inl rfl) (Or.inr rfl)) pgs_nil)))) (fun _ _ _ _ _ => pts_nil) (fun _ _ _ _ _ => (C8.pe_c C_law_same hr (Nat.le_refl _) rfl (pa_cons (pv 2) (pa_cons (pv 3) pa_nil))))) pa_nil)))))) pss_nil)
  (pss_cons (ps_if (PW.pt (pw_or (pt_val (pe_callB call_isiT (by rfl) T.isinstance_ (by decide +kernel) (pa_cons (pv 0) (pa_cons (pe_tup (pa_cons (pe_bltn (v := .ty "bool") (by rfl) T.bool_ (by decide +kernel) rfl) (pa_cons (pe_bltn (v := .ty "list") (by rfl) T.list_ (by decide +kernel) rfl) (pa_cons (pe_bltn (v := .ty "tuple") (by rfl) T.tuple_ (by decide +kernel) rfl) pa_nil)))) pa_nil)))) (pw_or1 (pt_val (pe_callB call_isiT (by rfl) T.isinstance_ (by decide +kernel) (pa_cons (pv 1) (pa_cons (pe_tup (pa_cons (pe_bltn (v := .ty "bool") (by rfl) T.bool_ (by decide +kernel) rfl) (pa_cons (pe_bltn (v := .ty "list") (by rfl) T.list_ (by decide +kernel) rfl) (pa_cons (pe_bltn (v := .ty "tuple") (by rfl) T.tuple_ (by decide +kernel) rfl) pa_nil)))) pa_nil))))))) (pss_one ps_never) pss_nil)
  (pss_cons (ps_if (PW.pt (pw_or (pt_val (pe_callB call_isi (by rfl) T.isinstance_ (by decide +kernel) (pa_cons (pv 0) (pa_cons (pe_bltn (v := .ty "int") (by rfl) T.int_ (by decide +kernel) rfl) pa_nil)))) (pw_or1 (pt_val (pe_callB call_isi (by rfl) T.isinstance_ (by decide +kernel) (pa_cons (pv 1) (pa_cons (pe_bltn (v := .ty "int") (by rfl) T.int_ (by decide +kernel) rfl) pa_nil))))))) (pss_one (ps_ret (pe_and (pe_callB call_isi (by rfl) T.isinstance_ (by decide +kernel) (pa_cons (pv 0) (pa_cons (pe_bltn (v := .ty "int") (by rfl) T.int_ (by decide +kernel) rfl) pa_nil))) (pe_and (pe_callB call_isi (by rfl) T.isinstance_ (by decide +kernel) (pa_cons (pv 1) (pa_cons (pe_bltn (v := .ty "int") (by rfl) T.int_ (by decide +kernel) rfl) pa_nil))) (pe_one (pe_cmpR op_eq (pv 0) (pv 1) (nomark _))))))) pss_nil)
  (pss_cons (ps_if (PW.pt (pw_or (pt_val (pe_callB call_isi (by rfl) T.isinstance_ (by decide +kernel) (pa_cons (pv 0) (pa_cons (pe_bltn (v := .ty "str") (by rfl) T.str_ (by decide +kernel) rfl) pa_nil)))) (pw_or1 (pt_val (pe_callB call_isi (by rfl) T.isinstance_ (by decide +kernel) (pa_cons (pv 1) (pa_cons (pe_bltn (v := .ty "str") (by rfl) T.str_ (by decide +kernel) rfl) pa_nil))))))) (pss_one ps_never) pss_nil)
  (pss_one (ps_ret (pe_and (pe_cmpR op_isN (pv 0) pe_non (nomark _)) (pe_one (pe_cmpR op_isN (pv 1) pe_non (nomark _)))))))))), ?_⟩
    rw [start_law_same]
    walk_at "go"
    rcases h with h | ⟨p, q2, xs, ys, rfl, rfl, h3, hl, hl2, h6⟩
    · rcases h with ⟨i, rfl, rfl⟩ | ⟨rfl, rfl⟩
      · have ty : ∀ H, TyX K H (.int i) (.type "int") := fun _ => .base (.int i)
        refine isi_of (b := false) (ty _) (by decide +kernel) ?_
        walk_at "go"
        refine isi_of (b := false) (ty _) (by decide +kernel) ?_
        walk_at "go"
        intro p1 n1
        refine isiT3_of (b1 := false) (b2 := false) (b3 := false) upd_same (ty _) (by decide +kernel) (by decide +kernel) (by decide +kernel) ?_
        generalize e1 : upd H p1 _ = H1
        have s1 := same_of e1 n1
        simp only [Bool.or_false]
        walk_at "go"
        intro p2 n2
        refine isiT3_of (b1 := false) (b2 := false) (b3 := false) upd_same (ty _) (by decide +kernel) (by decide +kernel) (by decide +kernel) ?_
        generalize e2 : upd H1 p2 _ = H2
        have s2 := same_of e2 n2
        simp only [Bool.or_false]
        walk_at "go"
        exact q _ (s1.trans s2)
      · have ty : ∀ H, TyX K H .non (.type "NoneType") := fun _ => .base .non
        refine isi_of (b := false) (ty _) (by decide +kernel) ?_
        walk_at "go"
        refine isi_of (b := false) (ty _) (by decide +kernel) ?_
        walk_at "go"
        intro p1 n1
        refine isiT3_of (b1 := false) (b2 := false) (b3 := false) upd_same (ty _) (by decide +kernel) (by decide +kernel) (by decide +kernel) ?_
        generalize e1 : upd H p1 _ = H1
        have s1 := same_of e1 n1
        simp only [Bool.or_false]
        walk_at "go"
        intro p2 n2
        refine isiT3_of (b1 := false) (b2 := false) (b3 := false) upd_same (ty _) (by decide +kernel) (by decide +kernel) (by decide +kernel) ?_
        generalize e2 : upd H1 p2 _ = H2
        have s2 := same_of e2 n2
        simp only [Bool.or_false]
        walk_at "go"
        refine isi_of (b := false) (ty _) (by decide +kernel) ?_
        walk_at "go"
        refine isi_of (b := false) (ty _) (by decide +kernel) ?_
        walk_at "go"
        refine isi_of (b := false) (ty _) (by decide +kernel) ?_
        walk_at "go"
        refine isi_of (b := false) (ty _) (by decide +kernel) ?_
        walk_at "go"
        exact q _ (s1.trans s2)
    · rcases h3 with ⟨g1, g2⟩ | ⟨g1, g2⟩
      · have ty1 : TyX K H (.ref p) (.type "list") := .base (.lst g1)
        have ty2 : TyX K H (.ref q2) (.type "list") := .base (.lst g2)
        refine isi_of (b := true) ty1 (by decide +kernel) ?_
        walk_at "go"
        refine isi_of (b := true) ty2 (by decide +kernel) ?_
        walk_at "go"
        rw [if_pos (by rw [hl])]
        refine zipL_of (.of g1) (.of g2) ?_
        refine lcB_of (walk_zip (xs := xs) (ys := ys) (n := xs.length) (by omega)) fun L hL => ?_
        refine ⟨fun i H' => Same H H' ∧ H' L = some (.lst ((List.replicate i true).map V.bl)), ⟨same_upd hL, upd_same⟩, fun i H' hi h => ⟨.of (h.1 _ _ g1), .of (h.1 _ _ g2)⟩, ?_, ?_⟩
        · intro i x H' H'' hi ⟨sm, hL'⟩ ⟨t, x1, x2, ev, nT, eH, f1, f2⟩
          subst ev eH
          walk_at "go"
          refine tupg_of upd_same rfl ?_
          generalize e5 : upd H' t _ = H5
          have s5 := same_of e5 nT
          walk_at "go"
          refine ⟨x1, x2, rfl, (h6 i x1 x2 f1 f2).to (sm.trans s5) n, fun H6 s6 => ?_⟩
          refine ⟨_, s6 _ _ (s5 _ _ hL'), sz_lt (by simp; omega), same_mut (sm.trans (s5.trans s6)) hL, ?_⟩
          rw [upd_same, List.replicate_succ', List.map_append]
          rfl
        · intro H' ⟨sm, hL'⟩
          refine all_of hL' ?_
          rw [show (List.replicate xs.length true).all id = true by simp]
          exact q _ sm
      · have ty1 : TyX K H (.ref p) (.type "tuple") := .base (.tup g1)
        have ty2 : TyX K H (.ref q2) (.type "tuple") := .base (.tup g2)
        refine isi_of (b := false) ty1 (by decide +kernel) ?_
        walk_at "go"
        rw [if_pos (by rw [hl])]
        refine zipT_of (.of g1) (.of g2) ?_
        refine lcB_of (walk_zipT (xs := xs) (ys := ys) (n := xs.length) (by omega)) fun L hL => ?_
        refine ⟨fun i H' => Same H H' ∧ H' L = some (.lst ((List.replicate i true).map V.bl)), ⟨same_upd hL, upd_same⟩, fun i H' hi h => ⟨.of (h.1 _ _ g1), .of (h.1 _ _ g2)⟩, ?_, ?_⟩
        · intro i x H' H'' hi ⟨sm, hL'⟩ ⟨t, x1, x2, ev, nT, eH, f1, f2⟩
          subst ev eH
          walk_at "go"
          refine tupg_of upd_same rfl ?_
          generalize e5 : upd H' t _ = H5
          have s5 := same_of e5 nT
          walk_at "go"
          refine ⟨x1, x2, rfl, (h6 i x1 x2 f1 f2).to (sm.trans s5) n, fun H6 s6 => ?_⟩
          refine ⟨_, s6 _ _ (s5 _ _ hL'), sz_lt (by simp; omega), same_mut (sm.trans (s5.trans s6)) hL, ?_⟩
          rw [upd_same, List.replicate_succ', List.map_append]
          rfl
        · intro H' ⟨sm, hL'⟩
          refine all_of hL' ?_
          rw [show (List.replicate xs.length true).all id = true by simp]
          exact q _ sm
end
end Ls
namespace Ls
open PySem PySem.Spec PyProof.Rows L2 RZ LamX NdefX
local macro_rules | `(tactic| walk_at "cond") => `(tactic| first
  | exact (by decide)
  | exact (Nat.le_of_ble_eq_true rfl)
  | exact ⟨by decide, by decide, by decide⟩
  | exact ⟨by decide, by decide⟩
  | (with_reducible assumption)
  | exact Or.inl ⟨by omega, by omega⟩
  | exact Or.inr ⟨by omega, by omega⟩
  | exact ⟨by omega, by omega, by omega⟩
  | exact wide_div (b := 61) (by omega) (by omega) (by decide) (by decide)
  | (with_reducible omega))
local macro_rules | `(tactic| walk_at "at") => `(tactic| first | assumption | exact upd_same)
local macro_rules | `(tactic| walk_at "sim") => `(tactic| simp only [tSeq, tAsg, gName, tOp, tC, tVar, tRet, tRetN, tIfS, tTest, tB, tNext, tDrop, tNever, tCons, tNil, tTup, tLst, tUn, tAnd, tOr, tNot, tAndV, tOrV, tNotV, tIf, tCB, tCall, gSub, gTup, gCons, gNil, tPar, tPar3,
  tSl, tPart, tLc_eq, tFor_eq, tDIn_eq, tDNotIn_eq, tDGet_eq, sDPut_eq, tDNewK, C8.tCut, tYes, iEnum_eq, iList_eq, iTup_eq, iRng1_eq, iRng2_eq, iZipA_eq, iKeys_eq, wipe, tBM, List.map_cons, List.map_nil, List.length_map,  tNoPart, tChain, List.getElem?_cons_zero, List.getElem?_cons_succ, List.set_cons_zero, List.set_cons_succ, List.append_nil,
  s_I0, s_I, s_U, s_bl, s_int, s_some, s_eqI, s_neI, s_par2, s_par3, s_abs, s_max2, s_min2, s_cons, true_and, decide_eq_true_eq, Bool.not_eq_true', decide_eq_false_iff_not, if_true, Bool.true_eq_false, reduceCtorEq, reduceIte, Bool.false_eq_true, if_false, ite_true, ite_false])
local macro_rules | `(tactic| walk_at "go1") => `(tactic| first
  | ((with_reducible refine' And.intro ?k1 ?_); (case k1 => walk_at "cond"))
  | ((with_reducible refine' ixL_of ?k1 ?k2 ?_); (case k1 => walk_at "at"); (case k2 => rfl))
  | ((with_reducible refine' ixT_of ?k1 ?k2 ?_); (case k1 => walk_at "at"); (case k2 => rfl))
  | ((with_reducible refine' setL_of ?k1 ?k2 ?_); (case k1 => walk_at "at"); (case k2 => rfl))
  | ((with_reducible refine' lenT_of ?k1 ?_); (case k1 => walk_at "at"))
  | ((with_reducible refine' lenL_of ?k1 ?_); (case k1 => walk_at "at"))
  | (with_reducible refine isi_int ?_)
  | (with_reducible refine isi_int_bool ?_)
  | ((with_reducible refine' isi_tup ?k1 ?_); (case k1 => walk_at "at"))
  | walk_at "sim")
local macro_rules | `(tactic| walk_at "go") => `(tactic| repeat (walk_at "go1"))
section
variable {P : Program} {w : World} {K : PySem.W.Frag} {mg : Str → Option Value} {base : Heap}
/-! ### own rules -/
theorem menu5 {r x : Int} (h0 : 0 ≤ r) (h1 : r < 5) : ∃ o : V, atI [V.non, V.int 0, V.int 99, V.str "?", V.int x] r = some o ∧ ∃ d : PyData, (∀ (K : PySem.W.Frag) (H : Hp), Dp K H o d) ∧ PyData.canLay0 d = true ∧ PyData.depth d = 0 := by
  have h : r = 0 ∨ r = 1 ∨ r = 2 ∨ r = 3 ∨ r = 4 := by omega
  rcases h with rfl | rfl | rfl | rfl | rfl
  · exact ⟨_, rfl, _, fun K H => .non, rfl, rfl⟩
  · exact ⟨_, rfl, _, fun K H => .int _, rfl, rfl⟩
  · exact ⟨_, rfl, _, fun K H => .int _, rfl, rfl⟩
  · exact ⟨_, rfl, _, fun K H => .str _, by decide +kernel, rfl⟩
  · exact ⟨_, rfl, _, fun K H => .int _, rfl, rfl⟩
theorem lock_back {H H1 H' : Hp} {d : Addr} {o x : HO} (e : upd H d x = H1) (h : H d = some o) (s : Same H1 H') : Same H (upd H' d o) := fun b u hb => by
  subst e
  by_cases hd : b = d
  · subst hd
    rw [h] at hb
    rw [upd_same, hb]
  · rw [upd_ne hd]
    exact s _ _ (by rw [upd_ne hd]; exact hb)
theorem wd_one : Wd [1] := ⟨by decide, fun x hx => by rw [List.mem_singleton.mp hx]; decide⟩
theorem wd_seven : Wd [7] := ⟨by decide, fun x hx => by rw [List.mem_singleton.mp hx]; decide⟩
theorem lens_none : lens (fun L => decide (L = [0])) [1] 0 3 = [0, 1, 2] := by decide +kernel
theorem lens_seven : lens (fun L => decide ((L.length : Int) = 1)) [7] 0 2500 = List.range 40 := by decide +kernel
theorem op_isF {X : Cx} : OpR X (compareOp .Is) (fun x y H Q => y = .bl false ∧ (x = .non ∨ ∃ a, x = .ref a) ∧ Q (.bl false) H) := by
  intro pins s σ H x y v u Q I rx ry h
  obtain ⟨rfl, h, q⟩ := h
  cases ry
  rcases h with rfl | ⟨a, rfl⟩
  · cases rx
    exact wpAny_is_plain rfl (fin_bl I q rfl)
  · cases rx
    exact wpAny_is_plain rfl (fin_bl I q rfl)
theorem op_eqDK {X : Cx} {K : PySem.W.Frag} (h : X.K = K) (hu : X.A.units + 64 < cLine) : OpR X (compareOp .Eq) (rEqD K) := by
  subst h
  exact op_eqD hu
theorem call_lenK {X : Cx} {K : PySem.W.Frag} (h : X.K = K) : CallR X (.builtin "len") (rLenS K) := by
  subst h
  exact call_lenS
/-! ### rows -/
def krf (f : Nat → V) (n : Nat) : List (Key × V) := (List.range n).map fun (j : Nat) => ((Sum.inl (1 + (j : Int)) : Key), f j)
theorem krf_succ (f : Nat → V) (n : Nat) : krf f (n + 1) = krf f n ++ [((Sum.inl (1 + (n : Int)) : Key), f n)] := by
  unfold krf
  rw [List.range_succ, List.map_append]
  rfl
theorem krf_len (f : Nat → V) (n : Nat) : (krf f n).length = n := by
  unfold krf
  rw [List.length_map, List.length_range]
theorem krf_at (f : Nat → V) (j : Nat) : ∀ n : Nat, valV (krf f n) (.inl (1 + (j : Int))) = if j < n then some (f j) else none
  | 0 => by
    rw [if_neg (by omega)]
    rfl
  | n + 1 => by
    have e := krf_at f n n
    rw [if_neg (by omega)] at e
    rw [krf_succ, valV_snoc _ _ _ _ e, krf_at f j n]
    by_cases h : j = n
    · subst h
      rw [if_pos rfl, if_pos (by omega)]
    · rw [if_neg (fun z => h (by have := Sum.inl.inj z; omega))]
      by_cases h2 : j < n
      · rw [if_pos h2, if_pos (by omega)]
      · rw [if_neg h2, if_neg (by omega)]
theorem krf_congr {f g : Nat → V} {n : Nat} (h : ∀ j, j < n → f j = g j) : krf f n = krf g n := by
  unfold krf
  refine List.map_congr_left fun j hj => ?_
  rw [h j (List.mem_range.mp hj)]
def lid (n : Nat) : List Int := (List.range n).map fun (j : Nat) => 1 + (j : Int)
theorem krf_keys (f : Nat → V) (n : Nat) : (krf f n).map (·.1) = (lid n).map Sum.inl := by
  unfold krf lid
  rw [List.map_map, List.map_map]
  rfl
theorem lid_len (n : Nat) : (lid n).length = n := by
  unfold lid
  rw [List.length_map, List.length_range]
theorem lid_get {n i : Nat} {v : V} (h : ((lid n).map V.int)[i]? = some v) : i < n ∧ v = .int (1 + (i : Int)) := by
  have hi : i < n := by
    have := (List.getElem?_eq_some_iff.mp h).1
    rw [List.length_map, lid_len] at this
    exact this
  unfold lid at h
  rw [List.getElem?_map, List.getElem?_map, List.getElem?_range hi] at h
  exact ⟨hi, (Option.some.inj h).symm⟩
theorem lid_sorted (n : Nat) : (lid n).Pairwise (· ≤ ·) := by
  unfold lid
  rw [List.pairwise_map]
  exact (List.pairwise_lt_range (n := n)).imp fun {a b} h => by omega
abbrev st_law_range : Stmt := topS 35
abbrev N_law_range : List Str := ["_law_some"]
theorem sc_law_range : FnScope N_law_range ["_law_some"] (C8.fnScope st_law_range) := C8.fnScope_by (by decide +kernel)
theorem start_law_range {v0 : V} : L2.start N_law_range [v0] = [some v0] := rfl
def spRange : Sp := fun vs H Q _ => ∃ (d : Addr) (L : List Nat), vs = [.ref d] ∧ H d = some (.lst ((L.map fun (j : Nat) => 1 + (j : Int)).map V.int)) ∧ (L = [] ∨ ∃ a m : Nat, L = (List.range (m + 1)).map fun j => a + j) ∧ EndsQ L H Q
theorem ok_law_range (T : Bl mg) (D : DefAt K mg "_law_range" st_law_range ["_law_some"]) : C8.Cal P w K mg base 1 "_law_range" spRange [] := by
  refine cal_of D sc_law_range (fun vs H Q E h => ?_) (fun f cdv A outer s H vs Q E hr h => ?_)
  · obtain ⟨d, L, rfl, _⟩ := h
    rfl
  · obtain ⟨d, L, rfl, hd, hL, hq⟩ := h
    refine ⟨_, (pss_cons (ps_if (pt_cmpR (op_eqD hr.units) (pv 0) (pe_lst pa_nil) (nomark _)) (pss_one (ps_ret pe_non)) pss_nil)
  (pss_one (ps_ret (pe_ifExp (pt_cmpR op_eq (pe_callB call_lenS (by rfl) T.len_ (by decide +kernel) (pa_cons (pv 0) pa_nil)) (pe_op op_add (pe_op op_sub (pe_ix ix_list (pv 0) (pe_un un_neg pe_int) (fun _ _ => rfl)) (pe_ix ix_list (pv 0) pe_int (fun _ _ => rfl))) pe_int) (nomark _)) (pe_tup (pa_cons (pe_ix ix_list (pv 0) pe_int (fun _ _ => rfl)) (pa_cons (pe_ix ix_list (pv 0) (pe_un un_neg pe_int) (fun _ _ => rfl)) pa_nil))) pe_bl)))), ?_⟩
    rw [start_law_range]
    walk_at "go"
    intro pe n1
    generalize e1 : upd H pe _ = H1
    have s1 := same_of e1 n1
    have hd1 := s1 _ _ hd
    refine eqLnil_of hd1 (dpAll_ints _) (canLay_ints _) (by rw [depth_ints]; decide) (there e1) ?_
    rcases hL with rfl | ⟨a, m, rfl⟩
    · rw [show List.map V.int (List.map (fun (j : Nat) => 1 + (j : Int)) []) = [] from rfl]
      walk_at "go"
      exact hq.1 rfl H1 s1
    · have hne : ∃ r, ((List.range (m + 1)).map fun j => a + j) = a :: r := by
        rw [List.range_succ_eq_map, List.map_cons]
        exact ⟨_, rfl⟩
      obtain ⟨r, er⟩ := hne
      have el : ((List.range (m + 1)).map fun j => a + j) = ((List.range m).map fun j => a + j) ++ [a + m] := by
        rw [List.range_succ, List.map_append]
        rfl
      rw [decide_eq_false (by rw [er]; simp)]
      walk_at "go"
      have hdl := hd1
      rw [el, List.map_append, List.map_append] at hdl
      have hdf := hd1
      rw [er] at hdf
      refine ixL_of hdl (atI_last _ _) ?_
      refine ixL_of hdf (atI_nat (j := 0) rfl) ?_
      walk_at "go"
      rw [List.length_range, if_pos (by omega)]
      refine ixL_of hdf (atI_nat (j := 0) rfl) ?_
      refine ixL_of hdl (atI_last _ _) ?_
      walk_at "go"
      intro t nt
      exact hq.2 a (a + m) r _ er el _ t (s1.trans (same_upd nt)) upd_same
/-! ### the law -/
theorem tabs_but {Tb : List (Addr × Str)} {H H' : Hp} {b : Addr} {xs : List V} (h : Tabs Tb H) (hb : H b = some (.lst xs)) (e : But b H H') : Tabs Tb H' := fun p hp => by
  obtain ⟨ps, h1, h2, h3⟩ := h p hp
  refine ⟨ps, e _ _ (ne_of h1 hb (by intro z; cases z)) h1, h2, fun pos cv hc => ?_⟩
  obtain ⟨c, e1, e2⟩ := h3 pos cv hc
  exact ⟨c, e1, e _ _ (ne_of e2 hb (by intro z; unfold CodeO at z; cases z)) e2⟩
/-- all but b and the tables stays, the tables stay good -/
def BE (Tb : List (Addr × Str)) (b : Addr) (H H' : Hp) : Prop := (∀ c o, c ≠ b → H c = some o → (∀ ps, o ≠ .tbl ps) → H' c = some o) ∧ Tabs Tb H'
theorem BE.refl {Tb : List (Addr × Str)} {b : Addr} {H : Hp} (h : Tabs Tb H) : BE Tb b H H := ⟨fun _ _ _ h _ => h, h⟩
theorem BE.trans {Tb : List (Addr × Str)} {b : Addr} {H H1 H2 : Hp} (x : BE Tb b H H1) (y : BE Tb b H1 H2) : BE Tb b H H2 := ⟨fun c o n h t => y.1 c o n (x.1 c o n h t) t, y.2⟩
theorem BE.but {Tb : List (Addr × Str)} {b : Addr} {H H1 H2 : Hp} {xs : List V} (x : BE Tb b H H1) (hb : H1 b = some (.lst xs)) (e : But b H1 H2) : BE Tb b H H2 := ⟨fun c o n h t => e c o n (x.1 c o n h t), tabs_but x.2 hb e⟩
theorem BE.same {Tb : List (Addr × Str)} {b : Addr} {H H1 H2 : Hp} (x : BE Tb b H H1) (e : Same H1 H2) : BE Tb b H H2 := ⟨fun c o n h t => e c o (x.1 c o n h t), x.2.ext e⟩
theorem BE.ext {Tb : List (Addr × Str)} {b : Addr} {H H1 H2 : Hp} (x : BE Tb b H H1) (e : Ext Tb H1 H2) : BE Tb b H H2 := ⟨fun c o n h t => e.1 c o (x.1 c o n h t) t, e.2⟩
theorem BE.lst {Tb : List (Addr × Str)} {b c : Addr} {H H' : Hp} {xs : List V} (x : BE Tb b H H') (n : c ≠ b) (h : H c = some (.lst xs)) : H' c = some (.lst xs) := x.1 c _ n h fun ps z => by cases z
theorem Bag.tup {H : Hp} {a b : Addr} {m : Int} (h : Bag H a m) {xs : List V} (e : H b = some (.tup xs)) : b ≠ a := by
  obtain ⟨_, _, _, h1, _⟩ := h
  exact ne_of e h1 (by intro z; cases z)
theorem BE.tup {Tb : List (Addr × Str)} {b c : Addr} {H H' : Hp} {xs : List V} {m : Int} (x : BE Tb b H H') (B : Bag H b m) (h : H c = some (.tup xs)) : H' c = some (.tup xs) := x.1 c _ (B.tup h) h fun ps z => by cases z
theorem Bag.ext {Tb : List (Addr × Str)} {H H' : Hp} {a : Addr} {m : Int} (h : Bag H a m) (e : Ext Tb H H') : Bag H' a m := by
  obtain ⟨x, y, z, h1, h2, h3⟩ := h
  exact ⟨x, y, z, e.lst h1, h2, h3⟩
theorem Bag.neL {H : Hp} {a p : Addr} {m : Int} {bs : List Addr} (h : Bag H a m) (e : H p = some (.lst (bs.map V.ref))) : p ≠ a := by
  obtain ⟨x, y, z, h1, _⟩ := h
  refine ne_of e h1 fun z => ?_
  have z2 := HO.lst.inj z
  cases bs with
  | nil => cases z2
  | cons b r => cases (List.cons.inj z2).1
abbrev st_law : Stmt := topS 36
abbrev N_law : List Str := ["_law_script", "_law_bag", "_law_words_here", "_law_index", "_law_width_here", "_law_rows", "_law_length", "_law_odd", "_law_hidden", "_law_some", "_law_starts", "_law_due", "_law_found", "_law_lines"]
theorem sc_law : FnScope N_law ["_law_script"] (C8.fnScope st_law) := C8.fnScope_by (by decide +kernel)
theorem start_law {v0 : V} : L2.start N_law [v0] = [some v0, none, none, none, none, none, none, none, none, none, none, none, none, none] := rfl
def spLaw (K : PySem.W.Frag) (Tb : List (Addr × Str)) : Sp := fun vs H Q _ => ∃ (a : Addr) (ns : List Int), vs = [.ref a] ∧ SqL K H a (ns.map V.int) ∧ ns.length ≤ 63 ∧ Tabs Tb H ∧ ∀ H', Q (.bl true) H'
theorem ok_law {f : Addr} {fd : FuncData} {Tb : List (Addr × Str)} (T : Bw mg) (D : C8.Def K mg "law" st_law f fd) (C_law_bags : C8.Cal P w K mg base 2 "_law_bags" (spBags K) []) (C_law_words : C8.Cal P w K mg base 2 "_law_words" spWords []) (C_law_take : C8.Cal P w K mg base 1 "_law_take" spTake [])
    (C_law_width : C8.Cal P w K mg base 2 "_law_width" spWidth []) (C_law_greedy : C8.Cal P w K mg base 3 "_law_greedy" spStarts []) (C_law_range : C8.Cal P w K mg base 1 "_law_range" spRange []) (C_law_same : C8.Cal P w K mg base 2 "_law_same" (spSame 1) [])
    (C_lengths_of_starts : C8.Cal P w K mg base 5 "lengths_of_starts" (spLos K Tb) []) (C_lengths_of_count : C8.Cal P w K mg base 5 "lengths_of_count" (spLoc K Tb) []) : FnOk P w K mg base CX0 7 f fd ["_law_script"] (spLaw K Tb) := by
  refine C8.fn0 D.fn sc_law (fun vs H Q E h => ?_) (fun cdv A outer s0 H vs Q E hr h => ?_)
  · obtain ⟨a, ns, rfl, _⟩ := h
    rfl
  · obtain ⟨a, ns, rfl, hS, hlen, hT, q⟩ := h
    refine ⟨_, (pss_cons (ps_for (g := gName 1) PassesOwn.never rfl (pi_list (C8.pe_c C_law_bags hr (by decide) rfl (pa_cons (pv 0) (pa_cons pe_int pa_nil)))) (pg_name (i := 1) sc_law.nd rfl (Or.inl rfl) (Or.inr rfl)) (pss_cons (ps_set (i := 2) sc_law.nd rfl (Or.inl rfl) (C8.pe_c C_law_words hr (by decide) rfl (pa_cons (pv 1) (pa_cons pe_int pa_nil))))
  (pss_cons (ps_par (i := 3) (j := 4) (by rfl) sc_law.nd rfl rfl (by decide) rfl rfl (pa_cons (C8.pe_c C_law_take hr (by decide) rfl (pa_cons (pv 1) (pa_cons (pe_callB call_lenS (by rfl) T.len_ (by decide +kernel) (pa_cons (pv 2) pa_nil)) pa_nil))) (pa_cons (C8.pe_c C_law_width hr (by decide) rfl (pa_cons (pv 1) (pa_cons (pv 2) pa_nil))) pa_nil)) (by rfl))
  (pss_cons (ps_set (i := 5) sc_law.nd rfl (Or.inr rfl) pe_dnewK)
  (pss_cons (ps_for (g := gName 6) PassesOwn.never rfl (pi_range2 (by rfl) T.range_ (pa_cons pe_int (pa_cons (pe_op op_add (pe_callB (call_min2S rfl) (by rfl) T.min_ (by decide +kernel) (pa_cons pe_int (pa_cons (pv 4) pa_nil))) pe_int) pa_nil))) (pg_name (i := 6) sc_law.nd rfl (Or.inl rfl) (Or.inr rfl)) (pss_one (ps_dput (hu_of hr) (pv 5) (pv 6) (C8.pe_c C_law_greedy hr (by decide) rfl (pa_cons (pe_op op_catA (pe_op op_catA (pe_slice sl_tupA (pv 2) po_none (po_some (pv 3))) (pe_tup (pa_cons (pv 6) pa_nil))) (pe_slice sl_tupA (pv 2) (po_some (pe_op op_add (pv 3) pe_int)) po_none)) (pa_cons (pv 4) (pa_cons pe_int pa_nil)))) rfl)))
  (pss_cons (ps_set (i := 7) sc_law.nd rfl (Or.inl rfl) (pe_ix ix_list (pe_lst (pa_cons pe_non (pa_cons pe_int (pa_cons pe_int (pa_cons pe_str (pa_cons (pe_ix ix_tup (pv 2) (pv 3) (fun _ _ => rfl)) pa_nil)))))) (C8.pe_c C_law_take hr (by decide) rfl (pa_cons (pv 1) (pa_cons pe_int pa_nil))) (fun _ _ => rfl)))
  (pss_cons (ps_set (i := 8) sc_law.nd rfl (Or.inl rfl) (pe_op op_catA (pe_op op_catA (pe_slice sl_tupA (pv 2) po_none (po_some (pv 3))) (pe_tup (pa_cons (pv 7) pa_nil))) (pe_slice sl_tupA (pv 2) (po_some (pe_op op_add (pv 3) pe_int)) po_none)))
  (pss_cons (ps_set (i := 9) sc_law.nd rfl (Or.inl rfl) (pe_callB (cr_sortedU rfl) (by rfl) T.sorted_ (by decide +kernel) (pa_cons (pe_callTy (cr_setOfT rfl hr.units) (by rfl) T.set_ (by decide +kernel) (pa_cons (pe_lock (pe_lc (own := [("_law_length", 6)]) (g := gName 6) rfl sc_law.nd (pi_keys (pv 5)) (blkOk_by (own := [("_law_length", 6)]) (N := N_law) (sc := (C8.fnScope st_law)) (by decide +kernel)) (fun _ _ _ _ _ => (pg_name (i := 6) sc_law.nd rfl (Or.inl rfl) (Or.inr rfl))) (fun _ _ _ _ _ => pts_nil) (fun _ _ _ _ _ => (pe_dget (hu_of hr) (pv 5) (pv 6) (fun _ _ => rfl))))) pa_nil)) pa_nil)))
  (pss_cons (ps_for (g := gName 10) PassesOwn.never rfl (pi_list (pe_op op_cat (pv 9) (pe_lst (pa_cons (pe_tupRg rfl (by rfl) T.tuple_ (prg_1 (by rfl) T.range_ (pe_callB call_lenS (by rfl) T.len_ (by decide +kernel) (pa_cons (pv 2) pa_nil)))) (pa_cons (pe_tup (pa_cons pe_int pa_nil)) pa_nil))))) (pg_name (i := 10) sc_law.nd rfl (Or.inr rfl) (Or.inl rfl)) (pss_cons (ps_set (i := 11) sc_law.nd rfl (Or.inl rfl) (C8.pe_c C_law_range hr (by decide) rfl (pa_cons (pe_lc (own := [("_law_length", 6)]) (g := gName 6) rfl sc_law.nd (pi_list (pe_callB (cr_sortedD rfl) (by rfl) T.sorted_ (by decide +kernel) (pa_cons (pv 5) pa_nil))) (blkOk_by (own := [("_law_length", 6)]) (N := N_law) (sc := (C8.fnScope st_law)) (by decide +kernel)) (fun _ _ _ _ _ => (pg_name (i := 6) sc_law.nd rfl (Or.inl rfl) (Or.inr rfl))) (fun _ _ _ _ _ => (pts_one (pt_cmpR (op_eqDK (K := K) rfl hr.units) (pe_dget (hu_of hr) (pv 5) (pv 6) (fun _ _ => rfl)) (pv 10) (nomark _)))) (fun _ _ _ _ _ => (pv 6))) pa_nil)))
  (pss_cons (ps_set (i := 12) sc_law.nd rfl (Or.inl rfl) (C8.pe_c C_lengths_of_starts hr (by decide) rfl (pa_cons (pv 8) (pa_cons (pv 3) (pa_cons (pv 4) (pa_cons (pv 10) pa_nil))))))
  (pss_one (ps_if (PW.pt (pw_or (pt_cmpR op_isF (pv 11) pe_bl (nomark _)) (pw_or1 (pt_not (pt_val (C8.pe_c C_law_same hr (by decide) rfl (pa_cons (pv 12) (pa_cons (pv 11) pa_nil)))))))) (pss_one (ps_ret pe_bl)) pss_nil)))))
  (pss_one (ps_for (g := gName 13) PassesOwn.never rfl (pi_range2 (by rfl) T.range_ (pa_cons pe_int (pa_cons (pe_op op_add (pe_callB call_lenS (by rfl) T.len_ (by decide +kernel) (pa_cons (pv 2) pa_nil)) pe_int) pa_nil))) (pg_name (i := 13) sc_law.nd rfl (Or.inr rfl) (Or.inl rfl)) (pss_cons (ps_setLc (i := 9) (own := [("_law_length", 6)]) (g := gName 6) rfl sc_law.nd rfl rfl (sw_true rfl rfl rfl (by decide +kernel)) (pi_list (pe_callB (cr_sortedD rfl) (by rfl) T.sorted_ (by decide +kernel) (pa_cons (pv 5) pa_nil))) (blkOk_by (own := [("_law_length", 6)]) (N := N_law) (sc := (C8.fnScope st_law)) (by decide +kernel)) (fun _ _ _ _ _ => (pg_name (i := 6) sc_law.nd rfl (Or.inl rfl) (Or.inr rfl))) (fun _ _ _ _ _ => (pts_one (pt_cmpR op_eq (pe_callB (call_lenK (K := K) rfl) (by rfl) T.len_ (by decide +kernel) (pa_cons (pe_dget (hu_of hr) (pv 5) (pv 6) (fun _ _ => rfl)) pa_nil)) (pv 13) (nomark _)))) (fun _ _ _ _ _ => (pv 6)))
  (pss_cons (ps_set (i := 11) sc_law.nd rfl (Or.inl rfl) (C8.pe_c C_law_range hr (by decide) rfl (pa_cons (pv 9) pa_nil)))
  (pss_cons (ps_set (i := 12) sc_law.nd rfl (Or.inl rfl) (C8.pe_c C_lengths_of_count hr (by decide) rfl (pa_cons (pv 8) (pa_cons (pv 3) (pa_cons (pv 4) (pa_cons (pv 13) pa_nil))))))
  (pss_one (ps_if (PW.pt (pw_or (pt_cmpR op_isF (pv 11) pe_bl (nomark _)) (pw_or1 (pt_not (pt_val (C8.pe_c C_law_same hr (by decide) rfl (pa_cons (pv 12) (pa_cons (pv 11) pa_nil)))))))) (pss_one (ps_ret pe_bl)) pss_nil))))))))))))))))
  (pss_one (ps_ret (pe_and (pe_cmpR (op_eqD hr.units) (C8.pe_c C_lengths_of_starts hr (by decide) rfl (pa_cons (pe_tup (pa_cons pe_non pa_nil)) (pa_cons pe_int (pa_cons pe_int (pa_cons (pe_tup (pa_cons pe_int pa_nil)) pa_nil))))) (pe_tup (pa_cons pe_int (pa_cons pe_int pa_nil))) (nomark _)) (pe_one (pe_cmpR (op_eqD hr.units) (C8.pe_c C_lengths_of_count hr (by decide) rfl (pa_cons (pe_tup (pa_cons pe_int pa_nil)) (pa_cons pe_int (pa_cons pe_int (pa_cons pe_int pa_nil))))) (pe_tup (pa_cons pe_int (pa_cons pe_int pa_nil))) (nomark _))))))), ?_⟩
    rw [start_law]
    walk_at "go"
    refine ⟨a, ns, 8, rfl, hS, hlen, by decide, by decide, fun H1 p bs s1 n1 h1 hnd hbs => ?_⟩
    walk_at "go"
    refine list_of (.of h1) ?_
    refine forB_of (walk_list (xs := bs.map V.ref)) (fun i σ H' => ∃ y1 y2 y3 y4 y5 y6 y7 y8 y9 y10 y11 y12 y13 : Option V, σ = [some (.ref a), y1, y2, y3, y4, y5, y6, y7, y8, y9, y10, y11, y12, y13] ∧ H' p = some (.lst (bs.map V.ref)) ∧ (∀ j b, i ≤ j → bs[j]? = some b → Bag H' b 100000) ∧ Tabs Tb H')
      ⟨none, none, none, none, none, none, none, none, none, none, none, none, none, rfl, h1, fun j b _ hb => (hbs b (List.mem_of_getElem? hb)).1, hT.ext s1⟩ (fun i σ H' hi h => ?_) ?_ ?_
    · obtain ⟨_, _, _, _, _, _, _, _, _, _, _, _, _, _, h, _⟩ := h
      exact .of h
    · rintro i x σ H2 H2' hi ⟨y1, y2, y3, y4, y5, y6, y7, y8, y9, y10, y11, y12, y13, rfl, hp2, hB2, hT2⟩ ⟨rfl, hx⟩
      rw [List.getElem?_map] at hx
      obtain ⟨b, hb, rfl⟩ := Option.map_eq_some_iff.mp hx
      have B2 := hB2 i b (Nat.le_refl _) hb
      have B2' := B2
      obtain ⟨bx, by_, bz, hbl, _⟩ := B2'
      walk_at "go"
      refine ⟨b, 40, 100000, rfl, B2, by decide, by decide, by decide, fun H3 pw ws b3 n3 h3 B3 hl1 hl60 hws => ?_⟩
      have hw : Wd ws := ⟨by omega, hws⟩
      have E3 : BE Tb b H2' H3 := (BE.refl hT2).but hbl b3
      have B3' := B3
      obtain ⟨_, _, _, hbl3, _⟩ := B3'
      walk_at "go"
      refine ⟨b, ws.length, _, rfl, B3, by decide, by omega, by omega, fun H4 ix b4 B4 ix0 ix1 => ?_⟩
      have E4 := E3.but hbl3 b4
      have h4 := b4 _ _ (B3.tup h3) h3
      have B4' := B4
      obtain ⟨_, _, _, hbl4, _⟩ := B4'
      walk_at "go"
      refine ⟨b, pw, _, ws, rfl, B4, by decide, h4, hw, hl1, fun H5 v b5 B5 v1 v2 v3 => ?_⟩
      have E5 := E4.but hbl4 b5
      have h5 := b5 _ _ (B4.tup h4) h4
      obtain ⟨iw, rfl⟩ : ∃ iw : Nat, ix = iw := ⟨ix.toNat, (Int.toNat_of_nonneg ix0).symm⟩
      have hiw : iw < ws.length := by omega
      have hxi : ws[iw]? = some ws[iw] := List.getElem?_eq_getElem hiw
      have hf : HFit ws iw v := hfit_true ⟨v1, v2, v3⟩ iw
      walk_at "go"
      intro dr n6
      generalize e6 : upd H5 dr _ = H6
      have s6 := same_of e6 n6
      walk_at "go"
      have hv1 := hf.1
      have hv2 := hf.2.1
      refine rng2_of (by split <;> omega) ?_
      rw [show ((if v < 40 then v else 40) + 1 - 1 : Int) = if v < 40 then v else 40 by omega]
      refine forB_of walk_range (fun k σ H' => ∃ (y : Option V) (g : Nat → Addr), σ = [some (.ref a), some (.ref b), some (.ref pw), some (.int iw), some (.int v), some (.ref dr), y, y7, y8, y9, y10, y11, y12, y13] ∧ Same H5 H' ∧ H' dr = some (.dK (krf (fun j => .ref (g j)) k)) ∧ ∀ j : Nat, j < k → H' (g j) = some (.tup ((sts (ws.set iw (1 + (j : Int))) v 0).map V.int)))
        ⟨_, fun _ => 0, rfl, s6, there e6, fun j hj => absurd hj (Nat.not_lt_zero j)⟩ (fun _ _ _ _ _ => True.intro) ?_ ?_
      · rintro k x σ H7 H7' hk ⟨y, g, rfl, sm, hdr, hg⟩ ⟨rfl, rfl⟩
        have hkv : 1 + (k : Int) ≤ v ∧ 1 + (k : Int) ≤ 40 := by
          split at hk <;> omega
        have hp7 := (hid_true (K := K) (sm _ _ h5) hw hxi).at_
        walk_at "go"
        refine slA_of hp7 fun a2 G2 t2 k2 => ?_
        rw [cut_to _ (by omega), Int.toNat_natCast] at k2
        walk_at "go"
        intro a3 n3
        generalize e3 : upd G2 a3 _ = G3
        have t3 := same_of e3 n3
        refine catA_of (t3 _ _ k2) (there e3) (sz_of (by rw [List.length_take, List.length_set, List.length_map, List.length_singleton]; omega)) fun a4 G4 t4 k4 => ?_
        have hp4 := t4 _ _ (t3 _ _ (t2 _ _ hp7))
        walk_at "go"
        refine slA_of hp4 fun a5 G5 t5 k5 => ?_
        rw [cut_of _ (by omega), show ((iw : Int) + 1).toNat = iw + 1 by omega] at k5
        refine catA_of (t5 _ _ k4) k5 (sz_of (by simp; omega)) fun a6 G6 t6 k6 => ?_
        rw [hid_cut hiw] at k6
        refine ⟨a6, _, v, 0, rfl, k6, hid_tx hw hiw hf (by omega) (by omega), by rw [List.length_set]; exact hw.1, fun G7 a7 t7 k7 => ?_⟩
        have tt := t2.trans (t3.trans (t4.trans (t5.trans (t6.trans t7))))
        walk_at "go"
        have hdr7 := tt _ _ hdr
        refine dput_of hdr7 (sz_lt (by rw [krf_len]; omega)) ?_
        generalize e8 : upd G7 dr _ = G8
        have b8 := but_of e8
        have tk : ∀ b xs, G7 b = some (.tup xs) → G8 b = some (.tup xs) := fun b xs hb => b8 _ _ (ne_of hb hdr7 (by intro z; cases z)) hb
        refine ⟨_, fun j => if j = k then a7 else g j, rfl, ?_, ?_, fun j hj => ?_⟩
        · subst e8
          exact same_mut (sm.trans tt) n6
        · rw [there e8, krf_succ, putK_new]
          · dsimp only
            have ec : krf (fun j => V.ref (g j)) k = krf (fun j => V.ref (if j = k then a7 else g j)) k := krf_congr fun j hj => by
              show V.ref (g j) = V.ref (if j = k then a7 else g j)
              rw [if_neg (by omega)]
            rw [if_pos rfl, ec]
          · rw [krf_at, if_neg (by omega)]
        · by_cases e : j = k
          · subst e
            dsimp only
            rw [if_pos rfl]
            exact tk _ _ k7
          · dsimp only
            rw [if_neg e]
            exact tk _ _ (tt _ _ (hg j (by omega)))
      · rintro σ H7 ⟨y, g, rfl, sm7, hdr7, hg7⟩
        have h7 := sm7 _ _ h5
        have B7 := B5.to sm7
        have E7 := E5.same sm7
        walk_at "go"
        refine ixT_of h7 (at_word hiw) ?_
        walk_at "go"
        intro po n8
        generalize e8 : upd H7 po _ = H8
        have s8 := same_of e8 n8
        have B8 := B7.to s8
        have B8' := B8
        obtain ⟨_, _, _, hbl8, _⟩ := B8'
        refine ⟨b, 5, _, rfl, B8, by decide, by decide, by decide, fun H9 r b9 B9 r0 r1 => ?_⟩
        have hpob : po ≠ b := fun z => by
          obtain ⟨_, _, _, h, _⟩ := B7
          rw [z, h] at n8
          cases n8
        obtain ⟨o, ho, dd, fl1, fl2, fl3⟩ := menu5 (x := ws[iw]) r0 r1
        refine ixL_of (b9 _ _ hpob (there e8)) ho ?_
        have E9 := (E7.same s8).but hbl8 b9
        have h9 := b9 _ _ (B8.tup (s8 _ _ h7)) (s8 _ _ h7)
        have hdrb : dr ≠ b := fun z => by
          obtain ⟨_, _, _, h, _⟩ := B5
          rw [z, h] at n6
          cases n6
        have hdr9 := b9 _ _ hdrb (s8 _ _ hdr7)
        have hg9 : ∀ j : Nat, j < (if v < 40 then v else 40).toNat → H9 (g j) = some (.tup ((sts (ws.set iw (1 + (j : Int))) v 0).map V.int)) := fun j hj => b9 _ _ (B8.tup (s8 _ _ (hg7 j hj))) (s8 _ _ (hg7 j hj))
        walk_at "go"
        have hp9 := (hid_true (K := K) h9 hw hxi).at_
        refine slA_of hp9 fun a2 G2 t2 k2 => ?_
        rw [cut_to _ (by omega), Int.toNat_natCast] at k2
        walk_at "go"
        intro a3 n3
        generalize e3 : upd G2 a3 _ = G3
        have t3 := same_of e3 n3
        refine catA_of (t3 _ _ k2) (there e3) (sz_of (by rw [List.length_take, List.length_set, List.length_map, List.length_singleton]; omega)) fun a4 G4 t4 k4 => ?_
        have hp4 := t4 _ _ (t3 _ _ (t2 _ _ hp9))
        walk_at "go"
        refine slA_of hp4 fun a5 G5 t5 k5 => ?_
        rw [cut_of _ (by omega), show ((iw : Int) + 1).toNat = iw + 1 by omega] at k5
        refine catA_of (t5 _ _ k4) k5 (sz_of (by simp; omega)) fun ph G6 t6 k6 => ?_
        rw [set_cut _ _ (by rw [List.length_set, List.length_map]; exact hiw), List.set_set] at k6
        have hid6 : Hid K G6 ph ws iw o := ⟨k6, hw, hiw, dd, fun H => fl1 K H, fl2, fl3⟩
        have t96 := t2.trans (t3.trans (t4.trans (t5.trans t6)))
        have E6' := E9.same t96
        have B6' := B9.to t96
        have hdr6 := t96 _ _ hdr9
        have hg6 := fun j hj => t96 _ _ (hg9 j hj)
        have h6 := t96 _ _ h9
        walk_at "go"
        refine lockE_of hdr6 fun od => ?_
        generalize ef : upd G6 dr _ = Gf
        walk_at "go"
        refine keys_of (there ef) ?_
        refine lcB_of walk_keys fun D hD => ?_
        have hDdr : D ≠ dr := fun z => by
          rw [z, there ef] at hD
          cases hD
        refine ⟨fun k H' => Same Gf H' ∧ H' D = some (.lst ((List.range k).map fun j => V.ref (g j))), ⟨same_upd hD, upd_same⟩, fun k H' _ h => h.1 _ _ (there ef), ?_, ?_⟩
        · rintro k x H' H'' hk ⟨sm, hD'⟩ ⟨rfl, k2, v2', hkv, rfl⟩
          rw [krf_len] at hk
          have hkv' := hkv
          unfold krf at hkv'
          rw [List.getElem?_map, List.getElem?_range hk] at hkv'
          cases hkv'
          walk_at "go"
          refine dgetF_of (sm _ _ (there ef)) (by rw [krf_at, if_pos hk]) ?_
          refine ⟨_, hD', sz_lt (by rw [List.length_map, List.length_range]; split at hk <;> omega), same_mut sm hD, ?_⟩
          rw [upd_same, List.range_succ, List.map_append]
          rfl
        · rintro H' ⟨sm, hD'⟩
          rw [krf_len] at hD'
          refine ⟨sm _ _ (there ef), ?_⟩
          have sb : Same G6 (upd H' dr (.dK (krf (fun j => .ref (g j)) (if v < 40 then v else 40).toNat))) := lock_back ef hdr6 sm
          generalize e10 : upd H' dr _ = G10 at sb
          have hD10 : G10 D = some (.lst ((List.range (if v < 40 then v else 40).toNat).map fun j => V.ref (g j))) := by
            rw [← e10, upd_ne hDdr]
            exact hD'
          have E10 := E6'.same sb
          have B10 := B6'.to sb
          have hdr10 := sb _ _ hdr6
          have hid10 := hid6.to sb
          have h10 := sb _ _ h6
          have hg10 := fun j hj => sb _ _ (hg6 j hj)
          have hN : (if v < 40 then v else 40).toNat ≤ 40 := by split <;> omega
          have hvs : ∀ j : Nat, j < (if v < 40 then v else 40).toNat → VS ws.length (sts (ws.set iw (1 + (j : Int))) v 0) := fun j hj => by
            have hjv : 1 + (j : Int) ≤ v := by split at hj <;> omega
            have := sts_vs (hid_tx hw hiw hf (l := 1 + (j : Int)) (by omega) hjv) (by rw [List.length_set]; omega) (by rw [List.length_set]; exact hw.1)
            rw [List.length_set] at this
            exact this
          refine ⟨D, (List.range (if v < 40 then v else 40).toNat).map fun j => (g j, sts (ws.set iw (1 + (j : Int))) v 0), rfl, .of (by rw [hD10, List.map_map]; rfl), fun p hp => ?_, by rw [List.length_map, List.length_range]; omega, fun pset L nset hL1 hL2 => ?_⟩
          · obtain ⟨j, hj, rfl⟩ := List.mem_map.mp hp
            exact .of (hg10 j (List.mem_range.mp hj))
          have hLk : ∀ p ∈ L, ∃ j, j < (if v < 40 then v else 40).toNat ∧ p = (g j, sts (ws.set iw (1 + (j : Int))) v 0) := fun p hp => by
            obtain ⟨j, hj, e⟩ := List.mem_map.mp (hL1 p hp)
            exact ⟨j, List.mem_range.mp hj, e.symm⟩
          generalize e11 : upd G10 pset _ = G11
          have s11 := same_of e11 nset
          refine ⟨pset, L, rfl, there e11, fun p hp => ?_, fun L' psrt hL' hlen' nsrt => ?_⟩
          · obtain ⟨j, hj, rfl⟩ := hLk p hp
            refine ⟨.of (s11 _ _ (hg10 j hj)), ?_⟩
            have := (List.getElem?_eq_some_iff.mp (hvs j hj).first).1
            exact this
          generalize e12 : upd G11 psrt _ = G12
          have s12 := same_of e12 nsrt
          have s1012 := s11.trans s12
          unfold tTupRg tRg1
          walk_at "go"
          have h12 := s1012 _ _ h10
          refine lenT_of h12 ?_
          refine ⟨_, rfl, RgOk.of_le (by omega) (by rw [List.length_map]; omega) (by omega) (by omega), fun prg nrg => ?_⟩
          generalize e13 : upd G12 prg _ = G13
          have s13 := same_of e13 nrg
          walk_at "go"
          intro ptz ntz
          generalize e14 : upd G13 ptz _ = G14
          have s14 := same_of e14 ntz
          refine ⟨Nat.le_of_ble_eq_true rfl, fun pl2 nl2 => ?_⟩
          generalize e15 : upd G14 pl2 _ = G15
          have s15 := same_of e15 nl2
          have h12s := s15 _ _ (s14 _ _ (s13 _ _ (there e12)))
          refine cat_of h12s (there e15) (sz_of (by rw [List.length_map, List.length_cons, List.length_singleton]; omega)) fun pit nit => ?_
          generalize e16 : upd G15 pit _ = Hs
          have s16 := same_of e16 nit
          have s1316 := s13.trans (s14.trans (s15.trans s16))
          have s10s : Same G10 Hs := s1012.trans s1316
          have hdrs := s10s _ _ hdr10
          have hids := hid10.to s10s
          have hgs := fun j hj => s10s _ _ (hg10 j hj)
          have Ts : Tabs Tb Hs := E10.2.ext s10s
          have hws10 := s10s _ _ h10
          have hitem : ∀ (m : Nat) (x : V), (List.map (fun q : Addr × List Int => V.ref q.1) L' ++ [V.ref prg, V.ref ptz])[m]? = some x → ∃ pS S, x = .ref pS ∧ Hs pS = some (.tup (S.map V.int)) ∧ VS ws.length S := fun m x hx => by
            rcases List.mem_append.mp (List.mem_of_getElem? hx) with h | h
            · obtain ⟨q, hq, rfl⟩ := List.mem_map.mp h
              obtain ⟨j, hj, rfl⟩ := hLk q (hL' q hq)
              exact ⟨_, _, rfl, hgs j hj, hvs j hj⟩
            · rcases List.mem_cons.mp h with rfl | h
              · refine ⟨prg, (List.range ws.length).map fun (i : Nat) => (i : Int), rfl, ?_, ?_⟩
                · rw [s16 _ _ (s15 _ _ (s14 _ _ (there e13)))]
                  unfold rgV
                  rw [List.length_map, List.map_map, Int.sub_zero, Int.toNat_natCast]
                  refine congrArg (fun z => some (HO.tup z)) (List.map_congr_left fun i _ => ?_)
                  show V.int (0 + (i : Int)) = V.int (i : Int)
                  rw [Int.zero_add]
                · refine ⟨?_, fun x hx => ?_, ?_, by rw [List.length_map, List.length_range]; exact hw.1⟩
                  · rw [List.getElem?_map, List.getElem?_range hl1]
                    rfl
                  · obtain ⟨i, hi, rfl⟩ := List.mem_map.mp hx
                    have := List.mem_range.mp hi
                    omega
                  · rw [List.pairwise_map]
                    exact (List.pairwise_lt_range (n := ws.length)).imp fun {a b} h => by omega
              · rw [List.mem_singleton.mp h]
                refine ⟨ptz, [0], rfl, s16 _ _ (s15 _ _ (there e14)), ⟨rfl, fun x hx => ?_, List.pairwise_singleton _ _, by decide⟩⟩
                rw [List.mem_singleton.mp hx]
                omega
          refine list_of (.of (there e16)) ?_
          refine forB_of (walk_list (xs := List.map (fun q : Addr × List Int => V.ref q.1) L' ++ [V.ref prg, V.ref ptz])) (fun m σ H' => ∃ y6 y10 y11 y12 y13 : Option V, σ = [some (.ref a), some (.ref b), some (.ref pw), some (.int iw), some (.int v), some (.ref dr), y6, some o, some (.ref ph), some (.ref psrt), y10, y11, y12, y13] ∧ Ext Tb Hs H')
            ⟨_, _, _, _, _, rfl, Ext.of Ts (Same.refl _)⟩ (fun m σ H' _ h => ?_) ?_ ?_
          · obtain ⟨_, _, _, _, _, _, e⟩ := h
            exact .of (e.lst (there e16))
          · rintro m x σ J1 J0 hm ⟨y6, y10, y11, y12, y13, rfl, xJ⟩ ⟨rfl, hx⟩
            obtain ⟨pS, S, rfl, hpS, hVS⟩ := hitem m x hx
            have hdrJ : J0 dr = some (.dK (krf (fun j => .ref (g j)) (if v < 40 then v else 40).toNat)) := xJ.1 _ _ hdrs fun ps z => by cases z
            have hpSJ := xJ.tup hpS
            have hgJ := fun j hj => xJ.tup (hgs j hj)
            have hkJ := xJ.tup hids.at_
            walk_at "go"
            refine sortedD_of hdrJ (krf_keys _ _) (lid_sorted _) fun pq n17 => ?_
            generalize e17 : upd J0 pq _ = J2
            have s17 := same_of e17 n17
            refine list_of (.of (there e17)) ?_
            refine lcB_of (walk_list (xs := (lid (if v < 40 then v else 40).toNat).map V.int)) fun D2 hD2 => ?_
            refine ⟨fun k H' => Same J2 H' ∧ H' D2 = some (.lst (((sel (fun j => decide (sts (ws.set iw (1 + (j : Int))) v 0 = S)) k).map fun (j : Nat) => 1 + (j : Int)).map V.int)), ⟨same_upd hD2, upd_same⟩, fun k H' _ h => .of (h.1 _ _ (there e17)), ?_, ?_⟩
            · rintro k x H' H'' hk ⟨sm, hD'⟩ ⟨rfl, hx⟩
              obtain ⟨hk, rfl⟩ := lid_get hx
              have hlen : (sel (fun j => decide (sts (ws.set iw (1 + (j : Int))) v 0 = S)) k).length ≤ k := sel_len _ _
              walk_at "go"
              refine dget_of (sm _ _ (s17 _ _ hdrJ)) (by rw [krf_at, if_pos hk]) ?_
              refine eqT_of (sm _ _ (s17 _ _ (hgJ k hk))) (sm _ _ (s17 _ _ hpSJ)) ?_
              walk_at "go"
              refine ite2 (fun e => ?_) (fun e => ?_)
              · refine ⟨_, hD', sz_lt (by rw [List.length_map, List.length_map]; omega), same_mut sm hD2, ?_⟩
                rw [upd_same, sel_yes (decide_eq_true e), List.map_append, List.map_append]
                rfl
              · refine ⟨sm, ?_⟩
                rw [sel_no (decide_eq_false e)]
                exact hD'
            · rintro J3 ⟨sm, hD'⟩
              rw [List.length_map, lid_len] at hD'
              have sJ3 := s17.trans sm
              refine ⟨D2, lens (fun L => decide (L = S)) ws iw v, rfl, hD', conv_sel _ (lens_conv_starts hw hiw hf S), fun e4 J4 s4 => ?_, fun a4 c4 r4 r4' e4 e4' J4 t4 s4 h4 => ?_⟩
              · have sJ4 := sJ3.trans s4
                have hk4 := sJ4 _ _ hkJ
                have hS4 := sJ4 _ _ hpSJ
                have T4 := xJ.2.ext sJ4
                walk_at "go"
                refine ⟨ph, pS, ws, iw, o, v, S, rfl, ⟨hk4, hw, hiw, dd, fun H => fl1 K H, fl2, fl3⟩, hf, hS4, hVS, T4, fun e5 H5x x5 => ?_, fun a5 b5 r5 r5' e5 e5' H5x t5 x5 h5x => ?_⟩
                · walk_at "go"
                  refine ⟨.inl trivial, _, _, rfl, SameD.flat (.inr ⟨rfl, rfl⟩), fun H6x s6 => ?_⟩
                  walk_at "go"
                  exact ⟨_, _, _, _, _, rfl, xJ.trans (((Ext.of xJ.2 sJ4).trans x5).same s6)⟩
                · rw [e4] at e5
                  cases e5
              · have sJ4 := sJ3.trans s4
                have hk4 := sJ4 _ _ hkJ
                have hS4 := sJ4 _ _ hpSJ
                have T4 := xJ.2.ext sJ4
                walk_at "go"
                refine ⟨ph, pS, ws, iw, o, v, S, rfl, ⟨hk4, hw, hiw, dd, fun H => fl1 K H, fl2, fl3⟩, hf, hS4, hVS, T4, fun e5 H5x x5 => ?_, fun a5 b5 r5 r5' e5 e5' H5x t5 x5 h5x => ?_⟩
                · rw [e4] at e5
                  cases e5
                · walk_at "go"
                  have ea : a5 = a4 := (List.cons.inj (e5.symm.trans e4)).1
                  have eb : b5 = c4 := (List.cons.inj (List.append_inj' (e5'.symm.trans e4') rfl).2).1
                  subst ea eb
                  refine ⟨.inr ⟨t4, rfl⟩, _, _, rfl, .inr ⟨t5, t4, _, _, rfl, rfl, .inr ⟨h5x, x5.tup h4⟩, rfl, Nat.le_of_ble_eq_true rfl, fun i x y hx hy => ?_⟩, fun H6x s6 => ?_⟩
                  · match i, hx, hy with
                    | 0, hx, hy => cases hx; cases hy; exact .inl ⟨_, rfl, rfl⟩
                    | 1, hx, hy => cases hx; cases hy; exact .inl ⟨_, rfl, rfl⟩
                  · walk_at "go"
                    exact ⟨_, _, _, _, _, rfl, xJ.trans (((Ext.of xJ.2 sJ4).trans x5).same s6)⟩
          · rintro σ J0 ⟨y6, y10, y11, y12, y13, rfl, xJ⟩
            have hwJ0 := xJ.tup hws10
            walk_at "go"
            refine rng2_of (by omega) ?_
            refine forB_of walk_range (fun m σ H' => ∃ y6 y9 y10 y11 y12 y13 : Option V, σ = [some (.ref a), some (.ref b), some (.ref pw), some (.int iw), some (.int v), some (.ref dr), y6, some o, some (.ref ph), y9, y10, y11, y12, y13] ∧ Ext Tb Hs H')
              ⟨_, _, _, _, _, _, rfl, xJ⟩ (fun _ _ _ _ _ => True.intro) ?_ ?_
            · rintro l x σ J1 J0 hl ⟨y6, y9, y10, y11, y12, y13, rfl, xJ⟩ ⟨rfl, rfl⟩
              have hll : 1 + (l : Int) ≤ ws.length := by omega
              have hdrJ : J0 dr = some (.dK (krf (fun j => .ref (g j)) (if v < 40 then v else 40).toNat)) := xJ.1 _ _ hdrs fun ps z => by cases z
              have hgJ := fun j hj => xJ.tup (hgs j hj)
              have hkJ := xJ.tup hids.at_
              walk_at "go"
              refine sortedD_of hdrJ (krf_keys _ _) (lid_sorted _) fun pq n17 => ?_
              generalize e17 : upd J0 pq _ = J2
              have s17 := same_of e17 n17
              refine list_of (.of (there e17)) ?_
              refine lcB_of (walk_list (xs := (lid (if v < 40 then v else 40).toNat).map V.int)) fun D2 hD2 => ?_
              refine ⟨fun k H' => Same J2 H' ∧ H' D2 = some (.lst (((sel (fun j => decide (((sts (ws.set iw (1 + (j : Int))) v 0).length : Int) = 1 + (l : Int))) k).map fun (j : Nat) => 1 + (j : Int)).map V.int)), ⟨same_upd hD2, upd_same⟩, fun k H' _ h => .of (h.1 _ _ (there e17)), ?_, ?_⟩
              · rintro k x H' H'' hk ⟨sm, hD'⟩ ⟨rfl, hx⟩
                obtain ⟨hk, rfl⟩ := lid_get hx
                have hlen : (sel (fun j => decide (((sts (ws.set iw (1 + (j : Int))) v 0).length : Int) = 1 + (l : Int))) k).length ≤ k := sel_len _ _
                walk_at "go"
                refine dget_of (sm _ _ (s17 _ _ hdrJ)) (by rw [krf_at, if_pos hk]) ?_
                refine lenT_of (sm _ _ (s17 _ _ (hgJ k hk))) ?_
                walk_at "go"
                refine ite2 (fun e => ?_) (fun e => ?_)
                · refine ⟨_, hD', sz_lt (by rw [List.length_map, List.length_map]; omega), same_mut sm hD2, ?_⟩
                  rw [upd_same, sel_yes (decide_eq_true e), List.map_append, List.map_append]
                  rfl
                · refine ⟨sm, ?_⟩
                  rw [sel_no (decide_eq_false e)]
                  exact hD'
              · rintro J3 ⟨sm, hD'⟩
                rw [List.length_map, lid_len] at hD'
                have sJ3 := s17.trans sm
                refine ⟨D2, lens (fun L => decide ((L.length : Int) = 1 + (l : Int))) ws iw v, rfl, hD', conv_sel _ (lens_conv_count hw hiw hf _), fun e4 J4 s4 => ?_, fun a4 c4 r4 r4' e4 e4' J4 t4 s4 h4 => ?_⟩
                · have sJ4 := sJ3.trans s4
                  have hk4 := sJ4 _ _ hkJ
                  have T4 := xJ.2.ext sJ4
                  walk_at "go"
                  refine ⟨ph, ws, iw, o, v, _, rfl, ⟨hk4, hw, hiw, dd, fun H => fl1 K H, fl2, fl3⟩, hf, by omega, hll, T4, fun e5 H5x x5 => ?_, fun a5 b5 r5 r5' e5 e5' H5x t5 x5 h5x => ?_⟩
                  · walk_at "go"
                    refine ⟨.inl trivial, _, _, rfl, SameD.flat (.inr ⟨rfl, rfl⟩), fun H6x s6 => ?_⟩
                    walk_at "go"
                    exact ⟨_, _, _, _, _, _, rfl, xJ.trans (((Ext.of xJ.2 sJ4).trans x5).same s6)⟩
                  · rw [e4] at e5
                    cases e5
                · have sJ4 := sJ3.trans s4
                  have hk4 := sJ4 _ _ hkJ
                  have T4 := xJ.2.ext sJ4
                  walk_at "go"
                  refine ⟨ph, ws, iw, o, v, _, rfl, ⟨hk4, hw, hiw, dd, fun H => fl1 K H, fl2, fl3⟩, hf, by omega, hll, T4, fun e5 H5x x5 => ?_, fun a5 b5 r5 r5' e5 e5' H5x t5 x5 h5x => ?_⟩
                  · rw [e4] at e5
                    cases e5
                  · walk_at "go"
                    have ea : a5 = a4 := (List.cons.inj (e5.symm.trans e4)).1
                    have eb : b5 = c4 := (List.cons.inj (List.append_inj' (e5'.symm.trans e4') rfl).2).1
                    subst ea eb
                    refine ⟨.inr ⟨t4, rfl⟩, _, _, rfl, .inr ⟨t5, t4, _, _, rfl, rfl, .inr ⟨h5x, x5.tup h4⟩, rfl, Nat.le_of_ble_eq_true rfl, fun i x y hx hy => ?_⟩, fun H6x s6 => ?_⟩
                    · match i, hx, hy with
                      | 0, hx, hy => cases hx; cases hy; exact .inl ⟨_, rfl, rfl⟩
                      | 1, hx, hy => cases hx; cases hy; exact .inl ⟨_, rfl, rfl⟩
                    · walk_at "go"
                      exact ⟨_, _, _, _, _, _, rfl, xJ.trans (((Ext.of xJ.2 sJ4).trans x5).same s6)⟩
            · rintro σ J0 ⟨y6, y9, y10, y11, y12, y13, rfl, xJ⟩
              have Eall : BE Tb b H2' J0 := (E10.same s10s).ext xJ
              refine ⟨_, _, _, _, _, _, _, _, _, _, _, _, _, rfl, Eall.lst (B2.neL hp2) hp2, fun j b2 hj hb2 => ?_, Eall.2⟩
              have B' := hB2 j b2 (by omega) hb2
              obtain ⟨z1, z2, z3, z4, z5⟩ := B'
              refine ⟨z1, z2, z3, Eall.lst (fun z => ?_) z4, z5⟩
              rw [z] at hb2
              have := nd_ix hnd hb2 hb
              omega
    · rintro σ H2 ⟨y1, y2, y3, y4, y5, y6, y7, y8, y9, y10, y11, y12, y13, rfl, hp2, hB2, hT2⟩
      walk_at "go"
      intro p3 n3
      generalize e3 : upd H2 p3 _ = H3
      have s3 := same_of e3 n3
      walk_at "go"
      intro p4 n4
      generalize e4 : upd H3 p4 _ = H4
      have s4 := same_of e4 n4
      have T4 := hT2.ext (s3.trans s4)
      refine ⟨p3, p4, [1], 0, .non, 3, [0], rfl, ⟨s4 _ _ (there e3), wd_one, by decide, .none, fun _ => .non, rfl, rfl⟩, ⟨by decide, by decide, fun x hx => nomatch hx⟩, there e4, ⟨rfl, fun x hx => ?_, List.pairwise_singleton _ _, by decide⟩, T4, fun e => ?_, fun a5 b5 r r' e e' H5 t5 x5 h5 => ?_⟩
      · rw [List.mem_singleton.mp hx]
        decide
      · rw [lens_none] at e
        cases e
      · rw [lens_none] at e e'
        have ea : a5 = 0 := (List.cons.inj e).1.symm
        have eb : b5 = 2 := (List.cons.inj (List.append_inj' (s₁ := r') (s₂ := [0, 1]) e'.symm rfl).2).1
        subst ea eb
        walk_at "go"
        intro p6 n6
        generalize e6 : upd H5 p6 _ = H6
        have s6 := same_of e6 n6
        refine eqT_of (ns := [1, 3]) (ms := [1, 3]) (s6 _ _ h5) (there e6) ?_
        rw [decide_eq_true (show ([1, 3] : List Int) = [1, 3] from rfl)]
        walk_at "go"
        intro p7 n7
        generalize e7 : upd H6 p7 _ = H7
        have s7 := same_of e7 n7
        refine ⟨p7, [7], 0, .int 7, 2500, 1, rfl, ⟨there e7, wd_seven, by decide, .int 7, fun _ => .int 7, rfl, rfl⟩, ⟨by decide, by decide, fun x hx => nomatch hx⟩, by decide, by decide, (x5.2.ext s6).ext s7, fun e => ?_, fun a8 b8 r8 r8' f f' H8 t8 x8 h8 => ?_⟩
        · rw [lens_seven] at e
          cases e
        · rw [lens_seven] at f f'
          have fa : a8 = 0 := (List.cons.inj f).1.symm
          have fb : b8 = 39 := (List.cons.inj (List.append_inj' (s₁ := r8') (s₂ := List.range 39) f'.symm rfl).2).1
          subst fa fb
          walk_at "go"
          intro p9 n9
          generalize e9 : upd H8 p9 _ = H9
          have s9 := same_of e9 n9
          refine eqT_of (ns := [1, 40]) (ms := [1, 40]) (s9 _ _ h8) (there e9) ?_
          exact q H9
end
end Ls
namespace Ls
open PySem PySem.Spec PyProof.Rows L2 RZ LamX NdefX
/-! ### what the top has written; the law's own head -/
/-- the table of the code object at c -/
def tabOf (K : PySem.W.Frag) (c : Addr) : Addr := match K.lookup c with
  | some ⟨_, _, .fields vs, _⟩ => (match (vs[11]? : Option Value) with
    | some (.ref P) => P
    | _ => 0)
  | _ => 0
theorem atC_of {K : PySem.W.Frag} {h : Heap} {mg : Str → Option Value} (X : K.In h) (G : h.Ns mainGlobals mg) {x : Str} {st : Stmt} {f c : Addr} {oc : Value} {od an : Option Addr} {osl : Array (Option Value)} {kV doc pm ct : Value} {ps : List Str}
    (a : PySem.W.nsIn K mainGlobals x = some (some (.ref f))) (l : K.lookup f = some ⟨oc, od, .func (PySem.W.fnOf x x (C8.fnArgs st) (C8.fnBody st) (C8.fnScope st) .none kV doc pm an (.ref c) ct), osl⟩)
    (cd : PySem.W.codeIn K (.ref c) x = true) (k : PySem.W.keepIn K (.ref f) = true)
    (hb : ∀ (kV doc pm : Value) (an : Option Addr) (cdv ct : Value) (us : List Value), us.length = ps.length → bindArgs (PySem.W.fnOf x x (C8.fnArgs st) (C8.fnBody st) (C8.fnScope st) .none kV doc pm an cdv ct) ⟨us, []⟩ = pure (ps.zip us)) : DefC K mg x st ps c :=
  ⟨f, _, ⟨oc, od, kV, doc, pm, an, ct, osl, rfl, l, cd⟩, PySem.W.mg_of X G a, k, C8.Fun.binds (def_at (st := st) X G a l cd k).fn rfl hb⟩
theorem all_mk {l : PySem.W.OpenLaw} {w : World} {K : PySem.W.Frag} {h : Heap} {mg : Str → Option Value} {fa : Addr} (X : K.In h) (G : h.Ns mainGlobals mg) (hfa : mg "law" = some (.ref fa))
    {f0 : Addr} {od0 an0 : Option Addr} {sl0 : Array (Option Value)} {oc0 kV0 dc0 pm0 cd0 ct0 : Value}
    {f1 : Addr} {od1 an1 : Option Addr} {sl1 : Array (Option Value)} {oc1 kV1 dc1 pm1 cd1 ct1 : Value}
    {f2 : Addr} {od2 an2 : Option Addr} {sl2 : Array (Option Value)} {oc2 kV2 dc2 pm2 cd2 ct2 : Value}
    {f3 : Addr} {od3 an3 : Option Addr} {sl3 : Array (Option Value)} {oc3 kV3 dc3 pm3 cd3 ct3 : Value}
    {f4 : Addr} {od4 an4 : Option Addr} {sl4 : Array (Option Value)} {oc4 kV4 dc4 pm4 cd4 ct4 : Value}
    {f5 : Addr} {od5 an5 : Option Addr} {sl5 : Array (Option Value)} {oc5 kV5 dc5 pm5 cd5 ct5 : Value}
    {f6 : Addr} {od6 an6 : Option Addr} {sl6 : Array (Option Value)} {oc6 kV6 dc6 pm6 cd6 ct6 : Value}
    {f7 : Addr} {od7 an7 : Option Addr} {sl7 : Array (Option Value)} {oc7 kV7 dc7 pm7 cd7 ct7 : Value}
    {f8 : Addr} {od8 an8 : Option Addr} {sl8 : Array (Option Value)} {oc8 kV8 dc8 pm8 cd8 ct8 : Value}
    {f9 : Addr} {od9 an9 : Option Addr} {sl9 : Array (Option Value)} {oc9 kV9 dc9 pm9 cd9 ct9 : Value}
    {f10 cc10 : Addr} {od10 an10 : Option Addr} {sl10 : Array (Option Value)} {oc10 kV10 dc10 pm10 ct10 : Value}
    {f11 cc11 : Addr} {od11 an11 : Option Addr} {sl11 : Array (Option Value)} {oc11 kV11 dc11 pm11 ct11 : Value}
    {f12 : Addr} {od12 an12 : Option Addr} {sl12 : Array (Option Value)} {oc12 kV12 dc12 pm12 cd12 ct12 : Value}
    {f13 : Addr} {od13 an13 : Option Addr} {sl13 : Array (Option Value)} {oc13 kV13 dc13 pm13 cd13 ct13 : Value}
    {f14 : Addr} {od14 an14 : Option Addr} {sl14 : Array (Option Value)} {oc14 kV14 dc14 pm14 cd14 ct14 : Value}
    {f15 : Addr} {od15 an15 : Option Addr} {sl15 : Array (Option Value)} {oc15 kV15 dc15 pm15 cd15 ct15 : Value}
    {f16 : Addr} {od16 an16 : Option Addr} {sl16 : Array (Option Value)} {oc16 kV16 dc16 pm16 cd16 ct16 : Value}
    {f17 : Addr} {od17 an17 : Option Addr} {sl17 : Array (Option Value)} {oc17 kV17 dc17 pm17 cd17 ct17 : Value}
    {f18 : Addr} {od18 an18 : Option Addr} {sl18 : Array (Option Value)} {oc18 kV18 dc18 pm18 cd18 ct18 : Value}
    {f19 : Addr} {od19 an19 : Option Addr} {sl19 : Array (Option Value)} {oc19 kV19 dc19 pm19 cd19 ct19 : Value}
    {f20 : Addr} {od20 an20 : Option Addr} {sl20 : Array (Option Value)} {oc20 kV20 dc20 pm20 cd20 ct20 : Value}
    {f21 : Addr} {od21 an21 : Option Addr} {sl21 : Array (Option Value)} {oc21 kV21 dc21 pm21 cd21 ct21 : Value}
    {f22 : Addr} {od22 an22 : Option Addr} {sl22 : Array (Option Value)} {oc22 kV22 dc22 pm22 cd22 ct22 : Value}
    {t0 : Tok}
    {t1 : Tok}
    (a0 : PySem.W.nsIn K mainGlobals "is_integer" = some (some (.ref f0))) (l0 : K.lookup f0 = some ⟨oc0, od0, .func (PySem.W.fnOf "is_integer" "is_integer" (C8.fnArgs st_is_integer) (C8.fnBody st_is_integer) (C8.fnScope st_is_integer) .none kV0 dc0 pm0 an0 cd0 ct0), sl0⟩) (c0 : PySem.W.codeIn K cd0 "is_integer" = true) (k0 : PySem.W.keepIn K (.ref f0) = true)
    (a1 : PySem.W.nsIn K mainGlobals "in_range" = some (some (.ref f1))) (l1 : K.lookup f1 = some ⟨oc1, od1, .func (PySem.W.fnOf "in_range" "in_range" (C8.fnArgs st_in_range) (C8.fnBody st_in_range) (C8.fnScope st_in_range) .none kV1 dc1 pm1 an1 cd1 ct1), sl1⟩) (c1 : PySem.W.codeIn K cd1 "in_range" = true) (k1 : PySem.W.keepIn K (.ref f1) = true)
    (a2 : PySem.W.nsIn K mainGlobals "is_words" = some (some (.ref f2))) (l2 : K.lookup f2 = some ⟨oc2, od2, .func (PySem.W.fnOf "is_words" "is_words" (C8.fnArgs st_is_words) (C8.fnBody st_is_words) (C8.fnScope st_is_words) .none kV2 dc2 pm2 an2 cd2 ct2), sl2⟩) (c2 : PySem.W.codeIn K cd2 "is_words" = true) (k2 : PySem.W.keepIn K (.ref f2) = true)
    (a3 : PySem.W.nsIn K mainGlobals "check_count" = some (some (.ref f3))) (l3 : K.lookup f3 = some ⟨oc3, od3, .func (PySem.W.fnOf "check_count" "check_count" (C8.fnArgs st_check_count) (C8.fnBody st_check_count) (C8.fnScope st_check_count) .none kV3 dc3 pm3 an3 cd3 ct3), sl3⟩) (c3 : PySem.W.codeIn K cd3 "check_count" = true) (k3 : PySem.W.keepIn K (.ref f3) = true)
    (a4 : PySem.W.nsIn K mainGlobals "next_index" = some (some (.ref f4))) (l4 : K.lookup f4 = some ⟨oc4, od4, .func (PySem.W.fnOf "next_index" "next_index" (C8.fnArgs st_next_index) (C8.fnBody st_next_index) (C8.fnScope st_next_index) .none kV4 dc4 pm4 an4 cd4 ct4), sl4⟩) (c4 : PySem.W.codeIn K cd4 "next_index" = true) (k4 : PySem.W.keepIn K (.ref f4) = true)
    (a5 : PySem.W.nsIn K mainGlobals "starts_of" = some (some (.ref f5))) (l5 : K.lookup f5 = some ⟨oc5, od5, .func (PySem.W.fnOf "starts_of" "starts_of" (C8.fnArgs st_starts_of) (C8.fnBody st_starts_of) (C8.fnScope st_starts_of) .none kV5 dc5 pm5 an5 cd5 ct5), sl5⟩) (c5 : PySem.W.codeIn K cd5 "starts_of" = true) (k5 : PySem.W.keepIn K (.ref f5) = true)
    (a6 : PySem.W.nsIn K mainGlobals "are_starts" = some (some (.ref f6))) (l6 : K.lookup f6 = some ⟨oc6, od6, .func (PySem.W.fnOf "are_starts" "are_starts" (C8.fnArgs st_are_starts) (C8.fnBody st_are_starts) (C8.fnScope st_are_starts) .none kV6 dc6 pm6 an6 cd6 ct6), sl6⟩) (c6 : PySem.W.codeIn K cd6 "are_starts" = true) (k6 : PySem.W.keepIn K (.ref f6) = true)
    (a7 : PySem.W.nsIn K mainGlobals "check_hidden" = some (some (.ref f7))) (l7 : K.lookup f7 = some ⟨oc7, od7, .func (PySem.W.fnOf "check_hidden" "check_hidden" (C8.fnArgs st_check_hidden) (C8.fnBody st_check_hidden) (C8.fnScope st_check_hidden) .none kV7 dc7 pm7 an7 cd7 ct7), sl7⟩) (c7 : PySem.W.codeIn K cd7 "check_hidden" = true) (k7 : PySem.W.keepIn K (.ref f7) = true)
    (a8 : PySem.W.nsIn K mainGlobals "with_length" = some (some (.ref f8))) (l8 : K.lookup f8 = some ⟨oc8, od8, .func (PySem.W.fnOf "with_length" "with_length" (C8.fnArgs st_with_length) (C8.fnBody st_with_length) (C8.fnScope st_with_length) .none kV8 dc8 pm8 an8 cd8 ct8), sl8⟩) (c8 : PySem.W.codeIn K cd8 "with_length" = true) (k8 : PySem.W.keepIn K (.ref f8) = true)
    (a9 : PySem.W.nsIn K mainGlobals "lengths_that" = some (some (.ref f9))) (l9 : K.lookup f9 = some ⟨oc9, od9, .func (PySem.W.fnOf "lengths_that" "lengths_that" (C8.fnArgs st_lengths_that) (C8.fnBody st_lengths_that) (C8.fnScope st_lengths_that) .none kV9 dc9 pm9 an9 cd9 ct9), sl9⟩) (c9 : PySem.W.codeIn K cd9 "lengths_that" = true) (k9 : PySem.W.keepIn K (.ref f9) = true)
    (a10 : PySem.W.nsIn K mainGlobals "lengths_of_starts" = some (some (.ref f10))) (l10 : K.lookup f10 = some ⟨oc10, od10, .func (PySem.W.fnOf "lengths_of_starts" "lengths_of_starts" (C8.fnArgs st_lengths_of_starts) (C8.fnBody st_lengths_of_starts) (C8.fnScope st_lengths_of_starts) .none kV10 dc10 pm10 an10 (.ref cc10) ct10), sl10⟩) (c10 : PySem.W.codeIn K (.ref cc10) "lengths_of_starts" = true) (k10 : PySem.W.keepIn K (.ref f10) = true)
    (a11 : PySem.W.nsIn K mainGlobals "lengths_of_count" = some (some (.ref f11))) (l11 : K.lookup f11 = some ⟨oc11, od11, .func (PySem.W.fnOf "lengths_of_count" "lengths_of_count" (C8.fnArgs st_lengths_of_count) (C8.fnBody st_lengths_of_count) (C8.fnScope st_lengths_of_count) .none kV11 dc11 pm11 an11 (.ref cc11) ct11), sl11⟩) (c11 : PySem.W.codeIn K (.ref cc11) "lengths_of_count" = true) (k11 : PySem.W.keepIn K (.ref f11) = true)
    (a12 : PySem.W.nsIn K mainGlobals "_law_well" = some (some (.ref f12))) (l12 : K.lookup f12 = some ⟨oc12, od12, .func (PySem.W.fnOf "_law_well" "_law_well" (C8.fnArgs st_law_well) (C8.fnBody st_law_well) (C8.fnScope st_law_well) .none kV12 dc12 pm12 an12 cd12 ct12), sl12⟩) (c12 : PySem.W.codeIn K cd12 "_law_well" = true) (k12 : PySem.W.keepIn K (.ref f12) = true)
    (a13 : PySem.W.nsIn K mainGlobals "_law_take" = some (some (.ref f13))) (l13 : K.lookup f13 = some ⟨oc13, od13, .func (PySem.W.fnOf "_law_take" "_law_take" (C8.fnArgs st_law_take) (C8.fnBody st_law_take) (C8.fnScope st_law_take) .none kV13 dc13 pm13 an13 cd13 ct13), sl13⟩) (c13 : PySem.W.codeIn K cd13 "_law_take" = true) (k13 : PySem.W.keepIn K (.ref f13) = true)
    (a14 : PySem.W.nsIn K mainGlobals "_law_bags" = some (some (.ref f14))) (l14 : K.lookup f14 = some ⟨oc14, od14, .func (PySem.W.fnOf "_law_bags" "_law_bags" (C8.fnArgs st_law_bags) (C8.fnBody st_law_bags) (C8.fnScope st_law_bags) .none kV14 dc14 pm14 an14 cd14 ct14), sl14⟩) (c14 : PySem.W.codeIn K cd14 "_law_bags" = true) (k14 : PySem.W.keepIn K (.ref f14) = true)
    (a15 : PySem.W.nsIn K mainGlobals "_law_words" = some (some (.ref f15))) (l15 : K.lookup f15 = some ⟨oc15, od15, .func (PySem.W.fnOf "_law_words" "_law_words" (C8.fnArgs st_law_words) (C8.fnBody st_law_words) (C8.fnScope st_law_words) .none kV15 dc15 pm15 an15 cd15 ct15), sl15⟩) (c15 : PySem.W.codeIn K cd15 "_law_words" = true) (k15 : PySem.W.keepIn K (.ref f15) = true)
    (a16 : PySem.W.nsIn K mainGlobals "_law_width" = some (some (.ref f16))) (l16 : K.lookup f16 = some ⟨oc16, od16, .func (PySem.W.fnOf "_law_width" "_law_width" (C8.fnArgs st_law_width) (C8.fnBody st_law_width) (C8.fnScope st_law_width) .none kV16 dc16 pm16 an16 cd16 ct16), sl16⟩) (c16 : PySem.W.codeIn K cd16 "_law_width" = true) (k16 : PySem.W.keepIn K (.ref f16) = true)
    (a17 : PySem.W.nsIn K mainGlobals "_law_fit" = some (some (.ref f17))) (l17 : K.lookup f17 = some ⟨oc17, od17, .func (PySem.W.fnOf "_law_fit" "_law_fit" (C8.fnArgs st_law_fit) (C8.fnBody st_law_fit) (C8.fnScope st_law_fit) .none kV17 dc17 pm17 an17 cd17 ct17), sl17⟩) (c17 : PySem.W.codeIn K cd17 "_law_fit" = true) (k17 : PySem.W.keepIn K (.ref f17) = true)
    (a18 : PySem.W.nsIn K mainGlobals "_law_end" = some (some (.ref f18))) (l18 : K.lookup f18 = some ⟨oc18, od18, .func (PySem.W.fnOf "_law_end" "_law_end" (C8.fnArgs st_law_end) (C8.fnBody st_law_end) (C8.fnScope st_law_end) .none kV18 dc18 pm18 an18 cd18 ct18), sl18⟩) (c18 : PySem.W.codeIn K cd18 "_law_end" = true) (k18 : PySem.W.keepIn K (.ref f18) = true)
    (a19 : PySem.W.nsIn K mainGlobals "_law_greedy" = some (some (.ref f19))) (l19 : K.lookup f19 = some ⟨oc19, od19, .func (PySem.W.fnOf "_law_greedy" "_law_greedy" (C8.fnArgs st_law_greedy) (C8.fnBody st_law_greedy) (C8.fnScope st_law_greedy) .none kV19 dc19 pm19 an19 cd19 ct19), sl19⟩) (c19 : PySem.W.codeIn K cd19 "_law_greedy" = true) (k19 : PySem.W.keepIn K (.ref f19) = true)
    (a20 : PySem.W.nsIn K mainGlobals "_law_range" = some (some (.ref f20))) (l20 : K.lookup f20 = some ⟨oc20, od20, .func (PySem.W.fnOf "_law_range" "_law_range" (C8.fnArgs st_law_range) (C8.fnBody st_law_range) (C8.fnScope st_law_range) .none kV20 dc20 pm20 an20 cd20 ct20), sl20⟩) (c20 : PySem.W.codeIn K cd20 "_law_range" = true) (k20 : PySem.W.keepIn K (.ref f20) = true)
    (a21 : PySem.W.nsIn K mainGlobals "_law_same" = some (some (.ref f21))) (l21 : K.lookup f21 = some ⟨oc21, od21, .func (PySem.W.fnOf "_law_same" "_law_same" (C8.fnArgs st_law_same) (C8.fnBody st_law_same) (C8.fnScope st_law_same) .none kV21 dc21 pm21 an21 cd21 ct21), sl21⟩) (c21 : PySem.W.codeIn K cd21 "_law_same" = true) (k21 : PySem.W.keepIn K (.ref f21) = true)
    (a22 : PySem.W.nsIn K mainGlobals "law" = some (some (.ref f22))) (l22 : K.lookup f22 = some ⟨oc22, od22, .func (PySem.W.fnOf "law" "law" (C8.fnArgs st_law) (C8.fnBody st_law) (C8.fnScope st_law) .none kV22 dc22 pm22 an22 cd22 ct22), sl22⟩) (c22 : PySem.W.codeIn K cd22 "law" = true) (k22 : PySem.W.keepIn K (.ref f22) = true)
    (z0 : PySem.W.nsIn K mainGlobals "len" = some none)
    (z1 : PySem.W.nsIn K mainGlobals "isinstance" = some none)
    (z2 : PySem.W.nsIn K mainGlobals "max" = some none)
    (z3 : PySem.W.nsIn K mainGlobals "min" = some none)
    (z4 : PySem.W.nsIn K mainGlobals "sum" = some none)
    (z5 : PySem.W.nsIn K mainGlobals "all" = some none)
    (z6 : PySem.W.nsIn K mainGlobals "tuple" = some none)
    (z7 : PySem.W.nsIn K mainGlobals "range" = some none)
    (z8 : PySem.W.nsIn K mainGlobals "zip" = some none)
    (z9 : PySem.W.nsIn K mainGlobals "enumerate" = some none)
    (z10 : PySem.W.nsIn K mainGlobals "sorted" = some none)
    (z11 : PySem.W.nsIn K mainGlobals "abs" = some none)
    (z12 : PySem.W.nsIn K mainGlobals "set" = some none)
    (z13 : PySem.W.nsIn K mainGlobals "list" = some none)
    (z14 : PySem.W.nsIn K mainGlobals "int" = some none)
    (z15 : PySem.W.nsIn K mainGlobals "bool" = some none)
    (z16 : PySem.W.nsIn K mainGlobals "str" = some none)
    (m0 : PySem.W.nsIn K mainGlobals "MAX_WORDS" = some (some (.int 60 t0)))
    (m1 : PySem.W.nsIn K mainGlobals "MAX_LENGTH" = some (some (.int 40 t1)))
    (h10 : PySem.W.codeHdIn K cc10 (tabOf K cc10) = true) (n10 : K.lookup (tabOf K cc10) = none) (g10 : h.get? (tabOf K cc10) = some { cls := .none, data := .fields #[] })
    (h11 : PySem.W.codeHdIn K cc11 (tabOf K cc11) = true) (n11 : K.lookup (tabOf K cc11) = none) (g11 : h.get? (tabOf K cc11) = some { cls := .none, data := .fields #[] })
    (d10_11 : (tabOf K cc10 == tabOf K cc11) = false) :
    LawAtS l w K L2.CX0 7 63 ("_law_script" : Str) mg fa h := by
  have e := hfa.symm.trans (PySem.W.mg_of X G a22)
  cases e
  have T0 : Bl mg := ⟨PySem.W.mg_none_of X G z0, PySem.W.mg_none_of X G z1, PySem.W.mg_none_of X G z2, PySem.W.mg_none_of X G z3, PySem.W.mg_none_of X G z4, PySem.W.mg_none_of X G z5, PySem.W.mg_none_of X G z6, PySem.W.mg_none_of X G z7, PySem.W.mg_none_of X G z8, PySem.W.mg_none_of X G z9, PySem.W.mg_none_of X G z10, PySem.W.mg_none_of X G z11, PySem.W.mg_none_of X G z12, PySem.W.mg_none_of X G z13, PySem.W.mg_none_of X G z14, PySem.W.mg_none_of X G z15, PySem.W.mg_none_of X G z16, (int_at X G m1)⟩
  have T1 : Bw mg := ⟨T0, (int_at X G m0)⟩
  have D0 := def_at (st := st_is_integer) X G a0 l0 c0 k0
  have A0 : DefAt K mg "is_integer" st_is_integer ["value"] := at_of D0 fun _ _ _ _ _ _ us hl => match us, hl with | [_], _ => rfl
  have D1 := def_at (st := st_in_range) X G a1 l1 c1 k1
  have A1 : DefAt K mg "in_range" st_in_range ["value", "low", "high"] := at_of D1 fun _ _ _ _ _ _ us hl => match us, hl with | [_, _, _], _ => rfl
  have D2 := def_at (st := st_is_words) X G a2 l2 c2 k2
  have A2 : DefAt K mg "is_words" st_is_words ["value"] := at_of D2 fun _ _ _ _ _ _ us hl => match us, hl with | [_], _ => rfl
  have D3 := def_at (st := st_check_count) X G a3 l3 c3 k3
  have A3 : DefAt K mg "check_count" st_check_count ["value", "low", "high"] := at_of D3 fun _ _ _ _ _ _ us hl => match us, hl with | [_, _, _], _ => rfl
  have D4 := def_at (st := st_next_index) X G a4 l4 c4 k4
  have A4 : DefAt K mg "next_index" st_next_index ["words", "width", "index"] := at_of D4 fun _ _ _ _ _ _ us hl => match us, hl with | [_, _, _], _ => rfl
  have D5 := def_at (st := st_starts_of) X G a5 l5 c5 k5
  have A5 : DefAt K mg "starts_of" st_starts_of ["words", "width", "index"] := at_of D5 fun _ _ _ _ _ _ us hl => match us, hl with | [_, _, _], _ => rfl
  have D6 := def_at (st := st_are_starts) X G a6 l6 c6 k6
  have A6 : DefAt K mg "are_starts" st_are_starts ["words", "value"] := at_of D6 fun _ _ _ _ _ _ us hl => match us, hl with | [_, _], _ => rfl
  have D7 := def_at (st := st_check_hidden) X G a7 l7 c7 k7
  have A7 : DefAt K mg "check_hidden" st_check_hidden ["words", "index", "width"] := at_of D7 fun _ _ _ _ _ _ us hl => match us, hl with | [_, _, _], _ => rfl
  have D8 := def_at (st := st_with_length) X G a8 l8 c8 k8
  have A8 : DefAt K mg "with_length" st_with_length ["words", "index", "length"] := at_of D8 fun _ _ _ _ _ _ us hl => match us, hl with | [_, _, _], _ => rfl
  have D9 := def_at (st := st_lengths_that) X G a9 l9 c9 k9
  have A9 : DefAt K mg "lengths_that" st_lengths_that ["words", "index", "width", "good"] := at_of D9 fun _ _ _ _ _ _ us hl => match us, hl with | [_, _, _, _], _ => rfl
  have A10 : DefC K mg "lengths_of_starts" st_lengths_of_starts ["words", "index", "width", "starts"] cc10 := atC_of X G a10 l10 c10 k10 (fun _ _ _ _ _ _ us hl => match us, hl with | [_, _, _, _], _ => rfl)
  have A11 : DefC K mg "lengths_of_count" st_lengths_of_count ["words", "index", "width", "lines"] cc11 := atC_of X G a11 l11 c11 k11 (fun _ _ _ _ _ _ us hl => match us, hl with | [_, _, _, _], _ => rfl)
  have D12 := def_at (st := st_law_well) X G a12 l12 c12 k12
  have A12 : DefAt K mg "_law_well" st_law_well ["_law_cell", "_law_turn"] := at_of D12 fun _ _ _ _ _ _ us hl => match us, hl with | [_, _], _ => rfl
  have D13 := def_at (st := st_law_take) X G a13 l13 c13 k13
  have A13 : DefAt K mg "_law_take" st_law_take ["_law_bag", "_law_many"] := at_of D13 fun _ _ _ _ _ _ us hl => match us, hl with | [_, _], _ => rfl
  have D14 := def_at (st := st_law_bags) X G a14 l14 c14 k14
  have A14 : DefAt K mg "_law_bags" st_law_bags ["_law_script", "_law_most"] := at_of D14 fun _ _ _ _ _ _ us hl => match us, hl with | [_, _], _ => rfl
  have D15 := def_at (st := st_law_words) X G a15 l15 c15 k15
  have A15 : DefAt K mg "_law_words" st_law_words ["_law_bag", "_law_most"] := at_of D15 fun _ _ _ _ _ _ us hl => match us, hl with | [_, _], _ => rfl
  have D16 := def_at (st := st_law_width) X G a16 l16 c16 k16
  have A16 : DefAt K mg "_law_width" st_law_width ["_law_bag", "_law_words_here"] := at_of D16 fun _ _ _ _ _ _ us hl => match us, hl with | [_, _], _ => rfl
  have D17 := def_at (st := st_law_fit) X G a17 l17 c17 k17
  have A17 : DefAt K mg "_law_fit" st_law_fit ["_law_words_here", "_law_width_here", "_law_start", "_law_end_here"] := at_of D17 fun _ _ _ _ _ _ us hl => match us, hl with | [_, _, _, _], _ => rfl
  have D18 := def_at (st := st_law_end) X G a18 l18 c18 k18
  have A18 : DefAt K mg "_law_end" st_law_end ["_law_words_here", "_law_width_here", "_law_start"] := at_of D18 fun _ _ _ _ _ _ us hl => match us, hl with | [_, _, _], _ => rfl
  have D19 := def_at (st := st_law_greedy) X G a19 l19 c19 k19
  have A19 : DefAt K mg "_law_greedy" st_law_greedy ["_law_words_here", "_law_width_here", "_law_start"] := at_of D19 fun _ _ _ _ _ _ us hl => match us, hl with | [_, _, _], _ => rfl
  have D20 := def_at (st := st_law_range) X G a20 l20 c20 k20
  have A20 : DefAt K mg "_law_range" st_law_range ["_law_some"] := at_of D20 fun _ _ _ _ _ _ us hl => match us, hl with | [_], _ => rfl
  have D21 := def_at (st := st_law_same) X G a21 l21 c21 k21
  have A21 : DefAt K mg "_law_same" st_law_same ["_law_a", "_law_b"] := at_of D21 fun _ _ _ _ _ _ us hl => match us, hl with | [_, _], _ => rfl
  have D22 := def_at (st := st_law) X G a22 l22 c22 k22
  let Tb : List (Addr × Str) := [(tabOf K cc10, ("lengths_of_starts" : Str) ++ ".<locals>." ++ "<lambda>"), (tabOf K cc11, ("lengths_of_count" : Str) ++ ".<locals>." ++ "<lambda>")]
  let cs : List (Addr × Addr) := [(cc10, tabOf K cc10), (cc11, tabOf K cc11)]
  refine ⟨PySem.W.fnOf "law" "law" (C8.fnArgs st_law) (C8.fnBody st_law) (C8.fnScope st_law) .none kV22 dc22 pm22 an22 cd22 ct22, cs, spLaw K Tb, (List.forall_mem_cons.mpr ⟨g10, (List.forall_mem_cons.mpr ⟨g11, (fun _ h => nomatch h)⟩)⟩), (List.forall_mem_cons.mpr ⟨n10, (List.forall_mem_cons.mpr ⟨n11, (fun _ h => nomatch h)⟩)⟩), (List.forall_mem_cons.mpr ⟨PySem.W.codeHd_of_K X h10, (List.forall_mem_cons.mpr ⟨PySem.W.codeHd_of_K X h11, (fun _ h => nomatch h)⟩)⟩), fun s v => .of_eq rfl, fun H a ns hl _ hH hS => ⟨a, ns, rfl, hS, hl, ?_, fun _ => rfl⟩, fun base _ _ hTB => ?_⟩
  · exact (List.forall_mem_cons.mpr ⟨TabS.nil (hH _ List.mem_cons_self), (List.forall_mem_cons.mpr ⟨TabS.nil (hH _ (List.mem_cons_of_mem _ List.mem_cons_self)), (fun _ h => nomatch h)⟩)⟩)
  have u10 : ∀ p ∈ Tb, p.1 = tabOf K cc10 → p.2 = ("lengths_of_starts" : Str) ++ ".<locals>." ++ "<lambda>" := (List.forall_mem_cons.mpr ⟨fun _ => rfl, (List.forall_mem_cons.mpr ⟨fun z => absurd (beq_iff_eq.mpr (show tabOf K cc10 = tabOf K cc11 from z.symm)) (by rw [d10_11]; decide), (fun _ h => nomatch h)⟩)⟩)
  have u11 : ∀ p ∈ Tb, p.1 = tabOf K cc11 → p.2 = ("lengths_of_count" : Str) ++ ".<locals>." ++ "<lambda>" := (List.forall_mem_cons.mpr ⟨fun z => absurd (beq_iff_eq.mpr (show tabOf K cc10 = tabOf K cc11 from z)) (by rw [d10_11]; decide), (List.forall_mem_cons.mpr ⟨fun _ => rfl, (fun _ h => nomatch h)⟩)⟩)
  have C_is_integer := ok_is_integer (P := l.prog) (w := w) (base := base) T0 A0
  have C_in_range := ok_in_range (P := l.prog) (w := w) (base := base) T0 A1 C_is_integer
  have C_is_words := ok_is_words (P := l.prog) (w := w) (base := base) T1 A2 C_in_range
  have C_check_count := ok_check_count (P := l.prog) (w := w) (base := base) A3 C_in_range
  have C_next_index := ok_next_index (P := l.prog) (w := w) (base := base) T0 A4
  have C_starts_of := ok_starts_of (P := l.prog) (w := w) (base := base) T0 A5 C_next_index
  have C_are_starts := ok_are_starts (P := l.prog) (w := w) (base := base) T0 A6 C_is_integer
  have C_check_hidden := ok_check_hidden (P := l.prog) (w := w) (base := base) T0 A7 C_in_range C_is_words
  have C_with_length := ok_with_length (P := l.prog) (w := w) (base := base) A8
  have C_lengths_of_starts := ok_lengths_of_starts (P := l.prog) (w := w) (base := base) (Tb := Tb) T0 A10 A9 (hTB _ List.mem_cons_self) List.mem_cons_self u10 C_check_hidden C_are_starts C_starts_of C_with_length
  have C_lengths_of_count := ok_lengths_of_count (P := l.prog) (w := w) (base := base) (Tb := Tb) T0 A11 A9 (hTB _ (List.mem_cons_of_mem _ List.mem_cons_self)) (List.mem_cons_of_mem _ List.mem_cons_self) u11 C_check_hidden C_check_count C_starts_of C_with_length
  have C_law_well := ok_law_well (P := l.prog) (w := w) (base := base) A12
  have C_law_take := ok_law_take (P := l.prog) (w := w) (base := base) A13
  have C_law_bags := ok_law_bags (P := l.prog) (w := w) (base := base) T0 A14 C_law_well
  have C_law_words := ok_law_words (P := l.prog) (w := w) (base := base) T0 A15 C_law_take
  have C_law_width := ok_law_width (P := l.prog) (w := w) (base := base) T0 A16 C_law_take
  have C_law_fit := ok_law_fit (P := l.prog) (w := w) (base := base) T0 A17
  have C_law_end := ok_law_end (P := l.prog) (w := w) (base := base) T0 A18 C_law_fit
  have C_law_greedy := ok_law_greedy (P := l.prog) (w := w) (base := base) T0 A19 C_law_end
  have C_law_range := ok_law_range (P := l.prog) (w := w) (base := base) T0 A20
  have C_law_same0 := ok_same0 (P := l.prog) (w := w) (base := base) T0 A21
  have C_law_same1 := ok_sameS (P := l.prog) (w := w) (base := base) T0 A21 0 C_law_same0
  have C_law_same := C_law_same1
  exact ok_law (Tb := Tb) T1 D22 C_law_bags C_law_words C_law_take C_law_width C_law_greedy C_law_range C_law_same C_lengths_of_starts C_lengths_of_count
end Ls
open PySem PySem.W PyProof.Rows
set_option maxHeartbeats 0 in
theorem PySem.Challenge.cw_linesync_k14_whole_hidden_lengths_holds : PySem.Challenge.rw_linesync_k14_whole_hidden_lengths.Holds := by
  w_on; o_law; k_head; (case hw => w_witness2)
  k_fill
  refine LamX.walk_ofTs (l := PySem.Challenge.rw_linesync_k14_whole_hidden_lengths) (n := 63) (k := 7) (x := "_law_script") (CX := fun _ => L2.CX0) rfl (by decide) rfl ⟨rfl, by decide, by decide⟩ (fun w h Y => PySem.W.km_in_of Y) ?F (fun _ _ _ _ _ h => h)
  case F =>
    intro w mg fa h Y KX G hmg
    have hT8 := PySem.W.km_tabs_of Y
    refine' Ls.all_mk KX G hmg ?a0 ?l0 ?c0 ?k0 ?a1 ?l1 ?c1 ?k1 ?a2 ?l2 ?c2 ?k2 ?a3 ?l3 ?c3 ?k3 ?a4 ?l4 ?c4 ?k4 ?a5 ?l5 ?c5 ?k5 ?a6 ?l6 ?c6 ?k6 ?a7 ?l7 ?c7 ?k7 ?a8 ?l8 ?c8 ?k8 ?a9 ?l9 ?c9 ?k9 ?a10 ?l10 ?c10 ?k10 ?a11 ?l11 ?c11 ?k11 ?a12 ?l12 ?c12 ?k12 ?a13 ?l13 ?c13 ?k13 ?a14 ?l14 ?c14 ?k14 ?a15 ?l15 ?c15 ?k15 ?a16 ?l16 ?c16 ?k16 ?a17 ?l17 ?c17 ?k17 ?a18 ?l18 ?c18 ?k18 ?a19 ?l19 ?c19 ?k19 ?a20 ?l20 ?c20 ?k20 ?a21 ?l21 ?c21 ?k21 ?a22 ?l22 ?c22 ?k22 ?z0 ?z1 ?z2 ?z3 ?z4 ?z5 ?z6 ?z7 ?z8 ?z9 ?z10 ?z11 ?z12 ?z13 ?z14 ?z15 ?z16 ?m0 ?m1 ?h10 ?n10 ?g10 ?h11 ?n11 ?g11 ?d10_11
    (case a0 => k_is); (case l0 => k_is); (case c0 => k_is); (case k0 => k_is); (case a1 => k_is); (case l1 => k_is); (case c1 => k_is); (case k1 => k_is); (case a2 => k_is); (case l2 => k_is); (case c2 => k_is); (case k2 => k_is); (case a3 => k_is); (case l3 => k_is); (case c3 => k_is); (case k3 => k_is); (case a4 => k_is); (case l4 => k_is); (case c4 => k_is); (case k4 => k_is); (case a5 => k_is); (case l5 => k_is); (case c5 => k_is); (case k5 => k_is); (case a6 => k_is); (case l6 => k_is); (case c6 => k_is); (case k6 => k_is); (case a7 => k_is); (case l7 => k_is); (case c7 => k_is); (case k7 => k_is); (case a8 => k_is); (case l8 => k_is); (case c8 => k_is); (case k8 => k_is); (case a9 => k_is); (case l9 => k_is); (case c9 => k_is); (case k9 => k_is); (case a10 => k_is); (case l10 => k_is); (case c10 => k_is); (case k10 => k_is); (case a11 => k_is); (case l11 => k_is); (case c11 => k_is); (case k11 => k_is); (case a12 => k_is); (case l12 => k_is); (case c12 => k_is); (case k12 => k_is); (case a13 => k_is); (case l13 => k_is); (case c13 => k_is); (case k13 => k_is); (case a14 => k_is); (case l14 => k_is); (case c14 => k_is); (case k14 => k_is); (case a15 => k_is); (case l15 => k_is); (case c15 => k_is); (case k15 => k_is); (case a16 => k_is); (case l16 => k_is); (case c16 => k_is); (case k16 => k_is); (case a17 => k_is); (case l17 => k_is); (case c17 => k_is); (case k17 => k_is); (case a18 => k_is); (case l18 => k_is); (case c18 => k_is); (case k18 => k_is); (case a19 => k_is); (case l19 => k_is); (case c19 => k_is); (case k19 => k_is); (case a20 => k_is); (case l20 => k_is); (case c20 => k_is); (case k20 => k_is); (case a21 => k_is); (case l21 => k_is); (case c21 => k_is); (case k21 => k_is); (case a22 => k_is); (case l22 => k_is); (case c22 => k_is); (case k22 => k_is); (case z0 => k_is); (case z1 => k_is); (case z2 => k_is); (case z3 => k_is); (case z4 => k_is); (case z5 => k_is); (case z6 => k_is); (case z7 => k_is); (case z8 => k_is); (case z9 => k_is); (case z10 => k_is); (case z11 => k_is); (case z12 => k_is); (case z13 => k_is); (case z14 => k_is); (case z15 => k_is); (case z16 => k_is); (case m0 => k_is); (case m1 => k_is); (case h10 => kernel_rfl); (case n10 => kernel_rfl); (case g10 => exact hT8 _ (List.elem_iff.mp (by kernel_rfl))); (case h11 => kernel_rfl); (case n11 => kernel_rfl); (case g11 => exact hT8 _ (List.elem_iff.mp (by kernel_rfl))); (case d10_11 => kernel_rfl)
