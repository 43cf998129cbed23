import PyProof.Rows.All
import Wide.All
import OpenK.AllK
import Wide.FinOn
import HandS.ForMost
import HandS.Codes
import HandS.Wide
import HandS.TupAny
import HandS.Style
import HandS.Zip
import HandS.IsInst
import HandS.SortInts
import HandS.Conv
import HandS.Walk
import HandS.More
import PySem.Challenge.RW_linesync_k12_whole_widths
set_option Elab.async false
set_option linter.all false
set_option maxRecDepth 100000
set_option maxHeartbeats 4000000
namespace Ls
open PySem PySem.Spec PyProof.Rows L2 RZ
/-! ### sums, greatest and least of a tuple -/
section
variable {prog : Program} {w : World} {A : Around} {E : Value → Shared → Prop} {s : Shared} {l : Addr} {xs : Array (Int × Tok)}
theorem iter_intTup {Q : Value → Shared → Prop} (hl : s.heap.IsTuple l (intItems xs))
    (h : ∀ s₂ : Shared, s₂ = { s with heap := s.heap.push { cls := .type "tuple_iterator", data := .fields #[.ref l, .int 0 0] } } →
      (s₂.heap.IsTupleIter s.heap.objs.size l 0 ∧ s₂.heap.IsTuple l (intItems xs)) → (∀ b ∈ [s.heap.objs.size, l], b < s₂.heap.objs.size) → l ≠ s.heap.objs.size → Q (.ref s.heap.objs.size) s₂) :
    wpAny (model prog w) A (pyIter (.ref l)) Q E s := by
  have hlt : l < s.heap.objs.size := by obtain ⟨_, e, _⟩ := hl; exact Heap.lt_size e
  refine wpAny_pyIter_tuple hl (h _ rfl ⟨⟨_, Heap.get?_push_size _ rfl, rfl, rfl⟩, hl.push _⟩ (fun b hb => ?_) (Nat.ne_of_lt hlt))
  show b < (s.heap.push _).objs.size
  rw [Heap.size_push]
  rcases List.mem_cons.mp hb with rfl | hb
  · exact Nat.lt_succ_self _
  · rcases List.mem_cons.mp hb with rfl | hb
    · exact Nat.lt_succ_of_lt hlt
    · cases hb
theorem old_keptT {h' : Heap} (hk : ∀ b o, b ∉ [s.heap.objs.size] → (s.heap.push { cls := .type "tuple_iterator", data := .fields #[.ref l, .int 0 0] }).get? b = some o → h'.get? b = some o) :
    ∀ b o, s.heap.get? b = some o → h'.get? b = some o := fun b o e => by
  refine hk b o (fun hm => ?_) (Heap.get?_push_of_some _ e)
  rcases List.mem_cons.mp hm with e1 | hm
  · exact absurd (e1 ▸ Heap.lt_size e) (Nat.lt_irrefl _)
  · cases hm
theorem sum_intTup {Q : Value → Shared → Prop} (hh : A.handled = none) (hl : s.heap.IsTuple l (intItems xs))
    (h : ∀ h' tk t', (∀ b o, s.heap.get? b = some o → h'.get? b = some o) → Q (.int (preSum (numAt xs) xs.size) t') { s with heap := h', toks := tk }) :
    wpAny (model prog w) A (call (.builtin "sum") [.ref l]) Q E s := by
  refine call_sum_walkG (iter_intTup hl fun s₂ e st hfp hlI => ?_)
  subst e
  refine ⟨_, _, _, _, _, _, numAt xs, rfl, Walks.tuple (A := A.in1) hh _ l hlI (intItems xs), st, hfp, (fun _ _ => intItems_at), fun h' tk t' hk => ?_⟩
  have := h h' tk t' (old_keptT hk)
  simpa [intItems] using this
theorem max_intTup {Q : Value → Shared → Prop} (hh : A.handled = none) (hl : s.heap.IsTuple l (intItems xs)) (hne : 0 < xs.size)
    (h : ∀ v h' tk, (intItems xs)[argBest (fun i j => decide (numAt xs i > numAt xs j)) (xs.size - 1)]? = some v → (∀ b o, s.heap.get? b = some o → h'.get? b = some o) → Q v { s with heap := h', toks := tk }) :
    wpAny (model prog w) A (call (.builtin "max") [.ref l]) Q E s := by
  refine call_max_walk (iter_intTup hl fun s₂ e st hfp hlI => ?_)
  subst e
  refine ⟨_, _, _, _, _, _, _, rfl, Walks.tuple (A := A.in1) hh _ l hlI (intItems xs), st, hfp, by simpa [intItems] using hne, CmpOf.ints_gt (numAt xs) (fun _ _ => intItems_at), fun v h' tk hP hk => ?_⟩
  exact h v h' tk (by simpa [intItems] using hP) (old_keptT hk)
variable {its : List Value} {ns : List Int}
theorem sum_rawT {Q : Value → Shared → Prop} (hh : A.handled = none) (hl : s.heap.IsTuple l its.toArray) (hi : IntsAre its ns)
    (h : ∀ h' tk t', (∀ b o, s.heap.get? b = some o → h'.get? b = some o) → Q (.int ns.sum t') { s with heap := h', toks := tk }) : wpAny (model prog w) A (call (.builtin "sum") [.ref l]) Q E s := by
  obtain ⟨xs, e⟩ := hi.allInts.items
  have hn : numsOf (intItems xs).toList = ns := by rw [← e]; exact hi.numsOf
  rw [nums_intItems] at hn
  rw [e] at hl
  refine sum_intTup hh hl fun h' tk t' hk => ?_
  have := h h' tk t' hk
  rw [preSum_eq, List.take_of_length_le (by simp), hn]; exact this
theorem max_rawT {Q : Value → Shared → Prop} (hh : A.handled = none) (hl : s.heap.IsTuple l its.toArray) (hi : IntsAre its ns) (hne : 0 < ns.length)
    (h : ∀ h' tk M t', (∀ b o, s.heap.get? b = some o → h'.get? b = some o) → M ∈ ns → (∀ a, a ∈ ns → a ≤ M) → Q (.int M t') { s with heap := h', toks := tk }) : wpAny (model prog w) A (call (.builtin "max") [.ref l]) Q E s := by
  obtain ⟨xs, e⟩ := hi.allInts.items
  have hn : numsOf (intItems xs).toList = ns := by rw [← e]; exact hi.numsOf
  rw [nums_intItems] at hn
  subst hn
  rw [e] at hl
  have hsz : 0 < xs.size := by simpa using hne
  refine max_intTup hh hl hsz fun v h' tk hv hk => ?_
  obtain ⟨t, rfl⟩ := intItems_at hv
  obtain ⟨h1, h2⟩ := argBest_gt (numAt xs) (xs.size - 1)
  refine h h' tk _ t hk ?_ fun a ha => ?_
  · rw [numAt_eq]; exact PySem.getD_mem (by rw [List.length_map, Array.length_toList]; omega)
  · obtain ⟨j, hj, rfl⟩ := mem_getD ha
    rw [List.length_map, Array.length_toList] at hj
    rw [← numAt_eq]; exact h2 j (by omega)
end
section
variable {X : Cx}
def rSumT (K : PySem.W.Frag) : List V → Hp → VK → Prop := fun vs H Q => ∃ (a : Addr) (ns : List Int), vs = [V.ref a] ∧ SqT K H a (ns.map V.int) ∧ Q (.int ns.sum) H
def rMaxT (K : PySem.W.Frag) : List V → Hp → VK → Prop := fun vs H Q => ∃ (a : Addr) (ns : List Int), vs = [V.ref a] ∧ SqT K H a (ns.map V.int) ∧ 0 < ns.length ∧ ∀ m, m ∈ ns → (∀ y, y ∈ ns → y ≤ m) → Q (.int m) H
theorem cr_sumT (hc : X.calm = true) : CallR X (.builtin "sum") (rSumT X.K) := by
  intro pins s σ H vs us Q I r h
  obtain ⟨a, ns, rfl, hs, q⟩ := h
  obtain ⟨its, rv, hl, _⟩ := I.tuple hs
  rw [Vals.ref1 r]
  exact sum_rawT (I.ok.hd hc) hl rv.ints fun h' tk t' hk => ⟨.int _, H, I.kept hk, ⟨_, rfl⟩, q⟩
theorem cr_maxT (hc : X.calm = true) : CallR X (.builtin "max") (rMaxT X.K) := by
  intro pins s σ H vs us Q I r h
  obtain ⟨a, ns, rfl, hs, hne, q⟩ := h
  obtain ⟨its, rv, hl, _⟩ := I.tuple hs
  rw [Vals.ref1 r]
  exact max_rawT (I.ok.hd hc) hl rv.ints hne fun h' tk m t' hk h1 h2 => ⟨.int _, H, I.kept hk, ⟨_, rfl⟩, q m h1 h2⟩
end
/-! ### what the module's names hold -/
structure Bl (mg : Str → Option Value) : Prop where
  len_ : mg "len" = none
  isinstance_ : mg "isinstance" = none
  max_ : mg "max" = none
  min_ : mg "min" = none
  sum_ : mg "sum" = none
  all_ : mg "all" = none
  tuple_ : mg "tuple" = none
  range_ : mg "range" = none
  zip_ : mg "zip" = none
  enumerate_ : mg "enumerate" = none
  sorted_ : mg "sorted" = none
  abs_ : mg "abs" = none
  set_ : mg "set" = none
  list_ : mg "list" = none
  int_ : mg "int" = none
  bool_ : mg "bool" = none
  str_ : mg "str" = none
  ml : ∃ u, mg "MAX_LENGTH" = some u ∧ RelV (.int 40) u
/-- the constants of texts.py that not every text has -/
structure Bw (mg : Str → Option Value) : Prop extends Bl mg where
  mw : ∃ u, mg "MAX_WORDS" = some u ∧ RelV (.int 60) u
structure Bx (mg : Str → Option Value) : Prop extends Bw mg where
  mx : ∃ u, mg "MAX_WIDTH" = some u ∧ RelV (.int 2500) u
structure Br (mg : Str → Option Value) : Prop extends Bx mg where
  mr : ∃ u, mg "MAX_REPETITIONS" = some u ∧ RelV (.int 1000000000000000) u
/-- a def stands under its name, with these parameters -/
def DefAt (K : PySem.W.Frag) (mg : Str → Option Value) (x : Str) (st : Stmt) (ps : List Str) : Prop := ∃ (f : Addr) (fd : FuncData), C8.Def K mg x st f fd ∧ Binds K fd ps []
/-- C8.cal0 over DefAt -/
theorem cal_of {P : Program} {w : World} {K : PySem.W.Frag} {mg : Str → Option Value} {base : Heap} {x : Str} {st : Stmt} {N ps : List Str} {k : Nat} {sp : Sp} (D : DefAt K mg x st ps) (S : FnScope N ps (C8.fnScope st))
    (len : ∀ vs H Q E, sp vs H Q E → vs.length = ps.length)
    (hbody : ∀ (f : Addr) (cdv : Value) (A : Around) (outer : List Env) (s : Shared) (H : Hp) (vs : List V) (Q : VK) (E : XK), Room k (A.deeper (envOfC x (C8.fnScope st) s.heap.objs.size f cdv)) → sp vs H Q E →
      ∃ t, PSs (cxOf CX0 P w K mg base N x (C8.fnScope st) f cdv A outer s H E).nox (C8.fnBody st) t ∧ t { nx := fun _ H' => Q .non H', rt := Q } (start N vs) H) : C8.Cal P w K mg base (k + 1) x sp [] := by
  obtain ⟨f, fd, D, b⟩ := D
  exact C8.cal0 D b .nil S len fun cdv A outer s H vs Q E => hbody f cdv A outer s H vs Q E
/-- a def as it stands behind the top -/
theorem def_at {K : PySem.W.Frag} {mg : Str → Option Value} {h : Heap} (X : K.In h) (G : h.Ns mainGlobals mg) {x : Str} {st : Stmt} {f : Addr} {oc : Value} {od an : Option Addr} {osl : Array (Option Value)} {kV doc pm cdv ct : Value}
    (a : PySem.W.nsIn K mainGlobals x = some (some (.ref f))) (l : K.lookup f = some ⟨oc, od, .func (PySem.W.fnOf x x (C8.fnArgs st) (C8.fnBody st) (C8.fnScope st) .none kV doc pm an cdv ct), osl⟩)
    (c : PySem.W.codeIn K cdv x = true) (k : PySem.W.keepIn K (.ref f) = true) : C8.Def K mg x st f (PySem.W.fnOf x x (C8.fnArgs st) (C8.fnBody st) (C8.fnScope st) .none kV doc pm an cdv ct) :=
  ⟨⟨oc, od, .none, kV, doc, pm, an, cdv, ct, osl, rfl, l, c⟩, PySem.W.mg_of X G a, k⟩
theorem at_of {K : PySem.W.Frag} {mg : Str → Option Value} {x : Str} {st : Stmt} {f : Addr} {kV doc pm cdv ct : Value} {an : Option Addr} {ps : List Str} (D : C8.Def K mg x st f (PySem.W.fnOf x x (C8.fnArgs st) (C8.fnBody st) (C8.fnScope st) .none kV doc pm an cdv ct))
    (hb : ∀ (kV doc pm : Value) (an : Option Addr) (cdv ct : Value) (us : List Value), us.length = ps.length → bindArgs (PySem.W.fnOf x x (C8.fnArgs st) (C8.fnBody st) (C8.fnScope st) .none kV doc pm an cdv ct) ⟨us, []⟩ = pure (ps.zip us)) : DefAt K mg x st ps :=
  ⟨f, _, D, C8.Fun.binds D.fn rfl hb⟩
theorem int_at {K : PySem.W.Frag} {mg : Str → Option Value} {h : Heap} (X : K.In h) (G : h.Ns mainGlobals mg) {x : Str} {i : Int} {t : Tok} (a : PySem.W.nsIn K mainGlobals x = some (some (.int i t))) : ∃ u, mg x = some u ∧ RelV (.int i) u := ⟨_, PySem.W.mg_of X G a, ⟨t, rfl⟩⟩
theorem cal_mono {P : Program} {w : World} {K : PySem.W.Frag} {mg : Str → Option Value} {base : Heap} {x : Str} {j k : Nat} {sp : Sp} (C : C8.Cal P w K mg base j x sp []) (h : j ≤ k) : C8.Cal P w K mg base k x sp [] := by
  obtain ⟨f, fd, ps, ds, F, a, b, c, d⟩ := C.ex
  exact ⟨f, fd, ps, ds, F.mono h, a, b, c, d⟩
/-! ### heaps -/
/-- all that was tracked but a is as it was -/
def But (a : Addr) (H H' : Hp) : Prop := ∀ b o, b ≠ a → H b = some o → H' b = some o
theorem But.refl (a : Addr) (H : Hp) : But a H H := fun _ _ _ h => h
theorem But.trans {a : Addr} {H H1 H2 : Hp} (x : But a H H1) (y : But a H1 H2) : But a H H2 := fun c o n h => y c o n (x c o n h)
theorem But.of {a : Addr} {H H' : Hp} (x : Same H H') : But a H H' := fun b o _ h => x b o h
theorem But.upd {a : Addr} {H : Hp} {o : HO} : But a H (upd H a o) := fun b x n h => by
  rw [upd_ne n]; exact h
theorem cut_full (xs : List V) (n : Nat) : cutV xs none (some (n : Int)) = xs.take n := by
  unfold cutV
  rw [HT.sIx_none, HT.sIx_nat, List.drop_zero, Nat.sub_zero]
  by_cases h : n ≤ xs.length
  · rw [Nat.min_eq_left h]
  · rw [Nat.min_eq_right (by omega), List.take_of_length_le (Nat.le_refl _), List.take_of_length_le (by omega)]
theorem cut_from (xs : List V) (n : Nat) : cutV xs (some (n : Int)) none = xs.drop n := by
  unfold cutV
  rw [HT.sIx_none, HT.sIx_nat]
  by_cases h : n ≤ xs.length
  · rw [Nat.min_eq_left h, List.take_of_length_le (by rw [List.length_drop]; omega)]
  · rw [Nat.min_eq_right (by omega), Nat.sub_self, List.take_zero, List.drop_of_length_le (by omega)]
theorem cut_mid (xs : List V) (i j : Nat) : cutV xs (some (i : Int)) (some (j : Int)) = (xs.drop i).take (j - i) := by
  unfold cutV
  rw [HT.sIx_nat, HT.sIx_nat]
  by_cases h : i ≤ xs.length
  · rw [Nat.min_eq_left h]
    by_cases h2 : j ≤ xs.length
    · rw [Nat.min_eq_left h2]
    · rw [Nat.min_eq_right (by omega), List.take_of_length_le (by rw [List.length_drop]; omega), List.take_of_length_le (by rw [List.length_drop]; omega)]
  · have e1 : xs.drop (min i xs.length) = [] := List.drop_of_length_le (by omega)
    have e2 : xs.drop i = [] := List.drop_of_length_le (by omega)
    rw [e1, e2, List.take_nil, List.take_nil]
theorem same_upd {H : Hp} {p : Addr} {o : HO} (h : H p = none) : Same H (upd H p o) := fun b x e => by
  rw [upd_ne (ne_of_none e h)]
  exact e
/-! ### readings in short -/
def rLenS (K : PySem.W.Frag) : List V → Hp → VK → Prop := fun xs H Q => ∃ p ys, xs = [.ref p] ∧ (SqL K H p ys ∨ SqT K H p ys) ∧ Q (.int ys.length) H
def rTupS (K : PySem.W.Frag) : List V → Hp → VK → Prop := fun xs H Q => ∃ p ys, xs = [.ref p] ∧ ((SqL K H p ys ∧ ∀ l, H l = none → Q (.ref l) (upd H l (.tup ys))) ∨ (SqT K H p ys ∧ Q (.ref p) H))
theorem call_tupS {X : Cx} : CallR X (.type "tuple") (rTupS X.K) := call_tuple_of
def rAbs : List V → Hp → VK → Prop := fun xs H Q => ∃ i, xs = [.int i] ∧ Q (.int (if i < 0 then -i else i)) H
theorem call_absS {X : Cx} : CallR X (.builtin "abs") rAbs := call_abs
def rMax2 : List V → Hp → VK → Prop := fun xs H Q => ∃ i j, xs = [.int i, .int j] ∧ Q (.int (if j > i then j else i)) H
theorem call_max2S {X : Cx} (hc : X.calm = true) : CallR X (.builtin "max") rMax2 := call_max2 hc
def rMin2 : List V → Hp → VK → Prop := fun xs H Q => ∃ i j, xs = [.int i, .int j] ∧ Q (.int (if j < i then j else i)) H
theorem call_min2S {X : Cx} (hc : X.calm = true) : CallR X (.builtin "min") rMin2 := call_min2 hc
theorem s_abs {H : Hp} {Q : VK} {i : Int} : rAbs [.int i] H Q = Q (.int (if i < 0 then -i else i)) H := by
  refine propext ⟨fun ⟨a, h, q⟩ => ?_, fun q => ⟨i, rfl, q⟩⟩
  cases h; exact q
theorem s_max2 {H : Hp} {Q : VK} {i j : Int} : rMax2 [.int i, .int j] H Q = Q (.int (if j > i then j else i)) H := by
  refine propext ⟨fun ⟨a, b, h, q⟩ => ?_, fun q => ⟨i, j, rfl, q⟩⟩
  cases h; exact q
theorem s_min2 {H : Hp} {Q : VK} {i j : Int} : rMin2 [.int i, .int j] H Q = Q (.int (if j < i then j else i)) H := by
  refine propext ⟨fun ⟨a, b, h, q⟩ => ?_, fun q => ⟨i, j, rfl, q⟩⟩
  cases h; exact q
theorem call_lenS {X : Cx} : CallR X (.builtin "len") (rLenS X.K) := call_len_seq
section
variable {K : PySem.W.Frag} {H : Hp} {a : Addr} {xs : List V} {i k : Int} {j : Nat} {v : V} {Q : VK} {R : Hp → Prop}
theorem ixL_of (h : H a = some (.lst xs)) (hv : atI xs i = some v) (q : Q v H) : rIxL K (.ref a) (.int i) H Q := ⟨_, _, _, _, rfl, rfl, .of h, hv, q⟩
theorem s_cons {x : V} {r : List V} {P : V → List V → Prop} : (∃ v r', (x :: r) = v :: r' ∧ P v r') = P x r := by
  refine propext ⟨fun ⟨v, r', h1, q⟩ => ?_, fun q => ⟨x, r, rfl, q⟩⟩
  cases h1; exact q
theorem tupg_of {n : Nat} {xs : List V} {R : List V → Prop} (h : H a = some (.tup xs)) (hn : xs.length = n) (q : R xs) : ∃ b ys, V.ref a = V.ref b ∧ SqT K H b ys ∧ ys.length = n ∧ R ys := ⟨_, _, rfl, .of h, hn, q⟩
theorem ixT_of (h : H a = some (.tup xs)) (hv : atI xs i = some v) (q : Q v H) : rIxT K (.ref a) (.int i) H Q := ⟨_, _, _, _, rfl, rfl, .of h, hv, q⟩
theorem setL_of (h : H a = some (.lst xs)) (hj : ixN xs.length k = some j) (q : R (upd H a (.lst (xs.set j v)))) : rSetL (.ref a) (.int k) v H R := ⟨_, _, _, _, rfl, rfl, h, hj, q⟩
theorem lenT_of (h : H a = some (.tup xs)) (q : Q (.int xs.length) H) : rLenS K [.ref a] H Q := ⟨_, _, rfl, .inr (.of h), q⟩
theorem slL_of {lo hi : Option Int} (h : SqL K H a xs) (q : ∀ p, H p = none → Q (.ref p) (upd H p (.lst (cutV xs lo hi)))) : rSlL K (.ref a) lo hi H Q := ⟨_, _, rfl, h, q⟩
theorem cat_of {b : Addr} {ys : List V} (h : H a = some (.lst xs)) (h2 : H b = some (.lst ys)) (hz : xs.length + ys.length ≤ sizeLine) (q : ∀ p, H p = none → Q (.ref p) (upd H p (.lst (xs ++ ys)))) : rCat (.ref a) (.ref b) H Q := ⟨_, _, _, _, rfl, rfl, h, h2, hz, q⟩
theorem app_of {y : V} (h : H a = some (.lst xs)) (hz : xs.length < sizeLine) (q : Q .non (upd H a (.lst (xs ++ [y])))) : rAppend (.ref a) [y] H Q := ⟨_, _, _, rfl, rfl, h, hz, q⟩
theorem rep_of (h : H a = some (.lst xs)) (h1 : -(2 ^ 63) ≤ k) (h2 : k < 2 ^ 63) (hz : xs.length * k.toNat ≤ sizeLine) (q : ∀ p, H p = none → Q (.ref p) (upd H p (.lst (List.replicate k.toNat xs).flatten))) : rRep (.ref a) (.int k) H Q := ⟨_, _, _, rfl, rfl, h, h1, h2, hz, q⟩
theorem sumT_of {ns : List Int} (h : H a = some (.tup (ns.map V.int))) (q : Q (.int ns.sum) H) : rSumT K [.ref a] H Q := ⟨_, _, rfl, .of h, q⟩
theorem sumL_of {ns : List Int} (h : H a = some (.lst (ns.map V.int))) (q : Q (.int ns.sum) H) : rSum K [.ref a] H Q := ⟨_, _, rfl, .of h, q⟩
theorem maxT_of {ns : List Int} (h : H a = some (.tup (ns.map V.int))) (h0 : 0 < ns.length) (q : ∀ m, m ∈ ns → (∀ y, y ∈ ns → y ≤ m) → Q (.int m) H) : rMaxT K [.ref a] H Q := ⟨_, _, rfl, .of h, h0, q⟩
theorem tupL_of (h : H a = some (.lst xs)) (q : ∀ l, H l = none → Q (.ref l) (upd H l (.tup xs))) : rTupS K [.ref a] H Q := ⟨_, _, rfl, .inl ⟨.of h, q⟩⟩
theorem isi_int (q : Q (.bl true) H) : rIsi K [.int i, .ty "int"] H Q := ⟨_, _, .type "int", .type "int", true, rfl, .ty _, .base (.int i), kit_ty (by decide +kernel), q⟩
theorem isi_int_bool (q : Q (.bl false) H) : rIsi K [.int i, .ty "bool"] H Q := ⟨_, _, .type "int", .type "bool", false, rfl, .ty _, .base (.int i), kit_ty (by decide +kernel), q⟩
theorem isi_tup (h : H a = some (.tup xs)) (q : Q (.bl true) H) : rIsi K [.ref a, .ty "tuple"] H Q := ⟨_, _, .type "tuple", .type "tuple", true, rfl, .ty _, .base (.tup h), kit_ty (by decide +kernel), q⟩
theorem isi_of {x : V} {t c : String} {b : Bool} (h : TyX K H x (.type t)) (hb : kitB t c = some b) (q : Q (.bl b) H) : rIsi K [x, .ty c] H Q := ⟨_, _, .type t, .type c, b, rfl, .ty _, h, kit_ty hb, q⟩
theorem isiT3_of {x : V} {tp : Addr} {t c1 c2 c3 : String} {b1 b2 b3 : Bool} (ht : H tp = some (.tup [.ty c1, .ty c2, .ty c3])) (h : TyX K H x (.type t)) (h1 : kitB t c1 = some b1) (h2 : kitB t c2 = some b2) (h3 : kitB t c3 = some b3) (q : Q (.bl (b1 || (b2 || b3))) H) : rIsiT K [x, .ref tp] H Q := by
  refine ⟨_, _, _, .type t, _, _, rfl, ht, .cons (.ty _) (.cons (.ty _) (.cons (.ty _) .nil)), h, ?_, q⟩
  refine kitAny_cons (kit_ty h1) (fun e => ?_) (fun e => by rw [e]; rfl)
  rw [e, Bool.false_or]
  refine kitAny_cons (kit_ty h2) (fun e => ?_) (fun e => by rw [e]; rfl)
  rw [e, Bool.false_or]
  refine kitAny_cons (kit_ty h3) (fun e => ?_) (fun e => e)
  rw [e]
  exact kitAny_nil
theorem catA_of {b : Addr} {ys : List V} (h : H a = some (.tup xs)) (h2 : H b = some (.tup ys)) (hz : xs.length + ys.length ≤ sizeLine) (q : ∀ p H', Same H H' → H' p = some (.tup (xs ++ ys)) → Q (.ref p) H') : rCatA K (.ref a) (.ref b) H Q :=
  ⟨_, _, _, _, rfl, rfl, .of h, .of h2, hz, fun e => q b H (Same.refl H) (by rw [h2, e]; rfl), fun _ e => q a H (Same.refl H) (by rw [h, e, List.append_nil]), fun _ _ p n => q p _ (same_upd n) upd_same⟩
theorem slA_of {lo hi : Option Int} (h : H a = some (.tup xs)) (q : ∀ p H', Same H H' → H' p = some (.tup (cutV xs lo hi)) → Q (.ref p) H') : rSlA K (.ref a) lo hi H Q := by
  refine ⟨_, _, rfl, .of h, fun e => q a H (Same.refl H) ?_, fun _ p n => q p _ (same_upd n) upd_same⟩
  rw [h]
  unfold cutV
  rw [e.1, e.2, List.drop_zero, Nat.sub_zero, List.take_length]
theorem all_of {bs : List Bool} (h : H a = some (.lst (bs.map V.bl))) (q : Q (.bl (bs.all id)) H) : rAll K [.ref a] H Q := ⟨_, _, rfl, .of h, q⟩
theorem lenL_of (h : H a = some (.lst xs)) (q : Q (.int xs.length) H) : rLenS K [.ref a] H Q := ⟨_, _, rfl, .inl (.of h), q⟩
end
section
variable {H : Hp} {Q : VK} {i j : Int} {g : Int → Int → V} {f : Int → V} {C : Int → Int → Prop}
theorem s_I0 : rI0 g (.int i) (.int j) H Q = Q (g i j) H := by
  unfold rI0
  refine propext ⟨fun ⟨a, b, h1, h2, q⟩ => ?_, fun q => ⟨i, j, rfl, rfl, q⟩⟩
  cases h1; cases h2; exact q
theorem s_I : rI C g (.int i) (.int j) H Q = (C i j ∧ Q (g i j) H) := by
  unfold rI
  refine propext ⟨fun ⟨a, b, h1, h2, c, q⟩ => ?_, fun ⟨c, q⟩ => ⟨i, j, rfl, rfl, c, q⟩⟩
  cases h1; cases h2; exact ⟨c, q⟩
theorem s_U : rU f (.int i) H Q = Q (f i) H := by
  unfold rU
  refine propext ⟨fun ⟨a, h1, q⟩ => ?_, fun q => ⟨i, rfl, q⟩⟩
  cases h1; exact q
theorem s_bl {b : Bool} {P : Bool → Prop} : (∃ k, V.bl b = V.bl k ∧ P k) = P b := by
  refine propext ⟨fun ⟨a, h1, q⟩ => ?_, fun q => ⟨b, rfl, q⟩⟩
  cases h1; exact q
theorem s_int {b : Int} {P : Int → Prop} : (∃ k, V.int b = V.int k ∧ P k) = P b := by
  refine propext ⟨fun ⟨a, h1, q⟩ => ?_, fun q => ⟨b, rfl, q⟩⟩
  cases h1; exact q
theorem s_some {b : V} {P : V → Prop} : (∃ v, some (some b) = some (some v) ∧ P v) = P b := by
  refine propext ⟨fun ⟨a, h1, q⟩ => ?_, fun q => ⟨b, rfl, q⟩⟩
  cases h1; exact q
theorem s_par2 {a b : V} {P : V → V → Prop} : (∃ v w, [a, b] = [v, w] ∧ P v w) = P a b := by
  refine propext ⟨fun ⟨v, w, h1, q⟩ => ?_, fun q => ⟨a, b, rfl, q⟩⟩
  cases h1; exact q
theorem s_par3 {a b c : V} {P : V → V → V → Prop} : (∃ u v w, [a, b, c] = [u, v, w] ∧ P u v w) = P a b c := by
  refine propext ⟨fun ⟨u, v, w, h1, q⟩ => ?_, fun q => ⟨a, b, c, rfl, q⟩⟩
  cases h1; exact q
theorem s_eqI : rEq (.int i) (.int j) H Q = Q (.bl (decide (i = j))) H := by
  unfold rEq
  have e : decide (V.int i = V.int j) = decide (i = j) := decide_eq_decide.mpr ⟨fun h => V.int.inj h, fun h => by rw [h]⟩
  rw [e]
  exact propext ⟨fun h => h.2, fun h => ⟨rfl, h⟩⟩
theorem s_neI : rNe (.int i) (.int j) H Q = Q (.bl (!decide (i = j))) H := by
  unfold rNe
  have e : decide (V.int i = V.int j) = decide (i = j) := decide_eq_decide.mpr ⟨fun h => V.int.inj h, fun h => by rw [h]⟩
  rw [e]
  exact propext ⟨fun h => h.2, fun h => ⟨rfl, h⟩⟩
end
/-! ### dicts with int keys -/
def rDIn (y x : V) (H : Hp) (Q : VK) : Prop := ∃ a o, x = .ref a ∧ DGet H a y o ∧ Q (.bl o.isSome) H
def rDNotIn (y x : V) (H : Hp) (Q : VK) : Prop := ∃ a o, x = .ref a ∧ DGet H a y o ∧ Q (.bl (!o.isSome)) H
def rDGet (x y : V) (H : Hp) (Q : VK) : Prop := ∃ a v, x = .ref a ∧ DGet H a y (some v) ∧ Q v H
def rDPut (x y v : V) (H : Hp) (R : Hp → Prop) : Prop := ∃ a H4, x = .ref a ∧ DPut H a y v H4 ∧ R H4
section
variable {td ty tv : TE} {σ : L2.St} {H : Hp} {Q : VK} {R : Hp → Prop} {D : Ends} {a : Addr} {kvs : List (Key × V)} {i : Int} {v : V}
theorem tDIn_eq : tDIn ty td σ H Q = ty σ H fun y H1 => td σ H1 fun x H2 => rDIn y x H2 Q := rfl
theorem tDNotIn_eq : tDNotIn ty td σ H Q = ty σ H fun y H1 => td σ H1 fun x H2 => rDNotIn y x H2 Q := rfl
theorem tDGet_eq : tDGet td ty σ H Q = td σ H fun x H1 => ty σ H1 fun y H2 => rDGet x y H2 Q := rfl
theorem sDPut_eq : sDPut td ty tv D σ H = tv σ H fun v H1 => td σ H1 fun x H2 => ty σ H2 fun y H3 => rDPut x y v H3 fun H4 => D.nx σ H4 := rfl
theorem din_of (h : H a = some (.dK kvs)) (q : Q (.bl (valV kvs (.inl i)).isSome) H) : rDIn (.int i) (.ref a) H Q := ⟨_, _, rfl, DGet.k (k := .inl i) h, q⟩
theorem dnot_of (h : H a = some (.dK kvs)) (q : Q (.bl (!(valV kvs (.inl i)).isSome)) H) : rDNotIn (.int i) (.ref a) H Q := ⟨_, _, rfl, DGet.k (k := .inl i) h, q⟩
theorem dget_of (h : H a = some (.dK kvs)) (hv : valV kvs (.inl i) = some v) (q : Q v H) : rDGet (.ref a) (.int i) H Q := ⟨_, _, rfl, by rw [← hv]; exact DGet.k (k := .inl i) h, q⟩
theorem dput_of (h : H a = some (.dK kvs)) (hz : kvs.length < sizeLine) (q : R (upd H a (.dK (putK kvs (.inl i) v)))) : rDPut (.ref a) (.int i) v H R := ⟨_, _, rfl, DPut.k (k := .inl i) h hz, q⟩
end
theorem filt_len {α : Type} [DecidableEq α] (a : α) : ∀ l : List α, l.Nodup → l.length ≤ (l.filter fun k => decide (k ≠ a)).length + 1
  | [], _ => Nat.zero_le _
  | x :: l, h => by
    obtain ⟨h1, h2⟩ := List.nodup_cons.mp h
    by_cases e : x = a
    · subst e
      have e2 : l.filter (fun k => decide (k ≠ x)) = l := List.filter_eq_self.mpr fun k hk => decide_eq_true fun z => h1 (z ▸ hk)
      rw [List.filter_cons, if_neg (by simp), e2, List.length_cons]
      exact Nat.le_refl _
    · have ih := filt_len a l h2
      rw [List.filter_cons, if_pos (by simp [e]), List.length_cons, List.length_cons]
      omega
theorem nodup_le : ∀ (n : Nat) (l : List Key), l.Nodup → (∀ k ∈ l, ∃ r : Nat, r < n ∧ k = Sum.inl (r : Int)) → l.length ≤ n
  | 0, [], _, _ => Nat.le_refl _
  | 0, k :: l, _, h => by
    obtain ⟨r, hr, _⟩ := h k List.mem_cons_self
    omega
  | n + 1, l, hn, h => by
    refine Nat.le_trans (filt_len (Sum.inl (n : Int) : Key) l hn) (Nat.succ_le_succ (nodup_le n _ (hn.filter _) fun k hk => ?_))
    obtain ⟨h2, h3⟩ := List.mem_filter.mp hk
    obtain ⟨r, hr, e⟩ := h k h2
    refine ⟨r, ?_, e⟩
    rcases Nat.lt_or_ge r n with g | g
    · exact g
    · have e2 : r = n := by omega
      rw [e2] at e
      exact absurd e (of_decide_eq_true h3)
/-! ### == of tuples of ints -/
theorem dpAll_ints {K : PySem.W.Frag} {H : Hp} : ∀ ns : List Int, DpAll K H (ns.map V.int) (ns.map PyData.int)
  | [] => .nil
  | x :: r => .cons (.int x) (dpAll_ints r)
theorem canLay_ints : ∀ ns : List Int, PyData.canLayAll0 (ns.map PyData.int) = true
  | [] => rfl
  | x :: r => by
    rw [List.map_cons, PyData.canLayAll0, canLay_ints r, PyData.canLay0]
    rfl
theorem depth_ints : ∀ ns : List Int, PyData.depthAll (ns.map PyData.int) = 0
  | [] => rfl
  | x :: r => by
    rw [List.map_cons, PyData.depthAll, depth_ints r, PyData.depth]
    rfl
theorem shaped_tup (ns : List Int) : SeqAt.shaped (.tuple (ns.map PyData.int)) = true := by
  unfold SeqAt.shaped
  rw [PyData.canLay0, canLay_ints, PyData.depth, depth_ints]
  rfl
theorem eqT_of {K : PySem.W.Frag} {H : Hp} {Q : VK} {a b : Addr} {ns ms : List Int} (h : H a = some (.tup (ns.map V.int))) (h2 : H b = some (.tup (ms.map V.int))) (q : Q (.bl (decide (ns = ms))) H) : rEqD K (.ref a) (.ref b) H Q :=
  ⟨_, _, .tup (.of h) (dpAll_ints ns), .tup (.of h2) (dpAll_ints ms), shaped_tup ns, shaped_tup ms, by
    rw [PyData.eqv, PySem.W.ked_eqvAll]
    exact q⟩
theorem neT_of {K : PySem.W.Frag} {H : Hp} {Q : VK} {a b : Addr} {ns ms : List Int} (h : H a = some (.tup (ns.map V.int))) (h2 : H b = some (.tup (ms.map V.int))) (q : Q (.bl (!decide (ns = ms))) H) : rNeD K (.ref a) (.ref b) H Q :=
  ⟨_, _, .tup (.of h) (dpAll_ints ns), .tup (.of h2) (dpAll_ints ms), shaped_tup ns, shaped_tup ms, by
    rw [PyData.eqv, PySem.W.ked_eqvAll]
    exact q⟩
/-! ### == of lists -/
theorem shaped_of {ds : List PyData} (h1 : PyData.canLayAll0 ds = true) (h2 : PyData.depthAll ds ≤ 60) : SeqAt.shaped (.list ds) = true := by
  unfold SeqAt.shaped
  rw [PyData.canLay0, h1, PyData.depth, Bool.true_and]
  exact decide_eq_true (by omega)
theorem eqLnil_of {K : PySem.W.Frag} {H : Hp} {Q : VK} {a b : Addr} {xs : List V} {ds : List PyData} (h : H a = some (.lst xs)) (hd : DpAll K H xs ds) (h1 : PyData.canLayAll0 ds = true) (h2 : PyData.depthAll ds ≤ 60) (hb : H b = some (.lst [])) (q : Q (.bl (decide (xs = []))) H) : rEqD K (.ref a) (.ref b) H Q :=
  ⟨_, _, .lst (.of h) hd, .lst (.of hb) .nil, shaped_of h1 h2, rfl, by
    rw [PyData.eqv]
    cases hd with
    | nil => exact q
    | cons _ _ => exact q⟩
theorem neLnil_of {K : PySem.W.Frag} {H : Hp} {Q : VK} {a b : Addr} {xs : List V} {ds : List PyData} (h : H a = some (.lst xs)) (hd : DpAll K H xs ds) (h1 : PyData.canLayAll0 ds = true) (h2 : PyData.depthAll ds ≤ 60) (hb : H b = some (.lst [])) (q : Q (.bl (!decide (xs = []))) H) : rNeD K (.ref a) (.ref b) H Q :=
  ⟨_, _, .lst (.of h) hd, .lst (.of hb) .nil, shaped_of h1 h2, rfl, by
    rw [PyData.eqv]
    cases hd with
    | nil => exact q
    | cons _ _ => exact q⟩
/-! ### a dict under a lock; sorted of a dict -/
def rKeysI (x : V) (H : Hp) (R : It → Hp → Prop) : Prop := ∃ d o, x = .ref d ∧ ((∃ kvs, H d = some (.frz o (.dK kvs)) ∧ R (Itk d o kvs) H) ∨ ∃ kvs, H d = some (.frz o (.dT kvs)) ∧ R (Itkt d o kvs) H)
theorem iKeys_eq {te : TE} {σ : L2.St} {H : Hp} {R : It → Hp → Prop} : iKeys te σ H R = te σ H fun x H1 => rKeysI x H1 R := rfl
theorem keys_of {H : Hp} {R : It → Hp → Prop} {d : Addr} {o : Obj} {kvs : List (Key × V)} (h : H d = some (.frz o (.dK kvs))) (q : R (Itk d o kvs) H) : rKeysI (.ref d) H R := ⟨_, _, rfl, .inl ⟨_, h, q⟩⟩
theorem dgetF_of {H : Hp} {Q : VK} {a : Addr} {o : Obj} {kvs : List (Key × V)} {i : Int} {v : V} (h : H a = some (.frz o (.dK kvs))) (hv : valV kvs (.inl i) = some v) (q : Q v H) : rDGet (.ref a) (.int i) H Q := ⟨_, _, rfl, .inl ⟨kvs, .inl i, .inr ⟨o, h⟩, rfl, hv.symm⟩, q⟩
theorem lockE_of {t : TE} {σ : L2.St} {H : Hp} {Q : VK} {d : Addr} {kvs : List (Key × V)} (h : H d = some (.dK kvs)) (q : ∀ od, t σ (upd H d (.frz od (.dK kvs))) fun v H' => H' d = some (.frz od (.dK kvs)) ∧ Q v (upd H' d (.dK kvs))) : tLockE t σ H Q := ⟨d, _, h, True.intro, q⟩
def rSortedD (vs : List V) (H : Hp) (Q : VK) : Prop := ∃ (a : Addr) (kvs : List (Key × V)) (ks : List Int), vs = [.ref a] ∧ Rd H a (.dK kvs) ∧ kvs.map (·.1) = ks.map Sum.inl ∧
  ∀ (ys : List Int) (p : Addr), ys.Perm ks → ys.Pairwise (· ≤ ·) → H p = none → Q (.ref p) (upd H p (.lst (ys.map V.int)))
/-- the ints that a dict's keys are, collected -/
theorem keys_ints {prog : Program} {w : World} {ks : List Int} {vs : List (Key × Value)} (hk : vs.map (·.1) = ks.map Sum.inl) {out : List Value} (hl : out.length = vs.length)
    (h : ∀ (j : Nat) (v : Value), out[j]? = some v → ∃ k x, vs[j]? = some (k, x) ∧ (mixKind prog w).is k v = true) : IntsAre out ks := by
  have hl2 : out.length = ks.length := by
    have := congrArg List.length hk
    rw [List.length_map, List.length_map] at this
    omega
  refine ints_each hl2 fun j v e => ?_
  obtain ⟨k, x, e1, e2⟩ := h j v e
  have e3 : (ks.map (Sum.inl : Int → Key))[j]? = some k := by
    rw [← hk, List.getElem?_map, e1]
    rfl
  rw [List.getElem?_map] at e3
  obtain ⟨y, hy, e4⟩ := Option.map_eq_some_iff.mp e3
  subst e4
  rcases keyIs_shape (show keyIs (Sum.inl y) v = true from e2) with ⟨i, t, ek, ev⟩ | ⟨z, t, ek, ev⟩
  · cases ek
    exact ⟨y, t, hy, ev⟩
  · cases ek
theorem cr_sortedD {X : Cx} (hcalm : X.calm = true) : CallR X (.builtin "sorted") rSortedD := by
  rintro pins s σ H vs us Q I r ⟨a, kvs, ks, rfl, hd, hks, q⟩
  rw [Vals.ref1 r]
  obtain ⟨hz, ls, ws, rel, dd⟩ := dk_rd I.hok hd
  obtain ⟨ep, hat⟩ := dd.dictAt
  have hws : ws.map (·.1) = ks.map Sum.inl := rel.keys.symm.trans hks
  have hlen : ws.length = kvs.length := by
    have := congrArg List.length rel.keys
    rw [List.length_map, List.length_map] at this
    exact this.symm
  refine Calls.call_function_entry PyProof.Rows.kind_sorted PyProof.Rows.plain_sorted PyProof.Rows.entry_sorted (PyProof.Rows.args_sorted1 _) ?_
  unfold Builtin.«sorted»
  refine wpAny_bind (m := checkCount "sorted" 1 1 _) (wpAny_pure ?_)
  refine wpAny_bind (PySem.W.kdu_collect (A := X.A.in1) (PySem.W.kdl_dict (knd := mixKind X.prog X.w) (kvs := ws) (ep := ep) ls) (I.ok.hd hcalm) hat (by rw [hlen]; exact hz) fun g tk acc hk hacc => ?_)
  have hsz : acc.toList.length = ws.length := by rw [Array.length_toList, hacc.1]
  have hI : IntsAre acc.toList ks := keys_ints (prog := X.prog) (w := X.w) hws hsz fun j v e => hacc.2 j v (by rw [← Array.getElem?_toList]; exact e)
  have hac : acc.toList.length ≤ sizeLine := by rw [hsz, hlen]; exact hz
  have I1 : Inv X pins σ H { s with heap := g, toks := tk } := I.kept hk
  refine wpAny_bind (wpAny_newList ?_ hac)
  have ho : (g.push (seqObj "list" acc.toList.toArray 0)).get? g.objs.size = some (seqObj "list" acc.toList.toArray 0) := Heap.get?_push_size _ rfl
  show wpAny _ _ _ _ _ { s with heap := g.push (seqObj "list" acc.toList.toArray 0), toks := tk }
  refine wpAny_bind (wpAny_holding (wpAny_call_entry PyProof.Rows.slot_list_sort ⟨_, ho, rfl⟩ PyProof.Rows.entry_list_sort
    (SrtO.list_sort_ord (s := { s with heap := g.push (seqObj "list" acc.toList.toArray 0), toks := tk }) SrtO.swo_int ho hac (fun h2 => SrtO.ints_sortable hI h2) fun out o1 o2 => ⟨_, rfl, ?_⟩) (PyProof.Rows.args_list_sort _)))
  obtain ⟨k1, k2, k3⟩ := SrtO.ints_out hI o1 o2
  obtain ⟨e', he'⟩ := PyProof.Rows.sortedHeap_at (vs := acc.toList) (out := out.toArray) ho
  have hol : ((out.map SrtO.iv).map V.int).length ≤ sizeLine := by
    rw [List.length_map, k2.length_eq]
    have := congrArg List.length hws
    rw [List.length_map, List.length_map] at this
    omega
  refine wpAny_pure ⟨_, rfl, .ref g.objs.size, upd H g.objs.size (.lst ((out.map SrtO.iv).map V.int)), I1.laid (t' := tk) (fun b u e => ?_) (Nat.le_refl _) ⟨hol, out, e', vals_of_ints k1, he'⟩, rfl, q _ _ k2 k3 (I1.hok.fresh (Nat.le_refl _))⟩
  have hb : b < g.objs.size := Heap.lt_size e
  rw [PyProof.Rows.sortedHeap_old (Nat.ne_of_lt hb) (by rw [size_push']; exact Nat.lt_succ_of_lt hb)]
  exact Heap.get?_push_of_some _ e
theorem sortedD_of {H : Hp} {Q : VK} {a : Addr} {kvs : List (Key × V)} {ks : List Int} (h : H a = some (.dK kvs)) (hk : kvs.map (·.1) = ks.map Sum.inl) (hs : ks.Pairwise (· ≤ ·)) (q : ∀ p, H p = none → Q (.ref p) (upd H p (.lst (ks.map V.int)))) : rSortedD [.ref a] H Q :=
  ⟨_, _, _, rfl, .inl h, hk, fun ys p h1 h2 h3 => by
    have e := PySem.W.ksm_same h1 h2 hs
    subst e
    exact q p h3⟩
theorem minL_of {K : PySem.W.Frag} {H : Hp} {Q : VK} {a : Addr} {ns : List Int} (h : H a = some (.lst (ns.map V.int))) (h0 : 0 < ns.length) (q : ∀ m, m ∈ ns → (∀ y, y ∈ ns → m ≤ y) → Q (.int m) H) : rMin K [.ref a] H Q := ⟨_, _, rfl, .of h, h0, q⟩
/-! ### what is walked -/
def rEnumI (K : PySem.W.Frag) (vs : List V) (H : Hp) (R : It → Hp → Prop) : Prop := ∃ a xs, vs = [.ref a] ∧ SqL K H a xs ∧ R (Ite K a) H
def rListI (K : PySem.W.Frag) (x : V) (H : Hp) (R : It → Hp → Prop) : Prop := ∃ a, x = .ref a ∧ (∃ xs, SqL K H a xs) ∧ R (Itl K a) H
def rTupI (K : PySem.W.Frag) (x : V) (H : Hp) (R : It → Hp → Prop) : Prop := ∃ a, x = .ref a ∧ (∃ xs, SqT K H a xs) ∧ R (Itt K a) H
def rRng1 (vs : List V) (H : Hp) (R : It → Hp → Prop) : Prop := ∃ j : Int, vs = [.int j] ∧ -(2 ^ 62) ≤ j ∧ j < 2 ^ 62 ∧ R (Itr 0 j.toNat) H
def rRng2 (vs : List V) (H : Hp) (R : It → Hp → Prop) : Prop := ∃ i j : Int, vs = [.int i, .int j] ∧ (-(2 ^ 62) ≤ i ∧ i < 2 ^ 62 ∧ -(2 ^ 62) ≤ j ∧ j < 2 ^ 62) ∧ R (Itr i (j - i).toNat) H
def rZipI (K : PySem.W.Frag) (vs : List V) (H : Hp) (R : It → Hp → Prop) : Prop := ∃ a b xs ys, vs = [.ref a, .ref b] ∧ ((SqL K H a xs ∧ SqL K H b ys ∧ R (Itz K a b) H) ∨ (SqT K H a xs ∧ SqT K H b ys ∧ R (ItzT K a b) H))
section
variable {K : PySem.W.Frag} {ta : TA} {te : TE} {σ : L2.St} {H : Hp} {R : It → Hp → Prop} {a b : Addr} {xs ys : List V} {i j : Int}
theorem iEnum_eq : iEnum K ta σ H R = ta σ H fun vs H1 => rEnumI K vs H1 R := rfl
theorem iList_eq : iList K te σ H R = te σ H fun x H1 => rListI K x H1 R := rfl
theorem iTup_eq : iTup K te σ H R = te σ H fun x H1 => rTupI K x H1 R := rfl
theorem iRng1_eq : iRng1 ta σ H R = ta σ H fun vs H1 => rRng1 vs H1 R := rfl
theorem iRng2_eq : iRng2 ta σ H R = ta σ H fun vs H1 => rRng2 vs H1 R := rfl
theorem iZipA_eq : iZipA K ta σ H R = ta σ H fun vs H1 => rZipI K vs H1 R := rfl
theorem enum_of (h : SqL K H a xs) (q : R (Ite K a) H) : rEnumI K [.ref a] H R := ⟨_, _, rfl, h, q⟩
theorem list_of (h : SqL K H a xs) (q : R (Itl K a) H) : rListI K (.ref a) H R := ⟨_, rfl, ⟨_, h⟩, q⟩
theorem tup_of (h : SqT K H a xs) (q : R (Itt K a) H) : rTupI K (.ref a) H R := ⟨_, rfl, ⟨_, h⟩, q⟩
theorem rng1_of (h1 : -(2 ^ 62) ≤ j) (h2 : j < 2 ^ 62) (q : R (Itr 0 j.toNat) H) : rRng1 [.int j] H R := ⟨_, rfl, h1, h2, q⟩
theorem rng2_of (h1 : -(2 ^ 62) ≤ i ∧ i < 2 ^ 62 ∧ -(2 ^ 62) ≤ j ∧ j < 2 ^ 62) (q : R (Itr i (j - i).toNat) H) : rRng2 [.int i, .int j] H R := ⟨_, _, rfl, h1, q⟩
theorem zipL_of (h : SqL K H a xs) (h2 : SqL K H b ys) (q : R (Itz K a b) H) : rZipI K [.ref a, .ref b] H R := ⟨_, _, _, _, rfl, .inl ⟨h, h2, q⟩⟩
theorem zipT_of (h : SqT K H a xs) (h2 : SqT K H b ys) (q : R (ItzT K a b) H) : rZipI K [.ref a, .ref b] H R := ⟨_, _, _, _, rfl, .inr ⟨h, h2, q⟩⟩
end
/-! ### loops and comprehensions -/
def WhG (W : Nat → L2.St → Hp → Prop) (m : Nat) (tb : TS) (D : Ends) (σ : L2.St) (H : Hp) : Prop := ∃ N : L2.St → Hp → Prop, (∀ σ' H', N σ' H' → ∃ m', m' < m ∧ W m' σ' H') ∧ tb { D with nx := N, ct := N, bk := D.nx } σ H
theorem whG_of {W : Nat → L2.St → Hp → Prop} {m : Nat} {tb : TS} {D : Ends} {σ : L2.St} {H : Hp} (h : tb { D with nx := fun σ' H' => ∃ m', m' < m ∧ W m' σ' H', ct := fun σ' H' => ∃ m', m' < m ∧ W m' σ' H', bk := D.nx } σ H) : WhG W m tb D σ H := ⟨_, fun _ _ h => h, h⟩
def LcB (J : It) (g : TG) (tt : TT) (te : TE) (vs : List Nat) (σ : L2.St) (H1 : Hp) (Q : VK) : Prop := ∀ D, H1 D = none → ∃ W : Nat → Nat → Hp → Prop, (∃ m, W 0 m (upd H1 D (.lst []))) ∧ ∀ i m H, W i m H →
  (J.stop i H ∧ Q (.ref D) H) ∨ (J.go i H ∧ ∃ Nx : Hp → Prop, (∀ H', Nx H' → ∃ m', m' < m ∧ W (i + 1) m' H') ∧ ∀ x H', J.yld i H x H' → g x (wipe σ vs) H' fun σ2 H2 => wipe σ2 vs = wipe σ vs ∧ tt σ2 H2 fun b H3 =>
    if b = true then te σ2 H3 fun y H4 => ∃ acc, H4 D = some (.lst acc) ∧ acc.length < sizeLine ∧ Nx (upd H4 D (.lst (acc ++ [y]))) else Nx H3)
def ForB (J : It) (g : TG) (tb : TS) (D : Ends) (H1 : Hp) (σ0 : L2.St) : Prop := ∃ W : Nat → Nat → L2.St → Hp → Prop, (∃ m, W 0 m σ0 H1) ∧ ∀ i m σ H, W i m σ H →
  (J.stop i H ∧ D.nx σ H) ∨ (J.go i H ∧ ∃ N : L2.St → Hp → Prop, (∀ σ' H', N σ' H' → ∃ m', m' < m ∧ W (i + 1) m' σ' H') ∧ ∀ x H', J.yld i H x H' → g x σ H' fun σ2 H2 => tb { D with nx := N, ct := N, bk := D.nx } σ2 H2)
section
variable {J : It} {n : Nat} {G : Hp → Prop} {Y : Nat → Hp → V → Hp → Prop} {wi : TI} {g : TG} {tt : TT} {te : TE} {tb : TS} {vs : List Nat} {σ : L2.St} {H : Hp} {Q : VK} {D : Ends}
theorem tLc_eq : tLc wi g tt te vs σ H Q = wi σ H fun J H1 => LcB J g tt te vs σ H1 Q := rfl
theorem tFor_eq : tFor wi g tb D σ H = wi σ H fun J H1 => ForB J g tb D H1 σ := rfl
theorem lcB_of (w : Walk J n G Y) (h : ∀ D, H D = none → ∃ Pv : Nat → Hp → Prop, Pv 0 (upd H D (.lst [])) ∧ (∀ i H, i ≤ n → Pv i H → G H) ∧ (∀ i x H H', i < n → Pv i H → Y i H x H' → g x (wipe σ vs) H' fun σ2 H2 => wipe σ2 vs = wipe σ vs ∧ tt σ2 H2 fun b H3 =>
      if b = true then te σ2 H3 fun y H4 => ∃ acc, H4 D = some (.lst acc) ∧ acc.length < sizeLine ∧ Pv (i + 1) (upd H4 D (.lst (acc ++ [y]))) else Pv (i + 1) H3) ∧ ∀ H, Pv n H → Q (.ref D) H) : LcB J g tt te vs σ H Q := fun D hD => by
  obtain ⟨Pv, h0, hG, hs, hd⟩ := h D hD
  exact lc_it w Pv h0 hG hs hd
theorem forB_of (w : Walk J n G Y) (Pv : Nat → L2.St → Hp → Prop) (h0 : Pv 0 σ H) (hG : ∀ i σ H, i ≤ n → Pv i σ H → G H)
    (hs : ∀ i x σ H H', i < n → Pv i σ H → Y i H x H' → g x σ H' fun σ2 H2 => tb { D with nx := Pv (i + 1), ct := Pv (i + 1), bk := D.nx } σ2 H2) (hd : ∀ σ H, Pv n σ H → D.nx σ H) : ForB J g tb D H σ := for_it w Pv h0 hG hs hd
/-- a while, by a word with a number that falls -/
theorem while_of {c : TT} (W : Nat → L2.St → Hp → Prop) (m0 : Nat) (h0 : W m0 σ H) (hs : ∀ m σ H, W m σ H → c σ H fun b H1 => if b = true then WhG W m tb D σ H1 else D.nx σ H1) : tWhile c tb D σ H := ⟨W, ⟨m0, h0⟩, hs⟩
end
theorem walk_zipT {K : PySem.W.Frag} {a b : Addr} {xs ys : List V} {n : Nat} (hn : n = min xs.length ys.length) : Walk (ItzT K a b) n (fun H => SqT K H a xs ∧ SqT K H b ys) (YPair (fun i => xs[i]?) (fun i => ys[i]?)) := by
  subst hn
  refine ⟨fun i _ hi q => ?_, fun _ q => ⟨xs, ys, q.1, q.2, by omega⟩, fun i H v H' _ q y => ?_⟩
  · have h1 : i < xs.length := by omega
    have h2 : i < ys.length := by omega
    exact ⟨xs, ys, xs[i], ys[i], q.1, q.2, by simp [h1], by simp [h2]⟩
  · obtain ⟨T, x, z, h1, h2, h3, h4, h5⟩ := y
    exact ⟨T, x, z, h1, h2, h3, h4 xs q.1, h5 ys q.2⟩
theorem same_of {H H1 : Hp} {p : Addr} {o : HO} (e : upd H p o = H1) (n : H p = none) : Same H H1 := by subst e; exact same_upd n
theorem but_of {H H1 : Hp} {p : Addr} {o : HO} (e : upd H p o = H1) : But p H H1 := by subst e; exact But.upd
theorem there {H H1 : Hp} {p : Addr} {o : HO} (e : upd H p o = H1) : H1 p = some o := by subst e; exact upd_same
theorem cut_to (xs : List V) {m : Int} (h : 0 ≤ m) : cutV xs none (some m) = xs.take m.toNat := by
  have e := cut_full xs m.toNat
  rw [Int.toNat_of_nonneg h] at e
  exact e
theorem cut_of (xs : List V) {m : Int} (h : 0 ≤ m) : cutV xs (some m) none = xs.drop m.toNat := by
  have e := cut_from xs m.toNat
  rw [Int.toNat_of_nonneg h] at e
  exact e
theorem cut_in (xs : List V) {i j : Int} (h : 0 ≤ i) (h2 : 0 ≤ j) : cutV xs (some i) (some j) = (xs.drop i.toNat).take (j.toNat - i.toNat) := by
  have e := cut_mid xs i.toNat j.toNat
  rw [Int.toNat_of_nonneg h, Int.toNat_of_nonneg h2] at e
  exact e
/-- what was not tracked may change -/
theorem same_mut {H H1 : Hp} {p : Addr} {o : HO} (e : Same H H1) (h : H p = none) : Same H (upd H1 p o) := fun b x hb => by
  rw [upd_ne (ne_of_none hb h)]
  exact e b x hb
theorem fresh_back {H H1 : Hp} {p : Addr} (e : Same H H1) (h : H1 p = none) : H p = none := e.free h
theorem sz_of {n : Nat} (h : n ≤ 100000) : n ≤ sizeLine := Nat.le_trans h (by decide)
theorem sz_lt {n : Nat} (h : n < 100000) : n < sizeLine := Nat.lt_of_lt_of_le h (by decide)
theorem ty_tup {K : PySem.W.Frag} {H : Hp} {a : Addr} {xs : List V} (h : SqT K H a xs) : TyX K H (.ref a) (.type "tuple") := by
  rcases h with (h | ⟨o, h⟩) | ⟨o, its, n, h, hc, _⟩
  · exact .base (.tup h)
  · exact .fTuple h
  · exact .kTuple h hc
theorem Same.sqt {K : PySem.W.Frag} {H H' : Hp} {a : Addr} {xs : List V} (e : Same H H') (h : SqT K H a xs) : SqT K H' a xs := by
  rcases h with (h | ⟨o, h⟩) | h
  · exact .inl (.inl (e _ _ h))
  · exact .inl (.inr ⟨o, e _ _ h⟩)
  · exact .inr h
end Ls
namespace Ls
open PySem PySem.Spec PyProof.Rows L2 RZ
def topS (i : Nat) : Stmt := PySem.Challenge.pw_linesync_k12_whole_widths.main.body.getD i (.Pass ⟨0, 0, 0, 0⟩)
end Ls
namespace Ls
open PySem PySem.Spec PyProof.Rows L2 RZ
local macro_rules | `(tactic| walk_at "cond") => `(tactic| first
  | exact (by decide)
  | exact (Nat.le_of_ble_eq_true rfl)
  | exact ⟨by decide, by decide, by decide⟩
  | exact ⟨by decide, by decide⟩
  | (with_reducible assumption)
  | exact Or.inl ⟨by omega, by omega⟩
  | exact Or.inr ⟨by omega, by omega⟩
  | exact ⟨by omega, by omega, by omega⟩
  | exact wide_div (b := 61) (by omega) (by omega) (by decide) (by decide)
  | (with_reducible omega))
local macro_rules | `(tactic| walk_at "at") => `(tactic| first | assumption | exact upd_same)
local macro_rules | `(tactic| walk_at "sim") => `(tactic| simp only [tSeq, tAsg, gName, tOp, tC, tVar, tRet, tRetN, tIfS, tTest, tB, tNext, tDrop, tNever, tCons, tNil, tTup, tLst, tUn, tAnd, tOr, tNot, tAndV, tOrV, tNotV, tIf, tCB, tCall, gSub, gTup, gCons, gNil, tPar, tPar3,
  tSl, tPart, tLc_eq, tFor_eq, tDIn_eq, tDNotIn_eq, tDGet_eq, sDPut_eq, tDNewK, C8.tCut, tYes, iEnum_eq, iList_eq, iTup_eq, iRng1_eq, iRng2_eq, iZipA_eq, wipe, tBM, List.map_cons, List.map_nil, List.length_map,  tNoPart, tChain, List.getElem?_cons_zero, List.getElem?_cons_succ, List.set_cons_zero, List.set_cons_succ, List.append_nil,
  s_I0, s_I, s_U, s_bl, s_int, s_some, s_eqI, s_neI, s_par2, s_par3, s_abs, s_max2, s_min2, s_cons, true_and, decide_eq_true_eq, Bool.not_eq_true', decide_eq_false_iff_not, if_true, Bool.true_eq_false, reduceCtorEq, reduceIte, Bool.false_eq_true, if_false, ite_true, ite_false])
local macro_rules | `(tactic| walk_at "go1") => `(tactic| first
  | ((with_reducible refine' And.intro ?k1 ?_); (case k1 => walk_at "cond"))
  | ((with_reducible refine' ixL_of ?k1 ?k2 ?_); (case k1 => walk_at "at"); (case k2 => rfl))
  | ((with_reducible refine' ixT_of ?k1 ?k2 ?_); (case k1 => walk_at "at"); (case k2 => rfl))
  | ((with_reducible refine' setL_of ?k1 ?k2 ?_); (case k1 => walk_at "at"); (case k2 => rfl))
  | ((with_reducible refine' lenT_of ?k1 ?_); (case k1 => walk_at "at"))
  | ((with_reducible refine' lenL_of ?k1 ?_); (case k1 => walk_at "at"))
  | (with_reducible refine isi_int ?_)
  | (with_reducible refine isi_int_bool ?_)
  | ((with_reducible refine' isi_tup ?k1 ?_); (case k1 => walk_at "at"))
  | walk_at "sim")
local macro_rules | `(tactic| walk_at "go") => `(tactic| repeat (walk_at "go1"))
section
variable {P : Program} {w : World} {K : PySem.W.Frag} {mg : Str → Option Value} {base : Heap}
/-! ### a source of draws -/
abbrev st_law_well : Stmt := topS 27
abbrev N_law_well : List Str := ["_law_cell", "_law_turn"]
theorem sc_law_well : FnScope N_law_well ["_law_cell", "_law_turn"] (C8.fnScope st_law_well) := C8.fnScope_by (by decide +kernel)
theorem start_law_well {v0 v1 : V} : L2.start N_law_well [v0, v1] = [some v0, some v1] := rfl
def spWell : Sp := fun vs H Q _ => ∃ c t : Int, vs = [.int c, .int t] ∧ ∀ (H' : Hp) (p : Addr) (x y : Int), Same H H' → H p = none → H' p = some (.lst [.int x, .int y, .int t]) → Q (.ref p) H'
theorem ok_law_well (D : DefAt K mg "_law_well" st_law_well ["_law_cell", "_law_turn"]) : C8.Cal P w K mg base 1 "_law_well" spWell [] := by
  refine cal_of D sc_law_well (fun vs H Q E h => ?_) (fun f cdv A outer s H vs Q E hr h => ?_)
  · obtain ⟨c, t, rfl, _⟩ := h
    rfl
  · obtain ⟨c, t, rfl, q⟩ := h
    refine ⟨_, (pss_cons (ps_if (pt_cmpR op_ge (pv 0) (pe_op op_pow pe_int pe_int) (nomark _)) (pss_one (ps_ret (pe_lst (pa_cons (pe_op op_sub (pv 0) (pe_op op_pow pe_int pe_int)) (pa_cons (pe_op op_mod (pv 0) pe_int) (pa_cons (pv 1) pa_nil)))))) pss_nil)
  (pss_one (ps_ret (pe_lst (pa_cons pe_int (pa_cons (pe_op op_mod (pv 0) pe_int) (pa_cons (pv 1) pa_nil))))))), ?_⟩
    rw [start_law_well]
    walk_at "go"
    refine ite2 (fun e => ?_) (fun e => ?_)
    · walk_at "go"
      exact fun p hp => q _ p _ _ (same_upd hp) hp upd_same
    · walk_at "go"
      exact fun p hp => q _ p _ _ (same_upd hp) hp upd_same
/-- what a source of draws holds: its counter at most m -/
def Bag (H : Hp) (a : Addr) (m : Int) : Prop := ∃ x y z : Int, H a = some (.lst [.int x, .int y, .int z]) ∧ 0 ≤ z ∧ z ≤ m
theorem Bag.mono {H : Hp} {a : Addr} {m n : Int} (h : Bag H a m) (e : m ≤ n) : Bag H a n := by
  obtain ⟨x, y, z, h1, h2, h3⟩ := h
  exact ⟨x, y, z, h1, h2, by omega⟩
theorem Bag.to {H H' : Hp} {a : Addr} {m : Int} (h : Bag H a m) (e : Same H H') : Bag H' a m := by
  obtain ⟨x, y, z, h1, h2, h3⟩ := h
  exact ⟨x, y, z, e _ _ h1, h2, h3⟩
abbrev st_law_take : Stmt := topS 28
abbrev N_law_take : List Str := ["_law_bag", "_law_many", "_law_found", "_law_p", "_law_n"]
theorem sc_law_take : FnScope N_law_take ["_law_bag", "_law_many"] (C8.fnScope st_law_take) := C8.fnScope_by (by decide +kernel)
theorem start_law_take {v0 v1 : V} : L2.start N_law_take [v0, v1] = [some v0, some v1, none, none, none] := rfl
def spTake : Sp := fun vs H Q _ => ∃ (a : Addr) (n m : Int), vs = [.ref a, .int n] ∧ Bag H a m ∧ m < 2 ^ 60 ∧ 0 < n ∧ n.natAbs < 2 ^ 200 ∧ ∀ (H' : Hp) (r : Int), But a H H' → Bag H' a (m + 1) → 0 ≤ r → r < n → Q (.int r) H'
theorem ok_law_take (D : DefAt K mg "_law_take" st_law_take ["_law_bag", "_law_many"]) : C8.Cal P w K mg base 1 "_law_take" spTake [] := by
  refine cal_of D sc_law_take (fun vs H Q E h => ?_) (fun f cdv A outer s H vs Q E hr h => ?_)
  · obtain ⟨a, n, m, rfl, _⟩ := h
    rfl
  · obtain ⟨a, n, m, rfl, ⟨x, y, z, ha, hz0, hzm⟩, hm, hn0, hn, q⟩ := h
    refine ⟨_, (pss_cons (ps_if (pt_cmpR op_gt (pe_ix ix_list (pv 0) pe_int (fun _ _ => rfl)) pe_int (nomark _)) (pss_cons (ps_set (i := 2) sc_law_take.nd rfl (Or.inl rfl) (pe_op op_mod (pe_ix ix_list (pv 0) pe_int (fun _ _ => rfl)) (pv 1)))
  (pss_cons (ps_asg (pe_op op_fdivW (pe_ix ix_list (pv 0) pe_int (fun _ _ => rfl)) (pv 1)) (pg_sub (pv 0) pe_int set_list))
  (pss_one (ps_ret (pv 2))))) pss_nil)
  (pss_cons (ps_asg (pe_op op_add (pe_ix ix_list (pv 0) pe_int (fun _ _ => rfl)) pe_int) (pg_sub (pv 0) pe_int set_list))
  (pss_cons (ps_set (i := 3) sc_law_take.nd rfl (Or.inl rfl) pe_int)
  (pss_cons (ps_set (i := 4) sc_law_take.nd rfl (Or.inl rfl) (pe_op op_mod (pe_op op_add (pe_ix ix_list (pv 0) pe_int (fun _ _ => rfl)) (pe_op op_mul pe_int (pe_ix ix_list (pv 0) pe_int (fun _ _ => rfl)))) (pv 3)))
  (pss_cons (ps_set (i := 4) sc_law_take.nd rfl (Or.inl rfl) (pe_op op_mod (pe_op op_add (pe_op op_add (pe_op op_mul (pv 4) (pv 4)) (pe_op op_mul pe_int (pe_op op_pow (pe_ix ix_list (pv 0) pe_int (fun _ _ => rfl)) pe_int))) pe_int) (pv 3)))
  (pss_one (ps_ret (pe_op op_mod (pe_op op_fdivW (pe_op op_mod (pe_op op_pow (pv 4) pe_int) (pv 3)) pe_int) (pv 1))))))))), ?_⟩
    rw [start_law_take]
    walk_at "go"
    refine ite2 (fun e => ?_) (fun e => ?_)
    · walk_at "go"
      refine ⟨wide_div hn0 hn (by decide) (by decide), setL_of ha rfl (q _ _ But.upd ⟨_, y, z, upd_same, hz0, by omega⟩ (Int.emod_nonneg _ (by omega)) (Int.emod_lt_of_pos _ hn0))⟩
    · walk_at "go"
      exact q _ _ But.upd ⟨x, y, z + 1, upd_same, by omega, by omega⟩ (Int.emod_nonneg _ (by omega)) (Int.emod_lt_of_pos _ hn0)
abbrev st_law_bags : Stmt := topS 29
abbrev N_law_bags : List Str := ["_law_script", "_law_most", "_law_k", "_law_cell"]
theorem sc_law_bags : FnScope N_law_bags ["_law_script", "_law_most"] (C8.fnScope st_law_bags) := C8.fnScope_by (by decide +kernel)
theorem start_law_bags {v0 v1 : V} : L2.start N_law_bags [v0, v1] = [some v0, some v1, none, none] := rfl
def spBags (K : PySem.W.Frag) : Sp := fun vs H Q _ => ∃ (a : Addr) (ns : List Int) (m : Int), vs = [.ref a, .int m] ∧ SqL K H a (ns.map V.int) ∧ ns.length ≤ 63 ∧ 0 ≤ m ∧ m ≤ 10 ∧ 
  ∀ (H' : Hp) (p : Addr) (bs : List Addr), Same H H' → H p = none → H' p = some (.lst (bs.map V.ref)) → bs.Nodup → (∀ b ∈ bs, Bag H' b 100000 ∧ H b = none) → Q (.ref p) H'
theorem ok_law_bags (T : Bl mg) (D : DefAt K mg "_law_bags" st_law_bags ["_law_script", "_law_most"]) (C_law_well : C8.Cal P w K mg base 1 "_law_well" spWell []) : C8.Cal P w K mg base 2 "_law_bags" (spBags K) [] := by
  refine cal_of D sc_law_bags (fun vs H Q E h => ?_) (fun f cdv A outer s H vs Q E hr h => ?_)
  · obtain ⟨a, ns, m, rfl, _⟩ := h
    rfl
  · obtain ⟨a, ns, m, rfl, hS, hlen, hm0, hm, q⟩ := h
    refine ⟨_, (pss_one (ps_ret (pe_lc (own := [("_law_k", 2), ("_law_cell", 3)]) (g := gTup K 2 (gCons (gName 2) (gCons (gName 3) gNil))) rfl sc_law_bags.nd (pi_enum (by rfl) T.enumerate_ (pa_cons (pe_op op_cat (pe_slice sl_list (pv 0) po_none (po_some (pv 1))) (pe_lst (pa_cons pe_int pa_nil))) pa_nil)) (blkOk_by (own := [("_law_k", 2), ("_law_cell", 3)]) (N := N_law_bags) (sc := (C8.fnScope st_law_bags)) (by decide +kernel)) (fun _ _ _ _ _ => (pg_tup rfl (pgs_cons (pg_name (i := 2) sc_law_bags.nd rfl (Or.inl rfl) (Or.inr rfl)) (pgs_cons (pg_name (i := 3) sc_law_bags.nd rfl (Or.inl rfl) (Or.inr rfl)) pgs_nil)))) (fun _ _ _ _ _ => pts_nil) (fun _ _ _ _ _ => (C8.pe_c C_law_well hr (by decide) rfl (pa_cons (pv 3) (pa_cons (pe_op op_mul pe_int (pv 2)) pa_nil))))))), ?_⟩
    rw [start_law_bags]
    walk_at "go"
    refine slL_of hS fun p1 n1 => ?_
    rw [cut_to _ hm0]
    generalize e1 : upd H p1 _ = H1
    walk_at "go"
    intro p2 n2
    generalize e2 : upd H1 p2 _ = H2
    have l1 : ((ns.map V.int).take m.toNat).length ≤ 63 := by rw [List.length_take, List.length_map]; omega
    refine cat_of (same_of e2 n2 _ _ (there e1)) (there e2) (sz_of (by rw [List.length_singleton]; omega)) fun p3 n3 => ?_
    have s2 : Same H H2 := (same_of e1 n1).trans (same_of e2 n2)
    generalize e3 : upd H2 p3 _ = H3
    walk_at "go"
    have s3 : Same H H3 := s2.trans (same_of e3 n3)
    refine enum_of (.of (there e3)) ?_
    refine lcB_of (walk_enum (xs := (ns.map V.int).take m.toNat ++ [V.int 0])) fun D hD => ?_
    refine ⟨fun i H' => ∃ bs : List Addr, bs.length = i ∧ Same H3 H' ∧ H' D = some (.lst (bs.map V.ref)) ∧ bs.Nodup ∧ ∀ b ∈ bs, Bag H' b 100000 ∧ H3 b = none ∧ b ≠ D, ⟨[], rfl, same_upd hD, upd_same, List.nodup_nil, fun b hb => nomatch hb⟩, ?_, ?_, ?_⟩
    · intro i H' hi ⟨bs, _, s, _⟩
      exact .of (s _ _ (there e3))
    · intro i x H' H'' hi ⟨bs, hl, sm, hD', hnd, hb⟩ ⟨T, x1, x2, ev, nT, eH, f1, f2⟩
      subst ev eH
      rw [List.length_append, List.length_singleton] at hi
      have ex1 : x1 = .int (i : Nat) := (Option.some.inj f1).symm
      subst ex1
      obtain ⟨c, rfl⟩ : ∃ c : Int, x2 = .int c := by
        have := List.mem_of_getElem? f2
        rcases List.mem_append.mp this with h | h
        · obtain ⟨c, _, e⟩ := List.mem_map.mp (List.mem_of_mem_take h)
          exact ⟨c, e.symm⟩
        · exact ⟨0, List.mem_singleton.mp h⟩
      walk_at "go"
      refine tupg_of upd_same rfl ?_
      generalize e5 : upd H' T _ = H5
      have s5 : Same H' H5 := same_of e5 nT
      walk_at "go"
      refine ⟨c, 977 * (i : Int), rfl, fun H6 p x y s6 n6 h6 => ?_⟩
      have hp : p ≠ D := fun z => by rw [z, s5 _ _ hD'] at n6; cases n6
      refine ⟨bs.map V.ref, s6 _ _ (s5 _ _ hD'), sz_lt (by rw [List.length_map]; omega), bs ++ [p], by rw [List.length_append, List.length_singleton, hl], same_mut (sm.trans (s5.trans s6)) hD, by rw [upd_same, List.map_append]; rfl, ?_, fun b hbm => ?_⟩
      · rw [List.nodup_append]
        refine ⟨hnd, List.nodup_cons.mpr ⟨fun h => (nomatch h), List.nodup_nil⟩, fun b hb1 b2 hb2 e => ?_⟩
        rw [List.mem_singleton.mp hb2] at e
        obtain ⟨⟨_, _, _, h, _⟩, _⟩ := hb b hb1
        rw [e] at h
        rw [s5 _ _ h] at n6
        cases n6
      · rcases List.mem_append.mp hbm with h | h
        · obtain ⟨⟨u1, u2, u3, h1, h2, h3⟩, h4, h5⟩ := hb b h
          exact ⟨⟨u1, u2, u3, by rw [upd_ne h5]; exact s6 _ _ (s5 _ _ h1), h2, h3⟩, h4, h5⟩
        · rw [List.mem_singleton.mp h]
          exact ⟨⟨x, y, 977 * (i : Int), by rw [upd_ne hp]; exact h6, by omega, by omega⟩, fresh_back (sm.trans s5) n6, hp⟩
    · intro H' ⟨bs, hl, sm, hD', hnd, hb⟩
      exact q H' D bs (s3.trans sm) (fresh_back s3 hD) hD' hnd fun b h => ⟨(hb b h).1, fresh_back s3 (hb b h).2.1⟩
abbrev st_law_words : Stmt := topS 31
abbrev N_law_words : List Str := ["_law_bag", "_law_most", "_law_longest", "_law_turn"]
theorem sc_law_words : FnScope N_law_words ["_law_bag", "_law_most"] (C8.fnScope st_law_words) := C8.fnScope_by (by decide +kernel)
theorem start_law_words {v0 v1 : V} : L2.start N_law_words [v0, v1] = [some v0, some v1, none, none] := rfl
def spWords : Sp := fun vs H Q _ => ∃ (a : Addr) (m k : Int), vs = [.ref a, .int m] ∧ Bag H a k ∧ k < 2 ^ 50 ∧ 1 ≤ m ∧ m ≤ 60 ∧
  ∀ (H' : Hp) (p : Addr) (ws : List Int), But a H H' → H p = none → H' p = some (.tup (ws.map V.int)) → Bag H' a (k + 100) → 1 ≤ ws.length → (ws.length : Int) ≤ m → (∀ x ∈ ws, 1 ≤ x ∧ x ≤ 40) → Q (.ref p) H'
theorem menu3 {r : Int} (h0 : 0 ≤ r) (h1 : r < 3) : ∃ L : Int, atI [V.int 3, V.int 12, V.int 40] r = some (.int L) ∧ 1 ≤ L ∧ L ≤ 40 := by
  have h : r = 0 ∨ r = 1 ∨ r = 2 := by omega
  rcases h with rfl | rfl | rfl
  · exact ⟨3, rfl, by decide, by decide⟩
  · exact ⟨12, rfl, by decide, by decide⟩
  · exact ⟨40, rfl, by decide, by decide⟩
theorem ok_law_words (T : Bl mg) (D : DefAt K mg "_law_words" st_law_words ["_law_bag", "_law_most"]) (C_law_take : C8.Cal P w K mg base 1 "_law_take" spTake []) : C8.Cal P w K mg base 2 "_law_words" spWords [] := by
  refine cal_of D sc_law_words (fun vs H Q E h => ?_) (fun f cdv A outer s H vs Q E hr h => ?_)
  · obtain ⟨a, m, k, rfl, _⟩ := h
    rfl
  · obtain ⟨a, m, k, rfl, hB, hk, hm1, hm, q⟩ := h
    refine ⟨_, (pss_cons (ps_set (i := 2) sc_law_words.nd rfl (Or.inr rfl) (pe_ix ix_list (pe_lst (pa_cons pe_int (pa_cons pe_int (pa_cons pe_int pa_nil)))) (C8.pe_c C_law_take hr (by decide) rfl (pa_cons (pv 0) (pa_cons pe_int pa_nil))) (fun _ _ => rfl)))
  (pss_one (ps_ret (pe_callTy call_tupS (by rfl) T.tuple_ (by decide +kernel) (pa_cons (pe_lc (own := [("_law_turn", 3)]) (g := gName 3) rfl sc_law_words.nd (pi_range1 (by rfl) T.range_ (pa_cons (pe_op op_add pe_int (C8.pe_c C_law_take hr (by decide) rfl (pa_cons (pv 0) (pa_cons (pv 1) pa_nil)))) pa_nil)) (blkOk_by (own := [("_law_turn", 3)]) (N := N_law_words) (sc := (C8.fnScope st_law_words)) (by decide +kernel)) (fun _ _ _ _ _ => (pg_name (i := 3) sc_law_words.nd rfl (Or.inl rfl) (Or.inr rfl))) (fun _ _ _ _ _ => pts_nil) (fun _ _ _ _ _ => (pe_op op_add pe_int (C8.pe_c C_law_take hr (by decide) rfl (pa_cons (pv 0) (pa_cons (pv 2) pa_nil)))))) pa_nil))))), ?_⟩
    rw [start_law_words]
    walk_at "go"
    intro p1 n1
    generalize e1 : upd H p1 _ = H1
    have s1 := same_of e1 n1
    have h1 := there e1
    refine ⟨a, 3, k, rfl, hB.to s1, by omega, by decide, by decide, fun H2 r b2 B2 hr0 hr1 => ?_⟩
    have hap : p1 ≠ a := fun z => by
      obtain ⟨_, _, _, h, _⟩ := hB
      rw [z, h] at n1
      cases n1
    obtain ⟨L, hL, hL1, hL40⟩ := menu3 hr0 hr1
    refine ixL_of (b2 _ _ hap h1) hL ?_
    walk_at "go"
    refine ⟨a, m, k + 1, rfl, B2, by omega, by omega, by omega, fun H3 r2 b3 B3 hr20 hr21 => ?_⟩
    walk_at "go"
    refine rng1_of (by omega) (by omega) ?_
    refine lcB_of walk_range fun D hD => ?_
    have b03 : But a H H3 := (But.of s1).trans (b2.trans b3)
    have haD : D ≠ a := fun z => by
      obtain ⟨_, _, _, h, _⟩ := B3
      rw [z, h] at hD
      cases hD
    refine ⟨fun i H' => ∃ ws : List Int, ws.length = i ∧ But a H3 H' ∧ H' D = some (.lst (ws.map V.int)) ∧ Bag H' a (k + 2 + i) ∧ ∀ x ∈ ws, 1 ≤ x ∧ x ≤ 40, ⟨[], rfl, But.of (same_upd hD), upd_same, ?_, fun b hb => nomatch hb⟩, fun _ _ _ _ => True.intro, ?_, ?_⟩
    · exact (B3.to (same_upd hD)).mono (by omega)
    · intro i x H' H'' hi ⟨ws, hl, bm, hD', hB', hw⟩ ⟨eH, ex⟩
      subst eH ex
      walk_at "go"
      refine ⟨a, L, k + 2 + i, rfl, hB', by omega, by omega, by omega, fun H4 r3 b4 B4 hr30 hr31 => ?_⟩
      walk_at "go"
      refine ⟨ws.map V.int, b4 _ _ haD hD', sz_lt (by rw [List.length_map]; omega), ws ++ [1 + r3], by rw [List.length_append, List.length_singleton, hl], ?_, by rw [upd_same, List.map_append]; rfl, ?_, fun b hbm => ?_⟩
      · exact fun b o hb ho => by
          rw [upd_ne (ne_of_none ho hD)]
          exact b4 _ _ hb (bm _ _ hb ho)
      · obtain ⟨u1, u2, u3, h1, h2, h3⟩ := B4
        exact ⟨u1, u2, u3, by rw [upd_ne (Ne.symm haD)]; exact h1, h2, by omega⟩
      · rcases List.mem_append.mp hbm with h | h
        · exact hw b h
        · rw [List.mem_singleton.mp h]
          omega
    · intro H' ⟨ws, hl, bm, hD', hB', hw⟩
      refine tupL_of hD' fun p n => ?_
      have hpa : p ≠ a := fun z => by
        obtain ⟨_, _, _, h, _⟩ := hB'
        rw [z, h] at n
        cases n
      refine q _ p ws (b03.trans (bm.trans (But.of (same_upd n)))) ?_ upd_same ((hB'.to (same_upd n)).mono (by omega)) (by omega) (by omega) hw
      cases hn : H p with
      | none => rfl
      | some o =>
        rw [bm _ _ hpa (b03 _ _ hpa hn)] at n
        cases n
/-- words: up to sixty lengths from 1 to 40 -/
def Wd (ws : List Int) : Prop := ws.length ≤ 60 ∧ ∀ x ∈ ws, 1 ≤ x ∧ x ≤ 40
theorem sum_wd : ∀ {ws : List Int}, (∀ x ∈ ws, 1 ≤ x ∧ x ≤ 40) → (ws.length : Int) ≤ ws.sum ∧ ws.sum ≤ 40 * ws.length
  | [], _ => by simp
  | x :: r, h => by
    have h1 := h x List.mem_cons_self
    have h2 := sum_wd (ws := r) fun y hy => h y (List.mem_cons_of_mem _ hy)
    rw [List.sum_cons, List.length_cons]
    omega
end
end Ls
namespace Ls
open PySem PySem.Spec PyProof.Rows L2 RZ
local macro_rules | `(tactic| walk_at "cond") => `(tactic| first
  | exact (by decide)
  | exact (Nat.le_of_ble_eq_true rfl)
  | exact ⟨by decide, by decide, by decide⟩
  | exact ⟨by decide, by decide⟩
  | (with_reducible assumption)
  | exact Or.inl ⟨by omega, by omega⟩
  | exact Or.inr ⟨by omega, by omega⟩
  | exact ⟨by omega, by omega, by omega⟩
  | exact wide_div (b := 61) (by omega) (by omega) (by decide) (by decide)
  | (with_reducible omega))
local macro_rules | `(tactic| walk_at "at") => `(tactic| first | assumption | exact upd_same)
local macro_rules | `(tactic| walk_at "sim") => `(tactic| simp only [tSeq, tAsg, gName, tOp, tC, tVar, tRet, tRetN, tIfS, tTest, tB, tNext, tDrop, tNever, tCons, tNil, tTup, tLst, tUn, tAnd, tOr, tNot, tAndV, tOrV, tNotV, tIf, tCB, tCall, gSub, gTup, gCons, gNil, tPar, tPar3,
  tSl, tPart, tLc_eq, tFor_eq, tDIn_eq, tDNotIn_eq, tDGet_eq, sDPut_eq, tDNewK, C8.tCut, tYes, iEnum_eq, iList_eq, iTup_eq, iRng1_eq, iRng2_eq, iZipA_eq, wipe, tBM, List.map_cons, List.map_nil, List.length_map,  tNoPart, tChain, List.getElem?_cons_zero, List.getElem?_cons_succ, List.set_cons_zero, List.set_cons_succ, List.append_nil,
  s_I0, s_I, s_U, s_bl, s_int, s_some, s_eqI, s_neI, s_par2, s_par3, s_abs, s_max2, s_min2, s_cons, true_and, decide_eq_true_eq, Bool.not_eq_true', decide_eq_false_iff_not, if_true, Bool.true_eq_false, reduceCtorEq, reduceIte, Bool.false_eq_true, if_false, ite_true, ite_false])
local macro_rules | `(tactic| walk_at "go1") => `(tactic| first
  | ((with_reducible refine' And.intro ?k1 ?_); (case k1 => walk_at "cond"))
  | ((with_reducible refine' ixL_of ?k1 ?k2 ?_); (case k1 => walk_at "at"); (case k2 => rfl))
  | ((with_reducible refine' ixT_of ?k1 ?k2 ?_); (case k1 => walk_at "at"); (case k2 => rfl))
  | ((with_reducible refine' setL_of ?k1 ?k2 ?_); (case k1 => walk_at "at"); (case k2 => rfl))
  | ((with_reducible refine' lenT_of ?k1 ?_); (case k1 => walk_at "at"))
  | ((with_reducible refine' lenL_of ?k1 ?_); (case k1 => walk_at "at"))
  | (with_reducible refine isi_int ?_)
  | (with_reducible refine isi_int_bool ?_)
  | ((with_reducible refine' isi_tup ?k1 ?_); (case k1 => walk_at "at"))
  | walk_at "sim")
local macro_rules | `(tactic| walk_at "go") => `(tactic| repeat (walk_at "go1"))
section
variable {P : Program} {w : World} {K : PySem.W.Frag} {mg : Str → Option Value} {base : Heap}
/-! ### texts.py -/
abbrev st_is_integer : Stmt := topS 9
abbrev N_is_integer : List Str := ["value"]
theorem sc_is_integer : FnScope N_is_integer ["value"] (C8.fnScope st_is_integer) := C8.fnScope_by (by decide +kernel)
theorem start_is_integer {v0 : V} : L2.start N_is_integer [v0] = [some v0] := rfl
def spIsInt : Sp := fun vs H Q _ => ∃ i : Int, vs = [.int i] ∧ Q (.bl true) H
theorem ok_is_integer (T : Bl mg) (D : DefAt K mg "is_integer" st_is_integer ["value"]) : C8.Cal P w K mg base 1 "is_integer" spIsInt [] := by
  refine cal_of D sc_is_integer (fun vs H Q E h => ?_) (fun f cdv A outer s H vs Q E hr h => ?_)
  · obtain ⟨i, rfl, _⟩ := h
    rfl
  · obtain ⟨i, rfl, q⟩ := h
    refine ⟨_, (pss_one (ps_ret (pe_and (pe_callB call_isi (by rfl) T.isinstance_ (by decide +kernel) (pa_cons (pv 0) (pa_cons (pe_bltn (v := .ty "int") (by rfl) T.int_ (by decide +kernel) rfl) pa_nil))) (pe_one (pe_not (pe_callB call_isi (by rfl) T.isinstance_ (by decide +kernel) (pa_cons (pv 0) (pa_cons (pe_bltn (v := .ty "bool") (by rfl) T.bool_ (by decide +kernel) rfl) pa_nil)))))))), ?_⟩
    rw [start_is_integer]
    walk_at "go"
    exact q
abbrev st_in_range : Stmt := topS 10
abbrev N_in_range : List Str := ["value", "low", "high"]
theorem sc_in_range : FnScope N_in_range ["value", "low", "high"] (C8.fnScope st_in_range) := C8.fnScope_by (by decide +kernel)
theorem start_in_range {v0 v1 v2 : V} : L2.start N_in_range [v0, v1, v2] = [some v0, some v1, some v2] := rfl
def spInRange : Sp := fun vs H Q _ => ∃ v l h : Int, vs = [.int v, .int l, .int h] ∧ Q (.bl (decide (l ≤ v ∧ v ≤ h))) H
theorem ok_in_range (T : Bl mg) (D : DefAt K mg "in_range" st_in_range ["value", "low", "high"]) (C_is_integer : C8.Cal P w K mg base 1 "is_integer" spIsInt []) : C8.Cal P w K mg base 2 "in_range" spInRange [] := by
  refine cal_of D sc_in_range (fun vs H Q E h => ?_) (fun f cdv A outer s H vs Q E hr h => ?_)
  · obtain ⟨v, l, h, rfl, _⟩ := h
    rfl
  · obtain ⟨v, l, h, rfl, q⟩ := h
    refine ⟨_, (pss_one (ps_ret (pe_and (C8.pe_c C_is_integer hr (by decide) rfl (pa_cons (pv 0) pa_nil)) (pe_one (pe_chain op_le op_le (pv 1) (pv 0) (pv 2)))))), ?_⟩
    rw [start_in_range]
    walk_at "go"
    refine ⟨v, rfl, ?_⟩
    walk_at "go"
    by_cases h1 : l ≤ v
    · rw [if_pos h1]
      rw [show decide (l ≤ v ∧ v ≤ h) = decide (v ≤ h) from decide_eq_decide.mpr ⟨fun z => z.2, fun z => ⟨h1, z⟩⟩] at q
      exact q
    · rw [if_neg h1]
      rw [show decide (l ≤ v ∧ v ≤ h) = false from decide_eq_false fun z => h1 z.1] at q
      exact q
theorem in_yes {v l h : Int} (h1 : l ≤ v) (h2 : v ≤ h) {H : Hp} {Q : VK} {E : XK} (q : Q (.bl true) H) : spInRange [.int v, .int l, .int h] H Q E := ⟨v, l, h, rfl, by rw [decide_eq_true ⟨h1, h2⟩]; exact q⟩
abbrev st_is_words : Stmt := topS 11
abbrev N_is_words : List Str := ["value", "length"]
theorem sc_is_words : FnScope N_is_words ["value"] (C8.fnScope st_is_words) := C8.fnScope_by (by decide +kernel)
theorem start_is_words {v0 : V} : L2.start N_is_words [v0] = [some v0, none] := rfl
def spIsWords : Sp := fun vs H Q _ => ∃ (p : Addr) (ws : List Int), vs = [.ref p] ∧ H p = some (.tup (ws.map V.int)) ∧ Wd ws ∧ ∀ H', Same H H' → Q (.bl true) H'
theorem ok_is_words (T : Bw mg) (D : DefAt K mg "is_words" st_is_words ["value"]) (C_in_range : C8.Cal P w K mg base 2 "in_range" spInRange []) : C8.Cal P w K mg base 3 "is_words" spIsWords [] := by
  refine cal_of D sc_is_words (fun vs H Q E h => ?_) (fun f cdv A outer s H vs Q E hr h => ?_)
  · obtain ⟨p, ws, rfl, _⟩ := h
    rfl
  · obtain ⟨p, ws, rfl, hp, ⟨hl, hw⟩, q⟩ := h
    refine ⟨_, (pss_cons (ps_if (PW.pt (pw_or (pt_not (pt_val (pe_callB call_isi (by rfl) T.isinstance_ (by decide +kernel) (pa_cons (pv 0) (pa_cons (pe_bltn (v := .ty "tuple") (by rfl) T.tuple_ (by decide +kernel) rfl) pa_nil))))) (pw_or1 (pt_cmpR op_gt (pe_callB call_lenS (by rfl) T.len_ (by decide +kernel) (pa_cons (pv 0) pa_nil)) (C8.pe_gc rfl T.mw) (nomark _))))) (pss_one (ps_ret pe_bl)) pss_nil)
  (pss_one (ps_ret (pe_callB (cr_all rfl) (by rfl) T.all_ (by decide +kernel) (pa_cons (pe_lc (own := [("length", 1)]) (g := gName 1) rfl sc_is_words.nd (pi_tup (pv 0)) (blkOk_by (own := [("length", 1)]) (N := N_is_words) (sc := (C8.fnScope st_is_words)) (by decide +kernel)) (fun _ _ _ _ _ => (pg_name (i := 1) sc_is_words.nd rfl (Or.inl rfl) (Or.inr rfl))) (fun _ _ _ _ _ => pts_nil) (fun _ _ _ _ _ => (C8.pe_c C_in_range hr (by decide) rfl (pa_cons (pv 1) (pa_cons pe_int (pa_cons (C8.pe_gc rfl T.ml) pa_nil)))))) pa_nil))))), ?_⟩
    rw [start_is_words]
    walk_at "go"
    refine ite2 (fun e => ?_) (fun e => ?_)
    · omega
    · walk_at "go"
      refine tup_of (.of hp) ?_
      refine lcB_of (walk_tup (xs := ws.map V.int)) fun D hD => ?_
      refine ⟨fun i H' => Same H H' ∧ H' D = some (.lst ((List.replicate i true).map V.bl)), ⟨same_upd hD, upd_same⟩, fun i H' hi h => .of (h.1 _ _ hp), ?_, ?_⟩
      · intro i x H' H'' hi ⟨sm, hD'⟩ ⟨eH, ex⟩
        subst eH
        rw [List.getElem?_map] at ex
        obtain ⟨y, hy, rfl⟩ := Option.map_eq_some_iff.mp ex
        have hy2 := hw y (List.mem_of_getElem? hy)
        rw [List.length_map] at hi
        walk_at "go"
        refine in_yes hy2.1 hy2.2 ⟨_, hD', sz_lt (by simp; omega), same_mut sm hD, ?_⟩
        rw [upd_same, List.replicate_succ', List.map_append]
        rfl
      · intro H' ⟨sm, hD'⟩
        refine all_of hD' ?_
        rw [show (List.replicate (ws.map V.int).length true).all id = true by simp]
        exact q _ sm
/-- a width of words -/
def Fit (ws : List Int) (v : Int) : Prop := (∀ x ∈ ws, x ≤ v) ∧ 1 ≤ v ∧ v ≤ 2500
abbrev st_check_words : Stmt := topS 12
abbrev N_check_words : List Str := ["words"]
theorem sc_check_words : FnScope N_check_words ["words"] (C8.fnScope st_check_words) := C8.fnScope_by (by decide +kernel)
theorem start_check_words {v0 : V} : L2.start N_check_words [v0] = [some v0] := rfl
def spChkWords : Sp := fun vs H Q _ => ∃ (p : Addr) (ws : List Int), vs = [.ref p] ∧ H p = some (.tup (ws.map V.int)) ∧ Wd ws ∧ ∀ H', Same H H' → Q .non H'
theorem ok_check_words (D : DefAt K mg "check_words" st_check_words ["words"]) (C_is_words : C8.Cal P w K mg base 3 "is_words" spIsWords []) : C8.Cal P w K mg base 4 "check_words" spChkWords [] := by
  refine cal_of D sc_check_words (fun vs H Q E h => ?_) (fun f cdv A outer s H vs Q E hr h => ?_)
  · obtain ⟨p, ws, rfl, _⟩ := h
    rfl
  · obtain ⟨p, ws, rfl, hp, hw, q⟩ := h
    refine ⟨_, (pss_one (ps_if (pt_not (pt_val (C8.pe_c C_is_words hr (by decide) rfl (pa_cons (pv 0) pa_nil)))) (pss_one ps_never) pss_nil)), ?_⟩
    rw [start_check_words]
    walk_at "go"
    refine ⟨p, ws, rfl, hp, hw, fun H' s' => ?_⟩
    walk_at "go"
    exact q _ s'
abbrev st_is_width : Stmt := topS 13
abbrev N_is_width : List Str := ["words", "value"]
theorem sc_is_width : FnScope N_is_width ["words", "value"] (C8.fnScope st_is_width) := C8.fnScope_by (by decide +kernel)
theorem start_is_width {v0 v1 : V} : L2.start N_is_width [v0, v1] = [some v0, some v1] := rfl
def spIsWidth : Sp := fun vs H Q _ => ∃ (p : Addr) (ws : List Int) (v : Int), vs = [.ref p, .int v] ∧ H p = some (.tup (ws.map V.int)) ∧ Wd ws ∧ Fit ws v ∧ ∀ H', Same H H' → Q (.bl true) H'
theorem ok_is_width (T : Bx mg) (D : DefAt K mg "is_width" st_is_width ["words", "value"]) (C_in_range : C8.Cal P w K mg base 2 "in_range" spInRange []) : C8.Cal P w K mg base 3 "is_width" spIsWidth [] := by
  refine cal_of D sc_is_width (fun vs H Q E h => ?_) (fun f cdv A outer s H vs Q E hr h => ?_)
  · obtain ⟨p, ws, v, rfl, _⟩ := h
    rfl
  · obtain ⟨p, ws, v, rfl, hp, hw, ⟨f1, f2, f3⟩, q⟩ := h
    refine ⟨_, (pss_one (ps_ret (C8.pe_c C_in_range hr (by decide) rfl (pa_cons (pv 1) (pa_cons (pe_callB (cr_maxT rfl) (by rfl) T.max_ (by decide +kernel) (pa_cons (pe_op op_catA (pe_tup (pa_cons pe_int pa_nil)) (pv 0)) pa_nil)) (pa_cons (C8.pe_gc rfl T.mx) pa_nil)))))), ?_⟩
    rw [start_is_width]
    walk_at "go"
    intro p1 n1
    generalize e1 : upd H p1 _ = H1
    have s1 := same_of e1 n1
    refine catA_of (there e1) (s1 _ _ hp) (sz_of (by rw [List.length_singleton, List.length_map]; have := hw.1; omega)) fun p2 H2 s2 h2 => ?_
    walk_at "go"
    refine maxT_of (ns := 1 :: ws) h2 (by rw [List.length_cons]; omega) fun m hm hmx => ?_
    walk_at "go"
    refine in_yes ?_ f3 (q _ (s1.trans s2))
    rcases List.mem_cons.mp hm with rfl | h
    · exact f2
    · exact f1 _ h
abbrev st_check_text : Stmt := topS 14
abbrev N_check_text : List Str := ["words", "width"]
theorem sc_check_text : FnScope N_check_text ["words", "width"] (C8.fnScope st_check_text) := C8.fnScope_by (by decide +kernel)
theorem start_check_text {v0 v1 : V} : L2.start N_check_text [v0, v1] = [some v0, some v1] := rfl
def spChkText : Sp := fun vs H Q _ => ∃ (p : Addr) (ws : List Int) (v : Int), vs = [.ref p, .int v] ∧ H p = some (.tup (ws.map V.int)) ∧ Wd ws ∧ Fit ws v ∧ ∀ H', Same H H' → Q .non H'
theorem ok_check_text (D : DefAt K mg "check_text" st_check_text ["words", "width"]) (C_check_words : C8.Cal P w K mg base 4 "check_words" spChkWords []) (C_is_width : C8.Cal P w K mg base 3 "is_width" spIsWidth []) : C8.Cal P w K mg base 5 "check_text" spChkText [] := by
  refine cal_of D sc_check_text (fun vs H Q E h => ?_) (fun f cdv A outer s H vs Q E hr h => ?_)
  · obtain ⟨p, ws, v, rfl, _⟩ := h
    rfl
  · obtain ⟨p, ws, v, rfl, hp, hw, hf, q⟩ := h
    refine ⟨_, (pss_cons (ps_expr (C8.pe_c C_check_words hr (by decide) rfl (pa_cons (pv 0) pa_nil)))
  (pss_one (ps_if (pt_not (pt_val (C8.pe_c C_is_width hr (by decide) rfl (pa_cons (pv 0) (pa_cons (pv 1) pa_nil))))) (pss_one ps_never) pss_nil))), ?_⟩
    rw [start_check_text]
    walk_at "go"
    refine ⟨p, ws, rfl, hp, hw, fun H1 s1 => ?_⟩
    walk_at "go"
    refine ⟨p, ws, v, rfl, s1 _ _ hp, hw, hf, fun H2 s2 => ?_⟩
    walk_at "go"
    exact q _ (s1.trans s2)
abbrev st_check_count : Stmt := topS 15
abbrev N_check_count : List Str := ["value", "low", "high"]
theorem sc_check_count : FnScope N_check_count ["value", "low", "high"] (C8.fnScope st_check_count) := C8.fnScope_by (by decide +kernel)
theorem start_check_count {v0 v1 v2 : V} : L2.start N_check_count [v0, v1, v2] = [some v0, some v1, some v2] := rfl
def spChkCount : Sp := fun vs H Q _ => ∃ v l h : Int, vs = [.int v, .int l, .int h] ∧ l ≤ v ∧ v ≤ h ∧ Q .non H
theorem ok_check_count (D : DefAt K mg "check_count" st_check_count ["value", "low", "high"]) (C_in_range : C8.Cal P w K mg base 2 "in_range" spInRange []) : C8.Cal P w K mg base 3 "check_count" spChkCount [] := by
  refine cal_of D sc_check_count (fun vs H Q E h => ?_) (fun f cdv A outer s H vs Q E hr h => ?_)
  · obtain ⟨v, l, h, rfl, _⟩ := h
    rfl
  · obtain ⟨v, l, h, rfl, h1, h2, q⟩ := h
    refine ⟨_, (pss_one (ps_if (pt_not (pt_val (C8.pe_c C_in_range hr (by decide) rfl (pa_cons (pv 0) (pa_cons (pv 1) (pa_cons (pv 2) pa_nil)))))) (pss_one ps_never) pss_nil)), ?_⟩
    rw [start_check_count]
    walk_at "go"
    refine in_yes h1 h2 ?_
    walk_at "go"
    exact q
end
end Ls
namespace Ls
/-! ### greedy layouts: the mathematics -/
def lastLe (f : Nat → Int) (b : Int) : Nat → Nat
  | 0 => 0
  | n + 1 => if f (n + 1) ≤ b then n + 1 else lastLe f b n
theorem lastLe_spec (f : Nat → Int) (b : Int) (h0 : f 0 ≤ b) : ∀ n : Nat, lastLe f b n ≤ n ∧ f (lastLe f b n) ≤ b ∧ ∀ k, lastLe f b n < k → k ≤ n → b < f k
  | 0 => ⟨Nat.le_refl _, h0, fun k h1 h2 => by have : lastLe f b 0 = 0 := rfl; omega⟩
  | n + 1 => by
    obtain ⟨h1, h2, h3⟩ := lastLe_spec f b h0 n
    unfold lastLe
    split
    · exact ⟨Nat.le_refl _, by assumption, fun k h4 h5 => by omega⟩
    · refine ⟨by omega, h2, fun k h4 h5 => ?_⟩
      rcases Nat.lt_or_ge n k with g | g
      · have e : k = n + 1 := by omega
        rw [e]
        omega
      · exact h3 k h4 g
/-- the place behind the first i words, each with a blank -/
def pf (ws : List Int) (i : Nat) : Int := (ws.take i).sum + i
theorem pf_zero (ws : List Int) : pf ws 0 = 0 := rfl
theorem sum_take_succ {ws : List Int} {i : Nat} {x : Int} (h : ws[i]? = some x) : (ws.take (i + 1)).sum = (ws.take i).sum + x := by
  rw [List.take_add_one, h, List.sum_append]
  show _ + (x + 0) = _
  omega
theorem pf_succ {ws : List Int} {i : Nat} {x : Int} (h : ws[i]? = some x) : pf ws (i + 1) = pf ws i + x + 1 := by
  unfold pf
  rw [sum_take_succ h]
  omega
theorem pf_last (ws : List Int) : pf ws ws.length = ws.sum + ws.length := by
  unfold pf
  rw [List.take_length]
/-- the lengths are positive and fit -/
structure Tx (ws : List Int) (w : Int) : Prop where
  lo : ∀ x ∈ ws, 1 ≤ x
  hi : ∀ x ∈ ws, x ≤ w
theorem Tx.wide {ws : List Int} {w w' : Int} (R : Tx ws w) (h : w ≤ w') : Tx ws w' := ⟨R.lo, fun x hx => by have := R.hi x hx; omega⟩
section
variable {ws : List Int} {w : Int} (R : Tx ws w)
include R
theorem pf_step {i : Nat} (h : i < ws.length) : pf ws i + 2 ≤ pf ws (i + 1) ∧ pf ws (i + 1) ≤ pf ws i + w + 1 := by
  have e := List.getElem?_eq_getElem h
  have h1 := R.lo _ (List.getElem_mem h)
  have h2 := R.hi _ (List.getElem_mem h)
  rw [pf_succ e]
  omega
theorem pf_mono {i : Nat} : ∀ {j : Nat}, i ≤ j → j ≤ ws.length → pf ws i + 2 * (j - i : Nat) ≤ pf ws j
  | 0, h, _ => by
    have e : i = 0 := by omega
    rw [e]
    simp
  | j + 1, h, hj => by
    rcases Nat.lt_or_ge j i with g | g
    · have e : i = j + 1 := by omega
      rw [e, Nat.sub_self]
      simp
    · have h1 := pf_mono g (by omega)
      have h2 := (pf_step R (i := j) (by omega)).1
      omega
theorem pf_lt {i j : Nat} (hi : i ≤ ws.length) (h : pf ws i < pf ws j) : i < j := by
  rcases Nat.lt_or_ge i j with g | g
  · exact g
  · have := pf_mono R g hi
    omega
end
/-- where the following line starts -/
def nx (ws : List Int) (w : Int) (i : Nat) : Nat := lastLe (pf ws) (pf ws i + w + 1) ws.length
section
variable {ws : List Int} {w : Int} (R : Tx ws w)
include R
theorem nx_spec {i : Nat} (h : i < ws.length) : i < nx ws w i ∧ nx ws w i ≤ ws.length ∧ pf ws (nx ws w i) ≤ pf ws i + w + 1 ∧ ∀ k, nx ws w i < k → k ≤ ws.length → pf ws i + w + 1 < pf ws k := by
  have hs := pf_step R h
  have h0 : pf ws 0 ≤ pf ws i + w + 1 := by
    have := pf_mono R (Nat.zero_le i) (by omega)
    omega
  obtain ⟨h1, h2, h3⟩ := lastLe_spec (pf ws) (pf ws i + w + 1) h0 ws.length
  refine ⟨?_, h1, h2, h3⟩
  rcases Nat.lt_or_ge i (nx ws w i) with g | g
  · exact g
  · have := h3 (i + 1) (by show nx ws w i < _; omega) (by omega)
    omega
theorem nx_gt {i : Nat} (h : i < ws.length) : i < nx ws w i := (nx_spec R h).1
theorem nx_le {i : Nat} (h : i < ws.length) : nx ws w i ≤ ws.length := (nx_spec R h).2.1
theorem nx_eq {i j : Nat} (h : i < ws.length) (h1 : j ≤ ws.length) (h2 : pf ws j ≤ pf ws i + w + 1) (h3 : j = ws.length ∨ pf ws i + w + 1 < pf ws (j + 1)) : nx ws w i = j := by
  obtain ⟨a1, a2, a3, a4⟩ := nx_spec R h
  rcases Nat.lt_trichotomy (nx ws w i) j with g | g | g
  · have := a4 j g h1
    omega
  · exact g
  · rcases h3 with e | e
    · omega
    · have := pf_mono R (i := j + 1) (j := nx ws w i) g a2
      omega
theorem nx_mono {w' : Int} (hw : w ≤ w') {i j : Nat} (hij : i ≤ j) (h : j < ws.length) : nx ws w i ≤ nx ws w' j := by
  obtain ⟨a1, a2, a3, a4⟩ := nx_spec R (i := i) (by omega)
  obtain ⟨b1, b2, b3, b4⟩ := nx_spec (R.wide hw) h
  rcases Nat.lt_or_ge (nx ws w' j) (nx ws w i) with g | g
  · have := b4 _ g a2
    have := pf_mono R hij (by omega)
    omega
  · exact g
end
/-- the line starts from i, f lines at most -/
def stf (ws : List Int) (w : Int) : Nat → Nat → List Int
  | 0, _ => []
  | f + 1, i => if i < ws.length then (i : Int) :: stf ws w f (nx ws w i) else []
def sts (ws : List Int) (w : Int) (i : Nat) : List Int := stf ws w ws.length i
theorem sts_end {ws : List Int} {w : Int} {i : Nat} (h : ws.length ≤ i) : sts ws w i = [] := by
  unfold sts
  cases hn : ws.length with
  | zero => rfl
  | succ n =>
    unfold stf
    rw [if_neg (by omega)]
section
variable {ws : List Int} {w : Int} (R : Tx ws w)
include R
theorem stf_more {i : Nat} : ∀ {f g : Nat}, ws.length ≤ i + f → ws.length ≤ i + g → stf ws w f i = stf ws w g i := by
  intro f
  induction f generalizing i with
  | zero =>
    intro g h1 h2
    cases g with
    | zero => rfl
    | succ g => unfold stf; rw [if_neg (by omega)]
  | succ f ih =>
    intro g h1 h2
    cases g with
    | zero => unfold stf; rw [if_neg (by omega)]
    | succ g =>
      unfold stf
      by_cases h : i < ws.length
      · rw [if_pos h, if_pos h, ih (i := nx ws w i) (g := g) (by have := nx_gt R h; omega) (by have := nx_gt R h; omega)]
      · rw [if_neg h, if_neg h]
theorem sts_cons {i : Nat} (h : i < ws.length) : sts ws w i = (i : Int) :: sts ws w (nx ws w i) := by
  have e : sts ws w i = stf ws w (ws.length + 1) i := stf_more R (by omega) (by omega)
  rw [e]
  show (if i < ws.length then (i : Int) :: stf ws w ws.length (nx ws w i) else []) = _
  rw [if_pos h]
  rfl
omit R
/-- how many lines from i -/
def cnt (ws : List Int) (w : Int) (i : Nat) : Nat := (sts ws w i).length
theorem cnt_end {i : Nat} (h : ws.length ≤ i) : cnt ws w i = 0 := by
  unfold cnt
  rw [sts_end h]
  rfl
include R
theorem cnt_cons {i : Nat} (h : i < ws.length) : cnt ws w i = cnt ws w (nx ws w i) + 1 := by
  unfold cnt
  rw [sts_cons R h]
  rfl
theorem cnt_le : ∀ (d i : Nat), d = ws.length - i → cnt ws w i ≤ d
  | d, i, hd => by
    rcases Nat.lt_or_ge i ws.length with h | h
    · have g := nx_gt R h
      have := cnt_le (ws.length - nx ws w i) (nx ws w i) rfl
      rw [cnt_cons R h]
      omega
    · rw [cnt_end h]
      exact Nat.zero_le _
  termination_by d => d
theorem cnt_pos {i : Nat} (h : i < ws.length) : 1 ≤ cnt ws w i := by
  rw [cnt_cons R h]
  omega
theorem cnt_mono {w' : Int} (hw : w ≤ w') : ∀ (d i j : Nat), d = ws.length - i → i ≤ j → cnt ws w' j ≤ cnt ws w i
  | d, i, j, hd, hij => by
    rcases Nat.lt_or_ge j ws.length with h | h
    · rw [cnt_cons R (i := i) (by omega), cnt_cons (R.wide hw) h]
      have g := nx_gt R (i := i) (by omega)
      have := cnt_mono hw (ws.length - nx ws w i) (nx ws w i) (nx ws w' j) rfl (nx_mono R hw hij h)
      omega
    · rw [cnt_end h]
      exact Nat.zero_le _
  termination_by d => d
theorem cnt_anti {w' : Int} (hw : w ≤ w') (i : Nat) : cnt ws w' i ≤ cnt ws w i := cnt_mono R hw _ i i rfl (Nat.le_refl i)
/-- one line holds all -/
theorem cnt_one (h : 0 < ws.length) (hw : ws.sum + ws.length ≤ w + 1) : cnt ws w 0 = 1 := by
  rw [cnt_cons R h, nx_eq R h (Nat.le_refl _) (by rw [pf_last, pf_zero]; omega) (.inl rfl), cnt_end (Nat.le_refl _)]
end
end Ls
namespace Ls
open PySem PySem.Spec PyProof.Rows L2 RZ
local macro_rules | `(tactic| walk_at "cond") => `(tactic| first
  | exact (by decide)
  | exact (Nat.le_of_ble_eq_true rfl)
  | exact ⟨by decide, by decide, by decide⟩
  | exact ⟨by decide, by decide⟩
  | (with_reducible assumption)
  | exact Or.inl ⟨by omega, by omega⟩
  | exact Or.inr ⟨by omega, by omega⟩
  | exact ⟨by omega, by omega, by omega⟩
  | exact wide_div (b := 61) (by omega) (by omega) (by decide) (by decide)
  | (with_reducible omega))
local macro_rules | `(tactic| walk_at "at") => `(tactic| first | assumption | exact upd_same)
local macro_rules | `(tactic| walk_at "sim") => `(tactic| simp only [tSeq, tAsg, gName, tOp, tC, tVar, tRet, tRetN, tIfS, tTest, tB, tNext, tDrop, tNever, tCons, tNil, tTup, tLst, tUn, tAnd, tOr, tNot, tAndV, tOrV, tNotV, tIf, tCB, tCall, gSub, gTup, gCons, gNil, tPar, tPar3,
  tSl, tPart, tLc_eq, tFor_eq, tDIn_eq, tDNotIn_eq, tDGet_eq, sDPut_eq, tDNewK, C8.tCut, tYes, iEnum_eq, iList_eq, iTup_eq, iRng1_eq, iRng2_eq, iZipA_eq, wipe, tBM, List.map_cons, List.map_nil, List.length_map,  tNoPart, tChain, List.getElem?_cons_zero, List.getElem?_cons_succ, List.set_cons_zero, List.set_cons_succ, List.append_nil,
  s_I0, s_I, s_U, s_bl, s_int, s_some, s_eqI, s_neI, s_par2, s_par3, s_abs, s_max2, s_min2, s_cons, true_and, decide_eq_true_eq, Bool.not_eq_true', decide_eq_false_iff_not, if_true, Bool.true_eq_false, reduceCtorEq, reduceIte, Bool.false_eq_true, if_false, ite_true, ite_false])
local macro_rules | `(tactic| walk_at "go1") => `(tactic| first
  | ((with_reducible refine' And.intro ?k1 ?_); (case k1 => walk_at "cond"))
  | ((with_reducible refine' ixL_of ?k1 ?k2 ?_); (case k1 => walk_at "at"); (case k2 => rfl))
  | ((with_reducible refine' ixT_of ?k1 ?k2 ?_); (case k1 => walk_at "at"); (case k2 => rfl))
  | ((with_reducible refine' setL_of ?k1 ?k2 ?_); (case k1 => walk_at "at"); (case k2 => rfl))
  | ((with_reducible refine' lenT_of ?k1 ?_); (case k1 => walk_at "at"))
  | ((with_reducible refine' lenL_of ?k1 ?_); (case k1 => walk_at "at"))
  | (with_reducible refine isi_int ?_)
  | (with_reducible refine isi_int_bool ?_)
  | ((with_reducible refine' isi_tup ?k1 ?_); (case k1 => walk_at "at"))
  | walk_at "sim")
local macro_rules | `(tactic| walk_at "go") => `(tactic| repeat (walk_at "go1"))
section
variable {P : Program} {w : World} {K : PySem.W.Frag} {mg : Str → Option Value} {base : Heap}
theorem tx_of {ws : List Int} {v : Int} (hw : Wd ws) (hf : Fit ws v) : Tx ws v := ⟨fun x hx => (hw.2 x hx).1, hf.1⟩
abbrev st_next_index : Stmt := topS 16
abbrev N_next_index : List Str := ["words", "width", "index", "used"]
theorem sc_next_index : FnScope N_next_index ["words", "width", "index"] (C8.fnScope st_next_index) := C8.fnScope_by (by decide +kernel)
theorem start_next_index {v0 v1 v2 : V} : L2.start N_next_index [v0, v1, v2] = [some v0, some v1, some v2, none] := rfl
def spNext : Sp := fun vs H Q _ => ∃ (p : Addr) (ws : List Int) (v : Int) (i : Nat), vs = [.ref p, .int v, .int i] ∧ H p = some (.tup (ws.map V.int)) ∧ Tx ws v ∧ i < ws.length ∧ Q (.int (nx ws v i : Nat)) H
theorem at_word {ws : List Int} {i : Nat} (h : i < ws.length) : atI (ws.map V.int) ((i : Nat) : Int) = some (.int ws[i]) := atI_nat (by rw [List.getElem?_map, List.getElem?_eq_getElem h]; rfl)
theorem ok_next_index (T : Bl mg) (D : DefAt K mg "next_index" st_next_index ["words", "width", "index"]) : C8.Cal P w K mg base 1 "next_index" spNext [] := by
  refine cal_of D sc_next_index (fun vs H Q E h => ?_) (fun f cdv A outer s H vs Q E hr h => ?_)
  · obtain ⟨p, ws, v, i, rfl, _⟩ := h
    rfl
  · obtain ⟨p, ws, v, i, rfl, hp, R, hi, q⟩ := h
    refine ⟨_, (pss_cons (ps_set (i := 3) sc_next_index.nd rfl (Or.inl rfl) (pe_ix ix_tup (pv 0) (pv 2) (fun _ _ => rfl)))
  (pss_cons (ps_set (i := 2) sc_next_index.nd rfl (Or.inl rfl) (pe_op op_add (pv 2) pe_int))
  (pss_cons (ps_while PassesOwn.never (PW.pt (pw_and (pt_cmpR op_lt (pv 2) (pe_callB call_lenS (by rfl) T.len_ (by decide +kernel) (pa_cons (pv 0) pa_nil)) (nomark _)) (pw_and1 (pt_cmpR op_le (pe_op op_add (pe_op op_add (pv 3) pe_int) (pe_ix ix_tup (pv 0) (pv 2) (fun _ _ => rfl))) (pv 1) (nomark _))))) (pss_cons (ps_set (i := 3) sc_next_index.nd rfl (Or.inl rfl) (pe_op op_add (pe_op op_add (pv 3) pe_int) (pe_ix ix_tup (pv 0) (pv 2) (fun _ _ => rfl))))
  (pss_one (ps_set (i := 2) sc_next_index.nd rfl (Or.inl rfl) (pe_op op_add (pv 2) pe_int)))))
  (pss_one (ps_ret (pv 2)))))), ?_⟩
    rw [start_next_index]
    walk_at "go"
    refine ixT_of hp (at_word hi) ?_
    walk_at "go"
    have e1 := pf_succ (List.getElem?_eq_getElem hi)
    have hs := (pf_step R hi).2
    refine while_of (fun m σ H' => ∃ j : Nat, H' = H ∧ i < j ∧ j ≤ ws.length ∧ pf ws j ≤ pf ws i + v + 1 ∧ m = ws.length - j ∧ σ = [some (.ref p), some (.int v), some (.int (j : Nat)), some (.int (pf ws j - pf ws i - 1))])
      _ ⟨i + 1, rfl, Nat.lt_succ_self _, hi, hs, rfl, ?_⟩ ?_
    · rw [show pf ws (i + 1) - pf ws i - 1 = ws[i] by omega]
      rfl
    · rintro m σ H' ⟨j, rfl, hij, hjn, hle, hm, rfl⟩
      walk_at "go"
      refine ite2 (fun e => ?_) (fun e => ?_)
      · have hj : j < ws.length := by omega
        have e2 := pf_succ (List.getElem?_eq_getElem hj)
        refine ixT_of hp (at_word hj) ?_
        walk_at "go"
        refine ite2 (fun e3 => ?_) (fun e3 => ?_)
        · refine whG_of ?_
          walk_at "go"
          refine ixT_of hp (at_word hj) ?_
          walk_at "go"
          refine ⟨_, ?_, j + 1, by omega, by omega, by omega, rfl, ?_⟩
          · omega
          · rw [show pf ws j - pf ws i - 1 + 1 + ws[j] = pf ws (j + 1) - pf ws i - 1 by omega]
            rfl
        · rw [nx_eq R hi hjn hle (.inr (by omega))] at q
          exact q
      · rw [nx_eq R hi hjn hle (.inl (by omega))] at q
        walk_at "go"
        exact q
abbrev st_starts_of : Stmt := topS 18
abbrev N_starts_of : List Str := ["words", "width", "index", "starts"]
theorem sc_starts_of : FnScope N_starts_of ["words", "width", "index"] (C8.fnScope st_starts_of) := C8.fnScope_by (by decide +kernel)
theorem start_starts_of {v0 v1 v2 : V} : L2.start N_starts_of [v0, v1, v2] = [some v0, some v1, some v2, none] := rfl
def spStarts : Sp := fun vs H Q _ => ∃ (p : Addr) (ws : List Int) (v : Int) (i : Nat), vs = [.ref p, .int v, .int i] ∧ H p = some (.tup (ws.map V.int)) ∧ Tx ws v ∧ ws.length ≤ 60 ∧ ∀ (H' : Hp) (a : Addr), Same H H' → H' a = some (.tup ((sts ws v i).map V.int)) → Q (.ref a) H'
theorem sts_len {ws : List Int} {v : Int} (R : Tx ws v) (i : Nat) : (sts ws v i).length ≤ ws.length - i := cnt_le R _ i rfl
theorem ok_starts_of (T : Bl mg) (D : DefAt K mg "starts_of" st_starts_of ["words", "width", "index"]) (C_next_index : C8.Cal P w K mg base 1 "next_index" spNext []) : C8.Cal P w K mg base 2 "starts_of" spStarts [] := by
  refine cal_of D sc_starts_of (fun vs H Q E h => ?_) (fun f cdv A outer s H vs Q E hr h => ?_)
  · obtain ⟨p, ws, v, i, rfl, _⟩ := h
    rfl
  · obtain ⟨p, ws, v, i, rfl, hp, R, hl60, q⟩ := h
    refine ⟨_, (pss_cons (ps_set (i := 3) sc_starts_of.nd rfl (Or.inl rfl) (pe_lst pa_nil))
  (pss_cons (ps_while PassesOwn.never (pt_cmpR op_lt (pv 2) (pe_callB call_lenS (by rfl) T.len_ (by decide +kernel) (pa_cons (pv 0) pa_nil)) (nomark _)) (pss_cons (ps_expr (pe_bm PySem.F.plainAttrs_list PySem.F.slot_list_append PySem.F.type_list_append mt_append (pv 3) (pa_cons (pv 2) pa_nil)))
  (pss_one (ps_set (i := 2) sc_starts_of.nd rfl (Or.inl rfl) (C8.pe_c C_next_index hr (by decide) rfl (pa_cons (pv 0) (pa_cons (pv 1) (pa_cons (pv 2) pa_nil))))))))
  (pss_one (ps_ret (pe_callTy call_tupS (by rfl) T.tuple_ (by decide +kernel) (pa_cons (pv 3) pa_nil)))))), ?_⟩
    rw [start_starts_of]
    walk_at "go"
    intro d n1
    generalize e1 : upd H d _ = H1
    have s1 := same_of e1 n1
    refine while_of (fun m σ H' => ∃ (j : Nat) (pr : List Int), Same H H' ∧ H' d = some (.lst (pr.map V.int)) ∧ pr ++ sts ws v j = sts ws v i ∧ m = ws.length - j ∧ σ = [some (.ref p), some (.int v), some (.int (j : Nat)), some (.ref d)])
      _ ⟨i, [], s1, there e1, rfl, rfl, rfl⟩ ?_
    rintro m σ H2 ⟨j, pr, sm, hd, he, hm, rfl⟩
    have hp2 := sm _ _ hp
    walk_at "go"
    refine ite2 (fun e => ?_) (fun e => ?_)
    · refine whG_of ?_
      have hj : j < ws.length := by omega
      have hlen : pr.length ≤ 60 := by
        have h1 := congrArg List.length he
        rw [List.length_append] at h1
        have := sts_len R i
        omega
      walk_at "go"
      refine ⟨.inl ⟨rfl, _, .inl (.inl hd)⟩, app_of hd (sz_lt (by rw [List.length_map]; omega)) ?_⟩
      generalize e3 : upd H2 d _ = H3
      have b3 := but_of e3
      have hp3 := b3 _ _ (ne_of hp2 hd (by intro z; cases z)) hp2
      walk_at "go"
      refine ⟨p, ws, v, j, rfl, hp3, R, hj, ?_⟩
      walk_at "go"
      refine ⟨ws.length - nx ws v j, ?_, nx ws v j, pr ++ [(j : Int)], ?_, ?_, ?_, rfl, rfl⟩
      · have := nx_gt R hj
        omega
      · subst e3
        exact same_mut sm n1
      · rw [there e3, List.map_append]
        rfl
      · rw [List.append_assoc, ← he, sts_cons R hj]
        rfl
    · rw [sts_end (by omega), List.append_nil] at he
      subst he
      walk_at "go"
      refine tupL_of hd fun a na => ?_
      exact q _ a (sm.trans (same_upd na)) upd_same
abbrev st_line_count : Stmt := topS 19
abbrev N_line_count : List Str := ["words", "width"]
theorem sc_line_count : FnScope N_line_count ["words", "width"] (C8.fnScope st_line_count) := C8.fnScope_by (by decide +kernel)
theorem start_line_count {v0 v1 : V} : L2.start N_line_count [v0, v1] = [some v0, some v1] := rfl
def spCount : Sp := fun vs H Q _ => ∃ (p : Addr) (ws : List Int) (v : Int), vs = [.ref p, .int v] ∧ H p = some (.tup (ws.map V.int)) ∧ Wd ws ∧ Fit ws v ∧ ∀ (H' : Hp), Same H H' → Q (.int (cnt ws v 0 : Nat)) H'
theorem ok_line_count (T : Bl mg) (D : DefAt K mg "line_count" st_line_count ["words", "width"]) (C_check_text : C8.Cal P w K mg base 5 "check_text" spChkText []) (C_starts_of : C8.Cal P w K mg base 2 "starts_of" spStarts []) : C8.Cal P w K mg base 6 "line_count" spCount [] := by
  refine cal_of D sc_line_count (fun vs H Q E h => ?_) (fun f cdv A outer s H vs Q E hr h => ?_)
  · obtain ⟨p, ws, v, rfl, _⟩ := h
    rfl
  · obtain ⟨p, ws, v, rfl, hp, hw, hf, q⟩ := h
    refine ⟨_, (pss_cons (ps_expr (C8.pe_c C_check_text hr (by decide) rfl (pa_cons (pv 0) (pa_cons (pv 1) pa_nil))))
  (pss_one (ps_ret (pe_callB call_lenS (by rfl) T.len_ (by decide +kernel) (pa_cons (C8.pe_c C_starts_of hr (by decide) rfl (pa_cons (pv 0) (pa_cons (pv 1) (pa_cons pe_int pa_nil)))) pa_nil))))), ?_⟩
    rw [start_line_count]
    walk_at "go"
    refine ⟨p, ws, v, rfl, hp, hw, hf, fun H1 s1 => ?_⟩
    walk_at "go"
    refine ⟨p, ws, v, 0, rfl, s1 _ _ hp, tx_of hw hf, hw.1, fun H2 a s2 h2 => ?_⟩
    walk_at "go"
    exact q _ (s1.trans s2)
abbrev st_count_at : Stmt := topS 21
abbrev N_count_at : List Str := ["words", "width"]
theorem sc_count_at : FnScope N_count_at ["words", "width"] (C8.fnScope st_count_at) := C8.fnScope_by (by decide +kernel)
theorem start_count_at {v0 v1 : V} : L2.start N_count_at [v0, v1] = [some v0, some v1] := rfl
def spCountAt : Sp := fun vs H Q _ => ∃ (p : Addr) (ws : List Int) (v : Int), vs = [.ref p, .int v] ∧ H p = some (.tup (ws.map V.int)) ∧ Tx ws v ∧ ws.length ≤ 60 ∧ ∀ (H' : Hp), Same H H' → Q (.int (cnt ws v 0 : Nat)) H'
theorem ok_count_at (T : Bl mg) (D : DefAt K mg "count_at" st_count_at ["words", "width"]) (C_starts_of : C8.Cal P w K mg base 2 "starts_of" spStarts []) : C8.Cal P w K mg base 3 "count_at" spCountAt [] := by
  refine cal_of D sc_count_at (fun vs H Q E h => ?_) (fun f cdv A outer s H vs Q E hr h => ?_)
  · obtain ⟨p, ws, v, rfl, _⟩ := h
    rfl
  · obtain ⟨p, ws, v, rfl, hp, R, hl, q⟩ := h
    refine ⟨_, (pss_one (ps_ret (pe_callB call_lenS (by rfl) T.len_ (by decide +kernel) (pa_cons (C8.pe_c C_starts_of hr (by decide) rfl (pa_cons (pv 0) (pa_cons (pv 1) (pa_cons pe_int pa_nil)))) pa_nil)))), ?_⟩
    rw [start_count_at]
    walk_at "go"
    refine ⟨p, ws, v, 0, rfl, hp, R, hl, fun H2 a s2 h2 => ?_⟩
    walk_at "go"
    exact q _ s2
abbrev st_law_fit : Stmt := topS 32
abbrev N_law_fit : List Str := ["_law_words_here", "_law_width", "_law_start", "_law_end_here"]
theorem sc_law_fit : FnScope N_law_fit ["_law_words_here", "_law_width", "_law_start", "_law_end_here"] (C8.fnScope st_law_fit) := C8.fnScope_by (by decide +kernel)
theorem start_law_fit {v0 v1 v2 v3 : V} : L2.start N_law_fit [v0, v1, v2, v3] = [some v0, some v1, some v2, some v3] := rfl
theorem sum_cut (ws : List Int) {s e : Nat} (h : s ≤ e) : ((ws.drop s).take (e - s)).sum = (ws.take e).sum - (ws.take s).sum := by
  have h1 : ws.take e = ws.take s ++ (ws.drop s).take (e - s) := by
    rw [← List.take_add, Nat.add_sub_cancel' h]
  rw [h1, List.sum_append]
  omega
theorem map_cut (ws : List Int) (s e : Nat) : ((ws.map V.int).drop s).take (e - s) = ((ws.drop s).take (e - s)).map V.int := by rw [List.map_take, List.map_drop]
def spLFit : Sp := fun vs H Q _ => ∃ (p : Addr) (ws : List Int) (v : Int) (s e : Nat), vs = [.ref p, .int v, .int s, .int e] ∧ H p = some (.tup (ws.map V.int)) ∧ s ≤ e ∧ ∀ (H' : Hp), Same H H' → Q (.bl (decide (pf ws e - pf ws s - 1 ≤ v))) H'
theorem ok_law_fit (T : Bl mg) (D : DefAt K mg "_law_fit" st_law_fit ["_law_words_here", "_law_width", "_law_start", "_law_end_here"]) : C8.Cal P w K mg base 1 "_law_fit" spLFit [] := by
  refine cal_of D sc_law_fit (fun vs H Q E h => ?_) (fun f cdv A outer s0 H vs Q E hr h => ?_)
  · obtain ⟨p, ws, v, s, e, rfl, _⟩ := h
    rfl
  · obtain ⟨p, ws, v, s, e, rfl, hp, hse, q⟩ := h
    refine ⟨_, (pss_one (ps_ret (pe_cmpR op_le (pe_op op_sub (pe_op op_sub (pe_op op_add (pe_callB (cr_sumT rfl) (by rfl) T.sum_ (by decide +kernel) (pa_cons (pe_slice sl_tupA (pv 0) (po_some (pv 2)) (po_some (pv 3))) pa_nil)) (pv 3)) (pv 2)) pe_int) (pv 1) (nomark _)))), ?_⟩
    rw [start_law_fit]
    walk_at "go"
    refine slA_of hp fun p2 H2 s2 h2 => ?_
    rw [cut_in _ (by omega) (by omega), Int.toNat_natCast, Int.toNat_natCast, map_cut] at h2
    refine sumT_of h2 ?_
    walk_at "go"
    rw [sum_cut ws hse]
    have := q H2 s2
    unfold pf at this
    rw [show (ws.take e).sum - (ws.take s).sum + (e : Int) - (s : Int) - 1 = (ws.take e).sum + (e : Int) - ((ws.take s).sum + (s : Int)) - 1 by omega]
    exact this
abbrev st_law_end : Stmt := topS 33
abbrev N_law_end : List Str := ["_law_words_here", "_law_width", "_law_start", "_law_end_here"]
theorem sc_law_end : FnScope N_law_end ["_law_words_here", "_law_width", "_law_start"] (C8.fnScope st_law_end) := C8.fnScope_by (by decide +kernel)
theorem start_law_end {v0 v1 v2 : V} : L2.start N_law_end [v0, v1, v2] = [some v0, some v1, some v2, none] := rfl
def spLEnd : Sp := fun vs H Q _ => ∃ (p : Addr) (ws : List Int) (v : Int) (i : Nat), vs = [.ref p, .int v, .int i] ∧ H p = some (.tup (ws.map V.int)) ∧ Tx ws v ∧ i < ws.length ∧ ∀ (H' : Hp), Same H H' → Q (.int (nx ws v i : Nat)) H'
theorem ok_law_end (T : Bl mg) (D : DefAt K mg "_law_end" st_law_end ["_law_words_here", "_law_width", "_law_start"]) (C_law_fit : C8.Cal P w K mg base 1 "_law_fit" spLFit []) : C8.Cal P w K mg base 2 "_law_end" spLEnd [] := by
  refine cal_of D sc_law_end (fun vs H Q E h => ?_) (fun f cdv A outer s0 H vs Q E hr h => ?_)
  · obtain ⟨p, ws, v, i, rfl, _⟩ := h
    rfl
  · obtain ⟨p, ws, v, i, rfl, hp, R, hi, q⟩ := h
    refine ⟨_, (pss_cons (ps_set (i := 3) sc_law_end.nd rfl (Or.inl rfl) (pe_op op_add (pv 2) pe_int))
  (pss_cons (ps_while PassesOwn.never (PW.pt (pw_and (pt_cmpR op_lt (pv 3) (pe_callB call_lenS (by rfl) T.len_ (by decide +kernel) (pa_cons (pv 0) pa_nil)) (nomark _)) (pw_and1 (pt_val (C8.pe_c C_law_fit hr (by decide) rfl (pa_cons (pv 0) (pa_cons (pv 1) (pa_cons (pv 2) (pa_cons (pe_op op_add (pv 3) pe_int) pa_nil))))))))) (pss_one (ps_set (i := 3) sc_law_end.nd rfl (Or.inl rfl) (pe_op op_add (pv 3) pe_int))))
  (pss_one (ps_ret (pv 3))))), ?_⟩
    rw [start_law_end]
    walk_at "go"
    refine while_of (fun m σ H' => ∃ j : Nat, Same H H' ∧ i < j ∧ j ≤ ws.length ∧ pf ws j ≤ pf ws i + v + 1 ∧ m = ws.length - j ∧ σ = [some (.ref p), some (.int v), some (.int (i : Nat)), some (.int (j : Nat))])
      _ ⟨i + 1, Same.refl H, Nat.lt_succ_self _, hi, (pf_step R hi).2, rfl, rfl⟩ ?_
    rintro m σ H2 ⟨j, sm, hij, hjn, hle, hm, rfl⟩
    have hp2 := sm _ _ hp
    walk_at "go"
    refine ite2 (fun e => ?_) (fun e => ?_)
    · have hj : j < ws.length := by omega
      refine ⟨p, ws, v, i, j + 1, rfl, hp2, by omega, fun H3 s3 => ?_⟩
      walk_at "go"
      refine ite2 (fun e3 => ?_) (fun e3 => ?_)
      · refine whG_of ?_
        walk_at "go"
        exact ⟨ws.length - (j + 1), by omega, j + 1, sm.trans s3, by omega, by omega, by omega, rfl, rfl⟩
      · rw [← nx_eq R hi hjn hle (.inr (by omega))]
        exact q H3 (sm.trans s3)
    · walk_at "go"
      rw [← nx_eq R hi hjn hle (.inl (by omega))]
      exact q H2 sm
abbrev st_law_greedy : Stmt := topS 34
abbrev N_law_greedy : List Str := ["_law_words_here", "_law_width", "_law_start", "_law_found"]
theorem sc_law_greedy : FnScope N_law_greedy ["_law_words_here", "_law_width", "_law_start"] (C8.fnScope st_law_greedy) := C8.fnScope_by (by decide +kernel)
theorem start_law_greedy {v0 v1 v2 : V} : L2.start N_law_greedy [v0, v1, v2] = [some v0, some v1, some v2, none] := rfl
theorem ok_law_greedy (T : Bl mg) (D : DefAt K mg "_law_greedy" st_law_greedy ["_law_words_here", "_law_width", "_law_start"]) (C_law_end : C8.Cal P w K mg base 2 "_law_end" spLEnd []) : C8.Cal P w K mg base 3 "_law_greedy" spStarts [] := by
  refine cal_of D sc_law_greedy (fun vs H Q E h => ?_) (fun f cdv A outer s H vs Q E hr h => ?_)
  · obtain ⟨p, ws, v, i, rfl, _⟩ := h
    rfl
  · obtain ⟨p, ws, v, i, rfl, hp, R, hl60, q⟩ := h
    refine ⟨_, (pss_cons (ps_set (i := 3) sc_law_greedy.nd rfl (Or.inl rfl) (pe_lst pa_nil))
  (pss_cons (ps_while PassesOwn.never (pt_cmpR op_lt (pv 2) (pe_callB call_lenS (by rfl) T.len_ (by decide +kernel) (pa_cons (pv 0) pa_nil)) (nomark _)) (pss_cons (ps_expr (pe_bm PySem.F.plainAttrs_list PySem.F.slot_list_append PySem.F.type_list_append mt_append (pv 3) (pa_cons (pv 2) pa_nil)))
  (pss_one (ps_set (i := 2) sc_law_greedy.nd rfl (Or.inl rfl) (C8.pe_c C_law_end hr (by decide) rfl (pa_cons (pv 0) (pa_cons (pv 1) (pa_cons (pv 2) pa_nil))))))))
  (pss_one (ps_ret (pe_callTy call_tupS (by rfl) T.tuple_ (by decide +kernel) (pa_cons (pv 3) pa_nil)))))), ?_⟩
    rw [start_law_greedy]
    walk_at "go"
    intro d n1
    generalize e1 : upd H d _ = H1
    have s1 := same_of e1 n1
    refine while_of (fun m σ H' => ∃ (j : Nat) (pr : List Int), Same H H' ∧ H' d = some (.lst (pr.map V.int)) ∧ pr ++ sts ws v j = sts ws v i ∧ m = ws.length - j ∧ σ = [some (.ref p), some (.int v), some (.int (j : Nat)), some (.ref d)])
      _ ⟨i, [], s1, there e1, rfl, rfl, rfl⟩ ?_
    rintro m σ H2 ⟨j, pr, sm, hd, he, hm, rfl⟩
    have hp2 := sm _ _ hp
    walk_at "go"
    refine ite2 (fun e => ?_) (fun e => ?_)
    · refine whG_of ?_
      have hj : j < ws.length := by omega
      have hlen : pr.length ≤ 60 := by
        have h1 := congrArg List.length he
        rw [List.length_append] at h1
        have := sts_len R i
        omega
      walk_at "go"
      refine ⟨.inl ⟨rfl, _, .inl (.inl hd)⟩, app_of hd (sz_lt (by rw [List.length_map]; omega)) ?_⟩
      generalize e3 : upd H2 d _ = H3
      have b3 := but_of e3
      have hp3 := b3 _ _ (ne_of hp2 hd (by intro z; cases z)) hp2
      walk_at "go"
      refine ⟨p, ws, v, j, rfl, hp3, R, hj, fun H4 s4 => ?_⟩
      walk_at "go"
      refine ⟨ws.length - nx ws v j, ?_, nx ws v j, pr ++ [(j : Int)], ?_, ?_, ?_, rfl, rfl⟩
      · have := nx_gt R hj
        omega
      · subst e3
        exact (same_mut sm n1).trans s4
      · rw [s4 _ _ (there e3), List.map_append]
        rfl
      · rw [List.append_assoc, ← he, sts_cons R hj]
        rfl
    · rw [sts_end (by omega), List.append_nil] at he
      subst he
      walk_at "go"
      refine tupL_of hd fun a na => ?_
      exact q _ a (sm.trans (same_upd na)) upd_same
end
end Ls
namespace Ls
/-! ### widths: the mathematics -/
/-- the narrowest width -/
def lo (ws : List Int) : Int := ws.foldr max 1
theorem lo_pos (ws : List Int) : 1 ≤ lo ws := by
  induction ws with
  | nil => exact Int.le_refl 1
  | cons x r ih => exact Int.le_trans ih (Int.le_max_right x _)
theorem lo_ge {ws : List Int} {x : Int} (h : x ∈ ws) : x ≤ lo ws := by
  induction ws with
  | nil => exact absurd h (by simp)
  | cons y r ih =>
    rcases List.mem_cons.mp h with rfl | h
    · exact Int.le_max_left _ _
    · exact Int.le_trans (ih h) (Int.le_max_right y _)
theorem lo_mem (ws : List Int) : lo ws ∈ 1 :: ws := by
  induction ws with
  | nil => exact List.mem_cons_self
  | cons x r ih =>
    show max x (lo r) ∈ 1 :: x :: r
    rcases Int.le_total x (lo r) with h | h
    · rw [Int.max_eq_right h]
      rcases List.mem_cons.mp ih with e | e
      · rw [e]; exact List.mem_cons_self
      · exact List.mem_cons_of_mem _ (List.mem_cons_of_mem _ e)
    · rw [Int.max_eq_left h]
      exact List.mem_cons_of_mem _ List.mem_cons_self
theorem lo_eq {ws : List Int} {m : Int} (h1 : m ∈ 1 :: ws) (h2 : ∀ y ∈ 1 :: ws, y ≤ m) : m = lo ws := by
  have a := h2 _ (lo_mem ws)
  rcases List.mem_cons.mp h1 with rfl | h
  · have := lo_pos ws
    omega
  · have := lo_ge h
    omega
theorem lo_eq' {ws : List Int} {m : Int} (hp : ∀ x ∈ ws, 1 ≤ x) (h1 : m ∈ ws) (h2 : ∀ y ∈ ws, y ≤ m) : m = lo ws := lo_eq (List.mem_cons_of_mem _ h1) fun y hy => by
  rcases List.mem_cons.mp hy with rfl | h
  · exact hp m h1
  · exact h2 y h
theorem lo_le {ws : List Int} (h : ∀ x ∈ ws, 1 ≤ x ∧ x ≤ 40) : lo ws ≤ 40 := by
  rcases List.mem_cons.mp (lo_mem ws) with e | e
  · omega
  · exact (h _ e).2
theorem tx_lo {ws : List Int} (h : ∀ x ∈ ws, 1 ≤ x ∧ x ≤ 40) {u : Int} (hu : lo ws ≤ u) : Tx ws u := ⟨fun x hx => (h x hx).1, fun x hx => Int.le_trans (lo_ge hx) hu⟩
/-- the smallest width with at most l lines -/
def IsNar (ws : List Int) (l v : Int) : Prop := lo ws ≤ v ∧ v ≤ 2500 ∧ (cnt ws v 0 : Int) ≤ l ∧ ∀ u, lo ws ≤ u → u < v → l < (cnt ws u 0 : Int)
theorem nar_eq {ws : List Int} {l v v' : Int} (h : IsNar ws l v) (h' : IsNar ws l v') : v = v' := by
  obtain ⟨a1, a2, a3, a4⟩ := h
  obtain ⟨b1, b2, b3, b4⟩ := h'
  rcases Int.lt_trichotomy v v' with g | g | g
  · have := b4 v a1 g
    omega
  · exact g
  · have := a4 v' b1 g
    omega
/-- a width is a step: the first, or of fewer lines than the one before -/
def isStep (ws : List Int) (k : Nat) : Bool := decide (k = 0) || decide (cnt ws (lo ws + k) 0 < cnt ws (lo ws + k - 1) 0)
/-- the steps among the first k widths -/
def stepsK (ws : List Int) (k : Nat) : List (Int × Int) := ((List.range k).filter (isStep ws)).map fun (j : Nat) => (lo ws + (j : Int), (cnt ws (lo ws + (j : Int)) 0 : Int))
theorem stepsK_zero (ws : List Int) : stepsK ws 0 = [] := rfl
theorem stepsK_one (ws : List Int) : stepsK ws 1 = [(lo ws, (cnt ws (lo ws) 0 : Int))] := by
  unfold stepsK
  show ((List.filter (isStep ws) [0]).map _) = _
  rw [List.filter_cons, if_pos (by unfold isStep; simp)]
  simp
theorem stepsK_yes {ws : List Int} {k : Nat} (h : isStep ws k = true) : stepsK ws (k + 1) = stepsK ws k ++ [(lo ws + k, (cnt ws (lo ws + k) 0 : Int))] := by
  unfold stepsK
  rw [List.range_succ, List.filter_append, List.filter_cons, if_pos h, List.map_append]
  rfl
theorem stepsK_no {ws : List Int} {k : Nat} (h : isStep ws k = false) : stepsK ws (k + 1) = stepsK ws k := by
  unfold stepsK
  rw [List.range_succ, List.filter_append, List.filter_cons, if_neg (by rw [h]; decide)]
  show ((_ ++ []) : List Nat).map _ = _
  rw [List.append_nil]
section
variable {ws : List Int} (hw : ∀ x ∈ ws, 1 ≤ x ∧ x ≤ 40)
include hw
theorem cnt_w {u u' : Int} (h : lo ws ≤ u) (h2 : u ≤ u') (i : Nat) : cnt ws u' i ≤ cnt ws u i := cnt_anti (tx_lo hw h) h2 i
theorem stepsK_last (k : Nat) : ∃ (r : List (Int × Int)) (x : Int), stepsK ws (k + 1) = r ++ [(x, (cnt ws (lo ws + k) 0 : Int))] := by
  induction k with
  | zero => exact ⟨[], lo ws, by rw [stepsK_one]; simp⟩
  | succ k ih =>
    cases h : isStep ws (k + 1) with
    | true => exact ⟨_, _, stepsK_yes h⟩
    | false =>
      obtain ⟨r, x, e⟩ := ih
      refine ⟨r, x, ?_⟩
      rw [stepsK_no h, e]
      unfold isStep at h
      rw [Bool.or_eq_false_iff] at h
      have h2 := of_decide_eq_false h.2
      have h3 := cnt_w hw (u := lo ws + k) (u' := lo ws + (k + 1 : Nat)) (by omega) (by omega) 0
      rw [show lo ws + ((k + 1 : Nat) : Int) - 1 = lo ws + k by omega] at h2
      rw [show cnt ws (lo ws + ((k + 1 : Nat) : Int)) 0 = cnt ws (lo ws + k) 0 by omega]
/-- widths of the same number of lines are no steps -/
theorem stepsK_flat {k : Nat} : ∀ d : Nat, (∀ j : Nat, k ≤ j → j < k + d → cnt ws (lo ws + j) 0 = cnt ws (lo ws + j - 1) 0) → 0 < k → stepsK ws (k + d) = stepsK ws k
  | 0, _, _ => rfl
  | d + 1, h, hk => by
    rw [← Nat.add_assoc, stepsK_no, stepsK_flat d (fun j h1 h2 => h j h1 (by omega)) hk]
    unfold isStep
    rw [h (k + d) (by omega) (by omega)]
    simp
    omega
end
end Ls
namespace Ls
open PySem PySem.Spec PyProof.Rows L2 RZ
local macro_rules | `(tactic| walk_at "cond") => `(tactic| first
  | exact (by decide)
  | exact (Nat.le_of_ble_eq_true rfl)
  | exact ⟨by decide, by decide, by decide⟩
  | exact ⟨by decide, by decide⟩
  | (with_reducible assumption)
  | exact Or.inl ⟨by omega, by omega⟩
  | exact Or.inr ⟨by omega, by omega⟩
  | exact ⟨by omega, by omega, by omega⟩
  | exact wide_div (b := 61) (by omega) (by omega) (by decide) (by decide)
  | (with_reducible omega))
local macro_rules | `(tactic| walk_at "at") => `(tactic| first | assumption | exact upd_same)
local macro_rules | `(tactic| walk_at "sim") => `(tactic| simp only [tSeq, tAsg, gName, tOp, tC, tVar, tRet, tRetN, tIfS, tTest, tB, tNext, tDrop, tNever, tCons, tNil, tTup, tLst, tUn, tAnd, tOr, tNot, tAndV, tOrV, tNotV, tIf, tCB, tCall, gSub, gTup, gCons, gNil, tPar, tPar3,
  tSl, tPart, tLc_eq, tFor_eq, tDIn_eq, tDNotIn_eq, tDGet_eq, sDPut_eq, tDNewK, C8.tCut, tYes, iEnum_eq, iList_eq, iTup_eq, iRng1_eq, iRng2_eq, iZipA_eq, wipe, tBM, List.map_cons, List.map_nil, List.length_map,  tNoPart, tChain, List.getElem?_cons_zero, List.getElem?_cons_succ, List.set_cons_zero, List.set_cons_succ, List.append_nil,
  s_I0, s_I, s_U, s_bl, s_int, s_some, s_eqI, s_neI, s_par2, s_par3, s_abs, s_max2, s_min2, s_cons, true_and, decide_eq_true_eq, Bool.not_eq_true', decide_eq_false_iff_not, if_true, Bool.true_eq_false, reduceCtorEq, reduceIte, Bool.false_eq_true, if_false, ite_true, ite_false])
local macro_rules | `(tactic| walk_at "go1") => `(tactic| first
  | ((with_reducible refine' And.intro ?k1 ?_); (case k1 => walk_at "cond"))
  | ((with_reducible refine' ixL_of ?k1 ?k2 ?_); (case k1 => walk_at "at"); (case k2 => rfl))
  | ((with_reducible refine' ixT_of ?k1 ?k2 ?_); (case k1 => walk_at "at"); (case k2 => rfl))
  | ((with_reducible refine' setL_of ?k1 ?k2 ?_); (case k1 => walk_at "at"); (case k2 => rfl))
  | ((with_reducible refine' lenT_of ?k1 ?_); (case k1 => walk_at "at"))
  | ((with_reducible refine' lenL_of ?k1 ?_); (case k1 => walk_at "at"))
  | (with_reducible refine isi_int ?_)
  | (with_reducible refine isi_int_bool ?_)
  | ((with_reducible refine' isi_tup ?k1 ?_); (case k1 => walk_at "at"))
  | walk_at "sim")
local macro_rules | `(tactic| walk_at "go") => `(tactic| repeat (walk_at "go1"))
section
variable {P : Program} {w : World} {K : PySem.W.Frag} {mg : Str → Option Value} {base : Heap}
/-! ### widths.py -/
abbrev st_narrowest : Stmt := topS 22
abbrev N_narrowest : List Str := ["words", "lines", "low", "high", "middle"]
theorem sc_narrowest : FnScope N_narrowest ["words", "lines"] (C8.fnScope st_narrowest) := C8.fnScope_by (by decide +kernel)
theorem start_narrowest {v0 v1 : V} : L2.start N_narrowest [v0, v1] = [some v0, some v1, none, none, none] := rfl
def spNar : Sp := fun vs H Q _ => ∃ (p : Addr) (ws : List Int) (l : Int), vs = [.ref p, .int l] ∧ H p = some (.tup (ws.map V.int)) ∧ Wd ws ∧ (cnt ws 2500 0 : Int) ≤ l ∧ ∀ (H' : Hp) (v : Int), Same H H' → IsNar ws l v → Q (.int v) H'
theorem ok_narrowest (T : Bx mg) (D : DefAt K mg "narrowest" st_narrowest ["words", "lines"]) (C_count_at : C8.Cal P w K mg base 3 "count_at" spCountAt []) : C8.Cal P w K mg base 4 "narrowest" spNar [] := by
  refine cal_of D sc_narrowest (fun vs H Q E h => ?_) (fun f cdv A outer s H vs Q E hr h => ?_)
  · obtain ⟨p, ws, l, rfl, _⟩ := h
    rfl
  · obtain ⟨p, ws, l, rfl, hp, hw, hl, q⟩ := h
    refine ⟨_, (pss_cons (ps_par (i := 2) (j := 3) (by rfl) sc_narrowest.nd rfl rfl (by decide) rfl rfl (pa_cons (pe_callB (cr_maxT rfl) (by rfl) T.max_ (by decide +kernel) (pa_cons (pe_op op_catA (pe_tup (pa_cons pe_int pa_nil)) (pv 0)) pa_nil)) (pa_cons (C8.pe_gc rfl T.mx) pa_nil)) (by rfl))
  (pss_cons (ps_while PassesOwn.never (pt_cmpR op_lt (pv 2) (pv 3) (nomark _)) (pss_cons (ps_set (i := 4) sc_narrowest.nd rfl (Or.inl rfl) (pe_op op_fdivW (pe_op op_add (pv 2) (pv 3)) pe_int))
  (pss_one (ps_if (pt_cmpR op_le (C8.pe_c C_count_at hr (by decide) rfl (pa_cons (pv 0) (pa_cons (pv 4) pa_nil))) (pv 1) (nomark _)) (pss_one (ps_set (i := 3) sc_narrowest.nd rfl (Or.inl rfl) (pv 4))) (pss_one (ps_set (i := 2) sc_narrowest.nd rfl (Or.inl rfl) (pe_op op_add (pv 4) pe_int)))))))
  (pss_one (ps_ret (pv 2))))), ?_⟩
    rw [start_narrowest]
    walk_at "go"
    intro p1 n1
    generalize e1 : upd H p1 _ = H1
    have s1 := same_of e1 n1
    refine catA_of (there e1) (s1 _ _ hp) (sz_of (by rw [List.length_singleton, List.length_map]; have := hw.1; omega)) fun p2 H2 s2 h2 => ?_
    walk_at "go"
    refine maxT_of (ns := 1 :: ws) h2 (by rw [List.length_cons]; omega) fun m hm hmx => ?_
    have em := lo_eq hm hmx
    subst em
    have h40 := lo_le hw.2
    walk_at "go"
    have s12 := s1.trans s2
    refine while_of (fun m σ H' => ∃ a b : Int, Same H H' ∧ lo ws ≤ a ∧ a ≤ b ∧ b ≤ 2500 ∧ (cnt ws b 0 : Int) ≤ l ∧ (∀ u, lo ws ≤ u → u < a → l < (cnt ws u 0 : Int)) ∧ m = (b - a).toNat ∧ ∃ y, σ = [some (.ref p), some (.int l), some (.int a), some (.int b), y])
      _ ⟨lo ws, 2500, s12, Int.le_refl _, by omega, Int.le_refl _, hl, fun u h1 h2 => by omega, rfl, none, rfl⟩ ?_
    rintro m σ H3 ⟨a, b, sm, ha, hab, hb, hcb, hu, hm, y, rfl⟩
    have hp3 := sm _ _ hp
    walk_at "go"
    refine ite2 (fun e => ?_) (fun e => ?_)
    · refine whG_of ?_
      walk_at "go"
      refine ⟨p, ws, _, rfl, hp3, tx_lo hw.2 (by omega), hw.1, fun H4 s4 => ?_⟩
      walk_at "go"
      refine ite2 (fun e4 => ?_) (fun e4 => ?_)
      · refine ⟨_, ?_, a, (a + b) / 2, sm.trans s4, ha, by omega, by omega, e4, hu, rfl, _, rfl⟩
        omega
      · walk_at "go"
        refine ⟨_, ?_, (a + b) / 2 + 1, b, sm.trans s4, by omega, by omega, hb, hcb, fun u h1 h2 => ?_, rfl, _, rfl⟩
        · omega
        · have := cnt_w hw.2 h1 (show u ≤ (a + b) / 2 by omega) 0
          omega
    · have e2 : a = b := by omega
      subst e2
      walk_at "go"
      exact q H3 a sm ⟨ha, hb, hcb, hu⟩
abbrev st_least_width : Stmt := topS 23
abbrev N_least_width : List Str := ["words", "lines"]
theorem sc_least_width : FnScope N_least_width ["words", "lines"] (C8.fnScope st_least_width) := C8.fnScope_by (by decide +kernel)
theorem start_least_width {v0 v1 : V} : L2.start N_least_width [v0, v1] = [some v0, some v1] := rfl
def spLeast : Sp := fun vs H Q _ => ∃ (p : Addr) (ws : List Int) (l : Int), vs = [.ref p, .int l] ∧ H p = some (.tup (ws.map V.int)) ∧ Wd ws ∧ 1 ≤ l ∧ l ≤ ws.length ∧ (cnt ws 2500 0 : Int) ≤ l ∧ ∀ (H' : Hp) (v : Int), Same H H' → IsNar ws l v → Q (.int v) H'
theorem ok_least_width (T : Bl mg) (D : DefAt K mg "least_width" st_least_width ["words", "lines"]) (C_check_words : C8.Cal P w K mg base 4 "check_words" spChkWords []) (C_check_count : C8.Cal P w K mg base 3 "check_count" spChkCount []) (C_narrowest : C8.Cal P w K mg base 4 "narrowest" spNar []) : C8.Cal P w K mg base 5 "least_width" spLeast [] := by
  refine cal_of D sc_least_width (fun vs H Q E h => ?_) (fun f cdv A outer s H vs Q E hr h => ?_)
  · obtain ⟨p, ws, l, rfl, _⟩ := h
    rfl
  · obtain ⟨p, ws, l, rfl, hp, hw, hl1, hln, hl, q⟩ := h
    refine ⟨_, (pss_cons (ps_expr (C8.pe_c C_check_words hr (by decide) rfl (pa_cons (pv 0) pa_nil)))
  (pss_cons (ps_expr (C8.pe_c C_check_count hr (by decide) rfl (pa_cons (pv 1) (pa_cons pe_int (pa_cons (pe_callB call_lenS (by rfl) T.len_ (by decide +kernel) (pa_cons (pv 0) pa_nil)) pa_nil)))))
  (pss_one (ps_ret (C8.pe_c C_narrowest hr (by decide) rfl (pa_cons (pv 0) (pa_cons (pv 1) pa_nil))))))), ?_⟩
    rw [start_least_width]
    walk_at "go"
    refine ⟨p, ws, rfl, hp, hw, fun H1 s1 => ?_⟩
    have hp1 := s1 _ _ hp
    walk_at "go"
    refine ⟨_, _, _, rfl, hl1, hln, ?_⟩
    walk_at "go"
    exact ⟨p, ws, l, rfl, hp1, hw, hl, fun H2 v s2 h2 => q H2 v (s1.trans s2) h2⟩
/-- pairs of ints, each in a tuple of its own -/
def PAt (H : Hp) : List Addr → List (Int × Int) → Prop
  | [], [] => True
  | t :: ts, s :: S => H t = some (.tup [.int s.1, .int s.2]) ∧ PAt H ts S
  | _, _ => False
theorem PAt.len {H : Hp} : ∀ {ts : List Addr} {S : List (Int × Int)}, PAt H ts S → ts.length = S.length
  | [], [], _ => rfl
  | _ :: ts, _ :: S, h => by rw [List.length_cons, List.length_cons, PAt.len h.2]
  | [], _ :: _, h => h.elim
  | _ :: _, [], h => h.elim
theorem PAt.to {H H' : Hp} (e : ∀ b xs, H b = some (.tup xs) → H' b = some (.tup xs)) : ∀ {ts : List Addr} {S : List (Int × Int)}, PAt H ts S → PAt H' ts S
  | [], [], _ => True.intro
  | _ :: ts, _ :: S, h => ⟨e _ _ h.1, PAt.to e h.2⟩
  | [], _ :: _, h => h.elim
  | _ :: _, [], h => h.elim
theorem PAt.snoc {H : Hp} {t : Addr} {x y : Int} (ht : H t = some (.tup [.int x, .int y])) : ∀ {ts : List Addr} {S : List (Int × Int)}, PAt H ts S → PAt H (ts ++ [t]) (S ++ [(x, y)])
  | [], [], _ => ⟨ht, True.intro⟩
  | _ :: ts, _ :: S, h => ⟨h.1, PAt.snoc ht h.2⟩
  | [], _ :: _, h => h.elim
  | _ :: _, [], h => h.elim
theorem PAt.at {H : Hp} : ∀ {ts : List Addr} {S : List (Int × Int)} {i : Nat} {s : Int × Int}, PAt H ts S → S[i]? = some s → ∃ t, ts[i]? = some t ∧ H t = some (.tup [.int s.1, .int s.2])
  | [], [], i, s, _, h => by simp at h
  | t :: ts, _ :: S, 0, s, p, h => by
    have e := Option.some.inj h
    subst e
    exact ⟨t, rfl, p.1⟩
  | _ :: ts, _ :: S, i + 1, s, p, h => PAt.at (i := i) p.2 h
  | [], _ :: _, _, _, h, _ => h.elim
  | _ :: _, [], _, _, h, _ => h.elim
theorem PAt.last {H : Hp} {r : List (Int × Int)} {s : Int × Int} {ts : List Addr} (h : PAt H ts (r ++ [s])) : ∃ rs t, ts = rs ++ [t] ∧ PAt H rs r ∧ H t = some (.tup [.int s.1, .int s.2]) := by
  induction r generalizing ts with
  | nil =>
    cases ts with
    | nil => exact h.elim
    | cons t ts =>
      cases ts with
      | nil => exact ⟨[], t, rfl, True.intro, h.1⟩
      | cons _ _ => exact h.2.elim
  | cons x r ih =>
    cases ts with
    | nil => exact h.elim
    | cons t ts =>
      obtain ⟨rs, t2, e, h1, h2⟩ := ih h.2
      exact ⟨t :: rs, t2, by rw [e]; rfl, ⟨h.1, h1⟩, h2⟩
abbrev st_width_steps : Stmt := topS 24
abbrev N_width_steps : List Str := ["words", "width", "steps"]
theorem sc_width_steps : FnScope N_width_steps ["words"] (C8.fnScope st_width_steps) := C8.fnScope_by (by decide +kernel)
theorem start_width_steps {v0 : V} : L2.start N_width_steps [v0] = [some v0, none, none] := rfl
/-- the steps up to the first width with one line or none -/
def IsSteps (ws : List Int) (S : List (Int × Int)) : Prop := ∃ k : Nat, S = stepsK ws (k + 1) ∧ lo ws + k ≤ 2500 ∧ cnt ws (lo ws + k) 0 ≤ 1 ∧ isStep ws k = true
def spSteps : Sp := fun vs H Q _ => ∃ (p : Addr) (ws : List Int), vs = [.ref p] ∧ H p = some (.tup (ws.map V.int)) ∧ Wd ws ∧ cnt ws 2500 0 ≤ 1 ∧ ∀ (H' : Hp) (d : Addr) (ts : List Addr) (S : List (Int × Int)), Same H H' → H d = none → H' d = some (.lst (ts.map V.ref)) → PAt H' ts S → IsSteps ws S → Q (.ref d) H'
theorem ok_width_steps (T : Bl mg) (D : DefAt K mg "width_steps" st_width_steps ["words"]) (C_check_words : C8.Cal P w K mg base 4 "check_words" spChkWords []) (C_count_at : C8.Cal P w K mg base 3 "count_at" spCountAt []) (C_narrowest : C8.Cal P w K mg base 4 "narrowest" spNar []) : C8.Cal P w K mg base 5 "width_steps" spSteps [] := by
  refine cal_of D sc_width_steps (fun vs H Q E h => ?_) (fun f cdv A outer s H vs Q E hr h => ?_)
  · obtain ⟨p, ws, rfl, _⟩ := h
    rfl
  · obtain ⟨p, ws, rfl, hp, hw, hc1, q⟩ := h
    refine ⟨_, (pss_cons (ps_expr (C8.pe_c C_check_words hr (by decide) rfl (pa_cons (pv 0) pa_nil)))
  (pss_cons (ps_set (i := 1) sc_width_steps.nd rfl (Or.inl rfl) (pe_callB (cr_maxT rfl) (by rfl) T.max_ (by decide +kernel) (pa_cons (pe_op op_catA (pe_tup (pa_cons pe_int pa_nil)) (pv 0)) pa_nil)))
  (pss_cons (ps_set (i := 2) sc_width_steps.nd rfl (Or.inl rfl) (pe_lst (pa_cons (pe_tup (pa_cons (pv 1) (pa_cons (C8.pe_c C_count_at hr (by decide) rfl (pa_cons (pv 0) (pa_cons (pv 1) pa_nil))) pa_nil))) pa_nil)))
  (pss_cons (ps_while PassesOwn.never (pt_cmpR op_gt (pe_ix ix_tup (pe_ix ix_list (pv 2) (pe_un un_neg pe_int) (fun _ _ => rfl)) pe_int (fun _ _ => rfl)) pe_int (nomark _)) (pss_cons (ps_set (i := 1) sc_width_steps.nd rfl (Or.inl rfl) (C8.pe_c C_narrowest hr (by decide) rfl (pa_cons (pv 0) (pa_cons (pe_op op_sub (pe_ix ix_tup (pe_ix ix_list (pv 2) (pe_un un_neg pe_int) (fun _ _ => rfl)) pe_int (fun _ _ => rfl)) pe_int) pa_nil))))
  (pss_one (ps_expr (pe_bm PySem.F.plainAttrs_list PySem.F.slot_list_append PySem.F.type_list_append mt_append (pv 2) (pa_cons (pe_tup (pa_cons (pv 1) (pa_cons (C8.pe_c C_count_at hr (by decide) rfl (pa_cons (pv 0) (pa_cons (pv 1) pa_nil))) pa_nil))) pa_nil))))))
  (pss_one (ps_ret (pv 2))))))), ?_⟩
    rw [start_width_steps]
    walk_at "go"
    refine ⟨p, ws, rfl, hp, hw, fun H0 s0 => ?_⟩
    walk_at "go"
    intro p1 n1
    generalize e1 : upd H0 p1 _ = H1
    have s1 := same_of e1 n1
    refine catA_of (there e1) (s1 _ _ (s0 _ _ hp)) (sz_of (by rw [List.length_singleton, List.length_map]; have := hw.1; omega)) fun p2 H2 s2 h2 => ?_
    walk_at "go"
    refine maxT_of (ns := 1 :: ws) h2 (by rw [List.length_cons]; omega) fun m hm hmx => ?_
    have em := lo_eq hm hmx
    subst em
    have h40 := lo_le hw.2
    walk_at "go"
    have s02 := s0.trans (s1.trans s2)
    refine ⟨p, ws, _, rfl, s02 _ _ hp, tx_lo hw.2 (Int.le_refl _), hw.1, fun H3 s3 => ?_⟩
    walk_at "go"
    intro t nt
    generalize e4 : upd H3 t _ = H4
    have s4 := same_of e4 nt
    walk_at "go"
    intro d nd
    generalize e5 : upd H4 d _ = H5
    have s5 := same_of e5 nd
    have s05 := s02.trans (s3.trans (s4.trans s5))
    have nd0 : H d = none := fresh_back (s02.trans (s3.trans s4)) nd
    refine while_of (fun m σ H' => ∃ (k : Nat) (ts : List Addr) (y : Option V), Same H H' ∧ H' d = some (.lst (ts.map V.ref)) ∧ PAt H' ts (stepsK ws (k + 1)) ∧ isStep ws k = true ∧ lo ws + k ≤ 2500 ∧ m = cnt ws (lo ws + k) 0 ∧ σ = [some (.ref p), y, some (.ref d)])
      _ ⟨0, [t], _, s05, there e5, by rw [stepsK_one]; exact ⟨s5 _ _ (there e4), True.intro⟩, by unfold isStep; simp, by simp; omega, rfl, rfl⟩ ?_
    rintro m σ H6 ⟨k, ts, y, sm, hd, hP, hst, hk, hm2, rfl⟩
    obtain ⟨r, x, er⟩ := stepsK_last hw.2 k
    have hP0 := hP
    rw [er] at hP
    obtain ⟨rs, tl, rfl, hPr, htl⟩ := hP.last
    have hd' := hd
    rw [List.map_append] at hd
    have hp6 := sm _ _ hp
    walk_at "go"
    refine ixL_of hd (atI_last _ _) ?_
    refine ixT_of htl rfl ?_
    walk_at "go"
    refine ite2 (fun e => ?_) (fun e => ?_)
    · refine whG_of ?_
      walk_at "go"
      refine ixL_of hd (atI_last _ _) ?_
      refine ixT_of htl rfl ?_
      walk_at "go"
      refine ⟨p, ws, _, rfl, hp6, hw, by omega, fun H7 v s7 ⟨v1, v2, v3, v4⟩ => ?_⟩
      have hkv : lo ws + k < v := by
        rcases Int.lt_or_le (lo ws + k) v with g | g
        · exact g
        · have := cnt_w hw.2 v1 g 0
          omega
      obtain ⟨k', rfl⟩ : ∃ k' : Nat, v = lo ws + k' := ⟨(v - lo ws).toNat, by omega⟩
      have hd7 := s7 _ _ hd'
      have hp7 := s7 _ _ hp6
      walk_at "go"
      refine ⟨.inl ⟨rfl, _, .inl (.inl hd7)⟩, p, ws, _, rfl, hp7, tx_lo hw.2 (by omega), hw.1, fun H8 s8 => ?_⟩
      walk_at "go"
      intro t9 n9
      generalize e9 : upd H8 t9 _ = H9
      have s9 := same_of e9 n9
      have hd9 := s9 _ _ (s8 _ _ hd7)
      have hlen : (rs ++ [tl]).length ≤ 2600 := by
        rw [hP0.len]
        unfold stepsK
        rw [List.length_map]
        have := List.length_filter_le (isStep ws) (List.range (k + 1))
        rw [List.length_range] at this
        have := lo_pos ws
        omega
      refine app_of hd9 (sz_lt (by rw [List.length_map]; omega)) ?_
      generalize e10 : upd H9 d _ = H10
      have b10 := but_of e10
      have tk : ∀ b xs, H9 b = some (.tup xs) → H10 b = some (.tup xs) := fun b xs hb => b10 _ _ (ne_of hb hd9 (by intro z; cases z)) hb
      have sflat : ∀ j : Nat, k + 1 ≤ j → j < k' → cnt ws (lo ws + j) 0 = cnt ws (lo ws + k) 0 := fun j h1 h2 => by
        have a1 := v4 (lo ws + j) (by omega) (by omega)
        have a2 := cnt_w hw.2 (u := lo ws + k) (u' := lo ws + j) (by omega) (by omega) 0
        omega
      have hprev : cnt ws (lo ws + k' - 1) 0 = cnt ws (lo ws + k) 0 := by
        rcases Nat.lt_or_ge (k + 1) k' with g | g
        · have := sflat (k' - 1) (by omega) (by omega)
          rw [show lo ws + (k' : Int) - 1 = lo ws + ((k' - 1 : Nat) : Int) by omega]
          exact this
        · rw [show lo ws + (k' : Int) - 1 = lo ws + k by omega]
      have hst' : isStep ws k' = true := by
        unfold isStep
        rw [hprev, decide_eq_true (show cnt ws (lo ws + k') 0 < cnt ws (lo ws + k) 0 by omega), Bool.or_true]
      have eS : stepsK ws (k' + 1) = stepsK ws (k + 1) ++ [(lo ws + (k' : Int), (cnt ws (lo ws + (k' : Int)) 0 : Int))] := by
        rw [stepsK_yes hst']
        congr 1
        have := stepsK_flat hw.2 (k := k + 1) (k' - (k + 1)) (fun j h1 h2 => by
          rw [sflat j h1 (by omega)]
          rcases Nat.lt_or_ge (k + 1) j with g | g
          · have := sflat (j - 1) (by omega) (by omega)
            rw [show lo ws + (j : Int) - 1 = lo ws + ((j - 1 : Nat) : Int) by omega]
            exact this.symm
          · rw [show lo ws + (j : Int) - 1 = lo ws + k by omega]) (by omega)
        rw [Nat.add_sub_cancel' (by omega)] at this
        exact this
      refine ⟨_, ?_, k', (rs ++ [tl]) ++ [t9], _, ?_, ?_, ?_, hst', v2, rfl, rfl⟩
      · omega
      · subst e10
        exact same_mut (sm.trans (s7.trans (s8.trans s9))) nd0
      · rw [there e10, List.map_append (l₁ := rs ++ [tl])]
        rfl
      · rw [eS]
        exact PAt.snoc (tk _ _ (there e9)) (hP0.to fun b xs hb => tk _ _ (s9 _ _ (s8 _ _ (s7 _ _ hb))))
    · walk_at "go"
      exact q H6 d (rs ++ [tl]) (stepsK ws (k + 1)) sm nd0 hd' hP0 ⟨k, rfl, hk, by omega, hst⟩
abbrev st_widths_of_count : Stmt := topS 25
abbrev N_widths_of_count : List Str := ["words", "lines", "low"]
theorem sc_widths_of_count : FnScope N_widths_of_count ["words", "lines"] (C8.fnScope st_widths_of_count) := C8.fnScope_by (by decide +kernel)
theorem start_widths_of_count {v0 v1 : V} : L2.start N_widths_of_count [v0, v1] = [some v0, some v1, none] := rfl
/-- the smallest and the largest width with l lines -/
def IsWoc (ws : List Int) (l : Int) : Option (Int × Int) → Prop
  | none => ∀ u, lo ws ≤ u → u ≤ 2500 → (cnt ws u 0 : Int) ≠ l
  | some (a, b) => lo ws ≤ a ∧ a ≤ b ∧ b ≤ 2500 ∧ (cnt ws a 0 : Int) = l ∧ (cnt ws b 0 : Int) = l ∧ (∀ u, lo ws ≤ u → u < a → (cnt ws u 0 : Int) ≠ l) ∧ ∀ u, b < u → u ≤ 2500 → (cnt ws u 0 : Int) ≠ l
theorem woc_eq {ws : List Int} {l : Int} {r r' : Option (Int × Int)} (h : IsWoc ws l r) (h' : IsWoc ws l r') : r = r' := by
  match r, r', h, h' with
  | none, none, _, _ => rfl
  | none, some (a, b), h, ⟨h1, h2, h3, h4, _⟩ => exact absurd h4 (h a h1 (by omega))
  | some (a, b), none, ⟨h1, h2, h3, h4, _⟩, h => exact absurd h4 (h a h1 (by omega))
  | some (a, b), some (a', b'), ⟨h1, h2, h3, h4, h5, h6, h7⟩, ⟨g1, g2, g3, g4, g5, g6, g7⟩ =>
    have e1 : a = a' := by
      rcases Int.lt_trichotomy a a' with g | g | g
      · exact absurd h4 (g6 a h1 g)
      · exact g
      · exact absurd g4 (h6 a' g1 g)
    have e2 : b = b' := by
      rcases Int.lt_trichotomy b b' with g | g | g
      · exact absurd g5 (h7 b' g g3)
      · exact g
      · exact absurd h5 (g7 b g h3)
    rw [e1, e2]
def spWoc : Sp := fun vs H Q _ => ∃ (p : Addr) (ws : List Int) (l : Int), vs = [.ref p, .int l] ∧ H p = some (.tup (ws.map V.int)) ∧ Wd ws ∧ 0 ≤ l ∧ l ≤ ws.length ∧ cnt ws 2500 0 ≤ 1 ∧
  (∀ H', Same H H' → IsWoc ws l none → Q .non H') ∧ ∀ (H' : Hp) (t : Addr) (a b : Int), Same H H' → H' t = some (.tup [.int a, .int b]) → IsWoc ws l (some (a, b)) → Q (.ref t) H'
theorem ok_widths_of_count (T : Bx mg) (D : DefAt K mg "widths_of_count" st_widths_of_count ["words", "lines"]) (C_check_words : C8.Cal P w K mg base 4 "check_words" spChkWords []) (C_check_count : C8.Cal P w K mg base 3 "check_count" spChkCount []) (C_narrowest : C8.Cal P w K mg base 4 "narrowest" spNar []) (C_count_at : C8.Cal P w K mg base 3 "count_at" spCountAt []) : C8.Cal P w K mg base 5 "widths_of_count" spWoc [] := by
  refine cal_of D sc_widths_of_count (fun vs H Q E h => ?_) (fun f cdv A outer s H vs Q E hr h => ?_)
  · obtain ⟨p, ws, l, rfl, _⟩ := h
    rfl
  · obtain ⟨p, ws, l, rfl, hp, hw, hl0, hln, hc1, qn, qs⟩ := h
    have h40 := lo_le hw.2
    refine ⟨_, (pss_cons (ps_expr (C8.pe_c C_check_words hr (by decide) rfl (pa_cons (pv 0) pa_nil)))
  (pss_cons (ps_expr (C8.pe_c C_check_count hr (by decide) rfl (pa_cons (pv 1) (pa_cons pe_int (pa_cons (pe_callB call_lenS (by rfl) T.len_ (by decide +kernel) (pa_cons (pv 0) pa_nil)) pa_nil)))))
  (pss_cons (ps_if (pt_cmpR op_eq (pv 1) pe_int (nomark _)) (pss_one (ps_ret (pe_ifExp (pt_cmpR (op_eqD hr.units) (pv 0) (pe_tup pa_nil) (nomark _)) (pe_tup (pa_cons pe_int (pa_cons (C8.pe_gc rfl T.mx) pa_nil))) pe_non))) pss_nil)
  (pss_cons (ps_set (i := 2) sc_widths_of_count.nd rfl (Or.inl rfl) (C8.pe_c C_narrowest hr (by decide) rfl (pa_cons (pv 0) (pa_cons (pv 1) pa_nil))))
  (pss_cons (ps_if (pt_cmpR op_ne (C8.pe_c C_count_at hr (by decide) rfl (pa_cons (pv 0) (pa_cons (pv 2) pa_nil))) (pv 1) (nomark _)) (pss_one (ps_ret pe_non)) pss_nil)
  (pss_one (ps_ret (pe_tup (pa_cons (pv 2) (pa_cons (pe_ifExp (pt_cmpR op_gt (pv 1) pe_int (nomark _)) (pe_op op_sub (C8.pe_c C_narrowest hr (by decide) rfl (pa_cons (pv 0) (pa_cons (pe_op op_sub (pv 1) pe_int) pa_nil))) pe_int) (C8.pe_gc rfl T.mx)) pa_nil)))))))))), ?_⟩
    rw [start_widths_of_count]
    walk_at "go"
    refine ⟨p, ws, rfl, hp, hw, fun H1 s1 => ?_⟩
    have hp1 := s1 _ _ hp
    walk_at "go"
    refine ⟨_, _, _, rfl, hl0, hln, ?_⟩
    walk_at "go"
    refine ite2 (fun e => ?_) (fun e => ?_)
    · subst e
      walk_at "go"
      intro p2 n2
      generalize e2 : upd H1 p2 _ = H2
      have s2 := same_of e2 n2
      refine eqT_of (ns := ws) (ms := []) (s2 _ _ hp1) (there e2) ?_
      walk_at "go"
      refine ite2 (fun e3 => ?_) (fun e3 => ?_)
      · subst e3
        walk_at "go"
        intro p4 n4
        refine qs _ p4 1 2500 (s1.trans (s2.trans (same_upd n4))) upd_same ⟨Int.le_refl _, by omega, Int.le_refl _, rfl, rfl, fun u h1 h2 => ?_, fun u h1 h2 => by omega⟩
        have : lo ([] : List Int) = 1 := rfl
        omega
      · refine qn _ (s1.trans s2) fun u h1 h2 => ?_
        have hl : 0 < ws.length := List.length_pos_iff.mpr e3
        have := cnt_pos (tx_lo hw.2 h1) hl
        omega
    · walk_at "go"
      refine ⟨p, ws, l, rfl, hp1, hw, by omega, fun H2 v s2 ⟨v1, v2, v3, v4⟩ => ?_⟩
      have hp2 := s2 _ _ hp1
      walk_at "go"
      refine ⟨p, ws, v, rfl, hp2, tx_lo hw.2 v1, hw.1, fun H3 s3 => ?_⟩
      have hp3 := s3 _ _ hp2
      walk_at "go"
      refine ite2 (fun e3 => ?_) (fun e3 => ?_)
      · refine qn _ (s1.trans (s2.trans s3)) fun u h1 h2 h3 => ?_
        rcases Int.lt_or_le u v with g | g
        · have := v4 u h1 g
          omega
        · have := cnt_w hw.2 v1 g 0
          omega
      · have ecv : (cnt ws v 0 : Int) = l := by omega
        walk_at "go"
        refine ite2 (fun e4 => ?_) (fun e4 => ?_)
        · refine ⟨p, ws, l - 1, rfl, hp3, hw, by omega, fun H4 v' s4 ⟨w1, w2, w3, w4⟩ => ?_⟩
          walk_at "go"
          intro p5 n5
          have hvv : v < v' := by
            rcases Int.lt_or_le v v' with g | g
            · exact g
            · have := cnt_w hw.2 w1 g 0
              omega
          refine qs _ p5 v (v' - 1) (s1.trans (s2.trans (s3.trans (s4.trans (same_upd n5))))) upd_same ⟨v1, by omega, by omega, ecv, ?_, fun u h1 h2 => ?_, fun u h1 h2 => ?_⟩
          · have := w4 (v' - 1) (by omega) (by omega)
            have := cnt_w hw.2 v1 (show v ≤ v' - 1 by omega) 0
            omega
          · have := v4 u h1 h2
            omega
          · have := cnt_w hw.2 w1 (show v' ≤ u by omega) 0
            omega
        · walk_at "go"
          intro p5 n5
          have hl : 0 < ws.length := by omega
          have c2 := cnt_pos (tx_lo hw.2 (u := 2500) (by omega)) hl
          refine qs _ p5 v 2500 (s1.trans (s2.trans (s3.trans (same_upd n5)))) upd_same ⟨v1, v2, Int.le_refl _, ecv, by omega, fun u h1 h2 => ?_, fun u h1 h2 => by omega⟩
          have := v4 u h1 h2
          omega
end
end Ls
namespace Ls
open PySem PySem.Spec PyProof.Rows L2 RZ
local macro_rules | `(tactic| walk_at "cond") => `(tactic| first
  | exact (by decide)
  | exact (Nat.le_of_ble_eq_true rfl)
  | exact ⟨by decide, by decide, by decide⟩
  | exact ⟨by decide, by decide⟩
  | (with_reducible assumption)
  | exact Or.inl ⟨by omega, by omega⟩
  | exact Or.inr ⟨by omega, by omega⟩
  | exact ⟨by omega, by omega, by omega⟩
  | exact wide_div (b := 61) (by omega) (by omega) (by decide) (by decide)
  | (with_reducible omega))
local macro_rules | `(tactic| walk_at "at") => `(tactic| first | assumption | exact upd_same)
local macro_rules | `(tactic| walk_at "sim") => `(tactic| simp only [tSeq, tAsg, gName, tOp, tC, tVar, tRet, tRetN, tIfS, tTest, tB, tNext, tDrop, tNever, tCons, tNil, tTup, tLst, tUn, tAnd, tOr, tNot, tAndV, tOrV, tNotV, tIf, tCB, tCall, gSub, gTup, gCons, gNil, tPar, tPar3,
  tSl, tPart, tLc_eq, tFor_eq, tDIn_eq, tDNotIn_eq, tDGet_eq, sDPut_eq, tDNewK, C8.tCut, tYes, iEnum_eq, iList_eq, iTup_eq, iRng1_eq, iRng2_eq, iZipA_eq, wipe, tBM, List.map_cons, List.map_nil, List.length_map,  tNoPart, tChain, List.getElem?_cons_zero, List.getElem?_cons_succ, List.set_cons_zero, List.set_cons_succ, List.append_nil,
  s_I0, s_I, s_U, s_bl, s_int, s_some, s_eqI, s_neI, s_par2, s_par3, s_abs, s_max2, s_min2, s_cons, true_and, decide_eq_true_eq, Bool.not_eq_true', decide_eq_false_iff_not, if_true, Bool.true_eq_false, reduceCtorEq, reduceIte, Bool.false_eq_true, if_false, ite_true, ite_false])
local macro_rules | `(tactic| walk_at "go1") => `(tactic| first
  | ((with_reducible refine' And.intro ?k1 ?_); (case k1 => walk_at "cond"))
  | ((with_reducible refine' ixL_of ?k1 ?k2 ?_); (case k1 => walk_at "at"); (case k2 => rfl))
  | ((with_reducible refine' ixT_of ?k1 ?k2 ?_); (case k1 => walk_at "at"); (case k2 => rfl))
  | ((with_reducible refine' setL_of ?k1 ?k2 ?_); (case k1 => walk_at "at"); (case k2 => rfl))
  | ((with_reducible refine' lenT_of ?k1 ?_); (case k1 => walk_at "at"))
  | ((with_reducible refine' lenL_of ?k1 ?_); (case k1 => walk_at "at"))
  | (with_reducible refine isi_int ?_)
  | (with_reducible refine isi_int_bool ?_)
  | ((with_reducible refine' isi_tup ?k1 ?_); (case k1 => walk_at "at"))
  | walk_at "sim")
local macro_rules | `(tactic| walk_at "go") => `(tactic| repeat (walk_at "go1"))
section
variable {P : Program} {w : World} {K : PySem.W.Frag} {mg : Str → Option Value} {base : Heap}
/-! ### equal data -/
/-- two values of the same data, n deep at most -/
def SameD (H : Hp) : Nat → V → V → Prop
  | 0, a, b => (∃ i, a = .int i ∧ b = .int i) ∨ (a = .non ∧ b = .non)
  | n + 1, a, b => ((∃ i, a = .int i ∧ b = .int i) ∨ (a = .non ∧ b = .non)) ∨ ∃ p q xs ys, a = .ref p ∧ b = .ref q ∧ ((H p = some (.lst xs) ∧ H q = some (.lst ys)) ∨ (H p = some (.tup xs) ∧ H q = some (.tup ys))) ∧ xs.length = ys.length ∧ xs.length ≤ 10000 ∧
    ∀ (i : Nat) x y, xs[i]? = some x → ys[i]? = some y → SameD H n x y
theorem SameD.to {H H' : Hp} (e : Same H H') : ∀ (n : Nat) {a b : V}, SameD H n a b → SameD H' n a b
  | 0, _, _, h => h
  | n + 1, _, _, h => by
    rcases h with h | ⟨p, q, xs, ys, h1, h2, h3, h4, h5, h6⟩
    · exact .inl h
    · refine .inr ⟨p, q, xs, ys, h1, h2, ?_, h4, h5, fun i x y hx hy => SameD.to e n (h6 i x y hx hy)⟩
      rcases h3 with ⟨g1, g2⟩ | ⟨g1, g2⟩
      · exact .inl ⟨e _ _ g1, e _ _ g2⟩
      · exact .inr ⟨e _ _ g1, e _ _ g2⟩
theorem SameD.flat {H : Hp} {n : Nat} {a b : V} (h : (∃ i, a = .int i ∧ b = .int i) ∨ (a = .non ∧ b = .non)) : SameD H n a b := by
  cases n with
  | zero => exact h
  | succ n => exact .inl h
def spSame (n : Nat) : Sp := fun vs H Q _ => ∃ a b, vs = [a, b] ∧ SameD H n a b ∧ ∀ H', Same H H' → Q (.bl true) H'
abbrev st_law_same : Stmt := topS 30
abbrev N_law_same : List Str := ["_law_a", "_law_b", "_law_x", "_law_y"]
theorem sc_law_same : FnScope N_law_same ["_law_a", "_law_b"] (C8.fnScope st_law_same) := C8.fnScope_by (by decide +kernel)
theorem start_law_same {v0 v1 : V} : L2.start N_law_same [v0, v1] = [some v0, some v1, none, none] := rfl
theorem ok_same0 (T : Bl mg) (D : DefAt K mg "_law_same" st_law_same ["_law_a", "_law_b"]) : C8.Cal P w K mg base 1 "_law_same" (spSame 0) [] := by
  refine cal_of D sc_law_same (fun vs H Q E h => ?_) (fun f cdv A outer s H vs Q E hr h => ?_)
  · obtain ⟨a, b, rfl, _⟩ := h
    rfl
  · obtain ⟨a, b, rfl, h, q⟩ := h
    refine ⟨_, (pss_cons (ps_if (PW.pt (pw_or (PW.pt (pw_and (pt_val (pe_callB call_isi (by rfl) T.isinstance_ (by decide +kernel) (pa_cons (pv 0) (pa_cons (pe_bltn (v := .ty "list") (by rfl) T.list_ (by decide +kernel) rfl) pa_nil)))) (pw_and1 (pt_val (pe_callB call_isi (by rfl) T.isinstance_ (by decide +kernel) (pa_cons (pv 1) (pa_cons (pe_bltn (v := .ty "list") (by rfl) T.list_ (by decide +kernel) rfl) pa_nil))))))) (pw_or1 (PW.pt (pw_and (pt_val (pe_callB call_isi (by rfl) T.isinstance_ (by decide +kernel) (pa_cons (pv 0) (pa_cons (pe_bltn (v := .ty "tuple") (by rfl) T.tuple_ (by decide +kernel) rfl) pa_nil)))) (pw_and1 (pt_val (pe_callB call_isi (by rfl) T.isinstance_ (by decide +kernel) (pa_cons (pv 1) (pa_cons (pe_bltn (v := .ty "tuple") (by rfl) T.tuple_ (by decide +kernel) rfl) pa_nil)))))))))) (pss_one ps_never) pss_nil)
  (pss_cons (ps_if (PW.pt (pw_or (pt_val (pe_callB call_isiT (by rfl) T.isinstance_ (by decide +kernel) (pa_cons (pv 0) (pa_cons (pe_tup (pa_cons (pe_bltn (v := .ty "bool") (by rfl) T.bool_ (by decide +kernel) rfl) (pa_cons (pe_bltn (v := .ty "list") (by rfl) T.list_ (by decide +kernel) rfl) (pa_cons (pe_bltn (v := .ty "tuple") (by rfl) T.tuple_ (by decide +kernel) rfl) pa_nil)))) pa_nil)))) (pw_or1 (pt_val (pe_callB call_isiT (by rfl) T.isinstance_ (by decide +kernel) (pa_cons (pv 1) (pa_cons (pe_tup (pa_cons (pe_bltn (v := .ty "bool") (by rfl) T.bool_ (by decide +kernel) rfl) (pa_cons (pe_bltn (v := .ty "list") (by rfl) T.list_ (by decide +kernel) rfl) (pa_cons (pe_bltn (v := .ty "tuple") (by rfl) T.tuple_ (by decide +kernel) rfl) pa_nil)))) pa_nil))))))) (pss_one ps_never) pss_nil)
  (pss_cons (ps_if (PW.pt (pw_or (pt_val (pe_callB call_isi (by rfl) T.isinstance_ (by decide +kernel) (pa_cons (pv 0) (pa_cons (pe_bltn (v := .ty "int") (by rfl) T.int_ (by decide +kernel) rfl) pa_nil)))) (pw_or1 (pt_val (pe_callB call_isi (by rfl) T.isinstance_ (by decide +kernel) (pa_cons (pv 1) (pa_cons (pe_bltn (v := .ty "int") (by rfl) T.int_ (by decide +kernel) rfl) pa_nil))))))) (pss_one (ps_ret (pe_and (pe_callB call_isi (by rfl) T.isinstance_ (by decide +kernel) (pa_cons (pv 0) (pa_cons (pe_bltn (v := .ty "int") (by rfl) T.int_ (by decide +kernel) rfl) pa_nil))) (pe_and (pe_callB call_isi (by rfl) T.isinstance_ (by decide +kernel) (pa_cons (pv 1) (pa_cons (pe_bltn (v := .ty "int") (by rfl) T.int_ (by decide +kernel) rfl) pa_nil))) (pe_one (pe_cmpR op_eq (pv 0) (pv 1) (nomark _))))))) pss_nil)
  (pss_cons (ps_if (PW.pt (pw_or (pt_val (pe_callB call_isi (by rfl) T.isinstance_ (by decide +kernel) (pa_cons (pv 0) (pa_cons (pe_bltn (v := .ty "str") (by rfl) T.str_ (by decide +kernel) rfl) pa_nil)))) (pw_or1 (pt_val (pe_callB call_isi (by rfl) T.isinstance_ (by decide +kernel) (pa_cons (pv 1) (pa_cons (pe_bltn (v := .ty "str") (by rfl) T.str_ (by decide +kernel) rfl) pa_nil))))))) (pss_one ps_never) pss_nil)
  (pss_one (ps_ret (pe_and (pe_cmpR op_isN (pv 0) pe_non (nomark _)) (pe_one (pe_cmpR op_isN (pv 1) pe_non (nomark _)))))))))), ?_⟩
    rw [start_law_same]
    walk_at "go"
    rcases h with ⟨i, rfl, rfl⟩ | ⟨rfl, rfl⟩
    · have ty : ∀ H, TyX K H (.int i) (.type "int") := fun _ => .base (.int i)
      refine isi_of (b := false) (ty _) (by decide +kernel) ?_
      walk_at "go"
      refine isi_of (b := false) (ty _) (by decide +kernel) ?_
      walk_at "go"
      intro p1 n1
      refine isiT3_of (b1 := false) (b2 := false) (b3 := false) upd_same (ty _) (by decide +kernel) (by decide +kernel) (by decide +kernel) ?_
      generalize e1 : upd H p1 _ = H1
      have s1 := same_of e1 n1
      simp only [Bool.or_false]
      walk_at "go"
      intro p2 n2
      refine isiT3_of (b1 := false) (b2 := false) (b3 := false) upd_same (ty _) (by decide +kernel) (by decide +kernel) (by decide +kernel) ?_
      generalize e2 : upd H1 p2 _ = H2
      have s2 := same_of e2 n2
      simp only [Bool.or_false]
      walk_at "go"
      exact q _ (s1.trans s2)
    · have ty : ∀ H, TyX K H .non (.type "NoneType") := fun _ => .base .non
      refine isi_of (b := false) (ty _) (by decide +kernel) ?_
      walk_at "go"
      refine isi_of (b := false) (ty _) (by decide +kernel) ?_
      walk_at "go"
      intro p1 n1
      refine isiT3_of (b1 := false) (b2 := false) (b3 := false) upd_same (ty _) (by decide +kernel) (by decide +kernel) (by decide +kernel) ?_
      generalize e1 : upd H p1 _ = H1
      have s1 := same_of e1 n1
      simp only [Bool.or_false]
      walk_at "go"
      intro p2 n2
      refine isiT3_of (b1 := false) (b2 := false) (b3 := false) upd_same (ty _) (by decide +kernel) (by decide +kernel) (by decide +kernel) ?_
      generalize e2 : upd H1 p2 _ = H2
      have s2 := same_of e2 n2
      simp only [Bool.or_false]
      walk_at "go"
      refine isi_of (b := false) (ty _) (by decide +kernel) ?_
      walk_at "go"
      refine isi_of (b := false) (ty _) (by decide +kernel) ?_
      walk_at "go"
      refine isi_of (b := false) (ty _) (by decide +kernel) ?_
      walk_at "go"
      refine isi_of (b := false) (ty _) (by decide +kernel) ?_
      walk_at "go"
      exact q _ (s1.trans s2)
theorem ok_sameS (T : Bl mg) (D : DefAt K mg "_law_same" st_law_same ["_law_a", "_law_b"]) (n : Nat) (C_law_same : C8.Cal P w K mg base (n + 1) "_law_same" (spSame n) []) : C8.Cal P w K mg base (n + 2) "_law_same" (spSame (n + 1)) [] := by
  refine cal_of D sc_law_same (fun vs H Q E h => ?_) (fun f cdv A outer s H vs Q E hr h => ?_)
  · obtain ⟨a, b, rfl, _⟩ := h
    rfl
  · obtain ⟨a, b, rfl, h, q⟩ := h
    refine ⟨_, (pss_cons (ps_if (PW.pt (pw_or (PW.pt (pw_and (pt_val (pe_callB call_isi (by rfl) T.isinstance_ (by decide +kernel) (pa_cons (pv 0) (pa_cons (pe_bltn (v := .ty "list") (by rfl) T.list_ (by decide +kernel) rfl) pa_nil)))) (pw_and1 (pt_val (pe_callB call_isi (by rfl) T.isinstance_ (by decide +kernel) (pa_cons (pv 1) (pa_cons (pe_bltn (v := .ty "list") (by rfl) T.list_ (by decide +kernel) rfl) pa_nil))))))) (pw_or1 (PW.pt (pw_and (pt_val (pe_callB call_isi (by rfl) T.isinstance_ (by decide +kernel) (pa_cons (pv 0) (pa_cons (pe_bltn (v := .ty "tuple") (by rfl) T.tuple_ (by decide +kernel) rfl) pa_nil)))) (pw_and1 (pt_val (pe_callB call_isi (by rfl) T.isinstance_ (by decide +kernel) (pa_cons (pv 1) (pa_cons (pe_bltn (v := .ty "tuple") (by rfl) T.tuple_ (by decide +kernel) rfl) pa_nil)))))))))) (pss_one (ps_ret (pe_and (pe_cmpR op_eq (pe_callB call_lenS (by rfl) T.len_ (by decide +kernel) (pa_cons (pv 0) pa_nil)) (pe_callB call_lenS (by rfl) T.len_ (by decide +kernel) (pa_cons (pv 1) pa_nil)) (nomark _)) (pe_one (pe_callB (cr_all rfl) (by rfl) T.all_ (by decide +kernel) (pa_cons (pe_lc (own := [("_law_x", 2), ("_law_y", 3)]) (g := gTup K 2 (gCons (gName 2) (gCons (gName 3) gNil))) rfl sc_law_same.nd (pi_zipA (by rfl) T.zip_ (pa_cons (pv 0) (pa_cons (pv 1) pa_nil))) (blkOk_by (own := [("_law_x", 2), ("_law_y", 3)]) (N := N_law_same) (sc := (C8.fnScope st_law_same)) (by decide +kernel)) (fun _ _ _ _ _ => (pg_tup rfl (pgs_cons (pg_name (i := 2) sc_law_same.nd rfl (Or.inl rfl) (Or.inr rfl)) (pgs_cons (pg_name (i := 3) sc_law_same.nd rfl (Or.inl rfl) (Or.inr rfl)) pgs_nil)))) (fun _ _ _ _ _ => pts_nil) (fun _ _ _ _ _ => (C8.pe_c C_law_same hr (Nat.le_refl _) rfl (pa_cons (pv 2) (pa_cons (pv 3) pa_nil))))) pa_nil)))))) pss_nil)
  (pss_cons (ps_if (PW.pt (pw_or (pt_val (pe_callB call_isiT (by rfl) T.isinstance_ (by decide +kernel) (pa_cons (pv 0) (pa_cons (pe_tup (pa_cons (pe_bltn (v := .ty "bool") (by rfl) T.bool_ (by decide +kernel) rfl) (pa_cons (pe_bltn (v := .ty "list") (by rfl) T.list_ (by decide +kernel) rfl) (pa_cons (pe_bltn (v := .ty "tuple") (by rfl) T.tuple_ (by decide +kernel) rfl) pa_nil)))) pa_nil)))) (pw_or1 (pt_val (pe_callB call_isiT (by rfl) T.isinstance_ (by decide +kernel) (pa_cons (pv 1) (pa_cons (pe_tup (pa_cons (pe_bltn (v := .ty "bool") (by rfl) T.bool_ (by decide +kernel) rfl) (pa_cons (pe_bltn (v := .ty "list") (by rfl) T.list_ (by decide +kernel) rfl) (pa_cons (pe_bltn (v := .ty "tuple") (by rfl) T.tuple_ (by decide +kernel) rfl) pa_nil)))) pa_nil))))))) (pss_one ps_never) pss_nil)
  (pss_cons (ps_if (PW.pt (pw_or (pt_val (pe_callB call_isi (by rfl) T.isinstance_ (by decide +kernel) (pa_cons (pv 0) (pa_cons (pe_bltn (v := .ty "int") (by rfl) T.int_ (by decide +kernel) rfl) pa_nil)))) (pw_or1 (pt_val (pe_callB call_isi (by rfl) T.isinstance_ (by decide +kernel) (pa_cons (pv 1) (pa_cons (pe_bltn (v := .ty "int") (by rfl) T.int_ (by decide +kernel) rfl) pa_nil))))))) (pss_one (ps_ret (pe_and (pe_callB call_isi (by rfl) T.isinstance_ (by decide +kernel) (pa_cons (pv 0) (pa_cons (pe_bltn (v := .ty "int") (by rfl) T.int_ (by decide +kernel) rfl) pa_nil))) (pe_and (pe_callB call_isi (by rfl) T.isinstance_ (by decide +kernel) (pa_cons (pv 1) (pa_cons (pe_bltn (v := .ty "int") (by rfl) T.int_ (by decide +kernel) rfl) pa_nil))) (pe_one (pe_cmpR op_eq (pv 0) (pv 1) (nomark _))))))) pss_nil)
  (pss_cons (ps_if (PW.pt (pw_or (pt_val (pe_callB call_isi (by rfl) T.isinstance_ (by decide +kernel) (pa_cons (pv 0) (pa_cons (pe_bltn (v := .ty "str") (by rfl) T.str_ (by decide +kernel) rfl) pa_nil)))) (pw_or1 (pt_val (pe_callB call_isi (by rfl) T.isinstance_ (by decide +kernel) (pa_cons (pv 1) (pa_cons (pe_bltn (v := .ty "str") (by rfl) T.str_ (by decide +kernel) rfl) pa_nil))))))) (pss_one ps_never) pss_nil)
  (pss_one (ps_ret (pe_and (pe_cmpR op_isN (pv 0) pe_non (nomark _)) (pe_one (pe_cmpR op_isN (pv 1) pe_non (nomark _)))))))))), ?_⟩
    rw [start_law_same]
    walk_at "go"
    rcases h with h | ⟨p, q2, xs, ys, rfl, rfl, h3, hl, hl2, h6⟩
    · rcases h with ⟨i, rfl, rfl⟩ | ⟨rfl, rfl⟩
      · have ty : ∀ H, TyX K H (.int i) (.type "int") := fun _ => .base (.int i)
        refine isi_of (b := false) (ty _) (by decide +kernel) ?_
        walk_at "go"
        refine isi_of (b := false) (ty _) (by decide +kernel) ?_
        walk_at "go"
        intro p1 n1
        refine isiT3_of (b1 := false) (b2 := false) (b3 := false) upd_same (ty _) (by decide +kernel) (by decide +kernel) (by decide +kernel) ?_
        generalize e1 : upd H p1 _ = H1
        have s1 := same_of e1 n1
        simp only [Bool.or_false]
        walk_at "go"
        intro p2 n2
        refine isiT3_of (b1 := false) (b2 := false) (b3 := false) upd_same (ty _) (by decide +kernel) (by decide +kernel) (by decide +kernel) ?_
        generalize e2 : upd H1 p2 _ = H2
        have s2 := same_of e2 n2
        simp only [Bool.or_false]
        walk_at "go"
        exact q _ (s1.trans s2)
      · have ty : ∀ H, TyX K H .non (.type "NoneType") := fun _ => .base .non
        refine isi_of (b := false) (ty _) (by decide +kernel) ?_
        walk_at "go"
        refine isi_of (b := false) (ty _) (by decide +kernel) ?_
        walk_at "go"
        intro p1 n1
        refine isiT3_of (b1 := false) (b2 := false) (b3 := false) upd_same (ty _) (by decide +kernel) (by decide +kernel) (by decide +kernel) ?_
        generalize e1 : upd H p1 _ = H1
        have s1 := same_of e1 n1
        simp only [Bool.or_false]
        walk_at "go"
        intro p2 n2
        refine isiT3_of (b1 := false) (b2 := false) (b3 := false) upd_same (ty _) (by decide +kernel) (by decide +kernel) (by decide +kernel) ?_
        generalize e2 : upd H1 p2 _ = H2
        have s2 := same_of e2 n2
        simp only [Bool.or_false]
        walk_at "go"
        refine isi_of (b := false) (ty _) (by decide +kernel) ?_
        walk_at "go"
        refine isi_of (b := false) (ty _) (by decide +kernel) ?_
        walk_at "go"
        refine isi_of (b := false) (ty _) (by decide +kernel) ?_
        walk_at "go"
        refine isi_of (b := false) (ty _) (by decide +kernel) ?_
        walk_at "go"
        exact q _ (s1.trans s2)
    · rcases h3 with ⟨g1, g2⟩ | ⟨g1, g2⟩
      · have ty1 : TyX K H (.ref p) (.type "list") := .base (.lst g1)
        have ty2 : TyX K H (.ref q2) (.type "list") := .base (.lst g2)
        refine isi_of (b := true) ty1 (by decide +kernel) ?_
        walk_at "go"
        refine isi_of (b := true) ty2 (by decide +kernel) ?_
        walk_at "go"
        rw [if_pos (by rw [hl])]
        refine zipL_of (.of g1) (.of g2) ?_
        refine lcB_of (walk_zip (xs := xs) (ys := ys) (n := xs.length) (by omega)) fun L hL => ?_
        refine ⟨fun i H' => Same H H' ∧ H' L = some (.lst ((List.replicate i true).map V.bl)), ⟨same_upd hL, upd_same⟩, fun i H' hi h => ⟨.of (h.1 _ _ g1), .of (h.1 _ _ g2)⟩, ?_, ?_⟩
        · intro i x H' H'' hi ⟨sm, hL'⟩ ⟨t, x1, x2, ev, nT, eH, f1, f2⟩
          subst ev eH
          walk_at "go"
          refine tupg_of upd_same rfl ?_
          generalize e5 : upd H' t _ = H5
          have s5 := same_of e5 nT
          walk_at "go"
          refine ⟨x1, x2, rfl, (h6 i x1 x2 f1 f2).to (sm.trans s5) n, fun H6 s6 => ?_⟩
          refine ⟨_, s6 _ _ (s5 _ _ hL'), sz_lt (by simp; omega), same_mut (sm.trans (s5.trans s6)) hL, ?_⟩
          rw [upd_same, List.replicate_succ', List.map_append]
          rfl
        · intro H' ⟨sm, hL'⟩
          refine all_of hL' ?_
          rw [show (List.replicate xs.length true).all id = true by simp]
          exact q _ sm
      · have ty1 : TyX K H (.ref p) (.type "tuple") := .base (.tup g1)
        have ty2 : TyX K H (.ref q2) (.type "tuple") := .base (.tup g2)
        refine isi_of (b := false) ty1 (by decide +kernel) ?_
        walk_at "go"
        rw [if_pos (by rw [hl])]
        refine zipT_of (.of g1) (.of g2) ?_
        refine lcB_of (walk_zipT (xs := xs) (ys := ys) (n := xs.length) (by omega)) fun L hL => ?_
        refine ⟨fun i H' => Same H H' ∧ H' L = some (.lst ((List.replicate i true).map V.bl)), ⟨same_upd hL, upd_same⟩, fun i H' hi h => ⟨.of (h.1 _ _ g1), .of (h.1 _ _ g2)⟩, ?_, ?_⟩
        · intro i x H' H'' hi ⟨sm, hL'⟩ ⟨t, x1, x2, ev, nT, eH, f1, f2⟩
          subst ev eH
          walk_at "go"
          refine tupg_of upd_same rfl ?_
          generalize e5 : upd H' t _ = H5
          have s5 := same_of e5 nT
          walk_at "go"
          refine ⟨x1, x2, rfl, (h6 i x1 x2 f1 f2).to (sm.trans s5) n, fun H6 s6 => ?_⟩
          refine ⟨_, s6 _ _ (s5 _ _ hL'), sz_lt (by simp; omega), same_mut (sm.trans (s5.trans s6)) hL, ?_⟩
          rw [upd_same, List.replicate_succ', List.map_append]
          rfl
        · intro H' ⟨sm, hL'⟩
          refine all_of hL' ?_
          rw [show (List.replicate xs.length true).all id = true by simp]
          exact q _ sm
end
end Ls
namespace Ls
open PySem PySem.Spec PyProof.Rows L2 RZ
/-! ### line counts of all widths: the mathematics -/
/-- the line counts of the first n widths, as a dict -/
def kc (ws : List Int) (n : Nat) : List (Key × V) := (List.range n).map fun (j : Nat) => ((Sum.inl (lo ws + (j : Int)) : Key), V.int (cnt ws (lo ws + (j : Int)) 0 : Nat))
/-- the first n widths -/
def wid (ws : List Int) (n : Nat) : List Int := (List.range n).map fun (j : Nat) => lo ws + (j : Int)
theorem kc_succ (ws : List Int) (n : Nat) : kc ws (n + 1) = kc ws n ++ [((Sum.inl (lo ws + (n : Int)) : Key), V.int (cnt ws (lo ws + (n : Int)) 0 : Nat))] := by
  unfold kc
  rw [List.range_succ, List.map_append]
  rfl
theorem kc_at (ws : List Int) (j : Nat) : ∀ n : Nat, valV (kc ws n) (.inl (lo ws + (j : Int))) = if j < n then some (.int (cnt ws (lo ws + (j : Int)) 0 : Nat)) else none
  | 0 => by
    rw [if_neg (by omega)]
    rfl
  | n + 1 => by
    have e := kc_at ws n n
    rw [if_neg (by omega)] at e
    rw [kc_succ, valV_snoc _ _ _ _ e, kc_at ws j n]
    by_cases h : j = n
    · subst h
      rw [if_pos rfl, if_pos (by omega)]
    · rw [if_neg (fun z => h (by have := Sum.inl.inj z; omega))]
      by_cases h2 : j < n
      · rw [if_pos h2, if_pos (by omega)]
      · rw [if_neg h2, if_neg (by omega)]
theorem kc_len (ws : List Int) (n : Nat) : (kc ws n).length = n := by
  unfold kc
  rw [List.length_map, List.length_range]
theorem kc_keys (ws : List Int) (n : Nat) : (kc ws n).map (·.1) = (wid ws n).map Sum.inl := by
  unfold kc wid
  rw [List.map_map, List.map_map]
  rfl
theorem kc_get {ws : List Int} {n i : Nat} {k : Key} {v : V} (h : (kc ws n)[i]? = some (k, v)) : i < n ∧ k = .inl (lo ws + (i : Int)) ∧ v = .int (cnt ws (lo ws + (i : Int)) 0 : Nat) := by
  have hi : i < n := by
    have := (List.getElem?_eq_some_iff.mp h).1
    rw [kc_len] at this
    exact this
  unfold kc at h
  rw [List.getElem?_map, List.getElem?_range hi] at h
  have e := Option.some.inj h
  exact ⟨hi, (Prod.mk.inj e).1.symm, (Prod.mk.inj e).2.symm⟩
theorem wid_len (ws : List Int) (n : Nat) : (wid ws n).length = n := by
  unfold wid
  rw [List.length_map, List.length_range]
theorem wid_get {ws : List Int} {n i : Nat} {v : V} (h : ((wid ws n).map V.int)[i]? = some v) : i < n ∧ v = .int (lo ws + (i : Int)) := by
  have hi : i < n := by
    have := (List.getElem?_eq_some_iff.mp h).1
    rw [List.length_map, wid_len] at this
    exact this
  unfold wid at h
  rw [List.getElem?_map, List.getElem?_map, List.getElem?_range hi] at h
  exact ⟨hi, (Option.some.inj h).symm⟩
theorem wid_sorted (ws : List Int) (n : Nat) : (wid ws n).Pairwise (· ≤ ·) := by
  unfold wid
  rw [List.pairwise_map]
  exact (List.pairwise_lt_range (n := n)).imp fun {a b} h => by omega
/-- among the first n widths, those where p holds -/
def sel (p : Nat → Bool) (n : Nat) : List Nat := (List.range n).filter p
theorem sel_lt (p : Nat → Bool) (n : Nat) : (sel p n).Pairwise (· < ·) := (List.pairwise_lt_range (n := n)).filter p
theorem sel_mem {p : Nat → Bool} {n j : Nat} : j ∈ sel p n ↔ j < n ∧ p j = true := by
  unfold sel
  rw [List.mem_filter, List.mem_range]
theorem sel_zero (p : Nat → Bool) : sel p 0 = [] := rfl
theorem sel_yes {p : Nat → Bool} {n : Nat} (h : p n = true) : sel p (n + 1) = sel p n ++ [n] := by
  unfold sel
  rw [List.range_succ, List.filter_append, List.filter_cons, if_pos h]
  rfl
theorem sel_no {p : Nat → Bool} {n : Nat} (h : p n = false) : sel p (n + 1) = sel p n := by
  unfold sel
  rw [List.range_succ, List.filter_append, List.filter_cons, if_neg (by rw [h]; decide)]
  exact List.append_nil _
theorem sel_len (p : Nat → Bool) (n : Nat) : (sel p n).length ≤ n := by
  unfold sel
  have := List.length_filter_le p (List.range n)
  rw [List.length_range] at this
  exact this
theorem sel_first {p : Nat → Bool} {n a : Nat} {r : List Nat} (e : sel p n = a :: r) {m : Nat} (h : m < n) (hp : p m = true) : a ≤ m := by
  have hs := sel_lt p n
  rw [e] at hs
  have hm : m ∈ sel p n := sel_mem.mpr ⟨h, hp⟩
  rw [e] at hm
  rcases List.mem_cons.mp hm with rfl | hm
  · exact Nat.le_refl _
  · exact Nat.le_of_lt ((List.pairwise_cons.mp hs).1 m hm)
theorem sel_last {p : Nat → Bool} {n b : Nat} {r : List Nat} (e : sel p n = r ++ [b]) {m : Nat} (h : m < n) (hp : p m = true) : m ≤ b := by
  have hs := sel_lt p n
  rw [e] at hs
  have hm : m ∈ sel p n := sel_mem.mpr ⟨h, hp⟩
  rw [e] at hm
  rcases List.mem_append.mp hm with hm | hm
  · exact Nat.le_of_lt ((List.pairwise_append.mp hs).2.2 m hm b List.mem_cons_self)
  · rw [List.mem_singleton.mp hm]
    exact Nat.le_refl _
/-- between two that follow each other p holds nowhere -/
theorem sel_next {p : Nat → Bool} {n i a b : Nat} (ha : (sel p n)[i]? = some a) (hb : (sel p n)[i + 1]? = some b) : a < b ∧ ∀ m, a < m → m < b → p m = false := by
  have hs := List.pairwise_iff_getElem.mp (sel_lt p n)
  obtain ⟨h1, e1⟩ := List.getElem?_eq_some_iff.mp ha
  obtain ⟨h2, e2⟩ := List.getElem?_eq_some_iff.mp hb
  have hab := hs i (i + 1) h1 h2 (by omega)
  rw [e1, e2] at hab
  refine ⟨hab, fun m g1 g2 => ?_⟩
  have hbm := sel_mem.mp (List.mem_of_getElem? hb)
  cases hm : p m with
  | false => rfl
  | true =>
    obtain ⟨t, ht, et⟩ := List.getElem_of_mem (sel_mem.mpr ⟨by omega, hm⟩ : m ∈ sel p n)
    rcases Nat.lt_or_ge i t with g | g
    · rcases Nat.lt_or_ge (i + 1) t with g' | g'
      · have := hs (i + 1) t h2 ht g'
        omega
      · have e3 : t = i + 1 := by omega
        subst e3
        omega
    · rcases Nat.lt_or_ge t i with g' | g'
      · have := hs t i ht h1 g'
        omega
      · have e3 : t = i := by omega
        subst e3
        omega
theorem stepsK_sel (ws : List Int) (k : Nat) : stepsK ws k = (sel (isStep ws) k).map fun (j : Nat) => (lo ws + (j : Int), (cnt ws (lo ws + (j : Int)) 0 : Int)) := rfl
/-- between two widths without a step the line count is the same -/
theorem flat_no {ws : List Int} {a : Nat} : ∀ d : Nat, (∀ m, a < m → m ≤ a + d → isStep ws m = false) → (∀ x ∈ ws, 1 ≤ x ∧ x ≤ 40) → cnt ws (lo ws + ((a + d : Nat) : Int)) 0 = cnt ws (lo ws + (a : Int)) 0
  | 0, _, _ => rfl
  | d + 1, h, hw => by
    have e := flat_no d (fun m h1 h2 => h m h1 (by omega)) hw
    have h2 := h (a + (d + 1)) (by omega) (by omega)
    unfold isStep at h2
    rw [Bool.or_eq_false_iff] at h2
    have h3 := of_decide_eq_false h2.2
    have h4 := cnt_w hw (u := lo ws + ((a + d : Nat) : Int)) (u' := lo ws + ((a + (d + 1) : Nat) : Int)) (by omega) (by omega) 0
    rw [show lo ws + ((a + (d + 1) : Nat) : Int) - 1 = lo ws + ((a + d : Nat) : Int) by omega] at h3
    omega
section
variable {ws : List Int} (hw : Wd ws) (hl : 0 < ws.length)
include hw hl
theorem lo_sum : lo ws ≤ ws.sum + ws.length - 1 ∧ ws.sum + ws.length - 1 ≤ 2459 := by
  have h2 := sum_wd hw.2
  have h3 := hw.1
  refine ⟨?_, by omega⟩
  have : ∀ {r : List Int}, (∀ x ∈ r, 1 ≤ x ∧ x ≤ 40) → ∀ y ∈ r, y ≤ r.sum := by
    intro r
    induction r with
    | nil => exact fun _ y hy => nomatch hy
    | cons x r ih =>
      intro h y hy
      have h5 := sum_wd (ws := r) fun y hy => h y (List.mem_cons_of_mem _ hy)
      have h6 := h x List.mem_cons_self
      rw [List.sum_cons]
      rcases List.mem_cons.mp hy with rfl | hy
      · omega
      · have := ih (fun y hy => h y (List.mem_cons_of_mem _ hy)) y hy
        omega
  rcases List.mem_cons.mp (lo_mem ws) with e | e
  · omega
  · have := this hw.2 _ e
    omega
theorem cnt_top {u : Int} (h : ws.sum + ws.length - 1 ≤ u) : cnt ws u 0 = 1 := by
  have := (lo_sum hw hl).1
  exact cnt_one (tx_lo hw.2 (by omega)) hl (by omega)
theorem cnt_ge {u : Int} (h : lo ws ≤ u) : 1 ≤ cnt ws u 0 := cnt_pos (tx_lo hw.2 h) hl
theorem cnt_2500 : cnt ws 2500 0 ≤ 1 := by
  have := (lo_sum hw hl).2
  exact Nat.le_of_eq (cnt_top hw hl (by omega))
/-- a step with one line stands at the width of one line at most -/
theorem step_top {k : Nat} (h1 : isStep ws k = true) : lo ws + (k : Int) ≤ ws.sum + ws.length - 1 := by
  have h0 := (lo_sum hw hl).1
  rcases Int.lt_or_le (ws.sum + ws.length - 1) (lo ws + (k : Int)) with g | g
  · unfold isStep at h1
    rw [Bool.or_eq_true] at h1
    rcases h1 with h1 | h1
    · have := of_decide_eq_true h1
      omega
    · have h3 := of_decide_eq_true h1
      rw [cnt_top hw hl (u := lo ws + (k : Int) - 1) (by omega)] at h3
      have := cnt_ge hw hl (u := lo ws + (k : Int)) (by omega)
      omega
  · exact g
theorem steps_all {S : List (Int × Int)} (h : IsSteps ws S) : S = stepsK ws (ws.sum + ws.length - lo ws).toNat := by
  obtain ⟨k, rfl, h2, h3, h4⟩ := h
  have h5 := step_top hw hl h4
  have := stepsK_flat hw.2 (k := k + 1) ((ws.sum + ws.length - lo ws).toNat - (k + 1)) (fun j g1 g2 => ?_) (by omega)
  · rw [Nat.add_sub_cancel' (by omega)] at this
    exact this.symm
  · have a1 := cnt_w hw.2 (u := lo ws + (k : Int)) (u' := lo ws + (j : Int)) (by omega) (by omega) 0
    have a2 := cnt_w hw.2 (u := lo ws + (k : Int)) (u' := lo ws + (j : Int) - 1) (by omega) (by omega) 0
    have a3 := cnt_ge hw hl (u := lo ws + (j : Int)) (by omega)
    have a4 := cnt_ge hw hl (u := lo ws + (j : Int) - 1) (by omega)
    omega
/-- no width has that many lines -/
theorem woc_none {l : Nat} (e : sel (fun j => decide (cnt ws (lo ws + (j : Int)) 0 = l)) (ws.sum + ws.length - lo ws).toNat = []) : IsWoc ws l none := by
  have h0 := lo_sum hw hl
  have no : ∀ j : Nat, j < (ws.sum + ws.length - lo ws).toNat → cnt ws (lo ws + (j : Int)) 0 ≠ l := fun j hj hc => by
    have : j ∈ sel (fun j => decide (cnt ws (lo ws + (j : Int)) 0 = l)) (ws.sum + ws.length - lo ws).toNat := sel_mem.mpr ⟨hj, decide_eq_true hc⟩
    rw [e] at this
    exact nomatch this
  intro u h1 h2 h3
  rcases Int.lt_or_le (ws.sum + ws.length - 1) u with g | g
  · have a := no (ws.sum + ws.length - 1 - lo ws).toNat (by omega)
    rw [show lo ws + (((ws.sum + ws.length - 1 - lo ws).toNat : Nat) : Int) = ws.sum + ws.length - 1 by omega, cnt_top hw hl (Int.le_refl _)] at a
    rw [cnt_top hw hl (by omega)] at h3
    omega
  · have a := no (u - lo ws).toNat (by omega)
    rw [show lo ws + (((u - lo ws).toNat : Nat) : Int) = u by omega] at a
    omega
theorem woc_some {l a b : Nat} {r r' : List Nat} (e : sel (fun j => decide (cnt ws (lo ws + (j : Int)) 0 = l)) (ws.sum + ws.length - lo ws).toNat = a :: r) (e' : a :: r = r' ++ [b]) : IsWoc ws l (some (lo ws + (a : Int), if (1 : Int) < l then lo ws + (b : Int) else 2500)) := by
  have h0 := lo_sum hw hl
  have ha : a ∈ sel (fun j => decide (cnt ws (lo ws + (j : Int)) 0 = l)) (ws.sum + ws.length - lo ws).toNat := by rw [e]; exact List.mem_cons_self
  have hb : b ∈ sel (fun j => decide (cnt ws (lo ws + (j : Int)) 0 = l)) (ws.sum + ws.length - lo ws).toNat := by rw [e, e']; exact List.mem_append_right _ List.mem_cons_self
  obtain ⟨a1, a2⟩ := sel_mem.mp ha
  obtain ⟨b1, b2⟩ := sel_mem.mp hb
  have a2 := of_decide_eq_true a2
  have b2 := of_decide_eq_true b2
  have hab := sel_first e b1 (decide_eq_true b2)
  have g1 := cnt_ge hw hl (u := lo ws + (a : Int)) (by omega)
  have key : ∀ u, lo ws ≤ u → u ≤ ws.sum + ws.length - 1 → (cnt ws u 0 : Int) = l → lo ws + (a : Int) ≤ u ∧ u ≤ lo ws + (b : Int) := fun u h1 h2 h3 => by
    have hu : decide (cnt ws (lo ws + (((u - lo ws).toNat : Nat) : Int)) 0 = l) = true := by
      rw [show lo ws + (((u - lo ws).toNat : Nat) : Int) = u by omega]
      exact decide_eq_true (by omega)
    have k1 := sel_first e (m := (u - lo ws).toNat) (by omega) hu
    have k2 := sel_last (e.trans e') (m := (u - lo ws).toNat) (by omega) hu
    omega
  by_cases hl1 : (1 : Int) < l
  · rw [if_pos hl1]
    refine ⟨by omega, by omega, by omega, by omega, by omega, fun u h1 h2 h3 => ?_, fun u h1 h2 h3 => ?_⟩
    · have := key u h1 (by omega) h3
      omega
    · rcases Int.lt_or_le (ws.sum + ws.length - 1) u with g | g
      · rw [cnt_top hw hl (by omega)] at h3
        omega
      · have := key u (by omega) g h3
        omega
  · rw [if_neg hl1]
    have c25 := cnt_top hw hl (u := 2500) (by omega)
    refine ⟨by omega, by omega, by omega, by omega, by omega, fun u h1 h2 h3 => ?_, fun u h1 h2 => by omega⟩
    have := key u h1 (by omega) h3
    omega
theorem nar_least {l : Nat} {m : Int} (h0 : 0 < l) (hm : ∃ j, j ∈ sel (fun j => decide (cnt ws (lo ws + (j : Int)) 0 ≤ l)) (ws.sum + ws.length - lo ws).toNat ∧ m = lo ws + ((j : Nat) : Int))
    (hx : ∀ j, j ∈ sel (fun j => decide (cnt ws (lo ws + (j : Int)) 0 ≤ l)) (ws.sum + ws.length - lo ws).toNat → m ≤ lo ws + ((j : Nat) : Int)) : IsNar ws l m := by
  have g := lo_sum hw hl
  obtain ⟨j, hj, rfl⟩ := hm
  obtain ⟨j1, j2⟩ := sel_mem.mp hj
  have j2 := of_decide_eq_true j2
  refine ⟨by omega, by omega, by omega, fun u h1 h2 => ?_⟩
  rcases Nat.lt_or_ge l (cnt ws u 0) with k | k
  · omega
  · have := hx (u - lo ws).toNat (sel_mem.mpr ⟨by omega, decide_eq_true (by
      rw [show lo ws + (((u - lo ws).toNat : Nat) : Int) = u by omega]
      exact k)⟩)
    omega
/-- two steps that follow each other -/
theorem steps_next {k i : Nat} {a b c d : Int} (hk : lo ws + (k : Int) ≤ 2500) (h1 : (stepsK ws (k + 1))[i]? = some (a, b)) (h2 : (stepsK ws (k + 1))[i + 1]? = some (c, d)) :
    lo ws ≤ a ∧ a < c ∧ c ≤ 2500 ∧ d < b ∧ (cnt ws (c - 1) 0 : Int) = b ∧ (cnt ws c 0 : Int) = d ∧ 1 ≤ d ∧ IsWoc ws b (some (a, c - 1)) := by
  rw [stepsK_sel, List.getElem?_map] at h1 h2
  obtain ⟨j, hj, ej⟩ := Option.map_eq_some_iff.mp h1
  obtain ⟨j', hj', ej'⟩ := Option.map_eq_some_iff.mp h2
  obtain ⟨rfl, rfl⟩ := Prod.mk.inj ej
  obtain ⟨rfl, rfl⟩ := Prod.mk.inj ej'
  obtain ⟨n1, n2⟩ := sel_next hj hj'
  have m1 := sel_mem.mp (List.mem_of_getElem? hj)
  have m2 := sel_mem.mp (List.mem_of_getElem? hj')
  have f := flat_no (ws := ws) (a := j) (j' - 1 - j) (fun m h1 h2 => n2 m h1 (by omega)) hw.2
  rw [show lo ws + ((j + (j' - 1 - j) : Nat) : Int) = lo ws + (j' : Int) - 1 by omega] at f
  have s2 := m2.2
  unfold isStep at s2
  rw [decide_eq_false (show ¬ j' = 0 by omega), Bool.false_or] at s2
  have s2 := of_decide_eq_true s2
  have p2 := cnt_ge hw hl (u := lo ws + (j' : Int)) (by omega)
  refine ⟨by omega, by omega, by omega, by omega, by omega, rfl, by omega, by omega, by omega, by omega, rfl, by omega, fun u h1 h2 => ?_, fun u h1 h2 => ?_⟩
  · have s1 := m1.2
    unfold isStep at s1
    rw [decide_eq_false (show ¬ j = 0 by omega), Bool.false_or] at s1
    have s1 := of_decide_eq_true s1
    have := cnt_w hw.2 (u := u) (u' := lo ws + (j : Int) - 1) h1 (by omega) 0
    omega
  · have := cnt_w hw.2 (u := lo ws + (j' : Int)) (u' := u) (by omega) (by omega) 0
    omega
end
theorem steps_none {S : List (Int × Int)} (h : IsSteps [] S) : S = [(1, 0)] := by
  obtain ⟨k, rfl, h2, h3, h4⟩ := h
  cases k with
  | zero => rw [stepsK_one]; rfl
  | succ k => exact absurd h4 (by unfold isStep; rw [show ∀ u, cnt [] u 0 = 0 from fun _ => rfl]; simp; rfl)
theorem woc_empty : IsWoc [] 0 (some (1, 2500)) := ⟨Int.le_refl _, by decide, Int.le_refl _, rfl, rfl, fun u h1 h2 => by
  have : lo ([] : List Int) = 1 := rfl
  omega, fun u h1 h2 => by omega⟩
/-! ### lists of pairs as data -/
theorem dp_pairs {K : PySem.W.Frag} {H : Hp} : ∀ {ts : List Addr} {S : List (Int × Int)}, PAt H ts S → DpAll K H (ts.map V.ref) (S.map fun s => PyData.tuple [.int s.1, .int s.2])
  | [], [], _ => .nil
  | _ :: ts, s :: S, h => .cons (.tup (.of h.1) (dpAll_ints [s.1, s.2])) (dp_pairs h.2)
  | [], _ :: _, h => h.elim
  | _ :: _, [], h => h.elim
theorem lay_pairs : ∀ S : List (Int × Int), PyData.canLayAll0 (S.map fun s => PyData.tuple [.int s.1, .int s.2]) = true
  | [] => rfl
  | s :: r => by
    rw [List.map_cons, PyData.canLayAll0, lay_pairs r, PyData.canLay0]
    have := canLay_ints [s.1, s.2]
    simp only [List.map_cons, List.map_nil] at this
    rw [this]
    rfl
theorem depth_pairs : ∀ S : List (Int × Int), PyData.depthAll (S.map fun s => PyData.tuple [.int s.1, .int s.2]) ≤ 1
  | [] => Nat.zero_le _
  | s :: r => by
    rw [List.map_cons, PyData.depthAll, PyData.depth]
    have := depth_ints [s.1, s.2]
    simp only [List.map_cons, List.map_nil] at this
    rw [this]
    exact Nat.max_le.mpr ⟨Nat.le_refl _, depth_pairs r⟩
theorem same_pairs {H : Hp} {d d' : Addr} {ts ts' : List Addr} {S : List (Int × Int)} (h1 : H d = some (.lst (ts.map V.ref))) (h2 : H d' = some (.lst (ts'.map V.ref))) (P1 : PAt H ts S) (P2 : PAt H ts' S) (hn : S.length ≤ 10000) : SameD H 2 (.ref d) (.ref d') := by
  refine .inr ⟨d, d', _, _, rfl, rfl, .inl ⟨h1, h2⟩, by rw [List.length_map, List.length_map, P1.len, P2.len], by rw [List.length_map, P1.len]; exact hn, fun i x y hx hy => ?_⟩
  rw [List.getElem?_map] at hx hy
  obtain ⟨t, ht, rfl⟩ := Option.map_eq_some_iff.mp hx
  obtain ⟨t', ht', rfl⟩ := Option.map_eq_some_iff.mp hy
  have hi : i < S.length := by
    rw [← P1.len]
    exact (List.getElem?_eq_some_iff.mp ht).1
  obtain ⟨u, hu, g1⟩ := P1.at (List.getElem?_eq_getElem hi)
  obtain ⟨u', hu', g2⟩ := P2.at (List.getElem?_eq_getElem hi)
  rw [ht] at hu
  rw [ht'] at hu'
  cases hu
  cases hu'
  exact .inr ⟨t, t', _, _, rfl, rfl, .inr ⟨g1, g2⟩, rfl, Nat.le_of_ble_eq_true rfl, fun i x y hx hy => by
    match i, hx, hy with
    | 0, hx, hy => cases hx; cases hy; exact .inl ⟨_, rfl, rfl⟩
    | 1, hx, hy => cases hx; cases hy; exact .inl ⟨_, rfl, rfl⟩⟩
end Ls
namespace Ls
open PySem PySem.Spec PyProof.Rows L2 RZ
local macro_rules | `(tactic| walk_at "cond") => `(tactic| first
  | exact (by decide)
  | exact (Nat.le_of_ble_eq_true rfl)
  | exact ⟨by decide, by decide, by decide⟩
  | exact ⟨by decide, by decide⟩
  | (with_reducible assumption)
  | exact Or.inl ⟨by omega, by omega⟩
  | exact Or.inr ⟨by omega, by omega⟩
  | exact ⟨by omega, by omega, by omega⟩
  | exact wide_div (b := 61) (by omega) (by omega) (by decide) (by decide)
  | (with_reducible omega))
local macro_rules | `(tactic| walk_at "at") => `(tactic| first | assumption | exact upd_same)
local macro_rules | `(tactic| walk_at "sim") => `(tactic| simp only [tSeq, tAsg, gName, tOp, tC, tVar, tRet, tRetN, tIfS, tTest, tB, tNext, tDrop, tNever, tCons, tNil, tTup, tLst, tUn, tAnd, tOr, tNot, tAndV, tOrV, tNotV, tIf, tCB, tCall, gSub, gTup, gCons, gNil, tPar, tPar3,
  tSl, tPart, tLc_eq, tFor_eq, tDIn_eq, tDNotIn_eq, tDGet_eq, sDPut_eq, tDNewK, C8.tCut, tYes, iEnum_eq, iList_eq, iTup_eq, iRng1_eq, iRng2_eq, iZipA_eq, iKeys_eq, wipe, tBM, List.map_cons, List.map_nil, List.length_map,  tNoPart, tChain, List.getElem?_cons_zero, List.getElem?_cons_succ, List.set_cons_zero, List.set_cons_succ, List.append_nil,
  s_I0, s_I, s_U, s_bl, s_int, s_some, s_eqI, s_neI, s_par2, s_par3, s_abs, s_max2, s_min2, s_cons, true_and, decide_eq_true_eq, Bool.not_eq_true', decide_eq_false_iff_not, if_true, Bool.true_eq_false, reduceCtorEq, reduceIte, Bool.false_eq_true, if_false, ite_true, ite_false])
local macro_rules | `(tactic| walk_at "go1") => `(tactic| first
  | ((with_reducible refine' And.intro ?k1 ?_); (case k1 => walk_at "cond"))
  | ((with_reducible refine' ixL_of ?k1 ?k2 ?_); (case k1 => walk_at "at"); (case k2 => rfl))
  | ((with_reducible refine' ixT_of ?k1 ?k2 ?_); (case k1 => walk_at "at"); (case k2 => rfl))
  | ((with_reducible refine' setL_of ?k1 ?k2 ?_); (case k1 => walk_at "at"); (case k2 => rfl))
  | ((with_reducible refine' lenT_of ?k1 ?_); (case k1 => walk_at "at"))
  | ((with_reducible refine' lenL_of ?k1 ?_); (case k1 => walk_at "at"))
  | (with_reducible refine isi_int ?_)
  | (with_reducible refine isi_int_bool ?_)
  | ((with_reducible refine' isi_tup ?k1 ?_); (case k1 => walk_at "at"))
  | walk_at "sim")
local macro_rules | `(tactic| walk_at "go") => `(tactic| repeat (walk_at "go1"))
section
variable {P : Program} {w : World} {K : PySem.W.Frag} {mg : Str → Option Value} {base : Heap}
/-! ### the line counts of all widths -/
abbrev st_law_counts : Stmt := topS 35
abbrev N_law_counts : List Str := ["_law_words_here", "_law_found", "_law_width"]
theorem sc_law_counts : FnScope N_law_counts ["_law_words_here"] (C8.fnScope st_law_counts) := C8.fnScope_by (by decide +kernel)
theorem start_law_counts {v0 : V} : L2.start N_law_counts [v0] = [some v0, none, none] := rfl
def spCounts : Sp := fun vs H Q _ => ∃ (p : Addr) (ws : List Int), vs = [.ref p] ∧ H p = some (.tup (ws.map V.int)) ∧ Wd ws ∧ 0 < ws.length ∧ ∀ (H' : Hp) (d : Addr), Same H H' → H d = none → H' d = some (.dK (kc ws (ws.sum + ws.length - lo ws).toNat)) → Q (.ref d) H'
theorem ok_law_counts (T : Bl mg) (D : DefAt K mg "_law_counts" st_law_counts ["_law_words_here"]) (C_law_greedy : C8.Cal P w K mg base 3 "_law_greedy" spStarts []) : C8.Cal P w K mg base 4 "_law_counts" spCounts [] := by
  refine cal_of D sc_law_counts (fun vs H Q E h => ?_) (fun f cdv A outer s H vs Q E hr h => ?_)
  · obtain ⟨p, ws, rfl, _⟩ := h
    rfl
  · obtain ⟨p, ws, rfl, hp, hw, hl, q⟩ := h
    have hlo := lo_sum hw hl
    have hlp := lo_pos ws
    refine ⟨_, (pss_cons (ps_set (i := 1) sc_law_counts.nd rfl (Or.inl rfl) pe_dnewK)
  (pss_cons (ps_for (g := gName 2) PassesOwn.never rfl (pi_range2 (by rfl) T.range_ (pa_cons (pe_callB (cr_maxT rfl) (by rfl) T.max_ (by decide +kernel) (pa_cons (pv 0) pa_nil)) (pa_cons (pe_op op_add (pe_callB (cr_sumT rfl) (by rfl) T.sum_ (by decide +kernel) (pa_cons (pv 0) pa_nil)) (pe_callB call_lenS (by rfl) T.len_ (by decide +kernel) (pa_cons (pv 0) pa_nil))) pa_nil))) (pg_name (i := 2) sc_law_counts.nd rfl (Or.inl rfl) (Or.inr rfl)) (pss_one (ps_dput (hu_of hr) (pv 1) (pv 2) (pe_callB call_lenS (by rfl) T.len_ (by decide +kernel) (pa_cons (C8.pe_c C_law_greedy hr (by decide) rfl (pa_cons (pv 0) (pa_cons (pv 2) (pa_cons pe_int pa_nil)))) pa_nil)) rfl)))
  (pss_one (ps_ret (pv 1))))), ?_⟩
    rw [start_law_counts]
    walk_at "go"
    intro d n1
    generalize e1 : upd H d _ = H1
    have s1 := same_of e1 n1
    refine maxT_of (s1 _ _ hp) hl fun m hm hmx => ?_
    have em := lo_eq' (fun x hx => (hw.2 x hx).1) hm hmx
    subst em
    refine sumT_of (s1 _ _ hp) ?_
    have hp1 := s1 _ _ hp
    walk_at "go"
    refine rng2_of (by omega) ?_
    refine forB_of walk_range (fun i σ H' => ∃ y : Option V, Same H H' ∧ H' d = some (.dK (kc ws i)) ∧ σ = [some (.ref p), some (.ref d), y]) ⟨none, s1, there e1, rfl⟩ (fun _ _ _ _ _ => True.intro) ?_ ?_
    · rintro i x σ H2 H2' hi ⟨y, s2, hd, rfl⟩ ⟨rfl, rfl⟩
      walk_at "go"
      refine ⟨p, ws, lo ws + (i : Int), 0, rfl, s2 _ _ hp, tx_lo hw.2 (by omega), hw.1, fun H3 a s3 h3 => ?_⟩
      walk_at "go"
      refine dput_of (s3 _ _ hd) (sz_lt (by rw [kc_len]; omega)) ?_
      refine ⟨_, same_mut (s2.trans s3) n1, ?_, rfl⟩
      rw [upd_same, kc_succ, putK_new]
      · rfl
      · rw [kc_at, if_neg (by omega)]
    · rintro σ H2 ⟨y, s2, hd, rfl⟩
      walk_at "go"
      exact q H2 d s2 n1 hd
end
end Ls
namespace Ls
open PySem PySem.Spec PyProof.Rows L2 RZ
local macro_rules | `(tactic| walk_at "cond") => `(tactic| first
  | exact (by decide)
  | exact (Nat.le_of_ble_eq_true rfl)
  | exact ⟨by decide, by decide, by decide⟩
  | exact ⟨by decide, by decide⟩
  | (with_reducible assumption)
  | exact Or.inl ⟨by omega, by omega⟩
  | exact Or.inr ⟨by omega, by omega⟩
  | exact ⟨by omega, by omega, by omega⟩
  | exact wide_div (b := 61) (by omega) (by omega) (by decide) (by decide)
  | (with_reducible omega))
local macro_rules | `(tactic| walk_at "at") => `(tactic| first | assumption | exact upd_same)
local macro_rules | `(tactic| walk_at "sim") => `(tactic| simp only [tSeq, tAsg, gName, tOp, tC, tVar, tRet, tRetN, tIfS, tTest, tB, tNext, tDrop, tNever, tCons, tNil, tTup, tLst, tUn, tAnd, tOr, tNot, tAndV, tOrV, tNotV, tIf, tCB, tCall, gSub, gTup, gCons, gNil, tPar, tPar3,
  tSl, tPart, tLc_eq, tFor_eq, tDIn_eq, tDNotIn_eq, tDGet_eq, sDPut_eq, tDNewK, C8.tCut, tYes, iEnum_eq, iList_eq, iTup_eq, iRng1_eq, iRng2_eq, iZipA_eq, iKeys_eq, wipe, tBM, List.map_cons, List.map_nil, List.length_map,  tNoPart, tChain, List.getElem?_cons_zero, List.getElem?_cons_succ, List.set_cons_zero, List.set_cons_succ, List.append_nil,
  s_I0, s_I, s_U, s_bl, s_int, s_some, s_eqI, s_neI, s_par2, s_par3, s_abs, s_max2, s_min2, s_cons, true_and, decide_eq_true_eq, Bool.not_eq_true', decide_eq_false_iff_not, if_true, Bool.true_eq_false, reduceCtorEq, reduceIte, Bool.false_eq_true, if_false, ite_true, ite_false])
local macro_rules | `(tactic| walk_at "go1") => `(tactic| first
  | ((with_reducible refine' And.intro ?k1 ?_); (case k1 => walk_at "cond"))
  | ((with_reducible refine' ixL_of ?k1 ?k2 ?_); (case k1 => walk_at "at"); (case k2 => rfl))
  | ((with_reducible refine' ixT_of ?k1 ?k2 ?_); (case k1 => walk_at "at"); (case k2 => rfl))
  | ((with_reducible refine' setL_of ?k1 ?k2 ?_); (case k1 => walk_at "at"); (case k2 => rfl))
  | ((with_reducible refine' lenT_of ?k1 ?_); (case k1 => walk_at "at"))
  | ((with_reducible refine' lenL_of ?k1 ?_); (case k1 => walk_at "at"))
  | (with_reducible refine isi_int ?_)
  | (with_reducible refine isi_int_bool ?_)
  | ((with_reducible refine' isi_tup ?k1 ?_); (case k1 => walk_at "at"))
  | walk_at "sim")
local macro_rules | `(tactic| walk_at "go") => `(tactic| repeat (walk_at "go1"))
section
variable {P : Program} {w : World} {K : PySem.W.Frag} {mg : Str → Option Value} {base : Heap}
/-! ### the law -/
abbrev st_law : Stmt := topS 36
abbrev N_law : List Str := ["_law_script", "_law_bag", "_law_words_here", "_law_counts_here", "_law_steps", "_law_width", "_law_lines", "_law_some", "_law_due", "_law_least", "_law_wider", "_law_fewer"]
theorem sc_law : FnScope N_law ["_law_script"] (C8.fnScope st_law) := C8.fnScope_by (by decide +kernel)
theorem start_law {v0 : V} : L2.start N_law [v0] = [some v0, none, none, none, none, none, none, none, none, none, none, none] := rfl
def spLaw (K : PySem.W.Frag) : Sp := fun vs H Q _ => ∃ (a : Addr) (ns : List Int), vs = [.ref a] ∧ SqL K H a (ns.map V.int) ∧ ns.length ≤ 63 ∧ ∀ H', Q (.bl true) H'
theorem Bag.but {H H' : Hp} {a b : Addr} {m : Int} (h : Bag H a m) (e : But b H H') (n : a ≠ b) : Bag H' a m := by
  obtain ⟨x, y, z, h1, h2, h3⟩ := h
  exact ⟨x, y, z, e _ _ n h1, h2, h3⟩
theorem Bag.ne {H : Hp} {a b : Addr} {m : Int} (h : Bag H a m) {xs : List V} (e : H b = some (.tup xs)) : b ≠ a := by
  obtain ⟨_, _, _, h1, _⟩ := h
  exact ne_of e h1 (by intro z; cases z)
theorem Bag.neL {H : Hp} {a p : Addr} {m : Int} {bs : List Addr} (h : Bag H a m) (e : H p = some (.lst (bs.map V.ref))) : p ≠ a := by
  obtain ⟨x, y, z, h1, _⟩ := h
  refine ne_of e h1 fun z => ?_
  have z2 := HO.lst.inj z
  cases bs with
  | nil => cases z2
  | cons b r => cases (List.cons.inj z2).1
theorem lock_back {H H1 H' : Hp} {d : Addr} {o x : HO} (e : upd H d x = H1) (h : H d = some o) (s : Same H1 H') : Same H (upd H' d o) := fun b u hb => by
  subst e
  by_cases hd : b = d
  · subst hd
    rw [h] at hb
    rw [upd_same, hb]
  · rw [upd_ne hd]
    exact s _ _ (by rw [upd_ne hd]; exact hb)
theorem steps_head (ws : List Int) : ∀ k : Nat, ∃ r, stepsK ws (k + 1) = (lo ws, (cnt ws (lo ws) 0 : Int)) :: r
  | 0 => ⟨[], stepsK_one ws⟩
  | k + 1 => by
    obtain ⟨r, e⟩ := steps_head ws k
    cases h : isStep ws (k + 1) with
    | true => exact ⟨_, by rw [stepsK_yes h, e]; rfl⟩
    | false => exact ⟨r, by rw [stepsK_no h, e]⟩
theorem eqv_pairs : ∀ S : List (Int × Int), PyData.eqvAll (S.map fun s => PyData.tuple [.int s.1, .int s.2]) (S.map fun s => PyData.tuple [.int s.1, .int s.2]) = true
  | [] => rfl
  | s :: r => by
    rw [List.map_cons, PyData.eqvAll, eqv_pairs r, PyData.eqv, Bool.and_true]
    have := PySem.W.ked_eqvAll [s.1, s.2] [s.1, s.2]
    simpa using this
theorem eqPairs_of {K : PySem.W.Frag} {H : Hp} {Q : VK} {a b : Addr} {ts ts' : List Addr} {S : List (Int × Int)} (h : H a = some (.lst (ts.map V.ref))) (p : PAt H ts S) (h2 : H b = some (.lst (ts'.map V.ref))) (p2 : PAt H ts' S) (q : Q (.bl true) H) : rEqD K (.ref a) (.ref b) H Q :=
  ⟨_, _, .lst (.of h) (dp_pairs p), .lst (.of h2) (dp_pairs p2), shaped_of (lay_pairs _) (Nat.le_trans (depth_pairs _) (by decide)), shaped_of (lay_pairs _) (Nat.le_trans (depth_pairs _) (by decide)), by
    rw [PyData.eqv]
    rw [eqv_pairs]
    exact q⟩
theorem ok_law {f : Addr} {fd : FuncData} (T : Bx mg) (D : C8.Def K mg "law" st_law f fd) (C_law_bags : C8.Cal P w K mg base 2 "_law_bags" (spBags K) []) (C_law_words : C8.Cal P w K mg base 2 "_law_words" spWords [])
    (C_law_counts : C8.Cal P w K mg base 4 "_law_counts" spCounts []) (C_law_same : C8.Cal P w K mg base 3 "_law_same" (spSame 2) []) (C_width_steps : C8.Cal P w K mg base 5 "width_steps" spSteps []) (C_widths_of_count : C8.Cal P w K mg base 5 "widths_of_count" spWoc [])
    (C_least_width : C8.Cal P w K mg base 5 "least_width" spLeast []) (C_line_count : C8.Cal P w K mg base 6 "line_count" spCount []) : FnOk P w K mg base CX0 7 f fd ["_law_script"] (spLaw K) := by
  refine C8.fn0 D.fn sc_law (fun vs H Q E h => ?_) (fun cdv A outer s0 H vs Q E hr h => ?_)
  · obtain ⟨a, ns, rfl, _⟩ := h
    rfl
  · obtain ⟨a, ns, rfl, hS, hlen, q⟩ := h
    refine ⟨_, (pss_cons (ps_for (g := gName 1) PassesOwn.never rfl (pi_list (C8.pe_c C_law_bags hr (by decide) rfl (pa_cons (pv 0) (pa_cons pe_int pa_nil)))) (pg_name (i := 1) sc_law.nd rfl (Or.inl rfl) (Or.inr rfl)) (pss_cons (ps_set (i := 2) sc_law.nd rfl (Or.inl rfl) (C8.pe_c C_law_words hr (by decide) rfl (pa_cons (pv 1) (pa_cons pe_int pa_nil))))
  (pss_cons (ps_asg (g := gTup K 2 (gCons (gName 3) (gCons (gName 4) gNil))) (pe_tup (pa_cons (C8.pe_c C_law_counts hr (by decide) rfl (pa_cons (pv 2) pa_nil)) (pa_cons (pe_lst pa_nil) pa_nil))) (pg_tup rfl (pgs_cons (pg_name (i := 3) sc_law.nd rfl (Or.inr rfl) (Or.inl rfl)) (pgs_cons (pg_name (i := 4) sc_law.nd rfl (Or.inl rfl) (Or.inr rfl)) pgs_nil))))
  (pss_cons (ps_for (g := gName 5) PassesOwn.never rfl (pi_list (pe_callB (cr_sortedD rfl) (by rfl) T.sorted_ (by decide +kernel) (pa_cons (pv 3) pa_nil))) (pg_name (i := 5) sc_law.nd rfl (Or.inl rfl) (Or.inr rfl)) (pss_cons (ps_if (PW.pt (pw_or (pt_cmpR (op_eqD hr.units) (pv 4) (pe_lst pa_nil) (nomark _)) (pw_or1 (pt_cmpR op_lt (pe_dget (hu_of hr) (pv 3) (pv 5) (fun _ _ => rfl)) (pe_ix ix_tup (pe_ix ix_list (pv 4) (pe_un un_neg pe_int) (fun _ _ => rfl)) pe_int (fun _ _ => rfl)) (nomark _))))) (pss_one (ps_expr (pe_bm PySem.F.plainAttrs_list PySem.F.slot_list_append PySem.F.type_list_append mt_append (pv 4) (pa_cons (pe_tup (pa_cons (pv 5) (pa_cons (pe_dget (hu_of hr) (pv 3) (pv 5) (fun _ _ => rfl)) pa_nil))) pa_nil)))) pss_nil)
  (pss_one (ps_if (pt_cmpR op_lt (pe_ix ix_tup (pe_ix ix_list (pv 4) (pe_un un_neg pe_int) (fun _ _ => rfl)) pe_int (fun _ _ => rfl)) (pe_dget (hu_of hr) (pv 3) (pv 5) (fun _ _ => rfl)) (nomark _)) (pss_one (ps_ret pe_bl)) pss_nil))))
  (pss_cons (ps_if (pt_not (pt_val (C8.pe_c C_law_same hr (by decide) rfl (pa_cons (C8.pe_c C_width_steps hr (by decide) rfl (pa_cons (pv 2) pa_nil)) (pa_cons (pv 4) pa_nil))))) (pss_one (ps_ret pe_bl)) pss_nil)
  (pss_cons (ps_for (g := gName 6) PassesOwn.never rfl (pi_range1 (by rfl) T.range_ (pa_cons (pe_op op_add (pe_callB call_lenS (by rfl) T.len_ (by decide +kernel) (pa_cons (pv 2) pa_nil)) pe_int) pa_nil)) (pg_name (i := 6) sc_law.nd rfl (Or.inr rfl) (Or.inl rfl)) (pss_cons (ps_setLc (i := 7) (own := [("_law_width", 5)]) (g := gName 5) rfl sc_law.nd rfl rfl (sw_true rfl rfl rfl (by decide +kernel)) (pi_list (pe_callB (cr_sortedD rfl) (by rfl) T.sorted_ (by decide +kernel) (pa_cons (pv 3) pa_nil))) (blkOk_by (own := [("_law_width", 5)]) (N := N_law) (sc := (C8.fnScope st_law)) (by decide +kernel)) (fun _ _ _ _ _ => (pg_name (i := 5) sc_law.nd rfl (Or.inl rfl) (Or.inr rfl))) (fun _ _ _ _ _ => (pts_one (pt_cmpR op_eq (pe_dget (hu_of hr) (pv 3) (pv 5) (fun _ _ => rfl)) (pv 6) (nomark _)))) (fun _ _ _ _ _ => (pv 5)))
  (pss_cons (ps_set (i := 8) sc_law.nd rfl (Or.inl rfl) (pe_ifExp (pt_cmpR (op_neD hr.units) (pv 7) (pe_lst pa_nil) (nomark _)) (pe_tup (pa_cons (pe_ix ix_list (pv 7) pe_int (fun _ _ => rfl)) (pa_cons (pe_ifExp (pt_cmpR op_gt (pv 6) pe_int (nomark _)) (pe_ix ix_list (pv 7) (pe_un un_neg pe_int) (fun _ _ => rfl)) pe_int) pa_nil))) pe_non))
  (pss_cons (ps_if (pt_not (pt_val (C8.pe_c C_law_same hr (by decide) rfl (pa_cons (C8.pe_c C_widths_of_count hr (by decide) rfl (pa_cons (pv 2) (pa_cons (pv 6) pa_nil))) (pa_cons (pv 8) pa_nil))))) (pss_one (ps_ret pe_bl)) pss_nil)
  (pss_one (ps_if (pt_cmpR op_gt (pv 6) pe_int (nomark _)) (pss_cons (ps_set (i := 9) sc_law.nd rfl (Or.inl rfl) (pe_callB (cr_min rfl) (by rfl) T.min_ (by decide +kernel) (pa_cons (pe_lock (pe_lc (own := [("_law_width", 5)]) (g := gName 5) rfl sc_law.nd (pi_keys (pv 3)) (blkOk_by (own := [("_law_width", 5)]) (N := N_law) (sc := (C8.fnScope st_law)) (by decide +kernel)) (fun _ _ _ _ _ => (pg_name (i := 5) sc_law.nd rfl (Or.inl rfl) (Or.inr rfl))) (fun _ _ _ _ _ => (pts_one (pt_cmpR op_le (pe_dget (hu_of hr) (pv 3) (pv 5) (fun _ _ => rfl)) (pv 6) (nomark _)))) (fun _ _ _ _ _ => (pv 5)))) pa_nil)))
  (pss_one (ps_if (pt_not (pt_val (C8.pe_c C_law_same hr (by decide) rfl (pa_cons (C8.pe_c C_least_width hr (by decide) rfl (pa_cons (pv 2) (pa_cons (pv 6) pa_nil))) (pa_cons (pv 9) pa_nil))))) (pss_one (ps_ret pe_bl)) pss_nil))) pss_nil))))))
  (pss_cons (ps_set (i := 2) sc_law.nd rfl (Or.inl rfl) (pe_op op_catA (C8.pe_c C_law_words hr (by decide) rfl (pa_cons (pv 1) (pa_cons pe_int pa_nil))) (pe_tup (pa_cons pe_int (pa_cons pe_int pa_nil)))))
  (pss_cons (ps_set (i := 2) sc_law.nd rfl (Or.inl rfl) (pe_slice sl_tupA (pv 2) po_none (po_some pe_int)))
  (pss_cons (ps_set (i := 4) sc_law.nd rfl (Or.inl rfl) (C8.pe_c C_width_steps hr (by decide) rfl (pa_cons (pv 2) pa_nil)))
  (pss_cons (ps_if (PW.pt (pw_or (pt_cmpR op_ne (pe_ix ix_tup (pe_ix ix_list (pv 4) pe_int (fun _ _ => rfl)) pe_int (fun _ _ => rfl)) (pe_callB (cr_maxT rfl) (by rfl) T.max_ (by decide +kernel) (pa_cons (pv 2) pa_nil)) (nomark _)) (pw_or1 (pt_cmpR op_ne (pe_ix ix_tup (pe_ix ix_list (pv 4) (pe_un un_neg pe_int) (fun _ _ => rfl)) pe_int (fun _ _ => rfl)) pe_int (nomark _))))) (pss_one (ps_ret pe_bl)) pss_nil)
  (pss_cons (ps_for (g := gTup K 2 (gCons (gTup K 2 (gCons (gName 5) (gCons (gName 6) gNil))) (gCons (gTup K 2 (gCons (gName 10) (gCons (gName 11) gNil))) gNil))) PassesOwn.never rfl (pi_zipA (by rfl) T.zip_ (pa_cons (pv 4) (pa_cons (pe_slice sl_list (pv 4) (po_some pe_int) po_none) pa_nil))) (pg_tup rfl (pgs_cons (pg_tup rfl (pgs_cons (pg_name (i := 5) sc_law.nd rfl (Or.inl rfl) (Or.inr rfl)) (pgs_cons (pg_name (i := 6) sc_law.nd rfl (Or.inr rfl) (Or.inl rfl)) pgs_nil))) (pgs_cons (pg_tup rfl (pgs_cons (pg_name (i := 10) sc_law.nd rfl (Or.inl rfl) (Or.inr rfl)) (pgs_cons (pg_name (i := 11) sc_law.nd rfl (Or.inl rfl) (Or.inr rfl)) pgs_nil))) pgs_nil))) (pss_cons (ps_if (PW.pt (pw_or (pt_not (pt_cmpR op_lt (pv 5) (pv 10) (nomark _))) (pw_or (pt_not (pt_cmpR op_gt (pv 6) (pv 11) (nomark _))) (pw_or1 (pt_cmpR op_ne (C8.pe_c C_line_count hr (by decide) rfl (pa_cons (pv 2) (pa_cons (pe_op op_sub (pv 10) pe_int) pa_nil))) (pv 6) (nomark _)))))) (pss_one (ps_ret pe_bl)) pss_nil)
  (pss_one (ps_if (PW.pt (pw_or (pt_cmpR op_ne (C8.pe_c C_line_count hr (by decide) rfl (pa_cons (pv 2) (pa_cons (pv 10) pa_nil))) (pv 11) (nomark _)) (pw_or1 (pt_cmpR (op_neD hr.units) (C8.pe_c C_widths_of_count hr (by decide) rfl (pa_cons (pv 2) (pa_cons (pv 6) pa_nil))) (pe_tup (pa_cons (pv 5) (pa_cons (pe_op op_sub (pv 10) pe_int) pa_nil))) (nomark _))))) (pss_one (ps_ret pe_bl)) pss_nil))))
  (pss_one (ps_if (PW.pt (pw_or (pt_cmpR op_ne (C8.pe_c C_line_count hr (by decide) rfl (pa_cons (pv 2) (pa_cons (pe_op op_sub (pe_op op_add (pe_callB (cr_sumT rfl) (by rfl) T.sum_ (by decide +kernel) (pa_cons (pv 2) pa_nil)) (pe_callB call_lenS (by rfl) T.len_ (by decide +kernel) (pa_cons (pv 2) pa_nil))) pe_int) pa_nil))) pe_int (nomark _)) (pw_or1 (pt_cmpR op_gt (pe_ix ix_tup (pe_ix ix_list (pv 4) (pe_un un_neg pe_int) (fun _ _ => rfl)) pe_int (fun _ _ => rfl)) (pe_op op_sub (pe_op op_add (pe_callB (cr_sumT rfl) (by rfl) T.sum_ (by decide +kernel) (pa_cons (pv 2) pa_nil)) (pe_callB call_lenS (by rfl) T.len_ (by decide +kernel) (pa_cons (pv 2) pa_nil))) pe_int) (nomark _))))) (pss_one (ps_ret pe_bl)) pss_nil)))))))))))))
  (pss_one (ps_ret (pe_and (pe_cmpR (op_eqD hr.units) (C8.pe_c C_width_steps hr (by decide) rfl (pa_cons (pe_tup pa_nil) pa_nil)) (pe_lst (pa_cons (pe_tup (pa_cons pe_int (pa_cons pe_int pa_nil))) pa_nil)) (nomark _)) (pe_one (pe_cmpR (op_eqD hr.units) (C8.pe_c C_widths_of_count hr (by decide) rfl (pa_cons (pe_tup pa_nil) (pa_cons pe_int pa_nil))) (pe_tup (pa_cons pe_int (pa_cons pe_int pa_nil))) (nomark _))))))), ?_⟩
    rw [start_law]
    walk_at "go"
    refine ⟨a, ns, 6, rfl, hS, hlen, by decide, by decide, fun H1 p bs s1 n1 h1 hnd hbs => ?_⟩
    walk_at "go"
    refine list_of (.of h1) ?_
    refine forB_of (walk_list (xs := bs.map V.ref)) (fun i σ H' => ∃ y1 y2 y3 y4 y5 y6 y7 y8 y9 y10 y11 : Option V, σ = [some (.ref a), y1, y2, y3, y4, y5, y6, y7, y8, y9, y10, y11] ∧ H' p = some (.lst (bs.map V.ref)) ∧ ∀ j b, i ≤ j → bs[j]? = some b → Bag H' b 100000)
      ⟨none, none, none, none, none, none, none, none, none, none, none, rfl, h1, fun j b _ hb => (hbs b (List.mem_of_getElem? hb)).1⟩ (fun i σ H' hi h => .of h.choose_spec.choose_spec.choose_spec.choose_spec.choose_spec.choose_spec.choose_spec.choose_spec.choose_spec.choose_spec.choose_spec.2.1) ?_ ?_
    · rintro i x σ H2 H2' hi ⟨y1, y2, y3, y4, y5, y6, y7, y8, y9, y10, y11, rfl, hp2, hB2⟩ ⟨rfl, hx⟩
      rw [List.getElem?_map] at hx
      obtain ⟨b, hb, rfl⟩ := Option.map_eq_some_iff.mp hx
      have B2 := hB2 i b (Nat.le_refl _) hb
      walk_at "go"
      refine ⟨b, 14, 100000, rfl, B2, by decide, by decide, by decide, fun H3 pw ws b3 n3 h3 B3 hl1 hl60 hws => ?_⟩
      have hw : Wd ws := ⟨by omega, hws⟩
      have hlo := lo_sum hw hl1
      have hlp := lo_pos ws
      walk_at "go"
      refine ⟨pw, ws, rfl, h3, hw, hl1, fun H4 dc s4 n4 h4 => ?_⟩
      walk_at "go"
      intro dl n5
      generalize e5 : upd H4 dl _ = H5
      have s5 := same_of e5 n5
      refine ⟨Nat.le_of_ble_eq_true rfl, fun pt n6 => ?_⟩
      generalize e6 : upd H5 pt _ = H6
      have s6 := same_of e6 n6
      refine tupg_of (there e6) rfl ?_
      walk_at "go"
      have s46 := s5.trans s6
      refine sortedD_of (s46 _ _ h4) (kc_keys _ _) (wid_sorted _ _) fun ps n7 => ?_
      generalize e7 : upd H6 ps _ = H7
      have s7 := same_of e7 n7
      refine list_of (.of (there e7)) ?_
      have hdlps : dl ≠ ps := ne_of_none (s6 _ _ (there e5)) n7
      refine forB_of (walk_list (xs := (wid ws (ws.sum + ws.length - lo ws).toNat).map V.int)) (fun k σ H' => ∃ (y : Option V) (ts : List Addr), σ = [some (.ref a), some (.ref b), some (.ref pw), some (.ref dc), some (.ref dl), y, y6, y7, y8, y9, y10, y11] ∧ Same H4 H' ∧ H' dl = some (.lst (ts.map V.ref)) ∧ PAt H' ts (stepsK ws k) ∧ H' ps = some (.lst ((wid ws (ws.sum + ws.length - lo ws).toNat).map V.int)))
        ⟨y5, [], rfl, s46.trans s7, s7 _ _ (s6 _ _ (there e5)), True.intro, there e7⟩ (fun k σ H' hk h => .of h.choose_spec.choose_spec.2.2.2.2) ?_ ?_
      · rintro k x σ H8 H8' hk ⟨y, ts, rfl, sm, hd, hP, hps⟩ ⟨rfl, hx⟩
        obtain ⟨hk, rfl⟩ := wid_get hx
        have hlt : ts.length ≤ k := by
          rw [hP.len, stepsK_sel, List.length_map]
          exact sel_len _ _
        walk_at "go"
        intro pe n9
        generalize e9 : upd H8' pe _ = H9
        have s9 := same_of e9 n9
        have hd9 := s9 _ _ hd
        have hps9 := s9 _ _ hps
        have hP9 := hP.to fun b xs => s9 b (.tup xs)
        have sm9 := sm.trans s9
        have hdc9 := sm9 _ _ h4
        refine eqLnil_of hd9 (dp_pairs hP9) (lay_pairs _) (Nat.le_trans (depth_pairs _) (by decide)) (there e9) ?_
        rcases Nat.eq_zero_or_pos k with hk0 | hk0
        · have hst : isStep ws k = true := by rw [hk0]; rfl
          have ets : ts = [] := List.length_eq_zero_iff.mp (by omega)
          rw [decide_eq_true (by rw [ets]; rfl)]
          walk_at "go"
          refine ⟨.inl ⟨rfl, _, .inl (.inl hd9)⟩, ?_⟩
          refine dget_of hdc9 (by rw [kc_at, if_pos hk]) ?_
          walk_at "go"
          intro tt n10
          generalize e10 : upd H9 tt _ = H10
          have s10 := same_of e10 n10
          refine app_of (s10 _ _ hd9) (sz_lt (by rw [List.length_map]; omega)) ?_
          generalize e11 : upd H10 dl _ = H11
          have b11 := but_of e11
          have tk : ∀ b xs, H10 b = some (.tup xs) → H11 b = some (.tup xs) := fun b xs hb => b11 _ _ (ne_of hb (s10 _ _ hd9) (by intro z; cases z)) hb
          have hP11 : PAt H11 (ts ++ [tt]) (stepsK ws (k + 1)) := by
            rw [stepsK_yes hst]
            exact PAt.snoc (tk _ _ (there e10)) (hP9.to fun b xs hb => tk _ _ (s10 _ _ hb))
          have s11 : Same H4 H11 := by
            subst e11
            exact same_mut (sm9.trans s10) n5
          walk_at "go"
          refine ixL_of (there e11) (atI_last _ _) ?_
          refine ixT_of (tk _ _ (there e10)) rfl ?_
          walk_at "go"
          refine dget_of (s11 _ _ h4) (by rw [kc_at, if_pos hk]) ?_
          walk_at "go"
          rw [if_neg (by omega)]
          exact ⟨_, ts ++ [tt], rfl, s11, by rw [there e11, List.map_append]; rfl, hP11, b11 _ _ (Ne.symm hdlps) (s10 _ _ hps9)⟩
        · obtain ⟨r, x, er⟩ := stepsK_last hw.2 (k - 1)
          rw [Nat.sub_add_cancel hk0] at er
          have hPl := hP9
          rw [er] at hPl
          obtain ⟨rs, tl, ets, _, htl⟩ := hPl.last
          have hd9' := hd9
          rw [ets, List.map_append] at hd9'
          rw [decide_eq_false (by rw [ets, List.map_append]; simp)]
          walk_at "go"
          refine dget_of hdc9 (by rw [kc_at, if_pos hk]) ?_
          refine ixL_of hd9' (atI_last _ _) ?_
          refine ixT_of htl rfl ?_
          walk_at "go"
          have ek : lo ws + ((k - 1 : Nat) : Int) = lo ws + (k : Int) - 1 := by omega
          rw [ek] at htl ⊢
          refine ite2 (fun e => ?_) (fun e => ?_)
          · have hst : isStep ws k = true := by
              unfold isStep
              rw [Bool.or_eq_true]
              exact .inr (decide_eq_true (by omega))
            walk_at "go"
            refine ⟨.inl ⟨rfl, _, .inl (.inl hd9)⟩, ?_⟩
            refine dget_of hdc9 (by rw [kc_at, if_pos hk]) ?_
            walk_at "go"
            intro tt n10
            generalize e10 : upd H9 tt _ = H10
            have s10 := same_of e10 n10
            refine app_of (s10 _ _ hd9) (sz_lt (by rw [List.length_map]; omega)) ?_
            generalize e11 : upd H10 dl _ = H11
            have b11 := but_of e11
            have tk : ∀ b xs, H10 b = some (.tup xs) → H11 b = some (.tup xs) := fun b xs hb => b11 _ _ (ne_of hb (s10 _ _ hd9) (by intro z; cases z)) hb
            have hP11 : PAt H11 (ts ++ [tt]) (stepsK ws (k + 1)) := by
              rw [stepsK_yes hst]
              exact PAt.snoc (tk _ _ (there e10)) (hP9.to fun b xs hb => tk _ _ (s10 _ _ hb))
            have s11 : Same H4 H11 := by
              subst e11
              exact same_mut (sm9.trans s10) n5
            walk_at "go"
            refine ixL_of (there e11) (atI_last _ _) ?_
            refine ixT_of (tk _ _ (there e10)) rfl ?_
            walk_at "go"
            refine dget_of (s11 _ _ h4) (by rw [kc_at, if_pos hk]) ?_
            walk_at "go"
            rw [if_neg (by omega)]
            exact ⟨_, ts ++ [tt], rfl, s11, by rw [there e11, List.map_append]; rfl, hP11, b11 _ _ (Ne.symm hdlps) (s10 _ _ hps9)⟩
          · have hst : isStep ws k = false := by
              unfold isStep
              rw [Bool.or_eq_false_iff]
              exact ⟨decide_eq_false (by omega), decide_eq_false (by omega)⟩
            walk_at "go"
            refine ixL_of hd9' (atI_last _ _) ?_
            refine ixT_of htl rfl ?_
            walk_at "go"
            refine dget_of hdc9 (by rw [kc_at, if_pos hk]) ?_
            have := cnt_w hw.2 (u := lo ws + (k : Int) - 1) (u' := lo ws + (k : Int)) (by omega) (by omega) 0
            walk_at "go"
            rw [if_neg (by omega)]
            exact ⟨_, ts, rfl, sm9, hd9, by rw [stepsK_no hst]; exact hP9, hps9⟩
      · rintro σ H8 ⟨y, ts, rfl, sm, hd, hP, hps⟩
        rw [List.length_map, wid_len] at hP
        walk_at "go"
        have hpw4 := s4 _ _ h3
        refine ⟨pw, ws, rfl, sm _ _ hpw4, hw, cnt_2500 hw hl1, fun H9 d9 ts9 S9 s9 n9 h9 P9 I9 => ?_⟩
        have es := steps_all hw hl1 I9
        subst es
        walk_at "go"
        refine ⟨_, _, rfl, same_pairs h9 (s9 _ _ hd) P9 (hP.to fun b xs => s9 b (.tup xs)) (by rw [stepsK_sel, List.length_map]; exact Nat.le_trans (sel_len _ _) (by omega)), fun H10 s10 => ?_⟩
        have s410 := sm.trans (s9.trans s10)
        have hpw10 := s410 _ _ hpw4
        walk_at "go"
        refine rng1_of (j := (ws.length : Int) + 1) (by omega) (by omega) ?_
        refine forB_of walk_range (fun i σ H' => ∃ y5 y6 y7 y8 y9 y10 y11 : Option V, σ = [some (.ref a), some (.ref b), some (.ref pw), some (.ref dc), some (.ref dl), y5, y6, y7, y8, y9, y10, y11] ∧ Same H4 H')
          ⟨_, _, _, _, _, _, _, rfl, s410⟩ (fun _ _ _ _ _ => True.intro) ?_ ?_
        · rintro l x σ H11 H11' hl ⟨y5, y6, y7, y8, y9, y10, y11, rfl, s11⟩ ⟨rfl, rfl⟩
          simp only [Int.zero_add]
          walk_at "go"
          refine sortedD_of (s11 _ _ h4) (kc_keys _ _) (wid_sorted _ _) fun pq n12 => ?_
          generalize e12 : upd H11' pq _ = H12
          have s12 := same_of e12 n12
          refine list_of (.of (there e12)) ?_
          have s412 := s11.trans s12
          refine lcB_of (walk_list (xs := (wid ws (ws.sum + ws.length - lo ws).toNat).map V.int)) fun D hD => ?_
          refine ⟨fun k H' => Same H12 H' ∧ H' D = some (.lst (((sel (fun j => decide (cnt ws (lo ws + (j : Int)) 0 = l)) k).map fun (j : Nat) => lo ws + (j : Int)).map V.int)), ⟨same_upd hD, upd_same⟩, fun k H' _ h => .of (h.1 _ _ (there e12)), ?_, ?_⟩
          · rintro k x H' H'' hk ⟨sm, hD'⟩ ⟨rfl, hx⟩
            obtain ⟨hk, rfl⟩ := wid_get hx
            have hlen : (sel (fun j => decide (cnt ws (lo ws + (j : Int)) 0 = l)) k).length ≤ k := sel_len _ _
            walk_at "go"
            refine dget_of (sm _ _ (s412 _ _ h4)) (by rw [kc_at, if_pos hk]) ?_
            walk_at "go"
            refine ite2 (fun e => ?_) (fun e => ?_)
            · refine ⟨_, hD', sz_lt (by rw [List.length_map, List.length_map]; omega), same_mut sm hD, ?_⟩
              rw [upd_same, sel_yes (decide_eq_true (by omega)), List.map_append, List.map_append]
              rfl
            · refine ⟨sm, ?_⟩
              rw [sel_no (decide_eq_false (by omega))]
              exact hD'
          · rintro H13 ⟨sm, hD'⟩
            rw [List.length_map, wid_len] at hD'
            walk_at "go"
            intro pe n14
            generalize e14 : upd H13 pe _ = H14
            have s14 := same_of e14 n14
            have hD14 := s14 _ _ hD'
            have s414 := s412.trans (sm.trans s14)
            have hpw14 := s414 _ _ hpw4
            refine neLnil_of hD14 (dpAll_ints _) (canLay_ints _) (by rw [depth_ints]; decide) (there e14) ?_
            rcases hsel : sel (fun j => decide (cnt ws (lo ws + (j : Int)) 0 = l)) (ws.sum + ws.length - lo ws).toNat with _ | ⟨a0, r0⟩
            · have W := woc_none hw hl1 hsel
              rw [show List.map V.int (List.map (fun (j : Nat) => lo ws + (j : Int)) []) = [] from rfl]
              walk_at "go"
              rw [if_neg (not_not_intro trivial)]
              walk_at "go"
              refine ⟨pw, ws, (l : Nat), rfl, hpw14, hw, by omega, by omega, cnt_2500 hw hl1, fun H16 s16 hW => ?_, fun H16 tw wa wb s16 h16 hW => ?_⟩
              · walk_at "go"
                refine ⟨_, _, rfl, SameD.flat (.inr ⟨rfl, rfl⟩), fun H17 s17 => ?_⟩
                have s417 := s414.trans (s16.trans s17)
                have hpw17 := s417 _ _ hpw4
                have hdc17 := s417 _ _ h4
                walk_at "go"
                refine ite2 (fun e0 => ?_) (fun e0 => ?_)
                · walk_at "go"
                  refine lockE_of hdc17 fun od => ?_
                  generalize e18 : upd H17 dc _ = H18
                  walk_at "go"
                  refine keys_of (there e18) ?_
                  refine lcB_of walk_keys fun D hD => ?_
                  have hDdc : D ≠ dc := fun z => by
                    rw [z, there e18] at hD
                    cases hD
                  refine ⟨fun k H' => Same H18 H' ∧ H' D = some (.lst (((sel (fun j => decide (cnt ws (lo ws + (j : Int)) 0 ≤ l)) k).map fun (j : Nat) => lo ws + (j : Int)).map V.int)), ⟨same_upd hD, upd_same⟩, fun k H' _ h => h.1 _ _ (there e18), ?_, ?_⟩
                  · rintro k x H' H'' hk ⟨sm, hD'⟩ ⟨rfl, k2, v2, hkv, rfl⟩
                    obtain ⟨hk, rfl, rfl⟩ := kc_get hkv
                    have hlen : (sel (fun j => decide (cnt ws (lo ws + (j : Int)) 0 ≤ l)) k).length ≤ k := sel_len _ _
                    walk_at "go"
                    refine dgetF_of (sm _ _ (there e18)) (by rw [kc_at, if_pos hk]) ?_
                    walk_at "go"
                    refine ite2 (fun e => ?_) (fun e => ?_)
                    · refine ⟨_, hD', sz_lt (by rw [List.length_map, List.length_map]; omega), same_mut sm hD, ?_⟩
                      rw [upd_same, sel_yes (decide_eq_true (by omega)), List.map_append, List.map_append]
                      rfl
                    · refine ⟨sm, ?_⟩
                      rw [sel_no (decide_eq_false (by omega))]
                      exact hD'
                  · rintro H' ⟨sm, hD'⟩
                    rw [kc_len] at hD'
                    refine ⟨sm _ _ (there e18), ?_⟩
                    have sb : Same H17 (upd H' dc (.dK (kc ws (ws.sum + ws.length - lo ws).toNat))) := lock_back e18 hdc17 sm
                    generalize e19 : upd H' dc _ = H19 at sb
                    have hD19 : H19 D = some (.lst (((sel (fun j => decide (cnt ws (lo ws + (j : Int)) 0 ≤ l)) (ws.sum + ws.length - lo ws).toNat).map fun (j : Nat) => lo ws + (j : Int)).map V.int)) := by
                      rw [← e19, upd_ne hDdc]
                      exact hD'
                    have hpw19 := sb _ _ hpw17
                    have hin : (ws.sum + ws.length - lo ws).toNat - 1 ∈ sel (fun j => decide (cnt ws (lo ws + (j : Int)) 0 ≤ l)) (ws.sum + ws.length - lo ws).toNat := sel_mem.mpr ⟨by omega, decide_eq_true (by
                      rw [cnt_top hw hl1 (by omega)]
                      omega)⟩
                    refine minL_of hD19 (by rw [List.length_map]; exact List.length_pos_of_mem hin) fun m hm hmx => ?_
                    have hNar : IsNar ws l m := by
                      obtain ⟨j, hj, ej⟩ := List.mem_map.mp hm
                      exact nar_least hw hl1 (by omega) ⟨j, hj, ej.symm⟩ fun j hj => hmx _ (List.mem_map.mpr ⟨j, hj, rfl⟩)
                    walk_at "go"
                    refine ⟨pw, ws, l, rfl, hpw19, hw, by omega, by omega, by have := cnt_2500 hw hl1; omega, fun H20 v s20 hv => ?_⟩
                    walk_at "go"
                    refine ⟨_, _, rfl, SameD.flat (.inl ⟨v, rfl, by rw [nar_eq hv hNar]⟩), fun H21 s21 => ?_⟩
                    walk_at "go"
                    exact ⟨_, _, _, _, _, _, _, rfl, s417.trans (sb.trans (s20.trans s21))⟩
                · walk_at "go"
                  exact ⟨_, _, _, _, _, _, _, rfl, s417⟩
              · exact absurd (woc_eq hW W) (by intro z; cases z)
            · rcases List.eq_nil_or_concat (a0 :: r0) with e0 | ⟨r1, b0, e0⟩
              · cases e0
              rw [List.concat_eq_append] at e0
              have W := woc_some hw hl1 hsel e0
              rw [hsel] at hD14
              rw [decide_eq_false (by simp)]
              walk_at "go"
              refine ixL_of hD14 (atI_nat (j := 0) rfl) ?_
              walk_at "go"
              refine ite2 (fun el => ?_) (fun el => ?_)
              · rw [if_pos el] at W
                have hD14' := hD14
                rw [e0, List.map_append, List.map_append] at hD14'
                refine ixL_of hD14' (atI_last _ _) ?_
                walk_at "go"
                intro tp n15
                generalize e15 : upd H14 tp _ = H15
                have s15 := same_of e15 n15
                have htp := there e15
                have s415 := s414.trans s15
                have hpw15 := s415 _ _ hpw4
                walk_at "go"
                refine ⟨pw, ws, (l : Nat), rfl, hpw15, hw, by omega, by omega, cnt_2500 hw hl1, fun H16 s16 hW => ?_, fun H16 tw wa wb s16 h16 hW => ?_⟩
                · exact absurd (woc_eq hW W) (by intro z; cases z)
                · have ew := woc_eq hW W
                  cases ew
                  walk_at "go"
                  refine ⟨_, _, rfl, .inr ⟨tw, tp, _, _, rfl, rfl, .inr ⟨h16, s16 _ _ htp⟩, rfl, Nat.le_of_ble_eq_true rfl, fun i x y hx hy => SameD.flat (.inl ?_)⟩, fun H17 s17 => ?_⟩
                  · match i, hx, hy with
                    | 0, hx, hy => cases hx; cases hy; exact ⟨_, rfl, rfl⟩
                    | 1, hx, hy => cases hx; cases hy; exact ⟨_, rfl, rfl⟩
                  · have s417 := s415.trans (s16.trans s17)
                    have hpw17 := s417 _ _ hpw4
                    have hdc17 := s417 _ _ h4
                    walk_at "go"
                    refine ite2 (fun e0 => ?_) (fun e0 => ?_)
                    · walk_at "go"
                      refine lockE_of hdc17 fun od => ?_
                      generalize e18 : upd H17 dc _ = H18
                      walk_at "go"
                      refine keys_of (there e18) ?_
                      refine lcB_of walk_keys fun D hD => ?_
                      have hDdc : D ≠ dc := fun z => by
                        rw [z, there e18] at hD
                        cases hD
                      refine ⟨fun k H' => Same H18 H' ∧ H' D = some (.lst (((sel (fun j => decide (cnt ws (lo ws + (j : Int)) 0 ≤ l)) k).map fun (j : Nat) => lo ws + (j : Int)).map V.int)), ⟨same_upd hD, upd_same⟩, fun k H' _ h => h.1 _ _ (there e18), ?_, ?_⟩
                      · rintro k x H' H'' hk ⟨sm, hD'⟩ ⟨rfl, k2, v2, hkv, rfl⟩
                        obtain ⟨hk, rfl, rfl⟩ := kc_get hkv
                        have hlen : (sel (fun j => decide (cnt ws (lo ws + (j : Int)) 0 ≤ l)) k).length ≤ k := sel_len _ _
                        walk_at "go"
                        refine dgetF_of (sm _ _ (there e18)) (by rw [kc_at, if_pos hk]) ?_
                        walk_at "go"
                        refine ite2 (fun e => ?_) (fun e => ?_)
                        · refine ⟨_, hD', sz_lt (by rw [List.length_map, List.length_map]; omega), same_mut sm hD, ?_⟩
                          rw [upd_same, sel_yes (decide_eq_true (by omega)), List.map_append, List.map_append]
                          rfl
                        · refine ⟨sm, ?_⟩
                          rw [sel_no (decide_eq_false (by omega))]
                          exact hD'
                      · rintro H' ⟨sm, hD'⟩
                        rw [kc_len] at hD'
                        refine ⟨sm _ _ (there e18), ?_⟩
                        have sb : Same H17 (upd H' dc (.dK (kc ws (ws.sum + ws.length - lo ws).toNat))) := lock_back e18 hdc17 sm
                        generalize e19 : upd H' dc _ = H19 at sb
                        have hD19 : H19 D = some (.lst (((sel (fun j => decide (cnt ws (lo ws + (j : Int)) 0 ≤ l)) (ws.sum + ws.length - lo ws).toNat).map fun (j : Nat) => lo ws + (j : Int)).map V.int)) := by
                          rw [← e19, upd_ne hDdc]
                          exact hD'
                        have hpw19 := sb _ _ hpw17
                        have hin : (ws.sum + ws.length - lo ws).toNat - 1 ∈ sel (fun j => decide (cnt ws (lo ws + (j : Int)) 0 ≤ l)) (ws.sum + ws.length - lo ws).toNat := sel_mem.mpr ⟨by omega, decide_eq_true (by
                          rw [cnt_top hw hl1 (by omega)]
                          omega)⟩
                        refine minL_of hD19 (by rw [List.length_map]; exact List.length_pos_of_mem hin) fun m hm hmx => ?_
                        have hNar : IsNar ws l m := by
                          obtain ⟨j, hj, ej⟩ := List.mem_map.mp hm
                          exact nar_least hw hl1 (by omega) ⟨j, hj, ej.symm⟩ fun j hj => hmx _ (List.mem_map.mpr ⟨j, hj, rfl⟩)
                        walk_at "go"
                        refine ⟨pw, ws, l, rfl, hpw19, hw, by omega, by omega, by have := cnt_2500 hw hl1; omega, fun H20 v s20 hv => ?_⟩
                        walk_at "go"
                        refine ⟨_, _, rfl, SameD.flat (.inl ⟨v, rfl, by rw [nar_eq hv hNar]⟩), fun H21 s21 => ?_⟩
                        walk_at "go"
                        exact ⟨_, _, _, _, _, _, _, rfl, s417.trans (sb.trans (s20.trans s21))⟩
                    · walk_at "go"
                      exact ⟨_, _, _, _, _, _, _, rfl, s417⟩
              · rw [if_neg el] at W
                walk_at "go"
                intro tp n15
                generalize e15 : upd H14 tp _ = H15
                have s15 := same_of e15 n15
                have htp := there e15
                have s415 := s414.trans s15
                have hpw15 := s415 _ _ hpw4
                walk_at "go"
                refine ⟨pw, ws, (l : Nat), rfl, hpw15, hw, by omega, by omega, cnt_2500 hw hl1, fun H16 s16 hW => ?_, fun H16 tw wa wb s16 h16 hW => ?_⟩
                · exact absurd (woc_eq hW W) (by intro z; cases z)
                · have ew := woc_eq hW W
                  cases ew
                  walk_at "go"
                  refine ⟨_, _, rfl, .inr ⟨tw, tp, _, _, rfl, rfl, .inr ⟨h16, s16 _ _ htp⟩, rfl, Nat.le_of_ble_eq_true rfl, fun i x y hx hy => SameD.flat (.inl ?_)⟩, fun H17 s17 => ?_⟩
                  · match i, hx, hy with
                    | 0, hx, hy => cases hx; cases hy; exact ⟨_, rfl, rfl⟩
                    | 1, hx, hy => cases hx; cases hy; exact ⟨_, rfl, rfl⟩
                  · have s417 := s415.trans (s16.trans s17)
                    have hpw17 := s417 _ _ hpw4
                    have hdc17 := s417 _ _ h4
                    walk_at "go"
                    refine ite2 (fun e0 => ?_) (fun e0 => ?_)
                    · walk_at "go"
                      refine lockE_of hdc17 fun od => ?_
                      generalize e18 : upd H17 dc _ = H18
                      walk_at "go"
                      refine keys_of (there e18) ?_
                      refine lcB_of walk_keys fun D hD => ?_
                      have hDdc : D ≠ dc := fun z => by
                        rw [z, there e18] at hD
                        cases hD
                      refine ⟨fun k H' => Same H18 H' ∧ H' D = some (.lst (((sel (fun j => decide (cnt ws (lo ws + (j : Int)) 0 ≤ l)) k).map fun (j : Nat) => lo ws + (j : Int)).map V.int)), ⟨same_upd hD, upd_same⟩, fun k H' _ h => h.1 _ _ (there e18), ?_, ?_⟩
                      · rintro k x H' H'' hk ⟨sm, hD'⟩ ⟨rfl, k2, v2, hkv, rfl⟩
                        obtain ⟨hk, rfl, rfl⟩ := kc_get hkv
                        have hlen : (sel (fun j => decide (cnt ws (lo ws + (j : Int)) 0 ≤ l)) k).length ≤ k := sel_len _ _
                        walk_at "go"
                        refine dgetF_of (sm _ _ (there e18)) (by rw [kc_at, if_pos hk]) ?_
                        walk_at "go"
                        refine ite2 (fun e => ?_) (fun e => ?_)
                        · refine ⟨_, hD', sz_lt (by rw [List.length_map, List.length_map]; omega), same_mut sm hD, ?_⟩
                          rw [upd_same, sel_yes (decide_eq_true (by omega)), List.map_append, List.map_append]
                          rfl
                        · refine ⟨sm, ?_⟩
                          rw [sel_no (decide_eq_false (by omega))]
                          exact hD'
                      · rintro H' ⟨sm, hD'⟩
                        rw [kc_len] at hD'
                        refine ⟨sm _ _ (there e18), ?_⟩
                        have sb : Same H17 (upd H' dc (.dK (kc ws (ws.sum + ws.length - lo ws).toNat))) := lock_back e18 hdc17 sm
                        generalize e19 : upd H' dc _ = H19 at sb
                        have hD19 : H19 D = some (.lst (((sel (fun j => decide (cnt ws (lo ws + (j : Int)) 0 ≤ l)) (ws.sum + ws.length - lo ws).toNat).map fun (j : Nat) => lo ws + (j : Int)).map V.int)) := by
                          rw [← e19, upd_ne hDdc]
                          exact hD'
                        have hpw19 := sb _ _ hpw17
                        have hin : (ws.sum + ws.length - lo ws).toNat - 1 ∈ sel (fun j => decide (cnt ws (lo ws + (j : Int)) 0 ≤ l)) (ws.sum + ws.length - lo ws).toNat := sel_mem.mpr ⟨by omega, decide_eq_true (by
                          rw [cnt_top hw hl1 (by omega)]
                          omega)⟩
                        refine minL_of hD19 (by rw [List.length_map]; exact List.length_pos_of_mem hin) fun m hm hmx => ?_
                        have hNar : IsNar ws l m := by
                          obtain ⟨j, hj, ej⟩ := List.mem_map.mp hm
                          exact nar_least hw hl1 (by omega) ⟨j, hj, ej.symm⟩ fun j hj => hmx _ (List.mem_map.mpr ⟨j, hj, rfl⟩)
                        walk_at "go"
                        refine ⟨pw, ws, l, rfl, hpw19, hw, by omega, by omega, by have := cnt_2500 hw hl1; omega, fun H20 v s20 hv => ?_⟩
                        walk_at "go"
                        refine ⟨_, _, rfl, SameD.flat (.inl ⟨v, rfl, by rw [nar_eq hv hNar]⟩), fun H21 s21 => ?_⟩
                        walk_at "go"
                        exact ⟨_, _, _, _, _, _, _, rfl, s417.trans (sb.trans (s20.trans s21))⟩
                    · walk_at "go"
                      exact ⟨_, _, _, _, _, _, _, rfl, s417⟩
        · rintro σ H11 ⟨y5, y6, y7, y8, y9, y10, y11, rfl, s11⟩
          have B11 := (B3.to s4).to s11
          walk_at "go"
          refine ⟨b, 60, 100100, rfl, B11, by decide, by decide, by decide, fun H12 pw2 ws2 b12 n12 h12 B12 k1 k60 kws => ?_⟩
          walk_at "go"
          intro p1 n13
          generalize e13 : upd H12 p1 _ = H13
          have s13 := same_of e13 n13
          refine catA_of (s13 _ _ h12) (there e13) (sz_of (by rw [List.length_map, List.length_cons, List.length_singleton]; omega)) fun p14 H14 s14 h14 => ?_
          walk_at "go"
          refine slA_of h14 fun pv H15 s15 h15 => ?_
          rw [cut_to _ (by decide)] at h15
          obtain ⟨vs, evs, hv, hv1⟩ : ∃ vs : List Int, ((ws2.map V.int ++ [V.int 1, V.int 1]).take (60 : Int).toNat) = vs.map V.int ∧ Wd vs ∧ 1 ≤ vs.length := by
            refine ⟨(ws2 ++ [1, 1]).take 60, by rw [List.map_take, List.map_append]; rfl, ⟨by rw [List.length_take]; omega, fun x hx => ?_⟩, by rw [List.length_take, List.length_append]; omega⟩
            rcases List.mem_append.mp (List.mem_of_mem_take hx) with h | h
            · exact kws x h
            · simp only [List.mem_cons, List.not_mem_nil, or_false] at h
              omega
          rw [evs] at h15
          have b315 : But b H3 H15 := (But.of (s4.trans s11)).trans (b12.trans (But.of (s13.trans (s14.trans s15))))
          have B15 := B12.to (s13.trans (s14.trans s15))
          have hvo := lo_sum hv hv1
          have hvp := lo_pos vs
          walk_at "go"
          refine ⟨pv, vs, rfl, h15, hv, cnt_2500 hv hv1, fun H16 d16 ts16 S16 s16 n16 h16 P16 I16 => ?_⟩
          obtain ⟨k, rfl, hk1, hk2, hk3⟩ := I16
          have htop := step_top hv hv1 hk3
          have hpv16 := s16 _ _ h15
          obtain ⟨r1, er1⟩ := steps_head vs k
          have P16a := P16
          rw [er1] at P16a
          have P16b := P16
          rw [stepsK_yes hk3] at P16b
          obtain ⟨rs, tl, ets, _, htl⟩ := P16b.last
          have h16b := h16
          rw [ets, List.map_append] at h16b
          obtain ⟨t0, ht0, hh0⟩ := P16a.at (i := 0) rfl
          walk_at "go"
          refine ixL_of h16 (atI_nat (j := 0) (by rw [List.getElem?_map, ht0]; rfl)) ?_
          refine ixT_of hh0 rfl ?_
          refine maxT_of hpv16 hv1 fun m hm hmx => ?_
          have em := lo_eq' (fun x hx => (hv.2 x hx).1) hm hmx
          subst em
          walk_at "go"
          rw [if_neg (not_not_intro trivial)]
          refine ixL_of h16b (atI_last _ _) ?_
          refine ixT_of htl rfl ?_
          have htl1 : cnt vs (lo vs + (k : Int)) 0 = 1 := by
            have := cnt_ge hv hv1 (u := lo vs + (k : Int)) (by omega)
            omega
          walk_at "go"
          rw [if_neg (not_not_intro (by omega))]
          refine slL_of (.of h16) fun pd n17 => ?_
          rw [cut_of _ (by decide)]
          generalize e17 : upd H16 pd _ = H17
          have s17 := same_of e17 n17
          have h17 := s17 _ _ h16
          refine zipL_of (.of h17) (.of (there e17)) ?_
          have P17 := P16.to fun b xs => s17 b (.tup xs)
          refine forB_of (walk_zip (xs := ts16.map V.ref) (ys := (ts16.map V.ref).drop 1) (n := ts16.length - 1) (by rw [List.length_drop, List.length_map]; omega)) (fun i σ H' => ∃ y5 y6 y7 y8 y9 y10 y11 : Option V, σ = [some (.ref a), some (.ref b), some (.ref pv), some (.ref dc), some (.ref d16), y5, y6, y7, y8, y9, y10, y11] ∧ Same H17 H')
            ⟨_, _, _, _, _, _, _, rfl, Same.refl _⟩ (fun i σ H' _ h => ⟨.of (h.choose_spec.choose_spec.choose_spec.choose_spec.choose_spec.choose_spec.choose_spec.2 _ _ h17), .of (h.choose_spec.choose_spec.choose_spec.choose_spec.choose_spec.choose_spec.choose_spec.2 _ _ (there e17))⟩) ?_ ?_
          · rintro i x σ H18 H18' hi ⟨y5, y6, y7, y8, y9, y10, y11, rfl, s18⟩ ⟨t, x1, x2, ev, nT, eH, f1, f2⟩
            subst ev eH
            have f2' : (ts16.map V.ref)[i + 1]? = some x2 := by
              have f2 : ((ts16.map V.ref).drop 1)[i]? = some x2 := f2
              rw [← f2, List.getElem?_drop, Nat.add_comm 1 i]
            have f1 : (ts16.map V.ref)[i]? = some x1 := f1
            rw [List.getElem?_map] at f1 f2'
            obtain ⟨t1, ht1, rfl⟩ := Option.map_eq_some_iff.mp f1
            obtain ⟨t2, ht2, rfl⟩ := Option.map_eq_some_iff.mp f2'
            generalize e19 : upd H18 t _ = H19
            have s19 := same_of e19 nT
            have s1719 := s18.trans s19
            have hlen : ts16.length = (stepsK vs (k + 1)).length := P16.len
            have hi2 : i + 1 < ts16.length := (List.getElem?_eq_some_iff.mp ht2).1
            obtain ⟨⟨wa, la⟩, hA⟩ : ∃ s, (stepsK vs (k + 1))[i]? = some s := ⟨_, List.getElem?_eq_getElem (by omega)⟩
            obtain ⟨⟨wb, lb⟩, hB⟩ : ∃ s, (stepsK vs (k + 1))[i + 1]? = some s := ⟨_, List.getElem?_eq_getElem (by omega)⟩
            obtain ⟨q1, g1, hq1⟩ := P17.at hA
            obtain ⟨q2, g2, hq2⟩ := P17.at hB
            rw [ht1] at g1
            rw [ht2] at g2
            cases g1
            cases g2
            obtain ⟨z1, z2, z3, z4, z5, z6, z7, W⟩ := steps_next hv hv1 hk1 hA hB
            have hpv19 := s1719 _ _ (s17 _ _ hpv16)
            have hfit : ∀ u, lo vs ≤ u → u ≤ 2500 → Fit vs u := fun u h1 h2 => ⟨(tx_lo hv.2 h1).hi, by omega, h2⟩
            walk_at "go"
            refine tupg_of (there e19) rfl ?_
            walk_at "go"
            refine tupg_of (s1719 _ _ hq1) rfl ?_
            walk_at "go"
            refine tupg_of (s1719 _ _ hq2) rfl ?_
            walk_at "go"
            rw [if_neg (not_not_intro (by omega)), if_neg (not_not_intro (by omega))]
            refine ⟨pv, vs, _, rfl, hpv19, hv, hfit _ (by omega) (by omega), fun H20 s20 => ?_⟩
            walk_at "go"
            rw [if_neg (not_not_intro (by omega))]
            have hpv20 := s20 _ _ hpv19
            refine ⟨pv, vs, _, rfl, hpv20, hv, hfit _ (by omega) (by omega), fun H21 s21 => ?_⟩
            walk_at "go"
            rw [if_neg (not_not_intro (by omega))]
            have hpv21 := s21 _ _ hpv20
            have hlala : la ≤ vs.length := by
              have := cnt_le (tx_lo hv.2 (u := wb - 1) (by omega)) _ 0 rfl
              omega
            refine ⟨pv, vs, la, rfl, hpv21, hv, by omega, hlala, cnt_2500 hv hv1, fun H22 s22 hW => ?_, fun H22 tw wa' wb' s22 h22 hW => ?_⟩
            · exact absurd (woc_eq hW W) (by intro z; cases z)
            · have ew := woc_eq hW W
              cases ew
              walk_at "go"
              intro px n23
              generalize e23 : upd H22 px _ = H23
              have s23 := same_of e23 n23
              refine neT_of (ns := [wa, wb - 1]) (ms := [wa, wb - 1]) (s23 _ _ h22) (there e23) ?_
              rw [decide_eq_true (show [wa, wb - 1] = [wa, wb - 1] from rfl)]
              walk_at "go"
              exact ⟨_, _, _, _, _, _, _, rfl, s1719.trans (s20.trans (s21.trans (s22.trans s23)))⟩
          · rintro σ H18 ⟨y5, y6, y7, y8, y9, y10, y11, rfl, s18⟩
            have hpv18 := s18 _ _ (s17 _ _ hpv16)
            walk_at "go"
            refine sumT_of hpv18 ?_
            walk_at "go"
            refine ⟨pv, vs, _, rfl, hpv18, hv, ⟨(tx_lo hv.2 (by omega)).hi, by omega, by omega⟩, fun H19 s19 => ?_⟩
            have hpv19 := s19 _ _ hpv18
            have s1619 := s17.trans (s18.trans s19)
            walk_at "go"
            rw [cnt_top hv hv1 (by omega), if_neg (not_not_intro (by decide))]
            refine ixL_of (s1619 _ _ h16b) (atI_last _ _) ?_
            refine ixT_of (s1619 _ _ htl) rfl ?_
            refine sumT_of hpv19 ?_
            walk_at "go"
            rw [if_neg (by omega)]
            have hpb := B2.neL hp2
            have ball : But b H2' H19 := b3.trans (b315.trans (But.of (s16.trans s1619)))
            refine ⟨_, _, _, _, _, _, _, _, _, _, _, rfl, ball _ _ hpb hp2, fun j b2 hj hb2 => (hB2 j b2 (by omega) hb2).but ball fun z => ?_⟩
            rw [z] at hb2
            have := nd_ix hnd hb2 hb
            omega
    · rintro σ H2 ⟨y1, y2, y3, y4, y5, y6, y7, y8, y9, y10, y11, rfl, hp2, hB2⟩
      have hw0 : Wd [] := ⟨Nat.zero_le _, fun x hx => nomatch hx⟩
      walk_at "go"
      intro p3 n3
      generalize e3 : upd H2 p3 _ = H3
      refine ⟨p3, [], rfl, there e3, hw0, Nat.zero_le _, fun H4 d4 ts4 S4 s4 n4 h4 P4 I4 => ?_⟩
      have es := steps_none I4
      subst es
      walk_at "go"
      intro p5 n5
      generalize e5 : upd H4 p5 _ = H5
      have s5 := same_of e5 n5
      walk_at "go"
      intro p6 n6
      generalize e6 : upd H5 p6 _ = H6
      have s6 := same_of e6 n6
      refine eqPairs_of (s6 _ _ (s5 _ _ h4)) (P4.to fun b xs hb => s6 b (.tup xs) (s5 _ _ hb)) (ts' := [p5]) (there e6) ⟨s6 _ _ (there e5), True.intro⟩ ?_
      walk_at "go"
      intro p7 n7
      generalize e7 : upd H6 p7 _ = H7
      refine ⟨p7, [], 0, rfl, there e7, hw0, by decide, by decide, Nat.zero_le _, fun H8 s8 hW => ?_, fun H8 tw wa wb s8 h8 hW => ?_⟩
      · exact absurd (woc_eq hW woc_empty) (by intro z; cases z)
      · have ew := woc_eq hW woc_empty
        cases ew
        walk_at "go"
        intro p9 n9
        generalize e9 : upd H8 p9 _ = H9
        have s9 := same_of e9 n9
        refine eqT_of (ns := [1, 2500]) (ms := [1, 2500]) (s9 _ _ h8) (there e9) ?_
        exact q H9
end
end Ls
namespace Ls
open PySem PySem.Spec PyProof.Rows L2 RZ
/-! ### what the top has written; the law's own head -/
theorem all_mk {l : PySem.W.OpenLaw} {w : World} {K : PySem.W.Frag} {h : Heap} {mg : Str → Option Value} {fa : Addr} (X : K.In h) (G : h.Ns mainGlobals mg) (hfa : mg "law" = some (.ref fa))
    {f0 : Addr} {od0 an0 : Option Addr} {sl0 : Array (Option Value)} {oc0 kV0 dc0 pm0 cd0 ct0 : Value}
    {f1 : Addr} {od1 an1 : Option Addr} {sl1 : Array (Option Value)} {oc1 kV1 dc1 pm1 cd1 ct1 : Value}
    {f2 : Addr} {od2 an2 : Option Addr} {sl2 : Array (Option Value)} {oc2 kV2 dc2 pm2 cd2 ct2 : Value}
    {f3 : Addr} {od3 an3 : Option Addr} {sl3 : Array (Option Value)} {oc3 kV3 dc3 pm3 cd3 ct3 : Value}
    {f4 : Addr} {od4 an4 : Option Addr} {sl4 : Array (Option Value)} {oc4 kV4 dc4 pm4 cd4 ct4 : Value}
    {f5 : Addr} {od5 an5 : Option Addr} {sl5 : Array (Option Value)} {oc5 kV5 dc5 pm5 cd5 ct5 : Value}
    {f6 : Addr} {od6 an6 : Option Addr} {sl6 : Array (Option Value)} {oc6 kV6 dc6 pm6 cd6 ct6 : Value}
    {f7 : Addr} {od7 an7 : Option Addr} {sl7 : Array (Option Value)} {oc7 kV7 dc7 pm7 cd7 ct7 : Value}
    {f8 : Addr} {od8 an8 : Option Addr} {sl8 : Array (Option Value)} {oc8 kV8 dc8 pm8 cd8 ct8 : Value}
    {f9 : Addr} {od9 an9 : Option Addr} {sl9 : Array (Option Value)} {oc9 kV9 dc9 pm9 cd9 ct9 : Value}
    {f10 : Addr} {od10 an10 : Option Addr} {sl10 : Array (Option Value)} {oc10 kV10 dc10 pm10 cd10 ct10 : Value}
    {f11 : Addr} {od11 an11 : Option Addr} {sl11 : Array (Option Value)} {oc11 kV11 dc11 pm11 cd11 ct11 : Value}
    {f12 : Addr} {od12 an12 : Option Addr} {sl12 : Array (Option Value)} {oc12 kV12 dc12 pm12 cd12 ct12 : Value}
    {f13 : Addr} {od13 an13 : Option Addr} {sl13 : Array (Option Value)} {oc13 kV13 dc13 pm13 cd13 ct13 : Value}
    {f14 : Addr} {od14 an14 : Option Addr} {sl14 : Array (Option Value)} {oc14 kV14 dc14 pm14 cd14 ct14 : Value}
    {f15 : Addr} {od15 an15 : Option Addr} {sl15 : Array (Option Value)} {oc15 kV15 dc15 pm15 cd15 ct15 : Value}
    {f16 : Addr} {od16 an16 : Option Addr} {sl16 : Array (Option Value)} {oc16 kV16 dc16 pm16 cd16 ct16 : Value}
    {f17 : Addr} {od17 an17 : Option Addr} {sl17 : Array (Option Value)} {oc17 kV17 dc17 pm17 cd17 ct17 : Value}
    {f18 : Addr} {od18 an18 : Option Addr} {sl18 : Array (Option Value)} {oc18 kV18 dc18 pm18 cd18 ct18 : Value}
    {f19 : Addr} {od19 an19 : Option Addr} {sl19 : Array (Option Value)} {oc19 kV19 dc19 pm19 cd19 ct19 : Value}
    {f20 : Addr} {od20 an20 : Option Addr} {sl20 : Array (Option Value)} {oc20 kV20 dc20 pm20 cd20 ct20 : Value}
    {f21 : Addr} {od21 an21 : Option Addr} {sl21 : Array (Option Value)} {oc21 kV21 dc21 pm21 cd21 ct21 : Value}
    {f22 : Addr} {od22 an22 : Option Addr} {sl22 : Array (Option Value)} {oc22 kV22 dc22 pm22 cd22 ct22 : Value}
    {f23 : Addr} {od23 an23 : Option Addr} {sl23 : Array (Option Value)} {oc23 kV23 dc23 pm23 cd23 ct23 : Value}
    {f24 : Addr} {od24 an24 : Option Addr} {sl24 : Array (Option Value)} {oc24 kV24 dc24 pm24 cd24 ct24 : Value}
    {t0 : Tok}
    {t1 : Tok}
    {t2 : Tok}
    (a0 : PySem.W.nsIn K mainGlobals "is_integer" = some (some (.ref f0))) (l0 : K.lookup f0 = some ⟨oc0, od0, .func (PySem.W.fnOf "is_integer" "is_integer" (C8.fnArgs st_is_integer) (C8.fnBody st_is_integer) (C8.fnScope st_is_integer) .none kV0 dc0 pm0 an0 cd0 ct0), sl0⟩) (c0 : PySem.W.codeIn K cd0 "is_integer" = true) (k0 : PySem.W.keepIn K (.ref f0) = true)
    (a1 : PySem.W.nsIn K mainGlobals "in_range" = some (some (.ref f1))) (l1 : K.lookup f1 = some ⟨oc1, od1, .func (PySem.W.fnOf "in_range" "in_range" (C8.fnArgs st_in_range) (C8.fnBody st_in_range) (C8.fnScope st_in_range) .none kV1 dc1 pm1 an1 cd1 ct1), sl1⟩) (c1 : PySem.W.codeIn K cd1 "in_range" = true) (k1 : PySem.W.keepIn K (.ref f1) = true)
    (a2 : PySem.W.nsIn K mainGlobals "is_words" = some (some (.ref f2))) (l2 : K.lookup f2 = some ⟨oc2, od2, .func (PySem.W.fnOf "is_words" "is_words" (C8.fnArgs st_is_words) (C8.fnBody st_is_words) (C8.fnScope st_is_words) .none kV2 dc2 pm2 an2 cd2 ct2), sl2⟩) (c2 : PySem.W.codeIn K cd2 "is_words" = true) (k2 : PySem.W.keepIn K (.ref f2) = true)
    (a3 : PySem.W.nsIn K mainGlobals "check_words" = some (some (.ref f3))) (l3 : K.lookup f3 = some ⟨oc3, od3, .func (PySem.W.fnOf "check_words" "check_words" (C8.fnArgs st_check_words) (C8.fnBody st_check_words) (C8.fnScope st_check_words) .none kV3 dc3 pm3 an3 cd3 ct3), sl3⟩) (c3 : PySem.W.codeIn K cd3 "check_words" = true) (k3 : PySem.W.keepIn K (.ref f3) = true)
    (a4 : PySem.W.nsIn K mainGlobals "is_width" = some (some (.ref f4))) (l4 : K.lookup f4 = some ⟨oc4, od4, .func (PySem.W.fnOf "is_width" "is_width" (C8.fnArgs st_is_width) (C8.fnBody st_is_width) (C8.fnScope st_is_width) .none kV4 dc4 pm4 an4 cd4 ct4), sl4⟩) (c4 : PySem.W.codeIn K cd4 "is_width" = true) (k4 : PySem.W.keepIn K (.ref f4) = true)
    (a5 : PySem.W.nsIn K mainGlobals "check_text" = some (some (.ref f5))) (l5 : K.lookup f5 = some ⟨oc5, od5, .func (PySem.W.fnOf "check_text" "check_text" (C8.fnArgs st_check_text) (C8.fnBody st_check_text) (C8.fnScope st_check_text) .none kV5 dc5 pm5 an5 cd5 ct5), sl5⟩) (c5 : PySem.W.codeIn K cd5 "check_text" = true) (k5 : PySem.W.keepIn K (.ref f5) = true)
    (a6 : PySem.W.nsIn K mainGlobals "check_count" = some (some (.ref f6))) (l6 : K.lookup f6 = some ⟨oc6, od6, .func (PySem.W.fnOf "check_count" "check_count" (C8.fnArgs st_check_count) (C8.fnBody st_check_count) (C8.fnScope st_check_count) .none kV6 dc6 pm6 an6 cd6 ct6), sl6⟩) (c6 : PySem.W.codeIn K cd6 "check_count" = true) (k6 : PySem.W.keepIn K (.ref f6) = true)
    (a7 : PySem.W.nsIn K mainGlobals "next_index" = some (some (.ref f7))) (l7 : K.lookup f7 = some ⟨oc7, od7, .func (PySem.W.fnOf "next_index" "next_index" (C8.fnArgs st_next_index) (C8.fnBody st_next_index) (C8.fnScope st_next_index) .none kV7 dc7 pm7 an7 cd7 ct7), sl7⟩) (c7 : PySem.W.codeIn K cd7 "next_index" = true) (k7 : PySem.W.keepIn K (.ref f7) = true)
    (a8 : PySem.W.nsIn K mainGlobals "starts_of" = some (some (.ref f8))) (l8 : K.lookup f8 = some ⟨oc8, od8, .func (PySem.W.fnOf "starts_of" "starts_of" (C8.fnArgs st_starts_of) (C8.fnBody st_starts_of) (C8.fnScope st_starts_of) .none kV8 dc8 pm8 an8 cd8 ct8), sl8⟩) (c8 : PySem.W.codeIn K cd8 "starts_of" = true) (k8 : PySem.W.keepIn K (.ref f8) = true)
    (a9 : PySem.W.nsIn K mainGlobals "line_count" = some (some (.ref f9))) (l9 : K.lookup f9 = some ⟨oc9, od9, .func (PySem.W.fnOf "line_count" "line_count" (C8.fnArgs st_line_count) (C8.fnBody st_line_count) (C8.fnScope st_line_count) .none kV9 dc9 pm9 an9 cd9 ct9), sl9⟩) (c9 : PySem.W.codeIn K cd9 "line_count" = true) (k9 : PySem.W.keepIn K (.ref f9) = true)
    (a10 : PySem.W.nsIn K mainGlobals "count_at" = some (some (.ref f10))) (l10 : K.lookup f10 = some ⟨oc10, od10, .func (PySem.W.fnOf "count_at" "count_at" (C8.fnArgs st_count_at) (C8.fnBody st_count_at) (C8.fnScope st_count_at) .none kV10 dc10 pm10 an10 cd10 ct10), sl10⟩) (c10 : PySem.W.codeIn K cd10 "count_at" = true) (k10 : PySem.W.keepIn K (.ref f10) = true)
    (a11 : PySem.W.nsIn K mainGlobals "narrowest" = some (some (.ref f11))) (l11 : K.lookup f11 = some ⟨oc11, od11, .func (PySem.W.fnOf "narrowest" "narrowest" (C8.fnArgs st_narrowest) (C8.fnBody st_narrowest) (C8.fnScope st_narrowest) .none kV11 dc11 pm11 an11 cd11 ct11), sl11⟩) (c11 : PySem.W.codeIn K cd11 "narrowest" = true) (k11 : PySem.W.keepIn K (.ref f11) = true)
    (a12 : PySem.W.nsIn K mainGlobals "least_width" = some (some (.ref f12))) (l12 : K.lookup f12 = some ⟨oc12, od12, .func (PySem.W.fnOf "least_width" "least_width" (C8.fnArgs st_least_width) (C8.fnBody st_least_width) (C8.fnScope st_least_width) .none kV12 dc12 pm12 an12 cd12 ct12), sl12⟩) (c12 : PySem.W.codeIn K cd12 "least_width" = true) (k12 : PySem.W.keepIn K (.ref f12) = true)
    (a13 : PySem.W.nsIn K mainGlobals "width_steps" = some (some (.ref f13))) (l13 : K.lookup f13 = some ⟨oc13, od13, .func (PySem.W.fnOf "width_steps" "width_steps" (C8.fnArgs st_width_steps) (C8.fnBody st_width_steps) (C8.fnScope st_width_steps) .none kV13 dc13 pm13 an13 cd13 ct13), sl13⟩) (c13 : PySem.W.codeIn K cd13 "width_steps" = true) (k13 : PySem.W.keepIn K (.ref f13) = true)
    (a14 : PySem.W.nsIn K mainGlobals "widths_of_count" = some (some (.ref f14))) (l14 : K.lookup f14 = some ⟨oc14, od14, .func (PySem.W.fnOf "widths_of_count" "widths_of_count" (C8.fnArgs st_widths_of_count) (C8.fnBody st_widths_of_count) (C8.fnScope st_widths_of_count) .none kV14 dc14 pm14 an14 cd14 ct14), sl14⟩) (c14 : PySem.W.codeIn K cd14 "widths_of_count" = true) (k14 : PySem.W.keepIn K (.ref f14) = true)
    (a15 : PySem.W.nsIn K mainGlobals "_law_well" = some (some (.ref f15))) (l15 : K.lookup f15 = some ⟨oc15, od15, .func (PySem.W.fnOf "_law_well" "_law_well" (C8.fnArgs st_law_well) (C8.fnBody st_law_well) (C8.fnScope st_law_well) .none kV15 dc15 pm15 an15 cd15 ct15), sl15⟩) (c15 : PySem.W.codeIn K cd15 "_law_well" = true) (k15 : PySem.W.keepIn K (.ref f15) = true)
    (a16 : PySem.W.nsIn K mainGlobals "_law_take" = some (some (.ref f16))) (l16 : K.lookup f16 = some ⟨oc16, od16, .func (PySem.W.fnOf "_law_take" "_law_take" (C8.fnArgs st_law_take) (C8.fnBody st_law_take) (C8.fnScope st_law_take) .none kV16 dc16 pm16 an16 cd16 ct16), sl16⟩) (c16 : PySem.W.codeIn K cd16 "_law_take" = true) (k16 : PySem.W.keepIn K (.ref f16) = true)
    (a17 : PySem.W.nsIn K mainGlobals "_law_bags" = some (some (.ref f17))) (l17 : K.lookup f17 = some ⟨oc17, od17, .func (PySem.W.fnOf "_law_bags" "_law_bags" (C8.fnArgs st_law_bags) (C8.fnBody st_law_bags) (C8.fnScope st_law_bags) .none kV17 dc17 pm17 an17 cd17 ct17), sl17⟩) (c17 : PySem.W.codeIn K cd17 "_law_bags" = true) (k17 : PySem.W.keepIn K (.ref f17) = true)
    (a18 : PySem.W.nsIn K mainGlobals "_law_words" = some (some (.ref f18))) (l18 : K.lookup f18 = some ⟨oc18, od18, .func (PySem.W.fnOf "_law_words" "_law_words" (C8.fnArgs st_law_words) (C8.fnBody st_law_words) (C8.fnScope st_law_words) .none kV18 dc18 pm18 an18 cd18 ct18), sl18⟩) (c18 : PySem.W.codeIn K cd18 "_law_words" = true) (k18 : PySem.W.keepIn K (.ref f18) = true)
    (a19 : PySem.W.nsIn K mainGlobals "_law_fit" = some (some (.ref f19))) (l19 : K.lookup f19 = some ⟨oc19, od19, .func (PySem.W.fnOf "_law_fit" "_law_fit" (C8.fnArgs st_law_fit) (C8.fnBody st_law_fit) (C8.fnScope st_law_fit) .none kV19 dc19 pm19 an19 cd19 ct19), sl19⟩) (c19 : PySem.W.codeIn K cd19 "_law_fit" = true) (k19 : PySem.W.keepIn K (.ref f19) = true)
    (a20 : PySem.W.nsIn K mainGlobals "_law_end" = some (some (.ref f20))) (l20 : K.lookup f20 = some ⟨oc20, od20, .func (PySem.W.fnOf "_law_end" "_law_end" (C8.fnArgs st_law_end) (C8.fnBody st_law_end) (C8.fnScope st_law_end) .none kV20 dc20 pm20 an20 cd20 ct20), sl20⟩) (c20 : PySem.W.codeIn K cd20 "_law_end" = true) (k20 : PySem.W.keepIn K (.ref f20) = true)
    (a21 : PySem.W.nsIn K mainGlobals "_law_greedy" = some (some (.ref f21))) (l21 : K.lookup f21 = some ⟨oc21, od21, .func (PySem.W.fnOf "_law_greedy" "_law_greedy" (C8.fnArgs st_law_greedy) (C8.fnBody st_law_greedy) (C8.fnScope st_law_greedy) .none kV21 dc21 pm21 an21 cd21 ct21), sl21⟩) (c21 : PySem.W.codeIn K cd21 "_law_greedy" = true) (k21 : PySem.W.keepIn K (.ref f21) = true)
    (a22 : PySem.W.nsIn K mainGlobals "_law_counts" = some (some (.ref f22))) (l22 : K.lookup f22 = some ⟨oc22, od22, .func (PySem.W.fnOf "_law_counts" "_law_counts" (C8.fnArgs st_law_counts) (C8.fnBody st_law_counts) (C8.fnScope st_law_counts) .none kV22 dc22 pm22 an22 cd22 ct22), sl22⟩) (c22 : PySem.W.codeIn K cd22 "_law_counts" = true) (k22 : PySem.W.keepIn K (.ref f22) = true)
    (a23 : PySem.W.nsIn K mainGlobals "_law_same" = some (some (.ref f23))) (l23 : K.lookup f23 = some ⟨oc23, od23, .func (PySem.W.fnOf "_law_same" "_law_same" (C8.fnArgs st_law_same) (C8.fnBody st_law_same) (C8.fnScope st_law_same) .none kV23 dc23 pm23 an23 cd23 ct23), sl23⟩) (c23 : PySem.W.codeIn K cd23 "_law_same" = true) (k23 : PySem.W.keepIn K (.ref f23) = true)
    (a24 : PySem.W.nsIn K mainGlobals "law" = some (some (.ref f24))) (l24 : K.lookup f24 = some ⟨oc24, od24, .func (PySem.W.fnOf "law" "law" (C8.fnArgs st_law) (C8.fnBody st_law) (C8.fnScope st_law) .none kV24 dc24 pm24 an24 cd24 ct24), sl24⟩) (c24 : PySem.W.codeIn K cd24 "law" = true) (k24 : PySem.W.keepIn K (.ref f24) = true)
    (z0 : PySem.W.nsIn K mainGlobals "len" = some none)
    (z1 : PySem.W.nsIn K mainGlobals "isinstance" = some none)
    (z2 : PySem.W.nsIn K mainGlobals "max" = some none)
    (z3 : PySem.W.nsIn K mainGlobals "min" = some none)
    (z4 : PySem.W.nsIn K mainGlobals "sum" = some none)
    (z5 : PySem.W.nsIn K mainGlobals "all" = some none)
    (z6 : PySem.W.nsIn K mainGlobals "tuple" = some none)
    (z7 : PySem.W.nsIn K mainGlobals "range" = some none)
    (z8 : PySem.W.nsIn K mainGlobals "zip" = some none)
    (z9 : PySem.W.nsIn K mainGlobals "enumerate" = some none)
    (z10 : PySem.W.nsIn K mainGlobals "sorted" = some none)
    (z11 : PySem.W.nsIn K mainGlobals "abs" = some none)
    (z12 : PySem.W.nsIn K mainGlobals "set" = some none)
    (z13 : PySem.W.nsIn K mainGlobals "list" = some none)
    (z14 : PySem.W.nsIn K mainGlobals "int" = some none)
    (z15 : PySem.W.nsIn K mainGlobals "bool" = some none)
    (z16 : PySem.W.nsIn K mainGlobals "str" = some none)
    (m0 : PySem.W.nsIn K mainGlobals "MAX_WORDS" = some (some (.int 60 t0)))
    (m1 : PySem.W.nsIn K mainGlobals "MAX_LENGTH" = some (some (.int 40 t1)))
    (m2 : PySem.W.nsIn K mainGlobals "MAX_WIDTH" = some (some (.int 2500 t2))) :
    ∃ fd : FuncData, (∀ (s : Shared) (v : Value), BindsTo s fd ⟨[v], []⟩ [("_law_script", v)]) ∧ ∀ base : Heap, K.In base → base.Ns mainGlobals mg → FnOk l.prog w K mg base CX0 7 fa fd ["_law_script"] (spLaw K) := by
  have e := hfa.symm.trans (PySem.W.mg_of X G a24)
  cases e
  have T0 : Bl mg := ⟨PySem.W.mg_none_of X G z0, PySem.W.mg_none_of X G z1, PySem.W.mg_none_of X G z2, PySem.W.mg_none_of X G z3, PySem.W.mg_none_of X G z4, PySem.W.mg_none_of X G z5, PySem.W.mg_none_of X G z6, PySem.W.mg_none_of X G z7, PySem.W.mg_none_of X G z8, PySem.W.mg_none_of X G z9, PySem.W.mg_none_of X G z10, PySem.W.mg_none_of X G z11, PySem.W.mg_none_of X G z12, PySem.W.mg_none_of X G z13, PySem.W.mg_none_of X G z14, PySem.W.mg_none_of X G z15, PySem.W.mg_none_of X G z16, (int_at X G m1)⟩
  have T1 : Bw mg := ⟨T0, (int_at X G m0)⟩
  have T2 : Bx mg := ⟨T1, (int_at X G m2)⟩
  have D0 := def_at (st := st_is_integer) X G a0 l0 c0 k0
  have A0 : DefAt K mg "is_integer" st_is_integer ["value"] := at_of D0 fun _ _ _ _ _ _ us hl => match us, hl with | [_], _ => rfl
  have D1 := def_at (st := st_in_range) X G a1 l1 c1 k1
  have A1 : DefAt K mg "in_range" st_in_range ["value", "low", "high"] := at_of D1 fun _ _ _ _ _ _ us hl => match us, hl with | [_, _, _], _ => rfl
  have D2 := def_at (st := st_is_words) X G a2 l2 c2 k2
  have A2 : DefAt K mg "is_words" st_is_words ["value"] := at_of D2 fun _ _ _ _ _ _ us hl => match us, hl with | [_], _ => rfl
  have D3 := def_at (st := st_check_words) X G a3 l3 c3 k3
  have A3 : DefAt K mg "check_words" st_check_words ["words"] := at_of D3 fun _ _ _ _ _ _ us hl => match us, hl with | [_], _ => rfl
  have D4 := def_at (st := st_is_width) X G a4 l4 c4 k4
  have A4 : DefAt K mg "is_width" st_is_width ["words", "value"] := at_of D4 fun _ _ _ _ _ _ us hl => match us, hl with | [_, _], _ => rfl
  have D5 := def_at (st := st_check_text) X G a5 l5 c5 k5
  have A5 : DefAt K mg "check_text" st_check_text ["words", "width"] := at_of D5 fun _ _ _ _ _ _ us hl => match us, hl with | [_, _], _ => rfl
  have D6 := def_at (st := st_check_count) X G a6 l6 c6 k6
  have A6 : DefAt K mg "check_count" st_check_count ["value", "low", "high"] := at_of D6 fun _ _ _ _ _ _ us hl => match us, hl with | [_, _, _], _ => rfl
  have D7 := def_at (st := st_next_index) X G a7 l7 c7 k7
  have A7 : DefAt K mg "next_index" st_next_index ["words", "width", "index"] := at_of D7 fun _ _ _ _ _ _ us hl => match us, hl with | [_, _, _], _ => rfl
  have D8 := def_at (st := st_starts_of) X G a8 l8 c8 k8
  have A8 : DefAt K mg "starts_of" st_starts_of ["words", "width", "index"] := at_of D8 fun _ _ _ _ _ _ us hl => match us, hl with | [_, _, _], _ => rfl
  have D9 := def_at (st := st_line_count) X G a9 l9 c9 k9
  have A9 : DefAt K mg "line_count" st_line_count ["words", "width"] := at_of D9 fun _ _ _ _ _ _ us hl => match us, hl with | [_, _], _ => rfl
  have D10 := def_at (st := st_count_at) X G a10 l10 c10 k10
  have A10 : DefAt K mg "count_at" st_count_at ["words", "width"] := at_of D10 fun _ _ _ _ _ _ us hl => match us, hl with | [_, _], _ => rfl
  have D11 := def_at (st := st_narrowest) X G a11 l11 c11 k11
  have A11 : DefAt K mg "narrowest" st_narrowest ["words", "lines"] := at_of D11 fun _ _ _ _ _ _ us hl => match us, hl with | [_, _], _ => rfl
  have D12 := def_at (st := st_least_width) X G a12 l12 c12 k12
  have A12 : DefAt K mg "least_width" st_least_width ["words", "lines"] := at_of D12 fun _ _ _ _ _ _ us hl => match us, hl with | [_, _], _ => rfl
  have D13 := def_at (st := st_width_steps) X G a13 l13 c13 k13
  have A13 : DefAt K mg "width_steps" st_width_steps ["words"] := at_of D13 fun _ _ _ _ _ _ us hl => match us, hl with | [_], _ => rfl
  have D14 := def_at (st := st_widths_of_count) X G a14 l14 c14 k14
  have A14 : DefAt K mg "widths_of_count" st_widths_of_count ["words", "lines"] := at_of D14 fun _ _ _ _ _ _ us hl => match us, hl with | [_, _], _ => rfl
  have D15 := def_at (st := st_law_well) X G a15 l15 c15 k15
  have A15 : DefAt K mg "_law_well" st_law_well ["_law_cell", "_law_turn"] := at_of D15 fun _ _ _ _ _ _ us hl => match us, hl with | [_, _], _ => rfl
  have D16 := def_at (st := st_law_take) X G a16 l16 c16 k16
  have A16 : DefAt K mg "_law_take" st_law_take ["_law_bag", "_law_many"] := at_of D16 fun _ _ _ _ _ _ us hl => match us, hl with | [_, _], _ => rfl
  have D17 := def_at (st := st_law_bags) X G a17 l17 c17 k17
  have A17 : DefAt K mg "_law_bags" st_law_bags ["_law_script", "_law_most"] := at_of D17 fun _ _ _ _ _ _ us hl => match us, hl with | [_, _], _ => rfl
  have D18 := def_at (st := st_law_words) X G a18 l18 c18 k18
  have A18 : DefAt K mg "_law_words" st_law_words ["_law_bag", "_law_most"] := at_of D18 fun _ _ _ _ _ _ us hl => match us, hl with | [_, _], _ => rfl
  have D19 := def_at (st := st_law_fit) X G a19 l19 c19 k19
  have A19 : DefAt K mg "_law_fit" st_law_fit ["_law_words_here", "_law_width", "_law_start", "_law_end_here"] := at_of D19 fun _ _ _ _ _ _ us hl => match us, hl with | [_, _, _, _], _ => rfl
  have D20 := def_at (st := st_law_end) X G a20 l20 c20 k20
  have A20 : DefAt K mg "_law_end" st_law_end ["_law_words_here", "_law_width", "_law_start"] := at_of D20 fun _ _ _ _ _ _ us hl => match us, hl with | [_, _, _], _ => rfl
  have D21 := def_at (st := st_law_greedy) X G a21 l21 c21 k21
  have A21 : DefAt K mg "_law_greedy" st_law_greedy ["_law_words_here", "_law_width", "_law_start"] := at_of D21 fun _ _ _ _ _ _ us hl => match us, hl with | [_, _, _], _ => rfl
  have D22 := def_at (st := st_law_counts) X G a22 l22 c22 k22
  have A22 : DefAt K mg "_law_counts" st_law_counts ["_law_words_here"] := at_of D22 fun _ _ _ _ _ _ us hl => match us, hl with | [_], _ => rfl
  have D23 := def_at (st := st_law_same) X G a23 l23 c23 k23
  have A23 : DefAt K mg "_law_same" st_law_same ["_law_a", "_law_b"] := at_of D23 fun _ _ _ _ _ _ us hl => match us, hl with | [_, _], _ => rfl
  have D24 := def_at (st := st_law) X G a24 l24 c24 k24
  refine ⟨PySem.W.fnOf "law" "law" (C8.fnArgs st_law) (C8.fnBody st_law) (C8.fnScope st_law) .none kV24 dc24 pm24 an24 cd24 ct24, fun s v => .of_eq rfl, fun base _ _ => ?_⟩
  have C_is_integer := ok_is_integer (P := l.prog) (w := w) (base := base) T0 A0
  have C_in_range := ok_in_range (P := l.prog) (w := w) (base := base) T0 A1 C_is_integer
  have C_is_words := ok_is_words (P := l.prog) (w := w) (base := base) T1 A2 C_in_range
  have C_check_words := ok_check_words (P := l.prog) (w := w) (base := base) A3 C_is_words
  have C_is_width := ok_is_width (P := l.prog) (w := w) (base := base) T2 A4 C_in_range
  have C_check_text := ok_check_text (P := l.prog) (w := w) (base := base) A5 C_check_words C_is_width
  have C_check_count := ok_check_count (P := l.prog) (w := w) (base := base) A6 C_in_range
  have C_next_index := ok_next_index (P := l.prog) (w := w) (base := base) T0 A7
  have C_starts_of := ok_starts_of (P := l.prog) (w := w) (base := base) T0 A8 C_next_index
  have C_line_count := ok_line_count (P := l.prog) (w := w) (base := base) T0 A9 C_check_text C_starts_of
  have C_count_at := ok_count_at (P := l.prog) (w := w) (base := base) T0 A10 C_starts_of
  have C_narrowest := ok_narrowest (P := l.prog) (w := w) (base := base) T2 A11 C_count_at
  have C_least_width := ok_least_width (P := l.prog) (w := w) (base := base) T0 A12 C_check_words C_check_count C_narrowest
  have C_width_steps := ok_width_steps (P := l.prog) (w := w) (base := base) T0 A13 C_check_words C_count_at C_narrowest
  have C_widths_of_count := ok_widths_of_count (P := l.prog) (w := w) (base := base) T2 A14 C_check_words C_check_count C_narrowest C_count_at
  have C_law_well := ok_law_well (P := l.prog) (w := w) (base := base) A15
  have C_law_take := ok_law_take (P := l.prog) (w := w) (base := base) A16
  have C_law_bags := ok_law_bags (P := l.prog) (w := w) (base := base) T0 A17 C_law_well
  have C_law_words := ok_law_words (P := l.prog) (w := w) (base := base) T0 A18 C_law_take
  have C_law_fit := ok_law_fit (P := l.prog) (w := w) (base := base) T0 A19
  have C_law_end := ok_law_end (P := l.prog) (w := w) (base := base) T0 A20 C_law_fit
  have C_law_greedy := ok_law_greedy (P := l.prog) (w := w) (base := base) T0 A21 C_law_end
  have C_law_counts := ok_law_counts (P := l.prog) (w := w) (base := base) T0 A22 C_law_greedy
  have C_law_same0 := ok_same0 (P := l.prog) (w := w) (base := base) T0 A23
  have C_law_same1 := ok_sameS (P := l.prog) (w := w) (base := base) T0 A23 0 C_law_same0
  have C_law_same2 := ok_sameS (P := l.prog) (w := w) (base := base) T0 A23 1 C_law_same1
  have C_law_same := C_law_same2
  exact ok_law T2 D24 C_law_bags C_law_words C_law_counts C_law_same C_width_steps C_widths_of_count C_least_width C_line_count
end Ls
open PySem PySem.W PyProof.Rows
set_option maxHeartbeats 0 in
theorem PySem.Challenge.cw_linesync_k12_whole_widths_holds : PySem.Challenge.rw_linesync_k12_whole_widths.Holds := by
  w_on; o_law; k_head; (case hw => w_witness2)
  k_fill
  refine L2.walk_of (l := PySem.Challenge.rw_linesync_k12_whole_widths) (n := 63) (k := 7) (x := "_law_script") (CX := fun _ => L2.CX0) (sp := fun w => Ls.spLaw _) rfl (by decide) rfl ⟨rfl, by decide, by decide⟩ (fun w h Y => PySem.W.kIn_of Y) ?F (fun _ _ a ns hl _ hS => ⟨a, ns, rfl, hS, hl, fun _ => rfl⟩) (fun _ _ _ _ _ h => h)
  case F =>
    intro w mg fa h KX G hmg
    refine' Ls.all_mk KX G hmg ?a0 ?l0 ?c0 ?k0 ?a1 ?l1 ?c1 ?k1 ?a2 ?l2 ?c2 ?k2 ?a3 ?l3 ?c3 ?k3 ?a4 ?l4 ?c4 ?k4 ?a5 ?l5 ?c5 ?k5 ?a6 ?l6 ?c6 ?k6 ?a7 ?l7 ?c7 ?k7 ?a8 ?l8 ?c8 ?k8 ?a9 ?l9 ?c9 ?k9 ?a10 ?l10 ?c10 ?k10 ?a11 ?l11 ?c11 ?k11 ?a12 ?l12 ?c12 ?k12 ?a13 ?l13 ?c13 ?k13 ?a14 ?l14 ?c14 ?k14 ?a15 ?l15 ?c15 ?k15 ?a16 ?l16 ?c16 ?k16 ?a17 ?l17 ?c17 ?k17 ?a18 ?l18 ?c18 ?k18 ?a19 ?l19 ?c19 ?k19 ?a20 ?l20 ?c20 ?k20 ?a21 ?l21 ?c21 ?k21 ?a22 ?l22 ?c22 ?k22 ?a23 ?l23 ?c23 ?k23 ?a24 ?l24 ?c24 ?k24 ?z0 ?z1 ?z2 ?z3 ?z4 ?z5 ?z6 ?z7 ?z8 ?z9 ?z10 ?z11 ?z12 ?z13 ?z14 ?z15 ?z16 ?m0 ?m1 ?m2
    (case a0 => k_is); (case l0 => k_is); (case c0 => k_is); (case k0 => k_is); (case a1 => k_is); (case l1 => k_is); (case c1 => k_is); (case k1 => k_is); (case a2 => k_is); (case l2 => k_is); (case c2 => k_is); (case k2 => k_is); (case a3 => k_is); (case l3 => k_is); (case c3 => k_is); (case k3 => k_is); (case a4 => k_is); (case l4 => k_is); (case c4 => k_is); (case k4 => k_is); (case a5 => k_is); (case l5 => k_is); (case c5 => k_is); (case k5 => k_is); (case a6 => k_is); (case l6 => k_is); (case c6 => k_is); (case k6 => k_is); (case a7 => k_is); (case l7 => k_is); (case c7 => k_is); (case k7 => k_is); (case a8 => k_is); (case l8 => k_is); (case c8 => k_is); (case k8 => k_is); (case a9 => k_is); (case l9 => k_is); (case c9 => k_is); (case k9 => k_is); (case a10 => k_is); (case l10 => k_is); (case c10 => k_is); (case k10 => k_is); (case a11 => k_is); (case l11 => k_is); (case c11 => k_is); (case k11 => k_is); (case a12 => k_is); (case l12 => k_is); (case c12 => k_is); (case k12 => k_is); (case a13 => k_is); (case l13 => k_is); (case c13 => k_is); (case k13 => k_is); (case a14 => k_is); (case l14 => k_is); (case c14 => k_is); (case k14 => k_is); (case a15 => k_is); (case l15 => k_is); (case c15 => k_is); (case k15 => k_is); (case a16 => k_is); (case l16 => k_is); (case c16 => k_is); (case k16 => k_is); (case a17 => k_is); (case l17 => k_is); (case c17 => k_is); (case k17 => k_is); (case a18 => k_is); (case l18 => k_is); (case c18 => k_is); (case k18 => k_is); (case a19 => k_is); (case l19 => k_is); (case c19 => k_is); (case k19 => k_is); (case a20 => k_is); (case l20 => k_is); (case c20 => k_is); (case k20 => k_is); (case a21 => k_is); (case l21 => k_is); (case c21 => k_is); (case k21 => k_is); (case a22 => k_is); (case l22 => k_is); (case c22 => k_is); (case k22 => k_is); (case a23 => k_is); (case l23 => k_is); (case c23 => k_is); (case k23 => k_is); (case a24 => k_is); (case l24 => k_is); (case c24 => k_is); (case k24 => k_is); (case z0 => k_is); (case z1 => k_is); (case z2 => k_is); (case z3 => k_is); (case z4 => k_is); (case z5 => k_is); (case z6 => k_is); (case z7 => k_is); (case z8 => k_is); (case z9 => k_is); (case z10 => k_is); (case z11 => k_is); (case z12 => k_is); (case z13 => k_is); (case z14 => k_is); (case z15 => k_is); (case z16 => k_is); (case m0 => k_is); (case m1 => k_is); (case m2 => k_is)
