import PyProof.Rows.All
import Wide.All
import OpenK.AllK
import Wide.FinOn
import KE.KStateDown
import KE.KSortTupG
import KE.KMinBuiltin
import HandS.ForMost
import HandS.ForExc
import HandS.More
import HandS.Defaults
import HandS.Property
import HandS.IsInst
import HandS.Deep
import HandS.Flow
import HandS.Style
import HandS.Star
import HandS.TupAny
import HandS.DictComp
import HandS.Conv
import HandS.SortKw
import HandS.SetKeys
import HandS.TupSets
import HandS.Codes
import HandS.Walk
import HandS.Head0
import HandS.Head1
import HandS.Head2
import HandS.HeadEnd
import HandS.HeadHook1
import HandS.HeadHook2
import PySem.Challenge.RW_keptahead_k53_rings_of_sorts
set_option Elab.async false
set_option linter.all false
set_option maxRecDepth 100000
set_option maxHeartbeats 4000000
namespace KA
open PySem PySem.Spec PyProof.Rows L2
def top (i : Nat) : Stmt := PySem.Challenge.pw_keptahead_k53_rings_of_sorts.main.body.getD i (.Pass ⟨0, 0, 0, 0⟩)
abbrev s_BadCatalogue_init : Stmt := inClass (top 2) 0
abbrev s_is_name : Stmt := top 7
abbrev s_is_wish : Stmt := top 8
abbrev s_is_whole : Stmt := top 12
abbrev s_is_range : Stmt := top 13
abbrev s_Catalogue_init : Stmt := inClass (top 14) 0
abbrev s_Catalogue_sorts : Stmt := inClass (top 14) 1
abbrev s_Catalogue_wishes : Stmt := inClass (top 14) 2
abbrev s_Catalogue_contains : Stmt := inClass (top 14) 3
abbrev s_Catalogue_len : Stmt := inClass (top 14) 4
abbrev s_Catalogue_iter : Stmt := inClass (top 14) 5
abbrev s_Catalogue_eq : Stmt := inClass (top 14) 6
abbrev s_Catalogue_need_wish : Stmt := inClass (top 14) 7
abbrev s_Catalogue_add : Stmt := inClass (top 14) 8
abbrev s_Catalogue_sub : Stmt := inClass (top 14) 9
abbrev s_way_back : Stmt := top 15
abbrev s_sort_ring : Stmt := top 16
abbrev s__law_begin : Stmt := top 18
abbrev s__law_draw : Stmt := top 19
abbrev s__law_pick : Stmt := top 20
abbrev s__law_names : Stmt := top 21
abbrev s__law_every : Stmt := top 22
abbrev s__law_shortest : Stmt := top 23
abbrev s_law : Stmt := top 24
end KA
set_option Elab.async false
set_option linter.all false
set_option maxRecDepth 100000
set_option maxHeartbeats 4000000
namespace KA
open PySem PySem.Spec PyProof.Rows L2
abbrev FnP (K : PySem.W.Frag) (x : Str) (st : Stmt) (f : Addr) (fd : FuncData) : Prop := FunD K x x (defArgs st) (defBody st) (defScope st) [] [] f fd
/-- heaps that differ at a alone (and by new things) -/
def Ch (a : Addr) (H H' : Hp) : Prop := ∀ b o, b ≠ a → H b = some o → H' b = some o
theorem Ch.refl (a : Addr) (H : Hp) : Ch a H H := fun _ _ _ e => e
theorem Ch.trans {a : Addr} {H H1 H2 : Hp} (x : Ch a H H1) (y : Ch a H1 H2) : Ch a H H2 := fun b o n e => y b o n (x b o n e)
theorem Ch.of {a : Addr} {H H1 : Hp} (x : Same H H1) : Ch a H H1 := fun b o _ e => x b o e
theorem Ch.upd (a : Addr) (H : Hp) (o : HO) : Ch a H (upd H a o) := fun b u n e => by rw [upd_ne n]; exact e
theorem same_new {H : Hp} {p : Addr} {o : HO} (h : H p = none) : Same H (upd H p o) := fun b x e => by
  rw [upd_ne (ne_of_none e h)]; exact e
theorem Ch.free {a : Addr} {H H' : Hp} (c : Ch a H H') {o : Addr} (h : H' o = none) (n : o ≠ a) : H o = none := by
  cases e : H o with
  | none => rfl
  | some u => exact absurd ((c o u n e).symm.trans h) (by intro z; cases z)
theorem pow_room {a b : Int} (a0 : 0 ≤ a) (a1 : a ≤ 2231371558) (b0 : 0 ≤ b) (b1 : b ≤ 7228321917) : (a * b).natAbs < 2 ^ 64 := by
  have h0 : 0 ≤ a * b := Int.mul_nonneg a0 b0
  have h1 : a * b ≤ 2231371558 * 7228321917 := Int.mul_le_mul a1 b1 b0 (by decide)
  omega
section
variable {P : Program} {w : World} {K : PySem.W.Frag} {mg : Str → Option Value} {base : Heap}
structure Fre (mg : Str → Option Value) : Prop where
  len : mg "len" = none
  isi : mg "isinstance" = none
  str : mg "str" = none
  tup : mg "tuple" = none
  int : mg "int" = none
  bool : mg "bool" = none
  dict : mg "dict" = none
  list : mg "list" = none
  all : mg "all" = none
  sorted : mg "sorted" = none
  min : mg "min" = none
  max : mg "max" = none
  range : mg "range" = none
  enum : mg "enumerate" = none
  set : mg "set" = none
/-- a def of the text: where it stands, how it binds -/
def Df (K : PySem.W.Frag) (mg : Str → Option Value) (x : Str) (st : Stmt) (ps : List Str) (B : FuncData → Prop := fun _ => True) : Prop := ∃ (f : Addr) (fd : FuncData), FnP K x st f fd ∧ mg x = some (.ref f) ∧ Binds K fd ps [] ∧ B fd
/-- a def that keeps a promise -/
def Fn (P : Program) (w : World) (K : PySem.W.Frag) (mg : Str → Option Value) (base : Heap) (x : Str) (ps : List Str) (k : Nat) (sp : Sp) (B : FuncData → Prop := fun _ => True) : Prop :=
  ∃ (f : Addr) (fd : FuncData), mg x = some (.ref f) ∧ PySem.W.keepIn K (.ref f) = true ∧ Binds K fd ps [] ∧ B fd ∧ FnOk P w K mg base CX0 k f fd ps sp
theorem Df.ok {x : Str} {st : Stmt} {ps N : List Str} {k : Nat} {sp : Sp} {B : FuncData → Prop} (D : Df K mg x st ps B) (S : FnScope N ps (defScope st)) (len : ∀ vs H Q E, sp vs H Q E → vs.length = ps.length)
    (hbody : ∀ (f : Addr) (cdv : Value) (A : Around) (outer : List Env) (s : Shared) (H : Hp) (vs : List V) (Q : VK) (E : XK), Room k (A.deeper (envOfC x (defScope st) s.heap.objs.size f cdv)) → sp vs H Q E →
      ∃ t, PSs (cxOf CX0 P w K mg base N x (defScope st) f cdv A outer s H E).nox (defBody st) t ∧ t { nx := fun _ H' => Q .non H', rt := Q } (start N vs) H) : Fn P w K mg base x ps (k + 1) sp B := by
  obtain ⟨f, fd, F, g, b, hB⟩ := D
  refine ⟨f, fd, g, F.kp, b, hB, F.ok S len fun cdv A outer s H vs Q E hr h => ?_⟩
  obtain ⟨t, h1, h2⟩ := hbody f cdv A outer s H vs Q E hr h
  exact ⟨t, PSs.nox h1, h2⟩
theorem Fn.imp {x : Str} {ps : List Str} {k : Nat} {sp sp' : Sp} {B : FuncData → Prop} (F : Fn P w K mg base x ps k sp B) (h : ∀ vs H Q E, sp' vs H Q E → sp vs H Q E) : Fn P w K mg base x ps k sp' B := by
  obtain ⟨f, fd, g, kp, b, hB, ok⟩ := F
  exact ⟨f, fd, g, kp, b, hB, ok.imp h⟩
theorem Fn.mono {x : Str} {ps : List Str} {k j : Nat} {sp : Sp} {B : FuncData → Prop} (F : Fn P w K mg base x ps j sp B) (h : j ≤ k) : Fn P w K mg base x ps k sp B := by
  obtain ⟨f, fd, g, kp, b, hB, ok⟩ := F
  exact ⟨f, fd, g, kp, b, hB, ok.mono h⟩
theorem Fn.any {x : Str} {ps : List Str} {k : Nat} {sp : Sp} {B : FuncData → Prop} (F : Fn P w K mg base x ps k sp B) : Fn P w K mg base x ps k sp := by
  obtain ⟨f, fd, g, kp, b, hB, ok⟩ := F
  exact ⟨f, fd, g, kp, b, trivial, ok⟩
/-- f(e, ..) by its promise -/
theorem pe_fn {X : Cx} {k : Nat} {x : Str} {p pos : Pos} {e : Expr} {es : List Expr} {t : TA} {ps : List Str} {sp : Sp} (F : Fn X.prog X.w X.K X.mg X.base x ps k sp) (hr : Room k X.A) (hg : Gl X x) (ha : PA X (e :: es) t)
    (hdb : (x == ("__debug__" : Str)) = false := by decide) (he : starEach (e :: es) X.env = (false, eval e X.env) :: starEach es X.env := by rfl) (hpl : (backTo pos (starEach es X.env)).any (·.1) = false := by rfl) :
    PE X (.Call (.Name x p) (e :: es) [] pos) (tCall sp [] E0 t) := by
  obtain ⟨f, fd, g, kp, b, _, ok⟩ := F
  exact pe_call ok hr hg g kp b .nil pass0 ha hdb he hpl
end
end KA
set_option Elab.async false
set_option linter.all false
set_option maxRecDepth 100000
set_option maxHeartbeats 4000000
namespace KA
open PySem PySem.Spec PyProof.Rows L2
section
variable {P : Program} {w : World} {K : PySem.W.Frag} {mg : Str → Option Value} {base : Heap}
/-! ### the draws -/
theorem scBegin : FnScope ["_law_cell", "_law_turn"] ["_law_cell", "_law_turn"] (defScope s__law_begin) := ⟨rfl, rfl, rfl, by decide +kernel, rfl, by decide +kernel, by decide +kernel⟩
def spBegin : Sp := fun vs H Q _ => ∃ c t : Int, vs = [.int c, .int t] ∧ 0 ≤ t ∧ t ≤ 1000 ∧ ∀ p x y, H p = none → 0 ≤ x → Q (.ref p) (upd H p (.lst [.int x, .int y, .int 0]))
theorem ok_begin (D : Df K mg "_law_begin" s__law_begin ["_law_cell", "_law_turn"]) (T : Fre mg) : Fn P w K mg base "_law_begin" ["_law_cell", "_law_turn"] 1 spBegin := by
  refine D.ok scBegin (fun vs H Q E h => ?_) (fun f cdv A outer s H vs Q E hr h => ?_)
  · obtain ⟨c, t, rfl, _⟩ := h
    rfl
  · obtain ⟨c, t, rfl, h0, h1, k⟩ := h
    refine ⟨_, (pss_one (ps_ret (pe_lst (pa_cons (pe_callB (call_max2 rfl) (by rfl) T.max (by decide +kernel) (pa_cons pe_int (pa_cons (pe_op op_sub (pv 0) (pe_op op_pow pe_int pe_int)) pa_nil)))
      (pa_cons (pe_op op_add (pv 0) (pe_op op_mul pe_int (pv 1))) (pa_cons pe_int pa_nil)))))), ?_⟩
    refine ⟨_, rfl, _, _, rfl, rfl, ⟨by decide, by decide, by decide⟩, _, _, rfl, rfl, _, _, rfl, ?_⟩
    refine ⟨_, rfl, _, rfl, _, _, rfl, rfl, .inl ⟨by decide, by decide⟩, _, _, rfl, rfl, (by show 3 ≤ sizeLine; decide), fun p hp => ?_⟩
    refine k p _ _ hp ?_
    split <;> omega
theorem scDraw : FnScope ["_law_state", "_law_size", "_law_found"] ["_law_state", "_law_size"] (defScope s__law_draw) := ⟨rfl, rfl, rfl, by decide +kernel, rfl, by decide +kernel, by decide +kernel⟩
def spDraw : Sp := fun vs H Q _ => ∃ (a : Addr) (x y z n : Int), vs = [.ref a, .int n] ∧ H a = some (.lst [.int x, .int y, .int z]) ∧ 0 ≤ x ∧ 0 ≤ z ∧ z ≤ 800 ∧ 0 < n ∧ n < 1073741824 ∧
  ∀ r x' z' : Int, 0 ≤ r → r < n → 0 ≤ x' → z ≤ z' → z' ≤ z + 1 → Q (.int r) (upd H a (.lst [.int x', .int y, .int z']))

theorem ok_draw (D : Df K mg "_law_draw" s__law_draw ["_law_state", "_law_size"]) (T : Fre mg) : Fn P w K mg base "_law_draw" ["_law_state", "_law_size"] 1 spDraw := by
  refine D.ok scDraw (fun vs H Q E h => ?_) (fun f cdv A outer s H vs Q E hr h => ?_)
  · obtain ⟨a, x, y, z, n, rfl, _⟩ := h
    rfl
  · obtain ⟨a, x, y, z, n, rfl, hA, hx, hz, hz2, hn, hn2, k⟩ := h
    have nd := scDraw.nd
    refine ⟨_, (pss_cons (ps_if (pt_cmpR op_gt (pe_ix ix_list (pv 0) pe_int (fun _ _ => rfl)) pe_int (nomark _))
        (pss_cons (ps_set (i := 2) nd rfl (.inl rfl) (pe_op op_mod (pe_callTy call_int1 (by rfl) T.int (by decide +kernel) (pa_cons (pe_ix ix_list (pv 0) pe_int (fun _ _ => rfl)) pa_nil)) (pv 1)))
        (pss_cons (ps_asg (pe_op op_fdiv (pe_ix ix_list (pv 0) pe_int (fun _ _ => rfl)) (pv 1)) (pg_sub (pv 0) pe_int set_list))
        (pss_one (ps_ret (pv 2))))) pss_nil)
      (pss_cons (ps_asg (pe_op op_add (pe_ix ix_list (pv 0) pe_int (fun _ _ => rfl)) pe_int) (pg_sub (pv 0) pe_int set_list))
      (pss_cons (ps_set (i := 2) nd rfl (.inl rfl) (pe_op op_add (pe_op op_mod (pe_callTy call_int1 (by rfl) T.int (by decide +kernel) (pa_cons (pe_ix ix_list (pv 0) pe_int (fun _ _ => rfl)) pa_nil)) pe_int)
        (pe_op op_mul pe_int (pe_ix ix_list (pv 0) pe_int (fun _ _ => rfl)))))
      (pss_cons (ps_set (i := 2) nd rfl (.inl rfl) (pe_op op_mul (pv 2) (pe_op op_add (pe_op op_add (pe_op op_mod (pe_callTy call_int1 (by rfl) T.int (by decide +kernel) (pa_cons (pe_ix ix_list (pv 0) pe_int (fun _ _ => rfl)) pa_nil)) pe_int)
        (pe_op op_mul (pe_op op_mul pe_int (pe_ix ix_list (pv 0) pe_int (fun _ _ => rfl))) (pe_ix ix_list (pv 0) pe_int (fun _ _ => rfl)))) pe_int)))
      (pss_one (ps_ret (pe_op op_mod (pe_callTy call_int1 (by rfl) T.int (by decide +kernel) (pa_cons
        (pe_op op_fdiv (pe_op op_mod (pe_callTy call_int1 (by rfl) T.int (by decide +kernel) (pa_cons (pe_op op_pow (pv 2) pe_int) pa_nil)) pe_int) pe_int) pa_nil)) (pv 1)))))))), ?_⟩
    have sq := SqL.of (K := K) hA
    refine ⟨_, rfl, a, _, _, _, rfl, rfl, sq, rfl, _, _, rfl, rfl, _, rfl, ?_⟩
    by_cases hp : 0 < x
    · rw [decide_eq_true hp]
      refine iteT ?_
      refine ⟨_, rfl, a, _, _, _, rfl, rfl, sq, rfl, .inl ⟨_, rfl, _, rfl, _, _, rfl, rfl, hn, ?_⟩⟩
      refine ⟨_, rfl, a, _, _, _, rfl, rfl, sq, rfl, _, rfl, _, _, rfl, rfl, ⟨hn, hn2⟩, ?_⟩
      refine ⟨_, rfl, a, _, _, _, rfl, rfl, hA, rfl, ?_⟩
      refine ⟨_, rfl, ?_⟩
      exact k _ _ _ (Int.emod_nonneg _ (by omega)) (Int.emod_lt_of_pos _ hn) (Int.ediv_nonneg hx (by omega)) (Int.le_refl _) (by omega)
    · rw [decide_eq_false hp]
      refine iteF ?_
      refine ⟨_, rfl, a, _, _, _, rfl, rfl, sq, rfl, _, _, rfl, rfl, _, rfl, a, _, _, _, rfl, rfl, hA, rfl, ?_⟩
      have hB : (upd H a (HO.lst ([V.int x, V.int y, V.int z].set 2 (V.int (z + 1))))) a = some (.lst [.int x, .int y, .int (z + 1)]) := upd_same
      have sq := SqL.of (K := K) hB
      refine ⟨_, rfl, a, _, _, _, rfl, rfl, sq, rfl, .inl ⟨_, rfl, _, _, rfl, rfl, (by show (0 : Int) < 2147483629; decide), ?_⟩⟩
      refine ⟨_, rfl, a, _, _, _, rfl, rfl, sq, rfl, _, _, rfl, rfl, .inl ⟨by decide, by decide⟩, _, _, rfl, rfl, ?_⟩
      have y1 := Int.emod_nonneg y (show (2147483629 : Int) ≠ 0 by decide)
      have y2 := Int.emod_lt_of_pos y (show (0 : Int) < 2147483629 by decide)
      have y3 := Int.emod_nonneg y (show (2147483587 : Int) ≠ 0 by decide)
      have y4 := Int.emod_lt_of_pos y (show (0 : Int) < 2147483587 by decide)
      have q1 : 0 ≤ 7919 * (z + 1) * (z + 1) := Int.mul_nonneg (by omega) (by omega)
      have q2 : 7919 * (z + 1) * (z + 1) ≤ 7919 * 801 * 801 := Int.mul_le_mul (by omega) (by omega) (by omega) (by decide)
      refine ⟨_, rfl, _, rfl, a, _, _, _, rfl, rfl, sq, rfl, .inl ⟨_, rfl, _, _, rfl, rfl, (by show (0 : Int) < 2147483587; decide), ?_⟩⟩
      refine ⟨_, rfl, a, _, _, _, rfl, rfl, sq, rfl, _, _, rfl, rfl, .inl ⟨by decide, by decide⟩, ?_⟩
      refine ⟨_, rfl, a, _, _, _, rfl, rfl, sq, rfl, _, _, rfl, rfl, .inl ⟨by omega, by omega⟩, _, _, rfl, rfl, _, _, rfl, rfl, _, _, rfl, rfl, .inl ⟨by omega, by omega⟩, ?_⟩
      refine ⟨_, rfl, _, _, rfl, rfl, ⟨by decide, by decide, pow_room (by omega) (by omega) (by omega) (by omega)⟩, .inl ⟨_, rfl, _, _, rfl, rfl, (by show (0 : Int) < 2147483647; decide), ?_⟩⟩
      refine ⟨_, _, rfl, rfl, ⟨by decide, by decide⟩, .inl ⟨_, rfl, _, rfl, _, _, rfl, rfl, hn, ?_⟩⟩
      exact k _ x (z + 1) (Int.emod_nonneg _ (by omega)) (Int.emod_lt_of_pos _ hn) hx (by omega) (by omega)
theorem scPick : FnScope ["_law_state", "_law_some"] ["_law_state", "_law_some"] (defScope s__law_pick) := ⟨rfl, rfl, rfl, by decide +kernel, rfl, by decide +kernel, by decide +kernel⟩
/-- the state of the draws at a: so many draws (d) are still within the room -/
def Sta (H : Hp) (a : Addr) (d : Nat) : Prop := ∃ x y z : Int, H a = some (.lst [.int x, .int y, .int z]) ∧ 0 ≤ x ∧ 0 ≤ z ∧ z + d ≤ 800
theorem Sta.less {H : Hp} {a : Addr} {d e : Nat} (h : Sta H a d) (l : e ≤ d) : Sta H a e := by
  obtain ⟨x, y, z, h1, h2, h3, h4⟩ := h
  exact ⟨x, y, z, h1, h2, h3, by omega⟩
theorem Sta.ne {H : Hp} {a p : Addr} {d : Nat} (h : Sta H a d) (n : H p = none) : a ≠ p := by
  obtain ⟨x, y, z, h1, _⟩ := h
  exact ne_of_none h1 n
theorem Sta.same {H H' : Hp} {a : Addr} {d : Nat} (h : Sta H a d) (s : Same H H') : Sta H' a d := by
  obtain ⟨x, y, z, h1, h2⟩ := h
  exact ⟨x, y, z, s _ _ h1, h2⟩
theorem Sta.upd {H : Hp} {a p : Addr} {d : Nat} {o : HO} (h : Sta H a d) (n : p ≠ a) : Sta (upd H p o) a d := by
  obtain ⟨x, y, z, h1, h2⟩ := h
  exact ⟨x, y, z, by rw [upd_ne n.symm]; exact h1, h2⟩
/-- a draw: the state has one turn less -/
def spDrw : Sp := fun vs H Q _ => ∃ (a : Addr) (n : Int) (d : Nat), vs = [.ref a, .int n] ∧ Sta H a (d + 1) ∧ 0 < n ∧ n < 1073741824 ∧ ∀ (r : Int) (H' : Hp), 0 ≤ r → r < n → Sta H' a d → Ch a H H' → Q (.int r) H'
theorem spDrw_of {vs : List V} {H : Hp} {Q : VK} {E : XK} (h : spDrw vs H Q E) : spDraw vs H Q E := by
  obtain ⟨a, n, d, rfl, ⟨x, y, z, h1, h2, h3, h4⟩, h5, h6, k⟩ := h
  refine ⟨a, x, y, z, n, rfl, h1, h2, h3, by omega, h5, h6, fun r x' z' r0 r1 x0 z0 z1 => k r _ r0 r1 ⟨x', y, z', upd_same, x0, by omega, by omega⟩ (Ch.upd a H _)⟩
theorem ok_drw (D : Df K mg "_law_draw" s__law_draw ["_law_state", "_law_size"]) (T : Fre mg) : Fn P w K mg base "_law_draw" ["_law_state", "_law_size"] 1 spDrw := (ok_draw D T).imp fun _ _ _ _ => spDrw_of
/-- one of some things: a list's item, a text's sign -/
def spPick (K : PySem.W.Frag) : Sp := fun vs H Q _ => ∃ (a : Addr) (v : V) (d : Nat), vs = [.ref a, v] ∧ Sta H a (d + 1) ∧
  ((∃ (b : Addr) (xs : List V), v = .ref b ∧ SqL K H b xs ∧ b ≠ a ∧ 0 < xs.length ∧ xs.length ≤ 1000 ∧ ∀ x H', x ∈ xs → Sta H' a d → Ch a H H' → Q x H') ∨
   (∃ z : Str, v = .str z ∧ 0 < z.length ∧ z.length ≤ 1000 ∧ ∀ c H', c ∈ z.cps.toList → Sta H' a d → Ch a H H' → Q (.str ⟨#[c]⟩) H'))
theorem Ch.seqL {K : PySem.W.Frag} {a b : Addr} {H H' : Hp} {xs : List V} (c : Ch a H H') (n : b ≠ a) (h : SqL K H b xs) : SqL K H' b xs := by
  rcases h with (h | ⟨o, h⟩) | h
  · exact .inl (.inl (c _ _ n h))
  · exact .inl (.inr ⟨o, c _ _ n h⟩)
  · exact .inr h
theorem atI_get {α : Type} {xs : List α} {i : Int} (h0 : 0 ≤ i) (h1 : i < xs.length) : ∃ x, atI xs i = some x ∧ x ∈ xs := by
  obtain ⟨j, rfl⟩ := Int.eq_ofNat_of_zero_le h0
  have hj : j < xs.length := by omega
  exact ⟨xs[j], atI_nat (List.getElem?_eq_getElem hj), List.getElem_mem hj⟩
theorem ok_pick (D : Df K mg "_law_pick" s__law_pick ["_law_state", "_law_some"]) (GD : Fn P w K mg base "_law_draw" ["_law_state", "_law_size"] 1 spDrw) (T : Fre mg) : Fn P w K mg base "_law_pick" ["_law_state", "_law_some"] 2 (spPick K) := by
  refine D.ok scPick (fun vs H Q E h => ?_) (fun f cdv A outer s H vs Q E hr h => ?_)
  · obtain ⟨a, v, d, rfl, _⟩ := h
    rfl
  · obtain ⟨a, v, d, rfl, hS, h⟩ := h
    refine ⟨_, pss_one (ps_ret (pe_ix ix_seq (pv 1) (pe_fn GD hr (by rfl) (pa_cons (pv 0) (pa_cons (pe_callB call_len (by rfl) T.len PySem.boot_len (pa_cons (pv 1) pa_nil)) pa_nil))) (fun _ _ => rfl))), ?_⟩
    rcases h with ⟨b, xs, rfl, hL, nb, l0, l1, k⟩ | ⟨z, rfl, l0, l1, k⟩
    · refine ⟨_, rfl, _, rfl, _, rfl, _, xs.length, rfl, .inl ⟨_, hL, rfl⟩, a, _, d, rfl, hS, by omega, by omega, fun r H' r0 r1 hS' hC => ?_⟩
      obtain ⟨x, ex, hx⟩ := atI_get r0 r1
      exact .inl ⟨b, xs, _, x, rfl, rfl, hC.seqL nb hL, ex, k x H' hx hS' hC⟩
    · have lz : z.length = z.cps.toList.length := by rw [Array.length_toList]; rfl
      refine ⟨_, rfl, _, rfl, _, rfl, _, z.length, rfl, ⟨Nat.le_of_lt (small1000 l1), rfl⟩, a, _, d, rfl, hS, by omega, by omega, fun r H' r0 r1 hS' hC => ?_⟩
      obtain ⟨x, ex, hx⟩ := atI_get (xs := z.cps.toList) r0 (by omega)
      exact .inr (.inr ⟨z, _, x, rfl, rfl, Nat.le_of_lt (small1000 l1), ex, k x H' hx hS' hC⟩)
end
end KA
set_option Elab.async false
set_option linter.all false
set_option maxRecDepth 100000
set_option maxHeartbeats 4000000
namespace KA
open PySem PySem.Spec PyProof.Rows L2
/-! ### names of letters -/
abbrev low (c : Nat) : Prop := 97 ≤ c ∧ c ≤ 122
structure IsNm (z : Str) : Prop where
  pos : 1 ≤ z.length
  most : z.length ≤ 8
  let_ : ∀ c ∈ TL.tl z, low c
def signs : Str := "qjxzetaoinshrdlcumwfgypbvk"
theorem signs_low : ∀ c ∈ TL.tl signs, low c := by
  have h : (TL.tl signs).all (fun c => decide (97 ≤ c ∧ c ≤ 122)) = true := by decide +kernel
  exact fun c hc => of_decide_eq_true (List.all_eq_true.mp h c hc)
theorem signs_nd : (TL.tl signs).Nodup := by decide +kernel
theorem signs_len : (TL.tl signs).length = 26 := by decide +kernel
theorem joinL_nil : ∀ ps : List (List Nat), TL.joinL [] ps = ps.flatten
  | [] => rfl
  | [p] => by simp [TL.joinL]
  | p :: q :: r => by
    show p ++ ([] ++ TL.joinL [] (q :: r)) = p ++ (q :: r).flatten
    rw [joinL_nil (q :: r)]
    rfl
theorem tl_glue (ys : List Str) : TL.tl (Txt.join "" ys) = (ys.map TL.tl).flatten := by
  rw [TL.join_eq, TL.tl_join]
  exact joinL_nil _
theorem glue_len : ∀ cs : List Nat, (cs.map fun c => TL.tl (⟨#[c]⟩ : Str)).flatten = cs
  | [] => rfl
  | c :: r => by
    show [c] ++ (r.map fun c => TL.tl (⟨#[c]⟩ : Str)).flatten = c :: r
    rw [glue_len r]
    rfl
theorem one_lens (cs : List Nat) : ((cs.map fun c => (⟨#[c]⟩ : Str)).map (·.length)).sum = cs.length := by
  induction cs with
  | nil => rfl
  | cons c r ih =>
    rw [List.map_cons, List.map_cons, List.sum_cons, ih]
    show 1 + r.length = r.length + 1
    omega
theorem atI_nat_of {α : Type} {xs : List α} {j : Nat} {c : α} (h : atI xs (j : Int) = some c) : xs[j]? = some c := by
  by_cases hj : j < xs.length
  · rw [atI_nat (List.getElem?_eq_getElem hj)] at h
    rw [List.getElem?_eq_getElem hj]
    exact h
  · unfold atI ixN at h
    rw [if_pos (by omega), if_neg (by omega)] at h
    cases h
/-- names that end with unlike signs -/
theorem nd_last {r : Int} {ns : List Str} (h0 : 0 ≤ r) (hl : ns.length ≤ 26) (h : ∀ (k : Nat) (z : Str), ns[k]? = some z → ∃ c, (TL.tl signs)[((r + 7 * k) % 26).toNat]? = some c ∧ (TL.tl z).getLast? = some c) : ns.Nodup := by
  rw [List.Nodup, List.pairwise_iff_getElem]
  intro i j hi hj hij e
  obtain ⟨c, c1, c2⟩ := h i _ (List.getElem?_eq_getElem hi)
  obtain ⟨d, d1, d2⟩ := h j _ (List.getElem?_eq_getElem hj)
  rw [e, d2] at c2
  have ec := Option.some.inj c2
  subst ec
  have a1 : ((r + 7 * i) % 26).toNat < (TL.tl signs).length := by rw [signs_len]; omega
  have a2 : ((r + 7 * j) % 26).toNat < (TL.tl signs).length := by rw [signs_len]; omega
  rw [List.getElem?_eq_getElem a1] at c1
  rw [List.getElem?_eq_getElem a2] at d1
  have e2 := (List.getElem_inj (h₀ := a1) (h₁ := a2) signs_nd).mp ((Option.some.inj c1).trans (Option.some.inj d1).symm)
  omega
section
variable {P : Program} {w : World} {K : PySem.W.Frag} {mg : Str → Option Value} {base : Heap}
abbrev nNames : List Str := ["_law_state", "_law_many", "_law_signs", "_law_first", "_law_found", "_law_at", "_law_name", "_law_sign"]
theorem scNames : FnScope nNames ["_law_state", "_law_many"] (defScope s__law_names) := ⟨rfl, rfl, rfl, by decide +kernel, rfl, by decide +kernel, by decide +kernel⟩
def spNames : Sp := fun vs H Q _ => ∃ (a : Addr) (m d : Nat), vs = [.ref a, .int m] ∧ m ≤ 26 ∧ Sta H a (d + (1 + 9 * m)) ∧
  ∀ (ns : List Str) (p : Addr) (H' : Hp), ns.length = m → ns.Nodup → (∀ z ∈ ns, IsNm z) → H p = none → H' p = some (.lst (ns.map V.str)) → Sta H' a d → Ch a H H' → Q (.ref p) H'
theorem ok_names (D : Df K mg "_law_names" s__law_names ["_law_state", "_law_many"]) (GD : Fn P w K mg base "_law_draw" ["_law_state", "_law_size"] 1 spDrw)
    (GP : Fn P w K mg base "_law_pick" ["_law_state", "_law_some"] 2 (spPick K)) (T : Fre mg) : Fn P w K mg base "_law_names" ["_law_state", "_law_many"] 3 spNames := by
  refine D.ok scNames (fun vs H Q E h => ?_) (fun f cdv A outer s H vs Q E hr h => ?_)
  · obtain ⟨a, v, d, rfl, _⟩ := h
    rfl
  · obtain ⟨a, m, d, rfl, hm, hS, k⟩ := h
    have nd := scNames.nd
    have hr1 := hr.mono (show 1 ≤ 2 by decide)
    refine ⟨_, pss_cons (ps_asg (pe_tup (pa_cons pe_str (pa_cons (pe_fn GD hr1 (by rfl) (pa_cons (pv 0) (pa_cons pe_int pa_nil))) pa_nil)))
        (pg_tup rfl (pgs_cons (pg_name (i := 2) nd rfl (.inr rfl)) (pgs_cons (pg_name (i := 3) nd rfl (.inl rfl)) pgs_nil))))
      (pss_cons (ps_set (i := 4) nd rfl (.inl rfl) (pe_lst pa_nil))
      (pss_cons (ps_for PassesOwn.never rfl (pi_range1 (by rfl) T.range (pa_cons (pv 1) pa_nil)) (pg_name (i := 5) nd rfl (.inl rfl))
        (pss_cons (ps_set (i := 6) nd rfl (.inl rfl) (pe_join pe_str (pe_lc (own := [("_law_sign", 7)]) (g := gName 7) (tt := tYes) rfl nd
            (pi_range1 (by rfl) T.range (pa_cons (pe_fn GD hr1 (by rfl) (pa_cons (pv 0) (pa_cons pe_int pa_nil))) pa_nil)) (blkOk_by (N := nNames) (sc := defScope s__law_names) (by decide +kernel))
            (fun _ _ _ _ _ => pg_name (i := 7) nd rfl (Or.inl rfl)) (fun _ _ _ _ _ => pts_nil) (fun _ _ _ _ _ => pe_fn GP hr (by rfl) (pa_cons (pv 0) (pa_cons (pv 2) pa_nil))))))
        (pss_one (ps_expr (pe_bm PySem.F.plainAttrs_list PySem.F.slot_list_append PySem.F.type_list_append mt_append (pv 4) (pa_cons (pe_op op_add_str (pv 6)
            (pe_ix ix_str (pv 2) (pe_op op_mod (pe_callTy call_int1 (by rfl) T.int (by decide +kernel) (pa_cons (pe_op op_add (pv 3) (pe_op op_mul pe_int (pv 5))) pa_nil)) pe_int) (fun _ _ => rfl))) pa_nil))))))
      (pss_one (ps_ret (pv 4))))), ?_⟩
    -- the first row
    refine ⟨_, rfl, a, 26, d + 9 * m, rfl, (by rw [show d + 9 * m + 1 = d + (1 + 9 * m) by omega]; exact hS), by decide, by decide, fun r H1 r0 r1 hS1 hC1 => ⟨by show 2 ≤ sizeLine; decide, fun p hp => ?_⟩⟩
    have sp := same_new (o := .tup [.str signs, .int r]) hp
    refine ⟨p, [.str signs, .int r], rfl, .inl (.inl upd_same), rfl, _, _, rfl, _, _, rfl, rfl, ?_⟩
    -- found = []
    refine ⟨Nat.zero_le _, fun o no => ?_⟩
    have so := same_new (o := .lst []) no
    have npa : a ≠ p := hS1.ne hp
    have hS1' := hS1.same sp
    have noa : a ≠ o := hS1'.ne no
    have hC2 : Ch a H (upd (upd H1 p (.tup [.str signs, .int r])) o (.lst [])) := (hC1.trans (Ch.of sp)).trans (Ch.of so)
    have no' : H o = none := (hC1.trans (Ch.of sp)).free no noa.symm
    refine ⟨_, rfl, (m : Int), rfl, by omega, by omega, for_range (lo := 0) (n := m) (fun i σ H2 => ∃ (ns : List Str) (v5 v6 : Option V), σ = [some (.ref a), some (.int m), some (.str signs), some (.int r), some (.ref o), v5, v6, none] ∧
      H2 o = some (.lst (ns.map V.str)) ∧ ns.length = i ∧ (∀ z ∈ ns, IsNm z) ∧ (∀ (k : Nat) (z : Str), ns[k]? = some z → ∃ c, (TL.tl signs)[((r + 7 * k) % 26).toNat]? = some c ∧ (TL.tl z).getLast? = some c) ∧ Sta H2 a (d + 9 * (m - i)) ∧ Ch a H H2)
      ⟨[], none, none, rfl, upd_same, rfl, (fun z h => nomatch h), (fun k z h => by simp at h), ?_, hC2⟩ ?_ ?_⟩
    · exact hS1'.same so
    · rintro i σ H2 hi ⟨ns, v5, v6, rfl, hO, hl, hN, hE, hS2, hCh⟩
      -- the signs
      refine ⟨⟨_, rfl⟩, _, rfl, a, 8, d + 9 * (m - i - 1) + 8, rfl, (by rw [show d + 9 * (m - i - 1) + 8 + 1 = d + 9 * (m - i) by omega]; exact hS2), by decide, by decide, fun q H3 q0 q1 hS3 hC3 => ?_⟩
      refine ⟨q, rfl, by omega, by omega, fun L nL => ?_⟩
      have naL : a ≠ L := hS3.ne nL
      have hC23 := hCh.trans hC3
      have hO3 := hC3 o _ noa.symm hO
      refine lc_range (lo := 0) (n := q.toNat) (fun j H4 => ∃ cs : List Nat, cs.length = j ∧ (∀ c ∈ cs, low c) ∧ H4 L = some (.lst (cs.map fun c => V.str ⟨#[c]⟩)) ∧ Sta H4 a (d + 9 * (m - i - 1) + (8 - j)) ∧ Ch a H3 H4)
        ⟨[], rfl, (fun c h => nomatch h), upd_same, hS3.same (same_new nL), Ch.of (same_new nL)⟩ ?_ ?_
      · rintro j H4 hj ⟨cs, hcl, hcs, hL, hS4, hC4⟩
        refine ⟨rfl, _, rfl, _, rfl, a, _, d + 9 * (m - i - 1) + (8 - (j + 1)), rfl, hS4.less (by omega), .inr ⟨signs, rfl, by decide +kernel, by decide +kernel, fun c H5 hc hS5 hC5 => ?_⟩⟩
        have hL5 := hC5 L _ naL.symm hL
        refine ⟨_, hL5, ?_, cs ++ [c], ?_, ?_, ?_, ?_, ?_⟩
        · rw [List.length_map]
          exact small1000 (by omega)
        · rw [List.length_append, hcl]
          rfl
        · intro e he
          rcases List.mem_append.mp he with h | h
          · exact hcs e h
          · rw [List.mem_singleton.mp h]
            exact signs_low c hc
        · rw [upd_same, List.map_append]
          rfl
        · exact hS5.upd naL.symm
        · exact fun b u n e => by
            rw [upd_ne (show b ≠ L from ne_of_none e nL)]
            exact (hC4.trans hC5) b u n e
      · rintro H4 ⟨cs, hcl, hcs, hL, hS4, hC4⟩
        refine ⟨"", L, cs.map fun c => (⟨#[c]⟩ : Str), rfl, rfl, .inl (SqL.of (by rw [List.map_map]; exact hL)), ?_, ?_⟩
        · rw [one_lens, List.length_map]
          show cs.length + cs.length * 0 ≤ 16777216
          omega
        · have hO4 := hC4 o _ noa.symm hO3
          have hi7 : 0 ≤ (r + 7 * ((0 : Int) + i)) % 26 := Int.emod_nonneg _ (by decide)
          have hi8 : (r + 7 * ((0 : Int) + i)) % 26 < 26 := Int.emod_lt_of_pos _ (by decide)
          obtain ⟨c, ec, hc⟩ := atI_get (xs := TL.tl signs) hi7 (by rw [signs_len]; exact hi8)
          have tz : TL.tl (Txt.join "" (cs.map fun c => (⟨#[c]⟩ : Str)) ++ (⟨#[c]⟩ : Str)) = cs ++ [c] := by
            rw [TL.tl_append, tl_glue, List.map_map]
            exact congrArg (· ++ [c]) (glue_len cs)
          refine ⟨_, rfl, .inl ⟨rfl, _, SqL.of hO4⟩, _, rfl, _, rfl, _, rfl, _, rfl, _, _, rfl, rfl, .inl ⟨by decide, by decide⟩, _, _, rfl, rfl, .inl ⟨_, rfl, _, _, rfl, rfl, (by show (0 : Int) < 26; decide), signs, _, c, rfl, rfl, by decide +kernel, ec, _, _, rfl, rfl, ?_, o, _, _, rfl, rfl, hO4, ?_, ?_⟩⟩
          · have e1 := TL.len_tl (Txt.join "" (cs.map fun c => (⟨#[c]⟩ : Str)))
            rw [tl_glue, List.map_map, show (cs.map (TL.tl ∘ fun c => (⟨#[c]⟩ : Str))).flatten = cs from glue_len cs] at e1
            rw [e1]
            exact Nat.le_of_lt (small1000 (by show cs.length + 1 ≤ 1000; omega))
          · rw [List.length_map]
            exact small1000 (by omega)
          · refine ⟨ns ++ [Txt.join "" (cs.map fun c => (⟨#[c]⟩ : Str)) ++ (⟨#[c]⟩ : Str)], _, _, rfl, ?_, ?_, ?_, ?_, ?_, ?_⟩
            · rw [upd_same, List.map_append]
              rfl
            · rw [List.length_append, hl]
              rfl
            · intro z hz
              rcases List.mem_append.mp hz with h | h
              · exact hN z h
              · rw [List.mem_singleton.mp h]
                have e2 := TL.len_tl (Txt.join "" (cs.map fun c => (⟨#[c]⟩ : Str)) ++ (⟨#[c]⟩ : Str))
                rw [tz, List.length_append] at e2
                refine ⟨by rw [e2]; simp, by rw [e2]; simp; omega, ?_⟩
                rw [tz]
                intro x hx
                rcases List.mem_append.mp hx with h | h
                · exact hcs x h
                · rw [List.mem_singleton.mp h]
                  exact signs_low c hc
            · intro k z hk
              by_cases hki : k < ns.length
              · rw [List.getElem?_append_left hki] at hk
                exact hE k z hk
              · rw [List.getElem?_append_right (by omega)] at hk
                have ek : k - ns.length = 0 := by
                  cases e : k - ns.length with
                  | zero => rfl
                  | succ j => rw [e] at hk; simp at hk
                rw [ek] at hk
                have ez := Option.some.inj hk
                subst ez
                have ek2 : k = i := by omega
                refine ⟨c, ?_, ?_⟩
                · rw [ek2]
                  have := ec
                  obtain ⟨j, ej⟩ := Int.eq_ofNat_of_zero_le hi7
                  rw [ej] at this
                  have e3 : (r + 7 * (i : Int)) % 26 = (j : Int) := by
                    rw [← ej, Int.zero_add]
                  rw [e3]
                  exact atI_nat_of this
                · rw [tz, List.getLast?_append]
                  rfl
            · exact (hS4.less (by omega)).upd noa.symm
            · exact fun b u n e => by
                rw [upd_ne (show b ≠ o from ne_of_none e no')]
                exact (hC23.trans hC4) b u n e
    · rintro σ H2 ⟨ns, v5, v6, rfl, hO, hl, hN, hE, hS2, hCh⟩
      refine ⟨_, rfl, k ns o H2 hl (nd_last r0 (by omega) hE) hN no' hO ?_ hCh⟩
      rw [Nat.sub_self] at hS2
      exact hS2
end
end KA
set_option Elab.async false
set_option linter.all false
set_option maxRecDepth 100000
set_option maxHeartbeats 4000000
namespace KA
open PySem PySem.Spec PyProof.Rows L2
/-! ### tuples of texts in the heap -/
def Tx (H : Hp) (v : V) (l : List Str) : Prop := ∃ t, v = .ref t ∧ H t = some (.tup (l.map V.str))
abbrev Txs (H : Hp) (xs : List V) (ls : List (List Str)) : Prop := Paired (Tx H) xs ls
/-- all tuples stand -/
def KT (H H' : Hp) : Prop := ∀ t xs, H t = some (.tup xs) → H' t = some (.tup xs)
theorem KT.refl (H : Hp) : KT H H := fun _ _ e => e
theorem KT.trans {H H1 H2 : Hp} (a : KT H H1) (b : KT H1 H2) : KT H H2 := fun t xs e => b t xs (a t xs e)
theorem KT.same {H H1 : Hp} (a : Same H H1) : KT H H1 := fun t xs e => a _ _ e
theorem KT.ch {a : Addr} {H H1 : Hp} (c : Ch a H H1) {d : Nat} (h : Sta H a d) : KT H H1 := fun t xs e => by
  obtain ⟨x, y, z, h1, _⟩ := h
  exact c _ _ (ne_of e h1 (by intro q; cases q)) e
theorem KT.upd {H : Hp} {d : Addr} {o : HO} (h : ∀ xs, H d ≠ some (.tup xs)) : KT H (upd H d o) := fun t xs e => by
  rw [upd_ne (fun q => h xs (by rw [← q]; exact e))]
  exact e
theorem KT.lst {H : Hp} {d : Addr} {o : HO} {ys : List V} (h : H d = some (.lst ys)) : KT H (L2.upd H d o) := KT.upd fun xs q => by
  rw [h] at q; cases q
theorem Tx.kt {H H' : Hp} (k : KT H H') {v : V} {l : List Str} (h : Tx H v l) : Tx H' v l := by
  obtain ⟨t, e, h⟩ := h
  exact ⟨t, e, k _ _ h⟩
theorem Txs.kt {H H' : Hp} (k : KT H H') {xs : List V} {ls : List (List Str)} (h : Txs H xs ls) : Txs H' xs ls := L2.Paired.mapP h fun _ _ => Tx.kt k
section
variable {α β : Type} {F : α → β → Prop}
theorem Pd.len : ∀ {xs : List α} {ys : List β}, Paired F xs ys → xs.length = ys.length
  | _, _, .nil => rfl
  | _, _, .cons _ r => congrArg (· + 1) (Pd.len r)
theorem Pd.app : ∀ {xs us : List α} {ys ws : List β}, Paired F xs ys → Paired F us ws → Paired F (xs ++ us) (ys ++ ws)
  | _, _, _, _, .nil, r => r
  | _, _, _, _, .cons h q, r => .cons h (Pd.app q r)
theorem Pd.get : ∀ {xs : List α} {ys : List β} {i : Nat} {x : α}, Paired F xs ys → xs[i]? = some x → ∃ y, ys[i]? = some y ∧ F x y
  | _, _, i, x, .nil, h => by simp at h
  | _, _, 0, x, .cons h q, e => by
    have e := Option.some.inj e
    subst e
    exact ⟨_, rfl, h⟩
  | _, _, i + 1, x, .cons h q, e => Pd.get (i := i) q e
theorem Pd.take : ∀ {xs : List α} {ys : List β} (n : Nat), Paired F xs ys → Paired F (xs.take n) (ys.take n)
  | _, _, 0, _ => .nil
  | _, _, n + 1, .nil => .nil
  | _, _, n + 1, .cons h q => .cons h (Pd.take n q)
theorem Pd.rev : ∀ {xs : List α} {ys : List β}, Paired F xs ys → Paired F xs.reverse ys.reverse
  | _, _, .nil => .nil
  | _, _, .cons h q => by
    rw [List.reverse_cons, List.reverse_cons]
    exact Paired.snoc (Pd.rev q) h
end
/-! ### data of texts -/
abbrev Cp (l : List Str) : Prop := ∀ z ∈ l, PyData.strOk z = true
theorem IsNm.cp {z : Str} (h : IsNm z) : PyData.strOk z = true := by
  unfold PyData.strOk
  rw [← Array.all_toList, List.all_eq_true]
  exact fun c hc => decide_eq_true (by have := h.let_ c hc; omega)
def tD (l : List Str) : PyData := .tuple (l.map .str)
def lD (l : List Str) : PyData := .list (l.map .str)
theorem strs_lay : ∀ {l : List Str}, Cp l → PyData.canLayAll0 (l.map .str) = true
  | [], _ => by simp [PyData.canLayAll0]
  | z :: r, h => by
    have h1 := strs_lay (l := r) fun y hy => h y (List.mem_cons_of_mem _ hy)
    have h2 := h z (List.mem_cons_self ..)
    simp [PyData.canLayAll0, PyData.canLay0, h1, h2]
theorem strs_depth : ∀ l : List Str, PyData.depthAll (l.map .str) = 0
  | [] => by simp [PyData.depthAll]
  | z :: r => by
    have h1 := strs_depth r
    simp [PyData.depthAll, PyData.depth, h1]
theorem strs_eqv : ∀ l m : List Str, PyData.eqvAll (l.map .str) (m.map .str) = decide (l = m)
  | [], [] => by simp [PyData.eqvAll]
  | [], _ :: _ => by simp [PyData.eqvAll]
  | _ :: _, [] => by simp [PyData.eqvAll]
  | x :: l, y :: m => by
    have h1 := strs_eqv l m
    simp only [List.map_cons, PyData.eqvAll, PyData.eqv, h1]
    by_cases e : x = y
    · subst e
      simp
    · have : (x == y) = false := beq_eq_false_iff_ne.mpr e
      simp [this, e]
theorem tD_eqv (l m : List Str) : PyData.eqv (tD l) (tD m) = decide (l = m) := by
  simp only [tD, PyData.eqv, strs_eqv]
theorem lD_eqv (l m : List Str) : PyData.eqv (lD l) (lD m) = decide (l = m) := by
  simp only [lD, PyData.eqv, strs_eqv]
theorem tDs_lay : ∀ {ls : List (List Str)}, (∀ l ∈ ls, Cp l) → PyData.canLayAll0 (ls.map tD) = true
  | [], _ => by simp [PyData.canLayAll0]
  | l :: r, h => by
    have h1 := tDs_lay (ls := r) fun y hy => h y (List.mem_cons_of_mem _ hy)
    have h2 := strs_lay (h l (List.mem_cons_self ..))
    simp [PyData.canLayAll0, tD, PyData.canLay0, h2]
    exact h1
theorem lDs_lay : ∀ {ls : List (List Str)}, (∀ l ∈ ls, Cp l) → PyData.canLayAll0 (ls.map lD) = true
  | [], _ => by simp [PyData.canLayAll0]
  | l :: r, h => by
    have h1 := lDs_lay (ls := r) fun y hy => h y (List.mem_cons_of_mem _ hy)
    have h2 := strs_lay (h l (List.mem_cons_self ..))
    simp [PyData.canLayAll0, lD, PyData.canLay0, h2]
    exact h1
theorem tDs_depth : ∀ ls : List (List Str), PyData.depthAll (ls.map tD) ≤ 1
  | [] => by simp [PyData.depthAll]
  | l :: r => by
    have h1 := tDs_depth r
    simp only [List.map_cons, PyData.depthAll, tD, PyData.depth, strs_depth] at h1 ⊢
    omega
theorem lDs_depth : ∀ ls : List (List Str), PyData.depthAll (ls.map lD) ≤ 1
  | [] => by simp [PyData.depthAll]
  | l :: r => by
    have h1 := lDs_depth r
    simp only [List.map_cons, PyData.depthAll, lD, PyData.depth, strs_depth] at h1 ⊢
    omega
theorem shaped_mk {d : PyData} (h1 : d.canLay0 = true) (h2 : d.depth ≤ 64) : SeqAt.shaped d = true := by
  unfold SeqAt.shaped
  rw [h1, decide_eq_true h2]
  rfl
theorem tD_shaped {l : List Str} (h : Cp l) : SeqAt.shaped (tD l) = true := shaped_mk (by simp only [tD, PyData.canLay0]; exact strs_lay h) (by simp only [tD, PyData.depth, strs_depth]; omega)
theorem lD_shaped {l : List Str} (h : Cp l) : SeqAt.shaped (lD l) = true := shaped_mk (by simp only [lD, PyData.canLay0]; exact strs_lay h) (by simp only [lD, PyData.depth, strs_depth]; omega)
theorem lD_tDs_shaped {ls : List (List Str)} (h : ∀ l ∈ ls, Cp l) : SeqAt.shaped (.list (ls.map tD)) = true := shaped_mk (by simp only [PyData.canLay0]; exact tDs_lay h) (by have := tDs_depth ls; simp only [PyData.depth]; omega)
theorem tD_tDs_shaped {ls : List (List Str)} (h : ∀ l ∈ ls, Cp l) : SeqAt.shaped (.tuple (ls.map tD)) = true := shaped_mk (by simp only [PyData.canLay0]; exact tDs_lay h) (by have := tDs_depth ls; simp only [PyData.depth]; omega)
theorem lD_lDs_shaped {ls : List (List Str)} (h : ∀ l ∈ ls, Cp l) : SeqAt.shaped (.list (ls.map lD)) = true := shaped_mk (by simp only [PyData.canLay0]; exact lDs_lay h) (by have := lDs_depth ls; simp only [PyData.depth]; omega)
theorem any_tD (ls : List (List Str)) (l : List Str) : ((ls.map tD).any fun z => PyData.eqv z (tD l)) = decide (l ∈ ls) := by
  induction ls with
  | nil => simp
  | cons m r ih =>
    rw [List.map_cons, List.any_cons, ih, tD_eqv]
    by_cases e : m = l
    · subst e
      simp
    · have e2 : ¬ l = m := fun q => e q.symm
      simp [e, e2]
section
variable {K : PySem.W.Frag} {H : Hp}
theorem Dp.strs : ∀ l : List Str, DpAll K H (l.map V.str) (l.map .str)
  | [] => .nil
  | z :: r => .cons (.str z) (Dp.strs r)
theorem Tx.dp {v : V} {l : List Str} (h : Tx H v l) : Dp K H v (tD l) := by
  obtain ⟨t, rfl, h⟩ := h
  exact .tup (SqT.of h) (Dp.strs l)
theorem Txs.dp : ∀ {xs : List V} {ls : List (List Str)}, Txs H xs ls → DpAll K H xs (ls.map tD)
  | _, _, .nil => .nil
  | _, _, .cons h r => .cons h.dp (Txs.dp r)
end
/-! ### a tuple of texts within a list or a tuple of such -/
def rInTx (K : PySem.W.Frag) (neg : Bool) : R2 := fun x y H Q => ∃ (l : List Str) (ls : List (List Str)) (xs : List V) (a : Addr), Tx H x l ∧ y = .ref a ∧ (SqL K H a xs ∨ SqT K H a xs) ∧ Txs H xs ls ∧ Cp l ∧ (∀ m ∈ ls, Cp m) ∧
  Q (.bl (if neg = true then !decide (l ∈ ls) else decide (l ∈ ls))) H
theorem op_inTx {X : Cx} (hu : X.A.units + 65 < cLine) : OpR X (compareOp .In) (rInTx X.K false) := by
  intro pins s σ H x y v u Q I rx ry h
  obtain ⟨l, ls, xs, a, h1, rfl, h2, h3, c1, c2, q⟩ := h
  obtain ⟨as, r1⟩ := Dp.reads I (tD l) x v h1.dp rx
  have q' : Q (.bl ((ls.map tD).any fun z => PyData.eqv z (tD l))) H := by
    rw [any_tD]
    exact q
  rcases h2 with h2 | h2
  · obtain ⟨bs, r2⟩ := Dp.reads I (.list (ls.map tD)) (.ref a) u (.lst h2 h3.dp) ry
    exact SeqAt.in_list_reads r2 r1 (tDs_lay c2) (SeqAt.canLay_of_shaped (tD_shaped c1)) (room_in_shaped (tD_shaped c1) hu) ⟨.bl _, H, I, rfl, q'⟩
  · obtain ⟨bs, r2⟩ := Dp.reads I (.tuple (ls.map tD)) (.ref a) u (.tup h2 h3.dp) ry
    exact SeqAt.in_tuple_reads r2 r1 (tDs_lay c2) (SeqAt.canLay_of_shaped (tD_shaped c1)) (room_in_shaped (tD_shaped c1) hu) ⟨.bl _, H, I, rfl, q'⟩
theorem op_notInTx {X : Cx} (hu : X.A.units + 65 < cLine) : OpR X (compareOp .NotIn) (rInTx X.K true) := by
  intro pins s σ H x y v u Q I rx ry h
  obtain ⟨l, ls, xs, a, h1, rfl, h2, h3, c1, c2, q⟩ := h
  obtain ⟨as, r1⟩ := Dp.reads I (tD l) x v h1.dp rx
  have q' : Q (.bl (!(ls.map tD).any fun z => PyData.eqv z (tD l))) H := by
    rw [any_tD]
    exact q
  rcases h2 with h2 | h2
  · obtain ⟨bs, r2⟩ := Dp.reads I (.list (ls.map tD)) (.ref a) u (.lst h2 h3.dp) ry
    exact SeqAt.notIn_list_reads r2 r1 (tDs_lay c2) (SeqAt.canLay_of_shaped (tD_shaped c1)) (room_in_shaped (tD_shaped c1) hu) ⟨.bl _, H, I, rfl, q'⟩
  · obtain ⟨bs, r2⟩ := Dp.reads I (.tuple (ls.map tD)) (.ref a) u (.tup h2 h3.dp) ry
    exact SeqAt.notIn_tuple_reads r2 r1 (tDs_lay c2) (SeqAt.canLay_of_shaped (tD_shaped c1)) (room_in_shaped (tD_shaped c1) hu) ⟨.bl _, H, I, rfl, q'⟩
end KA
set_option Elab.async false
set_option linter.all false
set_option maxRecDepth 100000
set_option maxHeartbeats 4000000
namespace KA
open PySem PySem.Spec PyProof.Rows L2
theorem updN {H H' : Hp} {D : Addr} {o : HO} (s : Same H H') (n : H D = none) : Same H (upd H' D o) := fun b u e => by
  rw [upd_ne (ne_of_none e n)]
  exact s b u e
/-- all pairs of two unlike names, the first of us -/
def ev (ns us : List Str) : List (List Str) := us.flatMap fun u => (ns.filter fun v => decide (v ≠ u)).map fun v => [u, v]
theorem ev_snoc (ns us : List Str) (u : Str) : ev ns (us ++ [u]) = ev ns us ++ (ns.filter fun v => decide (v ≠ u)).map fun v => [u, v] := by
  unfold ev
  rw [List.flatMap_append]
  simp
theorem ev_len (ns : List Str) : ∀ us : List Str, (ev ns us).length ≤ us.length * ns.length
  | [] => by simp [ev]
  | u :: r => by
    have h := ev_len ns r
    have h1 : ev ns (u :: r) = ((ns.filter fun v => decide (v ≠ u)).map fun v => [u, v]) ++ ev ns r := rfl
    have h2 := List.length_filter_le (fun v => decide (v ≠ u)) ns
    rw [h1, List.length_append, List.length_map, List.length_cons, Nat.succ_mul]
    omega
theorem take_succ_of {α : Type} {l : List α} {i : Nat} {x : α} (h : l[i]? = some x) : l.take (i + 1) = l.take i ++ [x] := by
  rw [List.take_add_one, h]
  rfl
section
variable {P : Program} {w : World} {K : PySem.W.Frag} {mg : Str → Option Value} {base : Heap}
abbrev nEvery : List Str := ["_law_names_here", "_law_found", "_law_one", "_law_other"]
theorem scEvery : FnScope nEvery ["_law_names_here"] (defScope s__law_every) := ⟨rfl, rfl, rfl, by decide +kernel, rfl, by decide +kernel, by decide +kernel⟩
def spEvery (K : PySem.W.Frag) : Sp := fun vs H Q _ => ∃ (a : Addr) (ns : List Str), vs = [.ref a] ∧ SqL K H a (ns.map V.str) ∧ ns.length ≤ 26 ∧
  ∀ (p : Addr) (xs : List V) (H' : Hp), H p = none → H' p = some (.lst xs) → Txs H' xs (ev ns ns) → Same H H' → Q (.ref p) H'
theorem ok_every (D : Df K mg "_law_every" s__law_every ["_law_names_here"]) (T : Fre mg) : Fn P w K mg base "_law_every" ["_law_names_here"] 1 (spEvery K) := by
  refine D.ok scEvery (fun vs H Q E h => ?_) (fun f cdv A outer s H vs Q E hr h => ?_)
  · obtain ⟨a, v, rfl, _⟩ := h
    rfl
  · obtain ⟨a, ns, rfl, hL, hl, k⟩ := h
    have nd := scEvery.nd
    refine ⟨_, pss_cons (ps_set (i := 1) nd rfl (.inl rfl) (pe_lst pa_nil))
      (pss_cons (ps_for PassesOwn.never rfl (pi_list (pv 0)) (pg_name (i := 2) nd rfl (.inr rfl))
        (pss_one (ps_set (i := 1) nd rfl (.inl rfl) (pe_op op_cat (pv 1) (pe_lc (own := [("_law_other", 3)]) (g := gName 3) rfl nd (pi_list (pv 0))
          (blkOk_by (N := nEvery) (sc := defScope s__law_every) (by decide +kernel)) (fun _ _ _ _ _ => pg_name (i := 3) nd rfl (Or.inl rfl))
          (fun _ _ _ _ _ => pts_one (pt_cmpR op_ne (pv 3) (pv 2) (nomark _))) (fun _ _ _ _ _ => pe_tup (pa_cons (pv 2) (pa_cons (pv 3) pa_nil))))))))
      (pss_one (ps_ret (pv 1)))), ?_⟩
    refine ⟨Nat.zero_le _, fun o no => ?_⟩
    have s1 := same_new (o := .lst []) no
    refine ⟨_, rfl, a, rfl, ⟨_, s1.seq hL⟩, for_list (K := K) (a := a) (xs := ns.map V.str) (fun i σ H2 => ∃ (q : Addr) (xs : List V) (v : Option V), σ = [some (.ref a), some (.ref q), v, none] ∧ H q = none ∧ H2 q = some (.lst xs) ∧ Txs H2 xs (ev ns (ns.take i)) ∧ Same H H2)
      ⟨o, [], none, rfl, no, upd_same, .nil, s1⟩ (fun i σ H2 _ ⟨_, _, _, _, _, _, _, s2⟩ => s2.seq hL) ?_ ?_⟩
    · rintro i y σ H2 hi ⟨q, xs, v, rfl, nq, hq, hxs, s2⟩
      rw [List.getElem?_map] at hi
      obtain ⟨u, hu, rfl⟩ := Option.map_eq_some_iff.mp hi
      have hil := (List.getElem?_eq_some_iff.mp hu).1
      refine ⟨_, rfl, _, rfl, a, rfl, ⟨_, s2.seq hL⟩, fun L nL => ?_⟩
      refine lc_list (K := K) (a := a) (xs := ns.map V.str) (fun j H3 => ∃ ys, H3 L = some (.lst ys) ∧ Txs H3 ys (((ns.take j).filter fun v => decide (v ≠ u)).map fun v => [u, v]) ∧ Same H2 H3 ∧ ys.length ≤ j)
        ⟨[], upd_same, .nil, same_new nL, Nat.le_refl _⟩ (fun j H3 _ ⟨_, _, _, s3, _⟩ => s3.seq (s2.seq hL)) ?_ ?_
      · rintro j y H3 hj ⟨ys, hys, hTx, s3, hyl⟩
        have hjl := (List.getElem?_eq_some_iff.mp hj).1
        rw [List.length_map] at hjl
        rw [List.getElem?_map] at hj
        obtain ⟨z, hz, rfl⟩ := Option.map_eq_some_iff.mp hj
        refine ⟨rfl, _, rfl, _, rfl, rfl, _, rfl, ?_⟩
        by_cases e : z = u
        · subst e
          refine (if_neg (by simp)).mpr ?_
          refine ⟨ys, hys, ?_, s3, by omega⟩
          rw [take_succ_of hz, List.filter_append]
          simpa using hTx
        · refine (if_pos (by simp [e])).mpr ?_
          refine ⟨_, rfl, _, rfl, (by show 2 ≤ sizeLine; decide), fun p np => ?_⟩
          have sp := same_new (o := .tup [.str u, .str z]) np
          have npL : L ≠ p := ne_of_none hys np
          refine ⟨ys, sp _ _ hys, small1000 (by omega), ys ++ [.ref p], upd_same, ?_, updN (s3.trans sp) nL, by simp; omega⟩
          rw [take_succ_of hz, List.filter_append, List.map_append]
          have e2 : (List.filter (fun v => decide (v ≠ u)) [z]).map (fun v => [u, v]) = [[u, z]] := by simp [e]
          rw [e2]
          have kt : KT H3 (upd (upd H3 p (.tup [.str u, .str z])) L (.lst (ys ++ [.ref p]))) := (KT.same sp).trans (KT.lst (sp _ _ hys))
          refine Paired.snoc (hTx.kt kt) ⟨p, rfl, ?_⟩
          rw [upd_ne npL.symm]
          exact upd_same
      · rintro H3 ⟨ys, hys, hTx, s3, hyl⟩
        rw [List.length_map] at hyl
        have lx := Pd.len hxs
        have lx2 := ev_len ns (ns.take i)
        have lx3 : (ns.take i).length * ns.length ≤ 26 * 26 := Nat.mul_le_mul (by rw [List.length_take]; omega) hl
        refine ⟨q, L, xs, ys, rfl, rfl, s3 _ _ hq, hys, Nat.le_of_lt (small1000 (by omega)), fun p np => ?_⟩
        refine ⟨p, xs ++ ys, _, rfl, s2.free (s3.free np), upd_same, ?_, s2.trans (s3.trans (same_new np))⟩
        have kt := KT.same (same_new (o := .lst (xs ++ ys)) np)
        rw [take_succ_of hu, ev_snoc]
        rw [List.length_map, List.take_length] at hTx
        exact Pd.app (hxs.kt ((KT.same s3).trans kt)) (hTx.kt kt)
    · rintro σ H2 ⟨q, xs, v, rfl, nq, hq, hxs, s2⟩
      rw [List.length_map, List.take_length] at hxs
      exact ⟨_, rfl, k q xs H2 nq hq hxs s2⟩
end
end KA
set_option Elab.async false
set_option linter.all false
set_option maxRecDepth 100000
set_option maxHeartbeats 4000000
namespace KA
open PySem PySem.Spec PyProof.Rows L2
def letters : Str := "abcdefghijklmnopqrstuvwxyz"
/-- is it a name -/
def nmB (z : Str) : Bool := decide (1 ≤ z.length) && decide (z.length ≤ 8) && (TL.tl z).all fun c => decide (c ∈ TL.tl letters)
theorem low_letters {c : Nat} (h : low c) : c ∈ TL.tl letters := by
  have e : TL.tl letters = (List.range 26).map (· + 97) := by decide +kernel
  rw [e, List.mem_map]
  exact ⟨c - 97, List.mem_range.mpr (by omega), by omega⟩
theorem IsNm.b {z : Str} (h : IsNm z) : nmB z = true := by
  unfold nmB
  rw [decide_eq_true h.pos, decide_eq_true h.most, Bool.true_and, Bool.true_and, List.all_eq_true]
  exact fun c hc => decide_eq_true (low_letters (h.let_ c hc))
section
variable {P : Program} {w : World} {K : PySem.W.Frag} {mg : Str → Option Value} {base : Heap}
abbrev nIsName : List Str := ["value", "sign"]
theorem scIsName : FnScope nIsName ["value"] (defScope s_is_name) := ⟨rfl, rfl, rfl, by decide +kernel, rfl, by decide +kernel, by decide +kernel⟩
def spIsName (K : PySem.W.Frag) : Sp := fun vs H Q _ => ∃ v, vs = [v] ∧ ((∃ z : Str, v = .str z ∧ z.length ≤ 1000 ∧ ∀ H', Same H H' → Q (.bl (nmB z)) H') ∨
  (∃ t, TyX K H v t ∧ PySem.W.kitOne K t (.type "str") = some false ∧ Q (.bl false) H))
theorem ok_is_name (D : Df K mg "is_name" s_is_name ["value"]) (T : Fre mg) (gL : ∃ t, mg "LONGEST_NAME" = some (.int 8 t)) (gS : ∃ t, mg "LETTERS" = some (.str letters t)) : Fn P w K mg base "is_name" ["value"] 1 (spIsName K) := by
  obtain ⟨t1, gL⟩ := gL
  obtain ⟨t2, gS⟩ := gS
  refine D.ok scIsName (fun vs H Q E h => ?_) (fun f cdv A outer s H vs Q E hr h => ?_)
  · obtain ⟨v, rfl, _⟩ := h
    rfl
  · obtain ⟨v, rfl, h⟩ := h
    have nd := scIsName.nd
    refine ⟨_, pss_cons (ps_if (PW.pt (pw_or (pt_not (pt_val (pe_callB call_isi (by rfl) T.isi (by decide +kernel) (pa_cons (pv 0) (pa_cons (pe_bltn (v := .ty "str") (by rfl) T.str (by decide +kernel) rfl) pa_nil)))))
        (pw_or1 (pt_not (pt_chain op_le op_le pe_int (pe_callB call_len (by rfl) T.len PySem.boot_len (pa_cons (pv 0) pa_nil)) (pe_glob (v := .int 8) (by rfl) gL ⟨_, rfl⟩)))))) (pss_one (ps_ret pe_bl)) pss_nil)
      (pss_one (ps_ret (pe_callB (cr_all rfl) (by rfl) T.all (by decide +kernel) (pa_cons (pe_lc (own := [("sign", 1)]) (g := gName 1) (tt := tYes) rfl nd (pi_str (pv 0))
        (blkOk_by (N := nIsName) (sc := defScope s_is_name) (by decide +kernel)) (fun _ _ _ _ _ => pg_name (i := 1) nd rfl (Or.inl rfl)) (fun _ _ _ _ _ => pts_nil)
        (fun _ _ _ _ _ => pe_cmpR op_in_sign (pv 1) (pe_glob (v := .str letters) (by rfl) gS ⟨_, rfl⟩) (by rfl))) pa_nil)))), ?_⟩
    rcases h with ⟨z, rfl, hz, k⟩ | ⟨t, ht, kt, k⟩
    · refine ⟨_, rfl, _, _, _, _, true, rfl, .ty "str", .base (.str z), kit_ty (by decide +kernel), true, rfl, iteF ?_⟩
      refine ⟨_, rfl, _, z.length, rfl, ⟨Nat.le_of_lt (small1000 hz), rfl⟩, _, _, rfl, rfl, ?_⟩
      by_cases h1 : 1 ≤ z.length
      · refine ⟨true, congrArg V.bl (decide_eq_true (show (1 : Int) ≤ z.length by omega)), iteT ⟨_, _, rfl, rfl, _, rfl, ?_⟩⟩
        by_cases h2 : z.length ≤ 8
        · rw [decide_eq_true (show (z.length : Int) ≤ 8 by omega)]
          refine iteF ?_
          refine ⟨_, rfl, z, rfl, fun L nL => ?_⟩
          refine lc_it walk_str (fun j H3 => H3 L = some (.lst (((TL.tl z).take j).map fun c => V.bl (decide (c ∈ TL.tl letters)))) ∧ Same H H3) ⟨upd_same, same_new nL⟩ (fun _ _ _ _ => trivial) ?_ ?_
          · rintro j x H3 H4 hj ⟨h3, s3⟩ ⟨rfl, c, hc, rfl⟩
            refine ⟨rfl, ?_⟩
            refine ⟨_, rfl, c, letters, rfl, rfl, _, h3, ?_, ?_, updN s3 nL⟩
            · rw [List.length_map, List.length_take]
              exact small1000 (by have := TL.len_tl z; omega)
            · have hc' : (TL.tl z)[j]? = some c := by rw [← hc]; exact Array.getElem?_toList
              rw [upd_same, take_succ_of hc', List.map_append]
              rfl
          · rintro H3 ⟨h3, s3⟩
            have e : (TL.tl z).take z.cps.size = TL.tl z := List.take_of_length_le (by rw [← TL.len_tl z]; exact Nat.le_refl _)
            rw [e] at h3
            refine ⟨L, (TL.tl z).map fun c => decide (c ∈ TL.tl letters), rfl, SqL.of (by rw [List.map_map]; exact h3), ?_⟩
            have e2 : (((TL.tl z).map fun c => decide (c ∈ TL.tl letters)).all id) = nmB z := by
              unfold nmB
              rw [decide_eq_true h1, decide_eq_true h2, List.all_map]
              rfl
            rw [e2]
            exact k H3 s3
        · rw [decide_eq_false (show ¬ (z.length : Int) ≤ 8 by omega)]
          refine iteT ?_
          have := k H (Same.refl H)
          have e : nmB z = false := by
            unfold nmB
            rw [decide_eq_false h2, Bool.and_false, Bool.false_and]
          rw [e] at this
          exact this
      · refine ⟨false, congrArg V.bl (decide_eq_false (show ¬ (1 : Int) ≤ z.length by omega)), iteF ⟨_, rfl, iteT ?_⟩⟩
        have := k H (Same.refl H)
        have e : nmB z = false := by
          unfold nmB
          rw [decide_eq_false h1, Bool.false_and, Bool.false_and]
        rw [e] at this
        exact this
    · exact ⟨_, rfl, _, _, t, _, false, rfl, .ty "str", ht, kt, false, rfl, iteT (iteT k)⟩
abbrev nVal : List Str := ["value"]
theorem scIsWish : FnScope nVal ["value"] (defScope s_is_wish) := ⟨rfl, rfl, rfl, by decide +kernel, rfl, by decide +kernel, by decide +kernel⟩
def spIsWish : Sp := fun vs H Q _ => ∃ v x y, vs = [v] ∧ Tx H v [x, y] ∧ x.length ≤ 1000 ∧ y.length ≤ 1000 ∧ ∀ H', Same H H' → Q (.bl (nmB x && (nmB y && decide (x ≠ y)))) H'
theorem ok_is_wish (D : Df K mg "is_wish" s_is_wish ["value"]) (GN : Fn P w K mg base "is_name" ["value"] 1 (spIsName K)) (T : Fre mg) : Fn P w K mg base "is_wish" ["value"] 2 spIsWish := by
  refine D.ok scIsWish (fun vs H Q E h => ?_) (fun f cdv A outer s H vs Q E hr h => ?_)
  · obtain ⟨v, x, y, rfl, _⟩ := h
    rfl
  · obtain ⟨v, x, y, rfl, ⟨t, rfl, ht⟩, hx, hy, k⟩ := h
    refine ⟨_, pss_cons (ps_if (PW.pt (pw_or (pt_not (pt_val (pe_callB call_isi (by rfl) T.isi (by decide +kernel) (pa_cons (pv 0) (pa_cons (pe_bltn (v := .ty "tuple") (by rfl) T.tup (by decide +kernel) rfl) pa_nil)))))
        (pw_or1 (pt_cmpR op_ne (pe_callB call_len (by rfl) T.len PySem.boot_len (pa_cons (pv 0) pa_nil)) pe_int (nomark _))))) (pss_one (ps_ret pe_bl)) pss_nil)
      (pss_one (ps_ret (pe_and (pe_fn GN hr (by rfl) (pa_cons (pe_ix ix_tup (pv 0) pe_int (fun _ _ => rfl)) pa_nil)) (pe_and (pe_fn GN hr (by rfl) (pa_cons (pe_ix ix_tup (pv 0) pe_int (fun _ _ => rfl)) pa_nil))
        (pe_one (pe_cmpR op_ne (pe_ix ix_tup (pv 0) pe_int (fun _ _ => rfl)) (pe_ix ix_tup (pv 0) pe_int (fun _ _ => rfl)) (nomark _))))))), ?_⟩
    refine ⟨_, rfl, _, _, _, _, true, rfl, .ty "tuple", .base (.tup ht), kit_ty (by decide +kernel), true, rfl, iteF ?_⟩
    refine ⟨_, rfl, _, 2, rfl, .inr ⟨_, SqT.of ht, rfl⟩, rfl, _, rfl, ?_⟩
    refine iteF ?_
    refine ⟨_, rfl, t, _, _, .str x, rfl, rfl, SqT.of ht, rfl, _, rfl, .inl ⟨x, rfl, hx, fun H1 s1 => ⟨_, rfl, ?_⟩⟩⟩
    cases ex : nmB x with
    | false =>
      refine iteF ?_
      have := k H1 s1
      rw [ex] at this
      exact this
    | true =>
      refine iteT ?_
      have ht1 := s1 _ _ ht
      refine ⟨_, rfl, t, _, _, .str y, rfl, rfl, SqT.of ht1, rfl, _, rfl, .inl ⟨y, rfl, hy, fun H2 s2 => ⟨_, rfl, ?_⟩⟩⟩
      cases ey : nmB y with
      | false =>
        refine iteF ?_
        have := k H2 (s1.trans s2)
        rw [ex, ey] at this
        exact this
      | true =>
        refine iteT ?_
        have ht2 := s2 _ _ ht1
        refine ⟨_, rfl, t, _, _, .str x, rfl, rfl, SqT.of ht2, rfl, _, rfl, t, _, _, .str y, rfl, rfl, SqT.of ht2, rfl, rfl, ?_⟩
        have := k H2 (s1.trans s2)
        rw [ex, ey, Bool.true_and, Bool.true_and] at this
        have e : (!decide (V.str x = V.str y)) = decide (x ≠ y) := by
          by_cases q : x = y
          · subst q
            simp
          · simp [q]
        rw [e]
        exact this
theorem scIsWhole : FnScope nVal ["value"] (defScope s_is_whole) := ⟨rfl, rfl, rfl, by decide +kernel, rfl, by decide +kernel, by decide +kernel⟩
def spIsWhole (K : PySem.W.Frag) : Sp := fun vs H Q _ => ∃ v t b c, vs = [v] ∧ TyX K H v t ∧ PySem.W.kitOne K t (.type "int") = some b ∧ PySem.W.kitOne K t (.type "bool") = some c ∧ Q (.bl (b && !c)) H
theorem ok_is_whole (D : Df K mg "is_whole" s_is_whole ["value"]) (T : Fre mg) : Fn P w K mg base "is_whole" ["value"] 1 (spIsWhole K) := by
  refine D.ok scIsWhole (fun vs H Q E h => ?_) (fun f cdv A outer s H vs Q E hr h => ?_)
  · obtain ⟨v, t, b, c, rfl, _⟩ := h
    rfl
  · obtain ⟨v, t, b, c, rfl, ht, k1, k2, k⟩ := h
    refine ⟨_, pss_one (ps_ret (pe_and (pe_callB call_isi (by rfl) T.isi (by decide +kernel) (pa_cons (pv 0) (pa_cons (pe_bltn (v := .ty "int") (by rfl) T.int (by decide +kernel) rfl) pa_nil)))
      (pe_one (pe_not (pe_callB call_isi (by rfl) T.isi (by decide +kernel) (pa_cons (pv 0) (pa_cons (pe_bltn (v := .ty "bool") (by rfl) T.bool (by decide +kernel) rfl) pa_nil))))))), ?_⟩
    refine ⟨_, rfl, _, _, t, _, b, rfl, .ty "int", ht, k1, b, rfl, ?_⟩
    cases b with
    | false => exact iteF k
    | true => exact iteT ⟨_, rfl, _, _, t, _, c, rfl, .ty "bool", ht, k2, c, rfl, k⟩
abbrev nIsRange : List Str := ["value", "end"]
theorem scIsRange : FnScope nIsRange ["value"] (defScope s_is_range) := ⟨rfl, rfl, rfl, by decide +kernel, rfl, by decide +kernel, by decide +kernel⟩
def spIsRange : Sp := fun vs H Q _ => ∃ (t : Addr) (lo hi : Int), vs = [.ref t] ∧ H t = some (.tup [.int lo, .int hi]) ∧ ∀ H', Same H H' → Q (.bl (decide (lo ≤ hi))) H'
theorem ok_is_range (D : Df K mg "is_range" s_is_range ["value"]) (GW : Fn P w K mg base "is_whole" ["value"] 1 (spIsWhole K)) (T : Fre mg) : Fn P w K mg base "is_range" ["value"] 2 spIsRange := by
  refine D.ok scIsRange (fun vs H Q E h => ?_) (fun f cdv A outer s H vs Q E hr h => ?_)
  · obtain ⟨v, x, y, rfl, _⟩ := h
    rfl
  · obtain ⟨t, lo, hi, rfl, ht, k⟩ := h
    have nd := scIsRange.nd
    refine ⟨_, pss_cons (ps_if (PW.pt (pw_or (pt_not (pt_val (pe_callB call_isi (by rfl) T.isi (by decide +kernel) (pa_cons (pv 0) (pa_cons (pe_bltn (v := .ty "tuple") (by rfl) T.tup (by decide +kernel) rfl) pa_nil)))))
        (pw_or (pt_cmpR op_ne (pe_callB call_len (by rfl) T.len PySem.boot_len (pa_cons (pv 0) pa_nil)) pe_int (nomark _))
        (pw_or1 (pt_not (pt_val (pe_callB (cr_all rfl) (by rfl) T.all (by decide +kernel) (pa_cons (pe_lc (own := [("end", 1)]) (g := gName 1) (tt := tYes) rfl nd (pi_tup (pv 0))
          (blkOk_by (N := nIsRange) (sc := defScope s_is_range) (by decide +kernel)) (fun _ _ _ _ _ => pg_name (i := 1) nd rfl (Or.inl rfl)) (fun _ _ _ _ _ => pts_nil)
          (fun _ _ _ _ _ => pe_fn GW hr (by rfl) (pa_cons (pv 1) pa_nil))) pa_nil)))))))) (pss_one (ps_ret pe_bl)) pss_nil)
      (pss_one (ps_ret (pe_cmpR op_le (pe_ix ix_tup (pv 0) pe_int (fun _ _ => rfl)) (pe_ix ix_tup (pv 0) pe_int (fun _ _ => rfl)) (nomark _)))), ?_⟩
    refine ⟨_, rfl, _, _, _, _, true, rfl, .ty "tuple", .base (.tup ht), kit_ty (by decide +kernel), true, rfl, iteF ?_⟩
    refine ⟨_, rfl, _, 2, rfl, .inr ⟨_, SqT.of ht, rfl⟩, rfl, _, rfl, ?_⟩
    refine iteF ?_
    refine ⟨_, rfl, t, rfl, ⟨_, SqT.of ht⟩, fun L nL => ?_⟩
    refine lc_tup (K := K) (a := t) (xs := [.int lo, .int hi]) (fun j H3 => H3 L = some (.lst (List.replicate j (V.bl true))) ∧ Same H H3) ⟨upd_same, same_new nL⟩ (fun j H3 _ h => SqT.of (h.2 _ _ ht)) ?_ ?_
    · rintro j x H3 hj ⟨h3, s3⟩
      have hjl := (List.getElem?_eq_some_iff.mp hj).1
      obtain ⟨i, rfl⟩ : ∃ i, x = V.int i := by
        match j, hj with
        | 0, hj => exact ⟨lo, (Option.some.inj hj).symm⟩
        | 1, hj => exact ⟨hi, (Option.some.inj hj).symm⟩
        | j + 2, hj => simp at hj
      refine ⟨rfl, ?_⟩
      refine ⟨_, rfl, _, _, true, false, rfl, .base (.int i), kit_ty (by decide +kernel), kit_ty (by decide +kernel), _, h3, ?_, ?_, updN s3 nL⟩
      · rw [List.length_replicate]
        exact small1000 (by have : j < 2 := hjl; omega)
      · rw [upd_same]
        exact congrArg (fun l => some (HO.lst l)) (List.replicate_succ' ..).symm
    · rintro H3 ⟨h3, s3⟩
      refine ⟨L, [true, true], rfl, SqL.of h3, true, rfl, ?_⟩
      refine iteF ?_
      have ht3 := s3 _ _ ht
      exact ⟨_, rfl, t, _, _, .int lo, rfl, rfl, SqT.of ht3, rfl, _, rfl, t, _, _, .int hi, rfl, rfl, SqT.of ht3, rfl, _, _, rfl, rfl, k H3 s3⟩
end
end KA
set_option Elab.async false
set_option linter.all false
set_option maxRecDepth 100000
set_option maxHeartbeats 4000000
namespace KA
open PySem PySem.Spec PyProof.Rows L2
/-! ### sorted of tuples of ints and texts -/
def Tk (H : Hp) (v : V) (k : List Key) : Prop := ∃ t, v = .ref t ∧ H t = some (.tup (k.map kV))
abbrev Tks (H : Hp) (xs : List V) (ks : List (List Key)) : Prop := Paired (Tk H) xs ks
def itemK : Key → Int ⊕ List Nat
  | .inl i => .inl i
  | .inr z => .inr (TL.tl z)
def kkey (k : List Key) : List (Int ⊕ List Nat) := k.map itemK
def leK (a b : List Key) : Prop := (listOrd itemOrd).kle (kkey a) (kkey b)
def shp (k : List Key) : List Bool := k.map Sum.isRight
theorem itemK_inj {a b : Key} (h : itemK a = itemK b) : a = b := by
  cases a <;> cases b <;> simp [itemK] at h
  · rw [h]
  · rename_i x y
    rw [TL.ext_tl (x := x) (y := y) (by rw [TL.tl, TL.tl, h])]
theorem kkey_inj : ∀ {a b : List Key}, kkey a = kkey b → a = b
  | [], [], _ => rfl
  | [], _ :: _, h => by simp [kkey] at h
  | _ :: _, [], h => by simp [kkey] at h
  | x :: a, y :: b, h => by
    have h' : itemK x :: kkey a = itemK y :: kkey b := h
    injection h' with h1 h2
    rw [itemK_inj h1, kkey_inj h2]
theorem leK_anti {a b : List Key} (h1 : leK a b) (h2 : leK b a) : a = b := kkey_inj (KeyOrd.kle_antisymm h1 h2)
theorem leK_trans {a b c : List Key} (h1 : leK a b) (h2 : leK b c) : leK a c := KeyOrd.kle_trans h1 h2
/-- two sorted rows of the same things are one -/
theorem sorted_one {α : Type} {le : α → α → Prop} (anti : ∀ a b, le a b → le b a → a = b) : ∀ {l m : List α}, l.Perm m → l.Pairwise le → m.Pairwise le → l = m := by
  intro l m p
  exact fun h1 h2 => p.eq_of_pairwise (fun a b _ _ => anti a b) h1 h2
def keyOfV : V → Key
  | .int i => .inl i
  | .str z => .inr z
  | _ => .inl 0
theorem keyOfV_kV (k : Key) : keyOfV (kV k) = k := by cases k <;> rfl
def kOf (H : Hp) (t : Addr) : List Key := match H t with
  | some (.tup xs) => xs.map keyOfV
  | _ => []
theorem kOf_eq {H : Hp} {t : Addr} {k : List Key} (h : H t = some (.tup (k.map kV))) : kOf H t = k := by
  unfold kOf
  rw [h]
  show (k.map kV).map keyOfV = k
  rw [List.map_map]
  conv => rhs; rw [← List.map_id k]
  exact List.map_congr_left fun x _ => keyOfV_kV x
theorem tks_addrs {H : Hp} : ∀ {xs : List V} {ks : List (List Key)}, Tks H xs ks → ∃ ts : List Addr, xs = ts.map V.ref ∧ ks = ts.map (kOf H) ∧ ∀ t ∈ ts, H t = some (.tup ((kOf H t).map kV))
  | _, _, .nil => ⟨[], rfl, rfl, fun t h => nomatch h⟩
  | _, _, .cons ⟨t, e, h⟩ r => by
    obtain ⟨ts, e1, e2, e3⟩ := tks_addrs r
    refine ⟨t :: ts, by rw [e, e1]; rfl, by rw [e2, List.map_cons, kOf_eq h], fun u hu => ?_⟩
    rcases List.mem_cons.mp hu with rfl | hu
    · rw [kOf_eq h]
      exact h
    · exact e3 u hu
theorem tks_of {H : Hp} : ∀ {ts : List Addr}, (∀ t ∈ ts, H t = some (.tup ((kOf H t).map kV))) → Tks H (ts.map V.ref) (ts.map (kOf H))
  | [], _ => .nil
  | t :: ts, h => .cons ⟨t, rfl, h t (List.mem_cons_self ..)⟩ (tks_of fun u hu => h u (List.mem_cons_of_mem _ hu))
theorem items_key {shape : Nat → Bool} : ∀ {k : List Key} {us : List Value} {i : Nat}, Vals (k.map kV) us → (∀ j b, (shp k)[j]? = some b → shape (i + j) = b) → tupItems shape i us = some (kkey k)
  | [], us, i, r, h => by
    cases r
    rfl
  | .inl n :: k, us, i, r, h => by
    cases r with
    | cons h1 r =>
      obtain ⟨t, rfl⟩ := h1
      have h0 : shape i = false := h 0 false rfl
      have ih := items_key (i := i + 1) r fun j b e => by
        have := h (j + 1) b e
        rw [show i + 1 + j = i + (j + 1) by omega]
        exact this
      show (if shape i = true then none else _) = _
      rw [h0, if_neg Bool.false_ne_true, ih]
      rfl
  | .inr z :: k, us, i, r, h => by
    cases r with
    | cons h1 r =>
      obtain ⟨t, rfl⟩ := h1
      have h0 : shape i = true := h 0 true rfl
      have ih := items_key (i := i + 1) r fun j b e => by
        have := h (j + 1) b e
        rw [show i + 1 + j = i + (j + 1) by omega]
        exact this
      show (if shape i = true then _ else none) = _
      rw [h0, if_pos rfl, ih]
      rfl
def rSortTk (K : PySem.W.Frag) : List V → Hp → VK → Prop := fun vs H Q => ∃ (a : Addr) (xs : List V) (ks : List (List Key)) (sh : List Bool), vs = [.ref a] ∧ SqL K H a xs ∧ Tks H xs ks ∧ sh ≠ [] ∧ (∀ k ∈ ks, shp k = sh) ∧
  ∀ (ys : List V) (ms : List (List Key)) (p : Addr), ms.Perm ks → ms.Pairwise leK → Tks H ys ms → H p = none → Q (.ref p) (upd H p (.lst ys))
theorem shp_at {sh : List Bool} {k : List Key} (h : shp k = sh) : ∀ j b, (shp k)[j]? = some b → (fun i => sh.getD i true) (0 + j) = b := fun j b e => by
  rw [h] at e
  show sh.getD (0 + j) true = b
  rw [Nat.zero_add, List.getD_eq_getElem?_getD, e]
  rfl
theorem zip_refs : ∀ ts : List Addr, (ts.map Value.ref).zip (ts.map Value.ref) = ts.map fun t => (Value.ref t, Value.ref t)
  | [] => rfl
  | t :: r => by
    rw [List.map_cons, List.zip_cons_cons, List.map_cons, zip_refs r]
theorem perm_refs {ts : List Addr} {L : List (Value × Value)} (p : L.Perm ((ts.map Value.ref).zip (ts.map Value.ref))) : ∃ us : List Addr, L = us.map (fun t => (Value.ref t, Value.ref t)) ∧ us.Perm ts := by
  rw [zip_refs] at p
  let g : Value × Value → Addr := fun q => match q.1 with
    | .ref a => a
    | _ => 0
  refine ⟨L.map g, ?_, ?_⟩
  · rw [List.map_map]
    conv => lhs; rw [← List.map_id L]
    refine List.map_congr_left fun q hq => ?_
    obtain ⟨t, _, rfl⟩ := List.mem_map.mp (p.mem_iff.mp hq)
    rfl
  · have := p.map g
    rw [List.map_map] at this
    have e2 : ts.map (g ∘ fun t => (Value.ref t, Value.ref t)) = ts := by
      conv => rhs; rw [← List.map_id ts]
      exact List.map_congr_left fun t _ => rfl
    rw [e2] at this
    exact this
theorem cr_sortTk {X : Cx} : CallR X (.builtin "sorted") (rSortTk X.K) := by
  intro pins s σ H vs us Q I r h
  obtain ⟨a, xs, ks, sh, rfl, hs, ht, hne, hsh, q⟩ := h
  obtain ⟨its, rv, hl, hz⟩ := I.list hs
  rw [Vals.ref1 r]
  obtain ⟨ts, rfl, rfl, hts⟩ := tks_addrs ht
  have ei := refs_at rv
  subst ei
  rw [List.length_map] at hz
  have hk : ∀ t ∈ ts, ∃ us : List Value, Vals ((kOf H t).map kV) us ∧ IsTup s.heap t us.toArray := fun t h => by
    obtain ⟨us, h1, h2, _⟩ := I.tuple (SqT.of (hts t h))
    exact ⟨us, h1, h2⟩
  have key : ∀ t ∈ ts, G.tupKeyC s.heap (fun i => sh.getD i true) (.ref t) = some (kkey (kOf H t)) := fun t h => by
    obtain ⟨us, h1, o, e1, e2, n, e3⟩ := hk t h
    have e4 : tupItems (fun i => sh.getD i true) 0 us = some (kkey (kOf H t)) := items_key h1 (shp_at (hsh _ (List.mem_map.mpr ⟨t, h, rfl⟩)))
    simp only [G.tupKeyC, G.isTupObj, tupKey, e1, e2, e3]
    simpa using e4
  have tups : ∀ {l : List Addr}, (∀ t ∈ l, t ∈ ts) → ∃ fs, TupsOf s.heap (fun i => sh.getD i true) (l.map Value.ref) fs := fun {l} => by
    induction l with
    | nil => exact fun _ => ⟨[], .nil⟩
    | cons t r ih =>
      intro h
      obtain ⟨fs, hf⟩ := ih fun u hu => h u (List.mem_cons_of_mem _ hu)
      have ht := h t (List.mem_cons_self ..)
      have es := hsh _ (List.mem_map.mpr ⟨t, ht, rfl⟩)
      obtain ⟨us, h1, o, e1, e2, n, e3⟩ := hk t ht
      cases ek : kOf H t with
      | nil =>
        rw [ek] at es
        exact absurd es.symm hne
      | cons x k =>
        rw [ek] at es h1
        have ex : sh.getD 0 true = x.isRight := by rw [← es]; rfl
        cases h1 with
        | cons q r =>
          rename_i u w
          refine ⟨u :: fs, .cons ⟨t, o, _, n, rfl, e1, e2, e3, rfl, ?_, ?_⟩ hf⟩
          · intro z
            have z : sh.getD 0 true = false := z
            rw [ex] at z
            cases x with
            | inl i =>
              obtain ⟨tk, rfl⟩ := q
              exact ⟨_, _, rfl⟩
            | inr y => exact absurd z (by intro q; cases q)
          · intro z
            have z : sh.getD 0 true = true := z
            rw [ex] at z
            cases x with
            | inl i => exact absurd z (by intro q; cases q)
            | inr y =>
              obtain ⟨tk, rfl⟩ := q
              exact ⟨_, _, rfl⟩
  obtain ⟨fs, hf⟩ := tups (l := ts) fun t h => h
  refine G.sorted_tups hl.isList hf (fun v hv => ?_) (by rw [List.length_map]; exact hz) fun st' h1 h2 _ => ?_
  · obtain ⟨t, ht, rfl⟩ := List.mem_map.mp hv
    exact ⟨_, key t ht⟩
  · have h1' : (arrOf st').toList.Perm ((ts.map Value.ref).zip (ts.map Value.ref)) := by
      rw [← pairsOf_toList]
      exact Array.perm_iff_toList_perm.mp h1
    obtain ⟨us, eL, pU⟩ := perm_refs h1'
    obtain ⟨ep, he'⟩ := sortedAll_at s.heap (ts.map Value.ref) ((arrOf st').map (·.2))
    have hus : ∀ t ∈ us, t ∈ ts := fun t h => pU.mem_iff.mp h
    have eo : ((arrOf st').map (·.2)).toList = us.map Value.ref := by
      rw [Array.toList_map, eL, List.map_map]
      rfl
    have hlen : (us.map V.ref).length ≤ sizeLine := by
      rw [List.length_map, pU.length_eq]
      exact hz
    have rus : ∀ l : List Addr, Vals (l.map V.ref) (l.map Value.ref) := fun l => by
      induction l with
      | nil => exact .nil
      | cons t r ih => exact .cons rfl ih
    have nw : H (s.heap.objs.size + 1) = none := I.hok.fresh (Nat.le_succ _)
    refine ⟨.ref _, upd H (s.heap.objs.size + 1) (.lst (us.map V.ref)), I.laid (t' := s.toks) (fun _ _ => sortedAll_old) (Nat.le_succ _) ⟨hlen, ((arrOf st').map (·.2)).toList, ep, eo ▸ rus us, he'⟩, rfl, q (us.map V.ref) (us.map (kOf H)) _ (pU.map _) ?_ (tks_of fun t h => hts t (hus t h)) nw⟩
    · rw [List.pairwise_map, List.pairwise_iff_getElem]
      intro i j hi hj hij
      have sz : (pairsOf (ts.map Value.ref)).size = us.length := by
        rw [pairsOf_size, List.length_map, pU.length_eq]
      have h3 := h2 i j (Nat.le_of_lt hij) (by rw [sz]; exact hj)
      have kk : ∀ (n : Nat) (hn : n < us.length), KK (G.tupKindC s.heap fun i => sh.getD i true) (arrOf st') n = kkey (kOf H us[n]) := fun n hn => by
        unfold KK
        have e : (arrOf st')[n]? = some (Value.ref us[n], Value.ref us[n]) := by
          rw [← Array.getElem?_toList, eL, List.getElem?_map, List.getElem?_eq_getElem hn]
          rfl
        rw [e]
        show ((G.tupKeyC s.heap (fun i => sh.getD i true) (.ref us[n])).getD _) = _
        rw [key _ (hus _ (List.getElem_mem hn))]
        rfl
      rw [kk i hi, kk j hj] at h3
      exact h3
end KA
set_option Elab.async false
set_option linter.all false
set_option maxRecDepth 100000
set_option maxHeartbeats 4000000
namespace KA
open PySem PySem.Spec PyProof.Rows L2
/-! ### a dict comprehension whose keys are tuples -/
/-- the tuple at b becomes a key of the dict at D -/
theorem setT {X : Cx} {pins : List (Addr × Obj)} {σ : L2.St} {H : Hp} {s : Shared} {E : Value → Shared → Prop} {D b : Addr} {kvs : List (List Key × V)} {k : List Key} {v : V} {u r : Value} {Q : Unit → Shared → Prop}
    (hu : X.A.units + 1 < cLine) (J : Inv X pins σ H s) (eD : H D = some (.dT kvs)) (eb : H b = some (.tup (k.map kV))) (hz : kvs.length < sizeLine) (ru : RelV (.ref b) u) (rv : RelV v r)
    (go : ∀ s', Inv X pins σ (upd H D (.dT (putK kvs k v))) s' → Q () s') : wpAny (model X.prog X.w) X.A (dictSet D u r) Q E s := by
  cases (show u = Value.ref b from ru)
  obtain ⟨z, low, xs, rel, dd⟩ := dt_of J.hok eD
  have lx : xs.length ≤ sizeLine := by
    rw [← Pd.len rel]; exact z
  have lp : (putK kvs k v).length ≤ sizeLine := Nat.le_trans (length_putK kvs k v) hz
  refine wpAny_dictSet_heap (hsz := lx) (show X.A.units < cLine by omega) (key_of J.hok eb) dd fun h' dd' same => go _ ?_
  obtain ⟨o, es, ep, q1, q2, q3, q4, _, q5⟩ := dd'
  refine d_write J (by rw [eD]; exact True.intro) same ⟨o, q1⟩ ⟨lp, low, _, (rel.put k eb rv).keeps fun c ys ec => ?_, o, es, ep, q1, q2, q3, q4, q5⟩
  rw [upd_ne (ne_of ec eD (fun z => nomatch z))]
  exact ec
/-- {k: v for target in iter}, k a tuple; D the new dict -/
def tDcT (wi : TI) (g : TG) (tk tv : TE) (vs : List Nat) : TE := fun σ H Q => wi σ H fun J H1 => ∀ D, H1 D = none → ∃ W : Nat → Nat → Hp → Prop, (∃ m, W 0 m (upd H1 D (.dT []))) ∧ ∀ i m H, W i m H →
  (J.stop i H ∧ Q (.ref D) H) ∨ (J.go i H ∧ ∃ N : Hp → Prop, (∀ H', N H' → ∃ m', m' < m ∧ W (i + 1) m' H') ∧ ∀ x H', J.yld i H x H' → g x (wipe σ vs) H' fun σ2 H2 => wipe σ2 vs = wipe σ vs ∧
    tk σ2 H2 fun y H4 => tv σ2 H4 fun z H5 => ∃ kvs k b, y = .ref b ∧ H5 b = some (.tup (k.map kV)) ∧ H5 D = some (.dT kvs) ∧ kvs.length < sizeLine ∧ N (upd H5 D (.dT (putK kvs k z))))
/-- a block's state at its begin, its names, its iterator -/
theorem pe_dcT {X : Cx} {kx vx tg iter : Expr} {scope : Scope} {own : List (Str × Nat)} {pos : Pos} {wi : TI} {g : TG} {tk tv : TE} (hu : X.A.units + 1 < cLine) (calm : X.calm = true) (nd : X.N.Nodup) (hi : PI X tg iter wi) (bo : BlkOk X.N X.env.scope scope own)
    (hg : ∀ (s : Shared) (H : Hp) (C : Addr) (cl : List (Str × Addr)) (fp : List Addr), PG (X.blk s H scope (compEnvC scope cl C X.env) fp) tg g)
    (hk : ∀ (s : Shared) (H : Hp) (C : Addr) (cl : List (Str × Addr)) (fp : List Addr), PE (X.blk s H scope (compEnvC scope cl C X.env) fp) kx tk)
    (hv : ∀ (s : Shared) (H : Hp) (C : Addr) (cl : List (Str × Addr)) (fp : List Addr), PE (X.blk s H scope (compEnvC scope cl C X.env) fp) vx tv) (fs : ∀ x, foldedSetIterable iter X.env x = pure x := by intro _; rfl) :
    PE X (.DictComp kx vx [⟨tg, iter, [], 0⟩] scope pos) (tDcT wi g tk tv (own.map (·.2))) := by
  refine ⟨fun pins s0 σ H Q I0 want => ?_⟩
  rw [arm_eval_DictComp]
  have caught : ∀ y ∈ scope.names, y.2 = .free → ∃ c, X.env.cells.lookup y.1 = some c := fun y hy e => (bo.free y hy e).elim (fun q => I0.ok.has _ (.inl q)) (fun q => I0.ok.has _ (.inr q))
  refine wpAny_comprehension_free (use := none) rfl fs (closure_ok caught) bo.kind (fun y hy e => (bo.uniq y hy).trans (congrArg some e)) (thn (hi.run pins s0 σ H _ I0 want) fun _ s1 w1 => thn w1 fun _ s2 w2 => ?_)
  obtain ⟨it, fp, tn, J, Ha, rfl, Ia, Tu, t0, fa, rest⟩ := w2
  refine wpAny_newObj_type (newEnv_comp ?_)
  obtain ⟨D, hD⟩ : ∃ D, D = s2.heap.objs.size := ⟨_, rfl⟩
  have freeD : Ha D = none := Ia.hok.fresh (Nat.le_of_eq hD.symm)
  obtain ⟨W, ⟨m0, w0⟩, turn⟩ := rest D freeD
  obtain ⟨sb, hsb⟩ : ∃ sb : Shared, sb = { s2 with heap := s2.heap.push { cls := .type "dict", data := .dict #[] } } := ⟨_, rfl⟩
  have Ib : Inv X pins σ (upd Ha D (.dT [])) sb := by
    subst hsb hD
    exact Ia.laid (t' := s2.toks) (fun b o e => Heap.get?_push_of_some _ e) (Nat.le_refl _) (dt_empty s2.heap Ia.big)
  have hb : sb.heap = s2.heap.push { cls := .type "dict", data := .dict #[] } := congrArg (·.heap) hsb
  have fb : ∀ b ∈ fp, FpOk X pins (upd Ha D (.dT [])) b ∧ b < sb.heap.objs.size := fun b m => by
    obtain ⟨o, e, _⟩ := Tu.obj _ _ t0 b m
    have lt : b < s2.heap.objs.size := Heap.lt_size e
    refine ⟨⟨?_, (fa b m).2⟩, ?_⟩
    · rw [upd_ne (show b ≠ D by rw [hD]; exact Nat.ne_of_lt lt)]
      exact (fa b m).1
    · rw [hb, Heap.size_push]
      exact Nat.lt_succ_of_lt lt
  have t1 : tn 0 sb.heap := Tu.keep _ _ _ t0 fun b _ o e => by
    rw [hb]; exact Heap.get?_push_of_some _ e
  have Ic := block_start Ib bo nd fb
  obtain ⟨cl, hcl⟩ : ∃ cl, cl = cellsFrom (sb.heap.objs.size + 1) scope.names (cloFrom X.env.cells scope.names []) := ⟨_, rfl⟩
  obtain ⟨ce, hce⟩ : ∃ ce, ce = compEnvC scope cl sb.heap.objs.size X.env := ⟨_, rfl⟩
  obtain ⟨sc, hsc⟩ : ∃ sc : Shared, sc = { sb with heap := pushCells (sb.heap.push { cls := .type "dict", data := .dict #[] }) scope.names } := ⟨_, rfl⟩
  have pg := hg sb (upd Ha D (.dT [])) sb.heap.objs.size cl fp
  have pk := hk sb (upd Ha D (.dT [])) sb.heap.objs.size cl fp
  have pv := hv sb (upd Ha D (.dT [])) sb.heap.objs.size cl fp
  have t2 : tn 0 sc.heap := Tu.keep _ _ _ t1 fun b _ o e => by
    rw [hsc]; exact pushCells_keeps _ _ _ _ (Heap.get?_push_of_some _ e)
  rw [← hcl, ← hce, ← hsc] at Ic
  rw [← hce] at pg pk pv
  have loc : ce.locals = sb.heap.objs.size := by rw [hce]; rfl
  have own_fp : ∀ {σ' : L2.St} {H' : Hp} {s' : Shared}, Inv (X.blk sb (upd Ha D (.dT [])) scope ce fp) [] σ' H' s' → (∀ b ∈ fp, H' b = none) → ∀ b ∈ fp, FpOk (X.blk sb (upd Ha D (.dT [])) scope ce fp) [] H' b := fun I' hn b m =>
    ⟨hn b m, (I'.ok.exf b m).1, I'.ok.exfs b m, .inl m, fun x c e => (I'.ok.exf b m).2 x c e, fun p hp => nomatch (show p ∈ ([] : List (Addr × Obj)) from hp)⟩
  have loop : codeAny (model X.prog X.w) X.A (.compLoop (.DictComp kx vx [⟨tg, iter, [], 0⟩] scope pos) 0 (.ref it) (.ref D) ce) (compPost (model X.prog X.w) X.A X.xe none (EP X pins σ Q) (.ref D) sb.heap.objs.size) sc := by
    refine compLoop_anyD (fun n s' => ∃ i H', Inv (X.blk sb (upd Ha D (.dT [])) scope ce fp) [] (wipe σ (own.map (·.2))) H' s' ∧ tn i s'.heap ∧ (∀ b ∈ fp, H' b = none) ∧ W i n H') ?_ m0 ⟨0, _, Ic, t2, fun b m => (fb b m).1.1, w0⟩
    rintro n s5 ⟨i, H5, I5, t5, n5, w5⟩
    rcases turn i n H5 w5 with ⟨stop, fin⟩ | ⟨go, N, hN, step⟩
    · refine thnF (Tu.done (X.blk sb (upd Ha D (.dT [])) scope ce fp) rfl rfl rfl calm i [] s5 _ H5 (fun _ _ => False) I5 (own_fp I5 n5) t5 stop) fun r s6 w6 => ?_
      obtain ⟨rfl, I6⟩ := w6
      have I7 : Inv X pins σ H5 s6 := Ib.call' (ch := fp) I6.os I6.base I6.hok I6.bare fun b m => ⟨(fb b m).1.2.2.2.1, (fb b m).1.2.1, (fb b m).1.2.2.2.2.1, (fb b m).1.2.2.2.2.2⟩
      have nC : H5 sb.heap.objs.size = none := loc ▸ I6.free
      obtain ⟨m, hm, _⟩ := I6.loc
      have hm : s6.heap.Ns ce.locals m := hm
      rw [loc] at hm
      refine ⟨m, hm, fun h'' same => ?_⟩
      obtain ⟨f0, f1, _, f3, f4, f5⟩ := Ib.fpOk (Nat.le_refl _) nC
      exact ⟨.ref D, H5, I7.turned (t' := s6.toks) (fun b o q e => (same.2 b q).trans e) f0 f1 f3 f4 f5, rfl, fin⟩
    · refine thnF (Tu.item (X.blk sb (upd Ha D (.dT [])) scope ce fp) rfl rfl rfl calm i [] s5 _ H5 (fun _ _ => False) I5 (own_fp I5 n5) t5 go) fun r s6 w6 => ?_
      obtain ⟨u, rfl, w6⟩ := w6
      refine thnF w6 fun _ s7 w7 => ?_
      obtain ⟨x, H7, I7, r7, y7, t7, n7⟩ := w7
      refine thnF (pg.run _ s7 _ H7 x u _ (I7.pinned (own_fp I7 n7) (Tu.obj _ _ t7)) r7 (step x H7 y7)) fun _ s8 w8 => ?_
      obtain ⟨σ8, H8, I8, e8, q8⟩ := w8
      have next : ∀ {s' : Shared} {H' : Hp}, Inv (X.blk sb (upd Ha D (.dT [])) scope ce fp) ([] ++ pinsAt fp s7.heap) σ8 H' s' → N H' →
          ∃ m, m < n ∧ ∃ i H', Inv (X.blk sb (upd Ha D (.dT [])) scope ce fp) [] (wipe σ (own.map (·.2))) H' s' ∧ tn i s'.heap ∧ (∀ b ∈ fp, H' b = none) ∧ W i m H' := fun {s' H'} I' nx => by
        obtain ⟨m', lt, w'⟩ := hN H' nx
        have stays : ∀ b ∈ fp, ∀ o, s7.heap.get? b = some o → s'.heap.get? b = some o ∧ H' b = none := fun b m o e => by
          have z := I'.pin (b, o) (List.mem_append_right _ (List.mem_append_right _ (mem_pinsAt m e)))
          exact ⟨z.1, z.2.1⟩
        refine ⟨m', lt, i + 1, H', (I'.unpinned (pins := [])).weak (by rw [← e8, wipe_length]) (fun j v e => (wipe_some (e8 ▸ e)).1), Tu.keep _ _ _ t7 fun b m o e => (stays b m o e).1, fun b m => ?_, w'⟩
        obtain ⟨o, e, _⟩ := Tu.obj _ _ t7 b m
        exact (stays b m o e).2
      show wpAny _ _ (pure true) _ _ _
      refine wpAny_pure ?_
      show wpAny _ _ _ _ _ _
      refine thnF (pk.run _ s8 σ8 H8 _ I8 q8) fun z s10 w10 => ?_
      obtain ⟨yk, H10, I10, r10, q10⟩ := w10
      refine thnF (pv.run _ s10 σ8 H10 _ I10 q10) fun z2 s11 w11 => ?_
      obtain ⟨yv, H11, I11, r11, kvs, k, b, rfl, eb, eD, hz, nx⟩ := w11
      exact setT (X := X.blk sb (upd Ha D (.dT [])) scope ce fp) hu I11 eD eb hz r10 r11 fun s12 I12 => next I12 nx
  subst hce hcl hsc hsb hD
  exact codeAny_compStart_dict loop (Tu.self X.A 0 _ _ _ t2 loop)
end KA
set_option Elab.async false
set_option linter.all false
set_option maxRecDepth 100000
set_option maxHeartbeats 4000000
namespace KA
open PySem PySem.Spec PyProof.Rows L2
/-! ### further readings -/
theorem pi_or {X : Cx} {tg e : Expr} {a b : TI} (ha : PI X tg e a) (hb : PI X tg e b) : PI X tg e (fun σ H R => a σ H R ∨ b σ H R) :=
  ⟨fun pins s σ H R I h => h.elim (ha.run pins s σ H R I) (hb.run pins s σ H R I)⟩
section
variable {J : It} {n : Nat} {G : Hp → Prop} {Y : Nat → Hp → V → Hp → Prop}
/-- a dict comprehension over a walk -/
theorem dc_it (w : Walk J n G Y) {g : TG} {tt : TT} {tk tv : TE} {vs : List Nat} {σ : L2.St} {H1 : Hp} {D : Addr} {Qd : Hp → Prop} (Pv : Nat → Hp → Prop) (h0 : Pv 0 (upd H1 D (.dK []))) (hG : ∀ i H, i ≤ n → Pv i H → G H)
    (hs : ∀ i x H H', i < n → Pv i H → Y i H x H' → g x (wipe σ vs) H' fun σ2 H2 => wipe σ2 vs = wipe σ vs ∧ tt σ2 H2 fun b H3 =>
      if b = true then tk σ2 H3 fun y H4 => tv σ2 H4 fun z H5 => ∃ kvs k, y = kV k ∧ H5 D = some (.dK kvs) ∧ kvs.length < sizeLine ∧ Pv (i + 1) (upd H5 D (.dK (putK kvs k z))) else Pv (i + 1) H3) (hd : ∀ H, Pv n H → Qd H) :
    ∃ W : Nat → Nat → Hp → Prop, (∃ m, W 0 m (upd H1 D (.dK []))) ∧ ∀ i m H, W i m H →
      (J.stop i H ∧ Qd H) ∨ (J.go i H ∧ ∃ N : Hp → Prop, (∀ H', N H' → ∃ m', m' < m ∧ W (i + 1) m' H') ∧ ∀ x H', J.yld i H x H' → g x (wipe σ vs) H' fun σ2 H2 => wipe σ2 vs = wipe σ vs ∧ tt σ2 H2 fun b H3 =>
        if b = true then tk σ2 H3 fun y H4 => tv σ2 H4 fun z H5 => ∃ kvs k, y = kV k ∧ H5 D = some (.dK kvs) ∧ kvs.length < sizeLine ∧ N (upd H5 D (.dK (putK kvs k z))) else N H3) := by
  refine ⟨fun i m H => i + m = n ∧ Pv i H, ⟨n, Nat.zero_add n, h0⟩, fun i m H h => ?_⟩
  obtain ⟨e, p⟩ := h
  by_cases hi : i < n
  · exact .inr ⟨w.goes i H hi (hG i H (Nat.le_of_lt hi) p), Pv (i + 1), fun H' p' => ⟨m - 1, by omega, by omega, p'⟩, fun x H' y => hs i x H H' hi p (w.yields i H x H' hi (hG i H (Nat.le_of_lt hi) p) y)⟩
  · have ei : i = n := by omega
    subst ei
    exact .inl ⟨w.stops H (hG i H (Nat.le_refl _) p), hd H p⟩
theorem dcT_it (w : Walk J n G Y) {g : TG} {tk tv : TE} {vs : List Nat} {σ : L2.St} {H1 : Hp} {D : Addr} {Qd : Hp → Prop} (Pv : Nat → Hp → Prop) (h0 : Pv 0 (upd H1 D (.dT []))) (hG : ∀ i H, i ≤ n → Pv i H → G H)
    (hs : ∀ i x H H', i < n → Pv i H → Y i H x H' → g x (wipe σ vs) H' fun σ2 H2 => wipe σ2 vs = wipe σ vs ∧
      tk σ2 H2 fun y H4 => tv σ2 H4 fun z H5 => ∃ kvs k b, y = .ref b ∧ H5 b = some (.tup (k.map kV)) ∧ H5 D = some (.dT kvs) ∧ kvs.length < sizeLine ∧ Pv (i + 1) (upd H5 D (.dT (putK kvs k z)))) (hd : ∀ H, Pv n H → Qd H) :
    ∃ W : Nat → Nat → Hp → Prop, (∃ m, W 0 m (upd H1 D (.dT []))) ∧ ∀ i m H, W i m H →
      (J.stop i H ∧ Qd H) ∨ (J.go i H ∧ ∃ N : Hp → Prop, (∀ H', N H' → ∃ m', m' < m ∧ W (i + 1) m' H') ∧ ∀ x H', J.yld i H x H' → g x (wipe σ vs) H' fun σ2 H2 => wipe σ2 vs = wipe σ vs ∧
        tk σ2 H2 fun y H4 => tv σ2 H4 fun z H5 => ∃ kvs k b, y = .ref b ∧ H5 b = some (.tup (k.map kV)) ∧ H5 D = some (.dT kvs) ∧ kvs.length < sizeLine ∧ N (upd H5 D (.dT (putK kvs k z)))) := by
  refine ⟨fun i m H => i + m = n ∧ Pv i H, ⟨n, Nat.zero_add n, h0⟩, fun i m H h => ?_⟩
  obtain ⟨e, p⟩ := h
  by_cases hi : i < n
  · exact .inr ⟨w.goes i H hi (hG i H (Nat.le_of_lt hi) p), Pv (i + 1), fun H' p' => ⟨m - 1, by omega, by omega, p'⟩, fun x H' y => hs i x H H' hi p (w.yields i H x H' hi (hG i H (Nat.le_of_lt hi) p) y)⟩
  · have ei : i = n := by omega
    subst ei
    exact .inl ⟨w.stops H (hG i H (Nat.le_refl _) p), hd H p⟩
end
/-! ### a catalogue -/
theorem rp : ¬ (("ranges" : Str) = "pairs") := by decide +kernel
theorem pr : ¬ (("pairs" : Str) = "ranges") := by decide +kernel
abbrev catF (d p : Addr) : List (Str × V) := [("ranges", .ref d), ("pairs", .ref p)]
theorem catF_eq (d p : Addr) : putF "pairs" (.ref p) (putF "ranges" (.ref d) []) = catF d p := by
  show (if ("ranges" : Str) = "pairs" then _ else (("ranges" : Str), V.ref d) :: putF "pairs" (V.ref p) []) = _
  rw [if_neg rp]
  rfl
theorem catF_r (d p : Addr) : (catF d p).lookup ("ranges" : Str) = some (.ref d) := by
  rw [← catF_eq, lookup_putF, if_neg rp, lookup_putF, if_pos rfl]
theorem catF_p (d p : Addr) : (catF d p).lookup ("pairs" : Str) = some (.ref p) := by
  rw [← catF_eq, lookup_putF, if_pos rfl]
/-- the pairs of a dict from names -/
abbrev nkv (ns : List Str) (rv : Str → V) : List (Key × V) := ns.map fun z => (Sum.inr z, rv z)
/-- a range's tuple -/
def Rg (H : Hp) (v : V) : Prop := ∃ (t : Addr) (lo hi : Int), v = .ref t ∧ H t = some (.tup [.int lo, .int hi]) ∧ lo ≤ hi
theorem Rg.kt {H H' : Hp} (k : KT H H') {v : V} (h : Rg H v) : Rg H' v := by
  obtain ⟨t, lo, hi, e, h, l⟩ := h
  exact ⟨t, lo, hi, e, k _ _ h, l⟩
/-- what may be made a catalogue: names and ranges, wishes between them -/
structure Srt (ns : List Str) (ws : List (List Str)) : Prop where
  nd : ns.Nodup
  nm : ∀ z ∈ ns, IsNm z
  one : 1 ≤ ns.length
  six : ns.length ≤ 6
  prs : ∀ l ∈ ws, ∃ u v, l = [u, v] ∧ u ∈ ns ∧ v ∈ ns ∧ u ≠ v
  most : ws.length ≤ 20
/-- a Catalogue stands at x -/
structure Cat (C : Addr) (H : Hp) (x : Addr) (ns : List Str) (rv : Str → V) (ws : List (List Str)) : Prop where
  at_ : ∃ dx d p ys, H x = some (.ins C dx (catF d p)) ∧ H d = some (.dK (nkv ns rv)) ∧ H p = some (.tup ys) ∧ Txs H ys ws
  srt : sortedS ns = true
  ok : Srt ns ws
  rg : ∀ z ∈ ns, Rg H (rv z)
  up : ws.Pairwise fun a b => leK (a.map Sum.inr) (b.map Sum.inr)
  uniq : ws.Nodup
end KA
set_option Elab.async false
set_option linter.all false
set_option maxRecDepth 100000
set_option maxHeartbeats 4000000
namespace KA
open PySem PySem.Spec PyProof.Rows L2
/-! ### rows of texts in order -/
def leS (a b : Str) : Prop := PyProof.Rows.strKind.kle a.cps.toList b.cps.toList
theorem leS_trans {a b c : Str} (h1 : leS a b) (h2 : leS b c) : leS a c := KeyOrd.kle_trans (O := PyProof.Rows.strKind.toKeyOrd) (a := a.cps.toList) (b := b.cps.toList) (c := c.cps.toList) h1 h2
theorem leS_anti {a b : Str} (h1 : leS a b) (h2 : leS b a) : a = b := TL.ext_tl (KeyOrd.kle_antisymm (O := PyProof.Rows.strKind.toKeyOrd) (a := a.cps.toList) (b := b.cps.toList) h1 h2)
theorem ltCps_iff : ∀ a b : List Nat, ltCps a b = decide (a < b)
  | [], [] => by simp [ltCps]
  | [], _ :: _ => by simp [ltCps]
  | _ :: _, [] => by simp [ltCps]
  | x :: a, y :: b => by
    have ih := ltCps_iff a b
    simp only [ltCps, ih, List.cons_lt_cons_iff]
    by_cases h1 : x < y <;> by_cases h2 : x = y <;> simp [h1, h2]
theorem sortedS_up : ∀ {l : List Str}, sortedS l = true → l.Pairwise leS
  | [], _ => .nil
  | [x], _ => List.pairwise_singleton ..
  | x :: y :: r, h => by
    have h' : (!ltCps y.cps.toList x.cps.toList && risingS y r) = true := h
    rw [Bool.and_eq_true] at h'
    have h1 : leS x y := by
      have := h'.1
      rw [ltCps_iff] at this
      show decide (y.cps.toList < x.cps.toList) = false
      simpa using this
    have ih := sortedS_up (l := y :: r) h'.2
    refine List.pairwise_cons.mpr ⟨fun z hz => ?_, ih⟩
    rcases List.mem_cons.mp hz with rfl | hz
    · exact h1
    · exact leS_trans h1 ((List.pairwise_cons.mp ih).1 z hz)
theorem sortedS_one {l m : List Str} (p : l.Perm m) (h1 : sortedS l = true) (h2 : sortedS m = true) : l = m := sorted_one (fun _ _ => leS_anti) p (sortedS_up h1) (sortedS_up h2)
/-! ### dicts from names -/
theorem valV_nkv {ns : List Str} {rv : Str → V} {z : Str} (h : z ∈ ns) : valV (nkv ns rv) (Sum.inr z : Key) = some (rv z) := by
  induction ns with
  | nil => exact nomatch h
  | cons y r ih =>
    by_cases e : y = z
    · subst e
      exact valV_pos rfl
    · rw [nkv, List.map_cons, valV_neg (fun q => e (Sum.inr.inj q))]
      exact ih ((List.mem_cons.mp h).resolve_left fun q => e q.symm)
theorem valV_nkv_none {ns : List Str} {rv : Str → V} {z : Str} (h : z ∉ ns) : valV (nkv ns rv) (Sum.inr z : Key) = none := by
  induction ns with
  | nil => rfl
  | cons y r ih =>
    rw [nkv, List.map_cons, valV_neg (fun q => h (by rw [Sum.inr.inj q]; exact List.mem_cons_self ..))]
    exact ih fun q => h (List.mem_cons_of_mem _ q)
/-! ### wishes, each once -/
def addU (acc : List (List Str)) (l : List Str) : List (List Str) := if l ∈ acc then acc else acc ++ [l]
def uq (ws : List (List Str)) : List (List Str) := ws.foldl addU []
abbrev kt1 (l : List Str) : List Key × V := (l.map Sum.inr, .bl true)
theorem inr_inj : ∀ {l m : List Str}, (l.map Sum.inr : List Key) = m.map Sum.inr → l = m
  | [], [], _ => rfl
  | [], _ :: _, h => by simp at h
  | _ :: _, [], h => by simp at h
  | x :: l, y :: m, h => by
    rw [List.map_cons, List.map_cons] at h
    injection h with h1 h2
    rw [Sum.inr.inj h1, inr_inj h2]
theorem putK_kt (acc : List (List Str)) (l : List Str) : putK (acc.map kt1) (l.map Sum.inr) (.bl true) = (addU acc l).map kt1 := by
  unfold putK addU
  by_cases h : l ∈ acc
  · have : ((acc.map kt1).any fun kv => decide (kv.1 = l.map Sum.inr)) = true := by
      rw [List.any_eq_true]
      exact ⟨kt1 l, List.mem_map.mpr ⟨l, h, rfl⟩, decide_eq_true rfl⟩
    rw [if_pos this, if_pos h, List.map_map]
    refine List.map_congr_left fun m _ => ?_
    show (if (kt1 m).1 = l.map Sum.inr then ((kt1 m).1, V.bl true) else kt1 m) = kt1 m
    split <;> rfl
  · have : ¬ ((acc.map kt1).any fun kv => decide (kv.1 = l.map Sum.inr)) = true := fun q => by
      obtain ⟨kv, h1, h2⟩ := List.any_eq_true.mp q
      obtain ⟨m, hm, rfl⟩ := List.mem_map.mp h1
      exact h (inr_inj (of_decide_eq_true h2) ▸ hm)
    rw [if_neg this, if_neg h, List.map_append]
    rfl
theorem addU_mem {acc : List (List Str)} {l m : List Str} : m ∈ addU acc l ↔ m ∈ acc ∨ m = l := by
  unfold addU
  split
  · rename_i h
    exact ⟨.inl, fun q => q.elim id fun e => e ▸ h⟩
  · rw [List.mem_append, List.mem_singleton]
theorem addU_nd {acc : List (List Str)} {l : List Str} (h : acc.Nodup) : (addU acc l).Nodup := by
  unfold addU
  split
  · exact h
  · rename_i q
    exact List.nodup_append.mpr ⟨h, (List.pairwise_singleton ..), fun a ha b hb => by
      rw [List.mem_singleton.mp hb]
      exact fun e => q (e ▸ ha)⟩
theorem addU_len (acc : List (List Str)) (l : List Str) : (addU acc l).length ≤ acc.length + 1 := by
  unfold addU
  split
  · omega
  · rw [List.length_append]; exact Nat.le_refl _
theorem fold_mem : ∀ (ws acc : List (List Str)) (m : List Str), m ∈ ws.foldl addU acc ↔ m ∈ acc ∨ m ∈ ws
  | [], acc, m => by simp
  | l :: r, acc, m => by
    rw [List.foldl_cons, fold_mem r, addU_mem, List.mem_cons, or_assoc]
theorem fold_nd : ∀ (ws acc : List (List Str)), acc.Nodup → (ws.foldl addU acc).Nodup
  | [], acc, h => h
  | l :: r, acc, h => fold_nd r _ (addU_nd h)
theorem uq_mem {ws : List (List Str)} {m : List Str} : m ∈ uq ws ↔ m ∈ ws := by
  rw [uq, fold_mem]; simp
theorem uq_nd (ws : List (List Str)) : (uq ws).Nodup := fold_nd ws [] List.nodup_nil
theorem uq_len : ∀ (ws acc : List (List Str)), (ws.foldl addU acc).length ≤ acc.length + ws.length
  | [], acc => by simp
  | l :: r, acc => by
    have h1 := uq_len r (addU acc l)
    have h2 := addU_len acc l
    rw [List.foldl_cons, List.length_cons]
    omega
theorem uq_snoc (ws : List (List Str)) (l : List Str) : uq (ws ++ [l]) = addU (uq ws) l := by
  unfold uq
  rw [List.foldl_append]
  rfl
/-- a permutation of an image -/
theorem perm_inv {α β : Type} {f : α → β} (g : β → α) (gf : ∀ x, g (f x) = x) {l : List α} {m : List β} (p : m.Perm (l.map f)) : ∃ l' : List α, m = l'.map f ∧ l'.Perm l := by
  refine ⟨m.map g, ?_, ?_⟩
  · rw [List.map_map]
    conv => lhs; rw [← List.map_id m]
    refine List.map_congr_left fun y hy => ?_
    obtain ⟨x, _, rfl⟩ := List.mem_map.mp (p.mem_iff.mp hy)
    show f x = f (g (f x))
    rw [gf]
  · have := p.map g
    rw [List.map_map] at this
    have e : l.map (g ∘ f) = l := by
      conv => rhs; rw [← List.map_id l]
      exact List.map_congr_left fun x _ => gf x
    rwa [e] at this
def strOf : Key → Str
  | .inr z => z
  | .inl _ => ""
theorem strsOf_inr (l : List Str) : (l.map Sum.inr : List Key).map strOf = l := by
  rw [List.map_map]
  conv => rhs; rw [← List.map_id l]
  exact List.map_congr_left fun x _ => rfl
theorem inr_kV (l : List Str) : (l.map Sum.inr : List Key).map kV = l.map V.str := by
  rw [List.map_map]
  rfl
theorem Tk.tx {H : Hp} {v : V} {l : List Str} : Tk H v (l.map Sum.inr) ↔ Tx H v l := by
  unfold Tk Tx
  rw [inr_kV]
theorem Tks.txs {H : Hp} : ∀ {xs : List V} {ls : List (List Str)}, Tks H xs (ls.map fun l => l.map Sum.inr) → Txs H xs ls
  | _, [], h => by
    cases h
    exact .nil
  | _, l :: ls, h => by
    cases h with
    | cons h1 h2 => exact .cons (Tk.tx.mp h1) (Tks.txs h2)
theorem Txs.tks {H : Hp} : ∀ {xs : List V} {ls : List (List Str)}, Txs H xs ls → Tks H xs (ls.map fun l => l.map Sum.inr)
  | _, _, .nil => .nil
  | _, _, .cons h1 h2 => .cons (Tk.tx.mpr h1) (Txs.tks h2)
/-- the order of rows of texts -/
abbrev leT (a b : List Str) : Prop := leK (a.map Sum.inr) (b.map Sum.inr)
theorem leT_anti (a b : List Str) (h1 : leT a b) (h2 : leT b a) : a = b := inr_inj (leK_anti h1 h2)
end KA
set_option Elab.async false
set_option linter.all false
set_option maxRecDepth 100000
set_option maxHeartbeats 4000000
namespace KA
open PySem PySem.Spec PyProof.Rows L2
theorem sqT_ty {K : PySem.W.Frag} {H : Hp} {a : Addr} {xs : List V} (h : SqT K H a xs) : TyX K H (.ref a) (.type "tuple") := by
  rcases h with (h | ⟨o, h⟩) | ⟨o, its, n, h1, h2, _⟩
  · exact .base (.tup h)
  · exact .fTuple h
  · exact .kTuple h1 h2
theorem sqL_ty {K : PySem.W.Frag} {H : Hp} {a : Addr} {xs : List V} (h : SqL K H a xs) : TyX K H (.ref a) (.type "list") := by
  rcases h with (h | ⟨o, h⟩) | ⟨o, its, n, h1, h2, _⟩
  · exact .base (.lst h)
  · exact .base (.frz h)
  · exact .kList h1 h2
theorem Ch.seqT {K : PySem.W.Frag} {a b : Addr} {H H' : Hp} {xs : List V} (c : Ch a H H') (n : b ≠ a) (h : SqT K H b xs) : SqT K H' b xs := by
  rcases h with (h | ⟨o, h⟩) | h
  · exact .inl (.inl (c _ _ n h))
  · exact .inl (.inr ⟨o, c _ _ n h⟩)
  · exact .inr h
theorem sameT {K : PySem.W.Frag} {a : Addr} {H H' : Hp} {xs : List V} (c : Same H H') (h : SqT K H a xs) : SqT K H' a xs := by
  rcases h with (h | ⟨o, h⟩) | h
  · exact .inl (.inl (c _ _ h))
  · exact .inl (.inr ⟨o, c _ _ h⟩)
  · exact .inr h
theorem seq_pi {K : PySem.W.Frag} {i : Nat} {σ : L2.St} {H : Hp} {b : Addr} {xs : List V} {R : It → Hp → Prop} (hσ : σ[i]? = some (some (.ref b))) (h : SqL K H b xs ∨ SqT K H b xs)
    (k : ∀ (J : It) (G : Hp → Prop), Walk J xs.length G (YAt xs) → (∀ H', Same H H' → G H') → R J H) : iList K (tVar i) σ H R ∨ iTup K (tVar i) σ H R := by
  rcases h with h | h
  · exact .inl ⟨_, hσ, b, rfl, ⟨_, h⟩, k _ _ (walk_list (xs := xs)) fun H' s => s.seq h⟩
  · exact .inr ⟨_, hσ, b, rfl, ⟨_, h⟩, k _ _ (walk_tup (xs := xs)) fun H' s => sameT s h⟩
theorem unlock {H H3 : Hp} {d : Addr} {u : HO} {od : Obj} (h : H d = some u) (s : Same (upd H d (.frz od u)) H3) : Same H (upd H3 d u) := fun b o e => by
  by_cases q : b = d
  · subst q
    rw [upd_same, ← h]
    exact e
  · rw [upd_ne q]
    exact s b o (by rw [upd_ne q]; exact e)
theorem nkv_get {ns : List Str} {rv : Str → V} {i : Nat} {k : Key} {v : V} (h : (nkv ns rv)[i]? = some (k, v)) : ∃ z, ns[i]? = some z ∧ k = Sum.inr z ∧ v = rv z := by
  rw [nkv, List.getElem?_map] at h
  obtain ⟨z, hz, e⟩ := Option.map_eq_some_iff.mp h
  injection e with e1 e2
  exact ⟨z, hz, e1.symm, e2.symm⟩
theorem nkv_keys (ns : List Str) (rv : Str → V) : ((nkv ns rv).map fun kv => kV kv.1) = ns.map V.str := by
  rw [List.map_map]
  rfl
theorem shp_strs (l : List Str) : shp (l.map Sum.inr) = List.replicate l.length true := by
  induction l with
  | nil => rfl
  | cons z r ih =>
    show true :: shp (r.map Sum.inr) = _
    rw [ih]
    rfl
theorem keys_tks {H : Hp} : ∀ {ls : List (List Str)} {bs : List Addr}, IsKeys H (ls.map kt1) bs → Txs H (bs.map V.ref) ls
  | [], bs, h => by
    cases h
    exact .nil
  | l :: ls, bs, h => by
    cases h with
    | cons h1 h2 => exact .cons ⟨_, rfl, by rw [← inr_kV]; exact h1⟩ (keys_tks h2)
section
variable {P : Program} {w : World} {K : PySem.W.Frag} {mg : Str → Option Value} {base : Heap}
/-- a class with its __init__ -/
def Di (K : PySem.W.Frag) (mg : Str → Option Value) (x : Str) (C : Addr) (qual : Str) (st : Stmt) (ps : List Str) : Prop := ∃ (f : Addr) (fd : FuncData) (dvs : List V), FunD K "__init__" qual (defArgs st) (defBody st) (defScope st) dvs [] f fd ∧ Mk K C f ∧ mg x = some (.ref C) ∧ Binds K fd ps []
def Mkf (P : Program) (w : World) (K : PySem.W.Frag) (mg : Str → Option Value) (base : Heap) (x : Str) (C : Addr) (ps : List Str) (k : Nat) (sp : Sp) : Prop :=
  ∃ (f : Addr) (fd : FuncData), Mk K C f ∧ mg x = some (.ref C) ∧ Binds K fd ps [] ∧ FnOk P w K mg base CX0 k f fd ps sp
theorem Di.ok {x qual : Str} {C : Addr} {st : Stmt} {ps N : List Str} {k : Nat} {sp : Sp} (D : Di K mg x C qual st ps) (S : FnScope N ps (defScope st)) (len : ∀ vs H Q E, sp vs H Q E → vs.length = ps.length)
    (hbody : ∀ (f : Addr) (cdv : Value) (A : Around) (outer : List Env) (s : Shared) (H : Hp) (vs : List V) (Q : VK) (E : XK), Room k (A.deeper (envOfC qual (defScope st) s.heap.objs.size f cdv)) → sp vs H Q E →
      ∃ t, PSs (cxOf CX0 P w K mg base N qual (defScope st) f cdv A outer s H E).nox (defBody st) t ∧ t { nx := fun _ H' => Q .non H', rt := Q } (start N vs) H) : Mkf P w K mg base x C ps (k + 1) sp := by
  obtain ⟨f, fd, dvs, F, M, g, b⟩ := D
  refine ⟨f, fd, M, g, b, F.ok S len fun cdv A outer s H vs Q E hr h => ?_⟩
  obtain ⟨t, h1, h2⟩ := hbody f cdv A outer s H vs Q E hr h
  exact ⟨t, PSs.nox h1, h2⟩
theorem pe_mkf {X : Cx} {k : Nat} {x : Str} {C : Addr} {p pos : Pos} {e : Expr} {es : List Expr} {t : TA} {ps : List Str} {sp : Sp} (F : Mkf X.prog X.w X.K X.mg X.base x C ps k sp) (hr : Room (k + 1) X.A) (hg : Gl X x) (ha : PA X (e :: es) t)
    (hdb : (x == ("__debug__" : Str)) = false := by decide) (he : starEach (e :: es) X.env = (false, eval e X.env) :: starEach es X.env := by rfl) (hpl : (backTo pos (starEach es X.env)).any (·.1) = false := by rfl) :
    PE X (.Call (.Name x p) (e :: es) [] pos) (tMake C sp [] E0 t) := by
  obtain ⟨f, fd, M, g, b, ok⟩ := F
  exact pe_make M ok hr hg g b .nil pass0 ha hdb he hpl
/-! ### Catalogue(sorts, wishes) -/
abbrev nInit : List Str := ["self", "sorts", "wishes", "sort", "wish"]
theorem scInit : FnScope nInit ["self", "sorts", "wishes"] (defScope s_Catalogue_init) := ⟨rfl, rfl, rfl, by decide +kernel, rfl, by decide +kernel, by decide +kernel⟩
def spInit (K : PySem.W.Frag) (C : Addr) : Sp := fun vs H Q _ => ∃ (x dx d b : Addr) (ns : List Str) (rv : Str → V) (xs : List V) (ws : List (List Str)), vs = [.ref x, .ref d, .ref b] ∧ H x = some (.ins C dx []) ∧ H d = some (.dK (nkv ns rv)) ∧
  (SqL K H b xs ∨ SqT K H b xs) ∧ Txs H xs ws ∧ Srt ns ws ∧ (∀ z ∈ ns, Rg H (rv z)) ∧ ∀ H' ms ps, ms.Perm ns → ps.Perm (uq ws) → Cat C H' x ms rv ps → Ch x H H' → Q .non H'
structure CatT (K : PySem.W.Frag) (mg : Str → Option Value) (C : Addr) : Prop where
  cl : Cls K C
  nR : NoAttr K C "ranges"
  nP : NoAttr K C "pairs"
  sorts : ∃ t, mg "MOST_SORTS" = some (.int 6 t)
  wishes : ∃ t, mg "MOST_WISHES" = some (.int 20 t)
theorem ok_init {C : Addr} (D : Di K mg "Catalogue" C "Catalogue.__init__" s_Catalogue_init ["self", "sorts", "wishes"]) (GN : Fn P w K mg base "is_name" ["value"] 1 (spIsName K)) (GW : Fn P w K mg base "is_wish" ["value"] 2 spIsWish)
    (GR : Fn P w K mg base "is_range" ["value"] 2 spIsRange) (T : Fre mg) (Ct : CatT K mg C) : Mkf P w K mg base "Catalogue" C ["self", "sorts", "wishes"] 3 (spInit K C) := by
  obtain ⟨t1, g1⟩ := Ct.sorts
  obtain ⟨t2, g2⟩ := Ct.wishes
  refine D.ok scInit (fun vs H Q E h => ?_) (fun f cdv A outer s H vs Q E hr h => ?_)
  · obtain ⟨_, _, _, _, _, _, _, _, rfl, _⟩ := h
    rfl
  · obtain ⟨x, dx, d, b, ns, rv, xs, ws, rfl, hx, hd, hb, htx, sr, hrg, k⟩ := h
    have nd := scInit.nd
    have hu := hu_of hr
    have hr1 := hr.mono (show 1 ≤ 2 by decide)
    refine ⟨_, pss_cons (ps_if (PW.pt (pw_or (pt_not (pt_val (pe_callB call_isi (by rfl) T.isi (by decide +kernel) (pa_cons (pv 1) (pa_cons (pe_bltn (v := .ty "dict") (by rfl) T.dict (by decide +kernel) rfl) pa_nil)))))
        (pw_or1 (pt_not (pt_chain op_le op_le pe_int (pe_callB call_lenD (by rfl) T.len PySem.boot_len (pa_cons (pv 1) pa_nil)) (pe_glob (v := .int 6) (by rfl) g1 ⟨_, rfl⟩)))))) (pss_one ps_never) pss_nil)
      (pss_cons (ps_if (pt_not (pt_val (pe_callB (cr_all rfl) (by rfl) T.all (by decide +kernel) (pa_cons (pe_lock (pe_lc (own := [("sort", 3)]) (g := gName 3) (tt := tYes) rfl nd (pi_keys (pv 1))
          (blkOk_by (N := nInit) (sc := defScope s_Catalogue_init) (by decide +kernel)) (fun _ _ _ _ _ => pg_name (i := 3) nd rfl (Or.inl rfl)) (fun _ _ _ _ _ => pts_nil)
          (fun _ _ _ _ _ => pe_and (pe_fn GN hr1 (by rfl) (pa_cons (pv 3) pa_nil)) (pe_one (pe_fn GR hr (by rfl) (pa_cons (pe_dget hu (pv 1) (pv 3) (fun _ _ => rfl)) pa_nil)))))) pa_nil)))) (pss_one ps_never) pss_nil)
      (pss_cons (ps_if (PW.pt (pw_or (pt_not (pt_val (pe_callB call_isiT (by rfl) T.isi (by decide +kernel) (pa_cons (pv 2) (pa_cons (pe_tup (pa_cons (pe_bltn (v := .ty "list") (by rfl) T.list (by decide +kernel) rfl) (pa_cons (pe_bltn (v := .ty "tuple") (by rfl) T.tup (by decide +kernel) rfl) pa_nil))) pa_nil)))))
        (pw_or1 (pt_cmpR op_gt (pe_callB call_len (by rfl) T.len PySem.boot_len (pa_cons (pv 2) pa_nil)) (pe_glob (v := .int 20) (by rfl) g2 ⟨_, rfl⟩) (nomark _))))) (pss_one ps_never) pss_nil)
      (pss_cons (ps_if (pt_not (pt_val (pe_callB (cr_all rfl) (by rfl) T.all (by decide +kernel) (pa_cons (pe_lc (own := [("wish", 4)]) (g := gName 4) (tt := tYes) rfl nd (pi_or (pi_list (pv 2)) (pi_tup (pv 2)))
          (blkOk_by (N := nInit) (sc := defScope s_Catalogue_init) (by decide +kernel)) (fun _ _ _ _ _ => pg_name (i := 4) nd rfl (Or.inl rfl)) (fun _ _ _ _ _ => pts_nil)
          (fun _ _ _ _ _ => pe_and (pe_fn GW hr (by rfl) (pa_cons (pv 4) pa_nil)) (pe_and (pe_cmp (pc_din hu (pe_ix (r := rIxT K) ix_tup (pv 4) pe_int (fun _ _ => rfl)) (pv 1))) (pe_one (pe_cmp (pc_din hu (pe_ix (r := rIxT K) ix_tup (pv 4) pe_int (fun _ _ => rfl)) (pv 1))))))) pa_nil)))) (pss_one ps_never) pss_nil)
      (pss_cons (ps_fld (pv 0) (pe_dc (own := [("sort", 3)]) (g := gName 3) (tt := tYes) rfl nd (pi_list (pe_callB cr_sortedS (by rfl) T.sorted (by decide +kernel) (pa_cons (pe_callTy (call_listD rfl) (by rfl) T.list (by decide +kernel) (pa_cons (pv 1) pa_nil)) pa_nil)))
          (blkOk_by (N := nInit) (sc := defScope s_Catalogue_init) (by decide +kernel)) (fun _ _ _ _ _ => pg_name (i := 3) nd rfl (Or.inl rfl)) (fun _ _ _ _ _ => pts_nil) (fun _ _ _ _ _ => pv 3) (fun _ _ _ _ _ => pe_dget hu (pv 1) (pv 3) (fun _ _ => rfl))) rfl)
      (pss_one (ps_fld (pv 0) (pe_callTy call_tuple_of (by rfl) T.tup (by decide +kernel) (pa_cons (pe_callB cr_sortTk (by rfl) T.sorted (by decide +kernel) (pa_cons (pe_callTy (call_list_dT rfl) (by rfl) T.list (by decide +kernel) (pa_cons
          (pe_dcT (own := [("wish", 4)]) (g := gName 4) hu rfl nd (pi_or (pi_list (pv 2)) (pi_tup (pv 2))) (blkOk_by (N := nInit) (sc := defScope s_Catalogue_init) (by decide +kernel)) (fun _ _ _ _ _ => pg_name (i := 4) nd rfl (Or.inl rfl))
            (fun _ _ _ _ _ => pv 4) (fun _ _ _ _ _ => pe_bl)) pa_nil)) pa_nil)) pa_nil)) rfl)))))), ?_⟩
    have big : ∀ z : Str, IsNm z → z.length ≤ 1000 := fun z h => by have := h.most; omega
    have lk : (nkv ns rv).length = ns.length := by rw [List.length_map]
    have l1 : 1 ≤ ns.length := sr.one
    have l6 : ns.length ≤ 6 := sr.six
    -- sorts is a dict of so many
    refine ⟨_, rfl, _, _, _, _, true, rfl, .ty "dict", .base (.dK hd), kit_ty (by decide +kernel), true, rfl, iteF ?_⟩
    refine ⟨_, rfl, d, _, rfl, hd, _, _, rfl, rfl, true, congrArg V.bl (decide_eq_true (show (1 : Int) ≤ ((nkv ns rv).length : Int) by omega)), iteT ⟨_, _, rfl, rfl, true, congrArg V.bl (decide_eq_true (show ((nkv ns rv).length : Int) ≤ 6 by omega)), ?_⟩⟩
    refine iteF ?_
    -- names and ranges
    refine ⟨d, _, hd, trivial, fun od => ⟨_, rfl, d, od, rfl, .inl ⟨nkv ns rv, upd_same, fun L nL => ?_⟩⟩⟩
    have kt0 : KT H (upd H d (.frz od (.dK (nkv ns rv)))) := KT.upd fun ys e => by rw [hd] at e; cases e
    refine lc_it walk_keys (fun j H3 => H3 L = some (.lst (List.replicate j (V.bl true))) ∧ Same (upd H d (.frz od (.dK (nkv ns rv)))) H3) ⟨upd_same, same_new nL⟩ (fun j H3 _ h => h.2 _ _ upd_same) ?_ ?_
    · rintro j y H3 H3' hj ⟨h3, s3⟩ ⟨rfl, kk, v, hkv, rfl⟩
      obtain ⟨z, hz, rfl, rfl⟩ := nkv_get hkv
      have mz : z ∈ ns := List.mem_of_getElem? hz
      refine ⟨rfl, ?_⟩
      refine ⟨_, rfl, _, rfl, .inl ⟨z, rfl, big z (sr.nm z mz), fun H4 s4 => ⟨_, rfl, ?_⟩⟩⟩
      rw [(sr.nm z mz).b]
      refine iteT ?_
      obtain ⟨t, lo, hi, et, ht, hlh⟩ := (hrg z mz).kt (kt0.trans (KT.same (s3.trans s4)))
      have hd4 := (s3.trans s4) _ _ (upd_same (H := H) (a := d) (o := .frz od (.dK (nkv ns rv))))
      refine ⟨_, rfl, _, rfl, d, _, rfl, .inl ⟨_, _, .inr ⟨od, hd4⟩, rfl, (valV_nkv mz).symm⟩, t, lo, hi, (by rw [et]; rfl), ht, fun H5 s5 => ?_⟩
      rw [decide_eq_true hlh]
      refine ⟨_, (s4.trans s5) _ _ h3, ?_, ?_, updN (s3.trans (s4.trans s5)) nL⟩
      · rw [List.length_replicate]
        exact small1000 (by omega)
      · rw [upd_same]
        exact congrArg (fun l => some (HO.lst l)) (List.replicate_succ' ..).symm
    · rintro H3 ⟨h3, s3⟩
      refine ⟨s3 _ _ upd_same, ?_⟩
      have ndL : L ≠ d := fun e => by
        rw [e, upd_same] at nL
        cases nL
      have sA := unlock hd s3
      refine ⟨L, List.replicate (nkv ns rv).length true, rfl, SqL.of (by rw [upd_ne ndL, List.map_replicate]; exact h3), true, ?_, ?_⟩
      · congr 1
        rw [List.all_eq_true]
        exact fun b hb => (List.eq_of_mem_replicate hb)
      refine iteF ?_
      generalize hA : upd H3 d (.dK (nkv ns rv)) = HA at sA
      -- wishes is a list or a tuple of at most 20
      refine ⟨_, rfl, (by show 2 ≤ sizeLine; decide), fun tp ntp => ?_⟩
      have sB : Same H (upd HA tp (.tup [.ty "list", .ty "tuple"])) := sA.trans (same_new ntp)
      have hbB : SqL K (upd HA tp (.tup [.ty "list", .ty "tuple"])) b xs ∨ SqT K (upd HA tp (.tup [.ty "list", .ty "tuple"])) b xs := hb.imp sB.seq (sameT sB)
      have ty : ∃ t : String, TyX K (upd HA tp (.tup [.ty "list", .ty "tuple"])) (.ref b) (.type t) ∧ PySem.W.kitAny K (.type t) [.type "list", .type "tuple"] = some true := by
        rcases hbB with h | h
        · exact ⟨_, sqL_ty h, kitAny_cons (b := true) (kit_ty (by decide +kernel)) (fun q => nomatch q) (fun _ => rfl)⟩
        · exact ⟨_, sqT_ty h, kitAny_cons (b := false) (kit_ty (by decide +kernel)) (fun _ => kitAny_cons (b := true) (kit_ty (by decide +kernel)) (fun q => nomatch q) (fun _ => rfl)) (fun q => nomatch q)⟩
      obtain ⟨tyn, ty1, ty2⟩ := ty
      refine ⟨_, tp, _, _, _, true, rfl, upd_same, .cons (.ty "list") (.cons (.ty "tuple") .nil), ty1, ty2, true, rfl, iteF ?_⟩
      have lw : xs.length = ws.length := Pd.len htx
      have lw2 := sr.most
      refine ⟨_, rfl, _, xs.length, rfl, ?_, _, _, rfl, rfl, false, congrArg V.bl (decide_eq_false (show ¬ (20 : Int) < (xs.length : Int) by omega)), ?_⟩
      · rcases hbB with h | h
        · exact .inl ⟨_, h, rfl⟩
        · exact .inr ⟨_, h, rfl⟩
      refine iteF ?_
      generalize hB : upd HA tp (.tup [.ty "list", .ty "tuple"]) = HB at sB hbB
      -- each of them is a wish between the sorts
      refine seq_pi rfl hbB fun J G wk hG => fun M nM => ?_
      refine lc_it wk (fun j H3 => H3 M = some (.lst (List.replicate j (V.bl true))) ∧ Same HB H3) ⟨upd_same, same_new nM⟩ (fun j H3 _ h => hG H3 h.2) ?_ ?_
      · rintro j y H3 H3' hj ⟨h3, s3⟩ ⟨rfl, hy⟩
        obtain ⟨l, hl, htl⟩ := Pd.get htx hy
        obtain ⟨u, v, rfl, mu, mv, nuv⟩ := sr.prs l (List.mem_of_getElem? hl)
        have htl3 := htl.kt (KT.same (sB.trans s3))
        refine ⟨rfl, ?_⟩
        refine ⟨_, rfl, _, u, v, rfl, htl3, big u (sr.nm u mu), big v (sr.nm v mv), fun H4 s4 => ⟨_, rfl, ?_⟩⟩
        rw [(sr.nm u mu).b, (sr.nm v mv).b, decide_eq_true nuv]
        refine iteT ?_
        obtain ⟨t, rfl, ht⟩ := htl3.kt (KT.same s4)
        have hd4 := s4 _ _ (s3 _ _ (sB _ _ hd))
        refine ⟨_, rfl, t, _, _, .str u, rfl, rfl, SqT.of ht, rfl, _, rfl, d, _, rfl, DGet.k (k := Sum.inr u) hd4, true, ?_, ?_⟩
        · rw [valV_nkv mu]
          rfl
        refine iteT ?_
        refine ⟨_, rfl, t, _, _, .str v, rfl, rfl, SqT.of ht, rfl, _, rfl, d, _, rfl, DGet.k (k := Sum.inr v) hd4, ?_⟩
        rw [valV_nkv mv]
        refine ⟨_, s4 _ _ h3, ?_, ?_, updN (s3.trans s4) nM⟩
        · rw [List.length_replicate]
          exact small1000 (by omega)
        · rw [upd_same]
          exact congrArg (fun l => some (HO.lst l)) (List.replicate_succ' ..).symm
      · rintro H4 ⟨h4, s4⟩
        refine ⟨M, List.replicate xs.length true, rfl, SqL.of (by rw [List.map_replicate]; exact h4), true, ?_, ?_⟩
        · congr 1
          rw [List.all_eq_true]
          exact fun b hb => (List.eq_of_mem_replicate hb)
        refine iteF ?_
        have sC := sB.trans s4
        have hdC := sC _ _ hd
        -- self.ranges
        refine ⟨_, rfl, d, _, rfl, .inl hdC, fun l nl => ?_⟩
        have sD := sC.trans (same_new (o := .lst ((nkv ns rv).map fun kv => kV kv.1)) nl)
        refine ⟨l, ns, rfl, SqL.of (by rw [upd_same, nkv_keys]), by omega, fun ms q pm hs nq => ?_⟩
        have sE := sD.trans (same_new (o := .lst (ms.map V.str)) nq)
        refine ⟨q, rfl, ⟨_, SqL.of upd_same⟩, fun D nD => ?_⟩
        generalize hE : upd (upd H4 l (.lst ((nkv ns rv).map fun kv => kV kv.1))) q (.lst (ms.map V.str)) = HE at sE nD
        have hq : HE q = some (.lst (ms.map V.str)) := by rw [← hE]; exact upd_same
        have ndm : ms.Nodup := pm.nodup_iff.mpr sr.nd
        have lm : ms.length = ns.length := pm.length_eq
        refine dc_it (walk_list (K := K) (a := q) (xs := ms.map V.str)) (fun j H3 => H3 D = some (.dK (nkv (ms.take j) rv)) ∧ Same HE H3) ⟨upd_same, same_new nD⟩ (fun j H3 _ h => SqL.of (h.2 _ _ hq)) ?_ ?_
        · rintro j y H3 H3' hj ⟨h3, s3⟩ ⟨rfl, hy⟩
          rw [List.getElem?_map] at hy
          obtain ⟨z, hz, rfl⟩ := Option.map_eq_some_iff.mp hy
          have mz : z ∈ ns := pm.mem_iff.mp (List.mem_of_getElem? hz)
          have hd3 := s3 _ _ (sE _ _ hd)
          have nz : z ∉ ms.take j := fun q => by
            obtain ⟨i, hi, e⟩ := List.mem_iff_getElem.mp q
            rw [List.length_take] at hi
            rw [List.getElem_take] at e
            have hj' : j < ms.length := by rw [List.length_map] at hj; exact hj
            have e2 : ms[j] = z := Option.some.inj ((List.getElem?_eq_getElem hj').symm.trans hz)
            have := (List.getElem_inj (h₀ := by omega) (h₁ := hj') ndm).mp (e.trans e2.symm)
            omega
          refine ⟨rfl, ?_⟩
          refine ⟨_, rfl, _, rfl, _, rfl, d, _, rfl, (valV_nkv mz ▸ DGet.k (k := Sum.inr z) hd3 : DGet H3' d (.str z) (some (rv z))), nkv (ms.take j) rv, Sum.inr z, rfl, h3, ?_, ?_, updN s3 nD⟩
          · rw [List.length_map, List.length_take]
            exact small1000 (by omega)
          · rw [upd_same, putK_new _ (valV_nkv_none nz), take_succ_of hz, nkv, nkv, List.map_append]
            rfl
        · rintro H5 ⟨h5, s5⟩
          have sF := sE.trans s5
          rw [List.length_map, List.take_length] at h5
          have hx5 := sF _ _ hx
          refine ⟨_, rfl, x, C, dx, [], rfl, hx5, Ct.cl, Ct.nR, (by show 0 < 1000; decide), ?_⟩
          generalize hF : upd H5 x (.ins C dx (putF "ranges" (.ref D) [])) = HF
          have nbx : ∀ c o, H c = some o → (∀ C' dx' fs, o ≠ .ins C' dx' fs) → HF c = some o := fun c o e no => by
            rw [← hF, upd_ne (ne_of e hx (no _ _ _))]
            exact sF _ _ e
          have ktF : KT H HF := fun t ys e => nbx t _ e (fun _ _ _ q => by cases q)
          have hbF : SqL K HF b xs ∨ SqT K HF b xs := by
            rcases hb with ((h | ⟨o, h⟩) | h) | ((h | ⟨o, h⟩) | h)
            · exact .inl (.inl (.inl (nbx _ _ h (fun _ _ _ q => by cases q))))
            · exact .inl (.inl (.inr ⟨o, nbx _ _ h (fun _ _ _ q => by cases q)⟩))
            · exact .inl (.inr h)
            · exact .inr (.inl (.inl (nbx _ _ h (fun _ _ _ q => by cases q))))
            · exact .inr (.inl (.inr ⟨o, nbx _ _ h (fun _ _ _ q => by cases q)⟩))
            · exact .inr (.inr h)
          have nxD : x ≠ D := ne_of_none (sE _ _ hx) nD
          have hDF : HF D = some (.dK (nkv ms rv)) := by
            rw [← hF, upd_ne nxD.symm]
            exact h5
          have hxF : HF x = some (.ins C dx (putF "ranges" (.ref D) [])) := by
            rw [← hF]
            exact upd_same
          have chF : Ch x H HF := fun c o n e => by
            rw [← hF, upd_ne n]
            exact sF _ _ e
          -- self.pairs
          refine seq_pi rfl hbF fun J G wk hG => fun D2 nD2 => ?_
          refine dcT_it wk (fun j H3 => H3 D2 = some (.dT ((uq (ws.take j)).map kt1)) ∧ Same HF H3) ⟨upd_same, same_new nD2⟩ (fun j H3 _ h => hG H3 h.2) ?_ ?_
          · rintro j y H3 H3' hj ⟨h3, s3⟩ ⟨rfl, hy⟩
            obtain ⟨l, hl, htl⟩ := Pd.get htx hy
            obtain ⟨t, rfl, ht⟩ := htl.kt (ktF.trans (KT.same s3))
            have hul := uq_len (ws.take j) []
            rw [List.length_take] at hul
            refine ⟨rfl, _, rfl, _, l.map Sum.inr, t, rfl, (by rw [inr_kV]; exact ht), h3, ?_, ?_, updN s3 nD2⟩
            · rw [List.length_map]
              exact small1000 (by show (uq (ws.take j)).length ≤ 1000; unfold uq; simp at hul; omega)
            · rw [upd_same, putK_kt, take_succ_of hl, uq_snoc]
          · rintro H6 ⟨h6, s6⟩
            rw [Pd.len htx, List.take_length] at h6
            refine ⟨D2, _, rfl, .inl h6, fun l2 bs nl2 hk => ?_⟩
            have s7 := s6.trans (same_new (o := .lst (bs.map V.ref)) nl2)
            have ht7 : Txs (upd H6 l2 (.lst (bs.map V.ref))) (bs.map V.ref) (uq ws) := (keys_tks hk).kt (KT.same (same_new nl2))
            refine ⟨l2, bs.map V.ref, (uq ws).map (fun l => l.map Sum.inr), [true, true], rfl, SqL.of upd_same, ht7.tks, by simp, ?_, fun ys mk q2 pk up tk nq2 => ?_⟩
            · intro k hk
              obtain ⟨l, hl, rfl⟩ := List.mem_map.mp hk
              obtain ⟨u, v, rfl, _⟩ := sr.prs l (uq_mem.mp hl)
              rfl
            obtain ⟨ps, rfl, pp⟩ := perm_inv (fun k => k.map strOf) (fun l => strsOf_inr l) pk
            have s8 := s7.trans (same_new (o := .lst ys) nq2)
            have ht8 : Txs (upd (upd H6 l2 (.lst (bs.map V.ref))) q2 (.lst ys)) ys ps := (Tks.txs tk).kt (KT.same (same_new nq2))
            refine ⟨q2, ys, rfl, .inl ⟨SqL.of upd_same, fun p np => ?_⟩⟩
            generalize hG8 : upd (upd H6 l2 (.lst (bs.map V.ref))) q2 (.lst ys) = H8 at s8 ht8 np
            have s9 := s8.trans (same_new (o := .tup ys) np)
            have hx9 := s9 _ _ hxF
            have nxp : x ≠ p := ne_of_none (s8 _ _ hxF) np
            refine ⟨_, rfl, x, C, dx, _, rfl, hx9, Ct.cl, Ct.nP, (by show 1 < 1000; decide), ?_⟩
            have kt9 : KT (upd H8 p (.tup ys)) (upd (upd H8 p (.tup ys)) x (.ins C dx (putF "pairs" (.ref p) (putF "ranges" (.ref D) [])))) := KT.upd fun zs e => by rw [hx9] at e; cases e
            refine k _ ms ps pm pp ⟨⟨dx, D, p, ys, ?_, ?_, ?_, ?_⟩, hs, ⟨ndm, fun z h => sr.nm z (pm.mem_iff.mp h), by omega, by omega, fun l h => ?_, ?_⟩, fun z h => ?_, ?_, pp.nodup_iff.mpr (uq_nd ws)⟩ ?_
            · rw [catF_eq]
              exact upd_same
            · rw [upd_ne nxD.symm]
              exact s9 _ _ hDF
            · rw [upd_ne nxp.symm]
              exact upd_same
            · exact ht8.kt ((KT.same (same_new np)).trans kt9)
            · obtain ⟨u, v, e, mu, mv, n⟩ := sr.prs l (uq_mem.mp (pp.mem_iff.mp h))
              exact ⟨u, v, e, pm.mem_iff.mpr mu, pm.mem_iff.mpr mv, n⟩
            · have := uq_len ws []
              rw [pp.length_eq]
              show (ws.foldl addU []).length ≤ 20
              simp at this
              omega
            · exact (hrg z (pm.mem_iff.mp h)).kt ((ktF.trans (KT.same s9)).trans kt9)
            · rw [List.pairwise_map] at up
              exact up
            · exact fun c o n e => by
                rw [upd_ne n]
                exact s9 _ _ (chF c o n e)
end
end KA
set_option Elab.async false
set_option linter.all false
set_option maxRecDepth 100000
set_option maxHeartbeats 4000000
namespace KA
open PySem
/-! ### a shortest way back: what way_back computes -/
theorem nd_sub_len {α : Type} [DecidableEq α] : ∀ {l m : List α}, l.Nodup → (∀ x ∈ l, x ∈ m) → l.length ≤ m.length
  | [], _, _, _ => Nat.zero_le _
  | x :: l, m, h, s => by
    obtain ⟨h1, h2⟩ := List.nodup_cons.mp h
    have mx := s x (List.mem_cons_self ..)
    have ih := nd_sub_len (m := m.erase x) h2 fun y hy => (List.mem_erase_of_ne (show y ≠ x from fun e => h1 (e ▸ hy))).mpr (s y (List.mem_cons_of_mem _ hy))
    have := List.length_erase_of_mem mx
    have lp : 0 < m.length := List.length_pos_of_mem mx
    rw [List.length_cons]
    omega
section
variable (ws : List (List Str))
/-- a step from the last of w to n -/
def stp (w : List Str) (n : Str) : Bool := match w.getLast? with
  | some l => decide ([l, n] ∈ ws)
  | none => false
abbrev BSt := List Str × List (List Str)
def tName (s : Str) (w : List Str) (st : BSt) (n : Str) : BSt := if stp ws w n = true ∧ n ∉ st.1 ∧ n ≠ s then (st.1 ++ [n], st.2 ++ [w ++ [n]]) else st
def lay (ns : List Str) (s : Str) : List (List Str) → BSt → Sum (List Str) BSt
  | [], st => .inr st
  | w :: r, st => if stp ws w s = true then .inl w else lay ns s r (ns.foldl (tName ws s w) st)
def bfs (ns : List Str) (s : Str) : Nat → List (List Str) → List Str → Option (List Str)
  | 0, _, _ => none
  | _ + 1, [], _ => none
  | n + 1, w :: r, met => match lay ws ns s (w :: r) (met, []) with
    | .inl v => some v
    | .inr st => bfs ns s n st.2 st.1
def wayBack (ns : List Str) (s : Str) : Option (List Str) := bfs ws ns s (ns.length + 1) [[s]] []
/-- what holds of a state within a layer whose ways have B names -/
structure StOk (ns : List Str) (s : Str) (B : Nat) (met0 : List Str) (st : BSt) : Prop where
  nd : st.1.Nodup
  sub : ∀ x ∈ st.1, x ∈ ns
  nos : ∀ x ∈ st.1, x ≠ s
  fit : met0.length + st.2.length ≤ st.1.length
  len : ∀ w ∈ st.2, w.length = B + 1
  mem : ∀ w ∈ st.2, ∀ x ∈ w, x ∈ ns
  grow : ∀ x ∈ met0, x ∈ st.1
theorem StOk.name {ws : List (List Str)} {ns : List Str} {s : Str} {B : Nat} {met0 : List Str} {st : BSt} {w : List Str} {n : Str} (h : StOk ns s B met0 st) (hw : w.length = B) (hm : ∀ x ∈ w, x ∈ ns) (hn : n ∈ ns) : StOk ns s B met0 (tName ws s w st n) := by
  unfold tName
  split
  · rename_i c
    refine ⟨?_, ?_, ?_, ?_, ?_, ?_, ?_⟩
    · exact List.nodup_append.mpr ⟨h.nd, List.pairwise_singleton .., fun a ha b hb => by
        rw [List.mem_singleton.mp hb]
        exact fun e => c.2.1 (e ▸ ha)⟩
    · intro x hx
      rcases List.mem_append.mp hx with q | q
      · exact h.sub x q
      · rw [List.mem_singleton.mp q]; exact hn
    · intro x hx
      rcases List.mem_append.mp hx with q | q
      · exact h.nos x q
      · rw [List.mem_singleton.mp q]; exact c.2.2
    · have := h.fit
      simp only [List.length_append, List.length_singleton]
      omega
    · intro v hv
      rcases List.mem_append.mp hv with q | q
      · exact h.len v q
      · rw [List.mem_singleton.mp q, List.length_append, hw]; rfl
    · intro v hv x hx
      rcases List.mem_append.mp hv with q | q
      · exact h.mem v q x hx
      · rw [List.mem_singleton.mp q] at hx
        rcases List.mem_append.mp hx with q | q
        · exact hm x q
        · rw [List.mem_singleton.mp q]; exact hn
    · exact fun x hx => List.mem_append_left _ (h.grow x hx)
  · exact h
theorem StOk.fold {ws : List (List Str)} {ns : List Str} {s : Str} {B : Nat} {met0 : List Str} {w : List Str} (hw : w.length = B) (hm : ∀ x ∈ w, x ∈ ns) : ∀ {us : List Str} {st : BSt}, (∀ x ∈ us, x ∈ ns) → StOk ns s B met0 st → StOk ns s B met0 (us.foldl (tName ws s w) st)
  | [], _, _, h => h
  | u :: us, _, hu, h => StOk.fold (us := us) hw hm (fun x hx => hu x (List.mem_cons_of_mem _ hx)) (h.name hw hm (hu u (List.mem_cons_self ..)))
theorem StOk.lay {ws : List (List Str)} {ns : List Str} {s : Str} {B : Nat} {met0 : List Str} : ∀ {ls : List (List Str)} {st st' : BSt}, (∀ w ∈ ls, w.length = B ∧ ∀ x ∈ w, x ∈ ns) → StOk ns s B met0 st → KA.lay ws ns s ls st = .inr st' → StOk ns s B met0 st'
  | [], st, st', _, h, e => by
    have : st = st' := by simpa [KA.lay] using e
    exact this ▸ h
  | w :: r, st, st', hl, h, e => by
    unfold KA.lay at e
    split at e
    · cases e
    · obtain ⟨h1, h2⟩ := hl w (List.mem_cons_self ..)
      exact StOk.lay (fun v hv => hl v (List.mem_cons_of_mem _ hv)) (StOk.fold h1 h2 (fun _ hx => hx) h) e
/-! ### what the ways are -/
/-- a way of unlike names from s, by steps -/
structure Way (ns : List Str) (s : Str) (w : List Str) : Prop where
  hd : w.head? = some s
  nd : w.Nodup
  chain : ∀ (i : Nat) (x y : Str), w[i]? = some x → w[i + 1]? = some y → [x, y] ∈ ws
  mem : ∀ x ∈ w, x ∈ ns
/-- x can be reached from s by k steps -/
inductive Rch (s : Str) : Nat → Str → Prop
  | z : Rch s 0 s
  | s {k x y} : Rch s k x → [x, y] ∈ ws → Rch s (k + 1) y
end
section
variable {ws : List (List Str)} {ns : List Str} {s : Str}
theorem stp_iff {w : List Str} {n l : Str} (h : w.getLast? = some l) : stp ws w n = true ↔ [l, n] ∈ ws := by
  unfold stp
  rw [h]
  simp
theorem stp_last {w : List Str} {n : Str} (h : stp ws w n = true) : ∃ l, w.getLast? = some l ∧ [l, n] ∈ ws := by
  unfold stp at h
  split at h
  · rename_i l e
    exact ⟨l, e, by simpa using h⟩
  · cases h
/-- what a row of names does with a state -/
structure Went (ns : List Str) (s : Str) (ls : List (List Str)) (us : List Str) (st st' : BSt) : Prop where
  keep : ∀ x ∈ st.1, x ∈ st'.1
  all : ∀ w ∈ ls, ∀ n ∈ us, stp ws w n = true → n ≠ s → n ∈ st'.1
  from_ : ∀ v ∈ st'.2, v ∈ st.2 ∨ ∃ w ∈ ls, ∃ n ∈ us, v = w ++ [n] ∧ stp ws w n = true ∧ n ∉ st.1 ∧ n ≠ s ∧ n ∈ st'.1
  last : ∀ n ∈ st'.1, n ∈ st.1 ∨ ∃ v ∈ st'.2, v.getLast? = some n
  keep2 : ∀ v ∈ st.2, v ∈ st'.2
theorem went_fold (w : List Str) : ∀ (us : List Str) (st : BSt), Went (ws := ws) ns s [w] us st (us.foldl (tName ws s w) st)
  | [], st => ⟨fun _ h => h, (fun _ _ _ h => nomatch h), fun v h => .inl h, fun n h => .inl h, fun _ h => h⟩
  | u :: us, st => by
    have ih := went_fold w us (tName ws s w st u)
    have one : Went (ws := ws) ns s [w] [u] st (tName ws s w st u) := by
      unfold tName
      split
      · rename_i c
        refine ⟨fun x h => List.mem_append_left _ h, fun v hv n hn h1 h2 => List.mem_append_right _ hn, fun v hv => ?_, fun n hn => ?_, fun v h => List.mem_append_left _ h⟩
        · rcases List.mem_append.mp hv with q | q
          · exact .inl q
          · exact .inr ⟨w, List.mem_singleton.mpr rfl, u, List.mem_singleton.mpr rfl, List.mem_singleton.mp q, c.1, c.2.1, c.2.2, List.mem_append_right _ (List.mem_singleton.mpr rfl)⟩
        · rcases List.mem_append.mp hn with q | q
          · exact .inl q
          · refine .inr ⟨w ++ [u], List.mem_append_right _ (List.mem_singleton.mpr rfl), ?_⟩
            rw [List.mem_singleton.mp q]
            simp
      · rename_i c
        refine ⟨fun _ h => h, fun v hv n hn h1 h2 => ?_, fun v h => .inl h, fun n h => .inl h, fun _ h => h⟩
        rw [List.mem_singleton.mp hn] at h1 h2 ⊢
        rw [List.mem_singleton.mp hv] at h1
        by_cases q : u ∈ st.1
        · exact q
        · exact absurd ⟨h1, q, h2⟩ c
    refine ⟨fun x h => ih.keep x (one.keep x h), fun v hv n hn h1 h2 => ?_, fun v hv => ?_, fun n hn => ?_, fun v h => ih.keep2 v (one.keep2 v h)⟩
    · rcases List.mem_cons.mp hn with q | q
      · exact ih.keep n (one.all v hv n (List.mem_singleton.mpr q) h1 h2)
      · exact ih.all v hv n q h1 h2
    · rcases ih.from_ v hv with q | ⟨x, hx, n, hn, e, h1, h2, h3, h4⟩
      · rcases one.from_ v q with q | ⟨x, hx, n, hn, e, h1, h2, h3, h4⟩
        · exact .inl q
        · exact .inr ⟨x, hx, n, List.mem_cons.mpr (.inl (List.mem_singleton.mp hn)), e, h1, h2, h3, ih.keep n h4⟩
      · exact .inr ⟨x, hx, n, List.mem_cons_of_mem _ hn, e, h1, fun z => h2 (one.keep n z), h3, h4⟩
    · rcases ih.last n hn with q | q
      · rcases one.last n q with q | ⟨v, hv, e⟩
        · exact .inl q
        · exact .inr ⟨v, ih.keep2 v hv, e⟩
      · exact .inr q
theorem went_lay : ∀ (ls : List (List Str)) (st st' : BSt), lay ws ns s ls st = .inr st' → Went (ws := ws) ns s ls ns st st' ∧ ∀ w ∈ ls, stp ws w s = false
  | [], st, st', e => by
    have : st = st' := by simpa [lay] using e
    subst this
    exact ⟨⟨fun _ h => h, (fun _ h => nomatch h), fun v h => .inl h, fun n h => .inl h, fun _ h => h⟩, fun _ h => nomatch h⟩
  | w :: r, st, st', e => by
    unfold lay at e
    split at e
    · cases e
    · rename_i c
      have one := went_fold (ws := ws) (ns := ns) (s := s) w ns st
      obtain ⟨ih, hs⟩ := went_lay r _ st' e
      refine ⟨⟨fun x h => ih.keep x (one.keep x h), fun v hv n hn h1 h2 => ?_, fun v hv => ?_, fun n hn => ?_, fun v h => ih.keep2 v (one.keep2 v h)⟩, fun v hv => ?_⟩
      · rcases List.mem_cons.mp hv with q | q
        · exact ih.keep n (one.all v (List.mem_singleton.mpr q) n hn h1 h2)
        · exact ih.all v q n hn h1 h2
      · rcases ih.from_ v hv with q | ⟨x, hx, n, hn, e, h1, h2, h3, h4⟩
        · rcases one.from_ v q with q | ⟨x, hx, n, hn, e, h1, h2, h3, h4⟩
          · exact .inl q
          · exact .inr ⟨x, List.mem_cons.mpr (.inl (List.mem_singleton.mp hx)), n, hn, e, h1, h2, h3, ih.keep n h4⟩
        · exact .inr ⟨x, List.mem_cons_of_mem _ hx, n, hn, e, h1, fun z => h2 (one.keep n z), h3, h4⟩
      · rcases ih.last n hn with q | q
        · rcases one.last n q with q | ⟨v, hv, e⟩
          · exact .inl q
          · exact .inr ⟨v, ih.keep2 v hv, e⟩
        · exact .inr q
      · rcases List.mem_cons.mp hv with q | q
        · rw [q]
          simpa using c
        · exact hs v q
theorem lay_found : ∀ (ls : List (List Str)) (st : BSt) (w : List Str), lay ws ns s ls st = .inl w → w ∈ ls ∧ stp ws w s = true
  | [], st, w, e => by simp [lay] at e
  | v :: r, st, w, e => by
    unfold lay at e
    split at e
    · rename_i c
      have : v = w := by simpa using e
      subst this
      exact ⟨List.mem_cons_self .., c⟩
    · obtain ⟨h1, h2⟩ := lay_found r _ w e
      exact ⟨List.mem_cons_of_mem _ h1, h2⟩
theorem filter_less {α : Type} {p q : α → Bool} (h : ∀ x, p x = true → q x = true) {x : α} : ∀ {l : List α}, x ∈ l → q x = true → p x = false → (l.filter p).length < (l.filter q).length
  | [], hx, _, _ => nomatch hx
  | y :: l, hx, h1, h2 => by
    have le : ∀ l : List α, (l.filter p).length ≤ (l.filter q).length := fun l => by
      induction l with
      | nil => exact Nat.le_refl _
      | cons z r ih =>
        rw [List.filter_cons, List.filter_cons]
        cases e : p z with
        | true => rw [h z e]; simpa using ih
        | false =>
          cases q z with
          | true => simp; omega
          | false => simpa using ih
    rw [List.filter_cons, List.filter_cons]
    rcases List.mem_cons.mp hx with e | hx
    · subst e
      rw [h1, h2]
      have := le l
      simp
      omega
    · have ih := filter_less h hx h1 h2
      cases e : p y with
      | true => rw [h y e]; simpa using ih
      | false =>
        cases q y with
        | true => simp; omega
        | false => simpa using ih
/-- x leads to nothing new, and not to s -/
def Exp (ws : List (List Str)) (s : Str) (met : List Str) (x : Str) : Prop := [x, s] ∉ ws ∧ ∀ y, [x, y] ∈ ws → y ∈ met
structure Lv (ws : List (List Str)) (ns : List Str) (s : Str) (d : Nat) (ls : List (List Str)) (met : List Str) : Prop where
  one : 1 ≤ d
  way : ∀ w ∈ ls, Way ws ns s w ∧ w.length = d
  nos : ∀ x ∈ met, x ≠ s
  inn : ∀ w ∈ ls, ∀ x ∈ w, x = s ∨ x ∈ met
  A : ∀ k x, k + 1 ≤ d → Rch ws s k x → x = s ∨ x ∈ met
  D : ∀ k x, k + 2 ≤ d → Rch ws s k x → Exp ws s met x
  B : ∀ x, (x = s ∨ x ∈ met) → Exp ws s met x ∨ ∃ w ∈ ls, w.getLast? = some x
theorem Way.last {w : List Str} (h : Way ws ns s w) : ∃ l, w.getLast? = some l := by
  cases w with
  | nil => exact nomatch h.hd
  | cons x r => exact ⟨_, List.getLast?_eq_getLast (List.cons_ne_nil x r)⟩
theorem Way.snoc {w : List Str} {l n : Str} (h : Way ws ns s w) (hl : w.getLast? = some l) (hs : [l, n] ∈ ws) (hn : n ∉ w) (mn : n ∈ ns) : Way ws ns s (w ++ [n]) := by
  refine ⟨?_, ?_, ?_, ?_⟩
  · rw [List.head?_append, h.hd]
    rfl
  · exact List.nodup_append.mpr ⟨h.nd, List.pairwise_singleton .., fun a ha b hb => by
      rw [List.mem_singleton.mp hb]
      exact fun e => hn (e ▸ ha)⟩
  · intro i x y hx hy
    by_cases c : i + 1 < w.length
    · rw [List.getElem?_append_left (by omega)] at hx
      rw [List.getElem?_append_left c] at hy
      exact h.chain i x y hx hy
    · have li : i + 1 < (w ++ [n]).length := (List.getElem?_eq_some_iff.mp hy).1
      rw [List.length_append, List.length_singleton] at li
      have ei : i + 1 = w.length := by omega
      rw [List.getElem?_append_left (by omega)] at hx
      rw [ei, List.getElem?_append_right (Nat.le_refl _), Nat.sub_self] at hy
      have ey : n = y := by simpa using hy
      rw [List.getLast?_eq_getElem?, show w.length - 1 = i by omega, hx] at hl
      rw [Option.some.inj hl, ← ey]
      exact hs
  · intro x hx
    rcases List.mem_append.mp hx with q | q
    · exact h.mem x q
    · rw [List.mem_singleton.mp q]; exact mn
theorem Lv.next {d : Nat} {ls : List (List Str)} {met : List Str} {st : BSt} (hw : ∀ l ∈ ws, ∃ u v, l = [u, v] ∧ u ∈ ns ∧ v ∈ ns ∧ u ≠ v) (h : Lv ws ns s d ls met) (e : lay ws ns s ls (met, []) = .inr st) : Lv ws ns s (d + 1) st.2 st.1 := by
  obtain ⟨W, no⟩ := went_lay ls (met, []) st e
  have inW : ∀ {x y : Str}, [x, y] ∈ ws → y ∈ ns := fun {x y} q => by
    obtain ⟨u, v, e, _, h2, _⟩ := hw _ q
    injection e with _ e2
    injection e2 with e2 _
    exact e2 ▸ h2
  have lastE : ∀ w ∈ ls, ∀ x, w.getLast? = some x → Exp ws s st.1 x := fun w hw' x hx => by
    have nos : [x, s] ∉ ws := fun q => by
      have := no w hw'
      rw [(stp_iff hx).mpr q] at this
      cases this
    refine ⟨nos, fun y hy => W.all w hw' y (inW hy) ((stp_iff hx).mpr hy) fun q => nos (q ▸ hy)⟩
  have oldE : ∀ {x}, Exp ws s met x → Exp ws s st.1 x := fun {x} q => ⟨q.1, fun y hy => W.keep y (q.2 y hy)⟩
  have allE : ∀ x, (x = s ∨ x ∈ met) → Exp ws s st.1 x := fun x hx => by
    rcases h.B x hx with q | ⟨w, h1, h2⟩
    · exact oldE q
    · exact lastE w h1 x h2
  have from0 : ∀ v ∈ st.2, ∃ w ∈ ls, ∃ n ∈ ns, v = w ++ [n] ∧ stp ws w n = true ∧ n ∉ met ∧ n ≠ s ∧ n ∈ st.1 := fun v hv => (W.from_ v hv).resolve_left fun q => nomatch q
  refine ⟨by omega, fun v hv => ?_, fun x hx => ?_, fun v hv x hx => ?_, fun k x hk r => ?_, fun k x hk r => ?_, fun x hx => ?_⟩
  · obtain ⟨w, h1, n, hn, rfl, h2, h3, h4, _⟩ := from0 v hv
    obtain ⟨hw1, hw2⟩ := h.way w h1
    obtain ⟨l, hl, hs⟩ := stp_last h2
    refine ⟨hw1.snoc hl hs (fun q => ?_) hn, by rw [List.length_append, hw2]; rfl⟩
    exact (h.inn w h1 n q).elim h4 h3
  · rcases W.last x hx with q | ⟨v, hv, e⟩
    · exact h.nos x q
    · obtain ⟨w, h1, n, hn, rfl, h2, h3, h4, _⟩ := from0 v hv
      have : n = x := by simpa using e
      exact this ▸ h4
  · obtain ⟨w, h1, n, hn, rfl, h2, h3, h4, h5⟩ := from0 v hv
    rcases List.mem_append.mp hx with q | q
    · exact (h.inn w h1 x q).imp id (W.keep x)
    · rw [List.mem_singleton.mp q]
      exact .inr h5
  · cases r with
    | z => exact .inl rfl
    | s r1 hs => exact .inr ((allE _ (h.A _ _ (by omega) r1)).2 x hs)
  · exact allE x (h.A k x (by omega) r)
  · rcases hx with q | q
    · exact .inl (allE x (.inl q))
    · rcases W.last x q with q | q
      · exact .inl (allE x (.inr q))
      · exact .inr q
theorem Lv.start (hs : s ∈ ns) : Lv ws ns s 1 [[s]] [] := by
  refine ⟨Nat.le_refl _, fun w hw => ?_, (fun x h => nomatch h), fun w hw x hx => ?_, fun k x hk r => ?_, fun k x hk => by omega, fun x hx => .inr ⟨[s], List.mem_singleton.mpr rfl, ?_⟩⟩
  · rw [List.mem_singleton.mp hw]
    refine ⟨⟨rfl, List.pairwise_singleton .., fun i x y hx hy => ?_, fun x hx => ?_⟩, rfl⟩
    · have := (List.getElem?_eq_some_iff.mp hy).1
      simp at this
    · rw [List.mem_singleton.mp hx]; exact hs
  · rw [List.mem_singleton.mp hw] at hx
    exact .inl (List.mem_singleton.mp hx)
  · have : k = 0 := by omega
    subst this
    cases r
    exact .inl rfl
  · rcases hx with q | q
    · rw [q]; rfl
    · exact nomatch q
/-- the outcome -/
def Back (ws : List (List Str)) (ns : List Str) (s : Str) : Option (List Str) → Prop
  | some w => Way ws ns s w ∧ stp ws w s = true ∧ ∀ k x, Rch ws s k x → [x, s] ∈ ws → w.length ≤ k + 1
  | none => ∀ k x, Rch ws s k x → [x, s] ∉ ws
theorem bfs_ok (hw : ∀ l ∈ ws, ∃ u v, l = [u, v] ∧ u ∈ ns ∧ v ∈ ns ∧ u ≠ v) : ∀ (m d : Nat) (ls : List (List Str)) (met : List Str), Lv ws ns s d ls met → (ls = [] ∨ (ns.filter fun n => decide (n ∉ met)).length < m) → Back ws ns s (bfs ws ns s m ls met)
  | m, d, [], met, h, _ => by
    have e : bfs ws ns s m [] met = none := by cases m <;> rfl
    rw [e]
    have all : ∀ x, (x = s ∨ x ∈ met) → Exp ws s met x := fun x hx => (h.B x hx).resolve_right fun ⟨_, q, _⟩ => nomatch q
    have cl : ∀ k x, Rch ws s k x → x = s ∨ x ∈ met := fun k x r => by
      induction r with
      | z => exact .inl rfl
      | s _ hs ih => exact .inr ((all _ ih).2 _ hs)
    exact fun k x r => (all x (cl k x r)).1
  | 0, d, w :: r, met, h, f => f.elim (fun q => nomatch q) (fun q => absurd q (Nat.not_lt_zero _))
  | m + 1, d, w :: r, met, h, f => by
    have f := f.resolve_left fun q => nomatch q
    unfold bfs
    cases e : lay ws ns s (w :: r) (met, []) with
    | inl v =>
      obtain ⟨h1, h2⟩ := lay_found _ _ _ e
      obtain ⟨h3, h4⟩ := h.way v h1
      refine ⟨h3, h2, fun k x rr hx => ?_⟩
      rw [h4]
      by_cases c : k + 2 ≤ d
      · exact absurd hx (h.D k x c rr).1
      · omega
    | inr st =>
      have hn := h.next hw e
      refine bfs_ok hw m (d + 1) st.2 st.1 hn ?_
      cases e2 : st.2 with
      | nil => exact .inl rfl
      | cons v l =>
        refine .inr ?_
        obtain ⟨W, _⟩ := went_lay _ _ _ e
        obtain ⟨x, hx, n, mn, _, _, h3, _, h5⟩ := (W.from_ v (by rw [e2]; exact List.mem_cons_self ..)).resolve_left fun q => nomatch q
        have := filter_less (p := fun n => decide (n ∉ st.1)) (q := fun n => decide (n ∉ met)) (fun y hy => by
          have hy' : y ∉ st.1 := of_decide_eq_true hy
          exact decide_eq_true fun z => hy' (W.keep y z)) mn (decide_eq_true h3) (decide_eq_false fun z => z h5)
        omega
theorem wayBack_ok (hw : ∀ l ∈ ws, ∃ u v, l = [u, v] ∧ u ∈ ns ∧ v ∈ ns ∧ u ≠ v) (hs : s ∈ ns) : Back ws ns s (wayBack ws ns s) := by
  refine bfs_ok hw _ 1 _ _ (Lv.start hs) (.inr ?_)
  have := List.length_filter_le (fun n => decide (n ∉ ([] : List Str))) ns
  omega
end
end KA
set_option Elab.async false
set_option linter.all false
set_option maxRecDepth 100000
set_option maxHeartbeats 4000000
namespace KA
open PySem PySem.Spec PyProof.Rows L2
theorem u65 {k : Nat} {A : Around} (r : Room k A) : A.units + 65 < cLine := by
  have := r.un
  omega
theorem atI_getLast {l : List Str} {x : Str} (h : l.getLast? = some x) : atI (l.map V.str) (-1) = some (.str x) := by
  obtain ⟨r, rfl⟩ : ∃ r, l = r ++ [x] := ⟨l.dropLast, by
    have h1 : l ≠ [] := fun e => by rw [e] at h; cases h
    have h2 := List.dropLast_concat_getLast h1
    rw [List.getLast?_eq_getLast h1] at h
    rw [← Option.some.inj h]
    exact h2.symm⟩
  rw [List.map_append]
  exact atI_last _ _
theorem ne_nil_tx {ls : List (List Str)} : (!PyData.eqv (.list (ls.map tD)) (.list [])) = !ls.isEmpty := by
  cases ls <;> simp [PyData.eqv, PyData.eqvAll]
section
variable {P : Program} {w : World} {K : PySem.W.Frag} {mg : Str → Option Value} {base : Heap}
abbrev nWay : List Str := ["names", "pairs", "start", "ways", "met", "later", "way", "name"]
theorem scWay : FnScope nWay ["names", "pairs", "start"] (defScope s_way_back) := ⟨rfl, rfl, rfl, by decide +kernel, rfl, by decide +kernel, by decide +kernel⟩
def spWay (K : PySem.W.Frag) : Sp := fun vs H Q _ => ∃ (a p : Addr) (ns : List Str) (ys : List V) (ws : List (List Str)) (s : Str), vs = [.ref a, .ref p, .str s] ∧ SqL K H a (ns.map V.str) ∧ SqT K H p ys ∧ Txs H ys ws ∧
  Cp ns ∧ (∀ l ∈ ws, Cp l) ∧ s ∈ ns ∧ ns.length ≤ 20 ∧ (wayBack ws ns s = none → ∀ H', Same H H' → Q .non H') ∧
  (∀ v, wayBack ws ns s = some v → ∀ q H', H q = none → H' q = some (.lst (v.map V.str)) → Same H H' → Q (.ref q) H')
theorem ok_way (D : Df K mg "way_back" s_way_back ["names", "pairs", "start"]) (T : Fre mg) : Fn P w K mg base "way_back" ["names", "pairs", "start"] 1 (spWay K) := by
  refine D.ok scWay (fun vs H Q E h => ?_) (fun f cdv A outer s H vs Q E hr h => ?_)
  · obtain ⟨_, _, _, _, _, _, rfl, _⟩ := h
    rfl
  · obtain ⟨a, p, ns, ys, ws, st, rfl, hL, hT, htx, cpn, cpw, ms, ln, k0, k1⟩ := h
    have nd := scWay.nd
    have hu := hu_of hr
    refine ⟨_, pss_cons (ps_par (i := 3) (j := 4) (by rfl) nd rfl rfl (by decide) rfl rfl (pa_cons (pe_lst (pa_cons (pe_tup (pa_cons (pv 2) pa_nil)) pa_nil)) (pa_cons pe_dnewK pa_nil)) (by rfl))
      (pss_cons (ps_while PassesOwn.never (pt_cmpR (op_neD hr.units) (pv 3) (pe_lst pa_nil) (nomark _))
        (pss_cons (ps_set (i := 5) nd rfl (.inl rfl) (pe_lst pa_nil))
        (pss_cons (ps_for PassesOwn.never rfl (pi_list (pv 3)) (pg_name (i := 6) nd rfl (.inl rfl))
          (pss_cons (ps_if (pt_cmpR (op_inTx (u65 hr)) (pe_tup (pa_cons (pe_ix ix_tup (pv 6) (pe_un un_neg pe_int) (fun _ _ => rfl)) (pa_cons (pv 2) pa_nil))) (pv 1) (by rfl))
              (pss_one (ps_ret (pe_callTy call_list_of (by rfl) T.list (by decide +kernel) (pa_cons (pv 6) pa_nil)))) pss_nil)
          (pss_one (ps_for PassesOwn.never rfl (pi_list (pv 0)) (pg_name (i := 7) nd rfl (.inl rfl))
            (pss_one (ps_if (PW.pt (pw_and (pt_cmpR (op_inTx (u65 hr)) (pe_tup (pa_cons (pe_ix ix_tup (pv 6) (pe_un un_neg pe_int) (fun _ _ => rfl)) (pa_cons (pv 7) pa_nil))) (pv 1) (by rfl))
                (pw_and (pt_cmp (pc_dnotin hu (pv 7) (pv 4))) (pw_and1 (pt_cmpR op_ne (pv 7) (pv 2) (nomark _))))))
              (pss_cons (ps_dput hu (pv 4) (pv 7) pe_bl rfl)
              (pss_one (ps_expr (pe_bm PySem.F.plainAttrs_list PySem.F.slot_list_append PySem.F.type_list_append mt_append (pv 5) (pa_cons (pe_tup (StX.pa_star (pv 6) (pa_cons (pv 7) pa_nil))) pa_nil))))) pss_nil))))))
        (pss_one (ps_set (i := 3) nd rfl (.inl rfl) (pv 5))))))
      (pss_one (ps_ret pe_non))), ?_⟩
    have nos : ∀ x ∈ ([] : List Str), x ≠ st := fun x h => nomatch h
    -- ways, met = [(start,)], {}
    refine ⟨_, rfl, (by show 1 ≤ sizeLine; decide), fun t0 nt0 => ⟨by show 1 ≤ sizeLine; decide, fun l0 nl0 => fun d0 nd0 => ⟨_, _, rfl, ?_⟩⟩⟩
    have s1 := same_new (o := .tup [.str st]) nt0
    have s2 := s1.trans (same_new (o := .lst [.ref t0]) nl0)
    have s3 := s2.trans (same_new (o := .dK []) nd0)
    have nd0H : H d0 = none := s2.free nd0
    have hl0 : (upd (upd (upd H t0 (.tup [.str st])) l0 (.lst [.ref t0])) d0 (.dK [])) l0 = some (.lst [.ref t0]) := by
      rw [upd_ne (show l0 ≠ d0 from fun e => by rw [← e, upd_same] at nd0; cases nd0)]
      exact upd_same
    have ht0 : (upd (upd (upd H t0 (.tup [.str st])) l0 (.lst [.ref t0])) d0 (.dK [])) t0 = some (.tup [.str st]) := (same_new nd0) _ _ ((same_new nl0) _ _ upd_same)
    generalize hH0 : upd (upd (upd H t0 (.tup [.str st])) l0 (.lst [.ref t0])) d0 (.dK []) = H0 at s3 hl0 ht0
    have hd0 : H0 d0 = some (.dK (nkv [] fun _ => .bl true)) := by rw [← hH0]; exact upd_same
    refine ⟨fun m σ H1 => ∃ (B : Nat) (lw : Addr) (zs : List V) (ls : List (List Str)) (met : List Str) (v5 v6 v7 : Option V), σ = [some (.ref a), some (.ref p), some (.str st), some (.ref lw), some (.ref d0), v5, v6, v7] ∧
        H1 lw = some (.lst zs) ∧ Txs H1 zs ls ∧ H1 d0 = some (.dK (nkv met fun _ => .bl true)) ∧ Same H H1 ∧ StOk ns st B met (met, []) ∧ (∀ v ∈ ls, v.length = B ∧ ∀ x ∈ v, x ∈ ns) ∧ 1 ≤ B ∧ B + m ≤ ns.length + 2 ∧
        ls.length ≤ 1000 ∧ bfs ws ns st m ls met = wayBack ws ns st ∧ (ls = [] ∨ (ns.filter fun n => decide (n ∉ met)).length < m),
      ⟨ns.length + 1, 1, l0, [.ref t0], [[st]], [], none, none, none, rfl, hl0, .cons ⟨t0, rfl, ht0⟩ .nil, hd0, s3, ⟨List.nodup_nil, (fun x h => nomatch h), nos, Nat.le_refl _, (fun v h => nomatch h), (fun v h => nomatch h), fun x h => h⟩, fun v hv => ?_, Nat.le_refl _, by omega, (by show 1 ≤ 1000; decide), rfl, .inr ?_⟩, ?_⟩
    · rw [List.mem_singleton.mp hv]
      exact ⟨rfl, fun x hx => by rw [List.mem_singleton.mp hx]; exact ms⟩
    · have := List.length_filter_le (fun n => decide (n ∉ ([] : List Str))) ns
      omega
    rintro m σ H1 ⟨B, lw, zs, ls, met, v5, v6, v7, rfl, hlw, hzs, hd1, sH, sok, hlen, hB, hBm, hls, hbf, hfu⟩
    have cpl : ∀ v ∈ ls, Cp v := fun v hv z hz => cpn z ((hlen v hv).2 z hz)
    -- while ways != []
    refine ⟨_, rfl, Nat.zero_le _, fun q nq => ?_⟩
    have sq := same_new (o := .lst []) nq
    refine ⟨.list (ls.map tD), .list [], .lst (SqL.of (sq _ _ hlw)) (hzs.kt (KT.same sq)).dp, .lst (SqL.of upd_same) .nil, lD_tDs_shaped cpl, by decide +kernel, _, rfl, ?_⟩
    rw [ne_nil_tx]
    cases ls with
    | nil =>
      refine iteF ?_
      refine k0 ?_ _ (sH.trans sq)
      rw [← hbf]
      cases m <;> rfl
    | cons w0 rest =>
      refine iteT ?_
      have fu := hfu.resolve_left fun z => nomatch z
      cases m with
      | zero => exact absurd fu (Nat.not_lt_zero _)
      | succ m =>
      refine ⟨fun σ' H' => ∃ (lw' : Addr) (zs' : List V) (st' : BSt) (v5 v6 v7 : Option V), σ' = [some (.ref a), some (.ref p), some (.str st), some (.ref lw'), some (.ref d0), v5, v6, v7] ∧ H' lw' = some (.lst zs') ∧ Txs H' zs' st'.2 ∧ H' d0 = some (.dK (nkv st'.1 fun _ => .bl true)) ∧ Same H H' ∧
          StOk ns st B met st' ∧ lay ws ns st (w0 :: rest) (met, []) = .inr st', ?_, ?_⟩
      · rintro σ' H' ⟨lw', zs', st', v5, v6, v7, e1, e2, e3, e4, e5, e6, e7⟩
        have hst : st'.2.length ≤ 20 := by
          have h1 := e6.fit
          have h2 := nd_sub_len e6.nd e6.sub
          omega
        refine ⟨m, Nat.lt_succ_self m, B + 1, lw', zs', st'.2, st'.1, v5, v6, v7, e1, e2, e3, e4, e5, ⟨e6.nd, e6.sub, e6.nos, Nat.le_refl _, (fun v h => nomatch h), (fun v h => nomatch h), fun x h => h⟩, fun v hv => ⟨e6.len v hv, e6.mem v hv⟩, by omega, by omega, by omega, ?_, ?_⟩
        · rw [← hbf]
          show _ = (match lay ws ns st (w0 :: rest) (met, []) with | .inl v => some v | .inr st => bfs ws ns _ m st.2 st.1)
          rw [e7]
        · cases e2' : st'.2 with
          | nil => exact .inl rfl
          | cons v l =>
            refine .inr ?_
            obtain ⟨W, _⟩ := went_lay _ _ _ e7
            obtain ⟨x, hx, n, mn, _, _, h3, _, h5⟩ := (W.from_ v (by rw [e2']; exact List.mem_cons_self ..)).resolve_left fun q => nomatch q
            have := filter_less (p := fun n => decide (n ∉ st'.1)) (q := fun n => decide (n ∉ met)) (fun y hy => by
              have hy' : y ∉ st'.1 := of_decide_eq_true hy
              exact decide_eq_true fun z => hy' (W.keep y z)) mn (decide_eq_true h3) (decide_eq_false fun z => z h5)
            omega
      -- later = []
      refine ⟨Nat.zero_le _, fun la nla => ?_⟩
      have sla := same_new (o := .lst []) nla
      have sL := sq.trans sla
      have nlaH : H la = none := sH.free (sq.free nla)
      generalize hH2 : upd (upd H1 q (.lst [])) la (.lst []) = H2 at sla sL
      have hla : H2 la = some (.lst []) := by rw [← hH2]; exact upd_same
      -- for way in ways
      refine ⟨_, rfl, lw, rfl, ⟨_, SqL.of (sL _ _ hlw)⟩, for_list (K := K) (a := lw) (xs := zs) (fun i σ' H' => ∃ (ns' : BSt) (zs' : List V) (v6 v7 : Option V), σ' = [some (.ref a), some (.ref p), some (.str st), some (.ref lw), some (.ref d0), some (.ref la), v6, v7] ∧
          H' la = some (.lst zs') ∧ Txs H' zs' ns'.2 ∧ H' d0 = some (.dK (nkv ns'.1 fun _ => .bl true)) ∧ Same H H' ∧ H' lw = some (.lst zs) ∧ KT H2 H' ∧ StOk ns st B met ns' ∧ lay ws ns st ((w0 :: rest).drop i) ns' = lay ws ns st (w0 :: rest) (met, []))
        ⟨(met, []), [], v6, v7, rfl, hla, .nil, sL _ _ hd1, sH.trans sL, sL _ _ hlw, KT.refl _, sok, rfl⟩ (fun i σ' H' _ ⟨_, _, _, _, _, _, _, _, _, h, _⟩ => SqL.of h) ?_ ?_⟩
      · rintro i y σ' H3 hy ⟨ns', zs', v6, v7, rfl, hla3, hzs3, hd3, sH3, hlw3, kt3, ok3, lay3⟩
        obtain ⟨v, hv, htv⟩ := Pd.get hzs hy
        have mv : v ∈ w0 :: rest := List.mem_of_getElem? hv
        obtain ⟨lv, mvn⟩ := hlen v mv
        have htv3 := htv.kt ((KT.same sL).trans kt3)
        obtain ⟨t, rfl, ht⟩ := htv3
        obtain ⟨lst, hlst⟩ : ∃ l, v.getLast? = some l := by
          cases v with
          | nil => exact absurd lv (by simp; omega)
          | cons x r => exact ⟨_, List.getLast?_eq_getLast (List.cons_ne_nil x r)⟩
        have mlst : lst ∈ ns := mvn _ (List.mem_of_getLast? hlst)
        -- (way[-1], start) in pairs
        refine ⟨_, rfl, 1, rfl, t, _, -1, .str lst, rfl, rfl, SqT.of ht, atI_getLast hlst, _, rfl, (by show 2 ≤ sizeLine; decide), fun t2 nt2 => ?_⟩
        have st2 := same_new (o := .tup [.str lst, .str st]) nt2
        have sH4 := sH3.trans st2
        have cp2 : ∀ n ∈ ns, Cp [lst, n] := fun n mn z hz => by
          rcases List.mem_cons.mp hz with e | hz
          · exact e ▸ cpn _ mlst
          · exact (List.mem_singleton.mp hz) ▸ cpn _ mn
        refine ⟨_, rfl, [lst, st], ws, ys, p, ⟨t2, rfl, upd_same⟩, rfl, .inr (sameT sH4 hT), htx.kt (KT.same sH4), cp2 st ms, cpw, _, rfl, ?_⟩
        rw [if_neg Bool.false_ne_true]
        have dropE : (w0 :: rest).drop i = v :: (w0 :: rest).drop (i + 1) := by
          obtain ⟨hi, e⟩ := List.getElem?_eq_some_iff.mp hv
          rw [← e]
          exact List.drop_eq_getElem_cons hi
        rw [dropE] at lay3
        unfold lay at lay3
        by_cases hst : [lst, st] ∈ ws
        · rw [decide_eq_true hst]
          refine iteT ?_
          rw [if_pos ((stp_iff hlst).mpr hst)] at lay3
          refine ⟨_, rfl, t, _, rfl, .inr (SqT.of (st2 _ _ ht)), fun r nr => ?_⟩
          refine k1 v ?_ r _ (sH4.free nr) upd_same (sH4.trans (same_new nr))
          rw [← hbf]
          show (match lay ws ns st (w0 :: rest) (met, []) with | .inl v => some v | .inr st => bfs ws ns _ m st.2 st.1) = some v
          unfold lay
          rw [← lay3]
        · rw [decide_eq_false hst]
          refine iteF ?_
          have nstp : ¬ stp ws v st = true := fun q => hst ((stp_iff hlst).mp q)
          rw [if_neg nstp] at lay3
          -- for name in names
          have d0la : d0 ≠ la := ne_of_none (sq _ _ hd1) nla
          have lwla : lw ≠ la := ne_of_none (sq _ _ hlw) nla
          have lwd0 : lw ≠ d0 := ne_of hlw hd1 (by intro z; cases z)
          refine ⟨_, rfl, a, rfl, ⟨_, sH4.seq hL⟩, for_list (K := K) (a := a) (xs := ns.map V.str) (fun j σ' H' => ∃ (zs'' : List V) (v7 : Option V), σ' = [some (.ref a), some (.ref p), some (.str st), some (.ref lw), some (.ref d0), some (.ref la), some (.ref t), v7] ∧
              H' la = some (.lst zs'') ∧ Txs H' zs'' ((ns.take j).foldl (tName ws st v) ns').2 ∧ H' d0 = some (.dK (nkv ((ns.take j).foldl (tName ws st v) ns').1 fun _ => .bl true)) ∧ Same H H' ∧ H' lw = some (.lst zs) ∧ KT H2 H' ∧ H' t = some (.tup (v.map V.str)))
            ⟨zs', v7, rfl, st2 _ _ hla3, hzs3.kt (KT.same st2), st2 _ _ hd3, sH4, st2 _ _ hlw3, kt3.trans (KT.same st2), st2 _ _ ht⟩ (fun j σ' H' _ ⟨_, _, _, _, _, _, h, _⟩ => h.seq hL) ?_ ?_⟩
          · rintro j y σ' H5 hj ⟨zs5, v7, rfl, hla5, hzs5, hd5, sH5, hlw5, kt5, ht5⟩
            rw [List.getElem?_map] at hj
            obtain ⟨n, hn, rfl⟩ := Option.map_eq_some_iff.mp hj
            have mn : n ∈ ns := List.mem_of_getElem? hn
            have stepE : (ns.take (j + 1)).foldl (tName ws st v) ns' = tName ws st v ((ns.take j).foldl (tName ws st v) ns') n := by
              rw [take_succ_of hn, List.foldl_append]
              rfl
            have okj := StOk.fold (ws := ws) lv mvn (us := ns.take j) (fun x hx => List.mem_of_mem_take hx) ok3
            generalize hsj : (ns.take j).foldl (tName ws st v) ns' = sj at hzs5 hd5 stepE okj
            refine ⟨_, rfl, 1, rfl, t, _, -1, .str lst, rfl, rfl, SqT.of ht5, atI_getLast hlst, _, rfl, (by show 2 ≤ sizeLine; decide), fun t3 nt3 => ?_⟩
            have st3 := same_new (o := .tup [.str lst, .str n]) nt3
            have sH6 := sH5.trans st3
            refine ⟨_, rfl, [lst, n], ws, ys, p, ⟨t3, rfl, upd_same⟩, rfl, .inr (sameT sH6 hT), htx.kt (KT.same sH6), cp2 n mn, cpw, _, rfl, ?_⟩
            rw [if_neg Bool.false_ne_true]
            have stay : tName ws st v sj n = sj → ∃ (zs'' : List V) (v7 : Option V), [some (V.ref a), some (V.ref p), some (V.str st), some (V.ref lw), some (V.ref d0), some (V.ref la), some (V.ref t), some (V.str n)] = [some (.ref a), some (.ref p), some (.str st), some (.ref lw), some (.ref d0), some (.ref la), some (.ref t), v7] ∧
                (upd H5 t3 (.tup [.str lst, .str n])) la = some (.lst zs'') ∧ Txs (upd H5 t3 (.tup [.str lst, .str n])) zs'' ((ns.take (j + 1)).foldl (tName ws st v) ns').2 ∧ (upd H5 t3 (.tup [.str lst, .str n])) d0 = some (.dK (nkv ((ns.take (j + 1)).foldl (tName ws st v) ns').1 fun _ => .bl true)) ∧
                Same H (upd H5 t3 (.tup [.str lst, .str n])) ∧ (upd H5 t3 (.tup [.str lst, .str n])) lw = some (.lst zs) ∧ KT H2 (upd H5 t3 (.tup [.str lst, .str n])) ∧ (upd H5 t3 (.tup [.str lst, .str n])) t = some (.tup (v.map V.str)) := fun e => by
              rw [stepE, e]
              exact ⟨zs5, _, rfl, st3 _ _ hla5, hzs5.kt (KT.same st3), st3 _ _ hd5, sH6, st3 _ _ hlw5, kt5.trans (KT.same st3), st3 _ _ ht5⟩
            by_cases c1 : [lst, n] ∈ ws
            · rw [decide_eq_true c1]
              refine iteT ?_
              have hd6 := st3 _ _ hd5
              refine ⟨_, rfl, _, rfl, d0, _, rfl, DGet.k (k := Sum.inr n) hd6, _, rfl, ?_⟩
              by_cases c2 : n ∈ sj.1
              · rw [valV_nkv c2]
                refine iteF ?_
                exact stay (if_neg fun q => q.2.1 c2)
              · rw [valV_nkv_none c2]
                refine iteT ?_
                refine ⟨_, rfl, _, rfl, rfl, _, rfl, ?_⟩
                by_cases c3 : n = st
                · rw [decide_eq_true (congrArg V.str c3)]
                  refine iteF ?_
                  exact stay (if_neg fun q => q.2.2 c3)
                · rw [decide_eq_false (fun q => c3 (V.str.inj q))]
                  refine iteT ?_
                  -- met[name] = True; later.append((*way, name))
                  have tE : tName ws st v sj n = (sj.1 ++ [n], sj.2 ++ [v ++ [n]]) := if_pos ⟨(stp_iff hlst).mpr c1, c2, c3⟩
                  have l1 := okj.fit
                  have l2 := nd_sub_len okj.nd okj.sub
                  refine ⟨_, rfl, _, rfl, d0, _, rfl, DPut.k (k := Sum.inr n) hd6 (small1000 (by rw [List.length_map]; omega)), ?_⟩
                  rw [putK_new _ (valV_nkv_none c2)]
                  generalize hH7 : upd (upd H5 t3 (.tup [.str lst, .str n])) d0 (.dK (nkv sj.1 (fun _ => .bl true) ++ [(Sum.inr n, .bl true)])) = H7
                  have kt7 : KT (upd H5 t3 (.tup [.str lst, .str n])) H7 := by
                    rw [← hH7]
                    exact KT.upd fun xs e => by rw [hd6] at e; cases e
                  have hla7 : H7 la = some (.lst zs5) := by
                    rw [← hH7, upd_ne d0la.symm]
                    exact st3 _ _ hla5
                  have ht7 := kt7 _ _ (st3 _ _ ht5)
                  refine ⟨_, rfl, .inl ⟨rfl, _, SqL.of hla7⟩, _, rfl, t, _, rfl, .inl (SqT.of ht7), _, rfl, ?_, fun t4 nt4 => ?_⟩
                  · rw [List.length_append, List.length_map, lv]
                    exact Nat.le_of_lt (small1000 (by simp; omega))
                  have st4 := same_new (o := .tup (v.map V.str ++ [.str n])) nt4
                  refine ⟨la, zs5, _, rfl, rfl, st4 _ _ hla7, small1000 (by have := Pd.len hzs5; omega), ?_⟩
                  have hla8 := st4 _ _ hla7
                  have la4 : la ≠ t4 := ne_of_none hla7 nt4
                  have hd7 : H7 d0 = some (.dK (nkv sj.1 (fun _ => .bl true) ++ [(Sum.inr n, .bl true)])) := by rw [← hH7]; exact upd_same
                  have kt8 : KT (upd H7 t4 (.tup (v.map V.str ++ [.str n]))) (upd (upd H7 t4 (.tup (v.map V.str ++ [.str n]))) la (.lst (zs5 ++ [.ref t4]))) := KT.lst hla8
                  have kt58 := ((KT.same st3).trans kt7).trans ((KT.same st4).trans kt8)
                  refine ⟨zs5 ++ [.ref t4], _, rfl, upd_same, ?_, ?_, ?_, ?_, kt5.trans kt58, kt58 _ _ ht5⟩
                  · rw [stepE, tE]
                    refine Paired.snoc (hzs5.kt kt58) ⟨t4, rfl, ?_⟩
                    rw [List.map_append]
                    exact kt8 _ _ upd_same
                  · rw [stepE, tE, upd_ne d0la, st4 _ _ hd7, nkv, nkv, List.map_append]
                    rfl
                  · intro b o e
                    rw [upd_ne (ne_of_none e nlaH)]
                    refine st4 _ _ ?_
                    rw [← hH7, upd_ne (ne_of_none e nd0H)]
                    exact sH6 _ _ e
                  · rw [upd_ne lwla]
                    refine st4 _ _ ?_
                    rw [← hH7, upd_ne lwd0]
                    exact st3 _ _ hlw5
            · rw [decide_eq_false c1]
              refine iteF ?_
              exact stay (if_neg fun q => c1 ((stp_iff hlst).mp q.1))
          · rintro σ' H5 ⟨zs5, v7, rfl, hla5, hzs5, hd5, sH5, hlw5, kt5, ht5⟩
            rw [List.length_map, List.take_length] at hzs5 hd5
            exact ⟨_, zs5, _, _, rfl, hla5, hzs5, hd5, sH5, hlw5, kt5, StOk.fold lv mvn (fun _ h => h) ok3, lay3⟩
      · rintro σ' H3 ⟨ns', zs', v6, v7, rfl, hla3, hzs3, hd3, sH3, hlw3, kt3, ok3, lay3⟩
        rw [Pd.len hzs, List.drop_length] at lay3
        exact ⟨_, rfl, la, zs', ns', _, _, _, rfl, hla3, hzs3, hd3, sH3, ok3, lay3.symm⟩
end
end KA
set_option Elab.async false
set_option linter.all false
set_option maxRecDepth 100000
set_option maxHeartbeats 4000000
namespace KA
open PySem PySem.Spec PyProof.Rows L2
/-! ### min(xs, key=len) -/
theorem one_map {h : Heap} {L : Addr} {m m' : Str → Option Value} (a : h.Ns L m) (b : h.Ns L m') : m = m' := by
  obtain ⟨o, es, ep, e1, e2, _, e3⟩ := a
  obtain ⟨o', es', ep', f1, f2, _, f3⟩ := b
  rw [e1] at f1
  cases f1
  rw [e2] at f2
  cases f2
  exact funext fun x => (e3 x).symm.trans (f3 x)
section
variable {X : Cx} {pins : List (Addr × Obj)} {σ : L2.St} {H : Hp} {s : Shared}
/-- what a rule over the ledger keeps -/
theorem all_kept {h : Heap} {m : Str → Option Value} (I : Inv X pins σ H s) (F : Fr X.base X.env.locals h m) (N : News X.base X.env.locals h (allNews X.base s.heap X.env.locals)) {b : Addr} {o : Obj} (n : b ≠ X.env.locals) (e : s.heap.get? b = some o) : h.get? b = some o := by
  cases q : X.base.get? b with
  | some u =>
    have := I.bk b u q
    rw [e] at this
    cases this
    exact F.keep b o q
  | none => exact (N (b, o) (mem_allNews n q e)).1
theorem after_ledger {h : Heap} {m : Str → Option Value} {t : Nat} (I : Inv X pins σ H s) (F0 : Fr X.base X.env.locals s.heap m) (F : Fr X.base X.env.locals h m) (N : News X.base X.env.locals h (allNews X.base s.heap X.env.locals)) : Inv X pins σ H { s with heap := h, toks := t } := by
  refine I.step (ch := []) (fun _ q => nomatch q) (fun b o n _ _ e _ => all_kept I F N n e) (fun b o n _ _ e _ => ⟨o.slots, by rw [all_kept I F N n e]⟩) (fun b o _ _ q => q) (fun b o _ e => ?_) (fun _ _ q => q) (fun _ _ _ q => q) (fun b ps q => ⟨#[], by rw [q, Array.append_empty]⟩) (fun m' q => one_map q F0.ns ▸ F.ns) (fun a o q => ?_) I.bare
  · by_cases n : b = X.env.locals
    · obtain ⟨o, _, _, e, _⟩ := F.ns
      exact ⟨o, n ▸ e⟩
    · exact ⟨o, all_kept I F N n e⟩
  · refine (I.hok a o q).stay (fun b u hb e => all_kept I F N (fun z => ?_) e) (fun _ q => q) (fun _ _ q => q)
    have fr := I.free
    rcases hb with hb | hb
    · rw [← z, hb, q] at fr
      cases fr
    · rw [← z, hb] at fr
      cases fr
end
def rMinLen (K : PySem.W.Frag) : List V → Hp → VK → Prop := fun xs H Q => ∃ (a : Addr) (vs : List V) (f : Nat → Nat), xs = [.ref a] ∧ SqL K H a vs ∧ 0 < vs.length ∧ (∀ i v, vs[i]? = some v → ∃ b ys, v = .ref b ∧ SqL K H b ys ∧ ys.length = f i) ∧
  ∀ i v, vs[i]? = some v → (∀ j, j < vs.length → f i ≤ f j ∧ (j < i → f i < f j)) → Q v H
theorem sqL_loc {X : Cx} {pins : List (Addr × Obj)} {σ : L2.St} {H : Hp} {s : Shared} {a : Addr} {xs : List V} (I : Inv X pins σ H s) (h : SqL X.K H a xs) : a ≠ X.env.locals := fun z => by
  obtain ⟨its, _, ⟨o, n, e, e2, _, e3⟩, _⟩ := I.list h
  obtain ⟨m, ⟨u, es, ep, f1, f2, _⟩, _⟩ := I.loc
  rw [z] at e
  rw [e] at f1
  cases f1
  rw [e3] at f2
  cases f2
theorem Vals.get' : ∀ {xs : List V} {us : List Value} {i : Nat} {u : Value}, Vals xs us → us[i]? = some u → ∃ x, xs[i]? = some x ∧ RelV x u
  | _, _, i, u, .nil, h => by simp at h
  | _, _, 0, u, .cons h r, e => ⟨_, rfl, (Option.some.inj e) ▸ h⟩
  | _, _, i + 1, u, .cons h r, e => Vals.get' (i := i) r e
theorem min_len {X : Cx} {pins : List (Addr × Obj)} {σ : L2.St} {H : Hp} {s : Shared} {xs : List V} {us : List Value} {Q : VK} (calm : X.calm = true) (I : Inv X pins σ H s) (r : Vals xs us) (h : rMinLen X.K xs H Q) :
    wpAny (model X.prog X.w) X.A (call (.builtin "min") us [(Str.ofString "key", .builtin "len")]) (EP X pins σ Q) X.xe s := by
  obtain ⟨a, vs, f, rfl, hs, hne, hlen, q⟩ := h
  rw [Vals.ref1 r]
  obtain ⟨its, rv, hl, _⟩ := I.list hs
  obtain ⟨m, F⟩ := I.fr
  have lv := rv.length
  have na := sqL_loc I hs
  refine kmb_min (vs := its) (fun i => (f i : Int)) (I.ok.hd calm) F news_all (fun h F' N' => ?_) (by omega) (fun i v hv h tk own F' N' => ?_) (fun i v h' tk' hv hmin F' N' => ?_)
  · obtain ⟨o, n, e, r⟩ := hl
    exact PlainL.isList ⟨o, n, all_kept I F' N' na e, r⟩
  · obtain ⟨x, hx, rx⟩ := Vals.get' rv hv
    obtain ⟨b, ys, rfl, hb, eb⟩ := hlen i x hx
    cases (show v = Value.ref b from rx)
    obtain ⟨jts, rj, hlj, lj⟩ := I.list hb
    have nb := sqL_loc I hb
    have N0 : News X.base X.env.locals h (allNews X.base s.heap X.env.locals) := fun p hp => N' p (List.mem_append_left _ hp)
    have hl2 : h.IsList b jts.toArray := by
      obtain ⟨o, n, e, r⟩ := hlj
      exact PlainL.isList ⟨o, n, all_kept I F' N0 nb e, r⟩
    have ej : (jts.toArray.size : Int) = (f i : Int) := by
      rw [List.size_toArray, ← rj.length, eb]
    refine Calls.call_len_list hl2 ?_ ?_
    · rw [List.size_toArray, ← rj.length]
      have := line63
      omega
    · rw [ej]
      exact ⟨h, _, _, rfl, rfl, F', N'⟩
  · obtain ⟨x, hx, rx⟩ := Vals.get' rv hv
    refine ⟨x, H, after_ledger I F F' N', rx, q i x hx fun j hj => ?_⟩
    have := hmin j (by omega)
    exact ⟨by omega, fun z => by have := this.2 z; omega⟩
theorem pe_minLen {X : Cx} {e : Expr} {te : TE} {p q kp pos : Pos} (calm : X.calm = true) (hg : Gl X "min") (hm : X.mg "min" = none) (hg2 : Gl X "len") (hm2 : X.mg "len" = none) (he : PE X e te)
    (hs : starEach [e] X.env = (false, eval e X.env) :: starEach [] X.env := by rfl) (h1 : backTo pos (starEach [e] X.env) = (false, eval e X.env) :: backTo pos (starEach [] X.env) := by rfl) (h2 : (backTo pos (starEach [e] X.env)).any (·.1) = false := by rfl) :
    PE X (.Call (.Name "min" p) [e] [⟨some "key", .Name "len" q, kp⟩] pos) (tCB (rMinLen X.K) (tCons te tNil)) := by
  refine ⟨fun pins s σ H Q I h => ?_⟩
  refine wpAny_Call_Name_kw (ld_blt I hg hm (show bootBuiltins "min" = some (.builtin "min") by decide +kernel) ?_)
  have pa : PA X [e] (tCons te tNil) := pa_cons he pa_nil hs
  refine PyProof.Rows.callWith_kw (thn (pa.run pos pins s σ H _ I h) fun us s1 w1 => ?_) h1 h2
  obtain ⟨vs, H1, I1, r1, q1⟩ := w1
  show wpAny _ _ (evalAll ((do let v ← eval (.Name "len" q) X.env; standAt pos; pure v) :: [])) _ _ s1
  refine wpAny_evalAll_cons (wpAny_bind (ld_blt I1 hg2 hm2 PySem.boot_len (wpAny_bind (wpAny_standAt (wpAny_pure ?_)))))
  refine wpAny_evalAll_nil ?_
  exact min_len calm I1 r1 q1
end KA
set_option Elab.async false
set_option linter.all false
set_option maxRecDepth 100000
set_option maxHeartbeats 4000000
namespace KA
open PySem PySem.Spec PyProof.Rows L2
/-! ### sort_ring -/
def someW (ws : List (List Str)) (ns : List Str) : List (List Str) := ns.filterMap (wayBack ws ns)
/-- the first of the least -/
def IsMin (ls : List (List Str)) (v : List Str) : Prop := ∃ i : Nat, ls[i]? = some v ∧ ∀ (j : Nat) (u : List Str), ls[j]? = some u → v.length ≤ u.length ∧ (j < i → v.length < u.length)
theorem IsMin.one {ls : List (List Str)} {v u : List Str} (a : IsMin ls v) (b : IsMin ls u) : v = u := by
  obtain ⟨i, ei, hi⟩ := a
  obtain ⟨j, ej, hj⟩ := b
  have h1 := hi j u ej
  have h2 := hj i v ei
  rcases Nat.lt_trichotomy i j with c | c | c
  · have := h2.2 c
    omega
  · subst c
    rw [ei] at ej
    exact Option.some.inj ej
  · have := h1.2 c
    omega
/-- what stands in found -/
def Fd (H : Hp) (x : V) (o : Option (List Str)) : Prop := match o with
  | none => x = .non
  | some v => ∃ q, x = .ref q ∧ H q = some (.lst (v.map V.str))
theorem Fd.same {H H' : Hp} (s : Same H H') {x : V} {o : Option (List Str)} (h : Fd H x o) : Fd H' x o := by
  cases o with
  | none => exact h
  | some v =>
    obtain ⟨q, e, h⟩ := h
    exact ⟨q, e, s _ _ h⟩
/-- a thing that H does not know -/
def New (H : Hp) (x : V) : Prop := ∀ q, x = .ref q → H q = none
def Ls (H : Hp) (x : V) (v : List Str) : Prop := ∃ q, x = .ref q ∧ H q = some (.lst (v.map V.str))
theorem Ls.dp {K : PySem.W.Frag} {H : Hp} : ∀ {xs : List V} {ls : List (List Str)}, Paired (Ls H) xs ls → DpAll K H xs (ls.map lD)
  | _, _, .nil => .nil
  | _, _, .cons ⟨q, e, h⟩ r => .cons (e ▸ .lst (SqL.of h) (Dp.strs _)) (Ls.dp r)
theorem ne_nil_ls {ls : List (List Str)} : (!PyData.eqv (.list (ls.map lD)) (.list [])) = !ls.isEmpty := by
  cases ls <;> simp [PyData.eqv, PyData.eqvAll]
section
variable {P : Program} {w : World} {K : PySem.W.Frag} {mg : Str → Option Value} {base : Heap}
abbrev nRing : List Str := ["catalogue", "found", "some", "sort", "way"]
theorem scRing : FnScope nRing ["catalogue"] (defScope s_sort_ring) := ⟨rfl, rfl, rfl, by decide +kernel, rfl, by decide +kernel, by decide +kernel⟩
def spRing (C : Addr) : Sp := fun vs H Q _ => ∃ (x : Addr) (ns : List Str) (rv : Str → V) (ws : List (List Str)), vs = [.ref x] ∧ Cat C H x ns rv ws ∧ (someW ws ns = [] → ∀ H', Same H H' → Q .non H') ∧
  (∀ v, IsMin (someW ws ns) v → ∀ q H', H q = none → H' q = some (.lst (v.map V.str)) → Same H H' → Q (.ref q) H')
theorem ok_ring {C : Addr} {B : FuncData → Prop} (D : Df K mg "sort_ring" s_sort_ring ["catalogue"] B) (GW : Fn P w K mg base "way_back" ["names", "pairs", "start"] 1 (spWay K)) (T : Fre mg) (Ct : CatT K mg C) : Fn P w K mg base "sort_ring" ["catalogue"] 2 (spRing C) B := by
  refine D.ok scRing (fun vs H Q E h => ?_) (fun f cdv A outer s H vs Q E hr h => ?_)
  · obtain ⟨_, _, _, _, rfl, _⟩ := h
    rfl
  · obtain ⟨x, ns, rv, ws, rfl, hc, k0, k1⟩ := h
    have nd := scRing.nd
    have hu := hu_of hr
    refine ⟨_, pss_cons (ps_lock (ps_setLc (i := 1) (own := [("sort", 3)]) (g := gName 3) (tt := tYes) rfl nd rfl rfl (sw_true rfl rfl rfl (by decide +kernel)) (pi_keys (pe_fld (pv 0) rfl))
          (blkOk_by (N := nRing) (sc := defScope s_sort_ring) (by decide +kernel)) (fun _ _ _ _ _ => pg_name (i := 3) nd rfl (Or.inl rfl)) (fun _ _ _ _ _ => pts_nil)
          (fun _ _ _ _ _ => pe_fn GW hr (by rfl) (pa_cons (pe_callTy (call_listD rfl) (by rfl) T.list (by decide +kernel) (pa_cons (show PE _ _ (tFld K (tVar 0) "ranges") from pe_fld (pv 0) rfl) pa_nil))
            (pa_cons (show PE _ _ (tFld K (tVar 0) "pairs") from pe_fld (pv 0) rfl) (pa_cons (pv 3) pa_nil))))))
      (pss_cons (ps_setLc (i := 2) (own := [("way", 4)]) (g := gName 4) rfl nd rfl rfl (sw_true rfl rfl rfl (by decide +kernel)) (pi_list (pv 1))
          (blkOk_by (N := nRing) (sc := defScope s_sort_ring) (by decide +kernel)) (fun _ _ _ _ _ => pg_name (i := 4) nd rfl (Or.inl rfl)) (fun _ _ _ _ _ => pts_one (pt_cmp (pc_notN (pv 4)))) (fun _ _ _ _ _ => pv 4))
      (pss_one (ps_ret (pe_ifExp (pt_cmpR (op_neD hr.units) (pv 2) (pe_lst pa_nil) (nomark _)) (pe_minLen rfl (by rfl) T.min (by rfl) T.len (pv 2)) pe_non)))), ?_⟩
    obtain ⟨dx, d, p, ys, hx, hd, hp, hys⟩ := hc.at_
    have cpn : Cp ns := fun z hz => (hc.ok.nm z hz).cp
    have cpw : ∀ l ∈ ws, Cp l := fun l hl => by
      obtain ⟨u, v, rfl, mu, mv, _⟩ := hc.ok.prs l hl
      intro z hz
      rcases List.mem_cons.mp hz with e | hz
      · exact e ▸ cpn u mu
      · exact (List.mem_singleton.mp hz) ▸ cpn v mv
    have l6 := hc.ok.six
    have nxd : x ≠ d := ne_of hx hd (by intro z; cases z)
    -- found
    refine ⟨d, _, hd, trivial, fun od => ?_⟩
    have hx0 : (upd H d (.frz od (.dK (nkv ns rv)))) x = some (.ins C dx (catF d p)) := by rw [upd_ne nxd]; exact hx
    have kt0 : KT H (upd H d (.frz od (.dK (nkv ns rv)))) := KT.upd fun zs e => by rw [hd] at e; cases e
    refine ⟨_, rfl, x, C, dx, _, _, rfl, hx0, Ct.cl, Ct.nR, catF_r d p, d, od, rfl, .inl ⟨nkv ns rv, upd_same, fun L nL => ?_⟩⟩
    generalize hl0 : upd H d (.frz od (.dK (nkv ns rv))) = H0 at hx0 kt0 nL
    have hd0 : H0 d = some (.frz od (.dK (nkv ns rv))) := by rw [← hl0]; exact upd_same
    refine lc_it walk_keys (fun j H3 => (∃ xs, H3 L = some (.lst xs) ∧ Paired (fun x o => Fd H3 x o ∧ x ≠ .ref L ∧ New H x) xs ((ns.take j).map (wayBack ws ns))) ∧ Same H0 H3) ⟨⟨[], upd_same, .nil⟩, same_new nL⟩ (fun j H3 _ h => h.2 _ _ hd0) ?_ ?_
    · rintro j y H3 H3' hj ⟨⟨xs, h3, hxs⟩, s3⟩ ⟨rfl, kk, v, hkv, rfl⟩
      obtain ⟨z, hz, rfl, rfl⟩ := nkv_get hkv
      have mz : z ∈ ns := List.mem_of_getElem? hz
      have hx3 := s3 _ _ hx0
      have hd3 := s3 _ _ hd0
      have lx := Pd.len hxs
      rw [List.length_map, List.length_take] at lx
      rw [List.length_map] at hj
      refine ⟨rfl, ?_⟩
      refine ⟨_, rfl, x, C, dx, _, _, rfl, hx3, Ct.cl, Ct.nR, catF_r d p, d, _, rfl, .inr ⟨od, hd3⟩, fun l nl => ?_⟩
      have sl := same_new (o := .lst ((nkv ns rv).map fun kv => kV kv.1)) nl
      have hx4 := sl _ _ hx3
      refine ⟨_, rfl, x, C, dx, _, _, rfl, hx4, Ct.cl, Ct.nP, catF_p d p, _, rfl, ?_⟩
      have kt4 := kt0.trans (KT.same (s3.trans sl))
      have next : ∀ (y : V) (H5 : Hp), Same (upd H3' l (.lst ((nkv ns rv).map fun kv => kV kv.1))) H5 → Fd H5 y (wayBack ws ns z) → y ≠ .ref L ∧ New H y → ∃ acc, H5 L = some (.lst acc) ∧ acc.length < sizeLine ∧ (∃ xs, (upd H5 L (.lst (acc ++ [y]))) L = some (.lst xs) ∧ Paired (fun x o => Fd (upd H5 L (.lst (acc ++ [y]))) x o ∧ x ≠ .ref L ∧ New H x) xs ((ns.take (j + 1)).map (wayBack ws ns))) ∧ Same H0 (upd H5 L (.lst (acc ++ [y]))) := fun y H5 s5 hy ny => by
        have s35 := sl.trans s5
        refine ⟨xs, s35 _ _ h3, small1000 (by omega), ⟨xs ++ [y], upd_same, ?_⟩, updN (s3.trans s35) nL⟩
        have fdU : ∀ {x : V} {o : Option (List Str)}, x ≠ .ref L → Fd H5 x o → Fd (upd H5 L (.lst (xs ++ [y]))) x o := fun {x o} n h => by
          cases o with
          | none => exact h
          | some v =>
            obtain ⟨q, e, h⟩ := h
            refine ⟨q, e, ?_⟩
            rw [upd_ne (fun z => n (by rw [e, z]))]
            exact h
        rw [take_succ_of hz, List.map_append]
        exact Paired.snoc (L2.Paired.mapP hxs fun x o h => ⟨fdU h.2.1 (h.1.same s35), h.2⟩) ⟨fdU ny.1 hy, ny⟩
      refine ⟨l, p, ns, ys, ws, z, rfl, SqL.of (by rw [upd_same, nkv_keys]), sameT (Same.refl _) (SqT.of (kt4 _ _ hp)), hys.kt kt4, cpn, cpw, mz, by omega, fun e H5 s5 => ?_, fun v e q H5 nq hq s5 => ?_⟩
      · exact next .non H5 s5 (by rw [e]; rfl) ⟨(by intro z; cases z), fun q z => nomatch z⟩
      · refine next (.ref q) H5 s5 (by rw [e]; exact ⟨q, rfl, hq⟩) ⟨fun z => ?_, fun q' z => ?_⟩
        · cases z
          have := sl _ _ h3
          rw [nq] at this
          cases this
        · cases z
          have n0 : H0 q = none := s3.free (sl.free nq)
          rw [← hl0] at n0
          by_cases c : q = d
          · rw [c, upd_same] at n0
            cases n0
          · rw [upd_ne c] at n0
            exact n0
    · rintro H3 ⟨⟨xs, h3, hxs⟩, s3⟩
      have ndL : L ≠ d := fun e => by
        rw [e, hd0] at nL
        cases nL
      refine ⟨s3 _ _ hd0, ?_⟩
      have sA : Same H (upd H3 d (.dK (nkv ns rv))) := unlock hd (hl0 ▸ s3)
      have hLA : (upd H3 d (.dK (nkv ns rv))) L = some (.lst xs) := by
        rw [upd_ne ndL]
        exact h3
      have hd3 := s3 _ _ hd0
      rw [show (nkv ns rv).length = ns.length from List.length_map .., List.take_length] at hxs
      have hxA : Paired (fun x o => Fd (upd H3 d (.dK (nkv ns rv))) x o ∧ New H x) xs (ns.map (wayBack ws ns)) := L2.Paired.mapP hxs fun x o h => by
        refine ⟨?_, h.2.2⟩
        cases o with
        | none => exact h.1
        | some v =>
          obtain ⟨q, e, h⟩ := h.1
          refine ⟨q, e, ?_⟩
          rw [upd_ne (fun z => by rw [z, hd3] at h; cases h)]
          exact h
      generalize hA : upd H3 d (.dK (nkv ns rv)) = HA at sA hLA hxA
      have lxs := Pd.len hxA
      rw [List.length_map] at lxs
      -- some
      refine ⟨_, rfl, L, rfl, ⟨_, SqL.of hLA⟩, fun M nM => ?_⟩
      refine lc_it (walk_list (K := K) (a := L) (xs := xs)) (fun j H4 => (∃ zs, H4 M = some (.lst zs) ∧ Paired (fun x v => Ls HA x v ∧ New H x) zs (((ns.map (wayBack ws ns)).take j).filterMap id) ∧ zs.length ≤ j) ∧ Same HA H4) ⟨⟨[], upd_same, .nil, Nat.le_refl _⟩, same_new nM⟩ (fun j H4 _ h => SqL.of (h.2 _ _ hLA)) ?_ ?_
      · rintro j y H4 H4' hj ⟨⟨zs, h4, hzs, lz⟩, s4⟩ ⟨rfl, hy⟩
        obtain ⟨o, ho, hfo, hnw⟩ := Pd.get hxA hy
        refine ⟨rfl, ?_⟩
        refine ⟨_, rfl, _, rfl, ?_⟩
        rw [take_succ_of ho, List.filterMap_append]
        cases o with
        | none =>
          have e : y = .non := hfo
          subst e
          refine (if_neg (by simp)).mpr ?_
          exact ⟨⟨zs, h4, by simpa using hzs, by omega⟩, s4⟩
        | some v =>
          obtain ⟨q, rfl, hq⟩ := hfo
          refine (if_pos (by simp)).mpr ?_
          refine ⟨_, rfl, zs, h4, small1000 (by omega), ⟨zs ++ [.ref q], upd_same, ?_, by rw [List.length_append]; exact Nat.succ_le_succ lz⟩, updN s4 nM⟩
          exact Paired.snoc hzs ⟨⟨q, rfl, hq⟩, hnw⟩
      · rintro H4 ⟨⟨zs, h4, hzs, lz⟩, s4⟩
        have eW : ((ns.map (wayBack ws ns)).take xs.length).filterMap id = someW ws ns := by
          rw [List.take_of_length_le (by rw [List.length_map]; omega), List.filterMap_map]
          rfl
        rw [eW] at hzs
        have hz4 : Paired (Ls H4) zs (someW ws ns) := L2.Paired.mapP hzs fun x v ⟨⟨q, e, h⟩, _⟩ => ⟨q, e, s4 _ _ h⟩
        have cps : ∀ v ∈ someW ws ns, Cp v := fun v hv => by
          obtain ⟨z, mz, ez⟩ := List.mem_filterMap.mp hv
          have := wayBack_ok hc.ok.prs mz
          rw [ez] at this
          exact fun y hy => cpn y (this.1.mem y hy)
        refine ⟨_, rfl, Nat.zero_le _, fun q nq => ?_⟩
        have sq := same_new (o := .lst []) nq
        have hz5 : Paired (Ls (upd H4 q (.lst []))) zs (someW ws ns) := L2.Paired.mapP hz4 fun x v ⟨q, e, h⟩ => ⟨q, e, sq _ _ h⟩
        refine ⟨.list ((someW ws ns).map lD), .list [], .lst (SqL.of (sq _ _ h4)) (Ls.dp hz5), .lst (SqL.of upd_same) .nil, lD_lDs_shaped cps, by decide +kernel, _, rfl, ?_⟩
        rw [ne_nil_ls]
        have sB := (sA.trans s4).trans sq
        cases eS : someW ws ns with
        | nil =>
          refine iteF ?_
          exact k0 eS _ sB
        | cons v0 r0 =>
          refine iteT ?_
          have lz2 := Pd.len hz5
          refine ⟨_, rfl, M, zs, fun i => ((someW ws ns)[i]?.getD []).length, rfl, SqL.of (sq _ _ h4), by rw [lz2, eS]; exact Nat.succ_pos _, fun i v hv => ?_, fun i v hv hmin => ?_⟩
          · obtain ⟨u, hu, q', rfl, hq'⟩ := Pd.get hz5 hv
            refine ⟨q', _, rfl, SqL.of hq', ?_⟩
            show _ = ((someW ws ns)[i]?.getD []).length
            rw [hu, List.length_map]
            rfl
          · obtain ⟨u, hu, q', rfl, hq'⟩ := Pd.get hz5 hv
            refine k1 u ⟨i, hu, fun j u' hu' => ?_⟩ q' _ ?_ hq' sB
            · have := hmin j (by rw [lz2]; exact (List.getElem?_eq_some_iff.mp hu').1)
              dsimp only at this
              rw [hu, hu'] at this
              exact this
            · obtain ⟨_, _, _, hnw⟩ := Pd.get hzs hv
              exact hnw q' rfl
end
end KA
set_option Elab.async false
set_option linter.all false
set_option maxRecDepth 100000
set_option maxHeartbeats 4000000
namespace KA
open PySem PySem.Spec PyProof.Rows L2
/-! ### dict(pairs), the keys tuples -/
abbrev TK (P : Program) (w : World) := tupleKind (mixKind P w)
abbrev Tri := List Key × Addr × Value
def putAll (acc : List Tri) (ps : List Tri) : List Tri := ps.foldl (fun acc q => storedH acc q.1 q.2.1 q.2.2) acc
theorem isKey_kept {P : Program} {w : World} {h h' : Heap} {k : List Key} {a : Addr} (x : (TK P w).is h k a) (kp : ∀ o, h.get? a = some o → h'.get? a = some o) : (TK P w).is h' k a := by
  obtain ⟨o, items, n, h1, h2, h3, h4⟩ := x
  exact ⟨o, items, n, kp o h1, h2, h3, h4⟩
theorem storedH_len (acc : List Tri) (k : List Key) (a : Addr) (v : Value) : (storedH acc k a v).length ≤ acc.length + 1 := by
  unfold storedH
  split
  · rw [List.length_map]; omega
  · rw [List.length_append]; exact Nat.le_refl _
theorem dictOfH_kept {P : Program} {w : World} {h h' : Heap} {d : Addr} {xs : List Tri} (x : h.DictOfH (TK P w) d xs) (k1 : ∀ o, h.get? d = some o → h'.get? d = some o) (k2 : ∀ q ∈ xs, ∀ o, h.get? q.2.1 = some o → h'.get? q.2.1 = some o) : h'.DictOfH (TK P w) d xs := by
  obtain ⟨o, es, ep, h1, h2, h3, h4, h5, h6⟩ := x
  exact ⟨o, es, ep, k1 o h1, h2, h3, h4, fun q hq => isKey_kept (h5 q hq) (k2 q hq), h6⟩
theorem storedH_keys {acc : List Tri} {k : List Key} {a : Addr} {v : Value} {q : Tri} (h : q ∈ storedH acc k a v) : (∃ p ∈ acc, p.2.1 = q.2.1) ∨ q.2.1 = a := by
  unfold storedH at h
  split at h
  · obtain ⟨p, hp, e⟩ := List.mem_map.mp h
    refine .inl ⟨p, hp, ?_⟩
    rw [← e]
    unfold putAt
    split <;> rfl
  · rcases List.mem_append.mp h with h | h
    · exact .inl ⟨q, h, rfl⟩
    · rw [List.mem_singleton.mp h]
      exact .inr rfl
section
variable {P : Program} {w : World} {A : Around}
/-- the loop that fills the dict at S from the list at l, by the iterator at I -/
theorem fillT {R : Result → Shared → Prop} {S I l : Addr} {items : Array Value} {res : Value} (hh : A.handled = none) (hu : A.units + 1 < cLine) (lI : l ≠ I) (SI : S ≠ I) (Sl : S ≠ l) :
    ∀ (rest : List Tri) (i : Nat) (acc : List Tri) (ix : Int) (t : Tok) (s : Shared), items.size = i + rest.length → acc.length + rest.length ≤ sizeLine →
      (∀ (j : Nat) (q : Tri), rest[j]? = some q → ∃ b, items[i + j]? = some (.ref b) ∧ b ≠ S ∧ b ≠ I ∧ q.2.1 ≠ S ∧ q.2.1 ≠ I ∧ IsTup s.heap b #[.ref q.2.1, q.2.2] ∧ (TK P w).is s.heap q.1 q.2.1) →
      (∀ q ∈ acc, q.2.1 ≠ S ∧ q.2.1 ≠ I) → s.heap.IsListIter I l i → s.heap.IsList l items → s.heap.DictOfH (TK P w) S acc →
      (∀ h' tk, h'.DictOfH (TK P w) S (putAll acc rest) → (∀ b o, b ≠ S → b ≠ I → s.heap.get? b = some o → h'.get? b = some o) → R (.ok (.ret res)) { s with heap := h', toks := tk }) →
      codeAny (model P w) A (.builtin "dict.update.loop" ⟨[.ref S, .ref I, .int ix t, res], []⟩) R s
  | [], i, acc, ix, t, s, hsz, hln, ht, ha, hit, hl, hm, hR => by
    refine codeAny_builtin ud_entry ?_
    rw [Around.under_plainId ud_plain _]
    show wpAny _ A.in1 (pyNext (.ref I) >>= _) _ _ s
    refine wpAny_bind (wpAny_pyNext_list_end (A := A.in1) hh hit hl (Array.getElem?_eq_none (by simp at hsz; omega)) fun h' he => ?_)
    show wpAny _ A.in1 (Builtin.Dict.addKeywords S [] >>= _) _ _ _
    refine wpAny_bind (wpAny_pure (wpAny_pure ?_))
    exact hR h' s.toks (dictOfH_kept hm (fun o e => he S o SI e) fun q hq o e => he _ o (ha q hq).2 e) fun b o _ hb e => he b o hb e
  | q :: rest, i, acc, ix, t, s, hsz, hln, ht, ha, hit, hl, hm, hR => by
    obtain ⟨b, hb, bS, bI, kS, kI, htup, hk⟩ := ht 0 q rfl
    rw [List.length_cons] at hsz hln
    refine codeAny_builtin ud_entry ?_
    rw [Around.under_plainId ud_plain _]
    show wpAny _ A.in1 (pyNext (.ref I) >>= _) _ _ s
    refine wpAny_bind (wpAny_pyNext_list_item (x := .ref b) hit hl (by simpa using hb) fun h1 hit1 hs1 => ?_)
    have e1 := hs1.extBut
    have hm1 : h1.DictOfH (TK P w) S acc := dictOfH_kept hm (fun o e => e1 S o SI e) fun p hp o e => e1 _ o (ha p hp).2 e
    have hk1 : (TK P w).is h1 q.1 q.2.1 := isKey_kept hk fun o e => e1 _ o kI e
    obtain ⟨o, ho, hc, n, hd⟩ := htup.extBut e1 bI
    show wpAny _ A.in1 (holding [Value.ref b] _ >>= _) _ _ _
    refine wpAny_bind (wpAny_holding (wpAny_bind (wpAny_tryCatch ?_)))
    unfold Builtin.Dict.pairItems
    refine wpAny_bind (wpAny_typeOf (T := "tuple") ⟨o, ho, hc⟩ ?_)
    rw [if_pos (by first | decide | rfl | simp)]
    refine wpAny_bind (wpAny_seqItems ho hd (wpAny_pure ?_))
    show wpAny _ A.in1 (holding [Value.ref q.2.1, q.2.2] (dictSet S (.ref q.2.1) q.2.2)) _ _ _
    refine wpAny_holding (wpAny_dictSet_heap (knd := TK P w) (k := q.1) (show A.in1.units < cLine from hu) hk1 hm1 (fun h2 hm2 hs2 => ?_) (by omega))
    have e2 := hs2.extBut
    have le := storedH_len acc q.1 q.2.1 q.2.2
    refine wpAny_pure ⟨plainId_quiet ud_plain _, fillT hh hu lI SI Sl rest (i + 1) (storedH acc q.1 q.2.1 q.2.2) (ix + 1) 0 _ (show items.size = i + 1 + rest.length by omega) (by omega) (fun j p e => ?_) (fun p hp => ?_) ?_ ?_ hm2 fun h' tk hd' k => ?_⟩
    · obtain ⟨b', hb', x1, x2, x3, x4, x5, x6⟩ := ht (j + 1) p (by simpa using e)
      refine ⟨b', ?_, x1, x2, x3, x4, (x5.extBut e1 x2).extBut e2 x1, isKey_kept x6 fun o z => e2 _ o x3 (e1 _ o x4 z)⟩
      rw [show i + 1 + j = i + (j + 1) by omega]
      exact hb'
    · rcases storedH_keys hp with ⟨p', hp', z⟩ | z
      · exact z ▸ ha p' hp'
      · exact z ▸ ⟨kS, kI⟩
    · exact hit1.at fun o' z => e2 I o' (Ne.symm SI) z
    · exact (hl.extBut e1 lI).extBut e2 (Ne.symm Sl)
    · exact hR h' tk hd' fun c oc h3 h4 z => k c oc h3 h4 (e2 c oc h3 (e1 c oc h4 z))
theorem newDictT {E : Value → Shared → Prop} {s : Shared} {l : Addr} {ol : Obj} {items : Array Value} {n : Nat} {prs : List Tri} {Q : Value → Shared → Prop} (hh : A.handled = none) (hu : A.units + 4 < cLine) (hl : s.heap.get? l = some ol) (hc : ol.cls = .type "list") (hd : ol.dict = none)
    (hdat : ol.data = .seq items n) (hsz : items.size = prs.length) (hln : prs.length ≤ sizeLine) (ht : ∀ (j : Nat) (q : Tri), prs[j]? = some q → ∃ b, items[j]? = some (.ref b) ∧ IsTup s.heap b #[.ref q.2.1, q.2.2] ∧ (TK P w).is s.heap q.1 q.2.1)
    (h : ∀ h' tk, h'.DictOfH (TK P w) s.heap.objs.size (putAll [] prs) → (∀ b o, s.heap.get? b = some o → h'.get? b = some o) → Q (.ref s.heap.objs.size) { s with heap := h', toks := tk }) :
    wpAny (model P w) A (call (.type "dict") [.ref l]) Q E s := by
  obtain ⟨S, eS⟩ : ∃ S, S = s.heap.objs.size := ⟨_, rfl⟩
  obtain ⟨h0, eh0⟩ : ∃ h0 : Heap, h0 = s.heap.push { cls := .type "dict", data := .dict #[] } := ⟨_, rfl⟩
  refine callType_codes (Q₁ := fun obj s₁ => obj = .ref S ∧ s₁ = { s with heap := h0 }) PySem.F.kt_called_dict (PySem.F.kt_typeCall_dict_1 _) PySem.F.entry_dict_init (kt_code_dict_new _ ⟨by rw [eS], by rw [eh0]⟩) ?_
  rintro obj s₁ ⟨rfl, rfl⟩
  have k0 : ∀ b o, s.heap.get? b = some o → h0.get? b = some o := fun b o e => eh0 ▸ Heap.get?_push_of_some _ e
  have g0 : h0.get? S = some { cls := .type "dict", data := .dict #[] } := by rw [eh0, eS]; exact Heap.get?_push_size _ rfl
  have ex : ({ cls := .type "dict", data := .dict #[] } : Obj).ExactDict := ⟨rfl, rfl, rfl⟩
  have d0 : h0.DictOfH (TK P w) S [] := ⟨_, #[], 0, g0, ex, rfl, rfl, (fun q hq => nomatch hq), List.nodup_nil⟩
  have ty0 : ({ s with heap := h0 } : Shared).TypeIs (.ref S) "dict" := d0.typeIs (s := { s with heap := h0 })
  refine ⟨ty0, PySem.F.args_dict_init_2 _ _, ?_⟩
  unfold Builtin.«dict.__init__» Builtin.Dict.selfAndRest
  refine wpAny_bind (wpAny_bind (wpAny_notOrdered_dict ty0 (show wpAny _ _ (pure (S, [Value.ref l])) _ _ _ from wpAny_pure ?_)))
  show wpAny _ _ (Builtin.Dict.updateFrom "dict.__init__" S (.ref l) [] .none) _ _ _
  unfold Builtin.Dict.updateFrom
  refine wpAny_bind (wpAny_typeOf (T := "list") ⟨ol, k0 _ _ hl, hc⟩ ?_)
  rw [if_pos (by first | decide | rfl | simp)]
  refine wpAny_bind (miss_list (k0 _ _ hl) hc hdat hd hh fun h1 tk1 k1 => ?_)
  rw [if_pos (show (none : Option Value).isNone = true from rfl)]
  have l1 : h1.IsList l items := ⟨ol, k1 _ _ (k0 _ _ hl), hc, n, hdat⟩
  have S1 : S < h1.objs.size := Heap.lt_size (k1 _ _ g0)
  have lS : l < S := eS ▸ Heap.lt_size hl
  refine wpAny_bind (wpAny_rule (wpAny_bind (wpAny_pyIter_list l1 ?_)))
  obtain ⟨h2, eh2⟩ : ∃ h2 : Heap, h2 = h1.push { cls := .type "list_iterator", data := .fields #[.ref l, .int 0 0] } := ⟨_, rfl⟩
  have k2 : ∀ b o, h1.get? b = some o → h2.get? b = some o := fun b o e => eh2 ▸ Heap.get?_push_of_some _ e
  have k02 : ∀ b o, s.heap.get? b = some o → h2.get? b = some o := fun b o e => k2 _ _ (k1 _ _ (k0 _ _ e))
  have it2 : h2.IsListIter h1.objs.size l 0 := by rw [eh2]; exact ⟨_, Heap.get?_push_size _ rfl, rfl, rfl⟩
  have low : ∀ {b : Addr} {o : Obj}, s.heap.get? b = some o → b ≠ S ∧ b ≠ h1.objs.size := fun {b o} e => by
    have := Heap.lt_size e
    rw [← eS] at this
    exact ⟨Nat.ne_of_lt this, Nat.ne_of_lt (Nat.lt_trans this S1)⟩
  rw [← eh2]
  have key := fillT (P := P) (w := w) (A := A.in1) (R := wants (fun r s₂ => r = .none ∧ Q (.ref S) s₂) E) (S := S) (I := h1.objs.size) (l := l) (items := items) (res := Value.none) hh (show A.units + 1 + 1 < cLine by omega)
    (Nat.ne_of_lt (Nat.lt_trans lS S1)) (Nat.ne_of_lt S1) (Nat.ne_of_gt lS) prs 0 [] 0 0 { s with heap := h2, toks := tk1 } (by omega) (by simpa using hln)
    (fun j q e => by
      obtain ⟨b, e1, e2, e3⟩ := ht j q e
      obtain ⟨ob, eb, r⟩ := id e2
      obtain ⟨ok, _, _, ek, _⟩ := id e3
      exact ⟨b, by rw [Nat.zero_add]; exact e1, (low eb).1, (low eb).2, (low ek).1, (low ek).2, ⟨ob, k02 _ _ eb, r⟩, isKey_kept e3 fun o z => k02 _ _ z⟩)
    (fun q hq => nomatch hq) it2 (l1.at fun o e => k2 _ _ e) (dictOfH_kept d0 (fun o e => k2 _ _ (k1 _ _ e)) (fun q hq => nomatch hq))
    (fun h' tk hd' kk => ⟨rfl, by rw [eS]; exact h h' tk (eS ▸ hd') fun b o e => kk b o (low e).1 (low e).2 (k02 _ _ e)⟩)
  first
    | exact wpAny_pure ⟨plainId_quiet ud_plain _, key⟩
    | exact wpAny_bind (wpAny_pure (wpAny_pure ⟨plainId_quiet ud_plain _, key⟩))
end
/-- dict(ps), ps a list of pairs of a tuple and a value -/
def rDictT (K : PySem.W.Frag) : List V → Hp → VK → Prop := fun xs H Q => ∃ (a : Addr) (ps : List Addr) (kvs : List (List Key × V)), xs = [.ref a] ∧ SqL K H a (ps.map V.ref) ∧ Paired (fun p (kv : List Key × V) => ∃ b, SqT K H p [.ref b, kv.2] ∧ H b = some (.tup (kv.1.map kV))) ps kvs ∧
  ∀ p, H p = none → Q (.ref p) (upd H p (.dT (kvs.foldl (fun acc kv => putK acc kv.1 kv.2) [])))
theorem putK_folds (kvs : List (List Key × V)) : ∀ acc : List (List Key × V), (kvs.foldl (fun acc kv => putK acc kv.1 kv.2) acc).length ≤ acc.length + kvs.length := by
  induction kvs with
  | nil => intro acc; simp
  | cons kv r ih =>
    intro acc
    have h1 := ih (putK acc kv.1 kv.2)
    have h2 := length_putK acc kv.1 kv.2
    rw [List.foldl_cons, List.length_cons]
    omega
theorem kt_all {H : Hp} : ∀ {kvs : List (List Key × V)} {prs : List Tri} {acc : List (List Key × V)} {xs : List Tri}, Paired (fun (p : List Key × V) (q : Tri) => p.1 = q.1 ∧ H q.2.1 = some (.tup (p.1.map kV)) ∧ RelV p.2 q.2.2) kvs prs → L2.KT H acc xs →
    L2.KT H (kvs.foldl (fun acc kv => putK acc kv.1 kv.2) acc) (putAll xs prs)
  | _, _, _, _, .nil, h => h
  | kv :: kvs, q :: prs, acc, xs, .cons ⟨e, h1, h2⟩ r, h => by
    have h3 : L2.KT H (putK acc kv.1 kv.2) (storedH xs q.1 q.2.1 q.2.2) := e ▸ h.put kv.1 h1 h2
    exact kt_all (kvs := kvs) (prs := prs) r h3
theorem cr_dictT {X : Cx} (calm : X.calm = true) (hu : X.A.units + 64 < cLine) : CallR X (.type "dict") (rDictT X.K) := by
  intro pins s σ H xs us Q I r h
  obtain ⟨a, ps, kvs, rfl, hs, hp, q⟩ := h
  rw [Vals.ref1 r]
  obtain ⟨its, rv, pl, hz⟩ := I.list hs
  have ei := refs_at rv
  subst ei
  rw [List.length_map] at hz
  have mk : ∀ {ps : List Addr} {kvs : List (List Key × V)}, Paired (fun p (kv : List Key × V) => ∃ b, SqT X.K H p [.ref b, kv.2] ∧ H b = some (.tup (kv.1.map kV))) ps kvs → ∃ prs : List Tri, prs.length = ps.length ∧
      Paired (fun (p : List Key × V) (q : Tri) => p.1 = q.1 ∧ H q.2.1 = some (.tup (p.1.map kV)) ∧ RelV p.2 q.2.2) kvs prs ∧ ∀ (j : Nat) (q : Tri), prs[j]? = some q → ∃ p, ps[j]? = some p ∧ IsTup s.heap p #[.ref q.2.1, q.2.2] ∧ (TK X.prog X.w).is s.heap q.1 q.2.1 := fun {ps kvs} hp => by
    induction hp with
    | nil => exact ⟨[], rfl, .nil, fun j q e => by simp at e⟩
    | @cons p kv ps kvs h1 h2 ih =>
      obtain ⟨prs, e1, e2, e3⟩ := ih
      obtain ⟨b, hb, hk⟩ := h1
      obtain ⟨jts, rj, tj, _⟩ := I.tuple hb
      obtain ⟨u, y, ej, ru, ry⟩ := vals2 rj
      subst ej
      cases (show u = Value.ref b from ru)
      refine ⟨(kv.1, b, y) :: prs, by rw [List.length_cons, List.length_cons, e1], .cons ⟨rfl, hk, ry⟩ e2, fun j q e => ?_⟩
      cases j with
      | zero =>
        cases (show (kv.1, b, y) = q from Option.some.inj e)
        exact ⟨p, rfl, tj, key_of I.hok hk⟩
      | succ j => exact e3 j q e
  obtain ⟨prs, l1, pq, at_⟩ := mk hp
  have lk := Pd.len hp
  obtain ⟨o, n, ho, hc, hd, hdat⟩ := pl
  have low : (s.heap.objs.size == sysModules) = false := beq_eq_false_iff_ne.mpr (Nat.ne_of_gt I.big)
  refine newDictT (prs := prs) (I.ok.hd calm) (by omega) ho hc hd hdat (by rw [List.size_toArray, List.length_map, l1]) (by omega) (fun j t e => ?_) fun h' tk hd' kp => ?_
  · obtain ⟨p, e1, e2, e3⟩ := at_ j t e
    exact ⟨p, by rw [List.getElem?_toArray, List.getElem?_map, e1]; rfl, e2, e3⟩
  · obtain ⟨ob, es, ep, q1, q2, q3, q4, _, q5⟩ := hd'
    have nw : H s.heap.objs.size = none := I.hok.fresh (Nat.le_refl _)
    have len := putK_folds kvs []
    refine ⟨.ref s.heap.objs.size, upd H s.heap.objs.size (.dT (kvs.foldl (fun acc kv => putK acc kv.1 kv.2) [])), I.laid (t' := tk) kp (Nat.le_refl _) ⟨by simp at len; omega, low, putAll [] prs, ?_, ob, es, ep, q1, q2, q3, q4, q5⟩, rfl, q _ nw⟩
    refine (kt_all pq .nil).keeps fun c ys ec => ?_
    rw [upd_ne (ne_of_none ec nw)]
    exact ec
end KA
set_option Elab.async false
set_option linter.all false
set_option maxRecDepth 100000
set_option maxHeartbeats 4000000
namespace KA
open PySem
/-! ### the length of a shortest ring, by all ways -/
section
variable (ws : List (List Str)) (ns : List Str)
/-- a step from the last of w to its first -/
def clo (w : List Str) : Bool := match w.head? with
  | some a => stp ws w a
  | none => false
def extN (w : List Str) (acc : List (List Str)) (n : Str) : List (List Str) := if stp ws w n = true ∧ n ∉ w then addU acc (w ++ [n]) else acc
def extW (acc : List (List Str)) (w : List Str) : List (List Str) := ns.foldl (extN ws w) acc
def ext (ls : List (List Str)) : List (List Str) := ls.foldl (extW ws ns) []
def shr : Nat → Nat → List (List Str) → Nat
  | 0, _, _ => 0
  | r + 1, k, ls => if 1 < k ∧ (ls.any (clo ws)) = true then k else shr r (k + 1) (ext ws ns ls)
def ones : List (List Str) := uq (ns.map fun n => [n])
def shortest : Nat := shr ws ns ns.length 1 (ones ns)
end
section
variable {ws : List (List Str)} {ns : List Str}
theorem mem_extN {w v : List Str} {acc : List (List Str)} {n : Str} : v ∈ extN ws w acc n ↔ v ∈ acc ∨ (v = w ++ [n] ∧ stp ws w n = true ∧ n ∉ w) := by
  unfold extN
  split
  · rename_i c
    rw [addU_mem]
    exact ⟨fun h => h.imp id fun e => ⟨e, c⟩, fun h => h.imp id fun e => e.1⟩
  · rename_i c
    exact ⟨.inl, fun h => h.elim id fun e => absurd e.2 c⟩
theorem mem_foldN {w v : List Str} : ∀ {us : List Str} {acc : List (List Str)}, v ∈ us.foldl (extN ws w) acc ↔ v ∈ acc ∨ ∃ n ∈ us, v = w ++ [n] ∧ stp ws w n = true ∧ n ∉ w
  | [], acc => by simp
  | u :: us, acc => by
    rw [List.foldl_cons, mem_foldN (us := us), mem_extN]
    constructor
    · rintro ((h | h) | ⟨n, hn, h⟩)
      · exact .inl h
      · exact .inr ⟨u, List.mem_cons_self .., h⟩
      · exact .inr ⟨n, List.mem_cons_of_mem _ hn, h⟩
    · rintro (h | ⟨n, hn, h⟩)
      · exact .inl (.inl h)
      · rcases List.mem_cons.mp hn with rfl | hn
        · exact .inl (.inr h)
        · exact .inr ⟨n, hn, h⟩
theorem mem_foldW {v : List Str} : ∀ {ls acc : List (List Str)}, v ∈ ls.foldl (extW ws ns) acc ↔ v ∈ acc ∨ ∃ w ∈ ls, ∃ n ∈ ns, v = w ++ [n] ∧ stp ws w n = true ∧ n ∉ w
  | [], acc => by simp
  | u :: us, acc => by
    rw [List.foldl_cons, mem_foldW (ls := us), extW, mem_foldN]
    constructor
    · rintro ((h | h) | ⟨n, hn, h⟩)
      · exact .inl h
      · exact .inr ⟨u, List.mem_cons_self .., h⟩
      · exact .inr ⟨n, List.mem_cons_of_mem _ hn, h⟩
    · rintro (h | ⟨n, hn, h⟩)
      · exact .inl (.inl h)
      · rcases List.mem_cons.mp hn with rfl | hn
        · exact .inl (.inr h)
        · exact .inr ⟨n, hn, h⟩
theorem mem_ext {ls : List (List Str)} {v : List Str} : v ∈ ext ws ns ls ↔ ∃ w ∈ ls, ∃ n ∈ ns, v = w ++ [n] ∧ stp ws w n = true ∧ n ∉ w := by
  unfold ext
  rw [mem_foldW]
  simp
/-- a way of k unlike names by steps -/
def Pth (ws : List (List Str)) (ns : List Str) (k : Nat) (w : List Str) : Prop := ∃ s, Way ws ns s w ∧ w.length = k
theorem Way.init {s : Str} {w : List Str} {n : Str} (h : Way ws ns s (w ++ [n])) (hw : w ≠ []) : Way ws ns s w ∧ stp ws w n = true ∧ n ∉ w := by
  obtain ⟨l, hl⟩ : ∃ l, w.getLast? = some l := ⟨_, List.getLast?_eq_getLast hw⟩
  have nd := List.nodup_append.mp h.nd
  refine ⟨⟨?_, nd.1, fun i x y hx hy => ?_, fun x hx => h.mem x (List.mem_append_left _ hx)⟩, ?_, fun q => nd.2.2 n q n (List.mem_singleton.mpr rfl) rfl⟩
  · have := h.hd
    rw [List.head?_append] at this
    cases w with
    | nil => exact absurd rfl hw
    | cons a r => exact this
  · have l1 := (List.getElem?_eq_some_iff.mp hy).1
    refine h.chain i x y ?_ ?_
    · rw [List.getElem?_append_left (by omega)]; exact hx
    · rw [List.getElem?_append_left l1]; exact hy
  · rw [stp_iff hl]
    have lp : 0 < w.length := List.length_pos_iff.mpr hw
    refine h.chain (w.length - 1) l n ?_ ?_
    · rw [List.getElem?_append_left (by omega)]
      rw [List.getLast?_eq_getElem?] at hl
      exact hl
    · rw [Nat.sub_add_cancel lp, List.getElem?_append_right (Nat.le_refl _), Nat.sub_self]
      rfl
theorem pth_next {k : Nat} {ls : List (List Str)} (hk : 1 ≤ k) (h : ∀ v, v ∈ ls ↔ Pth ws ns k v) : ∀ v, v ∈ ext ws ns ls ↔ Pth ws ns (k + 1) v := by
  intro v
  rw [mem_ext]
  constructor
  · rintro ⟨w, hw, n, hn, rfl, h1, h2⟩
    obtain ⟨s, hs, hl⟩ := (h w).mp hw
    obtain ⟨l, e1, e2⟩ := stp_last h1
    exact ⟨s, hs.snoc e1 e2 h2 hn, by rw [List.length_append, hl]; rfl⟩
  · rintro ⟨s, hs, hl⟩
    have hv : v ≠ [] := fun e => by rw [e] at hl; simp at hl
    have ev := List.dropLast_concat_getLast hv
    have hw : v.dropLast ≠ [] := fun e => by
      have := List.length_dropLast (xs := v)
      rw [e, hl] at this
      simp at this
      omega
    rw [← ev] at hs
    obtain ⟨h1, h2, h3⟩ := hs.init hw
    refine ⟨v.dropLast, (h _).mpr ⟨s, h1, by rw [List.length_dropLast, hl]; rfl⟩, v.getLast hv, ?_, ev.symm, h2, h3⟩
    exact hs.mem _ (List.mem_append_right _ (List.mem_singleton.mpr rfl))
theorem pth_one : ∀ v, v ∈ ones ns ↔ Pth ws ns 1 v := by
  intro v
  rw [ones, uq_mem, List.mem_map]
  constructor
  · rintro ⟨n, hn, rfl⟩
    refine ⟨n, ⟨rfl, List.pairwise_singleton .., fun i x y hx hy => ?_, fun x hx => by rw [List.mem_singleton.mp hx]; exact hn⟩, rfl⟩
    have := (List.getElem?_eq_some_iff.mp hy).1
    simp at this
  · rintro ⟨s, hs, hl⟩
    cases v with
    | nil => simp at hl
    | cons a r =>
      cases r with
      | nil => exact ⟨a, hs.mem a (List.mem_cons_self ..), rfl⟩
      | cons b r => simp at hl
/-- a ring of k names -/
def Rg_ (ws : List (List Str)) (ns : List Str) (k : Nat) : Prop := ∃ v, Pth ws ns k v ∧ clo ws v = true
theorem shr_ok : ∀ (r k : Nat) (ls : List (List Str)), 1 ≤ k → (∀ v, v ∈ ls ↔ Pth ws ns k v) →
    (shr ws ns r k ls = 0 → ∀ j, k ≤ j → j < k + r → 1 < j → ¬ Rg_ ws ns j) ∧ (∀ m, shr ws ns r k ls = m → m ≠ 0 → 1 < m ∧ Rg_ ws ns m ∧ ∀ j, k ≤ j → j < m → 1 < j → ¬ Rg_ ws ns j)
  | 0, k, ls, hk, h => ⟨fun _ j h1 h2 => by omega, fun m e n => absurd e.symm n⟩
  | r + 1, k, ls, hk, h => by
    unfold shr
    have ih := shr_ok r (k + 1) (ext ws ns ls) (by omega) (pth_next hk h)
    by_cases c : 1 < k ∧ (ls.any (clo ws)) = true
    · rw [if_pos c]
      obtain ⟨v, hv, hc⟩ := List.any_eq_true.mp c.2
      exact ⟨fun e => by omega, fun m e n => ⟨by omega, by rw [← e]; exact ⟨v, (h v).mp hv, hc⟩, fun j h1 h2 => by omega⟩⟩
    · rw [if_neg c]
      have nk : 1 < k → ¬ Rg_ ws ns k := fun hk1 ⟨v, hv, hc⟩ => c ⟨hk1, List.any_eq_true.mpr ⟨v, (h v).mpr hv, hc⟩⟩
      refine ⟨fun e j h1 h2 h3 => ?_, fun m e n => ?_⟩
      · rcases Nat.lt_or_ge k j with q | q
        · exact ih.1 e j q (by omega) h3
        · exact (show j = k by omega) ▸ nk (by omega)
      · obtain ⟨a, b, d⟩ := ih.2 m e n
        refine ⟨a, b, fun j h1 h2 h3 => ?_⟩
        rcases Nat.lt_or_ge k j with q | q
        · exact d j q h2 h3
        · exact (show j = k by omega) ▸ nk (by omega)
theorem Way.rch {s : Str} {w : List Str} (h : Way ws ns s w) : ∀ (i : Nat) (x : Str), w[i]? = some x → Rch ws s i x
  | 0, x, e => by
    have := h.hd
    rw [List.head?_eq_getElem?, e] at this
    rw [Option.some.inj this]
    exact .z
  | i + 1, x, e => by
    have li := (List.getElem?_eq_some_iff.mp e).1
    exact .s (h.rch i w[i] (List.getElem?_eq_getElem (by omega))) (h.chain i _ x (List.getElem?_eq_getElem (by omega)) e)
theorem Way.short {s : Str} {w : List Str} (h : Way ws ns s w) : w.length ≤ ns.length := nd_sub_len h.nd h.mem
/-- the two agree -/
theorem rings_agree (hw : ∀ l ∈ ws, ∃ u v, l = [u, v] ∧ u ∈ ns ∧ v ∈ ns ∧ u ≠ v) :
    (shortest ws ns = 0 → someW ws ns = []) ∧ (shortest ws ns ≠ 0 → someW ws ns ≠ []) ∧ (∀ v, IsMin (someW ws ns) v → v.length = shortest ws ns ∧ v.Nodup ∧ (∀ x ∈ v, x ∈ ns) ∧ (∀ (i : Nat) (x y : Str), v[i]? = some x → v[i + 1]? = some y → [x, y] ∈ ws) ∧ clo ws v = true ∧ v ≠ []) := by
  obtain ⟨z0, z1⟩ := shr_ok (ws := ws) (ns := ns) ns.length 1 (ones ns) (Nat.le_refl _) pth_one
  -- a way of sort_ring is a ring
  have ring : ∀ v ∈ someW ws ns, Rg_ ws ns v.length ∧ 1 < v.length ∧ v.length ≤ ns.length ∧ (∃ s, Way ws ns s v) ∧ clo ws v = true := fun v hv => by
    obtain ⟨s, ms, es⟩ := List.mem_filterMap.mp hv
    have b := wayBack_ok hw ms
    rw [es] at b
    obtain ⟨b1, b2, _⟩ := b
    have c : clo ws v = true := by
      unfold clo
      rw [b1.hd]
      exact b2
    have l1 : 1 < v.length := by
      rcases Nat.lt_or_ge 1 v.length with q | q
      · exact q
      · exfalso
        cases v with
        | nil => exact nomatch b1.hd
        | cons a r =>
          cases r with
          | cons b r => simp at q
          | nil =>
            obtain ⟨l, e1, e2⟩ := stp_last b2
            have ea : a = s := Option.some.inj b1.hd
            have el : a = l := Option.some.inj e1
            obtain ⟨u, w, e, _, _, n⟩ := hw _ e2
            injection e with e3 e4
            injection e4 with e4 _
            exact n (by rw [← e3, ← e4, ← ea, ← el])
    exact ⟨⟨v, ⟨s, b1, rfl⟩, c⟩, l1, b1.short, ⟨s, b1⟩, c⟩
  -- a ring has a way at least as short
  have back : ∀ k, 1 < k → Rg_ ws ns k → ∃ v ∈ someW ws ns, v.length ≤ k := fun k hk ⟨v, ⟨s, h1, h2⟩, h3⟩ => by
    have ms : s ∈ ns := h1.mem s (List.mem_of_head? h1.hd)
    have b := wayBack_ok hw ms
    unfold clo at h3
    rw [h1.hd] at h3
    obtain ⟨l, e1, e2⟩ := stp_last h3
    rw [List.getLast?_eq_getElem?] at e1
    have r := h1.rch _ l e1
    cases e : wayBack ws ns s with
    | none =>
      rw [e] at b
      exact absurd e2 (b _ l r)
    | some u =>
      rw [e] at b
      refine ⟨u, List.mem_filterMap.mpr ⟨s, ms, e⟩, ?_⟩
      have := b.2.2 _ l r e2
      omega
  have nz : shortest ws ns = 0 → someW ws ns = [] := fun e => by
    cases q : someW ws ns with
    | nil => rfl
    | cons v r =>
      obtain ⟨a, b, c, _⟩ := ring v (by rw [q]; exact List.mem_cons_self ..)
      exact absurd a (z0 e v.length (by omega) (by omega) b)
  refine ⟨nz, fun n q => ?_, fun v hv => ?_⟩
  · obtain ⟨a, b, _⟩ := z1 _ rfl n
    obtain ⟨u, hu, _⟩ := back _ a b
    rw [q] at hu
    exact nomatch hu
  · obtain ⟨i, ei, hmin⟩ := hv
    have mv : v ∈ someW ws ns := List.mem_of_getElem? ei
    obtain ⟨a, b, c, ⟨s, d⟩, f⟩ := ring v mv
    have n : shortest ws ns ≠ 0 := fun e => by
      rw [nz e] at mv
      exact nomatch mv
    obtain ⟨a', b', c'⟩ := z1 _ rfl n
    obtain ⟨u, hu, lu⟩ := back _ a' b'
    obtain ⟨j, ej⟩ := List.getElem?_of_mem hu
    have h1 := (hmin j u ej).1
    have h2 : ¬ v.length < shortest ws ns := fun q => c' v.length (by omega) q b a
    refine ⟨?_, d.nd, d.mem, d.chain, f, fun e => by rw [e] at b; simp at b⟩
    have lu' : u.length ≤ shortest ws ns := lu
    omega
end
end KA
set_option Elab.async false
set_option linter.all false
set_option maxRecDepth 100000
set_option maxHeartbeats 4000000
namespace KA
open PySem PySem.Spec PyProof.Rows L2
theorem inV_strs (n : Str) (w : List Str) : inV (.str n) (w.map V.str) = decide (n ∈ w) := by
  unfold inV
  rw [List.any_map]
  induction w with
  | nil => simp
  | cons x r ih =>
    rw [List.any_cons, ih]
    by_cases e : x = n
    · subst e
      simp [eqV]
    · have e2 : ¬ n = x := fun q => e q.symm
      simp [eqV, e, e2]
theorem flat_strs (w : List Str) : (w.map V.str).all flatV = true := by
  rw [List.all_eq_true]
  intro x hx
  obtain ⟨z, _, rfl⟩ := List.mem_map.mp hx
  rfl
theorem fold_kt : ∀ (ls acc : List (List Str)), (ls.map kt1).foldl (fun acc kv => putK acc kv.1 kv.2) (acc.map kt1) = (ls.foldl addU acc).map kt1
  | [], acc => rfl
  | l :: r, acc => by
    rw [List.map_cons, List.foldl_cons, List.foldl_cons, ← fold_kt r (addU acc l)]
    exact congrArg (fun z => (r.map kt1).foldl (fun acc (kv : List Key × V) => putK acc kv.1 kv.2) z) (putK_kt acc l)
theorem kt1_get {ls : List (List Str)} {i : Nat} {k : List Key} {v : V} (h : (ls.map kt1)[i]? = some (k, v)) : ∃ l, ls[i]? = some l ∧ k.map kV = l.map V.str := by
  rw [List.getElem?_map] at h
  obtain ⟨l, hl, e⟩ := Option.map_eq_some_iff.mp h
  injection e with e1 e2
  exact ⟨l, hl, by rw [← e1, inr_kV]⟩
/-- an if by what its test leaves -/
theorem ifS {c : TT} {t u : TS} {D : Ends} {σ : L2.St} {H : Hp} (G : Bool → Hp → Prop) (hc : ∀ Q : Bool → Hp → Prop, (∀ b H1, G b H1 → Q b H1) → c σ H Q) (ht : ∀ H1, G true H1 → t D σ H1) (hu : ∀ H1, G false H1 → u D σ H1) : tIfS c t u D σ H :=
  hc _ fun b H1 g => by
    cases b with
    | true => exact iteT (ht H1 g)
    | false => exact iteF (hu H1 g)
theorem pow6 {i : Nat} (h : i < 6) : 6 ^ (i + 1) ≤ 46656 := Nat.pow_le_pow_right (by decide) (show i + 1 ≤ 6 by omega)
theorem extW_len (ws : List (List Str)) (w : List Str) : ∀ (us : List Str) (acc : List (List Str)), (us.foldl (extN ws w) acc).length ≤ acc.length + us.length
  | [], acc => by simp
  | u :: us, acc => by
    have h1 := extW_len ws w us (extN ws w acc u)
    have h2 : (extN ws w acc u).length ≤ acc.length + 1 := by
      unfold extN
      split
      · exact addU_len _ _
      · omega
    rw [List.foldl_cons, List.length_cons]
    omega
theorem ext_len (ws : List (List Str)) (ns : List Str) : ∀ (ls acc : List (List Str)), (ls.foldl (extW ws ns) acc).length ≤ acc.length + ls.length * ns.length
  | [], acc => by simp
  | u :: us, acc => by
    have h1 := ext_len ws ns us (extW ws ns acc u)
    have h2 := extW_len ws u ns acc
    rw [List.foldl_cons, List.length_cons, Nat.succ_mul]
    unfold extW at h1 ⊢
    omega
section
variable {P : Program} {w : World} {K : PySem.W.Frag} {mg : Str → Option Value} {base : Heap}
abbrev nShort : List Str := ["_law_names_here", "_law_wishes", "_law_ways", "_law_many", "_law_later", "_law_way", "_law_name"]
theorem scShort : FnScope nShort ["_law_names_here", "_law_wishes"] (defScope s__law_shortest) := ⟨rfl, rfl, rfl, by decide +kernel, rfl, by decide +kernel, by decide +kernel⟩
def spShort (K : PySem.W.Frag) : Sp := fun vs H Q _ => ∃ (a b : Addr) (ns : List Str) (ys : List V) (ws : List (List Str)), vs = [.ref a, .ref b] ∧ SqL K H a (ns.map V.str) ∧ SqL K H b ys ∧ Txs H ys ws ∧ Cp ns ∧ (∀ l ∈ ws, Cp l) ∧ ns.length ≤ 6 ∧
  ∀ H', Same H H' → Q (.int (shortest ws ns : Nat)) H'
theorem ok_short (D : Df K mg "_law_shortest" s__law_shortest ["_law_names_here", "_law_wishes"]) (T : Fre mg) : Fn P w K mg base "_law_shortest" ["_law_names_here", "_law_wishes"] 1 (spShort K) := by
  refine D.ok scShort (fun vs H Q E h => ?_) (fun f cdv A outer s H vs Q E hr h => ?_)
  · obtain ⟨_, _, _, _, _, rfl, _⟩ := h
    rfl
  · obtain ⟨a, b, ns, ys, ws, rfl, hL, hB, htx, cpn, cpw, l6, k⟩ := h
    have nd := scShort.nd
    have hu := hu_of hr
    refine ⟨_, pss_cons (ps_set (i := 2) nd rfl (.inl rfl) (pe_callTy (cr_dictT rfl hr.units) (by rfl) T.dict (by decide +kernel) (pa_cons (pe_lc (own := [("_law_name", 6)]) (g := gName 6) (tt := tYes) rfl nd (pi_list (pv 0))
          (blkOk_by (N := nShort) (sc := defScope s__law_shortest) (by decide +kernel)) (fun _ _ _ _ _ => pg_name (i := 6) nd rfl (Or.inl rfl)) (fun _ _ _ _ _ => pts_nil)
          (fun _ _ _ _ _ => pe_tup (pa_cons (pe_tup (pa_cons (pv 6) pa_nil)) (pa_cons pe_bl pa_nil)))) pa_nil)))
      (pss_cons (ps_for PassesOwn.never rfl (pi_range2 (by rfl) T.range (pa_cons pe_int (pa_cons (pe_op op_add (pe_callB call_len (by rfl) T.len PySem.boot_len (pa_cons (pv 0) pa_nil)) pe_int) pa_nil))) (pg_name (i := 3) nd rfl (.inl rfl))
        (pss_cons (ps_if (PW.pt (pw_and (pt_cmpR op_gt (pv 3) pe_int (nomark _)) (pw_and1 (pt_cmpR (op_neD hr.units) (pe_lock (pe_lc (own := [("_law_way", 5)]) (g := gName 5) rfl nd (pi_keys (pv 2))
              (blkOk_by (N := nShort) (sc := defScope s__law_shortest) (by decide +kernel)) (fun _ _ _ _ _ => pg_name (i := 5) nd rfl (Or.inl rfl))
              (fun _ _ _ _ _ => pts_one (pt_cmpR (show OpR _ _ (rInTx K false) from op_inTx (u65 hr)) (pe_tup (pa_cons (pe_ix (r := rIxT K) ix_tup (pv 5) (pe_un un_neg pe_int) (fun _ _ => rfl)) (pa_cons (pe_ix (r := rIxT K) ix_tup (pv 5) pe_int (fun _ _ => rfl)) pa_nil))) (pv 1) (by rfl)))
              (fun _ _ _ _ _ => pv 5))) (pe_lst pa_nil) (nomark _)))))
            (pss_one (ps_ret (pv 3))) pss_nil)
        (pss_cons (ps_set (i := 4) nd rfl (.inl rfl) pe_dnewT)
        (pss_cons (ps_lock (ps_for PassesOwn.never rfl (pi_keys (pv 2)) (pg_name (i := 5) nd rfl (.inl rfl))
          (pss_one (ps_for PassesOwn.never rfl (pi_list (pv 0)) (pg_name (i := 6) nd rfl (.inl rfl))
            (pss_one (ps_if (PW.pt (pw_and (pt_cmpR (op_inTx (u65 hr)) (pe_tup (pa_cons (pe_ix ix_tup (pv 5) (pe_un un_neg pe_int) (fun _ _ => rfl)) (pa_cons (pv 6) pa_nil))) (pv 1) (by rfl))
                (pw_and1 (pt_cmpR op_notIn_seq (pv 6) (pv 5) (by rfl)))))
              (pss_one (ps_dput hu (pv 4) (pe_op op_catT (pv 5) (pe_tup (pa_cons (pv 6) pa_nil))) pe_bl rfl)) pss_nil))))))
        (pss_one (ps_set (i := 2) nd rfl (.inl rfl) (pv 4)))))))
      (pss_one (ps_ret pe_int))), ?_⟩
    -- the ways of one name
    refine ⟨_, rfl, a, rfl, ⟨_, hL⟩, fun L nL => ?_⟩
    refine lc_it (walk_list (K := K) (a := a) (xs := ns.map V.str)) (fun j H3 => (∃ ps : List Addr, H3 L = some (.lst (ps.map V.ref)) ∧ Paired (fun p (kv : List Key × V) => ∃ c, H3 p = some (.tup [.ref c, kv.2]) ∧ H3 c = some (.tup (kv.1.map kV))) ps (((ns.take j).map fun n => [n]).map kt1) ∧ ps.length ≤ j) ∧ Same H H3)
      ⟨⟨[], upd_same, .nil, Nat.le_refl _⟩, same_new nL⟩ (fun j H3 _ h => h.2.seq hL) ?_ ?_
    · rintro j y H3 H3' hj ⟨⟨ps, h3, hps, lps⟩, s3⟩ ⟨rfl, hy⟩
      rw [List.getElem?_map] at hy
      obtain ⟨n, hn, rfl⟩ := Option.map_eq_some_iff.mp hy
      rw [List.length_map] at hj
      refine ⟨rfl, ?_⟩
      refine ⟨_, rfl, (by show 1 ≤ sizeLine; decide), fun t1 nt1 => ⟨by show 2 ≤ sizeLine; decide, fun t2 nt2 => ?_⟩⟩
      have e1 := same_new (o := .tup [.str n]) nt1
      have e2 := same_new (o := .tup [.ref t1, .bl true]) nt2
      have h3' := e2 _ _ (e1 _ _ h3)
      refine ⟨_, h3', ?_, ⟨ps ++ [t2], ?_, ?_, by rw [List.length_append]; exact Nat.succ_le_succ lps⟩, updN (s3.trans (e1.trans e2)) nL⟩
      · rw [List.length_map]
        exact small1000 (by omega)
      · rw [upd_same, List.map_append]
        rfl
      · have kt := ((KT.same e1).trans (KT.same e2)).trans (KT.lst (o := .lst (ps.map V.ref ++ [.ref t2])) h3')
        have kt2 := (KT.same e2).trans (KT.lst (o := .lst (ps.map V.ref ++ [.ref t2])) h3')
        rw [take_succ_of hn, List.map_append, List.map_append]
        refine Paired.snoc (L2.Paired.mapP hps fun p kv ⟨c, c1, c2⟩ => ⟨c, kt _ _ c1, kt _ _ c2⟩) ⟨t1, ?_, kt2 _ _ upd_same⟩
        exact (KT.lst (o := .lst (ps.map V.ref ++ [.ref t2])) h3') _ _ upd_same
    · rintro H3 ⟨⟨ps, h3, hps, lps⟩, s3⟩
      rw [List.length_map, List.take_length] at hps
      refine ⟨L, ps, _, rfl, SqL.of h3, L2.Paired.mapP hps fun p kv ⟨c, c1, c2⟩ => ⟨c, SqT.of c1, c2⟩, fun d0 nd0 => ?_⟩
      rw [show (((ns.map fun n => [n]).map kt1).foldl (fun acc (kv : List Key × V) => putK acc kv.1 kv.2) []) = (ones ns).map kt1 from fold_kt _ []]
      have s4 := s3.trans (same_new (o := .dT ((ones ns).map kt1)) nd0)
      generalize hH4 : upd H3 d0 (.dT ((ones ns).map kt1)) = H4 at s4
      have hd4 : H4 d0 = some (.dT ((ones ns).map kt1)) := by rw [← hH4]; exact upd_same
      -- for many in range(1, n + 1)
      refine ⟨_, rfl, _, ns.length, rfl, .inl ⟨_, s4.seq hL, by rw [List.length_map]⟩, _, _, rfl, rfl, 1, (ns.length : Int) + 1, rfl, ⟨by decide, by decide, by omega, by omega⟩, ?_⟩
      have eN : ((ns.length : Int) + 1 - 1).toNat = ns.length := by omega
      rw [eN]
      have l1 : (ones ns).length ≤ 6 ^ 1 := by
        have := uq_len (ns.map fun n => [n]) []
        rw [List.length_map] at this
        show (uq (ns.map fun n => [n])).length ≤ 6
        unfold uq
        simp at this
        omega
      refine for_range (lo := 1) (n := ns.length) (fun i σ H5 => ∃ (dW : Addr) (ls : List (List Str)) (v3 v4 v5 v6 : Option V), σ = [some (.ref a), some (.ref b), some (.ref dW), v3, v4, v5, v6] ∧ H dW = none ∧ H5 dW = some (.dT (ls.map kt1)) ∧ Same H H5 ∧
          shr ws ns (ns.length - i) (i + 1) ls = shortest ws ns ∧ ls.length ≤ 6 ^ (i + 1) ∧ ∀ v ∈ ls, v ≠ [] ∧ v.length ≤ i + 1 ∧ ∀ x ∈ v, x ∈ ns)
        ⟨d0, ones ns, none, none, none, none, rfl, s3.free nd0, hd4, s4, rfl, l1, fun v hv => ?_⟩ ?_ ?_
      · obtain ⟨n, hn, rfl⟩ := List.mem_map.mp (uq_mem.mp hv)
        exact ⟨by simp, Nat.le_refl _, fun x hx => by rw [List.mem_singleton.mp hx]; exact hn⟩
      · rintro i σ H5 hi ⟨dW, ls, v3, v4, v5, v6, rfl, nW, hdW, s5, hsh, lls, hls⟩
        have p6 := pow6 (show i < 6 by omega)
        have sl := sizeLine_eq
        have cpl : ∀ v ∈ ls, Cp v := fun v hv z hz => cpn z ((hls v hv).2.2 z hz)
        have eS : ns.length - i = (ns.length - (i + 1)) + 1 := by omega
        rw [eS] at hsh
        unfold shr at hsh
        have ends : ∀ v ∈ ls, ∃ x y, v.head? = some x ∧ v.getLast? = some y ∧ x ∈ ns ∧ y ∈ ns := fun v hv => by
          obtain ⟨h1, _, h3⟩ := hls v hv
          cases v with
          | nil => exact absurd rfl h1
          | cons x r => exact ⟨x, _, rfl, List.getLast?_eq_getLast (List.cons_ne_nil x r), h3 x (List.mem_cons_self ..), h3 _ (List.getLast_mem _)⟩
        have cp2 : ∀ x y, x ∈ ns → y ∈ ns → Cp [x, y] := fun x y mx my z hz => by
          rcases List.mem_cons.mp hz with e | hz
          · exact e ▸ cpn _ mx
          · exact (List.mem_singleton.mp hz) ▸ cpn _ my
        refine ifS (fun c H6 => c = (decide (1 < i + 1) && ls.any (clo ws)) ∧ Same H H6 ∧ H6 dW = some (.dT (ls.map kt1))) (fun Q' fin => ?_) (fun H6 g => ?_) (fun H6 g => ?_)
        · -- many > 1 and a way that closes
          refine ⟨_, rfl, _, _, rfl, rfl, decide (1 < i + 1), congrArg V.bl (by by_cases q : 1 < i + 1 <;> simp [q] <;> omega), ?_⟩
          by_cases q1 : 1 < i + 1
          · rw [decide_eq_true q1]
            refine iteT ?_
            refine ⟨dW, _, hdW, trivial, fun od => ⟨_, rfl, dW, od, rfl, .inr ⟨ls.map kt1, upd_same, fun M nM => ?_⟩⟩⟩
            have sA : Same H (upd H5 dW (.frz od (.dT (ls.map kt1)))) := updN s5 nW
            have hdA : (upd H5 dW (.frz od (.dT (ls.map kt1)))) dW = some (.frz od (.dT (ls.map kt1))) := upd_same
            generalize hHA : upd H5 dW (.frz od (.dT (ls.map kt1))) = HA at sA hdA nM
            refine lc_it walk_keysT (fun j H3 => (∃ zs, H3 M = some (.lst zs) ∧ Txs H3 zs ((ls.take j).filter (clo ws)) ∧ zs.length ≤ j) ∧ Same HA H3) ⟨⟨[], upd_same, .nil, Nat.le_refl _⟩, same_new nM⟩ (fun j H3 _ h => h.2 _ _ hdA) ?_ ?_
            · rintro j y H3 H3' hj ⟨⟨zs, h3, hzs, lz⟩, s3'⟩ ⟨rfl, kk, vv, q, hkv, rfl, hq⟩
              obtain ⟨v, hv, ev⟩ := kt1_get hkv
              rw [ev] at hq
              rw [List.length_map] at hj
              have mv := List.mem_of_getElem? hv
              obtain ⟨x, y, hx, hy, mx, my⟩ := ends v mv
              have s6 := sA.trans s3'
              refine ⟨rfl, ?_⟩
              refine ⟨_, rfl, 1, rfl, q, _, -1, .str y, rfl, rfl, SqT.of hq, atI_getLast hy, _, rfl, q, _, 0, .str x, rfl, rfl, SqT.of hq, atI_nat (j := 0) (by rw [List.getElem?_map, ← List.head?_eq_getElem?, hx]; rfl), (by show 2 ≤ sizeLine; decide), fun t nt => ?_⟩
              have st := same_new (o := .tup [.str y, .str x]) nt
              have s7 := s6.trans st
              refine ⟨_, rfl, [y, x], ws, ys, b, ⟨t, rfl, upd_same⟩, rfl, .inl (s7.seq hB), htx.kt (KT.same s7), cp2 y x my mx, cpw, _, rfl, ?_⟩
              rw [if_neg Bool.false_ne_true]
              have ec : clo ws v = decide ([y, x] ∈ ws) := by
                unfold clo stp
                rw [hx, hy]
              rw [← ec, take_succ_of hv, List.filter_append]
              cases ecv : clo ws v with
              | false =>
                refine iteF ?_
                refine ⟨⟨zs, st _ _ h3, ?_, by omega⟩, s3'.trans st⟩
                simpa [ecv] using hzs.kt (KT.same st)
              | true =>
                refine iteT ?_
                refine ⟨_, rfl, zs, st _ _ h3, (by rw [sl]; omega), ⟨zs ++ [.ref q], upd_same, ?_, by rw [List.length_append]; exact Nat.succ_le_succ lz⟩, updN (s3'.trans st) nM⟩
                have kt := (KT.same st).trans (KT.lst (o := .lst (zs ++ [.ref q])) (st _ _ h3))
                have e1 : List.filter (clo ws) [v] = [v] := by simp [ecv]
                rw [e1]
                exact Paired.snoc (hzs.kt kt) ⟨q, rfl, kt _ _ hq⟩
            · rintro H3 ⟨⟨zs, h3, hzs, lz⟩, s3'⟩
              rw [List.length_map, List.take_length] at hzs
              have hd3 := s3' _ _ hdA
              refine ⟨hd3, ?_⟩
              have nMW : M ≠ dW := fun e => by
                rw [e, hdA] at nM
                cases nM
              have kt3 : KT H3 (upd H3 dW (.dT (ls.map kt1))) := KT.upd fun xs e => by rw [hd3] at e; cases e
              have s6 : Same H (upd H3 dW (.dT (ls.map kt1))) := updN (sA.trans s3') nW
              have h3' : (upd H3 dW (.dT (ls.map kt1))) M = some (.lst zs) := by
                rw [upd_ne nMW]
                exact h3
              have hzs' := hzs.kt kt3
              have hd6 : (upd H3 dW (.dT (ls.map kt1))) dW = some (.dT (ls.map kt1)) := upd_same
              generalize hHB : upd H3 dW (.dT (ls.map kt1)) = HB at s6 h3' hzs' hd6
              refine ⟨Nat.zero_le _, fun q nq => ?_⟩
              have sq := same_new (o := .lst []) nq
              refine ⟨.list ((ls.filter (clo ws)).map tD), .list [], .lst (SqL.of (sq _ _ h3')) (hzs'.kt (KT.same sq)).dp, .lst (SqL.of upd_same) .nil, lD_tDs_shaped (fun v hv => cpl v (List.mem_filter.mp hv).1), by decide +kernel, _, rfl, ?_⟩
              rw [ne_nil_tx]
              refine fin _ _ ⟨?_, s6.trans sq, sq _ _ hd6⟩
              rw [decide_eq_true q1, Bool.true_and]
              cases e : ls.any (clo ws) with
              | true =>
                obtain ⟨v, h1, h2⟩ := List.any_eq_true.mp e
                have : v ∈ ls.filter (clo ws) := List.mem_filter.mpr ⟨h1, h2⟩
                cases e2 : ls.filter (clo ws) with
                | nil =>
                  rw [e2] at this
                  exact nomatch this
                | cons _ _ => rfl
              | false =>
                cases e2 : ls.filter (clo ws) with
                | nil => rfl
                | cons v _ =>
                  have : v ∈ ls.filter (clo ws) := by rw [e2]; exact List.mem_cons_self ..
                  obtain ⟨h1, h2⟩ := List.mem_filter.mp this
                  have : ls.any (clo ws) = true := List.any_eq_true.mpr ⟨v, h1, h2⟩
                  rw [e] at this
                  cases this
          · rw [decide_eq_false q1]
            refine iteF ?_
            exact fin _ _ ⟨by rw [decide_eq_false q1]; rfl, s5, hdW⟩
        · obtain ⟨g1, g2, g3⟩ := g
          have g1 := Bool.and_eq_true_iff.mp g1.symm
          rw [if_pos ⟨of_decide_eq_true g1.1, g1.2⟩] at hsh
          refine ⟨_, rfl, ?_⟩
          have := k H6 g2
          rw [← hsh] at this
          have e : (1 : Int) + (i : Int) = ((i + 1 : Nat) : Int) := by omega
          rw [e]
          exact this
        · obtain ⟨g1, g2, g3⟩ := g
          have nc : ¬ (1 < i + 1 ∧ ls.any (clo ws) = true) := fun q => by
            rw [decide_eq_true q.1, q.2] at g1
            cases g1
          rw [if_neg nc] at hsh
          -- later = {}
          intro dl ndl
          have sdl := same_new (o := .dT []) ndl
          have ndlH : H dl = none := g2.free ndl
          have nWl : dW ≠ dl := ne_of_none g3 ndl
          generalize hH7 : upd H6 dl (.dT []) = H7 at sdl
          have hdl : H7 dl = some (.dT (([] : List (List Str)).map kt1)) := by rw [← hH7]; exact upd_same
          have hd7 := sdl _ _ g3
          -- for way in ways
          refine ⟨dW, _, hd7, trivial, fun od => ⟨_, rfl, dW, od, rfl, .inr ⟨ls.map kt1, upd_same, ?_⟩⟩⟩
          have sA : Same H (upd H7 dW (.frz od (.dT (ls.map kt1)))) := updN (g2.trans sdl) nW
          have hdA : (upd H7 dW (.frz od (.dT (ls.map kt1)))) dW = some (.frz od (.dT (ls.map kt1))) := upd_same
          have hlA : (upd H7 dW (.frz od (.dT (ls.map kt1)))) dl = some (.dT (([] : List (List Str)).map kt1)) := by
            rw [upd_ne nWl.symm]
            exact hdl
          generalize hHA : upd H7 dW (.frz od (.dT (ls.map kt1))) = HA at sA hdA hlA
          refine for_it walk_keysT (fun j σ H3 => ∃ (v5 v6 : Option V), σ = [some (.ref a), some (.ref b), some (.ref dW), some (.int (1 + (i : Int))), some (.ref dl), v5, v6] ∧ H3 dl = some (.dT (((ls.take j).foldl (extW ws ns) []).map kt1)) ∧ H3 dW = some (.frz od (.dT (ls.map kt1))) ∧ Same H H3)
            ⟨_, _, rfl, hlA, hdA, sA⟩ (fun j σ H3 _ ⟨_, _, _, _, h, _⟩ => h) ?_ ?_
          · rintro j y σ H3 H3' hj ⟨v5, v6, rfl, hl3, hd3, s3'⟩ ⟨rfl, kk, vv, q, hkv, rfl, hq⟩
            obtain ⟨v, hv, ev⟩ := kt1_get hkv
            rw [ev] at hq
            rw [List.length_map] at hj
            have mv := List.mem_of_getElem? hv
            obtain ⟨x, y, hx, hy, mx, my⟩ := ends v mv
            have acl := ext_len ws ns (ls.take j) []
            rw [List.length_take, List.length_nil, Nat.zero_add] at acl
            have acl2 : (min j ls.length) * ns.length ≤ 46656 * 6 := Nat.mul_le_mul (by omega) l6
            generalize hac : (ls.take j).foldl (extW ws ns) [] = acc at hl3 acl
            refine ⟨_, rfl, a, rfl, ⟨_, s3'.seq hL⟩, for_list (K := K) (a := a) (xs := ns.map V.str) (fun m σ H4 => ∃ (v6 : Option V), σ = [some (.ref a), some (.ref b), some (.ref dW), some (.int (1 + (i : Int))), some (.ref dl), some (.ref q), v6] ∧
                H4 dl = some (.dT (((ns.take m).foldl (extN ws v) acc).map kt1)) ∧ H4 dW = some (.frz od (.dT (ls.map kt1))) ∧ Same H H4 ∧ H4 q = some (.tup (v.map V.str)))
              ⟨v6, rfl, hl3, hd3, s3', hq⟩ (fun m σ H4 _ ⟨_, _, _, _, h, _⟩ => h.seq hL) ?_ ?_⟩
            · rintro m z σ H4 hm ⟨v6, rfl, hl4, hd4', s4', hq4⟩
              rw [List.getElem?_map] at hm
              obtain ⟨n, hn, rfl⟩ := Option.map_eq_some_iff.mp hm
              have mn := List.mem_of_getElem? hn
              have hml := (List.getElem?_eq_some_iff.mp hn).1
              have stepE : (ns.take (m + 1)).foldl (extN ws v) acc = extN ws v ((ns.take m).foldl (extN ws v) acc) n := by
                rw [take_succ_of hn, List.foldl_append]
                rfl
              have al := extW_len ws v (ns.take m) acc
              rw [List.length_take] at al
              generalize hsj : (ns.take m).foldl (extN ws v) acc = ac at hl4 stepE al
              refine ifS (fun c H5' => c = (decide (stp ws v n = true) && decide (n ∉ v)) ∧ Same H4 H5') (fun Q' fin => ?_) (fun H5' g => ?_) (fun H5' g => ?_)
              · refine ⟨_, rfl, 1, rfl, q, _, -1, .str y, rfl, rfl, SqT.of hq4, atI_getLast hy, _, rfl, (by show 2 ≤ sizeLine; decide), fun t nt => ?_⟩
                have st := same_new (o := .tup [.str y, .str n]) nt
                have s7 := s4'.trans st
                refine ⟨_, rfl, [y, n], ws, ys, b, ⟨t, rfl, upd_same⟩, rfl, .inl (s7.seq hB), htx.kt (KT.same s7), cp2 y n my mn, cpw, _, rfl, ?_⟩
                rw [if_neg Bool.false_ne_true]
                have es : decide (stp ws v n = true) = decide ([y, n] ∈ ws) := by
                  by_cases c : [y, n] ∈ ws
                  · rw [decide_eq_true c, decide_eq_true ((stp_iff hy).mpr c)]
                  · rw [decide_eq_false c, decide_eq_false fun z => c ((stp_iff hy).mp z)]
                rw [← es]
                cases ed : decide (stp ws v n = true) with
                | false =>
                  refine iteF ?_
                  exact fin _ _ ⟨by rw [ed]; rfl, st⟩
                | true =>
                  refine iteT ?_
                  refine ⟨_, rfl, _, rfl, q, _, rfl, .inr (SqT.of (st _ _ hq4)), rfl, flat_strs v, _, rfl, ?_⟩
                  rw [if_pos rfl, inV_strs]
                  refine fin _ _ ⟨?_, st⟩
                  rw [ed, Bool.true_and]
                  by_cases c : n ∈ v <;> simp [c]
              · obtain ⟨g1, g2⟩ := g
                have g1 := Bool.and_eq_true_iff.mp g1.symm
                have c : stp ws v n = true ∧ n ∉ v := ⟨of_decide_eq_true g1.1, of_decide_eq_true g1.2⟩
                have eE : extN ws v ac n = addU ac (v ++ [n]) := if_pos c
                refine ⟨_, rfl, _, rfl, _, rfl, (by show 1 ≤ sizeLine; decide), fun t nt => ?_⟩
                have st := same_new (o := .tup [.str n]) nt
                refine ⟨q, t, _, _, rfl, rfl, SqT.of (st _ _ (g2 _ _ hq4)), SqT.of upd_same, (fun z => (hls v mv).1 (List.map_eq_nil_iff.mp z)), ?_, (fun z => nomatch z), fun _ t2 nt2 => ?_⟩
                · have := (hls v mv).2.1
                  rw [List.length_map]
                  exact Nat.le_of_lt (small1000 (by show v.length + 1 ≤ 1000; omega))
                have st2 := same_new (o := .tup (v.map V.str ++ [.str n])) nt2
                have s8 := g2.trans (st.trans st2)
                have hl8 := s8 _ _ hl4
                refine ⟨dl, _, rfl, DPut.t (k := (v ++ [n]).map Sum.inr) (b := t2) hl8 (by rw [inr_kV, List.map_append]; exact upd_same) (by rw [List.length_map, sl]; omega), ?_⟩
                refine ⟨_, rfl, ?_, ?_, updN (s4'.trans s8) ndlH, ?_⟩
                · rw [stepE, eE, upd_same, putK_kt]
                · rw [upd_ne nWl]
                  exact s8 _ _ hd4'
                · rw [upd_ne (fun z => by rw [z, hl4] at hq4; cases hq4)]
                  exact s8 _ _ hq4
              · obtain ⟨g1, g2⟩ := g
                have eE : extN ws v ac n = ac := if_neg fun c => by
                  rw [decide_eq_true c.1, decide_eq_true c.2] at g1
                  cases g1
                exact ⟨_, rfl, by rw [stepE, eE]; exact g2 _ _ hl4, g2 _ _ hd4', s4'.trans g2, g2 _ _ hq4⟩
            · rintro σ H4 ⟨v6, rfl, hl4, hd4', s4', hq4⟩
              rw [List.length_map, List.take_length] at hl4
              refine ⟨_, _, rfl, ?_, hd4', s4'⟩
              rw [take_succ_of hv, List.foldl_append, hac]
              exact hl4
          · rintro σ H3 ⟨v5, v6, rfl, hl3, hd3, s3'⟩
            rw [List.length_map, List.take_length] at hl3
            refine ⟨hd3, _, rfl, ?_⟩
            have el := ext_len ws ns ls []
            rw [List.length_nil, Nat.zero_add] at el
            refine ⟨dl, ext ws ns ls, _, _, _, _, rfl, ndlH, ?_, updN s3' nW, hsh, ?_, fun v hv => ?_⟩
            · rw [upd_ne nWl.symm]
              exact hl3
            · rw [Nat.pow_succ 6 (i + 1)]
              exact Nat.le_trans el (Nat.mul_le_mul lls l6)
            · obtain ⟨u, hu', n, hn, rfl, _, _⟩ := mem_ext.mp hv
              obtain ⟨h1, h2, h3⟩ := hls u hu'
              refine ⟨by simp, by rw [List.length_append]; exact Nat.succ_le_succ h2, fun x hx => ?_⟩
              rcases List.mem_append.mp hx with z | z
              · exact h3 x z
              · rw [List.mem_singleton.mp z]; exact hn
      · rintro σ H5 ⟨dW, ls, v3, v4, v5, v6, rfl, nW, hdW, s5, hsh, lls, hls⟩
        rw [Nat.sub_self] at hsh
        have := k H5 s5
        rw [← hsh] at this
        exact this
end
end KA
set_option Elab.async false
set_option linter.all false
set_option maxRecDepth 100000
set_option maxHeartbeats 4000000
namespace KA
open PySem PySem.Spec PyProof.Rows L2
/-! ### len(set(xs)), xs unlike texts -/
section
variable {P : Program} {w : World} {A : Around} {R : Result → Shared → Prop} {I : Addr} {fp wr : List Addr} {G : Array GenState → Array GenState → Prop} {n : Nat} {Y : Nat → Value → Prop} {St : Nat → Shared → Prop}
abbrev seen (xs : List Str) (i : Nat) : Str → Bool := fun k => (xs.take i).any (· == k)
theorem setOf_moved {h h' : Heap} {S : Addr} {f : Str → Bool} {m : Nat} (x : h.SetOf (PySem.strKind P w) S f m) (kp : ∀ o, h.get? S = some o → h'.get? S = some o) : h'.SetOf (PySem.strKind P w) S f m := by
  obtain ⟨o, es, ep, tb, ho, r⟩ := x
  exact ⟨o, es, ep, tb, kp o ho, r⟩
theorem strs_get : ∀ {us : List Value} {xs : List Str} {i : Nat} {v : Value}, StrsAre us xs → us[i]? = some v → ∃ z t, xs[i]? = some z ∧ v = .str z t
  | _, _, i, v, .nil, h => by simp at h
  | _, _, 0, v, .cons x t r, h => ⟨x, t, rfl, (Option.some.inj h).symm⟩
  | _, _, i + 1, v, .cons x t r, h => strs_get (i := i) r h
theorem set_fill (W : WalksS P w A.in1 I fp wr G n Y St) (S : Addr) (off : S ∉ fp) (xs : List Str) (nd : xs.Nodup) (ln : xs.length = n) (hv : ∀ i v, Y i v → ∃ z t, xs[i]? = some z ∧ v = .str z t) (hb : n + 1 < scanBound) (left : Nat) :
    ∀ (i : Nat) (s : Shared), n - i = left → i ≤ n → St i s → s.heap.SetOf (PySem.strKind P w) S (seen xs i) i → (∀ s', Moved (S :: wr) G s s' → s'.heap.SetOf (PySem.strKind P w) S (seen xs n) n → R (.ok (.ret .none)) s') →
      codeAny (model P w) A (.builtin "set.update.loop" ⟨[.ref S, .ref I], []⟩) R s := by
  have offW : S ∉ wr := fun q => off (W.sub _ q)
  have more : ∀ b ∈ wr, b ∈ S :: wr := fun b q => List.mem_cons_of_mem _ q
  induction left with
  | zero =>
    intro i s e1 e2 st hS fin
    cases (show i = n by omega)
    refine codeAny_builtin PyProof.Rows.F.entry_set_update_loop ?_
    rw [Around.under_plainId PyProof.Rows.F.plain_set_update_loop _]
    refine wpAny_bind (W.done s _ _ st fun s' mv => wpAny_pure (fin s' (mv.mono more) (setOf_moved hS fun o e => mv.heap S _ offW e)))
  | succ left ih =>
    intro i s e1 e2 st hS fin
    have lt : i < n := by omega
    refine codeAny_builtin PyProof.Rows.F.entry_set_update_loop ?_
    rw [Around.under_plainId PyProof.Rows.F.plain_set_update_loop _]
    refine wpAny_bind (W.item i s _ _ lt st fun v s' hY st' mv => ?_)
    obtain ⟨z, t, hz, rfl⟩ := hv i v hY
    have hS' := setOf_moved hS fun o e => mv.heap S _ offW e
    show wpAny _ A.in1 (holding [Value.str z t] (setAdd S (.str z t)) >>= _) _ _ s'
    refine wpAny_bind (wpAny_holding ?_)
    unfold setAdd
    refine wpAny_holding (wpAny_bind ((PySem.strKind P w).pyHash (k := z) (strKind_is _ _ _ _) ?_))
    refine wpAny_setAddHashed_of (knd := PySem.strKind P w) (s := { s' with toks := s'.toks + 1 }) (strKind_is _ _ _ _) rfl hS' (by omega) fun h' same hS2 => ?_
    have fresh : seen xs i z = false := by
      cases e : seen xs i z with
      | false => rfl
      | true =>
        obtain ⟨y, hy, ey⟩ := List.any_eq_true.mp e
        have ey : y = z := by simpa using ey
        subst ey
        obtain ⟨j, hj, ej⟩ := List.mem_iff_getElem.mp hy
        rw [List.length_take] at hj
        rw [List.getElem_take] at ej
        have li : i < xs.length := by omega
        have ei : xs[i] = y := Option.some.inj ((List.getElem?_eq_getElem li).symm.trans hz)
        have := (List.getElem_inj (h₀ := by omega) (h₁ := li) nd).mp (ej.trans ei.symm)
        omega
    have hS3 : h'.SetOf (PySem.strKind P w) S (seen xs (i + 1)) (i + 1) := SetOf_congr hS2 (fun k => by
        show (seen xs i k || decide (k = z)) = seen xs (i + 1) k
        unfold seen
        rw [take_succ_of hz, List.any_append]
        congr 1
        by_cases c : k = z
        · subst c; simp
        · have c2 : ¬ z = k := fun q => c q.symm
          simp [c, c2]) (by
        show (if seen xs i z then i else i + 1) = i + 1
        rw [fresh]
        rfl)
    refine wpAny_pure ⟨plainId_quiet PyProof.Rows.F.plain_set_update_loop _, ih (i + 1) _ (by omega) lt (W.frame _ s' _ _ st' (Nat.le_succ _) fun b hb o e => ?_) hS3 fun s'' mv2 hS4 => ?_⟩
    · rw [same.2 b (fun q : b = S => off (q ▸ hb))]
      exact e
    · refine fin s'' (Moved.trans W.gtrans ((mv.mono more).then_heap (Nat.le_succ _) fun b o hb e => ?_) mv2) hS4
      rw [same.2 b (fun q : b = S => hb (q ▸ List.mem_cons_self ..))]
      exact e
end
section
variable {P : Program} {w : World} {A : Around} {E : Value → Shared → Prop} {s : Shared}
theorem set_of_list {l : Addr} {items : Array Value} {xs : List Str} {Q : Value → Shared → Prop} (hh : A.handled = none) (hl : s.heap.IsList l items) (hi : StrsAre items.toList xs) (nd : xs.Nodup) (hb : xs.length + 1 < scanBound)
    (go : ∀ (h' : Heap) (tk : Nat), h'.SetOf (PySem.strKind P w) s.heap.objs.size (seen xs xs.length) xs.length → (∀ b o, s.heap.get? b = some o → h'.get? b = some o) → Q (.ref s.heap.objs.size) { s with heap := h', toks := tk }) :
    wpAny (model P w) A (call (.type "set") [.ref l]) Q E s := by
  obtain ⟨S, eS⟩ : ∃ S, S = s.heap.objs.size := ⟨_, rfl⟩
  have lx : xs.length = items.size := by rw [← StrsAre.len_eq hi, Array.length_toList]
  obtain ⟨ol, hol, hcl, nl, hdl⟩ := hl
  have lS : l < S := eS ▸ Heap.lt_size hol
  obtain ⟨c, tl, hmro⟩ := PySem.F.called_set.mro
  have q1 := PySem.F.called_set.made
  have q2 := PySem.F.called_set.sub
  have q3 := PySem.F.called_set.notType
  have q4 := PySem.F.called_set.canCreate
  have q5 := PySem.F.typeCall_set_1 (.ref l)
  refine wpAny_call (codeAny_of_tree (show wpAny _ _ (callAny (.type "set") _) _ _ _ from wpAny_pure ⟨Code.quiet_builtin _ (by decide +kernel), codeAny_builtin PySem.F.entry_type_call ?_⟩))
  rw [Around.under_plain (weight_type_call_type "set" [.ref l] []) rfl]
  repeat (any_goals (first | assumption | wp_step))
  refine codeAny_mono (code_set_new_1 (.ref l) (E := E) (Q₁ := fun obj s₁ => ∃ led : Bool, obj = .ref S ∧ s₁ = { s with heap := s.heap.push { cls := .type "set", dict := none, data := .set #[] 0 (.fresh 0 0 led) } }) fun led => ⟨led, by rw [eS], rfl⟩) fun r s₁ hr => ?_
  cases r with
  | error e => exact hr
  | ok fl =>
    cases fl with
    | ret obj =>
      obtain ⟨led, rfl, rfl⟩ := hr
      obtain ⟨h1, eh1⟩ : ∃ h1 : Heap, h1 = s.heap.push { cls := .type "set", dict := none, data := .set #[] 0 (.fresh 0 0 led) } := ⟨_, rfl⟩
      rw [← eh1]
      have g1 : h1.get? S = some { cls := .type "set", dict := none, data := .set #[] 0 (.fresh 0 0 led) } := by rw [eh1, eS]; exact Heap.get?_push_size _ rfl
      have z1 : h1.objs.size = S + 1 := by rw [eh1, Heap.size_push, eS]
      have k1 : ∀ b o, s.heap.get? b = some o → h1.get? b = some o := fun b o e => eh1 ▸ Heap.get?_push_of_some _ e
      have ty : Shared.TypeIs { s with heap := h1 } (.ref S) "set" := ⟨_, g1, rfl⟩
      have q6 := PySem.F.called_set.init.lookup
      have q7 := PySem.F.called_set.init.bind (.ref S)
      repeat (any_goals (first | assumption | wp_step))
      refine codeAny_mono (codeAny_call_builtin (R := wants (fun r s₂ => r = .none ∧ ∃ h' tk, s₂ = { s with heap := h', toks := tk } ∧ h'.SetOf (PySem.strKind P w) S (seen xs xs.length) xs.length ∧ (∀ b o, s.heap.get? b = some o → h'.get? b = some o)) E)
        PySem.F.called_set.init.plain PySem.F.entry_set_init (check_set_init_1 ty ?_)) fun r₂ s₂ hr₂ => ?_
      · obtain ⟨ocls, odict, odata, oslots⟩ := ol
        simp only at hcl hdl
        subst hcl; subst hdl
        have hol1 := k1 _ _ hol
        have q8 := PySem.F.sub_list_set
        have q9 := PySem.F.sub_list_frozenset
        have q10 : (Value.type "list" == Value.type "dict") = false := by decide
        have hl1 : h1.IsList l items := ⟨_, hol1, rfl, nl, rfl⟩
        unfold Builtin.«set.__init__» noKeywords Builtin.Frozenset.updateFrom
        generalize hPI : pyIter = PI
        wp_walk
        subst hPI
        refine wpAny_pyIter_list hl1 (wpAny_bind (wpAny_runValue ?_))
        have hh3 : A.in1.in1.in1.handled = none := by simp [hh]
        have lI : l ≠ h1.objs.size := by rw [z1]; exact Nat.ne_of_lt (Nat.lt_succ_of_lt lS)
        have off : S ∉ [h1.objs.size, l] := by
          rw [z1]
          intro q
          rcases List.mem_cons.mp q with q | q
          · exact absurd q (Nat.ne_of_lt (Nat.lt_succ_self _))
          · exact absurd (List.mem_singleton.mp q) (Nat.ne_of_gt lS)
        refine set_fill ((Walks.list hh3 _ l lI items).toS) S off xs nd lx (fun i v hv => ?_) (by omega) (items.size - 0) 0 _ (by omega) (Nat.zero_le _) ⟨⟨_, Heap.get?_push_size _ rfl, rfl, rfl⟩, (hl1.push _)⟩ ?_ ?_
        · exact strs_get hi (by rw [Array.getElem?_toList]; exact hv)
        · exact SetOf_congr ((setObjOf_fresh (knd := PySem.strKind P w) led).setOf (Heap.get?_push_of_some _ g1) (by omega)) (fun _ => rfl) rfl
        · rintro ⟨h', g', d', tk', os'⟩ mv hS'
          cases (show g' = s.gens from mv.gens)
          cases (show d' = s.drawn from mv.drawn)
          cases (show os' = s.os from mv.os)
          rw [← lx] at hS'
          refine wpAny_pure (show wpAny _ _ (ret Value.none) _ _ _ from wpAny_pure ⟨rfl, h', tk', rfl, hS', fun b o e => ?_⟩)
          have lb : b < S := eS ▸ Heap.lt_size e
          refine mv.heap b o (fun q => ?_) (Heap.get?_push_of_some _ (k1 _ _ e))
          rcases List.mem_cons.mp q with q | q
          · exact absurd q (Nat.ne_of_lt lb)
          · have q : b = h1.objs.size := by simpa using q
            rw [z1] at q
            exact absurd q (Nat.ne_of_lt (Nat.lt_succ_of_lt lb))
      · cases r₂ with
        | error e => exact hr₂
        | ok fl₂ =>
          cases fl₂ with
          | ret r =>
            obtain ⟨rfl, h', tk, rfl, hS', hk'⟩ := hr₂
            repeat (any_goals (first | assumption | wp_step))
            rw [eS]
            exact go _ _ (eS ▸ hS') hk'
          | _ => exact hr₂.elim
    | _ => exact hr.elim
end
def tLenSetS (K : PySem.W.Frag) (ta : TE) : TE := fun σ H Q => ta σ H fun x H1 => ∃ (l : Addr) (xs : List Str), x = .ref l ∧ SqL K H1 l (xs.map V.str) ∧ xs.Nodup ∧ xs.length ≤ 4000 ∧ Q (.int (xs.length : Nat)) H1
theorem strsAre_vals : ∀ {xs : List Str} {us : List Value}, Vals (xs.map V.str) us → StrsAre us xs
  | [], _, .nil => .nil
  | x :: xs, _, .cons r t => by
    obtain ⟨k, rfl⟩ := r
    exact .cons x k (strsAre_vals t)
theorem pe_lenSetS {X : Cx} {a : Expr} {ta : TE} {p p2 q pos : Pos} (hg : Gl X "len") (hm : X.mg "len" = none) (hg2 : Gl X "set") (hm2 : X.mg "set" = none) (ha : PE X a ta) (hc : X.calm = true := by rfl)
    (na : starEach [a] X.env = (false, eval a X.env) :: starEach [] X.env := by rfl) : PE X (.Call (.Name "len" p) [.Call (.Name "set" p2) [a] [] q] [] pos) (tLenSetS X.K ta) := by
  refine ⟨fun pins s σ H Q I h => Call_ (ld_blt I hg hm boot_len (callWith_builtin1 (args_cons (Call_ (ld_blt I hg2 hm2 boot_set (callWith_type1 (args_cons (thn (ha.run pins s σ H _ I h) fun v s1 w1 => args_nil ?_) na) na rfl))) rfl) rfl rfl))⟩
  obtain ⟨x, H1, I1, r1, l, xs, rfl, hq, nd, hl, q1⟩ := w1
  cases r1
  obtain ⟨its, r, pl, hz⟩ := I1.list hq
  refine set_of_list (xs := xs) (I1.ok.hd hc) pl.isList (by simpa using strsAre_vals r) nd (by unfold scanBound; omega) fun h' tk hS hk => args_nil ?_
  obtain ⟨o, es, ep, t, ho, hex, hd, _, _, _, hf, hn⟩ := hS
  exact call_len_set ho hex hd hf (by rw [hn] <;> omega) ⟨.int xs.length, H1, (I1.kept (t' := tk) hk).tok _, ⟨_, by rw [hn]⟩, q1⟩
end KA
set_option Elab.async false
set_option linter.all false
set_option maxRecDepth 100000
set_option maxHeartbeats 4000000
namespace KA
open PySem PySem.Spec PyProof.Rows L2
/-! ### calls by a keyword, properties -/
section
variable {P : Program} {w : World} {K : PySem.W.Frag} {mg : Str → Option Value} {base : Heap}
/-- one parameter, by its name -/
def ByName (fd : FuncData) (x : Str) : Prop := ∀ (s : Shared) (v : Value), BindsTo s fd ⟨[], [(x, v)]⟩ [(x, v)]
theorem pe_fnB {X : Cx} {k : Nat} {x y : Str} {p pos kp : Pos} {e : Expr} {te : TE} {sp : Sp} (F : Fn X.prog X.w X.K X.mg X.base x [y] k sp (fun fd => ByName fd y)) (hr : Room k X.A) (hg : Gl X x) (he : PE X e te) (hdb : (x == ("__debug__" : Str)) = false := by decide) :
    PE X (.Call (.Name x p) [] [⟨some y, e, kp⟩] pos) (tCall sp [] E0 (tCons te tNil)) := by
  obtain ⟨f, fd, g, kp', _, b, ok⟩ := F
  refine ⟨fun pins s σ H Q I h => ?_⟩
  refine wpAny_Call_Name_kw (ld_glob I hg g ?_ hdb)
  have pk : PK X [⟨some y, e, kp⟩] (tCons te tNil) := pk_cons he pk_nil
  refine PySem.W.callWith_KW0 (h₀ := X.base) I.ok.mod.kin kp' rfl (thn (pk.run pos pins s σ H _ I h) fun us s1 w1 => ?_) rfl
  obtain ⟨vs, H1, I1, r1, q1⟩ := w1
  refine ⟨I1.kIn, ?_⟩
  have q1 : sp (vs ++ []) H1 Q E0 := q1
  rw [List.append_nil] at q1
  have lv := ok.len _ _ _ _ q1
  cases r1 with
  | nil => cases lv
  | @cons v u _ _ ru r2 =>
    cases r2 with
    | cons _ _ => cases lv
    | nil =>
      refine wpAny_call (codeAny_mono (ok.run X.A X.stack s1 H1 ⟨[], [(y, u)]⟩ [u] [v] Q E0 hr I1.env0 (b s1 u) (.cons ru .nil) q1) fun r s' hq => ?_)
      cases r with
      | error e => exact False.elim hq
      | ok fl =>
        cases fl with
        | ret z => exact I1.after hq
        | next => exact False.elim hq
        | brk => exact False.elim hq
        | cont => exact False.elim hq
/-- a property of the class at C: its getter keeps a promise -/
def Gt (P : Program) (w : World) (K : PySem.W.Frag) (mg : Str → Option Value) (base : Heap) (C : Addr) (f : Str) (k : Nat) (sp : Sp) : Prop :=
  ∃ (p g : Addr) (fd : FuncData), PropOf K C f p g ∧ Binds K fd ["self"] [] ∧ FnOk P w K mg base CX0 k g fd ["self"] sp
def Dg (K : PySem.W.Frag) (C : Addr) (f qual : Str) (st : Stmt) : Prop := ∃ (p g : Addr) (fd : FuncData), PropOf K C f p g ∧ FunD K f qual (defArgs st) (defBody st) (defScope st) [] [] g fd ∧ Binds K fd ["self"] []
theorem pe_gt {X : Cx} {k : Nat} {C : Addr} {f : Str} {sp : Sp} {e : Expr} {pos : Pos} {ta : TE} (G : Gt X.prog X.w X.K X.mg X.base C f k sp) (he : PE X e ta) (c : Cls X.K C) (hr : Room (k + 1) X.A) (hab : attributeBase e f X.env (eval e X.env) = eval e X.env) :
    PE X (.Attribute e f pos) (tProp C sp [] E0 ta) := by
  obtain ⟨p, g, fd, h1, h2, h3⟩ := G
  exact pe_prop he c h1 h3 hr h2 .nil (fun _ _ _ _ _ _ _ q => q) hab
theorem scSorts : FnScope ["self", "sort"] ["self"] (defScope s_Catalogue_sorts) := ⟨rfl, rfl, rfl, by decide +kernel, rfl, by decide +kernel, by decide +kernel⟩
def spSorts (C : Addr) : Sp := fun vs H Q _ => ∃ (x : Addr) (ns : List Str) (rv : Str → V) (ws : List (List Str)), vs = [.ref x] ∧ Cat C H x ns rv ws ∧ ∀ q H', H q = none → H' q = some (.dK (nkv ns rv)) → Same H H' → Q (.ref q) H'
theorem ok_sorts {C : Addr} (D : Dg K C "sorts" "Catalogue.sorts" s_Catalogue_sorts) (Ct : CatT K mg C) : Gt P w K mg base C "sorts" 1 (spSorts C) := by
  obtain ⟨p, g, fd, h1, F, h2⟩ := D
  refine ⟨p, g, fd, h1, h2, F.ok scSorts (fun vs H Q E h => ?_) (fun cdv A outer s H vs Q E hr h => ?_)⟩
  · obtain ⟨_, _, _, _, rfl, _⟩ := h
    rfl
  · obtain ⟨x, ns, rv, ws, rfl, hc, k⟩ := h
    have nd := scSorts.nd
    have hu := hu_of hr
    refine ⟨_, PSs.nox (pss_one (ps_ret (pe_lock (pe_dc (own := [("sort", 1)]) (g := gName 1) (tt := tYes) rfl nd (pi_keys (pe_fld (pv 0) rfl)) (blkOk_by (N := ["self", "sort"]) (sc := defScope s_Catalogue_sorts) (by decide +kernel))
      (fun _ _ _ _ _ => pg_name (i := 1) nd rfl (Or.inl rfl)) (fun _ _ _ _ _ => pts_nil) (fun _ _ _ _ _ => pv 1) (fun _ _ _ _ _ => pe_dget hu (show PE _ _ (tFld K (tVar 0) "ranges") from pe_fld (pv 0) rfl) (pv 1) (fun _ _ => rfl)))))), ?_⟩
    obtain ⟨dx, d, p, ys, hx, hd, hp, hys⟩ := hc.at_
    have nxd : x ≠ d := ne_of hx hd (by intro z; cases z)
    have l6 := hc.ok.six
    refine ⟨d, _, hd, trivial, fun od => ?_⟩
    have hx0 : (upd H d (.frz od (.dK (nkv ns rv)))) x = some (.ins C dx (catF d p)) := by rw [upd_ne nxd]; exact hx
    refine ⟨_, rfl, x, C, dx, _, _, rfl, hx0, Ct.cl, Ct.nR, catF_r d p, d, od, rfl, .inl ⟨nkv ns rv, upd_same, fun D2 nD => ?_⟩⟩
    generalize hl0 : upd H d (.frz od (.dK (nkv ns rv))) = H0 at hx0 nD
    have hd0 : H0 d = some (.frz od (.dK (nkv ns rv))) := by rw [← hl0]; exact upd_same
    have ndD : D2 ≠ d := fun e => by
      rw [e, hd0] at nD
      cases nD
    refine dc_it walk_keys (fun j H3 => H3 D2 = some (.dK (nkv (ns.take j) rv)) ∧ Same H0 H3) ⟨upd_same, same_new nD⟩ (fun j H3 _ h => h.2 _ _ hd0) ?_ ?_
    · rintro j y H3 H3' hj ⟨h3, s3⟩ ⟨rfl, kk, v, hkv, rfl⟩
      obtain ⟨z, hz, rfl, rfl⟩ := nkv_get hkv
      have mz : z ∈ ns := List.mem_of_getElem? hz
      have hd3 := s3 _ _ hd0
      have nz : z ∉ ns.take j := fun q => by
        obtain ⟨i, hi, e⟩ := List.mem_iff_getElem.mp q
        rw [List.length_take] at hi
        rw [List.getElem_take] at e
        have hj' : j < ns.length := by rw [List.length_map] at hj; exact hj
        have e2 : ns[j] = z := Option.some.inj ((List.getElem?_eq_getElem hj').symm.trans hz)
        have := (List.getElem_inj (h₀ := by omega) (h₁ := hj') hc.ok.nd).mp (e.trans e2.symm)
        omega
      refine ⟨rfl, ?_⟩
      refine ⟨_, rfl, _, rfl, x, C, dx, _, _, rfl, s3 _ _ hx0, Ct.cl, Ct.nR, catF_r d p, _, rfl, d, _, rfl, .inl ⟨_, _, .inr ⟨od, hd3⟩, rfl, (valV_nkv mz).symm⟩, nkv (ns.take j) rv, Sum.inr z, rfl, h3, ?_, ?_, updN s3 nD⟩
      · rw [List.length_map, List.length_take]
        exact small1000 (by omega)
      · rw [upd_same, putK_new _ (valV_nkv_none nz), take_succ_of hz, nkv, nkv, List.map_append]
        rfl
    · rintro H3 ⟨h3, s3⟩
      rw [List.length_map, List.take_length] at h3
      refine ⟨s3 _ _ hd0, k D2 _ ?_ ?_ (unlock hd (hl0 ▸ s3))⟩
      · rw [← hl0, upd_ne ndD] at nD
        exact nD
      · rw [upd_ne ndD]
        exact h3
end
end KA
set_option Elab.async false
set_option linter.all false
set_option maxRecDepth 100000
set_option maxHeartbeats 4000000
namespace KA
open PySem PySem.Spec PyProof.Rows L2
/-! ### small things for the law -/
/-- all but lists stand -/
def KN (H H' : Hp) : Prop := ∀ b o, H b = some o → (∀ l, o ≠ .lst l) → H' b = some o
theorem KN.same {H H' : Hp} (s : Same H H') : KN H H' := fun b o e _ => s b o e
theorem KN.trans {H H1 H2 : Hp} (a : KN H H1) (b : KN H1 H2) : KN H H2 := fun c o e n => b c o (a c o e n) n
theorem KN.ch {a : Addr} {H H' : Hp} (c : Ch a H H') {xs : List V} (h : H a = some (.lst xs)) : KN H H' := fun b o e n => c b o (fun z => n xs (by rw [z, h] at e; exact (Option.some.inj e).symm)) e
theorem KN.upd {H : Hp} {a : Addr} {xs : List V} {u : HO} (h : H a = some (.lst xs)) : KN H (L2.upd H a u) := fun b o e n => by
  rw [upd_ne (fun z => n xs (by rw [z, h] at e; exact (Option.some.inj e).symm))]
  exact e
theorem KN.kt {H H' : Hp} (k : KN H H') : KT H H' := fun t xs e => k t _ e (fun l q => by cases q)
theorem Cat.kn {C : Addr} {H H' : Hp} {x : Addr} {ns : List Str} {rv : Str → V} {ws : List (List Str)} (h : Cat C H x ns rv ws) (k : KN H H') : Cat C H' x ns rv ws := by
  obtain ⟨⟨dx, d, p, ys, h1, h2, h3, h4⟩, a, b, c, d', e⟩ := h
  exact ⟨⟨dx, d, p, ys, k _ _ h1 (fun l q => by cases q), k _ _ h2 (fun l q => by cases q), k _ _ h3 (fun l q => by cases q), h4.kt k.kt⟩, a, b, fun z hz => (c z hz).kt k.kt, d', e⟩
theorem same_ch {a : Addr} {Hc H H' : Hp} (s : Same Hc H) (n : Hc a = none) (c : Ch a H H') : Same Hc H' := fun b o e => c b o (ne_of_none e n) (s b o e)
theorem shortest_congr {ws ps : List (List Str)} {ns ms : List Str} (hw : ∀ l, l ∈ ws ↔ l ∈ ps) (hn : ∀ x, x ∈ ns ↔ x ∈ ms) (hl : ns.length = ms.length) : shortest ws ns = shortest ps ms := by
  have es : ∀ (v : List Str) (n : Str), stp ws v n = stp ps v n := fun v n => by
    unfold stp
    split
    · rename_i l _
      by_cases c : [l, n] ∈ ws
      · rw [decide_eq_true c, decide_eq_true ((hw _).mp c)]
      · rw [decide_eq_false c, decide_eq_false fun q => c ((hw _).mpr q)]
    · rfl
  have ec : ∀ v, clo ws v = clo ps v := fun v => by
    unfold clo
    split
    · exact es _ _
    · rfl
  have way : ∀ s v, Way ws ns s v ↔ Way ps ms s v := fun s v =>
    ⟨fun h => ⟨h.hd, h.nd, fun i x y a b => (hw _).mp (h.chain i x y a b), fun x m => (hn x).mp (h.mem x m)⟩, fun h => ⟨h.hd, h.nd, fun i x y a b => (hw _).mpr (h.chain i x y a b), fun x m => (hn x).mpr (h.mem x m)⟩⟩
  have rg : ∀ k, Rg_ ws ns k ↔ Rg_ ps ms k := fun k =>
    ⟨fun ⟨v, ⟨s, a, b⟩, c⟩ => ⟨v, ⟨s, (way s v).mp a, b⟩, ec v ▸ c⟩, fun ⟨v, ⟨s, a, b⟩, c⟩ => ⟨v, ⟨s, (way s v).mpr a, b⟩, (ec v).symm ▸ c⟩⟩
  obtain ⟨a0, a1⟩ := shr_ok (ws := ws) (ns := ns) ns.length 1 (ones ns) (Nat.le_refl _) pth_one
  obtain ⟨b0, b1⟩ := shr_ok (ws := ps) (ns := ms) ms.length 1 (ones ms) (Nat.le_refl _) pth_one
  have top : ∀ {ws ns k}, Rg_ ws ns k → k ≤ ns.length := fun ⟨v, ⟨s, a, b⟩, _⟩ => b ▸ a.short
  rcases Nat.eq_zero_or_pos (shortest ws ns) with e | e
  · rcases Nat.eq_zero_or_pos (shortest ps ms) with f | f
    · rw [e, f]
    · obtain ⟨c1, c2, _⟩ := b1 _ rfl (Nat.ne_of_gt f)
      have := top c2
      exact absurd ((rg _).mpr c2) (a0 e _ (by omega) (by omega) c1)
  · obtain ⟨c1, c2, c3⟩ := a1 _ rfl (Nat.ne_of_gt e)
    rcases Nat.eq_zero_or_pos (shortest ps ms) with f | f
    · have := top c2
      exact absurd ((rg _).mp c2) (b0 f _ (by omega) (by omega) c1)
    · obtain ⟨d1, d2, d3⟩ := b1 _ rfl (Nat.ne_of_gt f)
      rcases Nat.lt_trichotomy (shortest ws ns) (shortest ps ms) with q | q | q
      · exact absurd ((rg _).mp c2) (d3 _ (by omega) q c1)
      · exact q
      · exact absurd ((rg _).mpr d2) (c3 _ (by omega) q d1)
theorem mem_ev {ns : List Str} {l : List Str} (h : l ∈ ev ns ns) : ∃ u v, l = [u, v] ∧ u ∈ ns ∧ v ∈ ns ∧ u ≠ v := by
  obtain ⟨u, hu, h⟩ := List.mem_flatMap.mp h
  obtain ⟨v, hv, rfl⟩ := List.mem_map.mp h
  obtain ⟨h1, h2⟩ := List.mem_filter.mp hv
  exact ⟨u, v, rfl, hu, h1, fun e => (of_decide_eq_true h2) e.symm⟩
theorem cut_to (xs : List V) (n : Nat) : cutV xs none (some (n : Int)) = xs.take n := by
  unfold cutV
  rw [HT.sIx_none, HT.sIx_nat, List.drop_zero, Nat.sub_zero]
  rcases Nat.le_total n xs.length with h | h
  · rw [Nat.min_eq_left h]
  · rw [Nat.min_eq_right h, List.take_of_length_le (Nat.le_refl _), List.take_of_length_le h]
/-- two rows of wishes with the same ones, each once, in order -/
theorem ws_one {ws ps qs : List (List Str)} (a : ps.Perm (uq ws)) (b : qs.Perm (uq ws.reverse)) (u1 : ps.Pairwise leT) (u2 : qs.Pairwise leT) : qs = ps := by
  refine sorted_one leT_anti ?_ u2 u1
  refine b.trans (List.Perm.trans ?_ a.symm)
  refine (List.perm_ext_iff_of_nodup (uq_nd _) (uq_nd _)).mpr fun l => ?_
  rw [uq_mem, uq_mem, List.mem_reverse]
theorem valV_out {acc : List (Key × V)} {k : Key} (h : k ∉ acc.map (·.1)) : valV acc k = none := by
  induction acc with
  | nil => rfl
  | cons p r ih =>
    rw [List.map_cons, List.mem_cons, not_or] at h
    rw [valV_neg (fun q => h.1 q.symm)]
    exact ih h.2
/-- the pairs of a dict from a list of them -/
theorem merge_app : ∀ (kvs acc : List (Key × V)), ((acc ++ kvs).map (·.1)).Nodup → mergeK acc kvs = acc ++ kvs
  | [], acc, _ => by rw [List.append_nil]; rfl
  | kv :: r, acc, h => by
    have e : acc ++ kv :: r = (acc ++ [kv]) ++ r := by simp
    have n : kv.1 ∉ acc.map (·.1) := fun q => by
      rw [List.map_append] at h
      exact (List.nodup_append.mp h).2.2 _ q _ (List.mem_map.mpr ⟨kv, List.mem_cons_self .., rfl⟩) rfl
    rw [e] at h ⊢
    rw [← merge_app r (acc ++ [kv]) h]
    show mergeK (putK acc kv.1 kv.2) r = _
    rw [putK_new _ (valV_out n)]
theorem nkv_of : ∀ {kvs : List (Key × V)} {ns : List Str}, kvs.map (·.1) = ns.map Sum.inr → ns.Nodup → ∃ rv : Str → V, kvs = nkv ns rv
  | [], [], _, _ => ⟨fun _ => .non, rfl⟩
  | [], _ :: _, h, _ => by simp at h
  | _ :: _, [], h, _ => by simp at h
  | (k, v) :: r, z :: ns, h, nd => by
    rw [List.map_cons, List.map_cons] at h
    injection h with h1 h2
    obtain ⟨n1, n2⟩ := List.nodup_cons.mp nd
    obtain ⟨rv, e⟩ := nkv_of h2 n2
    refine ⟨fun y => if y = z then v else rv y, ?_⟩
    have h1 : k = Sum.inr z := h1
    rw [nkv, List.map_cons, if_pos rfl, h1, e]
    congr 1
    refine List.map_congr_left fun y hy => ?_
    show (Sum.inr y, rv y) = (Sum.inr y, if y = z then v else rv y)
    rw [if_neg (show ¬ y = z from fun q => n1 (q ▸ hy))]
/-- from one of a ring to the next -/
theorem ring_at {ps : List (List Str)} {v : List Str} (vch : ∀ (i : Nat) (x y : Str), v[i]? = some x → v[i + 1]? = some y → [x, y] ∈ ps) (vclo : clo ps v = true) {i : Nat} (hi : i < v.length) : ∃ x y, v[i]? = some x ∧ (v ++ v)[i + 1]? = some y ∧ x ∈ v ∧ y ∈ v ∧ [x, y] ∈ ps := by
  have hx : v[i]? = some v[i] := List.getElem?_eq_getElem hi
  by_cases h : i + 1 < v.length
  · have hy : v[i + 1]? = some v[i + 1] := List.getElem?_eq_getElem h
    exact ⟨v[i], v[i + 1], hx, by rw [List.getElem?_append_left h]; exact hy, List.getElem_mem _, List.getElem_mem _, vch i _ _ hx hy⟩
  · have e : i + 1 = v.length := by omega
    have h0 : v[0]? = some (v[0]'(by omega)) := List.getElem?_eq_getElem (by omega)
    have hl : v.getLast? = some v[i] := by
      rw [List.getLast?_eq_getElem?, ← e]
      exact hx
    have hh : v.head? = some (v[0]'(by omega)) := by
      rw [List.head?_eq_getElem?]
      exact h0
    unfold clo stp at vclo
    rw [hh, hl] at vclo
    refine ⟨v[i], v[0]'(by omega), hx, ?_, List.getElem_mem _, List.getElem_mem _, of_decide_eq_true vclo⟩
    rw [List.getElem?_append_right (by omega), e, Nat.sub_self]
    exact h0
theorem IsMin.some {ls : List (List Str)} {v : List Str} (h : IsMin ls v) (e : ls = []) : False := by
  obtain ⟨i, h, _⟩ := h
  rw [e] at h
  cases h
end KA
set_option Elab.async false
set_option linter.all false
set_option maxRecDepth 100000
set_option maxHeartbeats 4000000
namespace KA
open PySem PySem.Spec PyProof.Rows L2
section
variable {P : Program} {w : World} {K : PySem.W.Frag} {mg : Str → Option Value} {base : Heap}
abbrev nLaw : List Str := ["_law_script", "_law_turn", "_law_cell", "_law_state", "_law_lap", "_law_names_here", "_law_chance", "_law_wishes", "_law_book", "_law_found", "_law_due", "_law_shown", "_law_wish", "_law_name", "_law_at"]
theorem scLaw : FnScope nLaw ["_law_script"] (defScope s_law) := ⟨rfl, rfl, rfl, by decide +kernel, rfl, by decide +kernel, by decide +kernel⟩
def spLaw (K : PySem.W.Frag) : Sp := fun vs H Q _ => ∃ (a : Addr) (ns : List Int), vs = [.ref a] ∧ SqL K H a (ns.map V.int) ∧ ns.length ≤ 63 ∧ ∀ H', Q (.bl true) H'
theorem ok_law {C : Addr} {B : FuncData → Prop} (D : Df K mg "law" s_law ["_law_script"] B) (GB : Fn P w K mg base "_law_begin" ["_law_cell", "_law_turn"] 1 spBegin) (GD : Fn P w K mg base "_law_draw" ["_law_state", "_law_size"] 1 spDrw)
    (GP : Fn P w K mg base "_law_pick" ["_law_state", "_law_some"] 2 (spPick K)) (GN : Fn P w K mg base "_law_names" ["_law_state", "_law_many"] 3 spNames) (GE : Fn P w K mg base "_law_every" ["_law_names_here"] 1 (spEvery K))
    (GS : Fn P w K mg base "_law_shortest" ["_law_names_here", "_law_wishes"] 1 (spShort K)) (GR : Fn P w K mg base "sort_ring" ["catalogue"] 2 (spRing C) (fun fd => ByName fd "catalogue"))
    (GC : Mkf P w K mg base "Catalogue" C ["self", "sorts", "wishes"] 3 (spInit K C)) (Gs : Gt P w K mg base C "sorts" 1 (spSorts C)) (T : Fre mg) (Ct : CatT K mg C) : Fn P w K mg base "law" ["_law_script"] 5 (spLaw K) B := by
  refine D.ok scLaw (fun vs H Q E h => ?_) (fun f cdv A outer s H vs Q E hr h => ?_)
  · obtain ⟨_, _, rfl, _⟩ := h
    rfl
  · obtain ⟨a, cells, rfl, hL, hl, k⟩ := h
    have nd := scLaw.nd
    have hu := hu_of hr
    have hr1 := hr.mono (show 1 ≤ 4 by decide)
    have hr2 := hr.mono (show 2 ≤ 4 by decide)
    have hr3 := hr.mono (show 3 ≤ 4 by decide)
    refine ⟨_, pss_cons (ps_for PassesOwn.never rfl (pi_enum (by rfl) T.enum (pa_cons (pe_slice sl_list (pe_orT (pv 0) (pe_one (pe_lst (pa_cons pe_int pa_nil)))) po_none (po_some pe_int)) pa_nil))
        (pg_tup rfl (pgs_cons (pg_name (i := 1) nd rfl (.inl rfl)) (pgs_cons (pg_name (i := 2) nd rfl (.inl rfl)) pgs_nil)))
        (pss_cons (ps_set (i := 3) nd rfl (.inr rfl) (pe_fn GB hr1 (by rfl) (pa_cons (pv 2) (pa_cons (pv 1) pa_nil))))
        (pss_one (ps_for PassesOwn.never rfl (pi_range1 (by rfl) T.range (pa_cons pe_int pa_nil)) (pg_name (i := 4) nd rfl (.inl rfl))
          (pss_cons (ps_asg (pe_tup (pa_cons (pe_fn GN hr3 (by rfl) (pa_cons (pv 3) (pa_cons (pe_op op_add pe_int (pe_fn GD hr1 (by rfl) (pa_cons (pv 3) (pa_cons pe_int pa_nil)))) pa_nil)))
              (pa_cons (pe_fn GP hr2 (by rfl) (pa_cons (pv 3) (pa_cons (pe_lst (pa_cons pe_int (pa_cons pe_int (pa_cons pe_int (pa_cons pe_int pa_nil))))) pa_nil))) pa_nil)))
              (pg_tup rfl (pgs_cons (pg_name (i := 5) nd rfl (.inl rfl)) (pgs_cons (pg_name (i := 6) nd rfl (.inr rfl)) pgs_nil))))
          (pss_cons (ps_set (i := 7) nd rfl (.inr rfl) (pe_slice sl_list (pe_lc (own := [("_law_wish", 12)]) (g := gName 12) rfl nd (pi_list (pe_fn GE hr1 (by rfl) (pa_cons (pv 5) pa_nil)))
              (blkOk_by (N := nLaw) (sc := defScope s_law) (by decide +kernel)) (fun _ _ _ _ _ => pg_name (i := 12) nd rfl (Or.inl rfl))
              (fun _ _ _ _ _ => pts_one (pt_cmpR op_eq (pe_fn GD hr1 (by rfl) (pa_cons (pv 3) (pa_cons (pv 6) pa_nil))) pe_int (nomark _))) (fun _ _ _ _ _ => pv 12)) po_none (po_some pe_int)))
          (pss_cons (ps_set (i := 8) nd rfl (.inl rfl) (pe_mkf GC hr (by rfl) (pa_cons (pe_callTy (call_dictP rfl) (by rfl) T.dict (by decide +kernel) (pa_cons (pe_lc (own := [("_law_name", 13)]) (g := gName 13) (tt := tYes) rfl nd (pi_list (pv 5))
              (blkOk_by (N := nLaw) (sc := defScope s_law) (by decide +kernel)) (fun _ _ _ _ _ => pg_name (i := 13) nd rfl (Or.inl rfl)) (fun _ _ _ _ _ => pts_nil)
              (fun _ _ _ _ _ => pe_tup (pa_cons (pv 13) (pa_cons (pe_tup (pa_cons pe_int (pa_cons pe_int pa_nil))) pa_nil)))) pa_nil)) (pa_cons (pv 7) pa_nil))))
          (pss_cons (ps_asg (pe_tup (pa_cons (pe_fn GR.any hr2 (by rfl) (pa_cons (pv 8) pa_nil)) (pa_cons (pe_fn GS hr1 (by rfl) (pa_cons (pv 5) (pa_cons (pv 7) pa_nil))) pa_nil)))
              (pg_tup rfl (pgs_cons (pg_name (i := 9) nd rfl (.inr rfl)) (pgs_cons (pg_name (i := 10) nd rfl (.inl rfl)) pgs_nil))))
          (pss_cons (ps_if (pt_cmpR op_eq (pv 10) pe_int (nomark _)) (pss_cons (ps_if (pt_cmp (pc_notN (pv 9))) (pss_one (ps_ret pe_bl)) pss_nil) (pss_one ps_continue)) pss_nil)
          (pss_cons (ps_if (PW.pt (pw_or (pt_not (pt_val (pe_callB call_isi (by rfl) T.isi (by decide +kernel) (pa_cons (pv 9) (pa_cons (pe_bltn (v := .ty "list") (by rfl) T.list (by decide +kernel) rfl) pa_nil)))))
              (pw_or (pt_cmpR op_ne (pe_callB call_len (by rfl) T.len PySem.boot_len (pa_cons (pv 9) pa_nil)) (pv 10) (nomark _))
              (pw_or1 (pt_cmpR op_ne (pe_lenSetS (by rfl) T.len (by rfl) T.set (pv 9)) (pv 10) (nomark _)))))) (pss_one (ps_ret pe_bl)) pss_nil)
          (pss_cons (ps_if (pt_cmpR (op_neD hr.units) (pe_lc (own := [("_law_at", 14)]) (g := gName 14) rfl nd (pi_range1 (by rfl) T.range (pa_cons (pv 10) pa_nil))
              (blkOk_by (N := nLaw) (sc := defScope s_law) (by decide +kernel)) (fun _ _ _ _ _ => pg_name (i := 14) nd rfl (Or.inl rfl))
              (fun _ _ _ _ _ => pts_one (pt_cmpR (show OpR _ _ (rInTx K true) from op_notInTx (u65 hr)) (pe_tup (pa_cons (pe_ix (r := rIxL K) ix_list (pv 9) (pv 14) (fun _ _ => rfl)) (pa_cons (pe_ix (r := rIxL K) ix_list (pe_op op_cat (pv 9) (pv 9)) (pe_op op_add (pv 14) pe_int) (fun _ _ => rfl)) pa_nil))) (pv 7) (by rfl)))
              (fun _ _ _ _ _ => pv 14)) (pe_lst pa_nil) (nomark _)) (pss_one (ps_ret pe_bl)) pss_nil)
          (pss_cons (ps_set (i := 11) nd rfl (.inl rfl) (pe_callTy call_list_of (by rfl) T.list (by decide +kernel) (pa_cons (pv 9) pa_nil)))
          (pss_cons (ps_expr (pe_bm0 PySem.F.plainAttrs_list PySem.F.slot_list_clear PySem.F.type_list_clear mt_clear (pv 9)))
          (pss_one (ps_if (PW.pt (pw_or (pt_cmpR (op_neD hr.units) (pe_fn GR.any hr2 (by rfl) (pa_cons (pe_mkf GC hr (by rfl) (pa_cons (pe_gt Gs (pv 8) Ct.cl hr2 rfl) (pa_cons (pe_revL (pv 7)) pa_nil))) pa_nil)) (pv 11) (nomark _))
              (pw_or1 (pt_cmpR (op_neD hr.units) (pe_fnB GR hr2 (by rfl) (pv 8)) (pv 11) (nomark _))))) (pss_one (ps_ret pe_bl)) pss_nil)))))))))))))))
      (pss_one (ps_ret pe_bl)), ?_⟩
    have head : ∀ (G : V → Hp → Prop), (∀ (l : Addr) (cs : List Int) (H1 : Hp), SqL K H1 l (cs.map V.int) → cs.length ≤ 63 → G (.ref l) H1) → tOrT K (tVar 0) (tLst (tCons (tC (.int 5)) tNil)) [some (.ref a), none, none, none, none, none, none, none, none, none, none, none, none, none, none] H G := fun G g => by
      refine ⟨_, rfl, !cells.isEmpty, .inl ⟨_, hL, by rw [List.isEmpty_map]⟩, ?_⟩
      cases cells with
      | nil => exact iteF ⟨by show 1 ≤ sizeLine; decide, fun q nq => g q [5] _ (SqL.of upd_same) (by decide)⟩
      | cons c r => exact iteT (g a _ H hL hl)
    refine head _ fun l cs H1 h1 lc => ⟨8, rfl, l, _, rfl, h1, fun p np => ?_⟩
    have cut : cutV (cs.map V.int) none (some 8) = (cs.take 8).map V.int := by rw [List.map_take]; exact cut_to _ 8
    rw [cut]
    have hp1 : SqL K (upd H1 p (.lst ((cs.take 8).map V.int))) p ((cs.take 8).map V.int) := SqL.of upd_same
    have l8 : (cs.take 8).length ≤ 8 := by rw [List.length_take]; omega
    generalize cs.take 8 = cs8 at hp1 l8
    generalize upd H1 p (.lst (cs8.map V.int)) = Hb at hp1
    refine ⟨p, _, rfl, hp1, ?_⟩
    refine for_it (walk_enum (K := K) (a := p) (xs := cs8.map V.int)) (fun i σ H2 => (∃ v1 v2 v3 v4 v5 v6 v7 v8 v9 v10 v11 : Option V, σ = [some (.ref a), v1, v2, v3, v4, v5, v6, v7, v8, v9, v10, v11, none, none, none]) ∧ Same Hb H2)
      ⟨⟨_, _, _, _, _, _, _, _, _, _, _, rfl⟩, Same.refl _⟩ (fun i σ H2 _ h => h.2.seq hp1) ?_ ?_
    · rintro i y σ H2 H2' hi ⟨⟨v1, v2, v3, v4, v5, v6, v7, v8, v9, v10, v11, rfl⟩, s2⟩ ⟨tt, x, yy, rfl, ntt, rfl, hx, hy⟩
      have hx : some (V.int (i : Nat)) = some x := hx
      have hy : (cs8.map V.int)[i]? = some yy := hy
      rw [List.getElem?_map] at hy
      obtain ⟨c, hc, rfl⟩ := Option.map_eq_some_iff.mp hy
      injection hx with hx
      subst hx
      rw [List.length_map] at hi
      have s3 := s2.trans (same_new (o := .tup [.int (i : Nat), .int c]) ntt)
      refine ⟨tt, _, rfl, SqT.of upd_same, rfl, _, _, rfl, _, _, rfl, rfl, ?_⟩
      generalize upd H2 tt (.tup [.int (i : Nat), .int c]) = H3 at s3
      refine ⟨_, rfl, _, rfl, c, (i : Nat), rfl, by omega, by omega, fun st x y nst x0 => ?_⟩
      have s4 := s3.trans (same_new (o := .lst [.int x, .int y, .int 0]) nst)
      have hst : Sta (upd H3 st (.lst [.int x, .int y, .int 0])) st 800 := ⟨x, y, 0, upd_same, x0, Int.le_refl _, by decide⟩
      have nb := s3.free nst
      generalize upd H3 st (.lst [.int x, .int y, .int 0]) = H4 at s4 hst
      refine ⟨3, rfl, by decide, by decide, for_range (lo := 0) (n := 3) (fun j σ H5 => (∃ w4 w5 w6 w7 w8 w9 w10 w11 : Option V, σ = [some (.ref a), some (.int (i : Nat)), some (.int c), some (.ref st), w4, w5, w6, w7, w8, w9, w10, w11, none, none, none]) ∧ Same Hb H5 ∧ Sta H5 st (800 - 200 * j))
        ⟨⟨_, _, _, _, _, _, _, _, rfl⟩, s4, hst⟩ ?_ ?_⟩
      · rintro j σ H5 hj ⟨⟨w4, w5, w6, w7, w8, w9, w10, w11, rfl⟩, s5, ha5⟩
        have sl := sizeLine_eq
        refine ⟨_, rfl, _, rfl, st, 6, (600 - 200 * j + 199), rfl, ha5.less (by omega), by decide, by decide, fun r H6 r0 r1 ha6 c6 => ?_⟩
        have s6 := same_ch s5 nb c6
        obtain ⟨m, rfl⟩ := Int.eq_ofNat_of_zero_le r0
        have m6 : m < 6 := by omega
        refine ⟨1, m, rfl, rfl, st, 1 + m, (600 - 200 * j + 100), congrArg (fun z => [V.ref st, V.int z]) (by omega), by omega, ha6.less (by omega), fun ns an H7 ln nns hnm nan han ha7 c7 => ?_⟩
        have s7 := same_ch s6 nb c7
        have nan0 : Hb an = none := s6.free nan
        refine ⟨_, rfl, by show 4 ≤ sizeLine; decide, fun lp nlp => ?_⟩
        have slp := same_new (o := .lst [.int 2, .int 3, .int 4, .int 6]) nlp
        have ha7' := ha7.same slp
        refine ⟨st, _, (600 - 200 * j + 99), rfl, ha7'.less (by omega), .inl ⟨lp, _, rfl, SqL.of upd_same, fun z => ?_, by decide, by decide, fun ch H8 hch ha8 c8 => ?_⟩⟩
        · exact ha7.ne nlp z.symm
        obtain ⟨c0, rfl, c01, c02⟩ : ∃ c : Int, ch = .int c ∧ 0 < c ∧ c < 1073741824 := by
          rcases List.mem_cons.mp hch with e | hch
          · exact ⟨2, e, by decide, by decide⟩
          rcases List.mem_cons.mp hch with e | hch
          · exact ⟨3, e, by decide, by decide⟩
          rcases List.mem_cons.mp hch with e | hch
          · exact ⟨4, e, by decide, by decide⟩
          exact ⟨6, List.mem_singleton.mp hch, by decide, by decide⟩
        have nas : an ≠ st := fun e => ha6.ne nan e.symm
        have s8 := same_ch (s7.trans slp) nb c8
        have han8 := c8 _ _ nas (slp _ _ han)
        refine ⟨by show 2 ≤ sizeLine; decide, fun tp ntp => ?_⟩
        have stp8 := same_new (o := .tup [.ref an, .int c0]) ntp
        refine ⟨tp, _, rfl, SqT.of upd_same, rfl, _, _, rfl, _, _, rfl, rfl, ?_⟩
        have s9 := s8.trans stp8
        have han9 := stp8 _ _ han8
        have ha9 := ha8.same stp8
        generalize upd H8 tp (.tup [.ref an, .int c0]) = H9 at s9 han9 ha9
        -- the wishes
        refine ⟨_, rfl, an, ns, rfl, SqL.of han9, by omega, fun pe xs H10 npe hpe htx se => ⟨pe, rfl, ⟨_, SqL.of hpe⟩, fun L nL => ?_⟩⟩
        have nps : pe ≠ st := fun e => ha9.ne npe e.symm
        have s10 := s9.trans se
        have han10 := se _ _ han9
        have ha10 := ha9.same se
        have nLs : L ≠ st := fun e => ha10.ne nL e.symm
        have nLp : pe ≠ L := ne_of_none hpe nL
        have nLa : an ≠ L := ne_of_none han10 nL
        have lev : xs.length ≤ 36 := by
          rw [Pd.len htx]
          have h1 := ev_len ns ns
          have h2 : ns.length * ns.length ≤ 6 * 6 := Nat.mul_le_mul (by omega) (by omega)
          omega
        have sL := same_new (o := .lst []) nL
        refine lc_it (walk_list (K := K) (a := pe) (xs := xs)) (fun jj H' => (∃ zs ks, H' L = some (.lst zs) ∧ Txs H' zs ks ∧ (∀ l ∈ ks, l ∈ ev ns ns) ∧ zs.length ≤ jj) ∧ Sta H' st (600 - 200 * j + 99 - jj) ∧ Same Hb H' ∧ H' an = some (.lst (ns.map V.str)) ∧ H' pe = some (.lst xs) ∧ KT H10 H')
          ⟨⟨[], [], upd_same, .nil, (fun _ h => nomatch h), Nat.le_refl _⟩, ha10.same sL, s10.trans sL, sL _ _ han10, sL _ _ hpe, KT.same sL⟩ (fun jj H' _ h => SqL.of h.2.2.2.2.1) ?_ ?_
        · rintro jj y Ha Ha' hjj ⟨⟨zs, ks, hz, hzt, hks, lz⟩, hsa, sb, hna, hpa, kt⟩ ⟨rfl, hy⟩
          obtain ⟨l, hl0, tl⟩ := Pd.get htx hy
          refine ⟨rfl, ?_⟩
          refine ⟨_, rfl, _, rfl, st, c0, (600 - 200 * j + 99 - (jj + 1)), rfl, hsa.less (by omega), c01, c02, fun r Hd r0 r1 had cd => ?_⟩
          have ktd := KT.ch cd hsa
          have sd := same_ch sb nb cd
          have hz' := cd _ _ nLs hz
          refine ⟨rfl, _, rfl, ?_⟩
          by_cases e : r = 0
          · rw [e]
            refine iteT ?_
            refine ⟨_, rfl, zs, hz', by rw [sl]; omega, ⟨zs ++ [y], ks ++ [l], upd_same, ?_, fun q hq => ?_, by rw [List.length_append]; exact Nat.succ_le_succ lz⟩, had.upd nLs, updN sd (s10.free nL), ?_, ?_, (kt.trans ktd).trans (KT.lst hz')⟩
            · exact Paired.snoc (hzt.kt (ktd.trans (KT.lst hz'))) (tl.kt ((kt.trans ktd).trans (KT.lst hz')))
            · rcases List.mem_append.mp hq with h | h
              · exact hks q h
              · rw [List.mem_singleton.mp h]; exact List.mem_of_getElem? hl0
            · rw [upd_ne nLa]; exact cd _ _ nas hna
            · rw [upd_ne nLp]; exact cd _ _ nps hpa
          · refine (if_neg (by simp [e])).mpr ?_
            exact ⟨⟨zs, ks, hz', hzt.kt ktd, hks, by omega⟩, had, sd, cd _ _ nas hna, cd _ _ nps hpa, kt.trans ktd⟩
        rintro H11 ⟨⟨zs, ks, hz, hzt, hks, lz⟩, ha11, s11, han11, _, _⟩
        refine ⟨20, rfl, L, _, rfl, SqL.of hz, fun wl nwl => ?_⟩
        have ect : cutV zs none (some 20) = zs.take 20 := cut_to _ 20
        rw [ect]
        have swl := same_new (o := .lst (zs.take 20)) nwl
        have hwl : (upd H11 wl (.lst (zs.take 20))) wl = some (.lst (zs.take 20)) := upd_same
        have htw := Txs.kt (KT.same swl) (Pd.take 20 hzt)
        have hkw : ∀ l ∈ ks.take 20, l ∈ ev ns ns := fun l h => hks l (List.mem_of_mem_take h)
        have lkw : (ks.take 20).length ≤ 20 := by rw [List.length_take]; omega
        have s12 := s11.trans swl
        have ha12 := (ha11.same swl).less (show 600 - 200 * j ≤ 600 - 200 * j + 99 - xs.length by omega)
        have han12 := swl _ _ han11
        generalize zs.take 20 = wv at *
        generalize ks.take 20 = ws at *
        generalize upd H11 wl (.lst wv) = H12 at *
        have n0 : 1 ≤ ns.length ∧ ns.length ≤ 6 := by omega
        have cpn : Cp ns := fun z hz => (hnm z hz).cp
        have prs : ∀ l ∈ ws, ∃ u v, l = [u, v] ∧ u ∈ ns ∧ v ∈ ns ∧ u ≠ v := fun l hl => mem_ev (hkw l hl)
        have cpw : ∀ l ∈ ws, Cp l := fun l hl z hz => by
          obtain ⟨u, v, rfl, mu, mv, _⟩ := prs l hl
          rcases List.mem_cons.mp hz with e | hz
          · exact e ▸ cpn _ mu
          · exact (List.mem_singleton.mp hz) ▸ cpn _ mv
        have srt : Srt ns ws := ⟨nns, hnm, n0.1, n0.2, prs, lkw⟩
        -- the book
        refine ⟨_, rfl, an, rfl, ⟨_, SqL.of han12⟩, fun M nM => ?_⟩
        refine lc_it (walk_list (K := K) (a := an) (xs := ns.map V.str)) (fun jj H' => (∃ ps kvs, H' M = some (.lst (ps.map V.ref)) ∧ Paired (fun p (kv : Key × V) => H' p = some (.tup [kV kv.1, kv.2])) ps kvs ∧ kvs.map (·.1) = (ns.take jj).map Sum.inr ∧ (∀ kv ∈ kvs, Rg H' kv.2) ∧ ps.length ≤ jj) ∧ Same H12 H')
          ⟨⟨[], [], upd_same, .nil, rfl, (fun _ h => nomatch h), Nat.le_refl _⟩, same_new nM⟩ (fun jj H' _ h => h.2.seq (SqL.of han12)) ?_ ?_
        · rintro jj y Ha Ha' hjj ⟨⟨ps, kvs, hM, hps, ek, hrg, lps⟩, sa⟩ ⟨rfl, hy⟩
          rw [List.getElem?_map] at hy
          obtain ⟨n, hn, rfl⟩ := Option.map_eq_some_iff.mp hy
          rw [List.length_map] at hjj
          refine ⟨rfl, ?_⟩
          refine ⟨_, rfl, (by show 2 ≤ sizeLine; decide), fun t1 nt1 => ⟨by show 2 ≤ sizeLine; decide, fun t2 nt2 => ?_⟩⟩
          have e1 := same_new (o := .tup [.int 0, .int 5]) nt1
          have e2 := same_new (o := .tup [.str n, .ref t1]) nt2
          have hM' := e2 _ _ (e1 _ _ hM)
          have kt := ((KT.same e1).trans (KT.same e2)).trans (KT.lst (o := .lst (ps.map V.ref ++ [.ref t2])) hM')
          have kt2 := (KT.same e2).trans (KT.lst (o := .lst (ps.map V.ref ++ [.ref t2])) hM')
          refine ⟨_, hM', ?_, ⟨ps ++ [t2], kvs ++ [(Sum.inr n, .ref t1)], ?_, ?_, ?_, fun kv hkv => ?_, by rw [List.length_append]; exact Nat.succ_le_succ lps⟩, updN (sa.trans (e1.trans e2)) nM⟩
          · rw [List.length_map]
            exact small1000 (by omega)
          · rw [upd_same, List.map_append]
            rfl
          · exact Paired.snoc (L2.Paired.mapP hps fun p kv c => kt _ _ c) ((KT.lst (o := .lst (ps.map V.ref ++ [.ref t2])) hM') _ _ upd_same)
          · rw [List.map_append, ek, take_succ_of hn, List.map_append]
            rfl
          · rcases List.mem_append.mp hkv with h | h
            · exact (hrg kv h).kt kt
            · rw [List.mem_singleton.mp h]
              exact ⟨t1, 0, 5, rfl, kt2 _ _ upd_same, by decide⟩
        rintro H13 ⟨⟨ps0, kvs, hM, hps0, ek, hrg, _⟩, s13⟩
        rw [List.length_map, List.take_length] at ek
        obtain ⟨rv, rfl⟩ := nkv_of ek nns
        refine ⟨M, ps0, _, rfl, SqL.of hM, L2.Paired.mapP hps0 fun p kv c => SqT.of c, fun dd ndd => ?_⟩
        rw [merge_app (nkv ns rv) [] (by rw [List.nil_append, ek]; exact List.Pairwise.map _ (fun x y h q => h (Sum.inr.inj q)) nns), List.nil_append]
        have sd := same_new (o := .dK (nkv ns rv)) ndd
        have hdd : (upd H13 dd (.dK (nkv ns rv))) dd = some (.dK (nkv ns rv)) := upd_same
        have s14 := s13.trans sd
        have hrg14 : ∀ z ∈ ns, Rg (upd H13 dd (.dK (nkv ns rv))) (rv z) := fun z hz => (hrg (Sum.inr z, rv z) (List.mem_map.mpr ⟨z, hz, rfl⟩)).kt (KT.same sd)
        generalize upd H13 dd (.dK (nkv ns rv)) = H14 at *
        refine ⟨_, rfl, fun x dx nx ndx nxd => ?_⟩
        have sx : Same H14 (upd (upd H14 dx (.own x)) x (.ins C dx [])) := (same_new ndx).trans (same_new (by rw [upd_ne (fun e => nxd e.symm)]; exact nx))
        refine ⟨x, dx, dd, wl, ns, rv, wv, ws, rfl, upd_same, sx _ _ hdd, .inl (SqL.of (sx _ _ (s14 _ _ hwl))), htw.kt (KT.same (s14.trans sx)), srt, fun z hz => (hrg14 z hz).kt (KT.same sx), fun H15 ms ps pm pp hc ch => ⟨rfl, ?_⟩⟩
        have s15 := s14.trans (same_ch sx nx ch)
        clear ch sx
        have hwl15 := s15 _ _ hwl
        have han15 := s15 _ _ han12
        have htw15 := htw.kt (KT.same s15)
        have hmw : ∀ l, l ∈ ws ↔ l ∈ ps := fun l => by rw [pp.mem_iff, uq_mem]
        have eS : shortest ws ns = shortest ps ms := shortest_congr hmw (fun x => pm.mem_iff.symm) pm.length_eq.symm
        obtain ⟨g0, g1, g2⟩ := rings_agree hc.ok.prs
        have j2 : 800 - 200 * (j + 1) = 600 - 200 * j := by omega
        refine ⟨_, rfl, x, ms, rv, ps, rfl, hc, fun e0 H16 s16 => ?_, fun v hv q H16 nq hq s16 => ?_⟩
        · -- no ring
          refine ⟨_, rfl, _, rfl, an, wl, ns, wv, ws, rfl, SqL.of (s16 _ _ han15), SqL.of (s16 _ _ hwl15), htw15.kt (KT.same s16), cpn, cpw, n0.2, fun H17 s17 => ?_⟩
          have ez : shortest ws ns = 0 := by
            rcases Nat.eq_zero_or_pos (shortest ps ms) with h | h
            · rw [eS, h]
            · exact absurd e0 (g1 (Nat.ne_of_gt h))
          rw [ez]
          refine ⟨by show 2 ≤ sizeLine; decide, fun tq ntq => ⟨tq, _, rfl, SqT.of upd_same, rfl, _, _, rfl, _, _, rfl, rfl, ?_⟩⟩
          have s18 := s15.trans ((s16.trans s17).trans (same_new (o := .tup [.non, .int (0 : Nat)]) ntq))
          refine ⟨_, rfl, rfl, true, rfl, iteT ?_⟩
          refine ⟨_, rfl, false, rfl, iteF ?_⟩
          refine ⟨⟨_, _, _, _, _, _, _, _, rfl⟩, s12.trans s18, ?_⟩
          rw [j2]
          exact ha12.same s18
        · obtain ⟨lv, vnd, vns, vch, vclo, vne⟩ := g2 v hv
          rw [← eS] at lv
          refine ⟨_, rfl, _, rfl, an, wl, ns, wv, ws, rfl, SqL.of (s16 _ _ han15), SqL.of (s16 _ _ hwl15), htw15.kt (KT.same s16), cpn, cpw, n0.2, fun H17 s17 => ?_⟩
          rw [← lv]
          refine ⟨by show 2 ≤ sizeLine; decide, fun tq ntq => ⟨tq, _, rfl, SqT.of upd_same, rfl, _, _, rfl, _, _, rfl, rfl, ?_⟩⟩
          have s18 := s17.trans (same_new (o := .tup [.ref q, .int (v.length : Nat)]) ntq)
          have hq18 := s18 _ _ hq
          have s19 := s15.trans (s16.trans s18)
          have hc19 := hc.kn (KN.same (s16.trans s18))
          have q12 : H12 q = none := s15.free nq
          generalize upd H17 tq (.tup [.ref q, .int (v.length : Nat)]) = H19 at *
          have lpos : 0 < v.length := List.length_pos_iff.mpr vne
          have l6 : v.length ≤ 6 := by
            have := hc.ok.six
            have := nd_sub_len vnd vns
            omega
          refine ⟨_, rfl, rfl, false, congrArg V.bl (decide_eq_false fun e => ?_), iteF ?_⟩
          · injection e with e
            omega
          refine ⟨_, rfl, _, _, .type "list", .type "list", true, rfl, .ty "list", sqL_ty (SqL.of hq18), rfl, true, rfl, iteF ?_⟩
          refine ⟨_, rfl, _, v.length, rfl, .inl ⟨_, SqL.of hq18, by rw [List.length_map]⟩, _, rfl, rfl, false, congrArg (fun z => V.bl (!z)) (decide_eq_true rfl), iteF ?_⟩
          refine ⟨_, rfl, q, v, rfl, SqL.of hq18, vnd, by omega, _, rfl, rfl, false, congrArg (fun z => V.bl (!z)) (decide_eq_true rfl), iteF ?_⟩
          have cpv : Cp v := fun z hz => (hc.ok.nm z (vns z hz)).cp
          have hwl19 := s19 _ _ hwl
          have htw19 := htw.kt (KT.same s19)
          refine ⟨_, rfl, (v.length : Int), rfl, by omega, by omega, fun L2 nL2 => ?_⟩
          refine lc_range (lo := 0) (n := v.length) (fun _ H' => H' L2 = some (.lst []) ∧ Same H19 H') ⟨upd_same, same_new nL2⟩ ?_ ?_
          · rintro ii Ha hii ⟨hLa, sa⟩
            obtain ⟨x1, y1, hx1, hy1, mx1, my1, hin⟩ := ring_at vch vclo hii
            have hqa := sa _ _ hq18
            refine ⟨rfl, ?_⟩
            refine ⟨_, rfl, _, rfl, q, _, _, .str x1, rfl, rfl, SqL.of hqa, by rw [Int.zero_add]; exact atI_nat (by rw [List.getElem?_map, hx1]; rfl), ?_⟩
            refine ⟨_, rfl, _, rfl, q, q, _, _, rfl, rfl, hqa, hqa, by rw [List.length_map, sl]; omega, fun pc npc => ?_⟩
            refine ⟨_, rfl, _, _, rfl, rfl, pc, _, _, .str y1, rfl, rfl, SqL.of upd_same, ?_, by show 2 ≤ sizeLine; decide, fun tu ntu => ?_⟩
            · rw [Int.zero_add]
              exact atI_nat (j := ii + 1) (by rw [← List.map_append, List.getElem?_map, hy1]; rfl)
            have sb := sa.trans ((same_new (o := .lst (v.map V.str ++ v.map V.str)) npc).trans (same_new (o := .tup [.str x1, .str y1]) ntu))
            refine ⟨_, rfl, [x1, y1], ws, wv, wl, ⟨tu, rfl, upd_same⟩, rfl, .inl (SqL.of (sb _ _ hwl19)), htw19.kt (KT.same sb), fun z hz => ?_, cpw, false, congrArg V.bl ?_, iteF ⟨?_, sb⟩⟩
            · rcases List.mem_cons.mp hz with e | hz
              · exact e ▸ cpv _ mx1
              · exact (List.mem_singleton.mp hz) ▸ cpv _ my1
            · rw [if_pos rfl, decide_eq_true ((hmw _).mpr hin)]
              rfl
            · exact (same_new (o := .tup [.str x1, .str y1]) ntu) _ _ ((same_new (o := .lst (v.map V.str ++ v.map V.str)) npc) _ _ hLa)
          rintro H20 ⟨hL20, s20⟩
          refine ⟨Nat.zero_le _, fun q' nq' => ?_⟩
          have s21 := s20.trans (same_new (o := .lst []) nq')
          refine ⟨.list [], .list [], .lst (SqL.of ((same_new (o := .lst []) nq') _ _ hL20)) .nil, .lst (SqL.of upd_same) .nil, by decide +kernel, by decide +kernel, false, rfl, iteF ?_⟩
          generalize upd H20 q' (.lst []) = H21 at *
          -- shown, and found is cleared
          refine ⟨_, rfl, q, _, rfl, .inl (SqL.of (s21 _ _ hq18)), fun sh nsh => ?_⟩
          have ssh := same_new (o := .lst (v.map V.str)) nsh
          have hq22 := ssh _ _ (s21 _ _ hq18)
          have hsh : (upd H21 sh (.lst (v.map V.str))) sh = some (.lst (v.map V.str)) := upd_same
          have nqs : sh ≠ q := fun e => ne_of_none (s21 _ _ hq18) nsh e.symm
          have s22 := s21.trans ssh
          generalize upd H21 sh (.lst (v.map V.str)) = H22 at *
          refine ⟨_, rfl, .inl ⟨rfl, _, SqL.of hq22⟩, q, _, rfl, rfl, hq22, ?_⟩
          have kn := KN.upd (u := .lst []) hq22
          have hc23 := (hc19.kn (KN.same s22)).kn kn
          have nws : wl ≠ q := ne_of_none hwl q12
          have hsh23 : (upd H22 q (.lst [])) sh = some (.lst (v.map V.str)) := by rw [upd_ne nqs]; exact hsh
          have hwl23 : (upd H22 q (.lst [])) wl = some (.lst wv) := by rw [upd_ne nws]; exact s22 _ _ hwl19
          have htw23 := (htw19.kt (KT.same s22)).kt kn.kt
          have s23 : Same H12 (upd H22 q (.lst [])) := updN (s19.trans s22) q12
          generalize upd H22 q (.lst []) = H23 at *
          obtain ⟨dxx, dcat, pcat, ycat, hx23, _⟩ := hc23.at_
          refine ⟨_, rfl, x, dxx, _, rfl, hx23, x, ms, rv, ps, rfl, hc23, fun dq H24 ndq hdq s24 => ?_⟩
          refine ⟨_, rfl, wl, _, rfl, SqL.of (s24 _ _ hwl23), fun rl nrl => ?_⟩
          have srl := same_new (o := .lst wv.reverse) nrl
          have hrl : (upd H24 rl (.lst wv.reverse)) rl = some (.lst wv.reverse) := upd_same
          have s25 := s24.trans srl
          have hdq25 := srl _ _ hdq
          generalize upd H24 rl (.lst wv.reverse) = H25 at *
          intro x2 dx2 nx2 ndx2 nxd2
          have sx2 : Same H25 (upd (upd H25 dx2 (.own x2)) x2 (.ins C dx2 [])) := (same_new ndx2).trans (same_new (by rw [upd_ne (fun e => nxd2 e.symm)]; exact nx2))
          have kt2 := (KT.same s25).trans (KT.same sx2)
          refine ⟨x2, dx2, dq, rl, ms, rv, wv.reverse, ws.reverse, rfl, upd_same, sx2 _ _ hdq25, .inl (SqL.of (sx2 _ _ hrl)), Txs.kt kt2 (Pd.rev htw23), ⟨hc.ok.nd, hc.ok.nm, hc.ok.one, hc.ok.six, fun l hl => ?_, by rw [List.length_reverse]; exact lkw⟩, fun z hz => (hc23.rg z hz).kt kt2, fun H26 ms2 ps2 pm2 pp2 hc2 ch2 => ⟨rfl, ?_⟩⟩
          · obtain ⟨u, w, e, mu, mw, ne⟩ := prs l (List.mem_reverse.mp hl)
            exact ⟨u, w, e, pm.mem_iff.mpr mu, pm.mem_iff.mpr mw, ne⟩
          have s26 := s25.trans (same_ch sx2 nx2 ch2)
          obtain rfl : ms2 = ms := sortedS_one pm2 hc2.srt hc.srt
          obtain rfl : ps2 = ps := ws_one pp pp2 hc.up hc2.up
          refine ⟨x2, ms2, rv, ps2, rfl, hc2, fun e0 => (hv.some e0).elim, fun v2 hv2 q2 H27 nq2 hq2 s27 => ?_⟩
          obtain rfl : v = v2 := hv.one hv2
          have s27' := s26.trans s27
          refine ⟨_, rfl, lD v, lD v, .lst (SqL.of hq2) (Dp.strs v), .lst (SqL.of (s27' _ _ hsh23)) (Dp.strs v), lD_shaped cpv, lD_shaped cpv, false, congrArg V.bl (by rw [lD_eqv, decide_eq_true rfl]; rfl), iteF ?_⟩
          refine ⟨_, rfl, x, ms2, rv, ps2, rfl, hc23.kn (KN.same s27'), fun e0 => (hv.some e0).elim, fun v3 hv3 q3 H28 nq3 hq3 s28 => ?_⟩
          obtain rfl : v = v3 := hv.one hv3
          have s28' := s27'.trans s28
          refine ⟨_, rfl, lD v, lD v, .lst (SqL.of hq3) (Dp.strs v), .lst (SqL.of (s28' _ _ hsh23)) (Dp.strs v), lD_shaped cpv, lD_shaped cpv, false, congrArg V.bl (by rw [lD_eqv, decide_eq_true rfl]; rfl), iteF ?_⟩
          refine ⟨⟨_, _, _, _, _, _, _, _, rfl⟩, s12.trans (s23.trans s28'), ?_⟩
          rw [j2]
          exact ha12.same (s23.trans s28')
      · rintro σ H5 ⟨⟨w4, w5, w6, w7, w8, w9, w10, w11, rfl⟩, s5, _⟩
        exact ⟨⟨_, _, _, _, _, _, _, _, _, _, _, rfl⟩, s5⟩
    · rintro σ H2 _
      exact k H2
end
end KA
set_option Elab.async false
set_option linter.all false
set_option maxRecDepth 100000
set_option maxHeartbeats 4000000
namespace KA
open PySem PySem.Spec PyProof.Rows L2
/-! ### the head's facts: defs by a path of one's own, properties -/
/-- the property object f of the class x, its getter -/
def prA (x f : Str) (K : PySem.W.Frag) : Addr := He.ma K (He.ga K x) f
def gtA (x f : Str) (K : PySem.W.Frag) : Addr := match PySem.W.recIn K (prA x f K) "property" with
  | some (.ref g :: _) => g
  | _ => 0
def prB (K : PySem.W.Frag) (x f : Str) : Bool := He.eqO (PySem.W.findIn K (.ref (He.ga K x)) f) (some (some (.ref (prA x f K)))) &&
  (He.eqO (PySem.W.specialIn K (.ref (prA x f K)) "__get__") (some (some (.builtin "property.__get__"))) && (decide (PySem.W.takesIn K (.ref (prA x f K)) = some true) &&
    match PySem.W.recIn K (prA x f K) "property" with
    | some (.ref _ :: _) => true
    | _ => false))
theorem prB_ok {K : PySem.W.Frag} {x f : Str} (h : prB K x f = true) : PropOf K (He.ga K x) f (prA x f K) (gtA x f K) := by
  obtain ⟨h1, h⟩ := He.ba h
  obtain ⟨h2, h⟩ := He.ba h
  obtain ⟨h3, h4⟩ := He.ba h
  refine ⟨He.eqO_ok h1, He.eqO_ok h2, of_decide_eq_true h3, ?_⟩
  unfold gtA
  split at h4
  · rename_i g r q
    rw [q]
    exact ⟨r, rfl⟩
  · cases h4
/-- one def: the path to its function, its name, qualified name, statement, defaults -/
structure DfP where
  pth : PySem.W.Frag → Addr
  name : Str
  qual : Str
  st : Stmt
  dfl : List He.Dv := []
def glP (x : Str) (st : Stmt) : DfP := ⟨fun K => He.ga K x, x, x, st, []⟩
def DfP.told (K : PySem.W.Frag) (d : DfP) : He.FnW := match K.lookup (d.pth K) with
  | some ⟨_, _, .func fd, _⟩ => some (fd.name, fd.qualname, fd.params, fd.body, fd.scope, fd.globals, fd.closure, fd.builtins)
  | _ => none
def DfP.due (d : DfP) : He.FnW := some (d.name, d.qual, defArgs d.st, .stmts (defBody d.st), defScope d.st, mainGlobals, [], builtinsNs)
def DfP.vs (K : PySem.W.Frag) (d : DfP) : List V := d.dfl.map (He.Dv.v K)
def DfP.good (K : PySem.W.Frag) (d : DfP) : Bool := PySem.W.keepIn K (.ref (d.pth K)) && match K.lookup (d.pth K) with
  | some ⟨_, _, .func fd, _⟩ => PySem.W.codeIn K fd.code d.qual && He.dflB K fd.defaults (d.vs K)
  | _ => false
theorem DfP.fun_ {K : PySem.W.Frag} {d : DfP} (e : d.told K = d.due) (c : d.good K = true) : ∃ fd, FunD K d.name d.qual (defArgs d.st) (defBody d.st) (defScope d.st) (d.vs K) [] (d.pth K) fd := by
  obtain ⟨kp, c⟩ := He.ba c
  unfold DfP.told at e
  split at e
  · rename_i oc od fd osl q
    rw [q] at c
    obtain ⟨c1, c2⟩ := He.ba c
    unfold DfP.due at e
    have e := Option.some.inj e
    have e1 := congrArg (·.1) e
    have e2 := congrArg (·.2.1) e
    have e3 := congrArg (·.2.2.1) e
    have e4 := congrArg (·.2.2.2.1) e
    have e5 := congrArg (·.2.2.2.2.1) e
    have e6 := congrArg (·.2.2.2.2.2.1) e
    have e7 := congrArg (·.2.2.2.2.2.2.1) e
    have e8 := congrArg (·.2.2.2.2.2.2.2) e
    refine ⟨fd, ⟨oc, od, fd.defaults, fd.kwdefaults, fd.doc, fd.pyModule, fd.annotations, fd.code, fd.closureTuple, osl, ?_, q, c1, He.dflB_ok c2, .inl rfl⟩, kp⟩
    cases fd
    cases e1
    cases e2
    cases e3
    cases e4
    cases e5
    cases e6
    cases e7
    cases e8
    rfl
  · cases e
def obsP (fa : List He.Fa) (pr : List (Str × Str)) (fn : List DfP) (K : PySem.W.Frag) : He.AlD := ((fa.all fun f => f.ok K) && ((pr.all fun p => prB K p.1 p.2) && fn.all fun d => d.good K), fn.map fun d => d.told K)
def valP (fn : List DfP) : He.AlD := (true, fn.map DfP.due)
def SaysP (fa : List He.Fa) (pr : List (Str × Str)) (fn : List DfP) (K : PySem.W.Frag) : Prop := obsP fa pr fn K = valP fn
def obsPG (n : Nat) (fa : List He.Fa) (pr : List (Str × Str)) (fn : List DfP) (g : Addr → Option Obj) : He.AlD := obsP fa pr fn (He.frG g (He.asD g n))
def hookP (n : Nat) (fa : List He.Fa) (pr : List (Str × Str)) (fn : List DfP) : PySem.W.Hook where
  α := He.AlD
  obs := fun s => obsPG n fa pr fn s.heap.get?
  val := fun _ => valP fn
  says := fun _ h => ∃ K : PySem.W.Frag, K.In h ∧ SaysP fa pr fn K
  of := fun _ _ e => ⟨_, He.frG_in, e⟩
  keeps := fun _ _ _ ⟨K, hK, c⟩ k => ⟨K, PySem.W.Frag.In.keeps hK k, c⟩
theorem obsPG_eq {n : Nat} {fa : List He.Fa} {pr : List (Str × Str)} {fn : List DfP} {g : Addr → Option Obj} {s : Shared} (h : ∀ a, g a = s.heap.get? a) : obsPG n fa pr fn g = (hookP n fa pr fn).obs s := by
  show obsPG n fa pr fn g = obsPG n fa pr fn s.heap.get?
  rw [funext h]
section
variable {fs : List He.Fa} {qs : List (Str × Str)} {ds : List DfP} {K : PySem.W.Frag}
theorem SaysP.all (c : SaysP fs qs ds K) : (fs.all fun f => f.ok K) = true ∧ (qs.all fun p => prB K p.1 p.2) = true ∧ (ds.all fun d => d.good K) = true := by
  have h : (obsP fs qs ds K).1 = true := by rw [show obsP fs qs ds K = valP ds from c]; rfl
  obtain ⟨h1, h⟩ := He.ba h
  exact ⟨h1, He.ba h⟩
theorem SaysP.fa (c : SaysP fs qs ds K) {f : He.Fa} (h : f ∈ fs) : f.ok K = true := List.all_eq_true.mp c.all.1 f h
theorem SaysP.pr (c : SaysP fs qs ds K) {p : Str × Str} (h : p ∈ qs) : prB K p.1 p.2 = true := List.all_eq_true.mp c.all.2.1 p h
theorem SaysP.fn (c : SaysP fs qs ds K) {d : DfP} (i : Nat) (h : ds[i]? = some d) : ∃ fd, FunD K d.name d.qual (defArgs d.st) (defBody d.st) (defScope d.st) (d.vs K) [] (d.pth K) fd := by
  refine DfP.fun_ ?_ (List.all_eq_true.mp c.all.2.2 d (List.mem_of_getElem? h))
  have e : (ds.map fun d => d.told K)[i]? = (ds.map DfP.due)[i]? := by rw [show ds.map (fun d => d.told K) = ds.map DfP.due from congrArg (·.2) c]
  rw [List.getElem?_map, List.getElem?_map, h] at e
  exact Option.some.inj e
end
end KA
set_option Elab.async false
set_option linter.all false
set_option maxRecDepth 100000
set_option maxHeartbeats 0
namespace KA
open PySem PySem.Spec PyProof.Rows L2
/-! ### the head -/
def pInit : DfP := ⟨fun K => He.ma K (He.ga K "Catalogue") "__init__", "__init__", "Catalogue.__init__", s_Catalogue_init, [.adr (He.dflAt ("Catalogue", some "__init__") 0)]⟩
def pSorts : DfP := ⟨gtA "Catalogue" "sorts", "sorts", "Catalogue.sorts", s_Catalogue_sorts, []⟩
def fn : List DfP := [pInit, pSorts, glP "is_name" s_is_name, glP "is_wish" s_is_wish, glP "is_whole" s_is_whole, glP "is_range" s_is_range, glP "way_back" s_way_back, glP "sort_ring" s_sort_ring,
  glP "_law_begin" s__law_begin, glP "_law_draw" s__law_draw, glP "_law_pick" s__law_pick, glP "_law_names" s__law_names, glP "_law_every" s__law_every, glP "_law_shortest" s__law_shortest, glP "law" s_law]
def gloN : List Str := ["is_name", "is_wish", "is_whole", "is_range", "Catalogue", "way_back", "sort_ring", "_law_begin", "_law_draw", "_law_pick", "_law_names", "_law_every", "_law_shortest", "law"]
def freN : List Str := ["len", "isinstance", "str", "tuple", "int", "bool", "dict", "list", "all", "sorted", "min", "max", "range", "enumerate", "set"]
def fa : List He.Fa := [.int "LONGEST_NAME" 8, .str "LETTERS" letters, .int "MOST_SORTS" 6, .int "MOST_WISHES" 20, .cls "Catalogue", .mkr "Catalogue", .noat "Catalogue" "ranges", .noat "Catalogue" "pairs"] ++ gloN.map .glo ++ freN.map .free
def prL : List (Str × Str) := [("Catalogue", "sorts")]
abbrev R : PySem.W.OpenRow := PySem.W.OpenLaw.row PySem.Challenge.rw_keptahead_k53_rings_of_sorts
abbrev hk : PySem.W.Hook := hookP 6 fa prL fn
def ob (s : PySem.W.SharedT) : He.AlD := obsPG 6 fa prL fn (HandSHeadRun.getT s)
theorem ob_eq (s : PySem.W.SharedT) : ob s = hk.obs s.abs := obsPG_eq (HandSHeadRun.getT_eq s)
def looseN : List PySem.Str := ["OrderError", "BadCatalogue", "BadWish", "LONGEST_NAME", "LETTERS", "is_name", "is_wish", "MOST_SORTS", "MOST_WISHES", "is_whole", "is_range", "Catalogue", "way_back", "sort_ring", "_law_begin", "_law_draw", "_law_pick", "_law_names", "_law_every", "_law_shortest"]
theorem run (w : World) : HandSHeadRun.RunEq R (PySem.W.view R.prog [24]) hk ob 3000 looseN w := by
  intro os
  kernel_rfl
section
variable {P : Program} {w : World} {K : PySem.W.Frag} {h : Heap} {mg : Str → Option Value}
theorem gl (X : K.In h) (G : h.Ns mainGlobals mg) (c : SaysP fa prL fn K) {x : Str} (m : x ∈ gloN) : mg x = some (.ref (He.ga K x)) := He.glo_ok X G (c.fa (List.mem_append_left _ (List.mem_append_right _ (List.mem_map.mpr ⟨x, m, rfl⟩))))
theorem fr (X : K.In h) (G : h.Ns mainGlobals mg) (c : SaysP fa prL fn K) {x : Str} (m : x ∈ freN) : mg x = none := He.free_ok X G (c.fa (List.mem_append_right _ (List.mem_map.mpr ⟨x, m, rfl⟩)))
theorem fre (X : K.In h) (G : h.Ns mainGlobals mg) (c : SaysP fa prL fn K) : Fre mg := by
  refine ⟨?_, ?_, ?_, ?_, ?_, ?_, ?_, ?_, ?_, ?_, ?_, ?_, ?_, ?_, ?_⟩ <;> exact fr X G c (by simp [freN])
/-- a def of the top -/
theorem df (X : K.In h) (G : h.Ns mainGlobals mg) (c : SaysP fa prL fn K) {x : Str} {st : Stmt} {ps : List Str} (i : Nat) (e : fn[i]? = some (glP x st)) (m : x ∈ gloN)
    (b : ∀ (kV doc pm : Value) (an : Option Addr) (cdv ct : Value) (us : List Value), us.length = ps.length → bindArgs (PySem.W.fnOf x x (defArgs st) (defBody st) (defScope st) .none kV doc pm an cdv ct) ⟨us, []⟩ = pure (ps.zip us)) : ∃ fd, FnP K x st (He.ga K x) fd ∧ Df K mg x st ps (fun z => z = fd) := by
  obtain ⟨fd, F⟩ := c.fn i e
  exact ⟨fd, F, He.ga K x, fd, F, gl X G c m, FunD.bindsN F b, rfl⟩
theorem Df.any {x : Str} {st : Stmt} {ps : List Str} {B : FuncData → Prop} (D : Df K mg x st ps B) : Df K mg x st ps := by
  obtain ⟨f, fd, h1, h2, h3, _⟩ := D
  exact ⟨f, fd, h1, h2, h3, trivial⟩
theorem catT (X : K.In h) (G : h.Ns mainGlobals mg) (c : SaysP fa prL fn K) : CatT K mg (He.ga K "Catalogue") :=
  ⟨He.cls_ok (c.fa (by simp [fa])), He.noat_ok (c.fa (by simp [fa])), He.noat_ok (c.fa (by simp [fa])), He.int_ok X G (c.fa (by simp [fa])), He.int_ok X G (c.fa (by simp [fa]))⟩
theorem di (X : K.In h) (G : h.Ns mainGlobals mg) (c : SaysP fa prL fn K) : Di K mg "Catalogue" (He.ga K "Catalogue") "Catalogue.__init__" s_Catalogue_init ["self", "sorts", "wishes"] := by
  obtain ⟨fd, F⟩ := c.fn 0 (d := pInit) rfl
  refine ⟨_, fd, _, F, He.mkr_ok (c.fa (by simp [fa])), gl X G c (by simp [gloN]), ?_⟩
  obtain ⟨ds, hv, hb⟩ := FunD.binds1 (ps := ["self", "sorts", "wishes"]) F 3 1 (by intro z; cases z) rfl fun T kV doc pm an cdv ct us its h1 h2 => match us, its, h1, h2 with
    | [_, _, _], [_], _, _ => ⟨_, rfl, rfl⟩
  cases hv
  exact hb
theorem facts {f : Addr} (X : K.In h) (G : h.Ns mainGlobals mg) (hfa : mg ("law" : Str) = some (.ref f)) (c : SaysP fa prL fn K) :
    ∃ fd : FuncData, (∀ (s : Shared) (v : Value), BindsTo s fd ⟨[v], []⟩ [("_law_script", v)]) ∧ ∀ base : Heap, K.In base → base.Ns mainGlobals mg → FnOk P w K mg base CX0 5 f fd ["_law_script"] (spLaw K) := by
  have T := fre X G c
  have Ct := catT X G c
  obtain ⟨_, _, D2⟩ := df X G c (ps := ["value"]) 2 (x := "is_name") rfl (by simp [gloN]) fun _ _ _ _ _ _ us hl => match us, hl with | [_], _ => rfl
  obtain ⟨_, _, D3⟩ := df X G c (ps := ["value"]) 3 (x := "is_wish") rfl (by simp [gloN]) fun _ _ _ _ _ _ us hl => match us, hl with | [_], _ => rfl
  obtain ⟨_, _, D4⟩ := df X G c (ps := ["value"]) 4 (x := "is_whole") rfl (by simp [gloN]) fun _ _ _ _ _ _ us hl => match us, hl with | [_], _ => rfl
  obtain ⟨_, _, D5⟩ := df X G c (ps := ["value"]) 5 (x := "is_range") rfl (by simp [gloN]) fun _ _ _ _ _ _ us hl => match us, hl with | [_], _ => rfl
  obtain ⟨_, _, D6⟩ := df X G c (ps := ["names", "pairs", "start"]) 6 (x := "way_back") rfl (by simp [gloN]) fun _ _ _ _ _ _ us hl => match us, hl with | [_, _, _], _ => rfl
  obtain ⟨fr, F7, D7⟩ := df X G c (ps := ["catalogue"]) 7 (x := "sort_ring") rfl (by simp [gloN]) fun _ _ _ _ _ _ us hl => match us, hl with | [_], _ => rfl
  obtain ⟨_, _, D8⟩ := df X G c (ps := ["_law_cell", "_law_turn"]) 8 (x := "_law_begin") rfl (by simp [gloN]) fun _ _ _ _ _ _ us hl => match us, hl with | [_, _], _ => rfl
  obtain ⟨_, _, D9⟩ := df X G c (ps := ["_law_state", "_law_size"]) 9 (x := "_law_draw") rfl (by simp [gloN]) fun _ _ _ _ _ _ us hl => match us, hl with | [_, _], _ => rfl
  obtain ⟨_, _, D10⟩ := df X G c (ps := ["_law_state", "_law_some"]) 10 (x := "_law_pick") rfl (by simp [gloN]) fun _ _ _ _ _ _ us hl => match us, hl with | [_, _], _ => rfl
  obtain ⟨_, _, D11⟩ := df X G c (ps := ["_law_state", "_law_many"]) 11 (x := "_law_names") rfl (by simp [gloN]) fun _ _ _ _ _ _ us hl => match us, hl with | [_, _], _ => rfl
  obtain ⟨_, _, D12⟩ := df X G c (ps := ["_law_names_here"]) 12 (x := "_law_every") rfl (by simp [gloN]) fun _ _ _ _ _ _ us hl => match us, hl with | [_], _ => rfl
  obtain ⟨_, _, D13⟩ := df X G c (ps := ["_law_names_here", "_law_wishes"]) 13 (x := "_law_shortest") rfl (by simp [gloN]) fun _ _ _ _ _ _ us hl => match us, hl with | [_, _], _ => rfl
  obtain ⟨fd, F, D14⟩ := df X G c (ps := ["_law_script"]) 14 (x := "law") rfl (by simp [gloN]) fun _ _ _ _ _ _ us hl => match us, hl with | [_], _ => rfl
  have gN := He.int_ok X G (c.fa (f := .int "LONGEST_NAME" 8) (by simp [fa]))
  have gS := He.str_ok X G (c.fa (f := .str "LETTERS" letters) (by simp [fa]))
  have Dr : Df K mg "sort_ring" s_sort_ring ["catalogue"] (fun fd => ByName fd "catalogue") := by
    obtain ⟨f, fd, h1, h2, h3, h4⟩ := D7
    refine ⟨f, fd, h1, h2, h3, fun s v => ?_⟩
    obtain ⟨oc, od, dV, kV, doc, pm, an, cdv, ct, osl, rfl, lk, hcd, hD, hK⟩ := h1.ex
    rcases hD with ⟨_, rfl⟩ | ⟨z, _⟩
    · exact .of_eq rfl
    · exact absurd rfl z
  have Dg1 : Dg K (He.ga K "Catalogue") "sorts" "Catalogue.sorts" s_Catalogue_sorts := by
    obtain ⟨fd, F⟩ := c.fn 1 (d := pSorts) rfl
    exact ⟨_, _, fd, prB_ok (c.pr (p := ("Catalogue", "sorts")) (by simp [prL])), F, FunD.bindsN F fun _ _ _ _ _ _ us hl => match us, hl with | [_], _ => rfl⟩
  have e := hfa.symm.trans (gl X G c (x := "law") (by simp [gloN]))
  injection e with e
  injection e with e
  subst e
  have b := FunD.bindsA (ps := ["_law_script"]) F fun _ _ _ _ _ _ us hl => match us, hl with | [_], _ => rfl
  refine ⟨fd, fun s v => b s [v] rfl, fun base _ _ => ?_⟩
  have GD : Fn P w K mg base _ _ 1 spDrw := ok_drw D9.any T
  have GP : Fn P w K mg base _ _ 2 (spPick K) := ok_pick D10.any GD T
  have GN : Fn P w K mg base _ _ 1 (spIsName K) := ok_is_name D2.any T gN gS
  have GR : Fn P w K mg base _ _ 2 (spRing (He.ga K "Catalogue")) (fun fd => ByName fd "catalogue") := ok_ring Dr (ok_way D6.any T) T Ct
  have GL := ok_law D14 (P := P) (w := w) (base := base) (ok_begin D8.any T) GD GP (ok_names D11.any GD GP T) (ok_every D12.any T) (ok_short D13.any T) GR (ok_init (di X G c) GN (ok_is_wish D3.any GN T) (ok_is_range D5.any (ok_is_whole D4.any T) T) T Ct) (ok_sorts Dg1 Ct) T Ct
  obtain ⟨f, fd', g, _, _, e2, ok⟩ := GL
  have e3 := hfa.symm.trans g
  injection e3 with e3
  injection e3 with e3
  rw [e2, ← e3] at ok
  exact ok
end
end KA
open PySem PySem.W PySem.Calls PyProof.Rows
theorem PySem.Challenge.cw_keptahead_k53_rings_of_sorts_holds : PySem.Challenge.rw_keptahead_k53_rings_of_sorts.Holds := by
  w_on; o_law
  refine HandSHeadRun.head_any (r := OpenLaw.row PySem.Challenge.rw_keptahead_k53_rings_of_sorts) (q := view (OpenLaw.row PySem.Challenge.rw_keptahead_k53_rings_of_sorts).prog [24]) (H := KA.hk) (ob := KA.ob) (M := 3000) (loose := KA.looseN) (d := HandSHeadRun.topDef (OpenLaw.row PySem.Challenge.rw_keptahead_k53_rings_of_sorts).prog 24) (kwd := []) KA.ob_eq
    (by kernel_rfl) (fun s => by kernel_rfl) KA.run (by kernel_rfl) (by kernel_rfl) (by kernel_rfl) (by rfl) (by first | assumption | decide +kernel) (by decide +kernel) ⟨rfl, rfl, rfl, rfl, rfl, by decide +kernel⟩ ?hw ?hc
  case hw => w_witness2
  case hc =>
    refine L2.walk_ofE (l := PySem.Challenge.rw_keptahead_k53_rings_of_sorts) (n := 63) (k := 5) (x := "_law_script") (CX := L2.CX0) rfl (by decide) (by kernel_rfl) ⟨rfl, by decide, by decide⟩ ?F (fun _ _ _ _ z => z)
    intro w mg fa h Y G hmg0
    obtain ⟨K, KX, c⟩ := Y
    have hmg : mg ("law" : PySem.Str) = some (.ref fa) := by
      have e : (HandSHeadRun.topDef (OpenLaw.row PySem.Challenge.rw_keptahead_k53_rings_of_sorts).prog 24).name = ("law" : PySem.Str) := by kernel_rfl
      rw [← e]
      exact hmg0
    obtain ⟨fd, hb, hF⟩ := KA.facts (P := (PySem.Challenge.rw_keptahead_k53_rings_of_sorts).prog) (w := w) KX G hmg c
    exact ⟨K, fd, KA.spLaw K, KX, hb, fun H a ns hl _ hS => ⟨a, ns, rfl, hS, hl, fun _ => rfl⟩, hF⟩
