import PyProof.Rows.All
import Wide.All
import OpenK.AllK
import Wide.FinOn
import KE.KStateDown
import KE.KSortTupG
import KE.KMinBuiltin
import HandS.ForMost
import HandS.ForExc
import HandS.More
import HandS.Defaults
import HandS.Property
import HandS.IsInst
import HandS.Deep
import HandS.Flow
import HandS.Style
import HandS.Star
import HandS.TupAny
import HandS.DictComp
import HandS.Conv
import HandS.SortKw
import HandS.SetKeys
import HandS.TupSets
import HandS.Codes
import HandS.Walk
import HandS.Head0
import HandS.Head1
import HandS.Head2
import HandS.HeadEnd
import HandS.HeadHook1
import HandS.HeadHook2
import PySem.Challenge.RW_keptahead_k54_ring_sets
set_option Elab.async false
set_option linter.all false
set_option maxRecDepth 100000
set_option maxHeartbeats 4000000
namespace KA
open PySem PySem.Spec PyProof.Rows L2
def top (i : Nat) : Stmt := PySem.Challenge.pw_keptahead_k54_ring_sets.main.body.getD i (.Pass ⟨0, 0, 0, 0⟩)
abbrev s_BadCatalogue_init : Stmt := inClass (top 2) 0
abbrev s_is_name : Stmt := top 7
abbrev s_is_wish : Stmt := top 8
abbrev s_is_whole : Stmt := top 12
abbrev s_is_range : Stmt := top 13
abbrev s_Catalogue_init : Stmt := inClass (top 14) 0
abbrev s_Catalogue_sorts : Stmt := inClass (top 14) 1
abbrev s_Catalogue_wishes : Stmt := inClass (top 14) 2
abbrev s_Catalogue_contains : Stmt := inClass (top 14) 3
abbrev s_Catalogue_len : Stmt := inClass (top 14) 4
abbrev s_Catalogue_iter : Stmt := inClass (top 14) 5
abbrev s_Catalogue_eq : Stmt := inClass (top 14) 6
abbrev s_Catalogue_need_wish : Stmt := inClass (top 14) 7
abbrev s_Catalogue_add : Stmt := inClass (top 14) 8
abbrev s_Catalogue_sub : Stmt := inClass (top 14) 9
abbrev s_is_ringless : Stmt := top 15
abbrev s_subsets : Stmt := top 16
abbrev s_ring_sets : Stmt := top 17
abbrev s__law_begin : Stmt := top 19
abbrev s__law_draw : Stmt := top 20
abbrev s__law_pick : Stmt := top 21
abbrev s__law_names : Stmt := top 22
abbrev s__law_every : Stmt := top 23
abbrev s__law_rows : Stmt := top 24
abbrev s__law_longer : Stmt := top 25
abbrev s__law_sets : Stmt := top 26
abbrev s__law_is_round : Stmt := top 27
abbrev s_law : Stmt := top 28
end KA
set_option Elab.async false
set_option linter.all false
set_option maxRecDepth 100000
set_option maxHeartbeats 4000000
namespace KA
open PySem PySem.Spec PyProof.Rows L2
abbrev FnP (K : PySem.W.Frag) (x : Str) (st : Stmt) (f : Addr) (fd : FuncData) : Prop := FunD K x x (defArgs st) (defBody st) (defScope st) [] [] f fd
/-- heaps that differ at a alone (and by new things) -/
def Ch (a : Addr) (H H' : Hp) : Prop := ∀ b o, b ≠ a → H b = some o → H' b = some o
theorem Ch.refl (a : Addr) (H : Hp) : Ch a H H := fun _ _ _ e => e
theorem Ch.trans {a : Addr} {H H1 H2 : Hp} (x : Ch a H H1) (y : Ch a H1 H2) : Ch a H H2 := fun b o n e => y b o n (x b o n e)
theorem Ch.of {a : Addr} {H H1 : Hp} (x : Same H H1) : Ch a H H1 := fun b o _ e => x b o e
theorem Ch.upd (a : Addr) (H : Hp) (o : HO) : Ch a H (upd H a o) := fun b u n e => by rw [upd_ne n]; exact e
theorem same_new {H : Hp} {p : Addr} {o : HO} (h : H p = none) : Same H (upd H p o) := fun b x e => by
  rw [upd_ne (ne_of_none e h)]; exact e
theorem Ch.free {a : Addr} {H H' : Hp} (c : Ch a H H') {o : Addr} (h : H' o = none) (n : o ≠ a) : H o = none := by
  cases e : H o with
  | none => rfl
  | some u => exact absurd ((c o u n e).symm.trans h) (by intro z; cases z)
theorem pow_room {a b : Int} (a0 : 0 ≤ a) (a1 : a ≤ 2231371558) (b0 : 0 ≤ b) (b1 : b ≤ 7228321917) : (a * b).natAbs < 2 ^ 64 := by
  have h0 : 0 ≤ a * b := Int.mul_nonneg a0 b0
  have h1 : a * b ≤ 2231371558 * 7228321917 := Int.mul_le_mul a1 b1 b0 (by decide)
  omega
section
variable {P : Program} {w : World} {K : PySem.W.Frag} {mg : Str → Option Value} {base : Heap}
structure Fre (mg : Str → Option Value) : Prop where
  len : mg "len" = none
  isi : mg "isinstance" = none
  str : mg "str" = none
  tup : mg "tuple" = none
  int : mg "int" = none
  bool : mg "bool" = none
  dict : mg "dict" = none
  list : mg "list" = none
  all : mg "all" = none
  sorted : mg "sorted" = none
  min : mg "min" = none
  max : mg "max" = none
  range : mg "range" = none
  enum : mg "enumerate" = none
  set : mg "set" = none
/-- a def of the text: where it stands, how it binds -/
def Df (K : PySem.W.Frag) (mg : Str → Option Value) (x : Str) (st : Stmt) (ps : List Str) (B : FuncData → Prop := fun _ => True) : Prop := ∃ (f : Addr) (fd : FuncData), FnP K x st f fd ∧ mg x = some (.ref f) ∧ Binds K fd ps [] ∧ B fd
/-- a def that keeps a promise -/
def Fn (P : Program) (w : World) (K : PySem.W.Frag) (mg : Str → Option Value) (base : Heap) (x : Str) (ps : List Str) (k : Nat) (sp : Sp) (B : FuncData → Prop := fun _ => True) : Prop :=
  ∃ (f : Addr) (fd : FuncData), mg x = some (.ref f) ∧ PySem.W.keepIn K (.ref f) = true ∧ Binds K fd ps [] ∧ B fd ∧ FnOk P w K mg base CX0 k f fd ps sp
theorem Df.ok {x : Str} {st : Stmt} {ps N : List Str} {k : Nat} {sp : Sp} {B : FuncData → Prop} (D : Df K mg x st ps B) (S : FnScope N ps (defScope st)) (len : ∀ vs H Q E, sp vs H Q E → vs.length = ps.length)
    (hbody : ∀ (f : Addr) (cdv : Value) (A : Around) (outer : List Env) (s : Shared) (H : Hp) (vs : List V) (Q : VK) (E : XK), Room k (A.deeper (envOfC x (defScope st) s.heap.objs.size f cdv)) → sp vs H Q E →
      ∃ t, PSs (cxOf CX0 P w K mg base N x (defScope st) f cdv A outer s H E).nox (defBody st) t ∧ t { nx := fun _ H' => Q .non H', rt := Q } (start N vs) H) : Fn P w K mg base x ps (k + 1) sp B := by
  obtain ⟨f, fd, F, g, b, hB⟩ := D
  refine ⟨f, fd, g, F.kp, b, hB, F.ok S len fun cdv A outer s H vs Q E hr h => ?_⟩
  obtain ⟨t, h1, h2⟩ := hbody f cdv A outer s H vs Q E hr h
  exact ⟨t, PSs.nox h1, h2⟩
theorem Fn.imp {x : Str} {ps : List Str} {k : Nat} {sp sp' : Sp} {B : FuncData → Prop} (F : Fn P w K mg base x ps k sp B) (h : ∀ vs H Q E, sp' vs H Q E → sp vs H Q E) : Fn P w K mg base x ps k sp' B := by
  obtain ⟨f, fd, g, kp, b, hB, ok⟩ := F
  exact ⟨f, fd, g, kp, b, hB, ok.imp h⟩
theorem Fn.mono {x : Str} {ps : List Str} {k j : Nat} {sp : Sp} {B : FuncData → Prop} (F : Fn P w K mg base x ps j sp B) (h : j ≤ k) : Fn P w K mg base x ps k sp B := by
  obtain ⟨f, fd, g, kp, b, hB, ok⟩ := F
  exact ⟨f, fd, g, kp, b, hB, ok.mono h⟩
theorem Fn.any {x : Str} {ps : List Str} {k : Nat} {sp : Sp} {B : FuncData → Prop} (F : Fn P w K mg base x ps k sp B) : Fn P w K mg base x ps k sp := by
  obtain ⟨f, fd, g, kp, b, hB, ok⟩ := F
  exact ⟨f, fd, g, kp, b, trivial, ok⟩
/-- f(e, ..) by its promise -/
theorem pe_fn {X : Cx} {k : Nat} {x : Str} {p pos : Pos} {e : Expr} {es : List Expr} {t : TA} {ps : List Str} {sp : Sp} (F : Fn X.prog X.w X.K X.mg X.base x ps k sp) (hr : Room k X.A) (hg : Gl X x) (ha : PA X (e :: es) t)
    (hdb : (x == ("__debug__" : Str)) = false := by decide) (he : starEach (e :: es) X.env = (false, eval e X.env) :: starEach es X.env := by rfl) (hpl : (backTo pos (starEach es X.env)).any (·.1) = false := by rfl) :
    PE X (.Call (.Name x p) (e :: es) [] pos) (tCall sp [] E0 t) := by
  obtain ⟨f, fd, g, kp, b, _, ok⟩ := F
  exact pe_call ok hr hg g kp b .nil pass0 ha hdb he hpl
end
end KA
set_option Elab.async false
set_option linter.all false
set_option maxRecDepth 100000
set_option maxHeartbeats 4000000
namespace KA
open PySem PySem.Spec PyProof.Rows L2
section
variable {P : Program} {w : World} {K : PySem.W.Frag} {mg : Str → Option Value} {base : Heap}
/-! ### the draws -/
theorem scBegin : FnScope ["_law_cell", "_law_turn"] ["_law_cell", "_law_turn"] (defScope s__law_begin) := ⟨rfl, rfl, rfl, by decide +kernel, rfl, by decide +kernel, by decide +kernel⟩
def spBegin : Sp := fun vs H Q _ => ∃ c t : Int, vs = [.int c, .int t] ∧ 0 ≤ t ∧ t ≤ 1000 ∧ ∀ p x y, H p = none → 0 ≤ x → Q (.ref p) (upd H p (.lst [.int x, .int y, .int 0]))
theorem ok_begin (D : Df K mg "_law_begin" s__law_begin ["_law_cell", "_law_turn"]) (T : Fre mg) : Fn P w K mg base "_law_begin" ["_law_cell", "_law_turn"] 1 spBegin := by
  refine D.ok scBegin (fun vs H Q E h => ?_) (fun f cdv A outer s H vs Q E hr h => ?_)
  · obtain ⟨c, t, rfl, _⟩ := h
    rfl
  · obtain ⟨c, t, rfl, h0, h1, k⟩ := h
    refine ⟨_, (pss_one (ps_ret (pe_lst (pa_cons (pe_callB (call_max2 rfl) (by rfl) T.max (by decide +kernel) (pa_cons pe_int (pa_cons (pe_op op_sub (pv 0) (pe_op op_pow pe_int pe_int)) pa_nil)))
      (pa_cons (pe_op op_add (pv 0) (pe_op op_mul pe_int (pv 1))) (pa_cons pe_int pa_nil)))))), ?_⟩
    refine ⟨_, rfl, _, _, rfl, rfl, ⟨by decide, by decide, by decide⟩, _, _, rfl, rfl, _, _, rfl, ?_⟩
    refine ⟨_, rfl, _, rfl, _, _, rfl, rfl, .inl ⟨by decide, by decide⟩, _, _, rfl, rfl, (by show 3 ≤ sizeLine; decide), fun p hp => ?_⟩
    refine k p _ _ hp ?_
    split <;> omega
theorem scDraw : FnScope ["_law_state", "_law_size", "_law_found"] ["_law_state", "_law_size"] (defScope s__law_draw) := ⟨rfl, rfl, rfl, by decide +kernel, rfl, by decide +kernel, by decide +kernel⟩
def spDraw : Sp := fun vs H Q _ => ∃ (a : Addr) (x y z n : Int), vs = [.ref a, .int n] ∧ H a = some (.lst [.int x, .int y, .int z]) ∧ 0 ≤ x ∧ 0 ≤ z ∧ z ≤ 800 ∧ 0 < n ∧ n < 1073741824 ∧
  ∀ r x' z' : Int, 0 ≤ r → r < n → 0 ≤ x' → z ≤ z' → z' ≤ z + 1 → Q (.int r) (upd H a (.lst [.int x', .int y, .int z']))

theorem ok_draw (D : Df K mg "_law_draw" s__law_draw ["_law_state", "_law_size"]) (T : Fre mg) : Fn P w K mg base "_law_draw" ["_law_state", "_law_size"] 1 spDraw := by
  refine D.ok scDraw (fun vs H Q E h => ?_) (fun f cdv A outer s H vs Q E hr h => ?_)
  · obtain ⟨a, x, y, z, n, rfl, _⟩ := h
    rfl
  · obtain ⟨a, x, y, z, n, rfl, hA, hx, hz, hz2, hn, hn2, k⟩ := h
    have nd := scDraw.nd
    refine ⟨_, (pss_cons (ps_if (pt_cmpR op_gt (pe_ix ix_list (pv 0) pe_int (fun _ _ => rfl)) pe_int (nomark _))
        (pss_cons (ps_set (i := 2) nd rfl (.inl rfl) (pe_op op_mod (pe_callTy call_int1 (by rfl) T.int (by decide +kernel) (pa_cons (pe_ix ix_list (pv 0) pe_int (fun _ _ => rfl)) pa_nil)) (pv 1)))
        (pss_cons (ps_asg (pe_op op_fdiv (pe_ix ix_list (pv 0) pe_int (fun _ _ => rfl)) (pv 1)) (pg_sub (pv 0) pe_int set_list))
        (pss_one (ps_ret (pv 2))))) pss_nil)
      (pss_cons (ps_asg (pe_op op_add (pe_ix ix_list (pv 0) pe_int (fun _ _ => rfl)) pe_int) (pg_sub (pv 0) pe_int set_list))
      (pss_cons (ps_set (i := 2) nd rfl (.inl rfl) (pe_op op_add (pe_op op_mod (pe_callTy call_int1 (by rfl) T.int (by decide +kernel) (pa_cons (pe_ix ix_list (pv 0) pe_int (fun _ _ => rfl)) pa_nil)) pe_int)
        (pe_op op_mul pe_int (pe_ix ix_list (pv 0) pe_int (fun _ _ => rfl)))))
      (pss_cons (ps_set (i := 2) nd rfl (.inl rfl) (pe_op op_mul (pv 2) (pe_op op_add (pe_op op_add (pe_op op_mod (pe_callTy call_int1 (by rfl) T.int (by decide +kernel) (pa_cons (pe_ix ix_list (pv 0) pe_int (fun _ _ => rfl)) pa_nil)) pe_int)
        (pe_op op_mul (pe_op op_mul pe_int (pe_ix ix_list (pv 0) pe_int (fun _ _ => rfl))) (pe_ix ix_list (pv 0) pe_int (fun _ _ => rfl)))) pe_int)))
      (pss_one (ps_ret (pe_op op_mod (pe_callTy call_int1 (by rfl) T.int (by decide +kernel) (pa_cons
        (pe_op op_fdiv (pe_op op_mod (pe_callTy call_int1 (by rfl) T.int (by decide +kernel) (pa_cons (pe_op op_pow (pv 2) pe_int) pa_nil)) pe_int) pe_int) pa_nil)) (pv 1)))))))), ?_⟩
    have sq := SqL.of (K := K) hA
    refine ⟨_, rfl, a, _, _, _, rfl, rfl, sq, rfl, _, _, rfl, rfl, _, rfl, ?_⟩
    by_cases hp : 0 < x
    · rw [decide_eq_true hp]
      refine iteT ?_
      refine ⟨_, rfl, a, _, _, _, rfl, rfl, sq, rfl, .inl ⟨_, rfl, _, rfl, _, _, rfl, rfl, hn, ?_⟩⟩
      refine ⟨_, rfl, a, _, _, _, rfl, rfl, sq, rfl, _, rfl, _, _, rfl, rfl, ⟨hn, hn2⟩, ?_⟩
      refine ⟨_, rfl, a, _, _, _, rfl, rfl, hA, rfl, ?_⟩
      refine ⟨_, rfl, ?_⟩
      exact k _ _ _ (Int.emod_nonneg _ (by omega)) (Int.emod_lt_of_pos _ hn) (Int.ediv_nonneg hx (by omega)) (Int.le_refl _) (by omega)
    · rw [decide_eq_false hp]
      refine iteF ?_
      refine ⟨_, rfl, a, _, _, _, rfl, rfl, sq, rfl, _, _, rfl, rfl, _, rfl, a, _, _, _, rfl, rfl, hA, rfl, ?_⟩
      have hB : (upd H a (HO.lst ([V.int x, V.int y, V.int z].set 2 (V.int (z + 1))))) a = some (.lst [.int x, .int y, .int (z + 1)]) := upd_same
      have sq := SqL.of (K := K) hB
      refine ⟨_, rfl, a, _, _, _, rfl, rfl, sq, rfl, .inl ⟨_, rfl, _, _, rfl, rfl, (by show (0 : Int) < 2147483629; decide), ?_⟩⟩
      refine ⟨_, rfl, a, _, _, _, rfl, rfl, sq, rfl, _, _, rfl, rfl, .inl ⟨by decide, by decide⟩, _, _, rfl, rfl, ?_⟩
      have y1 := Int.emod_nonneg y (show (2147483629 : Int) ≠ 0 by decide)
      have y2 := Int.emod_lt_of_pos y (show (0 : Int) < 2147483629 by decide)
      have y3 := Int.emod_nonneg y (show (2147483587 : Int) ≠ 0 by decide)
      have y4 := Int.emod_lt_of_pos y (show (0 : Int) < 2147483587 by decide)
      have q1 : 0 ≤ 7919 * (z + 1) * (z + 1) := Int.mul_nonneg (by omega) (by omega)
      have q2 : 7919 * (z + 1) * (z + 1) ≤ 7919 * 801 * 801 := Int.mul_le_mul (by omega) (by omega) (by omega) (by decide)
      refine ⟨_, rfl, _, rfl, a, _, _, _, rfl, rfl, sq, rfl, .inl ⟨_, rfl, _, _, rfl, rfl, (by show (0 : Int) < 2147483587; decide), ?_⟩⟩
      refine ⟨_, rfl, a, _, _, _, rfl, rfl, sq, rfl, _, _, rfl, rfl, .inl ⟨by decide, by decide⟩, ?_⟩
      refine ⟨_, rfl, a, _, _, _, rfl, rfl, sq, rfl, _, _, rfl, rfl, .inl ⟨by omega, by omega⟩, _, _, rfl, rfl, _, _, rfl, rfl, _, _, rfl, rfl, .inl ⟨by omega, by omega⟩, ?_⟩
      refine ⟨_, rfl, _, _, rfl, rfl, ⟨by decide, by decide, pow_room (by omega) (by omega) (by omega) (by omega)⟩, .inl ⟨_, rfl, _, _, rfl, rfl, (by show (0 : Int) < 2147483647; decide), ?_⟩⟩
      refine ⟨_, _, rfl, rfl, ⟨by decide, by decide⟩, .inl ⟨_, rfl, _, rfl, _, _, rfl, rfl, hn, ?_⟩⟩
      exact k _ x (z + 1) (Int.emod_nonneg _ (by omega)) (Int.emod_lt_of_pos _ hn) hx (by omega) (by omega)
theorem scPick : FnScope ["_law_state", "_law_some"] ["_law_state", "_law_some"] (defScope s__law_pick) := ⟨rfl, rfl, rfl, by decide +kernel, rfl, by decide +kernel, by decide +kernel⟩
/-- the state of the draws at a: so many draws (d) are still within the room -/
def Sta (H : Hp) (a : Addr) (d : Nat) : Prop := ∃ x y z : Int, H a = some (.lst [.int x, .int y, .int z]) ∧ 0 ≤ x ∧ 0 ≤ z ∧ z + d ≤ 800
theorem Sta.less {H : Hp} {a : Addr} {d e : Nat} (h : Sta H a d) (l : e ≤ d) : Sta H a e := by
  obtain ⟨x, y, z, h1, h2, h3, h4⟩ := h
  exact ⟨x, y, z, h1, h2, h3, by omega⟩
theorem Sta.ne {H : Hp} {a p : Addr} {d : Nat} (h : Sta H a d) (n : H p = none) : a ≠ p := by
  obtain ⟨x, y, z, h1, _⟩ := h
  exact ne_of_none h1 n
theorem Sta.same {H H' : Hp} {a : Addr} {d : Nat} (h : Sta H a d) (s : Same H H') : Sta H' a d := by
  obtain ⟨x, y, z, h1, h2⟩ := h
  exact ⟨x, y, z, s _ _ h1, h2⟩
theorem Sta.upd {H : Hp} {a p : Addr} {d : Nat} {o : HO} (h : Sta H a d) (n : p ≠ a) : Sta (upd H p o) a d := by
  obtain ⟨x, y, z, h1, h2⟩ := h
  exact ⟨x, y, z, by rw [upd_ne n.symm]; exact h1, h2⟩
/-- a draw: the state has one turn less -/
def spDrw : Sp := fun vs H Q _ => ∃ (a : Addr) (n : Int) (d : Nat), vs = [.ref a, .int n] ∧ Sta H a (d + 1) ∧ 0 < n ∧ n < 1073741824 ∧ ∀ (r : Int) (H' : Hp), 0 ≤ r → r < n → Sta H' a d → Ch a H H' → Q (.int r) H'
theorem spDrw_of {vs : List V} {H : Hp} {Q : VK} {E : XK} (h : spDrw vs H Q E) : spDraw vs H Q E := by
  obtain ⟨a, n, d, rfl, ⟨x, y, z, h1, h2, h3, h4⟩, h5, h6, k⟩ := h
  refine ⟨a, x, y, z, n, rfl, h1, h2, h3, by omega, h5, h6, fun r x' z' r0 r1 x0 z0 z1 => k r _ r0 r1 ⟨x', y, z', upd_same, x0, by omega, by omega⟩ (Ch.upd a H _)⟩
theorem ok_drw (D : Df K mg "_law_draw" s__law_draw ["_law_state", "_law_size"]) (T : Fre mg) : Fn P w K mg base "_law_draw" ["_law_state", "_law_size"] 1 spDrw := (ok_draw D T).imp fun _ _ _ _ => spDrw_of
/-- one of some things: a list's item, a text's sign -/
def spPick (K : PySem.W.Frag) : Sp := fun vs H Q _ => ∃ (a : Addr) (v : V) (d : Nat), vs = [.ref a, v] ∧ Sta H a (d + 1) ∧
  ((∃ (b : Addr) (xs : List V), v = .ref b ∧ SqL K H b xs ∧ b ≠ a ∧ 0 < xs.length ∧ xs.length ≤ 1000 ∧ ∀ x H', x ∈ xs → Sta H' a d → Ch a H H' → Q x H') ∨
   (∃ z : Str, v = .str z ∧ 0 < z.length ∧ z.length ≤ 1000 ∧ ∀ c H', c ∈ z.cps.toList → Sta H' a d → Ch a H H' → Q (.str ⟨#[c]⟩) H'))
theorem Ch.seqL {K : PySem.W.Frag} {a b : Addr} {H H' : Hp} {xs : List V} (c : Ch a H H') (n : b ≠ a) (h : SqL K H b xs) : SqL K H' b xs := by
  rcases h with (h | ⟨o, h⟩) | h
  · exact .inl (.inl (c _ _ n h))
  · exact .inl (.inr ⟨o, c _ _ n h⟩)
  · exact .inr h
theorem atI_get {α : Type} {xs : List α} {i : Int} (h0 : 0 ≤ i) (h1 : i < xs.length) : ∃ x, atI xs i = some x ∧ x ∈ xs := by
  obtain ⟨j, rfl⟩ := Int.eq_ofNat_of_zero_le h0
  have hj : j < xs.length := by omega
  exact ⟨xs[j], atI_nat (List.getElem?_eq_getElem hj), List.getElem_mem hj⟩
theorem ok_pick (D : Df K mg "_law_pick" s__law_pick ["_law_state", "_law_some"]) (GD : Fn P w K mg base "_law_draw" ["_law_state", "_law_size"] 1 spDrw) (T : Fre mg) : Fn P w K mg base "_law_pick" ["_law_state", "_law_some"] 2 (spPick K) := by
  refine D.ok scPick (fun vs H Q E h => ?_) (fun f cdv A outer s H vs Q E hr h => ?_)
  · obtain ⟨a, v, d, rfl, _⟩ := h
    rfl
  · obtain ⟨a, v, d, rfl, hS, h⟩ := h
    refine ⟨_, pss_one (ps_ret (pe_ix ix_seq (pv 1) (pe_fn GD hr (by rfl) (pa_cons (pv 0) (pa_cons (pe_callB call_len (by rfl) T.len PySem.boot_len (pa_cons (pv 1) pa_nil)) pa_nil))) (fun _ _ => rfl))), ?_⟩
    rcases h with ⟨b, xs, rfl, hL, nb, l0, l1, k⟩ | ⟨z, rfl, l0, l1, k⟩
    · refine ⟨_, rfl, _, rfl, _, rfl, _, xs.length, rfl, .inl ⟨_, hL, rfl⟩, a, _, d, rfl, hS, by omega, by omega, fun r H' r0 r1 hS' hC => ?_⟩
      obtain ⟨x, ex, hx⟩ := atI_get r0 r1
      exact .inl ⟨b, xs, _, x, rfl, rfl, hC.seqL nb hL, ex, k x H' hx hS' hC⟩
    · have lz : z.length = z.cps.toList.length := by rw [Array.length_toList]; rfl
      refine ⟨_, rfl, _, rfl, _, rfl, _, z.length, rfl, ⟨Nat.le_of_lt (small1000 l1), rfl⟩, a, _, d, rfl, hS, by omega, by omega, fun r H' r0 r1 hS' hC => ?_⟩
      obtain ⟨x, ex, hx⟩ := atI_get (xs := z.cps.toList) r0 (by omega)
      exact .inr (.inr ⟨z, _, x, rfl, rfl, Nat.le_of_lt (small1000 l1), ex, k x H' hx hS' hC⟩)
end
end KA
set_option Elab.async false
set_option linter.all false
set_option maxRecDepth 100000
set_option maxHeartbeats 4000000
namespace KA
open PySem PySem.Spec PyProof.Rows L2
/-! ### names of letters -/
abbrev low (c : Nat) : Prop := 97 ≤ c ∧ c ≤ 122
structure IsNm (z : Str) : Prop where
  pos : 1 ≤ z.length
  most : z.length ≤ 8
  let_ : ∀ c ∈ TL.tl z, low c
def signs : Str := "qjxzetaoinshrdlcumwfgypbvk"
theorem signs_low : ∀ c ∈ TL.tl signs, low c := by
  have h : (TL.tl signs).all (fun c => decide (97 ≤ c ∧ c ≤ 122)) = true := by decide +kernel
  exact fun c hc => of_decide_eq_true (List.all_eq_true.mp h c hc)
theorem signs_nd : (TL.tl signs).Nodup := by decide +kernel
theorem signs_len : (TL.tl signs).length = 26 := by decide +kernel
theorem joinL_nil : ∀ ps : List (List Nat), TL.joinL [] ps = ps.flatten
  | [] => rfl
  | [p] => by simp [TL.joinL]
  | p :: q :: r => by
    show p ++ ([] ++ TL.joinL [] (q :: r)) = p ++ (q :: r).flatten
    rw [joinL_nil (q :: r)]
    rfl
theorem tl_glue (ys : List Str) : TL.tl (Txt.join "" ys) = (ys.map TL.tl).flatten := by
  rw [TL.join_eq, TL.tl_join]
  exact joinL_nil _
theorem glue_len : ∀ cs : List Nat, (cs.map fun c => TL.tl (⟨#[c]⟩ : Str)).flatten = cs
  | [] => rfl
  | c :: r => by
    show [c] ++ (r.map fun c => TL.tl (⟨#[c]⟩ : Str)).flatten = c :: r
    rw [glue_len r]
    rfl
theorem one_lens (cs : List Nat) : ((cs.map fun c => (⟨#[c]⟩ : Str)).map (·.length)).sum = cs.length := by
  induction cs with
  | nil => rfl
  | cons c r ih =>
    rw [List.map_cons, List.map_cons, List.sum_cons, ih]
    show 1 + r.length = r.length + 1
    omega
theorem atI_nat_of {α : Type} {xs : List α} {j : Nat} {c : α} (h : atI xs (j : Int) = some c) : xs[j]? = some c := by
  by_cases hj : j < xs.length
  · rw [atI_nat (List.getElem?_eq_getElem hj)] at h
    rw [List.getElem?_eq_getElem hj]
    exact h
  · unfold atI ixN at h
    rw [if_pos (by omega), if_neg (by omega)] at h
    cases h
/-- names that end with unlike signs -/
theorem nd_last {r : Int} {ns : List Str} (h0 : 0 ≤ r) (hl : ns.length ≤ 26) (h : ∀ (k : Nat) (z : Str), ns[k]? = some z → ∃ c, (TL.tl signs)[((r + 7 * k) % 26).toNat]? = some c ∧ (TL.tl z).getLast? = some c) : ns.Nodup := by
  rw [List.Nodup, List.pairwise_iff_getElem]
  intro i j hi hj hij e
  obtain ⟨c, c1, c2⟩ := h i _ (List.getElem?_eq_getElem hi)
  obtain ⟨d, d1, d2⟩ := h j _ (List.getElem?_eq_getElem hj)
  rw [e, d2] at c2
  have ec := Option.some.inj c2
  subst ec
  have a1 : ((r + 7 * i) % 26).toNat < (TL.tl signs).length := by rw [signs_len]; omega
  have a2 : ((r + 7 * j) % 26).toNat < (TL.tl signs).length := by rw [signs_len]; omega
  rw [List.getElem?_eq_getElem a1] at c1
  rw [List.getElem?_eq_getElem a2] at d1
  have e2 := (List.getElem_inj (h₀ := a1) (h₁ := a2) signs_nd).mp ((Option.some.inj c1).trans (Option.some.inj d1).symm)
  omega
section
variable {P : Program} {w : World} {K : PySem.W.Frag} {mg : Str → Option Value} {base : Heap}
abbrev nNames : List Str := ["_law_state", "_law_many", "_law_signs", "_law_first", "_law_found", "_law_at", "_law_name", "_law_sign"]
theorem scNames : FnScope nNames ["_law_state", "_law_many"] (defScope s__law_names) := ⟨rfl, rfl, rfl, by decide +kernel, rfl, by decide +kernel, by decide +kernel⟩
def spNames : Sp := fun vs H Q _ => ∃ (a : Addr) (m d : Nat), vs = [.ref a, .int m] ∧ m ≤ 26 ∧ Sta H a (d + (1 + 9 * m)) ∧
  ∀ (ns : List Str) (p : Addr) (H' : Hp), ns.length = m → ns.Nodup → (∀ z ∈ ns, IsNm z) → H p = none → H' p = some (.lst (ns.map V.str)) → Sta H' a d → Ch a H H' → Q (.ref p) H'
theorem ok_names (D : Df K mg "_law_names" s__law_names ["_law_state", "_law_many"]) (GD : Fn P w K mg base "_law_draw" ["_law_state", "_law_size"] 1 spDrw)
    (GP : Fn P w K mg base "_law_pick" ["_law_state", "_law_some"] 2 (spPick K)) (T : Fre mg) : Fn P w K mg base "_law_names" ["_law_state", "_law_many"] 3 spNames := by
  refine D.ok scNames (fun vs H Q E h => ?_) (fun f cdv A outer s H vs Q E hr h => ?_)
  · obtain ⟨a, v, d, rfl, _⟩ := h
    rfl
  · obtain ⟨a, m, d, rfl, hm, hS, k⟩ := h
    have nd := scNames.nd
    have hr1 := hr.mono (show 1 ≤ 2 by decide)
    refine ⟨_, pss_cons (ps_asg (pe_tup (pa_cons pe_str (pa_cons (pe_fn GD hr1 (by rfl) (pa_cons (pv 0) (pa_cons pe_int pa_nil))) pa_nil)))
        (pg_tup rfl (pgs_cons (pg_name (i := 2) nd rfl (.inr rfl)) (pgs_cons (pg_name (i := 3) nd rfl (.inl rfl)) pgs_nil))))
      (pss_cons (ps_set (i := 4) nd rfl (.inl rfl) (pe_lst pa_nil))
      (pss_cons (ps_for PassesOwn.never rfl (pi_range1 (by rfl) T.range (pa_cons (pv 1) pa_nil)) (pg_name (i := 5) nd rfl (.inl rfl))
        (pss_cons (ps_set (i := 6) nd rfl (.inl rfl) (pe_join pe_str (pe_lc (own := [("_law_sign", 7)]) (g := gName 7) (tt := tYes) rfl nd
            (pi_range1 (by rfl) T.range (pa_cons (pe_fn GD hr1 (by rfl) (pa_cons (pv 0) (pa_cons pe_int pa_nil))) pa_nil)) (blkOk_by (N := nNames) (sc := defScope s__law_names) (by decide +kernel))
            (fun _ _ _ _ _ => pg_name (i := 7) nd rfl (Or.inl rfl)) (fun _ _ _ _ _ => pts_nil) (fun _ _ _ _ _ => pe_fn GP hr (by rfl) (pa_cons (pv 0) (pa_cons (pv 2) pa_nil))))))
        (pss_one (ps_expr (pe_bm PySem.F.plainAttrs_list PySem.F.slot_list_append PySem.F.type_list_append mt_append (pv 4) (pa_cons (pe_op op_add_str (pv 6)
            (pe_ix ix_str (pv 2) (pe_op op_mod (pe_callTy call_int1 (by rfl) T.int (by decide +kernel) (pa_cons (pe_op op_add (pv 3) (pe_op op_mul pe_int (pv 5))) pa_nil)) pe_int) (fun _ _ => rfl))) pa_nil))))))
      (pss_one (ps_ret (pv 4))))), ?_⟩
    -- the first row
    refine ⟨_, rfl, a, 26, d + 9 * m, rfl, (by rw [show d + 9 * m + 1 = d + (1 + 9 * m) by omega]; exact hS), by decide, by decide, fun r H1 r0 r1 hS1 hC1 => ⟨by show 2 ≤ sizeLine; decide, fun p hp => ?_⟩⟩
    have sp := same_new (o := .tup [.str signs, .int r]) hp
    refine ⟨p, [.str signs, .int r], rfl, .inl (.inl upd_same), rfl, _, _, rfl, _, _, rfl, rfl, ?_⟩
    -- found = []
    refine ⟨Nat.zero_le _, fun o no => ?_⟩
    have so := same_new (o := .lst []) no
    have npa : a ≠ p := hS1.ne hp
    have hS1' := hS1.same sp
    have noa : a ≠ o := hS1'.ne no
    have hC2 : Ch a H (upd (upd H1 p (.tup [.str signs, .int r])) o (.lst [])) := (hC1.trans (Ch.of sp)).trans (Ch.of so)
    have no' : H o = none := (hC1.trans (Ch.of sp)).free no noa.symm
    refine ⟨_, rfl, (m : Int), rfl, by omega, by omega, for_range (lo := 0) (n := m) (fun i σ H2 => ∃ (ns : List Str) (v5 v6 : Option V), σ = [some (.ref a), some (.int m), some (.str signs), some (.int r), some (.ref o), v5, v6, none] ∧
      H2 o = some (.lst (ns.map V.str)) ∧ ns.length = i ∧ (∀ z ∈ ns, IsNm z) ∧ (∀ (k : Nat) (z : Str), ns[k]? = some z → ∃ c, (TL.tl signs)[((r + 7 * k) % 26).toNat]? = some c ∧ (TL.tl z).getLast? = some c) ∧ Sta H2 a (d + 9 * (m - i)) ∧ Ch a H H2)
      ⟨[], none, none, rfl, upd_same, rfl, (fun z h => nomatch h), (fun k z h => by simp at h), ?_, hC2⟩ ?_ ?_⟩
    · exact hS1'.same so
    · rintro i σ H2 hi ⟨ns, v5, v6, rfl, hO, hl, hN, hE, hS2, hCh⟩
      -- the signs
      refine ⟨⟨_, rfl⟩, _, rfl, a, 8, d + 9 * (m - i - 1) + 8, rfl, (by rw [show d + 9 * (m - i - 1) + 8 + 1 = d + 9 * (m - i) by omega]; exact hS2), by decide, by decide, fun q H3 q0 q1 hS3 hC3 => ?_⟩
      refine ⟨q, rfl, by omega, by omega, fun L nL => ?_⟩
      have naL : a ≠ L := hS3.ne nL
      have hC23 := hCh.trans hC3
      have hO3 := hC3 o _ noa.symm hO
      refine lc_range (lo := 0) (n := q.toNat) (fun j H4 => ∃ cs : List Nat, cs.length = j ∧ (∀ c ∈ cs, low c) ∧ H4 L = some (.lst (cs.map fun c => V.str ⟨#[c]⟩)) ∧ Sta H4 a (d + 9 * (m - i - 1) + (8 - j)) ∧ Ch a H3 H4)
        ⟨[], rfl, (fun c h => nomatch h), upd_same, hS3.same (same_new nL), Ch.of (same_new nL)⟩ ?_ ?_
      · rintro j H4 hj ⟨cs, hcl, hcs, hL, hS4, hC4⟩
        refine ⟨rfl, _, rfl, _, rfl, a, _, d + 9 * (m - i - 1) + (8 - (j + 1)), rfl, hS4.less (by omega), .inr ⟨signs, rfl, by decide +kernel, by decide +kernel, fun c H5 hc hS5 hC5 => ?_⟩⟩
        have hL5 := hC5 L _ naL.symm hL
        refine ⟨_, hL5, ?_, cs ++ [c], ?_, ?_, ?_, ?_, ?_⟩
        · rw [List.length_map]
          exact small1000 (by omega)
        · rw [List.length_append, hcl]
          rfl
        · intro e he
          rcases List.mem_append.mp he with h | h
          · exact hcs e h
          · rw [List.mem_singleton.mp h]
            exact signs_low c hc
        · rw [upd_same, List.map_append]
          rfl
        · exact hS5.upd naL.symm
        · exact fun b u n e => by
            rw [upd_ne (show b ≠ L from ne_of_none e nL)]
            exact (hC4.trans hC5) b u n e
      · rintro H4 ⟨cs, hcl, hcs, hL, hS4, hC4⟩
        refine ⟨"", L, cs.map fun c => (⟨#[c]⟩ : Str), rfl, rfl, .inl (SqL.of (by rw [List.map_map]; exact hL)), ?_, ?_⟩
        · rw [one_lens, List.length_map]
          show cs.length + cs.length * 0 ≤ 16777216
          omega
        · have hO4 := hC4 o _ noa.symm hO3
          have hi7 : 0 ≤ (r + 7 * ((0 : Int) + i)) % 26 := Int.emod_nonneg _ (by decide)
          have hi8 : (r + 7 * ((0 : Int) + i)) % 26 < 26 := Int.emod_lt_of_pos _ (by decide)
          obtain ⟨c, ec, hc⟩ := atI_get (xs := TL.tl signs) hi7 (by rw [signs_len]; exact hi8)
          have tz : TL.tl (Txt.join "" (cs.map fun c => (⟨#[c]⟩ : Str)) ++ (⟨#[c]⟩ : Str)) = cs ++ [c] := by
            rw [TL.tl_append, tl_glue, List.map_map]
            exact congrArg (· ++ [c]) (glue_len cs)
          refine ⟨_, rfl, .inl ⟨rfl, _, SqL.of hO4⟩, _, rfl, _, rfl, _, rfl, _, rfl, _, _, rfl, rfl, .inl ⟨by decide, by decide⟩, _, _, rfl, rfl, .inl ⟨_, rfl, _, _, rfl, rfl, (by show (0 : Int) < 26; decide), signs, _, c, rfl, rfl, by decide +kernel, ec, _, _, rfl, rfl, ?_, o, _, _, rfl, rfl, hO4, ?_, ?_⟩⟩
          · have e1 := TL.len_tl (Txt.join "" (cs.map fun c => (⟨#[c]⟩ : Str)))
            rw [tl_glue, List.map_map, show (cs.map (TL.tl ∘ fun c => (⟨#[c]⟩ : Str))).flatten = cs from glue_len cs] at e1
            rw [e1]
            exact Nat.le_of_lt (small1000 (by show cs.length + 1 ≤ 1000; omega))
          · rw [List.length_map]
            exact small1000 (by omega)
          · refine ⟨ns ++ [Txt.join "" (cs.map fun c => (⟨#[c]⟩ : Str)) ++ (⟨#[c]⟩ : Str)], _, _, rfl, ?_, ?_, ?_, ?_, ?_, ?_⟩
            · rw [upd_same, List.map_append]
              rfl
            · rw [List.length_append, hl]
              rfl
            · intro z hz
              rcases List.mem_append.mp hz with h | h
              · exact hN z h
              · rw [List.mem_singleton.mp h]
                have e2 := TL.len_tl (Txt.join "" (cs.map fun c => (⟨#[c]⟩ : Str)) ++ (⟨#[c]⟩ : Str))
                rw [tz, List.length_append] at e2
                refine ⟨by rw [e2]; simp, by rw [e2]; simp; omega, ?_⟩
                rw [tz]
                intro x hx
                rcases List.mem_append.mp hx with h | h
                · exact hcs x h
                · rw [List.mem_singleton.mp h]
                  exact signs_low c hc
            · intro k z hk
              by_cases hki : k < ns.length
              · rw [List.getElem?_append_left hki] at hk
                exact hE k z hk
              · rw [List.getElem?_append_right (by omega)] at hk
                have ek : k - ns.length = 0 := by
                  cases e : k - ns.length with
                  | zero => rfl
                  | succ j => rw [e] at hk; simp at hk
                rw [ek] at hk
                have ez := Option.some.inj hk
                subst ez
                have ek2 : k = i := by omega
                refine ⟨c, ?_, ?_⟩
                · rw [ek2]
                  have := ec
                  obtain ⟨j, ej⟩ := Int.eq_ofNat_of_zero_le hi7
                  rw [ej] at this
                  have e3 : (r + 7 * (i : Int)) % 26 = (j : Int) := by
                    rw [← ej, Int.zero_add]
                  rw [e3]
                  exact atI_nat_of this
                · rw [tz, List.getLast?_append]
                  rfl
            · exact (hS4.less (by omega)).upd noa.symm
            · exact fun b u n e => by
                rw [upd_ne (show b ≠ o from ne_of_none e no')]
                exact (hC23.trans hC4) b u n e
    · rintro σ H2 ⟨ns, v5, v6, rfl, hO, hl, hN, hE, hS2, hCh⟩
      refine ⟨_, rfl, k ns o H2 hl (nd_last r0 (by omega) hE) hN no' hO ?_ hCh⟩
      rw [Nat.sub_self] at hS2
      exact hS2
end
end KA
set_option Elab.async false
set_option linter.all false
set_option maxRecDepth 100000
set_option maxHeartbeats 4000000
namespace KA
open PySem PySem.Spec PyProof.Rows L2
/-! ### tuples of texts in the heap -/
def Tx (H : Hp) (v : V) (l : List Str) : Prop := ∃ t, v = .ref t ∧ H t = some (.tup (l.map V.str))
abbrev Txs (H : Hp) (xs : List V) (ls : List (List Str)) : Prop := Paired (Tx H) xs ls
/-- all tuples stand -/
def KT (H H' : Hp) : Prop := ∀ t xs, H t = some (.tup xs) → H' t = some (.tup xs)
theorem KT.refl (H : Hp) : KT H H := fun _ _ e => e
theorem KT.trans {H H1 H2 : Hp} (a : KT H H1) (b : KT H1 H2) : KT H H2 := fun t xs e => b t xs (a t xs e)
theorem KT.same {H H1 : Hp} (a : Same H H1) : KT H H1 := fun t xs e => a _ _ e
theorem KT.ch {a : Addr} {H H1 : Hp} (c : Ch a H H1) {d : Nat} (h : Sta H a d) : KT H H1 := fun t xs e => by
  obtain ⟨x, y, z, h1, _⟩ := h
  exact c _ _ (ne_of e h1 (by intro q; cases q)) e
theorem KT.upd {H : Hp} {d : Addr} {o : HO} (h : ∀ xs, H d ≠ some (.tup xs)) : KT H (upd H d o) := fun t xs e => by
  rw [upd_ne (fun q => h xs (by rw [← q]; exact e))]
  exact e
theorem KT.lst {H : Hp} {d : Addr} {o : HO} {ys : List V} (h : H d = some (.lst ys)) : KT H (L2.upd H d o) := KT.upd fun xs q => by
  rw [h] at q; cases q
theorem Tx.kt {H H' : Hp} (k : KT H H') {v : V} {l : List Str} (h : Tx H v l) : Tx H' v l := by
  obtain ⟨t, e, h⟩ := h
  exact ⟨t, e, k _ _ h⟩
theorem Txs.kt {H H' : Hp} (k : KT H H') {xs : List V} {ls : List (List Str)} (h : Txs H xs ls) : Txs H' xs ls := L2.Paired.mapP h fun _ _ => Tx.kt k
section
variable {α β : Type} {F : α → β → Prop}
theorem Pd.len : ∀ {xs : List α} {ys : List β}, Paired F xs ys → xs.length = ys.length
  | _, _, .nil => rfl
  | _, _, .cons _ r => congrArg (· + 1) (Pd.len r)
theorem Pd.app : ∀ {xs us : List α} {ys ws : List β}, Paired F xs ys → Paired F us ws → Paired F (xs ++ us) (ys ++ ws)
  | _, _, _, _, .nil, r => r
  | _, _, _, _, .cons h q, r => .cons h (Pd.app q r)
theorem Pd.get : ∀ {xs : List α} {ys : List β} {i : Nat} {x : α}, Paired F xs ys → xs[i]? = some x → ∃ y, ys[i]? = some y ∧ F x y
  | _, _, i, x, .nil, h => by simp at h
  | _, _, 0, x, .cons h q, e => by
    have e := Option.some.inj e
    subst e
    exact ⟨_, rfl, h⟩
  | _, _, i + 1, x, .cons h q, e => Pd.get (i := i) q e
theorem Pd.take : ∀ {xs : List α} {ys : List β} (n : Nat), Paired F xs ys → Paired F (xs.take n) (ys.take n)
  | _, _, 0, _ => .nil
  | _, _, n + 1, .nil => .nil
  | _, _, n + 1, .cons h q => .cons h (Pd.take n q)
theorem Pd.rev : ∀ {xs : List α} {ys : List β}, Paired F xs ys → Paired F xs.reverse ys.reverse
  | _, _, .nil => .nil
  | _, _, .cons h q => by
    rw [List.reverse_cons, List.reverse_cons]
    exact Paired.snoc (Pd.rev q) h
end
/-! ### data of texts -/
abbrev Cp (l : List Str) : Prop := ∀ z ∈ l, PyData.strOk z = true
theorem IsNm.cp {z : Str} (h : IsNm z) : PyData.strOk z = true := by
  unfold PyData.strOk
  rw [← Array.all_toList, List.all_eq_true]
  exact fun c hc => decide_eq_true (by have := h.let_ c hc; omega)
def tD (l : List Str) : PyData := .tuple (l.map .str)
def lD (l : List Str) : PyData := .list (l.map .str)
theorem strs_lay : ∀ {l : List Str}, Cp l → PyData.canLayAll0 (l.map .str) = true
  | [], _ => by simp [PyData.canLayAll0]
  | z :: r, h => by
    have h1 := strs_lay (l := r) fun y hy => h y (List.mem_cons_of_mem _ hy)
    have h2 := h z (List.mem_cons_self ..)
    simp [PyData.canLayAll0, PyData.canLay0, h1, h2]
theorem strs_depth : ∀ l : List Str, PyData.depthAll (l.map .str) = 0
  | [] => by simp [PyData.depthAll]
  | z :: r => by
    have h1 := strs_depth r
    simp [PyData.depthAll, PyData.depth, h1]
theorem strs_eqv : ∀ l m : List Str, PyData.eqvAll (l.map .str) (m.map .str) = decide (l = m)
  | [], [] => by simp [PyData.eqvAll]
  | [], _ :: _ => by simp [PyData.eqvAll]
  | _ :: _, [] => by simp [PyData.eqvAll]
  | x :: l, y :: m => by
    have h1 := strs_eqv l m
    simp only [List.map_cons, PyData.eqvAll, PyData.eqv, h1]
    by_cases e : x = y
    · subst e
      simp
    · have : (x == y) = false := beq_eq_false_iff_ne.mpr e
      simp [this, e]
theorem tD_eqv (l m : List Str) : PyData.eqv (tD l) (tD m) = decide (l = m) := by
  simp only [tD, PyData.eqv, strs_eqv]
theorem lD_eqv (l m : List Str) : PyData.eqv (lD l) (lD m) = decide (l = m) := by
  simp only [lD, PyData.eqv, strs_eqv]
theorem tDs_lay : ∀ {ls : List (List Str)}, (∀ l ∈ ls, Cp l) → PyData.canLayAll0 (ls.map tD) = true
  | [], _ => by simp [PyData.canLayAll0]
  | l :: r, h => by
    have h1 := tDs_lay (ls := r) fun y hy => h y (List.mem_cons_of_mem _ hy)
    have h2 := strs_lay (h l (List.mem_cons_self ..))
    simp [PyData.canLayAll0, tD, PyData.canLay0, h2]
    exact h1
theorem lDs_lay : ∀ {ls : List (List Str)}, (∀ l ∈ ls, Cp l) → PyData.canLayAll0 (ls.map lD) = true
  | [], _ => by simp [PyData.canLayAll0]
  | l :: r, h => by
    have h1 := lDs_lay (ls := r) fun y hy => h y (List.mem_cons_of_mem _ hy)
    have h2 := strs_lay (h l (List.mem_cons_self ..))
    simp [PyData.canLayAll0, lD, PyData.canLay0, h2]
    exact h1
theorem tDs_depth : ∀ ls : List (List Str), PyData.depthAll (ls.map tD) ≤ 1
  | [] => by simp [PyData.depthAll]
  | l :: r => by
    have h1 := tDs_depth r
    simp only [List.map_cons, PyData.depthAll, tD, PyData.depth, strs_depth] at h1 ⊢
    omega
theorem lDs_depth : ∀ ls : List (List Str), PyData.depthAll (ls.map lD) ≤ 1
  | [] => by simp [PyData.depthAll]
  | l :: r => by
    have h1 := lDs_depth r
    simp only [List.map_cons, PyData.depthAll, lD, PyData.depth, strs_depth] at h1 ⊢
    omega
theorem shaped_mk {d : PyData} (h1 : d.canLay0 = true) (h2 : d.depth ≤ 64) : SeqAt.shaped d = true := by
  unfold SeqAt.shaped
  rw [h1, decide_eq_true h2]
  rfl
theorem tD_shaped {l : List Str} (h : Cp l) : SeqAt.shaped (tD l) = true := shaped_mk (by simp only [tD, PyData.canLay0]; exact strs_lay h) (by simp only [tD, PyData.depth, strs_depth]; omega)
theorem lD_shaped {l : List Str} (h : Cp l) : SeqAt.shaped (lD l) = true := shaped_mk (by simp only [lD, PyData.canLay0]; exact strs_lay h) (by simp only [lD, PyData.depth, strs_depth]; omega)
theorem lD_tDs_shaped {ls : List (List Str)} (h : ∀ l ∈ ls, Cp l) : SeqAt.shaped (.list (ls.map tD)) = true := shaped_mk (by simp only [PyData.canLay0]; exact tDs_lay h) (by have := tDs_depth ls; simp only [PyData.depth]; omega)
theorem tD_tDs_shaped {ls : List (List Str)} (h : ∀ l ∈ ls, Cp l) : SeqAt.shaped (.tuple (ls.map tD)) = true := shaped_mk (by simp only [PyData.canLay0]; exact tDs_lay h) (by have := tDs_depth ls; simp only [PyData.depth]; omega)
theorem lD_lDs_shaped {ls : List (List Str)} (h : ∀ l ∈ ls, Cp l) : SeqAt.shaped (.list (ls.map lD)) = true := shaped_mk (by simp only [PyData.canLay0]; exact lDs_lay h) (by have := lDs_depth ls; simp only [PyData.depth]; omega)
theorem any_tD (ls : List (List Str)) (l : List Str) : ((ls.map tD).any fun z => PyData.eqv z (tD l)) = decide (l ∈ ls) := by
  induction ls with
  | nil => simp
  | cons m r ih =>
    rw [List.map_cons, List.any_cons, ih, tD_eqv]
    by_cases e : m = l
    · subst e
      simp
    · have e2 : ¬ l = m := fun q => e q.symm
      simp [e, e2]
section
variable {K : PySem.W.Frag} {H : Hp}
theorem Dp.strs : ∀ l : List Str, DpAll K H (l.map V.str) (l.map .str)
  | [] => .nil
  | z :: r => .cons (.str z) (Dp.strs r)
theorem Tx.dp {v : V} {l : List Str} (h : Tx H v l) : Dp K H v (tD l) := by
  obtain ⟨t, rfl, h⟩ := h
  exact .tup (SqT.of h) (Dp.strs l)
theorem Txs.dp : ∀ {xs : List V} {ls : List (List Str)}, Txs H xs ls → DpAll K H xs (ls.map tD)
  | _, _, .nil => .nil
  | _, _, .cons h r => .cons h.dp (Txs.dp r)
end
/-! ### a tuple of texts within a list or a tuple of such -/
def rInTx (K : PySem.W.Frag) (neg : Bool) : R2 := fun x y H Q => ∃ (l : List Str) (ls : List (List Str)) (xs : List V) (a : Addr), Tx H x l ∧ y = .ref a ∧ (SqL K H a xs ∨ SqT K H a xs) ∧ Txs H xs ls ∧ Cp l ∧ (∀ m ∈ ls, Cp m) ∧
  Q (.bl (if neg = true then !decide (l ∈ ls) else decide (l ∈ ls))) H
theorem op_inTx {X : Cx} (hu : X.A.units + 65 < cLine) : OpR X (compareOp .In) (rInTx X.K false) := by
  intro pins s σ H x y v u Q I rx ry h
  obtain ⟨l, ls, xs, a, h1, rfl, h2, h3, c1, c2, q⟩ := h
  obtain ⟨as, r1⟩ := Dp.reads I (tD l) x v h1.dp rx
  have q' : Q (.bl ((ls.map tD).any fun z => PyData.eqv z (tD l))) H := by
    rw [any_tD]
    exact q
  rcases h2 with h2 | h2
  · obtain ⟨bs, r2⟩ := Dp.reads I (.list (ls.map tD)) (.ref a) u (.lst h2 h3.dp) ry
    exact SeqAt.in_list_reads r2 r1 (tDs_lay c2) (SeqAt.canLay_of_shaped (tD_shaped c1)) (room_in_shaped (tD_shaped c1) hu) ⟨.bl _, H, I, rfl, q'⟩
  · obtain ⟨bs, r2⟩ := Dp.reads I (.tuple (ls.map tD)) (.ref a) u (.tup h2 h3.dp) ry
    exact SeqAt.in_tuple_reads r2 r1 (tDs_lay c2) (SeqAt.canLay_of_shaped (tD_shaped c1)) (room_in_shaped (tD_shaped c1) hu) ⟨.bl _, H, I, rfl, q'⟩
theorem op_notInTx {X : Cx} (hu : X.A.units + 65 < cLine) : OpR X (compareOp .NotIn) (rInTx X.K true) := by
  intro pins s σ H x y v u Q I rx ry h
  obtain ⟨l, ls, xs, a, h1, rfl, h2, h3, c1, c2, q⟩ := h
  obtain ⟨as, r1⟩ := Dp.reads I (tD l) x v h1.dp rx
  have q' : Q (.bl (!(ls.map tD).any fun z => PyData.eqv z (tD l))) H := by
    rw [any_tD]
    exact q
  rcases h2 with h2 | h2
  · obtain ⟨bs, r2⟩ := Dp.reads I (.list (ls.map tD)) (.ref a) u (.lst h2 h3.dp) ry
    exact SeqAt.notIn_list_reads r2 r1 (tDs_lay c2) (SeqAt.canLay_of_shaped (tD_shaped c1)) (room_in_shaped (tD_shaped c1) hu) ⟨.bl _, H, I, rfl, q'⟩
  · obtain ⟨bs, r2⟩ := Dp.reads I (.tuple (ls.map tD)) (.ref a) u (.tup h2 h3.dp) ry
    exact SeqAt.notIn_tuple_reads r2 r1 (tDs_lay c2) (SeqAt.canLay_of_shaped (tD_shaped c1)) (room_in_shaped (tD_shaped c1) hu) ⟨.bl _, H, I, rfl, q'⟩
end KA
set_option Elab.async false
set_option linter.all false
set_option maxRecDepth 100000
set_option maxHeartbeats 4000000
namespace KA
open PySem PySem.Spec PyProof.Rows L2
theorem updN {H H' : Hp} {D : Addr} {o : HO} (s : Same H H') (n : H D = none) : Same H (upd H' D o) := fun b u e => by
  rw [upd_ne (ne_of_none e n)]
  exact s b u e
/-- all pairs of two unlike names, the first of us -/
def ev (ns us : List Str) : List (List Str) := us.flatMap fun u => (ns.filter fun v => decide (v ≠ u)).map fun v => [u, v]
theorem ev_snoc (ns us : List Str) (u : Str) : ev ns (us ++ [u]) = ev ns us ++ (ns.filter fun v => decide (v ≠ u)).map fun v => [u, v] := by
  unfold ev
  rw [List.flatMap_append]
  simp
theorem ev_len (ns : List Str) : ∀ us : List Str, (ev ns us).length ≤ us.length * ns.length
  | [] => by simp [ev]
  | u :: r => by
    have h := ev_len ns r
    have h1 : ev ns (u :: r) = ((ns.filter fun v => decide (v ≠ u)).map fun v => [u, v]) ++ ev ns r := rfl
    have h2 := List.length_filter_le (fun v => decide (v ≠ u)) ns
    rw [h1, List.length_append, List.length_map, List.length_cons, Nat.succ_mul]
    omega
theorem take_succ_of {α : Type} {l : List α} {i : Nat} {x : α} (h : l[i]? = some x) : l.take (i + 1) = l.take i ++ [x] := by
  rw [List.take_add_one, h]
  rfl
section
variable {P : Program} {w : World} {K : PySem.W.Frag} {mg : Str → Option Value} {base : Heap}
abbrev nEvery : List Str := ["_law_names_here", "_law_found", "_law_one", "_law_other"]
theorem scEvery : FnScope nEvery ["_law_names_here"] (defScope s__law_every) := ⟨rfl, rfl, rfl, by decide +kernel, rfl, by decide +kernel, by decide +kernel⟩
def spEvery (K : PySem.W.Frag) : Sp := fun vs H Q _ => ∃ (a : Addr) (ns : List Str), vs = [.ref a] ∧ SqL K H a (ns.map V.str) ∧ ns.length ≤ 26 ∧
  ∀ (p : Addr) (xs : List V) (H' : Hp), H p = none → H' p = some (.lst xs) → Txs H' xs (ev ns ns) → Same H H' → Q (.ref p) H'
theorem ok_every (D : Df K mg "_law_every" s__law_every ["_law_names_here"]) (T : Fre mg) : Fn P w K mg base "_law_every" ["_law_names_here"] 1 (spEvery K) := by
  refine D.ok scEvery (fun vs H Q E h => ?_) (fun f cdv A outer s H vs Q E hr h => ?_)
  · obtain ⟨a, v, rfl, _⟩ := h
    rfl
  · obtain ⟨a, ns, rfl, hL, hl, k⟩ := h
    have nd := scEvery.nd
    refine ⟨_, pss_cons (ps_set (i := 1) nd rfl (.inl rfl) (pe_lst pa_nil))
      (pss_cons (ps_for PassesOwn.never rfl (pi_list (pv 0)) (pg_name (i := 2) nd rfl (.inr rfl))
        (pss_one (ps_set (i := 1) nd rfl (.inl rfl) (pe_op op_cat (pv 1) (pe_lc (own := [("_law_other", 3)]) (g := gName 3) rfl nd (pi_list (pv 0))
          (blkOk_by (N := nEvery) (sc := defScope s__law_every) (by decide +kernel)) (fun _ _ _ _ _ => pg_name (i := 3) nd rfl (Or.inl rfl))
          (fun _ _ _ _ _ => pts_one (pt_cmpR op_ne (pv 3) (pv 2) (nomark _))) (fun _ _ _ _ _ => pe_tup (pa_cons (pv 2) (pa_cons (pv 3) pa_nil))))))))
      (pss_one (ps_ret (pv 1)))), ?_⟩
    refine ⟨Nat.zero_le _, fun o no => ?_⟩
    have s1 := same_new (o := .lst []) no
    refine ⟨_, rfl, a, rfl, ⟨_, s1.seq hL⟩, for_list (K := K) (a := a) (xs := ns.map V.str) (fun i σ H2 => ∃ (q : Addr) (xs : List V) (v : Option V), σ = [some (.ref a), some (.ref q), v, none] ∧ H q = none ∧ H2 q = some (.lst xs) ∧ Txs H2 xs (ev ns (ns.take i)) ∧ Same H H2)
      ⟨o, [], none, rfl, no, upd_same, .nil, s1⟩ (fun i σ H2 _ ⟨_, _, _, _, _, _, _, s2⟩ => s2.seq hL) ?_ ?_⟩
    · rintro i y σ H2 hi ⟨q, xs, v, rfl, nq, hq, hxs, s2⟩
      rw [List.getElem?_map] at hi
      obtain ⟨u, hu, rfl⟩ := Option.map_eq_some_iff.mp hi
      have hil := (List.getElem?_eq_some_iff.mp hu).1
      refine ⟨_, rfl, _, rfl, a, rfl, ⟨_, s2.seq hL⟩, fun L nL => ?_⟩
      refine lc_list (K := K) (a := a) (xs := ns.map V.str) (fun j H3 => ∃ ys, H3 L = some (.lst ys) ∧ Txs H3 ys (((ns.take j).filter fun v => decide (v ≠ u)).map fun v => [u, v]) ∧ Same H2 H3 ∧ ys.length ≤ j)
        ⟨[], upd_same, .nil, same_new nL, Nat.le_refl _⟩ (fun j H3 _ ⟨_, _, _, s3, _⟩ => s3.seq (s2.seq hL)) ?_ ?_
      · rintro j y H3 hj ⟨ys, hys, hTx, s3, hyl⟩
        have hjl := (List.getElem?_eq_some_iff.mp hj).1
        rw [List.length_map] at hjl
        rw [List.getElem?_map] at hj
        obtain ⟨z, hz, rfl⟩ := Option.map_eq_some_iff.mp hj
        refine ⟨rfl, _, rfl, _, rfl, rfl, _, rfl, ?_⟩
        by_cases e : z = u
        · subst e
          refine (if_neg (by simp)).mpr ?_
          refine ⟨ys, hys, ?_, s3, by omega⟩
          rw [take_succ_of hz, List.filter_append]
          simpa using hTx
        · refine (if_pos (by simp [e])).mpr ?_
          refine ⟨_, rfl, _, rfl, (by show 2 ≤ sizeLine; decide), fun p np => ?_⟩
          have sp := same_new (o := .tup [.str u, .str z]) np
          have npL : L ≠ p := ne_of_none hys np
          refine ⟨ys, sp _ _ hys, small1000 (by omega), ys ++ [.ref p], upd_same, ?_, updN (s3.trans sp) nL, by simp; omega⟩
          rw [take_succ_of hz, List.filter_append, List.map_append]
          have e2 : (List.filter (fun v => decide (v ≠ u)) [z]).map (fun v => [u, v]) = [[u, z]] := by simp [e]
          rw [e2]
          have kt : KT H3 (upd (upd H3 p (.tup [.str u, .str z])) L (.lst (ys ++ [.ref p]))) := (KT.same sp).trans (KT.lst (sp _ _ hys))
          refine Paired.snoc (hTx.kt kt) ⟨p, rfl, ?_⟩
          rw [upd_ne npL.symm]
          exact upd_same
      · rintro H3 ⟨ys, hys, hTx, s3, hyl⟩
        rw [List.length_map] at hyl
        have lx := Pd.len hxs
        have lx2 := ev_len ns (ns.take i)
        have lx3 : (ns.take i).length * ns.length ≤ 26 * 26 := Nat.mul_le_mul (by rw [List.length_take]; omega) hl
        refine ⟨q, L, xs, ys, rfl, rfl, s3 _ _ hq, hys, Nat.le_of_lt (small1000 (by omega)), fun p np => ?_⟩
        refine ⟨p, xs ++ ys, _, rfl, s2.free (s3.free np), upd_same, ?_, s2.trans (s3.trans (same_new np))⟩
        have kt := KT.same (same_new (o := .lst (xs ++ ys)) np)
        rw [take_succ_of hu, ev_snoc]
        rw [List.length_map, List.take_length] at hTx
        exact Pd.app (hxs.kt ((KT.same s3).trans kt)) (hTx.kt kt)
    · rintro σ H2 ⟨q, xs, v, rfl, nq, hq, hxs, s2⟩
      rw [List.length_map, List.take_length] at hxs
      exact ⟨_, rfl, k q xs H2 nq hq hxs s2⟩
end
end KA
set_option Elab.async false
set_option linter.all false
set_option maxRecDepth 100000
set_option maxHeartbeats 4000000
namespace KA
open PySem PySem.Spec PyProof.Rows L2
def letters : Str := "abcdefghijklmnopqrstuvwxyz"
/-- is it a name -/
def nmB (z : Str) : Bool := decide (1 ≤ z.length) && decide (z.length ≤ 8) && (TL.tl z).all fun c => decide (c ∈ TL.tl letters)
theorem low_letters {c : Nat} (h : low c) : c ∈ TL.tl letters := by
  have e : TL.tl letters = (List.range 26).map (· + 97) := by decide +kernel
  rw [e, List.mem_map]
  exact ⟨c - 97, List.mem_range.mpr (by omega), by omega⟩
theorem IsNm.b {z : Str} (h : IsNm z) : nmB z = true := by
  unfold nmB
  rw [decide_eq_true h.pos, decide_eq_true h.most, Bool.true_and, Bool.true_and, List.all_eq_true]
  exact fun c hc => decide_eq_true (low_letters (h.let_ c hc))
section
variable {P : Program} {w : World} {K : PySem.W.Frag} {mg : Str → Option Value} {base : Heap}
abbrev nIsName : List Str := ["value", "sign"]
theorem scIsName : FnScope nIsName ["value"] (defScope s_is_name) := ⟨rfl, rfl, rfl, by decide +kernel, rfl, by decide +kernel, by decide +kernel⟩
def spIsName (K : PySem.W.Frag) : Sp := fun vs H Q _ => ∃ v, vs = [v] ∧ ((∃ z : Str, v = .str z ∧ z.length ≤ 1000 ∧ ∀ H', Same H H' → Q (.bl (nmB z)) H') ∨
  (∃ t, TyX K H v t ∧ PySem.W.kitOne K t (.type "str") = some false ∧ Q (.bl false) H))
theorem ok_is_name (D : Df K mg "is_name" s_is_name ["value"]) (T : Fre mg) (gL : ∃ t, mg "LONGEST_NAME" = some (.int 8 t)) (gS : ∃ t, mg "LETTERS" = some (.str letters t)) : Fn P w K mg base "is_name" ["value"] 1 (spIsName K) := by
  obtain ⟨t1, gL⟩ := gL
  obtain ⟨t2, gS⟩ := gS
  refine D.ok scIsName (fun vs H Q E h => ?_) (fun f cdv A outer s H vs Q E hr h => ?_)
  · obtain ⟨v, rfl, _⟩ := h
    rfl
  · obtain ⟨v, rfl, h⟩ := h
    have nd := scIsName.nd
    refine ⟨_, pss_cons (ps_if (PW.pt (pw_or (pt_not (pt_val (pe_callB call_isi (by rfl) T.isi (by decide +kernel) (pa_cons (pv 0) (pa_cons (pe_bltn (v := .ty "str") (by rfl) T.str (by decide +kernel) rfl) pa_nil)))))
        (pw_or1 (pt_not (pt_chain op_le op_le pe_int (pe_callB call_len (by rfl) T.len PySem.boot_len (pa_cons (pv 0) pa_nil)) (pe_glob (v := .int 8) (by rfl) gL ⟨_, rfl⟩)))))) (pss_one (ps_ret pe_bl)) pss_nil)
      (pss_one (ps_ret (pe_callB (cr_all rfl) (by rfl) T.all (by decide +kernel) (pa_cons (pe_lc (own := [("sign", 1)]) (g := gName 1) (tt := tYes) rfl nd (pi_str (pv 0))
        (blkOk_by (N := nIsName) (sc := defScope s_is_name) (by decide +kernel)) (fun _ _ _ _ _ => pg_name (i := 1) nd rfl (Or.inl rfl)) (fun _ _ _ _ _ => pts_nil)
        (fun _ _ _ _ _ => pe_cmpR op_in_sign (pv 1) (pe_glob (v := .str letters) (by rfl) gS ⟨_, rfl⟩) (by rfl))) pa_nil)))), ?_⟩
    rcases h with ⟨z, rfl, hz, k⟩ | ⟨t, ht, kt, k⟩
    · refine ⟨_, rfl, _, _, _, _, true, rfl, .ty "str", .base (.str z), kit_ty (by decide +kernel), true, rfl, iteF ?_⟩
      refine ⟨_, rfl, _, z.length, rfl, ⟨Nat.le_of_lt (small1000 hz), rfl⟩, _, _, rfl, rfl, ?_⟩
      by_cases h1 : 1 ≤ z.length
      · refine ⟨true, congrArg V.bl (decide_eq_true (show (1 : Int) ≤ z.length by omega)), iteT ⟨_, _, rfl, rfl, _, rfl, ?_⟩⟩
        by_cases h2 : z.length ≤ 8
        · rw [decide_eq_true (show (z.length : Int) ≤ 8 by omega)]
          refine iteF ?_
          refine ⟨_, rfl, z, rfl, fun L nL => ?_⟩
          refine lc_it walk_str (fun j H3 => H3 L = some (.lst (((TL.tl z).take j).map fun c => V.bl (decide (c ∈ TL.tl letters)))) ∧ Same H H3) ⟨upd_same, same_new nL⟩ (fun _ _ _ _ => trivial) ?_ ?_
          · rintro j x H3 H4 hj ⟨h3, s3⟩ ⟨rfl, c, hc, rfl⟩
            refine ⟨rfl, ?_⟩
            refine ⟨_, rfl, c, letters, rfl, rfl, _, h3, ?_, ?_, updN s3 nL⟩
            · rw [List.length_map, List.length_take]
              exact small1000 (by have := TL.len_tl z; omega)
            · have hc' : (TL.tl z)[j]? = some c := by rw [← hc]; exact Array.getElem?_toList
              rw [upd_same, take_succ_of hc', List.map_append]
              rfl
          · rintro H3 ⟨h3, s3⟩
            have e : (TL.tl z).take z.cps.size = TL.tl z := List.take_of_length_le (by rw [← TL.len_tl z]; exact Nat.le_refl _)
            rw [e] at h3
            refine ⟨L, (TL.tl z).map fun c => decide (c ∈ TL.tl letters), rfl, SqL.of (by rw [List.map_map]; exact h3), ?_⟩
            have e2 : (((TL.tl z).map fun c => decide (c ∈ TL.tl letters)).all id) = nmB z := by
              unfold nmB
              rw [decide_eq_true h1, decide_eq_true h2, List.all_map]
              rfl
            rw [e2]
            exact k H3 s3
        · rw [decide_eq_false (show ¬ (z.length : Int) ≤ 8 by omega)]
          refine iteT ?_
          have := k H (Same.refl H)
          have e : nmB z = false := by
            unfold nmB
            rw [decide_eq_false h2, Bool.and_false, Bool.false_and]
          rw [e] at this
          exact this
      · refine ⟨false, congrArg V.bl (decide_eq_false (show ¬ (1 : Int) ≤ z.length by omega)), iteF ⟨_, rfl, iteT ?_⟩⟩
        have := k H (Same.refl H)
        have e : nmB z = false := by
          unfold nmB
          rw [decide_eq_false h1, Bool.false_and, Bool.false_and]
        rw [e] at this
        exact this
    · exact ⟨_, rfl, _, _, t, _, false, rfl, .ty "str", ht, kt, false, rfl, iteT (iteT k)⟩
abbrev nVal : List Str := ["value"]
theorem scIsWish : FnScope nVal ["value"] (defScope s_is_wish) := ⟨rfl, rfl, rfl, by decide +kernel, rfl, by decide +kernel, by decide +kernel⟩
def spIsWish : Sp := fun vs H Q _ => ∃ v x y, vs = [v] ∧ Tx H v [x, y] ∧ x.length ≤ 1000 ∧ y.length ≤ 1000 ∧ ∀ H', Same H H' → Q (.bl (nmB x && (nmB y && decide (x ≠ y)))) H'
theorem ok_is_wish (D : Df K mg "is_wish" s_is_wish ["value"]) (GN : Fn P w K mg base "is_name" ["value"] 1 (spIsName K)) (T : Fre mg) : Fn P w K mg base "is_wish" ["value"] 2 spIsWish := by
  refine D.ok scIsWish (fun vs H Q E h => ?_) (fun f cdv A outer s H vs Q E hr h => ?_)
  · obtain ⟨v, x, y, rfl, _⟩ := h
    rfl
  · obtain ⟨v, x, y, rfl, ⟨t, rfl, ht⟩, hx, hy, k⟩ := h
    refine ⟨_, pss_cons (ps_if (PW.pt (pw_or (pt_not (pt_val (pe_callB call_isi (by rfl) T.isi (by decide +kernel) (pa_cons (pv 0) (pa_cons (pe_bltn (v := .ty "tuple") (by rfl) T.tup (by decide +kernel) rfl) pa_nil)))))
        (pw_or1 (pt_cmpR op_ne (pe_callB call_len (by rfl) T.len PySem.boot_len (pa_cons (pv 0) pa_nil)) pe_int (nomark _))))) (pss_one (ps_ret pe_bl)) pss_nil)
      (pss_one (ps_ret (pe_and (pe_fn GN hr (by rfl) (pa_cons (pe_ix ix_tup (pv 0) pe_int (fun _ _ => rfl)) pa_nil)) (pe_and (pe_fn GN hr (by rfl) (pa_cons (pe_ix ix_tup (pv 0) pe_int (fun _ _ => rfl)) pa_nil))
        (pe_one (pe_cmpR op_ne (pe_ix ix_tup (pv 0) pe_int (fun _ _ => rfl)) (pe_ix ix_tup (pv 0) pe_int (fun _ _ => rfl)) (nomark _))))))), ?_⟩
    refine ⟨_, rfl, _, _, _, _, true, rfl, .ty "tuple", .base (.tup ht), kit_ty (by decide +kernel), true, rfl, iteF ?_⟩
    refine ⟨_, rfl, _, 2, rfl, .inr ⟨_, SqT.of ht, rfl⟩, rfl, _, rfl, ?_⟩
    refine iteF ?_
    refine ⟨_, rfl, t, _, _, .str x, rfl, rfl, SqT.of ht, rfl, _, rfl, .inl ⟨x, rfl, hx, fun H1 s1 => ⟨_, rfl, ?_⟩⟩⟩
    cases ex : nmB x with
    | false =>
      refine iteF ?_
      have := k H1 s1
      rw [ex] at this
      exact this
    | true =>
      refine iteT ?_
      have ht1 := s1 _ _ ht
      refine ⟨_, rfl, t, _, _, .str y, rfl, rfl, SqT.of ht1, rfl, _, rfl, .inl ⟨y, rfl, hy, fun H2 s2 => ⟨_, rfl, ?_⟩⟩⟩
      cases ey : nmB y with
      | false =>
        refine iteF ?_
        have := k H2 (s1.trans s2)
        rw [ex, ey] at this
        exact this
      | true =>
        refine iteT ?_
        have ht2 := s2 _ _ ht1
        refine ⟨_, rfl, t, _, _, .str x, rfl, rfl, SqT.of ht2, rfl, _, rfl, t, _, _, .str y, rfl, rfl, SqT.of ht2, rfl, rfl, ?_⟩
        have := k H2 (s1.trans s2)
        rw [ex, ey, Bool.true_and, Bool.true_and] at this
        have e : (!decide (V.str x = V.str y)) = decide (x ≠ y) := by
          by_cases q : x = y
          · subst q
            simp
          · simp [q]
        rw [e]
        exact this
theorem scIsWhole : FnScope nVal ["value"] (defScope s_is_whole) := ⟨rfl, rfl, rfl, by decide +kernel, rfl, by decide +kernel, by decide +kernel⟩
def spIsWhole (K : PySem.W.Frag) : Sp := fun vs H Q _ => ∃ v t b c, vs = [v] ∧ TyX K H v t ∧ PySem.W.kitOne K t (.type "int") = some b ∧ PySem.W.kitOne K t (.type "bool") = some c ∧ Q (.bl (b && !c)) H
theorem ok_is_whole (D : Df K mg "is_whole" s_is_whole ["value"]) (T : Fre mg) : Fn P w K mg base "is_whole" ["value"] 1 (spIsWhole K) := by
  refine D.ok scIsWhole (fun vs H Q E h => ?_) (fun f cdv A outer s H vs Q E hr h => ?_)
  · obtain ⟨v, t, b, c, rfl, _⟩ := h
    rfl
  · obtain ⟨v, t, b, c, rfl, ht, k1, k2, k⟩ := h
    refine ⟨_, pss_one (ps_ret (pe_and (pe_callB call_isi (by rfl) T.isi (by decide +kernel) (pa_cons (pv 0) (pa_cons (pe_bltn (v := .ty "int") (by rfl) T.int (by decide +kernel) rfl) pa_nil)))
      (pe_one (pe_not (pe_callB call_isi (by rfl) T.isi (by decide +kernel) (pa_cons (pv 0) (pa_cons (pe_bltn (v := .ty "bool") (by rfl) T.bool (by decide +kernel) rfl) pa_nil))))))), ?_⟩
    refine ⟨_, rfl, _, _, t, _, b, rfl, .ty "int", ht, k1, b, rfl, ?_⟩
    cases b with
    | false => exact iteF k
    | true => exact iteT ⟨_, rfl, _, _, t, _, c, rfl, .ty "bool", ht, k2, c, rfl, k⟩
abbrev nIsRange : List Str := ["value", "end"]
theorem scIsRange : FnScope nIsRange ["value"] (defScope s_is_range) := ⟨rfl, rfl, rfl, by decide +kernel, rfl, by decide +kernel, by decide +kernel⟩
def spIsRange : Sp := fun vs H Q _ => ∃ (t : Addr) (lo hi : Int), vs = [.ref t] ∧ H t = some (.tup [.int lo, .int hi]) ∧ ∀ H', Same H H' → Q (.bl (decide (lo ≤ hi))) H'
theorem ok_is_range (D : Df K mg "is_range" s_is_range ["value"]) (GW : Fn P w K mg base "is_whole" ["value"] 1 (spIsWhole K)) (T : Fre mg) : Fn P w K mg base "is_range" ["value"] 2 spIsRange := by
  refine D.ok scIsRange (fun vs H Q E h => ?_) (fun f cdv A outer s H vs Q E hr h => ?_)
  · obtain ⟨v, x, y, rfl, _⟩ := h
    rfl
  · obtain ⟨t, lo, hi, rfl, ht, k⟩ := h
    have nd := scIsRange.nd
    refine ⟨_, pss_cons (ps_if (PW.pt (pw_or (pt_not (pt_val (pe_callB call_isi (by rfl) T.isi (by decide +kernel) (pa_cons (pv 0) (pa_cons (pe_bltn (v := .ty "tuple") (by rfl) T.tup (by decide +kernel) rfl) pa_nil)))))
        (pw_or (pt_cmpR op_ne (pe_callB call_len (by rfl) T.len PySem.boot_len (pa_cons (pv 0) pa_nil)) pe_int (nomark _))
        (pw_or1 (pt_not (pt_val (pe_callB (cr_all rfl) (by rfl) T.all (by decide +kernel) (pa_cons (pe_lc (own := [("end", 1)]) (g := gName 1) (tt := tYes) rfl nd (pi_tup (pv 0))
          (blkOk_by (N := nIsRange) (sc := defScope s_is_range) (by decide +kernel)) (fun _ _ _ _ _ => pg_name (i := 1) nd rfl (Or.inl rfl)) (fun _ _ _ _ _ => pts_nil)
          (fun _ _ _ _ _ => pe_fn GW hr (by rfl) (pa_cons (pv 1) pa_nil))) pa_nil)))))))) (pss_one (ps_ret pe_bl)) pss_nil)
      (pss_one (ps_ret (pe_cmpR op_le (pe_ix ix_tup (pv 0) pe_int (fun _ _ => rfl)) (pe_ix ix_tup (pv 0) pe_int (fun _ _ => rfl)) (nomark _)))), ?_⟩
    refine ⟨_, rfl, _, _, _, _, true, rfl, .ty "tuple", .base (.tup ht), kit_ty (by decide +kernel), true, rfl, iteF ?_⟩
    refine ⟨_, rfl, _, 2, rfl, .inr ⟨_, SqT.of ht, rfl⟩, rfl, _, rfl, ?_⟩
    refine iteF ?_
    refine ⟨_, rfl, t, rfl, ⟨_, SqT.of ht⟩, fun L nL => ?_⟩
    refine lc_tup (K := K) (a := t) (xs := [.int lo, .int hi]) (fun j H3 => H3 L = some (.lst (List.replicate j (V.bl true))) ∧ Same H H3) ⟨upd_same, same_new nL⟩ (fun j H3 _ h => SqT.of (h.2 _ _ ht)) ?_ ?_
    · rintro j x H3 hj ⟨h3, s3⟩
      have hjl := (List.getElem?_eq_some_iff.mp hj).1
      obtain ⟨i, rfl⟩ : ∃ i, x = V.int i := by
        match j, hj with
        | 0, hj => exact ⟨lo, (Option.some.inj hj).symm⟩
        | 1, hj => exact ⟨hi, (Option.some.inj hj).symm⟩
        | j + 2, hj => simp at hj
      refine ⟨rfl, ?_⟩
      refine ⟨_, rfl, _, _, true, false, rfl, .base (.int i), kit_ty (by decide +kernel), kit_ty (by decide +kernel), _, h3, ?_, ?_, updN s3 nL⟩
      · rw [List.length_replicate]
        exact small1000 (by have : j < 2 := hjl; omega)
      · rw [upd_same]
        exact congrArg (fun l => some (HO.lst l)) (List.replicate_succ' ..).symm
    · rintro H3 ⟨h3, s3⟩
      refine ⟨L, [true, true], rfl, SqL.of h3, true, rfl, ?_⟩
      refine iteF ?_
      have ht3 := s3 _ _ ht
      exact ⟨_, rfl, t, _, _, .int lo, rfl, rfl, SqT.of ht3, rfl, _, rfl, t, _, _, .int hi, rfl, rfl, SqT.of ht3, rfl, _, _, rfl, rfl, k H3 s3⟩
end
end KA
set_option Elab.async false
set_option linter.all false
set_option maxRecDepth 100000
set_option maxHeartbeats 4000000
namespace KA
open PySem PySem.Spec PyProof.Rows L2
/-! ### sorted of tuples of ints and texts -/
def Tk (H : Hp) (v : V) (k : List Key) : Prop := ∃ t, v = .ref t ∧ H t = some (.tup (k.map kV))
abbrev Tks (H : Hp) (xs : List V) (ks : List (List Key)) : Prop := Paired (Tk H) xs ks
def itemK : Key → Int ⊕ List Nat
  | .inl i => .inl i
  | .inr z => .inr (TL.tl z)
def kkey (k : List Key) : List (Int ⊕ List Nat) := k.map itemK
def leK (a b : List Key) : Prop := (listOrd itemOrd).kle (kkey a) (kkey b)
def shp (k : List Key) : List Bool := k.map Sum.isRight
theorem itemK_inj {a b : Key} (h : itemK a = itemK b) : a = b := by
  cases a <;> cases b <;> simp [itemK] at h
  · rw [h]
  · rename_i x y
    rw [TL.ext_tl (x := x) (y := y) (by rw [TL.tl, TL.tl, h])]
theorem kkey_inj : ∀ {a b : List Key}, kkey a = kkey b → a = b
  | [], [], _ => rfl
  | [], _ :: _, h => by simp [kkey] at h
  | _ :: _, [], h => by simp [kkey] at h
  | x :: a, y :: b, h => by
    have h' : itemK x :: kkey a = itemK y :: kkey b := h
    injection h' with h1 h2
    rw [itemK_inj h1, kkey_inj h2]
theorem leK_anti {a b : List Key} (h1 : leK a b) (h2 : leK b a) : a = b := kkey_inj (KeyOrd.kle_antisymm h1 h2)
theorem leK_trans {a b c : List Key} (h1 : leK a b) (h2 : leK b c) : leK a c := KeyOrd.kle_trans h1 h2
/-- two sorted rows of the same things are one -/
theorem sorted_one {α : Type} {le : α → α → Prop} (anti : ∀ a b, le a b → le b a → a = b) : ∀ {l m : List α}, l.Perm m → l.Pairwise le → m.Pairwise le → l = m := by
  intro l m p
  exact fun h1 h2 => p.eq_of_pairwise (fun a b _ _ => anti a b) h1 h2
def keyOfV : V → Key
  | .int i => .inl i
  | .str z => .inr z
  | _ => .inl 0
theorem keyOfV_kV (k : Key) : keyOfV (kV k) = k := by cases k <;> rfl
def kOf (H : Hp) (t : Addr) : List Key := match H t with
  | some (.tup xs) => xs.map keyOfV
  | _ => []
theorem kOf_eq {H : Hp} {t : Addr} {k : List Key} (h : H t = some (.tup (k.map kV))) : kOf H t = k := by
  unfold kOf
  rw [h]
  show (k.map kV).map keyOfV = k
  rw [List.map_map]
  conv => rhs; rw [← List.map_id k]
  exact List.map_congr_left fun x _ => keyOfV_kV x
theorem tks_addrs {H : Hp} : ∀ {xs : List V} {ks : List (List Key)}, Tks H xs ks → ∃ ts : List Addr, xs = ts.map V.ref ∧ ks = ts.map (kOf H) ∧ ∀ t ∈ ts, H t = some (.tup ((kOf H t).map kV))
  | _, _, .nil => ⟨[], rfl, rfl, fun t h => nomatch h⟩
  | _, _, .cons ⟨t, e, h⟩ r => by
    obtain ⟨ts, e1, e2, e3⟩ := tks_addrs r
    refine ⟨t :: ts, by rw [e, e1]; rfl, by rw [e2, List.map_cons, kOf_eq h], fun u hu => ?_⟩
    rcases List.mem_cons.mp hu with rfl | hu
    · rw [kOf_eq h]
      exact h
    · exact e3 u hu
theorem tks_of {H : Hp} : ∀ {ts : List Addr}, (∀ t ∈ ts, H t = some (.tup ((kOf H t).map kV))) → Tks H (ts.map V.ref) (ts.map (kOf H))
  | [], _ => .nil
  | t :: ts, h => .cons ⟨t, rfl, h t (List.mem_cons_self ..)⟩ (tks_of fun u hu => h u (List.mem_cons_of_mem _ hu))
theorem items_key {shape : Nat → Bool} : ∀ {k : List Key} {us : List Value} {i : Nat}, Vals (k.map kV) us → (∀ j b, (shp k)[j]? = some b → shape (i + j) = b) → tupItems shape i us = some (kkey k)
  | [], us, i, r, h => by
    cases r
    rfl
  | .inl n :: k, us, i, r, h => by
    cases r with
    | cons h1 r =>
      obtain ⟨t, rfl⟩ := h1
      have h0 : shape i = false := h 0 false rfl
      have ih := items_key (i := i + 1) r fun j b e => by
        have := h (j + 1) b e
        rw [show i + 1 + j = i + (j + 1) by omega]
        exact this
      show (if shape i = true then none else _) = _
      rw [h0, if_neg Bool.false_ne_true, ih]
      rfl
  | .inr z :: k, us, i, r, h => by
    cases r with
    | cons h1 r =>
      obtain ⟨t, rfl⟩ := h1
      have h0 : shape i = true := h 0 true rfl
      have ih := items_key (i := i + 1) r fun j b e => by
        have := h (j + 1) b e
        rw [show i + 1 + j = i + (j + 1) by omega]
        exact this
      show (if shape i = true then _ else none) = _
      rw [h0, if_pos rfl, ih]
      rfl
def rSortTk (K : PySem.W.Frag) : List V → Hp → VK → Prop := fun vs H Q => ∃ (a : Addr) (xs : List V) (ks : List (List Key)) (sh : List Bool), vs = [.ref a] ∧ SqL K H a xs ∧ Tks H xs ks ∧ sh ≠ [] ∧ (∀ k ∈ ks, shp k = sh) ∧
  ∀ (ys : List V) (ms : List (List Key)) (p : Addr), ms.Perm ks → ms.Pairwise leK → Tks H ys ms → H p = none → Q (.ref p) (upd H p (.lst ys))
theorem shp_at {sh : List Bool} {k : List Key} (h : shp k = sh) : ∀ j b, (shp k)[j]? = some b → (fun i => sh.getD i true) (0 + j) = b := fun j b e => by
  rw [h] at e
  show sh.getD (0 + j) true = b
  rw [Nat.zero_add, List.getD_eq_getElem?_getD, e]
  rfl
theorem zip_refs : ∀ ts : List Addr, (ts.map Value.ref).zip (ts.map Value.ref) = ts.map fun t => (Value.ref t, Value.ref t)
  | [] => rfl
  | t :: r => by
    rw [List.map_cons, List.zip_cons_cons, List.map_cons, zip_refs r]
theorem perm_refs {ts : List Addr} {L : List (Value × Value)} (p : L.Perm ((ts.map Value.ref).zip (ts.map Value.ref))) : ∃ us : List Addr, L = us.map (fun t => (Value.ref t, Value.ref t)) ∧ us.Perm ts := by
  rw [zip_refs] at p
  let g : Value × Value → Addr := fun q => match q.1 with
    | .ref a => a
    | _ => 0
  refine ⟨L.map g, ?_, ?_⟩
  · rw [List.map_map]
    conv => lhs; rw [← List.map_id L]
    refine List.map_congr_left fun q hq => ?_
    obtain ⟨t, _, rfl⟩ := List.mem_map.mp (p.mem_iff.mp hq)
    rfl
  · have := p.map g
    rw [List.map_map] at this
    have e2 : ts.map (g ∘ fun t => (Value.ref t, Value.ref t)) = ts := by
      conv => rhs; rw [← List.map_id ts]
      exact List.map_congr_left fun t _ => rfl
    rw [e2] at this
    exact this
theorem cr_sortTk {X : Cx} : CallR X (.builtin "sorted") (rSortTk X.K) := by
  intro pins s σ H vs us Q I r h
  obtain ⟨a, xs, ks, sh, rfl, hs, ht, hne, hsh, q⟩ := h
  obtain ⟨its, rv, hl, hz⟩ := I.list hs
  rw [Vals.ref1 r]
  obtain ⟨ts, rfl, rfl, hts⟩ := tks_addrs ht
  have ei := refs_at rv
  subst ei
  rw [List.length_map] at hz
  have hk : ∀ t ∈ ts, ∃ us : List Value, Vals ((kOf H t).map kV) us ∧ IsTup s.heap t us.toArray := fun t h => by
    obtain ⟨us, h1, h2, _⟩ := I.tuple (SqT.of (hts t h))
    exact ⟨us, h1, h2⟩
  have key : ∀ t ∈ ts, G.tupKeyC s.heap (fun i => sh.getD i true) (.ref t) = some (kkey (kOf H t)) := fun t h => by
    obtain ⟨us, h1, o, e1, e2, n, e3⟩ := hk t h
    have e4 : tupItems (fun i => sh.getD i true) 0 us = some (kkey (kOf H t)) := items_key h1 (shp_at (hsh _ (List.mem_map.mpr ⟨t, h, rfl⟩)))
    simp only [G.tupKeyC, G.isTupObj, tupKey, e1, e2, e3]
    simpa using e4
  have tups : ∀ {l : List Addr}, (∀ t ∈ l, t ∈ ts) → ∃ fs, TupsOf s.heap (fun i => sh.getD i true) (l.map Value.ref) fs := fun {l} => by
    induction l with
    | nil => exact fun _ => ⟨[], .nil⟩
    | cons t r ih =>
      intro h
      obtain ⟨fs, hf⟩ := ih fun u hu => h u (List.mem_cons_of_mem _ hu)
      have ht := h t (List.mem_cons_self ..)
      have es := hsh _ (List.mem_map.mpr ⟨t, ht, rfl⟩)
      obtain ⟨us, h1, o, e1, e2, n, e3⟩ := hk t ht
      cases ek : kOf H t with
      | nil =>
        rw [ek] at es
        exact absurd es.symm hne
      | cons x k =>
        rw [ek] at es h1
        have ex : sh.getD 0 true = x.isRight := by rw [← es]; rfl
        cases h1 with
        | cons q r =>
          rename_i u w
          refine ⟨u :: fs, .cons ⟨t, o, _, n, rfl, e1, e2, e3, rfl, ?_, ?_⟩ hf⟩
          · intro z
            have z : sh.getD 0 true = false := z
            rw [ex] at z
            cases x with
            | inl i =>
              obtain ⟨tk, rfl⟩ := q
              exact ⟨_, _, rfl⟩
            | inr y => exact absurd z (by intro q; cases q)
          · intro z
            have z : sh.getD 0 true = true := z
            rw [ex] at z
            cases x with
            | inl i => exact absurd z (by intro q; cases q)
            | inr y =>
              obtain ⟨tk, rfl⟩ := q
              exact ⟨_, _, rfl⟩
  obtain ⟨fs, hf⟩ := tups (l := ts) fun t h => h
  refine G.sorted_tups hl.isList hf (fun v hv => ?_) (by rw [List.length_map]; exact hz) fun st' h1 h2 _ => ?_
  · obtain ⟨t, ht, rfl⟩ := List.mem_map.mp hv
    exact ⟨_, key t ht⟩
  · have h1' : (arrOf st').toList.Perm ((ts.map Value.ref).zip (ts.map Value.ref)) := by
      rw [← pairsOf_toList]
      exact Array.perm_iff_toList_perm.mp h1
    obtain ⟨us, eL, pU⟩ := perm_refs h1'
    obtain ⟨ep, he'⟩ := sortedAll_at s.heap (ts.map Value.ref) ((arrOf st').map (·.2))
    have hus : ∀ t ∈ us, t ∈ ts := fun t h => pU.mem_iff.mp h
    have eo : ((arrOf st').map (·.2)).toList = us.map Value.ref := by
      rw [Array.toList_map, eL, List.map_map]
      rfl
    have hlen : (us.map V.ref).length ≤ sizeLine := by
      rw [List.length_map, pU.length_eq]
      exact hz
    have rus : ∀ l : List Addr, Vals (l.map V.ref) (l.map Value.ref) := fun l => by
      induction l with
      | nil => exact .nil
      | cons t r ih => exact .cons rfl ih
    have nw : H (s.heap.objs.size + 1) = none := I.hok.fresh (Nat.le_succ _)
    refine ⟨.ref _, upd H (s.heap.objs.size + 1) (.lst (us.map V.ref)), I.laid (t' := s.toks) (fun _ _ => sortedAll_old) (Nat.le_succ _) ⟨hlen, ((arrOf st').map (·.2)).toList, ep, eo ▸ rus us, he'⟩, rfl, q (us.map V.ref) (us.map (kOf H)) _ (pU.map _) ?_ (tks_of fun t h => hts t (hus t h)) nw⟩
    · rw [List.pairwise_map, List.pairwise_iff_getElem]
      intro i j hi hj hij
      have sz : (pairsOf (ts.map Value.ref)).size = us.length := by
        rw [pairsOf_size, List.length_map, pU.length_eq]
      have h3 := h2 i j (Nat.le_of_lt hij) (by rw [sz]; exact hj)
      have kk : ∀ (n : Nat) (hn : n < us.length), KK (G.tupKindC s.heap fun i => sh.getD i true) (arrOf st') n = kkey (kOf H us[n]) := fun n hn => by
        unfold KK
        have e : (arrOf st')[n]? = some (Value.ref us[n], Value.ref us[n]) := by
          rw [← Array.getElem?_toList, eL, List.getElem?_map, List.getElem?_eq_getElem hn]
          rfl
        rw [e]
        show ((G.tupKeyC s.heap (fun i => sh.getD i true) (.ref us[n])).getD _) = _
        rw [key _ (hus _ (List.getElem_mem hn))]
        rfl
      rw [kk i hi, kk j hj] at h3
      exact h3
end KA
set_option Elab.async false
set_option linter.all false
set_option maxRecDepth 100000
set_option maxHeartbeats 4000000
namespace KA
open PySem PySem.Spec PyProof.Rows L2
/-! ### a dict comprehension whose keys are tuples -/
/-- the tuple at b becomes a key of the dict at D -/
theorem setT {X : Cx} {pins : List (Addr × Obj)} {σ : L2.St} {H : Hp} {s : Shared} {E : Value → Shared → Prop} {D b : Addr} {kvs : List (List Key × V)} {k : List Key} {v : V} {u r : Value} {Q : Unit → Shared → Prop}
    (hu : X.A.units + 1 < cLine) (J : Inv X pins σ H s) (eD : H D = some (.dT kvs)) (eb : H b = some (.tup (k.map kV))) (hz : kvs.length < sizeLine) (ru : RelV (.ref b) u) (rv : RelV v r)
    (go : ∀ s', Inv X pins σ (upd H D (.dT (putK kvs k v))) s' → Q () s') : wpAny (model X.prog X.w) X.A (dictSet D u r) Q E s := by
  cases (show u = Value.ref b from ru)
  obtain ⟨z, low, xs, rel, dd⟩ := dt_of J.hok eD
  have lx : xs.length ≤ sizeLine := by
    rw [← Pd.len rel]; exact z
  have lp : (putK kvs k v).length ≤ sizeLine := Nat.le_trans (length_putK kvs k v) hz
  refine wpAny_dictSet_heap (hsz := lx) (show X.A.units < cLine by omega) (key_of J.hok eb) dd fun h' dd' same => go _ ?_
  obtain ⟨o, es, ep, q1, q2, q3, q4, _, q5⟩ := dd'
  refine d_write J (by rw [eD]; exact True.intro) same ⟨o, q1⟩ ⟨lp, low, _, (rel.put k eb rv).keeps fun c ys ec => ?_, o, es, ep, q1, q2, q3, q4, q5⟩
  rw [upd_ne (ne_of ec eD (fun z => nomatch z))]
  exact ec
/-- {k: v for target in iter}, k a tuple; D the new dict -/
def tDcT (wi : TI) (g : TG) (tk tv : TE) (vs : List Nat) : TE := fun σ H Q => wi σ H fun J H1 => ∀ D, H1 D = none → ∃ W : Nat → Nat → Hp → Prop, (∃ m, W 0 m (upd H1 D (.dT []))) ∧ ∀ i m H, W i m H →
  (J.stop i H ∧ Q (.ref D) H) ∨ (J.go i H ∧ ∃ N : Hp → Prop, (∀ H', N H' → ∃ m', m' < m ∧ W (i + 1) m' H') ∧ ∀ x H', J.yld i H x H' → g x (wipe σ vs) H' fun σ2 H2 => wipe σ2 vs = wipe σ vs ∧
    tk σ2 H2 fun y H4 => tv σ2 H4 fun z H5 => ∃ kvs k b, y = .ref b ∧ H5 b = some (.tup (k.map kV)) ∧ H5 D = some (.dT kvs) ∧ kvs.length < sizeLine ∧ N (upd H5 D (.dT (putK kvs k z))))
/-- a block's state at its begin, its names, its iterator -/
theorem pe_dcT {X : Cx} {kx vx tg iter : Expr} {scope : Scope} {own : List (Str × Nat)} {pos : Pos} {wi : TI} {g : TG} {tk tv : TE} (hu : X.A.units + 1 < cLine) (calm : X.calm = true) (nd : X.N.Nodup) (hi : PI X tg iter wi) (bo : BlkOk X.N X.env.scope scope own)
    (hg : ∀ (s : Shared) (H : Hp) (C : Addr) (cl : List (Str × Addr)) (fp : List Addr), PG (X.blk s H scope (compEnvC scope cl C X.env) fp) tg g)
    (hk : ∀ (s : Shared) (H : Hp) (C : Addr) (cl : List (Str × Addr)) (fp : List Addr), PE (X.blk s H scope (compEnvC scope cl C X.env) fp) kx tk)
    (hv : ∀ (s : Shared) (H : Hp) (C : Addr) (cl : List (Str × Addr)) (fp : List Addr), PE (X.blk s H scope (compEnvC scope cl C X.env) fp) vx tv) (fs : ∀ x, foldedSetIterable iter X.env x = pure x := by intro _; rfl) :
    PE X (.DictComp kx vx [⟨tg, iter, [], 0⟩] scope pos) (tDcT wi g tk tv (own.map (·.2))) := by
  refine ⟨fun pins s0 σ H Q I0 want => ?_⟩
  rw [arm_eval_DictComp]
  have caught : ∀ y ∈ scope.names, y.2 = .free → ∃ c, X.env.cells.lookup y.1 = some c := fun y hy e => (bo.free y hy e).elim (fun q => I0.ok.has _ (.inl q)) (fun q => I0.ok.has _ (.inr q))
  refine wpAny_comprehension_free (use := none) rfl fs (closure_ok caught) bo.kind (fun y hy e => (bo.uniq y hy).trans (congrArg some e)) (thn (hi.run pins s0 σ H _ I0 want) fun _ s1 w1 => thn w1 fun _ s2 w2 => ?_)
  obtain ⟨it, fp, tn, J, Ha, rfl, Ia, Tu, t0, fa, rest⟩ := w2
  refine wpAny_newObj_type (newEnv_comp ?_)
  obtain ⟨D, hD⟩ : ∃ D, D = s2.heap.objs.size := ⟨_, rfl⟩
  have freeD : Ha D = none := Ia.hok.fresh (Nat.le_of_eq hD.symm)
  obtain ⟨W, ⟨m0, w0⟩, turn⟩ := rest D freeD
  obtain ⟨sb, hsb⟩ : ∃ sb : Shared, sb = { s2 with heap := s2.heap.push { cls := .type "dict", data := .dict #[] } } := ⟨_, rfl⟩
  have Ib : Inv X pins σ (upd Ha D (.dT [])) sb := by
    subst hsb hD
    exact Ia.laid (t' := s2.toks) (fun b o e => Heap.get?_push_of_some _ e) (Nat.le_refl _) (dt_empty s2.heap Ia.big)
  have hb : sb.heap = s2.heap.push { cls := .type "dict", data := .dict #[] } := congrArg (·.heap) hsb
  have fb : ∀ b ∈ fp, FpOk X pins (upd Ha D (.dT [])) b ∧ b < sb.heap.objs.size := fun b m => by
    obtain ⟨o, e, _⟩ := Tu.obj _ _ t0 b m
    have lt : b < s2.heap.objs.size := Heap.lt_size e
    refine ⟨⟨?_, (fa b m).2⟩, ?_⟩
    · rw [upd_ne (show b ≠ D by rw [hD]; exact Nat.ne_of_lt lt)]
      exact (fa b m).1
    · rw [hb, Heap.size_push]
      exact Nat.lt_succ_of_lt lt
  have t1 : tn 0 sb.heap := Tu.keep _ _ _ t0 fun b _ o e => by
    rw [hb]; exact Heap.get?_push_of_some _ e
  have Ic := block_start Ib bo nd fb
  obtain ⟨cl, hcl⟩ : ∃ cl, cl = cellsFrom (sb.heap.objs.size + 1) scope.names (cloFrom X.env.cells scope.names []) := ⟨_, rfl⟩
  obtain ⟨ce, hce⟩ : ∃ ce, ce = compEnvC scope cl sb.heap.objs.size X.env := ⟨_, rfl⟩
  obtain ⟨sc, hsc⟩ : ∃ sc : Shared, sc = { sb with heap := pushCells (sb.heap.push { cls := .type "dict", data := .dict #[] }) scope.names } := ⟨_, rfl⟩
  have pg := hg sb (upd Ha D (.dT [])) sb.heap.objs.size cl fp
  have pk := hk sb (upd Ha D (.dT [])) sb.heap.objs.size cl fp
  have pv := hv sb (upd Ha D (.dT [])) sb.heap.objs.size cl fp
  have t2 : tn 0 sc.heap := Tu.keep _ _ _ t1 fun b _ o e => by
    rw [hsc]; exact pushCells_keeps _ _ _ _ (Heap.get?_push_of_some _ e)
  rw [← hcl, ← hce, ← hsc] at Ic
  rw [← hce] at pg pk pv
  have loc : ce.locals = sb.heap.objs.size := by rw [hce]; rfl
  have own_fp : ∀ {σ' : L2.St} {H' : Hp} {s' : Shared}, Inv (X.blk sb (upd Ha D (.dT [])) scope ce fp) [] σ' H' s' → (∀ b ∈ fp, H' b = none) → ∀ b ∈ fp, FpOk (X.blk sb (upd Ha D (.dT [])) scope ce fp) [] H' b := fun I' hn b m =>
    ⟨hn b m, (I'.ok.exf b m).1, I'.ok.exfs b m, .inl m, fun x c e => (I'.ok.exf b m).2 x c e, fun p hp => nomatch (show p ∈ ([] : List (Addr × Obj)) from hp)⟩
  have loop : codeAny (model X.prog X.w) X.A (.compLoop (.DictComp kx vx [⟨tg, iter, [], 0⟩] scope pos) 0 (.ref it) (.ref D) ce) (compPost (model X.prog X.w) X.A X.xe none (EP X pins σ Q) (.ref D) sb.heap.objs.size) sc := by
    refine compLoop_anyD (fun n s' => ∃ i H', Inv (X.blk sb (upd Ha D (.dT [])) scope ce fp) [] (wipe σ (own.map (·.2))) H' s' ∧ tn i s'.heap ∧ (∀ b ∈ fp, H' b = none) ∧ W i n H') ?_ m0 ⟨0, _, Ic, t2, fun b m => (fb b m).1.1, w0⟩
    rintro n s5 ⟨i, H5, I5, t5, n5, w5⟩
    rcases turn i n H5 w5 with ⟨stop, fin⟩ | ⟨go, N, hN, step⟩
    · refine thnF (Tu.done (X.blk sb (upd Ha D (.dT [])) scope ce fp) rfl rfl rfl calm i [] s5 _ H5 (fun _ _ => False) I5 (own_fp I5 n5) t5 stop) fun r s6 w6 => ?_
      obtain ⟨rfl, I6⟩ := w6
      have I7 : Inv X pins σ H5 s6 := Ib.call' (ch := fp) I6.os I6.base I6.hok I6.bare fun b m => ⟨(fb b m).1.2.2.2.1, (fb b m).1.2.1, (fb b m).1.2.2.2.2.1, (fb b m).1.2.2.2.2.2⟩
      have nC : H5 sb.heap.objs.size = none := loc ▸ I6.free
      obtain ⟨m, hm, _⟩ := I6.loc
      have hm : s6.heap.Ns ce.locals m := hm
      rw [loc] at hm
      refine ⟨m, hm, fun h'' same => ?_⟩
      obtain ⟨f0, f1, _, f3, f4, f5⟩ := Ib.fpOk (Nat.le_refl _) nC
      exact ⟨.ref D, H5, I7.turned (t' := s6.toks) (fun b o q e => (same.2 b q).trans e) f0 f1 f3 f4 f5, rfl, fin⟩
    · refine thnF (Tu.item (X.blk sb (upd Ha D (.dT [])) scope ce fp) rfl rfl rfl calm i [] s5 _ H5 (fun _ _ => False) I5 (own_fp I5 n5) t5 go) fun r s6 w6 => ?_
      obtain ⟨u, rfl, w6⟩ := w6
      refine thnF w6 fun _ s7 w7 => ?_
      obtain ⟨x, H7, I7, r7, y7, t7, n7⟩ := w7
      refine thnF (pg.run _ s7 _ H7 x u _ (I7.pinned (own_fp I7 n7) (Tu.obj _ _ t7)) r7 (step x H7 y7)) fun _ s8 w8 => ?_
      obtain ⟨σ8, H8, I8, e8, q8⟩ := w8
      have next : ∀ {s' : Shared} {H' : Hp}, Inv (X.blk sb (upd Ha D (.dT [])) scope ce fp) ([] ++ pinsAt fp s7.heap) σ8 H' s' → N H' →
          ∃ m, m < n ∧ ∃ i H', Inv (X.blk sb (upd Ha D (.dT [])) scope ce fp) [] (wipe σ (own.map (·.2))) H' s' ∧ tn i s'.heap ∧ (∀ b ∈ fp, H' b = none) ∧ W i m H' := fun {s' H'} I' nx => by
        obtain ⟨m', lt, w'⟩ := hN H' nx
        have stays : ∀ b ∈ fp, ∀ o, s7.heap.get? b = some o → s'.heap.get? b = some o ∧ H' b = none := fun b m o e => by
          have z := I'.pin (b, o) (List.mem_append_right _ (List.mem_append_right _ (mem_pinsAt m e)))
          exact ⟨z.1, z.2.1⟩
        refine ⟨m', lt, i + 1, H', (I'.unpinned (pins := [])).weak (by rw [← e8, wipe_length]) (fun j v e => (wipe_some (e8 ▸ e)).1), Tu.keep _ _ _ t7 fun b m o e => (stays b m o e).1, fun b m => ?_, w'⟩
        obtain ⟨o, e, _⟩ := Tu.obj _ _ t7 b m
        exact (stays b m o e).2
      show wpAny _ _ (pure true) _ _ _
      refine wpAny_pure ?_
      show wpAny _ _ _ _ _ _
      refine thnF (pk.run _ s8 σ8 H8 _ I8 q8) fun z s10 w10 => ?_
      obtain ⟨yk, H10, I10, r10, q10⟩ := w10
      refine thnF (pv.run _ s10 σ8 H10 _ I10 q10) fun z2 s11 w11 => ?_
      obtain ⟨yv, H11, I11, r11, kvs, k, b, rfl, eb, eD, hz, nx⟩ := w11
      exact setT (X := X.blk sb (upd Ha D (.dT [])) scope ce fp) hu I11 eD eb hz r10 r11 fun s12 I12 => next I12 nx
  subst hce hcl hsc hsb hD
  exact codeAny_compStart_dict loop (Tu.self X.A 0 _ _ _ t2 loop)
end KA
set_option Elab.async false
set_option linter.all false
set_option maxRecDepth 100000
set_option maxHeartbeats 4000000
namespace KA
open PySem PySem.Spec PyProof.Rows L2
/-! ### further readings -/
theorem pi_or {X : Cx} {tg e : Expr} {a b : TI} (ha : PI X tg e a) (hb : PI X tg e b) : PI X tg e (fun σ H R => a σ H R ∨ b σ H R) :=
  ⟨fun pins s σ H R I h => h.elim (ha.run pins s σ H R I) (hb.run pins s σ H R I)⟩
section
variable {J : It} {n : Nat} {G : Hp → Prop} {Y : Nat → Hp → V → Hp → Prop}
/-- a dict comprehension over a walk -/
theorem dc_it (w : Walk J n G Y) {g : TG} {tt : TT} {tk tv : TE} {vs : List Nat} {σ : L2.St} {H1 : Hp} {D : Addr} {Qd : Hp → Prop} (Pv : Nat → Hp → Prop) (h0 : Pv 0 (upd H1 D (.dK []))) (hG : ∀ i H, i ≤ n → Pv i H → G H)
    (hs : ∀ i x H H', i < n → Pv i H → Y i H x H' → g x (wipe σ vs) H' fun σ2 H2 => wipe σ2 vs = wipe σ vs ∧ tt σ2 H2 fun b H3 =>
      if b = true then tk σ2 H3 fun y H4 => tv σ2 H4 fun z H5 => ∃ kvs k, y = kV k ∧ H5 D = some (.dK kvs) ∧ kvs.length < sizeLine ∧ Pv (i + 1) (upd H5 D (.dK (putK kvs k z))) else Pv (i + 1) H3) (hd : ∀ H, Pv n H → Qd H) :
    ∃ W : Nat → Nat → Hp → Prop, (∃ m, W 0 m (upd H1 D (.dK []))) ∧ ∀ i m H, W i m H →
      (J.stop i H ∧ Qd H) ∨ (J.go i H ∧ ∃ N : Hp → Prop, (∀ H', N H' → ∃ m', m' < m ∧ W (i + 1) m' H') ∧ ∀ x H', J.yld i H x H' → g x (wipe σ vs) H' fun σ2 H2 => wipe σ2 vs = wipe σ vs ∧ tt σ2 H2 fun b H3 =>
        if b = true then tk σ2 H3 fun y H4 => tv σ2 H4 fun z H5 => ∃ kvs k, y = kV k ∧ H5 D = some (.dK kvs) ∧ kvs.length < sizeLine ∧ N (upd H5 D (.dK (putK kvs k z))) else N H3) := by
  refine ⟨fun i m H => i + m = n ∧ Pv i H, ⟨n, Nat.zero_add n, h0⟩, fun i m H h => ?_⟩
  obtain ⟨e, p⟩ := h
  by_cases hi : i < n
  · exact .inr ⟨w.goes i H hi (hG i H (Nat.le_of_lt hi) p), Pv (i + 1), fun H' p' => ⟨m - 1, by omega, by omega, p'⟩, fun x H' y => hs i x H H' hi p (w.yields i H x H' hi (hG i H (Nat.le_of_lt hi) p) y)⟩
  · have ei : i = n := by omega
    subst ei
    exact .inl ⟨w.stops H (hG i H (Nat.le_refl _) p), hd H p⟩
theorem dcT_it (w : Walk J n G Y) {g : TG} {tk tv : TE} {vs : List Nat} {σ : L2.St} {H1 : Hp} {D : Addr} {Qd : Hp → Prop} (Pv : Nat → Hp → Prop) (h0 : Pv 0 (upd H1 D (.dT []))) (hG : ∀ i H, i ≤ n → Pv i H → G H)
    (hs : ∀ i x H H', i < n → Pv i H → Y i H x H' → g x (wipe σ vs) H' fun σ2 H2 => wipe σ2 vs = wipe σ vs ∧
      tk σ2 H2 fun y H4 => tv σ2 H4 fun z H5 => ∃ kvs k b, y = .ref b ∧ H5 b = some (.tup (k.map kV)) ∧ H5 D = some (.dT kvs) ∧ kvs.length < sizeLine ∧ Pv (i + 1) (upd H5 D (.dT (putK kvs k z)))) (hd : ∀ H, Pv n H → Qd H) :
    ∃ W : Nat → Nat → Hp → Prop, (∃ m, W 0 m (upd H1 D (.dT []))) ∧ ∀ i m H, W i m H →
      (J.stop i H ∧ Qd H) ∨ (J.go i H ∧ ∃ N : Hp → Prop, (∀ H', N H' → ∃ m', m' < m ∧ W (i + 1) m' H') ∧ ∀ x H', J.yld i H x H' → g x (wipe σ vs) H' fun σ2 H2 => wipe σ2 vs = wipe σ vs ∧
        tk σ2 H2 fun y H4 => tv σ2 H4 fun z H5 => ∃ kvs k b, y = .ref b ∧ H5 b = some (.tup (k.map kV)) ∧ H5 D = some (.dT kvs) ∧ kvs.length < sizeLine ∧ N (upd H5 D (.dT (putK kvs k z)))) := by
  refine ⟨fun i m H => i + m = n ∧ Pv i H, ⟨n, Nat.zero_add n, h0⟩, fun i m H h => ?_⟩
  obtain ⟨e, p⟩ := h
  by_cases hi : i < n
  · exact .inr ⟨w.goes i H hi (hG i H (Nat.le_of_lt hi) p), Pv (i + 1), fun H' p' => ⟨m - 1, by omega, by omega, p'⟩, fun x H' y => hs i x H H' hi p (w.yields i H x H' hi (hG i H (Nat.le_of_lt hi) p) y)⟩
  · have ei : i = n := by omega
    subst ei
    exact .inl ⟨w.stops H (hG i H (Nat.le_refl _) p), hd H p⟩
end
/-! ### a catalogue -/
theorem rp : ¬ (("ranges" : Str) = "pairs") := by decide +kernel
theorem pr : ¬ (("pairs" : Str) = "ranges") := by decide +kernel
abbrev catF (d p : Addr) : List (Str × V) := [("ranges", .ref d), ("pairs", .ref p)]
theorem catF_eq (d p : Addr) : putF "pairs" (.ref p) (putF "ranges" (.ref d) []) = catF d p := by
  show (if ("ranges" : Str) = "pairs" then _ else (("ranges" : Str), V.ref d) :: putF "pairs" (V.ref p) []) = _
  rw [if_neg rp]
  rfl
theorem catF_r (d p : Addr) : (catF d p).lookup ("ranges" : Str) = some (.ref d) := by
  rw [← catF_eq, lookup_putF, if_neg rp, lookup_putF, if_pos rfl]
theorem catF_p (d p : Addr) : (catF d p).lookup ("pairs" : Str) = some (.ref p) := by
  rw [← catF_eq, lookup_putF, if_pos rfl]
/-- the pairs of a dict from names -/
abbrev nkv (ns : List Str) (rv : Str → V) : List (Key × V) := ns.map fun z => (Sum.inr z, rv z)
/-- a range's tuple -/
def Rg (H : Hp) (v : V) : Prop := ∃ (t : Addr) (lo hi : Int), v = .ref t ∧ H t = some (.tup [.int lo, .int hi]) ∧ lo ≤ hi
theorem Rg.kt {H H' : Hp} (k : KT H H') {v : V} (h : Rg H v) : Rg H' v := by
  obtain ⟨t, lo, hi, e, h, l⟩ := h
  exact ⟨t, lo, hi, e, k _ _ h, l⟩
/-- what may be made a catalogue: names and ranges, wishes between them -/
structure Srt (ns : List Str) (ws : List (List Str)) : Prop where
  nd : ns.Nodup
  nm : ∀ z ∈ ns, IsNm z
  one : 1 ≤ ns.length
  six : ns.length ≤ 6
  prs : ∀ l ∈ ws, ∃ u v, l = [u, v] ∧ u ∈ ns ∧ v ∈ ns ∧ u ≠ v
  most : ws.length ≤ 20
/-- a Catalogue stands at x -/
structure Cat (C : Addr) (H : Hp) (x : Addr) (ns : List Str) (rv : Str → V) (ws : List (List Str)) : Prop where
  at_ : ∃ dx d p ys, H x = some (.ins C dx (catF d p)) ∧ H d = some (.dK (nkv ns rv)) ∧ H p = some (.tup ys) ∧ Txs H ys ws
  srt : sortedS ns = true
  ok : Srt ns ws
  rg : ∀ z ∈ ns, Rg H (rv z)
  up : ws.Pairwise fun a b => leK (a.map Sum.inr) (b.map Sum.inr)
  uniq : ws.Nodup
end KA
set_option Elab.async false
set_option linter.all false
set_option maxRecDepth 100000
set_option maxHeartbeats 4000000
namespace KA
open PySem PySem.Spec PyProof.Rows L2
/-! ### rows of texts in order -/
def leS (a b : Str) : Prop := PyProof.Rows.strKind.kle a.cps.toList b.cps.toList
theorem leS_trans {a b c : Str} (h1 : leS a b) (h2 : leS b c) : leS a c := KeyOrd.kle_trans (O := PyProof.Rows.strKind.toKeyOrd) (a := a.cps.toList) (b := b.cps.toList) (c := c.cps.toList) h1 h2
theorem leS_anti {a b : Str} (h1 : leS a b) (h2 : leS b a) : a = b := TL.ext_tl (KeyOrd.kle_antisymm (O := PyProof.Rows.strKind.toKeyOrd) (a := a.cps.toList) (b := b.cps.toList) h1 h2)
theorem ltCps_iff : ∀ a b : List Nat, ltCps a b = decide (a < b)
  | [], [] => by simp [ltCps]
  | [], _ :: _ => by simp [ltCps]
  | _ :: _, [] => by simp [ltCps]
  | x :: a, y :: b => by
    have ih := ltCps_iff a b
    simp only [ltCps, ih, List.cons_lt_cons_iff]
    by_cases h1 : x < y <;> by_cases h2 : x = y <;> simp [h1, h2]
theorem sortedS_up : ∀ {l : List Str}, sortedS l = true → l.Pairwise leS
  | [], _ => .nil
  | [x], _ => List.pairwise_singleton ..
  | x :: y :: r, h => by
    have h' : (!ltCps y.cps.toList x.cps.toList && risingS y r) = true := h
    rw [Bool.and_eq_true] at h'
    have h1 : leS x y := by
      have := h'.1
      rw [ltCps_iff] at this
      show decide (y.cps.toList < x.cps.toList) = false
      simpa using this
    have ih := sortedS_up (l := y :: r) h'.2
    refine List.pairwise_cons.mpr ⟨fun z hz => ?_, ih⟩
    rcases List.mem_cons.mp hz with rfl | hz
    · exact h1
    · exact leS_trans h1 ((List.pairwise_cons.mp ih).1 z hz)
theorem sortedS_one {l m : List Str} (p : l.Perm m) (h1 : sortedS l = true) (h2 : sortedS m = true) : l = m := sorted_one (fun _ _ => leS_anti) p (sortedS_up h1) (sortedS_up h2)
/-! ### dicts from names -/
theorem valV_nkv {ns : List Str} {rv : Str → V} {z : Str} (h : z ∈ ns) : valV (nkv ns rv) (Sum.inr z : Key) = some (rv z) := by
  induction ns with
  | nil => exact nomatch h
  | cons y r ih =>
    by_cases e : y = z
    · subst e
      exact valV_pos rfl
    · rw [nkv, List.map_cons, valV_neg (fun q => e (Sum.inr.inj q))]
      exact ih ((List.mem_cons.mp h).resolve_left fun q => e q.symm)
theorem valV_nkv_none {ns : List Str} {rv : Str → V} {z : Str} (h : z ∉ ns) : valV (nkv ns rv) (Sum.inr z : Key) = none := by
  induction ns with
  | nil => rfl
  | cons y r ih =>
    rw [nkv, List.map_cons, valV_neg (fun q => h (by rw [Sum.inr.inj q]; exact List.mem_cons_self ..))]
    exact ih fun q => h (List.mem_cons_of_mem _ q)
/-! ### wishes, each once -/
def addU (acc : List (List Str)) (l : List Str) : List (List Str) := if l ∈ acc then acc else acc ++ [l]
def uq (ws : List (List Str)) : List (List Str) := ws.foldl addU []
abbrev kt1 (l : List Str) : List Key × V := (l.map Sum.inr, .bl true)
theorem inr_inj : ∀ {l m : List Str}, (l.map Sum.inr : List Key) = m.map Sum.inr → l = m
  | [], [], _ => rfl
  | [], _ :: _, h => by simp at h
  | _ :: _, [], h => by simp at h
  | x :: l, y :: m, h => by
    rw [List.map_cons, List.map_cons] at h
    injection h with h1 h2
    rw [Sum.inr.inj h1, inr_inj h2]
theorem putK_kt (acc : List (List Str)) (l : List Str) : putK (acc.map kt1) (l.map Sum.inr) (.bl true) = (addU acc l).map kt1 := by
  unfold putK addU
  by_cases h : l ∈ acc
  · have : ((acc.map kt1).any fun kv => decide (kv.1 = l.map Sum.inr)) = true := by
      rw [List.any_eq_true]
      exact ⟨kt1 l, List.mem_map.mpr ⟨l, h, rfl⟩, decide_eq_true rfl⟩
    rw [if_pos this, if_pos h, List.map_map]
    refine List.map_congr_left fun m _ => ?_
    show (if (kt1 m).1 = l.map Sum.inr then ((kt1 m).1, V.bl true) else kt1 m) = kt1 m
    split <;> rfl
  · have : ¬ ((acc.map kt1).any fun kv => decide (kv.1 = l.map Sum.inr)) = true := fun q => by
      obtain ⟨kv, h1, h2⟩ := List.any_eq_true.mp q
      obtain ⟨m, hm, rfl⟩ := List.mem_map.mp h1
      exact h (inr_inj (of_decide_eq_true h2) ▸ hm)
    rw [if_neg this, if_neg h, List.map_append]
    rfl
theorem addU_mem {acc : List (List Str)} {l m : List Str} : m ∈ addU acc l ↔ m ∈ acc ∨ m = l := by
  unfold addU
  split
  · rename_i h
    exact ⟨.inl, fun q => q.elim id fun e => e ▸ h⟩
  · rw [List.mem_append, List.mem_singleton]
theorem addU_nd {acc : List (List Str)} {l : List Str} (h : acc.Nodup) : (addU acc l).Nodup := by
  unfold addU
  split
  · exact h
  · rename_i q
    exact List.nodup_append.mpr ⟨h, (List.pairwise_singleton ..), fun a ha b hb => by
      rw [List.mem_singleton.mp hb]
      exact fun e => q (e ▸ ha)⟩
theorem addU_len (acc : List (List Str)) (l : List Str) : (addU acc l).length ≤ acc.length + 1 := by
  unfold addU
  split
  · omega
  · rw [List.length_append]; exact Nat.le_refl _
theorem fold_mem : ∀ (ws acc : List (List Str)) (m : List Str), m ∈ ws.foldl addU acc ↔ m ∈ acc ∨ m ∈ ws
  | [], acc, m => by simp
  | l :: r, acc, m => by
    rw [List.foldl_cons, fold_mem r, addU_mem, List.mem_cons, or_assoc]
theorem fold_nd : ∀ (ws acc : List (List Str)), acc.Nodup → (ws.foldl addU acc).Nodup
  | [], acc, h => h
  | l :: r, acc, h => fold_nd r _ (addU_nd h)
theorem uq_mem {ws : List (List Str)} {m : List Str} : m ∈ uq ws ↔ m ∈ ws := by
  rw [uq, fold_mem]; simp
theorem uq_nd (ws : List (List Str)) : (uq ws).Nodup := fold_nd ws [] List.nodup_nil
theorem uq_len : ∀ (ws acc : List (List Str)), (ws.foldl addU acc).length ≤ acc.length + ws.length
  | [], acc => by simp
  | l :: r, acc => by
    have h1 := uq_len r (addU acc l)
    have h2 := addU_len acc l
    rw [List.foldl_cons, List.length_cons]
    omega
theorem uq_snoc (ws : List (List Str)) (l : List Str) : uq (ws ++ [l]) = addU (uq ws) l := by
  unfold uq
  rw [List.foldl_append]
  rfl
/-- a permutation of an image -/
theorem perm_inv {α β : Type} {f : α → β} (g : β → α) (gf : ∀ x, g (f x) = x) {l : List α} {m : List β} (p : m.Perm (l.map f)) : ∃ l' : List α, m = l'.map f ∧ l'.Perm l := by
  refine ⟨m.map g, ?_, ?_⟩
  · rw [List.map_map]
    conv => lhs; rw [← List.map_id m]
    refine List.map_congr_left fun y hy => ?_
    obtain ⟨x, _, rfl⟩ := List.mem_map.mp (p.mem_iff.mp hy)
    show f x = f (g (f x))
    rw [gf]
  · have := p.map g
    rw [List.map_map] at this
    have e : l.map (g ∘ f) = l := by
      conv => rhs; rw [← List.map_id l]
      exact List.map_congr_left fun x _ => gf x
    rwa [e] at this
def strOf : Key → Str
  | .inr z => z
  | .inl _ => ""
theorem strsOf_inr (l : List Str) : (l.map Sum.inr : List Key).map strOf = l := by
  rw [List.map_map]
  conv => rhs; rw [← List.map_id l]
  exact List.map_congr_left fun x _ => rfl
theorem inr_kV (l : List Str) : (l.map Sum.inr : List Key).map kV = l.map V.str := by
  rw [List.map_map]
  rfl
theorem Tk.tx {H : Hp} {v : V} {l : List Str} : Tk H v (l.map Sum.inr) ↔ Tx H v l := by
  unfold Tk Tx
  rw [inr_kV]
theorem Tks.txs {H : Hp} : ∀ {xs : List V} {ls : List (List Str)}, Tks H xs (ls.map fun l => l.map Sum.inr) → Txs H xs ls
  | _, [], h => by
    cases h
    exact .nil
  | _, l :: ls, h => by
    cases h with
    | cons h1 h2 => exact .cons (Tk.tx.mp h1) (Tks.txs h2)
theorem Txs.tks {H : Hp} : ∀ {xs : List V} {ls : List (List Str)}, Txs H xs ls → Tks H xs (ls.map fun l => l.map Sum.inr)
  | _, _, .nil => .nil
  | _, _, .cons h1 h2 => .cons (Tk.tx.mpr h1) (Txs.tks h2)
/-- the order of rows of texts -/
abbrev leT (a b : List Str) : Prop := leK (a.map Sum.inr) (b.map Sum.inr)
theorem leT_anti (a b : List Str) (h1 : leT a b) (h2 : leT b a) : a = b := inr_inj (leK_anti h1 h2)
end KA
set_option Elab.async false
set_option linter.all false
set_option maxRecDepth 100000
set_option maxHeartbeats 4000000
namespace KA
open PySem PySem.Spec PyProof.Rows L2
theorem sqT_ty {K : PySem.W.Frag} {H : Hp} {a : Addr} {xs : List V} (h : SqT K H a xs) : TyX K H (.ref a) (.type "tuple") := by
  rcases h with (h | ⟨o, h⟩) | ⟨o, its, n, h1, h2, _⟩
  · exact .base (.tup h)
  · exact .fTuple h
  · exact .kTuple h1 h2
theorem sqL_ty {K : PySem.W.Frag} {H : Hp} {a : Addr} {xs : List V} (h : SqL K H a xs) : TyX K H (.ref a) (.type "list") := by
  rcases h with (h | ⟨o, h⟩) | ⟨o, its, n, h1, h2, _⟩
  · exact .base (.lst h)
  · exact .base (.frz h)
  · exact .kList h1 h2
theorem Ch.seqT {K : PySem.W.Frag} {a b : Addr} {H H' : Hp} {xs : List V} (c : Ch a H H') (n : b ≠ a) (h : SqT K H b xs) : SqT K H' b xs := by
  rcases h with (h | ⟨o, h⟩) | h
  · exact .inl (.inl (c _ _ n h))
  · exact .inl (.inr ⟨o, c _ _ n h⟩)
  · exact .inr h
theorem sameT {K : PySem.W.Frag} {a : Addr} {H H' : Hp} {xs : List V} (c : Same H H') (h : SqT K H a xs) : SqT K H' a xs := by
  rcases h with (h | ⟨o, h⟩) | h
  · exact .inl (.inl (c _ _ h))
  · exact .inl (.inr ⟨o, c _ _ h⟩)
  · exact .inr h
theorem seq_pi {K : PySem.W.Frag} {i : Nat} {σ : L2.St} {H : Hp} {b : Addr} {xs : List V} {R : It → Hp → Prop} (hσ : σ[i]? = some (some (.ref b))) (h : SqL K H b xs ∨ SqT K H b xs)
    (k : ∀ (J : It) (G : Hp → Prop), Walk J xs.length G (YAt xs) → (∀ H', Same H H' → G H') → R J H) : iList K (tVar i) σ H R ∨ iTup K (tVar i) σ H R := by
  rcases h with h | h
  · exact .inl ⟨_, hσ, b, rfl, ⟨_, h⟩, k _ _ (walk_list (xs := xs)) fun H' s => s.seq h⟩
  · exact .inr ⟨_, hσ, b, rfl, ⟨_, h⟩, k _ _ (walk_tup (xs := xs)) fun H' s => sameT s h⟩
theorem unlock {H H3 : Hp} {d : Addr} {u : HO} {od : Obj} (h : H d = some u) (s : Same (upd H d (.frz od u)) H3) : Same H (upd H3 d u) := fun b o e => by
  by_cases q : b = d
  · subst q
    rw [upd_same, ← h]
    exact e
  · rw [upd_ne q]
    exact s b o (by rw [upd_ne q]; exact e)
theorem nkv_get {ns : List Str} {rv : Str → V} {i : Nat} {k : Key} {v : V} (h : (nkv ns rv)[i]? = some (k, v)) : ∃ z, ns[i]? = some z ∧ k = Sum.inr z ∧ v = rv z := by
  rw [nkv, List.getElem?_map] at h
  obtain ⟨z, hz, e⟩ := Option.map_eq_some_iff.mp h
  injection e with e1 e2
  exact ⟨z, hz, e1.symm, e2.symm⟩
theorem nkv_keys (ns : List Str) (rv : Str → V) : ((nkv ns rv).map fun kv => kV kv.1) = ns.map V.str := by
  rw [List.map_map]
  rfl
theorem shp_strs (l : List Str) : shp (l.map Sum.inr) = List.replicate l.length true := by
  induction l with
  | nil => rfl
  | cons z r ih =>
    show true :: shp (r.map Sum.inr) = _
    rw [ih]
    rfl
theorem keys_tks {H : Hp} : ∀ {ls : List (List Str)} {bs : List Addr}, IsKeys H (ls.map kt1) bs → Txs H (bs.map V.ref) ls
  | [], bs, h => by
    cases h
    exact .nil
  | l :: ls, bs, h => by
    cases h with
    | cons h1 h2 => exact .cons ⟨_, rfl, by rw [← inr_kV]; exact h1⟩ (keys_tks h2)
section
variable {P : Program} {w : World} {K : PySem.W.Frag} {mg : Str → Option Value} {base : Heap}
/-- a class with its __init__ -/
def Di (K : PySem.W.Frag) (mg : Str → Option Value) (x : Str) (C : Addr) (qual : Str) (st : Stmt) (ps : List Str) : Prop := ∃ (f : Addr) (fd : FuncData) (dvs : List V), FunD K "__init__" qual (defArgs st) (defBody st) (defScope st) dvs [] f fd ∧ Mk K C f ∧ mg x = some (.ref C) ∧ Binds K fd ps []
def Mkf (P : Program) (w : World) (K : PySem.W.Frag) (mg : Str → Option Value) (base : Heap) (x : Str) (C : Addr) (ps : List Str) (k : Nat) (sp : Sp) : Prop :=
  ∃ (f : Addr) (fd : FuncData), Mk K C f ∧ mg x = some (.ref C) ∧ Binds K fd ps [] ∧ FnOk P w K mg base CX0 k f fd ps sp
theorem Di.ok {x qual : Str} {C : Addr} {st : Stmt} {ps N : List Str} {k : Nat} {sp : Sp} (D : Di K mg x C qual st ps) (S : FnScope N ps (defScope st)) (len : ∀ vs H Q E, sp vs H Q E → vs.length = ps.length)
    (hbody : ∀ (f : Addr) (cdv : Value) (A : Around) (outer : List Env) (s : Shared) (H : Hp) (vs : List V) (Q : VK) (E : XK), Room k (A.deeper (envOfC qual (defScope st) s.heap.objs.size f cdv)) → sp vs H Q E →
      ∃ t, PSs (cxOf CX0 P w K mg base N qual (defScope st) f cdv A outer s H E).nox (defBody st) t ∧ t { nx := fun _ H' => Q .non H', rt := Q } (start N vs) H) : Mkf P w K mg base x C ps (k + 1) sp := by
  obtain ⟨f, fd, dvs, F, M, g, b⟩ := D
  refine ⟨f, fd, M, g, b, F.ok S len fun cdv A outer s H vs Q E hr h => ?_⟩
  obtain ⟨t, h1, h2⟩ := hbody f cdv A outer s H vs Q E hr h
  exact ⟨t, PSs.nox h1, h2⟩
theorem pe_mkf {X : Cx} {k : Nat} {x : Str} {C : Addr} {p pos : Pos} {e : Expr} {es : List Expr} {t : TA} {ps : List Str} {sp : Sp} (F : Mkf X.prog X.w X.K X.mg X.base x C ps k sp) (hr : Room (k + 1) X.A) (hg : Gl X x) (ha : PA X (e :: es) t)
    (hdb : (x == ("__debug__" : Str)) = false := by decide) (he : starEach (e :: es) X.env = (false, eval e X.env) :: starEach es X.env := by rfl) (hpl : (backTo pos (starEach es X.env)).any (·.1) = false := by rfl) :
    PE X (.Call (.Name x p) (e :: es) [] pos) (tMake C sp [] E0 t) := by
  obtain ⟨f, fd, M, g, b, ok⟩ := F
  exact pe_make M ok hr hg g b .nil pass0 ha hdb he hpl
/-! ### Catalogue(sorts, wishes) -/
abbrev nInit : List Str := ["self", "sorts", "wishes", "sort", "wish"]
theorem scInit : FnScope nInit ["self", "sorts", "wishes"] (defScope s_Catalogue_init) := ⟨rfl, rfl, rfl, by decide +kernel, rfl, by decide +kernel, by decide +kernel⟩
def spInit (K : PySem.W.Frag) (C : Addr) : Sp := fun vs H Q _ => ∃ (x dx d b : Addr) (ns : List Str) (rv : Str → V) (xs : List V) (ws : List (List Str)), vs = [.ref x, .ref d, .ref b] ∧ H x = some (.ins C dx []) ∧ H d = some (.dK (nkv ns rv)) ∧
  (SqL K H b xs ∨ SqT K H b xs) ∧ Txs H xs ws ∧ Srt ns ws ∧ (∀ z ∈ ns, Rg H (rv z)) ∧ ∀ H' ms ps, ms.Perm ns → ps.Perm (uq ws) → Cat C H' x ms rv ps → Ch x H H' → Q .non H'
structure CatT (K : PySem.W.Frag) (mg : Str → Option Value) (C : Addr) : Prop where
  cl : Cls K C
  nR : NoAttr K C "ranges"
  nP : NoAttr K C "pairs"
  sorts : ∃ t, mg "MOST_SORTS" = some (.int 6 t)
  wishes : ∃ t, mg "MOST_WISHES" = some (.int 20 t)
theorem ok_init {C : Addr} (D : Di K mg "Catalogue" C "Catalogue.__init__" s_Catalogue_init ["self", "sorts", "wishes"]) (GN : Fn P w K mg base "is_name" ["value"] 1 (spIsName K)) (GW : Fn P w K mg base "is_wish" ["value"] 2 spIsWish)
    (GR : Fn P w K mg base "is_range" ["value"] 2 spIsRange) (T : Fre mg) (Ct : CatT K mg C) : Mkf P w K mg base "Catalogue" C ["self", "sorts", "wishes"] 3 (spInit K C) := by
  obtain ⟨t1, g1⟩ := Ct.sorts
  obtain ⟨t2, g2⟩ := Ct.wishes
  refine D.ok scInit (fun vs H Q E h => ?_) (fun f cdv A outer s H vs Q E hr h => ?_)
  · obtain ⟨_, _, _, _, _, _, _, _, rfl, _⟩ := h
    rfl
  · obtain ⟨x, dx, d, b, ns, rv, xs, ws, rfl, hx, hd, hb, htx, sr, hrg, k⟩ := h
    have nd := scInit.nd
    have hu := hu_of hr
    have hr1 := hr.mono (show 1 ≤ 2 by decide)
    refine ⟨_, pss_cons (ps_if (PW.pt (pw_or (pt_not (pt_val (pe_callB call_isi (by rfl) T.isi (by decide +kernel) (pa_cons (pv 1) (pa_cons (pe_bltn (v := .ty "dict") (by rfl) T.dict (by decide +kernel) rfl) pa_nil)))))
        (pw_or1 (pt_not (pt_chain op_le op_le pe_int (pe_callB call_lenD (by rfl) T.len PySem.boot_len (pa_cons (pv 1) pa_nil)) (pe_glob (v := .int 6) (by rfl) g1 ⟨_, rfl⟩)))))) (pss_one ps_never) pss_nil)
      (pss_cons (ps_if (pt_not (pt_val (pe_callB (cr_all rfl) (by rfl) T.all (by decide +kernel) (pa_cons (pe_lock (pe_lc (own := [("sort", 3)]) (g := gName 3) (tt := tYes) rfl nd (pi_keys (pv 1))
          (blkOk_by (N := nInit) (sc := defScope s_Catalogue_init) (by decide +kernel)) (fun _ _ _ _ _ => pg_name (i := 3) nd rfl (Or.inl rfl)) (fun _ _ _ _ _ => pts_nil)
          (fun _ _ _ _ _ => pe_and (pe_fn GN hr1 (by rfl) (pa_cons (pv 3) pa_nil)) (pe_one (pe_fn GR hr (by rfl) (pa_cons (pe_dget hu (pv 1) (pv 3) (fun _ _ => rfl)) pa_nil)))))) pa_nil)))) (pss_one ps_never) pss_nil)
      (pss_cons (ps_if (PW.pt (pw_or (pt_not (pt_val (pe_callB call_isiT (by rfl) T.isi (by decide +kernel) (pa_cons (pv 2) (pa_cons (pe_tup (pa_cons (pe_bltn (v := .ty "list") (by rfl) T.list (by decide +kernel) rfl) (pa_cons (pe_bltn (v := .ty "tuple") (by rfl) T.tup (by decide +kernel) rfl) pa_nil))) pa_nil)))))
        (pw_or1 (pt_cmpR op_gt (pe_callB call_len (by rfl) T.len PySem.boot_len (pa_cons (pv 2) pa_nil)) (pe_glob (v := .int 20) (by rfl) g2 ⟨_, rfl⟩) (nomark _))))) (pss_one ps_never) pss_nil)
      (pss_cons (ps_if (pt_not (pt_val (pe_callB (cr_all rfl) (by rfl) T.all (by decide +kernel) (pa_cons (pe_lc (own := [("wish", 4)]) (g := gName 4) (tt := tYes) rfl nd (pi_or (pi_list (pv 2)) (pi_tup (pv 2)))
          (blkOk_by (N := nInit) (sc := defScope s_Catalogue_init) (by decide +kernel)) (fun _ _ _ _ _ => pg_name (i := 4) nd rfl (Or.inl rfl)) (fun _ _ _ _ _ => pts_nil)
          (fun _ _ _ _ _ => pe_and (pe_fn GW hr (by rfl) (pa_cons (pv 4) pa_nil)) (pe_and (pe_cmp (pc_din hu (pe_ix (r := rIxT K) ix_tup (pv 4) pe_int (fun _ _ => rfl)) (pv 1))) (pe_one (pe_cmp (pc_din hu (pe_ix (r := rIxT K) ix_tup (pv 4) pe_int (fun _ _ => rfl)) (pv 1))))))) pa_nil)))) (pss_one ps_never) pss_nil)
      (pss_cons (ps_fld (pv 0) (pe_dc (own := [("sort", 3)]) (g := gName 3) (tt := tYes) rfl nd (pi_list (pe_callB cr_sortedS (by rfl) T.sorted (by decide +kernel) (pa_cons (pe_callTy (call_listD rfl) (by rfl) T.list (by decide +kernel) (pa_cons (pv 1) pa_nil)) pa_nil)))
          (blkOk_by (N := nInit) (sc := defScope s_Catalogue_init) (by decide +kernel)) (fun _ _ _ _ _ => pg_name (i := 3) nd rfl (Or.inl rfl)) (fun _ _ _ _ _ => pts_nil) (fun _ _ _ _ _ => pv 3) (fun _ _ _ _ _ => pe_dget hu (pv 1) (pv 3) (fun _ _ => rfl))) rfl)
      (pss_one (ps_fld (pv 0) (pe_callTy call_tuple_of (by rfl) T.tup (by decide +kernel) (pa_cons (pe_callB cr_sortTk (by rfl) T.sorted (by decide +kernel) (pa_cons (pe_callTy (call_list_dT rfl) (by rfl) T.list (by decide +kernel) (pa_cons
          (pe_dcT (own := [("wish", 4)]) (g := gName 4) hu rfl nd (pi_or (pi_list (pv 2)) (pi_tup (pv 2))) (blkOk_by (N := nInit) (sc := defScope s_Catalogue_init) (by decide +kernel)) (fun _ _ _ _ _ => pg_name (i := 4) nd rfl (Or.inl rfl))
            (fun _ _ _ _ _ => pv 4) (fun _ _ _ _ _ => pe_bl)) pa_nil)) pa_nil)) pa_nil)) rfl)))))), ?_⟩
    have big : ∀ z : Str, IsNm z → z.length ≤ 1000 := fun z h => by have := h.most; omega
    have lk : (nkv ns rv).length = ns.length := by rw [List.length_map]
    have l1 : 1 ≤ ns.length := sr.one
    have l6 : ns.length ≤ 6 := sr.six
    -- sorts is a dict of so many
    refine ⟨_, rfl, _, _, _, _, true, rfl, .ty "dict", .base (.dK hd), kit_ty (by decide +kernel), true, rfl, iteF ?_⟩
    refine ⟨_, rfl, d, _, rfl, hd, _, _, rfl, rfl, true, congrArg V.bl (decide_eq_true (show (1 : Int) ≤ ((nkv ns rv).length : Int) by omega)), iteT ⟨_, _, rfl, rfl, true, congrArg V.bl (decide_eq_true (show ((nkv ns rv).length : Int) ≤ 6 by omega)), ?_⟩⟩
    refine iteF ?_
    -- names and ranges
    refine ⟨d, _, hd, trivial, fun od => ⟨_, rfl, d, od, rfl, .inl ⟨nkv ns rv, upd_same, fun L nL => ?_⟩⟩⟩
    have kt0 : KT H (upd H d (.frz od (.dK (nkv ns rv)))) := KT.upd fun ys e => by rw [hd] at e; cases e
    refine lc_it walk_keys (fun j H3 => H3 L = some (.lst (List.replicate j (V.bl true))) ∧ Same (upd H d (.frz od (.dK (nkv ns rv)))) H3) ⟨upd_same, same_new nL⟩ (fun j H3 _ h => h.2 _ _ upd_same) ?_ ?_
    · rintro j y H3 H3' hj ⟨h3, s3⟩ ⟨rfl, kk, v, hkv, rfl⟩
      obtain ⟨z, hz, rfl, rfl⟩ := nkv_get hkv
      have mz : z ∈ ns := List.mem_of_getElem? hz
      refine ⟨rfl, ?_⟩
      refine ⟨_, rfl, _, rfl, .inl ⟨z, rfl, big z (sr.nm z mz), fun H4 s4 => ⟨_, rfl, ?_⟩⟩⟩
      rw [(sr.nm z mz).b]
      refine iteT ?_
      obtain ⟨t, lo, hi, et, ht, hlh⟩ := (hrg z mz).kt (kt0.trans (KT.same (s3.trans s4)))
      have hd4 := (s3.trans s4) _ _ (upd_same (H := H) (a := d) (o := .frz od (.dK (nkv ns rv))))
      refine ⟨_, rfl, _, rfl, d, _, rfl, .inl ⟨_, _, .inr ⟨od, hd4⟩, rfl, (valV_nkv mz).symm⟩, t, lo, hi, (by rw [et]; rfl), ht, fun H5 s5 => ?_⟩
      rw [decide_eq_true hlh]
      refine ⟨_, (s4.trans s5) _ _ h3, ?_, ?_, updN (s3.trans (s4.trans s5)) nL⟩
      · rw [List.length_replicate]
        exact small1000 (by omega)
      · rw [upd_same]
        exact congrArg (fun l => some (HO.lst l)) (List.replicate_succ' ..).symm
    · rintro H3 ⟨h3, s3⟩
      refine ⟨s3 _ _ upd_same, ?_⟩
      have ndL : L ≠ d := fun e => by
        rw [e, upd_same] at nL
        cases nL
      have sA := unlock hd s3
      refine ⟨L, List.replicate (nkv ns rv).length true, rfl, SqL.of (by rw [upd_ne ndL, List.map_replicate]; exact h3), true, ?_, ?_⟩
      · congr 1
        rw [List.all_eq_true]
        exact fun b hb => (List.eq_of_mem_replicate hb)
      refine iteF ?_
      generalize hA : upd H3 d (.dK (nkv ns rv)) = HA at sA
      -- wishes is a list or a tuple of at most 20
      refine ⟨_, rfl, (by show 2 ≤ sizeLine; decide), fun tp ntp => ?_⟩
      have sB : Same H (upd HA tp (.tup [.ty "list", .ty "tuple"])) := sA.trans (same_new ntp)
      have hbB : SqL K (upd HA tp (.tup [.ty "list", .ty "tuple"])) b xs ∨ SqT K (upd HA tp (.tup [.ty "list", .ty "tuple"])) b xs := hb.imp sB.seq (sameT sB)
      have ty : ∃ t : String, TyX K (upd HA tp (.tup [.ty "list", .ty "tuple"])) (.ref b) (.type t) ∧ PySem.W.kitAny K (.type t) [.type "list", .type "tuple"] = some true := by
        rcases hbB with h | h
        · exact ⟨_, sqL_ty h, kitAny_cons (b := true) (kit_ty (by decide +kernel)) (fun q => nomatch q) (fun _ => rfl)⟩
        · exact ⟨_, sqT_ty h, kitAny_cons (b := false) (kit_ty (by decide +kernel)) (fun _ => kitAny_cons (b := true) (kit_ty (by decide +kernel)) (fun q => nomatch q) (fun _ => rfl)) (fun q => nomatch q)⟩
      obtain ⟨tyn, ty1, ty2⟩ := ty
      refine ⟨_, tp, _, _, _, true, rfl, upd_same, .cons (.ty "list") (.cons (.ty "tuple") .nil), ty1, ty2, true, rfl, iteF ?_⟩
      have lw : xs.length = ws.length := Pd.len htx
      have lw2 := sr.most
      refine ⟨_, rfl, _, xs.length, rfl, ?_, _, _, rfl, rfl, false, congrArg V.bl (decide_eq_false (show ¬ (20 : Int) < (xs.length : Int) by omega)), ?_⟩
      · rcases hbB with h | h
        · exact .inl ⟨_, h, rfl⟩
        · exact .inr ⟨_, h, rfl⟩
      refine iteF ?_
      generalize hB : upd HA tp (.tup [.ty "list", .ty "tuple"]) = HB at sB hbB
      -- each of them is a wish between the sorts
      refine seq_pi rfl hbB fun J G wk hG => fun M nM => ?_
      refine lc_it wk (fun j H3 => H3 M = some (.lst (List.replicate j (V.bl true))) ∧ Same HB H3) ⟨upd_same, same_new nM⟩ (fun j H3 _ h => hG H3 h.2) ?_ ?_
      · rintro j y H3 H3' hj ⟨h3, s3⟩ ⟨rfl, hy⟩
        obtain ⟨l, hl, htl⟩ := Pd.get htx hy
        obtain ⟨u, v, rfl, mu, mv, nuv⟩ := sr.prs l (List.mem_of_getElem? hl)
        have htl3 := htl.kt (KT.same (sB.trans s3))
        refine ⟨rfl, ?_⟩
        refine ⟨_, rfl, _, u, v, rfl, htl3, big u (sr.nm u mu), big v (sr.nm v mv), fun H4 s4 => ⟨_, rfl, ?_⟩⟩
        rw [(sr.nm u mu).b, (sr.nm v mv).b, decide_eq_true nuv]
        refine iteT ?_
        obtain ⟨t, rfl, ht⟩ := htl3.kt (KT.same s4)
        have hd4 := s4 _ _ (s3 _ _ (sB _ _ hd))
        refine ⟨_, rfl, t, _, _, .str u, rfl, rfl, SqT.of ht, rfl, _, rfl, d, _, rfl, DGet.k (k := Sum.inr u) hd4, true, ?_, ?_⟩
        · rw [valV_nkv mu]
          rfl
        refine iteT ?_
        refine ⟨_, rfl, t, _, _, .str v, rfl, rfl, SqT.of ht, rfl, _, rfl, d, _, rfl, DGet.k (k := Sum.inr v) hd4, ?_⟩
        rw [valV_nkv mv]
        refine ⟨_, s4 _ _ h3, ?_, ?_, updN (s3.trans s4) nM⟩
        · rw [List.length_replicate]
          exact small1000 (by omega)
        · rw [upd_same]
          exact congrArg (fun l => some (HO.lst l)) (List.replicate_succ' ..).symm
      · rintro H4 ⟨h4, s4⟩
        refine ⟨M, List.replicate xs.length true, rfl, SqL.of (by rw [List.map_replicate]; exact h4), true, ?_, ?_⟩
        · congr 1
          rw [List.all_eq_true]
          exact fun b hb => (List.eq_of_mem_replicate hb)
        refine iteF ?_
        have sC := sB.trans s4
        have hdC := sC _ _ hd
        -- self.ranges
        refine ⟨_, rfl, d, _, rfl, .inl hdC, fun l nl => ?_⟩
        have sD := sC.trans (same_new (o := .lst ((nkv ns rv).map fun kv => kV kv.1)) nl)
        refine ⟨l, ns, rfl, SqL.of (by rw [upd_same, nkv_keys]), by omega, fun ms q pm hs nq => ?_⟩
        have sE := sD.trans (same_new (o := .lst (ms.map V.str)) nq)
        refine ⟨q, rfl, ⟨_, SqL.of upd_same⟩, fun D nD => ?_⟩
        generalize hE : upd (upd H4 l (.lst ((nkv ns rv).map fun kv => kV kv.1))) q (.lst (ms.map V.str)) = HE at sE nD
        have hq : HE q = some (.lst (ms.map V.str)) := by rw [← hE]; exact upd_same
        have ndm : ms.Nodup := pm.nodup_iff.mpr sr.nd
        have lm : ms.length = ns.length := pm.length_eq
        refine dc_it (walk_list (K := K) (a := q) (xs := ms.map V.str)) (fun j H3 => H3 D = some (.dK (nkv (ms.take j) rv)) ∧ Same HE H3) ⟨upd_same, same_new nD⟩ (fun j H3 _ h => SqL.of (h.2 _ _ hq)) ?_ ?_
        · rintro j y H3 H3' hj ⟨h3, s3⟩ ⟨rfl, hy⟩
          rw [List.getElem?_map] at hy
          obtain ⟨z, hz, rfl⟩ := Option.map_eq_some_iff.mp hy
          have mz : z ∈ ns := pm.mem_iff.mp (List.mem_of_getElem? hz)
          have hd3 := s3 _ _ (sE _ _ hd)
          have nz : z ∉ ms.take j := fun q => by
            obtain ⟨i, hi, e⟩ := List.mem_iff_getElem.mp q
            rw [List.length_take] at hi
            rw [List.getElem_take] at e
            have hj' : j < ms.length := by rw [List.length_map] at hj; exact hj
            have e2 : ms[j] = z := Option.some.inj ((List.getElem?_eq_getElem hj').symm.trans hz)
            have := (List.getElem_inj (h₀ := by omega) (h₁ := hj') ndm).mp (e.trans e2.symm)
            omega
          refine ⟨rfl, ?_⟩
          refine ⟨_, rfl, _, rfl, _, rfl, d, _, rfl, (valV_nkv mz ▸ DGet.k (k := Sum.inr z) hd3 : DGet H3' d (.str z) (some (rv z))), nkv (ms.take j) rv, Sum.inr z, rfl, h3, ?_, ?_, updN s3 nD⟩
          · rw [List.length_map, List.length_take]
            exact small1000 (by omega)
          · rw [upd_same, putK_new _ (valV_nkv_none nz), take_succ_of hz, nkv, nkv, List.map_append]
            rfl
        · rintro H5 ⟨h5, s5⟩
          have sF := sE.trans s5
          rw [List.length_map, List.take_length] at h5
          have hx5 := sF _ _ hx
          refine ⟨_, rfl, x, C, dx, [], rfl, hx5, Ct.cl, Ct.nR, (by show 0 < 1000; decide), ?_⟩
          generalize hF : upd H5 x (.ins C dx (putF "ranges" (.ref D) [])) = HF
          have nbx : ∀ c o, H c = some o → (∀ C' dx' fs, o ≠ .ins C' dx' fs) → HF c = some o := fun c o e no => by
            rw [← hF, upd_ne (ne_of e hx (no _ _ _))]
            exact sF _ _ e
          have ktF : KT H HF := fun t ys e => nbx t _ e (fun _ _ _ q => by cases q)
          have hbF : SqL K HF b xs ∨ SqT K HF b xs := by
            rcases hb with ((h | ⟨o, h⟩) | h) | ((h | ⟨o, h⟩) | h)
            · exact .inl (.inl (.inl (nbx _ _ h (fun _ _ _ q => by cases q))))
            · exact .inl (.inl (.inr ⟨o, nbx _ _ h (fun _ _ _ q => by cases q)⟩))
            · exact .inl (.inr h)
            · exact .inr (.inl (.inl (nbx _ _ h (fun _ _ _ q => by cases q))))
            · exact .inr (.inl (.inr ⟨o, nbx _ _ h (fun _ _ _ q => by cases q)⟩))
            · exact .inr (.inr h)
          have nxD : x ≠ D := ne_of_none (sE _ _ hx) nD
          have hDF : HF D = some (.dK (nkv ms rv)) := by
            rw [← hF, upd_ne nxD.symm]
            exact h5
          have hxF : HF x = some (.ins C dx (putF "ranges" (.ref D) [])) := by
            rw [← hF]
            exact upd_same
          have chF : Ch x H HF := fun c o n e => by
            rw [← hF, upd_ne n]
            exact sF _ _ e
          -- self.pairs
          refine seq_pi rfl hbF fun J G wk hG => fun D2 nD2 => ?_
          refine dcT_it wk (fun j H3 => H3 D2 = some (.dT ((uq (ws.take j)).map kt1)) ∧ Same HF H3) ⟨upd_same, same_new nD2⟩ (fun j H3 _ h => hG H3 h.2) ?_ ?_
          · rintro j y H3 H3' hj ⟨h3, s3⟩ ⟨rfl, hy⟩
            obtain ⟨l, hl, htl⟩ := Pd.get htx hy
            obtain ⟨t, rfl, ht⟩ := htl.kt (ktF.trans (KT.same s3))
            have hul := uq_len (ws.take j) []
            rw [List.length_take] at hul
            refine ⟨rfl, _, rfl, _, l.map Sum.inr, t, rfl, (by rw [inr_kV]; exact ht), h3, ?_, ?_, updN s3 nD2⟩
            · rw [List.length_map]
              exact small1000 (by show (uq (ws.take j)).length ≤ 1000; unfold uq; simp at hul; omega)
            · rw [upd_same, putK_kt, take_succ_of hl, uq_snoc]
          · rintro H6 ⟨h6, s6⟩
            rw [Pd.len htx, List.take_length] at h6
            refine ⟨D2, _, rfl, .inl h6, fun l2 bs nl2 hk => ?_⟩
            have s7 := s6.trans (same_new (o := .lst (bs.map V.ref)) nl2)
            have ht7 : Txs (upd H6 l2 (.lst (bs.map V.ref))) (bs.map V.ref) (uq ws) := (keys_tks hk).kt (KT.same (same_new nl2))
            refine ⟨l2, bs.map V.ref, (uq ws).map (fun l => l.map Sum.inr), [true, true], rfl, SqL.of upd_same, ht7.tks, by simp, ?_, fun ys mk q2 pk up tk nq2 => ?_⟩
            · intro k hk
              obtain ⟨l, hl, rfl⟩ := List.mem_map.mp hk
              obtain ⟨u, v, rfl, _⟩ := sr.prs l (uq_mem.mp hl)
              rfl
            obtain ⟨ps, rfl, pp⟩ := perm_inv (fun k => k.map strOf) (fun l => strsOf_inr l) pk
            have s8 := s7.trans (same_new (o := .lst ys) nq2)
            have ht8 : Txs (upd (upd H6 l2 (.lst (bs.map V.ref))) q2 (.lst ys)) ys ps := (Tks.txs tk).kt (KT.same (same_new nq2))
            refine ⟨q2, ys, rfl, .inl ⟨SqL.of upd_same, fun p np => ?_⟩⟩
            generalize hG8 : upd (upd H6 l2 (.lst (bs.map V.ref))) q2 (.lst ys) = H8 at s8 ht8 np
            have s9 := s8.trans (same_new (o := .tup ys) np)
            have hx9 := s9 _ _ hxF
            have nxp : x ≠ p := ne_of_none (s8 _ _ hxF) np
            refine ⟨_, rfl, x, C, dx, _, rfl, hx9, Ct.cl, Ct.nP, (by show 1 < 1000; decide), ?_⟩
            have kt9 : KT (upd H8 p (.tup ys)) (upd (upd H8 p (.tup ys)) x (.ins C dx (putF "pairs" (.ref p) (putF "ranges" (.ref D) [])))) := KT.upd fun zs e => by rw [hx9] at e; cases e
            refine k _ ms ps pm pp ⟨⟨dx, D, p, ys, ?_, ?_, ?_, ?_⟩, hs, ⟨ndm, fun z h => sr.nm z (pm.mem_iff.mp h), by omega, by omega, fun l h => ?_, ?_⟩, fun z h => ?_, ?_, pp.nodup_iff.mpr (uq_nd ws)⟩ ?_
            · rw [catF_eq]
              exact upd_same
            · rw [upd_ne nxD.symm]
              exact s9 _ _ hDF
            · rw [upd_ne nxp.symm]
              exact upd_same
            · exact ht8.kt ((KT.same (same_new np)).trans kt9)
            · obtain ⟨u, v, e, mu, mv, n⟩ := sr.prs l (uq_mem.mp (pp.mem_iff.mp h))
              exact ⟨u, v, e, pm.mem_iff.mpr mu, pm.mem_iff.mpr mv, n⟩
            · have := uq_len ws []
              rw [pp.length_eq]
              show (ws.foldl addU []).length ≤ 20
              simp at this
              omega
            · exact (hrg z (pm.mem_iff.mp h)).kt ((ktF.trans (KT.same s9)).trans kt9)
            · rw [List.pairwise_map] at up
              exact up
            · exact fun c o n e => by
                rw [upd_ne n]
                exact s9 _ _ (chF c o n e)
end
end KA
set_option Elab.async false
set_option linter.all false
set_option maxRecDepth 100000
set_option maxHeartbeats 4000000
namespace KA
open PySem PySem.Spec PyProof.Rows L2
theorem nd_sub_len {α : Type} [DecidableEq α] : ∀ {l m : List α}, l.Nodup → (∀ x ∈ l, x ∈ m) → l.length ≤ m.length
  | [], _, _, _ => Nat.zero_le _
  | x :: l, m, h, s => by
    obtain ⟨h1, h2⟩ := List.nodup_cons.mp h
    have mx := s x (List.mem_cons_self ..)
    have ih := nd_sub_len (m := m.erase x) h2 fun y hy => (List.mem_erase_of_ne (show y ≠ x from fun e => h1 (e ▸ hy))).mpr (s y (List.mem_cons_of_mem _ hy))
    have := List.length_erase_of_mem mx
    have lp : 0 < m.length := List.length_pos_of_mem mx
    rw [List.length_cons]
    omega
theorem u65 {k : Nat} {A : Around} (r : Room k A) : A.units + 65 < cLine := by
  have := r.un
  omega
theorem atI_getLast {l : List Str} {x : Str} (h : l.getLast? = some x) : atI (l.map V.str) (-1) = some (.str x) := by
  obtain ⟨r, rfl⟩ : ∃ r, l = r ++ [x] := ⟨l.dropLast, by
    have h1 : l ≠ [] := fun e => by rw [e] at h; cases h
    have h2 := List.dropLast_concat_getLast h1
    rw [List.getLast?_eq_getLast h1] at h
    rw [← Option.some.inj h]
    exact h2.symm⟩
  rw [List.map_append]
  exact atI_last _ _
theorem ne_nil_tx {ls : List (List Str)} : (!PyData.eqv (.list (ls.map tD)) (.list [])) = !ls.isEmpty := by
  cases ls <;> simp [PyData.eqv, PyData.eqvAll]
theorem inV_strs (n : Str) (w : List Str) : inV (.str n) (w.map V.str) = decide (n ∈ w) := by
  unfold inV
  rw [List.any_map]
  induction w with
  | nil => simp
  | cons x r ih =>
    rw [List.any_cons, ih]
    by_cases e : x = n
    · subst e
      simp [eqV]
    · have e2 : ¬ n = x := fun q => e q.symm
      simp [eqV, e, e2]
theorem flat_strs (w : List Str) : (w.map V.str).all flatV = true := by
  rw [List.all_eq_true]
  intro x hx
  obtain ⟨z, _, rfl⟩ := List.mem_map.mp hx
  rfl
/-- an if by what its test leaves -/
theorem ifS {c : TT} {t u : TS} {D : Ends} {σ : L2.St} {H : Hp} (G : Bool → Hp → Prop) (hc : ∀ Q : Bool → Hp → Prop, (∀ b H1, G b H1 → Q b H1) → c σ H Q) (ht : ∀ H1, G true H1 → t D σ H1) (hu : ∀ H1, G false H1 → u D σ H1) : tIfS c t u D σ H :=
  hc _ fun b H1 g => by
    cases b with
    | true => exact iteT (ht H1 g)
    | false => exact iteF (hu H1 g)
/-- all but lists stand -/
def KN (H H' : Hp) : Prop := ∀ b o, H b = some o → (∀ l, o ≠ .lst l) → H' b = some o
theorem KN.same {H H' : Hp} (s : Same H H') : KN H H' := fun b o e _ => s b o e
theorem KN.trans {H H1 H2 : Hp} (a : KN H H1) (b : KN H1 H2) : KN H H2 := fun c o e n => b c o (a c o e n) n
theorem KN.ch {a : Addr} {H H' : Hp} (c : Ch a H H') {xs : List V} (h : H a = some (.lst xs)) : KN H H' := fun b o e n => c b o (fun z => n xs (by rw [z, h] at e; exact (Option.some.inj e).symm)) e
theorem KN.upd {H : Hp} {a : Addr} {xs : List V} {u : HO} (h : H a = some (.lst xs)) : KN H (L2.upd H a u) := fun b o e n => by
  rw [upd_ne (fun z => n xs (by rw [z, h] at e; exact (Option.some.inj e).symm))]
  exact e
theorem KN.kt {H H' : Hp} (k : KN H H') : KT H H' := fun t xs e => k t _ e (fun l q => by cases q)
theorem Cat.kn {C : Addr} {H H' : Hp} {x : Addr} {ns : List Str} {rv : Str → V} {ws : List (List Str)} (h : Cat C H x ns rv ws) (k : KN H H') : Cat C H' x ns rv ws := by
  obtain ⟨⟨dx, d, p, ys, h1, h2, h3, h4⟩, a, b, c, d', e⟩ := h
  exact ⟨⟨dx, d, p, ys, k _ _ h1 (fun l q => by cases q), k _ _ h2 (fun l q => by cases q), k _ _ h3 (fun l q => by cases q), h4.kt k.kt⟩, a, b, fun z hz => (c z hz).kt k.kt, d', e⟩
theorem same_ch {a : Addr} {Hc H H' : Hp} (s : Same Hc H) (n : Hc a = none) (c : Ch a H H') : Same Hc H' := fun b o e => c b o (ne_of_none e n) (s b o e)
theorem mem_ev {ns : List Str} {l : List Str} (h : l ∈ ev ns ns) : ∃ u v, l = [u, v] ∧ u ∈ ns ∧ v ∈ ns ∧ u ≠ v := by
  obtain ⟨u, hu, h⟩ := List.mem_flatMap.mp h
  obtain ⟨v, hv, rfl⟩ := List.mem_map.mp h
  obtain ⟨h1, h2⟩ := List.mem_filter.mp hv
  exact ⟨u, v, rfl, hu, h1, fun e => (of_decide_eq_true h2) e.symm⟩
theorem cut_to (xs : List V) (n : Nat) : cutV xs none (some (n : Int)) = xs.take n := by
  unfold cutV
  rw [HT.sIx_none, HT.sIx_nat, List.drop_zero, Nat.sub_zero]
  rcases Nat.le_total n xs.length with h | h
  · rw [Nat.min_eq_left h]
  · rw [Nat.min_eq_right h, List.take_of_length_le (Nat.le_refl _), List.take_of_length_le h]
/-- two rows of wishes with the same ones, each once, in order -/
theorem ws_one {ws ps qs : List (List Str)} (a : ps.Perm (uq ws)) (b : qs.Perm (uq ws.reverse)) (u1 : ps.Pairwise leT) (u2 : qs.Pairwise leT) : qs = ps := by
  refine sorted_one leT_anti ?_ u2 u1
  refine b.trans (List.Perm.trans ?_ a.symm)
  refine (List.perm_ext_iff_of_nodup (uq_nd _) (uq_nd _)).mpr fun l => ?_
  rw [uq_mem, uq_mem, List.mem_reverse]
theorem valV_out {acc : List (Key × V)} {k : Key} (h : k ∉ acc.map (·.1)) : valV acc k = none := by
  induction acc with
  | nil => rfl
  | cons p r ih =>
    rw [List.map_cons, List.mem_cons, not_or] at h
    rw [valV_neg (fun q => h.1 q.symm)]
    exact ih h.2
/-- the pairs of a dict from a list of them -/
theorem merge_app : ∀ (kvs acc : List (Key × V)), ((acc ++ kvs).map (·.1)).Nodup → mergeK acc kvs = acc ++ kvs
  | [], acc, _ => by rw [List.append_nil]; rfl
  | kv :: r, acc, h => by
    have e : acc ++ kv :: r = (acc ++ [kv]) ++ r := by simp
    have n : kv.1 ∉ acc.map (·.1) := fun q => by
      rw [List.map_append] at h
      exact (List.nodup_append.mp h).2.2 _ q _ (List.mem_map.mpr ⟨kv, List.mem_cons_self .., rfl⟩) rfl
    rw [e] at h ⊢
    rw [← merge_app r (acc ++ [kv]) h]
    show mergeK (putK acc kv.1 kv.2) r = _
    rw [putK_new _ (valV_out n)]
theorem nkv_of : ∀ {kvs : List (Key × V)} {ns : List Str}, kvs.map (·.1) = ns.map Sum.inr → ns.Nodup → ∃ rv : Str → V, kvs = nkv ns rv
  | [], [], _, _ => ⟨fun _ => .non, rfl⟩
  | [], _ :: _, h, _ => by simp at h
  | _ :: _, [], h, _ => by simp at h
  | (k, v) :: r, z :: ns, h, nd => by
    rw [List.map_cons, List.map_cons] at h
    injection h with h1 h2
    obtain ⟨n1, n2⟩ := List.nodup_cons.mp nd
    obtain ⟨rv, e⟩ := nkv_of h2 n2
    refine ⟨fun y => if y = z then v else rv y, ?_⟩
    have h1 : k = Sum.inr z := h1
    rw [nkv, List.map_cons, if_pos rfl, h1, e]
    congr 1
    refine List.map_congr_left fun y hy => ?_
    show (Sum.inr y, rv y) = (Sum.inr y, if y = z then v else rv y)
    rw [if_neg (show ¬ y = z from fun q => n1 (q ▸ hy))]
/-! ### calls by a keyword, properties -/
section
variable {P : Program} {w : World} {K : PySem.W.Frag} {mg : Str → Option Value} {base : Heap}
/-- one parameter, by its name -/
def ByName (fd : FuncData) (x : Str) : Prop := ∀ (s : Shared) (v : Value), BindsTo s fd ⟨[], [(x, v)]⟩ [(x, v)]
theorem pe_fnB {X : Cx} {k : Nat} {x y : Str} {p pos kp : Pos} {e : Expr} {te : TE} {sp : Sp} (F : Fn X.prog X.w X.K X.mg X.base x [y] k sp (fun fd => ByName fd y)) (hr : Room k X.A) (hg : Gl X x) (he : PE X e te) (hdb : (x == ("__debug__" : Str)) = false := by decide) :
    PE X (.Call (.Name x p) [] [⟨some y, e, kp⟩] pos) (tCall sp [] E0 (tCons te tNil)) := by
  obtain ⟨f, fd, g, kp', _, b, ok⟩ := F
  refine ⟨fun pins s σ H Q I h => ?_⟩
  refine wpAny_Call_Name_kw (ld_glob I hg g ?_ hdb)
  have pk : PK X [⟨some y, e, kp⟩] (tCons te tNil) := pk_cons he pk_nil
  refine PySem.W.callWith_KW0 (h₀ := X.base) I.ok.mod.kin kp' rfl (thn (pk.run pos pins s σ H _ I h) fun us s1 w1 => ?_) rfl
  obtain ⟨vs, H1, I1, r1, q1⟩ := w1
  refine ⟨I1.kIn, ?_⟩
  have q1 : sp (vs ++ []) H1 Q E0 := q1
  rw [List.append_nil] at q1
  have lv := ok.len _ _ _ _ q1
  cases r1 with
  | nil => cases lv
  | @cons v u _ _ ru r2 =>
    cases r2 with
    | cons _ _ => cases lv
    | nil =>
      refine wpAny_call (codeAny_mono (ok.run X.A X.stack s1 H1 ⟨[], [(y, u)]⟩ [u] [v] Q E0 hr I1.env0 (b s1 u) (.cons ru .nil) q1) fun r s' hq => ?_)
      cases r with
      | error e => exact False.elim hq
      | ok fl =>
        cases fl with
        | ret z => exact I1.after hq
        | next => exact False.elim hq
        | brk => exact False.elim hq
        | cont => exact False.elim hq
/-- a property of the class at C: its getter keeps a promise -/
def Gt (P : Program) (w : World) (K : PySem.W.Frag) (mg : Str → Option Value) (base : Heap) (C : Addr) (f : Str) (k : Nat) (sp : Sp) : Prop :=
  ∃ (p g : Addr) (fd : FuncData), PropOf K C f p g ∧ Binds K fd ["self"] [] ∧ FnOk P w K mg base CX0 k g fd ["self"] sp
def Dg (K : PySem.W.Frag) (C : Addr) (f qual : Str) (st : Stmt) : Prop := ∃ (p g : Addr) (fd : FuncData), PropOf K C f p g ∧ FunD K f qual (defArgs st) (defBody st) (defScope st) [] [] g fd ∧ Binds K fd ["self"] []
theorem pe_gt {X : Cx} {k : Nat} {C : Addr} {f : Str} {sp : Sp} {e : Expr} {pos : Pos} {ta : TE} (G : Gt X.prog X.w X.K X.mg X.base C f k sp) (he : PE X e ta) (c : Cls X.K C) (hr : Room (k + 1) X.A) (hab : attributeBase e f X.env (eval e X.env) = eval e X.env) :
    PE X (.Attribute e f pos) (tProp C sp [] E0 ta) := by
  obtain ⟨p, g, fd, h1, h2, h3⟩ := G
  exact pe_prop he c h1 h3 hr h2 .nil (fun _ _ _ _ _ _ _ q => q) hab
theorem scSorts : FnScope ["self", "sort"] ["self"] (defScope s_Catalogue_sorts) := ⟨rfl, rfl, rfl, by decide +kernel, rfl, by decide +kernel, by decide +kernel⟩
def spSorts (C : Addr) : Sp := fun vs H Q _ => ∃ (x : Addr) (ns : List Str) (rv : Str → V) (ws : List (List Str)), vs = [.ref x] ∧ Cat C H x ns rv ws ∧ ∀ q H', H q = none → H' q = some (.dK (nkv ns rv)) → Same H H' → Q (.ref q) H'
theorem ok_sorts {C : Addr} (D : Dg K C "sorts" "Catalogue.sorts" s_Catalogue_sorts) (Ct : CatT K mg C) : Gt P w K mg base C "sorts" 1 (spSorts C) := by
  obtain ⟨p, g, fd, h1, F, h2⟩ := D
  refine ⟨p, g, fd, h1, h2, F.ok scSorts (fun vs H Q E h => ?_) (fun cdv A outer s H vs Q E hr h => ?_)⟩
  · obtain ⟨_, _, _, _, rfl, _⟩ := h
    rfl
  · obtain ⟨x, ns, rv, ws, rfl, hc, k⟩ := h
    have nd := scSorts.nd
    have hu := hu_of hr
    refine ⟨_, PSs.nox (pss_one (ps_ret (pe_lock (pe_dc (own := [("sort", 1)]) (g := gName 1) (tt := tYes) rfl nd (pi_keys (pe_fld (pv 0) rfl)) (blkOk_by (N := ["self", "sort"]) (sc := defScope s_Catalogue_sorts) (by decide +kernel))
      (fun _ _ _ _ _ => pg_name (i := 1) nd rfl (Or.inl rfl)) (fun _ _ _ _ _ => pts_nil) (fun _ _ _ _ _ => pv 1) (fun _ _ _ _ _ => pe_dget hu (show PE _ _ (tFld K (tVar 0) "ranges") from pe_fld (pv 0) rfl) (pv 1) (fun _ _ => rfl)))))), ?_⟩
    obtain ⟨dx, d, p, ys, hx, hd, hp, hys⟩ := hc.at_
    have nxd : x ≠ d := ne_of hx hd (by intro z; cases z)
    have l6 := hc.ok.six
    refine ⟨d, _, hd, trivial, fun od => ?_⟩
    have hx0 : (upd H d (.frz od (.dK (nkv ns rv)))) x = some (.ins C dx (catF d p)) := by rw [upd_ne nxd]; exact hx
    refine ⟨_, rfl, x, C, dx, _, _, rfl, hx0, Ct.cl, Ct.nR, catF_r d p, d, od, rfl, .inl ⟨nkv ns rv, upd_same, fun D2 nD => ?_⟩⟩
    generalize hl0 : upd H d (.frz od (.dK (nkv ns rv))) = H0 at hx0 nD
    have hd0 : H0 d = some (.frz od (.dK (nkv ns rv))) := by rw [← hl0]; exact upd_same
    have ndD : D2 ≠ d := fun e => by
      rw [e, hd0] at nD
      cases nD
    refine dc_it walk_keys (fun j H3 => H3 D2 = some (.dK (nkv (ns.take j) rv)) ∧ Same H0 H3) ⟨upd_same, same_new nD⟩ (fun j H3 _ h => h.2 _ _ hd0) ?_ ?_
    · rintro j y H3 H3' hj ⟨h3, s3⟩ ⟨rfl, kk, v, hkv, rfl⟩
      obtain ⟨z, hz, rfl, rfl⟩ := nkv_get hkv
      have mz : z ∈ ns := List.mem_of_getElem? hz
      have hd3 := s3 _ _ hd0
      have nz : z ∉ ns.take j := fun q => by
        obtain ⟨i, hi, e⟩ := List.mem_iff_getElem.mp q
        rw [List.length_take] at hi
        rw [List.getElem_take] at e
        have hj' : j < ns.length := by rw [List.length_map] at hj; exact hj
        have e2 : ns[j] = z := Option.some.inj ((List.getElem?_eq_getElem hj').symm.trans hz)
        have := (List.getElem_inj (h₀ := by omega) (h₁ := hj') hc.ok.nd).mp (e.trans e2.symm)
        omega
      refine ⟨rfl, ?_⟩
      refine ⟨_, rfl, _, rfl, x, C, dx, _, _, rfl, s3 _ _ hx0, Ct.cl, Ct.nR, catF_r d p, _, rfl, d, _, rfl, .inl ⟨_, _, .inr ⟨od, hd3⟩, rfl, (valV_nkv mz).symm⟩, nkv (ns.take j) rv, Sum.inr z, rfl, h3, ?_, ?_, updN s3 nD⟩
      · rw [List.length_map, List.length_take]
        exact small1000 (by omega)
      · rw [upd_same, putK_new _ (valV_nkv_none nz), take_succ_of hz, nkv, nkv, List.map_append]
        rfl
    · rintro H3 ⟨h3, s3⟩
      rw [List.length_map, List.take_length] at h3
      refine ⟨s3 _ _ hd0, k D2 _ ?_ ?_ (unlock hd (hl0 ▸ s3))⟩
      · rw [← hl0, upd_ne ndD] at nD
        exact nD
      · rw [upd_ne ndD]
        exact h3
end
section
variable {K : PySem.W.Frag} {mg : Str → Option Value}
theorem Df.any {x : Str} {st : Stmt} {ps : List Str} {B : FuncData → Prop} (D : Df K mg x st ps B) : Df K mg x st ps := by
  obtain ⟨f, fd, h1, h2, h3, _⟩ := D
  exact ⟨f, fd, h1, h2, h3, trivial⟩
end
end KA
set_option Elab.async false
set_option linter.all false
set_option maxRecDepth 100000
set_option maxHeartbeats 4000000
namespace KA
open PySem PySem.Spec PyProof.Rows L2
/-! ### rings as cycles; what ring_sets computes -/
def ltS (a b : Str) : Prop := a.cps.toList < b.cps.toList
instance (a b : Str) : Decidable (ltS a b) := inferInstanceAs (Decidable (a.cps.toList < b.cps.toList))
theorem leS_iff {a b : Str} : leS a b ↔ ¬ ltS b a := by
  show decide (b.cps.toList < a.cps.toList) = false ↔ _
  rw [decide_eq_false_iff_not]
  rfl
theorem ltS_iff {a b : Str} : ltS a b ↔ leS a b ∧ a ≠ b := by
  refine ⟨fun h => ⟨leS_iff.mpr fun q => List.lt_asymm h q, fun e => ?_⟩, fun h => ?_⟩
  · rw [e] at h
    exact List.lt_irrefl _ h
  · exact Decidable.byContradiction fun q => h.2 (leS_anti h.1 (leS_iff.mpr q))
theorem ltS_trans {a b c : Str} (h1 : ltS a b) (h2 : ltS b c) : ltS a c := List.lt_trans h1 h2
abbrev Asc (l : List Str) : Prop := l.Pairwise ltS
theorem Asc.nd {l : List Str} (h : Asc l) : l.Nodup := h.imp fun q => (ltS_iff.mp q).2
theorem asc_of {l : List Str} (h : sortedS l = true) (n : l.Nodup) : Asc l := (sortedS_up h).imp₂ (fun _ _ a b => ltS_iff.mpr ⟨a, b⟩) n
/-- the same ones, ascending -/
theorem asc_eq {l m : List Str} (h1 : Asc l) (h2 : Asc m) (s : ∀ x ∈ l, x ∈ m) (e : m.length ≤ l.length) : l = m := by
  have s2 : ∀ x ∈ m, x ∈ l := fun x hx => Decidable.byContradiction fun q => by
    have := nd_sub_len (l := x :: l) (m := m) (List.nodup_cons.mpr ⟨q, h1.nd⟩) fun y hy => by
      rcases List.mem_cons.mp hy with e | hy
      · exact e ▸ hx
      · exact s y hy
    rw [List.length_cons] at this
    omega
  exact sorted_one (fun _ _ => leS_anti) ((List.perm_ext_iff_of_nodup h1.nd h2.nd).mpr fun x => ⟨s x, s2 x⟩) (h1.imp fun q => (ltS_iff.mp q).1) (h2.imp fun q => (ltS_iff.mp q).1)
/-! sets of names -/
def nxt (row : List Str) (n : Str) : Bool := match row.getLast? with
  | some l => decide (ltS l n)
  | none => true
def lng (ns : List Str) (rows : List (List Str)) : List (List Str) := rows.flatMap fun row => (ns.filter (nxt row)).map fun n => row ++ [n]
def lvl (ns : List Str) : Nat → List (List Str)
  | 0 => [[]]
  | k + 1 => lng ns (lvl ns k)
def sts (ns : List Str) : Nat → List (List Str)
  | 0 => []
  | k + 1 => sts ns k ++ lvl ns (k + 1)
theorem asc_snoc {r : List Str} {n : Str} : Asc (r ++ [n]) ↔ Asc r ∧ nxt r n = true := by
  unfold Asc
  rw [List.pairwise_append]
  unfold nxt
  cases h : r.getLast? with
  | none =>
    rw [List.getLast?_eq_none_iff] at h
    subst h
    simp
  | some l =>
    obtain ⟨q, rfl⟩ : ∃ q, r = q ++ [l] := by
      rw [List.getLast?_eq_some_iff] at h
      exact h
    simp only [decide_eq_true_eq]
    constructor
    · rintro ⟨h1, _, h2⟩
      exact ⟨h1, h2 l (by simp) n (by simp)⟩
    · rintro ⟨h1, h2⟩
      refine ⟨h1, List.pairwise_singleton .., fun x hx y hy => ?_⟩
      rw [List.mem_singleton.mp hy]
      rcases List.mem_append.mp hx with hx | hx
      · exact ltS_trans ((List.pairwise_append.mp h1).2.2 x hx l (List.mem_singleton_self _)) h2
      · rw [List.mem_singleton.mp hx]
        exact h2
theorem snoc_of {r : List Str} {k : Nat} (h : r.length = k + 1) : ∃ q n, r = q ++ [n] ∧ q.length = k := by
  have e := List.dropLast_concat_getLast (l := r) (fun z => by rw [z] at h; cases h)
  exact ⟨r.dropLast, _, e.symm, by rw [List.length_dropLast]; omega⟩
theorem mem_lng {ns : List Str} {rows : List (List Str)} {v : List Str} : v ∈ lng ns rows ↔ ∃ r ∈ rows, ∃ n ∈ ns, nxt r n = true ∧ v = r ++ [n] := by
  unfold lng
  simp only [List.mem_flatMap, List.mem_map, List.mem_filter]
  constructor
  · rintro ⟨r, h1, n, ⟨h2, h3⟩, rfl⟩
    exact ⟨r, h1, n, h2, h3, rfl⟩
  · rintro ⟨r, h1, n, h2, h3, rfl⟩
    exact ⟨r, h1, n, ⟨h2, h3⟩, rfl⟩
theorem mem_lvl {ns : List Str} : ∀ {k : Nat} {v : List Str}, v ∈ lvl ns k ↔ v.length = k ∧ Asc v ∧ ∀ x ∈ v, x ∈ ns
  | 0, v => by
    show v ∈ [[]] ↔ _
    rw [List.mem_singleton, List.length_eq_zero_iff]
    exact ⟨fun h => ⟨h, by rw [h]; exact .nil, by rw [h]; exact fun _ q => nomatch q⟩, fun h => h.1⟩
  | k + 1, v => by
    show v ∈ lng ns (lvl ns k) ↔ _
    rw [mem_lng]
    constructor
    · rintro ⟨r, h1, n, h2, h3, rfl⟩
      obtain ⟨e1, e2, e3⟩ := mem_lvl.mp h1
      refine ⟨by rw [List.length_append, e1]; rfl, asc_snoc.mpr ⟨e2, h3⟩, fun x hx => ?_⟩
      rcases List.mem_append.mp hx with hx | hx
      · exact e3 x hx
      · exact (List.mem_singleton.mp hx) ▸ h2
    · rintro ⟨h1, h2, h3⟩
      obtain ⟨q, n, rfl, lq⟩ := snoc_of h1
      obtain ⟨a, b⟩ := asc_snoc.mp h2
      exact ⟨q, mem_lvl.mpr ⟨lq, a, fun x hx => h3 x (List.mem_append_left _ hx)⟩, n, h3 n (by simp), b, rfl⟩
theorem mem_sts {ns : List Str} : ∀ {k : Nat} {v : List Str}, v ∈ sts ns k ↔ v ≠ [] ∧ v.length ≤ k ∧ Asc v ∧ ∀ x ∈ v, x ∈ ns
  | 0, v => by
    exact ⟨(fun h => nomatch h), fun h => absurd (List.length_eq_zero_iff.mp (Nat.le_zero.mp h.2.1)) h.1⟩
  | k + 1, v => by
    show v ∈ sts ns k ++ lvl ns (k + 1) ↔ _
    rw [List.mem_append, mem_sts, mem_lvl]
    constructor
    · rintro (⟨h1, h2, h3⟩ | ⟨h1, h2⟩)
      · exact ⟨h1, by omega, h3⟩
      · exact ⟨(fun z => by rw [z] at h1; cases h1), by omega, h2⟩
    · rintro ⟨h1, h2, h3⟩
      by_cases q : v.length ≤ k
      · exact .inl ⟨h1, q, h3⟩
      · exact .inr ⟨by omega, h3⟩
theorem lng_nd {ns : List Str} (hn : ns.Nodup) : ∀ {rows : List (List Str)}, rows.Nodup → (lng ns rows).Nodup
  | [], _ => .nil
  | r :: rows, h => by
    obtain ⟨h1, h2⟩ := List.nodup_cons.mp h
    show ((ns.filter (nxt r)).map (fun n => r ++ [n]) ++ lng ns rows).Nodup
    refine List.nodup_append.mpr ⟨?_, lng_nd hn h2, fun a ha b hb e => ?_⟩
    · refine List.Pairwise.map _ (fun x y q e => q ?_) (hn.filter (nxt r))
      have := List.append_cancel_left e
      injection this
    · obtain ⟨n, _, rfl⟩ := List.mem_map.mp ha
      obtain ⟨r', h3, n', _, _, e'⟩ := mem_lng.mp hb
      rw [e'] at e
      have := congrArg List.dropLast e
      simp only [List.dropLast_concat] at this
      exact h1 (this ▸ h3)
theorem lvl_nd {ns : List Str} (hn : ns.Nodup) : ∀ k, (lvl ns k).Nodup
  | 0 => List.pairwise_singleton ..
  | k + 1 => lng_nd hn (lvl_nd hn k)
theorem sts_nd {ns : List Str} (hn : ns.Nodup) : ∀ k, (sts ns k).Nodup
  | 0 => .nil
  | k + 1 => List.nodup_append.mpr ⟨sts_nd hn k, lvl_nd hn _, fun a ha b hb e => by
      have h1 := (mem_sts.mp ha).2.1
      have h2 := (mem_lvl.mp hb).1
      rw [e] at h1
      omega⟩
theorem pw_all {α : Type} {R : α → α → Prop} : ∀ {l : List α}, (∀ a ∈ l, ∀ b ∈ l, R a b) → l.Pairwise R
  | [], _ => .nil
  | x :: l, h => List.pairwise_cons.mpr ⟨fun y hy => h x (List.mem_cons_self ..) y (List.mem_cons_of_mem _ hy), pw_all fun a ha b hb => h a (List.mem_cons_of_mem _ ha) b (List.mem_cons_of_mem _ hb)⟩
theorem sts_up {ns : List Str} : ∀ k, (sts ns k).Pairwise fun a b => a.length ≤ b.length
  | 0 => .nil
  | k + 1 => List.pairwise_append.mpr ⟨sts_up k, pw_all fun a ha b hb => by rw [(mem_lvl.mp ha).1, (mem_lvl.mp hb).1]; exact Nat.le_refl _, fun a ha b hb => by
      have h1 := (mem_sts.mp ha).2.1
      have h2 := (mem_lvl.mp hb).1
      omega⟩
/-! cycles -/
section
variable {ws : List (List Str)}
def Chn (ws : List (List Str)) : List Str → Prop
  | x :: y :: r => [x, y] ∈ ws ∧ Chn ws (y :: r)
  | _ => True
theorem chn_app : ∀ {a b : List Str}, Chn ws (a ++ b) ↔ Chn ws a ∧ Chn ws b ∧ ∀ x y, a.getLast? = some x → b.head? = some y → [x, y] ∈ ws
  | [], b => by simp [Chn]
  | [x], [] => by simp [Chn]
  | [x], y :: r => by
    simp only [Chn, List.singleton_append, true_and, List.getLast?_singleton, List.head?_cons, Option.some.injEq]
    exact ⟨fun ⟨h1, h2⟩ => ⟨h2, fun _ _ e f => e ▸ f ▸ h1⟩, fun ⟨h1, h2⟩ => ⟨h2 _ _ rfl rfl, h1⟩⟩
  | x :: x' :: a, b => by
    have ih := chn_app (a := x' :: a) (b := b)
    show ([x, x'] ∈ ws ∧ Chn ws (x' :: a ++ b)) ↔ ([x, x'] ∈ ws ∧ Chn ws (x' :: a)) ∧ _
    rw [ih, List.getLast?_cons_cons, and_assoc]
structure Cyc (ws : List (List Str)) (v : List Str) : Prop where
  ne : v ≠ []
  nd : v.Nodup
  chn : Chn ws v
  clo : ∀ x y, v.getLast? = some x → v.head? = some y → [x, y] ∈ ws
theorem Cyc.rot {a b : List Str} (h : Cyc ws (a ++ b)) : Cyc ws (b ++ a) := by
  cases a with
  | nil => simpa using h
  | cons x a =>
    cases b with
    | nil => simpa using h
    | cons y b =>
      obtain ⟨h1, h2, h3⟩ := chn_app.mp h.chn
      refine ⟨by simp, (List.perm_append_comm.nodup_iff).mp h.nd, chn_app.mpr ⟨h2, h1, fun p q hp hq => h.clo p q ?_ ?_⟩, fun p q hp hq => h3 p q ?_ ?_⟩
      · rw [List.getLast?_append, hp]
        rfl
      · exact hq
      · rw [List.getLast?_append] at hp
        cases e : (x :: a).getLast? with
        | none => simp at e
        | some z =>
          rw [e] at hp
          exact hp
      · exact hq
theorem Cyc.from {v : List Str} {m : Str} (h : Cyc ws v) (hm : m ∈ v) : ∃ v', Cyc ws v' ∧ v'.head? = some m ∧ v'.Perm v := by
  obtain ⟨a, b, rfl⟩ := List.append_of_mem hm
  exact ⟨(m :: b) ++ a, h.rot, rfl, List.perm_append_comm⟩
theorem Cyc.pred {v : List Str} {x : Str} (h : Cyc ws v) (hx : x ∈ v) : ∃ p ∈ v, [p, x] ∈ ws := by
  obtain ⟨v', h', hh, pm⟩ := h.from hx
  obtain ⟨y, hy⟩ : ∃ y, v'.getLast? = some y := ⟨_, List.getLast?_eq_getLast h'.ne⟩
  exact ⟨y, pm.mem_iff.mp (List.mem_of_getLast? hy), h'.clo _ _ hy hh⟩
theorem cyc_of {left : List Str} (hp : ∀ x ∈ left, ∃ p ∈ left, [p, x] ∈ ws) : ∀ (n : Nat) (v : List Str), v ≠ [] → v.Nodup → Chn ws v → (∀ x ∈ v, x ∈ left) → left.length ≤ v.length + n → ∃ v, Cyc ws v ∧ ∀ x ∈ v, x ∈ left
  | n, v, ne, nd, ch, sub, hl => by
    cases v with
    | nil => exact absurd rfl ne
    | cons h r =>
      obtain ⟨p, hp1, hp2⟩ := hp h (sub h (List.mem_cons_self ..))
      by_cases q : p ∈ h :: r
      · obtain ⟨a, b, e⟩ := List.append_of_mem q
        have e2 : h :: r = (a ++ [p]) ++ b := by rw [e]; simp
        rw [e2] at nd ch
        have hd : (a ++ [p]).head? = some h := by
          cases a with
          | nil =>
            rw [List.nil_append] at e
            injection e with e
            rw [e]
            rfl
          | cons z a =>
            rw [List.cons_append] at e
            injection e with e
            rw [e]
            rfl
        refine ⟨a ++ [p], ⟨by simp, (List.nodup_append.mp nd).1, (chn_app.mp ch).1, fun x y hx hy => ?_⟩, fun x hx => sub x (by rw [e2]; exact List.mem_append_left _ hx)⟩
        rw [hd] at hy
        rw [List.getLast?_concat] at hx
        injection hx with hx
        injection hy with hy
        rw [← hx, ← hy]
        exact hp2
      · have nd2 : (p :: h :: r).Nodup := List.nodup_cons.mpr ⟨q, nd⟩
        have sub2 : ∀ x ∈ p :: h :: r, x ∈ left := fun x hx => by
          rcases List.mem_cons.mp hx with e | hx
          · exact e ▸ hp1
          · exact sub x hx
        have := nd_sub_len nd2 sub2
        cases n with
        | zero => simp at this hl; omega
        | succ n => exact cyc_of hp n (p :: h :: r) (by simp) nd2 ⟨hp2, ch⟩ sub2 (by simp at hl ⊢; omega)
end
end KA
set_option Elab.async false
set_option linter.all false
set_option maxRecDepth 100000
set_option maxHeartbeats 4000000
namespace KA
open PySem PySem.Spec PyProof.Rows L2
section
variable (ws : List (List Str))
/-! ### is_ringless -/
def kpt (left : List Str) : List Str := left.filter fun n => left.any fun o => decide ([o, n] ∈ ws)
def rgl : Nat → List Str → Bool
  | 0, _ => true
  | k + 1, left => if left = [] then true else if (kpt ws left).length = left.length then false else rgl k (kpt ws left)
variable {ws}
theorem rgl_iff : ∀ {k : Nat} {left : List Str}, left.length < k → (rgl ws k left = false ↔ ∃ v, Cyc ws v ∧ ∀ x ∈ v, x ∈ left)
  | 0, _, h => absurd h (Nat.not_lt_zero _)
  | k + 1, left, h => by
    unfold rgl
    by_cases e : left = []
    · rw [if_pos e, e]
      refine ⟨(fun q => nomatch q), fun ⟨v, c, s⟩ => ?_⟩
      cases v with
      | nil => exact absurd rfl c.ne
      | cons x r => exact nomatch (s x (List.mem_cons_self ..))
    · rw [if_neg e]
      by_cases f : (kpt ws left).length = left.length
      · rw [if_pos f]
        refine ⟨fun _ => ?_, fun _ => rfl⟩
        have all : ∀ x ∈ left, ∃ p ∈ left, [p, x] ∈ ws := fun x hx => by
          have := List.length_filter_eq_length_iff.mp f x hx
          obtain ⟨p, h1, h2⟩ := List.any_eq_true.mp this
          exact ⟨p, h1, of_decide_eq_true h2⟩
        cases left with
        | nil => exact absurd rfl e
        | cons x r => exact cyc_of all (x :: r).length [x] (by simp) (List.pairwise_singleton ..) trivial (fun y hy => by rw [List.mem_singleton.mp hy]; exact List.mem_cons_self ..) (by omega)
      · rw [if_neg f]
        have lt : (kpt ws left).length < left.length := Nat.lt_of_le_of_ne (List.length_filter_le _ _) f
        rw [rgl_iff (by omega)]
        refine ⟨fun ⟨v, c, s⟩ => ⟨v, c, fun x hx => (List.mem_filter.mp (s x hx)).1⟩, fun ⟨v, c, s⟩ => ⟨v, c, fun x hx => ?_⟩⟩
        obtain ⟨p, h1, h2⟩ := c.pred hx
        exact List.mem_filter.mpr ⟨s x hx, List.any_eq_true.mpr ⟨p, s p h1, decide_eq_true h2⟩⟩
/-! ### _law_is_round -/
variable (ws)
def lst (row : List Str) (n : Str) : Bool := match row.getLast? with
  | some l => decide ([l, n] ∈ ws)
  | none => false
def rws (ns : List Str) (rows : List (List Str)) : List (List Str) := rows.flatMap fun row => (ns.filter fun n => decide (n ∉ row) && lst ws row n).map fun n => row ++ [n]
def wys (ns : List Str) : Nat → List (List Str)
  | 0 => [ns.take 1]
  | k + 1 => rws ws ns (wys ns k)
def cls (v : List Str) : Bool := match v.head? with
  | some y => lst ws v y
  | none => false
def rnd (ns : List Str) : Bool := decide (1 < ns.length) && (wys ws ns (ns.length - 1)).any (cls ws)
variable {ws}
theorem mem_wys {s : Str} {r : List Str} : ∀ {k : Nat} {v : List Str}, v ∈ wys ws (s :: r) k ↔ v.length = k + 1 ∧ v.head? = some s ∧ v.Nodup ∧ Chn ws v ∧ ∀ x ∈ v, x ∈ s :: r
  | 0, v => by
    show v ∈ [[s]] ↔ _
    rw [List.mem_singleton]
    constructor
    · rintro rfl
      exact ⟨rfl, rfl, List.pairwise_singleton .., trivial, fun x hx => by rw [List.mem_singleton.mp hx]; exact List.mem_cons_self ..⟩
    · rintro ⟨h1, h2, _⟩
      match v, h1, h2 with
      | [x], _, h2 => injection h2 with h2; rw [h2]
  | k + 1, v => by
    show v ∈ rws ws (s :: r) (wys ws (s :: r) k) ↔ _
    unfold rws
    simp only [List.mem_flatMap, List.mem_map, List.mem_filter, Bool.and_eq_true, decide_eq_true_eq]
    constructor
    · rintro ⟨q, h1, n, ⟨h2, h3, h4⟩, rfl⟩
      obtain ⟨e1, e2, e3, e4, e5⟩ := mem_wys.mp h1
      refine ⟨by rw [List.length_append, e1]; rfl, by rw [List.head?_append, e2]; rfl, List.nodup_append.mpr ⟨e3, List.pairwise_singleton .., fun a ha b hb e => h3 ?_⟩, chn_app.mpr ⟨e4, trivial, fun x y hx hy => ?_⟩, fun x hx => ?_⟩
      · rw [← List.mem_singleton.mp hb, ← e]
        exact ha
      · unfold lst at h4
        rw [hx] at h4
        injection hy with hy
        rw [← hy]
        exact of_decide_eq_true h4
      · rcases List.mem_append.mp hx with hx | hx
        · exact e5 x hx
        · exact (List.mem_singleton.mp hx) ▸ h2
    · rintro ⟨h1, h2, h3, h4, h5⟩
      obtain ⟨q, n, rfl, lq⟩ := snoc_of h1
      obtain ⟨c1, _, c3⟩ := chn_app.mp h4
      obtain ⟨d1, _, d3⟩ := List.nodup_append.mp h3
      have qne : q ≠ [] := fun z => by rw [z] at lq; cases lq
      refine ⟨q, mem_wys.mpr ⟨lq, ?_, d1, c1, fun x hx => h5 x (List.mem_append_left _ hx)⟩, n, ⟨h5 n (by simp), fun z => d3 n z n (by simp) rfl, ?_⟩, rfl⟩
      · cases q with
        | nil => exact absurd rfl qne
        | cons x q => exact h2
      · unfold lst
        rw [List.getLast?_eq_getLast qne]
        exact decide_eq_true (c3 _ n (List.getLast?_eq_getLast qne) rfl)
theorem cls_iff {v : List Str} (ne : v ≠ []) : cls ws v = true ↔ ∀ x y, v.getLast? = some x → v.head? = some y → [x, y] ∈ ws := by
  cases v with
  | nil => exact absurd rfl ne
  | cons s r =>
    show lst ws (s :: r) s = true ↔ _
    unfold lst
    have e := List.getLast?_eq_getLast (l := s :: r) (by simp)
    rw [e]
    refine ⟨fun h x y hx hy => ?_, fun h => decide_eq_true (h _ _ rfl rfl)⟩
    injection hx with hx
    injection hy with hy
    rw [← hx, ← hy]
    exact of_decide_eq_true h
theorem rnd_iff {ns : List Str} : rnd ws ns = true ↔ 1 < ns.length ∧ ∃ v, Cyc ws v ∧ v.head? = ns.head? ∧ v.length = ns.length ∧ ∀ x ∈ v, x ∈ ns := by
  unfold rnd
  rw [Bool.and_eq_true, decide_eq_true_eq, List.any_eq_true]
  cases ns with
  | nil => simp
  | cons s r =>
    refine and_congr_right fun h => ?_
    constructor
    · rintro ⟨v, h1, h2⟩
      obtain ⟨e1, e2, e3, e4, e5⟩ := mem_wys.mp h1
      have ne : v ≠ [] := fun z => by rw [z] at e2; cases e2
      exact ⟨v, ⟨ne, e3, e4, (cls_iff ne).mp h2⟩, e2, by omega, e5⟩
    · rintro ⟨v, c, h1, h2, h3⟩
      exact ⟨v, mem_wys.mpr ⟨by omega, h1, c.nd, c.chn, h3⟩, (cls_iff c.ne).mpr c.clo⟩
/-! ### ring sets -/
variable (ws)
def sub (a b : List Str) : Bool := (a.filter fun n => decide (n ∉ b)).isEmpty
def rstep (found : List (List Str)) (names : List Str) : List (List Str) := if (found.filter fun one => sub one names).isEmpty = true ∧ rgl ws (names.length + 1) names = false then found ++ [names] else found
def rsets (sets : List (List Str)) : List (List Str) := sets.foldl (rstep ws) []
def minR (rounds : List (List Str)) (row : List Str) : Bool := ((rounds.filter fun l => decide (l.length < row.length)).filter fun l => sub l row).isEmpty
def dues (sets : List (List Str)) : List (List Str) := (sets.filter (rnd ws)).filter (minR (sets.filter (rnd ws)))
variable {ws}
theorem sub_iff {a b : List Str} : sub a b = true ↔ ∀ x ∈ a, x ∈ b := by
  unfold sub
  rw [List.isEmpty_iff, List.filter_eq_nil_iff]
  simp
theorem minR_iff {rounds : List (List Str)} {row : List Str} : minR rounds row = true ↔ ∀ l ∈ rounds, l.length < row.length → ¬ ∀ x ∈ l, x ∈ row := by
  unfold minR
  rw [List.isEmpty_iff, List.filter_eq_nil_iff]
  simp only [List.mem_filter, decide_eq_true_eq, sub_iff, and_imp]
theorem rings_same {ms : List Str} (asc : Asc ms) (hw : ∀ l ∈ ws, ∃ u v, l = [u, v] ∧ u ≠ v) : rsets ws (sts ms ms.length) = dues ws (sts ms ms.length) := by
  generalize hS : sts ms ms.length = S
  have memS : ∀ v, v ∈ S ↔ v ≠ [] ∧ Asc v ∧ ∀ x ∈ v, x ∈ ms := fun v => by
    rw [← hS, mem_sts]
    exact ⟨fun ⟨a, _, b⟩ => ⟨a, b⟩, fun ⟨a, b, c⟩ => ⟨a, nd_sub_len b.nd c, b, c⟩⟩
  have ndS : S.Nodup := hS ▸ sts_nd asc.nd _
  have upS : S.Pairwise fun a b => a.length ≤ b.length := hS ▸ sts_up _
  generalize hR : S.filter (rnd ws) = rounds
  have memR : ∀ v, v ∈ rounds ↔ v ∈ S ∧ rnd ws v = true := fun v => by rw [← hR, List.mem_filter]
  -- a ring among names is a round set within them
  have f1 : ∀ names ∈ S, rgl ws (names.length + 1) names = false → ∃ r ∈ rounds, ∀ x ∈ r, x ∈ names := fun names hn h => by
    obtain ⟨v, c, s⟩ := (rgl_iff (Nat.lt_succ_self _)).mp h
    obtain ⟨_, _, n3⟩ := (memS names).mp hn
    have mr : ∀ x, x ∈ ms.filter (fun n => decide (n ∈ v)) ↔ x ∈ v := fun x => by
      rw [List.mem_filter, decide_eq_true_eq]
      exact ⟨fun q => q.2, fun q => ⟨n3 x (s x q), q⟩⟩
    have ar : Asc (ms.filter fun n => decide (n ∈ v)) := asc.filter _
    have pm : (ms.filter fun n => decide (n ∈ v)).Perm v := (List.perm_ext_iff_of_nodup ar.nd c.nd).mpr mr
    generalize ms.filter (fun n => decide (n ∈ v)) = r at mr ar pm
    have lr := pm.length_eq
    have l1 : 1 < v.length := by
      match v, c with
      | [], c => exact absurd rfl c.ne
      | [x], c =>
        obtain ⟨u, w, e, ne⟩ := hw _ (c.clo x x rfl rfl)
        injection e with e1 e
        injection e with e2
        exact absurd (e1.symm.trans e2) ne
      | _ :: _ :: _, _ => simp
    cases r with
    | nil => simp at lr; omega
    | cons m r =>
      obtain ⟨v', c', hd, pv⟩ := c.from ((mr m).mp (List.mem_cons_self ..))
      refine ⟨m :: r, (memR _).mpr ⟨(memS _).mpr ⟨by simp, ar, fun x hx => n3 x (s x ((mr x).mp hx))⟩, rnd_iff.mpr ⟨by omega, v', c', hd, by rw [pv.length_eq, lr], fun x hx => (mr x).mpr (pv.mem_iff.mp hx)⟩⟩, fun x hx => s x ((mr x).mp hx)⟩
  have f2 : ∀ r ∈ rounds, ∀ names, (∀ x ∈ r, x ∈ names) → rgl ws (names.length + 1) names = false := fun r hr names s => by
    obtain ⟨_, v, c, _, _, h⟩ := rnd_iff.mp ((memR r).mp hr).2
    exact (rgl_iff (Nat.lt_succ_self _)).mpr ⟨v, c, fun x hx => s x (h x hx)⟩
  -- a least one within each
  have f3 : ∀ (n : Nat) (r : List Str), r.length ≤ n → r ∈ rounds → ∃ q ∈ rounds, minR rounds q = true ∧ (∀ x ∈ q, x ∈ r) := fun n => by
    induction n with
    | zero =>
      intro r hl hr
      exact absurd (List.length_eq_zero_iff.mp (Nat.le_zero.mp hl)) ((memS r).mp ((memR r).mp hr).1).1
    | succ n ih =>
      intro r hl hr
      by_cases q : minR rounds r = true
      · exact ⟨r, hr, q, fun _ h => h⟩
      · have : ∃ l ∈ rounds, l.length < r.length ∧ ∀ x ∈ l, x ∈ r := Classical.byContradiction fun z => q (minR_iff.mpr fun l h1 h2 h3 => z ⟨l, h1, h2, h3⟩)
        obtain ⟨l, h1, h2, h3⟩ := this
        obtain ⟨q, q1, q2, q3⟩ := ih l (by omega) h1
        exact ⟨q, q1, q2, fun x hx => h3 x (q3 x hx)⟩
  have dS : (sts ms ms.length).filter (rnd ws) = rounds := by rw [hS, hR]
  unfold dues
  rw [hR, ← hR, List.filter_filter, hR]
  have key : ∀ i, i ≤ S.length → rsets ws (S.take i) = (S.take i).filter fun a => minR rounds a && rnd ws a := fun i => by
    induction i with
    | zero => intro _; rfl
    | succ i ih =>
      intro hi
      have ih := ih (by omega)
      have hx : S[i]? = some S[i] := List.getElem?_eq_getElem (by omega)
      rw [take_succ_of hx, List.filter_append]
      unfold rsets at ih ⊢
      rw [List.foldl_append, ih]
      generalize hN : S[i] = names at hx
      have mN : names ∈ S := List.mem_of_getElem? hx
      obtain ⟨n1, n2, n3⟩ := (memS names).mp mN
      have split : S = S.take i ++ names :: S.drop (i + 1) := by
        rw [← hN, List.getElem_cons_drop, List.take_append_drop]
      have notin : names ∉ S.take i := fun z => by
        rw [split] at ndS
        exact (List.nodup_append.mp ndS).2.2 names z names (List.mem_cons_self ..) rfl
      have ahead : ∀ v ∈ S, v.length < names.length → v ∈ S.take i := fun v hv hl => by
        rw [split] at hv upS
        rcases List.mem_append.mp hv with h | h
        · exact h
        · rcases List.mem_cons.mp h with e | h
          · rw [e] at hl
            exact absurd hl (Nat.lt_irrefl _)
          · have := (List.pairwise_cons.mp (List.pairwise_append.mp upS).2.1).1 v h
            omega
      have test : ((((S.take i).filter fun a => minR rounds a && rnd ws a).filter fun one => sub one names).isEmpty = true ∧ rgl ws (names.length + 1) names = false) ↔ (minR rounds names && rnd ws names) = true := by
        rw [Bool.and_eq_true, List.isEmpty_iff, List.filter_eq_nil_iff]
        constructor
        · rintro ⟨h1, h2⟩
          have none_ : ∀ q ∈ rounds, minR rounds q = true → (∀ x ∈ q, x ∈ names) → names.length ≤ q.length := fun q q1 q2 q3 => Classical.byContradiction fun z =>
            h1 q (List.mem_filter.mpr ⟨ahead q ((memR q).mp q1).1 (by omega), by rw [q2, ((memR q).mp q1).2]; rfl⟩) (sub_iff.mpr q3)
          obtain ⟨r, hr, sr⟩ := f1 names mN h2
          obtain ⟨q, q1, q2, q3⟩ := f3 r.length r (Nat.le_refl _) hr
          have e : q = names := asc_eq ((memS q).mp ((memR q).mp q1).1).2.1 n2 (fun x hx => sr x (q3 x hx)) (none_ q q1 q2 fun x hx => sr x (q3 x hx))
          rw [← e]
          exact ⟨q2, ((memR q).mp q1).2⟩
        · rintro ⟨h1, h2⟩
          have mR := (memR names).mpr ⟨mN, h2⟩
          refine ⟨fun one ho hs => ?_, f2 names mR names fun _ h => h⟩
          obtain ⟨o1, o2⟩ := List.mem_filter.mp ho
          obtain ⟨o2, o3⟩ := Bool.and_eq_true_iff.mp o2
          have oS : one ∈ S := List.mem_of_mem_take o1
          have os := sub_iff.mp hs
          by_cases q : one.length < names.length
          · exact minR_iff.mp h1 one ((memR one).mpr ⟨oS, o3⟩) q os
          · have e : one = names := asc_eq ((memS one).mp oS).2.1 n2 os (by omega)
            exact notin (e ▸ o1)
      show rstep ws _ names = _
      unfold rstep
      by_cases c : (minR rounds names && rnd ws names) = true
      · rw [if_pos (test.mpr c)]
        simp [c]
      · rw [if_neg fun z => c (test.mp z)]
        simp [c]
  have := key S.length (Nat.le_refl _)
  rw [List.take_length] at this
  exact this
end
end KA
set_option Elab.async false
set_option linter.all false
set_option maxRecDepth 100000
set_option maxHeartbeats 4000000
namespace KA
open PySem PySem.Spec PyProof.Rows L2
/-! ### turns of a comprehension, one word for all -/
theorem turns {J : It} {n : Nat} {G : Hp → Prop} {Y : Nat → Hp → V → Hp → Prop} (w : Walk J n G Y) {F : V → Hp → (Hp → Prop) → Prop} {H0 : Hp} {Qd : Hp → Prop} (Pv : Nat → Hp → Prop) (h0 : Pv 0 H0) (hG : ∀ i H, i ≤ n → Pv i H → G H)
    (hs : ∀ i x H H', i < n → Pv i H → Y i H x H' → F x H' (Pv (i + 1))) (hd : ∀ H, Pv n H → Qd H) :
    ∃ W : Nat → Nat → Hp → Prop, (∃ m, W 0 m H0) ∧ ∀ i m H, W i m H → (J.stop i H ∧ Qd H) ∨ (J.go i H ∧ ∃ Nx : Hp → Prop, (∀ H', Nx H' → ∃ m', m' < m ∧ W (i + 1) m' H') ∧ ∀ x H', J.yld i H x H' → F x H' Nx) := by
  refine ⟨fun i m H => i + m = n ∧ Pv i H, ⟨n, Nat.zero_add n, h0⟩, ?_⟩
  rintro i m H ⟨e, p⟩
  have q := hG i H (by omega) p
  rcases Nat.eq_zero_or_pos m with z | z
  · have e : i = n := by omega
    subst e
    exact .inl ⟨w.stops H q, hd H p⟩
  · exact .inr ⟨w.goes i H (by omega) q, Pv (i + 1), fun H' p' => ⟨m - 1, by omega, by omega, p'⟩, fun x H' y => hs i x H H' (by omega) p (w.yields i H x H' (by omega) q y)⟩
theorem eq_nil_tx (l : List Str) : PyData.eqv (tD l) (.tuple []) = l.isEmpty := by
  cases l <;> simp [tD, PyData.eqv, PyData.eqvAll]
theorem snoc_map (l : List Str) (n : Str) : l.map V.str ++ [V.str n] = (l ++ [n]).map V.str := by simp
theorem flat_snoc {α β : Type} (f : α → List β) (xs : List α) (x : α) : (xs ++ [x]).flatMap f = xs.flatMap f ++ f x := by simp
section
variable {P : Program} {w : World} {K : PySem.W.Frag} {mg : Str → Option Value} {base : Heap}
/-! ### _law_longer -/
abbrev nLonger : List Str := ["_law_rows_here", "_law_names_here", "_law_found", "_law_row", "_law_name"]
theorem scLonger : FnScope nLonger ["_law_rows_here", "_law_names_here"] (defScope s__law_longer) := ⟨rfl, rfl, rfl, by decide +kernel, rfl, by decide +kernel, by decide +kernel⟩
def spLonger (K : PySem.W.Frag) : Sp := fun vs H Q _ => ∃ (a b : Addr) (xs : List V) (ls : List (List Str)) (ns : List Str), vs = [.ref a, .ref b] ∧ SqL K H a xs ∧ Txs H xs ls ∧ SqL K H b (ns.map V.str) ∧ (∀ l ∈ ls, Cp l ∧ l.length ≤ 100) ∧ ls.length ≤ 100 ∧ ns.length ≤ 10 ∧
  ∀ p ys H', H p = none → H' p = some (.lst ys) → Txs H' ys (lng ns ls) → Same H H' → Q (.ref p) H'
theorem lng_len (ns : List Str) : ∀ ls : List (List Str), (lng ns ls).length ≤ ls.length * ns.length
  | [] => by simp [lng]
  | l :: r => by
    have h := lng_len ns r
    have h1 : lng ns (l :: r) = ((ns.filter (nxt l)).map fun n => l ++ [n]) ++ lng ns r := rfl
    have h2 := List.length_filter_le (nxt l) ns
    rw [h1, List.length_append, List.length_map, List.length_cons, Nat.succ_mul]
    omega
/-- row == () or name > row[-1] -/
theorem nxt_test {tA tB : TT} {σ : L2.St} {H : Hp} {l : List Str} {n : Str} {Q : Bool → Hp → Prop} (h1 : ∀ R : Bool → Hp → Prop, (∀ H1, Same H H1 → R l.isEmpty H1) → tA σ H R) (h2 : ∀ (x : Str) (H1 : Hp) (R : Bool → Hp → Prop), Same H H1 → l.getLast? = some x → (∀ H2, Same H1 H2 → R (decide (ltS x n)) H2) → tB σ H1 R)
    (hq : ∀ H', Same H H' → Q (nxt l n) H') : tOr tA tB σ H Q := by
  refine h1 _ fun H1 s1 => ?_
  cases l with
  | nil => exact iteT (hq H1 s1)
  | cons x r =>
    refine iteF ?_
    have e := List.getLast?_eq_getLast (l := x :: r) (by simp)
    refine h2 _ H1 _ s1 e fun H2 s2 => ?_
    have := hq H2 (s1.trans s2)
    unfold nxt at this
    rw [e] at this
    exact this
theorem ok_longer (D : Df K mg "_law_longer" s__law_longer ["_law_rows_here", "_law_names_here"]) (T : Fre mg) : Fn P w K mg base "_law_longer" ["_law_rows_here", "_law_names_here"] 1 (spLonger K) := by
  refine D.ok scLonger (fun vs H Q E h => ?_) (fun f cdv A outer s H vs Q E hr h => ?_)
  · obtain ⟨_, _, _, _, _, rfl, _⟩ := h
    rfl
  · obtain ⟨a, b, xs, ls, ns, rfl, ha, hxs, hb, cpl, l1, l2, k⟩ := h
    have nd := scLonger.nd
    refine ⟨_, pss_cons (ps_set (i := 2) nd rfl (.inl rfl) (pe_lst pa_nil))
      (pss_cons (ps_for PassesOwn.never rfl (pi_list (pv 0)) (pg_name (i := 3) nd rfl (.inr rfl))
        (pss_one (ps_set (i := 2) nd rfl (.inl rfl) (pe_op op_cat (pv 2) (pe_lc (own := [("_law_name", 4)]) (g := gName 4) rfl nd (pi_list (pv 1))
          (blkOk_by (N := nLonger) (sc := defScope s__law_longer) (by decide +kernel)) (fun _ _ _ _ _ => pg_name (i := 4) nd rfl (Or.inl rfl))
          (fun _ _ _ _ _ => pts_one (PW.pt (pw_or (pt_cmpR (show OpR _ _ (rEqD K) from op_eqD hr.units) (pv 3) (pe_tup pa_nil) (nomark _)) (pw_or1 (pt_cmpR op_gt_str (pv 4) (pe_ix (r := rIxT K) ix_tup (pv 3) (pe_un un_neg pe_int) (fun _ _ => rfl)) (nomark _))))))
          (fun _ _ _ _ _ => pe_op (show OpR _ _ (rCatA K) from op_catA) (pv 3) (pe_tup (pa_cons (pv 4) pa_nil))))))))
      (pss_one (ps_ret (pv 2)))), ?_⟩
    refine ⟨Nat.zero_le _, fun o no => ?_⟩
    have s1 := same_new (o := .lst []) no
    refine ⟨_, rfl, a, rfl, ⟨_, s1.seq ha⟩, for_list (K := K) (a := a) (xs := xs) (fun i σ H2 => ∃ (q : Addr) (us : List V) (v : Option V), σ = [some (.ref a), some (.ref b), some (.ref q), v, none] ∧ H q = none ∧ H2 q = some (.lst us) ∧ Txs H2 us (lng ns (ls.take i)) ∧ Same H H2)
      ⟨o, [], none, rfl, no, upd_same, .nil, s1⟩ (fun i σ H2 _ ⟨_, _, _, _, _, _, _, s2⟩ => s2.seq ha) ?_ ?_⟩
    · rintro i y σ H2 hi ⟨q, us, v, rfl, nq, hq, hus, s2⟩
      obtain ⟨l, hl, tl⟩ := Pd.get hxs hi
      obtain ⟨cl, ll⟩ := cpl l (List.mem_of_getElem? hl)
      obtain ⟨ta, rfl, hta⟩ := tl.kt (KT.same s2)
      refine ⟨_, rfl, _, rfl, b, rfl, ⟨_, s2.seq hb⟩, fun L nL => ?_⟩
      refine turns (walk_list (K := K) (a := b) (xs := ns.map V.str)) (fun j H3 => (∃ zs, H3 L = some (.lst zs) ∧ Txs H3 zs (((ns.take j).filter (nxt l)).map fun n => l ++ [n]) ∧ zs.length ≤ j) ∧ Same H2 H3) ⟨⟨[], upd_same, .nil, Nat.le_refl _⟩, same_new nL⟩ (fun j H3 _ h => h.2.seq (s2.seq hb)) ?_ ?_
      · rintro j y H3 H3' hj ⟨⟨zs, hz, hzs, lz⟩, s3⟩ ⟨rfl, hy⟩
        rw [List.getElem?_map] at hy
        obtain ⟨n, hn, rfl⟩ := Option.map_eq_some_iff.mp hy
        rw [List.length_map] at hj
        refine ⟨rfl, ?_⟩
        refine nxt_test (l := l) (n := n) (fun R fin => ?_) (fun x H4 R s4 ex fin => ?_) (fun H4 s4 => ?_)
        · refine ⟨_, rfl, Nat.zero_le _, fun q0 nq0 => ?_⟩
          have s4 := same_new (o := .tup []) nq0
          refine ⟨tD l, .tuple [], Tx.dp ⟨ta, rfl, s4 _ _ (s3 _ _ hta)⟩, .tup (SqT.of upd_same) .nil, tD_shaped cl, by decide +kernel, _, rfl, ?_⟩
          rw [eq_nil_tx]
          exact fin _ s4
        · refine ⟨_, rfl, _, rfl, 1, rfl, ta, _, -1, .str x, rfl, rfl, SqT.of (s4 _ _ (s3 _ _ hta)), atI_getLast ex, n, x, rfl, rfl, _, rfl, ?_⟩
          exact fin _ (Same.refl _)
        · rw [take_succ_of hn, List.filter_append, List.map_append]
          have hz4 := s4 _ _ hz
          cases e : nxt l n with
          | false =>
            refine iteF ⟨⟨zs, hz4, ?_, by omega⟩, s3.trans s4⟩
            simpa [e] using hzs.kt (KT.same s4)
          | true =>
            refine iteT ?_
            refine ⟨_, rfl, _, rfl, by show 1 ≤ sizeLine; decide, fun t1 nt1 => ?_⟩
            have s5 := same_new (o := .tup [.str n]) nt1
            have tail : ∀ (y : V) (H6 : Hp), Same H4 H6 → Tx H6 y (l ++ [n]) → ∃ acc, H6 L = some (.lst acc) ∧ acc.length < sizeLine ∧ (∃ zs, (upd H6 L (.lst (acc ++ [y]))) L = some (.lst zs) ∧ Txs (upd H6 L (.lst (acc ++ [y]))) zs (((ns.take j).filter (nxt l)).map (fun n => l ++ [n]) ++ ([n].filter (nxt l)).map fun n => l ++ [n]) ∧ zs.length ≤ j + 1) ∧ Same H2 (upd H6 L (.lst (acc ++ [y]))) := fun y H6 s6 hy6 => by
              have hz6 := s6 _ _ hz4
              refine ⟨zs, hz6, small1000 (by omega), ⟨zs ++ [y], upd_same, ?_, by rw [List.length_append]; exact Nat.succ_le_succ lz⟩, updN (s3.trans (s4.trans s6)) nL⟩
              have e1 : ([n].filter (nxt l)).map (fun n => l ++ [n]) = [l ++ [n]] := by simp [e]
              rw [e1]
              exact Paired.snoc (hzs.kt ((KT.same (s4.trans s6)).trans (KT.lst hz6))) (hy6.kt (KT.lst hz6))
            refine ⟨ta, t1, _, _, rfl, rfl, SqT.of (s5 _ _ (s4 _ _ (s3 _ _ hta))), SqT.of upd_same, ?_, ?_⟩
            · rw [List.length_map]
              exact Nat.le_of_lt (small1000 (by simp; omega))
            · refine ⟨fun e0 => tail (.ref t1) _ s5 ⟨t1, rfl, ?_⟩, (fun _ z => nomatch z), fun _ _ p np => tail (.ref p) _ (s5.trans (same_new np)) ⟨p, rfl, ?_⟩⟩
              · rw [upd_same, List.map_eq_nil_iff.mp e0]
                rfl
              · rw [upd_same, snoc_map]
      · rintro H3 ⟨⟨zs, hz, hzs, lz⟩, s3⟩
        rw [List.length_map, List.take_length] at hzs
        rw [List.length_map] at lz
        have lu := Pd.len hus
        have lu2 := lng_len ns (ls.take i)
        have lu3 : (ls.take i).length * ns.length ≤ 100 * 10 := Nat.mul_le_mul (by rw [List.length_take]; omega) l2
        refine ⟨q, L, us, zs, rfl, rfl, s3 _ _ hq, hz, by rw [sizeLine_eq]; omega, fun p np => ?_⟩
        have sp := same_new (o := .lst (us ++ zs)) np
        refine ⟨p, us ++ zs, _, rfl, s2.free (s3.free np), upd_same, ?_, s2.trans (s3.trans sp)⟩
        rw [take_succ_of hl]
        show Txs _ _ ((ls.take i ++ [l]).flatMap _)
        rw [flat_snoc]
        exact Pd.app (hus.kt ((KT.same s3).trans (KT.same sp))) (hzs.kt (KT.same sp))
    · rintro σ H2 ⟨q, us, v, rfl, nq, hq, hus, s2⟩
      have : ls.take xs.length = ls := by rw [Pd.len hxs, List.take_length]
      rw [this] at hus
      exact ⟨_, rfl, k q us H2 nq hq hus s2⟩
/-! ### _law_rows -/
abbrev nRows : List Str := ["_law_rows_here", "_law_names_here", "_law_wishes", "_law_found", "_law_row", "_law_name"]
theorem scRows : FnScope nRows ["_law_rows_here", "_law_names_here", "_law_wishes"] (defScope s__law_rows) := ⟨rfl, rfl, rfl, by decide +kernel, rfl, by decide +kernel, by decide +kernel⟩
def spRows (K : PySem.W.Frag) : Sp := fun vs H Q _ => ∃ (a b c : Addr) (xs : List V) (ls : List (List Str)) (ns : List Str) (wv : List V) (ws : List (List Str)), vs = [.ref a, .ref b, .ref c] ∧ SqL K H a xs ∧ Txs H xs ls ∧ H b = some (.tup (ns.map V.str)) ∧ SqL K H c wv ∧ Txs H wv ws ∧
  Cp ns ∧ (∀ l ∈ ws, Cp l) ∧ (∀ l ∈ ls, l ≠ [] ∧ l.length ≤ 100 ∧ ∀ x ∈ l, x ∈ ns) ∧ ls.length ≤ 8000 ∧ ns.length ≤ 6 ∧ ∀ p ys H', H p = none → H' p = some (.lst ys) → Txs H' ys (rws ws ns ls) → Same H H' → Q (.ref p) H'
theorem rws_len (ws : List (List Str)) (ns : List Str) : ∀ ls : List (List Str), (rws ws ns ls).length ≤ ls.length * ns.length
  | [] => by simp [rws]
  | l :: r => by
    have h := rws_len ws ns r
    have h1 : rws ws ns (l :: r) = ((ns.filter fun n => decide (n ∉ l) && lst ws l n).map fun n => l ++ [n]) ++ rws ws ns r := rfl
    have h2 := List.length_filter_le (fun n => decide (n ∉ l) && lst ws l n) ns
    rw [h1, List.length_append, List.length_map, List.length_cons, Nat.succ_mul]
    omega
theorem inV_no (n : Str) (l : List Str) : (!inV (.str n) (l.map V.str)) = decide (n ∉ l) := by
  rw [inV_strs]
  by_cases h : n ∈ l <;> simp [h]
theorem ok_rows (D : Df K mg "_law_rows" s__law_rows ["_law_rows_here", "_law_names_here", "_law_wishes"]) (T : Fre mg) : Fn P w K mg base "_law_rows" ["_law_rows_here", "_law_names_here", "_law_wishes"] 1 (spRows K) := by
  refine D.ok scRows (fun vs H Q E h => ?_) (fun f cdv A outer s H vs Q E hr h => ?_)
  · obtain ⟨_, _, _, _, _, _, _, _, rfl, _⟩ := h
    rfl
  · obtain ⟨a, b, c, xs, ls, ns, wv, ws, rfl, ha, hxs, hb, hc, hws, cpn, cpw, hls, l1, l2, k⟩ := h
    have nd := scRows.nd
    refine ⟨_, pss_cons (ps_set (i := 3) nd rfl (.inl rfl) (pe_lst pa_nil))
      (pss_cons (ps_for PassesOwn.never rfl (pi_list (pv 0)) (pg_name (i := 4) nd rfl (.inr rfl))
        (pss_one (ps_set (i := 3) nd rfl (.inl rfl) (pe_op op_cat (pv 3) (pe_lc (own := [("_law_name", 5)]) (g := gName 5) rfl nd (pi_tup (pv 1))
          (blkOk_by (N := nRows) (sc := defScope s__law_rows) (by decide +kernel)) (fun _ _ _ _ _ => pg_name (i := 5) nd rfl (Or.inl rfl))
          (fun _ _ _ _ _ => pts_one (PW.pt (pw_and (pt_cmpR (show OpR _ _ (rIn K true) from op_notIn_seq) (pv 5) (pv 4) (by rfl)) (pw_and1 (pt_cmpR (show OpR _ _ (rInTx K false) from op_inTx (u65 hr)) (pe_tup (pa_cons (pe_ix (r := rIxT K) ix_tup (pv 4) (pe_un un_neg pe_int) (fun _ _ => rfl)) (pa_cons (pv 5) pa_nil))) (pv 2) (by rfl))))))
          (fun _ _ _ _ _ => pe_op (show OpR _ _ (rCatT K) from op_catT) (pv 4) (pe_tup (pa_cons (pv 5) pa_nil))))))))
      (pss_one (ps_ret (pv 3)))), ?_⟩
    refine ⟨Nat.zero_le _, fun o no => ?_⟩
    have s1 := same_new (o := .lst []) no
    refine ⟨_, rfl, a, rfl, ⟨_, s1.seq ha⟩, for_list (K := K) (a := a) (xs := xs) (fun i σ H2 => ∃ (q : Addr) (us : List V) (v : Option V), σ = [some (.ref a), some (.ref b), some (.ref c), some (.ref q), v, none] ∧ H q = none ∧ H2 q = some (.lst us) ∧ Txs H2 us (rws ws ns (ls.take i)) ∧ Same H H2)
      ⟨o, [], none, rfl, no, upd_same, .nil, s1⟩ (fun i σ H2 _ ⟨_, _, _, _, _, _, _, s2⟩ => s2.seq ha) ?_ ?_⟩
    · rintro i y σ H2 hi ⟨q, us, v, rfl, nq, hq, hus, s2⟩
      obtain ⟨l, hl, tl⟩ := Pd.get hxs hi
      obtain ⟨lne, ll, lns⟩ := hls l (List.mem_of_getElem? hl)
      obtain ⟨ta, rfl, hta⟩ := tl.kt (KT.same s2)
      obtain ⟨x, ex⟩ : ∃ x, l.getLast? = some x := ⟨_, List.getLast?_eq_getLast lne⟩
      have mx := lns x (List.mem_of_getLast? ex)
      have tb : SqT K H2 b (ns.map V.str) := SqT.of (s2 _ _ hb)
      refine ⟨_, rfl, _, rfl, b, rfl, ⟨_, tb⟩, fun L nL => ?_⟩
      refine turns (walk_tup (K := K) (a := b) (xs := ns.map V.str)) (fun j H3 => (∃ zs, H3 L = some (.lst zs) ∧ Txs H3 zs (((ns.take j).filter fun n => decide (n ∉ l) && lst ws l n).map fun n => l ++ [n]) ∧ zs.length ≤ j) ∧ Same H2 H3) ⟨⟨[], upd_same, .nil, Nat.le_refl _⟩, same_new nL⟩ (fun j H3 _ h => sameT h.2 tb) ?_ ?_
      · rintro j y H3 H3' hj ⟨⟨zs, hz, hzs, lz⟩, s3⟩ ⟨rfl, hy⟩
        rw [List.getElem?_map] at hy
        obtain ⟨n, hn, rfl⟩ := Option.map_eq_some_iff.mp hy
        have mn := List.mem_of_getElem? hn
        rw [List.length_map] at hj
        refine ⟨rfl, ?_⟩
        have hta3 := s3 _ _ hta
        refine ⟨_, rfl, _, rfl, ta, _, rfl, .inr (SqT.of hta3), rfl, flat_strs l, _, rfl, ?_⟩
        rw [if_pos rfl, inV_no]
        have stay : ∀ H4, Same H3' H4 → (decide (n ∉ l) && lst ws l n) = false → (∃ zs, H4 L = some (.lst zs) ∧ Txs H4 zs (((ns.take (j + 1)).filter fun n => decide (n ∉ l) && lst ws l n).map fun n => l ++ [n]) ∧ zs.length ≤ j + 1) ∧ Same H2 H4 := fun H4 s4 e => by
          rw [take_succ_of hn, List.filter_append, List.map_append]
          refine ⟨⟨zs, s4 _ _ hz, ?_, by omega⟩, s3.trans s4⟩
          simp only [List.filter_cons, e, Bool.false_eq_true, if_false, List.filter_nil, List.map_nil, List.append_nil]
          exact hzs.kt (KT.same s4)
        cases e1 : decide (n ∉ l) with
        | false => exact iteF (iteF (stay _ (Same.refl _) (by rw [e1]; rfl)))
        | true =>
          refine iteT ?_
          refine ⟨_, rfl, 1, rfl, ta, _, -1, .str x, rfl, rfl, SqT.of hta3, atI_getLast ex, _, rfl, (by show 2 ≤ sizeLine; decide), fun t nt => ?_⟩
          have s4 := same_new (o := .tup [.str x, .str n]) nt
          have s24 := s2.trans (s3.trans s4)
          refine ⟨_, rfl, [x, n], ws, wv, c, ⟨t, rfl, upd_same⟩, rfl, .inl (s24.seq hc), hws.kt (KT.same s24), fun z hz => ?_, cpw, _, rfl, ?_⟩
          · rcases List.mem_cons.mp hz with e | hz
            · exact e ▸ cpn _ mx
            · exact (List.mem_singleton.mp hz) ▸ cpn _ mn
          rw [if_neg (by decide)]
          have el : lst ws l n = decide ([x, n] ∈ ws) := by
            unfold lst
            rw [ex]
          rw [← el]
          cases e2 : lst ws l n with
          | false => exact iteF (stay _ s4 (by rw [e1, e2]; rfl))
          | true =>
            refine iteT ?_
            refine ⟨_, rfl, _, rfl, by show 1 ≤ sizeLine; decide, fun t1 nt1 => ?_⟩
            have s5 := s4.trans (same_new (o := .tup [.str n]) nt1)
            refine ⟨ta, t1, _, _, rfl, rfl, SqT.of (s5 _ _ hta3), SqT.of upd_same, fun z => lne (List.map_eq_nil_iff.mp z), ?_, (fun z => nomatch z), fun _ p np => ?_⟩
            · rw [List.length_map]
              exact Nat.le_of_lt (small1000 (by simp; omega))
            · have s6 := s5.trans (same_new (o := .tup (l.map V.str ++ [V.str n])) np)
              have hz6 := s6 _ _ hz
              refine ⟨zs, hz6, small1000 (by omega), ⟨zs ++ [.ref p], upd_same, ?_, by rw [List.length_append]; exact Nat.succ_le_succ lz⟩, updN (s3.trans s6) nL⟩
              rw [take_succ_of hn, List.filter_append, List.map_append]
              have e3 : ([n].filter fun n => decide (n ∉ l) && lst ws l n).map (fun n => l ++ [n]) = [l ++ [n]] := by simp only [List.filter_cons, e1, e2, Bool.and_self, if_true, List.filter_nil, List.map_cons, List.map_nil]
              rw [e3]
              refine Paired.snoc (hzs.kt ((KT.same s6).trans (KT.lst hz6))) ⟨p, rfl, (KT.lst hz6) _ _ ?_⟩
              rw [upd_same, snoc_map]
      · rintro H3 ⟨⟨zs, hz, hzs, lz⟩, s3⟩
        rw [List.length_map, List.take_length] at hzs
        rw [List.length_map] at lz
        have lu := Pd.len hus
        have lu2 := rws_len ws ns (ls.take i)
        have lu3 : (ls.take i).length * ns.length ≤ 8000 * 6 := Nat.mul_le_mul (by rw [List.length_take]; omega) l2
        refine ⟨q, L, us, zs, rfl, rfl, s3 _ _ hq, hz, by rw [sizeLine_eq]; omega, fun p np => ?_⟩
        have sp := same_new (o := .lst (us ++ zs)) np
        refine ⟨p, us ++ zs, _, rfl, s2.free (s3.free np), upd_same, ?_, s2.trans (s3.trans sp)⟩
        rw [take_succ_of hl]
        show Txs _ _ ((ls.take i ++ [l]).flatMap _)
        rw [flat_snoc]
        exact Pd.app (hus.kt ((KT.same s3).trans (KT.same sp))) (hzs.kt (KT.same sp))
    · rintro σ H2 ⟨q, us, v, rfl, nq, hq, hus, s2⟩
      have : ls.take xs.length = ls := by rw [Pd.len hxs, List.take_length]
      rw [this] at hus
      exact ⟨_, rfl, k q us H2 nq hq hus s2⟩
end
end KA
set_option Elab.async false
set_option linter.all false
set_option maxRecDepth 100000
set_option maxHeartbeats 4000000
namespace KA
open PySem PySem.Spec PyProof.Rows L2
/-! ### sizes -/
def masks : Nat → List (List Bool)
  | 0 => [[]]
  | n + 1 => (masks n).map (true :: ·) ++ (masks n).map (false :: ·)
theorem masks_len : ∀ n, (masks n).length = 2 ^ n
  | 0 => rfl
  | n + 1 => by
    show ((masks n).map (true :: ·) ++ (masks n).map (false :: ·)).length = _
    rw [List.length_append, List.length_map, List.length_map, masks_len n, Nat.pow_succ]
    omega
theorem masks_mem : ∀ m : List Bool, m ∈ masks m.length
  | [] => List.mem_singleton_self _
  | b :: m => by
    show b :: m ∈ (masks m.length).map (true :: ·) ++ (masks m.length).map (false :: ·)
    cases b with
    | true => exact List.mem_append_left _ (List.mem_map.mpr ⟨m, masks_mem m, rfl⟩)
    | false => exact List.mem_append_right _ (List.mem_map.mpr ⟨m, masks_mem m, rfl⟩)
/-- not many ascending rows of a few names -/
theorem asc_few {ms : List Str} (hm : Asc ms) (h6 : ms.length ≤ 6) {L : List (List Str)} (nd : L.Nodup) (h : ∀ r ∈ L, Asc r ∧ ∀ x ∈ r, x ∈ ms) : L.length ≤ 64 := by
  have back : ∀ r ∈ L, r = ms.filter fun x => decide (x ∈ r) := fun r hr => by
    obtain ⟨h1, h2⟩ := h r hr
    refine asc_eq h1 (hm.filter _) (fun x hx => List.mem_filter.mpr ⟨h2 x hx, decide_eq_true hx⟩) (nd_sub_len (Asc.nd (hm.filter _)) fun x hx => of_decide_eq_true (List.mem_filter.mp hx).2)
  have nd2 : (L.map fun r => ms.map fun x => decide (x ∈ r)).Nodup := by
    refine List.pairwise_map.mpr (nd.imp_of_mem fun {a b} ha hb ne e => ne ?_)
    rw [back a ha, back b hb]
    exact List.filter_congr fun x hx => List.map_inj_left.mp e x hx
  have := nd_sub_len nd2 (m := masks ms.length) fun y hy => by
    obtain ⟨r, _, rfl⟩ := List.mem_map.mp hy
    have := masks_mem (ms.map fun x => decide (x ∈ r))
    rwa [List.length_map] at this
  rw [List.length_map, masks_len] at this
  exact Nat.le_trans this (Nat.pow_le_pow_right (by decide) h6)
theorem lvl_few {ms : List Str} (hm : Asc ms) (h6 : ms.length ≤ 6) (k : Nat) : (lvl ms k).length ≤ 64 := asc_few hm h6 (lvl_nd hm.nd k) fun r hr => (mem_lvl.mp hr).2
theorem sts_few {ms : List Str} (hm : Asc ms) (h6 : ms.length ≤ 6) (k : Nat) : (sts ms k).length ≤ 64 := asc_few hm h6 (sts_nd hm.nd k) fun r hr => (mem_sts.mp hr).2.2
section
variable {P : Program} {w : World} {K : PySem.W.Frag} {mg : Str → Option Value} {base : Heap}
/-! ### _law_sets -/
abbrev nSets : List Str := ["_law_names_here", "_law_found", "_law_last", "_law_turn"]
theorem scSets : FnScope nSets ["_law_names_here"] (defScope s__law_sets) := ⟨rfl, rfl, rfl, by decide +kernel, rfl, by decide +kernel, by decide +kernel⟩
def spSets (K : PySem.W.Frag) : Sp := fun vs H Q _ => ∃ (a : Addr) (ns : List Str), vs = [.ref a] ∧ SqL K H a (ns.map V.str) ∧ ns.Nodup ∧ Cp ns ∧ 1 ≤ ns.length ∧ ns.length ≤ 6 ∧
  ∀ p ys ms H', ms.Perm ns → sortedS ms = true → H p = none → H' p = some (.lst ys) → Txs H' ys (sts ms ms.length) → Same H H' → Q (.ref p) H'
theorem ok_sets (D : Df K mg "_law_sets" s__law_sets ["_law_names_here"]) (GL : Fn P w K mg base "_law_longer" ["_law_rows_here", "_law_names_here"] 1 (spLonger K)) (T : Fre mg) : Fn P w K mg base "_law_sets" ["_law_names_here"] 2 (spSets K) := by
  refine D.ok scSets (fun vs H Q E h => ?_) (fun f cdv A outer s H vs Q E hr h => ?_)
  · obtain ⟨_, _, rfl, _⟩ := h
    rfl
  · obtain ⟨a, ns, rfl, ha, nds, cpn, l1, l6, k⟩ := h
    have nd := scSets.nd
    refine ⟨_, pss_cons (ps_par (i := 1) (j := 2) (by rfl) nd rfl rfl (by decide) rfl rfl (pa_cons (pe_lst pa_nil) (pa_cons (pe_lst (pa_cons (pe_tup pa_nil) pa_nil)) pa_nil)) (by rfl))
      (pss_cons (ps_for PassesOwn.never rfl (pi_range1 (by rfl) T.range (pa_cons (pe_callB call_len (by rfl) T.len PySem.boot_len (pa_cons (pv 0) pa_nil)) pa_nil)) (pg_name (i := 3) nd rfl (.inl rfl))
        (pss_cons (ps_set (i := 2) nd rfl (.inl rfl) (pe_fn GL hr (by rfl) (pa_cons (pv 2) (pa_cons (pe_callB cr_sortedS (by rfl) T.sorted (by decide +kernel) (pa_cons (pv 0) pa_nil)) pa_nil))))
        (pss_one (ps_set (i := 1) nd rfl (.inl rfl) (pe_op op_cat (pv 1) (pv 2))))))
      (pss_one (ps_ret (pv 1)))), ?_⟩
    refine ⟨Nat.zero_le _, fun q0 nq0 => ⟨Nat.zero_le _, fun t0 nt0 => ⟨by show 1 ≤ sizeLine; decide, fun q1 nq1 => ⟨_, _, rfl, ?_⟩⟩⟩⟩
    have s1 := same_new (o := .lst []) nq0
    have s2 := s1.trans (same_new (o := .tup []) nt0)
    have s3 := s2.trans (same_new (o := .lst [.ref t0]) nq1)
    have h0 : (upd (upd (upd H q0 (.lst [])) t0 (.tup [])) q1 (.lst [.ref t0])) q0 = some (.lst []) := (same_new nq1) _ _ ((same_new nt0) _ _ upd_same)
    have ht : (upd (upd (upd H q0 (.lst [])) t0 (.tup [])) q1 (.lst [.ref t0])) t0 = some (.tup []) := (same_new nq1) _ _ upd_same
    have h1 : (upd (upd (upd H q0 (.lst [])) t0 (.tup [])) q1 (.lst [.ref t0])) q1 = some (.lst [.ref t0]) := upd_same
    generalize upd (upd (upd H q0 (.lst [])) t0 (.tup [])) q1 (.lst [.ref t0]) = H0 at s3 h0 ht h1
    refine ⟨_, rfl, _, ns.length, rfl, .inl ⟨_, s3.seq ha, by rw [List.length_map]⟩, (ns.length : Int), rfl, by omega, by omega, ?_⟩
    rw [Int.toNat_natCast]
    refine for_range (lo := 0) (n := ns.length) (fun i σ H2 => ∃ (qf ql : Addr) (us zs : List V) (ms : List Str) (v : Option V), σ = [some (.ref a), some (.ref qf), some (.ref ql), v] ∧ H qf = none ∧ H2 qf = some (.lst us) ∧ H2 ql = some (.lst zs) ∧ ms.Perm ns ∧ (0 < i → sortedS ms = true) ∧ Txs H2 zs (lvl ms i) ∧ Txs H2 us (sts ms i) ∧ Same H H2)
      ⟨q0, q1, [], [.ref t0], ns, none, rfl, nq0, h0, h1, List.Perm.refl _, (fun z => absurd z (Nat.lt_irrefl _)), .cons ⟨t0, rfl, ht⟩ .nil, .nil, s3⟩ ?_ ?_
    · rintro i σ H2 hi ⟨qf, ql, us, zs, ms, v, rfl, nqf, hqf, hql, pm, srt, hzs, hus, sH⟩
      refine ⟨_, rfl, _, rfl, a, ns, rfl, sH.seq ha, by omega, fun ys p py sy np => ?_⟩
      have sp := same_new (o := .lst (ys.map V.str)) np
      have ls : lvl ms i = lvl ys i ∧ sts ms i = sts ys i := by
        rcases Nat.eq_zero_or_pos i with z | z
        · subst z
          exact ⟨rfl, rfl⟩
        · rw [sortedS_one (pm.trans py.symm) (srt z) sy]
          exact ⟨rfl, rfl⟩
      rw [ls.1] at hzs
      rw [ls.2] at hus
      have asc := asc_of sy (py.nodup_iff.mpr nds)
      have l6' : ys.length ≤ 6 := by rw [py.length_eq]; exact l6
      refine ⟨ql, p, zs, lvl ys i, ys, rfl, SqL.of (sp _ _ hql), hzs.kt (KT.same sp), SqL.of upd_same, fun l hl => ?_, Nat.le_trans (lvl_few asc l6' i) (by decide), by omega, fun pn ns' H3 npn hpn hns s3 => ?_⟩
      · obtain ⟨e1, e2, e3⟩ := mem_lvl.mp hl
        have := nd_sub_len e2.nd e3
        exact ⟨fun z hz => cpn z (py.mem_iff.mp (e3 z hz)), by omega⟩
      · have s4 := sp.trans s3
        have lu := Pd.len hus
        have ln := Pd.len hns
        have f1 := sts_few asc l6' i
        have f2 := lvl_few asc l6' (i + 1)
        have f2 : (lng ys (lvl ys i)).length ≤ 64 := f2
        refine ⟨_, rfl, _, rfl, qf, pn, us, ns', rfl, rfl, s4 _ _ hqf, hpn, by rw [sizeLine_eq]; omega, fun pf npf => ?_⟩
        have s5 := same_new (o := .lst (us ++ ns')) npf
        have sH5 := sH.trans (s4.trans s5)
        exact ⟨pf, pn, us ++ ns', ns', ys, _, rfl, (sH.trans s4).free npf, upd_same, s5 _ _ hpn, py, fun _ => sy, hns.kt (KT.same s5), Pd.app (hus.kt (KT.same (s4.trans s5))) (hns.kt (KT.same s5)), sH5⟩
    · rintro σ H2 ⟨qf, ql, us, zs, ms, v, rfl, nqf, hqf, hql, pm, srt, hzs, hus, sH⟩
      rw [← pm.length_eq] at hus
      exact ⟨_, rfl, k qf us ms H2 pm (srt l1) nqf hqf hus sH⟩
/-! ### _law_is_round -/
abbrev nRound : List Str := ["_law_names_here", "_law_wishes", "_law_ways", "_law_turn", "_law_way"]
theorem scRound : FnScope nRound ["_law_names_here", "_law_wishes"] (defScope s__law_is_round) := ⟨rfl, rfl, rfl, by decide +kernel, rfl, by decide +kernel, by decide +kernel⟩
def spRound (K : PySem.W.Frag) : Sp := fun vs H Q _ => ∃ (b c : Addr) (ns : List Str) (wv : List V) (ws : List (List Str)), vs = [.ref b, .ref c] ∧ H b = some (.tup (ns.map V.str)) ∧ SqL K H c wv ∧ Txs H wv ws ∧ Cp ns ∧ (∀ l ∈ ws, Cp l) ∧ 1 ≤ ns.length ∧ ns.length ≤ 6 ∧
  ∀ H', Same H H' → Q (.bl (rnd ws ns)) H'
theorem sl_cut {Q : VK} {H : Hp} {b : Addr} {ns : List Str} {i : Int} {k : Nat} (hi : i = (k : Int)) (hb : H b = some (.tup (ns.map V.str))) (h : ∀ t H1, Same H H1 → H1 t = some (.tup ((ns.take k).map V.str)) → Q (.ref t) H1) : rSlA K (.ref b) none (some i) H Q := by
  subst hi
  refine ⟨b, _, rfl, SqT.of hb, fun ⟨_, e⟩ => h b H (Same.refl _) ?_, fun _ p np => h p _ (same_new np) ?_⟩
  · rw [HT.sIx_nat, List.length_map] at e
    rw [List.take_of_length_le (by omega)]
    exact hb
  · rw [upd_same, cut_to, List.map_take]
theorem wys_len (ws : List (List Str)) (ns : List Str) (h6 : ns.length ≤ 6) : ∀ k, (wys ws ns k).length ≤ 6 ^ k
  | 0 => Nat.le_refl _
  | k + 1 => by
    have h1 := rws_len ws ns (wys ws ns k)
    have h2 := Nat.mul_le_mul (wys_len ws ns h6 k) h6
    rw [Nat.pow_succ]
    exact Nat.le_trans h1 h2
theorem ok_round (D : Df K mg "_law_is_round" s__law_is_round ["_law_names_here", "_law_wishes"]) (GR : Fn P w K mg base "_law_rows" ["_law_rows_here", "_law_names_here", "_law_wishes"] 1 (spRows K)) (T : Fre mg) : Fn P w K mg base "_law_is_round" ["_law_names_here", "_law_wishes"] 2 (spRound K) := by
  refine D.ok scRound (fun vs H Q E h => ?_) (fun f cdv A outer s H vs Q E hr h => ?_)
  · obtain ⟨_, _, _, _, _, rfl, _⟩ := h
    rfl
  · obtain ⟨b, c, ns, wv, ws, rfl, hb, hc, hws, cpn, cpw, l1, l6, k⟩ := h
    have nd := scRound.nd
    refine ⟨_, pss_cons (ps_set (i := 2) nd rfl (.inl rfl) (pe_lst (pa_cons (pe_slice sl_tupA (pv 0) po_none (po_some pe_int)) pa_nil)))
      (pss_cons (ps_for PassesOwn.never rfl (pi_range1 (by rfl) T.range (pa_cons (pe_op op_sub (pe_callB call_len (by rfl) T.len PySem.boot_len (pa_cons (pv 0) pa_nil)) pe_int) pa_nil)) (pg_name (i := 3) nd rfl (.inl rfl))
        (pss_one (ps_set (i := 2) nd rfl (.inl rfl) (pe_fn GR hr (by rfl) (pa_cons (pv 2) (pa_cons (pv 0) (pa_cons (pv 1) pa_nil)))))))
      (pss_one (ps_ret (pe_and (pe_cmpR op_gt (pe_callB call_len (by rfl) T.len PySem.boot_len (pa_cons (pv 0) pa_nil)) pe_int (nomark _)) (pe_one (pe_cmpR (op_neD hr.units) (pe_lc (own := [("_law_way", 4)]) (g := gName 4) rfl nd (pi_list (pv 2))
              (blkOk_by (N := nRound) (sc := defScope s__law_is_round) (by decide +kernel)) (fun _ _ _ _ _ => pg_name (i := 4) nd rfl (Or.inl rfl))
              (fun _ _ _ _ _ => pts_one (pt_cmpR (show OpR _ _ (rInTx K false) from op_inTx (u65 hr)) (pe_tup (pa_cons (pe_ix (r := rIxT K) ix_tup (pv 4) (pe_un un_neg pe_int) (fun _ _ => rfl)) (pa_cons (pe_ix (r := rIxT K) ix_tup (pv 4) pe_int (fun _ _ => rfl)) pa_nil))) (pv 1) (by rfl)))
              (fun _ _ _ _ _ => pv 4)) (pe_lst pa_nil) (nomark _))))))), ?_⟩
    refine ⟨_, rfl, 1, rfl, ?_⟩
    refine sl_cut (i := 1) (k := 1) rfl hb fun t0 H1 s1 ht0 => ?_
    refine ⟨by show 1 ≤ sizeLine; decide, fun q0 nq0 => ?_⟩
    have s2 := s1.trans (same_new (o := .lst [.ref t0]) nq0)
    have hq0 : (upd H1 q0 (.lst [.ref t0])) q0 = some (.lst [.ref t0]) := upd_same
    have ht1 := (same_new (o := .lst [.ref t0]) nq0) _ _ ht0
    generalize upd H1 q0 (.lst [.ref t0]) = H2 at s2 hq0 ht1
    refine ⟨_, rfl, _, ns.length, rfl, .inr ⟨_, SqT.of (s2 _ _ hb), by rw [List.length_map]⟩, _, _, rfl, rfl, ((ns.length : Int) - 1), rfl, by omega, by omega, ?_⟩
    have eN : ((ns.length : Int) - 1).toNat = ns.length - 1 := by omega
    rw [eN]
    have ok : ∀ j v, v ∈ wys ws ns j → v ≠ [] ∧ v.length = j + 1 ∧ ∀ x ∈ v, x ∈ ns := fun j v hv => by
      cases ns with
      | nil => exact absurd l1 (by simp)
      | cons s r =>
        obtain ⟨e1, _, _, _, e5⟩ := mem_wys.mp hv
        exact ⟨(fun z => by rw [z] at e1; cases e1), e1, e5⟩
    refine for_range (lo := 0) (n := ns.length - 1) (fun i σ H3 => ∃ (q : Addr) (zs : List V) (v : Option V), σ = [some (.ref b), some (.ref c), some (.ref q), v, none] ∧ H3 q = some (.lst zs) ∧ Txs H3 zs (wys ws ns i) ∧ Same H H3) ⟨q0, [.ref t0], none, rfl, hq0, .cons ⟨t0, rfl, ht1⟩ .nil, s2⟩ ?_ ?_
    · rintro i σ H3 hi ⟨q, zs, v, rfl, hq, hzs, s3⟩
      have p6 : 6 ^ i ≤ 6 ^ 4 := Nat.pow_le_pow_right (by decide) (by omega)
      refine ⟨_, rfl, _, rfl, _, rfl, q, b, c, zs, wys ws ns i, ns, wv, ws, rfl, SqL.of hq, hzs, s3 _ _ hb, s3.seq hc, hws.kt (KT.same s3), cpn, cpw, fun l hl => ?_, Nat.le_trans (wys_len ws ns l6 i) (Nat.le_trans p6 (by decide)), l6, fun p ys H4 np hp hys s4 => ?_⟩
      · obtain ⟨e1, e2, e3⟩ := ok i l hl
        exact ⟨e1, by omega, e3⟩
      · exact ⟨p, ys, _, rfl, hp, hys, s3.trans s4⟩
    · rintro σ H3 ⟨q, zs, v, rfl, hq, hzs, s3⟩
      refine ⟨_, rfl, _, ns.length, rfl, .inr ⟨_, SqT.of (s3 _ _ hb), by rw [List.length_map]⟩, _, _, rfl, rfl, decide (1 < ns.length), congrArg V.bl (by by_cases q : 1 < ns.length <;> simp [q] <;> omega), ?_⟩
      by_cases h1 : 1 < ns.length
      · rw [decide_eq_true h1]
        refine iteT ?_
        refine ⟨_, rfl, q, rfl, ⟨_, SqL.of hq⟩, fun L nL => ?_⟩
        have lw := Pd.len hzs
        have p6 : 6 ^ (ns.length - 1) ≤ 6 ^ 5 := Nat.pow_le_pow_right (by decide) (by omega)
        have lw2 := wys_len ws ns l6 (ns.length - 1)
        refine turns (walk_list (K := K) (a := q) (xs := zs)) (fun j H4 => (∃ us, H4 L = some (.lst us) ∧ Txs H4 us (((wys ws ns (ns.length - 1)).take j).filter (cls ws)) ∧ us.length ≤ j) ∧ Same H3 H4) ⟨⟨[], upd_same, .nil, Nat.le_refl _⟩, same_new nL⟩ (fun j H4 _ h => h.2.seq (SqL.of hq)) ?_ ?_
        · rintro j y H4 H4' hj ⟨⟨us, hu, hus, lu⟩, s4⟩ ⟨rfl, hy⟩
          obtain ⟨l, hl, tl⟩ := Pd.get hzs hy
          obtain ⟨e1, e2, e3⟩ := ok _ l (List.mem_of_getElem? hl)
          obtain ⟨ta, rfl, hta⟩ := tl.kt (KT.same s4)
          obtain ⟨x, ex⟩ : ∃ x, l.getLast? = some x := ⟨_, List.getLast?_eq_getLast e1⟩
          obtain ⟨y, ey⟩ : ∃ y, l.head? = some y := ⟨_, List.head?_eq_some_head e1⟩
          refine ⟨rfl, ?_⟩
          refine ⟨_, rfl, 1, rfl, ta, _, -1, .str x, rfl, rfl, SqT.of hta, atI_getLast ex, _, rfl, ta, _, 0, .str y, rfl, rfl, SqT.of hta, atI_nat (j := 0) (by rw [List.getElem?_map, ← List.head?_eq_getElem?, ey]; rfl), (by show 2 ≤ sizeLine; decide), fun t nt => ?_⟩
          have s5 := same_new (o := .tup [.str x, .str y]) nt
          have s35 := s3.trans (s4.trans s5)
          refine ⟨_, rfl, [x, y], ws, wv, c, ⟨t, rfl, upd_same⟩, rfl, .inl (s35.seq hc), hws.kt (KT.same s35), fun z hz => ?_, cpw, _, rfl, ?_⟩
          · rcases List.mem_cons.mp hz with e | hz
            · exact e ▸ cpn _ (e3 _ (List.mem_of_getLast? ex))
            · exact (List.mem_singleton.mp hz) ▸ cpn _ (e3 _ (List.mem_of_head? ey))
          rw [if_neg (by decide)]
          have ec : cls ws l = decide ([x, y] ∈ ws) := by
            unfold cls lst
            rw [ex, ey]
          rw [← ec, take_succ_of hl, List.filter_append]
          cases e : cls ws l with
          | false =>
            refine iteF ⟨⟨us, s5 _ _ hu, ?_, by omega⟩, s4.trans s5⟩
            simpa [e] using hus.kt (KT.same s5)
          | true =>
            refine iteT ?_
            have kt := (KT.same s5).trans (KT.lst (o := .lst (us ++ [.ref ta])) (s5 _ _ hu))
            refine ⟨_, rfl, us, s5 _ _ hu, (by rw [sizeLine_eq]; omega), ⟨us ++ [.ref ta], upd_same, ?_, by rw [List.length_append]; exact Nat.succ_le_succ lu⟩, updN (s4.trans s5) nL⟩
            have e4 : List.filter (cls ws) [l] = [l] := by simp [e]
            rw [e4]
            exact Paired.snoc (hus.kt kt) ⟨ta, rfl, kt _ _ hta⟩
        · rintro H4 ⟨⟨us, hu, hus, lu⟩, s4⟩
          rw [lw, List.take_length] at hus
          refine ⟨Nat.zero_le _, fun q2 nq2 => ?_⟩
          have s5 := same_new (o := .lst []) nq2
          refine ⟨.list (((wys ws ns (ns.length - 1)).filter (cls ws)).map tD), .list [], .lst (SqL.of (s5 _ _ hu)) (hus.kt (KT.same s5)).dp, .lst (SqL.of upd_same) .nil, lD_tDs_shaped (fun v hv z hz => cpn z ((ok _ v (List.mem_filter.mp hv).1).2.2 z hz)), by decide +kernel, ?_⟩
          rw [ne_nil_tx]
          have fin := k _ (s3.trans (s4.trans s5))
          unfold rnd at fin
          rw [decide_eq_true h1, Bool.true_and] at fin
          have ee : (!((wys ws ns (ns.length - 1)).filter (cls ws)).isEmpty) = (wys ws ns (ns.length - 1)).any (cls ws) := by
            rw [Bool.eq_iff_iff]
            simp [List.isEmpty_iff, List.filter_eq_nil_iff]
          rw [ee]
          exact fin
      · rw [decide_eq_false h1]
        refine iteF ?_
        have fin := k _ s3
        unfold rnd at fin
        rw [decide_eq_false h1, Bool.false_and] at fin
        exact fin
end
end KA
set_option Elab.async false
set_option linter.all false
set_option maxRecDepth 100000
set_option maxHeartbeats 4000000
namespace KA
open PySem PySem.Spec PyProof.Rows L2
theorem ne_nil_l (l : List Str) : (!PyData.eqv (lD l) (.list [])) = !l.isEmpty := by
  cases l <;> simp [lD, PyData.eqv, PyData.eqvAll]
theorem eq_nil_l (l : List Str) : PyData.eqv (lD l) (.list []) = l.isEmpty := by
  cases l <;> simp [lD, PyData.eqv, PyData.eqvAll]
theorem ne_filter {α : Type} (f : α → Bool) (l : List α) : (!(l.filter f).isEmpty) = l.any f := by
  rw [Bool.eq_iff_iff]
  simp [List.isEmpty_iff, List.filter_eq_nil_iff]
theorem filter_snoc {α : Type} (f : α → Bool) (l : List α) (x : α) : (l ++ [x]).filter f = l.filter f ++ if f x = true then [x] else [] := by
  rw [List.filter_append]
  cases h : f x <;> simp [h]
section
variable {P : Program} {w : World} {K : PySem.W.Frag} {mg : Str → Option Value} {base : Heap}
/-! ### is_ringless -/
abbrev nRgl : List Str := ["names", "pairs", "left", "kept", "name", "one"]
theorem scRgl : FnScope nRgl ["names", "pairs"] (defScope s_is_ringless) := ⟨rfl, rfl, rfl, by decide +kernel, rfl, by decide +kernel, by decide +kernel⟩
def spRgl (K : PySem.W.Frag) : Sp := fun vs H Q _ => ∃ (b p : Addr) (ns : List Str) (ys : List V) (ws : List (List Str)), vs = [.ref b, .ref p] ∧ H b = some (.tup (ns.map V.str)) ∧ SqT K H p ys ∧ Txs H ys ws ∧ Cp ns ∧ (∀ l ∈ ws, Cp l) ∧ ns.length ≤ 6 ∧ ∀ H', Same H H' → Q (.bl (rgl ws (ns.length + 1) ns)) H'
theorem ok_rgl (D : Df K mg "is_ringless" s_is_ringless ["names", "pairs"]) (T : Fre mg) : Fn P w K mg base "is_ringless" ["names", "pairs"] 1 (spRgl K) := by
  refine D.ok scRgl (fun vs H Q E h => ?_) (fun f cdv A outer s H vs Q E hr h => ?_)
  · obtain ⟨_, _, _, _, _, rfl, _⟩ := h
    rfl
  · obtain ⟨b, p, ns, ys, ws, rfl, hb, hp, hys, cpn, cpw, l6, k⟩ := h
    have nd := scRgl.nd
    refine ⟨_, pss_cons (ps_set (i := 2) nd rfl (.inr rfl) (pe_callTy call_list_of (by rfl) T.list (by decide +kernel) (pa_cons (pv 0) pa_nil)))
      (pss_cons (ps_while PassesOwn.never (pt_cmpR (op_neD hr.units) (pv 2) (pe_lst pa_nil) (nomark _))
        (pss_cons (ps_setLc (i := 3) (own := [("name", 4)]) (g := gName 4) rfl nd rfl rfl (sw_true rfl rfl rfl (by decide +kernel)) (pi_list (pv 2))
            (blkOk_by (N := nRgl) (sc := defScope s_is_ringless) (by decide +kernel)) (fun _ _ _ _ _ => pg_name (i := 4) nd rfl (Or.inr rfl))
            (fun _ _ _ _ _ => pts_one (pt_cmpR (show OpR _ _ (rNeD K) from op_neD hr.units) (pe_lc (own := [("one", 5)]) (g := gName 5) rfl nd (show PI _ _ _ (iList K (tVar 2)) from pi_list (pv 2))
                (blkOk_by (N := nRgl) (by rfl)) (fun _ _ _ _ _ => pg_name (i := 5) nd rfl (Or.inl rfl))
                (fun _ _ _ _ _ => pts_one (pt_cmpR (show OpR _ _ (rInTx K false) from op_inTx (u65 hr)) (pe_tup (pa_cons (pv 5) (pa_cons (pv 4) pa_nil))) (pv 1) (by rfl))) (fun _ _ _ _ _ => pv 5)) (pe_lst pa_nil) (nomark _)))
            (fun _ _ _ _ _ => pv 4))
        (pss_cons (ps_if (pt_cmpR op_eq (pe_callB call_len (by rfl) T.len PySem.boot_len (pa_cons (pv 3) pa_nil)) (pe_callB call_len (by rfl) T.len PySem.boot_len (pa_cons (pv 2) pa_nil)) (nomark _)) (pss_one (ps_ret pe_bl)) pss_nil)
        (pss_one (ps_set (i := 2) nd rfl (.inr rfl) (pv 3))))))
      (pss_one (ps_ret pe_bl))), ?_⟩
    generalize hR : rgl ws (ns.length + 1) ns = R at k
    refine ⟨_, rfl, b, _, rfl, .inr (SqT.of hb), fun l0 nl0 => ?_⟩
    have s1 := same_new (o := .lst (ns.map V.str)) nl0
    refine ⟨fun m σ H1 => ∃ (lq : Addr) (left : List Str) (v : Option V), σ = [some (.ref b), some (.ref p), some (.ref lq), v, none, none] ∧ H1 lq = some (.lst (left.map V.str)) ∧ Same H H1 ∧ rgl ws m left = R ∧ (∀ x ∈ left, x ∈ ns) ∧ left.length < m ∧ left.length ≤ 6,
      ⟨ns.length + 1, l0, ns, none, rfl, upd_same, s1, hR, fun _ h => h, Nat.lt_succ_self _, l6⟩, ?_⟩
    rintro m σ H1 ⟨lq, left, v, rfl, hl, sH, er, sub, hm, h6⟩
    have cpl : Cp left := fun z hz => cpn z (sub z hz)
    refine ⟨_, rfl, Nat.zero_le _, fun q nq => ?_⟩
    have sq := same_new (o := .lst []) nq
    refine ⟨lD left, .list [], .lst (SqL.of (sq _ _ hl)) (Dp.strs left), .lst (SqL.of upd_same) .nil, lD_shaped cpl, by decide +kernel, _, rfl, ?_⟩
    rw [ne_nil_l]
    have sH2 := sH.trans sq
    have hl2 := sq _ _ hl
    generalize upd H1 q (.lst []) = H2 at sH2 hl2
    cases m with
    | zero => exact absurd hm (Nat.not_lt_zero _)
    | succ m =>
    unfold rgl at er
    by_cases e : left = []
    · subst e
      rw [if_pos rfl] at er
      refine iteF ?_
      have fin := k _ sH2
      rw [← er] at fin
      exact fin
    · rw [if_neg e] at er
      have ee : (!left.isEmpty) = true := by
        cases left with
        | nil => exact absurd rfl e
        | cons _ _ => rfl
      rw [ee]
      refine iteT ?_
      refine ⟨fun σ' H' => ∃ (kq : Addr) (v : Option V), σ' = [some (.ref b), some (.ref p), some (.ref kq), v, none, none] ∧ H' kq = some (.lst ((kpt ws left).map V.str)) ∧ Same H H' ∧ (kpt ws left).length ≠ left.length, ?_, ?_⟩
      · rintro σ' H' ⟨kq, v, e1, e2, e3, e4⟩
        rw [if_neg e4] at er
        have lk := List.length_filter_le (fun n => left.any fun o => decide ([o, n] ∈ ws)) left
        have lk : (kpt ws left).length ≤ left.length := lk
        exact ⟨m, Nat.lt_succ_self _, kq, kpt ws left, v, e1, e2, e3, er, fun x hx => sub x (List.mem_filter.mp hx).1, by omega, by omega⟩
      -- kept
      refine ⟨_, rfl, lq, rfl, ⟨_, SqL.of hl2⟩, fun L nL => ?_⟩
      refine turns (walk_list (K := K) (a := lq) (xs := left.map V.str)) (fun j H3 => H3 L = some (.lst (((left.take j).filter fun n => left.any fun o => decide ([o, n] ∈ ws)).map V.str)) ∧ Same H2 H3) ⟨upd_same, same_new nL⟩ (fun j H3 _ h => h.2.seq (SqL.of hl2)) ?_ ?_
      · rintro j y H3 H3' hj ⟨hL, s3⟩ ⟨rfl, hy⟩
        rw [List.getElem?_map] at hy
        obtain ⟨n, hn, rfl⟩ := Option.map_eq_some_iff.mp hy
        have mn := sub n (List.mem_of_getElem? hn)
        rw [List.length_map] at hj
        refine ⟨rfl, ?_⟩
        have hl3 := s3 _ _ hl2
        refine ⟨_, rfl, lq, rfl, ⟨_, SqL.of hl3⟩, fun M nM => ?_⟩
        refine turns (walk_list (K := K) (a := lq) (xs := left.map V.str)) (fun jj H4 => H4 M = some (.lst (((left.take jj).filter fun o => decide ([o, n] ∈ ws)).map V.str)) ∧ Same H3' H4) ⟨upd_same, same_new nM⟩ (fun jj H4 _ h => h.2.seq (SqL.of hl3)) ?_ ?_
        · rintro jj y H4 H4' hjj ⟨hM, s4⟩ ⟨rfl, hy⟩
          rw [List.getElem?_map] at hy
          obtain ⟨o, ho, rfl⟩ := Option.map_eq_some_iff.mp hy
          have mo := sub o (List.mem_of_getElem? ho)
          rw [List.length_map] at hjj
          refine ⟨rfl, ?_⟩
          refine ⟨_, rfl, _, rfl, (by show 2 ≤ sizeLine; decide), fun t nt => ?_⟩
          have s5 := same_new (o := .tup [.str o, .str n]) nt
          have sH5 := sH2.trans (s3.trans (s4.trans s5))
          refine ⟨_, rfl, [o, n], ws, ys, p, ⟨t, rfl, upd_same⟩, rfl, .inr (sameT sH5 hp), hys.kt (KT.same sH5), fun z hz => ?_, cpw, _, rfl, ?_⟩
          · rcases List.mem_cons.mp hz with e | hz
            · exact e ▸ cpn _ mo
            · exact (List.mem_singleton.mp hz) ▸ cpn _ mn
          rw [if_neg (by decide), take_succ_of ho, filter_snoc]
          have hM5 := s5 _ _ hM
          by_cases c : [o, n] ∈ ws
          · rw [decide_eq_true c]
            refine iteT ?_
            refine ⟨_, rfl, _, hM5, ?_, ?_, updN (s4.trans s5) nM⟩
            · rw [List.length_map]
              have := List.length_filter_le (fun o => decide ([o, n] ∈ ws)) (left.take jj)
              rw [List.length_take] at this
              exact small1000 (by omega)
            · rw [upd_same, if_pos rfl, List.map_append]
              rfl
          · rw [decide_eq_false c]
            refine iteF ⟨?_, s4.trans s5⟩
            rw [if_neg (by decide), List.append_nil]
            exact hM5
        · rintro H4 ⟨hM, s4⟩
          rw [List.length_map, List.take_length] at hM
          refine ⟨Nat.zero_le _, fun q2 nq2 => ?_⟩
          have s5 := same_new (o := .lst []) nq2
          refine ⟨lD (left.filter fun o => decide ([o, n] ∈ ws)), .list [], .lst (SqL.of (s5 _ _ hM)) (Dp.strs _), .lst (SqL.of upd_same) .nil, lD_shaped (fun z hz => cpl z (List.mem_filter.mp hz).1), by decide +kernel, _, rfl, ?_⟩
          rw [ne_nil_l, ne_filter, take_succ_of hn, filter_snoc]
          have hL5 := s5 _ _ (s4 _ _ hL)
          cases c : left.any fun o => decide ([o, n] ∈ ws) with
          | true =>
            refine iteT ⟨_, rfl, _, hL5, ?_, ?_, updN (s3.trans (s4.trans s5)) nL⟩
            · rw [List.length_map]
              have := List.length_filter_le (fun n => left.any fun o => decide ([o, n] ∈ ws)) (left.take j)
              rw [List.length_take] at this
              exact small1000 (by omega)
            · rw [upd_same, if_pos rfl, List.map_append]
              rfl
          | false =>
            refine iteF ⟨?_, s3.trans (s4.trans s5)⟩
            rw [if_neg (by decide), List.append_nil]
            exact hL5
      · rintro H3 ⟨hL, s3⟩
        rw [List.length_map, List.take_length] at hL
        have hL : H3 L = some (.lst ((kpt ws left).map V.str)) := hL
        have hl3 := s3 _ _ hl2
        refine ⟨_, rfl, _, (kpt ws left).length, rfl, .inl ⟨_, SqL.of hL, by rw [List.length_map]⟩, _, rfl, _, left.length, rfl, .inl ⟨_, SqL.of hl3, by rw [List.length_map]⟩, rfl, decide ((kpt ws left).length = left.length), congrArg V.bl ?_, ?_⟩
        · by_cases q : (kpt ws left).length = left.length
          · rw [decide_eq_true q, q]
            exact decide_eq_true rfl
          · rw [decide_eq_false q]
            refine decide_eq_false fun z => q ?_
            injection z with z
            omega
        · by_cases q : (kpt ws left).length = left.length
          · rw [decide_eq_true q]
            rw [if_pos q] at er
            refine iteT ?_
            have fin := k _ (sH2.trans s3)
            rw [← er] at fin
            exact fin
          · rw [decide_eq_false q]
            refine iteF ?_
            exact ⟨_, rfl, L, _, rfl, hL, sH2.trans s3, q⟩
/-! ### subsets -/
abbrev nSub : List Str := ["names", "found", "last", "turn", "row", "name"]
theorem scSub : FnScope nSub ["names"] (defScope s_subsets) := ⟨rfl, rfl, rfl, by decide +kernel, rfl, by decide +kernel, by decide +kernel⟩
def spSub (K : PySem.W.Frag) : Sp := fun vs H Q _ => ∃ (a : Addr) (ms : List Str), vs = [.ref a] ∧ SqL K H a (ms.map V.str) ∧ Asc ms ∧ Cp ms ∧ ms.length ≤ 6 ∧
  ∀ p ys H', H p = none → H' p = some (.lst ys) → Txs H' ys ([] :: sts ms ms.length) → Same H H' → Q (.ref p) H'
theorem ok_sub (D : Df K mg "subsets" s_subsets ["names"]) (T : Fre mg) : Fn P w K mg base "subsets" ["names"] 1 (spSub K) := by
  refine D.ok scSub (fun vs H Q E h => ?_) (fun f cdv A outer s H vs Q E hr h => ?_)
  · obtain ⟨_, _, rfl, _⟩ := h
    rfl
  · obtain ⟨a, ms, rfl, ha, asc, cpn, l6, k⟩ := h
    have nd := scSub.nd
    refine ⟨_, pss_cons (ps_par (i := 1) (j := 2) (by rfl) nd rfl rfl (by decide) rfl rfl (pa_cons (pe_lst (pa_cons (pe_tup pa_nil) pa_nil)) (pa_cons (pe_lst (pa_cons (pe_tup pa_nil) pa_nil)) pa_nil)) (by rfl))
      (pss_cons (ps_for PassesOwn.never rfl (pi_range1 (by rfl) T.range (pa_cons (pe_callB call_len (by rfl) T.len PySem.boot_len (pa_cons (pv 0) pa_nil)) pa_nil)) (pg_name (i := 3) nd rfl (.inl rfl))
        (pss_cons (ps_setLc2 (i := 2) (own := [("row", 4), ("name", 5)]) (vs1 := [5]) (g := gName 4) (g1 := gName 5) (tt := tYes) rfl nd rfl rfl (sw_true rfl rfl rfl (by decide +kernel)) (pi_list (pv 2)) (blkOk_by (N := nSub) (sc := defScope s_subsets) (by decide +kernel)) (by decide)
            (fun _ _ _ _ _ => pg_name (i := 4) nd rfl (Or.inl rfl)) (fun _ _ _ _ _ => pts_nil) (fun _ _ _ _ _ => show PI _ _ _ (iList K (tVar 0)) from pi_list (pv 0)) (fun _ _ _ _ _ => pg_name (i := 5) nd rfl (Or.inl rfl))
            (fun _ _ _ _ _ => pts_one (PW.pt (pw_or (pt_cmpR (show OpR _ _ (rEqD K) from op_eqD hr.units) (pv 4) (pe_tup pa_nil) (nomark _)) (pw_or1 (pt_cmpR op_gt_str (pv 5) (pe_ix (r := rIxT K) ix_tup (pv 4) (pe_un un_neg pe_int) (fun _ _ => rfl)) (nomark _))))))
            (fun _ _ _ _ _ => pe_tup (show PA _ _ (StX.tStar K (tVar 4) (tCons (tVar 5) tNil)) from StX.pa_star (pv 4) (pa_cons (pv 5) pa_nil))))
        (pss_one (ps_expr (pe_bm PySem.F.plainAttrs_list PySem.F.slot_list_extend PySem.F.type_list_extend mt_extend (pv 1) (pa_cons (pv 2) pa_nil))))))
      (pss_one (ps_ret (pv 1)))), ?_⟩
    refine ⟨Nat.zero_le _, fun t0 nt0 => ⟨by show 1 ≤ sizeLine; decide, fun q0 nq0 => ⟨Nat.zero_le _, fun t1 nt1 => ⟨by show 1 ≤ sizeLine; decide, fun q1 nq1 => ⟨_, _, rfl, ?_⟩⟩⟩⟩⟩
    have a1 := same_new (o := .tup []) nt0
    have a2 := same_new (o := .lst [.ref t0]) nq0
    have a3 := same_new (o := .tup []) nt1
    have a4 := same_new (o := .lst [.ref t1]) nq1
    have s4 := a1.trans (a2.trans (a3.trans a4))
    have nq0H : H q0 = none := a1.free nq0
    have h0 := a4 _ _ (a3 _ _ (upd_same (H := upd H t0 (.tup [])) (a := q0) (o := .lst [.ref t0])))
    have ht0 := a4 _ _ (a3 _ _ (a2 _ _ (upd_same (H := H) (a := t0) (o := .tup []))))
    have ht1 := a4 _ _ (upd_same (H := upd (upd H t0 (.tup [])) q0 (.lst [.ref t0])) (a := t1) (o := .tup []))
    have h1 := upd_same (H := upd (upd (upd H t0 (.tup [])) q0 (.lst [.ref t0])) t1 (.tup [])) (a := q1) (o := .lst [.ref t1])
    generalize upd (upd (upd (upd H t0 (.tup [])) q0 (.lst [.ref t0])) t1 (.tup [])) q1 (.lst [.ref t1]) = H0 at s4 h0 ht0 ht1 h1
    refine ⟨_, rfl, _, ms.length, rfl, .inl ⟨_, s4.seq ha, by rw [List.length_map]⟩, (ms.length : Int), rfl, by omega, by omega, ?_⟩
    rw [Int.toNat_natCast]
    refine for_range (lo := 0) (n := ms.length) (fun i σ H2 => ∃ (ql : Addr) (us zs : List V) (v : Option V), σ = [some (.ref a), some (.ref q0), some (.ref ql), v, none, none] ∧ ql ≠ q0 ∧ H2 q0 = some (.lst us) ∧ H2 ql = some (.lst zs) ∧ Txs H2 zs (lvl ms i) ∧ Txs H2 us ([] :: sts ms i) ∧ Same H H2)
      ⟨q1, [.ref t0], [.ref t1], none, rfl, fun z => ?_, h0, h1, .cons ⟨t1, rfl, ht1⟩ .nil, .cons ⟨t0, rfl, ht0⟩ .nil, s4⟩ ?_ ?_
    · exact ne_of_none (a3 _ _ upd_same) nq1 z.symm
    · rintro i σ H2 hi ⟨ql, us, zs, v, rfl, nql, hq0, hql, hzs, hus, sH⟩
      have few := lvl_few asc l6 i
      have few1 := lvl_few asc l6 (i + 1)
      have few2 := sts_few asc l6 i
      have lz := Pd.len hzs
      have lu := Pd.len hus
      rw [List.length_cons] at lu
      refine ⟨_, rfl, ql, rfl, ⟨_, SqL.of hql⟩, fun L nL => ?_⟩
      refine turns (walk_list (K := K) (a := ql) (xs := zs)) (fun j H3 => (∃ ls, H3 L = some (.lst ls) ∧ Txs H3 ls (lng ms ((lvl ms i).take j))) ∧ Same H2 H3) ⟨⟨[], upd_same, .nil⟩, same_new nL⟩ (fun j H3 _ h => h.2.seq (SqL.of hql)) ?_ ?_
      · rintro j y H3 H3' hj ⟨⟨ls, hL, hls⟩, s3⟩ ⟨rfl, hy⟩
        obtain ⟨l, hl, tl⟩ := Pd.get hzs hy
        obtain ⟨e1, e2, e3⟩ := mem_lvl.mp (List.mem_of_getElem? hl)
        obtain ⟨ta, rfl, hta⟩ := tl.kt (KT.same s3)
        have ll := Pd.len hls
        have ll2 := lng_len ms ((lvl ms i).take j)
        have ll3 : ((lvl ms i).take j).length * ms.length ≤ 64 * 6 := Nat.mul_le_mul (by rw [List.length_take]; omega) l6
        refine ⟨rfl, ?_⟩
        have hA3 := (sH.trans s3).seq ha
        refine ⟨_, rfl, a, rfl, ⟨_, hA3⟩, ?_⟩
        refine turns (walk_list (K := K) (a := a) (xs := ms.map V.str)) (fun jj H4 => (∃ ls, H4 L = some (.lst ls) ∧ Txs H4 ls (lng ms ((lvl ms i).take j) ++ ((ms.take jj).filter (nxt l)).map fun n => l ++ [n]) ∧ ls.length ≤ 384 + jj) ∧ Same H2 H4 ∧ H4 ta = some (.tup (l.map V.str))) ⟨⟨ls, hL, ?_, by omega⟩, s3, hta⟩ (fun jj H4 _ h => (sH.trans h.2.1).seq ha) ?_ ?_
        · rw [List.take_zero, List.filter_nil, List.map_nil, List.append_nil]
          exact hls
        · rintro jj y H4 H4' hjj ⟨⟨ks, hK, hks, lk⟩, s4, hta4⟩ ⟨rfl, hy⟩
          rw [List.getElem?_map] at hy
          obtain ⟨n, hn, rfl⟩ := Option.map_eq_some_iff.mp hy
          rw [List.length_map] at hjj
          refine ⟨rfl, ?_⟩
          refine nxt_test (l := l) (n := n) (fun R fin => ?_) (fun x H5 R s5 ex fin => ?_) (fun H5 s5 => ?_)
          · refine ⟨_, rfl, Nat.zero_le _, fun q0 nq0 => ?_⟩
            have s5 := same_new (o := .tup []) nq0
            refine ⟨tD l, .tuple [], Tx.dp ⟨ta, rfl, s5 _ _ hta4⟩, .tup (SqT.of upd_same) .nil, tD_shaped (fun z hz => cpn z (e3 z hz)), by decide +kernel, _, rfl, ?_⟩
            rw [eq_nil_tx]
            exact fin _ s5
          · refine ⟨_, rfl, _, rfl, 1, rfl, ta, _, -1, .str x, rfl, rfl, SqT.of (s5 _ _ hta4), atI_getLast ex, n, x, rfl, rfl, _, rfl, ?_⟩
            exact fin _ (Same.refl _)
          · rw [take_succ_of hn, List.filter_append, List.map_append, ← List.append_assoc]
            have hK5 := s5 _ _ hK
            cases e : nxt l n with
            | false =>
              refine iteF ⟨⟨ks, hK5, ?_, by omega⟩, s4.trans s5, s5 _ _ hta4⟩
              simpa [e] using hks.kt (KT.same s5)
            | true =>
              refine iteT ?_
              have lt : l.length ≤ 6 := Nat.le_trans (nd_sub_len e2.nd e3) l6
              refine ⟨_, rfl, ta, _, rfl, .inl (SqT.of (s5 _ _ hta4)), _, rfl, ?_, fun p np => ?_⟩
              · rw [List.length_append, List.length_map]
                exact Nat.le_of_lt (small1000 (by simp; omega))
              · have s6 := s5.trans (same_new (o := .tup (l.map V.str ++ [V.str n])) np)
                have hK6 := s6 _ _ hK
                refine ⟨ks, hK6, by rw [sizeLine_eq]; omega, ⟨ks ++ [.ref p], upd_same, ?_, by rw [List.length_append]; exact Nat.succ_le_succ lk⟩, updN (s4.trans s6) nL, (KT.lst hK6) _ _ (s6 _ _ hta4)⟩
                have e4 : ([n].filter (nxt l)).map (fun n => l ++ [n]) = [l ++ [n]] := by simp [e]
                rw [e4]
                refine Paired.snoc (hks.kt ((KT.same s6).trans (KT.lst hK6))) ⟨p, rfl, (KT.lst hK6) _ _ ?_⟩
                rw [upd_same, snoc_map]
        · rintro H4 ⟨⟨ks, hK, hks, lk⟩, s4, _⟩
          rw [List.length_map, List.take_length] at hks
          refine ⟨⟨ks, hK, ?_⟩, s4⟩
          rw [take_succ_of hl]
          show Txs _ _ (((lvl ms i).take j ++ [l]).flatMap _)
          rw [flat_snoc]
          exact hks
      · rintro H3 ⟨⟨ls, hL, hls⟩, s3⟩
        rw [lz, List.take_length] at hls
        have hls : Txs H3 ls (lvl ms (i + 1)) := hls
        have ll := Pd.len hls
        have nL0 : L ≠ q0 := fun z => by rw [z, hq0] at nL; cases nL
        have hq3 := s3 _ _ hq0
        refine ⟨_, rfl, .inl ⟨rfl, _, SqL.of hq3⟩, _, rfl, q0, L, us, ls, rfl, rfl, hq3, hL, by rw [sizeLine_eq]; omega, ?_⟩
        have kt := KT.lst (o := .lst (us ++ ls)) hq3
        refine ⟨L, us ++ ls, ls, _, rfl, nL0, upd_same, ?_, hls.kt kt, Pd.app (hus.kt ((KT.same s3).trans kt)) (hls.kt kt), updN (sH.trans s3) nq0H⟩
        rw [upd_ne nL0]
        exact hL
    · rintro σ H2 ⟨ql, us, zs, v, rfl, nql, hq0, hql, hzs, hus, sH⟩
      exact ⟨_, rfl, k q0 us H2 nq0H hq0 hus sH⟩
end
end KA
set_option Elab.async false
set_option linter.all false
set_option maxRecDepth 100000
set_option maxHeartbeats 4000000
namespace KA
open PySem PySem.Spec PyProof.Rows L2
theorem rs_snoc (ws : List (List Str)) (L : List (List Str)) (x : List Str) : rsets ws (L ++ [x]) = rstep ws (rsets ws L) x := by
  unfold rsets
  rw [List.foldl_append]
  rfl
theorem rstep_or (ws acc : List (List Str)) (x : List Str) : rstep ws acc x = acc ∨ rstep ws acc x = acc ++ [x] := by
  unfold rstep
  split
  · exact .inr rfl
  · exact .inl rfl
theorem rs_fold (ws : List (List Str)) : ∀ (L acc : List (List Str)), (L.foldl (rstep ws) acc).length ≤ acc.length + L.length ∧ ∀ l ∈ L.foldl (rstep ws) acc, l ∈ acc ∨ l ∈ L
  | [], acc => ⟨by simp, fun l h => .inl h⟩
  | x :: L, acc => by
    obtain ⟨h1, h2⟩ := rs_fold ws L (rstep ws acc x)
    rw [List.foldl_cons, List.length_cons]
    rcases rstep_or ws acc x with e | e <;> rw [e] at h1 h2 ⊢
    · exact ⟨by omega, fun l h => (h2 l h).imp_right (List.mem_cons_of_mem _)⟩
    · refine ⟨by rw [List.length_append] at h1; simp at h1; omega, fun l h => ?_⟩
      rcases h2 l h with h | h
      · rcases List.mem_append.mp h with h | h
        · exact .inl h
        · exact .inr (by rw [List.mem_singleton.mp h]; exact List.mem_cons_self ..)
      · exact .inr (List.mem_cons_of_mem _ h)
theorem rs_len (ws L : List (List Str)) : (rsets ws L).length ≤ L.length := by
  have := (rs_fold ws L []).1
  simpa [rsets] using this
theorem rs_mem {ws L : List (List Str)} {l : List Str} (h : l ∈ rsets ws L) : l ∈ L := ((rs_fold ws L []).2 l h).resolve_left fun z => nomatch z
theorem rs_nil (ws S : List (List Str)) : rsets ws ([] :: S) = rsets ws S := rfl
section
variable {P : Program} {w : World} {K : PySem.W.Frag} {mg : Str → Option Value} {base : Heap}
/-- a comprehension that keeps those of a tuple that are not in another one -/
abbrev nRs : List Str := ["catalogue", "found", "names", "has_less", "one", "name"]
theorem scRs : FnScope nRs ["catalogue"] (defScope s_ring_sets) := ⟨rfl, rfl, rfl, by decide +kernel, rfl, by decide +kernel, by decide +kernel⟩
def spRs (C : Addr) : Sp := fun vs H Q _ => ∃ (x : Addr) (ms : List Str) (rv : Str → V) (ps : List (List Str)), vs = [.ref x] ∧ Cat C H x ms rv ps ∧ ∀ p ys H', H p = none → H' p = some (.lst ys) → Txs H' ys (rsets ps (sts ms ms.length)) → Same H H' → Q (.ref p) H'
theorem ok_rs {C : Addr} {B : FuncData → Prop} (D : Df K mg "ring_sets" s_ring_sets ["catalogue"] B) (GS : Fn P w K mg base "subsets" ["names"] 1 (spSub K)) (GR : Fn P w K mg base "is_ringless" ["names", "pairs"] 1 (spRgl K)) (T : Fre mg) (Ct : CatT K mg C) : Fn P w K mg base "ring_sets" ["catalogue"] 2 (spRs C) B := by
  refine D.ok scRs (fun vs H Q E h => ?_) (fun f cdv A outer s H vs Q E hr h => ?_)
  · obtain ⟨_, _, _, _, rfl, _⟩ := h
    rfl
  · obtain ⟨x, ms, rv, ps, rfl, hc, k⟩ := h
    have nd := scRs.nd
    refine ⟨_, pss_cons (ps_set (i := 1) nd rfl (.inl rfl) (pe_lst pa_nil))
      (pss_cons (ps_for PassesOwn.never rfl (pi_list (pe_fn GS hr (by rfl) (pa_cons (pe_callTy (call_listD rfl) (by rfl) T.list (by decide +kernel) (pa_cons (pe_fld (pv 0) rfl) pa_nil)) pa_nil))) (pg_name (i := 2) nd rfl (.inr rfl))
        (pss_cons (ps_set (i := 3) nd rfl (.inl rfl) (pe_cmpR (op_neD hr.units) (pe_lc (own := [("one", 4)]) (g := gName 4) rfl nd (pi_list (pv 1))
            (blkOk_by (N := nRs) (sc := defScope s_ring_sets) (by decide +kernel)) (fun _ _ _ _ _ => pg_name (i := 4) nd rfl (Or.inl rfl))
            (fun _ _ _ _ _ => pts_one (pt_cmpR (show OpR _ _ (rEqD K) from op_eqD hr.units) (pe_lc (own := [("name", 5)]) (g := gName 5) rfl nd (show PI _ _ _ (iTup K (tVar 4)) from pi_tup (pv 4))
                (blkOk_by (N := nRs) (by rfl)) (fun _ _ _ _ _ => pg_name (i := 5) nd rfl (Or.inl rfl))
                (fun _ _ _ _ _ => pts_one (pt_cmpR (show OpR _ _ (rIn K true) from op_notIn_seq) (pv 5) (pv 2) (by rfl))) (fun _ _ _ _ _ => pv 5)) (pe_lst pa_nil) (nomark _)))
            (fun _ _ _ _ _ => pv 4)) (pe_lst pa_nil) (nomark _)))
        (pss_one (ps_if (PW.pt (pw_and (pt_not (pt_val (pv 3))) (pw_and1 (pt_not (pt_val (pe_fn GR hr (by rfl) (pa_cons (pv 2) (pa_cons (pe_fld (pv 0) rfl) pa_nil))))))))
          (pss_one (ps_expr (pe_bm PySem.F.plainAttrs_list PySem.F.slot_list_append PySem.F.type_list_append mt_append (pv 1) (pa_cons (pv 2) pa_nil)))) pss_nil))))
      (pss_one (ps_ret (pv 1)))), ?_⟩
    obtain ⟨dx, d, p, ys, hx, hd, hp, hys⟩ := hc.at_
    have cpn : Cp ms := fun z hz => (hc.ok.nm z hz).cp
    have cpw : ∀ l ∈ ps, Cp l := fun l hl z hz => by
      obtain ⟨u, v, rfl, mu, mv, _⟩ := hc.ok.prs l hl
      rcases List.mem_cons.mp hz with e | hz
      · exact e ▸ cpn u mu
      · exact (List.mem_singleton.mp hz) ▸ cpn v mv
    have l6 := hc.ok.six
    have asc := asc_of hc.srt hc.ok.nd
    refine ⟨Nat.zero_le _, fun q0 nq0 => ?_⟩
    have s1 := same_new (o := .lst []) nq0
    have hq0 := upd_same (H := H) (a := q0) (o := .lst [])
    generalize upd H q0 (.lst []) = H1 at s1 hq0
    refine ⟨_, rfl, x, C, dx, _, _, rfl, s1 _ _ hx, Ct.cl, Ct.nR, catF_r d p, d, _, rfl, .inl (s1 _ _ hd), fun l nl => ?_⟩
    have s2 := s1.trans (same_new (o := .lst ((nkv ms rv).map fun kv => kV kv.1)) nl)
    have hq2 := (same_new (o := .lst ((nkv ms rv).map fun kv => kV kv.1)) nl) _ _ hq0
    refine ⟨l, ms, rfl, SqL.of (by rw [upd_same, nkv_keys]), asc, cpn, l6, fun sl zs H2 nsl hsl hzs s3 => ⟨sl, rfl, ⟨_, SqL.of hsl⟩, ?_⟩⟩
    have few := sts_few asc l6 ms.length
    have inS : ∀ v ∈ [] :: sts ms ms.length, Cp v ∧ v.length ≤ 6 := fun v hv => by
      rcases List.mem_cons.mp hv with e | hv
      · rw [e]
        exact ⟨(fun _ z => nomatch z), Nat.zero_le _⟩
      · obtain ⟨_, _, h1, h2⟩ := mem_sts.mp hv
        exact ⟨fun z hz => cpn z (h2 z hz), Nat.le_trans (nd_sub_len h1.nd h2) l6⟩
    have few' : ([] :: sts ms ms.length).length ≤ 65 := by rw [List.length_cons]; omega
    have fin0 : rsets ps ([] :: sts ms ms.length) = rsets ps (sts ms ms.length) := rs_nil ps _
    generalize hS : ([] : List Str) :: sts ms ms.length = S at hzs inS few' fin0
    have hsq : sl ≠ q0 := fun z => by
      rw [z] at nsl
      rw [hq2] at nsl
      cases nsl
    refine for_list (K := K) (a := sl) (xs := zs) (fun i σ H3 => ∃ (us : List V) (v2 v3 : Option V), σ = [some (.ref x), some (.ref q0), v2, v3, none, none] ∧ H3 q0 = some (.lst us) ∧ Txs H3 us (rsets ps (S.take i)) ∧ Same H H3 ∧ H3 sl = some (.lst zs) ∧ KT H2 H3)
      ⟨[], none, none, rfl, s3 _ _ hq2, .nil, s2.trans s3, hsl, KT.refl _⟩ (fun i σ H3 _ ⟨_, _, _, _, _, _, _, h, _⟩ => SqL.of h) ?_ ?_
    · rintro i y σ H3 hi ⟨us, v2, v3, rfl, hq, hus, sH, hsl3, kt⟩
      obtain ⟨names, hn, tn⟩ := Pd.get hzs hi
      obtain ⟨cn, ln⟩ := inS names (List.mem_of_getElem? hn)
      obtain ⟨ta, rfl, hta⟩ := tn.kt kt
      have inF : ∀ v ∈ rsets ps (S.take i), Cp v ∧ v.length ≤ 6 := fun v hv => inS v (List.mem_of_mem_take (rs_mem hv))
      have lu := Pd.len hus
      have lu2 := rs_len ps (S.take i)
      rw [List.length_take] at lu2
      -- has_less
      refine ⟨_, rfl, q0, rfl, ⟨_, SqL.of hq⟩, fun L nL => ?_⟩
      refine turns (walk_list (K := K) (a := q0) (xs := us)) (fun j H4 => (∃ ls, H4 L = some (.lst ls) ∧ Txs H4 ls (((rsets ps (S.take i)).take j).filter fun one => sub one names) ∧ ls.length ≤ j) ∧ Same H3 H4) ⟨⟨[], upd_same, .nil, Nat.le_refl _⟩, same_new nL⟩ (fun j H4 _ h => h.2.seq (SqL.of hq)) ?_ ?_
      · rintro j y H4 H4' hj ⟨⟨ls, hL, hls, ll⟩, s4⟩ ⟨rfl, hy⟩
        obtain ⟨one, ho, to⟩ := Pd.get hus hy
        obtain ⟨co, lo⟩ := inF one (List.mem_of_getElem? ho)
        obtain ⟨tb, rfl, htb⟩ := to.kt (KT.same s4)
        refine ⟨rfl, ?_⟩
        refine ⟨_, rfl, tb, rfl, ⟨_, SqT.of htb⟩, fun M nM => ?_⟩
        refine turns (walk_tup (K := K) (a := tb) (xs := one.map V.str)) (fun jj H5 => H5 M = some (.lst (((one.take jj).filter fun n => decide (n ∉ names)).map V.str)) ∧ Same H4' H5) ⟨upd_same, same_new nM⟩ (fun jj H5 _ h => SqT.of (h.2 _ _ htb)) ?_ ?_
        · rintro jj y H5 H5' hjj ⟨hM, s5⟩ ⟨rfl, hy⟩
          rw [List.getElem?_map] at hy
          obtain ⟨n, hnn, rfl⟩ := Option.map_eq_some_iff.mp hy
          rw [List.length_map] at hjj
          refine ⟨rfl, ?_⟩
          refine ⟨_, rfl, _, rfl, ta, _, rfl, .inr (SqT.of (s5 _ _ (s4 _ _ hta))), rfl, flat_strs names, _, rfl, ?_⟩
          rw [if_pos rfl, inV_no, take_succ_of hnn, filter_snoc]
          cases c : decide (n ∉ names) with
          | true =>
            refine iteT ⟨_, rfl, _, hM, ?_, ?_, updN s5 nM⟩
            · rw [List.length_map]
              have := List.length_filter_le (fun n => decide (n ∉ names)) (one.take jj)
              rw [List.length_take] at this
              exact small1000 (by omega)
            · rw [upd_same, if_pos rfl, List.map_append]
              rfl
          | false =>
            refine iteF ⟨?_, s5⟩
            rw [if_neg (by decide), List.append_nil]
            exact hM
        · rintro H5 ⟨hM, s5⟩
          rw [List.length_map, List.take_length] at hM
          refine ⟨Nat.zero_le _, fun q2 nq2 => ?_⟩
          have s6 := same_new (o := .lst []) nq2
          refine ⟨lD (one.filter fun n => decide (n ∉ names)), .list [], .lst (SqL.of (s6 _ _ hM)) (Dp.strs _), .lst (SqL.of upd_same) .nil, lD_shaped (fun z hz => co z (List.mem_filter.mp hz).1), by decide +kernel, _, rfl, ?_⟩
          rw [eq_nil_l, take_succ_of ho, filter_snoc]
          have s46 := s4.trans (s5.trans s6)
          have hL6 := s6 _ _ (s5 _ _ hL)
          have es : (one.filter fun n => decide (n ∉ names)).isEmpty = sub one names := rfl
          rw [es]
          cases c : sub one names with
          | true =>
            have kt6 := (KT.same (s5.trans s6)).trans (KT.lst (o := .lst (ls ++ [.ref tb])) hL6)
            refine iteT ⟨_, rfl, ls, hL6, small1000 (by omega), ⟨ls ++ [.ref tb], upd_same, ?_, by rw [List.length_append]; exact Nat.succ_le_succ ll⟩, updN s46 nL⟩
            rw [if_pos rfl]
            exact Paired.snoc (hls.kt kt6) ⟨tb, rfl, kt6 _ _ htb⟩
          | false =>
            refine iteF ⟨⟨ls, hL6, ?_, by omega⟩, s46⟩
            rw [if_neg (by decide), List.append_nil]
            exact hls.kt (KT.same (s5.trans s6))
      · rintro H4 ⟨⟨ls, hL, hls, ll⟩, s4⟩
        rw [lu, List.take_length] at hls
        refine ⟨Nat.zero_le _, fun q2 nq2 => ?_⟩
        have s5 := same_new (o := .lst []) nq2
        refine ⟨.list (((rsets ps (S.take i)).filter fun one => sub one names).map tD), .list [], .lst (SqL.of (s5 _ _ hL)) (hls.kt (KT.same s5)).dp, .lst (SqL.of upd_same) .nil, lD_tDs_shaped (fun v hv => (inF v (List.mem_filter.mp hv).1).1), by decide +kernel, ?_⟩
        rw [ne_nil_tx]
        have s35 := s4.trans s5
        generalize upd H4 q2 (.lst []) = H5 at s35
        have nqH : H q0 = none := nq0
        rw [take_succ_of hn, rs_snoc]
        have stay : ∀ H6, Same H5 H6 → rstep ps (rsets ps (S.take i)) names = rsets ps (S.take i) → ∀ v3 : Option V, ∃ (us : List V) (v2 v3' : Option V), [some (.ref x), some (.ref q0), some (.ref ta), v3, none, none] = [some (.ref x), some (.ref q0), v2, v3', none, none] ∧ H6 q0 = some (.lst us) ∧ Txs H6 us (rstep ps (rsets ps (S.take i)) names) ∧ Same H H6 ∧ H6 sl = some (.lst zs) ∧ KT H2 H6 := fun H6 s6 e v3 => by
          have s36 := s35.trans s6
          rw [e]
          exact ⟨us, _, _, rfl, s36 _ _ hq, hus.kt (KT.same s36), sH.trans s36, s36 _ _ hsl3, kt.trans (KT.same s36)⟩
        refine ⟨_, rfl, !((rsets ps (S.take i)).filter fun one => sub one names).isEmpty, rfl, ?_⟩
        cases c1 : ((rsets ps (S.take i)).filter fun one => sub one names).isEmpty with
        | false =>
          refine iteF (iteF (stay H5 (Same.refl _) ?_ _))
          unfold rstep
          rw [if_neg fun z => by rw [c1] at z; cases z.1]
        | true =>
          refine iteT ?_
          have hx5 := (sH.trans s35) _ _ hx
          refine ⟨_, rfl, _, rfl, x, C, dx, _, _, rfl, hx5, Ct.cl, Ct.nP, catF_p d p, ta, p, names, ys, ps, rfl, s35 _ _ hta, SqT.of ((sH.trans s35) _ _ hp), hys.kt (KT.same (sH.trans s35)), cn, cpw, ln, fun H6 s6 => ?_⟩
          refine ⟨_, rfl, ?_⟩
          cases c2 : rgl ps (names.length + 1) names with
          | true =>
            refine iteF (stay H6 s6 ?_ _)
            unfold rstep
            rw [if_neg fun z => by rw [c2] at z; cases z.2]
          | false =>
            refine iteT ?_
            have s36 := s35.trans s6
            have hq6 := s36 _ _ hq
            refine ⟨_, rfl, .inl ⟨rfl, _, SqL.of hq6⟩, _, rfl, q0, us, _, rfl, rfl, hq6, small1000 (by omega), ?_⟩
            have kt6 := (KT.same s36).trans (KT.lst (o := .lst (us ++ [.ref ta])) hq6)
            have er : rstep ps (rsets ps (S.take i)) names = rsets ps (S.take i) ++ [names] := by
              unfold rstep
              rw [if_pos ⟨c1, c2⟩]
            rw [er]
            refine ⟨us ++ [.ref ta], _, _, rfl, upd_same, Paired.snoc (hus.kt kt6) ⟨ta, rfl, kt6 _ _ hta⟩, updN (sH.trans s36) nqH, ?_, kt.trans kt6⟩
            rw [upd_ne hsq]
            exact s36 _ _ hsl3
    · rintro σ H3 ⟨us, v2, v3, rfl, hq, hus, sH, _, _⟩
      have : S.take zs.length = S := by rw [Pd.len hzs, List.take_length]
      rw [this, fin0] at hus
      exact ⟨_, rfl, k q0 us H3 nq0 hq hus sH⟩
end
end KA
set_option Elab.async false
set_option linter.all false
set_option maxRecDepth 100000
set_option maxHeartbeats 4000000
namespace KA
open PySem PySem.Spec PyProof.Rows L2
/-! ### repr of lists of tuples of names -/
theorem sum_le {α : Type} (f : α → Nat) {B : Nat} : ∀ {l : List α}, (∀ x ∈ l, f x ≤ B) → (l.map f).sum ≤ l.length * B
  | [], _ => by simp
  | x :: l, h => by
    have h1 := sum_le f (B := B) (l := l) fun y hy => h y (List.mem_cons_of_mem _ hy)
    have h2 := h x (List.mem_cons_self ..)
    rw [List.map_cons, List.sum_cons, List.length_cons, Nat.succ_mul]
    omega
theorem shown_strs : ∀ l : List Str, PyData.shownAll (l.map .str) = l.map reprText
  | [] => by simp [PyData.shownAll]
  | x :: l => by
    rw [List.map_cons, List.map_cons, PyData.shownAll, shown_strs l, PyData.shown]
theorem shown_tDs : ∀ L : List (List Str), PyData.shownAll (L.map tD) = L.map fun l => (tD l).shown
  | [] => by simp [PyData.shownAll]
  | x :: l => by
    rw [List.map_cons, List.map_cons, PyData.shownAll, shown_tDs l]
theorem showable_strs : ∀ l : List Str, PyData.showableAll (l.map .str) = true
  | [] => by simp [PyData.showableAll]
  | x :: l => by
    rw [List.map_cons, PyData.showableAll, showable_strs l, PyData.showable]
    rfl
theorem showable_tDs : ∀ L : List (List Str), PyData.showableAll (L.map tD) = true
  | [] => by simp [PyData.showableAll]
  | x :: l => by
    rw [List.map_cons, PyData.showableAll, showable_tDs l, tD, PyData.showable, showable_strs]
    rfl
theorem repr_nm {z : Str} (h : PyData.strOk z = true) (h8 : z.length ≤ 8) : (reprText z).length ≤ 82 := by
  have := StrLaws.reprText_len z fun c hc => by
    unfold PyData.strOk at h
    rw [← Array.all_toList] at h
    have := of_decide_eq_true (List.all_eq_true.mp h c hc)
    omega
  omega
/-- what call_repr asks of such a list -/
theorem rows_show {L : List (List Str)} (hl : L.length ≤ 1000) (h : ∀ l ∈ L, l.length ≤ 10 ∧ ∀ z ∈ l, PyData.strOk z = true ∧ z.length ≤ 8) :
    (PyData.list (L.map tD)).showable = true ∧ (PyData.list (L.map tD)).hasDict = false ∧ (PyData.list (L.map tD)).depth ≤ 64 ∧ (PyData.list (L.map tD)).shown.length ≤ sizeLine := by
  refine ⟨?_, ?_, ?_, ?_⟩
  · rw [PyData.showable, showable_tDs]
  · refine PyData.hasDict_of_canLay _ ?_
    rw [PyData.canLay0]
    exact tDs_lay fun l hl z hz => ((h l hl).2 z hz).1
  · have := tDs_depth L
    rw [PyData.depth]
    omega
  · rw [PyData.shown, shown_tDs]
    have h1 := listText_len_le (L.map fun l => (tD l).shown)
    rw [List.map_map, List.length_map] at h1
    have h2 : (L.map ((fun x : Str => x.length) ∘ fun l => (tD l).shown)).sum ≤ L.length * 843 := sum_le _ fun l ml => by
      show (tD l).shown.length ≤ 843
      rw [tD, PyData.shown, shown_strs]
      have h3 := tupleText_len_le (l.map reprText)
      rw [List.map_map, List.length_map] at h3
      have h4 : (l.map ((fun x : Str => x.length) ∘ reprText)).sum ≤ l.length * 82 := sum_le _ fun z hz => repr_nm ((h l ml).2 z hz).1 ((h l ml).2 z hz).2
      have h5 := (h l ml).1
      have h6 : l.length * 82 ≤ 10 * 82 := Nat.mul_le_mul_right _ h5
      omega
    have h7 : L.length * 843 ≤ 1000 * 843 := Nat.mul_le_mul_right _ hl
    rw [sizeLine_eq]
    omega
end KA
set_option Elab.async false
set_option linter.all false
set_option maxRecDepth 100000
set_option maxHeartbeats 4000000
namespace KA
open PySem PySem.Spec PyProof.Rows L2
/-! ### the head's facts: defs by a path of one's own, properties -/
/-- the property object f of the class x, its getter -/
def prA (x f : Str) (K : PySem.W.Frag) : Addr := He.ma K (He.ga K x) f
def gtA (x f : Str) (K : PySem.W.Frag) : Addr := match PySem.W.recIn K (prA x f K) "property" with
  | some (.ref g :: _) => g
  | _ => 0
def prB (K : PySem.W.Frag) (x f : Str) : Bool := He.eqO (PySem.W.findIn K (.ref (He.ga K x)) f) (some (some (.ref (prA x f K)))) &&
  (He.eqO (PySem.W.specialIn K (.ref (prA x f K)) "__get__") (some (some (.builtin "property.__get__"))) && (decide (PySem.W.takesIn K (.ref (prA x f K)) = some true) &&
    match PySem.W.recIn K (prA x f K) "property" with
    | some (.ref _ :: _) => true
    | _ => false))
theorem prB_ok {K : PySem.W.Frag} {x f : Str} (h : prB K x f = true) : PropOf K (He.ga K x) f (prA x f K) (gtA x f K) := by
  obtain ⟨h1, h⟩ := He.ba h
  obtain ⟨h2, h⟩ := He.ba h
  obtain ⟨h3, h4⟩ := He.ba h
  refine ⟨He.eqO_ok h1, He.eqO_ok h2, of_decide_eq_true h3, ?_⟩
  unfold gtA
  split at h4
  · rename_i g r q
    rw [q]
    exact ⟨r, rfl⟩
  · cases h4
/-- one def: the path to its function, its name, qualified name, statement, defaults -/
structure DfP where
  pth : PySem.W.Frag → Addr
  name : Str
  qual : Str
  st : Stmt
  dfl : List He.Dv := []
def glP (x : Str) (st : Stmt) : DfP := ⟨fun K => He.ga K x, x, x, st, []⟩
def DfP.told (K : PySem.W.Frag) (d : DfP) : He.FnW := match K.lookup (d.pth K) with
  | some ⟨_, _, .func fd, _⟩ => some (fd.name, fd.qualname, fd.params, fd.body, fd.scope, fd.globals, fd.closure, fd.builtins)
  | _ => none
def DfP.due (d : DfP) : He.FnW := some (d.name, d.qual, defArgs d.st, .stmts (defBody d.st), defScope d.st, mainGlobals, [], builtinsNs)
def DfP.vs (K : PySem.W.Frag) (d : DfP) : List V := d.dfl.map (He.Dv.v K)
def DfP.good (K : PySem.W.Frag) (d : DfP) : Bool := PySem.W.keepIn K (.ref (d.pth K)) && match K.lookup (d.pth K) with
  | some ⟨_, _, .func fd, _⟩ => PySem.W.codeIn K fd.code d.qual && He.dflB K fd.defaults (d.vs K)
  | _ => false
theorem DfP.fun_ {K : PySem.W.Frag} {d : DfP} (e : d.told K = d.due) (c : d.good K = true) : ∃ fd, FunD K d.name d.qual (defArgs d.st) (defBody d.st) (defScope d.st) (d.vs K) [] (d.pth K) fd := by
  obtain ⟨kp, c⟩ := He.ba c
  unfold DfP.told at e
  split at e
  · rename_i oc od fd osl q
    rw [q] at c
    obtain ⟨c1, c2⟩ := He.ba c
    unfold DfP.due at e
    have e := Option.some.inj e
    have e1 := congrArg (·.1) e
    have e2 := congrArg (·.2.1) e
    have e3 := congrArg (·.2.2.1) e
    have e4 := congrArg (·.2.2.2.1) e
    have e5 := congrArg (·.2.2.2.2.1) e
    have e6 := congrArg (·.2.2.2.2.2.1) e
    have e7 := congrArg (·.2.2.2.2.2.2.1) e
    have e8 := congrArg (·.2.2.2.2.2.2.2) e
    refine ⟨fd, ⟨oc, od, fd.defaults, fd.kwdefaults, fd.doc, fd.pyModule, fd.annotations, fd.code, fd.closureTuple, osl, ?_, q, c1, He.dflB_ok c2, .inl rfl⟩, kp⟩
    cases fd
    cases e1
    cases e2
    cases e3
    cases e4
    cases e5
    cases e6
    cases e7
    cases e8
    rfl
  · cases e
def obsP (fa : List He.Fa) (pr : List (Str × Str)) (fn : List DfP) (K : PySem.W.Frag) : He.AlD := ((fa.all fun f => f.ok K) && ((pr.all fun p => prB K p.1 p.2) && fn.all fun d => d.good K), fn.map fun d => d.told K)
def valP (fn : List DfP) : He.AlD := (true, fn.map DfP.due)
def SaysP (fa : List He.Fa) (pr : List (Str × Str)) (fn : List DfP) (K : PySem.W.Frag) : Prop := obsP fa pr fn K = valP fn
def obsPG (n : Nat) (fa : List He.Fa) (pr : List (Str × Str)) (fn : List DfP) (g : Addr → Option Obj) : He.AlD := obsP fa pr fn (He.frG g (He.asD g n))
def hookP (n : Nat) (fa : List He.Fa) (pr : List (Str × Str)) (fn : List DfP) : PySem.W.Hook where
  α := He.AlD
  obs := fun s => obsPG n fa pr fn s.heap.get?
  val := fun _ => valP fn
  says := fun _ h => ∃ K : PySem.W.Frag, K.In h ∧ SaysP fa pr fn K
  of := fun _ _ e => ⟨_, He.frG_in, e⟩
  keeps := fun _ _ _ ⟨K, hK, c⟩ k => ⟨K, PySem.W.Frag.In.keeps hK k, c⟩
theorem obsPG_eq {n : Nat} {fa : List He.Fa} {pr : List (Str × Str)} {fn : List DfP} {g : Addr → Option Obj} {s : Shared} (h : ∀ a, g a = s.heap.get? a) : obsPG n fa pr fn g = (hookP n fa pr fn).obs s := by
  show obsPG n fa pr fn g = obsPG n fa pr fn s.heap.get?
  rw [funext h]
section
variable {fs : List He.Fa} {qs : List (Str × Str)} {ds : List DfP} {K : PySem.W.Frag}
theorem SaysP.all (c : SaysP fs qs ds K) : (fs.all fun f => f.ok K) = true ∧ (qs.all fun p => prB K p.1 p.2) = true ∧ (ds.all fun d => d.good K) = true := by
  have h : (obsP fs qs ds K).1 = true := by rw [show obsP fs qs ds K = valP ds from c]; rfl
  obtain ⟨h1, h⟩ := He.ba h
  exact ⟨h1, He.ba h⟩
theorem SaysP.fa (c : SaysP fs qs ds K) {f : He.Fa} (h : f ∈ fs) : f.ok K = true := List.all_eq_true.mp c.all.1 f h
theorem SaysP.pr (c : SaysP fs qs ds K) {p : Str × Str} (h : p ∈ qs) : prB K p.1 p.2 = true := List.all_eq_true.mp c.all.2.1 p h
theorem SaysP.fn (c : SaysP fs qs ds K) {d : DfP} (i : Nat) (h : ds[i]? = some d) : ∃ fd, FunD K d.name d.qual (defArgs d.st) (defBody d.st) (defScope d.st) (d.vs K) [] (d.pth K) fd := by
  refine DfP.fun_ ?_ (List.all_eq_true.mp c.all.2.2 d (List.mem_of_getElem? h))
  have e : (ds.map fun d => d.told K)[i]? = (ds.map DfP.due)[i]? := by rw [show ds.map (fun d => d.told K) = ds.map DfP.due from congrArg (·.2) c]
  rw [List.getElem?_map, List.getElem?_map, h] at e
  exact Option.some.inj e
end
end KA
set_option Elab.async false
set_option linter.all false
set_option maxRecDepth 100000
set_option maxHeartbeats 4000000
namespace KA
open PySem PySem.Spec PyProof.Rows L2
/-! ### calls in which nothing is being shown: repr of data -/
section
variable {P : Program} {w : World} {K : PySem.W.Frag} {mg : Str → Option Value} {base : Heap} {CX : CXT}
/-- no container's repr is under way -/
abbrev Clr (A : Around) : Prop := A.guards = some []
/-- a promise that is kept where none is -/
structure FnC (P : Program) (w : World) (K : PySem.W.Frag) (mg : Str → Option Value) (base : Heap) (CX : CXT) (k : Nat) (f : Addr) (fd : FuncData) (ps : List Str) (sp : Sp) : Prop where
  len : ∀ vs H Q E, sp vs H Q E → vs.length = ps.length
  run : ∀ (A : Around) (outer : List Env) (s : Shared) (H : Hp) (args : Args) (us : List Value) (vs : List V) (Q : VK) (E : XK), Clr A → Room k A → Env0 P w K mg base A outer s H → BindsTo s fd args (ps.zip us) → Vals vs us → sp vs H Q E →
    codeAny (model P w) A (.call (.ref f) args) (CR CX outer P w H s Q E) s
theorem FnC.of {k : Nat} {f : Addr} {fd : FuncData} {ps : List Str} {sp : Sp} (F : FnOk P w K mg base CX k f fd ps sp) : FnC P w K mg base CX k f fd ps sp := ⟨F.len, fun A o s H args us vs Q E _ => F.run A o s H args us vs Q E⟩
/-- such a def, by its body -/
theorem fn_clr {k : Nat} {x qual : Str} {params : Arguments} {body : List Stmt} {scope : Scope} {dvs : List V} {kws : List (Str × V)} {f : Addr} {fd : FuncData} {N ps : List Str} {sp : Sp} (F : FunD K x qual params body scope dvs kws f fd) (S : FnScope N ps scope)
    (len : ∀ vs H Q E, sp vs H Q E → vs.length = ps.length)
    (hbody : ∀ (cdv : Value) (A : Around) (outer : List Env) (s : Shared) (H : Hp) (vs : List V) (Q : VK) (E : XK), Clr A → Room k (A.deeper (envOfC qual scope s.heap.objs.size f cdv)) → sp vs H Q E →
      ∃ t, PSs (cxOf CX P w K mg base N qual scope f cdv A outer s H E) body t ∧ t { nx := fun _ H' => Q .non H', rt := Q } (start N vs) H) : FnC P w K mg base CX (k + 1) f fd ps sp := by
  obtain ⟨oc, od, dV, kV, doc, pm, an, cdv, ct, osl, rfl, lk, hcd, _, _⟩ := F.ex
  refine ⟨len, fun A outer s H args us vs Q E hc hr e0 hb r hsp => ?_⟩
  have up : ∀ b o, base.get? b = some o → s.heap.get? b = some o := fun b o e => (e0.bs b o e).1
  have KX : K.In s.heap := e0.mod.kin.keeps up
  have kinds : ∀ y ∈ ps.zip us, scope.names.lookup y.1 = some .local ∨ (scope.names.lookup y.1 = some .cell ∧ ((cellsFrom (s.heap.objs.size + 1) scope.names []).lookup y.1).isSome = true) := by
    rintro ⟨n, v⟩ hy
    rcases S.par n (List.of_mem_zip hy).1 with q | q
    · exact Or.inl q
    · exact Or.inr ⟨q, PySem.W.cellsFrom_some _ _ _ (Or.inl q)⟩
  refine codeAny_call_function hr.depth (KX _ _ lk) rfl S.co S.gen rfl (PySem.W.codeRec_of KX hcd) (hb _ _ _ _ (wpAny_newFunctionEnv_cells S.kind kinds fun env he s1 y => ?_))
  subst he
  obtain ⟨t, ht, hq⟩ := hbody cdv A outer s H vs Q E hc (hr.deeper _) hsp
  have I := inv_start (CX := CX) (E := E) S hr.hd e0 (len _ _ _ _ hsp) r y
  refine ⟨(e0.mod.nolimit.keeps up).keeps y.toInCall.keep, codeAny_func (wpAny_mono (ht.run [] s1 (start N vs) H _ I hq) (fun fl s' hs => ?_) fun e s' hs => hs)⟩
  cases fl with
  | brk => exact (let ⟨_, _, _, q⟩ := hs; q : False).elim
  | cont => exact (let ⟨_, _, _, q⟩ := hs; q : False).elim
  | next =>
    obtain ⟨_, H', J, q⟩ := hs
    exact ⟨V.non, H', J.os, J.bare, J.base, J.hok, rfl, q⟩
  | ret u =>
    obtain ⟨v, _, H', J, rv, q⟩ := hs
    exact ⟨v, H', J.os, J.bare, J.base, J.hok, rv, q⟩
/-- a def of the top that keeps a promise where nothing is being shown -/
def Fc (P : Program) (w : World) (K : PySem.W.Frag) (mg : Str → Option Value) (base : Heap) (x : Str) (ps : List Str) (k : Nat) (sp : Sp) (B : FuncData → Prop := fun _ => True) : Prop :=
  ∃ (f : Addr) (fd : FuncData), mg x = some (.ref f) ∧ PySem.W.keepIn K (.ref f) = true ∧ Binds K fd ps [] ∧ B fd ∧ FnC P w K mg base CX0 k f fd ps sp
theorem Df.okC {x : Str} {st : Stmt} {ps N : List Str} {k : Nat} {sp : Sp} {B : FuncData → Prop} (D : Df K mg x st ps B) (S : FnScope N ps (defScope st)) (len : ∀ vs H Q E, sp vs H Q E → vs.length = ps.length)
    (hbody : ∀ (f : Addr) (cdv : Value) (A : Around) (outer : List Env) (s : Shared) (H : Hp) (vs : List V) (Q : VK) (E : XK), Clr (A.deeper (envOfC x (defScope st) s.heap.objs.size f cdv)) → Room k (A.deeper (envOfC x (defScope st) s.heap.objs.size f cdv)) → sp vs H Q E →
      ∃ t, PSs (cxOf CX0 P w K mg base N x (defScope st) f cdv A outer s H E).nox (defBody st) t ∧ t { nx := fun _ H' => Q .non H', rt := Q } (start N vs) H) : Fc P w K mg base x ps (k + 1) sp B := by
  obtain ⟨f, fd, F, g, b, hB⟩ := D
  refine ⟨f, fd, g, F.kp, b, hB, fn_clr F S len fun cdv A outer s H vs Q E hc hr h => ?_⟩
  obtain ⟨t, h1, h2⟩ := hbody f cdv A outer s H vs Q E hc hr h
  exact ⟨t, PSs.nox h1, h2⟩
/-! ### repr -/
def rRepr (K : PySem.W.Frag) : List V → Hp → VK → Prop := fun xs H Q => ∃ (a : Addr) (d : PyData), xs = [.ref a] ∧ Dp K H (.ref a) d ∧ d.showable = true ∧ d.hasDict = false ∧ d.depth ≤ 64 ∧ d.shown.length ≤ sizeLine ∧ Q (.str d.shown) H
theorem call_repr {X : Cx} (hc : Clr X.A) (hu : X.A.units + 65 < cLine) : CallR X (.builtin "repr") (rRepr X.K) := by
  intro pins s σ H xs us Q I r h
  obtain ⟨a, d, rfl, hd, h1, h2, h3, h4, q⟩ := h
  cases r with
  | @cons _ u _ _ ru rn =>
    cases rn
    cases (show u = Value.ref a from ru)
    obtain ⟨as, rd⟩ := Dp.reads I d _ _ hd rfl
    exact repr_of_reads' rd h1 (PyData.noDict_hsm h2) hc (by omega) (fun _ _ e => e) (fun h' t tk hk => ⟨.str d.shown, H, I.kept hk, ⟨t, rfl⟩, q⟩) h4
/-! ### the end -/
theorem call_law {mb : Str → Option Value} {k : Nat} {fa a : Addr} {fd : FuncData} {x : Str} {sp : Sp} {s₁ : Shared} {vs : List Value} {ns : List Int} (KX : K.In s₁.heap) (hns : s₁.heap.Ns mainGlobals mg) (hb : s₁.heap.Ns builtinsNs mb)
    (hbb : ∀ x : Str, x ≠ "__name__" → mb x = bootBuiltins x) (hlim : s₁.heap.NoLimit) (hg : s₁.gens = #[]) (ha : s₁.heap.get? a = some { cls := .type "list", data := .seq vs.toArray }) (hi : IntsAre vs ns) (hl : ns.length ≤ sizeLine) (hr : Room k callerA)
    (F : ∀ base : Heap, K.In base → base.Ns mainGlobals mg → FnC P w K mg base CX0 k fa fd [x] sp) (hbind : ∀ (s : Shared) (u : Value), BindsTo s fd ⟨[u], []⟩ [(x, u)])
    (hsp : ∀ H : Hp, SqL K H a (ns.map V.int) → sp [.ref a] H (fun v _ => v = .bl true) fun _ _ _ => False) :
    codeAny (model P w) callerA (.call (.ref fa) ⟨[.ref a], []⟩) (fun r s' => r = .ok (.ret (.bool true)) ∧ OldK s₁.heap s'.heap ∧ s'.os = s₁.os ∧ AllBare s'.gens) s₁ := by
  have rv := vals_ints hi
  have core : ∀ H : Hp, (∀ b, H b ≠ none → b = a ∧ K.lookup a = none ∧ ∃ o xs, H b = some (.frz o (.lst xs))) → SqL K H a (ns.map V.int) → HOk P w H s₁.heap →
      codeAny (model P w) callerA (.call (.ref fa) ⟨[.ref a], []⟩) (fun r s' => r = .ok (.ret (.bool true)) ∧ OldK s₁.heap s'.heap ∧ s'.os = s₁.os ∧ AllBare s'.gens) s₁ := by
    intro H hO hS hok
    have free : ∀ b, b ≠ a → H b = none := fun b n => Classical.byContradiction fun z => n (hO b z).1
    have ns' : ∀ {b : Addr} {m : Str → Option Value}, s₁.heap.Ns b m → (hidT s₁.heap H).Ns b m := by
      rintro b m ⟨o, es, ep, e, d, r⟩
      refine ⟨o, es, ep, hidT_get e (free b fun z => ?_), d, r⟩
      rw [z, ha] at e
      cases e
      cases (show Data.seq vs.toArray _ = Data.dict es ep from d)
    have kin : K.In (hidT s₁.heap H) := fun b o e => hidT_get (KX b o e) (Classical.byContradiction fun z => by
      obtain ⟨rfl, h2, _⟩ := hO b z
      rw [h2] at e
      cases e)
    have md : Mod K mg (hidT s₁.heap H) := ⟨kin, ns' hns, ⟨mb, ns' hb, hbb⟩, let ⟨mc, h1, h2⟩ := hlim; ⟨mc, ns' h1, h2⟩⟩
    have e0 : Env0 P w K mg (hidT s₁.heap H) callerA [] s₁ H := ⟨rfl, md, fun b o e => of_hidT e, Nat.le_of_eq (hidT_size _ _), trivial, (fun b h => nomatch h), hok, .of_eq hg⟩
    refine codeAny_mono ((F _ kin (ns' hns)).run callerA [] s₁ H ⟨[.ref a], []⟩ [.ref a] [.ref a] _ _ rfl hr e0 (hbind s₁ (.ref a)) (.cons rfl .nil) (hsp H hS)) fun r s' h => ?_
    cases r with
    | error e => exact False.elim h
    | ok fl =>
      cases fl with
      | next => exact False.elim h
      | brk => exact False.elim h
      | cont => exact False.elim h
      | ret u =>
        obtain ⟨v, H', os, bare, un, hok', r', q⟩ := h
        have q : v = .bl true := q
        subst q
        cases (show u = Value.bool true from r')
        refine ⟨rfl, OldK.of_keep fun b o e => ?_, os, bare⟩
        by_cases z : H b = none
        · exact un.keep b o e z (by intro z; exact nomatch (show b ∈ ([] : List Addr) from z)) (by simp)
        · obtain ⟨_, _, ob, xs, y⟩ := hO b z
          have e1 := (hok b _ y).1
          rw [e] at e1
          cases e1
          exact (hok' b _ (un.frzs b _ _ y)).1
  cases hk : K.lookup a with
  | some o =>
    have e := KX a o hk
    rw [ha] at e
    cases e
    exact core (fun _ => none) (fun b z => absurd rfl z) (.inr ⟨_, vs.toArray, _, hk, rfl, rfl, rfl, by rw [List.size_toArray, hi.length]; exact hl, by simpa using rv⟩) (fun b u z => nomatch z)
  | none =>
    have at_ : ∀ b u, (if b = a then some (HO.frz { cls := .type "list", data := .seq vs.toArray } (.lst (ns.map V.int))) else none) = some u → b = a ∧ u = HO.frz { cls := .type "list", data := .seq vs.toArray } (.lst (ns.map V.int)) := fun b u z => by
      by_cases c : b = a
      · rw [if_pos c] at z
        exact ⟨c, (Option.some.inj z).symm⟩
      · rw [if_neg c] at z
        cases z
    refine core (fun b => if b = a then some (.frz { cls := .type "list", data := .seq vs.toArray } (.lst (ns.map V.int))) else none) (fun b z => ?_) (.inl (.inr ⟨{ cls := .type "list", data := .seq vs.toArray }, if_pos rfl⟩)) (fun b u z => ?_)
    · obtain ⟨u, e⟩ := Option.ne_none_iff_exists'.mp z
      obtain ⟨h1, h2⟩ := at_ b u e
      exact ⟨h1, hk, _, _, e.trans (congrArg some h2)⟩
    · obtain ⟨rfl, rfl⟩ := at_ b u z
      exact ⟨ha, by rw [List.length_map]; exact hl, vs, _, rv, ha⟩
theorem walk_law {l : PySem.W.OpenLaw} {n k : Nat} {q : Program} {loose : List Str} {XP : (Str → Option Value) → Heap → Prop} {YP : World → Heap → Prop} {d : DefRec} {x : Str} (hn : l.most = some n) (hn2 : n ≤ sizeLine) (hdf : d.params.defaults = []) (hr : Room k callerA)
    (F : ∀ (w : World) (mg : Str → Option Value) (fa : Addr) (h : Heap), YP w h → h.Ns mainGlobals mg → mg d.name = some (.ref fa) →
      ∃ (K : PySem.W.Frag) (fd : FuncData) (sp : Sp), K.In h ∧ (∀ (s : Shared) (u : Value), BindsTo s fd ⟨[u], []⟩ [(x, u)]) ∧
        (∀ (H : Hp) (a : Addr) (ns : List Int), ns.length ≤ n → SqL K H a (ns.map V.int) → sp [.ref a] H (fun v _ => v = .bl true) fun _ _ _ => False) ∧
        ∀ base : Heap, K.In base → base.Ns mainGlobals mg → FnC l.prog w K mg base CX0 k fa fd [x] sp) : PySem.W.WalkO q loose XP YP l.row.toRowW d [] (fun f vs => PySem.call f vs) := by
  refine Att.attach_call hn hdf fun w s₀ s₁ mg mb fa o pm cd doc a vs ns G Y ho hd hcd hmg hobj hints hlen hg => ?_
  obtain ⟨K, fd, sp, KX, hb, hsp, hF⟩ := F w mg fa _ Y G.T.g hmg
  exact call_law KX G.T.g G.T.b G.T.builtins G.T.nolimit hg hobj hints (Nat.le_trans hlen hn2) hr hF hb fun H hS => hsp H a ns hlen hS
end
end KA
set_option Elab.async false
set_option linter.all false
set_option maxRecDepth 100000
set_option maxHeartbeats 4000000
namespace KA
open PySem PySem.Spec PyProof.Rows L2
theorem rgl_congr {ws ps : List (List Str)} (h : ∀ l, l ∈ ws ↔ l ∈ ps) : ∀ (k : Nat) (left : List Str), rgl ws k left = rgl ps k left
  | 0, _ => rfl
  | k + 1, left => by
    have e : kpt ws left = kpt ps left := by
      unfold kpt
      simp only [h]
    unfold rgl
    rw [e, rgl_congr h k]
theorem rsets_congr {ws ps : List (List Str)} (h : ∀ l, l ∈ ws ↔ l ∈ ps) (S : List (List Str)) : rsets ws S = rsets ps S := by
  have e : rstep ws = rstep ps := by
    funext f n
    unfold rstep
    rw [rgl_congr h]
  unfold rsets
  rw [e]
theorem eq_nil_txs (ls : List (List Str)) : PyData.eqv (.list (ls.map tD)) (.list []) = ls.isEmpty := by
  cases ls <;> simp [PyData.eqv, PyData.eqvAll]
theorem tDs_reflAll : ∀ L : List (List Str), PyData.eqvAll (L.map tD) (L.map tD) = true
  | [] => by simp [PyData.eqvAll]
  | l :: L => by
    rw [List.map_cons, PyData.eqvAll, tD_eqv, tDs_reflAll L, decide_eq_true rfl]
    rfl
theorem tDs_refl (L : List (List Str)) : PyData.eqv (.list (L.map tD)) (.list (L.map tD)) = true := by
  rw [PyData.eqv]
  exact tDs_reflAll L
section
variable {P : Program} {w : World} {K : PySem.W.Frag} {mg : Str → Option Value} {base : Heap}
abbrev nLaw : List Str := ["_law_script", "_law_turn", "_law_cell", "_law_state", "_law_lap", "_law_names_here", "_law_chance", "_law_wishes", "_law_rounds", "_law_due", "_law_row", "_law_lesser", "_law_book", "_law_found", "_law_wish", "_law_less", "_law_name"]
theorem scLaw : FnScope nLaw ["_law_script"] (defScope s_law) := ⟨rfl, rfl, rfl, by decide +kernel, rfl, by decide +kernel, by decide +kernel⟩
def spLaw (K : PySem.W.Frag) : Sp := fun vs H Q _ => ∃ (a : Addr) (ns : List Int), vs = [.ref a] ∧ SqL K H a (ns.map V.int) ∧ ns.length ≤ 63 ∧ ∀ H', Q (.bl true) H'
theorem ok_law {C : Addr} {B : FuncData → Prop} (D : Df K mg "law" s_law ["_law_script"] B) (GB : Fn P w K mg base "_law_begin" ["_law_cell", "_law_turn"] 1 spBegin) (GD : Fn P w K mg base "_law_draw" ["_law_state", "_law_size"] 1 spDrw)
    (GP : Fn P w K mg base "_law_pick" ["_law_state", "_law_some"] 2 (spPick K)) (GN : Fn P w K mg base "_law_names" ["_law_state", "_law_many"] 3 spNames) (GE : Fn P w K mg base "_law_every" ["_law_names_here"] 1 (spEvery K))
    (GS : Fn P w K mg base "_law_sets" ["_law_names_here"] 2 (spSets K)) (GO : Fn P w K mg base "_law_is_round" ["_law_names_here", "_law_wishes"] 2 (spRound K)) (GR : Fn P w K mg base "ring_sets" ["catalogue"] 2 (spRs C) (fun fd => ByName fd "catalogue"))
    (GC : Mkf P w K mg base "Catalogue" C ["self", "sorts", "wishes"] 3 (spInit K C)) (T : Fre mg) (gr : mg "repr" = none) (Ct : CatT K mg C) : Fc P w K mg base "law" ["_law_script"] 5 (spLaw K) B := by
  refine D.okC scLaw (fun vs H Q E h => ?_) (fun f cdv A outer s H vs Q E hclr hr h => ?_)
  · obtain ⟨_, _, rfl, _⟩ := h
    rfl
  · obtain ⟨a, cells, rfl, hL, hl, k⟩ := h
    have nd := scLaw.nd
    have hu := hu_of hr
    have hr1 := hr.mono (show 1 ≤ 4 by decide)
    have hr2 := hr.mono (show 2 ≤ 4 by decide)
    have hr3 := hr.mono (show 3 ≤ 4 by decide)
    refine ⟨_, pss_cons (ps_for PassesOwn.never rfl (pi_enum (by rfl) T.enum (pa_cons (pe_slice sl_list (pe_orT (pv 0) (pe_one (pe_lst (pa_cons pe_int pa_nil)))) po_none (po_some pe_int)) pa_nil))
        (pg_tup rfl (pgs_cons (pg_name (i := 1) nd rfl (.inl rfl)) (pgs_cons (pg_name (i := 2) nd rfl (.inl rfl)) pgs_nil)))
        (pss_cons (ps_set (i := 3) nd rfl (.inr rfl) (pe_fn GB hr1 (by rfl) (pa_cons (pv 2) (pa_cons (pv 1) pa_nil))))
        (pss_one (ps_for PassesOwn.never rfl (pi_range1 (by rfl) T.range (pa_cons pe_int pa_nil)) (pg_name (i := 4) nd rfl (.inl rfl))
          (pss_cons (ps_asg (pe_tup (pa_cons (pe_fn GN hr3 (by rfl) (pa_cons (pv 3) (pa_cons (pe_op op_add pe_int (pe_fn GD hr1 (by rfl) (pa_cons (pv 3) (pa_cons pe_int pa_nil)))) pa_nil)))
              (pa_cons (pe_fn GP hr2 (by rfl) (pa_cons (pv 3) (pa_cons (pe_lst (pa_cons pe_int (pa_cons pe_int (pa_cons pe_int pa_nil)))) pa_nil))) pa_nil)))
              (pg_tup rfl (pgs_cons (pg_name (i := 5) nd rfl (.inl rfl)) (pgs_cons (pg_name (i := 6) nd rfl (.inr rfl)) pgs_nil))))
          (pss_cons (ps_set (i := 7) nd rfl (.inr rfl) (pe_slice sl_list (pe_lc (own := [("_law_wish", 14)]) (g := gName 14) rfl nd (pi_list (pe_fn GE hr1 (by rfl) (pa_cons (pv 5) pa_nil)))
              (blkOk_by (N := nLaw) (sc := defScope s_law) (by decide +kernel)) (fun _ _ _ _ _ => pg_name (i := 14) nd rfl (Or.inl rfl))
              (fun _ _ _ _ _ => pts_one (pt_cmpR op_eq (pe_fn GD hr1 (by rfl) (pa_cons (pv 3) (pa_cons (pv 6) pa_nil))) pe_int (nomark _))) (fun _ _ _ _ _ => pv 14)) po_none (po_some pe_int)))
          (pss_cons (ps_setLc (i := 8) (own := [("_law_row", 10)]) (g := gName 10) rfl nd rfl rfl (sw_true rfl rfl rfl (by decide +kernel)) (pi_list (pe_fn GS hr2 (by rfl) (pa_cons (pv 5) pa_nil)))
              (blkOk_by (N := nLaw) (sc := defScope s_law) (by decide +kernel)) (fun _ _ _ _ _ => pg_name (i := 10) nd rfl (Or.inl rfl))
              (fun _ _ _ _ _ => pts_one (pt_val (pe_fn GO hr2 (by rfl) (pa_cons (pv 10) (pa_cons (pv 7) pa_nil))))) (fun _ _ _ _ _ => pv 10))
          (pss_cons (ps_set (i := 9) nd rfl (.inl rfl) (pe_lst pa_nil))
          (pss_cons (ps_for PassesOwn.never rfl (pi_list (pv 8)) (pg_name (i := 10) nd rfl (.inr rfl))
            (pss_cons (ps_setLc (i := 11) (own := [("_law_less", 15)]) (g := gName 15) rfl nd rfl rfl (sw_true rfl rfl rfl (by decide +kernel)) (pi_list (pv 8))
                (blkOk_by (N := nLaw) (sc := defScope s_law) (by decide +kernel)) (fun _ _ _ _ _ => pg_name (i := 15) nd rfl (Or.inl rfl))
                (fun _ _ _ _ _ => pts_one (pt_cmpR op_lt (pe_callB (r := fun xs H Q => ∃ x n, xs = [x] ∧ LenV K x H n ∧ Q (.int n) H) call_len (by rfl) T.len PySem.boot_len (pa_cons (pv 15) pa_nil)) (pe_callB (r := fun xs H Q => ∃ x n, xs = [x] ∧ LenV K x H n ∧ Q (.int n) H) call_len (by rfl) T.len PySem.boot_len (pa_cons (pv 10) pa_nil)) (nomark _))) (fun _ _ _ _ _ => pv 15))
            (pss_one (ps_if (pt_cmpR (op_eqD hr.units) (pe_lc (own := [("_law_less", 15)]) (g := gName 15) rfl nd (pi_list (pv 11))
                (blkOk_by (N := nLaw) (sc := defScope s_law) (by decide +kernel)) (fun _ _ _ _ _ => pg_name (i := 15) nd rfl (Or.inl rfl))
                (fun _ _ _ _ _ => pts_one (pt_cmpR (show OpR _ _ (rEqD K) from op_eqD hr.units) (pe_lc (own := [("_law_name", 16)]) (g := gName 16) rfl nd (show PI _ _ _ (iTup K (tVar 15)) from pi_tup (pv 15))
                    (blkOk_by (N := nLaw) (by rfl)) (fun _ _ _ _ _ => pg_name (i := 16) nd rfl (Or.inl rfl))
                    (fun _ _ _ _ _ => pts_one (pt_cmpR (show OpR _ _ (rIn K true) from op_notIn_seq) (pv 16) (pv 10) (by rfl))) (fun _ _ _ _ _ => pv 16)) (pe_lst pa_nil) (nomark _)))
                (fun _ _ _ _ _ => pv 15)) (pe_lst pa_nil) (nomark _))
              (pss_one (ps_expr (pe_bm PySem.F.plainAttrs_list PySem.F.slot_list_append PySem.F.type_list_append mt_append (pv 9) (pa_cons (pv 10) pa_nil)))) pss_nil))))
          (pss_cons (ps_set (i := 12) nd rfl (.inl rfl) (pe_mkf GC hr (by rfl) (pa_cons (pe_callTy (call_dictP rfl) (by rfl) T.dict (by decide +kernel) (pa_cons (pe_lc (own := [("_law_name", 16)]) (g := gName 16) (tt := tYes) rfl nd (pi_list (pv 5))
              (blkOk_by (N := nLaw) (sc := defScope s_law) (by decide +kernel)) (fun _ _ _ _ _ => pg_name (i := 16) nd rfl (Or.inl rfl)) (fun _ _ _ _ _ => pts_nil)
              (fun _ _ _ _ _ => pe_tup (pa_cons (pv 16) (pa_cons (pe_tup (pa_cons (pe_un un_neg pe_int) (pa_cons pe_int pa_nil))) pa_nil)))) pa_nil)) (pa_cons (pv 7) pa_nil))))
          (pss_cons (ps_set (i := 13) nd rfl (.inl rfl) (pe_fn GR.any hr2 (by rfl) (pa_cons (pv 12) pa_nil)))
          (pss_cons (ps_if (pt_cmpR op_ne (pe_callB (call_repr hclr (u65 hr)) (by rfl) gr (by decide +kernel) (pa_cons (pv 13) pa_nil)) (pe_callB (call_repr hclr (u65 hr)) (by rfl) gr (by decide +kernel) (pa_cons (pv 9) pa_nil)) (nomark _)) (pss_one (ps_ret pe_bl)) pss_nil)
          (pss_cons (ps_expr (pe_bm PySem.F.plainAttrs_list PySem.F.slot_list_append PySem.F.type_list_append mt_append (pv 13) (pa_cons (pe_tup pa_nil) pa_nil)))
          (pss_one (ps_if (pt_cmpR (op_neD hr.units) (pe_fnB GR hr2 (by rfl) (pv 12)) (pv 9) (nomark _)) (pss_one (ps_ret pe_bl)) pss_nil)))))))))))))))
      (pss_one (ps_ret pe_bl)), ?_⟩
    have head : ∀ (G : V → Hp → Prop), (∀ (l : Addr) (cs : List Int) (H1 : Hp), SqL K H1 l (cs.map V.int) → cs.length ≤ 63 → G (.ref l) H1) → tOrT K (tVar 0) (tLst (tCons (tC (.int 5)) tNil)) [some (.ref a), none, none, none, none, none, none, none, none, none, none, none, none, none, none, none, none] H G := fun G g => by
      refine ⟨_, rfl, !cells.isEmpty, .inl ⟨_, hL, by rw [List.isEmpty_map]⟩, ?_⟩
      cases cells with
      | nil => exact iteF ⟨by show 1 ≤ sizeLine; decide, fun q nq => g q [5] _ (SqL.of upd_same) (by decide)⟩
      | cons c r => exact iteT (g a _ H hL hl)
    refine head _ fun l cs H1 h1 lc => ⟨8, rfl, l, _, rfl, h1, fun p np => ?_⟩
    have cut : cutV (cs.map V.int) none (some 8) = (cs.take 8).map V.int := by rw [List.map_take]; exact cut_to _ 8
    rw [cut]
    have hp1 : SqL K (upd H1 p (.lst ((cs.take 8).map V.int))) p ((cs.take 8).map V.int) := SqL.of upd_same
    have l8 : (cs.take 8).length ≤ 8 := by rw [List.length_take]; omega
    generalize cs.take 8 = cs8 at hp1 l8
    generalize upd H1 p (.lst (cs8.map V.int)) = Hb at hp1
    refine ⟨p, _, rfl, hp1, ?_⟩
    refine for_it (walk_enum (K := K) (a := p) (xs := cs8.map V.int)) (fun i σ H2 => (∃ v1 v2 v3 v4 v5 v6 v7 v8 v9 v10 v11 v12 v13 : Option V, σ = [some (.ref a), v1, v2, v3, v4, v5, v6, v7, v8, v9, v10, v11, v12, v13, none, none, none]) ∧ Same Hb H2)
      ⟨⟨_, _, _, _, _, _, _, _, _, _, _, _, _, rfl⟩, Same.refl _⟩ (fun i σ H2 _ h => h.2.seq hp1) ?_ ?_
    · rintro i y σ H2 H2' hi ⟨⟨v1, v2, v3, v4, v5, v6, v7, v8, v9, v10, v11, v12, v13, rfl⟩, s2⟩ ⟨tt, x, yy, rfl, ntt, rfl, hx, hy⟩
      have hx : some (V.int (i : Nat)) = some x := hx
      have hy : (cs8.map V.int)[i]? = some yy := hy
      rw [List.getElem?_map] at hy
      obtain ⟨c, hc, rfl⟩ := Option.map_eq_some_iff.mp hy
      injection hx with hx
      subst hx
      rw [List.length_map] at hi
      have s3 := s2.trans (same_new (o := .tup [.int (i : Nat), .int c]) ntt)
      refine ⟨tt, _, rfl, SqT.of upd_same, rfl, _, _, rfl, _, _, rfl, rfl, ?_⟩
      generalize upd H2 tt (.tup [.int (i : Nat), .int c]) = H3 at s3
      refine ⟨_, rfl, _, rfl, c, (i : Nat), rfl, by omega, by omega, fun st x y nst x0 => ?_⟩
      have s4 := s3.trans (same_new (o := .lst [.int x, .int y, .int 0]) nst)
      have hst : Sta (upd H3 st (.lst [.int x, .int y, .int 0])) st 800 := ⟨x, y, 0, upd_same, x0, Int.le_refl _, by decide⟩
      have nb := s3.free nst
      generalize upd H3 st (.lst [.int x, .int y, .int 0]) = H4 at s4 hst
      refine ⟨2, rfl, by decide, by decide, for_range (lo := 0) (n := 2) (fun j σ H5 => (∃ w4 w5 w6 w7 w8 w9 w10 w11 w12 w13 : Option V, σ = [some (.ref a), some (.int (i : Nat)), some (.int c), some (.ref st), w4, w5, w6, w7, w8, w9, w10, w11, w12, w13, none, none, none]) ∧ Same Hb H5 ∧ Sta H5 st (800 - 200 * j))
        ⟨⟨_, _, _, _, _, _, _, _, _, _, rfl⟩, s4, hst⟩ ?_ ?_⟩
      · rintro j σ H5 hj ⟨⟨w4, w5, w6, w7, w8, w9, w10, w11, w12, w13, rfl⟩, s5, ha5⟩
        have sl := sizeLine_eq
        refine ⟨_, rfl, _, rfl, st, 6, (600 - 200 * j + 199), rfl, ha5.less (by omega), by decide, by decide, fun r H6 r0 r1 ha6 c6 => ?_⟩
        have s6 := same_ch s5 nb c6
        obtain ⟨m, rfl⟩ := Int.eq_ofNat_of_zero_le r0
        have m6 : m < 6 := by omega
        refine ⟨1, m, rfl, rfl, st, 1 + m, (600 - 200 * j + 100), congrArg (fun z => [V.ref st, V.int z]) (by omega), by omega, ha6.less (by omega), fun ns an H7 ln nns hnm nan han ha7 c7 => ?_⟩
        have s7 := same_ch s6 nb c7
        have nan0 : Hb an = none := s6.free nan
        refine ⟨_, rfl, by show 3 ≤ sizeLine; decide, fun lp nlp => ?_⟩
        have slp := same_new (o := .lst [.int 2, .int 3, .int 4]) nlp
        have ha7' := ha7.same slp
        refine ⟨st, _, (600 - 200 * j + 99), rfl, ha7'.less (by omega), .inl ⟨lp, _, rfl, SqL.of upd_same, fun z => ?_, by decide, by decide, fun ch H8 hch ha8 c8 => ?_⟩⟩
        · exact ha7.ne nlp z.symm
        obtain ⟨c0, rfl, c01, c02⟩ : ∃ c : Int, ch = .int c ∧ 0 < c ∧ c < 1073741824 := by
          rcases List.mem_cons.mp hch with e | hch
          · exact ⟨2, e, by decide, by decide⟩
          rcases List.mem_cons.mp hch with e | hch
          · exact ⟨3, e, by decide, by decide⟩
          exact ⟨4, List.mem_singleton.mp hch, by decide, by decide⟩
        have nas : an ≠ st := fun e => ha6.ne nan e.symm
        have s8 := same_ch (s7.trans slp) nb c8
        have han8 := c8 _ _ nas (slp _ _ han)
        refine ⟨by show 2 ≤ sizeLine; decide, fun tp ntp => ?_⟩
        have stp8 := same_new (o := .tup [.ref an, .int c0]) ntp
        refine ⟨tp, _, rfl, SqT.of upd_same, rfl, _, _, rfl, _, _, rfl, rfl, ?_⟩
        have s9 := s8.trans stp8
        have han9 := stp8 _ _ han8
        have ha9 := ha8.same stp8
        generalize upd H8 tp (.tup [.ref an, .int c0]) = H9 at s9 han9 ha9
        -- the wishes
        refine ⟨_, rfl, an, ns, rfl, SqL.of han9, by omega, fun pe xs H10 npe hpe htx se => ⟨pe, rfl, ⟨_, SqL.of hpe⟩, fun L nL => ?_⟩⟩
        have nps : pe ≠ st := fun e => ha9.ne npe e.symm
        have s10 := s9.trans se
        have han10 := se _ _ han9
        have ha10 := ha9.same se
        have nLs : L ≠ st := fun e => ha10.ne nL e.symm
        have nLp : pe ≠ L := ne_of_none hpe nL
        have nLa : an ≠ L := ne_of_none han10 nL
        have lev : xs.length ≤ 36 := by
          rw [Pd.len htx]
          have h1 := ev_len ns ns
          have h2 : ns.length * ns.length ≤ 6 * 6 := Nat.mul_le_mul (by omega) (by omega)
          omega
        have sL := same_new (o := .lst []) nL
        refine lc_it (walk_list (K := K) (a := pe) (xs := xs)) (fun jj H' => (∃ zs ks, H' L = some (.lst zs) ∧ Txs H' zs ks ∧ (∀ l ∈ ks, l ∈ ev ns ns) ∧ zs.length ≤ jj) ∧ Sta H' st (600 - 200 * j + 99 - jj) ∧ Same Hb H' ∧ H' an = some (.lst (ns.map V.str)) ∧ H' pe = some (.lst xs) ∧ KT H10 H')
          ⟨⟨[], [], upd_same, .nil, (fun _ h => nomatch h), Nat.le_refl _⟩, ha10.same sL, s10.trans sL, sL _ _ han10, sL _ _ hpe, KT.same sL⟩ (fun jj H' _ h => SqL.of h.2.2.2.2.1) ?_ ?_
        · rintro jj y Ha Ha' hjj ⟨⟨zs, ks, hz, hzt, hks, lz⟩, hsa, sb, hna, hpa, kt⟩ ⟨rfl, hy⟩
          obtain ⟨l, hl0, tl⟩ := Pd.get htx hy
          refine ⟨rfl, ?_⟩
          refine ⟨_, rfl, _, rfl, st, c0, (600 - 200 * j + 99 - (jj + 1)), rfl, hsa.less (by omega), c01, c02, fun r Hd r0 r1 had cd => ?_⟩
          have ktd := KT.ch cd hsa
          have sd := same_ch sb nb cd
          have hz' := cd _ _ nLs hz
          refine ⟨rfl, _, rfl, ?_⟩
          by_cases e : r = 0
          · rw [e]
            refine iteT ?_
            refine ⟨_, rfl, zs, hz', by rw [sl]; omega, ⟨zs ++ [y], ks ++ [l], upd_same, ?_, fun q hq => ?_, by rw [List.length_append]; exact Nat.succ_le_succ lz⟩, had.upd nLs, updN sd (s10.free nL), ?_, ?_, (kt.trans ktd).trans (KT.lst hz')⟩
            · exact Paired.snoc (hzt.kt (ktd.trans (KT.lst hz'))) (tl.kt ((kt.trans ktd).trans (KT.lst hz')))
            · rcases List.mem_append.mp hq with h | h
              · exact hks q h
              · rw [List.mem_singleton.mp h]; exact List.mem_of_getElem? hl0
            · rw [upd_ne nLa]; exact cd _ _ nas hna
            · rw [upd_ne nLp]; exact cd _ _ nps hpa
          · refine (if_neg (by simp [e])).mpr ?_
            exact ⟨⟨zs, ks, hz', hzt.kt ktd, hks, by omega⟩, had, sd, cd _ _ nas hna, cd _ _ nps hpa, kt.trans ktd⟩
        rintro H11 ⟨⟨zs, ks, hz, hzt, hks, lz⟩, ha11, s11, han11, _, _⟩
        refine ⟨20, rfl, L, _, rfl, SqL.of hz, fun wl nwl => ?_⟩
        have ect : cutV zs none (some 20) = zs.take 20 := cut_to _ 20
        rw [ect]
        have swl := same_new (o := .lst (zs.take 20)) nwl
        have hwl : (upd H11 wl (.lst (zs.take 20))) wl = some (.lst (zs.take 20)) := upd_same
        have htw := Txs.kt (KT.same swl) (Pd.take 20 hzt)
        have hkw : ∀ l ∈ ks.take 20, l ∈ ev ns ns := fun l h => hks l (List.mem_of_mem_take h)
        have lkw : (ks.take 20).length ≤ 20 := by rw [List.length_take]; omega
        have s12 := s11.trans swl
        have ha12 := (ha11.same swl).less (show 600 - 200 * j ≤ 600 - 200 * j + 99 - xs.length by omega)
        have han12 := swl _ _ han11
        generalize zs.take 20 = wv at *
        generalize ks.take 20 = ws at *
        generalize upd H11 wl (.lst wv) = H12 at *
        have n0 : 1 ≤ ns.length ∧ ns.length ≤ 6 := by omega
        have cpn : Cp ns := fun z hz => (hnm z hz).cp
        have prs : ∀ l ∈ ws, ∃ u v, l = [u, v] ∧ u ∈ ns ∧ v ∈ ns ∧ u ≠ v := fun l hl => mem_ev (hkw l hl)
        have cpw : ∀ l ∈ ws, Cp l := fun l hl z hz => by
          obtain ⟨u, v, rfl, mu, mv, _⟩ := prs l hl
          rcases List.mem_cons.mp hz with e | hz
          · exact e ▸ cpn _ mu
          · exact (List.mem_singleton.mp hz) ▸ cpn _ mv
        have srt : Srt ns ws := ⟨nns, hnm, n0.1, n0.2, prs, lkw⟩
        -- the rounds
        refine ⟨_, rfl, an, ns, rfl, SqL.of han12, nns, cpn, n0.1, n0.2, fun sp sv ms H13 pm srtm nsp hsp hsv s13 => ⟨sp, rfl, ⟨_, SqL.of hsp⟩, fun Lr nL2 => ?_⟩⟩
        have asc := asc_of srtm (pm.nodup_iff.mpr nns)
        have m6 : ms.length ≤ 6 := by rw [pm.length_eq]; exact n0.2
        have few := sts_few asc m6 ms.length
        have inS : ∀ v ∈ sts ms ms.length, v ≠ [] ∧ v.length ≤ 6 ∧ ∀ x ∈ v, x ∈ ns := fun v hv => by
          obtain ⟨h0, _, h1, h2⟩ := mem_sts.mp hv
          exact ⟨h0, Nat.le_trans (nd_sub_len h1.nd h2) m6, fun x hx => pm.mem_iff.mp (h2 x hx)⟩
        have same0 := rings_same (ws := ws) asc fun l hl => by
          obtain ⟨u, v, e, _, _, ne⟩ := prs l hl
          exact ⟨u, v, e, ne⟩
        generalize hS : sts ms ms.length = S at hsv few inS same0
        have hwl13 := s13 _ _ hwl
        have htw13 := htw.kt (KT.same s13)
        have lS := Pd.len hsv
        refine turns (walk_list (K := K) (a := sp) (xs := sv)) (fun jj H' => (∃ ls, H' Lr = some (.lst ls) ∧ Txs H' ls ((S.take jj).filter (rnd ws)) ∧ ls.length ≤ jj) ∧ Same H13 H') ⟨⟨[], upd_same, .nil, Nat.le_refl _⟩, same_new nL2⟩ (fun jj H' _ h => h.2.seq (SqL.of hsp)) ?_ ?_
        · rintro jj y Ha Ha' hjj ⟨⟨ls, hLa, hls, ll⟩, sa⟩ ⟨rfl, hy⟩
          obtain ⟨row, hrow, trow⟩ := Pd.get hsv hy
          obtain ⟨r1, r2, r3⟩ := inS row (List.mem_of_getElem? hrow)
          obtain ⟨ta, rfl, hta⟩ := trow.kt (KT.same sa)
          refine ⟨rfl, ?_⟩
          refine ⟨_, rfl, _, rfl, ta, wl, row, wv, ws, rfl, hta, SqL.of (sa _ _ hwl13), htw13.kt (KT.same sa), fun z hz => cpn z (r3 z hz), cpw, List.length_pos_iff.mpr r1, r2, fun Hd sd => ⟨_, rfl, ?_⟩⟩
          rw [take_succ_of hrow, filter_snoc]
          have hLd := sd _ _ hLa
          cases c : rnd ws row with
          | true =>
            have ktd := (KT.same sd).trans (KT.lst (o := .lst (ls ++ [.ref ta])) hLd)
            refine iteT ⟨_, rfl, ls, hLd, by rw [sl]; omega, ⟨ls ++ [.ref ta], upd_same, ?_, by rw [List.length_append]; exact Nat.succ_le_succ ll⟩, updN (sa.trans sd) nL2⟩
            rw [if_pos rfl]
            exact Paired.snoc (hls.kt ktd) ⟨ta, rfl, ktd _ _ hta⟩
          | false =>
            refine iteF ⟨⟨ls, hLd, ?_, by omega⟩, sa.trans sd⟩
            rw [if_neg (by decide), List.append_nil]
            exact hls.kt (KT.same sd)
        rintro H14 ⟨⟨rvs, hL14, hrvs, lrv⟩, s14⟩
        rw [lS, List.take_length] at hrvs
        have inR : ∀ v ∈ S.filter (rnd ws), v ≠ [] ∧ v.length ≤ 6 ∧ ∀ x ∈ v, x ∈ ns := fun v hv => inS v (List.mem_filter.mp hv).1
        have lrv64 : rvs.length ≤ 64 := by omega
        have eD : dues ws S = (S.filter (rnd ws)).filter (minR (S.filter (rnd ws))) := rfl
        generalize hRd : S.filter (rnd ws) = rds at hrvs inR eD
        have s14' := s13.trans s14
        -- due
        refine ⟨Nat.zero_le _, fun dq ndq => ?_⟩
        have sdq := same_new (o := .lst []) ndq
        have hdq0 : (upd H14 dq (.lst [])) dq = some (.lst []) := upd_same
        generalize upd H14 dq (.lst []) = H15 at sdq hdq0
        refine ⟨_, rfl, Lr, rfl, ⟨_, SqL.of (sdq _ _ hL14)⟩, for_list (K := K) (a := Lr) (xs := rvs) (fun jj σ H' => ∃ (us : List V) (v10 v11 : Option V), σ = [some (.ref a), some (.int (i : Nat)), some (.int c), some (.ref st), some (.int (0 + (j : Nat))), some (.ref an), some (.int c0), some (.ref wl), some (.ref Lr), some (.ref dq), v10, v11, w12, w13, none, none, none] ∧
            H' dq = some (.lst us) ∧ Txs H' us ((rds.take jj).filter (minR rds)) ∧ us.length ≤ jj ∧ Same H14 H') ⟨[], _, _, rfl, hdq0, .nil, Nat.le_refl _, sdq⟩ (fun jj σ H' _ ⟨_, _, _, _, _, _, _, h⟩ => SqL.of (h _ _ hL14)) ?_ ?_⟩
        · rintro jj y σ Ha hy ⟨us, v10, v11, rfl, hdqa, hus, lus, sa⟩
          obtain ⟨row, hrow, trow⟩ := Pd.get hrvs hy
          obtain ⟨r1, r2, r3⟩ := inR row (List.mem_of_getElem? hrow)
          obtain ⟨ta, rfl, hta⟩ := trow.kt (KT.same sa)
          have hLa := sa _ _ hL14
          have ljj := (List.getElem?_eq_some_iff.mp hy).1
          -- lesser
          refine ⟨_, rfl, Lr, rfl, ⟨_, SqL.of hLa⟩, fun M nM => ?_⟩
          refine turns (walk_list (K := K) (a := Lr) (xs := rvs)) (fun kk H' => (∃ ls, H' M = some (.lst ls) ∧ Txs H' ls ((rds.take kk).filter fun l => decide (l.length < row.length)) ∧ ls.length ≤ kk) ∧ Same Ha H') ⟨⟨[], upd_same, .nil, Nat.le_refl _⟩, same_new nM⟩ (fun kk H' _ h => h.2.seq (SqL.of hLa)) ?_ ?_
          · rintro kk y Hb1 Hb1' hkk ⟨⟨ls, hM, hls, ll⟩, sb⟩ ⟨rfl, hy⟩
            obtain ⟨less, hless, tless⟩ := Pd.get hrvs hy
            obtain ⟨tb, rfl, htb⟩ := tless.kt (KT.same (sa.trans sb))
            refine ⟨rfl, ?_⟩
            refine ⟨_, rfl, _, less.length, rfl, .inr ⟨_, SqT.of htb, by rw [List.length_map]⟩, _, rfl, _, row.length, rfl, .inr ⟨_, SqT.of (sb _ _ hta), by rw [List.length_map]⟩, _, _, rfl, rfl, decide (less.length < row.length), congrArg V.bl (by by_cases q : less.length < row.length <;> simp [q] <;> omega), ?_⟩
            rw [take_succ_of hless, filter_snoc]
            cases cc : decide (less.length < row.length) with
            | true =>
              have ktd := KT.lst (o := .lst (ls ++ [.ref tb])) hM
              refine iteT ⟨_, rfl, ls, hM, by rw [sl]; omega, ⟨ls ++ [.ref tb], upd_same, ?_, by rw [List.length_append]; exact Nat.succ_le_succ ll⟩, updN sb nM⟩
              rw [if_pos rfl]
              exact Paired.snoc (hls.kt ktd) ⟨tb, rfl, ktd _ _ htb⟩
            | false =>
              refine iteF ⟨⟨ls, hM, ?_, by omega⟩, sb⟩
              rw [if_neg (by decide), List.append_nil]
              exact hls
          rintro Hc1 ⟨⟨les, hM, hles, ll⟩, sc⟩
          have lr := Pd.len hrvs
          rw [lr, List.take_length] at hles
          have inL : ∀ v ∈ rds.filter (fun l => decide (l.length < row.length)), Cp v ∧ v.length ≤ 6 := fun v hv => by
            obtain ⟨_, e2, e3⟩ := inR v (List.mem_filter.mp hv).1
            exact ⟨fun z hz => cpn z (e3 z hz), e2⟩
          have emin : minR rds row = ((rds.filter fun l => decide (l.length < row.length)).filter fun l => sub l row).isEmpty := rfl
          generalize rds.filter (fun l => decide (l.length < row.length)) = lesS at hles inL emin
          -- those within the row
          refine ⟨_, rfl, M, rfl, ⟨_, SqL.of hM⟩, fun N2 nN2 => ?_⟩
          have le := Pd.len hles
          refine turns (walk_list (K := K) (a := M) (xs := les)) (fun kk H' => (∃ ls, H' N2 = some (.lst ls) ∧ Txs H' ls ((lesS.take kk).filter fun l => sub l row) ∧ ls.length ≤ kk) ∧ Same Hc1 H') ⟨⟨[], upd_same, .nil, Nat.le_refl _⟩, same_new nN2⟩ (fun kk H' _ h => h.2.seq (SqL.of hM)) ?_ ?_
          · rintro kk y Hd1 Hd1' hkk ⟨⟨ls, hN2, hls, ll2⟩, sd⟩ ⟨rfl, hy⟩
            obtain ⟨less, hless, tless⟩ := Pd.get hles hy
            obtain ⟨co, lo⟩ := inL less (List.mem_of_getElem? hless)
            obtain ⟨tb, rfl, htb⟩ := tless.kt (KT.same sd)
            refine ⟨rfl, ?_⟩
            refine ⟨_, rfl, tb, rfl, ⟨_, SqT.of htb⟩, fun O nO => ?_⟩
            refine turns (walk_tup (K := K) (a := tb) (xs := less.map V.str)) (fun jj H5 => H5 O = some (.lst (((less.take jj).filter fun n => decide (n ∉ row)).map V.str)) ∧ Same Hd1' H5) ⟨upd_same, same_new nO⟩ (fun jj H5 _ h => SqT.of (h.2 _ _ htb)) ?_ ?_
            · rintro jj y H5 H5' hjj ⟨hO, s5⟩ ⟨rfl, hy⟩
              rw [List.getElem?_map] at hy
              obtain ⟨n, hnn, rfl⟩ := Option.map_eq_some_iff.mp hy
              rw [List.length_map] at hjj
              refine ⟨rfl, ?_⟩
              refine ⟨_, rfl, _, rfl, ta, _, rfl, .inr (SqT.of (s5 _ _ (sd _ _ (sc _ _ hta)))), rfl, flat_strs row, _, rfl, ?_⟩
              rw [if_pos rfl, inV_no, take_succ_of hnn, filter_snoc]
              cases c : decide (n ∉ row) with
              | true =>
                refine iteT ⟨_, rfl, _, hO, ?_, ?_, updN s5 nO⟩
                · rw [List.length_map]
                  have := List.length_filter_le (fun n => decide (n ∉ row)) (less.take jj)
                  rw [List.length_take] at this
                  exact small1000 (by omega)
                · rw [upd_same, if_pos rfl, List.map_append]
                  rfl
              | false =>
                refine iteF ⟨?_, s5⟩
                rw [if_neg (by decide), List.append_nil]
                exact hO
            · rintro H5 ⟨hO, s5⟩
              rw [List.length_map, List.take_length] at hO
              refine ⟨Nat.zero_le _, fun q2 nq2 => ?_⟩
              have s6 := same_new (o := .lst []) nq2
              refine ⟨lD (less.filter fun n => decide (n ∉ row)), .list [], .lst (SqL.of (s6 _ _ hO)) (Dp.strs _), .lst (SqL.of upd_same) .nil, lD_shaped (fun z hz => co z (List.mem_filter.mp hz).1), by decide +kernel, _, rfl, ?_⟩
              rw [eq_nil_l, take_succ_of hless, filter_snoc]
              have s46 := sd.trans (s5.trans s6)
              have hN6 := s6 _ _ (s5 _ _ hN2)
              have es : (less.filter fun n => decide (n ∉ row)).isEmpty = sub less row := rfl
              rw [es]
              cases c : sub less row with
              | true =>
                have kt6 := (KT.same (s5.trans s6)).trans (KT.lst (o := .lst (ls ++ [.ref tb])) hN6)
                refine iteT ⟨_, rfl, ls, hN6, by rw [sl]; omega, ⟨ls ++ [.ref tb], upd_same, ?_, by rw [List.length_append]; exact Nat.succ_le_succ ll2⟩, updN s46 nN2⟩
                rw [if_pos rfl]
                exact Paired.snoc (hls.kt kt6) ⟨tb, rfl, kt6 _ _ htb⟩
              | false =>
                refine iteF ⟨⟨ls, hN6, ?_, by omega⟩, s46⟩
                rw [if_neg (by decide), List.append_nil]
                exact hls.kt (KT.same (s5.trans s6))
          rintro He1 ⟨⟨fvs, hN2, hfvs, _⟩, se1⟩
          rw [le, List.take_length] at hfvs
          refine ⟨Nat.zero_le _, fun q2 nq2 => ?_⟩
          have s6 := same_new (o := .lst []) nq2
          refine ⟨.list ((lesS.filter fun l => sub l row).map tD), .list [], .lst (SqL.of (s6 _ _ hN2)) (hfvs.kt (KT.same s6)).dp, .lst (SqL.of upd_same) .nil, lD_tDs_shaped (fun v hv => (inL v (List.mem_filter.mp hv).1).1), by decide +kernel, _, rfl, ?_⟩
          rw [eq_nil_txs, ← emin, take_succ_of hrow, filter_snoc]
          have s16 := sc.trans (se1.trans s6)
          have hdq6 := s16 _ _ hdqa
          generalize upd He1 q2 (.lst []) = Hf1 at s16 hdq6
          cases c : minR rds row with
          | true =>
            have kt6 := (KT.same s16).trans (KT.lst (o := .lst (us ++ [.ref ta])) hdq6)
            refine iteT ⟨_, rfl, .inl ⟨rfl, _, SqL.of hdq6⟩, _, rfl, dq, us, _, rfl, rfl, hdq6, by rw [sl]; omega, ?_⟩
            refine ⟨us ++ [.ref ta], _, _, rfl, upd_same, ?_, by rw [List.length_append]; exact Nat.succ_le_succ lus, updN (sa.trans s16) ndq⟩
            rw [if_pos rfl]
            exact Paired.snoc (hus.kt kt6) ⟨ta, rfl, kt6 _ _ hta⟩
          | false =>
            refine iteF ⟨us, _, _, rfl, hdq6, ?_, by omega, sa.trans s16⟩
            rw [if_neg (by decide), List.append_nil]
            exact hus.kt (KT.same s16)
        rintro σ H21 ⟨dvs, v10, v11, rfl, hdq21, hdvs, ldv, s21⟩
        rw [Pd.len hrvs, List.take_length, ← eD] at hdvs
        have inD : ∀ v ∈ dues ws S, v.length ≤ 6 ∧ ∀ z ∈ v, PyData.strOk z = true ∧ z.length ≤ 8 := fun v hv => by
          rw [eD] at hv
          obtain ⟨_, e2, e3⟩ := inR v (List.mem_filter.mp hv).1
          exact ⟨e2, fun z hz => ⟨cpn z (e3 z hz), (hnm z (e3 z hz)).most⟩⟩
        have lD : (dues ws S).length ≤ 1000 := by rw [← Pd.len hdvs]; omega
        have cpD : ∀ v ∈ dues ws S, Cp v := fun v hv z hz => ((inD v hv).2 z hz).1
        obtain ⟨w1, w2, w3, w4'⟩ := rows_show lD fun l hl => ⟨Nat.le_trans (inD l hl).1 (by decide), (inD l hl).2⟩
        have sB : Same Hb H21 := s12.trans (s14'.trans s21)
        have han21 := s21 _ _ (s14' _ _ han12)
        have hwl21 := s21 _ _ (s14' _ _ hwl)
        have htw21 := htw.kt (KT.same (s14'.trans s21))
        have ha21 := ha12.same (s14'.trans s21)
        -- the book
        refine ⟨_, rfl, an, rfl, ⟨_, SqL.of han21⟩, fun M nM => ?_⟩
        refine lc_it (walk_list (K := K) (a := an) (xs := ns.map V.str)) (fun jj H' => (∃ ps kvs, H' M = some (.lst (ps.map V.ref)) ∧ Paired (fun p (kv : Key × V) => H' p = some (.tup [kV kv.1, kv.2])) ps kvs ∧ kvs.map (·.1) = (ns.take jj).map Sum.inr ∧ (∀ kv ∈ kvs, Rg H' kv.2) ∧ ps.length ≤ jj) ∧ Same H21 H')
          ⟨⟨[], [], upd_same, .nil, rfl, (fun _ h => nomatch h), Nat.le_refl _⟩, same_new nM⟩ (fun jj H' _ h => h.2.seq (SqL.of han21)) ?_ ?_
        · rintro jj y Ha Ha' hjj ⟨⟨ps, kvs, hM, hps, ek, hrg, lps⟩, sa⟩ ⟨rfl, hy⟩
          rw [List.getElem?_map] at hy
          obtain ⟨n, hn, rfl⟩ := Option.map_eq_some_iff.mp hy
          rw [List.length_map] at hjj
          refine ⟨rfl, ?_⟩
          refine ⟨_, rfl, 1, rfl, (by show 2 ≤ sizeLine; decide), fun t1 nt1 => ⟨by show 2 ≤ sizeLine; decide, fun t2 nt2 => ?_⟩⟩
          have e1 := same_new (o := .tup [.int (-1), .int 1]) nt1
          have e2 := same_new (o := .tup [.str n, .ref t1]) nt2
          have hM' := e2 _ _ (e1 _ _ hM)
          have kt := ((KT.same e1).trans (KT.same e2)).trans (KT.lst (o := .lst (ps.map V.ref ++ [.ref t2])) hM')
          have kt2 := (KT.same e2).trans (KT.lst (o := .lst (ps.map V.ref ++ [.ref t2])) hM')
          refine ⟨_, hM', ?_, ⟨ps ++ [t2], kvs ++ [(Sum.inr n, .ref t1)], ?_, ?_, ?_, fun kv hkv => ?_, by rw [List.length_append]; exact Nat.succ_le_succ lps⟩, updN (sa.trans (e1.trans e2)) nM⟩
          · rw [List.length_map]
            exact small1000 (by omega)
          · rw [upd_same, List.map_append]
            rfl
          · exact Paired.snoc (L2.Paired.mapP hps fun p kv c => kt _ _ c) ((KT.lst (o := .lst (ps.map V.ref ++ [.ref t2])) hM') _ _ upd_same)
          · rw [List.map_append, ek, take_succ_of hn, List.map_append]
            rfl
          · rcases List.mem_append.mp hkv with h | h
            · exact (hrg kv h).kt kt
            · rw [List.mem_singleton.mp h]
              exact ⟨t1, -1, 1, rfl, kt2 _ _ upd_same, by decide⟩
        rintro H22 ⟨⟨ps0, kvs, hM, hps0, ek, hrg, _⟩, s22⟩
        rw [List.length_map, List.take_length] at ek
        obtain ⟨rv, rfl⟩ := nkv_of ek nns
        refine ⟨M, ps0, _, rfl, SqL.of hM, L2.Paired.mapP hps0 fun p kv c => SqT.of c, fun dd ndd => ?_⟩
        rw [merge_app (nkv ns rv) [] (by rw [List.nil_append, ek]; exact List.Pairwise.map _ (fun x y h q => h (Sum.inr.inj q)) nns), List.nil_append]
        have sd := same_new (o := .dK (nkv ns rv)) ndd
        have hdd : (upd H22 dd (.dK (nkv ns rv))) dd = some (.dK (nkv ns rv)) := upd_same
        have s23 := s22.trans sd
        have hrg23 : ∀ z ∈ ns, Rg (upd H22 dd (.dK (nkv ns rv))) (rv z) := fun z hz => (hrg (Sum.inr z, rv z) (List.mem_map.mpr ⟨z, hz, rfl⟩)).kt (KT.same sd)
        generalize upd H22 dd (.dK (nkv ns rv)) = H23 at *
        refine ⟨_, rfl, fun x dx nx ndx nxd => ?_⟩
        have sx : Same H23 (upd (upd H23 dx (.own x)) x (.ins C dx [])) := (same_new ndx).trans (same_new (by rw [upd_ne (fun e => nxd e.symm)]; exact nx))
        refine ⟨x, dx, dd, wl, ns, rv, wv, ws, rfl, upd_same, sx _ _ hdd, .inl (SqL.of (sx _ _ (s23 _ _ hwl21))), htw21.kt (KT.same (s23.trans sx)), srt, fun z hz => (hrg23 z hz).kt (KT.same sx), fun H24 ms2 ps pm2 pp hc ch => ⟨rfl, ?_⟩⟩
        have s24 := s23.trans (same_ch sx nx ch)
        clear ch sx
        obtain rfl : ms2 = ms := sortedS_one (pm2.trans pm.symm) hc.srt srtm
        have hmw : ∀ l, l ∈ ws ↔ l ∈ ps := fun l => by rw [pp.mem_iff, uq_mem]
        have eR : rsets ps (sts ms2 ms2.length) = dues ws S := by rw [hS, ← rsets_congr hmw, same0]
        have j2 : 800 - 200 * (j + 1) = 600 - 200 * j := by omega
        have hdq24 := s24 _ _ hdq21
        have hdv24 := hdvs.kt (KT.same s24)
        -- found
        refine ⟨_, rfl, x, ms2, rv, ps, rfl, hc, fun fq fys H25 nfq hfq hfys s25 => ?_⟩
        rw [eR] at hfys
        have hdq25 := s25 _ _ hdq24
        have hdv25 := hdv24.kt (KT.same s25)
        refine ⟨_, rfl, fq, .list ((dues ws S).map tD), rfl, .lst (SqL.of hfq) hfys.dp, w1, w2, w3, w4', _, rfl, dq, .list ((dues ws S).map tD), rfl, .lst (SqL.of hdq25) hdv25.dp, w1, w2, w3, w4', rfl, false, congrArg (fun z => V.bl (!z)) (decide_eq_true rfl), iteF ?_⟩
        refine ⟨_, rfl, .inl ⟨rfl, _, SqL.of hfq⟩, Nat.zero_le _, fun t0 nt0 => ?_⟩
        have s26 := same_new (o := .tup []) nt0
        have hfq26 := s26 _ _ hfq
        have lf := Pd.len hfys
        refine ⟨fq, fys, _, rfl, rfl, hfq26, by rw [sl]; omega, ?_⟩
        have nfd : dq ≠ fq := ne_of_none hdq24 nfq
        have kn := KN.upd (u := .lst (fys ++ [.ref t0])) hfq26
        have hc27 := (hc.kn (KN.same (s25.trans s26))).kn kn
        have s27 : Same H21 (upd (upd H25 t0 (.tup [])) fq (.lst (fys ++ [.ref t0]))) := updN (s24.trans (s25.trans s26)) (s24.free nfq)
        have hdq27 : (upd (upd H25 t0 (.tup [])) fq (.lst (fys ++ [.ref t0]))) dq = some (.lst dvs) := by rw [upd_ne nfd]; exact s26 _ _ hdq25
        have hdv27 := (hdv25.kt (KT.same s26)).kt kn.kt
        generalize upd (upd H25 t0 (.tup [])) fq (.lst (fys ++ [.ref t0])) = H27 at s27 hdq27 hdv27 hc27
        refine ⟨_, rfl, x, ms2, rv, ps, rfl, hc27, fun gq gys H28 ngq hgq hgys s28 => ?_⟩
        rw [eR] at hgys
        refine ⟨_, rfl, .list ((dues ws S).map tD), .list ((dues ws S).map tD), .lst (SqL.of hgq) hgys.dp, .lst (SqL.of (s28 _ _ hdq27)) (hdv27.kt (KT.same s28)).dp, lD_tDs_shaped cpD, lD_tDs_shaped cpD, false, congrArg V.bl (by rw [tDs_refl]; rfl), iteF ?_⟩
        refine ⟨⟨_, _, _, _, _, _, _, _, _, _, rfl⟩, sB.trans (s27.trans s28), ?_⟩
        rw [j2]
        exact ha21.same (s27.trans s28)
      · rintro σ H5 ⟨⟨w4, w5, w6, w7, w8, w9, w10, w11, w12, w13, rfl⟩, s5, _⟩
        exact ⟨⟨_, _, _, _, _, _, _, _, _, _, _, _, _, rfl⟩, s5⟩
    · rintro σ H2 _
      exact k H2
end
end KA
set_option Elab.async false
set_option linter.all false
set_option maxRecDepth 100000
set_option maxHeartbeats 0
namespace KA
open PySem PySem.Spec PyProof.Rows L2
/-! ### the head -/
def pInit : DfP := ⟨fun K => He.ma K (He.ga K "Catalogue") "__init__", "__init__", "Catalogue.__init__", s_Catalogue_init, [.adr (He.dflAt ("Catalogue", some "__init__") 0)]⟩
def fn : List DfP := [pInit, glP "is_name" s_is_name, glP "is_wish" s_is_wish, glP "is_whole" s_is_whole, glP "is_range" s_is_range, glP "is_ringless" s_is_ringless, glP "subsets" s_subsets, glP "ring_sets" s_ring_sets,
  glP "_law_begin" s__law_begin, glP "_law_draw" s__law_draw, glP "_law_pick" s__law_pick, glP "_law_names" s__law_names, glP "_law_every" s__law_every, glP "_law_rows" s__law_rows, glP "_law_longer" s__law_longer, glP "_law_sets" s__law_sets, glP "_law_is_round" s__law_is_round, glP "law" s_law]
def gloN : List Str := ["is_name", "is_wish", "is_whole", "is_range", "Catalogue", "is_ringless", "subsets", "ring_sets", "_law_begin", "_law_draw", "_law_pick", "_law_names", "_law_every", "_law_rows", "_law_longer", "_law_sets", "_law_is_round", "law"]
def freN : List Str := ["len", "isinstance", "str", "tuple", "int", "bool", "dict", "list", "all", "sorted", "min", "max", "range", "enumerate", "set", "repr"]
def fa : List He.Fa := [.int "LONGEST_NAME" 8, .str "LETTERS" letters, .int "MOST_SORTS" 6, .int "MOST_WISHES" 20, .cls "Catalogue", .mkr "Catalogue", .noat "Catalogue" "ranges", .noat "Catalogue" "pairs"] ++ gloN.map .glo ++ freN.map .free
def prL : List (Str × Str) := []
abbrev R : PySem.W.OpenRow := PySem.W.OpenLaw.row PySem.Challenge.rw_keptahead_k54_ring_sets
abbrev hk : PySem.W.Hook := hookP 6 fa prL fn
def ob (s : PySem.W.SharedT) : He.AlD := obsPG 6 fa prL fn (HandSHeadRun.getT s)
theorem ob_eq (s : PySem.W.SharedT) : ob s = hk.obs s.abs := obsPG_eq (HandSHeadRun.getT_eq s)
def looseN : List PySem.Str := ["OrderError", "BadCatalogue", "BadWish", "LONGEST_NAME", "LETTERS", "is_name", "is_wish", "MOST_SORTS", "MOST_WISHES", "is_whole", "is_range", "Catalogue", "is_ringless", "subsets", "ring_sets", "_law_begin", "_law_draw", "_law_pick", "_law_names", "_law_every", "_law_rows", "_law_longer", "_law_sets", "_law_is_round"]
theorem run (w : World) : HandSHeadRun.RunEq R (PySem.W.view R.prog [28]) hk ob 3000 looseN w := by
  intro os
  kernel_rfl
section
variable {P : Program} {w : World} {K : PySem.W.Frag} {h : Heap} {mg : Str → Option Value}
theorem gl (X : K.In h) (G : h.Ns mainGlobals mg) (c : SaysP fa prL fn K) {x : Str} (m : x ∈ gloN) : mg x = some (.ref (He.ga K x)) := He.glo_ok X G (c.fa (List.mem_append_left _ (List.mem_append_right _ (List.mem_map.mpr ⟨x, m, rfl⟩))))
theorem fr (X : K.In h) (G : h.Ns mainGlobals mg) (c : SaysP fa prL fn K) {x : Str} (m : x ∈ freN) : mg x = none := He.free_ok X G (c.fa (List.mem_append_right _ (List.mem_map.mpr ⟨x, m, rfl⟩)))
theorem fre (X : K.In h) (G : h.Ns mainGlobals mg) (c : SaysP fa prL fn K) : Fre mg := by
  refine ⟨?_, ?_, ?_, ?_, ?_, ?_, ?_, ?_, ?_, ?_, ?_, ?_, ?_, ?_, ?_⟩ <;> exact fr X G c (by simp [freN])
/-- a def of the top -/
theorem df (X : K.In h) (G : h.Ns mainGlobals mg) (c : SaysP fa prL fn K) {x : Str} {st : Stmt} {ps : List Str} (i : Nat) (e : fn[i]? = some (glP x st)) (m : x ∈ gloN)
    (b : ∀ (kV doc pm : Value) (an : Option Addr) (cdv ct : Value) (us : List Value), us.length = ps.length → bindArgs (PySem.W.fnOf x x (defArgs st) (defBody st) (defScope st) .none kV doc pm an cdv ct) ⟨us, []⟩ = pure (ps.zip us)) : ∃ fd, FnP K x st (He.ga K x) fd ∧ Df K mg x st ps (fun z => z = fd) := by
  obtain ⟨fd, F⟩ := c.fn i e
  exact ⟨fd, F, He.ga K x, fd, F, gl X G c m, FunD.bindsN F b, rfl⟩
theorem catT (X : K.In h) (G : h.Ns mainGlobals mg) (c : SaysP fa prL fn K) : CatT K mg (He.ga K "Catalogue") :=
  ⟨He.cls_ok (c.fa (by simp [fa])), He.noat_ok (c.fa (by simp [fa])), He.noat_ok (c.fa (by simp [fa])), He.int_ok X G (c.fa (by simp [fa])), He.int_ok X G (c.fa (by simp [fa]))⟩
theorem di (X : K.In h) (G : h.Ns mainGlobals mg) (c : SaysP fa prL fn K) : Di K mg "Catalogue" (He.ga K "Catalogue") "Catalogue.__init__" s_Catalogue_init ["self", "sorts", "wishes"] := by
  obtain ⟨fd, F⟩ := c.fn 0 (d := pInit) rfl
  refine ⟨_, fd, _, F, He.mkr_ok (c.fa (by simp [fa])), gl X G c (by simp [gloN]), ?_⟩
  obtain ⟨ds, hv, hb⟩ := FunD.binds1 (ps := ["self", "sorts", "wishes"]) F 3 1 (by intro z; cases z) rfl fun T kV doc pm an cdv ct us its h1 h2 => match us, its, h1, h2 with
    | [_, _, _], [_], _, _ => ⟨_, rfl, rfl⟩
  cases hv
  exact hb
theorem facts {f : Addr} (X : K.In h) (G : h.Ns mainGlobals mg) (hfa : mg ("law" : Str) = some (.ref f)) (c : SaysP fa prL fn K) :
    ∃ fd : FuncData, (∀ (s : Shared) (v : Value), BindsTo s fd ⟨[v], []⟩ [("_law_script", v)]) ∧ ∀ base : Heap, K.In base → base.Ns mainGlobals mg → FnC P w K mg base CX0 5 f fd ["_law_script"] (spLaw K) := by
  have T := fre X G c
  have Ct := catT X G c
  obtain ⟨fd1, F1, D1⟩ := df X G c (ps := ["value"]) 1 (x := "is_name") rfl (by simp [gloN]) fun _ _ _ _ _ _ us hl => match us, hl with | [_], _ => rfl
  obtain ⟨fd2, F2, D2⟩ := df X G c (ps := ["value"]) 2 (x := "is_wish") rfl (by simp [gloN]) fun _ _ _ _ _ _ us hl => match us, hl with | [_], _ => rfl
  obtain ⟨fd3, F3, D3⟩ := df X G c (ps := ["value"]) 3 (x := "is_whole") rfl (by simp [gloN]) fun _ _ _ _ _ _ us hl => match us, hl with | [_], _ => rfl
  obtain ⟨fd4, F4, D4⟩ := df X G c (ps := ["value"]) 4 (x := "is_range") rfl (by simp [gloN]) fun _ _ _ _ _ _ us hl => match us, hl with | [_], _ => rfl
  obtain ⟨fd5, F5, D5⟩ := df X G c (ps := ["names", "pairs"]) 5 (x := "is_ringless") rfl (by simp [gloN]) fun _ _ _ _ _ _ us hl => match us, hl with | [_, _], _ => rfl
  obtain ⟨fd6, F6, D6⟩ := df X G c (ps := ["names"]) 6 (x := "subsets") rfl (by simp [gloN]) fun _ _ _ _ _ _ us hl => match us, hl with | [_], _ => rfl
  obtain ⟨fd7, F7, D7⟩ := df X G c (ps := ["catalogue"]) 7 (x := "ring_sets") rfl (by simp [gloN]) fun _ _ _ _ _ _ us hl => match us, hl with | [_], _ => rfl
  obtain ⟨fd8, F8, D8⟩ := df X G c (ps := ["_law_cell", "_law_turn"]) 8 (x := "_law_begin") rfl (by simp [gloN]) fun _ _ _ _ _ _ us hl => match us, hl with | [_, _], _ => rfl
  obtain ⟨fd9, F9, D9⟩ := df X G c (ps := ["_law_state", "_law_size"]) 9 (x := "_law_draw") rfl (by simp [gloN]) fun _ _ _ _ _ _ us hl => match us, hl with | [_, _], _ => rfl
  obtain ⟨fd10, F10, D10⟩ := df X G c (ps := ["_law_state", "_law_some"]) 10 (x := "_law_pick") rfl (by simp [gloN]) fun _ _ _ _ _ _ us hl => match us, hl with | [_, _], _ => rfl
  obtain ⟨fd11, F11, D11⟩ := df X G c (ps := ["_law_state", "_law_many"]) 11 (x := "_law_names") rfl (by simp [gloN]) fun _ _ _ _ _ _ us hl => match us, hl with | [_, _], _ => rfl
  obtain ⟨fd12, F12, D12⟩ := df X G c (ps := ["_law_names_here"]) 12 (x := "_law_every") rfl (by simp [gloN]) fun _ _ _ _ _ _ us hl => match us, hl with | [_], _ => rfl
  obtain ⟨fd13, F13, D13⟩ := df X G c (ps := ["_law_rows_here", "_law_names_here", "_law_wishes"]) 13 (x := "_law_rows") rfl (by simp [gloN]) fun _ _ _ _ _ _ us hl => match us, hl with | [_, _, _], _ => rfl
  obtain ⟨fd14, F14, D14⟩ := df X G c (ps := ["_law_rows_here", "_law_names_here"]) 14 (x := "_law_longer") rfl (by simp [gloN]) fun _ _ _ _ _ _ us hl => match us, hl with | [_, _], _ => rfl
  obtain ⟨fd15, F15, D15⟩ := df X G c (ps := ["_law_names_here"]) 15 (x := "_law_sets") rfl (by simp [gloN]) fun _ _ _ _ _ _ us hl => match us, hl with | [_], _ => rfl
  obtain ⟨fd16, F16, D16⟩ := df X G c (ps := ["_law_names_here", "_law_wishes"]) 16 (x := "_law_is_round") rfl (by simp [gloN]) fun _ _ _ _ _ _ us hl => match us, hl with | [_, _], _ => rfl
  obtain ⟨fd17, F17, D17⟩ := df X G c (ps := ["_law_script"]) 17 (x := "law") rfl (by simp [gloN]) fun _ _ _ _ _ _ us hl => match us, hl with | [_], _ => rfl
  have gN := He.int_ok X G (c.fa (f := .int "LONGEST_NAME" 8) (by simp [fa]))
  have gS := He.str_ok X G (c.fa (f := .str "LETTERS" letters) (by simp [fa]))
  have gr := fr X G c (x := "repr") (by simp [freN])
  have Dr : Df K mg "ring_sets" s_ring_sets ["catalogue"] (fun fd => ByName fd "catalogue") := by
    obtain ⟨f, fd, h1, h2, h3, h4⟩ := D7
    refine ⟨f, fd, h1, h2, h3, fun s v => ?_⟩
    obtain ⟨oc, od, dV, kV, doc, pm, an, cdv, ct, osl, rfl, lk, hcd, hD, hK⟩ := h1.ex
    rcases hD with ⟨_, rfl⟩ | ⟨z, _⟩
    · exact .of_eq rfl
    · exact absurd rfl z
  have e := hfa.symm.trans (gl X G c (x := "law") (by simp [gloN]))
  injection e with e
  injection e with e
  subst e
  have b := FunD.bindsA (ps := ["_law_script"]) F17 fun _ _ _ _ _ _ us hl => match us, hl with | [_], _ => rfl
  refine ⟨fd17, fun s v => b s [v] rfl, fun base _ _ => ?_⟩
  have GD : Fn P w K mg base _ _ 1 spDrw := ok_drw D9.any T
  have GP : Fn P w K mg base _ _ 2 (spPick K) := ok_pick D10.any GD T
  have GN : Fn P w K mg base _ _ 1 (spIsName K) := ok_is_name D1.any T gN gS
  have GR : Fn P w K mg base _ _ 2 (spRs (He.ga K "Catalogue")) (fun fd => ByName fd "catalogue") := ok_rs Dr (ok_sub D6.any T) (ok_rgl D5.any T) T Ct
  have GL := ok_law D17 (P := P) (w := w) (base := base) (ok_begin D8.any T) GD GP (ok_names D11.any GD GP T) (ok_every D12.any T) (ok_sets D15.any (ok_longer D14.any T) T) (ok_round D16.any (ok_rows D13.any T) T) GR (ok_init (di X G c) GN (ok_is_wish D2.any GN T) (ok_is_range D4.any (ok_is_whole D3.any T) T) T Ct) T gr Ct
  obtain ⟨f, fd', g, _, _, e2, ok⟩ := GL
  have e3 := hfa.symm.trans g
  injection e3 with e3
  injection e3 with e3
  rw [e2, ← e3] at ok
  exact ok
end
end KA
open PySem PySem.W PySem.Calls PyProof.Rows
theorem PySem.Challenge.cw_keptahead_k54_ring_sets_holds : PySem.Challenge.rw_keptahead_k54_ring_sets.Holds := by
  w_on; o_law
  refine HandSHeadRun.head_any (r := OpenLaw.row PySem.Challenge.rw_keptahead_k54_ring_sets) (q := view (OpenLaw.row PySem.Challenge.rw_keptahead_k54_ring_sets).prog [28]) (H := KA.hk) (ob := KA.ob) (M := 3000) (loose := KA.looseN) (d := HandSHeadRun.topDef (OpenLaw.row PySem.Challenge.rw_keptahead_k54_ring_sets).prog 28) (kwd := []) KA.ob_eq
    (by kernel_rfl) (fun s => by kernel_rfl) KA.run (by kernel_rfl) (by kernel_rfl) (by kernel_rfl) (by rfl) (by first | assumption | decide +kernel) (by decide +kernel) ⟨rfl, rfl, rfl, rfl, rfl, by decide +kernel⟩ ?hw ?hc
  case hw => w_witness2
  case hc =>
    refine KA.walk_law (l := PySem.Challenge.rw_keptahead_k54_ring_sets) (n := 63) (k := 5) (x := "_law_script") rfl (by decide) (by kernel_rfl) ⟨rfl, by decide, by decide⟩ ?F
    intro w mg fa h Y G hmg0
    obtain ⟨K, KX, c⟩ := Y
    have hmg : mg ("law" : PySem.Str) = some (.ref fa) := by
      have e : (HandSHeadRun.topDef (OpenLaw.row PySem.Challenge.rw_keptahead_k54_ring_sets).prog 28).name = ("law" : PySem.Str) := by kernel_rfl
      rw [← e]
      exact hmg0
    obtain ⟨fd, hb, hF⟩ := KA.facts (P := (PySem.Challenge.rw_keptahead_k54_ring_sets).prog) (w := w) KX G hmg c
    exact ⟨K, fd, KA.spLaw K, KX, hb, fun H a ns hl hS => ⟨a, ns, rfl, hS, hl, fun _ => rfl⟩, hF⟩
