import PyProof.Rows.All
import Wide.All
import OpenK.AllK
import Wide.FinOn
import HandS.ForMost
import HandS.Wide
import HandS.Codes
import PySem.Challenge.RW_heldanswers_k77_seam_large_plays
import HandS.More
import HandS.SlotsOwn
import KE.KDictIter
import KE.KOwnIter
import HandS.Conv
import HandS.DictComp
import KE.KDictOf
import KE.KDictCopyH
import KE.KDictDisplayH
import KE.KEqDict
import HandS.Walk
import HandS.IsInst
import PyProof.ReprRoads
import PyProof.StrLawsIn
import PyProof.StrLawsRepr
import HandS.Ends
set_option Elab.async false
set_option linter.all false
set_option maxRecDepth 100000
set_option maxHeartbeats 4000000
/-! short words over the hand layer -/
namespace HL
open PySem L2
/-- all that was tracked is as it was, but for p -/
def But (p : Addr) (H H' : Hp) : Prop := ∀ b o, b ≠ p → H b = some o → H' b = some o
theorem same_new {H : Hp} {p : Addr} (h : H p = none) (o : HO) : Same H (upd H p o) := fun b u q => by rw [upd_ne (ne_of_none q h)]; exact q
theorem But.of {p : Addr} {H H' : Hp} (h : Same H H') : But p H H' := fun b o _ e => h b o e
theorem But.trans {p : Addr} {H H1 H2 : Hp} (a : But p H H1) (b : But p H1 H2) : But p H H2 := fun c o n e => b c o n (a c o n e)
theorem But.upd {p : Addr} {H : Hp} (o : HO) : But p H (upd H p o) := fun b u n e => by rw [upd_ne n]; exact e
theorem But.new {p q : Addr} {H H' : Hp} (h : But p H H') (n : H' q = none) (o : HO) : But p H (L2.upd H' q o) := h.trans (But.of (same_new n o))
theorem But.same {p : Addr} {H H' : Hp} (h : But p H H') (n : H p = none) : Same H H' := fun b o e => h b o (ne_of_none e n) e
theorem But.nil {p : Addr} {H : Hp} : But p H H := fun _ _ _ e => e
theorem sizeLine_big : (1000000 : Nat) ≤ sizeLine := by decide
theorem small8 {n : Nat} (h : n ≤ 8) : n ≤ sizeLine := Nat.le_trans h (by decide)
/-- the tuples stand -/
def Tups (H H' : Hp) : Prop := ∀ b xs, H b = some (.tup xs) → H' b = some (.tup xs)
theorem Tups.of {H H' : Hp} (h : Same H H') : Tups H H' := fun b _ e => h b _ e
theorem Tups.refl (H : Hp) : Tups H H := fun _ _ e => e
theorem Tups.trans {H H1 H2 : Hp} (a : Tups H H1) (b : Tups H1 H2) : Tups H H2 := fun c xs e => b c xs (a c xs e)
def isTup : HO → Bool
  | .tup _ => true
  | _ => false
theorem But.tups {p : Addr} {H H' : Hp} {u : HO} (h : But p H H') (hp : H p = some u) (n : isTup u = false) : Tups H H' := fun b ys e => h b _ (ne_of e hp (by intro z; subst z; cases n)) e
section
variable {P : Program} {w : World} {K : PySem.W.Frag} {mg : Str → Option Value} {base : Heap}
/-- a def of the text stands at f -/
structure At (K : PySem.W.Frag) (mg : Str → Option Value) (x : Str) (st : Stmt) (ps : List Str) (f : Addr) (fd : FuncData) : Prop where
  fn : Fun K x x st f fd
  b : Binds K fd ps []
  m : mg x = some (.ref f)
/-- the def x keeps its promise, with k calls one in another -/
structure Def (P : Program) (w : World) (K : PySem.W.Frag) (mg : Str → Option Value) (base : Heap) (k : Nat) (x : Str) (ps : List Str) (sp : Sp) : Prop where
  ex : ∃ f fd, FnOk P w K mg base CX0 k f fd ps sp ∧ Binds K fd ps [] ∧ PySem.W.keepIn K (.ref f) = true ∧ mg x = some (.ref f)
theorem At.df {x : Str} {st : Stmt} {ps : List Str} {f : Addr} {fd : FuncData} {k : Nat} {sp : Sp} (a : At K mg x st ps f fd) (F : FnOk P w K mg base CX0 k f fd ps sp) : Def P w K mg base k x ps sp :=
  ⟨f, fd, F, a.b, a.fn.kp, a.m⟩
/-- the method m of the class at C keeps its promise -/
structure MDef (P : Program) (w : World) (K : PySem.W.Frag) (mg : Str → Option Value) (base : Heap) (C f : Addr) (fd : FuncData) (k : Nat) (m : Str) (ps : List Str) (sp : Sp) : Prop where
  mt : Meth K C m f
  ok : FnOk P w K mg base CX0 k f fd ps sp
  b : Binds K fd ps []
/-- the class x stands at C, its __init__ keeps its promise -/
structure CDef (P : Program) (w : World) (K : PySem.W.Frag) (mg : Str → Option Value) (base : Heap) (C : Addr) (k : Nat) (x : Str) (ps : List Str) (sp : Sp) : Prop where
  ex : ∃ f fd, Mk K C f ∧ FnOk P w K mg base CX0 k f fd ps sp ∧ Binds K fd ps []
  m : mg x = some (.ref C)
end
section
variable {X : Cx} {k n : Nat} {C : Addr} {x : Str} {ps : List Str} {sp : Sp} {e : Expr} {es : List Expr} {p pos : Pos} {t : TA}
theorem pe_cd (D : Def X.prog X.w X.K X.mg X.base k x ps sp) (hr : Room n X.A) (ha : PA X (e :: es) t) (hk : k ≤ n := by first | decide | omega) (hg : Gl X x := by rfl) (hdb : (x == ("__debug__" : Str)) = false := by decide)
    (he : starEach (e :: es) X.env = (false, eval e X.env) :: starEach es X.env := by rfl) (hpl : (backTo pos (starEach es X.env)).any (·.1) = false := by rfl) : PE X (.Call (.Name x p) (e :: es) [] pos) (tCall sp [] E0 t) := by
  obtain ⟨f, fd, F, b, kp, hm⟩ := D.ex
  exact pe_call (F.mono hk) hr hg hm kp b .nil pass0 ha hdb he hpl
theorem pe_cd0 (D : Def X.prog X.w X.K X.mg X.base k x ps sp) (hr : Room n X.A) (hk : k ≤ n := by first | decide | omega) (hg : Gl X x := by rfl) (hdb : (x == ("__debug__" : Str)) = false := by decide) : PE X (.Call (.Name x p) [] [] pos) (tCall sp [] E0 tNil) := by
  obtain ⟨f, fd, F, b, kp, hm⟩ := D.ex
  exact pe_call0 (F.mono hk) hr hg hm kp b .nil pass0 hdb
theorem pe_mk (D : CDef X.prog X.w X.K X.mg X.base C k x ps sp) (hr : Room n X.A) (ha : PA X (e :: es) t) (hk : k + 1 ≤ n := by first | decide | omega) (hg : Gl X x := by rfl) (hdb : (x == ("__debug__" : Str)) = false := by decide)
    (he : starEach (e :: es) X.env = (false, eval e X.env) :: starEach es X.env := by rfl) (hpl : (backTo pos (starEach es X.env)).any (·.1) = false := by rfl) : PE X (.Call (.Name x p) (e :: es) [] pos) (tMake C sp [] E0 t) := by
  obtain ⟨f, fd, M, F, b⟩ := D.ex
  exact pe_make M F (hr.mono hk) hg D.m b .nil pass0 ha hdb he hpl
theorem pe_mk0 (D : CDef X.prog X.w X.K X.mg X.base C k x ps sp) (hr : Room n X.A) (hk : k + 1 ≤ n := by first | decide | omega) (hg : Gl X x := by rfl) (hdb : (x == ("__debug__" : Str)) = false := by decide) : PE X (.Call (.Name x p) [] [] pos) (tMake C sp [] E0 tNil) := by
  obtain ⟨f, fd, M, F, b⟩ := D.ex
  exact pe_make0 M F (hr.mono hk) hg D.m b .nil pass0 hdb
end
end HL

namespace K77
open PySem L2 HL
def top (i : Nat) : Stmt := PySem.Challenge.pw_heldanswers_k77_seam_large_plays.main.body.getD i (.Pass ⟨0, 0, 0, 0⟩)
abbrev sCell : Stmt := top 36
abbrev sPool : Stmt := top 37
abbrev sNext : Stmt := top 38
abbrev sMode : Stmt := top 39
/-- the pool: a list of three ints -/
def PoolAt (H : Hp) (p : Addr) : Prop := ∃ a b c : Int, H p = some (.lst [.int a, .int b, .int c])
structure Txt (mg : Str → Option Value) : Prop where
  len : mg "len" = none
  abs : mg "abs" = none
  int : mg "int" = none
  min : mg "min" = none
  str : mg "str" = none
  range : mg "range" = none
  max : mg "max" = none
  list : mg "list" = none
  tuple : mg "tuple" = none
  dict : mg "dict" = none
  iter : mg "iter" = none
  repr : mg "repr" = none
  isinstance : mg "isinstance" = none
def spCell (K : PySem.W.Frag) : Sp := fun vs H Q _ => ∃ (a : Addr) (ns : List Int), vs = [.ref a, .int 0] ∧ SqL K H a (ns.map V.int) ∧ ns.length ≤ 63 ∧ ∀ c : Int, 0 ≤ c → Q (.int c) H
def spPool (K : PySem.W.Frag) : Sp := fun vs H Q _ => ∃ (a : Addr) (ns : List Int), vs = [.ref a, .int 0] ∧ SqL K H a (ns.map V.int) ∧ ns.length ≤ 63 ∧ ∀ (p : Addr) (H' : Hp), Same H H' → H p = none → PoolAt H' p → Q (.ref p) H'
def spNext : Sp := fun vs H Q _ => ∃ (p : Addr) (n : Int), vs = [.ref p, .int n] ∧ PoolAt H p ∧ 0 < n ∧ n < 1000000 ∧ ∀ (d : Int) (H' : Hp), 0 ≤ d → d < n → But p H H' → PoolAt H' p → Q (.int d) H'
section
variable {P : Program} {w : World} {K : PySem.W.Frag} {mg : Str → Option Value} {base : Heap}
theorem scCell : FnScope ["script", "k"] ["script", "k"] (defScope sCell) := ⟨rfl, rfl, rfl, by decide +kernel, rfl, by decide +kernel, by decide +kernel⟩
theorem ok_cell {f : Addr} {fd : FuncData} (F : Fun K "_law_cell" "_law_cell" sCell f fd) (T : Txt mg) : FnOk P w K mg base CX0 1 f fd ["script", "k"] (spCell K) := by
  refine F.ok scCell (fun vs H Q E h => ?_) (fun cdv A outer s H vs Q E hr h => ?_)
  · obtain ⟨a, ns, rfl, _⟩ := h
    rfl
  · obtain ⟨a, ns, rfl, hS, h63, q⟩ := h
    refine ⟨_, pss_cons (ps_if (pt_cmpR op_lt (pv 1) (pe_callB call_len_seq rfl T.len PySem.boot_len (pa_cons (pv 0) pa_nil)) (nomark _))
      (pss_one (ps_ret (pe_callB call_abs rfl T.abs (by decide +kernel) (pa_cons (pe_ix ix_list (pv 0) (pv 1) (fun _ _ => rfl)) pa_nil)))) pss_nil) (pss_one (ps_ret pe_int)), ?_⟩
    refine ⟨_, rfl, _, rfl, a, _, rfl, .inl hS, _, _, rfl, rfl, _, rfl, ?_⟩
    refine ite2 (fun c => ?_) (fun c => ?_)
    · have c' : (0 : Int) < (((ns.map V.int).length : Nat) : Int) := of_decide_eq_true c
      rw [List.length_map] at c'
      have z : atI (ns.map V.int) ((0 : Nat) : Int) = some (.int ns[0]) := atI_nat (by rw [List.getElem?_map, List.getElem?_eq_getElem (by omega)] <;> rfl)
      refine ⟨_, rfl, _, rfl, a, _, _, _, rfl, rfl, hS, z, _, rfl, ?_⟩
      refine q _ ?_
      split <;> omega
    · exact q 0 (Int.le_refl 0)
theorem scPool : FnScope ["script", "k", "cell"] ["script", "k"] (defScope sPool) := ⟨rfl, rfl, rfl, by decide +kernel, rfl, by decide +kernel, by decide +kernel⟩
theorem ok_pool {f g : Addr} {fd gd : FuncData} (F : Fun K "_law_pool" "_law_pool" sPool f fd) (T : Txt mg) (G : FnOk P w K mg base CX0 1 g gd ["script", "k"] (spCell K)) (bG : Binds K gd ["script", "k"] []) (kG : PySem.W.keepIn K (.ref g) = true) (mG : mg "_law_cell" = some (.ref g)) :
    FnOk P w K mg base CX0 2 f fd ["script", "k"] (spPool K) := by
  refine F.ok scPool (fun vs H Q E h => ?_) (fun cdv A outer s H vs Q E hr h => ?_)
  · obtain ⟨a, ns, rfl, _⟩ := h
    rfl
  · obtain ⟨a, ns, rfl, hS, h63, q⟩ := h
    refine ⟨_, pss_cons (ps_set (i := 2) scPool.nd rfl (Or.inl rfl) (pe_call G hr rfl mG kG bG .nil pass0 (pa_cons (pv 0) (pa_cons (pv 1) pa_nil))))
      (pss_cons (ps_if (pt_cmpR op_ge (pv 2) (pe_op op_pow pe_int pe_int) (nomark _))
        (pss_one (ps_ret (pe_lst (pa_cons (pv 2) (pa_cons pe_int (pa_cons (pe_op op_mod (pe_callTy call_int1 rfl T.int (by decide +kernel) (pa_cons (pv 2) pa_nil)) pe_int) pa_nil)))))) pss_nil)
      (pss_one (ps_ret (pe_lst (pa_cons pe_int (pa_cons pe_int (pa_cons (pv 2) pa_nil))))))), ?_⟩
    refine ⟨_, rfl, _, rfl, a, ns, rfl, hS, h63, fun c hc => ?_⟩
    refine ⟨_, rfl, _, _, rfl, rfl, ⟨by decide, by decide, by decide⟩, _, _, rfl, rfl, _, rfl, ?_⟩
    refine ite2 (fun _ => ?_) (fun _ => ?_)
    · refine ⟨_, rfl, _, rfl, .inl ⟨_, rfl, _, _, rfl, rfl, (by show (0 : Int) < 1000003; decide), (by show 3 ≤ sizeLine; decide), fun p hp => ?_⟩⟩
      exact q p _ (same_new hp _) hp ⟨_, _, _, upd_same⟩
    · refine ⟨_, rfl, (by show 3 ≤ sizeLine; decide), fun p hp => ?_⟩
      exact q p _ (same_new hp _) hp ⟨_, _, _, upd_same⟩
end
end K77

namespace K77
open PySem L2 HL
section
variable {P : Program} {w : World} {K : PySem.W.Frag} {mg : Str → Option Value} {base : Heap}
theorem scNext : FnScope ["pool", "many", "digit", "mixed"] ["pool", "many"] (defScope sNext) := ⟨rfl, rfl, rfl, by decide +kernel, rfl, by decide +kernel, by decide +kernel⟩
theorem ok_next {f : Addr} {fd : FuncData} (F : Fun K "_law_next" "_law_next" sNext f fd) (T : Txt mg) : FnOk P w K mg base CX0 1 f fd ["pool", "many"] spNext := by
  refine F.ok scNext (fun vs H Q E h => ?_) (fun cdv A outer s H vs Q E hr h => ?_)
  · obtain ⟨p, n, rfl, _⟩ := h
    rfl
  · obtain ⟨p, n, rfl, ⟨a, b, c, hp⟩, h0, hn, q⟩ := h
    refine ⟨_, pss_cons (ps_if (pt_cmpR op_gt (pe_ix ix_list (pv 0) pe_int (fun _ _ => rfl)) pe_int (nomark _))
        (pss_cons (ps_set (i := 2) scNext.nd rfl (Or.inl rfl) (pe_op op_mod (pe_callTy call_int1 rfl T.int (by decide +kernel) (pa_cons (pe_ix ix_list (pv 0) pe_int (fun _ _ => rfl)) pa_nil)) (pv 1)))
        (pss_cons (ps_asg (pe_op op_fdiv (pe_ix ix_list (pv 0) pe_int (fun _ _ => rfl)) (pv 1)) (pg_sub (pv 0) pe_int set_list))
        (pss_one (ps_ret (pv 2))))) pss_nil)
      (pss_cons (ps_asg (pe_op op_add (pe_ix ix_list (pv 0) pe_int (fun _ _ => rfl)) pe_int) (pg_sub (pv 0) pe_int set_list))
      (pss_cons (ps_set (i := 3) scNext.nd rfl (Or.inl rfl) (pe_op op_mod (pe_callTy call_int1 rfl T.int (by decide +kernel) (pa_cons (pe_op op_add (pe_op op_add (pe_ix ix_list (pv 0) pe_int (fun _ _ => rfl)) (pe_op op_mul pe_int (pe_ix ix_list (pv 0) pe_int (fun _ _ => rfl)))) pe_int) pa_nil)) pe_int))
      (pss_cons (ps_set (i := 3) scNext.nd rfl (Or.inl rfl) (pe_op op_mod (pe_callTy call_int1 rfl T.int (by decide +kernel) (pa_cons (pe_op op_mul (pv 3) (pe_op op_add (pv 3) pe_int)) pa_nil)) pe_int))
      (pss_cons (ps_set (i := 3) scNext.nd rfl (Or.inl rfl) (pe_op op_mod (pe_callTy call_int1 rfl T.int (by decide +kernel) (pa_cons (pe_op op_add (pe_op op_mul (pv 3) (pe_op op_add (pv 3) pe_int)) (pe_op op_mul pe_int (pe_ix ix_list (pv 0) pe_int (fun _ _ => rfl)))) pa_nil)) pe_int))
      (pss_one (ps_ret (pe_op op_mod (pe_callTy call_int1 rfl T.int (by decide +kernel) (pa_cons (pe_op op_fdiv (pv 3) pe_int) pa_nil)) (pv 1)))))))), ?_⟩
    refine ⟨_, rfl, p, _, _, _, rfl, rfl, SqL.of hp, rfl, _, _, rfl, rfl, _, rfl, ?_⟩
    refine ite2 (fun _ => ?_) (fun _ => ?_)
    · refine ⟨_, rfl, p, _, _, _, rfl, rfl, SqL.of hp, rfl, .inl ⟨_, rfl, _, rfl, _, _, rfl, rfl, h0, ?_⟩⟩
      refine ⟨_, rfl, p, _, _, _, rfl, rfl, SqL.of hp, rfl, _, rfl, _, _, rfl, rfl, ⟨h0, by omega⟩, ?_⟩
      refine ⟨_, rfl, p, _, _, _, rfl, rfl, hp, rfl, ?_⟩
      refine ⟨_, rfl, ?_⟩
      exact q _ _ (Int.emod_nonneg _ (by omega)) (Int.emod_lt_of_pos _ h0) (But.upd _) ⟨_, _, _, upd_same⟩
    · refine ⟨_, rfl, p, _, _, _, rfl, rfl, SqL.of hp, rfl, _, _, rfl, rfl, ?_⟩
      refine ⟨_, rfl, p, _, _, _, rfl, rfl, hp, rfl, ?_⟩
      have hp2 : (upd H p (.lst [.int a, .int (b + 1), .int c])) p = some (.lst [.int a, .int (b + 1), .int c]) := upd_same
      refine ⟨_, rfl, p, _, _, _, rfl, rfl, SqL.of hp2, rfl, _, rfl, p, _, _, _, rfl, rfl, SqL.of hp2, rfl, _, _, rfl, rfl, .inl ⟨by decide, by decide⟩, _, _, rfl, rfl, _, _, rfl, rfl, .inl ⟨_, rfl, _, _, rfl, rfl, (by show (0 : Int) < 2147483647; decide), ?_⟩⟩
      generalize hm : ((c + 7919 * (b + 1) + 13) % 2147483647 : Int) = m1
      have m1a : 0 ≤ m1 := by omega
      have m1b : m1 < 2147483647 := by omega
      refine ⟨_, rfl, _, rfl, _, _, rfl, rfl, _, _, rfl, rfl, .inl ⟨by omega, by omega⟩, .inl ⟨_, rfl, _, _, rfl, rfl, (by show (0 : Int) < 2147483629; decide), ?_⟩⟩
      generalize hm2 : (m1 * (m1 + 48271) % 2147483629 : Int) = m2
      have m2a : 0 ≤ m2 := by rw [← hm2]; exact Int.emod_nonneg _ (by decide)
      have m2b : m2 < 2147483629 := by rw [← hm2]; exact Int.emod_lt_of_pos _ (by decide)
      refine ⟨_, rfl, _, rfl, _, _, rfl, rfl, _, _, rfl, rfl, .inl ⟨by omega, by omega⟩, _, rfl, p, _, _, _, rfl, rfl, SqL.of hp2, rfl, _, _, rfl, rfl, .inl ⟨by decide, by decide⟩, _, _, rfl, rfl, .inl ⟨_, rfl, _, _, rfl, rfl, (by show (0 : Int) < 2147483647; decide), ?_⟩⟩
      refine ⟨_, rfl, _, _, rfl, rfl, ⟨by decide, by decide⟩, .inl ⟨_, rfl, _, rfl, _, _, rfl, rfl, h0, ?_⟩⟩
      exact q _ _ (Int.emod_nonneg _ (by omega)) (Int.emod_lt_of_pos _ h0) (But.upd _) ⟨_, _, _, upd_same⟩
end
end K77

namespace K77
open PySem L2 HL
/-! ## trees -/
inductive Md | once | st (n : Nat) (d : Int)
inductive Sn | p | pp
inductive Tr
  | own (r : V)
  | pick (r : V) (side : Str) (b : Tr)
  | offer (a b : Tr)
  | cut (m : Md) (s : Sn) (a b : Tr)
  | pay (r : V) (m : Md) (a b : Tr)
theorem _root_.HL.But.tupsP {p : Addr} {H H' : Hp} (h : But p H H') (hp : PoolAt H p) : Tups H H' := by
  obtain ⟨a, b, c, e⟩ := hp
  exact h.tups e rfl
def MdAt (H : Hp) (v : V) : Md → Prop
  | .once => v = .str "once"
  | .st n d => ∃ t, v = .ref t ∧ H t = some (.tup [.int n, .int d])
def SnAt (H : Hp) (v : V) : Sn → Prop
  | .p => ∃ t, v = .ref t ∧ H t = some (.tup [.str "word", .str "p"])
  | .pp => ∃ t x, v = .ref t ∧ H t = some (.tup [.str "menu", .ref x, .ref x]) ∧ H x = some (.tup [.str "word", .str "p"])
def TrAt (H : Hp) : V → Tr → Prop
  | v, .own r => ∃ p, v = .ref p ∧ H p = some (.tup [.str "own", r])
  | v, .pick r side b => ∃ p x, v = .ref p ∧ H p = some (.tup [.str "pick", r, .str side, x]) ∧ TrAt H x b
  | v, .offer a b => ∃ p x y, v = .ref p ∧ H p = some (.tup [.str "offer", x, y]) ∧ TrAt H x a ∧ TrAt H y b
  | v, .cut m s a b => ∃ p m' s' x y, v = .ref p ∧ H p = some (.tup [.str "cut", m', s', x, y]) ∧ MdAt H m' m ∧ SnAt H s' s ∧ TrAt H x a ∧ TrAt H y b
  | v, .pay r m a b => ∃ p m' x y, v = .ref p ∧ H p = some (.tup [.str "pay", r, m', x, y]) ∧ MdAt H m' m ∧ TrAt H x a ∧ TrAt H y b
theorem MdAt.mono {H H' : Hp} (h : Tups H H') {v : V} : ∀ {m : Md}, MdAt H v m → MdAt H' v m
  | .once, e => e
  | .st _ _, ⟨t, e, q⟩ => ⟨t, e, h _ _ q⟩
theorem SnAt.mono {H H' : Hp} (h : Tups H H') {v : V} : ∀ {m : Sn}, SnAt H v m → SnAt H' v m
  | .p, ⟨t, e, q⟩ => ⟨t, e, h _ _ q⟩
  | .pp, ⟨t, x, e, q, r⟩ => ⟨t, x, e, h _ _ q, h _ _ r⟩
theorem TrAt.mono {H H' : Hp} (h : Tups H H') : ∀ {t : Tr} {v : V}, TrAt H v t → TrAt H' v t
  | .own _, _, ⟨p, e, q⟩ => ⟨p, e, h _ _ q⟩
  | .pick _ _ _, _, ⟨p, x, e, q, r⟩ => ⟨p, x, e, h _ _ q, TrAt.mono h r⟩
  | .offer _ _, _, ⟨p, x, y, e, q, r, s⟩ => ⟨p, x, y, e, h _ _ q, TrAt.mono h r, TrAt.mono h s⟩
  | .cut _ _ _ _, _, ⟨p, m', s', x, y, e, q, r1, r2, r, s⟩ => ⟨p, m', s', x, y, e, h _ _ q, r1.mono h, r2.mono h, TrAt.mono h r, TrAt.mono h s⟩
  | .pay _ _ _ _, _, ⟨p, m', x, y, e, q, r1, r, s⟩ => ⟨p, m', x, y, e, h _ _ q, r1.mono h, TrAt.mono h r, TrAt.mono h s⟩
/-- the trees that the law draws: depth, room, level -/
inductive MdOk : Md → Nat → Nat → Prop
  | once (r : Nat) : MdOk .once r r
  | st (n : Nat) (d : Int) (r : Nat) : 1 ≤ n → n ≤ r → 0 ≤ d → d ≤ 100 → MdOk (.st n d) r (r / n)
def nameOf : Md → Str
  | .once => "f"
  | .st n d => ("f" ++ Str.ofString (toString (n : Int)) ++ "x" ++ Str.ofString (toString d) : Str)
inductive Wf : Nat → Nat → Int → Tr → Prop
  | own (d r : Nat) (l : Int) : Wf d r l (.own (.str "s"))
  | pick (d r : Nat) (l : Int) : Wf (d + 1) r l (.pick (.str "m") "left" (.own (.int l)))
  | menu (d r : Nat) (l : Int) (a b : Tr) (side : Str) : d < 4 → (side = "left" ∨ side = "right") → Wf d r l a → Wf d r l b → Wf (d + 1) r l (.cut .once .pp (.offer a b) (.pick (.int l) side (.own (.int (l + 1)))))
  | cut (d r r' : Nat) (l : Int) (m : Md) (a : Tr) : MdOk m r r' → Wf d r' l a → Wf (d + 1) r l (.cut m .p a (.own (.int l)))
  | pay (d r r' : Nat) (l : Int) (m : Md) (a : Tr) : MdOk m r r' → Wf d r' l a → Wf (d + 1) r l (.pay (.str (nameOf m)) m a (.own (.int l)))
abbrev sPart : Stmt := top 40
def spMode : Sp := fun vs H Q _ => ∃ (p : Addr) (r : Nat), vs = [.ref p, .int r] ∧ PoolAt H p ∧ 1 ≤ r ∧ r ≤ 400 ∧ ∀ (v : V) (m : Md) (r' : Nat) (H' : Hp), MdAt H' v m → MdOk m r r' → But p H H' → PoolAt H' p → Q v H'
def spPart (n : Nat) : Sp := fun vs H Q _ => ∃ (p : Addr) (l : Int) (d r : Nat), vs = [.ref p, .int l, .int d, .int r] ∧ PoolAt H p ∧ d < n ∧ 1 ≤ r ∧ r ≤ 400 ∧ ∀ (v : V) (t : Tr) (H' : Hp), TrAt H' v t → Wf d r l t → But p H H' → PoolAt H' p → Q v H'
section
variable {P : Program} {w : World} {K : PySem.W.Frag} {mg : Str → Option Value} {base : Heap}
theorem scMode : FnScope ["pool", "room"] ["pool", "room"] (defScope sMode) := ⟨rfl, rfl, rfl, by decide +kernel, rfl, by decide +kernel, by decide +kernel⟩
theorem PoolAt.new {H : Hp} {p q : Addr} {o : HO} (h : PoolAt H p) (n : H q = none) : PoolAt (upd H q o) p := by
  obtain ⟨a, b, c, e⟩ := h
  exact ⟨a, b, c, by rw [upd_ne (ne_of_none e n)]; exact e⟩
theorem ok_mode {f g : Addr} {fd gd : FuncData} (F : Fun K "_law_mode" "_law_mode" sMode f fd) (T : Txt mg) (G : FnOk P w K mg base CX0 1 g gd ["pool", "many"] spNext) (bG : Binds K gd ["pool", "many"] []) (kG : PySem.W.keepIn K (.ref g) = true) (mG : mg "_law_next" = some (.ref g)) :
    FnOk P w K mg base CX0 2 f fd ["pool", "room"] spMode := by
  refine F.ok scMode (fun vs H Q E h => ?_) (fun cdv A outer s H vs Q E hr h => ?_)
  · obtain ⟨p, r, rfl, _⟩ := h
    rfl
  · obtain ⟨p, r, rfl, hp, h1, h4, q⟩ := h
    refine ⟨_, pss_cons (ps_if (pt_cmpR op_eq (pe_call G hr rfl mG kG bG .nil pass0 (pa_cons (pv 0) (pa_cons pe_int pa_nil))) pe_int (nomark _)) (pss_one (ps_ret pe_str)) pss_nil)
      (pss_one (ps_ret (pe_tup (pa_cons (pe_op op_add pe_int (pe_call G hr rfl mG kG bG .nil pass0 (pa_cons (pv 0) (pa_cons
          (pe_ix ix_list (pe_lst (pa_cons (pe_callB (call_min2 rfl) rfl T.min (by decide +kernel) (pa_cons (pv 1) (pa_cons pe_int pa_nil))) (pa_cons (pv 1) pa_nil))) (pe_call G hr rfl mG kG bG .nil pass0 (pa_cons (pv 0) (pa_cons pe_int pa_nil))) (fun _ _ => rfl)) pa_nil))))
        (pa_cons (pe_call G hr rfl mG kG bG .nil pass0 (pa_cons (pv 0) (pa_cons pe_int pa_nil))) pa_nil))))), ?_⟩
    refine ⟨_, rfl, p, 4, rfl, hp, by decide, by decide, fun d1 H1 _ _ b1 p1 => ?_⟩
    refine ⟨rfl, _, rfl, ?_⟩
    refine ite2 (fun _ => ?_) (fun _ => ?_)
    · exact q _ .once r H1 rfl (.once r) b1 p1
    · refine ⟨_, rfl, _, rfl, _, _, rfl, _, rfl, (by show 2 ≤ sizeLine; decide), fun L hL => ?_⟩
      refine ⟨_, rfl, p, 2, rfl, p1.new hL, by decide, by decide, fun d2 H2 d20 d22 b2 p2 => ?_⟩
      have hL2 : H2 L = some (.lst [.int (if (13 : Int) < (r : Int) then 13 else (r : Int)), .int r]) := b2 _ _ (by
        obtain ⟨a, b, c, e⟩ := p1
        exact (ne_of_none e hL).symm) upd_same
      have hm : ∃ m : Int, 1 ≤ m ∧ m ≤ r ∧ atI [V.int (if (13 : Int) < (r : Int) then 13 else (r : Int)), V.int r] d2 = some (.int m) := by
        rcases (by omega : d2 = 0 ∨ d2 = 1) with rfl | rfl
        · refine ⟨_, ?_, ?_, rfl⟩ <;> split <;> omega
        · exact ⟨r, by omega, by omega, rfl⟩
      obtain ⟨m, m1, m2, em⟩ := hm
      refine ⟨L, _, d2, _, rfl, rfl, SqL.of hL2, em, ?_⟩
      refine ⟨p, m, rfl, p2, by omega, by omega, fun d3 H3 d30 d3m b3 p3 => ?_⟩
      refine ⟨_, _, rfl, rfl, _, rfl, p, 101, rfl, p3, by decide, by decide, fun d4 H4 d40 d4m b4 p4 => ?_⟩
      refine ⟨(by show 2 ≤ sizeLine; decide), fun t ht => ?_⟩
      have e1 : (1 + d3 : Int) = ((1 + d3.toNat : Nat) : Int) := by omega
      refine q _ (.st (1 + d3.toNat) d4) _ _ ⟨t, rfl, ?_⟩ (.st _ _ r (by omega) (by omega) d40 (by omega)) ?_ (p4.new ht)
      · rw [upd_same]
        exact congrArg (fun z => some (HO.tup [V.int z, V.int d4])) e1
      · exact (((b1.trans (But.of (same_new hL _))).trans b2).trans (b3.trans b4)).trans (But.of (same_new ht _))
end
end K77

namespace K77
open PySem L2 HL
def isOnce : Md → Bool
  | .once => true
  | .st _ _ => false
theorem MdAt.dp {K : PySem.W.Frag} {H : Hp} {v : V} : ∀ {m : Md}, MdAt H v m → ∃ d, Dp K H v d ∧ SeqAt.shaped d = true ∧ PyData.eqv d (.str "once") = isOnce m
  | .once, e => ⟨.str "once", by cases (show v = .str "once" from e); exact .str _, by decide +kernel, by decide +kernel⟩
  | .st n d, ⟨t, e, h⟩ => ⟨.tuple [.int n, .int d], by subst e; exact .tup (SqT.of h) (.cons (.int _) (.cons (.int _) .nil)), by rfl, by rfl⟩
theorem once_dp {K : PySem.W.Frag} {H : Hp} : Dp K H (.str "once") (.str "once") := .str _
theorem once_shaped : SeqAt.shaped (.str "once") = true := by decide +kernel
/-- mode != "once" -/
theorem MdAt.ne {K : PySem.W.Frag} {H : Hp} {v : V} {m : Md} {Q : VK} (h : MdAt H v m) (q : Q (.bl (!isOnce m)) H) : rNeD K v (.str "once") H Q := by
  obtain ⟨d, h1, h2, h3⟩ := h.dp (K := K)
  exact ⟨d, _, h1, once_dp, h2, once_shaped, by rw [h3]; exact q⟩
theorem MdAt.eq {K : PySem.W.Frag} {H : Hp} {v : V} {m : Md} {Q : VK} (h : MdAt H v m) (q : Q (.bl (isOnce m)) H) : rEqD K v (.str "once") H Q := by
  obtain ⟨d, h1, h2, h3⟩ := h.dp (K := K)
  exact ⟨d, _, h1, once_dp, h2, once_shaped, by rw [h3]; exact q⟩
theorem MdOk.pos {m : Md} {r r' : Nat} (h : MdOk m r r') (h1 : 1 ≤ r) : 1 ≤ r' ∧ r' ≤ r := by
  cases h with
  | once => exact ⟨h1, Nat.le_refl _⟩
  | st n d _ a b _ _ => exact ⟨Nat.div_pos b (by omega), Nat.div_le_self _ _⟩
theorem digits_ok : ∀ n : Fin 401, (Str.ofString (toString ((n.val : Nat) : Int))).length ≤ 8 ∧ ((Str.ofString (toString ((n.val : Nat) : Int))).cps.toList.all (fun c => c != 117)) = true := by decide +kernel
theorem len_app (x y : Str) : (x ++ y).length = x.length + y.length := by
  show (x.cps ++ y.cps).size = _
  rw [Array.size_append]
  all_goals rfl
section
variable {P : Program} {w : World} {K : PySem.W.Frag} {mg : Str → Option Value} {base : Heap}
abbrev nPart : List Str := ["pool", "level", "depth", "room", "p", "pick", "one", "two", "body", "mode", "paid", "name"]
abbrev aPart : List Str := ["pool", "level", "depth", "room"]
theorem scPart : FnScope nPart aPart (defScope sPart) := ⟨rfl, rfl, rfl, by decide +kernel, rfl, by decide +kernel, by decide +kernel⟩
theorem ok_part {n : Nat} {f : Addr} {fd : FuncData} (A : At K mg "_law_part" sPart aPart f fd) (T : Txt mg) (R : FnOk P w K mg base CX0 (n + 2) f fd aPart (spPart n))
    (D_law_next : Def P w K mg base 1 "_law_next" ["pool", "many"] spNext) (D_law_mode : Def P w K mg base 2 "_law_mode" ["pool", "room"] spMode) :
    FnOk P w K mg base CX0 (n + 3) f fd aPart (spPart (n + 1)) := by
  have D_law_part := A.df R
  refine A.fn.ok scPart (fun vs H Q E h => ?_) (fun cdv A outer s H vs Q E hr h => ?_)
  · obtain ⟨p, l, d, r, rfl, _⟩ := h
    rfl
  · obtain ⟨p, l, d, r, rfl, hp, hd, h1, h4, q⟩ := h
    refine ⟨_, (pss_cons (ps_set (i := 4) scPart.nd rfl (Or.inl rfl) (pe_tup (pa_cons pe_str (pa_cons pe_str pa_nil))))
      (pss_cons (ps_set (i := 5) scPart.nd rfl (Or.inl rfl) (pe_cd D_law_next hr (pa_cons (pv 0) (pa_cons pe_int pa_nil))))
      (pss_cons (ps_if (PW.pt (pw_or (pt_cmpR op_eq (pv 2) pe_int (nomark _)) (pw_or1 (pt_cmpR op_eq (pv 5) pe_int (nomark _)))))
      (pss_one (ps_ret (pe_tup (pa_cons pe_str (pa_cons pe_str pa_nil)))))
      pss_nil)
      (pss_cons (ps_if (pt_cmpR op_eq (pv 5) pe_int (nomark _))
      (pss_one (ps_ret (pe_tup (pa_cons pe_str (pa_cons pe_str (pa_cons pe_str (pa_cons (pe_tup (pa_cons pe_str (pa_cons (pv 1) pa_nil))) pa_nil)))))))
      pss_nil)
      (C8.pss_cut (ps_if (PW.pt (pw_and (pt_cmpR op_lt (pv 5) pe_int (nomark _)) (pw_and1 (pt_cmpR op_lt (pv 2) pe_int (nomark _)))))
      (pss_cons (ps_set (i := 6) scPart.nd rfl (Or.inl rfl) (pe_cd D_law_part hr (pa_cons (pv 0) (pa_cons (pv 1) (pa_cons (pe_op op_sub (pv 2) pe_int) (pa_cons (pv 3) pa_nil))))))
        (pss_cons (ps_set (i := 7) scPart.nd rfl (Or.inl rfl) (pe_cd D_law_part hr (pa_cons (pv 0) (pa_cons (pv 1) (pa_cons (pe_op op_sub (pv 2) pe_int) (pa_cons (pv 3) pa_nil))))))
        (pss_cons (ps_set (i := 8) scPart.nd rfl (Or.inl rfl) (pe_tup (pa_cons pe_str (pa_cons (pv 1) (pa_cons (pe_ix ix_list (pe_lst (pa_cons pe_str (pa_cons pe_str pa_nil))) (pe_cd D_law_next hr (pa_cons (pv 0) (pa_cons pe_int pa_nil))) (fun _ _ => rfl)) (pa_cons (pe_tup (pa_cons pe_str (pa_cons (pe_op op_add (pv 1) pe_int) pa_nil))) pa_nil))))))
        (pss_one (ps_ret (pe_tup (pa_cons pe_str (pa_cons pe_str (pa_cons (pe_tup (pa_cons pe_str (pa_cons (pv 4) (pa_cons (pv 4) pa_nil)))) (pa_cons (pe_tup (pa_cons pe_str (pa_cons (pv 6) (pa_cons (pv 7) pa_nil)))) (pa_cons (pv 8) pa_nil)))))))))))
      pss_nil)
      (pss_cons (ps_set (i := 9) scPart.nd rfl (Or.inl rfl) (pe_cd D_law_mode hr (pa_cons (pv 0) (pa_cons (pv 3) pa_nil))))
      (C8.pss_cut (ps_if (pt_cmpR (op_neD hr.units) (pv 9) pe_str (nomark _))
      (pss_one (ps_set (i := 3) scPart.nd rfl (Or.inl rfl) (pe_op op_fdiv (pv 3) (pe_ix ix_tup (pv 9) pe_int (fun _ _ => rfl)))))
      pss_nil)
      (pss_cons (ps_set (i := 10) scPart.nd rfl (Or.inl rfl) (pe_cd D_law_part hr (pa_cons (pv 0) (pa_cons (pv 1) (pa_cons (pe_op op_sub (pv 2) pe_int) (pa_cons (pv 3) pa_nil))))))
      (pss_cons (ps_if (pt_cmpR op_lt (pv 5) pe_int (nomark _))
      (pss_one (ps_ret (pe_tup (pa_cons pe_str (pa_cons (pv 9) (pa_cons (pv 4) (pa_cons (pv 10) (pa_cons (pe_tup (pa_cons pe_str (pa_cons (pv 1) pa_nil))) pa_nil))))))))
      pss_nil)
      (pss_cons (ps_set (i := 11) scPart.nd rfl (Or.inl rfl) pe_str)
      (C8.pss_cut (ps_if (pt_cmpR (op_neD hr.units) (pv 9) pe_str (nomark _))
      (pss_one (ps_set (i := 11) scPart.nd rfl (Or.inl rfl) (pe_op op_add_str (pe_op op_add_str (pe_op op_add_str pe_str (pe_callTy call_str_int rfl T.str (by decide +kernel) (pa_cons (pe_ix ix_tup (pv 9) pe_int (fun _ _ => rfl)) pa_nil))) pe_str) (pe_callTy call_str_int rfl T.str (by decide +kernel) (pa_cons (pe_ix ix_tup (pv 9) pe_int (fun _ _ => rfl)) pa_nil)))))
      pss_nil)
      (pss_one (ps_ret (pe_tup (pa_cons pe_str (pa_cons (pv 11) (pa_cons (pv 9) (pa_cons (pv 10) (pa_cons (pe_tup (pa_cons pe_str (pa_cons (pv 1) pa_nil))) pa_nil))))))))))))))))))), ?_⟩
    refine ⟨small8 (by show 2 ≤ 8; decide), fun t0 ht0 => ?_⟩
    have hp0 := hp.new (o := .tup [.str "word", .str "p"]) ht0
    refine ⟨_, rfl, p, 8, rfl, hp0, by decide, by decide, fun pk H1 _ pk8 b1 p1 => ?_⟩
    have b01 : But p H H1 := (But.of (same_new ht0 _)).trans b1
    have w1 : H1 t0 = some (.tup [.str "word", .str "p"]) := b1.tupsP hp0 _ _ upd_same
    -- depth == 0 or pick == 0
    refine ⟨_, rfl, rfl, _, rfl, ?_⟩
    have done : tTup (tCons (tC (.str "own")) (tCons (tC (.str "s")) tNil)) [] H1 Q := by
      refine ⟨small8 (by show 2 ≤ 8; decide), fun t ht => ?_⟩
      exact q _ (.own (.str "s")) _ ⟨t, rfl, upd_same⟩ (.own d r l) (b01.new ht _) (p1.new ht)
    refine ite2 (fun _ => done) (fun c0 => ?_)
    have d0 : (d : Int) ≠ 0 := fun z => c0 (by rw [z]; rfl)
    obtain ⟨d, rfl⟩ : ∃ d', d = d' + 1 := ⟨d - 1, by omega⟩
    refine ⟨_, rfl, rfl, _, rfl, ?_⟩
    refine ite2 (fun _ => done) (fun _ => ?_)
    -- pick == 1
    refine ⟨_, rfl, rfl, _, rfl, ?_⟩
    refine ite2 (fun _ => ?_) (fun _ => ?_)
    · refine ⟨_, rfl, small8 (by show 2 ≤ 8; decide), fun t ht => ⟨small8 (by show 4 ≤ 8; decide), fun u hu => ?_⟩⟩
      refine q _ (.pick (.str "m") "left" (.own (.int l))) _ ⟨u, _, rfl, upd_same, t, rfl, ?_⟩ (.pick _ r l) ((b01.new ht _).new hu _) ((p1.new ht).new hu)
      exact same_new hu _ _ _ upd_same
    -- pick < 4 and depth < 5
    have ed : (((d + 1 : Nat) : Int) - 1) = (d : Int) := by omega
    refine ⟨fun σ' H' => σ' = [some (.ref p), some (.int l), some (.int ((d + 1 : Nat) : Int)), some (.int r), some (.ref t0), some (.int pk), none, none, none, none, none, none] ∧ H' = H1, ?_, ?_⟩
    · refine ⟨_, rfl, _, _, rfl, rfl, _, rfl, ?_⟩
      refine ite2 (fun _ => ?_) (fun _ => ⟨rfl, rfl⟩)
      refine ⟨_, rfl, _, _, rfl, rfl, _, rfl, ?_⟩
      refine ite2 (fun c5 => ?_) (fun _ => ⟨rfl, rfl⟩)
      have d5 : d < 4 := by
        have z : ((d + 1 : Nat) : Int) < 5 := of_decide_eq_true c5
        omega
      refine ⟨_, rfl, _, rfl, _, rfl, _, _, rfl, rfl, _, rfl, p, l, d, r, congrArg (fun z => [V.ref p, V.int l, V.int z, V.int r]) ed, p1, by omega, h1, h4, fun v1 a1 H2 t1 f1 b2 p2 => ?_⟩
      refine ⟨_, rfl, _, rfl, _, rfl, _, _, rfl, rfl, _, rfl, p, l, d, r, congrArg (fun z => [V.ref p, V.int l, V.int z, V.int r]) ed, p2, by omega, h1, h4, fun v2 a2 H3 t2 f2 b3 p3 => ?_⟩
      refine ⟨_, rfl, small8 (by show 2 ≤ 8; decide), fun L hL => ?_⟩
      refine ⟨_, rfl, p, 2, rfl, p3.new hL, by decide, by decide, fun e4 H4 e40 e42 b4 p4 => ?_⟩
      have hL4 : H4 L = some (.lst [.str "left", .str "right"]) := b4 _ _ (by
        obtain ⟨a, b, c, e⟩ := p3
        exact (ne_of_none e hL).symm) upd_same
      obtain ⟨side, hs, es⟩ : ∃ side : Str, (side = "left" ∨ side = "right") ∧ atI [V.str "left", V.str "right"] e4 = some (.str side) := by
        rcases (by omega : e4 = 0 ∨ e4 = 1) with rfl | rfl
        · exact ⟨"left", .inl rfl, rfl⟩
        · exact ⟨"right", .inr rfl, rfl⟩
      refine ⟨L, _, e4, _, rfl, rfl, SqL.of hL4, es, ?_⟩
      refine ⟨_, rfl, _, _, rfl, rfl, small8 (by show 2 ≤ 8; decide), fun x hx => ?_⟩
      refine ⟨small8 (by show 4 ≤ 8; decide), fun y hy => ?_⟩
      refine ⟨_, rfl, _, rfl, small8 (by show 3 ≤ 8; decide), fun u hu => ?_⟩
      refine ⟨_, rfl, _, rfl, small8 (by show 3 ≤ 8; decide), fun o ho => ?_⟩
      refine ⟨_, rfl, small8 (by show 5 ≤ 8; decide), fun z hz => ?_⟩
      have s34 := (same_new hL (.lst [.str "left", .str "right"]))
      have T34 : Tups H3 H4 := (Tups.of s34).trans (b4.tupsP (p3.new hL))
      have T4x := Tups.of (same_new hx (.tup [.str "own", .int (l + 1)]))
      have T4y := Tups.of (same_new hy (.tup [.str "pick", .int l, .str side, .ref x]))
      have T4u := Tups.of (same_new hu (.tup [.str "menu", .ref t0, .ref t0]))
      have T4o := Tups.of (same_new ho (.tup [.str "offer", v1, v2]))
      have T4z := Tups.of (same_new hz (.tup [.str "cut", .str "once", .ref u, .ref o, .ref y]))
      have T12 := b2.tupsP p1
      have T23 := b3.tupsP p2
      have Tyz := T4u.trans (T4o.trans T4z)
      have Txz := T4y.trans Tyz
      have T4 := T4x.trans Txz
      have T14 := T12.trans (T23.trans T34)
      refine q _ (.cut .once .pp (.offer a1 a2) (.pick (.int l) side (.own (.int (l + 1))))) _ ⟨z, _, _, _, _, rfl, upd_same, rfl, ⟨u, t0, rfl, (T4o.trans T4z) _ _ upd_same, T4 _ _ (T14 _ _ w1)⟩, ⟨o, _, _, rfl, T4z _ _ upd_same, t1.mono (T23.trans (T34.trans T4)), t2.mono (T34.trans T4)⟩,
        y, _, rfl, Tyz _ _ upd_same, x, rfl, Txz _ _ upd_same⟩ (.menu d r l a1 a2 side d5 hs f1 f2) ?_ (((((p4.new hx).new hy).new hu).new ho).new hz)
      exact (((((b01.trans (b2.trans (b3.trans ((But.of s34).trans b4)))).new hx _).new hy _).new hu _).new ho _).new hz _
    -- mode
    rintro σ' H' ⟨rfl, rfl⟩
    refine ⟨_, rfl, _, rfl, p, r, rfl, p1, h1, h4, fun v m r' H2 hm okm b2 p2 => ?_⟩
    have hr' := okm.pos h1
    refine ⟨fun σ' H' => σ' = [some (.ref p), some (.int l), some (.int ((d + 1 : Nat) : Int)), some (.int r'), some (.ref t0), some (.int pk), none, none, none, some v, none, none] ∧ H' = H2, ?_, ?_⟩
    · refine ⟨_, rfl, ?_⟩
      obtain ⟨dd, e1, e2, e3⟩ := hm.dp (K := K)
      refine ⟨dd, _, e1, once_dp, e2, once_shaped, !isOnce m, by rw [e3], ?_⟩
      cases okm with
      | once => exact iteF ⟨rfl, rfl⟩
      | st n k _ hn1 hnr _ _ =>
        refine iteT ?_
        obtain ⟨t, rfl, ht⟩ := hm
        refine ⟨_, rfl, _, rfl, t, _, _, _, rfl, rfl, SqT.of ht, rfl, _, _, rfl, rfl, ⟨by omega, by omega⟩, ?_⟩
        exact ⟨rfl, rfl⟩
    rintro σ' H' ⟨rfl, rfl⟩
    refine ⟨_, rfl, _, rfl, _, rfl, _, _, rfl, rfl, _, rfl, p, l, d, r', congrArg (fun z => [V.ref p, V.int l, V.int z, V.int r']) ed, p2, by omega, hr'.1, by omega, fun v1 a1 H3 t1 f1 b3 p3 => ?_⟩
    have T12 := b2.tupsP p1
    have T23 := b3.tupsP p2
    -- pick < 6
    refine ⟨_, rfl, _, _, rfl, rfl, _, rfl, ?_⟩
    refine ite2 (fun _ => ?_) (fun _ => ?_)
    · refine ⟨_, rfl, _, rfl, _, rfl, _, rfl, small8 (by show 2 ≤ 8; decide), fun x hx => ⟨small8 (by show 5 ≤ 8; decide), fun z hz => ?_⟩⟩
      have Tx := Tups.of (same_new hx (.tup [.str "own", .int l]))
      have Tz := Tups.of (same_new hz (.tup [.str "cut", v, .ref t0, v1, .ref x]))
      refine q _ (.cut m .p a1 (.own (.int l))) _ ⟨z, _, _, _, _, rfl, upd_same, hm.mono (T23.trans (Tx.trans Tz)), ⟨t0, rfl, (T12.trans (T23.trans (Tx.trans Tz))) _ _ w1⟩, t1.mono (Tx.trans Tz), x, rfl, Tz _ _ upd_same⟩ (.cut d r r' l m a1 okm f1) ?_ ((p3.new hx).new hz)
      exact ((b01.trans (b2.trans b3)).new hx _).new hz _
    · refine ⟨fun σ' H' => σ' = [some (.ref p), some (.int l), some (.int ((d + 1 : Nat) : Int)), some (.int r'), some (.ref t0), some (.int pk), none, none, none, some v, some v1, some (.str (nameOf m))] ∧ H' = H3, ?_, ?_⟩
      · refine ⟨_, rfl, ?_⟩
        obtain ⟨dd, e1, e2, e3⟩ := (hm.mono T23).dp (K := K)
        refine ⟨dd, _, e1, once_dp, e2, once_shaped, !isOnce m, by rw [e3], ?_⟩
        cases okm with
        | once => exact iteF ⟨rfl, rfl⟩
        | st n k _ hn1 hnr hk0 hk1 =>
          refine iteT ?_
          obtain ⟨t, rfl, ht⟩ := hm.mono T23
          obtain ⟨kn, rfl⟩ : ∃ kn : Nat, k = (kn : Int) := ⟨k.toNat, by omega⟩
          have l1 : (Str.ofString (toString (n : Int))).length ≤ 8 := (digits_ok ⟨n, by omega⟩).1
          have l2 : (Str.ofString (toString (kn : Int))).length ≤ 8 := (digits_ok ⟨kn, by omega⟩).1
          have f1 : ("f" : Str).length = 1 := by decide
          have x1 : ("x" : Str).length = 1 := by decide
          have lg : ∀ j : Nat, j ≤ 400 → (j : Int).natAbs.log2 < 1920 := fun j hj => by
            rw [Int.natAbs_natCast]
            exact Nat.lt_of_le_of_lt (Nat.log2_le_self _) (by omega)
          refine ⟨_, rfl, t, _, _, _, rfl, rfl, SqT.of ht, rfl, _, rfl, lg n (by omega), _, _, rfl, rfl, ?_, _, _, rfl, rfl, ?_, ?_⟩
          · exact Nat.le_trans (by omega) sizeLine_big
          · rw [len_app]
            exact Nat.le_trans (by omega) sizeLine_big
          refine ⟨_, rfl, t, _, _, _, rfl, rfl, SqT.of ht, rfl, _, rfl, lg kn (by omega), _, _, rfl, rfl, ?_, rfl, rfl⟩
          rw [len_app, len_app]
          exact Nat.le_trans (by omega) sizeLine_big
      rintro σ' H' ⟨rfl, rfl⟩
      refine ⟨_, rfl, _, rfl, _, rfl, _, rfl, small8 (by show 2 ≤ 8; decide), fun x hx => ⟨small8 (by show 5 ≤ 8; decide), fun z hz => ?_⟩⟩
      have Tx := Tups.of (same_new hx (.tup [.str "own", .int l]))
      have Tz := Tups.of (same_new hz (.tup [.str "pay", .str (nameOf m), v, v1, .ref x]))
      refine q _ (.pay (.str (nameOf m)) m a1 (.own (.int l))) _ ⟨z, _, _, _, rfl, upd_same, hm.mono (T23.trans (Tx.trans Tz)), t1.mono (Tx.trans Tz), x, rfl, Tz _ _ upd_same⟩ (.pay d r r' l m a1 okm f1) ?_ ((p3.new hx).new hz)
      exact ((b01.trans (b2.trans b3)).new hx _).new hz _
end
end K77

/-! the mathematics: tallies, greatest plays, lists of plays, counted plays -/
namespace K77
open PySem L2 HL
structure T3 where
  p : Int
  r : Int
  l : Int
namespace T3
def mul (x y : T3) : T3 := ⟨x.p * y.p, x.r * y.p + y.r * x.p, x.l * y.p + y.l * x.p⟩
def add (x y : T3) : T3 := ⟨x.p + y.p, x.r + y.r, x.l + y.l⟩
def one : T3 := ⟨1, 0, 0⟩
def up (x : T3) (k : Int) : T3 := ⟨x.p, x.r + k * x.p, x.l⟩
def cutf (x : T3) (f : Int) : T3 := ⟨x.p, x.r, x.l + f * (x.r - x.p)⟩
def pow (x : T3) : Nat → T3
  | 0 => one
  | n + 1 => mul (pow x n) x
/-- the law's loop -/
def it (b o : T3) : Nat → T3
  | 0 => b
  | n + 1 => mul (it b o n) o
theorem mul_comm (x y : T3) : mul x y = mul y x := by
  unfold mul
  congr 1 <;> grind
theorem mul_assoc (x y z : T3) : mul (mul x y) z = mul x (mul y z) := by
  unfold mul
  congr 1 <;> grind
theorem one_mul (x : T3) : mul one x = x := by
  unfold mul one
  cases x
  congr 1 <;> grind
theorem it_eq (b o : T3) : ∀ n, it b o n = mul (pow o n) b
  | 0 => (one_mul b).symm
  | n + 1 => by
    show mul (it b o n) o = mul (mul (pow o n) o) b
    rw [it_eq b o n, mul_assoc, mul_assoc, mul_comm b o]
end T3
def cop : Md → Nat
  | .once => 1
  | .st n _ => n
def boxT (x : T3) : Md → T3
  | .once => x
  | .st n _ => (x.up 1).pow n
def tal : Tr → T3
  | .own _ => ⟨1, 1, 0⟩
  | .pick _ _ b => (tal b).up 1
  | .offer a b => ((tal a).add (tal b)).up 1
  | .cut m _ a b => ((boxT (tal a) m).mul (tal b)).cutf (cop m : Int)
  | .pay _ m a b => ((boxT (tal a) m).mul (tal b)).up 1
def boxR (g : Int) : Md → Int
  | .once => g
  | .st n _ => n * (g + 1)
def gr : Tr → Int
  | .own _ => 1
  | .pick _ _ b => gr b + 1
  | .offer a b => (if gr b > gr a then gr b else gr a) + 1
  | .cut m _ a b => boxR (gr a) m + gr b
  | .pay _ m a b => boxR (gr a) m + gr b + 1
/-! ## bounds -/
structure Bd (x : T3) (E : Nat) (M L : Int) : Prop where
  p1 : 1 ≤ x.p
  pE : x.p ≤ 2 ^ E
  r0 : 0 ≤ x.r
  rM : x.r ≤ x.p * M
  l0 : 0 ≤ x.l
  lL : x.l ≤ x.p * L
theorem Bd.M0 {x : T3} {E : Nat} {M L : Int} (h : Bd x E M L) : 0 ≤ M := by
  have h1 := h.p1
  have h2 : 0 ≤ x.p * M := Int.le_trans h.r0 h.rM
  exact Int.nonneg_of_mul_nonneg_right h2 (by omega)
theorem Bd.L0 {x : T3} {E : Nat} {M L : Int} (h : Bd x E M L) : 0 ≤ L := by
  have h1 := h.p1
  have h2 : 0 ≤ x.p * L := Int.le_trans h.l0 h.lL
  exact Int.nonneg_of_mul_nonneg_right h2 (by omega)
theorem two_pow_mono {a b : Nat} (h : a ≤ b) : (2 : Int) ^ a ≤ 2 ^ b := by
  have := Nat.pow_le_pow_right (n := 2) (by decide) h
  exact_mod_cast this
theorem Bd.mono {x : T3} {E E' : Nat} {M M' L L' : Int} (h : Bd x E M L) (hE : E ≤ E') (hM : M ≤ M') (hL : L ≤ L') : Bd x E' M' L' :=
  ⟨h.p1, Int.le_trans h.pE (two_pow_mono hE), h.r0, Int.le_trans h.rM (Int.mul_le_mul_of_nonneg_left hM (by have := h.p1; omega)), h.l0, Int.le_trans h.lL (Int.mul_le_mul_of_nonneg_left hL (by have := h.p1; omega))⟩
theorem Bd.one : Bd T3.one 0 0 0 := by
  constructor <;> decide
theorem Bd.mul {x y : T3} {E E' : Nat} {M M' L L' : Int} (h : Bd x E M L) (k : Bd y E' M' L') : Bd (x.mul y) (E + E') (M + M') (L + L') := by
  have hx := h.p1
  have hy := k.p1
  have a1 : 0 ≤ x.r * y.p := Int.mul_nonneg h.r0 (by omega)
  have a2 : 0 ≤ y.r * x.p := Int.mul_nonneg k.r0 (by omega)
  have a3 : 0 ≤ x.l * y.p := Int.mul_nonneg h.l0 (by omega)
  have a4 : 0 ≤ y.l * x.p := Int.mul_nonneg k.l0 (by omega)
  have b1 : x.r * y.p ≤ x.p * M * y.p := Int.mul_le_mul_of_nonneg_right h.rM (by omega)
  have b2 : y.r * x.p ≤ y.p * M' * x.p := Int.mul_le_mul_of_nonneg_right k.rM (by omega)
  have b3 : x.l * y.p ≤ x.p * L * y.p := Int.mul_le_mul_of_nonneg_right h.lL (by omega)
  have b4 : y.l * x.p ≤ y.p * L' * x.p := Int.mul_le_mul_of_nonneg_right k.lL (by omega)
  have c1 : x.p * y.p * (M + M') = x.p * M * y.p + y.p * M' * x.p := by grind
  have c2 : x.p * y.p * (L + L') = x.p * L * y.p + y.p * L' * x.p := by grind
  refine ⟨?_, ?_, ?_, ?_, ?_, ?_⟩
  · have : 0 < x.p * y.p := Int.mul_pos (by omega) (by omega)
    exact this
  · show x.p * y.p ≤ 2 ^ (E + E')
    rw [Int.pow_add]
    exact Int.mul_le_mul h.pE k.pE (by omega) (Int.le_trans (by omega) h.pE)
  · show 0 ≤ x.r * y.p + y.r * x.p
    omega
  · show x.r * y.p + y.r * x.p ≤ x.p * y.p * (M + M')
    omega
  · show 0 ≤ x.l * y.p + y.l * x.p
    omega
  · show x.l * y.p + y.l * x.p ≤ x.p * y.p * (L + L')
    omega
theorem Bd.pow {x : T3} {E : Nat} {M L : Int} (h : Bd x E M L) : ∀ n : Nat, Bd (x.pow n) (n * E) (n * M) (n * L)
  | 0 => by
    have := Bd.one
    exact this.mono (by omega) (by simp) (by simp)
  | n + 1 => by
    have := (Bd.pow h n).mul h
    refine this.mono (by rw [Nat.succ_mul] <;> exact Nat.le_refl _) (Int.le_of_eq ?_) (Int.le_of_eq ?_)
    · have : ((n + 1 : Nat) : Int) = n + 1 := by omega
      rw [this]
      grind
    · have : ((n + 1 : Nat) : Int) = n + 1 := by omega
      rw [this]
      grind
theorem Bd.up {x : T3} {E : Nat} {M L : Int} (h : Bd x E M L) : Bd (x.up 1) E (M + 1) L := by
  have hx := h.p1
  have hr := h.r0
  have hM := h.rM
  refine ⟨hx, h.pE, ?_, ?_, h.l0, h.lL⟩
  · show 0 ≤ x.r + 1 * x.p
    omega
  · show x.r + 1 * x.p ≤ x.p * (M + 1)
    have : x.p * (M + 1) = x.p * M + x.p := by grind
    omega
theorem Bd.add {x y : T3} {E : Nat} {M L : Int} (h : Bd x E M L) (k : Bd y E M L) : Bd (x.add y) (E + 1) M L := by
  have hx := h.p1
  have hy := k.p1
  have c1 : (x.p + y.p) * M = x.p * M + y.p * M := by grind
  have c2 : (x.p + y.p) * L = x.p * L + y.p * L := by grind
  have c3 : (2 : Int) ^ (E + 1) = 2 ^ E + 2 ^ E := by rw [Int.pow_succ]; omega
  have := h.pE; have := k.pE; have := h.r0; have := k.r0; have := h.rM; have := k.rM; have := h.l0; have := k.l0; have := h.lL; have := k.lL
  refine ⟨?_, ?_, ?_, ?_, ?_, ?_⟩
  · show 1 ≤ x.p + y.p
    omega
  · show x.p + y.p ≤ 2 ^ (E + 1)
    omega
  · show 0 ≤ x.r + y.r
    omega
  · show x.r + y.r ≤ (x.p + y.p) * M
    omega
  · show 0 ≤ x.l + y.l
    omega
  · show x.l + y.l ≤ (x.p + y.p) * L
    omega
theorem Bd.cutf {x : T3} {E : Nat} {M L f : Int} (h : Bd x E M L) (hf : 0 ≤ f) (hp : x.p ≤ x.r) : Bd (x.cutf f) E M (L + f * M) := by
  have hx := h.p1
  have a : 0 ≤ f * (x.r - x.p) := Int.mul_nonneg hf (by omega)
  have b : f * (x.r - x.p) ≤ f * (x.p * M) := Int.mul_le_mul_of_nonneg_left (by have := h.rM; omega) hf
  have c : x.p * (L + f * M) = x.p * L + f * (x.p * M) := by grind
  have := h.l0; have := h.lL
  refine ⟨hx, h.pE, h.r0, h.rM, ?_, ?_⟩
  · show 0 ≤ x.l + f * (x.r - x.p)
    omega
  · show x.l + f * (x.r - x.p) ≤ x.p * (L + f * M)
    omega
/-- rows of a play: at least one -/
theorem ge_mul {x y : T3} (hr : 0 ≤ x.r) (hx : 1 ≤ x.p) (hy : y.p ≤ y.r) (hy1 : 1 ≤ y.p) : (x.mul y).p ≤ (x.mul y).r := by
  show x.p * y.p ≤ x.r * y.p + y.r * x.p
  have a : 0 ≤ x.r * y.p := Int.mul_nonneg hr (by omega)
  have b : y.p * x.p ≤ y.r * x.p := Int.mul_le_mul_of_nonneg_right hy (by omega)
  have c : x.p * y.p = y.p * x.p := Int.mul_comm _ _
  omega
theorem boxT_bd {x : T3} {E : Nat} {M L : Int} (h : Bd x E M L) : ∀ m : Md, Bd (boxT x m) (cop m * E) (cop m * (M + 1)) (cop m * L)
  | .once => h.mono (by show E ≤ 1 * E; omega) (by show M ≤ (1 : Nat) * (M + 1); omega) (by show L ≤ (1 : Nat) * L; omega)
  | .st n _ => h.up.pow n
theorem dm (n r d : Nat) : n * ((r / n) * d) ≤ r * d := by
  rw [← Nat.mul_assoc]
  exact Nat.mul_le_mul_right d (Nat.mul_div_le r n)
theorem MdOk.cop {m : Md} {r r' : Nat} (h : MdOk m r r') (h1 : 1 ≤ r) : 1 ≤ cop m ∧ cop m ≤ r ∧ cop m * r' ≤ r := by
  cases h with
  | once => exact ⟨Nat.le_refl _, h1, by show 1 * r ≤ r; omega⟩
  | st n d _ a b _ _ => exact ⟨a, b, Nat.mul_div_le r n⟩
theorem num_cut {r r' d c : Nat} (h1 : 1 ≤ r) (h4 : r ≤ 400) (h8 : d ≤ 7) (c1 : 1 ≤ c) (c2 : c ≤ r) (c3 : c * r' ≤ r) :
    c * (r' * d) ≤ r * (d + 1) ∧ c * (r' * (3 * d + 1) + 1) + 1 + 1 ≤ r * (3 * (d + 1) + 1) ∧ c * (r' * d * 10000) + c * (c * (r' * (3 * d + 1) + 1) + 1) ≤ r * (d + 1) * 10000 := by
  have e1 : c * (r' * d) = c * r' * d := by rw [Nat.mul_assoc]
  have e2 : c * (r' * (3 * d + 1) + 1) = 3 * (c * r' * d) + c * r' + c := by grind
  have e3 : c * (r' * d * 10000) = c * r' * d * 10000 := by grind
  have e4 : r * (d + 1) = r * d + r := by grind
  have e5 : r * (3 * (d + 1) + 1) = 3 * (r * d) + 4 * r := by grind
  have e6 : r * (d + 1) * 10000 = r * d * 10000 + r * 10000 := by grind
  have b1 : c * r' * d ≤ r * d := Nat.mul_le_mul_right d c3
  have b2 : r * d ≤ r * 7 := Nat.mul_le_mul_left r h8
  have b3 : c * (c * (r' * (3 * d + 1) + 1) + 1) ≤ r * 10000 := Nat.mul_le_mul c2 (by rw [e2]; omega)
  rw [e1, e2, e3, e4, e5]
  rw [e2] at b3
  refine ⟨by omega, by omega, by omega⟩
theorem num_menu {r d : Nat} (h1 : 1 ≤ r) (h4 : r ≤ 400) (h8 : d ≤ 7) :
    r * d + 1 ≤ r * (d + 1) ∧ r * (3 * d + 1) + 1 + 2 ≤ r * (3 * (d + 1) + 1) ∧ r * d * 10000 + (r * (3 * d + 1) + 1 + 2) ≤ r * (d + 1) * 10000 := by
  have e2 : r * (3 * d + 1) = 3 * (r * d) + r := by grind
  have e4 : r * (d + 1) = r * d + r := by grind
  have e5 : r * (3 * (d + 1) + 1) = 3 * (r * d) + 4 * r := by grind
  have e6 : r * (d + 1) * 10000 = r * d * 10000 + r * 10000 := by grind
  have b2 : r * d ≤ r * 7 := Nat.mul_le_mul_left r h8
  rw [e2, e4, e5]
  refine ⟨by omega, by omega, by omega⟩
theorem own_bd : Bd ⟨1, 1, 0⟩ 0 1 0 := by constructor <;> decide
theorem pick_bd : Bd ((⟨1, 1, 0⟩ : T3).up 1) 0 2 0 := by constructor <;> decide
theorem box_pos {x : T3} {E : Nat} {M L : Int} (h : Bd x E M L) (m : Md) : 0 ≤ (boxT x m).r ∧ 1 ≤ (boxT x m).p := ⟨(boxT_bd h m).r0, (boxT_bd h m).p1⟩
/-- the bounds of a drawn tree -/
theorem wf_bd : ∀ {d r : Nat} {l : Int} {t : Tr}, Wf d r l t → 1 ≤ r → r ≤ 400 → d ≤ 8 → Bd (tal t) (r * d) (r * (3 * d + 1) : Nat) (r * d * 10000 : Nat) ∧ (tal t).p ≤ (tal t).r := by
  intro d r l t h
  induction h with
  | own d r l =>
    intro h1 h4 h8
    refine ⟨own_bd.mono (Nat.zero_le _) ?_ (by omega), Int.le_refl _⟩
    have : 1 * 1 ≤ r * (3 * d + 1) := Nat.mul_le_mul h1 (by omega)
    omega
  | pick d r l =>
    intro h1 h4 h8
    refine ⟨pick_bd.mono (Nat.zero_le _) ?_ (by omega), by show (1 : Int) ≤ 1 + 1 * 1; decide⟩
    have : 1 * 2 ≤ r * (3 * (d + 1) + 1) := Nat.mul_le_mul h1 (by omega)
    omega
  | menu d r l a b side hd hs _ _ ia ib =>
    intro h1 h4 h8
    obtain ⟨ba, ga⟩ := ia h1 h4 (by omega)
    obtain ⟨bb, gb⟩ := ib h1 h4 (by omega)
    obtain ⟨n1, n2, n3⟩ := num_menu (d := d) h1 h4 (by omega)
    have bo := (ba.add bb).up
    have go : (1 : Int) ≤ 1 + 1 * 1 := by decide
    have gm := ge_mul (x := ((tal a).add (tal b)).up 1) (y := (⟨1, 1, 0⟩ : T3).up 1) bo.r0 bo.p1 (by show (1 : Int) ≤ 1 + 1 * 1; decide) (by show (1 : Int) ≤ 1; decide)
    refine ⟨((bo.mul pick_bd).cutf (f := ((1 : Nat) : Int)) (by decide) gm).mono ?_ ?_ ?_, gm⟩
    · exact n1
    · omega
    · omega
  | cut d r r' l m a hm _ ia =>
    intro h1 h4 h8
    obtain ⟨k1, k2⟩ := hm.pos h1
    obtain ⟨c1, c2, c3⟩ := hm.cop h1
    obtain ⟨ba, ga⟩ := ia k1 (by omega) (by omega)
    obtain ⟨n1, n2, n3⟩ := num_cut (d := d) h1 h4 (by omega) c1 c2 c3
    have bo := boxT_bd ba m
    have gm := ge_mul (x := boxT (tal a) m) (y := ⟨1, 1, 0⟩) bo.r0 bo.p1 (Int.le_refl _) (Int.le_refl _)
    refine ⟨((bo.mul own_bd).cutf (f := (cop m : Int)) (by omega) gm).mono ?_ ?_ ?_, gm⟩
    · exact n1
    · refine Int.le_trans (b := ((cop m * (r' * (3 * d + 1) + 1) + 1 : Nat) : Int)) (Int.le_of_eq ?_) (by omega)
      push_cast
      grind
    · refine Int.le_trans (b := ((cop m * (r' * d * 10000) + cop m * (cop m * (r' * (3 * d + 1) + 1) + 1) : Nat) : Int)) (Int.le_of_eq ?_) (by omega)
      push_cast
      grind
  | pay d r r' l m a hm _ ia =>
    intro h1 h4 h8
    obtain ⟨k1, k2⟩ := hm.pos h1
    obtain ⟨c1, c2, c3⟩ := hm.cop h1
    obtain ⟨ba, ga⟩ := ia k1 (by omega) (by omega)
    obtain ⟨n1, n2, n3⟩ := num_cut (d := d) h1 h4 (by omega) c1 c2 c3
    have bo := boxT_bd ba m
    have gm := ge_mul (x := boxT (tal a) m) (y := ⟨1, 1, 0⟩) bo.r0 bo.p1 (Int.le_refl _) (Int.le_refl _)
    refine ⟨((bo.mul own_bd).up).mono ?_ ?_ ?_, ?_⟩
    · exact n1
    · refine Int.le_trans (b := ((cop m * (r' * (3 * d + 1) + 1) + 1 + 1 : Nat) : Int)) (Int.le_of_eq ?_) (by omega)
      push_cast
      grind
    · refine Int.le_trans (b := ((cop m * (r' * d * 10000) : Nat) : Int)) (Int.le_of_eq ?_) (by omega)
      push_cast
      grind
    · have : 0 ≤ ((boxT (tal a) m).mul ⟨1, 1, 0⟩).p := by have := (bo.mul own_bd).p1; omega
      show ((boxT (tal a) m).mul ⟨1, 1, 0⟩).p ≤ ((boxT (tal a) m).mul ⟨1, 1, 0⟩).r + 1 * ((boxT (tal a) m).mul ⟨1, 1, 0⟩).p
      omega
end K77

namespace K77
open PySem L2 HL
/-! ## what the walks need of a tree -/
def hgt : Tr → Nat
  | .own _ => 0
  | .pick _ _ b => hgt b + 1
  | .offer a b => max (hgt a) (hgt b) + 1
  | .cut _ _ a b => max (hgt a) (hgt b) + 1
  | .pay _ _ a b => max (hgt a) (hgt b) + 1
def Both (m : Md) (a b : Tr) : Prop := 1 ≤ cop m ∧ cop m ≤ 400 ∧ ∃ Ea Eb : Nat, Bd (tal a) Ea 20000 1000000000 ∧ Bd (tal b) Eb 20000 1000000000 ∧ cop m * Ea ≤ 3200 ∧ Eb ≤ 10
def Ok : Tr → Prop
  | .own _ => True
  | .pick _ _ b => Ok b
  | .offer a b => Ok a ∧ Ok b
  | .cut m _ a b => Ok a ∧ Ok b ∧ Both m a b
  | .pay _ m a b => Ok a ∧ Ok b ∧ Both m a b
theorem wf_ok : ∀ {d r : Nat} {l : Int} {t : Tr}, Wf d r l t → 1 ≤ r → r ≤ 400 → d ≤ 8 → Ok t ∧ hgt t ≤ 2 * d := by
  intro d r l t h
  induction h with
  | own d r l =>
    intro h1 h4 h8
    exact ⟨trivial, Nat.zero_le _⟩
  | pick d r l =>
    intro h1 h4 h8
    exact ⟨trivial, by show 0 + 1 ≤ 2 * (d + 1); omega⟩
  | menu d r l a b side hd hs fa fb ia ib =>
    intro h1 h4 h8
    obtain ⟨oa, ha⟩ := ia h1 h4 (by omega)
    obtain ⟨ob, hb⟩ := ib h1 h4 (by omega)
    obtain ⟨ba, _⟩ := wf_bd fa h1 h4 (by omega)
    obtain ⟨bb, _⟩ := wf_bd fb h1 h4 (by omega)
    have b2 : r * d ≤ 400 * 7 := Nat.mul_le_mul h4 (by omega)
    have b3 : r * (3 * d + 1) ≤ 400 * 22 := Nat.mul_le_mul h4 (by omega)
    refine ⟨⟨⟨oa, ob⟩, trivial, by decide, by decide, r * d + 1, 0, ((ba.add bb).up).mono (Nat.le_refl _) (by omega) (by omega), pick_bd.mono (Nat.le_refl _) (by decide) (by decide), by show 1 * (r * d + 1) ≤ 3200; omega, by decide⟩, ?_⟩
    show max (max (hgt a) (hgt b) + 1) (0 + 1) + 1 ≤ 2 * (d + 1)
    omega
  | cut d r r' l m a hm fa ia =>
    intro h1 h4 h8
    obtain ⟨k1, k2⟩ := hm.pos h1
    obtain ⟨c1, c2, c3⟩ := hm.cop h1
    obtain ⟨oa, ha⟩ := ia k1 (by omega) (by omega)
    obtain ⟨ba, _⟩ := wf_bd fa k1 (by omega) (by omega)
    have b2 : r' * d ≤ 400 * 7 := Nat.mul_le_mul (by omega) (by omega)
    have b3 : r' * (3 * d + 1) ≤ 400 * 22 := Nat.mul_le_mul (by omega) (by omega)
    have b4 : cop m * (r' * d) ≤ 400 * 7 := by
      rw [← Nat.mul_assoc]
      exact Nat.mul_le_mul (by omega) (by omega)
    refine ⟨⟨oa, trivial, c1, by omega, r' * d, 0, ba.mono (Nat.le_refl _) (by omega) (by omega), own_bd.mono (Nat.le_refl _) (by decide) (by decide), by omega, by decide⟩, ?_⟩
    show max (hgt a) 0 + 1 ≤ 2 * (d + 1)
    omega
  | pay d r r' l m a hm fa ia =>
    intro h1 h4 h8
    obtain ⟨k1, k2⟩ := hm.pos h1
    obtain ⟨c1, c2, c3⟩ := hm.cop h1
    obtain ⟨oa, ha⟩ := ia k1 (by omega) (by omega)
    obtain ⟨ba, _⟩ := wf_bd fa k1 (by omega) (by omega)
    have b2 : r' * d ≤ 400 * 7 := Nat.mul_le_mul (by omega) (by omega)
    have b3 : r' * (3 * d + 1) ≤ 400 * 22 := Nat.mul_le_mul (by omega) (by omega)
    have b4 : cop m * (r' * d) ≤ 400 * 7 := by
      rw [← Nat.mul_assoc]
      exact Nat.mul_le_mul (by omega) (by omega)
    refine ⟨⟨oa, trivial, c1, by omega, r' * d, 0, ba.mono (Nat.le_refl _) (by omega) (by omega), own_bd.mono (Nat.le_refl _) (by decide) (by decide), by omega, by decide⟩, ?_⟩
    show max (hgt a) 0 + 1 ≤ 2 * (d + 1)
    omega
/-- the three numbers are small enough to be multiplied -/
structure Sm (x : T3) : Prop where
  p : x.p.natAbs < 2 ^ 4000
  r : x.r.natAbs < 2 ^ 4000
  l : x.l.natAbs < 2 ^ 4000
theorem natAbs_lt {i : Int} {E : Nat} {c : Int} {k : Nat} {p : Int} (h0 : 0 ≤ i) (h : i ≤ p * c) (hp : p ≤ 2 ^ E) (p0 : 0 ≤ p) (hc : c < 2 ^ k) (hE : E + k ≤ 4000) : i.natAbs < 2 ^ 4000 := by
  have a : p * c < 2 ^ E * 2 ^ k ∨ p * c ≤ 0 := by
    by_cases z : 0 < p * c
    · left
      have c0 : 0 < c := by
        rcases Int.lt_or_le 0 c with q | q
        · exact q
        · exact absurd (Int.mul_nonpos_of_nonneg_of_nonpos p0 q) (by omega)
      exact Int.lt_of_le_of_lt (Int.mul_le_mul_of_nonneg_right hp (by omega)) (Int.mul_lt_mul_of_pos_left hc (Int.pow_pos (by decide)))
    · right
      omega
  have b : (2 : Int) ^ E * 2 ^ k ≤ 2 ^ 4000 := by
    rw [← Int.pow_add]
    exact two_pow_mono hE
  have c' : i < 2 ^ 4000 := by
    rcases a with a | a
    · omega
    · have : (0 : Int) < 2 ^ 4000 := Int.pow_pos (by decide)
      omega
  have d : (i.natAbs : Int) < ((2 ^ 4000 : Nat) : Int) := by
    rw [Int.natAbs_of_nonneg h0]
    exact_mod_cast c'
  exact_mod_cast d
theorem Bd.sm {x : T3} {E : Nat} {M L : Int} (h : Bd x E M L) (hE : E ≤ 3900) (hM : M < 2 ^ 60) (hL : L < 2 ^ 60) : Sm x :=
  ⟨natAbs_lt (c := 1) (k := 1) (by have := h.p1; omega) (by omega) h.pE (by have := h.p1; omega) (by decide) (by omega), natAbs_lt h.r0 h.rM h.pE (by have := h.p1; omega) hM (by omega), natAbs_lt h.l0 h.lL h.pE (by have := h.p1; omega) hL (by omega)⟩
/-- boxed once: the law's and the program's first step -/
def box1 (x : T3) : Md → T3
  | .once => x
  | .st _ _ => x.up 1
theorem up1 (x : T3) : x.up 1 = ⟨x.p, x.r + x.p, x.l⟩ := by
  unfold T3.up
  rw [Int.one_mul]
theorem mul_one' (x : T3) : T3.mul x T3.one = x := by rw [T3.mul_comm, T3.one_mul]
theorem pow1 (x : T3) : x.pow 1 = x := T3.one_mul x
theorem boxT_pow (x : T3) : ∀ m : Md, boxT x m = (box1 x m).pow (cop m)
  | .once => (pow1 x).symm
  | .st _ _ => rfl
theorem box1_bd {x : T3} {E : Nat} {M L : Int} (h : Bd x E M L) : ∀ m : Md, Bd (box1 x m) E (M + 1) L
  | .once => h.mono (Nat.le_refl _) (by omega) (Int.le_refl _)
  | .st _ _ => h.up
/-- everything on the way is small -/
theorem Both.pw {m : Md} {a b : Tr} (h : Both m a b) {k : Nat} (hk : k ≤ cop m) : Sm ((box1 (tal a) m).pow k) ∧ Sm (T3.mul ((box1 (tal a) m).pow k) (tal b)) ∧ Sm (box1 (tal a) m) ∧ Sm (tal b) ∧ Sm (tal a) := by
  obtain ⟨c1, c4, Ea, Eb, ba, bb, he, hb⟩ := h
  have b1 := box1_bd ba m
  have bp := b1.pow k
  have e1 : k * Ea ≤ 3200 := Nat.le_trans (Nat.mul_le_mul_right _ hk) he
  have e2 : Ea ≤ 3200 := Nat.le_trans (by have := Nat.mul_le_mul_right Ea c1; omega) he
  exact ⟨bp.sm (by omega) (by omega) (by omega), (bp.mul bb).sm (by omega) (by omega) (by omega), b1.sm (by omega) (by decide) (by decide), bb.sm (by omega) (by decide) (by decide), ba.sm (by omega) (by decide) (by decide)⟩
theorem Both.itS {m : Md} {a b : Tr} (h : Both m a b) {k : Nat} (hk : k ≤ cop m) : Sm (T3.it (tal b) (box1 (tal a) m) k) := by
  rw [T3.it_eq]
  exact (h.pw hk).2.1
theorem wm {i j : Int} (hi : i.natAbs < 2 ^ 4000) (hj : j.natAbs < 2 ^ 4000) : CMulW i j := wide_mul hi hj (by decide) (by decide) (by decide)
end K77

namespace K77
open PySem L2 HL
abbrev sBoxed : Stmt := top 41
abbrev sNums : Stmt := top 42
/-- the law's four numbers at q -/
def N4 (H : Hp) (q : Addr) (x : T3) (g : Int) : Prop := H q = some (.tup [.int x.p, .int x.r, .int x.l, .int g])
theorem N4.mono {H H' : Hp} {q : Addr} {x : T3} {g : Int} (h : N4 H q x g) (T : Tups H H') : N4 H' q x g := T _ _ h
def boxG (g : Int) : Md → Int
  | .once => g
  | .st _ _ => g + 1
def spBoxed : Sp := fun vs H Q _ => ∃ (q : Addr) (v : V) (x : T3) (g : Int) (m : Md), vs = [.ref q, v] ∧ N4 H q x g ∧ MdAt H v m ∧ ∀ (t q' : Addr) (H' : Hp), Same H H' → H' t = some (.tup [.ref q', .int (cop m)]) → N4 H' q' (box1 x m) (boxG g m) → Q (.ref t) H'
section
variable {P : Program} {w : World} {K : PySem.W.Frag} {mg : Str → Option Value} {base : Heap}
theorem scBoxed : FnScope ["one", "mode"] ["one", "mode"] (defScope sBoxed) := ⟨rfl, rfl, rfl, by decide +kernel, rfl, by decide +kernel, by decide +kernel⟩
theorem ok_boxed {f : Addr} {fd : FuncData} (A : At K mg "_law_boxed" sBoxed ["one", "mode"] f fd) (T : Txt mg) : FnOk P w K mg base CX0 1 f fd ["one", "mode"] spBoxed := by
  refine A.fn.ok scBoxed (fun vs H Q E h => ?_) (fun cdv A outer s H vs Q E hr h => ?_)
  · obtain ⟨q, v, x, g, m, rfl, _⟩ := h
    rfl
  · obtain ⟨q, v, x, g, m, rfl, hq, hm, k⟩ := h
    refine ⟨_, (pss_cons (ps_if (pt_cmpR (op_eqD hr.units) (pv 1) pe_str (nomark _))
      (pss_one (ps_ret (pe_tup (pa_cons (pv 0) (pa_cons pe_int pa_nil)))))
      pss_nil)
      (pss_one (ps_ret (pe_tup (pa_cons (pe_tup (pa_cons (pe_ix ix_tup (pv 0) pe_int (fun _ _ => rfl)) (pa_cons (pe_op op_add (pe_ix ix_tup (pv 0) pe_int (fun _ _ => rfl)) (pe_ix ix_tup (pv 0) pe_int (fun _ _ => rfl))) (pa_cons (pe_ix ix_tup (pv 0) pe_int (fun _ _ => rfl)) (pa_cons (pe_op op_add (pe_ix ix_tup (pv 0) pe_int (fun _ _ => rfl)) pe_int) pa_nil))))) (pa_cons (pe_ix ix_tup (pv 1) pe_int (fun _ _ => rfl)) pa_nil)))))), ?_⟩
    obtain ⟨dd, e1, e2, e3⟩ := hm.dp (K := K)
    refine ⟨_, rfl, dd, _, e1, once_dp, e2, once_shaped, isOnce m, by rw [e3], ?_⟩
    cases m with
    | once =>
      refine iteT ?_
      refine ⟨_, rfl, small8 (by show 2 ≤ 8; decide), fun t ht => ?_⟩
      exact k t q _ (same_new ht _) upd_same (same_new ht _ _ _ hq)
    | st n d =>
      refine iteF ?_
      obtain ⟨t, rfl, ht⟩ := hm
      refine ⟨_, rfl, q, _, _, _, rfl, rfl, SqT.of hq, rfl, _, rfl, q, _, _, _, rfl, rfl, SqT.of hq, rfl, _, rfl, q, _, _, _, rfl, rfl, SqT.of hq, rfl, _, _, rfl, rfl, _, rfl, q, _, _, _, rfl, rfl, SqT.of hq, rfl, _, rfl, q, _, _, _, rfl, rfl, SqT.of hq, rfl, _, _, rfl, rfl, small8 (by show 4 ≤ 8; decide), fun u hu => ?_⟩
      have s1 := same_new hu (.tup [.int x.p, .int (x.r + x.p), .int x.l, .int (g + 1)])
      refine ⟨_, rfl, t, _, _, _, rfl, rfl, SqT.of (s1 _ _ ht), rfl, small8 (by show 2 ≤ 8; decide), fun z hz => ?_⟩
      refine k z u _ (s1.trans (same_new hz _)) upd_same ?_
      refine (same_new hz _) _ _ ?_
      rw [upd_same]
      show some (HO.tup [V.int x.p, V.int (x.r + x.p), V.int x.l, V.int (g + 1)]) = some (HO.tup [V.int (x.up 1).p, V.int (x.up 1).r, V.int (x.up 1).l, V.int (g + 1)])
      rw [up1]
theorem n4z {H : Hp} {q : Addr} {x : T3} {g c : Int} (h : N4 H q x g) : N4 H q x (g + ((0 : Nat) : Int) * c) := by
  have e : g + ((0 : Nat) : Int) * c = g := by simp
  rw [e]
  exact h
theorem cop_mul {m : Md} {X : T3} (h : cop m ≤ 400) (sm : Sm X) : CMulW (cop m : Int) (X.r - X.p) := by
  have e : (2 : Nat) ^ 4001 = 2 ^ 4000 + 2 ^ 4000 := by rw [Nat.pow_succ]; omega
  have a := sm.r
  have b := sm.p
  refine wide_mul (a := 9) (b := 4001) (by rw [Int.natAbs_natCast]; exact Nat.lt_of_le_of_lt h (by decide)) ?_ (by decide) (by decide) (by decide)
  rw [e]
  generalize (2 : Nat) ^ 4000 = B at a b ⊢
  omega
abbrev nNums : List Str := ["tree", "body", "one", "mode", "copies_v", "k", "rows"]
theorem scNums : FnScope nNums ["tree"] (defScope sNums) := ⟨rfl, rfl, rfl, by decide +kernel, rfl, by decide +kernel, by decide +kernel⟩
def spNums (n : Nat) : Sp := fun vs H Q _ => ∃ (v : V) (t : Tr), vs = [v] ∧ TrAt H v t ∧ hgt t < n ∧ Ok t ∧ ∀ (q : Addr) (H' : Hp), Same H H' → N4 H' q (tal t) (gr t) → Q (.ref q) H'
theorem ok_nums {n : Nat} {f : Addr} {fd : FuncData} (A : At K mg "_law_numbers" sNums ["tree"] f fd) (T : Txt mg) (R : FnOk P w K mg base CX0 (n + 1) f fd ["tree"] (spNums n))
    (D_law_boxed : Def P w K mg base 1 "_law_boxed" ["one", "mode"] spBoxed) : FnOk P w K mg base CX0 (n + 2) f fd ["tree"] (spNums (n + 1)) := by
  have D_law_numbers := A.df R
  refine A.fn.ok scNums (fun vs H Q E h => ?_) (fun cdv A outer s H vs Q E hr h => ?_)
  · obtain ⟨v, t, rfl, _⟩ := h
    rfl
  · obtain ⟨v, t, rfl, ht, hn, ok, k⟩ := h
    refine ⟨_, (pss_cons (ps_if (pt_cmpR op_eq (pe_ix ix_tup (pv 0) pe_int (fun _ _ => rfl)) pe_str (nomark _))
      (pss_one (ps_ret (pe_tup (pa_cons pe_int (pa_cons pe_int (pa_cons pe_int (pa_cons pe_int pa_nil)))))))
      pss_nil)
      (pss_cons (ps_set (i := 1) scNums.nd rfl (Or.inl rfl) (pe_cd D_law_numbers hr (pa_cons (pe_ix ix_tup (pv 0) (pe_un un_neg pe_int) (fun _ _ => rfl)) pa_nil)))
      (pss_cons (ps_if (pt_cmpR op_eq (pe_ix ix_tup (pv 0) pe_int (fun _ _ => rfl)) pe_str (nomark _))
      (pss_cons (ps_set (i := 2) scNums.nd rfl (Or.inl rfl) (pe_cd D_law_numbers hr (pa_cons (pe_ix ix_tup (pv 0) pe_int (fun _ _ => rfl)) pa_nil)))
        (pss_one (ps_ret (pe_tup (pa_cons (pe_op op_add (pe_ix ix_tup (pv 2) pe_int (fun _ _ => rfl)) (pe_ix ix_tup (pv 1) pe_int (fun _ _ => rfl))) (pa_cons (pe_op op_add (pe_op op_add (pe_op op_add (pe_ix ix_tup (pv 2) pe_int (fun _ _ => rfl)) (pe_ix ix_tup (pv 1) pe_int (fun _ _ => rfl))) (pe_ix ix_tup (pv 2) pe_int (fun _ _ => rfl))) (pe_ix ix_tup (pv 1) pe_int (fun _ _ => rfl))) (pa_cons (pe_op op_add (pe_ix ix_tup (pv 2) pe_int (fun _ _ => rfl)) (pe_ix ix_tup (pv 1) pe_int (fun _ _ => rfl))) (pa_cons (pe_op op_add pe_int (pe_callB (call_max2 rfl) rfl T.max (by decide +kernel) (pa_cons (pe_ix ix_tup (pv 2) pe_int (fun _ _ => rfl)) (pa_cons (pe_ix ix_tup (pv 1) pe_int (fun _ _ => rfl)) pa_nil)))) pa_nil))))))))
      pss_nil)
      (pss_cons (ps_if (pt_cmpR op_in_seq (pe_ix ix_tup (pv 0) pe_int (fun _ _ => rfl)) (pe_tup (pa_cons pe_str (pa_cons pe_str pa_nil))) rfl)
      (pss_cons (ps_set (i := 3) scNums.nd rfl (Or.inl rfl) (pe_ix ix_tup (pv 0) (pe_op op_add pe_int (pe_callTy call_int1 rfl T.int (by decide +kernel) (pa_cons (pe_cmpR op_eq (pe_ix ix_tup (pv 0) pe_int (fun _ _ => rfl)) pe_str (nomark _)) pa_nil))) (fun _ _ => rfl)))
        (pss_cons (ps_asg (pe_cd D_law_boxed hr (pa_cons (pe_cd D_law_numbers hr (pa_cons (pe_ix ix_tup (pv 0) pe_int (fun _ _ => rfl)) pa_nil)) (pa_cons (pv 3) pa_nil))) (pg_tup rfl (pgs_cons (pg_name (i := 2) scNums.nd rfl (Or.inl rfl)) (pgs_cons (pg_name (i := 4) scNums.nd rfl (Or.inl rfl)) pgs_nil))))
        (pss_cons (ps_for PassesOwn.never rfl (pi_range1 rfl T.range (pa_cons (pv 4) pa_nil)) (pg_name (i := 5) scNums.nd rfl (Or.inl rfl))
        (pss_cons (ps_set (i := 6) scNums.nd rfl (Or.inl rfl) (pe_op op_add (pe_op op_mulW (pe_ix ix_tup (pv 1) pe_int (fun _ _ => rfl)) (pe_ix ix_tup (pv 2) pe_int (fun _ _ => rfl))) (pe_op op_mulW (pe_ix ix_tup (pv 2) pe_int (fun _ _ => rfl)) (pe_ix ix_tup (pv 1) pe_int (fun _ _ => rfl)))))
          (pss_one (ps_set (i := 1) scNums.nd rfl (Or.inl rfl) (pe_tup (pa_cons (pe_op op_mulW (pe_ix ix_tup (pv 1) pe_int (fun _ _ => rfl)) (pe_ix ix_tup (pv 2) pe_int (fun _ _ => rfl))) (pa_cons (pv 6) (pa_cons (pe_op op_add (pe_op op_mulW (pe_ix ix_tup (pv 1) pe_int (fun _ _ => rfl)) (pe_ix ix_tup (pv 2) pe_int (fun _ _ => rfl))) (pe_op op_mulW (pe_ix ix_tup (pv 2) pe_int (fun _ _ => rfl)) (pe_ix ix_tup (pv 1) pe_int (fun _ _ => rfl)))) (pa_cons (pe_op op_add (pe_ix ix_tup (pv 1) pe_int (fun _ _ => rfl)) (pe_ix ix_tup (pv 2) pe_int (fun _ _ => rfl))) pa_nil)))))))))
        (pss_one (ps_if (pt_cmpR op_eq (pe_ix ix_tup (pv 0) pe_int (fun _ _ => rfl)) pe_str (nomark _))
        (pss_one (ps_ret (pe_tup (pa_cons (pe_ix ix_tup (pv 1) pe_int (fun _ _ => rfl)) (pa_cons (pe_ix ix_tup (pv 1) pe_int (fun _ _ => rfl)) (pa_cons (pe_op op_add (pe_ix ix_tup (pv 1) pe_int (fun _ _ => rfl)) (pe_op op_mulW (pv 4) (pe_op op_sub (pe_ix ix_tup (pv 1) pe_int (fun _ _ => rfl)) (pe_ix ix_tup (pv 1) pe_int (fun _ _ => rfl))))) (pa_cons (pe_ix ix_tup (pv 1) pe_int (fun _ _ => rfl)) pa_nil)))))))
        pss_nil)))))
      pss_nil)
      (pss_one (ps_ret (pe_tup (pa_cons (pe_ix ix_tup (pv 1) pe_int (fun _ _ => rfl)) (pa_cons (pe_op op_add (pe_ix ix_tup (pv 1) pe_int (fun _ _ => rfl)) (pe_ix ix_tup (pv 1) pe_int (fun _ _ => rfl))) (pa_cons (pe_ix ix_tup (pv 1) pe_int (fun _ _ => rfl)) (pa_cons (pe_op op_add (pe_ix ix_tup (pv 1) pe_int (fun _ _ => rfl)) pe_int) pa_nil))))))))))), ?_⟩
    cases t with
    | own r =>
      obtain ⟨p, rfl, hp⟩ := ht
      refine ⟨_, rfl, p, _, _, _, rfl, rfl, SqT.of hp, rfl, rfl, _, rfl, ?_⟩
      refine iteT ⟨small8 (by show 4 ≤ 8; decide), fun q hq => ?_⟩
      exact k q _ (same_new hq _) upd_same
    | pick r side b =>
      obtain ⟨p, x, rfl, hp, hb⟩ := ht
      refine ⟨_, rfl, p, _, _, _, rfl, rfl, SqT.of hp, rfl, rfl, _, rfl, ?_⟩
      refine iteF ?_
      have hn' : hgt b + 1 < n + 1 := hn
      refine ⟨_, rfl, _, rfl, p, _, _, _, rfl, rfl, SqT.of hp, rfl, x, b, rfl, hb, by omega, ok, fun q1 H1 s1 n1 => ?_⟩
      have hp1 := s1 _ _ hp
      refine ⟨_, rfl, p, _, _, _, rfl, rfl, SqT.of hp1, rfl, rfl, _, rfl, ?_⟩
      refine iteF ?_
      refine ⟨_, rfl, p, _, _, _, rfl, rfl, SqT.of hp1, rfl, small8 (by show 2 ≤ 8; decide), fun u hu => ⟨u, _, rfl, .inr (SqT.of upd_same), rfl, rfl, false, rfl, ?_⟩⟩
      refine iteF ?_
      have n2 := n1.mono (Tups.of (same_new hu (.tup [.str "cut", .str "pay"])))
      refine ⟨_, rfl, q1, _, _, _, rfl, rfl, SqT.of n2, rfl, _, rfl, q1, _, _, _, rfl, rfl, SqT.of n2, rfl, _, rfl, q1, _, _, _, rfl, rfl, SqT.of n2, rfl, _, _, rfl, rfl, _, rfl, q1, _, _, _, rfl, rfl, SqT.of n2, rfl, _, rfl, q1, _, _, _, rfl, rfl, SqT.of n2, rfl, _, _, rfl, rfl, small8 (by show 4 ≤ 8; decide), fun z hz => ?_⟩
      refine k z _ (s1.trans ((same_new hu _).trans (same_new hz _))) ?_
      show _ = some (HO.tup [V.int ((tal b).up 1).p, V.int ((tal b).up 1).r, V.int ((tal b).up 1).l, V.int (gr b + 1)])
      rw [up1]
      exact upd_same
    | offer a b =>
      obtain ⟨p, x, y, rfl, hp, ha, hb⟩ := ht
      obtain ⟨oa, ob⟩ := ok
      have hn' : max (hgt a) (hgt b) + 1 < n + 1 := hn
      refine ⟨_, rfl, p, _, _, _, rfl, rfl, SqT.of hp, rfl, rfl, _, rfl, ?_⟩
      refine iteF ?_
      refine ⟨_, rfl, _, rfl, p, _, _, _, rfl, rfl, SqT.of hp, rfl, y, b, rfl, hb, by omega, ob, fun q1 H1 s1 n1 => ?_⟩
      have hp1 := s1 _ _ hp
      refine ⟨_, rfl, p, _, _, _, rfl, rfl, SqT.of hp1, rfl, rfl, _, rfl, ?_⟩
      refine iteT ?_
      refine ⟨_, rfl, p, _, _, _, rfl, rfl, SqT.of hp1, rfl, x, a, rfl, ha.mono (Tups.of s1), by omega, oa, fun q2 H2 s2 n2 => ?_⟩
      have n1' := n1.mono (Tups.of s2)
      refine ⟨_, rfl, q2, _, _, _, rfl, rfl, SqT.of n2, rfl, _, rfl, q1, _, _, _, rfl, rfl, SqT.of n1', rfl, _, _, rfl, rfl, ?_⟩
      refine ⟨_, rfl, q2, _, _, _, rfl, rfl, SqT.of n2, rfl, _, rfl, q1, _, _, _, rfl, rfl, SqT.of n1', rfl, _, _, rfl, rfl, _, rfl, q2, _, _, _, rfl, rfl, SqT.of n2, rfl, _, _, rfl, rfl, _, rfl, q1, _, _, _, rfl, rfl, SqT.of n1', rfl, _, _, rfl, rfl, ?_⟩
      refine ⟨_, rfl, q2, _, _, _, rfl, rfl, SqT.of n2, rfl, _, rfl, q1, _, _, _, rfl, rfl, SqT.of n1', rfl, _, _, rfl, rfl, ?_⟩
      refine ⟨_, rfl, q2, _, _, _, rfl, rfl, SqT.of n2, rfl, _, rfl, q1, _, _, _, rfl, rfl, SqT.of n1', rfl, _, _, rfl, _, _, rfl, rfl, small8 (by show 4 ≤ 8; decide), fun z hz => ?_⟩
      refine k z _ (s1.trans (s2.trans (same_new hz _))) ?_
      show _ = some (HO.tup [V.int (((tal a).add (tal b)).up 1).p, V.int (((tal a).add (tal b)).up 1).r, V.int (((tal a).add (tal b)).up 1).l, V.int ((if gr b > gr a then gr b else gr a) + 1)])
      rw [up1, Int.add_comm _ (1 : Int), upd_same]
      have e : (tal a).r + (tal b).r + (tal a).p + (tal b).p = ((tal a).add (tal b)).r + ((tal a).add (tal b)).p := by
        show _ = (tal a).r + (tal b).r + ((tal a).p + (tal b).p)
        omega
      exact congrArg (fun i => some (HO.tup [V.int ((tal a).p + (tal b).p), V.int i, V.int ((tal a).l + (tal b).l), V.int (1 + if gr b > gr a then gr b else gr a)])) e
    | cut m sn a b =>
      obtain ⟨p, m', s', x, y, rfl, hp, hm, hs, ha, hb⟩ := ht
      obtain ⟨oa, ob, bo⟩ := ok
      have hn' : max (hgt a) (hgt b) + 1 < n + 1 := hn
      refine ⟨_, rfl, p, _, _, _, rfl, rfl, SqT.of hp, rfl, rfl, _, rfl, ?_⟩
      refine iteF ?_
      refine ⟨_, rfl, _, rfl, p, _, _, _, rfl, rfl, SqT.of hp, rfl, y, b, rfl, hb, by omega, ob, fun q1 H1 s1 n1 => ?_⟩
      have hp1 := s1 _ _ hp
      refine ⟨_, rfl, p, _, _, _, rfl, rfl, SqT.of hp1, rfl, rfl, _, rfl, ?_⟩
      refine iteF ?_
      refine ⟨_, rfl, p, _, _, _, rfl, rfl, SqT.of hp1, rfl, small8 (by show 2 ≤ 8; decide), fun u hu => ⟨u, _, rfl, .inr (SqT.of upd_same), rfl, rfl, true, rfl, ?_⟩⟩
      refine iteT ?_
      have s2 : Same H (L2.upd H1 u (.tup [.str "cut", .str "pay"])) := s1.trans (same_new hu _)
      have hp2 := s2 _ _ hp
      -- mode
      refine ⟨_, rfl, _, rfl, p, _, _, _, rfl, rfl, SqT.of hp2, rfl, rfl, .inr ⟨_, rfl, _, _, rfl, rfl, p, _, _, _, rfl, rfl, SqT.of hp2, rfl, ?_⟩⟩
      -- one, copies
      refine ⟨_, rfl, p, _, _, _, rfl, rfl, SqT.of hp2, rfl, x, a, rfl, ha.mono (Tups.of s2), by omega, oa, fun q3 H3 s3 n3 => ?_⟩
      have s03 := s2.trans s3
      refine ⟨_, rfl, q3, m', _, _, m, rfl, n3, hm.mono (Tups.of s03), fun t5 q4 H4 s4 ht5 n4 => ?_⟩
      have s04 := s03.trans s4
      have n1b : N4 H4 q1 (tal b) (gr b) := n1.mono (Tups.of ((same_new hu (.tup [.str "cut", .str "pay"])).trans (s3.trans s4)))
      refine ⟨t5, _, rfl, SqT.of ht5, rfl, _, _, rfl, _, _, rfl, rfl, ?_⟩
      -- the loop
      obtain ⟨c1, c2, _⟩ := id bo
      refine ⟨_, rfl, _, rfl, ?_, ?_, for_range (lo := 0) (n := ((cop m : Nat) : Int).toNat) (fun i σ H' => ∃ (qb : Addr) (kk rr : Option V), σ = [some (.ref p), some (.ref qb), some (.ref q4), some m', some (.int (cop m)), kk, rr] ∧ Same H4 H' ∧ N4 H' qb (T3.it (tal b) (box1 (tal a) m) i) (gr b + i * boxG (gr a) m)) ⟨q1, none, none, rfl, Same.refl _, n4z n1b⟩ ?_ ?_⟩
      · have : (0 : Int) < 2 ^ 62 := by decide
        omega
      · have : (1000 : Int) < 2 ^ 62 := by decide
        omega
      · rintro i σ H5 hi ⟨qb, kk, rr, rfl, s5, n5⟩
        rw [Int.toNat_natCast] at hi
        have no5 := n4.mono (Tups.of s5)
        have sm := bo.itS (k := i) (by omega)
        obtain ⟨_, _, sb, _, _⟩ := bo.pw (k := 0) (Nat.zero_le _)
        refine ⟨_, rfl, qb, _, _, _, rfl, rfl, SqT.of n5, rfl, _, rfl, q4, _, _, _, rfl, rfl, SqT.of no5, rfl, _, _, rfl, rfl, wm sm.r sb.p, _, rfl, q4, _, _, _, rfl, rfl, SqT.of no5, rfl, _, rfl, qb, _, _, _, rfl, rfl, SqT.of n5, rfl, _, _, rfl, rfl, wm sb.r sm.p, _, _, rfl, rfl, ?_⟩
        refine ⟨_, rfl, qb, _, _, _, rfl, rfl, SqT.of n5, rfl, _, rfl, q4, _, _, _, rfl, rfl, SqT.of no5, rfl, _, _, rfl, rfl, wm sm.p sb.p, _, rfl, ?_⟩
        refine ⟨_, rfl, qb, _, _, _, rfl, rfl, SqT.of n5, rfl, _, rfl, q4, _, _, _, rfl, rfl, SqT.of no5, rfl, _, _, rfl, rfl, wm sm.l sb.p, _, rfl, q4, _, _, _, rfl, rfl, SqT.of no5, rfl, _, rfl, qb, _, _, _, rfl, rfl, SqT.of n5, rfl, _, _, rfl, rfl, wm sb.l sm.p, _, _, rfl, rfl, ?_⟩
        refine ⟨_, rfl, qb, _, _, _, rfl, rfl, SqT.of n5, rfl, _, rfl, q4, _, _, _, rfl, rfl, SqT.of no5, rfl, _, _, rfl, rfl, small8 (by show 4 ≤ 8; decide), fun z hz => ?_⟩
        refine ⟨z, _, _, rfl, s5.trans (same_new hz _), ?_⟩
        have e : gr b + (i : Int) * boxG (gr a) m + boxG (gr a) m = gr b + ((i + 1 : Nat) : Int) * boxG (gr a) m := by
          rw [Int.natCast_succ, Int.add_mul, Int.one_mul]
          omega
        show _ = some (HO.tup [V.int _, V.int _, V.int _, V.int (gr b + ((i + 1 : Nat) : Int) * boxG (gr a) m)])
        rw [← e]
        exact upd_same
      rintro σ H5 ⟨qb, kk, rr, rfl, s5, n5⟩
      rw [Int.toNat_natCast] at n5
      have hp5 := s5 _ _ (s04 _ _ hp)
      have s05 := s04.trans s5
      have en : T3.it (tal b) (box1 (tal a) m) (cop m) = (boxT (tal a) m).mul (tal b) := by rw [T3.it_eq, boxT_pow]
      have eg : gr b + ((cop m : Nat) : Int) * boxG (gr a) m = boxR (gr a) m + gr b := by
        cases m with
        | once => show gr b + ((1 : Nat) : Int) * gr a = gr a + gr b; omega
        | st n d => show gr b + ((n : Nat) : Int) * (gr a + 1) = n * (gr a + 1) + gr b; omega
      rw [en, eg] at n5
      generalize hX : (boxT (tal a) m).mul (tal b) = X at n5
      have smX : Sm X := by rw [← hX, ← en]; exact bo.itS (Nat.le_refl _)
      refine ⟨_, rfl, p, _, _, _, rfl, rfl, SqT.of hp5, rfl, rfl, _, rfl, ?_⟩
      refine iteT ?_
      refine ⟨_, rfl, qb, _, _, _, rfl, rfl, SqT.of n5, rfl, _, rfl, qb, _, _, _, rfl, rfl, SqT.of n5, rfl, _, rfl, qb, _, _, _, rfl, rfl, SqT.of n5, rfl, _, rfl, _, rfl, qb, _, _, _, rfl, rfl, SqT.of n5, rfl, _, rfl, qb, _, _, _, rfl, rfl, SqT.of n5, rfl, _, _, rfl, rfl, _, _, rfl, rfl, ?_, _, _, rfl, rfl, _, rfl, qb, _, _, _, rfl, rfl, SqT.of n5, rfl, small8 (by show 4 ≤ 8; decide), fun z hz => ?_⟩
      · exact cop_mul c2 smX
      refine k z _ (s05.trans (same_new hz _)) ?_
      show _ = some (HO.tup [V.int (((boxT (tal a) m).mul (tal b)).cutf (cop m : Int)).p, V.int (((boxT (tal a) m).mul (tal b)).cutf (cop m : Int)).r, V.int (((boxT (tal a) m).mul (tal b)).cutf (cop m : Int)).l, V.int (boxR (gr a) m + gr b)])
      rw [hX]
      exact upd_same
    | pay r m a b =>
      obtain ⟨p, m', x, y, rfl, hp, hm, ha, hb⟩ := ht
      obtain ⟨oa, ob, bo⟩ := ok
      have hn' : max (hgt a) (hgt b) + 1 < n + 1 := hn
      refine ⟨_, rfl, p, _, _, _, rfl, rfl, SqT.of hp, rfl, rfl, _, rfl, ?_⟩
      refine iteF ?_
      refine ⟨_, rfl, _, rfl, p, _, _, _, rfl, rfl, SqT.of hp, rfl, y, b, rfl, hb, by omega, ob, fun q1 H1 s1 n1 => ?_⟩
      have hp1 := s1 _ _ hp
      refine ⟨_, rfl, p, _, _, _, rfl, rfl, SqT.of hp1, rfl, rfl, _, rfl, ?_⟩
      refine iteF ?_
      refine ⟨_, rfl, p, _, _, _, rfl, rfl, SqT.of hp1, rfl, small8 (by show 2 ≤ 8; decide), fun u hu => ⟨u, _, rfl, .inr (SqT.of upd_same), rfl, rfl, true, rfl, ?_⟩⟩
      refine iteT ?_
      have s2 : Same H (L2.upd H1 u (.tup [.str "cut", .str "pay"])) := s1.trans (same_new hu _)
      have hp2 := s2 _ _ hp
      -- mode
      refine ⟨_, rfl, _, rfl, p, _, _, _, rfl, rfl, SqT.of hp2, rfl, rfl, .inr ⟨_, rfl, _, _, rfl, rfl, p, _, _, _, rfl, rfl, SqT.of hp2, rfl, ?_⟩⟩
      -- one, copies
      refine ⟨_, rfl, p, _, _, _, rfl, rfl, SqT.of hp2, rfl, x, a, rfl, ha.mono (Tups.of s2), by omega, oa, fun q3 H3 s3 n3 => ?_⟩
      have s03 := s2.trans s3
      refine ⟨_, rfl, q3, m', _, _, m, rfl, n3, hm.mono (Tups.of s03), fun t5 q4 H4 s4 ht5 n4 => ?_⟩
      have s04 := s03.trans s4
      have n1b : N4 H4 q1 (tal b) (gr b) := n1.mono (Tups.of ((same_new hu (.tup [.str "cut", .str "pay"])).trans (s3.trans s4)))
      refine ⟨t5, _, rfl, SqT.of ht5, rfl, _, _, rfl, _, _, rfl, rfl, ?_⟩
      -- the loop
      obtain ⟨c1, c2, _⟩ := id bo
      refine ⟨_, rfl, _, rfl, ?_, ?_, for_range (lo := 0) (n := ((cop m : Nat) : Int).toNat) (fun i σ H' => ∃ (qb : Addr) (kk rr : Option V), σ = [some (.ref p), some (.ref qb), some (.ref q4), some m', some (.int (cop m)), kk, rr] ∧ Same H4 H' ∧ N4 H' qb (T3.it (tal b) (box1 (tal a) m) i) (gr b + i * boxG (gr a) m)) ⟨q1, none, none, rfl, Same.refl _, n4z n1b⟩ ?_ ?_⟩
      · have : (0 : Int) < 2 ^ 62 := by decide
        omega
      · have : (1000 : Int) < 2 ^ 62 := by decide
        omega
      · rintro i σ H5 hi ⟨qb, kk, rr, rfl, s5, n5⟩
        rw [Int.toNat_natCast] at hi
        have no5 := n4.mono (Tups.of s5)
        have sm := bo.itS (k := i) (by omega)
        obtain ⟨_, _, sb, _, _⟩ := bo.pw (k := 0) (Nat.zero_le _)
        refine ⟨_, rfl, qb, _, _, _, rfl, rfl, SqT.of n5, rfl, _, rfl, q4, _, _, _, rfl, rfl, SqT.of no5, rfl, _, _, rfl, rfl, wm sm.r sb.p, _, rfl, q4, _, _, _, rfl, rfl, SqT.of no5, rfl, _, rfl, qb, _, _, _, rfl, rfl, SqT.of n5, rfl, _, _, rfl, rfl, wm sb.r sm.p, _, _, rfl, rfl, ?_⟩
        refine ⟨_, rfl, qb, _, _, _, rfl, rfl, SqT.of n5, rfl, _, rfl, q4, _, _, _, rfl, rfl, SqT.of no5, rfl, _, _, rfl, rfl, wm sm.p sb.p, _, rfl, ?_⟩
        refine ⟨_, rfl, qb, _, _, _, rfl, rfl, SqT.of n5, rfl, _, rfl, q4, _, _, _, rfl, rfl, SqT.of no5, rfl, _, _, rfl, rfl, wm sm.l sb.p, _, rfl, q4, _, _, _, rfl, rfl, SqT.of no5, rfl, _, rfl, qb, _, _, _, rfl, rfl, SqT.of n5, rfl, _, _, rfl, rfl, wm sb.l sm.p, _, _, rfl, rfl, ?_⟩
        refine ⟨_, rfl, qb, _, _, _, rfl, rfl, SqT.of n5, rfl, _, rfl, q4, _, _, _, rfl, rfl, SqT.of no5, rfl, _, _, rfl, rfl, small8 (by show 4 ≤ 8; decide), fun z hz => ?_⟩
        refine ⟨z, _, _, rfl, s5.trans (same_new hz _), ?_⟩
        have e : gr b + (i : Int) * boxG (gr a) m + boxG (gr a) m = gr b + ((i + 1 : Nat) : Int) * boxG (gr a) m := by
          rw [Int.natCast_succ, Int.add_mul, Int.one_mul]
          omega
        show _ = some (HO.tup [V.int _, V.int _, V.int _, V.int (gr b + ((i + 1 : Nat) : Int) * boxG (gr a) m)])
        rw [← e]
        exact upd_same
      rintro σ H5 ⟨qb, kk, rr, rfl, s5, n5⟩
      rw [Int.toNat_natCast] at n5
      have hp5 := s5 _ _ (s04 _ _ hp)
      have s05 := s04.trans s5
      have en : T3.it (tal b) (box1 (tal a) m) (cop m) = (boxT (tal a) m).mul (tal b) := by rw [T3.it_eq, boxT_pow]
      have eg : gr b + ((cop m : Nat) : Int) * boxG (gr a) m = boxR (gr a) m + gr b := by
        cases m with
        | once => show gr b + ((1 : Nat) : Int) * gr a = gr a + gr b; omega
        | st n d => show gr b + ((n : Nat) : Int) * (gr a + 1) = n * (gr a + 1) + gr b; omega
      rw [en, eg] at n5
      generalize hX : (boxT (tal a) m).mul (tal b) = X at n5
      have smX : Sm X := by rw [← hX, ← en]; exact bo.itS (Nat.le_refl _)
      refine ⟨_, rfl, p, _, _, _, rfl, rfl, SqT.of hp5, rfl, rfl, _, rfl, ?_⟩
      refine iteF ?_
      refine ⟨_, rfl, qb, _, _, _, rfl, rfl, SqT.of n5, rfl, _, rfl, qb, _, _, _, rfl, rfl, SqT.of n5, rfl, _, rfl, qb, _, _, _, rfl, rfl, SqT.of n5, rfl, _, _, rfl, rfl, _, rfl, qb, _, _, _, rfl, rfl, SqT.of n5, rfl, _, rfl, qb, _, _, _, rfl, rfl, SqT.of n5, rfl, _, _, rfl, rfl, small8 (by show 4 ≤ 8; decide), fun z hz => ?_⟩
      refine k z _ (s05.trans (same_new hz _)) ?_
      show _ = some (HO.tup [V.int (((boxT (tal a) m).mul (tal b)).up 1).p, V.int (((boxT (tal a) m).mul (tal b)).up 1).r, V.int (((boxT (tal a) m).mul (tal b)).up 1).l, V.int (boxR (gr a) m + gr b + 1)])
      rw [hX, up1]
      exact upd_same
end
end K77

namespace K77
open PySem L2 HL
abbrev sCopies : Stmt := top 5
abbrev sPrem : Stmt := top 12
abbrev sTInit : Stmt := inClass (top 14) 0
abbrev sTAdd : Stmt := inClass (top 14) 1
abbrev sTMul : Stmt := inClass (top 14) 2
abbrev sTCopied : Stmt := inClass (top 14) 3
abbrev sTTaller : Stmt := inClass (top 14) 4
abbrev sTCut : Stmt := inClass (top 14) 6
abbrev sTTriple : Stmt := inClass (top 14) 7
/-! ## copies, premises -/
structure Txt2 (K : PySem.W.Frag) (w : World) (mg : Str → Option Value) (aP : Addr) : Prop where
  pm : mg "PREMISES" = some (.ref aP)
  own : KDct K w aP "own" (.int 0)
  pick : KDct K w aP "pick" (.int 1)
  offer : KDct K w aP "offer" (.int 2)
  cut : KDct K w aP "cut" (.int 2)
  pay : KDct K w aP "pay" (.int 2)
def spCopies : Sp := fun vs H Q _ => ∃ (v : V) (m : Md), vs = [v] ∧ MdAt H v m ∧ Q (.int (cop m)) H
def kids : Tr → List Tr
  | .own _ => []
  | .pick _ _ b => [b]
  | .offer a b => [a, b]
  | .cut _ _ a b => [a, b]
  | .pay _ _ a b => [a, b]
def spPrem : Sp := fun vs H Q _ => ∃ (v : V) (t : Tr), vs = [v] ∧ TrAt H v t ∧ ∀ (D : Addr) (xs : List V) (H' : Hp), Same H H' → H D = none → H' D = some (.lst xs) → Paired (TrAt H) xs (kids t) → Q (.ref D) H'
section
variable {P : Program} {w : World} {K : PySem.W.Frag} {mg : Str → Option Value} {base : Heap} {f aP C : Addr} {fd : FuncData}
theorem scCopies : FnScope ["kind"] ["kind"] (defScope sCopies) := ⟨rfl, rfl, rfl, by decide +kernel, rfl, by decide +kernel, by decide +kernel⟩
theorem ok_copies (A : At K mg "copies" sCopies ["kind"] f fd) (T : Txt mg) : FnOk P w K mg base CX0 1 f fd ["kind"] spCopies := by
  refine A.fn.ok scCopies (fun vs H Q E h => ?_) (fun cdv A outer s H vs Q E hr h => ?_)
  · obtain ⟨v, m, rfl, _⟩ := h
    rfl
  · obtain ⟨v, m, rfl, hm, k⟩ := h
    refine ⟨_, (pss_cons (ps_if (pt_cmpR (op_eqD hr.units) (pv 0) pe_str (nomark _))
      (pss_one (ps_ret pe_int))
      pss_nil)
      (pss_one (ps_ret (pe_ix ix_tup (pv 0) pe_int (fun _ _ => rfl))))), ?_⟩
    obtain ⟨dd, e1, e2, e3⟩ := hm.dp (K := K)
    refine ⟨_, rfl, dd, _, e1, once_dp, e2, once_shaped, isOnce m, by rw [e3], ?_⟩
    cases m with
    | once =>
      refine iteT ?_
      exact k
    | st n d =>
      refine iteF ?_
      obtain ⟨t, rfl, ht⟩ := hm
      refine ⟨_, rfl, t, _, _, _, rfl, rfl, SqT.of ht, rfl, ?_⟩
      exact k
theorem scPrem : FnScope ["derivation", "count"] ["derivation"] (defScope sPrem) := ⟨rfl, rfl, rfl, by decide +kernel, rfl, by decide +kernel, by decide +kernel⟩
theorem ok_prem (A : At K mg "premises" sPrem ["derivation"] f fd) (T : Txt mg) (T2 : Txt2 K w mg aP) : FnOk P w K mg base CX0 1 f fd ["derivation"] spPrem := by
  refine A.fn.ok scPrem (fun vs H Q E h => ?_) (fun cdv A outer s H vs Q E hr h => ?_)
  · obtain ⟨v, t, rfl, _⟩ := h
    rfl
  · obtain ⟨v, t, rfl, ht, k⟩ := h
    refine ⟨_, (pss_cons (ps_set (i := 1) scPrem.nd rfl (Or.inl rfl) (pe_ix ix_kdict (pe_glob (v := .ref aP) rfl T2.pm rfl) (pe_ix ix_tup (pv 0) pe_int (fun _ _ => rfl)) (fun _ _ => rfl)))
      (pss_one (ps_ret (pe_callTy call_list_of rfl T.list (by decide +kernel) (pa_cons (pe_slice sl_tup (pv 0) (po_some (pe_op op_sub (pe_callB call_len_seq rfl T.len (by decide +kernel) (pa_cons (pv 0) pa_nil)) (pv 1))) po_none) pa_nil))))), ?_⟩
    obtain ⟨p, nm, rest, c, ys, rfl, hp, hk, hcut, hw, hys⟩ : ∃ (p : Addr) (nm : Str) (rest : List V) (c : Int) (ys : List V), v = .ref p ∧ H p = some (.tup (.str nm :: rest)) ∧ KDct K w aP nm (.int c) ∧
        cutV (.str nm :: rest) (some ((((V.str nm :: rest).length : Nat) : Int) - c)) none = ys ∧ ¬ (HT.sIx (V.str nm :: rest).length 0 (some ((((V.str nm :: rest).length : Nat) : Int) - c)) = 0 ∧ HT.sIx (V.str nm :: rest).length (V.str nm :: rest).length none = (V.str nm :: rest).length) ∧ Paired (TrAt H) ys (kids t) := by
      cases t with
      | own r =>
        obtain ⟨p, rfl, hp⟩ := ht
        exact ⟨p, _, _, _, [], rfl, hp, T2.own, rfl, by show ¬ (HT.sIx 2 0 (some (((2 : Nat) : Int) - 0)) = 0 ∧ HT.sIx 2 2 none = 2); decide, .nil⟩
      | pick r side b =>
        obtain ⟨p, x, rfl, hp, hb⟩ := ht
        exact ⟨p, _, _, _, [x], rfl, hp, T2.pick, rfl, by show ¬ (HT.sIx 4 0 (some (((4 : Nat) : Int) - 1)) = 0 ∧ HT.sIx 4 4 none = 4); decide, .cons hb .nil⟩
      | offer a b =>
        obtain ⟨p, x, y, rfl, hp, ha, hb⟩ := ht
        exact ⟨p, _, _, _, [x, y], rfl, hp, T2.offer, rfl, by show ¬ (HT.sIx 3 0 (some (((3 : Nat) : Int) - 2)) = 0 ∧ HT.sIx 3 3 none = 3); decide, .cons ha (.cons hb .nil)⟩
      | cut m sn a b =>
        obtain ⟨p, m', s', x, y, rfl, hp, hm, hs, ha, hb⟩ := ht
        exact ⟨p, _, _, _, [x, y], rfl, hp, T2.cut, rfl, by show ¬ (HT.sIx 5 0 (some (((5 : Nat) : Int) - 2)) = 0 ∧ HT.sIx 5 5 none = 5); decide, .cons ha (.cons hb .nil)⟩
      | pay r m a b =>
        obtain ⟨p, m', x, y, rfl, hp, hm, ha, hb⟩ := ht
        exact ⟨p, _, _, _, [x, y], rfl, hp, T2.pay, rfl, by show ¬ (HT.sIx 5 0 (some (((5 : Nat) : Int) - 2)) = 0 ∧ HT.sIx 5 5 none = 5); decide, .cons ha (.cons hb .nil)⟩
    have z0 : atI (V.str nm :: rest) ((0 : Nat) : Int) = some (V.str nm) := atI_nat rfl
    refine ⟨_, rfl, p, _, _, _, rfl, rfl, SqT.of hp, z0, aP, _, _, rfl, rfl, hk, ?_⟩
    refine ⟨_, rfl, _, rfl, p, _, rfl, .inr (SqT.of hp), _, rfl, _, _, rfl, rfl, _, rfl, p, _, rfl, SqT.of hp, hw, fun q hq => ?_⟩
    rw [hcut]
    refine ⟨q, ys, rfl, .inr (SqT.of upd_same), fun D hD => ?_⟩
    have s1 := same_new hq (.tup ys)
    exact k D ys _ (s1.trans (same_new hD _)) (s1.free hD) upd_same hys
end
/-! ## the class Tally -/
def tf (x : T3) : List (Str × V) := [("plays", .int x.p), ("rows", .int x.r), ("load", .int x.l)]
def tf1 (a : Int) : List (Str × V) := [("plays", .int a)]
def tf2 (a b : Int) : List (Str × V) := [("plays", .int a), ("rows", .int b)]
theorem put1 (a : Int) : putF "plays" (.int a) [] = tf1 a := rfl
theorem put2 (a b : Int) : putF "rows" (.int b) (tf1 a) = tf2 a b := by
  show (if ("plays" : Str) = "rows" then _ else _) = _
  rw [if_neg (by decide +kernel)]
  all_goals rfl
theorem put3 (a b c : Int) : putF "load" (.int c) (tf2 a b) = tf ⟨a, b, c⟩ := by
  show (if ("plays" : Str) = "load" then _ else (("plays" : Str), V.int a) :: (if ("rows" : Str) = "load" then _ else _)) = _
  rw [if_neg (by decide +kernel), if_neg (by decide +kernel)]
  all_goals rfl
theorem lk_p (x : T3) : (tf x).lookup ("plays" : Str) = some (.int x.p) := by
  unfold tf
  rw [List.lookup_cons_self]
theorem lk_r (x : T3) : (tf x).lookup ("rows" : Str) = some (.int x.r) := by
  unfold tf
  rw [List.lookup_cons, show (("rows" : Str) == "plays") = false from by decide +kernel]
  exact List.lookup_cons_self
theorem lk_l (x : T3) : (tf x).lookup ("load" : Str) = some (.int x.l) := by
  unfold tf
  rw [List.lookup_cons, show (("load" : Str) == "plays") = false from by decide +kernel]
  show List.lookup ("load" : Str) _ = _
  rw [List.lookup_cons, show (("load" : Str) == "rows") = false from by decide +kernel]
  exact List.lookup_cons_self
theorem lk_no {m : Str} (x : T3) (h1 : (m == ("plays" : Str)) = false) (h2 : (m == ("rows" : Str)) = false) (h3 : (m == ("load" : Str)) = false) : (tf x).lookup m = none := by
  unfold tf
  rw [List.lookup_cons, h1]
  show List.lookup m _ = _
  rw [List.lookup_cons, h2]
  show List.lookup m _ = _
  rw [List.lookup_cons, h3]
  rfl
def TalAt (C : Addr) (H : Hp) (q : Addr) (x : T3) : Prop := ∃ dx, H q = some (.ins C dx (tf x))
theorem TalAt.mono {C : Addr} {H H' : Hp} {q : Addr} {x : T3} (h : TalAt C H q x) (s : Same H H') : TalAt C H' q x := by
  obtain ⟨dx, e⟩ := h
  exact ⟨dx, s _ _ e⟩
theorem TalAt.but {C p : Addr} {H H' : Hp} {q : Addr} {x : T3} {u : HO} (h : TalAt C H q x) (s : But p H H') (hp : H p = some u) (hu : ∀ a b c, u ≠ .ins a b c) : TalAt C H' q x := by
  obtain ⟨dx, e⟩ := h
  exact ⟨dx, s _ _ (ne_of e hp (fun z => hu _ _ _ z.symm)) e⟩
structure TC (K : PySem.W.Frag) (mg : Str → Option Value) (C : Addr) : Prop where
  cl : Cls K C
  nP : NoAttr K C "plays"
  nR : NoAttr K C "rows"
  nL : NoAttr K C "load"
def spTInit (C : Addr) : Sp := fun vs H Q _ => ∃ (p dx : Addr) (a b c : Int), vs = [.ref p, .int a, .int b, .int c] ∧ H p = some (.ins C dx []) ∧ Q .non (L2.upd H p (.ins C dx (tf ⟨a, b, c⟩)))
/-- what a new Tally is: for the reading of Tally(..) -/
theorem mk_tal {C : Addr} {H : Hp} {Q : VK} {a b c : Int} (k : ∀ q H', Same H H' → H q = none → TalAt C H' q ⟨a, b, c⟩ → Q (.ref q) H') :
    ∀ x dx, H x = none → H dx = none → dx ≠ x → spTInit C (.ref x :: ([V.int a, V.int b, V.int c] ++ [])) (L2.upd (L2.upd H dx (.own x)) x (.ins C dx [])) (fun v H2 => v = .non ∧ Q (.ref x) H2) E0 := by
  intro x dx nx ndx ne
  refine ⟨x, dx, a, b, c, rfl, upd_same, rfl, ?_⟩
  refine k x _ (fun u o e => ?_) nx ⟨dx, upd_same⟩
  rw [upd_ne (ne_of_none e nx), upd_ne (ne_of_none e nx), upd_ne (ne_of_none e ndx)]
  exact e
/-- methods of two tallies, of a tally and a number -/
def spT2 (C : Addr) (g : T3 → T3 → T3) (ok : T3 → T3 → Prop) : Sp := fun vs H Q _ => ∃ (p q : Addr) (x y : T3), vs = [.ref p, .ref q] ∧ TalAt C H p x ∧ TalAt C H q y ∧ ok x y ∧ ∀ (z : Addr) (H' : Hp), Same H H' → H z = none → TalAt C H' z (g x y) → Q (.ref z) H'
def spT1 (C : Addr) (g : T3 → Int → T3) (ok : T3 → Int → Prop) : Sp := fun vs H Q _ => ∃ (p : Addr) (n : Int) (x : T3), vs = [.ref p, .int n] ∧ TalAt C H p x ∧ ok x n ∧ ∀ (z : Addr) (H' : Hp), Same H H' → H z = none → TalAt C H' z (g x n) → Q (.ref z) H'
def spTriple (C : Addr) : Sp := fun vs H Q _ => ∃ (p : Addr) (x : T3), vs = [.ref p] ∧ TalAt C H p x ∧ ∀ (t : Addr) (H' : Hp), Same H H' → H' t = some (.tup [.int x.p, .int x.r, .int x.l]) → Q (.ref t) H'
section
variable {P : Program} {w : World} {K : PySem.W.Frag} {mg : Str → Option Value} {base : Heap} {f aP C : Addr} {fd : FuncData}
theorem scTInit : FnScope ["self", "plays", "rows", "load"] ["self", "plays", "rows", "load"] (defScope sTInit) := ⟨rfl, rfl, rfl, by decide +kernel, rfl, by decide +kernel, by decide +kernel⟩
theorem ok_tinit (F : Fun K "__init__" "Tally.__init__" sTInit f fd) (T : TC K mg C) : FnOk P w K mg base CX0 1 f fd ["self", "plays", "rows", "load"] (spTInit C) := by
  refine F.ok scTInit (fun vs H Q E h => ?_) (fun cdv A outer s H vs Q E hr h => ?_)
  · obtain ⟨p, dx, a, b, c, rfl, _⟩ := h
    rfl
  · obtain ⟨p, dx, a, b, c, rfl, hp, k⟩ := h
    refine ⟨_, (pss_cons (ps_fld (pv 0) (pv 1) rfl)
      (pss_cons (ps_fld (pv 0) (pv 2) rfl)
      (pss_one (ps_fld (pv 0) (pv 3) rfl)))), ?_⟩
    refine ⟨_, rfl, _, rfl, p, C, dx, [], rfl, hp, T.cl, T.nP, (by show 0 < 1000; decide), ?_⟩
    rw [put1]
    refine ⟨_, rfl, _, rfl, p, C, dx, _, rfl, upd_same, T.cl, T.nR, (by show 1 < 1000; decide), ?_⟩
    rw [put2]
    refine ⟨_, rfl, _, rfl, p, C, dx, _, rfl, upd_same, T.cl, T.nL, (by show 2 < 1000; decide), ?_⟩
    rw [put3, upd_upd, upd_upd]
    exact k
theorem scTAdd : FnScope ["self", "other"] ["self", "other"] (defScope sTAdd) := ⟨rfl, rfl, rfl, by decide +kernel, rfl, by decide +kernel, by decide +kernel⟩
theorem ok_tadd (F : Fun K "__add__" "Tally.__add__" sTAdd f fd) (T : TC K mg C) (D_Tally : CDef P w K mg base C 1 "Tally" ["self", "plays", "rows", "load"] (spTInit C)) : FnOk P w K mg base CX0 3 f fd ["self", "other"] (spT2 C T3.add fun _ _ => True) := by
  refine F.ok scTAdd (fun vs H Q E h => ?_) (fun cdv A outer s H vs Q E hr h => ?_)
  · obtain ⟨p, q, x, y, rfl, _⟩ := h
    rfl
  · obtain ⟨p, q, x, y, rfl, ⟨dp, hp⟩, ⟨dq, hq⟩, _, k⟩ := h
    refine ⟨_, (pss_one (ps_ret (pe_mk D_Tally hr (pa_cons (pe_op op_add (pe_fld (pv 0) rfl) (pe_fld (pv 1) rfl)) (pa_cons (pe_op op_add (pe_fld (pv 0) rfl) (pe_fld (pv 1) rfl)) (pa_cons (pe_op op_add (pe_fld (pv 0) rfl) (pe_fld (pv 1) rfl)) pa_nil)))))), ?_⟩
    refine ⟨_, rfl, p, C, dp, _, _, rfl, hp, T.cl, T.nP, lk_p x, _, rfl, q, C, dq, _, _, rfl, hq, T.cl, T.nP, lk_p y, _, _, rfl, rfl, ?_⟩
    refine ⟨_, rfl, p, C, dp, _, _, rfl, hp, T.cl, T.nR, lk_r x, _, rfl, q, C, dq, _, _, rfl, hq, T.cl, T.nR, lk_r y, _, _, rfl, rfl, ?_⟩
    refine ⟨_, rfl, p, C, dp, _, _, rfl, hp, T.cl, T.nL, lk_l x, _, rfl, q, C, dq, _, _, rfl, hq, T.cl, T.nL, lk_l y, _, _, rfl, rfl, ?_⟩
    exact mk_tal fun z H' s n t => k z H' s n t
theorem scTMul : FnScope ["self", "other", "rows"] ["self", "other"] (defScope sTMul) := ⟨rfl, rfl, rfl, by decide +kernel, rfl, by decide +kernel, by decide +kernel⟩
theorem ok_tmul (F : Fun K "__mul__" "Tally.__mul__" sTMul f fd) (T : TC K mg C) (D_Tally : CDef P w K mg base C 1 "Tally" ["self", "plays", "rows", "load"] (spTInit C)) : FnOk P w K mg base CX0 3 f fd ["self", "other"] (spT2 C T3.mul fun x y => Sm x ∧ Sm y) := by
  refine F.ok scTMul (fun vs H Q E h => ?_) (fun cdv A outer s H vs Q E hr h => ?_)
  · obtain ⟨p, q, x, y, rfl, _⟩ := h
    rfl
  · obtain ⟨p, q, x, y, rfl, ⟨dp, hp⟩, ⟨dq, hq⟩, ⟨sx, sy⟩, k⟩ := h
    refine ⟨_, (pss_cons (ps_set (i := 2) scTMul.nd rfl (Or.inl rfl) (pe_op op_add (pe_op op_mulW (pe_fld (pv 0) rfl) (pe_fld (pv 1) rfl)) (pe_op op_mulW (pe_fld (pv 1) rfl) (pe_fld (pv 0) rfl))))
      (pss_one (ps_ret (pe_mk D_Tally hr (pa_cons (pe_op op_mulW (pe_fld (pv 0) rfl) (pe_fld (pv 1) rfl)) (pa_cons (pv 2) (pa_cons (pe_op op_add (pe_op op_mulW (pe_fld (pv 0) rfl) (pe_fld (pv 1) rfl)) (pe_op op_mulW (pe_fld (pv 1) rfl) (pe_fld (pv 0) rfl))) pa_nil))))))), ?_⟩
    refine ⟨_, rfl, p, C, dp, _, _, rfl, hp, T.cl, T.nR, lk_r x, _, rfl, q, C, dq, _, _, rfl, hq, T.cl, T.nP, lk_p y, _, _, rfl, rfl, wm sx.r sy.p, ?_⟩
    refine ⟨_, rfl, q, C, dq, _, _, rfl, hq, T.cl, T.nR, lk_r y, _, rfl, p, C, dp, _, _, rfl, hp, T.cl, T.nP, lk_p x, _, _, rfl, rfl, wm sy.r sx.p, _, _, rfl, rfl, ?_⟩
    refine ⟨_, rfl, p, C, dp, _, _, rfl, hp, T.cl, T.nP, lk_p x, _, rfl, q, C, dq, _, _, rfl, hq, T.cl, T.nP, lk_p y, _, _, rfl, rfl, wm sx.p sy.p, _, rfl, ?_⟩
    refine ⟨_, rfl, p, C, dp, _, _, rfl, hp, T.cl, T.nL, lk_l x, _, rfl, q, C, dq, _, _, rfl, hq, T.cl, T.nP, lk_p y, _, _, rfl, rfl, wm sx.l sy.p, ?_⟩
    refine ⟨_, rfl, q, C, dq, _, _, rfl, hq, T.cl, T.nL, lk_l y, _, rfl, p, C, dp, _, _, rfl, hp, T.cl, T.nP, lk_p x, _, _, rfl, rfl, wm sy.l sx.p, _, _, rfl, rfl, ?_⟩
    exact mk_tal fun z H' s n t => k z H' s n t
theorem scTTaller : FnScope ["self", "k"] ["self", "k"] (defScope sTTaller) := ⟨rfl, rfl, rfl, by decide +kernel, rfl, by decide +kernel, by decide +kernel⟩
theorem ok_ttaller (F : Fun K "taller" "Tally.taller" sTTaller f fd) (T : TC K mg C) (D_Tally : CDef P w K mg base C 1 "Tally" ["self", "plays", "rows", "load"] (spTInit C)) : FnOk P w K mg base CX0 3 f fd ["self", "k"] (spT1 C T3.up fun x n => CMulW n x.p) := by
  refine F.ok scTTaller (fun vs H Q E h => ?_) (fun cdv A outer s H vs Q E hr h => ?_)
  · obtain ⟨p, n, x, rfl, _⟩ := h
    rfl
  · obtain ⟨p, n, x, rfl, ⟨dp, hp⟩, ok, k⟩ := h
    refine ⟨_, (pss_one (ps_ret (pe_mk D_Tally hr (pa_cons (pe_fld (pv 0) rfl) (pa_cons (pe_op op_add (pe_fld (pv 0) rfl) (pe_op op_mulW (pv 1) (pe_fld (pv 0) rfl))) (pa_cons (pe_fld (pv 0) rfl) pa_nil)))))), ?_⟩
    refine ⟨_, rfl, p, C, dp, _, _, rfl, hp, T.cl, T.nP, lk_p x, ?_⟩
    refine ⟨_, rfl, p, C, dp, _, _, rfl, hp, T.cl, T.nR, lk_r x, _, rfl, _, rfl, p, C, dp, _, _, rfl, hp, T.cl, T.nP, lk_p x, _, _, rfl, rfl, ok, _, _, rfl, rfl, ?_⟩
    refine ⟨_, rfl, p, C, dp, _, _, rfl, hp, T.cl, T.nL, lk_l x, ?_⟩
    exact mk_tal fun z H' s n t => k z H' s n t
theorem scTCut : FnScope ["self", "factor"] ["self", "factor"] (defScope sTCut) := ⟨rfl, rfl, rfl, by decide +kernel, rfl, by decide +kernel, by decide +kernel⟩
theorem ok_tcut (F : Fun K "cut" "Tally.cut" sTCut f fd) (T : TC K mg C) (D_Tally : CDef P w K mg base C 1 "Tally" ["self", "plays", "rows", "load"] (spTInit C)) : FnOk P w K mg base CX0 3 f fd ["self", "factor"] (spT1 C T3.cutf fun x n => CMulW n (x.r - x.p)) := by
  refine F.ok scTCut (fun vs H Q E h => ?_) (fun cdv A outer s H vs Q E hr h => ?_)
  · obtain ⟨p, n, x, rfl, _⟩ := h
    rfl
  · obtain ⟨p, n, x, rfl, ⟨dp, hp⟩, ok, k⟩ := h
    refine ⟨_, (pss_one (ps_ret (pe_mk D_Tally hr (pa_cons (pe_fld (pv 0) rfl) (pa_cons (pe_fld (pv 0) rfl) (pa_cons (pe_op op_add (pe_fld (pv 0) rfl) (pe_op op_mulW (pv 1) (pe_op op_sub (pe_fld (pv 0) rfl) (pe_fld (pv 0) rfl)))) pa_nil)))))), ?_⟩
    refine ⟨_, rfl, p, C, dp, _, _, rfl, hp, T.cl, T.nP, lk_p x, ?_⟩
    refine ⟨_, rfl, p, C, dp, _, _, rfl, hp, T.cl, T.nR, lk_r x, ?_⟩
    refine ⟨_, rfl, p, C, dp, _, _, rfl, hp, T.cl, T.nL, lk_l x, _, rfl, _, rfl, p, C, dp, _, _, rfl, hp, T.cl, T.nR, lk_r x, _, rfl, p, C, dp, _, _, rfl, hp, T.cl, T.nP, lk_p x, _, _, rfl, rfl, _, _, rfl, rfl, ok, _, _, rfl, rfl, ?_⟩
    exact mk_tal fun z H' s n t => k z H' s n t
theorem scTTriple : FnScope ["self"] ["self"] (defScope sTTriple) := ⟨rfl, rfl, rfl, by decide +kernel, rfl, by decide +kernel, by decide +kernel⟩
theorem ok_ttriple (F : Fun K "triple" "Tally.triple" sTTriple f fd) (T : TC K mg C) : FnOk P w K mg base CX0 1 f fd ["self"] (spTriple C) := by
  refine F.ok scTTriple (fun vs H Q E h => ?_) (fun cdv A outer s H vs Q E hr h => ?_)
  · obtain ⟨p, x, rfl, _⟩ := h
    rfl
  · obtain ⟨p, x, rfl, ⟨dp, hp⟩, k⟩ := h
    refine ⟨_, (pss_one (ps_ret (pe_tup (pa_cons (pe_fld (pv 0) rfl) (pa_cons (pe_fld (pv 0) rfl) (pa_cons (pe_fld (pv 0) rfl) pa_nil)))))), ?_⟩
    refine ⟨_, rfl, p, C, dp, _, _, rfl, hp, T.cl, T.nP, lk_p x, _, rfl, p, C, dp, _, _, rfl, hp, T.cl, T.nR, lk_r x, _, rfl, p, C, dp, _, _, rfl, hp, T.cl, T.nL, lk_l x, small8 (by show 3 ≤ 8; decide), fun t ht => ?_⟩
    exact k t _ (same_new ht _) upd_same
end
end K77

namespace HL
open PySem L2
/-- x op y, both of the class at C, by its own method -/
def rOwn (C : Addr) (sp : Sp) : R2 := fun x y H Q => ∃ a b dx dy fs gs, x = .ref a ∧ y = .ref b ∧ H a = some (.ins C dx fs) ∧ H b = some (.ins C dy gs) ∧ sp [.ref a, .ref b] H Q E0
theorem op_own {X : Cx} {C f : Addr} {fd : FuncData} {k n : Nat} {m : Str} {ps : List Str} {sp : Sp} {op : Operator} (c : Cls X.K C) (hs : PySem.W.selfFirst X.K C = true) (D : MDef X.prog X.w X.K X.mg X.base C f fd k m ps sp) (hr : Room n X.A) (hk : k ≤ n := by first | decide | omega)
    (hm : PySem.dunder op.info.2 = m := by rfl) : OpR X (binaryOp op) (rOwn C sp) := by
  intro pins s σ H x y v u Q I rx ry h
  obtain ⟨a, b, dx, dy, fs, gs, rfl, rfl, ha, hb, q⟩ := h
  cases rx
  cases ry
  obtain ⟨mA, J, _⟩ := ins_get I.hok ha
  obtain ⟨od, J, _⟩ := J.look
  obtain ⟨mB, J2, _⟩ := ins_get I.hok hb
  obtain ⟨od2, J2, _⟩ := J2.look
  obtain ⟨m0, hF⟩ := I.fr
  subst hm
  refine PySem.W.binop_K hF I.ok.mod.kin J J2.type hs D.mt.at_ D.mt.fn ?_
  have r2 : Vals [V.ref a, V.ref b] [Value.ref a, Value.ref b] := .cons rfl (.cons rfl .nil)
  refine wpAny_mono (run_fn (vs := [V.ref a, V.ref b]) (D.ok.mono hk) hr D.b .nil pass0 I r2 q) (fun v' s' z => ?_) fun _ _ e => e
  obtain ⟨z, H', I', rz, qz⟩ := z
  exact SlX.cmpback rz ⟨z, H', I', rz, qz⟩
theorem made_same {H : Hp} {x dx : Addr} {o1 o2 o3 : HO} (nx : H x = none) (nd : H dx = none) : Same H (L2.upd (L2.upd (L2.upd H dx o1) x o2) x o3) := fun u o e => by
  rw [upd_ne (ne_of_none e nx), upd_ne (ne_of_none e nx), upd_ne (ne_of_none e nd)]
  exact e
end HL
namespace K77
open PySem L2 HL
abbrev sBT : Stmt := top 21
abbrev sBR : Stmt := top 24
structure TC2 (K : PySem.W.Frag) (mg : Str → Option Value) (C : Addr) : Prop extends TC K mg C where
  sf : PySem.W.selfFirst K C = true
def spBT (C : Addr) : Sp := fun vs H Q _ => ∃ (q : Addr) (v : V) (x : T3) (m : Md), vs = [.ref q, v] ∧ TalAt C H q x ∧ MdAt H v m ∧ cop m ≤ 400 ∧ Sm x ∧ Sm (box1 x m) ∧ (∀ k, k ≤ cop m → Sm ((box1 x m).pow k)) ∧ ∀ (z : Addr) (H' : Hp), Same H H' → TalAt C H' z (boxT x m) → Q (.ref z) H'
def spBR : Sp := fun vs H Q _ => ∃ (g : Int) (v : V) (m : Md), vs = [.int g, v] ∧ MdAt H v m ∧ cop m ≤ 400 ∧ Q (.int (boxR g m)) H
def spCopied (C : Addr) : Sp := fun vs H Q _ => ∃ (p : Addr) (n : Nat) (x : T3), vs = [.ref p, .int n] ∧ TalAt C H p x ∧ n ≤ 400 ∧ Sm x ∧ (∀ k, k ≤ n → Sm (x.pow k)) ∧ ∀ (z : Addr) (H' : Hp), Same H H' → TalAt C H' z (x.pow n) → Q (.ref z) H'
section
variable {P : Program} {w : World} {K : PySem.W.Frag} {mg : Str → Option Value} {base : Heap} {f fM aP C : Addr} {fd fdM : FuncData}
theorem scTCopied : FnScope ["self", "n", "total", "_"] ["self", "n"] (defScope sTCopied) := ⟨rfl, rfl, rfl, by decide +kernel, rfl, by decide +kernel, by decide +kernel⟩
theorem ok_copied (F : Fun K "copied" "Tally.copied" sTCopied f fd) (T : Txt mg) (TT : TC2 K mg C) (D_Tally : CDef P w K mg base C 1 "Tally" ["self", "plays", "rows", "load"] (spTInit C))
    (D_mul : MDef P w K mg base C fM fdM 3 "__mul__" ["self", "other"] (spT2 C T3.mul fun x y => Sm x ∧ Sm y)) : FnOk P w K mg base CX0 4 f fd ["self", "n"] (spCopied C) := by
  refine F.ok scTCopied (fun vs H Q E h => ?_) (fun cdv A outer s H vs Q E hr h => ?_)
  · obtain ⟨p, n, x, rfl, _⟩ := h
    rfl
  · obtain ⟨p, n, x, rfl, hp, hn, sx, hs, k⟩ := h
    refine ⟨_, (pss_cons (ps_set (i := 2) scTCopied.nd rfl (Or.inl rfl) (pe_mk D_Tally hr (pa_cons pe_int (pa_cons pe_int (pa_cons pe_int pa_nil)))))
      (pss_cons (ps_for PassesOwn.never rfl (pi_range1 rfl T.range (pa_cons (pv 1) pa_nil)) (pg_name (i := 3) scTCopied.nd rfl (Or.inl rfl))
      (pss_one (ps_set (i := 2) scTCopied.nd rfl (Or.inl rfl) (pe_op (op_own TT.cl TT.sf D_mul hr) (pv 2) (pv 0)))))
      (pss_one (ps_ret (pv 2))))), ?_⟩
    intro z dz nz ndz ne
    refine ⟨z, dz, 1, 0, 0, rfl, upd_same, rfl, ?_⟩
    have s1 := made_same (o1 := .own z) (o2 := .ins C dz []) (o3 := .ins C dz (tf ⟨1, 0, 0⟩)) nz ndz
    have t1 : TalAt C _ z ⟨1, 0, 0⟩ := ⟨dz, upd_same (H := L2.upd (L2.upd H dz (.own z)) z (.ins C dz []))⟩
    generalize L2.upd (L2.upd (L2.upd H dz (.own z)) z (.ins C dz [])) z (.ins C dz (tf ⟨1, 0, 0⟩)) = H1 at s1 t1 ⊢
    have hp1 := hp.mono s1
    refine ⟨_, rfl, _, rfl, ?_, ?_, for_range (lo := 0) (n := ((n : Nat) : Int).toNat) (fun i σ H' => ∃ (q : Addr) (kk : Option V), σ = [some (.ref p), some (.int n), some (.ref q), kk] ∧ Same H1 H' ∧ TalAt C H' q (x.pow i)) ⟨z, none, rfl, Same.refl _, t1⟩ ?_ ?_⟩
    · have : (0 : Int) < 2 ^ 62 := by decide
      omega
    · have : (1000 : Int) < 2 ^ 62 := by decide
      omega
    · rintro i σ H2 hi ⟨q, kk, rfl, s2, t2⟩
      rw [Int.toNat_natCast] at hi
      obtain ⟨dq, hq⟩ := id t2
      obtain ⟨dp, hp2⟩ := id (hp1.mono s2)
      refine ⟨_, rfl, _, rfl, q, p, dq, dp, _, _, rfl, rfl, hq, hp2, q, p, _, _, rfl, t2, hp1.mono s2, ⟨hs i (by omega), sx⟩, fun y H3 s3 _ t3 => ?_⟩
      exact ⟨y, _, rfl, s2.trans s3, t3⟩
    · rintro σ H2 ⟨q, kk, rfl, s2, t2⟩
      rw [Int.toNat_natCast] at t2
      refine ⟨_, rfl, ?_⟩
      exact k q H2 (s1.trans s2) t2
theorem scBT : FnScope ["found", "kind"] ["found", "kind"] (defScope sBT) := ⟨rfl, rfl, rfl, by decide +kernel, rfl, by decide +kernel, by decide +kernel⟩
theorem ok_bt {f2 f3 : Addr} {fd2 fd3 : FuncData} (A : At K mg "boxed_tally" sBT ["found", "kind"] f fd) (TT : TC2 K mg C)
    (D_Tally_taller : MDef P w K mg base C f2 fd2 3 "taller" ["self", "k"] (spT1 C T3.up fun x n => CMulW n x.p)) (D_copied : MDef P w K mg base C f3 fd3 4 "copied" ["self", "n"] (spCopied C)) : FnOk P w K mg base CX0 5 f fd ["found", "kind"] (spBT C) := by
  have D_Tally_copied := D_copied
  refine A.fn.ok scBT (fun vs H Q E h => ?_) (fun cdv A outer s H vs Q E hr h => ?_)
  · obtain ⟨q, v, x, m, rfl, _⟩ := h
    rfl
  · obtain ⟨q, v, x, m, rfl, hq, hm, hc, sx, hs1, hs, k⟩ := h
    refine ⟨_, (pss_cons (ps_if (pt_cmpR (op_eqD hr.units) (pv 1) pe_str (nomark _))
      (pss_one (ps_ret (pv 0)))
      pss_nil)
      (pss_one (ps_ret (pe_meth (pe_meth (pv 0) TT.cl D_Tally_taller.mt (D_Tally_taller.ok.mono (by first | decide | omega)) hr D_Tally_taller.b .nil pass0 (pa_cons pe_int pa_nil)) TT.cl D_Tally_copied.mt (D_Tally_copied.ok.mono (by first | decide | omega)) hr D_Tally_copied.b .nil pass0 (pa_cons (pe_ix ix_tup (pv 1) pe_int (fun _ _ => rfl)) pa_nil))))), ?_⟩
    obtain ⟨dd, e1, e2, e3⟩ := hm.dp (K := K)
    refine ⟨_, rfl, dd, _, e1, once_dp, e2, once_shaped, isOnce m, by rw [e3], ?_⟩
    cases m with
    | once =>
      refine iteT ?_
      refine ⟨_, rfl, ?_⟩
      exact k q H (Same.refl _) hq
    | st n d =>
      refine iteF ?_
      obtain ⟨t, rfl, ht⟩ := hm
      obtain ⟨dq, hq'⟩ := id hq
      refine ⟨_, rfl, q, dq, _, rfl, hq', lk_no x (by decide +kernel) (by decide +kernel) (by decide +kernel), q, 1, x, rfl, hq, wide_mul (a := 1) (b := 4000) (by decide) sx.p (by decide) (by decide) (by decide), fun z H1 s1 _ t1 => ?_⟩
      obtain ⟨dz, hz⟩ := id t1
      refine ⟨z, dz, _, rfl, hz, lk_no _ (by decide +kernel) (by decide +kernel) (by decide +kernel), _, rfl, t, _, _, _, rfl, rfl, SqT.of (s1 _ _ ht), rfl, z, n, _, rfl, t1, hc, hs1, fun j hj => hs j hj, fun y H2 s2 t2 => ?_⟩
      exact k y H2 (s1.trans s2) t2
theorem scBR : FnScope ["rows", "kind"] ["rows", "kind"] (defScope sBR) := ⟨rfl, rfl, rfl, by decide +kernel, rfl, by decide +kernel, by decide +kernel⟩
theorem ok_br (A : At K mg "boxed_rows" sBR ["rows", "kind"] f fd) : FnOk P w K mg base CX0 1 f fd ["rows", "kind"] spBR := by
  refine A.fn.ok scBR (fun vs H Q E h => ?_) (fun cdv A outer s H vs Q E hr h => ?_)
  · obtain ⟨g, v, m, rfl, _⟩ := h
    rfl
  · obtain ⟨g, v, m, rfl, hm, hc, k⟩ := h
    refine ⟨_, (pss_cons (ps_if (pt_cmpR (op_eqD hr.units) (pv 1) pe_str (nomark _))
      (pss_one (ps_ret (pv 0)))
      pss_nil)
      (pss_one (ps_ret (pe_op op_mul (pe_ix ix_tup (pv 1) pe_int (fun _ _ => rfl)) (pe_op op_add (pv 0) pe_int))))), ?_⟩
    obtain ⟨dd, e1, e2, e3⟩ := hm.dp (K := K)
    refine ⟨_, rfl, dd, _, e1, once_dp, e2, once_shaped, isOnce m, by rw [e3], ?_⟩
    cases m with
    | once =>
      refine iteT ?_
      exact ⟨_, rfl, k⟩
    | st n d =>
      refine iteF ?_
      obtain ⟨t, rfl, ht⟩ := hm
      have hc' : n ≤ 400 := hc
      refine ⟨_, rfl, t, _, _, _, rfl, rfl, SqT.of ht, rfl, _, rfl, _, _, rfl, rfl, _, _, rfl, rfl, .inl ⟨by omega, by omega⟩, ?_⟩
      exact k
end
end K77

namespace HL
open PySem PySem.Calls PySem.Spec PyProof.Rows PyProof.V L2
/-- an iterator over the keys of the locked dict at d, at its start -/
def KIt (p d : Addr) (od : Obj) : HO := HO.ext fun h => ∃ (es : Array DictEntry) (ep : Nat), od.data = .dict es ep ∧ h.get? p = some { cls := .type "dict_keyiterator", data := .fields #[.ref d, .int 0 0, .int es.size 0, .int ep 0] }
/-- some object -/
def Some1 (p : Addr) : HO := HO.ext fun h => ∃ o, h.get? p = some o
section
variable {X : Cx}
theorem call_iterK : CallR X (.builtin "iter") (fun xs H Q => ∃ d od kvs, xs = [.ref d] ∧ H d = some (.frz od (.dK kvs)) ∧ ∀ p, H p = none → Q (.ref p) (upd H p (KIt p d od))) := by
  intro pins s σ H xs us Q I r h
  obtain ⟨d, od, kvs, rfl, hd, q⟩ := h
  obtain ⟨u, rfl, rx⟩ := vals1 r
  cases rx
  obtain ⟨hs, hgd, hx, es, ep, vs, hdt, hsz, kv, hm⟩ := I.frzK hd
  refine call_function_entry (by decide +kernel) (by decide +kernel) PySem.W.kdk_entry_iter (PySem.W.kdk_args_iter _) ?_
  unfold Builtin.«iter»
  refine wpAny_bind (m := someArgs "iter" 1 2 _) (wpAny_of_eq (a := [Value.ref d]) (by first | rfl | kernel_rfl!) ?_)
  show wpAny _ _ (pyIter (.ref d) >>= _) _ _ _
  refine wpAny_bind (iter_keys hs hgd hx hdt ?_)
  refine wpAny_pure ⟨_, rfl, .ref s.heap.objs.size, _, I.laid (a := s.heap.objs.size) (o := KIt s.heap.objs.size d od) (t' := s.toks) (fun b o e => Heap.get?_push_of_some _ e) (Nat.le_refl _) ?_, rfl, q _ (I.hok.fresh (Nat.le_refl _))⟩
  refine ⟨⟨es, ep, hdt, Heap.get?_push_size _ rfl⟩, ⟨_, Heap.get?_push_size _ rfl⟩, fun h1 h2 z k => ?_⟩
  obtain ⟨es', ep', e1, e2⟩ := z
  exact ⟨es', ep', e1, k _ e2⟩
/-- the turn that ends a walk over an empty dict's keys: the iterator is still there -/
theorem key_end {prog : Program} {w : World} {A : Around} {E : Value → Shared → Prop} {s : Shared} {it d : Addr} {ep : Nat} {od : Obj} {es : Array DictEntry} {Q : Option Value → Shared → Prop} (hh : A.handled = none) (hit : s.heap.IsKeyIter it d 0 es.size ep)
    (hod : s.heap.get? d = some od) (hdd : od.data = .dict es ep) (h0 : es.size = 0) (hQ : ∀ h', Heap.ExtBut it s.heap h' → (∃ o, h'.get? it = some o) → Q none { s with heap := h' }) : wpAny (model prog w) A (pyNext (.ref it)) Q E s := by
  obtain ⟨o, ho, hc, hd⟩ := id hit
  have hown : Builtin.Dict_items.ownsTuple "dict_keyiterator" = false := by decide
  have nn : ¬ ((Value.ref d == Value.none) = true) := Bool.false_ne_true
  unfold pyNext
  refine wpAny_bind (wpAny_attempt (wpAny_callSpecial?_slot (name := Str.ofString "__next__") hit.typeIs F.slot_dict_keyiterator_next (wpAny_call_entry F.slot_dict_keyiterator_next hit.typeIs F.entry_dict_keyiterator_next ?_ (F.args_dict_keyiterator_next_1 _))))
  refine wpAny_bind (wpAny_pure (wpAny_bind (wpAny_bind ?_)))
  first | refine wpAny_bind (wpAny_typeNameOfWhole_keyiter hit.typeIs (wpAny_pure ?_)) | refine wpAny_bind (wpAny_typeNameOf_keyiter hit.typeIs (wpAny_pure ?_))
  refine wpAny_bind (wpAny_fieldsOf ho hd ?_)
  simp only [hown, Bool.false_eq_true, if_false]
  show wpAny _ _ (if (Value.ref d == Value.none) = true then _ else _) _ _ s
  rw [if_neg nn]
  refine wpAny_bind (wpAny_pure (wpAny_bind (wpAny_dictEntries hod hdd ?_)))
  rw [if_neg (by simp)]
  refine wpAny_bind (wpAny_pure (wpAny_bind (wpAny_dictEpoch hod hdd ?_)))
  rw [if_neg (by simp)]
  refine wpAny_pure ?_
  have e0 : es[0]? = none := Array.getElem?_eq_none (by omega)
  simp only [show ¬ (((0 : Nat) : Int) < 0) from by omega, if_false, Int.toNat_natCast, e0]
  refine wpAny_bind ?_
  first | refine wpAny_bind (wpAny_typeNameOfWhole_keyiter hit.typeIs (wpAny_pure ?_)) | refine wpAny_bind (wpAny_typeNameOf_keyiter hit.typeIs (wpAny_pure ?_))
  show wpAny _ _ (setField (.ref it) 0 .none >>= _) _ _ s
  refine wpAny_bind (wpAny_setField ho hd (by simp) ?_)
  show wpAny _ _ (newExc (.type "StopIteration") [] >>= _) _ _ _
  refine wpAny_bind ?_
  simp only [newExc, newTuple]
  refine wpAny_bind (wpAny_newObj_type ?_ (by size_fits))
  refine wpAny_bind (m := firstArgMember _ _) (wpAny_of_eq (a := Value.none) (by first | rfl | (simp only [firstArgMember]; rfl)) (wpAny_newObj_type ?_ (by size_fits)))
  simp only [raiseNew]
  refine wpAny_bind (wpAny_handled ?_)
  rw [show A.in1.handled = none from hh]
  refine wpAny_bind (wpAny_pure (wpAny_throw ?_))
  refine wpAny_bind (wpAny_isInstance (T := "StopIteration") (b := true) ⟨_, Heap.get?_push_size _ rfl, rfl⟩ isSubtype_stop ?_)
  refine wpAny_pure (hQ _ (((Heap.SameBut.update ..).extBut.push _).push _) ?_)
  exact ⟨_, Heap.get?_push_of_some _ (Heap.get?_push_of_some _ (Heap.get?_update_self _ ho (Obj.isFreed_of_fields (Obj.data_mapFields hd _))))⟩
/-- for x in o, o of the own class at C, whose __iter__ hands back an iterator over an empty dict -/
def tFor0 (C : Addr) (sp : Sp) (te : TE) : TS := fun D σ H => te σ H fun v H1 => ∃ a dx fs, v = .ref a ∧ H1 a = some (.ins C dx fs) ∧
  sp [.ref a] H1 (fun z H2 => ∃ p d od, z = .ref p ∧ H2 d = some (.frz od (.dK [])) ∧ H2 p = some (KIt p d od) ∧ D.nx σ (upd H2 p (Some1 p))) E0
theorem ps_for0 {C f : Addr} {fd : FuncData} {k n : Nat} {ps : List Str} {sp : Sp} {iter tg : Expr} {body : List Stmt} {te : TE} {pos : Pos} (hp : PassesOwn (model X.prog X.w) X.A X.env X.xe) (hc : X.calm = true)
    (D : MDef X.prog X.w X.K X.mg X.base C f fd k "__iter__" ps sp) (hr : Room n X.A) (he : PE X iter te) (hk : k ≤ n := by first | decide | omega)
    (hs : ∀ x, foldedSetIterable iter X.env x = pure x := by intro _; rfl) : PS X (.For tg iter body [] pos) (tFor0 C sp te) := by
  refine ⟨fun pins s σ H Dn I h => ?_⟩
  refine wpAny_For (thn (he.run pins s σ H _ I h) fun v s1 h1 => ?_) hs
  obtain ⟨x, H1, I1, rx, a, dx, fs, rfl, ha, q⟩ := h1
  cases rx
  obtain ⟨mA, J, _⟩ := ins_get I1.hok ha
  obtain ⟨od0, J, _⟩ := J.look
  obtain ⟨m0, hF⟩ := I1.fr
  refine PySem.W.owit_iter hF I1.ok.mod.kin J D.mt.at_ D.mt.fn ?_
  have r2 : Vals [V.ref a] [Value.ref a] := .cons rfl .nil
  refine wpAny_mono (run_fn (vs := [V.ref a]) (D.ok.mono hk) hr D.b .nil pass0 I1 r2 q) (fun v' s' z => ?_) fun _ _ e => e
  obtain ⟨z, H2, I2, rz, p, d, od, rfl, hd, hpp, qn⟩ := z
  cases rz
  obtain ⟨⟨es, ep, hdt, hit⟩, _, _⟩ := I2.hok p _ hpp
  have hit' : s'.heap.IsKeyIter p d 0 es.size ep := ⟨_, hit, rfl, rfl⟩
  unfold PySem.W.OwitIt
  refine wpAny_specialOf hit'.typeIs PySem.F.slot_dict_keyiterator_next.lookup ?_
  refine codeAny_forLoop_any (fun n s' => ∃ H', Inv X pins σ H' s' ∧ H' = H2) ?_ 0 ⟨H2, I2, rfl⟩
  rintro n s3 ⟨H3, I3, rfl⟩
  obtain ⟨⟨es', ep', hdt', hit3⟩, _, _⟩ := I3.hok p _ hpp
  obtain ⟨hs3, hgd3, hx3, es4, ep4, vs4, hdt4, hsz4, _, _⟩ := I3.frzK hd
  rw [hdt4] at hdt'
  cases hdt'
  have hit4 : s3.heap.IsKeyIter p d 0 es'.size ep' := ⟨_, hit3, rfl, rfl⟩
  refine wpAny_passesOwn hp (thn (Q := fun r s4 => r = none ∧ Inv X pins σ (upd H3 p (Some1 p)) s4) ?_ fun r s4 ⟨hr, I4⟩ => ?_)
  · have z0 : es'.size = 0 := by rw [hsz4]; rfl
    refine key_end (I3.ok.hd hc) hit4 hgd3 hdt4 z0 fun h' eb th => ⟨rfl, ?_⟩
    exact I3.write (x := p) (e := p) (t' := s3.toks) (by rw [hpp]; trivial) (.inl rfl) (fun b u hb e => eb b u hb e) th ⟨th, th, fun h1 h2 z k => let ⟨o, e⟩ := z; ⟨o, k _ e⟩⟩
  · subst hr
    exact wpAny_execs_nil ⟨σ, _, I4, qn⟩
end
end HL

namespace K77
open PySem L2 HL
abbrev sLInit : Stmt := inClass (top 34) 0
abbrev sLIter : Stmt := inClass (top 34) 3
abbrev sMakes : Stmt := inClass (top 34) 4
abbrev sOpens : Stmt := inClass (top 34) 5
abbrev sENames : Stmt := inClass (top 34) 7
abbrev sRank : Stmt := top 7
abbrev sWRank : Stmt := top 8
abbrev sGRank : Stmt := top 9
/-! ## the empty library -/
def lf1 : List (Str × V) := [("changes", .int 0)]
def lf2 (a : Addr) : List (Str × V) := [("changes", .int 0), ("_words", .ref a)]
def lf3 (a b : Addr) : List (Str × V) := [("changes", .int 0), ("_words", .ref a), ("_meetings", .ref b)]
def lf (a b c : Addr) : List (Str × V) := [("changes", .int 0), ("_words", .ref a), ("_meetings", .ref b), ("_entries", .ref c)]
theorem lput2 (a : Addr) : putF "_words" (.ref a) lf1 = lf2 a := by
  show (if ("changes" : Str) = "_words" then _ else _) = _
  rw [if_neg (by decide +kernel)]
  all_goals rfl
theorem lput3 (a b : Addr) : putF "_meetings" (.ref b) (lf2 a) = lf3 a b := by
  show (if ("changes" : Str) = "_meetings" then _ else (("changes" : Str), V.int 0) :: (if ("_words" : Str) = "_meetings" then _ else _)) = _
  rw [if_neg (by decide +kernel), if_neg (by decide +kernel)]
  all_goals rfl
theorem lput4 (a b c : Addr) : putF "_entries" (.ref c) (lf3 a b) = lf a b c := by
  show (if ("changes" : Str) = "_entries" then _ else (("changes" : Str), V.int 0) :: (if ("_words" : Str) = "_entries" then _ else (("_words" : Str), V.ref a) :: (if ("_meetings" : Str) = "_entries" then _ else _))) = _
  rw [if_neg (by decide +kernel), if_neg (by decide +kernel), if_neg (by decide +kernel)]
  all_goals rfl
theorem lk_w (a b c : Addr) : (lf a b c).lookup ("_words" : Str) = some (.ref a) := by
  unfold lf
  rw [List.lookup_cons, show (("_words" : Str) == "changes") = false from by decide +kernel]
  exact List.lookup_cons_self
theorem lk_e (a b c : Addr) : (lf a b c).lookup ("_entries" : Str) = some (.ref c) := by
  unfold lf
  rw [List.lookup_cons, show (("_entries" : Str) == "changes") = false from by decide +kernel]
  show List.lookup ("_entries" : Str) _ = _
  rw [List.lookup_cons, show (("_entries" : Str) == "_words") = false from by decide +kernel]
  show List.lookup ("_entries" : Str) _ = _
  rw [List.lookup_cons, show (("_entries" : Str) == "_meetings") = false from by decide +kernel]
  exact List.lookup_cons_self
theorem llk_no {m : Str} (a b c : Addr) (h1 : (m == ("changes" : Str)) = false) (h2 : (m == ("_words" : Str)) = false) (h3 : (m == ("_meetings" : Str)) = false) (h4 : (m == ("_entries" : Str)) = false) : (lf a b c).lookup m = none := by
  unfold lf
  rw [List.lookup_cons, h1]
  show List.lookup m _ = _
  rw [List.lookup_cons, h2]
  show List.lookup m _ = _
  rw [List.lookup_cons, h3]
  show List.lookup m _ = _
  rw [List.lookup_cons, h4]
  rfl
structure LibAt (C : Addr) (H : Hp) (q a b c : Addr) : Prop where
  ob : ∃ dx, H q = some (.ins C dx (lf a b c))
  w : H a = some (.dK [])
  m : H b = some (.dK [])
  e : H c = some (.dK [])
theorem LibAt.mono {C : Addr} {H H' : Hp} {q a b c : Addr} (h : LibAt C H q a b c) (s : Same H H') : LibAt C H' q a b c := by
  obtain ⟨⟨dx, h1⟩, h2, h3, h4⟩ := h
  exact ⟨⟨dx, s _ _ h1⟩, s _ _ h2, s _ _ h3, s _ _ h4⟩
/-- p is none of the library's dicts -/
def Off (p a b c : Addr) : Prop := a ≠ p ∧ b ≠ p ∧ c ≠ p
theorem LibAt.but {C p : Addr} {H H' : Hp} {q a b c : Addr} {kvs : List (Key × V)} (h : LibAt C H q a b c) (s : But p H H') (hp : H p = some (.dK kvs)) (o : Off p a b c) : LibAt C H' q a b c := by
  obtain ⟨⟨dx, h1⟩, h2, h3, h4⟩ := h
  exact ⟨⟨dx, s _ _ (ne_of h1 hp (by intro z; cases z)) h1⟩, s _ _ o.1 h2, s _ _ o.2.1 h3, s _ _ o.2.2 h4⟩
structure LC (K : PySem.W.Frag) (C : Addr) : Prop where
  cl : Cls K C
  n0 : NoAttr K C "changes"
  nW : NoAttr K C "_words"
  nM : NoAttr K C "_meetings"
  nE : NoAttr K C "_entries"
def spLInit (C : Addr) : Sp := fun vs H Q _ => ∃ (p dx : Addr), vs = [.ref p] ∧ H p = some (.ins C dx []) ∧ ∀ (a b c : Addr) (H' : Hp), (∀ u o, u ≠ p → H u = some o → H' u = some o) → H a = none → H b = none → H c = none → LibAt C H' p a b c → Q .non H'
def spNewL (C : Addr) : Sp := fun vs H Q _ => ∃ (q a b c : Addr) (n : Str), vs = [.ref q, .str n] ∧ LibAt C H q a b c ∧ ∀ (D : Addr) (H' : Hp), Same H H' → H D = none → H' D = some (.lst []) → Q (.ref D) H'
def spENames (C : Addr) : Sp := fun vs H Q _ => ∃ (q a b c : Addr), vs = [.ref q] ∧ LibAt C H q a b c ∧ ∀ (D : Addr) (H' : Hp), Same H H' → H D = none → H' D = some (.lst []) → Q (.ref D) H'
def spLIter (C : Addr) : Sp := fun vs H Q _ => ∃ (q a b c : Addr) (od : Obj) (dx : Addr), vs = [.ref q] ∧ H q = some (.ins C dx (lf a b c)) ∧ H a = some (.frz od (.dK [])) ∧ ∀ p, H p = none → Q (.ref p) (L2.upd H p (KIt p a od))
def RkAt (H : Hp) (d : Addr) : Prop := H d = some (.dK []) ∨ H d = some (.dK [(Sum.inr "p", .int 1)])
theorem RkAt.ex {H : Hp} {d : Addr} (h : RkAt H d) : ∃ kvs : List (Key × V), H d = some (.dK kvs) := by
  rcases h with h | h
  · exact ⟨_, h⟩
  · exact ⟨_, h⟩
def spGRank : Sp := fun vs H Q _ => ∃ (l k : V) (D : Addr), vs = [l, .ref D, k] ∧ H D = some (.lst []) ∧ Q (.int 0) H
def spWRank (C : Addr) : Sp := fun vs H Q _ => ∃ (q a b c d : Addr), vs = [.ref q, .str "p", .ref d] ∧ LibAt C H q a b c ∧ RkAt H d ∧ Off d a b c ∧ ∀ (H' : Hp), But d H H' → RkAt H' d → Q (.int 1) H'
def sdep : Sn → Nat
  | .p => 0
  | .pp => 1
def spRank (C : Addr) (n : Nat) : Sp := fun vs H Q _ => ∃ (q a b c d : Addr) (v : V) (s : Sn), vs = [.ref q, v, .ref d] ∧ LibAt C H q a b c ∧ RkAt H d ∧ Off d a b c ∧ SnAt H v s ∧ sdep s < n ∧ ∀ (H' : Hp), But d H H' → RkAt H' d → Q (.int 1) H'
section
variable {P : Program} {w : World} {K : PySem.W.Frag} {mg : Str → Option Value} {base : Heap} {f fM aP C : Addr} {fd fdM : FuncData}
theorem scLInit : FnScope ["self"] ["self"] (defScope sLInit) := ⟨rfl, rfl, rfl, by decide +kernel, rfl, by decide +kernel, by decide +kernel⟩
theorem ok_linit (F : Fun K "__init__" "Library.__init__" sLInit f fd) (T : LC K C) : FnOk P w K mg base CX0 1 f fd ["self"] (spLInit C) := by
  refine F.ok scLInit (fun vs H Q E h => ?_) (fun cdv A outer s H vs Q E hr h => ?_)
  · obtain ⟨p, dx, rfl, _⟩ := h
    rfl
  · obtain ⟨p, dx, rfl, hp, k⟩ := h
    refine ⟨_, (pss_cons (ps_fld (pv 0) pe_int rfl)
      (pss_cons (ps_fld (pv 0) pe_dnewK rfl)
      (pss_cons (ps_fld (pv 0) pe_dnewK rfl)
      (pss_one (ps_fld (pv 0) pe_dnewK rfl))))), ?_⟩
    refine ⟨_, rfl, p, C, dx, [], rfl, hp, T.cl, T.n0, (by show 0 < 1000; decide), ?_⟩
    intro a ha
    have hn : ∀ {z : Addr}, (L2.upd H p (.ins C dx (putF "changes" (.int 0) []))) z = none → p ≠ z ∧ H z = none := fun {z} e => by
      by_cases y : p = z
      · subst y; rw [upd_same] at e; cases e
      · exact ⟨y, by rw [upd_ne (Ne.symm y)] at e; exact e⟩
    obtain ⟨pa, na⟩ := hn ha
    refine ⟨_, rfl, p, C, dx, lf1, rfl, (by rw [upd_ne pa]; exact upd_same), T.cl, T.nW, (by show 1 < 1000; decide), ?_⟩
    rw [lput2]
    intro b hb
    have pb : p ≠ b := fun y => by subst y; rw [upd_same] at hb; cases hb
    rw [upd_ne (Ne.symm pb)] at hb
    have ab : a ≠ b := fun y => by subst y; rw [upd_same] at hb; cases hb
    rw [upd_ne (Ne.symm ab), upd_ne (Ne.symm pb)] at hb
    refine ⟨_, rfl, p, C, dx, lf2 a, rfl, (by rw [upd_ne pb]; exact upd_same), T.cl, T.nM, (by show 2 < 1000; decide), ?_⟩
    rw [lput3]
    intro c hc
    have pc : p ≠ c := fun y => by subst y; rw [upd_same] at hc; cases hc
    rw [upd_ne (Ne.symm pc)] at hc
    have bc : b ≠ c := fun y => by subst y; rw [upd_same] at hc; cases hc
    rw [upd_ne (Ne.symm bc), upd_ne (Ne.symm pc)] at hc
    have ac : a ≠ c := fun y => by subst y; rw [upd_same] at hc; cases hc
    rw [upd_ne (Ne.symm ac), upd_ne (Ne.symm pc)] at hc
    refine ⟨_, rfl, p, C, dx, lf3 a b, rfl, (by rw [upd_ne pc]; exact upd_same), T.cl, T.nE, (by show 3 < 1000; decide), ?_⟩
    rw [lput4]
    refine k a b c _ (fun u o hu e => ?_) na hb hc ⟨⟨dx, upd_same⟩, ?_, ?_, ?_⟩
    · have ua := ne_of_none e na
      have ub := ne_of_none e hb
      have uc := ne_of_none e hc
      simp only [upd_ne hu, upd_ne ua, upd_ne ub, upd_ne uc]
      exact e
    · simp only [upd_ne (Ne.symm pa), upd_ne ac, upd_ne ab, upd_same]
    · simp only [upd_ne (Ne.symm pb), upd_ne bc, upd_same]
    · simp only [upd_ne (Ne.symm pc), upd_same]
theorem scMakes : FnScope ["self", "name"] ["self", "name"] (defScope sMakes) := ⟨rfl, rfl, rfl, by decide +kernel, rfl, by decide +kernel, by decide +kernel⟩
theorem ok_makes (F : Fun K "makes_of" "Library.makes_of" sMakes f fd) (T : LC K C) : FnOk P w K mg base CX0 1 f fd ["self", "name"] (spNewL C) := by
  refine F.ok scMakes (fun vs H Q E h => ?_) (fun cdv A outer s H vs Q E hr h => ?_)
  · obtain ⟨q, a, b, c, n, rfl, _⟩ := h
    rfl
  · obtain ⟨q, a, b, c, n, rfl, ⟨⟨dx, hq⟩, ha, hb, hc⟩, k⟩ := h
    have hu := hu_of hr
    refine ⟨_, (pss_cons (ps_if (pt_cmp (pc_dnotin hu (pv 1) (pe_fld (pv 0) rfl)))
      (pss_one (ps_ret (pe_lst pa_nil)))
      pss_nil)
      (pss_one ps_never)), ?_⟩
    refine ⟨_, rfl, _, rfl, q, C, dx, _, _, rfl, hq, T.cl, T.nW, lk_w a b c, a, _, rfl, DGet.k (k := Sum.inr n) ha, _, rfl, ?_⟩
    refine iteT ⟨small8 (by show 0 ≤ 8; decide), fun D hD => ?_⟩
    exact k D _ (same_new hD _) hD upd_same
theorem scOpens : FnScope ["self", "name"] ["self", "name"] (defScope sOpens) := ⟨rfl, rfl, rfl, by decide +kernel, rfl, by decide +kernel, by decide +kernel⟩
theorem ok_opens (F : Fun K "opens_of" "Library.opens_of" sOpens f fd) (T : LC K C) : FnOk P w K mg base CX0 1 f fd ["self", "name"] (spNewL C) := by
  refine F.ok scOpens (fun vs H Q E h => ?_) (fun cdv A outer s H vs Q E hr h => ?_)
  · obtain ⟨q, a, b, c, n, rfl, _⟩ := h
    rfl
  · obtain ⟨q, a, b, c, n, rfl, ⟨⟨dx, hq⟩, ha, hb, hc⟩, k⟩ := h
    have hu := hu_of hr
    refine ⟨_, (pss_cons (ps_if (pt_cmp (pc_dnotin hu (pv 1) (pe_fld (pv 0) rfl)))
      (pss_one (ps_ret (pe_lst pa_nil)))
      pss_nil)
      (pss_one ps_never)), ?_⟩
    refine ⟨_, rfl, _, rfl, q, C, dx, _, _, rfl, hq, T.cl, T.nW, lk_w a b c, a, _, rfl, DGet.k (k := Sum.inr n) ha, _, rfl, ?_⟩
    refine iteT ⟨small8 (by show 0 ≤ 8; decide), fun D hD => ?_⟩
    exact k D _ (same_new hD _) hD upd_same
theorem scLIter : FnScope ["self"] ["self"] (defScope sLIter) := ⟨rfl, rfl, rfl, by decide +kernel, rfl, by decide +kernel, by decide +kernel⟩
theorem ok_liter (F : Fun K "__iter__" "Library.__iter__" sLIter f fd) (T : Txt mg) (TL : LC K C) : FnOk P w K mg base CX0 1 f fd ["self"] (spLIter C) := by
  refine F.ok scLIter (fun vs H Q E h => ?_) (fun cdv A outer s H vs Q E hr h => ?_)
  · obtain ⟨q, a, b, c, od, dx, rfl, _⟩ := h
    rfl
  · obtain ⟨q, a, b, c, od, dx, rfl, hq, ha, k⟩ := h
    refine ⟨_, (pss_one (ps_ret (pe_callB call_iterK rfl T.iter (by decide +kernel) (pa_cons (pe_fld (pv 0) rfl) pa_nil)))), ?_⟩
    refine ⟨_, rfl, q, C, dx, _, _, rfl, hq, TL.cl, TL.nW, lk_w a b c, a, od, _, rfl, ha, fun p hp => ?_⟩
    exact k p hp
theorem scENames : FnScope ["self"] ["self"] (defScope sENames) := ⟨rfl, rfl, rfl, by decide +kernel, rfl, by decide +kernel, by decide +kernel⟩
theorem ok_enames (F : Fun K "entry_names" "Library.entry_names" sENames f fd) (T : Txt mg) (TL : LC K C) : FnOk P w K mg base CX0 1 f fd ["self"] (spENames C) := by
  refine F.ok scENames (fun vs H Q E h => ?_) (fun cdv A outer s H vs Q E hr h => ?_)
  · obtain ⟨q, a, b, c, rfl, _⟩ := h
    rfl
  · obtain ⟨q, a, b, c, rfl, ⟨⟨dx, hq⟩, ha, hb, hc⟩, k⟩ := h
    refine ⟨_, (pss_one (ps_ret (pe_callTy (call_list_dK rfl) rfl T.list (by decide +kernel) (pa_cons (pe_fld (pv 0) rfl) pa_nil)))), ?_⟩
    refine ⟨_, rfl, q, C, dx, _, _, rfl, hq, TL.cl, TL.nE, lk_e a b c, c, _, rfl, hc, fun D hD => ?_⟩
    exact k D _ (same_new hD _) hD upd_same
theorem scGRank : FnScope ["library", "sentences", "known", "greatest", "sentence", "found"] ["library", "sentences", "known"] (defScope sGRank) := ⟨rfl, rfl, rfl, by decide +kernel, rfl, by decide +kernel, by decide +kernel⟩
theorem ok_grank (A : At K mg "greatest_rank" sGRank ["library", "sentences", "known"] f fd) : FnOk P w K mg base CX0 1 f fd ["library", "sentences", "known"] spGRank := by
  refine A.fn.ok scGRank (fun vs H Q E h => ?_) (fun cdv A outer s H vs Q E hr h => ?_)
  · obtain ⟨l, k, D, rfl, _⟩ := h
    rfl
  · obtain ⟨l, k, D, rfl, hD, q⟩ := h
    refine ⟨_, (pss_cons (ps_set (i := 3) scGRank.nd rfl (Or.inl rfl) pe_int)
      (pss_cons (ps_for PassesOwn.never rfl (pi_list (pv 1)) (pg_name (i := 4) scGRank.nd rfl (Or.inl rfl))
      pss_never)
      (pss_one (ps_ret (pv 3))))), ?_⟩
    refine ⟨_, rfl, D, rfl, ⟨_, SqL.of hD⟩, for_list (K := K) (a := D) (xs := []) (fun i σ H' => σ = [some l, some (.ref D), some k, some (.int 0), none, none] ∧ H' = H) ⟨rfl, rfl⟩ (fun i σ H' _ e => by rw [e.2]; exact SqL.of hD) (fun i x σ H' e => by simp at e) ?_⟩
    rintro σ H' ⟨rfl, rfl⟩
    exact ⟨_, rfl, q⟩
theorem scWRank : FnScope ["library", "name", "known", "made", "opened"] ["library", "name", "known"] (defScope sWRank) := ⟨rfl, rfl, rfl, by decide +kernel, rfl, by decide +kernel, by decide +kernel⟩
theorem ok_wrank {f1 f2 : Addr} {fd1 fd2 : FuncData} (A : At K mg "word_rank" sWRank ["library", "name", "known"] f fd) (TL : LC K C) (D_greatest_rank : Def P w K mg base 1 "greatest_rank" ["library", "sentences", "known"] spGRank)
    (D_Lib_makes_of : MDef P w K mg base C f1 fd1 1 "makes_of" ["self", "name"] (spNewL C)) (D_Lib_opens_of : MDef P w K mg base C f2 fd2 1 "opens_of" ["self", "name"] (spNewL C)) : FnOk P w K mg base CX0 2 f fd ["library", "name", "known"] (spWRank C) := by
  refine A.fn.ok scWRank (fun vs H Q E h => ?_) (fun cdv A outer s H vs Q E hr h => ?_)
  · obtain ⟨q, a, b, c, d, rfl, _⟩ := h
    rfl
  · obtain ⟨q, a, b, c, d, rfl, L, R, o, k⟩ := h
    have hu := hu_of hr
    refine ⟨_, (pss_cons (ps_if (pt_cmp (pc_dnotin hu (pv 1) (pv 2)))
      (pss_cons (ps_set (i := 3) scWRank.nd rfl (Or.inl rfl) (pe_cd D_greatest_rank hr (pa_cons (pv 0) (pa_cons (pe_meth (pv 0) TL.cl D_Lib_makes_of.mt (D_Lib_makes_of.ok.mono (by first | decide | omega)) hr D_Lib_makes_of.b .nil pass0 (pa_cons (pv 1) pa_nil)) (pa_cons (pv 2) pa_nil)))))
        (pss_cons (ps_set (i := 4) scWRank.nd rfl (Or.inl rfl) (pe_cd D_greatest_rank hr (pa_cons (pv 0) (pa_cons (pe_meth (pv 0) TL.cl D_Lib_opens_of.mt (D_Lib_opens_of.ok.mono (by first | decide | omega)) hr D_Lib_opens_of.b .nil pass0 (pa_cons (pv 1) pa_nil)) (pa_cons (pv 2) pa_nil)))))
        (pss_one (ps_dput hu (pv 2) (pv 1) (pe_op op_add (pe_op op_add pe_int (pv 3)) (pv 4)) rfl))))
      pss_nil)
      (pss_one (ps_ret (pe_dget hu (pv 2) (pv 1) (fun _ _ => rfl))))), ?_⟩
    rcases R with hd | hd
    · refine ⟨_, rfl, _, rfl, d, _, rfl, DGet.k (k := Sum.inr "p") hd, _, rfl, ?_⟩
      refine iteT ?_
      obtain ⟨dx, hq⟩ := L.ob
      refine ⟨_, rfl, _, rfl, q, dx, _, rfl, hq, llk_no a b c (by decide +kernel) (by decide +kernel) (by decide +kernel) (by decide +kernel), _, rfl, q, a, b, c, "p", rfl, L, fun D1 H1 s1 _ e1 => ?_⟩
      have L1 := L.mono s1
      obtain ⟨dx1, hq1⟩ := L1.ob
      refine ⟨_, rfl, _, _, D1, rfl, e1, ?_⟩
      refine ⟨_, rfl, _, rfl, q, dx1, _, rfl, hq1, llk_no a b c (by decide +kernel) (by decide +kernel) (by decide +kernel) (by decide +kernel), _, rfl, q, a, b, c, "p", rfl, L1, fun D2 H2 s2 _ e2 => ?_⟩
      refine ⟨_, rfl, _, _, D2, rfl, e2, ?_⟩
      have hd2 := s2 _ _ (s1 _ _ hd)
      refine ⟨_, rfl, _, _, rfl, rfl, _, rfl, _, _, rfl, rfl, _, rfl, _, rfl, d, _, rfl, DPut.k (k := Sum.inr "p") hd2 (small1000 (by decide)), ?_⟩
      refine ⟨_, rfl, _, rfl, d, _, rfl, DGet.k (k := Sum.inr "p") upd_same, ?_⟩
      exact k _ ((But.of (s1.trans s2)).trans (But.upd _)) (.inr upd_same)
    · refine ⟨_, rfl, _, rfl, d, _, rfl, DGet.k (k := Sum.inr "p") hd, _, rfl, ?_⟩
      refine iteF ?_
      refine ⟨_, rfl, _, rfl, d, _, rfl, DGet.k (k := Sum.inr "p") hd, ?_⟩
      exact k _ But.nil (.inr hd)
theorem scRank : FnScope ["library", "sentence", "known", "left", "price"] ["library", "sentence", "known"] (defScope sRank) := ⟨rfl, rfl, rfl, by decide +kernel, rfl, by decide +kernel, by decide +kernel⟩
theorem ok_rank {n : Nat} (A : At K mg "rank_within" sRank ["library", "sentence", "known"] f fd) (T : Txt mg) (R : FnOk P w K mg base CX0 (n + 2) f fd ["library", "sentence", "known"] (spRank C n))
    (D_word_rank : Def P w K mg base 2 "word_rank" ["library", "name", "known"] (spWRank C)) : FnOk P w K mg base CX0 (n + 3) f fd ["library", "sentence", "known"] (spRank C (n + 1)) := by
  have D_rank_within := A.df R
  refine A.fn.ok scRank (fun vs H Q E h => ?_) (fun cdv A outer s H vs Q E hr h => ?_)
  · obtain ⟨q, a, b, c, d, v, sn, rfl, _⟩ := h
    rfl
  · obtain ⟨q, a, b, c, d, v, sn, rfl, L, Rk, o, hs, hn, k⟩ := h
    refine ⟨_, (pss_cons (ps_if (pt_cmpR op_eq (pe_ix ix_tup (pv 1) pe_int (fun _ _ => rfl)) pe_str (nomark _))
      (pss_one (ps_ret (pe_cd D_word_rank hr (pa_cons (pv 0) (pa_cons (pe_ix ix_tup (pv 1) pe_int (fun _ _ => rfl)) (pa_cons (pv 2) pa_nil))))))
      pss_nil)
      (pss_cons (ps_if (pt_cmpR op_eq (pe_ix ix_tup (pv 1) pe_int (fun _ _ => rfl)) pe_str (nomark _))
      (pss_cons (ps_set (i := 3) scRank.nd rfl (Or.inl rfl) (pe_cd D_rank_within hr (pa_cons (pv 0) (pa_cons (pe_ix ix_tup (pv 1) pe_int (fun _ _ => rfl)) (pa_cons (pv 2) pa_nil)))))
        (pss_one (ps_ret (pe_callB (call_max2 rfl) rfl T.max (by decide +kernel) (pa_cons (pv 3) (pa_cons (pe_cd D_rank_within hr (pa_cons (pv 0) (pa_cons (pe_ix ix_tup (pv 1) pe_int (fun _ _ => rfl)) (pa_cons (pv 2) pa_nil)))) pa_nil))))))
      pss_nil)
      (pss_cons ps_never
      (pss_one ps_never)))), ?_⟩
    cases sn with
    | p =>
      obtain ⟨t, rfl, ht⟩ := hs
      refine ⟨_, rfl, t, _, _, _, rfl, rfl, SqT.of ht, rfl, rfl, _, rfl, ?_⟩
      refine iteT ?_
      refine ⟨_, rfl, _, rfl, t, _, _, _, rfl, rfl, SqT.of ht, rfl, _, rfl, q, a, b, c, d, rfl, L, Rk, o, fun H' b1 r1 => ?_⟩
      exact k H' b1 r1
    | pp =>
      obtain ⟨t, x, rfl, ht, hx⟩ := hs
      have hn' : 1 < n + 1 := hn
      obtain ⟨kvs, hd⟩ := Rk.ex
      refine ⟨_, rfl, t, _, _, _, rfl, rfl, SqT.of ht, rfl, rfl, _, rfl, ?_⟩
      refine iteF ?_
      refine ⟨_, rfl, t, _, _, _, rfl, rfl, SqT.of ht, rfl, rfl, _, rfl, ?_⟩
      refine iteT ?_
      refine ⟨_, rfl, _, rfl, t, _, _, _, rfl, rfl, SqT.of ht, rfl, _, rfl, q, a, b, c, d, _, .p, rfl, L, Rk, o, ⟨x, rfl, hx⟩, by show 0 < n; omega, fun H1 b1 r1 => ?_⟩
      have T1 := b1.tups hd rfl
      have ht1 := T1 _ _ ht
      refine ⟨_, rfl, _, rfl, _, rfl, t, _, _, _, rfl, rfl, SqT.of ht1, rfl, _, rfl, q, a, b, c, d, _, .p, rfl, L.but b1 hd o, r1, o, ⟨x, rfl, T1 _ _ hx⟩, by show 0 < n; omega, fun H2 b2 r2 => ?_⟩
      refine ⟨1, 1, rfl, ?_⟩
      exact k H2 (b1.trans b2) r2
theorem no_rank : FnOk P w K mg base CX0 2 f fd ["library", "sentence", "known"] (spRank C 0) := by
  have no : ∀ vs H Q E, ¬ spRank C 0 vs H Q E := fun vs H Q E h => by
    obtain ⟨q, a, b, c, d, v, sn, _, _, _, _, _, hn, _⟩ := h
    omega
  exact ⟨fun vs H Q E h => absurd h (no vs H Q E), fun A outer s H args us vs Q E _ _ _ _ h => absurd h (no vs H Q E)⟩
theorem rank_def (A : At K mg "rank_within" sRank ["library", "sentence", "known"] f fd) (T : Txt mg) (D_word_rank : Def P w K mg base 2 "word_rank" ["library", "name", "known"] (spWRank C)) :
    Def P w K mg base 4 "rank_within" ["library", "sentence", "known"] (spRank C 2) := A.df (ok_rank A T (ok_rank A T no_rank D_word_rank) D_word_rank)
end
end K77

namespace HL
open PySem L2
/-- an expression, a test that is never come to -/
def tNeverE : TE := fun _ _ _ => False
def tNeverT : TT := fun _ _ _ => False
theorem pe_never {X : Cx} {e : Expr} : PE X e tNeverE := ⟨fun _ _ _ _ _ _ h => h.elim⟩
theorem pt_never {X : Cx} {e : Expr} : PT X e tNeverT := ⟨fun _ _ _ _ _ _ h => h.elim⟩
end HL
namespace K77
open PySem L2 HL
abbrev sROf : Stmt := top 18
abbrev sRKeys : Stmt := top 19
abbrev sRiders : Stmt := top 20
/-! ## no riders -/
def rowName : Tr → Str
  | .own _ => "own"
  | .pick _ _ _ => "pick"
  | .offer _ _ => "offer"
  | .cut _ _ _ _ => "cut"
  | .pay _ _ _ _ => "pay"
theorem TrAt.row {H : Hp} {v : V} : ∀ {t : Tr}, TrAt H v t → ∃ p rest, v = .ref p ∧ H p = some (.tup (.str (rowName t) :: rest))
  | .own _, ⟨p, e, h⟩ => ⟨p, _, e, h⟩
  | .pick _ _ _, ⟨p, x, e, h, _⟩ => ⟨p, _, e, h⟩
  | .offer _ _, ⟨p, x, y, e, h, _⟩ => ⟨p, _, e, h⟩
  | .cut _ _ _ _, ⟨p, m', s', x, y, e, h, _⟩ => ⟨p, _, e, h⟩
  | .pay _ _ _ _, ⟨p, m', x, y, e, h, _⟩ => ⟨p, _, e, h⟩
theorem row_ncite : ∀ t : Tr, decide (V.str (rowName t) = V.str "cite") = false
  | .own _ => by show decide (V.str "own" = V.str "cite") = false; decide +kernel
  | .pick _ _ _ => by show decide (V.str "pick" = V.str "cite") = false; decide +kernel
  | .offer _ _ => by show decide (V.str "offer" = V.str "cite") = false; decide +kernel
  | .cut _ _ _ _ => by show decide (V.str "cut" = V.str "cite") = false; decide +kernel
  | .pay _ _ _ _ => by show decide (V.str "pay" = V.str "cite") = false; decide +kernel
theorem row_nopen : ∀ t : Tr, decide (V.str (rowName t) = V.str "open") = false
  | .own _ => by show decide (V.str "own" = V.str "open") = false; decide +kernel
  | .pick _ _ _ => by show decide (V.str "pick" = V.str "open") = false; decide +kernel
  | .offer _ _ => by show decide (V.str "offer" = V.str "open") = false; decide +kernel
  | .cut _ _ _ _ => by show decide (V.str "cut" = V.str "open") = false; decide +kernel
  | .pay _ _ _ _ => by show decide (V.str "pay" = V.str "open") = false; decide +kernel
def siz : Tr → Nat
  | .own _ => 1
  | .pick _ _ b => siz b + 1
  | .offer a b => siz a + siz b + 1
  | .cut _ _ a b => siz a + siz b + 1
  | .pay _ _ a b => siz a + siz b + 1
def sizs : List Tr → Nat
  | [] => 0
  | t :: r => siz t + sizs r
theorem sizs_app : ∀ xs ys : List Tr, sizs (xs ++ ys) = sizs xs + sizs ys
  | [], ys => (Nat.zero_add _).symm
  | x :: r, ys => by
    show siz x + sizs (r ++ ys) = siz x + sizs r + sizs ys
    rw [sizs_app r ys]
    omega
theorem sizs_kids : ∀ t : Tr, sizs (kids t) + 1 = siz t
  | .own _ => rfl
  | .pick _ _ b => by show siz b + 0 + 1 = siz b + 1; omega
  | .offer a b => by show siz a + (siz b + 0) + 1 = siz a + siz b + 1; omega
  | .cut _ _ a b => by show siz a + (siz b + 0) + 1 = siz a + siz b + 1; omega
  | .pay _ _ a b => by show siz a + (siz b + 0) + 1 = siz a + siz b + 1; omega
theorem siz_pos (t : Tr) : 1 ≤ siz t := by
  have := sizs_kids t
  omega
theorem len_sizs : ∀ xs : List Tr, xs.length ≤ sizs xs
  | [] => Nat.le_refl _
  | x :: r => by
    have h1 := siz_pos x
    have h2 := len_sizs r
    show r.length + 1 ≤ siz x + sizs r
    omega
theorem Paired.mono' {H H' : Hp} (h : Tups H H') : ∀ {xs : List V} {ts : List Tr}, Paired (TrAt H) xs ts → Paired (TrAt H') xs ts
  | _, _, .nil => .nil
  | _, _, .cons a r => .cons (a.mono h) (Paired.mono' h r)
theorem Paired.snoc {α β : Type} {R : α → β → Prop} : ∀ {xs : List α} {ys : List β} {x : α}, Paired R (xs ++ [x]) ys → ∃ ys' y, ys = ys' ++ [y] ∧ Paired R xs ys' ∧ R x y
  | [], _, _, .cons r .nil => ⟨[], _, rfl, .nil, r⟩
  | a :: xs, _, x, .cons r t => by
    obtain ⟨ys', y, e, h1, h2⟩ := Paired.snoc t
    exact ⟨_ :: ys', y, by rw [e]; rfl, .cons r h1, h2⟩
theorem Paired.app {α β : Type} {R : α → β → Prop} : ∀ {xs : List α} {ys : List β} {xs' : List α} {ys' : List β}, Paired R xs ys → Paired R xs' ys' → Paired R (xs ++ xs') (ys ++ ys')
  | _, _, _, _, .nil, h => h
  | _, _, _, _, .cons r t, h => .cons r (Paired.app t h)
def spROf : Sp := fun vs H Q _ => ∃ (l v : V) (t : Tr), vs = [l, v] ∧ TrAt H v t ∧ ∀ (D : Addr) (H' : Hp), Same H H' → H D = none → H' D = some (.lst []) → Q (.ref D) H'
def spRKeys (C : Addr) : Sp := fun vs H Q _ => ∃ (q a b c : Addr), vs = [.ref q] ∧ LibAt C H q a b c ∧ ∀ (D : Addr) (H' : Hp), Same H H' → H D = none → H' D = some (.lst []) → Q (.ref D) H'
def spRiders (C : Addr) : Sp := fun vs H Q _ => ∃ (q a b c : Addr) (v : V) (t : Tr), vs = [.ref q, v] ∧ LibAt C H q a b c ∧ TrAt H v t ∧ siz t ≤ 100000 ∧ ∀ (D : Addr) (H' : Hp), Same H H' → H D = none → H' D = some (.lst []) → Q (.ref D) H'
section
variable {P : Program} {w : World} {K : PySem.W.Frag} {mg : Str → Option Value} {base : Heap} {f fM aP C : Addr} {fd fdM : FuncData}
theorem scROf : FnScope ["library", "row"] ["library", "row"] (defScope sROf) := ⟨rfl, rfl, rfl, by decide +kernel, rfl, by decide +kernel, by decide +kernel⟩
theorem ok_rof (A : At K mg "riders_of" sROf ["library", "row"] f fd) : FnOk P w K mg base CX0 1 f fd ["library", "row"] spROf := by
  refine A.fn.ok scROf (fun vs H Q E h => ?_) (fun cdv A outer s H vs Q E hr h => ?_)
  · obtain ⟨l, v, t, rfl, _⟩ := h
    rfl
  · obtain ⟨l, v, t, rfl, ht, k⟩ := h
    refine ⟨_, (pss_cons (ps_if (pt_cmpR op_eq (pe_ix ix_tup (pv 1) pe_int (fun _ _ => rfl)) pe_str (nomark _))
      pss_never
      pss_nil)
      (pss_cons (ps_if (pt_cmpR op_eq (pe_ix ix_tup (pv 1) pe_int (fun _ _ => rfl)) pe_str (nomark _))
      pss_never
      pss_nil)
      (pss_one (ps_ret (pe_lst pa_nil))))), ?_⟩
    obtain ⟨p, rest, rfl, hp⟩ := ht.row
    have z0 : atI (V.str (rowName t) :: rest) ((0 : Nat) : Int) = some (V.str (rowName t)) := atI_nat rfl
    refine ⟨_, rfl, p, _, _, _, rfl, rfl, SqT.of hp, z0, rfl, false, congrArg V.bl (row_ncite t), ?_⟩
    refine iteF ?_
    refine ⟨_, rfl, p, _, _, _, rfl, rfl, SqT.of hp, z0, rfl, false, congrArg V.bl (row_nopen t), ?_⟩
    refine iteF ⟨small8 (by show 0 ≤ 8; decide), fun D hD => ?_⟩
    exact k D _ (same_new hD _) hD upd_same
abbrev nRKeys : List Str := ["library", "keys", "name", "make_index", "open_index"]
theorem scRKeys : FnScope nRKeys ["library"] (defScope sRKeys) := ⟨rfl, rfl, rfl, by decide +kernel, rfl, by decide +kernel, by decide +kernel⟩
theorem ok_rkeys {f1 f2 : Addr} {fd1 fd2 : FuncData} (A : At K mg "rider_keys" sRKeys ["library"] f fd) (TL : LC K C) (D_Lib_iter : MDef P w K mg base C f1 fd1 1 "__iter__" ["self"] (spLIter C)) (D_Lib_entry_names : MDef P w K mg base C f2 fd2 1 "entry_names" ["self"] (spENames C)) :
    FnOk P w K mg base CX0 2 f fd ["library"] (spRKeys C) := by
  refine A.fn.ok scRKeys (fun vs H Q E h => ?_) (fun cdv A outer s H vs Q E hr h => ?_)
  · obtain ⟨q, a, b, c, rfl, _⟩ := h
    rfl
  · obtain ⟨q, a, b, c, rfl, L, k⟩ := h
    refine ⟨_, (pss_cons (ps_set (i := 1) scRKeys.nd rfl (Or.inl rfl) (pe_lst pa_nil))
      (pss_cons (ps_lock (ps_for0 PassesOwn.never rfl D_Lib_iter hr (pv 0)))
      (pss_one (ps_ret (pe_op op_cat (pv 1) (pe_lc (own := [("name", 2)]) (g := gName 2) (tt := tYes) rfl scRKeys.nd (pi_list (pe_meth0 (pv 0) TL.cl D_Lib_entry_names.mt (D_Lib_entry_names.ok.mono (by first | decide | omega)) hr D_Lib_entry_names.b .nil pass0)) (blkOk_by (own := [("name", 2)]) (N := nRKeys) (sc := defScope sRKeys) (by decide +kernel)) (fun _ _ _ _ _ => (pg_name (i := 2) scRKeys.nd rfl (Or.inl rfl))) (fun _ _ _ _ _ => pts_nil) (fun _ _ _ _ _ => pe_never))))))), ?_⟩
    refine ⟨small8 (by show 0 ≤ 8; decide), fun D hD => ?_⟩
    have s1 := same_new hD (.lst [])
    have L1 := L.mono s1
    obtain ⟨dx, hq⟩ := L1.ob
    -- for name in library
    refine ⟨a, _, L1.w, trivial, fun od => ?_⟩
    have qa : q ≠ a := ne_of hq L1.w (by intro z; cases z)
    refine ⟨_, rfl, q, dx, _, rfl, by rw [upd_ne qa]; exact hq, q, a, b, c, od, dx, rfl, by rw [upd_ne qa]; exact hq, upd_same, fun p hp => ?_⟩
    have pa : a ≠ p := fun z => by subst z; rw [upd_same] at hp; cases hp
    have np : (L2.upd H D (.lst [])) p = none := by rw [upd_ne (Ne.symm pa)] at hp; exact hp
    refine ⟨p, a, od, rfl, by rw [upd_ne pa]; exact upd_same, upd_same, ?_⟩
    refine ⟨by rw [upd_ne pa, upd_ne pa]; exact upd_same, ?_⟩
    -- the heap behind it
    generalize hH2 : (L2.upd (L2.upd (L2.upd (L2.upd (L2.upd H D (HO.lst [])) a (HO.frz od (HO.dK []))) p (KIt p a od)) p (Some1 p)) a (HO.dK [])) = H2
    have s2 : Same (L2.upd H D (.lst [])) H2 := fun u o e => by
      rw [← hH2]
      by_cases ua : u = a
      · subst ua
        rw [L1.w] at e
        cases e
        exact upd_same
      · rw [upd_ne ua, upd_ne (ne_of_none e np), upd_ne (ne_of_none e np), upd_ne ua]
        exact e
    have L2' := L1.mono s2
    have hD2 := s2 _ _ upd_same
    obtain ⟨dx2, hq2⟩ := L2'.ob
    refine ⟨_, rfl, _, rfl, q, dx2, _, rfl, hq2, llk_no a b c (by decide +kernel) (by decide +kernel) (by decide +kernel) (by decide +kernel), q, a, b, c, rfl, L2', fun D2 H3 s3 n3 e3 => ?_⟩
    refine ⟨D2, rfl, ⟨_, SqL.of e3⟩, fun D3 n4 => ?_⟩
    refine lc_list (K := K) (a := D2) (xs := []) (fun i H' => H' = L2.upd H3 D3 (.lst [])) rfl (fun i H' _ e => by rw [e]; exact SqL.of (same_new n4 _ _ _ e3)) (fun i x H' e => by simp at e) ?_
    rintro H' rfl
    have hD4 := same_new n4 (.lst []) _ _ (s3 _ _ hD2)
    refine ⟨D, D3, _, _, rfl, rfl, hD4, upd_same, small8 (by show 0 + 0 ≤ 8; decide), fun z hz => ?_⟩
    have sAll := s1.trans (s2.trans (s3.trans (same_new n4 (.lst []))))
    exact k z _ (sAll.trans (same_new hz _)) (sAll.free hz) upd_same
abbrev nRiders : List Str := ["library", "derivation", "found", "waiting", "row", "key", "other"]
theorem scRiders : FnScope nRiders ["library", "derivation"] (defScope sRiders) := ⟨rfl, rfl, rfl, by decide +kernel, rfl, by decide +kernel, by decide +kernel⟩
theorem ok_riders (A : At K mg "riders" sRiders ["library", "derivation"] f fd) (D_premises : Def P w K mg base 1 "premises" ["derivation"] spPrem) (D_riders_of : Def P w K mg base 1 "riders_of" ["library", "row"] spROf) (D_rider_keys : Def P w K mg base 2 "rider_keys" ["library"] (spRKeys C)) :
    FnOk P w K mg base CX0 3 f fd ["library", "derivation"] (spRiders C) := by
  refine A.fn.ok scRiders (fun vs H Q E h => ?_) (fun cdv A outer s H vs Q E hr h => ?_)
  · obtain ⟨q, a, b, c, v, t, rfl, _⟩ := h
    rfl
  · obtain ⟨q, a, b, c, v, t, rfl, L, ht, hz, k⟩ := h
    have hu := hu_of hr
    refine ⟨_, (pss_cons (ps_set (i := 2) scRiders.nd rfl (Or.inr rfl) pe_dnewK)
      (pss_cons (ps_set (i := 3) scRiders.nd rfl (Or.inl rfl) (pe_lst (pa_cons (pv 1) pa_nil)))
      (pss_cons (ps_while PassesOwn.never (pt_truth (pv 3) (by intro _; rfl))
      (pss_cons (ps_set (i := 4) scRiders.nd rfl (Or.inl rfl) (pe_bm0 PySem.F.plainAttrs_list PySem.F.slot_list_pop PySem.F.type_list_pop mt_pop (pv 3)))
        (pss_cons (ps_expr (pe_bm PySem.F.plainAttrs_list PySem.F.slot_list_extend PySem.F.type_list_extend mt_extend (pv 3) (pa_cons (pe_cd D_premises hr (pa_cons (pv 4) pa_nil)) pa_nil)))
        (pss_one (ps_for PassesOwn.never rfl (pi_list (pe_cd D_riders_of hr (pa_cons (pv 0) (pa_cons (pv 4) pa_nil)))) (pg_tup rfl (pgs_cons (pg_name (i := 5) scRiders.nd rfl (Or.inl rfl)) (pgs_cons (pg_name (i := 6) scRiders.nd rfl (Or.inl rfl)) pgs_nil)))
        pss_never)))))
      (pss_one (ps_ret (pe_lc (own := [("key", 5)]) (g := gName 5) rfl scRiders.nd (pi_list (pe_cd D_rider_keys hr (pa_cons (pv 0) pa_nil))) (blkOk_by (own := [("key", 5)]) (N := nRiders) (sc := defScope sRiders) (by decide +kernel)) (fun _ _ _ _ _ => (pg_name (i := 5) scRiders.nd rfl (Or.inl rfl))) (fun _ _ _ _ _ => (pts_one pt_never)) (fun _ _ _ _ _ => pe_never))))))), ?_⟩
    intro F hF
    have s1 := same_new hF (.dK [])
    refine ⟨_, rfl, small8 (by show 1 ≤ 8; decide), fun W hW => ?_⟩
    have s2 := same_new hW (.lst [v])
    have s12 := s1.trans s2
    have FW : F ≠ W := ne_of_none upd_same hW
    -- the while loop: what waits, and its size
    refine ⟨fun m σ H' => ∃ (ws : List V) (ts : List Tr) (x5 x6 x7 : Option V), σ = [some (.ref q), some v, some (.ref F), some (.ref W), x5, x6, x7] ∧ H' W = some (.lst ws) ∧ Same H (fun u => if u = W then none else H' u) ∧ H' F = some (.dK []) ∧ Paired (TrAt H') ws ts ∧ sizs ts = m ∧ m ≤ 100000,
      ⟨siz t, [v], [t], none, none, none, rfl, upd_same, ?_, s2 _ _ upd_same, .cons (ht.mono (Tups.of s12)) .nil, by show siz t + 0 = siz t; omega, hz⟩, ?_⟩
    · intro u o e
      show (if u = W then none else _) = _
      rw [if_neg (ne_of_none e (s1.free hW))]
      exact s12 _ _ e
    rintro m σ H1 ⟨ws, ts, x5, x6, x7, rfl, hW1, hS, hF1, hP, rfl, hm⟩
    have hS1 : ∀ u o, H u = some o → H1 u = some o := fun u o e => by
      have z := hS u o e
      simp only at z
      split at z
      · cases z
      · exact z
    refine ⟨_, rfl, _, .inl ⟨ws, SqL.of hW1, rfl⟩, ?_⟩
    cases ws with
    | nil =>
      refine iteF ?_
      refine ⟨_, rfl, q, a, b, c, rfl, L.mono hS1, fun D2 H2 s3 n2 e2 => ?_⟩
      have sA : Same H H2 := fun u o e => s3 _ _ (hS1 u o e)
      refine ⟨D2, rfl, ⟨_, SqL.of e2⟩, fun D3 n3 => ?_⟩
      refine lc_list (K := K) (a := D2) (xs := []) (fun i H' => H' = L2.upd H2 D3 (.lst [])) rfl (fun i H' _ e => by rw [e]; exact SqL.of (same_new n3 _ _ _ e2)) (fun i x H' e => by simp at e) ?_
      rintro H' rfl
      exact k D3 _ (sA.trans (same_new n3 _)) (sA.free n3) upd_same
    | cons w0 wr =>
      refine iteT ?_
      obtain ⟨xs, x, hx⟩ : ∃ xs x, w0 :: wr = xs ++ [x] := ⟨_, _, (List.dropLast_concat_getLast (l := w0 :: wr) (by simp)).symm⟩
      rw [hx] at hW1 hP
      obtain ⟨ts', y, rfl, hP1, hy⟩ := Paired.snoc hP
      have e1 : sizs (ts' ++ [y]) = sizs ts' + siz y := by
        rw [sizs_app]
        show sizs ts' + (siz y + 0) = _
        omega
      have e2 := sizs_kids y
      refine ⟨fun σ' H' => ∃ (ws2 : List V) (ts2 : List Tr) (x5 x6 x7 : Option V), σ' = [some (.ref q), some v, some (.ref F), some (.ref W), x5, x6, x7] ∧ H' W = some (.lst ws2) ∧ Same H (fun u => if u = W then none else H' u) ∧ H' F = some (.dK []) ∧ Paired (TrAt H') ws2 ts2 ∧ sizs ts2 + 1 = sizs (ts' ++ [y]), ?_, ?_⟩
      · rintro σ' H' ⟨ws2, ts2, y5, y6, y7, rfl, g1, g2, g3, g4, g5⟩
        exact ⟨sizs ts2, by omega, ws2, ts2, y5, y6, y7, rfl, g1, g2, g3, g4, rfl, by omega⟩
      -- row = waiting.pop()
      refine ⟨_, rfl, .inl ⟨rfl, _, SqL.of hW1⟩, W, xs ++ [x], x, rfl, rfl, hW1, by simp, ?_⟩
      rw [List.dropLast_concat]
      have T2 : Tups H1 (L2.upd H1 W (.lst xs)) := (But.upd (p := W) (H := H1) (.lst xs)).tups hW1 rfl
      refine ⟨_, rfl, .inl ⟨rfl, _, SqL.of upd_same⟩, _, rfl, x, y, rfl, hy.mono T2, fun D ks H3 s3 nD eD hk => ?_⟩
      have hW3 := s3 _ _ (upd_same (H := H1) (a := W) (o := .lst xs))
      have T23 := T2.trans (Tups.of s3)
      have p1 := Paired.mono' T23 hP1
      have p2 := Paired.mono' (Tups.of s3) hk
      have ek : ks.length = (kids y).length := Paired.length hk
      have exl : xs.length = ts'.length := Paired.length hP1
      have l1 := len_sizs ts'
      have l2 := len_sizs (kids y)
      refine ⟨W, D, xs, ks, rfl, rfl, hW3, eD, Nat.le_trans (by omega) sizeLine_big, ?_⟩
      have T4 : Tups H3 (L2.upd H3 W (.lst (xs ++ ks))) := (But.upd (p := W) (H := H3) (.lst (xs ++ ks))).tups hW3 rfl
      refine ⟨_, rfl, _, rfl, _, x, y, rfl, hy.mono (T23.trans T4), fun D2 H5 s5 n5 e5 => ?_⟩
      have hW5 := s5 _ _ (upd_same (H := H3) (a := W) (o := .lst (xs ++ ks)))
      refine ⟨D2, rfl, ⟨_, SqL.of e5⟩, for_list (K := K) (a := D2) (xs := []) (fun i σ' H' => σ' = [some (.ref q), some v, some (.ref F), some (.ref W), some x, x6, x7] ∧ H' = H5) ⟨rfl, rfl⟩ (fun i σ' H' _ e => by rw [e.2]; exact SqL.of e5) (fun i x σ' H' e => by simp at e) ?_⟩
      rintro σ' H' ⟨rfl, rfl⟩
      refine ⟨xs ++ ks, ts' ++ kids y, some x, x6, x7, rfl, hW5, ?_, ?_, Paired.mono' (T4.trans (Tups.of s5)) (Paired.app p1 p2), ?_⟩
      · intro u o e
        show (if u = W then none else _) = _
        have uW := ne_of_none e (s1.free hW)
        rw [if_neg uW]
        refine s5 _ _ ?_
        rw [upd_ne uW]
        refine s3 _ _ ?_
        rw [upd_ne uW]
        exact hS1 _ _ e
      · refine s5 _ _ ?_
        rw [upd_ne FW]
        refine s3 _ _ ?_
        rw [upd_ne FW]
        exact hF1
      · rw [sizs_app, e1]
        omega
end
end K77

namespace K77
open PySem L2 HL
abbrev sTally : Stmt := top 22
abbrev sTW : Stmt := top 23
abbrev sGP : Stmt := top 25
abbrev sGW : Stmt := top 26
theorem row_own : ∀ t : Tr, (∃ r, t = .own r) ∨ decide (V.str (rowName t) = V.str "own") = false
  | .own r => .inl ⟨r, rfl⟩
  | .pick _ _ _ => .inr (by show decide (V.str "pick" = V.str "own") = false; decide +kernel)
  | .offer _ _ => .inr (by show decide (V.str "offer" = V.str "own") = false; decide +kernel)
  | .cut _ _ _ _ => .inr (by show decide (V.str "cut" = V.str "own") = false; decide +kernel)
  | .pay _ _ _ _ => .inr (by show decide (V.str "pay" = V.str "own") = false; decide +kernel)
/-- what tallies need -/
def Ok2 : Tr → Prop
  | .own _ => True
  | .pick _ _ b => Ok2 b ∧ Sm (tal b)
  | .offer a b => Ok2 a ∧ Ok2 b ∧ Sm ((tal a).add (tal b))
  | .cut m _ a b => Ok2 a ∧ Ok2 b ∧ Both m a b
  | .pay _ m a b => Ok2 a ∧ Ok2 b ∧ Both m a b
theorem sm_own : Sm ⟨1, 1, 0⟩ := own_bd.sm (by decide) (by decide) (by decide)
theorem wf_ok2 : ∀ {d r : Nat} {l : Int} {t : Tr}, Wf d r l t → 1 ≤ r → r ≤ 400 → d ≤ 8 → Ok2 t := by
  intro d r l t h
  induction h with
  | own d r l =>
    intro h1 h4 h8
    exact trivial
  | pick d r l =>
    intro h1 h4 h8
    exact ⟨trivial, sm_own⟩
  | menu d r l a b side hd hs fa fb ia ib =>
    intro h1 h4 h8
    obtain ⟨ok, _⟩ := wf_ok (Wf.menu d r l a b side hd hs fa fb) h1 h4 h8
    obtain ⟨ba, _⟩ := wf_bd fa h1 h4 (by omega)
    obtain ⟨bb, _⟩ := wf_bd fb h1 h4 (by omega)
    have b2 : r * d ≤ 400 * 7 := Nat.mul_le_mul h4 (by omega)
    have b3 : r * (3 * d + 1) ≤ 400 * 22 := Nat.mul_le_mul h4 (by omega)
    exact ⟨⟨ia h1 h4 (by omega), ib h1 h4 (by omega), (ba.add bb).sm (by omega) (by omega) (by omega)⟩, ⟨trivial, sm_own⟩, ok.2.2⟩
  | cut d r r' l m a hm fa ia =>
    intro h1 h4 h8
    obtain ⟨k1, k2⟩ := hm.pos h1
    exact ⟨ia k1 (by omega) (by omega), trivial, (wf_ok (Wf.cut d r r' l m a hm fa) h1 h4 h8).1.2.2⟩
  | pay d r r' l m a hm fa ia =>
    intro h1 h4 h8
    obtain ⟨k1, k2⟩ := hm.pos h1
    exact ⟨ia k1 (by omega) (by omega), trivial, (wf_ok (Wf.pay d r r' l m a hm fa) h1 h4 h8).1.2.2⟩
theorem kid_ok : ∀ {t y : Tr}, y ∈ kids t → Ok2 t → hgt y < hgt t ∧ Ok2 y
  | .own _, y, h, o => by simp [kids] at h
  | .pick _ _ b, y, h, o => by
    simp only [kids, List.mem_singleton] at h
    subst h
    exact ⟨by show hgt y < hgt y + 1; omega, o.1⟩
  | .offer a b, y, h, o => by
    simp only [kids, List.mem_cons, List.not_mem_nil, or_false] at h
    rcases h with rfl | rfl
    · exact ⟨by show hgt y < max (hgt y) (hgt b) + 1; omega, o.1⟩
    · exact ⟨by show hgt y < max (hgt a) (hgt y) + 1; omega, o.2.1⟩
  | .cut _ _ a b, y, h, o => by
    simp only [kids, List.mem_cons, List.not_mem_nil, or_false] at h
    rcases h with rfl | rfl
    · exact ⟨by show hgt y < max (hgt y) (hgt b) + 1; omega, o.1⟩
    · exact ⟨by show hgt y < max (hgt a) (hgt y) + 1; omega, o.2.1⟩
  | .pay _ _ a b, y, h, o => by
    simp only [kids, List.mem_cons, List.not_mem_nil, or_false] at h
    rcases h with rfl | rfl
    · exact ⟨by show hgt y < max (hgt y) (hgt b) + 1; omega, o.1⟩
    · exact ⟨by show hgt y < max (hgt a) (hgt y) + 1; omega, o.2.1⟩
theorem Paired.get {α β : Type} {R : α → β → Prop} : ∀ {xs : List α} {ys : List β} {i : Nat} {x : α}, Paired R xs ys → xs[i]? = some x → ∃ y, ys[i]? = some y ∧ R x y
  | _, _, _, _, .nil, h => by simp at h
  | _, _, 0, _, .cons r t, h => by
    simp at h
    subst h
    exact ⟨_, rfl, r⟩
  | _ :: xs, _ :: ys, i + 1, x, .cons r t, h => by
    rw [List.getElem?_cons_succ] at h
    obtain ⟨y, e, g⟩ := Paired.get t h
    exact ⟨y, by rw [List.getElem?_cons_succ]; exact e, g⟩
theorem Paired.imp {α β : Type} {R S : α → β → Prop} (f : ∀ a b, R a b → S a b) : ∀ {xs : List α} {ys : List β}, Paired R xs ys → Paired S xs ys
  | _, _, .nil => .nil
  | _, _, .cons r t => .cons (f _ _ r) (Paired.imp f t)
theorem Paired.one {α β : Type} {R : α → β → Prop} {xs : List α} {y : β} : Paired R xs [y] → ∃ x, xs = [x] ∧ R x y
  | .cons r .nil => ⟨_, rfl, r⟩
theorem Paired.two {α β : Type} {R : α → β → Prop} {xs : List α} {y z : β} : Paired R xs [y, z] → ∃ x w, xs = [x, w] ∧ R x y ∧ R w z
  | .cons r (.cons t .nil) => ⟨_, _, rfl, r, t⟩
theorem RkAt.same {H H' : Hp} {d : Addr} (h : RkAt H d) (s : Same H H') : RkAt H' d := h.elim (fun e => .inl (s _ _ e)) (fun e => .inr (s _ _ e))
theorem RkAt.new {H : Hp} {d p : Addr} (h : RkAt H d) (n : H p = none) (o : HO) : RkAt (L2.upd H p o) d := h.same (same_new n o)
theorem RkAt.off {H : Hp} {d p : Addr} (h : RkAt H d) (n : d ≠ p) (o : HO) : RkAt (L2.upd H p o) d := h.elim (fun e => .inl (by rw [upd_ne n]; exact e)) (fun e => .inr (by rw [upd_ne n]; exact e))
theorem TalAt.rk {C d : Addr} {H H' : Hp} {q : Addr} {x : T3} (h : TalAt C H q x) (s : But d H H') (r : RkAt H d) : TalAt C H' q x := by
  obtain ⟨kvs, e⟩ := r.ex
  exact h.but s e (by intro a b c z; cases z)
theorem rk_ne {H : Hp} {d p : Addr} (r : RkAt H d) (n : H p = none) : p ≠ d := fun z => by
  obtain ⟨kvs, e⟩ := r.ex
  subst z
  rw [e] at n
  cases n
theorem TalAt.off {C p : Addr} {H : Hp} {q : Addr} {x : T3} {xs : List V} (h : TalAt C H q x) (e : H p = some (.lst xs)) (o : HO) : TalAt C (L2.upd H p o) q x := h.but (But.upd o) e (by intro a b c z; cases z)
def spTW (C CL : Addr) (n : Nat) : Sp := fun vs H Q _ => ∃ (q a b c d : Addr) (kn v : V) (t : Tr), vs = [.ref q, v, kn, .ref d] ∧ LibAt CL H q a b c ∧ RkAt H d ∧ Off d a b c ∧ TrAt H v t ∧ hgt t < n ∧ Ok2 t ∧ ∀ (z : Addr) (H' : Hp), But d H H' → RkAt H' d → TalAt C H' z (tal t) → Q (.ref z) H'
section
variable {P : Program} {w : World} {K : PySem.W.Frag} {mg : Str → Option Value} {base : Heap} {f fM aP C CL : Addr} {fd fdM : FuncData}
abbrev nTW : List Str := ["library", "derivation", "known", "ranks", "name", "found", "factor", "total", "key", "_", "premise"]
theorem scTW : FnScope nTW ["library", "derivation", "known", "ranks"] (defScope sTW) := ⟨rfl, rfl, rfl, by decide +kernel, rfl, by decide +kernel, by decide +kernel⟩
theorem ok_tw {n : Nat} {f1 f2 f3 f4 : Addr} {fd1 fd2 fd3 fd4 : FuncData} (A : At K mg "tally_within" sTW ["library", "derivation", "known", "ranks"] f fd) (TT : TC2 K mg C) (R : FnOk P w K mg base CX0 (n + 5) f fd ["library", "derivation", "known", "ranks"] (spTW C CL n))
    (D_Tally : CDef P w K mg base C 1 "Tally" ["self", "plays", "rows", "load"] (spTInit C)) (D_add : MDef P w K mg base C f1 fd1 3 "__add__" ["self", "other"] (spT2 C T3.add fun _ _ => True)) (D_mul : MDef P w K mg base C f2 fd2 3 "__mul__" ["self", "other"] (spT2 C T3.mul fun x y => Sm x ∧ Sm y))
    (D_Tally_taller : MDef P w K mg base C f3 fd3 3 "taller" ["self", "k"] (spT1 C T3.up fun x n => CMulW n x.p)) (D_Tally_cut : MDef P w K mg base C f4 fd4 3 "cut" ["self", "factor"] (spT1 C T3.cutf fun x n => CMulW n (x.r - x.p)))
    (D_premises : Def P w K mg base 1 "premises" ["derivation"] spPrem) (D_copies : Def P w K mg base 1 "copies" ["kind"] spCopies) (D_boxed_tally : Def P w K mg base 5 "boxed_tally" ["found", "kind"] (spBT C)) (D_rank_within : Def P w K mg base 4 "rank_within" ["library", "sentence", "known"] (spRank CL 2)) :
    FnOk P w K mg base CX0 (n + 6) f fd ["library", "derivation", "known", "ranks"] (spTW C CL (n + 1)) := by
  have D_tally_within := A.df R
  refine A.fn.ok scTW (fun vs H Q E h => ?_) (fun cdv A outer s H vs Q E hr h => ?_)
  · obtain ⟨q, a, b, c, d, kn, v, t, rfl, _⟩ := h
    rfl
  · obtain ⟨q, a, b, c, d, kn, v, t, rfl, L, Rk, o, ht, hn, ok, k⟩ := h
    refine ⟨_, (pss_cons (ps_set (i := 4) scTW.nd rfl (Or.inl rfl) (pe_ix ix_tup (pv 1) pe_int (fun _ _ => rfl)))
      (pss_cons (ps_if (pt_cmpR op_eq (pv 4) pe_str (nomark _))
      (pss_one (ps_ret (pe_mk D_Tally hr (pa_cons pe_int (pa_cons pe_int (pa_cons pe_int pa_nil))))))
      pss_nil)
      (pss_cons (ps_if (pt_cmpR op_eq (pv 4) pe_str (nomark _))
      pss_never
      pss_nil)
      (pss_cons (ps_setLc (i := 5) (own := [("premise", 10)]) (g := gName 10) (tt := tYes) rfl scTW.nd rfl rfl (sw_true rfl rfl rfl (by decide +kernel)) (pi_list (pe_cd D_premises hr (pa_cons (pv 1) pa_nil))) (blkOk_by (own := [("premise", 10)]) (N := nTW) (sc := defScope sTW) (by decide +kernel)) (fun _ _ _ _ _ => (pg_name (i := 10) scTW.nd rfl (Or.inl rfl))) (fun _ _ _ _ _ => pts_nil) (fun _ _ _ _ _ => (pe_cd D_tally_within hr (pa_cons (pv 0) (pa_cons (pv 10) (pa_cons (pv 2) (pa_cons (pv 3) pa_nil)))))))
      (pss_cons (ps_if (pt_cmpR op_eq (pv 4) pe_str (nomark _))
      (pss_one (ps_ret (pe_meth (pe_op (op_own TT.cl TT.sf D_add hr) (pe_ix ix_list (pv 5) pe_int (fun _ _ => rfl)) (pe_ix ix_list (pv 5) pe_int (fun _ _ => rfl))) TT.cl D_Tally_taller.mt (D_Tally_taller.ok.mono (by first | decide | omega)) hr D_Tally_taller.b .nil pass0 (pa_cons pe_int pa_nil))))
      pss_nil)
      (pss_cons (ps_if (pt_cmpR op_eq (pv 4) pe_str (nomark _))
      (pss_one (ps_ret (pe_meth (pe_op (op_own TT.cl TT.sf D_mul hr) (pe_cd D_boxed_tally hr (pa_cons (pe_ix ix_list (pv 5) pe_int (fun _ _ => rfl)) (pa_cons (pe_ix ix_tup (pv 1) pe_int (fun _ _ => rfl)) pa_nil))) (pe_ix ix_list (pv 5) pe_int (fun _ _ => rfl))) TT.cl D_Tally_taller.mt (D_Tally_taller.ok.mono (by first | decide | omega)) hr D_Tally_taller.b .nil pass0 (pa_cons pe_int pa_nil))))
      pss_nil)
      (pss_cons (ps_if (pt_cmpR op_eq (pv 4) pe_str (nomark _))
      (pss_cons (ps_set (i := 6) scTW.nd rfl (Or.inl rfl) (pe_op op_mul (pe_cd D_copies hr (pa_cons (pe_ix ix_tup (pv 1) pe_int (fun _ _ => rfl)) pa_nil)) (pe_cd D_rank_within hr (pa_cons (pv 0) (pa_cons (pe_ix ix_tup (pv 1) pe_int (fun _ _ => rfl)) (pa_cons (pv 3) pa_nil))))))
        (pss_one (ps_ret (pe_meth (pe_op (op_own TT.cl TT.sf D_mul hr) (pe_cd D_boxed_tally hr (pa_cons (pe_ix ix_list (pv 5) pe_int (fun _ _ => rfl)) (pa_cons (pe_ix ix_tup (pv 1) pe_int (fun _ _ => rfl)) pa_nil))) (pe_ix ix_list (pv 5) pe_int (fun _ _ => rfl))) TT.cl D_Tally_cut.mt (D_Tally_cut.ok.mono (by first | decide | omega)) hr D_Tally_cut.b .nil pass0 (pa_cons (pv 6) pa_nil)))))
      pss_nil)
      (pss_cons (ps_set (i := 7) scTW.nd rfl (Or.inl rfl) (pe_ix ix_list (pv 5) pe_int (fun _ _ => rfl)))
      (pss_cons (ps_if (pt_cmpR op_eq (pv 4) pe_str (nomark _))
      pss_never
      pss_nil)
      (pss_one (ps_ret (pe_meth (pv 7) TT.cl D_Tally_taller.mt (D_Tally_taller.ok.mono (by first | decide | omega)) hr D_Tally_taller.b .nil pass0 (pa_cons pe_int pa_nil))))))))))))), ?_⟩
    obtain ⟨p, rest, rfl, hp⟩ := ht.row
    have z0 : atI (V.str (rowName t) :: rest) ((0 : Nat) : Int) = some (V.str (rowName t)) := atI_nat rfl
    refine ⟨_, rfl, p, _, _, _, rfl, rfl, SqT.of hp, z0, ?_⟩
    rcases row_own t with ⟨r, rfl⟩ | hno
    · refine ⟨_, rfl, rfl, _, rfl, iteT ?_⟩
      exact mk_tal fun z H' s n t => k z H' (But.of s) (Rk.same s) t
    refine ⟨_, rfl, rfl, false, congrArg V.bl hno, iteF ?_⟩
    refine ⟨_, rfl, rfl, false, congrArg V.bl (row_ncite t), iteF ?_⟩
    -- found
    refine ⟨_, rfl, _, t, rfl, ht, fun D xs H1 s1 nD eD hk => ?_⟩
    have Rk1 := Rk.same s1
    have L1 := L.mono s1
    refine ⟨D, rfl, ⟨_, SqL.of eD⟩, fun D2 n2 => ?_⟩
    have d2 : D2 ≠ d := rk_ne Rk1 n2
    have DD : D ≠ D2 := ne_of_none eD n2
    obtain ⟨kv1, hd1⟩ := id Rk1.ex
    have Dd : D ≠ d := ne_of eD hd1 (by intro z; cases z)
    have lk := Paired.length hk
    have kl : (kids t).length ≤ 2 := by cases t <;> simp [kids]
    refine lc_list (K := K) (a := D) (xs := xs) (fun i H' => ∃ zs : List Addr, H' D2 = some (.lst (zs.map V.ref)) ∧ Paired (TalAt C H') zs (((kids t).take i).map tal) ∧ But d H1 H' ∧ RkAt H' d)
      ⟨[], upd_same, .nil, But.of (same_new n2 _), Rk1.new n2 _⟩ (fun i H' _ e => by obtain ⟨_, _, _, b, _⟩ := e; exact SqL.of (b _ _ Dd eD)) (fun i x H2 hx e => ?_) ?_
    · obtain ⟨zs, hz, hP, b2, r2⟩ := e
      obtain ⟨y, hy, hyt⟩ := Paired.get hk hx
      obtain ⟨hh, ho⟩ := kid_ok (List.mem_of_getElem? hy) ok
      refine ⟨rfl, ?_⟩
      have T2 : Tups H H2 := (Tups.of s1).trans (b2.tups hd1 rfl)
      refine ⟨_, rfl, _, rfl, _, rfl, _, rfl, q, a, b, c, d, kn, x, y, rfl, L1.but b2 hd1 o, r2, o, hyt.mono T2, by omega, ho, fun z H4 b4 r4 t4 => ?_⟩
      refine ⟨_, b4 _ _ d2 hz, ?_, zs ++ [z], ?_, ?_, fun u w nu e => ?_, r4.off d2.symm _⟩
      · have := Paired.length hP
        simp only [List.length_map, List.length_take] at this ⊢
        exact Nat.lt_of_le_of_lt (show zs.length ≤ 2 by omega) (by decide)
      · rw [upd_same, List.map_append]
        rfl
      · have e4 := b4 _ _ d2 hz
        have e : ((kids t).take (i + 1)).map tal = ((kids t).take i).map tal ++ [tal y] := by
          rw [List.take_succ, hy, List.map_append]
          rfl
        rw [e]
        exact Paired.app (Paired.imp (fun _ _ g => (TalAt.rk g b4 r2).off e4 _) hP) (.cons (t4.off e4 _) .nil)
      · rw [upd_ne (ne_of_none e n2)]
        exact b4 _ _ nu (b2 _ _ nu e)
    rintro H2 ⟨zs, hz, hP, b2, r2⟩
    rw [lk, List.take_length] at hP
    have T2 : Tups H H2 := (Tups.of s1).trans (b2.tups hd1 rfl)
    have b02 : But d H H2 := (But.of s1).trans b2
    have L2 := L1.but b2 hd1 o
    have ht2 := ht.mono T2
    clear z0
    cases t with
    | own r => exact absurd hno (by show ¬ decide (V.str "own" = V.str "own") = false; decide +kernel)
    | pick r side b =>
      obtain ⟨z1, rfl, t1⟩ := Paired.one hP
      refine ⟨_, rfl, rfl, _, rfl, iteF ?_⟩
      refine ⟨_, rfl, rfl, _, rfl, iteF ?_⟩
      refine ⟨_, rfl, rfl, _, rfl, iteF ?_⟩
      refine ⟨_, rfl, D2, _, _, _, rfl, rfl, SqL.of hz, rfl, ?_⟩
      refine ⟨_, rfl, rfl, _, rfl, iteF ?_⟩
      obtain ⟨dz, hz1⟩ := id t1
      refine ⟨_, rfl, z1, dz, _, rfl, hz1, lk_no _ (by decide +kernel) (by decide +kernel) (by decide +kernel), z1, 1, _, rfl, t1, wide_mul (a := 1) (b := 4000) (by decide) ok.2.p (by decide) (by decide) (by decide), fun z H3 s3 _ t3 => ?_⟩
      exact k z H3 (b02.trans (But.of s3)) (r2.same s3) t3
    | offer a b =>
      obtain ⟨z1, z2, rfl, t1, t2⟩ := Paired.two hP
      refine ⟨_, rfl, rfl, _, rfl, iteT ?_⟩
      obtain ⟨dz1, hz1⟩ := id t1
      obtain ⟨dz2, hz2⟩ := id t2
      refine ⟨_, rfl, D2, _, _, _, rfl, rfl, SqL.of hz, rfl, _, rfl, D2, _, _, _, rfl, rfl, SqL.of hz, rfl, z1, z2, dz1, dz2, _, _, rfl, rfl, hz1, hz2, z1, z2, _, _, rfl, t1, t2, trivial, fun y H3 s3 _ t3 => ?_⟩
      obtain ⟨dy, hy⟩ := id t3
      refine ⟨y, dy, _, rfl, hy, lk_no _ (by decide +kernel) (by decide +kernel) (by decide +kernel), y, 1, _, rfl, t3, wide_mul (a := 1) (b := 4000) (by decide) ok.2.2.p (by decide) (by decide) (by decide), fun z H4 s4 _ t4 => ?_⟩
      exact k z H4 (b02.trans (But.of (s3.trans s4))) (r2.same (s3.trans s4)) t4
    | cut m sn a b =>
      obtain ⟨z1, z2, rfl, t1, t2⟩ := Paired.two hP
      obtain ⟨p', m', s', x, y, e, hp', hm, hs, ha, hb⟩ := id ht2
      cases e
      obtain ⟨oa, ob, bo⟩ := ok
      obtain ⟨c1, c2, _⟩ := id bo
      obtain ⟨sB, sM, s1', sb, sa⟩ := bo.pw (Nat.le_refl _)
      refine ⟨_, rfl, rfl, _, rfl, iteF ?_⟩
      refine ⟨_, rfl, rfl, _, rfl, iteF ?_⟩
      refine ⟨_, rfl, rfl, _, rfl, iteT ?_⟩
      refine ⟨_, rfl, p, _, _, _, rfl, rfl, SqT.of hp', rfl, m', m, rfl, hm, _, rfl, _, rfl, p, _, _, _, rfl, rfl, SqT.of hp', rfl, _, rfl, q, _, _, _, d, _, sn, rfl, L2, r2, o, hs, by cases sn <;> decide, fun H3 b3 r3 => ?_⟩
      have T3 := b3.tups (r2.ex.choose_spec) rfl
      have t1' := t1.rk b3 r2
      have t2' := t2.rk b3 r2
      have hz3 := b3 _ _ d2 hz
      refine ⟨_, _, rfl, rfl, .inl ⟨by omega, by omega⟩, ?_⟩
      refine ⟨_, rfl, D2, _, _, _, rfl, rfl, SqL.of hz3, rfl, _, rfl, p, _, _, _, rfl, rfl, SqT.of (T3 _ _ hp'), rfl, z1, m', _, m, rfl, t1', hm.mono T3, c2, sa, s1', fun j hj => (bo.pw hj).1, fun z H4 s4 t4 => ?_⟩
      obtain ⟨dz, hz4⟩ := id t4
      have t24 := t2'.mono s4
      obtain ⟨dz2, hz24⟩ := id t24
      refine ⟨_, rfl, D2, _, _, _, rfl, rfl, SqL.of (s4 _ _ hz3), rfl, z, z2, dz, dz2, _, _, rfl, rfl, hz4, hz24, z, z2, _, _, rfl, t4, t24, ⟨by rw [boxT_pow]; exact sB, sb⟩, fun y H5 s5 _ t5 => ?_⟩
      obtain ⟨dy, hy⟩ := id t5
      have e1 : ((cop m : Int) * 1) = (cop m : Int) := Int.mul_one _
      refine ⟨y, dy, _, rfl, hy, lk_no _ (by decide +kernel) (by decide +kernel) (by decide +kernel), _, rfl, y, (cop m : Int) * 1, _, rfl, t5, by rw [e1]; exact cop_mul c2 (by rw [boxT_pow]; exact sM), fun z H6 s6 _ t6 => ?_⟩
      rw [e1] at t6
      exact k z H6 ((b02.trans b3).trans (But.of (s4.trans (s5.trans s6)))) (r3.same (s4.trans (s5.trans s6))) t6
    | pay r m a b =>
      obtain ⟨z1, z2, rfl, t1, t2⟩ := Paired.two hP
      obtain ⟨p', m', x, y, e, hp', hm, ha, hb⟩ := id ht2
      cases e
      obtain ⟨oa, ob, bo⟩ := ok
      obtain ⟨c1, c2, _⟩ := id bo
      obtain ⟨sB, sM, s1', sb, sa⟩ := bo.pw (Nat.le_refl _)
      refine ⟨_, rfl, rfl, _, rfl, iteF ?_⟩
      refine ⟨_, rfl, rfl, _, rfl, iteT ?_⟩
      refine ⟨_, rfl, D2, _, _, _, rfl, rfl, SqL.of hz, rfl, _, rfl, p, _, _, _, rfl, rfl, SqT.of hp', rfl, z1, m', _, m, rfl, t1, hm, c2, sa, s1', fun j hj => (bo.pw hj).1, fun z H4 s4 t4 => ?_⟩
      obtain ⟨dz, hz4⟩ := id t4
      have t24 := t2.mono s4
      obtain ⟨dz2, hz24⟩ := id t24
      refine ⟨_, rfl, D2, _, _, _, rfl, rfl, SqL.of (s4 _ _ hz), rfl, z, z2, dz, dz2, _, _, rfl, rfl, hz4, hz24, z, z2, _, _, rfl, t4, t24, ⟨by rw [boxT_pow]; exact sB, sb⟩, fun y H5 s5 _ t5 => ?_⟩
      obtain ⟨dy, hy⟩ := id t5
      refine ⟨y, dy, _, rfl, hy, lk_no _ (by decide +kernel) (by decide +kernel) (by decide +kernel), y, 1, _, rfl, t5, wide_mul (a := 1) (b := 4000) (by decide) (by rw [boxT_pow]; exact sM.p) (by decide) (by decide) (by decide), fun z H6 s6 _ t6 => ?_⟩
      exact k z H6 (b02.trans (But.of (s4.trans (s5.trans s6)))) (r2.same (s4.trans (s5.trans s6))) t6
theorem no_tw : FnOk P w K mg base CX0 5 f fd ["library", "derivation", "known", "ranks"] (spTW C CL 0) := by
  have no : ∀ vs H Q E, ¬ spTW C CL 0 vs H Q E := fun vs H Q E h => by
    obtain ⟨q, a, b, c, d, kn, v, t, _, _, _, _, _, hn, _⟩ := h
    omega
  exact ⟨fun vs H Q E h => absurd h (no vs H Q E), fun A outer s H args us vs Q E _ _ _ _ h => absurd h (no vs H Q E)⟩
/-! ## tally -/
def spTallyF (C CL : Addr) : Sp := fun vs H Q _ => ∃ (q a b c : Addr) (v : V) (t : Tr), vs = [.ref q, v] ∧ LibAt CL H q a b c ∧ TrAt H v t ∧ hgt t < 17 ∧ siz t ≤ 100000 ∧ Ok2 t ∧ ∀ (z : Addr) (H' : Hp), Same H H' → TalAt C H' z (tal t) → Q (.ref z) H'
abbrev nTally : List Str := ["library", "derivation", "known", "ranks", "key", "rider"]
theorem scTally : FnScope nTally ["library", "derivation"] (defScope sTally) := ⟨rfl, rfl, rfl, by decide +kernel, rfl, by decide +kernel, by decide +kernel⟩
theorem ok_tallyf (A : At K mg "tally" sTally ["library", "derivation"] f fd) (D_riders : Def P w K mg base 3 "riders" ["library", "derivation"] (spRiders CL)) (D_tally_within : Def P w K mg base 22 "tally_within" ["library", "derivation", "known", "ranks"] (spTW C CL 17)) :
    FnOk P w K mg base CX0 23 f fd ["library", "derivation"] (spTallyF C CL) := by
  refine A.fn.ok scTally (fun vs H Q E h => ?_) (fun cdv A outer s H vs Q E hr h => ?_)
  · obtain ⟨q, a, b, c, v, t, rfl, _⟩ := h
    rfl
  · obtain ⟨q, a, b, c, v, t, rfl, L, ht, hh, hz, ok, k⟩ := h
    refine ⟨_, (pss_cons (ps_set (i := 2) scTally.nd rfl (Or.inl rfl) pe_dnewK)
      (pss_cons (ps_set (i := 3) scTally.nd rfl (Or.inl rfl) pe_dnewK)
      (pss_cons (ps_for PassesOwn.never rfl (pi_list (pe_cd D_riders hr (pa_cons (pv 0) (pa_cons (pv 1) pa_nil)))) (pg_tup rfl (pgs_cons (pg_name (i := 4) scTally.nd rfl (Or.inl rfl)) (pgs_cons (pg_name (i := 5) scTally.nd rfl (Or.inl rfl)) pgs_nil)))
      pss_never)
      (pss_one (ps_ret (pe_cd D_tally_within hr (pa_cons (pv 0) (pa_cons (pv 1) (pa_cons (pv 2) (pa_cons (pv 3) pa_nil)))))))))), ?_⟩
    intro d1 n1
    have s1 := same_new n1 (.dK [])
    intro d2 n2
    have s2 := same_new n2 (.dK [])
    have s12 := s1.trans s2
    refine ⟨_, rfl, _, rfl, q, a, b, c, v, t, rfl, L.mono s12, ht.mono (Tups.of s12), hz, fun D H1 s3 n3 e3 => ?_⟩
    have s13 := s12.trans s3
    refine ⟨D, rfl, ⟨_, SqL.of e3⟩, for_list (K := K) (a := D) (xs := []) (fun i σ' H' => σ' = [some (.ref q), some v, some (.ref d1), some (.ref d2), none, none] ∧ H' = H1) ⟨rfl, rfl⟩ (fun i σ' H' _ e => by rw [e.2]; exact SqL.of e3) (fun i x σ' H' e => by simp at e) ?_⟩
    rintro σ' H' ⟨rfl, rfl⟩
    have off : Off d2 a b c := ⟨ne_of_none L.w (s1.free n2), ne_of_none L.m (s1.free n2), ne_of_none L.e (s1.free n2)⟩
    refine ⟨_, rfl, _, rfl, _, rfl, _, rfl, q, a, b, c, d2, _, v, t, rfl, L.mono s13, .inl (s3 _ _ upd_same), off, ht.mono (Tups.of s13), hh, ok, fun z H4 b4 r4 t4 => ?_⟩
    exact k z H4 (s1.trans (((But.of (same_new n2 (.dK []))).trans ((But.of s3).trans b4)).same n2)) t4
/-! ## greatest play -/
def spGW (n : Nat) : Sp := fun vs H Q _ => ∃ (l kn v : V) (t : Tr), vs = [l, v, kn] ∧ TrAt H v t ∧ hgt t < n ∧ Ok2 t ∧ ∀ (H' : Hp), Same H H' → Q (.int (gr t)) H'
abbrev nGW : List Str := ["library", "derivation", "known", "name", "found", "total", "key", "_", "premise"]
theorem scGW : FnScope nGW ["library", "derivation", "known"] (defScope sGW) := ⟨rfl, rfl, rfl, by decide +kernel, rfl, by decide +kernel, by decide +kernel⟩
theorem ok_gw {n : Nat} (A : At K mg "greatest_within" sGW ["library", "derivation", "known"] f fd) (T : Txt mg) (R : FnOk P w K mg base CX0 (n + 1) f fd ["library", "derivation", "known"] (spGW n))
    (D_premises : Def P w K mg base 1 "premises" ["derivation"] spPrem) (D_boxed_rows : Def P w K mg base 1 "boxed_rows" ["rows", "kind"] spBR) : FnOk P w K mg base CX0 (n + 2) f fd ["library", "derivation", "known"] (spGW (n + 1)) := by
  have D_greatest_within := A.df R
  refine A.fn.ok scGW (fun vs H Q E h => ?_) (fun cdv A outer s H vs Q E hr h => ?_)
  · obtain ⟨l, kn, v, t, rfl, _⟩ := h
    rfl
  · obtain ⟨l, kn, v, t, rfl, ht, hn, ok, k⟩ := h
    refine ⟨_, (pss_cons (ps_set (i := 3) scGW.nd rfl (Or.inl rfl) (pe_ix ix_tup (pv 1) pe_int (fun _ _ => rfl)))
      (pss_cons (ps_if (pt_cmpR op_eq (pv 3) pe_str (nomark _))
      (pss_one (ps_ret pe_int))
      pss_nil)
      (pss_cons (ps_if (pt_cmpR op_eq (pv 3) pe_str (nomark _))
      pss_never
      pss_nil)
      (pss_cons (ps_setLc (i := 4) (own := [("premise", 8)]) (g := gName 8) (tt := tYes) rfl scGW.nd rfl rfl (sw_true rfl rfl rfl (by decide +kernel)) (pi_list (pe_cd D_premises hr (pa_cons (pv 1) pa_nil))) (blkOk_by (own := [("premise", 8)]) (N := nGW) (sc := defScope sGW) (by decide +kernel)) (fun _ _ _ _ _ => (pg_name (i := 8) scGW.nd rfl (Or.inl rfl))) (fun _ _ _ _ _ => pts_nil) (fun _ _ _ _ _ => (pe_cd D_greatest_within hr (pa_cons (pv 0) (pa_cons (pv 8) (pa_cons (pv 2) pa_nil))))))
      (pss_cons (ps_if (pt_cmpR op_eq (pv 3) pe_str (nomark _))
      (pss_one (ps_ret (pe_op op_add (pe_callB (call_max2 rfl) rfl T.max (by decide +kernel) (pa_cons (pe_ix ix_list (pv 4) pe_int (fun _ _ => rfl)) (pa_cons (pe_ix ix_list (pv 4) pe_int (fun _ _ => rfl)) pa_nil))) pe_int)))
      pss_nil)
      (pss_cons (ps_if (pt_cmpR op_eq (pv 3) pe_str (nomark _))
      (pss_one (ps_ret (pe_op op_add (pe_op op_add (pe_cd D_boxed_rows hr (pa_cons (pe_ix ix_list (pv 4) pe_int (fun _ _ => rfl)) (pa_cons (pe_ix ix_tup (pv 1) pe_int (fun _ _ => rfl)) pa_nil))) (pe_ix ix_list (pv 4) pe_int (fun _ _ => rfl))) pe_int)))
      pss_nil)
      (pss_cons (ps_if (pt_cmpR op_eq (pv 3) pe_str (nomark _))
      (pss_one (ps_ret (pe_op op_add (pe_cd D_boxed_rows hr (pa_cons (pe_ix ix_list (pv 4) pe_int (fun _ _ => rfl)) (pa_cons (pe_ix ix_tup (pv 1) pe_int (fun _ _ => rfl)) pa_nil))) (pe_ix ix_list (pv 4) pe_int (fun _ _ => rfl)))))
      pss_nil)
      (pss_cons (ps_set (i := 5) scGW.nd rfl (Or.inl rfl) (pe_op op_add (pe_ix ix_list (pv 4) pe_int (fun _ _ => rfl)) pe_int))
      (pss_cons (ps_if (pt_cmpR op_eq (pv 3) pe_str (nomark _))
      pss_never
      pss_nil)
      (pss_one (ps_ret (pv 5)))))))))))), ?_⟩
    obtain ⟨p, rest, rfl, hp⟩ := ht.row
    have z0 : atI (V.str (rowName t) :: rest) ((0 : Nat) : Int) = some (V.str (rowName t)) := atI_nat rfl
    refine ⟨_, rfl, p, _, _, _, rfl, rfl, SqT.of hp, z0, ?_⟩
    rcases row_own t with ⟨r, rfl⟩ | hno
    · refine ⟨_, rfl, rfl, _, rfl, iteT ?_⟩
      exact k H (Same.refl _)
    refine ⟨_, rfl, rfl, false, congrArg V.bl hno, iteF ?_⟩
    refine ⟨_, rfl, rfl, false, congrArg V.bl (row_ncite t), iteF ?_⟩
    -- found
    refine ⟨_, rfl, _, t, rfl, ht, fun D xs H1 s1 nD eD hk => ?_⟩
    refine ⟨D, rfl, ⟨_, SqL.of eD⟩, fun D2 n2 => ?_⟩
    have DD : D ≠ D2 := ne_of_none eD n2
    have lk := Paired.length hk
    have kl : (kids t).length ≤ 2 := by cases t <;> simp [kids]
    refine lc_list (K := K) (a := D) (xs := xs) (fun i H' => H' D2 = some (.lst (((kids t).take i).map fun y => V.int (gr y))) ∧ Same H1 H')
      ⟨upd_same, same_new n2 _⟩ (fun i H' _ e => SqL.of (e.2 _ _ eD)) (fun i x H2 hx e => ?_) ?_
    · obtain ⟨hz, s2⟩ := e
      obtain ⟨y, hy, hyt⟩ := Paired.get hk hx
      obtain ⟨hh, ho⟩ := kid_ok (List.mem_of_getElem? hy) ok
      refine ⟨rfl, ?_⟩
      refine ⟨_, rfl, _, rfl, _, rfl, l, kn, x, y, rfl, hyt.mono (Tups.of (s1.trans s2)), by omega, ho, fun H4 s4 => ?_⟩
      refine ⟨_, s4 _ _ hz, ?_, ?_, fun u w e => ?_⟩
      · simp only [List.length_map, List.length_take]
        exact Nat.lt_of_le_of_lt (show _ ≤ 2 by omega) (by decide)
      · rw [upd_same, List.take_succ, hy, List.map_append]
        rfl
      · rw [upd_ne (ne_of_none e n2)]
        exact s4 _ _ (s2 _ _ e)
    rintro H2 ⟨hz, s2⟩
    rw [lk, List.take_length] at hz
    have s02 := s1.trans s2
    have ht2 := ht.mono (Tups.of s02)
    clear z0
    cases t with
    | own r => exact absurd hno (by show ¬ decide (V.str "own" = V.str "own") = false; decide +kernel)
    | pick r side b =>
      refine ⟨_, rfl, rfl, _, rfl, iteF ?_⟩
      refine ⟨_, rfl, rfl, _, rfl, iteF ?_⟩
      refine ⟨_, rfl, rfl, _, rfl, iteF ?_⟩
      refine ⟨_, rfl, D2, _, _, _, rfl, rfl, SqL.of hz, rfl, _, _, rfl, rfl, ?_⟩
      refine ⟨_, rfl, rfl, _, rfl, iteF ?_⟩
      exact ⟨_, rfl, k H2 s02⟩
    | offer a b =>
      refine ⟨_, rfl, rfl, _, rfl, iteT ?_⟩
      refine ⟨_, rfl, D2, _, _, _, rfl, rfl, SqL.of hz, rfl, _, rfl, D2, _, _, _, rfl, rfl, SqL.of hz, rfl, _, _, rfl, _, _, rfl, rfl, ?_⟩
      exact k H2 s02
    | cut m sn a b =>
      obtain ⟨p', m', s', x, y, e, hp', hm, hs, ha, hb⟩ := id ht2
      cases e
      obtain ⟨oa, ob, bo⟩ := ok
      obtain ⟨c1, c2, _⟩ := id bo
      refine ⟨_, rfl, rfl, _, rfl, iteF ?_⟩
      refine ⟨_, rfl, rfl, _, rfl, iteF ?_⟩
      refine ⟨_, rfl, rfl, _, rfl, iteT ?_⟩
      refine ⟨_, rfl, D2, _, _, _, rfl, rfl, SqL.of hz, rfl, _, rfl, p, _, _, _, rfl, rfl, SqT.of hp', rfl, gr a, m', m, rfl, hm, c2, ?_⟩
      refine ⟨_, rfl, D2, _, _, _, rfl, rfl, SqL.of hz, rfl, _, _, rfl, rfl, ?_⟩
      exact k H2 s02
    | pay r m a b =>
      obtain ⟨p', m', x, y, e, hp', hm, ha, hb⟩ := id ht2
      cases e
      obtain ⟨oa, ob, bo⟩ := ok
      obtain ⟨c1, c2, _⟩ := id bo
      refine ⟨_, rfl, rfl, _, rfl, iteF ?_⟩
      refine ⟨_, rfl, rfl, _, rfl, iteT ?_⟩
      refine ⟨_, rfl, D2, _, _, _, rfl, rfl, SqL.of hz, rfl, _, rfl, p, _, _, _, rfl, rfl, SqT.of hp', rfl, gr a, m', m, rfl, hm, c2, ?_⟩
      refine ⟨_, rfl, D2, _, _, _, rfl, rfl, SqL.of hz, rfl, _, _, rfl, rfl, _, _, rfl, rfl, ?_⟩
      exact k H2 s02
theorem no_gw : FnOk P w K mg base CX0 1 f fd ["library", "derivation", "known"] (spGW 0) := by
  have no : ∀ vs H Q E, ¬ spGW 0 vs H Q E := fun vs H Q E h => by
    obtain ⟨l, kn, v, t, _, _, hn, _⟩ := h
    omega
  exact ⟨fun vs H Q E h => absurd h (no vs H Q E), fun A outer s H args us vs Q E _ _ _ _ h => absurd h (no vs H Q E)⟩
def spGPF (CL : Addr) : Sp := fun vs H Q _ => ∃ (q a b c : Addr) (v : V) (t : Tr), vs = [.ref q, v] ∧ LibAt CL H q a b c ∧ TrAt H v t ∧ hgt t < 17 ∧ siz t ≤ 100000 ∧ Ok2 t ∧ ∀ (H' : Hp), Same H H' → Q (.int (gr t)) H'
abbrev nGP : List Str := ["library", "derivation", "known", "key", "rider"]
theorem scGP : FnScope nGP ["library", "derivation"] (defScope sGP) := ⟨rfl, rfl, rfl, by decide +kernel, rfl, by decide +kernel, by decide +kernel⟩
theorem ok_gpf (A : At K mg "greatest_play" sGP ["library", "derivation"] f fd) (D_riders : Def P w K mg base 3 "riders" ["library", "derivation"] (spRiders CL)) (D_greatest_within : Def P w K mg base 18 "greatest_within" ["library", "derivation", "known"] (spGW 17)) :
    FnOk P w K mg base CX0 19 f fd ["library", "derivation"] (spGPF CL) := by
  refine A.fn.ok scGP (fun vs H Q E h => ?_) (fun cdv A outer s H vs Q E hr h => ?_)
  · obtain ⟨q, a, b, c, v, t, rfl, _⟩ := h
    rfl
  · obtain ⟨q, a, b, c, v, t, rfl, L, ht, hh, hz, ok, k⟩ := h
    refine ⟨_, (pss_cons (ps_set (i := 2) scGP.nd rfl (Or.inl rfl) pe_dnewK)
      (pss_cons (ps_for PassesOwn.never rfl (pi_list (pe_cd D_riders hr (pa_cons (pv 0) (pa_cons (pv 1) pa_nil)))) (pg_tup rfl (pgs_cons (pg_name (i := 3) scGP.nd rfl (Or.inl rfl)) (pgs_cons (pg_name (i := 4) scGP.nd rfl (Or.inl rfl)) pgs_nil)))
      pss_never)
      (pss_one (ps_ret (pe_cd D_greatest_within hr (pa_cons (pv 0) (pa_cons (pv 1) (pa_cons (pv 2) pa_nil)))))))), ?_⟩
    intro d1 n1
    have s1 := same_new n1 (.dK [])
    refine ⟨_, rfl, _, rfl, q, a, b, c, v, t, rfl, L.mono s1, ht.mono (Tups.of s1), hz, fun D H1 s3 n3 e3 => ?_⟩
    have s13 := s1.trans s3
    refine ⟨D, rfl, ⟨_, SqL.of e3⟩, for_list (K := K) (a := D) (xs := []) (fun i σ' H' => σ' = [some (.ref q), some v, some (.ref d1), none, none] ∧ H' = H1) ⟨rfl, rfl⟩ (fun i σ' H' _ e => by rw [e.2]; exact SqL.of e3) (fun i x σ' H' e => by simp at e) ?_⟩
    rintro σ' H' ⟨rfl, rfl⟩
    refine ⟨_, rfl, _, rfl, _, rfl, _, _, v, t, rfl, ht.mono (Tups.of s13), hh, ok, fun H4 s4 => ?_⟩
    exact k H4 (s13.trans s4)
end
end K77

/-! the mathematics of the lists of plays -/
namespace K77
open PySem L2 HL
abbrev Pl := Int × Int
def pls (x y : Pl) : Pl := (x.1 + y.1, x.2 + y.2)
def longerM (l : List Pl) (r k : Int) : List Pl := l.map fun x => (x.1 + r, x.2 + k)
def joinedM (xs ys : List Pl) : List Pl := xs.flatMap fun x => ys.map (pls x)
def boxIt (w : List Pl) : Nat → List Pl
  | 0 => [(0, 0)]
  | n + 1 => joinedM (boxIt w n) w
def boxM (l : List Pl) : Md → List Pl
  | .once => l
  | .st n _ => boxIt (longerM l 1 0) n
def cutM (f : Int) (l : List Pl) : List Pl := l.map fun x => (x.1, x.2 + f * (x.1 - 1))
def plM : Tr → List Pl
  | .own _ => [(1, 0)]
  | .pick _ _ b => longerM (plM b) 1 0
  | .offer a b => longerM (plM a ++ plM b) 1 0
  | .cut m _ a b => cutM (cop m : Int) (joinedM (boxM (plM a) m) (plM b))
  | .pay _ m a b => longerM (joinedM (boxM (plM a) m) (plM b)) 1 0
/-! ## lengths -/
theorem longerM_len (l : List Pl) (r k : Int) : (longerM l r k).length = l.length := List.length_map ..
theorem joinedM_len : ∀ xs ys : List Pl, (joinedM xs ys).length = xs.length * ys.length
  | [], ys => (Nat.zero_mul _).symm
  | x :: xs, ys => by
    show (ys.map (pls x) ++ joinedM xs ys).length = (xs.length + 1) * ys.length
    rw [List.length_append, joinedM_len xs ys, List.length_map, Nat.add_mul, Nat.one_mul, Nat.add_comm]
theorem boxIt_len (w : List Pl) : ∀ n, (boxIt w n).length = w.length ^ n
  | 0 => rfl
  | n + 1 => by
    show (joinedM (boxIt w n) w).length = _
    rw [joinedM_len, boxIt_len w n, Nat.pow_succ]
theorem boxM_len (l : List Pl) : ∀ m, (boxM l m).length = l.length ^ cop m
  | .once => (Nat.pow_one _).symm
  | .st n _ => by
    show (boxIt _ n).length = l.length ^ n
    rw [boxIt_len, longerM_len]
theorem pow_p (x : T3) : ∀ n, (x.pow n).p = x.p ^ n
  | 0 => (Int.pow_zero _).symm
  | n + 1 => by
    show (x.pow n).p * x.p = _
    rw [pow_p x n, Int.pow_succ]
theorem boxT_p (x : T3) : ∀ m, (boxT x m).p = x.p ^ cop m
  | .once => by show x.p = x.p ^ 1; rw [Int.pow_succ, Int.pow_zero, Int.one_mul]
  | .st n _ => pow_p (x.up 1) n
theorem plM_len : ∀ t : Tr, ((plM t).length : Int) = (tal t).p
  | .own _ => rfl
  | .pick _ _ b => by
    show ((longerM (plM b) 1 0).length : Int) = (tal b).p
    rw [longerM_len, plM_len b]
  | .offer a b => by
    show ((longerM (plM a ++ plM b) 1 0).length : Int) = (tal a).p + (tal b).p
    rw [longerM_len, List.length_append, Int.natCast_add, plM_len a, plM_len b]
  | .cut m _ a b => by
    show ((cutM _ (joinedM (boxM (plM a) m) (plM b))).length : Int) = (boxT (tal a) m).p * (tal b).p
    rw [show (cutM (cop m : Int) (joinedM (boxM (plM a) m) (plM b))).length = _ from List.length_map .., joinedM_len, boxM_len, boxT_p, Int.natCast_mul, Int.natCast_pow, plM_len a, plM_len b]
  | .pay _ m a b => by
    show ((longerM (joinedM (boxM (plM a) m) (plM b)) 1 0).length : Int) = (boxT (tal a) m).p * (tal b).p
    rw [longerM_len, joinedM_len, boxM_len, boxT_p, Int.natCast_mul, Int.natCast_pow, plM_len a, plM_len b]
theorem plM_pos : ∀ t : Tr, 1 ≤ (plM t).length
  | .own _ => Nat.le_refl _
  | .pick _ _ b => by
    show 1 ≤ (longerM (plM b) 1 0).length
    rw [longerM_len]
    exact plM_pos b
  | .offer a b => by
    show 1 ≤ (longerM (plM a ++ plM b) 1 0).length
    rw [longerM_len, List.length_append]
    have := plM_pos a
    omega
  | .cut m _ a b => by
    show 1 ≤ (cutM _ (joinedM (boxM (plM a) m) (plM b))).length
    rw [show (cutM (cop m : Int) (joinedM (boxM (plM a) m) (plM b))).length = _ from List.length_map .., joinedM_len, boxM_len]
    exact Nat.mul_le_mul (Nat.one_le_pow _ _ (plM_pos a)) (plM_pos b)
  | .pay _ m a b => by
    show 1 ≤ (longerM (joinedM (boxM (plM a) m) (plM b)) 1 0).length
    rw [longerM_len, joinedM_len, boxM_len]
    exact Nat.mul_le_mul (Nat.one_le_pow _ _ (plM_pos a)) (plM_pos b)
/-! ## rows and loads of each play -/
/-- rows between 1 and R, loads between 0 and c times the rows -/
def Rows (l : List Pl) (lo R c : Int) : Prop := ∀ x ∈ l, lo ≤ x.1 ∧ x.1 ≤ R ∧ 0 ≤ x.2 ∧ x.2 ≤ c * x.1
theorem Rows.mono {l : List Pl} {lo lo' R R' c c' : Int} (h : Rows l lo R c) (h0 : 0 ≤ lo) (hl : lo' ≤ lo) (hR : R ≤ R') (hc : c ≤ c') : Rows l lo' R' c' := fun x hx => by
  obtain ⟨a, b, e, f⟩ := h x hx
  exact ⟨by omega, by omega, e, Int.le_trans f (Int.mul_le_mul_of_nonneg_right hc (by omega))⟩
theorem Rows.longer {l : List Pl} {lo R c : Int} (h : Rows l lo R c) (hc : 0 ≤ c) : Rows (longerM l 1 0) (lo + 1) (R + 1) c := fun x hx => by
  obtain ⟨y, hy, rfl⟩ := List.mem_map.mp hx
  obtain ⟨a, b, e, f⟩ := h y hy
  have g : c * (y.1 + 1) = c * y.1 + c := by grind
  exact ⟨by show lo + 1 ≤ y.1 + 1; omega, by show y.1 + 1 ≤ R + 1; omega, by show 0 ≤ y.2 + 0; omega, by show y.2 + 0 ≤ c * (y.1 + 1); omega⟩
theorem Rows.joined {xs ys : List Pl} {lo lo' R R' c : Int} (h : Rows xs lo R c) (k : Rows ys lo' R' c) : Rows (joinedM xs ys) (lo + lo') (R + R') c := fun z hz => by
  obtain ⟨x, hx, hz⟩ := List.mem_flatMap.mp hz
  obtain ⟨y, hy, rfl⟩ := List.mem_map.mp hz
  obtain ⟨a, b, e, f⟩ := h x hx
  obtain ⟨a', b', e', f'⟩ := k y hy
  have g : c * (x.1 + y.1) = c * x.1 + c * y.1 := by grind
  exact ⟨by show lo + lo' ≤ x.1 + y.1; omega, by show x.1 + y.1 ≤ R + R'; omega, by show 0 ≤ x.2 + y.2; omega, by show x.2 + y.2 ≤ c * (x.1 + y.1); omega⟩
theorem Rows.app {xs ys : List Pl} {lo R c : Int} (h : Rows xs lo R c) (k : Rows ys lo R c) : Rows (xs ++ ys) lo R c := fun z hz => (List.mem_append.mp hz).elim (h z) (k z)
theorem Rows.boxIt {l : List Pl} {lo R c : Int} (h : Rows l lo R c) (hlo : 0 ≤ lo) (hc : 0 ≤ c) : ∀ n : Nat, Rows (boxIt l n) 0 (n * R) c
  | 0 => fun x hx => by
    obtain rfl : x = (0, 0) := by simpa [K77.boxIt] using hx
    exact ⟨Int.le_refl _, by simp, Int.le_refl _, by simp⟩
  | n + 1 => by
    have := (Rows.boxIt h hlo hc n).joined h
    refine this.mono (by omega) (by omega) (Int.le_of_eq ?_) (Int.le_refl _)
    rw [Int.natCast_succ]
    grind
theorem Rows.box {l : List Pl} {R c : Int} (h : Rows l 1 R c) (hR : 1 ≤ R) (hc : 0 ≤ c) : ∀ m : Md, Rows (boxM l m) 0 (boxR R m) c
  | .once => h.mono (by decide) (by decide) (Int.le_refl _) (Int.le_refl _)
  | .st n _ => (h.longer hc).boxIt (by decide) hc n
theorem Rows.cut {l : List Pl} {R c f : Int} (h : Rows l 1 R c) (hf : 0 ≤ f) : Rows (cutM f l) 1 R (c + f) := fun x hx => by
  obtain ⟨y, hy, rfl⟩ := List.mem_map.mp hx
  obtain ⟨a, b, e, g⟩ := h y hy
  have k : (c + f) * y.1 = c * y.1 + f * y.1 := by grind
  have k2 : f * (y.1 - 1) = f * y.1 - f := by grind
  have k3 : 0 ≤ f * (y.1 - 1) := Int.mul_nonneg hf (by omega)
  exact ⟨a, b, by show 0 ≤ y.2 + f * (y.1 - 1); omega, by show y.2 + f * (y.1 - 1) ≤ (c + f) * y.1; omega⟩
theorem gr_pos : ∀ t : Tr, 1 ≤ gr t
  | .own _ => Int.le_refl _
  | .pick _ _ b => by have := gr_pos b; show 1 ≤ gr b + 1; omega
  | .offer a b => by
    have := gr_pos a
    have := gr_pos b
    show 1 ≤ (if gr b > gr a then gr b else gr a) + 1
    split <;> omega
  | .cut m _ a b => by
    have := gr_pos a
    have := gr_pos b
    show 1 ≤ boxR (gr a) m + gr b
    have : 0 ≤ boxR (gr a) m := by
      cases m with
      | once => show 0 ≤ gr a; omega
      | st n d => exact Int.mul_nonneg (by omega) (by omega)
    omega
  | .pay _ m a b => by
    have := gr_pos a
    have := gr_pos b
    show 1 ≤ boxR (gr a) m + gr b + 1
    have : 0 ≤ boxR (gr a) m := by
      cases m with
      | once => show 0 ≤ gr a; omega
      | st n d => exact Int.mul_nonneg (by omega) (by omega)
    omega
/-- 400 for each row that lies above -/
theorem plM_rows : ∀ t : Tr, Ok2 t → Rows (plM t) 1 (gr t) (400 * hgt t)
  | .own _, _ => fun x hx => by
    obtain rfl : x = (1, 0) := by simpa [plM] using hx
    exact ⟨Int.le_refl _, Int.le_refl _, Int.le_refl _, by show (0 : Int) ≤ 400 * ((0 : Nat) : Int) * 1; decide⟩
  | .pick _ _ b, o => ((plM_rows b o.1).longer (by omega)).mono (by decide) (by decide) (Int.le_refl _) (by show (400 : Int) * (hgt b : Nat) ≤ 400 * ((hgt b + 1 : Nat) : Int); omega)
  | .offer a b, o => by
    have h1 := plM_rows a o.1
    have h2 := plM_rows b o.2.1
    have k1 : Rows (plM a) 1 (if gr b > gr a then gr b else gr a) (400 * (hgt (.offer a b) : Nat)) := h1.mono (by decide) (by decide) (by split <;> omega) (by show (400 : Int) * (hgt a : Nat) ≤ 400 * ((max (hgt a) (hgt b) + 1 : Nat) : Int); omega)
    have k2 : Rows (plM b) 1 (if gr b > gr a then gr b else gr a) (400 * (hgt (.offer a b) : Nat)) := h2.mono (by decide) (by decide) (by split <;> omega) (by show (400 : Int) * (hgt b : Nat) ≤ 400 * ((max (hgt a) (hgt b) + 1 : Nat) : Int); omega)
    exact ((k1.app k2).longer (by omega)).mono (by decide) (by decide) (Int.le_refl _) (Int.le_refl _)
  | .cut m s a b, o => by
    have h1 := plM_rows a o.1
    have h2 := plM_rows b o.2.1
    obtain ⟨c1, c2, _⟩ := o.2.2
    have k1 : Rows (plM a) 1 (gr a) (400 * (max (hgt a) (hgt b) : Nat)) := h1.mono (by decide) (by decide) (Int.le_refl _) (by omega)
    have k2 : Rows (plM b) 1 (gr b) (400 * (max (hgt a) (hgt b) : Nat)) := h2.mono (by decide) (by decide) (Int.le_refl _) (by omega)
    have k3 := (k1.box (gr_pos a) (by omega) m).joined k2
    exact (k3.cut (f := (cop m : Int)) (by omega)).mono (by decide) (by decide) (Int.le_refl _) (by show _ ≤ (400 : Int) * ((max (hgt a) (hgt b) + 1 : Nat) : Int); omega)
  | .pay r m a b, o => by
    have h1 := plM_rows a o.1
    have h2 := plM_rows b o.2.1
    have k1 : Rows (plM a) 1 (gr a) (400 * (max (hgt a) (hgt b) : Nat)) := h1.mono (by decide) (by decide) (Int.le_refl _) (by omega)
    have k2 : Rows (plM b) 1 (gr b) (400 * (max (hgt a) (hgt b) : Nat)) := h2.mono (by decide) (by decide) (Int.le_refl _) (by omega)
    have k3 := (k1.box (gr_pos a) (by omega) m).joined k2
    exact (k3.longer (by omega)).mono (by decide) (by decide) (Int.le_refl _) (by show (400 : Int) * _ ≤ (400 : Int) * ((max (hgt a) (hgt b) + 1 : Nat) : Int); omega)
/-! ## what the walk of plays needs -/
def Both3 (m : Md) (a b : Tr) : Prop := cop m ≤ 400 ∧ (∀ k, k ≤ cop m → (plM a).length ^ k ≤ 5000) ∧ (plM a).length ^ cop m * (plM b).length ≤ 5000 ∧ Rows (joinedM (boxM (plM a) m) (plM b)) 1 9000 10000000 ∧ 1 ≤ cop m
def Ok3 : Tr → Prop
  | .own _ => True
  | .pick _ _ b => Ok3 b ∧ (plM b).length ≤ 5000
  | .offer a b => Ok3 a ∧ Ok3 b ∧ (plM a).length + (plM b).length ≤ 5000
  | .cut m _ a b => Ok3 a ∧ Ok3 b ∧ Both3 m a b
  | .pay _ m a b => Ok3 a ∧ Ok3 b ∧ Both3 m a b
theorem both3 {m : Md} {a b : Tr} (o1 : Ok2 a) (o2 : Ok2 b) (h1 : hgt a ≤ 20) (h2 : hgt b ≤ 20) (c1 : 1 ≤ cop m) (c2 : cop m ≤ 400) (hp : (plM a).length ^ cop m * (plM b).length ≤ 5000) (hg : boxR (gr a) m + gr b ≤ 9000) :
    Both3 m a b ∧ (plM a).length ≤ 5000 ∧ (plM b).length ≤ 5000 ∧ gr a ≤ 9000 ∧ gr b ≤ 9000 := by
  have pa := plM_pos a
  have pb := plM_pos b
  have ga := gr_pos a
  have gb := gr_pos b
  have q1 : (plM a).length ^ cop m ≤ 5000 := Nat.le_trans (by have := Nat.mul_le_mul_left ((plM a).length ^ cop m) pb; omega) hp
  have q2 : (plM b).length ≤ 5000 := Nat.le_trans (by have := Nat.mul_le_mul_right (plM b).length (Nat.one_le_pow (cop m) _ pa); omega) hp
  have q3 : ∀ k, k ≤ cop m → (plM a).length ^ k ≤ 5000 := fun k hk => Nat.le_trans (Nat.pow_le_pow_right pa hk) q1
  have q4 : (plM a).length ≤ 5000 := by have := q3 1 c1; rw [Nat.pow_one] at this; exact this
  have k1 : Rows (plM a) 1 (gr a) (400 * (20 : Nat)) := (plM_rows a o1).mono (by decide) (by decide) (Int.le_refl _) (by omega)
  have k2 : Rows (plM b) 1 (gr b) (400 * (20 : Nat)) := (plM_rows b o2).mono (by decide) (by decide) (Int.le_refl _) (by omega)
  have g1 : gr a ≤ boxR (gr a) m := by
    cases m with
    | once => exact Int.le_refl _
    | st n d =>
      have c1' : 1 ≤ n := c1
      have : 1 * (gr a + 1) ≤ (n : Int) * (gr a + 1) := Int.mul_le_mul_of_nonneg_right (by omega) (by omega)
      show gr a ≤ n * (gr a + 1)
      omega
  exact ⟨⟨c2, q3, hp, ((k1.box ga (by decide) m).joined k2).mono (by decide) (by decide) hg (by decide), c1⟩, q4, q2, by omega, by omega⟩
theorem ok3_of : ∀ t : Tr, Ok2 t → hgt t ≤ 20 → (plM t).length ≤ 5000 → gr t ≤ 9000 → Ok3 t
  | .own _, _, _, _, _ => trivial
  | .pick r side b, o, hh, hp, hg => by
    have e : (plM (.pick r side b)).length = (plM b).length := longerM_len _ _ _
    have hh' : hgt b + 1 ≤ 20 := hh
    have hg' : gr b + 1 ≤ 9000 := hg
    exact ⟨ok3_of b o.1 (by omega) (by omega) (by omega), by omega⟩
  | .offer a b, o, hh, hp, hg => by
    have e : (plM (.offer a b)).length = (plM a).length + (plM b).length := by
      show (longerM (plM a ++ plM b) 1 0).length = _
      rw [longerM_len, List.length_append]
    have hh' : max (hgt a) (hgt b) + 1 ≤ 20 := hh
    have hg' : (if gr b > gr a then gr b else gr a) + 1 ≤ 9000 := hg
    have g1 : gr a ≤ 9000 ∧ gr b ≤ 9000 := by split at hg' <;> omega
    exact ⟨ok3_of a o.1 (by omega) (by omega) g1.1, ok3_of b o.2.1 (by omega) (by omega) g1.2, by omega⟩
  | .cut m s a b, o, hh, hp, hg => by
    have e : (plM (.cut m s a b)).length = (plM a).length ^ cop m * (plM b).length := by
      show (cutM _ (joinedM (boxM (plM a) m) (plM b))).length = _
      rw [show (cutM (cop m : Int) (joinedM (boxM (plM a) m) (plM b))).length = _ from List.length_map .., joinedM_len, boxM_len]
    have hh' : max (hgt a) (hgt b) + 1 ≤ 20 := hh
    obtain ⟨c1, c2, _⟩ := o.2.2
    obtain ⟨B, p1, p2, g1, g2⟩ := both3 (m := m) o.1 o.2.1 (by omega) (by omega) c1 c2 (by omega) hg
    exact ⟨ok3_of a o.1 (by omega) p1 g1, ok3_of b o.2.1 (by omega) p2 g2, B⟩
  | .pay r m a b, o, hh, hp, hg => by
    have e : (plM (.pay r m a b)).length = (plM a).length ^ cop m * (plM b).length := by
      show (longerM (joinedM (boxM (plM a) m) (plM b)) 1 0).length = _
      rw [longerM_len, joinedM_len, boxM_len]
    have hh' : max (hgt a) (hgt b) + 1 ≤ 20 := hh
    have hg' : boxR (gr a) m + gr b + 1 ≤ 9000 := hg
    obtain ⟨c1, c2, _⟩ := o.2.2
    obtain ⟨B, p1, p2, g1, g2⟩ := both3 (m := m) o.1 o.2.1 (by omega) (by omega) c1 c2 (by omega) (by omega)
    exact ⟨ok3_of a o.1 (by omega) p1 g1, ok3_of b o.2.1 (by omega) p2 g2, B⟩
/-- the drawn trees are small -/
theorem wf_siz : ∀ {d r : Nat} {l : Int} {t : Tr}, Wf d r l t → siz t + 4 ≤ 5 * 2 ^ d := by
  intro d r l t h
  induction h with
  | own d r l =>
    have := Nat.one_le_two_pow (n := d)
    show 1 + 4 ≤ _
    omega
  | pick d r l =>
    have := Nat.one_le_two_pow (n := d)
    rw [Nat.pow_succ]
    show 1 + 1 + 4 ≤ _
    omega
  | menu d r l a b side hd hs fa fb ia ib =>
    rw [Nat.pow_succ]
    show siz a + siz b + 1 + (1 + 1) + 1 + 4 ≤ _
    omega
  | cut d r r' l m a hm fa ia =>
    have := Nat.one_le_two_pow (n := d)
    rw [Nat.pow_succ]
    show siz a + 1 + 1 + 4 ≤ _
    omega
  | pay d r r' l m a hm fa ia =>
    have := Nat.one_le_two_pow (n := d)
    rw [Nat.pow_succ]
    show siz a + 1 + 1 + 4 ≤ _
    omega
end K77

namespace HL
open PySem L2
/-- a walk over a list that the body leaves as it is: for both fors of a comprehension -/
theorem lc_gen {K : PySem.W.Frag} {a : Addr} {xs : List V} {S0 : Hp} {Qd : Hp → Prop} {BODY : V → Hp → (Hp → Prop) → Prop} (Pv : Nat → Hp → Prop) (h0 : Pv 0 S0) (hl : ∀ i H, i ≤ xs.length → Pv i H → SqL K H a xs)
    (hs : ∀ i x H, xs[i]? = some x → Pv i H → BODY x H (Pv (i + 1))) (hd : ∀ H, Pv xs.length H → Qd H) :
    ∃ W : Nat → Nat → Hp → Prop, (∃ m, W 0 m S0) ∧ ∀ i m H, W i m H →
      ((Itl K a).stop i H ∧ Qd H) ∨ ((Itl K a).go i H ∧ ∃ Nx : Hp → Prop, (∀ H', Nx H' → ∃ m', m' < m ∧ W (i + 1) m' H') ∧ ∀ x H', (Itl K a).yld i H x H' → BODY x H' Nx) := by
  refine ⟨fun i m H => m = xs.length - i ∧ i ≤ xs.length ∧ Pv i H, ⟨xs.length, by simp, Nat.zero_le _, h0⟩, ?_⟩
  rintro i m H ⟨rfl, hi, p⟩
  have q := hl i H hi p
  by_cases hlt : i < xs.length
  · refine .inr ⟨⟨xs, xs[i], q, by simp [hlt]⟩, Pv (i + 1), fun H' p' => ⟨xs.length - (i + 1), by omega, rfl, hlt, p'⟩, fun x H' y => ?_⟩
    obtain ⟨e, y⟩ := y
    subst e
    exact hs i x _ (y xs q) p
  · have e : i = xs.length := by omega
    subst e
    exact .inl ⟨⟨xs, q, Nat.le_refl _⟩, hd H p⟩
theorem ix_tupB {X : Cx} {K : PySem.W.Frag} (h : X.K = K) : IxR X (rIxT K) := h ▸ ix_tup
theorem ix_listB {X : Cx} {K : PySem.W.Frag} (h : X.K = K) : IxR X (rIxL K) := h ▸ ix_list
theorem pi_listB {X : Cx} {K : PySem.W.Frag} {tg l : Expr} {tl : TE} (h : X.K = K) (hl : PE X l tl) : PI X tg l (iList K tl) := h ▸ pi_list hl
end HL
namespace K77
open PySem L2 HL
abbrev sPlays : Stmt := top 28
abbrev sLonger : Stmt := top 29
abbrev sJoined : Stmt := top 30
abbrev sBP : Stmt := top 31
abbrev sPW : Stmt := top 32
def PlI (H : Hp) (a : Addr) (x : Pl) : Prop := H a = some (.tup [.int x.1, .int x.2])
def PlAt (H : Hp) (D : Addr) (l : List Pl) : Prop := ∃ as : List Addr, H D = some (.lst (as.map V.ref)) ∧ Paired (PlI H) as l
theorem plI_mono {H H' : Hp} (h : Tups H H') {as : List Addr} {l : List Pl} (p : Paired (PlI H) as l) : Paired (PlI H') as l := Paired.imp (fun _ _ g => h _ _ g) p
theorem PlAt.same {H H' : Hp} {D : Addr} {l : List Pl} (h : PlAt H D l) (s : Same H H') : PlAt H' D l := by
  obtain ⟨as, e, p⟩ := h
  exact ⟨as, s _ _ e, plI_mono (Tups.of s) p⟩
theorem PlAt.rk {H H' : Hp} {D d : Addr} {l : List Pl} (h : PlAt H D l) (s : But d H H') (r : RkAt H d) : PlAt H' D l := by
  obtain ⟨as, e, p⟩ := h
  obtain ⟨kvs, hd⟩ := r.ex
  exact ⟨as, s _ _ (ne_of e hd (by intro z; cases z)) e, plI_mono (s.tups hd rfl) p⟩
theorem get_ref {as : List Addr} {i : Nat} {x : V} (h : (as.map V.ref)[i]? = some x) : ∃ a, as[i]? = some a ∧ x = .ref a := by
  rw [List.getElem?_map] at h
  obtain ⟨a, ha, e⟩ := Option.map_eq_some_iff.mp h
  exact ⟨a, ha, e.symm⟩
def spLonger : Sp := fun vs H Q _ => ∃ (D : Addr) (r k : Int) (l : List Pl), vs = [.ref D, .int r, .int k] ∧ PlAt H D l ∧ l.length ≤ 5000 ∧ ∀ (D' : Addr) (H' : Hp), Same H H' → H D' = none → PlAt H' D' (longerM l r k) → Q (.ref D') H'
def spJoined : Sp := fun vs H Q _ => ∃ (D E : Addr) (xs ys : List Pl), vs = [.ref D, .ref E] ∧ PlAt H D xs ∧ PlAt H E ys ∧ xs.length * ys.length ≤ 5000 ∧ ∀ (D' : Addr) (H' : Hp), Same H H' → H D' = none → PlAt H' D' (joinedM xs ys) → Q (.ref D') H'
def spBP : Sp := fun vs H Q _ => ∃ (D : Addr) (v : V) (l : List Pl) (m : Md), vs = [.ref D, v] ∧ PlAt H D l ∧ MdAt H v m ∧ cop m ≤ 400 ∧ l.length ≤ 5000 ∧ (∀ k, k ≤ cop m → l.length ^ k ≤ 5000) ∧ ∀ (D' : Addr) (H' : Hp), Same H H' → PlAt H' D' (boxM l m) → Q (.ref D') H'
theorem five_k : 5000 < sizeLine := by decide
section
variable {P : Program} {w : World} {K : PySem.W.Frag} {mg : Str → Option Value} {base : Heap} {f fM aP C CL : Addr} {fd fdM : FuncData}
abbrev nLonger : List Str := ["found", "rows", "load", "one"]
theorem scLonger : FnScope nLonger ["found", "rows", "load"] (defScope sLonger) := ⟨rfl, rfl, rfl, by decide +kernel, rfl, by decide +kernel, by decide +kernel⟩
theorem ok_longer (A : At K mg "longer" sLonger ["found", "rows", "load"] f fd) : FnOk P w K mg base CX0 1 f fd ["found", "rows", "load"] spLonger := by
  refine A.fn.ok scLonger (fun vs H Q E h => ?_) (fun cdv A outer s H vs Q E hr h => ?_)
  · obtain ⟨D, r, k, l, rfl, _⟩ := h
    rfl
  · obtain ⟨D, r, k, l, rfl, ⟨as, hD, hP⟩, hl, q⟩ := h
    refine ⟨_, (pss_one (ps_ret (pe_lc (own := [("one", 3)]) (g := gName 3) (tt := tYes) rfl scLonger.nd (pi_list (pv 0)) (blkOk_by (own := [("one", 3)]) (N := nLonger) (sc := defScope sLonger) (by decide +kernel)) (fun _ _ _ _ _ => (pg_name (i := 3) scLonger.nd rfl (Or.inl rfl))) (fun _ _ _ _ _ => pts_nil) (fun _ _ _ _ _ => (pe_tup (pa_cons (pe_op op_add (pe_ix (ix_tupB (K := K) rfl) (pv 3) pe_int (fun _ _ => rfl)) (pv 1)) (pa_cons (pe_op op_add (pe_ix (ix_tupB (K := K) rfl) (pv 3) pe_int (fun _ _ => rfl)) (pv 2)) pa_nil))))))), ?_⟩
    have el := Paired.length hP
    refine ⟨_, rfl, D, rfl, ⟨_, SqL.of hD⟩, fun D2 n2 => ?_⟩
    have DD := ne_of_none hD n2
    refine lc_list (K := K) (a := D) (xs := as.map V.ref) (fun i H' => PlAt H' D2 (longerM (l.take i) r k) ∧ Same H H') ⟨⟨[], upd_same, .nil⟩, same_new n2 _⟩ (fun i H' _ e => SqL.of (e.2 _ _ hD)) (fun i x H2 hx e => ?_) (fun H' e => ?_)
    · obtain ⟨⟨bs, hb, hB⟩, s2⟩ := e
      obtain ⟨a, ha, rfl⟩ := get_ref hx
      obtain ⟨y, hy, hay⟩ := Paired.get hP ha
      have hay2 := s2 _ _ hay
      refine ⟨rfl, ?_⟩
      refine ⟨_, rfl, a, _, _, _, rfl, rfl, SqT.of hay2, rfl, _, rfl, _, _, rfl, rfl, _, rfl, a, _, _, _, rfl, rfl, SqT.of hay2, rfl, _, rfl, _, _, rfl, rfl, small8 (by show 2 ≤ 8; decide), fun t ht => ?_⟩
      have bD : D2 ≠ t := ne_of_none hb ht
      have st := same_new ht (.tup [V.int (y.1 + r), V.int (y.2 + k)])
      have hb3 := st _ _ hb
      refine ⟨_, hb3, ?_, ⟨bs ++ [t], ?_, ?_⟩, fun u o e => ?_⟩
      · have := Paired.length hB
        rw [longerM_len, List.length_take] at this
        rw [List.length_map]
        have := five_k
        omega
      · rw [upd_same, List.map_append]
        rfl
      · have e : longerM (l.take (i + 1)) r k = longerM (l.take i) r k ++ [(y.1 + r, y.2 + k)] := by
          rw [List.take_succ, hy]
          show List.map _ _ = List.map _ _ ++ _
          rw [List.map_append]
          rfl
        rw [e]
        have T3 := (But.upd (p := D2) (.lst (bs.map V.ref ++ [V.ref t]))).tups hb3 rfl
        exact Paired.app (plI_mono T3 (plI_mono (Tups.of st) hB)) (.cons (T3 _ _ upd_same) .nil)
      · rw [upd_ne (ne_of_none e n2)]
        exact st _ _ (s2 _ _ e)
    · obtain ⟨p, s2⟩ := e
      rw [List.length_map, el, List.take_length] at p
      exact q D2 H' s2 n2 p
abbrev nJoined : List Str := ["first", "second", "one", "two"]
theorem scJoined : FnScope nJoined ["first", "second"] (defScope sJoined) := ⟨rfl, rfl, rfl, by decide +kernel, rfl, by decide +kernel, by decide +kernel⟩
theorem join_take {xs ys : List Pl} {i j : Nat} {x y : Pl} (hy : ys[j]? = some y) : joinedM (xs.take i) ys ++ (ys.take (j + 1)).map (pls x) = (joinedM (xs.take i) ys ++ (ys.take j).map (pls x)) ++ [pls x y] := by
  rw [List.take_succ, hy, List.map_append, List.append_assoc]
  rfl
theorem join_next {xs ys : List Pl} {i : Nat} {x : Pl} (hx : xs[i]? = some x) : joinedM (xs.take (i + 1)) ys = joinedM (xs.take i) ys ++ ys.map (pls x) := by
  rw [List.take_succ, hx]
  show List.flatMap _ _ = List.flatMap _ _ ++ _
  rw [List.flatMap_append]
  show _ ++ (ys.map (pls x) ++ []) = _
  rw [List.append_nil]
theorem ok_joined (A : At K mg "joined" sJoined ["first", "second"] f fd) : FnOk P w K mg base CX0 1 f fd ["first", "second"] spJoined := by
  refine A.fn.ok scJoined (fun vs H Q E h => ?_) (fun cdv A outer s H vs Q E hr h => ?_)
  · obtain ⟨D, E, xs, ys, rfl, _⟩ := h
    rfl
  · obtain ⟨D, E, xs, ys, rfl, ⟨as, hD, hP⟩, ⟨bs, hE, hR⟩, hl, q⟩ := h
    refine ⟨_, (pss_one (ps_ret (pe_lc2 (own := [("one", 2), ("two", 3)]) (vs1 := [3]) (g := gName 2) (tt := tYes) (g1 := gName 3) (tt1 := tYes) rfl scJoined.nd (pi_list (pv 0)) (blkOk_by (own := [("one", 2), ("two", 3)]) (N := nJoined) (sc := defScope sJoined) (by decide +kernel)) (by decide) (fun _ _ _ _ _ => (pg_name (i := 2) scJoined.nd rfl (Or.inl rfl))) (fun _ _ _ _ _ => pts_nil) (fun _ _ _ _ _ => (pi_listB (K := K) rfl (pv 1))) (fun _ _ _ _ _ => (pg_name (i := 3) scJoined.nd rfl (Or.inl rfl))) (fun _ _ _ _ _ => pts_nil) (fun _ _ _ _ _ => (pe_tup (pa_cons (pe_op op_add (pe_ix (ix_tupB (K := K) rfl) (pv 2) pe_int (fun _ _ => rfl)) (pe_ix (ix_tupB (K := K) rfl) (pv 3) pe_int (fun _ _ => rfl))) (pa_cons (pe_op op_add (pe_ix (ix_tupB (K := K) rfl) (pv 2) pe_int (fun _ _ => rfl)) (pe_ix (ix_tupB (K := K) rfl) (pv 3) pe_int (fun _ _ => rfl))) pa_nil))))))), ?_⟩
    have el := Paired.length hP
    have em := Paired.length hR
    refine ⟨_, rfl, D, rfl, ⟨_, SqL.of hD⟩, fun D2 n2 => ?_⟩
    have DD := ne_of_none hD n2
    refine lc_gen (K := K) (a := D) (xs := as.map V.ref) (fun i H' => PlAt H' D2 (joinedM (xs.take i) ys) ∧ Same H H') ⟨⟨[], upd_same, .nil⟩, same_new n2 _⟩ (fun i H' _ e => SqL.of (e.2 _ _ hD)) (fun i x H2 hx e => ?_) (fun H' e => ?_)
    · obtain ⟨p2, s2⟩ := e
      obtain ⟨a, ha, rfl⟩ := get_ref hx
      obtain ⟨x, hxx, hax⟩ := Paired.get hP ha
      refine ⟨rfl, ?_⟩
      refine ⟨_, rfl, E, rfl, ⟨_, SqL.of (s2 _ _ hE)⟩, ?_⟩
      refine lc_gen (K := K) (a := E) (xs := bs.map V.ref) (fun j H' => PlAt H' D2 (joinedM (xs.take i) ys ++ (ys.take j).map (pls x)) ∧ Same H H') ⟨by rw [List.take_zero, List.map_nil, List.append_nil]; exact p2, s2⟩ (fun i H' _ e => SqL.of (e.2 _ _ hE)) (fun j z H3 hz e => ?_) (fun H' e => ?_)
      · obtain ⟨⟨cs, hc, hC⟩, s3⟩ := e
        obtain ⟨b, hb, rfl⟩ := get_ref hz
        obtain ⟨y, hy, hby⟩ := Paired.get hR hb
        have hax3 := s3 _ _ hax
        have hby3 := s3 _ _ hby
        refine ⟨rfl, ?_⟩
        refine ⟨_, rfl, a, _, _, _, rfl, rfl, SqT.of hax3, rfl, _, rfl, b, _, _, _, rfl, rfl, SqT.of hby3, rfl, _, _, rfl, rfl, _, rfl, a, _, _, _, rfl, rfl, SqT.of hax3, rfl, _, rfl, b, _, _, _, rfl, rfl, SqT.of hby3, rfl, _, _, rfl, rfl, small8 (by show 2 ≤ 8; decide), fun t ht => ?_⟩
        have st := same_new ht (.tup [V.int (x.1 + y.1), V.int (x.2 + y.2)])
        have hc3 := st _ _ hc
        refine ⟨_, hc3, ?_, ⟨cs ++ [t], ?_, ?_⟩, fun u o e => ?_⟩
        · have k1 := Paired.length hC
          rw [List.length_append, joinedM_len, List.length_map, List.length_take, List.length_take] at k1
          rw [List.length_map]
          have k2 : i < xs.length := (List.getElem?_eq_some_iff.mp hxx).1
          have k3 : i * ys.length + ys.length ≤ xs.length * ys.length := by
            have := Nat.mul_le_mul_right ys.length (show i + 1 ≤ xs.length from k2)
            rw [Nat.add_mul] at this
            omega
          have k4 : min i xs.length = i := by omega
          rw [k4] at k1
          have := five_k
          omega
        · rw [upd_same, List.map_append]
          rfl
        · rw [join_take hy]
          have T3 := (But.upd (p := D2) (.lst (cs.map V.ref ++ [V.ref t]))).tups hc3 rfl
          exact Paired.app (plI_mono T3 (plI_mono (Tups.of st) hC)) (.cons (T3 _ _ upd_same) .nil)
        · rw [upd_ne (ne_of_none e n2)]
          exact st _ _ (s3 _ _ e)
      · obtain ⟨p, s3⟩ := e
        rw [List.length_map, em, List.take_length] at p
        exact ⟨by rw [join_next hxx]; exact p, s3⟩
    · obtain ⟨p, s2⟩ := e
      rw [List.length_map, el, List.take_length] at p
      exact q D2 H' s2 n2 p
theorem scBP : FnScope ["found", "kind", "wrapped", "total", "_"] ["found", "kind"] (defScope sBP) := ⟨rfl, rfl, rfl, by decide +kernel, rfl, by decide +kernel, by decide +kernel⟩
theorem ok_bp (A : At K mg "boxed_plays" sBP ["found", "kind"] f fd) (T : Txt mg) (D_longer : Def P w K mg base 1 "longer" ["found", "rows", "load"] spLonger) (D_joined : Def P w K mg base 1 "joined" ["first", "second"] spJoined) : FnOk P w K mg base CX0 2 f fd ["found", "kind"] spBP := by
  refine A.fn.ok scBP (fun vs H Q E h => ?_) (fun cdv A outer s H vs Q E hr h => ?_)
  · obtain ⟨D, v, l, m, rfl, _⟩ := h
    rfl
  · obtain ⟨D, v, l, m, rfl, hD, hm, hc, hl, hs, k⟩ := h
    refine ⟨_, (pss_cons (ps_if (pt_cmpR (op_eqD hr.units) (pv 1) pe_str (nomark _))
      (pss_one (ps_ret (pv 0)))
      pss_nil)
      (pss_cons (ps_set (i := 2) scBP.nd rfl (Or.inl rfl) (pe_cd D_longer hr (pa_cons (pv 0) (pa_cons pe_int (pa_cons pe_int pa_nil)))))
      (pss_cons (ps_set (i := 3) scBP.nd rfl (Or.inl rfl) (pe_lst (pa_cons (pe_tup (pa_cons pe_int (pa_cons pe_int pa_nil))) pa_nil)))
      (pss_cons (ps_for PassesOwn.never rfl (pi_range1 rfl T.range (pa_cons (pe_ix ix_tup (pv 1) pe_int (fun _ _ => rfl)) pa_nil)) (pg_name (i := 4) scBP.nd rfl (Or.inl rfl))
      (pss_one (ps_set (i := 3) scBP.nd rfl (Or.inl rfl) (pe_cd D_joined hr (pa_cons (pv 3) (pa_cons (pv 2) pa_nil))))))
      (pss_one (ps_ret (pv 3))))))), ?_⟩
    obtain ⟨dd, e1, e2, e3⟩ := hm.dp (K := K)
    refine ⟨_, rfl, dd, _, e1, once_dp, e2, once_shaped, isOnce m, by rw [e3], ?_⟩
    cases m with
    | once =>
      refine iteT ?_
      refine ⟨_, rfl, ?_⟩
      exact k D H (Same.refl _) hD
    | st n d =>
      refine iteF ?_
      obtain ⟨t, rfl, ht⟩ := hm
      refine ⟨_, rfl, D, 1, 0, l, rfl, hD, hl, fun D1 H1 s1 _ p1 => ?_⟩
      refine ⟨small8 (by show 2 ≤ 8; decide), fun a na => ⟨small8 (by show 1 ≤ 8; decide), fun T0 nT => ?_⟩⟩
      have s2 := same_new na (.tup [V.int 0, V.int 0])
      have s3 := same_new nT (.lst [V.ref a])
      have s13 := s1.trans (s2.trans s3)
      have pT : PlAt (L2.upd (L2.upd H1 a (.tup [V.int 0, V.int 0])) T0 (.lst [V.ref a])) T0 [(0, 0)] := ⟨[a], upd_same, .cons (s3 _ _ upd_same) .nil⟩
      have p1' := p1.same (s2.trans s3)
      refine ⟨_, rfl, t, _, _, _, rfl, rfl, SqT.of (s13 _ _ ht), rfl, _, rfl, ?_, ?_, for_range (lo := 0) (n := ((n : Nat) : Int).toNat) (fun i σ H' => ∃ (q : Addr) (kk : Option V), σ = [some (.ref D), some (.ref t), some (.ref D1), some (.ref q), kk] ∧ Same H H' ∧ PlAt H' D1 (longerM l 1 0) ∧ PlAt H' q (boxIt (longerM l 1 0) i)) ⟨T0, none, rfl, s13, p1', pT⟩ ?_ ?_⟩
      · have hc' : n ≤ 400 := hc
        have : (0 : Int) < 2 ^ 62 := by decide
        omega
      · have hc' : n ≤ 400 := hc
        have : (1000 : Int) < 2 ^ 62 := by decide
        omega
      · rintro i σ H2 hi ⟨q, kk, rfl, s4, w4, t4⟩
        rw [Int.toNat_natCast] at hi
        refine ⟨_, rfl, _, rfl, q, D1, _, _, rfl, t4, w4, ?_, fun D3 H3 s5 _ p5 => ?_⟩
        · rw [boxIt_len, longerM_len, ← Nat.pow_succ]
          exact hs (i + 1) hi
        · exact ⟨D3, _, rfl, s4.trans s5, w4.same s5, p5⟩
      · rintro σ H2 ⟨q, kk, rfl, s4, w4, t4⟩
        rw [Int.toNat_natCast] at t4
        refine ⟨_, rfl, ?_⟩
        exact k q H2 s4 t4
def spPW (CL : Addr) (n : Nat) : Sp := fun vs H Q _ => ∃ (q a b c d : Addr) (kn v : V) (t : Tr), vs = [.ref q, v, kn, .ref d] ∧ LibAt CL H q a b c ∧ RkAt H d ∧ Off d a b c ∧ TrAt H v t ∧ hgt t < n ∧ Ok3 t ∧ ∀ (z : Addr) (H' : Hp), But d H H' → RkAt H' d → H z = none → PlAt H' z (plM t) → Q (.ref z) H'
theorem kid_ok3 : ∀ {t y : Tr}, y ∈ kids t → Ok3 t → hgt y < hgt t ∧ Ok3 y
  | .own _, y, h, o => by simp [kids] at h
  | .pick _ _ b, y, h, o => by
    simp only [kids, List.mem_singleton] at h
    subst h
    exact ⟨by show hgt y < hgt y + 1; omega, o.1⟩
  | .offer a b, y, h, o => by
    simp only [kids, List.mem_cons, List.not_mem_nil, or_false] at h
    rcases h with rfl | rfl
    · exact ⟨by show hgt y < max (hgt y) (hgt b) + 1; omega, o.1⟩
    · exact ⟨by show hgt y < max (hgt a) (hgt y) + 1; omega, o.2.1⟩
  | .cut _ _ a b, y, h, o => by
    simp only [kids, List.mem_cons, List.not_mem_nil, or_false] at h
    rcases h with rfl | rfl
    · exact ⟨by show hgt y < max (hgt y) (hgt b) + 1; omega, o.1⟩
    · exact ⟨by show hgt y < max (hgt a) (hgt y) + 1; omega, o.2.1⟩
  | .pay _ _ a b, y, h, o => by
    simp only [kids, List.mem_cons, List.not_mem_nil, or_false] at h
    rcases h with rfl | rfl
    · exact ⟨by show hgt y < max (hgt y) (hgt b) + 1; omega, o.1⟩
    · exact ⟨by show hgt y < max (hgt a) (hgt y) + 1; omega, o.2.1⟩
abbrev nPW : List Str := ["library", "derivation", "known", "ranks", "name", "found", "factor", "both", "total", "key", "_", "premise", "one"]
theorem scPW : FnScope nPW ["library", "derivation", "known", "ranks"] (defScope sPW) := ⟨rfl, rfl, rfl, by decide +kernel, rfl, by decide +kernel, by decide +kernel⟩
theorem PlAt.off {H : Hp} {p q : Addr} {l : List Pl} {xs : List V} (h : PlAt H q l) (e : H p = some (.lst xs)) (n : q ≠ p) (o : HO) : PlAt (L2.upd H p o) q l := by
  obtain ⟨as, e1, p1⟩ := h
  exact ⟨as, by rw [upd_ne n]; exact e1, plI_mono ((But.upd (p := p) o).tups e rfl) p1⟩
theorem rk_free {H H' : Hp} {d z : Addr} (s : But d H H') (r : RkAt H' d) (n : H' z = none) : H z = none := by
  cases e : H z with
  | none => rfl
  | some o =>
    by_cases q : z = d
    · obtain ⟨kvs, g⟩ := r.ex
      subst q
      rw [g] at n
      cases n
    · rw [s z o q e] at n
      cases n
theorem PlAt.app {H : Hp} {a b z : Addr} {xs ys : List Pl} {us vs : List V} (h : PlAt H a xs) (k : PlAt H b ys) (ha : H a = some (.lst us)) (hb : H b = some (.lst vs)) (n : H z = none) : PlAt (L2.upd H z (.lst (us ++ vs))) z (xs ++ ys) := by
  obtain ⟨as, e1, p1⟩ := h
  obtain ⟨bs, e2, p2⟩ := k
  rw [ha] at e1
  rw [hb] at e2
  cases e1
  cases e2
  have s := same_new n (.lst (as.map V.ref ++ bs.map V.ref))
  exact ⟨as ++ bs, by rw [upd_same, List.map_append], Paired.app (plI_mono (Tups.of s) p1) (plI_mono (Tups.of s) p2)⟩
theorem ok_pw {n : Nat} (A : At K mg "plays_within" sPW ["library", "derivation", "known", "ranks"] f fd) (R : FnOk P w K mg base CX0 (n + 4) f fd ["library", "derivation", "known", "ranks"] (spPW CL n))
    (D_premises : Def P w K mg base 1 "premises" ["derivation"] spPrem) (D_copies : Def P w K mg base 1 "copies" ["kind"] spCopies) (D_longer : Def P w K mg base 1 "longer" ["found", "rows", "load"] spLonger) (D_joined : Def P w K mg base 1 "joined" ["first", "second"] spJoined)
    (D_boxed_plays : Def P w K mg base 2 "boxed_plays" ["found", "kind"] spBP) (D_rank_within : Def P w K mg base 4 "rank_within" ["library", "sentence", "known"] (spRank CL 2)) :
    FnOk P w K mg base CX0 (n + 5) f fd ["library", "derivation", "known", "ranks"] (spPW CL (n + 1)) := by
  have D_plays_within := A.df R
  refine A.fn.ok scPW (fun vs H Q E h => ?_) (fun cdv A outer s H vs Q E hr h => ?_)
  · obtain ⟨q, a, b, c, d, kn, v, t, rfl, _⟩ := h
    rfl
  · obtain ⟨q, a, b, c, d, kn, v, t, rfl, L, Rk, o, ht, hn, ok, k⟩ := h
    refine ⟨_, (pss_cons (ps_set (i := 4) scPW.nd rfl (Or.inl rfl) (pe_ix ix_tup (pv 1) pe_int (fun _ _ => rfl)))
      (pss_cons (ps_if (pt_cmpR op_eq (pv 4) pe_str (nomark _))
      (pss_one (ps_ret (pe_lst (pa_cons (pe_tup (pa_cons pe_int (pa_cons pe_int pa_nil))) pa_nil))))
      pss_nil)
      (pss_cons (ps_if (pt_cmpR op_eq (pv 4) pe_str (nomark _))
      pss_never
      pss_nil)
      (pss_cons (ps_setLc (i := 5) (own := [("premise", 11)]) (g := gName 11) (tt := tYes) rfl scPW.nd rfl rfl (sw_true rfl rfl rfl (by decide +kernel)) (pi_list (pe_cd D_premises hr (pa_cons (pv 1) pa_nil))) (blkOk_by (own := [("premise", 11)]) (N := nPW) (sc := defScope sPW) (by decide +kernel)) (fun _ _ _ _ _ => (pg_name (i := 11) scPW.nd rfl (Or.inl rfl))) (fun _ _ _ _ _ => pts_nil) (fun _ _ _ _ _ => (pe_cd D_plays_within hr (pa_cons (pv 0) (pa_cons (pv 11) (pa_cons (pv 2) (pa_cons (pv 3) pa_nil)))))))
      (pss_cons (ps_if (pt_cmpR op_eq (pv 4) pe_str (nomark _))
      (pss_one (ps_ret (pe_cd D_longer hr (pa_cons (pe_op op_cat (pe_ix ix_list (pv 5) pe_int (fun _ _ => rfl)) (pe_ix ix_list (pv 5) pe_int (fun _ _ => rfl))) (pa_cons pe_int (pa_cons pe_int pa_nil))))))
      pss_nil)
      (pss_cons (ps_if (pt_cmpR op_eq (pv 4) pe_str (nomark _))
      (pss_one (ps_ret (pe_cd D_longer hr (pa_cons (pe_cd D_joined hr (pa_cons (pe_cd D_boxed_plays hr (pa_cons (pe_ix ix_list (pv 5) pe_int (fun _ _ => rfl)) (pa_cons (pe_ix ix_tup (pv 1) pe_int (fun _ _ => rfl)) pa_nil))) (pa_cons (pe_ix ix_list (pv 5) pe_int (fun _ _ => rfl)) pa_nil))) (pa_cons pe_int (pa_cons pe_int pa_nil))))))
      pss_nil)
      (pss_cons (ps_if (pt_cmpR op_eq (pv 4) pe_str (nomark _))
      (pss_cons (ps_set (i := 6) scPW.nd rfl (Or.inr rfl) (pe_op op_mul (pe_cd D_copies hr (pa_cons (pe_ix ix_tup (pv 1) pe_int (fun _ _ => rfl)) pa_nil)) (pe_cd D_rank_within hr (pa_cons (pv 0) (pa_cons (pe_ix ix_tup (pv 1) pe_int (fun _ _ => rfl)) (pa_cons (pv 3) pa_nil))))))
        (pss_cons (ps_set (i := 7) scPW.nd rfl (Or.inl rfl) (pe_cd D_joined hr (pa_cons (pe_cd D_boxed_plays hr (pa_cons (pe_ix ix_list (pv 5) pe_int (fun _ _ => rfl)) (pa_cons (pe_ix ix_tup (pv 1) pe_int (fun _ _ => rfl)) pa_nil))) (pa_cons (pe_ix ix_list (pv 5) pe_int (fun _ _ => rfl)) pa_nil))))
        (pss_one (ps_ret (pe_lc (own := [("one", 12)]) (g := gName 12) (tt := tYes) rfl scPW.nd (pi_list (pv 7)) (blkOk_by (own := [("one", 12)]) (N := nPW) (sc := defScope sPW) (by decide +kernel)) (fun _ _ _ _ _ => (pg_name (i := 12) scPW.nd rfl (Or.inl rfl))) (fun _ _ _ _ _ => pts_nil) (fun _ _ _ _ _ => (pe_tup (pa_cons (pe_ix (ix_tupB (K := K) rfl) (pv 12) pe_int (fun _ _ => rfl)) (pa_cons (pe_op op_add (pe_ix (ix_tupB (K := K) rfl) (pv 12) pe_int (fun _ _ => rfl)) (pe_op op_mul (pv 6) (pe_op op_sub (pe_ix (ix_tupB (K := K) rfl) (pv 12) pe_int (fun _ _ => rfl)) pe_int))) pa_nil)))))))))
      pss_nil)
      (pss_cons (ps_set (i := 8) scPW.nd rfl (Or.inl rfl) (pe_ix ix_list (pv 5) pe_int (fun _ _ => rfl)))
      (pss_cons (ps_if (pt_cmpR op_eq (pv 4) pe_str (nomark _))
      pss_never
      pss_nil)
      (pss_one (ps_ret (pe_cd D_longer hr (pa_cons (pv 8) (pa_cons pe_int (pa_cons pe_int pa_nil))))))))))))))), ?_⟩
    obtain ⟨p, rest, rfl, hp⟩ := ht.row
    have z0 : atI (V.str (rowName t) :: rest) ((0 : Nat) : Int) = some (V.str (rowName t)) := atI_nat rfl
    refine ⟨_, rfl, p, _, _, _, rfl, rfl, SqT.of hp, z0, ?_⟩
    rcases row_own t with ⟨r, rfl⟩ | hno
    · refine ⟨_, rfl, rfl, _, rfl, iteT ?_⟩
      refine ⟨small8 (by show 2 ≤ 8; decide), fun x nx => ⟨small8 (by show 1 ≤ 8; decide), fun D nD => ?_⟩⟩
      have s1 := same_new nx (.tup [V.int 1, V.int 0])
      have s2 := same_new nD (.lst [V.ref x])
      exact k D _ (But.of (s1.trans s2)) (Rk.same (s1.trans s2)) (s1.free nD) ⟨[x], upd_same, .cons (s2 _ _ upd_same) .nil⟩
    refine ⟨_, rfl, rfl, false, congrArg V.bl hno, iteF ?_⟩
    refine ⟨_, rfl, rfl, false, congrArg V.bl (row_ncite t), iteF ?_⟩
    -- found
    refine ⟨_, rfl, _, t, rfl, ht, fun D xs H1 s1 nD eD hk => ?_⟩
    have Rk1 := Rk.same s1
    have L1 := L.mono s1
    refine ⟨D, rfl, ⟨_, SqL.of eD⟩, fun D2 n2 => ?_⟩
    have d2 : D2 ≠ d := rk_ne Rk1 n2
    obtain ⟨kv1, hd1⟩ := id Rk1.ex
    have Dd : D ≠ d := ne_of eD hd1 (by intro z; cases z)
    have lk := Paired.length hk
    have kl : (kids t).length ≤ 2 := by cases t <;> simp [kids]
    refine lc_list (K := K) (a := D) (xs := xs) (fun i H' => ∃ zs : List Addr, H' D2 = some (.lst (zs.map V.ref)) ∧ (∀ z ∈ zs, z ≠ D2) ∧ Paired (PlAt H') zs (((kids t).take i).map plM) ∧ But d H1 H' ∧ RkAt H' d)
      ⟨[], upd_same, fun _ h => (nomatch h), .nil, But.of (same_new n2 _), Rk1.new n2 _⟩ (fun i H' _ e => by obtain ⟨_, _, _, _, b, _⟩ := e; exact SqL.of (b _ _ Dd eD)) (fun i x H2 hx e => ?_) ?_
    · obtain ⟨zs, hz, hne, hP, b2, r2⟩ := e
      obtain ⟨y, hy, hyt⟩ := Paired.get hk hx
      obtain ⟨hh, ho⟩ := kid_ok3 (List.mem_of_getElem? hy) ok
      refine ⟨rfl, ?_⟩
      have T2 : Tups H H2 := (Tups.of s1).trans (b2.tups hd1 rfl)
      refine ⟨_, rfl, _, rfl, _, rfl, _, rfl, q, a, b, c, d, kn, x, y, rfl, L1.but b2 hd1 o, r2, o, hyt.mono T2, by omega, ho, fun z H4 b4 r4 nz t4 => ?_⟩
      have e4 := b4 _ _ d2 hz
      have zD : z ≠ D2 := fun e => by
        subst e
        rw [hz] at nz
        cases nz
      refine ⟨_, e4, ?_, zs ++ [z], ?_, ?_, ?_, fun u w nu e => ?_, r4.off d2.symm _⟩
      · have := Paired.length hP
        simp only [List.length_map, List.length_take] at this ⊢
        exact Nat.lt_of_le_of_lt (show zs.length ≤ 2 by omega) (by decide)
      · rw [upd_same, List.map_append]
        rfl
      · intro w hw
        rcases List.mem_append.mp hw with h | h
        · exact hne w h
        · rw [List.mem_singleton] at h
          rw [h]
          exact zD
      · have e : ((kids t).take (i + 1)).map plM = ((kids t).take i).map plM ++ [plM y] := by
          rw [List.take_succ, hy, List.map_append]
          rfl
        rw [e]
        refine Paired.app ?_ (.cons (t4.off e4 zD _) .nil)
        have go : ∀ {us : List Addr} {ls : List (List Pl)}, (∀ w ∈ us, w ≠ D2) → Paired (PlAt H2) us ls → Paired (PlAt (L2.upd H4 D2 (.lst (zs.map V.ref ++ [V.ref z])))) us ls := by
          intro us ls hn hp
          induction hp with
          | nil => exact .nil
          | cons r t ih => exact .cons ((r.rk b4 r2).off e4 (hn _ List.mem_cons_self) _) (ih fun w hw => hn w (List.mem_cons_of_mem _ hw))
        exact go hne hP
      · rw [upd_ne (ne_of_none e n2)]
        exact b4 _ _ nu (b2 _ _ nu e)
    rintro H2 ⟨zs, hz, hne, hP, b2, r2⟩
    rw [lk, List.take_length] at hP
    have T2 : Tups H H2 := (Tups.of s1).trans (b2.tups hd1 rfl)
    have b02 : But d H H2 := (But.of s1).trans b2
    have L2 := L1.but b2 hd1 o
    have ht2 := ht.mono T2
    clear z0
    cases t with
    | own r => exact absurd hno (by show ¬ decide (V.str "own" = V.str "own") = false; decide +kernel)
    | pick r side b =>
      obtain ⟨z1, rfl, t1⟩ := Paired.one hP
      refine ⟨_, rfl, rfl, _, rfl, iteF ?_⟩
      refine ⟨_, rfl, rfl, _, rfl, iteF ?_⟩
      refine ⟨_, rfl, rfl, _, rfl, iteF ?_⟩
      refine ⟨_, rfl, D2, _, _, _, rfl, rfl, SqL.of hz, rfl, ?_⟩
      refine ⟨_, rfl, rfl, _, rfl, iteF ?_⟩
      refine ⟨_, rfl, z1, 1, 0, _, rfl, t1, ok.2, fun z H3 s3 n3 t3 => ?_⟩
      exact k z H3 (b02.trans (But.of s3)) (r2.same s3) (rk_free b02 r2 n3) t3
    | offer a b =>
      obtain ⟨z1, z2, rfl, t1, t2⟩ := Paired.two hP
      refine ⟨_, rfl, rfl, _, rfl, iteT ?_⟩
      obtain ⟨as, hz1, p1⟩ := id t1
      obtain ⟨bs, hz2, p2⟩ := id t2
      have l1 := Paired.length p1
      have l2 := Paired.length p2
      have l3 := ok.2.2
      refine ⟨_, rfl, D2, _, _, _, rfl, rfl, SqL.of hz, rfl, _, rfl, D2, _, _, _, rfl, rfl, SqL.of hz, rfl, z1, z2, _, _, rfl, rfl, hz1, hz2, ?_, fun y ny => ?_⟩
      · have := five_k
        simp only [List.length_map]
        omega
      have s3 := same_new ny (.lst (as.map V.ref ++ bs.map V.ref))
      refine ⟨y, 1, 0, _, rfl, PlAt.app t1 t2 hz1 hz2 ny, by rw [List.length_append]; exact l3, fun z H4 s4 n4 t4 => ?_⟩
      exact k z H4 (b02.trans (But.of (s3.trans s4))) (r2.same (s3.trans s4)) (rk_free b02 r2 (s3.free n4)) t4
    | cut m sn a b =>
      obtain ⟨z1, z2, rfl, t1, t2⟩ := Paired.two hP
      obtain ⟨p', m', s', x, y, e, hp', hm, hs, ha, hb⟩ := id ht2
      cases e
      obtain ⟨oa, ob, c2, q3, q4, q5, c1⟩ := ok
      refine ⟨_, rfl, rfl, _, rfl, iteF ?_⟩
      refine ⟨_, rfl, rfl, _, rfl, iteF ?_⟩
      refine ⟨_, rfl, rfl, _, rfl, iteT ?_⟩
      refine ⟨_, rfl, p, _, _, _, rfl, rfl, SqT.of hp', rfl, m', m, rfl, hm, _, rfl, _, rfl, p, _, _, _, rfl, rfl, SqT.of hp', rfl, _, rfl, q, _, _, _, d, _, sn, rfl, L2, r2, o, hs, by cases sn <;> decide, fun H3 b3 r3 => ?_⟩
      have T3 := b3.tups (r2.ex.choose_spec) rfl
      have t1' := t1.rk b3 r2
      have t2' := t2.rk b3 r2
      have hz3 := b3 _ _ d2 hz
      refine ⟨_, _, rfl, rfl, .inl ⟨by omega, by omega⟩, ?_⟩
      refine ⟨_, rfl, D2, _, _, _, rfl, rfl, SqL.of hz3, rfl, _, rfl, p, _, _, _, rfl, rfl, SqT.of (T3 _ _ hp'), rfl, z1, m', _, m, rfl, t1', hm.mono T3, c2, ?_, q3, fun z H4 s4 t4 => ?_⟩
      · have := q3 1 c1
        rw [Nat.pow_one] at this
        exact this
      refine ⟨_, rfl, D2, _, _, _, rfl, rfl, SqL.of (s4 _ _ hz3), rfl, z, z2, _, _, rfl, t4, t2'.same s4, by rw [boxM_len]; exact q4, fun y H5 s5 n5 t5 => ?_⟩
      obtain ⟨cs, hy, hC⟩ := id t5
      have b05 : But d H H5 := (b02.trans b3).trans (But.of (s4.trans s5))
      have r5 := r3.same (s4.trans s5)
      -- [(one[0], one[1] + factor * (one[0] - 1)) for one in both]
      have e1 : ((cop m : Int) * 1) = (cop m : Int) := Int.mul_one _
      have el := Paired.length hC
      refine ⟨_, rfl, y, rfl, ⟨_, SqL.of hy⟩, fun D6 n6 => ?_⟩
      refine lc_list (K := K) (a := y) (xs := cs.map V.ref) (fun i H' => PlAt H' D6 (cutM (cop m : Int) ((joinedM (boxM (plM a) m) (plM b)).take i)) ∧ Same H5 H') ⟨⟨[], upd_same, .nil⟩, same_new n6 _⟩ (fun i H' _ e => SqL.of (e.2 _ _ hy)) (fun i x H6 hx e => ?_) (fun H' e => ?_)
      · obtain ⟨⟨bs, hb, hB⟩, s6⟩ := e
        obtain ⟨c, hc, rfl⟩ := get_ref hx
        obtain ⟨u, hu, hcu⟩ := Paired.get hC hc
        have hcu6 := s6 _ _ hcu
        obtain ⟨g1, g2, _, _⟩ := q5 u (List.mem_of_getElem? hu)
        refine ⟨rfl, ?_⟩
        refine ⟨_, rfl, c, _, _, _, rfl, rfl, SqT.of hcu6, rfl, _, rfl, c, _, _, _, rfl, rfl, SqT.of hcu6, rfl, _, rfl, _, rfl, c, _, _, _, rfl, rfl, SqT.of hcu6, rfl, _, _, rfl, rfl, _, _, rfl, rfl, .inl ⟨by omega, by omega⟩, _, _, rfl, rfl, small8 (by show 2 ≤ 8; decide), fun t ht => ?_⟩
        have st := same_new ht (.tup [V.int u.1, V.int (u.2 + (cop m : Int) * 1 * (u.1 - 1))])
        have hb3 := st _ _ hb
        refine ⟨_, hb3, ?_, ⟨bs ++ [t], ?_, ?_⟩, fun v o e => ?_⟩
        · have k1 := Paired.length hB
          have k2 : (cutM (cop m : Int) ((joinedM (boxM (plM a) m) (plM b)).take i)).length = _ := List.length_map ..
          have k3 : (joinedM (boxM (plM a) m) (plM b)).length ≤ 5000 := by
            rw [joinedM_len, boxM_len]
            exact q4
          rw [k2, List.length_take] at k1
          rw [List.length_map]
          have := five_k
          omega
        · rw [upd_same, List.map_append]
          rfl
        · have e : cutM (cop m : Int) ((joinedM (boxM (plM a) m) (plM b)).take (i + 1)) = cutM (cop m : Int) ((joinedM (boxM (plM a) m) (plM b)).take i) ++ [(u.1, u.2 + (cop m : Int) * 1 * (u.1 - 1))] := by
            rw [List.take_succ, hu, e1]
            show List.map _ _ = List.map _ _ ++ _
            rw [List.map_append]
            rfl
          rw [e]
          have T7 := (But.upd (p := D6) (.lst (bs.map V.ref ++ [V.ref t]))).tups hb3 rfl
          exact Paired.app (plI_mono T7 (plI_mono (Tups.of st) hB)) (.cons (T7 _ _ upd_same) .nil)
        · rw [upd_ne (ne_of_none e n6)]
          exact st _ _ (s6 _ _ e)
      · obtain ⟨g, s6⟩ := e
        rw [List.length_map, el, List.take_length] at g
        exact k D6 H' (b05.trans (But.of s6)) (r5.same s6) (rk_free b05 r5 n6) g
    | pay r m a b =>
      obtain ⟨z1, z2, rfl, t1, t2⟩ := Paired.two hP
      obtain ⟨p', m', x, y, e, hp', hm, ha, hb⟩ := id ht2
      cases e
      obtain ⟨oa, ob, c2, q3, q4, q5, c1⟩ := ok
      refine ⟨_, rfl, rfl, _, rfl, iteF ?_⟩
      refine ⟨_, rfl, rfl, _, rfl, iteT ?_⟩
      refine ⟨_, rfl, D2, _, _, _, rfl, rfl, SqL.of hz, rfl, _, rfl, p, _, _, _, rfl, rfl, SqT.of hp', rfl, z1, m', _, m, rfl, t1, hm, c2, ?_, q3, fun z H4 s4 t4 => ?_⟩
      · have := q3 1 c1
        rw [Nat.pow_one] at this
        exact this
      refine ⟨_, rfl, D2, _, _, _, rfl, rfl, SqL.of (s4 _ _ hz), rfl, z, z2, _, _, rfl, t4, t2.same s4, by rw [boxM_len]; exact q4, fun y H5 s5 n5 t5 => ?_⟩
      refine ⟨y, 1, 0, _, rfl, t5, by rw [joinedM_len, boxM_len]; exact q4, fun w H6 s6 n6 t6 => ?_⟩
      exact k w H6 (b02.trans (But.of (s4.trans (s5.trans s6)))) (r2.same (s4.trans (s5.trans s6))) (rk_free b02 r2 ((s4.trans s5).free n6)) t6
theorem no_pw : FnOk P w K mg base CX0 4 f fd ["library", "derivation", "known", "ranks"] (spPW CL 0) := by
  have no : ∀ vs H Q E, ¬ spPW CL 0 vs H Q E := fun vs H Q E h => by
    obtain ⟨q, a, b, c, d, kn, v, t, _, _, _, _, _, hn, _⟩ := h
    omega
  exact ⟨fun vs H Q E h => absurd h (no vs H Q E), fun A outer s H args us vs Q E _ _ _ _ h => absurd h (no vs H Q E)⟩
/-! ## plays -/
def spPlaysF (CL : Addr) : Sp := fun vs H Q _ => ∃ (q a b c : Addr) (v : V) (t : Tr), vs = [.ref q, v] ∧ LibAt CL H q a b c ∧ TrAt H v t ∧ hgt t < 17 ∧ siz t ≤ 100000 ∧ Ok3 t ∧ ∀ (z : Addr) (H' : Hp), Same H H' → H z = none → PlAt H' z (plM t) → Q (.ref z) H'
abbrev nPlays : List Str := ["library", "derivation", "known", "ranks", "key", "rider"]
theorem scPlays : FnScope nPlays ["library", "derivation"] (defScope sPlays) := ⟨rfl, rfl, rfl, by decide +kernel, rfl, by decide +kernel, by decide +kernel⟩
theorem ok_plays (A : At K mg "plays" sPlays ["library", "derivation"] f fd) (D_riders : Def P w K mg base 3 "riders" ["library", "derivation"] (spRiders CL)) (D_plays_within : Def P w K mg base 21 "plays_within" ["library", "derivation", "known", "ranks"] (spPW CL 17)) :
    FnOk P w K mg base CX0 22 f fd ["library", "derivation"] (spPlaysF CL) := by
  refine A.fn.ok scPlays (fun vs H Q E h => ?_) (fun cdv A outer s H vs Q E hr h => ?_)
  · obtain ⟨q, a, b, c, v, t, rfl, _⟩ := h
    rfl
  · obtain ⟨q, a, b, c, v, t, rfl, L, ht, hh, hz, ok, k⟩ := h
    refine ⟨_, (pss_cons (ps_set (i := 2) scPlays.nd rfl (Or.inl rfl) pe_dnewK)
      (pss_cons (ps_set (i := 3) scPlays.nd rfl (Or.inl rfl) pe_dnewK)
      (pss_cons (ps_for PassesOwn.never rfl (pi_list (pe_cd D_riders hr (pa_cons (pv 0) (pa_cons (pv 1) pa_nil)))) (pg_tup rfl (pgs_cons (pg_name (i := 4) scPlays.nd rfl (Or.inl rfl)) (pgs_cons (pg_name (i := 5) scPlays.nd rfl (Or.inl rfl)) pgs_nil)))
      pss_never)
      (pss_one (ps_ret (pe_cd D_plays_within hr (pa_cons (pv 0) (pa_cons (pv 1) (pa_cons (pv 2) (pa_cons (pv 3) pa_nil)))))))))), ?_⟩
    intro d1 n1
    have s1 := same_new n1 (.dK [])
    intro d2 n2
    have s2 := same_new n2 (.dK [])
    have s12 := s1.trans s2
    refine ⟨_, rfl, _, rfl, q, a, b, c, v, t, rfl, L.mono s12, ht.mono (Tups.of s12), hz, fun D H1 s3 n3 e3 => ?_⟩
    have s13 := s12.trans s3
    refine ⟨D, rfl, ⟨_, SqL.of e3⟩, for_list (K := K) (a := D) (xs := []) (fun i σ' H' => σ' = [some (.ref q), some v, some (.ref d1), some (.ref d2), none, none] ∧ H' = H1) ⟨rfl, rfl⟩ (fun i σ' H' _ e => by rw [e.2]; exact SqL.of e3) (fun i x σ' H' e => by simp at e) ?_⟩
    rintro σ' H' ⟨rfl, rfl⟩
    have off : Off d2 a b c := ⟨ne_of_none L.w (s1.free n2), ne_of_none L.m (s1.free n2), ne_of_none L.e (s1.free n2)⟩
    refine ⟨_, rfl, _, rfl, _, rfl, _, rfl, q, a, b, c, d2, _, v, t, rfl, L.mono s13, .inl (s3 _ _ upd_same), off, ht.mono (Tups.of s13), hh, ok, fun z H4 b4 r4 n4 t4 => ?_⟩
    exact k z H4 (s1.trans (((But.of (same_new n2 (.dK []))).trans ((But.of s3).trans b4)).same n2)) (s13.free n4) t4
end
end K77

/-! own rules for dicts whose keys are tuples: a display of one pair, dict(d), d == e -/
namespace HL
open PySem PySem.Calls PySem.Spec PySem.W L2
section
variable {prog : Program} {w : World} {K : Type} [DecidableEq K] {knd : HeapKind prog w K} {A : Around} {E : Value → Shared → Prop} {s : Shared}
/-- a display with tuple keys, the keys' places kept in sight -/
theorem disp_heap {env : Env} {keys : List (Option Expr)} {values : List Expr} {pos : Pos} {pairs : List (Sem Value × Sem Value)} {Q : Value → Shared → Prop} (hu : knd.room A)
    (hshape : (evalEachOpt keys env).zip ((evalEach values env).map fun v => do let x ← v; standAt pos; pure x) = pairs.map fun p => (some p.1, p.2)) (h0 : pairs ≠ []) (hlen : pairs.length ≤ 15)
    (h : wpAny (model prog w) A (evalPairs pairs) (fun vs s₁ => ∃ ps, CarriesH knd s₁.heap vs ps ∧ s₁.heap.DictOfH knd s.heap.objs.size [] ∧
      ∀ h' tk, h'.DictOfH knd s.heap.objs.size (storedAllH [] ps) → Heap.SameBut s.heap.objs.size s₁.heap h' → Q (.ref s.heap.objs.size) { s₁ with heap := h', toks := tk }) E
      { s with heap := s.heap.push { cls := .type "dict", data := .dict #[] } }) :
    wpAny (model prog w) A (eval (.Dict keys values pos) env) Q E s := by
  rw [arm_eval_Dict, hshape, dictDisplay_pairs pairs h0 (by omega)]
  exact wpAny_bind (wpAny_standAt (wpAny_bind (wpAny_subDictH (knd := knd) (Q := fun d s' => wpAny (model prog w) A (pure (Value.ref d)) Q E s') hu hlen
    (wpAny_mono h (fun vs s₁ h₁ => by obtain ⟨ps, hc, hm, hq⟩ := h₁; exact ⟨ps, hc, hm, fun h' tk a b => wpAny_pure (hq h' tk a b)⟩) fun _ _ e => e))))
end
section
variable {X : Cx} {pins : List (Addr × Obj)} {σ : L2.St} {H : Hp} {s : Shared} {a : Addr}
theorem dt_new {P : Program} {w : World} {H' : Hp} {h' : Heap} {kvs : List (List Key × V)} {xs : List (List Key × Addr × Value)} (z : kvs.length ≤ sizeLine) (hd : (a == sysModules) = false) (rel : KT H' kvs xs) (dd : h'.DictOfH (tupleKind (mixKind P w)) a xs) :
    ObjOk P w H' h' a (.dT kvs) := by
  obtain ⟨o, es, ep, h1, h2, h3, h4, _, h5⟩ := dd
  exact ⟨z, hd, xs, rel, o, es, ep, h1, h2, h3, h4, h5⟩
/-- {(..): v} -/
def tDisp1T (tk tv : TE) : TE := fun σ H Q => ∀ p, H p = none → tPairs [(tk, tv)] σ (upd H p (.dT [])) fun ps H2 => H2 p = some (.dT []) ∧ ∃ (k : List Key) (b : Addr) (y : V), ps = [(.ref b, y)] ∧ H2 b = some (.tup (k.map kV)) ∧ Q (.ref p) (upd H2 p (.dT [(k, y)]))
theorem pe_disp1T {pos : Pos} {k v : Expr} {tk tv : TE} (hu : X.A.units + 1 < cLine) (hk : PE X k tk) (hv : PE X v tv) : PE X (.Dict [some k] [v] pos) (tDisp1T tk tv) := by
  refine ⟨fun pins s σ H Q I q => ?_⟩
  have hn := I.hok.fresh (Nat.le_refl s.heap.objs.size)
  have I1 := I.laid (a := s.heap.objs.size) (o := .dT []) (h' := s.heap.push { cls := .type "dict", data := .dict #[] }) (t' := s.toks) (fun _ _ q => Heap.get?_push_of_some _ q) (Nat.le_refl _) (dt_empty s.heap I.big)
  have hP := pps_cons (pos := pos) hk hv pps_nil
  have hl := pairTrees_length [some k] [v] X.env pos rfl rfl
  refine disp_heap (knd := tupleKind (mixKind X.prog X.w)) (pairs := pairTrees [some k] [v] X.env pos) (by show X.A.units < cLine; omega) (zip_pairTrees [some k] [v] X.env pos rfl rfl) (by intro z; rw [z] at hl; cases hl) (by rw [hl]; exact Nat.le_of_ble_eq_true rfl) ?_
  refine thn (hP.run pins _ σ _ _ I1 (q _ hn)) fun ws s2 ⟨ps, H2, I2, rel, hp2, k2, b, y, e, hb, q2⟩ => ?_
  subst e
  cases rel with
  | @cons _ p2 _ _ r1 r2 =>
    cases r2
    obtain ⟨u1, u2⟩ := p2
    obtain ⟨e1, e2⟩ := r1
    obtain rfl : u1 = Value.ref b := e1
    obtain ⟨z, hd, xs0, r0, dd⟩ := dt_of I2.hok hp2
    cases r0
    refine ⟨[(k2, b, u2)], ⟨rfl, rfl, key_of I2.hok hb, trivial⟩, dd, fun h' tk' dd' hs => ⟨.ref s.heap.objs.size, _, ?_, rfl, q2⟩⟩
    have he : ∃ q, h'.get? s.heap.objs.size = some q := let ⟨q, _, _, hq, _⟩ := dd'; ⟨q, hq⟩
    have nb : b ≠ s.heap.objs.size := ne_of hb hp2 (by intro z; cases z)
    exact d_write I2 (by rw [hp2]; exact True.intro) hs he (dt_new (by rw [sizeLine_eq]; exact Nat.le_of_ble_eq_true rfl) hd (.cons ⟨rfl, by rw [upd_ne nb]; exact hb, e2⟩ .nil) dd')
/-- dict(d), no two keys of one hash -/
theorem call_dict_dT (hu : X.A.units + 2 < cLine) : CallR X (.type "dict") (fun xs H Q => ∃ (d : Addr) (kvs : List (List Key × V)), xs = [.ref d] ∧ H d = some (.dT kvs) ∧ (kvs.map fun p => tupleKeyHash (mixKind X.prog X.w) p.1).Nodup ∧ ∀ p, H p = none → Q (.ref p) (upd H p (.dT kvs))) := by
  intro pins s σ H xs us Q I r h
  obtain ⟨d, kvs, rfl, hd, nd, q⟩ := h
  obtain ⟨u, rfl, rx⟩ := vals1 r
  cases rx
  obtain ⟨z, hds, xs, rel, dd⟩ := dt_of I.hok hd
  have hz : xs.length ≤ sizeLine := by rw [← Paired.length rel]; exact z
  refine callType_codes (Q₁ := fun obj s₁ => obj = .ref s.heap.objs.size ∧ s₁ = { s with heap := s.heap.push { cls := .type "dict", data := .dict #[] } }) PySem.F.kt_called_dict (PySem.F.kt_typeCall_dict_1 _) PySem.F.entry_dict_init (kt_code_dict_new _ ⟨rfl, rfl⟩) ?_
  rintro obj s₁ ⟨rfl, rfl⟩
  have hnew : (s.heap.push { cls := .type "dict", data := .dict #[] }).DictOfH (tupleKind (mixKind X.prog X.w)) s.heap.objs.size [] := Heap.DictOfH.new s.heap
  have k0 : ∀ b o, s.heap.get? b = some o → (s.heap.push { cls := .type "dict", data := .dict #[] }).get? b = some o := fun b o e => Heap.get?_push_of_some _ e
  have I1 : Inv X pins σ H { s with heap := s.heap.push { cls := .type "dict", data := .dict #[] } } := I.kept (t' := s.toks) k0
  obtain ⟨_, _, xs1, rel1, dd1⟩ := dt_of I1.hok hd
  have hdo : s.heap.objs.size ≠ d := by
    obtain ⟨_, _, _, hg, _⟩ := dd
    exact fun e => absurd (Heap.lt_size hg) (by rw [e]; exact Nat.lt_irrefl _)
  refine ⟨hnew.typeIs, PySem.F.args_dict_init_2 _ _, ?_⟩
  unfold Builtin.«dict.__init__»
  refine wpAny_bind ?_
  unfold Builtin.Dict.selfAndRest
  refine wpAny_bind (wpAny_notOrdered_dict hnew.typeIs ?_)
  show wpAny _ _ (pure (s.heap.objs.size, [Value.ref d])) _ _ _
  refine wpAny_pure ?_
  show wpAny _ _ (Builtin.Dict.updateFrom "dict.__init__" s.heap.objs.size (.ref d) [] .none) _ _ _
  have hash : ∀ {l : List (List Key × V)} {m : List (List Key × Addr × Value)}, KT H l m → (m.map fun x => (tupleKind (mixKind X.prog X.w)).hash x.1) = l.map fun p => tupleKeyHash (mixKind X.prog X.w) p.1 := by
    intro l m q
    induction q with
    | nil => rfl
    | cons h t ih => rw [List.map_cons, List.map_cons, ih, ← h.1]; rfl
  have hz1 : xs1.length ≤ sizeLine := by rw [← Paired.length rel1]; exact z
  refine updateFrom_dictH (A := X.A.in1) .none (by show X.A.units + 1 + 1 < cLine; exact hu) hdo hds hnew dd1 (.inr ⟨fun x hx => ?_, by rw [hash rel1]; exact nd⟩) (by rw [List.length_nil, Nat.zero_add]; exact hz1) fun h' hd' ho' hs' => ?_
  · obtain ⟨_, _, _, _, _, _, _, his, _⟩ := dd1
    obtain ⟨o, items, n, h1, h2, _⟩ := his x hx
    exact ⟨o, h1, h2⟩
  · have ns : ∀ {b : Addr} {o : Obj}, s.heap.get? b = some o → b ≠ s.heap.objs.size := fun e => Nat.ne_of_lt (Heap.lt_size e)
    have nn := I.hok.fresh (Nat.le_refl s.heap.objs.size)
    rw [storedAllH_nil_of_nodup xs1 dd1.nodup] at hd'
    refine ⟨rfl, .ref s.heap.objs.size, _, I.laid (a := s.heap.objs.size) (o := .dT kvs) (t' := s.toks) (fun b o e => (hs'.2 b (ns e)).trans (k0 b o e)) (Nat.le_refl _) (dt_new z (beq_eq_false_iff_ne.mpr (Ne.symm (Nat.ne_of_lt I.big))) (rel1.keeps fun b ys e => by rw [upd_ne (ne_of_none e nn)]; exact e) hd'), rfl, q _ nn⟩
/-! ### d == e -/
theorem all_entries {l : List (List Key × V)} {m : List (List Key × Addr × Value)} (q : KT H l m) {i : Nat} {x : List Key × Addr × Value} (e : m[i]? = some x) : ∃ p, l[i]? = some p ∧ p.1 = x.1 ∧ H x.2.1 = some (.tup (p.1.map kV)) ∧ RelV p.2 x.2.2 := by
  induction q generalizing i with
  | nil => simp at e
  | @cons p q ps qs h t ih =>
    cases i with
    | zero =>
      simp at e
      subst e
      exact ⟨p, rfl, h.1, h.2.1, h.2.2⟩
    | succ j =>
      rw [List.getElem?_cons_succ] at e
      obtain ⟨p', e', r⟩ := ih e
      exact ⟨p', by rw [List.getElem?_cons_succ]; exact e', r⟩
theorem at_first {xs : List (List Key × Addr × Value)} (nd : (xs.map (·.1)).Nodup) {j : Nat} {k : List Key} {p : Addr × Value} (e : xs[j]? = some (k, p)) : atKey xs k = some p := by
  induction xs generalizing j with
  | nil => simp at e
  | cons x r ih =>
    rw [List.map_cons, List.nodup_cons] at nd
    cases j with
    | zero =>
      simp at e
      subst e
      simp [atKey]
    | succ i =>
      rw [List.getElem?_cons_succ] at e
      have ne : x.1 ≠ k := fun z => nd.1 (List.mem_map.mpr ⟨(k, p), List.mem_of_getElem? e, z.symm⟩)
      have := ih nd.2 e
      unfold atKey at this ⊢
      rw [List.find?_cons_of_neg (by simpa using ne)]
      exact this
/-- two dicts of tuple keys that hold the same -/
theorem op_eq_dT (hu : X.A.units + 1 < cLine) : OpR X (compareOp .Eq) (fun x y H Q => ∃ (a b : Addr) (ks ls : List (List Key × V)), x = .ref a ∧ y = .ref b ∧ H a = some (.dT ks) ∧ H b = some (.dT ls) ∧ ks.length = ls.length ∧ (∀ p ∈ ks, valV ls p.1 = some p.2 ∧ flatB p.2 = true) ∧ Q (.bl true) H) := by
  intro pins s σ H x y v u Q I rx ry h
  obtain ⟨a, b, ks, ls, rfl, rfl, ea, eb, hlen, hp, q⟩ := h
  obtain rfl : v = Value.ref a := rx
  obtain rfl : u = Value.ref b := ry
  obtain ⟨_, ya, xa, ra, da⟩ := dt_of I.hok ea
  obtain ⟨_, yb, xb, rb, db⟩ := dt_of I.hok eb
  have hxx : xa.length = xb.length := by rw [← Paired.length ra, ← Paired.length rb]; exact hlen
  refine wpAny_richCompare_same_room (op := .Eq) da.typeIs db.typeIs PySem.F.slot_dict_eq (wpAny_call_entry PySem.F.slot_dict_eq da.typeIs PySem.F.entry_dict_eq ?_ (PySem.F.args_dict_eq_2 _ _)) (by omega)
  show wpAny _ _ (Builtin.Dict.dictSlotArgs "__eq__" ⟨[.ref a, .ref b], []⟩ >>= _) _ _ s
  refine wpAny_bind ?_
  unfold Builtin.Dict.dictSlotArgs
  refine wpAny_bind (wpAny_notOrdered_dict da.typeIs ?_)
  show wpAny _ _ (pure (Value.ref a, Value.ref b)) _ _ s
  refine wpAny_pure ?_
  refine wpAny_bind (wpAny_isInstance (T := "dict") db.typeIs PySem.F.sub_dict_dict ?_)
  simp only [Bool.not_true, Bool.false_eq_true, if_false]
  refine wpAny_bind (wpAny_pure (wpAny_bind (wpAny_pure ?_)))
  refine wpAny_bind ?_
  obtain ⟨oa, es, ep, hoa, _, hda, hea, hia, hna⟩ := id da
  obtain ⟨ob, es', ep', hob, _, hdb, heb, hib, hnb⟩ := id db
  have hla : es.size = xa.length := size_of_entries hea
  have hlb : es'.size = xb.length := size_of_entries heb
  unfold Builtin.Dict.samePairs Builtin.Dict.showsAll
  rw [if_neg (show ¬ (a == sysModules) = true by rw [ya]; exact Bool.false_ne_true), if_neg (show ¬ (b == sysModules) = true by rw [yb]; exact Bool.false_ne_true)]
  refine wpAny_bind (wpAny_pure (wpAny_bind (wpAny_pure ?_)))
  refine wpAny_bind (wpAny_dictEntries hoa hda ?_)
  dsimp only
  refine wpAny_bind (wpAny_dictEntries hob hdb ?_)
  have hsz : es.size = es'.size := by omega
  rw [if_neg (by rw [hsz]; simp)]
  refine wpAny_bind (wpAny_dictEpoch hoa hda ?_)
  refine wpAny_bind ?_
  rw [Std.Legacy.Range.forIn_eq_forIn_range']
  simp only [Std.Legacy.Range.size, Nat.sub_zero, Nat.add_sub_cancel, Nat.div_one]
  refine wpAny_forIn_list _ (fun rest q s' => s' = s ∧ q = (none, ()) ∧ ∃ i, rest = List.range' i (es.size - i) ∧ i ≤ es.size) _ ?_ ?_ _ _ ⟨rfl, rfl, 0, by simp, Nat.zero_le _⟩
  · rintro x rest q s' ⟨rfl, rfl, i, hr, hi⟩
    have hlt : i < es.size := by
      rcases Nat.lt_or_ge i es.size with h | h
      · exact h
      · rw [Nat.sub_eq_zero_of_le h] at hr; simp at hr
    obtain ⟨rfl, hrest⟩ : x = i ∧ rest = List.range' (i + 1) (es.size - (i + 1)) := by
      have e : es.size - i = (es.size - (i + 1)) + 1 := by omega
      rw [e, List.range'_succ] at hr
      injection hr with h1 h2
      exact ⟨h1, h2⟩
    refine wpAny_bind (wpAny_dictEntries hoa hda ?_)
    obtain ⟨⟨k, c, v⟩, hkv⟩ : ∃ kv, xa[x]? = some kv := ⟨xa[x]'(by omega), List.getElem?_eq_getElem _⟩
    rw [entry_at hea x, hkv]
    obtain ⟨⟨k1, y1⟩, hk1, e1, ht1, rv1⟩ := all_entries ra hkv
    obtain rfl : k1 = k := e1
    obtain ⟨hv, hf⟩ := hp _ (List.mem_of_getElem? hk1)
    show wpAny _ _ (holding [.ref c, v] _ >>= _) _ _ _
    refine wpAny_bind (wpAny_holding (wpAny_bind ?_))
    refine wpAny_dictFind_heap (knd := tupleKind (mixKind X.prog X.w)) (by show X.A.units + 1 < cLine; exact hu) (hia _ (List.mem_of_getElem? hkv)) hob hdb heb hib hnb (fun no => ?_) (fun j p hj => ?_)
    · exfalso
      have r := rb.val k1
      rw [hv] at r
      obtain ⟨w', hw, _⟩ := RelO.some_of (v := y1) r
      obtain ⟨p, hp', _⟩ := Option.map_eq_some_iff.mp hw
      unfold atKey at hp'
      obtain ⟨z, hz, _⟩ := Option.map_eq_some_iff.mp hp'
      obtain ⟨j, hj⟩ := List.getElem?_of_mem (List.mem_of_find?_eq_some hz)
      have hk := List.find?_some hz
      have ek : z.1 = k1 := by simpa using hk
      exact no j z.2 (by rw [hj, ← ek])
    · refine wpAny_bind (wpAny_dictEntries hob hdb ?_)
      rw [entry_at heb j, hj]
      have r := rb.val k1
      rw [hv, at_first hnb hj] at r
      refine wpAny_holding (eqAt_same rv1 (show RelV y1 p.2 from r) hf X.prog X.w _ _ ?_)
      show wpAny _ _ (if (!true) = true then _ else _) _ _ _
      rw [if_neg (by decide)]
      refine wpAny_bind (wpAny_dictEpoch hoa hda ?_)
      rw [if_neg (by simp)]
      exact wpAny_pure ⟨rfl, rfl, x + 1, hrest, hlt⟩
  · rintro q s' ⟨rfl, rfl, i, hr, hi⟩
    refine wpAny_pure ?_
    refine wpAny_pure ⟨_, rfl, ?_, ?_⟩
    · exact fun x => nomatch x
    · exact fin_bl I q (by simp)
end
end HL

/-! no two pairs (a, b) with a < 16384 and b < 2^30 have one hash: by the sorted list of what the first lane comes to -/
namespace HL.Hash
open PySem L2
abbrev M : Nat := 18446744073709551616
abbrev p1 : Nat := 11400714785074694791
abbrev p2 : Nat := 14029467366897019727
abbrev p5 : Nat := 2870177450012600261
abbrev i1 : Nat := 614540362697595703
abbrev i2 : Nat := 839798700976720815
abbrev cc : Nat := 2870177450013471924
abbrev k0 : Nat := 15576566623696079691
abbrev t0 : Nat := 9148689060682678900
abbrev s0 : Nat := 15746002411462551884
abbrev B : Nat := 1073741824
def rot (x : Nat) : Nat := ((x * 2147483648) % M + x / 8589934592) * p1 % M
def lane (acc h : Nat) : Nat := rot ((acc + h * p2) % M)
def G (a : Nat) : Nat := (lane p5 a * i2) % M
/-! ## rot takes no two numbers to one -/
theorem mul_inj {x y : Nat} (hx : x < M) (hy : y < M) (h : x * p1 % M = y * p1 % M) : x = y := by
  have e : ∀ z : Nat, z < M → (z * p1 % M) * i1 % M = z := fun z hz => by
    rw [Nat.mod_mul_mod, Nat.mul_assoc, Nat.mul_mod, show p1 * i1 % M = 1 from by decide, Nat.mul_one, Nat.mod_mod, Nat.mod_eq_of_lt hz]
  rw [← e x hx, ← e y hy, h]
theorem spin_eq (x : Nat) : (x * 2147483648) % M = x % 8589934592 * 2147483648 := by
  rw [show M = 8589934592 * 2147483648 from by decide, Nat.mul_mod_mul_right]
theorem spin_inj {x y : Nat} (hx : x < M) (hy : y < M) (h : (x * 2147483648) % M + x / 8589934592 = (y * 2147483648) % M + y / 8589934592) : x = y := by
  rw [spin_eq, spin_eq] at h
  unfold M at hx hy
  omega
theorem spin_lt {x : Nat} (hx : x < M) : (x * 2147483648) % M + x / 8589934592 < M := by
  rw [spin_eq]
  unfold M at hx ⊢
  omega
theorem rot_inj {x y : Nat} (hx : x < M) (hy : y < M) (h : rot x = rot y) : x = y := spin_inj hx hy (mul_inj (spin_lt hx) (spin_lt hy) h)
theorem mlt (x : Nat) : x % M < M := Nat.mod_lt _ (by decide)
/-! ## the second lane -/
theorem low (u b : Nat) : ((u + b * p2) % M) * i2 % M = (u * i2 % M + b) % M := by
  rw [Nat.mod_mul_mod, Nat.add_mul, Nat.mul_assoc, Nat.add_mod, Nat.mul_mod b, show p2 * i2 % M = 1 from by decide, Nat.mul_one, Nat.mod_mod, Nat.add_mod (u * i2 % M) b, Nat.mod_mod]
theorem lanes {a b a' b' : Nat} (h : lane (lane p5 a) b = lane (lane p5 a') b') : (G a + b) % M = (G a' + b') % M := by
  have e := rot_inj (mlt _) (mlt _) h
  have e2 := congrArg (fun z => z * i2 % M) e
  simp only [low] at e2
  exact e2
theorem lane_k0 {a b : Nat} (h : lane (lane p5 a) b = k0) : (G a + b) % M = s0 := by
  have hk : rot t0 = k0 := by decide
  have e := rot_inj (mlt _) (by decide) (h.trans hk.symm)
  have e2 := congrArg (fun z => z * i2 % M) e
  simp only [low] at e2
  exact e2.trans (by decide)
/-! ## the sorted list -/
noncomputable def mrg (xs : List Nat) : List Nat → List Nat := List.rec (motive := fun _ => List Nat → List Nat) (fun ys => ys) (fun x xs ih ys => List.rec (motive := fun _ => List Nat) (x :: xs) (fun y ys ih2 => bif Nat.ble x y then x :: ih (y :: ys) else y :: ih2) ys) xs
noncomputable def srt : Nat → Nat → List Nat
  | 0, o => [G o]
  | d + 1, o => mrg (srt d o) (srt d (o + 2 ^ d))
theorem mrg_nil (ys : List Nat) : mrg [] ys = ys := rfl
theorem mrg_cn (x : Nat) (xs : List Nat) : mrg (x :: xs) [] = x :: xs := rfl
theorem mrg_cc (x y : Nat) (xs ys : List Nat) : mrg (x :: xs) (y :: ys) = bif Nat.ble x y then x :: mrg xs (y :: ys) else y :: mrg (x :: xs) ys := rfl
theorem mrg_perm : ∀ xs ys : List Nat, (mrg xs ys).Perm (xs ++ ys)
  | [], ys => by rw [mrg_nil]; exact .refl _
  | x :: xs, ys => by
    induction ys with
    | nil => rw [mrg_cn, List.append_nil]
    | cons y ys ih =>
      rw [mrg_cc]
      cases Nat.ble x y with
      | true => exact .cons x (mrg_perm xs (y :: ys))
      | false => exact (List.Perm.cons y ih).trans (List.perm_middle (a := y) (l₁ := x :: xs) (l₂ := ys)).symm
theorem srt_perm : ∀ d o : Nat, (srt d o).Perm ((List.range' o (2 ^ d)).map G)
  | 0, o => .refl _
  | d + 1, o => by
    have e : List.range' o (2 ^ (d + 1)) = List.range' o (2 ^ d) ++ List.range' (o + 2 ^ d) (2 ^ d) := by
      rw [List.range'_append_1, Nat.pow_succ, Nat.mul_two]
    rw [e, List.map_append]
    exact (mrg_perm _ _).trans ((srt_perm d o).append (srt_perm d (o + 2 ^ d)))
noncomputable def chk (l : List Nat) : Nat → Bool := List.rec (motive := fun _ => Nat → Bool) (fun prev => Nat.ble (prev + B) M) (fun y _ ih prev => bif Nat.ble (prev + B) y then ih y else false) l
theorem chk_c (y : Nat) (l : List Nat) (p : Nat) : chk (y :: l) p = bif Nat.ble (p + B) y then chk l y else false := rfl
theorem chk_n (p : Nat) : chk [] p = Nat.ble (p + B) M := rfl
theorem chk_ok (l : List Nat) : ∀ p : Nat, chk l p = true → p + B ≤ M ∧ (∀ x ∈ l, p + B ≤ x) ∧ l.Pairwise (fun x y => x + B ≤ y) ∧ ∀ x ∈ l, x + B ≤ M := by
  induction l with
  | nil =>
    intro p h
    rw [chk_n] at h
    exact ⟨Nat.le_of_ble_eq_true h, fun _ h => absurd h List.not_mem_nil, .nil, fun _ h => absurd h List.not_mem_nil⟩
  | cons y l ih =>
    intro p h
    rw [chk_c] at h
    cases e : Nat.ble (p + B) y with
    | false =>
      rw [e] at h
      exact absurd h Bool.false_ne_true
    | true =>
      rw [e] at h
      obtain ⟨h1, h2, h3, h4⟩ := ih y h
      have k := Nat.le_of_ble_eq_true e
      refine ⟨by omega, fun x hx => ?_, .cons h2 h3, fun x hx => ?_⟩
      · rcases List.mem_cons.mp hx with rfl | hx
        · exact k
        · have := h2 x hx
          omega
      · rcases List.mem_cons.mp hx with rfl | hx
        · exact h1
        · exact h4 x hx
theorem computed : chk (mrg [s0] (srt 14 0)) 0 = true := by decide +kernel
def Sep (x y : Nat) : Prop := x + B ≤ y ∨ y + B ≤ x
theorem all_sep : ((s0 :: (List.range' 0 16384).map G).Pairwise Sep) ∧ ∀ x ∈ s0 :: (List.range' 0 16384).map G, x + B ≤ M := by
  obtain ⟨_, _, h3, h4⟩ := chk_ok _ _ computed
  have p : (mrg [s0] (srt 14 0)).Perm (s0 :: (List.range' 0 16384).map G) := (mrg_perm _ _).trans (.cons s0 (srt_perm 14 0))
  exact ⟨(p.pairwise_iff (fun h => h.symm)).mp (h3.imp fun h => .inl h), fun x hx => h4 x (p.mem_iff.mpr hx)⟩
theorem G_lt {a : Nat} (h : a < 16384) : G a + B ≤ M := all_sep.2 _ (List.mem_cons_of_mem _ (List.mem_map.mpr ⟨a, List.mem_range'_1.mpr ⟨Nat.zero_le _, by omega⟩, rfl⟩))
theorem G_s0 {a : Nat} (h : a < 16384) : Sep s0 (G a) := (List.pairwise_cons.mp all_sep.1).1 _ (List.mem_map.mpr ⟨a, List.mem_range'_1.mpr ⟨Nat.zero_le _, by omega⟩, rfl⟩)
theorem G_sep {a b : Nat} (h : a < b) (hb : b < 16384) : Sep (G a) (G b) := by
  have p := (List.pairwise_map.mp (List.pairwise_cons.mp all_sep.1).2)
  rw [List.pairwise_iff_getElem] at p
  have := p a b (by rw [List.length_range']; omega) (by rw [List.length_range']; omega) h
  rw [List.getElem_range', List.getElem_range'] at this
  simpa using this
theorem lane_inj {a b a' b' : Nat} (ha : a < 16384) (ha' : a' < 16384) (hb : b < B) (hb' : b' < B) (h : lane (lane p5 a) b = lane (lane p5 a') b') : a = a' ∧ b = b' := by
  have e := lanes h
  have g1 := G_lt ha
  have g2 := G_lt ha'
  rw [Nat.mod_eq_of_lt (by omega), Nat.mod_eq_of_lt (by omega)] at e
  have : a = a' := by
    rcases Nat.lt_trichotomy a a' with q | q | q
    · rcases G_sep q ha' with z | z <;> omega
    · exact q
    · rcases G_sep q ha with z | z <;> omega
  subst this
  exact ⟨rfl, by omega⟩
theorem lane_nk {a b : Nat} (ha : a < 16384) (hb : b < B) : lane (lane p5 a) b ≠ k0 := fun h => by
  have e := lane_k0 h
  have g1 := G_lt ha
  rw [Nat.mod_eq_of_lt (by omega)] at e
  rcases G_s0 ha with z | z <;> omega
end HL.Hash

namespace HL.Hash
open PySem L2
theorem hash_small {n : Nat} (h : n < 1073741824) : hashInt (n : Int) = (n : Int) := by
  unfold hashInt rawHash
  have e : ((n : Int).natAbs : Int) % ((2 ^ 61 - 1 : Nat) : Int) = n := by omega
  simp only [e]
  have e2 : ¬ ((n : Int) < 0) := by omega
  have e3 : ((n : Int) == -1) = false := by
    rw [beq_eq_false_iff_ne]
    omega
  simp only [e2, e3, if_false]
  rfl
theorem two64 : (2 : Nat) ^ 64 = M := by decide
theorem two31 : (2 : Nat) ^ 31 = 2147483648 := by decide
theorem two33 : (2 : Nat) ^ 33 = 8589934592 := by decide
theorem cc_eq (a b : Int) : (([a, b] : List Int).length ^^^ (2870177450012600261 ^^^ 3527539)) = cc := by
  show (2 ^^^ (2870177450012600261 ^^^ 3527539)) = cc
  decide
theorem red {n : Nat} (h : n < 1073741824) : ((n : Int) % (M : Int)).toNat = n := by
  unfold M
  omega
def stepH (m prime1 prime2 : Nat) (acc : Nat) (h : Int) : Nat :=
  let acc := (acc + (h % (m : Int)).toNat * prime2) % m
  let acc := (acc * 2 ^ 31) % m + acc / 2 ^ 33
  (acc * prime1) % m
def finH (m : Nat) (k : Nat) (acc : Nat) : Int :=
  let acc := (acc + k) % m
  if acc == m - 1 then 1546275796 else if acc < 2 ^ 63 then acc else (acc : Int) - m
theorem tuple_form (hs : List Int) : Builtin.Tuple.tupleHashOf hs = finH (2 ^ 64) (hs.length ^^^ (2870177450012600261 ^^^ 3527539)) (hs.foldl (init := 2870177450012600261) (stepH (2 ^ 64) 11400714785074694791 14029467366897019727)) := by
  unfold Builtin.Tuple.tupleHashOf finH
  rfl
theorem step_lane (acc n : Nat) (h : n < 1073741824) : stepH M p1 p2 acc (n : Int) = lane acc n := by
  unfold stepH lane rot
  rw [red h, two31, two33]
theorem tuple_hash (a b : Nat) (ha : a < 1073741824) (hb : b < 1073741824) : Builtin.Tuple.tupleHashOf [(a : Int), (b : Int)] = finH M cc (lane (lane p5 a) b) := by
  rw [tuple_form, two64, cc_eq, List.foldl_cons, List.foldl_cons, List.foldl_nil, step_lane _ _ ha, step_lane _ _ hb]
theorem lane_lt (x n : Nat) : lane x n < M := mlt _
theorem fin_nat {T : Nat} (h : T < M) (hn : T ≠ k0) : ∃ v : Nat, v < M ∧ v ≠ M - 1 ∧ v = (T + cc) % M ∧ reduceHash (finH M cc T) = if v < 2 ^ 63 then (v : Int) else (v : Int) - (M : Int) := by
  have ne : (T + cc) % M ≠ M - 1 := fun z => hn (by
    unfold M cc k0 at *
    omega)
  refine ⟨(T + cc) % M, mlt _, ne, rfl, ?_⟩
  have lt := mlt (T + cc)
  unfold finH
  dsimp only
  generalize (T + cc) % M = v at ne lt ⊢
  rw [if_neg (by simpa using ne)]
  unfold reduceHash
  by_cases q : v < 2 ^ 63
  · rw [if_pos q, if_pos (by simp only [Bool.and_eq_true, decide_eq_true_eq]; omega), if_neg]
    intro z
    have : (v : Int) = -1 := by simpa using z
    omega
  · rw [if_neg q, if_pos (by simp only [Bool.and_eq_true, decide_eq_true_eq]; unfold M at *; omega), if_neg]
    intro z
    have : (v : Int) - (M : Int) = -1 := by simpa using z
    unfold M at *
    omega
def small (k : List Key) : Prop := ∃ a b : Nat, k = [.inl (a : Int), .inl (b : Int)] ∧ a < 16384 ∧ b < 1073741824
theorem key_inj {P : Program} {w : World} {k k' : List Key} (h : small k) (h' : small k') (e : tupleKeyHash (mixKind P w) k = tupleKeyHash (mixKind P w) k') : k = k' := by
  obtain ⟨a, b, rfl, ha, hb⟩ := h
  obtain ⟨a', b', rfl, ha', hb'⟩ := h'
  have f : ∀ a b : Nat, a < 16384 → b < 1073741824 → tupleKeyHash (mixKind P w) [.inl (a : Int), .inl (b : Int)] = reduceHash (finH M cc (lane (lane p5 a) b)) := fun a b ha hb => by
    show reduceHash (Builtin.Tuple.tupleHashOf [hashInt (a : Int), hashInt (b : Int)]) = _
    rw [hash_small (by omega), hash_small hb, tuple_hash a b (by omega) hb]
  rw [f a b ha hb, f a' b' ha' hb'] at e
  obtain ⟨v, v1, v2, v3, v4⟩ := fin_nat (lane_lt (lane p5 a) b) (lane_nk ha hb)
  obtain ⟨u, u1, u2, u3, u4⟩ := fin_nat (lane_lt (lane p5 a') b') (lane_nk ha' hb')
  rw [v4, u4] at e
  have vu : v = u := by
    unfold M at *
    split at e <;> split at e <;> omega
  have tt : lane (lane p5 a) b = lane (lane p5 a') b' := by
    have l1 := lane_lt (lane p5 a) b
    have l2 := lane_lt (lane p5 a') b'
    rw [v3, u3] at vu
    generalize lane (lane p5 a) b = x at *
    generalize lane (lane p5 a') b' = y at *
    unfold M cc at *
    omega
  obtain ⟨rfl, rfl⟩ := lane_inj ha ha' hb hb' tt
  rfl
/-- small keys that differ hash apart -/
theorem nodup {P : Program} {w : World} {kvs : List (List Key × V)} (nd : (kvs.map (·.1)).Nodup) (h : ∀ p ∈ kvs, small p.1) : (kvs.map fun p => tupleKeyHash (mixKind P w) p.1).Nodup := by
  induction kvs with
  | nil => exact .nil
  | cons p r ih =>
    rw [List.map_cons, List.nodup_cons] at nd ⊢
    refine ⟨fun z => ?_, ih nd.2 fun q hq => h q (List.mem_cons_of_mem _ hq)⟩
    obtain ⟨q, hq, e⟩ := List.mem_map.mp z
    exact nd.1 (List.mem_map.mpr ⟨q, hq, key_inj (h q (List.mem_cons_of_mem _ hq)) (h p List.mem_cons_self) e⟩)
end HL.Hash

/-! counted plays: what the law's dicts hold -/
namespace K77
open PySem L2 HL
def kp (x : Pl) : List Key := [.inl x.1, .inl x.2]
theorem kp_inj {x y : Pl} (h : kp x = kp y) : x = y := by
  unfold kp at h
  injection h with h1 h2
  injection h2 with h2 _
  exact Prod.ext (Sum.inl.inj h1) (Sum.inl.inj h2)
abbrev Cs := List (Pl × Int)
def ci (cs : Cs) : List (List Key × V) := cs.map fun p => (kp p.1, V.int p.2)
def getC : Cs → Pl → Option Int
  | [], _ => none
  | p :: r, x => if p.1 = x then some p.2 else getC r x
def addC : Cs → Pl → Int → Cs
  | [], x, n => [(x, n)]
  | p :: r, x, n => if p.1 = x then (p.1, p.2 + n) :: r else p :: addC r x n
theorem val_ci : ∀ (cs : Cs) (x : Pl), valV (ci cs) (kp x) = (getC cs x).map V.int
  | [], x => rfl
  | p :: r, x => by
    show valV ((kp p.1, V.int p.2) :: ci r) (kp x) = (if p.1 = x then some p.2 else getC r x).map V.int
    by_cases e : p.1 = x
    · rw [valV_pos (show (kp p.1, V.int p.2).1 = kp x from congrArg kp e), if_pos e]
      rfl
    · rw [valV_neg (show ¬ (kp p.1, V.int p.2).1 = kp x from fun z => e (kp_inj z)), if_neg e]
      exact val_ci r x
theorem put_cons (p : List Key × V) (r : List (List Key × V)) (k : List Key) (v : V) (h : ¬ p.1 = k) : putK (p :: r) k v = p :: putK r k v := by
  unfold putK
  rw [List.any_cons, decide_eq_false h, Bool.false_or]
  split
  · rw [List.map_cons, if_neg h]
  · rfl
theorem put_ci : ∀ (cs : Cs) (x : Pl) (n : Int), (cs.map (·.1)).Nodup → putK (ci cs) (kp x) (.int ((getC cs x).getD 0 + n)) = ci (addC cs x n)
  | [], x, n, _ => by
    show putK [] (kp x) (.int (0 + n)) = [(kp x, V.int n)]
    rw [Int.zero_add]
    rfl
  | p :: r, x, n, nd => by
    rw [List.map_cons, List.nodup_cons] at nd
    show putK ((kp p.1, V.int p.2) :: ci r) (kp x) (.int ((if p.1 = x then some p.2 else getC r x).getD 0 + n)) = ci (if p.1 = x then (p.1, p.2 + n) :: r else p :: addC r x n)
    by_cases e : p.1 = x
    · rw [if_pos e, if_pos e]
      unfold putK
      rw [List.any_cons, decide_eq_true (show (kp p.1, V.int p.2).1 = kp x from congrArg kp e), Bool.true_or, if_pos rfl, List.map_cons, if_pos (show (kp p.1, V.int p.2).1 = kp x from congrArg kp e)]
      show (kp p.1, V.int (p.2 + n)) :: _ = (kp p.1, V.int (p.2 + n)) :: ci r
      congr 1
      refine (List.map_congr_left fun q hq => ?_).trans (List.map_id _)
      rw [if_neg]
      · rfl
      intro z
      obtain ⟨q', hq', rfl⟩ := List.mem_map.mp hq
      have : q'.1 = x := kp_inj z
      exact nd.1 (List.mem_map.mpr ⟨q', hq', by rw [this, e]⟩)
    · rw [if_neg e, if_neg e, put_cons _ _ _ _ (show ¬ (kp p.1, V.int p.2).1 = kp x from fun z => e (kp_inj z)), put_ci r x n nd.2]
      rfl
theorem addC_mem : ∀ (cs : Cs) (x : Pl) (n : Int) (y : Pl), y ∈ (addC cs x n).map (·.1) ↔ y ∈ cs.map (·.1) ∨ y = x
  | [], x, n, y => by simp [addC]
  | p :: r, x, n, y => by
    show y ∈ (if p.1 = x then (p.1, p.2 + n) :: r else p :: addC r x n).map (·.1) ↔ _
    by_cases e : p.1 = x
    · rw [if_pos e, List.map_cons, List.map_cons]
      constructor
      · exact .inl
      · rintro (h | rfl)
        · exact h
        · rw [← e]
          exact List.mem_cons_self
    · rw [if_neg e, List.map_cons, List.map_cons, List.mem_cons, List.mem_cons, addC_mem r x n y, or_assoc]
theorem addC_nd : ∀ (cs : Cs) (x : Pl) (n : Int), (cs.map (·.1)).Nodup → ((addC cs x n).map (·.1)).Nodup
  | [], x, n, _ => by simp [addC]
  | p :: r, x, n, nd => by
    rw [List.map_cons, List.nodup_cons] at nd
    show ((if p.1 = x then (p.1, p.2 + n) :: r else p :: addC r x n).map (·.1)).Nodup
    by_cases e : p.1 = x
    · rw [if_pos e, List.map_cons, List.nodup_cons]
      exact nd
    · rw [if_neg e, List.map_cons, List.nodup_cons]
      refine ⟨fun h => ?_, addC_nd r x n nd.2⟩
      rcases (addC_mem r x n p.1).mp h with h | h
      · exact nd.1 h
      · exact e h
theorem addC_pos : ∀ (cs : Cs) (x : Pl) (n : Int), (∀ p ∈ cs, 1 ≤ p.2) → 1 ≤ n → ∀ p ∈ addC cs x n, 1 ≤ p.2
  | [], x, n, _, hn, p, hp => by
    obtain rfl : p = (x, n) := by simpa [addC] using hp
    exact hn
  | q :: r, x, n, h, hn, p, hp => by
    have hp : p ∈ (if q.1 = x then (q.1, q.2 + n) :: r else q :: addC r x n) := hp
    have h1 := h q List.mem_cons_self
    split at hp
    · rcases List.mem_cons.mp hp with rfl | hp
      · show 1 ≤ q.2 + n
        omega
      · exact h p (List.mem_cons_of_mem _ hp)
    · rcases List.mem_cons.mp hp with rfl | hp
      · exact h1
      · exact addC_pos r x n (fun p hp => h p (List.mem_cons_of_mem _ hp)) hn p hp
/-! ## sums over plays -/
def S : List Pl → (Pl → Int) → Int
  | [], _ => 0
  | x :: r, v => v x + S r v
def SC : Cs → (Pl → Int) → Int
  | [], _ => 0
  | p :: r, v => p.2 * v p.1 + SC r v
theorem SC_add : ∀ (cs : Cs) (x : Pl) (n : Int) (v : Pl → Int), SC (addC cs x n) v = SC cs v + n * v x
  | [], x, n, v => by
    show n * v x + 0 = 0 + n * v x
    omega
  | p :: r, x, n, v => by
    show SC (if p.1 = x then (p.1, p.2 + n) :: r else p :: addC r x n) v = p.2 * v p.1 + SC r v + n * v x
    split
    · rename_i e
      show (p.2 + n) * v p.1 + SC r v = _
      rw [e, Int.add_mul]
      omega
    · show p.2 * v p.1 + SC (addC r x n) v = _
      rw [SC_add r x n v]
      omega
theorem S_app : ∀ (xs ys : List Pl) (v : Pl → Int), S (xs ++ ys) v = S xs v + S ys v
  | [], ys, v => (Int.zero_add _).symm
  | x :: xs, ys, v => by
    show v x + S (xs ++ ys) v = v x + S xs v + S ys v
    rw [S_app xs ys v]
    omega
theorem S_map (f : Pl → Pl) : ∀ (xs : List Pl) (v : Pl → Int), S (xs.map f) v = S xs fun x => v (f x)
  | [], v => rfl
  | x :: xs, v => by
    show v (f x) + S (xs.map f) v = v (f x) + S xs _
    rw [S_map f xs v]
theorem S_join : ∀ (xs ys : List Pl) (v : Pl → Int), S (joinedM xs ys) v = S xs fun x => S ys fun y => v (pls x y)
  | [], ys, v => rfl
  | x :: xs, ys, v => by
    show S (ys.map (pls x) ++ joinedM xs ys) v = S ys (fun y => v (pls x y)) + S xs _
    rw [S_app, S_map, S_join xs ys v]
theorem S_add : ∀ (xs : List Pl) (v u : Pl → Int), (S xs fun x => v x + u x) = S xs v + S xs u
  | [], v, u => rfl
  | x :: xs, v, u => by
    show v x + u x + S xs _ = v x + S xs v + (u x + S xs u)
    rw [S_add xs v u]
    omega
theorem S_zero : ∀ xs : List Pl, (S xs fun _ => 0) = 0
  | [] => rfl
  | x :: xs => by
    show 0 + S xs _ = 0
    rw [S_zero xs]
    rfl
theorem S_swap : ∀ (xs ys : List Pl) (F : Pl → Pl → Int), (S xs fun x => S ys fun y => F x y) = S ys fun y => S xs fun x => F x y
  | [], ys, F => (S_zero ys).symm
  | x :: xs, ys, F => by
    show S ys (fun y => F x y) + S xs _ = S ys fun y => F x y + S xs fun x => F x y
    rw [S_swap xs ys F, S_add]
theorem S_one : ∀ xs : List Pl, (S xs fun _ => 1) = xs.length
  | [] => rfl
  | x :: xs => by
    show 1 + S xs _ = ((xs.length + 1 : Nat) : Int)
    rw [S_one xs]
    omega
def ind (x : Pl) : Pl → Int := fun y => if y = x then 1 else 0
theorem S_ind_nn : ∀ (xs : List Pl) (x : Pl), 0 ≤ S xs (ind x)
  | [], _ => Int.le_refl _
  | y :: xs, x => by
    have := S_ind_nn xs x
    show 0 ≤ (if y = x then 1 else 0) + S xs (ind x)
    split <;> omega
theorem S_ind_mem : ∀ {xs : List Pl} {x : Pl}, 1 ≤ S xs (ind x) ↔ x ∈ xs
  | [], x => by simp [S]
  | y :: xs, x => by
    have h := S_ind_nn xs x
    have ih := S_ind_mem (xs := xs) (x := x)
    show 1 ≤ (if y = x then 1 else 0) + S xs (ind x) ↔ _
    rw [List.mem_cons]
    by_cases e : y = x
    · rw [if_pos e]
      exact ⟨fun _ => .inl e.symm, fun _ => by omega⟩
    · rw [if_neg e, Int.zero_add, ih]
      exact ⟨.inr, fun z => z.resolve_left fun z => e z.symm⟩
/-- lists that hold the same, each as often -/
def EqL (l l' : List Pl) : Prop := ∀ v, S l v = S l' v
theorem EqL.refl (l : List Pl) : EqL l l := fun _ => rfl
theorem EqL.symm {l l' : List Pl} (h : EqL l l') : EqL l' l := fun v => (h v).symm
theorem EqL.trans {a b c : List Pl} (h : EqL a b) (k : EqL b c) : EqL a c := fun v => (h v).trans (k v)
theorem EqL.len {l l' : List Pl} (h : EqL l l') : l.length = l'.length := by
  have := h fun _ => 1
  rw [S_one, S_one] at this
  omega
theorem EqL.mem {l l' : List Pl} (h : EqL l l') {x : Pl} (hx : x ∈ l) : x ∈ l' := S_ind_mem.mp (by rw [← h]; exact S_ind_mem.mpr hx)
theorem EqL.rows {l l' : List Pl} (h : EqL l l') {lo R c : Int} (r : Rows l lo R c) : Rows l' lo R c := fun x hx => r x (h.symm.mem hx)
theorem EqL.map {l l' : List Pl} (h : EqL l l') (f : Pl → Pl) : EqL (l.map f) (l'.map f) := fun v => by rw [S_map, S_map, h]
theorem EqL.app {a b c d : List Pl} (h : EqL a b) (k : EqL c d) : EqL (a ++ c) (b ++ d) := fun v => by rw [S_app, S_app, h, k]
theorem EqL.joined {a b c d : List Pl} (h : EqL a b) (k : EqL c d) : EqL (joinedM a c) (joinedM b d) := fun v => by
  rw [S_join, S_join, h]
  exact congrArg (S b) (funext fun x => k _)
theorem pls_comm (x y : Pl) : pls x y = pls y x := Prod.ext (Int.add_comm _ _) (Int.add_comm _ _)
theorem pls_assoc (x y z : Pl) : pls (pls x y) z = pls x (pls y z) := Prod.ext (Int.add_assoc _ _ _) (Int.add_assoc _ _ _)
theorem join_comm (a b : List Pl) : EqL (joinedM a b) (joinedM b a) := fun v => by
  rw [S_join, S_join, S_swap]
  exact congrArg (S b) (funext fun y => congrArg (S a) (funext fun x => congrArg v (pls_comm x y)))
theorem join_assoc (a b c : List Pl) : EqL (joinedM (joinedM a b) c) (joinedM a (joinedM b c)) := fun v => by
  rw [S_join, S_join, S_join]
  refine congrArg (S a) (funext fun x => ?_)
  rw [S_join]
  exact congrArg (S b) (funext fun y => congrArg (S c) (funext fun z => congrArg v (pls_assoc x y z)))
/-! ## the law's lists -/
def lwI (b w : List Pl) : Nat → List Pl
  | 0 => b
  | n + 1 => joinedM (lwI b w n) w
def wl (l : List Pl) : Md → List Pl
  | .once => l
  | .st _ _ => longerM l 1 0
def lwM : Tr → List Pl
  | .own _ => [(1, 0)]
  | .pick _ _ b => longerM (lwM b) 1 0
  | .offer a b => longerM (lwM a) 1 0 ++ longerM (lwM b) 1 0
  | .cut m _ a b => cutM (cop m : Int) (lwI (lwM b) (wl (lwM a) m) (cop m))
  | .pay _ m a b => longerM (lwI (lwM b) (wl (lwM a) m) (cop m)) 1 0
theorem lwI_box (b w : List Pl) : ∀ n, EqL (lwI b w n) (joinedM (boxIt w n) b)
  | 0 => fun v => by
    show S b v = S (b.map (pls (0, 0)) ++ []) v
    rw [List.append_nil, S_map]
    exact congrArg (S b) (funext fun y => congrArg v (Prod.ext (Int.zero_add _).symm (Int.zero_add _).symm))
  | n + 1 => (((lwI_box b w n).joined (EqL.refl w)).trans (join_assoc _ _ _)).trans (((EqL.refl _).joined (join_comm b w)).trans (join_assoc _ _ _).symm)
theorem EqL.lwI {b b' w w' : List Pl} (h : EqL b b') (k : EqL w w') : ∀ n, EqL (lwI b w n) (lwI b' w' n)
  | 0 => h
  | n + 1 => (EqL.lwI h k n).joined k
theorem EqL.wl {l l' : List Pl} (h : EqL l l') : ∀ m, EqL (wl l m) (wl l' m)
  | .once => h
  | .st _ _ => h.map _
theorem wl_box (a b : List Pl) : ∀ m, EqL (lwI b (wl a m) (cop m)) (joinedM (boxM a m) b)
  | .once => join_comm b a
  | .st n _ => lwI_box b (longerM a 1 0) n
theorem lw_pl : ∀ t : Tr, EqL (lwM t) (plM t)
  | .own _ => EqL.refl _
  | .pick _ _ b => (lw_pl b).map _
  | .offer a b => fun v => by
    show S (longerM (lwM a) 1 0 ++ longerM (lwM b) 1 0) v = S (longerM (plM a ++ plM b) 1 0) v
    rw [show longerM (plM a ++ plM b) 1 0 = longerM (plM a) 1 0 ++ longerM (plM b) 1 0 from List.map_append ..]
    exact ((lw_pl a).map _).app ((lw_pl b).map _) v
  | .cut m _ a b => ((EqL.lwI (lw_pl b) (EqL.wl (lw_pl a) m) (cop m)).trans (wl_box _ _ m)).map _
  | .pay _ m a b => ((EqL.lwI (lw_pl b) (EqL.wl (lw_pl a) m) (cop m)).trans (wl_box _ _ m)).map _
/-! ## what a dict stands for -/
structure RepF (cs : Cs) (F : (Pl → Int) → Int) : Prop where
  nd : (cs.map (·.1)).Nodup
  pos : ∀ p ∈ cs, 1 ≤ p.2
  eq : ∀ v, SC cs v = F v
theorem RepF.nil : RepF [] fun _ => 0 := ⟨.nil, fun _ h => absurd h List.not_mem_nil, fun _ => rfl⟩
theorem RepF.add {cs : Cs} {F : (Pl → Int) → Int} (h : RepF cs F) {x : Pl} {n : Int} (hn : 1 ≤ n) : RepF (addC cs x n) fun v => F v + n * v x :=
  ⟨addC_nd _ _ _ h.nd, addC_pos _ _ _ h.pos hn, fun v => by rw [SC_add, h.eq]⟩
theorem RepF.congr {cs : Cs} {F G : (Pl → Int) → Int} (h : RepF cs F) (e : ∀ v, F v = G v) : RepF cs G := ⟨h.nd, h.pos, fun v => (h.eq v).trans (e v)⟩
theorem SC_len : ∀ {cs : Cs}, (∀ p ∈ cs, 1 ≤ p.2) → (cs.length : Int) ≤ SC cs fun _ => 1
  | [], _ => Int.le_refl _
  | p :: r, h => by
    have h1 := h p List.mem_cons_self
    have h2 := SC_len fun q hq => h q (List.mem_cons_of_mem p hq)
    show ((r.length + 1 : Nat) : Int) ≤ p.2 * 1 + SC r fun _ => 1
    omega
theorem SC_nn : ∀ {cs : Cs} {v : Pl → Int}, (∀ p ∈ cs, 1 ≤ p.2) → (∀ x, 0 ≤ v x) → 0 ≤ SC cs v
  | [], _, _, _ => Int.le_refl _
  | p :: r, v, h, hv => by
    have h1 := h p List.mem_cons_self
    have h2 := SC_nn (fun q hq => h q (List.mem_cons_of_mem p hq)) hv
    have h3 : 0 ≤ p.2 * v p.1 := Int.mul_nonneg (by omega) (hv _)
    show 0 ≤ p.2 * v p.1 + SC r v
    omega
theorem SC_ge : ∀ {cs : Cs} {v : Pl → Int} {p : Pl × Int}, (∀ p ∈ cs, 1 ≤ p.2) → (∀ x, 0 ≤ v x) → p ∈ cs → p.2 * v p.1 ≤ SC cs v
  | q :: r, v, p, h, hv, hp => by
    have h1 := h q List.mem_cons_self
    have h2 := SC_nn (fun q' hq => h q' (List.mem_cons_of_mem q hq)) hv
    have h3 : 0 ≤ q.2 * v q.1 := Int.mul_nonneg (by omega) (hv _)
    show p.2 * v p.1 ≤ q.2 * v q.1 + SC r v
    rcases List.mem_cons.mp hp with rfl | hp
    · omega
    · have := SC_ge (fun q' hq => h q' (List.mem_cons_of_mem q hq)) hv hp
      omega
theorem SC_take : ∀ {cs : Cs} {i : Nat} {p : Pl × Int} (v : Pl → Int), cs[i]? = some p → SC (cs.take (i + 1)) v = SC (cs.take i) v + p.2 * v p.1
  | q :: r, 0, p, v, h => by
    simp at h
    subst h
    show q.2 * v q.1 + SC (List.take 0 r) v = 0 + q.2 * v q.1
    show q.2 * v q.1 + 0 = 0 + q.2 * v q.1
    omega
  | q :: r, i + 1, p, v, h => by
    rw [List.getElem?_cons_succ] at h
    show q.2 * v q.1 + SC (r.take (i + 1)) v = q.2 * v q.1 + SC (r.take i) v + p.2 * v p.1
    rw [SC_take v h]
    omega
theorem SC_le : ∀ {cs : Cs} {v : Pl → Int} (i : Nat), (∀ p ∈ cs, 1 ≤ p.2) → (∀ x, 0 ≤ v x) → SC (cs.take i) v ≤ SC cs v
  | [], v, i, h, hv => by rw [List.take_nil]; exact Int.le_refl _
  | q :: r, v, 0, h, hv => SC_nn h hv
  | q :: r, v, i + 1, h, hv => by
    have := SC_le i (fun q' hq => h q' (List.mem_cons_of_mem q hq)) hv
    show q.2 * v q.1 + SC (r.take i) v ≤ q.2 * v q.1 + SC r v
    omega
theorem RepF.len {cs : Cs} {F : (Pl → Int) → Int} (h : RepF cs F) : (cs.length : Int) ≤ F fun _ => 1 := by
  rw [← h.eq]
  exact SC_len h.pos
theorem RepF.cnt {cs : Cs} {F : (Pl → Int) → Int} (h : RepF cs F) {p : Pl × Int} (hp : p ∈ cs) : p.2 ≤ F fun _ => 1 := by
  rw [← h.eq]
  have := SC_ge (v := fun _ => 1) h.pos (fun _ => by decide) hp
  omega
abbrev Rep (cs : Cs) (l : List Pl) : Prop := RepF cs (S l)
theorem ind_nn (x : Pl) : ∀ y, 0 ≤ ind x y := fun y => by
  unfold ind
  split <;> decide
theorem ind_self (x : Pl) : ind x x = 1 := if_pos rfl
theorem Rep.mem {cs : Cs} {l : List Pl} (h : Rep cs l) {p : Pl × Int} (hp : p ∈ cs) : p.1 ∈ l := by
  refine S_ind_mem.mp ?_
  rw [← h.eq]
  have h1 := SC_ge (v := ind p.1) h.pos (ind_nn _) hp
  rw [ind_self, Int.mul_one] at h1
  have := h.pos p hp
  omega
theorem getC_mem : ∀ {cs : Cs} {p : Pl × Int}, (cs.map (·.1)).Nodup → p ∈ cs → getC cs p.1 = some p.2
  | q :: r, p, nd, hp => by
    rw [List.map_cons, List.nodup_cons] at nd
    show (if q.1 = p.1 then some q.2 else getC r p.1) = _
    rcases List.mem_cons.mp hp with rfl | hp
    · rw [if_pos rfl]
    · rw [if_neg (fun e => nd.1 (List.mem_map.mpr ⟨p, hp, e.symm⟩))]
      exact getC_mem nd.2 hp
theorem SC_none : ∀ {cs : Cs} {x : Pl}, x ∉ cs.map (·.1) → SC cs (ind x) = 0
  | [], x, _ => rfl
  | q :: r, x, h => by
    rw [List.map_cons, List.mem_cons, not_or] at h
    show q.2 * ind x q.1 + SC r (ind x) = 0
    rw [SC_none h.2, show ind x q.1 = 0 from if_neg fun e => h.1 e.symm]
    omega
theorem SC_get : ∀ {cs : Cs} (x : Pl), (cs.map (·.1)).Nodup → SC cs (ind x) = (getC cs x).getD 0
  | [], x, _ => rfl
  | q :: r, x, nd => by
    rw [List.map_cons, List.nodup_cons] at nd
    show q.2 * ind x q.1 + SC r (ind x) = (if q.1 = x then some q.2 else getC r x).getD 0
    by_cases e : q.1 = x
    · rw [if_pos e, ← e, ind_self, SC_none nd.1]
      show q.2 * 1 + 0 = q.2
      omega
    · rw [if_neg e, SC_get x nd.2, show ind x q.1 = 0 from if_neg e]
      omega
theorem getC_some : ∀ {cs : Cs} {x : Pl} {c : Int}, getC cs x = some c → x ∈ cs.map (·.1)
  | q :: r, x, c, h => by
    have h : (if q.1 = x then some q.2 else getC r x) = some c := h
    rw [List.map_cons]
    split at h
    · rename_i e
      rw [← e]
      exact List.mem_cons_self
    · exact List.mem_cons_of_mem _ (getC_some h)
theorem rep_get {cs ds : Cs} {l l' : List Pl} (h : Rep cs l) (k : Rep ds l') (e : EqL l l') {p : Pl × Int} (hp : p ∈ cs) : getC ds p.1 = some p.2 := by
  have h1 := SC_get p.1 h.nd
  have h2 := SC_get p.1 k.nd
  rw [getC_mem h.nd hp, h.eq] at h1
  rw [k.eq, ← e, h1] at h2
  have h3 := h.pos p hp
  cases g : getC ds p.1 with
  | none =>
    rw [g] at h2
    have : p.2 = 0 := h2
    omega
  | some c =>
    rw [g] at h2
    have : p.2 = c := h2
    rw [this]
theorem nodup_le {α : Type} : ∀ {xs ys : List α}, xs.Nodup → (∀ x ∈ xs, x ∈ ys) → xs.length ≤ ys.length
  | [], ys, _, _ => Nat.zero_le _
  | x :: xs, ys, nd, h => by
    rw [List.nodup_cons] at nd
    obtain ⟨l1, l2, rfl⟩ := List.append_of_mem (h x List.mem_cons_self)
    have := nodup_le (ys := l1 ++ l2) nd.2 fun y hy => by
      have hm := h y (List.mem_cons_of_mem _ hy)
      rw [List.mem_append, List.mem_cons] at hm
      rw [List.mem_append]
      rcases hm with hm | rfl | hm
      · exact .inl hm
      · exact absurd hy nd.1
      · exact .inr hm
    rw [List.length_append] at this
    rw [List.length_append, List.length_cons, List.length_cons]
    omega
theorem rep_len {cs ds : Cs} {l l' : List Pl} (h : Rep cs l) (k : Rep ds l') (e : EqL l l') : cs.length = ds.length := by
  have go : ∀ {cs ds : Cs} {l l' : List Pl}, Rep cs l → Rep ds l' → EqL l l' → cs.length ≤ ds.length := fun {cs ds l l'} h k e => by
    have := nodup_le (ys := ds.map (·.1)) h.nd fun x hx => by
      obtain ⟨p, hp, rfl⟩ := List.mem_map.mp hx
      exact getC_some (rep_get h k e hp)
    rw [List.length_map, List.length_map] at this
    exact this
  exact Nat.le_antisymm (go h k e) (go k h e.symm)
/-! ## what the law's walk needs -/
theorem lwI_len (b w : List Pl) : ∀ n, (lwI b w n).length = b.length * w.length ^ n
  | 0 => (Nat.mul_one _).symm
  | n + 1 => by
    show (joinedM (lwI b w n) w).length = _
    rw [joinedM_len, lwI_len b w n, Nat.pow_succ, Nat.mul_assoc]
theorem wl_len (l : List Pl) : ∀ m, (wl l m).length = l.length
  | .once => rfl
  | .st _ _ => longerM_len _ _ _
theorem Rows.wl {l : List Pl} {R c : Int} (h : Rows l 1 R c) (hc : 0 ≤ c) : ∀ m : Md, Rows (wl l m) 1 (boxG R m) c
  | .once => h
  | .st _ _ => (h.longer hc).mono (by decide) (by decide) (Int.le_refl _) (Int.le_refl _)
theorem Rows.lwI {b w : List Pl} {R R' c : Int} (h : Rows b 1 R c) (k : Rows w 1 R' c) (hc : 0 ≤ c) : ∀ n : Nat, Rows (lwI b w n) 1 (R + n * R') c
  | 0 => h.mono (by decide) (by decide) (by simp) (Int.le_refl _)
  | n + 1 => by
    refine ((Rows.lwI h k hc n).joined k).mono (by decide) (by decide) (Int.le_of_eq ?_) (Int.le_refl _)
    rw [Int.natCast_succ]
    grind
def Lk (m : Md) (a b : Tr) : Prop := 1 ≤ cop m ∧ cop m ≤ 400 ∧ (lwM a).length ≤ 5000 ∧ ∀ k, k ≤ cop m → (lwI (lwM b) (wl (lwM a) m) k).length ≤ 5000 ∧ Rows (lwI (lwM b) (wl (lwM a) m) k) 1 9000 8000
def Ok4 : Tr → Prop
  | .own _ => True
  | .pick _ _ b => Ok4 b ∧ (lwM b).length ≤ 5000
  | .offer a b => Ok4 a ∧ Ok4 b ∧ (lwM a).length + (lwM b).length ≤ 5000
  | .cut m _ a b => Ok4 a ∧ Ok4 b ∧ Lk m a b
  | .pay _ m a b => Ok4 a ∧ Ok4 b ∧ Lk m a b
theorem lk_of {m : Md} {a b : Tr} (o1 : Ok2 a) (o2 : Ok2 b) (h1 : hgt a ≤ 20) (h2 : hgt b ≤ 20) (c1 : 1 ≤ cop m) (c2 : cop m ≤ 400) (hp : (plM a).length ^ cop m * (plM b).length ≤ 5000) (hg : boxR (gr a) m + gr b ≤ 9000) : Lk m a b := by
  obtain ⟨_, p1, p2, _⟩ := both3 o1 o2 h1 h2 c1 c2 hp hg
  have la := (lw_pl a).len
  have lb := (lw_pl b).len
  have pa := plM_pos a
  have ga := gr_pos a
  have gb := gr_pos b
  have r1 : Rows (lwM a) 1 (gr a) 8000 := (lw_pl a).symm.rows ((plM_rows a o1).mono (by decide) (by decide) (Int.le_refl _) (by omega))
  have r2 : Rows (lwM b) 1 (gr b) 8000 := (lw_pl b).symm.rows ((plM_rows b o2).mono (by decide) (by decide) (Int.le_refl _) (by omega))
  have bg : 0 ≤ boxG (gr a) m := by
    cases m with
    | once => show 0 ≤ gr a; omega
    | st n d => show 0 ≤ gr a + 1; omega
  have eg : gr b + ((cop m : Nat) : Int) * boxG (gr a) m = boxR (gr a) m + gr b := by
    cases m with
    | once => show gr b + ((1 : Nat) : Int) * gr a = gr a + gr b; omega
    | st n d => show gr b + ((n : Nat) : Int) * (gr a + 1) = n * (gr a + 1) + gr b; omega
  refine ⟨c1, c2, by omega, fun k hk => ⟨?_, ?_⟩⟩
  · rw [lwI_len, wl_len, la, lb]
    have q : (plM a).length ^ k ≤ (plM a).length ^ cop m := Nat.pow_le_pow_right pa hk
    have := Nat.mul_le_mul_right (plM b).length q
    rw [Nat.mul_comm]
    omega
  · refine (Rows.lwI r2 (Rows.wl r1 (by decide) m) (by decide) k).mono (by decide) (by decide) ?_ (Int.le_refl _)
    have : (k : Int) * boxG (gr a) m ≤ (cop m : Int) * boxG (gr a) m := Int.mul_le_mul_of_nonneg_right (by omega) bg
    omega
theorem ok4_of : ∀ t : Tr, Ok2 t → hgt t ≤ 20 → (plM t).length ≤ 5000 → gr t ≤ 9000 → Ok4 t
  | .own _, _, _, _, _ => trivial
  | .pick r side b, o, hh, hp, hg => by
    have e : (plM (.pick r side b)).length = (plM b).length := longerM_len _ _ _
    have hh' : hgt b + 1 ≤ 20 := hh
    have hg' : gr b + 1 ≤ 9000 := hg
    exact ⟨ok4_of b o.1 (by omega) (by omega) (by omega), by have := (lw_pl b).len; omega⟩
  | .offer a b, o, hh, hp, hg => by
    have e : (plM (.offer a b)).length = (plM a).length + (plM b).length := by
      show (longerM (plM a ++ plM b) 1 0).length = _
      rw [longerM_len, List.length_append]
    have hh' : max (hgt a) (hgt b) + 1 ≤ 20 := hh
    have hg' : (if gr b > gr a then gr b else gr a) + 1 ≤ 9000 := hg
    have g1 : gr a ≤ 9000 ∧ gr b ≤ 9000 := by split at hg' <;> omega
    exact ⟨ok4_of a o.1 (by omega) (by omega) g1.1, ok4_of b o.2.1 (by omega) (by omega) g1.2, by have := (lw_pl a).len; have := (lw_pl b).len; omega⟩
  | .cut m s a b, o, hh, hp, hg => by
    have e : (plM (.cut m s a b)).length = (plM a).length ^ cop m * (plM b).length := by
      show (cutM _ (joinedM (boxM (plM a) m) (plM b))).length = _
      rw [show (cutM (cop m : Int) (joinedM (boxM (plM a) m) (plM b))).length = _ from List.length_map .., joinedM_len, boxM_len]
    have hh' : max (hgt a) (hgt b) + 1 ≤ 20 := hh
    obtain ⟨c1, c2, _⟩ := o.2.2
    obtain ⟨B, p1, p2, g1, g2⟩ := both3 (m := m) o.1 o.2.1 (by omega) (by omega) c1 c2 (by omega) hg
    exact ⟨ok4_of a o.1 (by omega) p1 g1, ok4_of b o.2.1 (by omega) p2 g2, lk_of o.1 o.2.1 (by omega) (by omega) c1 c2 (by omega) hg⟩
  | .pay r m a b, o, hh, hp, hg => by
    have e : (plM (.pay r m a b)).length = (plM a).length ^ cop m * (plM b).length := by
      show (longerM (joinedM (boxM (plM a) m) (plM b)) 1 0).length = _
      rw [longerM_len, joinedM_len, boxM_len]
    have hh' : max (hgt a) (hgt b) + 1 ≤ 20 := hh
    have hg' : boxR (gr a) m + gr b + 1 ≤ 9000 := hg
    obtain ⟨c1, c2, _⟩ := o.2.2
    obtain ⟨B, p1, p2, g1, g2⟩ := both3 (m := m) o.1 o.2.1 (by omega) (by omega) c1 c2 (by omega) (by omega)
    exact ⟨ok4_of a o.1 (by omega) p1 g1, ok4_of b o.2.1 (by omega) p2 g2, lk_of o.1 o.2.1 (by omega) (by omega) c1 c2 (by omega) (by omega)⟩
end K77

namespace K77
open PySem L2 HL
abbrev sPut : Stmt := top 43
abbrev sLs : Stmt := top 44
def DT (H : Hp) (d : Addr) (cs : Cs) : Prop := H d = some (.dT (ci cs))
def KAt (H : Hp) (b : Addr) (x : Pl) : Prop := H b = some (.tup [.int x.1, .int x.2])
theorem val_getD (cs : Cs) (x : Pl) : (valV (ci cs) (kp x)).getD (.int 0) = .int ((getC cs x).getD 0) := by
  rw [val_ci]
  cases getC cs x <;> rfl
theorem ci_get {cs : Cs} {i : Nat} {k : List Key} {v : V} (h : (ci cs)[i]? = some (k, v)) : ∃ c, cs[i]? = some c ∧ k = kp c.1 ∧ v = .int c.2 := by
  unfold ci at h
  rw [List.getElem?_map] at h
  obtain ⟨c, hc, e⟩ := Option.map_eq_some_iff.mp h
  cases e
  exact ⟨c, hc, rfl, rfl⟩
theorem dget_frz {H : Hp} {d b : Addr} {od : Obj} {ds : Cs} {c : Pl × Int} (e : H d = some (.frz od (.dT (ci ds)))) (eb : KAt H b c.1) (nd : (ds.map (·.1)).Nodup) (hc : c ∈ ds) : DGet H d (.ref b) (some (.int c.2)) :=
  .inr ⟨ci ds, kp c.1, b, .inr ⟨od, e⟩, rfl, eb, by rw [val_ci, getC_mem nd hc]; rfl⟩
theorem lock_but {m d : Addr} {H H' : Hp} {od : Obj} {u : HO} (h : But m (L2.upd H d (.frz od u)) H') (hd : H d = some u) : But m H (L2.upd H' d u) := fun b o n e => by
  by_cases z : b = d
  · subst z
    rw [hd] at e
    cases e
    exact upd_same
  · rw [upd_ne z]
    refine h b o n ?_
    rw [upd_ne z]
    exact e
/-- a loop that puts: one step -/
theorem put_step {cs ds : Cs} {F0 : (Pl → Int) → Int} {m : Int} {i : Nat} {f : Pl → Pl} {c : Pl × Int} (h : RepF cs fun v => F0 v + m * SC (ds.take i) fun x => v (f x)) (hc : ds[i]? = some c) (hm : 1 ≤ m) (h1 : 1 ≤ c.2) :
    RepF (addC cs (f c.1) (m * c.2)) fun v => F0 v + m * SC (ds.take (i + 1)) fun x => v (f x) := by
  have n1 : 1 ≤ m * c.2 := by
    have := Int.mul_le_mul_of_nonneg_right hm (show 0 ≤ c.2 by omega)
    omega
  refine (h.add n1).congr fun v => ?_
  rw [SC_take _ hc, Int.mul_add, Int.mul_assoc]
  omega
theorem put_len {cs ds : Cs} {F0 : (Pl → Int) → Int} {m : Int} {i : Nat} {f : Pl → Pl} (h : RepF cs fun v => F0 v + m * SC (ds.take i) fun x => v (f x)) (hp : ∀ p ∈ ds, 1 ≤ p.2) (hm : 0 ≤ m) (hb : (F0 fun _ => 1) + m * (SC ds fun _ => 1) ≤ 5000) : (ci cs).length < sizeLine := by
  have h1 := h.len
  have h2 := SC_le (v := fun _ => 1) i hp fun _ => by decide
  have h3 := Int.mul_le_mul_of_nonneg_left h2 hm
  have : (ci cs).length = cs.length := List.length_map ..
  have := five_k
  dsimp only at h1
  omega
theorem SC_rep {ds : Cs} {l : List Pl} (h : Rep ds l) (v : Pl → Int) : SC ds v = S l v := h.eq v
theorem SC_one_rep {ds : Cs} {l : List Pl} (h : Rep ds l) : (SC ds fun _ => 1) = l.length := by rw [h.eq, S_one]
theorem small_of {cs : Cs} {l : List Pl} (h : Rep cs l) {R c : Int} (r : Rows l 1 R c) (hR : R ≤ 9000) (hc : c = 8000) : ∀ p ∈ ci cs, Hash.small p.1 := fun p hp => by
  obtain ⟨q, hq, rfl⟩ := List.mem_map.mp hp
  obtain ⟨a, b, e, f⟩ := r q.1 (h.mem hq)
  have : c * q.1.1 ≤ 8000 * 9000 := by
    rw [hc]
    exact Int.mul_le_mul_of_nonneg_left (by omega) (by decide)
  refine ⟨q.1.1.toNat, q.1.2.toNat, ?_, by omega, by omega⟩
  show [Sum.inl q.1.1, Sum.inl q.1.2] = [Sum.inl ((q.1.1.toNat : Nat) : Int), Sum.inl ((q.1.2.toNat : Nat) : Int)]
  rw [Int.toNat_of_nonneg (by omega), Int.toNat_of_nonneg e]
theorem nd_ci {cs : Cs} (h : (cs.map (·.1)).Nodup) : ((ci cs).map (·.1)).Nodup := by
  unfold ci
  rw [List.map_map]
  induction cs with
  | nil => exact .nil
  | cons p r ih =>
    rw [List.map_cons, List.nodup_cons] at h ⊢
    refine ⟨fun z => ?_, ih h.2⟩
    obtain ⟨q, hq, e⟩ := List.mem_map.mp z
    exact h.1 (List.mem_map.mpr ⟨q, hq, kp_inj e⟩)
def spPut : Sp := fun vs H Q _ => ∃ (D b : Addr) (cs : Cs) (x : Pl) (n : Int), vs = [.ref D, .ref b, .int n] ∧ DT H D cs ∧ KAt H b x ∧ (cs.map (·.1)).Nodup ∧ (ci cs).length < sizeLine ∧ Q .non (L2.upd H D (.dT (ci (addC cs x n))))
section
variable {P : Program} {w : World} {K : PySem.W.Frag} {mg : Str → Option Value} {base : Heap} {f fM aP C CL : Addr} {fd fdM : FuncData}
theorem scPut : FnScope ["total", "play", "many"] ["total", "play", "many"] (defScope sPut) := ⟨rfl, rfl, rfl, by decide +kernel, rfl, by decide +kernel, by decide +kernel⟩
theorem ok_put (A : At K mg "_law_put" sPut ["total", "play", "many"] f fd) : FnOk P w K mg base CX0 1 f fd ["total", "play", "many"] spPut := by
  refine A.fn.ok scPut (fun vs H Q E h => ?_) (fun cdv A outer s H vs Q E hr h => ?_)
  · obtain ⟨D, b, cs, x, n, rfl, _⟩ := h
    rfl
  · obtain ⟨D, b, cs, x, n, rfl, hD, hb, nd, hl, q⟩ := h
    have hu := hu_of hr
    refine ⟨_, (pss_one (ps_dput hu (pv 0) (pv 1) (pe_op op_add (pe_dget2 hu (pv 0) (pv 1) pe_int ⟨rfl, rfl, rfl, rfl⟩) (pv 2)) rfl)), ?_⟩
    refine ⟨_, rfl, D, rfl, .inr ⟨_, .inl hD⟩, _, rfl, _, DGet.t (k := kp x) hD hb, _, rfl, _, _, val_getD cs x, rfl, _, rfl, _, rfl, D, _, rfl, DPut.t (k := kp x) hD hb hl, ?_⟩
    rw [put_ci cs x n nd]
    exact q
end

/-- the slots of _law_listed -/
def sl (a b c d e f g h i j k : Option V) : L2.St := [a, b, c, d, e, f, g, h, i, j, k]
def spLs (n : Nat) : Sp := fun vs H Q _ => ∃ (v : V) (t : Tr), vs = [v] ∧ TrAt H v t ∧ hgt t < n ∧ Ok4 t ∧ ∀ (D : Addr) (cs : Cs) (H' : Hp), Same H H' → H D = none → DT H' D cs → Rep cs (lwM t) → Q (.ref D) H'
theorem rep_map {cs ds : Cs} {l l' : List Pl} {f : Pl → Pl} {G : (Pl → Int) → Int} (h : RepF cs fun v => G v + 1 * SC (ds.take ds.length) fun x => v (f x)) (k : Rep ds l) (e : ∀ v, G v + S (l.map f) v = S l' v) : Rep cs l' := h.congr fun v => by
  rw [List.take_length, k.eq, Int.one_mul, ← e, S_map]
theorem rep_zero (F : (Pl → Int) → Int) (h : ∀ v, F v = 0) : RepF [] F := RepF.nil.congr fun v => (h v).symm
theorem rep_one : Rep [((1, 0), 1)] [(1, 0)] := by
  refine ⟨by simp, fun p hp => ?_, fun v => ?_⟩
  · rw [List.mem_singleton] at hp
    rw [hp]
    exact Int.le_refl _
  · show (1 : Int) * v (1, 0) + 0 = v (1, 0) + 0
    omega
theorem longer1 (l : List Pl) : (l.map fun x => (x.1 + 1, x.2)) = longerM l 1 0 := by
  unfold longerM
  exact List.map_congr_left fun x _ => Prod.ext rfl (by show x.2 = x.2 + 0; omega)
theorem rep0 (ds : Cs) (f : Pl → Pl) : RepF [] fun v => (fun _ => 0 : (Pl → Int) → Int) v + 1 * SC (ds.take 0) fun x => v (f x) := rep_zero _ fun v => rfl
theorem sc_wl {os : Cs} {l : List Pl} (h : Rep os l) (m : Md) (x : Pl) (v : Pl → Int) : (SC os fun y => v (x.1 + y.1 + (if isOnce m = true then 0 else 1), x.2 + y.2)) = S (wl l m) fun y => v (pls x y) := by
  rw [h.eq]
  cases m with
  | once => exact congrArg (S l) (funext fun y => congrArg v (Prod.ext (by show x.1 + y.1 + 0 = x.1 + y.1; omega) rfl))
  | st n d =>
    show _ = S (longerM l 1 0) _
    unfold longerM
    rw [S_map]
    exact congrArg (S l) (funext fun y => congrArg v (Prod.ext (by show x.1 + y.1 + 1 = x.1 + (y.1 + 1); omega) (by show x.2 + y.2 = x.2 + (y.2 + 0); omega)))
theorem SC_congr {cs : Cs} {v u : Pl → Int} (h : ∀ x, v x = u x) : SC cs v = SC cs u := by rw [show v = u from funext h]
section
variable {P : Program} {w : World} {K : PySem.W.Frag} {mg : Str → Option Value} {base : Heap} {f fM aP C CL : Addr} {fd fdM : FuncData}
abbrev nLs : List Str := ["tree", "total", "body", "one", "play", "mode", "copies_v", "k", "more", "other", "rows"]
theorem scLs : FnScope nLs ["tree"] (defScope sLs) := ⟨rfl, rfl, rfl, by decide +kernel, rfl, by decide +kernel, by decide +kernel⟩
theorem ok_ls {n : Nat} (A : At K mg "_law_listed" sLs ["tree"] f fd) (T : Txt mg) (R : FnOk P w K mg base CX0 (n + 1) f fd ["tree"] (spLs n)) (D_law_put : Def P w K mg base 1 "_law_put" ["total", "play", "many"] spPut) :
    FnOk P w K mg base CX0 (n + 2) f fd ["tree"] (spLs (n + 1)) := by
  have D_law_listed := A.df R
  refine A.fn.ok scLs (fun vs H Q E h => ?_) (fun cdv A outer s H vs Q E hr h => ?_)
  · obtain ⟨v, t, rfl, _⟩ := h
    rfl
  · obtain ⟨v, t, rfl, ht, hn, ok, k⟩ := h
    have hu := hu_of hr
    have hu2 := Nat.lt_of_le_of_lt (Nat.add_le_add_left (show 2 ≤ 64 by decide) _) hr.units
    refine ⟨_, (pss_cons (ps_set (i := 1) scLs.nd rfl (Or.inl rfl) pe_dnewT)
      (pss_cons (ps_if (pt_cmpR op_eq (pe_ix ix_tup (pv 0) pe_int (fun _ _ => rfl)) pe_str (nomark _))
      (pss_one (ps_ret (pe_disp1T hu (pe_tup (pa_cons pe_int (pa_cons pe_int pa_nil))) pe_int)))
      pss_nil)
      (pss_cons (ps_set (i := 2) scLs.nd rfl (Or.inl rfl) (pe_cd D_law_listed hr (pa_cons (pe_ix ix_tup (pv 0) (pe_un un_neg pe_int) (fun _ _ => rfl)) pa_nil)))
      (pss_cons (ps_if (pt_cmpR op_eq (pe_ix ix_tup (pv 0) pe_int (fun _ _ => rfl)) pe_str (nomark _))
      (pss_cons (ps_set (i := 3) scLs.nd rfl (Or.inl rfl) (pe_cd D_law_listed hr (pa_cons (pe_ix ix_tup (pv 0) pe_int (fun _ _ => rfl)) pa_nil)))
        (pss_cons (ps_lock (ps_for PassesOwn.never rfl (pi_keys (pv 3)) (pg_name (i := 4) scLs.nd rfl (Or.inl rfl))
        (pss_one (ps_expr (pe_cd D_law_put hr (pa_cons (pv 1) (pa_cons (pe_tup (pa_cons (pe_op op_add (pe_ix ix_tup (pv 4) pe_int (fun _ _ => rfl)) pe_int) (pa_cons (pe_ix ix_tup (pv 4) pe_int (fun _ _ => rfl)) pa_nil))) (pa_cons (pe_dget hu (pv 3) (pv 4) (fun _ _ => rfl)) pa_nil))))))))
        (pss_cons (ps_lock (ps_for PassesOwn.never rfl (pi_keys (pv 2)) (pg_name (i := 4) scLs.nd rfl (Or.inl rfl))
        (pss_one (ps_expr (pe_cd D_law_put hr (pa_cons (pv 1) (pa_cons (pe_tup (pa_cons (pe_op op_add (pe_ix ix_tup (pv 4) pe_int (fun _ _ => rfl)) pe_int) (pa_cons (pe_ix ix_tup (pv 4) pe_int (fun _ _ => rfl)) pa_nil))) (pa_cons (pe_dget hu (pv 2) (pv 4) (fun _ _ => rfl)) pa_nil))))))))
        (pss_one (ps_ret (pv 1))))))
      pss_nil)
      (pss_cons (ps_if (pt_cmpR op_eq (pe_ix ix_tup (pv 0) pe_int (fun _ _ => rfl)) pe_str (nomark _))
      (pss_cons (ps_lock (ps_for PassesOwn.never rfl (pi_keys (pv 2)) (pg_name (i := 4) scLs.nd rfl (Or.inl rfl))
        (pss_one (ps_expr (pe_cd D_law_put hr (pa_cons (pv 1) (pa_cons (pe_tup (pa_cons (pe_op op_add (pe_ix ix_tup (pv 4) pe_int (fun _ _ => rfl)) pe_int) (pa_cons (pe_ix ix_tup (pv 4) pe_int (fun _ _ => rfl)) pa_nil))) (pa_cons (pe_dget hu (pv 2) (pv 4) (fun _ _ => rfl)) pa_nil))))))))
        (pss_one (ps_ret (pv 1))))
      pss_nil)
      (pss_cons (ps_set (i := 5) scLs.nd rfl (Or.inl rfl) (pe_ix ix_tup (pv 0) (pe_op op_add pe_int (pe_callTy call_int1 rfl T.int (by decide +kernel) (pa_cons (pe_cmpR op_eq (pe_ix ix_tup (pv 0) pe_int (fun _ _ => rfl)) pe_str (nomark _)) pa_nil))) (fun _ _ => rfl)))
      (pss_cons (ps_set (i := 3) scLs.nd rfl (Or.inl rfl) (pe_cd D_law_listed hr (pa_cons (pe_ix ix_tup (pv 0) pe_int (fun _ _ => rfl)) pa_nil)))
      (pss_cons (ps_set (i := 6) scLs.nd rfl (Or.inl rfl) pe_int)
      (C8.pss_cut (ps_if (pt_cmpR (op_neD hr.units) (pv 5) pe_str (nomark _))
      (pss_one (ps_set (i := 6) scLs.nd rfl (Or.inl rfl) (pe_ix ix_tup (pv 5) pe_int (fun _ _ => rfl))))
      pss_nil)
      (pss_cons (ps_for PassesOwn.never rfl (pi_range1 rfl T.range (pa_cons (pv 6) pa_nil)) (pg_name (i := 7) scLs.nd rfl (Or.inl rfl))
      (pss_cons (ps_set (i := 8) scLs.nd rfl (Or.inl rfl) pe_dnewT)
        (pss_cons (ps_lock (ps_for PassesOwn.never rfl (pi_keys (pv 2)) (pg_name (i := 4) scLs.nd rfl (Or.inl rfl))
        (pss_one (ps_lock (ps_for PassesOwn.never rfl (pi_keys (pv 3)) (pg_name (i := 9) scLs.nd rfl (Or.inl rfl))
          (pss_cons (ps_set (i := 10) scLs.nd rfl (Or.inl rfl) (pe_op op_add (pe_op op_add (pe_ix ix_tup (pv 4) pe_int (fun _ _ => rfl)) (pe_ix ix_tup (pv 9) pe_int (fun _ _ => rfl))) (pe_callTy call_int1 rfl T.int (by decide +kernel) (pa_cons (pe_cmpR (op_neD hr.units) (pv 5) pe_str (nomark _)) pa_nil))))
            (pss_one (ps_expr (pe_cd D_law_put hr (pa_cons (pv 8) (pa_cons (pe_tup (pa_cons (pv 10) (pa_cons (pe_op op_add (pe_ix ix_tup (pv 4) pe_int (fun _ _ => rfl)) (pe_ix ix_tup (pv 9) pe_int (fun _ _ => rfl))) pa_nil))) (pa_cons (pe_op op_mul (pe_dget hu (pv 2) (pv 4) (fun _ _ => rfl)) (pe_dget hu (pv 3) (pv 9) (fun _ _ => rfl))) pa_nil))))))))))))
        (pss_one (ps_set (i := 2) scLs.nd rfl (Or.inl rfl) (pe_callTy (call_dict_dT hu2) rfl T.dict (by decide +kernel) (pa_cons (pv 8) pa_nil)))))))
      (pss_cons (ps_lock (ps_for PassesOwn.never rfl (pi_keys (pv 2)) (pg_name (i := 4) scLs.nd rfl (Or.inl rfl))
      (pss_one (ps_if (pt_cmpR op_eq (pe_ix ix_tup (pv 0) pe_int (fun _ _ => rfl)) pe_str (nomark _))
        (pss_one (ps_expr (pe_cd D_law_put hr (pa_cons (pv 1) (pa_cons (pe_tup (pa_cons (pe_ix ix_tup (pv 4) pe_int (fun _ _ => rfl)) (pa_cons (pe_op op_add (pe_ix ix_tup (pv 4) pe_int (fun _ _ => rfl)) (pe_op op_mul (pv 6) (pe_op op_sub (pe_ix ix_tup (pv 4) pe_int (fun _ _ => rfl)) pe_int))) pa_nil))) (pa_cons (pe_dget hu (pv 2) (pv 4) (fun _ _ => rfl)) pa_nil))))))
        (pss_one (ps_expr (pe_cd D_law_put hr (pa_cons (pv 1) (pa_cons (pe_tup (pa_cons (pe_op op_add (pe_ix ix_tup (pv 4) pe_int (fun _ _ => rfl)) pe_int) (pa_cons (pe_ix ix_tup (pv 4) pe_int (fun _ _ => rfl)) pa_nil))) (pa_cons (pe_dget hu (pv 2) (pv 4) (fun _ _ => rfl)) pa_nil))))))))))
      (pss_one (ps_ret (pv 1)))))))))))))), ?_⟩
    intro T0 nT
    have s0 := same_new nT (.dT [])
    have hT0 : (L2.upd H T0 (.dT [])) T0 = some (.dT []) := upd_same
    generalize L2.upd H T0 (.dT []) = H0 at s0 hT0 ⊢
    cases t with
    | own r =>
      obtain ⟨p, rfl, hp⟩ := ht
      have hp0 := s0 _ _ hp
      refine ⟨_, rfl, p, _, _, _, rfl, rfl, SqT.of hp0, rfl, rfl, _, rfl, ?_⟩
      refine iteT ?_
      intro D nD
      refine ⟨small8 (by show 2 ≤ 8; decide), fun t nt => ?_⟩
      have nDt : D ≠ t := fun z => by subst z; rw [upd_same] at nt; cases nt
      have ntH : H0 t = none := by rw [upd_ne nDt.symm] at nt; exact nt
      refine ⟨by rw [upd_ne nDt]; exact upd_same, kp (1, 0), t, .int 1, rfl, upd_same, ?_⟩
      refine k D [((1, 0), 1)] _ (fun b o e => ?_) (s0.free nD) upd_same rep_one
      have e0 := s0 _ _ e
      rw [upd_ne (ne_of_none e0 nD), upd_ne (ne_of_none e0 ntH), upd_ne (ne_of_none e0 nD)]
      exact e0
    | pick r side b =>
      obtain ⟨p, x, rfl, hp, hb⟩ := ht
      have hn' : hgt b + 1 < n + 1 := hn
      obtain ⟨ob, lb⟩ := ok
      have hp0 := s0 _ _ hp
      refine ⟨_, rfl, p, _, _, _, rfl, rfl, SqT.of hp0, rfl, rfl, _, rfl, ?_⟩
      refine iteF ?_
      refine ⟨_, rfl, _, rfl, p, _, _, _, rfl, rfl, SqT.of hp0, rfl, x, b, rfl, hb.mono (Tups.of s0), by omega, ob, fun D1 ds H1 s1 nD1 hD1 r1 => ?_⟩
      have hp1 := s1 _ _ hp0
      have hT1 := s1 _ _ hT0
      have TD : T0 ≠ D1 := ne_of_none hT0 nD1
      refine ⟨_, rfl, p, _, _, _, rfl, rfl, SqT.of hp1, rfl, rfl, _, rfl, ?_⟩
      refine iteF ?_
      refine ⟨_, rfl, p, _, _, _, rfl, rfl, SqT.of hp1, rfl, rfl, _, rfl, ?_⟩
      refine iteT ?_
      refine ⟨D1, _, hD1, trivial, fun od => ?_⟩
      refine ⟨_, rfl, D1, od, rfl, .inr ⟨_, upd_same, for_it walk_keysT (fun i σ' H' => ∃ (pl : Option V) (cs : Cs), σ' = sl (some (.ref p)) (some (.ref T0)) (some (.ref D1)) none pl none none none none none none ∧ But T0 (L2.upd H1 D1 (.frz od (.dT (ci ds)))) H' ∧ DT H' T0 cs ∧ RepF cs fun v => (fun _ => 0 : (Pl → Int) → Int) v + 1 * SC (ds.take i) fun x => v (x.1 + 1, x.2)) ⟨none, [], rfl, But.nil, by rw [DT, upd_ne TD]; exact hT1, rep0 ds _⟩ ?_ ?_ ?_⟩⟩
      · rintro i σ' H' hi ⟨pl, cs, rfl, bt, hT, rp⟩
        exact bt _ _ TD.symm upd_same
      · rintro i x σ' H2 H2' hi ⟨pl, cs, rfl, bt, hT, rp⟩ ⟨rfl, kk, vv, qq, hk, rfl, hq⟩
        obtain ⟨c, hc, rfl, rfl⟩ := ci_get hk
        have hD := bt _ _ TD.symm upd_same
        have hcm := List.mem_of_getElem? hc
        have hkq : KAt H2' qq c.1 := hq
        refine ⟨_, rfl, _, rfl, qq, _, _, _, rfl, rfl, SqT.of hkq, rfl, _, _, rfl, rfl, _, rfl, qq, _, _, _, rfl, rfl, SqT.of hkq, rfl, small8 (by show 2 ≤ 8; decide), fun t ht => ?_⟩
        have st := same_new ht (.tup [V.int (c.1.1 + 1), V.int c.1.2])
        refine ⟨_, rfl, _, rfl, D1, _, rfl, dget_frz (st _ _ hD) (st _ _ hkq) r1.nd hcm, ?_⟩
        have lg := put_len rp r1.pos (by decide) (by rw [SC_one_rep r1]; show (0 : Int) + 1 * _ ≤ 5000; omega)
        have rp2 := put_step rp hc (by decide) (r1.pos _ hcm)
        rw [Int.one_mul] at rp2
        refine ⟨T0, t, cs, (c.1.1 + 1, c.1.2), c.2, rfl, st _ _ hT, upd_same, rp.nd, lg, ?_⟩
        exact ⟨_, _, rfl, (bt.trans (But.of st)).trans (But.upd _), upd_same, rp2⟩
      rintro σ' H2 ⟨pl, cs, rfl, bt, hT, rp⟩
      refine ⟨bt _ _ TD.symm upd_same, ?_⟩
      have bt1 := lock_but bt hD1
      unfold ci at rp
      rw [List.length_map] at rp
      refine ⟨_, rfl, ?_⟩
      refine k T0 cs _ (fun b o e => ?_) nT (by rw [DT, upd_ne TD]; exact hT) (rep_map rp r1 fun v => by rw [longer1]; exact Int.zero_add _)
      exact bt1 _ _ (ne_of_none e nT) (s1 _ _ (s0 _ _ e))
    | offer a b =>
      obtain ⟨p, x, y, rfl, hp, ha, hb⟩ := ht
      have hn' : max (hgt a) (hgt b) + 1 < n + 1 := hn
      obtain ⟨oa, ob, lab⟩ := ok
      have hp0 := s0 _ _ hp
      refine ⟨_, rfl, p, _, _, _, rfl, rfl, SqT.of hp0, rfl, rfl, _, rfl, ?_⟩
      refine iteF ?_
      refine ⟨_, rfl, _, rfl, p, _, _, _, rfl, rfl, SqT.of hp0, rfl, y, b, rfl, hb.mono (Tups.of s0), by omega, ob, fun D1 ds H1 s1 nD1 hD1 r1 => ?_⟩
      have hp1 := s1 _ _ hp0
      refine ⟨_, rfl, p, _, _, _, rfl, rfl, SqT.of hp1, rfl, rfl, _, rfl, ?_⟩
      refine iteT ?_
      refine ⟨_, rfl, p, _, _, _, rfl, rfl, SqT.of hp1, rfl, x, a, rfl, ha.mono (Tups.of (s0.trans s1)), by omega, oa, fun D2 os H2 s2 nD2 hD2 r2 => ?_⟩
      have hT2 := s2 _ _ (s1 _ _ hT0)
      have TD : T0 ≠ D1 := ne_of_none hT0 nD1
      have TD2 : T0 ≠ D2 := ne_of_none (s1 _ _ hT0) nD2
      refine ⟨D2, _, hD2, trivial, fun od => ?_⟩
      refine ⟨_, rfl, D2, od, rfl, .inr ⟨_, upd_same, for_it walk_keysT (fun i σ' H' => ∃ (pl : Option V) (cs : Cs), σ' = sl (some (.ref p)) (some (.ref T0)) (some (.ref D1)) (some (.ref D2)) pl none none none none none none ∧ But T0 (L2.upd H2 D2 (.frz od (.dT (ci os)))) H' ∧ DT H' T0 cs ∧ RepF cs fun v => (fun _ => 0 : (Pl → Int) → Int) v + 1 * SC (os.take i) fun x => v (x.1 + 1, x.2)) ⟨none, [], rfl, But.nil, by rw [DT, upd_ne TD2]; exact hT2, rep0 os _⟩ ?_ ?_ ?_⟩⟩
      · rintro i σ' H' hi ⟨pl, cs, rfl, bt, hT, rp⟩
        exact bt _ _ TD2.symm upd_same
      · rintro i x σ' H2 H2' hi ⟨pl, cs, rfl, bt, hT, rp⟩ ⟨rfl, kk, vv, qq, hk, rfl, hq⟩
        obtain ⟨c, hc, rfl, rfl⟩ := ci_get hk
        have hD := bt _ _ TD2.symm upd_same
        have hcm := List.mem_of_getElem? hc
        have hkq : KAt H2' qq c.1 := hq
        refine ⟨_, rfl, _, rfl, qq, _, _, _, rfl, rfl, SqT.of hkq, rfl, _, _, rfl, rfl, _, rfl, qq, _, _, _, rfl, rfl, SqT.of hkq, rfl, small8 (by show 2 ≤ 8; decide), fun t ht => ?_⟩
        have st := same_new ht (.tup [V.int (c.1.1 + 1), V.int c.1.2])
        refine ⟨_, rfl, _, rfl, D2, _, rfl, dget_frz (st _ _ hD) (st _ _ hkq) r2.nd hcm, ?_⟩
        have lg := put_len rp r2.pos (by decide) (by rw [SC_one_rep r2]; show (0 : Int) + 1 * _ ≤ 5000; omega)
        have rp2 := put_step rp hc (by decide) (r2.pos _ hcm)
        rw [Int.one_mul] at rp2
        refine ⟨T0, t, cs, (c.1.1 + 1, c.1.2), c.2, rfl, st _ _ hT, upd_same, rp.nd, lg, ?_⟩
        exact ⟨_, _, rfl, (bt.trans (But.of st)).trans (But.upd _), upd_same, rp2⟩
      rintro σ' H3 ⟨pl1, cs, rfl, bt, hT, rp⟩
      refine ⟨bt _ _ TD2.symm upd_same, ?_⟩
      have bt1 := lock_but bt hD2
      unfold ci at rp
      rw [List.length_map] at rp
      have rp1 : Rep cs (longerM (lwM a) 1 0) := rep_map rp r2 fun v => by rw [longer1]; exact Int.zero_add _
      have DD : D1 ≠ D2 := ne_of_none hD1 nD2
      have hD1' := bt1 _ _ TD.symm (s2 _ _ hD1)
      have hT3 : (L2.upd H3 D2 (.dT (ci os))) T0 = some (.dT (ci cs)) := by rw [upd_ne TD2]; exact hT
      refine ⟨D1, _, hD1', trivial, fun od => ?_⟩
      refine ⟨_, rfl, D1, od, rfl, .inr ⟨_, upd_same, for_it walk_keysT (fun i σ' H' => ∃ (pl : Option V) (cs : Cs), σ' = sl (some (.ref p)) (some (.ref T0)) (some (.ref D1)) (some (.ref D2)) pl none none none none none none ∧ But T0 (L2.upd (L2.upd H3 D2 (.dT (ci os))) D1 (.frz od (.dT (ci ds)))) H' ∧ DT H' T0 cs ∧ RepF cs fun v => (S (longerM (lwM a) 1 0)) v + 1 * SC (ds.take i) fun x => v (x.1 + 1, x.2)) ⟨pl1, cs, rfl, But.nil, by rw [DT, upd_ne TD]; exact hT3, rp1.congr fun v => by show _ = _ + 1 * 0; omega⟩ ?_ ?_ ?_⟩⟩
      · rintro i σ' H' hi ⟨pl, cs, rfl, bt, hT, rp⟩
        exact bt _ _ TD.symm upd_same
      · rintro i x σ' H2 H2' hi ⟨pl, cs, rfl, bt, hT, rp⟩ ⟨rfl, kk, vv, qq, hk, rfl, hq⟩
        obtain ⟨c, hc, rfl, rfl⟩ := ci_get hk
        have hD := bt _ _ TD.symm upd_same
        have hcm := List.mem_of_getElem? hc
        have hkq : KAt H2' qq c.1 := hq
        refine ⟨_, rfl, _, rfl, qq, _, _, _, rfl, rfl, SqT.of hkq, rfl, _, _, rfl, rfl, _, rfl, qq, _, _, _, rfl, rfl, SqT.of hkq, rfl, small8 (by show 2 ≤ 8; decide), fun t ht => ?_⟩
        have st := same_new ht (.tup [V.int (c.1.1 + 1), V.int c.1.2])
        refine ⟨_, rfl, _, rfl, D1, _, rfl, dget_frz (st _ _ hD) (st _ _ hkq) r1.nd hcm, ?_⟩
        have lg := put_len rp r1.pos (by decide) (by rw [SC_one_rep r1]; rw [S_one, longerM_len]; omega)
        have rp2 := put_step rp hc (by decide) (r1.pos _ hcm)
        rw [Int.one_mul] at rp2
        refine ⟨T0, t, cs, (c.1.1 + 1, c.1.2), c.2, rfl, st _ _ hT, upd_same, rp.nd, lg, ?_⟩
        exact ⟨_, _, rfl, (bt.trans (But.of st)).trans (But.upd _), upd_same, rp2⟩
      rintro σ' H2 ⟨pl, cs, rfl, bt, hT, rp⟩
      refine ⟨bt _ _ TD.symm upd_same, ?_⟩
      have bt2 := lock_but bt hD1'
      unfold ci at rp
      rw [List.length_map] at rp
      refine ⟨_, rfl, ?_⟩
      refine k T0 cs _ (fun b o e => ?_) nT (by rw [DT, upd_ne TD]; exact hT) (rep_map rp r1 fun v => by rw [longer1, ← S_app]; rfl)
      exact bt2 _ _ (ne_of_none e nT) (bt1 _ _ (ne_of_none e nT) (s2 _ _ (s1 _ _ (s0 _ _ e))))
    | cut m sn a b =>
      obtain ⟨p, m', s', x, y, rfl, hp, hm, hs, ha, hb⟩ := ht
      have hn' : max (hgt a) (hgt b) + 1 < n + 1 := hn
      obtain ⟨oa, ob, c1, c2, la, lk⟩ := ok
      have hp0 := s0 _ _ hp
      refine ⟨_, rfl, p, _, _, _, rfl, rfl, SqT.of hp0, rfl, rfl, _, rfl, ?_⟩
      refine iteF ?_
      refine ⟨_, rfl, _, rfl, p, _, _, _, rfl, rfl, SqT.of hp0, rfl, y, b, rfl, hb.mono (Tups.of s0), by omega, ob, fun D1 ds H1 s1 nD1 hD1 r1 => ?_⟩
      have hp1 := s1 _ _ hp0
      refine ⟨_, rfl, p, _, _, _, rfl, rfl, SqT.of hp1, rfl, rfl, _, rfl, ?_⟩
      refine iteF ?_
      refine ⟨_, rfl, p, _, _, _, rfl, rfl, SqT.of hp1, rfl, rfl, _, rfl, ?_⟩
      refine iteF ?_
      -- mode
      refine ⟨_, rfl, _, rfl, p, _, _, _, rfl, rfl, SqT.of hp1, rfl, rfl, .inr ⟨_, rfl, _, _, rfl, rfl, p, _, _, _, rfl, rfl, SqT.of hp1, rfl, ?_⟩⟩
      -- one
      refine ⟨_, rfl, p, _, _, _, rfl, rfl, SqT.of hp1, rfl, x, a, rfl, ha.mono (Tups.of (s0.trans s1)), by omega, oa, fun D2 os H2 s2 nD2 hD2 r2 => ?_⟩
      have hT2 := s2 _ _ (s1 _ _ hT0)
      have TD : T0 ≠ D1 := ne_of_none hT0 nD1
      have TD2 : T0 ≠ D2 := ne_of_none (s1 _ _ hT0) nD2
      have hm2 := hm.mono (Tups.of (s0.trans (s1.trans s2)))
      -- copies
      refine ⟨fun σ' H' => σ' = sl (some (.ref p)) (some (.ref T0)) (some (.ref D1)) (some (.ref D2)) none (some m') (some (.int (cop m))) none none none none ∧ H2 = H', ?_, ?_⟩
      · refine ⟨_, rfl, ?_⟩
        obtain ⟨dd, e1, e2, e3⟩ := hm2.dp (K := K)
        refine ⟨dd, _, e1, once_dp, e2, once_shaped, !isOnce m, by rw [e3], ?_⟩
        cases m with
        | once => exact iteF ⟨rfl, rfl⟩
        | st n' d' =>
          refine iteT ?_
          obtain ⟨t, rfl, ht⟩ := hm2
          exact ⟨_, rfl, t, _, _, _, rfl, rfl, SqT.of ht, rfl, rfl, rfl⟩
      rintro σ' H' ⟨rfl, rfl⟩
      -- for k in range(copies_v)
      refine ⟨_, rfl, _, rfl, ?_, ?_, for_range (lo := 0) (n := ((cop m : Nat) : Int).toNat) (fun i σ' H' => ∃ (bd : Addr) (bs : Cs) (pl kk mo ot rw : Option V), σ' = sl (some (.ref p)) (some (.ref T0)) (some (.ref bd)) (some (.ref D2)) pl (some m') (some (.int (cop m))) kk mo ot rw ∧ Same H2 H' ∧ T0 ≠ bd ∧ bd ≠ D2 ∧ DT H' bd bs ∧ Rep bs (lwI (lwM b) (wl (lwM a) m) i)) ⟨D1, ds, none, none, none, none, none, rfl, Same.refl _, TD, ne_of_none hD1 nD2, s2 _ _ hD1, r1⟩ ?_ ?_⟩
      · have : (0 : Int) < 2 ^ 62 := by decide
        omega
      · have : (1000 : Int) < 2 ^ 62 := by decide
        omega
      · rintro i σ' H3 hi ⟨bd, bs, pl, kk, mo, ot, rw, rfl, s3, Tb, bD, hbd, rb⟩
        rw [Int.toNat_natCast] at hi
        have hfull : ∀ v : Pl → Int, (SC bs fun x => SC os fun y => v (x.1 + y.1 + (if isOnce m = true then 0 else 1), x.2 + y.2)) = S (lwI (lwM b) (wl (lwM a) m) (i + 1)) v := fun v => by
          show _ = S (joinedM (lwI (lwM b) (wl (lwM a) m) i) (wl (lwM a) m)) v
          rw [S_join, ← rb.eq]
          exact SC_congr fun x => sc_wl r2 m x v
        obtain ⟨ln, rws⟩ := lk (i + 1) (by omega)
        obtain ⟨ln0, _⟩ := lk i (by omega)
        have hD3 := s3 _ _ hD2
        have hm3 := hm2.mono (Tups.of s3)
        intro Mo nMo
        have bM : bd ≠ Mo := ne_of_none hbd nMo
        have DM : D2 ≠ Mo := ne_of_none hD3 nMo
        have s4 := same_new nMo (.dT [])
        have hMo : (L2.upd H3 Mo (.dT [])) Mo = some (.dT []) := upd_same
        have hbd4 := s4 _ _ hbd
        have hD4 := s4 _ _ hD3
        generalize L2.upd H3 Mo (.dT []) = H4 at s4 hMo hbd4 hD4 ⊢
        refine ⟨bd, _, hbd4, trivial, fun od => ?_⟩
        refine ⟨_, rfl, bd, od, rfl, .inr ⟨_, upd_same, for_it walk_keysT (fun j σ' H' => ∃ (kk pl ot rw : Option V) (cs : Cs), σ' = sl (some (.ref p)) (some (.ref T0)) (some (.ref bd)) (some (.ref D2)) pl (some m') (some (.int (cop m))) kk (some (.ref Mo)) ot rw ∧ But Mo (L2.upd H4 bd (.frz od (.dT (ci bs)))) H' ∧ DT H' Mo cs ∧ RepF cs fun v => SC (bs.take j) fun x => SC os fun y => v (x.1 + y.1 + (if isOnce m = true then 0 else 1), x.2 + y.2)) ⟨_, _, _, _, [], rfl, But.nil, by rw [DT, upd_ne bM.symm]; exact hMo, rep_zero _ fun v => rfl⟩ ?_ ?_ ?_⟩⟩
        · rintro j σ' H' hj ⟨kk, pl, ot, rw, cs, rfl, bt, hT, rp⟩
          exact bt _ _ bM upd_same
        · rintro j x σ' H6 H6' hj ⟨kk, pl, ot, rw, cs, rfl, bt, hT, rp⟩ ⟨rfl, ky, vv, qq, hk, rfl, hq⟩
          obtain ⟨c, hc, rfl, rfl⟩ := ci_get hk
          have hcm := List.mem_of_getElem? hc
          have hkq : KAt H6' qq c.1 := hq
          have hD6 : H6' D2 = some (.dT (ci os)) := bt _ _ DM (by rw [upd_ne bD.symm]; exact hD4)
          have hb6 := bt _ _ bM upd_same
          have cc := rb.cnt hcm
          rw [S_one] at cc
          have c0 := rb.pos _ hcm
          refine ⟨D2, _, hD6, trivial, fun od2 => ?_⟩
          refine ⟨_, rfl, D2, od2, rfl, .inr ⟨_, upd_same, for_it walk_keysT (fun l σ' H' => ∃ (ot rw : Option V) (cs : Cs), σ' = sl (some (.ref p)) (some (.ref T0)) (some (.ref bd)) (some (.ref D2)) (some (.ref qq)) (some m') (some (.int (cop m))) kk (some (.ref Mo)) ot rw ∧ But Mo (L2.upd H6' D2 (.frz od2 (.dT (ci os)))) H' ∧ DT H' Mo cs ∧ RepF cs fun v => (fun v : Pl → Int => SC (bs.take j) fun x => SC os fun y => v (x.1 + y.1 + (if isOnce m = true then 0 else 1), x.2 + y.2)) v + c.2 * SC (os.take l) fun y => v (c.1.1 + y.1 + (if isOnce m = true then 0 else 1), c.1.2 + y.2)) ⟨_, _, cs, rfl, But.nil, by rw [DT, upd_ne DM.symm]; exact hT, rp.congr fun v => by show SC _ _ = SC _ _ + c.2 * 0; rw [Int.mul_zero, Int.add_zero]⟩ ?_ ?_ ?_⟩⟩
          · rintro l σ' H' hl ⟨ot, rw, cs, rfl, bt2, hT2, rp2⟩
            exact bt2 _ _ DM upd_same
          · rintro l z σ' H7 H7' hl ⟨ot, rw, cs2, rfl, bt2, hT2, rp2⟩ ⟨rfl, ky2, vv2, q2, hk2, rfl, hq2⟩
            obtain ⟨c', hc', rfl, rfl⟩ := ci_get hk2
            have hcm' := List.mem_of_getElem? hc'
            have hkq2 : KAt H7' q2 c'.1 := hq2
            have Tp7 : Tups H6' H7' := fun b xs e => bt2 b _ (ne_of e hT (by intro z; cases z)) (by rw [upd_ne (ne_of e hD6 (by intro z; cases z))]; exact e)
            have hkq1 : KAt H7' qq c.1 := Tp7 _ _ hkq
            have hm7 : MdAt H7' m' m := hm3.mono ((Tups.of s4).trans (Tups.trans (fun b xs e => bt b _ (ne_of e hMo (by intro z; cases z)) (by rw [upd_ne (ne_of e hbd4 (by intro z; cases z))]; exact e)) Tp7))
            have hb7 := bt2 _ _ bM (by rw [upd_ne bD]; exact hb6)
            have hD7 := bt2 _ _ DM upd_same
            have cc' := r2.cnt hcm'
            rw [S_one] at cc'
            have c0' := r2.pos _ hcm'
            obtain ⟨dd, e1, e2, e3⟩ := hm7.dp (K := K)
            have er : c.1.1 + c'.1.1 + (if (!PyData.eqv dd (.str "once")) = true then 1 else 0) = c.1.1 + c'.1.1 + (if isOnce m = true then 0 else 1) := by
              rw [e3]
              cases isOnce m <;> rfl
            refine ⟨_, rfl, qq, _, _, _, rfl, rfl, SqT.of hkq1, rfl, _, rfl, q2, _, _, _, rfl, rfl, SqT.of hkq2, rfl, _, _, rfl, rfl, _, rfl, dd, _, e1, once_dp, e2, once_shaped, .inr ⟨_, rfl, _, _, rfl, rfl, ?_⟩⟩
            refine ⟨_, rfl, _, rfl, _, rfl, qq, _, _, _, rfl, rfl, SqT.of hkq1, rfl, _, rfl, q2, _, _, _, rfl, rfl, SqT.of hkq2, rfl, _, _, rfl, rfl, small8 (by show 2 ≤ 8; decide), fun t ht => ?_⟩
            have st := same_new ht (.tup [V.int (c.1.1 + c'.1.1 + (if (!PyData.eqv dd (.str "once")) = true then 1 else 0)), V.int (c.1.2 + c'.1.2)])
            refine ⟨_, rfl, _, rfl, bd, _, rfl, dget_frz (st _ _ hb7) (st _ _ hkq1) rb.nd hcm, _, rfl, _, rfl, D2, _, rfl, dget_frz (st _ _ hD7) (st _ _ hkq2) r2.nd hcm', _, _, rfl, rfl, .inl ⟨by omega, by omega⟩, ?_⟩
            have lg := put_len rp2 r2.pos (by omega) (by
              have h1 : ((SC (bs.take j) fun x => SC os fun y => (1 : Int)) + c.2 * SC os fun _ => 1) ≤ SC bs fun x => SC os fun y => (1 : Int) := by
                rw [← SC_take (fun _ => SC os fun _ => (1 : Int)) hc]
                exact SC_le (j + 1) rb.pos fun _ => SC_nn r2.pos fun _ => by decide
              have h2 := hfull fun _ => 1
              rw [S_one] at h2
              dsimp only at h1 h2 ⊢
              omega)
            have rp3 := put_step rp2 hc' c0 c0'
            refine ⟨Mo, t, cs2, (c.1.1 + c'.1.1 + (if isOnce m = true then 0 else 1), c.1.2 + c'.1.2), c.2 * c'.2, rfl, st _ _ hT2, by rw [← er]; exact upd_same, rp2.nd, lg, ?_⟩
            exact ⟨_, _, _, rfl, (bt2.trans (But.of st)).trans (But.upd _), upd_same, rp3⟩
          · rintro σ' H7 ⟨ot, rw, cs2, rfl, bt2, hT2, rp2⟩
            refine ⟨bt2 _ _ DM upd_same, ?_⟩
            unfold ci at rp2
            rw [List.length_map, List.take_length] at rp2
            refine ⟨_, _, _, _, cs2, rfl, bt.trans (lock_but bt2 hD6), by rw [DT, upd_ne DM.symm]; exact hT2, rp2.congr fun v => ?_⟩
            rw [SC_take _ hc]
        · rintro σ' H6 ⟨kk, pl, ot, rw, cs, rfl, bt, hT, rp⟩
          refine ⟨bt _ _ bM upd_same, ?_⟩
          unfold ci at rp
          rw [List.length_map, List.take_length] at rp
          have bt4 := lock_but bt hbd4
          have rp5 : Rep cs (lwI (lwM b) (wl (lwM a) m) (i + 1)) := rp.congr hfull
          have hT5 : (L2.upd H6 bd (.dT (ci bs))) Mo = some (.dT (ci cs)) := by rw [upd_ne bM.symm]; exact hT
          have s25 : Same H2 (L2.upd H6 bd (.dT (ci bs))) := fun b o e => bt4 _ _ (ne_of_none (s3 _ _ e) nMo) (s4 _ _ (s3 _ _ e))
          refine ⟨_, rfl, Mo, ci cs, rfl, hT5, Hash.nodup (nd_ci rp.nd) (small_of rp5 rws (Int.le_refl _) rfl), fun bd' nbd => ?_⟩
          have sn := same_new nbd (.dT (ci cs))
          exact ⟨bd', cs, _, _, _, _, _, rfl, s25.trans sn, ne_of_none (s25 _ _ hT2) nbd, (ne_of_none (s25 _ _ hD2) nbd).symm, upd_same, rp5⟩
      rintro σ' H5 ⟨bd, bs, pl0, kk, mo, ot, rw, rfl, s5, TB, bD, hbd, rb⟩
      rw [Int.toNat_natCast] at rb
      have hp5 := s5 _ _ (s2 _ _ hp1)
      have Tp : p ≠ T0 := ne_of hp5 (s5 _ _ hT2) (by intro z; cases z)
      obtain ⟨ln5, rw5⟩ := lk (cop m) (Nat.le_refl _)
      refine ⟨bd, _, hbd, trivial, fun od => ?_⟩
      refine ⟨_, rfl, bd, od, rfl, .inr ⟨_, upd_same, for_it walk_keysT (fun i σ' H' => ∃ (pl : Option V) (cs : Cs), σ' = sl (some (.ref p)) (some (.ref T0)) (some (.ref bd)) (some (.ref D2)) pl (some m') (some (.int (cop m))) kk mo ot rw ∧ But T0 (L2.upd H5 bd (.frz od (.dT (ci bs)))) H' ∧ DT H' T0 cs ∧ RepF cs fun v => (fun _ => 0 : (Pl → Int) → Int) v + 1 * SC (bs.take i) fun x => v (x.1, x.2 + (cop m : Int) * (x.1 - 1))) ⟨pl0, [], rfl, But.nil, by rw [DT, upd_ne TB]; exact (s5 _ _ hT2), rep0 bs _⟩ ?_ ?_ ?_⟩⟩
      · rintro i σ' H' hi ⟨pl, cs, rfl, bt, hT, rp⟩
        exact bt _ _ TB.symm upd_same
      · rintro i x σ' H2 H2' hi ⟨pl, cs, rfl, bt, hT, rp⟩ ⟨rfl, kk, vv, qq, hk, rfl, hq⟩
        obtain ⟨c, hc, rfl, rfl⟩ := ci_get hk
        have hD := bt _ _ TB.symm upd_same
        have hcm := List.mem_of_getElem? hc
        have hkq : KAt H2' qq c.1 := hq
        refine ⟨_, rfl, p, _, _, _, rfl, rfl, SqT.of (bt _ _ Tp (by rw [upd_ne (ne_of hp5 hbd (by intro z; cases z))]; exact hp5)), rfl, rfl, _, rfl, ?_⟩
        refine iteT ?_
        obtain ⟨g1, g2, _, _⟩ := rw5 c.1 (rb.mem hcm)
        refine ⟨_, rfl, _, rfl, qq, _, _, _, rfl, rfl, SqT.of hkq, rfl, _, rfl, qq, _, _, _, rfl, rfl, SqT.of hkq, rfl, _, rfl, _, rfl, qq, _, _, _, rfl, rfl, SqT.of hkq, rfl, _, _, rfl, rfl, _, _, rfl, rfl, .inl ⟨by omega, by omega⟩, _, _, rfl, rfl, small8 (by show 2 ≤ 8; decide), fun t ht => ?_⟩
        have st := same_new ht (.tup [V.int c.1.1, V.int (c.1.2 + (cop m : Int) * (c.1.1 - 1))])
        refine ⟨_, rfl, _, rfl, bd, _, rfl, dget_frz (st _ _ hD) (st _ _ hkq) rb.nd hcm, ?_⟩
        have lg := put_len rp rb.pos (by decide) (by rw [SC_one_rep rb]; show (0 : Int) + 1 * _ ≤ 5000; omega)
        have rp2 := put_step rp hc (by decide) (rb.pos _ hcm)
        rw [Int.one_mul] at rp2
        refine ⟨T0, t, cs, (c.1.1, c.1.2 + (cop m : Int) * (c.1.1 - 1)), c.2, rfl, st _ _ hT, upd_same, rp.nd, lg, ?_⟩
        exact ⟨_, _, rfl, (bt.trans (But.of st)).trans (But.upd _), upd_same, rp2⟩
      rintro σ' H2 ⟨pl, cs, rfl, bt, hT, rp⟩
      refine ⟨bt _ _ TB.symm upd_same, ?_⟩
      have bt1 := lock_but bt hbd
      unfold ci at rp
      rw [List.length_map] at rp
      refine ⟨_, rfl, ?_⟩
      refine k T0 cs _ (fun b o e => ?_) nT (by rw [DT, upd_ne TB]; exact hT) (rep_map rp rb fun v => by exact Int.zero_add _)
      exact bt1 _ _ (ne_of_none e nT) (s5 _ _ (s2 _ _ (s1 _ _ (s0 _ _ e))))
    | pay r m a b =>
      obtain ⟨p, m', x, y, rfl, hp, hm, ha, hb⟩ := ht
      have hn' : max (hgt a) (hgt b) + 1 < n + 1 := hn
      obtain ⟨oa, ob, c1, c2, la, lk⟩ := ok
      have hp0 := s0 _ _ hp
      refine ⟨_, rfl, p, _, _, _, rfl, rfl, SqT.of hp0, rfl, rfl, _, rfl, ?_⟩
      refine iteF ?_
      refine ⟨_, rfl, _, rfl, p, _, _, _, rfl, rfl, SqT.of hp0, rfl, y, b, rfl, hb.mono (Tups.of s0), by omega, ob, fun D1 ds H1 s1 nD1 hD1 r1 => ?_⟩
      have hp1 := s1 _ _ hp0
      refine ⟨_, rfl, p, _, _, _, rfl, rfl, SqT.of hp1, rfl, rfl, _, rfl, ?_⟩
      refine iteF ?_
      refine ⟨_, rfl, p, _, _, _, rfl, rfl, SqT.of hp1, rfl, rfl, _, rfl, ?_⟩
      refine iteF ?_
      -- mode
      refine ⟨_, rfl, _, rfl, p, _, _, _, rfl, rfl, SqT.of hp1, rfl, rfl, .inr ⟨_, rfl, _, _, rfl, rfl, p, _, _, _, rfl, rfl, SqT.of hp1, rfl, ?_⟩⟩
      -- one
      refine ⟨_, rfl, p, _, _, _, rfl, rfl, SqT.of hp1, rfl, x, a, rfl, ha.mono (Tups.of (s0.trans s1)), by omega, oa, fun D2 os H2 s2 nD2 hD2 r2 => ?_⟩
      have hT2 := s2 _ _ (s1 _ _ hT0)
      have TD : T0 ≠ D1 := ne_of_none hT0 nD1
      have TD2 : T0 ≠ D2 := ne_of_none (s1 _ _ hT0) nD2
      have hm2 := hm.mono (Tups.of (s0.trans (s1.trans s2)))
      -- copies
      refine ⟨fun σ' H' => σ' = sl (some (.ref p)) (some (.ref T0)) (some (.ref D1)) (some (.ref D2)) none (some m') (some (.int (cop m))) none none none none ∧ H2 = H', ?_, ?_⟩
      · refine ⟨_, rfl, ?_⟩
        obtain ⟨dd, e1, e2, e3⟩ := hm2.dp (K := K)
        refine ⟨dd, _, e1, once_dp, e2, once_shaped, !isOnce m, by rw [e3], ?_⟩
        cases m with
        | once => exact iteF ⟨rfl, rfl⟩
        | st n' d' =>
          refine iteT ?_
          obtain ⟨t, rfl, ht⟩ := hm2
          exact ⟨_, rfl, t, _, _, _, rfl, rfl, SqT.of ht, rfl, rfl, rfl⟩
      rintro σ' H' ⟨rfl, rfl⟩
      -- for k in range(copies_v)
      refine ⟨_, rfl, _, rfl, ?_, ?_, for_range (lo := 0) (n := ((cop m : Nat) : Int).toNat) (fun i σ' H' => ∃ (bd : Addr) (bs : Cs) (pl kk mo ot rw : Option V), σ' = sl (some (.ref p)) (some (.ref T0)) (some (.ref bd)) (some (.ref D2)) pl (some m') (some (.int (cop m))) kk mo ot rw ∧ Same H2 H' ∧ T0 ≠ bd ∧ bd ≠ D2 ∧ DT H' bd bs ∧ Rep bs (lwI (lwM b) (wl (lwM a) m) i)) ⟨D1, ds, none, none, none, none, none, rfl, Same.refl _, TD, ne_of_none hD1 nD2, s2 _ _ hD1, r1⟩ ?_ ?_⟩
      · have : (0 : Int) < 2 ^ 62 := by decide
        omega
      · have : (1000 : Int) < 2 ^ 62 := by decide
        omega
      · rintro i σ' H3 hi ⟨bd, bs, pl, kk, mo, ot, rw, rfl, s3, Tb, bD, hbd, rb⟩
        rw [Int.toNat_natCast] at hi
        have hfull : ∀ v : Pl → Int, (SC bs fun x => SC os fun y => v (x.1 + y.1 + (if isOnce m = true then 0 else 1), x.2 + y.2)) = S (lwI (lwM b) (wl (lwM a) m) (i + 1)) v := fun v => by
          show _ = S (joinedM (lwI (lwM b) (wl (lwM a) m) i) (wl (lwM a) m)) v
          rw [S_join, ← rb.eq]
          exact SC_congr fun x => sc_wl r2 m x v
        obtain ⟨ln, rws⟩ := lk (i + 1) (by omega)
        obtain ⟨ln0, _⟩ := lk i (by omega)
        have hD3 := s3 _ _ hD2
        have hm3 := hm2.mono (Tups.of s3)
        intro Mo nMo
        have bM : bd ≠ Mo := ne_of_none hbd nMo
        have DM : D2 ≠ Mo := ne_of_none hD3 nMo
        have s4 := same_new nMo (.dT [])
        have hMo : (L2.upd H3 Mo (.dT [])) Mo = some (.dT []) := upd_same
        have hbd4 := s4 _ _ hbd
        have hD4 := s4 _ _ hD3
        generalize L2.upd H3 Mo (.dT []) = H4 at s4 hMo hbd4 hD4 ⊢
        refine ⟨bd, _, hbd4, trivial, fun od => ?_⟩
        refine ⟨_, rfl, bd, od, rfl, .inr ⟨_, upd_same, for_it walk_keysT (fun j σ' H' => ∃ (kk pl ot rw : Option V) (cs : Cs), σ' = sl (some (.ref p)) (some (.ref T0)) (some (.ref bd)) (some (.ref D2)) pl (some m') (some (.int (cop m))) kk (some (.ref Mo)) ot rw ∧ But Mo (L2.upd H4 bd (.frz od (.dT (ci bs)))) H' ∧ DT H' Mo cs ∧ RepF cs fun v => SC (bs.take j) fun x => SC os fun y => v (x.1 + y.1 + (if isOnce m = true then 0 else 1), x.2 + y.2)) ⟨_, _, _, _, [], rfl, But.nil, by rw [DT, upd_ne bM.symm]; exact hMo, rep_zero _ fun v => rfl⟩ ?_ ?_ ?_⟩⟩
        · rintro j σ' H' hj ⟨kk, pl, ot, rw, cs, rfl, bt, hT, rp⟩
          exact bt _ _ bM upd_same
        · rintro j x σ' H6 H6' hj ⟨kk, pl, ot, rw, cs, rfl, bt, hT, rp⟩ ⟨rfl, ky, vv, qq, hk, rfl, hq⟩
          obtain ⟨c, hc, rfl, rfl⟩ := ci_get hk
          have hcm := List.mem_of_getElem? hc
          have hkq : KAt H6' qq c.1 := hq
          have hD6 : H6' D2 = some (.dT (ci os)) := bt _ _ DM (by rw [upd_ne bD.symm]; exact hD4)
          have hb6 := bt _ _ bM upd_same
          have cc := rb.cnt hcm
          rw [S_one] at cc
          have c0 := rb.pos _ hcm
          refine ⟨D2, _, hD6, trivial, fun od2 => ?_⟩
          refine ⟨_, rfl, D2, od2, rfl, .inr ⟨_, upd_same, for_it walk_keysT (fun l σ' H' => ∃ (ot rw : Option V) (cs : Cs), σ' = sl (some (.ref p)) (some (.ref T0)) (some (.ref bd)) (some (.ref D2)) (some (.ref qq)) (some m') (some (.int (cop m))) kk (some (.ref Mo)) ot rw ∧ But Mo (L2.upd H6' D2 (.frz od2 (.dT (ci os)))) H' ∧ DT H' Mo cs ∧ RepF cs fun v => (fun v : Pl → Int => SC (bs.take j) fun x => SC os fun y => v (x.1 + y.1 + (if isOnce m = true then 0 else 1), x.2 + y.2)) v + c.2 * SC (os.take l) fun y => v (c.1.1 + y.1 + (if isOnce m = true then 0 else 1), c.1.2 + y.2)) ⟨_, _, cs, rfl, But.nil, by rw [DT, upd_ne DM.symm]; exact hT, rp.congr fun v => by show SC _ _ = SC _ _ + c.2 * 0; rw [Int.mul_zero, Int.add_zero]⟩ ?_ ?_ ?_⟩⟩
          · rintro l σ' H' hl ⟨ot, rw, cs, rfl, bt2, hT2, rp2⟩
            exact bt2 _ _ DM upd_same
          · rintro l z σ' H7 H7' hl ⟨ot, rw, cs2, rfl, bt2, hT2, rp2⟩ ⟨rfl, ky2, vv2, q2, hk2, rfl, hq2⟩
            obtain ⟨c', hc', rfl, rfl⟩ := ci_get hk2
            have hcm' := List.mem_of_getElem? hc'
            have hkq2 : KAt H7' q2 c'.1 := hq2
            have Tp7 : Tups H6' H7' := fun b xs e => bt2 b _ (ne_of e hT (by intro z; cases z)) (by rw [upd_ne (ne_of e hD6 (by intro z; cases z))]; exact e)
            have hkq1 : KAt H7' qq c.1 := Tp7 _ _ hkq
            have hm7 : MdAt H7' m' m := hm3.mono ((Tups.of s4).trans (Tups.trans (fun b xs e => bt b _ (ne_of e hMo (by intro z; cases z)) (by rw [upd_ne (ne_of e hbd4 (by intro z; cases z))]; exact e)) Tp7))
            have hb7 := bt2 _ _ bM (by rw [upd_ne bD]; exact hb6)
            have hD7 := bt2 _ _ DM upd_same
            have cc' := r2.cnt hcm'
            rw [S_one] at cc'
            have c0' := r2.pos _ hcm'
            obtain ⟨dd, e1, e2, e3⟩ := hm7.dp (K := K)
            have er : c.1.1 + c'.1.1 + (if (!PyData.eqv dd (.str "once")) = true then 1 else 0) = c.1.1 + c'.1.1 + (if isOnce m = true then 0 else 1) := by
              rw [e3]
              cases isOnce m <;> rfl
            refine ⟨_, rfl, qq, _, _, _, rfl, rfl, SqT.of hkq1, rfl, _, rfl, q2, _, _, _, rfl, rfl, SqT.of hkq2, rfl, _, _, rfl, rfl, _, rfl, dd, _, e1, once_dp, e2, once_shaped, .inr ⟨_, rfl, _, _, rfl, rfl, ?_⟩⟩
            refine ⟨_, rfl, _, rfl, _, rfl, qq, _, _, _, rfl, rfl, SqT.of hkq1, rfl, _, rfl, q2, _, _, _, rfl, rfl, SqT.of hkq2, rfl, _, _, rfl, rfl, small8 (by show 2 ≤ 8; decide), fun t ht => ?_⟩
            have st := same_new ht (.tup [V.int (c.1.1 + c'.1.1 + (if (!PyData.eqv dd (.str "once")) = true then 1 else 0)), V.int (c.1.2 + c'.1.2)])
            refine ⟨_, rfl, _, rfl, bd, _, rfl, dget_frz (st _ _ hb7) (st _ _ hkq1) rb.nd hcm, _, rfl, _, rfl, D2, _, rfl, dget_frz (st _ _ hD7) (st _ _ hkq2) r2.nd hcm', _, _, rfl, rfl, .inl ⟨by omega, by omega⟩, ?_⟩
            have lg := put_len rp2 r2.pos (by omega) (by
              have h1 : ((SC (bs.take j) fun x => SC os fun y => (1 : Int)) + c.2 * SC os fun _ => 1) ≤ SC bs fun x => SC os fun y => (1 : Int) := by
                rw [← SC_take (fun _ => SC os fun _ => (1 : Int)) hc]
                exact SC_le (j + 1) rb.pos fun _ => SC_nn r2.pos fun _ => by decide
              have h2 := hfull fun _ => 1
              rw [S_one] at h2
              dsimp only at h1 h2 ⊢
              omega)
            have rp3 := put_step rp2 hc' c0 c0'
            refine ⟨Mo, t, cs2, (c.1.1 + c'.1.1 + (if isOnce m = true then 0 else 1), c.1.2 + c'.1.2), c.2 * c'.2, rfl, st _ _ hT2, by rw [← er]; exact upd_same, rp2.nd, lg, ?_⟩
            exact ⟨_, _, _, rfl, (bt2.trans (But.of st)).trans (But.upd _), upd_same, rp3⟩
          · rintro σ' H7 ⟨ot, rw, cs2, rfl, bt2, hT2, rp2⟩
            refine ⟨bt2 _ _ DM upd_same, ?_⟩
            unfold ci at rp2
            rw [List.length_map, List.take_length] at rp2
            refine ⟨_, _, _, _, cs2, rfl, bt.trans (lock_but bt2 hD6), by rw [DT, upd_ne DM.symm]; exact hT2, rp2.congr fun v => ?_⟩
            rw [SC_take _ hc]
        · rintro σ' H6 ⟨kk, pl, ot, rw, cs, rfl, bt, hT, rp⟩
          refine ⟨bt _ _ bM upd_same, ?_⟩
          unfold ci at rp
          rw [List.length_map, List.take_length] at rp
          have bt4 := lock_but bt hbd4
          have rp5 : Rep cs (lwI (lwM b) (wl (lwM a) m) (i + 1)) := rp.congr hfull
          have hT5 : (L2.upd H6 bd (.dT (ci bs))) Mo = some (.dT (ci cs)) := by rw [upd_ne bM.symm]; exact hT
          have s25 : Same H2 (L2.upd H6 bd (.dT (ci bs))) := fun b o e => bt4 _ _ (ne_of_none (s3 _ _ e) nMo) (s4 _ _ (s3 _ _ e))
          refine ⟨_, rfl, Mo, ci cs, rfl, hT5, Hash.nodup (nd_ci rp.nd) (small_of rp5 rws (Int.le_refl _) rfl), fun bd' nbd => ?_⟩
          have sn := same_new nbd (.dT (ci cs))
          exact ⟨bd', cs, _, _, _, _, _, rfl, s25.trans sn, ne_of_none (s25 _ _ hT2) nbd, (ne_of_none (s25 _ _ hD2) nbd).symm, upd_same, rp5⟩
      rintro σ' H5 ⟨bd, bs, pl0, kk, mo, ot, rw, rfl, s5, TB, bD, hbd, rb⟩
      rw [Int.toNat_natCast] at rb
      have hp5 := s5 _ _ (s2 _ _ hp1)
      have Tp : p ≠ T0 := ne_of hp5 (s5 _ _ hT2) (by intro z; cases z)
      obtain ⟨ln5, rw5⟩ := lk (cop m) (Nat.le_refl _)
      refine ⟨bd, _, hbd, trivial, fun od => ?_⟩
      refine ⟨_, rfl, bd, od, rfl, .inr ⟨_, upd_same, for_it walk_keysT (fun i σ' H' => ∃ (pl : Option V) (cs : Cs), σ' = sl (some (.ref p)) (some (.ref T0)) (some (.ref bd)) (some (.ref D2)) pl (some m') (some (.int (cop m))) kk mo ot rw ∧ But T0 (L2.upd H5 bd (.frz od (.dT (ci bs)))) H' ∧ DT H' T0 cs ∧ RepF cs fun v => (fun _ => 0 : (Pl → Int) → Int) v + 1 * SC (bs.take i) fun x => v (x.1 + 1, x.2)) ⟨pl0, [], rfl, But.nil, by rw [DT, upd_ne TB]; exact (s5 _ _ hT2), rep0 bs _⟩ ?_ ?_ ?_⟩⟩
      · rintro i σ' H' hi ⟨pl, cs, rfl, bt, hT, rp⟩
        exact bt _ _ TB.symm upd_same
      · rintro i x σ' H2 H2' hi ⟨pl, cs, rfl, bt, hT, rp⟩ ⟨rfl, kk, vv, qq, hk, rfl, hq⟩
        obtain ⟨c, hc, rfl, rfl⟩ := ci_get hk
        have hD := bt _ _ TB.symm upd_same
        have hcm := List.mem_of_getElem? hc
        have hkq : KAt H2' qq c.1 := hq
        refine ⟨_, rfl, p, _, _, _, rfl, rfl, SqT.of (bt _ _ Tp (by rw [upd_ne (ne_of hp5 hbd (by intro z; cases z))]; exact hp5)), rfl, rfl, _, rfl, ?_⟩
        refine iteF ?_
        refine ⟨_, rfl, _, rfl, qq, _, _, _, rfl, rfl, SqT.of hkq, rfl, _, _, rfl, rfl, _, rfl, qq, _, _, _, rfl, rfl, SqT.of hkq, rfl, small8 (by show 2 ≤ 8; decide), fun t ht => ?_⟩
        have st := same_new ht (.tup [V.int (c.1.1 + 1), V.int c.1.2])
        refine ⟨_, rfl, _, rfl, bd, _, rfl, dget_frz (st _ _ hD) (st _ _ hkq) rb.nd hcm, ?_⟩
        have lg := put_len rp rb.pos (by decide) (by rw [SC_one_rep rb]; show (0 : Int) + 1 * _ ≤ 5000; omega)
        have rp2 := put_step rp hc (by decide) (rb.pos _ hcm)
        rw [Int.one_mul] at rp2
        refine ⟨T0, t, cs, (c.1.1 + 1, c.1.2), c.2, rfl, st _ _ hT, upd_same, rp.nd, lg, ?_⟩
        exact ⟨_, _, rfl, (bt.trans (But.of st)).trans (But.upd _), upd_same, rp2⟩
      rintro σ' H2 ⟨pl, cs, rfl, bt, hT, rp⟩
      refine ⟨bt _ _ TB.symm upd_same, ?_⟩
      have bt1 := lock_but bt hbd
      unfold ci at rp
      rw [List.length_map] at rp
      refine ⟨_, rfl, ?_⟩
      refine k T0 cs _ (fun b o e => ?_) nT (by rw [DT, upd_ne TB]; exact hT) (rep_map rp rb fun v => by rw [longer1]; exact Int.zero_add _)
      exact bt1 _ _ (ne_of_none e nT) (s5 _ _ (s2 _ _ (s1 _ _ (s0 _ _ e))))
end
end K77

namespace K77
open PySem L2 HL
abbrev sLP : Stmt := top 45
abbrev sDr : Stmt := top 46
theorem own_same {H H' : Hp} {x dx : Addr} {o1 o2 : HO} (nx : H x = none) (nd : H dx = none) (kp : ∀ u o, u ≠ x → (L2.upd (L2.upd H dx o1) x o2) u = some o → H' u = some o) : Same H H' := fun u o e => by
  have ux := ne_of_none e nx
  refine kp u o ux ?_
  rw [upd_ne ux, upd_ne (ne_of_none e nd)]
  exact e
/-- the reading of Library() -/
theorem mk_lib {C : Addr} {H : Hp} {Q : VK} (k : ∀ q a b c H', Same H H' → LibAt C H' q a b c → Q (.ref q) H') :
    ∀ x dx, H x = none → H dx = none → dx ≠ x → spLInit C (.ref x :: ([] ++ [])) (L2.upd (L2.upd H dx (.own x)) x (.ins C dx [])) (fun v H2 => v = .non ∧ Q (.ref x) H2) E0 :=
  fun x dx nx nd ne => ⟨x, dx, rfl, upd_same, fun a b c H' kp _ _ _ L => ⟨rfl, k x a b c H' (own_same nx nd kp) L⟩⟩
def spLP : Sp := fun vs H Q _ => ∃ (v : V) (fd : Addr) (ds : Cs) (t : Tr), vs = [v, .ref fd] ∧ TrAt H v t ∧ hgt t < 17 ∧ siz t ≤ 100000 ∧ Ok3 t ∧ (plM t).length ≤ 5000 ∧ DT H fd ds ∧ Rep ds (lwM t) ∧ ∀ (H' : Hp), Same H H' → Q (.bl true) H'
def spDrawn : Sp := fun vs H Q _ => ∃ (p : Addr), vs = [.ref p] ∧ PoolAt H p ∧ ∀ (v : V) (t : Tr) (d r : Nat) (H' : Hp), TrAt H' v t → Wf d r 0 t → d ≤ 8 → 1 ≤ r → r ≤ 400 → gr t ≤ 9000 → But p H H' → PoolAt H' p → Q v H'
section
variable {P : Program} {w : World} {K : PySem.W.Frag} {mg : Str → Option Value} {base : Heap} {f fM aP C CL : Addr} {fd fdM : FuncData}
theorem no_ls : FnOk P w K mg base CX0 1 f fd ["tree"] (spLs 0) := by
  have no : ∀ vs H Q E, ¬ spLs 0 vs H Q E := fun vs H Q E h => by
    obtain ⟨v, t, _, _, hn, _⟩ := h
    omega
  exact ⟨fun vs H Q E h => absurd h (no vs H Q E), fun A outer s H args us vs Q E _ _ _ _ h => absurd h (no vs H Q E)⟩
theorem no_nums : FnOk P w K mg base CX0 1 f fd ["tree"] (spNums 0) := by
  have no : ∀ vs H Q E, ¬ spNums 0 vs H Q E := fun vs H Q E h => by
    obtain ⟨v, t, _, _, hn, _⟩ := h
    omega
  exact ⟨fun vs H Q E h => absurd h (no vs H Q E), fun A outer s H args us vs Q E _ _ _ _ h => absurd h (no vs H Q E)⟩
theorem no_part : FnOk P w K mg base CX0 2 f fd aPart (spPart 0) := by
  have no : ∀ vs H Q E, ¬ spPart 0 vs H Q E := fun vs H Q E h => by
    obtain ⟨p, l, d, r, _, _, hn, _⟩ := h
    omega
  exact ⟨fun vs H Q E h => absurd h (no vs H Q E), fun A outer s H args us vs Q E _ _ _ _ h => absurd h (no vs H Q E)⟩
theorem scLP : FnScope ["tree", "found", "told", "seen", "play"] ["tree", "found"] (defScope sLP) := ⟨rfl, rfl, rfl, by decide +kernel, rfl, by decide +kernel, by decide +kernel⟩
theorem ok_lp (A : At K mg "_law_plays" sLP ["tree", "found"] f fd) (T : Txt mg) (D_plays : Def P w K mg base 22 "plays" ["library", "derivation"] (spPlaysF CL)) (D_Library : CDef P w K mg base CL 1 "Library" ["self"] (spLInit CL)) (D_law_put : Def P w K mg base 1 "_law_put" ["total", "play", "many"] spPut) :
    FnOk P w K mg base CX0 23 f fd ["tree", "found"] spLP := by
  refine A.fn.ok scLP (fun vs H Q E h => ?_) (fun cdv A outer s H vs Q E hr h => ?_)
  · obtain ⟨v, fd, ds, t, rfl, _⟩ := h
    rfl
  · obtain ⟨v, fd, ds, t, rfl, ht, hh, hz, ok, hl, hfd, rd, k⟩ := h
    have hu := hu_of hr
    refine ⟨_, (pss_cons (ps_set (i := 2) scLP.nd rfl (Or.inl rfl) (pe_cd D_plays hr (pa_cons (pe_mk0 D_Library hr) (pa_cons (pv 0) pa_nil))))
      (pss_cons (ps_if (pt_not (pt_val (pe_callB call_isi rfl T.isinstance (by decide +kernel) (pa_cons (pv 2) (pa_cons (pe_bltn (v := .ty "list") (u := .type "list") rfl T.list (by decide +kernel) rfl) pa_nil)))))
      pss_never
      pss_nil)
      (pss_cons (ps_set (i := 3) scLP.nd rfl (Or.inl rfl) pe_dnewT)
      (pss_cons (ps_for PassesOwn.never rfl (pi_list (pv 2)) (pg_name (i := 4) scLP.nd rfl (Or.inl rfl))
      (pss_cons (ps_if (PW.pt (pw_or (pt_not (pt_val (pe_callB call_isi rfl T.isinstance (by decide +kernel) (pa_cons (pv 4) (pa_cons (pe_bltn (v := .ty "tuple") (u := .type "tuple") rfl T.tuple (by decide +kernel) rfl) pa_nil))))) (pw_or1 (pt_cmpR op_ne (pe_callB call_len_seq rfl T.len (by decide +kernel) (pa_cons (pv 4) pa_nil)) pe_int (nomark _)))))
        pss_never
        pss_nil)
        (pss_one (ps_expr (pe_cd D_law_put hr (pa_cons (pv 3) (pa_cons (pv 4) (pa_cons pe_int pa_nil))))))))
      (pss_cons (ps_expr (pe_bm0 PySem.F.plainAttrs_list PySem.F.slot_list_clear PySem.F.type_list_clear mt_clear (pv 2)))
      (pss_one (ps_ret (pe_cmpR (op_eq_dT hu) (pv 3) (pv 1) (nomark _))))))))), ?_⟩
    intro q dx nq nd ne
    refine ⟨q, dx, rfl, upd_same, fun a b c H1 kp _ _ _ L => ⟨rfl, ?_⟩⟩
    have s1 := own_same nq nd kp
    refine ⟨_, rfl, q, a, b, c, v, t, rfl, L, ht.mono (Tups.of s1), hh, hz, ok, fun z H2 s2 nz p2 => ?_⟩
    obtain ⟨as, hz2, hP⟩ := id p2
    have el := Paired.length hP
    refine ⟨_, rfl, _, _, _, _, true, rfl, .ty "list", .base (.lst hz2), kit_ty (by decide +kernel), true, rfl, iteF ?_⟩
    intro Se nSe
    have s3 := same_new nSe (.dT [])
    have zS : z ≠ Se := ne_of_none hz2 nSe
    have hSe : (L2.upd H2 Se (.dT [])) Se = some (.dT []) := upd_same
    generalize L2.upd H2 Se (.dT []) = H3 at s3 hSe ⊢
    have hz3 := s3 _ _ hz2
    have hP3 := plI_mono (Tups.of s3) hP
    have s13 := s1.trans (s2.trans s3)
    refine ⟨_, rfl, z, rfl, ⟨_, SqL.of hz3⟩, for_list (K := K) (a := z) (xs := as.map V.ref) (fun i σ' H' => ∃ (pl : Option V) (cs : Cs), σ' = [some v, some (.ref fd), some (.ref z), some (.ref Se), pl] ∧ But Se H3 H' ∧ DT H' Se cs ∧ Rep cs ((plM t).take i)) ⟨none, [], rfl, But.nil, hSe, rep_zero _ fun v => rfl⟩ (fun i σ' H' _ e => by obtain ⟨_, _, _, b, _⟩ := e; exact SqL.of (b _ _ zS hz3)) (fun i x σ' H4 hx e => ?_) ?_⟩
    · obtain ⟨pl, cs, rfl, bt, hT, rp⟩ := e
      obtain ⟨a, ha, rfl⟩ := get_ref hx
      obtain ⟨y, hy, hay⟩ := Paired.get hP3 ha
      have hay4 : KAt H4 a y := bt _ _ (ne_of hay hSe (by intro z; cases z)) hay
      refine ⟨_, rfl, _, _, _, _, true, rfl, .ty "tuple", .base (.tup hay4), kit_ty (by decide +kernel), true, rfl, iteF ?_⟩
      refine ⟨_, rfl, a, _, rfl, .inr (SqT.of hay4), rfl, _, rfl, ?_⟩
      refine iteF ?_
      have lg : (ci cs).length < sizeLine := by
        have h1 := rp.len
        rw [S_one, List.length_take] at h1
        have : (ci cs).length = cs.length := List.length_map ..
        have := five_k
        omega
      have rp2 := rp.add (x := y) (n := 1) (by decide)
      refine ⟨_, rfl, _, rfl, Se, a, cs, y, 1, rfl, hT, hay4, rp.nd, lg, ?_⟩
      refine ⟨_, _, rfl, bt.trans (But.upd _), upd_same, rp2.congr fun v => ?_⟩
      rw [List.take_succ, hy, S_app]
      show _ + 1 * v y = _ + (v y + 0)
      omega
    · rintro σ' H4 ⟨pl, cs, rfl, bt, hT, rp⟩
      rw [List.length_map, el, List.take_length] at rp
      have hz4 := bt _ _ zS hz3
      refine ⟨_, rfl, .inl ⟨rfl, _, SqL.of hz4⟩, z, _, rfl, rfl, hz4, ?_⟩
      have fS : fd ≠ Se := ne_of_none (s2 _ _ (s1 _ _ hfd)) nSe
      have hf4 : H4 fd = some (.dT (ci ds)) := bt _ _ fS (s13 _ _ hfd)
      have fz : fd ≠ z := ne_of hf4 hz4 (by intro z; cases z)
      have le := rep_len rp rd (lw_pl t).symm
      refine ⟨_, rfl, _, rfl, Se, fd, ci cs, ci ds, rfl, rfl, by rw [upd_ne zS.symm]; exact hT, by rw [upd_ne fz]; exact hf4, by show (List.map _ cs).length = (List.map _ ds).length; rw [List.length_map, List.length_map]; exact le, fun p hp => ?_, ?_⟩
      · obtain ⟨c, hc, rfl⟩ := List.mem_map.mp hp
        refine ⟨?_, rfl⟩
        rw [val_ci, rep_get rp rd (lw_pl t).symm hc]
        rfl
      · refine k _ fun b o e => ?_
        have bz : b ≠ z := ne_of_none (s1 _ _ e) nz
        have bS : b ≠ Se := ne_of_none (s2 _ _ (s1 _ _ e)) nSe
        rw [upd_ne bz]
        exact bt _ _ bS (s13 _ _ e)
theorem scDr : FnScope ["pool", "room", "depth", "tree", "k"] ["pool"] (defScope sDr) := ⟨rfl, rfl, rfl, by decide +kernel, rfl, by decide +kernel, by decide +kernel⟩
theorem ok_drawn (A : At K mg "_law_drawn" sDr ["pool"] f fd) (T : Txt mg) (D_law_part : Def P w K mg base 11 "_law_part" aPart (spPart 9)) (D_law_numbers : Def P w K mg base 18 "_law_numbers" ["tree"] (spNums 17)) : FnOk P w K mg base CX0 19 f fd ["pool"] spDrawn := by
  refine A.fn.ok scDr (fun vs H Q E h => ?_) (fun cdv A outer s H vs Q E hr h => ?_)
  · obtain ⟨p, rfl, _⟩ := h
    rfl
  · obtain ⟨p, rfl, hp, k⟩ := h
    refine ⟨_, (pss_cons (ps_set (i := 1) scDr.nd rfl (Or.inl rfl) pe_int)
      (pss_cons (ps_set (i := 2) scDr.nd rfl (Or.inl rfl) pe_int)
      (pss_cons (ps_set (i := 3) scDr.nd rfl (Or.inl rfl) (pe_tup (pa_cons pe_str (pa_cons pe_str pa_nil))))
      (pss_cons (ps_for PassesOwn.never rfl (pi_range1 rfl T.range (pa_cons pe_int pa_nil)) (pg_name (i := 4) scDr.nd rfl (Or.inl rfl))
      (pss_cons (ps_set (i := 3) scDr.nd rfl (Or.inl rfl) (pe_cd D_law_part hr (pa_cons (pv 0) (pa_cons pe_int (pa_cons (pv 2) (pa_cons (pv 1) pa_nil))))))
        (pss_cons (ps_if (pt_cmpR op_le (pe_ix ix_tup (pe_cd D_law_numbers hr (pa_cons (pv 3) pa_nil)) pe_int (fun _ _ => rfl)) pe_int (nomark _))
        (pss_one (ps_ret (pv 3)))
        pss_nil)
        (pss_cons (ps_set (i := 1) scDr.nd rfl (Or.inl rfl) (pe_op op_fdiv (pv 1) pe_int))
        (pss_one (ps_set (i := 2) scDr.nd rfl (Or.inl rfl) (pe_op op_sub (pv 2) pe_int)))))))
      (pss_one (ps_ret (pe_tup (pa_cons pe_str (pa_cons pe_str pa_nil))))))))), ?_⟩
    refine ⟨small8 (by show 2 ≤ 8; decide), fun t0 n0 => ?_⟩
    have p0 := hp.new (o := .tup [.str "own", .str "s"]) n0
    refine ⟨_, rfl, ?_, ?_, for_range (lo := 0) (n := ((4 : Nat) : Int).toNat) (fun i σ' H' => ∃ (v : V) (r : Nat) (kk : Option V), σ' = [some (.ref p), some (.int r), some (.int ((8 - i : Nat) : Int)), some v, kk] ∧ 3 ^ (4 - i) ≤ r ∧ r ≤ 400 ∧ But p H H' ∧ PoolAt H' p) ⟨.ref t0, 400, none, rfl, by decide, by decide, But.of (same_new n0 _), p0⟩ ?_ ?_⟩
    · decide
    · decide
    · rintro i σ' H1 hi ⟨v0, r, kk, rfl, r3, r4, b1, p1⟩
      rw [Int.toNat_natCast] at hi
      have hr1 : 1 ≤ r := Nat.le_trans (Nat.one_le_pow _ _ (by decide)) r3
      refine ⟨_, rfl, _, rfl, _, rfl, p, 0, 8 - i, r, rfl, p1, by omega, hr1, r4, fun v t H2 ht wf b2 p2 => ?_⟩
      obtain ⟨okt, hgt'⟩ := wf_ok wf hr1 r4 (by omega)
      refine ⟨_, rfl, v, t, rfl, ht, by omega, okt, fun q H3 s3 n3 => ?_⟩
      refine ⟨q, _, _, _, rfl, rfl, SqT.of n3, rfl, _, _, rfl, rfl, _, rfl, ?_⟩
      have b3 : But p H H3 := b1.trans (b2.trans (But.of s3))
      have p3 : PoolAt H3 p := by
        obtain ⟨a, b, c, e⟩ := p2
        exact ⟨a, b, c, s3 _ _ e⟩
      refine ite2 (fun c => ?_) (fun _ => ?_)
      · refine ⟨_, rfl, ?_⟩
        exact k v t (8 - i) r H3 (ht.mono (Tups.of s3)) wf (by omega) hr1 r4 (of_decide_eq_true c) b3 p3
      · refine ⟨_, rfl, _, _, rfl, rfl, ⟨by omega, by omega⟩, ?_⟩
        refine ⟨_, rfl, _, _, rfl, rfl, ?_⟩
        have e : 4 - i = (4 - (i + 1)) + 1 := by omega
        rw [e, Nat.pow_succ] at r3
        have e2 : (((8 - i : Nat) : Int) - 1) = ((8 - (i + 1) : Nat) : Int) := by omega
        refine ⟨v, r / 3, some (.int (0 + (i : Int))), ?_, (Nat.le_div_iff_mul_le (by decide)).mpr r3, Nat.le_trans (Nat.div_le_self _ _) r4, b3, p3⟩
        rw [← e2]
        rfl
    · rintro σ' H1 ⟨v0, r, kk, rfl, r3, r4, b1, p1⟩
      refine ⟨small8 (by show 2 ≤ 8; decide), fun t1 n1 => ?_⟩
      exact k (.ref t1) (.own (.str "s")) 0 1 _ ⟨t1, rfl, upd_same⟩ (.own 0 1 0) (by decide) (by decide) (by decide) (by decide) (b1.new n1 _) (p1.new n1)
end
end K77

/-! the text of a drawn tree: "cut" stands in it exactly where a cut does -/
namespace HL
open PySem L2
/-- repr of nested data, where no repr is under way -/
theorem call_repr_data {X : Cx} (hg : X.A.guards = some []) : CallR X (.builtin "repr") (fun xs H Q => ∃ (a : Addr) (d : PyData), xs = [.ref a] ∧ Dp X.K H (.ref a) d ∧ d.showable = true ∧ d.hasDict = false ∧ X.A.units + (d.depth + 1) < cLine ∧ d.shown.length ≤ sizeLine ∧ Q (.str d.shown) H) := by
  intro pins s σ H xs us Q I r h
  obtain ⟨a, d, rfl, hd, h1, h2, h3, h4, q⟩ := h
  obtain ⟨u, rfl, rx⟩ := vals1 r
  cases rx
  obtain ⟨as, hr⟩ := hd.reads I d _ _ rfl
  refine repr_of_reads' hr h1 (fun z => absurd (h2.symm.trans z) Bool.false_ne_true) hg h3 (fun b o e => e) (fun h' u tk hk => ?_) h4
  exact ⟨.str d.shown, H, I.kept (t' := tk) hk, ⟨u, rfl⟩, q⟩
end HL
namespace K77
open PySem L2 HL
def Has (x : Str) : Prop := ∃ p q : Str, x = p ++ "cut" ++ q
def No (x : Str) : Prop := ∀ c ∈ x.cps.toList, c ≠ 117
theorem in_has {x : Str} (h : Has x) : (!(Builtin.Str.occurrences x "cut" 0 x.length 1).isEmpty) = true := by
  rw [StrLaws.found_iff]
  obtain ⟨p, q, rfl⟩ := h
  refine ⟨p.length, ?_, ?_⟩
  · rw [Str.length_append, Str.length_append]
    omega
  · rw [StrLaws.subAt_eq, Str.cps_append, Str.cps_append, Array.toList_append, Array.toList_append, List.append_assoc]
    have e : p.length = p.cps.toList.length := by simp [Str.length]
    rw [e, List.drop_left, show ("cut" : Str).length = ("cut" : Str).cps.toList.length from by simp [Str.length], List.take_left]
    simp
theorem in_no {x : Str} (h : No x) : (!(Builtin.Str.occurrences x "cut" 0 x.length 1).isEmpty) = false := by
  rw [Bool.eq_false_iff]
  intro z
  rw [StrLaws.found_iff] at z
  obtain ⟨i, _, e⟩ := z
  rw [StrLaws.subAt_eq, beq_iff_eq] at e
  have m : 117 ∈ ("cut" : Str).cps.toList := by decide +kernel
  rw [← e] at m
  exact h 117 (List.mem_of_mem_drop (List.mem_of_mem_take m)) rfl
theorem Has.left {x : Str} (h : Has x) (a : Str) : Has (a ++ x) := by
  obtain ⟨p, q, rfl⟩ := h
  exact ⟨a ++ p, q, by rw [Str.append_assoc p, ← Str.append_assoc a, ← Str.append_assoc (a ++ p)]⟩
theorem Has.right {x : Str} (h : Has x) (b : Str) : Has (x ++ b) := by
  obtain ⟨p, q, rfl⟩ := h
  exact ⟨p, q ++ b, by rw [Str.append_assoc (p ++ "cut")]⟩
theorem No.app {x y : Str} (h : No x) (k : No y) : No (x ++ y) := fun c hc => by
  rw [Str.cps_append, Array.toList_append, List.mem_append] at hc
  exact hc.elim (h c) (k c)
theorem join_cons (sep x y : Str) (r : List Str) : Str.join sep (x :: y :: r) = x ++ sep ++ Str.join sep (y :: r) := rfl
theorem has_join (sep : Str) : ∀ {ts : List Str} {t : Str}, t ∈ ts → Has t → Has (Str.join sep ts)
  | [x], t, h, g => by
    rw [List.mem_singleton] at h
    subst h
    exact g
  | x :: y :: r, t, h, g => by
    rw [join_cons]
    rcases List.mem_cons.mp h with rfl | h
    · exact (g.right sep).right _
    · exact (has_join sep h g).left _
theorem no_join {sep : Str} (hs : No sep) : ∀ {ts : List Str}, (∀ t ∈ ts, No t) → No (Str.join sep ts)
  | [], _ => fun c hc => by
    have : c ∈ ([] : List Nat) := hc
    cases this
  | [x], h => h x List.mem_cons_self
  | x :: y :: r, h => by
    rw [join_cons]
    exact ((h x List.mem_cons_self).app hs).app (no_join hs fun t ht => h t (List.mem_cons_of_mem _ ht))
def lens : List Str → Nat
  | [] => 0
  | x :: r => x.length + lens r
theorem len_join (sep : Str) : ∀ ts : List Str, (Str.join sep ts).length ≤ lens ts + ts.length * sep.length
  | [] => Nat.zero_le _
  | [x] => by
    show x.length ≤ x.length + 0 + _
    omega
  | x :: y :: r => by
    have := len_join sep (y :: r)
    rw [join_cons, Str.length_append, Str.length_append]
    show _ ≤ x.length + lens (y :: r) + (r.length + 1 + 1) * sep.length
    rw [Nat.succ_mul]
    show _ ≤ x.length + lens (y :: r) + ((y :: r).length * sep.length + sep.length)
    omega
/-- what is needed of a text: hb, it has a cut; nb, it has no u -/
structure Tx (d : PyData) (n L : Nat) (hb nb : Bool) : Prop where
  show_ : d.showable = true
  nod : d.hasDict = false
  dep : d.depth ≤ n
  len : d.shown.length ≤ L
  has : hb = true → Has d.shown
  no : nb = true → No d.shown
theorem Tx.mono {d : PyData} {n n' L L' : Nat} {b c : Bool} (h : Tx d n L b c) (hn : n ≤ n') (hL : L ≤ L') : Tx d n' L' b c := ⟨h.show_, h.nod, Nat.le_trans h.dep hn, Nat.le_trans h.len hL, h.has, h.no⟩
inductive TxAll : List PyData → Nat → Nat → Bool → Bool → Prop
  | nil (n : Nat) : TxAll [] n 0 false true
  | cons {d : PyData} {ds : List PyData} {n L M : Nat} {b c e f : Bool} : Tx d n L b e → TxAll ds n M c f → TxAll (d :: ds) n (L + M) (b || c) (e && f)
theorem TxAll.out {ds : List PyData} {n M : Nat} {b c : Bool} (h : TxAll ds n M b c) : PyData.showableAll ds = true ∧ PyData.hasDictAll ds = false ∧ PyData.depthAll ds ≤ n ∧ lens (PyData.shownAll ds) ≤ M ∧ (PyData.shownAll ds).length = ds.length ∧
    (b = true → ∃ t ∈ PyData.shownAll ds, Has t) ∧ (c = true → ∀ t ∈ PyData.shownAll ds, No t) := by
  induction h with
  | nil n => exact ⟨by simp [PyData.showableAll], by simp [PyData.hasDictAll], by simp [PyData.depthAll], by simp [PyData.shownAll, lens], by simp [PyData.shownAll], fun z => (nomatch z), fun _ t ht => by simp [PyData.shownAll] at ht⟩
  | @cons d ds n L M b c e f h t ih =>
    obtain ⟨i1, i2, i3, i4, i5, i6, i7⟩ := ih
    refine ⟨by simp only [PyData.showableAll, h.show_, i1, Bool.and_self], by simp only [PyData.hasDictAll, h.nod, i2, Bool.or_self], ?_, ?_, ?_, fun z => ?_, fun z t ht => ?_⟩
    · simp only [PyData.depthAll]
      exact Nat.max_le.mpr ⟨h.dep, i3⟩
    · simp only [PyData.shownAll, lens]
      exact Nat.add_le_add h.len i4
    · simp only [PyData.shownAll, List.length_cons, i5]
    · simp only [PyData.shownAll]
      rcases (Bool.or_eq_true b c).mp z with z | z
      · exact ⟨_, List.mem_cons_self, h.has z⟩
      · obtain ⟨t, ht, g⟩ := i6 z
        exact ⟨t, List.mem_cons_of_mem _ ht, g⟩
    · simp only [PyData.shownAll] at ht
      obtain ⟨zb, zc⟩ := (Bool.and_eq_true e f).mp z
      rcases List.mem_cons.mp ht with rfl | ht
      · exact h.no zb
      · exact i7 zc t ht
theorem no_of {x : Str} (h : (x.cps.toList.all fun c => c != 117) = true) : No x := fun c hc => by
  have := List.all_eq_true.mp h c hc
  simpa using this
theorem TxAll.tup {ds : List PyData} {n M : Nat} {b c : Bool} (h : TxAll ds n M b c) : Tx (.tuple ds) (n + 1) (M + 2 * ds.length + 3) b c := by
  obtain ⟨i1, i2, i3, i4, i5, i6, i7⟩ := h.out
  have es : (PyData.tuple ds).shown = tupleText (PyData.shownAll ds) := by simp only [PyData.shown]
  have tl : (Str.ofString (if (PyData.shownAll ds).length == 1 then ",)" else ")")).length ≤ 2 := by
    split <;> decide +kernel
  have tn : No (Str.ofString (if (PyData.shownAll ds).length == 1 then ",)" else ")")) := by
    split <;> exact no_of (by decide +kernel)
  refine ⟨by simp only [PyData.showable]; exact i1, by simp only [PyData.hasDict]; exact i2, by simp only [PyData.depth]; omega, ?_, fun z => ?_, fun z => ?_⟩
  · rw [es]
    unfold tupleText
    rw [Str.length_append, Str.length_append]
    have k1 := len_join ", " (PyData.shownAll ds)
    have k2 : (", " : Str).length = 2 := by decide +kernel
    have k3 : ("(" : Str).length = 1 := by decide +kernel
    rw [k2, i5] at k1
    omega
  · obtain ⟨t, ht, g⟩ := i6 z
    rw [es]
    unfold tupleText
    exact ((has_join ", " ht g).left _).right _
  · rw [es]
    unfold tupleText
    exact ((no_of (by decide +kernel)).app (no_join (no_of (by decide +kernel)) (i7 z))).app tn
/-! ## the leaves -/
theorem tx_str {x : Str} {n L : Nat} {b c : Bool} (h : (reprText x).length ≤ L) (k : b = true → Has (reprText x)) (m : c = true → No (reprText x)) : Tx (.str x) n L b c := by
  have es : (PyData.str x).shown = reprText x := by simp only [PyData.shown]
  exact ⟨by simp only [PyData.showable], by simp only [PyData.hasDict], by simp only [PyData.depth]; omega, by rw [es]; exact h, by rw [es]; exact k, by rw [es]; exact m⟩
theorem tx_lit (x : Str) (n : Nat) (h : (reprText x).length ≤ 10) (m : ((reprText x).cps.toList.all fun c => c != 117) = true) : Tx (.str x) n 10 false true := tx_str h (fun z => nomatch z) fun _ => no_of m
theorem tx_any (x : Str) (n : Nat) (h : (reprText x).length ≤ 10) : Tx (.str x) n 10 false false := tx_str h (fun z => nomatch z) fun z => nomatch z
theorem tx_cut (n : Nat) : Tx (.str "cut") n 10 true false := tx_str (by decide +kernel) (fun _ => ⟨"'", "'", by decide +kernel⟩) fun z => nomatch z
theorem dig_all : ∀ n : Fin 401, ((Str.ofString (toString ((n.val : Nat) : Int))).cps.toList.all fun c => decide (48 ≤ c) && decide (c ≤ 57)) = true := by decide +kernel
theorem tx_int (n k : Nat) (h : k ≤ 400) : Tx (.int (k : Int)) n 10 false true := by
  have es : (PyData.int (k : Int)).shown = Str.ofString (toString (k : Int)) := by simp only [PyData.shown]
  have d := digits_ok ⟨k, by omega⟩
  refine ⟨?_, by simp only [PyData.hasDict], by simp only [PyData.depth]; omega, by rw [es]; exact Nat.le_trans d.1 (by decide), fun z => (nomatch z), fun _ => by rw [es]; exact no_of d.2⟩
  simp only [PyData.showable, decide_eq_true_eq]
  rw [Int.natAbs_natCast]
  exact Nat.lt_of_le_of_lt (Nat.log2_le_self _) (by omega)
/-! ### names f12x34 -/
def okc (c : Nat) : Bool := (decide (48 ≤ c) && decide (c ≤ 57)) || c == 102 || c == 120
theorem okc_repr : ∀ c : Fin 128, okc c.val = true → Builtin.Str.reprChar 39 c.val = [c.val] := by decide +kernel
theorem okc_all : ∀ c : Fin 128, okc c.val = true → c.val ≠ 117 ∧ c.val ≠ 39 := by decide +kernel
theorem okc_lt {c : Nat} (h : okc c = true) : c < 128 := by
  unfold okc at h
  simp only [Bool.or_eq_true, Bool.and_eq_true, decide_eq_true_eq, beq_iff_eq] at h
  omega
theorem fold_ok : ∀ (l : List Nat) (acc : Array Nat), (∀ c ∈ l, okc c = true) → l.foldl (fun out c => out ++ (Builtin.Str.reprChar 39 c).toArray) acc = acc ++ l.toArray
  | [], acc, _ => by simp
  | c :: r, acc, h => by
    have hc := h c List.mem_cons_self
    rw [List.foldl_cons, okc_repr ⟨c, okc_lt hc⟩ hc, fold_ok r _ fun d hd => h d (List.mem_cons_of_mem _ hd)]
    simp
theorem repr_ok {x : Str} (h : ∀ c ∈ x.cps.toList, okc c = true) : (reprText x).cps.toList = 39 :: (x.cps.toList ++ [39]) := by
  have q : reprQuote x = 39 := by
    unfold reprQuote
    have : x.cps.contains 39 = false := by
      rw [Bool.eq_false_iff]
      intro z
      have m : 39 ∈ x.cps.toList := by simpa using z
      exact (okc_all ⟨39, by decide⟩ (h 39 m)).2 rfl
    rw [this, Bool.false_and]
    rfl
  unfold reprText
  rw [q, ← Array.foldl_toList, fold_ok _ _ h]
  simp
theorem tx_name {x : Str} (n : Nat) (h : ∀ c ∈ x.cps.toList, okc c = true) (hl : x.length ≤ 18) : Tx (.str x) n 20 false true := by
  have e := repr_ok h
  refine tx_str ?_ (fun z => nomatch z) fun _ c hc => ?_
  · have : (reprText x).length = (reprText x).cps.toList.length := by simp [Str.length]
    rw [this, e, List.length_cons, List.length_append, List.length_singleton]
    have : x.cps.toList.length = x.length := by simp [Str.length]
    omega
  · rw [e] at hc
    rcases List.mem_cons.mp hc with rfl | hc
    · decide
    · rcases List.mem_append.mp hc with hc | hc
      · exact (okc_all ⟨c, okc_lt (h c hc)⟩ (h c hc)).1
      · rw [List.mem_singleton] at hc
        rw [hc]
        decide
theorem okc_app {x y : Str} (h : ∀ c ∈ x.cps.toList, okc c = true) (k : ∀ c ∈ y.cps.toList, okc c = true) : ∀ c ∈ (x ++ y).cps.toList, okc c = true := fun c hc => by
  rw [Str.cps_append, Array.toList_append, List.mem_append] at hc
  exact hc.elim (h c) (k c)
theorem okc_dig {n : Nat} (h : n ≤ 400) : ∀ c ∈ (Str.ofString (toString (n : Int))).cps.toList, okc c = true := fun c hc => by
  have := List.all_eq_true.mp (dig_all ⟨n, by omega⟩) c hc
  unfold okc
  rw [this]
  rfl
theorem tx_md {m : Md} {r r' : Nat} (n : Nat) (h : MdOk m r r') (hr : r ≤ 400) : ∃ d, (∀ {K : PySem.W.Frag} {H : Hp} {v : V}, MdAt H v m → Dp K H v d) ∧ Tx d (n + 1) 40 false true ∧ Tx (.str (nameOf m)) n 20 false true := by
  cases h with
  | once => exact ⟨.str "once", fun {K H v} e => by cases (show v = .str "once" from e); exact .str _, (tx_lit "once" (n + 1) (by decide +kernel) (by decide +kernel)).mono (Nat.le_refl _) (by decide), tx_name n (by decide +kernel) (by decide +kernel)⟩
  | st k d _ h1 h2 h3 h4 =>
    obtain ⟨e, rfl⟩ : ∃ e : Nat, d = (e : Int) := ⟨d.toNat, by omega⟩
    refine ⟨.tuple [.int k, .int e], fun {K H v} ⟨t, ev, ht⟩ => by subst ev; exact .tup (SqT.of ht) (.cons (.int _) (.cons (.int _) .nil)), ?_, ?_⟩
    · have := (TxAll.cons (tx_int n k (by omega)) (TxAll.cons (tx_int n e (by omega)) (.nil n))).tup
      exact this.mono (Nat.le_refl _) (by show 10 + (10 + 0) + 2 * 2 + 3 ≤ 40; decide)
    · have d1 := (digits_ok ⟨k, by omega⟩).1
      have d2 := (digits_ok ⟨e, by omega⟩).1
      refine tx_name n ?_ ?_
      · exact okc_app (okc_app (okc_app (by decide +kernel) (okc_dig (by omega))) (by decide +kernel)) (okc_dig (by omega))
      · show (("f" : Str) ++ Str.ofString (toString (k : Int)) ++ ("x" : Str) ++ Str.ofString (toString (e : Int))).length ≤ 18
        rw [Str.length_append, Str.length_append, Str.length_append]
        have f1 : ("f" : Str).length = 1 := by decide
        have x1 : ("x" : Str).length = 1 := by decide
        simp only at d1 d2
        omega
def hasCut : Tr → Bool
  | .own _ => false
  | .pick _ _ b => hasCut b
  | .offer a b => hasCut a || hasCut b
  | .cut _ _ _ _ => true
  | .pay _ _ a b => hasCut a || hasCut b
theorem tx_own (n : Nat) {x : PyData} (h : Tx x n 10 false true) : Tx (.tuple [.str "own", x]) (n + 1) 27 false true := (TxAll.cons (tx_lit "own" n (by decide +kernel) (by decide +kernel)) (TxAll.cons h (.nil n))).tup.mono (Nat.le_refl _) (by show 10 + (10 + 0) + 2 * 2 + 3 ≤ 27; decide)
theorem tx_word (n : Nat) : Tx (.tuple [.str "word", .str "p"]) (n + 1) 27 false true := (TxAll.cons (tx_lit "word" n (by decide +kernel) (by decide +kernel)) (TxAll.cons (tx_lit "p" n (by decide +kernel) (by decide +kernel)) (.nil n))).tup.mono (Nat.le_refl _) (by show 10 + (10 + 0) + 2 * 2 + 3 ≤ 27; decide)
theorem dp_word {K : PySem.W.Frag} {H : Hp} {t : Addr} (h : H t = some (.tup [.str "word", .str "p"])) : Dp K H (.ref t) (.tuple [.str "word", .str "p"]) := .tup (SqT.of h) (.cons (.str _) (.cons (.str _) .nil))
/-- the text of a drawn tree -/
theorem wf_text : ∀ {d r : Nat} {l : Int} {t : Tr}, Wf d r l t → l = 0 → 1 ≤ r → r ≤ 400 → ∃ D : PyData, (∀ {K : PySem.W.Frag} {H : Hp} {v : V}, TrAt H v t → Dp K H v D) ∧ Tx D (2 * d + 2) (400 * siz t) (hasCut t) (!hasCut t) := by
  intro d r l t h
  induction h with
  | own d r l =>
    intro hl h1 h4
    refine ⟨.tuple [.str "own", .str "s"], fun {K H v} ⟨p, e, h⟩ => by subst e; exact .tup (SqT.of h) (.cons (.str _) (.cons (.str _) .nil)), ?_⟩
    exact (tx_own 0 (tx_lit "s" 0 (by decide +kernel) (by decide +kernel))).mono (by omega) (by show 27 ≤ 400 * 1; decide)
  | pick d r l =>
    intro hl h1 h4
    subst hl
    refine ⟨.tuple [.str "pick", .str "m", .str "left", .tuple [.str "own", .int 0]], fun {K H v} ⟨p, x, e, h, q, e2, h2⟩ => by subst e e2; exact .tup (SqT.of h) (.cons (.str _) (.cons (.str _) (.cons (.str _) (.cons (.tup (SqT.of h2) (.cons (.str _) (.cons (.int _) .nil))) .nil)))), ?_⟩
    have := (TxAll.cons (tx_lit "pick" 1 (by decide +kernel) (by decide +kernel)) (TxAll.cons (tx_lit "m" 1 (by decide +kernel) (by decide +kernel)) (TxAll.cons (tx_lit "left" 1 (by decide +kernel) (by decide +kernel)) (TxAll.cons (tx_own 0 (tx_int 0 0 (by decide))) (.nil 1))))).tup
    exact this.mono (by omega) (by show 10 + (10 + (10 + (27 + 0))) + 2 * 4 + 3 ≤ 400 * 2; decide)
  | menu d r l a b side hd hs fa fb ia ib =>
    intro hl h1 h4
    obtain ⟨A, da, ta⟩ := ia hl h1 h4
    obtain ⟨B, db, tb⟩ := ib hl h1 h4
    subst hl
    refine ⟨.tuple [.str "cut", .str "once", .tuple [.str "menu", .tuple [.str "word", .str "p"], .tuple [.str "word", .str "p"]], .tuple [.str "offer", A, B], .tuple [.str "pick", .int 0, .str side, .tuple [.str "own", .int 1]]], ?_, ?_⟩
    · rintro K H v ⟨p, m', s', x, y, rfl, hp, hm, ⟨u, w, rfl, hu, hw⟩, ⟨o, xa, xb, rfl, ho, hA, hB⟩, pk, z, rfl, hpk, q, rfl, hq⟩
      cases (show m' = .str "once" from hm)
      exact .tup (SqT.of hp) (.cons (.str _) (.cons (.str _) (.cons (.tup (SqT.of hu) (.cons (.str _) (.cons (dp_word hw) (.cons (dp_word hw) .nil)))) (.cons (.tup (SqT.of ho) (.cons (.str _) (.cons (da hA) (.cons (db hB) .nil)))) (.cons (.tup (SqT.of hpk) (.cons (.str _) (.cons (.int _) (.cons (.str _) (.cons (.tup (SqT.of hq) (.cons (.str _) (.cons (.int _) .nil))) .nil))))) .nil)))))
    · have sd : Tx (.str side) (2 * d + 2) 10 false true := by
        rcases hs with rfl | rfl
        · exact tx_lit "left" _ (by decide +kernel) (by decide +kernel)
        · exact tx_lit "right" _ (by decide +kernel) (by decide +kernel)
      have w1 : Tx (.tuple [.str "word", .str "p"]) (2 * d + 2) 27 false true := (tx_word 0).mono (by omega) (Nat.le_refl _)
      have mn := TxAll.tup (TxAll.cons (tx_any "menu" (2 * d + 2) (by decide +kernel)) (TxAll.cons w1 (TxAll.cons w1 (.nil _))))
      have of := TxAll.tup (TxAll.cons (tx_any "offer" (2 * d + 2) (by decide +kernel)) (TxAll.cons ta (TxAll.cons tb (.nil _))))
      have ow : Tx (.tuple [.str "own", .int 1]) (2 * d + 2) 27 false true := (tx_own 0 (tx_int 0 1 (by decide))).mono (by omega) (Nat.le_refl _)
      have pk := TxAll.tup (TxAll.cons (tx_any "pick" (2 * d + 2) (by decide +kernel)) (TxAll.cons (tx_int (2 * d + 2) 0 (by decide)) (TxAll.cons sd (TxAll.cons ow (.nil _)))))
      have all := TxAll.tup (TxAll.cons (tx_cut (2 * d + 2 + 1)) (TxAll.cons (tx_any "once" (2 * d + 2 + 1) (by decide +kernel)) (TxAll.cons mn (TxAll.cons of (TxAll.cons pk (.nil _))))))
      refine Tx.mono all (by omega) ?_
      show 10 + (10 + (10 + (27 + (27 + 0)) + 2 * 3 + 3 + (10 + (400 * siz a + (400 * siz b + 0)) + 2 * 3 + 3 + (10 + (10 + (10 + (27 + 0))) + 2 * 4 + 3 + 0)))) + 2 * 5 + 3 ≤ 400 * (siz a + siz b + 1 + (1 + 1) + 1)
      omega
  | cut d r r' l m a hm fa ia =>
    intro hl h1 h4
    obtain ⟨k1, k2⟩ := hm.pos h1
    obtain ⟨A, da, ta⟩ := ia hl k1 (by omega)
    obtain ⟨M, dm, tm, _⟩ := tx_md (2 * d + 2) hm h4
    subst hl
    refine ⟨.tuple [.str "cut", M, .tuple [.str "word", .str "p"], A, .tuple [.str "own", .int 0]], ?_, ?_⟩
    · rintro K H v ⟨p, m', s', x, y, rfl, hp, hm', ⟨u, rfl, hu⟩, hA, q, rfl, hq⟩
      exact .tup (SqT.of hp) (.cons (.str _) (.cons (dm hm') (.cons (dp_word hu) (.cons (da hA) (.cons (.tup (SqT.of hq) (.cons (.str _) (.cons (.int _) .nil))) .nil)))))
    · have w1 : Tx (.tuple [.str "word", .str "p"]) (2 * d + 2 + 1) 27 false true := (tx_word 0).mono (by omega) (Nat.le_refl _)
      have ow : Tx (.tuple [.str "own", .int 0]) (2 * d + 2 + 1) 27 false true := (tx_own 0 (tx_int 0 0 (by decide))).mono (by omega) (Nat.le_refl _)
      have all := TxAll.tup (TxAll.cons (tx_cut (2 * d + 2 + 1)) (TxAll.cons tm (TxAll.cons w1 (TxAll.cons (ta.mono (by omega) (Nat.le_refl _)) (TxAll.cons ow (.nil _))))))
      refine Tx.mono all (by omega) ?_
      show 10 + (40 + (27 + (400 * siz a + (27 + 0)))) + 2 * 5 + 3 ≤ 400 * (siz a + 1 + 1)
      omega
  | pay d r r' l m a hm fa ia =>
    intro hl h1 h4
    obtain ⟨k1, k2⟩ := hm.pos h1
    obtain ⟨A, da, ta⟩ := ia hl k1 (by omega)
    obtain ⟨M, dm, tm, tn⟩ := tx_md (2 * d + 2) hm h4
    subst hl
    refine ⟨.tuple [.str "pay", .str (nameOf m), M, A, .tuple [.str "own", .int 0]], ?_, ?_⟩
    · rintro K H v ⟨p, m', x, y, rfl, hp, hm', hA, q, rfl, hq⟩
      exact .tup (SqT.of hp) (.cons (.str _) (.cons (.str _) (.cons (dm hm') (.cons (da hA) (.cons (.tup (SqT.of hq) (.cons (.str _) (.cons (.int _) .nil))) .nil)))))
    · have ow : Tx (.tuple [.str "own", .int 0]) (2 * d + 2 + 1) 27 false true := (tx_own 0 (tx_int 0 0 (by decide))).mono (by omega) (Nat.le_refl _)
      have all := TxAll.tup (TxAll.cons (tx_lit "pay" (2 * d + 2 + 1) (by decide +kernel) (by decide +kernel)) (TxAll.cons (tn.mono (Nat.le_succ _) (Nat.le_refl _)) (TxAll.cons tm (TxAll.cons (ta.mono (by omega) (Nat.le_refl _)) (TxAll.cons ow (.nil _))))))
      show Tx _ _ _ (hasCut a || false) (!(hasCut a || false))
      have ll : 10 + (20 + (40 + (400 * siz a + (27 + 0)))) + 2 * 5 + 3 ≤ 400 * (siz a + 1 + 1) := by omega
      cases hc : hasCut a with
      | true =>
        rw [hc] at all
        exact Tx.mono all (by omega) ll
      | false =>
        rw [hc] at all
        exact Tx.mono all (by omega) ll
/-! ## the load is 0 exactly without cuts -/
theorem box_ge {x : T3} (h1 : 1 ≤ x.p) (h : x.p ≤ x.r) : ∀ n : Nat, 1 ≤ n → 1 ≤ (x.pow n).p ∧ (x.pow n).p ≤ (x.pow n).r
  | 1, _ => by
    rw [pow1]
    exact ⟨h1, h⟩
  | n + 2, _ => by
    obtain ⟨a, b⟩ := box_ge h1 h (n + 1) (by omega)
    have g := ge_mul (x := x.pow (n + 1)) (y := x) (by omega) a h h1
    refine ⟨?_, g⟩
    show 1 ≤ (x.pow (n + 1)).p * x.p
    have := Int.mul_le_mul a h1 (by decide) (by omega)
    omega
theorem pow_l {x : T3} (h : x.l = 0) : ∀ n : Nat, (x.pow n).l = 0
  | 0 => rfl
  | n + 1 => by
    show (x.pow n).l * x.p + x.l * (x.pow n).p = 0
    rw [pow_l h n, h]
    omega
theorem boxT_l {x : T3} (h : x.l = 0) : ∀ m : Md, (boxT x m).l = 0
  | .once => h
  | .st n _ => pow_l (x := x.up 1) h n
theorem boxT_r {x : T3} (h1 : 1 ≤ x.p) (h : x.p ≤ x.r) : ∀ m : Md, 1 ≤ cop m → 1 ≤ (boxT x m).r
  | .once, _ => by show 1 ≤ x.r; omega
  | .st n _, c => by
    obtain ⟨a, b⟩ := box_ge (x := x.up 1) h1 (by show x.p ≤ x.r + 1 * x.p; omega) n c
    show 1 ≤ ((x.up 1).pow n).r
    omega
theorem wf_load : ∀ {d r : Nat} {l : Int} {t : Tr}, Wf d r l t → 1 ≤ r → r ≤ 400 → d ≤ 8 → (hasCut t = true → 1 ≤ (tal t).l) ∧ (hasCut t = false → (tal t).l = 0) := by
  intro d r l t h
  induction h with
  | own d r l => exact fun _ _ _ => ⟨fun z => (nomatch z), fun _ => rfl⟩
  | pick d r l => exact fun _ _ _ => ⟨fun z => (nomatch z), fun _ => rfl⟩
  | menu d r l a b side hd hs fa fb ia ib =>
    intro h1 h4 h8
    refine ⟨fun _ => ?_, fun z => nomatch z⟩
    obtain ⟨ba, ga⟩ := wf_bd fa h1 h4 (by omega)
    obtain ⟨bb, gb⟩ := wf_bd fb h1 h4 (by omega)
    have bo := (ba.add bb).up
    show 1 ≤ (((((tal a).add (tal b)).up 1).mul ((⟨1, 1, 0⟩ : T3).up 1)).cutf ((1 : Nat) : Int)).l
    generalize ((tal a).add (tal b)).up 1 = X at bo
    have x1 := bo.p1
    have x2 := bo.r0
    have x3 := bo.l0
    show 1 ≤ X.l * 1 + 0 * X.p + ((1 : Nat) : Int) * (X.r * 1 + (1 + 1 * 1) * X.p - X.p * 1)
    omega
  | cut d r r' l m a hm fa ia =>
    intro h1 h4 h8
    refine ⟨fun _ => ?_, fun z => nomatch z⟩
    obtain ⟨k1, k2⟩ := hm.pos h1
    obtain ⟨c1, c2, c3⟩ := hm.cop h1
    obtain ⟨ba, ga⟩ := wf_bd fa k1 (by omega) (by omega)
    have bo := boxT_bd ba m
    have x1 := bo.p1
    have x3 := bo.l0
    have x2 := boxT_r ba.p1 ga m c1
    show 1 ≤ (((boxT (tal a) m).mul ⟨1, 1, 0⟩).cutf (cop m : Int)).l
    generalize boxT (tal a) m = X at x1 x2 x3
    show 1 ≤ X.l * 1 + 0 * X.p + (cop m : Int) * (X.r * 1 + 1 * X.p - X.p * 1)
    have e : X.r * 1 + 1 * X.p - X.p * 1 = X.r := by omega
    rw [e]
    have := Int.mul_le_mul (show (1 : Int) ≤ (cop m : Int) by omega) x2 (by decide) (by omega)
    omega
  | pay d r r' l m a hm fa ia =>
    intro h1 h4 h8
    obtain ⟨k1, k2⟩ := hm.pos h1
    obtain ⟨c1, c2, c3⟩ := hm.cop h1
    obtain ⟨i1, i2⟩ := ia k1 (by omega) (by omega)
    obtain ⟨ba, ga⟩ := wf_bd fa k1 (by omega) (by omega)
    have bo := boxT_bd ba m
    have x1 := bo.p1
    have x3 := bo.l0
    have key : (tal (.pay (.str (nameOf m)) m a (.own (.int l)))).l = (boxT (tal a) m).l := by
      show (boxT (tal a) m).l * 1 + 0 * (boxT (tal a) m).p = _
      omega
    rw [key]
    constructor
    · intro z
      have hc : hasCut a = true := by simpa [hasCut] using z
      have la := i1 hc
      cases m with
      | once => exact la
      | st n k =>
        obtain ⟨j, rfl⟩ : ∃ j, n = j + 1 := ⟨n - 1, by have : 1 ≤ n := c1; omega⟩
        have bj := ba.up.pow j
        have y1 := bj.p1
        have y2 := bj.l0
        have y3 := ba.p1
        show 1 ≤ ((((tal a).up 1).pow j).l * (tal a).p + (tal a).l * (((tal a).up 1).pow j).p)
        have z1 : 0 ≤ (((tal a).up 1).pow j).l * (tal a).p := Int.mul_nonneg y2 (by omega)
        have z2 := Int.mul_le_mul la y1 (by decide) (by omega)
        omega
    · intro z
      have hc : hasCut a = false := by simpa [hasCut] using z
      exact boxT_l (i2 hc) m
end K77

/-! a law's own def, entered by the harness: there it is known that no repr is under way -/
namespace HL
open PySem PySem.Spec PyProof.Rows L2
section
variable {P : Program} {w : World} {K : PySem.W.Frag} {mg : Str → Option Value} {base : Heap} {A : Around}
/-- a def's body run once, at the stack A -/
theorem run_at {x qual : Str} {st : Stmt} {f : Addr} {fd : FuncData} {N ps : List Str} {k : Nat} {outer : List Env} {s : Shared} {H : Hp} {args : Args} {us : List Value} {vs : List V} {Q : VK} (F : Fun K x qual st f fd) (S : FnScope N ps (defScope st)) (hl : vs.length = ps.length) (hr : Room (k + 1) A)
    (e0 : Env0 P w K mg base A outer s H) (hb : BindsTo s fd args (ps.zip us)) (r : Vals vs us)
    (hbody : ∀ cdv : Value, Room k (A.deeper (envOfC qual (defScope st) s.heap.objs.size f cdv)) → ∃ t, PSs (cxOf CX0 P w K mg base N qual (defScope st) f cdv A outer s H E0).nox (defBody st) t ∧ t { nx := fun _ H' => Q .non H', rt := Q } (start N vs) H) :
    codeAny (model P w) A (.call (.ref f) args) (CR CX0 outer P w H s Q E0) s := by
  obtain ⟨oc, od, kV, doc, pm, an, cdv, ct, osl, rfl, lk, hcd⟩ := F.ex
  have keep : ∀ b o, base.get? b = some o → s.heap.get? b = some o := fun b o e => (e0.bs b o e).1
  have KX : K.In s.heap := e0.mod.kin.keeps keep
  have lim : s.heap.NoLimit := e0.mod.nolimit.keeps keep
  have kinds : ∀ y ∈ ps.zip us, (defScope st).names.lookup y.1 = some .local ∨ ((defScope st).names.lookup y.1 = some .cell ∧ ((cellsFrom (s.heap.objs.size + 1) (defScope st).names []).lookup y.1).isSome = true) := by
    rintro ⟨n, v⟩ hy
    exact (S.par n (List.of_mem_zip hy).1).imp id fun q => ⟨q, PySem.W.cellsFrom_some _ _ _ (.inl q)⟩
  refine codeAny_call_function hr.depth (KX _ _ lk) rfl S.co S.gen rfl (PySem.W.codeRec_of KX hcd) (hb _ _ _ _ (wpAny_newFunctionEnv_cells S.kind kinds fun env he s1 x => ?_))
  subst he
  refine ⟨lim.keeps x.toInCall.keep, codeAny_func ?_⟩
  obtain ⟨t, ht, hq⟩ := hbody cdv (hr.deeper _)
  have I : Inv (cxOf CX0 P w K mg base N qual (defScope st) f cdv A outer s H E0) [] (start N vs) H s1 := inv_start S hr.hd e0 hl r x
  refine wpAny_mono (ht.nox.run [] s1 (start N vs) H _ I hq) (fun fl s' hs => ?_) fun e s' hs => hs
  cases fl with
  | ret u =>
    obtain ⟨v, σ', H', J, rv, q⟩ := hs
    exact ⟨v, H', J.os, J.bare, J.base, J.hok, rv, q⟩
  | next =>
    obtain ⟨σ', H', J, q⟩ := hs
    exact ⟨.non, H', J.os, J.bare, J.base, J.hok, rfl, q⟩
  | brk =>
    obtain ⟨_, _, _, q⟩ := hs
    exact q.elim
  | cont =>
    obtain ⟨_, _, _, q⟩ := hs
    exact q.elim
/-- the tracked part of the heap at the law's entry: the script, where it is none of the module's own objects -/
def scriptHp (K : PySem.W.Frag) (a : Addr) (o : Obj) (ns : List Int) : Hp := fun b => if b = a ∧ K.lookup a = none then some (.frz o (.lst (ns.map V.int))) else none
theorem scriptHp_at {K : PySem.W.Frag} {a b : Addr} {o : Obj} {ns : List Int} {u : HO} (h : scriptHp K a o ns b = some u) : b = a ∧ K.lookup a = none ∧ u = .frz o (.lst (ns.map V.int)) := by
  unfold scriptHp at h
  by_cases c : b = a ∧ K.lookup a = none
  · rw [if_pos c] at h
    exact ⟨c.1, c.2, (Option.some.inj h).symm⟩
  · rw [if_neg c] at h
    cases h
theorem scriptHp_of {K : PySem.W.Frag} {a : Addr} {o : Obj} {ns : List Int} (h : K.lookup a = none) : scriptHp K a o ns a = some (.frz o (.lst (ns.map V.int))) := if_pos ⟨rfl, h⟩
theorem scriptHp_none {K : PySem.W.Frag} {a b : Addr} {o : Obj} {ns : List Int} (h : b = a → K.lookup a = none → False) : scriptHp K a o ns b = none := if_neg fun c => h c.1 c.2
/-- the law's def at the harness's stack, from its body -/
theorem enter_law {fa a : Addr} {mb : Str → Option Value} {fd : FuncData} {x qual y : Str} {st : Stmt} {N : List Str} {k : Nat} {s₁ : Shared} {vs : List Value} {ns : List Int} (F : Fun K x qual st fa fd) (S : FnScope N [y] (defScope st))
    (KX : K.In s₁.heap) (hns : s₁.heap.Ns mainGlobals mg) (hb : s₁.heap.Ns builtinsNs mb) (hbb : ∀ x : Str, x ≠ "__name__" → mb x = bootBuiltins x) (hlim : s₁.heap.NoLimit) (hg : s₁.gens = #[])
    (ha : s₁.heap.get? a = some { cls := .type "list", data := .seq vs.toArray }) (hi : IntsAre vs ns) (hl : ns.length ≤ sizeLine) (hr : Room (k + 1) callerA) (hbind : ∀ (s : Shared) (u : Value), BindsTo s fd ⟨[u], []⟩ [(y, u)])
    (hbody : ∀ base : Heap, K.In base → base.Ns mainGlobals mg → ∀ H : Hp, Only H → SqL K H a (ns.map V.int) → ∀ cdv : Value, Room k (callerA.deeper (envOfC qual (defScope st) s₁.heap.objs.size fa cdv)) →
      ∃ t, PSs (cxOf CX0 P w K mg base N qual (defScope st) fa cdv callerA [] s₁ H E0).nox (defBody st) t ∧ t { nx := fun _ _ => V.non = .bl true, rt := fun v _ => v = .bl true } (start N [.ref a]) H) :
    codeAny (model P w) callerA (.call (.ref fa) ⟨[.ref a], []⟩) (fun r s' => r = .ok (.ret (.bool true)) ∧ OldK s₁.heap s'.heap ∧ s'.os = s₁.os ∧ AllBare s'.gens) s₁ := by
  have rv := vals_ints hi
  have lenV := hi.length
  let o0 : Obj := { cls := .type "list", data := .seq vs.toArray }
  have hok : HOk P w (scriptHp K a o0 ns) s₁.heap := fun b u e => by
    obtain ⟨rfl, _, rfl⟩ := scriptHp_at e
    exact ⟨ha, by rw [List.length_map]; exact hl, vs, _, rv, ha⟩
  have hO : Only (scriptHp K a o0 ns) := fun b => by
    cases e : scriptHp K a o0 ns b with
    | none => exact .inl rfl
    | some u =>
      obtain ⟨_, _, rfl⟩ := scriptHp_at e
      exact .inr ⟨_, _, rfl⟩
  have hS : SqL K (scriptHp K a o0 ns) a (ns.map V.int) := by
    cases hk : K.lookup a with
    | none => exact .inl (.inr ⟨o0, scriptHp_of hk⟩)
    | some o =>
      have e := KX a o hk
      rw [ha] at e
      cases e
      exact .inr ⟨_, vs.toArray, _, hk, rfl, rfl, rfl, by rw [List.size_toArray, lenV]; exact hl, by simpa using rv⟩
  -- what stands in the base
  have free : ∀ {b : Addr} {o : Obj}, s₁.heap.get? b = some o → (b ≠ a ∨ K.lookup a ≠ none) → (hidT s₁.heap (scriptHp K a o0 ns)).get? b = some o := fun e n => hidT_get e (scriptHp_none fun c d => n.elim (fun z => z c) fun z => z d)
  have nsB : ∀ {b : Addr} {m : Str → Option Value}, s₁.heap.Ns b m → (hidT s₁.heap (scriptHp K a o0 ns)).Ns b m := fun {b m} ⟨o, es, ep, e, d, r⟩ => ⟨o, es, ep, free e (.inl fun c => by
    subst c
    rw [ha] at e
    cases e
    have d' : Data.seq vs.toArray _ = Data.dict es ep := d
    cases d'), d, r⟩
  have kB : K.In (hidT s₁.heap (scriptHp K a o0 ns)) := fun b o e => free (KX b o e) (by
    by_cases c : b = a
    · subst c
      exact .inr (by rw [e]; exact fun z => nomatch z)
    · exact .inl c)
  have hM : Mod K mg (hidT s₁.heap (scriptHp K a o0 ns)) := ⟨kB, nsB hns, ⟨mb, nsB hb, hbb⟩, let ⟨mc, h1, h2⟩ := hlim; ⟨mc, nsB h1, h2⟩⟩
  have e0 : Env0 P w K mg (hidT s₁.heap (scriptHp K a o0 ns)) callerA [] s₁ (scriptHp K a o0 ns) := ⟨rfl, hM, fun b o e => of_hidT e, Nat.le_of_eq (hidT_size _ _), trivial, fun b hb => absurd (show b ∈ ([] : List Addr) from hb) List.not_mem_nil, hok, .of_eq hg⟩
  refine codeAny_mono (run_at (Q := fun v _ => v = .bl true) (us := [Value.ref a]) (vs := [V.ref a]) (ps := [y]) F S rfl hr e0 (hbind s₁ (.ref a)) (.cons rfl .nil) fun cdv room => hbody _ kB (nsB hns) _ hO hS cdv room) fun r s' h => ?_
  cases r with
  | error e => exact h.elim
  | ok fl =>
    cases fl with
    | next => exact h.elim
    | brk => exact h.elim
    | cont => exact h.elim
    | ret u =>
      obtain ⟨v, H', os, bare, un, hok', r', q⟩ := h
      obtain rfl : v = .bl true := q
      obtain rfl : u = Value.bool true := r'
      refine ⟨rfl, OldK.of_keep fun b o e => ?_, os, bare⟩
      cases q : scriptHp K a o0 ns b with
      | none => exact un.keep b o e q (fun z => absurd (show b ∈ ([] : List Addr) from z) List.not_mem_nil) (by simp)
      | some u =>
        obtain ⟨rfl, _, rfl⟩ := scriptHp_at q
        obtain ⟨e2, _⟩ := hok' _ _ (un.frzs _ _ _ q)
        rw [ha] at e
        cases e
        exact e2
end
/-- the goal that the head leaves, from the law's body at the harness's stack -/
theorem walk_at {l : PySem.W.OpenLaw} {n k : Nat} {q : Program} {loose : List Str} {XP : (Str → Option Value) → Heap → Prop} {YP : World → Heap → Prop} {d : DefRec} {K : Params → PySem.W.Frag} {x qual y : Str} {st : Stmt} {N : List Str}
    (hn : l.most = some n) (hn2 : n ≤ sizeLine) (hdf : d.params.defaults = []) (hr : Room (k + 1) callerA) (hY : ∀ (w : World) (h : Heap), YP w h → (K w.params).In h) (S : FnScope N [y] (defScope st))
    (F : ∀ (w : World) (mg : Str → Option Value) (fa : Addr) (h : Heap), (K w.params).In h → h.Ns mainGlobals mg → mg d.name = some (.ref fa) →
      ∃ fd : FuncData, Fun (K w.params) x qual st fa fd ∧ (∀ (s : Shared) (u : Value), BindsTo s fd ⟨[u], []⟩ [(y, u)]) ∧
        ∀ base : Heap, (K w.params).In base → base.Ns mainGlobals mg → ∀ (s : Shared) (H : Hp) (a : Addr) (ns : List Int), ns.length ≤ n → Only H → SqL (K w.params) H a (ns.map V.int) → ∀ cdv : Value, Room k (callerA.deeper (envOfC qual (defScope st) s.heap.objs.size fa cdv)) →
          ∃ t, PSs (cxOf CX0 l.prog w (K w.params) mg base N qual (defScope st) fa cdv callerA [] s H E0).nox (defBody st) t ∧ t { nx := fun _ _ => V.non = .bl true, rt := fun v _ => v = .bl true } (start N [.ref a]) H) :
    PySem.W.WalkO q loose XP YP l.row.toRowW d [] (fun f vs => PySem.call f vs) := by
  refine Att.attach_call hn hdf fun w s₀ s₁ mg mb fa o pm cd doc a vs ns G Y ho hd hcd hmg hobj hints hlen hg => ?_
  have KX := hY w _ Y
  obtain ⟨fd, hF, hb, body⟩ := F w mg fa _ KX G.T.g hmg
  exact enter_law hF S KX G.T.g G.T.b G.T.builtins G.T.nolimit hg hobj hints (Nat.le_trans hlen hn2) hr hb fun base h1 h2 H hO hS cdv room => body base h1 h2 s₁ H a ns hlen hO hS cdv room
end HL

namespace K77
open PySem L2 HL
abbrev sLaw : Stmt := top 47
abbrev nLaw : List Str := ["script", "pool", "k", "tree", "numbers", "told", "found"]
theorem scLaw : FnScope nLaw ["script"] (defScope sLaw) := ⟨rfl, rfl, rfl, by decide +kernel, rfl, by decide +kernel, by decide +kernel⟩
theorem tup3_dp {K : PySem.W.Frag} {H : Hp} {t : Addr} {a b c : Int} (h : H t = some (.tup [.int a, .int b, .int c])) : Dp K H (.ref t) (.tuple [.int a, .int b, .int c]) := .tup (SqT.of h) (.cons (.int _) (.cons (.int _) (.cons (.int _) .nil)))
theorem tup3_eqv (a b c : Int) : PyData.eqv (.tuple [.int a, .int b, .int c]) (.tuple [.int a, .int b, .int c]) = true := by
  simp [PyData.eqv, PyData.eqvAll]
theorem tup3_shaped (a b c : Int) : SeqAt.shaped (.tuple [.int a, .int b, .int c]) = true := rfl
section
variable {P : Program} {w : World} {K : PySem.W.Frag} {mg : Str → Option Value} {base : Heap} {f fM aP C CL : Addr} {fdM : FuncData}
theorem law_body {A : Around} {outer : List Env} {s : Shared} {H : Hp} {a : Addr} {ns : List Int} {fT : Addr} {fdT : FuncData} (cdv : Value) (T : Txt mg) (TT : TC2 K mg C) (hA : A.guards = some []) (h63 : ns.length ≤ 63) (hS : SqL K H a (ns.map V.int))
    (D_law_pool : Def P w K mg base 2 "_law_pool" ["script", "k"] (spPool K)) (D_law_drawn : Def P w K mg base 19 "_law_drawn" ["pool"] spDrawn) (D_law_numbers : Def P w K mg base 18 "_law_numbers" ["tree"] (spNums 17))
    (D_tally : Def P w K mg base 23 "tally" ["library", "derivation"] (spTallyF C CL)) (D_Library : CDef P w K mg base CL 1 "Library" ["self"] (spLInit CL)) (D_Tally_triple : MDef P w K mg base C fT fdT 1 "triple" ["self"] (spTriple C))
    (D_greatest_play : Def P w K mg base 19 "greatest_play" ["library", "derivation"] (spGPF CL)) (D_law_listed : Def P w K mg base 18 "_law_listed" ["tree"] (spLs 17)) (D_law_plays : Def P w K mg base 23 "_law_plays" ["tree", "found"] spLP)
    (hr : Room 40 (A.deeper (PyProof.Rows.envOfC "law" (defScope sLaw) s.heap.objs.size f cdv))) :
    ∃ t, PSs (cxOf CX0 P w K mg base nLaw "law" (defScope sLaw) f cdv A outer s H E0).nox (defBody sLaw) t ∧ t { nx := fun _ _ => V.non = .bl true, rt := fun v _ => v = .bl true } (start nLaw [.ref a]) H := by
  have hg : (cxOf CX0 P w K mg base nLaw "law" (defScope sLaw) f cdv A outer s H E0).nox.A.guards = some [] := hA
  refine ⟨_, (pss_cons (ps_set (i := 1) scLaw.nd rfl (Or.inl rfl) (pe_cd D_law_pool hr (pa_cons (pv 0) (pa_cons pe_int pa_nil))))
      (pss_cons (ps_for PassesOwn.never rfl (pi_range1 rfl T.range (pa_cons pe_int pa_nil)) (pg_name (i := 2) scLaw.nd rfl (Or.inl rfl))
      (pss_cons (ps_set (i := 3) scLaw.nd rfl (Or.inl rfl) (pe_cd D_law_drawn hr (pa_cons (pv 1) pa_nil)))
        (pss_cons (ps_set (i := 4) scLaw.nd rfl (Or.inl rfl) (pe_cd D_law_numbers hr (pa_cons (pv 3) pa_nil)))
        (pss_cons (ps_set (i := 5) scLaw.nd rfl (Or.inl rfl) (pe_cd D_tally hr (pa_cons (pe_mk0 D_Library hr) (pa_cons (pv 3) pa_nil))))
        (pss_cons (ps_if (PW.pt (pw_or (pt_cmpR (op_neD hr.units) (pe_meth0 (pv 5) TT.cl D_Tally_triple.mt (D_Tally_triple.ok.mono (by first | decide | omega)) hr D_Tally_triple.b .nil pass0) (pe_slice sl_tup (pv 4) po_none (po_some pe_int)) (nomark _)) (pw_or1 (pt_cmpR (op_neD hr.units) (pe_tup (pa_cons (pe_fld (pv 5) rfl) (pa_cons (pe_fld (pv 5) rfl) (pa_cons (pe_fld (pv 5) rfl) pa_nil)))) (pe_slice sl_tup (pv 4) po_none (po_some pe_int)) (nomark _)))))
        (pss_one (ps_ret pe_bl))
        pss_nil)
        (pss_cons (ps_if (pt_cmpR op_ne (pe_cd D_greatest_play hr (pa_cons (pe_mk0 D_Library hr) (pa_cons (pv 3) pa_nil))) (pe_ix ix_tup (pv 4) pe_int (fun _ _ => rfl)) (nomark _))
        (pss_one (ps_ret pe_bl))
        pss_nil)
        (pss_cons (ps_if (pt_cmpR op_ne (pe_cmpR op_in_str pe_str (pe_callB (call_repr_data hg) rfl T.repr (by decide +kernel) (pa_cons (pv 3) pa_nil)) rfl) (pe_cmpR op_gt (pe_fld (pv 5) rfl) pe_int (nomark _)) (nomark _))
        (pss_one (ps_ret pe_bl))
        pss_nil)
        (pss_one (ps_if (pt_cmpR op_le (pe_ix ix_tup (pv 4) pe_int (fun _ _ => rfl)) pe_int (nomark _))
        (pss_cons (ps_set (i := 6) scLaw.nd rfl (Or.inl rfl) (pe_cd D_law_listed hr (pa_cons (pv 3) pa_nil)))
          (pss_one (ps_if (PW.pt (pw_or (pt_not (pt_val (pe_cd D_law_plays hr (pa_cons (pv 3) (pa_cons (pv 6) pa_nil))))) (pw_or1 (PW.pt (pw_and (pt_cmpR op_le (pe_ix ix_tup (pv 4) pe_int (fun _ _ => rfl)) pe_int (nomark _)) (pw_and1 (pt_not (pt_val (pe_cd D_law_plays hr (pa_cons (pv 3) (pa_cons (pv 6) pa_nil)))))))))))
          (pss_one (ps_ret pe_bl))
          pss_nil)))
        pss_nil)))))))))
      (pss_one (ps_ret pe_bl)))), ?_⟩
  refine ⟨_, rfl, a, ns, rfl, hS, h63, fun p H1 s1 n1 p1 => ?_⟩
  refine ⟨_, rfl, ?_, ?_, for_range (lo := 0) (n := ((3 : Nat) : Int).toNat) (fun i σ' H' => ∃ kk tr nu to fo : Option V, σ' = [some (.ref a), some (.ref p), kk, tr, nu, to, fo] ∧ PoolAt H' p) ⟨_, _, _, _, _, rfl, p1⟩ ?_ ?_⟩
  · decide
  · decide
  · rintro i σ' H2 hi ⟨kk, tr, nu, to, fo, rfl, p2⟩
    refine ⟨_, rfl, p, rfl, p2, fun v t d r H3 ht wf d8 r1 r4 g9 b3 p3 => ?_⟩
    obtain ⟨pt, rest, rfl, _⟩ := ht.row
    obtain ⟨okt, hgt'⟩ := wf_ok wf r1 r4 d8
    have ok2 := wf_ok2 wf r1 r4 d8
    have sz := wf_siz wf
    have pw8 : (2 : Nat) ^ d ≤ 2 ^ 8 := Nat.pow_le_pow_right (by decide) d8
    have szt : siz t ≤ 2000 := by omega
    -- numbers
    refine ⟨_, rfl, .ref pt, t, rfl, ht, by omega, okt, fun q H4 s4 n4 => ?_⟩
    have ht4 := ht.mono (Tups.of s4)
    -- told
    intro l1 dx1 nl1 nd1 ne1
    refine ⟨l1, dx1, rfl, upd_same, fun a1 b1 c1 H5 kp1 _ _ _ L1 => ⟨rfl, ?_⟩⟩
    have s5 := own_same nl1 nd1 kp1
    refine ⟨_, rfl, l1, a1, b1, c1, .ref pt, t, rfl, L1, ht4.mono (Tups.of s5), by omega, by omega, ok2, fun z H6 s6 t6 => ?_⟩
    have n6 := n4.mono (Tups.of (s5.trans s6))
    have ht6 := ht4.mono (Tups.of (s5.trans s6))
    obtain ⟨dz, hz⟩ := id t6
    -- told.triple() != numbers[:3] or (..) != numbers[:3]
    refine ⟨_, rfl, z, dz, _, rfl, hz, lk_no _ (by decide +kernel) (by decide +kernel) (by decide +kernel), z, tal t, rfl, t6, fun t1 H7 s7 e7 => ?_⟩
    have n7 := n6.mono (Tups.of s7)
    refine ⟨_, rfl, _, rfl, q, _, rfl, SqT.of n7, by show ¬ (HT.sIx 4 0 none = 0 ∧ HT.sIx 4 4 (some 3) = 4); decide, fun t2 nt2 => ?_⟩
    have s8 := same_new nt2 (.tup (cutV [V.int (tal t).p, V.int (tal t).r, V.int (tal t).l, V.int (gr t)] none (some 3)))
    refine ⟨_, _, tup3_dp (s8 _ _ e7), tup3_dp (by exact upd_same), tup3_shaped _ _ _, tup3_shaped _ _ _, false, by rw [tup3_eqv]; rfl, ?_⟩
    refine iteF ?_
    have s68 := s7.trans s8
    have hz8 := s68 _ _ hz
    refine ⟨_, rfl, z, C, dz, _, _, rfl, hz8, TT.cl, TT.nP, lk_p _, _, rfl, z, C, dz, _, _, rfl, hz8, TT.cl, TT.nR, lk_r _, _, rfl, z, C, dz, _, _, rfl, hz8, TT.cl, TT.nL, lk_l _, small8 (by show 3 ≤ 8; decide), fun t3 nt3 => ?_⟩
    have s9 := same_new nt3 (.tup [V.int (tal t).p, V.int (tal t).r, V.int (tal t).l])
    have n9 := n7.mono (Tups.of (s8.trans s9))
    refine ⟨_, rfl, _, rfl, q, _, rfl, SqT.of n9, by show ¬ (HT.sIx 4 0 none = 0 ∧ HT.sIx 4 4 (some 3) = 4); decide, fun t4 nt4 => ?_⟩
    have s10 := same_new nt4 (.tup (cutV [V.int (tal t).p, V.int (tal t).r, V.int (tal t).l, V.int (gr t)] none (some 3)))
    refine ⟨_, _, tup3_dp (s10 _ _ upd_same), tup3_dp (by exact upd_same), tup3_shaped _ _ _, tup3_shaped _ _ _, false, by rw [tup3_eqv]; rfl, ?_⟩
    refine iteF ?_
    have s610 := s68.trans (s9.trans s10)
    have hz10 := s610 _ _ hz
    have n10 := n9.mono (Tups.of s10)
    have ht10 := ht6.mono (Tups.of s610)
    generalize L2.upd (L2.upd (L2.upd H7 t2 (.tup (cutV [V.int (tal t).p, V.int (tal t).r, V.int (tal t).l, V.int (gr t)] none (some 3)))) t3 (.tup [V.int (tal t).p, V.int (tal t).r, V.int (tal t).l])) t4 (.tup (cutV [V.int (tal t).p, V.int (tal t).r, V.int (tal t).l, V.int (gr t)] none (some 3))) = H10 at *
    have p10 : PoolAt H10 p := by
      obtain ⟨x1, x2, x3, e⟩ := p3
      exact ⟨x1, x2, x3, s610 _ _ (s6 _ _ (s5 _ _ (s4 _ _ e)))⟩
    -- greatest_play
    intro l2 dx2 nl2 nd2 ne2
    refine ⟨l2, dx2, rfl, upd_same, fun a2 b2 c2 H11 kp2 _ _ _ L2' => ⟨rfl, ?_⟩⟩
    have s11 := own_same nl2 nd2 kp2
    refine ⟨_, rfl, l2, a2, b2, c2, .ref pt, t, rfl, L2', ht10.mono (Tups.of s11), by omega, by omega, ok2, fun H12 s12 => ?_⟩
    have s1012 := s11.trans s12
    have n12 := n10.mono (Tups.of s1012)
    have ht12 := ht10.mono (Tups.of s1012)
    have hz12 := s1012 _ _ hz10
    refine ⟨_, rfl, q, _, _, _, rfl, rfl, SqT.of n12, rfl, rfl, false, by rw [decide_eq_true rfl]; rfl, ?_⟩
    refine iteF ?_
    -- repr
    obtain ⟨D, dD, tx⟩ := wf_text wf rfl r1 r4
    obtain ⟨w1, w2⟩ := wf_load wf r1 r4 d8
    have hun := hr.un
    have hdp := tx.dep
    have hln := tx.len
    have hIn : (!(Builtin.Str.occurrences D.shown "cut" 0 D.shown.length 1).isEmpty) = hasCut t := by
      cases hc : hasCut t with
      | true => exact in_has (tx.has hc)
      | false => exact in_no (tx.no (by rw [hc]; rfl))
    have hLd : decide ((tal t).l > 0) = hasCut t := by
      cases hc : hasCut t with
      | true => exact decide_eq_true (by have := w1 hc; omega)
      | false => exact decide_eq_false (by have := w2 hc; omega)
    refine ⟨_, rfl, pt, D, rfl, dD ht12, tx.show_, tx.nod, ?_, ?_, _, _, rfl, rfl, ?_⟩
    · show (A.deeper (PyProof.Rows.envOfC "law" (defScope sLaw) s.heap.objs.size f cdv)).units + (D.depth + 1) < cLine
      omega
    · exact Nat.le_trans hln (Nat.le_trans (show 400 * siz t ≤ 1000000 by omega) sizeLine_big)
    refine ⟨_, rfl, z, C, dz, _, _, rfl, hz12, TT.cl, TT.nL, lk_l _, _, _, rfl, rfl, rfl, false, by rw [hIn]; show V.bl (!decide (V.bl (hasCut t) = V.bl (decide (0 < (tal t).l)))) = V.bl false; rw [show decide (0 < (tal t).l) = hasCut t from hLd, decide_eq_true rfl]; rfl, ?_⟩
    refine iteF ?_
    -- numbers[0] <= 5000
    have p12 : PoolAt H12 p := by
      obtain ⟨x1, x2, x3, e⟩ := p10
      exact ⟨x1, x2, x3, s1012 _ _ e⟩
    refine ⟨_, rfl, q, _, _, _, rfl, rfl, SqT.of n12, rfl, _, _, rfl, rfl, _, rfl, ?_⟩
    refine ite2 (fun c5 => ?_) (fun _ => ⟨_, _, _, _, _, rfl, p12⟩)
    have c5' : (tal t).p ≤ 5000 := of_decide_eq_true c5
    have lp := plM_len t
    have lp5 : (plM t).length ≤ 5000 := by omega
    have ok3 := ok3_of t ok2 (by omega) lp5 g9
    have ok4 := ok4_of t ok2 (by omega) lp5 g9
    refine ⟨_, rfl, .ref pt, t, rfl, ht12, by omega, ok4, fun F1 ds H13 s13 nF hF rF => ?_⟩
    refine ⟨_, rfl, _, rfl, .ref pt, F1, ds, t, rfl, ht12.mono (Tups.of s13), by omega, by omega, ok3, lp5, hF, rF, fun H14 s14 => ?_⟩
    have s1214 := s13.trans s14
    refine ⟨true, rfl, iteF ?_⟩
    have p14 : PoolAt H14 p := by
      obtain ⟨x1, x2, x3, e⟩ := p12
      exact ⟨x1, x2, x3, s1214 _ _ e⟩
    refine ⟨_, rfl, q, _, _, _, rfl, rfl, SqT.of (n12.mono (Tups.of s1214)), rfl, _, _, rfl, rfl, _, rfl, ?_⟩
    refine ite2 (fun _ => ?_) (fun _ => iteF ⟨_, _, _, _, _, rfl, p14⟩)
    refine ⟨_, rfl, _, rfl, .ref pt, F1, ds, t, rfl, ht12.mono (Tups.of s1214), by omega, by omega, ok3, lp5, s14 _ _ hF, rF, fun H15 s15 => ?_⟩
    refine ⟨true, rfl, iteF ?_⟩
    obtain ⟨x1, x2, x3, e⟩ := p14
    exact ⟨_, _, _, _, _, rfl, x1, x2, x3, s15 _ _ e⟩
  · rintro σ' H2 ⟨kk, tr, nu, to, fo, rfl, p2⟩
    exact rfl
end
end K77

namespace K77
open PySem L2 HL
section
variable {P : Program} {w : World} {K : PySem.W.Frag} {mg : Str → Option Value} {base : Heap} {f fM aP C CL : Addr} {fd fdM : FuncData}
theorem part_all (A : At K mg "_law_part" sPart aPart f fd) (T : Txt mg) (D1 : Def P w K mg base 1 "_law_next" ["pool", "many"] spNext) (D2 : Def P w K mg base 2 "_law_mode" ["pool", "room"] spMode) : ∀ n, FnOk P w K mg base CX0 (n + 2) f fd aPart (spPart n)
  | 0 => no_part
  | n + 1 => ok_part A T (part_all A T D1 D2 n) D1 D2
theorem nums_all (A : At K mg "_law_numbers" sNums ["tree"] f fd) (T : Txt mg) (D1 : Def P w K mg base 1 "_law_boxed" ["one", "mode"] spBoxed) : ∀ n, FnOk P w K mg base CX0 (n + 1) f fd ["tree"] (spNums n)
  | 0 => no_nums
  | n + 1 => ok_nums A T (nums_all A T D1 n) D1
theorem ls_all (A : At K mg "_law_listed" sLs ["tree"] f fd) (T : Txt mg) (D1 : Def P w K mg base 1 "_law_put" ["total", "play", "many"] spPut) : ∀ n, FnOk P w K mg base CX0 (n + 1) f fd ["tree"] (spLs n)
  | 0 => no_ls
  | n + 1 => ok_ls A T (ls_all A T D1 n) D1
theorem gw_all (A : At K mg "greatest_within" sGW ["library", "derivation", "known"] f fd) (T : Txt mg) (D1 : Def P w K mg base 1 "premises" ["derivation"] spPrem) (D2 : Def P w K mg base 1 "boxed_rows" ["rows", "kind"] spBR) : ∀ n, FnOk P w K mg base CX0 (n + 1) f fd ["library", "derivation", "known"] (spGW n)
  | 0 => no_gw
  | n + 1 => ok_gw A T (gw_all A T D1 D2 n) D1 D2
theorem tw_all {f1 f2 f3 f4 : Addr} {fd1 fd2 fd3 fd4 : FuncData} (A : At K mg "tally_within" sTW ["library", "derivation", "known", "ranks"] f fd) (TT : TC2 K mg C)
    (D1 : CDef P w K mg base C 1 "Tally" ["self", "plays", "rows", "load"] (spTInit C)) (D2 : MDef P w K mg base C f1 fd1 3 "__add__" ["self", "other"] (spT2 C T3.add fun _ _ => True)) (D3 : MDef P w K mg base C f2 fd2 3 "__mul__" ["self", "other"] (spT2 C T3.mul fun x y => Sm x ∧ Sm y))
    (D4 : MDef P w K mg base C f3 fd3 3 "taller" ["self", "k"] (spT1 C T3.up fun x n => CMulW n x.p)) (D5 : MDef P w K mg base C f4 fd4 3 "cut" ["self", "factor"] (spT1 C T3.cutf fun x n => CMulW n (x.r - x.p)))
    (D6 : Def P w K mg base 1 "premises" ["derivation"] spPrem) (D7 : Def P w K mg base 1 "copies" ["kind"] spCopies) (D8 : Def P w K mg base 5 "boxed_tally" ["found", "kind"] (spBT C)) (D9 : Def P w K mg base 4 "rank_within" ["library", "sentence", "known"] (spRank CL 2)) :
    ∀ n, FnOk P w K mg base CX0 (n + 5) f fd ["library", "derivation", "known", "ranks"] (spTW C CL n)
  | 0 => no_tw
  | n + 1 => ok_tw A TT (tw_all A TT D1 D2 D3 D4 D5 D6 D7 D8 D9 n) D1 D2 D3 D4 D5 D6 D7 D8 D9
theorem pw_all (A : At K mg "plays_within" sPW ["library", "derivation", "known", "ranks"] f fd) (D1 : Def P w K mg base 1 "premises" ["derivation"] spPrem) (D2 : Def P w K mg base 1 "copies" ["kind"] spCopies) (D3 : Def P w K mg base 1 "longer" ["found", "rows", "load"] spLonger) (D4 : Def P w K mg base 1 "joined" ["first", "second"] spJoined)
    (D5 : Def P w K mg base 2 "boxed_plays" ["found", "kind"] spBP) (D6 : Def P w K mg base 4 "rank_within" ["library", "sentence", "known"] (spRank CL 2)) : ∀ n, FnOk P w K mg base CX0 (n + 4) f fd ["library", "derivation", "known", "ranks"] (spPW CL n)
  | 0 => no_pw
  | n + 1 => ok_pw A (pw_all A D1 D2 D3 D4 D5 D6 n) D1 D2 D3 D4 D5 D6
end
theorem all_mk {P : Program} {w : World} {K : PySem.W.Frag} {h : Heap} {mg : Str → Option Value} {fa C L P0 : Addr} (X : K.In h) (G : h.Ns mainGlobals mg) (hfa : mg "law" = some (.ref fa))
    {esP : Array DictEntry} {nP : Nat} {t_own t_pick t_offer t_cut t_pay : Tok}
    {f_copies : Addr} {oc_copies kV_copies dc_copies pm_copies cd_copies ct_copies : Value} {od_copies an_copies : Option Addr} {sl_copies : Array (Option Value)}
    {f_rank : Addr} {oc_rank kV_rank dc_rank pm_rank cd_rank ct_rank : Value} {od_rank an_rank : Option Addr} {sl_rank : Array (Option Value)}
    {f_wrank : Addr} {oc_wrank kV_wrank dc_wrank pm_wrank cd_wrank ct_wrank : Value} {od_wrank an_wrank : Option Addr} {sl_wrank : Array (Option Value)}
    {f_grank : Addr} {oc_grank kV_grank dc_grank pm_grank cd_grank ct_grank : Value} {od_grank an_grank : Option Addr} {sl_grank : Array (Option Value)}
    {f_prem : Addr} {oc_prem kV_prem dc_prem pm_prem cd_prem ct_prem : Value} {od_prem an_prem : Option Addr} {sl_prem : Array (Option Value)}
    {f_rof : Addr} {oc_rof kV_rof dc_rof pm_rof cd_rof ct_rof : Value} {od_rof an_rof : Option Addr} {sl_rof : Array (Option Value)}
    {f_rkeys : Addr} {oc_rkeys kV_rkeys dc_rkeys pm_rkeys cd_rkeys ct_rkeys : Value} {od_rkeys an_rkeys : Option Addr} {sl_rkeys : Array (Option Value)}
    {f_riders : Addr} {oc_riders kV_riders dc_riders pm_riders cd_riders ct_riders : Value} {od_riders an_riders : Option Addr} {sl_riders : Array (Option Value)}
    {f_bt : Addr} {oc_bt kV_bt dc_bt pm_bt cd_bt ct_bt : Value} {od_bt an_bt : Option Addr} {sl_bt : Array (Option Value)}
    {f_tally : Addr} {oc_tally kV_tally dc_tally pm_tally cd_tally ct_tally : Value} {od_tally an_tally : Option Addr} {sl_tally : Array (Option Value)}
    {f_tw : Addr} {oc_tw kV_tw dc_tw pm_tw cd_tw ct_tw : Value} {od_tw an_tw : Option Addr} {sl_tw : Array (Option Value)}
    {f_br : Addr} {oc_br kV_br dc_br pm_br cd_br ct_br : Value} {od_br an_br : Option Addr} {sl_br : Array (Option Value)}
    {f_gp : Addr} {oc_gp kV_gp dc_gp pm_gp cd_gp ct_gp : Value} {od_gp an_gp : Option Addr} {sl_gp : Array (Option Value)}
    {f_gw : Addr} {oc_gw kV_gw dc_gw pm_gw cd_gw ct_gw : Value} {od_gw an_gw : Option Addr} {sl_gw : Array (Option Value)}
    {f_plays : Addr} {oc_plays kV_plays dc_plays pm_plays cd_plays ct_plays : Value} {od_plays an_plays : Option Addr} {sl_plays : Array (Option Value)}
    {f_longer : Addr} {oc_longer kV_longer dc_longer pm_longer cd_longer ct_longer : Value} {od_longer an_longer : Option Addr} {sl_longer : Array (Option Value)}
    {f_joined : Addr} {oc_joined kV_joined dc_joined pm_joined cd_joined ct_joined : Value} {od_joined an_joined : Option Addr} {sl_joined : Array (Option Value)}
    {f_bp : Addr} {oc_bp kV_bp dc_bp pm_bp cd_bp ct_bp : Value} {od_bp an_bp : Option Addr} {sl_bp : Array (Option Value)}
    {f_pw : Addr} {oc_pw kV_pw dc_pw pm_pw cd_pw ct_pw : Value} {od_pw an_pw : Option Addr} {sl_pw : Array (Option Value)}
    {f_cell : Addr} {oc_cell kV_cell dc_cell pm_cell cd_cell ct_cell : Value} {od_cell an_cell : Option Addr} {sl_cell : Array (Option Value)}
    {f_pool : Addr} {oc_pool kV_pool dc_pool pm_pool cd_pool ct_pool : Value} {od_pool an_pool : Option Addr} {sl_pool : Array (Option Value)}
    {f_next : Addr} {oc_next kV_next dc_next pm_next cd_next ct_next : Value} {od_next an_next : Option Addr} {sl_next : Array (Option Value)}
    {f_mode : Addr} {oc_mode kV_mode dc_mode pm_mode cd_mode ct_mode : Value} {od_mode an_mode : Option Addr} {sl_mode : Array (Option Value)}
    {f_part : Addr} {oc_part kV_part dc_part pm_part cd_part ct_part : Value} {od_part an_part : Option Addr} {sl_part : Array (Option Value)}
    {f_boxed : Addr} {oc_boxed kV_boxed dc_boxed pm_boxed cd_boxed ct_boxed : Value} {od_boxed an_boxed : Option Addr} {sl_boxed : Array (Option Value)}
    {f_nums : Addr} {oc_nums kV_nums dc_nums pm_nums cd_nums ct_nums : Value} {od_nums an_nums : Option Addr} {sl_nums : Array (Option Value)}
    {f_put : Addr} {oc_put kV_put dc_put pm_put cd_put ct_put : Value} {od_put an_put : Option Addr} {sl_put : Array (Option Value)}
    {f_ls : Addr} {oc_ls kV_ls dc_ls pm_ls cd_ls ct_ls : Value} {od_ls an_ls : Option Addr} {sl_ls : Array (Option Value)}
    {f_lp : Addr} {oc_lp kV_lp dc_lp pm_lp cd_lp ct_lp : Value} {od_lp an_lp : Option Addr} {sl_lp : Array (Option Value)}
    {f_drawn : Addr} {oc_drawn kV_drawn dc_drawn pm_drawn cd_drawn ct_drawn : Value} {od_drawn an_drawn : Option Addr} {sl_drawn : Array (Option Value)}
    {f_law : Addr} {oc_law kV_law dc_law pm_law cd_law ct_law : Value} {od_law an_law : Option Addr} {sl_law : Array (Option Value)}
    {f_tinit : Addr} {oc_tinit kV_tinit dc_tinit pm_tinit cd_tinit ct_tinit : Value} {od_tinit an_tinit : Option Addr} {sl_tinit : Array (Option Value)}
    {f_tadd : Addr} {oc_tadd kV_tadd dc_tadd pm_tadd cd_tadd ct_tadd : Value} {od_tadd an_tadd : Option Addr} {sl_tadd : Array (Option Value)}
    {f_tmul : Addr} {oc_tmul kV_tmul dc_tmul pm_tmul cd_tmul ct_tmul : Value} {od_tmul an_tmul : Option Addr} {sl_tmul : Array (Option Value)}
    {f_tcop : Addr} {oc_tcop kV_tcop dc_tcop pm_tcop cd_tcop ct_tcop : Value} {od_tcop an_tcop : Option Addr} {sl_tcop : Array (Option Value)}
    {f_ttal : Addr} {oc_ttal kV_ttal dc_ttal pm_ttal cd_ttal ct_ttal : Value} {od_ttal an_ttal : Option Addr} {sl_ttal : Array (Option Value)}
    {f_tcut : Addr} {oc_tcut kV_tcut dc_tcut pm_tcut cd_tcut ct_tcut : Value} {od_tcut an_tcut : Option Addr} {sl_tcut : Array (Option Value)}
    {f_ttri : Addr} {oc_ttri kV_ttri dc_ttri pm_ttri cd_ttri ct_ttri : Value} {od_ttri an_ttri : Option Addr} {sl_ttri : Array (Option Value)}
    {f_linit : Addr} {oc_linit kV_linit dc_linit pm_linit cd_linit ct_linit : Value} {od_linit an_linit : Option Addr} {sl_linit : Array (Option Value)}
    {f_liter : Addr} {oc_liter kV_liter dc_liter pm_liter cd_liter ct_liter : Value} {od_liter an_liter : Option Addr} {sl_liter : Array (Option Value)}
    {f_lmakes : Addr} {oc_lmakes kV_lmakes dc_lmakes pm_lmakes cd_lmakes ct_lmakes : Value} {od_lmakes an_lmakes : Option Addr} {sl_lmakes : Array (Option Value)}
    {f_lopens : Addr} {oc_lopens kV_lopens dc_lopens pm_lopens cd_lopens ct_lopens : Value} {od_lopens an_lopens : Option Addr} {sl_lopens : Array (Option Value)}
    {f_lnames : Addr} {oc_lnames kV_lnames dc_lnames pm_lnames cd_lnames ct_lnames : Value} {od_lnames an_lnames : Option Addr} {sl_lnames : Array (Option Value)}
    (aC : PySem.W.nsIn K mainGlobals "Tally" = some (some (.ref C)))
    (aL : PySem.W.nsIn K mainGlobals "Library" = some (some (.ref L)))
    (aP : PySem.W.nsIn K mainGlobals "PREMISES" = some (some (.ref P0)))
    (a_copies : PySem.W.nsIn K mainGlobals "copies" = some (some (.ref f_copies)))
    (l_copies : K.lookup f_copies = some ⟨oc_copies, od_copies, .func (PySem.W.fnOf "copies" "copies" (defArgs sCopies) (defBody sCopies) (defScope sCopies) .none kV_copies dc_copies pm_copies an_copies cd_copies ct_copies), sl_copies⟩)
    (c_copies : PySem.W.codeIn K cd_copies "copies" = true)
    (k_copies : PySem.W.keepIn K (.ref f_copies) = true)
    (a_rank : PySem.W.nsIn K mainGlobals "rank_within" = some (some (.ref f_rank)))
    (l_rank : K.lookup f_rank = some ⟨oc_rank, od_rank, .func (PySem.W.fnOf "rank_within" "rank_within" (defArgs sRank) (defBody sRank) (defScope sRank) .none kV_rank dc_rank pm_rank an_rank cd_rank ct_rank), sl_rank⟩)
    (c_rank : PySem.W.codeIn K cd_rank "rank_within" = true)
    (k_rank : PySem.W.keepIn K (.ref f_rank) = true)
    (a_wrank : PySem.W.nsIn K mainGlobals "word_rank" = some (some (.ref f_wrank)))
    (l_wrank : K.lookup f_wrank = some ⟨oc_wrank, od_wrank, .func (PySem.W.fnOf "word_rank" "word_rank" (defArgs sWRank) (defBody sWRank) (defScope sWRank) .none kV_wrank dc_wrank pm_wrank an_wrank cd_wrank ct_wrank), sl_wrank⟩)
    (c_wrank : PySem.W.codeIn K cd_wrank "word_rank" = true)
    (k_wrank : PySem.W.keepIn K (.ref f_wrank) = true)
    (a_grank : PySem.W.nsIn K mainGlobals "greatest_rank" = some (some (.ref f_grank)))
    (l_grank : K.lookup f_grank = some ⟨oc_grank, od_grank, .func (PySem.W.fnOf "greatest_rank" "greatest_rank" (defArgs sGRank) (defBody sGRank) (defScope sGRank) .none kV_grank dc_grank pm_grank an_grank cd_grank ct_grank), sl_grank⟩)
    (c_grank : PySem.W.codeIn K cd_grank "greatest_rank" = true)
    (k_grank : PySem.W.keepIn K (.ref f_grank) = true)
    (a_prem : PySem.W.nsIn K mainGlobals "premises" = some (some (.ref f_prem)))
    (l_prem : K.lookup f_prem = some ⟨oc_prem, od_prem, .func (PySem.W.fnOf "premises" "premises" (defArgs sPrem) (defBody sPrem) (defScope sPrem) .none kV_prem dc_prem pm_prem an_prem cd_prem ct_prem), sl_prem⟩)
    (c_prem : PySem.W.codeIn K cd_prem "premises" = true)
    (k_prem : PySem.W.keepIn K (.ref f_prem) = true)
    (a_rof : PySem.W.nsIn K mainGlobals "riders_of" = some (some (.ref f_rof)))
    (l_rof : K.lookup f_rof = some ⟨oc_rof, od_rof, .func (PySem.W.fnOf "riders_of" "riders_of" (defArgs sROf) (defBody sROf) (defScope sROf) .none kV_rof dc_rof pm_rof an_rof cd_rof ct_rof), sl_rof⟩)
    (c_rof : PySem.W.codeIn K cd_rof "riders_of" = true)
    (k_rof : PySem.W.keepIn K (.ref f_rof) = true)
    (a_rkeys : PySem.W.nsIn K mainGlobals "rider_keys" = some (some (.ref f_rkeys)))
    (l_rkeys : K.lookup f_rkeys = some ⟨oc_rkeys, od_rkeys, .func (PySem.W.fnOf "rider_keys" "rider_keys" (defArgs sRKeys) (defBody sRKeys) (defScope sRKeys) .none kV_rkeys dc_rkeys pm_rkeys an_rkeys cd_rkeys ct_rkeys), sl_rkeys⟩)
    (c_rkeys : PySem.W.codeIn K cd_rkeys "rider_keys" = true)
    (k_rkeys : PySem.W.keepIn K (.ref f_rkeys) = true)
    (a_riders : PySem.W.nsIn K mainGlobals "riders" = some (some (.ref f_riders)))
    (l_riders : K.lookup f_riders = some ⟨oc_riders, od_riders, .func (PySem.W.fnOf "riders" "riders" (defArgs sRiders) (defBody sRiders) (defScope sRiders) .none kV_riders dc_riders pm_riders an_riders cd_riders ct_riders), sl_riders⟩)
    (c_riders : PySem.W.codeIn K cd_riders "riders" = true)
    (k_riders : PySem.W.keepIn K (.ref f_riders) = true)
    (a_bt : PySem.W.nsIn K mainGlobals "boxed_tally" = some (some (.ref f_bt)))
    (l_bt : K.lookup f_bt = some ⟨oc_bt, od_bt, .func (PySem.W.fnOf "boxed_tally" "boxed_tally" (defArgs sBT) (defBody sBT) (defScope sBT) .none kV_bt dc_bt pm_bt an_bt cd_bt ct_bt), sl_bt⟩)
    (c_bt : PySem.W.codeIn K cd_bt "boxed_tally" = true)
    (k_bt : PySem.W.keepIn K (.ref f_bt) = true)
    (a_tally : PySem.W.nsIn K mainGlobals "tally" = some (some (.ref f_tally)))
    (l_tally : K.lookup f_tally = some ⟨oc_tally, od_tally, .func (PySem.W.fnOf "tally" "tally" (defArgs sTally) (defBody sTally) (defScope sTally) .none kV_tally dc_tally pm_tally an_tally cd_tally ct_tally), sl_tally⟩)
    (c_tally : PySem.W.codeIn K cd_tally "tally" = true)
    (k_tally : PySem.W.keepIn K (.ref f_tally) = true)
    (a_tw : PySem.W.nsIn K mainGlobals "tally_within" = some (some (.ref f_tw)))
    (l_tw : K.lookup f_tw = some ⟨oc_tw, od_tw, .func (PySem.W.fnOf "tally_within" "tally_within" (defArgs sTW) (defBody sTW) (defScope sTW) .none kV_tw dc_tw pm_tw an_tw cd_tw ct_tw), sl_tw⟩)
    (c_tw : PySem.W.codeIn K cd_tw "tally_within" = true)
    (k_tw : PySem.W.keepIn K (.ref f_tw) = true)
    (a_br : PySem.W.nsIn K mainGlobals "boxed_rows" = some (some (.ref f_br)))
    (l_br : K.lookup f_br = some ⟨oc_br, od_br, .func (PySem.W.fnOf "boxed_rows" "boxed_rows" (defArgs sBR) (defBody sBR) (defScope sBR) .none kV_br dc_br pm_br an_br cd_br ct_br), sl_br⟩)
    (c_br : PySem.W.codeIn K cd_br "boxed_rows" = true)
    (k_br : PySem.W.keepIn K (.ref f_br) = true)
    (a_gp : PySem.W.nsIn K mainGlobals "greatest_play" = some (some (.ref f_gp)))
    (l_gp : K.lookup f_gp = some ⟨oc_gp, od_gp, .func (PySem.W.fnOf "greatest_play" "greatest_play" (defArgs sGP) (defBody sGP) (defScope sGP) .none kV_gp dc_gp pm_gp an_gp cd_gp ct_gp), sl_gp⟩)
    (c_gp : PySem.W.codeIn K cd_gp "greatest_play" = true)
    (k_gp : PySem.W.keepIn K (.ref f_gp) = true)
    (a_gw : PySem.W.nsIn K mainGlobals "greatest_within" = some (some (.ref f_gw)))
    (l_gw : K.lookup f_gw = some ⟨oc_gw, od_gw, .func (PySem.W.fnOf "greatest_within" "greatest_within" (defArgs sGW) (defBody sGW) (defScope sGW) .none kV_gw dc_gw pm_gw an_gw cd_gw ct_gw), sl_gw⟩)
    (c_gw : PySem.W.codeIn K cd_gw "greatest_within" = true)
    (k_gw : PySem.W.keepIn K (.ref f_gw) = true)
    (a_plays : PySem.W.nsIn K mainGlobals "plays" = some (some (.ref f_plays)))
    (l_plays : K.lookup f_plays = some ⟨oc_plays, od_plays, .func (PySem.W.fnOf "plays" "plays" (defArgs sPlays) (defBody sPlays) (defScope sPlays) .none kV_plays dc_plays pm_plays an_plays cd_plays ct_plays), sl_plays⟩)
    (c_plays : PySem.W.codeIn K cd_plays "plays" = true)
    (k_plays : PySem.W.keepIn K (.ref f_plays) = true)
    (a_longer : PySem.W.nsIn K mainGlobals "longer" = some (some (.ref f_longer)))
    (l_longer : K.lookup f_longer = some ⟨oc_longer, od_longer, .func (PySem.W.fnOf "longer" "longer" (defArgs sLonger) (defBody sLonger) (defScope sLonger) .none kV_longer dc_longer pm_longer an_longer cd_longer ct_longer), sl_longer⟩)
    (c_longer : PySem.W.codeIn K cd_longer "longer" = true)
    (k_longer : PySem.W.keepIn K (.ref f_longer) = true)
    (a_joined : PySem.W.nsIn K mainGlobals "joined" = some (some (.ref f_joined)))
    (l_joined : K.lookup f_joined = some ⟨oc_joined, od_joined, .func (PySem.W.fnOf "joined" "joined" (defArgs sJoined) (defBody sJoined) (defScope sJoined) .none kV_joined dc_joined pm_joined an_joined cd_joined ct_joined), sl_joined⟩)
    (c_joined : PySem.W.codeIn K cd_joined "joined" = true)
    (k_joined : PySem.W.keepIn K (.ref f_joined) = true)
    (a_bp : PySem.W.nsIn K mainGlobals "boxed_plays" = some (some (.ref f_bp)))
    (l_bp : K.lookup f_bp = some ⟨oc_bp, od_bp, .func (PySem.W.fnOf "boxed_plays" "boxed_plays" (defArgs sBP) (defBody sBP) (defScope sBP) .none kV_bp dc_bp pm_bp an_bp cd_bp ct_bp), sl_bp⟩)
    (c_bp : PySem.W.codeIn K cd_bp "boxed_plays" = true)
    (k_bp : PySem.W.keepIn K (.ref f_bp) = true)
    (a_pw : PySem.W.nsIn K mainGlobals "plays_within" = some (some (.ref f_pw)))
    (l_pw : K.lookup f_pw = some ⟨oc_pw, od_pw, .func (PySem.W.fnOf "plays_within" "plays_within" (defArgs sPW) (defBody sPW) (defScope sPW) .none kV_pw dc_pw pm_pw an_pw cd_pw ct_pw), sl_pw⟩)
    (c_pw : PySem.W.codeIn K cd_pw "plays_within" = true)
    (k_pw : PySem.W.keepIn K (.ref f_pw) = true)
    (a_cell : PySem.W.nsIn K mainGlobals "_law_cell" = some (some (.ref f_cell)))
    (l_cell : K.lookup f_cell = some ⟨oc_cell, od_cell, .func (PySem.W.fnOf "_law_cell" "_law_cell" (defArgs sCell) (defBody sCell) (defScope sCell) .none kV_cell dc_cell pm_cell an_cell cd_cell ct_cell), sl_cell⟩)
    (c_cell : PySem.W.codeIn K cd_cell "_law_cell" = true)
    (k_cell : PySem.W.keepIn K (.ref f_cell) = true)
    (a_pool : PySem.W.nsIn K mainGlobals "_law_pool" = some (some (.ref f_pool)))
    (l_pool : K.lookup f_pool = some ⟨oc_pool, od_pool, .func (PySem.W.fnOf "_law_pool" "_law_pool" (defArgs sPool) (defBody sPool) (defScope sPool) .none kV_pool dc_pool pm_pool an_pool cd_pool ct_pool), sl_pool⟩)
    (c_pool : PySem.W.codeIn K cd_pool "_law_pool" = true)
    (k_pool : PySem.W.keepIn K (.ref f_pool) = true)
    (a_next : PySem.W.nsIn K mainGlobals "_law_next" = some (some (.ref f_next)))
    (l_next : K.lookup f_next = some ⟨oc_next, od_next, .func (PySem.W.fnOf "_law_next" "_law_next" (defArgs sNext) (defBody sNext) (defScope sNext) .none kV_next dc_next pm_next an_next cd_next ct_next), sl_next⟩)
    (c_next : PySem.W.codeIn K cd_next "_law_next" = true)
    (k_next : PySem.W.keepIn K (.ref f_next) = true)
    (a_mode : PySem.W.nsIn K mainGlobals "_law_mode" = some (some (.ref f_mode)))
    (l_mode : K.lookup f_mode = some ⟨oc_mode, od_mode, .func (PySem.W.fnOf "_law_mode" "_law_mode" (defArgs sMode) (defBody sMode) (defScope sMode) .none kV_mode dc_mode pm_mode an_mode cd_mode ct_mode), sl_mode⟩)
    (c_mode : PySem.W.codeIn K cd_mode "_law_mode" = true)
    (k_mode : PySem.W.keepIn K (.ref f_mode) = true)
    (a_part : PySem.W.nsIn K mainGlobals "_law_part" = some (some (.ref f_part)))
    (l_part : K.lookup f_part = some ⟨oc_part, od_part, .func (PySem.W.fnOf "_law_part" "_law_part" (defArgs sPart) (defBody sPart) (defScope sPart) .none kV_part dc_part pm_part an_part cd_part ct_part), sl_part⟩)
    (c_part : PySem.W.codeIn K cd_part "_law_part" = true)
    (k_part : PySem.W.keepIn K (.ref f_part) = true)
    (a_boxed : PySem.W.nsIn K mainGlobals "_law_boxed" = some (some (.ref f_boxed)))
    (l_boxed : K.lookup f_boxed = some ⟨oc_boxed, od_boxed, .func (PySem.W.fnOf "_law_boxed" "_law_boxed" (defArgs sBoxed) (defBody sBoxed) (defScope sBoxed) .none kV_boxed dc_boxed pm_boxed an_boxed cd_boxed ct_boxed), sl_boxed⟩)
    (c_boxed : PySem.W.codeIn K cd_boxed "_law_boxed" = true)
    (k_boxed : PySem.W.keepIn K (.ref f_boxed) = true)
    (a_nums : PySem.W.nsIn K mainGlobals "_law_numbers" = some (some (.ref f_nums)))
    (l_nums : K.lookup f_nums = some ⟨oc_nums, od_nums, .func (PySem.W.fnOf "_law_numbers" "_law_numbers" (defArgs sNums) (defBody sNums) (defScope sNums) .none kV_nums dc_nums pm_nums an_nums cd_nums ct_nums), sl_nums⟩)
    (c_nums : PySem.W.codeIn K cd_nums "_law_numbers" = true)
    (k_nums : PySem.W.keepIn K (.ref f_nums) = true)
    (a_put : PySem.W.nsIn K mainGlobals "_law_put" = some (some (.ref f_put)))
    (l_put : K.lookup f_put = some ⟨oc_put, od_put, .func (PySem.W.fnOf "_law_put" "_law_put" (defArgs sPut) (defBody sPut) (defScope sPut) .none kV_put dc_put pm_put an_put cd_put ct_put), sl_put⟩)
    (c_put : PySem.W.codeIn K cd_put "_law_put" = true)
    (k_put : PySem.W.keepIn K (.ref f_put) = true)
    (a_ls : PySem.W.nsIn K mainGlobals "_law_listed" = some (some (.ref f_ls)))
    (l_ls : K.lookup f_ls = some ⟨oc_ls, od_ls, .func (PySem.W.fnOf "_law_listed" "_law_listed" (defArgs sLs) (defBody sLs) (defScope sLs) .none kV_ls dc_ls pm_ls an_ls cd_ls ct_ls), sl_ls⟩)
    (c_ls : PySem.W.codeIn K cd_ls "_law_listed" = true)
    (k_ls : PySem.W.keepIn K (.ref f_ls) = true)
    (a_lp : PySem.W.nsIn K mainGlobals "_law_plays" = some (some (.ref f_lp)))
    (l_lp : K.lookup f_lp = some ⟨oc_lp, od_lp, .func (PySem.W.fnOf "_law_plays" "_law_plays" (defArgs sLP) (defBody sLP) (defScope sLP) .none kV_lp dc_lp pm_lp an_lp cd_lp ct_lp), sl_lp⟩)
    (c_lp : PySem.W.codeIn K cd_lp "_law_plays" = true)
    (k_lp : PySem.W.keepIn K (.ref f_lp) = true)
    (a_drawn : PySem.W.nsIn K mainGlobals "_law_drawn" = some (some (.ref f_drawn)))
    (l_drawn : K.lookup f_drawn = some ⟨oc_drawn, od_drawn, .func (PySem.W.fnOf "_law_drawn" "_law_drawn" (defArgs sDr) (defBody sDr) (defScope sDr) .none kV_drawn dc_drawn pm_drawn an_drawn cd_drawn ct_drawn), sl_drawn⟩)
    (c_drawn : PySem.W.codeIn K cd_drawn "_law_drawn" = true)
    (k_drawn : PySem.W.keepIn K (.ref f_drawn) = true)
    (a_law : PySem.W.nsIn K mainGlobals "law" = some (some (.ref f_law)))
    (l_law : K.lookup f_law = some ⟨oc_law, od_law, .func (PySem.W.fnOf "law" "law" (defArgs sLaw) (defBody sLaw) (defScope sLaw) .none kV_law dc_law pm_law an_law cd_law ct_law), sl_law⟩)
    (c_law : PySem.W.codeIn K cd_law "law" = true)
    (k_law : PySem.W.keepIn K (.ref f_law) = true)
    (a_tinit : PySem.W.findIn K (.ref C) "__init__" = some (some (.ref f_tinit)))
    (i_tinit : PySem.W.isFn K (.ref f_tinit) = true)
    (l_tinit : K.lookup f_tinit = some ⟨oc_tinit, od_tinit, .func (PySem.W.fnOf "__init__" "Tally.__init__" (defArgs sTInit) (defBody sTInit) (defScope sTInit) .none kV_tinit dc_tinit pm_tinit an_tinit cd_tinit ct_tinit), sl_tinit⟩)
    (c_tinit : PySem.W.codeIn K cd_tinit "Tally.__init__" = true)
    (k_tinit : PySem.W.keepIn K (.ref f_tinit) = true)
    (a_tadd : PySem.W.findIn K (.ref C) "__add__" = some (some (.ref f_tadd)))
    (i_tadd : PySem.W.isFn K (.ref f_tadd) = true)
    (l_tadd : K.lookup f_tadd = some ⟨oc_tadd, od_tadd, .func (PySem.W.fnOf "__add__" "Tally.__add__" (defArgs sTAdd) (defBody sTAdd) (defScope sTAdd) .none kV_tadd dc_tadd pm_tadd an_tadd cd_tadd ct_tadd), sl_tadd⟩)
    (c_tadd : PySem.W.codeIn K cd_tadd "Tally.__add__" = true)
    (k_tadd : PySem.W.keepIn K (.ref f_tadd) = true)
    (a_tmul : PySem.W.findIn K (.ref C) "__mul__" = some (some (.ref f_tmul)))
    (i_tmul : PySem.W.isFn K (.ref f_tmul) = true)
    (l_tmul : K.lookup f_tmul = some ⟨oc_tmul, od_tmul, .func (PySem.W.fnOf "__mul__" "Tally.__mul__" (defArgs sTMul) (defBody sTMul) (defScope sTMul) .none kV_tmul dc_tmul pm_tmul an_tmul cd_tmul ct_tmul), sl_tmul⟩)
    (c_tmul : PySem.W.codeIn K cd_tmul "Tally.__mul__" = true)
    (k_tmul : PySem.W.keepIn K (.ref f_tmul) = true)
    (a_tcop : PySem.W.findIn K (.ref C) "copied" = some (some (.ref f_tcop)))
    (i_tcop : PySem.W.isFn K (.ref f_tcop) = true)
    (l_tcop : K.lookup f_tcop = some ⟨oc_tcop, od_tcop, .func (PySem.W.fnOf "copied" "Tally.copied" (defArgs sTCopied) (defBody sTCopied) (defScope sTCopied) .none kV_tcop dc_tcop pm_tcop an_tcop cd_tcop ct_tcop), sl_tcop⟩)
    (c_tcop : PySem.W.codeIn K cd_tcop "Tally.copied" = true)
    (k_tcop : PySem.W.keepIn K (.ref f_tcop) = true)
    (a_ttal : PySem.W.findIn K (.ref C) "taller" = some (some (.ref f_ttal)))
    (i_ttal : PySem.W.isFn K (.ref f_ttal) = true)
    (l_ttal : K.lookup f_ttal = some ⟨oc_ttal, od_ttal, .func (PySem.W.fnOf "taller" "Tally.taller" (defArgs sTTaller) (defBody sTTaller) (defScope sTTaller) .none kV_ttal dc_ttal pm_ttal an_ttal cd_ttal ct_ttal), sl_ttal⟩)
    (c_ttal : PySem.W.codeIn K cd_ttal "Tally.taller" = true)
    (k_ttal : PySem.W.keepIn K (.ref f_ttal) = true)
    (a_tcut : PySem.W.findIn K (.ref C) "cut" = some (some (.ref f_tcut)))
    (i_tcut : PySem.W.isFn K (.ref f_tcut) = true)
    (l_tcut : K.lookup f_tcut = some ⟨oc_tcut, od_tcut, .func (PySem.W.fnOf "cut" "Tally.cut" (defArgs sTCut) (defBody sTCut) (defScope sTCut) .none kV_tcut dc_tcut pm_tcut an_tcut cd_tcut ct_tcut), sl_tcut⟩)
    (c_tcut : PySem.W.codeIn K cd_tcut "Tally.cut" = true)
    (k_tcut : PySem.W.keepIn K (.ref f_tcut) = true)
    (a_ttri : PySem.W.findIn K (.ref C) "triple" = some (some (.ref f_ttri)))
    (i_ttri : PySem.W.isFn K (.ref f_ttri) = true)
    (l_ttri : K.lookup f_ttri = some ⟨oc_ttri, od_ttri, .func (PySem.W.fnOf "triple" "Tally.triple" (defArgs sTTriple) (defBody sTTriple) (defScope sTTriple) .none kV_ttri dc_ttri pm_ttri an_ttri cd_ttri ct_ttri), sl_ttri⟩)
    (c_ttri : PySem.W.codeIn K cd_ttri "Tally.triple" = true)
    (k_ttri : PySem.W.keepIn K (.ref f_ttri) = true)
    (a_linit : PySem.W.findIn K (.ref L) "__init__" = some (some (.ref f_linit)))
    (i_linit : PySem.W.isFn K (.ref f_linit) = true)
    (l_linit : K.lookup f_linit = some ⟨oc_linit, od_linit, .func (PySem.W.fnOf "__init__" "Library.__init__" (defArgs sLInit) (defBody sLInit) (defScope sLInit) .none kV_linit dc_linit pm_linit an_linit cd_linit ct_linit), sl_linit⟩)
    (c_linit : PySem.W.codeIn K cd_linit "Library.__init__" = true)
    (k_linit : PySem.W.keepIn K (.ref f_linit) = true)
    (a_liter : PySem.W.findIn K (.ref L) "__iter__" = some (some (.ref f_liter)))
    (i_liter : PySem.W.isFn K (.ref f_liter) = true)
    (l_liter : K.lookup f_liter = some ⟨oc_liter, od_liter, .func (PySem.W.fnOf "__iter__" "Library.__iter__" (defArgs sLIter) (defBody sLIter) (defScope sLIter) .none kV_liter dc_liter pm_liter an_liter cd_liter ct_liter), sl_liter⟩)
    (c_liter : PySem.W.codeIn K cd_liter "Library.__iter__" = true)
    (k_liter : PySem.W.keepIn K (.ref f_liter) = true)
    (a_lmakes : PySem.W.findIn K (.ref L) "makes_of" = some (some (.ref f_lmakes)))
    (i_lmakes : PySem.W.isFn K (.ref f_lmakes) = true)
    (l_lmakes : K.lookup f_lmakes = some ⟨oc_lmakes, od_lmakes, .func (PySem.W.fnOf "makes_of" "Library.makes_of" (defArgs sMakes) (defBody sMakes) (defScope sMakes) .none kV_lmakes dc_lmakes pm_lmakes an_lmakes cd_lmakes ct_lmakes), sl_lmakes⟩)
    (c_lmakes : PySem.W.codeIn K cd_lmakes "Library.makes_of" = true)
    (k_lmakes : PySem.W.keepIn K (.ref f_lmakes) = true)
    (a_lopens : PySem.W.findIn K (.ref L) "opens_of" = some (some (.ref f_lopens)))
    (i_lopens : PySem.W.isFn K (.ref f_lopens) = true)
    (l_lopens : K.lookup f_lopens = some ⟨oc_lopens, od_lopens, .func (PySem.W.fnOf "opens_of" "Library.opens_of" (defArgs sOpens) (defBody sOpens) (defScope sOpens) .none kV_lopens dc_lopens pm_lopens an_lopens cd_lopens ct_lopens), sl_lopens⟩)
    (c_lopens : PySem.W.codeIn K cd_lopens "Library.opens_of" = true)
    (k_lopens : PySem.W.keepIn K (.ref f_lopens) = true)
    (a_lnames : PySem.W.findIn K (.ref L) "entry_names" = some (some (.ref f_lnames)))
    (i_lnames : PySem.W.isFn K (.ref f_lnames) = true)
    (l_lnames : K.lookup f_lnames = some ⟨oc_lnames, od_lnames, .func (PySem.W.fnOf "entry_names" "Library.entry_names" (defArgs sENames) (defBody sENames) (defScope sENames) .none kV_lnames dc_lnames pm_lnames an_lnames cd_lnames ct_lnames), sl_lnames⟩)
    (c_lnames : PySem.W.codeIn K cd_lnames "Library.entry_names" = true)
    (k_lnames : PySem.W.keepIn K (.ref f_lnames) = true)
    (pgC : PySem.W.plainGet K C Str.empty = true)
    (hdC : PySem.W.hasDictIn K C = true)
    (poC : PySem.W.plainOver K C = true)
    (saC : PySem.W.findIn K (.ref C) "__setattr__" = some (some (.builtin "object.__setattr__")))
    (mkC : PySem.W.makesIn K C = true)
    (kcC : PySem.W.keepIn K (.ref C) = true)
    (pgL : PySem.W.plainGet K L Str.empty = true)
    (hdL : PySem.W.hasDictIn K L = true)
    (poL : PySem.W.plainOver K L = true)
    (saL : PySem.W.findIn K (.ref L) "__setattr__" = some (some (.builtin "object.__setattr__")))
    (mkL : PySem.W.makesIn K L = true)
    (kcL : PySem.W.keepIn K (.ref L) = true)
    (nC_plays : PySem.W.findIn K (.ref C) "plays" = some none)
    (nC_rows : PySem.W.findIn K (.ref C) "rows" = some none)
    (nC_load : PySem.W.findIn K (.ref C) "load" = some none)
    (nL_changes : PySem.W.findIn K (.ref L) "changes" = some none)
    (nL__words : PySem.W.findIn K (.ref L) "_words" = some none)
    (nL__meetings : PySem.W.findIn K (.ref L) "_meetings" = some none)
    (nL__entries : PySem.W.findIn K (.ref L) "_entries" = some none)
    (sfC : PySem.W.selfFirst K C = true)
    (z_len : PySem.W.nsIn K mainGlobals "len" = some none)
    (z_abs : PySem.W.nsIn K mainGlobals "abs" = some none)
    (z_int : PySem.W.nsIn K mainGlobals "int" = some none)
    (z_min : PySem.W.nsIn K mainGlobals "min" = some none)
    (z_str : PySem.W.nsIn K mainGlobals "str" = some none)
    (z_range : PySem.W.nsIn K mainGlobals "range" = some none)
    (z_max : PySem.W.nsIn K mainGlobals "max" = some none)
    (z_list : PySem.W.nsIn K mainGlobals "list" = some none)
    (z_tuple : PySem.W.nsIn K mainGlobals "tuple" = some none)
    (z_dict : PySem.W.nsIn K mainGlobals "dict" = some none)
    (z_iter : PySem.W.nsIn K mainGlobals "iter" = some none)
    (z_repr : PySem.W.nsIn K mainGlobals "repr" = some none)
    (z_isinstance : PySem.W.nsIn K mainGlobals "isinstance" = some none)
    (lP : K.lookup P0 = some ⟨.type "dict", none, .dict esP nP, #[]⟩)
    (kP : PySem.W.KeysLit w.params esP.toList)
    (q_own : PySem.W.nsIn K P0 "own" = some (some (.int 0 t_own)))
    (q_pick : PySem.W.nsIn K P0 "pick" = some (some (.int 1 t_pick)))
    (q_offer : PySem.W.nsIn K P0 "offer" = some (some (.int 2 t_offer)))
    (q_cut : PySem.W.nsIn K P0 "cut" = some (some (.int 2 t_cut)))
    (q_pay : PySem.W.nsIn K P0 "pay" = some (some (.int 2 t_pay)))
    : ∃ fd : FuncData, Fun K "law" "law" sLaw fa fd ∧ (∀ (s : Shared) (u : Value), BindsTo s fd ⟨[u], []⟩ [("script", u)]) ∧
        ∀ base : Heap, K.In base → base.Ns mainGlobals mg → ∀ (s : Shared) (H : Hp) (a : Addr) (ns : List Int), ns.length ≤ 63 → Only H → SqL K H a (ns.map V.int) → ∀ cdv : Value, Room 40 (callerA.deeper (PyProof.Rows.envOfC "law" (defScope sLaw) s.heap.objs.size fa cdv)) →
          ∃ t, PSs (cxOf CX0 P w K mg base nLaw "law" (defScope sLaw) fa cdv callerA [] s H E0).nox (defBody sLaw) t ∧ t { nx := fun _ _ => V.non = .bl true, rt := fun v _ => v = .bl true } (start nLaw [.ref a]) H := by
  have e := hfa.symm.trans (PySem.W.mg_of X G a_law)
  cases e
  have F_copies := fun_mk (st := sCopies) l_copies c_copies k_copies
  have A_copies : At K mg "copies" sCopies ["kind"] f_copies _ := ⟨F_copies, F_copies.binds (ps := ["kind"]) fun _ _ _ _ _ _ us hl => match us, hl with | [_], _ => rfl, PySem.W.mg_of X G a_copies⟩
  have F_rank := fun_mk (st := sRank) l_rank c_rank k_rank
  have A_rank : At K mg "rank_within" sRank ["library", "sentence", "known"] f_rank _ := ⟨F_rank, F_rank.binds (ps := ["library", "sentence", "known"]) fun _ _ _ _ _ _ us hl => match us, hl with | [_, _, _], _ => rfl, PySem.W.mg_of X G a_rank⟩
  have F_wrank := fun_mk (st := sWRank) l_wrank c_wrank k_wrank
  have A_wrank : At K mg "word_rank" sWRank ["library", "name", "known"] f_wrank _ := ⟨F_wrank, F_wrank.binds (ps := ["library", "name", "known"]) fun _ _ _ _ _ _ us hl => match us, hl with | [_, _, _], _ => rfl, PySem.W.mg_of X G a_wrank⟩
  have F_grank := fun_mk (st := sGRank) l_grank c_grank k_grank
  have A_grank : At K mg "greatest_rank" sGRank ["library", "sentences", "known"] f_grank _ := ⟨F_grank, F_grank.binds (ps := ["library", "sentences", "known"]) fun _ _ _ _ _ _ us hl => match us, hl with | [_, _, _], _ => rfl, PySem.W.mg_of X G a_grank⟩
  have F_prem := fun_mk (st := sPrem) l_prem c_prem k_prem
  have A_prem : At K mg "premises" sPrem ["derivation"] f_prem _ := ⟨F_prem, F_prem.binds (ps := ["derivation"]) fun _ _ _ _ _ _ us hl => match us, hl with | [_], _ => rfl, PySem.W.mg_of X G a_prem⟩
  have F_rof := fun_mk (st := sROf) l_rof c_rof k_rof
  have A_rof : At K mg "riders_of" sROf ["library", "row"] f_rof _ := ⟨F_rof, F_rof.binds (ps := ["library", "row"]) fun _ _ _ _ _ _ us hl => match us, hl with | [_, _], _ => rfl, PySem.W.mg_of X G a_rof⟩
  have F_rkeys := fun_mk (st := sRKeys) l_rkeys c_rkeys k_rkeys
  have A_rkeys : At K mg "rider_keys" sRKeys ["library"] f_rkeys _ := ⟨F_rkeys, F_rkeys.binds (ps := ["library"]) fun _ _ _ _ _ _ us hl => match us, hl with | [_], _ => rfl, PySem.W.mg_of X G a_rkeys⟩
  have F_riders := fun_mk (st := sRiders) l_riders c_riders k_riders
  have A_riders : At K mg "riders" sRiders ["library", "derivation"] f_riders _ := ⟨F_riders, F_riders.binds (ps := ["library", "derivation"]) fun _ _ _ _ _ _ us hl => match us, hl with | [_, _], _ => rfl, PySem.W.mg_of X G a_riders⟩
  have F_bt := fun_mk (st := sBT) l_bt c_bt k_bt
  have A_bt : At K mg "boxed_tally" sBT ["found", "kind"] f_bt _ := ⟨F_bt, F_bt.binds (ps := ["found", "kind"]) fun _ _ _ _ _ _ us hl => match us, hl with | [_, _], _ => rfl, PySem.W.mg_of X G a_bt⟩
  have F_tally := fun_mk (st := sTally) l_tally c_tally k_tally
  have A_tally : At K mg "tally" sTally ["library", "derivation"] f_tally _ := ⟨F_tally, F_tally.binds (ps := ["library", "derivation"]) fun _ _ _ _ _ _ us hl => match us, hl with | [_, _], _ => rfl, PySem.W.mg_of X G a_tally⟩
  have F_tw := fun_mk (st := sTW) l_tw c_tw k_tw
  have A_tw : At K mg "tally_within" sTW ["library", "derivation", "known", "ranks"] f_tw _ := ⟨F_tw, F_tw.binds (ps := ["library", "derivation", "known", "ranks"]) fun _ _ _ _ _ _ us hl => match us, hl with | [_, _, _, _], _ => rfl, PySem.W.mg_of X G a_tw⟩
  have F_br := fun_mk (st := sBR) l_br c_br k_br
  have A_br : At K mg "boxed_rows" sBR ["rows", "kind"] f_br _ := ⟨F_br, F_br.binds (ps := ["rows", "kind"]) fun _ _ _ _ _ _ us hl => match us, hl with | [_, _], _ => rfl, PySem.W.mg_of X G a_br⟩
  have F_gp := fun_mk (st := sGP) l_gp c_gp k_gp
  have A_gp : At K mg "greatest_play" sGP ["library", "derivation"] f_gp _ := ⟨F_gp, F_gp.binds (ps := ["library", "derivation"]) fun _ _ _ _ _ _ us hl => match us, hl with | [_, _], _ => rfl, PySem.W.mg_of X G a_gp⟩
  have F_gw := fun_mk (st := sGW) l_gw c_gw k_gw
  have A_gw : At K mg "greatest_within" sGW ["library", "derivation", "known"] f_gw _ := ⟨F_gw, F_gw.binds (ps := ["library", "derivation", "known"]) fun _ _ _ _ _ _ us hl => match us, hl with | [_, _, _], _ => rfl, PySem.W.mg_of X G a_gw⟩
  have F_plays := fun_mk (st := sPlays) l_plays c_plays k_plays
  have A_plays : At K mg "plays" sPlays ["library", "derivation"] f_plays _ := ⟨F_plays, F_plays.binds (ps := ["library", "derivation"]) fun _ _ _ _ _ _ us hl => match us, hl with | [_, _], _ => rfl, PySem.W.mg_of X G a_plays⟩
  have F_longer := fun_mk (st := sLonger) l_longer c_longer k_longer
  have A_longer : At K mg "longer" sLonger ["found", "rows", "load"] f_longer _ := ⟨F_longer, F_longer.binds (ps := ["found", "rows", "load"]) fun _ _ _ _ _ _ us hl => match us, hl with | [_, _, _], _ => rfl, PySem.W.mg_of X G a_longer⟩
  have F_joined := fun_mk (st := sJoined) l_joined c_joined k_joined
  have A_joined : At K mg "joined" sJoined ["first", "second"] f_joined _ := ⟨F_joined, F_joined.binds (ps := ["first", "second"]) fun _ _ _ _ _ _ us hl => match us, hl with | [_, _], _ => rfl, PySem.W.mg_of X G a_joined⟩
  have F_bp := fun_mk (st := sBP) l_bp c_bp k_bp
  have A_bp : At K mg "boxed_plays" sBP ["found", "kind"] f_bp _ := ⟨F_bp, F_bp.binds (ps := ["found", "kind"]) fun _ _ _ _ _ _ us hl => match us, hl with | [_, _], _ => rfl, PySem.W.mg_of X G a_bp⟩
  have F_pw := fun_mk (st := sPW) l_pw c_pw k_pw
  have A_pw : At K mg "plays_within" sPW ["library", "derivation", "known", "ranks"] f_pw _ := ⟨F_pw, F_pw.binds (ps := ["library", "derivation", "known", "ranks"]) fun _ _ _ _ _ _ us hl => match us, hl with | [_, _, _, _], _ => rfl, PySem.W.mg_of X G a_pw⟩
  have F_cell := fun_mk (st := sCell) l_cell c_cell k_cell
  have A_cell : At K mg "_law_cell" sCell ["script", "k"] f_cell _ := ⟨F_cell, F_cell.binds (ps := ["script", "k"]) fun _ _ _ _ _ _ us hl => match us, hl with | [_, _], _ => rfl, PySem.W.mg_of X G a_cell⟩
  have F_pool := fun_mk (st := sPool) l_pool c_pool k_pool
  have A_pool : At K mg "_law_pool" sPool ["script", "k"] f_pool _ := ⟨F_pool, F_pool.binds (ps := ["script", "k"]) fun _ _ _ _ _ _ us hl => match us, hl with | [_, _], _ => rfl, PySem.W.mg_of X G a_pool⟩
  have F_next := fun_mk (st := sNext) l_next c_next k_next
  have A_next : At K mg "_law_next" sNext ["pool", "many"] f_next _ := ⟨F_next, F_next.binds (ps := ["pool", "many"]) fun _ _ _ _ _ _ us hl => match us, hl with | [_, _], _ => rfl, PySem.W.mg_of X G a_next⟩
  have F_mode := fun_mk (st := sMode) l_mode c_mode k_mode
  have A_mode : At K mg "_law_mode" sMode ["pool", "room"] f_mode _ := ⟨F_mode, F_mode.binds (ps := ["pool", "room"]) fun _ _ _ _ _ _ us hl => match us, hl with | [_, _], _ => rfl, PySem.W.mg_of X G a_mode⟩
  have F_part := fun_mk (st := sPart) l_part c_part k_part
  have A_part : At K mg "_law_part" sPart ["pool", "level", "depth", "room"] f_part _ := ⟨F_part, F_part.binds (ps := ["pool", "level", "depth", "room"]) fun _ _ _ _ _ _ us hl => match us, hl with | [_, _, _, _], _ => rfl, PySem.W.mg_of X G a_part⟩
  have F_boxed := fun_mk (st := sBoxed) l_boxed c_boxed k_boxed
  have A_boxed : At K mg "_law_boxed" sBoxed ["one", "mode"] f_boxed _ := ⟨F_boxed, F_boxed.binds (ps := ["one", "mode"]) fun _ _ _ _ _ _ us hl => match us, hl with | [_, _], _ => rfl, PySem.W.mg_of X G a_boxed⟩
  have F_nums := fun_mk (st := sNums) l_nums c_nums k_nums
  have A_nums : At K mg "_law_numbers" sNums ["tree"] f_nums _ := ⟨F_nums, F_nums.binds (ps := ["tree"]) fun _ _ _ _ _ _ us hl => match us, hl with | [_], _ => rfl, PySem.W.mg_of X G a_nums⟩
  have F_put := fun_mk (st := sPut) l_put c_put k_put
  have A_put : At K mg "_law_put" sPut ["total", "play", "many"] f_put _ := ⟨F_put, F_put.binds (ps := ["total", "play", "many"]) fun _ _ _ _ _ _ us hl => match us, hl with | [_, _, _], _ => rfl, PySem.W.mg_of X G a_put⟩
  have F_ls := fun_mk (st := sLs) l_ls c_ls k_ls
  have A_ls : At K mg "_law_listed" sLs ["tree"] f_ls _ := ⟨F_ls, F_ls.binds (ps := ["tree"]) fun _ _ _ _ _ _ us hl => match us, hl with | [_], _ => rfl, PySem.W.mg_of X G a_ls⟩
  have F_lp := fun_mk (st := sLP) l_lp c_lp k_lp
  have A_lp : At K mg "_law_plays" sLP ["tree", "found"] f_lp _ := ⟨F_lp, F_lp.binds (ps := ["tree", "found"]) fun _ _ _ _ _ _ us hl => match us, hl with | [_, _], _ => rfl, PySem.W.mg_of X G a_lp⟩
  have F_drawn := fun_mk (st := sDr) l_drawn c_drawn k_drawn
  have A_drawn : At K mg "_law_drawn" sDr ["pool"] f_drawn _ := ⟨F_drawn, F_drawn.binds (ps := ["pool"]) fun _ _ _ _ _ _ us hl => match us, hl with | [_], _ => rfl, PySem.W.mg_of X G a_drawn⟩
  have F_law := fun_mk (st := sLaw) l_law c_law k_law
  have F_tinit := fun_mk (st := sTInit) l_tinit c_tinit k_tinit
  have B_tinit := F_tinit.binds (ps := ["self", "plays", "rows", "load"]) fun _ _ _ _ _ _ us hl => match us, hl with | [_, _, _, _], _ => rfl
  have F_tadd := fun_mk (st := sTAdd) l_tadd c_tadd k_tadd
  have B_tadd := F_tadd.binds (ps := ["self", "other"]) fun _ _ _ _ _ _ us hl => match us, hl with | [_, _], _ => rfl
  have M_tadd : Meth K C "__add__" f_tadd := ⟨a_tadd, i_tadd, k_tadd⟩
  have F_tmul := fun_mk (st := sTMul) l_tmul c_tmul k_tmul
  have B_tmul := F_tmul.binds (ps := ["self", "other"]) fun _ _ _ _ _ _ us hl => match us, hl with | [_, _], _ => rfl
  have M_tmul : Meth K C "__mul__" f_tmul := ⟨a_tmul, i_tmul, k_tmul⟩
  have F_tcop := fun_mk (st := sTCopied) l_tcop c_tcop k_tcop
  have B_tcop := F_tcop.binds (ps := ["self", "n"]) fun _ _ _ _ _ _ us hl => match us, hl with | [_, _], _ => rfl
  have M_tcop : Meth K C "copied" f_tcop := ⟨a_tcop, i_tcop, k_tcop⟩
  have F_ttal := fun_mk (st := sTTaller) l_ttal c_ttal k_ttal
  have B_ttal := F_ttal.binds (ps := ["self", "k"]) fun _ _ _ _ _ _ us hl => match us, hl with | [_, _], _ => rfl
  have M_ttal : Meth K C "taller" f_ttal := ⟨a_ttal, i_ttal, k_ttal⟩
  have F_tcut := fun_mk (st := sTCut) l_tcut c_tcut k_tcut
  have B_tcut := F_tcut.binds (ps := ["self", "factor"]) fun _ _ _ _ _ _ us hl => match us, hl with | [_, _], _ => rfl
  have M_tcut : Meth K C "cut" f_tcut := ⟨a_tcut, i_tcut, k_tcut⟩
  have F_ttri := fun_mk (st := sTTriple) l_ttri c_ttri k_ttri
  have B_ttri := F_ttri.binds (ps := ["self"]) fun _ _ _ _ _ _ us hl => match us, hl with | [_], _ => rfl
  have M_ttri : Meth K C "triple" f_ttri := ⟨a_ttri, i_ttri, k_ttri⟩
  have F_linit := fun_mk (st := sLInit) l_linit c_linit k_linit
  have B_linit := F_linit.binds (ps := ["self"]) fun _ _ _ _ _ _ us hl => match us, hl with | [_], _ => rfl
  have F_liter := fun_mk (st := sLIter) l_liter c_liter k_liter
  have B_liter := F_liter.binds (ps := ["self"]) fun _ _ _ _ _ _ us hl => match us, hl with | [_], _ => rfl
  have M_liter : Meth K L "__iter__" f_liter := ⟨a_liter, i_liter, k_liter⟩
  have F_lmakes := fun_mk (st := sMakes) l_lmakes c_lmakes k_lmakes
  have B_lmakes := F_lmakes.binds (ps := ["self", "name"]) fun _ _ _ _ _ _ us hl => match us, hl with | [_, _], _ => rfl
  have M_lmakes : Meth K L "makes_of" f_lmakes := ⟨a_lmakes, i_lmakes, k_lmakes⟩
  have F_lopens := fun_mk (st := sOpens) l_lopens c_lopens k_lopens
  have B_lopens := F_lopens.binds (ps := ["self", "name"]) fun _ _ _ _ _ _ us hl => match us, hl with | [_, _], _ => rfl
  have M_lopens : Meth K L "opens_of" f_lopens := ⟨a_lopens, i_lopens, k_lopens⟩
  have F_lnames := fun_mk (st := sENames) l_lnames c_lnames k_lnames
  have B_lnames := F_lnames.binds (ps := ["self"]) fun _ _ _ _ _ _ us hl => match us, hl with | [_], _ => rfl
  have M_lnames : Meth K L "entry_names" f_lnames := ⟨a_lnames, i_lnames, k_lnames⟩
  have T : Txt mg := ⟨PySem.W.mg_none_of X G z_len, PySem.W.mg_none_of X G z_abs, PySem.W.mg_none_of X G z_int, PySem.W.mg_none_of X G z_min, PySem.W.mg_none_of X G z_str, PySem.W.mg_none_of X G z_range, PySem.W.mg_none_of X G z_max, PySem.W.mg_none_of X G z_list, PySem.W.mg_none_of X G z_tuple, PySem.W.mg_none_of X G z_dict, PySem.W.mg_none_of X G z_iter, PySem.W.mg_none_of X G z_repr, PySem.W.mg_none_of X G z_isinstance⟩
  have TT : TC2 K mg C := ⟨⟨⟨pgC, hdC, poC, saC⟩, nC_plays, nC_rows, nC_load⟩, sfC⟩
  have TL : LC K L := ⟨⟨pgL, hdL, poL, saL⟩, nL_changes, nL__words, nL__meetings, nL__entries⟩
  have T2 : Txt2 K w mg P0 := ⟨PySem.W.mg_of X G aP, ⟨esP, nP, _, lP, kP, q_own, ⟨_, rfl⟩⟩, ⟨esP, nP, _, lP, kP, q_pick, ⟨_, rfl⟩⟩, ⟨esP, nP, _, lP, kP, q_offer, ⟨_, rfl⟩⟩, ⟨esP, nP, _, lP, kP, q_cut, ⟨_, rfl⟩⟩, ⟨esP, nP, _, lP, kP, q_pay, ⟨_, rfl⟩⟩⟩
  refine ⟨_, F_law, fun s v => .of_eq rfl, fun base _ _ s H a ns hl hO hS cdv room => ?_⟩
  have D_next : Def P w K mg base 1 "_law_next" ["pool", "many"] spNext := A_next.df (ok_next F_next T)
  have Ok_cell := ok_cell (P := P) (w := w) (base := base) F_cell T
  have D_pool : Def P w K mg base 2 "_law_pool" ["script", "k"] (spPool K) := A_pool.df (ok_pool F_pool T Ok_cell A_cell.b k_cell A_cell.m)
  have D_mode : Def P w K mg base 2 "_law_mode" ["pool", "room"] spMode := A_mode.df (ok_mode F_mode T (ok_next F_next T) A_next.b k_next A_next.m)
  have D_part : Def P w K mg base 11 "_law_part" aPart (spPart 9) := A_part.df (part_all A_part T D_next D_mode 9)
  have D_boxed : Def P w K mg base 1 "_law_boxed" ["one", "mode"] spBoxed := A_boxed.df (ok_boxed A_boxed T)
  have D_nums : Def P w K mg base 18 "_law_numbers" ["tree"] (spNums 17) := A_nums.df (nums_all A_nums T D_boxed 17)
  have D_drawn : Def P w K mg base 19 "_law_drawn" ["pool"] spDrawn := A_drawn.df (ok_drawn A_drawn T D_part D_nums)
  have D_put : Def P w K mg base 1 "_law_put" ["total", "play", "many"] spPut := A_put.df (ok_put A_put)
  have D_ls : Def P w K mg base 18 "_law_listed" ["tree"] (spLs 17) := A_ls.df (ls_all A_ls T D_put 17)
  have D_copies : Def P w K mg base 1 "copies" ["kind"] spCopies := A_copies.df (ok_copies A_copies T)
  have D_prem : Def P w K mg base 1 "premises" ["derivation"] spPrem := A_prem.df (ok_prem A_prem T T2)
  -- Tally
  have D_Tally : CDef P w K mg base C 1 "Tally" ["self", "plays", "rows", "load"] (spTInit C) := ⟨⟨_, _, ⟨mkC, a_tinit, i_tinit, kcC⟩, ok_tinit F_tinit TT.toTC, B_tinit⟩, PySem.W.mg_of X G aC⟩
  have D_add : MDef P w K mg base C f_tadd _ 3 "__add__" ["self", "other"] (spT2 C T3.add fun _ _ => True) := ⟨M_tadd, ok_tadd F_tadd TT.toTC D_Tally, B_tadd⟩
  have D_mul : MDef P w K mg base C f_tmul _ 3 "__mul__" ["self", "other"] (spT2 C T3.mul fun x y => Sm x ∧ Sm y) := ⟨M_tmul, ok_tmul F_tmul TT.toTC D_Tally, B_tmul⟩
  have D_tal : MDef P w K mg base C f_ttal _ 3 "taller" ["self", "k"] (spT1 C T3.up fun x n => CMulW n x.p) := ⟨M_ttal, ok_ttaller F_ttal TT.toTC D_Tally, B_ttal⟩
  have D_cut : MDef P w K mg base C f_tcut _ 3 "cut" ["self", "factor"] (spT1 C T3.cutf fun x n => CMulW n (x.r - x.p)) := ⟨M_tcut, ok_tcut F_tcut TT.toTC D_Tally, B_tcut⟩
  have D_tri : MDef P w K mg base C f_ttri _ 1 "triple" ["self"] (spTriple C) := ⟨M_ttri, ok_ttriple F_ttri TT.toTC, B_ttri⟩
  have D_cop : MDef P w K mg base C f_tcop _ 4 "copied" ["self", "n"] (spCopied C) := ⟨M_tcop, ok_copied F_tcop T TT D_Tally D_mul, B_tcop⟩
  have D_bt : Def P w K mg base 5 "boxed_tally" ["found", "kind"] (spBT C) := A_bt.df (ok_bt A_bt TT D_tal D_cop)
  have D_br : Def P w K mg base 1 "boxed_rows" ["rows", "kind"] spBR := A_br.df (ok_br A_br)
  -- Library
  have D_Lib : CDef P w K mg base L 1 "Library" ["self"] (spLInit L) := ⟨⟨_, _, ⟨mkL, a_linit, i_linit, kcL⟩, ok_linit F_linit TL, B_linit⟩, PySem.W.mg_of X G aL⟩
  have D_iter : MDef P w K mg base L f_liter _ 1 "__iter__" ["self"] (spLIter L) := ⟨M_liter, ok_liter F_liter T TL, B_liter⟩
  have D_makes : MDef P w K mg base L f_lmakes _ 1 "makes_of" ["self", "name"] (spNewL L) := ⟨M_lmakes, ok_makes F_lmakes TL, B_lmakes⟩
  have D_opens : MDef P w K mg base L f_lopens _ 1 "opens_of" ["self", "name"] (spNewL L) := ⟨M_lopens, ok_opens F_lopens TL, B_lopens⟩
  have D_names : MDef P w K mg base L f_lnames _ 1 "entry_names" ["self"] (spENames L) := ⟨M_lnames, ok_enames F_lnames T TL, B_lnames⟩
  have D_grank : Def P w K mg base 1 "greatest_rank" ["library", "sentences", "known"] spGRank := A_grank.df (ok_grank A_grank)
  have D_wrank : Def P w K mg base 2 "word_rank" ["library", "name", "known"] (spWRank L) := A_wrank.df (ok_wrank A_wrank TL D_grank D_makes D_opens)
  have D_rank : Def P w K mg base 4 "rank_within" ["library", "sentence", "known"] (spRank L 2) := rank_def A_rank T D_wrank
  have D_rof : Def P w K mg base 1 "riders_of" ["library", "row"] spROf := A_rof.df (ok_rof A_rof)
  have D_rkeys : Def P w K mg base 2 "rider_keys" ["library"] (spRKeys L) := A_rkeys.df (ok_rkeys A_rkeys TL D_iter D_names)
  have D_riders : Def P w K mg base 3 "riders" ["library", "derivation"] (spRiders L) := A_riders.df (ok_riders A_riders D_prem D_rof D_rkeys)
  -- tally, greatest play, plays
  have D_tw : Def P w K mg base 22 "tally_within" ["library", "derivation", "known", "ranks"] (spTW C L 17) := A_tw.df (tw_all A_tw TT D_Tally D_add D_mul D_tal D_cut D_prem D_copies D_bt D_rank 17)
  have D_tally : Def P w K mg base 23 "tally" ["library", "derivation"] (spTallyF C L) := A_tally.df (ok_tallyf A_tally D_riders D_tw)
  have D_gw : Def P w K mg base 18 "greatest_within" ["library", "derivation", "known"] (spGW 17) := A_gw.df (gw_all A_gw T D_prem D_br 17)
  have D_gp : Def P w K mg base 19 "greatest_play" ["library", "derivation"] (spGPF L) := A_gp.df (ok_gpf A_gp D_riders D_gw)
  have D_longer : Def P w K mg base 1 "longer" ["found", "rows", "load"] spLonger := A_longer.df (ok_longer A_longer)
  have D_joined : Def P w K mg base 1 "joined" ["first", "second"] spJoined := A_joined.df (ok_joined A_joined)
  have D_bp : Def P w K mg base 2 "boxed_plays" ["found", "kind"] spBP := A_bp.df (ok_bp A_bp T D_longer D_joined)
  have D_pw : Def P w K mg base 21 "plays_within" ["library", "derivation", "known", "ranks"] (spPW L 17) := A_pw.df (pw_all A_pw D_prem D_copies D_longer D_joined D_bp D_rank 17)
  have D_plays : Def P w K mg base 22 "plays" ["library", "derivation"] (spPlaysF L) := A_plays.df (ok_plays A_plays D_riders D_pw)
  have D_lp : Def P w K mg base 23 "_law_plays" ["tree", "found"] spLP := A_lp.df (ok_lp A_lp T D_plays D_Lib D_put)
  exact law_body cdv T TT rfl hl hS D_pool D_drawn D_nums D_tally D_Lib D_tri D_gp D_ls D_lp room
theorem walk {l : PySem.W.OpenLaw} {q : Program} {loose : List Str} {XP : (Str → Option Value) → Heap → Prop} {YP : World → Heap → Prop} {d : DefRec} {K : Params → PySem.W.Frag} (hn : l.most = some 63) (hdf : d.params.defaults = []) (hY : ∀ (w : World) (h : Heap), YP w h → (K w.params).In h)
    (F : ∀ (w : World) (mg : Str → Option Value) (fa : Addr) (h : Heap), (K w.params).In h → h.Ns mainGlobals mg → mg d.name = some (.ref fa) →
      ∃ fd : FuncData, Fun (K w.params) "law" "law" sLaw fa fd ∧ (∀ (s : Shared) (u : Value), BindsTo s fd ⟨[u], []⟩ [("script", u)]) ∧
        ∀ base : Heap, (K w.params).In base → base.Ns mainGlobals mg → ∀ (s : Shared) (H : Hp) (a : Addr) (ns : List Int), ns.length ≤ 63 → Only H → SqL (K w.params) H a (ns.map V.int) → ∀ cdv : Value, Room 40 (callerA.deeper (PyProof.Rows.envOfC "law" (defScope sLaw) s.heap.objs.size fa cdv)) →
          ∃ t, PSs (cxOf CX0 l.prog w (K w.params) mg base nLaw "law" (defScope sLaw) fa cdv callerA [] s H E0).nox (defBody sLaw) t ∧ t { nx := fun _ _ => V.non = .bl true, rt := fun v _ => v = .bl true } (start nLaw [.ref a]) H) :
    PySem.W.WalkO q loose XP YP l.row.toRowW d [] (fun f vs => PySem.call f vs) :=
  HL.walk_at (n := 63) (k := 40) hn (by decide) hdf ⟨rfl, by decide, by decide⟩ hY scLaw F
end K77

open PySem PySem.W PyProof.Rows in
set_option maxHeartbeats 0 in
open_top K77.hd for PySem.Challenge.rw_heldanswers_k77_seam_large_plays

open PySem PySem.W PyProof.Rows
set_option maxRecDepth 100000 in
set_option maxHeartbeats 0 in
theorem PySem.Challenge.cw_heldanswers_k77_seam_large_plays_holds : PySem.Challenge.rw_heldanswers_k77_seam_large_plays.Holds :=
  K77.hd (by
  k_fill
  refine K77.walk (l := PySem.Challenge.rw_heldanswers_k77_seam_large_plays) rfl rfl (fun w h Y => PySem.W.kIn_of Y) ?F
  case F =>
    intro w mg fa h KX G hmg
    refine' K77.all_mk KX G hmg ?aC ?aL ?aP ?a_copies ?l_copies ?c_copies ?k_copies ?a_rank ?l_rank ?c_rank ?k_rank ?a_wrank ?l_wrank ?c_wrank ?k_wrank ?a_grank ?l_grank ?c_grank ?k_grank ?a_prem ?l_prem ?c_prem ?k_prem ?a_rof ?l_rof ?c_rof ?k_rof ?a_rkeys ?l_rkeys ?c_rkeys ?k_rkeys ?a_riders ?l_riders ?c_riders ?k_riders ?a_bt ?l_bt ?c_bt ?k_bt ?a_tally ?l_tally ?c_tally ?k_tally ?a_tw ?l_tw ?c_tw ?k_tw ?a_br ?l_br ?c_br ?k_br ?a_gp ?l_gp ?c_gp ?k_gp ?a_gw ?l_gw ?c_gw ?k_gw ?a_plays ?l_plays ?c_plays ?k_plays ?a_longer ?l_longer ?c_longer ?k_longer ?a_joined ?l_joined ?c_joined ?k_joined ?a_bp ?l_bp ?c_bp ?k_bp ?a_pw ?l_pw ?c_pw ?k_pw ?a_cell ?l_cell ?c_cell ?k_cell ?a_pool ?l_pool ?c_pool ?k_pool ?a_next ?l_next ?c_next ?k_next ?a_mode ?l_mode ?c_mode ?k_mode ?a_part ?l_part ?c_part ?k_part ?a_boxed ?l_boxed ?c_boxed ?k_boxed ?a_nums ?l_nums ?c_nums ?k_nums ?a_put ?l_put ?c_put ?k_put ?a_ls ?l_ls ?c_ls ?k_ls ?a_lp ?l_lp ?c_lp ?k_lp ?a_drawn ?l_drawn ?c_drawn ?k_drawn ?a_law ?l_law ?c_law ?k_law ?a_tinit ?i_tinit ?l_tinit ?c_tinit ?k_tinit ?a_tadd ?i_tadd ?l_tadd ?c_tadd ?k_tadd ?a_tmul ?i_tmul ?l_tmul ?c_tmul ?k_tmul ?a_tcop ?i_tcop ?l_tcop ?c_tcop ?k_tcop ?a_ttal ?i_ttal ?l_ttal ?c_ttal ?k_ttal ?a_tcut ?i_tcut ?l_tcut ?c_tcut ?k_tcut ?a_ttri ?i_ttri ?l_ttri ?c_ttri ?k_ttri ?a_linit ?i_linit ?l_linit ?c_linit ?k_linit ?a_liter ?i_liter ?l_liter ?c_liter ?k_liter ?a_lmakes ?i_lmakes ?l_lmakes ?c_lmakes ?k_lmakes ?a_lopens ?i_lopens ?l_lopens ?c_lopens ?k_lopens ?a_lnames ?i_lnames ?l_lnames ?c_lnames ?k_lnames ?pgC ?hdC ?poC ?saC ?mkC ?kcC ?pgL ?hdL ?poL ?saL ?mkL ?kcL ?nC_plays ?nC_rows ?nC_load ?nL_changes ?nL__words ?nL__meetings ?nL__entries ?sfC ?z_len ?z_abs ?z_int ?z_min ?z_str ?z_range ?z_max ?z_list ?z_tuple ?z_dict ?z_iter ?z_repr ?z_isinstance ?lP ?kP ?q_own ?q_pick ?q_offer ?q_cut ?q_pay
    (case aC => k_is)
    (case aL => k_is)
    (case aP => k_is)
    (case a_copies => k_is)
    (case l_copies => k_is)
    (case c_copies => k_is)
    (case k_copies => k_is)
    (case a_rank => k_is)
    (case l_rank => k_is)
    (case c_rank => k_is)
    (case k_rank => k_is)
    (case a_wrank => k_is)
    (case l_wrank => k_is)
    (case c_wrank => k_is)
    (case k_wrank => k_is)
    (case a_grank => k_is)
    (case l_grank => k_is)
    (case c_grank => k_is)
    (case k_grank => k_is)
    (case a_prem => k_is)
    (case l_prem => k_is)
    (case c_prem => k_is)
    (case k_prem => k_is)
    (case a_rof => k_is)
    (case l_rof => k_is)
    (case c_rof => k_is)
    (case k_rof => k_is)
    (case a_rkeys => k_is)
    (case l_rkeys => k_is)
    (case c_rkeys => k_is)
    (case k_rkeys => k_is)
    (case a_riders => k_is)
    (case l_riders => k_is)
    (case c_riders => k_is)
    (case k_riders => k_is)
    (case a_bt => k_is)
    (case l_bt => k_is)
    (case c_bt => k_is)
    (case k_bt => k_is)
    (case a_tally => k_is)
    (case l_tally => k_is)
    (case c_tally => k_is)
    (case k_tally => k_is)
    (case a_tw => k_is)
    (case l_tw => k_is)
    (case c_tw => k_is)
    (case k_tw => k_is)
    (case a_br => k_is)
    (case l_br => k_is)
    (case c_br => k_is)
    (case k_br => k_is)
    (case a_gp => k_is)
    (case l_gp => k_is)
    (case c_gp => k_is)
    (case k_gp => k_is)
    (case a_gw => k_is)
    (case l_gw => k_is)
    (case c_gw => k_is)
    (case k_gw => k_is)
    (case a_plays => k_is)
    (case l_plays => k_is)
    (case c_plays => k_is)
    (case k_plays => k_is)
    (case a_longer => k_is)
    (case l_longer => k_is)
    (case c_longer => k_is)
    (case k_longer => k_is)
    (case a_joined => k_is)
    (case l_joined => k_is)
    (case c_joined => k_is)
    (case k_joined => k_is)
    (case a_bp => k_is)
    (case l_bp => k_is)
    (case c_bp => k_is)
    (case k_bp => k_is)
    (case a_pw => k_is)
    (case l_pw => k_is)
    (case c_pw => k_is)
    (case k_pw => k_is)
    (case a_cell => k_is)
    (case l_cell => k_is)
    (case c_cell => k_is)
    (case k_cell => k_is)
    (case a_pool => k_is)
    (case l_pool => k_is)
    (case c_pool => k_is)
    (case k_pool => k_is)
    (case a_next => k_is)
    (case l_next => k_is)
    (case c_next => k_is)
    (case k_next => k_is)
    (case a_mode => k_is)
    (case l_mode => k_is)
    (case c_mode => k_is)
    (case k_mode => k_is)
    (case a_part => k_is)
    (case l_part => k_is)
    (case c_part => k_is)
    (case k_part => k_is)
    (case a_boxed => k_is)
    (case l_boxed => k_is)
    (case c_boxed => k_is)
    (case k_boxed => k_is)
    (case a_nums => k_is)
    (case l_nums => k_is)
    (case c_nums => k_is)
    (case k_nums => k_is)
    (case a_put => k_is)
    (case l_put => k_is)
    (case c_put => k_is)
    (case k_put => k_is)
    (case a_ls => k_is)
    (case l_ls => k_is)
    (case c_ls => k_is)
    (case k_ls => k_is)
    (case a_lp => k_is)
    (case l_lp => k_is)
    (case c_lp => k_is)
    (case k_lp => k_is)
    (case a_drawn => k_is)
    (case l_drawn => k_is)
    (case c_drawn => k_is)
    (case k_drawn => k_is)
    (case a_law => k_is)
    (case l_law => k_is)
    (case c_law => k_is)
    (case k_law => k_is)
    (case a_tinit => k_is)
    (case i_tinit => k_is)
    (case l_tinit => k_is)
    (case c_tinit => k_is)
    (case k_tinit => k_is)
    (case a_tadd => k_is)
    (case i_tadd => k_is)
    (case l_tadd => k_is)
    (case c_tadd => k_is)
    (case k_tadd => k_is)
    (case a_tmul => k_is)
    (case i_tmul => k_is)
    (case l_tmul => k_is)
    (case c_tmul => k_is)
    (case k_tmul => k_is)
    (case a_tcop => k_is)
    (case i_tcop => k_is)
    (case l_tcop => k_is)
    (case c_tcop => k_is)
    (case k_tcop => k_is)
    (case a_ttal => k_is)
    (case i_ttal => k_is)
    (case l_ttal => k_is)
    (case c_ttal => k_is)
    (case k_ttal => k_is)
    (case a_tcut => k_is)
    (case i_tcut => k_is)
    (case l_tcut => k_is)
    (case c_tcut => k_is)
    (case k_tcut => k_is)
    (case a_ttri => k_is)
    (case i_ttri => k_is)
    (case l_ttri => k_is)
    (case c_ttri => k_is)
    (case k_ttri => k_is)
    (case a_linit => k_is)
    (case i_linit => k_is)
    (case l_linit => k_is)
    (case c_linit => k_is)
    (case k_linit => k_is)
    (case a_liter => k_is)
    (case i_liter => k_is)
    (case l_liter => k_is)
    (case c_liter => k_is)
    (case k_liter => k_is)
    (case a_lmakes => k_is)
    (case i_lmakes => k_is)
    (case l_lmakes => k_is)
    (case c_lmakes => k_is)
    (case k_lmakes => k_is)
    (case a_lopens => k_is)
    (case i_lopens => k_is)
    (case l_lopens => k_is)
    (case c_lopens => k_is)
    (case k_lopens => k_is)
    (case a_lnames => k_is)
    (case i_lnames => k_is)
    (case l_lnames => k_is)
    (case c_lnames => k_is)
    (case k_lnames => k_is)
    (case pgC => k_is)
    (case hdC => k_is)
    (case poC => k_is)
    (case saC => k_is)
    (case mkC => k_is)
    (case kcC => k_is)
    (case pgL => k_is)
    (case hdL => k_is)
    (case poL => k_is)
    (case saL => k_is)
    (case mkL => k_is)
    (case kcL => k_is)
    (case nC_plays => k_is)
    (case nC_rows => k_is)
    (case nC_load => k_is)
    (case nL_changes => k_is)
    (case nL__words => k_is)
    (case nL__meetings => k_is)
    (case nL__entries => k_is)
    (case sfC => k_is)
    (case z_len => k_is)
    (case z_abs => k_is)
    (case z_int => k_is)
    (case z_min => k_is)
    (case z_str => k_is)
    (case z_range => k_is)
    (case z_max => k_is)
    (case z_list => k_is)
    (case z_tuple => k_is)
    (case z_dict => k_is)
    (case z_iter => k_is)
    (case z_repr => k_is)
    (case z_isinstance => k_is)
    (case lP => k_is)
    (case kP => k_keys)
    (case q_own => k_is)
    (case q_pick => k_is)
    (case q_offer => k_is)
    (case q_cut => k_is)
    (case q_pay => k_is))

