import PyProof.Rows.All
import Wide.All
import OpenK.AllK
import Wide.FinOn
import PyProof.EqAt
import PyProof.EqKinds
import PyProof.TupleCall
import HandS.ForMost
import HandS.ForExc
import HandS.More
import HandS.IsInst
import HandS.ExcIs
import PySem.Challenge.RW_leafframe_k21_near_place
set_option Elab.async false
set_option linter.all false
set_option maxRecDepth 100000
set_option maxHeartbeats 8000000
/-! The near-table: text places, data, mathematics, promises. -/
namespace Np
open PySem L2
/-! ### the text by places -/
def top (i : Nat) : Stmt := PySem.Challenge.pw_leafframe_k21_near_place.main.body.getD i (.Pass ⟨0, 0, 0, 0⟩)
abbrev sInit : Stmt := inClass (top 8) 0
abbrev sSpot : Stmt := inClass (top 8) 1
abbrev sFound : Stmt := inClass (top 8) 2
abbrev sNote : Stmt := inClass (top 8) 3
abbrev sRows : Stmt := inClass (top 8) 7
abbrev lCell : Stmt := top 10
abbrev lWhole : Stmt := top 11
abbrev lDrawn : Stmt := top 12
abbrev lRow : Stmt := top 13
abbrev lSpot : Stmt := top 14
abbrev lPair : Stmt := top 15
abbrev lAsked : Stmt := top 16
abbrev lRows : Stmt := top 17
abbrev lNoSh : Stmt := top 18
abbrev lLaw : Stmt := top 19

/-! ### data -/
structure Rw where
  t : Nat
  p : Nat
  f : Nat
  r : Nat
def Rw.vs (w : Rw) : List V := [.int (w.t : Int), .int (w.p : Int), .int (w.f : Int), .int (w.r : Int)]
abbrev Tab := List (Option Rw)
/-- the place of a task and page in a table of m places -/
def spt (m t p : Nat) : Nat := (p ^^^ t) % m
def look (M : Tab) (t p : Nat) : Option Rw := match M[spt M.length t p]? with
  | some (some w) => if w.t = t ∧ w.p = p then some w else none
  | _ => none
def put (M : Tab) (w : Rw) : Tab := M.set (spt M.length w.t w.p) (some w)
theorem put_length (M : Tab) (w : Rw) : (put M w).length = M.length := by
  unfold put
  exact List.length_set
/-- the sizes that a table may have -/
def Wf (M : Tab) : Prop := M.length = 0 ∨ ∃ k, k ≤ 6 ∧ M.length = 2 ^ k
theorem Wf.put {M : Tab} (h : Wf M) (w : Rw) : Wf (put M w) := by
  unfold Wf
  rw [put_length]
  exact h
theorem Wf.le {M : Tab} (h : Wf M) : M.length ≤ 64 := by
  rcases h with h | ⟨k, hk, e⟩
  · omega
  · rw [e]
    exact Nat.pow_le_pow_right (by decide) hk
theorem spt_lt {m t p : Nat} (h : 0 < m) : spt m t p < m := Nat.mod_lt _ h

/-! ### what stands in the heap -/
def nf (l : Addr) : List (Str × V) := putF "lying" (.ref l) []
theorem nf_lying (l : Addr) : (nf l).lookup ("lying" : Str) = some (.ref l) := by
  unfold nf
  rw [lookup_putF, if_pos rfl]
theorem nf_no (l : Addr) {m : Str} (h : ¬ m = "lying") : (nf l).lookup m = none := by
  unfold nf
  rw [lookup_putF, if_neg h]
  all_goals rfl
/-- a place's content -/
def CellAt (H : Hp) (v : V) (o : Option Rw) : Prop := match o with
  | none => v = .non
  | some w => ∃ t, v = .ref t ∧ H t = some (.tup w.vs)
def NearAt (C : Addr) (H : Hp) (x l : Addr) (M : Tab) : Prop :=
  (∃ dx, H x = some (.ins C dx (nf l))) ∧ ∃ xs : List V, H l = some (.lst xs) ∧ xs.length = M.length ∧ ∀ (i : Nat) (o : Option Rw), M[i]? = some o → ∃ v, xs[i]? = some v ∧ CellAt H v o
def OwnAt (H : Hp) (d : Addr) (M : Tab) : Prop := ∃ (kvs : List (Key × V)) (ks : List Nat), H d = some (.dK kvs) ∧ kvs.map (·.1) = ks.map (fun (n : Nat) => (Sum.inl (n : Int) : Key)) ∧ ks.Nodup ∧
  (∀ i : Nat, i ∈ ks ↔ ∃ w : Rw, M[i]? = some (some w)) ∧ ∀ (i : Nat) (w : Rw), M[i]? = some (some w) → ∃ t, valV kvs (Sum.inl (i : Int) : Key) = some (.ref t) ∧ H t = some (.tup w.vs)
def RowsAt (H : Hp) (vs : List V) (rs : List Rw) : Prop := vs.length = rs.length ∧ ∀ (i : Nat) (w : Rw), rs[i]? = some w → ∃ t, vs[i]? = some (.ref t) ∧ H t = some (.tup w.vs)

/-- all that was tracked outside E is as it was -/
def Keep (E : Addr → Prop) (H H' : Hp) : Prop := ∀ b o, H b = some o → ¬ E b → H' b = some o
theorem Keep.of_same {E : Addr → Prop} {H H' : Hp} (s : Same H H') : Keep E H H' := fun b o e _ => s b o e
theorem Keep.trans {E : Addr → Prop} {H H1 H2 : Hp} (a : Keep E H H1) (b : Keep E H1 H2) : Keep E H H2 := fun c o e n => b c o (a c o e n) n
theorem keep_upd {E : Addr → Prop} {H : Hp} {a : Addr} {o : HO} (h : E a) : Keep E H (upd H a o) := fun b u e n => by
  have nb : b ≠ a := fun z => n (by rw [z]; exact h)
  rw [upd_ne nb]
  exact e
theorem same_new {H : Hp} {a : Addr} {o : HO} (h : H a = none) : Same H (upd H a o) := fun b u e => by
  rw [upd_ne (ne_of_none e h)]
  exact e
theorem CellAt.keep {E : Addr → Prop} {H H' : Hp} {v : V} {o : Option Rw} (h : CellAt H v o) (k : Keep E H H') (nt : ∀ b xs, H b = some (.tup xs) → ¬ E b) : CellAt H' v o := by
  cases o with
  | none => exact h
  | some w =>
    obtain ⟨t, e, ht⟩ := h
    exact ⟨t, e, k _ _ ht (nt _ _ ht)⟩
theorem NearAt.keep {E : Addr → Prop} {C x l : Addr} {M : Tab} {H H' : Hp} (h : NearAt C H x l M) (k : Keep E H H') (nt : ∀ b xs, H b = some (.tup xs) → ¬ E b) (nx : ¬ E x) (nl : ¬ E l) : NearAt C H' x l M := by
  obtain ⟨⟨dx, hx⟩, xs, hl, hz, hc⟩ := h
  refine ⟨⟨dx, k _ _ hx nx⟩, xs, k _ _ hl nl, hz, fun i o e => ?_⟩
  obtain ⟨v, hv, c⟩ := hc i o e
  exact ⟨v, hv, c.keep k nt⟩
theorem OwnAt.keep {E : Addr → Prop} {d : Addr} {M : Tab} {H H' : Hp} (h : OwnAt H d M) (k : Keep E H H') (nt : ∀ b xs, H b = some (.tup xs) → ¬ E b) (nd : ¬ E d) : OwnAt H' d M := by
  obtain ⟨kvs, ks, hd, h1, h2, h3, h4⟩ := h
  refine ⟨kvs, ks, k _ _ hd nd, h1, h2, h3, fun i w e => ?_⟩
  obtain ⟨t, hv, ht⟩ := h4 i w e
  exact ⟨t, hv, k _ _ ht (nt _ _ ht)⟩
theorem RowsAt.keep {E : Addr → Prop} {vs : List V} {rs : List Rw} {H H' : Hp} (h : RowsAt H vs rs) (k : Keep E H H') (nt : ∀ b xs, H b = some (.tup xs) → ¬ E b) : RowsAt H' vs rs := by
  refine ⟨h.1, fun i w e => ?_⟩
  obtain ⟨t, hv, ht⟩ := h.2 i w e
  exact ⟨t, hv, k _ _ ht (nt _ _ ht)⟩
theorem nev : ∀ {H : Hp} (b : Addr) (xs : List V), H b = some (.tup xs) → ¬ (fun _ : Addr => False) b := fun _ _ _ h => h
theorem NearAt.same {C x l : Addr} {M : Tab} {H H' : Hp} (h : NearAt C H x l M) (s : Same H H') : NearAt C H' x l M := h.keep (E := fun _ => False) (Keep.of_same s) nev (fun z => z) (fun z => z)
theorem OwnAt.same {d : Addr} {M : Tab} {H H' : Hp} (h : OwnAt H d M) (s : Same H H') : OwnAt H' d M := h.keep (E := fun _ => False) (Keep.of_same s) nev (fun z => z)
theorem RowsAt.same {vs : List V} {rs : List Rw} {H H' : Hp} (h : RowsAt H vs rs) (s : Same H H') : RowsAt H' vs rs := h.keep (E := fun _ => False) (Keep.of_same s) nev

/-! ### numbers -/
theorem mod_ofNat (a b : Nat) : (a : Int) % (b : Int) = ((a % b : Nat) : Int) := (Int.natCast_emod a b).symm
theorem xor_ofNat (a b : Nat) : Builtin.bitXor (a : Int) (b : Int) = ((a ^^^ b : Nat) : Int) := by
  rw [Bits.bitXor_pp (Int.natCast_nonneg _) (Int.natCast_nonneg _), Int.toNat_natCast, Int.toNat_natCast]
theorem and_mask (a k m : Nat) (hm : m = 2 ^ k) : Builtin.bitAnd (a : Int) ((m : Int) - 1) = ((a % m : Nat) : Int) := by
  have h1 : 0 < m := by
    rw [hm]
    exact Nat.two_pow_pos k
  have e : (m : Int) - 1 = ((m - 1 : Nat) : Int) := by omega
  rw [e, PyProof.Rows.bitAnd_pp (Int.natCast_nonneg _) (Int.natCast_nonneg _), Int.toNat_natCast, Int.toNat_natCast, hm, Nat.and_two_pow_sub_one_eq_mod]
/-- the law's place is the table's -/
theorem spot_same (m t p k : Nat) (hm : m = 2 ^ k) : (t % m) ^^^ (p % m) = spt m t p := by
  unfold spt
  rw [hm, Nat.xor_mod_two_pow, Nat.xor_comm]
/-- the numbers that make no table -/
def Bad (m : Int) : Prop := m < 0 ∨ 64 < m ∨ Builtin.bitAnd m (m - 1) ≠ 0
theorem bad_all : ((List.range 64).all fun (n : Nat) => decide (n < 3) || decide (n = 4) || decide (n = 8) || decide (n = 16) || decide (n = 32) || !decide (Builtin.bitAnd (n : Int) ((n : Int) - 1) = 0)) = true := by decide +kernel
theorem bad_small (n : Nat) (h : n < 64) (h3 : 3 ≤ n) (h4 : n ≠ 4) (h8 : n ≠ 8) (h16 : n ≠ 16) (h32 : n ≠ 32) : Builtin.bitAnd (n : Int) ((n : Int) - 1) ≠ 0 := by
  intro z
  have q := List.all_eq_true.mp bad_all n (List.mem_range.mpr h)
  simp [z, h4, h8, h16, h32] at q
  omega
theorem bad_of {m : Int} (h : m < 0 ∨ 64 < m ∨ (3 ≤ m ∧ m ≤ 63 ∧ m ≠ 4 ∧ m ≠ 8 ∧ m ≠ 16 ∧ m ≠ 32)) : Bad m := by
  rcases h with h | h | ⟨h1, h2, h4, h8, h16, h32⟩
  · exact .inl h
  · exact .inr (.inl h)
  · obtain ⟨n, rfl⟩ := Int.eq_ofNat_of_zero_le (show 0 ≤ m by omega)
    exact .inr (.inr (bad_small n (by omega) (by omega) (by omega) (by omega) (by omega) (by omega)))
/-- the numbers of places -/
def mOf (j : Nat) : Nat := [0, 1, 2, 4, 8, 16, 32, 64].getD j 0
theorem mOf_get : ∀ j : Nat, j < 8 → ([V.int 0, V.int 1, V.int 2, V.int 4, V.int 8, V.int 16, V.int 32, V.int 64] : List V)[j]? = some (V.int ((mOf j : Nat) : Int)) := by decide +kernel
theorem mOf_wf : ∀ j : Nat, j < 8 → mOf j = 0 ∨ ∃ k, k ≤ 6 ∧ mOf j = 2 ^ k := fun j hj => match j, hj with
  | 0, _ => .inl rfl
  | 1, _ => .inr ⟨0, by decide, rfl⟩
  | 2, _ => .inr ⟨1, by decide, rfl⟩
  | 3, _ => .inr ⟨2, by decide, rfl⟩
  | 4, _ => .inr ⟨3, by decide, rfl⟩
  | 5, _ => .inr ⟨4, by decide, rfl⟩
  | 6, _ => .inr ⟨5, by decide, rfl⟩
  | 7, _ => .inr ⟨6, by decide, rfl⟩
  | j + 8, h => absurd h (by omega)
theorem mOf_all : ((List.range 8).all fun (j : Nat) => true && decide (mOf j ≤ 64) && decide (Builtin.bitAnd ((mOf j : Nat) : Int) (((mOf j : Nat) : Int) - 1) = 0)) = true := by decide +kernel
theorem mOf_good : ∀ j : Nat, j < 8 → ¬ Bad ((mOf j : Nat) : Int) := fun j hj h => by
  have q := List.all_eq_true.mp mOf_all j (List.mem_range.mpr hj)
  rw [Bool.and_eq_true, Bool.and_eq_true] at q
  obtain ⟨⟨q1, q2⟩, q3⟩ := q
  have h1 : ¬ ((mOf j : Nat) : Int) < 0 := by omega
  have h2 : ¬ 64 < ((mOf j : Nat) : Int) := by
    have z := of_decide_eq_true q2
    omega
  have h3 := of_decide_eq_true q3
  rcases h with h | h | h
  · exact h1 h
  · exact h2 h
  · exact h h3

/-! ### promises -/
def spInit (C NS : Addr) : Sp := fun vs H Q E => ∃ (x dx : Addr) (m : Int), vs = [.ref x, .int m] ∧ H x = some (.ins C dx []) ∧ (Bad m → E (.ref NS) none H) ∧
  (¬ Bad m → ∀ (l : Addr) (H' : Hp), H l = none → (∀ b o, H b = some o → b ≠ x → H' b = some o) → H' x = some (.ins C dx (nf l)) → H' l = some (.lst (List.replicate m.toNat .non)) → Q .non H')
def spSpot (C : Addr) : Sp := fun vs H Q _ => ∃ (x l : Addr) (M : Tab) (k t p : Nat), vs = [.ref x, .int (t : Int), .int (p : Int)] ∧ NearAt C H x l M ∧ M.length = 2 ^ k ∧ Q (.int ((spt M.length t p : Nat) : Int)) H
def spFound (C : Addr) : Sp := fun vs H Q _ => ∃ (x l : Addr) (M : Tab) (t p : Nat), vs = [.ref x, .int (t : Int), .int (p : Int)] ∧ NearAt C H x l M ∧ Wf M ∧
  (look M t p = none → Q .non H) ∧ ∀ w, look M t p = some w → ∀ a, H a = none → Q (.ref a) (upd H a (.tup [.int (w.f : Int), .int (w.r : Int)]))
def spNote (C : Addr) : Sp := fun vs H Q _ => ∃ (x l : Addr) (M : Tab) (w : Rw), vs = .ref x :: w.vs ∧ NearAt C H x l M ∧ Wf M ∧
  ∀ H', Keep (· = l) H H' → NearAt C H' x l (put M w) → Q .non H'
def spRows (C : Addr) : Sp := fun vs H Q _ => ∃ (x l : Addr) (M : Tab), vs = [.ref x] ∧ NearAt C H x l M ∧ Wf M ∧
  ∀ (H' : Hp) (D : Addr) (ys : List V), H D = none → Same H H' → H' D = some (.lst ys) → RowsAt H' ys (M.filterMap id) → Q (.ref D) H'
def spCell (K : PySem.W.Frag) : Sp := fun vs H Q _ => ∃ (a : Addr) (ns : List Int), vs = [.ref a, .int 0] ∧ SqL K H a (ns.map V.int) ∧ ∀ z : Int, Q (.int z) H
def spWhole : Sp := fun vs H Q _ => ∃ z : Int, vs = [.int z] ∧ Q (.bl true) H
def spDrawn : Sp := fun vs H Q _ => ∃ (c b pr : Int) (many : Nat), vs = [.int c, .int b, .int pr, .int (many : Int)] ∧ (-(2 ^ 64) < b ∧ b < 2 ^ 64) ∧ 0 < pr ∧ 0 < many ∧ ∀ n : Nat, n < many → Q (.int (n : Int)) H
def spRow : Sp := fun vs H Q _ => ∃ c : Int, vs = [.int c] ∧ ∀ (w : Rw) (t : Addr), H t = none → Q (.ref t) (upd H t (.tup w.vs))
def spSpotL : Sp := fun vs H Q _ => ∃ (m k t p : Nat), vs = [.int (m : Int), .int (t : Int), .int (p : Int)] ∧ m = 2 ^ k ∧ Q (.int ((spt m t p : Nat) : Int)) H
def spPair : Sp := fun vs H Q _ => ∃ (x y : V), vs = [x, y] ∧ ((x = .non ∧ y = .non) ∨ ∃ (a b : Addr) (i j : Int), x = .ref a ∧ y = .ref b ∧ H a = some (.tup [.int i, .int j]) ∧ H b = some (.tup [.int i, .int j])) ∧ Q (.bl true) H
def spAsked (C : Addr) : Sp := fun vs H Q _ => ∃ (x l d r : Addr) (M : Tab) (w : Rw) (c : Int), vs = [.ref x, .ref d, .int (M.length : Int), .ref r, .int c] ∧ NearAt C H x l M ∧ OwnAt H d M ∧ Wf M ∧ H r = some (.tup w.vs) ∧
  ∀ H', Same H H' → Q (.bl true) H'
def spRowsL : Sp := fun vs H Q _ => ∃ (a b : Addr) (xs ys : List V) (rs : List Rw), vs = [.ref a, .ref b] ∧ H a = some (.lst xs) ∧ H b = some (.lst ys) ∧ RowsAt H xs rs ∧ RowsAt H ys rs ∧ rs.length ≤ 64 ∧ Q (.bl true) H
def spNoSh : Sp := fun vs H Q _ => ∃ m : Int, vs = [.int m] ∧ Bad m ∧ ∀ H', Same H H' → Q (.bl true) H'
def spLaw (K : PySem.W.Frag) : Sp := fun vs H Q _ => ∃ (a : Addr) (ns : List Int), vs = [.ref a] ∧ SqL K H a (ns.map V.int) ∧ ns.length ≤ 63 ∧ ∀ H', Q (.bl true) H'
end Np
/-! Rules of our own: an instance made where what __init__ raises is wished for at the slots; a caught error that is kept behind its clause; isinstance of it. -/
namespace Np
open PySem PySem.Spec PyProof.Rows L2
/-! ### C(e, ..), where __init__ may raise -/
def tMakeS (C : Addr) (sp : Sp) (W : WX) (t : TA) : TE := fun σ H Q => t σ H fun vs H1 => ∀ x dx, H1 x = none → H1 dx = none → dx ≠ x →
  sp (.ref x :: vs) (upd (upd H1 dx (.own x)) x (.ins C dx [])) (fun v H2 => v = .non ∧ Q (.ref x) H2) (fun cls d H2 => W cls d σ H2)
theorem pe_makeS {X : Cx} {C f : Addr} {k : Nat} {fd : FuncData} {ps : List Str} {sp : Sp} {W : WX} {x : Str} {p pos : Pos} {e : Expr} {es : List Expr} {t : TA}
    (M : Mk X.K C f) (F : FnOk X.prog X.w X.K X.mg X.base (L2.CX X.prog X.w) k f fd ps sp) (hr : Room (k + 1) X.A) (hg : Gl X x) (hm : X.mg x = some (.ref C)) (hb : Binds X.K fd ps [])
    (tk : Takes X W) (ha : PA X (e :: es) t) (hdb : (x == ("__debug__" : Str)) = false := by decide) (he : starEach (e :: es) X.env = (false, eval e X.env) :: starEach es X.env := by rfl)
    (hpl : (backTo pos (starEach es X.env)).any (·.1) = false := by rfl) :
    PE X (.Call (.Name x p) (e :: es) [] pos) (tMakeS C sp W t) := by
  constructor
  intro pins s σ H Q I h
  have args := ha.run pos pins s σ H _ I h
  refine wpAny_Call_Name_kw (ld_glob I hg hm (?_) hdb)
  refine PySem.W.callWith_K (h₀ := X.base) I.ok.mod.kin M.kp (thn args ?_) he hpl
  rintro us s1 ⟨vs, H1, J, r, q⟩
  refine ⟨J.kIn, ?_⟩
  have n1 : H1 (s1.heap.objs.size + 1) = none := J.hok.fresh (Nat.le_succ _)
  have n2 : H1 s1.heap.objs.size = none := J.hok.fresh (Nat.le_refl _)
  have want := q _ _ n1 n2 (Nat.ne_of_lt (Nat.lt_succ_self _))
  have I2 := Inv.made (C := C) J
  have rr : Vals (V.ref (s1.heap.objs.size + 1) :: vs) (Value.ref (s1.heap.objs.size + 1) :: us) := .cons rfl r
  have len : (Value.ref (s1.heap.objs.size + 1) :: us).length = ps.length := by
    rw [← rr.length]
    exact F.len _ _ _ _ want
  have bind := hb _ (Value.ref (s1.heap.objs.size + 1) :: us) I2.kIn (by rw [List.append_nil]; exact len)
  rw [List.append_nil] at bind
  have call := F.run _ X.stack _ _ ⟨Value.ref (s1.heap.objs.size + 1) :: us, []⟩ (Value.ref (s1.heap.objs.size + 1) :: us) _ _ _ (hr.make C us []) (I2.env0.make C us []) bind rr want
  refine wpAny_call (make_map (f := f) J.kIn M.makes M.init (beq_iff_eq.mp M.fn) (codeAny_mono call ?_))
  rintro (err | fl) s2 hend
  · exact tk err s2 (XE.of_call (W := W) I2 (fun _ _ _ z => z) hend)
  · cases fl with
    | ret u =>
      obtain ⟨v, H2, J2, rv, ev, q2⟩ := I2.after hend
      subst ev
      exact ⟨rv, ⟨V.ref (s1.heap.objs.size + 1), H2, J2, rfl, q2⟩⟩
    | next => exact False.elim hend
    | brk => exact False.elim hend
    | cont => exact False.elim hend

/-! ### the object of a caught error, kept -/
def ExH (cls : Value) (d : Option Addr) (a : Addr) : HO := .ext fun h => ∃ (oe : Obj) (fv : Array Value), h.get? a = some oe ∧ Zc cls d oe ∧ oe.data = .fields fv
theorem exH_ok {P : Program} {w : World} {H : Hp} {h : Heap} {a : Addr} {cls : Value} {d : Option Addr} {oe : Obj} {fv : Array Value} (e : h.get? a = some oe) (z : Zc cls d oe) (q : oe.data = .fields fv) : ObjOk P w H h a (ExH cls d a) :=
  ⟨⟨oe, fv, e, z, q⟩, ⟨oe, e⟩, fun _ _ ⟨o, v, e1, r⟩ k => ⟨o, v, k o e1, r⟩⟩
/-- an object that stands still in the heap, new since the entry, comes under the abstract heap -/
theorem track {X : Cx} {pins : List (Addr × Obj)} {σ : L2.St} {H : Hp} {s : Shared} {a : Addr} {oe : Obj} {fv : Array Value} {cls : Value} {d : Option Addr} (I : Inv X pins σ H s)
    (e : s.heap.get? a = some oe) (z : Zc cls d oe) (q : oe.data = .fields fv) (na : H a = none) (n0 : X.s_0.heap.get? a = none) (nL : a ≠ X.env.locals) (np : ∀ p ∈ X.pn ++ pins, p.1 ≠ a) :
    Inv X pins σ (upd H a (ExH cls d a)) s := by
  have nC : ∀ y c, X.env.cells.lookup y = some c → c ≠ a := fun y c l w => by
    obtain ⟨v, o, ho, hd⟩ := I.cell y c l
    rw [w, e] at ho
    cases ho
    rw [q] at hd
    cases hd
  have ne0 : ∀ b o, X.s_0.heap.get? b = some o → b ≠ a := fun b o h w => by
    rw [w, n0] at h
    cases h
  have B := I.base
  have new : ObjOk X.prog X.w (upd H a (ExH cls d a)) s.heap a (ExH cls d a) := exH_ok e z q
  refine { ok := I.ok, os := I.os, bare := I.bare, base := ?_, loc := I.loc, cell := I.cell, free := ?_, freeC := ?_, pin := ?_, hok := ?_, len := I.len }
  · refine { keep := B.keep, slot := B.slot, free := fun b o h n hx => ?_, there := B.there, tups := fun b xs h => ?_, frzs := fun b o u h => ?_, tbls := fun b ps h => ?_ }
    · rw [upd_ne (ne0 b o h)]
      exact B.free b o h n hx
    · have t := B.tups b xs h
      rw [upd_ne (ne_of_none t na)]
      exact t
    · have t := B.frzs b o u h
      rw [upd_ne (ne_of_none t na)]
      exact t
    · obtain ⟨more, t⟩ := B.tbls b ps h
      exact ⟨more, by rw [upd_ne (ne_of_none t na)]; exact t⟩
  · rw [upd_ne (Ne.symm nL)]
    exact I.free
  · intro y c l
    rw [upd_ne (nC y c l)]
    exact I.freeC y c l
  · intro p hp
    obtain ⟨h1, h2, h3⟩ := I.pin p hp
    exact ⟨h1, by rw [upd_ne (np p hp)]; exact h2, h3⟩
  · intro b u h
    by_cases hb : b = a
    · subst hb
      rw [upd_same] at h
      cases h
      exact new
    · rw [upd_ne hb] at h
      exact (I.hok b u h).stay (fun c v _ w => w) (fun c w => by rw [upd_ne (ne_of_none w na)]; exact w) fun c xs w => by rw [upd_ne (ne_of_none w na)]; exact w
/-- what «except x as n» wishes of the body's errors, the caught one kept behind the clause (slot i is n's; the suite does not return) -/
def wHold (K : PySem.W.Frag) (c : Value) (i : Nat) (ts : Addr → Value → Option Addr → TS) (Wout : WX) (D : Ends) : WX := fun cls d σ H =>
  ∃ b, PySem.W.exmOne K cls c = some b ∧ (b = false → Wout cls d σ H) ∧
    (b = true → ∀ a, H a = none → ts a cls d { nx := fun σ' H' => H' a = none → D.nx (σ'.set i none) (upd H' a (ExH cls d a)), rt := fun _ _ => False } (σ.set i (some (.ref a))) H)
section
variable {X : Cx} {tb : WX → TS} {ts : Addr → Value → Option Addr → TS} {Wout : WX} {c : Value} {i : Nat} {x n : Str} {b₀ : Stmt} {body suite : List Stmt} {np pos pos' : Pos}
theorem ps_try_hold (hs : X.stack = X.env :: X.outer) (hf : X.env.frame = some X.env.locals) (hex : X.ex = []) (hN : X.N.Nodup) (hi : X.N[i]? = some n) (hln : X.env.kindOf n = some .local) (hc : Names X x c) (tk : Takes X Wout)
    (hb : ∀ (W : WX) (pn : List (Addr × Obj)) (xe : Value → Shared → Prop), Takes (X.tr pn xe) W →
      PassesOwn (model X.prog X.w) X.A X.env xe → PSs (X.tr pn xe) body (tb W))
    (hsu : ∀ (a : Addr) (oe : Obj) (cls : Value) (d : Option Addr) (pn : List (Addr × Obj)), Zc cls d oe →
      (∃ fv, oe.data = .fields fv) → PSs (X.suite a ((a, oe) :: pn)) (b₀ :: suite) (ts a cls d)) :
    PS X (.Try body [.ExceptHandler (some (.Name x np)) (some n) (b₀ :: suite) pos'] [] [] pos) (fun D σ H => tb (wHold X.K c i ts Wout D) D σ H) := by
  constructor
  intro pins s σ H D I h
  have ok := I.ok
  have frames : X.A.frames = some (X.env :: X.outer) := by
    rw [ok.frames, hs]
  have lcl : Loc X.env.scope n := Or.inl hln
  refine wpAny_Try_except ?_
  have run := (hb (wHold X.K c i ts Wout D) (X.pn ++ pins) (fun e s₁ =>
      wpAny (model X.prog X.w) X.A (noteFrame e X.env) (fun _ s₂ =>
        wpAny (model X.prog X.w) X.A (setFlight e none) (fun _ s₃ =>
          wpAny (model X.prog X.w) X.A (handleBy e X.env [.ExceptHandler (some (.Name x np)) (some n) (b₀ :: suite) pos']) (SP X pins D) X.xe s₃) X.xe s₂) X.xe s₁)
    ?hT PassesOwn.looking).run [] s σ H D (I.toTry _) h
  · refine wpAny_mono run (fun fl s1 hend => ?_) (fun _ _ z => z)
    cases fl with
    | next =>
      obtain ⟨σ1, H1, J, q⟩ := hend
      exact wpAny_execs_nil ⟨σ1, H1, J.ofTry ok, q⟩
    | brk =>
      obtain ⟨σ1, H1, J, q⟩ := hend
      exact ⟨σ1, H1, J.ofTry ok, q⟩
    | cont =>
      obtain ⟨σ1, H1, J, q⟩ := hend
      exact ⟨σ1, H1, J.ofTry ok, q⟩
    | ret u =>
      obtain ⟨v, σ1, H1, J, r, q⟩ := hend
      exact ⟨v, σ1, H1, J.ofTry ok, r, q⟩
  case hT =>
    rintro u s2 ⟨a, B, sI, pins1, σ1, H1, cls, d, rfl, J1, nb, up, sky, na, os, ag, b, hb1, hno, hyes⟩
    have J : Inv X pins σ1 H1 sI := J1.ofTry ok
    have air : Sky B (X.env :: X.outer) a (Zc cls d) X.env.locals s2.heap := by
      rw [← hs]
      exact sky
    show wpAny (model X.prog X.w) X.A (noteFrame (Value.ref a) X.env) _ _ _
    refine Sky.land Zc.steady frames hf air fun h3 f3 up3 => ?_
    have J3 : Inv X pins σ1 H1 { s2 with heap := h3 } := J.landed nb f3.1 (up.trans up3) os ag
    obtain ⟨o3, v3, g3, z3, d3⟩ := f3.there
    have noFrame : a ∉ frs (X.env :: X.outer) := fun hm => by
      obtain ⟨_, o, e, hnf⟩ := f3.2.2.1.mem hm
      rw [g3] at e
      cases e
      exact hnf _ d3
    have nL : a ≠ X.env.locals := fun w => noFrame (List.mem_filterMap.mpr ⟨X.env, List.mem_cons_self, by rw [hf, w]⟩)
    have notF : a ∉ X.fs := fun hm => by
      obtain ⟨e, he, w⟩ := List.mem_filterMap.mp hm
      exact noFrame (List.mem_filterMap.mpr ⟨e, List.mem_cons_of_mem _ he, w⟩)
    -- a is new: neither at the entry nor among what is pinned
    have nI : sI.heap.get? a = none := by
      cases w : sI.heap.get? a with
      | none => rfl
      | some o =>
        have z := nb a o w (by rw [hs]; exact noFrame)
        rw [f3.2.1] at z
        cases z
    have new0 : X.s_0.heap.get? a = none := by
      cases w : X.s_0.heap.get? a with
      | none => rfl
      | some o =>
        obtain ⟨o', z⟩ := J.base.there a o w (by rw [hex]; exact fun z => nomatch z)
        rw [nI] at z
        cases z
    have notPin : ∀ p ∈ X.pn ++ pins, p.1 ≠ a := fun p hp w => by
      have z := (J.pin p hp).1
      rw [w, nI] at z
      cases z
    have S3 := J3.suite g3 d3 na nL notF
    refine wpAny_handleBy_cons (codeAny_handlers_test ?_) (by intro w; cases w)
    have tyA : PySem.W.Looks (model X.prog X.w) h3 (typeOf (.ref a)) cls := fun A Q E s k w => wpAny_typeOf_ref (k _ _ g3) (by rw [z3.1]; exact w)
    have fits := PySem.W.exm_one (M := model X.prog X.w) (J3.kIn) tyA hb1
    have named : ∀ {Q : Value → Shared → Prop} {E : Value → Shared → Prop}, Q c { s2 with heap := h3 } → wpAny (model X.prog X.w) (X.A.mark (some (.ref a))) (eval (.Name x np) X.env) Q E { s2 with heap := h3 } := by
      intro Q E w
      rcases hc with ⟨hg, hdbg, hm | ⟨hm, hv, hnn⟩⟩
      · exact ld_glob (X := X.suite a ((a, o3) :: (X.pn ++ pins))) S3 hg hm w hdbg
      · exact ld_blt (X := X.suite a ((a, o3) :: (X.pn ++ pins))) S3 hg hm hv w hnn hdbg
    refine named (fits.here ?_)
    cases b with
    | true =>
      refine codeAny_handlers_suite_as (HandSPX.lands_againZ f3 fun h4 f4 up4 => ?_)
      have J4 : Inv X pins σ1 H1 { s2 with heap := h4 } := J.landed nb f4.1 ((up.trans up3).trans up4) os ag
      obtain ⟨o4, v4, g4, z4, d4⟩ := f4.there
      have S4 := J4.suite g4 d4 na nL notF
      refine store_ok (X := X.suite a ((a, o4) :: (X.pn ++ pins))) (v := .ref a) S4 hN hi lcl rfl (fun s5 S5 => ?_) (Or.inr hln)
      refine wpAny_mono ((hsu a o4 cls d (X.pn ++ pins) z4 ⟨_, d4⟩).run [] s5 _ H1 _ S5 (hyes rfl a na)) (fun fl s6 hend => ?_) (fun _ _ z => z.elim)
      cases fl with
      | next =>
        obtain ⟨σ6, H6, S6, q6⟩ := hend
        refine gone_ok (X := X.suite a ((a, o4) :: (X.pn ++ pins))) (A := X.A) S6 hN hi hln fun s7 S7 => ?_
        obtain ⟨p1, p2, _⟩ := S7.pin (a, o4) (List.mem_append_left _ List.mem_cons_self)
        exact ⟨_, _, track (S7.unsuite ok) p1 z4 d4 p2 new0 nL notPin, q6 p2⟩
      | brk =>
        obtain ⟨_, _, _, z⟩ := hend
        exact z.elim
      | cont =>
        obtain ⟨_, _, _, z⟩ := hend
        exact z.elim
      | ret u =>
        obtain ⟨_, _, _, _, _, z⟩ := hend
        exact z.elim
    | false =>
      show wpAny _ X.A (handleBy (Value.ref a) X.env []) _ _ _
      refine wpAny_handleBy_nil ?_
      obtain ⟨k1, k2, k3, oe, fv, T, oT, tv, he, hz, hd, h1, hr⟩ := id f3
      unfold PySem.passOn
      refine wpAny_bind (wpAny_field he hd h1 (?_))
      have some_T : ¬ ((Value.ref T == Value.none) = true) := by simp
      rw [if_neg some_T]
      have on : wpAny (model X.prog X.w) X.A (setFlight (.ref a) X.env.frame) (fun _ s4 => wpAny (model X.prog X.w) X.A (throw (.ref a) : Sem Flow) (SP X pins D) X.xe s4) X.xe { s2 with heap := h3 } := by
        rw [hf]
        refine HandSPX.setFlight_upZ f3 fun h4 held up4 => wpAny_throw (tk _ _ ?_)
        refine ⟨a, B, sI, pins, σ1, H1, cls, d, rfl, J, nb, (up.trans up3).trans up4, Or.inr (Or.inr ?_), na, os, ag, hno rfl⟩
        rw [hs]
        exact held
      first
        | exact wpAny_bind on
        | exact wpAny_bind (wpAny_pure (wpAny_bind on))
end

/-! ### isinstance of such an object -/
section
variable {X : Cx}
theorem inst_kept {P : Program} {w : World} {H : Hp} {h : Heap} {a D : Addr} (ok : ObjOk P w H h a (ExH (.ref D) none a)) : ∃ oe, PySem.W.InstAt h a oe D none := by
  obtain ⟨⟨oe, fv, e, z, q⟩, _, _⟩ := ok
  obtain ⟨o1, o2, o3, o4⟩ := oe
  obtain ⟨z1, z2⟩ := z
  dsimp only at z1 z2 q
  subst z1 z2 q
  exact ⟨_, e, rfl, rfl, trivial⟩
def rIsX (K : PySem.W.Frag) : List V → Hp → VK → Prop := fun xs H Q => ∃ (a D : Addr) (c : V) (cv : Value) (b : Bool), xs = [.ref a, c] ∧ H a = some (ExH (.ref D) none a) ∧ ExcC K D ∧ ClsV c cv ∧ PySem.W.kitOne K (.ref D) cv = some b ∧ Q (.bl b) H
theorem call_isX : CallR X (.builtin "isinstance") (rIsX X.K) := by
  rintro pins s σ H xs us Q I r ⟨a, D, c, cv, b, rfl, ha, C, k, e, q⟩
  obtain ⟨y1, y2, rfl, r1, r2⟩ := vals2 r
  cases (show y1 = Value.ref a from r1)
  have e2 := k.eq r2
  subst e2
  obtain ⟨oe, J⟩ := inst_kept (I.hok a _ ha)
  have Z := PySem.W.handS_kitx_exc (x := a) (ox := oe) C.hg C.hk C.hs C.hd C.ha C.hn C.ht C.hm
  exact PySem.W.kia_one Z I.kIn J e (fun z => nomatch z) fun tk => ⟨.bl b, H, I.tok tk, rfl, q⟩
def rIsXT (K : PySem.W.Frag) : List V → Hp → VK → Prop := fun xs H Q => ∃ (a D tp : Addr) (cs : List V) (ws : List Value) (b : Bool), xs = [.ref a, .ref tp] ∧ H a = some (ExH (.ref D) none a) ∧ ExcC K D ∧
  H tp = some (.tup cs) ∧ Paired ClsV cs ws ∧ PySem.W.kitAny K (.ref D) ws = some b ∧ Q (.bl b) H
theorem call_isXT : CallR X (.builtin "isinstance") (rIsXT X.K) := by
  rintro pins s σ H xs us Q I r ⟨a, D, tp, cs, ws, b, rfl, ha, C, hT, k, e, q⟩
  obtain ⟨y1, y2, rfl, r1, r2⟩ := vals2 r
  cases (show y1 = Value.ref a from r1)
  cases (show y2 = Value.ref tp from r2)
  obtain ⟨oe, J⟩ := inst_kept (I.hok a _ ha)
  have Z := PySem.W.handS_kitx_exc (x := a) (ox := oe) C.hg C.hk C.hs C.hd C.ha C.hn C.ht C.hm
  have T : ObjOk X.prog X.w H s.heap tp (.tup cs) := I.hok tp _ hT
  obtain ⟨_, its, rv, o, h1, h2, m, h3⟩ := T
  have e3 := ClsV.all k rv
  subst e3
  obtain ⟨c1, c2, c3, c4⟩ := o
  simp only at h2 h3
  subst h2 h3
  exact PySem.W.kia_tup Z I.kIn J h1 e (fun z => nomatch z) fun tk => ⟨.bl b, H, I.tok tk, rfl, q⟩
end
end Np
/-! The methods of Near. -/
namespace Np
open PySem L2
/-- what the top has left, as the defs need it -/
structure Txt (K : PySem.W.Frag) (mg : Str → Option Value) (C NS LE FU NN : Addr) : Prop where
  cl : Cls K C
  nL : NoAttr K C "lying"
  mgC : mg "Near" = some (.ref C)
  most : ∃ t, mg "MOST_PLACES" = some (.int 64 t)
  gNS : mg "NoShape" = some (.ref NS)
  gLE : mg "LeafError" = some (.ref LE)
  gFU : mg "Full" = some (.ref FU)
  gNN : mg "NoNumber" = some (.ref NN)
  xNS : PySem.W.excIn K NS [.type "ValueError", .type "Exception", .type "BaseException", .type "object"] "ValueError.__new__" = true
  kNS : PySem.W.keepIn K (.ref NS) = true
  bNS : PySem.W.subIn K (.ref NS) (.type "BaseException") = some true
  tNS : PySem.W.typeIn K (.ref NS) = some (.type "type")
  eLE : PySem.W.exmOne K (.ref NS) (.ref LE) = some true
  ec : ExcC K NS
  isNS : PySem.W.kitOne K (.ref NS) (.ref NS) = some true
  isVE : PySem.W.kitOne K (.ref NS) (.type "ValueError") = some true
  isFN : PySem.W.kitAny K (.ref NS) [.ref FU, .ref NN] = some false
  len : mg "len" = none
  rng : mg "range" = none
  srt : mg "sorted" = none
  isi : mg "isinstance" = none
  int : mg "int" = none
  boo : mg "bool" = none
  tup : mg "tuple" = none
  lis : mg "list" = none
  ver : mg "ValueError" = none

section
variable {P : Program} {w : World} {K : PySem.W.Frag} {mg : Str → Option Value} {base : Heap} {C NS LE FU NN : Addr}
/-! ### __init__ -/
theorem scI : FnScope ["self", "many"] ["self", "many"] (defScope sInit) := ⟨rfl, rfl, rfl, by decide +kernel, rfl, by decide +kernel, by decide +kernel⟩
theorem ok_init {f : Addr} {fd : FuncData} (F : Fun K "__init__" "Near.__init__" sInit f fd) (T : Txt K mg C NS LE FU NN) : FnOk P w K mg base (L2.CX P w) 1 f fd ["self", "many"] (spInit C NS) := by
  refine F.okX scI (fun vs H Q E h => ?_) (fun cdv A outer s H vs Q E hr h => ?_)
  · obtain ⟨x, dx, m, rfl, _⟩ := h
    rfl
  · obtain ⟨x, dx, m, rfl, hx, hE, hQ⟩ := h
    obtain ⟨tk, most⟩ := T.most
    refine ⟨_, pss_cons (ps_if (PW.pt (pw_or (pt_cmpR op_lt (pv 1) pe_int (nomark _)) (pw_or (pt_cmpR op_gt (pv 1) (pe_glob (v := .int 64) rfl most ⟨_, rfl⟩) (nomark _))
        (pw_or1 (pt_cmpR op_ne (pe_op op_and (pv 1) (pe_op op_sub (pv 1) pe_int)) pe_int (nomark _))))))
        (pss_one (ps_raise rfl (takes_of rfl rfl rfl rfl) (pmk_own PySem.F.excBase_ValueError T.xNS T.gNS T.kNS (raises_own T.bNS T.tNS) rfl))) pss_nil)
      (pss_one (ps_fld (pv 0) (pe_op op_rep (pe_lst (pa_cons pe_non pa_nil)) (pv 1)) rfl)), ?_⟩
    refine ⟨_, rfl, _, _, rfl, rfl, _, rfl, ite2 (fun h0 => iteT (hE (.inl (of_decide_eq_true h0)))) (fun h0 => ?_)⟩
    refine ⟨_, rfl, _, _, rfl, rfl, _, rfl, ite2 (fun h1 => iteT (hE (.inr (.inl (of_decide_eq_true h1))))) (fun h1 => ?_)⟩
    refine ⟨_, rfl, _, rfl, _, _, rfl, rfl, _, _, rfl, rfl, rfl, _, rfl, ?_⟩
    by_cases h2 : Builtin.bitAnd m (m - 1) = 0
    · have good : ¬ Bad m := by
        rintro (z | z | z)
        · exact h0 (decide_eq_true z)
        · exact h1 (decide_eq_true z)
        · exact z h2
      have m0 : 0 ≤ m := by
        rcases Int.lt_or_le m 0 with z | z
        · exact absurd (decide_eq_true z) h0
        · exact z
      have m64 : m ≤ 64 := by
        rcases Int.lt_or_le 64 m with z | z
        · exact absurd (decide_eq_true z) h1
        · exact z
      have e2 : (!decide (V.int (Builtin.bitAnd m (m - 1)) = V.int 0)) = false := by
        rw [h2]
        rfl
      show if (!decide (V.int (Builtin.bitAnd m (m - 1)) = V.int 0)) = true then _ else _
      rw [e2]
      refine iteF ?_
      refine ⟨by show 1 ≤ sizeLine; decide, fun p hp => ?_⟩
      have s1 : Same H (upd H p (.lst [.non])) := same_new hp
      refine ⟨_, rfl, p, m, [.non], rfl, rfl, upd_same, by omega, by omega, ?_, fun l hl => ?_⟩
      · rw [show ([V.non] : List V).length = 1 from rfl, Nat.one_mul]
        exact Nat.le_of_lt (small1000 (by omega))
      have hx1 : (upd (upd H p (.lst [.non])) l (.lst (List.replicate m.toNat [V.non]).flatten)) x = some (.ins C dx []) := same_new hl _ _ (s1 _ _ hx)
      have nxl : l ≠ x := fun z => by
        rw [z] at hl
        have q := s1 _ _ hx
        rw [hl] at q
        cases q
      refine ⟨_, rfl, x, C, dx, [], rfl, hx1, T.cl, T.nL, by show 0 < 1000; decide, ?_⟩
      refine hQ good l _ (s1.free hl) (fun b o e nb => ?_) upd_same ?_
      · rw [upd_ne nb]
        exact same_new hl _ _ (s1 _ _ e)
      · rw [upd_ne nxl, upd_same]
        have e3 : (List.replicate m.toNat [V.non]).flatten = List.replicate m.toNat V.non := by
          generalize m.toNat = n
          induction n with
          | zero => rfl
          | succ n ih =>
            rw [List.replicate_succ, List.flatten_cons, ih, List.replicate_succ]
            rfl
        rw [e3]
    · have e2 : (!decide (V.int (Builtin.bitAnd m (m - 1)) = V.int 0)) = true := by
        rw [decide_eq_false (fun z => h2 (V.int.inj z))]
        rfl
      show if (!decide (V.int (Builtin.bitAnd m (m - 1)) = V.int 0)) = true then _ else _
      rw [e2]
      exact iteT (hE (.inr (.inr h2)))

/-! ### spot -/
theorem scSp : FnScope ["self", "task", "page"] ["self", "task", "page"] (defScope sSpot) := ⟨rfl, rfl, rfl, by decide +kernel, rfl, by decide +kernel, by decide +kernel⟩
theorem ok_spot {f : Addr} {fd : FuncData} (F : Fun K "spot" "Near.spot" sSpot f fd) (T : Txt K mg C NS LE FU NN) : FnOk P w K mg base CX0 1 f fd ["self", "task", "page"] (spSpot C) := by
  refine F.ok scSp (fun vs H Q E h => ?_) (fun cdv A outer s H vs Q E hr h => ?_)
  · obtain ⟨x, l, M, k, t, p, rfl, _⟩ := h
    rfl
  · obtain ⟨x, l, M, k, t, p, rfl, ⟨⟨dx, hx⟩, xs, hl, hz, hc⟩, hk, q⟩ := h
    refine ⟨_, pss_one (ps_ret (pe_op op_and (pe_op op_xor (pv 2) (pv 1)) (pe_op op_sub (pe_callB call_len_seq (by rfl) T.len PySem.boot_len (pa_cons (pe_fld (pv 0) rfl) pa_nil)) pe_int))), ?_⟩
    refine ⟨_, rfl, _, rfl, _, _, rfl, rfl, _, rfl, x, C, dx, _, _, rfl, hx, T.cl, T.nL, nf_lying _, l, _, rfl, .inl (SqL.of hl), _, _, rfl, rfl, _, _, rfl, rfl, ?_⟩
    show Q (V.int (Builtin.bitAnd (Builtin.bitXor (p : Int) (t : Int)) ((xs.length : Int) - 1))) H
    rw [xor_ofNat, and_mask _ k _ (hz.trans hk), hz]
    exact q

/-! ### found -/
theorem scF : FnScope ["self", "task", "page", "row"] ["self", "task", "page"] (defScope sFound) := ⟨rfl, rfl, rfl, by decide +kernel, rfl, by decide +kernel, by decide +kernel⟩
theorem ok_found {f fS : Addr} {fd fdS : FuncData} (F : Fun K "found" "Near.found" sFound f fd) (T : Txt K mg C NS LE FU NN) (FS : Fun K "spot" "Near.spot" sSpot fS fdS) (bS : Binds K fdS ["self", "task", "page"] []) (mS : Meth K C "spot" fS) :
    FnOk P w K mg base CX0 2 f fd ["self", "task", "page"] (spFound C) := by
  have GS : FnOk P w K mg base CX0 1 fS fdS ["self", "task", "page"] (spSpot C) := ok_spot FS T
  refine F.ok scF (fun vs H Q E h => ?_) (fun cdv A outer s H vs Q E hr h => ?_)
  · obtain ⟨x, l, M, t, p, rfl, _⟩ := h
    rfl
  · obtain ⟨x, l, M, t, p, rfl, N, wf, q0, q1⟩ := h
    obtain ⟨⟨dx, hx⟩, xs, hl, hz, hc⟩ := id N
    refine ⟨_, pss_cons (ps_if (pt_cmpR op_eq (pe_callB call_len_seq (by rfl) T.len PySem.boot_len (pa_cons (pe_fld (pv 0) rfl) pa_nil)) pe_int (nomark _)) (pss_one (ps_ret pe_non)) pss_nil)
      (pss_cons (ps_set (i := 3) scF.nd rfl (.inl rfl) (pe_ix ix_list (pe_fld (pv 0) rfl) (pe_meth (pv 0) T.cl mS GS hr bS .nil pass0 (pa_cons (pv 1) (pa_cons (pv 2) pa_nil))) (fun _ _ => rfl)))
      (pss_cons (ps_if (PW.pt (pw_or (pt_cmpR op_isN (pv 3) pe_non (nomark _)) (pw_or (pt_cmpR op_ne (pe_ix ix_tup (pv 3) pe_int (fun _ _ => rfl)) (pv 1) (nomark _))
          (pw_or1 (pt_cmpR op_ne (pe_ix ix_tup (pv 3) pe_int (fun _ _ => rfl)) (pv 2) (nomark _)))))) (pss_one (ps_ret pe_non)) pss_nil)
      (pss_one (ps_ret (pe_tup (pa_cons (pe_ix ix_tup (pv 3) pe_int (fun _ _ => rfl)) (pa_cons (pe_ix ix_tup (pv 3) pe_int (fun _ _ => rfl)) pa_nil))))))), ?_⟩
    refine ⟨_, rfl, x, C, dx, _, _, rfl, hx, T.cl, T.nL, nf_lying _, l, _, rfl, .inl (SqL.of hl), rfl, _, rfl, ite2 (fun h0 => ?_) (fun h0 => ?_)⟩
    · -- no places: nothing is known
      have e0 : (xs.length : Int) = 0 := V.int.inj (of_decide_eq_true h0)
      refine q0 ?_
      have eM : M = [] := List.eq_nil_of_length_eq_zero (by omega)
      rw [eM]
      rfl
    · have n0 : 0 < M.length := by
        rcases Nat.eq_zero_or_pos xs.length with z | z
        · exact absurd (decide_eq_true (show V.int (xs.length : Int) = V.int 0 by rw [z]; rfl)) h0
        · omega
      obtain ⟨k, hk6, hk⟩ : ∃ k, k ≤ 6 ∧ M.length = 2 ^ k := by
        rcases wf with z | z
        · omega
        · exact z
      have hlt : spt M.length t p < M.length := spt_lt n0
      obtain ⟨o, ho⟩ : ∃ o, M[spt M.length t p]? = some o := ⟨_, List.getElem?_eq_getElem hlt⟩
      obtain ⟨v, hv, cv⟩ := hc _ o ho
      refine ⟨_, rfl, x, C, dx, _, _, rfl, hx, T.cl, T.nL, nf_lying _, _, rfl, x, dx, _, rfl, hx, nf_no _ (by decide +kernel), _, rfl, _, rfl, x, l, M, k, t, p, rfl, N, hk, ?_⟩
      refine ⟨l, xs, _, v, rfl, rfl, SqL.of hl, atI_nat hv, ?_⟩
      refine ⟨_, rfl, rfl, _, rfl, ?_⟩
      cases o with
      | none =>
        have cv' : v = .non := cv
        subst cv'
        refine ite2 (fun _ => iteT (q0 ?_)) (fun z => absurd (decide_eq_true rfl) z)
        unfold look
        rw [ho]
      | some w =>
        obtain ⟨a, rfl, ha⟩ := cv
        refine ite2 (fun z => absurd (of_decide_eq_true z) (by intro z; cases z)) (fun _ => ?_)
        refine ⟨_, rfl, a, _, 0, .int (w.t : Int), rfl, rfl, SqT.of ha, atI_nat (j := 0) rfl, _, rfl, rfl, _, rfl, ?_⟩
        have lk : look M t p = if w.t = t ∧ w.p = p then some w else none := by
          unfold look
          rw [ho]
        by_cases h1 : w.t = t
        · have e1 : (!decide (V.int (w.t : Int) = V.int (t : Int))) = false := by
            rw [h1, decide_eq_true rfl]
            rfl
          show if (!decide (V.int (w.t : Int) = V.int (t : Int))) = true then _ else _
          rw [e1]
          refine iteF ?_
          refine ⟨_, rfl, a, _, 1, .int (w.p : Int), rfl, rfl, SqT.of ha, atI_nat (j := 1) rfl, _, rfl, rfl, _, rfl, ?_⟩
          by_cases h2 : w.p = p
          · have e2 : (!decide (V.int (w.p : Int) = V.int (p : Int))) = false := by
              rw [h2, decide_eq_true rfl]
              rfl
            show if (!decide (V.int (w.p : Int) = V.int (p : Int))) = true then _ else _
            rw [e2]
            refine iteF ?_
            refine ⟨_, rfl, a, _, 2, .int (w.f : Int), rfl, rfl, SqT.of ha, atI_nat (j := 2) rfl, _, rfl, a, _, 3, .int (w.r : Int), rfl, rfl, SqT.of ha, atI_nat (j := 3) rfl, by show 2 ≤ sizeLine; decide, fun b hb => ?_⟩
            exact q1 w (by rw [lk, if_pos ⟨h1, h2⟩]) b hb
          · have e2 : (!decide (V.int (w.p : Int) = V.int (p : Int))) = true := by
              rw [decide_eq_false (fun z => h2 (by have q := V.int.inj z; omega))]
              rfl
            show if (!decide (V.int (w.p : Int) = V.int (p : Int))) = true then _ else _
            rw [e2]
            exact iteT (q0 (by rw [lk, if_neg (fun z => h2 z.2)]))
        · have e1 : (!decide (V.int (w.t : Int) = V.int (t : Int))) = true := by
            rw [decide_eq_false (fun z => h1 (by have q := V.int.inj z; omega))]
            rfl
          show if (!decide (V.int (w.t : Int) = V.int (t : Int))) = true then _ else _
          rw [e1]
          exact iteT (iteT (q0 (by rw [lk, if_neg (fun z => h1 z.1)])))

/-! ### note -/
theorem scN : FnScope ["self", "task", "page", "frame", "rights"] ["self", "task", "page", "frame", "rights"] (defScope sNote) := ⟨rfl, rfl, rfl, by decide +kernel, rfl, by decide +kernel, by decide +kernel⟩
theorem ok_note {f fS : Addr} {fd fdS : FuncData} (F : Fun K "note" "Near.note" sNote f fd) (T : Txt K mg C NS LE FU NN) (FS : Fun K "spot" "Near.spot" sSpot fS fdS) (bS : Binds K fdS ["self", "task", "page"] []) (mS : Meth K C "spot" fS) :
    FnOk P w K mg base CX0 2 f fd ["self", "task", "page", "frame", "rights"] (spNote C) := by
  have GS : FnOk P w K mg base CX0 1 fS fdS ["self", "task", "page"] (spSpot C) := ok_spot FS T
  refine F.ok scN (fun vs H Q E h => ?_) (fun cdv A outer s H vs Q E hr h => ?_)
  · obtain ⟨x, l, M, w, rfl, _⟩ := h
    rfl
  · obtain ⟨x, l, M, w, rfl, N, wf, q⟩ := h
    obtain ⟨⟨dx, hx⟩, xs, hl, hz, hc⟩ := id N
    refine ⟨_, pss_one (ps_if (pt_cmpR op_gt (pe_callB call_len_seq (by rfl) T.len PySem.boot_len (pa_cons (pe_fld (pv 0) rfl) pa_nil)) pe_int (nomark _))
      (pss_one (ps_asg (pe_tup (pa_cons (pv 1) (pa_cons (pv 2) (pa_cons (pv 3) (pa_cons (pv 4) pa_nil))))) (pg_sub (pe_fld (pv 0) rfl) (pe_meth (pv 0) T.cl mS GS hr bS .nil pass0 (pa_cons (pv 1) (pa_cons (pv 2) pa_nil))) set_list))) pss_nil), ?_⟩
    refine ⟨_, rfl, x, C, dx, _, _, rfl, hx, T.cl, T.nL, nf_lying _, l, _, rfl, .inl (SqL.of hl), _, _, rfl, rfl, _, rfl, ite2 (fun h0 => ?_) (fun h0 => ?_)⟩
    · have n0 : 0 < M.length := by
        have z : (0 : Int) < (xs.length : Int) := of_decide_eq_true h0
        omega
      obtain ⟨k, hk6, hk⟩ : ∃ k, k ≤ 6 ∧ M.length = 2 ^ k := by
        rcases wf with z | z
        · omega
        · exact z
      have hlt : spt M.length w.t w.p < M.length := spt_lt n0
      refine ⟨_, rfl, _, rfl, _, rfl, _, rfl, by show 4 ≤ sizeLine; decide, fun t ht => ?_⟩
      have s1 : Same H (upd H t (.tup [.int (w.t : Int), .int (w.p : Int), .int (w.f : Int), .int (w.r : Int)])) := same_new ht
      have hx1 := s1 _ _ hx
      have hl1 := s1 _ _ hl
      have ntl : t ≠ l := (ne_of_none hl ht).symm
      have nxl : x ≠ l := ne_of hx hl (by intro z; cases z)
      refine ⟨_, rfl, x, C, dx, _, _, rfl, hx1, T.cl, T.nL, nf_lying _, _, rfl, x, dx, _, rfl, hx1, nf_no _ (by decide +kernel), _, rfl, _, rfl, x, l, M, k, w.t, w.p, rfl, N.same s1, hk, ?_⟩
      have hj : ixN xs.length ((spt M.length w.t w.p : Nat) : Int) = some (spt M.length w.t w.p) := by
        unfold ixN
        rw [if_pos (Int.natCast_nonneg _), if_pos (by omega), Int.toNat_natCast]
      refine ⟨l, xs, _, _, rfl, rfl, hl1, hj, ?_⟩
      refine q _ (fun b o e nb => ?_) ⟨⟨dx, by rw [upd_ne nxl]; exact hx1⟩, _, upd_same, by rw [List.length_set, put_length]; exact hz, fun i o e => ?_⟩
      · rw [upd_ne nb]
        exact s1 _ _ e
      · unfold put at e
        by_cases hi : spt M.length w.t w.p = i
        · subst hi
          rw [List.getElem?_set_self hlt] at e
          cases e
          refine ⟨_, List.getElem?_set_self (by omega), t, rfl, ?_⟩
          rw [upd_ne ntl, upd_same]
          rfl
        · rw [List.getElem?_set_ne hi] at e
          obtain ⟨v, hv, cv⟩ := hc i o e
          refine ⟨v, by rw [List.getElem?_set_ne hi]; exact hv, ?_⟩
          exact (cv.keep (E := fun _ => False) (Keep.of_same s1) nev).keep (E := (· = l)) (keep_upd rfl) (fun b ys h z => by
            rw [z, hl1] at h
            cases h)
    · -- no places: nothing is noted
      have eM : M = [] := List.eq_nil_of_length_eq_zero (by
        rcases Nat.eq_zero_or_pos M.length with z | z
        · exact z
        · exact absurd (decide_eq_true (show (0 : Int) < (xs.length : Int) by omega)) h0)
      refine q H (fun b o e _ => e) ?_
      have ep : put M w = M := by
        rw [eM]
        rfl
      rw [ep]
      exact N

/-! ### rows -/
theorem scR : FnScope ["self", "row"] ["self"] (defScope sRows) := ⟨rfl, rfl, rfl, by decide +kernel, rfl, by decide +kernel, by decide +kernel⟩
theorem fm_take {M : Tab} {i : Nat} {o : Option Rw} (h : M[i]? = some o) : (M.take (i + 1)).filterMap id = (M.take i).filterMap id ++ o.toList := by
  rw [List.take_add_one, h, List.filterMap_append]
  cases o with
  | none => rfl
  | some w => rfl
theorem fm_len (M : Tab) : (M.filterMap id).length ≤ M.length := List.length_filterMap_le _ _
theorem ok_rows {f : Addr} {fd : FuncData} (F : Fun K "rows" "Near.rows" sRows f fd) (T : Txt K mg C NS LE FU NN) : FnOk P w K mg base CX0 1 f fd ["self"] (spRows C) := by
  refine F.ok scR (fun vs H Q E h => ?_) (fun cdv A outer s H vs Q E hr h => ?_)
  · obtain ⟨x, l, M, rfl, _⟩ := h
    rfl
  · obtain ⟨x, l, M, rfl, N, wf, q⟩ := h
    obtain ⟨⟨dx, hx⟩, xs, hl, hz, hc⟩ := id N
    refine ⟨_, pss_one (ps_ret (pe_lc (own := [("row", 1)]) (g := gName 1) rfl scR.nd (pi_list (pe_fld (pv 0) rfl)) (blkOk_by (N := ["self", "row"]) (sc := defScope sRows) (by decide +kernel))
      (fun _ _ _ _ _ => pg_name (i := 1) scR.nd rfl (Or.inl rfl)) (fun _ _ _ _ _ => pts_one (pt_cmpR op_notN (pv 1) pe_non (nomark _))) (fun _ _ _ _ _ => pv 1))), ?_⟩
    refine ⟨_, rfl, x, C, dx, _, _, rfl, hx, T.cl, T.nL, nf_lying _, l, rfl, ⟨_, SqL.of hl⟩, fun D hD => ?_⟩
    have nDl : l ≠ D := ne_of_none hl hD
    refine lc_list (K := K) (a := l) (xs := xs) (fun i H' => ∃ ys, H' = upd H D (.lst ys) ∧ RowsAt H ys ((M.take i).filterMap id)) ⟨[], rfl, rfl, fun i w e => by simp at e⟩ ?_ ?_ ?_
    · rintro i H' _ ⟨ys, rfl, _⟩
      exact SqL.of (by rw [upd_ne nDl]; exact hl)
    · rintro i v H' hv ⟨ys, rfl, R⟩
      have hi : i < M.length := by
        have z := (List.getElem?_eq_some_iff.mp hv).1
        omega
      obtain ⟨o, ho⟩ : ∃ o, M[i]? = some o := ⟨_, List.getElem?_eq_getElem hi⟩
      obtain ⟨v', hv', cv⟩ := hc i o ho
      have ev : v = v' := Option.some.inj (hv.symm.trans hv')
      subst ev
      have fm := fm_take ho
      refine ⟨rfl, _, rfl, rfl, _, rfl, ?_⟩
      cases o with
      | none =>
        have cv' : v = .non := cv
        subst cv'
        show if (!decide (V.non = V.non)) = true then _ else _
        rw [show (!decide (V.non = V.non)) = false from rfl]
        refine iteF ⟨ys, rfl, ?_⟩
        rw [fm, show (none : Option Rw).toList = [] from rfl, List.append_nil]
        exact R
      | some w =>
        obtain ⟨t, rfl, ht⟩ := cv
        show if (!decide (V.ref t = V.non)) = true then _ else _
        rw [show (!decide (V.ref t = V.non)) = true by rw [decide_eq_false (by intro z; cases z)]; rfl]
        refine iteT ⟨_, rfl, ys, upd_same, ?_, ?_⟩
        · rw [R.1]
          refine small1000 ?_
          have z1 := fm_len (M.take i)
          have z2 := wf.le
          rw [List.length_take] at z1
          omega
        · refine ⟨ys ++ [.ref t], by rw [upd_upd], ?_⟩
          rw [fm]
          show RowsAt H (ys ++ [.ref t]) (_ ++ [w])
          refine ⟨by rw [List.length_append, List.length_append, R.1]; rfl, fun j u hj => ?_⟩
          by_cases hjl : j < ((M.take i).filterMap id).length
          · rw [List.getElem?_append_left hjl] at hj
            obtain ⟨t', h1, h2⟩ := R.2 j u hj
            exact ⟨t', by rw [List.getElem?_append_left (by rw [R.1]; exact hjl)]; exact h1, h2⟩
          · rw [List.getElem?_append_right (by omega)] at hj
            have hj0 : j - ((M.take i).filterMap id).length = 0 := by
              rcases Nat.eq_zero_or_pos (j - ((M.take i).filterMap id).length) with z | z
              · exact z
              · rw [List.getElem?_eq_none (by rw [List.length_singleton]; exact z)] at hj
                cases hj
            rw [hj0] at hj
            have eu : w = u := Option.some.inj hj
            subst eu
            refine ⟨t, ?_, ht⟩
            rw [List.getElem?_append_right (by rw [R.1]; omega), R.1, hj0]
            rfl
    · rintro H' ⟨ys, rfl, R⟩
      rw [hz, List.take_length] at R
      have s1 : Same H (upd H D (.lst ys)) := same_new hD
      exact q _ D ys hD s1 upd_same (R.same s1)
end
end Np
/-! The law's own small defs. -/
namespace Np
open PySem L2
theorem ten60 : (0 : Int) < 10 ^ (60 : Int).toNat := by decide +kernel
theorem two72 : (0 : Int) < 2 ^ (64 : Int).toNat * 256 := by decide +kernel
theorem boot_bool_ : bootBuiltins "bool" = some (.type "bool") := by decide +kernel
theorem boot_int_ : bootBuiltins "int" = some (.type "int") := by decide +kernel
theorem boot_tuple_ : bootBuiltins "tuple" = some (.type "tuple") := by decide +kernel
theorem boot_list_ : bootBuiltins "list" = some (.type "list") := by decide +kernel
theorem boot_ver_ : bootBuiltins "ValueError" = some (.type "ValueError") := by decide +kernel
theorem boot_isi_ : bootBuiltins "isinstance" = some (.builtin "isinstance") := by decide +kernel
theorem boot_sorted_ : bootBuiltins "sorted" = some (.builtin "sorted") := by decide +kernel
section
variable {P : Program} {w : World} {K : PySem.W.Frag} {mg : Str → Option Value} {base : Heap} {C NS LE FU NN : Addr}
/-! ### _law_cell_at -/
theorem scC : FnScope ["_law_script", "_law_k"] ["_law_script", "_law_k"] (defScope lCell) := ⟨rfl, rfl, rfl, by decide +kernel, rfl, by decide +kernel, by decide +kernel⟩
theorem ok_cell {f : Addr} {fd : FuncData} (F : Fun K "_law_cell_at" "_law_cell_at" lCell f fd) (T : Txt K mg C NS LE FU NN) : FnOk P w K mg base CX0 1 f fd ["_law_script", "_law_k"] (spCell K) := by
  refine F.ok scC (fun vs H Q E h => ?_) (fun cdv A outer s H vs Q E hr h => ?_)
  · obtain ⟨a, ns, rfl, _⟩ := h
    rfl
  · obtain ⟨a, ns, rfl, hS, q⟩ := h
    refine ⟨_, pss_cons (ps_if (pt_cmpR op_lt (pv 1) (pe_callB call_len_seq (by rfl) T.len PySem.boot_len (pa_cons (pv 0) pa_nil)) (nomark _)) (pss_one (ps_ret (pe_ix ix_list (pv 0) (pv 1) (fun _ _ => rfl)))) pss_nil)
      (pss_one (ps_ret pe_int)), ?_⟩
    refine ⟨_, rfl, _, rfl, a, _, rfl, .inl hS, _, _, rfl, rfl, _, rfl, ite2 (fun h0 => ?_) (fun _ => q 0)⟩
    cases ns with
    | nil => exact absurd (of_decide_eq_true h0) (by decide)
    | cons z r => exact ⟨_, rfl, _, rfl, a, _, 0, .int z, rfl, rfl, hS, atI_nat (j := 0) rfl, q z⟩

/-! ### _law_whole -/
theorem scW : FnScope ["_law_found"] ["_law_found"] (defScope lWhole) := ⟨rfl, rfl, rfl, by decide +kernel, rfl, by decide +kernel, by decide +kernel⟩
theorem ok_whole {f : Addr} {fd : FuncData} (F : Fun K "_law_whole" "_law_whole" lWhole f fd) (T : Txt K mg C NS LE FU NN) : FnOk P w K mg base CX0 1 f fd ["_law_found"] spWhole := by
  refine F.ok scW (fun vs H Q E h => ?_) (fun cdv A outer s H vs Q E hr h => ?_)
  · obtain ⟨z, rfl, _⟩ := h
    rfl
  · obtain ⟨z, rfl, q⟩ := h
    refine ⟨_, pss_one (ps_ret (pe_and (pe_callB call_isi (by rfl) T.isi boot_isi_ (pa_cons (pv 0) (pa_cons (pe_bltn (v := .ty "int") (by rfl) T.int boot_int_ rfl) pa_nil)))
      (pe_one (pe_not (pe_callB call_isi (by rfl) T.isi boot_isi_ (pa_cons (pv 0) (pa_cons (pe_bltn (v := .ty "bool") (by rfl) T.boo boot_bool_ rfl) pa_nil))))))), ?_⟩
    refine ⟨_, rfl, .int z, .ty "int", .type "int", .type "int", true, rfl, .ty _, .base (.int z), kit_ty (by decide +kernel), true, rfl, iteT ?_⟩
    exact ⟨_, rfl, .int z, .ty "bool", .type "int", .type "bool", false, rfl, .ty _, .base (.int z), kit_ty (by decide +kernel), false, rfl, q⟩

/-! ### _law_drawn -/
theorem scD : FnScope ["_law_cell", "_law_by", "_law_prime", "_law_many"] ["_law_cell", "_law_by", "_law_prime", "_law_many"] (defScope lDrawn) := ⟨rfl, rfl, rfl, by decide +kernel, rfl, by decide +kernel, by decide +kernel⟩
theorem ok_drawn {f : Addr} {fd : FuncData} (F : Fun K "_law_drawn" "_law_drawn" lDrawn f fd) : FnOk P w K mg base CX0 1 f fd ["_law_cell", "_law_by", "_law_prime", "_law_many"] spDrawn := by
  refine F.ok scD (fun vs H Q E h => ?_) (fun cdv A outer s H vs Q E hr h => ?_)
  · obtain ⟨c, b, pr, many, rfl, _⟩ := h
    rfl
  · obtain ⟨c, b, pr, many, rfl, hb, hp, hm, q⟩ := h
    refine ⟨_, pss_one (ps_ret (pe_op op_mod (pe_op op_fdiv (pe_op op_mod (pe_op op_mul (pe_op op_add (pe_op op_mod (pv 0) pe_int) pe_int) (pv 1)) (pv 2)) pe_int) (pv 3))), ?_⟩
    refine ⟨_, rfl, _, _, rfl, rfl, by show (0 : Int) < 1000000007; decide, _, _, rfl, rfl, _, rfl, _, _, rfl, rfl, .inr hb, _, rfl, _, _, rfl, rfl, hp, _, _, rfl, rfl, ⟨by decide, by decide⟩, _, rfl, _, _, rfl, rfl, by show (0 : Int) < (many : Int); omega, ?_⟩
    have h0 : (0 : Int) < (many : Int) := by omega
    have fin : ∀ z : Int, Q (V.int (z % (many : Int))) H := fun z => by
      have h1 := Int.emod_nonneg z (Int.ne_of_gt h0)
      have h2 := Int.emod_lt_of_pos z h0
      obtain ⟨n, e⟩ := Int.eq_ofNat_of_zero_le h1
      rw [e]
      exact q n (by omega)
    exact fin _

/-! ### _law_row -/
theorem scRw : FnScope ["_law_cell", "_law_task", "_law_page"] ["_law_cell"] (defScope lRow) := ⟨rfl, rfl, rfl, by decide +kernel, rfl, by decide +kernel, by decide +kernel⟩
theorem ok_row {f fD : Addr} {fd fdD : FuncData} (F : Fun K "_law_row" "_law_row" lRow f fd) (FD : Fun K "_law_drawn" "_law_drawn" lDrawn fD fdD) (bD : Binds K fdD ["_law_cell", "_law_by", "_law_prime", "_law_many"] []) (gD : mg "_law_drawn" = some (.ref fD)) :
    FnOk P w K mg base CX0 2 f fd ["_law_cell"] spRow := by
  have GD : FnOk P w K mg base CX0 1 fD fdD ["_law_cell", "_law_by", "_law_prime", "_law_many"] spDrawn := ok_drawn FD
  refine F.ok scRw (fun vs H Q E h => ?_) (fun cdv A outer s H vs Q E hr h => ?_)
  · obtain ⟨c, rfl, _⟩ := h
    rfl
  · obtain ⟨c, rfl, q⟩ := h
    have fin : ∀ (T Pg : Int) (n5 n6 : Nat), 0 ≤ T → 0 ≤ Pg → ∀ t, H t = none → Q (.ref t) (upd H t (.tup [.int T, .int Pg, .int (n5 : Int), .int (n6 : Int)])) := fun T Pg n5 n6 h1 h2 t ht => by
      obtain ⟨a, rfl⟩ := Int.eq_ofNat_of_zero_le h1
      obtain ⟨b, rfl⟩ := Int.eq_ofNat_of_zero_le h2
      exact q ⟨a, b, n5, n6⟩ t ht
    refine ⟨_, pss_cons (ps_set (i := 1) scRw.nd rfl (.inl rfl) (pe_call GD hr (by rfl) gD FD.kp bD .nil pass0 (pa_cons (pv 0) (pa_cons pe_int (pa_cons pe_int (pa_cons pe_int pa_nil))))))
      (pss_cons (ps_set (i := 2) scRw.nd rfl (.inl rfl) (pe_call GD hr (by rfl) gD FD.kp bD .nil pass0 (pa_cons (pv 0) (pa_cons pe_int (pa_cons pe_int (pa_cons pe_int pa_nil))))))
      (pss_cons (ps_if (pt_cmpR op_eq (pe_call GD hr (by rfl) gD FD.kp bD .nil pass0 (pa_cons (pv 0) (pa_cons pe_int (pa_cons pe_int (pa_cons pe_int pa_nil))))) pe_int (nomark _))
        (pss_one (ps_set (i := 1) scRw.nd rfl (.inl rfl) (pe_op op_mod (pe_op op_fdiv (pv 0) pe_int) (pe_op op_pow pe_int pe_int)))) pss_nil)
      (pss_cons (ps_if (pt_cmpR op_eq (pe_call GD hr (by rfl) gD FD.kp bD .nil pass0 (pa_cons (pv 0) (pa_cons pe_int (pa_cons pe_int (pa_cons pe_int pa_nil))))) pe_int (nomark _))
        (pss_one (ps_set (i := 2) scRw.nd rfl (.inl rfl) (pe_op op_mod (pe_op op_mul (pe_op op_mod (pv 0) (pe_op op_pow pe_int pe_int)) pe_int) (pe_op op_mul (pe_op op_pow pe_int pe_int) pe_int)))) pss_nil)
      (pss_one (ps_ret (pe_tup (pa_cons (pv 1) (pa_cons (pv 2) (pa_cons (pe_call GD hr (by rfl) gD FD.kp bD .nil pass0 (pa_cons (pv 0) (pa_cons pe_int (pa_cons pe_int (pa_cons pe_int pa_nil)))))
        (pa_cons (pe_call GD hr (by rfl) gD FD.kp bD .nil pass0 (pa_cons (pv 0) (pa_cons pe_int (pa_cons pe_int (pa_cons pe_int pa_nil))))) pa_nil)))))))))), ?_⟩
    refine ⟨_, rfl, c, _, _, 4, rfl, ⟨by decide, by decide⟩, by decide, by decide, fun n1 _ => ?_⟩
    refine ⟨_, rfl, c, _, _, 80, rfl, ⟨by decide, by decide⟩, by decide, by decide, fun n2 _ => ?_⟩
    refine ⟨_, rfl, c, _, _, 4, rfl, ⟨by decide, by decide⟩, by decide, by decide, fun n3 _ => ?_⟩
    refine ⟨rfl, _, rfl, ite2 (fun _ => ?_) (fun _ => ?_)⟩
    · refine ⟨_, rfl, _, _, rfl, rfl, ⟨by decide, by decide⟩, _, _, rfl, rfl, ⟨by decide, by decide, by decide⟩, _, _, rfl, rfl, ten60, ?_⟩
      refine ⟨_, rfl, c, _, _, 4, rfl, ⟨by decide, by decide⟩, by decide, by decide, fun n4 _ => ?_⟩
      refine ⟨rfl, _, rfl, ite2 (fun _ => ?_) (fun _ => ?_)⟩
      · refine ⟨_, rfl, _, _, rfl, rfl, ⟨by decide, by decide, by decide⟩, _, _, rfl, rfl, ten60, _, _, rfl, rfl, .inr ⟨by decide, by decide⟩, _, _, rfl, rfl, ⟨by decide, by decide, by decide⟩, _, _, rfl, rfl, .inr ⟨by decide, by decide⟩, _, _, rfl, rfl, two72, ?_⟩
        refine ⟨_, rfl, _, rfl, _, rfl, c, _, _, 64, rfl, ⟨by decide, by decide⟩, by decide, by decide, fun n5 _ => ?_⟩
        refine ⟨_, rfl, c, _, _, 4, rfl, ⟨by decide, by decide⟩, by decide, by decide, fun n6 _ => ⟨by show 4 ≤ sizeLine; decide, ?_⟩⟩
        exact fin _ _ n5 n6 (Int.emod_nonneg _ (Int.ne_of_gt ten60)) (Int.emod_nonneg _ (Int.ne_of_gt two72))
      · refine ⟨_, rfl, _, rfl, _, rfl, c, _, _, 64, rfl, ⟨by decide, by decide⟩, by decide, by decide, fun n5 _ => ?_⟩
        refine ⟨_, rfl, c, _, _, 4, rfl, ⟨by decide, by decide⟩, by decide, by decide, fun n6 _ => ⟨by show 4 ≤ sizeLine; decide, ?_⟩⟩
        exact fin _ _ n5 n6 (Int.emod_nonneg _ (Int.ne_of_gt ten60)) (Int.natCast_nonneg _)
    · refine ⟨_, rfl, c, _, _, 4, rfl, ⟨by decide, by decide⟩, by decide, by decide, fun n4 _ => ?_⟩
      refine ⟨rfl, _, rfl, ite2 (fun _ => ?_) (fun _ => ?_)⟩
      · refine ⟨_, rfl, _, _, rfl, rfl, ⟨by decide, by decide, by decide⟩, _, _, rfl, rfl, ten60, _, _, rfl, rfl, .inr ⟨by decide, by decide⟩, _, _, rfl, rfl, ⟨by decide, by decide, by decide⟩, _, _, rfl, rfl, .inr ⟨by decide, by decide⟩, _, _, rfl, rfl, two72, ?_⟩
        refine ⟨_, rfl, _, rfl, _, rfl, c, _, _, 64, rfl, ⟨by decide, by decide⟩, by decide, by decide, fun n5 _ => ?_⟩
        refine ⟨_, rfl, c, _, _, 4, rfl, ⟨by decide, by decide⟩, by decide, by decide, fun n6 _ => ⟨by show 4 ≤ sizeLine; decide, ?_⟩⟩
        exact fin _ _ n5 n6 (Int.natCast_nonneg _) (Int.emod_nonneg _ (Int.ne_of_gt two72))
      · refine ⟨_, rfl, _, rfl, _, rfl, c, _, _, 64, rfl, ⟨by decide, by decide⟩, by decide, by decide, fun n5 _ => ?_⟩
        refine ⟨_, rfl, c, _, _, 4, rfl, ⟨by decide, by decide⟩, by decide, by decide, fun n6 _ => ⟨by show 4 ≤ sizeLine; decide, ?_⟩⟩
        exact fin _ _ n5 n6 (Int.natCast_nonneg _) (Int.natCast_nonneg _)

/-! ### _law_spot -/
theorem scS : FnScope ["_law_many", "_law_task", "_law_page"] ["_law_many", "_law_task", "_law_page"] (defScope lSpot) := ⟨rfl, rfl, rfl, by decide +kernel, rfl, by decide +kernel, by decide +kernel⟩
theorem ok_spotL {f : Addr} {fd : FuncData} (F : Fun K "_law_spot" "_law_spot" lSpot f fd) : FnOk P w K mg base CX0 1 f fd ["_law_many", "_law_task", "_law_page"] spSpotL := by
  refine F.ok scS (fun vs H Q E h => ?_) (fun cdv A outer s H vs Q E hr h => ?_)
  · obtain ⟨m, k, t, p, rfl, _⟩ := h
    rfl
  · obtain ⟨m, k, t, p, rfl, hk, q⟩ := h
    have hm : 0 < m := by
      rw [hk]
      exact Nat.two_pow_pos k
    have hmi : (0 : Int) < (m : Int) := by omega
    refine ⟨_, pss_one (ps_ret (pe_op op_xor (pe_op op_mod (pv 1) (pv 0)) (pe_op op_mod (pv 2) (pv 0)))), ?_⟩
    refine ⟨_, rfl, _, rfl, _, _, rfl, rfl, hmi, _, rfl, _, rfl, _, _, rfl, rfl, hmi, _, _, rfl, rfl, ?_⟩
    show Q (V.int (Builtin.bitXor ((t : Int) % (m : Int)) ((p : Int) % (m : Int)))) H
    rw [mod_ofNat, mod_ofNat, xor_ofNat, spot_same m t p k hk]
    exact q

/-! ### _law_pair -/
theorem scP : FnScope ["_law_found", "_law_due"] ["_law_found", "_law_due"] (defScope lPair) := ⟨rfl, rfl, rfl, by decide +kernel, rfl, by decide +kernel, by decide +kernel⟩
theorem ok_pair {f fW : Addr} {fd fdW : FuncData} (F : Fun K "_law_pair" "_law_pair" lPair f fd) (T : Txt K mg C NS LE FU NN) (FW : Fun K "_law_whole" "_law_whole" lWhole fW fdW) (bW : Binds K fdW ["_law_found"] []) (gW : mg "_law_whole" = some (.ref fW)) :
    FnOk P w K mg base CX0 2 f fd ["_law_found", "_law_due"] spPair := by
  have GW : FnOk P w K mg base CX0 1 fW fdW ["_law_found"] spWhole := ok_whole FW T
  refine F.ok scP (fun vs H Q E h => ?_) (fun cdv A outer s H vs Q E hr h => ?_)
  · obtain ⟨x, y, rfl, _⟩ := h
    rfl
  · obtain ⟨x, y, rfl, h, q⟩ := h
    have hu := hr.units
    refine ⟨_, pss_cons (ps_if (pt_cmpR op_isN (pv 1) pe_non (nomark _)) (pss_one (ps_ret (pe_cmpR op_isN (pv 0) pe_non (nomark _)))) pss_nil)
      (pss_cons (ps_if (PW.pt (pw_or (pt_not (pt_val (pe_callB call_isi (by rfl) T.isi boot_isi_ (pa_cons (pv 0) (pa_cons (pe_bltn (v := .ty "tuple") (by rfl) T.tup boot_tuple_ rfl) pa_nil)))))
          (pw_or1 (pt_cmpR op_ne (pe_callB call_len_seq (by rfl) T.len PySem.boot_len (pa_cons (pv 0) pa_nil)) pe_int (nomark _))))) (pss_one (ps_ret pe_bl)) pss_nil)
      (pss_one (ps_ret (pe_and (pe_call GW hr (by rfl) gW FW.kp bW .nil pass0 (pa_cons (pe_ix ix_tup (pv 0) pe_int (fun _ _ => rfl)) pa_nil))
        (pe_and (pe_call GW hr (by rfl) gW FW.kp bW .nil pass0 (pa_cons (pe_ix ix_tup (pv 0) pe_int (fun _ _ => rfl)) pa_nil))
          (pe_one (pe_cmpR (op_eqD hu) (pv 0) (pv 1) (nomark _)))))))), ?_⟩
    rcases h with ⟨rfl, rfl⟩ | ⟨a, b, i, j, rfl, rfl, ha, hb⟩
    · exact ⟨_, rfl, rfl, _, rfl, ite2 (fun _ => ⟨_, rfl, rfl, q⟩) (fun z => absurd (decide_eq_true rfl) z)⟩
    · refine ⟨_, rfl, rfl, _, rfl, ite2 (fun z => absurd (of_decide_eq_true z) (by intro z; cases z)) (fun _ => ?_)⟩
      refine ⟨_, rfl, .ref a, .ty "tuple", .type "tuple", .type "tuple", true, rfl, .ty _, .base (.tup ha), kit_ty (by decide +kernel), true, rfl, iteF ?_⟩
      refine ⟨_, rfl, a, _, rfl, .inr (SqT.of ha), rfl, _, rfl, iteF ?_⟩
      refine ⟨_, rfl, a, _, 0, .int i, rfl, rfl, SqT.of ha, atI_nat (j := 0) rfl, i, rfl, true, rfl, iteT ?_⟩
      refine ⟨_, rfl, a, _, 1, .int j, rfl, rfl, SqT.of ha, atI_nat (j := 1) rfl, j, rfl, true, rfl, iteT ?_⟩
      refine ⟨_, rfl, _, rfl, .tuple [.int i, .int j], .tuple [.int i, .int j], .tup (SqT.of ha) (.cons (.int i) (.cons (.int j) .nil)), .tup (SqT.of hb) (.cons (.int i) (.cons (.int j) .nil)), rfl, rfl, ?_⟩
      rw [SeqAt.eqv_refl _ rfl]
      exact q
end
end Np
/-! The law's defs that ask the table, compare its rows, and try wrong sizes. -/
namespace Np
open PySem L2
theorem look_none {M : Tab} {t p : Nat} (h : ∀ w : Rw, M[spt M.length t p]? ≠ some (some w)) : look M t p = none := by
  unfold look
  split
  · rename_i w e
    exact absurd e (h w)
  · rfl
theorem look_some {M : Tab} {t p : Nat} {w : Rw} (h : M[spt M.length t p]? = some (some w)) : look M t p = if w.t = t ∧ w.p = p then some w else none := by
  unfold look
  rw [h]
section
variable {P : Program} {w : World} {K : PySem.W.Frag} {mg : Str → Option Value} {base : Heap} {C NS LE FU NN : Addr}
/-! ### _law_asked -/
theorem scA : FnScope ["_law_near", "_law_own", "_law_many", "_law_row_here", "_law_cell", "_law_task", "_law_page", "_law_way", "_law_due", "_law_known"] ["_law_near", "_law_own", "_law_many", "_law_row_here", "_law_cell"] (defScope lAsked) :=
  ⟨rfl, rfl, rfl, by decide +kernel, rfl, by decide +kernel, by decide +kernel⟩
theorem ok_asked {f fD fO fP fF : Addr} {fd fdD fdO fdP fdF : FuncData} (F : Fun K "_law_asked" "_law_asked" lAsked f fd) (T : Txt K mg C NS LE FU NN)
    (GD : FnOk P w K mg base CX0 1 fD fdD ["_law_cell", "_law_by", "_law_prime", "_law_many"] spDrawn) (kD : PySem.W.keepIn K (.ref fD) = true) (bD : Binds K fdD ["_law_cell", "_law_by", "_law_prime", "_law_many"] []) (gD : mg "_law_drawn" = some (.ref fD))
    (GO : FnOk P w K mg base CX0 1 fO fdO ["_law_many", "_law_task", "_law_page"] spSpotL) (kO : PySem.W.keepIn K (.ref fO) = true) (bO : Binds K fdO ["_law_many", "_law_task", "_law_page"] []) (gO : mg "_law_spot" = some (.ref fO))
    (GP : FnOk P w K mg base CX0 2 fP fdP ["_law_found", "_law_due"] spPair) (kP : PySem.W.keepIn K (.ref fP) = true) (bP : Binds K fdP ["_law_found", "_law_due"] []) (gP : mg "_law_pair" = some (.ref fP))
    (GF : FnOk P w K mg base CX0 2 fF fdF ["self", "task", "page"] (spFound C)) (bF : Binds K fdF ["self", "task", "page"] []) (mF : Meth K C "found" fF) :
    FnOk P w K mg base CX0 3 f fd ["_law_near", "_law_own", "_law_many", "_law_row_here", "_law_cell"] (spAsked C) := by
  refine F.ok scA (fun vs H Q E h => ?_) (fun cdv A outer s H vs Q E hr h => ?_)
  · obtain ⟨x, l, d, r, M, w, c, rfl, _⟩ := h
    rfl
  · obtain ⟨x, l, d, r, M, u, c, rfl, N, O, wf, hR, q⟩ := h
    obtain ⟨⟨dx, hx⟩, xs, hl, hz, hc⟩ := id N
    obtain ⟨kvs, ks, hd, hkeys, hnd, hmem, hval⟩ := id O
    have hr1 : Room 1 _ := hr.mono (by decide)
    have hu := hu_of hr
    -- behind the ways: whichever task and page are asked for
    obtain ⟨tR, hRest, qRest⟩ : ∃ t, PSs (cxOf CX0 P w K mg base ["_law_near", "_law_own", "_law_many", "_law_row_here", "_law_cell", "_law_task", "_law_page", "_law_way", "_law_due", "_law_known"] "_law_asked" (defScope lAsked) f cdv A outer s H E).nox ((defBody lAsked).drop 6) t ∧
        ∀ tt pp way : Nat, t { nx := fun _ H' => Q .non H', rt := Q } [some (.ref x), some (.ref d), some (.int (M.length : Int)), some (.ref r), some (.int c), some (.int (tt : Int)), some (.int (pp : Int)), some (.int (way : Int)), none, none] H := by
      refine ⟨_, pss_cons (ps_set (i := 8) scA.nd rfl (.inl rfl) pe_non)
        (pss_cons (ps_if (PW.pt (pw_and (pt_cmpR op_gt (pv 2) pe_int (nomark _)) (pw_and1 (pt_cmp (pc_din hu (pe_call GO hr1 (by rfl) gO kO bO .nil pass0 (pa_cons (pv 2) (pa_cons (pv 5) (pa_cons (pv 6) pa_nil)))) (pv 1))))))
          (pss_cons (ps_set (i := 9) scA.nd rfl (.inl rfl) (pe_dget hu (pv 1) (pe_call GO hr1 (by rfl) gO kO bO .nil pass0 (pa_cons (pv 2) (pa_cons (pv 5) (pa_cons (pv 6) pa_nil)))) (fun _ _ => rfl)))
          (pss_one (ps_if (PW.pt (pw_and (pt_cmpR op_eq (pe_ix ix_tup (pv 9) pe_int (fun _ _ => rfl)) (pv 5) (nomark _)) (pw_and1 (pt_cmpR op_eq (pe_ix ix_tup (pv 9) pe_int (fun _ _ => rfl)) (pv 6) (nomark _)))))
            (pss_one (ps_set (i := 8) scA.nd rfl (.inl rfl) (pe_tup (pa_cons (pe_ix ix_tup (pv 9) pe_int (fun _ _ => rfl)) (pa_cons (pe_ix ix_tup (pv 9) pe_int (fun _ _ => rfl)) pa_nil))))) pss_nil))) pss_nil)
        (pss_one (ps_ret (pe_call GP hr (by rfl) gP kP bP .nil pass0 (pa_cons (pe_meth (pv 0) T.cl mF GF hr bF .nil pass0 (pa_cons (pv 5) (pa_cons (pv 6) pa_nil))) (pa_cons (pv 8) pa_nil)))))), ?_⟩
      intro tt pp way
      -- where nothing is due
      have none_due : look M tt pp = none → ∀ v9 : Option V, ∃ v, ([some (.ref x), some (.ref d), some (.int (M.length : Int)), some (.ref r), some (.int c), some (.int (tt : Int)), some (.int (pp : Int)), some (.int (way : Int)), some .non, v9] : L2.St)[0]? = some (some v) ∧
          ∃ a dx fs, v = .ref a ∧ H a = some (.ins C dx fs) ∧ fs.lookup ("found" : Str) = none ∧ ∃ v1, (some (some (V.int (tt : Int))) : Option (Option V)) = some (some v1) ∧ ∃ v2, (some (some (V.int (pp : Int))) : Option (Option V)) = some (some v2) ∧
            spFound C (v :: ([v1, v2] ++ [])) H (fun y H1 => ∃ v3, (some (some V.non) : Option (Option V)) = some (some v3) ∧ spPair ([y, v3] ++ []) H1 Q E0) E0 := fun e v9 =>
        ⟨_, rfl, x, dx, _, rfl, hx, nf_no _ (by decide +kernel), _, rfl, _, rfl, x, l, M, tt, pp, rfl, N, wf, fun _ => ⟨_, rfl, .non, .non, rfl, .inl ⟨rfl, rfl⟩, q H (Same.refl H)⟩, fun w' e' => by
          rw [e] at e'
          cases e'⟩
      refine ⟨_, rfl, _, _, rfl, rfl, _, rfl, ite2 (fun h0 => ?_) (fun h0 => iteF (none_due (look_none fun w' e => ?_) none))⟩
      · have n0 : 0 < M.length := by
          have z : (0 : Int) < (M.length : Int) := of_decide_eq_true h0
          omega
        obtain ⟨k, hk6, hk⟩ : ∃ k, k ≤ 6 ∧ M.length = 2 ^ k := by
          rcases wf with z | z
          · omega
          · exact z
        have hlt : spt M.length tt pp < M.length := spt_lt n0
        refine ⟨_, rfl, _, rfl, _, rfl, M.length, k, tt, pp, rfl, hk, _, rfl, d, valV kvs (Sum.inl ((spt M.length tt pp : Nat) : Int)), rfl, DGet.k (k := Sum.inl ((spt M.length tt pp : Nat) : Int)) hd, _, rfl, ?_⟩
        obtain ⟨o, ho⟩ : ∃ o, M[spt M.length tt pp]? = some o := ⟨_, List.getElem?_eq_getElem hlt⟩
        cases o with
        | none =>
          have ev : valV kvs (Sum.inl ((spt M.length tt pp : Nat) : Int) : Key) = none := by
            cases e : valV kvs (Sum.inl ((spt M.length tt pp : Nat) : Int) : Key) with
            | none => rfl
            | some v =>
              have m1 := valV_in e
              rw [hkeys] at m1
              obtain ⟨n, hn, en⟩ := List.mem_map.mp m1
              have en' : n = spt M.length tt pp := by
                have z := Sum.inl.inj en
                omega
              rw [en'] at hn
              obtain ⟨w', e'⟩ := (hmem _).mp hn
              rw [ho] at e'
              cases e'
          rw [ev]
          exact iteF (none_due (look_none fun w' e => by
            rw [ho] at e
            cases e) none)
        | some w' =>
          obtain ⟨b, hb, hbt⟩ := hval _ w' ho
          rw [hb]
          have lk := look_some ho
          refine iteT ?_
          refine ⟨_, rfl, _, rfl, _, rfl, _, rfl, M.length, k, tt, pp, rfl, hk, d, .ref b, rfl, (by rw [← hb]; exact DGet.k (k := Sum.inl ((spt M.length tt pp : Nat) : Int)) hd), ?_⟩
          refine ⟨_, rfl, b, _, 0, .int (w'.t : Int), rfl, rfl, SqT.of hbt, atI_nat (j := 0) rfl, _, rfl, rfl, _, rfl, ite2 (fun h1 => ?_) (fun h1 => iteF (none_due ?_ (some (.ref b))))⟩
          · have e1 : w'.t = tt := by
              have z := V.int.inj (of_decide_eq_true h1)
              omega
            refine ⟨_, rfl, b, _, 1, .int (w'.p : Int), rfl, rfl, SqT.of hbt, atI_nat (j := 1) rfl, _, rfl, rfl, _, rfl, ite2 (fun h2 => ?_) (fun h2 => none_due ?_ (some (.ref b)))⟩
            · have e2 : w'.p = pp := by
                have z := V.int.inj (of_decide_eq_true h2)
                omega
              rw [if_pos ⟨e1, e2⟩] at lk
              refine ⟨_, rfl, b, _, 2, .int (w'.f : Int), rfl, rfl, SqT.of hbt, atI_nat (j := 2) rfl, _, rfl, b, _, 3, .int (w'.r : Int), rfl, rfl, SqT.of hbt, atI_nat (j := 3) rfl, by show 2 ≤ sizeLine; decide, fun a ha => ?_⟩
              have s1 : Same H (upd H a (.tup [.int (w'.f : Int), .int (w'.r : Int)])) := same_new ha
              refine ⟨_, rfl, x, dx, _, rfl, s1 _ _ hx, nf_no _ (by decide +kernel), _, rfl, _, rfl, x, l, M, tt, pp, rfl, N.same s1, wf, fun e' => ?_, fun w2 e' a2 ha2 => ?_⟩
              · rw [lk] at e'
                cases e'
              · rw [lk] at e'
                cases e'
                have s2 : Same (upd H a (.tup [.int (w'.f : Int), .int (w'.r : Int)])) (upd (upd H a (.tup [.int (w'.f : Int), .int (w'.r : Int)])) a2 (.tup [.int (w'.f : Int), .int (w'.r : Int)])) := same_new ha2
                exact ⟨_, rfl, .ref a2, .ref a, rfl, .inr ⟨a2, a, _, _, rfl, rfl, upd_same, s2 _ _ upd_same⟩, q _ (s1.trans s2)⟩
            · rw [lk, if_neg (fun z => h2 (decide_eq_true (by rw [z.2])))]
          · rw [lk, if_neg (fun z => h1 (decide_eq_true (by rw [z.1])))]
      · have eM : M.length = 0 := by
          rcases Nat.eq_zero_or_pos M.length with z | z
          · exact z
          · exact absurd (decide_eq_true (show (0 : Int) < (M.length : Int) by omega)) h0
        have z := (List.getElem?_eq_some_iff.mp e).1
        omega
    -- task = row[0]; page = row[1]; the way
    refine ⟨_, pss_cons (ps_set (i := 5) scA.nd rfl (.inl rfl) (pe_ix ix_tup (pv 3) pe_int (fun _ _ => rfl)))
      (pss_cons (ps_set (i := 6) scA.nd rfl (.inl rfl) (pe_ix ix_tup (pv 3) pe_int (fun _ _ => rfl)))
      (pss_cons (ps_set (i := 7) scA.nd rfl (.inl rfl) (pe_call GD hr1 (by rfl) gD kD bD .nil pass0 (pa_cons (pv 4) (pa_cons pe_int (pa_cons pe_int (pa_cons pe_int pa_nil))))))
      (pss_cons (ps_if (pt_cmpR op_eq (pv 7) pe_int (nomark _)) (pss_one (ps_set (i := 6) scA.nd rfl (.inl rfl) (pe_op op_add (pv 6) (pv 2)))) pss_nil)
      (pss_cons (ps_if (pt_cmpR op_eq (pv 7) pe_int (nomark _)) (pss_cons (ps_set (i := 5) scA.nd rfl (.inl rfl) (pe_ix ix_tup (pv 3) pe_int (fun _ _ => rfl))) (pss_one (ps_set (i := 6) scA.nd rfl (.inl rfl) (pe_ix ix_tup (pv 3) pe_int (fun _ _ => rfl))))) pss_nil)
      (pss_cons (ps_if (pt_cmpR op_eq (pv 7) pe_int (nomark _)) (pss_cons (ps_set (i := 5) scA.nd rfl (.inl rfl) (pe_op op_xor (pv 5) pe_int)) (pss_one (ps_set (i := 6) scA.nd rfl (.inl rfl) (pe_op op_xor (pv 6) pe_int)))) pss_nil)
      hRest))))), ?_⟩
    refine ⟨_, rfl, r, _, 0, .int (u.t : Int), rfl, rfl, SqT.of hR, atI_nat (j := 0) rfl, _, rfl, r, _, 1, .int (u.p : Int), rfl, rfl, SqT.of hR, atI_nat (j := 1) rfl, _, rfl, c, _, _, 6, rfl, ⟨by decide, by decide⟩, by decide, by decide, fun n hn => ?_⟩
    have xor1 : ∀ a : Nat, Builtin.bitXor (a : Int) 1 = ((a ^^^ 1 : Nat) : Int) := fun a => xor_ofNat a 1
    have gt : ∀ {n m : Nat}, ¬ n = m → ¬ decide (V.int (n : Int) = V.int (m : Int)) = true := fun ne z => ne (by
      have e := V.int.inj (of_decide_eq_true z)
      omega)
    by_cases e0 : n = 0
    · subst e0
      refine ⟨_, rfl, rfl, _, rfl, ite2 (fun _ => ?_) (fun z => absurd (decide_eq_true rfl) z)⟩
      refine ⟨_, rfl, _, rfl, _, _, rfl, rfl, ?_⟩
      refine ⟨_, rfl, rfl, _, rfl, ite2 (fun z => absurd z (gt (n := 0) (m := 1) (by decide))) (fun _ => ?_)⟩
      refine ⟨_, rfl, rfl, _, rfl, ite2 (fun z => absurd z (gt (n := 0) (m := 2) (by decide))) (fun _ => ?_)⟩
      exact qRest u.t (u.p + M.length) 0
    · refine ⟨_, rfl, rfl, _, rfl, ite2 (fun z => absurd z (gt (m := 0) e0)) (fun _ => ?_)⟩
      by_cases e1 : n = 1
      · subst e1
        refine ⟨_, rfl, rfl, _, rfl, ite2 (fun _ => ?_) (fun z => absurd (decide_eq_true rfl) z)⟩
        refine ⟨_, rfl, r, _, 1, .int (u.p : Int), rfl, rfl, SqT.of hR, atI_nat (j := 1) rfl, _, rfl, r, _, 0, .int (u.t : Int), rfl, rfl, SqT.of hR, atI_nat (j := 0) rfl, ?_⟩
        refine ⟨_, rfl, rfl, _, rfl, ite2 (fun z => absurd z (gt (n := 1) (m := 2) (by decide))) (fun _ => ?_)⟩
        exact qRest u.p u.t 1
      · refine ⟨_, rfl, rfl, _, rfl, ite2 (fun z => absurd z (gt (m := 1) e1)) (fun _ => ?_)⟩
        by_cases e2 : n = 2
        · subst e2
          refine ⟨_, rfl, rfl, _, rfl, ite2 (fun _ => ?_) (fun z => absurd (decide_eq_true rfl) z)⟩
          refine ⟨_, rfl, _, _, rfl, rfl, _, rfl, _, _, rfl, rfl, ?_⟩
          have z := qRest (u.t ^^^ 1) (u.p ^^^ 1) 2
          rw [← xor1, ← xor1] at z
          exact z
        · refine ⟨_, rfl, rfl, _, rfl, ite2 (fun z => absurd z (gt (m := 2) e2)) (fun _ => ?_)⟩
          exact qRest u.t u.p n
end
end Np
namespace Np
open PySem L2
section
variable {P : Program} {w : World} {K : PySem.W.Frag} {mg : Str → Option Value} {base : Heap} {C NS LE FU NN : Addr}
/-! ### _law_rows -/
theorem vs_get (u : Rw) : ∀ j : Nat, j < 4 → ∃ z : Int, u.vs[j]? = some (.int z) := fun j hj => match j, hj with
  | 0, _ => ⟨_, rfl⟩
  | 1, _ => ⟨_, rfl⟩
  | 2, _ => ⟨_, rfl⟩
  | 3, _ => ⟨_, rfl⟩
  | j + 4, h => absurd h (by omega)
theorem scL : FnScope ["_law_found", "_law_due", "_law_k", "_law_j"] ["_law_found", "_law_due"] (defScope lRows) := ⟨rfl, rfl, rfl, by decide +kernel, rfl, by decide +kernel, by decide +kernel⟩
theorem ok_rowsL {f fW : Addr} {fd fdW : FuncData} (F : Fun K "_law_rows" "_law_rows" lRows f fd) (T : Txt K mg C NS LE FU NN)
    (GW : FnOk P w K mg base CX0 1 fW fdW ["_law_found"] spWhole) (kW : PySem.W.keepIn K (.ref fW) = true) (bW : Binds K fdW ["_law_found"] []) (gW : mg "_law_whole" = some (.ref fW)) :
    FnOk P w K mg base CX0 2 f fd ["_law_found", "_law_due"] spRowsL := by
  refine F.ok scL (fun vs H Q E h => ?_) (fun cdv A outer s H vs Q E hr h => ?_)
  · obtain ⟨a, b, xs, ys, rs, rfl, _⟩ := h
    rfl
  · obtain ⟨a, b, xs, ys, rs, rfl, ha, hb, R1, R2, hlen, q⟩ := h
    refine ⟨_, pss_cons (ps_if (PW.pt (pw_or (pt_not (pt_val (pe_callB call_isi (by rfl) T.isi boot_isi_ (pa_cons (pv 0) (pa_cons (pe_bltn (v := .ty "list") (by rfl) T.lis boot_list_ rfl) pa_nil)))))
        (pw_or1 (pt_cmpR op_ne (pe_callB call_len_seq (by rfl) T.len PySem.boot_len (pa_cons (pv 0) pa_nil)) (pe_callB call_len_seq (by rfl) T.len PySem.boot_len (pa_cons (pv 1) pa_nil)) (nomark _))))) (pss_one (ps_ret pe_bl)) pss_nil)
      (pss_cons (ps_for PassesOwn.never rfl (pi_range1 (by rfl) T.rng (pa_cons (pe_callB call_len_seq (by rfl) T.len PySem.boot_len (pa_cons (pv 1) pa_nil)) pa_nil)) (pg_name (i := 2) scL.nd rfl (.inl rfl))
        (pss_cons (ps_if (PW.pt (pw_or (pt_not (pt_val (pe_callB call_isi (by rfl) T.isi boot_isi_ (pa_cons (pe_ix ix_list (pv 0) (pv 2) (fun _ _ => rfl)) (pa_cons (pe_bltn (v := .ty "tuple") (by rfl) T.tup boot_tuple_ rfl) pa_nil)))))
          (pw_or1 (pt_cmpR op_ne (pe_callB call_len_seq (by rfl) T.len PySem.boot_len (pa_cons (pe_ix ix_list (pv 0) (pv 2) (fun _ _ => rfl)) pa_nil)) pe_int (nomark _))))) (pss_one (ps_ret pe_bl)) pss_nil)
        (pss_one (ps_for PassesOwn.never rfl (pi_range1 (by rfl) T.rng (pa_cons pe_int pa_nil)) (pg_name (i := 3) scL.nd rfl (.inl rfl))
          (pss_one (ps_if (PW.pt (pw_or (pt_not (pt_val (pe_call GW hr (by rfl) gW kW bW .nil pass0 (pa_cons (pe_ix ix_tup (pe_ix ix_list (pv 0) (pv 2) (fun _ _ => rfl)) (pv 3) (fun _ _ => rfl)) pa_nil))))
            (pw_or1 (pt_cmpR op_ne (pe_ix ix_tup (pe_ix ix_list (pv 0) (pv 2) (fun _ _ => rfl)) (pv 3) (fun _ _ => rfl)) (pe_ix ix_tup (pe_ix ix_list (pv 1) (pv 2) (fun _ _ => rfl)) (pv 3) (fun _ _ => rfl)) (nomark _))))) (pss_one (ps_ret pe_bl)) pss_nil))))))
      (pss_one (ps_ret pe_bl))), ?_⟩
    have hl : xs.length = ys.length := R1.1.trans R2.1.symm
    refine ⟨_, rfl, .ref a, .ty "list", .type "list", .type "list", true, rfl, .ty _, .base (.lst ha), kit_ty (by decide +kernel), true, rfl, iteF ?_⟩
    refine ⟨_, rfl, a, _, rfl, .inl (SqL.of ha), _, rfl, b, _, rfl, .inl (SqL.of hb), rfl, _, rfl, ?_⟩
    have e0 : (!decide (V.int (xs.length : Int) = V.int (ys.length : Int))) = false := by
      rw [hl, decide_eq_true rfl]
      rfl
    show if (!decide (V.int (xs.length : Int) = V.int (ys.length : Int))) = true then _ else _
    rw [e0]
    refine iteF ?_
    have hyl : ys.length ≤ 64 := by
      have z := R2.1
      omega
    refine ⟨_, rfl, b, _, rfl, .inl (SqL.of hb), _, rfl, by omega, by omega, ?_⟩
    refine for_range (fun i σ H' => ∃ v2 v3 : Option V, σ = [some (.ref a), some (.ref b), v2, v3] ∧ H' = H) ⟨none, none, rfl, rfl⟩ ?_ ?_
    · rintro i σ H' hi ⟨v2, v3, rfl, rfl⟩
      have hir : i < rs.length := by
        have z := R2.1
        omega
      have hrs : rs[i]? = some rs[i] := List.getElem?_eq_getElem hir
      obtain ⟨t1, hx1, ht1⟩ := R1.2 i _ hrs
      obtain ⟨t2, hx2, ht2⟩ := R2.2 i _ hrs
      have ei : (0 : Int) + (i : Int) = (i : Int) := by omega
      refine ⟨_, rfl, _, rfl, a, xs, _, .ref t1, rfl, rfl, SqL.of ha, at_of ei hx1, .ref t1, .ty "tuple", .type "tuple", .type "tuple", true, rfl, .ty _, .base (.tup ht1), kit_ty (by decide +kernel), true, rfl, iteF ?_⟩
      refine ⟨_, rfl, _, rfl, a, xs, _, .ref t1, rfl, rfl, SqL.of ha, at_of ei hx1, t1, _, rfl, .inr (SqT.of ht1), rfl, _, rfl, iteF ?_⟩
      refine ⟨4, rfl, by decide, by decide, ?_⟩
      refine for_range (fun j σ H'' => ∃ v3 : Option V, σ = [some (.ref a), some (.ref b), some (.int (0 + (i : Int))), v3] ∧ H'' = H') ⟨v3, rfl, rfl⟩ ?_ ?_
      · rintro j σ H'' hj ⟨v3, rfl, rfl⟩
        obtain ⟨z, hz⟩ := vs_get rs[i] j hj
        have ej : (0 : Int) + (j : Int) = (j : Int) := by omega
        refine ⟨_, rfl, _, rfl, a, xs, _, .ref t1, rfl, rfl, SqL.of ha, at_of ei hx1, _, rfl, t1, _, _, .int z, rfl, rfl, SqT.of ht1, at_of ej hz, z, rfl, true, rfl, iteF ?_⟩
        refine ⟨_, rfl, _, rfl, a, xs, _, .ref t1, rfl, rfl, SqL.of ha, at_of ei hx1, _, rfl, t1, _, _, .int z, rfl, rfl, SqT.of ht1, at_of ej hz, ?_⟩
        refine ⟨_, rfl, _, rfl, b, ys, _, .ref t2, rfl, rfl, SqL.of hb, at_of ei hx2, _, rfl, t2, _, _, .int z, rfl, rfl, SqT.of ht2, at_of ej hz, ?_⟩
        refine ⟨rfl, _, rfl, ?_⟩
        have e1 : (!decide (V.int z = V.int z)) = false := by
          rw [decide_eq_true rfl]
          rfl
        show if (!decide (V.int z = V.int z)) = true then _ else _
        rw [e1]
        exact iteF ⟨_, rfl, rfl⟩
      · rintro σ H'' ⟨v3, rfl, rfl⟩
        exact ⟨_, _, rfl, rfl⟩
    · rintro σ H' ⟨v2, v3, rfl, rfl⟩
      exact q

/-! ### _law_no_shape -/
theorem scNo : FnScope ["_law_many", "_law_refusal", "e"] ["_law_many"] (defScope lNoSh) := ⟨rfl, rfl, rfl, by decide +kernel, rfl, by decide +kernel, by decide +kernel⟩
theorem ok_noSh {f fI : Addr} {fd fdI : FuncData} (F : Fun K "_law_no_shape" "_law_no_shape" lNoSh f fd) (T : Txt K mg C NS LE FU NN) (M : Mk K C fI)
    (GI : FnOk P w K mg base (L2.CX P w) 1 fI fdI ["self", "many"] (spInit C NS)) (bI : Binds K fdI ["self", "many"] []) :
    FnOk P w K mg base CX0 3 f fd ["_law_many"] spNoSh := by
  refine F.ok scNo (fun vs H Q E h => ?_) (fun cdv A outer s H vs Q E hr h => ?_)
  · obtain ⟨m, rfl, _⟩ := h
    rfl
  · obtain ⟨m, rfl, bad, q⟩ := h
    refine ⟨_, pss_cons (ps_set (i := 1) scNo.nd rfl (.inl rfl) pe_non)
      (pss_cons (ps_try_hold (i := 2) (tb := fun W => tDrop (tMakeS C (spInit C NS) W (tCons (tVar 0) tNil))) (ts := fun _ _ _ => tAsg (tVar 2) (gName 1)) (Wout := fun _ _ _ _ => False) rfl rfl rfl scNo.nd rfl rfl ⟨rfl, by decide, Or.inl T.gLE⟩ takes0
        (fun W pn xe tk _ => pss_one (ps_expr (by exact (pe_makeS M GI hr rfl T.mgC bI tk (by exact (pa_cons (pv 0) pa_nil))))))
        (fun a oe cls d pn hz hf => pss_one (ps_set (i := 1) scNo.nd rfl (Or.inl rfl) (by exact (pv 2)))))
      (pss_cons (ps_if (PW.pt (pw_or (pt_not (pt_val (pe_callB call_isX (by rfl) T.isi boot_isi_ (pa_cons (pv 1) (pa_cons (pe_glob (v := .ref NS) (by rfl) T.gNS rfl) pa_nil)))))
          (pw_or1 (pt_not (pt_val (pe_callB call_isX (by rfl) T.isi boot_isi_ (pa_cons (pv 1) (pa_cons (pe_bltn (v := .ty "ValueError") (by rfl) T.ver boot_ver_ rfl) pa_nil)))))))) (pss_one (ps_ret pe_bl)) pss_nil)
      (pss_one (ps_ret (pe_not (pe_callB call_isXT (by rfl) T.isi boot_isi_ (pa_cons (pv 1) (pa_cons (pe_tup (pa_cons (pe_glob (v := .ref FU) (by rfl) T.gFU rfl) (pa_cons (pe_glob (v := .ref NN) (by rfl) T.gNN rfl) pa_nil))) pa_nil)))))))), ?_⟩
    refine ⟨_, rfl, ?_⟩
    intro x dx nx ndx nex
    have s0 : Same H (upd (upd H dx (.own x)) x (.ins C dx [])) := fun b o e => by
      rw [upd_ne (ne_of_none e nx), upd_ne (ne_of_none e ndx)]
      exact e
    refine ⟨x, dx, m, rfl, upd_same, fun _ => ?_, fun good => absurd bad good⟩
    refine ⟨true, T.eLE, fun z => Bool.noConfusion z, fun _ a na => ?_⟩
    refine ⟨_, rfl, fun na2 => ?_⟩
    have s1 : Same H (upd (upd (upd H dx (.own x)) x (.ins C dx [])) a (ExH (.ref NS) none a)) := s0.trans (same_new na)
    refine ⟨_, rfl, a, NS, .ref NS, _, true, rfl, upd_same, T.ec, .own NS, T.isNS, true, rfl, iteF ?_⟩
    refine ⟨_, rfl, a, NS, .ty "ValueError", _, true, rfl, upd_same, T.ec, .ty _, T.isVE, true, rfl, iteF ?_⟩
    refine ⟨_, rfl, by show 2 ≤ sizeLine; decide, fun tp htp => ?_⟩
    have s2 : Same (upd (upd (upd H dx (.own x)) x (.ins C dx [])) a (ExH (.ref NS) none a)) (upd (upd (upd (upd H dx (.own x)) x (.ins C dx [])) a (ExH (.ref NS) none a)) tp (.tup [.ref FU, .ref NN])) := same_new htp
    refine ⟨a, NS, tp, [.ref FU, .ref NN], [.ref FU, .ref NN], false, rfl, s2 _ _ upd_same, T.ec, upd_same, .cons (.own FU) (.cons (.own NN) .nil), T.isFN, false, rfl, ?_⟩
    exact q _ (s1.trans s2)
end
end Np
/-! What the law keeps between two turns, and the mathematics of its dict. -/
namespace Np
open PySem L2
/-! ### the places that are filled, rising -/
def idxF : Nat → Tab → List Nat
  | _, [] => []
  | s, none :: r => idxF (s + 1) r
  | s, some _ :: r => s :: idxF (s + 1) r
theorem idxF_mem : ∀ (M : Tab) (s j : Nat), j ∈ idxF s M ↔ s ≤ j ∧ ∃ w : Rw, M[j - s]? = some (some w)
  | [], s, j => by
    constructor
    · intro h
      cases h
    · rintro ⟨_, w, h⟩
      simp at h
  | none :: r, s, j => by
    show j ∈ idxF (s + 1) r ↔ _
    rw [idxF_mem r (s + 1) j]
    constructor
    · rintro ⟨h1, w, h2⟩
      refine ⟨by omega, w, ?_⟩
      rw [show j - s = (j - (s + 1)) + 1 by omega, List.getElem?_cons_succ]
      exact h2
    · rintro ⟨h1, w, h2⟩
      rcases Nat.eq_or_lt_of_le h1 with e | e
      · rw [← e, Nat.sub_self] at h2
        cases (Option.some.inj h2)
      · refine ⟨e, w, ?_⟩
        rw [show j - s = (j - (s + 1)) + 1 by omega, List.getElem?_cons_succ] at h2
        exact h2
  | some u :: r, s, j => by
    show j ∈ s :: idxF (s + 1) r ↔ _
    rw [List.mem_cons, idxF_mem r (s + 1) j]
    constructor
    · rintro (e | ⟨h1, w, h2⟩)
      · refine ⟨by omega, u, ?_⟩
        rw [e, Nat.sub_self]
        rfl
      · refine ⟨by omega, w, ?_⟩
        rw [show j - s = (j - (s + 1)) + 1 by omega, List.getElem?_cons_succ]
        exact h2
    · rintro ⟨h1, w, h2⟩
      rcases Nat.eq_or_lt_of_le h1 with e | e
      · exact .inl e.symm
      · refine .inr ⟨e, w, ?_⟩
        rw [show j - s = (j - (s + 1)) + 1 by omega, List.getElem?_cons_succ] at h2
        exact h2
theorem idxF_up : ∀ (M : Tab) (s : Nat), (idxF s M).Pairwise (· < ·)
  | [], _ => List.Pairwise.nil
  | none :: r, s => idxF_up r (s + 1)
  | some _ :: r, s => List.Pairwise.cons (fun j h => ((idxF_mem r (s + 1) j).mp h).1) (idxF_up r (s + 1))
/-- the i-th row stands at the i-th filled place -/
theorem idxF_row : ∀ (M : Tab) (s i : Nat) (w : Rw), (M.filterMap id)[i]? = some w → ∃ j, (idxF s M)[i]? = some j ∧ s ≤ j ∧ M[j - s]? = some (some w)
  | [], _, i, w, h => by simp at h
  | none :: r, s, i, w, h => by
    have h' : (r.filterMap id)[i]? = some w := h
    obtain ⟨j, h1, h2, h3⟩ := idxF_row r (s + 1) i w h'
    refine ⟨j, h1, by omega, ?_⟩
    rw [show j - s = (j - (s + 1)) + 1 by omega, List.getElem?_cons_succ]
    exact h3
  | some u :: r, s, 0, w, h => by
    have h' : some u = some w := h
    cases h'
    refine ⟨s, rfl, Nat.le_refl _, ?_⟩
    rw [Nat.sub_self]
    rfl
  | some u :: r, s, i + 1, w, h => by
    have h' : (r.filterMap id)[i]? = some w := h
    obtain ⟨j, h1, h2, h3⟩ := idxF_row r (s + 1) i w h'
    refine ⟨j, h1, by omega, ?_⟩
    rw [show j - s = (j - (s + 1)) + 1 by omega, List.getElem?_cons_succ]
    exact h3
theorem idxF_len : ∀ (M : Tab) (s : Nat), (idxF s M).length = (M.filterMap id).length
  | [], _ => rfl
  | none :: r, s => idxF_len r (s + 1)
  | some u :: r, s => congrArg (· + 1) (idxF_len r (s + 1))
theorem rise_ext : ∀ {l1 l2 : List Int}, l1.Pairwise (· < ·) → l2.Pairwise (· < ·) → (∀ x, x ∈ l1 ↔ x ∈ l2) → l1 = l2
  | [], [], _, _, _ => rfl
  | [], b :: s, _, _, h => by
    have z := (h b).mpr List.mem_cons_self
    cases z
  | a :: r, [], _, _, h => by
    have z := (h a).mp List.mem_cons_self
    cases z
  | a :: r, b :: s, h1, h2, h => by
    obtain ⟨p1, q1⟩ := List.pairwise_cons.mp h1
    obtain ⟨p2, q2⟩ := List.pairwise_cons.mp h2
    have e : a = b := by
      rcases List.mem_cons.mp ((h a).mp List.mem_cons_self) with z | z
      · exact z
      · rcases List.mem_cons.mp ((h b).mpr List.mem_cons_self) with y | y
        · exact y.symm
        · have u1 := p2 a z
          have u2 := p1 b y
          omega
    subst e
    have t : r = s := rise_ext q1 q2 fun x => by
      constructor
      · intro m
        rcases List.mem_cons.mp ((h x).mp (List.mem_cons_of_mem _ m)) with z | z
        · have u := p1 x m
          omega
        · exact z
      · intro m
        rcases List.mem_cons.mp ((h x).mpr (List.mem_cons_of_mem _ m)) with z | z
        · have u := p2 x m
          omega
        · exact z
    rw [t]
/-- the sorted keys are the filled places, rising -/
theorem keys_sorted {M : Tab} {ks : List Nat} {ys : List Int} (hn : ks.Nodup) (hm : ∀ i : Nat, i ∈ ks ↔ ∃ w : Rw, M[i]? = some (some w)) (hp : ys.Perm (ks.map fun (n : Nat) => (n : Int))) (hs : ys.Pairwise (· ≤ ·)) :
    ys = (idxF 0 M).map fun (n : Nat) => (n : Int) := by
  have inj : (ks.map fun (n : Nat) => (n : Int)).Nodup := by
    unfold List.Nodup
    rw [List.pairwise_map]
    exact List.Pairwise.imp (fun h z => h (by omega)) hn
  have ny : ys.Nodup := hp.nodup_iff.mpr inj
  refine rise_ext (List.Pairwise.imp (fun h => by obtain ⟨h1, h2⟩ := h; omega) (hs.and ny)) ?_ fun x => ?_
  · rw [List.pairwise_map]
    exact List.Pairwise.imp (fun h => by omega) (idxF_up M 0)
  · rw [hp.mem_iff]
    constructor
    · intro h
      obtain ⟨n, h1, h2⟩ := List.mem_map.mp h
      refine List.mem_map.mpr ⟨n, (idxF_mem M 0 n).mpr ⟨Nat.zero_le _, ?_⟩, h2⟩
      exact (hm n).mp h1
    · intro h
      obtain ⟨n, h1, h2⟩ := List.mem_map.mp h
      exact List.mem_map.mpr ⟨n, (hm n).mpr ((idxF_mem M 0 n).mp h1).2, h2⟩

/-! ### lists of rows, lists of lists -/
theorem RowsAt.snoc {H : Hp} {vs : List V} {rs : List Rw} {t : Addr} {w : Rw} (R : RowsAt H vs rs) (h : H t = some (.tup w.vs)) : RowsAt H (vs ++ [.ref t]) (rs ++ [w]) := by
  refine ⟨by rw [List.length_append, List.length_append, R.1]; rfl, fun j u hj => ?_⟩
  by_cases hjl : j < rs.length
  · rw [List.getElem?_append_left hjl] at hj
    obtain ⟨t', h1, h2⟩ := R.2 j u hj
    exact ⟨t', by rw [List.getElem?_append_left (by rw [R.1]; exact hjl)]; exact h1, h2⟩
  · rw [List.getElem?_append_right (by omega)] at hj
    have hj0 : j - rs.length = 0 := by
      rcases Nat.eq_zero_or_pos (j - rs.length) with z | z
      · exact z
      · rw [List.getElem?_eq_none (by rw [List.length_singleton]; exact z)] at hj
        cases hj
    rw [hj0] at hj
    have eu : w = u := Option.some.inj hj
    subst eu
    refine ⟨t, ?_, h⟩
    rw [List.getElem?_append_right (by rw [R.1]; omega), R.1, hj0]
    rfl
def ListsAt (H : Hp) (E : Addr → Prop) (vs : List V) (Rs : List (List Rw)) : Prop := vs.length = Rs.length ∧ ∀ (i : Nat) (rs : List Rw), Rs[i]? = some rs → ∃ b ys, vs[i]? = some (.ref b) ∧ H b = some (.lst ys) ∧ RowsAt H ys rs ∧ ¬ E b
theorem ListsAt.keep {E : Addr → Prop} {H H' : Hp} {vs : List V} {Rs : List (List Rw)} (h : ListsAt H E vs Rs) (k : Keep E H H') (nt : ∀ b xs, H b = some (.tup xs) → ¬ E b) : ListsAt H' E vs Rs := by
  refine ⟨h.1, fun i rs e => ?_⟩
  obtain ⟨b, ys, h1, h2, h3, h4⟩ := h.2 i rs e
  exact ⟨b, ys, h1, k _ _ h2 h4, h3.keep k nt, h4⟩
theorem ListsAt.snoc {E : Addr → Prop} {H : Hp} {vs ys : List V} {Rs : List (List Rw)} {b : Addr} {rs : List Rw} (R : ListsAt H E vs Rs) (hb : H b = some (.lst ys)) (hr : RowsAt H ys rs) (nb : ¬ E b) : ListsAt H E (vs ++ [.ref b]) (Rs ++ [rs]) := by
  refine ⟨by rw [List.length_append, List.length_append, R.1]; rfl, fun j u hj => ?_⟩
  by_cases hjl : j < Rs.length
  · rw [List.getElem?_append_left hjl] at hj
    obtain ⟨b', ys', h1, h2, h3, h4⟩ := R.2 j u hj
    exact ⟨b', ys', by rw [List.getElem?_append_left (by rw [R.1]; exact hjl)]; exact h1, h2, h3, h4⟩
  · rw [List.getElem?_append_right (by omega)] at hj
    have hj0 : j - Rs.length = 0 := by
      rcases Nat.eq_zero_or_pos (j - Rs.length) with z | z
      · exact z
      · rw [List.getElem?_eq_none (by rw [List.length_singleton]; exact z)] at hj
        cases hj
    rw [hj0] at hj
    have eu : rs = u := Option.some.inj hj
    subst eu
    refine ⟨b, ys, ?_, hb, hr, nb⟩
    rw [List.getElem?_append_right (by rw [R.1]; omega), R.1, hj0]
    rfl

/-! ### the dict by places -/
theorem putK_old {kvs : List (Key × V)} {k : Key} {v y : V} (h : valV kvs k = some y) : (putK kvs k v).map (·.1) = kvs.map (·.1) := by
  unfold putK
  rw [if_pos (by rw [valV_any, h]; rfl), List.map_map]
  refine List.map_congr_left fun p _ => ?_
  show (if p.1 = k then (p.1, v) else p).1 = p.1
  split <;> rfl
theorem own_put {H : Hp} {d t : Addr} {M : Tab} {w : Rw} {kvs : List (Key × V)} {nb : Nat} (O : OwnAt H d M) (hd : H d = some (.dK kvs)) (hb : kvs.length ≤ nb) (n0 : 0 < M.length) (ht : H t = some (.tup w.vs)) :
    OwnAt (upd H d (.dK (putK kvs (Sum.inl ((spt M.length w.t w.p : Nat) : Int)) (.ref t)))) d (put M w) ∧ (putK kvs (Sum.inl ((spt M.length w.t w.p : Nat) : Int) : Key) (.ref t)).length ≤ nb + 1 := by
  obtain ⟨kvs', ks, hd', hk, hn, hm, hv⟩ := O
  rw [hd] at hd'
  cases hd'
  have hlt : spt M.length w.t w.p < M.length := spt_lt n0
  generalize hs : spt M.length w.t w.p = s at hlt
  have up : put M w = M.set s (some w) := by
    unfold put
    rw [hs]
  have tup : ∀ b xs, H b = some (.tup xs) → (upd H d (.dK (putK kvs (Sum.inl ((s : Nat) : Int)) (.ref t)))) b = some (.tup xs) := fun b xs e => by
    have nb : b ≠ d := fun z => by
      rw [z, hd] at e
      cases e
    rw [upd_ne nb]
    exact e
  have vals : ∀ (i : Nat) (u : Rw), (put M w)[i]? = some (some u) → ∃ t', valV (putK kvs (Sum.inl ((s : Nat) : Int) : Key) (.ref t)) (Sum.inl (i : Int)) = some (.ref t') ∧ (upd H d (.dK (putK kvs (Sum.inl ((s : Nat) : Int)) (.ref t)))) t' = some (.tup u.vs) := fun i u e => by
    rw [up] at e
    rw [valV_put]
    by_cases hi : s = i
    · subst hi
      rw [List.getElem?_set_self hlt] at e
      cases e
      exact ⟨t, if_pos rfl, tup _ _ ht⟩
    · rw [List.getElem?_set_ne hi] at e
      obtain ⟨t', h1, h2⟩ := hv i u e
      refine ⟨t', ?_, tup _ _ h2⟩
      rw [if_neg (fun z => hi (by have q := Sum.inl.inj z; omega))]
      exact h1
  have mems : ∀ i : Nat, (i = s ∨ i ∈ ks) ↔ ∃ u : Rw, (put M w)[i]? = some (some u) := fun i => by
    rw [up]
    by_cases hi : s = i
    · subst hi
      exact ⟨fun _ => ⟨w, List.getElem?_set_self hlt⟩, fun _ => .inl rfl⟩
    · rw [List.getElem?_set_ne hi, hm i]
      exact ⟨fun z => z.resolve_left fun y => hi y.symm, .inr⟩
  cases hval : valV kvs (Sum.inl ((s : Nat) : Int) : Key) with
  | some y =>
    have ekeys := putK_old (v := .ref t) hval
    have elen : (putK kvs (Sum.inl ((s : Nat) : Int) : Key) (.ref t)).length = kvs.length := by
      have q := congrArg List.length ekeys
      simp only [List.length_map] at q
      exact q
    have sm : s ∈ ks := by
      have m1 := valV_in hval
      rw [hk] at m1
      obtain ⟨n, h1, h2⟩ := List.mem_map.mp m1
      have e : n = s := by
        have q := Sum.inl.inj h2
        omega
      rw [← e]
      exact h1
    refine ⟨⟨_, ks, upd_same, ekeys.trans hk, hn, fun i => ?_, vals⟩, by omega⟩
    rw [← mems i]
    exact ⟨.inr, fun z => z.elim (fun e => by rw [e]; exact sm) fun y => y⟩
  | none =>
    have enew := putK_new (.ref t) hval
    have sm : ¬ s ∈ ks := fun z => by
      refine valV_not hval ?_
      rw [hk]
      exact List.mem_map.mpr ⟨s, z, rfl⟩
    refine ⟨⟨_, ks ++ [s], upd_same, ?_, nd_snoc hn sm, fun i => ?_, vals⟩, ?_⟩
    · rw [enew, List.map_append, List.map_append, hk]
      rfl
    · rw [← mems i, List.mem_append, List.mem_singleton]
      exact ⟨fun z => z.elim .inr .inl, fun z => z.elim .inr .inl⟩
    · rw [enew, List.length_append, List.length_singleton]
      omega

/-! ### what the main loop keeps -/
structure Ad where
  x : Addr
  l : Addr
  d : Addr
  n : Addr
  h : Addr
  k : Addr
  c : Addr
def Ad.E (A : Ad) (b : Addr) : Prop := b = A.l ∨ b = A.d ∨ b = A.n ∨ b = A.h ∨ b = A.k
structure Li (C : Addr) (A : Ad) (cs : List V) (H : Hp) (nb : Nat) (Mn Mo : Tab) (ts hs ws : List V) (os : List Rw) (Rs : List (List Rw)) : Prop where
  near : NearAt C H A.x A.l Mn
  own : OwnAt H A.d Mo
  ob : ∃ kvs, H A.d = some (.dK kvs) ∧ kvs.length ≤ nb
  not : H A.n = some (.lst ts)
  nots : RowsAt H ts os
  held : H A.h = some (.lst hs)
  cop : H A.k = some (.lst ws)
  hAt : ListsAt H A.E hs Rs
  wAt : ListsAt H A.E ws Rs
  src : H A.c = some (.lst cs)
  nln : A.l ≠ A.n
  nlh : A.l ≠ A.h
  nlk : A.l ≠ A.k
  nnh : A.n ≠ A.h
  nnk : A.n ≠ A.k
  nhk : A.h ≠ A.k
  nc : ¬ A.E A.c
section
variable {C : Addr} {A : Ad} {cs : List V} {H H' : Hp} {nb : Nat} {Mn Mo : Tab} {ts hs ws : List V} {os : List Rw} {Rs : List (List Rw)}
theorem Li.nt (L : Li C A cs H nb Mn Mo ts hs ws os Rs) : ∀ b xs, H b = some (.tup xs) → ¬ A.E b := fun b xs e z => by
  obtain ⟨_, ys, hl, _⟩ := L.near
  obtain ⟨kvs, hd, _⟩ := L.ob
  rcases z with z | z | z | z | z
  · rw [z, hl] at e
    cases e
  · rw [z, hd] at e
    cases e
  · rw [z, L.not] at e
    cases e
  · rw [z, L.held] at e
    cases e
  · rw [z, L.cop] at e
    cases e
theorem Li.ndl (L : Li C A cs H nb Mn Mo ts hs ws os Rs) {b : Addr} {ys : List V} (h : H b = some (.lst ys)) : A.d ≠ b := fun z => by
  obtain ⟨kvs, hd, _⟩ := L.ob
  rw [z, h] at hd
  cases hd
theorem Li.nxl (L : Li C A cs H nb Mn Mo ts hs ws os Rs) {b : Addr} {ys : List V} (h : H b = some (.lst ys)) : A.x ≠ b := fun z => by
  obtain ⟨⟨dx, hx⟩, _⟩ := L.near
  rw [z, h] at hx
  cases hx
theorem Li.nxd (L : Li C A cs H nb Mn Mo ts hs ws os Rs) : A.x ≠ A.d := fun z => by
  obtain ⟨⟨dx, hx⟩, _⟩ := L.near
  obtain ⟨kvs, hd, _⟩ := L.ob
  rw [z, hd] at hx
  cases hx
theorem Li.new (L : Li C A cs H nb Mn Mo ts hs ws os Rs) {b : Addr} (h : H b = none) : ¬ A.E b := fun z => by
  obtain ⟨_, ys, hl, _⟩ := L.near
  obtain ⟨kvs, hd, _⟩ := L.ob
  rcases z with z | z | z | z | z
  · rw [z, hl] at h
    cases h
  · rw [z, hd] at h
    cases h
  · rw [z, L.not] at h
    cases h
  · rw [z, L.held] at h
    cases h
  · rw [z, L.cop] at h
    cases h
theorem Li.same (L : Li C A cs H nb Mn Mo ts hs ws os Rs) (s : Same H H') : Li C A cs H' nb Mn Mo ts hs ws os Rs := by
  obtain ⟨kvs, hd, hb⟩ := L.ob
  exact { L with near := L.near.same s, own := L.own.same s, ob := ⟨kvs, s _ _ hd, hb⟩, not := s _ _ L.not, nots := L.nots.same s, held := s _ _ L.held, cop := s _ _ L.cop, hAt := L.hAt.keep (Keep.of_same s) L.nt, wAt := L.wAt.keep (Keep.of_same s) L.nt, src := s _ _ L.src }
/-- one of the changing objects has changed -/
theorem keep_at {a : Addr} (hE : A.E a) (k : Keep (· = a) H H') : Keep A.E H H' := fun b o e n => k b o e fun z => n (by rw [z]; exact hE)
theorem Li.noted (L : Li C A cs H nb Mn Mo ts hs ws os Rs) {t : Addr} {w : Rw} (h : H t = some (.tup w.vs)) :
    Li C A cs (upd H A.n (.lst (ts ++ [.ref t]))) nb Mn Mo (ts ++ [.ref t]) hs ws (os ++ [w]) Rs := by
  obtain ⟨kvs, hd, hb⟩ := id L.ob
  have hl := L.near.2
  obtain ⟨xs, hl, _⟩ := hl
  have k : Keep (· = A.n) H (upd H A.n (.lst (ts ++ [.ref t]))) := keep_upd rfl
  have nt : ∀ b xs, H b = some (.tup xs) → ¬ b = A.n := fun b ys e z => L.nt b ys e (.inr (.inr (.inl z)))
  have kE : Keep A.E H (upd H A.n (.lst (ts ++ [.ref t]))) := keep_at (.inr (.inr (.inl rfl))) k
  exact { L with
    near := L.near.keep k nt (L.nxl L.not) L.nln, own := L.own.keep k nt (L.ndl L.not), ob := ⟨kvs, k _ _ hd (L.ndl L.not), hb⟩, not := upd_same, nots := (L.nots.snoc h).keep k nt,
    held := k _ _ L.held L.nnh.symm, cop := k _ _ L.cop L.nnk.symm, hAt := L.hAt.keep kE L.nt, wAt := L.wAt.keep kE L.nt, src := k _ _ L.src fun z => L.nc (.inr (.inr (.inl z))) }
theorem Li.nearAs (L : Li C A cs H nb Mn Mo ts hs ws os Rs) {M' : Tab} (k : Keep (· = A.l) H H') (N : NearAt C H' A.x A.l M') : Li C A cs H' nb M' Mo ts hs ws os Rs := by
  obtain ⟨kvs, hd, hb⟩ := id L.ob
  obtain ⟨xs, hl, _⟩ := L.near.2
  have nt : ∀ b xs, H b = some (.tup xs) → ¬ b = A.l := fun b ys e z => L.nt b ys e (.inl z)
  have kE : Keep A.E H H' := keep_at (.inl rfl) k
  exact { L with
    near := N, own := L.own.keep k nt (L.ndl hl), ob := ⟨kvs, k _ _ hd (L.ndl hl), hb⟩, not := k _ _ L.not L.nln.symm, nots := L.nots.keep k nt,
    held := k _ _ L.held L.nlh.symm, cop := k _ _ L.cop L.nlk.symm, hAt := L.hAt.keep kE L.nt, wAt := L.wAt.keep kE L.nt, src := k _ _ L.src fun z => L.nc (.inl z) }
theorem Li.ownAs (L : Li C A cs H nb Mn Mo ts hs ws os Rs) {M' : Tab} {kvs : List (Key × V)} {nb' : Nat} (O : OwnAt (upd H A.d (.dK kvs)) A.d M') (hb : kvs.length ≤ nb') : Li C A cs (upd H A.d (.dK kvs)) nb' Mn M' ts hs ws os Rs := by
  obtain ⟨xs, hl, _⟩ := L.near.2
  have k : Keep (· = A.d) H (upd H A.d (.dK kvs)) := keep_upd rfl
  have nt : ∀ b xs, H b = some (.tup xs) → ¬ b = A.d := fun b ys e z => L.nt b ys e (.inr (.inl z))
  have kE : Keep A.E H (upd H A.d (.dK kvs)) := keep_at (.inr (.inl rfl)) k
  exact { L with
    near := L.near.keep k nt L.nxd (L.ndl hl).symm, own := O, ob := ⟨kvs, upd_same, hb⟩, not := k _ _ L.not (L.ndl L.not).symm, nots := L.nots.keep k nt,
    held := k _ _ L.held (L.ndl L.held).symm, cop := k _ _ L.cop (L.ndl L.cop).symm, hAt := L.hAt.keep kE L.nt, wAt := L.wAt.keep kE L.nt, src := k _ _ L.src (L.ndl L.src).symm }
theorem Li.told (L : Li C A cs H nb Mn Mo ts hs ws os Rs) {b b' : Addr} {ys zs : List V} {rs : List Rw} (hb : H b = some (.lst ys)) (hr : RowsAt H ys rs) (nb1 : ¬ A.E b) (hb' : H b' = some (.lst zs)) (hr' : RowsAt H zs rs) (nb2 : ¬ A.E b') :
    Li C A cs (upd (upd H A.h (.lst (hs ++ [.ref b]))) A.k (.lst (ws ++ [.ref b']))) nb Mn Mo ts (hs ++ [.ref b]) (ws ++ [.ref b']) os (Rs ++ [rs]) := by
  obtain ⟨kvs, hd, hbb⟩ := id L.ob
  obtain ⟨xs, hl, _⟩ := L.near.2
  have k1 : Keep (fun z => z = A.h ∨ z = A.k) H (upd H A.h (.lst (hs ++ [.ref b]))) := keep_upd (.inl rfl)
  have k2 : Keep (fun z => z = A.h ∨ z = A.k) (upd H A.h (.lst (hs ++ [.ref b]))) (upd (upd H A.h (.lst (hs ++ [.ref b]))) A.k (.lst (ws ++ [.ref b']))) := keep_upd (.inr rfl)
  have k := k1.trans k2
  have nt : ∀ b xs, H b = some (.tup xs) → ¬ (b = A.h ∨ b = A.k) := fun c us e z => L.nt c us e (z.elim (fun y => .inr (.inr (.inr (.inl y)))) fun y => .inr (.inr (.inr (.inr y))))
  have kE : Keep A.E H (upd (upd H A.h (.lst (hs ++ [.ref b]))) A.k (.lst (ws ++ [.ref b']))) := fun c o e n => k c o e fun z => n (z.elim (fun y => .inr (.inr (.inr (.inl y)))) fun y => .inr (.inr (.inr (.inr y))))
  exact { L with
    near := L.near.keep k nt (fun z => z.elim (L.nxl L.held) (L.nxl L.cop)) (fun z => z.elim L.nlh L.nlk), own := L.own.keep k nt (fun z => z.elim (L.ndl L.held) (L.ndl L.cop)),
    ob := ⟨kvs, k _ _ hd (fun z => z.elim (L.ndl L.held) (L.ndl L.cop)), hbb⟩, not := k _ _ L.not (fun z => z.elim L.nnh L.nnk), nots := L.nots.keep k nt,
    held := (by rw [upd_ne L.nhk, upd_same]), cop := upd_same, hAt := (L.hAt.snoc hb hr nb1).keep kE L.nt, wAt := (L.wAt.snoc hb' hr' nb2).keep kE L.nt,
    src := k _ _ L.src fun z => L.nc (z.elim (fun y => .inr (.inr (.inr (.inl y)))) fun y => .inr (.inr (.inr (.inr y)))) }
end

/-! ### the told lists as data -/
def rowD (w : Rw) : PyData := .tuple [.int (w.t : Int), .int (w.p : Int), .int (w.f : Int), .int (w.r : Int)]
def rowsD (rs : List Rw) : PyData := .list (rs.map rowD)
def allD (Rs : List (List Rw)) : PyData := .list (Rs.map rowsD)
theorem dp_all {K : PySem.W.Frag} {H : Hp} {α : Type} (f : α → PyData) : ∀ (vs : List V) (rs : List α), vs.length = rs.length → (∀ (i : Nat) (r : α), rs[i]? = some r → ∃ v, vs[i]? = some v ∧ Dp K H v (f r)) → DpAll K H vs (rs.map f)
  | [], [], _, _ => .nil
  | [], r :: rs, h, _ => by simp at h
  | v :: vs, [], h, _ => by simp at h
  | v :: vs, r :: rs, h, k => by
    obtain ⟨v', e, q⟩ := k 0 r rfl
    have ev : v = v' := Option.some.inj e
    subst ev
    exact .cons q (dp_all f vs rs (by simpa using h) fun i r' e' => k (i + 1) r' e')
theorem dp_rows {K : PySem.W.Frag} {H : Hp} {vs : List V} {rs : List Rw} (R : RowsAt H vs rs) : DpAll K H vs (rs.map rowD) := dp_all rowD vs rs R.1 fun i r e => by
  obtain ⟨t, h1, h2⟩ := R.2 i r e
  exact ⟨_, h1, .tup (SqT.of h2) (.cons (.int _) (.cons (.int _) (.cons (.int _) (.cons (.int _) .nil))))⟩
theorem dp_lists {K : PySem.W.Frag} {H : Hp} {E : Addr → Prop} {a : Addr} {vs : List V} {Rs : List (List Rw)} (h : H a = some (.lst vs)) (R : ListsAt H E vs Rs) : Dp K H (.ref a) (allD Rs) :=
  .lst (SqL.of h) (dp_all rowsD vs Rs R.1 fun i rs e => by
    obtain ⟨b, ys, h1, h2, h3, _⟩ := R.2 i rs e
    exact ⟨_, h1, .lst (SqL.of h2) (dp_rows h3)⟩)
theorem lay_all {α : Type} (f : α → PyData) (h : ∀ a, PyData.canLay0 (f a) = true) : ∀ rs : List α, PyData.canLayAll0 (rs.map f) = true
  | [] => rfl
  | r :: rs => by
    show (PyData.canLay0 (f r) && PyData.canLayAll0 (rs.map f)) = true
    rw [h r, lay_all f h rs]
    rfl
theorem depth_all {α : Type} (f : α → PyData) (k : Nat) (h : ∀ a, PyData.depth (f a) ≤ k) : ∀ rs : List α, PyData.depthAll (rs.map f) ≤ k
  | [] => Nat.zero_le _
  | r :: rs => by
    show max (PyData.depth (f r)) (PyData.depthAll (rs.map f)) ≤ k
    exact Nat.max_le.mpr ⟨h r, depth_all f k h rs⟩
theorem lay_allD (Rs : List (List Rw)) : PyData.canLay0 (allD Rs) = true := lay_all rowsD (fun rs => lay_all rowD (fun _ => rfl) rs) Rs
theorem shaped_allD (Rs : List (List Rw)) : SeqAt.shaped (allD Rs) = true := by
  unfold SeqAt.shaped
  rw [lay_allD Rs]
  have h1 : ∀ w : Rw, PyData.depth (rowD w) ≤ 1 := fun w => Nat.le_refl 1
  have h2 : ∀ rs : List Rw, PyData.depth (rowsD rs) ≤ 2 := fun rs => Nat.succ_le_succ (depth_all rowD 1 h1 rs)
  have h3 : PyData.depth (allD Rs) ≤ 3 := Nat.succ_le_succ (depth_all rowsD 2 h2 Rs)
  rw [decide_eq_true (show PyData.depth (allD Rs) ≤ 64 by omega)]
  rfl
end Np
/-! The law. -/
namespace Np
open PySem L2
def loopBody (s : Stmt) : List Stmt := match s with
  | .For _ _ b _ _ => b
  | _ => []
abbrev lBody : List Stmt := loopBody ((defBody lLaw).getD 8 (.Pass ⟨0, 0, 0, 0⟩))
abbrev lN : List Str := ["_law_script", "_law_first", "_law_wrong", "_law_many", "_law_near", "_law_own", "_law_noted", "_law_held", "_law_copies", "_law_cell", "_law_row_here", "_law_asked_here", "_law_found", "_law_due", "_law_at"]
theorem scLaw : FnScope lN ["_law_script"] (defScope lLaw) := ⟨rfl, rfl, rfl, by decide +kernel, rfl, by decide +kernel, by decide +kernel⟩
/-- the sizes that are tried in vain -/
def wrongs (z : Int) : List V := [.int 65, .int (65 + z % 10 ^ (60 : Int).toNat), .int (-1), .int (-1 - z % 10 ^ (60 : Int).toNat), .int (3 + z % 61)]
theorem wrongs_at (z : Int) : ∀ (i : Nat) (v : V), (wrongs z)[i]? = some v → ∃ m : Int, v = .int m ∧ (m < 0 ∨ 64 < m ∨ (3 ≤ m ∧ m ≤ 63)) := by
  have h1 := Int.emod_nonneg z (Int.ne_of_gt ten60)
  generalize hu : z % 10 ^ (60 : Int).toNat = u at h1
  intro i v h
  unfold wrongs at h
  rw [hu] at h
  match i, h with
  | 0, h => exact ⟨65, (Option.some.inj h).symm, by omega⟩
  | 1, h => exact ⟨65 + u, (Option.some.inj h).symm, by omega⟩
  | 2, h => exact ⟨-1, (Option.some.inj h).symm, by omega⟩
  | 3, h => exact ⟨-1 - u, (Option.some.inj h).symm, by omega⟩
  | 4, h => exact ⟨3 + z % 61, (Option.some.inj h).symm, by omega⟩
  | i + 5, h => simp at h
/-- the frame in the main loop -/
abbrev frame (a x d n h k : Addr) (z : Int) (m : Nat) (v2 v9 v10 v11 v12 v13 : Option V) : L2.St :=
  [some (.ref a), some (.int z), v2, some (.int (m : Int)), some (.ref x), some (.ref d), some (.ref n), some (.ref h), some (.ref k), v9, v10, v11, v12, v13, none]
section
variable {P : Program} {w : World} {K : PySem.W.Frag} {mg : Str → Option Value} {base : Heap} {C NS LE FU NN : Addr}
theorem ok_law {f fI fN fR fC fW fD fO fA fL fX : Addr} {fd fdI fdN fdR fdC fdW fdD fdO fdA fdL fdX : FuncData} (F : Fun K "law" "law" lLaw f fd) (T : Txt K mg C NS LE FU NN) (MK : Mk K C fI)
    (GI : FnOk P w K mg base (L2.CX P w) 1 fI fdI ["self", "many"] (spInit C NS)) (bI : Binds K fdI ["self", "many"] [])
    (GN : FnOk P w K mg base CX0 2 fN fdN ["self", "task", "page", "frame", "rights"] (spNote C)) (bN : Binds K fdN ["self", "task", "page", "frame", "rights"] []) (mN : Meth K C "note" fN)
    (GR : FnOk P w K mg base CX0 1 fR fdR ["self"] (spRows C)) (bR : Binds K fdR ["self"] []) (mR : Meth K C "rows" fR)
    (GC : FnOk P w K mg base CX0 1 fC fdC ["_law_script", "_law_k"] (spCell K)) (kC : PySem.W.keepIn K (.ref fC) = true) (bC : Binds K fdC ["_law_script", "_law_k"] []) (gC : mg "_law_cell_at" = some (.ref fC))
    (GW : FnOk P w K mg base CX0 2 fW fdW ["_law_cell"] spRow) (kW : PySem.W.keepIn K (.ref fW) = true) (bW : Binds K fdW ["_law_cell"] []) (gW : mg "_law_row" = some (.ref fW))
    (GD : FnOk P w K mg base CX0 1 fD fdD ["_law_cell", "_law_by", "_law_prime", "_law_many"] spDrawn) (kD : PySem.W.keepIn K (.ref fD) = true) (bD : Binds K fdD ["_law_cell", "_law_by", "_law_prime", "_law_many"] []) (gD : mg "_law_drawn" = some (.ref fD))
    (GO : FnOk P w K mg base CX0 1 fO fdO ["_law_many", "_law_task", "_law_page"] spSpotL) (kO : PySem.W.keepIn K (.ref fO) = true) (bO : Binds K fdO ["_law_many", "_law_task", "_law_page"] []) (gO : mg "_law_spot" = some (.ref fO))
    (GA : FnOk P w K mg base CX0 3 fA fdA ["_law_near", "_law_own", "_law_many", "_law_row_here", "_law_cell"] (spAsked C)) (kA : PySem.W.keepIn K (.ref fA) = true) (bA : Binds K fdA ["_law_near", "_law_own", "_law_many", "_law_row_here", "_law_cell"] []) (gA : mg "_law_asked" = some (.ref fA))
    (GL : FnOk P w K mg base CX0 2 fL fdL ["_law_found", "_law_due"] spRowsL) (kL : PySem.W.keepIn K (.ref fL) = true) (bL : Binds K fdL ["_law_found", "_law_due"] []) (gL : mg "_law_rows" = some (.ref fL))
    (GX : FnOk P w K mg base CX0 3 fX fdX ["_law_many"] spNoSh) (kX : PySem.W.keepIn K (.ref fX) = true) (bX : Binds K fdX ["_law_many"] []) (gX : mg "_law_no_shape" = some (.ref fX)) :
    FnOk P w K mg base CX0 4 f fd ["_law_script"] (spLaw K) := by
  refine F.ok scLaw (fun vs H Q E h => ?_) (fun cdv Ar outer s H vs Q E hr h => ?_)
  · obtain ⟨a, ns, rfl, _⟩ := h
    rfl
  · obtain ⟨a, ns, rfl, hS, hlen, q⟩ := h
    have hr1 : Room 1 _ := hr.mono (by decide)
    have hr2 : Room 2 _ := hr.mono (by decide)
    have hu := hu_of hr
    have huD := hr.units
    -- the second half of a turn
    obtain ⟨tB, hB, qB⟩ : ∃ tS, PSs (cxOf CX0 P w K mg base lN "law" (defScope lLaw) f cdv Ar outer s H E).nox (lBody.drop 6) tS ∧
        ∀ (D : Ends) (A : Ad) (cs : List V) (z c : Int) (m nb : Nat) (M : Tab) (ts hs ws : List V) (os : List Rw) (Rs : List (List Rw)) (v2 v12 v13 : Option V) (t r : Addr) (u u' : Rw) (H5 : Hp),
          Li C A cs H5 nb M M ts hs ws os Rs → M.length = m → Wf M → nb ≤ 62 → Rs.length ≤ 62 → H5 t = some (.tup u.vs) → H5 r = some (.tup u'.vs) →
          (∀ (hs' ws' : List V) (Rs' : List (List Rw)) (v12 v13 : Option V) (H9 : Hp), Rs'.length = Rs.length + 1 → Li C A cs H9 nb M M ts hs' ws' os Rs' → D.nx (frame a A.x A.d A.n A.h A.k z m v2 (some (.int c)) (some (.ref t)) (some (.ref r)) v12 v13) H9) →
          tS D (frame a A.x A.d A.n A.h A.k z m v2 (some (.int c)) (some (.ref t)) (some (.ref r)) v12 v13) H5 := by
      refine ⟨_, pss_cons (ps_set (i := 12) scLaw.nd rfl (.inl rfl) (pe_meth0 (pv 4) T.cl mR GR hr1 bR .nil pass0))
        (pss_cons (ps_setLc (i := 13) (own := [("_law_at", 14)]) (g := gName 14) (tt := tYes) rfl scLaw.nd rfl rfl (sw_true rfl rfl rfl (by decide +kernel)) (pi_list (pe_callB (call_sortedDI rfl) (by rfl) T.srt boot_sorted_ (pa_cons (pv 5) pa_nil)))
          (blkOk_by (N := lN) (sc := defScope lLaw) (by decide +kernel)) (fun _ _ _ _ _ => pg_name (i := 14) scLaw.nd rfl (Or.inl rfl)) (fun _ _ _ _ _ => pts_nil) (fun _ _ _ _ _ => pe_dget hu (pv 5) (pv 14) (fun _ _ => rfl)))
        (pss_cons (ps_if (PW.pt (pw_or (pt_not (pt_val (pe_call GL hr2 (by rfl) gL kL bL .nil pass0 (pa_cons (pv 12) (pa_cons (pv 13) pa_nil)))))
            (pw_or1 (pt_not (pt_val (pe_call GA hr (by rfl) gA kA bA .nil pass0 (pa_cons (pv 4) (pa_cons (pv 5) (pa_cons (pv 3) (pa_cons (pv 11) (pa_cons (pe_op op_fdiv (pv 9) pe_int) pa_nil))))))))))) (pss_one (ps_ret pe_bl)) pss_nil)
        (pss_cons (ps_if (pt_not (pt_val (pe_call GA hr (by rfl) gA kA bA .nil pass0 (pa_cons (pv 4) (pa_cons (pv 5) (pa_cons (pv 3) (pa_cons (pv 10) (pa_cons (pv 9) pa_nil)))))))) (pss_one (ps_ret pe_bl)) pss_nil)
        (pss_cons (ps_expr (pe_bm PySem.F.plainAttrs_list PySem.F.slot_list_append PySem.F.type_list_append mt_append (pv 7) (pa_cons (pv 12) pa_nil)))
        (pss_one (ps_expr (pe_bm PySem.F.plainAttrs_list PySem.F.slot_list_append PySem.F.type_list_append mt_append (pv 8) (pa_cons (pv 13) pa_nil)))))))), ?_⟩
      intro D A cs z c m nb M ts hs ws os Rs v2 v12 v13 t r u u' H5 L hM wf hnb hRs ht hrr next
      obtain ⟨⟨dx, hx⟩, _⟩ := id L.near
      -- found = near.rows()
      refine ⟨_, rfl, A.x, dx, _, rfl, hx, nf_no _ (by decide +kernel), A.x, A.l, M, rfl, L.near, wf, fun H6 Df ys nDf s6 hDf R6 => ?_⟩
      have L6 := L.same s6
      have nEf : ¬ A.E Df := L.new nDf
      obtain ⟨kvs, ks, hd, hk, hn, hm, hv⟩ := id L6.own
      obtain ⟨kvs', hd', hb⟩ := id L6.ob
      have ekv : kvs' = kvs := by
        rw [hd] at hd'
        cases hd'
        rfl
      rw [ekv] at hb
      have ekl : ks.length = kvs.length := by
        have e := congrArg List.length hk
        simp only [List.length_map] at e
        exact e.symm
      -- due = [own[at] for at in sorted(own)]
      refine ⟨_, rfl, A.d, kvs, ks.map (fun (n : Nat) => (n : Int)), rfl, .inl hd, by rw [hk, List.map_map]; rfl, by rw [List.length_map]; omega, fun yk p perm rise np => ?_⟩
      have eyk := keys_sorted hn hm perm rise
      have s7 : Same H6 (upd H6 p (.lst (yk.map V.int))) := same_new np
      refine ⟨p, rfl, ⟨_, SqL.of upd_same⟩, fun Dd nDd => ?_⟩
      have npD : p ≠ Dd := ne_of_none (upd_same (H := H6) (a := p) (o := .lst (yk.map V.int))) nDd
      have nEd : ¬ A.E Dd := (L6.same s7).new nDd
      refine lc_list (K := K) (a := p) (xs := yk.map V.int) (fun i H' => ∃ zs, H' = upd (upd H6 p (.lst (yk.map V.int))) Dd (.lst zs) ∧ RowsAt H6 zs ((M.filterMap id).take i)) ⟨[], rfl, rfl, fun i w e => by simp at e⟩ ?_ ?_ ?_
      · rintro i H' _ ⟨zs, rfl, _⟩
        exact SqL.of (by rw [upd_ne npD, upd_same])
      · rintro i v H' hvi ⟨zs, rfl, R⟩
        have hil : i < (M.filterMap id).length := by
          have e := (List.getElem?_eq_some_iff.mp hvi).1
          rw [List.length_map, eyk, List.length_map, idxF_len] at e
          exact e
        have hrow : (M.filterMap id)[i]? = some (M.filterMap id)[i] := List.getElem?_eq_getElem hil
        obtain ⟨j, hj1, _, hj2⟩ := idxF_row M 0 i _ hrow
        rw [Nat.sub_zero] at hj2
        have ev : v = .int (j : Int) := by
          rw [eyk, List.getElem?_map, List.getElem?_map, hj1] at hvi
          exact (Option.some.inj hvi).symm
        subst ev
        obtain ⟨tj, hj3, hj4⟩ := hv j _ hj2
        have nd : A.d ≠ p := ne_of_none hd np
        have nd2 : A.d ≠ Dd := ne_of_none (s7 _ _ hd) nDd
        refine ⟨rfl, ?_⟩
        show tDGet (tVar 5) (tVar 14) _ _ _
        refine ⟨_, rfl, _, rfl, A.d, .ref tj, rfl, ?_, zs, upd_same, ?_, zs ++ [.ref tj], by rw [upd_upd], ?_⟩
        · rw [← hj3]
          exact DGet.k (k := Sum.inl (j : Int)) (by rw [upd_ne nd2, upd_ne nd]; exact hd)
        · rw [R.1, List.length_take]
          refine small1000 ?_
          have z1 := fm_len M
          have z2 := wf.le
          omega
        · rw [List.take_add_one, hrow]
          exact R.snoc hj4
      rintro H' ⟨zs, rfl, R⟩
      have efm : (yk.map V.int).length = (M.filterMap id).length := by
        rw [List.length_map, eyk, List.length_map, idxF_len]
      rw [efm, List.take_length] at R
      have s8 : Same (upd H6 p (.lst (yk.map V.int))) (upd (upd H6 p (.lst (yk.map V.int))) Dd (.lst zs)) := same_new nDd
      have s68 := s7.trans s8
      have L8 := L6.same s68
      have fm64 : (M.filterMap id).length ≤ 64 := Nat.le_trans (fm_len M) wf.le
      -- the rows are those due; both are asked for
      refine ⟨_, rfl, _, rfl, Df, Dd, ys, zs, M.filterMap id, rfl, s68 _ _ hDf, upd_same, R6.same s68, R.same s68, fm64, true, rfl, iteF ?_⟩
      have ht8 := s68 _ _ (s6 _ _ ht)
      have hr8 := s68 _ _ (s6 _ _ hrr)
      refine ⟨_, rfl, _, rfl, _, rfl, _, rfl, _, rfl, _, _, rfl, rfl, ⟨by decide, by decide⟩, A.x, A.l, A.d, r, M, u', _, by rw [hM]; rfl, L8.near, L8.own, wf, hr8, fun H9 s9 => ⟨true, rfl, iteF ?_⟩⟩
      have L9 := L8.same s9
      refine ⟨_, rfl, _, rfl, _, rfl, _, rfl, _, rfl, A.x, A.l, A.d, t, M, u, _, by rw [hM]; rfl, L9.near, L9.own, wf, s9 _ _ ht8, fun H10 s10 => ⟨true, rfl, iteF ?_⟩⟩
      have L10 := L9.same s10
      have sAll := s9.trans s10
      -- both lists are told on
      refine ⟨_, rfl, .inl ⟨rfl, _, SqL.of L10.held⟩, _, rfl, A.h, _, _, rfl, rfl, L10.held, small1000 (by rw [L10.hAt.1]; omega), ?_⟩
      have hk2 : (upd H10 A.h (.lst (hs ++ [.ref Df]))) A.k = some (.lst ws) := by
        rw [upd_ne L10.nhk.symm]
        exact L10.cop
      refine ⟨_, rfl, .inl ⟨rfl, _, SqL.of hk2⟩, _, rfl, A.k, _, _, rfl, rfl, hk2, small1000 (by rw [L10.wAt.1]; omega), ?_⟩
      exact next _ _ _ _ _ _ (by rw [List.length_append]; rfl) (L10.told (sAll _ _ (s68 _ _ hDf)) ((R6.same s68).same sAll) nEf (sAll _ _ upd_same) ((R.same s68).same sAll) nEd)
    refine ⟨_, pss_cons (ps_set (i := 1) scLaw.nd rfl (.inl rfl) (pe_call GC hr1 (by rfl) gC kC bC .nil pass0 (pa_cons (pv 0) (pa_cons pe_int pa_nil))))
      (pss_cons (ps_for PassesOwn.never rfl (pi_list (pe_lst (pa_cons pe_int (pa_cons (pe_op op_add pe_int (pe_op op_mod (pv 1) (pe_op op_pow pe_int pe_int))) (pa_cons (pe_un un_neg pe_int)
          (pa_cons (pe_op op_sub (pe_un un_neg pe_int) (pe_op op_mod (pv 1) (pe_op op_pow pe_int pe_int))) (pa_cons (pe_op op_add pe_int (pe_op op_mod (pv 1) pe_int)) pa_nil))))))) (pg_name (i := 2) scLaw.nd rfl (.inl rfl))
        (pss_one (ps_if (PW.pt (pw_and (pt_cmpR op_notIn_seq (pv 2) (pe_tup (pa_cons pe_int (pa_cons pe_int (pa_cons pe_int (pa_cons pe_int pa_nil))))) (by rfl)) (pw_and (pt_cmpR op_ne (pv 2) pe_int (nomark _))
          (pw_and1 (pt_not (pt_val (pe_call GX hr (by rfl) gX kX bX .nil pass0 (pa_cons (pv 2) pa_nil)))))))) (pss_one (ps_ret pe_bl)) pss_nil)))
      (pss_cons (ps_set (i := 3) scLaw.nd rfl (.inl rfl) (pe_ix ix_list (pe_lst (pa_cons pe_int (pa_cons pe_int (pa_cons pe_int (pa_cons pe_int (pa_cons pe_int (pa_cons pe_int (pa_cons pe_int (pa_cons pe_int pa_nil))))))))) (pe_op op_mod (pv 1) pe_int) (fun _ _ => rfl)))
      (pss_cons (ps_set (i := 4) scLaw.nd rfl (.inl rfl) (pe_make MK GI hr2 (by rfl) T.mgC bI .nil passL (pa_cons (pv 3) pa_nil)))
      (pss_cons (ps_set (i := 5) scLaw.nd rfl (.inr rfl) pe_dnewK)
      (pss_cons (ps_set (i := 6) scLaw.nd rfl (.inl rfl) (pe_lst pa_nil))
      (pss_cons (ps_set (i := 7) scLaw.nd rfl (.inl rfl) (pe_lst pa_nil))
      (pss_cons (ps_set (i := 8) scLaw.nd rfl (.inl rfl) (pe_lst pa_nil))
      (pss_cons (ps_for PassesOwn.never rfl (pi_list (pe_slice sl_list (pv 0) (po_some pe_int) (po_some pe_int))) (pg_name (i := 9) scLaw.nd rfl (.inl rfl))
        (pss_cons (ps_set (i := 10) scLaw.nd rfl (.inl rfl) (pe_call GW hr2 (by rfl) gW kW bW .nil pass0 (pa_cons (pv 9) pa_nil)))
        (pss_cons (ps_expr (pe_bm PySem.F.plainAttrs_list PySem.F.slot_list_append PySem.F.type_list_append mt_append (pv 6) (pa_cons (pv 10) pa_nil)))
        (pss_cons (ps_set (i := 11) scLaw.nd rfl (.inl rfl) (pe_ix ix_list (pv 6) (pe_call GD hr1 (by rfl) gD kD bD .nil pass0 (pa_cons (pv 9) (pa_cons pe_int (pa_cons pe_int (pa_cons (pe_callB call_len_seq (by rfl) T.len PySem.boot_len (pa_cons (pv 6) pa_nil)) pa_nil))))) (fun _ _ => rfl)))
        (pss_cons (ps_if (pt_not (pt_val (pe_call GA hr (by rfl) gA kA bA .nil pass0 (pa_cons (pv 4) (pa_cons (pv 5) (pa_cons (pv 3) (pa_cons (pv 11) (pa_cons (pe_op op_fdiv (pv 9) pe_int) pa_nil)))))))) (pss_one (ps_ret pe_bl)) pss_nil)
        (pss_cons (ps_expr (pe_meth (pv 4) T.cl mN GN hr2 bN .nil pass0 (pa_cons (pe_ix ix_tup (pv 10) pe_int (fun _ _ => rfl)) (pa_cons (pe_ix ix_tup (pv 10) pe_int (fun _ _ => rfl)) (pa_cons (pe_ix ix_tup (pv 10) pe_int (fun _ _ => rfl)) (pa_cons (pe_ix ix_tup (pv 10) pe_int (fun _ _ => rfl)) pa_nil))))))
        (pss_cons (ps_if (pt_cmpR op_gt (pv 3) pe_int (nomark _)) (pss_one (ps_dput hu (pv 5) (pe_call GO hr1 (by rfl) gO kO bO .nil pass0 (pa_cons (pv 3) (pa_cons (pe_ix ix_tup (pv 10) pe_int (fun _ _ => rfl)) (pa_cons (pe_ix ix_tup (pv 10) pe_int (fun _ _ => rfl)) pa_nil)))) (pv 10) rfl)) pss_nil)
        hB)))))))
      (pss_one (ps_ret (pe_cmpR (op_eqD huD) (pv 7) (pv 8) (nomark _)))))))))))), ?_⟩
    -- first = cell_at(script, 0)
    refine ⟨_, rfl, a, ns, rfl, hS, fun fi => ?_⟩
    -- the wrong sizes
    refine ⟨_, rfl, _, _, rfl, rfl, ⟨by decide, by decide, by decide⟩, _, _, rfl, rfl, ten60, _, _, rfl, rfl, _, rfl, _, rfl, _, rfl, _, _, rfl, rfl, ⟨by decide, by decide, by decide⟩, _, _, rfl, rfl, ten60, _, _, rfl, rfl,
      _, rfl, _, _, rfl, rfl, by show (0 : Int) < 61; decide, _, _, rfl, rfl, by show 5 ≤ sizeLine; decide, fun p hp => ⟨p, rfl, ⟨wrongs fi, SqL.of upd_same⟩, ?_⟩⟩
    have sp : Same H (upd H p (.lst (wrongs fi))) := same_new hp
    refine for_list (K := K) (a := p) (xs := wrongs fi) (fun i σ H' => ∃ v2 : Option V, σ = [some (.ref a), some (.int fi), v2, none, none, none, none, none, none, none, none, none, none, none, none] ∧ Same (upd H p (.lst (wrongs fi))) H')
      ⟨none, rfl, Same.refl _⟩ (fun i σ H' _ ⟨_, _, s⟩ => SqL.of (s _ _ upd_same)) ?_ ?_
    · rintro i v σ H' hi ⟨v2, rfl, s⟩
      obtain ⟨m, rfl, hm⟩ := wrongs_at fi i v hi
      refine ⟨_, rfl, by show 4 ≤ sizeLine; decide, fun tp htp => ?_⟩
      have s2 : Same H' (upd H' tp (.tup [.int 4, .int 8, .int 16, .int 32])) := same_new htp
      refine ⟨tp, [.int 4, .int 8, .int 16, .int 32], rfl, .inr (SqT.of upd_same), rfl, rfl, _, rfl, ?_⟩
      show if (!inV (V.int m) [.int 4, .int 8, .int 16, .int 32]) = true then _ else _
      cases hin : inV (V.int m) [.int 4, .int 8, .int 16, .int 32] with
      | true => exact iteF (iteF ⟨_, rfl, s.trans s2⟩)
      | false =>
        refine iteT ?_
        refine ⟨_, rfl, rfl, _, rfl, ?_⟩
        by_cases h64 : m = 64
        · subst h64
          show if (!decide (V.int 64 = V.int 64)) = true then _ else _
          rw [show (!decide (V.int 64 = V.int 64)) = false from rfl]
          exact iteF (iteF ⟨_, rfl, s.trans s2⟩)
        · show if (!decide (V.int m = V.int 64)) = true then _ else _
          rw [show (!decide (V.int m = V.int 64)) = true by rw [decide_eq_false (fun z => h64 (V.int.inj z))]; rfl]
          refine iteT ?_
          have out : m ≠ 4 ∧ m ≠ 8 ∧ m ≠ 16 ∧ m ≠ 32 := by
            have q4 : ∀ y : Int, V.int y ∈ ([.int 4, .int 8, .int 16, .int 32] : List V) → m ≠ y := fun y hy e => by
              have z := List.any_eq_false.mp hin (V.int y) hy
              refine z ?_
              show (y == m) = true
              rw [e]
              exact beq_self_eq_true y
            exact ⟨q4 4 (by simp), q4 8 (by simp), q4 16 (by simp), q4 32 (by simp)⟩
          refine ⟨_, rfl, m, rfl, bad_of (by omega), fun H3 s3 => ⟨true, rfl, iteF ⟨_, rfl, (s.trans s2).trans s3⟩⟩⟩
    · rintro σ H1 ⟨v2, rfl, s⟩
      have sH1 : Same H H1 := sp.trans s
      -- many
      refine ⟨by show 8 ≤ sizeLine; decide, fun p2 hp2 => ?_⟩
      have e8 := Int.emod_nonneg fi (show (8 : Int) ≠ 0 by decide)
      have l8 := Int.emod_lt_of_pos fi (show (0 : Int) < 8 by decide)
      obtain ⟨j, ej⟩ := Int.eq_ofNat_of_zero_le e8
      have hj : j < 8 := by omega
      refine ⟨_, rfl, _, _, rfl, rfl, by show (0 : Int) < 8; decide, p2, _, _, _, rfl, rfl, SqL.of upd_same, at_of ej (mOf_get j hj), ?_⟩
      have mwf := mOf_wf j hj
      have mgood := mOf_good j hj
      generalize mOf j = m at mwf mgood
      have s2 : Same H1 (upd H1 p2 (.lst [.int 0, .int 1, .int 2, .int 4, .int 8, .int 16, .int 32, .int 64])) := same_new hp2
      generalize upd H1 p2 (.lst [.int 0, .int 1, .int 2, .int 4, .int 8, .int 16, .int 32, .int 64]) = H2 at s2
      -- near = Near(many)
      refine ⟨_, rfl, fun x dx nx ndx nex => ⟨x, dx, (m : Int), rfl, upd_same, fun bad => absurd bad mgood, fun _ l H3 nl k3 hx3 hl3 => ⟨rfl, ?_⟩⟩⟩
      have s3 : Same H2 H3 := fun b o e => by
        refine k3 b o ?_ (ne_of_none e nx)
        rw [upd_ne (ne_of_none e nx), upd_ne (ne_of_none e ndx)]
        exact e
      rw [Int.toNat_natCast] at hl3
      -- own, noted, held, copies
      refine fun d nd => ?_
      have s4 : Same H3 (upd H3 d (.dK [])) := same_new nd
      have hd4 : (upd H3 d (.dK [])) d = some (.dK []) := upd_same
      generalize upd H3 d (.dK []) = H4 at s4 hd4
      refine ⟨Nat.zero_le _, fun n nn => ?_⟩
      have s5 : Same H4 (upd H4 n (.lst [])) := same_new nn
      have hn5 : (upd H4 n (.lst [])) n = some (.lst []) := upd_same
      generalize upd H4 n (.lst []) = H5 at s5 hn5
      refine ⟨Nat.zero_le _, fun h nh => ?_⟩
      have s6 : Same H5 (upd H5 h (.lst [])) := same_new nh
      have hh6 : (upd H5 h (.lst [])) h = some (.lst []) := upd_same
      generalize upd H5 h (.lst []) = H6 at s6 hh6
      refine ⟨Nat.zero_le _, fun k nk => ?_⟩
      have s7 : Same H6 (upd H6 k (.lst [])) := same_new nk
      have hk7 : (upd H6 k (.lst [])) k = some (.lst []) := upd_same
      generalize upd H6 k (.lst []) = H7 at s7 hk7
      have sAll : Same H H7 := (((((sH1.trans s2).trans s3).trans s4).trans s5).trans s6).trans s7
      have s37 : Same H3 H7 := ((s4.trans s5).trans s6).trans s7
      -- for cell in script[1:64]
      refine ⟨_, rfl, 1, rfl, 64, rfl, a, _, rfl, sAll.seq hS, fun c nc => ⟨c, rfl, ⟨_, SqL.of upd_same⟩, ?_⟩⟩
      have s8 : Same H7 (upd H7 c (.lst (cutV (ns.map V.int) (some 1) (some 64)))) := same_new nc
      have hc8 : (upd H7 c (.lst (cutV (ns.map V.int) (some 1) (some 64)))) c = some (.lst (cutV (ns.map V.int) (some 1) (some 64))) := upd_same
      generalize upd H7 c (.lst (cutV (ns.map V.int) (some 1) (some 64))) = H8 at s8 hc8
      have csl : (cutV (ns.map V.int) (some 1) (some 64)).length ≤ 62 := by
        unfold cutV
        rw [show HT.sIx (ns.map V.int).length 0 (some 1) = min 1 (ns.map V.int).length from HT.sIx_nat _ 0 1, List.length_take, List.length_drop, List.length_map]
        omega
      have csi : ∀ v, v ∈ cutV (ns.map V.int) (some 1) (some 64) → ∃ z, v = V.int z := fun v hv => by
        obtain ⟨z, _, e⟩ := List.mem_map.mp (List.mem_of_mem_drop (List.mem_of_mem_take hv))
        exact ⟨z, e.symm⟩
      generalize cutV (ns.map V.int) (some 1) (some 64) = cs at hc8 csl csi
      have s38 := s37.trans s8
      have hl8 := s38 _ _ hl3
      have none_at : ∀ (i : Nat) (o : Option Rw), (List.replicate m (none : Option Rw))[i]? = some o → i < m ∧ o = none := fun i o e => by
        rw [List.getElem?_replicate] at e
        split at e
        · rename_i hi
          cases e
          exact ⟨hi, rfl⟩
        · cases e
      have hNear : NearAt C H8 x l (List.replicate m none) := by
        refine ⟨⟨dx, s38 _ _ hx3⟩, _, hl8, ?_, fun i o e => ?_⟩
        · rw [List.length_replicate, List.length_replicate]
        · obtain ⟨hi, rfl⟩ := none_at i o e
          exact ⟨.non, by rw [List.getElem?_replicate, if_pos hi], rfl⟩
      have hd8 : H8 d = some (.dK []) := (((s5.trans s6).trans s7).trans s8) _ _ hd4
      have hOwn : OwnAt H8 d (List.replicate m none) := by
        refine ⟨[], [], hd8, rfl, List.nodup_nil, fun i => ⟨fun z => ?_, ?_⟩, fun i w e => ?_⟩
        · cases z
        · rintro ⟨w, e⟩
          obtain ⟨_, z⟩ := none_at i _ e
          cases z
        · obtain ⟨_, z⟩ := none_at i _ e
          cases z
      have ncE : ¬ Ad.E ⟨x, l, d, n, h, k, c⟩ c := by
        rintro (z | z | z | z | z)
        · exact ne_of_none (s37 _ _ hl3) nc z.symm
        · exact ne_of_none (((s5.trans s6).trans s7) _ _ hd4) nc z.symm
        · exact ne_of_none ((s6.trans s7) _ _ hn5) nc z.symm
        · exact ne_of_none (s7 _ _ hh6) nc z.symm
        · exact ne_of_none hk7 nc z.symm
      have L0 : Li C ⟨x, l, d, n, h, k, c⟩ cs H8 0 (List.replicate m none) (List.replicate m none) [] [] [] [] [] :=
        { near := hNear, own := hOwn, ob := ⟨[], hd8, Nat.le_refl _⟩, not := ((s6.trans s7).trans s8) _ _ hn5, nots := ⟨rfl, fun i w e => by simp at e⟩, held := (s7.trans s8) _ _ hh6, cop := s8 _ _ hk7,
          hAt := ⟨rfl, fun i w e => by simp at e⟩, wAt := ⟨rfl, fun i w e => by simp at e⟩, src := hc8, nln := ne_of_none (s4 _ _ hl3) nn, nlh := ne_of_none ((s4.trans s5) _ _ hl3) nh,
          nlk := ne_of_none (((s4.trans s5).trans s6) _ _ hl3) nk, nnh := ne_of_none hn5 nh, nnk := ne_of_none (s6 _ _ hn5) nk, nhk := ne_of_none hh6 nk, nc := ncE }
      refine for_list (K := K) (a := c) (xs := cs) (fun i σ H' => ∃ (M : Tab) (ts hs ws : List V) (os : List Rw) (Rs : List (List Rw)) (v9 v10 v11 v12 v13 : Option V), σ = frame a x d n h k fi m v2 v9 v10 v11 v12 v13 ∧
        Li C ⟨x, l, d, n, h, k, c⟩ cs H' i M M ts hs ws os Rs ∧ M.length = m ∧ Wf M ∧ os.length = i ∧ Rs.length = i)
        ⟨List.replicate m none, [], [], [], [], [], none, none, none, none, none, rfl, L0, List.length_replicate, ?_, rfl, rfl⟩ (fun i σ H' _ ⟨_, _, _, _, _, _, _, _, _, _, _, _, L, _⟩ => SqL.of L.src) ?_ ?_
      · unfold Wf
        rw [List.length_replicate]
        exact mwf
      · rintro i y σ G hi ⟨M, ts, hs, ws, os, Rs, v9, v10, v11, v12, v13, rfl, L, hM, wf, hos, hRs⟩
        have hi62 : i < 62 := by
          have e := (List.getElem?_eq_some_iff.mp hi).1
          omega
        obtain ⟨z, rfl⟩ := csi y (List.mem_of_getElem? hi)
        -- row_here; noted.append(row_here)
        refine ⟨_, rfl, z, rfl, fun u t ht => ?_⟩
        have L1 := L.same (same_new (o := .tup u.vs) ht)
        have ht1 : (upd G t (.tup u.vs)) t = some (.tup u.vs) := upd_same
        generalize upd G t (.tup u.vs) = G1 at L1 ht1
        refine ⟨_, rfl, .inl ⟨rfl, _, SqL.of L1.not⟩, _, rfl, n, _, _, rfl, rfl, L1.not, small1000 (by rw [L1.nots.1]; omega), ?_⟩
        have L2 := L1.noted ht1
        have ht2 : (upd G1 n (.lst (ts ++ [.ref t]))) t = some (.tup u.vs) := by
          rw [upd_ne (fun e => L1.nt t _ ht1 (.inr (.inr (.inl e))))]
          exact ht1
        have tsl : (ts ++ [V.ref t]).length = (os ++ [u]).length := L2.nots.1
        have osl : (os ++ [u]).length = i + 1 := by
          rw [List.length_append, List.length_singleton, hos]
        -- asked_here
        refine ⟨_, rfl, _, rfl, _, rfl, n, _, rfl, .inl (SqL.of L2.not), z, _, _, (ts ++ [V.ref t]).length, rfl, ⟨by decide, by decide⟩, by decide, by omega, fun j hj => ?_⟩
        obtain ⟨u', hu'⟩ : ∃ u', (os ++ [u])[j]? = some u' := ⟨_, List.getElem?_eq_getElem (by omega)⟩
        obtain ⟨r, hr1', hr2'⟩ := L2.nots.2 j u' hu'
        refine ⟨n, _, _, .ref r, rfl, rfl, SqL.of L2.not, atI_nat hr1', ?_⟩
        -- asked ahead
        refine ⟨_, rfl, _, rfl, _, rfl, _, rfl, _, rfl, _, _, rfl, rfl, ⟨by decide, by decide⟩, x, l, d, r, M, u', _, by rw [hM]; rfl, L2.near, L2.own, wf, hr2', fun G3 s3 => ⟨true, rfl, iteF ?_⟩⟩
        have L3 := L2.same s3
        have ht3 := s3 _ _ ht2
        obtain ⟨⟨dx3, hx3⟩, _⟩ := id L3.near
        -- near.note(..)
        refine ⟨_, rfl, x, dx3, _, rfl, hx3, nf_no _ (by decide +kernel), _, rfl, t, _, 0, .int (u.t : Int), rfl, rfl, SqT.of ht3, atI_nat (j := 0) rfl, _, rfl, t, _, 1, .int (u.p : Int), rfl, rfl, SqT.of ht3, atI_nat (j := 1) rfl,
          _, rfl, t, _, 2, .int (u.f : Int), rfl, rfl, SqT.of ht3, atI_nat (j := 2) rfl, _, rfl, t, _, 3, .int (u.r : Int), rfl, rfl, SqT.of ht3, atI_nat (j := 3) rfl, x, l, M, u, rfl, L3.near, wf, fun G4 k4 N4 => ?_⟩
        have L4 := L3.nearAs k4 N4
        have ht4 : G4 t = some (.tup u.vs) := k4 _ _ ht3 fun e => L3.nt t _ ht3 (.inl e)
        have hr4 : G4 r = some (.tup u'.vs) := k4 _ _ (s3 _ _ hr2') fun e => L3.nt r _ (s3 _ _ hr2') (.inl e)
        have hM' : (put M u).length = m := (put_length M u).trans hM
        -- behind own's store the turn goes on
        have go : ∀ G5, Li C ⟨x, l, d, n, h, k, c⟩ cs G5 (i + 1) (put M u) (put M u) (ts ++ [.ref t]) hs ws (os ++ [u]) Rs → G5 t = some (.tup u.vs) → G5 r = some (.tup u'.vs) → _ := fun G5 L5 ht5 hr5 =>
          qB { nx := fun σ H' => ∃ (M : Tab) (ts hs ws : List V) (os : List Rw) (Rs : List (List Rw)) (v9 v10 v11 v12 v13 : Option V), σ = frame a x d n h k fi m v2 v9 v10 v11 v12 v13 ∧
                Li C ⟨x, l, d, n, h, k, c⟩ cs H' (i + 1) M M ts hs ws os Rs ∧ M.length = m ∧ Wf M ∧ os.length = i + 1 ∧ Rs.length = i + 1,
               rt := Q,
               bk := tRet (tOp (rEqD K) (tVar 7) (tVar 8)) { nx := fun _ H' => Q .non H', rt := Q },
               ct := fun σ H' => ∃ (M : Tab) (ts hs ws : List V) (os : List Rw) (Rs : List (List Rw)) (v9 v10 v11 v12 v13 : Option V), σ = frame a x d n h k fi m v2 v9 v10 v11 v12 v13 ∧
                Li C ⟨x, l, d, n, h, k, c⟩ cs H' (i + 1) M M ts hs ws os Rs ∧ M.length = m ∧ Wf M ∧ os.length = i + 1 ∧ Rs.length = i + 1 }
            ⟨x, l, d, n, h, k, c⟩ cs fi z m (i + 1) (put M u) (ts ++ [.ref t]) hs ws (os ++ [u]) Rs v2 v12 v13 t r u u' G5 L5 hM' (wf.put u) (by omega) (by omega) ht5 hr5
            fun hs' ws' Rs' v12' v13' H9 eR L9 => ⟨put M u, _, hs', ws', _, Rs', _, _, _, v12', v13', rfl, L9, hM', wf.put u, osl, by omega⟩
        refine ⟨_, rfl, _, _, rfl, rfl, _, rfl, ite2 (fun h0 => ?_) (fun h0 => ?_)⟩
        · have n0 : 0 < M.length := by
            have e : (0 : Int) < (m : Int) := of_decide_eq_true h0
            omega
          obtain ⟨k2, hk6, hk2⟩ : ∃ k, k ≤ 6 ∧ M.length = 2 ^ k := by
            rcases wf with e | e
            · omega
            · exact e
          obtain ⟨kvs, hd, hb⟩ := id L4.ob
          have O := own_put L4.own hd hb n0 ht4
          have L5 := L4.ownAs O.1 O.2
          have nd : ∀ b xs, G4 b = some (.tup xs) → b ≠ d := fun b xs e w => L4.nt b xs e (.inr (.inl w))
          refine ⟨_, rfl, _, rfl, _, rfl, _, rfl, t, _, 0, .int (u.t : Int), rfl, rfl, SqT.of ht4, atI_nat (j := 0) rfl, _, rfl, t, _, 1, .int (u.p : Int), rfl, rfl, SqT.of ht4, atI_nat (j := 1) rfl,
            M.length, k2, u.t, u.p, by rw [hM]; rfl, hk2, d, _, rfl, DPut.k (k := Sum.inl ((spt M.length u.t u.p : Nat) : Int)) hd (small1000 (by omega)), ?_⟩
          exact go _ L5 (by rw [upd_ne (nd _ _ ht4)]; exact ht4) (by rw [upd_ne (nd _ _ hr4)]; exact hr4)
        · have eM : M = [] := List.eq_nil_of_length_eq_zero (by
            rcases Nat.eq_zero_or_pos M.length with e | e
            · exact e
            · exact absurd (decide_eq_true (show (0 : Int) < (m : Int) by omega)) h0)
          have ep : put M u = M := by
            rw [eM]
            rfl
          obtain ⟨kvs, hd, hb⟩ := id L4.ob
          have L5 : Li C ⟨x, l, d, n, h, k, c⟩ cs G4 (i + 1) (put M u) (put M u) (ts ++ [.ref t]) hs ws (os ++ [u]) Rs := { L4 with own := (by rw [ep]; exact L4.own), ob := ⟨kvs, hd, by omega⟩ }
          exact go _ L5 ht4 hr4
      · rintro σ G ⟨M, ts, hs, ws, os, Rs, v9, v10, v11, v12, v13, rfl, L, _⟩
        -- return held == copies
        refine ⟨_, rfl, _, rfl, allD Rs, allD Rs, dp_lists L.held L.hAt, dp_lists L.cop L.wAt, shaped_allD Rs, shaped_allD Rs, ?_⟩
        rw [SeqAt.eqv_refl _ (lay_allD Rs)]
        exact q _
end
end Np
/-! What the top has written, and the law's own head. -/
namespace Np
open PySem L2
theorem one_self {K : PySem.W.Frag} {t : Value} : PySem.W.kitOne K t t = some true := by
  unfold PySem.W.kitOne
  rw [if_pos (beq_self_eq_true t)]
theorem one_not {K : PySem.W.Frag} {S D : Addr} (hs : PySem.W.subIn K (.ref S) (.ref S) = some true) (h : PySem.W.subIn K (.ref S) (.ref D) = some false) (t : PySem.W.typeIn K (.ref D) = some (.type "type")) (c : PySem.W.isClsIn K D = true) :
    PySem.W.kitOne K (.ref S) (.ref D) = some false := by
  have ne : ¬ ((Value.ref S == Value.ref D) = true) := fun z => by
    have e : S = D := Value.ref.inj (beq_iff_eq.mp z)
    rw [e, ← e, hs] at h
    cases h
  have c' : (PySem.W.clsIn K D).isSome = true := c
  unfold PySem.W.kitOne
  rw [if_neg ne]
  show (if ((PySem.W.clsIn K D).isSome && PySem.W.typeIn K (.ref D) == some (.type "type")) = true then PySem.W.subIn K (.ref S) (.ref D) else none) = some false
  rw [c', t, if_pos (by rfl)]
  exact h
theorem one_ve {K : PySem.W.Frag} {S : Addr} (h : PySem.W.subIn K (.ref S) (.type "ValueError") = some true) : PySem.W.kitOne K (.ref S) (.type "ValueError") = some true := by
  have ne : ¬ ((Value.ref S == Value.type "ValueError") = true) := fun z => by cases (beq_iff_eq.mp z)
  unfold PySem.W.kitOne
  rw [if_neg ne]
  show (if PySem.W.kitMeta "ValueError" = true then PySem.W.subIn K (.ref S) (.type "ValueError") else none) = some true
  rw [if_pos (by decide +kernel)]
  exact h
theorem all_mk {l : PySem.W.OpenLaw} {w : World} {K : PySem.W.Frag} {h : Heap} {mg : Str → Option Value} {fa C NS LE FU NN f1 f2 f3 f4 f5 f6 f7 f8 f9 f10 f11 f12 f13 f14 f15 : Addr} {tkM : Tok} (X : K.In h) (G : h.Ns mainGlobals mg) (hfa : mg "law" = some (.ref fa))
    {od1 an1 od2 an2 od3 an3 od4 an4 od5 an5 od6 an6 od7 an7 od8 an8 od9 an9 od10 an10 od11 an11 od12 an12 od13 an13 od14 an14 od15 an15 : Option Addr} {sl1 sl2 sl3 sl4 sl5 sl6 sl7 sl8 sl9 sl10 sl11 sl12 sl13 sl14 sl15 : Array (Option Value)} {oc1 kV1 dc1 pm1 cd1 ct1 oc2 kV2 dc2 pm2 cd2 ct2 oc3 kV3 dc3 pm3 cd3 ct3 oc4 kV4 dc4 pm4 cd4 ct4 oc5 kV5 dc5 pm5 cd5 ct5 oc6 kV6 dc6 pm6 cd6 ct6 oc7 kV7 dc7 pm7 cd7 ct7 oc8 kV8 dc8 pm8 cd8 ct8 oc9 kV9 dc9 pm9 cd9 ct9 oc10 kV10 dc10 pm10 cd10 ct10 oc11 kV11 dc11 pm11 cd11 ct11 oc12 kV12 dc12 pm12 cd12 ct12 oc13 kV13 dc13 pm13 cd13 ct13 oc14 kV14 dc14 pm14 cd14 ct14 oc15 kV15 dc15 pm15 cd15 ct15 : Value}
    (aC : PySem.W.nsIn K mainGlobals "Near" = some (some (.ref C)))
    (aNS : PySem.W.nsIn K mainGlobals "NoShape" = some (some (.ref NS)))
    (aLE : PySem.W.nsIn K mainGlobals "LeafError" = some (some (.ref LE)))
    (aFU : PySem.W.nsIn K mainGlobals "Full" = some (some (.ref FU)))
    (aNN : PySem.W.nsIn K mainGlobals "NoNumber" = some (some (.ref NN)))
    (aMP : PySem.W.nsIn K mainGlobals "MOST_PLACES" = some (some (.int 64 tkM)))
    (a1 : PySem.W.findIn K (.ref C) "__init__" = some (some (.ref f1)))
    (i1 : PySem.W.isFn K (.ref f1) = true)
    (l1 : K.lookup f1 = some ⟨oc1, od1, .func (PySem.W.fnOf "__init__" "Near.__init__" (defArgs sInit) (defBody sInit) (defScope sInit) .none kV1 dc1 pm1 an1 cd1 ct1), sl1⟩)
    (c1 : PySem.W.codeIn K cd1 "Near.__init__" = true)
    (k1 : PySem.W.keepIn K (.ref f1) = true)
    (a2 : PySem.W.findIn K (.ref C) "spot" = some (some (.ref f2)))
    (i2 : PySem.W.isFn K (.ref f2) = true)
    (l2 : K.lookup f2 = some ⟨oc2, od2, .func (PySem.W.fnOf "spot" "Near.spot" (defArgs sSpot) (defBody sSpot) (defScope sSpot) .none kV2 dc2 pm2 an2 cd2 ct2), sl2⟩)
    (c2 : PySem.W.codeIn K cd2 "Near.spot" = true)
    (k2 : PySem.W.keepIn K (.ref f2) = true)
    (a3 : PySem.W.findIn K (.ref C) "found" = some (some (.ref f3)))
    (i3 : PySem.W.isFn K (.ref f3) = true)
    (l3 : K.lookup f3 = some ⟨oc3, od3, .func (PySem.W.fnOf "found" "Near.found" (defArgs sFound) (defBody sFound) (defScope sFound) .none kV3 dc3 pm3 an3 cd3 ct3), sl3⟩)
    (c3 : PySem.W.codeIn K cd3 "Near.found" = true)
    (k3 : PySem.W.keepIn K (.ref f3) = true)
    (a4 : PySem.W.findIn K (.ref C) "note" = some (some (.ref f4)))
    (i4 : PySem.W.isFn K (.ref f4) = true)
    (l4 : K.lookup f4 = some ⟨oc4, od4, .func (PySem.W.fnOf "note" "Near.note" (defArgs sNote) (defBody sNote) (defScope sNote) .none kV4 dc4 pm4 an4 cd4 ct4), sl4⟩)
    (c4 : PySem.W.codeIn K cd4 "Near.note" = true)
    (k4 : PySem.W.keepIn K (.ref f4) = true)
    (a5 : PySem.W.findIn K (.ref C) "rows" = some (some (.ref f5)))
    (i5 : PySem.W.isFn K (.ref f5) = true)
    (l5 : K.lookup f5 = some ⟨oc5, od5, .func (PySem.W.fnOf "rows" "Near.rows" (defArgs sRows) (defBody sRows) (defScope sRows) .none kV5 dc5 pm5 an5 cd5 ct5), sl5⟩)
    (c5 : PySem.W.codeIn K cd5 "Near.rows" = true)
    (k5 : PySem.W.keepIn K (.ref f5) = true)
    (a6 : PySem.W.nsIn K mainGlobals "_law_cell_at" = some (some (.ref f6)))
    (l6 : K.lookup f6 = some ⟨oc6, od6, .func (PySem.W.fnOf "_law_cell_at" "_law_cell_at" (defArgs lCell) (defBody lCell) (defScope lCell) .none kV6 dc6 pm6 an6 cd6 ct6), sl6⟩)
    (c6 : PySem.W.codeIn K cd6 "_law_cell_at" = true)
    (k6 : PySem.W.keepIn K (.ref f6) = true)
    (a7 : PySem.W.nsIn K mainGlobals "_law_whole" = some (some (.ref f7)))
    (l7 : K.lookup f7 = some ⟨oc7, od7, .func (PySem.W.fnOf "_law_whole" "_law_whole" (defArgs lWhole) (defBody lWhole) (defScope lWhole) .none kV7 dc7 pm7 an7 cd7 ct7), sl7⟩)
    (c7 : PySem.W.codeIn K cd7 "_law_whole" = true)
    (k7 : PySem.W.keepIn K (.ref f7) = true)
    (a8 : PySem.W.nsIn K mainGlobals "_law_drawn" = some (some (.ref f8)))
    (l8 : K.lookup f8 = some ⟨oc8, od8, .func (PySem.W.fnOf "_law_drawn" "_law_drawn" (defArgs lDrawn) (defBody lDrawn) (defScope lDrawn) .none kV8 dc8 pm8 an8 cd8 ct8), sl8⟩)
    (c8 : PySem.W.codeIn K cd8 "_law_drawn" = true)
    (k8 : PySem.W.keepIn K (.ref f8) = true)
    (a9 : PySem.W.nsIn K mainGlobals "_law_row" = some (some (.ref f9)))
    (l9 : K.lookup f9 = some ⟨oc9, od9, .func (PySem.W.fnOf "_law_row" "_law_row" (defArgs lRow) (defBody lRow) (defScope lRow) .none kV9 dc9 pm9 an9 cd9 ct9), sl9⟩)
    (c9 : PySem.W.codeIn K cd9 "_law_row" = true)
    (k9 : PySem.W.keepIn K (.ref f9) = true)
    (a10 : PySem.W.nsIn K mainGlobals "_law_spot" = some (some (.ref f10)))
    (l10 : K.lookup f10 = some ⟨oc10, od10, .func (PySem.W.fnOf "_law_spot" "_law_spot" (defArgs lSpot) (defBody lSpot) (defScope lSpot) .none kV10 dc10 pm10 an10 cd10 ct10), sl10⟩)
    (c10 : PySem.W.codeIn K cd10 "_law_spot" = true)
    (k10 : PySem.W.keepIn K (.ref f10) = true)
    (a11 : PySem.W.nsIn K mainGlobals "_law_pair" = some (some (.ref f11)))
    (l11 : K.lookup f11 = some ⟨oc11, od11, .func (PySem.W.fnOf "_law_pair" "_law_pair" (defArgs lPair) (defBody lPair) (defScope lPair) .none kV11 dc11 pm11 an11 cd11 ct11), sl11⟩)
    (c11 : PySem.W.codeIn K cd11 "_law_pair" = true)
    (k11 : PySem.W.keepIn K (.ref f11) = true)
    (a12 : PySem.W.nsIn K mainGlobals "_law_asked" = some (some (.ref f12)))
    (l12 : K.lookup f12 = some ⟨oc12, od12, .func (PySem.W.fnOf "_law_asked" "_law_asked" (defArgs lAsked) (defBody lAsked) (defScope lAsked) .none kV12 dc12 pm12 an12 cd12 ct12), sl12⟩)
    (c12 : PySem.W.codeIn K cd12 "_law_asked" = true)
    (k12 : PySem.W.keepIn K (.ref f12) = true)
    (a13 : PySem.W.nsIn K mainGlobals "_law_rows" = some (some (.ref f13)))
    (l13 : K.lookup f13 = some ⟨oc13, od13, .func (PySem.W.fnOf "_law_rows" "_law_rows" (defArgs lRows) (defBody lRows) (defScope lRows) .none kV13 dc13 pm13 an13 cd13 ct13), sl13⟩)
    (c13 : PySem.W.codeIn K cd13 "_law_rows" = true)
    (k13 : PySem.W.keepIn K (.ref f13) = true)
    (a14 : PySem.W.nsIn K mainGlobals "_law_no_shape" = some (some (.ref f14)))
    (l14 : K.lookup f14 = some ⟨oc14, od14, .func (PySem.W.fnOf "_law_no_shape" "_law_no_shape" (defArgs lNoSh) (defBody lNoSh) (defScope lNoSh) .none kV14 dc14 pm14 an14 cd14 ct14), sl14⟩)
    (c14 : PySem.W.codeIn K cd14 "_law_no_shape" = true)
    (k14 : PySem.W.keepIn K (.ref f14) = true)
    (a15 : PySem.W.nsIn K mainGlobals "law" = some (some (.ref f15)))
    (l15 : K.lookup f15 = some ⟨oc15, od15, .func (PySem.W.fnOf "law" "law" (defArgs lLaw) (defBody lLaw) (defScope lLaw) .none kV15 dc15 pm15 an15 cd15 ct15), sl15⟩)
    (c15 : PySem.W.codeIn K cd15 "law" = true)
    (k15 : PySem.W.keepIn K (.ref f15) = true)
    (pg : PySem.W.plainGet K C Str.empty = true)
    (hd : PySem.W.hasDictIn K C = true)
    (po : PySem.W.plainOver K C = true)
    (sa : PySem.W.findIn K (.ref C) "__setattr__" = some (some (.builtin "object.__setattr__")))
    (mk : PySem.W.makesIn K C = true)
    (kc : PySem.W.keepIn K (.ref C) = true)
    (nL : PySem.W.findIn K (.ref C) "lying" = some none)
    (xNS : PySem.W.excIn K NS [.type "ValueError", .type "Exception", .type "BaseException", .type "object"] "ValueError.__new__" = true)
    (kNS : PySem.W.keepIn K (.ref NS) = true)
    (bNS : PySem.W.subIn K (.ref NS) (.type "BaseException") = some true)
    (tNS : PySem.W.typeIn K (.ref NS) = some (.type "type"))
    (sLE : PySem.W.subIn K (.ref NS) (.ref LE) = some true)
    (bLE : PySem.W.subIn K (.ref LE) (.type "BaseException") = some true)
    (tLE : PySem.W.typeIn K (.ref LE) = some (.type "type"))
    (hLE : PySem.W.hasDictIn K LE = true)
    (sNS : PySem.W.subIn K (.ref NS) (.ref NS) = some true)
    (sVE : PySem.W.subIn K (.ref NS) (.type "ValueError") = some true)
    (sFU : PySem.W.subIn K (.ref NS) (.ref FU) = some false)
    (tFU : PySem.W.typeIn K (.ref FU) = some (.type "type"))
    (cFU : PySem.W.isClsIn K FU = true)
    (sNN : PySem.W.subIn K (.ref NS) (.ref NN) = some false)
    (tNN : PySem.W.typeIn K (.ref NN) = some (.type "type"))
    (cNN : PySem.W.isClsIn K NN = true)
    (eg : PySem.W.findIn K (.ref NS) "__getattribute__" = some (some (.builtin "BaseException.__getattribute__")))
    (ek : PySem.W.findIn K (.ref NS) "__getattr__" = some none)
    (eh : PySem.W.hasDictIn K NS = true)
    (ea : PySem.W.findIn K (.ref NS) "__class__" = some (some (.builtin "object.__class__")))
    (en : PySem.W.specialIn K (.builtin "object.__class__") "__get__" = some (some (.builtin "getset_descriptor.__get__")))
    (et : PySem.W.takesIn K (.builtin "object.__class__") = some true)
    (em : PySem.W.mroIn K NS (.type "object") = some true)
    (z_len : PySem.W.nsIn K mainGlobals "len" = some none)
    (z_range : PySem.W.nsIn K mainGlobals "range" = some none)
    (z_sorted : PySem.W.nsIn K mainGlobals "sorted" = some none)
    (z_isinstance : PySem.W.nsIn K mainGlobals "isinstance" = some none)
    (z_int : PySem.W.nsIn K mainGlobals "int" = some none)
    (z_bool : PySem.W.nsIn K mainGlobals "bool" = some none)
    (z_tuple : PySem.W.nsIn K mainGlobals "tuple" = some none)
    (z_list : PySem.W.nsIn K mainGlobals "list" = some none)
    (z_ValueError : PySem.W.nsIn K mainGlobals "ValueError" = some none)
    : ∃ fd : FuncData, (∀ (s : Shared) (v : Value), BindsTo s fd ⟨[v], []⟩ [("_law_script", v)]) ∧ ∀ base : Heap, K.In base → base.Ns mainGlobals mg → FnOk l.prog w K mg base CX0 4 fa fd ["_law_script"] (spLaw K) := by
  have e := hfa.symm.trans (PySem.W.mg_of X G a15)
  cases e
  have nFU := one_not sNS sFU tFU cFU
  have nNN := one_not sNS sNN tNN cNN
  have T : Txt K mg C NS LE FU NN := {
    cl := ⟨pg, hd, po, sa⟩, nL := nL, mgC := PySem.W.mg_of X G aC, most := ⟨tkM, PySem.W.mg_of X G aMP⟩, gNS := PySem.W.mg_of X G aNS, gLE := PySem.W.mg_of X G aLE, gFU := PySem.W.mg_of X G aFU, gNN := PySem.W.mg_of X G aNN,
    xNS := xNS, kNS := kNS, bNS := bNS, tNS := tNS, eLE := PySem.W.exm_ref bLE hLE tLE sLE, ec := ⟨eg, ek, bNS, eh, ea, en, et, em⟩, isNS := one_self, isVE := one_ve sVE,
    isFN := kitAny_cons nFU (fun _ => kitAny_cons nNN (fun _ => kitAny_nil) (fun z => Bool.noConfusion z)) (fun z => Bool.noConfusion z),
    len := PySem.W.mg_none_of X G z_len, rng := PySem.W.mg_none_of X G z_range, srt := PySem.W.mg_none_of X G z_sorted, isi := PySem.W.mg_none_of X G z_isinstance, int := PySem.W.mg_none_of X G z_int, boo := PySem.W.mg_none_of X G z_bool,
    tup := PySem.W.mg_none_of X G z_tuple, lis := PySem.W.mg_none_of X G z_list, ver := PySem.W.mg_none_of X G z_ValueError }
  have F1 := fun_mk (st := sInit) l1 c1 k1
  have F2 := fun_mk (st := sSpot) l2 c2 k2
  have F3 := fun_mk (st := sFound) l3 c3 k3
  have F4 := fun_mk (st := sNote) l4 c4 k4
  have F5 := fun_mk (st := sRows) l5 c5 k5
  have F6 := fun_mk (st := lCell) l6 c6 k6
  have F7 := fun_mk (st := lWhole) l7 c7 k7
  have F8 := fun_mk (st := lDrawn) l8 c8 k8
  have F9 := fun_mk (st := lRow) l9 c9 k9
  have F10 := fun_mk (st := lSpot) l10 c10 k10
  have F11 := fun_mk (st := lPair) l11 c11 k11
  have F12 := fun_mk (st := lAsked) l12 c12 k12
  have F13 := fun_mk (st := lRows) l13 c13 k13
  have F14 := fun_mk (st := lNoSh) l14 c14 k14
  have F15 := fun_mk (st := lLaw) l15 c15 k15
  have b1 := F1.binds (ps := ["self", "many"]) fun _ _ _ _ _ _ us hl => match us, hl with | [_, _], _ => rfl
  have b2 := F2.binds (ps := ["self", "task", "page"]) fun _ _ _ _ _ _ us hl => match us, hl with | [_, _, _], _ => rfl
  have b3 := F3.binds (ps := ["self", "task", "page"]) fun _ _ _ _ _ _ us hl => match us, hl with | [_, _, _], _ => rfl
  have b4 := F4.binds (ps := ["self", "task", "page", "frame", "rights"]) fun _ _ _ _ _ _ us hl => match us, hl with | [_, _, _, _, _], _ => rfl
  have b5 := F5.binds (ps := ["self"]) fun _ _ _ _ _ _ us hl => match us, hl with | [_], _ => rfl
  have b6 := F6.binds (ps := ["_law_script", "_law_k"]) fun _ _ _ _ _ _ us hl => match us, hl with | [_, _], _ => rfl
  have b7 := F7.binds (ps := ["_law_found"]) fun _ _ _ _ _ _ us hl => match us, hl with | [_], _ => rfl
  have b8 := F8.binds (ps := ["_law_cell", "_law_by", "_law_prime", "_law_many"]) fun _ _ _ _ _ _ us hl => match us, hl with | [_, _, _, _], _ => rfl
  have b9 := F9.binds (ps := ["_law_cell"]) fun _ _ _ _ _ _ us hl => match us, hl with | [_], _ => rfl
  have b10 := F10.binds (ps := ["_law_many", "_law_task", "_law_page"]) fun _ _ _ _ _ _ us hl => match us, hl with | [_, _, _], _ => rfl
  have b11 := F11.binds (ps := ["_law_found", "_law_due"]) fun _ _ _ _ _ _ us hl => match us, hl with | [_, _], _ => rfl
  have b12 := F12.binds (ps := ["_law_near", "_law_own", "_law_many", "_law_row_here", "_law_cell"]) fun _ _ _ _ _ _ us hl => match us, hl with | [_, _, _, _, _], _ => rfl
  have b13 := F13.binds (ps := ["_law_found", "_law_due"]) fun _ _ _ _ _ _ us hl => match us, hl with | [_, _], _ => rfl
  have b14 := F14.binds (ps := ["_law_many"]) fun _ _ _ _ _ _ us hl => match us, hl with | [_], _ => rfl
  have g6 := PySem.W.mg_of X G a6
  have g7 := PySem.W.mg_of X G a7
  have g8 := PySem.W.mg_of X G a8
  have g9 := PySem.W.mg_of X G a9
  have g10 := PySem.W.mg_of X G a10
  have g11 := PySem.W.mg_of X G a11
  have g12 := PySem.W.mg_of X G a12
  have g13 := PySem.W.mg_of X G a13
  have g14 := PySem.W.mg_of X G a14
  have MS : Meth K C "spot" f2 := ⟨a2, i2, k2⟩
  have MF : Meth K C "found" f3 := ⟨a3, i3, k3⟩
  have MN : Meth K C "note" f4 := ⟨a4, i4, k4⟩
  have MR : Meth K C "rows" f5 := ⟨a5, i5, k5⟩
  have MK : Mk K C f1 := ⟨mk, a1, i1, kc⟩
  refine ⟨PySem.W.fnOf "law" "law" (defArgs lLaw) (defBody lLaw) (defScope lLaw) .none kV15 dc15 pm15 an15 cd15 ct15, fun s v => .of_eq rfl, fun base _ _ => ?_⟩
  have G1 : FnOk l.prog w K mg base (L2.CX l.prog w) 1 f1 _ ["self", "many"] (spInit C NS) := ok_init F1 T
  have G3 : FnOk l.prog w K mg base CX0 2 f3 _ ["self", "task", "page"] (spFound C) := ok_found F3 T F2 b2 MS
  have G4 : FnOk l.prog w K mg base CX0 2 f4 _ ["self", "task", "page", "frame", "rights"] (spNote C) := ok_note F4 T F2 b2 MS
  have G5 : FnOk l.prog w K mg base CX0 1 f5 _ ["self"] (spRows C) := ok_rows F5 T
  have G6 : FnOk l.prog w K mg base CX0 1 f6 _ ["_law_script", "_law_k"] (spCell K) := ok_cell F6 T
  have G7 : FnOk l.prog w K mg base CX0 1 f7 _ ["_law_found"] spWhole := ok_whole F7 T
  have G8 : FnOk l.prog w K mg base CX0 1 f8 _ ["_law_cell", "_law_by", "_law_prime", "_law_many"] spDrawn := ok_drawn F8
  have G9 : FnOk l.prog w K mg base CX0 2 f9 _ ["_law_cell"] spRow := ok_row F9 F8 b8 g8
  have G10 : FnOk l.prog w K mg base CX0 1 f10 _ ["_law_many", "_law_task", "_law_page"] spSpotL := ok_spotL F10
  have G11 : FnOk l.prog w K mg base CX0 2 f11 _ ["_law_found", "_law_due"] spPair := ok_pair F11 T F7 b7 g7
  have G12 : FnOk l.prog w K mg base CX0 3 f12 _ ["_law_near", "_law_own", "_law_many", "_law_row_here", "_law_cell"] (spAsked C) := ok_asked F12 T G8 k8 b8 g8 G10 k10 b10 g10 G11 k11 b11 g11 G3 b3 MF
  have G13 : FnOk l.prog w K mg base CX0 2 f13 _ ["_law_found", "_law_due"] spRowsL := ok_rowsL F13 T G7 k7 b7 g7
  have G14 : FnOk l.prog w K mg base CX0 3 f14 _ ["_law_many"] spNoSh := ok_noSh F14 T MK G1 b1
  exact ok_law F15 T MK G1 b1 G4 b4 MN G5 b5 MR G6 k6 b6 g6 G9 k9 b9 g9 G8 k8 b8 g8 G10 k10 b10 g10 G12 k12 b12 g12 G13 k13 b13 g13 G14 k14 b14 g14
theorem walk {l : PySem.W.OpenLaw} {q : Program} {loose : List Str} {XP : (Str → Option Value) → Heap → Prop} {YP : World → Heap → Prop} {d : DefRec} {K : Params → PySem.W.Frag} (hn : l.most = some 63) (hdf : d.params.defaults = [])
    (hY : ∀ (w : World) (h : Heap), YP w h → (K w.params).In h)
    (F : ∀ (w : World) (mg : Str → Option Value) (fa : Addr) (h : Heap), (K w.params).In h → h.Ns mainGlobals mg → mg d.name = some (.ref fa) →
      ∃ fd : FuncData, (∀ (s : Shared) (u : Value), BindsTo s fd ⟨[u], []⟩ [("_law_script", u)]) ∧
        ∀ base : Heap, (K w.params).In base → base.Ns mainGlobals mg → FnOk l.prog w (K w.params) mg base CX0 4 fa fd ["_law_script"] (spLaw (K w.params))) :
    PySem.W.WalkO q loose XP YP l.row.toRowW d [] (fun f vs => PySem.call f vs) :=
  L2.walk_of (n := 63) (k := 4) (x := "_law_script") (CX := fun _ => CX0) (sp := fun w => spLaw (K w.params)) hn (by decide) hdf ⟨rfl, by decide, by decide⟩ hY F
    (fun _ _ a ns hl _ hS => ⟨a, ns, rfl, hS, hl, fun _ => rfl⟩) fun _ _ _ _ _ z => z
end Np
open PySem PySem.W PyProof.Rows
set_option maxRecDepth 100000 in
set_option maxHeartbeats 0 in
theorem PySem.Challenge.cw_leafframe_k21_near_place_holds : PySem.Challenge.rw_leafframe_k21_near_place.Holds := by
  w_on; o_law; k_head; (case hw => w_witness2)
  k_fill
  refine Np.walk (l := PySem.Challenge.rw_leafframe_k21_near_place) rfl rfl (fun w h Y => PySem.W.kIn_of Y) ?F
  case F =>
    intro w mg fa h KX G hmg
    refine' Np.all_mk KX G hmg ?aC ?aNS ?aLE ?aFU ?aNN ?aMP ?a1 ?i1 ?l1 ?c1 ?k1 ?a2 ?i2 ?l2 ?c2 ?k2 ?a3 ?i3 ?l3 ?c3 ?k3 ?a4 ?i4 ?l4 ?c4 ?k4 ?a5 ?i5 ?l5 ?c5 ?k5 ?a6 ?l6 ?c6 ?k6 ?a7 ?l7 ?c7 ?k7 ?a8 ?l8 ?c8 ?k8 ?a9 ?l9 ?c9 ?k9 ?a10 ?l10 ?c10 ?k10 ?a11 ?l11 ?c11 ?k11 ?a12 ?l12 ?c12 ?k12 ?a13 ?l13 ?c13 ?k13 ?a14 ?l14 ?c14 ?k14 ?a15 ?l15 ?c15 ?k15 ?pg ?hd ?po ?sa ?mk ?kc ?nL ?xNS ?kNS ?bNS ?tNS ?sLE ?bLE ?tLE ?hLE ?sNS ?sVE ?sFU ?tFU ?cFU ?sNN ?tNN ?cNN ?eg ?ek ?eh ?ea ?en ?et ?em ?z_len ?z_range ?z_sorted ?z_isinstance ?z_int ?z_bool ?z_tuple ?z_list ?z_ValueError
    (case aC => k_is)
    (case aNS => k_is)
    (case aLE => k_is)
    (case aFU => k_is)
    (case aNN => k_is)
    (case aMP => k_is)
    (case a1 => k_is)
    (case i1 => k_is)
    (case l1 => k_is)
    (case c1 => k_is)
    (case k1 => k_is)
    (case a2 => k_is)
    (case i2 => k_is)
    (case l2 => k_is)
    (case c2 => k_is)
    (case k2 => k_is)
    (case a3 => k_is)
    (case i3 => k_is)
    (case l3 => k_is)
    (case c3 => k_is)
    (case k3 => k_is)
    (case a4 => k_is)
    (case i4 => k_is)
    (case l4 => k_is)
    (case c4 => k_is)
    (case k4 => k_is)
    (case a5 => k_is)
    (case i5 => k_is)
    (case l5 => k_is)
    (case c5 => k_is)
    (case k5 => k_is)
    (case a6 => k_is)
    (case l6 => k_is)
    (case c6 => k_is)
    (case k6 => k_is)
    (case a7 => k_is)
    (case l7 => k_is)
    (case c7 => k_is)
    (case k7 => k_is)
    (case a8 => k_is)
    (case l8 => k_is)
    (case c8 => k_is)
    (case k8 => k_is)
    (case a9 => k_is)
    (case l9 => k_is)
    (case c9 => k_is)
    (case k9 => k_is)
    (case a10 => k_is)
    (case l10 => k_is)
    (case c10 => k_is)
    (case k10 => k_is)
    (case a11 => k_is)
    (case l11 => k_is)
    (case c11 => k_is)
    (case k11 => k_is)
    (case a12 => k_is)
    (case l12 => k_is)
    (case c12 => k_is)
    (case k12 => k_is)
    (case a13 => k_is)
    (case l13 => k_is)
    (case c13 => k_is)
    (case k13 => k_is)
    (case a14 => k_is)
    (case l14 => k_is)
    (case c14 => k_is)
    (case k14 => k_is)
    (case a15 => k_is)
    (case l15 => k_is)
    (case c15 => k_is)
    (case k15 => k_is)
    (case pg => k_is)
    (case hd => k_is)
    (case po => k_is)
    (case sa => k_is)
    (case mk => k_is)
    (case kc => k_is)
    (case nL => k_is)
    (case xNS => k_exc)
    (case kNS => k_is)
    (case bNS => k_is)
    (case tNS => k_is)
    (case sLE => k_is)
    (case bLE => k_is)
    (case tLE => k_is)
    (case hLE => k_is)
    (case sNS => first | rfl | k_is)
    (case sVE => k_is)
    (case sFU => k_is)
    (case tFU => k_is)
    (case cFU => k_is)
    (case sNN => k_is)
    (case tNN => k_is)
    (case cNN => k_is)
    (case eg => k_is)
    (case ek => k_is)
    (case eh => k_is)
    (case ea => k_is)
    (case en => k_is)
    (case et => k_is)
    (case em => k_is)
    (case z_len => k_is)
    (case z_range => k_is)
    (case z_sorted => k_is)
    (case z_isinstance => k_is)
    (case z_int => k_is)
    (case z_bool => k_is)
    (case z_tuple => k_is)
    (case z_list => k_is)
    (case z_ValueError => k_is)
