import PyProof.Rows.All
import Wide.All
import OpenK.AllK
import Wide.FinOn
import HandS.ForMost
import HandS.Exc
import HandS.ExcInit
import HandS.Star
import HandS.IsInst
import HandS.Walk
import HandS.Conv
import HandS.Style
import HandS.Wide
import HandS.Codes
import HandS.More
import PySem.Challenge.RW_longshares_k76_temporal_sayings
import HandS.WordsExc
import HandS.OwnEq
import KE.KOpsOwn
import KE.KCallOwn
import HandS.Defaults
import HandS.ClsMeth
import HandS.WordsDict
import HandS.DictComp
import HandS.ExcIs
import KE.KExcIs
import HandS.Lambda
import PyProof.Rows.StrMeet
import HandS.EndTab
import HandS.NestedK
import KE.KNestM
set_option Elab.async false
set_option linter.all false
set_option maxRecDepth 100000
set_option maxHeartbeats 8000000
/-! the base: what stays (I), what stands (H), a step of the heaps (Go) -/
namespace Tm
open PySem PySem.Spec PyProof.Rows L2

/-- from (I, H) to (I', H'): I is what is kept for ever and may be leant on; only what S tells may have changed -/
structure Go (S : Addr → Prop) (I H I' H' : Hp) : Prop where
  ext : Same I I'
  sub : Same I' H'
  fr : ∀ b o, H b = some o → I b = none → I' b = none
  same : ∀ b o, ¬ S b → H b = some o → H' b = some o
  dom : ∀ b o, H b = some o → ∃ o', H' b = some o'
theorem Go.refl {S : Addr → Prop} {I H : Hp} (h : Same I H) : Go S I H I H :=
  ⟨Same.refl _, h, fun _ _ _ h => h, fun _ _ _ h => h, fun _ o h => ⟨o, h⟩⟩
theorem Go.trans {S : Addr → Prop} {I H I1 H1 I2 H2 : Hp} (a : Go S I H I1 H1) (b : Go S I1 H1 I2 H2) : Go S I H I2 H2 :=
  ⟨a.ext.trans b.ext, b.sub, fun c o h n => let ⟨o', h'⟩ := a.dom c o h; b.fr c o' h' (a.fr c o h n), fun c o n h => b.same c o n (a.same c o n h),
    fun c o h => let ⟨o', h'⟩ := a.dom c o h; b.dom c o' h'⟩
theorem Go.mono {S S' : Addr → Prop} {I H I' H' : Hp} (a : Go S I H I' H') (h : ∀ b, S b → S' b) : Go S' I H I' H' :=
  ⟨a.ext, a.sub, a.fr, fun b o n => a.same b o fun z => n (h b z), a.dom⟩
abbrev NoS : Addr → Prop := fun _ => False
theorem Go.any {S : Addr → Prop} {I H I' H' : Hp} (a : Go NoS I H I' H') : Go S I H I' H' := a.mono fun _ h => h.elim
theorem Go.same_all {I H I' H' : Hp} (a : Go NoS I H I' H') : Same H H' := fun b o e => a.same b o id e
/-- a new object that stays -/
theorem Go.new {S : Addr → Prop} {I H : Hp} {p : Addr} {o : HO} (h : Same I H) (hp : H p = none) : Go S I H (upd I p o) (upd H p o) := by
  have ip : I p = none := h.free hp
  refine ⟨fun b u e => ?_, fun b u e => ?_, fun b u e n => ?_, fun b u _ e => ?_, fun b u e => ⟨u, ?_⟩⟩
  · rw [upd_ne (ne_of_none e ip)]; exact e
  · by_cases hb : b = p
    · subst hb; rw [upd_same] at e ⊢; exact e
    · rw [upd_ne hb] at e ⊢; exact h b u e
  · rw [upd_ne (ne_of_none e hp)]; exact n
  · rw [upd_ne (ne_of_none e hp)]; exact e
  · rw [upd_ne (ne_of_none e hp)]; exact e
/-- a new object that may change -/
theorem Go.tmp {S : Addr → Prop} {I H : Hp} {p : Addr} {o : HO} (h : Same I H) (hp : H p = none) : Go S I H I (upd H p o) := by
  refine ⟨Same.refl _, fun b u e => ?_, fun b u e n => n, fun b u _ e => ?_, fun b u e => ⟨u, ?_⟩⟩
  · rw [upd_ne (ne_of_none (h b u e) hp)]; exact h b u e
  · rw [upd_ne (ne_of_none e hp)]; exact e
  · rw [upd_ne (ne_of_none e hp)]; exact e
/-- an object of S, not kept, changes -/
theorem Go.put {S : Addr → Prop} {I H : Hp} {p : Addr} {o u : HO} (h : Same I H) (hp : I p = none) (hs : S p) (e0 : H p = some u) : Go S I H I (upd H p o) := by
  refine ⟨Same.refl _, fun b u e => ?_, fun b u e n => n, fun b u ns e => ?_, fun b v e => ?_⟩
  · rw [upd_ne (ne_of_none e hp)]; exact h b u e
  · rw [upd_ne (fun z : b = p => ns (by rw [z]; exact hs))]; exact e
  · by_cases hb : b = p
    · subst hb; exact ⟨o, upd_same⟩
    · exact ⟨v, by rw [upd_ne hb]; exact e⟩
/-- same, the object not there at the beginning -/
theorem Go.putNew {S : Addr → Prop} {I0 H0 I H : Hp} {p : Addr} {o : HO} (g : Go S I0 H0 I H) (hp : I p = none) (n0 : H0 p = none) : Go S I0 H0 I (upd H p o) := by
  refine ⟨g.ext, fun b u e => ?_, g.fr, fun b u ns e => ?_, fun b v e => ?_⟩
  · rw [upd_ne (ne_of_none e hp)]; exact g.sub b u e
  · rw [upd_ne (ne_of_none e n0)]; exact g.same b u ns e
  · obtain ⟨o', e'⟩ := g.dom b v e
    exact ⟨o', by rw [upd_ne (ne_of_none e n0)]; exact e'⟩
/-- an object that was new and could change is kept from now on -/
theorem Go.keep {S : Addr → Prop} {I0 H0 I H : Hp} {p : Addr} {o : HO} (g : Go S I0 H0 I H) (hp : I p = none) (n0 : H0 p = none) (e : H p = some o) : Go S I0 H0 (upd I p o) H := by
  refine ⟨fun b u q => ?_, fun b u q => ?_, fun b u q n => ?_, g.same, g.dom⟩
  · rw [upd_ne (ne_of_none (g.ext b u q) hp)]; exact g.ext b u q
  · by_cases hb : b = p
    · subst hb; rw [upd_same] at q; cases q; exact e
    · rw [upd_ne hb] at q; exact g.sub b u q
  · rw [upd_ne (ne_of_none q n0)]; exact g.fr b u q n
/-- fresh ahead of a step, if fresh behind it -/
theorem Go.back {S : Addr → Prop} {I H I' H' : Hp} (g : Go S I H I' H') {p : Addr} (h : H' p = none) : H p = none := by
  cases q : H p with
  | none => rfl
  | some o =>
    obtain ⟨o', e⟩ := g.dom p o q
    rw [h] at e; cases e
theorem Go.backI {S : Addr → Prop} {I H I' H' : Hp} (g : Go S I H I' H') {p : Addr} (h : H' p = none) : I' p = none := g.sub.free h
theorem upd_some {H : Hp} {p b : Addr} {o : HO} (h : H b = none) (hb : b ≠ p) : upd H p o b = none := by rw [upd_ne hb]; exact h

theorem sqK {K : PySem.W.Frag} {H : Hp} {a : Addr} {xs : List V} (h : H a = some (.lst xs)) : SqL K H a xs := .inl (.inl h)
theorem stK {K : PySem.W.Frag} {H : Hp} {a : Addr} {xs : List V} (h : H a = some (.tup xs)) : SqT K H a xs := .inl (.inl h)

/-! the rules that name the written part, with its own letter -/
section
variable {X : Cx} (K : PySem.W.Frag)
theorem pe_fldK {e : Expr} {f : Str} {ta : TE} {pos : Pos} (he : PE X e ta) (hb : attributeBase e f X.env (eval e X.env) = eval e X.env := by rfl) (hK : X.K = K := by rfl) : PE X (.Attribute e f pos) (tFld K ta f) := by
  subst hK; exact pe_fld he hb
theorem pi_tupK {tg e : Expr} {te : TE} (he : PE X e te) (hK : X.K = K := by rfl) : PI X tg e (iTup K te) := by
  subst hK; exact pi_tup he
theorem pi_listK {tg e : Expr} {te : TE} (he : PE X e te) (hK : X.K = K := by rfl) : PI X tg e (iList K te) := by
  subst hK; exact pi_list he
theorem call_isiK' (hK : X.K = K := by rfl) : CallR X (.builtin "isinstance") (rIsi K) := by
  subst hK; exact call_isi
theorem ix_listK (hK : X.K = K := by rfl) : IxR X (rIxL K) := by
  subst hK; exact ix_list
theorem ix_tupK (hK : X.K = K := by rfl) : IxR X (rIxT K) := by
  subst hK; exact ix_tup
end
theorem boot_isi : bootBuiltins "isinstance" = some (.builtin "isinstance") := by decide +kernel
/-- the turns of a comprehension's inner walk, from any heap -/
theorem lc_in {J : It} {n : Nat} {G : Hp → Prop} {Y : Nat → Hp → V → Hp → Prop} (w : Walk J n G Y) {g : TG} {tt : TT} {te : TE} {vs : List Nat} {σ : L2.St} {H1 : Hp} {D : Addr} {Qd : Hp → Prop} (Pv : Nat → Hp → Prop) (h0 : Pv 0 H1) (hG : ∀ i H, i ≤ n → Pv i H → G H)
    (hs : ∀ i x H H', i < n → Pv i H → Y i H x H' → g x (wipe σ vs) H' fun σ2 H2 => wipe σ2 vs = wipe σ vs ∧ tt σ2 H2 fun b H3 =>
      if b = true then te σ2 H3 fun y H4 => ∃ acc, H4 D = some (.lst acc) ∧ acc.length < sizeLine ∧ Pv (i + 1) (upd H4 D (.lst (acc ++ [y]))) else Pv (i + 1) H3) (hd : ∀ H, Pv n H → Qd H) :
    ∃ W : Nat → Nat → Hp → Prop, (∃ m, W 0 m H1) ∧ ∀ i m H, W i m H →
      (J.stop i H ∧ Qd H) ∨ (J.go i H ∧ ∃ Nx : Hp → Prop, (∀ H', Nx H' → ∃ m', m' < m ∧ W (i + 1) m' H') ∧ ∀ x H', J.yld i H x H' → g x (wipe σ vs) H' fun σ2 H2 => wipe σ2 vs = wipe σ vs ∧ tt σ2 H2 fun b H3 =>
        if b = true then te σ2 H3 fun y H4 => ∃ acc, H4 D = some (.lst acc) ∧ acc.length < sizeLine ∧ Nx (upd H4 D (.lst (acc ++ [y]))) else Nx H3) := by
  refine ⟨fun i m H => m = n - i ∧ i ≤ n ∧ Pv i H, ⟨n, by simp, Nat.zero_le _, h0⟩, ?_⟩
  rintro i m H ⟨rfl, hi, p⟩
  have q := hG i H hi p
  by_cases hlt : i < n
  · exact .inr ⟨w.goes i H hlt q, Pv (i + 1), fun H' p' => ⟨n - (i + 1), by omega, rfl, hlt, p'⟩, fun x H' y => hs i x H H' hlt p (w.yields i H x H' hlt q y)⟩
  · have e : i = n := by omega
    subst e
    exact .inl ⟨w.stops H q, hd H p⟩
/-- .. of the outer one, whose turns walk themselves -/
theorem lc2_out {J : It} {n : Nat} {G : Hp → Prop} {Y : Nat → Hp → V → Hp → Prop} (w : Walk J n G Y) {B : (Hp → Prop) → V → Hp → Prop} {H1 : Hp} {Qd : Hp → Prop} (Pv : Nat → Hp → Prop) (h0 : Pv 0 H1) (hG : ∀ i H, i ≤ n → Pv i H → G H)
    (hs : ∀ i x H H', i < n → Pv i H → Y i H x H' → B (Pv (i + 1)) x H') (hd : ∀ H, Pv n H → Qd H) :
    ∃ W : Nat → Nat → Hp → Prop, (∃ m, W 0 m H1) ∧ ∀ i m H, W i m H →
      (J.stop i H ∧ Qd H) ∨ (J.go i H ∧ ∃ Nx : Hp → Prop, (∀ H', Nx H' → ∃ m', m' < m ∧ W (i + 1) m' H') ∧ ∀ x H', J.yld i H x H' → B Nx x H') := by
  refine ⟨fun i m H => m = n - i ∧ i ≤ n ∧ Pv i H, ⟨n, by simp, Nat.zero_le _, h0⟩, ?_⟩
  rintro i m H ⟨rfl, hi, p⟩
  have q := hG i H hi p
  by_cases hlt : i < n
  · exact .inr ⟨w.goes i H hlt q, Pv (i + 1), fun H' p' => ⟨n - (i + 1), by omega, rfl, hlt, p'⟩, fun x H' y => hs i x H H' hlt p (w.yields i H x H' hlt q y)⟩
  · have e : i = n := by omega
    subst e
    exact .inl ⟨w.stops H q, hd H p⟩

/-- a list of texts, of ints, that stands still -/
def TxL (I : Hp) (v : V) (ws : List Str) : Prop := ∃ a, v = .ref a ∧ I a = some (.lst (ws.map V.str))
def TxT (I : Hp) (v : V) (ws : List Str) : Prop := ∃ a, v = .ref a ∧ I a = some (.tup (ws.map V.str))
theorem TxL.ext {I I' : Hp} {v : V} {ws : List Str} (h : TxL I v ws) (e : Same I I') : TxL I' v ws := let ⟨a, x, y⟩ := h; ⟨a, x, e _ _ y⟩
theorem TxT.ext {I I' : Hp} {v : V} {ws : List Str} (h : TxT I v ws) (e : Same I I') : TxT I' v ws := let ⟨a, x, y⟩ := h; ⟨a, x, e _ _ y⟩
end Tm
namespace Tm
open PySem PySem.Spec PyProof.Rows L2
abbrev prg : Program := PySem.Challenge.pw_longshares_k76_temporal_sayings
def top (i : Nat) : Stmt := prg.main.body.getD i (.Pass ⟨0, 0, 0, 0⟩)
abbrev sPen : Stmt := top 24
abbrev sDraw : Stmt := top 25
abbrev sPick : Stmt := top 26

/-- the pen: at a, not kept; its cells at c; how many were begun; what is left -/
def Pen (I H : Hp) (a : Addr) (N : Nat) : Prop := ∃ (c : Addr) (ns : List Int) (at_ left : Int), H a = some (.lst [.ref c, .int at_, .int left]) ∧ I a = none ∧
  I c = some (.lst (ns.map V.int)) ∧ ns.length ≤ 63 ∧ 0 ≤ at_ ∧ at_ ≤ (N : Int)
abbrev MaxN : Nat := 8000000
def At1 (a : Addr) : Addr → Prop := fun b => b = a
theorem Pen.go {S : Addr → Prop} {I H I' H' : Hp} {a : Addr} {N : Nat} (p : Pen I H a N) (g : Go S I H I' H') (h : ¬ S a) : Pen I' H' a N := by
  obtain ⟨c, ns, at_, left, h1, h2, h3, h4⟩ := p
  exact ⟨c, ns, at_, left, g.same _ _ h h1, g.fr _ _ h1 h2, g.ext _ _ h3, h4⟩
theorem Pen.mono {I H : Hp} {a : Addr} {N M : Nat} (p : Pen I H a N) (h : N ≤ M) : Pen I H a M := by
  obtain ⟨c, ns, at_, left, h1, h2, h3, h4, h5, h6⟩ := p
  exact ⟨c, ns, at_, left, h1, h2, h3, h4, h5, by omega⟩

theorem Pen.ne {I H : Hp} {a q : Addr} {N : Nat} (p : Pen I H a N) (h : H q = none) : q ≠ a := fun z => by
  obtain ⟨c, ns, x, y, h1, _⟩ := p
  rw [← z, h] at h1; cases h1
theorem Pen.tmp {I H : Hp} {a q : Addr} {N : Nat} {o : HO} (p : Pen I H a N) (hs : Same I H) (h : H q = none) : Pen I (upd H q o) a N := p.go (Go.tmp (S := NoS) hs h) id
theorem Pen.new {I H : Hp} {a q : Addr} {N : Nat} {o : HO} (p : Pen I H a N) (hs : Same I H) (h : H q = none) : Pen (upd I q o) (upd H q o) a N := p.go (Go.new (S := NoS) hs h) id
theorem atI_at {α : Type} {xs : List α} {z : Int} {j : Nat} {v : α} (e : z = (j : Int)) (h : xs[j]? = some v) : atI xs z = some v := by
  rw [e]
  exact atI_nat h
/-- a draw: an int below many -/
def spDraw : Sp := fun vs H Q _ => ∃ (a : Addr) (many : Int) (I : Hp) (N : Nat), vs = [.ref a, .int many] ∧ Same I H ∧ Pen I H a N ∧ N < MaxN ∧ 0 < many ∧ many < 1000000 ∧
  ∀ (r : Int) (I' H' : Hp), 0 ≤ r → r < many → Go (At1 a) I H I' H' → Pen I' H' a (N + 1) → Q (.int r) H'
theorem dpInts {K : PySem.W.Frag} {H : Hp} : ∀ ns : List Int, DpAll K H (ns.map V.int) (ns.map PyData.int)
  | [] => .nil
  | n :: r => .cons (.int n) (dpInts r)
theorem lay_flat : ∀ xs : List PyData, (∀ d ∈ xs, d.canLay0 = true ∧ d.depth = 0) → PyData.canLayAll0 xs = true ∧ PyData.depthAll xs = 0
  | [], _ => ⟨rfl, rfl⟩
  | d :: r, h => by
    obtain ⟨h1, h2⟩ := h d List.mem_cons_self
    obtain ⟨h3, h4⟩ := lay_flat r fun e he => h e (List.mem_cons_of_mem _ he)
    exact ⟨by show (d.canLay0 && PyData.canLayAll0 r) = true; rw [h1, h3]; rfl, by show max d.depth (PyData.depthAll r) = 0; rw [h2, h4]; rfl⟩
theorem shaped_lst {xs : List PyData} (h : ∀ d ∈ xs, d.canLay0 = true ∧ d.depth = 0) : SeqAt.shaped (.list xs) = true := by
  obtain ⟨h1, h2⟩ := lay_flat xs h
  show (PyData.canLayAll0 xs && decide (PyData.depthAll xs + 1 ≤ 64)) = true
  rw [h1, h2]; rfl
theorem shaped_tup {xs : List PyData} (h : ∀ d ∈ xs, d.canLay0 = true ∧ d.depth = 0) : SeqAt.shaped (.tuple xs) = true := by
  obtain ⟨h1, h2⟩ := lay_flat xs h
  show (PyData.canLayAll0 xs && decide (PyData.depthAll xs + 1 ≤ 64)) = true
  rw [h1, h2]; rfl
theorem shaped_ints (ns : List Int) : SeqAt.shaped (.list (ns.map PyData.int)) = true := shaped_lst fun d hd => by
  obtain ⟨n, _, rfl⟩ := List.mem_map.mp hd
  exact ⟨rfl, rfl⟩
theorem mix_bound {y a : Int} (h0 : 0 ≤ y) (h1 : y < 2147483489) (ha : 0 ≤ a) (hb : a < 8000000) : (y * (2 * a + 71) + 49921 * a * a + 118).natAbs < 2 ^ 64 := by
  have b1 : y * (2 * a + 71) ≤ 2147483489 * 16000071 := Int.mul_le_mul (by omega) (by omega) (by omega) (by decide)
  have b1' : 0 ≤ y * (2 * a + 71) := Int.mul_nonneg (by omega) (by omega)
  have b2 : 49921 * a * a ≤ 399368000000 * 8000000 := Int.mul_le_mul (by omega) (by omega) (by omega) (by decide)
  have b2' : 0 ≤ 49921 * a * a := Int.mul_nonneg (by omega) (by omega)
  omega
section
variable {P : Program} {w : World} {K : PySem.W.Frag} {mg : Str → Option Value} {base : Heap}
structure TDraw (K : PySem.W.Frag) (mg : Str → Option Value) : Prop where
  int : mg "int" = none
  len : mg "len" = none
  abs : mg "abs" = none
  list : mg "list" = none
theorem scDraw : FnScope ["pen", "many", "digit", "at", "cell", "great", "mixed"] ["pen", "many"] (defScope sDraw) := ⟨rfl, rfl, rfl, by decide +kernel, rfl, by decide +kernel, by decide +kernel⟩
theorem ok_draw {f : Addr} {fd : FuncData} (F : Fun K "_law_draw" "_law_draw" sDraw f fd) (T : TDraw K mg) : FnOk P w K mg base CX0 1 f fd ["pen", "many"] spDraw := by
  refine F.ok scDraw (fun vs H Q E h => ?_) (fun cdv A outer s H vs Q E hr h => ?_)
  · obtain ⟨a, many, I, N, rfl, _⟩ := h
    rfl
  · obtain ⟨a, many, I, N, rfl, hI, ⟨c, ns, at_, left, h1, h2, h3, h4, h5, h6⟩, hN, hm, hm2, k⟩ := h
    have hc := hI _ _ h3
    have nac : c ≠ a := fun z => by rw [z, h2] at h3; cases h3
    refine ⟨_, pss_cons (ps_if (pt_cmpR op_gt (pe_ix ix_list (pv 0) pe_int (fun _ _ => rfl)) pe_int (nomark _))
        (pss_cons (ps_set (i := 2) scDraw.nd rfl (Or.inl rfl) (pe_op op_mod (pe_callTy call_int1 (by rfl) T.int (by decide +kernel) (pa_cons (pe_ix ix_list (pv 0) pe_int (fun _ _ => rfl)) pa_nil)) (pv 1)))
        (pss_cons (ps_asg (pe_op op_fdiv (pe_callTy call_int1 (by rfl) T.int (by decide +kernel) (pa_cons (pe_ix ix_list (pv 0) pe_int (fun _ _ => rfl)) pa_nil)) (pv 1)) (pg_sub (pv 0) pe_int set_list))
        (pss_one (ps_ret (pv 2))))) pss_nil)
      (pss_cons (ps_set (i := 3) scDraw.nd rfl (Or.inl rfl) (pe_ix ix_list (pv 0) pe_int (fun _ _ => rfl)))
      (pss_cons (ps_asg (pe_op op_add (pv 3) pe_int) (pg_sub (pv 0) pe_int set_list))
      (pss_cons (ps_set (i := 4) scDraw.nd rfl (Or.inl rfl) (pe_op op_add (pe_op op_mul pe_int (pv 3)) pe_int))
      (C8.pss_cut (ps_if (pt_cmpR (op_neD hr.units) (pe_ix ix_list (pv 0) pe_int (fun _ _ => rfl)) (pe_lst pa_nil) (nomark _))
        (pss_one (ps_set (i := 4) scDraw.nd rfl (Or.inl rfl) (pe_ix ix_list (pe_ix ix_list (pv 0) pe_int (fun _ _ => rfl)) (pe_op op_mod (pe_callTy call_int1 (by rfl) T.int (by decide +kernel) (pa_cons (pv 3) pa_nil)) (pe_callB call_len (by rfl) T.len PySem.boot_len (pa_cons (pe_ix ix_list (pv 0) pe_int (fun _ _ => rfl)) pa_nil))) (fun _ _ => rfl)))) pss_nil)
      (C8.pss_cut (ps_if (PW.pt (pw_and (pt_cmpR op_lt (pv 3) (pe_callB call_len (by rfl) T.len PySem.boot_len (pa_cons (pe_ix ix_list (pv 0) pe_int (fun _ _ => rfl)) pa_nil)) (nomark _))
            (pw_and1 (pt_cmpR op_ge (pe_callB call_abs (by rfl) T.abs (by decide +kernel) (pa_cons (pv 4) pa_nil)) (pe_op op_pow pe_int pe_int) (nomark _)))))
        (pss_cons (ps_set (i := 5) scDraw.nd rfl (Or.inl rfl) (pe_op op_add (pe_op op_mul pe_int (pe_op op_sub (pe_callB call_abs (by rfl) T.abs (by decide +kernel) (pa_cons (pv 4) pa_nil)) (pe_op op_pow pe_int pe_int)))
            (pe_callTy call_int1 (by rfl) T.int (by decide +kernel) (pa_cons (pe_cmpR op_lt (pv 4) pe_int (nomark _)) pa_nil))))
        (pss_cons (ps_asg (pe_op op_fdiv (pe_callTy call_int1 (by rfl) T.int (by decide +kernel) (pa_cons (pv 5) pa_nil)) (pv 1)) (pg_sub (pv 0) pe_int set_list))
        (pss_one (ps_ret (pe_op op_mod (pe_callTy call_int1 (by rfl) T.int (by decide +kernel) (pa_cons (pv 5) pa_nil)) (pv 1)))))) pss_nil)
      (pss_cons (ps_set (i := 6) scDraw.nd rfl (Or.inl rfl) (pe_op op_add (pe_op op_add (pe_op op_mod (pe_callTy call_int1 (by rfl) T.int (by decide +kernel) (pa_cons (pv 4) pa_nil)) pe_int) (pe_op op_mul pe_int (pv 3))) pe_int))
      (pss_cons (ps_set (i := 6) scDraw.nd rfl (Or.inl rfl) (pe_op op_mod (pe_callTy call_int1 (by rfl) T.int (by decide +kernel) (pa_cons (pe_op op_pow (pv 6) pe_int) pa_nil)) pe_int))
      (pss_cons (ps_set (i := 6) scDraw.nd rfl (Or.inl rfl) (pe_op op_add (pe_op op_add (pe_op op_mul (pv 6) (pe_op op_add (pe_op op_mul pe_int (pv 3)) pe_int)) (pe_op op_mul (pe_op op_mul pe_int (pv 3)) (pv 3))) pe_int))
      (pss_cons (ps_set (i := 6) scDraw.nd rfl (Or.inl rfl) (pe_op op_mod (pe_callTy call_int1 (by rfl) T.int (by decide +kernel) (pa_cons (pe_op op_pow (pv 6) pe_int) pa_nil)) pe_int))
      (pss_one (ps_ret (pe_op op_mod (pe_callTy call_int1 (by rfl) T.int (by decide +kernel) (pa_cons (pe_op op_fdiv (pv 6) pe_int) pa_nil)) (pv 1))))))))))))), ?_⟩
    -- if pen[2] > 0
    have g1 : atI [V.ref c, V.int at_, V.int left] 0 = some (V.ref c) := rfl
    have penI : ∀ {H' : Hp} {x y : Int} {M : Nat}, H' = upd H a (.lst [.ref c, .int x, .int y]) → 0 ≤ x → x ≤ (M : Int) → Go (At1 a) I H I H' ∧ Pen I H' a M := fun {H' x y M} e hx hy => by
      subst e
      exact ⟨Go.put hI h2 rfl h1, c, ns, x, y, upd_same, h2, h3, h4, hx, hy⟩
    have s1 := sqK (K := K) h1
    have sc := sqK (K := K) hc
    refine ⟨_, rfl, _, _, _, _, rfl, rfl, s1, rfl, _, _, rfl, rfl, _, rfl, ite2 (fun hl => ?_) (fun hl => ?_)⟩
    · have hl' : 0 < left := of_decide_eq_true hl
      refine ⟨_, rfl, _, _, _, _, rfl, rfl, s1, rfl, .inl ⟨_, rfl, _, rfl, _, _, rfl, rfl, hm, ?_⟩⟩
      refine ⟨_, rfl, _, _, _, _, rfl, rfl, s1, rfl, .inl ⟨_, rfl, _, rfl, _, _, rfl, rfl, ⟨hm, by omega⟩, ?_⟩⟩
      refine ⟨_, rfl, _, _, _, 2, rfl, rfl, h1, rfl, _, rfl, ?_⟩
      obtain ⟨g, p⟩ := penI (x := at_) (y := left / many) (M := N + 1) rfl h5 (by omega)
      exact k _ I _ (Int.emod_nonneg _ (by omega)) (Int.emod_lt_of_pos _ hm) g p
    · -- at = pen[1]; pen[1] = at + 1
      refine ⟨_, rfl, _, _, _, _, rfl, rfl, s1, rfl, ?_⟩
      refine ⟨_, rfl, _, _, rfl, rfl, _, rfl, _, _, _, 1, rfl, rfl, h1, rfl, ?_⟩
      have s2 : SqL K (upd H a (.lst [.ref c, .int (at_ + 1), .int left])) a [.ref c, .int (at_ + 1), .int left] := sqK upd_same
      have sc2 : SqL K (upd H a (.lst [.ref c, .int (at_ + 1), .int left])) c (ns.map V.int) := sqK (by rw [upd_ne nac]; exact hc)
      have hat : at_ < 8000000 := by simp only [MaxN] at hN; omega
      -- cell = 43313 * at + 719
      refine ⟨_, rfl, _, _, rfl, rfl, .inl ⟨by decide, by decide⟩, _, _, rfl, rfl, ?_⟩
      -- if pen[0] != []
      refine ⟨fun σ H2 => ∃ cell : Int, σ = [some (.ref a), some (.int many), none, some (.int at_), some (.int cell), none, none] ∧ H2 a = some (.lst [.ref c, .int (at_ + 1), .int left]) ∧ Go (At1 a) I H I H2, ?_, ?_⟩
      · refine ⟨_, rfl, _, _, _, _, rfl, rfl, s2, rfl, (by show 0 ≤ sizeLine; decide), fun p hp => ?_⟩
        have npa : a ≠ p := ne_of_none upd_same hp
        have npc : c ≠ p := ne_of_none (by rw [upd_ne nac]; exact hc) hp
        obtain ⟨g0, _⟩ := penI (x := at_ + 1) (y := left) (M := N + 1) rfl (by omega) (by omega)
        have gp : Go (At1 a) I H I (upd (upd H a (.lst [.ref c, .int (at_ + 1), .int left])) p (.lst [])) := g0.trans (Go.tmp g0.sub hp)
        have ea : (upd (upd H a (.lst [.ref c, .int (at_ + 1), .int left])) p (.lst [])) a = some (.lst [.ref c, .int (at_ + 1), .int left]) := by rw [upd_ne npa, upd_same]
        have ec : (upd (upd H a (.lst [.ref c, .int (at_ + 1), .int left])) p (.lst [])) c = some (.lst (ns.map V.int)) := by rw [upd_ne npc, upd_ne nac]; exact hc
        refine ⟨.list (ns.map PyData.int), .list [], .lst (sqK ec) (dpInts ns), .lst (sqK upd_same) .nil, shaped_ints ns, rfl, _, rfl, ite2 (fun hne => ?_) (fun _ => ?_)⟩
        · have hpos : 0 < ns.length := by
            cases ns with
            | nil => exact absurd hne (by decide)
            | cons _ _ => exact Nat.succ_pos _
          refine ⟨_, rfl, _, _, _, _, rfl, rfl, sqK ea, rfl, _, rfl, .inl ⟨_, rfl, _, rfl, _, _, _, _, rfl, rfl, sqK ea, rfl, _, _, rfl, .inl ⟨_, sqK ec, rfl⟩, _, _, rfl, rfl, (by rw [List.length_map]; omega), ?_⟩⟩
          have hlt : (at_ % ((ns.map V.int).length : Int)).toNat < ns.length := by
            rw [List.length_map]
            have h := Int.emod_lt_of_pos at_ (show (0 : Int) < (ns.length : Int) by omega)
            have h' := Int.emod_nonneg at_ (show ((ns.length : Nat) : Int) ≠ 0 by omega)
            omega
          have hnn : 0 ≤ at_ % ((ns.map V.int).length : Int) := Int.emod_nonneg _ (by rw [List.length_map]; omega)
          refine ⟨_, _, _, .int (ns[(at_ % ((ns.map V.int).length : Int)).toNat]), rfl, rfl, sqK ec, at_of (j := (at_ % ((ns.map V.int).length : Int)).toNat) (by omega) (by rw [List.getElem?_map, List.getElem?_eq_getElem hlt]; rfl), ?_⟩
          exact ⟨_, rfl, ea, gp⟩
        · exact ⟨_, rfl, ea, gp⟩
      · rintro σ H2 ⟨cell, rfl, ea, g⟩
        have s3 := sqK (K := K) ea
        have ec : H2 c = some (.lst (ns.map V.int)) := g.sub _ _ h3
        have pen2 : ∀ {H' : Hp} {x y : Int}, H' = upd H2 a (.lst [.ref c, .int x, .int y]) → 0 ≤ x → x ≤ at_ + 1 → Go (At1 a) I H I H' ∧ Pen I H' a (N + 1) := fun {H' x y} e hx hy => by
          subst e
          exact ⟨g.trans (Go.put g.sub h2 rfl ea), c, ns, x, y, upd_same, h2, h3, h4, hx, by omega⟩
        have hp : ((10 : Int)).natAbs < 2 ^ 64 := by decide
        -- at < len(pen[0]) and abs(cell) >= 10 ** 18
        refine ⟨fun σ' H' => σ' = [some (V.ref a), some (.int many), none, some (.int at_), some (.int cell), none, none] ∧ H' = H2, ?_, ?_⟩
        · refine ⟨_, rfl, _, rfl, _, _, _, _, rfl, rfl, s3, rfl, _, _, rfl, .inl ⟨_, sqK ec, rfl⟩, _, _, rfl, rfl, _, rfl, ?_⟩
          refine ite2 (fun _ => ?_) (fun _ => ?_)
          · refine ⟨_, rfl, _, rfl, _, _, rfl, rfl, ⟨by decide, by decide, by decide⟩, _, _, rfl, rfl, _, rfl, ite2 (fun _ => ?_) (fun _ => ⟨rfl, rfl⟩)⟩
            refine ⟨_, rfl, _, rfl, _, _, rfl, rfl, ⟨by decide, by decide, by decide⟩, _, _, rfl, rfl, _, _, rfl, rfl, .inl ⟨by decide, by decide⟩, ?_⟩
            refine ⟨_, rfl, _, _, rfl, rfl, .inr ⟨_, rfl, _, _, rfl, rfl, ?_⟩⟩
            refine ⟨_, rfl, .inl ⟨_, rfl, _, rfl, _, _, rfl, rfl, ⟨hm, by omega⟩, _, rfl, _, _, _, 2, rfl, rfl, ea, rfl, ?_⟩⟩
            refine ⟨_, rfl, .inl ⟨_, rfl, _, rfl, _, _, rfl, rfl, hm, ?_⟩⟩
            obtain ⟨g2, p2⟩ := pen2 (x := at_ + 1) (y := (2 * ((if cell < 0 then -cell else cell) - 10 ^ (18 : Int).toNat) + (if decide (cell < 0) = true then 1 else 0)) / many) rfl (by omega) (by omega)
            exact k _ I _ (Int.emod_nonneg _ (by omega)) (Int.emod_lt_of_pos _ hm) g2 p2
          · exact ⟨rfl, rfl⟩
        · rintro σ' H' ⟨rfl, rfl⟩
          have pen3 : Pen I H' a (N + 1) := ⟨c, ns, at_ + 1, left, ea, h2, h3, h4, by omega, by omega⟩
          -- mixed
          have m1 : 0 ≤ cell % 2147483549 ∧ cell % 2147483549 < 2147483549 := ⟨Int.emod_nonneg _ (by decide), Int.emod_lt_of_pos _ (by decide)⟩
          refine ⟨_, rfl, .inl ⟨_, rfl, _, _, rfl, rfl, (by show (0 : Int) < 2147483549; decide), _, rfl, _, _, rfl, rfl, .inl ⟨by decide, by decide⟩, _, _, rfl, rfl, _, _, rfl, rfl, ?_⟩⟩
          refine ⟨_, rfl, _, _, rfl, rfl, ⟨by decide, by decide, by omega⟩, .inl ⟨_, rfl, _, _, rfl, rfl, (by show (0 : Int) < 2147483489; decide), ?_⟩⟩
          have m2 : ∀ x : Int, 0 ≤ x % 2147483489 ∧ x % 2147483489 < 2147483489 := fun x => ⟨Int.emod_nonneg _ (by decide), Int.emod_lt_of_pos _ (by decide)⟩
          have hy := m2 ((cell % 2147483549 + 55373 * at_ + 947) ^ (5 : Int).toNat)
          refine ⟨_, rfl, _, rfl, _, _, rfl, rfl, .inl ⟨by decide, by decide⟩, _, _, rfl, rfl, _, _, rfl, rfl, .inl ⟨Int.lt_of_lt_of_le (by decide) hy.1, Int.lt_trans hy.2 (by decide)⟩, ?_⟩
          refine ⟨_, rfl, _, _, rfl, rfl, .inl ⟨by decide, by decide⟩, _, rfl, _, _, rfl, rfl, .inr ⟨by omega, by omega⟩, _, _, rfl, rfl, _, _, rfl, rfl, ?_⟩
          refine ⟨_, rfl, _, _, rfl, rfl, ⟨by decide, by decide, mix_bound hy.1 hy.2 h5 hat⟩, .inl ⟨_, rfl, _, _, rfl, rfl, (by show (0 : Int) < 2147483587; decide), ?_⟩⟩
          refine ⟨_, rfl, _, _, rfl, rfl, ⟨by decide, by decide⟩, .inl ⟨_, rfl, _, rfl, _, _, rfl, rfl, hm, ?_⟩⟩
          exact k _ I _ (Int.emod_nonneg _ (by omega)) (Int.emod_lt_of_pos _ hm) g pen3

/-- _law_pick: one of a list's items -/
def spPick : Sp := fun vs H Q _ => ∃ (a b : Addr) (xs : List V) (I : Hp) (N : Nat), vs = [.ref a, .ref b] ∧ Same I H ∧ Pen I H a N ∧ N < MaxN ∧ H b = some (.lst xs) ∧ b ≠ a ∧ 0 < xs.length ∧ xs.length < 1000000 ∧
  ∀ (v : V) (I' H' : Hp), v ∈ xs → Go (At1 a) I H I' H' → Pen I' H' a (N + 1) → Q v H'
theorem scPick : FnScope ["pen", "some"] ["pen", "some"] (defScope sPick) := ⟨rfl, rfl, rfl, by decide +kernel, rfl, by decide +kernel, by decide +kernel⟩
theorem ok_pick {f fD : Addr} {fd fdD : FuncData} (F : Fun K "_law_pick" "_law_pick" sPick f fd) (T : TDraw K mg) (GD : FnOk P w K mg base CX0 1 fD fdD ["pen", "many"] spDraw) (mD : mg "_law_draw" = some (.ref fD)) (kD : PySem.W.keepIn K (.ref fD) = true) (bD : Binds K fdD ["pen", "many"] []) :
    FnOk P w K mg base CX0 2 f fd ["pen", "some"] spPick := by
  refine F.ok scPick (fun vs H Q E h => ?_) (fun cdv A outer s H vs Q E hr h => ?_)
  · obtain ⟨a, b, xs, I, N, rfl, _⟩ := h
    rfl
  · obtain ⟨a, b, xs, I, N, rfl, hI, hp, hN, hb, nab, hx, hx2, k⟩ := h
    refine ⟨_, pss_one (ps_ret (pe_ix ix_list (pv 1) (pe_call GD hr rfl mD kD bD .nil pass0 (pa_cons (pv 0) (pa_cons (pe_callB call_len (by rfl) T.len PySem.boot_len (pa_cons (pv 1) pa_nil)) pa_nil))) (fun _ _ => rfl))), ?_⟩
    refine ⟨_, rfl, _, rfl, _, rfl, _, _, rfl, .inl ⟨_, sqK hb, rfl⟩, a, (xs.length : Int), I, N, rfl, hI, hp, hN, by omega, by omega, fun r I' H' h0 h1 g p => ?_⟩
    have hb' : H' b = some (.lst xs) := g.same _ _ nab hb
    have hlt : r.toNat < xs.length := by omega
    refine ⟨_, _, _, xs[r.toNat], rfl, rfl, sqK hb', at_of (j := r.toNat) (by omega) (List.getElem?_eq_getElem hlt), ?_⟩
    exact k _ I' H' (List.getElem_mem hlt) g p
end
end Tm
/-! plain: words, sayings as trees -/
namespace Tm
open PySem PySem.Spec PyProof.Rows L2
def signs : Str := "abcdefghijklmnopqrstuvwxyz0123456789?!@="
def biW : List Str := ["AND", "OR", "UNTIL", "SINCE"]
def unW : List Str := ["NOT", "NEXT", "EVER", "ALWAYS", "BEFORE", "ONCE", "SOFAR"]
def evC (c : Nat) : Bool := decide (c ∈ signs.cps.toList)
def evOk (w : Str) : Bool := decide (1 ≤ w.length) && decide (w.length ≤ 24) && w.cps.toList.all evC
/-- how many parts a word has -/
def due (w : Str) : Option Nat := if w ∈ biW then some 2 else if w ∈ unW then some 1 else if w = "TRUE" ∨ evOk w = true then some 0 else none
inductive Mdl where
  | leaf (w : Str)
  | un (w : Str) (m : Mdl)
  | bi (w : Str) (a b : Mdl)
namespace Mdl
def head : Mdl → Str
  | leaf w => w
  | un w _ => w
  | bi w _ _ => w
def kids : Mdl → List Mdl
  | leaf _ => []
  | un _ m => [m]
  | bi _ a b => [a, b]
def words : Mdl → List Str
  | leaf w => [w]
  | un w m => w :: words m
  | bi w a b => w :: (words a ++ words b)
def parts : Mdl → List Mdl
  | leaf w => [leaf w]
  | un w m => un w m :: parts m
  | bi w a b => bi w a b :: (parts a ++ parts b)
def ok : Mdl → Prop
  | leaf w => due w = some 0
  | un w m => due w = some 1 ∧ ok m
  | bi w a b => due w = some 2 ∧ ok a ∧ ok b
def deep : Mdl → Nat
  | leaf _ => 0
  | un _ m => deep m + 1
  | bi _ a b => max (deep a) (deep b) + 1
theorem words_len : ∀ m : Mdl, m.words.length < 2 ^ (m.deep + 1)
  | leaf w => by show 1 < 2 ^ 1; decide
  | un w m => by
    have h := words_len m
    show m.words.length + 1 < 2 ^ (m.deep + 1 + 1)
    rw [Nat.pow_succ]; omega
  | bi w a b => by
    have h1 := words_len a
    have h2 := words_len b
    have e1 : 2 ^ (a.deep + 1) ≤ 2 ^ (max a.deep b.deep + 1) := Nat.pow_le_pow_right (by decide) (by omega)
    have e2 : 2 ^ (b.deep + 1) ≤ 2 ^ (max a.deep b.deep + 1) := Nat.pow_le_pow_right (by decide) (by omega)
    show (a.words ++ b.words).length + 1 < 2 ^ (max a.deep b.deep + 1 + 1)
    rw [List.length_append, Nat.pow_succ]; omega
theorem parts_len : ∀ m : Mdl, m.parts.length = m.words.length
  | leaf _ => rfl
  | un w m => by show m.parts.length + 1 = m.words.length + 1; rw [parts_len m]
  | bi w a b => by show (a.parts ++ b.parts).length + 1 = (a.words ++ b.words).length + 1; rw [List.length_append, List.length_append, parts_len a, parts_len b]
theorem words_pos (m : Mdl) : 0 < m.words.length := by cases m <;> exact Nat.succ_pos _
theorem kids_words : ∀ m : Mdl, m.words = m.head :: (m.kids.map words).flatten
  | leaf _ => rfl
  | un w m => by show w :: m.words = w :: (m.words ++ []); rw [List.append_nil]
  | bi w a b => by show w :: (a.words ++ b.words) = w :: (a.words ++ (b.words ++ [])); rw [List.append_nil]
theorem kids_parts : ∀ m : Mdl, m.parts = m :: (m.kids.map parts).flatten
  | leaf _ => rfl
  | un w m => by show un w m :: m.parts = un w m :: (m.parts ++ []); rw [List.append_nil]
  | bi w a b => by show bi w a b :: (a.parts ++ b.parts) = bi w a b :: (a.parts ++ (b.parts ++ [])); rw [List.append_nil]
theorem kids_deep {m x : Mdl} (h : x ∈ m.kids) : x.deep + 1 ≤ m.deep := by
  cases m with
  | leaf w => cases h
  | un w k => rcases List.mem_cons.mp h with rfl | h; exact Nat.le_refl _; cases h
  | bi w a b =>
    show x.deep + 1 ≤ max a.deep b.deep + 1
    rcases List.mem_cons.mp h with rfl | h
    · omega
    · rcases List.mem_cons.mp h with rfl | h
      · omega
      · cases h
theorem kids_ok {m x : Mdl} (o : m.ok) (h : x ∈ m.kids) : x.ok := by
  cases m with
  | leaf w => cases h
  | un w k => rcases List.mem_cons.mp h with rfl | h; exact o.2; cases h
  | bi w a b =>
    rcases List.mem_cons.mp h with rfl | h
    · exact o.2.1
    · rcases List.mem_cons.mp h with rfl | h
      · exact o.2.2
      · cases h
theorem ok_due {m : Mdl} (o : m.ok) : due m.head = some m.kids.length := by
  cases m with
  | leaf w => exact o
  | un w k => exact o.1
  | bi w a b => exact o.1
theorem flat_take {ks : List Mdl} {i : Nat} {k : Mdl} (h : ks[i]? = some k) : ((ks.take (i + 1)).map words).flatten = ((ks.take i).map words).flatten ++ k.words := by
  rw [List.take_succ, h, Option.toList_some, List.map_append, List.flatten_append]
  show _ = _ ++ k.words
  rw [List.map_cons, List.map_nil, List.flatten_cons, List.flatten_nil, List.append_nil]
theorem flat_le (ks : List Mdl) (i : Nat) : ((ks.take i).map words).flatten.length ≤ (ks.map words).flatten.length := by
  conv => rhs; rw [← List.take_append_drop i ks, List.map_append, List.flatten_append, List.length_append]
  exact Nat.le_add_right _ _
end Mdl
/-- a saying's list [word, part, ..] -/
inductive MIs (I : Hp) : V → Mdl → Prop
  | leaf {a : Addr} {w : Str} : I a = some (.lst [.str w]) → MIs I (.ref a) (.leaf w)
  | un {a : Addr} {w : Str} {v : V} {m : Mdl} : I a = some (.lst [.str w, v]) → MIs I v m → MIs I (.ref a) (.un w m)
  | bi {a : Addr} {w : Str} {v u : V} {m k : Mdl} : I a = some (.lst [.str w, v, u]) → MIs I v m → MIs I u k → MIs I (.ref a) (.bi w m k)
theorem MIs.ext {I I' : Hp} {v : V} {m : Mdl} (h : MIs I v m) (e : Same I I') : MIs I' v m := by
  induction h with
  | leaf h => exact .leaf (e _ _ h)
  | un h _ i => exact .un (e _ _ h) i
  | bi h _ _ i j => exact .bi (e _ _ h) i j
/-- its list: the word, then the parts -/
theorem MIs.list {I : Hp} {v : V} {m : Mdl} (h : MIs I v m) : ∃ (a : Addr) (vs : List V), v = .ref a ∧ I a = some (.lst (.str m.head :: vs)) ∧ vs.length = m.kids.length ∧ ∀ (i : Nat) x k, vs[i]? = some x → m.kids[i]? = some k → MIs I x k := by
  cases h with
  | leaf h => exact ⟨_, [], rfl, h, rfl, fun i x k q => by simp at q⟩
  | @un a w v m h i =>
    refine ⟨_, [v], rfl, h, rfl, fun j x k q r => ?_⟩
    cases j with
    | zero => cases q; cases r; exact i
    | succ j => simp at q
  | @bi a w v u m k h i j =>
    refine ⟨_, [v, u], rfl, h, rfl, fun l x y q r => ?_⟩
    cases l with
    | zero => cases q; cases r; exact i
    | succ l =>
      cases l with
      | zero => cases q; cases r; exact j
      | succ l => simp at q
theorem inV_str (w : Str) : ∀ ws : List Str, inV (.str w) (ws.map V.str) = decide (w ∈ ws)
  | [] => by simp [inV]
  | y :: r => by
    have ih := inV_str w r
    unfold inV at ih ⊢
    rw [List.map_cons, List.any_cons, ih]
    show ((y == w) || decide (w ∈ r)) = decide (w ∈ y :: r)
    by_cases e : w = y
    · subst e; simp
    · have e' : (y == w) = false := beq_false_of_ne fun z => e z.symm
      rw [e', Bool.false_or]
      by_cases h : w ∈ r
      · simp [h]
      · simp [h, e]
theorem flat_strs : ∀ ws : List Str, (ws.map V.str).all flatV = true
  | [] => rfl
  | _ :: r => by show (true && (r.map V.str).all flatV) = true; rw [flat_strs r]; rfl
theorem mem_strs {v : V} {ws : List Str} (h : v ∈ ws.map V.str) : ∃ w, v = .str w ∧ w ∈ ws := let ⟨w, h1, h2⟩ := List.mem_map.mp h; ⟨w, h2.symm, h1⟩
theorem due_bi {w : Str} (h : w ∈ biW) : due w = some 2 := if_pos h
theorem due_un {w : Str} (h : w ∈ unW) : due w = some 1 := by
  have h2 : ∀ x ∈ unW, x ∉ biW := by decide +kernel
  unfold due; rw [if_neg (h2 w h), if_pos h]
theorem ev_low {w : Str} (h : evOk w = true) : w ∉ biW ∧ w ∉ unW ∧ w ≠ "TRUE" := by
  have h2 : ∀ x ∈ biW ++ unW ++ ([("TRUE" : Str)] : List Str), evOk x = false := by decide +kernel
  have k : ∀ x ∈ biW ++ unW ++ ([("TRUE" : Str)] : List Str), w ≠ x := fun x hx e => by rw [e, h2 x hx] at h; cases h
  refine ⟨fun z => k w ?_ rfl, fun z => k w ?_ rfl, fun z => k w ?_ rfl⟩
  · exact List.mem_append_left _ (List.mem_append_left _ z)
  · exact List.mem_append_left _ (List.mem_append_right _ z)
  · exact List.mem_append_right _ (by rw [z]; exact List.mem_cons_self)
theorem due_ev {w : Str} (h : evOk w = true) : due w = some 0 := by
  obtain ⟨h1, h2, _⟩ := ev_low h
  unfold due; rw [if_neg h1, if_neg h2, if_pos (.inr h)]
theorem due_true : due "TRUE" = some 0 := by decide +kernel
end Tm
namespace Tm
open PySem PySem.Spec PyProof.Rows L2
theorem op_mulS {X : Cx} : OpR X (binaryOp .Mult) (fun x y H Q => ∃ z n, x = .str z ∧ y = .int n ∧ MulOk z n ∧ Q (.str (Txt.mul z n)) H) := by
  intro pins s σ H x y v u Q I rx ry h
  obtain ⟨z, n, rfl, rfl, hk, q⟩ := h
  obtain ⟨t, rfl⟩ := rx
  obtain ⟨t', rfl⟩ := ry
  exact SB.mul hk fun t' tk => ⟨.str _, H, I.tok _, ⟨_, rfl⟩, q⟩
abbrev sEvent : Stmt := top 27
abbrev sModel : Stmt := top 28
def spEvent : Sp := fun vs H Q _ => ∃ (a : Addr) (I : Hp) (N : Nat), vs = [.ref a] ∧ Same I H ∧ Pen I H a N ∧ N + 30 < MaxN ∧
  ∀ (z : Str) (I' H' : Hp), evOk z = true → Go (At1 a) I H I' H' → Pen I' H' a (N + 28) → Q (.str z) H'
def evs : List Str := ["a", "call", "not", "until", "true", "0", "?", "next", "x@in", "b=10", "zzzzzzzzzzzzzzzzzzzzzzzz"]
theorem evs_ok : ∀ z ∈ evs, evOk z = true := by decide +kernel
theorem evC_at {i : Nat} {c : Nat} (h : signs.cps.toList[i]? = some c) : evC c = true := decide_eq_true (List.mem_of_getElem? h)
theorem signs_len : signs.length = 40 := by decide +kernel
section
variable {P : Program} {w : World} {K : PySem.W.Frag} {mg : Str → Option Value} {base : Heap}
theorem scEvent : FnScope ["pen", "signs", "found", "again"] ["pen"] (defScope sEvent) := ⟨rfl, rfl, rfl, by decide +kernel, rfl, by decide +kernel, by decide +kernel⟩
theorem ok_event {f : Addr} {fd : FuncData} (F : Fun K "_law_event" "_law_event" sEvent f fd) (hrg : mg "range" = none) (cD : C8.Cal P w K mg base 1 "_law_draw" spDraw []) (cP : C8.Cal P w K mg base 2 "_law_pick" spPick []) : FnOk P w K mg base CX0 3 f fd ["pen"] spEvent := by
  refine F.ok scEvent (fun vs H Q E h => ?_) (fun cdv A outer s H vs Q E hr h => ?_)
  · obtain ⟨a, I, N, rfl, _⟩ := h
    rfl
  · obtain ⟨a, I, N, rfl, hI, hp, hN, k⟩ := h
    refine ⟨_, pss_cons (ps_if (pt_cmpR op_eq (C8.pe_c cD hr (by decide) rfl (pa_cons (pv 0) (pa_cons pe_int pa_nil))) pe_int (nomark _))
        (pss_one (ps_ret (C8.pe_c cP hr (by decide) rfl (pa_cons (pv 0) (pa_cons (pe_lst (pa_cons pe_str (pa_cons pe_str (pa_cons pe_str (pa_cons pe_str (pa_cons pe_str (pa_cons pe_str (pa_cons pe_str (pa_cons pe_str (pa_cons pe_str (pa_cons pe_str (pa_cons (pe_op op_mulS pe_str pe_int) pa_nil)))))))))))) pa_nil))))) pss_nil)
      (pss_cons (ps_asg (pe_tup (pa_cons pe_str (pa_cons pe_str pa_nil))) (pg_tup rfl (pgs_cons (pg_name (i := 1) scEvent.nd rfl (Or.inl rfl)) (pgs_cons (pg_name (i := 2) scEvent.nd rfl (Or.inl rfl)) pgs_nil))))
      (pss_cons (ps_for PassesOwn.never rfl (pi_range1 rfl hrg (pa_cons (C8.pe_c cP hr (by decide) rfl (pa_cons (pv 0) (pa_cons (pe_lst (pa_cons pe_int (pa_cons pe_int (pa_cons pe_int (pa_cons pe_int pa_nil))))) pa_nil))) pa_nil)) (pg_name (i := 3) scEvent.nd rfl (Or.inl rfl))
        (pss_one (ps_set (i := 2) scEvent.nd rfl (Or.inl rfl) (pe_op op_add_str (pv 2) (pe_ix ix_str (pv 1) (C8.pe_c cD hr (by decide) rfl (pa_cons (pv 0) (pa_cons pe_int pa_nil))) (fun _ _ => rfl))))))
      (pss_one (ps_ret (pv 2))))), ?_⟩
    refine ⟨_, rfl, a, 3, I, N, rfl, hI, hp, by omega, by decide, by decide, fun r I1 H1 r0 r1 g1 p1 => ?_⟩
    refine ⟨rfl, _, rfl, ite2 (fun _ => ?_) (fun _ => ?_)⟩
    · refine ⟨_, rfl, _, _, rfl, rfl, ⟨rfl, fun _ _ => by decide, fun _ _ => by decide +kernel⟩, (by show 11 ≤ sizeLine; decide), fun q hq => ?_⟩
      have g2 := g1.trans (Go.tmp (o := .lst (evs.map V.str)) g1.sub hq)
      have e11 : ([.str "a", .str "call", .str "not", .str "until", .str "true", .str "0", .str "?", .str "next", .str "x@in", .str "b=10", .str (Txt.mul "z" 24)] : List V) = evs.map V.str := by
        have e : Txt.mul ("z" : Str) 24 = "zzzzzzzzzzzzzzzzzzzzzzzz" := by decide +kernel
        rw [e]; rfl
      refine ⟨a, q, evs.map V.str, I1, N + 1, rfl, g2.sub, ?_, by omega, ?_, ?_, by decide, by decide, fun v I' H' hv g p => ?_⟩
      · exact (p1.go (Go.tmp (S := NoS) (o := .lst (evs.map V.str)) g1.sub hq) id)
      · rw [← e11]; exact upd_same
      · exact p1.ne hq
      · obtain ⟨z, rfl, hz⟩ := mem_strs hv
        exact k z I' H' (evs_ok z hz) (g2.trans g) (p.mono (by omega))
    · refine ⟨(by show 2 ≤ sizeLine; decide), fun t ht => ⟨t, _, rfl, stK upd_same, rfl, _, _, rfl, _, _, rfl, rfl, ?_⟩⟩
      have g2 := g1.trans (Go.tmp (S := At1 a) (o := .tup [.str signs, .str ""]) g1.sub ht)
      have p2 : Pen I1 (upd H1 t (.tup [.str signs, .str ""])) a (N + 1) := p1.go (Go.tmp (S := NoS) (o := .tup [.str signs, .str ""]) g1.sub ht) id
      refine ⟨_, rfl, (by show 4 ≤ sizeLine; decide), fun q hq => ?_⟩
      have g3 := g2.trans (Go.tmp (S := At1 a) (o := .lst [.int 1, .int 2, .int 3, .int 24]) g2.sub hq)
      have p3 := p2.go (Go.tmp (S := NoS) (o := .lst [.int 1, .int 2, .int 3, .int 24]) g2.sub hq) id
      have qa : q ≠ a := p2.ne hq
      refine ⟨a, q, [.int 1, .int 2, .int 3, .int 24], I1, N + 1, rfl, g3.sub, p3, by omega, upd_same, qa, by decide, by decide, fun v I2 H2 hv g4 p4 => ?_⟩
      obtain ⟨n, rfl, hn0, hn⟩ : ∃ n : Int, v = .int n ∧ 1 ≤ n ∧ n ≤ 24 := by
        simp only [List.mem_cons, List.not_mem_nil, or_false] at hv
        rcases hv with rfl | rfl | rfl | rfl <;> exact ⟨_, rfl, by decide, by decide⟩
      refine ⟨n, rfl, by omega, by omega, for_range (lo := 0) (n := n.toNat) (fun i σ H' => ∃ (I' : Hp) (z : Str) (o : Option V), σ = [some (.ref a), some (.str signs), some (.str z), o] ∧ z.length = i ∧ z.cps.toList.all evC = true ∧ Go (At1 a) I H I' H' ∧ Pen I' H' a (N + 2 + i))
        ⟨I2, "", none, rfl, by decide +kernel, by decide +kernel, g3.trans g4, p4⟩ ?_ ?_⟩
      · rintro i σ H' hi ⟨I', z, o, rfl, hz, hall, g, p⟩
        refine ⟨_, rfl, _, rfl, _, rfl, a, 40, I', N + 2 + i, rfl, g.sub, p, by omega, by decide, by decide, fun r I3 H3 h0 h1 g5 p5 => ?_⟩
        have hlt : r.toNat < signs.cps.toList.length := by
          have e : signs.cps.toList.length = 40 := signs_len
          omega
        have hs1 : signs.length ≤ sizeLine := by rw [signs_len, sizeLine_eq]; decide
        refine ⟨signs, r, signs.cps.toList[r.toNat], rfl, rfl, hs1, atI_at (by omega) (List.getElem?_eq_getElem hlt), ?_⟩
        have hev := evC_at (List.getElem?_eq_getElem hlt)
        refine ⟨_, _, rfl, rfl, ?_, I3, _, _, rfl, ?_, ?_, g.trans g5, p5.mono (by omega)⟩
        · show z.length + 1 ≤ sizeLine
          rw [hz, sizeLine_eq]; omega
        · show (z.cps ++ #[signs.cps.toList[r.toNat]]).size = i + 1
          rw [Array.size_append]
          show z.length + 1 = i + 1
          rw [hz]
        · show (z.cps ++ #[signs.cps.toList[r.toNat]]).toList.all evC = true
          rw [Array.toList_append, List.all_append, hall]
          show (evC signs.cps.toList[r.toNat] && true) = true
          rw [hev]; rfl
      · rintro σ H' ⟨I', z, o, rfl, hz, hall, g, p⟩
        refine ⟨_, rfl, k z I' H' ?_ g (p.mono (by omega))⟩
        show (decide (1 ≤ z.length) && decide (z.length ≤ 24) && z.cps.toList.all evC) = true
        rw [hall, decide_eq_true (show 1 ≤ z.length by omega), decide_eq_true (show z.length ≤ 24 by omega)]; rfl
end
end Tm
/-! plain: reading words -/
namespace Tm
open PySem PySem.Spec PyProof.Rows L2
/-- from d wanted and k words behind: where the words go wrong -/
def scan : Nat → Nat → List Str → Option Nat
  | d, k, [] => if d = 0 then none else some k
  | d, k, z :: r => if d = 0 then some k else match due z with
    | none => some k
    | some n => scan (d + n - 1) (k + 1) r
def fault (ws : List Str) : Option Nat := scan 1 0 ws
/-- d sayings and no more -/
def valid : Nat → List Str → Prop
  | d, [] => d = 0
  | d, z :: r => 0 < d ∧ ∃ n, due z = some n ∧ valid (d + n - 1) r
theorem valid_iff : ∀ (ws : List Str) (d k : Nat), scan d k ws = none ↔ valid d ws
  | [], d, k => by
    show (if d = 0 then none else some k) = none ↔ d = 0
    by_cases h : d = 0
    · rw [if_pos h]; exact ⟨fun _ => h, fun _ => rfl⟩
    · rw [if_neg h]; exact ⟨(fun z => nomatch z), fun z => absurd z h⟩
  | z :: r, d, k => by
    unfold scan valid
    by_cases h : d = 0
    · rw [if_pos h]; exact ⟨(fun z => nomatch z), fun z => absurd z.1 (by omega)⟩
    · rw [if_neg h]
      cases hz : due z with
      | none => exact ⟨(fun z => nomatch z), fun ⟨_, n, e, _⟩ => nomatch e⟩
      | some n =>
        show scan (d + n - 1) (k + 1) r = none ↔ _
        rw [valid_iff r]
        exact ⟨fun h2 => ⟨by omega, n, rfl, h2⟩, fun ⟨_, m, e, h2⟩ => by cases e; exact h2⟩
theorem valid_inj : ∀ (ws : List Str) (d e : Nat), valid d ws → valid e ws → d = e
  | [], d, e, h1, h2 => by rw [show d = 0 from h1, show e = 0 from h2]
  | z :: r, d, e, ⟨p, n, e1, h1⟩, ⟨q, m, e2, h2⟩ => by
    rw [e1] at e2
    cases e2
    have := valid_inj r _ _ h1 h2
    omega
theorem valid_drop : ∀ (i : Nat) (ws : List Str) (d : Nat), valid d ws → ∃ e, valid e (ws.drop i)
  | 0, ws, d, h => ⟨d, by rw [List.drop_zero]; exact h⟩
  | i + 1, [], d, h => ⟨d, by rw [List.drop_nil]; exact h⟩
  | i + 1, z :: r, d, ⟨_, n, _, h⟩ => by
    rw [List.drop_succ_cons]
    exact valid_drop i r _ h
theorem valid_due {ws : List Str} {d : Nat} (h : valid d ws) : ∀ z ∈ ws, due z ≠ none := by
  induction ws generalizing d with
  | nil => intro z hz; cases hz
  | cons y r ih =>
    obtain ⟨_, n, e, h⟩ := h
    intro z hz
    rcases List.mem_cons.mp hz with rfl | hz
    · rw [e]; exact fun z => nomatch z
    · exact ih h z hz
/-- these sayings, one behind the other, are these words -/
structure Fit (ws : List Str) (ms : List Mdl) : Prop where
  eq : (ms.map Mdl.words).flatten = ws
  ok : ∀ m ∈ ms, m.ok
/-- the saying of a word and its parts -/
def mkM (z : Str) : List Mdl → Mdl
  | [] => .leaf z
  | [a] => .un z a
  | a :: b :: _ => .bi z a b
theorem due_le {z : Str} {n : Nat} (h : due z = some n) : n ≤ 2 := by
  unfold due at h
  split at h
  · cases h; decide
  · split at h
    · cases h; decide
    · split at h
      · cases h; decide
      · cases h
theorem mkM_head {z : Str} {ps : List Mdl} (h : ps.length ≤ 2) : (mkM z ps).head = z ∧ (mkM z ps).kids = ps := by
  match ps with
  | [] => exact ⟨rfl, rfl⟩
  | [a] => exact ⟨rfl, rfl⟩
  | [a, b] => exact ⟨rfl, rfl⟩
  | a :: b :: c :: r => simp at h
theorem mkM_ok {z : Str} {ps : List Mdl} (h : due z = some ps.length) (o : ∀ m ∈ ps, m.ok) : (mkM z ps).ok := by
  have := due_le h
  match ps with
  | [] => exact h
  | [a] => exact ⟨h, o a List.mem_cons_self⟩
  | [a, b] => exact ⟨h, o a List.mem_cons_self, o b (List.mem_cons_of_mem _ List.mem_cons_self)⟩
  | a :: b :: c :: r => simp at this
theorem mkM_words {z : Str} {ps : List Mdl} (h : ps.length ≤ 2) : (mkM z ps).words = z :: (ps.map Mdl.words).flatten := by
  obtain ⟨h1, h2⟩ := mkM_head (z := z) h
  rw [Mdl.kids_words, h1, h2]
/-- one word more, ahead -/
theorem Fit.step {z : Str} {r : List Str} {ms : List Mdl} {n : Nat} (F : Fit r ms) (hz : due z = some n) (hn : n ≤ ms.length) : Fit (z :: r) (mkM z (ms.take n) :: ms.drop n) := by
  have hl : (ms.take n).length = n := by rw [List.length_take]; omega
  have h2 := due_le hz
  refine ⟨?_, fun m hm => ?_⟩
  · rw [List.map_cons, List.flatten_cons, mkM_words (by omega), List.cons_append, ← List.flatten_append, ← List.map_append, List.take_append_drop, F.eq]
  · rcases List.mem_cons.mp hm with rfl | hm
    · exact mkM_ok (by rw [hl]; exact hz) fun m hm => F.ok m (List.mem_of_mem_take hm)
    · exact F.ok m (List.mem_of_mem_drop hm)
theorem Fit.lens {r : List Str} {ms : List Mdl} (F : Fit r ms) : ∀ m ∈ ms, m.words.length ≤ r.length := fun m hm => by
  rw [← F.eq]
  have : m.words ∈ ms.map Mdl.words := List.mem_map_of_mem hm
  exact (List.sublist_flatten_of_mem this).length_le
theorem Fit.count {r : List Str} {ms : List Mdl} (F : Fit r ms) : ms.length ≤ r.length := by
  rw [← F.eq]
  clear F
  induction ms with
  | nil => exact Nat.zero_le _
  | cons m ms ih =>
    have := Mdl.words_pos m
    rw [List.map_cons, List.flatten_cons, List.length_append, List.length_cons]
    omega
theorem due_len {z : Str} (h : due z ≠ none) : z.length ≤ 100000 := by
  have h2 : ∀ x ∈ biW ++ unW ++ ([("TRUE" : Str)] : List Str), x.length ≤ 100000 := by decide +kernel
  by_cases h4 : evOk z = true
  · unfold evOk at h4
    simp only [Bool.and_eq_true] at h4
    have := of_decide_eq_true h4.1.2
    omega
  · refine h2 z ?_
    unfold due at h
    by_cases a : z ∈ biW
    · exact List.mem_append_left _ (List.mem_append_left _ a)
    · rw [if_neg a] at h
      by_cases b : z ∈ unW
      · exact List.mem_append_left _ (List.mem_append_right _ b)
      · rw [if_neg b] at h
        by_cases c : z = "TRUE"
        · exact List.mem_append_right _ (by rw [c]; exact List.mem_cons_self)
        · rw [if_neg (by rintro (x | x); exact c x; exact h4 x)] at h
          exact absurd rfl h
theorem ok_words {m : Mdl} (o : m.ok) : ∀ z ∈ m.words, due z ≠ none := by
  induction m with
  | leaf w => intro z hz; rcases List.mem_cons.mp hz with rfl | hz; rw [show due z = some 0 from o]; exact (fun z => nomatch z); cases hz
  | un w m ih =>
    intro z hz
    rcases List.mem_cons.mp hz with rfl | hz
    · rw [o.1]; exact fun z => nomatch z
    · exact ih o.2 z hz
  | bi w a b iha ihb =>
    intro z hz
    rcases List.mem_cons.mp hz with rfl | hz
    · rw [o.1]; exact fun z => nomatch z
    · rcases List.mem_append.mp hz with hz | hz
      · exact iha o.2.1 z hz
      · exact ihb o.2.2 z hz
/-- what a saying's words tell -/
theorem ok_valid {m : Mdl} (o : m.ok) : ∀ (d : Nat) (r : List Str), valid d r → valid (d + 1) (m.words ++ r) := by
  induction m with
  | leaf w => intro d r h; exact ⟨Nat.succ_pos _, 0, o, h⟩
  | un w m ih => intro d r h; exact ⟨Nat.succ_pos _, 1, o.1, ih o.2 d r h⟩
  | bi w a b iha ihb =>
    intro d r h
    refine ⟨Nat.succ_pos _, 2, o.1, ?_⟩
    show valid (d + 1 + 2 - 1) ((a.words ++ b.words) ++ r)
    rw [List.append_assoc]
    exact iha o.2.1 (d + 1) _ (ihb o.2.2 d r h)
theorem ok_fault {m : Mdl} (o : m.ok) : fault m.words = none := by
  refine (valid_iff _ 1 0).mpr ?_
  have := ok_valid o 0 [] rfl
  rw [List.append_nil] at this
  exact this
/-- two sayings of the same words are the same -/
theorem words_inj : ∀ (a : Mdl), a.ok → ∀ (b : Mdl), b.ok → ∀ r s : List Str, a.words ++ r = b.words ++ s → a = b ∧ r = s
  | .leaf w, o, b, p, r, s, h => by
    cases b with
    | leaf x =>
      have h' : w :: r = x :: s := h
      injection h' with h1 h2
      subst h1; exact ⟨rfl, h2⟩
    | un x m =>
      have h' : w :: r = x :: (m.words ++ s) := h
      injection h' with h1 h2
      subst h1
      have := p.1; rw [show due w = some 0 from o] at this; cases this
    | bi x m k =>
      have h' : w :: r = x :: ((m.words ++ k.words) ++ s) := h
      injection h' with h1 h2
      subst h1
      have := p.1; rw [show due w = some 0 from o] at this; cases this
  | .un w m, o, b, p, r, s, h => by
    cases b with
    | leaf x =>
      have h' : w :: (m.words ++ r) = x :: s := h
      injection h' with h1 h2
      subst h1
      have := o.1; rw [show due w = some 0 from p] at this; cases this
    | un x k =>
      have h' : w :: (m.words ++ r) = x :: (k.words ++ s) := h
      injection h' with h1 h2
      subst h1
      obtain ⟨rfl, rfl⟩ := words_inj m o.2 k p.2 r s h2
      exact ⟨rfl, rfl⟩
    | bi x k l =>
      have h' : w :: (m.words ++ r) = x :: ((k.words ++ l.words) ++ s) := h
      injection h' with h1 h2
      subst h1
      have := o.1; rw [p.1] at this; cases this
  | .bi w m n, o, b, p, r, s, h => by
    cases b with
    | leaf x =>
      have h' : w :: ((m.words ++ n.words) ++ r) = x :: s := h
      injection h' with h1 h2
      subst h1
      have := o.1; rw [show due w = some 0 from p] at this; cases this
    | un x k =>
      have h' : w :: ((m.words ++ n.words) ++ r) = x :: (k.words ++ s) := h
      injection h' with h1 h2
      subst h1
      have := o.1; rw [p.1] at this; cases this
    | bi x k l =>
      have h' : w :: ((m.words ++ n.words) ++ r) = x :: ((k.words ++ l.words) ++ s) := h
      injection h' with h1 h2
      subst h1
      rw [List.append_assoc, List.append_assoc] at h2
      obtain ⟨rfl, h3⟩ := words_inj m o.2.1 k p.2.1 _ _ h2
      obtain ⟨rfl, rfl⟩ := words_inj n o.2.2 l p.2.2 _ _ h3
      exact ⟨rfl, rfl⟩
theorem words_inj0 {a b : Mdl} (o : a.ok) (p : b.ok) (h : a.words = b.words) : a = b := (words_inj a o b p [] [] (by rw [h])).1
end Tm
namespace Tm
open PySem PySem.Spec PyProof.Rows L2
def cM : Nat → Nat
  | 0 => 60
  | d + 1 => 60 + 2 * cM d
def spModel (d : Nat) : Sp := fun vs H Q _ => ∃ (a : Addr) (n : Int) (I : Hp) (N : Nat), vs = [.ref a, .int n] ∧ n = (d : Int) ∧ Same I H ∧ Pen I H a N ∧ N + cM d < MaxN ∧
  ∀ (v : V) (m : Mdl) (I' H' : Hp), m.ok → m.deep ≤ d → MIs I' v m → Go (At1 a) I H I' H' → Pen I' H' a (N + cM d) → Q v H'
theorem words11 : ∀ z ∈ ([("NOT" : Str), "AND", "OR", "NEXT", "UNTIL", "EVER", "ALWAYS", "BEFORE", "SINCE", "ONCE", "SOFAR"] : List Str), z ∈ biW ∨ z ∈ unW := by decide +kernel
theorem dec_int {i j : Int} : decide (V.int i = V.int j) = decide (i = j) := by
  by_cases h : i = j
  · subst h; simp
  · rw [decide_eq_false h, decide_eq_false (fun z => h (V.int.inj z))]
section
variable {P : Program} {w : World} {K : PySem.W.Frag} {mg : Str → Option Value} {base : Heap}
theorem scModel : FnScope ["pen", "deep", "word"] ["pen", "deep"] (defScope sModel) := ⟨rfl, rfl, rfl, by decide +kernel, rfl, by decide +kernel, by decide +kernel⟩
theorem ok_model {f : Addr} {fd : FuncData} (F : Fun K "_law_model" "_law_model" sModel f fd) (b : Binds K fd ["pen", "deep"] []) (mF : mg "_law_model" = some (.ref f)) (cD : C8.Cal P w K mg base 1 "_law_draw" spDraw []) (cP : C8.Cal P w K mg base 2 "_law_pick" spPick []) (cE : C8.Cal P w K mg base 3 "_law_event" spEvent []) :
    ∀ d : Nat, FnOk P w K mg base CX0 (d + 4) f fd ["pen", "deep"] (spModel d) := by
  intro d
  induction d with
  | zero =>
    refine F.ok scModel (fun vs H Q E h => ?_) (fun cdv A outer s H vs Q E hr h => ?_)
    · obtain ⟨a, n, I, N, rfl, _⟩ := h
      rfl
    · obtain ⟨a, n, I, N, rfl, hn, hI, hp, hN, k⟩ := h
      have hN' : N + 60 < MaxN := hN
      have cM' : C8.Cal P w K mg base 1 "_law_model" (fun _ _ _ _ => False) [] := ⟨f, fd, _, _, F.ok scModel (fun vs H Q E h => h.elim) (fun cdv A outer s H vs Q E hr h => h.elim), mF, F.kp, b, .nil⟩
      refine ⟨_, C8.pss_cut (ps_if (PW.pt (pw_or (pt_cmpR op_eq (pv 1) pe_int (nomark _)) (pw_or1 (pt_cmpR op_eq (C8.pe_c cD hr (by omega) rfl (pa_cons (pv 0) (pa_cons pe_int pa_nil))) pe_int (nomark _)))))
          (pss_one (ps_ret (pe_ifExp (pt_cmpR op_gt (C8.pe_c cD hr (by omega) rfl (pa_cons (pv 0) (pa_cons pe_int pa_nil))) pe_int (nomark _)) (pe_lst (pa_cons (C8.pe_c cE hr (by omega) rfl (pa_cons (pv 0) pa_nil)) pa_nil)) (pe_lst (pa_cons pe_str pa_nil))))) pss_nil)
        (pss_cons (ps_set (i := 2) scModel.nd rfl (Or.inl rfl) (C8.pe_c cP hr (by omega) rfl (pa_cons (pv 0) (pa_cons (pe_lst (pa_cons pe_str (pa_cons pe_str (pa_cons pe_str (pa_cons pe_str (pa_cons pe_str (pa_cons pe_str (pa_cons pe_str (pa_cons pe_str (pa_cons pe_str (pa_cons pe_str (pa_cons pe_str pa_nil)))))))))))) pa_nil))))
        (pss_cons (ps_if (pt_cmpR op_in_seq (pv 2) (pe_tup (pa_cons pe_str (pa_cons pe_str (pa_cons pe_str (pa_cons pe_str pa_nil))))) (by rfl))
          (pss_one (ps_ret (pe_lst (pa_cons (pv 2) (pa_cons (C8.pe_c cM' hr (by omega) rfl (pa_cons (pv 0) (pa_cons (pe_op op_sub (pv 1) pe_int) pa_nil))) (pa_cons (C8.pe_c cM' hr (by omega) rfl (pa_cons (pv 0) (pa_cons (pe_op op_sub (pv 1) pe_int) pa_nil))) pa_nil)))))) pss_nil)
        (pss_one (ps_ret (pe_lst (pa_cons (pv 2) (pa_cons (C8.pe_c cM' hr (by omega) rfl (pa_cons (pv 0) (pa_cons (pe_op op_sub (pv 1) pe_int) pa_nil))) pa_nil))))))), ?_⟩
      have leaf : ∀ (I1 H1 : Hp) (z : Str), due z = some 0 → Go (At1 a) I H I1 H1 → Pen I1 H1 a (N + 40) → ∀ p, H1 p = none → Q (.ref p) (upd H1 p (.lst [.str z])) := fun I1 H1 z hz g p1 p hp' =>
        k (.ref p) (.leaf z) (upd I1 p (.lst [.str z])) _ hz (Nat.zero_le _) (.leaf upd_same) (g.trans (Go.new g.sub hp')) ((p1.new g.sub hp').mono (by show N + 40 ≤ N + 60; omega))
      have both : ∀ (I1 H1 : Hp), Go (At1 a) I H I1 H1 → Pen I1 H1 a (N + 1) → (tIf (tTest (tOp (rI0 fun i j => .bl (decide (j < i))) (tCall spDraw [] E0 (tCons (tVar 0) (tCons (tC (.int 7)) tNil))) (tC (.int 0)))) (tLst (tCons (tCall spEvent [] E0 (tCons (tVar 0) tNil)) tNil)) (tLst (tCons (tC (.str "TRUE")) tNil))) [some (.ref a), some (.int n), none] H1 Q := fun I1 H1 g1 p1 => by
        refine ⟨_, rfl, a, 7, I1, N + 1, rfl, g1.sub, p1, by omega, by decide, by decide, fun r I2 H2 r0 r1 g2 p2 => ⟨_, _, rfl, rfl, _, rfl, ite2 (fun _ => ?_) (fun _ => ?_)⟩⟩
        · refine ⟨_, rfl, a, I2, N + 2, rfl, g2.sub, p2, by omega, fun z I3 H3 hz g3 p3 => ⟨(by show 1 ≤ sizeLine; decide), fun p hp' => ?_⟩⟩
          exact leaf I3 H3 z (due_ev hz) ((g1.trans g2).trans g3) (p3.mono (by omega)) p hp'
        · refine ⟨(by show 1 ≤ sizeLine; decide), fun p hp' => ?_⟩
          exact leaf I2 H2 "TRUE" due_true (g1.trans g2) (p2.mono (by omega)) p hp'
      refine ⟨fun σ' H' => False, ?_, fun _ _ z => z.elim⟩
      refine ⟨_, rfl, rfl, _, rfl, ite2 (fun h0 => both I H (Go.refl hI) (hp.mono (by omega))) (fun h0 => absurd (decide_eq_true (show V.int n = V.int 0 by rw [hn]; rfl)) h0)⟩
  | succ d ih =>
    have cM' : C8.Cal P w K mg base (d + 4) "_law_model" (spModel d) [] := ⟨f, fd, _, _, ih, mF, F.kp, b, .nil⟩
    refine F.ok scModel (fun vs H Q E h => ?_) (fun cdv A outer s H vs Q E hr h => ?_)
    · obtain ⟨a, n, I, N, rfl, _⟩ := h
      rfl
    · obtain ⟨a, n, I, N, rfl, hn, hI, hp, hN, k⟩ := h
      have hN' : N + (60 + 2 * cM d) < MaxN := hN
      refine ⟨_, C8.pss_cut (ps_if (PW.pt (pw_or (pt_cmpR op_eq (pv 1) pe_int (nomark _)) (pw_or1 (pt_cmpR op_eq (C8.pe_c cD hr (by omega) rfl (pa_cons (pv 0) (pa_cons pe_int pa_nil))) pe_int (nomark _)))))
          (pss_one (ps_ret (pe_ifExp (pt_cmpR op_gt (C8.pe_c cD hr (by omega) rfl (pa_cons (pv 0) (pa_cons pe_int pa_nil))) pe_int (nomark _)) (pe_lst (pa_cons (C8.pe_c cE hr (by omega) rfl (pa_cons (pv 0) pa_nil)) pa_nil)) (pe_lst (pa_cons pe_str pa_nil))))) pss_nil)
        (pss_cons (ps_set (i := 2) scModel.nd rfl (Or.inl rfl) (C8.pe_c cP hr (by omega) rfl (pa_cons (pv 0) (pa_cons (pe_lst (pa_cons pe_str (pa_cons pe_str (pa_cons pe_str (pa_cons pe_str (pa_cons pe_str (pa_cons pe_str (pa_cons pe_str (pa_cons pe_str (pa_cons pe_str (pa_cons pe_str (pa_cons pe_str pa_nil)))))))))))) pa_nil))))
        (pss_cons (ps_if (pt_cmpR op_in_seq (pv 2) (pe_tup (pa_cons pe_str (pa_cons pe_str (pa_cons pe_str (pa_cons pe_str pa_nil))))) (by rfl))
          (pss_one (ps_ret (pe_lst (pa_cons (pv 2) (pa_cons (C8.pe_c cM' hr (by omega) rfl (pa_cons (pv 0) (pa_cons (pe_op op_sub (pv 1) pe_int) pa_nil))) (pa_cons (C8.pe_c cM' hr (by omega) rfl (pa_cons (pv 0) (pa_cons (pe_op op_sub (pv 1) pe_int) pa_nil))) pa_nil)))))) pss_nil)
        (pss_one (ps_ret (pe_lst (pa_cons (pv 2) (pa_cons (C8.pe_c cM' hr (by omega) rfl (pa_cons (pv 0) (pa_cons (pe_op op_sub (pv 1) pe_int) pa_nil))) pa_nil))))))), ?_⟩
      -- the leaf
      have leaf : ∀ (I1 H1 : Hp) (z : Str), due z = some 0 → Go (At1 a) I H I1 H1 → Pen I1 H1 a (N + 40) → ∀ p, H1 p = none → Q (.ref p) (upd H1 p (.lst [.str z])) := fun I1 H1 z hz g p1 p hp' =>
        k (.ref p) (.leaf z) (upd I1 p (.lst [.str z])) _ hz (Nat.zero_le _) (.leaf upd_same) (g.trans (Go.new g.sub hp')) ((p1.new g.sub hp').mono (by show N + 40 ≤ N + (60 + 2 * cM d); omega))
      have both : ∀ (I1 H1 : Hp), Go (At1 a) I H I1 H1 → Pen I1 H1 a (N + 1) → (tIf (tTest (tOp (rI0 fun i j => .bl (decide (j < i))) (tCall spDraw [] E0 (tCons (tVar 0) (tCons (tC (.int 7)) tNil))) (tC (.int 0)))) (tLst (tCons (tCall spEvent [] E0 (tCons (tVar 0) tNil)) tNil)) (tLst (tCons (tC (.str "TRUE")) tNil))) [some (.ref a), some (.int n), none] H1 Q := fun I1 H1 g1 p1 => by
        refine ⟨_, rfl, a, 7, I1, N + 1, rfl, g1.sub, p1, by omega, by decide, by decide, fun r I2 H2 r0 r1 g2 p2 => ⟨_, _, rfl, rfl, _, rfl, ite2 (fun _ => ?_) (fun _ => ?_)⟩⟩
        · refine ⟨_, rfl, a, I2, N + 2, rfl, g2.sub, p2, by omega, fun z I3 H3 hz g3 p3 => ⟨(by show 1 ≤ sizeLine; decide), fun p hp' => ?_⟩⟩
          exact leaf I3 H3 z (due_ev hz) ((g1.trans g2).trans g3) (p3.mono (by omega)) p hp'
        · refine ⟨(by show 1 ≤ sizeLine; decide), fun p hp' => ?_⟩
          exact leaf I2 H2 "TRUE" due_true (g1.trans g2) (p2.mono (by omega)) p hp'
      refine ⟨fun σ' H' => σ' = [some (.ref a), some (.int n), none] ∧ ∃ I1, Go (At1 a) I H I1 H' ∧ Pen I1 H' a (N + 1), ?_, ?_⟩
      · refine ⟨_, rfl, rfl, _, rfl, ite2 (fun h0 => ?_) (fun _ => ?_)⟩
        · exact absurd (of_decide_eq_true h0) (fun z => by have := V.int.inj z; omega)
        · refine ⟨_, rfl, a, 6, I, N, rfl, hI, hp, by omega, by decide, by decide, fun r I1 H1 r0 r1 g1 p1 => ⟨rfl, _, rfl, ite2 (fun _ => ?_) (fun _ => ?_)⟩⟩
          · exact both I1 H1 g1 p1
          · exact ⟨rfl, I1, g1, p1⟩
      · rintro σ' H' ⟨rfl, I1, g1, p1⟩
        refine ⟨_, rfl, (by show 11 ≤ sizeLine; decide), fun q hq => ?_⟩
        refine ⟨a, q, _, I1, N + 1, rfl, (g1.trans (Go.tmp (S := At1 a) g1.sub hq)).sub, p1.tmp g1.sub hq, by omega, upd_same, p1.ne hq, by decide, by decide, fun v I2 H2 hv g2 p2 => ?_⟩
        obtain ⟨z, rfl, hz⟩ := mem_strs (ws := [("NOT" : Str), "AND", "OR", "NEXT", "UNTIL", "EVER", "ALWAYS", "BEFORE", "SINCE", "ONCE", "SOFAR"]) hv
        have g12 := (g1.trans (Go.tmp (S := At1 a) g1.sub hq)).trans g2
        refine ⟨_, rfl, (by show 4 ≤ sizeLine; decide), fun t ht => ⟨t, biW.map V.str, rfl, .inr (stK upd_same), rfl, flat_strs biW, ?_⟩⟩
        have g3 := g12.trans (Go.tmp (S := At1 a) (o := .tup (biW.map V.str)) g12.sub ht)
        have p3 : Pen I2 (upd H2 t (.tup (biW.map V.str))) a (N + 2) := p2.tmp g12.sub ht
        rw [show (if false = true then !inV (V.str z) (biW.map V.str) else inV (V.str z) (biW.map V.str)) = decide (z ∈ biW) from inV_str z biW]
        have e1 : ∀ n : Int, n = ((d + 1 : Nat) : Int) → n - 1 = (d : Int) := fun n h => by omega
        refine ⟨_, rfl, ite2 (fun hz2 => ?_) (fun hz2 => ?_)⟩
        · refine ⟨_, rfl, _, rfl, _, rfl, _, _, rfl, rfl, a, n - 1, I2, N + 2, rfl, e1 n hn, g3.sub, p3, by omega, fun v1 m1 I3 H3 o1 d1 i1 g4 p4 => ?_⟩
          refine ⟨_, rfl, _, rfl, _, _, rfl, rfl, a, n - 1, I3, N + 2 + cM d, rfl, e1 n hn, g4.sub, p4, by omega, fun v2 m2 I4 H4 o2 d2 i2 g5 p5 => ?_⟩
          refine ⟨(by show 3 ≤ sizeLine; decide), fun p hp' => ?_⟩
          have gg := (g3.trans g4).trans g5
          refine k (.ref p) (.bi z m1 m2) (upd I4 p (.lst [.str z, v1, v2])) _ ⟨due_bi (of_decide_eq_true hz2), o1, o2⟩ (by show max m1.deep m2.deep + 1 ≤ d + 1; omega) ?_ (gg.trans (Go.new gg.sub hp')) ((p5.new gg.sub hp').mono (by show _ ≤ N + (60 + 2 * cM d); omega))
          have gn := Go.new (S := NoS) (o := .lst [.str z, v1, v2]) gg.sub hp'
          exact .bi upd_same ((i1.ext g5.ext).ext gn.ext) (i2.ext gn.ext)
        · have hun : z ∈ unW := (words11 z hz).resolve_left fun h => hz2 (decide_eq_true h)
          refine ⟨_, rfl, _, rfl, _, rfl, _, _, rfl, rfl, a, n - 1, I2, N + 2, rfl, e1 n hn, g3.sub, p3, by omega, fun v1 m1 I3 H3 o1 d1 i1 g4 p4 => ?_⟩
          refine ⟨(by show 2 ≤ sizeLine; decide), fun p hp' => ?_⟩
          have gg := g3.trans g4
          refine k (.ref p) (.un z m1) (upd I3 p (.lst [.str z, v1])) _ ⟨due_un hun, o1⟩ (by show m1.deep + 1 ≤ d + 1; omega) ?_ (gg.trans (Go.new gg.sub hp')) ((p4.new gg.sub hp').mono (by show _ ≤ N + (60 + 2 * cM d); omega))
          have gn := Go.new (S := NoS) (o := .lst [.str z, v1]) gg.sub hp'
          exact .un upd_same (i1.ext gn.ext)
end
end Tm
namespace Tm
open PySem PySem.Spec PyProof.Rows L2
abbrev sIsEvent : Stmt := top 3
abbrev sPartsDue : Stmt := top 14
/-- what kind of value it is; b: a Temporal -/
inductive Kn (C : Addr) (H : Hp) : V → Bool → Prop
  | non : Kn C H .non false
  | bl (b : Bool) : Kn C H (.bl b) false
  | int (i : Int) : Kn C H (.int i) false
  | str (z : Str) (h : z.length ≤ 100000) : Kn C H (.str z) false
  | lst {a : Addr} {xs : List V} (h : H a = some (.lst xs)) : Kn C H (.ref a) false
  | tup {a : Addr} {xs : List V} (h : H a = some (.tup xs)) : Kn C H (.ref a) false
  | dct {a : Addr} {xs : List (Key × V)} (h : H a = some (.dK xs)) : Kn C H (.ref a) false
  | tmp {a dx : Addr} {fs : List (Str × V)} (h : H a = some (.ins C dx fs)) : Kn C H (.ref a) true
theorem Kn.ext {C : Addr} {H H' : Hp} {v : V} {b : Bool} (k : Kn C H v b) (e : Same H H') : Kn C H' v b := by
  cases k with
  | non => exact .non
  | bl b => exact .bl b
  | int i => exact .int i
  | str z h => exact .str z h
  | lst h => exact .lst (e _ _ h)
  | tup h => exact .tup (e _ _ h)
  | dct h => exact .dct (e _ _ h)
  | tmp h => exact .tmp (e _ _ h)
/-- what the text says of the class Temporal -/
structure TC (K : PySem.W.Frag) (mg : Str → Option Value) (C : Addr) : Prop where
  cl : Cls K C
  ha : PySem.W.findIn K (.ref C) "__class__" = some (some (.builtin "object.__class__"))
  hn : PySem.W.specialIn K (.builtin "object.__class__") "__get__" = some (some (.builtin "getset_descriptor.__get__"))
  htk : PySem.W.takesIn K (.builtin "object.__class__") = some true
  hm : PySem.W.mroIn K C (.type "object") = some true
  nW : NoAttr K C "word"
  nP : NoAttr K C "parts"
  nS : NoAttr K C "words"
  kT : PySem.W.kitOne K (.ref C) (.ref C) = some true
  kN : PySem.W.kitOne K (.type "NoneType") (.ref C) = some false
  kB : PySem.W.kitOne K (.type "bool") (.ref C) = some false
  kI : PySem.W.kitOne K (.type "int") (.ref C) = some false
  kS : PySem.W.kitOne K (.type "str") (.ref C) = some false
  kL : PySem.W.kitOne K (.type "list") (.ref C) = some false
  kU : PySem.W.kitOne K (.type "tuple") (.ref C) = some false
  kD : PySem.W.kitOne K (.type "dict") (.ref C) = some false
  cS : PySem.W.kitOne K (.ref C) (.type "str") = some false
  cU : PySem.W.kitOne K (.ref C) (.type "tuple") = some false
  mgC : mg "Temporal" = some (.ref C)
  isi : mg "isinstance" = none
  str : mg "str" = none
  len : mg "len" = none
  all : mg "all" = none
def isStr : V → Bool
  | .str _ => true
  | _ => false
theorem kn_ty {K : PySem.W.Frag} {mg : Str → Option Value} {C : Addr} {H : Hp} {v : V} {b : Bool} (T : TC K mg C) (k : Kn C H v b) : ∃ t, TyX K H v t ∧ PySem.W.kitOne K t (.ref C) = some b ∧ PySem.W.kitOne K t (.type "str") = some (isStr v) := by
  cases k with
  | non => exact ⟨_, .base .non, T.kN, kit_ty (r := false) (by decide +kernel)⟩
  | bl b => exact ⟨_, .base (.bl b), T.kB, kit_ty (r := false) (by decide +kernel)⟩
  | int i => exact ⟨_, .base (.int i), T.kI, kit_ty (r := false) (by decide +kernel)⟩
  | str z _ => exact ⟨_, .base (.str z), T.kS, kit_ty (r := true) (by decide +kernel)⟩
  | lst h => exact ⟨_, .base (.lst h), T.kL, kit_ty (r := false) (by decide +kernel)⟩
  | tup h => exact ⟨_, .base (.tup h), T.kU, kit_ty (r := false) (by decide +kernel)⟩
  | dct h => exact ⟨_, .base (.dK h), T.kD, kit_ty (r := false) (by decide +kernel)⟩
  | tmp h => exact ⟨_, .base (.ins h T.cl T.ha T.hn T.htk T.hm), T.kT, T.cS⟩
def evV : V → Bool
  | .str z => evOk z
  | _ => false
def dueV : V → Option Nat
  | .str z => due z
  | _ => none
def optV : Option Nat → V
  | none => .non
  | some n => .int n
/-- is_event -/
def spIsEvent (C : Addr) : Sp := fun vs H Q _ => ∃ (v : V) (b : Bool), vs = [v] ∧ Kn C H v b ∧ ∀ H', (∀ I, Same I H → Go NoS I H I H') → Q (.bl (evV v)) H'
/-- parts_due, for a value of a known kind -/
def spPartsDue (C : Addr) : Sp := fun vs H Q _ => ∃ (v : V) (b : Bool), vs = [v] ∧ Kn C H v b ∧ ∀ H', (∀ I, Same I H → Go NoS I H I H') → Q (optV (dueV v)) H'
/-- how many parts an operator has -/
def dueOp (z : Str) : Option Nat := if z ∈ biW then some 2 else if z ∈ unW then some 1 else if z = "TRUE" then some 0 else none
theorem due_op (z : Str) : due z = match dueOp z with
    | some n => some n
    | none => if evOk z = true then some 0 else none := by
  unfold due dueOp
  by_cases h1 : z ∈ biW
  · rw [if_pos h1, if_pos h1]
  · rw [if_neg h1, if_neg h1]
    by_cases h2 : z ∈ unW
    · rw [if_pos h2, if_pos h2]
    · rw [if_neg h2, if_neg h2]
      by_cases h3 : z = "TRUE"
      · rw [if_pos (.inl h3), if_pos h3]
      · rw [if_neg h3]
        by_cases h4 : evOk z = true
        · rw [if_pos (.inr h4)]; simp [h4]
        · rw [if_neg (by rintro (h | h); exact h3 h; exact h4 h)]; simp [h4]
/-- the dict MANY_PARTS -/
structure MP (K : PySem.W.Frag) (w : World) (mg : Str → Option Value) (d : Addr) : Prop where
  kd : ∃ es n, KDict K w d es n
  ty : ∃ o, K.lookup d = some o ∧ o.cls = .type "dict"
  at_ : ∀ z, ∃ r, PySem.W.nsIn K d z = some r ∧ match dueOp z with
    | some n => ∃ t, r = some (.int (n : Int) t)
    | none => r = none
  mgd : mg "MANY_PARTS" = some (.ref d)
section
variable {P : Program} {w : World} {K : PySem.W.Frag} {mg : Str → Option Value} {base : Heap}
theorem scIsEvent : FnScope ["value", "sign"] ["value"] (defScope sIsEvent) := ⟨rfl, rfl, rfl, by decide +kernel, rfl, by decide +kernel, by decide +kernel⟩
theorem ok_isEvent {f C : Addr} {fd : FuncData} (F : Fun K "is_event" "is_event" sIsEvent f fd) (T : TC K mg C) (gS : ∃ t, mg "SIGNS" = some (.str signs t)) (gM : ∃ t, mg "MOST_SIGNS" = some (.int 24 t)) : FnOk P w K mg base CX0 1 f fd ["value"] (spIsEvent C) := by
  obtain ⟨tS, gS⟩ := gS
  obtain ⟨tM, gM⟩ := gM
  refine F.ok scIsEvent (fun vs H Q E h => ?_) (fun cdv A outer s H vs Q E hr h => ?_)
  · obtain ⟨v, b, rfl, _⟩ := h
    rfl
  · obtain ⟨v, b, rfl, kn, k⟩ := h
    obtain ⟨t, ty, _, ks⟩ := kn_ty T kn
    refine ⟨_, pss_cons (ps_if (PW.pt (pw_or (pt_not (pt_val (pe_callB call_isi (by rfl) T.isi (by decide +kernel) (pa_cons (pv 0) (pa_cons (pe_bltn (v := .ty "str") rfl T.str (by decide +kernel) rfl) pa_nil)))))
          (pw_or1 (pt_not (pt_chain op_le op_le pe_int (pe_callB call_len (by rfl) T.len PySem.boot_len (pa_cons (pv 0) pa_nil)) (pe_glob (v := .int 24) rfl gM ⟨_, rfl⟩))))))
        (pss_one (ps_ret pe_bl)) pss_nil)
      (pss_one (ps_ret (pe_callB (cr_all rfl) (by rfl) T.all (by decide +kernel) (pa_cons (pe_lc (own := [("sign", 1)]) (g := gName 1) (tt := tYes) rfl scIsEvent.nd (pi_str (pv 0)) (blkOk_by (N := ["value", "sign"]) (sc := defScope sIsEvent) (by decide +kernel))
        (fun _ _ _ _ _ => pg_name (i := 1) scIsEvent.nd rfl (Or.inl rfl)) (fun _ _ _ _ _ => pts_nil) (fun _ _ _ _ _ => pe_cmpR op_in_sign (pv 1) (pe_glob (v := .str signs) rfl gS ⟨_, rfl⟩) (by rfl))) pa_nil)))), ?_⟩
    refine ⟨_, rfl, _, _, t, _, _, rfl, .ty "str", ty, ks, _, rfl, ?_⟩
    cases v with
    | str z =>
      have hz : z.length ≤ 100000 := by cases kn; assumption
      have hz2 : z.length ≤ sizeLine := Nat.le_trans hz (by decide)
      refine ⟨_, rfl, _, z.length, rfl, ⟨hz2, rfl⟩, _, _, rfl, rfl, _, rfl, ?_⟩
      refine ite2 (fun h1 => ?_) (fun h1 => ?_)
      · refine ⟨_, _, rfl, rfl, _, rfl, ?_⟩
        have h1' : (1 : Int) ≤ (z.length : Int) := of_decide_eq_true h1
        by_cases h2 : (z.length : Int) ≤ 24
        · rw [decide_eq_true h2]
          refine iteF ⟨_, rfl, z, rfl, fun D hD => lc_it walk_str (fun i H' => H' = upd H D (.lst ((z.cps.toList.take i).map fun c => V.bl (evC c)))) rfl (fun _ _ _ _ => trivial) ?_ ?_⟩
          · rintro i x H' H'' hi rfl ⟨rfl, c, hc, rfl⟩
            have hcl : z.cps.toList[i]? = some c := by rw [← hc]; simp
            refine ⟨rfl, ?_⟩
            refine ⟨_, rfl, c, signs, rfl, rfl, _, upd_same, ?_, ?_⟩
            · rw [List.length_map, List.length_take]
              exact Nat.lt_of_le_of_lt (Nat.min_le_right _ _) (Nat.lt_of_le_of_lt hz (by decide))
            · rw [upd_upd, List.take_succ, hcl, Option.toList_some, List.map_append]; rfl
          · rintro H' rfl
            refine ⟨D, z.cps.toList.map evC, rfl, sqK (by rw [upd_same]; congr 2; rw [show z.cps.size = z.cps.toList.length by simp, List.take_length, List.map_map]; rfl), ?_⟩
            have e : (z.cps.toList.map evC).all id = evV (.str z) := by
              show _ = (decide (1 ≤ z.length) && decide (z.length ≤ 24) && z.cps.toList.all evC)
              rw [decide_eq_true (show 1 ≤ z.length by omega), decide_eq_true (show z.length ≤ 24 by omega), List.all_map]; rfl
            rw [e]
            exact k _ fun I hI => Go.tmp hI hD
        · rw [decide_eq_false h2]
          refine iteT ?_
          have e : evV (.str z) = false := by
            show (decide (1 ≤ z.length) && decide (z.length ≤ 24) && z.cps.toList.all evC) = false
            rw [decide_eq_false (show ¬ z.length ≤ 24 by omega), Bool.and_false]; rfl
          have := k H fun I hI => Go.refl hI
          rw [e] at this
          exact this
      · have h1' : ¬ (1 : Int) ≤ (z.length : Int) := fun h => h1 (decide_eq_true h)
        refine ⟨_, rfl, iteT ?_⟩
        have e : evV (.str z) = false := by
          show (decide (1 ≤ z.length) && decide (z.length ≤ 24) && z.cps.toList.all evC) = false
          rw [decide_eq_false (show ¬ 1 ≤ z.length by omega)]; rfl
        have := k H fun I hI => Go.refl hI
        rw [e] at this
        exact this
    | _ => exact k H fun I hI => Go.refl hI
theorem scPartsDue : FnScope ["word"] ["word"] (defScope sPartsDue) := ⟨rfl, rfl, rfl, by decide +kernel, rfl, by decide +kernel, by decide +kernel⟩
theorem ok_partsDue {f C d : Addr} {fd : FuncData} (F : Fun K "parts_due" "parts_due" sPartsDue f fd) (T : TC K mg C) (D : MP K w mg d) (cI : C8.Cal P w K mg base 1 "is_event" (spIsEvent C) []) : FnOk P w K mg base CX0 2 f fd ["word"] (spPartsDue C) := by
  obtain ⟨es, n, kd⟩ := D.kd
  refine F.ok scPartsDue (fun vs H Q E h => ?_) (fun cdv A outer s H vs Q E hr h => ?_)
  · obtain ⟨v, b, rfl, _⟩ := h
    rfl
  · obtain ⟨v, b, rfl, kn, k⟩ := h
    obtain ⟨t, ty, _, ks⟩ := kn_ty T kn
    refine ⟨_, pss_cons (ps_if (pt_not (pt_val (pe_callB call_isi (by rfl) T.isi (by decide +kernel) (pa_cons (pv 0) (pa_cons (pe_bltn (v := .ty "str") rfl T.str (by decide +kernel) rfl) pa_nil)))))
        (pss_one (ps_ret pe_non)) pss_nil)
      (pss_cons (ps_if (pt_cmpR (op_in_kd kd) (pv 0) (pe_glob (v := .ref d) rfl D.mgd rfl) (by rfl)) (pss_one (ps_ret (pe_ix ix_kdict (pe_glob (v := .ref d) rfl D.mgd rfl) (pv 0) (fun _ _ => rfl)))) pss_nil)
      (pss_one (ps_ret (pe_ifExp (pt_val (C8.pe_c cI hr (by decide) rfl (pa_cons (pv 0) pa_nil))) pe_int pe_non)))), ?_⟩
    refine ⟨_, rfl, _, _, t, _, _, rfl, .ty "str", ty, ks, _, rfl, ?_⟩
    cases v with
    | str z =>
      obtain ⟨r, e1, e2⟩ := D.at_ z
      have ed := due_op z
      refine ⟨_, rfl, z, r, rfl, rfl, e1, _, rfl, ?_⟩
      cases hop : dueOp z with
      | some m =>
        rw [hop] at e2 ed
        obtain ⟨t, rfl⟩ := e2
        refine iteT ⟨_, rfl, d, z, .int m, rfl, rfl, ?_, ?_⟩
        · exact ⟨es, n, _, kd.at_, kd.lit, e1, t, rfl⟩
        · have := k H fun I hI => Go.refl hI
          rw [show dueV (.str z) = some m from ed] at this
          exact this
      | none =>
        rw [hop] at e2 ed
        subst e2
        refine iteF ⟨_, rfl, .str z, b, rfl, kn, fun H' g => ⟨_, rfl, ?_⟩⟩
        have := k H' g
        rw [show dueV (.str z) = if evOk z = true then some 0 else none from ed] at this
        refine ite2 (fun h => ?_) (fun h => ?_)
        · rw [if_pos (show evOk z = true from h)] at this; exact this
        · rw [if_neg (show ¬ evOk z = true from h)] at this; exact this
    | _ => exact k H fun I hI => Go.refl hI
end
end Tm
/-! own errors: their __init__, raise -/
namespace Tm
open PySem PySem.Spec PyProof.Rows L2
/-- an own error's __init__: it lays its own dict -/
def spErr (C : Addr) (n : Nat) (mk : List V → List (Str × V)) : Sp := fun vs H Q _ => ∃ (a : Addr) (ws : List V), vs = .ref a :: ws ∧ ws.length = n ∧ OexC_at C a H ∧ ∀ d, H d = none → d ≠ a → Q .non (upd (upd H d (exd d (mk ws))) a (exo a C (some d)))
where OexC_at (C a : Addr) (H : Hp) : Prop := H a = some (exo a C none)
/-- an own error class as it stands -/
structure ExF (K : PySem.W.Frag) (mg : Str → Option Value) (x : Str) (C fI : Addr) : Prop where
  oc : OexC K C
  iC : PySem.W.findIn K (.ref C) "__init__" = some (some (.ref fI))
  tI : PySem.W.typeIn K (.ref fI) = some (.type "function")
  mgC : mg x = some (.ref C)
theorem mkO_end {C : Addr} {n : Nat} {mk : List V → List (Str × V)} {vs : List V} {H1 : Hp} {Q : XK} (hn : vs.length = n) (hl : vs.length ≤ 1000) (h : ∀ d, H1 d = none → Q (.ref C) (some d) (upd H1 d (.xd (mk vs)))) :
    vs.length ≤ 1000 ∧ ∀ a, H1 a = none → spErr C n mk (.ref a :: (vs ++ [])) (upd H1 a (exo a C none)) (fun v H2 => v = .non ∧ ∃ (d : Addr) (fs : List (Str × V)), H2 a = some (exo a C (some d)) ∧ H2 d = some (exd d fs) ∧ H1 d = none ∧ Q (.ref C) (some d) (upd (del H2 a) d (.xd fs))) (fun _ _ _ => False) := by
  refine ⟨hl, fun a ha => ⟨a, vs, by rw [List.append_nil], hn, upd_same, fun d hd nda => ⟨rfl, d, mk vs, upd_same, ?_, ?_, ?_⟩⟩⟩
  · rw [upd_ne nda, upd_same]
  · rw [upd_ne nda] at hd; exact hd
  · rw [upd_ne nda] at hd
    have e : upd (del (upd (upd (upd H1 a (exo a C none)) d (exd d (mk vs))) a (exo a C (some d))) a) d (.xd (mk vs)) = upd H1 d (.xd (mk vs)) := by
      funext b
      by_cases hb : b = d
      · rw [hb, upd_same, upd_same]
      · rw [upd_ne hb, upd_ne hb]
        by_cases hba : b = a
        · rw [hba, del_same, ha]
        · rw [del_ne hba, upd_ne hba, upd_ne hb, upd_ne hba]
    rw [e]
    exact h d hd
abbrev sBT : Stmt := inClass (top 6) 0
abbrev sBX : Stmt := inClass (top 7) 0
abbrev sTM : Stmt := inClass (top 8) 0
def mk1 (f : Str) : List V → List (Str × V)
  | [v] => [(f, v)]
  | _ => []
def mk2 (f g : Str) : List V → List (Str × V)
  | [v, u] => [(g, u), (f, v)]
  | _ => []
section
variable {P : Program} {w : World} {K : PySem.W.Frag} {mg : Str → Option Value} {base : Heap}
theorem scBT : FnScope ["self", "part"] ["self", "part"] (defScope sBT) := ⟨rfl, rfl, rfl, by decide +kernel, rfl, by decide +kernel, by decide +kernel⟩
theorem scBX : FnScope ["self", "line", "word"] ["self", "line", "word"] (defScope sBX) := ⟨rfl, rfl, rfl, by decide +kernel, rfl, by decide +kernel, by decide +kernel⟩
theorem scTM : FnScope ["self", "what", "most"] ["self", "what", "most"] (defScope sTM) := ⟨rfl, rfl, rfl, by decide +kernel, rfl, by decide +kernel, by decide +kernel⟩
theorem ok_BT {f C : Addr} {fd : FuncData} (F : Fun K "__init__" "BadTemporal.__init__" sBT f fd) (oc : OexC K C) (n1 : PySem.W.findIn K (.ref C) "part" = some none) : FnOk P w K mg base CX0 1 f fd ["self", "part"] (spErr C 1 (mk1 "part")) := by
  refine F.ok scBT (fun vs H Q E h => ?_) (fun cdv A outer s H vs Q E hr h => ?_)
  · obtain ⟨a, ws, rfl, hl, _⟩ := h
    rw [List.length_cons, hl]; rfl
  · obtain ⟨a, ws, rfl, hl, ha, k⟩ := h
    obtain ⟨v, rfl⟩ : ∃ v, ws = [v] := by
      match ws, hl with
      | [v], _ => exact ⟨v, rfl⟩
    refine ⟨_, pss_one (ps_ost (pv 0) (pv 1)), ?_⟩
    exact ⟨_, rfl, _, rfl, a, C, rfl, oc, n1, .inl ⟨ha, fun d hd nda => k d hd nda⟩⟩
theorem two_stores {H : Hp} {a C d : Addr} {f g : Str} {u v : V} (nda : d ≠ a) : upd (upd (upd H d (exd d [(f, v)])) a (exo a C (some d))) d (exd d ((g, u) :: [(f, v)])) = upd (upd H d (exd d [(g, u), (f, v)])) a (exo a C (some d)) := by
  funext b
  by_cases hb : b = d
  · subst hb; rw [upd_same, upd_ne nda, upd_same]
  · rw [upd_ne hb]
    by_cases hba : b = a
    · subst hba; rw [upd_same, upd_same]
    · rw [upd_ne hba, upd_ne hb, upd_ne hba, upd_ne hb]
theorem ok_BX {f C : Addr} {fd : FuncData} (F : Fun K "__init__" "BadText.__init__" sBX f fd) (oc : OexC K C) (n1 : PySem.W.findIn K (.ref C) "line" = some none) (n2 : PySem.W.findIn K (.ref C) "word" = some none) : FnOk P w K mg base CX0 1 f fd ["self", "line", "word"] (spErr C 2 (mk2 "line" "word")) := by
  refine F.ok scBX (fun vs H Q E h => ?_) (fun cdv A outer s H vs Q E hr h => ?_)
  · obtain ⟨a, ws, rfl, hl, _⟩ := h
    rw [List.length_cons, hl]; rfl
  · obtain ⟨a, ws, rfl, hl, ha, k⟩ := h
    obtain ⟨v, u, rfl⟩ : ∃ v u, ws = [v, u] := by
      match ws, hl with
      | [v, u], _ => exact ⟨v, u, rfl⟩
    refine ⟨_, pss_cons (ps_ost (pv 0) (pv 1)) (pss_one (ps_ost (pv 0) (pv 2))), ?_⟩
    refine ⟨_, rfl, _, rfl, a, C, rfl, oc, n1, .inl ⟨ha, fun d hd nda => ?_⟩⟩
    refine ⟨_, rfl, _, rfl, a, C, rfl, oc, n2, .inr ⟨d, [("line", v)], upd_same, ?_, ?_, ?_⟩⟩
    · rw [upd_ne nda, upd_same]
    · show 1 ≤ 900; decide
    · rw [two_stores nda]; exact k d hd nda
theorem ok_TM {f C : Addr} {fd : FuncData} (F : Fun K "__init__" "TooMany.__init__" sTM f fd) (oc : OexC K C) (n1 : PySem.W.findIn K (.ref C) "what" = some none) (n2 : PySem.W.findIn K (.ref C) "most" = some none) : FnOk P w K mg base CX0 1 f fd ["self", "what", "most"] (spErr C 2 (mk2 "what" "most")) := by
  refine F.ok scTM (fun vs H Q E h => ?_) (fun cdv A outer s H vs Q E hr h => ?_)
  · obtain ⟨a, ws, rfl, hl, _⟩ := h
    rw [List.length_cons, hl]; rfl
  · obtain ⟨a, ws, rfl, hl, ha, k⟩ := h
    obtain ⟨v, u, rfl⟩ : ∃ v u, ws = [v, u] := by
      match ws, hl with
      | [v, u], _ => exact ⟨v, u, rfl⟩
    refine ⟨_, pss_cons (ps_ost (pv 0) (pv 1)) (pss_one (ps_ost (pv 0) (pv 2))), ?_⟩
    refine ⟨_, rfl, _, rfl, a, C, rfl, oc, n1, .inl ⟨ha, fun d hd nda => ?_⟩⟩
    refine ⟨_, rfl, _, rfl, a, C, rfl, oc, n2, .inr ⟨d, [("what", v)], upd_same, ?_, ?_, ?_⟩⟩
    · rw [upd_ne nda, upd_same]
    · show 1 ≤ 900; decide
    · rw [two_stores nda]; exact k d hd nda
end
/-- an own error as it is raised -/
structure Err (P : Program) (w : World) (K : PySem.W.Frag) (mg : Str → Option Value) (base : Heap) (x : Str) (C : Addr) (n : Nat) (mk : List V → List (Str × V)) : Prop where
  ex : ∃ (fI : Addr) (fd : FuncData) (ps : List Str), ExF K mg x C fI ∧ FnOk P w K mg base CX0 1 fI fd ps (spErr C n mk) ∧ Binds K fd ps []
theorem pmk_err {X : Cx} {k : Nat} {x : Str} {C : Addr} {n : Nat} {mk : List V → List (Str × V)} {e : Expr} {es : List Expr} {ta : TA} {p pos : Pos} (c : Err X.prog X.w X.K X.mg X.base x C n mk) (hr : Room k X.A) (hk : 2 ≤ k) (hg : Gl X x) (ha : PA X (e :: es) ta)
    (hdb : (x == ("__debug__" : Str)) = false := by decide) (he : starEach (e :: es) X.env = (false, eval e X.env) :: starEach es X.env := by rfl) (hpl : (backTo pos (starEach es X.env)).any (·.1) = false := by rfl) :
    PMk X (.Call (.Name x p) (e :: es) [] pos) (tMkO C (spErr C n mk) [] ta) := by
  obtain ⟨fI, fd, ps, F, G, b⟩ := c.ex
  exact pmk_oex F.oc F.iC F.tI G (hr.mono hk) b .nil pass0 hg F.mgC ha hdb he hpl
/-- raise X(..) -/
theorem ps_err {X : Cx} {k : Nat} {x : Str} {C : Addr} {n : Nat} {mk : List V → List (Str × V)} {e : Expr} {es : List Expr} {ta : TA} {p pos pos2 : Pos} {W : WX} (hc : X.calm = true) (tk : Takes X W) (c : Err X.prog X.w X.K X.mg X.base x C n mk) (hr : Room k X.A) (hk : 2 ≤ k) (hg : Gl X x) (ha : PA X (e :: es) ta)
    (hdb : (x == ("__debug__" : Str)) = false := by decide) (he : starEach (e :: es) X.env = (false, eval e X.env) :: starEach es X.env := by rfl) (hpl : (backTo pos (starEach es X.env)).any (·.1) = false := by rfl) :
    PS X (.Raise (some (.Call (.Name x p) (e :: es) [] pos)) none pos2) (fun _ σ H => tMkO C (spErr C n mk) [] ta σ H fun cls d H' => W cls d σ H') := ps_raise hc tk (pmk_err c hr hk hg ha hdb he hpl)
end Tm
/-! Temporal.__init__ -/
namespace Tm
open PySem PySem.Spec PyProof.Rows L2
abbrev sTInit : Stmt := inClass (top 15) 0
def tF (z : Str) (pa wa : Addr) : List (Str × V) := putF "words" (.ref wa) (putF "parts" (.ref pa) (putF "word" (.str z) []))
theorem tF_word (z : Str) (pa wa : Addr) : (tF z pa wa).lookup ("word" : Str) = some (.str z) := by
  unfold tF; rw [lookup_putF, if_neg (by decide +kernel), lookup_putF, if_neg (by decide +kernel), lookup_putF, if_pos rfl]
theorem tF_parts (z : Str) (pa wa : Addr) : (tF z pa wa).lookup ("parts" : Str) = some (.ref pa) := by
  unfold tF; rw [lookup_putF, if_neg (by decide +kernel), lookup_putF, if_pos rfl]
theorem tF_words (z : Str) (pa wa : Addr) : (tF z pa wa).lookup ("words" : Str) = some (.ref wa) := by
  unfold tF; rw [lookup_putF, if_pos rfl]
/-- a saying of the package -/
inductive TIs (C : Addr) (I : Hp) : V → Mdl → Prop
  | mk {a dx pa wa : Addr} {m : Mdl} {vs : List V} : I a = some (.ins C dx (tF m.head pa wa)) → I pa = some (.tup vs) → I wa = some (.tup (m.words.map V.str)) → vs.length = m.kids.length →
      (∀ (i : Nat) x k, vs[i]? = some x → m.kids[i]? = some k → TIs C I x k) → TIs C I (.ref a) m
theorem TIs.ext {C : Addr} {I I' : Hp} {v : V} {m : Mdl} (h : TIs C I v m) (e : Same I I') : TIs C I' v m := by
  induction h with
  | mk h1 h2 h3 h4 _ ih => exact .mk (e _ _ h1) (e _ _ h2) (e _ _ h3) h4 ih
theorem TIs.kn {C : Addr} {I : Hp} {v : V} {m : Mdl} (h : TIs C I v m) : Kn C I v true := by
  cases h with
  | mk h1 _ _ _ _ => exact .tmp h1
/-- an error of a class with certain fields leaves -/
def Leaves (S : Addr → Prop) (I H : Hp) (C : Addr) (fs : List (Str × V)) (E : XK) : Prop := ∀ (d : Addr) (I' H' : Hp), Go S I H I' H' → I' d = none → H' d = some (.xd fs) → E (.ref C) (some d) H'
theorem Leaves.go {S : Addr → Prop} {I H I1 H1 : Hp} {C : Addr} {fs : List (Str × V)} {E : XK} (l : Leaves S I H C fs E) (g : Go S I H I1 H1) : Leaves S I1 H1 C fs E := fun d I' H' g' => l d I' H' (g.trans g')
/-- the error at its raise -/
theorem Leaves.out {S : Addr → Prop} {I H : Hp} {C : Addr} {fs : List (Str × V)} {E : XK} (l : Leaves S I H C fs E) (hs : Same I H) {d : Addr} (hd : H d = none) : E (.ref C) (some d) (upd H d (.xd fs)) :=
  l d I _ (Go.tmp hs hd) (hs.free hd) upd_same
abbrev fsBT (t : Str) : List (Str × V) := [("part", .str t)]
abbrev fsTM : List (Str × V) := [("most", .int 40), ("what", .str "words")]
def spTInit (C BT TM : Addr) : Sp := fun vs H Q E => ∃ (x dx : Addr) (v : V) (bv : Bool) (ps : List V) (bs : List Bool) (I : Hp), vs = .ref x :: v :: ps ∧ Same I H ∧ I x = none ∧ H x = some (.ins C dx []) ∧ ps.length ≤ 1000 ∧ Kn C I v bv ∧
  bs.length = ps.length ∧ (∀ (i : Nat) p b, ps[i]? = some p → bs[i]? = some b → Kn C I p b) ∧
  (dueV v = none → Leaves (At1 x) I H BT (fsBT "word") E) ∧
  (∀ n, dueV v = some n → ps.length ≠ n ∨ bs.all id = false → Leaves (At1 x) I H BT (fsBT "parts") E) ∧
  (∀ n, dueV v = some n → ps.length = n → bs.all id = true → ∃ m : Mdl, v = .str m.head ∧ m.kids.length = ps.length ∧ m.words.length ≤ 1000 ∧ (∀ (i : Nat) p k, ps[i]? = some p → m.kids[i]? = some k → TIs C I p k) ∧
    (40 < m.words.length → Leaves (At1 x) I H TM fsTM E) ∧
    (m.words.length ≤ 40 → ∀ (pa wa : Addr) (I' H' : Hp), Go (At1 x) I H I' H' → I' x = none → H' x = some (.ins C dx (tF m.head pa wa)) → I' pa = some (.tup ps) → I' wa = some (.tup (m.words.map V.str)) → Q .non H'))
section
variable {P : Program} {w : World} {K : PySem.W.Frag} {mg : Str → Option Value} {base : Heap}
theorem scTInit : FnScope ["self", "word", "parts", "due", "part", "told"] ["self", "word", "parts"] (defScope sTInit) := ⟨rfl, rfl, rfl, by decide +kernel, rfl, by decide +kernel, by decide +kernel⟩
/-- within: the parts in their tuple -/
def spTIn (C BT TM : Addr) : Sp := fun vs H Q E => ∃ (x : Addr) (v : V) (ps : List V) (H0 : Hp) (p : Addr), vs = [.ref x, v, .ref p] ∧ H0 p = none ∧ H = upd H0 p (.tup ps) ∧ spTInit C BT TM (.ref x :: v :: ps) H0 Q E
theorem body_tinit {f C BT TM : Addr} (T : TC K mg C) (cD : C8.Cal P w K mg base 2 "parts_due" (spPartsDue C) []) (eB : Err P w K mg base "BadTemporal" BT 1 (mk1 "part")) (eM : Err P w K mg base "TooMany" TM 2 (mk2 "what" "most"))
    (gM : ∃ t, mg "MOST_WORDS" = some (.int 40 t)) (cdv : Value) (A : Around) (outer : List Env) (s : Shared) (H : Hp) (vs : List V) (Q : VK) (E : XK) (hr : Room 2 (A.deeper (envOfC "Temporal.__init__" (defScope sTInit) s.heap.objs.size f cdv))) (h : spTIn C BT TM vs H Q E) :
    ∃ t, PSs (cxOf (L2.CX P w) P w K mg base ["self", "word", "parts", "due", "part", "told"] "Temporal.__init__" (defScope sTInit) f cdv A outer s H E) (defBody sTInit) t ∧ t { nx := fun _ H' => Q .non H', rt := Q } (start ["self", "word", "parts", "due", "part", "told"] vs) H := by
  obtain ⟨tM, gM⟩ := gM
  obtain ⟨x, v, ps, H0, p, rfl, hp, rfl, x', dx, v', bv, ps', bs, I, e, hI, hx, ex, hl, kv, hb, kb, k1, k2, k3⟩ := h
  cases e
  refine ⟨_, pss_cons (ps_set (i := 3) scTInit.nd rfl (Or.inl rfl) (C8.pe_c cD hr (by decide) rfl (pa_cons (pv 1) pa_nil)))
    (pss_cons (ps_if (pt_cmpR op_isN (pv 3) pe_non (nomark _)) (pss_one (ps_err rfl (takes_of rfl rfl rfl rfl) eB hr (by decide) rfl (pa_cons pe_str pa_nil))) pss_nil)
    (pss_cons (ps_if (PW.pt (pw_or (pt_cmpR op_ne (pe_callB call_len (by rfl) T.len PySem.boot_len (pa_cons (pv 2) pa_nil)) (pv 3) (nomark _))
        (pw_or1 (pt_not (pt_val (pe_callB (cr_all rfl) (by rfl) T.all (by decide +kernel) (pa_cons (pe_lc (own := [("part", 4)]) (g := gName 4) (tt := tYes) rfl scTInit.nd (pi_tupK K (pv 2)) (blkOk_by (N := ["self", "word", "parts", "due", "part", "told"]) (sc := defScope sTInit) (by decide +kernel))
          (fun _ _ _ _ _ => pg_name (i := 4) scTInit.nd rfl (Or.inl rfl)) (fun _ _ _ _ _ => pts_nil) (fun _ _ _ _ _ => by exact pe_callB (call_isiK' K) (by rfl) T.isi boot_isi (pa_cons (pv 4) (pa_cons (pe_glob (v := .ref C) rfl T.mgC rfl) pa_nil)))) pa_nil)))))))
        (pss_one (ps_err rfl (takes_of rfl rfl rfl rfl) eB hr (by decide) rfl (pa_cons pe_str pa_nil))) pss_nil)
    (pss_cons (ps_fld (pv 0) (pv 1) rfl)
    (pss_cons (ps_fld (pv 0) (pv 2) rfl)
    (pss_cons (ps_fld (pv 0) (pe_tup (pa_cons (pv 1) (StX.pa_star (pe_lc2 (own := [("part", 4), ("told", 5)]) (vs1 := [5]) (g := gName 4) (tt := tYes) (g1 := gName 5) (tt1 := tYes) rfl scTInit.nd (pi_tupK K (pv 2)) (blkOk_by (N := ["self", "word", "parts", "due", "part", "told"]) (sc := defScope sTInit) (by decide +kernel)) (by decide)
          (fun _ _ _ _ _ => pg_name (i := 4) scTInit.nd rfl (Or.inl rfl)) (fun _ _ _ _ _ => pts_nil) (fun _ _ _ _ _ => by exact pi_tupK K (pe_fldK K (pv 4))) (fun _ _ _ _ _ => pg_name (i := 5) scTInit.nd rfl (Or.inl rfl)) (fun _ _ _ _ _ => pts_nil) (fun _ _ _ _ _ => pv 5)) pa_nil))) rfl)
    (pss_one (ps_if (pt_cmpR op_gt (pe_callB call_len (by rfl) T.len PySem.boot_len (pa_cons (pe_fld (pv 0) rfl) pa_nil)) (pe_glob (v := .int 40) rfl gM ⟨_, rfl⟩) (nomark _)) (pss_one (ps_err rfl (takes_of rfl rfl rfl rfl) eM hr (by decide) rfl (pa_cons pe_str (pa_cons (pe_glob (v := .int 40) rfl gM ⟨_, rfl⟩) pa_nil)))) pss_nil))))))), ?_⟩
  have hIp : I p = none := hI.free hp
  have g0 : Go (At1 x) I H0 (upd I p (.tup ps)) (upd H0 p (.tup ps)) := Go.new hI hp
  have npx : x ≠ p := ne_of_none ex hp
  refine ⟨_, rfl, v, bv, rfl, (kv.ext hI).ext (Go.tmp (S := NoS) (I := H0) (Same.refl _) hp).same_all, fun H1 gn => ?_⟩
  have g1 : Go (At1 x) I H0 (upd I p (.tup ps)) H1 := g0.trans ((gn _ g0.sub).any)
  have ex1 : H1 x = some (.ins C dx []) := (gn (fun _ => none) (fun _ _ z => nomatch z)).same x _ id (by rw [upd_ne npx]; exact ex)
  have ip : upd I p (.tup ps) p = some (.tup ps) := upd_same
  -- due is None
  refine ⟨_, rfl, rfl, _, rfl, ?_⟩
  cases hd : dueV v with
  | none => exact iteT (mkO_end rfl (by decide) fun d hdd => ((k1 hd).go g1).out g1.sub hdd)
  | some n =>
    refine iteF ?_
    refine ⟨_, rfl, _, ps.length, rfl, .inr ⟨ps, stK (g1.sub _ _ ip), rfl⟩, _, rfl, rfl, _, rfl, ite2 (fun hne => ?_) (fun heq => ?_)⟩
    · refine mkO_end rfl (by decide) fun d hdd => ((k2 n hd (.inl fun z => ?_)).go g1).out g1.sub hdd
      rw [z] at hne
      exact absurd (show (!decide (V.int (n : Int) = V.int (n : Int))) = true from hne) (by simp)
    · have hln : ps.length = n := by
        by_cases z : ps.length = n
        · exact z
        · exact absurd (show (!decide (V.int (ps.length : Int) = V.int (n : Int))) = true by rw [decide_eq_false (fun q => z (by have := V.int.inj q; omega))]; rfl) heq
      refine ⟨_, rfl, p, rfl, ⟨_, stK (g1.sub _ _ ip)⟩, fun D hD => lc_it (walk_tup (K := K) (xs := ps)) (fun i H' => H' = upd H1 D (.lst ((bs.take i).map V.bl))) rfl (fun i H' _ e => by
        subst e
        exact stK (by rw [upd_ne (ne_of_none (g1.sub _ _ ip) hD)]; exact g1.sub _ _ ip)) ?_ ?_⟩
      · rintro i y H' H'' hi rfl ⟨rfl, hy⟩
        have hib : i < bs.length := by omega
        have ky := (kb i y bs[i] hy (List.getElem?_eq_getElem hib)).ext (Same.trans (fun b o e => g1.sub _ _ (g0.ext _ _ e)) (Go.tmp (S := NoS) (I := H1) (o := .lst ((bs.take i).map V.bl)) (Same.refl _) hD).same_all)
        obtain ⟨t, ty, kt, _⟩ := kn_ty T ky
        refine ⟨rfl, _, rfl, _, _, t, _, _, rfl, .own C, ty, kt, _, upd_same, ?_, ?_⟩
        · rw [List.length_map, List.length_take]
          exact Nat.lt_of_le_of_lt (Nat.min_le_right _ _) (Nat.lt_of_le_of_lt (show bs.length ≤ 1000 by omega) (by decide))
        · rw [upd_upd, List.take_succ, List.getElem?_eq_getElem hib, Option.toList_some, List.map_append]; rfl
      · rintro H' rfl
        have e1 : bs.take ps.length = bs := by rw [← hb, List.take_length]
        have g2 : Go (At1 x) I H0 (upd I p (.tup ps)) (upd H1 D (.lst ((bs.take ps.length).map V.bl))) := g1.trans (Go.tmp g1.sub hD)
        refine ⟨D, bs, rfl, sqK (by rw [upd_same, e1]), _, rfl, ite2 (fun hbad => ?_) (fun hgood => ?_)⟩
        · refine mkO_end rfl (by decide) fun d hdd => ((k2 n hd (.inr ?_)).go g2).out g2.sub hdd
          cases e : bs.all id with
          | false => rfl
          | true => rw [e] at hbad; exact absurd hbad (by decide)
        · have hall : bs.all id = true := by
            cases e : bs.all id with
            | true => rfl
            | false => rw [e] at hgood; exact absurd rfl hgood
          obtain ⟨m, rfl, hml, hmw, kok, kbig, kfin⟩ := k3 n hd hln hall
          have nxD : x ≠ D := ne_of_none ex1 hD
          have ex2 : (upd H1 D (.lst ((bs.take ps.length).map V.bl))) x = some (.ins C dx []) := by rw [upd_ne nxD]; exact ex1
          generalize hH2 : upd H1 D (.lst ((bs.take ps.length).map V.bl)) = H2 at *
          have hxI : upd I p (.tup ps) x = none := by rw [upd_ne npx]; exact hx
          refine ⟨_, rfl, _, rfl, x, C, dx, [], rfl, ex2, T.cl, T.nW, (by show 0 < 1000; decide), ?_⟩
          have g3 := g2.trans (Go.put (o := .ins C dx (putF "word" (.str m.head) [])) g2.sub hxI (show At1 x x from rfl) ex2)
          refine ⟨_, rfl, _, rfl, x, C, dx, _, rfl, upd_same, T.cl, T.nP, (by show 1 < 1000; decide), ?_⟩
          rw [upd_upd]
          have g4 := g2.trans (Go.put (o := .ins C dx (putF "parts" (.ref p) (putF "word" (.str m.head) []))) g2.sub hxI (show At1 x x from rfl) ex2)
          generalize hH4 : upd H2 x (.ins C dx (putF "parts" (.ref p) (putF "word" (.str m.head) []))) = H4 at *
          have ex4 : H4 x = some (.ins C dx (putF "parts" (.ref p) (putF "word" (.str m.head) []))) := by rw [← hH4]; exact upd_same
          have ip4 : H4 p = some (.tup ps) := g4.sub _ _ ip
          have kok4 : ∀ (i : Nat) y k, ps[i]? = some y → m.kids[i]? = some k → TIs C H4 y k := fun i y k h1 h2 => (kok i y k h1 h2).ext fun b o e => g4.sub _ _ (g0.ext _ _ e)
          have mw : m.words = m.head :: (m.kids.map Mdl.words).flatten := m.kids_words
          have mfl : (m.kids.map Mdl.words).flatten.length ≤ 999 := by rw [mw, List.length_cons] at hmw; omega
          refine ⟨_, rfl, _, rfl, p, rfl, ⟨_, stK ip4⟩, fun D2 hD2 => lc2_out (walk_tup (K := K) (xs := ps)) (fun i H' => H' = upd H4 D2 (.lst (((m.kids.take i).map Mdl.words).flatten.map V.str))) rfl (fun i H' _ e => by
            subst e
            exact stK (by rw [upd_ne (ne_of_none ip4 hD2)]; exact ip4)) ?_ ?_⟩
          · rintro i y H' H'' hi rfl ⟨rfl, hy⟩
            have hik : i < m.kids.length := by omega
            have hk := List.getElem?_eq_getElem hik
            generalize m.kids[i] = kd at hk
            obtain ⟨a', dx', pa', wa', vs', q1, q2, q3, _, _, rfl⟩ : ∃ a' dx' pa' wa' vs', H4 a' = some (.ins C dx' (tF kd.head pa' wa')) ∧ H4 pa' = some (.tup vs') ∧ H4 wa' = some (.tup (kd.words.map V.str)) ∧ True ∧ True ∧ y = .ref a' := by
              cases kok4 i y kd hy hk with
              | mk q1 q2 q3 _ _ => exact ⟨_, _, _, _, _, q1, q2, q3, trivial, trivial, rfl⟩
            have na' : a' ≠ D2 := ne_of_none q1 hD2
            have nw' : wa' ≠ D2 := ne_of_none q3 hD2
            refine ⟨rfl, _, rfl, a', C, dx', _, .ref wa', rfl, (by rw [upd_ne na']; exact q1), T.cl, T.nS, tF_words _ _ _, wa', rfl, ⟨_, stK (by rw [upd_ne nw']; exact q3)⟩, ?_⟩
            refine lc_in (walk_tup (K := K) (xs := kd.words.map V.str)) (fun j H' => H' = upd H4 D2 (.lst ((((m.kids.take i).map Mdl.words).flatten ++ kd.words.take j).map V.str))) (by rw [List.take_zero, List.append_nil]) (fun j H' _ e => by
              subst e
              exact stK (by rw [upd_ne nw']; exact q3)) ?_ ?_
            · rintro j y H' H'' hj rfl ⟨rfl, hy2⟩
              rw [List.getElem?_map] at hy2
              obtain ⟨z, hz, rfl⟩ := Option.map_eq_some_iff.mp hy2
              refine ⟨rfl, _, rfl, _, upd_same, ?_, ?_⟩
              · have h1 := Mdl.flat_take hk
                have h2 := Mdl.flat_le m.kids (i + 1)
                rw [h1, List.length_append] at h2
                rw [List.length_map, List.length_append, List.length_take]
                exact Nat.lt_of_le_of_lt (show _ ≤ 999 by omega) (by decide)
              · rw [upd_upd, List.take_succ, hz, Option.toList_some, List.map_append, List.map_append, List.map_append, List.append_assoc]; rfl
            · rintro H' rfl
              show _ = _
              rw [Mdl.flat_take hk, List.length_map, List.take_length]
          · rintro H' rfl
            have hfull : m.kids.take ps.length = m.kids := by rw [← hml, List.take_length]
            refine ⟨D2, _, rfl, .inr (sqK upd_same), ?_, ?_⟩
            · rw [hfull, List.append_nil]
              show _ + 1 ≤ sizeLine
              rw [List.length_map]
              exact Nat.le_trans (show _ ≤ 1000 by omega) (by decide)
            · intro q hq
              have e5 : (.str m.head :: (((m.kids.take ps.length).map Mdl.words).flatten.map V.str ++ []) : List V) = m.words.map V.str := by rw [hfull, List.append_nil, mw]; rfl
              have g5 := g4.trans (Go.tmp (o := .lst (((m.kids.take ps.length).map Mdl.words).flatten.map V.str)) g4.sub hD2)
              have g6 := g5.trans (Go.new (o := .tup (m.words.map V.str)) g5.sub hq)
              have nqx : x ≠ q := by
                intro z
                rw [← z, upd_ne (ne_of_none ex4 hD2), ex4] at hq; cases hq
              rw [e5]
              have ex6 : (upd (upd H4 D2 (.lst (((m.kids.take ps.length).map Mdl.words).flatten.map V.str))) q (.tup (m.words.map V.str))) x = some (.ins C dx (putF "parts" (.ref p) (putF "word" (.str m.head) []))) := by
                rw [upd_ne nqx, upd_ne (ne_of_none ex4 hD2)]; exact ex4
              have hxI6 : upd (upd I p (.tup ps)) q (.tup (m.words.map V.str)) x = none := by rw [upd_ne nqx]; exact hxI
              have iq : upd (upd I p (.tup ps)) q (.tup (m.words.map V.str)) q = some (.tup (m.words.map V.str)) := upd_same
              have nqp : p ≠ q := by
                intro z
                rw [← z, upd_ne (ne_of_none ip4 hD2), ip4] at hq; cases hq
              have ip6 : upd (upd I p (.tup ps)) q (.tup (m.words.map V.str)) p = some (.tup ps) := by rw [upd_ne nqp]; exact ip
              generalize upd (upd I p (.tup ps)) q (.tup (m.words.map V.str)) = I6 at *
              generalize upd (upd H4 D2 (.lst (((m.kids.take ps.length).map Mdl.words).flatten.map V.str))) q (.tup (m.words.map V.str)) = H6 at *
              refine ⟨_, rfl, x, C, dx, _, rfl, ex6, T.cl, T.nS, (by show 2 < 1000; decide), ?_⟩
              have g7 := g6.trans (Go.put (o := .ins C dx (tF m.head p q)) g6.sub hxI6 (show At1 x x from rfl) ex6)
              -- if len(self.words) > 40
              refine ⟨_, rfl, x, C, dx, _, _, rfl, upd_same, T.cl, T.nS, tF_words m.head p q, _, m.words.length, rfl, .inr ⟨_, stK (g7.sub _ _ iq), by rw [List.length_map]⟩, _, _, rfl, rfl, _, rfl, ite2 (fun hbig => ?_) (fun hsm => ?_)⟩
              · have hb40 : 40 < m.words.length := by have := of_decide_eq_true hbig; omega
                exact mkO_end rfl (by decide) fun d hdd => ((kbig hb40).go g7).out g7.sub hdd
              · have hb40 : m.words.length ≤ 40 := by
                  by_cases z : m.words.length ≤ 40
                  · exact z
                  · exact absurd (decide_eq_true (show (40 : Int) < (m.words.length : Int) by omega)) hsm
                exact kfin hb40 p q I6 _ g7 hxI6 upd_same ip6 iq
theorem ok_tinit {f C BT TM : Addr} {fd : FuncData} (F : Fun K "__init__" "Temporal.__init__" sTInit f fd) (T : TC K mg C) (cD : C8.Cal P w K mg base 2 "parts_due" (spPartsDue C) []) (eB : Err P w K mg base "BadTemporal" BT 1 (mk1 "part")) (eM : Err P w K mg base "TooMany" TM 2 (mk2 "what" "most"))
    (gM : ∃ t, mg "MOST_WORDS" = some (.int 40 t)) : FnR P w K mg base (L2.CX P w) 3 f (spTInit C BT TM) := by
  obtain ⟨oc, od, kV, doc, pm, an, cdv, ct, osl, rfl, lk, hcd⟩ := F.ex
  have R := StX.fn_star (P := P) (w := w) (mg := mg) (base := base) (ps := ["self", "word"]) (pv := "parts") (k := 2) (CX := L2.CX P w) lk hcd scTInit StX.cxUp (StX.bind_star2 (B := fun l => bindArgs _ ⟨l, []⟩) (fun _ _ => rfl) (fun _ _ _ _ => rfl))
    (sp := spTIn C BT TM) (fun A outer s H vs Q E hr h => body_tinit T cD eB eM gM cdv A outer s H vs Q E hr h)
  intro A outer s H us vs Q E hr e0 r hsp
  obtain ⟨x, dx, v, bv, ps, bs, I, rfl, h0⟩ := id hsp
  exact R A outer s H us _ Q E hr e0 r ⟨[.ref x, v], ps, rfl, rfl, Nat.le_trans h0.2.2.2.1 (by decide), fun p hp => ⟨x, v, ps, H, p, rfl, hp, rfl, hsp⟩⟩
/-- Temporal(word = v) -/
theorem ok_tinitK {f C BT TM : Addr} {fd : FuncData} (F : Fun K "__init__" "Temporal.__init__" sTInit f fd) (T : TC K mg C) (cD : C8.Cal P w K mg base 2 "parts_due" (spPartsDue C) []) (eB : Err P w K mg base "BadTemporal" BT 1 (mk1 "part")) (eM : Err P w K mg base "TooMany" TM 2 (mk2 "what" "most"))
    (gM : ∃ t, mg "MOST_WORDS" = some (.int 40 t)) (A : Around) (outer : List Env) (s : Shared) (H : Hp) (x : Addr) (v : V) (u : Value) (Q : VK) (E : XK) (hr : Room 3 A) (e0 : Env0 P w K mg base A outer s H) (rv : RelV v u) (hsp : spTInit C BT TM [.ref x, v] H Q E) :
    codeAny (model P w) A (.call (.ref f) ⟨[.ref x], [("word", u)]⟩) (CR (L2.CX P w) outer P w H s Q E) s := by
  obtain ⟨oc, od, kV, doc, pm, an, cdv, ct, osl, rfl, lk, hcd⟩ := F.ex
  have hn : H s.heap.objs.size = none := e0.hok.fresh (Nat.le_refl _)
  refine StX.run_bnd (ps := ["self", "word", "parts"]) (G := fun xs H2 => ∃ p, H p = none ∧ xs = [.ref x, v, .ref p] ∧ H2 = upd H p (.tup [])) lk hcd scTInit hr e0 (fun A' Ex Q' h => ?_) fun s2 H2 xs ⟨p, hp, e1, e2⟩ hr' => ?_
  · have eb : bindArgs (PySem.W.fnOf "__init__" "Temporal.__init__" (defArgs sTInit) (defBody sTInit) (defScope sTInit) .none kV doc pm an cdv ct) ⟨[.ref x], [("word", u)]⟩ = (newTuple [] >>= fun t => pure ([("self", Value.ref x), ("word", u), ("parts", t)] : List (Str × Value))) := by with_unfolding_all rfl
    rw [eb]
    refine wpAny_bind (wpAny_newTuple (wpAny_pure ?_) (by decide))
    have new : ObjOk P w (upd H s.heap.objs.size (.tup [])) (s.heap.push ({ cls := .type "tuple", data := .seq #[] } : Obj)) s.heap.objs.size (.tup []) := ⟨(by decide), [], .nil, ⟨_, Heap.get?_push_size _ rfl, rfl, _, rfl⟩⟩
    have un := StX.un_laid (fs := frs outer) (s := s) (o := ({ cls := .type "tuple", data := .seq #[] } : Obj)) (u := .tup []) hn
    exact h _ _ [.ref x, v, .ref s.heap.objs.size] [.ref x, u, .ref s.heap.objs.size] (StX.env0_laid e0 new) un rfl (fun e s' => StX.cxUp outer s H _ _ E e s' un (fun b o q => Heap.get?_push_of_some _ q) rfl) (.cons rfl (.cons rv (.cons rfl .nil))) rfl ⟨_, hn, rfl, rfl⟩
  · subst e1 e2
    exact body_tinit T cD eB eM gM cdv A outer s2 _ _ Q E hr' ⟨x, v, [], H, p, rfl, hp, rfl, hsp⟩
end
end Tm
/-! sayings made, and their small methods -/
namespace Tm
open PySem PySem.Spec PyProof.Rows L2
/-- under a new object x -/
theorem Go.under {S : Addr → Prop} {I H I1 H1 I2 H2 : Hp} {x : Addr} (a : Go S I H I1 H1) (g : Go (At1 x) I1 H1 I2 H2) (n : H x = none) : Go S I H I2 H2 :=
  ⟨a.ext.trans g.ext, g.sub, fun b o h q => let ⟨o', h'⟩ := a.dom b o h; g.fr b o' h' (a.fr b o h q), fun b o ns h => g.same b o (fun z => ne_of_none h n z) (a.same b o ns h),
    fun b o h => let ⟨o', h'⟩ := a.dom b o h; g.dom b o' h'⟩
section
variable {C BT TM : Addr} {S : Addr → Prop} {I H1 : Hp} {Q : VK} {E : XK} {v : V} {bv : Bool} {ps : List V} {bs : List Bool}
theorem made_go (hI : Same I H1) {x dx : Addr} (nx : H1 x = none) (nd : H1 dx = none) (ne : dx ≠ x) : Go S I H1 I (upd (upd H1 dx (.own x)) x (.ins C dx [])) :=
  (Go.tmp hI nd).trans (Go.tmp (Go.tmp (S := S) hI nd).sub (by rw [upd_ne (Ne.symm ne)]; exact nx))
/-- what a call of Temporal asks -/
theorem tmake (hI : Same I H1) (kv : Kn C I v bv) (hl : ps.length ≤ 1000) (hb : bs.length = ps.length) (kb : ∀ (i : Nat) p b, ps[i]? = some p → bs[i]? = some b → Kn C I p b)
    (k1 : dueV v = none → Leaves S I H1 BT (fsBT "word") E) (k2 : ∀ n, dueV v = some n → ps.length ≠ n ∨ bs.all id = false → Leaves S I H1 BT (fsBT "parts") E)
    (k3 : ∀ n, dueV v = some n → ps.length = n → bs.all id = true → ∃ m : Mdl, v = .str m.head ∧ m.kids.length = ps.length ∧ m.words.length ≤ 1000 ∧ (∀ (i : Nat) p k, ps[i]? = some p → m.kids[i]? = some k → TIs C I p k) ∧
      (40 < m.words.length → Leaves S I H1 TM fsTM E) ∧ (m.words.length ≤ 40 → ∀ (a : Addr) (I' H' : Hp), Go S I H1 I' H' → TIs C I' (.ref a) m → Q (.ref a) H')) :
    ∀ x dx, H1 x = none → H1 dx = none → dx ≠ x → spTInit C BT TM (.ref x :: v :: ps) (upd (upd H1 dx (.own x)) x (.ins C dx [])) (fun v H2 => v = .non ∧ Q (.ref x) H2) E := by
  intro x dx nx nd ne
  have gA := made_go (S := S) (C := C) hI nx nd ne
  have lv : ∀ {Cx : Addr} {fs : List (Str × V)}, Leaves S I H1 Cx fs E → Leaves (At1 x) I (upd (upd H1 dx (.own x)) x (.ins C dx [])) Cx fs E := fun l d I' H' g => l d I' H' (gA.under g nx)
  refine ⟨x, dx, v, bv, ps, bs, I, rfl, gA.sub, hI.free nx, upd_same, hl, kv, hb, kb, fun h => lv (k1 h), fun n h h2 => lv (k2 n h h2), fun n h h2 h3 => ?_⟩
  obtain ⟨m, e, h4, h5, h6, h7, h8⟩ := k3 n h h2 h3
  refine ⟨m, e, h4, h5, h6, fun z => lv (h7 z), fun z pa wa I' H' g ix hx ip iw => ⟨rfl, ?_⟩⟩
  have g2 := (gA.under g nx).keep ix nx hx
  have nxp : pa ≠ x := ne_of_none ip ix
  have nxw : wa ≠ x := ne_of_none iw ix
  refine h8 z x _ H' g2 (.mk (m := m) (vs := ps) upd_same (by rw [upd_ne nxp]; exact ip) (by rw [upd_ne nxw]; exact iw) h4.symm fun i p k q1 q2 => ?_)
  exact (h6 i p k q1 q2).ext ((gA.under g nx).ext.trans fun b o q => by rw [upd_ne (ne_of_none q ix)]; exact q)
/-- .. where it is right and short -/
theorem tmake_m {m : Mdl} (hI : Same I H1) (hk : m.kids.length = ps.length) (hT : ∀ (i : Nat) p k, ps[i]? = some p → m.kids[i]? = some k → TIs C I p k) (hd : due m.head = some m.kids.length) (hh : m.head.length ≤ 100000) (hw : m.words.length ≤ 40)
    (q : ∀ (a : Addr) (I' H' : Hp), Go S I H1 I' H' → TIs C I' (.ref a) m → Q (.ref a) H') :
    ∀ x dx, H1 x = none → H1 dx = none → dx ≠ x → spTInit C BT TM (.ref x :: .str m.head :: ps) (upd (upd H1 dx (.own x)) x (.ins C dx [])) (fun v H2 => v = .non ∧ Q (.ref x) H2) E := by
  have hkl : m.kids.length ≤ 2 := by cases m <;> simp [Mdl.kids]
  refine tmake (bs := List.replicate ps.length true) hI (.str _ hh) (by omega) (by simp) (fun i p b h1 h2 => ?_) (fun h => ?_) (fun n h h2 => ?_) fun n h h2 h3 => ⟨m, rfl, hk, by omega, hT, fun z => absurd z (by omega), fun _ => q⟩
  · have hi : i < ps.length := (List.getElem?_eq_some_iff.mp h1).1
    have hb : b = true := by rw [List.getElem?_replicate] at h2; rw [if_pos hi] at h2; exact (Option.some.inj h2).symm
    subst hb
    exact (hT i p m.kids[i] h1 (List.getElem?_eq_getElem (by omega))).kn
  · exact absurd (show due m.head = none from h) (by rw [hd]; exact fun z => nomatch z)
  · have e : n = m.kids.length := by
      have : due m.head = some n := h
      rw [hd] at this; exact (Option.some.inj this).symm
    rcases h2 with h2 | h2
    · exact absurd (e.trans hk).symm h2
    · rw [List.all_eq_false] at h2
      obtain ⟨b, hb, hn⟩ := h2
      rw [(List.mem_replicate.mp hb).2] at hn
      exact absurd rfl hn
end
/-- Temporal may be called -/
structure TmOk (P : Program) (w : World) (K : PySem.W.Frag) (mg : Str → Option Value) (base : Heap) (C BT TM : Addr) : Prop where
  T : TC K mg C
  ex : ∃ f, Mk K C f ∧ FnR P w K mg base (L2.CX P w) 3 f (spTInit C BT TM) ∧ ∀ (A : Around) (outer : List Env) (s : Shared) (H : Hp) (x : Addr) (v : V) (u : Value) (Q : VK) (E : XK), Room 3 A → Env0 P w K mg base A outer s H → RelV v u → spTInit C BT TM [.ref x, v] H Q E →
    codeAny (model P w) A (.call (.ref f) ⟨[.ref x], [("word", u)]⟩) (CR (L2.CX P w) outer P w H s Q E) s
section
variable {X : Cx} {C BT TM : Addr} {E : XK} {e : Expr} {es : List Expr} {te : TE} {t : TA} {p pos kpos : Pos} {j : Nat}
/-- Temporal(e, ..) -/
theorem pe_T (M : TmOk X.prog X.w X.K X.mg X.base C BT TM) (hr : Room j X.A) (hj : 4 ≤ j) (hg : Gl X "Temporal") (hx : Passes (L2.CX X.prog X.w) X E) (ha : PA X (e :: es) t)
    (he : starEach (e :: es) X.env = (false, eval e X.env) :: starEach es X.env := by rfl) (hpl : (backTo pos (starEach es X.env)).any (·.1) = false := by rfl) :
    PE X (.Call (.Name "Temporal" p) (e :: es) [] pos) (StX.tMakeR C (spTInit C BT TM) E t) := by
  obtain ⟨f, m, F, _⟩ := M.ex
  exact StX.pe_makeR m F (hr.mono hj) hg M.T.mgC hx ha (by decide +kernel) he hpl
/-- Temporal(e, *y) -/
theorem pe_TS (M : TmOk X.prog X.w X.K X.mg X.base C BT TM) (hr : Room j X.A) (hj : 4 ≤ j) (hg : Gl X "Temporal") (hx : Passes (L2.CX X.prog X.w) X E) (ha : PA X (e :: es) t)
    (he : starEach (e :: es) X.env = (false, eval e X.env) :: starEach es X.env := by rfl) (hst : (backTo pos (starEach es X.env)).any (·.1) = true := by rfl) :
    PE X (.Call (.Name "Temporal" p) (e :: es) [] pos) (StX.tMakeR C (spTInit C BT TM) E t) := by
  obtain ⟨f, m, F, _⟩ := M.ex
  refine ⟨fun pins s σ H Q I h => ?_⟩
  refine wpAny_Call_Name_kw (ld_glob I hg M.T.mgC ?_ (by decide +kernel))
  refine PySem.W.callWith_S2 (h₀ := X.base) I.ok.mod.kin m.kp (thn (ha.run pos pins s σ H _ I h) fun us s1 ⟨vs, H1, I1, r, q⟩ => ⟨I1.kIn, ?_⟩) he hst
  exact StX.run_makeR m F (hr.mono hj) hx I1 r q
/-- Temporal(word=e) -/
def tMkW (C : Addr) (sp : Sp) (E : XK) (te : TE) : TE := fun σ H Q => te σ H fun y H1 => ∃ v, [y] = [v] ∧ ∀ x dx, H1 x = none → H1 dx = none → dx ≠ x → sp [.ref x, v] (upd (upd H1 dx (.own x)) x (.ins C dx [])) (fun v H2 => v = .non ∧ Q (.ref x) H2) E
/-- .. -/
theorem pe_TK (M : TmOk X.prog X.w X.K X.mg X.base C BT TM) (hr : Room j X.A) (hj : 4 ≤ j) (hg : Gl X "Temporal") (hx : Passes (L2.CX X.prog X.w) X E) (ha : PE X e te)
    (hall : (backToKw pos (keywordEach [⟨some "word", e, kpos⟩] X.env)).all (·.1.isSome) = true := by rfl) (hks : (backToKw pos (keywordEach [⟨some "word", e, kpos⟩] X.env)).filterMap (·.1) = ([("word" : Str)] : List Str) := by rfl)
    (hpl : ((backTo pos (starEach [] X.env)).any (·.1) || (backToKw pos (keywordEach [⟨some "word", e, kpos⟩] X.env)).any (·.1.isNone)) = false := by rfl) :
    PE X (.Call (.Name "Temporal" p) [] [⟨some "word", e, kpos⟩] pos) (tMkW C (spTInit C BT TM) E te) := by
  obtain ⟨f, m, _, F⟩ := M.ex
  refine ⟨fun pins s σ H Q I h => ?_⟩
  refine wpAny_Call_Name_kw (ld_glob I hg M.T.mgC ?_ (by decide +kernel))
  refine PySem.W.callWith_KW0 (h₀ := X.base) I.ok.mod.kin m.kp hall ?_ hpl
  refine thn ((pk_cons (kpos := kpos) (nm := some "word") ha pk_nil).run pos pins s σ H (fun zs H1 => ∃ v, zs = [v] ∧ ∀ x dx, H1 x = none → H1 dx = none → dx ≠ x → spTInit C BT TM [.ref x, v] (upd (upd H1 dx (.own x)) x (.ins C dx [])) (fun v H2 => v = .non ∧ Q (.ref x) H2) E) I h) fun ws s1 ⟨zs, H1, I1, rz, v, ez, q2⟩ => ⟨I1.kIn, ?_⟩
  subst ez
  rw [hks]
  obtain ⟨u, rfl, rv⟩ : ∃ u, ws = [u] ∧ RelV v u := by
    cases rz with
    | cons rv rn => cases rn; exact ⟨_, rfl, rv⟩
  have hq := q2 (s1.heap.objs.size + 1) s1.heap.objs.size (I1.hok.fresh (Nat.le_succ _)) (I1.hok.fresh (Nat.le_refl _)) (Nat.ne_of_lt (Nat.lt_succ_self _))
  have I2 := Inv.made (C := C) I1
  show wpAny _ _ (call (.ref C) [] [("word", u)]) _ _ _
  refine wpAny_call (make_map (f := f) I1.kIn m.makes m.init (beq_iff_eq.mp m.fn) (codeAny_mono (F _ X.stack _ _ _ v u _ E ((hr.mono hj).make C [] [("word", u)]) (I2.env0.make C [] [("word", u)]) rv hq) fun r s' hq' => ?_))
  cases r with
  | error e => exact hx pins σ _ _ e s' I2 hq'
  | ok fl =>
    cases fl with
    | ret u =>
      obtain ⟨v, H', I3, rv, ev, q3⟩ := I2.after hq'
      subst ev
      exact ⟨rv, ⟨V.ref (s1.heap.objs.size + 1), H', I3, rfl, q3⟩⟩
    | next => exact False.elim hq'
    | brk => exact False.elim hq'
    | cont => exact False.elim hq'
end
end Tm
/-! the operators of sayings -/
namespace Tm
open PySem PySem.Spec PyProof.Rows L2
abbrev sAnd : Stmt := inClass (top 15) 2
abbrev sOr : Stmt := inClass (top 15) 3
abbrev sInv : Stmt := inClass (top 15) 4
abbrev sEqT : Stmt := inClass (top 15) 5
abbrev sStrT : Stmt := inClass (top 15) 6
/-- a & b, a | b: z is the word -/
def spBin (C BT TM : Addr) (z : Str) : Sp := fun vs H Q E => ∃ (a b : V) (m : Mdl) (bb : Bool) (I : Hp), vs = [a, b] ∧ Same I H ∧ TIs C I a m ∧ Kn C I b bb ∧ m.words.length ≤ 100 ∧ (bb = false → Leaves NoS I H BT (fsBT "parts") E) ∧
  (bb = true → ∃ k, TIs C I b k ∧ k.words.length ≤ 100 ∧ (40 < (Mdl.bi z m k).words.length → Leaves NoS I H TM fsTM E) ∧ ((Mdl.bi z m k).words.length ≤ 40 → ∀ (p : Addr) (I' H' : Hp), Go NoS I H I' H' → TIs C I' (.ref p) (.bi z m k) → Q (.ref p) H'))
def spInv (C : Addr) : Sp := fun vs H Q _ => ∃ (a : V) (m : Mdl) (I : Hp), vs = [a] ∧ Same I H ∧ TIs C I a m ∧ m.words.length ≤ 39 ∧ ∀ (p : Addr) (I' H' : Hp), Go NoS I H I' H' → TIs C I' (.ref p) (.un "NOT" m) → Q (.ref p) H'
/-- a == b -/
def spEqT (C : Addr) : Sp := fun vs H Q _ => ∃ (a b : V) (m : Mdl) (bb : Bool) (I : Hp), vs = [a, b] ∧ Same I H ∧ TIs C I a m ∧ (∀ z ∈ m.words, due z ≠ none) ∧ Kn C I b bb ∧ (bb = false → Q (.bl false) H) ∧ (bb = true → ∃ k, TIs C I b k ∧ (∀ z ∈ k.words, due z ≠ none) ∧ Q (.bl (decide (m.words = k.words))) H)
def spStrT (C : Addr) : Sp := fun vs H Q _ => ∃ (a : V) (m : Mdl) (I : Hp), vs = [a] ∧ Same I H ∧ TIs C I a m ∧ (m.words.map (·.length)).sum + m.words.length ≤ 16777216 ∧ Q (.str (Txt.join " " m.words)) H
theorem list3 {P : Nat → V → Mdl → Prop} {u v : V} {m k : Mdl} (h0 : P 0 u m) (h1 : P 1 v k) : ∀ (i : Nat) x y, [u, v][i]? = some x → [m, k][i]? = some y → P i x y := fun i x y h h' => by
  match i with
  | 0 => cases h; cases h'; exact h0
  | 1 => cases h; cases h'; exact h1
  | i + 2 => simp at h
section
variable {P : Program} {w : World} {K : PySem.W.Frag} {mg : Str → Option Value} {base : Heap} {C BT TM : Addr}
theorem scAnd : FnScope ["self", "other"] ["self", "other"] (defScope sAnd) := ⟨rfl, rfl, rfl, by decide +kernel, rfl, by decide +kernel, by decide +kernel⟩
theorem scOr : FnScope ["self", "other"] ["self", "other"] (defScope sOr) := ⟨rfl, rfl, rfl, by decide +kernel, rfl, by decide +kernel, by decide +kernel⟩
theorem scInv : FnScope ["self"] ["self"] (defScope sInv) := ⟨rfl, rfl, rfl, by decide +kernel, rfl, by decide +kernel, by decide +kernel⟩
theorem scEqT : FnScope ["self", "other"] ["self", "other"] (defScope sEqT) := ⟨rfl, rfl, rfl, by decide +kernel, rfl, by decide +kernel, by decide +kernel⟩
theorem scStrT : FnScope ["self"] ["self"] (defScope sStrT) := ⟨rfl, rfl, rfl, by decide +kernel, rfl, by decide +kernel, by decide +kernel⟩
/-- the making of a saying of two parts, the second of any kind -/
theorem make2 {z : Str} (hz : due z = some 2) (hl : z.length ≤ 100000) {I H1 : Hp} {Q : VK} {E : XK} {a b : V} {m : Mdl} {bb : Bool} (hI : Same I H1) (ha : TIs C I a m) (kb : Kn C I b bb) (hm : m.words.length ≤ 100) (k1 : bb = false → Leaves NoS I H1 BT (fsBT "parts") E)
    (k2 : bb = true → ∃ k, TIs C I b k ∧ k.words.length ≤ 100 ∧ (40 < (Mdl.bi z m k).words.length → Leaves NoS I H1 TM fsTM E) ∧ ((Mdl.bi z m k).words.length ≤ 40 → ∀ (p : Addr) (I' H' : Hp), Go NoS I H1 I' H' → TIs C I' (.ref p) (.bi z m k) → Q (.ref p) H')) :
    ∀ x dx, H1 x = none → H1 dx = none → dx ≠ x → spTInit C BT TM (.ref x :: .str z :: [a, b]) (upd (upd H1 dx (.own x)) x (.ins C dx [])) (fun v H2 => v = .non ∧ Q (.ref x) H2) E := by
  have hd : ∀ n, dueV (.str z) = some n → n = 2 := fun n h => by
    have : due z = some n := h
    rw [hz] at this; exact (Option.some.inj this).symm
  refine tmake (S := NoS) (bs := [true, bb]) hI (.str z hl) (by show 2 ≤ 1000; decide) rfl (fun i p b' h1 h2 => ?_) (fun h => ?_) (fun n h h2 => ?_) fun n h h2 h3 => ?_
  · match i with
    | 0 => cases h1; cases h2; exact ha.kn
    | 1 => cases h1; cases h2; exact kb
    | i + 2 => simp at h1
  · exact absurd (show due z = none from h) (by rw [hz]; exact fun z => nomatch z)
  · refine k1 ?_
    rcases h2 with h2 | h2
    · exact absurd (hd n h).symm h2
    · cases bb with
      | false => rfl
      | true => exact absurd (show ([true, true] : List Bool).all id = false from h2) (by decide)
  · have hbb : bb = true := by
      cases bb with
      | true => rfl
      | false => exact absurd (show ([true, false] : List Bool).all id = true from h3) (by decide)
    obtain ⟨k, hk, hkl, e1, e2⟩ := k2 hbb
    refine ⟨.bi z m k, rfl, rfl, ?_, list3 ha hk, e1, e2⟩
    show (m.words ++ k.words).length + 1 ≤ 1000
    rw [List.length_append]; omega
theorem ok_and {f : Addr} {fd : FuncData} (F : Fun K "__and__" "Temporal.__and__" sAnd f fd) (M : TmOk P w K mg base C BT TM) : FnOk P w K mg base (L2.CX P w) 5 f fd ["self", "other"] (spBin C BT TM "AND") := by
  refine F.okX scAnd (fun vs H Q E h => ?_) (fun cdv A outer s H vs Q E hr h => ?_)
  · obtain ⟨a, b, m, bb, I, rfl, _⟩ := h
    rfl
  · obtain ⟨a, b, m, bb, I, rfl, hI, ha, kb, hm, k1, k2⟩ := h
    refine ⟨_, pss_one (ps_ret (pe_T M hr (by decide) rfl (passes_call (takes_of rfl rfl rfl rfl) (fun _ _ _ _ h => h)) (pa_cons pe_str (pa_cons (pv 0) (pa_cons (pv 1) pa_nil))))), ?_⟩
    exact ⟨_, rfl, _, rfl, make2 (by decide +kernel) (by decide +kernel) hI ha kb hm k1 k2⟩
theorem ok_or {f : Addr} {fd : FuncData} (F : Fun K "__or__" "Temporal.__or__" sOr f fd) (M : TmOk P w K mg base C BT TM) : FnOk P w K mg base (L2.CX P w) 5 f fd ["self", "other"] (spBin C BT TM "OR") := by
  refine F.okX scOr (fun vs H Q E h => ?_) (fun cdv A outer s H vs Q E hr h => ?_)
  · obtain ⟨a, b, m, bb, I, rfl, _⟩ := h
    rfl
  · obtain ⟨a, b, m, bb, I, rfl, hI, ha, kb, hm, k1, k2⟩ := h
    refine ⟨_, pss_one (ps_ret (pe_T M hr (by decide) rfl (passes_call (takes_of rfl rfl rfl rfl) (fun _ _ _ _ h => h)) (pa_cons pe_str (pa_cons (pv 0) (pa_cons (pv 1) pa_nil))))), ?_⟩
    exact ⟨_, rfl, _, rfl, make2 (by decide +kernel) (by decide +kernel) hI ha kb hm k1 k2⟩
theorem ok_inv {f : Addr} {fd : FuncData} (F : Fun K "__invert__" "Temporal.__invert__" sInv f fd) (M : TmOk P w K mg base C BT TM) : FnOk P w K mg base CX0 5 f fd ["self"] (spInv C) := by
  refine F.ok scInv (fun vs H Q E h => ?_) (fun cdv A outer s H vs Q E hr h => ?_)
  · obtain ⟨a, m, I, rfl, _⟩ := h
    rfl
  · obtain ⟨a, m, I, rfl, hI, ha, hm, k⟩ := h
    refine ⟨_, pss_one (ps_ret (pe_T M hr (by decide) rfl passL (pa_cons pe_str (pa_cons (pv 0) pa_nil)))), ?_⟩
    refine ⟨_, rfl, tmake_m (S := NoS) (m := .un "NOT" m) (ps := [a]) hI rfl (fun i x y h1 h2 => ?_) (show due "NOT" = some 1 from due_un (by decide +kernel)) (show ("NOT":Str).length ≤ 100000 by decide +kernel) (by show m.words.length + 1 ≤ 40; omega) k⟩
    match i with
    | 0 => cases h1; cases h2; exact ha
    | i + 1 => simp at h1
theorem eqvAll_strs : ∀ ws zs : List Str, PyData.eqvAll (ws.map PyData.str) (zs.map PyData.str) = decide (ws = zs)
  | [], [] => rfl
  | [], _ :: _ => rfl
  | _ :: _, [] => rfl
  | a :: r, b :: t => by
    show ((a == b) && PyData.eqvAll (r.map PyData.str) (t.map PyData.str)) = _
    rw [eqvAll_strs r t]
    by_cases e : a = b
    · subst e
      by_cases e2 : r = t
      · subst e2; simp
      · rw [decide_eq_false e2, decide_eq_false (fun z => e2 (List.cons.inj z).2)]; simp
    · rw [decide_eq_false (fun z => e (List.cons.inj z).1), beq_false_of_ne e]; rfl
theorem dpStrs {H : Hp} : ∀ ws : List Str, DpAll K H (ws.map V.str) (ws.map PyData.str)
  | [] => .nil
  | z :: r => .cons (.str z) (dpStrs r)
theorem due_ok {z : Str} (h : due z ≠ none) : PyData.strOk z = true := by
  have h2 : ∀ x ∈ biW ++ unW ++ ([("TRUE" : Str)] : List Str), PyData.strOk x = true := by decide +kernel
  have h3 : ∀ c ∈ signs.cps.toList, c < 0x110000 := by decide +kernel
  by_cases h4 : evOk z = true
  · unfold evOk at h4
    simp only [Bool.and_eq_true] at h4
    show z.cps.all (· < 0x110000) = true
    rw [← Array.all_toList, List.all_eq_true]
    intro c hc
    have := List.all_eq_true.mp h4.2 c hc
    exact decide_eq_true (h3 c (of_decide_eq_true this))
  · refine h2 z ?_
    unfold due at h
    by_cases a : z ∈ biW
    · exact List.mem_append_left _ (List.mem_append_left _ a)
    · rw [if_neg a] at h
      by_cases b : z ∈ unW
      · exact List.mem_append_left _ (List.mem_append_right _ b)
      · rw [if_neg b] at h
        by_cases c : z = "TRUE"
        · exact List.mem_append_right _ (by rw [c]; exact List.mem_cons_self)
        · rw [if_neg (by rintro (x | x); exact c x; exact h4 x)] at h
          exact absurd rfl h
theorem shaped_strs {ws : List Str} (h : ∀ z ∈ ws, due z ≠ none) : SeqAt.shaped (.tuple (ws.map PyData.str)) = true := shaped_tup fun d hd => by
  obtain ⟨n, hn, rfl⟩ := List.mem_map.mp hd
  exact ⟨due_ok (h n hn), rfl⟩
theorem tis_words {I : Hp} {v : V} {m : Mdl} (h : TIs C I v m) : ∃ (a dx pa wa : Addr) (vs : List V), v = .ref a ∧ I a = some (.ins C dx (tF m.head pa wa)) ∧ I pa = some (.tup vs) ∧ I wa = some (.tup (m.words.map V.str)) ∧ vs.length = m.kids.length ∧ ∀ (i : Nat) x k, vs[i]? = some x → m.kids[i]? = some k → TIs C I x k := by
  cases h with
  | mk h1 h2 h3 h4 h5 => exact ⟨_, _, _, _, _, rfl, h1, h2, h3, h4, h5⟩
theorem ok_eqT {f : Addr} {fd : FuncData} (F : Fun K "__eq__" "Temporal.__eq__" sEqT f fd) (T : TC K mg C) : FnOk P w K mg base CX0 1 f fd ["self", "other"] (spEqT C) := by
  refine F.ok scEqT (fun vs H Q E h => ?_) (fun cdv A outer s H vs Q E hr h => ?_)
  · obtain ⟨a, b, m, bb, I, rfl, _⟩ := h
    rfl
  · obtain ⟨a, b, m, bb, I, rfl, hI, ha, wa, kb, k1, k2⟩ := h
    obtain ⟨t, ty, kt, _⟩ := kn_ty T (kb.ext hI)
    refine ⟨_, pss_one (ps_ret (pe_and (pe_callB call_isi (by rfl) T.isi (by decide +kernel) (pa_cons (pv 1) (pa_cons (pe_glob (v := .ref C) rfl T.mgC rfl) pa_nil))) (pe_one (pe_cmpR (op_eqD hr.units) (pe_fldK K (pv 0)) (pe_fldK K (pv 1)) (nomark _))))), ?_⟩
    refine ⟨_, rfl, _, _, t, _, bb, rfl, .own C, ty, kt, bb, rfl, ?_⟩
    obtain ⟨a0, dx, pa, wp, vs, rfl, i1, i2, i3, _⟩ := tis_words (C := C) ha
    cases bb with
    | false => exact iteF (k1 rfl)
    | true =>
      obtain ⟨k, hk, wk, q⟩ := k2 rfl
      obtain ⟨b0, dy, pb, wq, vs2, rfl, j1, j2, j3, _⟩ := tis_words (C := C) hk
      refine iteT ?_
      refine ⟨_, rfl, a0, C, dx, _, _, rfl, hI _ _ i1, T.cl, T.nS, tF_words _ _ _, ?_⟩
      refine ⟨_, rfl, b0, C, dy, _, _, rfl, hI _ _ j1, T.cl, T.nS, tF_words _ _ _, ?_⟩
      refine ⟨.tuple (m.words.map PyData.str), .tuple (k.words.map PyData.str), .tup (stK (hI _ _ i3)) (dpStrs _), .tup (stK (hI _ _ j3)) (dpStrs _), shaped_strs wa, shaped_strs wk, ?_⟩
      show Q (.bl (PyData.eqvAll (m.words.map PyData.str) (k.words.map PyData.str))) H
      rw [eqvAll_strs]; exact q
theorem ok_strT {f : Addr} {fd : FuncData} (F : Fun K "__str__" "Temporal.__str__" sStrT f fd) (T : TC K mg C) : FnOk P w K mg base CX0 1 f fd ["self"] (spStrT C) := by
  refine F.ok scStrT (fun vs H Q E h => ?_) (fun cdv A outer s H vs Q E hr h => ?_)
  · obtain ⟨a, m, I, rfl, _⟩ := h
    rfl
  · obtain ⟨a, m, I, rfl, hI, ha, hz, q⟩ := h
    refine ⟨_, pss_one (ps_ret (pe_join pe_str (pe_fldK K (pv 0)))), ?_⟩
    obtain ⟨a0, dx, pa, wp, vs, rfl, i1, i2, i3, _⟩ := tis_words (C := C) ha
    refine ⟨⟨_, rfl⟩, _, rfl, a0, C, dx, _, _, rfl, hI _ _ i1, T.cl, T.nS, tF_words _ _ _, ?_⟩
    exact ⟨_, wp, m.words, rfl, rfl, .inr (stK (hI _ _ i3)), by rw [show (" " : Str).length = 1 from rfl, Nat.mul_one]; exact hz, q⟩
end
end Tm
/-! == and != of a builtin's value with an instance -/
namespace Tm
open PySem PySem.Spec PyProof.Rows L2
open AutoSeq1 (wpAny_loadPart')
section
variable {prog : Program} {w : World} {A : Around} {E : Value → Shared → Prop} {s : Shared} {K : PySem.W.Frag} {y C : Addr} {oy : Obj} {od : Option Obj} {R : Fin → Shared → Prop}
theorem isn_ref {M : Model} {h : Heap} {T : String} (X : K.In h) (J : PySem.W.InstAt h y oy C od) (hT : PySem.W.mroIn K C (.type T) = some false) : PySem.W.Looks M h (isInstance (.ref y) (.type T)) false :=
  J.type.andThen (PySem.W.looks_mroIn X hT)
theorem dq_int_eq {b : Int} {t : Tok} (hy : s.heap.get? y = some oy) (hd : oy.data = .plain) (h : R (.done (.ret .notImplemented)) s) : wpAny (model prog w) A (Builtin.«int.__eq__» ⟨[.int b t, .ref y], []⟩) R E s := by
  obtain ⟨hp, g, d, tk, os⟩ := s
  obtain ⟨c, dd, dt, sl⟩ := oy
  cases hd
  wp_walk using wpAny_loadPart' hy
  exact h
theorem dq_bool_eq {b : Bool} (hy : s.heap.get? y = some oy) (hd : oy.data = .plain) (h : R (.done (.ret .notImplemented)) s) : wpAny (model prog w) A (Builtin.«int.__eq__» ⟨[.bool b, .ref y], []⟩) R E s := by
  obtain ⟨hp, g, d, tk, os⟩ := s
  obtain ⟨c, dd, dt, sl⟩ := oy
  cases hd
  wp_walk using wpAny_loadPart' hy
  exact h
theorem dq_str_eq {b : Str} {t : Tok} (hy : s.heap.get? y = some oy) (hd : oy.data = .plain) (h : R (.done (.ret .notImplemented)) s) : wpAny (model prog w) A (Builtin.«str.__eq__» ⟨[.str b t, .ref y], []⟩) R E s := by
  obtain ⟨hp, g, d, tk, os⟩ := s
  obtain ⟨c, dd, dt, sl⟩ := oy
  cases hd
  wp_walk using wpAny_loadPart' hy
  exact h
theorem dq_non_eq (h : R (.done (.ret .notImplemented)) s) : wpAny (model prog w) A (Builtin.«NoneType.__eq__» ⟨[.none, .ref y], []⟩) R E s := by
  obtain ⟨hp, g, d, tk, os⟩ := s
  wp_walk
  exact h
theorem dq_list_eq {a : Addr} {oa : Obj} (ha : s.heap.get? a = some oa) (hc : oa.cls = .type "list") (X : K.In s.heap) (J : PySem.W.InstAt s.heap y oy C od) (hT : PySem.W.mroIn K C (.type "list") = some false) (h : R (.done (.ret .notImplemented)) s) : wpAny (model prog w) A (Builtin.«list.__eq__» ⟨[.ref a, .ref y], []⟩) R E s := by
  have L := isn_ref (M := model prog w) X J hT
  obtain ⟨hp, g, d, tk, os⟩ := s
  wp_walk using wpAny_loadPart' ha, L.here
  exact h
theorem dq_tuple_eq {a : Addr} {oa : Obj} (ha : s.heap.get? a = some oa) (hc : oa.cls = .type "tuple") (X : K.In s.heap) (J : PySem.W.InstAt s.heap y oy C od) (hT : PySem.W.mroIn K C (.type "tuple") = some false) (h : R (.done (.ret .notImplemented)) s) : wpAny (model prog w) A (Builtin.«tuple.__eq__» ⟨[.ref a, .ref y], []⟩) R E s := by
  have L := isn_ref (M := model prog w) X J hT
  obtain ⟨hp, g, d, tk, os⟩ := s
  wp_walk using wpAny_loadPart' ha, L.here
  exact h
theorem dq_dict_eq {a : Addr} {oa : Obj} (ha : s.heap.get? a = some oa) (hc : oa.cls = .type "dict") (X : K.In s.heap) (J : PySem.W.InstAt s.heap y oy C od) (hT : PySem.W.mroIn K C (.type "dict") = some false) (h : R (.done (.ret .notImplemented)) s) : wpAny (model prog w) A (Builtin.«dict.__eq__» ⟨[.ref a, .ref y], []⟩) R E s := by
  have L := isn_ref (M := model prog w) X J hT
  obtain ⟨hp, g, d, tk, os⟩ := s
  wp_walk using wpAny_loadPart' ha, L.here
  exact h
theorem dq_int_ne {b : Int} {t : Tok} (hy : s.heap.get? y = some oy) (hd : oy.data = .plain) (h : R (.done (.ret .notImplemented)) s) : wpAny (model prog w) A (Builtin.«int.__ne__» ⟨[.int b t, .ref y], []⟩) R E s := by
  obtain ⟨hp, g, d, tk, os⟩ := s
  obtain ⟨c, dd, dt, sl⟩ := oy
  cases hd
  wp_walk using wpAny_loadPart' hy
  exact h
theorem dq_bool_ne {b : Bool} (hy : s.heap.get? y = some oy) (hd : oy.data = .plain) (h : R (.done (.ret .notImplemented)) s) : wpAny (model prog w) A (Builtin.«int.__ne__» ⟨[.bool b, .ref y], []⟩) R E s := by
  obtain ⟨hp, g, d, tk, os⟩ := s
  obtain ⟨c, dd, dt, sl⟩ := oy
  cases hd
  wp_walk using wpAny_loadPart' hy
  exact h
theorem dq_str_ne {b : Str} {t : Tok} (hy : s.heap.get? y = some oy) (hd : oy.data = .plain) (h : R (.done (.ret .notImplemented)) s) : wpAny (model prog w) A (Builtin.«str.__ne__» ⟨[.str b t, .ref y], []⟩) R E s := by
  obtain ⟨hp, g, d, tk, os⟩ := s
  obtain ⟨c, dd, dt, sl⟩ := oy
  cases hd
  wp_walk using wpAny_loadPart' hy
  exact h
theorem dq_non_ne (h : R (.done (.ret .notImplemented)) s) : wpAny (model prog w) A (Builtin.«NoneType.__ne__» ⟨[.none, .ref y], []⟩) R E s := by
  obtain ⟨hp, g, d, tk, os⟩ := s
  wp_walk
  exact h
theorem dq_list_ne {a : Addr} {oa : Obj} (ha : s.heap.get? a = some oa) (hc : oa.cls = .type "list") (X : K.In s.heap) (J : PySem.W.InstAt s.heap y oy C od) (hT : PySem.W.mroIn K C (.type "list") = some false) (h : R (.done (.ret .notImplemented)) s) : wpAny (model prog w) A (Builtin.«list.__ne__» ⟨[.ref a, .ref y], []⟩) R E s := by
  have L := isn_ref (M := model prog w) X J hT
  obtain ⟨hp, g, d, tk, os⟩ := s
  wp_walk using wpAny_loadPart' ha, L.here
  exact h
theorem dq_tuple_ne {a : Addr} {oa : Obj} (ha : s.heap.get? a = some oa) (hc : oa.cls = .type "tuple") (X : K.In s.heap) (J : PySem.W.InstAt s.heap y oy C od) (hT : PySem.W.mroIn K C (.type "tuple") = some false) (h : R (.done (.ret .notImplemented)) s) : wpAny (model prog w) A (Builtin.«tuple.__ne__» ⟨[.ref a, .ref y], []⟩) R E s := by
  have L := isn_ref (M := model prog w) X J hT
  obtain ⟨hp, g, d, tk, os⟩ := s
  wp_walk using wpAny_loadPart' ha, L.here
  exact h
theorem dq_dict_ne {a : Addr} {oa : Obj} (ha : s.heap.get? a = some oa) (hc : oa.cls = .type "dict") (X : K.In s.heap) (J : PySem.W.InstAt s.heap y oy C od) (hT : PySem.W.mroIn K C (.type "dict") = some false) (h : R (.done (.ret .notImplemented)) s) : wpAny (model prog w) A (Builtin.«dict.__ne__» ⟨[.ref a, .ref y], []⟩) R E s := by
  have L := isn_ref (M := model prog w) X J hT
  obtain ⟨hp, g, d, tk, os⟩ := s
  wp_walk using wpAny_loadPart' ha, L.here
  exact h
end
end Tm
/-! the operators' rules -/
namespace Tm
open PySem PySem.Spec PyProof.Rows L2
open AutoSeq1 (wpAny_loadPart')
abbrev knTs : List String := ["NoneType", "bool", "int", "str", "list", "tuple", "dict"]
/-- what the text says of the class's operators -/
structure TQ (K : PySem.W.Frag) (C fE : Addr) : Prop where
  eqF : PySem.W.findIn K (.ref C) "__eq__" = some (some (.ref fE))
  fn : PySem.W.isFn K (.ref fE) = true
  neF : PySem.W.findIn K (.ref C) "__ne__" = some (some (.builtin "object.__ne__"))
  ob : PySem.W.mroIn K C (.type "object") = some true
  up : ∀ T ∈ knTs, PySem.W.mroIn K C (.type T) = some false
  dn : ∀ T ∈ knTs, PySem.W.subIn K (.type T) (.ref C) = some false
/-- its type, and that its == and != do not know the instance -/
structure Dec (X : Cx) (s : Shared) (u : Value) (y : Addr) (T : String) : Prop where
  mem : T ∈ knTs
  ty : s.TypeIs u T
  eq : ∀ (A : Around) (Q : Option Value → Shared → Prop) (E : Value → Shared → Prop), Q none s → wpAny (model X.prog X.w) A (tryCompare u "__eq__" (.ref y)) Q E s
  ne : ∀ (A : Around) (Q : Option Value → Shared → Prop) (E : Value → Shared → Prop), Q none s → wpAny (model X.prog X.w) A (tryCompare u "__ne__" (.ref y)) Q E s
section
variable {X : Cx} {pins : List (Addr × Obj)} {σ : L2.St} {H : Hp} {s : Shared} {C fE y : Addr} {oy : Obj} {od : Option Obj}
theorem dec_of {v : V} {u : Value} (tq : TQ X.K C fE) (k : Kn C H v false) (I : Inv X pins σ H s) (r : RelV v u) (J : PySem.W.InstAt s.heap y oy C od) (hd : oy.data = .plain) : ∃ T, Dec X s u y T := by
  have hy := J.at_
  cases k with
  | non =>
    cases (show u = Value.none from r)
    exact ⟨"NoneType", by decide, rfl, fun A Q E q => wpAny_tryCompare_declines (T := "NoneType") rfl F.slot_NoneType_eq (GQ.call_here F.slot_NoneType_eq rfl F.entry_NoneType_eq (F.args_NoneType_eq_2 _ _) (dq_non_eq ⟨rfl, q⟩)),
      fun A Q E q => wpAny_tryCompare_declines (T := "NoneType") rfl F.slot_NoneType_ne (GQ.call_here F.slot_NoneType_ne rfl F.entry_NoneType_ne (F.args_NoneType_ne_2 _ _) (dq_non_ne ⟨rfl, q⟩))⟩
  | bl b =>
    cases (show u = Value.bool b from r)
    exact ⟨"bool", by decide, rfl, fun A Q E q => wpAny_tryCompare_declines (T := "bool") rfl F.slot_bool_eq (GQ.call_here F.slot_bool_eq rfl F.entry_int_eq (F.args_int_eq_2 _ _) (dq_bool_eq hy hd ⟨rfl, q⟩)),
      fun A Q E q => wpAny_tryCompare_declines (T := "bool") rfl F.slot_bool_ne (GQ.call_here F.slot_bool_ne rfl F.entry_int_ne (F.args_int_ne_2 _ _) (dq_bool_ne hy hd ⟨rfl, q⟩))⟩
  | int i =>
    obtain ⟨t, rfl⟩ := (show ∃ t, u = Value.int i t from r)
    exact ⟨"int", by decide, rfl, fun A Q E q => wpAny_tryCompare_declines (T := "int") rfl F.slot_int_eq (GQ.call_here F.slot_int_eq rfl F.entry_int_eq (F.args_int_eq_2 _ _) (dq_int_eq hy hd ⟨rfl, q⟩)),
      fun A Q E q => wpAny_tryCompare_declines (T := "int") rfl F.slot_int_ne (GQ.call_here F.slot_int_ne rfl F.entry_int_ne (F.args_int_ne_2 _ _) (dq_int_ne hy hd ⟨rfl, q⟩))⟩
  | str z hz =>
    obtain ⟨t, rfl⟩ := (show ∃ t, u = Value.str z t from r)
    exact ⟨"str", by decide, rfl, fun A Q E q => wpAny_tryCompare_declines (T := "str") rfl F.slot_str_eq (GQ.call_here F.slot_str_eq rfl F.entry_str_eq (F.args_str_eq_2 _ _) (dq_str_eq hy hd ⟨rfl, q⟩)),
      fun A Q E q => wpAny_tryCompare_declines (T := "str") rfl F.slot_str_ne (GQ.call_here F.slot_str_ne rfl F.entry_str_ne (F.args_str_ne_2 _ _) (dq_str_ne hy hd ⟨rfl, q⟩))⟩
  | @lst a xs h =>
    cases (show u = Value.ref a from r)
    obtain ⟨_, its, n, _, h1⟩ := (show ObjOk X.prog X.w H s.heap a (.lst xs) from I.hok a _ h)
    have ty : s.TypeIs (.ref a) "list" := ⟨_, h1, rfl⟩
    exact ⟨"list", by decide, ty, fun A Q E q => wpAny_tryCompare_declines ty F.slot_list_eq (GQ.call_here F.slot_list_eq ty F.entry_list_eq (F.args_list_eq_2 _ _) (dq_list_eq h1 rfl I.kIn J (tq.up _ (by decide)) ⟨rfl, q⟩)),
      fun A Q E q => wpAny_tryCompare_declines ty F.slot_list_ne (GQ.call_here F.slot_list_ne ty F.entry_list_ne (F.args_list_ne_2 _ _) (dq_list_ne h1 rfl I.kIn J (tq.up _ (by decide)) ⟨rfl, q⟩))⟩
  | @tup a xs h =>
    cases (show u = Value.ref a from r)
    obtain ⟨_, _, _, o, h1, h2, _⟩ := (show ObjOk X.prog X.w H s.heap a (.tup xs) from I.hok a _ h)
    have ty : s.TypeIs (.ref a) "tuple" := ⟨_, h1, h2⟩
    exact ⟨"tuple", by decide, ty, fun A Q E q => wpAny_tryCompare_declines ty F.slot_tuple_eq (GQ.call_here F.slot_tuple_eq ty F.entry_tuple_eq (F.args_tuple_eq_2 _ _) (dq_tuple_eq h1 h2 I.kIn J (tq.up _ (by decide)) ⟨rfl, q⟩)),
      fun A Q E q => wpAny_tryCompare_declines ty F.slot_tuple_ne (GQ.call_here F.slot_tuple_ne ty F.entry_tuple_ne (F.args_tuple_ne_2 _ _) (dq_tuple_ne h1 h2 I.kIn J (tq.up _ (by decide)) ⟨rfl, q⟩))⟩
  | @dct a xs h =>
    cases (show u = Value.ref a from r)
    obtain ⟨_, _, vs, _, o, es, ep, h1, h2, _⟩ := (show ObjOk X.prog X.w H s.heap a (.dK xs) from I.hok a _ h)
    have ty : s.TypeIs (.ref a) "dict" := ⟨_, h1, h2.1⟩
    exact ⟨"dict", by decide, ty, fun A Q E q => wpAny_tryCompare_declines ty F.slot_dict_eq (GQ.call_here F.slot_dict_eq ty F.entry_dict_eq (F.args_dict_eq_2 _ _) (dq_dict_eq h1 h2.1 I.kIn J (tq.up _ (by decide)) ⟨rfl, q⟩)),
      fun A Q E q => wpAny_tryCompare_declines ty F.slot_dict_ne (GQ.call_here F.slot_dict_ne ty F.entry_dict_ne (F.args_dict_ne_2 _ _) (dq_dict_ne h1 h2.1 I.kIn J (tq.up _ (by decide)) ⟨rfl, q⟩))⟩
end
end Tm
namespace Tm
open PySem PySem.Spec PyProof.Rows L2
section
variable {prog : Program} {w : World} {A : Around} {E : Value → Shared → Prop} {s : Shared} {K : PySem.W.Frag} {x C fE : Addr} {ox : Obj} {od : Option Obj} {u : Value} {Q : Option Value → Shared → Prop}
theorem own_eq (Z : K.In s.heap) (J : PySem.W.InstAt s.heap x ox C od) (tq : TQ K C fE) (h : wpAny (model prog w) A (call (.ref fE) [.ref x, u]) (fun v s' => ∃ b, v = .bool b ∧ Q (some (.bool b)) s') E s) :
    wpAny (model prog w) A (tryCompare (.ref x) "__eq__" u) Q E s := by
  unfold tryCompare
  refine wpAny_bind (PySem.W.ifBound_K Z J tq.eqF tq.fn (wpAny_mono h (fun v s' hv => ?_) fun _ _ e => e))
  obtain ⟨b, rfl, q⟩ := hv
  exact wpAny_pure q
theorem own_ne (Z : K.In s.heap) (J : PySem.W.InstAt s.heap x ox C od) (tq : TQ K C fE) (hu : A.in1.units < cLine) (h : wpAny (model prog w) A.in1 (call (.ref fE) [.ref x, u]) (fun v s' => ∃ b, v = .bool b ∧ Q (some (.bool (!b))) s') E s) :
    wpAny (model prog w) A (tryCompare (.ref x) "__ne__" u) Q E s := by
  have S := F.cmp_object.ne
  have L : PySem.W.Looks (model prog w) s.heap (isInstance (.ref x) (.type "object")) true := J.type.andThen (PySem.W.looks_mroIn Z tq.ob)
  have body : wpAny (model prog w) A.in1 (Builtin.«object.__ne__» ⟨[.ref x, u], []⟩) (fun fin s' => match fin with | .done (.ret v) => (∃ b, v = .bool b ∧ Q (some (.bool b)) s') | _ => False) E s := by
    unfold Builtin.«object.__ne__»
    refine wpAny_bind (m := slotArgs "__ne__" 1 ⟨[.ref x, u], []⟩) ?_
    refine wpAny_of_eq (a := (.ref x, [u])) rfl ?_
    dsimp only
    refine wpAny_bind (wpAny_cRoomFor hu ?_)
    refine wpAny_bind (m := callSpecialIfBound? (.ref x) "__eq__" [u]) (PySem.W.ifBound_K Z J tq.eqF tq.fn (wpAny_mono h (fun v s' hv => ?_) fun _ _ e => e))
    obtain ⟨b, rfl, q⟩ := hv
    refine wpAny_bind (m := truthy (.bool b)) (wpAny_truthy_bool ?_)
    exact wpAny_pure ⟨_, rfl, q⟩
  have cl : wpAny (model prog w) A (call (.builtin "object.__ne__") [.ref x, u]) (fun v s' => ∃ b, v = .bool b ∧ Q (some (.bool b)) s') E s := by
    refine wpAny_call (codeAny_call_builtin S.plain F.cmpEntry_ne ?_)
    simp only [checkBuiltinCall, F.cmpKind_ne, F.cmpSplit_ne]
    refine wpAny_bind (L.here ?_)
    have ha := F.cmpArgs_ne (.ref x) u
    cases hsig : Manifest.signature? "object.__ne__" with
    | none =>
      exact wpAny_pure (wpAny_mono body (fun fin s' z => by
        cases fin with
        | done f => cases f with
          | ret v => exact z
          | _ => exact z.elim
        | again c => exact z.elim) fun _ _ z => z)
    | some sig =>
      simp only [argsOk, hsig] at ha
      have h2 : Bind.checkArgs "object.__ne__" sig ⟨.ref x :: [u], []⟩ = pure () := ha
      show wpAny _ _ (Bind.checkArgs "object.__ne__" sig ⟨.ref x :: [u], []⟩) _ E _
      rw [h2]
      exact wpAny_pure (wpAny_mono body (fun fin s' z => by
        cases fin with
        | done f => cases f with
          | ret v => exact z
          | _ => exact z.elim
        | again c => exact z.elim) fun _ _ z => z)
  unfold tryCompare callSpecialIfBound? bindSpecialIfBound?
  refine wpAny_bind (wpAny_holding (wpAny_bind (wpAny_bind (wpAny_bind (J.type.here ((PySem.W.looks_findIn Z tq.neF).here ?_))))))
  simp only [S.bind]
  have fin : wpAny (model prog w) A (call (.builtin "object.__ne__") ([.ref x] ++ [u]) >>= fun v => pure (some v)) (fun r => wpAny (model prog w) A (match r with | some .notImplemented | none => pure none | some v => pure (some v)) Q E) E s :=
    wpAny_bind (wpAny_mono cl (fun v s' z => wpAny_pure (by obtain ⟨b, rfl, q⟩ := z; exact wpAny_pure q)) fun _ _ z => z)
  refine wpAny_bind (wpAny_askSetting (wpAny_ite ?_))
  split
  · exact wpAny_bind (wpAny_pure (wpAny_pure fin))
  · exact wpAny_tryCatch (wpAny_bind (wpAny_pure (wpAny_pure fin)))
end
end Tm
namespace Tm
open PySem PySem.Spec PyProof.Rows L2
section
variable {prog : Program} {w : World} {A : Around} {E : Value → Shared → Prop} {s : Shared} {K : PySem.W.Frag} {x C fE : Addr} {ox : Obj} {od : Option Obj} {u tb : Value} {Q : Value → Shared → Prop}
theorem rcL {op : CmpOp} (hu : A.units < cLine) (Z : K.In s.heap) (J : PySem.W.InstAt s.heap x ox C od) (hb : PySem.W.Looks (model prog w) s.heap (typeOf u) tb) (hn : PySem.W.notFirst K C tb = true)
    (one : wpAny (model prog w) A (tryCompare (.ref x) (cmpInfo op).2.1 u) (fun r s' => ∃ v, r = some v ∧ Q v s') E s) : wpAny (model prog w) A (richCompare op (.ref x) u) Q E s := by
  unfold richCompare
  simp only [oneThing_ref]
  refine wpAny_holding (wpAny_bind (wpAny_cRoomFor hu ?_))
  refine wpAny_bind (J.type.here (wpAny_bind (hb.here ?_)))
  split
  · rename_i q
    have e : PySem.W.subIn K tb (.ref C) = some false := by
      rcases Bool.or_eq_true_iff.mp hn with e | e
      · rw [beq_iff_eq.mp e] at q; simp at q
      · exact beq_iff_eq.mp e
    refine wpAny_bind ((PySem.W.looks_subIn Z e).here ?_)
    simp only [Bool.false_eq_true, if_false]
    refine wpAny_bind (wpAny_mono one (fun r s' z => ?_) fun _ _ e => e)
    obtain ⟨v, rfl, hq⟩ := z
    exact wpAny_pure hq
  · refine wpAny_bind (wpAny_pure ?_)
    simp only [Bool.false_eq_true, if_false]
    refine wpAny_bind (wpAny_mono one (fun r s' z => ?_) fun _ _ e => e)
    obtain ⟨v, rfl, hq⟩ := z
    exact wpAny_pure hq
theorem rcR {op : CmpOp} {T : String} (hu : A.units < cLine) (Z : K.In s.heap) (J : PySem.W.InstAt s.heap x ox C od) (ht : s.TypeIs u T) (up : PySem.W.mroIn K C (.type T) = some false)
    (dec : ∀ Q' : Option Value → Shared → Prop, Q' none s → wpAny (model prog w) A (tryCompare u (cmpInfo op).2.1 (.ref x)) Q' E s)
    (one : wpAny (model prog w) A (tryCompare (.ref x) (cmpInfo op).2.2 u) (fun r s' => ∃ v, r = some v ∧ Q v s') E s) : wpAny (model prog w) A (richCompare op u (.ref x)) Q E s := by
  rcases hi : cmpInfo op with ⟨sym, f, r⟩
  rw [hi] at dec one
  simp only [richCompare, hi, ht.oneThing_none]
  refine wpAny_holding (wpAny_bind (wpAny_cRoomFor hu ?_))
  refine wpAny_bind (wpAny_typeOf ht (wpAny_bind (J.type.here ?_)))
  have hne : (Value.type T != Value.ref C) = true := by
    rw [bne_iff_ne]; exact fun z => nomatch z
  simp only [hne, if_true]
  refine wpAny_bind ((PySem.W.looks_mroIn Z up).here ?_)
  simp only [Bool.false_eq_true, if_false, Bool.not_false, if_true]
  refine wpAny_bind (dec _ ?_)
  refine wpAny_bind (wpAny_mono one (fun r s' z => ?_) fun _ _ e => e)
  obtain ⟨v, rfl, hq⟩ := z
  exact wpAny_pure hq
end
section
variable {X : Cx} {C fE : Addr} {E : XK}
/-- a call of an own function from here, one level inside -/
theorem run_in0 {CX : CXT} {k : Nat} {f : Addr} {fd : FuncData} {ps : List Str} {sp : Sp} {pins : List (Addr × Obj)} {σ : L2.St} {H : Hp} {s : Shared} {Q : VK} {us : List Value} {vs : List V} (F : FnOk X.prog X.w X.K X.mg X.base CX k f fd ps sp) (b : Binds X.K fd ps []) (hr : Room k X.A) (hx : Passes CX X E) (I : Inv X pins σ H s) (r : Vals vs us) (h : sp vs H Q E) :
    wpAny (model X.prog X.w) X.A (call (.ref f) us) (EP X pins σ Q) X.xe s := run_fn F hr b .nil hx I r (by rw [List.append_nil]; exact h)
theorem run_in1 {CX : CXT} {k : Nat} {f : Addr} {fd : FuncData} {ps : List Str} {sp : Sp} {pins : List (Addr × Obj)} {σ : L2.St} {H : Hp} {s : Shared} {Q : VK} {us : List Value} {vs : List V} (F : FnOk X.prog X.w X.K X.mg X.base CX k f fd ps sp) (b : Binds X.K fd ps []) (hr : Room (k + 1) X.A) (hx : Passes CX X E) (I : Inv X pins σ H s) (r : Vals vs us) (h : sp vs H Q E) :
    wpAny (model X.prog X.w) X.A.in1 (call (.ref f) us) (EP X pins σ Q) X.xe s := by
  have hl : (us ++ []).length = ps.length := by rw [List.append_nil, ← r.length]; exact F.len _ _ _ _ h
  refine wpAny_call (codeAny_mono (F.run X.A.in1 X.stack s H ⟨us, []⟩ (us ++ []) vs Q E hr.in1 I.env0.in1 (b s us I.kIn hl) (by rw [List.append_nil]; exact r) h) fun r s' hq => ?_)
  cases r with
  | error e => exact hx pins σ H s e s' I hq
  | ok fl =>
    cases fl with
    | ret u => exact I.after hq
    | next => exact False.elim hq
    | brk => exact False.elim hq
    | cont => exact False.elim hq
/-- x == y, x != y, one of them an instance of the class, the other of a known kind: m what is asked of the answer -/
def rOwnC (C : Addr) (m : Bool → Bool) : R2 := fun x y H Q => ∃ b c, Kn C H x b ∧ Kn C H y c ∧ ((b = true ∧ spEqT C [x, y] H (fun v H' => ∃ r, v = .bl r ∧ Q (.bl (m r)) H') (fun _ _ _ => False)) ∨ (b = false ∧ c = true ∧ spEqT C [y, x] H (fun v H' => ∃ r, v = .bl r ∧ Q (.bl (m r)) H') (fun _ _ _ => False)))
/-- the class's == -/
structure EqOk (P : Program) (w : World) (K : PySem.W.Frag) (mg : Str → Option Value) (base : Heap) (C : Addr) : Prop where
  ex : ∃ fE fd, TQ K C fE ∧ FnOk P w K mg base CX0 1 fE fd ["self", "other"] (spEqT C) ∧ Binds K fd ["self", "other"] []
theorem kn_ins {H : Hp} {x : V} (k : Kn C H x true) : ∃ a dx fs, x = .ref a ∧ H a = some (.ins C dx fs) := by
  cases k with
  | tmp h => exact ⟨_, _, _, rfl, h⟩
theorem ins_at {pins : List (Addr × Obj)} {σ : L2.St} {H : Hp} {s : Shared} {a dx : Addr} {fs : List (Str × V)} (I : Inv X pins σ H s) (h : H a = some (.ins C dx fs)) : ∃ ox od, PySem.W.InstAt s.heap a ox C od ∧ ox.data = .plain := StX.insC_at I (.inr ⟨dx, fs, h⟩)
theorem dec_looks {s : Shared} {u : Value} {T : String} (h : s.TypeIs u T) : PySem.W.Looks (model X.prog X.w) s.heap (typeOf u) (.type T) := fun A Q E s' k q => by
  refine wpAny_typeOf ?_ q
  cases u with
  | ref a =>
    obtain ⟨o, h1, h2⟩ := h
    exact ⟨o, k _ _ h1, h2⟩
  | _ => exact h
theorem kn_looks {pins : List (Addr × Obj)} {σ : L2.St} {H : Hp} {s : Shared} {y : V} {u : Value} {c : Bool} (tq : TQ X.K C fE) (k : Kn C H y c) (I : Inv X pins σ H s) (r : RelV y u) : ∃ tb, PySem.W.Looks (model X.prog X.w) s.heap (typeOf u) tb ∧ PySem.W.notFirst X.K C tb = true := by
  cases c with
  | true =>
    obtain ⟨a, dx, fs, rfl, h⟩ := kn_ins k
    cases (show u = Value.ref a from r)
    obtain ⟨ox, od, J, _⟩ := ins_at I h
    exact ⟨_, J.type, by unfold PySem.W.notFirst; simp⟩
  | false =>
    have : ∃ T, T ∈ knTs ∧ s.TypeIs u T := by
      cases k with
      | non => cases (show u = Value.none from r); exact ⟨"NoneType", by decide, rfl⟩
      | bl b => cases (show u = Value.bool b from r); exact ⟨"bool", by decide, rfl⟩
      | int i => obtain ⟨t, rfl⟩ := (show ∃ t, u = Value.int i t from r); exact ⟨"int", by decide, rfl⟩
      | str z hz => obtain ⟨t, rfl⟩ := (show ∃ t, u = Value.str z t from r); exact ⟨"str", by decide, rfl⟩
      | @lst a xs h =>
        cases (show u = Value.ref a from r)
        obtain ⟨_, its, n, _, h1⟩ := (show ObjOk X.prog X.w H s.heap a (.lst xs) from I.hok a _ h)
        exact ⟨"list", by decide, _, h1, rfl⟩
      | @tup a xs h =>
        cases (show u = Value.ref a from r)
        obtain ⟨_, _, _, o, h1, h2, _⟩ := (show ObjOk X.prog X.w H s.heap a (.tup xs) from I.hok a _ h)
        exact ⟨"tuple", by decide, _, h1, h2⟩
      | @dct a xs h =>
        cases (show u = Value.ref a from r)
        obtain ⟨_, _, vs, _, o, es, ep, h1, h2, _⟩ := (show ObjOk X.prog X.w H s.heap a (.dK xs) from I.hok a _ h)
        exact ⟨"dict", by decide, _, h1, h2.1⟩
    obtain ⟨T, hm, ht⟩ := this
    refine ⟨_, dec_looks ht, ?_⟩
    unfold PySem.W.notFirst
    rw [tq.dn T hm]
    simp
theorem op_eqT (h : EqOk X.prog X.w X.K X.mg X.base C) {j : Nat} (hr : Room j X.A) (hj : 2 ≤ j) : OpR X (compareOp .Eq) (rOwnC C id) := by
  intro pins s σ H x y v u Q I rx ry q
  obtain ⟨fE, fd, tq, F, b⟩ := h.ex
  have fin : ∀ v s', EP X pins σ (fun v H' => ∃ r, v = .bl r ∧ Q (.bl (id r)) H') v s' → ∃ b, v = Value.bool b ∧ EP X pins σ Q (.bool b) s' := fun v s' ⟨y, H', I', ry, r, ey, q⟩ => by
    subst ey
    exact ⟨r, ry, .bl r, H', I', rfl, q⟩
  obtain ⟨bx, cy, kx, ky, q⟩ := q
  show wpAny _ X.A (richCompare .Eq v u) _ _ s
  rcases q with ⟨rfl, q⟩ | ⟨rfl, rfl, q⟩
  · obtain ⟨tb, L, nf⟩ := kn_looks tq ky I ry
    obtain ⟨a, dx, fs, rfl, hi⟩ := kn_ins kx
    cases (show v = Value.ref a from rx)
    obtain ⟨ox, od, J, hd⟩ := ins_at I hi
    refine rcL hr.units0 I.kIn J L nf (own_eq I.kIn J tq (wpAny_mono (run_in0 F b (hr.mono (by omega)) pass0 I (.cons rx (.cons ry .nil)) q) (fun v s' z => ?_) fun _ _ z => z))
    obtain ⟨b, e, z⟩ := fin v s' z
    exact ⟨b, e, _, rfl, z⟩
  · obtain ⟨a, dx, fs, rfl, hi⟩ := kn_ins ky
    cases (show u = Value.ref a from ry)
    obtain ⟨ox, od, J, hd⟩ := ins_at I hi
    obtain ⟨T, D⟩ := dec_of tq kx I rx J hd
    refine rcR hr.units0 I.kIn J D.ty (tq.up _ D.mem) (fun Q' z => D.eq _ _ _ z) (own_eq I.kIn J tq (wpAny_mono (run_in0 F b (hr.mono (by omega)) pass0 I (.cons ry (.cons rx .nil)) q) (fun v s' z => ?_) fun _ _ z => z))
    obtain ⟨b, e, z⟩ := fin v s' z
    exact ⟨b, e, _, rfl, z⟩
theorem op_neT (h : EqOk X.prog X.w X.K X.mg X.base C) {j : Nat} (hr : Room j X.A) (hj : 2 ≤ j) : OpR X (compareOp .NotEq) (rOwnC C not) := by
  intro pins s σ H x y v u Q I rx ry q
  obtain ⟨fE, fd, tq, F, b⟩ := h.ex
  have fin : ∀ v s', EP X pins σ (fun v H' => ∃ r, v = .bl r ∧ Q (.bl (not r)) H') v s' → ∃ b, v = Value.bool b ∧ EP X pins σ Q (.bool (!b)) s' := fun v s' ⟨y, H', I', ry, r, ey, q⟩ => by
    subst ey
    exact ⟨r, ry, .bl (!r), H', I', rfl, q⟩
  have hu : X.A.in1.units < cLine := (hr.mono (show 1 ≤ j by omega)).in1.units0
  obtain ⟨bx, cy, kx, ky, q⟩ := q
  show wpAny _ X.A (richCompare .NotEq v u) _ _ s
  rcases q with ⟨rfl, q⟩ | ⟨rfl, rfl, q⟩
  · obtain ⟨tb, L, nf⟩ := kn_looks tq ky I ry
    obtain ⟨a, dx, fs, rfl, hi⟩ := kn_ins kx
    cases (show v = Value.ref a from rx)
    obtain ⟨ox, od, J, hd⟩ := ins_at I hi
    refine rcL hr.units0 I.kIn J L nf (own_ne I.kIn J tq hu (wpAny_mono (run_in1 F b (hr.mono hj) pass0 I (.cons rx (.cons ry .nil)) q) (fun v s' z => ?_) fun _ _ z => z))
    obtain ⟨b, e, z⟩ := fin v s' z
    exact ⟨b, e, _, rfl, z⟩
  · obtain ⟨a, dx, fs, rfl, hi⟩ := kn_ins ky
    cases (show u = Value.ref a from ry)
    obtain ⟨ox, od, J, hd⟩ := ins_at I hi
    obtain ⟨T, D⟩ := dec_of tq kx I rx J hd
    refine rcR hr.units0 I.kIn J D.ty (tq.up _ D.mem) (fun Q' z => D.ne _ _ _ z) (own_ne I.kIn J tq hu (wpAny_mono (run_in1 F b (hr.mono hj) pass0 I (.cons ry (.cons rx .nil)) q) (fun v s' z => ?_) fun _ _ z => z))
    obtain ⟨b, e, z⟩ := fin v s' z
    exact ⟨b, e, _, rfl, z⟩
end
end Tm
namespace PySem.W
open Lean Elab Tactic Meta PySem PySem.Calls PyProof.Rows
section
variable {prog : Program} {w : World} {M : Model} {A : Around} {E : Value → Shared → Prop} {s : Shared} {K : Frag} {x C L f : Addr} {h₀ : Heap} {m : Str → Option Value} {ox : Obj} {od : Option Obj} {nm T : String}
theorem binL {op : Operator} {b : Value} {fo ro rc : Option Value} {Q : Value → Shared → Prop} (X : K.In s.heap) (I : InstAt s.heap x ox C od) (hb : Looks (model prog w) s.heap (typeOf b) (.type T)) (hc : selfFirst K C = true)
    (hs : findIn K (.ref C) (PySem.dunder op.info.2) = some (some (.ref f))) (hf : isFn K (.ref f) = true) (hr : findIn K (.ref C) (dunderR op.info.2) = some rc) (hp : rc = none ∨ ∃ g : Addr, rc = some (.ref g))
    (h1 : findIn K (.type T) (PySem.dunder op.info.2) = some fo) (h2 : findIn K (.type T) (dunderR op.info.2) = some ro) (hsub : subIn K (.type T) (.ref C) = some false)
    (h : wpAny (model prog w) A (call (.ref f) [.ref x, b]) (CmpBack Q) E s) : wpAny (model prog w) A (binaryOp op (.ref x) b) Q E s := by
  obtain ⟨cd, rest, hcd, hm⟩ := ksp_first hc
  rcases hi : op.info with ⟨sym, nm'⟩
  rw [hi] at hs hr h1 h2
  dsimp only at hs hr h1 h2
  have one := ksp_try X I hs hf h
  obtain ⟨hh, g, d, tt, os⟩ := s
  have L1 : Looks (model prog w) hh (typeOf (.ref x)) (.ref C) := I.type
  have L2 : Looks (model prog w) hh (typeOf b) (.type T) := hb
  have L3 : Looks (model prog w) hh (fillsNumberSlot (.ref C) nm') true := fills_K X hcd hm hs
  have L4 : Looks (model prog w) hh (fillsNumberSlot (.type T) nm') ((fo.isSome && !isSeqSlot fo) || (ro.isSome && !isSeqSlot ro)) := ksp_fillsT X h1 h2
  have L5 : Looks (model prog w) hh (isSubtype (.type T) (.ref C)) false := looks_subIn X hsub
  have L6 : Looks (model prog w) hh (numberSlotInPython (.ref C) nm') true := ksp_inPy X hs hr hp
  have L7 : Looks (model prog w) hh (numberSlotInPython (.type T) nm') false := Looks.of_pure rfl
  have L8 : Looks (model prog w) hh (typeLookup (.type T) (dunderR nm')) ro := looks_findIn X h2
  generalize ((fo.isSome && !isSeqSlot fo) || (ro.isSome && !isSeqSlot ro)) = right at L4
  have hne : (Value.ref C == Value.type T) = false := Bool.eq_false_iff.mpr fun q => by cases beq_iff_eq.mp q
  simp only [binaryOp, hi]
  refine wpAny_holding (wpAny_bind ?_)
  unfold binaryOp1
  refine wpAny_bind (L1.at (wpAny_bind (L2.at (wpAny_bind (L3.at ?_)))))
  simp only [hne, Bool.false_eq_true, if_false]
  cases right with
  | false =>
    ksp_lk
    refine wpAny_mono one (fun r s' hr' => ?_) fun _ _ e => e
    obtain ⟨v, rfl, hq⟩ := hr'
    ksp_lk
    exact hq
  | true =>
    ksp_lk
    refine wpAny_mono one (fun r s' hr' => ?_) fun _ _ e => e
    obtain ⟨v, rfl, hq⟩ := hr'
    ksp_lk
    exact hq
end
end PySem.W
namespace Tm
open PySem PySem.Spec PyProof.Rows L2
/-- what the text says of an operator of the class -/
structure TB (K : PySem.W.Frag) (C f : Addr) (op : Operator) : Prop where
  sf : PySem.W.selfFirst K C = true
  at_ : PySem.W.findIn K (.ref C) (PySem.dunder op.info.2) = some (some (.ref f))
  fn : PySem.W.isFn K (.ref f) = true
  rn : PySem.W.findIn K (.ref C) (dunderR op.info.2) = some none
  dn : ∀ T ∈ knTs, PySem.W.subIn K (.type T) (.ref C) = some false
section
variable {X : Cx} {C f : Addr} {E : XK}
theorem kn_type {pins : List (Addr × Obj)} {σ : L2.St} {H : Hp} {s : Shared} {y : V} {u : Value} (k : Kn C H y false) (I : Inv X pins σ H s) (r : RelV y u) : ∃ T ∈ knTs, s.TypeIs u T := by
  cases k with
  | non => cases (show u = Value.none from r); exact ⟨"NoneType", by decide, rfl⟩
  | bl b => cases (show u = Value.bool b from r); exact ⟨"bool", by decide, rfl⟩
  | int i => obtain ⟨t, rfl⟩ := (show ∃ t, u = Value.int i t from r); exact ⟨"int", by decide, rfl⟩
  | str z hz => obtain ⟨t, rfl⟩ := (show ∃ t, u = Value.str z t from r); exact ⟨"str", by decide, rfl⟩
  | @lst a xs h =>
    cases (show u = Value.ref a from r)
    obtain ⟨_, its, n, _, h1⟩ := (show ObjOk X.prog X.w H s.heap a (.lst xs) from I.hok a _ h)
    exact ⟨"list", by decide, _, h1, rfl⟩
  | @tup a xs h =>
    cases (show u = Value.ref a from r)
    obtain ⟨_, _, _, o, h1, h2, _⟩ := (show ObjOk X.prog X.w H s.heap a (.tup xs) from I.hok a _ h)
    exact ⟨"tuple", by decide, _, h1, h2⟩
  | @dct a xs h =>
    cases (show u = Value.ref a from r)
    obtain ⟨_, _, vs, _, o, es, ep, h1, h2, _⟩ := (show ObjOk X.prog X.w H s.heap a (.dK xs) from I.hok a _ h)
    exact ⟨"dict", by decide, _, h1, h2.1⟩
/-- x & y, x | y: x an instance, y of a known kind -/
def rOwnB (C : Addr) (sp : Sp) (E : XK) : R2 := fun x y H Q => ∃ c, Kn C H x true ∧ Kn C H y c ∧ sp [x, y] H (fun v H' => ∃ p, v = .ref p ∧ Q v H') E
theorem finds {K : PySem.W.Frag} : ∀ T ∈ knTs, ∀ n ∈ ([("__and__" : Str), "__rand__", "__or__", "__ror__"] : List Str), ∃ r, PySem.W.findIn K (.type T) n = some r := by
  have h : ∀ T ∈ knTs, ∀ n ∈ ([("__and__" : Str), "__rand__", "__or__", "__ror__"] : List Str), (PySem.fastLookup T n).isSome = true := by decide +kernel
  intro T hT n hn
  exact Option.isSome_iff_exists.mp (h T hT n hn)
theorem op_ownB {op : Operator} (hop : op = .BitAnd ∨ op = .BitOr) {CX : CXT} {k j : Nat} {fd : FuncData} {ps : List Str} {sp : Sp} (tb : TB X.K C f op) (F : FnOk X.prog X.w X.K X.mg X.base CX k f fd ps sp) (b : Binds X.K fd ps []) (hr : Room j X.A) (hj : k ≤ j) (hx : Passes CX X E) :
    OpR X (binaryOp op) (rOwnB C sp E) := by
  intro pins s σ H x y v u Q I rx ry q
  obtain ⟨c, kx, ky, q⟩ := q
  obtain ⟨a, dx, fs, rfl, hi⟩ := kn_ins kx
  cases (show v = Value.ref a from rx)
  obtain ⟨ox, od, J, hd⟩ := ins_at I hi
  have one : wpAny (model X.prog X.w) X.A (call (.ref f) [.ref a, u]) (PySem.W.CmpBack (EP X pins σ Q)) X.xe s := wpAny_mono (run_in0 F b (hr.mono hj) hx I (.cons rx (.cons ry .nil)) q) (fun v s' z => by
    obtain ⟨y, H', I', ry, p, ey, q⟩ := z
    subst ey
    cases (show v = Value.ref p from ry)
    exact ⟨.ref p, H', I', rfl, q⟩) fun _ _ z => z
  cases c with
  | true =>
    obtain ⟨a2, dx2, fs2, rfl, hi2⟩ := kn_ins ky
    cases (show u = Value.ref a2 from ry)
    obtain ⟨ox2, od2, J2, hd2⟩ := ins_at I hi2
    obtain ⟨mm, Fr⟩ := I.fr
    exact PySem.W.binop_K Fr I.ok.mod.kin J J2.type tb.sf tb.at_ tb.fn one
  | false =>
    obtain ⟨T, hm, ht⟩ := kn_type ky I ry
    have g : PySem.dunder op.info.2 ∈ ([("__and__" : Str), "__rand__", "__or__", "__ror__"] : List Str) ∧ dunderR op.info.2 ∈ ([("__and__" : Str), "__rand__", "__or__", "__ror__"] : List Str) := by
      rcases hop with rfl | rfl <;> decide +kernel
    obtain ⟨fo, h1⟩ := finds (K := X.K) T hm _ g.1
    obtain ⟨ro, h2⟩ := finds (K := X.K) T hm _ g.2
    exact PySem.W.binL I.kIn J (dec_looks ht) tb.sf tb.at_ tb.fn tb.rn (.inl rfl) h1 h2 (tb.dn T hm) one
/-- ~x -/
def rOwnU (C : Addr) (sp : Sp) (E : XK) : V → Hp → VK → Prop := fun x H Q => Kn C H x true ∧ sp [x] H Q E
theorem un_inv {CX : CXT} {k j : Nat} {fd : FuncData} {ps : List Str} {sp : Sp} (at_ : PySem.W.findIn X.K (.ref C) "__invert__" = some (some (.ref f))) (fn : PySem.W.isFn X.K (.ref f) = true) (F : FnOk X.prog X.w X.K X.mg X.base CX k f fd ps sp) (b : Binds X.K fd ps []) (hr : Room j X.A) (hj : k ≤ j) (hx : Passes CX X E) :
    UnR X (unaryOp .Invert) (rOwnU C sp E) := by
  intro pins s σ H x v Q I rx q
  obtain ⟨kx, q⟩ := q
  obtain ⟨a, dx, fs, rfl, hi⟩ := kn_ins kx
  cases (show v = Value.ref a from rx)
  obtain ⟨ox, od, J, hd⟩ := ins_at I hi
  obtain ⟨mm, Fr⟩ := I.fr
  exact PySem.W.ksp_inv Fr I.ok.mod.kin J at_ fn (run_in0 F b (hr.mono hj) hx I (.cons rx .nil) q)
theorem run_in2 {CX : CXT} {k : Nat} {f : Addr} {fd : FuncData} {ps : List Str} {sp : Sp} {pins : List (Addr × Obj)} {σ : L2.St} {H : Hp} {s : Shared} {Q : VK} {us : List Value} {vs : List V} (F : FnOk X.prog X.w X.K X.mg X.base CX k f fd ps sp) (b : Binds X.K fd ps []) (hr : Room (k + 2) X.A) (hx : Passes CX X E) (I : Inv X pins σ H s) (r : Vals vs us) (h : sp vs H Q E) :
    wpAny (model X.prog X.w) X.A.in1.in1 (call (.ref f) us) (EP X pins σ Q) X.xe s := by
  have hl : (us ++ []).length = ps.length := by rw [List.append_nil, ← r.length]; exact F.len _ _ _ _ h
  refine wpAny_call (codeAny_mono (F.run X.A.in1.in1 X.stack s H ⟨us, []⟩ (us ++ []) vs Q E hr.in1.in1 I.env0.in1.in1 (b s us I.kIn hl) (by rw [List.append_nil]; exact r) h) fun r s' hq => ?_)
  cases r with
  | error e => exact hx pins σ H s e s' I hq
  | ok fl =>
    cases fl with
    | ret u => exact I.after hq
    | next => exact False.elim hq
    | brk => exact False.elim hq
    | cont => exact False.elim hq
/-- str(x), x an instance with an own __str__ -/
theorem call_strT {k j : Nat} {fd : FuncData} {ps : List Str} {sp : Sp} {CX : CXT} (at_ : PySem.W.findIn X.K (.ref C) "__str__" = some (some (.ref f))) (fn : PySem.W.isFn X.K (.ref f) = true) (F : FnOk X.prog X.w X.K X.mg X.base CX k f fd ps sp) (b : Binds X.K fd ps []) (hr : Room j X.A) (hj : k + 2 ≤ j) (hx : Passes CX X E) :
    CallR X (.type "str") (fun xs H Q => ∃ x, xs = [x] ∧ Kn C H x true ∧ sp [x] H (fun v H' => ∃ z, v = .str z ∧ Q v H') E) := by
  intro pins s σ H xs us Q I r q
  obtain ⟨x, rfl, kx, q⟩ := q
  obtain ⟨u, rfl, rx⟩ := vals1 r
  obtain ⟨a, dx, fs, rfl, hi⟩ := kn_ins kx
  cases (show u = Value.ref a from rx)
  obtain ⟨ox, od, J, hd⟩ := ins_at I hi
  have hr2 := hr.mono hj
  refine PySem.W.kso_call (show X.A.in1.in1.units < cLine from hr2.in1.in1.units0) I.kIn J at_ fn (wpAny_mono (run_in2 F b hr2 hx I (.cons rx .nil) q) (fun v s' z => ?_) fun _ _ z => z)
  obtain ⟨y, H', I', ry, z, ey, q⟩ := z
  subst ey
  obtain ⟨t, rfl⟩ := (show ∃ t, v = Value.str z t from ry)
  exact ⟨.str z, H', I', ⟨t, rfl⟩, q⟩
end
end Tm
/-! need_temporal, temporal_in, from_text -/
namespace Tm
open PySem PySem.Spec PyProof.Rows L2
abbrev sNeed : Stmt := top 16
abbrev sRead : Stmt := top 17
/-- a def that may raise, by its name -/
structure CalX (P : Program) (w : World) (K : PySem.W.Frag) (mg : Str → Option Value) (base : Heap) (k : Nat) (x : Str) (sp : Sp) (dvs : List V) : Prop where
  ex : ∃ (f : Addr) (fd : FuncData) (ps : List Str) (ds : List Value), FnOk P w K mg base (L2.CX P w) k f fd ps sp ∧ mg x = some (.ref f) ∧ PySem.W.keepIn K (.ref f) = true ∧ Binds K fd ps ds ∧ Vals dvs ds
theorem pe_cX {X : Cx} {k j : Nat} {x : Str} {sp : Sp} {dvs : List V} {E : XK} {p pos : Pos} {e : Expr} {es : List Expr} {t : TA} (c : CalX X.prog X.w X.K X.mg X.base k x sp dvs) (hr : Room j X.A) (hk : k ≤ j) (hg : Gl X x) (hx : Passes (L2.CX X.prog X.w) X E) (ha : PA X (e :: es) t)
    (hdb : (x == ("__debug__" : Str)) = false := by decide) (he : starEach (e :: es) X.env = (false, eval e X.env) :: starEach es X.env := by rfl) (hpl : (backTo pos (starEach es X.env)).any (·.1) = false := by rfl) :
    PE X (.Call (.Name x p) (e :: es) [] pos) (tCall sp dvs E t) := by
  obtain ⟨f, fd, ps, ds, F, hm, kp, b, d⟩ := c.ex
  exact pe_call F (hr.mono hk) hg hm kp b d hx ha hdb he hpl
abbrev fsBX (n : Int) : List (Str × V) := [("word", .int n), ("line", .int 0)]
theorem pe_popK {X : Cx} (K : PySem.W.Frag) {o : Expr} {to : TE} {apos cpos : Pos} (ho : PE X o to) (hK : X.K = K := by rfl) (hbase : attributeBase o "pop" X.env (eval o X.env) = eval o X.env := by rfl) (hline : (apos.endLine == cpos.line) = true := by rfl) :
    PE X (.Call (.Attribute o "pop" apos) [] [] cpos) (tBM0 K "list" rPop to) := by
  subst hK
  exact pe_bm0 PySem.F.plainAttrs_list PySem.F.slot_list_pop PySem.F.type_list_pop mt_pop ho hbase hline
def spNeed (C BT : Addr) : Sp := fun vs H Q E => ∃ (v : V) (b : Bool) (p : Str) (I : Hp), vs = [v, .str p] ∧ Same I H ∧ Kn C I v b ∧ (b = true → Q .non H) ∧ (b = false → Leaves NoS I H BT (fsBT p) E)
/-- a text of words -/
structure Tx (z : Str) (ws : List Str) : Prop where
  eq : z = Txt.join " " ws
  ne : ws ≠ []
  bl : ∀ y ∈ ws, 32 ∉ y.cps.toList
  ln : ∀ y ∈ ws, y.length ≤ 100000
  few : ws.length ≤ 100000
  sm : z.length + 2 ≤ sizeLine
def spRead (C BX TM : Addr) : Sp := fun vs H Q E => ∃ (v : V) (b : Bool) (I : Hp), vs = [v] ∧ Same I H ∧ Kn C I v b ∧ (isStr v = false → Leaves NoS I H BX (fsBX 0) E) ∧
  (∀ z, v = .str z → ∃ ws, Tx z ws ∧ (∀ n, fault ws = some n → Leaves NoS I H BX (fsBX n) E) ∧ (fault ws = none → 40 < ws.length → Leaves NoS I H TM fsTM E) ∧
    (fault ws = none → ws.length ≤ 40 → ∀ (p : Addr) (m : Mdl) (I' H' : Hp), m.ok → m.words = ws → Go NoS I H I' H' → TIs C I' (.ref p) m → Q (.ref p) H'))
theorem Tx.split {z : Str} {ws : List Str} (t : Tx z ws) : Txt.split z " " = ws := by
  rw [t.eq]
  exact TL.split_join (s := 32) (S := []) rfl (by decide +kernel) t.ne t.bl
theorem tinit_mono {C BT TM : Addr} {vs : List V} {H : Hp} {Q Q' : VK} {E : XK} (h : spTInit C BT TM vs H Q E) (hQ : ∀ v H', Q v H' → Q' v H') : spTInit C BT TM vs H Q' E := by
  obtain ⟨x, dx, v, bv, ps, bs, I, h1, h2, h3, h4, h5, h6, h7, h8, h9, h10, h11⟩ := h
  refine ⟨x, dx, v, bv, ps, bs, I, h1, h2, h3, h4, h5, h6, h7, h8, h9, h10, fun n a b c => ?_⟩
  obtain ⟨m, k1, k2, k3, k4, k5, k6⟩ := h11 n a b c
  exact ⟨m, k1, k2, k3, k4, k5, fun z pa wa I' H' g a b c d => hQ _ _ (k6 z pa wa I' H' g a b c d)⟩
section
variable {P : Program} {w : World} {K : PySem.W.Frag} {mg : Str → Option Value} {base : Heap} {C BT BX TM : Addr}
theorem scNeed : FnScope ["value", "part"] ["value", "part"] (defScope sNeed) := ⟨rfl, rfl, rfl, by decide +kernel, rfl, by decide +kernel, by decide +kernel⟩
theorem ok_need {f : Addr} {fd : FuncData} (F : FunD K "need_temporal" "need_temporal" (defArgs sNeed) (defBody sNeed) (defScope sNeed) [.str "saying"] [] f fd) (T : TC K mg C) (eB : Err P w K mg base "BadTemporal" BT 1 (mk1 "part")) : FnOk P w K mg base (L2.CX P w) 3 f fd ["value", "part"] (spNeed C BT) := by
  refine F.ok scNeed (fun vs H Q E h => ?_) (fun cdv A outer s H vs Q E hr h => ?_)
  · obtain ⟨v, b, p, I, rfl, _⟩ := h
    rfl
  · obtain ⟨v, b, p, I, rfl, hI, kv, k1, k2⟩ := h
    obtain ⟨t, ty, kt, _⟩ := kn_ty T (kv.ext hI)
    refine ⟨_, pss_one (ps_if (pt_not (pt_val (pe_callB call_isi (by rfl) T.isi (by decide +kernel) (pa_cons (pv 0) (pa_cons (pe_glob (v := .ref C) rfl T.mgC rfl) pa_nil)))))
      (pss_one (ps_err rfl (takes_of rfl rfl rfl rfl) eB hr (by decide) rfl (pa_cons (pv 1) pa_nil))) pss_nil), ?_⟩
    refine ⟨_, rfl, _, _, t, _, b, rfl, .own C, ty, kt, b, rfl, ?_⟩
    cases b with
    | true => exact k1 rfl
    | false => exact ⟨_, rfl, mkO_end rfl (by show 1 ≤ 1000; decide) fun d hdd => (k2 rfl).out hI hdd⟩
theorem scRead : FnScope ["text", "words", "due", "at", "word", "many", "done", "parts", "_"] ["text"] (defScope sRead) := ⟨rfl, rfl, rfl, by decide +kernel, rfl, by decide +kernel, by decide +kernel⟩
/-- the built-in names that temporal_in asks -/
structure TR (mg : Str → Option Value) : Prop where
  enum : mg "enumerate" = none
  range : mg "range" = none
theorem ok_read {f : Addr} {fd : FuncData} (F : Fun K "temporal_in" "temporal_in" sRead f fd) (T : TC K mg C) (R : TR mg) (M : TmOk P w K mg base C BT TM) (cD : C8.Cal P w K mg base 2 "parts_due" (spPartsDue C) []) (eX : Err P w K mg base "BadText" BX 2 (mk2 "line" "word")) (eM : Err P w K mg base "TooMany" TM 2 (mk2 "what" "most"))
    (gM : ∃ t, mg "MOST_WORDS" = some (.int 40 t)) : FnOk P w K mg base (L2.CX P w) 5 f fd ["text"] (spRead C BX TM) := by
  obtain ⟨tM, gM⟩ := gM
  refine F.okX scRead (fun vs H Q E h => ?_) (fun cdv A outer s H vs Q E hr h => ?_)
  · obtain ⟨v, b, I, rfl, _⟩ := h
    rfl
  · obtain ⟨v, b, I, rfl, hI, kv, k1, k2⟩ := h
    obtain ⟨t, ty, _, ks⟩ := kn_ty T (kv.ext hI)
    refine ⟨_, pss_cons (ps_if (pt_not (pt_val (pe_callB call_isi (by rfl) T.isi (by decide +kernel) (pa_cons (pv 0) (pa_cons (pe_bltn (v := .ty "str") rfl T.str (by decide +kernel) rfl) pa_nil)))))
        (pss_one (ps_err rfl (takes_of rfl rfl rfl rfl) eX hr (by decide) rfl (pa_cons pe_int (pa_cons pe_int pa_nil)))) pss_nil)
      (pss_cons (ps_par (i := 1) (j := 2) rfl scRead.nd rfl rfl (by decide) rfl rfl (pa_cons (pe_split (pv 0) pe_str) (pa_cons pe_int pa_nil)) (by rfl))
      (pss_cons (ps_for (passes_of rfl) rfl (pi_enum (by rfl) R.enum (pa_cons (pv 1) pa_nil)) (pg_tup rfl (pgs_cons (pg_name (i := 3) scRead.nd rfl (Or.inl rfl)) (pgs_cons (pg_name (i := 4) scRead.nd rfl (Or.inl rfl)) pgs_nil)))
        (pss_cons (ps_set (i := 5) scRead.nd rfl (Or.inl rfl) (C8.pe_c cD hr (by decide) rfl (pa_cons (pv 4) pa_nil)))
        (pss_cons (ps_if (PW.pt (pw_or (pt_cmpR op_eq (pv 2) pe_int (nomark _)) (pw_or1 (pt_cmpR op_isN (pv 5) pe_non (nomark _)))))
          (pss_one (ps_err rfl (takes_of rfl rfl rfl rfl) eX hr (by decide) rfl (pa_cons pe_int (pa_cons (pv 3) pa_nil)))) pss_nil)
        (pss_one (ps_set (i := 2) scRead.nd rfl (Or.inl rfl) (pe_op op_sub (pe_op op_add (pv 2) (pv 5)) pe_int))))))
      (pss_cons (ps_if (pt_cmpR op_gt (pv 2) pe_int (nomark _)) (pss_one (ps_err rfl (takes_of rfl rfl rfl rfl) eX hr (by decide) rfl (pa_cons pe_int (pa_cons (pe_callB call_len (by rfl) T.len PySem.boot_len (pa_cons (pv 1) pa_nil)) pa_nil)))) pss_nil)
      (pss_cons (ps_if (pt_cmpR op_gt (pe_callB call_len (by rfl) T.len PySem.boot_len (pa_cons (pv 1) pa_nil)) (pe_glob (v := .int 40) rfl gM ⟨_, rfl⟩) (nomark _)) (pss_one (ps_err rfl (takes_of rfl rfl rfl rfl) eM hr (by decide) rfl (pa_cons pe_str (pa_cons (pe_glob (v := .int 40) rfl gM ⟨_, rfl⟩) pa_nil)))) pss_nil)
      (pss_cons (ps_set (i := 6) scRead.nd rfl (Or.inr rfl) (pe_lst pa_nil))
      (pss_cons (ps_for (passes_of rfl) rfl (pi_list (pe_revL (pv 1))) (pg_name (i := 4) scRead.nd rfl (Or.inl rfl))
        (pss_cons (ps_setLc (i := 7) (own := [("_", 8)]) (g := gName 8) (tt := tYes) rfl scRead.nd rfl rfl (sw_true rfl rfl rfl rfl) (pi_range1 (by rfl) R.range (pa_cons (C8.pe_c cD hr (by decide) rfl (pa_cons (pv 4) pa_nil)) pa_nil)) (blkOk_by (N := ["text", "words", "due", "at", "word", "many", "done", "parts", "_"]) (sc := defScope sRead) (by decide +kernel))
          (fun _ _ _ _ _ => pg_name (i := 8) scRead.nd rfl (Or.inl rfl)) (fun _ _ _ _ _ => pts_nil) (fun _ _ _ _ _ => by exact pe_popK K (pv 6)))
        (pss_one (ps_expr (pe_bm PySem.F.plainAttrs_list PySem.F.slot_list_append PySem.F.type_list_append mt_append (pv 6) (pa_cons (pe_TS M hr (by decide) rfl passL (pa_cons (pv 4) (StX.pa_star (pv 7) pa_nil))) pa_nil))))))
      (pss_one (ps_ret (pe_ix ix_list (pv 6) pe_int (fun _ _ => rfl)))))))))), ?_⟩
    refine ⟨_, rfl, _, _, t, _, _, rfl, .ty "str", ty, ks, _, rfl, ?_⟩
    cases v with
    | str z =>
      obtain ⟨ws, tx, f1, f2, f3⟩ := k2 z rfl
      refine ⟨_, rfl, ⟨_, rfl⟩, z, " ", rfl, rfl, rfl, tx.sm, fun p hp => ⟨_, _, rfl, ?_⟩⟩
      rw [tx.split]
      have g1 : Go NoS I H (upd I p (.lst (ws.map V.str))) (upd H p (.lst (ws.map V.str))) := Go.new hI hp
      have ip : upd I p (.lst (ws.map V.str)) p = some (.lst (ws.map V.str)) := upd_same
      generalize upd H p (.lst (ws.map V.str)) = H1 at g1 ⊢
      generalize upd I p (.lst (ws.map V.str)) = I1 at g1 ip
      have knS : ∀ (I' : Hp) (y : Str), y ∈ ws → Kn C I' (.str y) false := fun I' y hy => .str y (tx.ln y hy)
      refine ⟨_, rfl, p, _, rfl, sqK (g1.sub _ _ ip), for_it (walk_enum (xs := ws.map V.str)) (fun i σ H' => ∃ (d : Nat) (e : Int) (I' : Hp) (o3 o4 o5 : Option V), e = (d : Int) ∧ i ≤ ws.length ∧ scan d i (ws.drop i) = fault ws ∧ Go NoS I H I' H' ∧ I' p = some (.lst (ws.map V.str)) ∧
        σ = [some (V.str z), some (.ref p), some (.int e), o3, o4, o5, none, none, none]) ⟨1, 1, I1, none, none, none, rfl, Nat.zero_le _, rfl, g1, ip, rfl⟩ ?_ ?_ ?_⟩
      · rintro i σ H' hi ⟨d, e, I', o3, o4, o5, _, _, _, g, ip', _⟩
        exact sqK (g.sub _ _ ip')
      · rintro i x σ H' H'' hi ⟨d, e, I', o3, o4, o5, rfl, _, hs, g, ip', rfl⟩ ⟨T1, x1, y1, rfl, hT1, rfl, e1, hy1⟩
        cases e1
        rw [List.length_map] at hi
        replace hy1 : (ws.map V.str)[i]? = some y1 := hy1
        rw [List.getElem?_map, List.getElem?_eq_getElem hi] at hy1
        cases hy1
        have hz : ws[i] ∈ ws := List.getElem_mem hi
        have g2 := g.trans (Go.tmp (o := .tup [.int (i : Int), .str ws[i]]) g.sub hT1)
        refine ⟨T1, _, rfl, stK upd_same, rfl, _, _, rfl, _, _, rfl, rfl, ?_⟩
        refine ⟨_, rfl, _, false, rfl, knS _ _ hz, fun H2 k2 => ?_⟩
        have g3 := g2.trans (k2 _ g2.sub)
        rw [List.drop_eq_getElem_cons hi] at hs
        refine ⟨_, rfl, rfl, _, rfl, ite2 (fun h0 => ?_) (fun h0 => ?_)⟩
        · have hd : d = 0 := by
            have := V.int.inj (of_decide_eq_true h0)
            omega
          refine ⟨_, rfl, mkO_end rfl (by show 2 ≤ 1000; decide) fun q hq => ((f1 i ?_).go g3).out g3.sub hq⟩
          rw [← hs]
          unfold scan
          rw [if_pos hd]
        · have hd : d ≠ 0 := fun e => h0 (decide_eq_true (by rw [e]; rfl))
          unfold scan at hs
          rw [if_neg hd] at hs
          refine ⟨_, rfl, rfl, _, rfl, ?_⟩
          cases hdz : due ws[i] with
          | none =>
            rw [hdz] at hs
            have e0 : optV (dueV (.str ws[i])) = .non := by show optV (due ws[i]) = _; rw [hdz]; rfl
            rw [e0]
            exact iteT ⟨_, rfl, mkO_end rfl (by show 2 ≤ 1000; decide) fun q hq => ((f1 i hs.symm).go g3).out g3.sub hq⟩
          | some n =>
            rw [hdz] at hs
            have e0 : optV (dueV (.str ws[i])) = .int n := by show optV (due ws[i]) = _; rw [hdz]; rfl
            rw [e0]
            refine iteF ⟨_, rfl, _, rfl, _, _, rfl, rfl, _, _, rfl, rfl, ?_⟩
            exact ⟨d + n - 1, _, I', _, _, _, by omega, hi, hs, g3, ip', rfl⟩
      · rintro σ H' ⟨d, e, I', o3, o4, o5, rfl, _, hs, g, ip', rfl⟩
        rw [List.length_map, List.drop_length] at hs
        refine ⟨_, rfl, _, _, rfl, rfl, _, rfl, ite2 (fun h0 => ?_) (fun h0 => ?_)⟩
        · have hd : d ≠ 0 := fun e => by rw [e] at h0; exact absurd h0 (by decide)
          refine ⟨_, rfl, _, ws.length, rfl, .inl ⟨_, sqK (g.sub _ _ ip'), by rw [List.length_map]⟩, mkO_end rfl (by show 2 ≤ 1000; decide) fun q hq => ((f1 ws.length ?_).go g).out g.sub hq⟩
          rw [← hs]
          unfold scan
          rw [if_neg hd]
        · have hd : d = 0 := by
            by_cases e : d = 0
            · exact e
            · exact absurd (decide_eq_true (show (0 : Int) < (d : Int) by omega)) h0
          have hf : fault ws = none := by rw [← hs]; unfold scan; rw [if_pos hd]
          have hv : valid 1 ws := (valid_iff ws 1 0).mp hf
          refine ⟨_, rfl, _, ws.length, rfl, .inl ⟨_, sqK (g.sub _ _ ip'), by rw [List.length_map]⟩, _, _, rfl, rfl, _, rfl, ite2 (fun h1 => ?_) (fun h1 => ?_)⟩
          · have h40 : 40 < ws.length := by have := of_decide_eq_true h1; omega
            exact mkO_end rfl (by decide) fun q hq => ((f2 hf h40).go g).out g.sub hq
          · have h40 : ws.length ≤ 40 := by
              by_cases z : ws.length ≤ 40
              · exact z
              · exact absurd (decide_eq_true (show (40 : Int) < (ws.length : Int) by omega)) h1
            refine ⟨(by show 0 ≤ sizeLine; decide), fun q hq => ?_⟩
            have nqp : p ≠ q := ne_of_none (g.sub _ _ ip') hq
            have gq : Go NoS I H I' (upd H' q (.lst [])) := g.trans (Go.tmp g.sub hq)
            have iq : I' q = none := g.sub.free hq
            have hqH : H q = none := g.back hq
            have eq0 : (upd H' q (.lst [])) q = some (.lst []) := upd_same
            generalize upd H' q (.lst []) = H3 at gq eq0 ⊢
            refine ⟨_, rfl, p, _, rfl, sqK (gq.sub _ _ ip'), fun p2 hp2 => ?_⟩
            have gr : Go NoS I H (upd I' p2 (.lst (ws.map V.str).reverse)) (upd H3 p2 (.lst (ws.map V.str).reverse)) := gq.trans (Go.new gq.sub hp2)
            have ip2 : (upd I' p2 (.lst (ws.map V.str).reverse)) p2 = some (.lst (ws.map V.str).reverse) := upd_same
            have nqp2 : q ≠ p2 := ne_of_none eq0 hp2
            have iq2 : (upd I' p2 (.lst (ws.map V.str).reverse)) q = none := by rw [upd_ne nqp2]; exact iq
            have eq2 : (upd H3 p2 (.lst (ws.map V.str).reverse)) q = some (.lst []) := by rw [upd_ne nqp2]; exact eq0
            generalize upd H3 p2 (.lst (ws.map V.str).reverse) = H4 at gr eq2 ⊢
            generalize upd I' p2 (.lst (ws.map V.str).reverse) = I2 at gr ip2 iq2
            refine ⟨p2, rfl, ⟨_, sqK (gr.sub _ _ ip2)⟩, for_it (walk_list (xs := (ws.map V.str).reverse)) (fun j σ H' => ∃ (us : List V) (ms : List Mdl) (I' : Hp) (o3 o4 o5 o7 : Option V) (e : Int), j ≤ ws.length ∧ valid ms.length (ws.drop (ws.length - j)) ∧ Fit (ws.drop (ws.length - j)) ms ∧
              us.length = ms.length ∧ (∀ (i : Nat) x k, us[i]? = some x → ms[i]? = some k → TIs C I' x k) ∧ Go NoS I H I' H' ∧ I' p2 = some (.lst (ws.map V.str).reverse) ∧ I' q = none ∧ H' q = some (.lst us.reverse) ∧ σ = [some (V.str z), some (.ref p), some (.int e), o3, o4, o5, some (.ref q), o7, none])
              ⟨[], [], I2, _, _, _, none, _, Nat.zero_le _, by rw [Nat.sub_zero, List.drop_length]; rfl, ⟨by rw [Nat.sub_zero, List.drop_length]; rfl, fun m hm => nomatch hm⟩, rfl, fun i x k h => by simp at h, gr, ip2, iq2, eq2, rfl⟩ ?_ ?_ ?_⟩
            · rintro j σ H5 hj ⟨us, ms, I5, o3, o4, o5, o7, e, _, _, _, _, _, g5, ip5, _⟩
              exact sqK (g5.sub _ _ ip5)
            · rintro j x σ H5 H6 hj ⟨us, ms, I5, o3, o4, o5, o7, e, _, hv5, fit5, hul, hT5, g5, ip5, iq5, eq5, rfl⟩ ⟨rfl, hx⟩
              rw [List.length_reverse, List.length_map] at hj
              have hk : ws.length - 1 - j < ws.length := by omega
              rw [List.getElem?_reverse (by rw [List.length_map]; exact hj), List.length_map, List.getElem?_map, List.getElem?_eq_getElem hk] at hx
              cases hx
              have hz : ws[ws.length - 1 - j] ∈ ws := List.getElem_mem hk
              have hdr : ws.drop (ws.length - (j + 1)) = ws[ws.length - 1 - j] :: ws.drop (ws.length - j) := by
                rw [show ws.length - (j + 1) = ws.length - 1 - j by omega, List.drop_eq_getElem_cons hk, show ws.length - 1 - j + 1 = ws.length - j by omega]
              generalize ws[ws.length - 1 - j] = y at hz hdr ⊢
              obtain ⟨d', hv'⟩ := valid_drop (ws.length - (j + 1)) ws 1 hv
              rw [hdr] at hv'
              obtain ⟨hd', n, hdn, hv6⟩ := hv'
              have hlen : ms.length = d' + n - 1 := valid_inj _ _ _ hv5 hv6
              have hn : n ≤ ms.length := by omega
              have fit6 := fit5.step hdn hn
              have hn2 := due_le hdn
              refine ⟨_, rfl, _, false, rfl, knS _ _ hz, fun H6 k6 => ?_⟩
              have g6 := g5.trans (k6 _ g5.sub)
              have eq6 : H6 q = some (.lst us.reverse) := (k6 (fun _ => none) (fun _ _ z => nomatch z)).same q _ id eq5
              have e0 : optV (dueV (.str y)) = .int n := by show optV (due y) = _; rw [hdn]; rfl
              rw [e0]
              refine ⟨n, rfl, by omega, by omega, fun D hD => lc_it (walk_range (n := ((n : Int)).toNat)) (fun i H' => i ≤ n ∧ Go NoS I H I5 H' ∧ H' q = some (.lst (us.drop i).reverse) ∧ H' D = some (.lst (us.take i))) ?_ (fun _ _ _ _ => trivial) ?_ ?_⟩
              · have nqD : q ≠ D := ne_of_none eq6 hD
                exact ⟨Nat.zero_le _, g6.trans (Go.tmp g6.sub hD), by rw [upd_ne nqD]; exact eq6, upd_same⟩
              · rintro i x H7 H8 hi ⟨hi0, g7, eq7, eD7⟩ ⟨rfl, rfl⟩
                have hi' : i < n := by omega
                have hiu : i < us.length := by omega
                have nqD : q ≠ D := ne_of_none eq6 hD
                rw [List.drop_eq_getElem_cons hiu, List.reverse_cons] at eq7
                refine ⟨rfl, ?_⟩
                refine ⟨_, rfl, .inl ⟨rfl, _, sqK eq7⟩, q, _, us[i], rfl, rfl, eq7, by simp, us.take i, ?_, ?_, ?_⟩
                · rw [upd_ne nqD.symm]; exact eD7
                · rw [List.length_take]; exact Nat.lt_of_le_of_lt (Nat.min_le_left _ _) (Nat.lt_of_lt_of_le hi' (Nat.le_trans hn2 (by decide)))
                · refine ⟨hi', ?_, ?_, ?_⟩
                  · exact Go.putNew (Go.putNew g7 iq5 hqH) (g6.sub.free hD) (g6.back hD)
                  · rw [upd_ne nqD, upd_same, List.dropLast_concat]
                  · rw [upd_same, List.take_succ, List.getElem?_eq_getElem hiu]; rfl
              · rintro H7 ⟨_, g7, eq7, eD7⟩
                have en : ((n : Int)).toNat = n := by omega
                rw [en] at eq7 eD7
                have hkl : (us.take n).length = n := by rw [List.length_take]; omega
                have hml : (ms.take n).length = n := by rw [List.length_take]; omega
                obtain ⟨mh, mk⟩ := mkM_head (z := y) (ps := ms.take n) (by omega)
                have fit6l := fit6.lens _ List.mem_cons_self
                rw [← hdr, List.length_drop] at fit6l
                have tm := fun (Qx : VK) (Ex : XK) (q : ∀ (a : Addr) (I' H' : Hp), Go NoS I5 H7 I' H' → TIs C I' (.ref a) (mkM y (ms.take n)) → Qx (.ref a) H') => tmake_m (C := C) (BT := BT) (TM := TM) (S := NoS) (I := I5) (H1 := H7) (Q := Qx) (E := Ex) (ps := us.take n) (m := mkM y (ms.take n)) g7.sub (by rw [mk]; omega)
                  (fun i p k h1 h2 => by
                    rw [mk] at h2
                    rw [List.getElem?_take] at h1 h2
                    split at h1
                    · rename_i hlt
                      rw [if_pos hlt] at h2
                      exact hT5 i p k h1 h2
                    · cases h1) (by rw [mh, mk, hml]; exact hdn) (by rw [mh]; exact due_len (by rw [hdn]; exact fun z => nomatch z)) (by omega) q
                rw [mh] at tm
                refine ⟨_, rfl, .inl ⟨rfl, _, sqK eq7⟩, _, rfl, _, rfl, D, _, rfl, .inr (sqK eD7), ?_⟩
                rw [show us.take n = us.take n ++ [] from (List.append_nil _).symm] at tm
                intro xT dT n1 n2 n3
                refine tinit_mono (tm (fun y2 H2 => ∃ a I', y2 = .ref a ∧ Go NoS I5 H7 I' H2 ∧ TIs C I' (.ref a) (mkM y (ms.take n))) _ (fun a I' H' g t => ⟨a, I', rfl, g, t⟩) xT dT n1 n2 n3) ?_
                rintro _ H8 ⟨rfl, a, I8, ea, g8, ta⟩
                cases ea
                refine ⟨rfl, ?_⟩
                have eq8 : H8 q = some (.lst (us.drop n).reverse) := g8.same q _ id eq7
                have g9 := g7.trans g8
                have iq8 : I8 q = none := g8.fr _ _ eq7 iq5
                refine ⟨q, _, _, rfl, rfl, eq8, ?_, ?_⟩
                · rw [List.length_reverse, List.length_drop]
                  have : ms.length ≤ 41 := by
                    have := fit5.count
                    rw [List.length_drop] at this
                    omega
                  exact Nat.lt_of_le_of_lt (Nat.sub_le _ _) (by rw [hul]; exact Nat.lt_of_le_of_lt this (by decide))
                · refine ⟨.ref xT :: us.drop n, mkM y (ms.take n) :: ms.drop n, I8, _, _, _, _, e, hj, ?_, ?_, ?_, ?_, g9.putNew iq8 hqH, g8.ext _ _ ip5, iq8, ?_, rfl⟩
                  · rw [hdr, List.length_cons, List.length_drop]
                    refine ⟨Nat.succ_pos _, n, hdn, ?_⟩
                    rw [show ms.length - n + 1 + n - 1 = ms.length by omega]
                    exact hv5
                  · rw [hdr]; exact fit6
                  · rw [List.length_cons, List.length_cons, List.length_drop, List.length_drop, hul]
                  · intro i x k h1 h2
                    cases i with
                    | zero =>
                      cases h1; cases h2; exact ta
                    | succ i =>
                      rw [List.getElem?_cons_succ, List.getElem?_drop] at h1 h2
                      exact (hT5 _ x k h1 h2).ext g8.ext
                  · rw [upd_same, List.reverse_cons]
            · rintro σ H5 ⟨us, ms, I5, o3, o4, o5, o7, e, _, hv5, fit5, hul, hT5, g5, ip5, iq5, eq5, rfl⟩
              rw [List.length_reverse, List.length_map, Nat.sub_self, List.drop_zero] at hv5 fit5
              have h1l : ms.length = 1 := valid_inj _ _ _ hv5 hv
              match ms, us, h1l, hul with
              | [m], [x], _, _ =>
                have hx := hT5 0 x m rfl rfl
                obtain ⟨a, _, _, _, _, rfl, _⟩ := tis_words (C := C) hx
                refine ⟨_, rfl, q, _, _, .ref a, rfl, rfl, sqK eq5, rfl, ?_⟩
                refine f3 hf h40 a m I5 H5 (fit5.ok m List.mem_cons_self) ?_ g5 hx
                have := fit5.eq
                rw [List.map_cons, List.map_nil, List.flatten_cons, List.flatten_nil, List.append_nil] at this
                exact this
    | non => exact mkO_end rfl (by decide) fun d hdd => (k1 rfl).out hI hdd
    | bl b => exact mkO_end rfl (by decide) fun d hdd => (k1 rfl).out hI hdd
    | int b => exact mkO_end rfl (by decide) fun d hdd => (k1 rfl).out hI hdd
    | ref b => exact mkO_end rfl (by decide) fun d hdd => (k1 rfl).out hI hdd
    | _ => cases kv
end
end Tm
/-! from_text, parts_in -/
namespace Tm
open PySem PySem.Spec PyProof.Rows L2
abbrev sFrom : Stmt := inClass (top 15) 1
abbrev sPartsIn : Stmt := top 19
def spFrom (C BX TM : Addr) : Sp := fun vs H Q E => ∃ v, vs = [.ref C, v] ∧ spRead C BX TM [v] H Q E
/-- the classmethod of Temporal -/
structure FrOk (P : Program) (w : World) (K : PySem.W.Frag) (mg : Str → Option Value) (base : Heap) (C BX TM : Addr) : Prop where
  ex : ∃ mc p g fd, ClX.CRead K C mc ∧ ClX.CMet K C mc "from_text" p g ∧ FnOk P w K mg base (L2.CX P w) 6 g fd ["cls", "text"] (spFrom C BX TM) ∧ Binds K fd ["cls", "text"] [] ∧ ∀ (s : Shared) (u : Value), BindsTo s fd ⟨[.ref C], [("text", u)]⟩ [("cls", .ref C), ("text", u)]
section
variable {X : Cx} {C BX TM : Addr} {E : XK} {e o : Expr} {te ta : TE} {apos pos kpos : Pos} {j : Nat}
theorem pe_from {pl : Sem Bool} (M : FrOk X.prog X.w X.K X.mg X.base C BX TM) (hr : Room j X.A) (hj : 6 ≤ j) (hx : Passes (L2.CX X.prog X.w) X E) (he : PE X o ta) (hv : PE X e te)
    (hst : starEach [e] X.env = (false, eval e X.env) :: starEach [] X.env := by rfl)
    (ht : eval (.Call (.Attribute o "from_text" apos) [e] [] pos) X.env = (do
      let ov ← eval o X.env
      standAt apos.atName
      let (f, first) ← holding [ov] (getMethod ov "from_text" pl)
      callWith pos f first (backTo pos (starEach [e] X.env)) (backToKw pos (keywordEach [] X.env))) := by rfl) :
    PE X (.Call (.Attribute o "from_text" apos) [e] [] pos) (ClX.tCMeth C (spFrom C BX TM) E ta (tCons te tNil)) := by
  obtain ⟨mc, p, g, fd, r, c, F, b, _⟩ := M.ex
  exact ClX.pe_cmeth he r c ((F.raw b .nil).imp fun vs H Q E h => by rw [List.append_nil]; exact h) (hr.mono hj) hx (pa_cons hv pa_nil hst) hst rfl ht
/-- Temporal.from_text(text=e) -/
def tFromK (C : Addr) (sp : Sp) (E : XK) (ta te : TE) : TE := fun σ H Q => ta σ H fun x H1 => x = .ref C ∧ te σ H1 fun y H2 => ∃ v, [y] = [v] ∧ sp [.ref C, v] H2 Q E
theorem pe_fromK {pl : Sem Bool} (M : FrOk X.prog X.w X.K X.mg X.base C BX TM) (hr : Room j X.A) (hj : 6 ≤ j) (hx : Passes (L2.CX X.prog X.w) X E) (he : PE X o ta) (hv : PE X e te)
    (hall : (backToKw pos (keywordEach [⟨some "text", e, kpos⟩] X.env)).all (·.1.isSome) = true := by rfl) (hks : (backToKw pos (keywordEach [⟨some "text", e, kpos⟩] X.env)).filterMap (·.1) = ([("text" : Str)] : List Str) := by rfl)
    (hpl : ((backTo pos (starEach [] X.env)).any (·.1) || (backToKw pos (keywordEach [⟨some "text", e, kpos⟩] X.env)).any (·.1.isNone)) = false := by rfl)
    (ht : eval (.Call (.Attribute o "from_text" apos) [] [⟨some "text", e, kpos⟩] pos) X.env = (do
      let ov ← eval o X.env
      standAt apos.atName
      let (f, first) ← holding [ov] (getMethod ov "from_text" pl)
      callWith pos f first (backTo pos (starEach [] X.env)) (backToKw pos (keywordEach [⟨some "text", e, kpos⟩] X.env))) := by rfl) :
    PE X (.Call (.Attribute o "from_text" apos) [] [⟨some "text", e, kpos⟩] pos) (tFromK C (spFrom C BX TM) E ta te) := by
  obtain ⟨mc, p, g, fd, r, c, F, _, b⟩ := M.ex
  refine ⟨fun pins s σ H Q I h => ?_⟩
  refine PySem.W.methodCall_KW (pl := pl) (thn (he.run pins s σ H _ I h) fun u s1 ⟨x, H1, I1, rx, ex, q⟩ => ?_) ht
  subst ex
  obtain rfl : u = Value.ref C := rx
  refine ClX.getmethcm_ok I1 r c fun s2 I2 => ?_
  refine PySem.W.callWith_of hpl (PySem.W.keeps_M (self := .ref C) c.fi) (PyProof.Rows.evalArgs_kw2_nil hall ?_)
  have q3 := q
  refine thn ((pk_cons (kpos := kpos) (nm := some "text") hv pk_nil).run pos _ s2 σ H1 (fun zs H2 => ∃ v, zs = [v] ∧ spFrom C BX TM [.ref C, v] H2 Q E) I2 (by exact q3)) fun ws s3 ⟨zs, H2, I3, rz, v, ez, q2⟩ => ⟨⟨ClX.pin_at I3, I3.kIn⟩, ?_⟩
  subst ez
  rw [hks]
  obtain ⟨u, rfl, rv⟩ : ∃ u, ws = [u] ∧ RelV v u := by
    cases rz with
    | cons rv rn => cases rn; exact ⟨_, rfl, rv⟩
  show wpAny _ _ (call (.ref s1.heap.objs.size) [] [("text", u)]) _ _ _
  have z : wpAny (model X.prog X.w) X.A (call (.ref s1.heap.objs.size) [] [("text", u)]) (EP X ((s1.heap.objs.size, PySem.W.methodObj (.ref g) (.ref C)) :: pins) σ Q) X.xe s3 := by
    refine wpAny_call (PySem.W.method_call (ClX.pin_at I3) (codeAny_mono (F.run X.A X.stack s3 H2 ⟨[.ref C], [("text", u)]⟩ [.ref C, u] [.ref C, v] Q E (hr.mono hj) I3.env0 (b s3 u) (.cons rfl (.cons rv .nil)) q2) fun r s' hq => ?_))
    cases r with
    | error e => exact hx _ σ H2 s3 e s' I3 hq
    | ok fl =>
      cases fl with
      | ret u => exact I3.after hq
      | next => exact False.elim hq
      | brk => exact False.elim hq
      | cont => exact False.elim hq
  exact thn z fun _ _ y => ClX.unpinE y
end
/-- parts_in -/
def spPartsIn (C : Addr) (d : Nat) : Sp := fun vs H Q _ => ∃ (a : Addr) (m : Mdl) (I : Hp), vs = [.ref a] ∧ Same I H ∧ TIs C I (.ref a) m ∧ m.deep ≤ d ∧ m.words.length ≤ 1000 ∧
  ∀ (p : Addr) (I' H' : Hp) (xs : List V), Go NoS I H I' H' → I' p = some (.lst xs) → xs.length = m.parts.length → (∀ (i : Nat) x k, xs[i]? = some x → m.parts[i]? = some k → TIs C I' x k) → Q (.ref p) H'
theorem Mdl.part_take {ks : List Mdl} {i : Nat} {k : Mdl} (h : ks[i]? = some k) : ((ks.take (i + 1)).map Mdl.parts).flatten = ((ks.take i).map Mdl.parts).flatten ++ k.parts := by
  rw [List.take_succ, h, Option.toList_some, List.map_append, List.flatten_append]
  show _ = _ ++ k.parts
  rw [List.map_cons, List.map_nil, List.flatten_cons, List.flatten_nil, List.append_nil]
theorem Mdl.partL_le (ks : List Mdl) (i : Nat) : ((ks.take i).map Mdl.parts).flatten.length ≤ (ks.map Mdl.parts).flatten.length := by
  conv => rhs; rw [← List.take_append_drop i ks, List.map_append, List.flatten_append, List.length_append]
  exact Nat.le_add_right _ _
theorem tis_join {C : Addr} {I : Hp} {xs ys : List V} {ps qs : List Mdl} (hl : xs.length = ps.length) (h1 : ∀ (i : Nat) x k, xs[i]? = some x → ps[i]? = some k → TIs C I x k) (h2 : ∀ (i : Nat) x k, ys[i]? = some x → qs[i]? = some k → TIs C I x k) :
    ∀ (i : Nat) x k, (xs ++ ys)[i]? = some x → (ps ++ qs)[i]? = some k → TIs C I x k := fun i x k e1 e2 => by
  by_cases hi : i < xs.length
  · rw [List.getElem?_append_left hi] at e1
    rw [List.getElem?_append_left (by omega)] at e2
    exact h1 i x k e1 e2
  · rw [List.getElem?_append_right (by omega)] at e1
    rw [List.getElem?_append_right (by omega), ← hl] at e2
    exact h2 _ x k e1 e2
section
variable {P : Program} {w : World} {K : PySem.W.Frag} {mg : Str → Option Value} {base : Heap} {C BT BX TM : Addr}
theorem scFrom : FnScope ["cls", "text"] ["cls", "text"] (defScope sFrom) := ⟨rfl, rfl, rfl, by decide +kernel, rfl, by decide +kernel, by decide +kernel⟩
theorem ok_from {f : Addr} {fd : FuncData} (F : Fun K "from_text" "Temporal.from_text" sFrom f fd) (c : CalX P w K mg base 5 "temporal_in" (spRead C BX TM) []) : FnOk P w K mg base (L2.CX P w) 6 f fd ["cls", "text"] (spFrom C BX TM) := by
  refine F.okX scFrom (fun vs H Q E h => ?_) (fun cdv A outer s H vs Q E hr h => ?_)
  · obtain ⟨v, rfl, _⟩ := h
    rfl
  · obtain ⟨v, rfl, h⟩ := h
    refine ⟨_, pss_one (ps_ret (pe_cX c hr (by decide) rfl (passes_call (takes_of rfl rfl rfl rfl) (fun _ _ _ _ h => h)) (pa_cons (pv 1) pa_nil))), ?_⟩
    exact ⟨_, rfl, h⟩
theorem scPartsIn : FnScope ["saying", "found", "part"] ["saying"] (defScope sPartsIn) := ⟨rfl, rfl, rfl, by decide +kernel, rfl, by decide +kernel, by decide +kernel⟩
theorem ok_partsIn {f : Addr} {fd : FuncData} (F : Fun K "parts_in" "parts_in" sPartsIn f fd) (T : TC K mg C) (b : Binds K fd ["saying"] []) (mF : mg "parts_in" = some (.ref f)) : ∀ d : Nat, FnOk P w K mg base CX0 (d + 1) f fd ["saying"] (spPartsIn C d) := by
  have core : ∀ d : Nat, C8.Cal P w K mg base d "parts_in" (fun vs H Q E => ∃ e, d = e + 1 ∧ spPartsIn C e vs H Q E) [] → FnOk P w K mg base CX0 (d + 1) f fd ["saying"] (spPartsIn C d) := by
    intro d c
    refine F.ok scPartsIn (fun vs H Q E h => ?_) (fun cdv A outer s H vs Q E hr h => ?_)
    · obtain ⟨a, m, I, rfl, _⟩ := h
      rfl
    · obtain ⟨a, m, I, rfl, hI, ha, hd, hw, k⟩ := h
      refine ⟨_, pss_cons (ps_set (i := 1) scPartsIn.nd rfl (Or.inl rfl) (pe_lst (pa_cons (pv 0) pa_nil)))
        (pss_cons (ps_for PassesOwn.never rfl (pi_tupK K (pe_fldK K (pv 0))) (pg_name (i := 2) scPartsIn.nd rfl (Or.inl rfl))
          (pss_one (ps_expr (pe_bm PySem.F.plainAttrs_list PySem.F.slot_list_extend PySem.F.type_list_extend mt_extend (pv 1) (pa_cons (C8.pe_c c hr (by omega) rfl (pa_cons (pv 2) pa_nil)) pa_nil)))))
        (pss_one (ps_ret (pv 1)))), ?_⟩
      obtain ⟨a0, dx, pa, wa, vs, e0, i1, i2, i3, hl, hk⟩ := tis_words (C := C) ha
      cases e0
      refine ⟨_, rfl, (by show 1 ≤ sizeLine; decide), fun q hq => ?_⟩
      have hqI : I q = none := hI.free hq
      have g0 : Go NoS I H I (upd H q (.lst [.ref a])) := Go.tmp hI hq
      refine ⟨_, rfl, a, C, dx, _, _, rfl, g0.sub _ _ i1, T.cl, T.nP, tF_parts _ _ _, pa, rfl, ⟨_, stK (g0.sub _ _ i2)⟩, for_it (walk_tup (xs := vs)) (fun i σ H' => ∃ (I' : Hp) (xs : List V) (o2 : Option V), i ≤ vs.length ∧ Go NoS I H I' H' ∧ I' q = none ∧ H' q = some (.lst (.ref a :: xs)) ∧ xs.length = ((m.kids.take i).map Mdl.parts).flatten.length ∧
        (∀ (j : Nat) x k, xs[j]? = some x → ((m.kids.take i).map Mdl.parts).flatten[j]? = some k → TIs C I' x k) ∧ σ = [some (V.ref a), some (.ref q), o2]) ⟨I, [], none, Nat.zero_le _, g0, hqI, upd_same, rfl, fun j x k h => by simp at h, rfl⟩ ?_ ?_ ?_⟩
      · rintro i σ H' hi ⟨I', xs, o2, _, g, _⟩
        exact stK (g.sub _ _ (g.ext _ _ i2))
      · rintro i x σ H' H'' hi ⟨I', xs, o2, _, g, iq, eq, hxl, hT, rfl⟩ ⟨rfl, hx⟩
        obtain ⟨km, hkm⟩ : ∃ km, m.kids[i]? = some km := ⟨m.kids[i]'(by omega), List.getElem?_eq_getElem _⟩
        have tx := (hk i x km hx hkm).ext g.ext
        obtain ⟨b0, _, _, _, _, rfl, _⟩ := tis_words (C := C) tx
        have hmem : km ∈ m.kids := List.mem_of_getElem? hkm
        have hkd := Mdl.kids_deep hmem
        have hkw : km.words.length ≤ m.words.length := by
          rw [Mdl.kids_words m, List.length_cons]
          have : km.words ∈ m.kids.map Mdl.words := List.mem_map_of_mem hmem
          exact Nat.le_succ_of_le (List.sublist_flatten_of_mem this).length_le
        refine ⟨_, rfl, .inl ⟨rfl, _, sqK eq⟩, _, rfl, d - 1, by omega, b0, km, I', rfl, g.sub, tx, by omega, by omega, fun p I2 H2 ys g2 ip hyl hyT => ?_⟩
        have eq2 : H2 q = some (.lst (.ref a :: xs)) := g2.same q _ id eq
        have g3 := g.trans g2
        have iq2 : I2 q = none := g2.fr _ _ eq iq
        refine ⟨q, p, _, ys, rfl, rfl, eq2, g3.sub _ _ ip, ?_, ?_⟩
        · have h1 : xs.length + ys.length ≤ m.parts.length := by
            rw [hxl, hyl, Mdl.kids_parts m, List.length_cons, ← List.length_append, ← Mdl.part_take hkm]
            exact Nat.le_succ_of_le (Mdl.partL_le m.kids (i + 1))
          rw [Mdl.parts_len] at h1
          rw [List.length_cons]
          exact Nat.le_trans (by omega : _ ≤ 1001) (by decide)
        · refine ⟨I2, xs ++ ys, _, hi, g3.putNew iq2 hq, iq2, upd_same, ?_, ?_, rfl⟩
          · rw [Mdl.part_take hkm, List.length_append, List.length_append, hxl, hyl]
          · rw [Mdl.part_take hkm]
            exact tis_join hxl (fun j x k e1 e2 => (hT j x k e1 e2).ext g2.ext) hyT
      · rintro σ H' ⟨I', xs, o2, _, g, iq, eq, hxl, hT, rfl⟩
        rw [hl, List.take_length] at hxl hT
        refine ⟨_, rfl, k q (upd I' q (.lst (.ref a :: xs))) H' _ (g.keep iq hq eq) upd_same ?_ ?_⟩
        · rw [Mdl.kids_parts, List.length_cons, List.length_cons, hxl]
        · rw [Mdl.kids_parts]
          have ge := (g.keep iq hq eq).ext
          intro j x k e1 e2
          cases j with
          | zero => cases e1; cases e2; exact ha.ext ge
          | succ j => exact (hT j x k e1 e2).ext fun b o h => by rw [upd_ne (ne_of_none h iq)]; exact h
  intro d
  induction d with
  | zero => exact core 0 ⟨f, fd, _, _, ⟨fun vs H Q E h => by obtain ⟨e, z, _⟩ := h; omega, fun _ _ _ _ _ _ _ _ _ _ _ _ _ h => by obtain ⟨e, z, _⟩ := h; omega⟩, mF, F.kp, b, .nil⟩
  | succ d ih => exact core (d + 1) ⟨f, fd, _, _, ih.imp fun vs H Q E h => by obtain ⟨e, z, h⟩ := h; cases z; exact h, mF, F.kp, b, .nil⟩
end
end Tm
/-! plain: the first ones of a kind -/
namespace Tm
open PySem PySem.Spec PyProof.Rows L2
def addF (hs : List Str) (acc : List Mdl) (p : Mdl) : List Mdl := if p.head ∈ hs ∧ p.words ∉ acc.map Mdl.words then acc ++ [p] else acc
def firsts (hs : List Str) (ps : List Mdl) : List Mdl := ps.foldl (addF hs) []
theorem firsts_take {hs : List Str} {ps : List Mdl} {i : Nat} {p : Mdl} (h : ps[i]? = some p) : firsts hs (ps.take (i + 1)) = addF hs (firsts hs (ps.take i)) p := by
  unfold firsts
  rw [List.take_succ, h, Option.toList_some, List.foldl_append]
  rfl
theorem addF_nodup {hs : List Str} {acc : List Mdl} {p : Mdl} (h : (acc.map Mdl.words).Nodup) : ((addF hs acc p).map Mdl.words).Nodup := by
  unfold addF
  split
  · rename_i hp
    rw [List.map_append, List.map_cons, List.map_nil]
    exact nd_snoc h hp.2
  · exact h
theorem fold_nodup {hs : List Str} : ∀ (ps acc : List Mdl), (acc.map Mdl.words).Nodup → ((ps.foldl (addF hs) acc).map Mdl.words).Nodup
  | [], acc, h => h
  | p :: r, acc, h => fold_nodup r _ (addF_nodup h)
theorem firsts_nodup (hs : List Str) (ps : List Mdl) : ((firsts hs ps).map Mdl.words).Nodup := fold_nodup ps [] .nil
theorem fold_len {hs : List Str} : ∀ (ps acc : List Mdl), (ps.foldl (addF hs) acc).length ≤ acc.length + ps.length
  | [], acc => Nat.le_refl _
  | p :: r, acc => by
    have h := fold_len (hs := hs) r (addF hs acc p)
    have h2 : (addF hs acc p).length ≤ acc.length + 1 := by
      unfold addF
      split
      · rw [List.length_append]; exact Nat.le_refl _
      · exact Nat.le_succ _
    rw [List.foldl_cons, List.length_cons]
    omega
theorem firsts_len (hs : List Str) (ps : List Mdl) : (firsts hs ps).length ≤ ps.length := by
  have := fold_len (hs := hs) ps []
  unfold firsts
  simpa using this
theorem fold_mem {hs : List Str} : ∀ (ps acc : List Mdl) (m : Mdl), m ∈ ps.foldl (addF hs) acc → m ∈ acc ∨ m ∈ ps
  | [], acc, m, h => .inl h
  | p :: r, acc, m, h => by
    rcases fold_mem r _ m h with h | h
    · unfold addF at h
      split at h
      · rcases List.mem_append.mp h with h | h
        · exact .inl h
        · exact .inr (List.mem_cons.mpr (.inl (List.mem_singleton.mp h)))
      · exact .inl h
    · exact .inr (List.mem_cons_of_mem _ h)
theorem firsts_mem {hs : List Str} {ps : List Mdl} {m : Mdl} (h : m ∈ firsts hs ps) : m ∈ ps := by
  rcases fold_mem ps [] m h with h | h
  · cases h
  · exact h
/-- a tuple of words as a key -/
def keyT (ws : List Str) : List Key := ws.map Sum.inr
theorem keyT_inj {a b : List Str} (h : keyT a = keyT b) : a = b := by
  induction a generalizing b with
  | nil => cases b with
    | nil => rfl
    | cons y r => cases h
  | cons x l ih => cases b with
    | nil => cases h
    | cons y r =>
      have h' : (Sum.inr x : Key) :: keyT l = Sum.inr y :: keyT r := h
      injection h' with h1 h2
      injection h1 with h1
      rw [h1, ih h2]
theorem keyT_kV (ws : List Str) : (keyT ws).map kV = ws.map V.str := by
  unfold keyT
  rw [List.map_map]
  rfl
def zipD (acc : List Mdl) (us : List V) : List (List Key × V) := List.zipWith (fun m u => (keyT m.words, u)) acc us
theorem zipD_val : ∀ (acc : List Mdl) (us : List V) (ws : List Str), us.length = acc.length → (valV (zipD acc us) (keyT ws)).isSome = decide (ws ∈ acc.map Mdl.words)
  | [], us, ws, _ => by
    cases us <;> rfl
  | m :: r, [], ws, h => by cases h
  | m :: r, u :: us, ws, h => by
    have ih := zipD_val r us ws (Nat.succ.inj h)
    show (valV ((keyT m.words, u) :: zipD r us) (keyT ws)).isSome = _
    by_cases e : m.words = ws
    · rw [valV_pos (p := (keyT m.words, u)) (by rw [e]), Option.isSome_some]
      rw [List.map_cons, e]
      exact (decide_eq_true List.mem_cons_self).symm
    · rw [valV_neg (p := (keyT m.words, u)) (fun z => e (keyT_inj z)), ih, List.map_cons]
      by_cases h2 : ws ∈ r.map Mdl.words
      · rw [decide_eq_true h2, decide_eq_true (List.mem_cons_of_mem _ h2)]
      · rw [decide_eq_false h2, decide_eq_false (fun z => (List.mem_cons.mp z).elim (fun z => e z.symm) h2)]
theorem zipD_at : ∀ (acc : List Mdl) (us : List V) (i : Nat) (k : List Key) (v : V), us.length = acc.length → (acc.map Mdl.words).Nodup → (zipD acc us)[i]? = some (k, v) → us[i]? = some v ∧ (∃ m, acc[i]? = some m ∧ k = keyT m.words) ∧ valV (zipD acc us) k = some v
  | [], us, i, k, v, _, _, h => by cases us <;> simp [zipD] at h
  | m :: r, [], i, k, v, h, _, _ => by cases h
  | m :: r, u :: us, i, k, v, h, nd, hi => by
    have e : zipD (m :: r) (u :: us) = (keyT m.words, u) :: zipD r us := rfl
    rw [e] at hi ⊢
    rw [List.map_cons] at nd
    obtain ⟨nd1, nd2⟩ := List.nodup_cons.mp nd
    cases i with
    | zero =>
      cases hi
      exact ⟨rfl, ⟨m, rfl, rfl⟩, valV_pos (p := (keyT m.words, u)) rfl⟩
    | succ i =>
      obtain ⟨h1, ⟨m2, h2, h3⟩, h4⟩ := zipD_at r us i k v (Nat.succ.inj h) nd2 hi
      refine ⟨h1, ⟨m2, h2, h3⟩, ?_⟩
      rw [valV_neg (p := (keyT m.words, u)) ?_]
      · exact h4
      · intro z
        rw [h3] at z
        have := keyT_inj z
        exact nd1 (by rw [this]; exact List.mem_map_of_mem (List.mem_of_getElem? h2))
theorem zipD_len {acc : List Mdl} {us : List V} (h : us.length = acc.length) : (zipD acc us).length = acc.length := by
  unfold zipD
  rw [List.length_zipWith, h, Nat.min_self]
theorem zipD_snoc {acc : List Mdl} {us : List V} (h : us.length = acc.length) (m : Mdl) (u : V) : zipD acc us ++ [(keyT m.words, u)] = zipD (acc ++ [m]) (us ++ [u]) := by
  unfold zipD
  rw [List.zipWith_append h.symm]
  rfl
end Tm
/-! first_ones, promises_of, memories_of -/
namespace Tm
open PySem PySem.Spec PyProof.Rows L2
abbrev sFirst : Stmt := top 20
abbrev sProm : Stmt := top 21
abbrev sMem : Stmt := top 22
def spFirst (K : PySem.W.Frag) (C : Addr) (d : Nat) : Sp := fun vs H Q _ => ∃ (a b : Addr) (m : Mdl) (hs : List Str) (I : Hp), vs = [.ref a, .ref b] ∧ Same I H ∧ TIs C I (.ref a) m ∧ m.deep ≤ d ∧ m.words.length ≤ 1000 ∧ (∀ H', SqT K H' b (hs.map V.str)) ∧
  ∀ (p : Addr) (I' H' : Hp) (us : List V), Go NoS I H I' H' → I' p = some (.tup us) → us.length = (firsts hs m.parts).length → (∀ (i : Nat) x k, us[i]? = some x → (firsts hs m.parts)[i]? = some k → TIs C I' x k) → Q (.ref p) H'
structure TFi (mg : Str → Option Value) : Prop where
  tuple : mg "tuple" = none
  sorted : mg "sorted" = none
  list : mg "list" = none
section
variable {P : Program} {w : World} {K : PySem.W.Frag} {mg : Str → Option Value} {base : Heap} {C BT BX TM : Addr}
theorem scFirst : FnScope ["saying", "words", "known", "part", "told"] ["saying", "words"] (defScope sFirst) := ⟨rfl, rfl, rfl, by decide +kernel, rfl, by decide +kernel, by decide +kernel⟩
theorem ok_first {d : Nat} {f : Addr} {fd : FuncData} (F : Fun K "first_ones" "first_ones" sFirst f fd) (T : TC K mg C) (G : TFi mg) (c : C8.Cal P w K mg base (d + 1) "parts_in" (spPartsIn C d) []) : FnOk P w K mg base CX0 (d + 2) f fd ["saying", "words"] (spFirst K C d) := by
  refine F.ok scFirst (fun vs H Q E h => ?_) (fun cdv A outer s H vs Q E hr h => ?_)
  · obtain ⟨a, b, m, hs, I, rfl, _⟩ := h
    rfl
  · obtain ⟨a, b, m, hs, I, rfl, hI, ha, hd, hw, hsq, k⟩ := h
    refine ⟨_, pss_cons (ps_set (i := 2) scFirst.nd rfl (Or.inr rfl) pe_dnewT)
      (pss_cons (ps_for PassesOwn.never rfl (pi_list (C8.pe_c c hr (by omega) rfl (pa_cons (pv 0) pa_nil))) (pg_name (i := 3) scFirst.nd rfl (Or.inl rfl))
        (pss_one (ps_if (PW.pt (pw_and (pt_cmpR op_in_seq (pe_fldK K (pv 3)) (pv 1) (by rfl)) (pw_and1 (pt_cmp (pc_dnotin (hu_of hr) (pe_fldK K (pv 3)) (pv 2))))))
          (pss_one (ps_dput (hu_of hr) (pv 2) (pe_fldK K (pv 3)) (pv 3) rfl)) pss_nil)))
      (pss_one (ps_ret (pe_callTy call_tuple_of (by rfl) G.tuple (by decide +kernel) (pa_cons (pe_lock (pe_lc (own := [("told", 4)]) (g := gName 4) (tt := tYes) rfl scFirst.nd (pi_keys (pv 2)) (blkOk_by (N := ["saying", "words", "known", "part", "told"]) (sc := defScope sFirst) (by decide +kernel))
        (fun _ _ _ _ _ => pg_name (i := 4) scFirst.nd rfl (Or.inl rfl)) (fun _ _ _ _ _ => pts_nil) (fun _ _ _ _ _ => by exact pe_dget (hu_of hr) (pv 2) (pv 4) (fun _ _ => rfl)))) pa_nil))))), ?_⟩
    refine fun q hq => ?_
    have hqI : I q = none := hI.free hq
    have g0 : Go NoS I H I (upd H q (.dT [])) := Go.tmp hI hq
    have eq0 : upd H q (.dT []) q = some (.dT []) := upd_same
    generalize upd H q (.dT []) = H0 at g0 eq0 ⊢
    refine ⟨_, rfl, a, m, I, rfl, g0.sub, ha, hd, hw, fun p I1 H1 xs g1' ip hxl hxT => ?_⟩
    have g1 := g0.trans g1'
    have eq1 : H1 q = some (.dT []) := g1'.same q _ id eq0
    have iq1 : I1 q = none := g1'.fr _ _ eq0 hqI
    refine ⟨p, rfl, ⟨_, sqK (g1.sub _ _ ip)⟩, for_it (walk_list (xs := xs)) (fun i σ H' => ∃ (us : List V) (o3 : Option V), i ≤ xs.length ∧ Go NoS I H I1 H' ∧ H' q = some (.dT (zipD (firsts hs (m.parts.take i)) us)) ∧ us.length = (firsts hs (m.parts.take i)).length ∧
      (∀ (j : Nat) x k, us[j]? = some x → (firsts hs (m.parts.take i))[j]? = some k → TIs C I1 x k) ∧ σ = [some (V.ref a), some (.ref b), some (.ref q), o3, none]) ⟨[], none, Nat.zero_le _, g1, eq1, rfl, fun j x k h => by simp at h, rfl⟩ ?_ ?_ ?_⟩
    · rintro i σ H' hi ⟨us, o3, _, g, _⟩
      exact sqK (g.sub _ _ ip)
    · rintro i x σ H' H'' hi ⟨us, o3, _, g, eq, hul, hT, rfl⟩ ⟨rfl, hx⟩
      obtain ⟨pm, hpm⟩ : ∃ pm, m.parts[i]? = some pm := ⟨m.parts[i]'(by omega), List.getElem?_eq_getElem _⟩
      have tx := hxT i x pm hx hpm
      obtain ⟨b0, dx, pa, wa, vs, rfl, i1, i2, i3, hl, hk⟩ := tis_words (C := C) tx
      have hft := firsts_take (hs := hs) hpm
      refine ⟨_, rfl, b0, C, dx, _, _, rfl, g.sub _ _ i1, T.cl, T.nW, tF_word _ _ _, _, rfl, b, hs.map V.str, rfl, .inr (hsq _), rfl, flat_strs hs, ?_⟩
      rw [show (if false = true then !inV (V.str pm.head) (hs.map V.str) else inV (V.str pm.head) (hs.map V.str)) = decide (pm.head ∈ hs) from inV_str pm.head hs]
      refine ⟨_, rfl, ite2 (fun h1 => ?_) (fun h1 => ?_)⟩
      · have h1 := of_decide_eq_true h1
        have kw : H'' wa = some (.tup ((keyT pm.words).map kV)) := by rw [keyT_kV]; exact g.sub _ _ i3
        refine ⟨_, rfl, b0, C, dx, _, _, rfl, g.sub _ _ i1, T.cl, T.nS, tF_words _ _ _, _, rfl, q, _, rfl, DGet.t eq kw, _, rfl, ?_⟩
        rw [zipD_val _ _ _ hul]
        refine ite2 (fun h2 => ?_) (fun h2 => ?_)
        · have h2 : pm.words ∉ (firsts hs (m.parts.take i)).map Mdl.words := fun z => by rw [decide_eq_true z] at h2; cases h2
          have hnone : valV (zipD (firsts hs (m.parts.take i)) us) (keyT pm.words) = none := by
            cases hv : valV (zipD (firsts hs (m.parts.take i)) us) (keyT pm.words) with
            | none => rfl
            | some v =>
              have := zipD_val (firsts hs (m.parts.take i)) us pm.words hul
              rw [hv] at this
              exact absurd (of_decide_eq_true this.symm) h2
          have hlen : (zipD (firsts hs (m.parts.take i)) us).length < sizeLine := by
            rw [zipD_len hul]
            have h3 := firsts_len hs (m.parts.take i)
            have h4 : (m.parts.take i).length ≤ m.parts.length := List.length_take_le' _ _
            rw [Mdl.parts_len] at h4
            exact Nat.lt_of_le_of_lt (by omega : _ ≤ 1000) (by decide)
          refine ⟨_, rfl, _, rfl, _, rfl, b0, C, dx, _, _, rfl, g.sub _ _ i1, T.cl, T.nS, tF_words _ _ _, q, _, rfl, DPut.t eq kw hlen, ?_⟩
          rw [putK_new _ hnone, zipD_snoc hul]
          have e2 : firsts hs (m.parts.take (i + 1)) = firsts hs (m.parts.take i) ++ [pm] := by rw [hft]; unfold addF; rw [if_pos ⟨h1, h2⟩]
          refine ⟨us ++ [.ref b0], _, hi, Go.putNew g iq1 hq, ?_, ?_, ?_, rfl⟩
          · rw [upd_same, e2]
          · rw [e2, List.length_append, List.length_append, hul]; rfl
          · rw [e2]
            refine tis_join hul hT fun j x k e1 e2 => ?_
            cases j with
            | zero => cases e1; cases e2; exact tx
            | succ j => simp at e1
        · have h2 : pm.words ∈ (firsts hs (m.parts.take i)).map Mdl.words := by
            by_cases z : pm.words ∈ (firsts hs (m.parts.take i)).map Mdl.words
            · exact z
            · rw [decide_eq_false z] at h2; exact absurd rfl h2
          have e2 : firsts hs (m.parts.take (i + 1)) = firsts hs (m.parts.take i) := by rw [hft]; unfold addF; rw [if_neg (fun z => z.2 h2)]
          exact ⟨us, _, hi, g, by rw [e2]; exact eq, by rw [e2]; exact hul, by rw [e2]; exact hT, rfl⟩
      · have h1 : pm.head ∉ hs := fun z => h1 (decide_eq_true z)
        have e2 : firsts hs (m.parts.take (i + 1)) = firsts hs (m.parts.take i) := by rw [hft]; unfold addF; rw [if_neg (fun z => h1 z.1)]
        exact ⟨us, _, hi, g, by rw [e2]; exact eq, by rw [e2]; exact hul, by rw [e2]; exact hT, rfl⟩
    · rintro σ H2 ⟨us, o3, _, g2, eq2, hul, hT, rfl⟩
      rw [hxl, List.take_length] at eq2 hul hT
      refine ⟨q, _, eq2, trivial, fun od => ?_⟩
      have gL : Go NoS I H I1 (upd H2 q (.frz od (.dT (zipD (firsts hs m.parts) us)))) := Go.putNew g2 iq1 hq
      have eqL : (upd H2 q (.frz od (.dT (zipD (firsts hs m.parts) us)))) q = some (.frz od (.dT (zipD (firsts hs m.parts) us))) := upd_same
      generalize upd H2 q (.frz od (.dT (zipD (firsts hs m.parts) us))) = H3 at gL eqL ⊢
      refine ⟨_, rfl, q, od, rfl, .inr ⟨_, eqL, fun D hD => lc_it walk_keysT (fun i H' => i ≤ us.length ∧ Go NoS I H I1 H' ∧ H' q = some (.frz od (.dT (zipD (firsts hs m.parts) us))) ∧ H' D = some (.lst (us.take i))) ?_ (fun i H' _ z => z.2.2.1) ?_ ?_⟩⟩
      · have nqD : q ≠ D := ne_of_none eqL hD
        exact ⟨Nat.zero_le _, gL.trans (Go.tmp gL.sub hD), by rw [upd_ne nqD]; exact eqL, upd_same⟩
      · rintro i x H4 H5 hi ⟨_, g4, eq4, eD4⟩ ⟨rfl, kk, v, q0, hkv, rfl, hq0⟩
        have nqD : q ≠ D := ne_of_none eqL hD
        obtain ⟨h1, ⟨mm, h2, rfl⟩, h3⟩ := zipD_at _ us i kk v hul (firsts_nodup _ _) hkv
        have hiu : i < us.length := (List.getElem?_eq_some_iff.mp h1).1
        refine ⟨rfl, ?_⟩
        refine ⟨_, rfl, _, rfl, q, v, rfl, .inr ⟨_, keyT mm.words, q0, .inr ⟨od, eq4⟩, rfl, hq0, h3.symm⟩, us.take i, eD4, ?_, ?_⟩
        · have h5 := firsts_len hs m.parts
          rw [Mdl.parts_len] at h5
          rw [List.length_take]
          exact Nat.lt_of_le_of_lt (Nat.le_trans (Nat.min_le_right _ _) (by omega : us.length ≤ 1000)) (by decide)
        · refine ⟨hiu, Go.putNew g4 (gL.sub.free hD) (gL.back hD), ?_, ?_⟩
          · rw [upd_ne nqD]; exact eq4
          · rw [upd_same, List.take_succ, h1]; rfl
      · rintro H4 ⟨_, g4, eq4, eD4⟩
        have nqD : q ≠ D := ne_of_none eqL hD
        rw [zipD_len hul, ← hul, List.take_length] at eD4
        refine ⟨eq4, D, us, rfl, .inl ⟨sqK (by rw [upd_ne nqD.symm]; exact eD4), fun l hl => ?_⟩⟩
        have g5 : Go NoS I H I1 (upd H4 q (.dT (zipD (firsts hs m.parts) us))) := Go.putNew g4 iq1 hq
        refine k l (upd I1 l (.tup us)) _ us (g5.trans (Go.new g5.sub hl)) upd_same hul fun j x mm e1 e2 => ?_
        exact (hT j x mm e1 e2).ext (Go.new (S := NoS) g5.sub hl).ext
end
end Tm
/-! promises_of, memories_of, events_of -/
namespace Tm
open PySem PySem.Spec PyProof.Rows L2
abbrev sEvents : Stmt := top 18
def spHeads (C BT : Addr) (hs : List Str) (d : Nat) : Sp := fun vs H Q E => ∃ (v : V) (b : Bool) (I : Hp), vs = [v] ∧ Same I H ∧ Kn C I v b ∧ (b = false → Leaves NoS I H BT (fsBT "saying") E) ∧
  (b = true → ∃ m, TIs C I v m ∧ m.deep ≤ d ∧ m.words.length ≤ 1000 ∧ ∀ (p : Addr) (I' H' : Hp) (us : List V), Go NoS I H I' H' → I' p = some (.tup us) → us.length = (firsts hs m.parts).length → (∀ (i : Nat) x k, us[i]? = some x → (firsts hs m.parts)[i]? = some k → TIs C I' x k) → Q (.ref p) H')
def spEvents (C BT : Addr) : Sp := fun vs H Q E => ∃ (v : V) (b : Bool) (I : Hp), vs = [v] ∧ Same I H ∧ Kn C I v b ∧ (b = false → Leaves NoS I H BT (fsBT "saying") E) ∧
  (b = true → ∃ m, TIs C I v m ∧ m.words.length ≤ 60 ∧ (∀ z ∈ m.words, due z ≠ none) ∧ ∀ (p : Addr) (I' H' : Hp) (es : List Str), Go NoS I H I' H' → I' p = some (.tup (es.map V.str)) → es.Nodup → sortedS es = true → (∀ z, z ∈ es ↔ z ∈ m.words ∧ evOk z = true) → Q (.ref p) H')
/-- a module's tuple of words -/
def TupK (K : PySem.W.Frag) (mg : Str → Option Value) (x : Str) (hs : List Str) : Prop := ∃ t, mg x = some (.ref t) ∧ ∀ H, SqT K H t (hs.map V.str)
section
variable {P : Program} {w : World} {K : PySem.W.Frag} {mg : Str → Option Value} {base : Heap} {C BT BX TM : Addr}
theorem scProm : FnScope ["saying"] ["saying"] (defScope sProm) := ⟨rfl, rfl, rfl, by decide +kernel, rfl, by decide +kernel, by decide +kernel⟩
theorem scMem : FnScope ["saying"] ["saying"] (defScope sMem) := ⟨rfl, rfl, rfl, by decide +kernel, rfl, by decide +kernel, by decide +kernel⟩
theorem ok_prom {d : Nat} {f : Addr} {fd : FuncData} {hs : List Str} (F : Fun K "promises_of" "promises_of" sProm f fd) (U : TupK K mg "PROMISES" hs) (cN : CalX P w K mg base 3 "need_temporal" (spNeed C BT) [.str "saying"]) (c : C8.Cal P w K mg base (d + 2) "first_ones" (spFirst K C d) []) :
    FnOk P w K mg base (L2.CX P w) (d + 4) f fd ["saying"] (spHeads C BT hs d) := by
  obtain ⟨t, mt, ut⟩ := U
  refine F.okX scProm (fun vs H Q E h => ?_) (fun cdv A outer s H vs Q E hr h => ?_)
  · obtain ⟨v, b, I, rfl, _⟩ := h
    rfl
  · obtain ⟨v, b, I, rfl, hI, kv, k1, k2⟩ := h
    refine ⟨_, pss_cons (ps_expr (pe_cX cN hr (by omega) rfl (passes_call (takes_of rfl rfl rfl rfl) (fun _ _ _ _ h => h)) (pa_cons (pv 0) pa_nil)))
      (pss_one (ps_ret (C8.pe_c c hr (by omega) rfl (pa_cons (pv 0) (pa_cons (pe_glob (v := .ref t) rfl mt rfl) pa_nil))))), ?_⟩
    refine ⟨_, rfl, v, b, "saying", I, rfl, hI, kv, fun hb => ?_, k1⟩
    obtain ⟨m, tm, hd, hw, k⟩ := k2 hb
    obtain ⟨a0, _, _, _, _, rfl, _⟩ := tis_words (C := C) tm
    exact ⟨_, rfl, a0, t, m, hs, I, rfl, hI, tm, hd, hw, ut, k⟩
theorem ok_mem {d : Nat} {f : Addr} {fd : FuncData} {hs : List Str} (F : Fun K "memories_of" "memories_of" sMem f fd) (U : TupK K mg "MEMORIES" hs) (cN : CalX P w K mg base 3 "need_temporal" (spNeed C BT) [.str "saying"]) (c : C8.Cal P w K mg base (d + 2) "first_ones" (spFirst K C d) []) :
    FnOk P w K mg base (L2.CX P w) (d + 4) f fd ["saying"] (spHeads C BT hs d) := by
  obtain ⟨t, mt, ut⟩ := U
  refine F.okX scMem (fun vs H Q E h => ?_) (fun cdv A outer s H vs Q E hr h => ?_)
  · obtain ⟨v, b, I, rfl, _⟩ := h
    rfl
  · obtain ⟨v, b, I, rfl, hI, kv, k1, k2⟩ := h
    refine ⟨_, pss_cons (ps_expr (pe_cX cN hr (by omega) rfl (passes_call (takes_of rfl rfl rfl rfl) (fun _ _ _ _ h => h)) (pa_cons (pv 0) pa_nil)))
      (pss_one (ps_ret (C8.pe_c c hr (by omega) rfl (pa_cons (pv 0) (pa_cons (pe_glob (v := .ref t) rfl mt rfl) pa_nil))))), ?_⟩
    refine ⟨_, rfl, v, b, "saying", I, rfl, hI, kv, fun hb => ?_, k1⟩
    obtain ⟨m, tm, hd, hw, k⟩ := k2 hb
    obtain ⟨a0, _, _, _, _, rfl, _⟩ := tis_words (C := C) tm
    exact ⟨_, rfl, a0, t, m, hs, I, rfl, hI, tm, hd, hw, ut, k⟩
theorem scEvents : FnScope ["saying", "word"] ["saying"] (defScope sEvents) := ⟨rfl, rfl, rfl, by decide +kernel, rfl, by decide +kernel, by decide +kernel⟩
/-- a dict comprehension over any walk -/
theorem dc_it {J : It} {n : Nat} {G : Hp → Prop} {Y : Nat → Hp → V → Hp → Prop} (w : Walk J n G Y) {g : TG} {tt : TT} {tk tv : TE} {vs : List Nat} {σ : L2.St} {H1 : Hp} {D : Addr} {Qd : Hp → Prop} (Pv : Nat → Hp → Prop) (h0 : Pv 0 (upd H1 D (.dK []))) (hG : ∀ i H, i ≤ n → Pv i H → G H)
    (hs : ∀ i x H H', i < n → Pv i H → Y i H x H' → g x (wipe σ vs) H' fun σ2 H2 => wipe σ2 vs = wipe σ vs ∧ tt σ2 H2 fun b H3 =>
      if b = true then tk σ2 H3 fun y H4 => tv σ2 H4 fun z H5 => ∃ kvs k, y = kV k ∧ H5 D = some (.dK kvs) ∧ kvs.length < sizeLine ∧ Pv (i + 1) (upd H5 D (.dK (putK kvs k z))) else Pv (i + 1) H3) (hd : ∀ H, Pv n H → Qd H) :
    ∃ W : Nat → Nat → Hp → Prop, (∃ m, W 0 m (upd H1 D (.dK []))) ∧ ∀ i m H, W i m H →
      (J.stop i H ∧ Qd H) ∨ (J.go i H ∧ ∃ Nx : Hp → Prop, (∀ H', Nx H' → ∃ m', m' < m ∧ W (i + 1) m' H') ∧ ∀ x H', J.yld i H x H' → g x (wipe σ vs) H' fun σ2 H2 => wipe σ2 vs = wipe σ vs ∧ tt σ2 H2 fun b H3 =>
        if b = true then tk σ2 H3 fun y H4 => tv σ2 H4 fun z H5 => ∃ kvs k, y = kV k ∧ H5 D = some (.dK kvs) ∧ kvs.length < sizeLine ∧ Nx (upd H5 D (.dK (putK kvs k z))) else Nx H3) := by
  refine ⟨fun i m H => m = n - i ∧ i ≤ n ∧ Pv i H, ⟨n, by simp, Nat.zero_le _, h0⟩, ?_⟩
  rintro i m H ⟨rfl, hi, p⟩
  have q := hG i H hi p
  by_cases hlt : i < n
  · exact .inr ⟨w.goes i H hlt q, Pv (i + 1), fun H' p' => ⟨n - (i + 1), by omega, rfl, hlt, p'⟩, fun x H' y => hs i x H H' hlt p (w.yields i H x H' hlt q y)⟩
  · have e : i = n := by omega
    subst e
    exact .inl ⟨w.stops H q, hd H p⟩
/-- the events among these, in their first order -/
def evF (acc : List Str) (z : Str) : List Str := if evOk z = true ∧ z ∉ acc then acc ++ [z] else acc
theorem evF_nodup {acc : List Str} {z : Str} (h : acc.Nodup) : (evF acc z).Nodup := by
  unfold evF
  split
  · rename_i hp
    exact nd_snoc h hp.2
  · exact h
theorem evF_mem {acc : List Str} {z y : Str} : y ∈ evF acc z ↔ y ∈ acc ∨ (y = z ∧ evOk z = true) := by
  unfold evF
  split
  · rename_i hp
    rw [List.mem_append, List.mem_singleton]
    exact ⟨fun h => h.imp id fun e => ⟨e, hp.1⟩, fun h => h.imp id fun e => e.1⟩
  · rename_i hp
    refine ⟨.inl, fun h => h.elim id fun e => ?_⟩
    by_cases hz : z ∈ acc
    · rw [e.1]; exact hz
    · exact absurd ⟨e.2, hz⟩ hp
theorem putK_ev (acc : List Str) (z : Str) (h : evOk z = true) : putK (acc.map fun z => ((Sum.inr z : Key), V.bl true)) (.inr z) (.bl true) = (evF acc z).map fun z => ((Sum.inr z : Key), V.bl true) := by
  unfold putK evF
  have e : ((acc.map fun z => ((Sum.inr z : Key), V.bl true)).any fun kv => decide (kv.1 = .inr z)) = decide (z ∈ acc) := by
    induction acc with
    | nil => rfl
    | cons y r ih =>
      rw [List.map_cons, List.any_cons, ih]
      by_cases e : y = z
      · subst e; simp
      · rw [decide_eq_false (fun q => e (Sum.inr.inj q)), Bool.false_or]
        by_cases h2 : z ∈ r
        · rw [decide_eq_true h2, decide_eq_true (List.mem_cons_of_mem _ h2)]
        · rw [decide_eq_false h2, decide_eq_false (fun q => (List.mem_cons.mp q).elim (fun q => e q.symm) h2)]
  rw [e]
  by_cases h2 : z ∈ acc
  · rw [if_pos (decide_eq_true h2), if_neg (fun q => q.2 h2), List.map_map]
    refine List.map_congr_left fun y _ => ?_
    show (if (Sum.inr y : Key) = .inr z then ((Sum.inr y : Key), V.bl true) else (.inr y, .bl true)) = _
    split <;> rfl
  · rw [if_neg (by rw [decide_eq_false h2]; exact Bool.false_ne_true), if_pos ⟨h, h2⟩, List.map_append]
    rfl
theorem ok_events {f : Addr} {fd : FuncData} (F : Fun K "events_of" "events_of" sEvents f fd) (T : TC K mg C) (G : TFi mg) (cN : CalX P w K mg base 3 "need_temporal" (spNeed C BT) [.str "saying"]) (cI : C8.Cal P w K mg base 1 "is_event" (spIsEvent C) []) :
    FnOk P w K mg base (L2.CX P w) 4 f fd ["saying"] (spEvents C BT) := by
  refine F.okX scEvents (fun vs H Q E h => ?_) (fun cdv A outer s H vs Q E hr h => ?_)
  · obtain ⟨v, b, I, rfl, _⟩ := h
    rfl
  · obtain ⟨v, b, I, rfl, hI, kv, k1, k2⟩ := h
    refine ⟨_, pss_cons (ps_expr (pe_cX cN hr (by decide) rfl (passes_call (takes_of rfl rfl rfl rfl) (fun _ _ _ _ h => h)) (pa_cons (pv 0) pa_nil)))
      (pss_one (ps_ret (pe_callTy call_tuple_of (by rfl) G.tuple (by decide +kernel) (pa_cons (pe_callB cr_sortedS (by rfl) G.sorted (by decide +kernel) (pa_cons (pe_callTy (call_list_dK rfl) (by rfl) G.list (by decide +kernel) (pa_cons
        (pe_dc (own := [("word", 1)]) (g := gName 1) (tt := tB (tCall (spIsEvent C) [] E0 (tCons (tVar 1) tNil))) rfl scEvents.nd (pi_tupK K (pe_fldK K (pv 0))) (blkOk_by (N := ["saying", "word"]) (sc := defScope sEvents) (by decide +kernel))
          (fun _ _ _ _ _ => pg_name (i := 1) scEvents.nd rfl (Or.inl rfl)) (fun _ _ _ _ _ => by exact pts_one (pt_val (C8.pe_c cI hr (by decide) rfl (pa_cons (pv 1) pa_nil)))) (fun _ _ _ _ _ => pv 1) (fun _ _ _ _ _ => pe_bl)) pa_nil)) pa_nil)) pa_nil)))), ?_⟩
    refine ⟨_, rfl, v, b, "saying", I, rfl, hI, kv, fun hb => ?_, k1⟩
    obtain ⟨m, tm, hw, hdue, k⟩ := k2 hb
    obtain ⟨a0, dx, pa, wa, vs, rfl, i1, i2, i3, hl, hk⟩ := tis_words (C := C) tm
    let acc : Nat → List Str := fun i => (m.words.take i).foldl evF []
    have acc1 : ∀ i z, m.words[i]? = some z → acc (i + 1) = evF (acc i) z := fun i z h => by
      show (m.words.take (i + 1)).foldl evF [] = _
      rw [List.take_succ, h, Option.toList_some, List.foldl_append]; rfl
    have nd : ∀ ws a : List Str, a.Nodup → (ws.foldl evF a).Nodup := fun ws => by
      induction ws with
      | nil => exact fun a h => h
      | cons z r ih => exact fun a h => ih _ (evF_nodup h)
    have mm : ∀ (ws a : List Str) (y : Str), y ∈ ws.foldl evF a ↔ y ∈ a ∨ (y ∈ ws ∧ evOk y = true) := fun ws => by
      induction ws with
      | nil => intro a y; simp
      | cons z r ih =>
        intro a y
        rw [List.foldl_cons, ih, evF_mem, List.mem_cons, or_assoc]
        refine or_congr Iff.rfl ⟨fun h => ?_, fun h => ?_⟩
        · rcases h with ⟨rfl, h⟩ | ⟨h1, h2⟩
          · exact ⟨.inl rfl, h⟩
          · exact ⟨.inr h1, h2⟩
        · rcases h.1 with rfl | h1
          · exact .inl ⟨rfl, h.2⟩
          · exact .inr ⟨h1, h.2⟩
    let kvs : Nat → List (Key × V) := fun i => (acc i).map fun z => (Sum.inr z, V.bl true)
    have lenA : ∀ i, (acc i).length ≤ i := fun i => by
      have : ∀ (ws a : List Str), (ws.foldl evF a).length ≤ a.length + ws.length := fun ws => by
        induction ws with
        | nil => exact fun a => Nat.le_refl _
        | cons z r ih =>
          intro a
          have h := ih (evF a z)
          have h2 : (evF a z).length ≤ a.length + 1 := by
            unfold evF
            split
            · rw [List.length_append]; exact Nat.le_refl _
            · exact Nat.le_succ _
          rw [List.foldl_cons, List.length_cons]
          omega
      have h := this (m.words.take i) []
      rw [List.length_take] at h
      have h2 : (acc i).length ≤ 0 + min i m.words.length := h
      omega
    refine ⟨_, rfl, a0, C, dx, _, _, rfl, hI _ _ i1, T.cl, T.nS, tF_words _ _ _, wa, rfl, ⟨_, stK (hI _ _ i3)⟩, fun D hD => dc_it (walk_tup (xs := m.words.map V.str)) (fun i H' => i ≤ m.words.length ∧ Go NoS I H I H' ∧ H' D = some (.dK (kvs i))) ⟨Nat.zero_le _, Go.tmp hI hD, upd_same⟩ (fun i H' _ h => stK (h.2.1.sub _ _ i3)) ?_ ?_⟩
    · rintro i x H1 H2 hi ⟨_, g1, eD1⟩ ⟨rfl, hx⟩
      rw [List.length_map] at hi
      replace hx : (m.words.map V.str)[i]? = some x := hx
      rw [List.getElem?_map, List.getElem?_eq_getElem hi] at hx
      cases hx
      have hz : m.words[i] ∈ m.words := List.getElem_mem hi
      have ea := acc1 i _ (List.getElem?_eq_getElem hi)
      generalize m.words[i] = z at hz ea ⊢
      refine ⟨rfl, ?_⟩
      refine ⟨_, rfl, .str z, false, rfl, .str z (due_len (hdue z hz)), fun H3 g3 => ⟨_, rfl, ?_⟩⟩
      have g4 := g1.trans (g3 _ g1.sub)
      have eD3 : H3 D = some (.dK (kvs i)) := (g3 (fun _ => none) (fun _ _ z => nomatch z)).same D _ id eD1
      have hlt : i < sizeLine := Nat.lt_of_lt_of_le (by omega : i < 60) (by decide)
      refine ite2 (fun h => ?_) (fun h => ?_)
      · have h : evOk z = true := h
        refine ⟨_, rfl, kvs i, .inr z, rfl, eD3, ?_, hi, Go.putNew g4 (hI.free hD) hD, ?_⟩
        · show ((acc i).map _).length < _
          rw [List.length_map]; exact Nat.lt_of_le_of_lt (lenA i) hlt
        · rw [upd_same]
          have : putK (kvs i) (.inr z) (.bl true) = kvs (i + 1) := by
            show putK ((acc i).map fun z => ((Sum.inr z : Key), V.bl true)) (.inr z) (.bl true) = (acc (i + 1)).map _
            rw [ea]
            exact putK_ev (acc i) z h
          rw [this]
      · have h : ¬ evOk z = true := h
        refine ⟨hi, g4, ?_⟩
        have : kvs (i + 1) = kvs i := by
          show (acc (i + 1)).map _ = (acc i).map _
          rw [ea]; unfold evF; rw [if_neg (fun x => h x.1)]
        rw [this]; exact eD3
    · rintro H1 ⟨_, g1, eD1⟩
      rw [List.length_map] at eD1
      refine ⟨D, _, rfl, eD1, fun q hq => ?_⟩
      have g2 := g1.trans (Go.tmp (o := .lst ((kvs m.words.length).map fun kv => kV kv.1)) g1.sub hq)
      have ek : ((kvs m.words.length).map fun kv => kV kv.1) = (acc m.words.length).map V.str := by
        show (((acc m.words.length).map fun z => ((Sum.inr z : Key), V.bl true)).map fun kv => kV kv.1) = _
        rw [List.map_map]; rfl
      rw [ek] at g2 ⊢
      refine ⟨q, acc m.words.length, rfl, sqK upd_same, Nat.lt_of_le_of_lt (lenA _) (by omega), fun ys p perm srt hp => ?_⟩
      have g3 := g2.trans (Go.tmp (o := .lst (ys.map V.str)) g2.sub hp)
      refine ⟨p, _, rfl, .inl ⟨sqK upd_same, fun l hl => ?_⟩⟩
      refine k l _ _ ys (g3.trans (Go.new g3.sub hl)) upd_same (perm.nodup_iff.mpr (nd _ _ .nil)) srt fun z => ?_
      rw [perm.mem_iff, mm, List.take_length]
      simp
end
end Tm
/-! slices -/
namespace Tm
open PySem PySem.Spec PyProof.Rows L2
theorem cut_lo (xs : List V) (i : Nat) : cutV xs (some (i : Int)) none = xs.drop i := by
  unfold cutV
  rw [HT.sIx_nat, HT.sIx_none]
  by_cases h : i ≤ xs.length
  · rw [Nat.min_eq_left h, List.take_of_length_le (by rw [List.length_drop]; omega)]
  · rw [Nat.min_eq_right (by omega), List.drop_length, List.drop_of_length_le (by omega), List.take_nil]
theorem cut_hi (xs : List V) (i : Nat) : cutV xs none (some (i : Int)) = xs.take i := by
  unfold cutV
  rw [HT.sIx_nat, HT.sIx_none, List.drop_zero, Nat.sub_zero]
  by_cases h : i ≤ xs.length
  · rw [Nat.min_eq_left h]
  · rw [Nat.min_eq_right (by omega), List.take_length, List.take_of_length_le (by omega)]
theorem cut_m1 (xs : List V) : cutV xs none (some (-1)) = xs.dropLast := by
  unfold cutV
  have e : HT.sIx xs.length xs.length (some (-1)) = xs.length - 1 := by
    show (if (-1 : Int) < 0 then ((-1 : Int) + (xs.length : Int)).toNat else min (-1 : Int).toNat xs.length) = _
    rw [if_pos (by decide)]
    omega
  rw [e, HT.sIx_none, List.drop_zero, Nat.sub_zero, List.dropLast_eq_take]
theorem cut_tail (x : V) (vs : List V) : cutV (x :: vs) (some 1) none = vs := cut_lo (x :: vs) 1
end Tm
/-! the law's lists: words, parts -/
namespace Tm
open PySem PySem.Spec PyProof.Rows L2
abbrev sLWords : Stmt := top 29
abbrev sLParts : Stmt := top 30
def spLWords (d : Nat) : Sp := fun vs H Q _ => ∃ (a : Addr) (m : Mdl) (I : Hp), vs = [.ref a] ∧ Same I H ∧ MIs I (.ref a) m ∧ m.deep ≤ d ∧ m.words.length ≤ 1000 ∧
  ∀ (p : Addr) (I' H' : Hp), Go NoS I H I' H' → I' p = some (.lst (m.words.map V.str)) → Q (.ref p) H'
def spLParts (d : Nat) : Sp := fun vs H Q _ => ∃ (a : Addr) (m : Mdl) (I : Hp), vs = [.ref a] ∧ Same I H ∧ MIs I (.ref a) m ∧ m.deep ≤ d ∧ m.words.length ≤ 1000 ∧
  ∀ (p : Addr) (I' H' : Hp) (xs : List V), Go NoS I H I' H' → I' p = some (.lst xs) → xs.length = m.parts.length → (∀ (i : Nat) x k, xs[i]? = some x → m.parts[i]? = some k → MIs I' x k) → Q (.ref p) H'
section
variable {P : Program} {w : World} {K : PySem.W.Frag} {mg : Str → Option Value} {base : Heap}
theorem mis_ref {I : Hp} {v : V} {m : Mdl} (h : MIs I v m) : ∃ a, v = .ref a := by
  cases h <;> exact ⟨_, rfl⟩
theorem scLWords : FnScope ["model", "found", "part"] ["model"] (defScope sLWords) := ⟨rfl, rfl, rfl, by decide +kernel, rfl, by decide +kernel, by decide +kernel⟩
theorem ok_lwords {f : Addr} {fd : FuncData} (F : Fun K "_law_words" "_law_words" sLWords f fd) (b : Binds K fd ["model"] []) (mF : mg "_law_words" = some (.ref f)) : ∀ d : Nat, FnOk P w K mg base CX0 (d + 1) f fd ["model"] (spLWords d) := by
  have core : ∀ d : Nat, C8.Cal P w K mg base d "_law_words" (fun vs H Q E => ∃ e, d = e + 1 ∧ spLWords e vs H Q E) [] → FnOk P w K mg base CX0 (d + 1) f fd ["model"] (spLWords d) := by
    intro d c
    refine F.ok scLWords (fun vs H Q E h => ?_) (fun cdv A outer s H vs Q E hr h => ?_)
    · obtain ⟨a, m, I, rfl, _⟩ := h
      rfl
    · obtain ⟨a, m, I, rfl, hI, ha, hd, hw, k⟩ := h
      refine ⟨_, pss_cons (ps_set (i := 1) scLWords.nd rfl (Or.inl rfl) (pe_lst (pa_cons (pe_ix ix_list (pv 0) pe_int (fun _ _ => rfl)) pa_nil)))
        (pss_cons (ps_for PassesOwn.never rfl (pi_list (pe_slice sl_list (pv 0) (po_some pe_int) po_none)) (pg_name (i := 2) scLWords.nd rfl (Or.inl rfl))
          (pss_one (ps_set (i := 1) scLWords.nd rfl (Or.inl rfl) (pe_op op_cat (pv 1) (C8.pe_c c hr (by omega) rfl (pa_cons (pv 2) pa_nil))))))
        (pss_one (ps_ret (pv 1)))), ?_⟩
      obtain ⟨a0, vs, e0, i0, hl, hk⟩ := ha.list
      cases e0
      refine ⟨_, rfl, a, _, _, .str m.head, rfl, rfl, sqK (hI _ _ i0), atI_at (j := 0) rfl rfl, (by show 1 ≤ sizeLine; decide), fun q hq => ?_⟩
      have g0 : Go NoS I H (upd I q (.lst [.str m.head])) (upd H q (.lst [.str m.head])) := Go.new hI hq
      have e0 : upd I q (.lst [.str m.head]) q = some (.lst [.str m.head]) := upd_same
      generalize upd H q (.lst [.str m.head]) = H0 at g0 ⊢
      generalize upd I q (.lst [.str m.head]) = I0 at g0 e0
      refine ⟨_, rfl, 1, rfl, a, _, rfl, sqK (g0.sub _ _ (g0.ext _ _ i0)), fun p2 hp2 => ?_⟩
      rw [cut_tail]
      have g1 := g0.trans (Go.new (o := .lst vs) g0.sub hp2)
      have e1 : upd I0 p2 (.lst vs) p2 = some (.lst vs) := upd_same
      have e01 := (Go.new (S := NoS) (o := .lst vs) g0.sub hp2).ext _ _ e0
      generalize upd H0 p2 (.lst vs) = H1 at g1 ⊢
      generalize upd I0 p2 (.lst vs) = I1 at g1 e1 e01
      refine ⟨p2, rfl, ⟨_, sqK (g1.sub _ _ e1)⟩, for_it (walk_list (xs := vs)) (fun i σ H' => ∃ (I' : Hp) (q : Addr) (o2 : Option V), i ≤ vs.length ∧ Go NoS I H I' H' ∧ I' p2 = some (.lst vs) ∧ I' q = some (.lst ((m.head :: ((m.kids.take i).map Mdl.words).flatten).map V.str)) ∧
        σ = [some (V.ref a), some (.ref q), o2]) ⟨I1, q, none, Nat.zero_le _, g1, e1, e01, rfl⟩ ?_ ?_ ?_⟩
      · rintro i σ H' hi ⟨I', q', o2, _, g, ip, _⟩
        exact sqK (g.sub _ _ ip)
      · rintro i x σ H' H'' hi ⟨I', q', o2, _, g, ip, iq, rfl⟩ ⟨rfl, hx⟩
        obtain ⟨km, hkm⟩ : ∃ km, m.kids[i]? = some km := ⟨m.kids[i]'(by omega), List.getElem?_eq_getElem _⟩
        have tx := (hk i x km hx hkm).ext g.ext
        obtain ⟨b0, rfl⟩ := mis_ref tx
        have hmem : km ∈ m.kids := List.mem_of_getElem? hkm
        have hkd := Mdl.kids_deep hmem
        have hkw : km.words.length ≤ m.words.length := by
          rw [Mdl.kids_words m, List.length_cons]
          have : km.words ∈ m.kids.map Mdl.words := List.mem_map_of_mem hmem
          exact Nat.le_succ_of_le (List.sublist_flatten_of_mem this).length_le
        have hfl : (m.head :: ((m.kids.take i).map Mdl.words).flatten).length + km.words.length ≤ m.words.length := by
          rw [Mdl.kids_words m, List.length_cons, List.length_cons]
          have h1 := Mdl.flat_le m.kids (i + 1)
          rw [Mdl.flat_take hkm, List.length_append] at h1
          omega
        refine ⟨_, rfl, _, rfl, d - 1, by omega, b0, km, I', rfl, g.sub, tx, by omega, by omega, fun p I2 H2 g2 ip2 => ?_⟩
        have g3 := g.trans g2
        refine ⟨q', p, _, _, rfl, rfl, g3.sub _ _ (g2.ext _ _ iq), g3.sub _ _ ip2, ?_, fun r hr => ?_⟩
        · rw [List.length_map, List.length_map]
          exact Nat.le_trans (by omega : _ ≤ 1000) (by decide)
        · rw [← List.map_append, List.cons_append, ← Mdl.flat_take hkm]
          exact ⟨_, r, _, hi, g3.trans (Go.new g3.sub hr), (Go.new (S := NoS) g3.sub hr).ext _ _ (g2.ext _ _ ip), upd_same, rfl⟩
      · rintro σ H' ⟨I', q', o2, _, g, ip, iq, rfl⟩
        rw [hl, List.take_length, ← Mdl.kids_words] at iq
        exact ⟨_, rfl, k q' I' H' g iq⟩
  intro d
  induction d with
  | zero => exact core 0 ⟨f, fd, _, _, ⟨fun vs H Q E h => by obtain ⟨e, z, _⟩ := h; omega, fun _ _ _ _ _ _ _ _ _ _ _ _ _ h => by obtain ⟨e, z, _⟩ := h; omega⟩, mF, F.kp, b, .nil⟩
  | succ d ih => exact core (d + 1) ⟨f, fd, _, _, ih.imp fun vs H Q E h => by obtain ⟨e, z, h⟩ := h; cases z; exact h, mF, F.kp, b, .nil⟩
theorem scLParts : FnScope ["model", "found", "part"] ["model"] (defScope sLParts) := ⟨rfl, rfl, rfl, by decide +kernel, rfl, by decide +kernel, by decide +kernel⟩
theorem mis_join {I : Hp} {xs ys : List V} {ps qs : List Mdl} (hl : xs.length = ps.length) (h1 : ∀ (i : Nat) x k, xs[i]? = some x → ps[i]? = some k → MIs I x k) (h2 : ∀ (i : Nat) x k, ys[i]? = some x → qs[i]? = some k → MIs I x k) :
    ∀ (i : Nat) x k, (xs ++ ys)[i]? = some x → (ps ++ qs)[i]? = some k → MIs I x k := fun i x k e1 e2 => by
  by_cases hi : i < xs.length
  · rw [List.getElem?_append_left hi] at e1
    rw [List.getElem?_append_left (by omega)] at e2
    exact h1 i x k e1 e2
  · rw [List.getElem?_append_right (by omega)] at e1
    rw [List.getElem?_append_right (by omega), ← hl] at e2
    exact h2 _ x k e1 e2
theorem ok_lparts {f : Addr} {fd : FuncData} (F : Fun K "_law_parts" "_law_parts" sLParts f fd) (b : Binds K fd ["model"] []) (mF : mg "_law_parts" = some (.ref f)) : ∀ d : Nat, FnOk P w K mg base CX0 (d + 1) f fd ["model"] (spLParts d) := by
  have core : ∀ d : Nat, C8.Cal P w K mg base d "_law_parts" (fun vs H Q E => ∃ e, d = e + 1 ∧ spLParts e vs H Q E) [] → FnOk P w K mg base CX0 (d + 1) f fd ["model"] (spLParts d) := by
    intro d c
    refine F.ok scLParts (fun vs H Q E h => ?_) (fun cdv A outer s H vs Q E hr h => ?_)
    · obtain ⟨a, m, I, rfl, _⟩ := h
      rfl
    · obtain ⟨a, m, I, rfl, hI, ha, hd, hw, k⟩ := h
      refine ⟨_, pss_cons (ps_set (i := 1) scLParts.nd rfl (Or.inl rfl) (pe_lst (pa_cons (pv 0) pa_nil)))
        (pss_cons (ps_for PassesOwn.never rfl (pi_list (pe_slice sl_list (pv 0) (po_some pe_int) po_none)) (pg_name (i := 2) scLParts.nd rfl (Or.inl rfl))
          (pss_one (ps_set (i := 1) scLParts.nd rfl (Or.inl rfl) (pe_op op_cat (pv 1) (C8.pe_c c hr (by omega) rfl (pa_cons (pv 2) pa_nil))))))
        (pss_one (ps_ret (pv 1)))), ?_⟩
      obtain ⟨a0, vs, e0, i0, hl, hk⟩ := ha.list
      cases e0
      refine ⟨_, rfl, (by show 1 ≤ sizeLine; decide), fun q hq => ?_⟩
      have g0 : Go NoS I H (upd I q (.lst [.ref a])) (upd H q (.lst [.ref a])) := Go.new hI hq
      have e0 : upd I q (.lst [.ref a]) q = some (.lst [.ref a]) := upd_same
      generalize upd H q (.lst [.ref a]) = H0 at g0 ⊢
      generalize upd I q (.lst [.ref a]) = I0 at g0 e0
      refine ⟨_, rfl, 1, rfl, a, _, rfl, sqK (g0.sub _ _ (g0.ext _ _ i0)), fun p2 hp2 => ?_⟩
      rw [cut_tail]
      have g1 := g0.trans (Go.new (o := .lst vs) g0.sub hp2)
      have e1 : upd I0 p2 (.lst vs) p2 = some (.lst vs) := upd_same
      have e01 := (Go.new (S := NoS) (o := .lst vs) g0.sub hp2).ext _ _ e0
      generalize upd H0 p2 (.lst vs) = H1 at g1 ⊢
      generalize upd I0 p2 (.lst vs) = I1 at g1 e1 e01
      refine ⟨p2, rfl, ⟨_, sqK (g1.sub _ _ e1)⟩, for_it (walk_list (xs := vs)) (fun i σ H' => ∃ (I' : Hp) (q : Addr) (o2 : Option V) (xs : List V), i ≤ vs.length ∧ Go NoS I H I' H' ∧ I' p2 = some (.lst vs) ∧ I' q = some (.lst (.ref a :: xs)) ∧ xs.length = ((m.kids.take i).map Mdl.parts).flatten.length ∧
        (∀ (j : Nat) x k, xs[j]? = some x → ((m.kids.take i).map Mdl.parts).flatten[j]? = some k → MIs I' x k) ∧ σ = [some (V.ref a), some (.ref q), o2]) ⟨I1, q, none, [], Nat.zero_le _, g1, e1, e01, rfl, fun j x k h => by simp at h, rfl⟩ ?_ ?_ ?_⟩
      · rintro i σ H' hi ⟨I', q', o2, xs, _, g, ip, _⟩
        exact sqK (g.sub _ _ ip)
      · rintro i x σ H' H'' hi ⟨I', q', o2, xs, _, g, ip, iq, hxl, hT, rfl⟩ ⟨rfl, hx⟩
        obtain ⟨km, hkm⟩ : ∃ km, m.kids[i]? = some km := ⟨m.kids[i]'(by omega), List.getElem?_eq_getElem _⟩
        have tx := (hk i x km hx hkm).ext g.ext
        obtain ⟨b0, rfl⟩ := mis_ref tx
        have hmem : km ∈ m.kids := List.mem_of_getElem? hkm
        have hkd := Mdl.kids_deep hmem
        have hkw : km.words.length ≤ m.words.length := by
          rw [Mdl.kids_words m, List.length_cons]
          have : km.words ∈ m.kids.map Mdl.words := List.mem_map_of_mem hmem
          exact Nat.le_succ_of_le (List.sublist_flatten_of_mem this).length_le
        have hfl : xs.length + km.parts.length + 1 ≤ m.words.length := by
          rw [← Mdl.parts_len m, Mdl.kids_parts m, List.length_cons, hxl]
          have h1 := Mdl.partL_le m.kids (i + 1)
          rw [Mdl.part_take hkm, List.length_append] at h1
          omega
        refine ⟨_, rfl, _, rfl, d - 1, by omega, b0, km, I', rfl, g.sub, tx, by omega, by omega, fun p I2 H2 ys g2 ip2 hyl hyT => ?_⟩
        have g3 := g.trans g2
        refine ⟨q', p, _, ys, rfl, rfl, g3.sub _ _ (g2.ext _ _ iq), g3.sub _ _ ip2, ?_, fun r hr => ?_⟩
        · rw [List.length_cons, hyl]
          exact Nat.le_trans (by omega : _ ≤ 1000) (by decide)
        · have gn := Go.new (S := NoS) (o := .lst (.ref a :: (xs ++ ys))) g3.sub hr
          refine ⟨_, r, _, xs ++ ys, hi, g3.trans gn, gn.ext _ _ (g2.ext _ _ ip), upd_same, ?_, ?_, rfl⟩
          · rw [Mdl.part_take hkm, List.length_append, List.length_append, hxl, hyl]
          · rw [Mdl.part_take hkm]
            exact mis_join hxl (fun j x k e1 e2 => ((hT j x k e1 e2).ext g2.ext).ext gn.ext) fun j x k e1 e2 => (hyT j x k e1 e2).ext gn.ext
      · rintro σ H' ⟨I', q', o2, xs, _, g, ip, iq, hxl, hT, rfl⟩
        rw [hl, List.take_length] at hxl hT
        refine ⟨_, rfl, k q' I' H' _ g iq ?_ ?_⟩
        · rw [Mdl.kids_parts, List.length_cons, List.length_cons, hxl]
        · rw [Mdl.kids_parts]
          intro j x k e1 e2
          cases j with
          | zero => cases e1; cases e2; exact ha.ext g.ext
          | succ j => exact hT j x k e1 e2
  intro d
  induction d with
  | zero => exact core 0 ⟨f, fd, _, _, ⟨fun vs H Q E h => by obtain ⟨e, z, _⟩ := h; omega, fun _ _ _ _ _ _ _ _ _ _ _ _ _ h => by obtain ⟨e, z, _⟩ := h; omega⟩, mF, F.kp, b, .nil⟩
  | succ d ih => exact core (d + 1) ⟨f, fd, _, _, ih.imp fun vs H Q E h => by obtain ⟨e, z, h⟩ := h; cases z; exact h, mF, F.kp, b, .nil⟩
end
end Tm
/-! plain: words as texts -/
namespace Tm
open PySem PySem.Spec PyProof.Rows L2
theorem due_low {p : Str → Prop} (h1 : ∀ x ∈ biW ++ unW ++ ([("TRUE" : Str)] : List Str), p x) (h2 : ∀ x, evOk x = true → p x) {z : Str} (h : due z ≠ none) : p z := by
  by_cases h4 : evOk z = true
  · exact h2 z h4
  · refine h1 z ?_
    unfold due at h
    by_cases a : z ∈ biW
    · exact List.mem_append_left _ (List.mem_append_left _ a)
    · rw [if_neg a] at h
      by_cases b : z ∈ unW
      · exact List.mem_append_left _ (List.mem_append_right _ b)
      · rw [if_neg b] at h
        by_cases c : z = "TRUE"
        · exact List.mem_append_right _ (by rw [c]; exact List.mem_cons_self)
        · rw [if_neg (by rintro (x | x); exact c x; exact h4 x)] at h
          exact absurd rfl h
theorem due_24 {z : Str} (h : due z ≠ none) : z.length ≤ 24 := by
  refine due_low (p := fun z => z.length ≤ 24) (by decide +kernel) (fun x h4 => ?_) h
  unfold evOk at h4
  simp only [Bool.and_eq_true] at h4
  exact of_decide_eq_true h4.1.2
theorem due_bl {z : Str} (h : due z ≠ none) : 32 ∉ z.cps.toList := by
  refine due_low (p := fun z => 32 ∉ z.cps.toList) (by decide +kernel) (fun x h4 hm => ?_) h
  unfold evOk at h4
  simp only [Bool.and_eq_true] at h4
  have := List.all_eq_true.mp h4.2 32 hm
  exact absurd this (by decide +kernel)
theorem sum_le {n : Nat} : ∀ ws : List Str, (∀ z ∈ ws, z.length ≤ n) → (ws.map (·.length)).sum ≤ n * ws.length
  | [], _ => by simp
  | z :: r, h => by
    have ih := sum_le r fun y hy => h y (List.mem_cons_of_mem _ hy)
    have h0 := h z List.mem_cons_self
    rw [List.map_cons, List.sum_cons, List.length_cons, Nat.mul_succ]
    omega
theorem join_inj {ws zs : List Str} (h1 : ws ≠ []) (h2 : zs ≠ []) (b1 : ∀ y ∈ ws, 32 ∉ y.cps.toList) (b2 : ∀ y ∈ zs, 32 ∉ y.cps.toList) (h : Txt.join " " ws = Txt.join " " zs) : ws = zs := by
  have e1 := TL.split_join (y := " ") (s := 32) (S := []) rfl (by decide +kernel) h1 b1
  have e2 := TL.split_join (y := " ") (s := 32) (S := []) rfl (by decide +kernel) h2 b2
  rw [h] at e1
  exact e1.symm.trans e2
theorem words_ne (m : Mdl) : m.words ≠ [] := by
  intro h
  have := Mdl.words_pos m
  rw [h] at this
  exact absurd this (by decide)
theorem wjoin_mem {acc : List Mdl} {p : Mdl} (ha : ∀ m ∈ acc, m.ok) (hp : p.ok) : (Txt.join " " p.words ∈ acc.map fun m => Txt.join " " m.words) ↔ p.words ∈ acc.map Mdl.words := by
  constructor
  · intro h
    obtain ⟨m, hm, e⟩ := List.mem_map.mp h
    have := join_inj (words_ne m) (words_ne p) (fun y hy => due_bl (ok_words (ha m hm) y hy)) (fun y hy => due_bl (ok_words hp y hy)) e
    rw [← this]
    exact List.mem_map_of_mem hm
  · intro h
    obtain ⟨m, hm, e⟩ := List.mem_map.mp h
    rw [← e]
    exact List.mem_map_of_mem (f := fun m => Txt.join " " m.words) hm
theorem parts_ok {m : Mdl} (o : m.ok) : ∀ p ∈ m.parts, p.ok := by
  induction m with
  | leaf w => intro p hp; rcases List.mem_cons.mp hp with rfl | hp; exact o; cases hp
  | un w m ih =>
    intro p hp
    rcases List.mem_cons.mp hp with rfl | hp
    · exact o
    · exact ih o.2 p hp
  | bi w a b iha ihb =>
    intro p hp
    rcases List.mem_cons.mp hp with rfl | hp
    · exact o
    · rcases List.mem_append.mp hp with hp | hp
      · exact iha o.2.1 p hp
      · exact ihb o.2.2 p hp
theorem parts_le {m : Mdl} : ∀ p ∈ m.parts, p.words.length ≤ m.words.length ∧ p.deep ≤ m.deep := by
  induction m with
  | leaf w => intro p hp; rcases List.mem_cons.mp hp with rfl | hp; exact ⟨Nat.le_refl _, Nat.le_refl _⟩; cases hp
  | un w m ih =>
    intro p hp
    rcases List.mem_cons.mp hp with rfl | hp
    · exact ⟨Nat.le_refl _, Nat.le_refl _⟩
    · obtain ⟨h1, h2⟩ := ih p hp
      exact ⟨Nat.le_succ_of_le h1, Nat.le_succ_of_le h2⟩
  | bi w a b iha ihb =>
    intro p hp
    rcases List.mem_cons.mp hp with rfl | hp
    · exact ⟨Nat.le_refl _, Nat.le_refl _⟩
    · have e : (Mdl.bi w a b).words.length = a.words.length + b.words.length + 1 := by
        show (a.words ++ b.words).length + 1 = _
        rw [List.length_append]
      have e2 : (Mdl.bi w a b).deep = max a.deep b.deep + 1 := rfl
      rcases List.mem_append.mp hp with hp | hp
      · obtain ⟨h1, h2⟩ := iha p hp
        omega
      · obtain ⟨h1, h2⟩ := ihb p hp
        omega
end Tm
/-! the law's _law_first, _law_made -/
namespace Tm
open PySem PySem.Spec PyProof.Rows L2
abbrev sLFirst : Stmt := top 31
abbrev sLMade : Stmt := top 32
def spLFirst (d : Nat) : Sp := fun vs H Q _ => ∃ (a b : Addr) (m : Mdl) (hs : List Str) (I : Hp), vs = [.ref a, .ref b] ∧ Same I H ∧ MIs I (.ref a) m ∧ m.ok ∧ m.deep ≤ d ∧ m.words.length ≤ 1000 ∧ I b = some (.tup (hs.map V.str)) ∧
  ∀ (p : Addr) (I' H' : Hp) (xs : List V), Go NoS I H I' H' → I' p = some (.lst xs) → xs.length = (firsts hs m.parts).length → (∀ (i : Nat) x k, xs[i]? = some x → (firsts hs m.parts)[i]? = some k → MIs I' x k) → Q (.ref p) H'
def spLMade (C : Addr) (d : Nat) : Sp := fun vs H Q _ => ∃ (a : Addr) (m : Mdl) (I : Hp), vs = [.ref a] ∧ Same I H ∧ MIs I (.ref a) m ∧ m.ok ∧ m.deep ≤ d ∧ m.words.length ≤ 40 ∧
  ∀ (p : Addr) (I' H' : Hp), Go NoS I H I' H' → TIs C I' (.ref p) m → Q (.ref p) H'
section
variable {P : Program} {w : World} {K : PySem.W.Frag} {mg : Str → Option Value} {base : Heap} {C BT BX TM : Addr}
theorem scLFirst : FnScope ["model", "heads", "found", "known", "part", "told"] ["model", "heads"] (defScope sLFirst) := ⟨rfl, rfl, rfl, by decide +kernel, rfl, by decide +kernel, by decide +kernel⟩
theorem ok_lfirst {d : Nat} {f : Addr} {fd : FuncData} (F : Fun K "_law_first" "_law_first" sLFirst f fd) (cP : C8.Cal P w K mg base (d + 1) "_law_parts" (spLParts d) []) (cW : C8.Cal P w K mg base (d + 1) "_law_words" (spLWords d) []) : FnOk P w K mg base CX0 (d + 2) f fd ["model", "heads"] (spLFirst d) := by
  refine F.ok scLFirst (fun vs H Q E h => ?_) (fun cdv A outer s H vs Q E hr h => ?_)
  · obtain ⟨a, b, m, hs, I, rfl, _⟩ := h
    rfl
  · obtain ⟨a, b, m, hs, I, rfl, hI, ha, ho, hd, hw, hb, k⟩ := h
    refine ⟨_, pss_cons (ps_par (i := 2) (j := 3) rfl scLFirst.nd rfl rfl (by decide) rfl rfl (pa_cons (pe_lst pa_nil) (pa_cons (pe_lst pa_nil) pa_nil)) (by rfl))
      (pss_cons (ps_for PassesOwn.never rfl (pi_list (C8.pe_c cP hr (by omega) rfl (pa_cons (pv 0) pa_nil))) (pg_name (i := 4) scLFirst.nd rfl (Or.inl rfl))
        (pss_cons (ps_set (i := 5) scLFirst.nd rfl (Or.inl rfl) (pe_join pe_str (C8.pe_c cW hr (by omega) rfl (pa_cons (pv 4) pa_nil))))
        (pss_one (ps_if (PW.pt (pw_and (pt_cmpR op_in_seq (pe_ix ix_list (pv 4) pe_int (fun _ _ => rfl)) (pv 1) (by rfl)) (pw_and1 (pt_cmpR op_notIn_seq (pv 5) (pv 3) (by rfl)))))
          (pss_cons (ps_expr (pe_bm PySem.F.plainAttrs_list PySem.F.slot_list_append PySem.F.type_list_append mt_append (pv 2) (pa_cons (pv 4) pa_nil))) (pss_one (ps_expr (pe_bm PySem.F.plainAttrs_list PySem.F.slot_list_append PySem.F.type_list_append mt_append (pv 3) (pa_cons (pv 5) pa_nil))))) pss_nil))))
      (pss_one (ps_ret (pv 2)))), ?_⟩
    refine ⟨(by show 0 ≤ sizeLine; decide), fun q hq => ⟨(by show 0 ≤ sizeLine; decide), fun r hr' => ⟨_, _, rfl, ?_⟩⟩⟩
    have nqr : q ≠ r := fun z => by rw [← z, upd_same] at hr'; cases hr'
    have g0 : Go NoS I H I (upd (upd H q (.lst [])) r (.lst [])) := (Go.tmp hI hq).trans (Go.tmp (Go.tmp (S := NoS) hI hq).sub hr')
    have eq0 : (upd (upd H q (.lst [])) r (.lst [])) q = some (.lst []) := by rw [upd_ne nqr, upd_same]
    have er0 : (upd (upd H q (.lst [])) r (.lst [])) r = some (.lst []) := upd_same
    have hrH : H r = none := by rw [upd_ne nqr.symm] at hr'; exact hr'
    generalize upd (upd H q (.lst [])) r (.lst []) = H0 at g0 eq0 er0 ⊢
    refine ⟨_, rfl, a, m, I, rfl, g0.sub, ha, hd, hw, fun p I1 H1 xs g1' ip hxl hxT => ?_⟩
    have g1 := g0.trans g1'
    have eq1 := g1'.same q _ id eq0
    have er1 := g1'.same r _ id er0
    have iq1 : I1 q = none := g1'.fr _ _ eq0 (hI.free hq)
    have ir1 : I1 r = none := g1'.fr _ _ er0 (hI.free hrH)
    refine ⟨p, rfl, ⟨_, sqK (g1.sub _ _ ip)⟩, for_it (walk_list (xs := xs)) (fun i σ H' => ∃ (I' : Hp) (us : List V) (o4 o5 : Option V), i ≤ xs.length ∧ Go NoS I H I' H' ∧ Same I1 I' ∧ I' q = none ∧ I' r = none ∧ H' q = some (.lst us) ∧
      H' r = some (.lst (((firsts hs (m.parts.take i)).map fun m => Txt.join " " m.words).map V.str)) ∧ us.length = (firsts hs (m.parts.take i)).length ∧ (∀ (j : Nat) x k, us[j]? = some x → (firsts hs (m.parts.take i))[j]? = some k → MIs I' x k) ∧
      σ = [some (V.ref a), some (.ref b), some (.ref q), some (.ref r), o4, o5]) ⟨I1, [], none, none, Nat.zero_le _, g1, Same.refl _, iq1, ir1, eq1, er1, rfl, fun j x k h => by simp at h, rfl⟩ ?_ ?_ ?_⟩
    · rintro i σ H' hi ⟨I', us, o4, o5, _, g, sI, _⟩
      exact sqK (g.sub _ _ (sI _ _ ip))
    · rintro i x σ H' H'' hi ⟨I', us, o4, o5, _, g, sI, iq, ir, eq, er, hul, hT, rfl⟩ ⟨rfl, hx⟩
      obtain ⟨pm, hpm⟩ : ∃ pm, m.parts[i]? = some pm := ⟨m.parts[i]'(by omega), List.getElem?_eq_getElem _⟩
      have hmem := List.mem_of_getElem? hpm
      have tx := (hxT i x pm hx hpm).ext sI
      have okp := parts_ok ho pm hmem
      obtain ⟨lw, ld⟩ := parts_le pm hmem
      obtain ⟨b0, rfl⟩ := mis_ref tx
      refine ⟨⟨_, rfl⟩, _, rfl, b0, pm, I', rfl, g.sub, tx, by omega, by omega, fun p3 I2 H2 g2 ip3 => ?_⟩
      have g3 := g.trans g2
      have eq2 := g2.same q _ id eq
      have er2 := g2.same r _ id er
      have iq2 := g2.fr _ _ eq iq
      have ir2 := g2.fr _ _ er ir
      have hsum : (pm.words.map (·.length)).sum + pm.words.length * (" " : Str).length ≤ 16777216 := by
        have := sum_le (n := 24) pm.words fun z hz => due_24 (ok_words okp z hz)
        rw [show (" " : Str).length = 1 from rfl]
        omega
      refine ⟨_, p3, pm.words, rfl, rfl, .inl (sqK (g3.sub _ _ ip3)), hsum, ?_⟩
      obtain ⟨b1, vs, e1, i1, hl1, hk1⟩ := tx.list
      cases e1
      refine ⟨_, rfl, b0, _, _, .str pm.head, rfl, rfl, sqK (g3.sub _ _ (g2.ext _ _ i1)), atI_at (j := 0) rfl rfl, _, rfl, b, hs.map V.str, rfl, .inr (stK (g3.sub _ _ (g3.ext _ _ hb))), rfl, flat_strs hs, ?_⟩
      rw [show (if false = true then !inV (V.str pm.head) (hs.map V.str) else inV (V.str pm.head) (hs.map V.str)) = decide (pm.head ∈ hs) from inV_str pm.head hs]
      have hft := firsts_take (hs := hs) hpm
      have hno : addF hs (firsts hs (m.parts.take i)) pm = firsts hs (m.parts.take i) → ∀ o4 o5, ∃ (I' : Hp) (us : List V) (o4' o5' : Option V), i + 1 ≤ xs.length ∧ Go NoS I H I' H2 ∧ Same I1 I' ∧ I' q = none ∧ I' r = none ∧ H2 q = some (.lst us) ∧
          H2 r = some (.lst (((firsts hs (m.parts.take (i + 1))).map fun m => Txt.join " " m.words).map V.str)) ∧ us.length = (firsts hs (m.parts.take (i + 1))).length ∧ (∀ (j : Nat) x k, us[j]? = some x → (firsts hs (m.parts.take (i + 1)))[j]? = some k → MIs I' x k) ∧
          [some (V.ref a), some (.ref b), some (.ref q), some (.ref r), o4, o5] = [some (V.ref a), some (.ref b), some (.ref q), some (.ref r), o4', o5'] := fun e o4 o5 => by
        rw [hft, e]
        exact ⟨I2, us, o4, o5, hi, g3, fun b o h => g2.ext _ _ (sI _ _ h), iq2, ir2, eq2, er2, hul, fun j x k e1 e2 => (hT j x k e1 e2).ext g2.ext, rfl⟩
      refine ⟨_, rfl, ite2 (fun h1 => ?_) (fun h1 => ?_)⟩
      · have h1 := of_decide_eq_true h1
        refine ⟨_, rfl, _, rfl, r, _, rfl, .inl (sqK er2), rfl, flat_strs _, ?_⟩
        rw [show (if true = true then !inV (V.str (Txt.join " " pm.words)) (((firsts hs (m.parts.take i)).map fun m => Txt.join " " m.words).map V.str) else inV (V.str (Txt.join " " pm.words)) (((firsts hs (m.parts.take i)).map fun m => Txt.join " " m.words).map V.str)) = !decide (Txt.join " " pm.words ∈ (firsts hs (m.parts.take i)).map fun m => Txt.join " " m.words) from congrArg not (inV_str _ _)]
        have hacc : ∀ m' ∈ firsts hs (m.parts.take i), m'.ok := fun m' hm' => parts_ok ho m' (List.mem_of_mem_take (firsts_mem hm'))
        have hiff := wjoin_mem hacc okp
        refine ⟨_, rfl, ite2 (fun h2 => ?_) (fun h2 => ?_)⟩
        · have h2 : pm.words ∉ (firsts hs (m.parts.take i)).map Mdl.words := fun z => by rw [decide_eq_true (hiff.mpr z)] at h2; cases h2
          have e2 : firsts hs (m.parts.take (i + 1)) = firsts hs (m.parts.take i) ++ [pm] := by rw [hft]; unfold addF; rw [if_pos ⟨h1, h2⟩]
          have hsm : (firsts hs (m.parts.take i)).length < sizeLine := by
            have h3 := firsts_len hs (m.parts.take i)
            have h4 : (m.parts.take i).length ≤ m.parts.length := List.length_take_le' _ _
            rw [Mdl.parts_len] at h4
            exact Nat.lt_of_le_of_lt (by omega : _ ≤ 1000) (by decide)
          refine ⟨_, rfl, .inl ⟨rfl, _, sqK eq2⟩, _, rfl, q, _, _, rfl, rfl, eq2, by rw [hul]; exact hsm, ?_⟩
          have er3 : (upd H2 q (.lst (us ++ [.ref b0]))) r = some (.lst (((firsts hs (m.parts.take i)).map fun m => Txt.join " " m.words).map V.str)) := by rw [upd_ne nqr.symm]; exact er2
          refine ⟨_, rfl, .inl ⟨rfl, _, sqK er3⟩, _, rfl, r, _, _, rfl, rfl, er3, by rw [List.length_map, List.length_map]; exact hsm, ?_⟩
          refine ⟨I2, us ++ [.ref b0], _, _, hi, Go.putNew (Go.putNew g3 iq2 hq) ir2 hrH, fun b o h => g2.ext _ _ (sI _ _ h), iq2, ir2, by rw [upd_ne nqr, upd_same], ?_, ?_, ?_, rfl⟩
          · rw [upd_same, e2, List.map_append, List.map_append]; rfl
          · rw [e2, List.length_append, List.length_append, hul]; rfl
          · rw [e2]
            refine mis_join hul (fun j x k e1 e2 => (hT j x k e1 e2).ext g2.ext) fun j x k e1 e2 => ?_
            cases j with
            | zero => cases e1; cases e2; exact tx.ext g2.ext
            | succ j => simp at e1
        · have h2 : pm.words ∈ (firsts hs (m.parts.take i)).map Mdl.words := by
            by_cases z : pm.words ∈ (firsts hs (m.parts.take i)).map Mdl.words
            · exact z
            · rw [decide_eq_false (fun y => z (hiff.mp y))] at h2; exact absurd rfl h2
          exact hno (by unfold addF; rw [if_neg (fun z => z.2 h2)]) _ _
      · have h1 : pm.head ∉ hs := fun z => h1 (decide_eq_true z)
        exact hno (by unfold addF; rw [if_neg (fun z => h1 z.1)]) _ _
    · rintro σ H2 ⟨I2, us, o4, o5, _, g2, sI, iq, ir, eq2, er2, hul, hT, rfl⟩
      rw [hxl, List.take_length] at hul hT
      refine ⟨_, rfl, k q (upd I2 q (.lst us)) H2 us (g2.keep iq hq eq2) upd_same hul fun j x mm e1 e2 => ?_⟩
      exact (hT j x mm e1 e2).ext fun b o h => by rw [upd_ne (ne_of_none h iq)]; exact h
end
end Tm
/-! the law's _law_made, _law_many, _law_fault, _law_pen -/
namespace Tm
open PySem PySem.Spec PyProof.Rows L2
abbrev sLMany : Stmt := top 34
abbrev sLFault : Stmt := top 35
def spLMany : Sp := fun vs H Q _ => ∃ (z : Str), vs = [.str z] ∧ z.length ≤ 100000 ∧ PyData.strOk z = true ∧ ∀ H', (∀ I, Same I H → Go NoS I H I H') → Q (optV (due z)) H'
def spLFault : Sp := fun vs H Q _ => ∃ (a : Addr) (ws : List Str) (I : Hp), vs = [.ref a] ∧ Same I H ∧ I a = some (.lst (ws.map V.str)) ∧ (∀ z ∈ ws, z.length ≤ 100000 ∧ PyData.strOk z = true) ∧ ws.length ≤ 100000 ∧ ∀ H', Go NoS I H I H' → Q (optV (fault ws)) H'
def spLPen (K : PySem.W.Frag) : Sp := fun vs H Q _ => ∃ (a : Addr) (ns : List Int) (I : Hp), vs = [.ref a] ∧ Same I H ∧ SqL K H a (ns.map V.int) ∧ ∀ (p : Addr) (I' H' : Hp), Go NoS I H I' H' → Pen I' H' p 0 → Q (.ref p) H'
section
variable {P : Program} {w : World} {K : PySem.W.Frag} {mg : Str → Option Value} {base : Heap} {C BT BX TM : Addr}
theorem scLMade : FnScope ["model"] ["model"] (defScope sLMade) := ⟨rfl, rfl, rfl, by decide +kernel, rfl, by decide +kernel, by decide +kernel⟩
theorem dq_i {i j : Int} : decide (V.int i = V.int j) = decide (i = j) := by
  by_cases h : i = j
  · subst h; simp
  · rw [decide_eq_false h, decide_eq_false (fun z => h (V.int.inj z))]
theorem ok_lmade {f : Addr} {fd : FuncData} (F : Fun K "_law_made" "_law_made" sLMade f fd) (T : TC K mg C) (M : TmOk P w K mg base C BT TM) (b : Binds K fd ["model"] []) (mF : mg "_law_made" = some (.ref f)) : ∀ d : Nat, FnOk P w K mg base CX0 (d + 5) f fd ["model"] (spLMade C d) := by
  have core : ∀ d : Nat, C8.Cal P w K mg base (d + 4) "_law_made" (fun vs H Q E => ∃ e, d = e + 1 ∧ spLMade C e vs H Q E) [] → FnOk P w K mg base CX0 (d + 5) f fd ["model"] (spLMade C d) := by
    intro d c
    refine F.ok scLMade (fun vs H Q E h => ?_) (fun cdv A outer s H vs Q E hr h => ?_)
    · obtain ⟨a, m, I, rfl, _⟩ := h
      rfl
    · obtain ⟨a, m, I, rfl, hI, ha, ho, hd, hw, k⟩ := h
      refine ⟨_, pss_cons (ps_if (pt_cmpR op_eq (pe_callB call_len (by rfl) T.len PySem.boot_len (pa_cons (pv 0) pa_nil)) pe_int (nomark _)) (pss_one (ps_ret (pe_TK M hr (by omega) rfl passL (pe_ix ix_list (pv 0) pe_int (fun _ _ => rfl))))) pss_nil)
        (pss_cons (ps_if (pt_cmpR op_eq (pe_callB call_len (by rfl) T.len PySem.boot_len (pa_cons (pv 0) pa_nil)) pe_int (nomark _)) (pss_one (ps_ret (pe_T M hr (by omega) rfl passL (pa_cons (pe_ix ix_list (pv 0) pe_int (fun _ _ => rfl)) (pa_cons (C8.pe_c c hr (by omega) rfl (pa_cons (pe_ix ix_list (pv 0) pe_int (fun _ _ => rfl)) pa_nil)) pa_nil))))) pss_nil)
        (pss_one (ps_ret (pe_T M hr (by omega) rfl passL (pa_cons (pe_ix ix_list (pv 0) pe_int (fun _ _ => rfl)) (pa_cons (C8.pe_c c hr (by omega) rfl (pa_cons (pe_ix ix_list (pv 0) pe_int (fun _ _ => rfl)) pa_nil)) (pa_cons (C8.pe_c c hr (by omega) rfl (pa_cons (pe_ix ix_list (pv 0) pe_int (fun _ _ => rfl)) pa_nil)) pa_nil))))))), ?_⟩
      have hdue := Mdl.ok_due ho
      have hlen : m.head.length ≤ 100000 := due_len (by rw [hdue]; exact fun z => nomatch z)
      cases ha with
      | @leaf _ z i0 =>
        refine ⟨_, rfl, _, 1, rfl, .inl ⟨_, sqK (hI _ _ i0), rfl⟩, rfl, _, rfl, ite2 (fun _ => ?_) (fun h => absurd (by rw [dq_i]; rfl) h)⟩
        refine ⟨_, rfl, a, _, _, .str z, rfl, rfl, sqK (hI _ _ i0), atI_at (j := 0) rfl rfl, _, rfl, tmake_m (S := NoS) (m := .leaf z) (ps := []) hI rfl (fun i p k h => by simp at h) hdue hlen hw k⟩
      | @un _ z v m i0 hm =>
        refine ⟨_, rfl, _, 2, rfl, .inl ⟨_, sqK (hI _ _ i0), rfl⟩, rfl, _, rfl, ite2 (fun h => absurd (by rw [dq_i] at h; exact h) (by decide)) (fun _ => ?_)⟩
        refine ⟨_, rfl, _, 2, rfl, .inl ⟨_, sqK (hI _ _ i0), rfl⟩, rfl, _, rfl, ite2 (fun _ => ?_) (fun h => absurd (by rw [dq_i]; rfl) h)⟩
        obtain ⟨b0, rfl⟩ := mis_ref hm
        have hw2 : m.words.length + 1 ≤ 40 := hw
        have hd2 : m.deep + 1 ≤ d := hd
        refine ⟨_, rfl, a, _, _, .str z, rfl, rfl, sqK (hI _ _ i0), atI_at (j := 0) rfl rfl, _, rfl, a, _, _, .ref b0, rfl, rfl, sqK (hI _ _ i0), atI_at (j := 1) rfl rfl, d - 1, by omega, b0, m, I, rfl, hI, hm, ho.2, by omega, by omega, fun p1 I1 H1 g1 t1 => ?_⟩
        refine tmake_m (S := NoS) (m := .un z m) (ps := [.ref p1]) g1.sub rfl (fun i p kk h1 h2 => ?_) hdue hlen hw fun p I' H' g t => k p I' H' (g1.trans g) t
        match i with
        | 0 => cases h1; cases h2; exact t1
        | i + 1 => simp at h1
      | @bi _ z v u m n i0 hm hn =>
        refine ⟨_, rfl, _, 3, rfl, .inl ⟨_, sqK (hI _ _ i0), rfl⟩, rfl, _, rfl, ite2 (fun h => absurd (by rw [dq_i] at h; exact h) (by decide)) (fun _ => ?_)⟩
        refine ⟨_, rfl, _, 3, rfl, .inl ⟨_, sqK (hI _ _ i0), rfl⟩, rfl, _, rfl, ite2 (fun h => absurd (by rw [dq_i] at h; exact h) (by decide)) (fun _ => ?_)⟩
        obtain ⟨b0, rfl⟩ := mis_ref hm
        obtain ⟨b1, rfl⟩ := mis_ref hn
        have hw2 : (m.words ++ n.words).length + 1 ≤ 40 := hw
        rw [List.length_append] at hw2
        have hd2 : max m.deep n.deep + 1 ≤ d := hd
        refine ⟨_, rfl, a, _, _, .str z, rfl, rfl, sqK (hI _ _ i0), atI_at (j := 0) rfl rfl, _, rfl, a, _, _, .ref b0, rfl, rfl, sqK (hI _ _ i0), atI_at (j := 1) rfl rfl, d - 1, by omega, b0, m, I, rfl, hI, hm, ho.2.1, by omega, by omega, fun p1 I1 H1 g1 t1 => ?_⟩
        refine ⟨_, rfl, a, _, _, .ref b1, rfl, rfl, sqK (g1.sub _ _ (g1.ext _ _ i0)), atI_at (j := 2) rfl rfl, d - 1, by omega, b1, n, I1, rfl, g1.sub, hn.ext g1.ext, ho.2.2, by omega, by omega, fun p2 I2 H2 g2 t2 => ?_⟩
        refine tmake_m (S := NoS) (m := .bi z m n) (ps := [.ref p1, .ref p2]) g2.sub rfl (fun i p kk h1 h2 => ?_) hdue hlen hw fun p I' H' g t => k p I' H' ((g1.trans g2).trans g) t
        match i with
        | 0 => cases h1; cases h2; exact t1.ext g2.ext
        | 1 => cases h1; cases h2; exact t2
        | i + 2 => simp at h1
  intro d
  induction d with
  | zero => exact core 0 ⟨f, fd, _, _, ⟨fun vs H Q E h => by obtain ⟨e, z, _⟩ := h; omega, fun _ _ _ _ _ _ _ _ _ _ _ _ _ h => by obtain ⟨e, z, _⟩ := h; omega⟩, mF, F.kp, b, .nil⟩
  | succ d ih => exact core (d + 1) ⟨f, fd, _, _, ih.imp fun vs H Q E h => by obtain ⟨e, z, h⟩ := h; cases z; exact h, mF, F.kp, b, .nil⟩
theorem scLMany : FnScope ["word", "odd", "sign"] ["word"] (defScope sLMany) := ⟨rfl, rfl, rfl, by decide +kernel, rfl, by decide +kernel, by decide +kernel⟩
/-- its signs that no event has -/
def odds (z : Str) : List Str := (z.cps.toList.filter fun c => !evC c).map fun c => ⟨#[c]⟩
theorem ok_lmany {f : Addr} {fd : FuncData} (F : Fun K "_law_many" "_law_many" sLMany f fd) (T : TC K mg C) : FnOk P w K mg base CX0 1 f fd ["word"] spLMany := by
  refine F.ok scLMany (fun vs H Q E h => ?_) (fun cdv A outer s H vs Q E hr h => ?_)
  · obtain ⟨z, rfl, _⟩ := h
    rfl
  · obtain ⟨z, rfl, hz, hok, k⟩ := h
    refine ⟨_, pss_cons (ps_if (pt_cmpR op_in_seq (pv 0) (pe_tup (pa_cons pe_str (pa_cons pe_str (pa_cons pe_str (pa_cons pe_str pa_nil))))) (by rfl)) (pss_one (ps_ret pe_int)) pss_nil)
      (pss_cons (ps_if (pt_cmpR op_in_seq (pv 0) (pe_tup (pa_cons pe_str (pa_cons pe_str (pa_cons pe_str (pa_cons pe_str (pa_cons pe_str (pa_cons pe_str (pa_cons pe_str pa_nil)))))))) (by rfl)) (pss_one (ps_ret pe_int)) pss_nil)
      (pss_cons (ps_setLc (i := 1) (own := [("sign", 2)]) (g := gName 2) (tt := tTest (tOp (fun x y H Q => ∃ (c : Nat) (z : Str), x = .str ⟨#[c]⟩ ∧ y = .str z ∧ Q (.bl (!decide (c ∈ z.cps.toList))) H) (tVar 2) (tC (.str signs)))) rfl scLMany.nd rfl rfl (sw_true rfl rfl rfl rfl) (pi_str (pv 0)) (blkOk_by (N := ["word", "odd", "sign"]) (sc := defScope sLMany) (by decide +kernel))
        (fun _ _ _ _ _ => pg_name (i := 2) scLMany.nd rfl (Or.inl rfl)) (fun _ _ _ _ _ => by exact pts_one (pt_cmpR op_notIn_sign (pv 2) pe_str (by rfl))) (fun _ _ _ _ _ => pv 2))
      (pss_one (ps_ret (pe_ifExp (PW.pt (pw_or (pt_cmpR op_eq (pv 0) pe_str (nomark _)) (pw_or1 (PW.pt (pw_and (pt_cmpR (op_eqD hr.units) (pv 1) (pe_lst pa_nil) (nomark _)) (pw_and1 (pt_chain op_le op_le pe_int (pe_callB call_len (by rfl) T.len PySem.boot_len (pa_cons (pv 0) pa_nil)) pe_int))))))) pe_int pe_non))))), ?_⟩
    have bad : ∀ c ∈ z.cps.toList, c < 0x110000 := fun c hc => by
      have : z.cps.all (· < 0x110000) = true := hok
      rw [← Array.all_toList, List.all_eq_true] at this
      exact of_decide_eq_true (this c hc)
    refine ⟨_, rfl, (by show 4 ≤ sizeLine; decide), fun t ht => ⟨t, biW.map V.str, rfl, .inr (stK upd_same), rfl, flat_strs biW, ?_⟩⟩
    have g1 : ∀ I, Same I H → Go NoS I H I (upd H t (.tup (biW.map V.str))) := fun I hI => Go.tmp hI ht
    rw [show (if false = true then !inV (V.str z) (biW.map V.str) else inV (V.str z) (biW.map V.str)) = decide (z ∈ biW) from inV_str z biW]
    refine ⟨_, rfl, ite2 (fun h1 => ?_) (fun h1 => ?_)⟩
    · have := k _ g1
      rw [due_bi (of_decide_eq_true h1)] at this
      exact this
    · have h1 : z ∉ biW := fun x => h1 (decide_eq_true x)
      refine ⟨_, rfl, (by show 7 ≤ sizeLine; decide), fun t2 ht2 => ⟨t2, unW.map V.str, rfl, .inr (stK upd_same), rfl, flat_strs unW, ?_⟩⟩
      have g2 : ∀ I, Same I H → Go NoS I H I (upd (upd H t (.tup (biW.map V.str))) t2 (.tup (unW.map V.str))) := fun I hI => (g1 I hI).trans (Go.tmp (g1 I hI).sub ht2)
      rw [show (if false = true then !inV (V.str z) (unW.map V.str) else inV (V.str z) (unW.map V.str)) = decide (z ∈ unW) from inV_str z unW]
      refine ⟨_, rfl, ite2 (fun h2 => ?_) (fun h2 => ?_)⟩
      · have := k _ g2
        rw [due_un (of_decide_eq_true h2)] at this
        exact this
      · have h2 : z ∉ unW := fun x => h2 (decide_eq_true x)
        have ed : due z = if z = "TRUE" ∨ evOk z = true then some 0 else none := by unfold due; rw [if_neg h1, if_neg h2]
        refine ⟨_, rfl, z, rfl, fun D hD => lc_it walk_str (fun i H' => H' = upd (upd (upd H t (.tup (biW.map V.str))) t2 (.tup (unW.map V.str))) D (.lst (((z.cps.toList.take i).filter fun c => !evC c).map fun c => V.str ⟨#[c]⟩))) rfl (fun _ _ _ _ => trivial) ?_ ?_⟩
        · rintro i x H' H'' hi rfl ⟨rfl, c, hc, rfl⟩
          have hcl : z.cps.toList[i]? = some c := by rw [← hc]; simp
          refine ⟨rfl, ?_⟩
          refine ⟨_, rfl, c, signs, rfl, rfl, _, rfl, ite2 (fun h => ?_) (fun h => ?_)⟩
          · refine ⟨_, rfl, _, upd_same, ?_, ?_⟩
            · rw [List.length_map]
              refine Nat.lt_of_le_of_lt (Nat.le_trans (List.length_filter_le _ _) (List.length_take_le' _ _)) ?_
              exact Nat.lt_of_le_of_lt hz (by decide)
            · have h' : (!evC c) = true := h
              rw [upd_upd, List.take_succ, hcl, Option.toList_some, List.filter_append, List.map_append]
              show _ = upd (upd (upd H t (.tup (biW.map V.str))) t2 (.tup (unW.map V.str))) D (.lst (_ ++ ([c].filter fun c => !evC c).map fun c => V.str ⟨#[c]⟩))
              rw [List.filter_cons, if_pos h']
              rfl
          · have h' : ¬ (!evC c) = true := h
            rw [List.take_succ, hcl, Option.toList_some, List.filter_append, List.filter_cons, if_neg h', List.filter_nil, List.append_nil]
        · rintro H' rfl
          have eo : ((z.cps.toList.take z.cps.size).filter fun c => !evC c).map (fun c => V.str ⟨#[c]⟩) = (odds z).map V.str := by
            rw [show z.cps.size = z.cps.toList.length by simp, List.take_length]
            unfold odds
            rw [List.map_map]; rfl
          rw [eo]
          have g3 : ∀ I, Same I H → Go NoS I H I (upd (upd (upd H t (.tup (biW.map V.str))) t2 (.tup (unW.map V.str))) D (.lst ((odds z).map V.str))) := fun I hI => (g2 I hI).trans (Go.tmp (g2 I hI).sub hD)
          have eD : (upd (upd (upd H t (.tup (biW.map V.str))) t2 (.tup (unW.map V.str))) D (.lst ((odds z).map V.str))) D = some (.lst ((odds z).map V.str)) := upd_same
          generalize upd (upd (upd H t (.tup (biW.map V.str))) t2 (.tup (unW.map V.str))) D (.lst ((odds z).map V.str)) = H3 at g3 eD ⊢
          have yes : (z = "TRUE" ∨ evOk z = true) → ∀ H4, (∀ I, Same I H → Go NoS I H I H4) → Q (.int 0) H4 := fun h H4 g => by
            have := k H4 g
            rw [ed, if_pos h] at this
            exact this
          have no : ¬ (z = "TRUE" ∨ evOk z = true) → ∀ H4, (∀ I, Same I H → Go NoS I H I H4) → Q .non H4 := fun h H4 g => by
            have := k H4 g
            rw [ed, if_neg h] at this
            exact this
          refine ⟨_, rfl, rfl, _, rfl, ite2 (fun h3 => ?_) (fun h3 => ?_)⟩
          · exact yes (.inl (V.str.inj (of_decide_eq_true h3))) H3 g3
          · have h3 : z ≠ "TRUE" := fun e => h3 (decide_eq_true (by rw [e]))
            refine ⟨_, rfl, (by show 0 ≤ sizeLine; decide), fun p hp => ?_⟩
            have g4 : ∀ I, Same I H → Go NoS I H I (upd H3 p (.lst [])) := fun I hI => (g3 I hI).trans (Go.tmp (g3 I hI).sub hp)
            have npD : D ≠ p := ne_of_none eD hp
            have sh : SeqAt.shaped (.list ((odds z).map PyData.str)) = true := shaped_lst fun d hd => by
              obtain ⟨y, hy, rfl⟩ := List.mem_map.mp hd
              refine ⟨?_, rfl⟩
              obtain ⟨c, hc, rfl⟩ := List.mem_map.mp hy
              have := bad c (List.mem_filter.mp hc).1
              show PyData.strOk _ = true
              unfold PyData.strOk
              simpa using this
            refine ⟨.list ((odds z).map PyData.str), .list [], .lst (sqK (by rw [upd_ne npD]; exact eD)) (dpStrs _), .lst (sqK upd_same) .nil, sh, rfl, _, rfl, ?_⟩
            have ee : PyData.eqv (.list ((odds z).map PyData.str)) (.list []) = decide (odds z = []) := eqvAll_strs (odds z) []
            rw [ee]
            have oall : (odds z = []) ↔ z.cps.toList.all evC = true := by
              unfold odds
              rw [List.map_eq_nil_iff, List.filter_eq_nil_iff, List.all_eq_true]
              exact ⟨fun h c hc => by have := h c hc; simpa using this, fun h c hc => by rw [h c hc]; decide⟩
            refine ite2 (fun h4 => ?_) (fun h4 => ?_)
            · have h4 := oall.mp (of_decide_eq_true h4)
              refine ⟨_, rfl, _, z.length, rfl, ⟨Nat.le_trans hz (by decide), rfl⟩, _, _, rfl, rfl, _, rfl, ?_⟩
              have ev : evOk z = true ↔ 1 ≤ z.length ∧ z.length ≤ 24 := by
                unfold evOk
                rw [h4, Bool.and_true, Bool.and_eq_true, decide_eq_true_iff, decide_eq_true_iff]
              refine ite2 (fun h5 => ?_) (fun h5 => ?_)
              · have h5 : (1 : Int) ≤ (z.length : Int) := of_decide_eq_true h5
                refine ⟨_, _, rfl, rfl, _, rfl, ite2 (fun h6 => ?_) (fun h6 => ?_)⟩
                · have h6 : (z.length : Int) ≤ 24 := of_decide_eq_true h6
                  exact yes (.inr (ev.mpr ⟨by omega, by omega⟩)) _ g4
                · have h6 : ¬ (z.length : Int) ≤ 24 := fun x => h6 (decide_eq_true x)
                  exact no (fun x => x.elim h3 fun x => by have := (ev.mp x).2; omega) _ g4
              · have h5 : ¬ (1 : Int) ≤ (z.length : Int) := fun x => h5 (decide_eq_true x)
                exact ⟨_, rfl, no (fun x => x.elim h3 fun x => by have := (ev.mp x).1; omega) _ g4⟩
            · have h4 : ¬ z.cps.toList.all evC = true := fun x => h4 (decide_eq_true (oall.mpr x))
              refine no (fun x => x.elim h3 fun x => ?_) _ g4
              unfold evOk at x
              simp only [Bool.and_eq_true] at x
              exact h4 x.2
theorem scLFault : FnScope ["words", "due", "at", "word", "many"] ["words"] (defScope sLFault) := ⟨rfl, rfl, rfl, by decide +kernel, rfl, by decide +kernel, by decide +kernel⟩
theorem ok_lfault {f : Addr} {fd : FuncData} (F : Fun K "_law_fault" "_law_fault" sLFault f fd) (T : TC K mg C) (R : TR mg) (cM : C8.Cal P w K mg base 1 "_law_many" spLMany []) : FnOk P w K mg base CX0 2 f fd ["words"] spLFault := by
  refine F.ok scLFault (fun vs H Q E h => ?_) (fun cdv A outer s H vs Q E hr h => ?_)
  · obtain ⟨a, ws, I, rfl, _⟩ := h
    rfl
  · obtain ⟨a, ws, I, rfl, hI, ia, hz, hl, k⟩ := h
    refine ⟨_, pss_cons (ps_set (i := 1) scLFault.nd rfl (Or.inl rfl) pe_int)
      (pss_cons (ps_for PassesOwn.never rfl (pi_enum (by rfl) R.enum (pa_cons (pv 0) pa_nil)) (pg_tup rfl (pgs_cons (pg_name (i := 2) scLFault.nd rfl (Or.inl rfl)) (pgs_cons (pg_name (i := 3) scLFault.nd rfl (Or.inl rfl)) pgs_nil)))
        (pss_cons (ps_set (i := 4) scLFault.nd rfl (Or.inl rfl) (C8.pe_c cM hr (by decide) rfl (pa_cons (pv 3) pa_nil)))
        (pss_cons (ps_if (PW.pt (pw_or (pt_cmpR op_eq (pv 1) pe_int (nomark _)) (pw_or1 (pt_cmpR op_isN (pv 4) pe_non (nomark _))))) (pss_one (ps_ret (pv 2))) pss_nil)
        (pss_one (ps_set (i := 1) scLFault.nd rfl (Or.inl rfl) (pe_op op_sub (pe_op op_add (pv 1) (pv 4)) pe_int))))))
      (pss_one (ps_ret (pe_ifExp (pt_cmpR op_eq (pv 1) pe_int (nomark _)) pe_non (pe_callB call_len (by rfl) T.len PySem.boot_len (pa_cons (pv 0) pa_nil)))))), ?_⟩
    refine ⟨_, rfl, a, _, rfl, sqK (hI _ _ ia), for_it (walk_enum (xs := ws.map V.str)) (fun i σ H' => ∃ (d : Nat) (e : Int) (o3 o4 o5 : Option V), e = (d : Int) ∧ i ≤ ws.length ∧ scan d i (ws.drop i) = fault ws ∧ Go NoS I H I H' ∧
        σ = [some (V.ref a), some (.int e), o3, o4, o5]) ⟨1, 1, none, none, none, rfl, Nat.zero_le _, rfl, Go.refl hI, rfl⟩ ?_ ?_ ?_⟩
    · rintro i σ H' hi ⟨d, e, o3, o4, o5, _, _, _, g, _⟩
      exact sqK (g.sub _ _ ia)
    · rintro i x σ H' H'' hi ⟨d, e, o3, o4, o5, rfl, _, hs, g, rfl⟩ ⟨T1, x1, y1, rfl, hT1, rfl, e1, hy1⟩
      cases e1
      rw [List.length_map] at hi
      replace hy1 : (ws.map V.str)[i]? = some y1 := hy1
      rw [List.getElem?_map, List.getElem?_eq_getElem hi] at hy1
      cases hy1
      have hzw := hz _ (List.getElem_mem hi)
      have g2 := g.trans (Go.tmp (o := .tup [.int (i : Int), .str ws[i]]) g.sub hT1)
      refine ⟨T1, _, rfl, stK upd_same, rfl, _, _, rfl, _, _, rfl, rfl, ?_⟩
      refine ⟨_, rfl, _, rfl, hzw.1, hzw.2, fun H2 k2 => ?_⟩
      have g3 := g2.trans (k2 _ g2.sub)
      rw [List.drop_eq_getElem_cons hi] at hs
      refine ⟨_, rfl, rfl, _, rfl, ite2 (fun h0 => ?_) (fun h0 => ?_)⟩
      · have hd : d = 0 := by
          have := V.int.inj (of_decide_eq_true h0)
          omega
        unfold scan at hs
        rw [if_pos hd] at hs
        refine ⟨_, rfl, ?_⟩
        have := k H2 g3
        rw [← hs] at this
        exact this
      · have hd : d ≠ 0 := fun e => h0 (decide_eq_true (by rw [e]; rfl))
        unfold scan at hs
        rw [if_neg hd] at hs
        refine ⟨_, rfl, rfl, _, rfl, ?_⟩
        cases hdz : due ws[i] with
        | none =>
          rw [hdz] at hs
          refine iteT ⟨_, rfl, ?_⟩
          have := k H2 g3
          rw [← hs] at this
          exact this
        | some n =>
          rw [hdz] at hs
          refine iteF ⟨_, rfl, _, rfl, _, _, rfl, rfl, _, _, rfl, rfl, ?_⟩
          exact ⟨d + n - 1, _, _, _, _, by omega, hi, hs, g3, rfl⟩
    · rintro σ H' ⟨d, e, o3, o4, o5, rfl, _, hs, g, rfl⟩
      rw [List.length_map, List.drop_length] at hs
      unfold scan at hs
      refine ⟨_, rfl, rfl, _, rfl, ite2 (fun h0 => ?_) (fun h0 => ?_)⟩
      · have hd : d = 0 := by
          have := V.int.inj (of_decide_eq_true h0)
          omega
        rw [if_pos hd] at hs
        have := k H' g
        rw [← hs] at this
        exact this
      · have hd : d ≠ 0 := fun e => h0 (decide_eq_true (by rw [e]; rfl))
        rw [if_neg hd] at hs
        refine ⟨_, rfl, _, ws.length, rfl, .inl ⟨_, sqK (g.sub _ _ ia), by rw [List.length_map]⟩, ?_⟩
        have := k H' g
        rw [← hs] at this
        exact this
theorem scLPen : FnScope ["script"] ["script"] (defScope sPen) := ⟨rfl, rfl, rfl, by decide +kernel, rfl, by decide +kernel, by decide +kernel⟩
theorem ok_lpen {f : Addr} {fd : FuncData} (F : Fun K "_law_pen" "_law_pen" sPen f fd) (G : TFi mg) : FnOk P w K mg base CX0 1 f fd ["script"] (spLPen K) := by
  refine F.ok scLPen (fun vs H Q E h => ?_) (fun cdv A outer s H vs Q E hr h => ?_)
  · obtain ⟨a, ns, I, rfl, _⟩ := h
    rfl
  · obtain ⟨a, ns, I, rfl, hI, ia, k⟩ := h
    refine ⟨_, pss_one (ps_ret (pe_lst (pa_cons (pe_callTy call_list_of (by rfl) G.list (by decide +kernel) (pa_cons (pe_slice sl_list (pv 0) po_none (po_some pe_int)) pa_nil)) (pa_cons pe_int (pa_cons pe_int pa_nil))))), ?_⟩
    refine ⟨_, rfl, 63, rfl, a, _, rfl, ia, fun p hp => ?_⟩
    have ec : cutV (ns.map V.int) none (some 63) = (ns.take 63).map V.int := (cut_hi (ns.map V.int) 63).trans List.map_take.symm
    rw [ec]
    have g1 : Go NoS I H I (upd H p (.lst ((ns.take 63).map V.int))) := Go.tmp hI hp
    refine ⟨p, _, rfl, .inl (sqK upd_same), fun l hl => ?_⟩
    have g2 := g1.trans (Go.new (o := .lst ((ns.take 63).map V.int)) g1.sub hl)
    refine ⟨(by show 3 ≤ sizeLine; decide), fun q hq => ?_⟩
    have il : (upd I l (.lst ((ns.take 63).map V.int))) l = some (.lst ((ns.take 63).map V.int)) := upd_same
    refine k q _ _ (g2.trans (Go.tmp g2.sub hq)) ⟨l, ns.take 63, 0, 0, upd_same, g2.sub.free hq, il, by rw [List.length_take]; exact Nat.min_le_left _ _, Int.le_refl _, Int.le_refl _⟩
end
end Tm
/-! plain: words that may be shown -/
namespace Tm
open PySem PySem.Spec PyProof.Rows L2
theorem joinL_all {p : Nat → Prop} {S : List Nat} (hS : ∀ c ∈ S, p c) : ∀ ls : List (List Nat), (∀ l ∈ ls, ∀ c ∈ l, p c) → ∀ c ∈ TL.joinL S ls, p c
  | [], _, c, hc => by cases hc
  | [l], h, c, hc => h l List.mem_cons_self c hc
  | l :: m :: r, h, c, hc => by
    have hc : c ∈ l ++ (S ++ TL.joinL S (m :: r)) := hc
    rcases List.mem_append.mp hc with hc | hc
    · exact h l List.mem_cons_self c hc
    · rcases List.mem_append.mp hc with hc | hc
      · exact hS c hc
      · exact joinL_all hS (m :: r) (fun l hl => h l (List.mem_cons_of_mem _ hl)) c hc
theorem joinL_len {S : List Nat} : ∀ ls : List (List Nat), (TL.joinL S ls).length ≤ (ls.map (·.length)).sum + ls.length * S.length
  | [] => Nat.zero_le _
  | [l] => by
    show l.length ≤ _
    simp
  | l :: m :: r => by
    have ih := joinL_len (S := S) (m :: r)
    show (l ++ (S ++ TL.joinL S (m :: r))).length ≤ _
    rw [List.length_append, List.length_append, List.map_cons, List.sum_cons, List.length_cons, Nat.succ_mul]
    omega
theorem strOk_iff (z : Str) : PyData.strOk z = true ↔ ∀ c ∈ z.cps.toList, c < 0x110000 := by
  unfold PyData.strOk
  rw [← Array.all_toList, List.all_eq_true]
  exact ⟨fun h c hc => of_decide_eq_true (h c hc), fun h c hc => decide_eq_true (h c hc)⟩
theorem join_tl (ws : List Str) : (Txt.join " " ws).cps.toList = TL.joinL [32] (ws.map fun z => z.cps.toList) := by
  rw [TL.join_eq]
  exact TL.tl_join " " ws
theorem join_ok {ws : List Str} (h : ∀ z ∈ ws, PyData.strOk z = true) : PyData.strOk (Txt.join " " ws) = true := by
  rw [strOk_iff, join_tl]
  refine joinL_all (p := fun c => c < 0x110000) (fun c hc => by rw [List.mem_singleton.mp hc]; decide) _ fun l hl c hc => ?_
  obtain ⟨z, hz, rfl⟩ := List.mem_map.mp hl
  exact (strOk_iff z).mp (h z hz) c hc
theorem str_len (z : Str) : z.length = z.cps.toList.length := by simp [Str.length]
theorem join_le {n : Nat} {ws : List Str} (h : ∀ z ∈ ws, z.length ≤ n) : (Txt.join " " ws).length ≤ (n + 1) * ws.length := by
  rw [str_len, join_tl]
  have h1 := joinL_len (S := [32]) (ws.map fun z => z.cps.toList)
  have h2 := sum_le ws h
  have h3 : ((ws.map fun z => z.cps.toList).map (·.length)) = ws.map (·.length) := by
    rw [List.map_map]
    exact List.map_congr_left fun z _ => (str_len z).symm
  rw [h3, List.length_map, List.length_singleton] at h1
  rw [Nat.succ_mul]
  omega
/-- short words, as many as one likes below a thousand -/
structure Sm (ws : List Str) : Prop where
  ok : ∀ z ∈ ws, PyData.strOk z = true
  ln : ∀ z ∈ ws, z.length ≤ 100
  few : ws.length ≤ 1000
theorem weight_strs : ∀ ws : List Str, (∀ z ∈ ws, z.length ≤ 100) → PyData.weightAll (ws.map PyData.str) ≤ 101 * ws.length
  | [], _ => Nat.zero_le _
  | z :: r, h => by
    have ih := weight_strs r fun y hy => h y (List.mem_cons_of_mem _ hy)
    have h0 : z.cps.size ≤ 100 := h z List.mem_cons_self
    show z.cps.size + 1 + PyData.weightAll (r.map PyData.str) ≤ 101 * (r.length + 1)
    omega
theorem lay_tup {ws : List Str} (h : Sm ws) : PyData.layable0 (.tuple (ws.map PyData.str)) = true := by
  obtain ⟨h1, h2⟩ := lay_flat (ws.map PyData.str) fun d hd => by
    obtain ⟨z, hz, rfl⟩ := List.mem_map.mp hd
    exact ⟨h.ok z hz, rfl⟩
  have h3 := weight_strs ws h.ln
  have h4 := h.few
  show (PyData.canLayAll0 (ws.map PyData.str) && decide (PyData.depthAll (ws.map PyData.str) + 1 ≤ 64) && decide (PyData.weightAll (ws.map PyData.str) ≤ 2 ^ 20)) = true
  rw [h1, h2, decide_eq_true (show PyData.weightAll (ws.map PyData.str) ≤ 2 ^ 20 by omega)]
  rfl
theorem show_tup : ∀ ws : List Str, PyData.showable (.tuple (ws.map PyData.str)) = true
  | [] => rfl
  | z :: r => show_tup r
theorem ints_tup (ws : List Str) : PyData.intsShort 13 (.tuple (ws.map PyData.str)) = true := PyData.intsShortAll_strs 13 ws
theorem lay_str {z : Str} (h : PyData.strOk z = true) (hl : z.length ≤ 1000000) : PyData.layable0 (.str z) = true := by
  show (PyData.strOk z && decide (0 ≤ 64) && decide (z.cps.size ≤ 2 ^ 20)) = true
  rw [h, decide_eq_true (show z.cps.size ≤ 2 ^ 20 from Nat.le_trans hl (by decide))]
  rfl
theorem sm_due {ws : List Str} (h : ∀ z ∈ ws, due z ≠ none) (hl : ws.length ≤ 1000) : Sm ws := ⟨fun z hz => due_ok (h z hz), fun z hz => Nat.le_trans (due_24 (h z hz)) (by decide), hl⟩
theorem if_eq {α : Type} [DecidableEq α] {x y : α} {A B : Prop} (e : x = y) (h : B) : if (!decide (x = y)) = true then A else B := by
  rw [decide_eq_true e]
  exact h
theorem if_same {α : Type} [DecidableEq α] {x : α} {A B : Prop} (h : B) : if (!decide (x = x)) = true then A else B := by
  rw [decide_eq_true (rfl : x = x)]
  exact h
end Tm
/-! defs that want to know that no text is being made above them (repr of a list, of a tuple) -/
namespace Tm
open PySem PySem.Spec PyProof.Rows L2
/-- nothing above makes a text -/
abbrev NoG (A : Around) : Prop := A.guards = some []
section
variable {P : Program} {w : World} {K : PySem.W.Frag} {mg : Str → Option Value} {base : Heap} {CX : CXT}
/-- a promise, where nothing above makes a text -/
structure FnG (P : Program) (w : World) (K : PySem.W.Frag) (mg : Str → Option Value) (base : Heap) (CX : CXT) (k : Nat) (f : Addr) (fd : FuncData) (ps : List Str) (sp : Sp) : Prop where
  len : ∀ vs H Q E, sp vs H Q E → vs.length = ps.length
  run : ∀ (A : Around) (outer : List Env) (s : Shared) (H : Hp) (args : Args) (us : List Value) (vs : List V) (Q : VK) (E : XK), NoG A → Room k A → Env0 P w K mg base A outer s H → BindsTo s fd args (ps.zip us) → Vals vs us → sp vs H Q E →
    codeAny (model P w) A (.call (.ref f) args) (CR CX outer P w H s Q E) s
theorem FnG.of {k : Nat} {f : Addr} {fd : FuncData} {ps : List Str} {sp : Sp} (F : FnOk P w K mg base CX k f fd ps sp) : FnG P w K mg base CX k f fd ps sp := ⟨F.len, fun A outer s H args us vs Q E _ => F.run A outer s H args us vs Q E⟩
theorem FnG.imp {k : Nat} {f : Addr} {fd : FuncData} {ps : List Str} {sp sp' : Sp} (F : FnG P w K mg base CX k f fd ps sp) (h : ∀ vs H Q E, sp' vs H Q E → sp vs H Q E) : FnG P w K mg base CX k f fd ps sp' :=
  ⟨fun vs H Q E q => F.len vs H Q E (h _ _ _ _ q), fun A outer s H args us vs Q E g r e b v q => F.run A outer s H args us vs Q E g r e b v (h _ _ _ _ q)⟩
theorem fn_G {x qual : Str} {st : Stmt} {f : Addr} {oc : Value} {od an : Option Addr} {osl : Array (Option Value)} {kV doc pm cdv ct : Value} {N ps : List Str} {k : Nat} {sp : Sp} (lk : K.lookup f = some ⟨oc, od, .func (PySem.W.fnOf x qual (defArgs st) (defBody st) (defScope st) .none kV doc pm an cdv ct), osl⟩)
    (hcd : PySem.W.codeIn K cdv qual = true) (S : FnScope N ps (defScope st)) (len : ∀ vs H Q E, sp vs H Q E → vs.length = ps.length)
    (hbody : ∀ (A : Around) (outer : List Env) (s : Shared) (H : Hp) (vs : List V) (Q : VK) (E : XK), NoG A → Room k (A.deeper (envOfC qual (defScope st) s.heap.objs.size f cdv)) → sp vs H Q E →
      ∃ t, PSs (cxOf CX0 P w K mg base N qual (defScope st) f cdv A outer s H E).nox (defBody st) t ∧ t { nx := fun _ H' => Q .non H', rt := Q } (start N vs) H) :
    FnG P w K mg base CX0 (k + 1) f (PySem.W.fnOf x qual (defArgs st) (defBody st) (defScope st) .none kV doc pm an cdv ct) ps sp := by
  refine ⟨len, fun A outer s H args us vs Q E hg hr e0 hb r hsp => ?_⟩
  have Z : K.In s.heap := e0.mod.kin.keeps fun b o e => (e0.bs b o e).1
  have hl := len _ _ _ _ hsp
  refine codeAny_call_function hr.depth (Z _ _ lk) rfl S.co S.gen rfl (PySem.W.codeRec_of Z hcd) (hb _ _ _ _ ?_)
  refine wpAny_newFunctionEnv_cells S.kind (fun ⟨n, v⟩ hy => ?_) fun env he s1 x => ?_
  · exact (S.par n (List.of_mem_zip hy).1).imp id fun q => ⟨q, PySem.W.cellsFrom_some _ _ _ (.inl q)⟩
  subst he
  refine ⟨(e0.mod.nolimit.keeps fun b o e => (e0.bs b o e).1).keeps x.toInCall.keep, codeAny_func ?_⟩
  obtain ⟨t, ht0, hq⟩ := hbody A outer s H vs Q E hg (hr.deeper _) hsp
  have ht := ht0.nox
  have I : Inv (cxOf CX0 P w K mg base N qual (defScope st) f cdv A outer s H E) [] (start N vs) H s1 := inv_start S hr.hd e0 hl r x
  refine wpAny_mono (ht.run [] s1 (start N vs) H _ I hq) (fun fl s' hs => ?_) fun e s' hs => hs
  cases fl with
  | ret u => obtain ⟨v, σ', H', J, rv, q⟩ := hs; exact ⟨v, H', J.os, J.bare, J.base, J.hok, rv, q⟩
  | next => obtain ⟨σ', H', J, q⟩ := hs; exact ⟨.non, H', J.os, J.bare, J.base, J.hok, rfl, q⟩
  | brk => obtain ⟨_, _, _, q⟩ := hs; exact q.elim
  | cont => obtain ⟨_, _, _, q⟩ := hs; exact q.elim
theorem Fun.okG {x qual : Str} {st : Stmt} {f : Addr} {fd : FuncData} {N ps : List Str} {k : Nat} {sp : Sp} (F : Fun K x qual st f fd) (S : FnScope N ps (defScope st)) (len : ∀ vs H Q E, sp vs H Q E → vs.length = ps.length)
    (hbody : ∀ (cdv : Value) (A : Around) (outer : List Env) (s : Shared) (H : Hp) (vs : List V) (Q : VK) (E : XK), NoG A → Room k (A.deeper (envOfC qual (defScope st) s.heap.objs.size f cdv)) → sp vs H Q E →
      ∃ t, PSs (cxOf CX0 P w K mg base N qual (defScope st) f cdv A outer s H E).nox (defBody st) t ∧ t { nx := fun _ H' => Q .non H', rt := Q } (start N vs) H) : FnG P w K mg base CX0 (k + 1) f fd ps sp := by
  obtain ⟨oc, od, kV, doc, pm, an, cdv, ct, osl, rfl, lk, hcd⟩ := F.ex
  exact fn_G lk hcd S len (hbody cdv)
/-- a def, its code object at c -/
structure FunL (K : PySem.W.Frag) (x : Str) (st : Stmt) (f : Addr) (fd : FuncData) (c : Addr) : Prop where
  ex : ∃ (oc : Value) (od : Option Addr) (kV doc pm : Value) (an : Option Addr) (ct : Value) (osl : Array (Option Value)),
    fd = PySem.W.fnOf x x (defArgs st) (defBody st) (defScope st) .none kV doc pm an (.ref c) ct ∧ K.lookup f = some ⟨oc, od, .func fd, osl⟩ ∧ PySem.W.codeIn K (.ref c) x = true
  kp : PySem.W.keepIn K (.ref f) = true
theorem FunL.okG {x : Str} {st : Stmt} {f c : Addr} {fd : FuncData} {N ps : List Str} {k : Nat} {sp : Sp} (F : FunL K x st f fd c) (S : FnScope N ps (defScope st)) (len : ∀ vs H Q E, sp vs H Q E → vs.length = ps.length)
    (hbody : ∀ (A : Around) (outer : List Env) (s : Shared) (H : Hp) (vs : List V) (Q : VK) (E : XK), NoG A → Room k (A.deeper (envOfC x (defScope st) s.heap.objs.size f (.ref c))) → sp vs H Q E →
      ∃ t, PSs (cxOf CX0 P w K mg base N x (defScope st) f (.ref c) A outer s H E).nox (defBody st) t ∧ t { nx := fun _ H' => Q .non H', rt := Q } (start N vs) H) : FnG P w K mg base CX0 (k + 1) f fd ps sp := by
  obtain ⟨oc, od, kV, doc, pm, an, ct, osl, rfl, lk, hcd⟩ := F.ex
  exact fn_G lk hcd S len hbody
/-- such a def by its name -/
structure CalG (P : Program) (w : World) (K : PySem.W.Frag) (mg : Str → Option Value) (base : Heap) (k : Nat) (x : Str) (sp : Sp) (dvs : List V) : Prop where
  ex : ∃ (f : Addr) (fd : FuncData) (ps : List Str) (ds : List Value), FnG P w K mg base CX0 k f fd ps sp ∧ mg x = some (.ref f) ∧ PySem.W.keepIn K (.ref f) = true ∧ Binds K fd ps ds ∧ Vals dvs ds
end
section
variable {X : Cx}
theorem pe_cG {j k : Nat} {x : Str} {sp : Sp} {dvs : List V} {p pos : Pos} {e : Expr} {es : List Expr} {t : TA} (c : CalG X.prog X.w X.K X.mg X.base k x sp dvs) (ng : NoG X.A) (hr : Room j X.A) (hk : k ≤ j) (hg : Gl X x) (ha : PA X (e :: es) t)
    (hdb : (x == ("__debug__" : Str)) = false := by decide) (he : starEach (e :: es) X.env = (false, eval e X.env) :: starEach es X.env := by rfl) (hpl : (backTo pos (starEach es X.env)).any (·.1) = false := by rfl) :
    PE X (.Call (.Name x p) (e :: es) [] pos) (tCall sp dvs E0 t) := by
  obtain ⟨f, fd, ps, ds, F, hm, kp, b, d⟩ := c.ex
  refine ⟨fun pins s σ H Q I h => wpAny_Call_Name_kw (ld_glob I hg hm ?_ hdb)⟩
  refine PySem.W.callWith_K (h₀ := X.base) I.ok.mod.kin kp (thn (ha.run pos pins s σ H _ I h) fun us s1 ⟨vs, H1, I1, r, q⟩ => ⟨I1.kIn, ?_⟩) he hpl
  have r2 : Vals (vs ++ dvs) (us ++ ds) := r.append d
  refine wpAny_call (codeAny_mono (F.run X.A X.stack s1 H1 ⟨us, []⟩ (us ++ ds) (vs ++ dvs) Q E0 ng (hr.mono hk) I1.env0 (b s1 us I1.kIn (by rw [← r2.length]; exact F.len _ _ _ _ q)) r2 q) fun r s' hq => ?_)
  cases r with
  | error e => exact pass0 pins σ H1 s1 e s' I1 hq
  | ok fl =>
    cases fl with
    | ret u => exact I1.after hq
    | next => exact hq.elim
    | brk => exact hq.elim
    | cont => exact hq.elim
/-- repr of plain values -/
def rRepr (K : PySem.W.Frag) : List V → Hp → VK → Prop := fun xs H Q => ∃ x d, xs = [x] ∧ Dp K H x d ∧ PyData.layable0 d = true ∧ d.showable = true ∧ d.intsShort 13 = true ∧ Q (.str d.shown) H
theorem call_repr (ng : NoG X.A) (hu : X.A.units + 70 < cLine) : CallR X (.builtin "repr") (rRepr X.K) := by
  intro pins s σ H xs us Q I r h
  obtain ⟨x, d, rfl, dp, hl, hs, hi, q⟩ := h
  obtain ⟨u, rfl, rx⟩ := vals1 r
  obtain ⟨as, rd⟩ := Dp.reads I d x u dp rx
  have hz := PyData.shown_fits_of_layable0 (by decide : 8 ≤ 13) (by decide : 13 ≤ 13) hl hi
  have fin : ∀ (h' : Heap) (t : Tok) (tk : Nat), (∀ b o, s.heap.get? b = some o → h'.get? b = some o) → EP X pins σ Q (.str d.shown t) { s with heap := h', toks := tk } := fun h' t tk hk => ⟨.str d.shown, H, I.kept hk, ⟨t, rfl⟩, q⟩
  have hd : d.depth ≤ 64 := by
    have : (d.canLay0 && decide (d.depth ≤ 64) && decide (d.weight ≤ 2 ^ 20)) = true := hl
    simp only [Bool.and_eq_true, decide_eq_true_eq] at this
    exact this.1.2
  have heap : ∀ a : Addr, u = .ref a → wpAny (model X.prog X.w) X.A (call (.builtin "repr") [u]) (EP X pins σ Q) X.xe s := fun a e => by
    subst e
    exact repr_of_reads' rd hs (PyData.noDict_hsm (PyData.hasDict_of_layable hl)) ng (by omega) (fun _ _ e => e) fin hz
  cases dp with
  | non => cases (show u = Value.none from rx); exact P.repr_of_none (fin _ _ _ fun _ _ e => e)
  | bl b => cases (show u = Value.bool b from rx); exact P.repr_of_bool (fin _ _ _ fun _ _ e => e)
  | int i =>
    obtain ⟨t, rfl⟩ := (show ∃ t, u = Value.int i t from rx)
    exact P.repr_of_int (of_decide_eq_true hs) (fin _ _ _ fun _ _ e => e)
  | str z =>
    obtain ⟨t, rfl⟩ := (show ∃ t, u = Value.str z t from rx)
    exact P.repr_of_str (fin _ _ _ fun _ _ e => e) hz
  | lst h _ => exact heap _ rx
  | tup h _ => exact heap _ rx
end
end Tm
/-! the law's _law_is_told -/
namespace Tm
open PySem PySem.Spec PyProof.Rows L2
abbrev sTold : Stmt := top 36
def spTold (C : Addr) (d : Nat) : Sp := fun vs H Q _ => ∃ (a b : Addr) (m : Mdl) (I : Hp), vs = [.ref a, .ref b] ∧ Same I H ∧ TIs C I (.ref a) m ∧ MIs I (.ref b) m ∧ m.ok ∧ m.deep ≤ d ∧ m.words.length ≤ 1000 ∧ ∀ (I' H' : Hp), Go NoS I H I' H' → Q (.bl true) H'
/-- the class's __str__ -/
structure StrOk (P : Program) (w : World) (K : PySem.W.Frag) (mg : Str → Option Value) (base : Heap) (C : Addr) : Prop where
  ex : ∃ f fd, PySem.W.findIn K (.ref C) "__str__" = some (some (.ref f)) ∧ PySem.W.isFn K (.ref f) = true ∧ FnOk P w K mg base CX0 1 f fd ["self"] (spStrT C) ∧ Binds K fd ["self"] []
theorem pe_strT {X : Cx} {C : Addr} {j : Nat} {te : TE} {e : Expr} {p pos : Pos} (S : StrOk X.prog X.w X.K X.mg X.base C) (hr : Room j X.A) (hj : 3 ≤ j) (hg : Gl X "str") (hm : X.mg "str" = none) (he : PE X e te) (hs : starEach [e] X.env = (false, eval e X.env) :: starEach [] X.env := by rfl) :
    PE X (.Call (.Name "str" p) [e] [] pos) (tCB (fun xs H Q => ∃ x, xs = [x] ∧ Kn C H x true ∧ spStrT C [x] H (fun v H' => ∃ z, v = .str z ∧ Q v H') E0) (tCons te tNil)) := by
  obtain ⟨f, fd, a, b, F, bd⟩ := S.ex
  exact pe_callTy (call_strT a b F bd hr hj pass0) hg hm (by decide +kernel) (pa_cons he pa_nil hs) (by decide) (by decide) hs rfl
section
variable {P : Program} {w : World} {K : PySem.W.Frag} {mg : Str → Option Value} {base : Heap} {C BT BX TM : Addr}
theorem scTold : FnScope ["made", "model", "words", "at", "part"] ["made", "model"] (defScope sTold) := ⟨rfl, rfl, rfl, by decide +kernel, rfl, by decide +kernel, by decide +kernel⟩
theorem ok_told {e : Nat} {f : Addr} {fd : FuncData} (F : Fun K "_law_is_told" "_law_is_told" sTold f fd) (T : TC K mg C) (R : TR mg) (G : TFi mg) (hre : mg "repr" = none) (S : StrOk P w K mg base C) (cW : C8.Cal P w K mg base (e + 1) "_law_words" (spLWords e) []) (b : Binds K fd ["made", "model"] []) (mF : mg "_law_is_told" = some (.ref f)) :
    ∀ d : Nat, d ≤ e → FnG P w K mg base CX0 (e + d + 5) f fd ["made", "model"] (spTold C d) := by
  have core : ∀ d : Nat, d ≤ e → CalG P w K mg base (e + d + 4) "_law_is_told" (fun vs H Q E => ∃ e, d = e + 1 ∧ spTold C e vs H Q E) [] → FnG P w K mg base CX0 (e + d + 5) f fd ["made", "model"] (spTold C d) := by
    intro d hde c
    refine Fun.okG F scTold (fun vs H Q E h => ?_) (fun cdv A outer s H vs Q E ng hr h => ?_)
    · obtain ⟨a, b, m, I, rfl, _⟩ := h
      rfl
    · obtain ⟨a, b, m, I, rfl, hI, ta, mb, ho, hd, hw, k⟩ := h
      have hu : (A.deeper (envOfC "_law_is_told" (defScope sTold) s.heap.objs.size f cdv)).units + 70 < cLine := by have := hr.un; omega
      refine ⟨_, pss_cons (ps_set (i := 2) scTold.nd rfl (Or.inl rfl) (C8.pe_c cW hr (by omega) rfl (pa_cons (pv 1) pa_nil)))
        (pss_cons (ps_if (PW.pt (pw_or (pt_not (pt_val (pe_callB call_isi (by rfl) T.isi (by decide +kernel) (pa_cons (pv 0) (pa_cons (pe_glob (v := .ref C) rfl T.mgC rfl) pa_nil)))))
            (pw_or (pt_not (pt_val (pe_callB call_isi (by rfl) T.isi (by decide +kernel) (pa_cons (pe_fldK K (pv 0)) (pa_cons (pe_bltn (v := .ty "tuple") rfl G.tuple (by decide +kernel) rfl) pa_nil)))))
            (pw_or1 (pt_not (pt_val (pe_callB call_isi (by rfl) T.isi (by decide +kernel) (pa_cons (pe_fldK K (pv 0)) (pa_cons (pe_bltn (v := .ty "tuple") rfl G.tuple (by decide +kernel) rfl) pa_nil)))))))))
          (pss_one (ps_ret pe_bl)) pss_nil)
        (pss_cons (ps_if (PW.pt (pw_or (pt_cmpR op_ne (pe_callB (call_repr ng hu) (by rfl) hre (by decide +kernel) (pa_cons (pe_fldK K (pv 0)) pa_nil)) (pe_callB (call_repr ng hu) (by rfl) hre (by decide +kernel) (pa_cons (pe_callTy call_tuple_of (by rfl) G.tuple (by decide +kernel) (pa_cons (pv 2) pa_nil)) pa_nil)) (nomark _))
            (pw_or1 (pt_cmpR op_ne (pe_callB (call_repr ng hu) (by rfl) hre (by decide +kernel) (pa_cons (pe_strT S hr (by omega) (by rfl) T.str (pv 0)) pa_nil)) (pe_callB (call_repr ng hu) (by rfl) hre (by decide +kernel) (pa_cons (pe_join pe_str (pv 2)) pa_nil)) (nomark _)))))
          (pss_one (ps_ret pe_bl)) pss_nil)
        (pss_cons (ps_if (PW.pt (pw_or (pt_cmpR op_ne (pe_callB (call_repr ng hu) (by rfl) hre (by decide +kernel) (pa_cons (pe_fldK K (pv 0)) pa_nil)) (pe_callB (call_repr ng hu) (by rfl) hre (by decide +kernel) (pa_cons (pe_ix ix_list (pv 2) pe_int (fun _ _ => rfl)) pa_nil)) (nomark _))
            (pw_or1 (pt_cmpR op_ne (pe_callB call_len (by rfl) T.len PySem.boot_len (pa_cons (pe_fldK K (pv 0)) pa_nil)) (pe_op op_sub (pe_callB call_len (by rfl) T.len PySem.boot_len (pa_cons (pv 1) pa_nil)) pe_int) (nomark _)))))
          (pss_one (ps_ret pe_bl)) pss_nil)
        (pss_cons (ps_for PassesOwn.never rfl (pi_enum (by rfl) R.enum (pa_cons (pe_slice sl_list (pv 1) (po_some pe_int) po_none) pa_nil)) (pg_tup rfl (pgs_cons (pg_name (i := 3) scTold.nd rfl (Or.inl rfl)) (pgs_cons (pg_name (i := 4) scTold.nd rfl (Or.inl rfl)) pgs_nil)))
          (pss_one (ps_if (pt_not (pt_val (pe_cG c ng hr (by omega) rfl (pa_cons (pe_ix ix_tup (pe_fldK K (pv 0)) (pv 3) (fun _ _ => rfl)) (pa_cons (pv 4) pa_nil))))) (pss_one (ps_ret pe_bl)) pss_nil)))
        (pss_one (ps_ret pe_bl)))))), ?_⟩
      have sw : Sm m.words := sm_due (ok_words ho) hw
      have hsum : (m.words.map (·.length)).sum + m.words.length ≤ 16777216 := by
        have := sum_le (n := 24) m.words fun z hz => due_24 (ok_words ho z hz)
        omega
      have hjl : (Txt.join " " m.words).length ≤ 1000000 := by
        have := join_le (n := 24) (ws := m.words) fun z hz => due_24 (ok_words ho z hz)
        omega
      have hhd : m.head ∈ m.words := by rw [Mdl.kids_words]; exact List.mem_cons_self
      have hdue : due m.head ≠ none := ok_words ho _ hhd
      refine ⟨_, rfl, b, m, I, rfl, hI, mb, by omega, hw, fun p I1 H1 g1 ip => ?_⟩
      obtain ⟨a0, dx, pa, wa, vs, e0, i1, i2, i3, hl, hk⟩ := tis_words (C := C) ta
      cases e0
      obtain ⟨b1, vs2, e1, j1, hl2, hk2⟩ := mb.list
      cases e1
      have h1 := g1.sub _ _ (g1.ext _ _ i1)
      have h2 := g1.sub _ _ (g1.ext _ _ i2)
      have h3 := g1.sub _ _ (g1.ext _ _ i3)
      have hm1 := g1.sub _ _ (g1.ext _ _ j1)
      have hp := g1.sub _ _ ip
      obtain ⟨t, ty, kt, _⟩ := kn_ty T (.tmp h1)
      refine ⟨_, rfl, _, _, t, _, true, rfl, .own C, ty, kt, true, rfl, iteF ?_⟩
      refine ⟨_, rfl, a, C, dx, _, _, rfl, h1, T.cl, T.nP, tF_parts _ _ _, _, _, _, _, true, rfl, .ty "tuple", .base (.tup h2), kit_ty (by decide +kernel), true, rfl, iteF ?_⟩
      refine ⟨_, rfl, a, C, dx, _, _, rfl, h1, T.cl, T.nS, tF_words _ _ _, _, _, _, _, true, rfl, .ty "tuple", .base (.tup h3), kit_ty (by decide +kernel), true, rfl, ?_⟩
      -- the words and the text
      refine ⟨_, rfl, a, C, dx, _, _, rfl, h1, T.cl, T.nS, tF_words _ _ _, _, .tuple (m.words.map PyData.str), rfl, .tup (stK h3) (dpStrs _), lay_tup sw, show_tup _, ints_tup _, _, rfl, p, _, rfl, .inl ⟨sqK hp, fun l hl0 => ?_⟩⟩
      have g2 := g1.trans (Go.tmp (o := .tup (m.words.map V.str)) g1.sub hl0)
      have el : (upd H1 l (.tup (m.words.map V.str))) l = some (.tup (m.words.map V.str)) := upd_same
      generalize upd H1 l (.tup (m.words.map V.str)) = H2 at g2 el ⊢
      have h1 := g2.sub _ _ (g2.ext _ _ i1)
      have h2 := g2.sub _ _ (g2.ext _ _ i2)
      have hm1 := g2.sub _ _ (g2.ext _ _ j1)
      have hp := g2.sub _ _ ip
      refine ⟨_, .tuple (m.words.map PyData.str), rfl, .tup (stK el) (dpStrs _), lay_tup sw, show_tup _, ints_tup _, rfl, _, rfl, if_same ?_⟩
      have lj : PyData.layable0 (.str (Txt.join " " m.words)) = true := lay_str (join_ok sw.ok) hjl
      refine ⟨_, rfl, _, rfl, .tmp h1, _, m, I1, rfl, g2.sub, ta.ext g2.ext, hsum, _, rfl, _, .str _, rfl, .str _, lj, rfl, rfl, ⟨_, rfl⟩, _, rfl, " ", p, m.words, rfl, rfl, .inl (sqK hp), by rw [show (" " : Str).length = 1 from rfl, Nat.mul_one]; exact hsum, _, .str _, rfl, .str _, lj, rfl, rfl, rfl, _, rfl, if_same ?_⟩
      -- the word, the number of parts
      have lh : PyData.layable0 (.str m.head) = true := lay_str (due_ok hdue) (Nat.le_trans (due_24 hdue) (by decide))
      have h0w : (m.words.map V.str)[0]? = some (.str m.head) := by rw [Mdl.kids_words]; rfl
      refine ⟨_, rfl, a, C, dx, _, _, rfl, h1, T.cl, T.nW, tF_word _ _ _, _, .str _, rfl, .str _, lh, rfl, rfl, _, rfl, p, _, _, .str m.head, rfl, rfl, sqK hp, atI_at (j := 0) rfl h0w, _, .str _, rfl, .str _, lh, rfl, rfl, rfl, _, rfl, if_same ?_⟩
      refine ⟨_, rfl, a, C, dx, _, _, rfl, h1, T.cl, T.nP, tF_parts _ _ _, _, vs.length, rfl, .inr ⟨_, stK h2, rfl⟩, _, rfl, _, vs2.length + 1, rfl, .inl ⟨_, sqK hm1, rfl⟩, _, _, rfl, rfl, rfl, _, rfl, ?_⟩
      refine if_eq (congrArg V.int (by omega)) ?_
      -- the parts
      refine ⟨_, rfl, 1, rfl, b, _, rfl, sqK hm1, fun p2 hp2 => ?_⟩
      rw [cut_tail]
      have g3 := g2.trans (Go.new (o := .lst vs2) g2.sub hp2)
      have e2 : upd I1 p2 (.lst vs2) p2 = some (.lst vs2) := upd_same
      generalize upd H2 p2 (.lst vs2) = H3 at g3 ⊢
      generalize upd I1 p2 (.lst vs2) = I3 at g3 e2
      refine ⟨p2, vs2, rfl, sqK (g3.sub _ _ e2), for_it (walk_enum (xs := vs2)) (fun i σ H' => ∃ (I' : Hp) (o3 o4 : Option V), i ≤ vs2.length ∧ Go NoS I H I' H' ∧ I' p2 = some (.lst vs2) ∧ σ = [some (V.ref a), some (.ref b), some (.ref p), o3, o4]) ⟨I3, none, none, Nat.zero_le _, g3, e2, rfl⟩ ?_ ?_ ?_⟩
      · rintro i σ H' hi ⟨I', o3, o4, _, g, ip2, _⟩
        exact sqK (g.sub _ _ ip2)
      · rintro i x σ H' H'' hi ⟨I', o3, o4, _, g, ip2, rfl⟩ ⟨T1, x1, y1, rfl, hT1, rfl, ex, hy1⟩
        cases ex
        replace hy1 : vs2[i]? = some y1 := hy1
        obtain ⟨km, hkm⟩ : ∃ km, m.kids[i]? = some km := ⟨m.kids[i]'(by omega), List.getElem?_eq_getElem _⟩
        obtain ⟨x2, hx2⟩ : ∃ x2, vs[i]? = some x2 := ⟨vs[i]'(by omega), List.getElem?_eq_getElem _⟩
        have mk := hk2 i y1 km hy1 hkm
        have tk := hk i x2 km hx2 hkm
        obtain ⟨c0, rfl⟩ := mis_ref mk
        obtain ⟨c1, _, _, _, _, rfl, _⟩ := tis_words (C := C) tk
        have hmem : km ∈ m.kids := List.mem_of_getElem? hkm
        have hkd := Mdl.kids_deep hmem
        have hkw : km.words.length ≤ m.words.length := by
          rw [Mdl.kids_words m, List.length_cons]
          have : km.words ∈ m.kids.map Mdl.words := List.mem_map_of_mem hmem
          exact Nat.le_succ_of_le (List.sublist_flatten_of_mem this).length_le
        have g4 := g.trans (Go.tmp (o := .tup [.int (i : Int), .ref c0]) g.sub hT1)
        refine ⟨T1, _, rfl, stK upd_same, rfl, _, _, rfl, _, _, rfl, rfl, ?_⟩
        refine ⟨_, rfl, a, C, dx, _, _, rfl, g4.sub _ _ (g4.ext _ _ i1), T.cl, T.nP, tF_parts _ _ _, _, rfl, pa, _, _, .ref c1, rfl, rfl, stK (g4.sub _ _ (g4.ext _ _ i2)), atI_at rfl hx2, _, rfl, ?_⟩
        refine ⟨d - 1, by omega, c1, c0, km, I', rfl, g4.sub, tk.ext g.ext, mk.ext g.ext, Mdl.kids_ok ho hmem, by omega, by omega, fun I5 H5 g5 => ⟨_, rfl, ?_⟩⟩
        exact iteF ⟨I5, _, _, hi, g4.trans g5, g5.ext _ _ ip2, rfl⟩
      · rintro σ H' ⟨I', o3, o4, _, g, ip2, rfl⟩
        exact k I' H' g
  intro d
  induction d with
  | zero => exact fun h0 => core 0 h0 ⟨f, fd, _, _, ⟨fun vs H Q E h => by obtain ⟨e, z, _⟩ := h; omega, fun _ _ _ _ _ _ _ _ _ _ _ _ _ _ h => by obtain ⟨e, z, _⟩ := h; omega⟩, mF, F.kp, b, .nil⟩
  | succ d ih => exact fun h0 => core (d + 1) h0 ⟨f, fd, _, _, (ih (by omega)).imp fun vs H Q E h => by obtain ⟨e, z, h⟩ := h; cases z; exact h, mF, F.kp, b, .nil⟩
end
end Tm
/-! an exception that is kept beyond its suite -/
namespace Tm
open PySem PySem.Spec PyProof.Rows L2
section
variable {X : Cx} {pins : List (Addr × Obj)} {σ : L2.St} {H : Hp} {s : Shared} {q : Addr × Obj}
theorem inv_drop {xe : Value → Shared → Prop} (I : Inv (X.tr (q :: (X.pn ++ pins)) xe) [] σ H s) (ok : X.Ok) : Inv X pins σ H s :=
  ⟨ok, I.os, I.bare, I.base, I.loc, I.cell, I.free, I.freeC, fun p hp => I.pin p (List.mem_append_left _ (List.mem_cons_of_mem _ hp)), I.hok, I.len⟩
theorem inv_behind {a : Addr} (I : Inv (X.suite a (q :: (X.pn ++ pins))) [] σ H s) (ok : X.Ok) : Inv (X.tr (q :: (X.pn ++ pins)) X.xe) [] σ H s :=
  ⟨ok.toTry _ _, I.os, I.bare, I.base, I.loc, I.cell, I.free, I.freeC, fun p hp => I.pin p hp, I.hok, I.len⟩
theorem sp_drop {D : Ends} {f : Flow} (ok : X.Ok) (h : SP (X.tr (q :: (X.pn ++ pins)) X.xe) [] D f s) : SP X pins D f s := by
  cases f with
  | next => obtain ⟨σ', H', J, z⟩ := h; exact ⟨σ', H', inv_drop J ok, z⟩
  | brk => obtain ⟨σ', H', J, z⟩ := h; exact ⟨σ', H', inv_drop J ok, z⟩
  | cont => obtain ⟨σ', H', J, z⟩ := h; exact ⟨σ', H', inv_drop J ok, z⟩
  | ret u => obtain ⟨v, σ', H', J, r, z⟩ := h; exact ⟨v, σ', H', inv_drop J ok, r, z⟩
end
/-- what is asked of the body's exception: the clause takes it, and the rest goes on with it -/
def wKeep (K : PySem.W.Frag) (c : Value) (i : Nat) (ts t2 : Addr → Value → Option Addr → TS) (D : Ends) : WX := fun cls d σ H =>
  PySem.W.exmOne K cls c = some true ∧ ∀ a, H a = none → ts a cls d ⟨fun σ' H' => t2 a cls d D (σ'.set i none) H', fun _ _ => False, fun _ _ => False, fun _ _ => False⟩ (σ.set i (some (.ref a))) H
section
variable {X : Cx} {x n : Str} {c : Value} {i : Nat} {body suite rest : List Stmt} {b₀ : Stmt} {np pos pos' : Pos} {tb : WX → TS} {ts t2 : Addr → Value → Option Addr → TS} {t1 : TS}
theorem pss_try_keep (hs : X.stack = X.env :: X.outer) (hf : X.env.frame = some X.env.locals) (hN : X.N.Nodup) (hi : X.N[i]? = some n) (hln : X.env.kindOf n = some .local) (hc : Names X x c)
    (hb : ∀ (W : WX) (pn : List (Addr × Obj)) (xe : Value → Shared → Prop), Takes (X.tr pn xe) W → PassesOwn (model X.prog X.w) X.A X.env xe → PSs (X.tr pn xe) body (tb W))
    (hsu : ∀ (a : Addr) (oe : Obj) (cls : Value) (d : Option Addr) (pn : List (Addr × Obj)), Zc cls d oe → (∃ vs, oe.data = .fields vs) → PSs (X.suite a ((a, oe) :: pn)) (b₀ :: suite) (ts a cls d))
    (h1 : PSs X rest t1) (h2 : ∀ (a : Addr) (oe : Obj) (cls : Value) (d : Option Addr) (pn : List (Addr × Obj)), Zc cls d oe → (∃ vs, oe.data = .fields vs) → PSs (X.tr ((a, oe) :: pn) X.xe) rest (t2 a cls d)) :
    PSs X (.Try body [.ExceptHandler (some (.Name x np)) (some n) (b₀ :: suite) pos'] [] [] pos :: rest) (fun D σ H => tb (wKeep X.K c i ts t2 D) { D with nx := t1 D } σ H) := by
  refine ⟨fun pins s σ H D I h => ?_⟩
  have ok := I.ok
  have hfr : X.A.frames = some (X.env :: X.outer) := by rw [ok.frames, hs]
  let Post : Flow → Shared → Prop := fun f s' => match f with
    | .next => (∃ σ' H', Inv X pins σ' H' s' ∧ t1 D σ' H') ∨ ∃ a oe cls d σ' H', Zc cls d oe ∧ (∃ vs, oe.data = .fields vs) ∧ Inv (X.tr ((a, oe) :: (X.pn ++ pins)) X.xe) [] σ' H' s' ∧ t2 a cls d D σ' H'
    | f => SP X pins D f s'
  have key : wpAny (model X.prog X.w) X.A (exec (.Try body [.ExceptHandler (some (.Name x np)) (some n) (b₀ :: suite) pos'] [] [] pos) X.env) Post X.xe s := by
    refine wpAny_Try_except ?_
    refine wpAny_mono ((hb (wKeep X.K c i ts t2 D) (X.pn ++ pins) (fun e s₁ => wpAny (model X.prog X.w) X.A (noteFrame e X.env)
      (fun _ s₂ => wpAny (model X.prog X.w) X.A (setFlight e none) (fun _ s₃ => wpAny (model X.prog X.w) X.A (handleBy e X.env [.ExceptHandler (some (.Name x np)) (some n) (b₀ :: suite) pos']) Post X.xe s₃) X.xe s₂) X.xe s₁)
      (fun u s' xx => ?_) PassesOwn.looking).run [] s σ H { D with nx := t1 D } (I.toTry _) h) (fun f s1 hsp => ?_) (fun e s1 he => he)
    · obtain ⟨a, B, sI, pins', σ', H', cls, d, rfl, J', nb, up, sky, na, os, ag, hb1, hyes⟩ := xx
      have J : Inv X pins σ' H' sI := J'.ofTry ok
      have sky' : Sky B (X.env :: X.outer) a (Zc cls d) X.env.locals s'.heap := by rw [← hs]; exact sky
      show wpAny (model X.prog X.w) X.A (noteFrame (.ref a) X.env) _ _ _
      refine Sky.land Zc.steady hfr hf sky' fun h3 fl3 up3 => ?_
      have J3 : Inv X pins σ' H' { s' with heap := h3 } := J.landed nb fl3.1 (up.trans up3) os ag
      obtain ⟨oe3, vs3, he3, hz3, hd3⟩ := fl3.there
      have nfr : a ∉ frs (X.env :: X.outer) := fun hm => by
        obtain ⟨_, o', e', hnf⟩ := fl3.2.2.1.mem hm
        rw [he3] at e'; cases e'
        exact hnf _ hd3
      have nL : a ≠ X.env.locals := fun z => nfr (List.mem_filterMap.mpr ⟨X.env, List.mem_cons_self, by rw [hf, z]⟩)
      have nF : a ∉ X.fs := fun hm => by
        obtain ⟨e, he, w⟩ := List.mem_filterMap.mp hm
        exact nfr (List.mem_filterMap.mpr ⟨e, List.mem_cons_of_mem _ he, w⟩)
      have S3 := J3.suite he3 hd3 na nL nF
      refine wpAny_handleBy_cons (codeAny_handlers_test ?_) (by intro z; cases z)
      have LT : PySem.W.Looks (model X.prog X.w) h3 (typeOf (.ref a)) cls := fun A Q E s k w => wpAny_typeOf_ref (k _ _ he3) (by rw [hz3.1]; exact w)
      have LM := PySem.W.exm_one (M := model X.prog X.w) (J3.kIn) LT hb1
      have test : ∀ {Q : Value → Shared → Prop} {E : Value → Shared → Prop}, Q c { s' with heap := h3 } → wpAny (model X.prog X.w) (X.A.mark (some (.ref a))) (eval (.Name x np) X.env) Q E { s' with heap := h3 } := fun {Q E} w => by
        obtain ⟨hg, hdbg, hm | ⟨hm, hv, hnn⟩⟩ := hc
        · exact ld_glob (X := X.suite a ((a, oe3) :: (X.pn ++ pins))) S3 hg hm w hdbg
        · exact ld_blt (X := X.suite a ((a, oe3) :: (X.pn ++ pins))) S3 hg hm hv w hnn hdbg
      refine test (LM.here ?_)
      refine codeAny_handlers_suite_as ?_
      refine HandSPX.lands_againZ fl3 fun h4 fl4 up4 => ?_
      have J4 : Inv X pins σ' H' { s' with heap := h4 } := J.landed nb fl4.1 ((up.trans up3).trans up4) os ag
      obtain ⟨oe4, vs4, he4, hz4, hd4⟩ := fl4.there
      have S4 := J4.suite he4 hd4 na nL nF
      refine store_ok (X := X.suite a ((a, oe4) :: (X.pn ++ pins))) (v := .ref a) S4 hN hi (.inl hln) rfl (fun s5 S5 => ?_) (.inr hln)
      refine wpAny_mono ((hsu a oe4 cls d (X.pn ++ pins) hz4 ⟨_, hd4⟩).run [] s5 _ H' _ S5 (hyes a na)) (fun f s6 hsp => ?_) (fun _ _ z => False.elim z)
      cases f with
      | next =>
        obtain ⟨σ6, H6, S6, q6⟩ := hsp
        have T6 := inv_behind S6 ok
        exact gone_ok (X := X.tr ((a, oe4) :: (X.pn ++ pins)) X.xe) T6 hN hi hln fun s7 J7 => .inr ⟨a, oe4, cls, d, _, _, hz4, ⟨_, hd4⟩, J7, q6⟩
      | brk => obtain ⟨_, _, _, z⟩ := hsp; exact z.elim
      | cont => obtain ⟨_, _, _, z⟩ := hsp; exact z.elim
      | ret u => obtain ⟨_, _, _, _, _, z⟩ := hsp; exact z.elim
    · cases f with
      | next => obtain ⟨σ', H', J', z⟩ := hsp; exact wpAny_execs_nil (.inl ⟨σ', H', J'.ofTry ok, z⟩)
      | brk => obtain ⟨σ', H', J', z⟩ := hsp; exact ⟨σ', H', J'.ofTry ok, z⟩
      | cont => obtain ⟨σ', H', J', z⟩ := hsp; exact ⟨σ', H', J'.ofTry ok, z⟩
      | ret u => obtain ⟨v, σ', H', J', r, z⟩ := hsp; exact ⟨v, σ', H', J'.ofTry ok, r, z⟩
  refine wpAny_execs_cons (thn key fun f s1 z => ?_)
  cases f with
  | next =>
    rcases z with ⟨σ', H', J, w⟩ | ⟨a, oe, cls, d, σ', H', hz, hfl, J, w⟩
    · exact h1.run pins s1 σ' H' D J w
    · exact thn ((h2 a oe cls d (X.pn ++ pins) hz hfl).run [] s1 σ' H' D J w) fun f s2 u => sp_drop ok u
  | ret v => exact z
  | brk => exact z
  | cont => exact z
end
end Tm
/-! isinstance and the fields of a kept exception -/
namespace Tm
open PySem PySem.Spec PyProof.Rows L2
/-- what the text says of an error's class -/
structure ExK (K : PySem.W.Frag) (D : Addr) : Prop where
  hg : PySem.W.findIn K (.ref D) "__getattribute__" = some (some (.builtin "BaseException.__getattribute__"))
  hk : PySem.W.findIn K (.ref D) "__getattr__" = some none
  hs : PySem.W.subIn K (.ref D) (.type "BaseException") = some true
  hd : PySem.W.hasDictIn K D = true
  ha : PySem.W.findIn K (.ref D) "__class__" = some (some (.builtin "object.__class__"))
  hn : PySem.W.specialIn K (.builtin "object.__class__") "__get__" = some (some (.builtin "getset_descriptor.__get__"))
  ht : PySem.W.takesIn K (.builtin "object.__class__") = some true
  hm : PySem.W.mroIn K D (.type "object") = some true
section
variable {X : Cx} {a : Addr} {oe : Obj} {cls : Value} {d : Option Addr} {pn : List (Addr × Obj)} {xe : Value → Shared → Prop}
theorem exc_at {pins : List (Addr × Obj)} {σ : L2.St} {H : Hp} {s : Shared} {D dd : Addr} {fs : List (Str × V)} (I : Inv (X.tr ((a, oe) :: pn) xe) pins σ H s) (hz : Zc (.ref D) (some dd) oe) (hf : ∃ vs, oe.data = .fields vs) (hd : H dd = some (.xd fs)) :
    ∃ od, PySem.W.InstAt s.heap a oe D (some od) ∧ ∃ mA : Str → Option Value, (∀ f, RelO (fs.lookup f) (mA f)) ∧ ∀ f, PySem.W.lookIn f od = some (mA f) := by
  obtain ⟨ha, _⟩ := I.pin (a, oe) (List.mem_append_left _ List.mem_cons_self)
  obtain ⟨vs, hv⟩ := hf
  obtain ⟨mA, hns, hr⟩ := (show ObjOk X.prog X.w H s.heap dd (.xd fs) from I.hok dd _ hd)
  obtain ⟨od, ho, hl⟩ := lookIn_ns hns
  exact ⟨od, ⟨ha, hz.1, by unfold PySem.W.notCls; rw [hv] <;> rfl, by rw [hz.2]; exact ho⟩, mA, hr, hl⟩
theorem kitx_of {K : PySem.W.Frag} {D x : Addr} {ox : Obj} {od : Option Obj} (C : ExK K D) : PySem.W.KitX K (.ref x) (.ref D) (fun h => PySem.W.InstAt h x ox D od) := by
  obtain ⟨cd, hcd, _⟩ := PySem.W.any_some C.hd
  exact PySem.W.kitx_exc (by rw [hcd]; rfl) C.hg C.hk C.hs C.ha C.hn C.ht C.hm
/-- isinstance(e, c) -/
def rIsX (K : PySem.W.Frag) (a : Addr) (cls : Value) (d : Option Addr) : List V → Hp → VK → Prop := fun xs H Q => ∃ (D dd : Addr) (fs : List (Str × V)) (c : V) (u : Value) (b : Bool), cls = .ref D ∧ d = some dd ∧ ExK K D ∧ H dd = some (.xd fs) ∧ xs = [.ref a, c] ∧ ClsV c u ∧ PySem.W.kitOne K (.ref D) u = some b ∧ Q (.bl b) H
theorem call_exI (hz : Zc cls d oe) (hf : ∃ vs, oe.data = .fields vs) : CallR (X.tr ((a, oe) :: pn) xe) (.builtin "isinstance") (rIsX X.K a cls d) := by
  intro pins s σ H xs us Q I r h
  obtain ⟨D, dd, fs, c, u, b, rfl, rfl, C, hd, rfl, k, e, q⟩ := h
  obtain ⟨u1, u2, rfl, r1, r2⟩ := vals2 r
  cases (show u1 = Value.ref a from r1)
  have e2 := k.eq r2
  subst e2
  obtain ⟨od, J, _⟩ := exc_at I hz hf hd
  exact PySem.W.kia_one (kitx_of C) I.kIn J e (fun z => nomatch z) fun tk => ⟨.bl b, H, I.kept (t' := tk) fun _ _ z => z, rfl, q⟩
/-- isinstance(e, (c1, ..)) -/
def rIsXT (K : PySem.W.Frag) (a : Addr) (cls : Value) (d : Option Addr) : List V → Hp → VK → Prop := fun xs H Q => ∃ (D dd : Addr) (fs : List (Str × V)) (tp : Addr) (cs : List V) (us : List Value) (b : Bool), cls = .ref D ∧ d = some dd ∧ ExK K D ∧ H dd = some (.xd fs) ∧ xs = [.ref a, .ref tp] ∧ H tp = some (.tup cs) ∧
  Paired ClsV cs us ∧ PySem.W.kitAny K (.ref D) us = some b ∧ Q (.bl b) H
theorem call_exIT (hz : Zc cls d oe) (hf : ∃ vs, oe.data = .fields vs) : CallR (X.tr ((a, oe) :: pn) xe) (.builtin "isinstance") (rIsXT X.K a cls d) := by
  intro pins s σ H xs us Q I r h
  obtain ⟨D, dd, fs, tp, cs, ws, b, rfl, rfl, C, hd, rfl, hT, k, e, q⟩ := h
  obtain ⟨u1, u2, rfl, r1, r2⟩ := vals2 r
  cases (show u1 = Value.ref a from r1)
  cases (show u2 = Value.ref tp from r2)
  obtain ⟨od, J, _⟩ := exc_at I hz hf hd
  obtain ⟨_, its, rv, o, h1, h2, n, h3⟩ := (show ObjOk X.prog X.w H s.heap tp (.tup cs) from I.hok tp _ hT)
  have e3 := ClsV.all k rv
  subst e3
  obtain ⟨oc, od', dt, sl⟩ := o
  simp only at h2 h3
  subst h2 h3
  exact PySem.W.kia_tup (kitx_of C) I.kIn J h1 e (fun z => nomatch z) fun tk => ⟨.bl b, H, I.kept (t' := tk) fun _ _ z => z, rfl, q⟩
/-- e.f -/
def tExF (K : PySem.W.Frag) (a : Addr) (cls : Value) (d : Option Addr) (f : Str) (te : TE) : TE := fun σ H Q => te σ H fun x H1 => ∃ (D dd : Addr) (fs : List (Str × V)) (v : V), x = .ref a ∧ cls = .ref D ∧ d = some dd ∧ ExK K D ∧ NoAttr K D f ∧ H1 dd = some (.xd fs) ∧ fs.lookup f = some v ∧ Q v H1
theorem pe_exF {e : Expr} {f : Str} {te : TE} {pos : Pos} (hz : Zc cls d oe) (hf : ∃ vs, oe.data = .fields vs) (he : PE (X.tr ((a, oe) :: pn) xe) e te) (hb : attributeBase e f X.env (eval e X.env) = eval e X.env := by rfl) : PE (X.tr ((a, oe) :: pn) xe) (.Attribute e f pos) (tExF X.K a cls d f te) := by
  refine ⟨fun pins s σ H Q I h => ?_⟩
  refine attr_of hb (thn (he.run pins s σ H _ I h) fun u s1 hh => ?_)
  obtain ⟨x, H1, I1, rx, D, dd, fs, v, rfl, rfl, rfl, C, hno, hd, hl, q⟩ := hh
  obtain rfl : u = Value.ref a := rx
  obtain ⟨od, J, mA, hr, hlk⟩ := exc_at I1 hz hf hd
  obtain ⟨u, hu, ru⟩ := RelO.some_of (v := v) (o := mA f) (by rw [← hl]; exact hr f)
  exact HandSPX.exc_get I1.kIn J C.hg C.hk C.hs (PySem.W.findObj_own C.hd hno rfl (by rw [hlk, hu])) (handed_of ru) ⟨v, H1, I1.tok _, ru, q⟩
end
end Tm
/-! the law's _law_heard -/
namespace Tm
open PySem PySem.Spec PyProof.Rows L2
abbrev sHeard : Stmt := top 33
def After (Q : VK) (vs : List V) (H' : Hp) : Prop := ∀ (p : Addr) (H2 : Hp), (∀ I, Same I H' → Go NoS I H' I H2) → H2 p = some (.tup vs) → Q (.ref p) H2
/-- what an error that is heard must bring -/
def Ech (BT BX TM : Addr) (Q : VK) : XK := fun cls d H' => ∃ dd, d = some dd ∧ ((∃ v, cls = .ref BT ∧ H' dd = some (.xd [("part", v)]) ∧ After Q [.str "BadTemporal", v] H') ∨ (∃ l wd, cls = .ref BX ∧ H' dd = some (.xd [("word", wd), ("line", l)]) ∧ After Q [.str "BadText", l, wd] H') ∨
  (∃ m wt, cls = .ref TM ∧ H' dd = some (.xd [("most", m), ("what", wt)]) ∧ After Q [.str "TooMany", wt, m] H'))
def TTheard (BT BX TM : Addr) : (XK → Hp → VK → Prop) → Hp → VK → Prop := fun tl H Q => ∀ Qn : VK, (∀ v H', Q .non H' → Qn v H') → tl (Ech BT BX TM Q) H Qn
/-- what the text says of the errors -/
structure TH (K : PySem.W.Frag) (mg : Str → Option Value) (SE BT BX TM : Addr) : Prop where
  se : mg "ShareError" = some (.ref SE)
  bt : mg "BadTemporal" = some (.ref BT)
  bx : mg "BadText" = some (.ref BX)
  tm : mg "TooMany" = some (.ref TM)
  isi : mg "isinstance" = none
  eT : ExK K BT
  eX : ExK K BX
  eM : ExK K TM
  xT : PySem.W.exmOne K (.ref BT) (.ref SE) = some true
  xX : PySem.W.exmOne K (.ref BX) (.ref SE) = some true
  xM : PySem.W.exmOne K (.ref TM) (.ref SE) = some true
  nT : PySem.W.kitOne K (.type "NoneType") (.ref BT) = some false
  nX : PySem.W.kitOne K (.type "NoneType") (.ref BX) = some false
  nM : PySem.W.kitOne K (.type "NoneType") (.ref TM) = some false
  tt : PySem.W.kitOne K (.ref BT) (.ref BT) = some true
  tx : PySem.W.kitOne K (.ref BT) (.ref BX) = some false
  tq : PySem.W.kitOne K (.ref BT) (.ref TM) = some false
  xt : PySem.W.kitOne K (.ref BX) (.ref BT) = some false
  xx : PySem.W.kitOne K (.ref BX) (.ref BX) = some true
  xq : PySem.W.kitOne K (.ref BX) (.ref TM) = some false
  qt : PySem.W.kitOne K (.ref TM) (.ref BT) = some false
  qx : PySem.W.kitOne K (.ref TM) (.ref BX) = some false
  qq : PySem.W.kitOne K (.ref TM) (.ref TM) = some true
  fp : NoAttr K BT "part"
  fl : NoAttr K BX "line"
  fw : NoAttr K BX "word"
  fh : NoAttr K TM "what"
  fm : NoAttr K TM "most"
theorem kit2 {K : PySem.W.Frag} {t c1 c2 : Value} (h1 : PySem.W.kitOne K t c1 = some false) (h2 : PySem.W.kitOne K t c2 = some false) : PySem.W.kitAny K t [c1, c2] = some false :=
  kitAny_cons h1 (fun _ => kitAny_cons h2 (fun _ => kitAny_nil) fun z => nomatch z) fun z => nomatch z
theorem lk1 {f : Str} {v : V} : List.lookup f [(f, v)] = some v := by simp [List.lookup]
theorem lk2a {f g : Str} {v u : V} : List.lookup f [(f, v), (g, u)] = some v := by simp [List.lookup]
theorem lk2b {f g : Str} {v u : V} (h : (g == f) = false) : List.lookup g [(f, v), (g, u)] = some u := by simp [List.lookup, h]
theorem takes_len {X : Cx} {W : WX} (tk : Takes X W) : Takes X (fun cls d σ H => σ.length = X.N.length → W cls d σ H) := fun u s' x => by
  obtain ⟨a, B, sI, pins, σ, H, cls, d, e, I, h1, h2, h3, h4, h5, h6, w⟩ := x
  exact tk u s' ⟨a, B, sI, pins, σ, H, cls, d, e, I, h1, h2, h3, h4, h5, h6, w I.len⟩
section
variable {X : Cx} {SE BT BX TM : Addr}
theorem scHeard : FnScope ["ask", "caught", "error"] ["ask"] (defScope sHeard) := ⟨rfl, rfl, rfl, by decide +kernel, rfl, by decide +kernel, by decide +kernel⟩
theorem heard_gives {g : Addr} {cdg : Value} {q : Str} (T : TH X.K X.mg SE BT BX TM) : LamX.GivesTo X ["ask", "caught", "error"] "_law_heard" (defScope sHeard) g cdg (defBody sHeard) "ask" q (TTheard BT BX TM) := by
  intro f c' s H Q tl act hc h
  refine ⟨_, pss_cons (X := (cxOf C8.CX0 X.prog X.w X.K X.mg X.base ["ask", "caught", "error"] "_law_heard" (defScope sHeard) g cdg X.A X.stack s H C8.E0).nox) (ps_set (i := 1) scHeard.nd rfl (Or.inl rfl) pe_non)
    (pss_try_keep (i := 2) (c := .ref SE) (tb := fun W D σ H => ∃ E0 : XK, (∀ cls d (σ' : L2.St) H', σ'.length = 3 → E0 cls d H' → W cls d σ' H') ∧ σ[0]? = some (some (.ref f)) ∧ H c' = some (LamX.CodeO c' q) ∧ tl E0 H (fun _ H' => D.nx σ H'))
      rfl rfl scHeard.nd rfl rfl ⟨rfl, by decide, .inl T.se⟩ (fun W pn xe tk _ => ?_) (fun a oe cls d pn _ _ => pss_one (ps_set (i := 1) scHeard.nd rfl (Or.inl rfl) (pv 2)))
      (pss_cons (ps_if (PW.pt (pw_and (pt_val (pe_callB call_isi (by rfl) T.isi (by decide +kernel) (pa_cons (pv 1) (pa_cons (pe_glob (v := .ref BT) rfl T.bt rfl) pa_nil))))
            (pw_and1 (pt_not (pt_val (pe_callB call_isiT (by rfl) T.isi (by decide +kernel) (pa_cons (pv 1) (pa_cons (pe_tup (pa_cons (pe_glob (v := .ref BX) rfl T.bx rfl) (pa_cons (pe_glob (v := .ref TM) rfl T.tm rfl) pa_nil))) pa_nil))))))))
          (pss_one (ps_ret (pe_tup (pa_cons pe_str (pa_cons (pe_fldK X.K (pv 1)) pa_nil))))) pss_nil)
      (pss_cons (ps_if (PW.pt (pw_and (pt_val (pe_callB call_isi (by rfl) T.isi (by decide +kernel) (pa_cons (pv 1) (pa_cons (pe_glob (v := .ref BX) rfl T.bx rfl) pa_nil))))
            (pw_and1 (pt_not (pt_val (pe_callB call_isiT (by rfl) T.isi (by decide +kernel) (pa_cons (pv 1) (pa_cons (pe_tup (pa_cons (pe_glob (v := .ref BT) rfl T.bt rfl) (pa_cons (pe_glob (v := .ref TM) rfl T.tm rfl) pa_nil))) pa_nil))))))))
          (pss_one (ps_ret (pe_tup (pa_cons pe_str (pa_cons (pe_fldK X.K (pv 1)) (pa_cons (pe_fldK X.K (pv 1)) pa_nil)))))) pss_nil)
      (pss_cons (ps_if (PW.pt (pw_and (pt_val (pe_callB call_isi (by rfl) T.isi (by decide +kernel) (pa_cons (pv 1) (pa_cons (pe_glob (v := .ref TM) rfl T.tm rfl) pa_nil))))
            (pw_and1 (pt_not (pt_val (pe_callB call_isiT (by rfl) T.isi (by decide +kernel) (pa_cons (pv 1) (pa_cons (pe_tup (pa_cons (pe_glob (v := .ref BT) rfl T.bt rfl) (pa_cons (pe_glob (v := .ref BX) rfl T.bx rfl) pa_nil))) pa_nil))))))))
          (pss_one (ps_ret (pe_tup (pa_cons pe_str (pa_cons (pe_fldK X.K (pv 1)) (pa_cons (pe_fldK X.K (pv 1)) pa_nil)))))) pss_nil)
      (pss_one (ps_ret (pe_ifExp (pt_cmpR op_isN (pv 1) pe_non (nomark _)) pe_non (pe_tup (pa_cons pe_str pa_nil))))))))
      (fun a oe cls d pn hz hf => pss_cons (ps_if (PW.pt (pw_and (pt_val (pe_callB (call_exI hz hf) (by rfl) T.isi (by decide +kernel) (pa_cons (pv 1) (pa_cons (pe_glob (v := .ref BT) rfl T.bt rfl) pa_nil))))
            (pw_and1 (pt_not (pt_val (pe_callB (call_exIT hz hf) (by rfl) T.isi (by decide +kernel) (pa_cons (pv 1) (pa_cons (pe_tup (pa_cons (pe_glob (v := .ref BX) rfl T.bx rfl) (pa_cons (pe_glob (v := .ref TM) rfl T.tm rfl) pa_nil))) pa_nil))))))))
          (pss_one (ps_ret (pe_tup (pa_cons pe_str (pa_cons (pe_exF hz hf (pv 1)) pa_nil))))) pss_nil)
      (pss_cons (ps_if (PW.pt (pw_and (pt_val (pe_callB (call_exI hz hf) (by rfl) T.isi (by decide +kernel) (pa_cons (pv 1) (pa_cons (pe_glob (v := .ref BX) rfl T.bx rfl) pa_nil))))
            (pw_and1 (pt_not (pt_val (pe_callB (call_exIT hz hf) (by rfl) T.isi (by decide +kernel) (pa_cons (pv 1) (pa_cons (pe_tup (pa_cons (pe_glob (v := .ref BT) rfl T.bt rfl) (pa_cons (pe_glob (v := .ref TM) rfl T.tm rfl) pa_nil))) pa_nil))))))))
          (pss_one (ps_ret (pe_tup (pa_cons pe_str (pa_cons (pe_exF hz hf (pv 1)) (pa_cons (pe_exF hz hf (pv 1)) pa_nil)))))) pss_nil)
      (pss_cons (ps_if (PW.pt (pw_and (pt_val (pe_callB (call_exI hz hf) (by rfl) T.isi (by decide +kernel) (pa_cons (pv 1) (pa_cons (pe_glob (v := .ref TM) rfl T.tm rfl) pa_nil))))
            (pw_and1 (pt_not (pt_val (pe_callB (call_exIT hz hf) (by rfl) T.isi (by decide +kernel) (pa_cons (pv 1) (pa_cons (pe_tup (pa_cons (pe_glob (v := .ref BT) rfl T.bt rfl) (pa_cons (pe_glob (v := .ref BX) rfl T.bx rfl) pa_nil))) pa_nil))))))))
          (pss_one (ps_ret (pe_tup (pa_cons pe_str (pa_cons (pe_exF hz hf (pv 1)) (pa_cons (pe_exF hz hf (pv 1)) pa_nil)))))) pss_nil)
      (pss_one (ps_ret (pe_ifExp (pt_cmpR op_isN (pv 1) pe_non (nomark _)) pe_non (pe_tup (pa_cons pe_str pa_nil))))))))), ?_⟩
  · refine ⟨fun pins s' σ H' D I h' => ?_⟩
    obtain ⟨E1, hW, h1, h2, h3⟩ := h'
    exact (pss_one (ps_expr (act (fun cls d σ H => σ.length = 3 → W cls d σ H) pn xe E1 _ _ (takes_len tk) fun cls d σ' H' e l => hW cls d σ' H' l e))).run pins s' σ H' D I ⟨h1, h2, h3⟩
  · refine ⟨Ech BT BX TM Q, fun cls d σ' H' hl he => ?_, rfl, hc, h _ fun v H' hq => ?_⟩
    · obtain ⟨o0, o1, o2, rfl⟩ : ∃ o0 o1 o2, σ' = [o0, o1, o2] := by
        match σ', hl with
        | [o0, o1, o2], _ => exact ⟨_, _, _, rfl⟩
      obtain ⟨dd, rfl, he⟩ := he
      rcases he with ⟨v, rfl, hd, k⟩ | ⟨l, wd, rfl, hd, k⟩ | ⟨m, wt, rfl, hd, k⟩
      · refine ⟨T.xT, fun a ha => ⟨_, rfl, ?_⟩⟩
        refine ⟨_, rfl, BT, dd, _, _, _, true, rfl, rfl, T.eT, hd, rfl, .own BT, T.tt, true, rfl, iteT ?_⟩
        refine ⟨_, rfl, (by show 2 ≤ sizeLine; decide), fun t ht => ⟨BT, dd, _, t, _, _, false, rfl, rfl, T.eT, by rw [upd_ne (ne_of_none hd ht)]; exact hd, rfl, upd_same, .cons (.own BX) (.cons (.own TM) .nil), kit2 T.tx T.tq, false, rfl, iteT ?_⟩⟩
        have hd2 := (show (upd H' t (.tup [.ref BX, .ref TM])) dd = some (.xd [("part", v)]) by rw [upd_ne (ne_of_none hd ht)]; exact hd)
        refine ⟨_, rfl, BT, dd, _, v, rfl, rfl, rfl, T.eT, T.fp, hd2, lk1, (by show 2 ≤ sizeLine; decide), fun p hp => ?_⟩
        exact k p _ (fun I hI => (Go.tmp hI ht).trans (Go.tmp (Go.tmp (S := NoS) hI ht).sub hp)) upd_same
      · refine ⟨T.xX, fun a ha => ⟨_, rfl, ?_⟩⟩
        refine ⟨_, rfl, BX, dd, _, _, _, false, rfl, rfl, T.eX, hd, rfl, .own BT, T.xt, false, rfl, iteF ?_⟩
        refine ⟨_, rfl, BX, dd, _, _, _, true, rfl, rfl, T.eX, hd, rfl, .own BX, T.xx, true, rfl, iteT ?_⟩
        refine ⟨_, rfl, (by show 2 ≤ sizeLine; decide), fun t ht => ⟨BX, dd, _, t, _, _, false, rfl, rfl, T.eX, by rw [upd_ne (ne_of_none hd ht)]; exact hd, rfl, upd_same, .cons (.own BT) (.cons (.own TM) .nil), kit2 T.xt T.xq, false, rfl, iteT ?_⟩⟩
        have hd2 := (show (upd H' t (.tup [.ref BT, .ref TM])) dd = some (.xd [("word", wd), ("line", l)]) by rw [upd_ne (ne_of_none hd ht)]; exact hd)
        refine ⟨_, rfl, BX, dd, _, l, rfl, rfl, rfl, T.eX, T.fl, hd2, lk2b (by decide +kernel), _, rfl, BX, dd, _, wd, rfl, rfl, rfl, T.eX, T.fw, hd2, lk2a, (by show 3 ≤ sizeLine; decide), fun p hp => ?_⟩
        exact k p _ (fun I hI => (Go.tmp hI ht).trans (Go.tmp (Go.tmp (S := NoS) hI ht).sub hp)) upd_same
      · refine ⟨T.xM, fun a ha => ⟨_, rfl, ?_⟩⟩
        refine ⟨_, rfl, TM, dd, _, _, _, false, rfl, rfl, T.eM, hd, rfl, .own BT, T.qt, false, rfl, iteF ?_⟩
        refine ⟨_, rfl, TM, dd, _, _, _, false, rfl, rfl, T.eM, hd, rfl, .own BX, T.qx, false, rfl, iteF ?_⟩
        refine ⟨_, rfl, TM, dd, _, _, _, true, rfl, rfl, T.eM, hd, rfl, .own TM, T.qq, true, rfl, iteT ?_⟩
        refine ⟨_, rfl, (by show 2 ≤ sizeLine; decide), fun t ht => ⟨TM, dd, _, t, _, _, false, rfl, rfl, T.eM, by rw [upd_ne (ne_of_none hd ht)]; exact hd, rfl, upd_same, .cons (.own BT) (.cons (.own BX) .nil), kit2 T.qt T.qx, false, rfl, iteT ?_⟩⟩
        have hd2 := (show (upd H' t (.tup [.ref BT, .ref BX])) dd = some (.xd [("most", m), ("what", wt)]) by rw [upd_ne (ne_of_none hd ht)]; exact hd)
        refine ⟨_, rfl, TM, dd, _, wt, rfl, rfl, rfl, T.eM, T.fh, hd2, lk2b (by decide +kernel), _, rfl, TM, dd, _, m, rfl, rfl, rfl, T.eM, T.fm, hd2, lk2a, (by show 3 ≤ sizeLine; decide), fun p hp => ?_⟩
        exact k p _ (fun I hI => (Go.tmp hI ht).trans (Go.tmp (Go.tmp (S := NoS) hI ht).sub hp)) upd_same
    · refine ⟨_, rfl, _, _, _, _, false, rfl, .own BT, .base .non, T.nT, false, rfl, iteF ?_⟩
      refine ⟨_, rfl, _, _, _, _, false, rfl, .own BX, .base .non, T.nX, false, rfl, iteF ?_⟩
      refine ⟨_, rfl, _, _, _, _, false, rfl, .own TM, .base .non, T.nM, false, rfl, iteF ?_⟩
      exact ⟨_, rfl, rfl, _, rfl, iteT hq⟩
end
end Tm
/-! a lambda that is made, and what stays then: all but the one table -/
namespace Tm
open PySem PySem.Spec PyProof.Rows L2
open LamX
/-- all stays but what lies at P -/
def ButP (P : Addr) (H H1 : Hp) : Prop := ∀ b o, b ≠ P → H b = some o → H1 b = some o
section
variable {X : Cx} {pins : List (Addr × Obj)} {σ : L2.St} {H : Hp} {s : Shared}
theorem lam_mk {T : List (Addr × Str)} {c P : Addr} {params : Arguments} {body : Expr} {scope : Scope} {pos : Pos} {E : Value → Shared → Prop} {Q : Value → Shared → Prop} (I : Inv X pins σ H s) (TB : TabB X.base X.mg c P) (hcode : X.env.code = .ref c)
    (hm : (P, X.env.qual ++ "<lambda>") ∈ T) (hu : ∀ p ∈ T, p.1 = P → p.2 = X.env.qual ++ "<lambda>") (hT : Tabs T H) (hdef : defaultsOf params X.env = ([], [])) (hfree : ∀ y ∈ scope.names, y.2 = .free → ∃ c, X.env.cells.lookup y.1 = some c)
    (h : ∀ (f c' : Addr) (pm ctv : Value) (H1 : Hp) (s' : Shared), Inv X pins σ H1 s' → ButP P H H1 → Tabs T H1 →
      s'.heap.get? f = some (PySem.W.kla_obj "<lambda>" (X.env.qual ++ "<lambda>") params body scope (cloFrom X.env.cells scope.names []) pm c' ctv) → H1 f = none → f ∉ frs X.stack → H1 c' = some (CodeO c' (X.env.qual ++ "<lambda>")) → s.heap.objs.size ≤ f → Q (.ref f) s') :
    wpAny (model X.prog X.w) X.A (eval (.Lambda params body scope pos) X.env) Q E s := by
  obtain ⟨ps, hP, ht, ha⟩ := hT _ hm
  have bP : s.heap.BuiltinsAt X.mg P := TB.bm.keeps I.bk
  have hP' : s.heap.get? P = some { cls := .none, data := .fields ps } := I.hok P _ hP
  have nofr : ∀ f, s.heap.objs.size ≤ f → f ∉ frs X.stack := fun f hf z => by
    rcases List.mem_cons.mp (I.stkSub _ z) with e | e
    · have h1 := I.lt
      rw [← e] at h1
      exact absurd (Nat.lt_of_lt_of_le h1 hf) (Nat.lt_irrefl _)
    · exact I.nofs hf e
  refine PySem.W.kla_eval hdef ?_
  cases hc : codeAmong pos ps.toList with
  | some cv =>
    obtain ⟨c', rfl, hco⟩ := ha pos cv hc
    exact PySem.W.kla_makeFunctionHit (mg := X.mg) (c := c) (P := P) (ps := ps) (closure_ok hfree) I.ok.glob (I.mod.glob.keeps I.bk) hcode (TB.code.keeps I.bk) hP' ht hc bP fun ctv h' tk hx hsz =>
      h h'.objs.size c' ((X.mg "__name__").getD .none) ctv H _ (I.kept fun b o e => Heap.get?_push_of_some _ (hx b o e)) (fun _ _ _ e => e) hT (Heap.get?_push_size _ rfl) (I.hok.fresh hsz) (nofr _ hsz) hco hsz
  | none =>
    refine PySem.W.kla_makeFunction (mg := X.mg) (c := c) (P := P) (ps := ps) (closure_ok hfree) I.ok.glob (I.mod.glob.keeps I.bk) hcode (TB.code.keeps I.bk) hP' ht hc TB.gP bP fun c' ctv h' tk hx hge hlt hrec htb => ?_
    obtain ⟨c2, oc, vs, t, e2, hoc, hd, hv⟩ := hrec
    cases e2
    have hsz : s.heap.objs.size ≤ h'.objs.size := Nat.le_trans hge (Nat.le_of_lt hlt)
    have nC : H c' = none := I.hok.fresh hge
    have I1 := inv_table (t' := tk) (more := #[rawInt pos.line, rawInt pos.col, .ref c']) (h' := h'.push (PySem.W.kla_obj "<lambda>" (X.env.qual ++ "<lambda>") params body scope (cloFrom X.env.cells scope.names []) ((X.mg "__name__").getD .none) c' ctv)) I hP
      (fun b o hb e => Heap.get?_push_of_some _ (hx b o hb e)) (Heap.get?_push_of_some _ htb) hge ⟨oc, vs, t, Heap.get?_push_of_some _ hoc, hd, hv⟩
    have hE : ButP P H (upd (upd H P (.tbl (ps ++ #[rawInt pos.line, rawInt pos.col, .ref c']))) c' (CodeO c' (X.env.qual ++ "<lambda>"))) := fun b o n e => by rw [upd_ne (ne_of_none e nC), upd_ne n]; exact e
    have eL : (ps ++ #[rawInt pos.line, rawInt pos.col, .ref c']).toList = ps.toList ++ [rawInt pos.line, rawInt pos.col, .ref c'] := by simp
    have cP : ∀ {d : Addr} {qq : Str}, H d = some (CodeO d qq) → d ≠ P := fun e z => by
      rw [z, hP] at e
      exact codeO_ne ps (Option.some.inj e).symm
    refine h h'.objs.size c' ((X.mg "__name__").getD .none) ctv _ _ I1 hE (fun p hp => ?_) (Heap.get?_push_size _ rfl) ?_ (nofr _ hsz) upd_same hsz
    · by_cases hb : p.1 = P
      · rw [hu p hp hb, hb]
        refine ⟨_, by rw [upd_ne (ne_of_none hP nC), upd_same], by rw [eL]; exact PySem.TriplesOk_snoc _ _ _ _ ht, fun p' cv hcv => ?_⟩
        rw [eL] at hcv
        rcases among_app _ ht hcv with z | z
        · obtain ⟨c0, e1, e2⟩ := ha p' cv z
          exact ⟨c0, e1, hE _ _ (cP e2) e2⟩
        · exact ⟨c', z, upd_same⟩
      · obtain ⟨ps', a1, a2, a3⟩ := hT p hp
        refine ⟨ps', by rw [upd_ne (ne_of_none a1 nC), upd_ne hb]; exact a1, a2, fun p' cv hcv => ?_⟩
        obtain ⟨c0, e1, e2⟩ := a3 p' cv hcv
        exact ⟨c0, e1, hE _ _ (cP e2) e2⟩
    · rw [upd_ne (Nat.ne_of_gt hlt), upd_ne (Nat.ne_of_gt (Nat.lt_of_lt_of_le (Heap.lt_size hP') hsz))]
      exact I.hok.fresh hsz
end
/-- _law_heard, as it is called -/
structure HdOk (K : PySem.W.Frag) (mg : Str → Option Value) (SE BT BX TM : Addr) : Prop where
  T : TH K mg SE BT BX TM
  ex : ∃ (g : Addr) (fd : FuncData), Fun K "_law_heard" "_law_heard" sHeard g fd ∧ mg "_law_heard" = some (.ref g) ∧ Binds K fd ["ask"] []
/-- what the reading of _law_heard(lambda: ..) asks -/
def tHeard (T : List (Addr × Str)) (P : Addr) (BT BX TM : Addr) (t : XK → TE) : TE := fun σ H Q => Tabs T H ∧ ∀ H1, ButP P H H1 → Tabs T H1 → TTheard BT BX TM (fun E H' Q' => t E σ H' Q') H1 Q
section
variable {X : Cx} {SE BT BX TM : Addr}
theorem pe_heard {T : List (Addr × Str)} {c P : Addr} {j k : Nat} {params : Arguments} {body : Expr} {scope : Scope} {t : XK → TE} {p lpos pos : Pos} (hd : HdOk X.K X.mg SE BT BX TM) (hg : Gl X "_law_heard") (TB : TabB X.base X.mg c P) (hcode : X.env.code = .ref c)
    (hmT : (P, X.env.qual ++ "<lambda>") ∈ T) (hu : ∀ p ∈ T, p.1 = P → p.2 = X.env.qual ++ "<lambda>") (hr0 : Room j X.A) (hj : k + 2 ≤ j) (L : LamS X.env.scope scope) (hdef : defaultsOf params X.env = ([], []))
    (hbind : ∀ (q : Str) (cl : List (Str × Addr)) (pm cv ctv : Value), bindArgs (PySem.W.kla_fn "<lambda>" q params body scope cl pm cv ctv) ⟨[], []⟩ = pure [])
    (hbody : ∀ (A : Around) (outer : List Env) (s : Shared) (H : Hp) (E : XK) (f c' : Addr), Room k (A.deeper (lamEnv X scope s.heap.objs.size f c')) → PE (lamCx X A outer s H E scope f c') body (t E)) :
    PE X (.Call (.Name "_law_heard" p) [.Lambda params body scope lpos] [] pos) (tHeard T P BT BX TM t) := by
  obtain ⟨g, fd, F, hm, hb⟩ := hd.ex
  obtain ⟨oc, od, kV, doc, pm, an, cdv, ct, osl, rfl, lk, hcg⟩ := F.ex
  have hr := hr0.mono hj
  refine ⟨fun pins s σ H Q I h => ?_⟩
  obtain ⟨hT, h⟩ := h
  refine wpAny_Call_Name_kw (ld_glob I hg hm ?_ (by decide))
  refine PySem.W.callWith_K (h₀ := X.base) I.ok.mod.kin F.kp ?_ (by rfl) (by rfl)
  show wpAny _ _ (spliced ((false, eval (.Lambda params body scope lpos) X.env) :: backTo pos (starEach [] X.env))) _ _ s
  refine Calls.spliced_cons (lam_mk I TB hcode hmT hu hT hdef (L.has I.ok) fun f c' pm' ctv H1 s' I1 eN T1 hf hfn hfr hco _ => ?_)
  refine Calls.spliced_nil ⟨I1.kIn, ?_⟩
  have rc : codeAny (model X.prog X.w) X.A (.call (.ref g) ⟨[.ref f], []⟩) (CR C8.CX0 X.stack X.prog X.w H1 s' Q C8.E0) s' := by
    refine run_ofS (N := ["ask", "caught", "error"]) (ps := ["ask"]) (us := [.ref f]) (vs := [.ref f]) lk hcg scHeard hr I1.env0 (hb s' [.ref f] I1.kIn rfl) (.cons rfl .nil) rfl fun hr' => ?_
    obtain ⟨t', ht', hq'⟩ := heard_gives hd.T f c' s' H1 Q (fun E H' Q' => t E σ H' Q')
      (fun W pn xe E p1 p2 tk hW => pe_act (i := 0) I1 L hf hfn hfr (hbind _ _ _ _ _) tk hW hr' (fun A outer s H hr2 => hbody A outer s H E f c' hr2) rfl (.inl rfl)) hco (h H1 eN T1)
    exact ⟨t', ht'.nox, hq'⟩
  refine wpAny_call (codeAny_mono rc fun r s2 hq => ?_)
  cases r with
  | error e => exact (show False from hq).elim
  | ok fl =>
    cases fl with
    | ret u => exact I1.after hq
    | next => exact hq.elim
    | brk => exact hq.elim
    | cont => exact hq.elim
end
end Tm
/-! the law's _law_is_read -/
namespace Tm
open PySem PySem.Spec PyProof.Rows L2
open LamX (Tabs TabB LamS lamS_by)
abbrev sIsRead : Stmt := top 38
theorem Go.butP {P : Addr} {I H H1 : Hp} (hI : Same I H) (hP : I P = none) (e : ButP P H H1) (h1 : ∃ o, H1 P = some o) : Go (At1 P) I H I H1 := by
  refine ⟨Same.refl _, fun b o h => e b o (ne_of_none h hP) (hI _ _ h), fun _ _ _ n => n, fun b o n h => e b o n h, fun b o h => ?_⟩
  by_cases hb : b = P
  · rw [hb]; exact h1
  · exact ⟨o, e b o hb h⟩
/-- words as a text -/
structure Wd (ws : List Str) : Prop where
  sm : Sm ws
  ne : ws ≠ []
  bl : ∀ y ∈ ws, 32 ∉ y.cps.toList
  few : ws.length ≤ 200
theorem Wd.tx {ws : List Str} (h : Wd ws) : Tx (Txt.join " " ws) ws := by
  refine ⟨rfl, h.ne, h.bl, fun y hy => Nat.le_trans (h.sm.ln y hy) (by decide), Nat.le_trans h.few (by decide), ?_⟩
  have := join_le h.sm.ln
  have := h.few
  exact Nat.le_trans (by omega : _ ≤ 20202) (by decide)
def spIsRead (T : List (Addr × Str)) (P : Addr) : Sp := fun vs H Q _ => ∃ (a : Addr) (ws : List Str) (I : Hp), vs = [.ref a] ∧ Same I H ∧ I a = some (.lst (ws.map V.str)) ∧ Wd ws ∧ Tabs T H ∧ I P = none ∧ ∀ (I' H' : Hp), Go (At1 P) I H I' H' → Tabs T H' → Q (.bl true) H'
/-- tables of code objects, each named by its def -/
def qLam (x : Str) : Str := (envOfC x ⟨.function, [], false, false, []⟩ 0 0 .none).qual ++ "<lambda>"
theorem ifd {α : Type} [DecidableEq α] {x y : α} {A B : Prop} (e : x = y) (h : A) : if decide (x = y) = true then A else B := by
  rw [decide_eq_true e]
  exact h
theorem dec_self {α : Type} [DecidableEq α] {x y : α} (e : x = y) : decide (x = y) = true := decide_eq_true e
theorem sh3 {a b c : PyData} (ha : a.canLay0 = true ∧ a.depth = 0) (hb : b.canLay0 = true ∧ b.depth = 0) (hc : c.canLay0 = true ∧ c.depth = 0) : SeqAt.shaped (.tuple [a, b, c]) = true := shaped_tup fun d hd => by
  rcases List.mem_cons.mp hd with rfl | hd
  · exact ha
  · rcases List.mem_cons.mp hd with rfl | hd
    · exact hb
    · rw [List.mem_singleton.mp hd]; exact hc
theorem sh2 {a b : PyData} (ha : a.canLay0 = true ∧ a.depth = 0) (hb : b.canLay0 = true ∧ b.depth = 0) : SeqAt.shaped (.tuple [a, b]) = true := shaped_tup fun d hd => by
  rcases List.mem_cons.mp hd with rfl | hd
  · exact ha
  · rw [List.mem_singleton.mp hd]; exact hb
theorem eqv3i (s : Str) (i j : Int) : PyData.eqv (.tuple [.str s, .int i, .int j]) (.tuple [.str s, .int i, .int j]) = true := by
  show ((s == s) && ((i == i) && ((j == j) && true))) = true
  simp
theorem eqv3s (s z : Str) (j : Int) : PyData.eqv (.tuple [.str s, .str z, .int j]) (.tuple [.str s, .str z, .int j]) = true := by
  show ((s == s) && ((z == z) && ((j == j) && true))) = true
  simp
theorem eqv2s (s z : Str) : PyData.eqv (.tuple [.str s, .str z]) (.tuple [.str s, .str z]) = true := by
  show ((s == s) && ((z == z) && true)) = true
  simp
section
variable {P : Program} {w : World} {K : PySem.W.Frag} {mg : Str → Option Value} {base : Heap} {C SE BT BX TM : Addr}
theorem scIsRead : FnScope ["words", "fault", "made", "text"] ["words"] (defScope sIsRead) := ⟨rfl, rfl, rfl, by decide +kernel, rfl, by decide +kernel, by decide +kernel⟩
theorem ok_isRead {T : List (Addr × Str)} {Pt c f : Addr} {fd : FuncData} (F : FunL K "_law_is_read" sIsRead f fd c) (TB : TabB base mg c Pt) (hmT : (Pt, qLam "_law_is_read") ∈ T) (hu : ∀ p ∈ T, p.1 = Pt → p.2 = qLam "_law_is_read") (TT : TC K mg C) (G : TFi mg) (hre : mg "repr" = none) (S : StrOk P w K mg base C)
    (M : FrOk P w K mg base C BX TM) (hd : HdOk K mg SE BT BX TM) (cF : C8.Cal P w K mg base 2 "_law_fault" spLFault []) : FnG P w K mg base CX0 9 f fd ["words"] (spIsRead T Pt) := by
  refine F.okG scIsRead (fun vs H Q E h => ?_) (fun A outer s H vs Q E ng hr h => ?_)
  · obtain ⟨a, ws, I, rfl, _⟩ := h
    rfl
  · obtain ⟨a, ws, I, rfl, hI, ia, hw, hT, iP, k⟩ := h
    have hun : (A.deeper (envOfC "_law_is_read" (defScope sIsRead) s.heap.objs.size f (.ref c))).units + 70 < cLine := by have := hr.un; omega
    refine ⟨_, pss_cons (ps_asg (pe_tup (pa_cons (pe_join pe_str (pv 0)) (pa_cons (C8.pe_c cF hr (by decide) rfl (pa_cons (pv 0) pa_nil)) pa_nil))) (pg_tup rfl (pgs_cons (pg_name (i := 3) scIsRead.nd rfl (Or.inr rfl)) (pgs_cons (pg_name (i := 1) scIsRead.nd rfl (Or.inl rfl)) pgs_nil))))
      (pss_cons (ps_if (pt_cmpR op_notN (pv 1) pe_non (nomark _)) (pss_one (ps_ret (pe_cmpR (op_eqD hr.units) (pe_heard (T := T) (P := Pt) (k := 6) (t := fun E => ClX.tCMeth C (spFrom C BX TM) E (tC (.ref C)) (tCons (tVar 3) tNil)) hd rfl TB rfl hmT hu hr (by decide) (lamS_by (sc := defScope sIsRead) (by decide +kernel)) rfl (fun _ _ _ _ _ => rfl)
          (fun A outer s H E f c' hr2 => pe_from M hr2 (by decide) (passes_call (takes_of rfl rfl rfl rfl) (fun _ _ _ _ h => h)) (pe_glob (v := .ref C) rfl TT.mgC rfl) (pv 3)))
          (pe_tup (pa_cons pe_str (pa_cons pe_int (pa_cons (pv 1) pa_nil)))) (nomark _)))) pss_nil)
      (pss_cons (ps_if (pt_cmpR op_gt (pe_callB call_len (by rfl) TT.len PySem.boot_len (pa_cons (pv 0) pa_nil)) pe_int (nomark _)) (pss_one (ps_ret (pe_cmpR (op_eqD hr.units) (pe_heard (T := T) (P := Pt) (k := 6) (t := fun E => ClX.tCMeth C (spFrom C BX TM) E (tC (.ref C)) (tCons (tVar 3) tNil)) hd rfl TB rfl hmT hu hr (by decide) (lamS_by (sc := defScope sIsRead) (by decide +kernel)) rfl (fun _ _ _ _ _ => rfl)
          (fun A outer s H E f c' hr2 => pe_from M hr2 (by decide) (passes_call (takes_of rfl rfl rfl rfl) (fun _ _ _ _ h => h)) (pe_glob (v := .ref C) rfl TT.mgC rfl) (pv 3)))
          (pe_tup (pa_cons pe_str (pa_cons pe_str (pa_cons pe_int pa_nil)))) (nomark _)))) pss_nil)
      (pss_cons (ps_set (i := 2) scIsRead.nd rfl (Or.inl rfl) (pe_fromK M hr (by decide) passL (pe_glob (v := .ref C) rfl TT.mgC rfl) (pv 3)))
      (pss_one (ps_ret (pe_and (pe_callB call_isi (by rfl) TT.isi (by decide +kernel) (pa_cons (pv 2) (pa_cons (pe_glob (v := .ref C) rfl TT.mgC rfl) pa_nil)))
        (pe_and (pe_cmpR op_eq (pe_strT S hr (by decide) (by rfl) TT.str (pv 2)) (pv 3) (nomark _))
        (pe_one (pe_cmpR op_eq (pe_callB (call_repr ng hun) (by rfl) hre (by decide +kernel) (pa_cons (pe_fldK K (pv 2)) pa_nil)) (pe_callB (call_repr ng hun) (by rfl) hre (by decide +kernel) (pa_cons (pe_callTy call_tuple_of (by rfl) G.tuple (by decide +kernel) (pa_cons (pv 0) pa_nil)) pa_nil)) (nomark _)))))))))), ?_⟩
    have tx := hw.tx
    have hjl : (Txt.join " " ws).length ≤ 100000 := by
      have := join_le hw.sm.ln
      have := hw.few
      omega
    have hsum : (ws.map (·.length)).sum + ws.length ≤ 16777216 := by
      have := sum_le ws hw.sm.ln
      have := hw.few
      omega
    have hsum2 : (ws.map (·.length)).sum + ws.length * (" " : Str).length ≤ 16777216 := by rw [show (" " : Str).length = 1 from rfl, Nat.mul_one]; exact hsum
    refine ⟨⟨_, rfl⟩, _, rfl, " ", a, ws, rfl, rfl, .inl (sqK (hI _ _ ia)), hsum2, ?_⟩
    refine ⟨_, rfl, a, ws, I, rfl, hI, ia, fun z hz => ⟨Nat.le_trans (hw.sm.ln z hz) (by decide), hw.sm.ok z hz⟩, Nat.le_trans hw.few (by decide), fun H1 g1 => ?_⟩
    have heard : ∀ {H2 H3 : Hp}, Go NoS I H I H2 → ButP Pt H2 H3 → Tabs T H3 → Go (At1 Pt) I H I H3 := fun {H2 H3} g2 e3 hT3 => g2.any.trans (Go.butP g2.sub iP e3 (let ⟨ps, h, _⟩ := hT3 _ hmT; ⟨_, h⟩))
    have fin : ∀ {I3 H3 I4 H4 H5 H6 : Hp}, Go (At1 Pt) I H I3 H3 → Tabs T H3 → Go NoS I3 H3 I4 H4 → (∀ I, Same I H4 → Go NoS I H4 I H5) → (∀ t o, H5 t = none → H6 = upd H5 t o → Q (.bl true) H6) := fun {I3 H3 I4 H4 H5 H6} g3 hT3 g4 g5 t o ht e => by
      have a5 := g5 _ g4.sub
      have a6 := Go.tmp (S := NoS) (o := o) a5.sub ht
      rw [e]
      exact k _ _ (((g3.trans g4.any).trans a5.any).trans a6.any) ((((hT3.ext g4.same_all)).ext a5.same_all).ext a6.same_all)
    cases hf : fault ws with
    | some n =>
      refine ⟨(by show 2 ≤ sizeLine; decide), fun p hp => ⟨p, _, rfl, stK upd_same, rfl, _, _, rfl, _, _, rfl, rfl, ?_⟩⟩
      have g2 : Go NoS I H I (upd H1 p (.tup [.str (Txt.join " " ws), optV (some n)])) := g1.trans (Go.tmp g1.sub hp)
      refine ⟨_, rfl, rfl, _, rfl, iteT ?_⟩
      refine ⟨hT.ext g2.same_all, fun H3 e3 hT3 Qn hQn => ?_⟩
      have g3 := heard g2 e3 hT3
      refine ⟨rfl, _, rfl, _, rfl, _, false, I, rfl, g3.sub, .str _ hjl, (fun z => nomatch z), fun z hz => ?_⟩
      cases hz
      refine ⟨ws, tx, fun n' hn' => ?_, (fun h => by rw [hf] at h; cases h), (fun h => by rw [hf] at h; cases h)⟩
      rw [hf] at hn'
      cases hn'
      intro d I4 H4 g4 hId hHd
      refine ⟨d, rfl, .inr (.inl ⟨.int 0, .int n, rfl, hHd, fun p2 H5 g5 h5 => ?_⟩)⟩
      refine ⟨_, rfl, (by show 3 ≤ sizeLine; decide), fun t ht => ?_⟩
      have n5 := ne_of_none h5 ht
      refine ⟨.tuple [.str "BadText", .int 0, .int n], .tuple [.str "BadText", .int 0, .int n], .tup (stK (by rw [upd_ne n5]; exact h5)) (.cons (.str _) (.cons (.int _) (.cons (.int _) .nil))), .tup (stK upd_same) (.cons (.str _) (.cons (.int _) (.cons (.int _) .nil))), sh3 ⟨by decide +kernel, rfl⟩ ⟨rfl, rfl⟩ ⟨rfl, rfl⟩, sh3 ⟨by decide +kernel, rfl⟩ ⟨rfl, rfl⟩ ⟨rfl, rfl⟩, ?_⟩
      rw [eqv3i]
      exact fin g3 hT3 g4 g5 t _ ht rfl
    | none =>
      refine ⟨(by show 2 ≤ sizeLine; decide), fun p hp => ⟨p, _, rfl, stK upd_same, rfl, _, _, rfl, _, _, rfl, rfl, ?_⟩⟩
      have g2 : Go NoS I H I (upd H1 p (.tup [.str (Txt.join " " ws), optV none])) := g1.trans (Go.tmp g1.sub hp)
      refine ⟨_, rfl, rfl, _, rfl, iteF ?_⟩
      refine ⟨_, rfl, _, ws.length, rfl, .inl ⟨_, sqK (g2.sub _ _ ia), by rw [List.length_map]⟩, _, _, rfl, rfl, _, rfl, ite2 (fun h1 => ?_) (fun h1 => ?_)⟩
      · have h40 : 40 < ws.length := by have := of_decide_eq_true h1; omega
        refine ⟨hT.ext g2.same_all, fun H3 e3 hT3 Qn hQn => ?_⟩
        have g3 := heard g2 e3 hT3
        refine ⟨rfl, _, rfl, _, rfl, _, false, I, rfl, g3.sub, .str _ hjl, (fun z => nomatch z), fun z hz => ?_⟩
        cases hz
        refine ⟨ws, tx, fun n' hn' => (by rw [hf] at hn'; cases hn'), fun _ _ => ?_, fun _ h => absurd h (by omega)⟩
        intro d I4 H4 g4 hId hHd
        refine ⟨d, rfl, .inr (.inr ⟨.int 40, .str "words", rfl, hHd, fun p2 H5 g5 h5 => ?_⟩)⟩
        refine ⟨(by show 3 ≤ sizeLine; decide), fun t ht => ?_⟩
        have n5 := ne_of_none h5 ht
        refine ⟨.tuple [.str "TooMany", .str "words", .int 40], .tuple [.str "TooMany", .str "words", .int 40], .tup (stK (by rw [upd_ne n5]; exact h5)) (.cons (.str _) (.cons (.str _) (.cons (.int _) .nil))), .tup (stK upd_same) (.cons (.str _) (.cons (.str _) (.cons (.int _) .nil))), sh3 ⟨by decide +kernel, rfl⟩ ⟨by decide +kernel, rfl⟩ ⟨rfl, rfl⟩, sh3 ⟨by decide +kernel, rfl⟩ ⟨by decide +kernel, rfl⟩ ⟨rfl, rfl⟩, ?_⟩
        rw [eqv3s]
        exact fin g3 hT3 g4 g5 t _ ht rfl
      · have h40 : ws.length ≤ 40 := by
          by_cases z : ws.length ≤ 40
          · exact z
          · exact absurd (decide_eq_true (show (40 : Int) < (ws.length : Int) by omega)) h1
        refine ⟨rfl, _, rfl, _, rfl, _, rfl, _, false, I, rfl, g2.sub, .str _ hjl, (fun z => nomatch z), fun z hz => ?_⟩
        cases hz
        refine ⟨ws, tx, fun n' hn' => (by rw [hf] at hn'; cases hn'), fun _ h => absurd h (by omega), fun _ _ p3 m I3 H3 hok hmw g3 t3 => ?_⟩
        have g4 := g2.trans g3
        obtain ⟨a0, dx, pa, wa, vs, e0, i1, i2, i3, hl, hk⟩ := tis_words (C := C) t3
        cases e0
        have h1 := g4.sub _ _ i1
        obtain ⟨t, ty, kt, _⟩ := kn_ty TT (.tmp h1)
        refine ⟨_, rfl, _, _, t, _, true, rfl, .own C, ty, kt, true, rfl, iteT ?_⟩
        refine ⟨_, rfl, _, rfl, .tmp h1, _, m, I3, rfl, g4.sub, t3, by rw [hmw]; exact hsum, _, rfl, _, rfl, rfl, _, rfl, ifd (by rw [hmw]) ?_⟩
        have lt := lay_tup hw.sm
        have hws : Dp K H3 (.ref wa) (.tuple (ws.map PyData.str)) := .tup (stK (by rw [← hmw]; exact g4.sub _ _ i3)) (dpStrs _)
        refine ⟨_, rfl, _, C, dx, _, _, rfl, h1, TT.cl, TT.nS, tF_words _ _ _, _, _, rfl, hws, lt, show_tup _, ints_tup _, _, rfl, a, _, rfl, .inl ⟨sqK (g4.sub _ _ (g4.ext _ _ ia)), fun l hl0 => ?_⟩⟩
        refine ⟨_, .tuple (ws.map PyData.str), rfl, .tup (stK upd_same) (dpStrs _), lt, show_tup _, ints_tup _, rfl, ?_⟩
        rw [dec_self rfl]
        have g5 := Go.tmp (S := NoS) (o := .tup (ws.map V.str)) g4.sub hl0
        exact k _ _ (g4.trans g5).any ((hT.ext g4.same_all).ext g5.same_all)
end
end Tm
/-! plain: sorted words -/
namespace Tm
open PySem PySem.Spec PyProof.Rows L2
theorem nl_tri : ∀ a b : List Nat, a < b ∨ a = b ∨ b < a
  | [], [] => .inr (.inl rfl)
  | [], _ :: _ => .inl (List.nil_lt_cons _ _)
  | _ :: _, [] => .inr (.inr (List.nil_lt_cons _ _))
  | x :: l, y :: r => by
    rcases Nat.lt_trichotomy x y with h | h | h
    · exact .inl (List.cons_lt_cons_iff.mpr (.inl h))
    · subst h
      rcases nl_tri l r with q | q | q
      · exact .inl (List.cons_lt_cons_iff.mpr (.inr ⟨rfl, q⟩))
      · exact .inr (.inl (by rw [q]))
      · exact .inr (.inr (List.cons_lt_cons_iff.mpr (.inr ⟨rfl, q⟩)))
    · exact .inr (.inr (List.cons_lt_cons_iff.mpr (.inl h)))
theorem nl_tr : ∀ a b c : List Nat, a < b → b < c → a < c
  | _, [], _, h, _ => absurd h (List.not_lt_nil _)
  | _, _ :: _, [], _, h => absurd h (List.not_lt_nil _)
  | [], _ :: _, _ :: _, _, _ => List.nil_lt_cons _ _
  | x :: l, y :: r, z :: t, h1, h2 => by
    rcases List.cons_lt_cons_iff.mp h1 with p1 | ⟨e1, p1⟩
    · rcases List.cons_lt_cons_iff.mp h2 with p2 | ⟨e2, p2⟩
      · exact List.cons_lt_cons_iff.mpr (.inl (Nat.lt_trans p1 p2))
      · exact List.cons_lt_cons_iff.mpr (.inl (by omega))
    · rcases List.cons_lt_cons_iff.mp h2 with p2 | ⟨e2, p2⟩
      · exact List.cons_lt_cons_iff.mpr (.inl (by omega))
      · exact List.cons_lt_cons_iff.mpr (.inr ⟨by omega, nl_tr l r t p1 p2⟩)
theorem nl_ir : ∀ a : List Nat, ¬ a < a
  | [] => List.not_lt_nil _
  | x :: l => fun h => by
    rcases List.cons_lt_cons_iff.mp h with h | ⟨_, h⟩
    · exact Nat.lt_irrefl _ h
    · exact nl_ir l h
def lS (a b : Str) : Prop := a.cps.toList < b.cps.toList
theorem lS_tri (a b : Str) : lS a b ∨ a = b ∨ lS b a := by
  rcases nl_tri a.cps.toList b.cps.toList with h | h | h
  · exact .inl h
  · exact .inr (.inl (TL.ext_tl h))
  · exact .inr (.inr h)
theorem lS_tr {a b c : Str} (h1 : lS a b) (h2 : lS b c) : lS a c := nl_tr _ _ _ h1 h2
theorem lS_ir {a : Str} : ¬ lS a a := nl_ir _
/-- not above -/
def leS (a b : Str) : Prop := ¬ lS b a
theorem leS_lt {a b c : Str} (h1 : leS a b) (h2 : lS b c) : lS a c := by
  rcases lS_tri a b with h | h | h
  · exact lS_tr h h2
  · rw [h]; exact h2
  · exact absurd h h1
theorem leS_tr {a b c : Str} (h1 : leS a b) (h2 : leS b c) : leS a c := fun h => h2 (by
  rcases lS_tri c b with q | q | q
  · exact q
  · subst q; exact absurd h h1
  · exact absurd (lS_tr q h) h1)
theorem leS_ne {a b : Str} (h1 : leS a b) (h2 : a ≠ b) : lS a b := by
  rcases lS_tri a b with h | h | h
  · exact h
  · exact absurd h h2
  · exact absurd h h1
theorem leS_anti {a b : Str} (h1 : leS a b) (h2 : leS b a) : a = b := by
  by_cases h : a = b
  · exact h
  · exact absurd (leS_ne h1 h) h2
theorem rising_pair : ∀ (l : List Str) (p : Str), risingS p l = true → (p :: l).Pairwise leS
  | [], p, _ => List.pairwise_singleton _ _
  | x :: r, p, h => by
    have h : (!ltCps x.cps.toList p.cps.toList && risingS x r) = true := h
    rw [Bool.and_eq_true, ltCps_eq] at h
    have hx : leS p x := fun z => by
      have h1 := h.1
      rw [decide_eq_true (show x.cps.toList < p.cps.toList from z)] at h1
      cases h1
    have ih := rising_pair r x h.2
    refine List.pairwise_cons.mpr ⟨fun y hy => ?_, ih⟩
    rcases List.mem_cons.mp hy with rfl | hy
    · exact hx
    · exact leS_tr hx ((List.pairwise_cons.mp ih).1 y hy)
theorem sorted_pair {l : List Str} (h : sortedS l = true) : l.Pairwise leS := by
  cases l with
  | nil => exact .nil
  | cons x r => exact rising_pair r x h
theorem perm_eq : ∀ {l r : List Str}, l.Pairwise leS → r.Pairwise leS → l.Perm r → l = r
  | [], r, _, _, p => (List.nil_perm.mp p).symm
  | x :: l, [], _, _, p => by simpa using p.length_eq
  | x :: l, y :: r, h1, h2, p => by
    obtain ⟨a1, b1⟩ := List.pairwise_cons.mp h1
    obtain ⟨a2, b2⟩ := List.pairwise_cons.mp h2
    have hx : x ∈ y :: r := p.mem_iff.mp List.mem_cons_self
    have hy : y ∈ x :: l := p.mem_iff.mpr List.mem_cons_self
    have e : x = y := by
      rcases List.mem_cons.mp hx with e | hx
      · exact e
      · rcases List.mem_cons.mp hy with e | hy
        · exact e.symm
        · exact leS_anti (a1 y hy) (a2 x hx)
    subst e
    rw [perm_eq b1 b2 ((List.perm_cons x).mp p)]
theorem strict_of {l : List Str} (h : l.Pairwise leS) (nd : l.Nodup) : l.Pairwise lS := by
  induction l with
  | nil => exact .nil
  | cons x r ih =>
    obtain ⟨a, b⟩ := List.pairwise_cons.mp h
    obtain ⟨c, d⟩ := List.nodup_cons.mp nd
    exact List.pairwise_cons.mpr ⟨fun y hy => leS_ne (a y hy) fun e => c (by rw [e]; exact hy), ih b d⟩
theorem strict_ext : ∀ {l r : List Str}, l.Pairwise lS → r.Pairwise lS → (∀ x, x ∈ l ↔ x ∈ r) → l = r
  | [], [], _, _, _ => rfl
  | [], y :: r, _, _, h => absurd ((h y).mpr List.mem_cons_self) (by simp)
  | x :: l, [], _, _, h => absurd ((h x).mp List.mem_cons_self) (by simp)
  | x :: l, y :: r, h1, h2, h => by
    obtain ⟨a1, b1⟩ := List.pairwise_cons.mp h1
    obtain ⟨a2, b2⟩ := List.pairwise_cons.mp h2
    have e : x = y := by
      rcases List.mem_cons.mp ((h x).mp List.mem_cons_self) with e | hx
      · exact e
      · rcases List.mem_cons.mp ((h y).mpr List.mem_cons_self) with e | hy
        · exact e.symm
        · exact absurd (lS_tr (a1 y hy) (a2 x hx)) lS_ir
    subst e
    rw [strict_ext b1 b2 fun z => ?_]
    constructor
    · intro hz
      rcases List.mem_cons.mp ((h z).mp (List.mem_cons_of_mem _ hz)) with e | q
      · subst e; exact absurd (a1 _ hz) lS_ir
      · exact q
    · intro hz
      rcases List.mem_cons.mp ((h z).mpr (List.mem_cons_of_mem _ hz)) with e | q
      · subst e; exact absurd (a2 _ hz) lS_ir
      · exact q
/-- each word once, of a sorted list's first i -/
def dedT (ys : List Str) : Nat → List Str
  | 0 => []
  | i + 1 => match ys[i]? with
    | none => dedT ys i
    | some y => if i = 0 ∨ ys[i - 1]? ≠ some y then dedT ys i ++ [y] else dedT ys i
theorem dedT_ok {ys : List Str} (h : ys.Pairwise leS) : ∀ i, i ≤ ys.length → (dedT ys i).Pairwise lS ∧ (∀ x, x ∈ dedT ys i ↔ x ∈ ys.take i) ∧ (dedT ys i).length ≤ i
  | 0, _ => ⟨.nil, fun x => by simp [dedT], Nat.le_refl _⟩
  | i + 1, hi => by
    obtain ⟨h1, h2, h3⟩ := dedT_ok h i (by omega)
    have hlt : i < ys.length := hi
    have ey : ys[i]? = some ys[i] := List.getElem?_eq_getElem hlt
    have hp := List.pairwise_iff_getElem.mp h
    have tk : ∀ x, x ∈ ys.take (i + 1) ↔ x ∈ ys.take i ∨ x = ys[i] := fun x => by
      rw [List.take_succ, ey, Option.toList_some, List.mem_append, List.mem_singleton]
    show (match ys[i]? with | none => dedT ys i | some y => if i = 0 ∨ ys[i - 1]? ≠ some y then dedT ys i ++ [y] else dedT ys i).Pairwise lS ∧ (∀ x, x ∈ (match ys[i]? with | none => dedT ys i | some y => if i = 0 ∨ ys[i - 1]? ≠ some y then dedT ys i ++ [y] else dedT ys i) ↔ x ∈ ys.take (i + 1)) ∧
      (match ys[i]? with | none => dedT ys i | some y => if i = 0 ∨ ys[i - 1]? ≠ some y then dedT ys i ++ [y] else dedT ys i).length ≤ i + 1
    rw [ey]
    by_cases hk : i = 0 ∨ ys[i - 1]? ≠ some ys[i]
    · simp only [if_pos hk]
      refine ⟨?_, fun x => by rw [List.mem_append, List.mem_singleton, h2, tk], by rw [List.length_append]; exact Nat.succ_le_succ h3⟩
      rw [List.pairwise_append]
      refine ⟨h1, List.pairwise_singleton _ _, fun x hx y hy => ?_⟩
      rw [List.mem_singleton.mp hy]
      have hx := (h2 x).mp hx
      obtain ⟨j, hj, e⟩ := List.mem_iff_getElem.mp hx
      rw [List.length_take] at hj
      rw [List.getElem_take] at e
      rcases hk with h0 | hk
      · omega
      · have hl : i - 1 < ys.length := by omega
        have hne : ys[i - 1] ≠ ys[i] := fun z => hk (by rw [List.getElem?_eq_getElem hl, z])
        have hpi : leS ys[i - 1] ys[i] := hp (i - 1) i hl hlt (by omega)
        have hlast := leS_ne hpi hne
        by_cases hji : j = i - 1
        · subst hji
          rw [← e]; exact hlast
        · have : leS x ys[i - 1] := by rw [← e]; exact hp j (i - 1) (by omega) hl (by omega)
          exact leS_lt this hlast
    · simp only [if_neg hk]
      refine ⟨h1, fun x => ?_, Nat.le_succ_of_le h3⟩
      rw [h2, tk]
      refine ⟨.inl, fun q => q.elim id fun e => ?_⟩
      have h0 : i ≠ 0 := fun z => hk (.inl z)
      have hl : i - 1 < ys.length := by omega
      have e2 : ys[i - 1]? = some ys[i] := by
        by_cases z : ys[i - 1]? = some ys[i]
        · exact z
        · exact absurd (.inr z) hk
      rw [List.getElem?_eq_getElem hl] at e2
      rw [e, ← Option.some.inj e2]
      exact List.mem_iff_getElem.mpr ⟨i - 1, by rw [List.length_take]; omega, by rw [List.getElem_take]⟩
end Tm
/-! the law's _law_lists_right -/
namespace Tm
open PySem PySem.Spec PyProof.Rows L2
abbrev sLists : Stmt := top 37
abbrev hsP : List Str := ["NEXT", "UNTIL", "EVER", "ALWAYS"]
abbrev hsM : List Str := ["BEFORE", "SINCE", "ONCE", "SOFAR"]
/-- a def that may raise, called by one keyword -/
structure CalK (P : Program) (w : World) (K : PySem.W.Frag) (mg : Str → Option Value) (base : Heap) (k : Nat) (x y : Str) (sp : Sp) : Prop where
  ex : ∃ (f : Addr) (fd : FuncData), FnOk P w K mg base (L2.CX P w) k f fd [y] sp ∧ mg x = some (.ref f) ∧ PySem.W.keepIn K (.ref f) = true ∧ ∀ (s : Shared) (u : Value), BindsTo s fd ⟨[], [(y, u)]⟩ [(y, u)]
def tKw (sp : Sp) (E : XK) (te : TE) : TE := fun σ H Q => te σ H fun z H1 => ∃ v, [z] = [v] ∧ sp [v] H1 Q E
theorem pe_cK {X : Cx} {j k : Nat} {x y : Str} {sp : Sp} {E : XK} {p pos kpos : Pos} {e : Expr} {te : TE} (c : CalK X.prog X.w X.K X.mg X.base k x y sp) (hr : Room j X.A) (hk : k ≤ j) (hg : Gl X x) (hx : Passes (L2.CX X.prog X.w) X E) (he : PE X e te) (hdb : (x == ("__debug__" : Str)) = false := by decide)
    (hall : (backToKw pos (keywordEach [⟨some y, e, kpos⟩] X.env)).all (·.1.isSome) = true := by rfl) (hks : (backToKw pos (keywordEach [⟨some y, e, kpos⟩] X.env)).filterMap (·.1) = [y] := by rfl)
    (hpl : ((backTo pos (starEach [] X.env)).any (·.1) || (backToKw pos (keywordEach [⟨some y, e, kpos⟩] X.env)).any (·.1.isNone)) = false := by rfl) :
    PE X (.Call (.Name x p) [] [⟨some y, e, kpos⟩] pos) (tKw sp E te) := by
  obtain ⟨f, fd, F, hm, kp, b⟩ := c.ex
  refine ⟨fun pins s σ H Q I h => ?_⟩
  refine wpAny_Call_Name_kw (ld_glob I hg hm ?_ hdb)
  refine PySem.W.callWith_KW0 (h₀ := X.base) I.ok.mod.kin kp hall ?_ hpl
  refine thn ((pk_cons (kpos := kpos) (nm := some y) he pk_nil).run pos pins s σ H (fun zs H1 => ∃ v, zs = [v] ∧ sp [v] H1 Q E) I h) fun ws s1 ⟨zs, H1, I1, rz, v, ez, q2⟩ => ⟨I1.kIn, ?_⟩
  subst ez
  rw [hks]
  obtain ⟨u, rfl, rv⟩ : ∃ u, ws = [u] ∧ RelV v u := by
    cases rz with
    | cons rv rn => cases rn; exact ⟨_, rfl, rv⟩
  show wpAny _ _ (call (.ref f) [] [(y, u)]) _ _ _
  refine wpAny_call (codeAny_mono (F.run X.A X.stack s1 H1 ⟨[], [(y, u)]⟩ [u] [v] Q E (hr.mono hk) I1.env0 (b s1 u) (.cons rv .nil) q2) fun r s' hq => ?_)
  cases r with
  | error e => exact hx _ σ H1 s1 e s' I1 hq
  | ok fl =>
    cases fl with
    | ret u => exact I1.after hq
    | next => exact hq.elim
    | brk => exact hq.elim
    | cont => exact hq.elim
def spLists (C : Addr) : Sp := fun vs H Q _ => ∃ (a b : Addr) (m : Mdl) (I : Hp), vs = [.ref a, .ref b] ∧ Same I H ∧ TIs C I (.ref a) m ∧ MIs I (.ref b) m ∧ m.ok ∧ m.deep ≤ 4 ∧ m.words.length ≤ 40 ∧ ∀ (I' H' : Hp), Go NoS I H I' H' → Q (.bl true) H'
section
variable {P : Program} {w : World} {K : PySem.W.Frag} {mg : Str → Option Value} {base : Heap} {C BT BX TM : Addr}
abbrev nLists : List Str := ["made", "model", "names", "at", "due", "hopes", "pasts", "told", "heads", "some", "part", "word", "name"]
theorem scLists : FnScope nLists ["made", "model"] (defScope sLists) := ⟨rfl, rfl, rfl, by decide +kernel, rfl, by decide +kernel, by decide +kernel⟩
theorem ok_lists {f : Addr} {fd : FuncData} (F : Fun K "_law_lists_right" "_law_lists_right" sLists f fd) (T : TC K mg C) (R : TR mg) (G : TFi mg) (hre : mg "repr" = none) (cW : C8.Cal P w K mg base 5 "_law_words" (spLWords 4) []) (cM : C8.Cal P w K mg base 1 "_law_many" spLMany []) (cF : C8.Cal P w K mg base 6 "_law_first" (spLFirst 4) [])
    (cE : CalK P w K mg base 4 "events_of" "saying" (spEvents C BT)) (cP : CalK P w K mg base 8 "promises_of" "saying" (spHeads C BT hsP 4)) (cQ : CalK P w K mg base 8 "memories_of" "saying" (spHeads C BT hsM 4)) (cT : CalG P w K mg base 13 "_law_is_told" (spTold C 4) []) :
    FnG P w K mg base CX0 14 f fd ["made", "model"] (spLists C) := by
  refine Fun.okG F scLists (fun vs H Q E h => ?_) (fun cdv A outer s H vs Q E ng hr h => ?_)
  · obtain ⟨a, b, m, I, rfl, _⟩ := h
    rfl
  · obtain ⟨a, b, m, I, rfl, hI, ta, mb, ho, hd, hw, k⟩ := h
    have hun : (A.deeper (envOfC "_law_lists_right" (defScope sLists) s.heap.objs.size f cdv)).units + 70 < cLine := by have := hr.un; omega
    refine ⟨_, pss_cons (ps_set (i := 2) scLists.nd rfl (Or.inr rfl) (pe_lc (own := [("word", 11)]) (g := gName 11) (tt := tAnd (tTest (tOp rEq (tCall spLMany [] E0 (tCons (tVar 11) tNil)) (tC (.int 0)))) (tTest (tOp rNe (tVar 11) (tC (.str "TRUE"))))) rfl scLists.nd (pi_list (C8.pe_c cW hr (by decide) rfl (pa_cons (pv 1) pa_nil))) (blkOk_by (N := nLists) (sc := defScope sLists) (by decide +kernel))
        (fun _ _ _ _ _ => pg_name (i := 11) scLists.nd rfl (Or.inl rfl)) (fun _ _ _ _ _ => by exact pts_one (PW.pt (pw_and (pt_cmpR op_eq (C8.pe_c cM hr (by decide) rfl (pa_cons (pv 11) pa_nil)) pe_int (nomark _)) (pw_and1 (pt_cmpR op_ne (pv 11) pe_str (nomark _)))))) (fun _ _ _ _ _ => pv 11)))
      (pss_cons (ps_setLc (i := 4) (own := [("at", 3), ("name", 12)]) (g := gTup K 2 (gCons (gName 3) (gCons (gName 12) gNil))) (tt := tOr (tTest (tOp rEq (tVar 3) (tC (.int 0)))) (tTest (tOp rNe (tOp (rIxL K) (tCB (rSortedS K) (tCons (tVar 2) tNil)) (tOp (rI0 fun i j => .int (i - j)) (tVar 3) (tC (.int 1)))) (tVar 12)))) rfl scLists.nd rfl rfl (sw_true rfl rfl rfl rfl)
        (pi_enum (by rfl) R.enum (pa_cons (pe_callB cr_sortedS (by rfl) G.sorted (by decide +kernel) (pa_cons (pv 2) pa_nil)) pa_nil)) (blkOk_by (N := nLists) (sc := defScope sLists) (by decide +kernel))
        (fun _ _ _ _ _ => by exact pg_tup rfl (pgs_cons (pg_name (i := 3) scLists.nd rfl (Or.inl rfl)) (pgs_cons (pg_name (i := 12) scLists.nd rfl (Or.inl rfl)) pgs_nil)))
        (fun _ _ _ _ _ => by exact pts_one (PW.pt (pw_or (pt_cmpR op_eq (pv 3) pe_int (nomark _)) (pw_or1 (pt_cmpR op_ne (pe_ix ix_list (pe_callB cr_sortedS (by rfl) G.sorted (by decide +kernel) (pa_cons (pv 2) pa_nil)) (pe_op op_sub (pv 3) pe_int) (fun _ _ => rfl)) (pv 12) (nomark _)))))) (fun _ _ _ _ _ => pv 12))
      (pss_cons (ps_if (pt_cmpR op_ne (pe_callB (call_repr ng hun) (by rfl) hre (by decide +kernel) (pa_cons (pe_cK cE hr (by decide) rfl passL (pv 0)) pa_nil)) (pe_callB (call_repr ng hun) (by rfl) hre (by decide +kernel) (pa_cons (pe_callTy call_tuple_of (by rfl) G.tuple (by decide +kernel) (pa_cons (pv 4) pa_nil)) pa_nil)) (nomark _)) (pss_one (ps_ret pe_bl)) pss_nil)
      (pss_cons (ps_asg (pe_tup (pa_cons (pe_tup (pa_cons pe_str (pa_cons pe_str (pa_cons pe_str (pa_cons pe_str pa_nil))))) (pa_cons (pe_tup (pa_cons pe_str (pa_cons pe_str (pa_cons pe_str (pa_cons pe_str pa_nil))))) pa_nil))) (pg_tup rfl (pgs_cons (pg_name (i := 5) scLists.nd rfl (Or.inl rfl)) (pgs_cons (pg_name (i := 6) scLists.nd rfl (Or.inl rfl)) pgs_nil))))
      (pss_cons (ps_for PassesOwn.never rfl (pi_tup (pe_tup (pa_cons (pe_tup (pa_cons (pe_cK cP hr (by decide) rfl passL (pv 0)) (pa_cons (pv 5) pa_nil))) (pa_cons (pe_tup (pa_cons (pe_cK cQ hr (by decide) rfl passL (pv 0)) (pa_cons (pv 6) pa_nil))) pa_nil)))) (pg_tup rfl (pgs_cons (pg_name (i := 7) scLists.nd rfl (Or.inl rfl)) (pgs_cons (pg_name (i := 8) scLists.nd rfl (Or.inl rfl)) pgs_nil)))
        (pss_cons (ps_set (i := 9) scLists.nd rfl (Or.inl rfl) (C8.pe_c cF hr (by decide) rfl (pa_cons (pv 1) (pa_cons (pv 8) pa_nil))))
        (pss_cons (ps_if (PW.pt (pw_or (pt_not (pt_val (pe_callB call_isi (by rfl) T.isi (by decide +kernel) (pa_cons (pv 7) (pa_cons (pe_bltn (v := .ty "tuple") rfl G.tuple (by decide +kernel) rfl) pa_nil)))))
            (pw_or1 (pt_cmpR op_ne (pe_callB call_len (by rfl) T.len PySem.boot_len (pa_cons (pv 7) pa_nil)) (pe_callB call_len (by rfl) T.len PySem.boot_len (pa_cons (pv 9) pa_nil)) (nomark _))))) (pss_one (ps_ret pe_bl)) pss_nil)
        (pss_one (ps_for PassesOwn.never rfl (pi_enum (by rfl) R.enum (pa_cons (pv 9) pa_nil)) (pg_tup rfl (pgs_cons (pg_name (i := 3) scLists.nd rfl (Or.inl rfl)) (pgs_cons (pg_name (i := 10) scLists.nd rfl (Or.inl rfl)) pgs_nil)))
          (pss_one (ps_if (pt_not (pt_val (pe_cG cT ng hr (by decide) rfl (pa_cons (pe_ix ix_tup (pv 7) (pv 3) (fun _ _ => rfl)) (pa_cons (pv 10) pa_nil))))) (pss_one (ps_ret pe_bl)) pss_nil)))))))
      (pss_one (ps_ret pe_bl)))))), ?_⟩
    have dw := ok_words ho
    have wsm : Sm m.words := sm_due dw (by omega)
    have evz : ∀ z ∈ m.words, evOk z = true ↔ due z = some 0 ∧ z ≠ "TRUE" := fun z hz => by
      constructor
      · intro h
        exact ⟨due_ev h, (ev_low h).2.2⟩
      · rintro ⟨h1, h2⟩
        unfold due at h1
        split at h1
        · cases h1
        · split at h1
          · cases h1
          · split at h1
            · rename_i h3
              exact h3.elim (fun x => absurd x h2) id
            · cases h1
    refine ⟨_, rfl, b, m, I, rfl, hI, mb, hd, by omega, fun p I1 H1 g1 ip => ⟨p, rfl, ⟨_, sqK (g1.sub _ _ ip)⟩, fun D hD => lc_it (walk_list (xs := m.words.map V.str)) (fun i H' => i ≤ m.words.length ∧ Go NoS I H I1 H' ∧ H' D = some (.lst (((m.words.take i).filter evOk).map V.str)))
      ⟨Nat.zero_le _, g1.trans (Go.tmp g1.sub hD), upd_same⟩ (fun i H' _ h => sqK (h.2.1.sub _ _ ip)) ?_ ?_⟩⟩
    · rintro i x H2 H3 hi ⟨_, g2, eD⟩ ⟨rfl, hx⟩
      rw [List.length_map] at hi
      replace hx : (m.words.map V.str)[i]? = some x := hx
      rw [List.getElem?_map, List.getElem?_eq_getElem hi] at hx
      cases hx
      have hz : m.words[i] ∈ m.words := List.getElem_mem hi
      have htk : (m.words.take (i + 1)).filter evOk = (m.words.take i).filter evOk ++ [m.words[i]].filter evOk := by
        rw [List.take_succ, List.getElem?_eq_getElem hi, Option.toList_some, List.filter_append]
      generalize m.words[i] = z at hz htk ⊢
      refine ⟨rfl, ?_⟩
      refine ⟨_, rfl, z, rfl, due_len (dw z hz), due_ok (dw z hz), fun H4 k4 => ?_⟩
      have g4 := g2.trans (k4 _ g2.sub)
      have eD4 := (k4 (fun _ => none) (fun _ _ z => nomatch z)).same D _ id eD
      have iff := evz z hz
      have no : ¬ evOk z = true → i + 1 ≤ m.words.length ∧ Go NoS I H I1 H4 ∧ H4 D = some (.lst (((m.words.take (i + 1)).filter evOk).map V.str)) := fun h => by
        refine ⟨hi, g4, ?_⟩
        rw [htk, List.filter_cons, if_neg h, List.filter_nil, List.append_nil]
        exact eD4
      cases hdz : due z with
      | none => exact absurd hdz (dw z hz)
      | some n =>
        rw [hdz] at iff
        refine ⟨rfl, _, rfl, ite2 (fun h1 => ?_) (fun h1 => iteF (no fun h => h1 ?_))⟩
        · have hn : n = 0 := by have := V.int.inj (of_decide_eq_true h1); omega
          refine ⟨_, rfl, rfl, _, rfl, ite2 (fun h2 => ?_) (fun h2 => no fun h => h2 ?_)⟩
          · have h2 : z ≠ "TRUE" := fun e => by
              have e' : V.str z = V.str "TRUE" := by rw [e]
              rw [decide_eq_true e'] at h2
              cases h2
            have hev : evOk z = true := iff.mpr ⟨by rw [hn], h2⟩
            refine ⟨_, rfl, _, eD4, ?_, hi, Go.putNew g4 (g1.sub.free hD) (g1.back hD), ?_⟩
            · rw [List.length_map]
              exact Nat.lt_of_le_of_lt (Nat.le_trans (List.length_filter_le _ _) (List.length_take_le' _ _)) (Nat.lt_of_le_of_lt hw (by decide))
            · rw [upd_same, htk, List.filter_cons, if_pos hev, List.filter_nil, List.map_append]
              rfl
          · have := (iff.mp h).2
            have e' : V.str z ≠ V.str "TRUE" := fun e => this (V.str.inj e)
            rw [decide_eq_false e']
            rfl
        · have := Option.some.inj (iff.mp h).1
          rw [this]
          rfl
    · rintro H2 ⟨_, g2, eD⟩
      rw [List.length_map, List.take_length] at eD
      have hnm : ∀ x, x ∈ m.words.filter evOk ↔ x ∈ m.words ∧ evOk x = true := fun x => List.mem_filter
      have hnl : (m.words.filter evOk).length ≤ 40 := Nat.le_trans (List.length_filter_le _ _) hw
      generalize m.words.filter evOk = nm at eD hnm hnl
      have g2k := g2.keep (g1.sub.free hD) (g1.back hD) eD
      have iD : (upd I1 D (.lst (nm.map V.str))) D = some (.lst (nm.map V.str)) := upd_same
      generalize upd I1 D (.lst (nm.map V.str)) = I2 at g2k iD
      refine ⟨_, rfl, D, nm, rfl, sqK eD, by omega, fun ys q perm srt hq => ?_⟩
      have hysl : ys.length = nm.length := perm.length_eq
      have pw := sorted_pair srt
      have g3 := g2k.trans (Go.new (o := .lst (ys.map V.str)) g2k.sub hq)
      have iD3 := (Go.new (S := NoS) (o := .lst (ys.map V.str)) g2k.sub hq).ext _ _ iD
      have iq3 : (upd I2 q (.lst (ys.map V.str))) q = some (.lst (ys.map V.str)) := upd_same
      generalize upd H2 q (.lst (ys.map V.str)) = H3 at g3 ⊢
      generalize upd I2 q (.lst (ys.map V.str)) = I3 at g3 iD3 iq3
      refine ⟨q, _, rfl, sqK (g3.sub _ _ iq3), fun D2 hD2 => lc_it (walk_enum (xs := ys.map V.str)) (fun i H' => i ≤ ys.length ∧ Go NoS I H I3 H' ∧ H' D2 = some (.lst ((dedT ys i).map V.str))) ⟨Nat.zero_le _, g3.trans (Go.tmp g3.sub hD2), upd_same⟩ (fun i H' _ h => sqK (h.2.1.sub _ _ iq3)) ?_ ?_⟩
      · rintro i x H4 H5 hi ⟨_, g4, eD2⟩ ⟨T1, x1, y1, rfl, hT1, rfl, ex, hy1⟩
        cases ex
        rw [List.length_map] at hi
        replace hy1 : (ys.map V.str)[i]? = some y1 := hy1
        have ey : ys[i]? = some ys[i] := List.getElem?_eq_getElem hi
        rw [List.getElem?_map, ey] at hy1
        cases hy1
        have g5 := g4.trans (Go.tmp (o := .tup [.int (i : Int), .str ys[i]]) g4.sub hT1)
        have nT : D2 ≠ T1 := ne_of_none eD2 hT1
        have eD5 : (upd H4 T1 (.tup [.int (i : Int), .str ys[i]])) D2 = some (.lst ((dedT ys i).map V.str)) := by rw [upd_ne nT]; exact eD2
        have ed : dedT ys (i + 1) = if i = 0 ∨ ys[i - 1]? ≠ some ys[i] then dedT ys i ++ [ys[i]] else dedT ys i := by
          show (match ys[i]? with | none => dedT ys i | some y => if i = 0 ∨ ys[i - 1]? ≠ some y then dedT ys i ++ [y] else dedT ys i) = _
          rw [ey]
        have hlen := (dedT_ok pw i (by omega)).2.2
        have yes : (i = 0 ∨ ys[i - 1]? ≠ some ys[i]) → ∀ H6, Go NoS I H I3 H6 → H6 D2 = some (.lst ((dedT ys i).map V.str)) → ∃ acc, H6 D2 = some (.lst acc) ∧ acc.length < sizeLine ∧ i + 1 ≤ ys.length ∧ Go NoS I H I3 (upd H6 D2 (.lst (acc ++ [V.str ys[i]]))) ∧ (upd H6 D2 (.lst (acc ++ [V.str ys[i]]))) D2 = some (.lst ((dedT ys (i + 1)).map V.str)) := fun h H6 g6 e6 => by
          refine ⟨_, e6, ?_, hi, Go.putNew g6 (g3.sub.free hD2) (g3.back hD2), ?_⟩
          · rw [List.length_map]
            exact Nat.lt_of_le_of_lt (by omega : _ ≤ 40) (by decide)
          · rw [upd_same, ed, if_pos h, List.map_append]
            rfl
        refine ⟨T1, _, rfl, stK upd_same, rfl, _, _, rfl, _, _, rfl, rfl, rfl, ?_⟩
        refine ⟨_, rfl, rfl, _, rfl, ite2 (fun h0 => ?_) (fun h0 => ?_)⟩
        · have h0 : i = 0 := by have := V.int.inj (of_decide_eq_true h0); omega
          exact iteT ⟨_, rfl, yes (.inl h0) _ g5 eD5⟩
        · have h0 : i ≠ 0 := fun e => h0 (decide_eq_true (by rw [e]; rfl))
          refine ⟨_, rfl, D, nm, rfl, sqK (g5.sub _ _ iD3), by omega, fun ys2 q2 perm2 srt2 hq2 => ?_⟩
          have e2 : ys2 = ys := perm_eq (sorted_pair srt2) pw (perm2.trans perm.symm)
          subst e2
          have g6 := g5.trans (Go.tmp (o := .lst (ys2.map V.str)) g5.sub hq2)
          have n2 : D2 ≠ q2 := ne_of_none eD5 hq2
          have hl : i - 1 < ys2.length := by omega
          have el : ys2[i - 1]? = some ys2[i - 1] := List.getElem?_eq_getElem hl
          refine ⟨_, rfl, _, _, rfl, rfl, q2, _, _, .str ys2[i - 1], rfl, rfl, sqK upd_same, atI_at (j := i - 1) (by omega) (by rw [List.getElem?_map, el]; rfl), _, rfl, rfl, _, rfl, ite2 (fun h1 => ?_) (fun h1 => ?_)⟩
          · have hne : ys2[i - 1] ≠ ys2[i] := fun e => by
              have e' : V.str ys2[i - 1] = V.str ys2[i] := by rw [e]
              rw [decide_eq_true e'] at h1
              cases h1
            exact ⟨_, rfl, yes (.inr fun z => hne (by rw [el] at z; exact Option.some.inj z)) _ g6 (by rw [upd_ne n2]; exact eD5)⟩
          · have heq : ys2[i - 1] = ys2[i] := by
              by_cases e : ys2[i - 1] = ys2[i]
              · exact e
              · have e' : V.str ys2[i - 1] ≠ V.str ys2[i] := fun z => e (V.str.inj z)
                rw [decide_eq_false e'] at h1
                exact absurd rfl h1
            refine ⟨hi, g6, ?_⟩
            rw [ed, if_neg (fun z => z.elim h0 fun z => z (by rw [el, heq])), upd_ne n2]
            exact eD5
      · rintro H4 ⟨_, g4, eD2⟩
        rw [List.length_map] at eD2
        obtain ⟨ds1, ds2, ds3⟩ := dedT_ok pw ys.length (Nat.le_refl _)
        have hdd : ∀ x, x ∈ dedT ys ys.length ↔ x ∈ m.words ∧ evOk x = true := fun x => by
          rw [ds2, List.take_length, perm.mem_iff, hnm]
        generalize dedT ys ys.length = dd at eD2 ds1 ds3 hdd
        have g4k := g4.keep (g3.sub.free hD2) (g3.back hD2) eD2
        have iD2 : (upd I3 D2 (.lst (dd.map V.str))) D2 = some (.lst (dd.map V.str)) := upd_same
        generalize upd I3 D2 (.lst (dd.map V.str)) = I4 at g4k iD2
        refine ⟨_, rfl, _, rfl, .ref a, true, I4, rfl, g4k.sub, (ta.ext g4k.ext).kn, (fun z => nomatch z), fun _ => ⟨m, ta.ext g4k.ext, by omega, dw, fun p5 I5 H5 es g5 ip5 nd5 srt5 mem5 => ?_⟩⟩
        have g5' := g4k.trans g5
        have ees : es = dd := strict_ext (strict_of (sorted_pair srt5) nd5) ds1 fun x => by rw [mem5, hdd]
        subst ees
        have esm : Sm es := ⟨fun z hz => wsm.ok z ((mem5 z).mp hz).1, fun z hz => wsm.ln z ((mem5 z).mp hz).1, by omega⟩
        refine ⟨_, .tuple (es.map PyData.str), rfl, .tup (stK (g5'.sub _ _ ip5)) (dpStrs _), lay_tup esm, show_tup _, ints_tup _, _, rfl, D2, _, rfl, .inl ⟨sqK (g5'.sub _ _ (g5.ext _ _ iD2)), fun l hl => ?_⟩⟩
        refine ⟨_, .tuple (es.map PyData.str), rfl, .tup (stK upd_same) (dpStrs _), lay_tup esm, show_tup _, ints_tup _, rfl, _, rfl, if_same ?_⟩
        have g6 := g5'.trans (Go.tmp (o := .tup (es.map V.str)) g5'.sub hl)
        generalize upd H5 l (.tup (es.map V.str)) = H6 at g6 ⊢
        -- hopes, pasts
        refine ⟨(by show 4 ≤ sizeLine; decide), fun t1 ht1 => ⟨(by show 4 ≤ sizeLine; decide), fun t2 ht2 => ⟨(by show 2 ≤ sizeLine; decide), fun t3 ht3 => ⟨t3, _, rfl, stK upd_same, rfl, _, _, rfl, _, _, rfl, rfl, ?_⟩⟩⟩⟩
        have g7 := g6.trans (Go.new (o := .tup (hsP.map V.str)) g6.sub ht1)
        have i71 : (upd I5 t1 (.tup (hsP.map V.str))) t1 = some (.tup (hsP.map V.str)) := upd_same
        have g8 := g7.trans (Go.new (o := .tup (hsM.map V.str)) g7.sub ht2)
        have i81 := (Go.new (S := NoS) (o := .tup (hsM.map V.str)) g7.sub ht2).ext _ _ i71
        have i82 : (upd (upd I5 t1 (.tup (hsP.map V.str))) t2 (.tup (hsM.map V.str))) t2 = some (.tup (hsM.map V.str)) := upd_same
        have g9 := g8.trans (Go.tmp (o := .tup [.ref t1, .ref t2]) g8.sub ht3)
        refine ⟨_, rfl, _, rfl, .ref a, true, _, rfl, g9.sub, (ta.ext g9.ext).kn, (fun z => nomatch z), fun _ => ⟨m, ta.ext g9.ext, hd, by omega, fun p7 I7 H7 us1 g7' ip7 hl7 hT7 => ?_⟩⟩
        have g10 := g9.trans g7'
        have i71 := g7'.ext _ _ i81
        have i72 := g7'.ext _ _ i82
        refine ⟨_, rfl, (by show 2 ≤ sizeLine; decide), fun t4 ht4 => ?_⟩
        have gn4 := Go.new (S := NoS) (o := .tup [.ref p7, .ref t1]) g10.sub ht4
        have g11 := g10.trans gn4
        refine ⟨_, rfl, _, rfl, .ref a, true, _, rfl, g11.sub, (ta.ext g11.ext).kn, (fun z => nomatch z), fun _ => ⟨m, ta.ext g11.ext, hd, by omega, fun p8 I8 H8 us2 g8' ip8 hl8 hT8 => ?_⟩⟩
        have g12 := g11.trans g8'
        refine ⟨_, rfl, (by show 2 ≤ sizeLine; decide), fun t5 ht5 => ⟨(by show 2 ≤ sizeLine; decide), fun t6 ht6 => ?_⟩⟩
        have gn5 := Go.new (S := NoS) (o := .tup [.ref p8, .ref t2]) g12.sub ht5
        have g13 := g12.trans gn5
        have gn6 := Go.new (S := NoS) (o := .tup [.ref t4, .ref t5]) g13.sub ht6
        have g14 := g13.trans gn6
        have e78 : Same I7 (upd (upd I8 t5 (.tup [.ref p8, .ref t2])) t6 (.tup [.ref t4, .ref t5])) := ((gn4.ext.trans g8'.ext).trans gn5.ext).trans gn6.ext
        have e88 : Same I8 (upd (upd I8 t5 (.tup [.ref p8, .ref t2])) t6 (.tup [.ref t4, .ref t5])) := gn5.ext.trans gn6.ext
        have j4 := (g8'.ext.trans (gn5.ext.trans gn6.ext)) _ _ (show (upd I7 t4 (.tup [.ref p7, .ref t1])) t4 = some (.tup [.ref p7, .ref t1]) from upd_same)
        have j5 := gn6.ext _ _ (show (upd I8 t5 (.tup [.ref p8, .ref t2])) t5 = some (.tup [.ref p8, .ref t2]) from upd_same)
        have j6 : (upd (upd I8 t5 (.tup [.ref p8, .ref t2])) t6 (.tup [.ref t4, .ref t5])) t6 = some (.tup [.ref t4, .ref t5]) := upd_same
        have j1 := e78 _ _ i71
        have j2 := e78 _ _ i72
        have k7 := e78 _ _ ip7
        have k8 := e88 _ _ ip8
        have T7 : ∀ (i : Nat) x kk, us1[i]? = some x → (firsts hsP m.parts)[i]? = some kk → TIs C _ x kk := fun i x kk q1 q2 => (hT7 i x kk q1 q2).ext e78
        have T8 : ∀ (i : Nat) x kk, us2[i]? = some x → (firsts hsM m.parts)[i]? = some kk → TIs C _ x kk := fun i x kk q1 q2 => (hT8 i x kk q1 q2).ext e88
        generalize upd (upd I8 t5 (.tup [.ref p8, .ref t2])) t6 (.tup [.ref t4, .ref t5]) = IK at g14 j1 j2 j4 j5 j6 k7 k8 T7 T8
        have good : ∀ (i : Nat) (x : V), [V.ref t4, V.ref t5][i]? = some x → ∃ (tk pk hk : Addr) (us : List V) (hs : List Str), x = .ref tk ∧ IK tk = some (.tup [.ref pk, .ref hk]) ∧ IK pk = some (.tup us) ∧ IK hk = some (.tup (hs.map V.str)) ∧ us.length = (firsts hs m.parts).length ∧
            ∀ (i : Nat) x kk, us[i]? = some x → (firsts hs m.parts)[i]? = some kk → TIs C IK x kk := fun i x h => by
          match i with
          | 0 => cases h; exact ⟨t4, p7, t1, us1, hsP, rfl, j4, k7, j1, hl7, T7⟩
          | 1 => cases h; exact ⟨t5, p8, t2, us2, hsM, rfl, j5, k8, j2, hl8, T8⟩
          | i + 2 => simp at h
        refine ⟨t6, rfl, ⟨_, stK (g14.sub _ _ j6)⟩, for_it (walk_tup (xs := [V.ref t4, V.ref t5])) (fun i σ H' => ∃ (I' : Hp) (o3 o7 o8 o9 o10 o11 o12 : Option V), Go NoS I H I' H' ∧ Same IK I' ∧
            σ = [some (V.ref a), some (.ref b), some (.ref D), o3, some (.ref D2), some (.ref t1), some (.ref t2), o7, o8, o9, o10, o11, o12]) ⟨_, _, _, _, _, _, _, _, g14, Same.refl _, rfl⟩ (fun i σ H' _ h => ?_) ?_ ?_⟩
        · obtain ⟨I', o3, o7, o8, o9, o10, o11, o12, g, sK, _⟩ := h
          exact stK (g.sub _ _ (sK _ _ j6))
        · rintro i x σ H9 H10 hi ⟨I', o3, o7, o8, o9, o10, o11, o12, g, sK, rfl⟩ ⟨rfl, hx⟩
          obtain ⟨tk, pk, hk, us, hs, rfl, q1, q2, q3, hul, hT⟩ := good i x hx
          refine ⟨tk, _, rfl, stK (g.sub _ _ (sK _ _ q1)), rfl, _, _, rfl, _, _, rfl, rfl, ?_⟩
          refine ⟨_, rfl, _, rfl, b, hk, m, hs, I', rfl, g.sub, mb.ext g.ext, ho, hd, by omega, sK _ _ q3, fun p9 I9 H9 xs g9' ip9 hxl hxT => ?_⟩
          have g15 := g.trans g9'
          have sK9 : Same IK I9 := sK.trans g9'.ext
          refine ⟨_, rfl, _, _, _, _, true, rfl, .ty "tuple", .base (.tup (g15.sub _ _ (sK9 _ _ q2))), kit_ty (by decide +kernel), true, rfl, iteF ?_⟩
          refine ⟨_, rfl, _, us.length, rfl, .inr ⟨_, stK (g15.sub _ _ (sK9 _ _ q2)), rfl⟩, _, rfl, _, xs.length, rfl, .inl ⟨_, sqK (g15.sub _ _ ip9), rfl⟩, rfl, _, rfl, if_eq (congrArg V.int (by omega)) ?_⟩
          refine ⟨_, rfl, p9, xs, rfl, sqK (g15.sub _ _ ip9), for_it (walk_enum (xs := xs)) (fun j σ H' => ∃ (I' : Hp) (o3 o10 o11 o12 : Option V), j ≤ xs.length ∧ Go NoS I H I' H' ∧ Same I9 I' ∧
            σ = [some (V.ref a), some (.ref b), some (.ref D), o3, some (.ref D2), some (.ref t1), some (.ref t2), some (.ref pk), some (.ref hk), some (.ref p9), o10, o11, o12]) ⟨_, _, _, _, _, Nat.zero_le _, g15, Same.refl _, rfl⟩ (fun j σ H' _ h => ?_) ?_ ?_⟩
          · obtain ⟨I', o3, o10, o11, o12, _, g, s9, _⟩ := h
            exact sqK (g.sub _ _ (s9 _ _ ip9))
          · rintro j x σ H11 H12 hj ⟨I', o3, o10, o11, o12, _, g, s9, rfl⟩ ⟨T1, x1, y1, rfl, hT1, rfl, ex, hy1⟩
            cases ex
            replace hy1 : xs[j]? = some y1 := hy1
            obtain ⟨pm, hpm⟩ : ∃ pm, (firsts hs m.parts)[j]? = some pm := ⟨(firsts hs m.parts)[j]'(by omega), List.getElem?_eq_getElem _⟩
            obtain ⟨x2, hx2⟩ : ∃ x2, us[j]? = some x2 := ⟨us[j]'(by omega), List.getElem?_eq_getElem _⟩
            have mk := (hxT j y1 pm hy1 hpm).ext s9
            have tk := (hT j x2 pm hx2 hpm).ext (sK9.trans s9)
            obtain ⟨c0, rfl⟩ := mis_ref mk
            obtain ⟨c1, _, _, _, _, rfl, _⟩ := tis_words (C := C) tk
            have hmem := firsts_mem (List.mem_of_getElem? hpm)
            obtain ⟨lw, ld⟩ := parts_le pm hmem
            have g16 := g.trans (Go.tmp (o := .tup [.int (j : Int), .ref c0]) g.sub hT1)
            refine ⟨T1, _, rfl, stK upd_same, rfl, _, _, rfl, _, _, rfl, rfl, ?_⟩
            refine ⟨_, rfl, _, rfl, pk, _, _, .ref c1, rfl, rfl, stK (g16.sub _ _ (s9 _ _ (sK9 _ _ q2))), atI_at rfl hx2, _, rfl, ?_⟩
            refine ⟨c1, c0, pm, I', rfl, g16.sub, tk, mk, parts_ok ho pm hmem, by omega, by omega, fun I17 H17 g17 => ⟨_, rfl, ?_⟩⟩
            exact iteF ⟨I17, _, _, _, _, hj, g16.trans g17, s9.trans g17.ext, rfl⟩
          · rintro σ H11 ⟨I', o3, o10, o11, o12, _, g, s9, rfl⟩
            exact ⟨I', _, _, _, _, _, _, _, g, sK9.trans s9, rfl⟩
        · rintro σ H9 ⟨I', o3, o7, o8, o9, o10, o11, o12, g, sK, rfl⟩
          exact k I' H9 g
end
end Tm
/-! the law's _law_bent -/
namespace Tm
open PySem PySem.Spec PyProof.Rows L2
abbrev sBent : Stmt := top 39
/-- words that a text may hold -/
structure Wz (ws : List Str) : Prop where
  ok : ∀ z ∈ ws, PyData.strOk z = true
  ln : ∀ z ∈ ws, z.length ≤ 100
  bl : ∀ z ∈ ws, 32 ∉ z.cps.toList
theorem Wz.app {a b : List Str} (h1 : Wz a) (h2 : Wz b) : Wz (a ++ b) :=
  ⟨fun z hz => (List.mem_append.mp hz).elim (h1.ok z) (h2.ok z), fun z hz => (List.mem_append.mp hz).elim (h1.ln z) (h2.ln z), fun z hz => (List.mem_append.mp hz).elim (h1.bl z) (h2.bl z)⟩
theorem Wz.sub {a b : List Str} (h : Wz b) (s : ∀ z ∈ a, z ∈ b) : Wz a := ⟨fun z hz => h.ok z (s z hz), fun z hz => h.ln z (s z hz), fun z hz => h.bl z (s z hz)⟩
theorem Wz.due {ws : List Str} (h : ∀ z ∈ ws, due z ≠ none) : Wz ws := ⟨fun z hz => due_ok (h z hz), fun z hz => Nat.le_trans (due_24 (h z hz)) (by decide), fun z hz => due_bl (h z hz)⟩
theorem Wz.wd {ws : List Str} (h : Wz ws) (ne : ws ≠ []) (few : ws.length ≤ 200) : Wd ws := ⟨⟨h.ok, h.ln, by omega⟩, ne, h.bl, few⟩
theorem Wz.one {z : Str} {ws : List Str} (h : Wz ws) (hz : z ∈ ws) : Wz [z] := h.sub fun y hy => by rw [List.mem_singleton.mp hy]; exact hz
abbrev oddW : List Str := ["Next", "", "a-b", "A", "yyyyyyyyyyyyyyyyyyyyyyyyy", "~", "TRUEa", "aTRUE", "FALSE", "a\n", "EVER,"]
theorem wz_odd : Wz oddW := ⟨by decide +kernel, by decide +kernel, by decide +kernel⟩
abbrev putW : List Str := ["NOT", "AND", "TRUE", "x", "SINCE"]
theorem wz_put : Wz putW := ⟨by decide +kernel, by decide +kernel, by decide +kernel⟩
abbrev endW : List Str := ["a", "NOT", "TRUE", ""]
theorem wz_end : Wz endW := ⟨by decide +kernel, by decide +kernel, by decide +kernel⟩
theorem Go.tmp' {S : Addr → Prop} {I H I' H' : Hp} {p : Addr} {o : HO} (g : Go S I H I' H') (hp : H' p = none) : Go S I H I' (upd H' p o) := g.trans (Go.tmp g.sub hp)
theorem Go.new' {S : Addr → Prop} {I H I' H' : Hp} {p : Addr} {o : HO} (g : Go S I H I' H') (hp : H' p = none) : Go S I H (upd I' p o) (upd H' p o) := g.trans (Go.new g.sub hp)
theorem szl {n : Nat} (h : n ≤ 1000) : n ≤ sizeLine := Nat.le_trans h (by decide)
def spBent : Sp := fun vs H Q _ => ∃ (a b : Addr) (ws : List Str) (I : Hp) (N : Nat), vs = [.ref a, .ref b] ∧ Same I H ∧ Pen I H a N ∧ N + 4 < MaxN ∧ I b = some (.lst (ws.map V.str)) ∧ Wz ws ∧ ws ≠ [] ∧ ws.length ≤ 100 ∧
  ∀ (p : Addr) (I' H' : Hp) (zs : List Str), Go (At1 a) I H I' H' → Pen I' H' a (N + 4) → I' p = some (.lst (zs.map V.str)) → Wd zs → Q (.ref p) H'
section
variable {P : Program} {w : World} {K : PySem.W.Frag} {mg : Str → Option Value} {base : Heap} {C BT BX TM : Addr}
theorem scBent : FnScope ["pen", "words", "kind", "at", "odd"] ["pen", "words"] (defScope sBent) := ⟨rfl, rfl, rfl, by decide +kernel, rfl, by decide +kernel, by decide +kernel⟩
theorem ok_bent {f : Addr} {fd : FuncData} (F : Fun K "_law_bent" "_law_bent" sBent f fd) (T : TC K mg C) (cD : C8.Cal P w K mg base 1 "_law_draw" spDraw []) (cP : C8.Cal P w K mg base 2 "_law_pick" spPick []) : FnOk P w K mg base CX0 3 f fd ["pen", "words"] spBent := by
  refine F.ok scBent (fun vs H Q E h => ?_) (fun cdv A outer s H vs Q E hr h => ?_)
  · obtain ⟨a, b, ws, I, N, rfl, _⟩ := h
    rfl
  · obtain ⟨a, b, ws, I, N, rfl, hI, hp, hN, ib, hw, hne, hl, k⟩ := h
    refine ⟨_, pss_cons (ps_par (i := 2) (j := 3) rfl scBent.nd rfl rfl (by decide) rfl rfl (pa_cons (C8.pe_c cD hr (by decide) rfl (pa_cons (pv 0) (pa_cons pe_int pa_nil))) (pa_cons (C8.pe_c cD hr (by decide) rfl (pa_cons (pv 0) (pa_cons (pe_callB call_len (by rfl) T.len PySem.boot_len (pa_cons (pv 1) pa_nil)) pa_nil))) pa_nil)) (by rfl))
      (pss_cons (ps_set (i := 4) scBent.nd rfl (Or.inl rfl) (C8.pe_c cP hr (by decide) rfl (pa_cons (pv 0) (pa_cons (pe_lst (pa_cons pe_str (pa_cons pe_str (pa_cons pe_str (pa_cons pe_str (pa_cons (pe_op op_mulS pe_str pe_int) (pa_cons pe_str (pa_cons pe_str (pa_cons pe_str (pa_cons pe_str (pa_cons pe_str (pa_cons pe_str pa_nil)))))))))))) pa_nil))))
      (pss_cons (ps_if (pt_cmpR op_eq (pv 2) pe_int (nomark _)) (pss_one (ps_ret (pe_op op_cat (pe_op op_cat (pe_slice sl_list (pv 1) po_none (po_some (pv 3))) (pe_lst (pa_cons (pv 4) pa_nil))) (pe_slice sl_list (pv 1) (po_some (pe_op op_add (pv 3) pe_int)) po_none)))) pss_nil)
      (pss_cons (ps_if (pt_cmpR op_eq (pv 2) pe_int (nomark _)) (pss_one (ps_ret (pe_op op_cat (pe_op op_cat (pe_slice sl_list (pv 1) po_none (po_some (pv 3))) (pe_lst (pa_cons (C8.pe_c cP hr (by decide) rfl (pa_cons (pv 0) (pa_cons (pe_lst (pa_cons pe_str (pa_cons pe_str (pa_cons pe_str (pa_cons pe_str (pa_cons pe_str pa_nil)))))) pa_nil))) pa_nil))) (pe_slice sl_list (pv 1) (po_some (pe_op op_add (pv 3) pe_int)) po_none)))) pss_nil)
      (pss_cons (ps_if (pt_cmpR op_eq (pv 2) pe_int (nomark _)) (pss_one (ps_ret (pe_op op_cat (pe_op op_cat (pe_slice sl_list (pv 1) po_none (po_some (pv 3))) (pe_lst (pa_cons pe_str pa_nil))) (pe_slice sl_list (pv 1) (po_some (pv 3)) po_none)))) pss_nil)
      (pss_one (ps_ret (pe_ifExp (PW.pt (pw_and (pt_cmpR op_eq (pv 2) pe_int (nomark _)) (pw_and1 (pt_cmpR op_gt (pe_callB call_len (by rfl) T.len PySem.boot_len (pa_cons (pv 1) pa_nil)) pe_int (nomark _)))))
        (pe_slice sl_list (pv 1) po_none (po_some (pe_un un_neg pe_int)))
        (pe_op op_cat (pv 1) (pe_lst (pa_cons (C8.pe_c cP hr (by decide) rfl (pa_cons (pv 0) (pa_cons (pe_lst (pa_cons pe_str (pa_cons pe_str (pa_cons pe_str (pa_cons pe_str pa_nil))))) pa_nil))) pa_nil)))))))))), ?_⟩
    have hpos : 0 < ws.length := List.length_pos_iff.mpr hne
    refine ⟨_, rfl, a, 5, I, N, rfl, hI, hp, by omega, by decide, by decide, fun r1 I1 H1 a1 b1 g1 p1 => ?_⟩
    refine ⟨_, rfl, _, rfl, _, ws.length, rfl, .inl ⟨_, sqK (g1.sub _ _ (g1.ext _ _ ib)), by rw [List.length_map]⟩, a, (ws.length : Int), I1, N + 1, rfl, g1.sub, p1, by omega, by omega, by omega, fun r2 I2 H2 a2 b2 g2 p2 => ?_⟩
    have g12 := g1.trans g2
    obtain ⟨at_, rfl⟩ : ∃ n : Nat, r2 = (n : Int) := ⟨r2.toNat, by omega⟩
    refine ⟨_, _, rfl, ?_⟩
    refine ⟨_, rfl, _, _, rfl, rfl, ⟨rfl, fun _ _ => by decide, fun _ _ => by decide +kernel⟩, (by show 11 ≤ sizeLine; decide), fun q hq => ?_⟩
    have e25 : Txt.mul ("y" : Str) 25 = "yyyyyyyyyyyyyyyyyyyyyyyyy" := by decide +kernel
    have eo : ([.str "Next", .str "", .str "a-b", .str "A", .str (Txt.mul "y" 25), .str "~", .str "TRUEa", .str "aTRUE", .str "FALSE", .str "a\n", .str "EVER,"] : List V) = oddW.map V.str := by rw [e25]; rfl
    have g3 : Go (At1 a) I H I2 (upd H2 q (.lst [.str "Next", .str "", .str "a-b", .str "A", .str (Txt.mul "y" 25), .str "~", .str "TRUEa", .str "aTRUE", .str "FALSE", .str "a\n", .str "EVER,"])) := g12.trans (Go.tmp g12.sub hq)
    refine ⟨a, q, _, I2, N + 2, rfl, g3.sub, p2.tmp g12.sub hq, by omega, upd_same, p2.ne hq, by decide, by decide, fun v I3 H3 hv g4 p3 => ?_⟩
    replace hv : v ∈ ([.str "Next", .str "", .str "a-b", .str "A", .str (Txt.mul "y" 25), .str "~", .str "TRUEa", .str "aTRUE", .str "FALSE", .str "a\n", .str "EVER,"] : List V) := hv
    rw [eo] at hv
    obtain ⟨od, rfl, hod⟩ := mem_strs hv
    have g5 := g3.trans g4
    have hb3 := g5.sub _ _ (g5.ext _ _ ib)
    have e1 : cutV (ws.map V.str) none (some (at_ : Int)) = (ws.take at_).map V.str := (cut_hi (ws.map V.str) at_).trans List.map_take.symm
    have e2 : cutV (ws.map V.str) (some ((at_ : Int) + 1)) none = (ws.drop (at_ + 1)).map V.str := (cut_lo (ws.map V.str) (at_ + 1)).trans List.map_drop.symm
    have e3 : cutV (ws.map V.str) (some (at_ : Int)) none = (ws.drop at_).map V.str := (cut_lo (ws.map V.str) at_).trans List.map_drop.symm
    refine ⟨_, rfl, rfl, _, rfl, ite2 (fun h0 => ?_) (fun h0 => ?_)⟩
    · skip
      refine ⟨_, rfl, _, rfl, _, rfl, b, _, rfl, sqK hb3, fun s1 hs1 => ?_⟩
      rw [e1]
      have g6 := g5.tmp' (o := .lst ((ws.take at_).map V.str)) hs1
      have q6 : Pen I3 (upd H3 s1 (.lst ((ws.take at_).map V.str))) a (N + 3) := p3.tmp g5.sub hs1
      have wx : Wz [od] := wz_odd.one hod
      refine ⟨_, rfl, (by show 1 ≤ sizeLine; decide), fun s2 hs2 => ?_⟩
      have g7 := g6.tmp' (o := .lst [.str od]) hs2
      have q7 := q6.tmp (o := .lst [.str od]) g6.sub hs2
      refine ⟨s1, s2, _, _, rfl, rfl, by rw [upd_ne (ne_of_none upd_same hs2)]; exact upd_same, upd_same, by rw [List.length_map, List.length_take]; exact szl (by show min _ _ + 1 ≤ _; omega), fun s3 hs3 => ?_⟩
      have g8 := g7.tmp' (o := .lst ((ws.take at_).map V.str ++ [.str od])) hs3
      have q8 := q7.tmp (o := .lst ((ws.take at_).map V.str ++ [.str od])) g7.sub hs3
      refine ⟨_, rfl, _, rfl, _, _, rfl, rfl, _, rfl, b, _, rfl, sqK (g8.sub _ _ (g8.ext _ _ ib)), fun s4 hs4 => ?_⟩
      rw [e2]
      have g9 := g8.tmp' (o := .lst ((ws.drop (at_ + 1)).map V.str)) hs4
      have q9 := q8.tmp (o := .lst ((ws.drop (at_ + 1)).map V.str)) g8.sub hs4
      refine ⟨s3, s4, _, _, rfl, rfl, by rw [upd_ne (ne_of_none upd_same hs4)]; exact upd_same, upd_same, by rw [List.length_append, List.length_map, List.length_take, List.length_map, List.length_drop]; exact szl (by show min _ _ + 1 + _ ≤ _; omega), fun s5 hs5 => ?_⟩
      rw [show ((ws.take at_).map V.str ++ [V.str od] ++ (ws.drop (at_ + 1)).map V.str) = (ws.take at_ ++ [od] ++ ws.drop (at_ + 1)).map V.str by rw [List.map_append, List.map_append]; rfl]
      refine k s5 _ _ (ws.take at_ ++ [od] ++ ws.drop (at_ + 1)) (g9.new' hs5) ((q9.new g9.sub hs5).mono (by omega)) upd_same ?_
      exact ((((hw.sub fun z hz => List.mem_of_mem_take hz).app wx).app (hw.sub fun z hz => List.mem_of_mem_drop hz))).wd (by simp) (by rw [List.length_append, List.length_append, List.length_take, List.length_drop]; show min _ _ + 1 + _ ≤ _; omega)
    · refine ⟨_, rfl, rfl, _, rfl, ite2 (fun h1 => ?_) (fun h1 => ?_)⟩
      · skip
        refine ⟨_, rfl, _, rfl, _, rfl, b, _, rfl, sqK hb3, fun s1 hs1 => ?_⟩
        rw [e1]
        have g6 := g5.tmp' (o := .lst ((ws.take at_).map V.str)) hs1
        have q6 : Pen I3 (upd H3 s1 (.lst ((ws.take at_).map V.str))) a (N + 3) := p3.tmp g5.sub hs1
        refine ⟨_, rfl, (by show 5 ≤ sizeLine; decide), fun q2 hq2 => ?_⟩
        have g61 := g6.tmp' (o := .lst (putW.map V.str)) hq2
        refine ⟨a, q2, putW.map V.str, I3, N + 3, rfl, g61.sub, q6.tmp g6.sub hq2, by omega, upd_same, q6.ne hq2, by decide, by decide, fun v4 I4 H4 hv4 g41 q41 => ?_⟩
        obtain ⟨x, rfl, hx⟩ := mem_strs hv4
        have wx := wz_put.one hx
        have g62 := g61.trans g41
        have e41 : H4 s1 = some (.lst ((ws.take at_).map V.str)) := g41.same s1 _ (fun z => p3.ne hs1 z) (by rw [upd_ne (ne_of_none upd_same hq2)]; exact upd_same)
        refine ⟨(by show 1 ≤ sizeLine; decide), fun s2 hs2 => ?_⟩
        have g7 := g62.tmp' (o := .lst [.str x]) hs2
        have q7 := q41.tmp (o := .lst [.str x]) g62.sub hs2
        refine ⟨s1, s2, _, _, rfl, rfl, by rw [upd_ne (ne_of_none e41 hs2)]; exact e41, upd_same, by rw [List.length_map, List.length_take]; exact szl (by show min _ _ + 1 ≤ _; omega), fun s3 hs3 => ?_⟩
        have g8 := g7.tmp' (o := .lst ((ws.take at_).map V.str ++ [.str x])) hs3
        have q8 := q7.tmp (o := .lst ((ws.take at_).map V.str ++ [.str x])) g7.sub hs3
        refine ⟨_, rfl, _, rfl, _, _, rfl, rfl, _, rfl, b, _, rfl, sqK (g8.sub _ _ (g8.ext _ _ ib)), fun s4 hs4 => ?_⟩
        rw [e2]
        have g9 := g8.tmp' (o := .lst ((ws.drop (at_ + 1)).map V.str)) hs4
        have q9 := q8.tmp (o := .lst ((ws.drop (at_ + 1)).map V.str)) g8.sub hs4
        refine ⟨s3, s4, _, _, rfl, rfl, by rw [upd_ne (ne_of_none upd_same hs4)]; exact upd_same, upd_same, by rw [List.length_append, List.length_map, List.length_take, List.length_map, List.length_drop]; exact szl (by show min _ _ + 1 + _ ≤ _; omega), fun s5 hs5 => ?_⟩
        rw [show ((ws.take at_).map V.str ++ [V.str x] ++ (ws.drop (at_ + 1)).map V.str) = (ws.take at_ ++ [x] ++ ws.drop (at_ + 1)).map V.str by rw [List.map_append, List.map_append]; rfl]
        refine k s5 _ _ (ws.take at_ ++ [x] ++ ws.drop (at_ + 1)) (g9.new' hs5) ((q9.new g9.sub hs5).mono (by omega)) upd_same ?_
        exact ((((hw.sub fun z hz => List.mem_of_mem_take hz).app wx).app (hw.sub fun z hz => List.mem_of_mem_drop hz))).wd (by simp) (by rw [List.length_append, List.length_append, List.length_take, List.length_drop]; show min _ _ + 1 + _ ≤ _; omega)
      · refine ⟨_, rfl, rfl, _, rfl, ite2 (fun h2 => ?_) (fun h2 => ?_)⟩
        · skip
          refine ⟨_, rfl, _, rfl, _, rfl, b, _, rfl, sqK hb3, fun s1 hs1 => ?_⟩
          rw [e1]
          have g6 := g5.tmp' (o := .lst ((ws.take at_).map V.str)) hs1
          have q6 : Pen I3 (upd H3 s1 (.lst ((ws.take at_).map V.str))) a (N + 3) := p3.tmp g5.sub hs1
          have wx : Wz ([("" : Str)] : List Str) := wz_end.one (z := "") (by decide)
          refine ⟨(by show 1 ≤ sizeLine; decide), fun s2 hs2 => ?_⟩
          have g7 := g6.tmp' (o := .lst [.str ("" : Str)]) hs2
          have q7 := q6.tmp (o := .lst [.str ("" : Str)]) g6.sub hs2
          refine ⟨s1, s2, _, _, rfl, rfl, by rw [upd_ne (ne_of_none upd_same hs2)]; exact upd_same, upd_same, by rw [List.length_map, List.length_take]; exact szl (by show min _ _ + 1 ≤ _; omega), fun s3 hs3 => ?_⟩
          have g8 := g7.tmp' (o := .lst ((ws.take at_).map V.str ++ [.str ("" : Str)])) hs3
          have q8 := q7.tmp (o := .lst ((ws.take at_).map V.str ++ [.str ("" : Str)])) g7.sub hs3
          refine ⟨_, rfl, _, rfl, _, rfl, b, _, rfl, sqK (g8.sub _ _ (g8.ext _ _ ib)), fun s4 hs4 => ?_⟩
          rw [e3]
          have g9 := g8.tmp' (o := .lst ((ws.drop (at_)).map V.str)) hs4
          have q9 := q8.tmp (o := .lst ((ws.drop (at_)).map V.str)) g8.sub hs4
          refine ⟨s3, s4, _, _, rfl, rfl, by rw [upd_ne (ne_of_none upd_same hs4)]; exact upd_same, upd_same, by rw [List.length_append, List.length_map, List.length_take, List.length_map, List.length_drop]; exact szl (by show min _ _ + 1 + _ ≤ _; omega), fun s5 hs5 => ?_⟩
          rw [show ((ws.take at_).map V.str ++ [V.str ("" : Str)] ++ (ws.drop (at_)).map V.str) = (ws.take at_ ++ ([("" : Str)] : List Str) ++ ws.drop (at_)).map V.str by rw [List.map_append, List.map_append]; rfl]
          refine k s5 _ _ (ws.take at_ ++ ([("" : Str)] : List Str) ++ ws.drop (at_)) (g9.new' hs5) ((q9.new g9.sub hs5).mono (by omega)) upd_same ?_
          exact ((((hw.sub fun z hz => List.mem_of_mem_take hz).app wx).app (hw.sub fun z hz => List.mem_of_mem_drop hz))).wd (by simp) (by rw [List.length_append, List.length_append, List.length_take, List.length_drop]; show min _ _ + 1 + _ ≤ _; omega)
        · refine ⟨_, rfl, rfl, _, rfl, ite2 (fun h3 => ?_) (fun h3 => iteF ?_)⟩
          · refine ⟨_, rfl, _, ws.length, rfl, .inl ⟨_, sqK hb3, by rw [List.length_map]⟩, _, _, rfl, rfl, _, rfl, ite2 (fun h4 => ?_) (fun h4 => ?_)⟩
            · have h4 : 1 < ws.length := by have := of_decide_eq_true h4; omega
              refine ⟨_, rfl, 1, rfl, -1, rfl, b, _, rfl, sqK hb3, fun s1 hs1 => ?_⟩
              rw [cut_m1, show (ws.map V.str).dropLast = ws.dropLast.map V.str from List.map_dropLast.symm]
              refine k s1 _ _ ws.dropLast (g5.new' hs1) ((p3.new g5.sub hs1).mono (by omega)) upd_same ?_
              exact (hw.sub fun z hz => (List.dropLast_sublist ws).subset hz).wd (fun e => by have := congrArg List.length e; rw [List.length_dropLast] at this; simp at this; omega) (by rw [List.length_dropLast]; omega)
            · skip
              refine ⟨_, rfl, _, rfl, (by show 4 ≤ sizeLine; decide), fun q2 hq2 => ?_⟩
              have g61 := g5.tmp' (o := .lst (endW.map V.str)) hq2
              refine ⟨a, q2, endW.map V.str, I3, N + 3, rfl, g61.sub, p3.tmp g5.sub hq2, by omega, upd_same, p3.ne hq2, by decide, by decide, fun v4 I4 H4 hv4 g41 q41 => ?_⟩
              obtain ⟨x, rfl, hx⟩ := mem_strs hv4
              have wx := wz_end.one hx
              have g62 := g61.trans g41
              refine ⟨(by show 1 ≤ sizeLine; decide), fun s2 hs2 => ?_⟩
              have g7 := g62.tmp' (o := .lst [.str x]) hs2
              have q7 := q41.tmp (o := .lst [.str x]) g62.sub hs2
              refine ⟨b, s2, _, _, rfl, rfl, g7.sub _ _ (g7.ext _ _ ib), upd_same, by rw [List.length_map]; exact szl (by show ws.length + 1 ≤ _; omega), fun s3 hs3 => ?_⟩
              rw [show (ws.map V.str ++ [V.str x]) = (ws ++ [x]).map V.str by rw [List.map_append]; rfl]
              refine k s3 _ _ (ws ++ [x]) (g7.new' hs3) ((q7.new g7.sub hs3).mono (by omega)) upd_same ?_
              exact (hw.app wx).wd (by simp) (by rw [List.length_append]; show ws.length + 1 ≤ _; omega)
          · skip
            refine ⟨_, rfl, _, rfl, (by show 4 ≤ sizeLine; decide), fun q2 hq2 => ?_⟩
            have g61 := g5.tmp' (o := .lst (endW.map V.str)) hq2
            refine ⟨a, q2, endW.map V.str, I3, N + 3, rfl, g61.sub, p3.tmp g5.sub hq2, by omega, upd_same, p3.ne hq2, by decide, by decide, fun v4 I4 H4 hv4 g41 q41 => ?_⟩
            obtain ⟨x, rfl, hx⟩ := mem_strs hv4
            have wx := wz_end.one hx
            have g62 := g61.trans g41
            refine ⟨(by show 1 ≤ sizeLine; decide), fun s2 hs2 => ?_⟩
            have g7 := g62.tmp' (o := .lst [.str x]) hs2
            have q7 := q41.tmp (o := .lst [.str x]) g62.sub hs2
            refine ⟨b, s2, _, _, rfl, rfl, g7.sub _ _ (g7.ext _ _ ib), upd_same, by rw [List.length_map]; exact szl (by show ws.length + 1 ≤ _; omega), fun s3 hs3 => ?_⟩
            rw [show (ws.map V.str ++ [V.str x]) = (ws ++ [x]).map V.str by rw [List.map_append]; rfl]
            refine k s3 _ _ (ws ++ [x]) (g7.new' hs3) ((q7.new g7.sub hs3).mono (by omega)) upd_same ?_
            exact (hw.app wx).wd (by simp) (by rw [List.length_append]; show ws.length + 1 ≤ _; omega)
end
end Tm
/-! the law's _law_long_right -/
namespace Tm
open PySem PySem.Spec PyProof.Rows L2
open LamX (Tabs TabB LamS lamS_by)
abbrev sLong : Stmt := top 41
/-- a call of Temporal that is right but too long -/
theorem tmake_big {C BT TM : Addr} {S : Addr → Prop} {I H1 : Hp} {Q : VK} {E : XK} {ps : List V} {m : Mdl} (hI : Same I H1) (hk : m.kids.length = ps.length) (hT : ∀ (i : Nat) p k, ps[i]? = some p → m.kids[i]? = some k → TIs C I p k) (hd : due m.head = some m.kids.length) (hh : m.head.length ≤ 100000) (hw : 40 < m.words.length) (hw2 : m.words.length ≤ 1000)
    (l : Leaves S I H1 TM fsTM E) : ∀ x dx, H1 x = none → H1 dx = none → dx ≠ x → spTInit C BT TM (.ref x :: .str m.head :: ps) (upd (upd H1 dx (.own x)) x (.ins C dx [])) (fun v H2 => v = .non ∧ Q (.ref x) H2) E := by
  have hkl : m.kids.length ≤ 2 := by cases m <;> simp [Mdl.kids]
  refine tmake (bs := List.replicate ps.length true) hI (.str _ hh) (by omega) (by simp) (fun i p b h1 h2 => ?_) (fun h => ?_) (fun n h h2 => ?_) fun n h h2 h3 => ⟨m, rfl, hk, hw2, hT, fun _ => l, fun z => absurd z (by omega)⟩
  · have hi : i < ps.length := (List.getElem?_eq_some_iff.mp h1).1
    have hb : b = true := by rw [List.getElem?_replicate] at h2; rw [if_pos hi] at h2; exact (Option.some.inj h2).symm
    subst hb
    exact (hT i p m.kids[i] h1 (List.getElem?_eq_getElem (by omega))).kn
  · exact absurd (show due m.head = none from h) (by rw [hd]; exact fun z => nomatch z)
  · have e : n = m.kids.length := by
      have : due m.head = some n := h
      rw [hd] at this; exact (Option.some.inj this).symm
    rcases h2 with h2 | h2
    · exact absurd (e.trans hk).symm h2
    · rw [List.all_eq_false] at h2
      obtain ⟨b, hb, hn⟩ := h2
      rw [(List.mem_replicate.mp hb).2] at hn
      exact absurd rfl hn
/-- a call of Temporal that is right, before a wish of any form -/
theorem tmake_ex {C BT TM : Addr} {I H1 : Hp} {Q : V → Hp → Prop} {E : XK} {ps : List V} {m : Mdl} (hI : Same I H1) (hk : m.kids.length = ps.length) (hT : ∀ (i : Nat) p k, ps[i]? = some p → m.kids[i]? = some k → TIs C I p k) (hd : due m.head = some m.kids.length) (hw : m.words.length ≤ 40) {x dx : Addr} (nx : H1 x = none) (nd : H1 dx = none) (ne : dx ≠ x)
    (q : ∀ (H2 I' : Hp), Go NoS I H1 I' H2 → TIs C I' (.ref x) m → Q .non H2) : spTInit C BT TM (.ref x :: .str m.head :: ps) (upd (upd H1 dx (.own x)) x (.ins C dx [])) Q E := by
  refine tinit_mono (tmake_m (S := NoS) (Q := fun y H2 => ∃ I', Go NoS I H1 I' H2 ∧ TIs C I' y m) hI hk hT hd (due_len (by rw [hd]; exact fun z => nomatch z)) hw (fun a I' H' g t => ⟨I', g, t⟩) x dx nx nd ne) ?_
  rintro v H' ⟨rfl, I', g, t⟩
  exact q H' I' g t
/-- heads before a saying -/
def longM (hs : List Str) (m : Mdl) : Mdl := hs.foldr Mdl.un m
theorem longM_words (hs : List Str) (m : Mdl) : (longM hs m).words = hs ++ m.words := by
  induction hs with
  | nil => rfl
  | cons z r ih =>
    show z :: (longM r m).words = z :: (r ++ m.words)
    rw [ih]
theorem longM_ok {hs : List Str} {m : Mdl} (h : ∀ z ∈ hs, due z = some 1) (o : m.ok) : (longM hs m).ok := by
  induction hs with
  | nil => exact o
  | cons z r ih => exact ⟨h z List.mem_cons_self, ih fun y hy => h y (List.mem_cons_of_mem _ hy)⟩
/-- what may change: the pen, the tables -/
def StT (T : List (Addr × Str)) (a : Addr) : Addr → Prop := fun b => b = a ∨ b ∈ T.map (·.1)
structure BinOk (P : Program) (w : World) (K : PySem.W.Frag) (mg : Str → Option Value) (base : Heap) (C BT TM : Addr) (op : Operator) (z : Str) : Prop where
  ex : ∃ f fd, TB K C f op ∧ FnOk P w K mg base (L2.CX P w) 5 f fd ["self", "other"] (spBin C BT TM z) ∧ Binds K fd ["self", "other"] []
theorem pe_bin {X : Cx} {C BT TM : Addr} {op : Operator} {z : Str} {E : XK} {j : Nat} {x y : Expr} {tx ty : TE} {pos : Pos} (hop : op = .BitAnd ∨ op = .BitOr) (B : BinOk X.prog X.w X.K X.mg X.base C BT TM op z) (hr : Room j X.A) (hj : 5 ≤ j) (hx : Passes (L2.CX X.prog X.w) X E) (h1 : PE X x tx) (h2 : PE X y ty) :
    PE X (.BinOp x op y pos) (tOp (rOwnB C (spBin C BT TM z) E) tx ty) := by
  obtain ⟨f, fd, tb, F, b⟩ := B.ex
  exact pe_op (op_ownB hop tb F b hr hj hx) h1 h2
/-- the pen and the tables, as a def of the law holds them -/
structure Wk (T : List (Addr × Str)) (I H : Hp) (a : Addr) (N : Nat) : Prop where
  sub : Same I H
  pen : Pen I H a N
  tab : Tabs T H
  no : ∀ p ∈ T, I p.1 = none
  ne : ∀ p ∈ T, p.1 ≠ a
theorem Wk.go {T : List (Addr × Str)} {I H I' H' : Hp} {a : Addr} {N : Nat} (k : Wk T I H a N) (g : Go NoS I H I' H') : Wk T I' H' a N :=
  ⟨g.sub, k.pen.go g id, k.tab.ext g.same_all, fun p hp => let ⟨ps, h, _⟩ := k.tab p hp; g.fr _ _ h (k.no p hp), k.ne⟩
theorem Wk.draw {T : List (Addr × Str)} {I H I' H' : Hp} {a : Addr} {N M : Nat} (k : Wk T I H a N) (g : Go (At1 a) I H I' H') (p : Pen I' H' a M) : Wk T I' H' a M := by
  refine ⟨g.sub, p, fun q hq => ?_, fun q hq => let ⟨ps, h, _⟩ := k.tab q hq; g.fr _ _ h (k.no q hq), k.ne⟩
  obtain ⟨ps, h1, h2, h3⟩ := k.tab q hq
  refine ⟨ps, g.same _ _ (k.ne q hq) h1, h2, fun pos cv hc => ?_⟩
  obtain ⟨c, e1, e2⟩ := h3 pos cv hc
  refine ⟨c, e1, g.same _ _ (fun z => ?_) e2⟩
  obtain ⟨_, _, _, _, z1, _⟩ := k.pen
  rw [z, z1] at e2
  unfold LamX.CodeO at e2
  cases Option.some.inj e2
theorem Wk.lam {T : List (Addr × Str)} {I H H1 : Hp} {a Pt : Addr} {q : Str} {N : Nat} (k : Wk T I H a N) (hm : (Pt, q) ∈ T) (e : ButP Pt H H1) (t : Tabs T H1) : Wk T I H1 a N ∧ Go (At1 Pt) I H I H1 := by
  have iP := k.no _ hm
  obtain ⟨ps, hp, _⟩ := t _ hm
  have g := Go.butP k.sub iP e ⟨_, hp⟩
  exact ⟨⟨g.sub, k.pen.go g (fun z => k.ne _ hm z.symm), t, k.no, k.ne⟩, g⟩
theorem Wk.at1 {T : List (Addr × Str)} {I H I' H' : Hp} {a Pt : Addr} {q : Str} {N : Nat} (k : Wk T I H a N) (hm : (Pt, q) ∈ T) (g : Go (At1 Pt) I H I' H') (t : Tabs T H') : Wk T I' H' a N :=
  ⟨g.sub, k.pen.go g (fun z => k.ne _ hm z.symm), t, fun p hp => let ⟨ps, h, _⟩ := k.tab p hp; g.fr _ _ h (k.no p hp), k.ne⟩
theorem stT_pen {T : List (Addr × Str)} {a : Addr} : ∀ b, At1 a b → StT T a b := fun b h => .inl h
theorem stT_tab {T : List (Addr × Str)} {a Pt : Addr} {q : Str} (hm : (Pt, q) ∈ T) : ∀ b, At1 Pt b → StT T a b := fun b h => .inr (by rw [show b = Pt from h]; exact List.mem_map_of_mem hm)
def spLong (T : List (Addr × Str)) : Sp := fun vs H Q _ => ∃ (a b : Addr) (m : Mdl) (I : Hp) (N : Nat), vs = [.ref a, .ref b] ∧ Wk T I H a N ∧ MIs I (.ref b) m ∧ m.ok ∧ m.deep ≤ 4 ∧ N + 60 < MaxN ∧ ∀ (I' H' : Hp), Go (StT T a) I H I' H' → Wk T I' H' a (N + 60) → Q (.bl true) H'
abbrev nLong : List Str := ["pen", "model", "words", "heads", "head", "made", "more", "again"]
abbrev headW : List Str := ["NOT", "NEXT", "ALWAYS", "ONCE"]
abbrev moreW : List Str := ["EVER", "NOT", "BEFORE"]
section
variable {P : Program} {w : World} {K : PySem.W.Frag} {mg : Str → Option Value} {base : Heap} {C SE BT BX TM : Addr}
theorem scLong : FnScope nLong ["pen", "model"] (defScope sLong) := ⟨rfl, rfl, rfl, by decide +kernel, rfl, by decide +kernel, by decide +kernel⟩
theorem ok_long {T : List (Addr × Str)} {Pl Pr c f : Addr} {fd : FuncData} (F : FunL K "_law_long_right" sLong f fd c) (TB : TabB base mg c Pl) (hmT : (Pl, qLam "_law_long_right") ∈ T) (hu : ∀ p ∈ T, p.1 = Pl → p.2 = qLam "_law_long_right") (hmR : (Pr, qLam "_law_is_read") ∈ T) (TT : TC K mg C) (G : TFi mg) (R : TR mg) (hrv : mg "reversed" = none)
    (M : TmOk P w K mg base C BT TM) (MF : FrOk P w K mg base C BX TM) (BA : BinOk P w K mg base C BT TM .BitAnd "AND") (EQ : EqOk P w K mg base C) (hd : HdOk K mg SE BT BX TM) (cW : C8.Cal P w K mg base 5 "_law_words" (spLWords 4) []) (cM : C8.Cal P w K mg base 9 "_law_made" (spLMade C 4) []) (cP : C8.Cal P w K mg base 2 "_law_pick" spPick [])
    (cR : CalG P w K mg base 9 "_law_is_read" (spIsRead T Pr) []) : FnG P w K mg base CX0 10 f fd ["pen", "model"] (spLong T) := by
  refine F.okG scLong (fun vs H Q E h => ?_) (fun A outer s H vs Q E ng hr h => ?_)
  · obtain ⟨a, b, m, I, N, rfl, _⟩ := h
    rfl
  · obtain ⟨a, b, m, I, N, rfl, wk, mb, ho, hdp, hN, k⟩ := h
    refine ⟨_, pss_cons (ps_asg (pe_tup (pa_cons (C8.pe_c cW hr (by decide) rfl (pa_cons (pv 1) pa_nil)) (pa_cons (C8.pe_c cM hr (by decide) rfl (pa_cons (pv 1) pa_nil)) pa_nil))) (pg_tup rfl (pgs_cons (pg_name (i := 2) scLong.nd rfl (Or.inl rfl)) (pgs_cons (pg_name (i := 5) scLong.nd rfl (Or.inr rfl)) pgs_nil))))
      (pss_cons (ps_setLc (i := 3) (own := [("again", 7)]) (g := gName 7) (tt := tYes) rfl scLong.nd rfl rfl (sw_true rfl rfl rfl rfl) (pi_range1 (by rfl) R.range (pa_cons (pe_op op_sub pe_int (pe_callB call_len (by rfl) TT.len PySem.boot_len (pa_cons (pv 2) pa_nil))) pa_nil)) (blkOk_by (N := nLong) (sc := defScope sLong) (by decide +kernel))
        (fun _ _ _ _ _ => pg_name (i := 7) scLong.nd rfl (Or.inl rfl)) (fun _ _ _ _ _ => pts_nil) (fun _ _ _ _ _ => by exact C8.pe_c cP hr (by decide) rfl (pa_cons (pv 0) (pa_cons (pe_lst (pa_cons pe_str (pa_cons pe_str (pa_cons pe_str (pa_cons pe_str pa_nil))))) pa_nil))))
      (pss_cons (ps_for PassesOwn.never rfl (pi_reversed (by rfl) hrv (pa_cons (pe_callTy call_list_of (by rfl) G.list (by decide +kernel) (pa_cons (pv 3) pa_nil)) pa_nil)) (pg_name (i := 4) scLong.nd rfl (Or.inl rfl))
        (pss_one (ps_set (i := 5) scLong.nd rfl (Or.inr rfl) (pe_T M hr (by decide) rfl passL (pa_cons (pv 4) (pa_cons (pv 5) pa_nil))))))
      (pss_cons (ps_set (i := 6) scLong.nd rfl (Or.inr rfl) (C8.pe_c cP hr (by decide) rfl (pa_cons (pv 0) (pa_cons (pe_lst (pa_cons pe_str (pa_cons pe_str (pa_cons pe_str pa_nil)))) pa_nil))))
      (pss_cons (ps_if (PW.pt (pw_or (pt_cmpR (op_neD hr.units) (pe_heard (T := T) (P := Pl) (k := 4) (t := fun E => StX.tMakeR C (spTInit C BT TM) E (tCons (tVar 6) (tCons (tVar 5) tNil))) hd rfl TB rfl hmT hu hr (by decide) (lamS_by (sc := defScope sLong) (by decide +kernel)) rfl (fun _ _ _ _ _ => rfl)
            (fun A outer s H E f c' hr2 => pe_T M hr2 (by decide) rfl (passes_call (takes_of rfl rfl rfl rfl) (fun _ _ _ _ h => h)) (pa_cons (pv 6) (pa_cons (pv 5) pa_nil)))) (pe_tup (pa_cons pe_str (pa_cons pe_str (pa_cons pe_int pa_nil)))) (nomark _))
          (pw_or1 (pt_not (pt_val (pe_cG cR ng hr (by decide) rfl (pa_cons (pe_op op_cat (pe_op op_cat (pe_lst (pa_cons (pv 6) pa_nil)) (pv 3)) (pv 2)) pa_nil)))))))
        (pss_one (ps_ret pe_bl)) pss_nil)
      (pss_cons (ps_if (pt_cmpR (op_neD hr.units) (pe_heard (T := T) (P := Pl) (k := 5) (t := fun E => tOp (rOwnB C (spBin C BT TM "AND") E) (tVar 5) (StX.tMakeR C (spTInit C BT TM) E (tCons (tC (.str "TRUE")) tNil))) hd rfl TB rfl hmT hu hr (by decide) (lamS_by (sc := defScope sLong) (by decide +kernel)) rfl (fun _ _ _ _ _ => rfl)
            (fun A outer s H E f c' hr2 => pe_bin (.inl rfl) BA hr2 (by decide) (passes_call (takes_of rfl rfl rfl rfl) (fun _ _ _ _ h => h)) (pv 5) (pe_T M hr2 (by decide) rfl (passes_call (takes_of rfl rfl rfl rfl) (fun _ _ _ _ h => h)) (pa_cons pe_str pa_nil)))) (pe_tup (pa_cons pe_str (pa_cons pe_str (pa_cons pe_int pa_nil)))) (nomark _))
        (pss_one (ps_ret pe_bl)) pss_nil)
      (pss_one (ps_ret (pe_and (pe_cG cR ng hr (by decide) rfl (pa_cons (pe_op op_cat (pv 3) (pv 2)) pa_nil)) (pe_one (pe_cmpR (op_eqT EQ hr (by decide)) (pv 5) (pe_from MF hr (by decide) passL (pe_glob (v := .ref C) rfl TT.mgC rfl) (pe_join pe_str (pe_op op_cat (pv 3) (pv 2)))) (nomark _))))))))))), ?_⟩
    have hwl : m.words.length < 32 := Nat.lt_of_lt_of_le (Mdl.words_len m) (Nat.pow_le_pow_right (by decide) (show m.deep + 1 ≤ 5 by omega))
    have hpos := Mdl.words_pos m
    refine ⟨_, rfl, b, m, I, rfl, wk.sub, mb, hdp, by omega, fun p I1 H1 g1 ip => ?_⟩
    refine ⟨_, rfl, b, m, I1, rfl, g1.sub, mb.ext g1.ext, ho, hdp, by omega, fun pm I2 H2 g2 tm => ⟨(by show 2 ≤ sizeLine; decide), fun t ht => ⟨t, _, rfl, stK upd_same, rfl, _, _, rfl, _, _, rfl, rfl, ?_⟩⟩⟩
    have g3 : Go NoS I H I2 (upd H2 t (.tup [.ref p, .ref pm])) := (g1.trans g2).tmp' ht
    have ip2 := g2.ext _ _ ip
    have wk3 := wk.go g3
    generalize upd H2 t (.tup [.ref p, .ref pm]) = H3 at g3 wk3 ⊢
    refine ⟨_, rfl, _, m.words.length, rfl, .inl ⟨_, sqK (g3.sub _ _ ip2), by rw [List.length_map]⟩, _, _, rfl, rfl, _, rfl, by omega, by omega, fun D hD => lc_it (walk_range (n := (40 - (m.words.length : Int)).toNat)) (fun i H' => ∃ (I' : Hp) (hs : List Str), hs.length = i ∧ (∀ z ∈ hs, z ∈ headW) ∧ Same I2 I' ∧ Go (At1 a) I H I' H' ∧ Wk T I' H' a (N + i) ∧ I' D = none ∧ H' D = some (.lst (hs.map V.str)))
      ⟨I2, [], rfl, (fun z hz => nomatch hz), Same.refl _, (g3.tmp' hD).any, wk.go (g3.tmp' hD), g3.sub.free hD, upd_same⟩ (fun _ _ _ _ => trivial) ?_ ?_⟩
    · rintro i x H4 H5 hi ⟨I4, hs, hl, hmem, s4, g4, wk4, iD, eD⟩ ⟨rfl, rfl⟩
      refine ⟨rfl, ?_⟩
      refine ⟨_, rfl, (by show 4 ≤ sizeLine; decide), fun q hq => ?_⟩
      have wk5 := wk4.go (Go.tmp (S := NoS) (o := .lst (headW.map V.str)) wk4.sub hq)
      refine ⟨a, q, headW.map V.str, I4, N + i, rfl, wk5.sub, wk5.pen, by omega, upd_same, wk4.pen.ne hq, by decide, by decide, fun v I6 H6 hv g6 p6 => ?_⟩
      obtain ⟨z, rfl, hz⟩ := mem_strs hv
      have wk6 := wk5.draw g6 p6
      have nDa : D ≠ a := wk3.pen.ne hD
      have eD6 : H6 D = some (.lst (hs.map V.str)) := g6.same D _ nDa (by rw [upd_ne (ne_of_none eD hq)]; exact eD)
      have iD6 : I6 D = none := g6.fr D _ (by rw [upd_ne (ne_of_none eD hq)]; exact eD) iD
      have g7 := (g4.tmp' (o := .lst (headW.map V.str)) hq).trans g6
      refine ⟨_, eD6, ?_, I6, hs ++ [z], ?_, ?_, s4.trans g6.ext, Go.putNew g7 iD6 (g3.back hD), ?_, iD6, ?_⟩
      · rw [List.length_map]
        exact Nat.lt_of_le_of_lt (by omega : _ ≤ 40) (by decide)
      · rw [List.length_append, hl]; rfl
      · intro y hy
        rcases List.mem_append.mp hy with hy | hy
        · exact hmem y hy
        · rw [List.mem_singleton.mp hy]; exact hz
      · have gp : Go (fun b => b = D) I6 H6 I6 (upd H6 D (.lst (hs.map V.str ++ [.str z]))) := Go.put wk6.sub iD6 rfl eD6
        refine ⟨gp.sub, wk6.pen.go gp (fun z => nDa z.symm), fun q hq => ?_, wk6.no, wk6.ne⟩
        obtain ⟨ps, h1, h2, h3⟩ := wk6.tab q hq
        refine ⟨ps, gp.same _ _ (fun z => by rw [z, eD6] at h1; cases h1) h1, h2, fun pos cv hc => ?_⟩
        obtain ⟨c0, e1, e2⟩ := h3 pos cv hc
        refine ⟨c0, e1, gp.same _ _ (fun z => ?_) e2⟩
        rw [z, eD6] at e2
        unfold LamX.CodeO at e2
        cases Option.some.inj e2
      · rw [upd_same, List.map_append]; rfl
    · rintro H4 ⟨I4, hs, hl, hmem, s4, g4, wk4, iD, eD⟩
      have hn : hs.length + m.words.length = 40 := by omega
      have kD : Wk T (upd I4 D (.lst (hs.map V.str))) H4 a (N + (40 - (m.words.length : Int)).toNat) ∧ Go (At1 a) I H (upd I4 D (.lst (hs.map V.str))) H4 ∧ Same I4 (upd I4 D (.lst (hs.map V.str))) := by
        have gk := g4.keep iD (g3.back hD) eD
        have se : Same I4 (upd I4 D (.lst (hs.map V.str))) := fun b o h => by rw [upd_ne (ne_of_none h iD)]; exact h
        refine ⟨⟨gk.sub, ?_, wk4.tab, fun q hq => ?_, wk4.ne⟩, gk, se⟩
        · obtain ⟨c1, ns, x1, x2, z1, z2, z3, z4⟩ := wk4.pen
          exact ⟨c1, ns, x1, x2, z1, by rw [upd_ne (fun z => wk3.pen.ne hD z.symm)]; exact z2, se _ _ z3, z4⟩
        · obtain ⟨ps, h1, _⟩ := wk4.tab q hq
          rw [upd_ne (fun z => by rw [z, eD] at h1; cases h1)]
          exact wk4.no q hq
      obtain ⟨wk5, g5, s45⟩ := kD
      have iD5 : (upd I4 D (.lst (hs.map V.str))) D = some (.lst (hs.map V.str)) := upd_same
      have s5 : Same I2 (upd I4 D (.lst (hs.map V.str))) := s4.trans s45
      have hN5 : N + (40 - (m.words.length : Int)).toNat + 5 < MaxN := by omega
      have hN7 : N + (40 - (m.words.length : Int)).toNat + 10 ≤ N + 60 := by omega
      generalize upd I4 D (.lst (hs.map V.str)) = I5 at wk5 g5 s45 iD5 s5
      generalize N + (40 - (m.words.length : Int)).toNat = N5 at wk5 hN5 hN7
      refine ⟨_, rfl, D, _, rfl, .inl (sqK eD), fun l hl0 => ?_⟩
      have gl := Go.new (S := NoS) (o := .lst (hs.map V.str)) wk5.sub hl0
      have il : (upd I5 l (.lst (hs.map V.str))) l = some (.lst (hs.map V.str)) := upd_same
      have g6 := g5.trans gl.any
      have wk6 := wk5.go gl
      have s6 : Same I2 (upd I5 l (.lst (hs.map V.str))) := s5.trans gl.ext
      have iD6 := gl.ext _ _ iD5
      generalize upd H4 l (.lst (hs.map V.str)) = H6 at g6 wk6 ⊢
      generalize upd I5 l (.lst (hs.map V.str)) = I6 at g6 wk6 s6 iD6 il
      refine ⟨l, _, rfl, sqK (wk6.sub _ _ il), for_it (walk_rev (xs := hs.map V.str)) (fun j σ H' => ∃ (I' : Hp) (pv : Addr) (o4 o7 : Option V), j ≤ hs.length ∧ Go (At1 a) I H I' H' ∧ Wk T I' H' a N5 ∧ Same I6 I' ∧ TIs C I' (.ref pv) (longM (hs.drop (hs.length - j)) m) ∧
        σ = [some (V.ref a), some (.ref b), some (.ref p), some (.ref D), o4, some (.ref pv), none, o7]) ⟨I6, pm, _, _, Nat.zero_le _, g6, wk6, Same.refl _, by rw [Nat.sub_zero, List.drop_length]; exact tm.ext s6, rfl⟩ (fun j σ H' _ h => ?_) ?_ ?_⟩
      · obtain ⟨I', pv, o4, o7, _, g, w, s, _⟩ := h
        exact sqK (w.sub _ _ (s _ _ il))
      · rintro j x σ H7 H8 hj ⟨I7, pv, o4, o7, _, g7, wk7, s7, t7, rfl⟩ ⟨rfl, hx⟩
        rw [List.length_map] at hj hx
        have hk : hs.length - 1 - j < hs.length := by omega
        rw [List.getElem?_map, List.getElem?_eq_getElem hk] at hx
        cases hx
        have hz := hmem _ (List.getElem_mem hk)
        have hdr : hs.drop (hs.length - (j + 1)) = hs[hs.length - 1 - j] :: hs.drop (hs.length - j) := by
          rw [show hs.length - (j + 1) = hs.length - 1 - j by omega, List.drop_eq_getElem_cons hk, show hs.length - 1 - j + 1 = hs.length - j by omega]
        have hdue : due hs[hs.length - 1 - j] = some 1 := (by decide +kernel : ∀ z ∈ headW, due z = some 1) _ hz
        generalize hs[hs.length - 1 - j] = z at hz hdr hdue
        refine ⟨_, rfl, _, rfl, fun x dx n1 n2 n3 => tmake_ex (m := .un z (longM (hs.drop (hs.length - j)) m)) (ps := [.ref pv]) wk7.sub rfl (fun i p k h1 h2 => ?_) hdue ?_ n1 n2 n3 fun H9 I9 g9 t9 => ⟨rfl, ?_⟩⟩
        · match i with
          | 0 => cases h1; cases h2; exact t7
          | i + 1 => simp at h1
        · show (longM (hs.drop (hs.length - j)) m).words.length + 1 ≤ 40
          rw [longM_words, List.length_append, List.length_drop]
          omega
        · exact ⟨I9, x, _, _, hj, g7.trans g9.any, wk7.go g9, s7.trans g9.ext, by rw [hdr]; exact t9, rfl⟩
      · rintro σ H7 ⟨I7, pv, o4, o7, _, g7, wk7, s7, t7, rfl⟩
        rw [List.length_map, Nat.sub_self, List.drop_zero] at t7
        have iD7 := s7 _ _ iD6
        have ip7 := s7 _ _ (s6 _ _ ip2)
        have hMw : (longM hs m).words = hs ++ m.words := longM_words hs m
        have hMl : (longM hs m).words.length = 40 := by rw [hMw, List.length_append]; exact hn
        have due1 : ∀ z ∈ hs, due z = some 1 := fun z hz => (by decide +kernel : ∀ z ∈ headW, due z = some 1) _ (hmem z hz)
        have hMo : (longM hs m).ok := longM_ok due1 ho
        have dM : ∀ z ∈ hs ++ m.words, due z ≠ none := by rw [← hMw]; exact ok_words hMo
        have wzM : Wz (hs ++ m.words) := Wz.due dM
        generalize longM hs m = M at t7 hMw hMl hMo
        refine ⟨_, rfl, (by show 3 ≤ sizeLine; decide), fun q hq => ?_⟩
        have wk71 := wk7.go (Go.tmp (S := NoS) (o := .lst (moreW.map V.str)) wk7.sub hq)
        refine ⟨a, q, moreW.map V.str, I7, N5, rfl, wk71.sub, wk71.pen, by omega, upd_same, wk7.pen.ne hq, by decide, by decide, fun v I8 H8 hv g8 p8 => ?_⟩
        obtain ⟨mo, rfl, hmo⟩ := mem_strs hv
        have dmo : due mo = some 1 := (by decide +kernel : ∀ z ∈ moreW, due z = some 1) _ hmo
        have dmo' : due mo ≠ none := by rw [dmo]; exact fun z => nomatch z
        have wk8 := wk71.draw g8 p8
        have G8 : Go (StT T a) I H I8 H8 := ((g7.tmp' hq).trans g8).mono stT_pen
        have iD8 := g8.ext _ _ iD7
        have ip8 := g8.ext _ _ ip7
        have t8 := t7.ext g8.ext
        -- one word too many
        refine ⟨wk8.tab, fun H9 e9 T9 Qn hQn => ?_⟩
        obtain ⟨wk9, gl9⟩ := wk8.lam hmT e9 T9
        have G9 := G8.trans (gl9.mono (stT_tab hmT))
        refine ⟨_, rfl, _, rfl, tmake_big (S := NoS) (m := .un mo M) (ps := [.ref pv]) wk9.sub rfl (fun i p k h1 h2 => ?_) dmo (due_len dmo') (by show 40 < M.words.length + 1; omega) (by show M.words.length + 1 ≤ 1000; omega) ?_⟩
        · match i with
          | 0 => cases h1; cases h2; exact t8
          | i + 1 => simp at h1
        intro d I10 H10 g10 hId hHd
        refine ⟨d, rfl, .inr (.inr ⟨.int 40, .str "words", rfl, hHd, fun p2 H11 g11 h11 => ?_⟩)⟩
        refine ⟨(by show 3 ≤ sizeLine; decide), fun t9 ht9 => ?_⟩
        refine ⟨.tuple [.str "TooMany", .str "words", .int 40], .tuple [.str "TooMany", .str "words", .int 40], .tup (stK (by rw [upd_ne (ne_of_none h11 ht9)]; exact h11)) (.cons (.str _) (.cons (.str _) (.cons (.int _) .nil))), .tup (stK upd_same) (.cons (.str _) (.cons (.str _) (.cons (.int _) .nil))), sh3 ⟨by decide +kernel, rfl⟩ ⟨by decide +kernel, rfl⟩ ⟨rfl, rfl⟩, sh3 ⟨by decide +kernel, rfl⟩ ⟨by decide +kernel, rfl⟩ ⟨rfl, rfl⟩, _, rfl, ?_⟩
        rw [eqv3s]
        refine iteF ?_
        have g12 := g10.trans ((g11 _ g10.sub).tmp' (o := .tup [.str "TooMany", .str "words", .int 40]) ht9)
        have wk12 := wk9.go g12
        have G12 := G9.trans g12.any
        have iD12 := g12.ext _ _ iD8
        have ip12 := g12.ext _ _ ip8
        have t12 := t8.ext g12.ext
        generalize upd H11 t9 (.tup [.str "TooMany", .str "words", .int 40]) = H12 at wk12 G12 ⊢
        refine ⟨_, rfl, (by show 1 ≤ sizeLine; decide), fun s1 hs1 => ?_⟩
        have gs1 := Go.tmp (S := NoS) (o := .lst [.str mo]) wk12.sub hs1
        refine ⟨_, rfl, s1, D, _, _, rfl, rfl, upd_same, gs1.sub _ _ iD12, by rw [List.length_map]; exact szl (by show 1 + hs.length ≤ _; omega), fun s2 hs2 => ?_⟩
        have gs2 := gs1.tmp' (o := .lst ([.str mo] ++ hs.map V.str)) hs2
        refine ⟨_, rfl, s2, p, _, _, rfl, rfl, upd_same, gs2.sub _ _ ip12, by rw [List.length_append, List.length_map, List.length_map]; exact szl (by show 1 + hs.length + m.words.length ≤ _; omega), fun s3 hs3 => ?_⟩
        rw [show ([V.str mo] ++ hs.map V.str ++ m.words.map V.str) = ([mo] ++ hs ++ m.words).map V.str by rw [List.map_append, List.map_append]; rfl]
        have gs3 := gs2.new' (o := .lst (([mo] ++ hs ++ m.words).map V.str)) hs3
        have wk13 := wk12.go gs3
        have G13 := G12.trans gs3.any
        have wd13 : Wd ([mo] ++ hs ++ m.words) := by
          refine Wz.wd (Wz.due fun z hz => ?_) (by simp) (by rw [List.length_append, List.length_append]; show 1 + hs.length + m.words.length ≤ 200; omega)
          rw [List.append_assoc] at hz
          rcases List.mem_append.mp hz with hz | hz
          · rw [List.mem_singleton.mp hz]; exact dmo'
          · exact dM z hz
        refine ⟨s3, _, _, rfl, wk13.sub, upd_same, wd13, wk13.tab, wk13.no _ hmR, fun I14 H14 g14 T14 => ⟨_, rfl, iteF ?_⟩⟩
        have wk14 := wk13.at1 hmR g14 T14
        have G14 := G13.trans (g14.mono (stT_tab hmR))
        have e14 := gs3.ext.trans g14.ext
        have iD14 := e14 _ _ iD12
        have ip14 := e14 _ _ ip12
        have t14 := t12.ext e14
        -- made & TRUE
        refine ⟨wk14.tab, fun H15 e15 T15 Qn hQn => ?_⟩
        obtain ⟨wk15, gl15⟩ := wk14.lam hmT e15 T15
        have G15 := G14.trans (gl15.mono (stT_tab hmT))
        refine ⟨_, rfl, fun x dx n1 n2 n3 => tmake_ex (m := .leaf "TRUE") (ps := []) wk15.sub rfl (fun i p k h => by simp at h) (show due "TRUE" = some 0 from due_true) (by show 1 ≤ 40; decide) n1 n2 n3 fun H16 I16 g16 t16 => ⟨rfl, ?_⟩⟩
        have wk16 := wk15.go g16
        have G16 := G15.trans g16.any
        have t17 := t14.ext g16.ext
        have hl2 : (Mdl.bi "AND" M (.leaf "TRUE")).words.length = 42 := by
          show (M.words ++ ([("TRUE" : Str)] : List Str)).length + 1 = 42
          rw [List.length_append, hMl]
          rfl
        refine ⟨true, (t17.ext wk16.sub).kn, (t16.ext wk16.sub).kn, .ref pv, .ref x, M, true, I16, rfl, wk16.sub, t17, t16.kn, by omega, (fun z => nomatch z), fun _ => ⟨.leaf "TRUE", t16, (by show 1 ≤ 100; decide), fun _ => ?_, fun h => absurd h (by omega)⟩⟩
        intro d I17 H17 g17 hId hHd
        refine ⟨d, rfl, .inr (.inr ⟨.int 40, .str "words", rfl, hHd, fun p2 H18 g18 h18 => ?_⟩)⟩
        refine ⟨(by show 3 ≤ sizeLine; decide), fun t9 ht9 => ?_⟩
        refine ⟨.tuple [.str "TooMany", .str "words", .int 40], .tuple [.str "TooMany", .str "words", .int 40], .tup (stK (by rw [upd_ne (ne_of_none h18 ht9)]; exact h18)) (.cons (.str _) (.cons (.str _) (.cons (.int _) .nil))), .tup (stK upd_same) (.cons (.str _) (.cons (.str _) (.cons (.int _) .nil))), sh3 ⟨by decide +kernel, rfl⟩ ⟨by decide +kernel, rfl⟩ ⟨rfl, rfl⟩, sh3 ⟨by decide +kernel, rfl⟩ ⟨by decide +kernel, rfl⟩ ⟨rfl, rfl⟩, _, rfl, ?_⟩
        rw [eqv3s]
        refine iteF ?_
        have g19 := g17.trans ((g18 _ g17.sub).tmp' (o := .tup [.str "TooMany", .str "words", .int 40]) ht9)
        have wk19 := wk16.go g19
        have G19 := G16.trans g19.any
        have e19 := g16.ext.trans g19.ext
        have iD19 := e19 _ _ iD14
        have ip19 := e19 _ _ ip14
        have t19 := t17.ext g19.ext
        generalize upd H18 t9 (.tup [.str "TooMany", .str "words", .int 40]) = H19 at wk19 G19 ⊢
        -- forty words are read
        have wdM : Wd (hs ++ m.words) := wzM.wd (fun e => absurd (List.append_eq_nil_iff.mp e).2 (words_ne m)) (by rw [List.length_append]; omega)
        refine ⟨_, rfl, _, rfl, D, p, _, _, rfl, rfl, wk19.sub _ _ iD19, wk19.sub _ _ ip19, by simp only [List.length_map]; exact szl (by omega), fun s4 hs4 => ?_⟩
        rw [show (hs.map V.str ++ m.words.map V.str) = (hs ++ m.words).map V.str from List.map_append.symm]
        have gs4 := Go.new (S := NoS) (o := .lst ((hs ++ m.words).map V.str)) wk19.sub hs4
        have wk20 := wk19.go gs4
        refine ⟨s4, _, _, rfl, wk20.sub, upd_same, wdM, wk20.tab, wk20.no _ hmR, fun I21 H21 g21 T21 => ⟨_, rfl, iteT ?_⟩⟩
        have wk21 := wk20.at1 hmR g21 T21
        have G21 := (G19.trans gs4.any).trans (g21.mono (stT_tab hmR))
        have e21 := gs4.ext.trans g21.ext
        have t21 := t19.ext e21
        have tx := wdM.tx
        have hjl : (Txt.join " " (hs ++ m.words)).length ≤ 100000 := by
          have := join_le wdM.sm.ln
          rw [List.length_append] at this
          omega
        have hsum : ((hs ++ m.words).map (·.length)).sum + (hs ++ m.words).length * (" " : Str).length ≤ 16777216 := by
          have := sum_le _ wdM.sm.ln
          rw [List.length_append] at this
          rw [show (" " : Str).length = 1 from rfl, Nat.mul_one, List.length_append]
          omega
        refine ⟨_, rfl, rfl, ⟨_, rfl⟩, _, rfl, _, rfl, D, p, _, _, rfl, rfl, wk21.sub _ _ (e21 _ _ iD19), wk21.sub _ _ (e21 _ _ ip19), by simp only [List.length_map]; exact szl (by omega), fun s5 hs5 => ?_⟩
        have gs5 := Go.tmp (S := NoS) (o := .lst (hs.map V.str ++ m.words.map V.str)) wk21.sub hs5
        refine ⟨_, s5, hs ++ m.words, rfl, rfl, .inl (sqK (by rw [List.map_append]; exact upd_same)), hsum, ?_⟩
        have hf : fault (hs ++ m.words) = none := by rw [← hMw]; exact ok_fault hMo
        refine ⟨_, rfl, _, false, I21, rfl, gs5.sub, .str _ hjl, (fun z => nomatch z), fun z hz => ?_⟩
        cases hz
        refine ⟨hs ++ m.words, tx, fun n hn => (by rw [hf] at hn; cases hn), fun _ h => absurd h (by rw [List.length_append]; omega), fun _ _ pz mz I22 H22 okz hmz g22 tz => ?_⟩
        have g23 := gs5.trans g22
        have t23 := t21.ext g23.ext
        have dz : ∀ z ∈ mz.words, due z ≠ none := ok_words okz
        refine ⟨true, true, (t23.ext g23.sub).kn, (tz.ext g23.sub).kn, .inl ⟨rfl, _, _, M, true, I22, rfl, g23.sub, t23, ok_words hMo, tz.kn, (fun z => nomatch z), fun _ => ⟨mz, tz, dz, _, rfl, ?_⟩⟩⟩
        rw [show decide (M.words = mz.words) = true from decide_eq_true (by rw [hMw, hmz])]
        have wk23 := wk21.go g23
        refine k I22 H22 (G21.trans g23.any) ⟨wk23.sub, wk23.pen.mono (by omega), wk23.tab, wk23.no, wk23.ne⟩
end
end Tm
/-! lambdas in a list -/
namespace Tm
open PySem PySem.Spec PyProof.Rows L2
open LamX
/-- a lambda's function object, its code object at c' -/
def LamO (q : Str) (params : Arguments) (body : Expr) (scope : Scope) (cells : List (Str × Addr)) (f c' : Addr) : HO := .ext fun h => ∃ pm ctv, h.get? f = some (PySem.W.kla_obj "<lambda>" q params body scope cells pm c' ctv)
section
variable {X : Cx} {pins : List (Addr × Obj)} {σ : L2.St} {H : Hp} {s : Shared}
theorem lam_mkT {T : List (Addr × Str)} {c P : Addr} {params : Arguments} {body : Expr} {scope : Scope} {pos : Pos} {E : Value → Shared → Prop} {Q : Value → Shared → Prop} (I : Inv X pins σ H s) (TB : TabB X.base X.mg c P) (hcode : X.env.code = .ref c)
    (hm : (P, X.env.qual ++ "<lambda>") ∈ T) (hu : ∀ p ∈ T, p.1 = P → p.2 = X.env.qual ++ "<lambda>") (hT : Tabs T H) (hdef : defaultsOf params X.env = ([], [])) (hfree : ∀ y ∈ scope.names, y.2 = .free → ∃ c, X.env.cells.lookup y.1 = some c)
    (h : ∀ (f c' : Addr) (H1 : Hp) (s' : Shared), Inv X pins σ (upd H1 f (LamO (X.env.qual ++ "<lambda>") params body scope (cloFrom X.env.cells scope.names []) f c')) s' → ButP P H H1 → Tabs T H1 → H1 f = none → H1 c' = some (CodeO c' (X.env.qual ++ "<lambda>")) → Q (.ref f) s') :
    wpAny (model X.prog X.w) X.A (eval (.Lambda params body scope pos) X.env) Q E s := by
  obtain ⟨ps, hP, ht, ha⟩ := hT _ hm
  have bP : s.heap.BuiltinsAt X.mg P := TB.bm.keeps I.bk
  have hP' : s.heap.get? P = some { cls := .none, data := .fields ps } := I.hok P _ hP
  refine PySem.W.kla_eval hdef ?_
  cases hc : codeAmong pos ps.toList with
  | some cv =>
    obtain ⟨c', rfl, hco⟩ := ha pos cv hc
    exact PySem.W.kla_makeFunctionHit (mg := X.mg) (c := c) (P := P) (ps := ps) (closure_ok hfree) I.ok.glob (I.mod.glob.keeps I.bk) hcode (TB.code.keeps I.bk) hP' ht hc bP fun ctv h' tk hx hsz =>
      h h'.objs.size c' H _ ((I.kept (t' := tk) fun b o e => hx b o e).laid (t' := tk) (fun b o e => Heap.get?_push_of_some _ e) (Nat.le_refl _) ⟨⟨_, _, Heap.get?_push_size _ rfl⟩, ⟨_, Heap.get?_push_size _ rfl⟩, fun h1 h2 ⟨pm, ctv, e⟩ st => ⟨pm, ctv, st _ e⟩⟩) (fun _ _ _ e => e) hT (I.hok.fresh hsz) hco
  | none =>
    refine PySem.W.kla_makeFunction (mg := X.mg) (c := c) (P := P) (ps := ps) (closure_ok hfree) I.ok.glob (I.mod.glob.keeps I.bk) hcode (TB.code.keeps I.bk) hP' ht hc TB.gP bP fun c' ctv h' tk hx hge hlt hrec htb => ?_
    obtain ⟨c2, oc, vs, t, e2, hoc, hd, hv⟩ := hrec
    cases e2
    have hsz : s.heap.objs.size ≤ h'.objs.size := Nat.le_trans hge (Nat.le_of_lt hlt)
    have nC : H c' = none := I.hok.fresh hge
    have I0 := inv_table (t' := tk) (more := #[rawInt pos.line, rawInt pos.col, .ref c']) (h' := h') I hP (fun b o hb e => hx b o hb e) htb hge ⟨oc, vs, t, hoc, hd, hv⟩
    have I1 := I0.laid (t' := tk) (h' := h'.push (PySem.W.kla_obj "<lambda>" (X.env.qual ++ "<lambda>") params body scope (cloFrom X.env.cells scope.names []) ((X.mg "__name__").getD .none) c' ctv)) (a := h'.objs.size) (o := LamO (X.env.qual ++ "<lambda>") params body scope (cloFrom X.env.cells scope.names []) h'.objs.size c')
      (fun b o e => Heap.get?_push_of_some _ e) (Nat.le_refl _) ⟨⟨_, _, Heap.get?_push_size _ rfl⟩, ⟨_, Heap.get?_push_size _ rfl⟩, fun h1 h2 ⟨pm, ctv, e⟩ st => ⟨pm, ctv, st _ e⟩⟩
    have hE : ButP P H (upd (upd H P (.tbl (ps ++ #[rawInt pos.line, rawInt pos.col, .ref c']))) c' (CodeO c' (X.env.qual ++ "<lambda>"))) := fun b o n e => by rw [upd_ne (ne_of_none e nC), upd_ne n]; exact e
    have eL : (ps ++ #[rawInt pos.line, rawInt pos.col, .ref c']).toList = ps.toList ++ [rawInt pos.line, rawInt pos.col, .ref c'] := by simp
    have cP : ∀ {d : Addr} {qq : Str}, H d = some (CodeO d qq) → d ≠ P := fun e z => by
      rw [z, hP] at e
      exact codeO_ne ps (Option.some.inj e).symm
    refine h h'.objs.size c' _ _ I1 hE (fun p hp => ?_) ?_ upd_same
    · by_cases hb : p.1 = P
      · rw [hu p hp hb, hb]
        refine ⟨_, by rw [upd_ne (ne_of_none hP nC), upd_same], by rw [eL]; exact PySem.TriplesOk_snoc _ _ _ _ ht, fun p' cv hcv => ?_⟩
        rw [eL] at hcv
        rcases among_app _ ht hcv with z | z
        · obtain ⟨c0, e1, e2⟩ := ha p' cv z
          exact ⟨c0, e1, hE _ _ (cP e2) e2⟩
        · exact ⟨c', z, upd_same⟩
      · obtain ⟨ps', a1, a2, a3⟩ := hT p hp
        refine ⟨ps', by rw [upd_ne (ne_of_none a1 nC), upd_ne hb]; exact a1, a2, fun p' cv hcv => ?_⟩
        obtain ⟨c0, e1, e2⟩ := a3 p' cv hcv
        exact ⟨c0, e1, hE _ _ (cP e2) e2⟩
    · rw [upd_ne (Nat.ne_of_gt hlt), upd_ne (Nat.ne_of_gt (Nat.lt_of_lt_of_le (Heap.lt_size hP') hsz))]
      exact I.hok.fresh hsz
end
/-- a lambda as a value -/
def tLamV (T : List (Addr × Str)) (P : Addr) (q : Str) (params : Arguments) (body : Expr) (scope : Scope) (cells : List (Str × Addr)) : TE := fun σ H Q => Tabs T H ∧ ∀ (f c' : Addr) (H1 : Hp), ButP P H H1 → Tabs T H1 → H1 f = none → H1 c' = some (CodeO c' q) → Q (.ref f) (upd H1 f (LamO q params body scope cells f c'))
section
variable {X : Cx} {SE BT BX TM : Addr}
theorem pe_lamV {T : List (Addr × Str)} {c P : Addr} {params : Arguments} {body : Expr} {scope : Scope} {lpos : Pos} (TB : TabB X.base X.mg c P) (hcode : X.env.code = .ref c) (hmT : (P, X.env.qual ++ "<lambda>") ∈ T) (hu : ∀ p ∈ T, p.1 = P → p.2 = X.env.qual ++ "<lambda>") (L : LamS X.env.scope scope) (hdef : defaultsOf params X.env = ([], [])) :
    PE X (.Lambda params body scope lpos) (tLamV T P (X.env.qual ++ "<lambda>") params body scope (cloFrom X.env.cells scope.names [])) := by
  refine ⟨fun pins s σ H Q I h => ?_⟩
  obtain ⟨hT, h⟩ := h
  exact lam_mkT I TB hcode hmT hu hT hdef (L.has I.ok) fun f c' H1 s' I1 eN T1 hfn hco => ⟨.ref f, _, I1, rfl, h f c' H1 eN T1 hfn hco⟩
end
end Tm
/-! _law_heard of a lambda that lies in a list -/
namespace Tm
open PySem PySem.Spec PyProof.Rows L2
open LamX
section
variable {X : Cx} {pins : List (Addr × Obj)} {σ : L2.St} {H HZ : Hp} {s s1 : Shared}
theorem pe_actT {CXg : CXT} {Eg : XK} {Ng : List Str} {qg : Str} {sg : Scope} {g f c' : Addr} {cdg : Value} {params : Arguments} {body : Expr} {scope : Scope} {k i : Nat} {a : Str} {pn : List (Addr × Obj)} {xe : Value → Shared → Prop} {W : WX} {E : XK} {tb : TE} {p1 p2 : Pos}
    (I : Inv X pins σ H s) (L : LamS X.env.scope scope)
    (hbind : ∀ (pm ctv : Value), bindArgs (PySem.W.kla_fn "<lambda>" (X.env.qual ++ "<lambda>") params body scope (cloFrom X.env.cells scope.names []) pm (.ref c') ctv) ⟨[], []⟩ = pure [])
    (tk : Takes ((cxOf CXg X.prog X.w X.K X.mg X.base Ng qg sg g cdg X.A X.stack s H Eg).tr pn xe) W) (hW : ∀ cls d σ' H', E cls d H' → W cls d σ' H') (hr : Room (k + 1) (X.A.deeper (envOfC qg sg s.heap.objs.size g cdg)))
    (hbody : ∀ (A : Around) (outer : List Env) (s : Shared) (H : Hp), Room k (A.deeper (lamEnv X scope s.heap.objs.size f c')) → PE (lamCx X A outer s H E scope f c') body tb)
    (hN : Ng[i]? = some a) (hv : Vis sg a) (hd : (a == ("__debug__" : Str)) = false := by decide) (hcd : (a == ("__classdict__" : Str)) = false := by decide) :
    PE ((cxOf CXg X.prog X.w X.K X.mg X.base Ng qg sg g cdg X.A X.stack s H Eg).tr pn xe) (.Call (.Name a p1) [] [] p2)
      (fun σZ HZ Q => σZ[i]? = some (some (.ref f)) ∧ HZ c' = some (CodeO c' (X.env.qual ++ "<lambda>")) ∧ HZ f = some (LamO (X.env.qual ++ "<lambda>") params body scope (cloFrom X.env.cells scope.names []) f c') ∧ tb σ HZ Q) := by
  refine ⟨fun pinsZ sZ σZ HZ Q IZ h => ?_⟩
  obtain ⟨hs, hc, hf, ht⟩ := h
  refine wpAny_Call_Name_kw (thn ((pe_var (pos := p1) (i := i) hN hv hd hcd).run pinsZ sZ σZ HZ (fun v H1 => v = .ref f ∧ H1 = HZ) IZ ⟨.ref f, hs, rfl, rfl⟩) fun u s1 ⟨v, H1, I1, r1, q1⟩ => ?_)
  obtain ⟨ev, eH⟩ := q1
  subst ev
  rw [eH] at I1
  obtain rfl : u = Value.ref f := r1
  obtain ⟨⟨pm, ctv, of1⟩, _, _⟩ := I1.hok f _ hf
  refine PySem.W.callWith_F0 ⟨_, _, _, _, of1⟩ ?_
  have un : Un (frs X.stack) [] H HZ s.heap s1.heap := I1.base
  obtain ⟨⟨oc, vs, t, hoc, hdc, hvc⟩, _, _⟩ := I1.hok c' _ hc
  have rc : codeAny (model X.prog X.w) (X.A.deeper (envOfC qg sg s.heap.objs.size g cdg)) (.call (.ref f) ⟨[], []⟩) (CR (L2.CX X.prog X.w) (envOfC qg sg s.heap.objs.size g cdg :: X.stack) X.prog X.w HZ s1 Q E) s1 := by
    refine PySem.W.kla_callFunE hr.depth of1 rfl L.co L.gen rfl ⟨c', oc, vs, t, rfl, hoc, hdc, hvc⟩ ?_
    rw [hbind]
    refine wpAny_pure (wpAny_newFunctionEnv (fun y hy => (L.own y hy).2) (fun y hy => absurd hy (by simp)) (fun h₁ hns hsb => ⟨I1.nolimit.fresh _ hsb, ?_⟩) L.kind)
    show codeAny _ _ (.expr body (lamEnv X scope s1.heap.objs.size f c')) _ _
    have kp : ∀ b o, s1.heap.get? b = some o → h₁.get? b = some o := fun b o e => hsb.extBut b o (Nat.ne_of_lt (Heap.lt_size e)) (Heap.get?_push_of_some _ e)
    have J : Inv (lamCx X (X.A.deeper (envOfC qg sg s.heap.objs.size g cdg)) (envOfC qg sg s.heap.objs.size g cdg :: X.stack) s1 HZ E scope f c') [] σ HZ { s1 with heap := h₁, toks := s1.toks + ([] : List (Str × Value)).length } :=
      lam_start2 I L I1.env0 hr.hd un hns kp
    refine PySem.W.kla_codeExpr (wpAny_mono ((hbody _ _ s1 HZ (hr.deeper _)).run [] _ _ HZ Q J ht) (fun v s' hq => ?_) fun e s' hq => hq)
    obtain ⟨w', H', J', rv, q⟩ := hq
    exact ⟨w', H', J'.os, J'.bare, J'.base, J'.hok, rv, q⟩
  have hx : Passes (L2.CX X.prog X.w) ((cxOf CXg X.prog X.w X.K X.mg X.base Ng qg sg g cdg X.A X.stack s H Eg).tr pn xe) E := passes_call tk hW
  refine wpAny_call (codeAny_mono rc fun r s' hq => ?_)
  cases r with
  | error e => exact hx pinsZ σZ HZ s1 e s' I1 hq
  | ok fl =>
    cases fl with
    | ret u => exact I1.after hq
    | next => exact False.elim hq
    | brk => exact False.elim hq
    | cont => exact False.elim hq
end
/-- one of the lambdas that may lie there -/
structure Lam1 where
  params : Arguments
  body : Expr
  scope : Scope
  t : XK → TE
/-- .. and what must be known of it -/
structure LamOk (X : Cx) (k : Nat) (l : Lam1) : Prop where
  L : LamS X.env.scope l.scope
  bind : ∀ (q : Str) (cl : List (Str × Addr)) (pm cv ctv : Value), bindArgs (PySem.W.kla_fn "<lambda>" q l.params l.body l.scope cl pm cv ctv) ⟨[], []⟩ = pure []
  body : ∀ (A : Around) (outer : List Env) (s : Shared) (H : Hp) (E : XK) (f c' : Addr), Room k (A.deeper (lamEnv X l.scope s.heap.objs.size f c')) → PE (lamCx X A outer s H E l.scope f c') l.body (l.t E)
/-- the reading of _law_heard(ask), ask one of them -/
def tHeardV (q : Str) (cells : List (Str × Addr)) (BT BX TM : Addr) (Ls : List Lam1) (i : Nat) : TE := fun σ H Q => ∃ l ∈ Ls, ∃ f c' : Addr, σ[i]? = some (some (.ref f)) ∧ H f = some (LamO q l.params l.body l.scope (cloFrom cells l.scope.names []) f c') ∧ H c' = some (CodeO c' q) ∧
  TTheard BT BX TM (fun E H' Q' => H' f = some (LamO q l.params l.body l.scope (cloFrom cells l.scope.names []) f c') ∧ l.t E σ H' Q') H Q
section
variable {X : Cx} {SE BT BX TM : Addr}
theorem pe_heardV {j k i : Nat} {Ls : List Lam1} {x : Str} {p p1 pos : Pos} (hd : HdOk X.K X.mg SE BT BX TM) (hg : Gl X "_law_heard") (hr0 : Room j X.A) (hj : k + 2 ≤ j) (hL : ∀ l ∈ Ls, LamOk X k l) (hN : X.N[i]? = some x) (hv : Vis X.env.scope x)
    (hdb : (x == ("__debug__" : Str)) = false := by decide) (hcd : (x == ("__classdict__" : Str)) = false := by decide) :
    PE X (.Call (.Name "_law_heard" p) [.Name x p1] [] pos) (tHeardV (X.env.qual ++ "<lambda>") X.env.cells BT BX TM Ls i) := by
  obtain ⟨g, fd, F, hm, hb⟩ := hd.ex
  obtain ⟨oc, od, kV, doc, pm, an, cdv, ct, osl, rfl, lk, hcg⟩ := F.ex
  have hr := hr0.mono hj
  refine ⟨fun pins s σ H Q I h => ?_⟩
  obtain ⟨l, hl, f, c', hs, hf, hc, h⟩ := h
  have lo := hL l hl
  refine wpAny_Call_Name_kw (ld_glob I hg hm ?_ (by decide))
  refine PySem.W.callWith_K (h₀ := X.base) I.ok.mod.kin F.kp ?_ (by rfl) (by rfl)
  show wpAny _ _ (spliced ((false, eval (.Name x p1) X.env) :: backTo pos (starEach [] X.env))) _ _ s
  refine Calls.spliced_cons (thn ((pe_var (pos := p1) (i := i) hN hv hdb hcd).run pins s σ H (fun v H1 => v = .ref f ∧ H1 = H) I ⟨.ref f, hs, rfl, rfl⟩) fun u s' ⟨v, H1, I1, r1, q1⟩ => ?_)
  obtain ⟨ev, eH⟩ := q1
  subst ev
  rw [eH] at I1
  obtain rfl : u = Value.ref f := r1
  refine Calls.spliced_nil ⟨I1.kIn, ?_⟩
  have rc : codeAny (model X.prog X.w) X.A (.call (.ref g) ⟨[.ref f], []⟩) (CR C8.CX0 X.stack X.prog X.w H s' Q C8.E0) s' := by
    refine run_ofS (N := ["ask", "caught", "error"]) (ps := ["ask"]) (us := [.ref f]) (vs := [.ref f]) lk hcg scHeard hr I1.env0 (hb s' [.ref f] I1.kIn rfl) (.cons rfl .nil) rfl fun hr' => ?_
    obtain ⟨t', ht', hq'⟩ := heard_gives hd.T f c' s' H Q (fun E H' Q' => H' f = some (LamO (X.env.qual ++ "<lambda>") l.params l.body l.scope (cloFrom X.env.cells l.scope.names []) f c') ∧ l.t E σ H' Q')
      (fun W pn xe E p1 p2 tk hW => pe_actT (i := 0) I1 lo.L (lo.bind _ _ · _ ·) tk hW hr' (fun A outer s H hr2 => lo.body A outer s H E f c' hr2) rfl (.inl rfl)) hc h
    exact ⟨t', ht'.nox, hq'⟩
  refine wpAny_call (codeAny_mono rc fun r s2 hq => ?_)
  cases r with
  | error e => exact (show False from hq).elim
  | ok fl =>
    cases fl with
    | ret u => exact I1.after hq
    | next => exact hq.elim
    | brk => exact hq.elim
    | cont => exact hq.elim
end
end Tm
/-! readings used again and again in _law_refused_right -/
namespace Tm
open PySem PySem.Spec PyProof.Rows L2
open LamX
theorem wk_st {T : List (Addr × Str)} {I H I' H' : Hp} {a Pt : Addr} {q : Str} (hm : (Pt, q) ∈ T) (g : Go (At1 Pt) I H I' H') : Go (StT T a) I H I' H' := g.mono (stT_tab hm)
/-- what is heard is not a BadTemporal of this part: no -/
theorem heard_bt {K : PySem.W.Frag} {T : List (Addr × Str)} {P a : Addr} {q : Str} {I H : Hp} {N : Nat} {BT BX TM : Addr} {t : XK → TE} {σ : L2.St} {z : Str} {Q : VK} (wk : Wk T I H a N) (hm : (P, q) ∈ T) (hz : PyData.strOk z = true)
    (body : ∀ (H1 : Hp) (Qn : VK) (E : XK), Wk T I H1 a N → Leaves NoS I H1 BT (fsBT z) E → t E σ H1 Qn) (k : ∀ I' H', Wk T I' H' a N → Go (StT T a) I H I' H' → Q (.bl false) H') :
    tOp (rNeD K) (tHeard T P BT BX TM t) (tTup (tCons (tC (.str "BadTemporal")) (tCons (tC (.str z)) tNil))) σ H Q := by
  refine ⟨wk.tab, fun H1 e1 T1 Qn hQn => ?_⟩
  obtain ⟨wk1, g1⟩ := wk.lam hm e1 T1
  refine body H1 Qn _ wk1 fun d I2 H2 g2 hId hHd => ⟨d, rfl, .inl ⟨.str z, rfl, hHd, fun p2 H3 g3 h3 => ?_⟩⟩
  refine ⟨(by show 2 ≤ sizeLine; decide), fun t9 ht9 => ?_⟩
  refine ⟨.tuple [.str "BadTemporal", .str z], .tuple [.str "BadTemporal", .str z], .tup (stK (by rw [upd_ne (ne_of_none h3 ht9)]; exact h3)) (.cons (.str _) (.cons (.str _) .nil)), .tup (stK upd_same) (.cons (.str _) (.cons (.str _) .nil)), sh2 ⟨by decide +kernel, rfl⟩ ⟨hz, rfl⟩, sh2 ⟨by decide +kernel, rfl⟩ ⟨hz, rfl⟩, ?_⟩
  rw [eqv2s]
  have g4 := g2.trans ((g3 _ g2.sub).tmp' (o := .tup [.str "BadTemporal", .str z]) ht9)
  exact k _ _ (wk1.go g4) ((wk_st hm g1).trans g4.any)
theorem heard_bx {K : PySem.W.Frag} {T : List (Addr × Str)} {P a : Addr} {q : Str} {I H : Hp} {N : Nat} {BT BX TM : Addr} {t : XK → TE} {σ : L2.St} {Q : VK} (wk : Wk T I H a N) (hm : (P, q) ∈ T)
    (body : ∀ (H1 : Hp) (Qn : VK) (E : XK), Wk T I H1 a N → Leaves NoS I H1 BX (fsBX 0) E → t E σ H1 Qn) (k : ∀ I' H', Wk T I' H' a N → Go (StT T a) I H I' H' → Q (.bl false) H') :
    tOp (rNeD K) (tHeard T P BT BX TM t) (tTup (tCons (tC (.str "BadText")) (tCons (tC (.int 0)) (tCons (tC (.int 0)) tNil)))) σ H Q := by
  refine ⟨wk.tab, fun H1 e1 T1 Qn hQn => ?_⟩
  obtain ⟨wk1, g1⟩ := wk.lam hm e1 T1
  refine body H1 Qn _ wk1 fun d I2 H2 g2 hId hHd => ⟨d, rfl, .inr (.inl ⟨.int 0, .int 0, rfl, hHd, fun p2 H3 g3 h3 => ?_⟩)⟩
  refine ⟨(by show 3 ≤ sizeLine; decide), fun t9 ht9 => ?_⟩
  refine ⟨.tuple [.str "BadText", .int 0, .int 0], .tuple [.str "BadText", .int 0, .int 0], .tup (stK (by rw [upd_ne (ne_of_none h3 ht9)]; exact h3)) (.cons (.str _) (.cons (.int _) (.cons (.int _) .nil))), .tup (stK upd_same) (.cons (.str _) (.cons (.int _) (.cons (.int _) .nil))), sh3 ⟨by decide +kernel, rfl⟩ ⟨rfl, rfl⟩ ⟨rfl, rfl⟩, sh3 ⟨by decide +kernel, rfl⟩ ⟨rfl, rfl⟩ ⟨rfl, rfl⟩, ?_⟩
  rw [eqv3i]
  have g4 := g2.trans ((g3 _ g2.sub).tmp' (o := .tup [.str "BadText", .int 0, .int 0]) ht9)
  exact k _ _ (wk1.go g4) ((wk_st hm g1).trans g4.any)
/-- odd against made -/
structure Od (C : Addr) (I : Hp) (v : V) (b : Addr) (m : Mdl) (bb : Bool) : Prop where
  kn : Kn C I v bb
  du : dueV v = none
  is : bb = true → v = .ref b
  tm : TIs C I (.ref b) m
  ok : m.ok
theorem Od.ext {C b : Addr} {I I' : Hp} {v : V} {m : Mdl} {bb : Bool} (o : Od C I v b m bb) (e : Same I I') : Od C I' v b m bb := ⟨o.kn.ext e, o.du, o.is, o.tm.ext e, o.ok⟩
theorem od_l {C b : Addr} {I H : Hp} {v : V} {m : Mdl} {bb : Bool} {f : Bool → Bool} {Q : VK} (o : Od C I v b m bb) (hI : Same I H) (q : Q (.bl (f bb)) H) : rOwnC C f v (.ref b) H Q := by
  refine ⟨bb, true, o.kn.ext hI, (o.tm.ext hI).kn, ?_⟩
  cases bb with
  | true =>
    have e := o.is rfl
    subst e
    refine .inl ⟨rfl, _, _, m, true, I, rfl, hI, o.tm, ok_words o.ok, o.tm.kn, (fun z => nomatch z), fun _ => ⟨m, o.tm, ok_words o.ok, true, ?_, q⟩⟩
    rw [decide_eq_true rfl]
  | false => exact .inr ⟨rfl, rfl, _, _, m, false, I, rfl, hI, o.tm, ok_words o.ok, o.kn, (fun _ => ⟨false, rfl, q⟩), fun z => nomatch z⟩
theorem od_r {C b : Addr} {I H : Hp} {v : V} {m : Mdl} {f : Bool → Bool} {Q : VK} (o : Od C I v b m false) (hI : Same I H) (q : Q (.bl (f false)) H) : rOwnC C f (.ref b) v H Q :=
  ⟨true, false, (o.tm.ext hI).kn, o.kn.ext hI, .inl ⟨rfl, _, _, m, false, I, rfl, hI, o.tm, ok_words o.ok, o.kn, (fun _ => ⟨false, rfl, q⟩), fun z => nomatch z⟩⟩
/-- Temporal(odd, ..): the word is refused -/
theorem mk_word {C BT TM : Addr} {I H1 : Hp} {Q : V → Hp → Prop} {E : XK} {v : V} {bb : Bool} {ps : List V} {bs : List Bool} (hI : Same I H1) (kv : Kn C I v bb) (hd : dueV v = none) (hl : ps.length ≤ 1000) (hb : bs.length = ps.length) (kb : ∀ (i : Nat) p b, ps[i]? = some p → bs[i]? = some b → Kn C I p b) (l : Leaves NoS I H1 BT (fsBT "word") E) {x dx : Addr} (nx : H1 x = none) (nd : H1 dx = none) (ne : dx ≠ x) :
    spTInit C BT TM (.ref x :: v :: ps) (upd (upd H1 dx (.own x)) x (.ins C dx [])) Q E :=
  tinit_mono (tmake (S := NoS) (Q := fun _ _ => False) hI kv hl hb kb (fun _ => l) (fun n h => by rw [hd] at h; cases h) (fun n h => by rw [hd] at h; cases h) x dx nx nd ne) fun _ _ z => z.2.elim
/-- the parts are refused -/
theorem mk_parts {C BT TM : Addr} {I H1 : Hp} {Q : V → Hp → Prop} {E : XK} {z : Str} {n : Nat} {ps : List V} {bs : List Bool} (hI : Same I H1) (hd : due z = some n) (hl : ps.length ≤ 1000) (hb : bs.length = ps.length) (kb : ∀ (i : Nat) p b, ps[i]? = some p → bs[i]? = some b → Kn C I p b) (no : ps.length ≠ n ∨ bs.all id = false) (l : Leaves NoS I H1 BT (fsBT "parts") E) {x dx : Addr} (nx : H1 x = none) (nd : H1 dx = none) (ne : dx ≠ x) :
    spTInit C BT TM (.ref x :: .str z :: ps) (upd (upd H1 dx (.own x)) x (.ins C dx [])) Q E := by
  refine tinit_mono (tmake (S := NoS) (Q := fun _ _ => False) hI (.str z (due_len (by rw [hd]; exact fun z => nomatch z))) hl hb kb (fun h => ?_) (fun _ _ _ => l) (fun k h h2 h3 => ?_) x dx nx nd ne) fun _ _ z => z.2.elim
  · exact absurd (show due z = none from h) (by rw [hd]; exact fun z => nomatch z)
  · have e : k = n := by
      have : due z = some k := h
      rw [hd] at this
      exact (Option.some.inj this).symm
    rcases no with no | no
    · exact absurd (h2.trans e) no
    · rw [h3] at no; cases no
theorem list1 {P : Nat → V → Bool → Prop} {v : V} {b : Bool} (h : P 0 v b) : ∀ (i : Nat) x y, [v][i]? = some x → [b][i]? = some y → P i x y := fun i x y h1 h2 => by
  match i with
  | 0 => cases h1; cases h2; exact h
  | i + 1 => simp at h1
theorem list2 {P : Nat → V → Bool → Prop} {u v : V} {a b : Bool} (h0 : P 0 u a) (h : P 1 v b) : ∀ (i : Nat) x y, [u, v][i]? = some x → [a, b][i]? = some y → P i x y := fun i x y h1 h2 => by
  match i with
  | 0 => cases h1; cases h2; exact h0
  | 1 => cases h1; cases h2; exact h
  | i + 2 => simp at h1
theorem list3b {P : Nat → V → Bool → Prop} {u v w : V} {a b c : Bool} (h0 : P 0 u a) (h : P 1 v b) (h2 : P 2 w c) : ∀ (i : Nat) x y, [u, v, w][i]? = some x → [a, b, c][i]? = some y → P i x y := fun i x y h1 h3 => by
  match i with
  | 0 => cases h1; cases h3; exact h0
  | 1 => cases h1; cases h3; exact h
  | 2 => cases h1; cases h3; exact h2
  | i + 3 => simp at h1
end Tm
/-! the law's _law_refused_right -/
namespace Tm
open PySem PySem.Spec PyProof.Rows L2
open LamX
abbrev sRefused : Stmt := top 40
def lamEs : List Expr := match (defBody sRefused).getD 2 (.Pass ⟨0, 0, 0, 0⟩) with
  | .For _ (.List es _) _ _ _ => es
  | _ => []
def lamE (i : Nat) : Expr := lamEs.getD i (.Constant .none 0 ⟨0, 0, 0, 0⟩)
def lamA : Expr → Arguments
  | .Lambda a _ _ _ => a
  | _ => ⟨[], [], none, [], [], none, []⟩
def lamB : Expr → Expr
  | .Lambda _ b _ _ => b
  | e => e
def lamC : Expr → Scope
  | .Lambda _ _ s _ => s
  | _ => ⟨.function, [], false, false, []⟩
abbrev refW : List Str := ["NEXT", "EVER", "SOFAR", "NOT", "ONCE"]
def lam6 (C BT TM : Addr) : List Lam1 := [
  ⟨lamA (lamE 0), lamB (lamE 0), lamC (lamE 0), fun E => StX.tMakeR C (spTInit C BT TM) E (tCons (tVar 5) tNil)⟩,
  ⟨lamA (lamE 1), lamB (lamE 1), lamC (lamE 1), fun E => StX.tMakeR C (spTInit C BT TM) E (tCons (tVar 5) (tCons (tVar 1) (tCons (tVar 1) tNil)))⟩,
  ⟨lamA (lamE 2), lamB (lamE 2), lamC (lamE 2), fun E => StX.tMakeR C (spTInit C BT TM) E (tCons (tC (.str "UNTIL")) (tCons (tVar 1) tNil))⟩,
  ⟨lamA (lamE 3), lamB (lamE 3), lamC (lamE 3), fun E => StX.tMakeR C (spTInit C BT TM) E (tCons (tC (.str "SINCE")) (tCons (tVar 1) (tCons (tVar 1) (tCons (tVar 1) tNil))))⟩,
  ⟨lamA (lamE 4), lamB (lamE 4), lamC (lamE 4), fun E => StX.tMakeR C (spTInit C BT TM) E (tCons (tC (.str "a")) (tCons (tVar 1) tNil))⟩,
  ⟨lamA (lamE 5), lamB (lamE 5), lamC (lamE 5), fun E => StX.tMakeR C (spTInit C BT TM) E (tCons (tC (.str "TRUE")) (tCons (tVar 1) tNil))⟩]
theorem rd1 {t : TE} {A B rest : TS} {D : Ends} {σ : L2.St} {H : Hp} (h : t σ H fun x H' => ∃ k, x = .bl k ∧ if k = true then A { D with nx := rest D } σ H' else B { D with nx := rest D } σ H') : tSeq (tIfS (tTest t) A B) rest D σ H := h
theorem rd2 {t u : TE} {A B rest : TS} {D : Ends} {σ : L2.St} {H : Hp} (h : t σ H fun x H' => ∃ k, x = .bl k ∧ if k = true then (u σ H' fun y H2 => ∃ c, y = .bl c ∧ if c = true then A { D with nx := rest D } σ H2 else B { D with nx := rest D } σ H2) else if false = true then A { D with nx := rest D } σ H' else B { D with nx := rest D } σ H') :
    tSeq (tIfS (tAnd (tTest t) (tTest u)) A B) rest D σ H := h
theorem rd3 {t u : TE} {A B rest : TS} {D : Ends} {σ : L2.St} {H : Hp} (h : t σ H fun x H' => ∃ k, x = .bl k ∧ if (!k) = true then (u σ H' fun y H2 => ∃ c, y = .bl c ∧ if c = true then A { D with nx := rest D } σ H2 else B { D with nx := rest D } σ H2) else if false = true then A { D with nx := rest D } σ H' else B { D with nx := rest D } σ H') :
    tSeq (tIfS (tAnd (tNot (tB t)) (tTest u)) A B) rest D σ H := h
theorem rdn {σ : L2.St} {H : Hp} {D : Ends} (h : D.nx σ H) : tNext D σ H := h
theorem code_keep {T : List (Addr × Str)} {I H I' H' : Hp} {a c : Addr} {q : Str} {N : Nat} (wk : Wk T I H a N) (g : Go (StT T a) I H I' H') (e : H c = some (LamX.CodeO c q)) : H' c = some (LamX.CodeO c q) := by
  refine g.same _ _ (fun z => ?_) e
  rcases z with z | z
  · obtain ⟨_, _, _, _, z1, _⟩ := wk.pen
    rw [z, z1] at e
    unfold LamX.CodeO at e
    cases Option.some.inj e
  · obtain ⟨p, hp, hpc⟩ := List.mem_map.mp z
    obtain ⟨ps, hP, _⟩ := wk.tab p hp
    rw [← hpc, hP] at e
    exact codeO_ne ps (Option.some.inj e).symm
theorem tl_step {T : List (Addr × Str)} {I H : Hp} {a Pt : Addr} {q : Str} {N : Nat} {params : Arguments} {body : Expr} {scope : Scope} {cells : List (Str × Addr)} {σ : L2.St} {Q : VK} (wk : Wk T I H a N) (hm : (Pt, q) ∈ T)
    (k : ∀ (f c' : Addr) (I' H' : Hp), Wk T I' H' a N → Go (StT T a) I H I' H' → I' f = some (LamO q params body scope cells f c') → H' c' = some (LamX.CodeO c' q) → Q (.ref f) H') : tLamV T Pt q params body scope cells σ H Q := by
  refine ⟨wk.tab, fun f c' H1 e1 T1 n1 hc => ?_⟩
  obtain ⟨wk1, g1⟩ := wk.lam hm e1 T1
  have g2 := Go.new (S := NoS) (o := LamO q params body scope cells f c') wk1.sub n1
  exact k f c' _ _ (wk1.go g2) ((wk_st hm g1).trans g2.any) upd_same (by rw [upd_ne (ne_of_none hc n1)]; exact hc)
theorem heardV_bt {K : PySem.W.Frag} {T : List (Addr × Str)} {a : Addr} {q : Str} {I H : Hp} {N i : Nat} {BT BX TM : Addr} {cells : List (Str × Addr)} {Ls : List Lam1} {l : Lam1} {f c' : Addr} {σ : L2.St} {z : Str} {Q : VK} (wk : Wk T I H a N) (hl : l ∈ Ls) (hs : σ[i]? = some (some (.ref f))) (hf : I f = some (LamO q l.params l.body l.scope (cloFrom cells l.scope.names []) f c')) (hc : H c' = some (LamX.CodeO c' q)) (hz : PyData.strOk z = true)
    (body : ∀ (Qn : VK) (E : XK), Leaves NoS I H BT (fsBT z) E → l.t E σ H Qn) (k : ∀ I' H', Wk T I' H' a N → Go (StT T a) I H I' H' → Q (.bl false) H') :
    tOp (rNeD K) (tHeardV q cells BT BX TM Ls i) (tTup (tCons (tC (.str "BadTemporal")) (tCons (tC (.str z)) tNil))) σ H Q := by
  refine ⟨l, hl, f, c', hs, wk.sub _ _ hf, hc, fun Qn hQn => ⟨wk.sub _ _ hf, ?_⟩⟩
  refine body Qn _ fun d I2 H2 g2 hId hHd => ⟨d, rfl, .inl ⟨.str z, rfl, hHd, fun p2 H3 g3 h3 => ?_⟩⟩
  refine ⟨(by show 2 ≤ sizeLine; decide), fun t9 ht9 => ?_⟩
  refine ⟨.tuple [.str "BadTemporal", .str z], .tuple [.str "BadTemporal", .str z], .tup (stK (by rw [upd_ne (ne_of_none h3 ht9)]; exact h3)) (.cons (.str _) (.cons (.str _) .nil)), .tup (stK upd_same) (.cons (.str _) (.cons (.str _) .nil)), sh2 ⟨by decide +kernel, rfl⟩ ⟨hz, rfl⟩, sh2 ⟨by decide +kernel, rfl⟩ ⟨hz, rfl⟩, ?_⟩
  rw [eqv2s]
  have g4 := g2.trans ((g3 _ g2.sub).tmp' (o := .tup [.str "BadTemporal", .str z]) ht9)
  exact k _ _ (wk.go g4) g4.any
theorem rdN {i : Nat} {v : V} {σ : L2.St} {H : Hp} {Q : L2.St → Hp → Prop} (h : Q (σ.set i (some v)) H) : gName i v σ H Q := h
theorem rdS {t u : TS} {D : Ends} {σ : L2.St} {H : Hp} (h : t { D with nx := u D } σ H) : tSeq t u D σ H := h
theorem rdFor {K : PySem.W.Frag} {ta : TA} {g : TG} {tb : TS} {D : Ends} {σ : L2.St} {H : Hp} (h : ta σ H fun xs H1 => xs.length ≤ sizeLine ∧ ∀ p, H1 p = none → ∃ b, V.ref p = .ref b ∧ (∃ ys, SqL K (upd H1 p (.lst xs)) b ys) ∧ ∃ W : Nat → Nat → L2.St → Hp → Prop, (∃ m, W 0 m σ (upd H1 p (.lst xs))) ∧ ∀ i m σ H, W i m σ H →
    ((Itl K b).stop i H ∧ D.nx σ H) ∨ ((Itl K b).go i H ∧ ∃ N : L2.St → Hp → Prop, (∀ σ' H', N σ' H' → ∃ m', m' < m ∧ W (i + 1) m' σ' H') ∧ ∀ x H', (Itl K b).yld i H x H' → g x σ H' fun σ2 H2 => tb { D with nx := N, ct := N, bk := D.nx } σ2 H2)) : tFor (iList K (tLst ta)) g tb D σ H := h
theorem rdC {t : TE} {ta : TA} {σ : L2.St} {H : Hp} {Q : List V → Hp → Prop} (h : t σ H (fun x H1 => ta σ H1 fun xs H2 => Q (x :: xs) H2)) : tCons t ta σ H Q := h
theorem rd0 {t : TE} {A B : TS} {D : Ends} {σ : L2.St} {H : Hp} (h : t σ H fun x H' => ∃ k, x = .bl k ∧ if k = true then A D σ H' else B D σ H') : tIfS (tTest t) A B D σ H := h
def spRefused (C : Addr) (T : List (Addr × Str)) : Sp := fun vs H Q _ => ∃ (a b c : Addr) (m : Mdl) (I : Hp) (N : Nat), vs = [.ref a, .ref b, .ref c] ∧ Wk T I H a N ∧ TIs C I (.ref b) m ∧ m.ok ∧ m.words.length ≤ 32 ∧ N + 5 < MaxN ∧ ∀ (I' H' : Hp), Go (StT T a) I H I' H' → Wk T I' H' a (N + 5) → Q (.bl true) H'
abbrev nRef : List Str := ["pen", "made", "model", "ask", "odd", "word"]
section
variable {P : Program} {w : World} {K : PySem.W.Frag} {mg : Str → Option Value} {base : Heap} {C SE BT BX TM : Addr}
theorem scRefused : FnScope nRef ["pen", "made", "model"] (defScope sRefused) := ⟨rfl, rfl, rfl, by decide +kernel, rfl, by decide +kernel, by decide +kernel⟩
theorem ok_refused {T : List (Addr × Str)} {Pt c f : Addr} {fd : FuncData} (F : FunL K "_law_refused_right" sRefused f fd c) (TB : TabB base mg c Pt) (hmT : (Pt, qLam "_law_refused_right") ∈ T) (hu : ∀ p ∈ T, p.1 = Pt → p.2 = qLam "_law_refused_right") (TT : TC K mg C)
    (M : TmOk P w K mg base C BT TM) (MF : FrOk P w K mg base C BX TM) (BA : BinOk P w K mg base C BT TM .BitAnd "AND") (BO : BinOk P w K mg base C BT TM .BitOr "OR") (EQ : EqOk P w K mg base C) (hd : HdOk K mg SE BT BX TM) (cK : C8.Cal P w K mg base 2 "_law_pick" spPick [])
    (cP : CalX P w K mg base 8 "promises_of" (spHeads C BT hsP 4) []) (cQ : CalX P w K mg base 8 "memories_of" (spHeads C BT hsM 4) []) (cE : CalX P w K mg base 4 "events_of" (spEvents C BT) []) : FnG P w K mg base CX0 12 f fd ["pen", "made", "model"] (spRefused C T) := by
  refine F.okG scRefused (fun vs H Q E h => ?_) (fun A outer s H vs Q E ng hr h => ?_)
  · obtain ⟨a, b, c, m, I, N, rfl, _⟩ := h
    rfl
  · obtain ⟨a, b, cm, m, I, N, rfl, wk, tm, ho, hw, hN, k⟩ := h
    have hL : ∀ l ∈ lam6 C BT TM, LamOk (cxOf CX0 P w K mg base nRef "_law_refused_right" (defScope sRefused) f (.ref c) A outer s H E).nox 4 l := by
      intro l hl
      rcases List.mem_cons.mp hl with rfl | hl
      · exact ⟨lamS_by (sc := defScope sRefused) (show lamSB (defScope sRefused) (lamC (lamE 0)) = true by decide +kernel), fun _ _ _ _ _ => rfl, fun A outer s H E f c' hr2 => by show PE _ (Expr.Call (.Name "Temporal" _) [.Name "word" _] [] _) (StX.tMakeR C (spTInit C BT TM) E (tCons (tVar 5) tNil)); exact pe_T M hr2 (by decide) rfl (passes_call (takes_of rfl rfl rfl rfl) (fun _ _ _ _ h => h)) (pa_cons (pv 5) pa_nil)⟩
      rcases List.mem_cons.mp hl with rfl | hl
      · exact ⟨lamS_by (sc := defScope sRefused) (show lamSB (defScope sRefused) (lamC (lamE 1)) = true by decide +kernel), fun _ _ _ _ _ => rfl, fun A outer s H E f c' hr2 => by show PE _ (Expr.Call (.Name "Temporal" _) [.Name "word" _, .Name "made" _, .Name "made" _] [] _) (StX.tMakeR C (spTInit C BT TM) E (tCons (tVar 5) (tCons (tVar 1) (tCons (tVar 1) tNil)))); exact pe_T M hr2 (by decide) rfl (passes_call (takes_of rfl rfl rfl rfl) (fun _ _ _ _ h => h)) (pa_cons (pv 5) (pa_cons (pv 1) (pa_cons (pv 1) pa_nil)))⟩
      rcases List.mem_cons.mp hl with rfl | hl
      · exact ⟨lamS_by (sc := defScope sRefused) (show lamSB (defScope sRefused) (lamC (lamE 2)) = true by decide +kernel), fun _ _ _ _ _ => rfl, fun A outer s H E f c' hr2 => by show PE _ (Expr.Call (.Name "Temporal" _) [.Constant (.str "UNTIL") _ _, .Name "made" _] [] _) (StX.tMakeR C (spTInit C BT TM) E (tCons (tC (.str "UNTIL")) (tCons (tVar 1) tNil))); exact pe_T M hr2 (by decide) rfl (passes_call (takes_of rfl rfl rfl rfl) (fun _ _ _ _ h => h)) (pa_cons pe_str (pa_cons (pv 1) pa_nil))⟩
      rcases List.mem_cons.mp hl with rfl | hl
      · exact ⟨lamS_by (sc := defScope sRefused) (show lamSB (defScope sRefused) (lamC (lamE 3)) = true by decide +kernel), fun _ _ _ _ _ => rfl, fun A outer s H E f c' hr2 => by show PE _ (Expr.Call (.Name "Temporal" _) [.Constant (.str "SINCE") _ _, .Name "made" _, .Name "made" _, .Name "made" _] [] _) (StX.tMakeR C (spTInit C BT TM) E (tCons (tC (.str "SINCE")) (tCons (tVar 1) (tCons (tVar 1) (tCons (tVar 1) tNil))))); exact pe_T M hr2 (by decide) rfl (passes_call (takes_of rfl rfl rfl rfl) (fun _ _ _ _ h => h)) (pa_cons pe_str (pa_cons (pv 1) (pa_cons (pv 1) (pa_cons (pv 1) pa_nil))))⟩
      rcases List.mem_cons.mp hl with rfl | hl
      · exact ⟨lamS_by (sc := defScope sRefused) (show lamSB (defScope sRefused) (lamC (lamE 4)) = true by decide +kernel), fun _ _ _ _ _ => rfl, fun A outer s H E f c' hr2 => by show PE _ (Expr.Call (.Name "Temporal" _) [.Constant (.str "a") _ _, .Name "made" _] [] _) (StX.tMakeR C (spTInit C BT TM) E (tCons (tC (.str "a")) (tCons (tVar 1) tNil))); exact pe_T M hr2 (by decide) rfl (passes_call (takes_of rfl rfl rfl rfl) (fun _ _ _ _ h => h)) (pa_cons pe_str (pa_cons (pv 1) pa_nil))⟩
      rcases List.mem_cons.mp hl with rfl | hl
      · exact ⟨lamS_by (sc := defScope sRefused) (show lamSB (defScope sRefused) (lamC (lamE 5)) = true by decide +kernel), fun _ _ _ _ _ => rfl, fun A outer s H E f c' hr2 => by show PE _ (Expr.Call (.Name "Temporal" _) [.Constant (.str "TRUE") _ _, .Name "made" _] [] _) (StX.tMakeR C (spTInit C BT TM) E (tCons (tC (.str "TRUE")) (tCons (tVar 1) tNil))); exact pe_T M hr2 (by decide) rfl (passes_call (takes_of rfl rfl rfl rfl) (fun _ _ _ _ h => h)) (pa_cons pe_str (pa_cons (pv 1) pa_nil))⟩
      cases hl
    refine ⟨_, pss_cons (ps_for PassesOwn.never rfl (pi_list (pe_lst (pa_cons pe_non (pa_cons pe_bl (pa_cons pe_int (pa_cons pe_str (pa_cons pe_str (pa_cons pe_str (pa_cons (pe_op op_mulS pe_str pe_int) (pa_cons pe_str (pa_cons (pe_lst (pa_cons pe_str pa_nil)) (pa_cons (pe_tup (pa_cons pe_str pa_nil)) (pa_cons pe_dnewK (pa_cons (pv 1) pa_nil)))))))))))))) (pg_name (i := 4) scRefused.nd rfl (Or.inr rfl))
          (pss_cons (ps_if (pt_cmpR (op_neD hr.units) (pe_heard (T := T) (P := Pt) (k := 4) (t := fun E => StX.tMakeR C (spTInit C BT TM) E (tCons (tVar 4) tNil)) hd rfl TB rfl hmT hu hr (by decide) (lamS_by (sc := defScope sRefused) (by decide +kernel)) rfl (fun _ _ _ _ _ => rfl) (fun A outer s H E f c' hr2 => pe_T M hr2 (by decide) rfl (passes_call (takes_of rfl rfl rfl rfl) (fun _ _ _ _ h => h)) (pa_cons (pv 4) pa_nil))) (pe_tup (pa_cons pe_str (pa_cons pe_str pa_nil))) (nomark _)) (pss_one (ps_ret pe_bl)) pss_nil)
          (pss_cons (ps_if (pt_cmpR (op_neD hr.units) (pe_heard (T := T) (P := Pt) (k := 4) (t := fun E => StX.tMakeR C (spTInit C BT TM) E (tCons (tVar 4) (tCons (tC (.int 1)) (tCons (tC (.int 2)) (tCons (tC (.int 3)) tNil))))) hd rfl TB rfl hmT hu hr (by decide) (lamS_by (sc := defScope sRefused) (by decide +kernel)) rfl (fun _ _ _ _ _ => rfl) (fun A outer s H E f c' hr2 => pe_T M hr2 (by decide) rfl (passes_call (takes_of rfl rfl rfl rfl) (fun _ _ _ _ h => h)) (pa_cons (pv 4) (pa_cons pe_int (pa_cons pe_int (pa_cons pe_int pa_nil)))))) (pe_tup (pa_cons pe_str (pa_cons pe_str pa_nil))) (nomark _)) (pss_one (ps_ret pe_bl)) pss_nil)
          (pss_cons (ps_if (pt_cmpR (op_neD hr.units) (pe_heard (T := T) (P := Pt) (k := 4) (t := fun E => StX.tMakeR C (spTInit C BT TM) E (tCons (tC (.str "NOT")) (tCons (tVar 4) tNil))) hd rfl TB rfl hmT hu hr (by decide) (lamS_by (sc := defScope sRefused) (by decide +kernel)) rfl (fun _ _ _ _ _ => rfl) (fun A outer s H E f c' hr2 => pe_T M hr2 (by decide) rfl (passes_call (takes_of rfl rfl rfl rfl) (fun _ _ _ _ h => h)) (pa_cons pe_str (pa_cons (pv 4) pa_nil)))) (pe_ifExp (pt_cmpR (op_eqT EQ hr (by decide)) (pv 4) (pv 1) (nomark _)) pe_non (pe_tup (pa_cons pe_str (pa_cons pe_str pa_nil)))) (nomark _)) (pss_one (ps_ret pe_bl)) pss_nil)
          (pss_cons (ps_if (PW.pt (pw_and (pt_cmpR (op_neT EQ hr (by decide)) (pv 4) (pv 1) (nomark _)) (pw_and1 (pt_cmpR (op_neD hr.units) (pe_heard (T := T) (P := Pt) (k := 4) (t := fun E => StX.tMakeR C (spTInit C BT TM) E (tCons (tC (.str "OR")) (tCons (tVar 1) (tCons (tVar 4) tNil)))) hd rfl TB rfl hmT hu hr (by decide) (lamS_by (sc := defScope sRefused) (by decide +kernel)) rfl (fun _ _ _ _ _ => rfl) (fun A outer s H E f c' hr2 => pe_T M hr2 (by decide) rfl (passes_call (takes_of rfl rfl rfl rfl) (fun _ _ _ _ h => h)) (pa_cons pe_str (pa_cons (pv 1) (pa_cons (pv 4) pa_nil))))) (pe_tup (pa_cons pe_str (pa_cons pe_str pa_nil))) (nomark _))))) (pss_one (ps_ret pe_bl)) pss_nil)
          (pss_cons (ps_if (PW.pt (pw_and (pt_cmpR (op_neT EQ hr (by decide)) (pv 4) (pv 1) (nomark _)) (pw_and1 (pt_cmpR (op_neD hr.units) (pe_heard (T := T) (P := Pt) (k := 5) (t := fun E => tOp (rOwnB C (spBin C BT TM "AND") E) (tVar 1) (tVar 4)) hd rfl TB rfl hmT hu hr (by decide) (lamS_by (sc := defScope sRefused) (by decide +kernel)) rfl (fun _ _ _ _ _ => rfl) (fun A outer s H E f c' hr2 => pe_bin (.inl rfl) BA hr2 (by decide) (passes_call (takes_of rfl rfl rfl rfl) (fun _ _ _ _ h => h)) (pv 1) (pv 4))) (pe_tup (pa_cons pe_str (pa_cons pe_str pa_nil))) (nomark _))))) (pss_one (ps_ret pe_bl)) pss_nil)
          (pss_cons (ps_if (PW.pt (pw_and (pt_cmpR (op_neT EQ hr (by decide)) (pv 4) (pv 1) (nomark _)) (pw_and1 (pt_cmpR (op_neD hr.units) (pe_heard (T := T) (P := Pt) (k := 5) (t := fun E => tOp (rOwnB C (spBin C BT TM "OR") E) (tVar 1) (tVar 4)) hd rfl TB rfl hmT hu hr (by decide) (lamS_by (sc := defScope sRefused) (by decide +kernel)) rfl (fun _ _ _ _ _ => rfl) (fun A outer s H E f c' hr2 => pe_bin (.inr rfl) BO hr2 (by decide) (passes_call (takes_of rfl rfl rfl rfl) (fun _ _ _ _ h => h)) (pv 1) (pv 4))) (pe_tup (pa_cons pe_str (pa_cons pe_str pa_nil))) (nomark _))))) (pss_one (ps_ret pe_bl)) pss_nil)
          (pss_cons (ps_if (PW.pt (pw_and (pt_cmpR (op_neT EQ hr (by decide)) (pv 4) (pv 1) (nomark _)) (pw_and1 (pt_cmpR (op_neD hr.units) (pe_heard (T := T) (P := Pt) (k := 8) (t := fun E => tCall (spHeads C BT hsP 4) [] E (tCons (tVar 4) tNil)) hd rfl TB rfl hmT hu hr (by decide) (lamS_by (sc := defScope sRefused) (by decide +kernel)) rfl (fun _ _ _ _ _ => rfl) (fun A outer s H E f c' hr2 => pe_cX cP hr2 (by decide) rfl (passes_call (takes_of rfl rfl rfl rfl) (fun _ _ _ _ h => h)) (pa_cons (pv 4) pa_nil))) (pe_tup (pa_cons pe_str (pa_cons pe_str pa_nil))) (nomark _))))) (pss_one (ps_ret pe_bl)) pss_nil)
          (pss_cons (ps_if (PW.pt (pw_and (pt_cmpR (op_neT EQ hr (by decide)) (pv 4) (pv 1) (nomark _)) (pw_and1 (pt_cmpR (op_neD hr.units) (pe_heard (T := T) (P := Pt) (k := 8) (t := fun E => tCall (spHeads C BT hsM 4) [] E (tCons (tVar 4) tNil)) hd rfl TB rfl hmT hu hr (by decide) (lamS_by (sc := defScope sRefused) (by decide +kernel)) rfl (fun _ _ _ _ _ => rfl) (fun A outer s H E f c' hr2 => pe_cX cQ hr2 (by decide) rfl (passes_call (takes_of rfl rfl rfl rfl) (fun _ _ _ _ h => h)) (pa_cons (pv 4) pa_nil))) (pe_tup (pa_cons pe_str (pa_cons pe_str pa_nil))) (nomark _))))) (pss_one (ps_ret pe_bl)) pss_nil)
          (pss_cons (ps_if (PW.pt (pw_and (pt_cmpR (op_neT EQ hr (by decide)) (pv 4) (pv 1) (nomark _)) (pw_and1 (pt_cmpR (op_neD hr.units) (pe_heard (T := T) (P := Pt) (k := 4) (t := fun E => tCall (spEvents C BT) [] E (tCons (tVar 4) tNil)) hd rfl TB rfl hmT hu hr (by decide) (lamS_by (sc := defScope sRefused) (by decide +kernel)) rfl (fun _ _ _ _ _ => rfl) (fun A outer s H E f c' hr2 => pe_cX cE hr2 (by decide) rfl (passes_call (takes_of rfl rfl rfl rfl) (fun _ _ _ _ h => h)) (pa_cons (pv 4) pa_nil))) (pe_tup (pa_cons pe_str (pa_cons pe_str pa_nil))) (nomark _))))) (pss_one (ps_ret pe_bl)) pss_nil)
          (pss_cons (ps_if (PW.pt (pw_and (pt_not (pt_val (pe_callB call_isi (by rfl) TT.isi (by decide +kernel) (pa_cons (pv 4) (pa_cons (pe_bltn (v := .ty "str") rfl TT.str (by decide +kernel) rfl) pa_nil))))) (pw_and1 (pt_cmpR (op_neD hr.units) (pe_heard (T := T) (P := Pt) (k := 6) (t := fun E => ClX.tCMeth C (spFrom C BX TM) E (tC (.ref C)) (tCons (tVar 4) tNil)) hd rfl TB rfl hmT hu hr (by decide) (lamS_by (sc := defScope sRefused) (by decide +kernel)) rfl (fun _ _ _ _ _ => rfl) (fun A outer s H E f c' hr2 => pe_from MF hr2 (by decide) (passes_call (takes_of rfl rfl rfl rfl) (fun _ _ _ _ h => h)) (pe_glob (v := .ref C) rfl TT.mgC rfl) (pv 4))) (pe_tup (pa_cons pe_str (pa_cons pe_int (pa_cons pe_int pa_nil)))) (nomark _))))) (pss_one (ps_ret pe_bl)) pss_nil)
          (pss_one (ps_if (PW.pt (pw_and (pt_not (pt_val (pe_callB call_isi (by rfl) TT.isi (by decide +kernel) (pa_cons (pv 4) (pa_cons (pe_glob (v := .ref C) rfl TT.mgC rfl) pa_nil))))) (pw_and1 (PW.pt (pw_or (pt_cmpR (op_eqT EQ hr (by decide)) (pv 1) (pv 4) (nomark _)) (pw_or1 (pt_not (pt_cmpR (op_neT EQ hr (by decide)) (pv 1) (pv 4) (nomark _))))))))) (pss_one (ps_ret pe_bl)) pss_nil)))))))))))))
      (pss_cons (ps_set (i := 5) scRefused.nd rfl (Or.inr rfl) (C8.pe_c cK hr (by decide) rfl (pa_cons (pv 0) (pa_cons (pe_lst (pa_cons pe_str (pa_cons pe_str (pa_cons pe_str (pa_cons pe_str (pa_cons pe_str pa_nil)))))) pa_nil))))
      (pss_cons (ps_for PassesOwn.never rfl (pi_list (pe_lst (pa_cons (pe_lamV TB rfl hmT hu (lamS_by (sc := defScope sRefused) (by decide +kernel)) rfl) (pa_cons (pe_lamV TB rfl hmT hu (lamS_by (sc := defScope sRefused) (by decide +kernel)) rfl) (pa_cons (pe_lamV TB rfl hmT hu (lamS_by (sc := defScope sRefused) (by decide +kernel)) rfl) (pa_cons (pe_lamV TB rfl hmT hu (lamS_by (sc := defScope sRefused) (by decide +kernel)) rfl) (pa_cons (pe_lamV TB rfl hmT hu (lamS_by (sc := defScope sRefused) (by decide +kernel)) rfl) (pa_cons (pe_lamV TB rfl hmT hu (lamS_by (sc := defScope sRefused) (by decide +kernel)) rfl) pa_nil)))))))) (pg_name (i := 3) scRefused.nd rfl (Or.inl rfl))
        (pss_one (ps_if (pt_cmpR (op_neD hr.units) (pe_heardV (k := 4) (i := 3) hd rfl hr (by decide) hL rfl (.inl rfl)) (pe_tup (pa_cons pe_str (pa_cons pe_str pa_nil))) (nomark _)) (pss_one (ps_ret pe_bl)) pss_nil)))
      (pss_one (ps_ret pe_bl)))), ?_⟩
    refine ⟨_, _, rfl, rfl, ⟨rfl, fun _ _ => by decide, fun _ _ => by decide +kernel⟩, (by show 1 ≤ sizeLine; decide), fun l1 hl1 => ⟨(by show 1 ≤ sizeLine; decide), fun t1 ht1 => fun d1 hd1 => ⟨_, rfl, (by show 12 ≤ sizeLine; decide), fun l0 hl0 => ?_⟩⟩⟩
    have gA := Go.new (S := NoS) (o := .lst [.str "a"]) wk.sub hl1
    have gB := gA.new' (o := .tup [.str "a"]) ht1
    have gC := gB.new' (o := .dK []) hd1
    have gD := gC.new' (o := .lst [.non, .bl true, .int 0, .str "", .str "Next", .str "next up", .str (Txt.mul "y" 25), .str "a-b", .ref l1, .ref t1, .ref d1, .ref b]) hl0
    have e0 : (upd (upd (upd (upd I l1 (.lst [.str "a"])) t1 (.tup [.str "a"])) d1 (.dK [])) l0 (.lst [.non, .bl true, .int 0, .str "", .str "Next", .str "next up", .str (Txt.mul "y" 25), .str "a-b", .ref l1, .ref t1, .ref d1, .ref b])) l0 = some (.lst [.non, .bl true, .int 0, .str "", .str "Next", .str "next up", .str (Txt.mul "y" 25), .str "a-b", .ref l1, .ref t1, .ref d1, .ref b]) := upd_same
    have ed1 := ((Go.new (S := NoS) (o := .lst [.non, .bl true, .int 0, .str "", .str "Next", .str "next up", .str (Txt.mul "y" 25), .str "a-b", .ref l1, .ref t1, .ref d1, .ref b]) gC.sub hl0).ext) _ _ (show (upd (upd (upd I l1 (.lst [.str "a"])) t1 (.tup [.str "a"])) d1 (.dK [])) d1 = some (.dK []) from upd_same)
    have et1 := (((Go.new (S := NoS) (o := .dK []) gB.sub hd1).new' (o := .lst [.non, .bl true, .int 0, .str "", .str "Next", .str "next up", .str (Txt.mul "y" 25), .str "a-b", .ref l1, .ref t1, .ref d1, .ref b]) hl0).ext) _ _ (show (upd (upd I l1 (.lst [.str "a"])) t1 (.tup [.str "a"])) t1 = some (.tup [.str "a"]) from upd_same)
    have el1 := ((((Go.new (S := NoS) (o := .tup [.str "a"]) gA.sub ht1).new' (o := .dK []) hd1).new' (o := .lst [.non, .bl true, .int 0, .str "", .str "Next", .str "next up", .str (Txt.mul "y" 25), .str "a-b", .ref l1, .ref t1, .ref d1, .ref b]) hl0).ext) _ _ (show (upd I l1 (.lst [.str "a"])) l1 = some (.lst [.str "a"]) from upd_same)
    have wkD := wk.go gD
    have tmD := tm.ext gD.ext
    have good : ∀ (i : Nat) (x : V), ([.non, .bl true, .int 0, .str "", .str "Next", .str "next up", .str (Txt.mul "y" 25), .str "a-b", .ref l1, .ref t1, .ref d1, .ref b] : List V)[i]? = some x → ∃ bb, Od C (upd (upd (upd (upd I l1 (.lst [.str "a"])) t1 (.tup [.str "a"])) d1 (.dK [])) l0 (.lst [.non, .bl true, .int 0, .str "", .str "Next", .str "next up", .str (Txt.mul "y" 25), .str "a-b", .ref l1, .ref t1, .ref d1, .ref b])) x b m bb := fun i x h => by
      match i with
      | 0 => cases h; exact ⟨false, .non, rfl, (fun z => nomatch z), tmD, ho⟩
      | 1 => cases h; exact ⟨false, .bl _, rfl, (fun z => nomatch z), tmD, ho⟩
      | 2 => cases h; exact ⟨false, .int _, rfl, (fun z => nomatch z), tmD, ho⟩
      | 3 => cases h; exact ⟨false, .str _ (by decide +kernel), (show due "" = none by decide +kernel), (fun z => nomatch z), tmD, ho⟩
      | 4 => cases h; exact ⟨false, .str _ (by decide +kernel), (show due "Next" = none by decide +kernel), (fun z => nomatch z), tmD, ho⟩
      | 5 => cases h; exact ⟨false, .str _ (by decide +kernel), (show due "next up" = none by decide +kernel), (fun z => nomatch z), tmD, ho⟩
      | 6 => cases h; exact ⟨false, .str _ (by decide +kernel), (show due (Txt.mul "y" 25) = none by decide +kernel), (fun z => nomatch z), tmD, ho⟩
      | 7 => cases h; exact ⟨false, .str _ (by decide +kernel), (show due "a-b" = none by decide +kernel), (fun z => nomatch z), tmD, ho⟩
      | 8 => cases h; exact ⟨false, .lst el1, rfl, (fun z => nomatch z), tmD, ho⟩
      | 9 => cases h; exact ⟨false, .tup et1, rfl, (fun z => nomatch z), tmD, ho⟩
      | 10 => cases h; exact ⟨false, .dct ed1, rfl, (fun z => nomatch z), tmD, ho⟩
      | 11 => cases h; exact ⟨true, tmD.kn, rfl, (fun _ => rfl), tmD, ho⟩
      | i + 12 => simp at h
    refine ⟨l0, rfl, ⟨_, sqK upd_same⟩, for_it (walk_list (xs := ([.non, .bl true, .int 0, .str "", .str "Next", .str "next up", .str (Txt.mul "y" 25), .str "a-b", .ref l1, .ref t1, .ref d1, .ref b] : List V))) (fun i σ H' => ∃ (I' : Hp) (o4 : Option V), Go (StT T a) I H I' H' ∧ Wk T I' H' a N ∧ Same (upd (upd (upd (upd I l1 (.lst [.str "a"])) t1 (.tup [.str "a"])) d1 (.dK [])) l0 (.lst [.non, .bl true, .int 0, .str "", .str "Next", .str "next up", .str (Txt.mul "y" 25), .str "a-b", .ref l1, .ref t1, .ref d1, .ref b])) I' ∧
      σ = [some (V.ref a), some (.ref b), some (.ref cm), none, o4, none]) ⟨_, none, gD.any, wkD, Same.refl _, rfl⟩ (fun i σ H' _ h => ?_) ?_ ?_⟩
    · obtain ⟨I', o4, _, w, s, _⟩ := h
      exact sqK (w.sub _ _ (s _ _ e0))
    · rintro i v σ H0 Hw hi ⟨I0, oq, Gz, wk0, sz, rfl⟩ ⟨rfl, hx⟩
      obtain ⟨bb, od⟩ := good i v hx
      have o0 := od.ext sz
      have G0 : Go (StT T a) I0 Hw I0 Hw := Go.refl wk0.sub
      cases bb with
      | false =>
        refine rd1 (heard_bt wk0 hmT (by decide +kernel) (fun Hx Qn E wx l => ⟨_, rfl, fun x dx n1 n2 n3 => mk_word (ps := []) (bs := []) wx.sub o0.kn o0.du (by decide) rfl (fun i p b h => by simp at h) l n1 n2 n3⟩) fun I1 H1 wk1 g1 => ⟨_, rfl, iteF ?_⟩)
        have G1 := G0.trans g1
        have o1 := o0.ext g1.ext
        refine rd1 (heard_bt wk1 hmT (by decide +kernel) (fun Hx Qn E wx l => ⟨_, rfl, fun x dx n1 n2 n3 => mk_word (ps := [.int 1, .int 2, .int 3]) (bs := [false, false, false]) wx.sub o1.kn o1.du (by decide) rfl (list3b (.int 1) (.int 2) (.int 3)) l n1 n2 n3⟩) fun I2 H2 wk2 g2 => ⟨_, rfl, iteF ?_⟩)
        have G2 := G1.trans g2
        have o2 := o1.ext g2.ext
        refine ⟨wk2.tab, fun Hy ey Ty Qn hQn => ?_⟩
        obtain ⟨wky, gy⟩ := wk2.lam hmT ey Ty
        refine ⟨_, rfl, fun x dx n1 n2 n3 => mk_parts (z := "NOT") (n := 1) (ps := [v]) (bs := [false]) wky.sub (by decide +kernel) (by show 1 ≤ 1000; decide) rfl (list1 o2.kn) (.inr rfl) (fun d I4 H3 g3 hId hHd => ⟨d, rfl, .inl ⟨.str "parts", rfl, hHd, fun p2 Hq g4 h4 => ?_⟩⟩) n1 n2 n3⟩
        have a4 := g3.trans (g4 _ g3.sub)
        have w4 := wky.go a4
        refine ⟨_, rfl, _, rfl, od_l (f := id) (o2.ext g3.ext) w4.sub ⟨_, rfl, iteF ?_⟩⟩
        refine ⟨(by show 2 ≤ sizeLine; decide), fun t9 ht9 => ?_⟩
        refine ⟨.tuple [.str "BadTemporal", .str "parts"], .tuple [.str "BadTemporal", .str "parts"], .tup (stK (by rw [upd_ne (ne_of_none h4 ht9)]; exact h4)) (.cons (.str _) (.cons (.str _) .nil)), .tup (stK upd_same) (.cons (.str _) (.cons (.str _) .nil)), sh2 ⟨by decide +kernel, rfl⟩ ⟨by decide +kernel, rfl⟩, sh2 ⟨by decide +kernel, rfl⟩ ⟨by decide +kernel, rfl⟩, _, rfl, ?_⟩
        rw [eqv2s]
        refine iteF ?_
        have b4 := a4.tmp' (o := .tup [.str "BadTemporal", .str "parts"]) ht9
        have wk4 := wky.go b4
        have G4 := (G2.trans (wk_st hmT gy)).trans b4.any
        have o4 := o2.ext b4.ext
        generalize upd Hq t9 (.tup [.str "BadTemporal", .str "parts"]) = H4 at b4 wk4 G4 ⊢
        refine rdn ?_
        dsimp only
        refine rd2 ?_
        refine ⟨_, rfl, _, rfl, od_l (f := not) o4 wk4.sub ⟨_, rfl, iteT (heard_bt wk4 hmT (by decide +kernel) (fun Hx Qn E wx l => ⟨_, rfl, _, rfl, fun x dx n1 n2 n3 => mk_parts (z := "OR") (n := 2) (ps := [.ref b, v]) (bs := [true, false]) wx.sub (by decide +kernel) (by show 2 ≤ 1000; decide) rfl (list2 o4.tm.kn o4.kn) (.inr rfl) l n1 n2 n3⟩) fun I5 H5 wk5 g5 => ⟨_, rfl, iteF ?_⟩)⟩⟩
        have G5 := G4.trans g5
        have o5 := o4.ext g5.ext
        refine rdn ?_
        dsimp only
        refine rd2 ?_
        refine ⟨_, rfl, _, rfl, od_l (f := not) o5 wk5.sub ⟨_, rfl, iteT (heard_bt wk5 hmT (by decide +kernel) (fun Hx Qn E wx l => ⟨_, rfl, _, rfl, false, (o5.tm.ext wx.sub).kn, o5.kn.ext wx.sub, .ref b, v, m, false, I5, rfl, wx.sub, o5.tm, o5.kn, by omega, (fun _ => l), fun z => nomatch z⟩) fun I6 H6 wk6 g6 => ⟨_, rfl, iteF ?_⟩)⟩⟩
        have G6 := G5.trans g6
        have o6 := o5.ext g6.ext
        refine rdn ?_
        dsimp only
        refine rd2 ?_
        refine ⟨_, rfl, _, rfl, od_l (f := not) o6 wk6.sub ⟨_, rfl, iteT (heard_bt wk6 hmT (by decide +kernel) (fun Hx Qn E wx l => ⟨_, rfl, _, rfl, false, (o6.tm.ext wx.sub).kn, o6.kn.ext wx.sub, .ref b, v, m, false, I6, rfl, wx.sub, o6.tm, o6.kn, by omega, (fun _ => l), fun z => nomatch z⟩) fun I7 H7 wk7 g7 => ⟨_, rfl, iteF ?_⟩)⟩⟩
        have G7 := G6.trans g7
        have o7 := o6.ext g7.ext
        refine rdn ?_
        dsimp only
        refine rd2 ?_
        refine ⟨_, rfl, _, rfl, od_l (f := not) o7 wk7.sub ⟨_, rfl, iteT (heard_bt wk7 hmT (by decide +kernel) (fun Hx Qn E wx l => ⟨_, rfl, v, false, I7, rfl, wx.sub, o7.kn, (fun _ => l), fun z => nomatch z⟩) fun I8 H8 wk8 g8 => ⟨_, rfl, iteF ?_⟩)⟩⟩
        have G8 := G7.trans g8
        have o8 := o7.ext g8.ext
        refine rdn ?_
        dsimp only
        refine rd2 ?_
        refine ⟨_, rfl, _, rfl, od_l (f := not) o8 wk8.sub ⟨_, rfl, iteT (heard_bt wk8 hmT (by decide +kernel) (fun Hx Qn E wx l => ⟨_, rfl, v, false, I8, rfl, wx.sub, o8.kn, (fun _ => l), fun z => nomatch z⟩) fun I9 H9 wk9 g9 => ⟨_, rfl, iteF ?_⟩)⟩⟩
        have G9 := G8.trans g9
        have o9 := o8.ext g9.ext
        refine rdn ?_
        dsimp only
        refine rd2 ?_
        refine ⟨_, rfl, _, rfl, od_l (f := not) o9 wk9.sub ⟨_, rfl, iteT (heard_bt wk9 hmT (by decide +kernel) (fun Hx Qn E wx l => ⟨_, rfl, v, false, I9, rfl, wx.sub, o9.kn, (fun _ => l), fun z => nomatch z⟩) fun I10 H10 wk10 g10 => ⟨_, rfl, iteF ?_⟩)⟩⟩
        have G10 := G9.trans g10
        have o10 := o9.ext g10.ext
        obtain ⟨t, ty, kt, ks⟩ := kn_ty TT (o10.kn.ext wk10.sub)
        cases hs : isStr v with
        | true =>
          rw [hs] at ks
          refine rdn ?_
          dsimp only
          refine rd3 ?_
          refine ⟨_, rfl, _, _, t, _, _, rfl, .ty "str", ty, ks, _, rfl, iteF (iteF ?_)⟩
          obtain ⟨t, ty, kt, _⟩ := kn_ty TT (o10.kn.ext wk10.sub)
          refine ⟨_, rfl, _, _, t, _, false, rfl, .own C, ty, kt, _, rfl, iteT ?_⟩
          refine ⟨_, rfl, _, rfl, od_r (f := id) o10 wk10.sub ⟨_, rfl, iteF ?_⟩⟩
          refine ⟨_, rfl, _, rfl, od_r (f := not) o10 wk10.sub ⟨_, rfl, iteF ?_⟩⟩
          exact ⟨I10, _, Gz.trans G10, wk10, sz.trans G10.ext, rfl⟩
        | false =>
          rw [hs] at ks
          refine rdn ?_
          dsimp only
          refine rd3 ?_
          refine ⟨_, rfl, _, _, t, _, _, rfl, .ty "str", ty, ks, _, rfl, iteT (heard_bx wk10 hmT (fun Hx Qn E wx l => ⟨rfl, _, rfl, v, rfl, v, false, I10, rfl, wx.sub, o10.kn, (fun _ => l), fun z hz => by rw [hz] at hs; cases hs⟩) fun I11 H11 wk11 g11 => ⟨_, rfl, iteF ?_⟩)⟩
          have G11 := G10.trans g11
          have o11 := o10.ext g11.ext
          obtain ⟨t, ty, kt, _⟩ := kn_ty TT (o11.kn.ext wk11.sub)
          refine ⟨_, rfl, _, _, t, _, false, rfl, .own C, ty, kt, _, rfl, iteT ?_⟩
          refine ⟨_, rfl, _, rfl, od_r (f := id) o11 wk11.sub ⟨_, rfl, iteF ?_⟩⟩
          refine ⟨_, rfl, _, rfl, od_r (f := not) o11 wk11.sub ⟨_, rfl, iteF ?_⟩⟩
          exact ⟨I11, _, Gz.trans G11, wk11, sz.trans G11.ext, rfl⟩
      | true =>
        have ev := o0.is rfl
        subst ev
        refine rd1 (heard_bt wk0 hmT (by decide +kernel) (fun Hx Qn E wx l => ⟨_, rfl, fun x dx n1 n2 n3 => mk_word (ps := []) (bs := []) wx.sub o0.kn o0.du (by decide) rfl (fun i p b h => by simp at h) l n1 n2 n3⟩) fun I1 H1 wk1 g1 => ⟨_, rfl, iteF ?_⟩)
        have G1 := G0.trans g1
        have o1 := o0.ext g1.ext
        refine rd1 (heard_bt wk1 hmT (by decide +kernel) (fun Hx Qn E wx l => ⟨_, rfl, fun x dx n1 n2 n3 => mk_word (ps := [.int 1, .int 2, .int 3]) (bs := [false, false, false]) wx.sub o1.kn o1.du (by decide) rfl (list3b (.int 1) (.int 2) (.int 3)) l n1 n2 n3⟩) fun I2 H2 wk2 g2 => ⟨_, rfl, iteF ?_⟩)
        have G2 := G1.trans g2
        have o2 := o1.ext g2.ext
        refine ⟨wk2.tab, fun Hy ey Ty Qn hQn => ?_⟩
        obtain ⟨wky, gy⟩ := wk2.lam hmT ey Ty
        refine ⟨_, rfl, fun x dx n1 n2 n3 => tmake_ex (m := .un "NOT" m) (ps := [.ref b]) wky.sub rfl (fun i p kk h1 h2 => ?_) (show due "NOT" = some 1 by decide +kernel) (by show m.words.length + 1 ≤ 40; omega) n1 n2 n3 fun H4 I4 g4 t4 => ⟨rfl, hQn _ _ ?_⟩⟩
        · match i with
          | 0 => cases h1; cases h2; exact o2.tm
          | i + 1 => simp at h1
        have wk4 := wky.go g4
        have G4 := (G2.trans (wk_st hmT gy)).trans g4.any
        have o4 := o2.ext g4.ext
        refine ⟨_, rfl, _, rfl, od_l (f := id) o4 wk4.sub ⟨_, rfl, iteT ?_⟩⟩
        refine ⟨.none, .none, .non, .non, rfl, rfl, _, rfl, iteF ?_⟩
        refine rdn ?_
        dsimp only
        refine rd2 ?_
        refine ⟨_, rfl, _, rfl, od_l (f := not) o4 wk4.sub ⟨_, rfl, iteF (iteF ?_)⟩⟩
        refine rdn ?_
        dsimp only
        refine rd2 ?_
        refine ⟨_, rfl, _, rfl, od_l (f := not) o4 wk4.sub ⟨_, rfl, iteF (iteF ?_)⟩⟩
        refine rdn ?_
        dsimp only
        refine rd2 ?_
        refine ⟨_, rfl, _, rfl, od_l (f := not) o4 wk4.sub ⟨_, rfl, iteF (iteF ?_)⟩⟩
        refine rdn ?_
        dsimp only
        refine rd2 ?_
        refine ⟨_, rfl, _, rfl, od_l (f := not) o4 wk4.sub ⟨_, rfl, iteF (iteF ?_)⟩⟩
        refine rdn ?_
        dsimp only
        refine rd2 ?_
        refine ⟨_, rfl, _, rfl, od_l (f := not) o4 wk4.sub ⟨_, rfl, iteF (iteF ?_)⟩⟩
        refine rdn ?_
        dsimp only
        refine rd2 ?_
        refine ⟨_, rfl, _, rfl, od_l (f := not) o4 wk4.sub ⟨_, rfl, iteF (iteF ?_)⟩⟩
        obtain ⟨t, ty, kt, ks⟩ := kn_ty TT (o4.kn.ext wk4.sub)
        refine rdn ?_
        dsimp only
        refine rd3 ?_
        refine ⟨_, rfl, _, _, t, _, _, rfl, .ty "str", ty, ks, _, rfl, iteT (heard_bx wk4 hmT (fun Hx Qn E wx l => ⟨rfl, _, rfl, .ref b, rfl, .ref b, true, I4, rfl, wx.sub, o4.kn, (fun _ => l), fun z hz => by cases hz⟩) fun I5 H5 wk5 g5 => ⟨_, rfl, iteF ?_⟩)⟩
        have G5 := G4.trans g5
        have o5 := o4.ext g5.ext
        obtain ⟨t, ty, kt, ks⟩ := kn_ty TT (o5.kn.ext wk5.sub)
        refine ⟨_, rfl, _, _, t, _, true, rfl, .own C, ty, kt, _, rfl, iteF (iteF ?_)⟩
        exact ⟨I5, _, Gz.trans G5, wk5, sz.trans G5.ext, rfl⟩
    · rintro σz Hz ⟨I0, o4, G0, wk0, s0, rfl⟩
      have G0' := G0
      refine ⟨_, rfl, (by show 5 ≤ sizeLine; decide), fun q hq => ?_⟩
      have gq := Go.tmp (S := NoS) (o := .lst (refW.map V.str)) wk0.sub hq
      have wkq := wk0.go gq
      refine ⟨a, q, refW.map V.str, I0, N, rfl, wkq.sub, wkq.pen, by omega, upd_same, wk0.pen.ne hq, by decide, by decide, fun v Ia Ha hv ga pa => ?_⟩
      obtain ⟨wrd, hwm, rfl⟩ := List.mem_map.mp hv
      have hwd : due wrd = some 1 := (by decide +kernel : ∀ z ∈ refW, due z = some 1) _ hwm
      have wka := wkq.draw ga pa
      have Ga := (G0.trans gq.any).trans (ga.mono stT_pen)
      have sa : Same I0 Ia := ga.ext
      refine rdN ?_
      dsimp only
      refine rdS (rdFor ?_)
      refine rdC (tl_step wka hmT fun f1 c1 I1 H1 w1 g1 e1 h1 => ?_)
      refine rdC (tl_step w1 hmT fun f2 c2 I2 H2 w2 g2 e2 h2 => ?_)
      refine rdC (tl_step w2 hmT fun f3 c3 I3 H3 w3 g3 e3 h3 => ?_)
      refine rdC (tl_step w3 hmT fun f4 c4 I4 H4 w4 g4 e4 h4 => ?_)
      refine rdC (tl_step w4 hmT fun f5 c5 I5 H5 w5 g5 e5 h5 => ?_)
      refine rdC (tl_step w5 hmT fun f6 c6 I6 H6 w6 g6 e6 h6 => ?_)
      refine ⟨(by show 6 ≤ sizeLine; decide), fun l6 hl6 => ?_⟩
      have g7 := Go.new (S := NoS) (o := .lst [.ref f1, .ref f2, .ref f3, .ref f4, .ref f5, .ref f6]) w6.sub hl6
      have w7 := w6.go g7
      have g67 := g7.any (S := StT T a)
      have g56 := g6.trans g67
      have g45 := g5.trans g56
      have g34 := g4.trans g45
      have g23 := g3.trans g34
      have g12 := g2.trans g23
      have g01 := g1.trans g12
      have E1 := g12.ext _ _ e1
      have E2 := g23.ext _ _ e2
      have E3 := g34.ext _ _ e3
      have E4 := g45.ext _ _ e4
      have E5 := g56.ext _ _ e5
      have E6 := g67.ext _ _ e6
      have C1 := code_keep w1 g12 h1
      have C2 := code_keep w2 g23 h2
      have C3 := code_keep w3 g34 h3
      have C4 := code_keep w4 g45 h4
      have C5 := code_keep w5 g56 h5
      have C6 := code_keep w6 g67 h6
      have G7 := Ga.trans g01
      have tm7 : TIs C _ (.ref b) m := ((tmD.ext s0).ext sa).ext g01.ext
      refine ⟨l6, rfl, ⟨_, sqK upd_same⟩, for_it (walk_list (xs := [.ref f1, .ref f2, .ref f3, .ref f4, .ref f5, .ref f6])) (fun i σ H' => ∃ (I' : Hp) (o3 : Option V), Go (StT T a) (upd I6 l6 (.lst [.ref f1, .ref f2, .ref f3, .ref f4, .ref f5, .ref f6])) (upd H6 l6 (.lst [.ref f1, .ref f2, .ref f3, .ref f4, .ref f5, .ref f6])) I' H' ∧ Wk T I' H' a (N + 1) ∧ σ = [some (V.ref a), some (.ref b), some (.ref cm), o3, o4, some (.str wrd)]) ⟨_, none, Go.refl w7.sub, w7, rfl⟩ (fun i σ H' _ h => ?_) ?_ ?_⟩
      · obtain ⟨I', o3, g, w, _⟩ := h
        exact sqK (w.sub _ _ (g.ext _ _ upd_same))
      · rintro i v σ Hw Hv hi ⟨Ix, o3, gx, wx, rfl⟩ ⟨rfl, hx⟩
        have kb : Kn C Ix (.ref b) true := (tm7.ext gx.ext).kn
        match i with
        | 0 =>
          cases hx
          exact rd0 (heardV_bt (z := "parts") (l := (lam6 C BT TM).getD 0 ⟨lamA (lamE 0), lamB (lamE 0), lamC (lamE 0), fun _ _ _ _ => False⟩) wx (List.mem_of_getElem? (i := 0) rfl) rfl (gx.ext _ _ E1) (code_keep w7 gx C1) (by decide +kernel) (fun Qn E l => ⟨_, rfl, fun x dx n1 n2 n3 => mk_parts (z := wrd) (n := 1) (ps := []) (bs := []) wx.sub hwd (by show 0 ≤ 1000; decide) rfl (fun i p b h => by simp at h) (.inl (by show ¬ (0 = 1); decide)) l n1 n2 n3⟩) fun Iy Hy wy gy => ⟨_, rfl, iteF ⟨Iy, _, gx.trans gy, wy, rfl⟩⟩)
        | 1 =>
          cases hx
          exact rd0 (heardV_bt (z := "parts") (l := (lam6 C BT TM).getD 1 ⟨lamA (lamE 0), lamB (lamE 0), lamC (lamE 0), fun _ _ _ _ => False⟩) wx (List.mem_of_getElem? (i := 1) rfl) rfl (gx.ext _ _ E2) (code_keep w7 gx C2) (by decide +kernel) (fun Qn E l => ⟨_, rfl, _, rfl, _, rfl, fun x dx n1 n2 n3 => mk_parts (z := wrd) (n := 1) (ps := [.ref b, .ref b]) (bs := [true, true]) wx.sub hwd (by show 2 ≤ 1000; decide) rfl (list2 kb kb) (.inl (by show ¬ (2 = 1); decide)) l n1 n2 n3⟩) fun Iy Hy wy gy => ⟨_, rfl, iteF ⟨Iy, _, gx.trans gy, wy, rfl⟩⟩)
        | 2 =>
          cases hx
          exact rd0 (heardV_bt (z := "parts") (l := (lam6 C BT TM).getD 2 ⟨lamA (lamE 0), lamB (lamE 0), lamC (lamE 0), fun _ _ _ _ => False⟩) wx (List.mem_of_getElem? (i := 2) rfl) rfl (gx.ext _ _ E3) (code_keep w7 gx C3) (by decide +kernel) (fun Qn E l => ⟨_, rfl, fun x dx n1 n2 n3 => mk_parts (z := "UNTIL") (n := 2) (ps := [.ref b]) (bs := [true]) wx.sub (by decide +kernel) (by show 1 ≤ 1000; decide) rfl (list1 kb) (.inl (by show ¬ (1 = 2); decide)) l n1 n2 n3⟩) fun Iy Hy wy gy => ⟨_, rfl, iteF ⟨Iy, _, gx.trans gy, wy, rfl⟩⟩)
        | 3 =>
          cases hx
          exact rd0 (heardV_bt (z := "parts") (l := (lam6 C BT TM).getD 3 ⟨lamA (lamE 0), lamB (lamE 0), lamC (lamE 0), fun _ _ _ _ => False⟩) wx (List.mem_of_getElem? (i := 3) rfl) rfl (gx.ext _ _ E4) (code_keep w7 gx C4) (by decide +kernel) (fun Qn E l => ⟨_, rfl, _, rfl, _, rfl, fun x dx n1 n2 n3 => mk_parts (z := "SINCE") (n := 2) (ps := [.ref b, .ref b, .ref b]) (bs := [true, true, true]) wx.sub (by decide +kernel) (by show 3 ≤ 1000; decide) rfl (list3b kb kb kb) (.inl (by show ¬ (3 = 2); decide)) l n1 n2 n3⟩) fun Iy Hy wy gy => ⟨_, rfl, iteF ⟨Iy, _, gx.trans gy, wy, rfl⟩⟩)
        | 4 =>
          cases hx
          exact rd0 (heardV_bt (z := "parts") (l := (lam6 C BT TM).getD 4 ⟨lamA (lamE 0), lamB (lamE 0), lamC (lamE 0), fun _ _ _ _ => False⟩) wx (List.mem_of_getElem? (i := 4) rfl) rfl (gx.ext _ _ E5) (code_keep w7 gx C5) (by decide +kernel) (fun Qn E l => ⟨_, rfl, fun x dx n1 n2 n3 => mk_parts (z := "a") (n := 0) (ps := [.ref b]) (bs := [true]) wx.sub (by decide +kernel) (by show 1 ≤ 1000; decide) rfl (list1 kb) (.inl (by show ¬ (1 = 0); decide)) l n1 n2 n3⟩) fun Iy Hy wy gy => ⟨_, rfl, iteF ⟨Iy, _, gx.trans gy, wy, rfl⟩⟩)
        | 5 =>
          cases hx
          exact rd0 (heardV_bt (z := "parts") (l := (lam6 C BT TM).getD 5 ⟨lamA (lamE 0), lamB (lamE 0), lamC (lamE 0), fun _ _ _ _ => False⟩) wx (List.mem_of_getElem? (i := 5) rfl) rfl (gx.ext _ _ E6) (code_keep w7 gx C6) (by decide +kernel) (fun Qn E l => ⟨_, rfl, fun x dx n1 n2 n3 => mk_parts (z := "TRUE") (n := 0) (ps := [.ref b]) (bs := [true]) wx.sub (by decide +kernel) (by show 1 ≤ 1000; decide) rfl (list1 kb) (.inl (by show ¬ (1 = 0); decide)) l n1 n2 n3⟩) fun Iy Hy wy gy => ⟨_, rfl, iteF ⟨Iy, _, gx.trans gy, wy, rfl⟩⟩)
        | i + 6 => simp at hx
      · rintro σy Hy ⟨Ix, o3, gx, wx, rfl⟩
        dsimp only
        exact k Ix Hy (G7.trans gx) ⟨wx.sub, wx.pen.mono (by omega), wx.tab, wx.no, wx.ne⟩
end
end Tm
/-! the law itself -/
namespace Tm
open PySem PySem.Spec PyProof.Rows L2
open LamX
abbrev sLaw : Stmt := top 42
abbrev nLaw : List Str := ["script", "pen", "turn", "model", "other", "made", "third", "words", "more", "again"]
structure InvOk (P : Program) (w : World) (K : PySem.W.Frag) (mg : Str → Option Value) (base : Heap) (C BT TM : Addr) : Prop where
  ex : ∃ f fd, PySem.W.findIn K (.ref C) "__invert__" = some (some (.ref f)) ∧ PySem.W.isFn K (.ref f) = true ∧ FnOk P w K mg base CX0 5 f fd ["self"] (spInv C) ∧ Binds K fd ["self"] []
def spLaw (K : PySem.W.Frag) (T : List (Addr × Str)) : Sp := fun vs H Q _ => ∃ (a : Addr) (ns : List Int) (I : Hp), vs = [.ref a] ∧ Same I H ∧ SqL K H a (ns.map V.int) ∧ Tabs T H ∧ (∀ p ∈ T, I p.1 = none) ∧ ∀ H' : Hp, Q (.bl true) H'
section
variable {P : Program} {w : World} {K : PySem.W.Frag} {mg : Str → Option Value} {base : Heap} {C SE BT BX TM : Addr}
theorem rdNil {σ : L2.St} {H : Hp} {Q : List V → Hp → Prop} (h : Q [] H) : tNil σ H Q := h
theorem rdK {t : TS} {D : Ends} {σ : L2.St} {H : Hp} (nxt : Hp → Prop) (h1 : ∀ H', nxt H' → D.nx σ H') (h2 : (∀ H', nxt H' → D.nx σ H') → t D σ H) : t D σ H := h2 h1
theorem Mdl.kids_len {m x : Mdl} (h : x ∈ m.kids) : x.words.length + 1 ≤ m.words.length := by
  cases m with
  | leaf w => cases h
  | un w k => rcases List.mem_cons.mp h with rfl | h; exact Nat.le_refl _; cases h
  | bi w a b =>
    show _ ≤ (a.words ++ b.words).length + 1
    rw [List.length_append]
    rcases List.mem_cons.mp h with rfl | h
    · omega
    · rcases List.mem_cons.mp h with rfl | h
      · omega
      · cases h
theorem bb_ne : ∀ e : Bool, (!(PyData.eqv (.bool (id e)) (.bool e))) = false := by intro e; cases e <;> rfl
theorem bb_nn : ∀ e : Bool, PyData.eqv (.bool (!e)) (.bool e) = false := by intro e; cases e <;> rfl
theorem shaped_strsL {ws : List Str} (h : ∀ z ∈ ws, due z ≠ none) : SeqAt.shaped (.list (ws.map PyData.str)) = true := shaped_lst fun d hd => by
  obtain ⟨z, hz, rfl⟩ := List.mem_map.mp hd
  exact ⟨due_ok (h z hz), rfl⟩
/-- t != (), whatever t holds -/
def rNeE (K : PySem.W.Frag) : R2 := fun x y H Q => ∃ (a b : Addr) (vs : List V), x = .ref a ∧ y = .ref b ∧ SqT K H a vs ∧ SqT K H b [] ∧ Q (.bl (decide (0 < vs.length))) H
theorem op_neE {X : Cx} (hu : X.A.units < cLine) : OpR X (compareOp .NotEq) (rNeE X.K) := by
  intro pins s σ H x y v u Q I rx ry h
  obtain ⟨a, b, vs, rfl, rfl, ha, hb, q⟩ := h
  cases (show v = Value.ref a from rx)
  cases (show u = Value.ref b from ry)
  obtain ⟨its, rv, ta, _⟩ := I.tuple ha
  obtain ⟨jts, rw_, tb, _⟩ := I.tuple hb
  have hj : jts = [] := by cases rw_; rfl
  subst hj
  have hn := rv.length
  refine SeqAt.RcNeAt.tuples (e := fun _ => true) ta tb hu (fun j _ h2 => absurd h2 (Nat.not_lt_zero _)) X.prog X.w _ _ ⟨.bl (decide (0 < vs.length)), H, I, ?_, q⟩
  rw [hn]
  cases its <;> rfl
theorem scLaw : FnScope nLaw ["script"] (defScope sLaw) := ⟨rfl, rfl, rfl, by decide +kernel, rfl, by decide +kernel, by decide +kernel⟩
theorem pe_inv {X : Cx} {E : XK} {j : Nat} {x : Expr} {tx : TE} {pos : Pos} (B : InvOk X.prog X.w X.K X.mg X.base C BT TM) (hr : Room j X.A) (hj : 5 ≤ j) (hx : Passes CX0 X E) (h1 : PE X x tx) :
    PE X (.UnaryOp .Invert x pos) (tUn (rOwnU C (spInv C) E) tx) := by
  obtain ⟨f, fd, a, n, F, b⟩ := B.ex
  exact pe_un (un_inv a n F b hr hj hx) h1
theorem ok_law {T : List (Addr × Str)} {Pr : Addr} {f : Addr} {fd : FuncData} (hmR : (Pr, qLam "_law_is_read") ∈ T) (F : Fun K "law" "law" sLaw f fd) (TT : TC K mg C) (R : TR mg) (EQ : EqOk P w K mg base C) (BA : BinOk P w K mg base C BT TM .BitAnd "AND") (BO : BinOk P w K mg base C BT TM .BitOr "OR") (IV : InvOk P w K mg base C BT TM)
    (cPen : C8.Cal P w K mg base 1 "_law_pen" (spLPen K) []) (cM4 : C8.Cal P w K mg base 8 "_law_model" (spModel 4) []) (cM2 : C8.Cal P w K mg base 6 "_law_model" (spModel 2) []) (cA : C8.Cal P w K mg base 9 "_law_made" (spLMade C 4) []) (cW : C8.Cal P w K mg base 5 "_law_words" (spLWords 4) [])
    (cT : CalG P w K mg base 13 "_law_is_told" (spTold C 4) []) (cL : CalG P w K mg base 14 "_law_lists_right" (spLists C) []) (cR : CalG P w K mg base 9 "_law_is_read" (spIsRead T Pr) []) (cB : C8.Cal P w K mg base 3 "_law_bent" spBent []) (cF : CalG P w K mg base 12 "_law_refused_right" (spRefused C T) []) (cG : CalG P w K mg base 10 "_law_long_right" (spLong T) []) :
    FnG P w K mg base CX0 15 f fd ["script"] (spLaw K T) := by
  refine Fun.okG F scLaw (fun vs H Q E h => ?_) (fun cdv A outer s H vs Q E ng hr h => ?_)
  · obtain ⟨a, ns, I, rfl, _⟩ := h
    rfl
  · refine ⟨_, pss_cons (ps_set (i := 1) scLaw.nd rfl (Or.inl rfl) (C8.pe_c cPen hr (by decide) rfl (pa_cons (pv 0) pa_nil)))
      (pss_cons (ps_for PassesOwn.never rfl (pi_range1 rfl R.range (pa_cons pe_int pa_nil)) (pg_name (i := 2) scLaw.nd rfl (Or.inl rfl))
        (pss_cons (ps_par (i := 3) (j := 4) rfl scLaw.nd rfl rfl (by decide) rfl rfl (pa_cons (C8.pe_c cM4 hr (by decide) rfl (pa_cons (pv 1) (pa_cons pe_int pa_nil))) (pa_cons (C8.pe_c cM2 hr (by decide) rfl (pa_cons (pv 1) (pa_cons pe_int pa_nil))) pa_nil)) rfl)
        (pss_cons (ps_par (i := 5) (j := 6) rfl scLaw.nd rfl rfl (by decide) rfl rfl (pa_cons (C8.pe_c cA hr (by decide) rfl (pa_cons (pv 3) pa_nil)) (pa_cons (C8.pe_c cA hr (by decide) rfl (pa_cons (pv 4) pa_nil)) pa_nil)) rfl)
        (pss_cons (ps_par (i := 7) (j := 8) rfl scLaw.nd rfl rfl (by decide) rfl rfl (pa_cons (C8.pe_c cW hr (by decide) rfl (pa_cons (pv 3) pa_nil)) (pa_cons (C8.pe_c cW hr (by decide) rfl (pa_cons (pv 4) pa_nil)) pa_nil)) rfl)
        (pss_cons (ps_if (PW.pt (pw_or (pt_not (pt_val (pe_cG cT ng hr (by decide) rfl (pa_cons (pv 5) (pa_cons (pv 3) pa_nil))))) (pw_or (pt_not (pt_val (pe_cG cL ng hr (by decide) rfl (pa_cons (pv 5) (pa_cons (pv 3) pa_nil))))) (pw_or1 (pt_not (pt_val (pe_cG cR ng hr (by decide) rfl (pa_cons (pv 7) pa_nil)))))))) (pss_one (ps_ret pe_bl)) pss_nil)
        (pss_cons (ps_if (PW.pt (pw_or (pt_cmpR (op_neD hr.units) (pe_cmpR (op_eqT EQ hr (by decide)) (pv 5) (pv 6) (nomark _)) (pe_cmpR (op_eqD hr.units) (pv 7) (pv 8) (nomark _)) (by rfl)) (pw_or (pt_cmpR (op_eqD hr.units) (pe_cmpR (op_neT EQ hr (by decide)) (pv 5) (pv 6) (nomark _)) (pe_cmpR (op_eqD hr.units) (pv 7) (pv 8) (nomark _)) (by rfl)) (pw_or1 (pt_not (pt_cmpR (op_eqT EQ hr (by decide)) (pv 5) (C8.pe_c cA hr (by decide) rfl (pa_cons (pv 3) pa_nil)) (nomark _))))))) (pss_one (ps_ret pe_bl)) pss_nil)
        (pss_cons (ps_if (PW.pt (pw_or (pt_not (pt_val (pe_cG cT ng hr (by decide) rfl (pa_cons (pe_bin (.inl rfl) BA hr (by decide) passL (pv 6) (pv 6)) (pa_cons (pe_lst (pa_cons pe_str (pa_cons (pv 4) (pa_cons (pv 4) pa_nil)))) pa_nil))))) (pw_or1 (pt_not (pt_val (pe_cG cT ng hr (by decide) rfl (pa_cons (pe_inv IV hr (by decide) pass0 (pv 6)) (pa_cons (pe_lst (pa_cons pe_str (pa_cons (pv 4) pa_nil))) pa_nil)))))))) (pss_one (ps_ret pe_bl)) pss_nil)
        (pss_cons (ps_if (pt_not (pt_val (pe_cG cT ng hr (by decide) rfl (pa_cons (pe_ifExp (pt_cmpR (op_neE hr.units0) (pe_fldK K (pv 5)) (pe_tup pa_nil) (nomark _)) (pe_bin (.inr rfl) BO hr (by decide) passL (pv 6) (pe_ix ix_tup (pe_fldK K (pv 5)) pe_int (fun _ _ => rfl))) (pe_bin (.inr rfl) BO hr (by decide) passL (pv 6) (pv 6))) (pa_cons (pe_lst (pa_cons pe_str (pa_cons (pv 4) (pa_cons (pe_ifExp (pt_cmpR op_gt (pe_callB call_len (by rfl) TT.len PySem.boot_len (pa_cons (pv 3) pa_nil)) pe_int (nomark _)) (pe_ix ix_list (pv 3) pe_int (fun _ _ => rfl)) (pv 4)) pa_nil)))) pa_nil))))) (pss_one (ps_ret pe_bl)) pss_nil)
        (pss_cons (ps_for PassesOwn.never rfl (pi_range1 rfl R.range (pa_cons pe_int pa_nil)) (pg_name (i := 9) scLaw.nd rfl (Or.inl rfl))
          (pss_one (ps_if (pt_not (pt_val (pe_cG cR ng hr (by decide) rfl (pa_cons (C8.pe_c cB hr (by decide) rfl (pa_cons (pv 1) (pa_cons (pv 7) pa_nil))) pa_nil)))) (pss_one (ps_ret pe_bl)) pss_nil)))
        (pss_one (ps_if (PW.pt (pw_or (pt_not (pt_val (pe_cG cF ng hr (by decide) rfl (pa_cons (pv 1) (pa_cons (pv 5) (pa_cons (pv 3) pa_nil)))))) (pw_or1 (pt_not (pt_val (pe_cG cG ng hr (by decide) rfl (pa_cons (pv 1) (pa_cons (pv 3) pa_nil)))))))) (pss_one (ps_ret pe_bl)) pss_nil)))))))))))
      (pss_one (ps_ret pe_bl))), ?_⟩
    obtain ⟨a, ns, I, rfl, hI, ha, hT, hno, k⟩ := h
    refine ⟨_, rfl, a, ns, I, rfl, hI, ha, fun p I1 H1 g1 p1 => ?_⟩
    have w1 : Wk T I1 H1 p 0 := ⟨g1.sub, p1, hT.ext g1.same_all, fun q hq => let ⟨ps, h, _⟩ := hT q hq; g1.fr _ _ h (hno q hq), fun q hq z => by
      obtain ⟨ps, h, _⟩ := hT.ext g1.same_all q hq
      obtain ⟨_, _, _, _, z1, _⟩ := p1
      rw [z, z1] at h
      cases Option.some.inj h⟩
    refine rdN ?_
    dsimp only
    refine rdS ?_
    refine ⟨3, rfl, by decide, by decide, for_it (walk_range (n := 3)) (fun i σ H' => ∃ (I' : Hp) (o2 o3 o4 o5 o6 o7 o8 o9 : Option V), Wk T I' H' p (i * 4000) ∧ σ = [some (V.ref a), some (.ref p), o2, o3, o4, o5, o6, o7, o8, o9]) ⟨I1, none, none, none, none, none, none, none, none, by rw [Nat.zero_mul]; exact w1, rfl⟩ (fun i σ H' _ h => trivial) ?_ ?_⟩
    · rintro i v σ H0 Hw hi ⟨I0, o2, o3, o4, o5, o6, o7, o8, o9, w0, rfl⟩ ⟨rfl, rfl⟩
      refine rdN ?_
      refine rdS ?_
      refine ⟨_, rfl, p, 4, I0, i * 4000, rfl, rfl, w0.sub, w0.pen, (by show i * 4000 + 1860 < 8000000; omega), fun v4 m I1 H1 mo md mi g1' p1' => ?_⟩
      obtain ⟨b4, rfl⟩ := mis_ref mi
      have w1' := w0.draw g1' p1'
      refine ⟨_, rfl, p, 2, I1, i * 4000 + cM 4, rfl, rfl, w1'.sub, w1'.pen, (by show i * 4000 + 1860 + 420 < 8000000; omega), fun v2 m2 I2 H2 mo2 md2 mi2 g2 p2 => ?_⟩
      obtain ⟨b2, rfl⟩ := mis_ref mi2
      have w2 := w1'.draw g2 p2
      refine ⟨_, _, rfl, ?_⟩
      dsimp only
      refine rdS ?_
      have ml : m.words.length ≤ 31 := by
        have := Mdl.words_len m
        have h2 : 2 ^ (m.deep + 1) ≤ 2 ^ 5 := Nat.pow_le_pow_right (by decide) (by omega)
        omega
      have ml2 : m2.words.length ≤ 7 := by
        have := Mdl.words_len m2
        have h2 : 2 ^ (m2.deep + 1) ≤ 2 ^ 3 := Nat.pow_le_pow_right (by decide) (by omega)
        omega
      have miA := mi.ext g2.ext
      refine ⟨_, rfl, b4, m, I2, rfl, w2.sub, miA, mo, md, by omega, fun t5 I3 H3 g3 t3 => ?_⟩
      have w3 := w2.go g3
      refine ⟨_, rfl, b2, m2, I3, rfl, w3.sub, mi2.ext g3.ext, mo2, by omega, by omega, fun t6 I4 H4 g4 t4 => ?_⟩
      have w4 := w3.go g4
      refine ⟨_, _, rfl, ?_⟩
      dsimp only
      refine rdS ?_
      have mi4 := (miA.ext g3.ext).ext g4.ext
      refine ⟨_, rfl, b4, m, I4, rfl, w4.sub, mi4, md, by omega, fun p7 I5 H5 g5 e7 => ?_⟩
      have w5 := w4.go g5
      refine ⟨_, rfl, b2, m2, I5, rfl, w5.sub, ((mi2.ext g3.ext).ext g4.ext).ext g5.ext, by omega, by omega, fun p8 I6 H6 g6 e8 => ?_⟩
      have w6 := w5.go g6
      have e7' := g6.ext _ _ e7
      have mi6 := (mi4.ext g5.ext).ext g6.ext
      have mi26 := (((mi2.ext g3.ext).ext g4.ext).ext g5.ext).ext g6.ext
      have t36 := ((t3.ext g4.ext).ext g5.ext).ext g6.ext
      have t46 := (t4.ext g5.ext).ext g6.ext
      refine ⟨_, _, rfl, ?_⟩
      dsimp only
      refine rdS ?_
      refine ⟨_, rfl, _, rfl, t5, b4, m, I6, rfl, w6.sub, t36, mi6, mo, md, by omega, fun I7 H7 g7 => ⟨_, rfl, iteF ?_⟩⟩
      have w7 := w6.go g7
      refine ⟨_, rfl, _, rfl, t5, b4, m, I7, rfl, w7.sub, t36.ext g7.ext, mi6.ext g7.ext, mo, md, by omega, fun I8 H8 g8 => ⟨_, rfl, iteF ?_⟩⟩
      have w8 := w7.go g8
      have s68 := g7.ext.trans g8.ext
      have wz : Wz m.words := Wz.due (ok_words mo)
      have wd : Wd m.words := wz.wd (words_ne m) (by omega)
      refine ⟨_, rfl, p7, m.words, I8, rfl, w8.sub, s68 _ _ e7', wd, w8.tab, w8.no _ hmR, fun I9 H9 g9 T9 => ⟨_, rfl, iteF ?_⟩⟩
      have w9 := w8.at1 hmR g9 T9
      have s69 := s68.trans g9.ext
      refine rdN ?_
      dsimp only
      refine rdS ?_
      have o5 := ok_words mo
      have o6 := ok_words mo2
      have e79 := s69 _ _ e7'
      have e89 := s69 _ _ e8
      have t59 := t36.ext s69
      have t69 := t46.ext s69
      have ee : PyData.eqv (.list (m.words.map PyData.str)) (.list (m2.words.map PyData.str)) = decide (m.words = m2.words) := eqvAll_strs _ _
      refine ⟨_, rfl, _, rfl, true, true, (t59.ext w9.sub).kn, (t69.ext w9.sub).kn, .inl ⟨rfl, _, _, m, true, I9, rfl, w9.sub, t59, o5, t69.kn, (fun z => nomatch z), fun _ => ⟨m2, t69, o6, _, rfl, ?_⟩⟩⟩
      refine ⟨_, rfl, _, rfl, .list (m.words.map PyData.str), .list (m2.words.map PyData.str), .lst (sqK (w9.sub _ _ e79)) (dpStrs _), .lst (sqK (w9.sub _ _ e89)) (dpStrs _), shaped_strsL o5, shaped_strsL o6, ?_⟩
      rw [ee]
      refine ⟨.bool _, .bool _, .bl _, .bl _, rfl, rfl, _, rfl, ?_⟩
      rw [bb_ne]
      refine iteF ?_
      refine ⟨_, rfl, _, rfl, true, true, (t59.ext w9.sub).kn, (t69.ext w9.sub).kn, .inl ⟨rfl, _, _, m, true, I9, rfl, w9.sub, t59, o5, t69.kn, (fun z => nomatch z), fun _ => ⟨m2, t69, o6, _, rfl, ?_⟩⟩⟩
      refine ⟨_, rfl, _, rfl, .list (m.words.map PyData.str), .list (m2.words.map PyData.str), .lst (sqK (w9.sub _ _ e79)) (dpStrs _), .lst (sqK (w9.sub _ _ e89)) (dpStrs _), shaped_strsL o5, shaped_strsL o6, ?_⟩
      rw [ee]
      refine ⟨.bool _, .bool _, .bl _, .bl _, rfl, rfl, _, rfl, ?_⟩
      rw [bb_nn]
      refine iteF ?_
      refine ⟨_, rfl, _, rfl, b4, m, I9, rfl, w9.sub, mi6.ext s69, mo, md, by omega, fun pn I10 H10 g10 t10 => ?_⟩
      have w10 := w9.go g10
      have s610 := s69.trans g10.ext
      refine ⟨true, true, ((t59.ext g10.ext).ext w10.sub).kn, (t10.ext w10.sub).kn, .inl ⟨rfl, _, _, m, true, I10, rfl, w10.sub, t59.ext g10.ext, o5, t10.kn, (fun z => nomatch z), fun _ => ⟨m, t10, o5, _, rfl, _, rfl, ?_⟩⟩⟩
      rw [decide_eq_true (rfl : m.words = m.words)]
      refine iteF ?_
      refine rdN ?_
      dsimp only
      refine rdS ?_
      have t10' := t69.ext g10.ext
      have mi210 := mi26.ext s610
      have dAnd : (Mdl.bi "AND" m2 m2).ok := ⟨due_bi (by decide +kernel), mo2, mo2⟩
      have lAnd : (Mdl.bi "AND" m2 m2).words.length ≤ 15 := by
        show (m2.words ++ m2.words).length + 1 ≤ 15
        rw [List.length_append]; omega
      refine ⟨_, rfl, _, rfl, true, (t10'.ext w10.sub).kn, (t10'.ext w10.sub).kn, _, _, m2, true, I10, rfl, w10.sub, t10', t10'.kn, by omega, (fun z => nomatch z), fun _ => ⟨m2, t10', by omega, fun h => absurd h (by omega), fun _ pb I11 H11 g11 t11 => ⟨pb, rfl, ?_⟩⟩⟩
      have w11 := w10.go g11
      refine ⟨_, rfl, _, rfl, (by show 3 ≤ sizeLine; decide), fun q hq => ?_⟩
      have g12 := Go.new (S := NoS) (o := .lst [.str "AND", .ref b2, .ref b2]) w11.sub hq
      have w12 := w11.go g12
      have mi212 := (mi210.ext g11.ext).ext g12.ext
      refine ⟨pb, q, .bi "AND" m2 m2, _, rfl, w12.sub, t11.ext g12.ext, .bi upd_same mi212 mi212, dAnd, (by show max m2.deep m2.deep + 1 ≤ 4; omega), by omega, fun I13 H13 g13 => ⟨_, rfl, iteF ?_⟩⟩
      have w13 := w12.go g13
      have s13 := (g11.ext.trans g12.ext).trans g13.ext
      have t13 := t10'.ext s13
      refine ⟨_, rfl, (t13.ext w13.sub).kn, _, m2, I13, rfl, w13.sub, t13, by omega, fun pu I14 H14 g14 t14 => ?_⟩
      have w14 := w13.go g14
      refine ⟨_, rfl, (by show 2 ≤ sizeLine; decide), fun q2 hq2 => ?_⟩
      have g15 := Go.new (S := NoS) (o := .lst [.str "NOT", .ref b2]) w14.sub hq2
      have w15 := w14.go g15
      have mi215 := ((mi210.ext s13).ext g14.ext).ext g15.ext
      refine ⟨pu, q2, .un "NOT" m2, _, rfl, w15.sub, t14.ext g15.ext, .un upd_same mi215, ⟨due_un (by decide +kernel), mo2⟩, (by show m2.deep + 1 ≤ 4; omega), (by show m2.words.length + 1 ≤ 1000; omega), fun I16 H16 g16 => ⟨_, rfl, iteF ?_⟩⟩
      have w16 := w15.go g16
      have s16 := ((s13.trans g14.ext).trans g15.ext).trans g16.ext
      refine rdN ?_
      dsimp only
      refine rdS ?_
      refine rdK (fun H' => ∃ I', Go NoS I16 H16 I' H') (fun H17 hx17 => ?_) fun hn => ?_
      · obtain ⟨I17, g17⟩ := hx17
        have w17 := w16.go g17
        have s17 := (s610.trans s16).trans g17.ext
        refine rdS ?_
        have e717 := s17 _ _ e7'
        have t517 := t36.ext s17
        have mi17 := mi6.ext s17
        refine ⟨3, rfl, by decide, by decide, for_it (walk_range (n := 3)) (fun j σ H' => ∃ (I' : Hp) (u9 : Option V), Wk T I' H' p (i * 4000 + cM 4 + cM 2 + j * 4) ∧ Go (StT T p) I17 H17 I' H' ∧ σ = [some (V.ref a), some (.ref p), some (.int (0 + (i : Int))), some (.ref b4), some (.ref b2), some (.ref t5), some (.ref t6), some (.ref p7), some (.ref p8), u9]) ⟨I17, o9, by rw [Nat.zero_mul]; exact w17, Go.refl w17.sub, rfl⟩ (fun j σ H' _ h => trivial) ?_ ?_⟩
        · rintro j v σ Hj Hw2 hj ⟨Ij, u9, wj, gj, rfl⟩ ⟨rfl, rfl⟩
          refine rdN ?_
          refine ⟨_, rfl, _, rfl, p, p7, m.words, Ij, _, rfl, wj.sub, wj.pen, (by show i * 4000 + 1860 + 420 + j * 4 + 4 < 8000000; omega), gj.ext _ _ e717, wz, words_ne m, by omega, fun q Ik Hk zs gk pk ek wdz => ?_⟩
          have wk := wj.draw gk pk
          refine ⟨q, zs, Ik, rfl, wk.sub, ek, wdz, wk.tab, wk.no _ hmR, fun Il Hl gl Tl => ⟨_, rfl, iteF ?_⟩⟩
          have wl := wk.at1 hmR gl Tl
          exact ⟨Il, _, by rw [show i * 4000 + cM 4 + cM 2 + (j + 1) * 4 = i * 4000 + cM 4 + cM 2 + j * 4 + 4 by omega]; exact wl, (gj.trans (gk.mono stT_pen)).trans (gl.mono (stT_tab hmR)), rfl⟩
        · rintro σ Hj ⟨Ij, u9, wj, gj, rfl⟩
          refine ⟨_, rfl, _, rfl, _, rfl, p, t5, b4, m, Ij, _, rfl, wj, t517.ext gj.ext, mo, by omega, (by show i * 4000 + 1860 + 420 + 3 * 4 + 5 < 8000000; omega), fun Ik Hk gk wk => ⟨_, rfl, iteF ?_⟩⟩
          refine ⟨_, rfl, _, rfl, p, b4, m, Ik, _, rfl, wk, (mi17.ext gj.ext).ext gk.ext, mo, md, (by show i * 4000 + 1860 + 420 + 3 * 4 + 5 + 60 < 8000000; omega), fun Il Hl gl wl => ⟨_, rfl, iteF ?_⟩⟩
          refine ⟨Il, _, _, _, _, _, _, _, _, ⟨wl.sub, wl.pen.mono (by show i * 4000 + 1860 + 420 + 3 * 4 + 5 + 60 ≤ (i + 1) * 4000; omega), wl.tab, wl.no, wl.ne⟩, rfl⟩
      · have t516 := (t59.ext g10.ext).ext s16
        have t616 := t10'.ext s16
        have mi16 := (mi6.ext s610).ext s16
        have mi216 := mi210.ext s16
        obtain ⟨_, dx, pa, wa, vs, e0, h1, h2, h3, h4, h5⟩ := tis_words t516
        cases e0
        refine ⟨_, rfl, _, C, dx, _, _, rfl, w16.sub _ _ h1, TT.cl, TT.nP, tF_parts _ _ _, (by show 0 ≤ sizeLine; decide), fun e he => ?_⟩
        have ge := Go.tmp (S := NoS) (o := .tup []) w16.sub he
        have we := w16.go ge
        obtain ⟨b4', ks, eb, i4, hkl, hks⟩ := mi16.list
        cases eb
        have tell : ∀ (k : Mdl) (x : V) (pb q : Addr) (I18 H18 : Hp), MIs I18 x k → Go NoS I16 (upd H16 e (.tup [])) I18 H18 → TIs C I18 (.ref pb) (.bi "OR" m2 k) → k.ok → k.deep ≤ 3 → k.words.length ≤ 31 → H18 q = none → ∀ (Q' : VK), (∀ H', (∃ I', Go NoS I16 H16 I' H') → Q' (.bl true) H') → spTold C 4 [.ref pb, .ref q] (upd H18 q (.lst [.str "OR", .ref b2, x])) Q' E0 := by
          intro k x pb q I18 H18 mx g18 t18 ok_ dk lk hq Q' hQ
          have g19 := Go.new (S := NoS) (o := .lst [.str "OR", .ref b2, x]) g18.sub hq
          have e19 := g18.ext.trans g19.ext
          refine ⟨pb, q, .bi "OR" m2 k, _, rfl, g19.sub, t18.ext g19.ext, .bi upd_same (mi216.ext e19) (mx.ext g19.ext), ⟨due_bi (by decide +kernel), mo2, ok_⟩, (by show max m2.deep k.deep + 1 ≤ 4; omega), ?_, fun I20 H20 g20 => hQ _ ⟨I20, ((ge.trans g18).trans g19).trans g20⟩⟩
          show (m2.words ++ k.words).length + 1 ≤ 1000
          rw [List.length_append]; omega
        rcases hkd : m.kids with _ | ⟨k0, kr⟩
        · rw [hkd] at h4 hkl
          refine ⟨pa, e, vs, rfl, rfl, stK (we.sub _ _ h2), stK upd_same, _, rfl, ?_⟩
          rw [show decide (0 < vs.length) = false from decide_eq_false (by rw [h4]; exact Nat.lt_irrefl _)]
          refine iteF ?_
          refine ⟨_, rfl, _, rfl, true, (t616.ext we.sub).kn, (t616.ext we.sub).kn, _, _, m2, true, I16, rfl, we.sub, t616, t616.kn, by omega, (fun z => nomatch z), fun _ => ⟨m2, t616, by omega, fun h => absurd h (by show ¬ 40 < (m2.words ++ m2.words).length + 1; rw [List.length_append]; omega), fun _ pb I18 H18 g18 t18 => ⟨pb, rfl, ?_⟩⟩⟩
          have i418 := g18.sub _ _ (g18.ext _ _ i4)
          refine ⟨_, rfl, _, rfl, _, _, rfl, .inl ⟨_, sqK i418, rfl⟩, _, _, rfl, rfl, _, rfl, ?_⟩
          rw [show ks = [] from List.length_eq_zero_iff.mp hkl]
          refine iteF ⟨_, rfl, (by show 3 ≤ sizeLine; decide), fun q hq => ?_⟩
          refine rdNil ?_
          dsimp only
          refine tell m2 (.ref b2) pb q I18 H18 (mi216.ext g18.ext) g18 t18 mo2 (by omega) (by omega) hq _ (fun H' h' => ?_)
          exact ⟨_, rfl, iteF (hn H' h')⟩
        · rw [hkd] at h4 hkl
          rw [List.length_cons] at h4 hkl
          have k0m : k0 ∈ m.kids := by rw [hkd]; exact List.mem_cons_self
          have k0g : m.kids[0]? = some k0 := by rw [hkd]; rfl
          have k0d := Mdl.kids_deep k0m
          have k0o := Mdl.kids_ok mo k0m
          have k0l : k0.words.length + 1 ≤ m.words.length := Mdl.kids_len k0m
          rcases vs with _ | ⟨v0, vr⟩
          · cases h4
          rcases ks with _ | ⟨x0, xr⟩
          · cases hkl
          have tv0 := h5 0 v0 k0 rfl k0g
          have mx0 := hks 0 x0 k0 rfl k0g
          refine ⟨pa, e, v0 :: vr, rfl, rfl, stK (we.sub _ _ h2), stK upd_same, _, rfl, ?_⟩
          rw [show decide (0 < (v0 :: vr).length) = true from rfl]
          refine iteT ?_
          refine ⟨_, rfl, _, rfl, _, C, dx, _, _, rfl, we.sub _ _ h1, TT.cl, TT.nP, tF_parts _ _ _, pa, _, _, v0, rfl, rfl, stK (we.sub _ _ h2), atI_at (j := 0) rfl rfl, ?_⟩
          refine ⟨true, (t616.ext we.sub).kn, (tv0.ext we.sub).kn, _, _, m2, true, I16, rfl, we.sub, t616, tv0.kn, by omega, (fun z => nomatch z), fun _ => ⟨k0, tv0, by omega, fun h => absurd h (by show ¬ 40 < (m2.words ++ k0.words).length + 1; rw [List.length_append]; omega), fun _ pb I18 H18 g18 t18 => ⟨pb, rfl, ?_⟩⟩⟩
          have i418 := g18.sub _ _ (g18.ext _ _ i4)
          refine ⟨_, rfl, _, rfl, _, _, rfl, .inl ⟨_, sqK i418, rfl⟩, _, _, rfl, rfl, _, rfl, ?_⟩
          rw [show decide ((((V.str m.head :: x0 :: xr).length : Nat) : Int) > 1) = true from decide_eq_true (by simp only [List.length_cons]; omega)]
          refine iteT ⟨_, rfl, _, _, _, x0, rfl, rfl, sqK i418, atI_at (j := 1) rfl rfl, (by show 3 ≤ sizeLine; decide), fun q hq => ?_⟩
          refine rdNil ?_
          dsimp only
          refine tell k0 x0 pb q I18 H18 (mx0.ext g18.ext) g18 t18 k0o (by omega) (by omega) hq _ (fun H' h' => ?_)
          exact ⟨_, rfl, iteF (hn H' h')⟩
    · rintro σ H0 ⟨I0, o2, o3, o4, o5, o6, o7, o8, o9, w0, rfl⟩
      exact k _
end
end Tm
/-! the end of a law: its promise wants to know that no text is being made; tables of code objects -/
namespace Tm
open PySem PySem.Spec PyProof.Rows L2
open LamX (TabB)
section
variable {P : Program} {w : World} {K : PySem.W.Frag} {mg mb : Str → Option Value} {CX : CXT} {k : Nat} {fa a : Addr} {cs : List (Addr × Addr)} {fd : FuncData} {x : Str} {sp : Sp} {s₁ : Shared} {H : Hp}
/-- what is told apart at the law's call: its list, its tables -/
structure Told (K : PySem.W.Frag) (cs : List (Addr × Addr)) (H : Hp) (h : Heap) : Prop where
  soft : ∀ b, H b ≠ none → K.lookup b = none ∧ ∃ o, h.get? b = some o ∧ ((∃ vs n, o.data = .seq vs n) ∨ o.data = .fields #[])
  kinds : ∀ b u, H b = some u → ((∃ p ∈ cs, p.2 = b) ∧ u = .tbl #[]) ∨ ∃ o xs, u = .frz o (.lst xs)
  tabs : ∀ p ∈ cs, H p.2 = some (.tbl #[])
  empty : ∀ p ∈ cs, h.get? p.2 = some { cls := .none, data := .fields #[] }
  code : ∀ p ∈ cs, PySem.W.CodeHd h p.1 p.2
theorem Told.base (T : Told K cs H s₁.heap) {b : Addr} {o : Obj} (e : s₁.heap.get? b = some o) (n1 : ∀ vs n, o.data ≠ .seq vs n) (n2 : o.data ≠ .fields #[]) : (hidT s₁.heap H).get? b = some o := by
  refine hidT_get e ?_
  cases q : H b with
  | none => rfl
  | some u =>
    obtain ⟨_, o', e', d⟩ := T.soft b (by rw [q]; exact fun z => nomatch z)
    rw [e] at e'
    cases e'
    rcases d with ⟨vs, n, d⟩ | d
    · exact absurd d (n1 vs n)
    · exact absurd d n2
theorem Told.ns (T : Told K cs H s₁.heap) {b : Addr} {m : Str → Option Value} (n : s₁.heap.Ns b m) : (hidT s₁.heap H).Ns b m := by
  obtain ⟨o, es, ep, e, d, r⟩ := n
  exact ⟨o, es, ep, T.base e (fun vs n z => by rw [d] at z; cases z) (fun z => by rw [d] at z; cases z), d, r⟩
theorem Told.kin (T : Told K cs H s₁.heap) (KX : K.In s₁.heap) : K.In (hidT s₁.heap H) := fun b o e => by
  refine hidT_get (KX b o e) ?_
  cases q : H b with
  | none => rfl
  | some u =>
    have z := (T.soft b (by rw [q]; exact fun z => nomatch z)).1
    rw [e] at z
    cases z
theorem Told.tabB (T : Told K cs H s₁.heap) (hns : s₁.heap.Ns mainGlobals mg) (hbm : ∃ (bm : Addr) (ob : Obj), mg "__builtins__" = some (.ref bm) ∧ bm ≠ builtinsNs ∧ s₁.heap.get? bm = some ob ∧ ob.cls = .type "module" ∧ ob.dict = some builtinsNs ∧ ob.data = .plain) :
    ∀ p ∈ cs, TabB (hidT s₁.heap H) mg p.1 p.2 := fun p hp => by
  have e0 := T.empty p hp
  obtain ⟨og, gs, gp, eg, dg, rg⟩ := id hns
  refine ⟨?_, ?_, fun z => ?_⟩
  · obtain ⟨o, us, file, tf, flags, tg, inF, text, tt, e1, c1, d1, r⟩ := T.code p hp
    refine ⟨o, us, file, tf, flags, tg, inF, text, tt, T.base e1 (fun vs n z => by rw [d1] at z; cases z) (fun z => ?_), c1, d1, r⟩
    have hu : us = #[] := by rw [d1] at z; exact Data.fields.inj z
    have r3 := r.1
    rw [hu] at r3
    cases r3
  · obtain ⟨bm, ob, b1, b2, b3, b4, b5, b6⟩ := hbm
    refine ⟨bm, ob, b1, b2, fun q => ?_, fun q => ?_, T.base b3 (fun vs n z => by rw [b6] at z; cases z) (fun z => by rw [b6] at z; cases z), b4, b5, b6⟩
    · rw [q, eg] at b3
      cases b3
      rw [dg] at b6
      cases b6
    · rw [q, e0] at b3
      cases b3
      cases b6
  · rw [z, e0] at eg
    cases eg
    cases dg
/-- the call of the law from where everything stands -/
theorem law_tabG (T : Told K cs H s₁.heap) (KX : K.In s₁.heap) (hns : s₁.heap.Ns mainGlobals mg) (hb : s₁.heap.Ns builtinsNs mb) (hbb : ∀ x : Str, x ≠ "__name__" → mb x = bootBuiltins x) (hlim : s₁.heap.NoLimit) (hg : s₁.gens = #[])
    (hbm : ∃ (bm : Addr) (ob : Obj), mg "__builtins__" = some (.ref bm) ∧ bm ≠ builtinsNs ∧ s₁.heap.get? bm = some ob ∧ ob.cls = .type "module" ∧ ob.dict = some builtinsNs ∧ ob.data = .plain)
    (hok : HOk P w H s₁.heap) (hr : Room k callerA) (F : ∀ base : Heap, K.In base → base.Ns mainGlobals mg → (∀ p ∈ cs, TabB base mg p.1 p.2) → FnG P w K mg base CX k fa fd [x] sp)
    (hbind : ∀ (s : Shared) (u : Value), BindsTo s fd ⟨[u], []⟩ [(x, u)]) (hsp : sp [.ref a] H (fun v _ => v = .bl true) fun _ _ _ => False) (hCX : ∀ e s', CX [] H s₁ (fun _ _ _ => False) e s' → False) :
    codeAny (model P w) callerA (.call (.ref fa) ⟨[.ref a], []⟩) (fun r s' => r = .ok (.ret (.bool true)) ∧ OldK s₁.heap s'.heap ∧ s'.os = s₁.os ∧ AllBare s'.gens) s₁ := by
  have kb := T.kin KX
  have nb := T.ns hns
  have md : L2.Mod K mg (hidT s₁.heap H) := ⟨kb, nb, ⟨mb, T.ns hb, hbb⟩, hlim.imp fun mc h => ⟨T.ns h.1, h.2⟩⟩
  have none_in : ∀ {b : Addr} {Z : Prop}, b ∈ ([] : List Addr) → Z := fun h => nomatch h
  have ev : Env0 P w K mg (hidT s₁.heap H) callerA [] s₁ H := ⟨rfl, md, fun _ _ e => of_hidT e, Nat.le_of_eq (hidT_size _ _), trivial, fun _ h => none_in h, hok, .of_eq hg⟩
  refine codeAny_mono ((F _ kb nb (T.tabB hns hbm)).run callerA [] s₁ H ⟨[.ref a], []⟩ [.ref a] [.ref a] _ _ rfl hr ev (hbind s₁ (.ref a)) (.cons rfl .nil) hsp) fun r s' h => ?_
  match r, h with
  | .error e, h => exact (hCX e s' h).elim
  | .ok .next, h => exact h.elim
  | .ok .brk, h => exact h.elim
  | .ok .cont, h => exact h.elim
  | .ok (.ret u), h =>
    obtain ⟨v, H', eos, ebare, un, ok', rv, rfl⟩ := h
    cases (show u = Value.bool true from rv)
    have old : ∀ b o, s₁.heap.get? b = some o → (s'.heap.get? b = some o) ∨ (∃ p ∈ cs, p.2 = b) ∧ o = { cls := .none, data := .fields #[] } ∧ ∃ more : Array Value, s'.heap.get? b = some { cls := .none, data := .fields more } := fun b o e => by
      cases q : H b with
      | none => exact .inl (un.keep b o e q none_in none_in)
      | some u =>
        rcases T.kinds b u q with ⟨⟨p, hp, hpb⟩, rfl⟩ | ⟨o', xs, rfl⟩
        · obtain ⟨more, z⟩ := un.tbls b #[] q
          subst hpb
          have e1 := T.empty p hp
          rw [e] at e1
          exact .inr ⟨⟨p, hp, rfl⟩, Option.some.inj e1, _, ok' _ _ z⟩
        · have z1 := (hok b _ q).1
          rw [e] at z1
          cases z1
          exact .inl (ok' b _ (un.frzs b o _ q)).1
    refine ⟨rfl, ⟨fun b o e => ?_, fun b o e => ?_⟩, eos, ebare⟩
    · rcases old b o e with z | ⟨⟨p, hp, rfl⟩, rfl, more, z⟩
      · exact .inl z
      · exact .inr (.inl ⟨((T.code p hp).tab (T.empty p hp)).isCodeTable, rfl, #[], more, rfl, by rw [Array.empty_append]; exact z⟩)
    · rcases old b o e with z | ⟨_, _, more, z⟩
      · exact ⟨o, z⟩
      · exact ⟨_, z⟩
end
/-- what the text must tell of the law -/
def LawG (l : PySem.W.OpenLaw) (w : World) (K : PySem.W.Frag) (CX : CXT) (k n : Nat) (x : Str) (mg : Str → Option Value) (fa : Addr) (h : Heap) : Prop :=
  ∃ (fd : FuncData) (cs : List (Addr × Addr)) (sp : Sp), (∀ p ∈ cs, h.get? p.2 = some { cls := .none, data := .fields #[] }) ∧ (∀ p ∈ cs, K.lookup p.2 = none) ∧ (∀ p ∈ cs, PySem.W.CodeHd h p.1 p.2) ∧ (∀ (s : Shared) (u : Value), BindsTo s fd ⟨[u], []⟩ [(x, u)]) ∧
    (∀ (H : Hp) (a : Addr) (ns : List Int), ns.length ≤ n → (∀ z ∈ ns, Builtin.Int.intBits z ≤ 1048576) → (∀ p ∈ cs, H p.2 = some (.tbl #[])) → SqL K H a (ns.map V.int) → sp [.ref a] H (fun v _ => v = .bl true) fun _ _ _ => False) ∧
    ∀ base : Heap, K.In base → base.Ns mainGlobals mg → (∀ p ∈ cs, TabB base mg p.1 p.2) → FnG l.prog w K mg base CX k fa fd [x] sp
theorem walk_G {l : PySem.W.OpenLaw} {n k : Nat} {q : Program} {loose : List Str} {XP : (Str → Option Value) → Heap → Prop} {YP : World → Heap → Prop} {d : DefRec} {K : Params → PySem.W.Frag} {CX : World → CXT} {x : Str}
    (hn : l.most = some n) (hn2 : n ≤ sizeLine) (hdf : d.params.defaults = []) (hr : Room k callerA) (hY : ∀ (w : World) (h : Heap), YP w h → (K w.params).In h)
    (F : ∀ (w : World) (mg : Str → Option Value) (fa : Addr) (h : Heap), YP w h → (K w.params).In h → h.Ns mainGlobals mg → mg d.name = some (.ref fa) → LawG l w (K w.params) (CX w) k n x mg fa h)
    (hCX : ∀ (w : World) (H : Hp) (s : Shared) (e : Value) (s' : Shared), CX w [] H s (fun _ _ _ => False) e s' → False) :
    PySem.W.WalkO q loose XP YP l.row.toRowW d [] (fun f vs => PySem.call f vs) := by
  refine Att.attach_callB hn hdf fun w _ s₁ mg mb fa _ _ _ _ a vs ns G Y _ _ _ hmg hobj hints hlen hbits hg => ?_
  have KX := hY w _ Y
  have rv := vals_ints hints
  obtain ⟨fd, cs, sp, hT, nT, hC, hbind, hsp, hF⟩ := F w mg fa _ Y KX G.T.g hmg
  have ln : (ns.map V.int).length ≤ sizeLine := by rw [List.length_map]; exact Nat.le_trans hlen hn2
  have nat : ∀ p ∈ cs, p.2 ≠ a := fun p hp z => by
    have e := hT p hp
    rw [z, hobj] at e
    have e2 : Data.seq vs.toArray _ = Data.fields #[] := congrArg Obj.data (Option.some.inj e)
    cases e2
  let H : Hp := fun b => if cs.any (fun p => p.2 == b) = true then some (.tbl #[]) else if b = a ∧ ((K w.params).lookup a).isNone = true then some (.frz { cls := .type "list", data := .seq vs.toArray } (.lst (ns.map V.int))) else none
  have inn : ∀ {b : Addr}, cs.any (fun p => p.2 == b) = true ↔ ∃ p ∈ cs, p.2 = b := fun {b} => by
    rw [List.any_eq_true]
    exact ⟨fun ⟨p, h1, h2⟩ => ⟨p, h1, by simpa using h2⟩, fun ⟨p, h1, h2⟩ => ⟨p, h1, by simpa using h2⟩⟩
  have an : ¬ cs.any (fun p => p.2 == a) = true := fun z => let ⟨p, h1, h2⟩ := inn.mp z; nat p h1 h2
  have tabs : ∀ p ∈ cs, H p.2 = some (.tbl #[]) := fun p hp => if_pos (inn.mpr ⟨p, hp, rfl⟩)
  have cases_ : ∀ b u, H b = some u → ((∃ p ∈ cs, p.2 = b) ∧ u = .tbl #[]) ∨ (b = a ∧ (K w.params).lookup a = none ∧ u = .frz { cls := .type "list", data := .seq vs.toArray } (.lst (ns.map V.int))) := fun b u e => by
    by_cases h1 : cs.any (fun p => p.2 == b) = true
    · have z := (if_pos h1).symm.trans e
      exact .inl ⟨inn.mp h1, (Option.some.inj z).symm⟩
    · have z := (if_neg h1).symm.trans e
      by_cases h2 : b = a ∧ ((K w.params).lookup a).isNone = true
      · rw [if_pos h2] at z
        exact .inr ⟨h2.1, Option.isNone_iff_eq_none.mp h2.2, (Option.some.inj z).symm⟩
      · rw [if_neg h2] at z
        cases z
  have told : Told (K w.params) cs H s₁.heap := by
    refine ⟨fun b hb => ?_, fun b u e => ?_, tabs, hT, hC⟩
    · obtain ⟨u, e⟩ := Option.ne_none_iff_exists'.mp hb
      rcases cases_ b u e with ⟨⟨p, hp, rfl⟩, _⟩ | ⟨rfl, kn, _⟩
      · exact ⟨nT p hp, _, hT p hp, .inr rfl⟩
      · exact ⟨kn, _, hobj, .inl ⟨_, _, rfl⟩⟩
    · rcases cases_ b u e with h | ⟨_, _, rfl⟩
      · exact .inl h
      · exact .inr ⟨_, _, rfl⟩
  have hok : HOk l.prog w H s₁.heap := fun b u e => by
    rcases cases_ b u e with ⟨⟨p, hp, rfl⟩, rfl⟩ | ⟨rfl, _, rfl⟩
    · exact hT p hp
    · exact ⟨hobj, ln, vs, _, rv, hobj⟩
  have hS : SqL (K w.params) H a (ns.map V.int) := by
    cases q : (K w.params).lookup a with
    | none => exact .inl (.inr ⟨_, (if_neg an).trans (if_pos ⟨rfl, by rw [q]; rfl⟩)⟩)
    | some o =>
      have e := KX a o q
      rw [hobj] at e
      cases e
      refine .inr ⟨_, vs.toArray, _, q, rfl, rfl, rfl, ?_, by simpa using rv⟩
      have hv : vs.length = ns.length := hints.length
      rw [List.size_toArray, hv]
      exact Nat.le_trans hlen hn2
  exact law_tabG told KX G.T.g G.T.b G.T.builtins G.T.nolimit hg G.T.bmain hok hr hF hbind (hsp H a ns hlen hbits tabs hS) fun e s' => hCX w H s₁ e s'
end Tm
/-! what the top has left, as the promises want it -/
namespace Tm
open PySem PySem.Spec PyProof.Rows L2
section
variable {P : Program} {w : World} {K : PySem.W.Frag} {mg : Str → Option Value} {base : Heap}
/-- a tuple of words of the text -/
theorem tupK_of {x : Str} {hs : List Str} {t : Addr} {od : Option Addr} {its : Array Value} {n : Nat} {sl : Array (Option Value)} (hm : mg x = some (.ref t)) (l : K.lookup t = some ⟨.type "tuple", od, .seq its n, sl⟩) (hn : hs.length ≤ 1000) (v : Vals (hs.map V.str) its.toList) : TupK K mg x hs :=
  ⟨t, hm, fun H => .inr ⟨_, its, n, l, rfl, rfl, by
    have := v.length
    rw [List.length_map] at this
    rw [← Array.length_toList, ← this]
    exact Nat.le_trans hn (by decide), v⟩⟩
/-- a dict of the text, words to numbers -/
def tblMP : List (Str × Nat) := [("TRUE", 0), ("NOT", 1), ("AND", 2), ("OR", 2), ("NEXT", 1), ("UNTIL", 2), ("EVER", 1), ("ALWAYS", 1), ("BEFORE", 1), ("SINCE", 2), ("ONCE", 1), ("SOFAR", 1)]
theorem tbl_due : ∀ z : Str, (tblMP.find? fun p => decide (p.1 = z)).map (·.2) = dueOp z := by
  intro z
  have h1 : ∀ y ∈ tblMP.map (·.1), (tblMP.find? fun p => decide (p.1 = y)).map (·.2) = dueOp y := by decide +kernel
  by_cases hz : z ∈ tblMP.map (·.1)
  · exact h1 z hz
  · have e : (tblMP.find? fun p => decide (p.1 = z)) = none := List.find?_eq_none.mpr fun p hp q => hz (List.mem_map.mpr ⟨p, hp, of_decide_eq_true q⟩)
    rw [e]
    have i1 : ∀ y ∈ biW, y ∈ tblMP.map (·.1) := by decide +kernel
    have i2 : ∀ y ∈ unW, y ∈ tblMP.map (·.1) := by decide +kernel
    have i3 : ("TRUE" : Str) ∈ tblMP.map (·.1) := by decide +kernel
    unfold dueOp
    rw [if_neg fun q => hz (i1 z q), if_neg fun q => hz (i2 z q), if_neg fun q => hz (by rw [q]; exact i3)]
    rfl
/-- an entry is a word with its number -/
def EntIs (P : Params) (e : DictEntry) (p : Str × Nat) : Prop := (∃ t, e.key = .str p.1 t) ∧ e.hash = PyData.keyHash P p.1 ∧ ∃ u, e.val = .int (p.2 : Int) u
inductive EntsAre (P : Params) : List DictEntry → List (Str × Nat) → Prop
  | nil : EntsAre P [] []
  | cons {e : DictEntry} {es : List DictEntry} {p : Str × Nat} {ps : List (Str × Nat)} : EntIs P e p → EntsAre P es ps → EntsAre P (e :: es) (p :: ps)
theorem EntsAre.lit {P : Params} {es : List DictEntry} {ps : List (Str × Nat)} (h : EntsAre P es ps) : PySem.W.KeysLit P es := by
  induction h with
  | nil => trivial
  | cons h _ ih => exact ⟨⟨_, h.1.choose, h.1.choose_spec, h.2.1⟩, ih⟩
theorem EntsAre.find {P : Params} {es : List DictEntry} {ps : List (Str × Nat)} (h : EntsAre P es ps) (z : Str) : match (ps.find? fun p => decide (p.1 = z)) with
    | some p => ∃ e, es.find? (fun e => e.key.isStr z) = some e ∧ ∃ u, e.val = .int (p.2 : Int) u
    | none => es.find? (fun e => e.key.isStr z) = none := by
  induction h with
  | nil => rfl
  | @cons e es p ps h r ih =>
    obtain ⟨⟨t, hk⟩, _, u, hv⟩ := h
    have ek : e.key.isStr z = decide (p.1 = z) := by
      rw [hk]
      show (p.1 == z) = _
      exact Bool.beq_eq_decide_eq _ _
    by_cases q : p.1 = z
    · rw [List.find?_cons, List.find?_cons, ek, decide_eq_true q]
      exact ⟨e, rfl, u, hv⟩
    · rw [List.find?_cons, List.find?_cons, ek, decide_eq_false q]
      exact ih
theorem mp_of {d : Addr} {es : Array DictEntry} {n : Nat} (hm : mg "MANY_PARTS" = some (.ref d)) (l : K.lookup d = some ⟨.type "dict", none, .dict es n, #[]⟩) (lo : (d == sysModules) = false) (h : EntsAre w.params es.toList tblMP) : MP K w mg d := by
  refine ⟨⟨es, n, l, h.lit, lo⟩, ⟨_, l, rfl⟩, fun z => ?_, hm⟩
  have f := h.find z
  have e := tbl_due z
  have nk : PySem.W.nsIn K d z = match es.toList.find? (fun e => e.key.isStr z) with
      | some e => some (some e.val)
      | none => if es.toList.any (·.refKey) then none else some none := by
    unfold PySem.W.nsIn
    rw [l]
    rfl
  have nr : ∀ {es : List DictEntry} {ps : List (Str × Nat)}, EntsAre w.params es ps → es.any (·.refKey) = false := fun h => by
    induction h with
    | nil => rfl
    | cons h _ ih =>
      obtain ⟨⟨t, hk⟩, _⟩ := h
      rw [List.any_cons, ih, Bool.or_false]
      unfold DictEntry.refKey
      rw [hk]
  cases q : tblMP.find? (fun p => decide (p.1 = z)) with
  | some p =>
    rw [q] at f e
    obtain ⟨en, f1, u, f2⟩ := f
    rw [f1] at nk
    refine ⟨some en.val, nk, ?_⟩
    rw [← e]
    exact ⟨u, by rw [f2]⟩
  | none =>
    rw [q] at f e
    rw [f, nr h] at nk
    refine ⟨none, nk, ?_⟩
    rw [← e]
    rfl
theorem ent_is {P : Params} {z : Str} {t u : Tok} {n : Nat} {i : Int} (hi : i = (n : Int)) : EntIs P ⟨PyData.keyHash P z, .str z t, .int i u⟩ (z, n) := by
  subst hi
  exact ⟨⟨t, rfl⟩, rfl, u, rfl⟩
end
end Tm
/-! the law's promise, from what the top has left (rows printed by gen76.py) -/
namespace Tm
open PySem PySem.Spec PyProof.Rows L2
open LamX (TabB Tabs TabS)
theorem all_mk {l : PySem.W.OpenLaw} {w : World} {K : PySem.W.Frag} {h : Heap} {mg : Str → Option Value} {fa : Addr} (X : K.In h) (G : h.Ns mainGlobals mg) (hfa : mg "law" = some (.ref fa))
    {tS tM tW : Tok} {uP : Addr} {uoP : Option Addr} {uiP : Array Value} {unP : Nat} {usP : Array (Option Value)} {uQ : Addr} {uoQ : Option Addr} {uiQ : Array Value}
    {unQ : Nat} {usQ : Array (Option Value)} {d : Addr} {es : Array DictEntry} {dn : Nat} {SE : Addr} {BT NBT : Addr} {nmBT qBT : Str} {bsBT bmBT subBT : List Value}
    {snBT : List Str} {abBT : Bool} {coBT : Option Bool} {ddBT : Option Addr} {m0BT m1BT m2BT m3BT m5BT : Option Value} {fIBT : Addr} {odIBT anIBT : Option Addr}
    {slIBT : Array (Option Value)} {ocIBT kVIBT dcIBT pmIBT ctIBT : Value} {cdIBT : Value} {BX NBX : Addr} {nmBX qBX : Str} {bsBX bmBX subBX : List Value}
    {snBX : List Str} {abBX : Bool} {coBX : Option Bool} {ddBX : Option Addr} {m0BX m1BX m2BX m3BX m5BX : Option Value} {fIBX : Addr} {odIBX anIBX : Option Addr}
    {slIBX : Array (Option Value)} {ocIBX kVIBX dcIBX pmIBX ctIBX : Value} {cdIBX : Value} {TM NTM : Addr} {nmTM qTM : Str} {bsTM bmTM subTM : List Value}
    {snTM : List Str} {abTM : Bool} {coTM : Option Bool} {ddTM : Option Addr} {m0TM m1TM m2TM m3TM m5TM : Option Value} {fITM : Addr} {odITM anITM : Option Addr}
    {slITM : Array (Option Value)} {ocITM kVITM dcITM pmITM ctITM : Value} {cdITM : Value} {C : Addr} {fTi : Addr} {odTi anTi : Option Addr} {slTi : Array (Option Value)}
    {ocTi kVTi dcTi pmTi ctTi : Value} {cdTi : Value} {fAn : Addr} {odAn anAn : Option Addr} {slAn : Array (Option Value)} {ocAn kVAn dcAn pmAn ctAn : Value}
    {cdAn : Value} {fOr : Addr} {odOr anOr : Option Addr} {slOr : Array (Option Value)} {ocOr kVOr dcOr pmOr ctOr : Value} {cdOr : Value} {fIn : Addr} {odIn anIn : Option Addr}
    {slIn : Array (Option Value)} {ocIn kVIn dcIn pmIn ctIn : Value} {cdIn : Value} {fEq : Addr} {odEq anEq : Option Addr} {slEq : Array (Option Value)}
    {ocEq kVEq dcEq pmEq ctEq : Value} {cdEq : Value} {fSt : Addr} {odSt anSt : Option Addr} {slSt : Array (Option Value)} {ocSt kVSt dcSt pmSt ctSt : Value}
    {cdSt : Value} {mc : Value} {cm : Addr} {rest : List Value} {fFr : Addr} {odFr anFr : Option Addr} {slFr : Array (Option Value)} {ocFr kVFr dcFr pmFr ctFr : Value}
    {cdFr : Value} {fIE : Addr} {odIE anIE : Option Addr} {slIE : Array (Option Value)} {ocIE kVIE dcIE pmIE ctIE : Value} {cdIE : Value} {fPD : Addr} {odPD anPD : Option Addr}
    {slPD : Array (Option Value)} {ocPD kVPD dcPD pmPD ctPD : Value} {cdPD : Value} {fRD : Addr} {odRD anRD : Option Addr} {slRD : Array (Option Value)}
    {ocRD kVRD dcRD pmRD ctRD : Value} {cdRD : Value} {fEV : Addr} {odEV anEV : Option Addr} {slEV : Array (Option Value)} {ocEV kVEV dcEV pmEV ctEV : Value}
    {cdEV : Value} {fPI : Addr} {odPI anPI : Option Addr} {slPI : Array (Option Value)} {ocPI kVPI dcPI pmPI ctPI : Value} {cdPI : Value} {fFO : Addr} {odFO anFO : Option Addr}
    {slFO : Array (Option Value)} {ocFO kVFO dcFO pmFO ctFO : Value} {cdFO : Value} {fPR : Addr} {odPR anPR : Option Addr} {slPR : Array (Option Value)}
    {ocPR kVPR dcPR pmPR ctPR : Value} {cdPR : Value} {fME : Addr} {odME anME : Option Addr} {slME : Array (Option Value)} {ocME kVME dcME pmME ctME : Value}
    {cdME : Value} {nt : Addr} {no : Option Addr} {nc : Value} {ni : Array Value} {nn : Nat} {ns_ : Array (Option Value)} {fND : Addr} {odND anND : Option Addr}
    {slND : Array (Option Value)} {ocND kVND dcND pmND ctND : Value} {cdND : Value} {fpe : Addr} {odpe anpe : Option Addr} {slpe : Array (Option Value)}
    {ocpe kVpe dcpe pmpe ctpe : Value} {cdpe : Value} {fdr : Addr} {oddr andr : Option Addr} {sldr : Array (Option Value)} {ocdr kVdr dcdr pmdr ctdr : Value}
    {cddr : Value} {fpi : Addr} {odpi anpi : Option Addr} {slpi : Array (Option Value)} {ocpi kVpi dcpi pmpi ctpi : Value} {cdpi : Value} {fev : Addr} {odev anev : Option Addr}
    {slev : Array (Option Value)} {ocev kVev dcev pmev ctev : Value} {cdev : Value} {fmo : Addr} {odmo anmo : Option Addr} {slmo : Array (Option Value)}
    {ocmo kVmo dcmo pmmo ctmo : Value} {cdmo : Value} {fwo : Addr} {odwo anwo : Option Addr} {slwo : Array (Option Value)} {ocwo kVwo dcwo pmwo ctwo : Value}
    {cdwo : Value} {fpa : Addr} {odpa anpa : Option Addr} {slpa : Array (Option Value)} {ocpa kVpa dcpa pmpa ctpa : Value} {cdpa : Value} {ffi : Addr} {odfi anfi : Option Addr}
    {slfi : Array (Option Value)} {ocfi kVfi dcfi pmfi ctfi : Value} {cdfi : Value} {fma : Addr} {odma anma : Option Addr} {slma : Array (Option Value)}
    {ocma kVma dcma pmma ctma : Value} {cdma : Value} {fhe : Addr} {odhe anhe : Option Addr} {slhe : Array (Option Value)} {oche kVhe dche pmhe cthe : Value}
    {cdhe : Value} {fmn : Addr} {odmn anmn : Option Addr} {slmn : Array (Option Value)} {ocmn kVmn dcmn pmmn ctmn : Value} {cdmn : Value} {ffa_ : Addr}
    {odfa_ anfa_ : Option Addr} {slfa_ : Array (Option Value)} {ocfa_ kVfa_ dcfa_ pmfa_ ctfa_ : Value} {cdfa_ : Value} {fto : Addr} {odto anto : Option Addr}
    {slto : Array (Option Value)} {octo kVto dcto pmto ctto : Value} {cdto : Value} {fli : Addr} {odli anli : Option Addr} {slli : Array (Option Value)}
    {ocli kVli dcli pmli ctli : Value} {cdli : Value} {fbe : Addr} {odbe anbe : Option Addr} {slbe : Array (Option Value)} {ocbe kVbe dcbe pmbe ctbe : Value}
    {cdbe : Value} {fla : Addr} {odla anla : Option Addr} {slla : Array (Option Value)} {ocla kVla dcla pmla ctla : Value} {cdla : Value} {ts : List Addr}
    {fir : Addr} {odir anir : Option Addr} {slir : Array (Option Value)} {ocir kVir dcir pmir ctir : Value} {ccir : Addr} {Pir : Addr} {coir : Option Addr}
    {cvir : Array Value} {csir : Array (Option Value)} {frf : Addr} {odrf anrf : Option Addr} {slrf : Array (Option Value)} {ocrf kVrf dcrf pmrf ctrf : Value}
    {ccrf : Addr} {Prf : Addr} {corf : Option Addr} {cvrf : Array Value} {csrf : Array (Option Value)} {flo : Addr} {odlo anlo : Option Addr} {sllo : Array (Option Value)}
    {oclo kVlo dclo pmlo ctlo : Value} {cclo : Addr} {Plo : Addr} {colo : Option Addr} {cvlo : Array Value} {cslo : Array (Option Value)}
    (z_isinstance : PySem.W.nsIn K mainGlobals "isinstance" = some none)
    (z_str : PySem.W.nsIn K mainGlobals "str" = some none)
    (z_len : PySem.W.nsIn K mainGlobals "len" = some none)
    (z_all : PySem.W.nsIn K mainGlobals "all" = some none)
    (z_int : PySem.W.nsIn K mainGlobals "int" = some none)
    (z_abs : PySem.W.nsIn K mainGlobals "abs" = some none)
    (z_list : PySem.W.nsIn K mainGlobals "list" = some none)
    (z_range : PySem.W.nsIn K mainGlobals "range" = some none)
    (z_enumerate : PySem.W.nsIn K mainGlobals "enumerate" = some none)
    (z_tuple : PySem.W.nsIn K mainGlobals "tuple" = some none)
    (z_sorted : PySem.W.nsIn K mainGlobals "sorted" = some none)
    (z_repr : PySem.W.nsIn K mainGlobals "repr" = some none)
    (z_reversed : PySem.W.nsIn K mainGlobals "reversed" = some none)
    (gS : PySem.W.nsIn K mainGlobals "SIGNS" = some (some (.str signs tS)))
    (gM : PySem.W.nsIn K mainGlobals "MOST_SIGNS" = some (some (.int 24 tM)))
    (gW : PySem.W.nsIn K mainGlobals "MOST_WORDS" = some (some (.int 40 tW)))
    (u1P : PySem.W.nsIn K mainGlobals "PROMISES" = some (some (.ref uP)))
    (u2P : K.lookup uP = some ⟨.type "tuple", uoP, .seq uiP unP, usP⟩)
    (u3P : Vals ((hsP : List Str).map V.str) uiP.toList)
    (u1Q : PySem.W.nsIn K mainGlobals "MEMORIES" = some (some (.ref uQ)))
    (u2Q : K.lookup uQ = some ⟨.type "tuple", uoQ, .seq uiQ unQ, usQ⟩)
    (u3Q : Vals ((hsM : List Str).map V.str) uiQ.toList)
    (d1 : PySem.W.nsIn K mainGlobals "MANY_PARTS" = some (some (.ref d)))
    (d2 : K.lookup d = some ⟨.type "dict", none, .dict es dn, #[]⟩)
    (d3 : (d == sysModules) = false)
    (d4 : EntsAre w.params es.toList tblMP)
    (se : PySem.W.nsIn K mainGlobals "ShareError" = some (some (.ref SE)))
    (e1BT : PySem.W.nsIn K mainGlobals "BadTemporal" = some (some (.ref BT)))
    (e2BT : K.lookup BT = some (excClassObj nmBT qBT BT NBT bsBT bmBT true snBT subBT abBT coBT ddBT m0BT m1BT m2BT m3BT m5BT "ValueError.__new__"))
    (e3BT : PySem.HandSPX.refsVE bmBT = true)
    (e4BT : PySem.W.findIn K (.ref BT) "__setattr__" = some (some (.builtin "object.__setattr__")))
    (e5BT : PySem.W.subIn K (.ref BT) (.type "BaseException") = some true)
    (e6BT : PySem.W.typeIn K (.ref BT) = some (.type "type"))
    (e7BT : PySem.W.keepIn K (.ref BT) = true)
    (aIBT : PySem.W.findIn K (.ref BT) "__init__" = some (some (.ref fIBT)))
    (lIBT : K.lookup fIBT = some ⟨ocIBT, odIBT, .func (PySem.W.fnOf "__init__" "BadTemporal.__init__" (defArgs sBT) (defBody sBT) (defScope sBT) .none kVIBT dcIBT pmIBT anIBT cdIBT ctIBT), slIBT⟩)
    (cIBT : PySem.W.codeIn K cdIBT "BadTemporal.__init__" = true)
    (kIBT : PySem.W.keepIn K (.ref fIBT) = true)
    (e8BT : PySem.W.typeIn K (.ref fIBT) = some (.type "function"))
    (n0BT : PySem.W.findIn K (.ref BT) "part" = some none)
    (x1BT : PySem.W.findIn K (.ref BT) "__getattribute__" = some (some (.builtin "BaseException.__getattribute__")))
    (x2BT : PySem.W.findIn K (.ref BT) "__getattr__" = some none)
    (x3BT : PySem.W.hasDictIn K BT = true)
    (x4BT : PySem.W.findIn K (.ref BT) "__class__" = some (some (.builtin "object.__class__")))
    (x5BT : PySem.W.mroIn K BT (.type "object") = some true)
    (x6BT : PySem.W.exmOne K (.ref BT) (.ref SE) = some true)
    (x7BT : PySem.W.kitOne K (.type "NoneType") (.ref BT) = some false)
    (e1BX : PySem.W.nsIn K mainGlobals "BadText" = some (some (.ref BX)))
    (e2BX : K.lookup BX = some (excClassObj nmBX qBX BX NBX bsBX bmBX true snBX subBX abBX coBX ddBX m0BX m1BX m2BX m3BX m5BX "ValueError.__new__"))
    (e3BX : PySem.HandSPX.refsVE bmBX = true)
    (e4BX : PySem.W.findIn K (.ref BX) "__setattr__" = some (some (.builtin "object.__setattr__")))
    (e5BX : PySem.W.subIn K (.ref BX) (.type "BaseException") = some true)
    (e6BX : PySem.W.typeIn K (.ref BX) = some (.type "type"))
    (e7BX : PySem.W.keepIn K (.ref BX) = true)
    (aIBX : PySem.W.findIn K (.ref BX) "__init__" = some (some (.ref fIBX)))
    (lIBX : K.lookup fIBX = some ⟨ocIBX, odIBX, .func (PySem.W.fnOf "__init__" "BadText.__init__" (defArgs sBX) (defBody sBX) (defScope sBX) .none kVIBX dcIBX pmIBX anIBX cdIBX ctIBX), slIBX⟩)
    (cIBX : PySem.W.codeIn K cdIBX "BadText.__init__" = true)
    (kIBX : PySem.W.keepIn K (.ref fIBX) = true)
    (e8BX : PySem.W.typeIn K (.ref fIBX) = some (.type "function"))
    (n0BX : PySem.W.findIn K (.ref BX) "line" = some none)
    (n1BX : PySem.W.findIn K (.ref BX) "word" = some none)
    (x1BX : PySem.W.findIn K (.ref BX) "__getattribute__" = some (some (.builtin "BaseException.__getattribute__")))
    (x2BX : PySem.W.findIn K (.ref BX) "__getattr__" = some none)
    (x3BX : PySem.W.hasDictIn K BX = true)
    (x4BX : PySem.W.findIn K (.ref BX) "__class__" = some (some (.builtin "object.__class__")))
    (x5BX : PySem.W.mroIn K BX (.type "object") = some true)
    (x6BX : PySem.W.exmOne K (.ref BX) (.ref SE) = some true)
    (x7BX : PySem.W.kitOne K (.type "NoneType") (.ref BX) = some false)
    (e1TM : PySem.W.nsIn K mainGlobals "TooMany" = some (some (.ref TM)))
    (e2TM : K.lookup TM = some (excClassObj nmTM qTM TM NTM bsTM bmTM true snTM subTM abTM coTM ddTM m0TM m1TM m2TM m3TM m5TM "ValueError.__new__"))
    (e3TM : PySem.HandSPX.refsVE bmTM = true)
    (e4TM : PySem.W.findIn K (.ref TM) "__setattr__" = some (some (.builtin "object.__setattr__")))
    (e5TM : PySem.W.subIn K (.ref TM) (.type "BaseException") = some true)
    (e6TM : PySem.W.typeIn K (.ref TM) = some (.type "type"))
    (e7TM : PySem.W.keepIn K (.ref TM) = true)
    (aITM : PySem.W.findIn K (.ref TM) "__init__" = some (some (.ref fITM)))
    (lITM : K.lookup fITM = some ⟨ocITM, odITM, .func (PySem.W.fnOf "__init__" "TooMany.__init__" (defArgs sTM) (defBody sTM) (defScope sTM) .none kVITM dcITM pmITM anITM cdITM ctITM), slITM⟩)
    (cITM : PySem.W.codeIn K cdITM "TooMany.__init__" = true)
    (kITM : PySem.W.keepIn K (.ref fITM) = true)
    (e8TM : PySem.W.typeIn K (.ref fITM) = some (.type "function"))
    (n0TM : PySem.W.findIn K (.ref TM) "what" = some none)
    (n1TM : PySem.W.findIn K (.ref TM) "most" = some none)
    (x1TM : PySem.W.findIn K (.ref TM) "__getattribute__" = some (some (.builtin "BaseException.__getattribute__")))
    (x2TM : PySem.W.findIn K (.ref TM) "__getattr__" = some none)
    (x3TM : PySem.W.hasDictIn K TM = true)
    (x4TM : PySem.W.findIn K (.ref TM) "__class__" = some (some (.builtin "object.__class__")))
    (x5TM : PySem.W.mroIn K TM (.type "object") = some true)
    (x6TM : PySem.W.exmOne K (.ref TM) (.ref SE) = some true)
    (x7TM : PySem.W.kitOne K (.type "NoneType") (.ref TM) = some false)
    (ytt : PySem.W.kitOne K (.ref BT) (.ref BT) = some true)
    (ytx : PySem.W.kitOne K (.ref BT) (.ref BX) = some false)
    (ytq : PySem.W.kitOne K (.ref BT) (.ref TM) = some false)
    (yxt : PySem.W.kitOne K (.ref BX) (.ref BT) = some false)
    (yxx : PySem.W.kitOne K (.ref BX) (.ref BX) = some true)
    (yxq : PySem.W.kitOne K (.ref BX) (.ref TM) = some false)
    (yqt : PySem.W.kitOne K (.ref TM) (.ref BT) = some false)
    (yqx : PySem.W.kitOne K (.ref TM) (.ref BX) = some false)
    (yqq : PySem.W.kitOne K (.ref TM) (.ref TM) = some true)
    (oc1 : PySem.W.specialIn K (.builtin "object.__class__") "__get__" = some (some (.builtin "getset_descriptor.__get__")))
    (oc2 : PySem.W.takesIn K (.builtin "object.__class__") = some true)
    (t1 : PySem.W.nsIn K mainGlobals "Temporal" = some (some (.ref C)))
    (pg : PySem.W.plainGet K C Str.empty = true)
    (hd : PySem.W.hasDictIn K C = true)
    (po : PySem.W.plainOver K C = true)
    (sa : PySem.W.findIn K (.ref C) "__setattr__" = some (some (.builtin "object.__setattr__")))
    (ha : PySem.W.findIn K (.ref C) "__class__" = some (some (.builtin "object.__class__")))
    (hm : PySem.W.mroIn K C (.type "object") = some true)
    (na_word : PySem.W.findIn K (.ref C) "word" = some none)
    (na_parts : PySem.W.findIn K (.ref C) "parts" = some none)
    (na_words : PySem.W.findIn K (.ref C) "words" = some none)
    (kT : PySem.W.kitOne K (.ref C) (.ref C) = some true)
    (kn_NoneType : PySem.W.kitOne K (.type "NoneType") (.ref C) = some false)
    (kn_bool : PySem.W.kitOne K (.type "bool") (.ref C) = some false)
    (kn_int : PySem.W.kitOne K (.type "int") (.ref C) = some false)
    (kn_str : PySem.W.kitOne K (.type "str") (.ref C) = some false)
    (kn_list : PySem.W.kitOne K (.type "list") (.ref C) = some false)
    (kn_tuple : PySem.W.kitOne K (.type "tuple") (.ref C) = some false)
    (kn_dict : PySem.W.kitOne K (.type "dict") (.ref C) = some false)
    (kc_str : PySem.W.kitOne K (.ref C) (.type "str") = some false)
    (kc_tuple : PySem.W.kitOne K (.ref C) (.type "tuple") = some false)
    (up_NoneType : PySem.W.mroIn K C (.type "NoneType") = some false)
    (dn_NoneType : PySem.W.subIn K (.type "NoneType") (.ref C) = some false)
    (up_bool : PySem.W.mroIn K C (.type "bool") = some false)
    (dn_bool : PySem.W.subIn K (.type "bool") (.ref C) = some false)
    (up_int : PySem.W.mroIn K C (.type "int") = some false)
    (dn_int : PySem.W.subIn K (.type "int") (.ref C) = some false)
    (up_str : PySem.W.mroIn K C (.type "str") = some false)
    (dn_str : PySem.W.subIn K (.type "str") (.ref C) = some false)
    (up_list : PySem.W.mroIn K C (.type "list") = some false)
    (dn_list : PySem.W.subIn K (.type "list") (.ref C) = some false)
    (up_tuple : PySem.W.mroIn K C (.type "tuple") = some false)
    (dn_tuple : PySem.W.subIn K (.type "tuple") (.ref C) = some false)
    (up_dict : PySem.W.mroIn K C (.type "dict") = some false)
    (dn_dict : PySem.W.subIn K (.type "dict") (.ref C) = some false)
    (mk : PySem.W.makesIn K C = true)
    (kC : PySem.W.keepIn K (.ref C) = true)
    (sf : PySem.W.selfFirst K C = true)
    (aTi : PySem.W.findIn K (.ref C) "__init__" = some (some (.ref fTi)))
    (lTi : K.lookup fTi = some ⟨ocTi, odTi, .func (PySem.W.fnOf "__init__" "Temporal.__init__" (defArgs sTInit) (defBody sTInit) (defScope sTInit) .none kVTi dcTi pmTi anTi cdTi ctTi), slTi⟩)
    (cTi : PySem.W.codeIn K cdTi "Temporal.__init__" = true)
    (kTi : PySem.W.keepIn K (.ref fTi) = true)
    (iTi : PySem.W.isFn K (.ref fTi) = true)
    (aAn : PySem.W.findIn K (.ref C) "__and__" = some (some (.ref fAn)))
    (lAn : K.lookup fAn = some ⟨ocAn, odAn, .func (PySem.W.fnOf "__and__" "Temporal.__and__" (defArgs sAnd) (defBody sAnd) (defScope sAnd) .none kVAn dcAn pmAn anAn cdAn ctAn), slAn⟩)
    (cAn : PySem.W.codeIn K cdAn "Temporal.__and__" = true)
    (kAn : PySem.W.keepIn K (.ref fAn) = true)
    (iAn : PySem.W.isFn K (.ref fAn) = true)
    (aOr : PySem.W.findIn K (.ref C) "__or__" = some (some (.ref fOr)))
    (lOr : K.lookup fOr = some ⟨ocOr, odOr, .func (PySem.W.fnOf "__or__" "Temporal.__or__" (defArgs sOr) (defBody sOr) (defScope sOr) .none kVOr dcOr pmOr anOr cdOr ctOr), slOr⟩)
    (cOr : PySem.W.codeIn K cdOr "Temporal.__or__" = true)
    (kOr : PySem.W.keepIn K (.ref fOr) = true)
    (iOr : PySem.W.isFn K (.ref fOr) = true)
    (aIn : PySem.W.findIn K (.ref C) "__invert__" = some (some (.ref fIn)))
    (lIn : K.lookup fIn = some ⟨ocIn, odIn, .func (PySem.W.fnOf "__invert__" "Temporal.__invert__" (defArgs sInv) (defBody sInv) (defScope sInv) .none kVIn dcIn pmIn anIn cdIn ctIn), slIn⟩)
    (cIn : PySem.W.codeIn K cdIn "Temporal.__invert__" = true)
    (kIn : PySem.W.keepIn K (.ref fIn) = true)
    (iIn : PySem.W.isFn K (.ref fIn) = true)
    (aEq : PySem.W.findIn K (.ref C) "__eq__" = some (some (.ref fEq)))
    (lEq : K.lookup fEq = some ⟨ocEq, odEq, .func (PySem.W.fnOf "__eq__" "Temporal.__eq__" (defArgs sEqT) (defBody sEqT) (defScope sEqT) .none kVEq dcEq pmEq anEq cdEq ctEq), slEq⟩)
    (cEq : PySem.W.codeIn K cdEq "Temporal.__eq__" = true)
    (kEq : PySem.W.keepIn K (.ref fEq) = true)
    (iEq : PySem.W.isFn K (.ref fEq) = true)
    (aSt : PySem.W.findIn K (.ref C) "__str__" = some (some (.ref fSt)))
    (lSt : K.lookup fSt = some ⟨ocSt, odSt, .func (PySem.W.fnOf "__str__" "Temporal.__str__" (defArgs sStrT) (defBody sStrT) (defScope sStrT) .none kVSt dcSt pmSt anSt cdSt ctSt), slSt⟩)
    (cSt : PySem.W.codeIn K cdSt "Temporal.__str__" = true)
    (kSt : PySem.W.keepIn K (.ref fSt) = true)
    (iSt : PySem.W.isFn K (.ref fSt) = true)
    (ne : PySem.W.findIn K (.ref C) "__ne__" = some (some (.builtin "object.__ne__")))
    (rA : PySem.W.findIn K (.ref C) "__rand__" = some none)
    (rO : PySem.W.findIn K (.ref C) "__ror__" = some none)
    (c1 : PySem.W.readsIn K C mc = true)
    (c2 : PySem.W.specialIn K (.ref C) "__getattribute__" = some (some (.builtin "type.__getattribute__")))
    (c3 : PySem.W.findCls K (.ref C) mc "from_text" = some (.get (.builtin "classmethod.__get__") (.ref cm) .none (.ref C)))
    (c4 : PySem.W.recIn K cm "classmethod" = some (.ref fFr :: rest))
    (lFr : K.lookup fFr = some ⟨ocFr, odFr, .func (PySem.W.fnOf "from_text" "Temporal.from_text" (defArgs sFrom) (defBody sFrom) (defScope sFrom) .none kVFr dcFr pmFr anFr cdFr ctFr), slFr⟩)
    (cFr : PySem.W.codeIn K cdFr "Temporal.from_text" = true)
    (kFr : PySem.W.keepIn K (.ref fFr) = true)
    (c5 : PySem.W.fnIn K fFr = true)
    (aIE : PySem.W.nsIn K mainGlobals "is_event" = some (some (.ref fIE)))
    (lIE : K.lookup fIE = some ⟨ocIE, odIE, .func (PySem.W.fnOf "is_event" "is_event" (defArgs sIsEvent) (defBody sIsEvent) (defScope sIsEvent) .none kVIE dcIE pmIE anIE cdIE ctIE), slIE⟩)
    (cIE : PySem.W.codeIn K cdIE "is_event" = true)
    (kIE : PySem.W.keepIn K (.ref fIE) = true)
    (aPD : PySem.W.nsIn K mainGlobals "parts_due" = some (some (.ref fPD)))
    (lPD : K.lookup fPD = some ⟨ocPD, odPD, .func (PySem.W.fnOf "parts_due" "parts_due" (defArgs sPartsDue) (defBody sPartsDue) (defScope sPartsDue) .none kVPD dcPD pmPD anPD cdPD ctPD), slPD⟩)
    (cPD : PySem.W.codeIn K cdPD "parts_due" = true)
    (kPD : PySem.W.keepIn K (.ref fPD) = true)
    (aRD : PySem.W.nsIn K mainGlobals "temporal_in" = some (some (.ref fRD)))
    (lRD : K.lookup fRD = some ⟨ocRD, odRD, .func (PySem.W.fnOf "temporal_in" "temporal_in" (defArgs sRead) (defBody sRead) (defScope sRead) .none kVRD dcRD pmRD anRD cdRD ctRD), slRD⟩)
    (cRD : PySem.W.codeIn K cdRD "temporal_in" = true)
    (kRD : PySem.W.keepIn K (.ref fRD) = true)
    (aEV : PySem.W.nsIn K mainGlobals "events_of" = some (some (.ref fEV)))
    (lEV : K.lookup fEV = some ⟨ocEV, odEV, .func (PySem.W.fnOf "events_of" "events_of" (defArgs sEvents) (defBody sEvents) (defScope sEvents) .none kVEV dcEV pmEV anEV cdEV ctEV), slEV⟩)
    (cEV : PySem.W.codeIn K cdEV "events_of" = true)
    (kEV : PySem.W.keepIn K (.ref fEV) = true)
    (aPI : PySem.W.nsIn K mainGlobals "parts_in" = some (some (.ref fPI)))
    (lPI : K.lookup fPI = some ⟨ocPI, odPI, .func (PySem.W.fnOf "parts_in" "parts_in" (defArgs sPartsIn) (defBody sPartsIn) (defScope sPartsIn) .none kVPI dcPI pmPI anPI cdPI ctPI), slPI⟩)
    (cPI : PySem.W.codeIn K cdPI "parts_in" = true)
    (kPI : PySem.W.keepIn K (.ref fPI) = true)
    (aFO : PySem.W.nsIn K mainGlobals "first_ones" = some (some (.ref fFO)))
    (lFO : K.lookup fFO = some ⟨ocFO, odFO, .func (PySem.W.fnOf "first_ones" "first_ones" (defArgs sFirst) (defBody sFirst) (defScope sFirst) .none kVFO dcFO pmFO anFO cdFO ctFO), slFO⟩)
    (cFO : PySem.W.codeIn K cdFO "first_ones" = true)
    (kFO : PySem.W.keepIn K (.ref fFO) = true)
    (aPR : PySem.W.nsIn K mainGlobals "promises_of" = some (some (.ref fPR)))
    (lPR : K.lookup fPR = some ⟨ocPR, odPR, .func (PySem.W.fnOf "promises_of" "promises_of" (defArgs sProm) (defBody sProm) (defScope sProm) .none kVPR dcPR pmPR anPR cdPR ctPR), slPR⟩)
    (cPR : PySem.W.codeIn K cdPR "promises_of" = true)
    (kPR : PySem.W.keepIn K (.ref fPR) = true)
    (aME : PySem.W.nsIn K mainGlobals "memories_of" = some (some (.ref fME)))
    (lME : K.lookup fME = some ⟨ocME, odME, .func (PySem.W.fnOf "memories_of" "memories_of" (defArgs sMem) (defBody sMem) (defScope sMem) .none kVME dcME pmME anME cdME ctME), slME⟩)
    (cME : PySem.W.codeIn K cdME "memories_of" = true)
    (kME : PySem.W.keepIn K (.ref fME) = true)
    (aND : PySem.W.nsIn K mainGlobals "need_temporal" = some (some (.ref fND)))
    (lND : K.lookup fND = some ⟨ocND, odND, .func (PySem.W.fnOf "need_temporal" "need_temporal" (defArgs sNeed) (defBody sNeed) (defScope sNeed) (.ref nt) kVND dcND pmND anND cdND ctND), slND⟩)
    (cND : PySem.W.codeIn K cdND "need_temporal" = true)
    (kND : PySem.W.keepIn K (.ref fND) = true)
    (nd1 : K.lookup nt = some ⟨nc, no, .seq ni nn, ns_⟩)
    (nd2 : Vals [V.str "saying"] ni.toList)
    (ape : PySem.W.nsIn K mainGlobals "_law_pen" = some (some (.ref fpe)))
    (lpe : K.lookup fpe = some ⟨ocpe, odpe, .func (PySem.W.fnOf "_law_pen" "_law_pen" (defArgs sPen) (defBody sPen) (defScope sPen) .none kVpe dcpe pmpe anpe cdpe ctpe), slpe⟩)
    (cpe : PySem.W.codeIn K cdpe "_law_pen" = true)
    (kpe : PySem.W.keepIn K (.ref fpe) = true)
    (adr : PySem.W.nsIn K mainGlobals "_law_draw" = some (some (.ref fdr)))
    (ldr : K.lookup fdr = some ⟨ocdr, oddr, .func (PySem.W.fnOf "_law_draw" "_law_draw" (defArgs sDraw) (defBody sDraw) (defScope sDraw) .none kVdr dcdr pmdr andr cddr ctdr), sldr⟩)
    (cdr : PySem.W.codeIn K cddr "_law_draw" = true)
    (kdr : PySem.W.keepIn K (.ref fdr) = true)
    (api : PySem.W.nsIn K mainGlobals "_law_pick" = some (some (.ref fpi)))
    (lpi : K.lookup fpi = some ⟨ocpi, odpi, .func (PySem.W.fnOf "_law_pick" "_law_pick" (defArgs sPick) (defBody sPick) (defScope sPick) .none kVpi dcpi pmpi anpi cdpi ctpi), slpi⟩)
    (cpi : PySem.W.codeIn K cdpi "_law_pick" = true)
    (kpi : PySem.W.keepIn K (.ref fpi) = true)
    (aev : PySem.W.nsIn K mainGlobals "_law_event" = some (some (.ref fev)))
    (lev : K.lookup fev = some ⟨ocev, odev, .func (PySem.W.fnOf "_law_event" "_law_event" (defArgs sEvent) (defBody sEvent) (defScope sEvent) .none kVev dcev pmev anev cdev ctev), slev⟩)
    (cev : PySem.W.codeIn K cdev "_law_event" = true)
    (kev : PySem.W.keepIn K (.ref fev) = true)
    (amo : PySem.W.nsIn K mainGlobals "_law_model" = some (some (.ref fmo)))
    (lmo : K.lookup fmo = some ⟨ocmo, odmo, .func (PySem.W.fnOf "_law_model" "_law_model" (defArgs sModel) (defBody sModel) (defScope sModel) .none kVmo dcmo pmmo anmo cdmo ctmo), slmo⟩)
    (cmo : PySem.W.codeIn K cdmo "_law_model" = true)
    (kmo : PySem.W.keepIn K (.ref fmo) = true)
    (awo : PySem.W.nsIn K mainGlobals "_law_words" = some (some (.ref fwo)))
    (lwo : K.lookup fwo = some ⟨ocwo, odwo, .func (PySem.W.fnOf "_law_words" "_law_words" (defArgs sLWords) (defBody sLWords) (defScope sLWords) .none kVwo dcwo pmwo anwo cdwo ctwo), slwo⟩)
    (cwo : PySem.W.codeIn K cdwo "_law_words" = true)
    (kwo : PySem.W.keepIn K (.ref fwo) = true)
    (apa : PySem.W.nsIn K mainGlobals "_law_parts" = some (some (.ref fpa)))
    (lpa : K.lookup fpa = some ⟨ocpa, odpa, .func (PySem.W.fnOf "_law_parts" "_law_parts" (defArgs sLParts) (defBody sLParts) (defScope sLParts) .none kVpa dcpa pmpa anpa cdpa ctpa), slpa⟩)
    (cpa : PySem.W.codeIn K cdpa "_law_parts" = true)
    (kpa : PySem.W.keepIn K (.ref fpa) = true)
    (afi : PySem.W.nsIn K mainGlobals "_law_first" = some (some (.ref ffi)))
    (lfi : K.lookup ffi = some ⟨ocfi, odfi, .func (PySem.W.fnOf "_law_first" "_law_first" (defArgs sLFirst) (defBody sLFirst) (defScope sLFirst) .none kVfi dcfi pmfi anfi cdfi ctfi), slfi⟩)
    (cfi : PySem.W.codeIn K cdfi "_law_first" = true)
    (kfi : PySem.W.keepIn K (.ref ffi) = true)
    (ama : PySem.W.nsIn K mainGlobals "_law_made" = some (some (.ref fma)))
    (lma : K.lookup fma = some ⟨ocma, odma, .func (PySem.W.fnOf "_law_made" "_law_made" (defArgs sLMade) (defBody sLMade) (defScope sLMade) .none kVma dcma pmma anma cdma ctma), slma⟩)
    (cma : PySem.W.codeIn K cdma "_law_made" = true)
    (kma : PySem.W.keepIn K (.ref fma) = true)
    (ahe : PySem.W.nsIn K mainGlobals "_law_heard" = some (some (.ref fhe)))
    (lhe : K.lookup fhe = some ⟨oche, odhe, .func (PySem.W.fnOf "_law_heard" "_law_heard" (defArgs sHeard) (defBody sHeard) (defScope sHeard) .none kVhe dche pmhe anhe cdhe cthe), slhe⟩)
    (che : PySem.W.codeIn K cdhe "_law_heard" = true)
    (khe : PySem.W.keepIn K (.ref fhe) = true)
    (amn : PySem.W.nsIn K mainGlobals "_law_many" = some (some (.ref fmn)))
    (lmn : K.lookup fmn = some ⟨ocmn, odmn, .func (PySem.W.fnOf "_law_many" "_law_many" (defArgs sLMany) (defBody sLMany) (defScope sLMany) .none kVmn dcmn pmmn anmn cdmn ctmn), slmn⟩)
    (cmn : PySem.W.codeIn K cdmn "_law_many" = true)
    (kmn : PySem.W.keepIn K (.ref fmn) = true)
    (afa_ : PySem.W.nsIn K mainGlobals "_law_fault" = some (some (.ref ffa_)))
    (lfa_ : K.lookup ffa_ = some ⟨ocfa_, odfa_, .func (PySem.W.fnOf "_law_fault" "_law_fault" (defArgs sLFault) (defBody sLFault) (defScope sLFault) .none kVfa_ dcfa_ pmfa_ anfa_ cdfa_ ctfa_), slfa_⟩)
    (cfa_ : PySem.W.codeIn K cdfa_ "_law_fault" = true)
    (kfa_ : PySem.W.keepIn K (.ref ffa_) = true)
    (ato : PySem.W.nsIn K mainGlobals "_law_is_told" = some (some (.ref fto)))
    (lto : K.lookup fto = some ⟨octo, odto, .func (PySem.W.fnOf "_law_is_told" "_law_is_told" (defArgs sTold) (defBody sTold) (defScope sTold) .none kVto dcto pmto anto cdto ctto), slto⟩)
    (cto : PySem.W.codeIn K cdto "_law_is_told" = true)
    (kto : PySem.W.keepIn K (.ref fto) = true)
    (ali : PySem.W.nsIn K mainGlobals "_law_lists_right" = some (some (.ref fli)))
    (lli : K.lookup fli = some ⟨ocli, odli, .func (PySem.W.fnOf "_law_lists_right" "_law_lists_right" (defArgs sLists) (defBody sLists) (defScope sLists) .none kVli dcli pmli anli cdli ctli), slli⟩)
    (cli : PySem.W.codeIn K cdli "_law_lists_right" = true)
    (kli : PySem.W.keepIn K (.ref fli) = true)
    (abe : PySem.W.nsIn K mainGlobals "_law_bent" = some (some (.ref fbe)))
    (lbe : K.lookup fbe = some ⟨ocbe, odbe, .func (PySem.W.fnOf "_law_bent" "_law_bent" (defArgs sBent) (defBody sBent) (defScope sBent) .none kVbe dcbe pmbe anbe cdbe ctbe), slbe⟩)
    (cbe : PySem.W.codeIn K cdbe "_law_bent" = true)
    (kbe : PySem.W.keepIn K (.ref fbe) = true)
    (ala : PySem.W.nsIn K mainGlobals "law" = some (some (.ref fla)))
    (lla : K.lookup fla = some ⟨ocla, odla, .func (PySem.W.fnOf "law" "law" (defArgs sLaw) (defBody sLaw) (defScope sLaw) .none kVla dcla pmla anla cdla ctla), slla⟩)
    (cla : PySem.W.codeIn K cdla "law" = true)
    (kla : PySem.W.keepIn K (.ref fla) = true)
    (air : PySem.W.nsIn K mainGlobals "_law_is_read" = some (some (.ref fir)))
    (lir : K.lookup fir = some ⟨ocir, odir, .func (PySem.W.fnOf "_law_is_read" "_law_is_read" (defArgs sIsRead) (defBody sIsRead) (defScope sIsRead) .none kVir dcir pmir anir (.ref ccir) ctir), slir⟩)
    (cir : PySem.W.codeIn K (.ref ccir) "_law_is_read" = true)
    (kir : PySem.W.keepIn K (.ref fir) = true)
    (q1ir : K.lookup ccir = some ⟨.type "code", coir, .fields cvir, csir⟩)
    (q2ir : cvir[11]? = some (.ref Pir))
    (q3ir : PySem.W.codeHdIn K ccir Pir = true)
    (q4ir : K.lookup Pir = none)
    (q5ir : Pir ∈ ts)
    (arf : PySem.W.nsIn K mainGlobals "_law_refused_right" = some (some (.ref frf)))
    (lrf : K.lookup frf = some ⟨ocrf, odrf, .func (PySem.W.fnOf "_law_refused_right" "_law_refused_right" (defArgs sRefused) (defBody sRefused) (defScope sRefused) .none kVrf dcrf pmrf anrf (.ref ccrf) ctrf), slrf⟩)
    (crf : PySem.W.codeIn K (.ref ccrf) "_law_refused_right" = true)
    (krf : PySem.W.keepIn K (.ref frf) = true)
    (q1rf : K.lookup ccrf = some ⟨.type "code", corf, .fields cvrf, csrf⟩)
    (q2rf : cvrf[11]? = some (.ref Prf))
    (q3rf : PySem.W.codeHdIn K ccrf Prf = true)
    (q4rf : K.lookup Prf = none)
    (q5rf : Prf ∈ ts)
    (alo : PySem.W.nsIn K mainGlobals "_law_long_right" = some (some (.ref flo)))
    (llo : K.lookup flo = some ⟨oclo, odlo, .func (PySem.W.fnOf "_law_long_right" "_law_long_right" (defArgs sLong) (defBody sLong) (defScope sLong) .none kVlo dclo pmlo anlo (.ref cclo) ctlo), sllo⟩)
    (clo : PySem.W.codeIn K (.ref cclo) "_law_long_right" = true)
    (klo : PySem.W.keepIn K (.ref flo) = true)
    (q1lo : K.lookup cclo = some ⟨.type "code", colo, .fields cvlo, cslo⟩)
    (q2lo : cvlo[11]? = some (.ref Plo))
    (q3lo : PySem.W.codeHdIn K cclo Plo = true)
    (q4lo : K.lookup Plo = none)
    (q5lo : Plo ∈ ts)
    (dA : Pir ≠ Prf)
    (dB : Pir ≠ Plo)
    (dC : Prf ≠ Plo)
    (hT : ∀ P ∈ ts, h.get? P = some (PySem.W.tabObj #[])) : LawG l w K CX0 15 63 "script" mg fa h := by
  have e := hfa.symm.trans (PySem.W.mg_of X G ala)
  cases e
  have FIE := fun_mk (st := sIsEvent) lIE cIE kIE
  have FPD := fun_mk (st := sPartsDue) lPD cPD kPD
  have FRD := fun_mk (st := sRead) lRD cRD kRD
  have FEV := fun_mk (st := sEvents) lEV cEV kEV
  have FPI := fun_mk (st := sPartsIn) lPI cPI kPI
  have FFO := fun_mk (st := sFirst) lFO cFO kFO
  have FPR := fun_mk (st := sProm) lPR cPR kPR
  have FME := fun_mk (st := sMem) lME cME kME
  have Fpe := fun_mk (st := sPen) lpe cpe kpe
  have Fdr := fun_mk (st := sDraw) ldr cdr kdr
  have Fpi := fun_mk (st := sPick) lpi cpi kpi
  have Fev := fun_mk (st := sEvent) lev cev kev
  have Fmo := fun_mk (st := sModel) lmo cmo kmo
  have Fwo := fun_mk (st := sLWords) lwo cwo kwo
  have Fpa := fun_mk (st := sLParts) lpa cpa kpa
  have Ffi := fun_mk (st := sLFirst) lfi cfi kfi
  have Fma := fun_mk (st := sLMade) lma cma kma
  have Fhe := fun_mk (st := sHeard) lhe che khe
  have Fmn := fun_mk (st := sLMany) lmn cmn kmn
  have Ffa_ := fun_mk (st := sLFault) lfa_ cfa_ kfa_
  have Fto := fun_mk (st := sTold) lto cto kto
  have Fli := fun_mk (st := sLists) lli cli kli
  have Fbe := fun_mk (st := sBent) lbe cbe kbe
  have Fla := fun_mk (st := sLaw) lla cla kla
  have FTi := fun_mk (st := sTInit) lTi cTi kTi
  have FAn := fun_mk (st := sAnd) lAn cAn kAn
  have FOr := fun_mk (st := sOr) lOr cOr kOr
  have FIn := fun_mk (st := sInv) lIn cIn kIn
  have FEq := fun_mk (st := sEqT) lEq cEq kEq
  have FSt := fun_mk (st := sStrT) lSt cSt kSt
  have FFr := fun_mk (st := sFrom) lFr cFr kFr
  have FIBT := fun_mk (st := sBT) lIBT cIBT kIBT
  have FIBX := fun_mk (st := sBX) lIBX cIBX kIBX
  have FITM := fun_mk (st := sTM) lITM cITM kITM
  have bPD := FPD.binds (ps := ["word"]) fun _ _ _ _ _ _ us hl => match us, hl with | [_], _ => rfl
  have bIE := FIE.binds (ps := ["value"]) fun _ _ _ _ _ _ us hl => match us, hl with | [_], _ => rfl
  have bRD := FRD.binds (ps := ["text"]) fun _ _ _ _ _ _ us hl => match us, hl with | [_], _ => rfl
  have bEV := FEV.binds (ps := ["saying"]) fun _ _ _ _ _ _ us hl => match us, hl with | [_], _ => rfl
  have bPI := FPI.binds (ps := ["saying"]) fun _ _ _ _ _ _ us hl => match us, hl with | [_], _ => rfl
  have bFO := FFO.binds (ps := ["saying", "words"]) fun _ _ _ _ _ _ us hl => match us, hl with | [_, _], _ => rfl
  have bPR := FPR.binds (ps := ["saying"]) fun _ _ _ _ _ _ us hl => match us, hl with | [_], _ => rfl
  have bME := FME.binds (ps := ["saying"]) fun _ _ _ _ _ _ us hl => match us, hl with | [_], _ => rfl
  have bpe := Fpe.binds (ps := ["script"]) fun _ _ _ _ _ _ us hl => match us, hl with | [_], _ => rfl
  have bdr := Fdr.binds (ps := ["pen", "many"]) fun _ _ _ _ _ _ us hl => match us, hl with | [_, _], _ => rfl
  have bpi := Fpi.binds (ps := ["pen", "some"]) fun _ _ _ _ _ _ us hl => match us, hl with | [_, _], _ => rfl
  have bev := Fev.binds (ps := ["pen"]) fun _ _ _ _ _ _ us hl => match us, hl with | [_], _ => rfl
  have bmo := Fmo.binds (ps := ["pen", "deep"]) fun _ _ _ _ _ _ us hl => match us, hl with | [_, _], _ => rfl
  have bwo := Fwo.binds (ps := ["model"]) fun _ _ _ _ _ _ us hl => match us, hl with | [_], _ => rfl
  have bpa := Fpa.binds (ps := ["model"]) fun _ _ _ _ _ _ us hl => match us, hl with | [_], _ => rfl
  have bfi := Ffi.binds (ps := ["model", "heads"]) fun _ _ _ _ _ _ us hl => match us, hl with | [_, _], _ => rfl
  have bma := Fma.binds (ps := ["model"]) fun _ _ _ _ _ _ us hl => match us, hl with | [_], _ => rfl
  have bmn := Fmn.binds (ps := ["word"]) fun _ _ _ _ _ _ us hl => match us, hl with | [_], _ => rfl
  have bfa_ := Ffa_.binds (ps := ["words"]) fun _ _ _ _ _ _ us hl => match us, hl with | [_], _ => rfl
  have bto := Fto.binds (ps := ["made", "model"]) fun _ _ _ _ _ _ us hl => match us, hl with | [_, _], _ => rfl
  have bli := Fli.binds (ps := ["made", "model"]) fun _ _ _ _ _ _ us hl => match us, hl with | [_, _], _ => rfl
  have bbe := Fbe.binds (ps := ["pen", "words"]) fun _ _ _ _ _ _ us hl => match us, hl with | [_, _], _ => rfl
  have bhe := Fhe.binds (ps := ["ask"]) fun _ _ _ _ _ _ us hl => match us, hl with | [_], _ => rfl
  have bAn := FAn.binds (ps := ["self", "other"]) fun _ _ _ _ _ _ us hl => match us, hl with | [_, _], _ => rfl
  have bOr := FOr.binds (ps := ["self", "other"]) fun _ _ _ _ _ _ us hl => match us, hl with | [_, _], _ => rfl
  have bIn := FIn.binds (ps := ["self"]) fun _ _ _ _ _ _ us hl => match us, hl with | [_], _ => rfl
  have bEq := FEq.binds (ps := ["self", "other"]) fun _ _ _ _ _ _ us hl => match us, hl with | [_, _], _ => rfl
  have bSt := FSt.binds (ps := ["self"]) fun _ _ _ _ _ _ us hl => match us, hl with | [_], _ => rfl
  have bFr := FFr.binds (ps := ["cls", "text"]) fun _ _ _ _ _ _ us hl => match us, hl with | [_, _], _ => rfl
  have bIBT := FIBT.binds (ps := ["self", "part"]) fun _ _ _ _ _ _ us hl => match us, hl with | [_, _], _ => rfl
  have bIBX := FIBX.binds (ps := ["self", "line", "word"]) fun _ _ _ _ _ _ us hl => match us, hl with | [_, _, _], _ => rfl
  have bITM := FITM.binds (ps := ["self", "what", "most"]) fun _ _ _ _ _ _ us hl => match us, hl with | [_, _, _], _ => rfl
  have mIE := PySem.W.mg_of X G aIE
  have mPD := PySem.W.mg_of X G aPD
  have mRD := PySem.W.mg_of X G aRD
  have mEV := PySem.W.mg_of X G aEV
  have mPI := PySem.W.mg_of X G aPI
  have mFO := PySem.W.mg_of X G aFO
  have mPR := PySem.W.mg_of X G aPR
  have mME := PySem.W.mg_of X G aME
  have mpe := PySem.W.mg_of X G ape
  have mdr := PySem.W.mg_of X G adr
  have mpi := PySem.W.mg_of X G api
  have mev := PySem.W.mg_of X G aev
  have mmo := PySem.W.mg_of X G amo
  have mwo := PySem.W.mg_of X G awo
  have mpa := PySem.W.mg_of X G apa
  have mfi := PySem.W.mg_of X G afi
  have mma := PySem.W.mg_of X G ama
  have mhe := PySem.W.mg_of X G ahe
  have mmn := PySem.W.mg_of X G amn
  have mfa_ := PySem.W.mg_of X G afa_
  have mto := PySem.W.mg_of X G ato
  have mli := PySem.W.mg_of X G ali
  have mbe := PySem.W.mg_of X G abe
  have mla := PySem.W.mg_of X G ala
  have mir := PySem.W.mg_of X G air
  have mrf := PySem.W.mg_of X G arf
  have mlo := PySem.W.mg_of X G alo
  have mND := PySem.W.mg_of X G aND
  have o_isinstance := PySem.W.mg_none_of X G z_isinstance
  have o_str := PySem.W.mg_none_of X G z_str
  have o_len := PySem.W.mg_none_of X G z_len
  have o_all := PySem.W.mg_none_of X G z_all
  have o_int := PySem.W.mg_none_of X G z_int
  have o_abs := PySem.W.mg_none_of X G z_abs
  have o_list := PySem.W.mg_none_of X G z_list
  have o_range := PySem.W.mg_none_of X G z_range
  have o_enumerate := PySem.W.mg_none_of X G z_enumerate
  have o_tuple := PySem.W.mg_none_of X G z_tuple
  have o_sorted := PySem.W.mg_none_of X G z_sorted
  have o_repr := PySem.W.mg_none_of X G z_repr
  have o_reversed := PySem.W.mg_none_of X G z_reversed
  have T : TC K mg C := ⟨⟨pg, hd, po, sa⟩, ha, oc1, oc2, hm, na_word, na_parts, na_words, kT, kn_NoneType, kn_bool, kn_int, kn_str, kn_list, kn_tuple, kn_dict, kc_str, kc_tuple, PySem.W.mg_of X G t1, o_isinstance, o_str, o_len, o_all⟩
  have TDr : TDraw K mg := ⟨o_int, o_len, o_abs, o_list⟩
  have R : TR mg := ⟨o_enumerate, o_range⟩
  have Gf : TFi mg := ⟨o_tuple, o_sorted, o_list⟩
  have D : MP K w mg d := mp_of (PySem.W.mg_of X G d1) d2 d3 d4
  have UP : TupK K mg "PROMISES" hsP := tupK_of (PySem.W.mg_of X G u1P) u2P (by decide) u3P
  have UQ : TupK K mg "MEMORIES" hsM := tupK_of (PySem.W.mg_of X G u1Q) u2Q (by decide) u3Q
  have ocBT : OexC K BT := ⟨⟨_, _, _, _, _, _, _, _, _, _, _, _, _, _, _, e2BT, e3BT⟩, e4BT, e5BT, e6BT, e7BT⟩
  have exBT : ExK K BT := ⟨x1BT, x2BT, e5BT, x3BT, x4BT, oc1, oc2, x5BT⟩
  have ocBX : OexC K BX := ⟨⟨_, _, _, _, _, _, _, _, _, _, _, _, _, _, _, e2BX, e3BX⟩, e4BX, e5BX, e6BX, e7BX⟩
  have exBX : ExK K BX := ⟨x1BX, x2BX, e5BX, x3BX, x4BX, oc1, oc2, x5BX⟩
  have ocTM : OexC K TM := ⟨⟨_, _, _, _, _, _, _, _, _, _, _, _, _, _, _, e2TM, e3TM⟩, e4TM, e5TM, e6TM, e7TM⟩
  have exTM : ExK K TM := ⟨x1TM, x2TM, e5TM, x3TM, x4TM, oc1, oc2, x5TM⟩
  have H : TH K mg SE BT BX TM := ⟨PySem.W.mg_of X G se, PySem.W.mg_of X G e1BT, PySem.W.mg_of X G e1BX, PySem.W.mg_of X G e1TM, o_isinstance, exBT, exBX, exTM, x6BT, x6BX, x6TM, x7BT, x7BX, x7TM, ytt, ytx, ytq, yxt, yxx, yxq, yqt, yqx, yqq, n0BT, n0BX, n1BX, n0TM, n1TM⟩
  have Hd : HdOk K mg SE BT BX TM := ⟨H, fhe, _, Fhe, mhe, bhe⟩
  have gSs : ∃ t, mg "SIGNS" = some (.str signs t) := ⟨tS, PySem.W.mg_of X G gS⟩
  have gMs : ∃ t, mg "MOST_SIGNS" = some (.int 24 t) := ⟨tM, PySem.W.mg_of X G gM⟩
  have gWs : ∃ t, mg "MOST_WORDS" = some (.int 40 t) := ⟨tW, PySem.W.mg_of X G gW⟩
  have dnT : ∀ t ∈ knTs, PySem.W.subIn K (.type t) (.ref C) = some false := by
    intro t ht
    simp only [knTs, List.mem_cons, List.not_mem_nil, or_false] at ht
    rcases ht with rfl | rfl | rfl | rfl | rfl | rfl | rfl
    all_goals assumption
  have upT : ∀ t ∈ knTs, PySem.W.mroIn K C (.type t) = some false := by
    intro t ht
    simp only [knTs, List.mem_cons, List.not_mem_nil, or_false] at ht
    rcases ht with rfl | rfl | rfl | rfl | rfl | rfl | rfl
    all_goals assumption
  have TQq : TQ K C fEq := ⟨aEq, iEq, ne, hm, upT, dnT⟩
  have TBa : TB K C fAn .BitAnd := ⟨sf, aAn, iAn, rA, dnT⟩
  have TBo : TB K C fOr .BitOr := ⟨sf, aOr, iOr, rO, dnT⟩
  have Lir : FunL K "_law_is_read" sIsRead fir _ ccir := ⟨⟨_, _, _, _, _, _, _, _, rfl, lir, cir⟩, kir⟩
  have Lrf : FunL K "_law_refused_right" sRefused frf _ ccrf := ⟨⟨_, _, _, _, _, _, _, _, rfl, lrf, crf⟩, krf⟩
  have Llo : FunL K "_law_long_right" sLong flo _ cclo := ⟨⟨_, _, _, _, _, _, _, _, rfl, llo, clo⟩, klo⟩
  have bir : Binds K (PySem.W.fnOf "_law_is_read" "_law_is_read" (defArgs sIsRead) (defBody sIsRead) (defScope sIsRead) .none kVir dcir pmir anir (.ref ccir) ctir) ["words"] [] := .all fun us hl => match us, hl with | [_], _ => rfl
  have brf : Binds K (PySem.W.fnOf "_law_refused_right" "_law_refused_right" (defArgs sRefused) (defBody sRefused) (defScope sRefused) .none kVrf dcrf pmrf anrf (.ref ccrf) ctrf) ["pen", "made", "model"] [] := .all fun us hl => match us, hl with | [_, _, _], _ => rfl
  have blo : Binds K (PySem.W.fnOf "_law_long_right" "_law_long_right" (defArgs sLong) (defBody sLong) (defScope sLong) .none kVlo dclo pmlo anlo (.ref cclo) ctlo) ["pen", "model"] [] := .all fun us hl => match us, hl with | [_, _], _ => rfl
  have FND : FunD K "need_temporal" "need_temporal" (defArgs sNeed) (defBody sNeed) (defScope sNeed) [.str "saying"] [] fND _ := ⟨⟨_, _, _, _, _, _, _, _, _, _, rfl, lND, cND, .inr ⟨by simp, nt, _, ni.toList, nn, rfl, nd1, by rw [Array.toArray_toList], nd2⟩, .inl rfl⟩, kND⟩
  let cs : List (Addr × Addr) := [(ccir, Pir), (ccrf, Prf), (cclo, Plo)]
  let TT : List (Addr × Str) := [(Pir, qLam "_law_is_read"), (Prf, qLam "_law_refused_right"), (Plo, qLam "_law_long_right")]
  have csE : ∀ {Z : Addr × Addr → Prop}, Z (ccir, Pir) → Z (ccrf, Prf) → Z (cclo, Plo) → ∀ p ∈ cs, Z p := fun h1 h2 h3 p hp => by
    rcases List.mem_cons.mp hp with rfl | hp
    · exact h1
    · rcases List.mem_cons.mp hp with rfl | hp
      · exact h2
      · rw [List.mem_singleton.mp hp]; exact h3
  have ttE : ∀ {Z : Addr × Str → Prop}, Z (Pir, qLam "_law_is_read") → Z (Prf, qLam "_law_refused_right") → Z (Plo, qLam "_law_long_right") → ∀ p ∈ TT, Z p := fun h1 h2 h3 p hp => by
    rcases List.mem_cons.mp hp with rfl | hp
    · exact h1
    · rcases List.mem_cons.mp hp with rfl | hp
      · exact h2
      · rw [List.mem_singleton.mp hp]; exact h3
  refine ⟨PySem.W.fnOf "law" "law" (defArgs sLaw) (defBody sLaw) (defScope sLaw) .none kVla dcla pmla anla cdla ctla, cs, spLaw K TT, csE (hT _ q5ir) (hT _ q5rf) (hT _ q5lo), csE q4ir q4rf q4lo, csE (PySem.W.codeHd_of_K X q3ir) (PySem.W.codeHd_of_K X q3rf) (PySem.W.codeHd_of_K X q3lo), fun s u => .of_eq rfl, fun Hh a ns _ _ ht hs => ⟨a, ns, fun _ => none, rfl, (fun _ _ z => nomatch z), hs, ?_, fun _ _ => rfl, fun _ => rfl⟩, fun base KB GB TBs => ?_⟩
  · exact ttE (TabS.nil (ht (ccir, Pir) (.head _))) (TabS.nil (ht (ccrf, Prf) (.tail _ (.head _)))) (TabS.nil (ht (cclo, Plo) (.tail _ (.tail _ (.head _)))))
  have tir := TBs (ccir, Pir) (.head _)
  have trf := TBs (ccrf, Prf) (.tail _ (.head _))
  have tlo := TBs (cclo, Plo) (.tail _ (.tail _ (.head _)))
  have cDr : C8.Cal l.prog w K mg base 1 "_law_draw" spDraw [] := ⟨fdr, _, _, _, ok_draw Fdr TDr, mdr, kdr, bdr, .nil⟩
  have cPi : C8.Cal l.prog w K mg base 2 "_law_pick" spPick [] := ⟨fpi, _, _, _, ok_pick Fpi TDr (ok_draw Fdr TDr) mdr kdr bdr, mpi, kpi, bpi, .nil⟩
  have cEv : C8.Cal l.prog w K mg base 3 "_law_event" spEvent [] := ⟨fev, _, _, _, ok_event Fev o_range cDr cPi, mev, kev, bev, .nil⟩
  have cMo : ∀ d, C8.Cal l.prog w K mg base (d + 4) "_law_model" (spModel d) [] := fun d => ⟨fmo, _, _, _, ok_model Fmo bmo mmo cDr cPi cEv d, mmo, kmo, bmo, .nil⟩
  have cIE : C8.Cal l.prog w K mg base 1 "is_event" (spIsEvent C) [] := ⟨fIE, _, _, _, ok_isEvent FIE T gSs gMs, mIE, kIE, bIE, .nil⟩
  have cPD : C8.Cal l.prog w K mg base 2 "parts_due" (spPartsDue C) [] := ⟨fPD, _, _, _, ok_partsDue FPD T D cIE, mPD, kPD, bPD, .nil⟩
  have eBT : Err l.prog w K mg base "BadTemporal" BT 1 (mk1 "part") := ⟨fIBT, _, _, ⟨ocBT, aIBT, e8BT, PySem.W.mg_of X G e1BT⟩, ok_BT FIBT ocBT n0BT, bIBT⟩
  have eBX : Err l.prog w K mg base "BadText" BX 2 (mk2 "line" "word") := ⟨fIBX, _, _, ⟨ocBX, aIBX, e8BX, PySem.W.mg_of X G e1BX⟩, ok_BX FIBX ocBX n0BX n1BX, bIBX⟩
  have eTM : Err l.prog w K mg base "TooMany" TM 2 (mk2 "what" "most") := ⟨fITM, _, _, ⟨ocTM, aITM, e8TM, PySem.W.mg_of X G e1TM⟩, ok_TM FITM ocTM n0TM n1TM, bITM⟩
  have Tm : TmOk l.prog w K mg base C BT TM := ⟨T, fTi, ⟨mk, aTi, iTi, kC⟩, ok_tinit FTi T cPD eBT eTM gWs, ok_tinitK FTi T cPD eBT eTM gWs⟩
  have BA : BinOk l.prog w K mg base C BT TM .BitAnd "AND" := ⟨fAn, _, TBa, ok_and FAn Tm, bAn⟩
  have BO : BinOk l.prog w K mg base C BT TM .BitOr "OR" := ⟨fOr, _, TBo, ok_or FOr Tm, bOr⟩
  have IV : InvOk l.prog w K mg base C BT TM := ⟨fIn, _, aIn, iIn, ok_inv FIn Tm, bIn⟩
  have EQ : EqOk l.prog w K mg base C := ⟨fEq, _, TQq, ok_eqT FEq T, bEq⟩
  have ST : StrOk l.prog w K mg base C := ⟨fSt, _, aSt, iSt, ok_strT FSt T, bSt⟩
  have cRD : CalX l.prog w K mg base 5 "temporal_in" (spRead C BX TM) [] := ⟨fRD, _, _, _, ok_read FRD T R Tm cPD eBX eTM gWs, mRD, kRD, bRD, .nil⟩
  have FR : FrOk l.prog w K mg base C BX TM := ⟨mc, cm, fFr, _, ⟨c1, c2⟩, ⟨c3, ⟨rest, c4⟩, c5⟩, ok_from FFr cRD, bFr, fun s u => .of_eq rfl⟩
  obtain ⟨dsN, vN, bN⟩ := FND.binds1 (ps := ["value", "part"]) 1 0 (by simp) rfl fun _ _ _ _ _ _ _ us its h1 h2 => match us, its, h1, h2 with | [_], [_], _, _ => ⟨_, rfl, rfl⟩
  have cND : CalX l.prog w K mg base 3 "need_temporal" (spNeed C BT) [.str "saying"] := ⟨fND, _, _, _, ok_need FND T eBT, mND, kND, bN, vN⟩
  have cPI : C8.Cal l.prog w K mg base 5 "parts_in" (spPartsIn C 4) [] := ⟨fPI, _, _, _, ok_partsIn FPI T bPI mPI 4, mPI, kPI, bPI, .nil⟩
  have cFO : C8.Cal l.prog w K mg base 6 "first_ones" (spFirst K C 4) [] := ⟨fFO, _, _, _, ok_first FFO T Gf cPI, mFO, kFO, bFO, .nil⟩
  have gPR := ok_prom (P := l.prog) (w := w) (base := base) (BT := BT) FPR UP cND cFO
  have gME := ok_mem (P := l.prog) (w := w) (base := base) (BT := BT) FME UQ cND cFO
  have gEV := ok_events (P := l.prog) (w := w) (base := base) (BT := BT) FEV T Gf cND cIE
  have cPR : CalX l.prog w K mg base 8 "promises_of" (spHeads C BT hsP 4) [] := ⟨fPR, _, _, _, gPR, mPR, kPR, bPR, .nil⟩
  have cME : CalX l.prog w K mg base 8 "memories_of" (spHeads C BT hsM 4) [] := ⟨fME, _, _, _, gME, mME, kME, bME, .nil⟩
  have cEV : CalX l.prog w K mg base 4 "events_of" (spEvents C BT) [] := ⟨fEV, _, _, _, gEV, mEV, kEV, bEV, .nil⟩
  have wPR : CalK l.prog w K mg base 8 "promises_of" "saying" (spHeads C BT hsP 4) := ⟨fPR, _, gPR, mPR, kPR, fun s u => .of_eq rfl⟩
  have wME : CalK l.prog w K mg base 8 "memories_of" "saying" (spHeads C BT hsM 4) := ⟨fME, _, gME, mME, kME, fun s u => .of_eq rfl⟩
  have wEV : CalK l.prog w K mg base 4 "events_of" "saying" (spEvents C BT) := ⟨fEV, _, gEV, mEV, kEV, fun s u => .of_eq rfl⟩
  have cWo : C8.Cal l.prog w K mg base 5 "_law_words" (spLWords 4) [] := ⟨fwo, _, _, _, ok_lwords Fwo bwo mwo 4, mwo, kwo, bwo, .nil⟩
  have cPa : C8.Cal l.prog w K mg base 5 "_law_parts" (spLParts 4) [] := ⟨fpa, _, _, _, ok_lparts Fpa bpa mpa 4, mpa, kpa, bpa, .nil⟩
  have cFi : C8.Cal l.prog w K mg base 6 "_law_first" (spLFirst 4) [] := ⟨ffi, _, _, _, ok_lfirst Ffi cPa cWo, mfi, kfi, bfi, .nil⟩
  have cMa : C8.Cal l.prog w K mg base 9 "_law_made" (spLMade C 4) [] := ⟨fma, _, _, _, ok_lmade Fma T Tm bma mma 4, mma, kma, bma, .nil⟩
  have cMn : C8.Cal l.prog w K mg base 1 "_law_many" spLMany [] := ⟨fmn, _, _, _, ok_lmany Fmn T, mmn, kmn, bmn, .nil⟩
  have cFa : C8.Cal l.prog w K mg base 2 "_law_fault" spLFault [] := ⟨ffa_, _, _, _, ok_lfault Ffa_ T R cMn, mfa_, kfa_, bfa_, .nil⟩
  have cPe : C8.Cal l.prog w K mg base 1 "_law_pen" (spLPen K) [] := ⟨fpe, _, _, _, ok_lpen Fpe Gf, mpe, kpe, bpe, .nil⟩
  have cBe : C8.Cal l.prog w K mg base 3 "_law_bent" spBent [] := ⟨fbe, _, _, _, ok_bent Fbe T cDr cPi, mbe, kbe, bbe, .nil⟩
  have cTo : CalG l.prog w K mg base 13 "_law_is_told" (spTold C 4) [] := ⟨fto, _, _, _, ok_told (e := 4) Fto T R Gf o_repr ST cWo bto mto 4 (Nat.le_refl _), mto, kto, bto, .nil⟩
  have cLi : CalG l.prog w K mg base 14 "_law_lists_right" (spLists C) [] := ⟨fli, _, _, _, ok_lists (BT := BT) Fli T R Gf o_repr cWo cMn cFi wEV wPR wME cTo, mli, kli, bli, .nil⟩
  have cIr : CalG l.prog w K mg base 9 "_law_is_read" (spIsRead TT Pir) [] := ⟨fir, _, _, _, ok_isRead Lir tir (.head _) (ttE (fun _ => rfl) (fun z => absurd z.symm dA) (fun z => absurd z.symm dB)) T Gf o_repr ST FR Hd cFa, mir, kir, bir, .nil⟩
  have cRf : CalG l.prog w K mg base 12 "_law_refused_right" (spRefused C TT) [] := ⟨frf, _, _, _, ok_refused Lrf trf (.tail _ (.head _)) (ttE (fun z => absurd z dA) (fun _ => rfl) (fun z => absurd z.symm dC)) T Tm FR BA BO EQ Hd cPi cPR cME cEV, mrf, krf, brf, .nil⟩
  have cLo : CalG l.prog w K mg base 10 "_law_long_right" (spLong TT) [] := ⟨flo, _, _, _, ok_long Llo tlo (.tail _ (.tail _ (.head _))) (ttE (fun z => absurd z dB) (fun z => absurd z dC) (fun _ => rfl)) (.head _) T Gf R o_reversed Tm FR BA EQ Hd cWo cMa cPi cIr, mlo, klo, blo, .nil⟩
  exact ok_law (.head _) Fla T R EQ BA BO IV cPe (cMo 4) (cMo 2) cMa cWo cTo cLi cIr cBe cRf cLo
end Tm
open PySem PySem.W PyProof.Rows
set_option maxHeartbeats 0 in
open_top Tm.hd for PySem.Challenge.rw_longshares_k76_temporal_sayings
open PySem PySem.W PyProof.Rows
set_option maxRecDepth 100000 in
set_option maxHeartbeats 0 in
theorem PySem.Challenge.cw_longshares_k76_temporal_sayings_holds : PySem.Challenge.rw_longshares_k76_temporal_sayings.Holds := by
  refine Tm.hd ?_
  k_fill
  refine Tm.walk_G (l := PySem.Challenge.rw_longshares_k76_temporal_sayings) (n := 63) (k := 15) (x := "script") (CX := fun _ => L2.CX0) rfl (by decide) rfl ⟨rfl, by decide, by decide⟩ (fun w h Y => PySem.W.km_in_of Y) ?F (fun _ _ _ _ _ z => z)
  case F =>
    intro w mg fa h Y KX G hmg
    refine' Tm.all_mk KX G hmg ?z_isinstance ?z_str ?z_len ?z_all ?z_int ?z_abs ?z_list ?z_range ?z_enumerate ?z_tuple ?z_sorted ?z_repr ?z_reversed ?gS ?gM ?gW ?u1P ?u2P ?u3P ?u1Q ?u2Q ?u3Q ?d1 ?d2 ?d3 ?d4 ?se ?e1BT ?e2BT ?e3BT ?e4BT ?e5BT ?e6BT ?e7BT ?aIBT ?lIBT ?cIBT ?kIBT ?e8BT ?n0BT ?x1BT ?x2BT ?x3BT ?x4BT ?x5BT ?x6BT ?x7BT ?e1BX ?e2BX ?e3BX ?e4BX ?e5BX ?e6BX ?e7BX ?aIBX ?lIBX ?cIBX ?kIBX ?e8BX ?n0BX ?n1BX ?x1BX ?x2BX ?x3BX ?x4BX ?x5BX ?x6BX ?x7BX ?e1TM ?e2TM ?e3TM ?e4TM ?e5TM ?e6TM ?e7TM ?aITM ?lITM ?cITM ?kITM ?e8TM ?n0TM ?n1TM ?x1TM ?x2TM ?x3TM ?x4TM ?x5TM ?x6TM ?x7TM ?ytt ?ytx ?ytq ?yxt ?yxx ?yxq ?yqt ?yqx ?yqq ?oc1 ?oc2 ?t1 ?pg ?hd ?po ?sa ?ha ?hm ?na_word ?na_parts ?na_words ?kT ?kn_NoneType ?kn_bool ?kn_int ?kn_str ?kn_list ?kn_tuple ?kn_dict ?kc_str ?kc_tuple ?up_NoneType ?dn_NoneType ?up_bool ?dn_bool ?up_int ?dn_int ?up_str ?dn_str ?up_list ?dn_list ?up_tuple ?dn_tuple ?up_dict ?dn_dict ?mk ?kC ?sf ?aTi ?lTi ?cTi ?kTi ?iTi ?aAn ?lAn ?cAn ?kAn ?iAn ?aOr ?lOr ?cOr ?kOr ?iOr ?aIn ?lIn ?cIn ?kIn ?iIn ?aEq ?lEq ?cEq ?kEq ?iEq ?aSt ?lSt ?cSt ?kSt ?iSt ?ne ?rA ?rO ?c1 ?c2 ?c3 ?c4 ?lFr ?cFr ?kFr ?c5 ?aIE ?lIE ?cIE ?kIE ?aPD ?lPD ?cPD ?kPD ?aRD ?lRD ?cRD ?kRD ?aEV ?lEV ?cEV ?kEV ?aPI ?lPI ?cPI ?kPI ?aFO ?lFO ?cFO ?kFO ?aPR ?lPR ?cPR ?kPR ?aME ?lME ?cME ?kME ?aND ?lND ?cND ?kND ?nd1 ?nd2 ?ape ?lpe ?cpe ?kpe ?adr ?ldr ?cdr ?kdr ?api ?lpi ?cpi ?kpi ?aev ?lev ?cev ?kev ?amo ?lmo ?cmo ?kmo ?awo ?lwo ?cwo ?kwo ?apa ?lpa ?cpa ?kpa ?afi ?lfi ?cfi ?kfi ?ama ?lma ?cma ?kma ?ahe ?lhe ?che ?khe ?amn ?lmn ?cmn ?kmn ?afa_ ?lfa_ ?cfa_ ?kfa_ ?ato ?lto ?cto ?kto ?ali ?lli ?cli ?kli ?abe ?lbe ?cbe ?kbe ?ala ?lla ?cla ?kla ?air ?lir ?cir ?kir ?q1ir ?q2ir ?q3ir ?q4ir ?q5ir ?arf ?lrf ?crf ?krf ?q1rf ?q2rf ?q3rf ?q4rf ?q5rf ?alo ?llo ?clo ?klo ?q1lo ?q2lo ?q3lo ?q4lo ?q5lo ?dA ?dB ?dC (PySem.W.km_tabs_of Y)
    (case z_isinstance => k_is); (case z_str => k_is); (case z_len => k_is); (case z_all => k_is); (case z_int => k_is); (case z_abs => k_is); (case z_list => k_is)
    (case z_range => k_is); (case z_enumerate => k_is); (case z_tuple => k_is); (case z_sorted => k_is); (case z_repr => k_is); (case z_reversed => k_is); (case gS => k_is)
    (case gM => k_is); (case gW => k_is); (case u1P => k_is); (case u2P => k_is); (case u3P => exact .cons ⟨_, rfl⟩ (.cons ⟨_, rfl⟩ (.cons ⟨_, rfl⟩ (.cons ⟨_, rfl⟩ .nil))))
    (case u1Q => k_is); (case u2Q => k_is); (case u3Q => exact .cons ⟨_, rfl⟩ (.cons ⟨_, rfl⟩ (.cons ⟨_, rfl⟩ (.cons ⟨_, rfl⟩ .nil)))); (case d1 => k_is); (case d2 => k_is)
    (case d3 => rfl)
    (case d4 => exact (.cons (Tm.ent_is rfl) (.cons (Tm.ent_is rfl) (.cons (Tm.ent_is rfl) (.cons (Tm.ent_is rfl) (.cons (Tm.ent_is rfl) (.cons (Tm.ent_is rfl) (.cons (Tm.ent_is rfl) (.cons (Tm.ent_is rfl) (.cons (Tm.ent_is rfl) (.cons (Tm.ent_is rfl) (.cons (Tm.ent_is rfl) (.cons (Tm.ent_is rfl) .nil)))))))))))))
    (case se => k_is); (case e1BT => k_is); (case e2BT => k_is); (case e3BT => rfl); (case e4BT => k_is); (case e5BT => k_is); (case e6BT => k_is); (case e7BT => k_is)
    (case aIBT => k_is); (case lIBT => k_is); (case cIBT => k_is); (case kIBT => k_is); (case e8BT => k_is); (case n0BT => k_is); (case x1BT => k_is); (case x2BT => k_is)
    (case x3BT => k_is); (case x4BT => k_is); (case x5BT => k_is); (case x6BT => rfl); (case x7BT => kit_is); (case e1BX => k_is); (case e2BX => k_is); (case e3BX => rfl)
    (case e4BX => k_is); (case e5BX => k_is); (case e6BX => k_is); (case e7BX => k_is); (case aIBX => k_is); (case lIBX => k_is); (case cIBX => k_is); (case kIBX => k_is)
    (case e8BX => k_is); (case n0BX => k_is); (case n1BX => k_is); (case x1BX => k_is); (case x2BX => k_is); (case x3BX => k_is); (case x4BX => k_is); (case x5BX => k_is)
    (case x6BX => rfl); (case x7BX => kit_is); (case e1TM => k_is); (case e2TM => k_is); (case e3TM => rfl); (case e4TM => k_is); (case e5TM => k_is); (case e6TM => k_is)
    (case e7TM => k_is); (case aITM => k_is); (case lITM => k_is); (case cITM => k_is); (case kITM => k_is); (case e8TM => k_is); (case n0TM => k_is); (case n1TM => k_is)
    (case x1TM => k_is); (case x2TM => k_is); (case x3TM => k_is); (case x4TM => k_is); (case x5TM => k_is); (case x6TM => rfl); (case x7TM => kit_is); (case ytt => kit_is)
    (case ytx => kit_is); (case ytq => kit_is); (case yxt => kit_is); (case yxx => kit_is); (case yxq => kit_is); (case yqt => kit_is); (case yqx => kit_is)
    (case yqq => kit_is); (case oc1 => k_is); (case oc2 => k_is); (case t1 => k_is); (case pg => k_is); (case hd => k_is); (case po => k_is); (case sa => k_is)
    (case ha => k_is); (case hm => k_is); (case na_word => k_is); (case na_parts => k_is); (case na_words => k_is); (case kT => kit_is); (case kn_NoneType => kit_is)
    (case kn_bool => kit_is); (case kn_int => kit_is); (case kn_str => kit_is); (case kn_list => kit_is); (case kn_tuple => kit_is); (case kn_dict => kit_is)
    (case kc_str => kit_is); (case kc_tuple => kit_is); (case up_NoneType => k_is); (case dn_NoneType => k_is); (case up_bool => k_is); (case dn_bool => k_is)
    (case up_int => k_is); (case dn_int => k_is); (case up_str => k_is); (case dn_str => k_is); (case up_list => k_is); (case dn_list => k_is); (case up_tuple => k_is)
    (case dn_tuple => k_is); (case up_dict => k_is); (case dn_dict => k_is); (case mk => k_is); (case kC => k_is); (case sf => k_is); (case aTi => k_is); (case lTi => k_is)
    (case cTi => k_is); (case kTi => k_is); (case iTi => k_is); (case aAn => k_is); (case lAn => k_is); (case cAn => k_is); (case kAn => k_is); (case iAn => k_is)
    (case aOr => k_is); (case lOr => k_is); (case cOr => k_is); (case kOr => k_is); (case iOr => k_is); (case aIn => k_is); (case lIn => k_is); (case cIn => k_is)
    (case kIn => k_is); (case iIn => k_is); (case aEq => k_is); (case lEq => k_is); (case cEq => k_is); (case kEq => k_is); (case iEq => k_is); (case aSt => k_is)
    (case lSt => k_is); (case cSt => k_is); (case kSt => k_is); (case iSt => k_is); (case ne => k_is); (case rA => k_is); (case rO => k_is)
    (case c1 => exact (show PySem.W.readsIn _ _ (.type "type") = true by k_is)); (case c2 => k_is); (case c3 => k_is); (case c4 => k_is); (case lFr => k_is); (case cFr => k_is)
    (case kFr => k_is); (case c5 => k_is); (case aIE => k_is); (case lIE => k_is); (case cIE => k_is); (case kIE => k_is); (case aPD => k_is); (case lPD => k_is)
    (case cPD => k_is); (case kPD => k_is); (case aRD => k_is); (case lRD => k_is); (case cRD => k_is); (case kRD => k_is); (case aEV => k_is); (case lEV => k_is)
    (case cEV => k_is); (case kEV => k_is); (case aPI => k_is); (case lPI => k_is); (case cPI => k_is); (case kPI => k_is); (case aFO => k_is); (case lFO => k_is)
    (case cFO => k_is); (case kFO => k_is); (case aPR => k_is); (case lPR => k_is); (case cPR => k_is); (case kPR => k_is); (case aME => k_is); (case lME => k_is)
    (case cME => k_is); (case kME => k_is); (case aND => k_is); (case lND => k_is); (case cND => k_is); (case kND => k_is); (case nd1 => k_is)
    (case nd2 => exact .cons ⟨_, rfl⟩ .nil); (case ape => k_is); (case lpe => k_is); (case cpe => k_is); (case kpe => k_is); (case adr => k_is); (case ldr => k_is)
    (case cdr => k_is); (case kdr => k_is); (case api => k_is); (case lpi => k_is); (case cpi => k_is); (case kpi => k_is); (case aev => k_is); (case lev => k_is)
    (case cev => k_is); (case kev => k_is); (case amo => k_is); (case lmo => k_is); (case cmo => k_is); (case kmo => k_is); (case awo => k_is); (case lwo => k_is)
    (case cwo => k_is); (case kwo => k_is); (case apa => k_is); (case lpa => k_is); (case cpa => k_is); (case kpa => k_is); (case afi => k_is); (case lfi => k_is)
    (case cfi => k_is); (case kfi => k_is); (case ama => k_is); (case lma => k_is); (case cma => k_is); (case kma => k_is); (case ahe => k_is); (case lhe => k_is)
    (case che => k_is); (case khe => k_is); (case amn => k_is); (case lmn => k_is); (case cmn => k_is); (case kmn => k_is); (case afa_ => k_is); (case lfa_ => k_is)
    (case cfa_ => k_is); (case kfa_ => k_is); (case ato => k_is); (case lto => k_is); (case cto => k_is); (case kto => k_is); (case ali => k_is); (case lli => k_is)
    (case cli => k_is); (case kli => k_is); (case abe => k_is); (case lbe => k_is); (case cbe => k_is); (case kbe => k_is); (case ala => k_is); (case lla => k_is)
    (case cla => k_is); (case kla => k_is); (case air => k_is); (case lir => k_is); (case cir => k_is); (case kir => k_is); (case q1ir => k_is); (case q2ir => rfl)
    (case q3ir => rfl); (case q4ir => rfl); (case q5ir => decide); (case arf => k_is); (case lrf => k_is); (case crf => k_is); (case krf => k_is); (case q1rf => k_is)
    (case q2rf => rfl); (case q3rf => rfl); (case q4rf => rfl); (case q5rf => decide); (case alo => k_is); (case llo => k_is); (case clo => k_is); (case klo => k_is)
    (case q1lo => k_is); (case q2lo => rfl); (case q3lo => rfl); (case q4lo => rfl); (case q5lo => decide); (case dA => decide); (case dB => decide); (case dC => decide)
